import PyProof.Rows.All
import Wide.All
import OpenK.AllK
import Wide.FinOn
import HandS.ForMost
import HandS.TupAny
import HandS.TupMul
import HandS.Wide
import HandS.Flow
import HandS.IsInst
import HandS.Deep
import PyProof.ReprRoads
import PyProof.CallFns
import HandS.FStr
import HandS.Exc
import HandS.WordsExc
import HandS.CallSlots
import HandS.Defaults
import HandS.TryOnly
import HandS.ExcInit
import HandS.CallLocal
import KE.KUnpackStar
import PyProof.MakeMany
import KE.KExcIs
import HandS.ExcIs
import HandS.ExcField
import HandS.HeadEnd
import HandS.EndBits
import HandS.Iter
import HandS.Style
import HandS.HeadHook2
import KE.KStateDown
import Lean
import HandS.Head0
import HandS.Head1
import HandS.Head2
import HandS.HeadHook1
import HandS.Text
import HandS.ExcBuiltin
import PySem.Challenge.RW_outleap_k87_points_and_maps_as_texts
set_option Elab.async false
set_option linter.all false
set_option maxRecDepth 100000
set_option maxHeartbeats 4000000
namespace DL
open PySem PySem.Spec PyProof.Rows L2

/-- a value with its content: what never changes is told whole, what may change by its address -/
inductive D where
  | non | bl (b : Bool) | int (i : Int) | str (x : Str) | ty (n : String)
  | tup (xs : List D) | lst (xs : List D) | scr (xs : List D) | dct (ks : List Key) (vs : List D) | ins (C : Addr) (fs : List Str) (vs : List D) | obj (a : Addr)
/-- what may change -/
inductive MC where
  | lst (xs : List D) | dct (ks : List Key) (vs : List D) | ins (C : Addr) (fs : List Str) (vs : List D) | hid | exc (C : Addr) (ks : List Str) (vs : List D)
abbrev Mu := Addr → Option MC
def put (m : Mu) (a : Addr) (c : MC) : Mu := fun b => if b = a then some c else m b
def del (m : Mu) (a : Addr) : Mu := fun b => if b = a then none else m b
theorem put_same {m : Mu} {a : Addr} {c : MC} : put m a c a = some c := if_pos rfl
theorem put_ne {m : Mu} {a b : Addr} {c : MC} (h : b ≠ a) : put m a c b = m b := if_neg h
theorem del_same {m : Mu} {a : Addr} : del m a a = none := if_pos rfl
theorem del_ne {m : Mu} {a b : Addr} (h : b ≠ a) : del m a b = m b := if_neg h
theorem put_put {m : Mu} {a : Addr} {c d : MC} : put (put m a c) a d = put m a d := by
  funext b; unfold put; split <;> rfl
theorem del_put {m : Mu} {a : Addr} {c : MC} (h : m a = none) : del (put m a c) a = m := by
  funext b
  by_cases e : b = a
  · rw [e, del_same, h]
  · rw [del_ne e, put_ne e]
theorem mu_ne {m : Mu} {a b : Addr} {c : MC} (h : m a = some c) (h' : m b = none) : a ≠ b := fun e => by rw [e, h'] at h; cases h

abbrev FragK := PySem.W.Frag
/-- a tuple, a list, to be read: it stands, or is written in the text -/
def TpAt (K : FragK) (m : Mu) (H : Hp) (a : Addr) (xs : List V) : Prop := (m a = none ∧ Rd H a (.tup xs)) ∨
  ∃ (o : Obj) (its : Array Value) (n : Nat), K.lookup a = some o ∧ o.cls = .type "tuple" ∧ o.data = .seq its n ∧ its.size ≤ sizeLine ∧ Vals xs its.toList
def LsAt (K : FragK) (m : Mu) (H : Hp) (a : Addr) (xs : List V) : Prop := (m a = none ∧ Rd H a (.lst xs)) ∨
  ∃ (o : Obj) (its : Array Value) (n : Nat), K.lookup a = some o ∧ o.cls = .type "list" ∧ o.dict = none ∧ o.data = .seq its n ∧ its.size ≤ sizeLine ∧ Vals xs its.toList
theorem TpAt.sq {K : FragK} {m : Mu} {H : Hp} {a : Addr} {xs : List V} (h : TpAt K m H a xs) : SqT K H a xs := h.imp (fun z => z.2) id
theorem LsAt.sq {K : FragK} {m : Mu} {H : Hp} {a : Addr} {xs : List V} (h : LsAt K m H a xs) : SqL K H a xs := h.imp (fun z => z.2) id
mutual
inductive Has (K : FragK) (m : Mu) (H : Hp) : V → D → Prop
  | non : Has K m H .non .non
  | bl (b : Bool) : Has K m H (.bl b) (.bl b)
  | int (i : Int) : Has K m H (.int i) (.int i)
  | str (x : Str) : Has K m H (.str x) (.str x)
  | ty (n : String) : Has K m H (.ty n) (.ty n)
  | obj (a : Addr) : Has K m H (.ref a) (.obj a)
  | tup {a : Addr} {xs : List V} {ds : List D} : TpAt K m H a xs → HasAll K m H xs ds → Has K m H (.ref a) (.tup ds)
  | lst {a : Addr} {xs : List V} {ds : List D} : H a = some (.lst xs) → m a = none → HasAll K m H xs ds → Has K m H (.ref a) (.lst ds)
  | scr {a : Addr} {xs : List V} {ds : List D} : LsAt K m H a xs → HasAll K m H xs ds → Has K m H (.ref a) (.scr ds)
  | dct {a : Addr} {kvs : List (Key × V)} {ds : List D} : H a = some (.dK kvs) → m a = none → HasAll K m H (kvs.map (·.2)) ds → Has K m H (.ref a) (.dct (kvs.map (·.1)) ds)
  | ins {a C dx : Addr} {fs : List (Str × V)} {ds : List D} : H a = some (.ins C dx fs) → m a = none → HasAll K m H (fs.map (·.2)) ds → Has K m H (.ref a) (.ins C (fs.map (·.1)) ds)
inductive HasAll (K : FragK) (m : Mu) (H : Hp) : List V → List D → Prop
  | nil : HasAll K m H [] []
  | cons {v : V} {vs : List V} {d : D} {ds : List D} : Has K m H v d → HasAll K m H vs ds → HasAll K m H (v :: vs) (d :: ds)
end
/-- an exception's fields -/
def ExF (K : FragK) (m : Mu) (H : Hp) (d : Option Addr) (ks : List Str) (vs : List D) : Prop := (d = none ∧ ks = [] ∧ vs = []) ∨
  ∃ (dx : Addr) (kvs : List (Str × V)), d = some dx ∧ H dx = some (.xd kvs) ∧ m dx = none ∧ kvs.map (·.1) = ks ∧ HasAll K m H (kvs.map (·.2)) vs
/-- an exception that was caught and is held by a name -/
def ExcO (C : Addr) (d : Option Addr) (a : Addr) : HO := .ext fun h => ∃ (oe : Obj) (us : Array Value), h.get? a = some oe ∧ (oe.cls = .ref C ∧ oe.dict = d) ∧ oe.data = .fields us
/-- what an object that may change holds -/
def HasM (K : FragK) (m : Mu) (H : Hp) (a : Addr) : MC → Prop
  | .lst ds => ∃ xs, H a = some (.lst xs) ∧ HasAll K m H xs ds
  | .dct ks ds => ∃ kvs, H a = some (.dK kvs) ∧ kvs.map (·.1) = ks ∧ HasAll K m H (kvs.map (·.2)) ds
  | .ins C fs ds => ∃ dx kvs, H a = some (.ins C dx kvs) ∧ kvs.map (·.1) = fs ∧ HasAll K m H (kvs.map (·.2)) ds
  | .hid => ∃ o, H a = some o
  | .exc C ks ds => ∃ d, H a = some (ExcO C d a) ∧ ExF K m H d ks ds
def MuOk (K : FragK) (m : Mu) (H : Hp) : Prop := ∀ a c, m a = some c → HasM K m H a c
theorem HasM.there {K : FragK} {m : Mu} {H : Hp} {a : Addr} {c : MC} (h : HasM K m H a c) : ∃ o, H a = some o := by
  cases c with
  | lst ds => obtain ⟨xs, e, _⟩ := h; exact ⟨_, e⟩
  | dct ks ds => obtain ⟨xs, e, _⟩ := h; exact ⟨_, e⟩
  | ins C fs ds => obtain ⟨dx, xs, e, _⟩ := h; exact ⟨_, e⟩
  | hid => exact h
  | exc C ks ds => obtain ⟨d, e, _⟩ := h; exact ⟨_, e⟩
theorem MuOk.free {K : FragK} {m : Mu} {H : Hp} {a : Addr} (k : MuOk K m H) (h : H a = none) : m a = none := by
  cases e : m a with
  | none => rfl
  | some c =>
    obtain ⟨o, q⟩ := (k a c e).there
    rw [h] at q; cases q
/-- all that stood still stands; what is hidden (a list that a comprehension makes) is not touched -/
def GrowI (m : Mu) (H : Hp) (m' : Mu) (H' : Hp) : Prop := ∀ a o, H a = some o → m a = none → H' a = some o ∧ m' a = none
def Grow (m : Mu) (H : Hp) (m' : Mu) (H' : Hp) : Prop := GrowI m H m' H' ∧ ∀ a, m a = some .hid → m' a = some .hid ∧ H' a = H a
theorem GrowI.refl (m : Mu) (H : Hp) : GrowI m H m H := fun _ _ e n => ⟨e, n⟩
theorem GrowI.trans {m m1 m2 : Mu} {H H1 H2 : Hp} (a : GrowI m H m1 H1) (b : GrowI m1 H1 m2 H2) : GrowI m H m2 H2 :=
  fun x o e n => b x o (a x o e n).1 (a x o e n).2
theorem Grow.refl (m : Mu) (H : Hp) : Grow m H m H := ⟨.refl _ _, fun _ h => ⟨h, rfl⟩⟩
theorem Grow.trans {m m1 m2 : Mu} {H H1 H2 : Hp} (a : Grow m H m1 H1) (b : Grow m1 H1 m2 H2) : Grow m H m2 H2 :=
  ⟨a.1.trans b.1, fun x h => ⟨(b.2 x (a.2 x h).1).1, ((b.2 x (a.2 x h).1).2).trans (a.2 x h).2⟩⟩
/-- a new object (what is hidden stands) -/
theorem Grow.new {K : FragK} {m : Mu} {H : Hp} {p : Addr} {o : HO} (k : MuOk K m H) (h : H p = none) : Grow m H m (upd H p o) := by
  refine ⟨fun a u e n => ⟨by rw [upd_ne (ne_of_none e h)]; exact e, n⟩, fun a e => ⟨e, ?_⟩⟩
  obtain ⟨u, q⟩ := (k a _ e).there
  exact upd_ne (ne_of_none q h)
theorem Grow.newM {K : FragK} {m : Mu} {H : Hp} {p : Addr} {o : HO} {c : MC} (k : MuOk K m H) (h : H p = none) : Grow m H (put m p c) (upd H p o) := by
  refine ⟨fun a u e n => ?_, fun a e => ?_⟩
  · have ne := ne_of_none e h
    exact ⟨by rw [upd_ne ne]; exact e, by rw [put_ne ne]; exact n⟩
  · obtain ⟨u, q⟩ := (k a _ e).there
    have ne := ne_of_none q h
    exact ⟨by rw [put_ne ne]; exact e, upd_ne ne⟩
/-- what may change is changed -/
theorem Grow.wr {m : Mu} {H : Hp} {p : Addr} {o : HO} {c c' : MC} (h : m p = some c) (hc : c ≠ .hid) : Grow m H (put m p c') (upd H p o) := by
  refine ⟨fun a u e n => ?_, fun a e => ?_⟩
  · have ne : a ≠ p := fun z => by rw [z, h] at n; cases n
    exact ⟨by rw [upd_ne ne]; exact e, by rw [put_ne ne]; exact n⟩
  · have ne : a ≠ p := fun z => by rw [z, h] at e; cases e; exact hc rfl
    exact ⟨by rw [put_ne ne]; exact e, upd_ne ne⟩
theorem Grow.fz {m : Mu} {H : Hp} {p : Addr} {c : MC} (h : m p = some c) (hc : c ≠ .hid) : Grow m H (del m p) H := by
  refine ⟨fun a u e n => ⟨e, ?_⟩, fun a e => ⟨?_, rfl⟩⟩
  · by_cases z : a = p
    · rw [z, del_same]
    · rw [del_ne z]; exact n
  · have ne : a ≠ p := fun z => by rw [z, h] at e; cases e; exact hc rfl
    rw [del_ne ne]; exact e
section
variable {K : FragK} {m m' : Mu} {H H' : Hp}
theorem GrowI.rd (g : GrowI m H m' H') {a : Addr} {u : HO} (n : m a = none) (h : Rd H a u) : m' a = none ∧ Rd H' a u := by
  rcases h with e | ⟨o, e⟩
  · exact ⟨(g _ _ e n).2, .inl (g _ _ e n).1⟩
  · exact ⟨(g _ _ e n).2, .inr ⟨o, (g _ _ e n).1⟩⟩
theorem TpAt.monoI (g : GrowI m H m' H') {a : Addr} {xs : List V} (h : TpAt K m H a xs) : TpAt K m' H' a xs := h.imp (fun z => g.rd z.1 z.2) id
theorem LsAt.monoI (g : GrowI m H m' H') {a : Addr} {xs : List V} (h : LsAt K m H a xs) : LsAt K m' H' a xs := h.imp (fun z => g.rd z.1 z.2) id
mutual
theorem Has.monoI (g : GrowI m H m' H') : ∀ (d : D) (v : V), Has K m H v d → Has K m' H' v d
  | .non, _, .non => .non
  | .bl _, _, .bl _ => .bl _
  | .int _, _, .int _ => .int _
  | .str _, _, .str _ => .str _
  | .ty _, _, .ty _ => .ty _
  | .obj _, _, .obj _ => .obj _
  | .tup ds, _, .tup hs ha => .tup (hs.monoI g) (HasAll.monoI g ds _ ha)
  | .lst ds, _, .lst hs n ha => .lst (g _ _ hs n).1 (g _ _ hs n).2 (HasAll.monoI g ds _ ha)
  | .scr ds, _, .scr hs ha => .scr (hs.monoI g) (HasAll.monoI g ds _ ha)
  | .dct _ ds, _, .dct hs n ha => .dct (g _ _ hs n).1 (g _ _ hs n).2 (HasAll.monoI g ds _ ha)
  | .ins _ _ ds, _, .ins hs n ha => .ins (g _ _ hs n).1 (g _ _ hs n).2 (HasAll.monoI g ds _ ha)
theorem HasAll.monoI (g : GrowI m H m' H') : ∀ (ds : List D) (vs : List V), HasAll K m H vs ds → HasAll K m' H' vs ds
  | [], _, .nil => .nil
  | d :: ds, _, .cons h t => .cons (Has.monoI g d _ h) (HasAll.monoI g ds _ t)
end
theorem TpAt.mono (g : Grow m H m' H') {a : Addr} {xs : List V} (h : TpAt K m H a xs) : TpAt K m' H' a xs := h.monoI g.1
theorem LsAt.mono (g : Grow m H m' H') {a : Addr} {xs : List V} (h : LsAt K m H a xs) : LsAt K m' H' a xs := h.monoI g.1
theorem Has.mono (g : Grow m H m' H') {d : D} {v : V} (h : Has K m H v d) : Has K m' H' v d := Has.monoI g.1 d v h
theorem HasAll.mono (g : Grow m H m' H') {ds : List D} {vs : List V} (h : HasAll K m H vs ds) : HasAll K m' H' vs ds := HasAll.monoI g.1 ds vs h
theorem HasAll.length : ∀ {ds : List D} {vs : List V}, HasAll K m H vs ds → vs.length = ds.length
  | [], _, .nil => rfl
  | _ :: _, _, .cons _ t => congrArg Nat.succ (HasAll.length t)
theorem HasAll.get : ∀ {ds : List D} {vs : List V} {i : Nat} {d : D}, HasAll K m H vs ds → ds[i]? = some d → ∃ v, vs[i]? = some v ∧ Has K m H v d
  | [], _, i, _, .nil, e => by simp at e
  | _ :: _, _, 0, _, .cons h _, e => by
    simp only [List.getElem?_cons_zero, Option.some.injEq] at e
    subst e
    exact ⟨_, rfl, h⟩
  | _ :: _, _, i + 1, _, .cons _ t, e => by
    simp only [List.getElem?_cons_succ] at e
    obtain ⟨v, a, b⟩ := HasAll.get (i := i) t e
    exact ⟨v, by simpa using a, b⟩
theorem HasAll.getV : ∀ {ds : List D} {vs : List V} {i : Nat} {v : V}, HasAll K m H vs ds → vs[i]? = some v → ∃ d, ds[i]? = some d ∧ Has K m H v d
  | [], _, i, _, .nil, e => by simp at e
  | _ :: _, _, 0, _, .cons h _, e => by
    simp only [List.getElem?_cons_zero, Option.some.injEq] at e
    subst e
    exact ⟨_, rfl, h⟩
  | _ :: _, _, i + 1, _, .cons _ t, e => by
    simp only [List.getElem?_cons_succ] at e
    obtain ⟨v, a, b⟩ := HasAll.getV (i := i) t e
    exact ⟨v, by simpa using a, b⟩
theorem HasAll.append : ∀ {ds es : List D} {vs us : List V}, HasAll K m H vs ds → HasAll K m H us es → HasAll K m H (vs ++ us) (ds ++ es)
  | [], _, _, _, .nil, s => s
  | _ :: _, _, _, _, .cons h t, s => .cons h (HasAll.append t s)
theorem HasAll.take : ∀ {ds : List D} {vs : List V} (n : Nat), HasAll K m H vs ds → HasAll K m H (vs.take n) (ds.take n)
  | _, _, 0, _ => .nil
  | [], _, _ + 1, .nil => .nil
  | _ :: _, _, n + 1, .cons h t => .cons h (HasAll.take n t)
theorem HasAll.drop : ∀ {ds : List D} {vs : List V} (n : Nat), HasAll K m H vs ds → HasAll K m H (vs.drop n) (ds.drop n)
  | _, _, 0, s => s
  | [], _, _ + 1, .nil => .nil
  | _ :: _, _, n + 1, .cons _ t => HasAll.drop n t
theorem HasAll.set {v : V} {d : D} (r : Has K m H v d) : ∀ {ds : List D} {vs : List V} (i : Nat), HasAll K m H vs ds → HasAll K m H (vs.set i v) (ds.set i d)
  | [], _, _, .nil => .nil
  | _ :: _, _, 0, .cons _ t => .cons r t
  | _ :: _, _, i + 1, .cons q t => .cons q (HasAll.set r i t)
theorem ExF.monoI (g : GrowI m H m' H') {d : Option Addr} {ks : List Str} {vs : List D} (h : ExF K m H d ks vs) : ExF K m' H' d ks vs := by
  rcases h with h | ⟨dx, kvs, e, e1, e2, e3, r⟩
  · exact .inl h
  · exact .inr ⟨dx, kvs, e, (g _ _ e1 e2).1, (g _ _ e1 e2).2, e3, HasAll.monoI g _ _ r⟩
theorem HasM.monoI (g : GrowI m H m' H') {a : Addr} {c : MC} (e : H' a = H a) (h : HasM K m H a c) : HasM K m' H' a c := by
  cases c with
  | lst ds => obtain ⟨xs, q, r⟩ := h; exact ⟨xs, e.trans q, HasAll.monoI g _ _ r⟩
  | dct ks ds => obtain ⟨xs, q, z, r⟩ := h; exact ⟨xs, e.trans q, z, HasAll.monoI g _ _ r⟩
  | ins C fs ds => obtain ⟨dx, xs, q, z, r⟩ := h; exact ⟨dx, xs, e.trans q, z, HasAll.monoI g _ _ r⟩
  | hid => obtain ⟨o, q⟩ := h; exact ⟨o, e.trans q⟩
  | exc C ks ds => obtain ⟨d, q, r⟩ := h; exact ⟨d, e.trans q, r.monoI g⟩
/-- a new object that does not change -/
theorem MuOk.new {p : Addr} {o : HO} (k : MuOk K m H) (h : H p = none) : MuOk K m (upd H p o) := fun a c e => by
  obtain ⟨u, q⟩ := (k a c e).there
  exact (k a c e).monoI (Grow.new k h).1 (upd_ne (ne_of_none q h))
/-- a new object that may change -/
theorem MuOk.newM {p : Addr} {o : HO} {c : MC} (k : MuOk K m H) (h : H p = none) (q : HasM K (put m p c) (upd H p o) p c) : MuOk K (put m p c) (upd H p o) := fun a c' e => by
  by_cases z : a = p
  · subst z
    rw [put_same] at e
    cases e
    exact q
  · rw [put_ne z] at e
    exact (k a c' e).monoI (Grow.newM k h).1 (upd_ne z)
theorem GrowI.wr {p : Addr} {o : HO} {c c' : MC} (h : m p = some c) : GrowI m H (put m p c') (upd H p o) := fun a u e n => by
  have ne : a ≠ p := fun z => by rw [z, h] at n; cases n
  exact ⟨by rw [upd_ne ne]; exact e, by rw [put_ne ne]; exact n⟩
theorem MuOk.wr {p : Addr} {o : HO} {c c' : MC} (k : MuOk K m H) (h : m p = some c) (q : HasM K (put m p c') (upd H p o) p c') : MuOk K (put m p c') (upd H p o) := fun a d e => by
  by_cases z : a = p
  · subst z
    rw [put_same] at e
    cases e
    exact q
  · rw [put_ne z] at e
    exact (k a d e).monoI (GrowI.wr h) (upd_ne z)
theorem GrowI.fz {p : Addr} : GrowI m H (DL.del m p) H := fun a u e n => by
  refine ⟨e, ?_⟩
  by_cases z : a = p
  · rw [z, del_same]
  · rw [del_ne z]; exact n
theorem MuOk.fz {p : Addr} (k : MuOk K m H) : MuOk K (DL.del m p) H := fun a d e => by
  by_cases z : a = p
  · subst z
    rw [del_same] at e
    cases e
  · rw [del_ne z] at e
    exact (k a d e).monoI GrowI.fz rfl
end

/-! ### the names' values -/
abbrev DSt := List (Option D)
def DEnv (K : FragK) (m : Mu) (H : Hp) (σ : L2.St) (δ : DSt) : Prop := σ.length = δ.length ∧ ∀ (i : Nat) (d : D), δ[i]? = some (some d) → ∃ v, σ[i]? = some (some v) ∧ Has K m H v d
theorem DEnv.mono {K : FragK} {m m' : Mu} {H H' : Hp} {σ : L2.St} {δ : DSt} (e : DEnv K m H σ δ) (g : Grow m H m' H') : DEnv K m' H' σ δ :=
  ⟨e.1, fun i d q => let ⟨v, a, b⟩ := e.2 i d q; ⟨v, a, b.mono g⟩⟩
theorem DEnv.set {K : FragK} {m : Mu} {H : Hp} {σ : L2.St} {δ : DSt} {v : V} {d : D} (e : DEnv K m H σ δ) (i : Nat) (h : Has K m H v d) : DEnv K m H (σ.set i (some v)) (δ.set i (some d)) := by
  refine ⟨by rw [List.length_set, List.length_set]; exact e.1, fun j u q => ?_⟩
  by_cases z : i = j
  · subst z
    rw [List.getElem?_set] at q ⊢
    rw [if_pos rfl] at q ⊢
    rw [e.1]
    split at q
    · rename_i hl
      rw [if_pos hl]
      cases q
      exact ⟨v, rfl, h⟩
    · cases q
  · rw [List.getElem?_set_ne z] at q ⊢
    exact e.2 j u q
theorem DEnv.weak {K : FragK} {m : Mu} {H : Hp} {σ : L2.St} {δ δ' : DSt} (e : DEnv K m H σ δ) (hl : δ'.length = δ.length) (w : ∀ (i : Nat) (d : D), δ'[i]? = some (some d) → δ[i]? = some (some d)) : DEnv K m H σ δ' :=
  ⟨e.1.trans hl.symm, fun i d q => e.2 i d (w i d q)⟩
@[simp] def startD (N : List Str) (ds : List D) : DSt := ds.map some ++ List.replicate (N.length - ds.length) none
theorem denv_start {K : FragK} {m : Mu} {H : Hp} {N : List Str} {vs : List V} {ds : List D} (h : HasAll K m H vs ds) : DEnv K m H (L2.start N vs) (startD N ds) := by
  have hl := h.length
  refine ⟨by unfold L2.start startD; simp [hl], fun i d q => ?_⟩
  unfold startD at q
  unfold L2.start
  by_cases hi : i < ds.length
  · rw [List.getElem?_append_left (by simpa using hi)] at q
    rw [List.getElem?_map] at q
    cases e : ds[i]? with
    | none => rw [e] at q; cases q
    | some u =>
      rw [e] at q
      have z : u = d := by simpa using q
      subst z
      obtain ⟨v, a, b⟩ := h.get e
      refine ⟨v, ?_, b⟩
      rw [List.getElem?_append_left (by simp; omega), List.getElem?_map, a]
      rfl
  · rw [List.getElem?_append_right (by simpa using hi)] at q
    have := List.mem_of_getElem? q
    have z := List.eq_of_mem_replicate this
    cases z
end DL

namespace DL
open PySem PySem.Spec PyProof.Rows L2

abbrev DQ := D → Mu → Prop
abbrev DE := DSt → Mu → DQ → Prop
abbrev DT := DSt → Mu → (Bool → Mu → Prop) → Prop
abbrev DA := DSt → Mu → (List D → Mu → Prop) → Prop
abbrev Bs := Mu × Hp

/-- what a continuation over values takes from one over data -/
def Lands (K : FragK) (m : Mu) (H : Hp) (Q : DQ) (Q' : VK) : Prop := ∀ (v : V) (H' : Hp) (d : D) (m' : Mu), Grow m H m' H' → MuOk K m' H' → Has K m' H' v d → Q d m' → Q' v H'
def LandsT (K : FragK) (m : Mu) (H : Hp) (Q : Bool → Mu → Prop) (Q' : Bool → Hp → Prop) : Prop := ∀ (b : Bool) (H' : Hp) (m' : Mu), Grow m H m' H' → MuOk K m' H' → Q b m' → Q' b H'
def LandsA (K : FragK) (m : Mu) (H : Hp) (Q : List D → Mu → Prop) (Q' : List V → Hp → Prop) : Prop := ∀ (vs : List V) (H' : Hp) (ds : List D) (m' : Mu), Grow m H m' H' → MuOk K m' H' → HasAll K m' H' vs ds → Q ds m' → Q' vs H'
def RefE (K : FragK) (B : Bs) (t : TE) (n : DE) : Prop := ∀ (σ : L2.St) (H : Hp) (δ : DSt) (m : Mu) (Q : DQ) (Q' : VK), Grow B.1 B.2 m H → MuOk K m H → DEnv K m H σ δ → n δ m Q → Lands K m H Q Q' → t σ H Q'
def RefT (K : FragK) (B : Bs) (t : TT) (n : DT) : Prop := ∀ (σ : L2.St) (H : Hp) (δ : DSt) (m : Mu) (Q : Bool → Mu → Prop) (Q' : Bool → Hp → Prop), Grow B.1 B.2 m H → MuOk K m H → DEnv K m H σ δ → n δ m Q → LandsT K m H Q Q' → t σ H Q'
def RefA (K : FragK) (B : Bs) (t : TA) (n : DA) : Prop := ∀ (σ : L2.St) (H : Hp) (δ : DSt) (m : Mu) (Q : List D → Mu → Prop) (Q' : List V → Hp → Prop), Grow B.1 B.2 m H → MuOk K m H → DEnv K m H σ δ → n δ m Q → LandsA K m H Q Q' → t σ H Q'
structure EE (X : Cx) (B : Bs) (e : Expr) (n : DE) : Prop where
  ex : ∃ t, PE X e t ∧ RefE X.K B t n
structure ET (X : Cx) (B : Bs) (e : Expr) (n : DT) : Prop where
  ex : ∃ t, PT X e t ∧ RefT X.K B t n
structure EW (X : Cx) (B : Bs) (e : Expr) (n : DT) : Prop where
  ex : ∃ t, PW X e t ∧ RefT X.K B t n
structure EA (X : Cx) (B : Bs) (es : List Expr) (n : DA) : Prop where
  ex : ∃ t, PA X es t ∧ RefA X.K B t n
abbrev DO2 := D → D → Mu → DQ → Prop
def RefO (K : FragK) (r : R2) (g : DO2) : Prop := ∀ (x y : V) (H : Hp) (dx dy : D) (m : Mu) (Q : DQ) (Q' : VK), MuOk K m H → Has K m H x dx → Has K m H y dy → g dx dy m Q → Lands K m H Q Q' → r x y H Q'
structure OpD (X : Cx) (f : Value → Value → Sem Value) (g : DO2) : Prop where
  ex : ∃ r, OpR X f r ∧ RefO X.K r g
structure IxD (X : Cx) (g : DO2) : Prop where
  ex : ∃ r, IxR X r ∧ RefO X.K r g
abbrev DO1 := List D → Mu → DQ → Prop
def RefC (K : FragK) (r : List V → Hp → VK → Prop) (g : DO1) : Prop := ∀ (xs : List V) (H : Hp) (ds : List D) (m : Mu) (Q : DQ) (Q' : VK), MuOk K m H → HasAll K m H xs ds → g ds m Q → Lands K m H Q Q' → r xs H Q'
structure CallD (X : Cx) (f : Value) (g : DO1) : Prop where
  ex : ∃ r, CallR X f r ∧ RefC X.K r g

section
variable {K : FragK} {m m' : Mu} {H H' : Hp} {Q : DQ} {Q' : VK}
theorem Lands.at (l : Lands K m H Q Q') (k : MuOk K m H) {v : V} {d : D} (h : Has K m H v d) (q : Q d m) : Q' v H := l v H d m (Grow.refl _ _) k h q
theorem Lands.new (l : Lands K m H Q Q') (k : MuOk K m H) {p : Addr} {o : HO} (hp : H p = none) {d : D} (h : Has K m (upd H p o) (.ref p) d) (q : Q d m) : Q' (.ref p) (upd H p o) :=
  l _ _ d m (Grow.new k hp) (k.new hp) h q
theorem HasAll.one {v : V} {ds : List D} (h : HasAll K m H [v] ds) : ∃ d, ds = [d] ∧ Has K m H v d := by
  cases h with
  | cons h t => cases t; exact ⟨_, rfl, h⟩
theorem HasAll.ones {vs : List V} {d : D} (h : HasAll K m H vs [d]) : ∃ v, vs = [v] ∧ Has K m H v d := by
  cases h with
  | cons h t => cases t; exact ⟨_, rfl, h⟩
theorem HasAll.twos {vs : List V} {d e : D} (h : HasAll K m H vs [d, e]) : ∃ v u, vs = [v, u] ∧ Has K m H v d ∧ Has K m H u e := by
  cases h with
  | cons h t =>
    cases t with
    | cons h' t => cases t; exact ⟨_, _, rfl, h, h'⟩
theorem Has.tup_new {p : Addr} {xs : List V} {ds : List D} (k : MuOk K m H) (hp : H p = none) (ha : HasAll K m H xs ds) : Has K m (upd H p (.tup xs)) (.ref p) (.tup ds) :=
  .tup (.inl ⟨k.free hp, .inl upd_same⟩) (ha.mono (Grow.new k hp))
theorem Has.lst_new {p : Addr} {xs : List V} {ds : List D} (k : MuOk K m H) (hp : H p = none) (ha : HasAll K m H xs ds) : Has K m (upd H p (.lst xs)) (.ref p) (.lst ds) :=
  .lst upd_same (k.free hp) (ha.mono (Grow.new k hp))
theorem hasAll_ints {m : Mu} {H : Hp} : ∀ {ns : List Int} {vs : List V}, HasAll K m H vs (ns.map D.int) → vs = ns.map V.int
  | [], _, .nil => rfl
  | _ :: _, _, .cons h t => by cases h; rw [hasAll_ints t]; rfl
theorem hasAll_bls {m : Mu} {H : Hp} : ∀ {ns : List Bool} {vs : List V}, HasAll K m H vs (ns.map D.bl) → vs = ns.map V.bl
  | [], _, .nil => rfl
  | _ :: _, _, .cons h t => by cases h; rw [hasAll_bls t]; rfl
theorem hasAll_strs {m : Mu} {H : Hp} : ∀ {ns : List Str} {vs : List V}, HasAll K m H vs (ns.map D.str) → vs = ns.map V.str
  | [], _, .nil => rfl
  | _ :: _, _, .cons h t => by cases h; rw [hasAll_strs t]; rfl
theorem hasAll_of_ints {m : Mu} {H : Hp} : ∀ (ns : List Int), HasAll K m H (ns.map V.int) (ns.map D.int)
  | [] => .nil
  | _ :: r => .cons (.int _) (hasAll_of_ints r)
theorem hasAll_of_strs {m : Mu} {H : Hp} : ∀ (ns : List Str), HasAll K m H (ns.map V.str) (ns.map D.str)
  | [] => .nil
  | _ :: r => .cons (.str _) (hasAll_of_strs r)
end

/-! ### names, constants -/
@[simp] def dVar (i : Nat) : DE := fun δ m Q => match δ[i]? with
  | some (some d) => Q d m
  | _ => False
@[simp] def dC (d : D) : DE := fun _ m Q => Q d m
section
variable {X : Cx} {B : Bs} {pos : Pos} {a b e : Expr} {es : List Expr} {ma mb mc me : DE}
theorem ev {x : Str} (i : Nat) (hN : X.N[i]? = some x := by rfl) (hv : Vis X.env.scope x := by first | exact Or.inl rfl | exact Or.inr (Or.inl rfl) | exact Or.inr (Or.inr rfl)) (hd : (x == ("__debug__" : Str)) = false := by decide)
    (hcd : (x == ("__classdict__" : Str)) = false := by decide) : EE X B (.Name x pos) (dVar i) :=
  ⟨_, pe_var hN hv hd hcd, fun σ H δ m Q Q' _ k e q l => by
    unfold dVar at q
    split at q
    · rename_i d hi
      obtain ⟨v, hv, h⟩ := e.2 i d hi
      exact ⟨v, hv, l.at k h q⟩
    · exact q.elim⟩
theorem ec {e : Expr} {v : V} {d : D} (h : PE X e (tC v)) (r : ∀ m H, Has X.K m H v d) : EE X B e (dC d) := ⟨_, h, fun σ H δ m Q Q' _ k _ q l => l.at k (r m H) q⟩
theorem ee_int {i j} : EE X B (.Constant (.int i) j pos) (dC (.int i)) := ec pe_int fun _ _ => .int _
theorem ee_bl {i j} : EE X B (.Constant (.bool i) j pos) (dC (.bl i)) := ec pe_bl fun _ _ => .bl _
theorem ee_non {j} : EE X B (.Constant .none j pos) (dC .non) := ec pe_non fun _ _ => .non
theorem ee_str {i j} : EE X B (.Constant (.str i) j pos) (dC (.str i)) := ec pe_str fun _ _ => .str _
theorem ee_ty {x : Str} {n : String} (hg : Gl X x) (hm : X.mg x = none) (hv : bootBuiltins x = some (.type n)) (hn : x ≠ "__name__" := by decide) (hd : (x == ("__debug__" : Str)) = false := by decide) : EE X B (.Name x pos) (dC (.ty n)) :=
  ec (pe_bltn (v := .ty n) hg hm hv rfl hn hd) fun _ _ => .ty _
theorem ee_gint {x : Str} {i : Int} (hg : Gl X x) (hm : ∃ t, X.mg x = some (.int i t)) (hd : (x == ("__debug__" : Str)) = false := by decide) : EE X B (.Name x pos) (dC (.int i)) := by
  obtain ⟨t, hm⟩ := hm
  exact ec (pe_glob (v := .int i) hg hm ⟨t, rfl⟩ hd) fun _ _ => .int _
theorem ee_gstr {x : Str} {i : Str} (hg : Gl X x) (hm : ∃ t, X.mg x = some (.str i t)) (hd : (x == ("__debug__" : Str)) = false := by decide) : EE X B (.Name x pos) (dC (.str i)) := by
  obtain ⟨t, hm⟩ := hm
  exact ec (pe_glob (v := .str i) hg hm ⟨t, rfl⟩ hd) fun _ _ => .str _
/-- a def, a class: its address -/
theorem ee_gobj {x : Str} {p : Addr} (hg : Gl X x) (hm : X.mg x = some (.ref p)) (hd : (x == ("__debug__" : Str)) = false := by decide) : EE X B (.Name x pos) (dC (.obj p)) :=
  ec (pe_glob (v := .ref p) hg hm rfl hd) fun _ _ => .obj _

/-! ### operators -/
@[simp] def dOp (g : DO2) (ma mb : DE) : DE := fun δ m Q => ma δ m fun x m1 => mb δ m1 fun y m2 => g x y m2 Q
theorem ref_op {ta tb : TE} {r : R2} {g : DO2} {K : FragK} (ra : RefE K B ta ma) (rb : RefE K B tb mb) (rr : RefO K r g) : RefE K B (tOp r ta tb) (dOp g ma mb) :=
  fun σ H δ m Q Q' gb k en q l => ra σ H δ m _ _ gb k en q fun v H1 d m1 g1 k1 h1 q1 => rb σ H1 δ m1 _ _ (gb.trans g1) k1 (en.mono g1) q1 fun u H2 d2 m2 g2 k2 h2 q2 =>
    rr v u H2 d d2 m2 Q Q' k2 (h1.mono g2) h2 q2 fun v' H3 d3 m3 g3 k3 h3 q3 => l v' H3 d3 m3 ((g1.trans g2).trans g3) k3 h3 q3
theorem ee_op {op : Operator} {g : DO2} (ho : OpD X (binaryOp op) g) (ha : EE X B a ma) (hb : EE X B b mb) : EE X B (.BinOp a op b pos) (dOp g ma mb) := by
  obtain ⟨ta, pa, ra⟩ := ha
  obtain ⟨tb, pb, rb⟩ := hb
  obtain ⟨r, po, rr⟩ := ho
  exact ⟨_, pe_op po pa pb, ref_op ra rb rr⟩
/-- one of two kinds -/
theorem RefO.left {K : FragK} {r r' : R2} {g : DO2} (h : RefO K r g) : RefO K (fun x y H Q => r x y H Q ∨ r' x y H Q) g := fun x y H dx dy m Q Q' k a b q l => .inl (h x y H dx dy m Q Q' k a b q l)
theorem OpD.or {f : Value → Value → Sem Value} {g g' : DO2} (h : OpD X f g) (h' : OpD X f g') : OpD X f (fun x y m Q => g x y m Q ∨ g' x y m Q) := by
  obtain ⟨r, p, a⟩ := h
  obtain ⟨r', p', a'⟩ := h'
  exact ⟨_, OpR.or p p', fun x y H dx dy m Q Q' k h1 h2 q l => q.imp (fun z => a x y H dx dy m Q Q' k h1 h2 z l) fun z => a' x y H dx dy m Q Q' k h1 h2 z l⟩
theorem OpD.imp {f : Value → Value → Sem Value} {g g' : DO2} (h : OpD X f g) (i : ∀ x y m Q, g' x y m Q → g x y m Q) : OpD X f g' := by
  obtain ⟨r, p, a⟩ := h
  exact ⟨r, p, fun x y H dx dy m Q Q' k h1 h2 q l => a x y H dx dy m Q Q' k h1 h2 (i _ _ _ _ q) l⟩
@[simp] def gI (C : Int → Int → Prop) (f : Int → Int → D) : DO2 := fun x y m Q => match x, y with
  | .int i, .int j => C i j ∧ Q (f i j) m
  | _, _ => False
theorem refO_I {K : FragK} {C : Int → Int → Prop} {f : Int → Int → V} {f' : Int → Int → D} (hf : ∀ i j m H, Has K m H (f i j) (f' i j)) : RefO K (rI C f) (gI C f') := by
  intro x y H dx dy m Q Q' k h1 h2 q l
  unfold gI at q
  split at q
  · cases h1
    cases h2
    exact ⟨_, _, rfl, rfl, q.1, l.at k (hf _ _ _ _) q.2⟩
  · exact q.elim
theorem refO_I0 {K : FragK} {f : Int → Int → V} {f' : Int → Int → D} (hf : ∀ i j m H, Has K m H (f i j) (f' i j)) : RefO K (rI0 f) (gI (fun _ _ => True) f') := by
  intro x y H dx dy m Q Q' k h1 h2 q l
  unfold gI at q
  split at q
  · cases h1
    cases h2
    exact ⟨_, _, rfl, rfl, l.at k (hf _ _ _ _) q.2⟩
  · exact q.elim

/-- + -/
@[simp] def oAdd : DO2 := fun x y m Q => match x, y with
  | .int i, .int j => Q (.int (i + j)) m
  | .str i, .str j => i.length + j.length ≤ sizeLine ∧ Q (.str (i ++ j)) m
  | .lst xs, .lst ys => xs.length + ys.length ≤ sizeLine ∧ Q (.lst (xs ++ ys)) m
  | .tup xs, .tup ys => xs.length + ys.length ≤ sizeLine ∧ Q (.tup (xs ++ ys)) m
  | _, _ => False
theorem od_add : OpD X (binaryOp .Add) oAdd := by
  refine ⟨_, OpR.or op_add (OpR.or op_add_str (OpR.or op_cat op_catA)), ?_⟩
  intro x y H dx dy m Q Q' k h1 h2 q l
  unfold oAdd at q
  split at q
  · cases h1; cases h2
    exact .inl ⟨_, _, rfl, rfl, l.at k (.int _) q⟩
  · cases h1; cases h2
    exact .inr (.inl ⟨_, _, rfl, rfl, q.1, l.at k (.str _) q.2⟩)
  · cases h1 with
    | lst a1 n1 c1 =>
      cases h2 with
      | lst a2 n2 c2 =>
        refine .inr (.inr (.inl ⟨_, _, _, _, rfl, rfl, a1, a2, by rw [c1.length, c2.length]; exact q.1, fun p hp => ?_⟩))
        exact l.new k hp (Has.lst_new k hp (c1.append c2)) q.2
  · cases h1 with
    | tup a1 c1 =>
      cases h2 with
      | tup a2 c2 =>
        refine .inr (.inr (.inr ⟨_, _, _, _, rfl, rfl, a1.sq, a2.sq, by rw [c1.length, c2.length]; exact q.1, fun e => ?_, fun e e' => ?_, fun e e' p hp => ?_⟩))
        · subst e
          cases c1
          exact l.at k (.tup a2 c2) q.2
        · subst e'
          cases c2
          refine l.at k (.tup a1 (ds := _ ++ []) ?_) q.2
          rw [List.append_nil]
          exact c1
        · exact l.new k hp (Has.tup_new k hp (c1.append c2)) q.2
  · exact q.elim
@[simp] def oSub : DO2 := fun x y m Q => match x, y with
  | .int i, .int j => Q (.int (i - j)) m
  | _, _ => False
theorem od_sub : OpD X (binaryOp .Sub) oSub := OpD.imp (g := gI (fun _ _ => True) fun i j => .int (i - j)) ⟨_, op_sub, refO_I0 fun _ _ _ _ => .int _⟩ fun x y m Q q => by
  unfold oSub at q
  split at q
  · exact ⟨True.intro, q⟩
  · exact q.elim
/-- the product's size is in hand -/
def MulOk (i j : Int) : Prop := CMul i j ∨ CMulW i j
@[simp] def oMul : DO2 := fun x y m Q => match x, y with
  | .int i, .int j => MulOk i j ∧ Q (.int (i * j)) m
  | .lst xs, .int j => (-(2 ^ 63) ≤ j ∧ j < 2 ^ 63 ∧ xs.length * j.toNat ≤ sizeLine) ∧ Q (.lst (List.replicate j.toNat xs).flatten) m
  | _, _ => False
theorem hasAll_rep {K : FragK} {m : Mu} {H : Hp} {vs : List V} {ds : List D} (h : HasAll K m H vs ds) : ∀ n : Nat, HasAll K m H (List.replicate n vs).flatten (List.replicate n ds).flatten
  | 0 => .nil
  | n + 1 => by
    rw [List.replicate_succ, List.replicate_succ, List.flatten_cons, List.flatten_cons]
    exact h.append (hasAll_rep h n)
theorem od_mul : OpD X (binaryOp .Mult) oMul := by
  refine ⟨_, OpR.or op_mul (OpR.or op_mulW op_rep), ?_⟩
  intro x y H dx dy m Q Q' k h1 h2 q l
  unfold oMul at q
  split at q
  · cases h1; cases h2
    rcases q.1 with c | c
    · exact .inl ⟨_, _, rfl, rfl, c, l.at k (.int _) q.2⟩
    · exact .inr (.inl ⟨_, _, rfl, rfl, c, l.at k (.int _) q.2⟩)
  · cases h2
    cases h1 with
    | lst a1 n1 c1 =>
      exact .inr (.inr ⟨_, _, _, rfl, rfl, a1, q.1.1, q.1.2.1, by rw [c1.length]; exact q.1.2.2, fun p hp => l.new k hp (Has.lst_new k hp (hasAll_rep c1 _)) q.2⟩)
  · exact q.elim
def DivOk (i j : Int) : Prop := CDivN i j ∨ CDivW i j
@[simp] def oDiv : DO2 := fun x y m Q => match x, y with
  | .int i, .int j => DivOk i j ∧ Q (.int (i.fdiv j)) m
  | _, _ => False
theorem od_div : OpD X (binaryOp .FloorDiv) oDiv := by
  refine ⟨_, OpR.or op_fdivN op_fdivW, ?_⟩
  intro x y H dx dy m Q Q' k h1 h2 q l
  unfold oDiv at q
  split at q
  · cases h1; cases h2
    rcases q.1 with c | c
    · exact .inl ⟨_, _, rfl, rfl, c, l.at k (.int _) q.2⟩
    · rename_i i j
      refine .inr ⟨_, _, rfl, rfl, c, l.at k (d := .int (i.fdiv j)) ?_ q.2⟩
      rw [Int.fdiv_eq_ediv_of_nonneg i (by have := c.1; omega)]
      exact .int _
  · exact q.elim
@[simp] def oMod : DO2 := fun x y m Q => match x, y with
  | .int i, .int j => j ≠ 0 ∧ Q (.int (i.fmod j)) m
  | _, _ => False
theorem od_mod : OpD X (binaryOp .Mod) oMod := OpD.imp (g := gI (fun _ j => j ≠ 0) fun i j => .int (i.fmod j)) ⟨_, op_modN, refO_I fun _ _ _ _ => .int _⟩ fun x y m Q q => by
  unfold oMod at q
  split at q
  · exact q
  · exact q.elim
@[simp] def oPow : DO2 := fun x y m Q => match x, y with
  | .int i, .int j => CPow i j ∧ Q (.int (i ^ j.toNat)) m
  | _, _ => False
theorem od_pow : OpD X (binaryOp .Pow) oPow := OpD.imp (g := gI CPow fun i j => .int (i ^ j.toNat)) ⟨_, op_pow, refO_I fun _ _ _ _ => .int _⟩ fun x y m Q q => by
  unfold oPow at q
  split at q
  · exact q
  · exact q.elim
@[simp] def dNeg (ma : DE) : DE := fun δ m Q => ma δ m fun x m1 => match x with
  | .int i => Q (.int (-i)) m1
  | _ => False
theorem ee_neg (ha : EE X B a ma) : EE X B (.UnaryOp .USub a pos) (dNeg ma) := by
  obtain ⟨ta, pa, ra⟩ := ha
  refine ⟨_, pe_un un_neg pa, fun σ H δ m Q Q' gb k en q l => ra σ H δ m _ _ gb k en q fun v H1 d m1 g1 k1 h1 q1 => ?_⟩
  split at q1
  · cases h1
    exact ⟨_, rfl, l _ _ _ _ g1 k1 (.int _) q1⟩
  · exact q1.elim

/-! ### data as a whole -/
mutual
@[simp] def toP : D → Option PyData
  | .non => some .none
  | .bl b => some (.bool b)
  | .int i => some (.int i)
  | .str x => some (.str x)
  | .lst xs => (toPs xs).map PyData.list
  | .tup xs => (toPs xs).map PyData.tuple
  | _ => none
@[simp] def toPs : List D → Option (List PyData)
  | [] => some []
  | d :: ds => match toP d, toPs ds with
    | some p, some ps => some (p :: ps)
    | _, _ => none
end
mutual
theorem Has.dp {K : FragK} {m : Mu} {H : Hp} : ∀ (d : D) (v : V) (p : PyData), toP d = some p → Has K m H v d → Dp K H v p
  | .non, _, p, e, .non => by cases e; exact .non
  | .bl b, _, p, e, .bl _ => by cases e; exact .bl b
  | .int b, _, p, e, .int _ => by cases e; exact .int b
  | .str b, _, p, e, .str _ => by cases e; exact .str b
  | .lst ds, _, p, e, .lst h n ha => by
    unfold toP at e
    cases q : toPs ds with
    | none => rw [q] at e; cases e
    | some ps =>
      rw [q] at e
      cases e
      exact .lst (SqL.of h) (HasAll.dp ds _ ps q ha)
  | .tup ds, _, p, e, .tup h ha => by
    unfold toP at e
    cases q : toPs ds with
    | none => rw [q] at e; cases e
    | some ps =>
      rw [q] at e
      cases e
      exact .tup h.sq (HasAll.dp ds _ ps q ha)
theorem HasAll.dp {K : FragK} {m : Mu} {H : Hp} : ∀ (ds : List D) (vs : List V) (ps : List PyData), toPs ds = some ps → HasAll K m H vs ds → DpAll K H vs ps
  | [], _, ps, e, .nil => by
    unfold toPs at e
    cases e
    exact .nil
  | d :: ds, _, ps, e, .cons h t => by
    unfold toPs at e
    split at e
    · rename_i p ps' e1 e2
      cases e
      exact .cons (Has.dp d _ p e1 h) (HasAll.dp ds _ ps' e2 t)
    · cases e
end
/-- == -/
@[simp] def gEq (f : Bool → Bool) : DO2 := fun x y m Q => ∃ p q, toP x = some p ∧ toP y = some q ∧ SeqAt.shaped p = true ∧ SeqAt.shaped q = true ∧ Q (.bl (f (PyData.eqv p q))) m
theorem od_eq (hu : X.A.units + 64 < cLine) : OpD X (compareOp .Eq) (gEq id) := by
  refine ⟨_, op_eqD hu, ?_⟩
  rintro x y H dx dy m Q Q' k h1 h2 ⟨p, q, e1, e2, s1, s2, c⟩ l
  exact ⟨p, q, Has.dp _ _ _ e1 h1, Has.dp _ _ _ e2 h2, s1, s2, l.at k (.bl _) c⟩
theorem od_ne (hu : X.A.units + 64 < cLine) : OpD X (compareOp .NotEq) (gEq not) := by
  refine ⟨_, op_neD hu, ?_⟩
  rintro x y H dx dy m Q Q' k h1 h2 ⟨p, q, e1, e2, s1, s2, c⟩ l
  exact ⟨p, q, Has.dp _ _ _ e1 h1, Has.dp _ _ _ e2 h2, s1, s2, l.at k (.bl _) c⟩
@[simp] def oLt : DO2 := gI (fun _ _ => True) fun i j => .bl (decide (i < j))
@[simp] def oLe : DO2 := gI (fun _ _ => True) fun i j => .bl (decide (i ≤ j))
@[simp] def oGt : DO2 := gI (fun _ _ => True) fun i j => .bl (decide (j < i))
@[simp] def oGe : DO2 := gI (fun _ _ => True) fun i j => .bl (decide (j ≤ i))
theorem od_lt : OpD X (compareOp .Lt) oLt := ⟨_, op_lt, refO_I0 fun _ _ _ _ => .bl _⟩
theorem od_le : OpD X (compareOp .LtE) oLe := ⟨_, op_le, refO_I0 fun _ _ _ _ => .bl _⟩
theorem od_gt : OpD X (compareOp .Gt) oGt := ⟨_, op_gt, refO_I0 fun _ _ _ _ => .bl _⟩
theorem od_ge : OpD X (compareOp .GtE) oGe := ⟨_, op_ge, refO_I0 fun _ _ _ _ => .bl _⟩
@[simp] def isNon : D → Bool
  | .non => true
  | _ => false
theorem Has.isNon {K : FragK} {m : Mu} {H : Hp} {v : V} {d : D} (h : Has K m H v d) : decide (v = .non) = isNon d := by
  cases h <;> rfl
@[simp] def oIs (f : Bool → Bool) : DO2 := fun x y m Q => match y with
  | .non => Q (.bl (f (DL.isNon x))) m
  | _ => False
theorem od_is : OpD X (compareOp .Is) (oIs id) := by
  refine ⟨_, op_isN, ?_⟩
  intro x y H dx dy m Q Q' k h1 h2 q l
  unfold oIs at q
  split at q
  · cases h2
    refine ⟨rfl, l.at k (d := .bl (isNon dx)) ?_ q⟩
    rw [h1.isNon]
    exact .bl _
  · exact q.elim
theorem od_isnot : OpD X (compareOp .IsNot) (oIs not) := by
  refine ⟨_, op_notN, ?_⟩
  intro x y H dx dy m Q Q' k h1 h2 q l
  unfold oIs at q
  split at q
  · cases h2
    refine ⟨rfl, l.at k (d := .bl (!isNon dx)) ?_ q⟩
    rw [h1.isNon]
    exact .bl _
  · exact q.elim
/-- in: data in a list or a tuple of data; a sign in a text -/
@[simp] def oIn (f : Bool → Bool) : DO2 := fun x y m Q => match x, y with
  | .str a, .str z => ∃ c, a = ⟨#[c]⟩ ∧ Q (.bl (f (decide (c ∈ z.cps.toList)))) m
  | x, .lst ys => ∃ p ps, toP x = some p ∧ toPs ys = some ps ∧ SeqAt.shaped p = true ∧ SeqAt.shaped (.list ps) = true ∧ Q (.bl (f (ps.any fun z => PyData.eqv z p))) m
  | x, .tup ys => ∃ p ps, toP x = some p ∧ toPs ys = some ps ∧ SeqAt.shaped p = true ∧ SeqAt.shaped (.tuple ps) = true ∧ Q (.bl (f (ps.any fun z => PyData.eqv z p))) m
  | _, _ => False
theorem toPs_lst {ys : List D} {ps : List PyData} (h : toPs ys = some ps) : toP (.lst ys) = some (.list ps) := by
  unfold toP
  rw [h]
  rfl
theorem toPs_tup {ys : List D} {ps : List PyData} (h : toPs ys = some ps) : toP (.tup ys) = some (.tuple ps) := by
  unfold toP
  rw [h]
  rfl
def rInTp (K : FragK) (f : Bool → Bool) : R2 := fun x y H Q => ∃ d ds, Dp K H x d ∧ Dp K H y (.tuple ds) ∧ SeqAt.shaped d = true ∧ SeqAt.shaped (.tuple ds) = true ∧ Q (.bl (f (ds.any fun z => PyData.eqv z d))) H
theorem op_inTp (hu : X.A.units + 65 < cLine) : OpR X (compareOp .In) (rInTp X.K id) := by
  rintro pins s σ H x y v u Q I rx ry ⟨d, ds, hd, he, sd, se, q⟩
  obtain ⟨as, r1⟩ := Dp.reads I d x v hd rx
  obtain ⟨bs, r2⟩ := Dp.reads I (.tuple ds) y u he ry
  exact SeqAt.in_tuple_reads r2 r1 (SeqAt.canLay_of_shaped se) (SeqAt.canLay_of_shaped sd) (room_in_shaped sd hu) ⟨.bl _, H, I, rfl, q⟩
theorem op_notInTp (hu : X.A.units + 65 < cLine) : OpR X (compareOp .NotIn) (rInTp X.K not) := by
  rintro pins s σ H x y v u Q I rx ry ⟨d, ds, hd, he, sd, se, q⟩
  obtain ⟨as, r1⟩ := Dp.reads I d x v hd rx
  obtain ⟨bs, r2⟩ := Dp.reads I (.tuple ds) y u he ry
  exact SeqAt.notIn_tuple_reads r2 r1 (SeqAt.canLay_of_shaped se) (SeqAt.canLay_of_shaped sd) (room_in_shaped sd hu) ⟨.bl _, H, I, rfl, q⟩
theorem od_in (hu : X.A.units + 65 < cLine) : OpD X (compareOp .In) (oIn id) := by
  refine ⟨_, OpR.or op_in_sign (OpR.or (op_inD hu) (op_inTp hu)), ?_⟩
  intro x y H dx dy m Q Q' k h1 h2 q l
  unfold oIn at q
  split at q
  · obtain ⟨c, rfl, q⟩ := q
    cases h1; cases h2
    exact .inl ⟨_, _, rfl, rfl, l.at k (.bl _) q⟩
  · obtain ⟨p, ps, e1, e2, s1, s2, q⟩ := q
    exact .inr (.inl ⟨_, _, Has.dp _ _ _ e1 h1, Has.dp _ _ _ (toPs_lst e2) h2, s1, s2, l.at k (.bl _) q⟩)
  · obtain ⟨p, ps, e1, e2, s1, s2, q⟩ := q
    exact .inr (.inr ⟨_, _, Has.dp _ _ _ e1 h1, Has.dp _ _ _ (toPs_tup e2) h2, s1, s2, l.at k (.bl _) q⟩)
  · exact q.elim
theorem od_notin (hu : X.A.units + 65 < cLine) : OpD X (compareOp .NotIn) (oIn not) := by
  refine ⟨_, OpR.or op_notIn_sign (OpR.or (op_notInD hu) (op_notInTp hu)), ?_⟩
  intro x y H dx dy m Q Q' k h1 h2 q l
  unfold oIn at q
  split at q
  · obtain ⟨c, rfl, q⟩ := q
    cases h1; cases h2
    exact .inl ⟨_, _, rfl, rfl, l.at k (.bl _) q⟩
  · obtain ⟨p, ps, e1, e2, s1, s2, q⟩ := q
    exact .inr (.inl ⟨_, _, Has.dp _ _ _ e1 h1, Has.dp _ _ _ (toPs_lst e2) h2, s1, s2, l.at k (.bl _) q⟩)
  · obtain ⟨p, ps, e1, e2, s1, s2, q⟩ := q
    exact .inr (.inr ⟨_, _, Has.dp _ _ _ e1 h1, Has.dp _ _ _ (toPs_tup e2) h2, s1, s2, l.at k (.bl _) q⟩)
  · exact q.elim
/-- a comparison as a value, as a test -/
theorem ee_cmp {op : CmpOp} {g : DO2} (ho : OpD X (compareOp op) g) (ha : EE X B a ma) (hb : EE X B b mb) (hm : behindInMarks op b = false := by first | exact nomark _ | rfl) : EE X B (.Compare a [op] [b] pos) (dOp g ma mb) := by
  obtain ⟨ta, pa, ra⟩ := ha
  obtain ⟨tb, pb, rb⟩ := hb
  obtain ⟨r, po, rr⟩ := ho
  exact ⟨_, pe_cmpR po pa pb hm, ref_op ra rb rr⟩
@[simp] def dTest (me : DE) : DT := fun δ m Q => me δ m fun x m1 => match x with
  | .bl b => Q b m1
  | _ => False
theorem ref_test {K : FragK} {t : TE} (r : RefE K B t me) : RefT K B (tTest t) (dTest me) := fun σ H δ m Q Q' gb k en q l => r σ H δ m _ _ gb k en q fun v H1 d m1 g1 k1 h1 q1 => by
  split at q1
  · cases h1
    exact ⟨_, rfl, l _ _ _ g1 k1 q1⟩
  · exact q1.elim
theorem et_cmp {op : CmpOp} {g : DO2} (ho : OpD X (compareOp op) g) (ha : EE X B a ma) (hb : EE X B b mb) (hm : behindInMarks op b = false := by first | exact nomark _ | rfl) : ET X B (.Compare a [op] [b] pos) (dTest (dOp g ma mb)) := by
  obtain ⟨ta, pa, ra⟩ := ha
  obtain ⟨tb, pb, rb⟩ := hb
  obtain ⟨r, po, rr⟩ := ho
  exact ⟨_, pt_cmpR po pa pb hm, ref_test (ref_op ra rb rr)⟩
/-- a < b < c -/
@[simp] def dChain (g g' : DO2) (ma mb mc : DE) : DE := fun δ m Q => ma δ m fun x m1 => mb δ m1 fun y m2 => g x y m2 fun z m3 => match z with
  | .bl true => mc δ m3 fun w m4 => g' y w m4 Q
  | .bl false => Q (.bl false) m3
  | _ => False
theorem ref_chain {K : FragK} {ta tb tc : TE} {r r' : R2} {g g' : DO2} (ra : RefE K B ta ma) (rb : RefE K B tb mb) (rc : RefE K B tc mc) (rr : RefO K r g) (rr' : RefO K r' g') : RefE K B (tChain r r' ta tb tc) (dChain g g' ma mb mc) :=
  fun σ H δ m Q Q' gb k en q l => ra σ H δ m _ _ gb k en q fun v H1 d m1 g1 k1 h1 q1 => rb σ H1 δ m1 _ _ (gb.trans g1) k1 (en.mono g1) q1 fun u H2 d2 m2 g2 k2 h2 q2 =>
    rr v u H2 d d2 m2 _ _ k2 (h1.mono g2) h2 q2 fun z H3 d3 m3 g3 k3 h3 q3 => by
      have gg := (g1.trans g2).trans g3
      split at q3
      · cases h3
        refine ⟨true, rfl, ?_⟩
        rw [if_pos rfl]
        exact rc σ H3 δ m3 _ _ (gb.trans gg) k3 (en.mono gg) q3 fun w H4 d4 m4 g4 k4 h4 q4 => rr' u w H4 d2 d4 m4 _ _ k4 ((h2.mono g3).mono g4) h4 q4 fun v5 H5 d5 m5 g5 k5 h5 q5 => l _ _ _ _ ((gg.trans g4).trans g5) k5 h5 q5
      · cases h3
        refine ⟨false, rfl, ?_⟩
        rw [if_neg Bool.false_ne_true]
        exact l _ _ _ _ gg k3 (.bl _) q3
      · exact q3.elim
end
end DL

namespace DL
open PySem PySem.Spec PyProof.Rows L2
section
variable {X : Cx} {B : Bs} {pos : Pos} {a b c e : Expr} {es rest : List Expr} {ma mb mc me : DE} {ta tb : DT} {na : DA}

theorem ee_chain {op op' : CmpOp} {g g' : DO2} (ho : OpD X (compareOp op) g) (ho' : OpD X (compareOp op') g') (ha : EE X B a ma) (hb : EE X B b mb) (hc : EE X B c mc) (hm : lastMarks [op, op'] [b, c] = false := by with_unfolding_all rfl) :
    EE X B (.Compare a [op, op'] [b, c] pos) (dChain g g' ma mb mc) := by
  obtain ⟨_, pa, ra⟩ := ha
  obtain ⟨_, pb, rb⟩ := hb
  obtain ⟨_, pc, rc⟩ := hc
  obtain ⟨_, po, rr⟩ := ho
  obtain ⟨_, po', rr'⟩ := ho'
  exact ⟨_, pe_chain po po' pa pb pc hm, ref_chain ra rb rc rr rr'⟩
theorem et_chain {op op' : CmpOp} {g g' : DO2} (ho : OpD X (compareOp op) g) (ho' : OpD X (compareOp op') g') (ha : EE X B a ma) (hb : EE X B b mb) (hc : EE X B c mc) (hm : lastMarks [op, op'] [b, c] = false := by with_unfolding_all rfl) :
    ET X B (.Compare a [op, op'] [b, c] pos) (dTest (dChain g g' ma mb mc)) := by
  obtain ⟨_, pa, ra⟩ := ha
  obtain ⟨_, pb, rb⟩ := hb
  obtain ⟨_, pc, rc⟩ := hc
  obtain ⟨_, po, rr⟩ := ho
  obtain ⟨_, po', rr'⟩ := ho'
  exact ⟨_, pt_chain po po' pa pb pc hm, ref_test (ref_chain ra rb rc rr rr')⟩

/-! ### truth -/
/-- what a value's truth is -/
@[simp] def truD : D → (Bool → Prop) → Prop := fun d k => match d with
  | .non => k false
  | .bl b => k b
  | .int i => k (i != 0)
  | .str x => x.length ≤ sizeLine ∧ k (x.length != 0)
  | .tup xs => k (!xs.isEmpty)
  | .lst xs => k (!xs.isEmpty)
  | .scr xs => k (!xs.isEmpty)
  | .dct ks _ => k (!ks.isEmpty)
  | _ => False
theorem Has.tru {K : FragK} {m : Mu} {H : Hp} {v : V} {d : D} {k : Bool → Prop} (h : Has K m H v d) (t : truD d k) : ∃ b, TruV K v H b ∧ k b := by
  cases h with
  | non => exact ⟨false, rfl, t⟩
  | bl b => exact ⟨b, rfl, t⟩
  | int i => exact ⟨_, rfl, t⟩
  | str x =>
    refine ⟨_, ⟨t.1, rfl⟩, ?_⟩
    have e : (((x.length : Nat) : Int) != 0) = (x.length != 0) := by
      rw [Bool.eq_iff_iff]
      simp only [bne_iff_ne]
      omega
    rw [e]
    exact t.2
  | @tup p xs ds hs ha =>
    have e : xs.isEmpty = ds.isEmpty := by cases ha <;> rfl
    exact ⟨_, .inr (.inl ⟨_, hs.sq, rfl⟩), by rw [e]; exact t⟩
  | @lst p xs ds hs n ha =>
    have e : xs.isEmpty = ds.isEmpty := by cases ha <;> rfl
    exact ⟨_, .inl ⟨_, SqL.of hs, rfl⟩, by rw [e]; exact t⟩
  | @scr p xs ds hs ha =>
    have e : xs.isEmpty = ds.isEmpty := by cases ha <;> rfl
    exact ⟨_, .inl ⟨_, hs.sq, rfl⟩, by rw [e]; exact t⟩
  | @dct p kvs ds hs n ha =>
    have e : (kvs.map (·.1)).isEmpty = kvs.isEmpty := by cases kvs <;> rfl
    exact ⟨_, .inr (.inr ⟨_, hs, rfl⟩), by rw [← e]; exact t⟩
  | ty n => exact t.elim
  | obj a => exact t.elim
  | ins => exact t.elim
@[simp] def dTru (me : DE) : DT := fun δ m Q => me δ m fun x m1 => truD x fun b => Q b m1
theorem et_tru (ha : EE X B a ma) (he : ∀ whole, isTrue a X.env whole = (do let v ← whole; standAt a.pos; holding [v] (truthy v)) := by intro _; rfl) : ET X B a (dTru ma) := by
  obtain ⟨_, pa, ra⟩ := ha
  refine ⟨_, pt_truth pa he, fun σ H δ m Q Q' gb k en q l => ra σ H δ m _ _ gb k en q fun v H1 d m1 g1 k1 h1 q1 => ?_⟩
  obtain ⟨b, t, q⟩ := h1.tru q1
  exact ⟨b, t, l _ _ _ g1 k1 q⟩
@[simp] def dAnd (ta tb : DT) : DT := fun δ m Q => ta δ m fun c m1 => match c with
  | true => tb δ m1 Q
  | false => Q false m1
@[simp] def dOr (ta tb : DT) : DT := fun δ m Q => ta δ m fun c m1 => match c with
  | true => Q true m1
  | false => tb δ m1 Q
@[simp] def dNot (ta : DT) : DT := fun δ m Q => ta δ m fun c m1 => Q (!c) m1
theorem EW.et (h : EW X B a ta) : ET X B a ta := by
  obtain ⟨_, p, r⟩ := h
  exact ⟨_, p.pt, r⟩
theorem ew_and1 (h : ET X B a ta) : EW X B (.BoolOp .And [a] pos) ta := by
  obtain ⟨_, p, r⟩ := h
  exact ⟨_, pw_and1 p, r⟩
theorem ew_or1 (h : ET X B a ta) : EW X B (.BoolOp .Or [a] pos) ta := by
  obtain ⟨_, p, r⟩ := h
  exact ⟨_, pw_or1 p, r⟩
theorem ew_and (h : ET X B a ta) (h2 : EW X B (.BoolOp .And (b :: rest) pos) tb) : EW X B (.BoolOp .And (a :: b :: rest) pos) (dAnd ta tb) := by
  obtain ⟨_, p, r⟩ := h
  obtain ⟨_, p2, r2⟩ := h2
  refine ⟨_, pw_and p p2, fun σ H δ m Q Q' gb k en q l => r σ H δ m _ _ gb k en q fun c H1 m1 g1 k1 q1 => ?_⟩
  cases c with
  | true =>
    rw [if_pos rfl]
    exact r2 _ _ _ _ _ _ (gb.trans g1) k1 (en.mono g1) q1 fun c' H2 m2 g2 k2 q2 => l _ _ _ (g1.trans g2) k2 q2
  | false =>
    rw [if_neg Bool.false_ne_true]
    exact l _ _ _ g1 k1 q1
theorem ew_or (h : ET X B a ta) (h2 : EW X B (.BoolOp .Or (b :: rest) pos) tb) : EW X B (.BoolOp .Or (a :: b :: rest) pos) (dOr ta tb) := by
  obtain ⟨_, p, r⟩ := h
  obtain ⟨_, p2, r2⟩ := h2
  refine ⟨_, pw_or p p2, fun σ H δ m Q Q' gb k en q l => r σ H δ m _ _ gb k en q fun c H1 m1 g1 k1 q1 => ?_⟩
  cases c with
  | true =>
    rw [if_pos rfl]
    exact l _ _ _ g1 k1 q1
  | false =>
    rw [if_neg Bool.false_ne_true]
    exact r2 _ _ _ _ _ _ (gb.trans g1) k1 (en.mono g1) q1 fun c' H2 m2 g2 k2 q2 => l _ _ _ (g1.trans g2) k2 q2
theorem et_not (h : ET X B a ta) : ET X B (.UnaryOp .Not a pos) (dNot ta) := by
  obtain ⟨_, p, r⟩ := h
  exact ⟨_, pt_not p, fun σ H δ m Q Q' gb k en q l => r σ H δ m _ _ gb k en q fun c H1 m1 g1 k1 q1 => l _ _ _ g1 k1 q1⟩
/-- and, or, not as values -/
@[simp] def dAndV (ma mb : DE) : DE := fun δ m Q => ma δ m fun x m1 => truD x fun b => match b with
  | true => mb δ m1 Q
  | false => Q x m1
@[simp] def dOrV (ma mb : DE) : DE := fun δ m Q => ma δ m fun x m1 => truD x fun b => match b with
  | true => Q x m1
  | false => mb δ m1 Q
@[simp] def dNotV (ma : DE) : DE := fun δ m Q => ma δ m fun x m1 => truD x fun b => Q (.bl (!b)) m1
theorem ee_one {op} (h : EE X B a ma) : EE X B (.BoolOp op [a] pos) ma := by
  obtain ⟨_, p, r⟩ := h
  exact ⟨_, pe_one p, r⟩
theorem ee_and (h : EE X B a ma) (h2 : EE X B (.BoolOp .And (b :: rest) pos) mb) : EE X B (.BoolOp .And (a :: b :: rest) pos) (dAndV ma mb) := by
  obtain ⟨_, p, r⟩ := h
  obtain ⟨_, p2, r2⟩ := h2
  refine ⟨_, pe_andT p p2, fun σ H δ m Q Q' gb k en q l => r σ H δ m _ _ gb k en q fun v H1 d m1 g1 k1 h1 q1 => ?_⟩
  obtain ⟨b, t, q⟩ := h1.tru q1
  refine ⟨b, t, ?_⟩
  cases b with
  | true =>
    rw [if_pos rfl]
    exact r2 _ _ _ _ _ _ (gb.trans g1) k1 (en.mono g1) q fun v2 H2 d2 m2 g2 k2 h2 q2 => l _ _ _ _ (g1.trans g2) k2 h2 q2
  | false =>
    rw [if_neg Bool.false_ne_true]
    exact l _ _ _ _ g1 k1 h1 q
theorem ee_or (h : EE X B a ma) (h2 : EE X B (.BoolOp .Or (b :: rest) pos) mb) : EE X B (.BoolOp .Or (a :: b :: rest) pos) (dOrV ma mb) := by
  obtain ⟨_, p, r⟩ := h
  obtain ⟨_, p2, r2⟩ := h2
  refine ⟨_, pe_orT p p2, fun σ H δ m Q Q' gb k en q l => r σ H δ m _ _ gb k en q fun v H1 d m1 g1 k1 h1 q1 => ?_⟩
  obtain ⟨b, t, q⟩ := h1.tru q1
  refine ⟨b, t, ?_⟩
  cases b with
  | true =>
    rw [if_pos rfl]
    exact l _ _ _ _ g1 k1 h1 q
  | false =>
    rw [if_neg Bool.false_ne_true]
    exact r2 _ _ _ _ _ _ (gb.trans g1) k1 (en.mono g1) q fun v2 H2 d2 m2 g2 k2 h2 q2 => l _ _ _ _ (g1.trans g2) k2 h2 q2
theorem ee_not (h : EE X B a ma) : EE X B (.UnaryOp .Not a pos) (dNotV ma) := by
  obtain ⟨_, p, r⟩ := h
  refine ⟨_, pe_notT p, fun σ H δ m Q Q' gb k en q l => r σ H δ m _ _ gb k en q fun v H1 d m1 g1 k1 h1 q1 => ?_⟩
  obtain ⟨b, t, q⟩ := h1.tru q1
  exact ⟨b, t, l _ _ _ _ g1 k1 (.bl _) q⟩
@[simp] def dIf (tc : DT) (ma mb : DE) : DE := fun δ m Q => tc δ m fun c m1 => match c with
  | true => ma δ m1 Q
  | false => mb δ m1 Q
theorem ee_if (hc : ET X B c ta) (ha : EE X B a ma) (hb : EE X B b mb) : EE X B (.IfExp c a b pos) (dIf ta ma mb) := by
  obtain ⟨_, pc, rc⟩ := hc
  obtain ⟨_, pa, ra⟩ := ha
  obtain ⟨_, pb, rb⟩ := hb
  refine ⟨_, pe_ifExp pc pa pb, fun σ H δ m Q Q' gb k en q l => rc σ H δ m _ _ gb k en q fun b H1 m1 g1 k1 q1 => ?_⟩
  cases b with
  | true =>
    rw [if_pos rfl]
    exact ra _ _ _ _ _ _ (gb.trans g1) k1 (en.mono g1) q1 fun v2 H2 d2 m2 g2 k2 h2 q2 => l _ _ _ _ (g1.trans g2) k2 h2 q2
  | false =>
    rw [if_neg Bool.false_ne_true]
    exact rb _ _ _ _ _ _ (gb.trans g1) k1 (en.mono g1) q1 fun v2 H2 d2 m2 g2 k2 h2 q2 => l _ _ _ _ (g1.trans g2) k2 h2 q2

/-! ### argument lists, displays -/
@[simp] def dNil : DA := fun _ m Q => Q [] m
@[simp] def dCons (ma : DE) (mr : DA) : DA := fun δ m Q => ma δ m fun x m1 => mr δ m1 fun xs m2 => Q (x :: xs) m2
theorem ea_nil : EA X B [] dNil := ⟨_, pa_nil, fun σ H δ m Q Q' gb k en q l => l _ _ _ _ (Grow.refl _ _) k .nil q⟩
theorem ea_cons (ha : EE X B e me) (hr : EA X B es na) (hs : starEach (e :: es) X.env = (false, eval e X.env) :: starEach es X.env := by rfl) : EA X B (e :: es) (dCons me na) := by
  obtain ⟨_, pa, ra⟩ := ha
  obtain ⟨_, pr, rr⟩ := hr
  exact ⟨_, pa_cons pa pr hs, fun σ H δ m Q Q' gb k en q l => ra σ H δ m _ _ gb k en q fun v H1 d m1 g1 k1 h1 q1 =>
    rr _ _ _ _ _ _ (gb.trans g1) k1 (en.mono g1) q1 fun vs H2 ds m2 g2 k2 h2 q2 => l _ _ _ _ (g1.trans g2) k2 (.cons (h1.mono g2) h2) q2⟩
theorem litLe {n : Nat} (h : n ≤ 1000000) : n ≤ sizeLine := Nat.le_trans h (by rw [sizeLine_eq]; decide)
@[simp] def dTup (na : DA) : DE := fun δ m Q => na δ m fun xs m1 => xs.length ≤ sizeLine ∧ Q (.tup xs) m1
@[simp] def dLst (na : DA) : DE := fun δ m Q => na δ m fun xs m1 => xs.length ≤ sizeLine ∧ Q (.lst xs) m1
/-- a list that will change -/
@[simp] def dLstM (na : DA) : DE := fun δ m Q => na δ m fun xs m1 => xs.length ≤ sizeLine ∧ ∀ p, m1 p = none → Q (.obj p) (put m1 p (.lst xs))
theorem ee_tup {x1} (h : EA X B es na) : EE X B (.Tuple es x1 pos) (dTup na) := by
  obtain ⟨_, p, r⟩ := h
  exact ⟨_, pe_tup p, fun σ H δ m Q Q' gb k en q l => r σ H δ m _ _ gb k en q fun vs H1 ds m1 g1 k1 h1 q1 =>
    ⟨by rw [h1.length]; exact q1.1, fun p hp => l _ _ _ _ (g1.trans (Grow.new (by assumption) hp)) (k1.new hp) (Has.tup_new k1 hp h1) q1.2⟩⟩
theorem ee_lst (h : EA X B es na) : EE X B (.List es pos) (dLst na) := by
  obtain ⟨_, p, r⟩ := h
  exact ⟨_, pe_lst p, fun σ H δ m Q Q' gb k en q l => r σ H δ m _ _ gb k en q fun vs H1 ds m1 g1 k1 h1 q1 =>
    ⟨by rw [h1.length]; exact q1.1, fun p hp => l _ _ _ _ (g1.trans (Grow.new (by assumption) hp)) (k1.new hp) (Has.lst_new k1 hp h1) q1.2⟩⟩
theorem ee_lstM (h : EA X B es na) : EE X B (.List es pos) (dLstM na) := by
  obtain ⟨_, p, r⟩ := h
  exact ⟨_, pe_lst p, fun σ H δ m Q Q' gb k en q l => r σ H δ m _ _ gb k en q fun vs H1 ds m1 g1 k1 h1 q1 =>
    ⟨by rw [h1.length]; exact q1.1, fun p hp => l _ _ _ _ (g1.trans (Grow.newM (by assumption) hp)) (k1.newM hp (show HasM _ _ _ p (.lst ds) from ⟨_, upd_same, h1.mono (Grow.newM (by assumption) hp)⟩)) (.obj p) (q1.2 p (k1.free hp))⟩⟩

/-! ### subscripts -/
@[simp] def ixD (xs : List D) (i : Int) (k : D → Prop) : Prop := match atI xs i with
  | some d => k d
  | none => False
@[simp] def oIx : DO2 := fun x y m Q => match x, y with
  | .lst xs, .int i => ixD xs i fun d => Q d m
  | .tup xs, .int i => ixD xs i fun d => Q d m
  | .scr xs, .int i => ixD xs i fun d => Q d m
  | .str z, .int i => z.length ≤ sizeLine ∧ ∃ c, atI z.cps.toList i = some c ∧ Q (.str ⟨#[c]⟩) m
  | .obj p, .int i => match m p with
    | some (.lst xs) => ixD xs i fun d => Q d m
    | _ => False
  | _, _ => False
theorem HasAll.atI {K : FragK} {m : Mu} {H : Hp} {vs : List V} {ds : List D} {i : Int} {d : D} (h : HasAll K m H vs ds) (e : L2.atI ds i = some d) : ∃ v, L2.atI vs i = some v ∧ Has K m H v d := by
  unfold L2.atI at e ⊢
  rw [h.length]
  cases q : ixN ds.length i with
  | none => rw [q] at e; cases e
  | some j =>
    rw [q] at e
    obtain ⟨v, a, b⟩ := h.get (i := j) e
    exact ⟨v, a, b⟩
theorem ixD_of {xs : List D} {i : Int} {k : D → Prop} (h : ixD xs i k) : ∃ d, L2.atI xs i = some d ∧ k d := by
  unfold ixD at h
  split at h
  · exact ⟨_, by assumption, h⟩
  · exact h.elim
theorem xd_ix : IxD X oIx := by
  refine ⟨_, IxR.or ix_list (IxR.or ix_tup ix_str), ?_⟩
  intro x y H dx dy m Q Q' k h1 h2 q l
  unfold oIx at q
  split at q
  · obtain ⟨d, e, q⟩ := ixD_of q
    cases h2
    cases h1 with
    | lst hs n ha =>
      obtain ⟨v, a, b⟩ := ha.atI e
      exact .inl ⟨_, _, _, _, rfl, rfl, SqL.of hs, a, l.at k b q⟩
  · obtain ⟨d, e, q⟩ := ixD_of q
    cases h2
    cases h1 with
    | tup hs ha =>
      obtain ⟨v, a, b⟩ := ha.atI e
      exact .inr (.inl ⟨_, _, _, _, rfl, rfl, hs.sq, a, l.at k b q⟩)
  · obtain ⟨d, e, q⟩ := ixD_of q
    cases h2
    cases h1 with
    | scr hs ha =>
      obtain ⟨v, a, b⟩ := ha.atI e
      exact .inl ⟨_, _, _, _, rfl, rfl, hs.sq, a, l.at k b q⟩
  · obtain ⟨hz, c, e, q⟩ := q
    cases h1; cases h2
    exact .inr (.inr ⟨_, _, _, rfl, rfl, hz, e, l.at k (.str _) q⟩)
  · split at q
    · rename_i p i xs hm
      obtain ⟨d, e, q⟩ := ixD_of q
      cases h1; cases h2
      obtain ⟨ys, hs, ha⟩ := k _ _ hm
      obtain ⟨v, a, b⟩ := ha.atI e
      exact .inl ⟨_, _, _, _, rfl, rfl, SqL.of hs, a, l.at k b q⟩
    · exact q.elim
  · exact q.elim
theorem ee_ix (ha : EE X B a ma) (hb : EE X B b mb) (hs : PlainIx b := by exact fun _ _ => rfl) : EE X B (.Subscript a b pos) (dOp oIx ma mb) := by
  obtain ⟨_, pa, ra⟩ := ha
  obtain ⟨_, pb, rb⟩ := hb
  obtain ⟨_, po, rr⟩ := xd_ix (X := X)
  exact ⟨_, pe_ix po pa pb hs, ref_op ra rb rr⟩
/-- a dict's item by a text -/
@[simp] def lookD : List Key → List D → Key → Option D
  | k :: ks, d :: ds, j => if k = j then some d else lookD ks ds j
  | _, _, _ => none
theorem look_has {K : FragK} {m : Mu} {H : Hp} {j : Key} : ∀ {kvs : List (Key × V)} {ds : List D} {d : D}, HasAll K m H (kvs.map (·.2)) ds → lookD (kvs.map (·.1)) ds j = some d → ∃ v, valV kvs j = some v ∧ Has K m H v d
  | [], ds, d, h, e => by
    cases h
    cases e
  | p :: r, _, d, .cons h t, e => by
    have e2 : (if p.1 = j then some _ else lookD (r.map (·.1)) _ j) = some d := e
    by_cases z : p.1 = j
    · rw [if_pos z] at e2
      cases e2
      exact ⟨p.2, valV_pos z, h⟩
    · rw [if_neg z] at e2
      obtain ⟨v, a, b⟩ := look_has t e2
      exact ⟨v, (valV_neg z).trans a, b⟩
@[simp] def toK : D → Option Key
  | .int i => some (.inl i)
  | .str x => some (.inr x)
  | _ => none
theorem Has.toK {K : FragK} {m : Mu} {H : Hp} {v : V} {d : D} {k : Key} (h : Has K m H v d) (e : DL.toK d = some k) : v = kV k := by
  cases h <;> cases e <;> rfl
@[simp] def dGet (ma mb : DE) : DE := fun δ m Q => ma δ m fun x m1 => mb δ m1 fun y m2 => match x with
  | .obj p => match m2 p with
    | some (.dct ks ds) => ∃ j d, toK y = some j ∧ lookD ks ds j = some d ∧ Q d m2
    | _ => False
  | .dct ks ds => ∃ j d, toK y = some j ∧ lookD ks ds j = some d ∧ Q d m2
  | _ => False
theorem ee_get (hu : X.A.units + 1 < cLine) (ha : EE X B a ma) (hb : EE X B b mb) (hs : NoSl b := by exact fun _ _ => rfl) : EE X B (.Subscript a b pos) (dGet ma mb) := by
  obtain ⟨_, pa, ra⟩ := ha
  obtain ⟨_, pb, rb⟩ := hb
  refine ⟨_, pe_dget hu pa pb hs, fun σ H δ m Q Q' gb k en q l => ra σ H δ m _ _ gb k en q fun v H1 d m1 g1 k1 h1 q1 => rb _ _ _ _ _ _ (gb.trans g1) k1 (en.mono g1) q1 fun u H2 d2 m2 g2 k2 h2 q2 => ?_⟩
  split at q2
  · rename_i p
    cases h1
    split at q2
    · rename_i ks ds hm
      obtain ⟨j, d, e, el, q⟩ := q2
      obtain ⟨kvs, hs, ek, ha⟩ := k2 _ _ hm
      subst ek
      obtain ⟨v, a, b⟩ := look_has ha el
      rw [h2.toK e]
      refine ⟨p, v, rfl, ?_, l _ _ _ _ (g1.trans g2) k2 b q⟩
      rw [← a]
      exact DGet.k hs
    · exact q2.elim
  · obtain ⟨j, d, e, el, q⟩ := q2
    cases h1.mono g2 with
    | @dct p kvs ds hs n ha =>
      obtain ⟨v, a, b⟩ := look_has ha el
      rw [h2.toK e]
      refine ⟨p, v, rfl, ?_, l _ _ _ _ (g1.trans g2) k2 b q⟩
      rw [← a]
      exact DGet.k hs
  · exact q2.elim
/-! ### slices -/
abbrev DP := DSt → Mu → (Option Int → Mu → Prop) → Prop
def RefP (K : FragK) (B : Bs) (t : TO) (n : DP) : Prop := ∀ (σ : L2.St) (H : Hp) (δ : DSt) (m : Mu) (Q : Option Int → Mu → Prop) (Q' : Option Int → Hp → Prop), Grow B.1 B.2 m H → MuOk K m H → DEnv K m H σ δ → n δ m Q →
  (∀ o H' m', Grow m H m' H' → MuOk K m' H' → Q o m' → Q' o H') → t σ H Q'
structure EP' (X : Cx) (B : Bs) (e : Option Expr) (n : DP) : Prop where
  ex : ∃ t, PO X e t ∧ RefP X.K B t n
@[simp] def pNo : DP := fun _ m Q => Q none m
@[simp] def pSome (ma : DE) : DP := fun δ m Q => ma δ m fun x m1 => match x with
  | .int i => Q (some i) m1
  | _ => False
theorem ep_none : EP' X B none pNo := ⟨_, po_none, fun σ H δ m Q Q' gb k en q l => l _ _ _ (Grow.refl _ _) k q⟩
theorem ep_some (h : EE X B a ma) : EP' X B (some a) (pSome ma) := by
  obtain ⟨_, p, r⟩ := h
  refine ⟨_, po_some p, fun σ H δ m Q Q' gb k en q l => r σ H δ m _ _ gb k en q fun v H1 d m1 g1 k1 h1 q1 => ?_⟩
  split at q1
  · cases h1
    exact ⟨_, rfl, l _ _ _ g1 k1 q1⟩
  · exact q1.elim
def cutD {α : Type} (xs : List α) (lo hi : Option Int) : List α := (xs.drop (HT.sIx xs.length 0 lo)).take (HT.sIx xs.length xs.length hi - HT.sIx xs.length 0 lo)
theorem HasAll.cut {K : FragK} {m : Mu} {H : Hp} {vs : List V} {ds : List D} (h : HasAll K m H vs ds) (lo hi : Option Int) : HasAll K m H (cutV vs lo hi) (cutD ds lo hi) := by
  unfold cutV cutD
  rw [h.length]
  exact (h.drop _).take _
theorem cutD_length {α : Type} (xs : List α) (lo hi : Option Int) : (cutD xs lo hi).length ≤ xs.length := by
  unfold cutD
  rw [List.length_take, List.length_drop]
  omega
theorem cut_whole {α : Type} {xs : List α} {lo hi : Option Int} (h : HT.sIx xs.length 0 lo = 0 ∧ HT.sIx xs.length xs.length hi = xs.length) : cutD xs lo hi = xs := by
  unfold cutD
  rw [h.1, h.2, List.drop_zero, Nat.sub_zero, List.take_length]
@[simp] def dSl (ma : DE) (pl ph : DP) : DE := fun δ m Q => ma δ m fun x m1 => pl δ m1 fun lo m2 => ph δ m2 fun hi m3 => match x with
  | .lst xs => Q (.lst (cutD xs lo hi)) m3
  | .scr xs => Q (.lst (cutD xs lo hi)) m3
  | .tup xs => Q (.tup (cutD xs lo hi)) m3
  | .str z => z.length ≤ sizeLine ∧ Q (.str (cutS z lo hi)) m3
  | _ => False
theorem ee_sl {lo hi : Option Expr} {p2 : Pos} {pl ph : DP} (ha : EE X B a ma) (hl : EP' X B lo pl) (hh : EP' X B hi ph) : EE X B (.Subscript a (.Slice lo hi none p2) pos) (dSl ma pl ph) := by
  obtain ⟨_, pa, ra⟩ := ha
  obtain ⟨_, p1, r1⟩ := hl
  obtain ⟨_, p2', r2⟩ := hh
  refine ⟨_, pe_slice (SlR.or sl_list (SlR.or sl_tupA sl_str)) pa p1 p2', fun σ H δ m Q Q' gb k en q l => ra σ H δ m _ _ gb k en q fun v H1 d m1 g1 k1 h1 q1 =>
    r1 _ _ _ _ _ _ (gb.trans g1) k1 (en.mono g1) q1 fun lo H2 m2 g2 k2 q2 => r2 _ _ _ _ _ _ ((gb.trans g1).trans g2) k2 ((en.mono g1).mono g2) q2 fun hi H3 m3 g3 k3 q3 => ?_⟩
  have gg := (g1.trans g2).trans g3
  have h3 := (h1.mono g2).mono g3
  split at q3
  · cases h3 with
    | lst hs n ha => exact .inl ⟨_, _, rfl, SqL.of hs, fun p hp => l _ _ _ _ (gg.trans (Grow.new (by assumption) hp)) (k3.new hp) (Has.lst_new k3 hp (ha.cut _ _)) q3⟩
  · cases h3 with
    | scr hs ha => exact .inl ⟨_, _, rfl, hs.sq, fun p hp => l _ _ _ _ (gg.trans (Grow.new (by assumption) hp)) (k3.new hp) (Has.lst_new k3 hp (ha.cut _ _)) q3⟩
  · cases h3 with
    | tup hs ha =>
      refine .inr (.inl ⟨_, _, rfl, hs.sq, fun w => ?_, fun w p hp => l _ _ _ _ (gg.trans (Grow.new (by assumption) hp)) (k3.new hp) (Has.tup_new k3 hp (ha.cut _ _)) q3⟩)
      rw [ha.length] at w
      rw [cut_whole w] at q3
      exact l _ _ _ _ gg k3 (.tup hs ha) q3
  · cases h3
    exact .inr (.inr ⟨_, rfl, q3.1, l _ _ _ _ gg k3 (.str _) q3.2⟩)
  · exact q3.elim

/-! ### calls of built-in functions and classes -/
@[simp] def dCall (g : DO1) (na : DA) : DE := fun δ m Q => na δ m fun xs m1 => g xs m1 Q
theorem ref_call {K : FragK} {t : TA} {r : List V → Hp → VK → Prop} {g : DO1} (ra : RefA K B t na) (rr : RefC K r g) : RefE K B (tCB r t) (dCall g na) :=
  fun σ H δ m Q Q' gb k en q l => ra σ H δ m _ _ gb k en q fun vs H1 ds m1 g1 k1 h1 q1 => rr vs H1 ds m1 Q Q' k1 h1 q1 fun v H2 d m2 g2 k2 h2 q2 => l _ _ _ _ (g1.trans g2) k2 h2 q2
theorem ee_callB {x : Str} {id : String} {g : DO1} {p : Pos} (hc : CallD X (.builtin id) g) (hg : Gl X x) (hm : X.mg x = none) (hv : bootBuiltins x = some (.builtin id)) (ha : EA X B (e :: es) na) (hn : x ≠ "__name__" := by decide) (hdb : (x == ("__debug__" : Str)) = false := by decide)
    (he : starEach (e :: es) X.env = (false, eval e X.env) :: starEach es X.env := by rfl) (hpl : (backTo pos (starEach es X.env)).any (·.1) = false := by rfl) : EE X B (.Call (.Name x p) (e :: es) [] pos) (dCall g na) := by
  obtain ⟨_, pa, ra⟩ := ha
  obtain ⟨_, pc, rc⟩ := hc
  exact ⟨_, pe_callB pc hg hm hv pa hn hdb he hpl, ref_call ra rc⟩
theorem ee_callT {x : Str} {T : String} {g : DO1} {p : Pos} (hc : CallD X (.type T) g) (hg : Gl X x) (hm : X.mg x = none) (hv : bootBuiltins x = some (.type T)) (ha : EA X B (e :: es) na) (hn : x ≠ "__name__" := by decide) (hdb : (x == ("__debug__" : Str)) = false := by decide)
    (he : starEach (e :: es) X.env = (false, eval e X.env) :: starEach es X.env := by rfl) (hpl : (backTo pos (starEach es X.env)).any (·.1) = false := by rfl) : EE X B (.Call (.Name x p) (e :: es) [] pos) (dCall g na) := by
  obtain ⟨_, pa, ra⟩ := ha
  obtain ⟨_, pc, rc⟩ := hc
  exact ⟨_, pe_callTy pc hg hm hv pa hn hdb he hpl, ref_call ra rc⟩
end
end DL

namespace DL
open PySem PySem.Spec PyProof.Rows L2

/-! ### statements -/
structure DEnds where
  nx : DSt → Mu → Prop
  rt : D → Mu → Prop
  bk : DSt → Mu → Prop := fun _ _ => False
  ct : DSt → Mu → Prop := fun _ _ => False
abbrev DS := DEnds → DSt → Mu → Prop
abbrev Gd := Mu → Hp → Prop
def Stable (G : Gd) : Prop := ∀ m H m' H', G m H → Grow m H m' H' → G m' H'
structure Impl (K : FragK) (G : Gd) (N : DEnds) (E : Ends) : Prop where
  nx : ∀ σ H δ m, G m H → MuOk K m H → DEnv K m H σ δ → N.nx δ m → E.nx σ H
  rt : ∀ v H d m, G m H → MuOk K m H → Has K m H v d → N.rt d m → E.rt v H
  bk : ∀ σ H δ m, G m H → MuOk K m H → DEnv K m H σ δ → N.bk δ m → E.bk σ H
  ct : ∀ σ H δ m, G m H → MuOk K m H → DEnv K m H σ δ → N.ct δ m → E.ct σ H
abbrev GB (B : Bs) (G : Gd) : Gd := fun m H => Grow B.1 B.2 m H ∧ G m H
def RefS (K : FragK) (B : Bs) (t : TS) (n : DS) : Prop := ∀ (G : Gd), Stable G → ∀ (σ : L2.St) (H : Hp) (δ : DSt) (m : Mu) (N : DEnds) (E : Ends), Grow B.1 B.2 m H → G m H → MuOk K m H → DEnv K m H σ δ → n N δ m → Impl K (GB B G) N E → t E σ H
structure SS (X : Cx) (B : Bs) (st : Stmt) (n : DS) : Prop where
  ex : ∃ t, PS X st t ∧ RefS X.K B t n
structure SB (X : Cx) (B : Bs) (sts : List Stmt) (n : DS) : Prop where
  ex : ∃ t, PSs X sts t ∧ RefS X.K B t n
@[simp] def dNext : DS := fun N δ m => N.nx δ m
@[simp] def dSeq (n u : DS) : DS := fun N δ m => n { N with nx := u N } δ m
@[simp] def dBrk : DS := fun N δ m => N.bk δ m
@[simp] def dCt : DS := fun N δ m => N.ct δ m
@[simp] def dRet (me : DE) : DS := fun N δ m => me δ m N.rt
@[simp] def dRetN : DS := fun N _ m => N.rt .non m
@[simp] def dDrop (me : DE) : DS := fun N δ m => me δ m fun _ m1 => N.nx δ m1
@[simp] def dIfS (tc : DT) (n u : DS) : DS := fun N δ m => tc δ m fun c m1 => match c with
  | true => n N δ m1
  | false => u N δ m1
/-- the list in slot i changes no more -/
@[simp] def dFz (i : Nat) (n : DS) : DS := fun N δ m => ∃ a ds, δ[i]? = some (some (.obj a)) ∧ m a = some (.lst ds) ∧ n N (δ.set i (some (.lst ds))) (del m a)
section
variable {X : Cx} {B : Bs} {st : Stmt} {sts rest : List Stmt} {n u : DS} {e : Expr} {me : DE} {pos : Pos}
theorem Impl.seq {K : FragK} {G : Gd} {N : DEnds} {E : Ends} {u : DS} {tu : TS} (hG : Stable G) (r : RefS K B tu u) (i : Impl K (GB B G) N E) : Impl K (GB B G) { N with nx := u N } { E with nx := tu E } :=
  ⟨fun σ H δ m g k en q => r G hG σ H δ m N E g.1 g.2 k en q i, i.rt, i.bk, i.ct⟩
theorem sb_nil : SB X B [] dNext := ⟨_, pss_nil, fun G hG σ H δ m N E gb g k en q i => i.nx _ _ _ _ ⟨gb, g⟩ k en q⟩
theorem sb_cons (h1 : SS X B st n) (h2 : SB X B rest u) : SB X B (st :: rest) (dSeq n u) := by
  obtain ⟨_, p1, r1⟩ := h1
  obtain ⟨_, p2, r2⟩ := h2
  exact ⟨_, pss_cons p1 p2, fun G hG σ H δ m N E gb g k en q i => r1 G hG σ H δ m _ _ gb g k en q (i.seq hG r2)⟩
theorem sb_one (h1 : SS X B st n) : SB X B [st] n := by
  obtain ⟨_, p1, r1⟩ := h1
  exact ⟨_, pss_one p1, r1⟩
theorem sb_never : SB X B sts fun _ _ _ => False := ⟨_, pss_never, fun _ _ _ _ _ _ _ _ _ _ _ _ q _ => q.elim⟩
theorem ss_pass : SS X B (.Pass pos) dNext := ⟨_, ps_pass, fun G hG σ H δ m N E gb g k en q i => i.nx _ _ _ _ ⟨gb, g⟩ k en q⟩
theorem ss_brk : SS X B (.Break pos) dBrk := ⟨_, ps_break, fun G hG σ H δ m N E gb g k en q i => i.bk _ _ _ _ ⟨gb, g⟩ k en q⟩
theorem ss_ct : SS X B (.Continue pos) dCt := ⟨_, ps_continue, fun G hG σ H δ m N E gb g k en q i => i.ct _ _ _ _ ⟨gb, g⟩ k en q⟩
theorem ss_ret (h : EE X B e me) : SS X B (.Return (some e) pos) (dRet me) := by
  obtain ⟨_, p, r⟩ := h
  exact ⟨_, ps_ret p, fun G hG σ H δ m N E gb g k en q i => r σ H δ m _ _ gb k en q fun v H1 d m1 g1 k1 h1 q1 => i.rt _ _ _ _ ⟨gb.trans g1, hG _ _ _ _ g g1⟩ k1 h1 q1⟩
theorem ss_retN : SS X B (.Return none pos) dRetN := ⟨_, ps_retN, fun G hG σ H δ m N E gb g k en q i => i.rt _ _ _ _ ⟨gb, g⟩ k .non q⟩
theorem ss_drop (h : EE X B e me) (hs : swapsWith e none pos.line X.env = pure false := by rfl) : SS X B (.Expr e pos) (dDrop me) := by
  obtain ⟨_, p, r⟩ := h
  exact ⟨_, ps_expr p hs, fun G hG σ H δ m N E gb g k en q i => r σ H δ m _ _ gb k en q fun v H1 d m1 g1 k1 h1 q1 => i.nx _ _ _ _ ⟨gb.trans g1, hG _ _ _ _ g g1⟩ k1 (en.mono g1) q1⟩
theorem ss_if {c : Expr} {as bs : List Stmt} {tc : DT} (hc : ET X B c tc) (ha : SB X B as n) (hb : SB X B bs u) : SS X B (.If c as bs pos) (dIfS tc n u) := by
  obtain ⟨_, pc, rc⟩ := hc
  obtain ⟨_, p1, r1⟩ := ha
  obtain ⟨_, p2, r2⟩ := hb
  refine ⟨_, ps_if pc p1 p2, fun G hG σ H δ m N E gb g k en q i => rc σ H δ m _ _ gb k en q fun b H1 m1 g1 k1 q1 => ?_⟩
  cases b with
  | true =>
    rw [if_pos rfl]
    exact r1 G hG _ _ _ _ _ _ (gb.trans g1) (hG _ _ _ _ g g1) k1 (en.mono g1) q1 i
  | false =>
    rw [if_neg Bool.false_ne_true]
    exact r2 G hG _ _ _ _ _ _ (gb.trans g1) (hG _ _ _ _ g g1) k1 (en.mono g1) q1 i
theorem sb_fz (j : Nat) (h : SB X B sts n) : SB X B sts (dFz j n) := by
  obtain ⟨_, p, r⟩ := h
  refine ⟨_, p, fun G hG σ H δ m N E gb g k en q i => ?_⟩
  obtain ⟨a, ds, hi, hm, q⟩ := q
  have g1 : Grow m H (del m a) H := Grow.fz hm (fun z => nomatch z)
  have k1 : MuOk X.K (del m a) H := k.fz
  have en1 : DEnv X.K (del m a) H σ (δ.set j (some (.lst ds))) := by
    refine ⟨by rw [List.length_set]; exact en.1, fun t d hd => ?_⟩
    by_cases z : j = t
    · subst z
      rw [List.getElem?_set, if_pos rfl] at hd
      split at hd
      · cases hd
        obtain ⟨v, hv, hh⟩ := en.2 _ _ hi
        cases hh
        obtain ⟨xs, hx, ha⟩ := k _ _ hm
        exact ⟨_, hv, .lst hx del_same (ha.mono g1)⟩
      · cases hd
    · rw [List.getElem?_set_ne z] at hd
      exact (en.mono g1).2 t d hd
  exact r G hG σ H _ _ N E (gb.trans g1) (hG _ _ _ _ g g1) k1 en1 q i
end

/-! ### targets -/
abbrev DG := D → DSt → Mu → (DSt → Mu → Prop) → Prop
abbrev DGs := List D → DSt → Mu → (DSt → Mu → Prop) → Prop
def LandsS (K : FragK) (m : Mu) (H : Hp) (Q : DSt → Mu → Prop) (Q' : L2.St → Hp → Prop) : Prop := ∀ σ H' δ m', Grow m H m' H' → MuOk K m' H' → DEnv K m' H' σ δ → Q δ m' → Q' σ H'
def RefG (K : FragK) (B : Bs) (t : TG) (n : DG) : Prop := ∀ (v : V) (σ : L2.St) (H : Hp) (d : D) (δ : DSt) (m : Mu) (Q : DSt → Mu → Prop) (Q' : L2.St → Hp → Prop), Grow B.1 B.2 m H → MuOk K m H → DEnv K m H σ δ → Has K m H v d → n d δ m Q → LandsS K m H Q Q' → t v σ H Q'
def RefGs (K : FragK) (B : Bs) (t : TGs) (n : DGs) : Prop := ∀ (vs : List V) (σ : L2.St) (H : Hp) (ds : List D) (δ : DSt) (m : Mu) (Q : DSt → Mu → Prop) (Q' : L2.St → Hp → Prop), Grow B.1 B.2 m H → MuOk K m H → DEnv K m H σ δ → HasAll K m H vs ds → n ds δ m Q → LandsS K m H Q Q' → t vs σ H Q'
structure EG (X : Cx) (B : Bs) (e : Expr) (n : DG) : Prop where
  ex : ∃ t, PG X e t ∧ RefG X.K B t n
structure EGs (X : Cx) (B : Bs) (es : List Expr) (n : DGs) : Prop where
  ex : ∃ t, PGs X es t ∧ RefGs X.K B t n
@[simp] def hName (i : Nat) : DG := fun d δ m Q => Q (δ.set i (some d)) m
@[simp] def hNil : DGs := fun ds δ m Q => match ds with
  | [] => Q δ m
  | _ => False
@[simp] def hCons (g : DG) (r : DGs) : DGs := fun ds δ m Q => match ds with
  | d :: ds => g d δ m fun δ1 m1 => r ds δ1 m1 Q
  | [] => False
@[simp] def hTup (n : Nat) (r : DGs) : DG := fun d δ m Q => match d with
  | .tup xs => xs.length = n ∧ r xs δ m Q
  | .lst xs => False
  | _ => False
section
variable {X : Cx} {B : Bs} {pos : Pos} {e : Expr} {es : List Expr} {g : DG} {gs : DGs} {me : DE}
theorem eg_name {x : Str} (i : Nat) (hN : X.N.Nodup) (hi : X.N[i]? = some x := by rfl) (hx : Loc X.env.scope x := by first | exact Or.inl rfl | exact Or.inr rfl) (hf : X.fn x = true ∨ X.env.scope.names.lookup x = some .local := by first | exact .inl rfl | exact .inr rfl | assumption) : EG X B (.Name x pos) (hName i) :=
  ⟨_, pg_name hN hi hx hf, fun v σ H d δ m Q Q' gb k en h q l => l _ _ _ _ (Grow.refl _ _) k (en.set i h) q⟩
theorem egs_nil : EGs X B [] hNil := ⟨_, pgs_nil, fun vs σ H ds δ m Q Q' gb k en h q l => by
  unfold hNil at q
  split at q
  · cases h
    exact ⟨rfl, l _ _ _ _ (Grow.refl _ _) k en q⟩
  · exact q.elim⟩
theorem egs_cons (h1 : EG X B e g) (h2 : EGs X B es gs) (hs : (assignEach (e :: es) X.env).map (·.2) = assign e X.env :: (assignEach es X.env).map (·.2) := by rfl) : EGs X B (e :: es) (hCons g gs) := by
  obtain ⟨_, p1, r1⟩ := h1
  obtain ⟨_, p2, r2⟩ := h2
  refine ⟨_, pgs_cons p1 p2 hs, fun vs σ H ds δ m Q Q' gb k en h q l => ?_⟩
  unfold hCons at q
  split at q
  · cases h with
    | cons h t => exact ⟨_, _, rfl, r1 _ _ _ _ _ _ _ _ gb k en h q fun σ1 H1 δ1 m1 g1 k1 en1 q1 => r2 _ _ _ _ _ _ _ _ (gb.trans g1) k1 en1 (t.mono g1) q1 fun σ2 H2 δ2 m2 g2 k2 en2 q2 => l _ _ _ _ (g1.trans g2) k2 en2 q2⟩
  · exact q.elim
theorem eg_tup {n k : Nat} (hc : X.calm = true) (h : EGs X B es gs) (hn : (assignEach es X.env).length = n := by rfl) (hst : (assignEach es X.env).findIdx? (·.1) = none := by rfl) : EG X B (.Tuple es k pos) (hTup n gs) := by
  obtain ⟨_, p, r⟩ := h
  refine ⟨_, pg_tup hc p hn hst, fun v σ H d δ m Q Q' gb k en h q l => ?_⟩
  unfold hTup at q
  split at q
  · cases h with
    | tup hs ha => exact ⟨_, _, rfl, hs.sq, by rw [ha.length]; exact q.1, r _ _ _ _ _ _ _ _ gb k en ha q.2 l⟩
  · exact q.elim
  · exact q.elim
@[simp] def dAsg (me : DE) (g : DG) : DS := fun N δ m => me δ m fun d m1 => g d δ m1 N.nx
theorem Impl.land {K : FragK} {G : Gd} {N : DEnds} {E : Ends} {m : Mu} {H : Hp} (hG : Stable G) (i : Impl K (GB B G) N E) (gb : Grow B.1 B.2 m H) (g : G m H) : LandsS K m H N.nx E.nx :=
  fun σ H' δ m' g1 k1 en1 q => i.nx _ _ _ _ ⟨gb.trans g1, hG _ _ _ _ g g1⟩ k1 en1 q
theorem ref_asg {K : FragK} {t : TE} {tg : TG} (r : RefE K B t me) (rg : RefG K B tg g) : RefS K B (tAsg t tg) (dAsg me g) := fun G hG σ H δ m N E gb gg k en q i =>
  r σ H δ m _ _ gb k en q fun v H1 d m1 g1 k1 h1 q1 => rg _ _ _ _ _ _ _ _ (gb.trans g1) k1 (en.mono g1) h1 q1 (i.land hG (gb.trans g1) (hG _ _ _ _ gg g1))
theorem ss_set {x : Str} {pos' : Pos} (i : Nat) (hN : X.N.Nodup) (he : EE X B e me) (hi : X.N[i]? = some x := by rfl) (hx : Loc X.env.scope x := by first | exact Or.inl rfl | exact Or.inr rfl) (hs : swapsWith e (some (.Name x pos')) pos.line X.env = pure false := by rfl)
    (hf : X.fn x = true ∨ X.env.scope.names.lookup x = some .local := by first | exact .inl rfl | exact .inr rfl | assumption) : SS X B (.Assign [.Name x pos'] e pos) (dAsg me (hName i)) := by
  obtain ⟨_, p, r⟩ := he
  exact ⟨_, ps_set (i := i) hN hi hx p hs hf, ref_asg r fun v σ H d δ m Q Q' gb k en h q l => l _ _ _ _ (Grow.refl _ _) k (en.set i h) q⟩
theorem ss_asg {tg : Expr} (he : EE X B e me) (hg : EG X B tg g) (hs : swapsWithSole [tg] e pos.line X.env = pure false := by rfl) (hw : swappedStores [tg] e X.env = pure none := by rfl) (h1 : (assignEach [tg] X.env).map (·.2) = [assign tg X.env] := by rfl) :
    SS X B (.Assign [tg] e pos) (dAsg me g) := by
  obtain ⟨_, p, r⟩ := he
  obtain ⟨_, pg, rg⟩ := hg
  exact ⟨_, ps_asg p pg hs hw h1, ref_asg r rg⟩
/-- a, b = x, y -/
@[simp] def dPar (i j : Nat) (na : DA) : DS := fun N δ m => na δ m fun ds m1 => match ds with
  | [d, e] => N.nx ((δ.set i (some d)).set j (some e)) m1
  | _ => False
theorem ss_par {x y : Str} {a b : Expr} {na : DA} {px py pt : Pos} {kt k2 pt2} (i j : Nat) (hc : X.calm = true) (hN : X.N.Nodup) (ha : EA X B [a, b] na) (hi : X.N[i]? = some x := by rfl) (hj : X.N[j]? = some y := by rfl) (hij : i ≠ j := by decide)
    (hx : X.env.scope.names.lookup x = some .local := by rfl) (hy : X.env.scope.names.lookup y = some .local := by rfl)
    (hw : swappedStores [.Tuple [.Name x px, .Name y py] kt pt] (.Tuple [a, b] k2 pt2) X.env = pure (some [x, y]) := by rfl)
    (hs : swapsWithSole [.Tuple [.Name x px, .Name y py] kt pt] (.Tuple [a, b] k2 pt2) pos.line X.env = pure false := by rfl) :
    SS X B (.Assign [.Tuple [.Name x px, .Name y py] kt pt] (.Tuple [a, b] k2 pt2) pos) (dPar i j na) := by
  obtain ⟨_, p, r⟩ := ha
  refine ⟨_, ps_par (i := i) (j := j) hc hN hi hj hij hx hy p hw hs, fun G hG σ H δ m N E gb gg k en q ii => r σ H δ m _ _ gb k en q fun vs H1 ds m1 g1 k1 h1 q1 => ?_⟩
  split at q1
  · obtain ⟨v, u, rfl, ha, hb⟩ := h1.twos
    exact ⟨v, u, rfl, ii.nx _ _ _ _ ⟨gb.trans g1, hG _ _ _ _ gg g1⟩ k1 (((en.mono g1).set i ha).set j hb) q1⟩
  · exact q1.elim
/-- d[k] = v, d a dict that may change, k in it -/
@[simp] def putD : List Key → List D → Key → D → Option (List D)
  | k :: ks, d :: ds, j, e => if k = j then some (e :: ds) else (putD ks ds j e).map (d :: ·)
  | _, _, _, _ => none
theorem put_has {K : FragK} {m : Mu} {H : Hp} {j : Key} {v : V} {e : D} (hv : Has K m H v e) : ∀ {kvs : List (Key × V)} {ds es : List D}, (kvs.map (·.1)).Nodup → HasAll K m H (kvs.map (·.2)) ds → putD (kvs.map (·.1)) ds j e = some es →
    (putK kvs j v).map (·.1) = kvs.map (·.1) ∧ HasAll K m H ((putK kvs j v).map (·.2)) es := by
  intro kvs ds es hn ha hp
  have key : ∀ {kvs : List (Key × V)} {ds es : List D}, (kvs.map (·.1)).Nodup → HasAll K m H (kvs.map (·.2)) ds → putD (kvs.map (·.1)) ds j e = some es →
      (kvs.any fun kv => decide (kv.1 = j)) = true ∧ HasAll K m H ((kvs.map fun kv => if kv.1 = j then (kv.1, v) else kv).map (·.2)) es := by
    intro kvs
    induction kvs with
    | nil => intro ds es _ h q; cases h; cases q
    | cons p r ih =>
      intro ds es hn h q
      cases h with
      | @cons _ _ d ds' h t =>
        have q2 : (if p.1 = j then some (e :: ds') else (putD (r.map (·.1)) ds' j e).map (d :: ·)) = some es := q
        have hn2 : (r.map (·.1)).Nodup := by
          rw [List.map_cons] at hn
          exact (List.nodup_cons.mp hn).2
        by_cases z : p.1 = j
        · rw [if_pos z] at q2
          cases q2
          refine ⟨by rw [List.any_cons, decide_eq_true z, Bool.true_or], ?_⟩
          rw [List.map_cons, if_pos z, List.map_cons]
          refine .cons hv ?_
          have e2 : (r.map fun kv => if kv.1 = j then (kv.1, v) else kv) = r := by
            have hj : ∀ kv ∈ r, kv.1 ≠ j := fun kv hk c => by
              rw [List.map_cons] at hn
              refine (List.nodup_cons.mp hn).1 ?_
              rw [z, ← c]
              exact List.mem_map_of_mem hk
            calc (r.map fun kv => if kv.1 = j then (kv.1, v) else kv) = r.map id := List.map_congr_left fun kv hk => by rw [if_neg (hj kv hk)]; rfl
              _ = r := List.map_id r
          rw [e2]
          exact t
        · rw [if_neg z] at q2
          cases e3 : putD (r.map (·.1)) ds' j e with
          | none => rw [e3] at q2; cases q2
          | some es' =>
            rw [e3] at q2
            cases q2
            obtain ⟨c1, c2⟩ := ih hn2 t e3
            refine ⟨by rw [List.any_cons, c1, Bool.or_true], ?_⟩
            rw [List.map_cons, if_neg z, List.map_cons]
            exact .cons h c2
  obtain ⟨c1, c2⟩ := key hn ha hp
  unfold putK
  rw [if_pos c1]
  refine ⟨?_, c2⟩
  rw [List.map_map]
  exact List.map_congr_left fun kv _ => by
    show (if kv.1 = j then (kv.1, v) else kv).1 = kv.1
    split <;> rfl
@[simp] def dPut (md mk mv : DE) : DS := fun N δ m => mv δ m fun v m1 => md δ m1 fun x m2 => mk δ m2 fun y m3 => match x with
  | .obj p => match m3 p with
    | some (.dct ks ds) => ∃ j es, toK y = some j ∧ ks.Nodup ∧ ks.length < 1000 ∧ putD ks ds j v = some es ∧ N.nx δ (put m3 p (.dct ks es))
    | _ => False
  | _ => False
theorem ss_put {o i value : Expr} {md mk mv : DE} {pos' : Pos} (hu : X.A.units + 1 < cLine) (ho : EE X B o md) (hi : EE X B i mk) (hv : EE X B value mv) (hs : swapsWith value (some (.Subscript o i pos')) pos.line X.env = pure false := by rfl) :
    SS X B (.Assign [.Subscript o i pos'] value pos) (dPut md mk mv) := by
  obtain ⟨_, p1, r1⟩ := ho
  obtain ⟨_, p2, r2⟩ := hi
  obtain ⟨_, p3, r3⟩ := hv
  refine ⟨_, ps_dput hu p1 p2 p3 hs, fun G hG σ H δ m N E gb gg k en q ii => r3 σ H δ m _ _ gb k en q fun v H1 d m1 g1 k1 h1 q1 => r1 _ _ _ _ _ _ (gb.trans g1) k1 (en.mono g1) q1 fun x H2 d2 m2 g2 k2 h2 q2 =>
    r2 _ _ _ _ _ _ ((gb.trans g1).trans g2) k2 ((en.mono g1).mono g2) q2 fun y H3 d3 m3 g3 k3 h3 q3 => ?_⟩
  have gs := (g1.trans g2).trans g3
  split at q3
  · rename_i a
    cases h2
    split at q3
    · rename_i ks ds hm
      obtain ⟨j, es, ej, hn, hl, hp, q⟩ := q3
      obtain ⟨kvs, hs, ek, ha⟩ := k3 _ _ hm
      subst ek
      rw [h3.toK ej]
      have gw : ∀ {o c'}, Grow m3 H3 (put m3 a c') (upd H3 a o) := fun {o c'} => Grow.wr hm (fun z => nomatch z)
      have hv := ((h1.mono g2).mono g3)
      obtain ⟨c1, c2⟩ := put_has hv hn ha hp
      refine ⟨a, _, rfl, DPut.k hs (by rw [List.length_map] at hl; exact Nat.lt_of_lt_of_le hl (by rw [sizeLine_eq]; decide)), ii.nx _ _ _ _ ⟨(gb.trans gs).trans gw, hG _ _ _ _ gg (gs.trans gw)⟩ ?_ (((en.mono gs)).mono gw) q⟩
      exact k3.wr hm (show HasM _ _ _ a (.dct _ es) from ⟨_, upd_same, c1, c2.mono gw⟩)
    · exact q3.elim
  · exact q3.elim
end

/-! ### while -/
def dWhile (c : DT) (b : DS) : DS := fun N δ m => ∃ W : Nat → DSt → Mu → Prop, (∃ j, W j δ m) ∧ ∀ j δ m, W j δ m →
  c δ m fun t m1 => match t with
    | true => ∃ P : DSt → Mu → Prop, (∀ δ' m', P δ' m' → ∃ j', j' < j ∧ W j' δ' m') ∧ b { N with nx := P, ct := P, bk := N.nx } δ m1
    | false => N.nx δ m1
section
variable {X : Cx} {B : Bs} {pos : Pos}
theorem ss_while {c : Expr} {body : List Stmt} {tc : DT} {tb : DS} (hp : PassesOwn (model X.prog X.w) X.A X.env X.xe) (hc : ET X B c tc) (hb : SB X B body tb) : SS X B (.While c body [] pos) (dWhile tc tb) := by
  obtain ⟨_, p1, r1⟩ := hc
  obtain ⟨_, p2, r2⟩ := hb
  refine ⟨_, ps_while hp p1 p2, fun G hG σ H δ m N E gb gg k en q ii => ?_⟩
  obtain ⟨W, ⟨j0, w0⟩, hw⟩ := q
  refine ⟨fun j σ H => ∃ δ m, Grow B.1 B.2 m H ∧ G m H ∧ MuOk X.K m H ∧ DEnv X.K m H σ δ ∧ W j δ m, ⟨j0, δ, m, gb, gg, k, en, w0⟩, ?_⟩
  rintro j σ1 H1 ⟨δ1, m1, gb1, gg1, k1, en1, w1⟩
  refine r1 σ1 H1 δ1 m1 _ _ gb1 k1 en1 (hw j δ1 m1 w1) fun b H2 m2 g2 k2 q2 => ?_
  cases b with
  | true =>
    rw [if_pos rfl]
    obtain ⟨P, hP, qb⟩ := q2
    refine ⟨fun σ' H' => ∃ δ' m', Grow B.1 B.2 m' H' ∧ G m' H' ∧ MuOk X.K m' H' ∧ DEnv X.K m' H' σ' δ' ∧ P δ' m', ?_, ?_⟩
    · rintro σ' H' ⟨δ', m', a, b, c, d, p⟩
      obtain ⟨j', hj, w⟩ := hP _ _ p
      exact ⟨j', hj, δ', m', a, b, c, d, w⟩
    · refine r2 G hG _ _ _ _ _ _ (gb1.trans g2) (hG _ _ _ _ gg1 g2) k2 (en1.mono g2) qb ⟨?_, ii.rt, ii.nx, ?_⟩
      · exact fun σ' H' δ' m' g' k' en' p => ⟨δ', m', g'.1, g'.2, k', en', p⟩
      · exact fun σ' H' δ' m' g' k' en' p => ⟨δ', m', g'.1, g'.2, k', en', p⟩
  | false =>
    rw [if_neg Bool.false_ne_true]
    exact ii.nx _ _ _ _ ⟨gb1.trans g2, hG _ _ _ _ gg1 g2⟩ k2 (en1.mono g2) q2

/-! ### what is walked -/
/-- the iterator gives the items xs, whatever grows meanwhile -/
structure ItOk (K : FragK) (J : It) (xs : List D) (S : Gd) : Prop where
  st : Stable S
  go : ∀ i x m H, S m H → MuOk K m H → xs[i]? = some x → J.go i H ∧ ∀ v H', J.yld i H v H' → Grow m H m H' ∧ MuOk K m H' ∧ Has K m H' v x
  stop : ∀ i m H, S m H → MuOk K m H → xs.length ≤ i → J.stop i H
abbrev DI := DSt → Mu → (List D → Mu → Prop) → Prop
def RefI (K : FragK) (B : Bs) (t : TI) (n : DI) : Prop := ∀ (σ : L2.St) (H : Hp) (δ : DSt) (m : Mu) (R : List D → Mu → Prop) (R' : It → Hp → Prop), Grow B.1 B.2 m H → MuOk K m H → DEnv K m H σ δ → n δ m R →
  (∀ J H' xs m' S, Grow m H m' H' → MuOk K m' H' → ItOk K J xs S → S m' H' → R xs m' → R' J H') → t σ H R'
structure II (X : Cx) (B : Bs) (tg iter : Expr) (n : DI) : Prop where
  ex : ∃ t, PI X tg iter t ∧ RefI X.K B t n
theorem it_list {K : FragK} {a : Addr} {xs : List V} {ds : List D} : ItOk K (Itl K a) ds (fun m H => LsAt K m H a xs ∧ HasAll K m H xs ds) where
  st := fun m H m' H' s g => ⟨s.1.mono g, s.2.mono g⟩
  go := fun i x m H s k e => by
    obtain ⟨v, hv, hh⟩ := s.2.get e
    refine ⟨⟨xs, v, s.1.sq, hv⟩, fun u H' y => ?_⟩
    obtain ⟨rfl, y⟩ := y
    have e2 := y xs s.1.sq
    rw [hv] at e2
    cases e2
    exact ⟨Grow.refl _ _, k, hh⟩
  stop := fun i m H s k e => ⟨xs, s.1.sq, by rw [s.2.length]; exact e⟩
theorem it_tup {K : FragK} {a : Addr} {xs : List V} {ds : List D} : ItOk K (Itt K a) ds (fun m H => TpAt K m H a xs ∧ HasAll K m H xs ds) where
  st := fun m H m' H' s g => ⟨s.1.mono g, s.2.mono g⟩
  go := fun i x m H s k e => by
    obtain ⟨v, hv, hh⟩ := s.2.get e
    refine ⟨⟨xs, v, s.1.sq, hv⟩, fun u H' y => ?_⟩
    obtain ⟨rfl, y⟩ := y
    have e2 := y xs s.1.sq
    rw [hv] at e2
    cases e2
    exact ⟨Grow.refl _ _, k, hh⟩
  stop := fun i m H s k e => ⟨xs, s.1.sq, by rw [s.2.length]; exact e⟩
def rng (lo : Int) (n : Nat) : List D := (List.range n).map fun i => D.int (lo + (i : Nat))
theorem rng_length (lo : Int) (n : Nat) : (rng lo n).length = n := by unfold rng; rw [List.length_map, List.length_range]
theorem rng_get {lo : Int} {n i : Nat} {x : D} (h : (rng lo n)[i]? = some x) : i < n ∧ x = .int (lo + (i : Nat)) := by
  have hl : i < n := by
    obtain ⟨h1, _⟩ := List.getElem?_eq_some_iff.mp h
    rw [rng_length] at h1
    exact h1
  unfold rng at h
  rw [List.getElem?_map, List.getElem?_range hl] at h
  exact ⟨hl, (Option.some.inj h).symm⟩
theorem it_rng {K : FragK} {lo : Int} {n : Nat} : ItOk K (Itr lo n) (rng lo n) (fun _ _ => True) where
  st := fun _ _ _ _ _ _ => trivial
  go := fun i x m H s k e => by
    obtain ⟨h1, rfl⟩ := rng_get e
    refine ⟨h1, fun u H' y => ?_⟩
    obtain ⟨rfl, rfl⟩ := y
    exact ⟨Grow.refl _ _, k, .int _⟩
  stop := fun i m H s k e => by
    rw [rng_length] at e
    exact e
@[simp] def iLst (me : DE) : DI := fun δ m R => me δ m fun d m1 => match d with
  | .lst xs => R xs m1
  | .scr xs => R xs m1
  | _ => False
@[simp] def iTupD (me : DE) : DI := fun δ m R => me δ m fun d m1 => match d with
  | .tup xs => R xs m1
  | _ => False
theorem ii_lst {tg l : Expr} {me : DE} (h : EE X B l me) : II X B tg l (iLst me) := by
  obtain ⟨_, p, r⟩ := h
  refine ⟨_, pi_list p, fun σ H δ m R R' gb k en q l => r σ H δ m _ _ gb k en q fun v H1 d m1 g1 k1 h1 q1 => ?_⟩
  split at q1
  · cases h1 with
    | lst hs n ha => exact ⟨_, rfl, ⟨_, SqL.of hs⟩, l _ _ _ _ _ g1 k1 it_list ⟨.inl ⟨n, .inl hs⟩, ha⟩ q1⟩
  · cases h1 with
    | scr hs ha => exact ⟨_, rfl, ⟨_, hs.sq⟩, l _ _ _ _ _ g1 k1 it_list ⟨hs, ha⟩ q1⟩
  · exact q1.elim
theorem ii_tup {tg l : Expr} {me : DE} (h : EE X B l me) : II X B tg l (iTupD me) := by
  obtain ⟨_, p, r⟩ := h
  refine ⟨_, pi_tup p, fun σ H δ m R R' gb k en q l => r σ H δ m _ _ gb k en q fun v H1 d m1 g1 k1 h1 q1 => ?_⟩
  split at q1
  · cases h1 with
    | tup hs ha => exact ⟨_, rfl, ⟨_, hs.sq⟩, l _ _ _ _ _ g1 k1 it_tup ⟨hs, ha⟩ q1⟩
  · exact q1.elim
@[simp] def iR1 (na : DA) : DI := fun δ m R => na δ m fun ds m1 => match ds with
  | [.int j] => (-(2 ^ 62) ≤ j ∧ j < 2 ^ 62) ∧ R (rng 0 j.toNat) m1
  | _ => False
@[simp] def iR2 (na : DA) : DI := fun δ m R => na δ m fun ds m1 => match ds with
  | [.int i, .int j] => (-(2 ^ 62) ≤ i ∧ i < 2 ^ 62 ∧ -(2 ^ 62) ≤ j ∧ j < 2 ^ 62) ∧ R (rng i (j - i).toNat) m1
  | _ => False
theorem ii_r1 {tg a : Expr} {na : DA} {p : Pos} (hg : Gl X "range") (hm : X.mg "range" = none) (ha : EA X B [a] na) (hs : starEach [a] X.env = [(false, eval a X.env)] := by rfl) : II X B tg (.Call (.Name "range" p) [a] [] pos) (iR1 na) := by
  obtain ⟨_, pa, ra⟩ := ha
  refine ⟨_, pi_range1 hg hm pa hs, fun σ H δ m R R' gb k en q l => ra σ H δ m _ _ gb k en q fun vs H1 ds m1 g1 k1 h1 q1 => ?_⟩
  split at q1
  · obtain ⟨v, rfl, h⟩ := h1.ones
    cases h
    exact ⟨_, rfl, q1.1.1, q1.1.2, l _ _ _ _ _ g1 k1 it_rng trivial q1.2⟩
  · exact q1.elim
theorem ii_r2 {tg a b : Expr} {na : DA} {p : Pos} (hg : Gl X "range") (hm : X.mg "range" = none) (ha : EA X B [a, b] na) (hs : starEach [a, b] X.env = [(false, eval a X.env), (false, eval b X.env)] := by rfl) (hs2 : starEach [b] X.env = [(false, eval b X.env)] := by rfl) :
    II X B tg (.Call (.Name "range" p) [a, b] [] pos) (iR2 na) := by
  obtain ⟨_, pa, ra⟩ := ha
  refine ⟨_, pi_range2 hg hm pa hs hs2, fun σ H δ m R R' gb k en q l => ra σ H δ m _ _ gb k en q fun vs H1 ds m1 g1 k1 h1 q1 => ?_⟩
  split at q1
  · obtain ⟨v, u, rfl, h, h'⟩ := h1.twos
    cases h
    cases h'
    exact ⟨_, _, rfl, q1.1, l _ _ _ _ _ g1 k1 it_rng trivial q1.2⟩
  · exact q1.elim

/-! ### for -/
/-- P: what holds ahead of the turn i -/
def dFor (mi : DI) (g : DG) (b : DS) : DS := fun N δ m => mi δ m fun xs m1 => ∃ P : Nat → DSt → Mu → Prop, P 0 δ m1 ∧ (∀ i x δ' m', xs[i]? = some x → P i δ' m' → g x δ' m' fun δ2 m2 => b { N with nx := P (i + 1), ct := P (i + 1), bk := N.nx } δ2 m2) ∧
  ∀ δ' m', P xs.length δ' m' → N.nx δ' m'
theorem ss_for {tg iter : Expr} {body : List Stmt} {mi : DI} {g : DG} {tb : DS} (hp : PassesOwn (model X.prog X.w) X.A X.env X.xe) (hc : X.calm = true) (hi : II X B tg iter mi) (hg : EG X B tg g) (hb : SB X B body tb)
    (hs : ∀ x, foldedSetIterable iter X.env x = pure x := by intro _; rfl) : SS X B (.For tg iter body [] pos) (dFor mi g tb) := by
  obtain ⟨_, pi, ri⟩ := hi
  obtain ⟨_, pg, rg⟩ := hg
  obtain ⟨_, pb, rb⟩ := hb
  refine ⟨_, ps_for hp hc pi pg pb hs, fun G hG σ H δ m N E gb gg k en q ii => ri σ H δ m _ _ gb k en q fun J H1 xs m1 S g1 k1 ok s1 q1 => ?_⟩
  obtain ⟨P, p0, hstep, hend⟩ := q1
  refine ⟨fun i w σ H => w = xs.length - i ∧ i ≤ xs.length ∧ ∃ δ m, Grow B.1 B.2 m H ∧ G m H ∧ S m H ∧ MuOk X.K m H ∧ DEnv X.K m H σ δ ∧ P i δ m,
    ⟨xs.length, rfl, Nat.zero_le _, δ, m1, gb.trans g1, hG _ _ _ _ gg g1, s1, k1, en.mono g1, p0⟩, ?_⟩
  rintro i w σ2 H2 ⟨rfl, hi, δ2, m2, gb2, gg2, s2, k2, en2, p2⟩
  by_cases hlt : i < xs.length
  · have ex : xs[i]? = some xs[i] := List.getElem?_eq_getElem hlt
    obtain ⟨go, yl⟩ := ok.go i _ m2 H2 s2 k2 ex
    refine .inr ⟨go, fun σ' H' => ∃ δ' m', Grow B.1 B.2 m' H' ∧ G m' H' ∧ S m' H' ∧ MuOk X.K m' H' ∧ DEnv X.K m' H' σ' δ' ∧ P (i + 1) δ' m', ?_, ?_⟩
    · rintro σ' H' ⟨δ', m', a, b, c, d, e, p⟩
      exact ⟨xs.length - (i + 1), by omega, rfl, hlt, δ', m', a, b, c, d, e, p⟩
    · intro x H' y
      obtain ⟨g3, k3, h3⟩ := yl x H' y
      refine rg _ _ _ _ _ _ _ _ (gb2.trans g3) k3 (en2.mono g3) h3 (hstep i _ δ2 m2 ex p2) fun σ4 H4 δ4 m4 g4 k4 en4 q4 => ?_
      have g34 := g3.trans g4
      refine rb (fun m H => G m H ∧ S m H) (fun a b c d e f => ⟨hG _ _ _ _ e.1 f, ok.st _ _ _ _ e.2 f⟩) _ _ _ _ _ _ (gb2.trans g34) ⟨hG _ _ _ _ gg2 g34, ok.st _ _ _ _ s2 g34⟩ k4 en4 q4 ⟨?_, ?_, ?_, ?_⟩
      · exact fun σ' H' δ' m' g' k' en' p => ⟨δ', m', g'.1, g'.2.1, g'.2.2, k', en', p⟩
      · exact fun v H d m g' k' h' p => ii.rt _ _ _ _ ⟨g'.1, g'.2.1⟩ k' h' p
      · exact fun σ' H' δ' m' g' k' en' p => ii.nx _ _ _ _ ⟨g'.1, g'.2.1⟩ k' en' p
      · exact fun σ' H' δ' m' g' k' en' p => ⟨δ', m', g'.1, g'.2.1, g'.2.2, k', en', p⟩
  · have e : i = xs.length := by omega
    subst e
    exact .inl ⟨ok.stop _ m2 H2 s2 k2 (Nat.le_refl _), ii.nx _ _ _ _ ⟨gb2, gg2⟩ k2 en2 (hend _ _ p2)⟩
end
end DL

namespace DL
open PySem PySem.Spec PyProof.Rows L2

/-! ### the readings over the abstract heap that say no more than those over data -/
def tOf (K : FragK) (B : Bs) (n : DE) : TE := fun σ H Q' => ∃ δ m Q, Grow B.1 B.2 m H ∧ MuOk K m H ∧ DEnv K m H σ δ ∧ n δ m Q ∧ Lands K m H Q Q'
def tOfT (K : FragK) (B : Bs) (n : DT) : TT := fun σ H Q' => ∃ δ m Q, Grow B.1 B.2 m H ∧ MuOk K m H ∧ DEnv K m H σ δ ∧ n δ m Q ∧ LandsT K m H Q Q'
theorem EE.pe {X : Cx} {B : Bs} {e : Expr} {n : DE} (h : EE X B e n) : PE X e (tOf X.K B n) := by
  obtain ⟨t, p, r⟩ := h
  exact ⟨fun pins s σ H Q' I ⟨δ, m, Q, a, b, c, d, l⟩ => p.run pins s σ H Q' I (r σ H δ m Q Q' a b c d l)⟩
theorem ET.pt {X : Cx} {B : Bs} {e : Expr} {n : DT} (h : ET X B e n) : PT X e (tOfT X.K B n) := by
  obtain ⟨t, p, r⟩ := h
  exact ⟨fun pins s σ H Q' I ⟨δ, m, Q, a, b, c, d, l⟩ => p.run pins s σ H Q' I (r σ H δ m Q Q' a b c d l)⟩

/-! ### comprehensions -/
def wipeD (δ : DSt) : List Nat → DSt
  | [] => δ
  | v :: vs => (wipeD δ vs).set v none
theorem wipeD_length (δ : DSt) : ∀ vs : List Nat, (wipeD δ vs).length = δ.length
  | [] => rfl
  | v :: vs => by unfold wipeD; rw [List.length_set, wipeD_length δ vs]
theorem DEnv.setN {K : FragK} {m : Mu} {H : Hp} {σ : L2.St} {δ : DSt} (e : DEnv K m H σ δ) (i : Nat) : DEnv K m H (σ.set i none) (δ.set i none) := by
  refine ⟨by rw [List.length_set, List.length_set]; exact e.1, fun j u q => ?_⟩
  by_cases z : i = j
  · subst z
    rw [List.getElem?_set, if_pos rfl] at q
    split at q <;> cases q
  · rw [List.getElem?_set_ne z] at q ⊢
    exact e.2 j u q
theorem DEnv.wipe {K : FragK} {m : Mu} {H : Hp} {σ : L2.St} {δ : DSt} (e : DEnv K m H σ δ) : ∀ vs : List Nat, DEnv K m H (L2.wipe σ vs) (wipeD δ vs)
  | [] => e
  | v :: vs => (DEnv.wipe e vs).setN v
theorem wipe_set {σ : L2.St} {j : Nat} {x : Option V} : ∀ {vs : List Nat}, j ∈ vs → L2.wipe (σ.set j x) vs = L2.wipe σ vs := by
  have comm : ∀ {vs : List Nat}, L2.wipe (σ.set j x) vs = L2.wipe σ vs ∨ L2.wipe (σ.set j x) vs = (L2.wipe σ vs).set j x := by
    intro vs
    induction vs with
    | nil => exact .inr rfl
    | cons v vs ih =>
      rcases ih with e | e
      · left
        show (L2.wipe (σ.set j x) vs).set v none = (L2.wipe σ vs).set v none
        rw [e]
      · by_cases z : j = v
        · left
          show (L2.wipe (σ.set j x) vs).set v none = (L2.wipe σ vs).set v none
          rw [e, z, List.set_set]
        · right
          show (L2.wipe (σ.set j x) vs).set v none = ((L2.wipe σ vs).set v none).set j x
          rw [e, List.set_comm _ _ z]
  intro vs
  induction vs with
  | nil => intro h; cases h
  | cons v vs ih =>
    intro h
    show (L2.wipe (σ.set j x) vs).set v none = (L2.wipe σ vs).set v none
    rcases List.mem_cons.mp h with e | h
    · rcases comm (vs := vs) with e2 | e2
      · rw [e2]
      · rw [e2, e, List.set_set]
    · rw [ih h]
/-- a target whose names are among vs -/
def LandsV (K : FragK) (m : Mu) (H : Hp) (vs : List Nat) (σ₀ : L2.St) (Q : DSt → Mu → Prop) (Q' : L2.St → Hp → Prop) : Prop := ∀ σ H' δ m', Grow m H m' H' → MuOk K m' H' → DEnv K m' H' σ δ → L2.wipe σ vs = L2.wipe σ₀ vs → Q δ m' → Q' σ H'
def RefV (K : FragK) (B : Bs) (vs : List Nat) (t : TG) (n : DG) : Prop := ∀ (v : V) (σ : L2.St) (H : Hp) (d : D) (δ : DSt) (m : Mu) (Q : DSt → Mu → Prop) (Q' : L2.St → Hp → Prop), Grow B.1 B.2 m H → MuOk K m H → DEnv K m H σ δ → Has K m H v d → n d δ m Q → LandsV K m H vs σ Q Q' → t v σ H Q'
def RefVs (K : FragK) (B : Bs) (vs : List Nat) (t : TGs) (n : DGs) : Prop := ∀ (ws : List V) (σ : L2.St) (H : Hp) (ds : List D) (δ : DSt) (m : Mu) (Q : DSt → Mu → Prop) (Q' : L2.St → Hp → Prop), Grow B.1 B.2 m H → MuOk K m H → DEnv K m H σ δ → HasAll K m H ws ds → n ds δ m Q → LandsV K m H vs σ Q Q' → t ws σ H Q'
structure EGv (X : Cx) (B : Bs) (vs : List Nat) (e : Expr) (n : DG) : Prop where
  ex : ∃ t, PG X e t ∧ RefV X.K B vs t n
structure EGvs (X : Cx) (B : Bs) (vs : List Nat) (es : List Expr) (n : DGs) : Prop where
  ex : ∃ t, PGs X es t ∧ RefVs X.K B vs t n
def tOfV (K : FragK) (B : Bs) (vs : List Nat) (n : DG) : TG := fun v σ H Q' => ∃ d δ m Q, Grow B.1 B.2 m H ∧ MuOk K m H ∧ DEnv K m H σ δ ∧ Has K m H v d ∧ n d δ m Q ∧ LandsV K m H vs σ Q Q'
theorem EGv.pg {X : Cx} {B : Bs} {vs : List Nat} {e : Expr} {n : DG} (h : EGv X B vs e n) : PG X e (tOfV X.K B vs n) := by
  obtain ⟨t, p, r⟩ := h
  exact ⟨fun pins s σ H v u Q' I rv ⟨d, δ, m, Q, a, b, c, d', q, l⟩ => p.run pins s σ H v u Q' I rv (r v σ H d δ m Q Q' a b c d' q l)⟩
section
variable {X : Cx} {B : Bs} {vs : List Nat} {pos : Pos} {e : Expr} {es : List Expr} {g : DG} {gs : DGs}
theorem egv_name {x : Str} (i : Nat) (hN : X.N.Nodup) (hm : i ∈ vs := by decide) (hi : X.N[i]? = some x := by rfl) (hx : Loc X.env.scope x := by first | exact Or.inl rfl | exact Or.inr rfl) (hf : X.fn x = true ∨ X.env.scope.names.lookup x = some .local := by first | exact .inl rfl | exact .inr rfl | assumption) : EGv X B vs (.Name x pos) (hName i) :=
  ⟨_, pg_name hN hi hx hf, fun v σ H d δ m Q Q' gb k en h q l => l _ _ _ _ (Grow.refl _ _) k (en.set i h) (wipe_set hm) q⟩
theorem egvs_nil : EGvs X B vs [] hNil := ⟨_, pgs_nil, fun ws σ H ds δ m Q Q' gb k en h q l => by
  unfold hNil at q
  split at q
  · cases h
    exact ⟨rfl, l _ _ _ _ (Grow.refl _ _) k en rfl q⟩
  · exact q.elim⟩
theorem egvs_cons (h1 : EGv X B vs e g) (h2 : EGvs X B vs es gs) (hs : (assignEach (e :: es) X.env).map (·.2) = assign e X.env :: (assignEach es X.env).map (·.2) := by rfl) : EGvs X B vs (e :: es) (hCons g gs) := by
  obtain ⟨_, p1, r1⟩ := h1
  obtain ⟨_, p2, r2⟩ := h2
  refine ⟨_, pgs_cons p1 p2 hs, fun ws σ H ds δ m Q Q' gb k en h q l => ?_⟩
  unfold hCons at q
  split at q
  · cases h with
    | cons h t => exact ⟨_, _, rfl, r1 _ _ _ _ _ _ _ _ gb k en h q fun σ1 H1 δ1 m1 g1 k1 en1 w1 q1 => r2 _ _ _ _ _ _ _ _ (gb.trans g1) k1 en1 (t.mono g1) q1 fun σ2 H2 δ2 m2 g2 k2 en2 w2 q2 => l _ _ _ _ (g1.trans g2) k2 en2 (w2.trans w1) q2⟩
  · exact q.elim
theorem egv_tup {n k : Nat} (hc : X.calm = true) (h : EGvs X B vs es gs) (hn : (assignEach es X.env).length = n := by rfl) (hst : (assignEach es X.env).findIdx? (·.1) = none := by rfl) : EGv X B vs (.Tuple es k pos) (hTup n gs) := by
  obtain ⟨_, p, r⟩ := h
  refine ⟨_, pg_tup hc p hn hst, fun v σ H d δ m Q Q' gb k en h q l => ?_⟩
  unfold hTup at q
  split at q
  · cases h with
    | tup hs ha => exact ⟨_, _, rfl, hs.sq, by rw [ha.length]; exact q.1, r _ _ _ _ _ _ _ _ gb k en ha q.2 l⟩
  · exact q.elim
  · exact q.elim
end
structure EIf (X : Cx) (B : Bs) (ifs : List Expr) (n : DT) : Prop where
  ex : ∃ t, PTs X ifs t ∧ RefT X.K B t n
@[simp] def dYes : DT := fun _ m Q => Q true m
theorem ei_nil {X : Cx} {B : Bs} : EIf X B [] dYes := ⟨_, pts_nil, fun σ H δ m Q Q' gb k en q l => l _ _ _ (Grow.refl _ _) k q⟩
theorem ei_one {X : Cx} {B : Bs} {c : Expr} {n : DT} (h : ET X B c n) : EIf X B [c] n := by
  obtain ⟨t, p, r⟩ := h
  exact ⟨_, pts_one p, r⟩
theorem EIf.pts {X : Cx} {B : Bs} {ifs : List Expr} {n : DT} (h : EIf X B ifs n) : PTs X ifs (tOfT X.K B n) := by
  obtain ⟨t, p, r⟩ := h
  exact ⟨fun pins s σ H Q' I ⟨δ, m, Q, a, b, c, d, l⟩ => p.run pins s σ H Q' I (r σ H δ m Q Q' a b c d l)⟩
/-- P: what holds ahead of turn i of the items made so far; the list that is made is hidden at p -/
def dLc (mi : DI) (g : DG) (tt : DT) (te : DE) (vs : List Nat) : DE := fun δ m Q => mi δ m fun xs m1 => xs.length < sizeLine ∧ ∀ p, m1 p = none → ∃ P : Nat → List D → Mu → Prop, P 0 [] (put m1 p .hid) ∧
  (∀ i x acc m', xs[i]? = some x → acc.length ≤ i → P i acc m' → g x (wipeD δ vs) m' fun δ2 m2 => tt δ2 m2 fun b m3 => match b with
    | true => te δ2 m3 fun y m4 => P (i + 1) (acc ++ [y]) m4
    | false => P (i + 1) acc m3) ∧ ∀ acc m', acc.length ≤ xs.length → P xs.length acc m' → Q (.lst acc) (del m' p)
theorem wipe_same : ∀ (us : List Nat) (τ : L2.St), (∀ i ∈ us, ∀ x, τ[i]? ≠ some (some x)) → L2.wipe τ us = τ := by
  intro us
  induction us with
  | nil => intro τ _; rfl
  | cons v us ih =>
    intro τ h
    show (L2.wipe τ us).set v none = τ
    rw [ih τ fun i hi x => h i (List.mem_cons_of_mem _ hi) x]
    have hv := h v List.mem_cons_self
    apply List.ext_getElem?
    intro j
    by_cases z : v = j
    · subst z
      rw [List.getElem?_set, if_pos rfl]
      split
      · rename_i hl
        rw [List.getElem?_eq_getElem hl]
        cases e : τ[v] with
        | none => rfl
        | some x => exact absurd (by rw [List.getElem?_eq_getElem hl, e]) (hv x)
      · rename_i hl
        rw [List.getElem?_eq_none (by omega)]
    · rw [List.getElem?_set_ne z]
section
variable {K : FragK} {B : Bs} {mi : DI} {g : DG} {tt : DT} {te : DE} {vs : List Nat} {wi : TI}
theorem ref_lc (ri : RefI K B wi mi) : RefE K B (tLc wi (tOfV K B vs g) (tOfT K B tt) (tOf K B te) vs) (dLc mi g tt te vs) := by
  intro σ H δ m Q Q' gb k en q l
  refine ri σ H δ m _ _ gb k en q fun J H1 xs m1 S g1 k1 ok s1 q1 => ?_
  obtain ⟨hz, q1⟩ := q1
  intro D hD
  obtain ⟨P, p0, hstep, hend⟩ := q1 D (k1.free hD)
  have gD : Grow m1 H1 (put m1 D .hid) (upd H1 D (.lst [])) := Grow.newM k1 hD
  have kD : MuOk K (put m1 D .hid) (upd H1 D (.lst [])) := k1.newM hD (show HasM K _ _ D .hid from ⟨_, upd_same⟩)
  refine ⟨fun i w H => w = xs.length - i ∧ i ≤ xs.length ∧ ∃ m' acc us, Grow m1 H1 m' H ∧ MuOk K m' H ∧ H D = some (.lst us) ∧ m' D = some .hid ∧ HasAll K m' H us acc ∧ acc.length ≤ i ∧ P i acc m',
    ⟨xs.length, rfl, Nat.zero_le _, _, [], [], gD, kD, upd_same, put_same, .nil, Nat.le_refl _, p0⟩, ?_⟩
  rintro i w H2 ⟨rfl, hi, m2, acc, us, g2, k2, hD2, hm2, ha2, hl2, p2⟩
  have s2 := ok.st _ _ _ _ s1 g2
  have gb2 := (gb.trans g1).trans g2
  by_cases hlt : i < xs.length
  · have ex : xs[i]? = some xs[i] := List.getElem?_eq_getElem hlt
    obtain ⟨go, yl⟩ := ok.go i _ m2 H2 s2 k2 ex
    refine .inr ⟨go, fun H' => ∃ m' acc us, Grow m1 H1 m' H' ∧ MuOk K m' H' ∧ H' D = some (.lst us) ∧ m' D = some .hid ∧ HasAll K m' H' us acc ∧ acc.length ≤ i + 1 ∧ P (i + 1) acc m', ?_, ?_⟩
    · rintro H' ⟨m', acc', us', b, d, e, f, h, h', p⟩
      exact ⟨xs.length - (i + 1), by omega, rfl, hlt, m', acc', us', b, d, e, f, h, h', p⟩
    · intro x H' y
      obtain ⟨g3, k3, h3⟩ := yl x H' y
      have en3 : DEnv K m2 H' (L2.wipe σ vs) (wipeD δ vs) := (((en.mono g1).mono g2).mono g3).wipe vs
      refine ⟨_, _, m2, _, gb2.trans g3, k3, en3, h3, hstep i _ acc m2 ex hl2 p2, fun σ4 H4 δ4 m4 g4 k4 en4 w4 q4 => ⟨?_, ?_⟩⟩
      · rw [w4]
        exact wipe_same vs _ fun i hi x h => (wipe_some h).2 hi
      · refine ⟨δ4, m4, _, (gb2.trans g3).trans g4, k4, en4, q4, fun b H5 m5 g5 k5 q5 => ?_⟩
        have g35 := (g3.trans g4).trans g5
        obtain ⟨D5m, D5⟩ := g35.2 D hm2
        cases b with
        | true =>
          refine (show (if true = true then _ else _) from ?_)
          rw [if_pos rfl]
          refine ⟨δ4, m5, _, (gb2.trans g35), k5, en4.mono g5, q5, fun v H6 d m6 g6 k6 h6 q6 => ?_⟩
          have g36 := g35.trans g6
          obtain ⟨D6m, D6⟩ := g36.2 D hm2
          have gI : GrowI m6 H6 m6 (upd H6 D (.lst (us ++ [v]))) := fun a u e n => by
            have ne : a ≠ D := fun z => by rw [z, D6m] at n; cases n
            exact ⟨by rw [upd_ne ne]; exact e, n⟩
          have gN : Grow m1 H1 m6 (upd H6 D (.lst (us ++ [v]))) := by
            have gg := g2.trans g36
            refine ⟨gg.1.trans gI, fun a e => ?_⟩
            obtain ⟨o, qo⟩ := (k1 a _ e).there
            rw [upd_ne (ne_of_none qo hD)]
            exact gg.2 a e
          refine ⟨us, by rw [D6]; exact hD2, by rw [ha2.length]; omega, m6, acc ++ [d], us ++ [v], gN, fun a c e => ?_, upd_same, D6m, ?_, by rw [List.length_append]; simp; omega, q6⟩
          · by_cases z : a = D
            · subst z
              rw [D6m] at e
              cases e
              exact ⟨_, upd_same⟩
            · exact (k6 a c e).monoI gI (upd_ne z)
          · exact (HasAll.monoI gI _ _ (ha2.mono g36)).append (.cons (Has.monoI gI _ _ h6) .nil)
        | false =>
          refine (show (if false = true then _ else _) from ?_)
          rw [if_neg Bool.false_ne_true]
          exact ⟨m5, acc, us, g2.trans g35, k5, by rw [D5]; exact hD2, D5m, ha2.mono g35, by omega, q5⟩
  · have e : i = xs.length := by omega
    subst e
    have gF : GrowI m2 H2 (del m2 D) H2 := GrowI.fz
    refine .inl ⟨ok.stop _ m2 H2 s2 k2 (Nat.le_refl _), l _ _ _ _ (g1.trans ⟨g2.1.trans gF, fun a e => ?_⟩) k2.fz (.lst hD2 del_same (HasAll.monoI gF _ _ ha2)) (hend acc m2 hl2 p2)⟩
    obtain ⟨o, qo⟩ := (k1 a _ e).there
    rw [del_ne (ne_of_none qo hD)]
    exact g2.2 a e
end
section
variable {X : Cx} {B : Bs} {elt tg iter : Expr} {ifs : List Expr} {scope : Scope} {own : List (Str × Nat)} {pos : Pos} {mi : DI} {g : DG} {tt : DT} {te : DE}
theorem ee_lc (hc : X.calm = true) (hN : X.N.Nodup) (hi : II X B tg iter mi) (ok : BlkOk X.N X.env.scope scope own)
    (hg : ∀ (s : Shared) (H : Hp) (C : Addr) (cl : List (Str × Addr)) (fp : List Addr), EGv (X.blk s H scope (compEnvC scope cl C X.env) fp) B (own.map (·.2)) tg g)
    (ht : ∀ (s : Shared) (H : Hp) (C : Addr) (cl : List (Str × Addr)) (fp : List Addr), EIf (X.blk s H scope (compEnvC scope cl C X.env) fp) B ifs tt)
    (he : ∀ (s : Shared) (H : Hp) (C : Addr) (cl : List (Str × Addr)) (fp : List Addr), EE (X.blk s H scope (compEnvC scope cl C X.env) fp) B elt te) (hs : ∀ x, foldedSetIterable iter X.env x = pure x := by intro _; rfl) :
    EE X B (.ListComp elt [⟨tg, iter, ifs, 0⟩] scope pos) (dLc mi g tt te (own.map (·.2))) := by
  obtain ⟨_, pi, ri⟩ := hi
  exact ⟨_, pe_lc hc hN pi ok (fun s H C cl fp => (hg s H C cl fp).pg) (fun s H C cl fp => (ht s H C cl fp).pts) (fun s H C cl fp => (he s H C cl fp).pe) hs, ref_lc ri⟩
theorem ss_setLc {y : Str} {py spos : Pos} (i : Nat) (hc : X.calm = true) (hN : X.N.Nodup) (hi : II X B tg iter mi) (ok : BlkOk X.N X.env.scope scope own)
    (hg : ∀ (s : Shared) (H : Hp) (C : Addr) (cl : List (Str × Addr)) (fp : List Addr), EGv (X.blk s H scope (compEnvC scope cl C X.env) fp) B (own.map (·.2)) tg g)
    (ht : ∀ (s : Shared) (H : Hp) (C : Addr) (cl : List (Str × Addr)) (fp : List Addr), EIf (X.blk s H scope (compEnvC scope cl C X.env) fp) B ifs tt)
    (he : ∀ (s : Shared) (H : Hp) (C : Addr) (cl : List (Str × Addr)) (fp : List Addr), EE (X.blk s H scope (compEnvC scope cl C X.env) fp) B elt te)
    (hy : X.N[i]? = some y := by rfl) (hyl : X.env.scope.names.lookup y = some .local := by rfl) (hsw : swapsWith (.ListComp elt [⟨tg, iter, ifs, 0⟩] scope pos) (some (.Name y py)) spos.line X.env = pure true := by exact sw_true rfl rfl rfl (by decide +kernel))
    (hs : ∀ x, foldedSetIterable iter X.env x = pure x := by intro _; rfl) :
    SS X B (.Assign [.Name y py] (.ListComp elt [⟨tg, iter, ifs, 0⟩] scope pos) spos) (dAsg (dLc mi g tt te (own.map (·.2))) (hName i)) := by
  obtain ⟨_, pi, ri⟩ := hi
  exact ⟨_, ps_setLc (i := i) hc hN hy hyl hsw pi ok (fun s H C cl fp => (hg s H C cl fp).pg) (fun s H C cl fp => (ht s H C cl fp).pts) (fun s H C cl fp => (he s H C cl fp).pe) hs,
    ref_asg (ref_lc ri) fun v σ H d δ m Q Q' gb k en h q l => l _ _ _ _ (Grow.refl _ _) k (en.set i h) q⟩
end

/-! ### defs -/
abbrev DX := Addr → List Str → List D → Mu → Prop
abbrev DW := Addr → List Str → List D → DSt → Mu → Prop
abbrev SpD := List D → Mu → DQ → DX → Prop
def liftW (K : FragK) (B : Bs) (W : DW) : WX := fun cls d σ H => ∃ (C : Addr) (ks : List Str) (vs : List D) (δ : DSt) (m : Mu), cls = .ref C ∧ Grow B.1 B.2 m H ∧ MuOk K m H ∧ DEnv K m H σ δ ∧ ExF K m H d ks vs ∧ W C ks vs δ m
def liftX (K : FragK) (B : Bs) (E : DX) : XK := fun cls d H => ∃ (C : Addr) (ks : List Str) (vs : List D) (m : Mu), cls = .ref C ∧ Grow B.1 B.2 m H ∧ MuOk K m H ∧ ExF K m H d ks vs ∧ E C ks vs m
def liftSp (K : FragK) (sp : SpD) : Sp := fun vs H Q E => ∃ (ds : List D) (m : Mu) (QD : DQ) (ED : DX), MuOk K m H ∧ HasAll K m H vs ds ∧ sp ds m QD ED ∧ Lands K m H QD Q ∧ ∀ cls d H', liftX K (m, H) ED cls d H' → E cls d H'
def TakesD (X : Cx) (B : Bs) (W : DW) : Prop := Takes X (liftW X.K B W)
def W0 : DW := fun _ _ _ _ _ => False
theorem takesD0 {X : Cx} {B : Bs} : TakesD X B W0 := Takes.imp takes0 fun c d σ H ⟨_, _, _, _, _, _, _, _, _, _, z⟩ => z
/-- a def of the module -/
structure FnD (P : Program) (w : World) (K : FragK) (mg : Str → Option Value) (base : Heap) (k : Nat) (x : Str) (ps : List Str) (sp : SpD) : Prop where
  ex : ∃ (f : Addr) (fd : FuncData), mg x = some (.ref f) ∧ PySem.W.keepIn K (.ref f) = true ∧ FnOk P w K mg base (L2.CX P w) k f fd ps (liftSp K sp) ∧ Binds K fd ps []
@[simp] def dCallF (sp : SpD) (W : DW) (na : DA) : DE := fun δ m Q => na δ m fun ds m1 => sp ds m1 Q fun C ks vs m2 => W C ks vs δ m2
section
variable {X : Cx} {B : Bs} {k : Nat} {x : Str} {ps : List Str} {sp : SpD} {W : DW} {e : Expr} {es : List Expr} {na : DA} {p pos : Pos}
theorem ee_callF (F : FnD X.prog X.w X.K X.mg X.base k x ps sp) (hr : Room k X.A) (hg : Gl X x) (tk : TakesD X B W) (ha : EA X B (e :: es) na) (hdb : (x == ("__debug__" : Str)) = false := by decide)
    (he : starEach (e :: es) X.env = (false, eval e X.env) :: starEach es X.env := by rfl) (hpl : (backTo pos (starEach es X.env)).any (·.1) = false := by rfl) : EE X B (.Call (.Name x p) (e :: es) [] pos) (dCallF sp W na) := by
  obtain ⟨f, fd, hm, hk, F, hb⟩ := F.ex
  obtain ⟨_, pa, ra⟩ := ha
  refine ⟨_, pe_callSD (E := fun σ => WE (liftW X.K B W) σ) F hr hg hm hk hb .nil (fun σ => passAt tk σ) pa hdb he hpl, fun σ H δ m Q Q' gb k en q l => ra σ H δ m _ _ gb k en q fun vs H1 ds m1 g1 k1 h1 q1 => ?_⟩
  rw [List.append_nil]
  refine ⟨ds, m1, Q, _, k1, h1, q1, fun v H2 d m2 g2 k2 h2 q2 => l _ _ _ _ (g1.trans g2) k2 h2 q2, ?_⟩
  rintro cls d H2 ⟨C, ks, us, m2, rfl, g2, k2, ef, w⟩
  exact ⟨C, ks, us, δ, m2, rfl, (gb.trans g1).trans g2, k2, (en.mono g1).mono g2, ef, w⟩
theorem ee_callF0 (F : FnD X.prog X.w X.K X.mg X.base k x ps sp) (hr : Room k X.A) (hg : Gl X x) (hdb : (x == ("__debug__" : Str)) = false := by decide) : EE X B (.Call (.Name x p) [] [] pos) (dCallF sp W0 dNil) := by
  obtain ⟨f, fd, hm, hk, F, hb⟩ := F.ex
  refine ⟨_, pe_call0 (E := fun _ _ _ => False) F hr hg hm hk hb .nil passL hdb, fun σ H δ m Q Q' gb k en q l => ?_⟩
  refine ⟨[], m, Q, _, k, .nil, q, fun v H2 d m2 g2 k2 h2 q2 => l _ _ _ _ g2 k2 h2 q2, ?_⟩
  rintro cls d H2 ⟨C, ks, us, m2, rfl, g2, k2, ef, w⟩
  exact w
end
/-- a def keeps its promise by its body -/
theorem fnD_mk {P : Program} {w : World} {K : FragK} {mg : Str → Option Value} {base : Heap} {x qual : Str} {params : Arguments} {body : List Stmt} {scope : Scope} {kws : List (Str × V)} {f : Addr} {fd : FuncData} {N ps : List Str} {k : Nat} {sp : SpD}
    (F : FunD K x qual params body scope [] kws f fd) (gl : mg x = some (.ref f)) (S : FnScope N ps scope)
    (hbind : ∀ (kV doc pm : Value) (an : Option Addr) (cdv ct : Value) (us : List Value), us.length = ps.length → bindArgs (PySem.W.fnOf x qual params body scope .none kV doc pm an cdv ct) ⟨us, []⟩ = pure (ps.zip us))
    (len : ∀ ds m Q E, sp ds m Q E → ds.length = ps.length) (n : DW → DS)
    (hb : ∀ (cdv : Value) (A : Around) (outer : List Env) (s : Shared) (H : Hp) (E : XK) (B : Bs) (W : DW), Room k (A.deeper (envOfC qual scope s.heap.objs.size f cdv)) → TakesD (cxOf (L2.CX P w) P w K mg base N qual scope f cdv A outer s H E) B W →
      SB (cxOf (L2.CX P w) P w K mg base N qual scope f cdv A outer s H E) B body (n W))
    (hp : ∀ ds m Q E, sp ds m Q E → n (fun C ks vs _ m' => E C ks vs m') { nx := fun _ m' => Q .non m', rt := Q } (startD N ds) m) : FnD P w K mg base (k + 1) x ps sp := by
  refine ⟨f, fd, gl, F.kp, ?_, FunD.bindsN F hbind⟩
  refine F.ok S (fun vs H Q E ⟨ds, m, QD, ED, _, ha, hs, _⟩ => by rw [ha.length]; exact len _ _ _ _ hs) fun cdv A outer s H vs Q E hr ⟨ds, m, QD, ED, km, ha, hs, lQ, lE⟩ => ?_
  have tk : TakesD (cxOf (L2.CX P w) P w K mg base N qual scope f cdv A outer s H E) (m, H) (fun C ks vs _ m' => ED C ks vs m') := by
    refine Takes.imp (takes_of rfl rfl rfl rfl) fun c d σ H' ⟨C, ks, us, δ, m', e, g, k', en, ef, w⟩ => lE _ _ _ ⟨C, ks, us, m', e, g, k', ef, w⟩
  obtain ⟨t, pt, rt⟩ := hb cdv A outer s H E (m, H) _ hr tk
  refine ⟨t, pt, rt (fun _ _ => True) (fun _ _ _ _ _ _ => trivial) _ _ _ _ _ _ (Grow.refl _ _) trivial km (denv_start ha) (hp ds m QD ED hs) ⟨?_, ?_, ?_, ?_⟩⟩
  · exact fun σ H' δ m' g k en q => lQ _ _ _ _ g.1 k .non q
  · exact fun v H' d m' g k h q => lQ _ _ _ _ g.1 k h q
  · exact fun _ _ _ _ _ _ _ z => z.elim
  · exact fun _ _ _ _ _ _ _ z => z.elim
end DL

namespace DL
open PySem PySem.Spec PyProof.Rows L2

section
variable {X : Cx}
/-! ### len, abs, min, max, all, isinstance, int, str, list, tuple, repr -/
@[simp] def gLen : DO1 := fun ds m Q => match ds with
  | [.str y] => y.length ≤ sizeLine ∧ Q (.int y.length) m
  | [.lst xs] => Q (.int xs.length) m
  | [.scr xs] => Q (.int xs.length) m
  | [.tup xs] => Q (.int xs.length) m
  | [.obj p] => match m p with
    | some (.lst xs) => Q (.int xs.length) m
    | _ => False
  | _ => False
theorem cd_len : CallD X (.builtin "len") gLen := by
  refine ⟨_, call_len, ?_⟩
  intro xs H ds m Q Q' k h q l
  unfold gLen at q
  split at q
  · obtain ⟨v, rfl, hv⟩ := h.ones
    cases hv
    exact ⟨_, _, rfl, ⟨q.1, rfl⟩, l.at k (.int _) q.2⟩
  · obtain ⟨v, rfl, hv⟩ := h.ones
    cases hv with
    | lst hs n ha => exact ⟨_, _, rfl, .inl ⟨_, SqL.of hs, ha.length.symm⟩, l.at k (.int _) q⟩
  · obtain ⟨v, rfl, hv⟩ := h.ones
    cases hv with
    | scr hs ha => exact ⟨_, _, rfl, .inl ⟨_, hs.sq, ha.length.symm⟩, l.at k (.int _) q⟩
  · obtain ⟨v, rfl, hv⟩ := h.ones
    cases hv with
    | tup hs ha => exact ⟨_, _, rfl, .inr ⟨_, hs.sq, ha.length.symm⟩, l.at k (.int _) q⟩
  · split at q
    · rename_i xs hm
      obtain ⟨v, rfl, hv⟩ := h.ones
      cases hv
      obtain ⟨ys, hs, ha⟩ := k _ _ hm
      exact ⟨_, _, rfl, .inl ⟨_, SqL.of hs, ha.length.symm⟩, l.at k (.int _) q⟩
    · exact q.elim
  · exact q.elim
@[simp] def gAbs : DO1 := fun ds m Q => match ds with
  | [.int i] => Q (.int (i.natAbs : Int)) m
  | _ => False
theorem cd_abs : CallD X (.builtin "abs") gAbs := by
  refine ⟨_, call_abs, ?_⟩
  intro xs H ds m Q Q' k h q l
  unfold gAbs at q
  split at q
  · rename_i i
    obtain ⟨v, rfl, hv⟩ := h.ones
    cases hv
    refine ⟨_, rfl, l.at k (d := .int (i.natAbs : Int)) ?_ q⟩
    have e : (if i < 0 then -i else i) = (i.natAbs : Int) := by split <;> omega
    rw [e]
    exact .int _
  · exact q.elim
def intsD : List D → Option (List Int)
  | [] => some []
  | .int i :: r => (intsD r).map (i :: ·)
  | _ => none
theorem intsD_ok : ∀ {ds : List D} {ns : List Int}, intsD ds = some ns → ds = ns.map D.int
  | [], ns, h => by cases h; rfl
  | d :: r, ns, h => by
    cases d <;> try (exact nomatch (show (none : Option (List Int)) = some ns from h))
    rename_i i
    have h2 : (intsD r).map (i :: ·) = some ns := h
    cases e : intsD r with
    | none => rw [e] at h2; cases h2
    | some ms =>
      rw [e] at h2
      cases h2
      rw [intsD_ok e]
      rfl
@[simp] def gMin : DO1 := fun ds m Q => match ds with
  | [.int i, .int j] => Q (.int (min i j)) m
  | [.lst xs] => ∃ ns : List Int, xs = ns.map D.int ∧ 0 < ns.length ∧ ∀ a, a ∈ ns → (∀ y, y ∈ ns → a ≤ y) → Q (.int a) m
  | _ => False
theorem cd_min (hc : X.calm = true) : CallD X (.builtin "min") gMin := by
  refine ⟨_, CallR.or (call_min2 hc) (cr_min hc), ?_⟩
  intro xs H ds m Q Q' k h q l
  unfold gMin at q
  split at q
  · rename_i i j
    obtain ⟨v, u, rfl, hv, h'⟩ := h.twos
    cases hv; cases h'
    refine .inl ⟨_, _, rfl, l.at k (d := .int (min i j)) ?_ q⟩
    have e : (if j < i then j else i) = min i j := by split <;> omega
    rw [e]
    exact .int _
  · obtain ⟨ns, rfl, hn, q⟩ := q
    obtain ⟨v, rfl, hv⟩ := h.ones
    cases hv with
    | lst hs n ha =>
      rw [hasAll_ints ha] at hs
      exact .inr ⟨_, ns, rfl, SqL.of hs, hn, fun a ha hb => l.at k (.int _) (q a ha hb)⟩
  · exact q.elim
@[simp] def gMax : DO1 := fun ds m Q => match ds with
  | [.int i, .int j] => Q (.int (max i j)) m
  | [.lst xs] => ∃ ns : List Int, xs = ns.map D.int ∧ 0 < ns.length ∧ ∀ a, a ∈ ns → (∀ y, y ∈ ns → y ≤ a) → Q (.int a) m
  | _ => False
theorem cd_max (hc : X.calm = true) : CallD X (.builtin "max") gMax := by
  refine ⟨_, CallR.or (call_max2 hc) (cr_max hc), ?_⟩
  intro xs H ds m Q Q' k h q l
  unfold gMax at q
  split at q
  · rename_i i j
    obtain ⟨v, u, rfl, hv, h'⟩ := h.twos
    cases hv; cases h'
    refine .inl ⟨_, _, rfl, l.at k (d := .int (max i j)) ?_ q⟩
    have e : (if j > i then j else i) = max i j := by split <;> omega
    rw [e]
    exact .int _
  · obtain ⟨ns, rfl, hn, q⟩ := q
    obtain ⟨v, rfl, hv⟩ := h.ones
    cases hv with
    | lst hs n ha =>
      rw [hasAll_ints ha] at hs
      exact .inr ⟨_, ns, rfl, SqL.of hs, hn, fun a ha hb => l.at k (.int _) (q a ha hb)⟩
  · exact q.elim
@[simp] def gSum : DO1 := fun ds m Q => match ds with
  | [.lst xs] => ∃ ns : List Int, xs = ns.map D.int ∧ Q (.int ns.sum) m
  | _ => False
theorem cd_sum (hc : X.calm = true) : CallD X (.builtin "sum") gSum := by
  refine ⟨_, cr_sum hc, ?_⟩
  intro xs H ds m Q Q' k h q l
  unfold gSum at q
  split at q
  · obtain ⟨ns, rfl, q⟩ := q
    obtain ⟨v, rfl, hv⟩ := h.ones
    cases hv with
    | lst hs n ha =>
      rw [hasAll_ints ha] at hs
      exact ⟨_, ns, rfl, SqL.of hs, l.at k (.int _) q⟩
  · exact q.elim
@[simp] def gAll : DO1 := fun ds m Q => match ds with
  | [.lst xs] => ∃ bs : List Bool, xs = bs.map D.bl ∧ Q (.bl (bs.all id)) m
  | _ => False
@[simp] def gAny : DO1 := fun ds m Q => match ds with
  | [.lst xs] => ∃ bs : List Bool, xs = bs.map D.bl ∧ Q (.bl (bs.any id)) m
  | _ => False
theorem cd_all (hc : X.calm = true) : CallD X (.builtin "all") gAll := by
  refine ⟨_, cr_all hc, ?_⟩
  intro xs H ds m Q Q' k h q l
  unfold gAll at q
  split at q
  · obtain ⟨ns, rfl, q⟩ := q
    obtain ⟨v, rfl, hv⟩ := h.ones
    cases hv with
    | lst hs n ha =>
      rw [hasAll_bls ha] at hs
      exact ⟨_, ns, rfl, SqL.of hs, l.at k (.bl _) q⟩
  · exact q.elim
theorem cd_any (hc : X.calm = true) : CallD X (.builtin "any") gAny := by
  refine ⟨_, cr_any hc, ?_⟩
  intro xs H ds m Q Q' k h q l
  unfold gAny at q
  split at q
  · obtain ⟨ns, rfl, q⟩ := q
    obtain ⟨v, rfl, hv⟩ := h.ones
    cases hv with
    | lst hs n ha =>
      rw [hasAll_bls ha] at hs
      exact ⟨_, ns, rfl, SqL.of hs, l.at k (.bl _) q⟩
  · exact q.elim
/-- a value's type by its name -/
def tyN : D → Option String
  | .non => some "NoneType"
  | .bl _ => some "bool"
  | .int _ => some "int"
  | .str _ => some "str"
  | .tup _ => some "tuple"
  | .lst _ => some "list"
  | .scr _ => some "list"
  | .dct _ _ => some "dict"
  | _ => none
theorem Has.tyX {K : FragK} {m : Mu} {H : Hp} {v : V} {d : D} {t : String} (h : Has K m H v d) (e : tyN d = some t) : TyX K H v (.type t) := by
  cases h <;> cases e
  · exact .base .non
  · exact .base (.bl _)
  · exact .base (.int _)
  · exact .base (.str _)
  · rename_i hs ha
    rcases hs with ⟨_, hs | ⟨o, hs⟩⟩ | ⟨o, its, n, hl, hc, _⟩
    · exact .base (.tup hs)
    · exact .fTuple hs
    · exact .kTuple hl hc
  · rename_i hs n ha
    exact .base (.lst hs)
  · rename_i hs ha
    rcases hs with ⟨_, hs | ⟨o, hs⟩⟩ | ⟨o, its, n, hl, hc, _⟩
    · exact .base (.lst hs)
    · exact .base (.frz hs)
    · exact .kList hl hc
  · rename_i hs n ha
    exact .base (.dK hs)
def isTy (a b : String) : Bool := a == b || (a == "bool" && b == "int")
def tyNames : List String := ["NoneType", "bool", "int", "str", "tuple", "list", "dict"]
theorem kit_tab : (tyNames.all fun a => tyNames.all fun b => kitB a b == some (isTy a b)) = true := by decide +kernel
theorem kit_tab' {a b : String} (ha : a ∈ tyNames) (hb : b ∈ tyNames) {K : FragK} : PySem.W.kitOne K (.type a) (.type b) = some (isTy a b) := by
  have h := List.all_eq_true.mp (List.all_eq_true.mp kit_tab a ha) b hb
  exact kit_ty (by simpa using h)
theorem tyN_mem {d : D} {t : String} (h : tyN d = some t) : t ∈ tyNames := by
  cases d <;> cases h <;> decide
/-- isinstance(x, T), isinstance(x, (T1, ..)), built-in classes -/
@[simp] def gIsi : DO1 := fun ds m Q => match ds with
  | [x, .ty n] => ∃ t, tyN x = some t ∧ n ∈ tyNames ∧ Q (.bl (isTy t n)) m
  | [x, .tup cs] => ∃ (t : String) (ns : List String), tyN x = some t ∧ cs = ns.map D.ty ∧ (∀ n ∈ ns, n ∈ tyNames) ∧ Q (.bl (ns.any (isTy t))) m
  | _ => False
theorem kitAny_tab {K : FragK} {t : String} (ht : t ∈ tyNames) : ∀ {ns : List String}, (∀ n ∈ ns, n ∈ tyNames) → PySem.W.kitAny K (.type t) (ns.map Value.type) = some (ns.any (isTy t))
  | [], _ => kitAny_nil
  | n :: ns, h => by
    refine kitAny_cons (b := isTy t n) (kit_tab' ht (h n List.mem_cons_self)) (fun e => ?_) (fun e => ?_)
    · rw [List.any_cons, e, Bool.false_or]
      exact kitAny_tab ht fun x hx => h x (List.mem_cons_of_mem _ hx)
    · rw [List.any_cons, e, Bool.true_or]
theorem hasAll_tys {K : FragK} {m : Mu} {H : Hp} : ∀ {ns : List String} {vs : List V}, HasAll K m H vs (ns.map D.ty) → Paired ClsV vs (ns.map Value.type)
  | [], _, .nil => .nil
  | _ :: _, _, .cons h t => by cases h; exact .cons (.ty _) (hasAll_tys t)
def rIsiS (K : FragK) : List V → Hp → VK → Prop := fun xs H Q => ∃ (x : V) (tp : Addr) (cs : List V) (t : Value) (us : List Value) (b : Bool), xs = [x, .ref tp] ∧ SqT K H tp cs ∧ Paired ClsV cs us ∧ TyX K H x t ∧ PySem.W.kitAny K t us = some b ∧ Q (.bl b) H
theorem call_isiS : CallR X (.builtin "isinstance") (rIsiS X.K) := by
  intro pins s σ H xs us Q I r h
  obtain ⟨x, tp, cs, t, ws, b, rfl, hT, k, ty, e, q⟩ := h
  obtain ⟨u1, u2, rfl, r1, r2⟩ := vals2 r
  obtain rfl : u2 = Value.ref tp := r2
  obtain ⟨P, Z, p, hx⟩ := kit_of I r1 ty
  obtain ⟨its, rv, ⟨⟨oc, od, dt, sl⟩, h1, h2, n, h3⟩, _⟩ := I.tuple hT
  have e3 := ClsV.all k rv
  subst e3
  simp only at h2 h3
  subst h2 h3
  exact PySem.W.kia_tup Z I.kIn p h1 e hx fun tk => ⟨.bl b, H, I.tok tk, rfl, q⟩
theorem cd_isi : CallD X (.builtin "isinstance") gIsi := by
  refine ⟨_, CallR.or call_isi call_isiS, ?_⟩
  intro xs H ds m Q Q' k h q l
  unfold gIsi at q
  split at q
  · rename_i x n
    obtain ⟨t, e, hn, q⟩ := q
    obtain ⟨v, u, rfl, hv, h'⟩ := h.twos
    cases h'
    exact .inl ⟨v, .ty n, .type t, .type n, _, rfl, .ty n, hv.tyX e, kit_tab' (tyN_mem e) hn, l.at k (.bl _) q⟩
  · rename_i x cs
    obtain ⟨t, ns, e, rfl, hn, q⟩ := q
    obtain ⟨v, u, rfl, hv, h'⟩ := h.twos
    cases h' with
    | tup hs ha => exact .inr ⟨v, _, _, .type t, ns.map Value.type, _, rfl, hs.sq, hasAll_tys ha, hv.tyX e, kitAny_tab (tyN_mem e) hn, l.at k (.bl _) q⟩
  · exact q.elim
@[simp] def gInt : DO1 := fun ds m Q => match ds with
  | [.int i] => Q (.int i) m
  | [.bl b] => Q (.int (if b then 1 else 0)) m
  | [.str a] => ∃ n, PySem.intText? a = some n ∧ a.length ≤ 640 ∧ Q (.int n) m
  | _ => False
theorem cd_int : CallD X (.type "int") gInt := by
  refine ⟨_, CallR.or call_int1 call_int_str, ?_⟩
  intro xs H ds m Q Q' k h q l
  unfold gInt at q
  split at q
  · obtain ⟨v, rfl, hv⟩ := h.ones
    cases hv
    exact .inl (.inl ⟨_, rfl, l.at k (.int _) q⟩)
  · obtain ⟨v, rfl, hv⟩ := h.ones
    cases hv
    exact .inl (.inr ⟨_, rfl, l.at k (.int _) q⟩)
  · obtain ⟨n, e, hz, q⟩ := q
    obtain ⟨v, rfl, hv⟩ := h.ones
    cases hv
    exact .inr ⟨_, _, rfl, e, hz, l.at k (.int _) q⟩
  · exact q.elim
@[simp] def gStr : DO1 := fun ds m Q => match ds with
  | [.int i] => i.natAbs.log2 < 1920 ∧ Q (.str (toString i)) m
  | _ => False
theorem cd_str : CallD X (.type "str") gStr := by
  refine ⟨_, call_str_int, ?_⟩
  intro xs H ds m Q Q' k h q l
  unfold gStr at q
  split at q
  · obtain ⟨v, rfl, hv⟩ := h.ones
    cases hv
    exact ⟨_, rfl, q.1, l.at k (.str _) q.2⟩
  · exact q.elim
@[simp] def gList : DO1 := fun ds m Q => match ds with
  | [.lst xs] => Q (.lst xs) m
  | [.scr xs] => Q (.lst xs) m
  | [.tup xs] => Q (.lst xs) m
  | _ => False
theorem cd_list : CallD X (.type "list") gList := by
  refine ⟨_, call_list_of, ?_⟩
  intro xs H ds m Q Q' k h q l
  unfold gList at q
  split at q
  · obtain ⟨v, rfl, hv⟩ := h.ones
    cases hv with
    | lst hs n ha => exact ⟨_, _, rfl, .inl (SqL.of hs), fun p hp => l.new k hp (Has.lst_new k hp ha) q⟩
  · obtain ⟨v, rfl, hv⟩ := h.ones
    cases hv with
    | scr hs ha => exact ⟨_, _, rfl, .inl hs.sq, fun p hp => l.new k hp (Has.lst_new k hp ha) q⟩
  · obtain ⟨v, rfl, hv⟩ := h.ones
    cases hv with
    | tup hs ha => exact ⟨_, _, rfl, .inr hs.sq, fun p hp => l.new k hp (Has.lst_new k hp ha) q⟩
  · exact q.elim
@[simp] def gTuple : DO1 := fun ds m Q => match ds with
  | [.lst xs] => Q (.tup xs) m
  | [.scr xs] => Q (.tup xs) m
  | [.tup xs] => Q (.tup xs) m
  | _ => False
theorem cd_tuple : CallD X (.type "tuple") gTuple := by
  refine ⟨_, call_tuple_of, ?_⟩
  intro xs H ds m Q Q' k h q l
  unfold gTuple at q
  split at q
  · obtain ⟨v, rfl, hv⟩ := h.ones
    cases hv with
    | lst hs n ha => exact ⟨_, _, rfl, .inl ⟨SqL.of hs, fun p hp => l.new k hp (Has.tup_new k hp ha) q⟩⟩
  · obtain ⟨v, rfl, hv⟩ := h.ones
    cases hv with
    | scr hs ha => exact ⟨_, _, rfl, .inl ⟨hs.sq, fun p hp => l.new k hp (Has.tup_new k hp ha) q⟩⟩
  · obtain ⟨v, rfl, hv⟩ := h.ones
    cases hv with
    | tup hs ha => exact ⟨_, _, rfl, .inr ⟨hs.sq, l.at k (.tup hs ha) q⟩⟩
  · exact q.elim
/-- repr of data, where no other repr runs -/
@[simp] def gRepr : DO1 := fun ds m Q => match ds with
  | [x] => ∃ p, toP x = some p ∧ p.showable = true ∧ p.hasDict = false ∧ p.depth ≤ 60 ∧ p.shown.length ≤ sizeLine ∧ Q (.str p.shown) m
  | _ => False
def rReprD (K : FragK) : List V → Hp → VK → Prop := fun xs H Q => ∃ x p, xs = [x] ∧ Dp K H x p ∧ p.showable = true ∧ p.hasDict = false ∧ p.depth ≤ 60 ∧ p.shown.length ≤ sizeLine ∧ Q (.str p.shown) H
theorem call_reprD (hg : X.A.guards = some []) (hu : X.A.units + 64 < cLine) : CallR X (.builtin "repr") (rReprD X.K) := by
  intro pins s σ H xs us Q I r h
  obtain ⟨x, p, rfl, hp, hs, hd, hdep, hz, q⟩ := h
  obtain ⟨u, rfl, rx⟩ := vals1 r
  cases hp with
  | non =>
    cases rx
    have e : PyData.shown .none = ("None" : Str) := by simp only [PyData.shown]
    rw [e] at q
    exact PySem.P.repr_of_none ⟨.str _, H, I.tok _, ⟨_, rfl⟩, q⟩
  | bl b =>
    cases rx
    have e : PyData.shown (.bool b) = ((if b then "True" else "False" : String) : Str) := by cases b <;> simp only [PyData.shown] <;> rfl
    rw [e] at q
    refine PySem.P.repr_of_bool ⟨.str _, H, I.tok _, ⟨_, rfl⟩, ?_⟩
    cases b <;> exact q
  | int i =>
    obtain ⟨t, rfl⟩ := rx
    have e : PyData.shown (.int i) = (toString i : Str) := by simp only [PyData.shown]
    rw [e] at q
    have h1 : i.natAbs.log2 < 1920 := by simpa only [PyData.showable, decide_eq_true_eq] using hs
    exact PySem.P.repr_of_int h1 ⟨.str _, H, I.tok _, ⟨_, rfl⟩, q⟩
  | str y =>
    obtain ⟨t, rfl⟩ := rx
    have e : PyData.shown (.str y) = reprText y := by simp only [PyData.shown]
    rw [e] at q hz
    exact PySem.P.repr_of_str ⟨.str _, H, I.tok _, ⟨_, rfl⟩, q⟩ hz
  | lst h1 h2 =>
    obtain ⟨as, rd⟩ := Dp.reads I _ _ u (.lst h1 h2) rx
    cases rx
    exact repr_of_reads' rd hs (PyData.noDict_hsm hd) hg (by omega) (fun _ _ e => e) (fun h' t tk hk => ⟨.str _, H, I.kept hk, ⟨_, rfl⟩, q⟩) hz
  | tup h1 h2 =>
    obtain ⟨as, rd⟩ := Dp.reads I _ _ u (.tup h1 h2) rx
    cases rx
    exact repr_of_reads' rd hs (PyData.noDict_hsm hd) hg (by omega) (fun _ _ e => e) (fun h' t tk hk => ⟨.str _, H, I.kept hk, ⟨_, rfl⟩, q⟩) hz
theorem cd_repr (hg : X.A.guards = some []) (hu : X.A.units + 64 < cLine) : CallD X (.builtin "repr") gRepr := by
  refine ⟨_, call_reprD hg hu, ?_⟩
  intro xs H ds m Q Q' k h q l
  unfold gRepr at q
  split at q
  · obtain ⟨p, e, a, b, c, d, q⟩ := q
    obtain ⟨v, rfl, hv⟩ := h.ones
    exact ⟨v, p, rfl, Has.dp _ _ _ e hv, a, b, c, d, l.at k (.str _) q⟩
  · exact q.elim
end

/-! ### methods of texts and lists, f-strings -/
def dM1 (g : D → D → Mu → DQ → Prop) (mo ma : DE) : DE := fun δ m Q => mo δ m fun x m1 => ma δ m1 fun y m2 => g x y m2 Q
@[simp] def gSplit : DO2 := fun x y m Q => match x, y with
  | .str a, .str b => (b.length == 0) = false ∧ a.length + 2 ≤ sizeLine ∧ Q (.lst ((Txt.split a b).map D.str)) m
  | _, _ => False
@[simp] def gJoin : DO2 := fun x y m Q => match x, y with
  | .str a, .lst xs => ∃ ys : List Str, xs = ys.map D.str ∧ (ys.map (·.length)).sum + ys.length * a.length ≤ 16777216 ∧ Q (.str (Txt.join a ys)) m
  | _, _ => False
@[simp] def gPart : DO2 := fun x y m Q => match x, y with
  | .str a, .str b => (b.length == 0) = false ∧ a.length ≤ sizeLine ∧ Q (.tup [.str (Txt.partition a b).1, .str (Txt.partition a b).2.1, .str (Txt.partition a b).2.2]) m
  | _, _ => False
section
variable {X : Cx} {B : Bs} {o e : Expr} {mo me : DE} {apos pos : Pos}
theorem isStr {K : FragK} {m : Mu} {H : Hp} {v : V} {a : Str} (h : Has K m H v (.str a)) : v = .str a := by cases h; rfl
@[simp] def dStrM (g : DO2) (mo ma : DE) : DE := fun δ m Q => mo δ m fun x m1 => match x with
  | .str a => ma δ m1 fun y m2 => g (.str a) y m2 Q
  | _ => False
theorem ref_strM {K : FragK} {to te : TE} {r : V → List V → Hp → VK → Prop} {g : DO2} (ro : RefE K B to mo) (re : RefE K B te me)
    (rr : ∀ (a : Str) (y : V) (H : Hp) (d x : D) (m : Mu) (Q : DQ) (Q' : VK), x = .str a → MuOk K m H → Has K m H y d → g x d m Q → Lands K m H Q Q' → r (.str a) [y] H Q') : RefE K B (tM1 r to te) (dStrM g mo me) :=
  fun σ H δ m Q Q' gb k en q l => ro σ H δ m _ _ gb k en q fun v H1 d m1 g1 k1 h1 q1 => by
    split at q1
    · cases h1
      exact ⟨⟨_, rfl⟩, re _ _ _ _ _ _ (gb.trans g1) k1 (en.mono g1) q1 fun u H2 d2 m2 g2 k2 h2 q2 => rr _ u H2 d2 _ m2 Q Q' rfl k2 h2 q2 fun v3 H3 d3 m3 g3 k3 h3 q3 => l _ _ _ _ ((g1.trans g2).trans g3) k3 h3 q3⟩
    · exact q1.elim
theorem ee_split (ho : EE X B o mo) (he : EE X B e me) (hs : starEach [e] X.env = [(false, eval e X.env)] := by rfl) (hbase : attributeBase o "split" X.env (eval o X.env) = eval o X.env := by rfl) (hline : (apos.endLine == pos.line) = true := by rfl) :
    EE X B (.Call (.Attribute o "split" apos) [e] [] pos) (dStrM gSplit mo me) := by
  obtain ⟨_, p1, r1⟩ := ho
  obtain ⟨_, p2, r2⟩ := he
  refine ⟨_, pe_split p1 p2 hs hbase hline, ref_strM r1 r2 fun a y H d x m Q Q' ex k h q l => ?_⟩
  unfold gSplit at q
  split at q
  · cases ex
    cases h
    exact ⟨_, _, rfl, rfl, q.1, q.2.1, fun p hp => l.new k hp (Has.lst_new k hp (hasAll_of_strs _)) q.2.2⟩
  · exact q.elim
theorem ee_part (ho : EE X B o mo) (he : EE X B e me) (hs : starEach [e] X.env = [(false, eval e X.env)] := by rfl) (hbase : attributeBase o "partition" X.env (eval o X.env) = eval o X.env := by rfl) (hline : (apos.endLine == pos.line) = true := by rfl) :
    EE X B (.Call (.Attribute o "partition" apos) [e] [] pos) (dStrM gPart mo me) := by
  obtain ⟨_, p1, r1⟩ := ho
  obtain ⟨_, p2, r2⟩ := he
  refine ⟨_, pe_partition p1 p2 hs hbase hline, ref_strM r1 r2 fun a y H d x m Q Q' ex k h q l => ?_⟩
  unfold gPart at q
  split at q
  · cases ex
    cases h
    exact ⟨_, _, rfl, rfl, q.1, q.2.1, fun p hp => l.new k hp (Has.tup_new k hp (.cons (.str _) (.cons (.str _) (.cons (.str _) .nil)))) q.2.2⟩
  · exact q.elim
theorem ee_join (ho : EE X B o mo) (he : EE X B e me) (hs : starEach [e] X.env = [(false, eval e X.env)] := by rfl) (hbase : attributeBase o "join" X.env (eval o X.env) = eval o X.env := by rfl) (hline : (apos.endLine == pos.line) = true := by rfl) :
    EE X B (.Call (.Attribute o "join" apos) [e] [] pos) (dStrM gJoin mo me) := by
  obtain ⟨_, p1, r1⟩ := ho
  obtain ⟨_, p2, r2⟩ := he
  refine ⟨_, pe_join p1 p2 hs hbase hline, ref_strM r1 r2 fun a y H d x m Q Q' ex k h q l => ?_⟩
  unfold gJoin at q
  split at q
  · cases ex
    obtain ⟨ys, rfl, hz, q⟩ := q
    cases h with
    | lst hs n ha =>
      rw [hasAll_strs ha] at hs
      exact ⟨_, _, ys, rfl, rfl, .inl (SqL.of hs), hz, l.at k (.str _) q⟩
  · exact q.elim
/-- found.append(x) -/
@[simp] def dApp (mo ma : DE) : DE := fun δ m Q => mo δ m fun x m1 => match x with
  | .obj p => (∃ ys, m1 p = some (.lst ys)) ∧ ma δ m1 fun y m2 => match m2 p with
    | some (.lst xs) => xs.length < sizeLine ∧ Q .non (put m2 p (.lst (xs ++ [y])))
    | _ => False
  | _ => False
theorem ee_append (ho : EE X B o mo) (he : EE X B e me) (hbase : attributeBase o "append" X.env (eval o X.env) = eval o X.env := by rfl)
    (hfew : ((backTo pos (starEach [e] X.env)).all (fun x => !x.1) && (backToKw pos (keywordEach [] X.env)).all (fun x => x.1.isSome) && decide (([e] : List Expr).length + ([] : List Keyword).length + (if ([] : List Keyword).isEmpty then 0 else 1) < 30)) = true := by rfl)
    (hline : (apos.endLine == pos.line) = true := by rfl) (hs : starEach [e] X.env = (false, eval e X.env) :: starEach [] X.env := by rfl) (hplain : (backTo pos (starEach [] X.env)).any (·.1) = false := by rfl) :
    EE X B (.Call (.Attribute o "append" apos) [e] [] pos) (dApp mo me) := by
  obtain ⟨_, p1, r1⟩ := ho
  obtain ⟨_, p2, r2⟩ := he
  refine ⟨_, pe_bm PySem.F.plainAttrs_list PySem.F.slot_list_append PySem.F.type_list_append mt_append p1 (pa_cons p2 pa_nil hs) hbase hfew hline hs hplain, fun σ H δ m Q Q' gb k en q l => r1 σ H δ m _ _ gb k en q fun v H1 d m1 g1 k1 h1 q1 => ?_⟩
  split at q1
  · rename_i p
    cases h1
    obtain ⟨⟨ys, hy⟩, q1⟩ := q1
    obtain ⟨us, hu, _⟩ := k1 _ _ hy
    refine ⟨.inl ⟨rfl, us, SqL.of hu⟩, r2 _ _ _ _ _ _ (gb.trans g1) k1 (en.mono g1) q1 fun w H2 d2 m2 g2 k2 h2 q2 => ?_⟩
    split at q2
    · rename_i xs hx
      obtain ⟨ws, hw, ha⟩ := k2 _ _ hx
      have gw : Grow m2 H2 (put m2 p (.lst (xs ++ [d2]))) (upd H2 p (.lst (ws ++ [w]))) := Grow.wr hx (fun z => nomatch z)
      refine ⟨p, ws, w, rfl, rfl, hw, by rw [ha.length]; exact q2.1, l _ _ _ _ ((g1.trans g2).trans gw) (k2.wr hx (show HasM _ _ _ p (.lst _) from ⟨_, upd_same, (ha.mono gw).append (.cons (h2.mono gw) .nil)⟩)) .non q2.2⟩
    · exact q2.elim
  · exact q1.elim
end
end DL

namespace DL
open PySem PySem.Spec PyProof.Rows L2

/-! ### texts with fields -/
structure EJ (X : Cx) (B : Bs) (es : List Expr) (ns : List DE) : Prop where
  ex : ∃ ts, PJ X es ts ∧ Paired (RefE X.K B) ts ns
@[simp] def dJs : List DE → Str → DSt → Mu → (Str → Mu → Prop) → Prop
  | [], acc, _, m, Q => Q acc m
  | n :: ns, acc, δ, m, Q => n δ m fun x m1 => match x with
    | .str y => (acc ++ y).length ≤ sizeLine ∧ dJs ns (acc ++ y) δ m1 Q
    | _ => False
@[simp] def dFmt (me : DE) : DE := fun δ m Q => me δ m fun x m1 => match x with
  | .str y => y.length ≤ sizeLine ∧ Q (.str y) m1
  | .int i => i.natAbs.log2 < 1920 ∧ Q (.str (toString i)) m1
  | _ => False
@[simp] def dJoin (ns : List DE) : DE := fun δ m Q => dJs ns Str.empty δ m fun out m1 => Q (.str out) m1
section
variable {X : Cx} {B : Bs} {e : Expr} {es : List Expr} {me : DE} {ns : List DE} {pos : Pos}
theorem ee_fmt (h : EE X B e me) : EE X B (.FormattedValue e (-1) none pos) (dFmt me) := by
  obtain ⟨_, p, r⟩ := h
  refine ⟨_, pe_fmt p, fun σ H δ m Q Q' gb k en q l => r σ H δ m _ _ gb k en q fun v H1 d m1 g1 k1 h1 q1 => ?_⟩
  split at q1
  · cases h1
    exact .inl ⟨_, rfl, q1.1, l _ _ _ _ g1 k1 (.str _) q1.2⟩
  · cases h1
    exact .inr ⟨_, rfl, q1.1, l _ _ _ _ g1 k1 (.str _) q1.2⟩
  · exact q1.elim
theorem ej_nil : EJ X B [] [] := ⟨_, .nil, .nil⟩
theorem ej_cons (h : EE X B e me) (r : EJ X B es ns) : EJ X B (e :: es) (me :: ns) := by
  obtain ⟨_, p, q⟩ := h
  obtain ⟨_, p2, q2⟩ := r
  exact ⟨_, .cons p p2, .cons q q2⟩
theorem ref_js {K : FragK} {ts : List TE} {ns : List DE} (h : Paired (RefE K B) ts ns) : ∀ (acc : Str) (σ : L2.St) (H : Hp) (δ : DSt) (m : Mu) (Q : Str → Mu → Prop) (Q' : Str → Hp → Prop), Grow B.1 B.2 m H → MuOk K m H → DEnv K m H σ δ → dJs ns acc δ m Q →
    (∀ out H' m', Grow m H m' H' → MuOk K m' H' → Q out m' → Q' out H') → tJs ts acc σ H Q' := by
  induction h with
  | nil => intro acc σ H δ m Q Q' gb k en q l; exact l _ _ _ (Grow.refl _ _) k q
  | cons r t ih =>
    intro acc σ H δ m Q Q' gb k en q l
    refine r σ H δ m _ _ gb k en q fun v H1 d m1 g1 k1 h1 q1 => ?_
    split at q1
    · cases h1
      exact ⟨_, rfl, q1.1, ih _ _ _ _ _ _ _ (gb.trans g1) k1 (en.mono g1) q1.2 fun out H2 m2 g2 k2 q2 => l _ _ _ (g1.trans g2) k2 q2⟩
    · exact q1.elim
theorem ee_joined {v1 v2 : Expr} {rest : List Expr} (h : EJ X B (v1 :: v2 :: rest) ns) : EE X B (.JoinedStr (v1 :: v2 :: rest) pos) (dJoin ns) := by
  obtain ⟨_, p, r⟩ := h
  exact ⟨_, pe_joined p, fun σ H δ m Q Q' gb k en q l => ref_js r _ _ _ _ _ _ _ gb k en q fun out H2 m2 g2 k2 q2 => l _ _ _ _ g2 k2 (.str _) q2⟩
end
/-! ### targets over lists -/
@[simp] def hLst (n : Nat) (r : DGs) : DG := fun d δ m Q => match d with
  | .lst xs => xs.length = n ∧ r xs δ m Q
  | _ => False
/-- a, *b = a list -/
@[simp] def hStar1 (i j : Nat) : DG := fun d δ m Q => match d with
  | .lst (x :: xs) => xs.length ≤ 10000 ∧ Q ((δ.set i (some x)).set j (some (.lst xs))) m
  | _ => False
def gStar1 (K : FragK) (i j : Nat) : TG := fun v σ H Q => ∃ a x xs, v = .ref a ∧ SqL K H a (x :: xs) ∧ xs.length ≤ 10000 ∧ ∀ p, H p = none → Q ((σ.set i (some x)).set j (some (.ref p))) (upd H p (.lst xs))
section
variable {X : Cx} {B : Bs} {es : List Expr} {gs : DGs} {pos : Pos}
theorem eg_lst {n k : Nat} (hc : X.calm = true) (h : EGs X B es gs) (hn : (assignEach es X.env).length = n := by rfl) (hst : (assignEach es X.env).findIdx? (·.1) = none := by rfl) : EG X B (.Tuple es k pos) (hLst n gs) := by
  obtain ⟨_, p, r⟩ := h
  refine ⟨_, pg_lst hc p hn hst, fun v σ H d δ m Q Q' gb k en h q l => ?_⟩
  unfold hLst at q
  split at q
  · cases h with
    | lst hs n ha => exact ⟨_, _, rfl, SqL.of hs, by rw [ha.length]; exact q.1, r _ _ _ _ _ _ _ _ gb k en ha q.2 l⟩
  · exact q.elim
theorem pg_star1 {x y : Str} {i j k : Nat} {px py ps : Pos} (hc : X.calm = true) (hN : X.N.Nodup) (hi : X.N[i]? = some x) (hj : X.N[j]? = some y) (hx : Loc X.env.scope x) (hy : Loc X.env.scope y) (fx : X.fn x = true ∨ X.env.scope.names.lookup x = some .local) (fy : X.fn y = true ∨ X.env.scope.names.lookup y = some .local)
    (hl : (assignEach [.Name x px, .Starred (.Name y py) ps] X.env).length = 2) (hst : (assignEach [.Name x px, .Starred (.Name y py) ps] X.env).findIdx? (·.1) = some 1)
    (hm : (assignEach [.Name x px, .Starred (.Name y py) ps] X.env).map (·.2) = [assign (.Name x px) X.env, assign (.Name y py) X.env]) : PG X (.Tuple [.Name x px, .Starred (.Name y py) ps] k pos) (gStar1 X.K i j) := by
  refine ⟨fun pins s σ H v u Q I rv hw => ?_⟩
  obtain ⟨a, z, zs, rfl, hq, hz, hw⟩ := hw
  obtain rfl : u = Value.ref a := rv
  obtain ⟨its, rits, pl, _⟩ := I.list hq
  cases rits with
  | @cons _ w _ ws rz rzs =>
    have hlen := rzs.length
    have hh := I.ok.hd hc
    rw [PyProof.Rows.assign_Tuple]
    refine wpAny_bind (wpAny_standAt ?_)
    unfold unpack
    rw [hl, hst]
    refine wpAny_bind (wpAny_holding ?_)
    have hL := pl.isList
    have hlt : a ≠ s.heap.objs.size := by obtain ⟨o, ho, _⟩ := hL; exact Nat.ne_of_lt (Heap.lt_size ho)
    unfold unpackItems
    refine wpAny_bind ?_
    unfold notIterableAtAll
    refine wpAny_bind (wpAny_specialOf hL.typeIs slot_list_iter.lookup ?_)
    refine wpAny_pure ?_
    simp only [Bool.false_eq_true, if_false]
    refine wpAny_bind (wpAny_holding (wpAny_pyIter_list hL ?_))
    refine wpAny_bind (wpAny_holding (PySem.W.kun_draw hlt 1 0 _ _ ⟨_, Heap.get?_push_size _ rfl, rfl, rfl⟩ (hL.push _) (by simp) fun h1 it1 sb1 => ?_))
    have hL1 : h1.IsList a (w :: ws).toArray := (hL.push _).extBut sb1.extBut hlt
    obtain ⟨oi, hoi, _⟩ := id it1
    obtain ⟨ol, hol, _⟩ := id hL1
    have et : ((w :: ws).toArray.toList.drop 0).take 1 = [w] := by simp
    rw [et, if_neg (by simp)]
    refine wpAny_bind (wpAny_holding (PySem.W.kun_collect (s := { s with heap := h1 }) (T := "list_iterator") (.inr (.inr (.inl rfl))) (Walks.list (A := X.A.in1) hh s.heap.objs.size a hlt (w :: ws).toArray) (fun j u st => st.1.typeIs) (k := 1) (by simp) ⟨it1, hL1⟩ (Heap.lt_size hoi) (Heap.lt_size hol)
      (fun h2 tk hk => ?_) (by simp only [List.size_toArray, List.length_cons]; rw [sizeLine_eq]; omega)))
    have er : (w :: ws).toArray.toList.drop 1 = ws := by simp
    rw [er]
    show wpAny _ _ (if ws.length < 2 - 1 - 1 then _ else _) _ _ _
    rw [if_neg (by omega)]
    show wpAny _ _ (newList ((ws).take (ws.length - (2 - 1 - 1))) >>= fun d => pure ([w] ++ [d] ++ ws.drop (ws.length - (2 - 1 - 1)))) _ _ _
    have e1 : ws.take (ws.length - (2 - 1 - 1)) = ws := by simp
    have e2 : ws.drop (ws.length - (2 - 1 - 1)) = [] := by simp
    rw [e1, e2]
    have he : ∀ b o, s.heap.get? b = some o → h2.get? b = some o := fun b o e => by
      have hb : b ≠ s.heap.objs.size := Nat.ne_of_lt (Heap.lt_size e)
      exact hk b o hb (sb1.extBut b o hb (Heap.get?_push_of_some _ e))
    have I2 : Inv X pins σ H { s with heap := h2, toks := tk } := I.kept he
    refine wpAny_bind (wpAny_newList (wpAny_pure ?_) (by rw [sizeLine_eq]; omega))
    have hf : H h2.objs.size = none := I2.hok.fresh (Nat.le_refl _)
    have I3 : Inv X pins σ (upd H h2.objs.size (.lst zs)) { s with heap := h2.push { cls := .type "list", data := .seq ws.toArray }, toks := tk } :=
      I2.laid (a := h2.objs.size) (o := .lst zs) (t' := tk) (fun b o e => Heap.get?_push_of_some _ e) (Nat.le_refl _) ⟨by rw [sizeLine_eq]; omega, ws, 0, rzs, Heap.get?_push_size _ rfl⟩
    rw [hm]
    refine assignInOrder_cons ?_
    refine wpAny_assign_Name (store_ok I3 hN hi hx rz (fun s4 I4 => ?_) fx)
    refine assignInOrder_cons ?_
    refine wpAny_assign_Name (store_ok I4 hN hj hy (v := V.ref h2.objs.size) rfl (fun s5 I5 => ?_) fy)
    exact assignInOrder_nil ⟨_, _, I5, hw _ hf⟩
theorem eg_star1 {x y : Str} {k : Nat} {px py ps : Pos} (i j : Nat) (hc : X.calm = true) (hN : X.N.Nodup) (hi : X.N[i]? = some x := by rfl) (hj : X.N[j]? = some y := by rfl) (hx : Loc X.env.scope x := by first | exact Or.inl rfl | exact Or.inr rfl) (hy : Loc X.env.scope y := by first | exact Or.inl rfl | exact Or.inr rfl)
    (fx : X.fn x = true ∨ X.env.scope.names.lookup x = some .local := by first | exact .inl rfl | exact .inr rfl) (fy : X.fn y = true ∨ X.env.scope.names.lookup y = some .local := by first | exact .inl rfl | exact .inr rfl)
    (hl : (assignEach [.Name x px, .Starred (.Name y py) ps] X.env).length = 2 := by rfl) (hst : (assignEach [.Name x px, .Starred (.Name y py) ps] X.env).findIdx? (·.1) = some 1 := by rfl)
    (hm : (assignEach [.Name x px, .Starred (.Name y py) ps] X.env).map (·.2) = [assign (.Name x px) X.env, assign (.Name y py) X.env] := by rfl) : EG X B (.Tuple [.Name x px, .Starred (.Name y py) ps] k pos) (hStar1 i j) := by
  refine ⟨_, pg_star1 (i := i) (j := j) hc hN hi hj hx hy fx fy hl hst hm, fun v σ H d δ m Q Q' gb k en h q l => ?_⟩
  unfold hStar1 at q
  split at q
  · cases h with
    | lst hs n ha =>
      cases ha with
      | cons h t =>
        refine ⟨_, _, _, rfl, SqL.of hs, by rw [t.length]; exact q.1, fun p hp => ?_⟩
        rename_i vs0
        have g := Grow.new (o := HO.lst vs0) k hp
        exact l _ _ _ _ g (k.new hp) (((en.mono g).set i (h.mono g)).set j (Has.lst_new k hp t)) q.2
  · exact q.elim
end
/-! ### a dict that will change, displayed -/
structure EPs (X : Cx) (B : Bs) (pos : Pos) (keys : List (Option Expr)) (values : List Expr) (ns : List (DE × DE)) : Prop where
  ex : ∃ ts, PPs X pos keys values ts ∧ Paired (fun (t : TE × TE) (n : DE × DE) => RefE X.K B t.1 n.1 ∧ RefE X.K B t.2 n.2) ts ns
@[simp] def dPairs : List (DE × DE) → DSt → Mu → (List (D × D) → Mu → Prop) → Prop
  | [], _, m, Q => Q [] m
  | (nk, nv) :: r, δ, m, Q => nk δ m fun x m1 => nv δ m1 fun y m2 => dPairs r δ m2 fun ps m3 => Q ((x, y) :: ps) m3
section
variable {X : Cx} {B : Bs} {pos : Pos}
theorem eps_nil : EPs X B pos [] [] [] := ⟨_, pps_nil, .nil⟩
theorem eps_cons {k v : Expr} {ks : List (Option Expr)} {vs : List Expr} {nk nv : DE} {ns : List (DE × DE)} (hk : EE X B k nk) (hv : EE X B v nv) (hr : EPs X B pos ks vs ns) : EPs X B pos (some k :: ks) (v :: vs) ((nk, nv) :: ns) := by
  obtain ⟨_, p1, r1⟩ := hk
  obtain ⟨_, p2, r2⟩ := hv
  obtain ⟨_, p3, r3⟩ := hr
  exact ⟨_, pps_cons p1 p2 p3, .cons ⟨r1, r2⟩ r3⟩
theorem ref_pairs {K : FragK} {ts : List (TE × TE)} {ns : List (DE × DE)} (h : Paired (fun (t : TE × TE) (n : DE × DE) => RefE K B t.1 n.1 ∧ RefE K B t.2 n.2) ts ns) : ∀ (σ : L2.St) (H : Hp) (δ : DSt) (m : Mu) (Q : List (D × D) → Mu → Prop) (Q' : List (V × V) → Hp → Prop),
    Grow B.1 B.2 m H → MuOk K m H → DEnv K m H σ δ → dPairs ns δ m Q → (∀ us H' ds m', Grow m H m' H' → MuOk K m' H' → HasAll K m' H' (us.map (·.1)) (ds.map (·.1)) → HasAll K m' H' (us.map (·.2)) (ds.map (·.2)) → Q ds m' → Q' us H') → tPairs ts σ H Q' := by
  induction h with
  | nil => intro σ H δ m Q Q' gb k en q l; exact l [] _ [] _ (Grow.refl _ _) k .nil .nil q
  | @cons t n ts ns r t' ih =>
    intro σ H δ m Q Q' gb k en q l
    obtain ⟨tk, tv⟩ := t
    obtain ⟨nk, nv⟩ := n
    refine r.1 σ H δ m _ _ gb k en q fun v H1 d m1 g1 k1 h1 q1 => r.2 _ _ _ _ _ _ (gb.trans g1) k1 (en.mono g1) q1 fun u H2 d2 m2 g2 k2 h2 q2 => ih _ _ _ _ _ _ ((gb.trans g1).trans g2) k2 ((en.mono g1).mono g2) q2 fun us H3 ds m3 g3 k3 a b q3 => ?_
    exact l _ _ ((d, d2) :: ds) _ ((g1.trans g2).trans g3) k3 (.cons ((h1.mono g2).mono g3) a) (.cons (h2.mono g3) b) q3
/-- {'a': .., 'b': ..}, distinct keys -/
@[simp] def dDictM (ns : List (DE × DE)) : DE := fun δ m Q => ∀ p, m p = none → dPairs ns δ (put m p .hid) fun ps m1 => ∃ ks : List Key, ps.map (fun q => toK q.1) = ks.map some ∧ ks.Nodup ∧ ks.length ≤ 15 ∧ Q (.obj p) (put m1 p (.dct ks (ps.map (·.2))))
theorem keys_of {K : FragK} {m : Mu} {H : Hp} : ∀ {us : List (V × V)} {ds : List (D × D)} {ks : List Key}, HasAll K m H (us.map (·.1)) (ds.map (·.1)) → ds.map (fun q => toK q.1) = ks.map some → ∃ kvs : List (Key × V), us = kvs.map (fun kv => (kV kv.1, kv.2)) ∧ kvs.map (·.1) = ks
  | [], [], [], .nil, _ => ⟨[], rfl, rfl⟩
  | (x, y) :: us, (d, e) :: ds, k :: ks, .cons h t, q => by
    rw [List.map_cons, List.map_cons] at q
    injection q with q1 q2
    obtain ⟨kvs, e1, e2⟩ := keys_of t q2
    refine ⟨(k, y) :: kvs, ?_, ?_⟩
    · rw [List.map_cons, ← e1]
      have z := h.toK q1
      show (x, y) :: us = (kV k, y) :: us
      rw [show x = kV k from z]
    · rw [List.map_cons, e2]
  | [], [], _ :: _, _, q => by cases q
  | (_, _) :: _, (_, _) :: _, [], _, q => by cases q
theorem mergeK_nil : ∀ {more kvs : List (Key × V)}, ((kvs ++ more).map (·.1)).Nodup → mergeK kvs more = kvs ++ more
  | [], kvs, _ => by unfold mergeK; simp
  | (k, v) :: r, kvs, h => by
    have hn : valV kvs k = none := by
      cases e : valV kvs k with
      | none => rfl
      | some x =>
        exfalso
        have : k ∈ kvs.map (·.1) := by
          unfold valV at e
          cases e2 : kvs.find? fun kv => decide (kv.1 = k) with
          | none => rw [e2] at e; cases e
          | some p =>
            have h1 := List.find?_some e2
            have h2 := List.mem_of_find?_eq_some e2
            rw [← of_decide_eq_true h1]
            exact List.mem_map_of_mem h2
        rw [List.map_append, List.nodup_append] at h
        exact h.2.2 k this k (by simp) rfl
    show mergeK (putK kvs k v) r = _
    rw [putK_new v hn]
    have e : (kvs ++ [(k, v)]) ++ r = kvs ++ (k, v) :: r := by simp
    rw [mergeK_nil (by rw [e]; exact h), e]
theorem ee_dictM {keys : List (Option Expr)} {values : List Expr} {ns : List (DE × DE)} (h : EPs X B pos keys values ns) (hall : keys.all (·.isSome) = true := by rfl) (hl : keys.length = values.length := by rfl) (h0 : keys ≠ [] := by exact List.cons_ne_nil _ _) (h15 : keys.length ≤ 15 := by decide) :
    EE X B (.Dict keys values pos) (dDictM ns) := by
  obtain ⟨_, p, r⟩ := h
  refine ⟨_, pe_disp p hall hl h0 h15, fun σ H δ m Q Q' gb k en q l p hp => ?_⟩
  have g1 : Grow m H (put m p .hid) (upd H p (.dK [])) := Grow.newM k hp
  have k1 : MuOk X.K (put m p .hid) (upd H p (.dK [])) := k.newM hp (show HasM _ _ _ p .hid from ⟨_, upd_same⟩)
  refine ref_pairs r _ _ _ _ _ _ (gb.trans g1) k1 (en.mono g1) (q p (k.free hp)) fun us H2 ds m2 g2 k2 a b q2 => ?_
  obtain ⟨ks, ek, hn, hlen, q2⟩ := q2
  obtain ⟨m2p, H2p⟩ := g2.2 p put_same
  obtain ⟨kvs, e1, e2⟩ := keys_of a ek
  have hb : us.map (·.2) = kvs.map (·.2) := by rw [e1, List.map_map]; rfl
  rw [hb] at b
  have hlk : kvs.length = ks.length := by rw [← e2, List.length_map]
  refine ⟨by rw [H2p]; exact upd_same, kvs, e1, by omega, ?_⟩
  rw [mergeK_nil (by rw [List.nil_append, e2]; exact hn), List.nil_append]
  have gI : GrowI m2 H2 (put m2 p (.dct ks (ds.map (·.2)))) (upd H2 p (.dK kvs)) := GrowI.wr m2p
  have gg := g1.trans g2
  refine l _ _ _ _ ⟨gg.1.trans gI, fun c e => ?_⟩ (k2.wr m2p (show HasM _ _ _ p (.dct ks _) from ⟨kvs, upd_same, e2, HasAll.monoI gI _ _ b⟩)) (.obj p) q2
  obtain ⟨o, qo⟩ := (k c _ e).there
  have ne := ne_of_none qo hp
  rw [put_ne ne, upd_ne ne]
  exact gg.2 c e
end
end DL

namespace DL
open PySem PySem.Spec PyProof.Rows L2

/-! ### raise X(e), X an own class over ValueError (or another) whose __init__ stores its one argument -/
/-- the promise of that __init__ -/
def spIni (K : FragK) (C : Addr) (f : Str) : Sp := fun vs H Q _ => ∃ (a : Addr) (y : V), vs = [.ref a, y] ∧ OexC K C ∧ PySem.W.findIn K (.ref C) f = some none ∧ H a = some (exo a C none) ∧
  ∀ dx, H dx = none → dx ≠ a → Q .non (upd (upd H dx (exd dx [(f, y)])) a (exo a C (some dx)))
/-- the class at C: what the head tells of it -/
structure ExcT (P : Program) (w : World) (K : FragK) (mg : Str → Option Value) (base : Heap) (x : Str) (C : Addr) (f : Str) : Prop where
  gC : mg x = some (.ref C)
  oex : OexC K C
  no : PySem.W.findIn K (.ref C) f = some none
  fI : ∃ (fI : Addr) (fd : FuncData) (ps : List Str), PySem.W.findIn K (.ref C) "__init__" = some (some (.ref fI)) ∧ PySem.W.typeIn K (.ref fI) = some (.type "function") ∧ FnOk P w K mg base CX0 1 fI fd ps (spIni K C f) ∧ Binds K fd ps []
@[simp] def dRaise (C : Addr) (f : Str) (W : DW) (na : DA) : DS := fun N δ m => na δ m fun ds m1 => match ds with
  | [d] => W C [f] [d] δ m1
  | _ => False
section
variable {X : Cx} {B : Bs} {x : Str} {C : Addr} {f : Str} {W : DW} {e : Expr} {na : DA} {p pos pos' : Pos}
theorem ss_raise (T : ExcT X.prog X.w X.K X.mg X.base x C f) (hr : Room 2 X.A) (hc : X.calm = true) (hg : Gl X x) (tk : TakesD X B W) (ha : EA X B [e] na) (hdb : (x == ("__debug__" : Str)) = false := by decide)
    (he : starEach [e] X.env = (false, eval e X.env) :: starEach [] X.env := by rfl) (hpl : (backTo pos (starEach [] X.env)).any (·.1) = false := by rfl) :
    SS X B (.Raise (some (.Call (.Name x p) [e] [] pos)) none pos') (dRaise C f W na) := by
  obtain ⟨fI, fd, ps, iC, tI, F, hb⟩ := T.fI
  obtain ⟨_, pa, ra⟩ := ha
  refine ⟨_, ps_raise hc tk (pmk_oex (C := C) (fI := fI) (k := 1) (sp := spIni X.K C f) (ds := []) (dvs := []) T.oex iC tI F hr hb .nil pass0 hg T.gC pa hdb he hpl), fun G hG σ H δ m N E gb g k en q i => ra σ H δ m _ _ gb k en q fun vs H1 ds m1 g1 k1 h1 q1 => ?_⟩
  split at q1
  · rename_i d
    obtain ⟨v, rfl, hv⟩ := h1.ones
    refine ⟨by simp, fun a hn => ⟨a, v, rfl, T.oex, T.no, upd_same, fun dx hdx hda => ⟨rfl, dx, [(f, v)], upd_same, ?_, ?_, ?_⟩⟩⟩
    · rw [upd_ne hda, upd_same]
    · rw [upd_ne hda] at hdx
      exact hdx
    · rw [upd_ne hda] at hdx
      have eh : upd (L2.del (upd (upd (upd H1 a (exo a C none)) dx (exd dx [(f, v)])) a (exo a C (some dx))) a) dx (.xd [(f, v)]) = upd H1 dx (.xd [(f, v)]) := by
        funext b
        by_cases z : b = dx
        · rw [z, upd_same, upd_same]
        · rw [upd_ne z, upd_ne z]
          by_cases z2 : b = a
          · rw [z2, L2.del_same, hn]
          · rw [L2.del_ne z2, upd_ne z2, upd_ne z, upd_ne z2]
      rw [eh]
      have gn := Grow.new (o := HO.xd [(f, v)]) k1 hdx
      have gg := g1.trans gn
      exact ⟨C, [f], [d], δ, m1, rfl, gb.trans gg, k1.new hdx, en.mono gg, .inr ⟨dx, [(f, v)], rfl, upd_same, k1.free hdx, rfl, .cons (hv.mono gn) .nil⟩, q1⟩
  · exact q1.elim
end
/-- __init__(self, v): self.f = v -/
theorem ok_ini {P : Program} {w : World} {K : FragK} {mg : Str → Option Value} {base : Heap} {qual : Str} {params : Arguments} {scope : Scope} {kws : List (Str × V)} {fI : Addr} {fd : FuncData} {C : Addr} {s v f : Str} {p1 p2 p3 p4 : Pos}
    (F : FunD K "__init__" qual params [.Assign [.Attribute (.Name s p1) f p2] (.Name v p3) p4] scope [] kws fI fd) (S : FnScope [s, v] [s, v] scope) (hs : scope.names.lookup s = some .local) (hv : scope.names.lookup v = some .local)
    (ds : (s == ("__debug__" : Str)) = false) (cs : (s == ("__classdict__" : Str)) = false) (dv : (v == ("__debug__" : Str)) = false) (cv : (v == ("__classdict__" : Str)) = false) : FnOk P w K mg base CX0 1 fI fd [s, v] (spIni K C f) := by
  refine F.ok S (fun vs H Q E ⟨a, y, e, _⟩ => by rw [e]; rfl) fun cdv A outer st H vs Q E hr h => ?_
  obtain ⟨a, y, rfl, T, no, ha, hq⟩ := h
  refine ⟨_, pss_one (ps_ost (pe_var (i := 0) rfl (.inl hs) ds cs) (pe_var (i := 1) rfl (.inl hv) dv cv)), ?_⟩
  exact ⟨y, rfl, .ref a, rfl, a, C, rfl, T, no, .inl ⟨ha, fun dx h1 h2 => hq dx h1 h2⟩⟩

/-! ### an exception that was caught and is held -/
/-- an object that stands, untracked, is tracked from here on -/
theorem track {X : Cx} {pins : List (Addr × Obj)} {σ : L2.St} {H : Hp} {s : Shared} (I : Inv X pins σ H s) {a : Addr} {o : HO} (na : H a = none) (nL : a ≠ X.env.locals) (nC : ∀ x c, X.env.cells.lookup x = some c → c ≠ a) (nP : ∀ p ∈ X.pn ++ pins, p.1 ≠ a)
    (n0 : X.s_0.heap.get? a = none) (new : ObjOk X.prog X.w (upd H a o) s.heap a o) : Inv X pins σ (upd H a o) s := by
  have ne0 : ∀ b u, X.s_0.heap.get? b = some u → b ≠ a := fun b u e z => by rw [z, n0] at e; cases e
  have neT : ∀ {b : Addr} {u : HO}, H b = some u → b ≠ a := fun e => ne_of_none e na
  refine ⟨I.ok, I.os, I.bare, ⟨I.base.keep, I.base.slot, fun b u e n hx => ?_, I.base.there, fun b xs e => ?_, fun b u xs e => ?_, fun b ps e => ?_⟩, I.loc, I.cell, ?_, fun x c e => ?_, fun p hp => ?_, fun b u e => ?_, I.len⟩
  · rw [upd_ne (ne0 b u e)]; exact I.base.free b u e n hx
  · have q := I.base.tups b xs e
    rw [upd_ne (neT q)]; exact q
  · have q := I.base.frzs b u xs e
    rw [upd_ne (neT q)]; exact q
  · obtain ⟨mo, q⟩ := I.base.tbls b ps e
    exact ⟨mo, by rw [upd_ne (neT q)]; exact q⟩
  · rw [upd_ne (Ne.symm nL)]; exact I.free
  · rw [upd_ne (nC x c e)]; exact I.freeC x c e
  · obtain ⟨e, n, r⟩ := I.pin p hp
    exact ⟨e, by rw [upd_ne (nP p hp)]; exact n, r⟩
  · by_cases z : b = a
    · subst z
      rw [upd_same] at e
      cases e
      exact new
    · rw [upd_ne z] at e
      exact (I.hok b u e).stay (fun _ _ _ q => q) (fun c q => by rw [upd_ne (neT q)]; exact q) fun c xs q => by rw [upd_ne (neT q)]; exact q
/-- what 'except c as n: y = n' wishes of an exception of the body -/
def wKeep (K : FragK) (c : Value) (i j : Nat) (Wout : WX) (D : Ends) : WX := fun cls d σ H =>
  ∃ b, PySem.W.exmOne K cls c = some b ∧ (b = true → ∃ C, cls = .ref C ∧ ∀ a, H a = none → D.nx (((σ.set i (some (.ref a))).set j (some (.ref a))).set i none) (upd H a (ExcO C d a))) ∧ (b = false → Wout cls d σ H)
theorem ps_try_keep {X : Cx} {x n y : Str} {c : Value} {i j : Nat} {body : List Stmt} {np pos pos' py pn2 pa : Pos} {tb : WX → TS} {Wout : WX} (hs : X.stack = X.env :: X.outer) (hf : X.env.frame = some X.env.locals) (hex : X.ex = []) (hN : X.N.Nodup) (hi : X.N[i]? = some n) (hln : X.env.scope.names.lookup n = some .local)
    (hj : X.N[j]? = some y) (hly : X.env.scope.names.lookup y = some .local) (hc : Names X x c) (tk : Takes X Wout) (dn : (n == ("__debug__" : Str)) = false) (cn : (n == ("__classdict__" : Str)) = false)
    (hb : ∀ (W : WX) (pn : List (Addr × Obj)) (xe : Value → Shared → Prop), Takes (X.tr pn xe) W → PassesOwn (model X.prog X.w) X.A X.env xe → PSs (X.tr pn xe) body (tb W))
    (hsw : swapsWith (.Name n pn2) (some (.Name y py)) pa.line X.env = pure false) :
    PS X (.Try body [.ExceptHandler (some (.Name x np)) (some n) [.Assign [.Name y py] (.Name n pn2) pa] pos'] [] [] pos) (fun D σ H => tb (wKeep X.K c i j Wout D) D σ H) := by
  refine ⟨fun pins s σ H D I h => ?_⟩
  have ok := I.ok
  have frm : X.A.frames = some (X.env :: X.outer) := hs ▸ ok.frames
  have kn : X.env.kindOf n = some .local := hln
  refine wpAny_Try_except ?_
  refine wpAny_mono ((hb (wKeep X.K c i j Wout D) (X.pn ++ pins) _ (fun u s' xx => ?_) PassesOwn.looking).run [] s σ H D (I.toTry _) h) (fun fl s1 hsp => ?_) (fun e s1 he => he)
  · obtain ⟨a, G, sI, _, σ', H', cls, d, rfl, J', nb, up, sky, na, os, ag, b, hb1, hyes, hno⟩ := xx
    have J : Inv X pins σ' H' sI := J'.ofTry ok
    have sk : Sky G (X.env :: X.outer) a (Zc cls d) X.env.locals s'.heap := hs ▸ sky
    refine (show wpAny (model X.prog X.w) X.A (noteFrame (.ref a) X.env) _ _ _ from ?_)
    refine Sky.land Zc.steady frm hf sk fun h3 fl3 up3 => ?_
    have J3 : Inv X pins σ' H' { s' with heap := h3 } := J.landed nb fl3.1 (up.trans up3) os ag
    obtain ⟨oe3, vs3, he3, hz3, hd3⟩ := fl3.there
    have nfr : a ∉ frs (X.env :: X.outer) := fun hm => by
      obtain ⟨_, o', e', hnf⟩ := fl3.2.2.1.mem hm
      rw [he3] at e'
      cases e'
      exact hnf _ hd3
    have nL : a ≠ X.env.locals := fun z => nfr (List.mem_filterMap.mpr ⟨X.env, List.mem_cons_self, by rw [hf, z]⟩)
    have nF : a ∉ X.fs := fun hm => by
      obtain ⟨ev, hev, q⟩ := List.mem_filterMap.mp hm
      exact nfr (List.mem_filterMap.mpr ⟨ev, List.mem_cons_of_mem _ hev, q⟩)
    have nI : sI.heap.get? a = none := by
      cases e : sI.heap.get? a with
      | none => rfl
      | some o =>
        have q := nb a o e (by rw [hs]; exact nfr)
        rw [fl3.2.1] at q
        cases q
    have n0 : X.s_0.heap.get? a = none := by
      cases e : X.s_0.heap.get? a with
      | none => rfl
      | some o =>
        obtain ⟨o', q⟩ := J.base.there a o e (by rw [hex]; exact List.not_mem_nil)
        rw [nI] at q
        cases q
    have nP : ∀ p ∈ X.pn ++ pins, p.1 ≠ a := fun p hp z => by
      have q := (J.pin p hp).1
      rw [z, nI] at q
      cases q
    have S3 := J3.suite he3 hd3 na nL nF
    refine wpAny_handleBy_cons (codeAny_handlers_test ?_) (fun q => by cases q)
    have LT : PySem.W.Looks (model X.prog X.w) h3 (typeOf (.ref a)) cls := fun A Q E s k q => wpAny_typeOf_ref (k _ _ he3) (hz3.1.symm ▸ q)
    have LM := PySem.W.exm_one (M := model X.prog X.w) J3.kIn LT hb1
    have test : ∀ {Q : Value → Shared → Prop} {E : Value → Shared → Prop}, Q c { s' with heap := h3 } → wpAny (model X.prog X.w) (X.A.mark (some (.ref a))) (eval (.Name x np) X.env) Q E { s' with heap := h3 } := fun {Q E} q => by
      obtain ⟨hg, hdb, hm | ⟨hm, hv, hnn⟩⟩ := hc
      · exact ld_glob (X := X.suite a ((a, oe3) :: (X.pn ++ pins))) S3 hg hm q hdb
      · exact ld_blt (X := X.suite a ((a, oe3) :: (X.pn ++ pins))) S3 hg hm hv q hnn hdb
    refine test (LM.here ?_)
    cases b with
    | true =>
      obtain ⟨C, ec, hgo⟩ := hyes rfl
      refine codeAny_handlers_suite_as ?_
      refine HandSPX.lands_againZ fl3 fun h4 fl4 up4 => ?_
      have J4 : Inv X pins σ' H' { s' with heap := h4 } := J.landed nb fl4.1 ((up.trans up3).trans up4) os ag
      obtain ⟨oe4, vs4, he4, hz4, hd4⟩ := fl4.there
      have S4 := J4.suite he4 hd4 na nL nF
      have lN : Loc X.env.scope n := .inl hln
      have lY : Loc X.env.scope y := .inl hly
      refine store_ok (X := X.suite a ((a, oe4) :: (X.pn ++ pins))) (v := .ref a) S4 hN hi lN rfl (fun s5 S5 => ?_) (.inr hln)
      have li : i < σ'.length := by
        have h1 := (List.getElem?_eq_some_iff.mp hi).1
        rw [J.len]
        exact h1
      have suite := (ps_set (X := X.suite a ((a, oe4) :: (X.pn ++ pins))) (i := j) (te := tVar i) (pos := pa) (pos' := py) hN hj lY (pe_var (pos := pn2) hi (.inl hln) dn cn) hsw (.inr hly)).run [] s5 _ H'
        { nx := fun σ6 H6 => σ6 = ((σ'.set i (some (.ref a))).set j (some (.ref a))) ∧ H6 = H', rt := fun _ _ => False } S5 ⟨.ref a, by rw [List.getElem?_set_self li], rfl, rfl⟩
      refine wpAny_mono (wpAny_execs_cons (wpAny_mono suite (fun fl s6 q => ?_) (fun _ _ z => z))) (fun fl s6 q => q) (fun _ _ z => False.elim z)
      cases fl with
      | next =>
        obtain ⟨σ6, H6, S6, rfl, rfl⟩ := q
        refine wpAny_execs_nil ?_
        obtain ⟨he6, _⟩ := S6.pin (a, oe4) (List.mem_append_left _ List.mem_cons_self)
        have K6 : Inv X pins _ H6 s6 := S6.unsuite ok
        have nC : ∀ x' c', X.env.cells.lookup x' = some c' → c' ≠ a := fun x' c' e z => by
          obtain ⟨w', o, ho, hdd⟩ := K6.cell x' c' e
          rw [z, he6] at ho
          cases ho
          rw [hd4] at hdd
          cases hdd
        have hE : ObjOk X.prog X.w (upd H6 a (ExcO C d a)) s6.heap a (ExcO C d a) :=
          ⟨⟨oe4, vs4, he6, ⟨hz4.1.trans ec, hz4.2⟩, hd4⟩, ⟨oe4, he6⟩, fun h1 h2 ⟨o, us, q1, q2, q3⟩ k => ⟨o, us, k _ q1, q2, q3⟩⟩
        have T6 := track K6 (o := ExcO C d a) na nL nC nP n0 hE
        exact gone_ok T6 hN hi kn fun s7 J7 => ⟨_, _, J7, hgo a na⟩
      | brk => obtain ⟨_, _, _, z⟩ := q; exact z.elim
      | cont => obtain ⟨_, _, _, z⟩ := q; exact z.elim
      | ret u => obtain ⟨_, _, _, _, _, z⟩ := q; exact z.elim
    | false =>
      refine (show wpAny _ X.A (handleBy (.ref a) X.env []) _ _ _ from ?_)
      refine wpAny_handleBy_nil ?_
      obtain ⟨k1, k2, k3, oe, vs, T, oT, ts', he, hz, hd, h1, hr⟩ := id fl3
      unfold PySem.passOn
      refine wpAny_bind (wpAny_field he hd h1 ?_)
      rw [if_neg (by simp)]
      have fin : wpAny (model X.prog X.w) X.A (setFlight (.ref a) X.env.frame) (fun _ s4 => wpAny (model X.prog X.w) X.A (throw (.ref a) : Sem Flow) (SP X pins D) X.xe s4) X.xe { s' with heap := h3 } := by
        rw [hf]
        refine HandSPX.setFlight_upZ fl3 fun h4 hh4 up4 => wpAny_throw (tk _ _ ?_)
        exact ⟨a, G, sI, pins, σ', H', cls, d, rfl, J, nb, (up.trans up3).trans up4, .inr (.inr (hs.symm ▸ hh4)), na, os, ag, hno rfl⟩
      first
        | exact wpAny_bind (wpAny_pure (wpAny_bind fin))
        | exact wpAny_bind fin
  · cases fl with
    | next =>
      obtain ⟨σ', H', J', q⟩ := hsp
      exact wpAny_execs_nil ⟨σ', H', J'.ofTry ok, q⟩
    | brk =>
      obtain ⟨σ', H', J', q⟩ := hsp
      exact ⟨σ', H', J'.ofTry ok, q⟩
    | cont =>
      obtain ⟨σ', H', J', q⟩ := hsp
      exact ⟨σ', H', J'.ofTry ok, q⟩
    | ret u =>
      obtain ⟨v, σ', H', J', r, q⟩ := hsp
      exact ⟨v, σ', H', J'.ofTry ok, r, q⟩

/-! ### try: body, except c as n: y = n; over data -/
def wKeepD (K : FragK) (c : Value) (i j : Nat) (Wout : DW) (N : DEnds) : DW := fun C ks vs δ m => ∃ b, PySem.W.exmOne K (.ref C) c = some b ∧
  (b = true → ∀ a, m a = none → N.nx (((δ.set i (some (.obj a))).set j (some (.obj a))).set i none) (put m a (.exc C ks vs))) ∧ (b = false → Wout C ks vs δ m)
def tTry (K : FragK) (nb : DW → DS) (W : WX) : TS := fun E σ H => ∃ (B' : Bs) (WD : DW) (G : Gd) (N : DEnds) (δ : DSt) (m : Mu), (∀ cls d σ H, liftW K B' WD cls d σ H → W cls d σ H) ∧ Stable G ∧ Grow B'.1 B'.2 m H ∧ G m H ∧ MuOk K m H ∧ DEnv K m H σ δ ∧ nb WD N δ m ∧ Impl K (GB B' G) N E
theorem try_body {X : Cx} {body : List Stmt} {nb : DW → DS} {W : WX} {pn : List (Addr × Obj)} {xe : Value → Shared → Prop} (tk : Takes (X.tr pn xe) W)
    (hb : ∀ (B' : Bs) (W : DW), TakesD (X.tr pn xe) B' W → SB (X.tr pn xe) B' body (nb W)) : PSs (X.tr pn xe) body (tTry X.K nb W) := by
  refine ⟨fun pins s σ H E I ⟨B', WD, G, N, δ, m, hW, hG, gb, gg, k, en, q, ii⟩ => ?_⟩
  obtain ⟨t, p, r⟩ := hb B' WD (Takes.imp tk hW)
  exact p.run pins s σ H E I (r G hG σ H δ m N E gb gg k en q ii)
theorem ss_try_keep {X : Cx} {B : Bs} {x n y : Str} {c : Value} {body : List Stmt} {np pos pos' py pn2 pa : Pos} {nb : DW → DS} {Wout : DW} (i j : Nat) (hN : X.N.Nodup) (hc : Names X x c) (tk : TakesD X B Wout)
    (hb : ∀ (B' : Bs) (W : DW) (pn : List (Addr × Obj)) (xe : Value → Shared → Prop), TakesD (X.tr pn xe) B' W → PassesOwn (model X.prog X.w) X.A X.env xe → SB (X.tr pn xe) B' body (nb W))
    (hs : X.stack = X.env :: X.outer := by rfl) (hf : X.env.frame = some X.env.locals := by rfl) (hex : X.ex = [] := by rfl) (hi : X.N[i]? = some n := by rfl) (hln : X.env.scope.names.lookup n = some .local := by rfl)
    (hj : X.N[j]? = some y := by rfl) (hly : X.env.scope.names.lookup y = some .local := by rfl) (dn : (n == ("__debug__" : Str)) = false := by decide) (cn : (n == ("__classdict__" : Str)) = false := by decide)
    (hsw : swapsWith (.Name n pn2) (some (.Name y py)) pa.line X.env = pure false := by rfl) :
    SS X B (.Try body [.ExceptHandler (some (.Name x np)) (some n) [.Assign [.Name y py] (.Name n pn2) pa] pos'] [] [] pos) (fun N δ m => nb (wKeepD X.K c i j Wout N) N δ m) := by
  refine ⟨_, ps_try_keep (i := i) (j := j) (tb := tTry X.K nb) (Wout := liftW X.K B Wout) hs hf hex hN hi hln hj hly hc tk dn cn (fun W pn xe tk' po => try_body tk' fun B' W' t' => hb B' W' pn xe t' po) hsw, fun G hG σ H δ m N E gb gg k en q ii => ?_⟩
  refine ⟨(m, H), wKeepD X.K c i j Wout N, fun m' H' => Grow B.1 B.2 m' H' ∧ G m' H', N, δ, m, ?_, fun a b c d e f => ⟨e.1.trans f, hG _ _ _ _ e.2 f⟩, Grow.refl _ _, ⟨gb, gg⟩, k, en, q, ⟨?_, ?_, ?_, ?_⟩⟩
  · rintro cls d σ' H' ⟨C, ks, vs, δ', m', rfl, g', k', en', ef, b, hb1, hyes, hno⟩
    refine ⟨b, hb1, fun e => ⟨C, rfl, fun a ha => ?_⟩, fun e => ⟨C, ks, vs, δ', m', rfl, gb.trans g', k', en', ef, hno e⟩⟩
    have gn : Grow m' H' (put m' a (.exc C ks vs)) (upd H' a (ExcO C d a)) := Grow.newM k' ha
    have en2 := (((en'.mono gn).set i (.obj a)).set j (.obj a)).setN i
    exact ii.nx _ _ _ _ ⟨(gb.trans g').trans gn, hG _ _ _ _ gg (g'.trans gn)⟩ (k'.newM ha (show HasM _ _ _ a (.exc C ks vs) from ⟨d, upd_same, ef.monoI gn.1⟩)) en2 (hyes e a (k'.free ha))
  · exact fun σ' H' δ' m' g' k' en' q' => ii.nx _ _ _ _ ⟨g'.2.1, g'.2.2⟩ k' en' q'
  · exact fun v H' d m' g' k' h' q' => ii.rt _ _ _ _ ⟨g'.2.1, g'.2.2⟩ k' h' q'
  · exact fun σ' H' δ' m' g' k' en' q' => ii.bk _ _ _ _ ⟨g'.2.1, g'.2.2⟩ k' en' q'
  · exact fun σ' H' δ' m' g' k' en' q' => ii.ct _ _ _ _ ⟨g'.2.1, g'.2.2⟩ k' en' q'

/-! ### such an exception's field; isinstance of anything -/
@[simp] def lookS : List Str → List D → Str → Option D
  | k :: ks, d :: ds, j => if j = k then some d else lookS ks ds j
  | _, _, _ => none
theorem lookS_has {K : FragK} {m : Mu} {H : Hp} {j : Str} : ∀ {kvs : List (Str × V)} {ds : List D} {d : D}, HasAll K m H (kvs.map (·.2)) ds → lookS (kvs.map (·.1)) ds j = some d → ∃ v, kvs.lookup j = some v ∧ Has K m H v d
  | [], ds, d, h, e => by
    cases h
    cases e
  | (k, v) :: r, _, d, .cons h t, e => by
    have e2 : (if j = k then some _ else lookS (r.map (·.1)) _ j) = some d := e
    by_cases z : j = k
    · rw [if_pos z] at e2
      cases e2
      exact ⟨v, by rw [lookup_put, if_pos z], h⟩
    · rw [if_neg z] at e2
      obtain ⟨u, a, b⟩ := lookS_has t e2
      exact ⟨u, by rw [lookup_put, if_neg z]; exact a, b⟩
@[simp] def dExcF (K : FragK) (f : Str) (me : DE) : DE := fun δ m Q => me δ m fun x m1 => match x with
  | .obj a => match m1 a with
    | some (.exc C ks vs) => XfC K C ∧ PySem.W.findIn K (.ref C) f = some none ∧ ∃ d, lookS ks vs f = some d ∧ Q d m1
    | _ => False
  | _ => False
def tExcF (K : FragK) (f : Str) (te : TE) : TE := fun σ H Q => te σ H fun x H1 => ∃ (a C dd : Addr) (fs : List (Str × V)) (v : V), x = .ref a ∧ H1 a = some (ExcO C (some dd) a) ∧ H1 dd = some (.xd fs) ∧ XfC K C ∧ PySem.W.findIn K (.ref C) f = some none ∧ fs.lookup f = some v ∧ Q v H1
theorem excO_at {P : Program} {w : World} {H : Hp} {h : Heap} {a C : Addr} {d : Option Addr} (hok : HOk P w H h) (e : H a = some (ExcO C d a)) : ∃ (oe : Obj) (us : Array Value), h.get? a = some oe ∧ (oe.cls = .ref C ∧ oe.dict = d) ∧ oe.data = .fields us := by
  have x : ObjOk P w H h a (.ext fun h => ∃ (oe : Obj) (us : Array Value), h.get? a = some oe ∧ (oe.cls = .ref C ∧ oe.dict = d) ∧ oe.data = .fields us) := hok a _ e
  exact x.1
theorem pe_excF {X : Cx} {e : Expr} {te : TE} {f : Str} {pos : Pos} (he : PE X e te) (hb : attributeBase e f X.env (eval e X.env) = eval e X.env := by rfl) : PE X (.Attribute e f pos) (tExcF X.K f te) := by
  refine ⟨fun pins s σ H Q I h => ?_⟩
  refine attr_of hb (thn (he.run pins s σ H _ I h) fun u s1 ⟨x, H1, I1, rx, a, C, dd, fs, v, ex, ea, ed, T, hno, l, q⟩ => ?_)
  subst ex
  obtain rfl : u = Value.ref a := rx
  obtain ⟨oe, us, ha, hz, hd⟩ := excO_at I1.hok ea
  obtain ⟨mA, hns, hr⟩ := (show ObjOk X.prog X.w H1 s1.heap dd (.xd fs) from I1.hok dd _ ed)
  obtain ⟨od, ho, hl⟩ := lookIn_ns hns
  obtain ⟨u2, hu, ru⟩ := RelO.some_of (v := v) (o := mA f) (by rw [← l]; exact hr f)
  have J : PySem.W.InstAt s1.heap a oe C (some od) := ⟨ha, hz.1, by unfold PySem.W.notCls; rw [hd] <;> rfl, by rw [hz.2]; exact ho⟩
  exact HandSPX.exc_get I1.kIn J T.ga T.gg T.exC (PySem.W.findObj_own T.hdC hno rfl (by rw [hl, hu])) (handed_of ru) ⟨v, H1, I1.tok _, ru, q⟩
theorem ee_excF {X : Cx} {B : Bs} {e : Expr} {me : DE} {f : Str} {pos : Pos} (he : EE X B e me) (hb : attributeBase e f X.env (eval e X.env) = eval e X.env := by rfl) : EE X B (.Attribute e f pos) (dExcF X.K f me) := by
  obtain ⟨_, p, r⟩ := he
  refine ⟨_, pe_excF p hb, fun σ H δ m Q Q' gb k en q l => r σ H δ m _ _ gb k en q fun v H1 d m1 g1 k1 h1 q1 => ?_⟩
  split at q1
  · rename_i a
    split at q1
    · rename_i C ks vs hm
      obtain ⟨T, no, d, hl, q⟩ := q1
      cases h1
      obtain ⟨dd, hx, ef⟩ := k1 _ _ hm
      rcases ef with ⟨_, e1, _⟩ | ⟨dx, kvs, rfl, e1, e2, e3, ha⟩
      · subst e1
        cases vs <;> cases hl
      · subst e3
        obtain ⟨v, a1, b1⟩ := lookS_has ha hl
        exact ⟨a, C, dx, kvs, v, rfl, hx, e1, T, no, a1, l _ _ _ _ g1 k1 b1 q⟩
    · exact q1.elim
  · exact q1.elim
/-- the type of a value, an exception's class too -/
def TyV (K : FragK) (m : Mu) (x : D) (t : Value) : Prop := (∃ n, tyN x = some n ∧ t = .type n) ∨ ∃ (a C : Addr) (ks : List Str) (vs : List D), x = .obj a ∧ m a = some (.exc C ks vs) ∧ t = .ref C ∧ ExcC K C
def clsV : D → Option Value
  | .ty n => some (.type n)
  | .obj C => some (.ref C)
  | _ => none
@[simp] def gIsiV (K : FragK) : DO1 := fun ds m Q => match ds with
  | [x, .tup cs] => ∃ (t : Value) (us : List Value) (b : Bool), TyV K m x t ∧ cs.map clsV = us.map some ∧ PySem.W.kitAny K t us = some b ∧ Q (.bl b) m
  | [x, c] => ∃ (t u : Value) (b : Bool), TyV K m x t ∧ clsV c = some u ∧ PySem.W.kitOne K t u = some b ∧ Q (.bl b) m
  | _ => False
def TyG (K : FragK) (H : Hp) (x : V) (t : Value) : Prop := TyX K H x t ∨ ∃ (a C : Addr) (d : Option Addr), x = .ref a ∧ H a = some (ExcO C d a) ∧ t = .ref C ∧ ExcC K C ∧ ∀ dx, d = some dx → ∃ kvs, H dx = some (.xd kvs)
def rIsiG (K : FragK) : List V → Hp → VK → Prop := fun xs H Q => ∃ (x c : V) (t u : Value) (b : Bool), xs = [x, c] ∧ ClsV c u ∧ TyG K H x t ∧ PySem.W.kitOne K t u = some b ∧ Q (.bl b) H
def rIsiGs (K : FragK) : List V → Hp → VK → Prop := fun xs H Q => ∃ (x : V) (tp : Addr) (cs : List V) (t : Value) (us : List Value) (b : Bool), xs = [x, .ref tp] ∧ SqT K H tp cs ∧ Paired ClsV cs us ∧ TyG K H x t ∧ PySem.W.kitAny K t us = some b ∧ Q (.bl b) H
section
variable {X : Cx}
theorem kit_ofG {pins : List (Addr × Obj)} {σ : L2.St} {H : Hp} {s : Shared} {x : V} {u t : Value} (I : Inv X pins σ H s) (rx : RelV x u) (ty : TyG X.K H x t) : ∃ P : Heap → Prop, PySem.W.KitX X.K u t P ∧ P s.heap ∧ u ≠ .builtin "__main__.__loader__#opaque" := by
  rcases ty with ty | ⟨a, C, d, rfl, ea, rfl, T, hd⟩
  · exact kit_of I rx ty
  · obtain rfl : u = Value.ref a := rx
    obtain ⟨oe, us, ha, hz, hdt⟩ := excO_at I.hok ea
    have hcl : (PySem.W.clsIn X.K C).isSome = true := by
      have h1 := T.hd
      unfold PySem.W.hasDictIn at h1
      cases e : PySem.W.clsIn X.K C with
      | none => rw [e] at h1; cases h1
      | some cd => rfl
    have nc : PySem.W.notCls oe = true := by unfold PySem.W.notCls; rw [hdt] <;> rfl
    cases d with
    | none => exact ⟨_, PySem.W.kitx_exc (x := a) (od := none) (ox := oe) hcl T.hg T.hk T.hs T.ha T.hn T.ht T.hm, ⟨ha, hz.1, nc, by rw [hz.2]; trivial⟩, fun z => nomatch z⟩
    | some dx =>
      obtain ⟨kvs, ed⟩ := hd dx rfl
      obtain ⟨mA, hns, _⟩ := (show ObjOk X.prog X.w H s.heap dx (.xd kvs) from I.hok dx _ ed)
      obtain ⟨od, ho, _⟩ := lookIn_ns hns
      exact ⟨_, PySem.W.kitx_exc (x := a) (od := some od) (ox := oe) hcl T.hg T.hk T.hs T.ha T.hn T.ht T.hm, ⟨ha, hz.1, nc, by rw [hz.2]; exact ho⟩, fun z => nomatch z⟩
theorem call_isiG : CallR X (.builtin "isinstance") (rIsiG X.K) := by
  intro pins s σ H xs us Q I r h
  obtain ⟨x, c, t, u, b, rfl, k, ty, e, q⟩ := h
  obtain ⟨u1, u2, rfl, r1, r2⟩ := vals2 r
  have e2 := k.eq r2
  subst e2
  obtain ⟨P, Z, p, hx⟩ := kit_ofG I r1 ty
  exact PySem.W.kia_one Z I.kIn p e hx fun tk => ⟨.bl b, H, I.tok tk, rfl, q⟩
theorem call_isiGs : CallR X (.builtin "isinstance") (rIsiGs X.K) := by
  intro pins s σ H xs us Q I r h
  obtain ⟨x, tp, cs, t, ws, b, rfl, hT, k, ty, e, q⟩ := h
  obtain ⟨u1, u2, rfl, r1, r2⟩ := vals2 r
  obtain rfl : u2 = Value.ref tp := r2
  obtain ⟨P, Z, p, hx⟩ := kit_ofG I r1 ty
  obtain ⟨its, rv, ⟨⟨oc, od, dt, sl⟩, h1, h2, n, h3⟩, _⟩ := I.tuple hT
  have e3 := ClsV.all k rv
  subst e3
  simp only at h2 h3
  subst h2 h3
  exact PySem.W.kia_tup Z I.kIn p h1 e hx fun tk => ⟨.bl b, H, I.tok tk, rfl, q⟩
theorem TyV.g {K : FragK} {m : Mu} {H : Hp} {v : V} {x : D} {t : Value} (k : MuOk K m H) (h : Has K m H v x) (ty : TyV K m x t) : TyG K H v t := by
  rcases ty with ⟨n, e, rfl⟩ | ⟨a, C, ks, vs, rfl, hm, rfl, T⟩
  · exact .inl (h.tyX e)
  · cases h
    obtain ⟨d, hx, ef⟩ := k _ _ hm
    refine .inr ⟨a, C, d, rfl, hx, rfl, T, fun dx e => ?_⟩
    rcases ef with ⟨z, _⟩ | ⟨dx', kvs, e1, e2, _⟩
    · rw [z] at e; cases e
    · rw [e1] at e; cases e; exact ⟨kvs, e2⟩
theorem Has.clsV {K : FragK} {m : Mu} {H : Hp} {v : V} {c : D} {u : Value} (h : Has K m H v c) (e : DL.clsV c = some u) : ClsV v u := by
  cases h <;> cases e
  · exact .ty _
  · exact .own _
theorem HasAll.clsV {K : FragK} {m : Mu} {H : Hp} : ∀ {vs : List V} {cs : List D} {us : List Value}, HasAll K m H vs cs → cs.map DL.clsV = us.map some → Paired ClsV vs us
  | [], [], [], .nil, _ => .nil
  | _ :: _, _ :: _, _ :: _, .cons h t, e => by
    rw [List.map_cons, List.map_cons] at e
    injection e with e1 e2
    exact .cons (h.clsV e1) (HasAll.clsV t e2)
  | [], [], _ :: _, _, e => by cases e
  | _ :: _, _ :: _, [], _, e => by cases e
theorem cd_isiV : CallD X (.builtin "isinstance") (gIsiV X.K) := by
  refine ⟨_, CallR.or call_isiG call_isiGs, ?_⟩
  intro xs H ds m Q Q' k h q l
  unfold gIsiV at q
  split at q
  · obtain ⟨t, us, b, ty, e, ka, q⟩ := q
    obtain ⟨v, u, rfl, hv, hu⟩ := h.twos
    cases hu with
    | tup hs ha => exact .inr ⟨v, _, _, t, us, b, rfl, hs.sq, ha.clsV e, ty.g k hv, ka, l.at k (.bl _) q⟩
  · obtain ⟨t, c, b, ty, e, ka, q⟩ := q
    obtain ⟨v, u, rfl, hv, hu⟩ := h.twos
    exact .inl ⟨v, u, t, c, b, rfl, hu.clsV e, ty.g k hv, ka, l.at k (.bl _) q⟩
  · exact q.elim
end
end DL

namespace DL
open PySem PySem.Spec PyProof.Rows L2

/-- what a law's def is to give, where the caller runs no repr: its body, walked at any entry of the outermost call -/
structure LawBody (P : Program) (w : World) (K : FragK) (mg : Str → Option Value) (base : Heap) (k : Nat) (f : Addr) (x qual : Str) (body : List Stmt) (scope : Scope) (N : List Str) (ok : List Int → Prop) : Prop where
  ex : ∃ n : DS, (∀ (cdv : Value) (outer : List Env) (s : Shared) (H : Hp) (E : XK) (B : Bs), Room k (cxOf (L2.CX P w) P w K mg base N qual scope f cdv callerA outer s H E).A → (cxOf (L2.CX P w) P w K mg base N qual scope f cdv callerA outer s H E).A.guards = some [] →
      SB (cxOf (L2.CX P w) P w K mg base N qual scope f cdv callerA outer s H E) B body n) ∧
    ∀ ns : List Int, ok ns → n { nx := fun _ _ => False, rt := fun d _ => d = .bl true } (startD N [.scr (ns.map D.int)]) fun _ => none
/-- one call of a def with one parameter, walked at that call alone -/
theorem law_once {P : Program} {w : World} {K : FragK} {mg : Str → Option Value} {base : Heap} {x name qual : Str} {params : Arguments} {body : List Stmt} {scope : Scope} {kws : List (Str × V)} {fa a : Addr} {fd : FuncData} {N : List Str} {k : Nat} {ok : List Int → Prop} {ns : List Int}
    (F : FunD K name qual params body scope [] kws fa fd) (S : FnScope N [x] scope) (hb : ∀ (s : Shared) (u : Value), BindsTo s fd ⟨[u], []⟩ [(x, u)]) (hr : Room (k + 1) callerA)
    (LB : LawBody P w K mg base k fa x qual body scope N ok) (hok : ok ns) {s : Shared} {H : Hp} (e0 : Env0 P w K mg base callerA [] s H) (hS : SqL K H a (ns.map V.int)) :
    codeAny (model P w) callerA (.call (.ref fa) ⟨[.ref a], []⟩) (CR (L2.CX P w) [] P w H s (fun v _ => v = .bl true) fun _ _ _ => False) s := by
  obtain ⟨oc, od, dV, kV, doc, pm, an, cdv, ct, osl, efd, lk, hcd, _, _⟩ := F.ex
  obtain ⟨n, hn, hq⟩ := LB.ex
  have inH : ∀ b o, base.get? b = some o → s.heap.get? b = some o := fun b o e => (e0.bs b o e).1
  have hbs := hb s (.ref a)
  rw [efd] at lk hbs
  have hx := S.par x List.mem_cons_self
  have hkinds : ∀ y ∈ [(x, Value.ref a)], scope.names.lookup y.1 = some .local ∨ (scope.names.lookup y.1 = some .cell ∧ ((cellsFrom (s.heap.objs.size + 1) scope.names []).lookup y.1).isSome = true) := by
    intro y hy
    rw [List.mem_singleton] at hy
    subst hy
    exact hx.imp id fun q => ⟨q, PySem.W.cellsFrom_some _ _ _ (.inl q)⟩
  have KX := e0.mod.kin.keeps inH
  refine codeAny_call_function hr.depth (KX _ _ lk) rfl S.co S.gen rfl (PySem.W.codeRec_of KX hcd) (hbs _ _ _ _ (wpAny_newFunctionEnv_cells S.kind hkinds fun env he s1 ic => ?_))
  subst he
  have va : Vals [V.ref a] [Value.ref a] := .cons rfl .nil
  refine ⟨(e0.mod.nolimit.keeps inH).keeps ic.toInCall.keep, codeAny_func ?_⟩
  have I := inv_start (E := fun _ _ _ => False) (CX := L2.CX P w) (qual := qual) (f := fa) (cd := cdv) S hr.hd e0 rfl va ic
  obtain ⟨t, pt, rt⟩ := hn cdv [] s H (fun _ _ _ => False) (fun _ => none, H) (hr.deeper _) rfl
  have hs : Has K (fun _ => none) H (.ref a) (.scr (ns.map D.int)) := .scr (hS.imp (fun r => ⟨rfl, r⟩) id) (hasAll_of_ints ns)
  have start := rt (fun _ _ => True) (fun _ _ _ _ _ _ => trivial) _ _ _ _ _ { nx := fun _ _ => False, rt := fun v _ => v = .bl true } (Grow.refl _ _) trivial (fun _ _ e => nomatch e) (denv_start (N := N) (.cons hs .nil)) (hq ns hok)
    ⟨fun _ _ _ _ _ _ _ z => z, fun v H' d m' _ _ h q => by subst q; cases h; rfl, fun _ _ _ _ _ _ _ z => z, fun _ _ _ _ _ _ _ z => z⟩
  refine wpAny_mono (pt.run [] s1 _ H _ I start) (fun fl s' h => ?_) fun e s' h => h
  cases fl with
  | ret u =>
    obtain ⟨v, σ', H', J, r, q⟩ := h
    exact ⟨v, H', J.os, J.bare, J.base, J.hok, r, q⟩
  | next => obtain ⟨_, _, _, z⟩ := h; exact z.elim
  | brk => obtain ⟨_, _, _, z⟩ := h; exact z.elim
  | cont => obtain ⟨_, _, _, z⟩ := h; exact z.elim
/-- nothing is raised where nothing may be -/
theorem cx_none {P : Program} {w : World} {H : Hp} {s : Shared} {e : Value} {s' : Shared} (h : L2.CX P w [] H s (fun _ _ _ => False) e s') : False := by
  unfold L2.CX at h
  simp_all
/-- the law's call from the heap behind the top: the script alone is tracked, if at all -/
theorem law_top {P : Program} {w : World} {K : FragK} {mg mb : Str → Option Value} {x name qual : Str} {params : Arguments} {body : List Stmt} {scope : Scope} {kws : List (Str × V)} {fa a : Addr} {fd : FuncData} {N : List Str} {k : Nat} {ok : List Int → Prop} {ns : List Int} {s₁ : Shared} {vs : List Value}
    (KX : K.In s₁.heap) (hns : s₁.heap.Ns mainGlobals mg) (hb : s₁.heap.Ns builtinsNs mb) (hbb : ∀ x : Str, x ≠ "__name__" → mb x = bootBuiltins x) (hlim : s₁.heap.NoLimit) (hg : s₁.gens = #[])
    (ha : s₁.heap.get? a = some { cls := .type "list", data := .seq vs.toArray }) (hi : IntsAre vs ns) (hl : ns.length ≤ sizeLine) (hr : Room (k + 1) callerA)
    (F : FunD K name qual params body scope [] kws fa fd) (S : FnScope N [x] scope) (hbind : ∀ (s : Shared) (u : Value), BindsTo s fd ⟨[u], []⟩ [(x, u)])
    (LB : ∀ base : Heap, K.In base → base.Ns mainGlobals mg → LawBody P w K mg base k fa x qual body scope N ok) (hok : ok ns) :
    codeAny (model P w) callerA (.call (.ref fa) ⟨[.ref a], []⟩) (fun r s' => r = .ok (.ret (.bool true)) ∧ OldK s₁.heap s'.heap ∧ s'.os = s₁.os ∧ AllBare s'.gens) s₁ := by
  have rv := vals_ints hi
  -- the heap that the walk is told: the script where the module does not hold it
  let H : Hp := fun b => if b = a ∧ K.lookup a = none then some (.frz { cls := .type "list", data := .seq vs.toArray } (.lst (ns.map V.int))) else none
  have Hn : ∀ {b : Addr}, b ≠ a → H b = none := fun h => if_neg fun z => h z.1
  have HT : K.lookup a = none → H a = some (.frz { cls := .type "list", data := .seq vs.toArray } (.lst (ns.map V.int))) := fun e => if_pos ⟨rfl, e⟩
  have HF : ∀ {o}, K.lookup a = some o → H a = none := fun {o} e => if_neg fun z => by rw [e] at z; exact nomatch z.2
  have lenS : vs.toArray.size ≤ sizeLine := by rw [List.size_toArray, hi.length]; exact hl
  have sees : SqL K H a (ns.map V.int) := by
    cases e : K.lookup a with
    | none => exact .inl (.inr ⟨_, HT e⟩)
    | some o =>
      have eo := KX a o e
      rw [ha] at eo
      cases eo
      exact .inr ⟨_, vs.toArray, _, e, rfl, rfl, rfl, lenS, by simpa using rv⟩
  have okH : HOk P w H s₁.heap := fun b u z => by
    by_cases hb : b = a
    · subst hb
      cases e : K.lookup b with
      | none =>
        rw [HT e] at z
        cases z
        exact ⟨ha, by rw [List.length_map]; exact hl, vs, _, rv, ha⟩
      | some o => rw [HF e] at z; cases z
    · rw [Hn hb] at z; cases z
  have seen : ∀ {b : Addr} {o : Obj}, s₁.heap.get? b = some o → (∀ es n, o.data ≠ .seq es n) → (hidT s₁.heap H).get? b = some o := fun {b o} e d => hidT_get e (by
    by_cases hb : b = a
    · subst hb
      rw [ha] at e
      cases e
      exact absurd rfl (d _ _)
    · exact Hn hb)
  have ns_of : ∀ {b : Addr} {m : Str → Option Value}, s₁.heap.Ns b m → (hidT s₁.heap H).Ns b m := fun ⟨o, es, n, e, d, r⟩ => ⟨o, es, n, seen e (fun _ _ z => by rw [d] at z; cases z), d, r⟩
  have kin : K.In (hidT s₁.heap H) := fun b o e => by
    refine hidT_get (KX b o e) ?_
    by_cases hb : b = a
    · rw [hb] at e ⊢
      exact HF e
    · exact Hn hb
  have md : Mod K mg (hidT s₁.heap H) := ⟨kin, ns_of hns, ⟨mb, ns_of hb, hbb⟩, let ⟨m, q1, q2⟩ := hlim; ⟨m, ns_of q1, q2⟩⟩
  have e0 : Env0 P w K mg (hidT s₁.heap H) callerA [] s₁ H := by
    refine ⟨rfl, md, fun b o e => of_hidT e, Nat.le_of_eq (hidT_size _ _), trivial, fun b z => ?_, okH, .of_eq hg⟩
    exact absurd (show b ∈ ([] : List Addr) from z) List.not_mem_nil
  refine codeAny_mono (law_once F S hbind hr (LB _ kin (ns_of hns)) hok e0 sees) fun r s' h => ?_
  match r, h with
  | .error e, h => exact (cx_none h).elim
  | .ok .next, h => exact False.elim h
  | .ok .brk, h => exact False.elim h
  | .ok .cont, h => exact False.elim h
  | .ok (.ret u), h =>
    obtain ⟨v, H', os, bare, un, hok', rv', q⟩ := h
    have q' : v = .bl true := q
    subst q'
    have eu : u = Value.bool true := rv'
    subst eu
    refine ⟨rfl, OldK.of_keep fun b o e => ?_, os, bare⟩
    cases q : H b with
    | none => exact un.keep b o e q (fun z => absurd (show b ∈ ([] : List Addr) from z) List.not_mem_nil) (by simp)
    | some u =>
      have hba : b = a := Classical.byContradiction fun z => by rw [Hn z] at q; cases q
      subst hba
      have hk : K.lookup b = none := by
        cases e2 : K.lookup b with
        | none => rfl
        | some o2 => rw [HF e2] at q; cases q
      obtain ⟨e1, _⟩ := hok' b _ (un.frzs b _ _ (HT hk))
      rw [ha] at e
      cases e
      exact e1
/-- a law over a head by facts; its def stands where the caller runs no repr -/
theorem law_walk {l : PySem.W.OpenLaw} {n k : Nat} {q : Program} {loose : List Str} {XP : (Str → Option Value) → Heap → Prop} {YP : World → Heap → Prop} {d : DefRec} {x qual : Str} {N : List Str}
    (hn : l.most = some n) (hn2 : n ≤ sizeLine) (hdf : d.params.defaults = []) (hr : Room (k + 1) callerA)
    (F : ∀ (w : World) (mg : Str → Option Value) (fa : Addr) (h : Heap), YP w h → h.Ns mainGlobals mg → mg d.name = some (.ref fa) →
      ∃ (K : FragK) (fd : FuncData) (name : Str) (params : Arguments) (body : List Stmt) (scope : Scope) (kws : List (Str × V)), K.In h ∧ FunD K name qual params body scope [] kws fa fd ∧ FnScope N [x] scope ∧ (∀ (s : Shared) (u : Value), BindsTo s fd ⟨[u], []⟩ [(x, u)]) ∧
        ∀ base : Heap, K.In base → base.Ns mainGlobals mg → LawBody l.prog w K mg base k fa x qual body scope N (fun ns => ns.length ≤ n ∧ ∀ z ∈ ns, Builtin.Int.intBits z ≤ 1048576)) :
    PySem.W.WalkO q loose XP YP l.row.toRowW d [] (fun f vs => PySem.call f vs) := by
  refine Att.attach_callB hn hdf fun w s₀ s₁ mg mb fa o pm cd doc a vs ns G Y ho hd hcd hmg hobj hints hlen hbits hg => ?_
  obtain ⟨K, fd, name, params, body, scope, kws, KX, FD, S, hb, LB⟩ := F w mg fa _ Y G.T.g hmg
  exact law_top KX G.T.g G.T.b G.T.builtins G.T.nolimit hg hobj hints (Nat.le_trans hlen hn2) hr FD S hb LB ⟨hlen, hbits⟩
end DL

namespace DL
open PySem PySem.Spec PyProof.Rows L2

/-! ### a list, a tuple, a text walked; the value's kind is told by the value -/
def iSeqK (K : FragK) (te : TE) : TI := fun σ H R => te σ H fun x H1 => (∃ a, x = .ref a ∧ (∃ xs, SqL K H1 a xs) ∧ R (Itl K a) H1) ∨ (∃ a, x = .ref a ∧ (∃ xs, SqT K H1 a xs) ∧ R (Itt K a) H1) ∨ ∃ z, x = .str z ∧ R (Its z) H1
theorem pe_self {X : Cx} {e : Expr} {v : V} {u : Value} (hu : RelV v u) (he : eval e X.env = pure u) : PE X e (tC v) := ⟨fun pins s σ H Q I h => by rw [he]; exact wpAny_pure ⟨v, H, I, hu, h⟩⟩
theorem pi_kinds {X : Cx} {tg e : Expr} {te : TE} (he : PE X e te) : PI X tg e (iSeqK X.K te) := by
  refine ⟨fun pins s σ H R I h => thn (he.run pins s σ H _ I h) ?_⟩
  rintro v s1 ⟨x, H1, I1, r, (⟨a, rfl, ⟨xs, hq⟩, q⟩ | ⟨a, rfl, ⟨xs, hq⟩, q⟩ | ⟨z, rfl, q⟩)⟩
  · obtain rfl : v = Value.ref a := r
    obtain ⟨its, rv, p, hz⟩ := I1.list hq
    exact wpAny_pyIter_list p.isList (pi_one (tk := s1.toks) I1 _ (turn_list a _) ⟨_, Heap.get?_push_size _ rfl, rfl, rfl⟩ q)
  · obtain rfl : v = Value.ref a := r
    obtain ⟨its, rv, p, hz⟩ := I1.tuple hq
    exact wpAny_pyIter_tuple (show s1.heap.IsTuple a its.toArray from p) (pi_one (tk := s1.toks) I1 _ (turn_tuple a _) ⟨_, Heap.get?_push_size _ rfl, rfl, rfl⟩ q)
  · obtain ⟨t, rfl⟩ := r
    by_cases ha : z.cps.all (· < 128) = true
    · exact wpAny_pyIter_ascii ha (pi_one (tk := s1.toks) I1 _ (turn_str _ z t "str_ascii_iterator" (.inl rfl)) ⟨_, Heap.get?_push_size _ rfl, rfl, rfl⟩ q)
    · exact wpAny_pyIter_wide (by simpa using ha) (pi_one (tk := s1.toks) I1 _ (turn_str _ z t "str_iterator" (.inr rfl)) ⟨_, Heap.get?_push_size _ rfl, rfl, rfl⟩ q)
def sgnD (z : Str) : List D := z.cps.toList.map fun c => D.str ⟨#[c]⟩
theorem it_str {K : FragK} {z : Str} : ItOk K (Its z) (sgnD z) (fun _ _ => True) where
  st := fun _ _ _ _ _ _ => trivial
  go := fun i x m H s k e => by
    unfold sgnD at e
    rw [List.getElem?_map] at e
    cases hc : z.cps.toList[i]? with
    | none => rw [hc] at e; cases e
    | some c =>
      rw [hc] at e
      cases e
      have hc2 : z.cps[i]? = some c := by simpa using hc
      refine ⟨(Array.getElem?_eq_some_iff.mp hc2).1, fun u H' y => ?_⟩
      obtain ⟨rfl, c', hc', rfl⟩ := y
      rw [hc2] at hc'
      cases hc'
      exact ⟨Grow.refl _ _, k, .str _⟩
  stop := fun i m H s k e => by
    unfold sgnD at e
    rw [List.length_map] at e
    show z.cps.size ≤ i
    simpa using e
@[simp] def iSeq (me : DE) : DI := fun δ m R => me δ m fun d m1 => match d with
  | .lst xs => R xs m1
  | .scr xs => R xs m1
  | .tup xs => R xs m1
  | .str z => R (sgnD z) m1
  | _ => False
theorem ii_seq {X : Cx} {B : Bs} {tg l : Expr} {me : DE} (h : EE X B l me) : II X B tg l (iSeq me) := by
  obtain ⟨_, p, r⟩ := h
  refine ⟨_, pi_kinds p, fun σ H δ m R R' gb k en q l => r σ H δ m _ _ gb k en q fun v H1 d m1 g1 k1 h1 q1 => ?_⟩
  split at q1
  · cases h1 with
    | lst hs n ha => exact .inl ⟨_, rfl, ⟨_, SqL.of hs⟩, l _ _ _ _ _ g1 k1 it_list ⟨.inl ⟨n, .inl hs⟩, ha⟩ q1⟩
  · cases h1 with
    | scr hs ha => exact .inl ⟨_, rfl, ⟨_, hs.sq⟩, l _ _ _ _ _ g1 k1 it_list ⟨hs, ha⟩ q1⟩
  · cases h1 with
    | tup hs ha => exact .inr (.inl ⟨_, rfl, ⟨_, hs.sq⟩, l _ _ _ _ _ g1 k1 it_tup ⟨hs, ha⟩ q1⟩)
  · cases h1
    exact .inr (.inr ⟨_, rfl, l _ _ _ _ _ g1 k1 it_str trivial q1⟩)
  · exact q1.elim

/-! ### a target over a tuple or a list -/
theorem pg_either {X : Cx} {e : Expr} {t t' : TG} (p : PG X e t) (p' : PG X e t') : PG X e (fun v σ H Q => t v σ H Q ∨ t' v σ H Q) :=
  ⟨fun pins s σ H v u Q I r h => h.elim (p.run pins s σ H v u Q I r) (p'.run pins s σ H v u Q I r)⟩
@[simp] def hSeq (n : Nat) (r : DGs) : DG := fun d δ m Q => match d with
  | .tup xs => xs.length = n ∧ r xs δ m Q
  | .lst xs => xs.length = n ∧ r xs δ m Q
  | _ => False
section
variable {X : Cx} {B : Bs} {vs : List Nat} {es : List Expr} {gs : DGs} {pos : Pos}
theorem eg_seq {n k : Nat} (hc : X.calm = true) (h : EGs X B es gs) (hn : (assignEach es X.env).length = n := by rfl) (hst : (assignEach es X.env).findIdx? (·.1) = none := by rfl) : EG X B (.Tuple es k pos) (hSeq n gs) := by
  obtain ⟨_, p, r⟩ := h
  refine ⟨_, pg_either (pg_tup hc p hn hst) (pg_lst hc p hn hst), fun v σ H d δ m Q Q' gb k en h q l => ?_⟩
  unfold hSeq at q
  split at q
  · cases h with
    | tup hs ha => exact .inl ⟨_, _, rfl, hs.sq, by rw [ha.length]; exact q.1, r _ _ _ _ _ _ _ _ gb k en ha q.2 l⟩
  · cases h with
    | lst hs n ha => exact .inr ⟨_, _, rfl, SqL.of hs, by rw [ha.length]; exact q.1, r _ _ _ _ _ _ _ _ gb k en ha q.2 l⟩
  · exact q.elim
theorem egv_seq {n k : Nat} (hc : X.calm = true) (h : EGvs X B vs es gs) (hn : (assignEach es X.env).length = n := by rfl) (hst : (assignEach es X.env).findIdx? (·.1) = none := by rfl) : EGv X B vs (.Tuple es k pos) (hSeq n gs) := by
  obtain ⟨_, p, r⟩ := h
  refine ⟨_, pg_either (pg_tup hc p hn hst) (pg_lst hc p hn hst), fun v σ H d δ m Q Q' gb k en h q l => ?_⟩
  unfold hSeq at q
  split at q
  · cases h with
    | tup hs ha => exact .inl ⟨_, _, rfl, hs.sq, by rw [ha.length]; exact q.1, r _ _ _ _ _ _ _ _ gb k en ha q.2 l⟩
  · cases h with
    | lst hs n ha => exact .inr ⟨_, _, rfl, SqL.of hs, by rw [ha.length]; exact q.1, r _ _ _ _ _ _ _ _ gb k en ha q.2 l⟩
  · exact q.elim
/-- a, b, c = x, y, z -/
@[simp] def dPar3 (i j l : Nat) (na : DA) : DS := fun N δ m => na δ m fun ds m1 => match ds with
  | [d, e, f] => N.nx (((δ.set i (some d)).set j (some e)).set l (some f)) m1
  | _ => False
theorem HasAll.threes {K : FragK} {m : Mu} {H : Hp} {vs : List V} {d e f : D} (h : HasAll K m H vs [d, e, f]) : ∃ v u w, vs = [v, u, w] ∧ Has K m H v d ∧ Has K m H u e ∧ Has K m H w f := by
  cases h with
  | cons h t =>
    obtain ⟨u, w, rfl, h2, h3⟩ := t.twos
    exact ⟨_, u, w, rfl, h, h2, h3⟩
theorem ss_par3 {x y z : Str} {a b c : Expr} {na : DA} {px py pz pt : Pos} {kt k2 pt2} (i j l : Nat) (hc : X.calm = true) (hN : X.N.Nodup) (ha : EA X B [a, b, c] na) (hi : X.N[i]? = some x := by rfl) (hj : X.N[j]? = some y := by rfl) (hl : X.N[l]? = some z := by rfl) (hij : i ≠ j := by decide) (hil : i ≠ l := by decide) (hjl : j ≠ l := by decide)
    (hx : X.env.scope.names.lookup x = some .local := by rfl) (hy : X.env.scope.names.lookup y = some .local := by rfl) (hz : X.env.scope.names.lookup z = some .local := by rfl)
    (hw : swappedStores [.Tuple [.Name x px, .Name y py, .Name z pz] kt pt] (.Tuple [a, b, c] k2 pt2) X.env = pure (some [x, y, z]) := by rfl)
    (hs : swapsWithSole [.Tuple [.Name x px, .Name y py, .Name z pz] kt pt] (.Tuple [a, b, c] k2 pt2) pos.line X.env = pure false := by rfl) :
    SS X B (.Assign [.Tuple [.Name x px, .Name y py, .Name z pz] kt pt] (.Tuple [a, b, c] k2 pt2) pos) (dPar3 i j l na) := by
  obtain ⟨_, p, r⟩ := ha
  refine ⟨_, ps_par3 (i := i) (j := j) (l := l) hc hN hi hj hl hij hil hjl hx hy hz p hw hs, fun G hG σ H δ m N E gb gg k en q ii => r σ H δ m _ _ gb k en q fun vs H1 ds m1 g1 k1 h1 q1 => ?_⟩
  split at q1
  · obtain ⟨v, u, w, rfl, ha, hb, hc⟩ := h1.threes
    exact ⟨v, u, w, rfl, ii.nx _ _ _ _ ⟨gb.trans g1, hG _ _ _ _ gg g1⟩ k1 ((((en.mono g1).set i ha).set j hb).set l hc) q1⟩
  · exact q1.elim
end

/-! ### a call of a local name that holds one of some defs -/
structure HeldD (P : Program) (w : World) (K : FragK) (mg : Str → Option Value) (base : Heap) (k : Nat) (f : Addr) (sp : SpD) : Prop where
  ex : ∃ (fd : FuncData) (ps : List Str), FnOk P w K mg base (L2.CX P w) k f fd ps (liftSp K sp) ∧ PySem.W.keepIn K (.ref f) = true ∧ Binds K fd ps []
theorem FnD.held {P : Program} {w : World} {K : FragK} {mg : Str → Option Value} {base : Heap} {k : Nat} {x : Str} {ps : List Str} {sp : SpD} {f : Addr} (F : FnD P w K mg base k x ps sp) (g : mg x = some (.ref f)) : HeldD P w K mg base k f sp := by
  obtain ⟨f', fd, hm, hk, F, hb⟩ := F.ex
  rw [g] at hm
  cases hm
  exact ⟨fd, ps, F, hk, hb⟩
theorem HeldD.up {P : Program} {w : World} {K : FragK} {mg : Str → Option Value} {base : Heap} {j k : Nat} {f : Addr} {sp : SpD} (h : HeldD P w K mg base j f sp) (le : j ≤ k) : HeldD P w K mg base k f sp := by
  obtain ⟨fd, ps, F, hk, hb⟩ := h
  exact ⟨fd, ps, F.mono le, hk, hb⟩
theorem FnD.up {P : Program} {w : World} {K : FragK} {mg : Str → Option Value} {base : Heap} {j k : Nat} {x : Str} {ps : List Str} {sp : SpD} (F : FnD P w K mg base j x ps sp) (le : j ≤ k) : FnD P w K mg base k x ps sp := by
  obtain ⟨f, fd, hm, hk, F, hb⟩ := F.ex
  exact ⟨f, fd, hm, hk, F.mono le, hb⟩
@[simp] def dCallV (i : Nat) (S : Addr → SpD → Prop) (W : DW) (na : DA) : DE := fun δ m Q => match δ[i]? with
  | some (some (.obj f)) => ∃ sp, S f sp ∧ na δ m fun ds m1 => sp ds m1 Q fun C ks vs m2 => W C ks vs δ m2
  | _ => False
theorem ee_callV {X : Cx} {B : Bs} {k : Nat} {x : Str} {S : Addr → SpD → Prop} {W : DW} {e : Expr} {es : List Expr} {na : DA} {p pos : Pos} (i : Nat) (A : ∀ f sp, S f sp → HeldD X.prog X.w X.K X.mg X.base k f sp) (hr : Room k X.A) (tk : TakesD X B W) (ha : EA X B (e :: es) na)
    (hN : X.N[i]? = some x := by rfl) (hv : Vis X.env.scope x := by first | exact Or.inl rfl | exact Or.inr (Or.inl rfl) | exact Or.inr (Or.inr rfl)) (hdb : (x == ("__debug__" : Str)) = false := by decide) (hcd : (x == ("__classdict__" : Str)) = false := by decide)
    (he : starEach (e :: es) X.env = (false, eval e X.env) :: starEach es X.env := by rfl) (hpl : (backTo pos (starEach es X.env)).any (·.1) = false := by rfl) : EE X B (.Call (.Name x p) (e :: es) [] pos) (dCallV i S W na) := by
  obtain ⟨t, pa, ra⟩ := ha
  refine ⟨fun σ H Q => ∃ f sp, σ[i]? = some (some (V.ref f)) ∧ S f sp ∧ t σ H fun vs H1 => liftSp X.K sp vs H1 Q (WE (liftW X.K B W) σ), ⟨?_⟩, ?_⟩
  · rintro pins s σ H Q I ⟨f, sp, hs, hS, ht⟩
    obtain ⟨fd, ps, F, hk, hb⟩ := (A f sp hS).ex
    refine wpAny_Call_Name_kw (thn ((pe_var (pos := p) hN hv hdb hcd).run pins s σ H (fun v H1 => v = .ref f ∧ H1 = H) I ⟨_, hs, rfl, rfl⟩) ?_)
    rintro u s1 ⟨v, H1, I1, r1, ev, eh⟩
    subst ev eh
    obtain rfl : u = Value.ref f := r1
    refine PySem.W.callWith_K (h₀ := X.base) I1.ok.mod.kin hk (thn (pa.run pos pins s1 σ _ _ I1 ht) ?_) he hpl
    rintro us s2 ⟨vs, H2, I2, r, q⟩
    exact ⟨I2.kIn, run_fnS (E := fun σ => WE (liftW X.K B W) σ) F hr hb (passAt tk σ) I2 r q⟩
  · intro σ H δ m Q Q' gb k en q l
    unfold dCallV at q
    split at q
    · rename_i f hi
      obtain ⟨sp, hS, q⟩ := q
      obtain ⟨v, hv, h⟩ := en.2 i _ hi
      cases h
      refine ⟨f, sp, hv, hS, ra σ H δ m _ _ gb k en q fun vs H1 ds m1 g1 k1 h1 q1 => ?_⟩
      refine ⟨ds, m1, Q, _, k1, h1, q1, fun v H2 d m2 g2 k2 h2 q2 => l _ _ _ _ (g1.trans g2) k2 h2 q2, ?_⟩
      rintro cls d H2 ⟨C, ks, us, m2, rfl, g2, k2, ef, w⟩
      exact ⟨C, ks, us, δ, m2, rfl, (gb.trans g1).trans g2, k2, (en.mono g1).mono g2, ef, w⟩
    · exact q.elim

/-! ### room -/
theorem Room.u65 {k : Nat} {A : Around} (r : Room k A) : A.units + 65 < cLine := by have := r.un; omega
theorem Room.u1 {k : Nat} {A : Around} (r : Room k A) : A.units + 1 < cLine := by have := r.un; omega
theorem Room.to {j k : Nat} {A : Around} (r : Room k A) (h : j ≤ k) : Room j A := r.mono h

/-! ### what a head tells -/
structure Told (fa : List He.Fa) (fn : List He.DefD) (K : FragK) (mg : Str → Option Value) : Prop where
  ex : ∃ h : Heap, K.In h ∧ h.Ns mainGlobals mg ∧ He.SaysD fa fn K
section
variable {fa : List He.Fa} {fn : List He.DefD} {K : FragK} {mg : Str → Option Value}
theorem Told.glo (T : Told fa fn K mg) (i : Nat) {x : Str} (h : fa[i]? = some (.glo x) := by rfl) : mg x = some (.ref (He.ga K x)) := by
  obtain ⟨_, a, b, c⟩ := T.ex
  exact He.glo_ok a b (c.fact i h)
theorem Told.free (T : Told fa fn K mg) (i : Nat) {x : Str} (h : fa[i]? = some (.free x) := by rfl) : mg x = none := by
  obtain ⟨_, a, b, c⟩ := T.ex
  exact He.free_ok a b (c.fact i h)
theorem Told.int (T : Told fa fn K mg) (i : Nat) {x : Str} {z : Int} (h : fa[i]? = some (.int x z) := by rfl) : ∃ t, mg x = some (.int z t) := by
  obtain ⟨_, a, b, c⟩ := T.ex
  exact He.int_ok a b (c.fact i h)
theorem Told.str (T : Told fa fn K mg) (i : Nat) {x z : Str} (h : fa[i]? = some (.str x z) := by rfl) : ∃ t, mg x = some (.str z t) := by
  obtain ⟨_, a, b, c⟩ := T.ex
  exact He.str_ok a b (c.fact i h)
theorem Told.def_ (T : Told fa fn K mg) (i : Nat) {d : He.DefD} (h : fn[i]? = some d := by rfl) : ∃ fd, FunD K d.name d.qual d.params d.body d.scope (d.dvs K) (d.kws K) (He.fAd K d.at_) fd := by
  obtain ⟨_, _, _, c⟩ := T.ex
  exact c.def_ i h
end
/-- a def of the module, by its row -/
def defD (x : Str) (st : Stmt) : He.DefD := ⟨(x, none), x, x, defArgs st, defBody st, defScope st, [], []⟩
end DL

namespace DL
open PySem PySem.Spec PyProof.Rows L2

/-! ### own exception classes, told by the head -/
def oexB (K : FragK) (C : Addr) : Bool := match K.lookup C with
  | some ⟨.type t, _, .cls cd, sl⟩ => (match cd.mro, sl.toList with
    | .ref C' :: bm, [_, _, _, _, some (.builtin n), _] => decide (t = "type") && (C' == C && (decide (n = "ValueError.__new__") && (!cd.hasDel && (cd.hasDict && PySem.HandSPX.refsVE bm))))
    | _, _ => false)
  | _ => false
theorem oexB_ok {K : FragK} {C : Addr} (h : oexB K C = true) : ∃ nm q N bs bm sn sub ab col dd k0 k1 k2 k3 k5, K.lookup C = some (excClassObj nm q C N bs bm true sn sub ab col dd k0 k1 k2 k3 k5 "ValueError.__new__") ∧ PySem.HandSPX.refsVE bm = true := by
  unfold oexB at h
  split at h
  · rename_i t dd cd sl ho
    split at h
    · rename_i C' bm k0 k1 k2 k3 n k5 hm hs
      obtain ⟨nm, bs, mro, ns, qn, hd, sn, sub, ab, col, del⟩ := cd
      dsimp only at hm
      simp only [Bool.and_eq_true, decide_eq_true_eq, beq_iff_eq, Bool.not_eq_true'] at h
      obtain ⟨rfl, rfl, rfl, rfl, rfl, hr⟩ := h
      subst hm
      have hsl : sl = #[k0, k1, k2, k3, some (.builtin "ValueError.__new__"), k5] := by
        obtain ⟨l⟩ := sl
        exact congrArg Array.mk hs
      subst hsl
      exact ⟨nm, qn, ns, bs, bm, sn, sub, ab, col, dd, k0, k1, k2, k3, k5, ho, hr⟩
    · cases h
  · cases h
def eqV (a b : Option (Option Value)) : Bool := decide (a = b)
/-- all that the walks want of an own exception class with one field -/
def excB (K : FragK) (C : Addr) (f : Str) : Bool := oexB K C && (eqV (PySem.W.findIn K (.ref C) "__setattr__") (some (some (.builtin "object.__setattr__"))) && (decide (PySem.W.subIn K (.ref C) (.type "BaseException") = some true) && (decide (PySem.W.typeIn K (.ref C) = some (.type "type")) &&
  (PySem.W.keepIn K (.ref C) && (eqV (PySem.W.findIn K (.ref C) f) (some none) && (eqV (PySem.W.findIn K (.ref C) "__init__") (some (some (.ref (He.ma K C "__init__")))) && (decide (PySem.W.typeIn K (.ref (He.ma K C "__init__")) = some (.type "function")) &&
  (eqV (PySem.W.findIn K (.ref C) "__getattribute__") (some (some (.builtin "BaseException.__getattribute__"))) && (eqV (PySem.W.findIn K (.ref C) "__getattr__") (some none) && (PySem.W.hasDictIn K C && (eqV (PySem.W.findIn K (.ref C) "__class__") (some (some (.builtin "object.__class__"))) &&
  (eqV (PySem.W.specialIn K (.builtin "object.__class__") "__get__") (some (some (.builtin "getset_descriptor.__get__"))) && (decide (PySem.W.takesIn K (.builtin "object.__class__") = some true) && decide (PySem.W.mroIn K C (.type "object") = some true))))))))))))))
structure ExcS (K : FragK) (C : Addr) (f : Str) : Prop where
  oex : OexC K C
  no : PySem.W.findIn K (.ref C) f = some none
  ini : PySem.W.findIn K (.ref C) "__init__" = some (some (.ref (He.ma K C "__init__")))
  tin : PySem.W.typeIn K (.ref (He.ma K C "__init__")) = some (.type "function")
  xf : XfC K C
  exc : ExcC K C
theorem excB_ok {K : FragK} {C : Addr} {f : Str} (h : excB K C f = true) : ExcS K C f := by
  obtain ⟨h1, h⟩ := Bool.and_eq_true_iff.mp h
  obtain ⟨h2, h⟩ := Bool.and_eq_true_iff.mp h
  obtain ⟨h3, h⟩ := Bool.and_eq_true_iff.mp h
  obtain ⟨h4, h⟩ := Bool.and_eq_true_iff.mp h
  obtain ⟨h5, h⟩ := Bool.and_eq_true_iff.mp h
  obtain ⟨h6, h⟩ := Bool.and_eq_true_iff.mp h
  obtain ⟨h7, h⟩ := Bool.and_eq_true_iff.mp h
  obtain ⟨h8, h⟩ := Bool.and_eq_true_iff.mp h
  obtain ⟨h9, h⟩ := Bool.and_eq_true_iff.mp h
  obtain ⟨h10, h⟩ := Bool.and_eq_true_iff.mp h
  obtain ⟨h11, h⟩ := Bool.and_eq_true_iff.mp h
  obtain ⟨h12, h⟩ := Bool.and_eq_true_iff.mp h
  obtain ⟨h13, h⟩ := Bool.and_eq_true_iff.mp h
  obtain ⟨h14, h15⟩ := Bool.and_eq_true_iff.mp h
  have q : ∀ {a b : Option (Option Value)}, eqV a b = true → a = b := fun h => of_decide_eq_true h
  exact ⟨⟨oexB_ok h1, q h2, of_decide_eq_true h3, of_decide_eq_true h4, h5⟩, q h6, q h7, of_decide_eq_true h8, ⟨q h9, q h10, of_decide_eq_true h3, h11⟩, ⟨q h9, q h10, of_decide_eq_true h3, h11, q h12, q h13, of_decide_eq_true h14, of_decide_eq_true h15⟩⟩
/-- x's methods' text: the class statement's j-th statement -/
def inCls (s : Stmt) (j : Nat) : Stmt := match s with
  | .ClassDef _ _ _ b _ _ _ _ _ _ _ => b.getD j (.Pass ⟨0, 0, 0, 0⟩)
  | _ => .Pass ⟨0, 0, 0, 0⟩
def defM (C m : Str) (qual : Str) (st : Stmt) : He.DefD := ⟨(C, some m), m, qual, defArgs st, defBody st, defScope st, [], []⟩

/-! ### the hook: the library's, and a look of one's own -/
abbrev ObX : Type := He.AlD × Bool
def obsX (n : Nat) (fa : List He.Fa) (fn : List He.DefD) (ex : FragK → Bool) (g : Addr → Option Obj) : ObX := (He.obsDG n fa fn g, ex (He.frG g (He.asD g n)))
def hookX (n : Nat) (fa : List He.Fa) (fn : List He.DefD) (ex : FragK → Bool) : PySem.W.Hook where
  α := ObX
  obs := fun s => obsX n fa fn ex s.heap.get?
  val := fun _ => (He.valD fn, true)
  says := fun _ h => ∃ K : FragK, K.In h ∧ He.SaysD fa fn K ∧ ex K = true
  of := fun _ _ e => ⟨_, He.frG_in, congrArg Prod.fst e, congrArg Prod.snd e⟩
  keeps := fun _ _ _ ⟨K, hK, c⟩ k => ⟨K, PySem.W.Frag.In.keeps hK k, c⟩
theorem obsX_eq {n : Nat} {fa : List He.Fa} {fn : List He.DefD} {ex : FragK → Bool} {g : Addr → Option Obj} {s : Shared} (h : ∀ a, g a = s.heap.get? a) : obsX n fa fn ex g = (hookX n fa fn ex).obs s := by
  have e : g = s.heap.get? := funext h
  subst e
  rfl
end DL

namespace DL
open PySem PySem.Spec PyProof.Rows L2
/-! ### loops and comprehensions over data that stays -/
/-- a comprehension whose turns change nothing: h x is what the turn of x adds -/
theorem lc_pure {xs : List D} {mi : DI} {g : DG} {tt : DT} {te : DE} {vs : List Nat} {δ : DSt} {m : Mu} {Q : DQ} (h : D → Option D) (hmi : ∀ R : List D → Mu → Prop, R xs m → mi δ m R) (hl : xs.length < sizeLine)
    (hb : ∀ (p : Addr) (x : D) (R : Option D → Prop), m p = none → x ∈ xs → R (h x) → g x (wipeD δ vs) (put m p .hid) fun δ2 m2 => tt δ2 m2 fun b m3 => match b with
      | true => te δ2 m3 fun y m4 => m4 = put m p .hid ∧ R (some y)
      | false => m3 = put m p .hid ∧ R none)
    (q : Q (.lst (xs.filterMap h)) m) : dLc mi g tt te vs δ m Q := by
  refine hmi _ ⟨hl, fun p hp => ⟨fun i acc m' => m' = put m p .hid ∧ acc = (xs.take i).filterMap h, ⟨rfl, rfl⟩, ?_, ?_⟩⟩
  · rintro i x acc m' ex _ ⟨rfl, rfl⟩
    have e : xs.take (i + 1) = xs.take i ++ [x] := by
      rw [List.take_add_one, ex]
      rfl
    refine hb p x (fun o => match o with
      | some y => (xs.take i).filterMap h ++ [y] = (xs.take (i + 1)).filterMap h
      | none => (xs.take i).filterMap h = (xs.take (i + 1)).filterMap h) hp (List.mem_of_getElem? ex) ?_
    rw [e, List.filterMap_append]
    cases hx : h x with
    | none => simp [hx]
    | some y => simp [hx]
  · rintro acc m' _ ⟨rfl, rfl⟩
    rw [List.take_length, del_put hp]
    exact q
/-- the same, each turn adds one -/
theorem lc_map {xs : List D} {mi : DI} {g : DG} {te : DE} {vs : List Nat} {δ : DSt} {m : Mu} {Q : DQ} (f : D → D) (hmi : ∀ R : List D → Mu → Prop, R xs m → mi δ m R) (hl : xs.length < sizeLine)
    (hb : ∀ (p : Addr) (x : D) (R : D → Prop), m p = none → x ∈ xs → R (f x) → g x (wipeD δ vs) (put m p .hid) fun δ2 m2 => te δ2 m2 fun y m4 => m4 = put m p .hid ∧ R y)
    (q : Q (.lst (xs.map f)) m) : dLc mi g dYes te vs δ m Q := by
  refine lc_pure (tt := dYes) (fun x => some (f x)) hmi hl (fun p x R hp hx r => hb p x (fun y => R (some y)) hp hx r) ?_
  rw [List.filterMap_eq_map']
  exact q
/-! ### fmod, fdiv by what is positive -/
theorem fmod_pos {a b : Int} (h : 0 < b) : a.fmod b = a % b := Int.fmod_eq_emod_of_nonneg a (by omega)
theorem fdiv_pos {a b : Int} (h : 0 < b) : a.fdiv b = a / b := Int.fdiv_eq_ediv_of_nonneg a (by omega)
def isIntD : D → Bool
  | .int _ => true
  | _ => false
def oI : Option Int → D
  | none => .non
  | some i => .int i
theorem mulW {i j : Int} {n : Nat} (h1 : i.natAbs < 2 ^ n) (h2 : j.natAbs < 2 ^ n) (hn : n ≤ 400000) : MulOk i j := by
  refine .inr ?_
  show i.natAbs.log2 + j.natAbs.log2 < 1000000
  have a : ∀ {k : Nat}, k < 2 ^ n → k.log2 ≤ n := fun {k} h => by
    by_cases z : k = 0
    · subst z; simp
    · have := (Nat.log2_lt z).mpr h
      omega
  have := a h1
  have := a h2
  omega
theorem mulL {i j : Int} (h1 : -(2 ^ 64) < i) (h2 : i < 2 ^ 64) : MulOk i j := .inl (.inl ⟨h1, h2⟩)
theorem mulR {i j : Int} (h1 : -(2 ^ 64) < j) (h2 : j < 2 ^ 64) : MulOk i j := .inl (.inr ⟨h1, h2⟩)
theorem divN {i j : Int} (h0 : j ≠ 0) (h1 : j.natAbs < 1073741824) : DivOk i j := .inl ⟨h0, h1⟩
theorem divW {i j : Int} {n : Nat} (h0 : 0 < j) (h1 : j.natAbs < 2 ^ n) (hn : n < 9000) : DivOk i j := by
  refine .inr ⟨h0, ?_⟩
  have := (Nat.log2_lt (show j.natAbs ≠ 0 by omega)).mpr h1
  omega

theorem for_list {mi : DI} {g : DG} {b : DS} {N : DEnds} {δ : DSt} {m : Mu} {xs : List D} (hmi : ∀ R : List D → Mu → Prop, R xs m → mi δ m R) (P : Nat → DSt → Mu → Prop) (h0 : P 0 δ m)
    (hs : ∀ i x δ' m', xs[i]? = some x → P i δ' m' → g x δ' m' fun δ2 m2 => b { N with nx := P (i + 1), ct := P (i + 1), bk := N.nx } δ2 m2) (he : ∀ δ' m', P xs.length δ' m' → N.nx δ' m') : dFor mi g b N δ m := hmi _ ⟨P, h0, hs, he⟩
theorem natNe {n k : Nat} (h : ¬n = k) : (((n : Nat) : Int) == ((k : Nat) : Int)) = false := by simp; omega
@[simp] theorem wipe_nil (δ : DSt) : wipeD δ [] = δ := rfl
@[simp] theorem wipe_cons (δ : DSt) (v : Nat) (vs : List Nat) : wipeD δ (v :: vs) = (wipeD δ vs).set v none := rfl
/-! ### data compared -/
@[simp] theorem sh_int (i : Int) : SeqAt.shaped (.int i) = true := by simp [SeqAt.shaped, PyData.canLay0, PyData.depth]
@[simp] theorem sh_non : SeqAt.shaped .none = true := by simp [SeqAt.shaped, PyData.canLay0, PyData.depth]
@[simp] theorem sh_bl (i : Bool) : SeqAt.shaped (.bool i) = true := by simp [SeqAt.shaped, PyData.canLay0, PyData.depth]
@[simp] theorem sh_str (x : Str) : SeqAt.shaped (.str x) = PyData.strOk x := by simp [SeqAt.shaped, PyData.canLay0, PyData.depth]
@[simp] theorem ev_int (i j : Int) : PyData.eqv (.int i) (.int j) = (i == j) := by simp [PyData.eqv]
@[simp] theorem ev_non : PyData.eqv .none .none = true := by simp [PyData.eqv]
@[simp] theorem ev_str (i j : Str) : PyData.eqv (.str i) (.str j) = (i == j) := by simp [PyData.eqv]
@[simp] theorem ev_int_non (i : Int) : PyData.eqv (.int i) .none = false := by simp [PyData.eqv]
@[simp] theorem ev_tup_non (i : List PyData) : PyData.eqv (.tuple i) .none = false := by simp [PyData.eqv]
theorem litL {n : Nat} (h : n ≤ 1000000) : n ≤ sizeLine := litLe h
theorem litT {n : Nat} (h : n ≤ 1000000) : n < sizeLine := Nat.lt_of_le_of_lt h (by rw [sizeLine_eq]; decide)
def ptShape : D → Bool
  | .tup [.int x, .int y, .int z] => decide (1 ≤ z) && decide (Nat.gcd (Int.gcd x y) z.natAbs = 1)
  | _ => false
def isPt : D → Bool
  | .tup [.int x, .int y, .int z] => decide (1 ≤ z) && decide (Nat.gcd (Int.gcd x y) z.natAbs = 1) && decide (z ≤ 1000000) && (decide (-(10 ^ 40 * z) ≤ x) && decide (x ≤ 10 ^ 40 * z)) && (decide (-(10 ^ 40 * z) ≤ y) && decide (y ≤ 10 ^ 40 * z))
  | _ => false
/-- kinds of values that isinstance tells -/
def Plain (d : D) : Prop := (tyN d).isSome = true ∧ match d with
  | .tup xs => ∀ x ∈ xs, (tyN x).isSome = true
  | _ => True
theorem gcd3 (x y z : Int) : (((Int.gcd ((Int.gcd x y : Nat) : Int) z : Nat) : Int) == 1) = decide (Nat.gcd (Int.gcd x y) z.natAbs = 1) := by
  have e : Int.gcd ((Int.gcd x y : Nat) : Int) z = Nat.gcd (Int.gcd x y) z.natAbs := rfl
  rw [e, Bool.eq_iff_iff, beq_iff_eq, decide_eq_true_iff]
  omega
theorem gcd1 (x y : Int) : (((Int.gcd x y : Nat) : Int) == 1) = decide (Int.gcd x y = 1) := by
  rw [Bool.eq_iff_iff, beq_iff_eq, decide_eq_true_iff]
  omega
theorem gcd1n (x y : Int) : (!(((Int.gcd x y : Nat) : Int) == 1)) = decide (Int.gcd x y ≠ 1) := by
  rw [gcd1]
  simp
def inRg (lo hi : Int) : D → Bool
  | .int i => decide (lo ≤ i) && decide (i ≤ hi)
  | _ => false
/-- one statement at a time: what follows is not looked at -/
theorem seqI {n u : DS} {N : DEnds} {δ : DSt} {m : Mu} (h : ∀ U : DSt → Mu → Prop, (∀ δ' m', u N δ' m' → U δ' m') → n { N with nx := U } δ m) : dSeq n u N δ m := h (u N) fun _ _ z => z
/-- a for over what is told on the way -/
def LoopAt (g : DG) (b : DS) (N : DEnds) (δ : DSt) (xs : List D) (m1 : Mu) : Prop := ∃ P : Nat → DSt → Mu → Prop, P 0 δ m1 ∧ (∀ i x δ' m', xs[i]? = some x → P i δ' m' → g x δ' m' fun δ2 m2 => b { N with nx := P (i + 1), ct := P (i + 1), bk := N.nx } δ2 m2) ∧
  ∀ δ' m', P xs.length δ' m' → N.nx δ' m'
theorem for_at {mi : DI} {g : DG} {b : DS} {N : DEnds} {δ : DSt} {m : Mu} (h : mi δ m fun xs m1 => LoopAt g b N δ xs m1) : dFor mi g b N δ m := h
theorem loop_of {g : DG} {b : DS} {N : DEnds} {δ : DSt} {m : Mu} {xs : List D} (P : Nat → DSt → Mu → Prop) (h0 : P 0 δ m)
    (hs : ∀ i x δ' m', xs[i]? = some x → P i δ' m' → g x δ' m' fun δ2 m2 => b { N with nx := P (i + 1), ct := P (i + 1), bk := N.nx } δ2 m2) (he : ∀ δ' m', P xs.length δ' m' → N.nx δ' m') : LoopAt g b N δ xs m := ⟨P, h0, hs, he⟩
end DL

namespace DL
open PySem PySem.Spec PyProof.Rows L2 TL
/-! ### numbers as texts -/
def numS (i : Int) : Str := Str.ofString (toString i)
theorem tl_num_pos (n : Nat) : tl (numS n) = numL n := tl_num n
theorem tl_num_neg {n : Nat} (h : 0 < n) : tl (numS (-(n : Int))) = 45 :: numL n := by
  have e : toString (-(n : Int)) = "-" ++ toString (n : Int) := by
    rw [toString_neg (by omega), show (0 : Int) - -(n : Int) = (n : Int) by omega]
  unfold numS
  rw [e]
  show (Str.ofString ("-" ++ toString (n : Int))).cps.toList = _
  rw [signs_ofString, String.toList_append, List.map_append, ← signs_ofString (toString (n : Int))]
  show _ ++ tl (Str.ofString (toString ((n : Nat) : Int))) = _
  rw [tl_num]
  rfl
theorem num_cases (i : Int) : (∃ n : Nat, i = n ∧ tl (numS i) = numL n) ∨ ∃ n : Nat, 0 < n ∧ i = -(n : Int) ∧ tl (numS i) = 45 :: numL n := by
  by_cases h : 0 ≤ i
  · obtain ⟨n, rfl⟩ : ∃ n : Nat, i = n := ⟨i.toNat, by omega⟩
    exact .inl ⟨n, rfl, tl_num_pos _⟩
  · obtain ⟨n, rfl⟩ : ∃ n : Nat, i = -(n : Int) := ⟨(-i).toNat, by omega⟩
    exact .inr ⟨n, by omega, rfl, tl_num_neg (by omega)⟩
theorem num_signs (i : Int) : ∀ c ∈ tl (numS i), c = 45 ∨ (48 ≤ c ∧ c ≤ 57) := by
  intro c hc
  rcases num_cases i with ⟨n, _, e⟩ | ⟨n, _, _, e⟩
  · rw [e] at hc
    exact .inr (numL_digits n c hc)
  · rw [e] at hc
    rcases List.mem_cons.mp hc with h | h
    · exact .inl h
    · exact .inr (numL_digits n c h)
theorem ok_of {x : Str} (h : ∀ c ∈ tl x, c < 1114112) : PyData.strOk x = true := by
  unfold PyData.strOk
  rw [← Array.all_toList, List.all_eq_true]
  intro c hc
  exact decide_eq_true (h c hc)
theorem of_ok {x : Str} (h : PyData.strOk x = true) : ∀ c ∈ tl x, c < 1114112 := by
  unfold PyData.strOk at h
  rw [← Array.all_toList, List.all_eq_true] at h
  intro c hc
  exact of_decide_eq_true (h c hc)
theorem num_ok (i : Int) : PyData.strOk (numS i) = true := ok_of fun c hc => by
  rcases num_signs i c hc with h | h <;> omega
theorem num_len {i : Int} {k : Nat} (hk : 0 < k) (h : i.natAbs < 10 ^ k) : (numS i).length ≤ k + 1 := by
  unfold numS
  rw [PySem.ofString_length]
  exact int_text_length_le10 hk h
theorem num_inj {i j : Int} (h : numS i = numS j) : i = j := by
  have h2 := congrArg tl h
  rcases num_cases i with ⟨n, e1, e2⟩ | ⟨n, h0, e1, e2⟩ <;> rcases num_cases j with ⟨k, f1, f2⟩ | ⟨k, g0, f1, f2⟩ <;> rw [e2, f2] at h2
  · rw [e1, f1, numL_inj h2]
  · have := numL_digits n 45 (by rw [h2]; exact List.mem_cons_self)
    omega
  · have := numL_digits k 45 (by rw [← h2]; exact List.mem_cons_self)
    omega
  · injection h2 with _ h3
    rw [e1, f1, numL_inj h3]
theorem numL_head {n : Nat} (h : 0 < n) : (numL n).head? ≠ some 48 := by
  induction n using Nat.strongRecOn with
  | _ n ih =>
    by_cases h1 : n < 10
    · rw [numL_lt h1]
      simp
      omega
    · have z := ih (n / 10) (by omega) (by omega)
      rw [numL_step (by omega)]
      cases e : numL (n / 10) with
      | nil => exact absurd e (numL_ne _)
      | cons c cs =>
        rw [e] at z
        exact z
/-! ### integers in texts -/
def isDig (c : Nat) : Bool := decide (48 ≤ c) && decide (c ≤ 57)
theorem tl_cut0 (t : Str) : tl (cutS t none (some 1)) = (tl t).take 1 := by
  unfold cutS
  show ((tl t).drop 0).take (HT.sIx t.length t.length (some ((1 : Nat) : Int)) - 0) = _
  rw [HT.sIx_nat, List.drop_zero, Nat.sub_zero, len_tl]
  cases tl t with
  | nil => rfl
  | cons c cs => simp
theorem tl_cut1 (t : Str) : tl (cutS t (some 1) none) = (tl t).drop 1 := by
  unfold cutS
  show ((tl t).drop (HT.sIx t.length 0 (some ((1 : Nat) : Int)))).take (t.length - HT.sIx t.length 0 (some ((1 : Nat) : Int))) = _
  rw [HT.sIx_nat, len_tl]
  cases tl t with
  | nil => rfl
  | cons c cs => simp
def digT (t : Str) : Str := if cutS t none (some 1) = Str.ofString "-" then cutS t (some 1) none else t
theorem digT_cases (t : Str) : (cutS t none (some 1) = Str.ofString "-" ∧ ∃ cs, tl t = 45 :: cs ∧ tl (digT t) = cs) ∨ (cutS t none (some 1) ≠ Str.ofString "-" ∧ digT t = t) := by
  by_cases h : cutS t none (some 1) = Str.ofString "-"
  · refine .inl ⟨h, ?_⟩
    have e : (tl t).take 1 = [45] := by rw [← tl_cut0, h]; rfl
    unfold digT
    rw [if_pos h, tl_cut1]
    cases q : tl t with
    | nil => rw [q] at e; cases e
    | cons c cs =>
      rw [q] at e
      simp at e
      exact ⟨cs, by rw [e], rfl⟩
  · exact .inr ⟨h, if_neg h⟩
def IntC (t : Str) : Prop := 1 ≤ (tl (digT t)).length ∧ (tl (digT t)).length ≤ 1000 ∧ (tl (digT t)).all isDig = true ∧ ¬((tl (digT t)).head? = some 48 ∧ t ≠ Str.ofString "0")
instance (t : Str) : Decidable (IntC t) := inferInstanceAs (Decidable (_ ∧ _ ∧ _ ∧ _))
def intT (t : Str) : Option Int := if IntC t then intText? t else none
theorem allDig {cs : List Nat} (h : cs.all isDig = true) : NumText.AllDigits cs := fun c hc => by
  have := List.all_eq_true.mp h c hc
  unfold isDig at this
  simp at this
  exact this
theorem intC_some {t : Str} (h : IntC t) : ∃ n, intText? t = some n := by
  obtain ⟨h1, h2, h3, _⟩ := h
  have hne : ∀ {l : List Nat}, 1 ≤ l.length → l ≠ [] := fun h e => by rw [e] at h; simp at h
  rcases digT_cases t with ⟨_, cs, e1, e2⟩ | ⟨_, e⟩
  · rw [e2] at h1 h2 h3
    exact ⟨_, intText_neg e1 (allDig h3) (hne h1) (by rw [len_tl, e1, List.length_cons]; omega)⟩
  · rw [e] at h1 h2 h3
    exact ⟨_, intText_digits (allDig h3) (hne h1) (by rw [len_tl]; omega)⟩
theorem intT_num {i : Int} (h : i.natAbs < 10 ^ 900) : intT (numS i) = some i := by
  have hl := num_len (i := i) (k := 900) (by decide) h
  rw [len_tl] at hl
  have dash : tl (Str.ofString "-") = [45] := rfl
  have zero : tl (Str.ofString "0") = [48] := rfl
  have allL : ∀ n, (numL n).all isDig = true := fun n => List.all_eq_true.mpr fun c hc => by
    have := numL_digits n c hc
    unfold isDig
    simp
    exact this
  have len1 : ∀ n, 1 ≤ (numL n).length := fun n => List.length_pos_iff.mpr (numL_ne n)
  unfold intT
  rcases num_cases i with ⟨n, e1, e2⟩ | ⟨n, h0, e1, e2⟩
  · have hd : tl (digT (numS i)) = numL n := by
      rcases digT_cases (numS i) with ⟨_, cs, q1, q2⟩ | ⟨_, q⟩
      · rw [e2] at q1
        have := numL_digits n 45 (by rw [q1]; exact List.mem_cons_self)
        omega
      · rw [q, e2]
    have c : IntC (numS i) := by
      unfold IntC
      rw [hd]
      refine ⟨len1 n, by rw [e2] at hl; omega, allL n, ?_⟩
      rintro ⟨h1, h2⟩
      by_cases hn : 0 < n
      · exact numL_head hn h1
      · refine h2 (ext_tl ?_)
        rw [e2, show n = 0 by omega]
        rfl
    rw [if_pos c]
    have e3 : (numS i).cps.toList = numL n := e2
    have z := intText_digits (x := numS i) (by rw [e3]; exact numL_digits n) (by rw [e3]; exact numL_ne n) (by rw [len_tl]; omega)
    rw [e3, numL_val] at z
    rw [z, e1]
  · have hd : tl (digT (numS i)) = numL n := by
      rcases digT_cases (numS i) with ⟨_, cs, q1, q2⟩ | ⟨q, _⟩
      · rw [e2] at q1
        injection q1 with _ q1
        rw [q2, q1]
      · refine absurd (ext_tl ?_) q
        rw [tl_cut0, e2]
        rfl
    have c : IntC (numS i) := by
      unfold IntC
      rw [hd]
      refine ⟨len1 n, by rw [e2, List.length_cons] at hl; omega, allL n, ?_⟩
      rintro ⟨h1, h2⟩
      exact numL_head h0 h1
    rw [if_pos c]
    have z := intText_neg (x := numS i) e2 (numL_digits n) (numL_ne n) (by rw [len_tl]; omega)
    rw [numL_val] at z
    rw [z, e1]
/-! ### fractions in texts -/
def sl : Str := Str.ofString "/"
def sp : Str := Str.ofString " "
def fracT (n d : Int) : Str := if d / Int.gcd n d = 1 then numS (n / Int.gcd n d) else numS (n / Int.gcd n d) ++ sl ++ numS (d / Int.gcd n d)
def fracIn (t : Str) : D := match Txt.split t sl with
  | [] => .non
  | u :: lower => match intT u, lower with
    | none, _ => .non
    | some n, [] => .tup [.int n, .int 1]
    | some n, [l] => (match intT l with
      | none => .non
      | some d => if d < 2 ∨ Int.gcd n d ≠ 1 then .non else .tup [.int n, .int d])
    | some _, _ => .non
theorem num_free {i : Int} {s : Nat} (h : s ≠ 45 ∧ (s < 48 ∨ 57 < s)) : s ∉ tl (numS i) := fun hm => by
  rcases num_signs i s hm with z | z <;> omega
theorem join1 (y a : Str) : Txt.join y [a] = a := by rw [join_eq]; rfl
theorem join2 (y a b : Str) : Txt.join y [a, b] = a ++ y ++ b := by rw [join_eq]; rfl
theorem split1 {y a : Str} {s : Nat} (ey : tl y = [s]) (hs : s < 256) (h : s ∉ tl a) : Txt.split a y = [a] := by
  have e := split_join (y := y) ey (by rw [← Array.all_toList, show y.cps.toList = [s] from ey]; simp [hs]) (parts := [a]) (by simp) (by simpa using h)
  rw [join1] at e
  exact e
theorem split2 {y a b : Str} {s : Nat} (ey : tl y = [s]) (hs : s < 256) (h : s ∉ tl a) (h2 : s ∉ tl b) : Txt.split (a ++ y ++ b) y = [a, b] := by
  have e := split_join (y := y) ey (by rw [← Array.all_toList, show y.cps.toList = [s] from ey]; simp [hs]) (parts := [a, b]) (by simp) (by intro p hp; simp at hp; rcases hp with rfl | rfl <;> assumption)
  rw [join2] at e
  exact e
theorem fracT_free {n d : Int} {s : Nat} (h : s ≠ 45 ∧ s ≠ 47 ∧ (s < 48 ∨ 57 < s)) : s ∉ tl (fracT n d) := by
  unfold fracT
  split
  · exact num_free ⟨h.1, h.2.2⟩
  · rw [tl_append, tl_append]
    simp only [List.mem_append]
    rintro ((hm | hm) | hm)
    · exact num_free ⟨h.1, h.2.2⟩ hm
    · have e : tl sl = [47] := rfl
      rw [e] at hm
      exact h.2.1 (List.mem_singleton.mp hm)
    · exact num_free ⟨h.1, h.2.2⟩ hm
theorem natAbs_ediv {n : Int} {g : Nat} {k : Nat} (h : n.natAbs < k) (hg : (g : Int) ∣ n) : (n / (g : Int)).natAbs < k := by
  rw [Int.natAbs_ediv_of_dvd hg]
  exact Nat.lt_of_le_of_lt (Nat.div_le_self _ _) h
theorem fracIn_T {n d : Int} (hd : 0 < d) (h1 : n.natAbs < 10 ^ 900) (h2 : d.natAbs < 10 ^ 900) : fracIn (fracT n d) = .tup [.int (n / Int.gcd n d), .int (d / Int.gcd n d)] := by
  have dn : ((Int.gcd n d : Nat) : Int) ∣ n := Int.gcd_dvd_left ..
  have dd : ((Int.gcd n d : Nat) : Int) ∣ d := Int.gcd_dvd_right ..
  have hg : 0 < Int.gcd n d := Int.gcd_pos_of_ne_zero_right _ (by omega)
  have a1 := intT_num (natAbs_ediv h1 dn)
  have a2 := intT_num (natAbs_ediv h2 dd)
  have f1 : ∀ i : Int, 47 ∉ tl (numS i) := fun i => num_free ⟨by decide, .inl (by decide)⟩
  unfold fracT
  split
  · rename_i e
    unfold fracIn
    rw [split1 (y := sl) (s := 47) rfl (by decide) (f1 _), e]
    simp only [a1]
  · rename_i e
    unfold fracIn
    rw [split2 (y := sl) (s := 47) rfl (by decide) (f1 _) (f1 _)]
    simp only [a1, a2]
    have hpos : 0 < d / (Int.gcd n d : Int) := Int.ediv_pos_of_pos_of_dvd hd (by omega) dd
    have hco : Int.gcd (n / (Int.gcd n d : Int)) (d / (Int.gcd n d : Int)) = 1 := by
      rw [Int.gcd_ediv dn dd]
      simp
      exact Nat.div_self hg
    rw [if_neg]
    rintro (z | z)
    · omega
    · exact z hco
/-! ### points in texts -/
def lcmF (ns : List Nat) : Nat := ns.foldl (fun r n => r / Nat.gcd r n * n) 1
def pairUp : List D → D
  | [.tup [.int x, .int a], .tup [.int y, .int b]] => .tup [.int (x * ((lcmF [a.toNat, b.toNat] : Nat) / a)), .int (y * ((lcmF [a.toNat, b.toNat] : Nat) / b)), .int (lcmF [a.toNat, b.toNat] : Nat)]
  | _ => .non
def placeIn (t : Str) : D := pairUp ((Txt.split t sp).map fracIn)
def ptT (x y d : Int) : Str := fracT x d ++ sp ++ fracT y d
theorem lcmF2 (a b : Nat) : lcmF [a, b] = a / Nat.gcd a b * b := by
  simp [lcmF]
theorem lcm_of {x y d : Nat} (hd : 0 < d) (hg : Nat.gcd (Nat.gcd x y) d = 1) : lcmF [d / Nat.gcd x d, d / Nat.gcd y d] = d := by
  have h1 : 0 < Nat.gcd x d := Nat.gcd_pos_of_pos_right _ hd
  have h2 : 0 < Nat.gcd y d := Nat.gcd_pos_of_pos_right _ hd
  obtain ⟨u, hu⟩ := Nat.gcd_dvd_right x d
  obtain ⟨v, hv⟩ := Nat.gcd_dvd_right y d
  have co : Nat.gcd (Nat.gcd x d) (Nat.gcd y d) = 1 := by
    have : Nat.gcd (Nat.gcd x d) (Nat.gcd y d) ∣ Nat.gcd (Nat.gcd x y) d := Nat.dvd_gcd (Nat.dvd_gcd (Nat.dvd_trans (Nat.gcd_dvd_left ..) (Nat.gcd_dvd_left ..)) (Nat.dvd_trans (Nat.gcd_dvd_right ..) (Nat.gcd_dvd_left ..))) (Nat.dvd_trans (Nat.gcd_dvd_left ..) (Nat.gcd_dvd_right ..))
    rw [hg] at this
    exact Nat.dvd_one.mp this
  have eu : d / Nat.gcd x d = u := by rw [Nat.div_eq_of_eq_mul_right h1 hu]
  have ev : d / Nat.gcd y d = v := by rw [Nat.div_eq_of_eq_mul_right h2 hv]
  rw [eu, ev, lcmF2]
  -- g1 * u = d = g2 * v, gcd g1 g2 = 1: g2 divides u, so u = g2 * c, v = g1 * c
  have q : Nat.gcd y d ∣ u := by
    have : Nat.gcd y d ∣ Nat.gcd x d * u := by rw [← hu]; exact Nat.gcd_dvd_right ..
    exact Nat.Coprime.dvd_of_dvd_mul_left (Nat.Coprime.symm co) this
  obtain ⟨c, hc⟩ := q
  have hv2 : v = Nat.gcd x d * c := by
    have : Nat.gcd y d * v = Nat.gcd y d * (Nat.gcd x d * c) := by
      exact hv.symm.trans (hu.trans ((congrArg (Nat.gcd x d * ·) hc).trans (Nat.mul_left_comm ..)))
    exact Nat.eq_of_mul_eq_mul_left h2 this
  have c0 : 0 < c := by
    rcases Nat.eq_zero_or_pos c with z | z
    · rw [z] at hc
      rw [hc] at hu
      simp at hu
      omega
    · exact z
  have hgc : Nat.gcd u v = c := by
    rw [hc, hv2, Nat.gcd_mul_right, Nat.gcd_comm, co, Nat.one_mul]
  rw [hgc, hc, Nat.mul_div_cancel _ c0]
  exact hv.symm
theorem placeIn_T {x y d : Int} (hd : 0 < d) (hg : Nat.gcd (Int.gcd x y) d.natAbs = 1) (h1 : x.natAbs < 10 ^ 900) (h2 : y.natAbs < 10 ^ 900) (h3 : d.natAbs < 10 ^ 900) : placeIn (ptT x y d) = .tup [.int x, .int y, .int d] := by
  have free : ∀ n : Int, 32 ∉ tl (fracT n d) := fun n => fracT_free ⟨by decide, by decide, .inl (by decide)⟩
  unfold placeIn ptT
  rw [split2 (y := sp) (s := 32) rfl (by decide) (free x) (free y)]
  simp only [List.map_cons, List.map_nil, fracIn_T hd h1 h3, fracIn_T hd h2 h3, pairUp]
  obtain ⟨n, rfl⟩ : ∃ n : Nat, d = n := ⟨d.toNat, by omega⟩
  have hn : 0 < n := by omega
  have ex : Int.gcd x (n : Int) = Nat.gcd x.natAbs n := rfl
  have ey : Int.gcd y (n : Int) = Nat.gcd y.natAbs n := rfl
  have t1 : ∀ g : Nat, ((n : Int) / (g : Int)).toNat = n / g := fun g => by rw [← Int.natCast_ediv, Int.toNat_natCast]
  rw [ex, ey, t1, t1, lcm_of hn hg]
  have g1 : 0 < Nat.gcd x.natAbs n := Nat.gcd_pos_of_pos_right _ hn
  have g2 : 0 < Nat.gcd y.natAbs n := Nat.gcd_pos_of_pos_right _ hn
  have back : ∀ (z : Int), 0 < Nat.gcd z.natAbs n → z / (Nat.gcd z.natAbs n : Int) * ((n : Int) / ((n : Int) / (Nat.gcd z.natAbs n : Int))) = z := fun z hz => by
    have d1 : (Nat.gcd z.natAbs n : Int) ∣ z := Int.gcd_dvd_left (a := z) (b := n)
    have d2 : (Nat.gcd z.natAbs n : Int) ∣ (n : Int) := Int.gcd_dvd_right (a := z) (b := n)
    obtain ⟨q, hq⟩ := d2
    have e1 : (n : Int) / (Nat.gcd z.natAbs n : Int) = q := by rw [hq, Int.mul_ediv_cancel_left _ (by omega)]
    have q0 : q ≠ 0 := fun e => by rw [e] at hq; omega
    rw [e1, hq, Int.mul_ediv_cancel _ q0]
    exact Int.ediv_mul_cancel d1
  rw [back x g1, back y g2]
end DL
namespace DL
open PySem PySem.Spec PyProof.Rows L2 TL
/-! ### lists of data compared -/
@[simp] theorem toPs_strs : ∀ ys : List Str, toPs (ys.map D.str) = some (ys.map PyData.str)
  | [] => by simp [toPs]
  | y :: ys => by simp [toPs, toP, toPs_strs ys]
theorem canAll {ps : List PyData} (h : ∀ p ∈ ps, p.canLay0 = true) : PyData.canLayAll0 ps = true := by
  induction ps with
  | nil => simp [PyData.canLayAll0]
  | cons p ps ih => simp [PyData.canLayAll0, h p List.mem_cons_self, ih fun q hq => h q (List.mem_cons_of_mem _ hq)]
theorem depAll {ps : List PyData} {k : Nat} (h : ∀ p ∈ ps, p.depth ≤ k) : PyData.depthAll ps ≤ k := by
  induction ps with
  | nil => simp [PyData.depthAll]
  | cons p ps ih =>
    simp [PyData.depthAll]
    exact Nat.max_le.mpr ⟨h p List.mem_cons_self, ih fun q hq => h q (List.mem_cons_of_mem _ hq)⟩
theorem sh_list {ps : List PyData} (k : Nat) (hk : k ≤ 60) (h : ∀ p ∈ ps, p.canLay0 = true ∧ p.depth ≤ k) : SeqAt.shaped (.list ps) = true := by
  have a := canAll fun p hp => (h p hp).1
  have b := depAll fun p hp => (h p hp).2
  simp [SeqAt.shaped, PyData.canLay0, PyData.depth, a]
  omega
theorem sh_tuple {ps : List PyData} (k : Nat) (hk : k ≤ 60) (h : ∀ p ∈ ps, p.canLay0 = true ∧ p.depth ≤ k) : SeqAt.shaped (.tuple ps) = true := by
  have a := canAll fun p hp => (h p hp).1
  have b := depAll fun p hp => (h p hp).2
  simp [SeqAt.shaped, PyData.canLay0, PyData.depth, a]
  omega
theorem sh_strs {ys : List Str} (h : ∀ y ∈ ys, PyData.strOk y = true) : SeqAt.shaped (.list (ys.map PyData.str)) = true := sh_list 0 (by decide) fun p hp => by
  obtain ⟨y, hy, rfl⟩ := List.mem_map.mp hp
  exact ⟨by simp [PyData.canLay0, h y hy], by simp [PyData.depth]⟩
@[simp] theorem sh_nil : SeqAt.shaped (.list []) = true := sh_list 0 (by decide) fun p hp => by cases hp
@[simp] theorem ev_lnil (xs : List PyData) : PyData.eqv (.list xs) (.list []) = xs.isEmpty := by
  cases xs <;> simp [PyData.eqv, PyData.eqvAll]
/-! ### a text's parts -/
theorem mem_joinL {S : List Nat} {c : Nat} : ∀ {ps : List (List Nat)} {p : List Nat}, p ∈ ps → c ∈ p → c ∈ joinL S ps
  | [], _, h, _ => by cases h
  | [q], p, h, hc => by
    rw [List.mem_singleton.mp h] at hc
    exact hc
  | q :: r :: ps, p, h, hc => by
    show c ∈ q ++ (S ++ joinL S (r :: ps))
    rcases List.mem_cons.mp h with rfl | h
    · exact List.mem_append_left _ hc
    · exact List.mem_append_right _ (List.mem_append_right _ (mem_joinL h hc))
theorem part_ok {x y p : Str} (h : p ∈ Txt.split x y) (hx : PyData.strOk x = true) : PyData.strOk p = true := ok_of fun c hc => of_ok hx c (by
  have e := congrArg tl (PySem.StrLaws.join_split x y)
  rw [tl_join] at e
  rw [← e]
  exact mem_joinL (List.mem_map_of_mem h) hc)
/-! ### sizes of numbers read -/
theorem val_lt : ∀ (cs : List Nat) (a : Nat), NumText.AllDigits cs → cs.foldl (fun acc c => acc * 10 + (c - 48)) a < (a + 1) * 10 ^ cs.length
  | [], a, _ => by simp
  | c :: cs, a, h => by
    have h1 := h c List.mem_cons_self
    have h2 := val_lt cs (a * 10 + (c - 48)) fun d hd => h d (List.mem_cons_of_mem _ hd)
    rw [List.foldl_cons, List.length_cons, Nat.pow_succ]
    refine Nat.lt_of_lt_of_le h2 ?_
    have : (a * 10 + (c - 48) + 1) ≤ (a + 1) * 10 := by omega
    calc (a * 10 + (c - 48) + 1) * 10 ^ cs.length ≤ (a + 1) * 10 * 10 ^ cs.length := Nat.mul_le_mul_right _ this
      _ = (a + 1) * (10 ^ cs.length * 10) := by rw [Nat.mul_assoc, Nat.mul_comm 10]
theorem intT_lt {t : Str} {n : Int} {k : Nat} (hk : t.length ≤ k) (h : intT t = some n) : n.natAbs < 10 ^ k := by
  unfold intT at h
  split at h
  · rename_i hC
    obtain ⟨h1, h2, h3, _⟩ := hC
    have hne : ∀ {l : List Nat}, 1 ≤ l.length → l ≠ [] := fun h e => by rw [e] at h; simp at h
    have vb : ∀ {cs : List Nat}, NumText.AllDigits cs → cs.length ≤ k → NumText.digitsVal cs < 10 ^ k := fun {cs} hd hl => by
      have := val_lt cs 0 hd
      unfold NumText.digitsVal
      exact Nat.lt_of_lt_of_le (by simpa using this) (Nat.pow_le_pow_right (by decide) hl)
    rcases digT_cases t with ⟨_, cs, e1, e2⟩ | ⟨_, e⟩
    · rw [e2] at h1 h2 h3
      rw [intText_neg e1 (allDig h3) (hne h1) (by rw [len_tl, e1, List.length_cons]; omega)] at h
      cases h
      have := vb (allDig h3) (by rw [len_tl, e1, List.length_cons] at hk; omega)
      omega
    · rw [e] at h1 h2 h3
      rw [intText_digits (allDig h3) (hne h1) (by rw [len_tl]; omega)] at h
      cases h
      exact vb (allDig h3) (by rw [len_tl] at hk; exact hk)
  · cases h
theorem fracIn_cases {t : Str} (ht : t.length ≤ 640) : fracIn t = .non ∨ ∃ a b : Int, fracIn t = .tup [.int a, .int b] ∧ 0 < b ∧ a.natAbs < 10 ^ 640 ∧ b.natAbs < 10 ^ 640 := by
  have short : ∀ p ∈ Txt.split t sl, p.length ≤ 640 := fun p hp => Nat.le_trans (part_short hp) ht
  unfold fracIn
  split
  · exact .inl rfl
  · rename_i u lower e
    split
    · exact .inl rfl
    · rename_i n e1
      exact .inr ⟨n, 1, rfl, by decide, intT_lt (short u (by rw [e]; exact List.mem_cons_self)) e1, by decide +kernel⟩
    · rename_i n l e1
      split
      · exact .inl rfl
      · rename_i d e2
        split
        · exact .inl rfl
        · rename_i hc
          exact .inr ⟨n, d, rfl, by omega, intT_lt (short u (by rw [e]; exact List.mem_cons_self)) e1, intT_lt (short l (by rw [e]; exact List.mem_cons_of_mem _ List.mem_cons_self)) e2⟩
    · exact .inl rfl
end DL

namespace LW
open PySem PySem.Spec PyProof.Rows L2 DL
abbrev topS (i : Nat) : Stmt := PySem.Challenge.pw_outleap_k87_points_and_maps_as_texts.main.body.getD i (.Pass ⟨0, 0, 0, 0⟩)
abbrev s_is_int : Stmt := topS 5
abbrev s_is_int_in : Stmt := topS 6
abbrev s_gcd : Stmt := topS 7
abbrev s_lcm : Stmt := topS 8
abbrev s_reduced : Stmt := topS 9
abbrev s_cross : Stmt := topS 10
abbrev s_is_point_shape : Stmt := topS 14
abbrev s_is_point : Stmt := topS 15
abbrev s_determinant : Stmt := topS 17
abbrev s_is_map : Stmt := topS 18
abbrev s_format_fraction : Stmt := topS 22
abbrev s_format_point : Stmt := topS 23
abbrev s_format_map : Stmt := topS 24
abbrev s_integer_in : Stmt := topS 25
abbrev s_fraction_in : Stmt := topS 26
abbrev s_place_in : Stmt := topS 27
abbrev s_integers_in : Stmt := topS 28
abbrev s_point_in : Stmt := topS 29
abbrev s_map_in : Stmt := topS 30
abbrev s_parsed : Stmt := topS 31
abbrev s_parse_point : Stmt := topS 32
abbrev s_parse_map : Stmt := topS 33
abbrev s_law_pen : Stmt := topS 35
abbrev s_law_draw : Stmt := topS 36
abbrev s_law_pick : Stmt := topS 37
abbrev s_law_great : Stmt := topS 38
abbrev s_law_gcd : Stmt := topS 39
abbrev s_law_point_form : Stmt := topS 40
abbrev s_law_map_corner : Stmt := topS 41
abbrev s_law_table : Stmt := topS 42
abbrev s_law_has_form : Stmt := topS 43
abbrev s_law_is_point : Stmt := topS 44
abbrev s_law_fraction : Stmt := topS 45
abbrev s_law_fraction_text : Stmt := topS 46
abbrev s_law_point_text : Stmt := topS 47
abbrev s_law_any_point : Stmt := topS 48
abbrev s_law_parsed : Stmt := topS 49
abbrev s_law : Stmt := topS 50
abbrev si_ParseError : Stmt := inCls (topS 2) 0
def fn : List He.DefD := [defD "is_int" s_is_int, defD "is_int_in" s_is_int_in, defD "gcd" s_gcd, defD "lcm" s_lcm, defD "reduced" s_reduced, defD "cross" s_cross, defD "is_point_shape" s_is_point_shape, defD "is_point" s_is_point, defD "determinant" s_determinant, defD "is_map" s_is_map, defD "format_fraction" s_format_fraction, defD "format_point" s_format_point, defD "format_map" s_format_map, defD "integer_in" s_integer_in, defD "fraction_in" s_fraction_in, defD "place_in" s_place_in, defD "integers_in" s_integers_in, defD "point_in" s_point_in, defD "map_in" s_map_in, defD "parsed" s_parsed, defD "parse_point" s_parse_point, defD "parse_map" s_parse_map, defD "_law_pen" s_law_pen, defD "_law_draw" s_law_draw, defD "_law_pick" s_law_pick, defD "_law_great" s_law_great, defD "_law_gcd" s_law_gcd, defD "_law_point_form" s_law_point_form, defD "_law_map_corner" s_law_map_corner, defD "_law_table" s_law_table, defD "_law_has_form" s_law_has_form, defD "_law_is_point" s_law_is_point, defD "_law_fraction" s_law_fraction, defD "_law_fraction_text" s_law_fraction_text, defD "_law_point_text" s_law_point_text, defD "_law_any_point" s_law_any_point, defD "_law_parsed" s_law_parsed, defD "law" s_law, defM "ParseError" "__init__" "ParseError.__init__" si_ParseError]
def fa : List He.Fa := [.free "int", .free "isinstance", .free "bool", .free "abs", .free "tuple", .free "len", .free "all", .int "MAX_DENOMINATOR" (1000000), .int "MAX_DISTANCE" (10000000000000000000000000000000000000000), .free "str", .int "MAX_DIGITS" (1000), .str "DIGITS" "0123456789", .glo "point_in", .glo "map_in", .free "list", .free "range", .free "max", .glo "ParseError", .glo "InvalidPoint", .glo "CommandError", .free "ValueError", .free "min", .free "repr", .glo "is_int", .glo "is_int_in", .glo "gcd", .glo "lcm", .glo "reduced", .glo "cross", .glo "is_point_shape", .glo "is_point", .glo "determinant", .glo "is_map", .glo "format_fraction", .glo "format_point", .glo "format_map", .glo "integer_in", .glo "fraction_in", .glo "place_in", .glo "integers_in", .glo "parsed", .glo "parse_point", .glo "parse_map", .glo "_law_pen", .glo "_law_draw", .glo "_law_pick", .glo "_law_great", .glo "_law_gcd", .glo "_law_point_form", .glo "_law_map_corner", .glo "_law_table", .glo "_law_has_form", .glo "_law_is_point", .glo "_law_fraction", .glo "_law_fraction_text", .glo "_law_point_text", .glo "_law_any_point", .glo "_law_parsed", .glo "law"]
def hold_parser (K : FragK) (sp_point_in sp_map_in : SpD) : Addr → SpD → Prop := fun f sp => (f = He.ga K "point_in" ∧ sp = sp_point_in) ∨ (f = He.ga K "map_in" ∧ sp = sp_map_in)
/-! ### is_int -/
abbrev N_is_int : List Str := ["value"]
theorem sc_is_int : FnScope N_is_int ["value"] (defScope s_is_int) := ⟨rfl, rfl, rfl, by decide +kernel, rfl, by decide +kernel, by decide +kernel⟩
def n_is_int (K : FragK) (W : DW) : DS := (dRet (dAndV (dCall gIsi (dCons (dVar 0) (dCons (dC (.ty "int")) dNil))) (dNotV (dCall gIsi (dCons (dVar 0) (dCons (dC (.ty "bool")) dNil))))))
theorem mk_is_int {P : Program} {w : World} {K : FragK} {mg : Str → Option Value} {base : Heap} (T : Told fa fn K mg) {sp : SpD} (len : ∀ ds m Q E, sp ds m Q E → ds.length = 1) (hp : ∀ ds m Q E, sp ds m Q E → n_is_int K (fun C ks vs _ m' => E C ks vs m') { nx := fun _ m' => Q .non m', rt := Q } (startD N_is_int ds) m) :
    FnD P w K mg base 2 "is_int" ["value"] sp := by
  obtain ⟨fd, F⟩ := T.def_ 0 (d := defD "is_int" s_is_int)
  refine fnD_mk F (T.glo 23) sc_is_int (fun _ _ _ _ _ _ us hl => match us, hl with | [_], _ => rfl) len (n_is_int K) (fun cdv A outer s H E B W hr tk => ?_) hp
  exact (sb_one (ss_ret (ee_and (ee_callB cd_isi rfl (T.free 1) boot_isinstance (ea_cons (ev 0) (ea_cons (ee_ty rfl (T.free 0) boot_int) ea_nil))) (ee_one (ee_not (ee_callB cd_isi rfl (T.free 1) boot_isinstance (ea_cons (ev 0) (ea_cons (ee_ty rfl (T.free 2) boot_bool) ea_nil))))))))
  -- callees: 
/-! ### is_int_in -/
abbrev N_is_int_in : List Str := ["value", "low", "high"]
theorem sc_is_int_in : FnScope N_is_int_in ["value", "low", "high"] (defScope s_is_int_in) := ⟨rfl, rfl, rfl, by decide +kernel, rfl, by decide +kernel, by decide +kernel⟩
def n_is_int_in (K : FragK) (sp_is_int : SpD) (W : DW) : DS := (dRet (dAndV (dCallF sp_is_int W (dCons (dVar 0) dNil)) (dChain oLe oLe (dVar 1) (dVar 0) (dVar 2))))
theorem mk_is_int_in {P : Program} {w : World} {K : FragK} {mg : Str → Option Value} {base : Heap} {sp_is_int : SpD} (T : Told fa fn K mg) (h_is_int : FnD P w K mg base 2 "is_int" ["value"] sp_is_int) {sp : SpD} (len : ∀ ds m Q E, sp ds m Q E → ds.length = 3) (hp : ∀ ds m Q E, sp ds m Q E → n_is_int_in K sp_is_int (fun C ks vs _ m' => E C ks vs m') { nx := fun _ m' => Q .non m', rt := Q } (startD N_is_int_in ds) m) :
    FnD P w K mg base 3 "is_int_in" ["value", "low", "high"] sp := by
  obtain ⟨fd, F⟩ := T.def_ 1 (d := defD "is_int_in" s_is_int_in)
  refine fnD_mk F (T.glo 24) sc_is_int_in (fun _ _ _ _ _ _ us hl => match us, hl with | [_, _, _], _ => rfl) len (n_is_int_in K sp_is_int) (fun cdv A outer s H E B W hr tk => ?_) hp
  exact (sb_one (ss_ret (ee_and (ee_callF h_is_int hr rfl tk (ea_cons (ev 0) ea_nil)) (ee_one (ee_chain od_le od_le (ev 1) (ev 0) (ev 2))))))
  -- callees: is_int
/-! ### gcd -/
abbrev N_gcd : List Str := ["first", "second"]
theorem sc_gcd : FnScope N_gcd ["first", "second"] (defScope s_gcd) := ⟨rfl, rfl, rfl, by decide +kernel, rfl, by decide +kernel, by decide +kernel⟩
def n_gcd (K : FragK) (W : DW) : DS := (dSeq (dPar 0 1 (dCons (dCall gAbs (dCons (dVar 0) dNil)) (dCons (dCall gAbs (dCons (dVar 1) dNil)) dNil))) (dSeq (dWhile (dTest (dOp oGt (dVar 1) (dC (.int 0)))) (dPar 0 1 (dCons (dVar 1) (dCons (dOp oMod (dVar 0) (dVar 1)) dNil)))) (dRet (dVar 0))))
theorem mk_gcd {P : Program} {w : World} {K : FragK} {mg : Str → Option Value} {base : Heap} (T : Told fa fn K mg) {sp : SpD} (len : ∀ ds m Q E, sp ds m Q E → ds.length = 2) (hp : ∀ ds m Q E, sp ds m Q E → n_gcd K (fun C ks vs _ m' => E C ks vs m') { nx := fun _ m' => Q .non m', rt := Q } (startD N_gcd ds) m) :
    FnD P w K mg base 2 "gcd" ["first", "second"] sp := by
  obtain ⟨fd, F⟩ := T.def_ 2 (d := defD "gcd" s_gcd)
  refine fnD_mk F (T.glo 25) sc_gcd (fun _ _ _ _ _ _ us hl => match us, hl with | [_, _], _ => rfl) len (n_gcd K) (fun cdv A outer s H E B W hr tk => ?_) hp
  have po : PassesOwn (model (cxOf (L2.CX P w) P w K mg base N_gcd "gcd" (defScope s_gcd) (He.ga K "gcd") cdv A outer s H E).prog (cxOf (L2.CX P w) P w K mg base N_gcd "gcd" (defScope s_gcd) (He.ga K "gcd") cdv A outer s H E).w) (cxOf (L2.CX P w) P w K mg base N_gcd "gcd" (defScope s_gcd) (He.ga K "gcd") cdv A outer s H E).A (cxOf (L2.CX P w) P w K mg base N_gcd "gcd" (defScope s_gcd) (He.ga K "gcd") cdv A outer s H E).env (cxOf (L2.CX P w) P w K mg base N_gcd "gcd" (defScope s_gcd) (He.ga K "gcd") cdv A outer s H E).xe := passes_of rfl
  exact (sb_cons (ss_par 0 1 rfl sc_gcd.nd (ea_cons (ee_callB cd_abs rfl (T.free 3) boot_abs (ea_cons (ev 0) ea_nil)) (ea_cons (ee_callB cd_abs rfl (T.free 3) boot_abs (ea_cons (ev 1) ea_nil)) ea_nil))) (sb_cons (ss_while po (et_cmp od_gt (ev 1) ee_int) (sb_one (ss_par 0 1 rfl sc_gcd.nd (ea_cons (ev 1) (ea_cons (ee_op od_mod (ev 0) (ev 1)) ea_nil))))) (sb_one (ss_ret (ev 0)))))
  -- callees: 
/-! ### lcm -/
abbrev N_lcm : List Str := ["numbers", "result", "number"]
theorem sc_lcm : FnScope N_lcm ["numbers"] (defScope s_lcm) := ⟨rfl, rfl, rfl, by decide +kernel, rfl, by decide +kernel, by decide +kernel⟩
def n_lcm (K : FragK) (sp_gcd : SpD) (W : DW) : DS := (dSeq (dAsg (dC (.int 1)) (hName 1)) (dSeq (dFor (iSeq (dVar 0)) (hName 2) (dAsg (dOp oMul (dOp oDiv (dVar 1) (dCallF sp_gcd W (dCons (dVar 1) (dCons (dVar 2) dNil)))) (dVar 2)) (hName 1))) (dRet (dVar 1))))
theorem mk_lcm {P : Program} {w : World} {K : FragK} {mg : Str → Option Value} {base : Heap} {sp_gcd : SpD} (T : Told fa fn K mg) (h_gcd : FnD P w K mg base 2 "gcd" ["first", "second"] sp_gcd) {sp : SpD} (len : ∀ ds m Q E, sp ds m Q E → ds.length = 1) (hp : ∀ ds m Q E, sp ds m Q E → n_lcm K sp_gcd (fun C ks vs _ m' => E C ks vs m') { nx := fun _ m' => Q .non m', rt := Q } (startD N_lcm ds) m) :
    FnD P w K mg base 3 "lcm" ["numbers"] sp := by
  obtain ⟨fd, F⟩ := T.def_ 3 (d := defD "lcm" s_lcm)
  refine fnD_mk F (T.glo 26) sc_lcm (fun _ _ _ _ _ _ us hl => match us, hl with | [_], _ => rfl) len (n_lcm K sp_gcd) (fun cdv A outer s H E B W hr tk => ?_) hp
  have po : PassesOwn (model (cxOf (L2.CX P w) P w K mg base N_lcm "lcm" (defScope s_lcm) (He.ga K "lcm") cdv A outer s H E).prog (cxOf (L2.CX P w) P w K mg base N_lcm "lcm" (defScope s_lcm) (He.ga K "lcm") cdv A outer s H E).w) (cxOf (L2.CX P w) P w K mg base N_lcm "lcm" (defScope s_lcm) (He.ga K "lcm") cdv A outer s H E).A (cxOf (L2.CX P w) P w K mg base N_lcm "lcm" (defScope s_lcm) (He.ga K "lcm") cdv A outer s H E).env (cxOf (L2.CX P w) P w K mg base N_lcm "lcm" (defScope s_lcm) (He.ga K "lcm") cdv A outer s H E).xe := passes_of rfl
  exact (sb_cons (ss_set 1 sc_lcm.nd ee_int) (sb_cons (ss_for po rfl (ii_seq (ev 0)) (eg_name 2 sc_lcm.nd) (sb_one (ss_set 1 sc_lcm.nd (ee_op od_mul (ee_op od_div (ev 1) (ee_callF h_gcd hr rfl tk (ea_cons (ev 1) (ea_cons (ev 2) ea_nil)))) (ev 2))))) (sb_one (ss_ret (ev 1)))))
  -- callees: gcd
/-! ### reduced -/
abbrev N_reduced : List Str := ["numerator", "denominator", "divisor"]
theorem sc_reduced : FnScope N_reduced ["numerator", "denominator"] (defScope s_reduced) := ⟨rfl, rfl, rfl, by decide +kernel, rfl, by decide +kernel, by decide +kernel⟩
def n_reduced (K : FragK) (sp_gcd : SpD) (W : DW) : DS := (dSeq (dAsg (dCallF sp_gcd W (dCons (dVar 0) (dCons (dVar 1) dNil))) (hName 2)) (dRet (dTup (dCons (dOp oDiv (dVar 0) (dVar 2)) (dCons (dOp oDiv (dVar 1) (dVar 2)) dNil)))))
theorem mk_reduced {P : Program} {w : World} {K : FragK} {mg : Str → Option Value} {base : Heap} {sp_gcd : SpD} (T : Told fa fn K mg) (h_gcd : FnD P w K mg base 2 "gcd" ["first", "second"] sp_gcd) {sp : SpD} (len : ∀ ds m Q E, sp ds m Q E → ds.length = 2) (hp : ∀ ds m Q E, sp ds m Q E → n_reduced K sp_gcd (fun C ks vs _ m' => E C ks vs m') { nx := fun _ m' => Q .non m', rt := Q } (startD N_reduced ds) m) :
    FnD P w K mg base 3 "reduced" ["numerator", "denominator"] sp := by
  obtain ⟨fd, F⟩ := T.def_ 4 (d := defD "reduced" s_reduced)
  refine fnD_mk F (T.glo 27) sc_reduced (fun _ _ _ _ _ _ us hl => match us, hl with | [_, _], _ => rfl) len (n_reduced K sp_gcd) (fun cdv A outer s H E B W hr tk => ?_) hp
  exact (sb_cons (ss_set 2 sc_reduced.nd (ee_callF h_gcd hr rfl tk (ea_cons (ev 0) (ea_cons (ev 1) ea_nil)))) (sb_one (ss_ret (ee_tup (ea_cons (ee_op od_div (ev 0) (ev 2)) (ea_cons (ee_op od_div (ev 1) (ev 2)) ea_nil))))))
  -- callees: gcd
/-! ### cross -/
abbrev N_cross : List Str := ["first", "second"]
theorem sc_cross : FnScope N_cross ["first", "second"] (defScope s_cross) := ⟨rfl, rfl, rfl, by decide +kernel, rfl, by decide +kernel, by decide +kernel⟩
def n_cross (K : FragK) (W : DW) : DS := (dRet (dOp oSub (dOp oMul (dOp oIx (dVar 0) (dC (.int 0))) (dOp oIx (dVar 1) (dC (.int 1)))) (dOp oMul (dOp oIx (dVar 0) (dC (.int 1))) (dOp oIx (dVar 1) (dC (.int 0))))))
theorem mk_cross {P : Program} {w : World} {K : FragK} {mg : Str → Option Value} {base : Heap} (T : Told fa fn K mg) {sp : SpD} (len : ∀ ds m Q E, sp ds m Q E → ds.length = 2) (hp : ∀ ds m Q E, sp ds m Q E → n_cross K (fun C ks vs _ m' => E C ks vs m') { nx := fun _ m' => Q .non m', rt := Q } (startD N_cross ds) m) :
    FnD P w K mg base 2 "cross" ["first", "second"] sp := by
  obtain ⟨fd, F⟩ := T.def_ 5 (d := defD "cross" s_cross)
  refine fnD_mk F (T.glo 28) sc_cross (fun _ _ _ _ _ _ us hl => match us, hl with | [_, _], _ => rfl) len (n_cross K) (fun cdv A outer s H E B W hr tk => ?_) hp
  exact (sb_one (ss_ret (ee_op od_sub (ee_op od_mul (ee_ix (ev 0) ee_int) (ee_ix (ev 1) ee_int)) (ee_op od_mul (ee_ix (ev 0) ee_int) (ee_ix (ev 1) ee_int)))))
  -- callees: 
/-! ### is_point_shape -/
abbrev N_is_point_shape : List Str := ["value", "number"]
theorem sc_is_point_shape : FnScope N_is_point_shape ["value"] (defScope s_is_point_shape) := ⟨rfl, rfl, rfl, by decide +kernel, rfl, by decide +kernel, by decide +kernel⟩
def n_is_point_shape (K : FragK) (sp_is_int sp_gcd : SpD) (W : DW) : DS := (dSeq (dIfS (dOr (dNot (dTru (dCall gIsi (dCons (dVar 0) (dCons (dC (.ty "tuple")) dNil))))) (dOr (dTest (dOp (gEq not) (dCall gLen (dCons (dVar 0) dNil)) (dC (.int 3)))) (dNot (dTru (dCall gAll (dCons (dLc (iSeq (dVar 0)) (hName 1) dYes (dCallF sp_is_int W0 (dCons (dVar 1) dNil)) [1]) dNil)))))) (dRet (dC (.bl false))) dNext) (dRet (dAndV (dOp oGe (dOp oIx (dVar 0) (dC (.int 2))) (dC (.int 1))) (dOp (gEq id) (dCallF sp_gcd W (dCons (dCallF sp_gcd W (dCons (dOp oIx (dVar 0) (dC (.int 0))) (dCons (dOp oIx (dVar 0) (dC (.int 1))) dNil))) (dCons (dOp oIx (dVar 0) (dC (.int 2))) dNil))) (dC (.int 1))))))
theorem mk_is_point_shape {P : Program} {w : World} {K : FragK} {mg : Str → Option Value} {base : Heap} {sp_is_int sp_gcd : SpD} (T : Told fa fn K mg) (h_is_int : FnD P w K mg base 2 "is_int" ["value"] sp_is_int) (h_gcd : FnD P w K mg base 2 "gcd" ["first", "second"] sp_gcd) {sp : SpD} (len : ∀ ds m Q E, sp ds m Q E → ds.length = 1) (hp : ∀ ds m Q E, sp ds m Q E → n_is_point_shape K sp_is_int sp_gcd (fun C ks vs _ m' => E C ks vs m') { nx := fun _ m' => Q .non m', rt := Q } (startD N_is_point_shape ds) m) :
    FnD P w K mg base 3 "is_point_shape" ["value"] sp := by
  obtain ⟨fd, F⟩ := T.def_ 6 (d := defD "is_point_shape" s_is_point_shape)
  refine fnD_mk F (T.glo 29) sc_is_point_shape (fun _ _ _ _ _ _ us hl => match us, hl with | [_], _ => rfl) len (n_is_point_shape K sp_is_int sp_gcd) (fun cdv A outer s H E B W hr tk => ?_) hp
  exact (sb_cons (ss_if (EW.et (ew_or (et_not (et_tru (ee_callB cd_isi rfl (T.free 1) boot_isinstance (ea_cons (ev 0) (ea_cons (ee_ty rfl (T.free 4) boot_tuple) ea_nil))))) (ew_or (et_cmp (od_ne hr.units) (ee_callB cd_len rfl (T.free 5) boot_len (ea_cons (ev 0) ea_nil)) ee_int) (ew_or1 (et_not (et_tru (ee_callB (cd_all rfl) rfl (T.free 6) boot_all (ea_cons (ee_lc (own := [("number", 1)]) rfl sc_is_point_shape.nd (ii_seq (ev 0)) (blkOk_by (N := N_is_point_shape) (sc := defScope s_is_point_shape) (by decide +kernel)) (fun _ _ _ _ _ => (egv_name 1 sc_is_point_shape.nd)) (fun _ _ _ _ _ => ei_nil) (fun _ _ _ _ _ => (ee_callF h_is_int hr rfl takesD0 (ea_cons (ev 1) ea_nil)))) ea_nil)))))))) (sb_one (ss_ret ee_bl)) sb_nil) (sb_one (ss_ret (ee_and (ee_cmp od_ge (ee_ix (ev 0) ee_int) ee_int) (ee_one (ee_cmp (od_eq hr.units) (ee_callF h_gcd hr rfl tk (ea_cons (ee_callF h_gcd hr rfl tk (ea_cons (ee_ix (ev 0) ee_int) (ea_cons (ee_ix (ev 0) ee_int) ea_nil))) (ea_cons (ee_ix (ev 0) ee_int) ea_nil))) ee_int))))))
  -- callees: is_int gcd
/-! ### is_point -/
abbrev N_is_point : List Str := ["value", "limit", "number"]
theorem sc_is_point : FnScope N_is_point ["value"] (defScope s_is_point) := ⟨rfl, rfl, rfl, by decide +kernel, rfl, by decide +kernel, by decide +kernel⟩
def n_is_point (K : FragK) (sp_is_point_shape sp_is_int_in : SpD) (W : DW) : DS := (dSeq (dIfS (dOr (dNot (dTru (dCallF sp_is_point_shape W (dCons (dVar 0) dNil)))) (dTest (dOp oGt (dOp oIx (dVar 0) (dC (.int 2))) (dC (.int (1000000)))))) (dRet (dC (.bl false))) dNext) (dSeq (dAsg (dOp oMul (dC (.int (10000000000000000000000000000000000000000))) (dOp oIx (dVar 0) (dC (.int 2)))) (hName 1)) (dRet (dCall gAll (dCons (dLc (iSeq (dSl (dVar 0) pNo (pSome (dC (.int 2))))) (hName 2) dYes (dCallF sp_is_int_in W0 (dCons (dVar 2) (dCons (dNeg (dVar 1)) (dCons (dVar 1) dNil)))) [2]) dNil)))))
theorem mk_is_point {P : Program} {w : World} {K : FragK} {mg : Str → Option Value} {base : Heap} {sp_is_point_shape sp_is_int_in : SpD} (T : Told fa fn K mg) (h_is_point_shape : FnD P w K mg base 3 "is_point_shape" ["value"] sp_is_point_shape) (h_is_int_in : FnD P w K mg base 3 "is_int_in" ["value", "low", "high"] sp_is_int_in) {sp : SpD} (len : ∀ ds m Q E, sp ds m Q E → ds.length = 1) (hp : ∀ ds m Q E, sp ds m Q E → n_is_point K sp_is_point_shape sp_is_int_in (fun C ks vs _ m' => E C ks vs m') { nx := fun _ m' => Q .non m', rt := Q } (startD N_is_point ds) m) :
    FnD P w K mg base 4 "is_point" ["value"] sp := by
  obtain ⟨fd, F⟩ := T.def_ 7 (d := defD "is_point" s_is_point)
  refine fnD_mk F (T.glo 30) sc_is_point (fun _ _ _ _ _ _ us hl => match us, hl with | [_], _ => rfl) len (n_is_point K sp_is_point_shape sp_is_int_in) (fun cdv A outer s H E B W hr tk => ?_) hp
  exact (sb_cons (ss_if (EW.et (ew_or (et_not (et_tru (ee_callF h_is_point_shape hr rfl tk (ea_cons (ev 0) ea_nil)))) (ew_or1 (et_cmp od_gt (ee_ix (ev 0) ee_int) (ee_gint rfl (T.int 7)))))) (sb_one (ss_ret ee_bl)) sb_nil) (sb_cons (ss_set 1 sc_is_point.nd (ee_op od_mul (ee_gint rfl (T.int 8)) (ee_ix (ev 0) ee_int))) (sb_one (ss_ret (ee_callB (cd_all rfl) rfl (T.free 6) boot_all (ea_cons (ee_lc (own := [("number", 2)]) rfl sc_is_point.nd (ii_seq (ee_sl (ev 0) ep_none (ep_some ee_int))) (blkOk_by (N := N_is_point) (sc := defScope s_is_point) (by decide +kernel)) (fun _ _ _ _ _ => (egv_name 2 sc_is_point.nd)) (fun _ _ _ _ _ => ei_nil) (fun _ _ _ _ _ => (ee_callF h_is_int_in hr rfl takesD0 (ea_cons (ev 2) (ea_cons (ee_neg (ev 1)) (ea_cons (ev 1) ea_nil)))))) ea_nil))))))
  -- callees: is_point_shape is_int_in
/-! ### determinant -/
abbrev N_determinant : List Str := ["mapping"]
theorem sc_determinant : FnScope N_determinant ["mapping"] (defScope s_determinant) := ⟨rfl, rfl, rfl, by decide +kernel, rfl, by decide +kernel, by decide +kernel⟩
def n_determinant (K : FragK) (sp_cross : SpD) (W : DW) : DS := (dRet (dCallF sp_cross W (dCons (dSl (dVar 0) pNo (pSome (dC (.int 2)))) (dCons (dSl (dVar 0) (pSome (dC (.int 2))) (pSome (dC (.int 4)))) dNil))))
theorem mk_determinant {P : Program} {w : World} {K : FragK} {mg : Str → Option Value} {base : Heap} {sp_cross : SpD} (T : Told fa fn K mg) (h_cross : FnD P w K mg base 2 "cross" ["first", "second"] sp_cross) {sp : SpD} (len : ∀ ds m Q E, sp ds m Q E → ds.length = 1) (hp : ∀ ds m Q E, sp ds m Q E → n_determinant K sp_cross (fun C ks vs _ m' => E C ks vs m') { nx := fun _ m' => Q .non m', rt := Q } (startD N_determinant ds) m) :
    FnD P w K mg base 3 "determinant" ["mapping"] sp := by
  obtain ⟨fd, F⟩ := T.def_ 8 (d := defD "determinant" s_determinant)
  refine fnD_mk F (T.glo 31) sc_determinant (fun _ _ _ _ _ _ us hl => match us, hl with | [_], _ => rfl) len (n_determinant K sp_cross) (fun cdv A outer s H E B W hr tk => ?_) hp
  exact (sb_one (ss_ret (ee_callF h_cross hr rfl tk (ea_cons (ee_sl (ev 0) ep_none (ep_some ee_int)) (ea_cons (ee_sl (ev 0) (ep_some ee_int) (ep_some ee_int)) ea_nil)))))
  -- callees: cross
/-! ### is_map -/
abbrev N_is_map : List Str := ["value", "number"]
theorem sc_is_map : FnScope N_is_map ["value"] (defScope s_is_map) := ⟨rfl, rfl, rfl, by decide +kernel, rfl, by decide +kernel, by decide +kernel⟩
def n_is_map (K : FragK) (sp_is_int sp_determinant : SpD) (W : DW) : DS := (dSeq (dIfS (dOr (dNot (dTru (dCall gIsi (dCons (dVar 0) (dCons (dC (.ty "tuple")) dNil))))) (dOr (dTest (dOp (gEq not) (dCall gLen (dCons (dVar 0) dNil)) (dC (.int 6)))) (dNot (dTru (dCall gAll (dCons (dLc (iSeq (dVar 0)) (hName 1) dYes (dCallF sp_is_int W0 (dCons (dVar 1) dNil)) [1]) dNil)))))) (dRet (dC (.bl false))) dNext) (dRet (dOp (oIn id) (dCallF sp_determinant W (dCons (dVar 0) dNil)) (dTup (dCons (dC (.int 1)) (dCons (dNeg (dC (.int 1))) dNil))))))
theorem mk_is_map {P : Program} {w : World} {K : FragK} {mg : Str → Option Value} {base : Heap} {sp_is_int sp_determinant : SpD} (T : Told fa fn K mg) (h_is_int : FnD P w K mg base 3 "is_int" ["value"] sp_is_int) (h_determinant : FnD P w K mg base 3 "determinant" ["mapping"] sp_determinant) {sp : SpD} (len : ∀ ds m Q E, sp ds m Q E → ds.length = 1) (hp : ∀ ds m Q E, sp ds m Q E → n_is_map K sp_is_int sp_determinant (fun C ks vs _ m' => E C ks vs m') { nx := fun _ m' => Q .non m', rt := Q } (startD N_is_map ds) m) :
    FnD P w K mg base 4 "is_map" ["value"] sp := by
  obtain ⟨fd, F⟩ := T.def_ 9 (d := defD "is_map" s_is_map)
  refine fnD_mk F (T.glo 32) sc_is_map (fun _ _ _ _ _ _ us hl => match us, hl with | [_], _ => rfl) len (n_is_map K sp_is_int sp_determinant) (fun cdv A outer s H E B W hr tk => ?_) hp
  exact (sb_cons (ss_if (EW.et (ew_or (et_not (et_tru (ee_callB cd_isi rfl (T.free 1) boot_isinstance (ea_cons (ev 0) (ea_cons (ee_ty rfl (T.free 4) boot_tuple) ea_nil))))) (ew_or (et_cmp (od_ne hr.units) (ee_callB cd_len rfl (T.free 5) boot_len (ea_cons (ev 0) ea_nil)) ee_int) (ew_or1 (et_not (et_tru (ee_callB (cd_all rfl) rfl (T.free 6) boot_all (ea_cons (ee_lc (own := [("number", 1)]) rfl sc_is_map.nd (ii_seq (ev 0)) (blkOk_by (N := N_is_map) (sc := defScope s_is_map) (by decide +kernel)) (fun _ _ _ _ _ => (egv_name 1 sc_is_map.nd)) (fun _ _ _ _ _ => ei_nil) (fun _ _ _ _ _ => (ee_callF h_is_int hr rfl takesD0 (ea_cons (ev 1) ea_nil)))) ea_nil)))))))) (sb_one (ss_ret ee_bl)) sb_nil) (sb_one (ss_ret (ee_cmp (od_in (Room.u65 hr)) (ee_callF h_determinant hr rfl tk (ea_cons (ev 0) ea_nil)) (ee_tup (ea_cons ee_int (ea_cons (ee_neg ee_int) ea_nil)))))))
  -- callees: is_int determinant
/-! ### format_fraction -/
abbrev N_format_fraction : List Str := ["numerator", "denominator"]
theorem sc_format_fraction : FnScope N_format_fraction ["numerator", "denominator"] (defScope s_format_fraction) := ⟨rfl, rfl, rfl, by decide +kernel, rfl, by decide +kernel, by decide +kernel⟩
def n_format_fraction (K : FragK) (sp_reduced : SpD) (W : DW) : DS := (dSeq (dAsg (dCallF sp_reduced W (dCons (dVar 0) (dCons (dVar 1) dNil))) (hSeq 2 (hCons (hName 0) (hCons (hName 1) hNil)))) (dRet (dIf (dTest (dOp (gEq id) (dVar 1) (dC (.int 1)))) (dCall gStr (dCons (dVar 0) dNil)) (dJoin [(dFmt (dVar 0)), (dC (.str "/")), (dFmt (dVar 1))]))))
theorem mk_format_fraction {P : Program} {w : World} {K : FragK} {mg : Str → Option Value} {base : Heap} {sp_reduced : SpD} (T : Told fa fn K mg) (h_reduced : FnD P w K mg base 3 "reduced" ["numerator", "denominator"] sp_reduced) {sp : SpD} (len : ∀ ds m Q E, sp ds m Q E → ds.length = 2) (hp : ∀ ds m Q E, sp ds m Q E → n_format_fraction K sp_reduced (fun C ks vs _ m' => E C ks vs m') { nx := fun _ m' => Q .non m', rt := Q } (startD N_format_fraction ds) m) :
    FnD P w K mg base 4 "format_fraction" ["numerator", "denominator"] sp := by
  obtain ⟨fd, F⟩ := T.def_ 10 (d := defD "format_fraction" s_format_fraction)
  refine fnD_mk F (T.glo 33) sc_format_fraction (fun _ _ _ _ _ _ us hl => match us, hl with | [_, _], _ => rfl) len (n_format_fraction K sp_reduced) (fun cdv A outer s H E B W hr tk => ?_) hp
  exact (sb_cons (ss_asg (ee_callF h_reduced hr rfl tk (ea_cons (ev 0) (ea_cons (ev 1) ea_nil))) (eg_seq rfl (egs_cons (eg_name 0 sc_format_fraction.nd) (egs_cons (eg_name 1 sc_format_fraction.nd) egs_nil)))) (sb_one (ss_ret (ee_if (et_cmp (od_eq hr.units) (ev 1) ee_int) (ee_callT cd_str rfl (T.free 9) boot_str (ea_cons (ev 0) ea_nil)) (ee_joined (ej_cons (ee_fmt (ev 0)) (ej_cons ee_str (ej_cons (ee_fmt (ev 1)) ej_nil))))))))
  -- callees: reduced
/-! ### format_point -/
abbrev N_format_point : List Str := ["point", "x", "y", "denominator"]
theorem sc_format_point : FnScope N_format_point ["point"] (defScope s_format_point) := ⟨rfl, rfl, rfl, by decide +kernel, rfl, by decide +kernel, by decide +kernel⟩
def n_format_point (K : FragK) (sp_format_fraction : SpD) (W : DW) : DS := (dSeq (dAsg (dVar 0) (hSeq 3 (hCons (hName 1) (hCons (hName 2) (hCons (hName 3) hNil))))) (dRet (dOp oAdd (dOp oAdd (dCallF sp_format_fraction W (dCons (dVar 1) (dCons (dVar 3) dNil))) (dC (.str " "))) (dCallF sp_format_fraction W (dCons (dVar 2) (dCons (dVar 3) dNil))))))
theorem mk_format_point {P : Program} {w : World} {K : FragK} {mg : Str → Option Value} {base : Heap} {sp_format_fraction : SpD} (T : Told fa fn K mg) (h_format_fraction : FnD P w K mg base 4 "format_fraction" ["numerator", "denominator"] sp_format_fraction) {sp : SpD} (len : ∀ ds m Q E, sp ds m Q E → ds.length = 1) (hp : ∀ ds m Q E, sp ds m Q E → n_format_point K sp_format_fraction (fun C ks vs _ m' => E C ks vs m') { nx := fun _ m' => Q .non m', rt := Q } (startD N_format_point ds) m) :
    FnD P w K mg base 5 "format_point" ["point"] sp := by
  obtain ⟨fd, F⟩ := T.def_ 11 (d := defD "format_point" s_format_point)
  refine fnD_mk F (T.glo 34) sc_format_point (fun _ _ _ _ _ _ us hl => match us, hl with | [_], _ => rfl) len (n_format_point K sp_format_fraction) (fun cdv A outer s H E B W hr tk => ?_) hp
  exact (sb_cons (ss_asg (ev 0) (eg_seq rfl (egs_cons (eg_name 1 sc_format_point.nd) (egs_cons (eg_name 2 sc_format_point.nd) (egs_cons (eg_name 3 sc_format_point.nd) egs_nil))))) (sb_one (ss_ret (ee_op od_add (ee_op od_add (ee_callF h_format_fraction hr rfl tk (ea_cons (ev 1) (ea_cons (ev 3) ea_nil))) ee_str) (ee_callF h_format_fraction hr rfl tk (ea_cons (ev 2) (ea_cons (ev 3) ea_nil)))))))
  -- callees: format_fraction
/-! ### format_map -/
abbrev N_format_map : List Str := ["mapping", "number"]
theorem sc_format_map : FnScope N_format_map ["mapping"] (defScope s_format_map) := ⟨rfl, rfl, rfl, by decide +kernel, rfl, by decide +kernel, by decide +kernel⟩
def n_format_map (K : FragK) (W : DW) : DS := (dRet (dStrM gJoin (dC (.str " ")) (dLc (iSeq (dVar 0)) (hName 1) dYes (dCall gStr (dCons (dVar 1) dNil)) [1])))
theorem mk_format_map {P : Program} {w : World} {K : FragK} {mg : Str → Option Value} {base : Heap} (T : Told fa fn K mg) {sp : SpD} (len : ∀ ds m Q E, sp ds m Q E → ds.length = 1) (hp : ∀ ds m Q E, sp ds m Q E → n_format_map K (fun C ks vs _ m' => E C ks vs m') { nx := fun _ m' => Q .non m', rt := Q } (startD N_format_map ds) m) :
    FnD P w K mg base 2 "format_map" ["mapping"] sp := by
  obtain ⟨fd, F⟩ := T.def_ 12 (d := defD "format_map" s_format_map)
  refine fnD_mk F (T.glo 35) sc_format_map (fun _ _ _ _ _ _ us hl => match us, hl with | [_], _ => rfl) len (n_format_map K) (fun cdv A outer s H E B W hr tk => ?_) hp
  exact (sb_one (ss_ret (ee_join ee_str (ee_lc (own := [("number", 1)]) rfl sc_format_map.nd (ii_seq (ev 0)) (blkOk_by (N := N_format_map) (sc := defScope s_format_map) (by decide +kernel)) (fun _ _ _ _ _ => (egv_name 1 sc_format_map.nd)) (fun _ _ _ _ _ => ei_nil) (fun _ _ _ _ _ => (ee_callT cd_str rfl (T.free 9) boot_str (ea_cons (ev 1) ea_nil)))))))
  -- callees: 
/-! ### integer_in -/
abbrev N_integer_in : List Str := ["text", "digits", "sign"]
theorem sc_integer_in : FnScope N_integer_in ["text"] (defScope s_integer_in) := ⟨rfl, rfl, rfl, by decide +kernel, rfl, by decide +kernel, by decide +kernel⟩
def n_integer_in (K : FragK) (W : DW) : DS := (dSeq (dAsg (dIf (dTest (dOp (gEq id) (dSl (dVar 0) pNo (pSome (dC (.int 1)))) (dC (.str "-")))) (dSl (dVar 0) (pSome (dC (.int 1))) pNo) (dVar 0)) (hName 1)) (dSeq (dIfS (dOr (dNot (dTest (dChain oLe oLe (dC (.int 1)) (dCall gLen (dCons (dVar 1) dNil)) (dC (.int (1000)))))) (dNot (dTru (dCall gAll (dCons (dLc (iSeq (dVar 1)) (hName 2) dYes (dOp (oIn id) (dVar 2) (dC (.str "0123456789"))) [2]) dNil))))) (dRet (dC .non)) dNext) (dSeq (dIfS (dAnd (dTest (dOp (gEq id) (dOp oIx (dVar 1) (dC (.int 0))) (dC (.str "0")))) (dTest (dOp (gEq not) (dVar 0) (dC (.str "0"))))) (dRet (dC .non)) dNext) (dRet (dCall gInt (dCons (dVar 0) dNil))))))
theorem mk_integer_in {P : Program} {w : World} {K : FragK} {mg : Str → Option Value} {base : Heap} (T : Told fa fn K mg) {sp : SpD} (len : ∀ ds m Q E, sp ds m Q E → ds.length = 1) (hp : ∀ ds m Q E, sp ds m Q E → n_integer_in K (fun C ks vs _ m' => E C ks vs m') { nx := fun _ m' => Q .non m', rt := Q } (startD N_integer_in ds) m) :
    FnD P w K mg base 2 "integer_in" ["text"] sp := by
  obtain ⟨fd, F⟩ := T.def_ 13 (d := defD "integer_in" s_integer_in)
  refine fnD_mk F (T.glo 36) sc_integer_in (fun _ _ _ _ _ _ us hl => match us, hl with | [_], _ => rfl) len (n_integer_in K) (fun cdv A outer s H E B W hr tk => ?_) hp
  exact (sb_cons (ss_set 1 sc_integer_in.nd (ee_if (et_cmp (od_eq hr.units) (ee_sl (ev 0) ep_none (ep_some ee_int)) ee_str) (ee_sl (ev 0) (ep_some ee_int) ep_none) (ev 0))) (sb_cons (ss_if (EW.et (ew_or (et_not (et_chain od_le od_le ee_int (ee_callB cd_len rfl (T.free 5) boot_len (ea_cons (ev 1) ea_nil)) (ee_gint rfl (T.int 10)))) (ew_or1 (et_not (et_tru (ee_callB (cd_all rfl) rfl (T.free 6) boot_all (ea_cons (ee_lc (own := [("sign", 2)]) rfl sc_integer_in.nd (ii_seq (ev 1)) (blkOk_by (N := N_integer_in) (sc := defScope s_integer_in) (by decide +kernel)) (fun _ _ _ _ _ => (egv_name 2 sc_integer_in.nd)) (fun _ _ _ _ _ => ei_nil) (fun _ _ _ _ _ => (ee_cmp (od_in (Room.u65 hr)) (ev 2) (ee_gstr rfl (T.str 11))))) ea_nil))))))) (sb_one (ss_ret ee_non)) sb_nil) (sb_cons (ss_if (EW.et (ew_and (et_cmp (od_eq hr.units) (ee_ix (ev 1) ee_int) ee_str) (ew_and1 (et_cmp (od_ne hr.units) (ev 0) ee_str)))) (sb_one (ss_ret ee_non)) sb_nil) (sb_one (ss_ret (ee_callT cd_int rfl (T.free 0) boot_int (ea_cons (ev 0) ea_nil)))))))
  -- callees: 
/-! ### fraction_in -/
abbrev N_fraction_in : List Str := ["text", "upper", "lower", "numerator", "denominator"]
theorem sc_fraction_in : FnScope N_fraction_in ["text"] (defScope s_fraction_in) := ⟨rfl, rfl, rfl, by decide +kernel, rfl, by decide +kernel, by decide +kernel⟩
def n_fraction_in (K : FragK) (sp_integer_in sp_gcd : SpD) (W : DW) : DS := (dSeq (dAsg (dStrM gSplit (dVar 0) (dC (.str "/"))) (hStar1 1 2)) (dSeq (dAsg (dCallF sp_integer_in W (dCons (dVar 1) dNil)) (hName 3)) (dSeq (dIfS (dOr (dTest (dOp (oIs id) (dVar 3) (dC .non))) (dTest (dOp (gEq id) (dVar 2) (dLst dNil)))) (dRet (dIf (dTest (dOp (oIs id) (dVar 3) (dC .non))) (dC .non) (dTup (dCons (dVar 3) (dCons (dC (.int 1)) dNil))))) dNext) (dSeq (dAsg (dIf (dTest (dOp (gEq id) (dCall gLen (dCons (dVar 2) dNil)) (dC (.int 1)))) (dCallF sp_integer_in W (dCons (dOp oIx (dVar 2) (dC (.int 0))) dNil)) (dC .non)) (hName 4)) (dSeq (dIfS (dOr (dTest (dOp (oIs id) (dVar 4) (dC .non))) (dOr (dTest (dOp oLt (dVar 4) (dC (.int 2)))) (dTest (dOp (gEq not) (dCallF sp_gcd W (dCons (dVar 3) (dCons (dVar 4) dNil))) (dC (.int 1)))))) (dRet (dC .non)) dNext) (dRet (dTup (dCons (dVar 3) (dCons (dVar 4) dNil)))))))))
theorem mk_fraction_in {P : Program} {w : World} {K : FragK} {mg : Str → Option Value} {base : Heap} {sp_integer_in sp_gcd : SpD} (T : Told fa fn K mg) (h_integer_in : FnD P w K mg base 2 "integer_in" ["text"] sp_integer_in) (h_gcd : FnD P w K mg base 2 "gcd" ["first", "second"] sp_gcd) {sp : SpD} (len : ∀ ds m Q E, sp ds m Q E → ds.length = 1) (hp : ∀ ds m Q E, sp ds m Q E → n_fraction_in K sp_integer_in sp_gcd (fun C ks vs _ m' => E C ks vs m') { nx := fun _ m' => Q .non m', rt := Q } (startD N_fraction_in ds) m) :
    FnD P w K mg base 3 "fraction_in" ["text"] sp := by
  obtain ⟨fd, F⟩ := T.def_ 14 (d := defD "fraction_in" s_fraction_in)
  refine fnD_mk F (T.glo 37) sc_fraction_in (fun _ _ _ _ _ _ us hl => match us, hl with | [_], _ => rfl) len (n_fraction_in K sp_integer_in sp_gcd) (fun cdv A outer s H E B W hr tk => ?_) hp
  exact (sb_cons (ss_asg (ee_split (ev 0) ee_str) (eg_star1 1 2 rfl sc_fraction_in.nd)) (sb_cons (ss_set 3 sc_fraction_in.nd (ee_callF h_integer_in hr rfl tk (ea_cons (ev 1) ea_nil))) (sb_cons (ss_if (EW.et (ew_or (et_cmp od_is (ev 3) ee_non) (ew_or1 (et_cmp (od_eq hr.units) (ev 2) (ee_lst ea_nil))))) (sb_one (ss_ret (ee_if (et_cmp od_is (ev 3) ee_non) ee_non (ee_tup (ea_cons (ev 3) (ea_cons ee_int ea_nil)))))) sb_nil) (sb_cons (ss_set 4 sc_fraction_in.nd (ee_if (et_cmp (od_eq hr.units) (ee_callB cd_len rfl (T.free 5) boot_len (ea_cons (ev 2) ea_nil)) ee_int) (ee_callF h_integer_in hr rfl tk (ea_cons (ee_ix (ev 2) ee_int) ea_nil)) ee_non)) (sb_cons (ss_if (EW.et (ew_or (et_cmp od_is (ev 4) ee_non) (ew_or (et_cmp od_lt (ev 4) ee_int) (ew_or1 (et_cmp (od_ne hr.units) (ee_callF h_gcd hr rfl tk (ea_cons (ev 3) (ea_cons (ev 4) ea_nil))) ee_int))))) (sb_one (ss_ret ee_non)) sb_nil) (sb_one (ss_ret (ee_tup (ea_cons (ev 3) (ea_cons (ev 4) ea_nil))))))))))
  -- callees: integer_in gcd
/-! ### place_in -/
abbrev N_place_in : List Str := ["text", "found", "x", "first", "y", "second", "denominator", "word"]
theorem sc_place_in : FnScope N_place_in ["text"] (defScope s_place_in) := ⟨rfl, rfl, rfl, by decide +kernel, rfl, by decide +kernel, by decide +kernel⟩
def n_place_in (K : FragK) (sp_fraction_in sp_lcm : SpD) (W : DW) : DS := (dSeq (dAsg (dLc (iSeq (dStrM gSplit (dVar 0) (dC (.str " ")))) (hName 7) dYes (dCallF sp_fraction_in W0 (dCons (dVar 7) dNil)) [7]) (hName 1)) (dSeq (dIfS (dOr (dTest (dOp (gEq not) (dCall gLen (dCons (dVar 1) dNil)) (dC (.int 2)))) (dTest (dOp (oIn id) (dC .non) (dVar 1)))) (dRet (dC .non)) dNext) (dSeq (dAsg (dVar 1) (hSeq 2 (hCons (hSeq 2 (hCons (hName 2) (hCons (hName 3) hNil))) (hCons (hSeq 2 (hCons (hName 4) (hCons (hName 5) hNil))) hNil)))) (dSeq (dAsg (dCallF sp_lcm W (dCons (dLst (dCons (dVar 3) (dCons (dVar 5) dNil))) dNil)) (hName 6)) (dRet (dTup (dCons (dOp oMul (dVar 2) (dOp oDiv (dVar 6) (dVar 3))) (dCons (dOp oMul (dVar 4) (dOp oDiv (dVar 6) (dVar 5))) (dCons (dVar 6) dNil)))))))))
theorem mk_place_in {P : Program} {w : World} {K : FragK} {mg : Str → Option Value} {base : Heap} {sp_fraction_in sp_lcm : SpD} (T : Told fa fn K mg) (h_fraction_in : FnD P w K mg base 3 "fraction_in" ["text"] sp_fraction_in) (h_lcm : FnD P w K mg base 3 "lcm" ["numbers"] sp_lcm) {sp : SpD} (len : ∀ ds m Q E, sp ds m Q E → ds.length = 1) (hp : ∀ ds m Q E, sp ds m Q E → n_place_in K sp_fraction_in sp_lcm (fun C ks vs _ m' => E C ks vs m') { nx := fun _ m' => Q .non m', rt := Q } (startD N_place_in ds) m) :
    FnD P w K mg base 4 "place_in" ["text"] sp := by
  obtain ⟨fd, F⟩ := T.def_ 15 (d := defD "place_in" s_place_in)
  refine fnD_mk F (T.glo 38) sc_place_in (fun _ _ _ _ _ _ us hl => match us, hl with | [_], _ => rfl) len (n_place_in K sp_fraction_in sp_lcm) (fun cdv A outer s H E B W hr tk => ?_) hp
  exact (sb_cons (ss_setLc 1 (own := [("word", 7)]) rfl sc_place_in.nd (ii_seq (ee_split (ev 0) ee_str)) (blkOk_by (N := N_place_in) (sc := defScope s_place_in) (by decide +kernel)) (fun _ _ _ _ _ => (egv_name 7 sc_place_in.nd)) (fun _ _ _ _ _ => ei_nil) (fun _ _ _ _ _ => (ee_callF h_fraction_in hr rfl takesD0 (ea_cons (ev 7) ea_nil)))) (sb_cons (ss_if (EW.et (ew_or (et_cmp (od_ne hr.units) (ee_callB cd_len rfl (T.free 5) boot_len (ea_cons (ev 1) ea_nil)) ee_int) (ew_or1 (et_cmp (od_in (Room.u65 hr)) ee_non (ev 1))))) (sb_one (ss_ret ee_non)) sb_nil) (sb_cons (ss_asg (ev 1) (eg_seq rfl (egs_cons (eg_seq rfl (egs_cons (eg_name 2 sc_place_in.nd) (egs_cons (eg_name 3 sc_place_in.nd) egs_nil))) (egs_cons (eg_seq rfl (egs_cons (eg_name 4 sc_place_in.nd) (egs_cons (eg_name 5 sc_place_in.nd) egs_nil))) egs_nil)))) (sb_cons (ss_set 6 sc_place_in.nd (ee_callF h_lcm hr rfl tk (ea_cons (ee_lst (ea_cons (ev 3) (ea_cons (ev 5) ea_nil))) ea_nil))) (sb_one (ss_ret (ee_tup (ea_cons (ee_op od_mul (ev 2) (ee_op od_div (ev 6) (ev 3))) (ea_cons (ee_op od_mul (ev 4) (ee_op od_div (ev 6) (ev 5))) (ea_cons (ev 6) ea_nil))))))))))
  -- callees: fraction_in lcm
/-! ### integers_in -/
abbrev N_integers_in : List Str := ["text", "count", "found", "word"]
theorem sc_integers_in : FnScope N_integers_in ["text", "count"] (defScope s_integers_in) := ⟨rfl, rfl, rfl, by decide +kernel, rfl, by decide +kernel, by decide +kernel⟩
def n_integers_in (K : FragK) (sp_integer_in : SpD) (W : DW) : DS := (dSeq (dAsg (dLc (iSeq (dStrM gSplit (dVar 0) (dC (.str " ")))) (hName 3) dYes (dCallF sp_integer_in W0 (dCons (dVar 3) dNil)) [3]) (hName 2)) (dRet (dIf (dOr (dTest (dOp (gEq not) (dCall gLen (dCons (dVar 2) dNil)) (dVar 1))) (dTest (dOp (oIn id) (dC .non) (dVar 2)))) (dC .non) (dCall gTuple (dCons (dVar 2) dNil)))))
theorem mk_integers_in {P : Program} {w : World} {K : FragK} {mg : Str → Option Value} {base : Heap} {sp_integer_in : SpD} (T : Told fa fn K mg) (h_integer_in : FnD P w K mg base 2 "integer_in" ["text"] sp_integer_in) {sp : SpD} (len : ∀ ds m Q E, sp ds m Q E → ds.length = 2) (hp : ∀ ds m Q E, sp ds m Q E → n_integers_in K sp_integer_in (fun C ks vs _ m' => E C ks vs m') { nx := fun _ m' => Q .non m', rt := Q } (startD N_integers_in ds) m) :
    FnD P w K mg base 3 "integers_in" ["text", "count"] sp := by
  obtain ⟨fd, F⟩ := T.def_ 16 (d := defD "integers_in" s_integers_in)
  refine fnD_mk F (T.glo 39) sc_integers_in (fun _ _ _ _ _ _ us hl => match us, hl with | [_, _], _ => rfl) len (n_integers_in K sp_integer_in) (fun cdv A outer s H E B W hr tk => ?_) hp
  exact (sb_cons (ss_setLc 2 (own := [("word", 3)]) rfl sc_integers_in.nd (ii_seq (ee_split (ev 0) ee_str)) (blkOk_by (N := N_integers_in) (sc := defScope s_integers_in) (by decide +kernel)) (fun _ _ _ _ _ => (egv_name 3 sc_integers_in.nd)) (fun _ _ _ _ _ => ei_nil) (fun _ _ _ _ _ => (ee_callF h_integer_in hr rfl takesD0 (ea_cons (ev 3) ea_nil)))) (sb_one (ss_ret (ee_if (EW.et (ew_or (et_cmp (od_ne hr.units) (ee_callB cd_len rfl (T.free 5) boot_len (ea_cons (ev 2) ea_nil)) (ev 1)) (ew_or1 (et_cmp (od_in (Room.u65 hr)) ee_non (ev 2))))) ee_non (ee_callT cd_tuple rfl (T.free 4) boot_tuple (ea_cons (ev 2) ea_nil))))))
  -- callees: integer_in
/-! ### point_in -/
abbrev N_point_in : List Str := ["text", "found"]
theorem sc_point_in : FnScope N_point_in ["text"] (defScope s_point_in) := ⟨rfl, rfl, rfl, by decide +kernel, rfl, by decide +kernel, by decide +kernel⟩
def n_point_in (K : FragK) (sp_place_in sp_is_point : SpD) (W : DW) : DS := (dSeq (dAsg (dCallF sp_place_in W (dCons (dVar 0) dNil)) (hName 1)) (dRet (dIf (dAnd (dTest (dOp (oIs not) (dVar 1) (dC .non))) (dTru (dCallF sp_is_point W (dCons (dVar 1) dNil)))) (dVar 1) (dC .non))))
theorem mk_point_in {P : Program} {w : World} {K : FragK} {mg : Str → Option Value} {base : Heap} {sp_place_in sp_is_point : SpD} (T : Told fa fn K mg) (h_place_in : FnD P w K mg base 4 "place_in" ["text"] sp_place_in) (h_is_point : FnD P w K mg base 4 "is_point" ["value"] sp_is_point) {sp : SpD} (len : ∀ ds m Q E, sp ds m Q E → ds.length = 1) (hp : ∀ ds m Q E, sp ds m Q E → n_point_in K sp_place_in sp_is_point (fun C ks vs _ m' => E C ks vs m') { nx := fun _ m' => Q .non m', rt := Q } (startD N_point_in ds) m) :
    FnD P w K mg base 5 "point_in" ["text"] sp := by
  obtain ⟨fd, F⟩ := T.def_ 17 (d := defD "point_in" s_point_in)
  refine fnD_mk F (T.glo 12) sc_point_in (fun _ _ _ _ _ _ us hl => match us, hl with | [_], _ => rfl) len (n_point_in K sp_place_in sp_is_point) (fun cdv A outer s H E B W hr tk => ?_) hp
  exact (sb_cons (ss_set 1 sc_point_in.nd (ee_callF h_place_in hr rfl tk (ea_cons (ev 0) ea_nil))) (sb_one (ss_ret (ee_if (EW.et (ew_and (et_cmp od_isnot (ev 1) ee_non) (ew_and1 (et_tru (ee_callF h_is_point hr rfl tk (ea_cons (ev 1) ea_nil)))))) (ev 1) ee_non))))
  -- callees: place_in is_point
/-! ### map_in -/
abbrev N_map_in : List Str := ["text", "found"]
theorem sc_map_in : FnScope N_map_in ["text"] (defScope s_map_in) := ⟨rfl, rfl, rfl, by decide +kernel, rfl, by decide +kernel, by decide +kernel⟩
def n_map_in (K : FragK) (sp_integers_in sp_is_map : SpD) (W : DW) : DS := (dSeq (dAsg (dCallF sp_integers_in W (dCons (dVar 0) (dCons (dC (.int 6)) dNil))) (hName 1)) (dRet (dIf (dAnd (dTest (dOp (oIs not) (dVar 1) (dC .non))) (dTru (dCallF sp_is_map W (dCons (dVar 1) dNil)))) (dVar 1) (dC .non))))
theorem mk_map_in {P : Program} {w : World} {K : FragK} {mg : Str → Option Value} {base : Heap} {sp_integers_in sp_is_map : SpD} (T : Told fa fn K mg) (h_integers_in : FnD P w K mg base 4 "integers_in" ["text", "count"] sp_integers_in) (h_is_map : FnD P w K mg base 4 "is_map" ["value"] sp_is_map) {sp : SpD} (len : ∀ ds m Q E, sp ds m Q E → ds.length = 1) (hp : ∀ ds m Q E, sp ds m Q E → n_map_in K sp_integers_in sp_is_map (fun C ks vs _ m' => E C ks vs m') { nx := fun _ m' => Q .non m', rt := Q } (startD N_map_in ds) m) :
    FnD P w K mg base 5 "map_in" ["text"] sp := by
  obtain ⟨fd, F⟩ := T.def_ 18 (d := defD "map_in" s_map_in)
  refine fnD_mk F (T.glo 13) sc_map_in (fun _ _ _ _ _ _ us hl => match us, hl with | [_], _ => rfl) len (n_map_in K sp_integers_in sp_is_map) (fun cdv A outer s H E B W hr tk => ?_) hp
  exact (sb_cons (ss_set 1 sc_map_in.nd (ee_callF h_integers_in hr rfl tk (ea_cons (ev 0) (ea_cons ee_int ea_nil)))) (sb_one (ss_ret (ee_if (EW.et (ew_and (et_cmp od_isnot (ev 1) ee_non) (ew_and1 (et_tru (ee_callF h_is_map hr rfl tk (ea_cons (ev 1) ea_nil)))))) (ev 1) ee_non))))
  -- callees: integers_in is_map
/-! ### parsed -/
abbrev N_parsed : List Str := ["parser", "text", "found"]
theorem sc_parsed : FnScope N_parsed ["parser", "text"] (defScope s_parsed) := ⟨rfl, rfl, rfl, by decide +kernel, rfl, by decide +kernel, by decide +kernel⟩
def n_parsed (K : FragK) (sp_point_in sp_map_in : SpD) (W : DW) : DS := (dSeq (dAsg (dIf (dTru (dCall gIsi (dCons (dVar 1) (dCons (dC (.ty "str")) dNil)))) (dCallV 0 (hold_parser K sp_point_in sp_map_in) W (dCons (dVar 1) dNil)) (dC .non)) (hName 2)) (dSeq (dIfS (dTest (dOp (oIs id) (dVar 2) (dC .non))) (dRaise (He.ga K "ParseError") "value" W (dCons (dVar 1) dNil)) dNext) (dRet (dVar 2))))
theorem mk_parsed {P : Program} {w : World} {K : FragK} {mg : Str → Option Value} {base : Heap} {sp_point_in sp_map_in : SpD} (T : Told fa fn K mg) (h_point_in : FnD P w K mg base 5 "point_in" ["text"] sp_point_in) (h_map_in : FnD P w K mg base 5 "map_in" ["text"] sp_map_in) (x_ParseError : ExcT P w K mg base "ParseError" (He.ga K "ParseError") "value") {sp : SpD} (len : ∀ ds m Q E, sp ds m Q E → ds.length = 2) (hp : ∀ ds m Q E, sp ds m Q E → n_parsed K sp_point_in sp_map_in (fun C ks vs _ m' => E C ks vs m') { nx := fun _ m' => Q .non m', rt := Q } (startD N_parsed ds) m) :
    FnD P w K mg base 6 "parsed" ["parser", "text"] sp := by
  have held_parser : ∀ f sp, hold_parser K sp_point_in sp_map_in f sp → HeldD P w K mg base 5 f sp := by
    rintro f sp (⟨rfl, rfl⟩ | ⟨rfl, rfl⟩)
    · exact h_point_in.held (T.glo 12)
    · exact h_map_in.held (T.glo 13)
  obtain ⟨fd, F⟩ := T.def_ 19 (d := defD "parsed" s_parsed)
  refine fnD_mk F (T.glo 40) sc_parsed (fun _ _ _ _ _ _ us hl => match us, hl with | [_, _], _ => rfl) len (n_parsed K sp_point_in sp_map_in) (fun cdv A outer s H E B W hr tk => ?_) hp
  exact (sb_cons (ss_set 2 sc_parsed.nd (ee_if (et_tru (ee_callB cd_isi rfl (T.free 1) boot_isinstance (ea_cons (ev 1) (ea_cons (ee_ty rfl (T.free 9) boot_str) ea_nil)))) (ee_callV 0 held_parser hr tk (ea_cons (ev 1) ea_nil)) ee_non)) (sb_cons (ss_if (et_cmp od_is (ev 2) ee_non) (sb_one (ss_raise x_ParseError (Room.to hr (by decide)) rfl rfl tk (ea_cons (ev 1) ea_nil))) sb_nil) (sb_one (ss_ret (ev 2)))))
  -- callees: point_in map_in
/-! ### parse_point -/
abbrev N_parse_point : List Str := ["text"]
theorem sc_parse_point : FnScope N_parse_point ["text"] (defScope s_parse_point) := ⟨rfl, rfl, rfl, by decide +kernel, rfl, by decide +kernel, by decide +kernel⟩
def n_parse_point (K : FragK) (sp_parsed : SpD) (W : DW) : DS := (dRet (dCallF sp_parsed W (dCons (dC (.obj (He.ga K "point_in"))) (dCons (dVar 0) dNil))))
theorem mk_parse_point {P : Program} {w : World} {K : FragK} {mg : Str → Option Value} {base : Heap} {sp_parsed : SpD} (T : Told fa fn K mg) (h_parsed : FnD P w K mg base 6 "parsed" ["parser", "text"] sp_parsed) {sp : SpD} (len : ∀ ds m Q E, sp ds m Q E → ds.length = 1) (hp : ∀ ds m Q E, sp ds m Q E → n_parse_point K sp_parsed (fun C ks vs _ m' => E C ks vs m') { nx := fun _ m' => Q .non m', rt := Q } (startD N_parse_point ds) m) :
    FnD P w K mg base 7 "parse_point" ["text"] sp := by
  obtain ⟨fd, F⟩ := T.def_ 20 (d := defD "parse_point" s_parse_point)
  refine fnD_mk F (T.glo 41) sc_parse_point (fun _ _ _ _ _ _ us hl => match us, hl with | [_], _ => rfl) len (n_parse_point K sp_parsed) (fun cdv A outer s H E B W hr tk => ?_) hp
  exact (sb_one (ss_ret (ee_callF h_parsed hr rfl tk (ea_cons (ee_gobj rfl (T.glo 12)) (ea_cons (ev 0) ea_nil)))))
  -- callees: parsed
/-! ### parse_map -/
abbrev N_parse_map : List Str := ["text"]
theorem sc_parse_map : FnScope N_parse_map ["text"] (defScope s_parse_map) := ⟨rfl, rfl, rfl, by decide +kernel, rfl, by decide +kernel, by decide +kernel⟩
def n_parse_map (K : FragK) (sp_parsed : SpD) (W : DW) : DS := (dRet (dCallF sp_parsed W (dCons (dC (.obj (He.ga K "map_in"))) (dCons (dVar 0) dNil))))
theorem mk_parse_map {P : Program} {w : World} {K : FragK} {mg : Str → Option Value} {base : Heap} {sp_parsed : SpD} (T : Told fa fn K mg) (h_parsed : FnD P w K mg base 6 "parsed" ["parser", "text"] sp_parsed) {sp : SpD} (len : ∀ ds m Q E, sp ds m Q E → ds.length = 1) (hp : ∀ ds m Q E, sp ds m Q E → n_parse_map K sp_parsed (fun C ks vs _ m' => E C ks vs m') { nx := fun _ m' => Q .non m', rt := Q } (startD N_parse_map ds) m) :
    FnD P w K mg base 7 "parse_map" ["text"] sp := by
  obtain ⟨fd, F⟩ := T.def_ 21 (d := defD "parse_map" s_parse_map)
  refine fnD_mk F (T.glo 42) sc_parse_map (fun _ _ _ _ _ _ us hl => match us, hl with | [_], _ => rfl) len (n_parse_map K sp_parsed) (fun cdv A outer s H E B W hr tk => ?_) hp
  exact (sb_one (ss_ret (ee_callF h_parsed hr rfl tk (ea_cons (ee_gobj rfl (T.glo 13)) (ea_cons (ev 0) ea_nil)))))
  -- callees: parsed
/-! ### _law_pen -/
abbrev N_law_pen : List Str := ["_law_script"]
theorem sc_law_pen : FnScope N_law_pen ["_law_script"] (defScope s_law_pen) := ⟨rfl, rfl, rfl, by decide +kernel, rfl, by decide +kernel, by decide +kernel⟩
def n_law_pen (K : FragK) (W : DW) : DS := (dRet (dDictM [((dC (.str "cells")), (dCall gList (dCons (dSl (dVar 0) pNo (pSome (dC (.int 63)))) dNil))), ((dC (.str "turn")), (dC (.int 0))), ((dC (.str "left")), (dC (.int 0)))]))
theorem mk_law_pen {P : Program} {w : World} {K : FragK} {mg : Str → Option Value} {base : Heap} (T : Told fa fn K mg) {sp : SpD} (len : ∀ ds m Q E, sp ds m Q E → ds.length = 1) (hp : ∀ ds m Q E, sp ds m Q E → n_law_pen K (fun C ks vs _ m' => E C ks vs m') { nx := fun _ m' => Q .non m', rt := Q } (startD N_law_pen ds) m) :
    FnD P w K mg base 2 "_law_pen" ["_law_script"] sp := by
  obtain ⟨fd, F⟩ := T.def_ 22 (d := defD "_law_pen" s_law_pen)
  refine fnD_mk F (T.glo 43) sc_law_pen (fun _ _ _ _ _ _ us hl => match us, hl with | [_], _ => rfl) len (n_law_pen K) (fun cdv A outer s H E B W hr tk => ?_) hp
  exact (sb_one (ss_ret (ee_dictM (eps_cons ee_str (ee_callT cd_list rfl (T.free 14) boot_list (ea_cons (ee_sl (ev 0) ep_none (ep_some ee_int)) ea_nil)) (eps_cons ee_str ee_int (eps_cons ee_str ee_int eps_nil))))))
  -- callees: 
/-! ### _law_draw -/
abbrev N_law_draw : List Str := ["_law_pen_here", "_law_many", "_law_turn", "_law_cell", "_law_primes", "_law_prime", "_law_drawn", "_law_digit"]
theorem sc_law_draw : FnScope N_law_draw ["_law_pen_here", "_law_many"] (defScope s_law_draw) := ⟨rfl, rfl, rfl, by decide +kernel, rfl, by decide +kernel, by decide +kernel⟩
def n_law_draw (K : FragK) (W : DW) : DS := (dSeq (dIfS (dTest (dOp oGt (dGet (dVar 0) (dC (.str "left"))) (dC (.int 0)))) (dSeq (dAsg (dOp oMod (dGet (dVar 0) (dC (.str "left"))) (dVar 1)) (hName 7)) (dSeq (dPut (dVar 0) (dC (.str "left")) (dOp oDiv (dGet (dVar 0) (dC (.str "left"))) (dVar 1))) (dRet (dVar 7)))) dNext) (dSeq (dAsg (dGet (dVar 0) (dC (.str "turn"))) (hName 2)) (dSeq (dPut (dVar 0) (dC (.str "turn")) (dOp oAdd (dVar 2) (dC (.int 1)))) (dSeq (dAsg (dOp oAdd (dOp oMul (dC (.int 41)) (dVar 2)) (dC (.int 17))) (hName 3)) (dSeq (dIfS (dTest (dOp (gEq not) (dGet (dVar 0) (dC (.str "cells"))) (dLst dNil))) (dAsg (dOp oIx (dGet (dVar 0) (dC (.str "cells"))) (dOp oMod (dVar 2) (dCall gLen (dCons (dGet (dVar 0) (dC (.str "cells"))) dNil)))) (hName 3)) dNext) (dSeq (dIfS (dAnd (dTest (dOp oLt (dVar 2) (dCall gLen (dCons (dGet (dVar 0) (dC (.str "cells"))) dNil)))) (dTest (dOp oGe (dCall gAbs (dCons (dVar 3) dNil)) (dOp oPow (dC (.int 10)) (dC (.int 18)))))) (dSeq (dPut (dVar 0) (dC (.str "left")) (dOp oDiv (dOp oSub (dCall gAbs (dCons (dVar 3) dNil)) (dOp oPow (dC (.int 10)) (dC (.int 18)))) (dVar 1))) (dRet (dOp oMod (dOp oSub (dCall gAbs (dCons (dVar 3) dNil)) (dOp oPow (dC (.int 10)) (dC (.int 18)))) (dVar 1)))) dNext) (dSeq (dAsg (dLst (dCons (dC (.int 2147483647)) (dCons (dC (.int 2147483629)) (dCons (dC (.int 2147483587)) (dCons (dC (.int 2147483579)) (dCons (dC (.int 2147483563)) dNil)))))) (hName 4)) (dSeq (dAsg (dOp oIx (dVar 4) (dOp oMod (dVar 2) (dC (.int 5)))) (hName 5)) (dSeq (dAsg (dOp oMod (dOp oAdd (dOp oAdd (dOp oMul (dOp oMod (dVar 3) (dVar 5)) (dC (.int 48271))) (dOp oMul (dOp oMul (dC (.int 40692)) (dVar 2)) (dVar 2))) (dC (.int 31))) (dVar 5)) (hName 6)) (dSeq (dAsg (dOp oMod (dOp oMul (dVar 6) (dOp oAdd (dVar 6) (dC (.int 69621)))) (dOp oIx (dVar 4) (dOp oMod (dOp oAdd (dVar 2) (dC (.int 3))) (dC (.int 5))))) (hName 6)) (dRet (dOp oMod (dOp oDiv (dOp oMod (dOp oMul (dVar 6) (dVar 6)) (dC (.int 2147483549))) (dC (.int 64))) (dVar 1)))))))))))))
theorem mk_law_draw {P : Program} {w : World} {K : FragK} {mg : Str → Option Value} {base : Heap} (T : Told fa fn K mg) {sp : SpD} (len : ∀ ds m Q E, sp ds m Q E → ds.length = 2) (hp : ∀ ds m Q E, sp ds m Q E → n_law_draw K (fun C ks vs _ m' => E C ks vs m') { nx := fun _ m' => Q .non m', rt := Q } (startD N_law_draw ds) m) :
    FnD P w K mg base 2 "_law_draw" ["_law_pen_here", "_law_many"] sp := by
  obtain ⟨fd, F⟩ := T.def_ 23 (d := defD "_law_draw" s_law_draw)
  refine fnD_mk F (T.glo 44) sc_law_draw (fun _ _ _ _ _ _ us hl => match us, hl with | [_, _], _ => rfl) len (n_law_draw K) (fun cdv A outer s H E B W hr tk => ?_) hp
  exact (sb_cons (ss_if (et_cmp od_gt (ee_get (Room.u1 hr) (ev 0) ee_str) ee_int) (sb_cons (ss_set 7 sc_law_draw.nd (ee_op od_mod (ee_get (Room.u1 hr) (ev 0) ee_str) (ev 1))) (sb_cons (ss_put (Room.u1 hr) (ev 0) ee_str (ee_op od_div (ee_get (Room.u1 hr) (ev 0) ee_str) (ev 1))) (sb_one (ss_ret (ev 7))))) sb_nil) (sb_cons (ss_set 2 sc_law_draw.nd (ee_get (Room.u1 hr) (ev 0) ee_str)) (sb_cons (ss_put (Room.u1 hr) (ev 0) ee_str (ee_op od_add (ev 2) ee_int)) (sb_cons (ss_set 3 sc_law_draw.nd (ee_op od_add (ee_op od_mul ee_int (ev 2)) ee_int)) (sb_cons (ss_if (et_cmp (od_ne hr.units) (ee_get (Room.u1 hr) (ev 0) ee_str) (ee_lst ea_nil)) (sb_one (ss_set 3 sc_law_draw.nd (ee_ix (ee_get (Room.u1 hr) (ev 0) ee_str) (ee_op od_mod (ev 2) (ee_callB cd_len rfl (T.free 5) boot_len (ea_cons (ee_get (Room.u1 hr) (ev 0) ee_str) ea_nil)))))) sb_nil) (sb_cons (ss_if (EW.et (ew_and (et_cmp od_lt (ev 2) (ee_callB cd_len rfl (T.free 5) boot_len (ea_cons (ee_get (Room.u1 hr) (ev 0) ee_str) ea_nil))) (ew_and1 (et_cmp od_ge (ee_callB cd_abs rfl (T.free 3) boot_abs (ea_cons (ev 3) ea_nil)) (ee_op od_pow ee_int ee_int))))) (sb_cons (ss_put (Room.u1 hr) (ev 0) ee_str (ee_op od_div (ee_op od_sub (ee_callB cd_abs rfl (T.free 3) boot_abs (ea_cons (ev 3) ea_nil)) (ee_op od_pow ee_int ee_int)) (ev 1))) (sb_one (ss_ret (ee_op od_mod (ee_op od_sub (ee_callB cd_abs rfl (T.free 3) boot_abs (ea_cons (ev 3) ea_nil)) (ee_op od_pow ee_int ee_int)) (ev 1))))) sb_nil) (sb_cons (ss_set 4 sc_law_draw.nd (ee_lst (ea_cons ee_int (ea_cons ee_int (ea_cons ee_int (ea_cons ee_int (ea_cons ee_int ea_nil))))))) (sb_cons (ss_set 5 sc_law_draw.nd (ee_ix (ev 4) (ee_op od_mod (ev 2) ee_int))) (sb_cons (ss_set 6 sc_law_draw.nd (ee_op od_mod (ee_op od_add (ee_op od_add (ee_op od_mul (ee_op od_mod (ev 3) (ev 5)) ee_int) (ee_op od_mul (ee_op od_mul ee_int (ev 2)) (ev 2))) ee_int) (ev 5))) (sb_cons (ss_set 6 sc_law_draw.nd (ee_op od_mod (ee_op od_mul (ev 6) (ee_op od_add (ev 6) ee_int)) (ee_ix (ev 4) (ee_op od_mod (ee_op od_add (ev 2) ee_int) ee_int)))) (sb_one (ss_ret (ee_op od_mod (ee_op od_div (ee_op od_mod (ee_op od_mul (ev 6) (ev 6)) ee_int) ee_int) (ev 1))))))))))))))
  -- callees: 
/-! ### _law_pick -/
abbrev N_law_pick : List Str := ["_law_pen_here", "_law_options"]
theorem sc_law_pick : FnScope N_law_pick ["_law_pen_here", "_law_options"] (defScope s_law_pick) := ⟨rfl, rfl, rfl, by decide +kernel, rfl, by decide +kernel, by decide +kernel⟩
def n_law_pick (K : FragK) (sp_law_draw : SpD) (W : DW) : DS := (dRet (dOp oIx (dVar 1) (dCallF sp_law_draw W (dCons (dVar 0) (dCons (dCall gLen (dCons (dVar 1) dNil)) dNil)))))
theorem mk_law_pick {P : Program} {w : World} {K : FragK} {mg : Str → Option Value} {base : Heap} {sp_law_draw : SpD} (T : Told fa fn K mg) (h_law_draw : FnD P w K mg base 2 "_law_draw" ["_law_pen_here", "_law_many"] sp_law_draw) {sp : SpD} (len : ∀ ds m Q E, sp ds m Q E → ds.length = 2) (hp : ∀ ds m Q E, sp ds m Q E → n_law_pick K sp_law_draw (fun C ks vs _ m' => E C ks vs m') { nx := fun _ m' => Q .non m', rt := Q } (startD N_law_pick ds) m) :
    FnD P w K mg base 3 "_law_pick" ["_law_pen_here", "_law_options"] sp := by
  obtain ⟨fd, F⟩ := T.def_ 24 (d := defD "_law_pick" s_law_pick)
  refine fnD_mk F (T.glo 45) sc_law_pick (fun _ _ _ _ _ _ us hl => match us, hl with | [_, _], _ => rfl) len (n_law_pick K sp_law_draw) (fun cdv A outer s H E B W hr tk => ?_) hp
  exact (sb_one (ss_ret (ee_ix (ev 1) (ee_callF h_law_draw hr rfl tk (ea_cons (ev 0) (ea_cons (ee_callB cd_len rfl (T.free 5) boot_len (ea_cons (ev 1) ea_nil)) ea_nil))))))
  -- callees: _law_draw
/-! ### _law_great -/
abbrev N_law_great : List Str := ["_law_pen_here", "_law_figures", "_law_result", "_law_k"]
theorem sc_law_great : FnScope N_law_great ["_law_pen_here", "_law_figures"] (defScope s_law_great) := ⟨rfl, rfl, rfl, by decide +kernel, rfl, by decide +kernel, by decide +kernel⟩
def n_law_great (K : FragK) (sp_law_draw : SpD) (W : DW) : DS := (dSeq (dAsg (dC (.int 0)) (hName 2)) (dSeq (dFor (iR1 (dCons (dVar 1) dNil)) (hName 3) (dAsg (dOp oAdd (dOp oMul (dC (.int 10)) (dVar 2)) (dCallF sp_law_draw W (dCons (dVar 0) (dCons (dC (.int 10)) dNil)))) (hName 2))) (dRet (dVar 2))))
theorem mk_law_great {P : Program} {w : World} {K : FragK} {mg : Str → Option Value} {base : Heap} {sp_law_draw : SpD} (T : Told fa fn K mg) (h_law_draw : FnD P w K mg base 2 "_law_draw" ["_law_pen_here", "_law_many"] sp_law_draw) {sp : SpD} (len : ∀ ds m Q E, sp ds m Q E → ds.length = 2) (hp : ∀ ds m Q E, sp ds m Q E → n_law_great K sp_law_draw (fun C ks vs _ m' => E C ks vs m') { nx := fun _ m' => Q .non m', rt := Q } (startD N_law_great ds) m) :
    FnD P w K mg base 3 "_law_great" ["_law_pen_here", "_law_figures"] sp := by
  obtain ⟨fd, F⟩ := T.def_ 25 (d := defD "_law_great" s_law_great)
  refine fnD_mk F (T.glo 46) sc_law_great (fun _ _ _ _ _ _ us hl => match us, hl with | [_, _], _ => rfl) len (n_law_great K sp_law_draw) (fun cdv A outer s H E B W hr tk => ?_) hp
  have po : PassesOwn (model (cxOf (L2.CX P w) P w K mg base N_law_great "_law_great" (defScope s_law_great) (He.ga K "_law_great") cdv A outer s H E).prog (cxOf (L2.CX P w) P w K mg base N_law_great "_law_great" (defScope s_law_great) (He.ga K "_law_great") cdv A outer s H E).w) (cxOf (L2.CX P w) P w K mg base N_law_great "_law_great" (defScope s_law_great) (He.ga K "_law_great") cdv A outer s H E).A (cxOf (L2.CX P w) P w K mg base N_law_great "_law_great" (defScope s_law_great) (He.ga K "_law_great") cdv A outer s H E).env (cxOf (L2.CX P w) P w K mg base N_law_great "_law_great" (defScope s_law_great) (He.ga K "_law_great") cdv A outer s H E).xe := passes_of rfl
  exact (sb_cons (ss_set 2 sc_law_great.nd ee_int) (sb_cons (ss_for po rfl (ii_r1 rfl (T.free 15) (ea_cons (ev 1) ea_nil)) (eg_name 3 sc_law_great.nd) (sb_one (ss_set 2 sc_law_great.nd (ee_op od_add (ee_op od_mul ee_int (ev 2)) (ee_callF h_law_draw hr rfl tk (ea_cons (ev 0) (ea_cons ee_int ea_nil))))))) (sb_one (ss_ret (ev 2)))))
  -- callees: _law_draw
/-! ### _law_gcd -/
abbrev N_law_gcd : List Str := ["_law_one", "_law_two"]
theorem sc_law_gcd : FnScope N_law_gcd ["_law_one", "_law_two"] (defScope s_law_gcd) := ⟨rfl, rfl, rfl, by decide +kernel, rfl, by decide +kernel, by decide +kernel⟩
def n_law_gcd (K : FragK) (W : DW) : DS := (dSeq (dPar 0 1 (dCons (dCall gAbs (dCons (dVar 0) dNil)) (dCons (dCall gAbs (dCons (dVar 1) dNil)) dNil))) (dSeq (dWhile (dTest (dOp oGt (dVar 1) (dC (.int 0)))) (dPar 0 1 (dCons (dVar 1) (dCons (dOp oMod (dVar 0) (dVar 1)) dNil)))) (dRet (dVar 0))))
theorem mk_law_gcd {P : Program} {w : World} {K : FragK} {mg : Str → Option Value} {base : Heap} (T : Told fa fn K mg) {sp : SpD} (len : ∀ ds m Q E, sp ds m Q E → ds.length = 2) (hp : ∀ ds m Q E, sp ds m Q E → n_law_gcd K (fun C ks vs _ m' => E C ks vs m') { nx := fun _ m' => Q .non m', rt := Q } (startD N_law_gcd ds) m) :
    FnD P w K mg base 2 "_law_gcd" ["_law_one", "_law_two"] sp := by
  obtain ⟨fd, F⟩ := T.def_ 26 (d := defD "_law_gcd" s_law_gcd)
  refine fnD_mk F (T.glo 47) sc_law_gcd (fun _ _ _ _ _ _ us hl => match us, hl with | [_, _], _ => rfl) len (n_law_gcd K) (fun cdv A outer s H E B W hr tk => ?_) hp
  have po : PassesOwn (model (cxOf (L2.CX P w) P w K mg base N_law_gcd "_law_gcd" (defScope s_law_gcd) (He.ga K "_law_gcd") cdv A outer s H E).prog (cxOf (L2.CX P w) P w K mg base N_law_gcd "_law_gcd" (defScope s_law_gcd) (He.ga K "_law_gcd") cdv A outer s H E).w) (cxOf (L2.CX P w) P w K mg base N_law_gcd "_law_gcd" (defScope s_law_gcd) (He.ga K "_law_gcd") cdv A outer s H E).A (cxOf (L2.CX P w) P w K mg base N_law_gcd "_law_gcd" (defScope s_law_gcd) (He.ga K "_law_gcd") cdv A outer s H E).env (cxOf (L2.CX P w) P w K mg base N_law_gcd "_law_gcd" (defScope s_law_gcd) (He.ga K "_law_gcd") cdv A outer s H E).xe := passes_of rfl
  exact (sb_cons (ss_par 0 1 rfl sc_law_gcd.nd (ea_cons (ee_callB cd_abs rfl (T.free 3) boot_abs (ea_cons (ev 0) ea_nil)) (ea_cons (ee_callB cd_abs rfl (T.free 3) boot_abs (ea_cons (ev 1) ea_nil)) ea_nil))) (sb_cons (ss_while po (et_cmp od_gt (ev 1) ee_int) (sb_one (ss_par 0 1 rfl sc_law_gcd.nd (ea_cons (ev 1) (ea_cons (ee_op od_mod (ev 0) (ev 1)) ea_nil))))) (sb_one (ss_ret (ev 0)))))
  -- callees: 
/-! ### _law_point_form -/
abbrev N_law_point_form : List Str := ["_law_x", "_law_y", "_law_d", "_law_both"]
theorem sc_law_point_form : FnScope N_law_point_form ["_law_x", "_law_y", "_law_d"] (defScope s_law_point_form) := ⟨rfl, rfl, rfl, by decide +kernel, rfl, by decide +kernel, by decide +kernel⟩
def n_law_point_form (K : FragK) (sp_law_gcd : SpD) (W : DW) : DS := (dSeq (dAsg (dCallF sp_law_gcd W (dCons (dCallF sp_law_gcd W (dCons (dVar 0) (dCons (dVar 1) dNil))) (dCons (dVar 2) dNil))) (hName 3)) (dRet (dTup (dCons (dOp oDiv (dVar 0) (dVar 3)) (dCons (dOp oDiv (dVar 1) (dVar 3)) (dCons (dOp oDiv (dVar 2) (dVar 3)) dNil))))))
theorem mk_law_point_form {P : Program} {w : World} {K : FragK} {mg : Str → Option Value} {base : Heap} {sp_law_gcd : SpD} (T : Told fa fn K mg) (h_law_gcd : FnD P w K mg base 2 "_law_gcd" ["_law_one", "_law_two"] sp_law_gcd) {sp : SpD} (len : ∀ ds m Q E, sp ds m Q E → ds.length = 3) (hp : ∀ ds m Q E, sp ds m Q E → n_law_point_form K sp_law_gcd (fun C ks vs _ m' => E C ks vs m') { nx := fun _ m' => Q .non m', rt := Q } (startD N_law_point_form ds) m) :
    FnD P w K mg base 3 "_law_point_form" ["_law_x", "_law_y", "_law_d"] sp := by
  obtain ⟨fd, F⟩ := T.def_ 27 (d := defD "_law_point_form" s_law_point_form)
  refine fnD_mk F (T.glo 48) sc_law_point_form (fun _ _ _ _ _ _ us hl => match us, hl with | [_, _, _], _ => rfl) len (n_law_point_form K sp_law_gcd) (fun cdv A outer s H E B W hr tk => ?_) hp
  exact (sb_cons (ss_set 3 sc_law_point_form.nd (ee_callF h_law_gcd hr rfl tk (ea_cons (ee_callF h_law_gcd hr rfl tk (ea_cons (ev 0) (ea_cons (ev 1) ea_nil))) (ea_cons (ev 2) ea_nil)))) (sb_one (ss_ret (ee_tup (ea_cons (ee_op od_div (ev 0) (ev 3)) (ea_cons (ee_op od_div (ev 1) (ev 3)) (ea_cons (ee_op od_div (ev 2) (ev 3)) ea_nil)))))))
  -- callees: _law_gcd
/-! ### _law_map_corner -/
abbrev N_law_map_corner : List Str := ["_law_table_here", "_law_corner", "_law_a", "_law_b", "_law_c", "_law_d", "_law_p", "_law_q"]
theorem sc_law_map_corner : FnScope N_law_map_corner ["_law_table_here", "_law_corner"] (defScope s_law_map_corner) := ⟨rfl, rfl, rfl, by decide +kernel, rfl, by decide +kernel, by decide +kernel⟩
def n_law_map_corner (K : FragK) (W : DW) : DS := (dSeq (dAsg (dVar 0) (hSeq 6 (hCons (hName 2) (hCons (hName 3) (hCons (hName 4) (hCons (hName 5) (hCons (hName 6) (hCons (hName 7) hNil)))))))) (dRet (dTup (dCons (dOp oAdd (dOp oAdd (dOp oMul (dVar 2) (dOp oIx (dVar 1) (dC (.int 0)))) (dOp oMul (dVar 3) (dOp oIx (dVar 1) (dC (.int 1))))) (dVar 6)) (dCons (dOp oAdd (dOp oAdd (dOp oMul (dVar 4) (dOp oIx (dVar 1) (dC (.int 0)))) (dOp oMul (dVar 5) (dOp oIx (dVar 1) (dC (.int 1))))) (dVar 7)) dNil)))))
theorem mk_law_map_corner {P : Program} {w : World} {K : FragK} {mg : Str → Option Value} {base : Heap} (T : Told fa fn K mg) {sp : SpD} (len : ∀ ds m Q E, sp ds m Q E → ds.length = 2) (hp : ∀ ds m Q E, sp ds m Q E → n_law_map_corner K (fun C ks vs _ m' => E C ks vs m') { nx := fun _ m' => Q .non m', rt := Q } (startD N_law_map_corner ds) m) :
    FnD P w K mg base 2 "_law_map_corner" ["_law_table_here", "_law_corner"] sp := by
  obtain ⟨fd, F⟩ := T.def_ 28 (d := defD "_law_map_corner" s_law_map_corner)
  refine fnD_mk F (T.glo 49) sc_law_map_corner (fun _ _ _ _ _ _ us hl => match us, hl with | [_, _], _ => rfl) len (n_law_map_corner K) (fun cdv A outer s H E B W hr tk => ?_) hp
  exact (sb_cons (ss_asg (ev 0) (eg_seq rfl (egs_cons (eg_name 2 sc_law_map_corner.nd) (egs_cons (eg_name 3 sc_law_map_corner.nd) (egs_cons (eg_name 4 sc_law_map_corner.nd) (egs_cons (eg_name 5 sc_law_map_corner.nd) (egs_cons (eg_name 6 sc_law_map_corner.nd) (egs_cons (eg_name 7 sc_law_map_corner.nd) egs_nil)))))))) (sb_one (ss_ret (ee_tup (ea_cons (ee_op od_add (ee_op od_add (ee_op od_mul (ev 2) (ee_ix (ev 1) ee_int)) (ee_op od_mul (ev 3) (ee_ix (ev 1) ee_int))) (ev 6)) (ea_cons (ee_op od_add (ee_op od_add (ee_op od_mul (ev 4) (ee_ix (ev 1) ee_int)) (ee_op od_mul (ev 5) (ee_ix (ev 1) ee_int))) (ev 7)) ea_nil))))))
  -- callees: 
/-! ### _law_table -/
abbrev N_law_table : List Str := ["_law_pen_here", "_law_far", "_law_rows", "_law_one", "_law_two", "_law_k", "_law_p", "_law_q", "_law_table_here"]
theorem sc_law_table : FnScope N_law_table ["_law_pen_here", "_law_far"] (defScope s_law_table) := ⟨rfl, rfl, rfl, by decide +kernel, rfl, by decide +kernel, by decide +kernel⟩
def n_law_table (K : FragK) (sp_law_draw sp_law_pick sp_law_map_corner : SpD) (W : DW) : DS := (dSeq (dAsg (dLst (dCons (dTup (dCons (dC (.int 1)) (dCons (dC (.int 0)) (dCons (dC (.int 0)) (dCons (dC (.int 1)) dNil))))) (dCons (dTup (dCons (dC (.int 1)) (dCons (dC (.int 1)) (dCons (dC (.int 0)) (dCons (dC (.int 1)) dNil))))) (dCons (dTup (dCons (dC (.int 1)) (dCons (dC (.int 0)) (dCons (dC (.int 1)) (dCons (dC (.int 1)) dNil))))) (dCons (dTup (dCons (dC (.int 0)) (dCons (dNeg (dC (.int 1))) (dCons (dC (.int 1)) (dCons (dC (.int 0)) dNil))))) dNil))))) (hName 2)) (dSeq (dAsg (dOp oAdd (dVar 2) (dLst (dCons (dTup (dCons (dC (.int 1)) (dCons (dNeg (dC (.int 1))) (dCons (dC (.int 0)) (dCons (dC (.int 1)) dNil))))) (dCons (dTup (dCons (dC (.int 1)) (dCons (dC (.int 0)) (dCons (dNeg (dC (.int 1))) (dCons (dC (.int 1)) dNil))))) (dCons (dTup (dCons (dC (.int 0)) (dCons (dC (.int 1)) (dCons (dC (.int 1)) (dCons (dC (.int 0)) dNil))))) (dCons (dTup (dCons (dC (.int 2)) (dCons (dC (.int 1)) (dCons (dC (.int 1)) (dCons (dC (.int 1)) dNil))))) dNil)))))) (hName 2)) (dSeq (dAsg (dTup (dCons (dTup (dCons (dC (.int 1)) (dCons (dC (.int 0)) dNil))) (dCons (dTup (dCons (dC (.int 0)) (dCons (dC (.int 1)) dNil))) dNil))) (hSeq 2 (hCons (hName 3) (hCons (hName 4) hNil)))) (dSeq (dFor (iR1 (dCons (dCallF sp_law_draw W (dCons (dVar 0) (dCons (dC (.int 4)) dNil))) dNil)) (hName 5) (dSeq (dAsg (dOp oAdd (dCallF sp_law_pick W (dCons (dVar 0) (dCons (dVar 2) dNil))) (dTup (dCons (dC (.int 0)) (dCons (dC (.int 0)) dNil)))) (hName 8)) (dPar 3 4 (dCons (dCallF sp_law_map_corner W (dCons (dVar 8) (dCons (dVar 3) dNil))) (dCons (dCallF sp_law_map_corner W (dCons (dVar 8) (dCons (dVar 4) dNil))) dNil))))) (dSeq (dPar 6 7 (dCons (dOp oSub (dCallF sp_law_draw W (dCons (dVar 0) (dCons (dOp oAdd (dOp oMul (dC (.int 2)) (dVar 1)) (dC (.int 1))) dNil))) (dVar 1)) (dCons (dOp oSub (dCallF sp_law_draw W (dCons (dVar 0) (dCons (dOp oAdd (dOp oMul (dC (.int 2)) (dVar 1)) (dC (.int 1))) dNil))) (dVar 1)) dNil))) (dRet (dTup (dCons (dOp oIx (dVar 3) (dC (.int 0))) (dCons (dOp oIx (dVar 4) (dC (.int 0))) (dCons (dOp oIx (dVar 3) (dC (.int 1))) (dCons (dOp oIx (dVar 4) (dC (.int 1))) (dCons (dVar 6) (dCons (dVar 7) dNil)))))))))))))
theorem mk_law_table {P : Program} {w : World} {K : FragK} {mg : Str → Option Value} {base : Heap} {sp_law_draw sp_law_pick sp_law_map_corner : SpD} (T : Told fa fn K mg) (h_law_draw : FnD P w K mg base 3 "_law_draw" ["_law_pen_here", "_law_many"] sp_law_draw) (h_law_pick : FnD P w K mg base 3 "_law_pick" ["_law_pen_here", "_law_options"] sp_law_pick) (h_law_map_corner : FnD P w K mg base 3 "_law_map_corner" ["_law_table_here", "_law_corner"] sp_law_map_corner) {sp : SpD} (len : ∀ ds m Q E, sp ds m Q E → ds.length = 2) (hp : ∀ ds m Q E, sp ds m Q E → n_law_table K sp_law_draw sp_law_pick sp_law_map_corner (fun C ks vs _ m' => E C ks vs m') { nx := fun _ m' => Q .non m', rt := Q } (startD N_law_table ds) m) :
    FnD P w K mg base 4 "_law_table" ["_law_pen_here", "_law_far"] sp := by
  obtain ⟨fd, F⟩ := T.def_ 29 (d := defD "_law_table" s_law_table)
  refine fnD_mk F (T.glo 50) sc_law_table (fun _ _ _ _ _ _ us hl => match us, hl with | [_, _], _ => rfl) len (n_law_table K sp_law_draw sp_law_pick sp_law_map_corner) (fun cdv A outer s H E B W hr tk => ?_) hp
  have po : PassesOwn (model (cxOf (L2.CX P w) P w K mg base N_law_table "_law_table" (defScope s_law_table) (He.ga K "_law_table") cdv A outer s H E).prog (cxOf (L2.CX P w) P w K mg base N_law_table "_law_table" (defScope s_law_table) (He.ga K "_law_table") cdv A outer s H E).w) (cxOf (L2.CX P w) P w K mg base N_law_table "_law_table" (defScope s_law_table) (He.ga K "_law_table") cdv A outer s H E).A (cxOf (L2.CX P w) P w K mg base N_law_table "_law_table" (defScope s_law_table) (He.ga K "_law_table") cdv A outer s H E).env (cxOf (L2.CX P w) P w K mg base N_law_table "_law_table" (defScope s_law_table) (He.ga K "_law_table") cdv A outer s H E).xe := passes_of rfl
  exact (sb_cons (ss_set 2 sc_law_table.nd (ee_lst (ea_cons (ee_tup (ea_cons ee_int (ea_cons ee_int (ea_cons ee_int (ea_cons ee_int ea_nil))))) (ea_cons (ee_tup (ea_cons ee_int (ea_cons ee_int (ea_cons ee_int (ea_cons ee_int ea_nil))))) (ea_cons (ee_tup (ea_cons ee_int (ea_cons ee_int (ea_cons ee_int (ea_cons ee_int ea_nil))))) (ea_cons (ee_tup (ea_cons ee_int (ea_cons (ee_neg ee_int) (ea_cons ee_int (ea_cons ee_int ea_nil))))) ea_nil)))))) (sb_cons (ss_set 2 sc_law_table.nd (ee_op od_add (ev 2) (ee_lst (ea_cons (ee_tup (ea_cons ee_int (ea_cons (ee_neg ee_int) (ea_cons ee_int (ea_cons ee_int ea_nil))))) (ea_cons (ee_tup (ea_cons ee_int (ea_cons ee_int (ea_cons (ee_neg ee_int) (ea_cons ee_int ea_nil))))) (ea_cons (ee_tup (ea_cons ee_int (ea_cons ee_int (ea_cons ee_int (ea_cons ee_int ea_nil))))) (ea_cons (ee_tup (ea_cons ee_int (ea_cons ee_int (ea_cons ee_int (ea_cons ee_int ea_nil))))) ea_nil))))))) (sb_cons (ss_asg (ee_tup (ea_cons (ee_tup (ea_cons ee_int (ea_cons ee_int ea_nil))) (ea_cons (ee_tup (ea_cons ee_int (ea_cons ee_int ea_nil))) ea_nil))) (eg_seq rfl (egs_cons (eg_name 3 sc_law_table.nd) (egs_cons (eg_name 4 sc_law_table.nd) egs_nil)))) (sb_cons (ss_for po rfl (ii_r1 rfl (T.free 15) (ea_cons (ee_callF h_law_draw hr rfl tk (ea_cons (ev 0) (ea_cons ee_int ea_nil))) ea_nil)) (eg_name 5 sc_law_table.nd) (sb_cons (ss_set 8 sc_law_table.nd (ee_op od_add (ee_callF h_law_pick hr rfl tk (ea_cons (ev 0) (ea_cons (ev 2) ea_nil))) (ee_tup (ea_cons ee_int (ea_cons ee_int ea_nil))))) (sb_one (ss_par 3 4 rfl sc_law_table.nd (ea_cons (ee_callF h_law_map_corner hr rfl tk (ea_cons (ev 8) (ea_cons (ev 3) ea_nil))) (ea_cons (ee_callF h_law_map_corner hr rfl tk (ea_cons (ev 8) (ea_cons (ev 4) ea_nil))) ea_nil)))))) (sb_cons (ss_par 6 7 rfl sc_law_table.nd (ea_cons (ee_op od_sub (ee_callF h_law_draw hr rfl tk (ea_cons (ev 0) (ea_cons (ee_op od_add (ee_op od_mul ee_int (ev 1)) ee_int) ea_nil))) (ev 1)) (ea_cons (ee_op od_sub (ee_callF h_law_draw hr rfl tk (ea_cons (ev 0) (ea_cons (ee_op od_add (ee_op od_mul ee_int (ev 1)) ee_int) ea_nil))) (ev 1)) ea_nil))) (sb_one (ss_ret (ee_tup (ea_cons (ee_ix (ev 3) ee_int) (ea_cons (ee_ix (ev 4) ee_int) (ea_cons (ee_ix (ev 3) ee_int) (ea_cons (ee_ix (ev 4) ee_int) (ea_cons (ev 6) (ea_cons (ev 7) ea_nil))))))))))))))
  -- callees: _law_draw _law_pick _law_map_corner
/-! ### _law_has_form -/
abbrev N_law_has_form : List Str := ["_law_thing", "_law_one"]
theorem sc_law_has_form : FnScope N_law_has_form ["_law_thing"] (defScope s_law_has_form) := ⟨rfl, rfl, rfl, by decide +kernel, rfl, by decide +kernel, by decide +kernel⟩
def n_law_has_form (K : FragK) (sp_law_gcd : SpD) (W : DW) : DS := (dSeq (dIfS (dOr (dNot (dTru (dCall gIsi (dCons (dVar 0) (dCons (dC (.ty "tuple")) dNil))))) (dTest (dOp (gEq not) (dCall gLen (dCons (dVar 0) dNil)) (dC (.int 3))))) (dRet (dC (.bl false))) dNext) (dSeq (dIfS (dTest (dOp (gEq not) (dLc (iSeq (dVar 0)) (hName 1) (dOr (dNot (dTru (dCall gIsi (dCons (dVar 1) (dCons (dC (.ty "int")) dNil))))) (dTru (dCall gIsi (dCons (dVar 1) (dCons (dC (.ty "bool")) dNil))))) (dVar 1) [1]) (dLst dNil))) (dRet (dC (.bl false))) dNext) (dRet (dAndV (dOp oGt (dOp oIx (dVar 0) (dC (.int 2))) (dC (.int 0))) (dOp (gEq id) (dCallF sp_law_gcd W (dCons (dCallF sp_law_gcd W (dCons (dOp oIx (dVar 0) (dC (.int 0))) (dCons (dOp oIx (dVar 0) (dC (.int 1))) dNil))) (dCons (dOp oIx (dVar 0) (dC (.int 2))) dNil))) (dC (.int 1)))))))
theorem mk_law_has_form {P : Program} {w : World} {K : FragK} {mg : Str → Option Value} {base : Heap} {sp_law_gcd : SpD} (T : Told fa fn K mg) (h_law_gcd : FnD P w K mg base 2 "_law_gcd" ["_law_one", "_law_two"] sp_law_gcd) {sp : SpD} (len : ∀ ds m Q E, sp ds m Q E → ds.length = 1) (hp : ∀ ds m Q E, sp ds m Q E → n_law_has_form K sp_law_gcd (fun C ks vs _ m' => E C ks vs m') { nx := fun _ m' => Q .non m', rt := Q } (startD N_law_has_form ds) m) :
    FnD P w K mg base 3 "_law_has_form" ["_law_thing"] sp := by
  obtain ⟨fd, F⟩ := T.def_ 30 (d := defD "_law_has_form" s_law_has_form)
  refine fnD_mk F (T.glo 51) sc_law_has_form (fun _ _ _ _ _ _ us hl => match us, hl with | [_], _ => rfl) len (n_law_has_form K sp_law_gcd) (fun cdv A outer s H E B W hr tk => ?_) hp
  exact (sb_cons (ss_if (EW.et (ew_or (et_not (et_tru (ee_callB cd_isi rfl (T.free 1) boot_isinstance (ea_cons (ev 0) (ea_cons (ee_ty rfl (T.free 4) boot_tuple) ea_nil))))) (ew_or1 (et_cmp (od_ne hr.units) (ee_callB cd_len rfl (T.free 5) boot_len (ea_cons (ev 0) ea_nil)) ee_int)))) (sb_one (ss_ret ee_bl)) sb_nil) (sb_cons (ss_if (et_cmp (od_ne hr.units) (ee_lc (own := [("_law_one", 1)]) rfl sc_law_has_form.nd (ii_seq (ev 0)) (blkOk_by (N := N_law_has_form) (sc := defScope s_law_has_form) (by decide +kernel)) (fun _ _ _ _ _ => (egv_name 1 sc_law_has_form.nd)) (fun _ _ _ _ _ => (ei_one (EW.et (ew_or (et_not (et_tru (ee_callB cd_isi rfl (T.free 1) boot_isinstance (ea_cons (ev 1) (ea_cons (ee_ty rfl (T.free 0) boot_int) ea_nil))))) (ew_or1 (et_tru (ee_callB cd_isi rfl (T.free 1) boot_isinstance (ea_cons (ev 1) (ea_cons (ee_ty rfl (T.free 2) boot_bool) ea_nil))))))))) (fun _ _ _ _ _ => (ev 1))) (ee_lst ea_nil)) (sb_one (ss_ret ee_bl)) sb_nil) (sb_one (ss_ret (ee_and (ee_cmp od_gt (ee_ix (ev 0) ee_int) ee_int) (ee_one (ee_cmp (od_eq hr.units) (ee_callF h_law_gcd hr rfl tk (ea_cons (ee_callF h_law_gcd hr rfl tk (ea_cons (ee_ix (ev 0) ee_int) (ea_cons (ee_ix (ev 0) ee_int) ea_nil))) (ea_cons (ee_ix (ev 0) ee_int) ea_nil))) ee_int)))))))
  -- callees: _law_gcd
/-! ### _law_is_point -/
abbrev N_law_is_point : List Str := ["_law_thing"]
theorem sc_law_is_point : FnScope N_law_is_point ["_law_thing"] (defScope s_law_is_point) := ⟨rfl, rfl, rfl, by decide +kernel, rfl, by decide +kernel, by decide +kernel⟩
def n_law_is_point (K : FragK) (sp_law_has_form : SpD) (W : DW) : DS := (dSeq (dIfS (dOr (dNot (dTru (dCallF sp_law_has_form W (dCons (dVar 0) dNil)))) (dTest (dOp oGt (dOp oIx (dVar 0) (dC (.int 2))) (dOp oPow (dC (.int 10)) (dC (.int 6)))))) (dRet (dC (.bl false))) dNext) (dRet (dOp oLe (dCall gMax (dCons (dCall gAbs (dCons (dOp oIx (dVar 0) (dC (.int 0))) dNil)) (dCons (dCall gAbs (dCons (dOp oIx (dVar 0) (dC (.int 1))) dNil)) dNil))) (dOp oMul (dOp oPow (dC (.int 10)) (dC (.int 40))) (dOp oIx (dVar 0) (dC (.int 2)))))))
theorem mk_law_is_point {P : Program} {w : World} {K : FragK} {mg : Str → Option Value} {base : Heap} {sp_law_has_form : SpD} (T : Told fa fn K mg) (h_law_has_form : FnD P w K mg base 3 "_law_has_form" ["_law_thing"] sp_law_has_form) {sp : SpD} (len : ∀ ds m Q E, sp ds m Q E → ds.length = 1) (hp : ∀ ds m Q E, sp ds m Q E → n_law_is_point K sp_law_has_form (fun C ks vs _ m' => E C ks vs m') { nx := fun _ m' => Q .non m', rt := Q } (startD N_law_is_point ds) m) :
    FnD P w K mg base 4 "_law_is_point" ["_law_thing"] sp := by
  obtain ⟨fd, F⟩ := T.def_ 31 (d := defD "_law_is_point" s_law_is_point)
  refine fnD_mk F (T.glo 52) sc_law_is_point (fun _ _ _ _ _ _ us hl => match us, hl with | [_], _ => rfl) len (n_law_is_point K sp_law_has_form) (fun cdv A outer s H E B W hr tk => ?_) hp
  exact (sb_cons (ss_if (EW.et (ew_or (et_not (et_tru (ee_callF h_law_has_form hr rfl tk (ea_cons (ev 0) ea_nil)))) (ew_or1 (et_cmp od_gt (ee_ix (ev 0) ee_int) (ee_op od_pow ee_int ee_int))))) (sb_one (ss_ret ee_bl)) sb_nil) (sb_one (ss_ret (ee_cmp od_le (ee_callB (cd_max rfl) rfl (T.free 16) boot_max (ea_cons (ee_callB cd_abs rfl (T.free 3) boot_abs (ea_cons (ee_ix (ev 0) ee_int) ea_nil)) (ea_cons (ee_callB cd_abs rfl (T.free 3) boot_abs (ea_cons (ee_ix (ev 0) ee_int) ea_nil)) ea_nil))) (ee_op od_mul (ee_op od_pow ee_int ee_int) (ee_ix (ev 0) ee_int))))))
  -- callees: _law_has_form
/-! ### _law_fraction -/
abbrev N_law_fraction : List Str := ["_law_n", "_law_d", "_law_both"]
theorem sc_law_fraction : FnScope N_law_fraction ["_law_n", "_law_d"] (defScope s_law_fraction) := ⟨rfl, rfl, rfl, by decide +kernel, rfl, by decide +kernel, by decide +kernel⟩
def n_law_fraction (K : FragK) (sp_law_gcd : SpD) (W : DW) : DS := (dSeq (dAsg (dCallF sp_law_gcd W (dCons (dVar 0) (dCons (dVar 1) dNil))) (hName 2)) (dRet (dTup (dCons (dOp oDiv (dVar 0) (dVar 2)) (dCons (dOp oDiv (dVar 1) (dVar 2)) dNil)))))
theorem mk_law_fraction {P : Program} {w : World} {K : FragK} {mg : Str → Option Value} {base : Heap} {sp_law_gcd : SpD} (T : Told fa fn K mg) (h_law_gcd : FnD P w K mg base 2 "_law_gcd" ["_law_one", "_law_two"] sp_law_gcd) {sp : SpD} (len : ∀ ds m Q E, sp ds m Q E → ds.length = 2) (hp : ∀ ds m Q E, sp ds m Q E → n_law_fraction K sp_law_gcd (fun C ks vs _ m' => E C ks vs m') { nx := fun _ m' => Q .non m', rt := Q } (startD N_law_fraction ds) m) :
    FnD P w K mg base 3 "_law_fraction" ["_law_n", "_law_d"] sp := by
  obtain ⟨fd, F⟩ := T.def_ 32 (d := defD "_law_fraction" s_law_fraction)
  refine fnD_mk F (T.glo 53) sc_law_fraction (fun _ _ _ _ _ _ us hl => match us, hl with | [_, _], _ => rfl) len (n_law_fraction K sp_law_gcd) (fun cdv A outer s H E B W hr tk => ?_) hp
  exact (sb_cons (ss_set 2 sc_law_fraction.nd (ee_callF h_law_gcd hr rfl tk (ea_cons (ev 0) (ea_cons (ev 1) ea_nil)))) (sb_one (ss_ret (ee_tup (ea_cons (ee_op od_div (ev 0) (ev 2)) (ea_cons (ee_op od_div (ev 1) (ev 2)) ea_nil))))))
  -- callees: _law_gcd
/-! ### _law_fraction_text -/
abbrev N_law_fraction_text : List Str := ["_law_n", "_law_d"]
theorem sc_law_fraction_text : FnScope N_law_fraction_text ["_law_n", "_law_d"] (defScope s_law_fraction_text) := ⟨rfl, rfl, rfl, by decide +kernel, rfl, by decide +kernel, by decide +kernel⟩
def n_law_fraction_text (K : FragK) (sp_law_fraction : SpD) (W : DW) : DS := (dSeq (dAsg (dCallF sp_law_fraction W (dCons (dVar 0) (dCons (dVar 1) dNil))) (hSeq 2 (hCons (hName 0) (hCons (hName 1) hNil)))) (dRet (dIf (dTest (dOp (gEq id) (dVar 1) (dC (.int 1)))) (dCall gStr (dCons (dVar 0) dNil)) (dOp oAdd (dOp oAdd (dCall gStr (dCons (dVar 0) dNil)) (dC (.str "/"))) (dCall gStr (dCons (dVar 1) dNil))))))
theorem mk_law_fraction_text {P : Program} {w : World} {K : FragK} {mg : Str → Option Value} {base : Heap} {sp_law_fraction : SpD} (T : Told fa fn K mg) (h_law_fraction : FnD P w K mg base 3 "_law_fraction" ["_law_n", "_law_d"] sp_law_fraction) {sp : SpD} (len : ∀ ds m Q E, sp ds m Q E → ds.length = 2) (hp : ∀ ds m Q E, sp ds m Q E → n_law_fraction_text K sp_law_fraction (fun C ks vs _ m' => E C ks vs m') { nx := fun _ m' => Q .non m', rt := Q } (startD N_law_fraction_text ds) m) :
    FnD P w K mg base 4 "_law_fraction_text" ["_law_n", "_law_d"] sp := by
  obtain ⟨fd, F⟩ := T.def_ 33 (d := defD "_law_fraction_text" s_law_fraction_text)
  refine fnD_mk F (T.glo 54) sc_law_fraction_text (fun _ _ _ _ _ _ us hl => match us, hl with | [_, _], _ => rfl) len (n_law_fraction_text K sp_law_fraction) (fun cdv A outer s H E B W hr tk => ?_) hp
  exact (sb_cons (ss_asg (ee_callF h_law_fraction hr rfl tk (ea_cons (ev 0) (ea_cons (ev 1) ea_nil))) (eg_seq rfl (egs_cons (eg_name 0 sc_law_fraction_text.nd) (egs_cons (eg_name 1 sc_law_fraction_text.nd) egs_nil)))) (sb_one (ss_ret (ee_if (et_cmp (od_eq hr.units) (ev 1) ee_int) (ee_callT cd_str rfl (T.free 9) boot_str (ea_cons (ev 0) ea_nil)) (ee_op od_add (ee_op od_add (ee_callT cd_str rfl (T.free 9) boot_str (ea_cons (ev 0) ea_nil)) ee_str) (ee_callT cd_str rfl (T.free 9) boot_str (ea_cons (ev 1) ea_nil)))))))
  -- callees: _law_fraction
/-! ### _law_point_text -/
abbrev N_law_point_text : List Str := ["_law_place"]
theorem sc_law_point_text : FnScope N_law_point_text ["_law_place"] (defScope s_law_point_text) := ⟨rfl, rfl, rfl, by decide +kernel, rfl, by decide +kernel, by decide +kernel⟩
def n_law_point_text (K : FragK) (sp_law_fraction_text : SpD) (W : DW) : DS := (dRet (dOp oAdd (dOp oAdd (dCallF sp_law_fraction_text W (dCons (dOp oIx (dVar 0) (dC (.int 0))) (dCons (dOp oIx (dVar 0) (dC (.int 2))) dNil))) (dC (.str " "))) (dCallF sp_law_fraction_text W (dCons (dOp oIx (dVar 0) (dC (.int 1))) (dCons (dOp oIx (dVar 0) (dC (.int 2))) dNil)))))
theorem mk_law_point_text {P : Program} {w : World} {K : FragK} {mg : Str → Option Value} {base : Heap} {sp_law_fraction_text : SpD} (T : Told fa fn K mg) (h_law_fraction_text : FnD P w K mg base 4 "_law_fraction_text" ["_law_n", "_law_d"] sp_law_fraction_text) {sp : SpD} (len : ∀ ds m Q E, sp ds m Q E → ds.length = 1) (hp : ∀ ds m Q E, sp ds m Q E → n_law_point_text K sp_law_fraction_text (fun C ks vs _ m' => E C ks vs m') { nx := fun _ m' => Q .non m', rt := Q } (startD N_law_point_text ds) m) :
    FnD P w K mg base 5 "_law_point_text" ["_law_place"] sp := by
  obtain ⟨fd, F⟩ := T.def_ 34 (d := defD "_law_point_text" s_law_point_text)
  refine fnD_mk F (T.glo 55) sc_law_point_text (fun _ _ _ _ _ _ us hl => match us, hl with | [_], _ => rfl) len (n_law_point_text K sp_law_fraction_text) (fun cdv A outer s H E B W hr tk => ?_) hp
  exact (sb_one (ss_ret (ee_op od_add (ee_op od_add (ee_callF h_law_fraction_text hr rfl tk (ea_cons (ee_ix (ev 0) ee_int) (ea_cons (ee_ix (ev 0) ee_int) ea_nil))) ee_str) (ee_callF h_law_fraction_text hr rfl tk (ea_cons (ee_ix (ev 0) ee_int) (ea_cons (ee_ix (ev 0) ee_int) ea_nil))))))
  -- callees: _law_fraction_text
/-! ### _law_any_point -/
abbrev N_law_any_point : List Str := ["_law_pen_here", "_law_figures", "_law_d", "_law_x", "_law_y"]
theorem sc_law_any_point : FnScope N_law_any_point ["_law_pen_here", "_law_figures"] (defScope s_law_any_point) := ⟨rfl, rfl, rfl, by decide +kernel, rfl, by decide +kernel, by decide +kernel⟩
def n_law_any_point (K : FragK) (sp_law_draw sp_law_pick sp_law_great sp_law_point_form : SpD) (W : DW) : DS := (dSeq (dAsg (dCallF sp_law_pick W (dCons (dVar 0) (dCons (dLst (dCons (dC (.int 1)) (dCons (dC (.int 2)) (dCons (dC (.int 3)) (dCons (dC (.int 10)) (dCons (dC (.int 360)) (dCons (dC (.int 999983)) (dCons (dOp oPow (dC (.int 10)) (dC (.int 6))) (dCons (dOp oAdd (dC (.int 1)) (dCallF sp_law_draw W (dCons (dVar 0) (dCons (dOp oPow (dC (.int 10)) (dC (.int 6))) dNil)))) dNil))))))))) dNil))) (hName 2)) (dSeq (dAsg (dOp oMul (dCallF sp_law_great W (dCons (dVar 0) (dCons (dCallF sp_law_pick W (dCons (dVar 0) (dCons (dLst (dCons (dC (.int 1)) (dCons (dC (.int 6)) (dCons (dVar 1) dNil)))) dNil))) dNil))) (dCallF sp_law_pick W (dCons (dVar 0) (dCons (dLst (dCons (dC (.int 1)) (dCons (dNeg (dC (.int 1))) dNil))) dNil)))) (hName 3)) (dSeq (dAsg (dOp oMul (dCallF sp_law_great W (dCons (dVar 0) (dCons (dCallF sp_law_pick W (dCons (dVar 0) (dCons (dLst (dCons (dC (.int 1)) (dCons (dC (.int 6)) (dCons (dVar 1) dNil)))) dNil))) dNil))) (dCallF sp_law_pick W (dCons (dVar 0) (dCons (dLst (dCons (dC (.int 1)) (dCons (dNeg (dC (.int 1))) dNil))) dNil)))) (hName 4)) (dRet (dCallF sp_law_point_form W (dCons (dVar 3) (dCons (dVar 4) (dCons (dVar 2) dNil))))))))
theorem mk_law_any_point {P : Program} {w : World} {K : FragK} {mg : Str → Option Value} {base : Heap} {sp_law_draw sp_law_pick sp_law_great sp_law_point_form : SpD} (T : Told fa fn K mg) (h_law_draw : FnD P w K mg base 3 "_law_draw" ["_law_pen_here", "_law_many"] sp_law_draw) (h_law_pick : FnD P w K mg base 3 "_law_pick" ["_law_pen_here", "_law_options"] sp_law_pick) (h_law_great : FnD P w K mg base 3 "_law_great" ["_law_pen_here", "_law_figures"] sp_law_great) (h_law_point_form : FnD P w K mg base 3 "_law_point_form" ["_law_x", "_law_y", "_law_d"] sp_law_point_form) {sp : SpD} (len : ∀ ds m Q E, sp ds m Q E → ds.length = 2) (hp : ∀ ds m Q E, sp ds m Q E → n_law_any_point K sp_law_draw sp_law_pick sp_law_great sp_law_point_form (fun C ks vs _ m' => E C ks vs m') { nx := fun _ m' => Q .non m', rt := Q } (startD N_law_any_point ds) m) :
    FnD P w K mg base 4 "_law_any_point" ["_law_pen_here", "_law_figures"] sp := by
  obtain ⟨fd, F⟩ := T.def_ 35 (d := defD "_law_any_point" s_law_any_point)
  refine fnD_mk F (T.glo 56) sc_law_any_point (fun _ _ _ _ _ _ us hl => match us, hl with | [_, _], _ => rfl) len (n_law_any_point K sp_law_draw sp_law_pick sp_law_great sp_law_point_form) (fun cdv A outer s H E B W hr tk => ?_) hp
  exact (sb_cons (ss_set 2 sc_law_any_point.nd (ee_callF h_law_pick hr rfl tk (ea_cons (ev 0) (ea_cons (ee_lst (ea_cons ee_int (ea_cons ee_int (ea_cons ee_int (ea_cons ee_int (ea_cons ee_int (ea_cons ee_int (ea_cons (ee_op od_pow ee_int ee_int) (ea_cons (ee_op od_add ee_int (ee_callF h_law_draw hr rfl tk (ea_cons (ev 0) (ea_cons (ee_op od_pow ee_int ee_int) ea_nil)))) ea_nil))))))))) ea_nil)))) (sb_cons (ss_set 3 sc_law_any_point.nd (ee_op od_mul (ee_callF h_law_great hr rfl tk (ea_cons (ev 0) (ea_cons (ee_callF h_law_pick hr rfl tk (ea_cons (ev 0) (ea_cons (ee_lst (ea_cons ee_int (ea_cons ee_int (ea_cons (ev 1) ea_nil)))) ea_nil))) ea_nil))) (ee_callF h_law_pick hr rfl tk (ea_cons (ev 0) (ea_cons (ee_lst (ea_cons ee_int (ea_cons (ee_neg ee_int) ea_nil))) ea_nil))))) (sb_cons (ss_set 4 sc_law_any_point.nd (ee_op od_mul (ee_callF h_law_great hr rfl tk (ea_cons (ev 0) (ea_cons (ee_callF h_law_pick hr rfl tk (ea_cons (ev 0) (ea_cons (ee_lst (ea_cons ee_int (ea_cons ee_int (ea_cons (ev 1) ea_nil)))) ea_nil))) ea_nil))) (ee_callF h_law_pick hr rfl tk (ea_cons (ev 0) (ea_cons (ee_lst (ea_cons ee_int (ea_cons (ee_neg ee_int) ea_nil))) ea_nil))))) (sb_one (ss_ret (ee_callF h_law_point_form hr rfl tk (ea_cons (ev 3) (ea_cons (ev 4) (ea_cons (ev 2) ea_nil)))))))))
  -- callees: _law_draw _law_pick _law_great _law_point_form
/-! ### _law_parsed -/
abbrev N_law_parsed : List Str := ["_law_text", "_law_caught", "e"]
theorem sc_law_parsed : FnScope N_law_parsed ["_law_text"] (defScope s_law_parsed) := ⟨rfl, rfl, rfl, by decide +kernel, rfl, by decide +kernel, by decide +kernel⟩
def n_law_parsed (K : FragK) (sp_parse_point : SpD) (W : DW) : DS := (dSeq (dAsg (dC .non) (hName 1)) (dSeq (fun N δ m => (fun W' => (dRet (dLst (dCons (dCallF sp_parse_point W' (dCons (dVar 0) dNil)) dNil)))) (wKeepD K (.ref (He.ga K "ParseError")) 2 1 W N) N δ m) (dSeq (dIfS (dTru (dCall (gIsiV K) (dCons (dVar 1) (dCons (dTup (dCons (dC (.obj (He.ga K "CommandError"))) (dCons (dC (.obj (He.ga K "InvalidPoint"))) dNil))) dNil)))) (dRet (dC .non)) dNext) (dRet (dIf (dTru (dCall (gIsiV K) (dCons (dVar 1) (dCons (dC (.ty "ValueError")) dNil)))) (dExcF K "value" (dVar 1)) (dC .non))))))
theorem mk_law_parsed {P : Program} {w : World} {K : FragK} {mg : Str → Option Value} {base : Heap} {sp_parse_point : SpD} (T : Told fa fn K mg) (h_parse_point : FnD P w K mg base 7 "parse_point" ["text"] sp_parse_point) {sp : SpD} (len : ∀ ds m Q E, sp ds m Q E → ds.length = 1) (hp : ∀ ds m Q E, sp ds m Q E → n_law_parsed K sp_parse_point (fun C ks vs _ m' => E C ks vs m') { nx := fun _ m' => Q .non m', rt := Q } (startD N_law_parsed ds) m) :
    FnD P w K mg base 8 "_law_parsed" ["_law_text"] sp := by
  obtain ⟨fd, F⟩ := T.def_ 36 (d := defD "_law_parsed" s_law_parsed)
  refine fnD_mk F (T.glo 57) sc_law_parsed (fun _ _ _ _ _ _ us hl => match us, hl with | [_], _ => rfl) len (n_law_parsed K sp_parse_point) (fun cdv A outer s H E B W hr tk => ?_) hp
  exact (sb_cons (ss_set 1 sc_law_parsed.nd ee_non) (sb_cons (ss_try_keep (nb := fun W' => (dRet (dLst (dCons (dCallF sp_parse_point W' (dCons (dVar 0) dNil)) dNil)))) 2 1 sc_law_parsed.nd ⟨rfl, by decide, .inl (T.glo 17)⟩ tk (fun _ W' _ _ tk' po' => (sb_one (ss_ret (ee_lst (ea_cons (ee_callF h_parse_point hr rfl tk' (ea_cons (ev 0) ea_nil)) ea_nil)))))) (sb_cons (ss_if (et_tru (ee_callB cd_isiV rfl (T.free 1) boot_isinstance (ea_cons (ev 1) (ea_cons (ee_tup (ea_cons (ee_gobj rfl (T.glo 19)) (ea_cons (ee_gobj rfl (T.glo 18)) ea_nil))) ea_nil)))) (sb_one (ss_ret ee_non)) sb_nil) (sb_one (ss_ret (ee_if (et_tru (ee_callB cd_isiV rfl (T.free 1) boot_isinstance (ea_cons (ev 1) (ea_cons (ee_ty rfl (T.free 20) boot_ValueError) ea_nil)))) (ee_excF (ev 1)) ee_non))))))
  -- callees: parse_point
/-! ### law -/
abbrev N_law : List Str := ["_law_script", "_law_pen_here", "_law_texts", "_law_turn", "_law_place", "_law_text", "_law_k", "_law_table_here", "_law_number", "_law_one", "_law_other"]
theorem sc_law : FnScope N_law ["_law_script"] (defScope s_law) := ⟨rfl, rfl, rfl, by decide +kernel, rfl, by decide +kernel, by decide +kernel⟩
def n_law (K : FragK) (sp_law_pen sp_law_pick sp_law_any_point sp_law_point_text sp_format_point sp_law_parsed sp_law_is_point sp_law_great sp_law_table sp_format_map sp_parse_map sp_parse_point : SpD) (W : DW) : DS := (dSeq (dAsg (dCallF sp_law_pen W (dCons (dVar 0) dNil)) (hName 1)) (dSeq (dAsg (dLstM dNil) (hName 2)) (dSeq (dFor (iR1 (dCons (dOp oAdd (dC (.int 4)) (dCall gMin (dCons (dC (.int 8)) (dCons (dCall gLen (dCons (dVar 0) dNil)) dNil)))) dNil)) (hName 3) (dSeq (dAsg (dCallF sp_law_any_point W (dCons (dVar 1) (dCons (dCallF sp_law_pick W (dCons (dVar 1) (dCons (dLst (dCons (dC (.int 20)) (dCons (dC (.int 40)) (dCons (dC (.int 46)) dNil)))) dNil))) dNil))) (hName 4)) (dSeq (dAsg (dCallF sp_law_point_text W (dCons (dVar 4) dNil)) (hName 5)) (dSeq (dIfS (dOr (dTest (dOp (gEq not) (dCallF sp_format_point W (dCons (dVar 4) dNil)) (dVar 5))) (dTest (dOp (gEq not) (dCall gRepr (dCons (dCallF sp_law_parsed W (dCons (dVar 5) dNil)) dNil)) (dCall gRepr (dCons (dIf (dTru (dCallF sp_law_is_point W (dCons (dVar 4) dNil))) (dLst (dCons (dVar 4) dNil)) (dVar 5)) dNil))))) (dRet (dC (.bl false))) dNext) (dSeq (dDrop (dApp (dVar 2) (dTup (dCons (dVar 4) (dCons (dVar 5) dNil))))) (dSeq (dAsg (dOp oMul (dCallF sp_law_great W (dCons (dVar 1) (dCons (dC (.int 40)) dNil))) (dCallF sp_law_pick W (dCons (dVar 1) (dCons (dLst (dCons (dC (.int 1)) (dCons (dNeg (dC (.int 1))) dNil))) dNil)))) (hName 6)) (dSeq (dAsg (dCallF sp_law_pick W (dCons (dVar 1) (dCons (dLst (dCons (dCallF sp_law_table W (dCons (dVar 1) (dCons (dOp oPow (dC (.int 10)) (dC (.int 9))) dNil))) (dCons (dTup (dCons (dC (.int 1)) (dCons (dVar 6) (dCons (dC (.int 0)) (dCons (dC (.int 1)) (dCons (dC (.int 7)) (dCons (dVar 6) dNil))))))) (dCons (dTup (dCons (dNeg (dC (.int 1))) (dCons (dC (.int 0)) (dCons (dVar 6) (dCons (dC (.int 1)) (dCons (dVar 6) (dCons (dNeg (dC (.int 7))) dNil))))))) dNil)))) dNil))) (hName 7)) (dSeq (dAsg (dStrM gJoin (dC (.str " ")) (dLc (iSeq (dVar 7)) (hName 8) dYes (dCall gStr (dCons (dVar 8) dNil)) [8])) (hName 5)) (dIfS (dOr (dTest (dOp (gEq not) (dCallF sp_format_map W (dCons (dVar 7) dNil)) (dVar 5))) (dTest (dOp (gEq not) (dCall gRepr (dCons (dCallF sp_parse_map W (dCons (dVar 5) dNil)) dNil)) (dCall gRepr (dCons (dVar 7) dNil))))) (dRet (dC (.bl false))) dNext))))))))) (dFz 2 (dSeq (dFor (iSeq (dVar 2)) (hSeq 2 (hCons (hName 4) (hCons (hName 5) hNil))) (dIfS (dTest (dOp (gEq not) (dLc (iSeq (dVar 2)) (hSeq 2 (hCons (hName 9) (hCons (hName 10) hNil))) (dTest (dOp (gEq not) (dOp (gEq id) (dVar 9) (dVar 4)) (dOp (gEq id) (dVar 10) (dVar 5)))) (dVar 9) [9, 10]) (dLst dNil))) (dRet (dC (.bl false))) dNext)) (dRet (dAndV (dOp (gEq id) (dCallF sp_format_point W (dCons (dTup (dCons (dC (.int 0)) (dCons (dC (.int 0)) (dCons (dC (.int 1)) dNil)))) dNil)) (dC (.str "0 0"))) (dOp (gEq id) (dCallF sp_parse_point W (dCons (dC (.str "-1/2 0")) dNil)) (dTup (dCons (dNeg (dC (.int 1))) (dCons (dC (.int 0)) (dCons (dC (.int 2)) dNil))))))))))))
theorem lb_law {P : Program} {w : World} {K : FragK} {mg : Str → Option Value} {base : Heap} {sp_law_pen sp_law_pick sp_law_any_point sp_law_point_text sp_format_point sp_law_parsed sp_law_is_point sp_law_great sp_law_table sp_format_map sp_parse_map sp_parse_point : SpD} (T : Told fa fn K mg) (h_law_pen : FnD P w K mg base 8 "_law_pen" ["_law_script"] sp_law_pen) (h_law_pick : FnD P w K mg base 8 "_law_pick" ["_law_pen_here", "_law_options"] sp_law_pick) (h_law_any_point : FnD P w K mg base 8 "_law_any_point" ["_law_pen_here", "_law_figures"] sp_law_any_point) (h_law_point_text : FnD P w K mg base 8 "_law_point_text" ["_law_place"] sp_law_point_text) (h_format_point : FnD P w K mg base 8 "format_point" ["point"] sp_format_point) (h_law_parsed : FnD P w K mg base 8 "_law_parsed" ["_law_text"] sp_law_parsed) (h_law_is_point : FnD P w K mg base 8 "_law_is_point" ["_law_thing"] sp_law_is_point) (h_law_great : FnD P w K mg base 8 "_law_great" ["_law_pen_here", "_law_figures"] sp_law_great) (h_law_table : FnD P w K mg base 8 "_law_table" ["_law_pen_here", "_law_far"] sp_law_table) (h_format_map : FnD P w K mg base 8 "format_map" ["mapping"] sp_format_map) (h_parse_map : FnD P w K mg base 8 "parse_map" ["text"] sp_parse_map) (h_parse_point : FnD P w K mg base 8 "parse_point" ["text"] sp_parse_point) {ok : List Int → Prop} (hp : ∀ ns : List Int, ok ns → n_law K sp_law_pen sp_law_pick sp_law_any_point sp_law_point_text sp_format_point sp_law_parsed sp_law_is_point sp_law_great sp_law_table sp_format_map sp_parse_map sp_parse_point W0 { nx := fun _ _ => False, rt := fun d _ => d = .bl true } (startD N_law [.scr (ns.map D.int)]) fun _ => none) {fa : Addr} :
    LawBody P w K mg base 8 fa "_law_script" "law" (defBody s_law) (defScope s_law) N_law ok := by
  refine ⟨_, fun cdv outer s H E B hr hg => ?_, hp⟩
  have po : PassesOwn (model (cxOf (L2.CX P w) P w K mg base N_law "law" (defScope s_law) fa cdv callerA outer s H E).prog w) _ _ (cxOf (L2.CX P w) P w K mg base N_law "law" (defScope s_law) fa cdv callerA outer s H E).xe := passes_of rfl
  have tk : TakesD (cxOf (L2.CX P w) P w K mg base N_law "law" (defScope s_law) fa cdv callerA outer s H E) B W0 := takesD0
  exact (sb_cons (ss_set 1 sc_law.nd (ee_callF h_law_pen hr rfl tk (ea_cons (ev 0) ea_nil))) (sb_cons (ss_set 2 sc_law.nd (ee_lstM ea_nil)) (sb_cons (ss_for po rfl (ii_r1 rfl (T.free 15) (ea_cons (ee_op od_add ee_int (ee_callB (cd_min rfl) rfl (T.free 21) boot_min (ea_cons ee_int (ea_cons (ee_callB cd_len rfl (T.free 5) boot_len (ea_cons (ev 0) ea_nil)) ea_nil)))) ea_nil)) (eg_name 3 sc_law.nd) (sb_cons (ss_set 4 sc_law.nd (ee_callF h_law_any_point hr rfl tk (ea_cons (ev 1) (ea_cons (ee_callF h_law_pick hr rfl tk (ea_cons (ev 1) (ea_cons (ee_lst (ea_cons ee_int (ea_cons ee_int (ea_cons ee_int ea_nil)))) ea_nil))) ea_nil)))) (sb_cons (ss_set 5 sc_law.nd (ee_callF h_law_point_text hr rfl tk (ea_cons (ev 4) ea_nil))) (sb_cons (ss_if (EW.et (ew_or (et_cmp (od_ne hr.units) (ee_callF h_format_point hr rfl tk (ea_cons (ev 4) ea_nil)) (ev 5)) (ew_or1 (et_cmp (od_ne hr.units) (ee_callB (cd_repr hg hr.units) rfl (T.free 22) boot_repr (ea_cons (ee_callF h_law_parsed hr rfl tk (ea_cons (ev 5) ea_nil)) ea_nil)) (ee_callB (cd_repr hg hr.units) rfl (T.free 22) boot_repr (ea_cons (ee_if (et_tru (ee_callF h_law_is_point hr rfl tk (ea_cons (ev 4) ea_nil))) (ee_lst (ea_cons (ev 4) ea_nil)) (ev 5)) ea_nil)))))) (sb_one (ss_ret ee_bl)) sb_nil) (sb_cons (ss_drop (ee_append (ev 2) (ee_tup (ea_cons (ev 4) (ea_cons (ev 5) ea_nil))))) (sb_cons (ss_set 6 sc_law.nd (ee_op od_mul (ee_callF h_law_great hr rfl tk (ea_cons (ev 1) (ea_cons ee_int ea_nil))) (ee_callF h_law_pick hr rfl tk (ea_cons (ev 1) (ea_cons (ee_lst (ea_cons ee_int (ea_cons (ee_neg ee_int) ea_nil))) ea_nil))))) (sb_cons (ss_set 7 sc_law.nd (ee_callF h_law_pick hr rfl tk (ea_cons (ev 1) (ea_cons (ee_lst (ea_cons (ee_callF h_law_table hr rfl tk (ea_cons (ev 1) (ea_cons (ee_op od_pow ee_int ee_int) ea_nil))) (ea_cons (ee_tup (ea_cons ee_int (ea_cons (ev 6) (ea_cons ee_int (ea_cons ee_int (ea_cons ee_int (ea_cons (ev 6) ea_nil))))))) (ea_cons (ee_tup (ea_cons (ee_neg ee_int) (ea_cons ee_int (ea_cons (ev 6) (ea_cons ee_int (ea_cons (ev 6) (ea_cons (ee_neg ee_int) ea_nil))))))) ea_nil)))) ea_nil)))) (sb_cons (ss_set 5 sc_law.nd (ee_join ee_str (ee_lc (own := [("_law_number", 8)]) rfl sc_law.nd (ii_seq (ev 7)) (blkOk_by (N := N_law) (sc := defScope s_law) (by decide +kernel)) (fun _ _ _ _ _ => (egv_name 8 sc_law.nd)) (fun _ _ _ _ _ => ei_nil) (fun _ _ _ _ _ => (ee_callT cd_str rfl (T.free 9) boot_str (ea_cons (ev 8) ea_nil)))))) (sb_one (ss_if (EW.et (ew_or (et_cmp (od_ne hr.units) (ee_callF h_format_map hr rfl tk (ea_cons (ev 7) ea_nil)) (ev 5)) (ew_or1 (et_cmp (od_ne hr.units) (ee_callB (cd_repr hg hr.units) rfl (T.free 22) boot_repr (ea_cons (ee_callF h_parse_map hr rfl tk (ea_cons (ev 5) ea_nil)) ea_nil)) (ee_callB (cd_repr hg hr.units) rfl (T.free 22) boot_repr (ea_cons (ev 7) ea_nil)))))) (sb_one (ss_ret ee_bl)) sb_nil)))))))))) (sb_fz 2 (sb_cons (ss_for po rfl (ii_seq (ev 2)) (eg_seq rfl (egs_cons (eg_name 4 sc_law.nd) (egs_cons (eg_name 5 sc_law.nd) egs_nil))) (sb_one (ss_if (et_cmp (od_ne hr.units) (ee_lc (own := [("_law_one", 9), ("_law_other", 10)]) rfl sc_law.nd (ii_seq (ev 2)) (blkOk_by (N := N_law) (sc := defScope s_law) (by decide +kernel)) (fun _ _ _ _ _ => (egv_seq rfl (egvs_cons (egv_name 9 sc_law.nd) (egvs_cons (egv_name 10 sc_law.nd) egvs_nil)))) (fun _ _ _ _ _ => (ei_one (et_cmp (od_ne hr.units) (ee_cmp (od_eq hr.units) (ev 9) (ev 4)) (ee_cmp (od_eq hr.units) (ev 10) (ev 5))))) (fun _ _ _ _ _ => (ev 9))) (ee_lst ea_nil)) (sb_one (ss_ret ee_bl)) sb_nil))) (sb_one (ss_ret (ee_and (ee_cmp (od_eq hr.units) (ee_callF h_format_point hr rfl tk (ea_cons (ee_tup (ea_cons ee_int (ea_cons ee_int (ea_cons ee_int ea_nil)))) ea_nil)) ee_str) (ee_one (ee_cmp (od_eq hr.units) (ee_callF h_parse_point hr rfl tk (ea_cons ee_str ea_nil)) (ee_tup (ea_cons (ee_neg ee_int) (ea_cons ee_int (ea_cons ee_int ea_nil))))))))))))))
  -- callees: _law_pen _law_pick _law_any_point _law_point_text format_point _law_parsed _law_is_point _law_great _law_table format_map parse_map parse_point
def exl : List (FragK → Bool) := [fun K => excB K (He.ga K "ParseError") "value", fun K => decide (PySem.W.kitOne K (.ref (He.ga K "ParseError")) (.ref (He.ga K "CommandError")) = some false), fun K => decide (PySem.W.kitOne K (.ref (He.ga K "ParseError")) (.ref (He.ga K "InvalidPoint")) = some false), fun K => decide (PySem.W.kitOne K (.ref (He.ga K "ParseError")) (.type "ValueError") = some true), fun K => decide (PySem.W.exmOne K (.ref (He.ga K "ParseError")) (.ref (He.ga K "ParseError")) = some true)]
def exk (K : FragK) : Bool := exl.all fun f => f K
theorem ex_at {K : FragK} (h : exk K = true) (i : Nat) {f : FragK → Bool} (e : exl[i]? = some f) : f K = true := List.all_eq_true.mp h f (List.mem_of_getElem? e)
theorem xs_ParseError {K : FragK} (h : exk K = true) : ExcS K (He.ga K "ParseError") "value" := excB_ok (ex_at h 0 rfl)
theorem xc_ParseError : FnScope ["self", "value"] ["self", "value"] (defScope si_ParseError) := ⟨rfl, rfl, rfl, by decide +kernel, rfl, by decide +kernel, by decide +kernel⟩
theorem xt_ParseError {P : Program} {w : World} {K : FragK} {mg : Str → Option Value} {base : Heap} (T : Told fa fn K mg) (h : exk K = true) : ExcT P w K mg base "ParseError" (He.ga K "ParseError") "value" := by
  obtain ⟨fd, F⟩ := T.def_ 38 (d := defM "ParseError" "__init__" "ParseError.__init__" si_ParseError)
  have S := xs_ParseError h
  exact ⟨(T.glo 17), S.oex, S.no, _, fd, ["self", "value"], S.ini, S.tin, ok_ini F xc_ParseError rfl rfl (by decide) (by decide) (by decide) (by decide), F.bindsN fun _ _ _ _ _ _ us hl => match us, hl with | [_, _], _ => rfl⟩
theorem kit_ParseError_CommandError {K : FragK} (h : exk K = true) : PySem.W.kitOne K (.ref (He.ga K "ParseError")) (.ref (He.ga K "CommandError")) = some false := of_decide_eq_true (ex_at h 1 rfl)
theorem kit_ParseError_InvalidPoint {K : FragK} (h : exk K = true) : PySem.W.kitOne K (.ref (He.ga K "ParseError")) (.ref (He.ga K "InvalidPoint")) = some false := of_decide_eq_true (ex_at h 2 rfl)
theorem kit_ParseError_ValueError {K : FragK} (h : exk K = true) : PySem.W.kitOne K (.ref (He.ga K "ParseError")) (.type "ValueError") = some true := of_decide_eq_true (ex_at h 3 rfl)
theorem exm_ParseError_ParseError {K : FragK} (h : exk K = true) : PySem.W.exmOne K (.ref (He.ga K "ParseError")) (.ref (He.ga K "ParseError")) = some true := of_decide_eq_true (ex_at h 4 rfl)
end LW

namespace LW
open PySem PySem.Spec PyProof.Rows L2 DL
def sp_is_int : SpD := fun ds m Q E => ∃ d, ds = [d] ∧ (tyN d).isSome ∧ Q (.bl (isIntD d)) m
theorem hp_is_int {K : FragK} : ∀ ds m Q E, sp_is_int ds m Q E → n_is_int K (fun C ks vs _ m' => E C ks vs m') { nx := fun _ m' => Q .non m', rt := Q } (startD N_is_int ds) m := by
  rintro ds m Q E ⟨d, rfl, ht, hq⟩
  cases d <;> simp [tyN, isIntD] at ht hq <;> simp [n_is_int, N_is_int, tyN, tyNames, isTy] <;> exact hq
def sp_is_int_in : SpD := fun ds m Q E => ∃ (d : D) (lo hi : Int), ds = [d, .int lo, .int hi] ∧ (tyN d).isSome ∧ Q (.bl (inRg lo hi d)) m
theorem hp_is_int_in {K : FragK} : ∀ ds m Q E, sp_is_int_in ds m Q E → n_is_int_in K sp_is_int (fun C ks vs _ m' => E C ks vs m') { nx := fun _ m' => Q .non m', rt := Q } (startD N_is_int_in ds) m := by
  rintro ds m Q E ⟨d, lo, hi, rfl, ht, hq⟩
  cases d <;> simp [tyN, inRg] at ht hq <;> simp [n_is_int_in, N_is_int_in, sp_is_int, tyN, isIntD] <;> try exact hq
  rename_i i
  by_cases h : lo ≤ i <;> simp [h] at hq ⊢ <;> exact hq
def sp_gcd : SpD := fun ds m Q E => ∃ a b : Int, ds = [.int a, .int b] ∧ Q (.int (Int.gcd a b)) m
theorem hp_gcd {K : FragK} : ∀ ds m Q E, sp_gcd ds m Q E → n_gcd K (fun C ks vs _ m' => E C ks vs m') { nx := fun _ m' => Q .non m', rt := Q } (startD N_gcd ds) m := by
  rintro ds m Q E ⟨a, b, rfl, hq⟩
  simp [n_gcd, N_gcd]
  refine ⟨fun y δ m' => ∃ x : Nat, δ = [some (.int x), some (.int y)] ∧ m' = m ∧ Nat.gcd x y = Int.gcd a b, ⟨b.natAbs, a.natAbs, rfl, rfl, rfl⟩, ?_⟩
  rintro y δ m' ⟨x, rfl, rfl, hg⟩
  simp
  by_cases hy : 0 < y
  · simp [hy]
    refine ⟨fun δ' m2 => δ' = [some (.int y), some (.int ((x % y : Nat) : Int))] ∧ m2 = m', ?_, ?_⟩
    · rintro δ' m2 ⟨rfl, rfl⟩
      exact ⟨x % y, Nat.mod_lt _ hy, y, rfl, rfl, by rw [← hg, Nat.gcd_comm x y, Nat.gcd_rec y x, Nat.gcd_comm]⟩
    · refine ⟨by omega, ?_, rfl⟩
      rw [fmod_pos (by omega)]
      simp
  · have : y = 0 := by omega
    subst this
    simp
    simp at hg
    rw [hg]
    exact hq

def sp_lcm : SpD := fun ds m Q E => ∃ ns : List Nat, ds = [.lst (ns.map fun n : Nat => D.int (n : Int))] ∧ ns.length ≤ 4 ∧ (∀ n ∈ ns, 0 < n ∧ n < 2 ^ 2200) ∧ Q (.int (lcmF ns)) m
theorem hp_lcm {K : FragK} : ∀ ds m Q E, sp_lcm ds m Q E → n_lcm K sp_gcd (fun C ks vs _ m' => E C ks vs m') { nx := fun _ m' => Q .non m', rt := Q } (startD N_lcm ds) m := by
  rintro ds m Q E ⟨ns, rfl, hl, hn, hq⟩
  simp [n_lcm, N_lcm]
  refine for_list (xs := ns.map fun n : Nat => D.int (n : Int)) (fun R h => by simpa using h) (fun i δ m' => m' = m ∧ ∃ o, δ = [some (.lst (ns.map fun n : Nat => D.int (n : Int))), some (.int (lcmF (ns.take i))), o] ∧ 0 < lcmF (ns.take i) ∧ lcmF (ns.take i) ≤ 2 ^ (2200 * i)) ⟨rfl, none, rfl, by simp [lcmF], by simp [lcmF]⟩ ?_ ?_
  · rintro i x δ' m' ex ⟨rfl, o, rfl, h0, h1⟩
    rw [List.getElem?_map] at ex
    cases e : ns[i]? with
    | none => rw [e] at ex; cases ex
    | some n =>
      rw [e] at ex
      cases ex
      have hi : i < ns.length := (List.getElem?_eq_some_iff.mp e).1
      obtain ⟨n0, n1⟩ := hn n (List.mem_of_getElem? e)
      have et : ns.take (i + 1) = ns.take i ++ [n] := by rw [List.take_add_one, e]; rfl
      have el : lcmF (ns.take (i + 1)) = lcmF (ns.take i) / Nat.gcd (lcmF (ns.take i)) n * n := by rw [et]; simp [lcmF, List.foldl_append]
      have hg : 0 < Nat.gcd (lcmF (ns.take i)) n := Nat.gcd_pos_of_pos_left _ h0
      have hgl : Nat.gcd (lcmF (ns.take i)) n ≤ n := Nat.gcd_le_right _ n0
      have hd : lcmF (ns.take i) / Nat.gcd (lcmF (ns.take i)) n ≤ lcmF (ns.take i) := Nat.div_le_self _ _
      have hp : 2 ^ (2200 * i) ≤ 2 ^ 6600 := Nat.pow_le_pow_right (by decide) (by omega)
      simp [sp_gcd]
      have hd2 : lcmF (ns.take i) / Nat.gcd (lcmF (ns.take i)) n < 2 ^ 6601 := Nat.lt_of_le_of_lt (Nat.le_trans hd (Nat.le_trans h1 hp)) (Nat.pow_lt_pow_right (by decide) (by decide))
      have hf : ((lcmF (ns.take i) : Nat) : Int).fdiv ((Nat.gcd (lcmF (ns.take i)) n : Nat) : Int) = ((lcmF (ns.take i) / Nat.gcd (lcmF (ns.take i)) n : Nat) : Int) := by
        rw [fdiv_pos (by omega)]
        simp
      have hmu : MulOk ((lcmF (ns.take i) / Nat.gcd (lcmF (ns.take i)) n : Nat) : Int) n := mulW (n := 6601) (by rw [Int.natAbs_natCast]; exact hd2) (by rw [Int.natAbs_natCast]; exact Nat.lt_of_lt_of_le n1 (Nat.pow_le_pow_right (by decide) (by decide))) (by decide)
      have h2 : 0 < lcmF (ns.take (i + 1)) := by
        rw [el]
        exact Nat.mul_pos (Nat.div_pos (Nat.gcd_le_left _ h0) hg) n0
      have h3 : lcmF (ns.take (i + 1)) ≤ 2 ^ (2200 * (i + 1)) := by
        rw [el, show 2200 * (i + 1) = 2200 * i + 2200 by omega, Nat.pow_add]
        exact Nat.mul_le_mul (Nat.le_trans hd h1) (Nat.le_of_lt n1)
      refine ⟨_, _, ⟨rfl, rfl⟩, divW (n := 2200) (Int.ofNat_lt.mpr hg) (by simpa using Nat.lt_of_le_of_lt hgl n1) (by decide), ?_⟩
      rw [show ((Int.gcd ((lcmF (ns.take i) : Nat) : Int) (n : Int) : Nat) : Int) = ((Nat.gcd (lcmF (ns.take i)) n : Nat) : Int) from rfl, hf]
      refine ⟨hmu, ?_, h2, h3⟩
      rw [el]
      simp
  · rintro δ' m' ⟨rfl, o, rfl, h0, h1⟩
    simp at h0 h1 ⊢
    exact hq
def sp_reduced : SpD := fun ds m Q E => ∃ n d : Int, ds = [.int n, .int d] ∧ 0 < d ∧ d < 2 ^ 6600 ∧ Q (.tup [.int (n / Int.gcd n d), .int (d / Int.gcd n d)]) m
theorem gcdB {n d : Int} {k : Nat} (h : 0 < d) (h2 : d < 2 ^ k) : 0 < Int.gcd n d ∧ (Int.gcd n d) < 2 ^ k := by
  have h0 : 0 < Int.gcd n d := Int.gcd_pos_of_ne_zero_right _ (by omega)
  have h1 : Int.gcd n d ≤ d.natAbs := Nat.le_of_dvd (by omega) (Int.gcd_dvd_natAbs_right n d)
  refine ⟨h0, ?_⟩
  have h3 : d.natAbs < 2 ^ k := by
    have e : ((d.natAbs : Nat) : Int) < ((2 ^ k : Nat) : Int) := by
      rw [Int.natCast_pow]
      have : ((d.natAbs : Nat) : Int) = d := by omega
      rw [this]
      exact h2
    exact Int.ofNat_lt.mp e
  omega
theorem hp_reduced {K : FragK} : ∀ ds m Q E, sp_reduced ds m Q E → n_reduced K sp_gcd (fun C ks vs _ m' => E C ks vs m') { nx := fun _ m' => Q .non m', rt := Q } (startD N_reduced ds) m := by
  rintro ds m Q E ⟨n, d, rfl, h0, h1, hq⟩
  obtain ⟨g0, g1⟩ := gcdB (n := n) h0 h1
  have dv : ∀ x, DivOk x ((Int.gcd n d : Nat) : Int) := fun x => divW (n := 6600) (by omega) (by simpa using g1) (by decide)
  simp [n_reduced, N_reduced, sp_gcd]
  refine ⟨_, _, ⟨rfl, rfl⟩, dv _, dv _, litL (by decide), ?_⟩
  rw [fdiv_pos (by omega), fdiv_pos (by omega)]
  exact hq
def sp_cross : SpD := fun ds m Q E => ∃ a b c d : Int, ds = [.tup [.int a, .int b], .tup [.int c, .int d]] ∧ (a.natAbs < 2 ^ 100000 ∧ b.natAbs < 2 ^ 100000 ∧ c.natAbs < 2 ^ 100000 ∧ d.natAbs < 2 ^ 100000) ∧ Q (.int (a * d - b * c)) m
theorem hp_cross {K : FragK} : ∀ ds m Q E, sp_cross ds m Q E → n_cross K (fun C ks vs _ m' => E C ks vs m') { nx := fun _ m' => Q .non m', rt := Q } (startD N_cross ds) m := by
  rintro ds m Q E ⟨a, b, c, d, rfl, ⟨h1, h2, h3, h4⟩, hq⟩
  simp [n_cross, N_cross, L2.atI, L2.ixN]
  exact ⟨mulW h1 h4 (by decide), mulW h2 h3 (by decide), hq⟩

theorem plain_tup {xs : List D} (h : Plain (.tup xs)) : ∀ x ∈ xs, (tyN x).isSome = true := h.2
def sp_is_point_shape : SpD := fun ds m Q E => ∃ d, ds = [d] ∧ Plain d ∧ (∀ xs, d = .tup xs → xs.length < sizeLine) ∧ Q (.bl (ptShape d)) m
theorem hp_is_point_shape {K : FragK} : ∀ ds m Q E, sp_is_point_shape ds m Q E → n_is_point_shape K sp_is_int sp_gcd (fun C ks vs _ m' => E C ks vs m') { nx := fun _ m' => Q .non m', rt := Q } (startD N_is_point_shape ds) m := by
  rintro ds m Q E ⟨d, rfl, ⟨ht, hp⟩, hl, hq⟩
  have key : ∀ xs : List D, d = .tup xs → n_is_point_shape K sp_is_int sp_gcd (fun C ks vs _ m' => E C ks vs m') { nx := fun _ m' => Q .non m', rt := Q } (startD N_is_point_shape [d]) m := by
    rintro xs rfl
    simp [n_is_point_shape, N_is_point_shape, tyN, tyNames, isTy]
    by_cases h3 : xs.length = 3
    · simp [h3]
      refine lc_map (xs := xs) (fun x => .bl (isIntD x)) (fun R h => by simpa using h) (hl _ rfl) (fun p x R hn hx r => ?_) ?_
      · simp [sp_is_int]
        exact ⟨hp x hx, r⟩
      · match xs, h3 with
        | [a, b, c], _ =>
          refine ⟨[isIntD a, isIntD b, isIntD c], rfl, ?_⟩
          cases a <;> cases b <;> cases c <;> simp [isIntD, ptShape] at hq ⊢ <;> try exact hq
          rename_i x y z hh
          by_cases hz : 1 ≤ z
          · simp [L2.atI, L2.ixN, hz, sp_gcd] at hq ⊢
            refine ⟨_, _, ⟨rfl, rfl⟩, _, _, ⟨rfl, rfl⟩, ?_⟩
            rw [gcd3]
            exact hq
          · simp [L2.atI, L2.ixN, hz] at hq ⊢
            exact hq
    · have h3' : ((xs.length : Int) == 3) = false := by simp; omega
      simp [h3']
      have e : ptShape (.tup xs) = false := by
        unfold ptShape
        split
        · rename_i h
          cases h
          exact absurd rfl h3
        · rfl
      rw [e] at hq
      exact hq
  by_cases isT : ∃ xs, d = .tup xs
  · obtain ⟨xs, rfl⟩ := isT
    exact key _ rfl
  · have e : ptShape d = false := by
      unfold ptShape
      split
      · exact absurd ⟨_, rfl⟩ isT
      · rfl
    rw [e] at hq
    cases d <;> simp [tyN] at ht <;> simp [n_is_point_shape, N_is_point_shape, tyN, tyNames, isTy] <;> try exact hq
    exact absurd ⟨_, rfl⟩ isT
end LW

namespace LW
open PySem PySem.Spec PyProof.Rows L2 DL
def sp_is_point : SpD := fun ds m Q E => ∃ d, ds = [d] ∧ Plain d ∧ (∀ xs, d = .tup xs → xs.length < sizeLine) ∧ Q (.bl (isPt d)) m
theorem hp_is_point {K : FragK} : ∀ ds m Q E, sp_is_point ds m Q E → n_is_point K sp_is_point_shape sp_is_int_in (fun C ks vs _ m' => E C ks vs m') { nx := fun _ m' => Q .non m', rt := Q } (startD N_is_point ds) m := by
  rintro ds m Q E ⟨d, rfl, hp, hl, hq⟩
  simp [n_is_point, N_is_point, sp_is_point_shape]
  refine ⟨hp, hl, ?_⟩
  by_cases hs : ptShape d = true
  · unfold ptShape at hs
    split at hs
    · rename_i x y z
      simp at hs
      simp [ptShape, hs, L2.atI, L2.ixN, isPt] at hq ⊢
      by_cases hz : z ≤ 1000000
      · have hz' : ¬ 1000000 < z := by omega
        simp [hz, hz'] at hq ⊢
        refine And.intro (mulW (n := 200) (by decide) (by have : z.natAbs ≤ 1000000 := by omega
                                                          exact Nat.lt_of_le_of_lt this (by decide)) (by decide)) ?_
        refine lc_map (xs := [.int x, .int y]) (fun d => .bl (inRg (-(10 ^ 40 * z)) (10 ^ 40 * z) d)) (fun R h => by simpa [DL.cutD, HT.sIx] using h) (litT (by show 2 ≤ 1000000; decide)) (fun p d R hn hx r => ?_) ?_
        · simp
          refine ⟨d, _, _, rfl, ?_, by simpa using r⟩
          simp at hx
          rcases hx with rfl | rfl <;> rfl
        · exact ⟨[_, _], rfl, by simpa [inRg] using hq⟩
      · have hz' : 1000000 < z := by omega
        simp [hz, hz'] at hq ⊢
        exact hq
    · cases hs
  · simp at hs
    have e : isPt d = false := by
      unfold isPt
      split
      · simp [ptShape] at hs
        simp
        intro h1 h2
        exact absurd h2 (hs h1)
      · rfl
    rw [e] at hq
    simp [hs]
    exact hq
def sp_determinant : SpD := fun ds m Q E => ∃ a b c d e f : Int, ds = [.tup [.int a, .int b, .int c, .int d, .int e, .int f]] ∧ (a.natAbs < 2 ^ 100000 ∧ b.natAbs < 2 ^ 100000 ∧ c.natAbs < 2 ^ 100000 ∧ d.natAbs < 2 ^ 100000) ∧ Q (.int (a * d - b * c)) m
theorem hp_determinant {K : FragK} : ∀ ds m Q E, sp_determinant ds m Q E → n_determinant K sp_cross (fun C ks vs _ m' => E C ks vs m') { nx := fun _ m' => Q .non m', rt := Q } (startD N_determinant ds) m := by
  rintro ds m Q E ⟨a, b, c, d, e, f, rfl, h, hq⟩
  simp [n_determinant, N_determinant, DL.cutD, HT.sIx]
  exact ⟨a, b, c, d, rfl, h, hq⟩
def isMapD : D → Bool
  | .tup [.int a, .int b, .int c, .int d, .int e, .int f] => 1 == a * d - b * c || -1 == a * d - b * c
  | _ => false
def sp_is_map : SpD := fun ds m Q E => ∃ d, ds = [d] ∧ Plain d ∧ (∀ xs, d = .tup xs → xs.length < sizeLine ∧ ∀ i, .int i ∈ xs → i.natAbs < 2 ^ 100000) ∧ Q (.bl (isMapD d)) m
theorem hp_is_map {K : FragK} : ∀ ds m Q E, sp_is_map ds m Q E → n_is_map K sp_is_int sp_determinant (fun C ks vs _ m' => E C ks vs m') { nx := fun _ m' => Q .non m', rt := Q } (startD N_is_map ds) m := by
  rintro ds m Q E ⟨d, rfl, ⟨ht, hp⟩, hl, hq⟩
  have key : ∀ xs : List D, d = .tup xs → n_is_map K sp_is_int sp_determinant (fun C ks vs _ m' => E C ks vs m') { nx := fun _ m' => Q .non m', rt := Q } (startD N_is_map [d]) m := by
    rintro xs rfl
    simp [n_is_map, N_is_map, tyN, tyNames, isTy]
    by_cases h3 : xs.length = 6
    · simp [h3]
      refine lc_map (xs := xs) (fun x => .bl (isIntD x)) (fun R h => by simpa using h) (hl _ rfl).1 (fun p x R hn hx r => ?_) ?_
      · simp [sp_is_int]
        exact ⟨hp x hx, r⟩
      · have hb := (hl _ rfl).2
        match xs, h3 with
        | [a, b, c, d, e, f], _ =>
          refine ⟨[isIntD a, isIntD b, isIntD c, isIntD d, isIntD e, isIntD f], rfl, ?_⟩
          by_cases hall : isIntD a = true ∧ isIntD b = true ∧ isIntD c = true ∧ isIntD d = true ∧ isIntD e = true ∧ isIntD f = true
          · obtain ⟨ha, hb', hc, hd, he, hf⟩ := hall
            have get : ∀ {x : D}, isIntD x = true → ∃ i, x = .int i := fun {x} h => by cases x <;> simp [isIntD] at h; exact ⟨_, rfl⟩
            obtain ⟨a, rfl⟩ := get ha
            obtain ⟨b, rfl⟩ := get hb'
            obtain ⟨c, rfl⟩ := get hc
            obtain ⟨d, rfl⟩ := get hd
            obtain ⟨e, rfl⟩ := get he
            obtain ⟨f, rfl⟩ := get hf
            simp [isIntD, isMapD] at hq ⊢
            refine ⟨a, b, c, d, e, f, rfl, ⟨hb _ (by simp), hb _ (by simp), hb _ (by simp), hb _ (by simp)⟩, ?_⟩
            simp
            exact ⟨litL (by decide), by decide, hq⟩
          · have e1 : ([isIntD a, isIntD b, isIntD c, isIntD d, isIntD e, isIntD f].all id) = false := by
              rw [Bool.eq_false_iff]
              intro z
              simp at z
              exact hall ⟨z.1, z.2.1, z.2.2.1, z.2.2.2.1, z.2.2.2.2.1, z.2.2.2.2.2⟩
            have e2 : isMapD (.tup [a, b, c, d, e, f]) = false := by
              unfold isMapD
              split
              · rename_i h
                cases h
                exact absurd ⟨rfl, rfl, rfl, rfl, rfl, rfl⟩ hall
              · rfl
            rw [e2] at hq
            simp only [e1]
            exact hq
    · have h3' : ((xs.length : Int) == 6) = false := by simp; omega
      simp [h3']
      have e : isMapD (.tup xs) = false := by
        unfold isMapD
        split
        · rename_i h
          cases h
          exact absurd rfl h3
        · rfl
      rw [e] at hq
      exact hq
  by_cases isT : ∃ xs, d = .tup xs
  · obtain ⟨xs, rfl⟩ := isT
    exact key _ rfl
  · have e : isMapD d = false := by
      unfold isMapD
      split
      · exact absurd ⟨_, rfl⟩ isT
      · rfl
    rw [e] at hq
    cases d <;> simp [tyN] at ht <;> simp [n_is_map, N_is_map, tyN, tyNames, isTy] <;> try exact hq
    exact absurd ⟨_, rfl⟩ isT
end LW

namespace LW
open PySem PySem.Spec PyProof.Rows L2 DL TL
/-- small enough to be written -/
def Sm (i : Int) : Prop := i.natAbs < 10 ^ 560
theorem Sm.log {i : Int} (h : Sm i) : i.natAbs.log2 < 1920 := by
  by_cases z : i.natAbs = 0
  · rw [z]; decide
  · exact (Nat.log2_lt z).mpr (Nat.lt_trans h (by decide +kernel))
theorem Sm.len {i : Int} (h : Sm i) : (numS i).length ≤ 561 := num_len (by decide) h
theorem Sm.b9 {i : Int} (h : Sm i) : i.natAbs < 10 ^ 900 := Nat.lt_trans h (by decide +kernel)
theorem Sm.bits {i : Int} (h : Sm i) : i.natAbs < 2 ^ 1900 := Nat.lt_trans h (by decide +kernel)
theorem Sm.div {n : Int} {g : Nat} (h : Sm n) (hg : (g : Int) ∣ n) : Sm (n / (g : Int)) := natAbs_ediv h hg
@[simp] theorem num_def (i : Int) : Str.ofString (toString i) = numS i := rfl
@[simp] theorem num_repr (i : Int) : Str.ofString i.repr = numS i := rfl
@[simp] theorem empty_app (x : Str) : Str.empty ++ x = x := ext_tl (by rw [tl_append]; rfl)
theorem app_len (x y : Str) : (x ++ y).length = x.length + y.length := by rw [len_tl, len_tl x, len_tl y, tl_append, List.length_append]
theorem fracT_len {n d : Int} (h1 : Sm n) (h2 : Sm d) : (fracT n d).length ≤ 1200 := by
  have a := (h1.div (Int.gcd_dvd_left (a := n) (b := d))).len
  have b := (h2.div (Int.gcd_dvd_right (a := n) (b := d))).len
  unfold fracT
  split
  · omega
  · rw [app_len, app_len]
    have : sl.length = 1 := rfl
    omega
def sp_format_fraction : SpD := fun ds m Q E => ∃ n d : Int, ds = [.int n, .int d] ∧ 0 < d ∧ Sm n ∧ Sm d ∧ Q (.str (fracT n d)) m
theorem ltP {d : Int} {k : Nat} (h0 : 0 < d) (h : d.natAbs < 2 ^ k) : d < 2 ^ k := by
  have e : ((d.natAbs : Nat) : Int) < ((2 ^ k : Nat) : Int) := Int.ofNat_lt.mpr h
  rw [Int.natCast_pow] at e
  have e2 : ((d.natAbs : Nat) : Int) = d := by omega
  rw [e2] at e
  exact e
theorem hp_format_fraction {K : FragK} : ∀ ds m Q E, sp_format_fraction ds m Q E → n_format_fraction K sp_reduced (fun C ks vs _ m' => E C ks vs m') { nx := fun _ m' => Q .non m', rt := Q } (startD N_format_fraction ds) m := by
  rintro ds m Q E ⟨n, d, rfl, h0, h1, h2, hq⟩
  have a := h1.div (Int.gcd_dvd_left (a := n) (b := d))
  have b := h2.div (Int.gcd_dvd_right (a := n) (b := d))
  have hb : d < 2 ^ 6600 := ltP h0 (Nat.lt_trans h2 (by decide +kernel))
  simp [n_format_fraction, N_format_fraction]
  refine ⟨n, d, rfl, h0, hb, ?_⟩
  simp
  by_cases e : d / (Int.gcd n d : Int) = 1
  · simp [e]
    refine ⟨a.log, ?_⟩
    unfold fracT at hq
    rw [if_pos e] at hq
    exact hq
  · have e' : ((d / (Int.gcd n d : Int)) == 1) = false := by simpa using e
    simp [e']
    unfold fracT at hq
    rw [if_neg e] at hq
    have l1 := a.len
    have l2 := b.len
    refine ⟨a.log, litL (by omega), ?_, b.log, ?_, hq⟩
    · rw [app_len]
      exact litL (by have : (Str.ofString "/").length = 1 := rfl
                     omega)
    · rw [app_len, app_len]
      exact litL (by have : (Str.ofString "/").length = 1 := rfl
                     omega)
def sp_format_point : SpD := fun ds m Q E => ∃ x y d : Int, ds = [.tup [.int x, .int y, .int d]] ∧ 0 < d ∧ Sm x ∧ Sm y ∧ Sm d ∧ Q (.str (ptT x y d)) m
theorem hp_format_point {K : FragK} : ∀ ds m Q E, sp_format_point ds m Q E → n_format_point K sp_format_fraction (fun C ks vs _ m' => E C ks vs m') { nx := fun _ m' => Q .non m', rt := Q } (startD N_format_point ds) m := by
  rintro ds m Q E ⟨x, y, d, rfl, h0, h1, h2, h3, hq⟩
  have l1 := fracT_len h1 h3
  have l2 := fracT_len h2 h3
  have l3 : (Str.ofString " ").length = 1 := rfl
  simp [n_format_point, N_format_point]
  refine ⟨x, d, rfl, h0, h1, h3, litL (by omega), ?_⟩
  refine ⟨y, d, rfl, h0, h2, h3, ?_, hq⟩
  rw [app_len]
  exact litL (by omega)
def mapT (ns : List Int) : Str := Txt.join sp (ns.map numS)
def sp_format_map : SpD := fun ds m Q E => ∃ ns : List Int, ds = [.tup (ns.map D.int)] ∧ ns.length ≤ 6 ∧ (∀ n ∈ ns, Sm n) ∧ Q (.str (mapT ns)) m
theorem sum_le {l : List Nat} {b : Nat} (h : ∀ x ∈ l, x ≤ b) : l.sum ≤ l.length * b := by
  induction l with
  | nil => simp
  | cons x xs ih =>
    have h1 := h x List.mem_cons_self
    have h2 := ih fun y hy => h y (List.mem_cons_of_mem _ hy)
    rw [List.sum_cons, List.length_cons, Nat.add_mul]
    omega
theorem map_fits {ns : List Int} {k : Nat} (hl : ns.length ≤ k) (hk : k ≤ 20) (h : ∀ n ∈ ns, Sm n) : ((ns.map numS).map (·.length)).sum + (ns.map numS).length * sp.length ≤ 16777216 := by
  have e := sum_le (l := (ns.map numS).map (·.length)) (b := 561) (by
    intro x hx
    simp at hx
    obtain ⟨n, hn, rfl⟩ := hx
    exact (h n hn).len)
  simp only [List.length_map] at e ⊢
  have : sp.length = 1 := rfl
  rw [this]
  have : ns.length * 561 ≤ 20 * 561 := Nat.mul_le_mul_right _ (by omega)
  omega
theorem hp_format_map {K : FragK} : ∀ ds m Q E, sp_format_map ds m Q E → n_format_map K (fun C ks vs _ m' => E C ks vs m') { nx := fun _ m' => Q .non m', rt := Q } (startD N_format_map ds) m := by
  rintro ds m Q E ⟨ns, rfl, hl, hn, hq⟩
  simp [n_format_map, N_format_map]
  refine lc_map (xs := ns.map D.int) (fun d => .str (match d with | .int i => numS i | _ => Str.empty)) (fun R h => by simpa using h) (litT (by rw [List.length_map]; omega)) (fun p d R hp hx r => ?_) ?_
  · simp at hx
    obtain ⟨n, hm, rfl⟩ := hx
    simp
    exact ⟨(hn n hm).log, r⟩
  · simp
    refine ⟨ns.map numS, by simp, map_fits hl (by decide) hn, hq⟩
end LW

namespace LW
open PySem PySem.Spec PyProof.Rows L2 DL TL
/-- a text that may be read -/
def Tx (t : Str) : Prop := t.length ≤ 640 ∧ PyData.strOk t = true
theorem cut_ok {t : Str} (h : PyData.strOk t = true) (lo hi : Option Int) : PyData.strOk (cutS t lo hi) = true := ok_of fun c hc => of_ok h c (by
  have e : tl (cutS t lo hi) = ((tl t).drop (HT.sIx t.length 0 lo)).take (HT.sIx t.length t.length hi - HT.sIx t.length 0 lo) := rfl
  rw [e] at hc
  exact List.mem_of_mem_drop (List.mem_of_mem_take hc))
theorem lit_ok (s : String) (h : ((Str.ofString s).cps.all fun c => decide (c < 1114112)) = true) : PyData.strOk (Str.ofString s) = true := h
theorem if_digits {t : Str} {δ : DSt} {m : Mu} {Q : DQ} (ht : Tx t) (hδ : δ[0]? = some (some (.str t))) (q : Q (.str (digT t)) m) :
    dIf (dTest (dOp (gEq id) (dSl (dVar 0) pNo (pSome (dC (.int 1)))) (dC (.str "-")))) (dSl (dVar 0) (pSome (dC (.int 1))) pNo) (dVar 0) δ m Q := by
  have hl : t.length ≤ sizeLine := litL (by have := ht.1; omega)
  simp [hδ]
  refine ⟨hl, cut_ok ht.2 _ _, by decide +kernel, ?_⟩
  unfold digT at q
  split at q
  · rename_i h
    simp [h]
    exact ⟨hl, q⟩
  · rename_i h
    have e : (cutS t none (some 1) == Str.ofString "-") = false := by simpa using h
    simp [e]
    exact q
def digB : D → Bool
  | .str a => a.cps.toList.all isDig
  | _ => false
theorem digits_lit (c : Nat) : decide (c ∈ (Str.ofString "0123456789").cps.toList) = isDig c := by
  have e : (Str.ofString "0123456789").cps.toList = [48, 49, 50, 51, 52, 53, 54, 55, 56, 57] := rfl
  rw [e]
  unfold isDig
  rw [Bool.eq_iff_iff]
  simp
  omega
theorem signs_all (z : Str) : ((sgnD z).map digB).all id = (tl z).all isDig := by
  unfold sgnD
  rw [List.map_map, List.all_map]
  congr 1
  funext c
  show (([c] : List Nat).all isDig) = isDig c
  simp
def sp_integer_in : SpD := fun ds m Q E => ∃ t, ds = [.str t] ∧ Tx t ∧ Q (oI (intT t)) m
theorem digT_len (t : Str) : (digT t).length ≤ t.length := by
  unfold digT
  split
  · exact cutS_length _ _ _
  · exact Nat.le_refl _
theorem hp_integer_in {K : FragK} : ∀ ds m Q E, sp_integer_in ds m Q E → n_integer_in K (fun C ks vs _ m' => E C ks vs m') { nx := fun _ m' => Q .non m', rt := Q } (startD N_integer_in ds) m := by
  rintro ds m Q E ⟨t, rfl, ht, hq⟩
  simp only [n_integer_in, dSeq, dAsg]
  refine if_digits ht rfl ?_
  have hdl := digT_len t
  have hlt := ht.1
  simp [N_integer_in]
  refine ⟨litL (by omega), ?_⟩
  unfold intT at hq
  by_cases h1 : 1 ≤ (digT t).length
  · by_cases h2 : (digT t).length ≤ 1000
    · have h1' : (1 : Int) ≤ ((digT t).length : Int) := by omega
      have h2' : ((digT t).length : Int) ≤ 1000 := by omega
      simp [h1', h2']
      refine lc_map (xs := sgnD (digT t)) (fun d => .bl (digB d)) (fun R h => by simpa using h) (litT (by unfold sgnD; rw [List.length_map, ← len_tl]; omega)) (fun p d R hp hx r => ?_) ?_
      · unfold sgnD at hx
        obtain ⟨c, hc, rfl⟩ := List.mem_map.mp hx
        simp
        have e : digB (.str ⟨#[c]⟩) = isDig c := by
          show (([c] : List Nat).all isDig) = isDig c
          simp
        rw [e] at r
        have e2 := digits_lit c
        simp at e2
        rw [e2]
        exact r
      · simp
        refine ⟨(sgnD (digT t)).map digB, by simp, ?_⟩
        rw [signs_all]
        by_cases ha : (tl (digT t)).all isDig = true
        · rw [ha]
          have hne : tl (digT t) ≠ [] := fun e => by rw [len_tl, e] at h1; simp at h1
          obtain ⟨c, cs, ec⟩ := List.exists_cons_of_ne_nil hne
          have hci : isDig c = true := List.all_eq_true.mp ha c (by rw [ec]; exact List.mem_cons_self)
          have hc57 : 48 ≤ c ∧ c ≤ 57 := by unfold isDig at hci; simpa using hci
          have at0 : L2.atI (digT t).cps.toList 0 = some c := by
            have e2 : (digT t).cps.toList = c :: cs := ec
            rw [e2]
            simp [L2.atI, L2.ixN]
          have okc : PyData.strOk ⟨#[c]⟩ = true := ok_of fun x hx => by
            have : x = c := by simpa using hx
            omega
          have eq0 : ((⟨#[c]⟩ : Str) == Str.ofString "0") = decide (c = 48) := by
            rw [Bool.eq_iff_iff]
            simp
            constructor
            · intro h
              have := congrArg tl h
              have z : tl (Str.ofString "0") = [48] := rfl
              rw [z, show tl (⟨#[c]⟩ : Str) = [c] from rfl] at this
              simpa using this
            · rintro rfl
              rfl
          show (digT t).length ≤ sizeLine ∧ _
          refine ⟨litL (by omega), c, at0, okc, by decide +kernel, ?_⟩
          rw [eq0]
          have fin : (tl (digT t)).head? = some c := by rw [ec]; rfl
          have good : IntC t → ∃ n, intText? t = some n ∧ t.length ≤ 640 ∧ Q (D.int n) m := fun hC => by
            obtain ⟨n, hn⟩ := intC_some hC
            rw [if_pos hC, hn] at hq
            exact ⟨n, hn, ht.1, hq⟩
          have l1 : 1 ≤ (tl (digT t)).length := by rw [← len_tl]; exact h1
          have l2 : (tl (digT t)).length ≤ 1000 := by rw [← len_tl]; exact h2
          by_cases hc : c = 48
          · simp [hc]
            refine ⟨ht.2, by decide +kernel, ?_⟩
            by_cases h0 : t = Str.ofString "0"
            · simp [h0]
              have := good ⟨l1, l2, ha, fun z => z.2 h0⟩
              rw [h0] at this
              exact this
            · have e0 : (t == Str.ofString "0") = false := by simpa using h0
              simp [e0]
              rw [if_neg (fun hC => hC.2.2.2 ⟨by rw [fin, hc], h0⟩)] at hq
              exact hq
          · simp [hc]
            exact good ⟨l1, l2, ha, fun z => hc (by have := z.1; rw [fin] at this; exact Option.some.inj this)⟩
        · have e : (tl (digT t)).all isDig = false := by simpa using ha
          rw [e]
          rw [if_neg (fun hC => ha hC.2.2.1)] at hq
          exact hq
    · have h2' : ¬((digT t).length : Int) ≤ 1000 := by omega
      have h1' : (1 : Int) ≤ ((digT t).length : Int) := by omega
      simp [h1', h2']
      rw [if_neg (fun hC => h2 (by have := hC.2.1; rw [← len_tl] at this; exact this))] at hq
      exact hq
  · have h1' : ¬(1 : Int) ≤ ((digT t).length : Int) := by omega
    simp [h1']
    rw [if_neg (fun hC => h1 (by have := hC.1; rw [← len_tl] at this; exact this))] at hq
    exact hq
end LW

namespace LW
open PySem PySem.Spec PyProof.Rows L2 DL TL
theorem Tx.part {t p y : Str} (h : Tx t) (hp : p ∈ Txt.split t y) : Tx p := ⟨Nat.le_trans (part_short hp) h.1, part_ok hp h.2⟩
def sp_fraction_in : SpD := fun ds m Q E => ∃ t, ds = [.str t] ∧ Tx t ∧ Q (fracIn t) m
theorem isNon_oI (o : Option Int) : isNon (oI o) = o.isNone := by cases o <;> rfl
theorem hp_fraction_in {K : FragK} : ∀ ds m Q E, sp_fraction_in ds m Q E → n_fraction_in K sp_integer_in sp_gcd (fun C ks vs _ m' => E C ks vs m') { nx := fun _ m' => Q .non m', rt := Q } (startD N_fraction_in ds) m := by
  rintro ds m Q E ⟨t, rfl, ht, hq⟩
  have hs := split_pos t sl
  have hs2 := split_le t sl
  have hT : ∀ p ∈ Txt.split t sl, Tx p := fun p hp => ht.part hp
  simp [n_fraction_in, N_fraction_in]
  refine ⟨by decide +kernel, litL (by have := ht.1; omega), ?_⟩
  show match (Txt.split t sl).map D.str with | _ => _
  unfold fracIn at hq
  have hlt := ht.1
  match e : Txt.split t sl with
  | [] => rw [e] at hs; simp at hs
  | u :: lower =>
    rw [e] at hq hT hs2
    have e' : Txt.split t (Str.ofString "/") = u :: lower := e
    simp [e']
    simp at hs2
    refine ⟨by omega, ?_⟩
    refine ⟨u, rfl, hT u List.mem_cons_self, ?_⟩
    simp [isNon_oI]
    cases hn : intT u with
    | none =>
      simp only [hn] at hq
      simp [oI]
      exact hq
    | some n =>
      simp only [hn] at hq
      simp [oI]
      refine ⟨sh_strs fun y hy => (hT y (List.mem_cons_of_mem _ hy)).2, ?_⟩
      match lower with
      | [] =>
        simp [oI]
        exact ⟨litL (by decide), hq⟩
      | [l] =>
        simp [L2.atI, L2.ixN]
        refine ⟨l, rfl, hT l (by simp), ?_⟩
        cases hd : intT l with
        | none =>
          simp only [hd] at hq
          simp [oI]
          exact hq
        | some d =>
          simp only [hd] at hq
          simp [oI]
          by_cases h2 : d < 2
          · simp [h2]
            simp [h2] at hq
            exact hq
          · simp [h2]
            simp [h2] at hq
            refine ⟨n, d, rfl, ?_⟩
            simp
            by_cases hg : Int.gcd n d = 1
            · have e1 : (((Int.gcd n d : Nat) : Int) == 1) = true := by rw [gcd1]; simp [hg]
              rw [e1]
              simp [hg] at hq
              exact ⟨litL (by decide), hq⟩
            · have e1 : (((Int.gcd n d : Nat) : Int) == 1) = false := by rw [gcd1]; simp [hg]
              rw [e1]
              simp [hg] at hq
              exact hq
      | l :: l2 :: r =>
        have : ¬ ((r.length : Int) + 1 + 1 = 1) := by omega
        simp [this]
        exact hq
/-! ### places -/
theorem toPs_of {α : Type} {xs : List α} {f : α → D} {g : α → PyData} (h : ∀ x ∈ xs, toP (f x) = some (g x)) : toPs (xs.map f) = some (xs.map g) := by
  induction xs with
  | nil => simp [toPs]
  | cons x xs ih =>
    rw [List.map_cons, List.map_cons, toPs, h x List.mem_cons_self, ih fun y hy => h y (List.mem_cons_of_mem _ hy)]
def pF : D → PyData
  | .int i => .int i
  | .tup [.int a, .int b] => .tuple [.int a, .int b]
  | _ => .none
/-- an integer, a pair, or nothing -/
def Part (d : D) : Prop := d = .non ∨ (∃ i, d = .int i) ∨ ∃ a b, d = .tup [.int a, .int b]
theorem Part.toP {d : D} (h : Part d) : toP d = some (pF d) := by
  rcases h with rfl | ⟨i, rfl⟩ | ⟨a, b, rfl⟩ <;> simp [DL.toP, toPs, pF]
theorem Part.lay {d : D} (h : Part d) : (pF d).canLay0 = true ∧ (pF d).depth ≤ 1 := by
  rcases h with rfl | ⟨i, rfl⟩ | ⟨a, b, rfl⟩ <;> simp [pF, PyData.canLay0, PyData.canLayAll0, PyData.depth, PyData.depthAll]
theorem Part.eqN {d : D} (h : Part d) : (pF d).eqv .none = isNon d := by
  rcases h with rfl | ⟨i, rfl⟩ | ⟨a, b, rfl⟩ <;> simp [pF, isNon, PyData.eqv]
/-- None in found -/
theorem none_in {α : Type} {xs : List α} {f : α → D} (h : ∀ x ∈ xs, Part (f x)) {m : Mu} {Q : DQ} (q : Q (.bl ((xs.map f).any isNon)) m) : oIn id .non (.lst (xs.map f)) m Q := by
  refine ⟨.none, xs.map fun x => pF (f x), by simp [toP], toPs_of fun x hx => (h x hx).toP, by simp, sh_list 1 (by decide) ?_, ?_⟩
  · intro p hp
    obtain ⟨x, hx, rfl⟩ := List.mem_map.mp hp
    exact (h x hx).lay
  · have e : ∀ ys : List α, (∀ y ∈ ys, Part (f y)) → ((ys.map fun x => pF (f x)).any fun z => PyData.eqv z .none) = (ys.map f).any isNon := fun ys => by
      induction ys with
      | nil => intro _; rfl
      | cons x xs ih =>
        intro h
        rw [List.map_cons, List.map_cons, List.any_cons, List.any_cons, (h x List.mem_cons_self).eqN, ih fun y hy => h y (List.mem_cons_of_mem _ hy)]
    rw [e xs h]
    exact q
theorem fracIn_part {t : Str} (h : t.length ≤ 640) : Part (fracIn t) := by
  rcases fracIn_cases h with e | ⟨a, b, e, _⟩
  · exact .inl e
  · exact .inr (.inr ⟨a, b, e⟩)
def sp_place_in : SpD := fun ds m Q E => ∃ t, ds = [.str t] ∧ Tx t ∧ Q (placeIn t) m
theorem hp_place_in {K : FragK} : ∀ ds m Q E, sp_place_in ds m Q E → n_place_in K sp_fraction_in sp_lcm (fun C ks vs _ m' => E C ks vs m') { nx := fun _ m' => Q .non m', rt := Q } (startD N_place_in ds) m := by
  rintro ds m Q E ⟨t, rfl, ht, hq⟩
  have hs2 := split_le t sp
  have hT : ∀ p ∈ Txt.split t sp, Tx p := fun p hp => ht.part hp
  have hlt := ht.1
  have hP : ∀ p ∈ Txt.split t sp, Part (fracIn p) := fun p hp => fracIn_part (hT p hp).1
  simp only [n_place_in, dSeq, dAsg]
  refine lc_map (xs := (Txt.split t sp).map D.str) (fun d => match d with | .str p => fracIn p | _ => .non) (fun R h => ?_) (litT (by rw [List.length_map]; omega)) (fun p d R hp hx r => ?_) ?_
  · simp [N_place_in]
    exact ⟨by decide +kernel, litL (by omega), h⟩
  · obtain ⟨w, hw, rfl⟩ := List.mem_map.mp hx
    simp [N_place_in]
    exact ⟨w, rfl, hT w hw, rfl, r⟩
  · rw [List.map_map]
    show hName 1 (.lst ((Txt.split t sp).map fracIn)) _ m _
    unfold placeIn at hq
    by_cases h2 : (Txt.split t sp).length = 2
    · simp [N_place_in, h2, -oIn]
      refine none_in (f := fracIn) hP ?_
      match e : Txt.split t sp, h2 with
      | [u, v], _ =>
        rw [e] at hT hq
        have lu := hT u (by simp)
        have lv := hT v (by simp)
        rcases fracIn_cases lu.1 with e1 | ⟨x, a, e1, a0, xb, ab⟩
        · simp [e1, isNon]
          simp [e1, pairUp] at hq
          exact hq
        · rcases fracIn_cases lv.1 with e2 | ⟨y, b, e2, b0, yb, bb⟩
          · simp [e1, e2, isNon]
            simp [e1, e2, pairUp] at hq
            exact hq
          · simp [e1, e2, pairUp] at hq
            simp [e1, e2, isNon]
            obtain ⟨c, rfl⟩ : ∃ c : Nat, a = c := ⟨a.toNat, by omega⟩
            obtain ⟨d, rfl⟩ : ∃ d : Nat, b = d := ⟨b.toNat, by omega⟩
            simp at hq ab bb
            have c0 : 0 < c := by omega
            have d0 : 0 < d := by omega
            have cb : c < 2 ^ 2200 := Nat.lt_trans ab (by decide +kernel)
            have db : d < 2 ^ 2200 := Nat.lt_trans bb (by decide +kernel)
            refine ⟨litL (by decide), [c, d], rfl, by simp, ?_, ?_⟩
            · intro n hn
              simp at hn
              rcases hn with rfl | rfl
              · exact ⟨c0, cb⟩
              · exact ⟨d0, db⟩
            · have lb : lcmF [c, d] ≤ 2 ^ 4400 := by
                rw [lcmF2]
                exact Nat.le_trans (Nat.mul_le_mul (Nat.le_trans (Nat.div_le_self _ _) (Nat.le_of_lt cb)) (Nat.le_of_lt db)) (by rw [← Nat.pow_add]; exact Nat.le_refl _)
              have small : ∀ {z : Int} {g : Nat}, z.natAbs < 10 ^ 640 → MulOk z (((lcmF [c, d] : Nat) : Int) / (g : Int)) := fun {z g} hz => by
                refine mulW (n := 4401) (Nat.lt_of_lt_of_le hz (by decide +kernel)) ?_ (by decide)
                rw [← Int.natCast_ediv, Int.natAbs_natCast]
                exact Nat.lt_of_le_of_lt (Nat.le_trans (Nat.div_le_self _ _) lb) (Nat.pow_lt_pow_right (by decide) (by decide))
              simp
              rw [fdiv_pos (by omega), fdiv_pos (by omega)]
              exact ⟨divW (n := 2200) (by omega) (by simpa using cb) (by decide), small xb, divW (n := 2200) (by omega) (by simpa using db) (by decide), small yb, litL (by decide), hq⟩
    · have e2 : (((Txt.split t sp).length : Int) == 2) = false := by simp; omega
      simp [N_place_in, e2, -oIn]
      have e : pairUp ((Txt.split t sp).map fracIn) = .non := by
        unfold pairUp
        split
        · rename_i x a y b h
          have := congrArg List.length h
          simp at this
          omega
        · rfl
      rw [e] at hq
      exact hq
end LW

namespace LW
open PySem PySem.Spec PyProof.Rows L2 DL TL
def intsIn (t : Str) (n : Nat) : D := if (Txt.split t sp).length = n ∧ ((Txt.split t sp).map fun w => oI (intT w)).any isNon = false then .tup ((Txt.split t sp).map fun w => oI (intT w)) else .non
theorem oI_part (o : Option Int) : Part (oI o) := by
  cases o with
  | none => exact .inl rfl
  | some i => exact .inr (.inl ⟨i, rfl⟩)
def sp_integers_in : SpD := fun ds m Q E => ∃ (t : Str) (n : Nat), ds = [.str t, .int n] ∧ Tx t ∧ Q (intsIn t n) m
theorem hp_integers_in {K : FragK} : ∀ ds m Q E, sp_integers_in ds m Q E → n_integers_in K sp_integer_in (fun C ks vs _ m' => E C ks vs m') { nx := fun _ m' => Q .non m', rt := Q } (startD N_integers_in ds) m := by
  rintro ds m Q E ⟨t, n, rfl, ht, hq⟩
  have hs2 := split_le t sp
  have hT : ∀ p ∈ Txt.split t sp, Tx p := fun p hp => ht.part hp
  have hlt := ht.1
  simp only [n_integers_in, dSeq, dAsg]
  refine lc_map (xs := (Txt.split t sp).map D.str) (fun d => match d with | .str p => oI (intT p) | _ => .non) (fun R h => ?_) (litT (by rw [List.length_map]; omega)) (fun p d R hp hx r => ?_) ?_
  · simp [N_integers_in]
    exact ⟨by decide +kernel, litL (by omega), h⟩
  · obtain ⟨w, hw, rfl⟩ := List.mem_map.mp hx
    simp [N_integers_in]
    exact ⟨w, rfl, hT w hw, rfl, r⟩
  · rw [List.map_map]
    show hName 2 (.lst ((Txt.split t sp).map fun w => oI (intT w))) _ m _
    unfold intsIn at hq
    by_cases h2 : (Txt.split t sp).length = n
    · have e2 : (((Txt.split t sp).length : Int) == (n : Int)) = true := by rw [h2]; exact beq_self_eq_true _
      simp [N_integers_in, e2, -oIn, -List.any_map, -List.any_eq_true]
      refine none_in (f := fun w => oI (intT w)) (fun _ _ => oI_part _) ?_
      by_cases h3 : ((Txt.split t sp).map fun w => oI (intT w)).any isNon = true
      · rw [if_neg (by rw [h3]; simp)] at hq
        simp only [h3]
        exact hq
      · have h3' : ((Txt.split t sp).map fun w => oI (intT w)).any isNon = false := by simpa using h3
        rw [if_pos ⟨h2, h3'⟩] at hq
        simp only [h3']
        exact hq
    · have e2 : (((Txt.split t sp).length : Int) == (n : Int)) = false := by simp; omega
      simp [N_integers_in, e2, -oIn]
      rw [if_neg (fun z => h2 z.1)] at hq
      exact hq
def pointIn (t : Str) : D := if isPt (placeIn t) = true then placeIn t else .non
theorem placeIn_cases (t : Str) : placeIn t = .non ∨ ∃ x y z : Int, placeIn t = .tup [.int x, .int y, .int z] := by
  unfold placeIn pairUp
  split
  · exact .inr ⟨_, _, _, rfl⟩
  · exact .inl rfl
def sp_point_in : SpD := fun ds m Q E => ∃ t, ds = [.str t] ∧ Tx t ∧ Q (pointIn t) m
theorem hp_point_in {K : FragK} : ∀ ds m Q E, sp_point_in ds m Q E → n_point_in K sp_place_in sp_is_point (fun C ks vs _ m' => E C ks vs m') { nx := fun _ m' => Q .non m', rt := Q } (startD N_point_in ds) m := by
  rintro ds m Q E ⟨t, rfl, ht, hq⟩
  unfold pointIn at hq
  simp [n_point_in, N_point_in]
  refine ⟨t, rfl, ht, ?_⟩
  rcases placeIn_cases t with e | ⟨x, y, z, e⟩
  · rw [e] at hq ⊢
    simp [isNon]
    simpa [isPt] using hq
  · rw [e] at hq ⊢
    simp
    refine ⟨_, rfl, ⟨rfl, ?_⟩, ?_, ?_⟩
    · intro d hd
      simp at hd
      rcases hd with rfl | rfl | rfl <;> rfl
    · rintro xs hx
      cases hx
      exact litT (by show 3 ≤ 1000000; decide)
    · by_cases h : isPt (.tup [.int x, .int y, .int z]) = true
      · rw [if_pos h] at hq
        simp [h]
        exact hq
      · have h' : isPt (.tup [.int x, .int y, .int z]) = false := by simpa using h
        rw [if_neg h] at hq
        simp [h']
        exact hq
def mapIn (t : Str) : D := if isMapD (intsIn t 6) = true then intsIn t 6 else .non
def sp_map_in : SpD := fun ds m Q E => ∃ t, ds = [.str t] ∧ Tx t ∧ Q (mapIn t) m
theorem intsIn_cases {t : Str} {n : Nat} (ht : t.length ≤ 640) : intsIn t n = .non ∨ ∃ ns : List Int, intsIn t n = .tup (ns.map D.int) ∧ ns.length = n ∧ ∀ i ∈ ns, i.natAbs < 10 ^ 640 := by
  unfold intsIn
  split
  · rename_i h
    refine .inr ⟨(Txt.split t sp).map fun w => (intT w).getD 0, ?_, by rw [List.length_map]; exact h.1, ?_⟩
    · rw [List.map_map]
      congr 1
      refine List.map_congr_left fun w hw => ?_
      cases e : intT w with
      | none =>
        exfalso
        have : ((Txt.split t sp).map fun w => oI (intT w)).any isNon = true := List.any_eq_true.mpr ⟨oI (intT w), List.mem_map_of_mem hw, by rw [e]; rfl⟩
        rw [h.2] at this
        cases this
      | some i => show oI (some i) = _; simp [oI, e]
    · intro i hi
      obtain ⟨w, hw, rfl⟩ := List.mem_map.mp hi
      cases e : intT w with
      | none => exact (by decide +kernel : (0 : Int).natAbs < 10 ^ 640)
      | some i => exact intT_lt (Nat.le_trans (part_short hw) ht) e
  · exact .inl rfl
theorem hp_map_in {K : FragK} : ∀ ds m Q E, sp_map_in ds m Q E → n_map_in K sp_integers_in sp_is_map (fun C ks vs _ m' => E C ks vs m') { nx := fun _ m' => Q .non m', rt := Q } (startD N_map_in ds) m := by
  rintro ds m Q E ⟨t, rfl, ht, hq⟩
  unfold mapIn at hq
  simp [n_map_in, N_map_in]
  refine ⟨t, 6, rfl, ht, ?_⟩
  rcases intsIn_cases (n := 6) ht.1 with e | ⟨ns, e, hl, hb⟩
  · rw [e] at hq ⊢
    simp [isNon]
    simpa [isMapD] using hq
  · rw [e] at hq ⊢
    simp
    refine ⟨_, rfl, ⟨rfl, ?_⟩, ?_, ?_⟩
    · intro d hd
      obtain ⟨i, _, rfl⟩ := List.mem_map.mp hd
      rfl
    · rintro xs hx
      cases hx
      refine ⟨litT (by rw [List.length_map]; omega), fun i hi => ?_⟩
      simp at hi
      exact Nat.lt_trans (hb i hi) (by decide +kernel)
    · by_cases h : isMapD (.tup (ns.map D.int)) = true
      · rw [if_pos h] at hq
        simp [h]
        exact hq
      · have h' : isMapD (.tup (ns.map D.int)) = false := by simpa using h
        rw [if_neg h] at hq
        simp [h']
        exact hq
def prs (r : Str → D) : D → D
  | .str t => r t
  | _ => .non
def sp_parsed (K : FragK) : SpD := fun ds m Q E => ∃ (f : Addr) (d : D) (r : Str → D), ds = [.obj f, d] ∧ ((f = He.ga K "point_in" ∧ r = pointIn) ∨ (f = He.ga K "map_in" ∧ r = mapIn)) ∧ (tyN d).isSome = true ∧ (∀ t, d = .str t → Tx t) ∧
  (isNon (prs r d) = false → Q (prs r d) m) ∧ (isNon (prs r d) = true → E (He.ga K "ParseError") ["value"] [d] m)
theorem hp_parsed {K : FragK} : ∀ ds m Q E, sp_parsed K ds m Q E → n_parsed K sp_point_in sp_map_in (fun C ks vs _ m' => E C ks vs m') { nx := fun _ m' => Q .non m', rt := Q } (startD N_parsed ds) m := by
  rintro ds m Q E ⟨f, d, r, rfl, hr, ht, hx, hq, he⟩
  by_cases hs : ∃ t, d = .str t
  · obtain ⟨t, rfl⟩ := hs
    have fin : ∀ Q' : DQ, Q' (r t) m → (∃ sp, hold_parser K sp_point_in sp_map_in f sp ∧ sp [.str t] m Q' fun C ks vs m2 => E C ks vs m2) := fun Q' q' => by
      rcases hr with ⟨rfl, rfl⟩ | ⟨rfl, rfl⟩
      · exact ⟨sp_point_in, .inl ⟨rfl, rfl⟩, t, rfl, hx t rfl, q'⟩
      · exact ⟨sp_map_in, .inr ⟨rfl, rfl⟩, t, rfl, hx t rfl, q'⟩
    simp [n_parsed, N_parsed, tyN, tyNames, isTy, -isNon]
    refine fin _ ?_
    simp [prs, -isNon] at hq he
    cases h : isNon (r t) with
    | false =>
      simp only [id, h]
      exact hq h
    | true =>
      simp only [id, h]
      exact he h
  · have e : prs r d = .non := by
      unfold prs
      split
      · exact absurd ⟨_, rfl⟩ hs
      · rfl
    rw [e] at he
    have he' := he rfl
    cases d <;> simp [tyN] at ht <;> simp [n_parsed, N_parsed, tyN, tyNames, isTy, isNon] <;> try exact he'
    exact absurd ⟨_, rfl⟩ hs
def sp_parse_point (K : FragK) : SpD := fun ds m Q E => ∃ d : D, ds = [d] ∧ (tyN d).isSome = true ∧ (∀ t, d = .str t → Tx t) ∧ (isNon (prs pointIn d) = false → Q (prs pointIn d) m) ∧ (isNon (prs pointIn d) = true → E (He.ga K "ParseError") ["value"] [d] m)
theorem hp_parse_point {K : FragK} : ∀ ds m Q E, sp_parse_point K ds m Q E → n_parse_point K (sp_parsed K) (fun C ks vs _ m' => E C ks vs m') { nx := fun _ m' => Q .non m', rt := Q } (startD N_parse_point ds) m := by
  rintro ds m Q E ⟨d, rfl, ht, hx, hq, he⟩
  simp [n_parse_point, N_parse_point]
  exact ⟨_, d, pointIn, rfl, .inl ⟨rfl, rfl⟩, ht, hx, hq, he⟩
def sp_parse_map (K : FragK) : SpD := fun ds m Q E => ∃ d : D, ds = [d] ∧ (tyN d).isSome = true ∧ (∀ t, d = .str t → Tx t) ∧ (isNon (prs mapIn d) = false → Q (prs mapIn d) m) ∧ (isNon (prs mapIn d) = true → E (He.ga K "ParseError") ["value"] [d] m)
theorem hp_parse_map {K : FragK} : ∀ ds m Q E, sp_parse_map K ds m Q E → n_parse_map K (sp_parsed K) (fun C ks vs _ m' => E C ks vs m') { nx := fun _ m' => Q .non m', rt := Q } (startD N_parse_map ds) m := by
  rintro ds m Q E ⟨d, rfl, ht, hx, hq, he⟩
  simp [n_parse_map, N_parse_map]
  exact ⟨_, d, mapIn, rfl, .inr ⟨rfl, rfl⟩, ht, hx, hq, he⟩
end LW

namespace LW
open PySem PySem.Spec PyProof.Rows L2 DL TL
/-! ### the source of drawn numbers -/
def penK : List Key := [.inr "cells", .inr "turn", .inr "left"]
def penC (cs : List Int) (t l : Int) : MC := .dct penK [.lst (cs.map D.int), .int t, .int l]
@[simp] theorem pen_cells (a b c : D) : lookD penK [a, b, c] (.inr (Str.ofString "cells")) = some a := by simp [penK]
@[simp] theorem pen_turn (a b c : D) : lookD penK [a, b, c] (.inr (Str.ofString "turn")) = some b := by
  have h : ¬(Str.ofString "cells" = Str.ofString "turn") := by decide +kernel
  simp [penK, h]
@[simp] theorem pen_left (a b c : D) : lookD penK [a, b, c] (.inr (Str.ofString "left")) = some c := by
  have h : ¬(Str.ofString "cells" = Str.ofString "left") := by decide +kernel
  have h2 : ¬(Str.ofString "turn" = Str.ofString "left") := by decide +kernel
  simp [penK, h, h2]
@[simp] theorem pen_pturn (a b c v : D) : putD penK [a, b, c] (.inr (Str.ofString "turn")) v = some [a, v, c] := by
  have h : ¬(Str.ofString "cells" = Str.ofString "turn") := by decide +kernel
  simp [penK, h]
@[simp] theorem pen_pleft (a b c v : D) : putD penK [a, b, c] (.inr (Str.ofString "left")) v = some [a, b, v] := by
  have h : ¬(Str.ofString "cells" = Str.ofString "left") := by decide +kernel
  have h2 : ¬(Str.ofString "turn" = Str.ofString "left") := by decide +kernel
  simp [penK, h, h2]
theorem pen_nd : penK.Nodup := by decide +kernel
theorem pen_len : penK.length < 1000 := by decide
@[simp] theorem put_put' (m : Mu) (a : Addr) (c d : MC) : put (put m a c) a d = put m a d := put_put
@[simp] theorem put_same' (m : Mu) (a : Addr) (c : MC) : put m a c a = some c := put_same
def sp_law_pen : SpD := fun ds m Q E => ∃ ns : List Int, ds = [.scr (ns.map D.int)] ∧ ns.length ≤ 63 ∧ ∀ p, m p = none → Q (.obj p) (put m p (penC ns 0 0))
theorem hp_law_pen {K : FragK} : ∀ ds m Q E, sp_law_pen ds m Q E → n_law_pen K (fun C ks vs _ m' => E C ks vs m') { nx := fun _ m' => Q .non m', rt := Q } (startD N_law_pen ds) m := by
  rintro ds m Q E ⟨ns, rfl, hl, hq⟩
  simp [n_law_pen, N_law_pen]
  intro p hp
  have e : DL.cutD (ns.map D.int) none (some 63) = ns.map D.int := by
    unfold DL.cutD
    show ((ns.map D.int).drop 0).take (HT.sIx (ns.map D.int).length (ns.map D.int).length (some ((63 : Nat) : Int)) - 0) = _
    rw [HT.sIx_nat, List.drop_zero, Nat.sub_zero]
    refine List.take_of_length_le ?_
    rw [List.length_map]
    omega
  rw [e]
  exact ⟨penK, rfl, pen_nd, by decide, hq p hp⟩
theorem atI_in {xs : List D} {i : Int} (h0 : 0 ≤ i) (h1 : i < xs.length) : ∃ d, L2.atI xs i = some d ∧ d ∈ xs := by
  obtain ⟨k, rfl⟩ : ∃ k : Nat, i = k := ⟨i.toNat, by omega⟩
  have hk : k < xs.length := by omega
  refine ⟨xs[k], ?_, List.getElem_mem hk⟩
  unfold L2.atI L2.ixN
  simp [hk]
@[simp] theorem toPs_ints : ∀ ns : List Int, toPs (ns.map D.int) = some (ns.map PyData.int)
  | [] => by simp [toPs]
  | y :: ys => by simp [toPs, toP, toPs_ints ys]
@[simp] theorem sh_ints (ns : List Int) : SeqAt.shaped (.list (ns.map PyData.int)) = true := sh_list 0 (by decide) fun p hp => by
  obtain ⟨y, hy, rfl⟩ := List.mem_map.mp hp
  exact ⟨by simp [PyData.canLay0], by simp [PyData.depth]⟩
def sp_law_draw : SpD := fun ds m Q E => ∃ (p : Addr) (cs : List Int) (t l many : Int), ds = [.obj p, .int many] ∧ m p = some (penC cs t l) ∧ 0 < many ∧ many < 2 ^ 62 ∧ 0 ≤ t ∧ t < 2 ^ 62 ∧ cs.length < 1000 ∧
  ∀ r t' l' : Int, 0 ≤ r → r < many → t ≤ t' → t' ≤ t + 1 → Q (.int r) (put m p (penC cs t' l'))
theorem hp_law_draw {K : FragK} : ∀ ds m Q E, sp_law_draw ds m Q E → n_law_draw K (fun C ks vs _ m' => E C ks vs m') { nx := fun _ m' => Q .non m', rt := Q } (startD N_law_draw ds) m := by
  rintro ds m Q E ⟨p, cs, t, l, many, rfl, hm, h0, h1, t0, t1, hc, hq⟩
  have dv : ∀ x, DivOk x many := fun x => divW (n := 62) h0 (by omega) (by decide)
  have nm : many ≠ 0 := by omega
  have md : ∀ x : Int, 0 ≤ x.fmod many ∧ x.fmod many < many := fun x => by
    rw [fmod_pos h0]
    exact ⟨Int.emod_nonneg _ nm, Int.emod_lt_of_pos _ h0⟩
  simp only [n_law_draw, N_law_draw]
  refine seqI fun U hU => ?_
  by_cases hl : 0 < l
  · simp [hm, penC, hl, pen_nd, pen_len]
    exact ⟨nm, dv l, hq _ _ _ (md l).1 (md l).2 (by omega) (by omega)⟩
  · simp [hm, penC, hl]
    refine hU _ _ ?_
    clear hU U
    refine seqI fun U hU => ?_
    simp [hm, penC]
    refine hU _ _ ?_
    clear hU U
    refine seqI fun U hU => ?_
    simp [hm, penC, pen_nd, pen_len]
    refine hU _ _ ?_
    clear hU U
    refine seqI fun U hU => ?_
    simp
    refine ⟨mulL (by decide) (by decide), ?_⟩
    refine hU _ _ ?_
    clear hU U
    refine seqI fun U hU => ?_
    simp
    suffices H : ∀ c : Int, U [some (D.obj p), some (D.int many), some (D.int t), some (D.int c), none, none, none, none] (put m p (MC.dct penK [D.lst (List.map D.int cs), D.int (t + 1), D.int l])) by
      by_cases he : cs = []
      · subst he
        simp
        exact H _
      · have hp : 0 < cs.length := List.length_pos_iff.mpr he
        have e : cs.isEmpty = false := by simpa using he
        simp [e, he]
        obtain ⟨d, hd, hm'⟩ := atI_in (xs := cs.map D.int) (i := t.fmod cs.length) (by rw [fmod_pos (by omega)]; exact Int.emod_nonneg _ (by omega)) (by rw [fmod_pos (by omega), List.length_map]; exact Int.emod_lt_of_pos _ (by omega))
        obtain ⟨c, _, rfl⟩ := List.mem_map.mp hm'
        rw [hd]
        exact H c
    intro c
    refine hU _ _ ?_
    clear hU U
    refine seqI fun U hU => ?_
    have cp : CPow 10 18 := ⟨by decide, by decide, by decide⟩
    suffices H : U [some (D.obj p), some (D.int many), some (D.int t), some (D.int c), none, none, none, none] (put m p (MC.dct penK [D.lst (List.map D.int cs), D.int (t + 1), D.int l])) by
      simp [penC, cp, pen_nd, pen_len, nm]
      by_cases hb : t < (cs.length : Int)
      · simp [hb]
        by_cases hb2 : (1000000000000000000 : Int) ≤ (c.natAbs : Int)
        · simp [hb2]
          exact ⟨dv _, hq _ _ _ (md _).1 (md _).2 (by omega) (by omega)⟩
        · simp [hb2]
          exact H
      · simp [hb]
        exact H
    refine hU _ _ ?_
    clear hU U
    refine seqI fun U hU => ?_
    simp
    refine ⟨litL (by decide), hU _ _ ?_⟩
    clear hU U
    have pr : ∀ i : Int, 0 ≤ i → i < 5 → ∃ q : Int, L2.atI [D.int 2147483647, D.int 2147483629, D.int 2147483587, D.int 2147483579, D.int 2147483563] i = some (.int q) ∧ 2000000000 ≤ q ∧ q < 2147483648 := fun i i0 i5 => by
      have : i = 0 ∨ i = 1 ∨ i = 2 ∨ i = 3 ∨ i = 4 := by omega
      rcases this with rfl | rfl | rfl | rfl | rfl
      · exact ⟨2147483647, rfl, by decide, by decide⟩
      · exact ⟨2147483629, rfl, by decide, by decide⟩
      · exact ⟨2147483587, rfl, by decide, by decide⟩
      · exact ⟨2147483579, rfl, by decide, by decide⟩
      · exact ⟨2147483563, rfl, by decide, by decide⟩
    have m5 : ∀ x : Int, 0 ≤ x.fmod 5 ∧ x.fmod 5 < 5 := fun x => by
      rw [fmod_pos (by decide)]
      exact ⟨Int.emod_nonneg _ (by decide), Int.emod_lt_of_pos _ (by decide)⟩
    obtain ⟨q1, e1, a1, b1⟩ := pr _ (m5 t).1 (m5 t).2
    obtain ⟨q2, e2, a2, b2⟩ := pr _ (m5 (t + 3)).1 (m5 (t + 3)).2
    refine seqI fun U hU => ?_
    simp [e1]
    refine hU _ _ ?_
    clear hU U
    refine seqI fun U hU => ?_
    have n1 : q1 ≠ 0 := by omega
    have n2 : q2 ≠ 0 := by omega
    simp [n1]
    have mq : ∀ {q : Int}, 2000000000 ≤ q → q < 2147483648 → ∀ x : Int, 0 ≤ x.fmod q ∧ x.fmod q < 2147483648 := fun {q} a b x => by
      rw [fmod_pos (by omega)]
      have h2 := Int.emod_lt_of_pos x (show 0 < q by omega)
      exact ⟨Int.emod_nonneg _ (by omega), by omega⟩
    refine ⟨mulR (by decide) (by decide), mulL (by decide) (by decide), mulR (by omega) (by omega), hU _ _ ?_⟩
    clear hU U
    generalize hd : ((c.fmod q1 * 48271 + 40692 * t * t + 31).fmod q1) = dr
    obtain ⟨d0, d1⟩ : 0 ≤ dr ∧ dr < 2147483648 := by rw [← hd]; exact mq a1 b1 _
    clear hd
    refine seqI fun U hU => ?_
    simp [e2, n2]
    refine ⟨mulL (by omega) (by omega), hU _ _ ?_⟩
    clear hU U
    generalize hd : ((dr * (dr + 69621)).fmod q2) = ds
    obtain ⟨s0, s1⟩ : 0 ≤ ds ∧ ds < 2147483648 := by rw [← hd]; exact mq a2 b2 _
    clear hd
    simp [nm]
    refine ⟨mulL (by omega) (by omega), divN (by decide) (by decide), ?_⟩
    exact hq _ _ _ (md _).1 (md _).2 (by omega) (by omega)
end LW

namespace LW
open PySem PySem.Spec PyProof.Rows L2 DL TL
theorem put_eta {m : Mu} {a : Addr} {c : MC} (h : m a = some c) : put m a c = m := by
  funext b
  by_cases e : b = a
  · rw [e, put_same, h]
  · rw [put_ne e]
/-- a pen that has given at most so many turns -/
def sp_law_pick : SpD := fun ds m Q E => ∃ (p : Addr) (cs : List Int) (t l : Int) (xs : List D), ds = [.obj p, .lst xs] ∧ m p = some (penC cs t l) ∧ 0 < xs.length ∧ xs.length < 1000 ∧ 0 ≤ t ∧ t < 2 ^ 62 ∧ cs.length < 1000 ∧
  ∀ (x : D) (t' l' : Int), x ∈ xs → t ≤ t' → t' ≤ t + 1 → Q x (put m p (penC cs t' l'))
theorem hp_law_pick {K : FragK} : ∀ ds m Q E, sp_law_pick ds m Q E → n_law_pick K sp_law_draw (fun C ks vs _ m' => E C ks vs m') { nx := fun _ m' => Q .non m', rt := Q } (startD N_law_pick ds) m := by
  rintro ds m Q E ⟨p, cs, t, l, xs, rfl, hm, h0, h1, t0, t1, hc, hq⟩
  simp [n_law_pick, N_law_pick]
  refine ⟨p, cs, t, l, _, rfl, hm, by omega, by omega, t0, t1, hc, fun r t' l' r0 r1 a b => ?_⟩
  obtain ⟨x, e, hx⟩ := atI_in r0 r1
  simp [e]
  exact hq x t' l' hx a b
def sp_law_great : SpD := fun ds m Q E => ∃ (p : Addr) (cs : List Int) (t l : Int) (k : Nat), ds = [.obj p, .int k] ∧ m p = some (penC cs t l) ∧ k ≤ 500 ∧ 0 ≤ t ∧ t + k < 2 ^ 62 ∧ cs.length < 1000 ∧
  ∀ r t' l' : Int, 0 ≤ r → r < 10 ^ k → t ≤ t' → t' ≤ t + k → Q (.int r) (put m p (penC cs t' l'))
theorem rng0_get {n i : Nat} {x : D} (h : (rng 0 n)[i]? = some x) : i < n ∧ x = .int i := by
  obtain ⟨a, b⟩ := rng_get h
  exact ⟨a, by rw [b]; simp⟩
theorem hp_law_great {K : FragK} : ∀ ds m Q E, sp_law_great ds m Q E → n_law_great K sp_law_draw (fun C ks vs _ m' => E C ks vs m') { nx := fun _ m' => Q .non m', rt := Q } (startD N_law_great ds) m := by
  rintro ds m Q E ⟨p, cs, t, l, k, rfl, hm, hk, t0, t1, hc, hq⟩
  simp only [n_law_great, N_law_great]
  refine seqI fun U hU => ?_
  simp
  refine hU _ _ ?_
  clear hU U
  refine seqI fun U hU => ?_
  refine for_list (xs := rng 0 k) (fun R h => by simp; exact ⟨by omega, h⟩) (fun i δ m' => ∃ (r t' l' : Int) (o : Option D), δ = [some (.obj p), some (.int k), some (.int r), o] ∧ 0 ≤ r ∧ r < 10 ^ i ∧ t ≤ t' ∧ t' ≤ t + i ∧ m' = put m p (penC cs t' l'))
    ⟨0, t, l, none, rfl, by decide, by decide, by omega, by omega, (put_eta hm).symm⟩ ?_ ?_
  · rintro i x δ' m' ex ⟨r, t', l', o, rfl, r0, r1, a, b, rfl⟩
    obtain ⟨hi, rfl⟩ := rng0_get ex
    simp
    refine ⟨mulL (by decide) (by decide), p, cs, t', l', 10, rfl, by simp, by decide, by decide, by omega, by omega, hc, fun d t2 l2 d0 d1 a2 b2 => ?_⟩
    simp
    refine ⟨by omega, ?_, t2, by omega, by omega, l2, rfl⟩
    have e : (10 : Int) ^ (i + 1) = 10 ^ i * 10 := Int.pow_succ ..
    omega
  · rintro δ' m' ⟨r, t', l', o, rfl, r0, r1, a, b, rfl⟩
    rw [rng_length] at r1 b
    refine hU _ _ ?_
    simp
    exact hq r t' l' r0 r1 a b
theorem hp_law_gcd {K : FragK} : ∀ ds m Q E, sp_gcd ds m Q E → n_law_gcd K (fun C ks vs _ m' => E C ks vs m') { nx := fun _ m' => Q .non m', rt := Q } (startD N_law_gcd ds) m := by
  rintro ds m Q E ⟨a, b, rfl, hq⟩
  exact hp_gcd (K := K) _ _ _ E ⟨a, b, rfl, hq⟩
def sp_law_point_form : SpD := fun ds m Q E => ∃ x y d : Int, ds = [.int x, .int y, .int d] ∧ 0 < d ∧ d < 2 ^ 1900 ∧ Q (.tup [.int (x / (Nat.gcd (Int.gcd x y) d.natAbs : Nat)), .int (y / (Nat.gcd (Int.gcd x y) d.natAbs : Nat)), .int (d / (Nat.gcd (Int.gcd x y) d.natAbs : Nat))]) m
theorem hp_law_point_form {K : FragK} : ∀ ds m Q E, sp_law_point_form ds m Q E → n_law_point_form K sp_gcd (fun C ks vs _ m' => E C ks vs m') { nx := fun _ m' => Q .non m', rt := Q } (startD N_law_point_form ds) m := by
  rintro ds m Q E ⟨x, y, d, rfl, h0, h1, hq⟩
  obtain ⟨g0, g1⟩ := gcdB (n := ((Int.gcd x y : Nat) : Int)) h0 h1
  have e : Int.gcd ((Int.gcd x y : Nat) : Int) d = Nat.gcd (Int.gcd x y) d.natAbs := rfl
  rw [e] at g0 g1
  have dv : ∀ z, DivOk z ((Nat.gcd (Int.gcd x y) d.natAbs : Nat) : Int) := fun z => divW (n := 1900) (by omega) (by simpa using g1) (by decide)
  simp [n_law_point_form, N_law_point_form]
  refine ⟨x, y, rfl, _, d, rfl, ?_⟩
  rw [e]
  simp
  refine ⟨dv x, dv y, dv d, litL (by decide), ?_⟩
  rw [fdiv_pos (by omega), fdiv_pos (by omega), fdiv_pos (by omega)]
  exact hq
def sp_law_map_corner : SpD := fun ds m Q E => ∃ a b c d e f u v : Int, ds = [.tup [.int a, .int b, .int c, .int d, .int e, .int f], .tup [.int u, .int v]] ∧ (u.natAbs < 2 ^ 60 ∧ v.natAbs < 2 ^ 60) ∧ Q (.tup [.int (a * u + b * v + e), .int (c * u + d * v + f)]) m
theorem hp_law_map_corner {K : FragK} : ∀ ds m Q E, sp_law_map_corner ds m Q E → n_law_map_corner K (fun C ks vs _ m' => E C ks vs m') { nx := fun _ m' => Q .non m', rt := Q } (startD N_law_map_corner ds) m := by
  rintro ds m Q E ⟨a, b, c, d, e, f, u, v, rfl, ⟨h1, h2⟩, hq⟩
  have mu : ∀ z, DL.MulOk z u := fun z => mulR (by omega) (by omega)
  have mv : ∀ z, DL.MulOk z v := fun z => mulR (by omega) (by omega)
  simp [n_law_map_corner, N_law_map_corner, L2.atI, L2.ixN]
  exact ⟨mu a, mv b, mu c, mv d, litL (by decide), hq⟩
end LW

namespace LW
open PySem PySem.Spec PyProof.Rows L2 DL TL
theorem hp_law_fraction {K : FragK} : ∀ ds m Q E, sp_reduced ds m Q E → n_law_fraction K sp_gcd (fun C ks vs _ m' => E C ks vs m') { nx := fun _ m' => Q .non m', rt := Q } (startD N_law_fraction ds) m := by
  rintro ds m Q E ⟨n, d, rfl, h0, h1, hq⟩
  exact hp_reduced (K := K) _ _ _ E ⟨n, d, rfl, h0, h1, hq⟩
theorem hp_law_fraction_text {K : FragK} : ∀ ds m Q E, sp_format_fraction ds m Q E → n_law_fraction_text K sp_reduced (fun C ks vs _ m' => E C ks vs m') { nx := fun _ m' => Q .non m', rt := Q } (startD N_law_fraction_text ds) m := by
  rintro ds m Q E ⟨n, d, rfl, h0, h1, h2, hq⟩
  have a := h1.div (Int.gcd_dvd_left (a := n) (b := d))
  have b := h2.div (Int.gcd_dvd_right (a := n) (b := d))
  have hb : d < 2 ^ 6600 := ltP h0 (Nat.lt_trans h2 (by decide +kernel))
  simp [n_law_fraction_text, N_law_fraction_text]
  refine ⟨n, d, rfl, h0, hb, ?_⟩
  simp
  by_cases e : d / (Int.gcd n d : Int) = 1
  · simp [e]
    refine ⟨a.log, ?_⟩
    unfold fracT at hq
    rw [if_pos e] at hq
    exact hq
  · have e' : ((d / (Int.gcd n d : Int)) == 1) = false := by simpa using e
    simp [e']
    unfold fracT at hq
    rw [if_neg e] at hq
    have l1 := a.len
    have l2 := b.len
    have l3 : (Str.ofString "/").length = 1 := rfl
    refine ⟨a.log, litL (by omega), b.log, ?_, hq⟩
    rw [app_len]
    exact litL (by omega)
theorem hp_law_point_text {K : FragK} : ∀ ds m Q E, sp_format_point ds m Q E → n_law_point_text K sp_format_fraction (fun C ks vs _ m' => E C ks vs m') { nx := fun _ m' => Q .non m', rt := Q } (startD N_law_point_text ds) m := by
  rintro ds m Q E ⟨x, y, d, rfl, h0, h1, h2, h3, hq⟩
  have l1 := fracT_len h1 h3
  have l2 := fracT_len h2 h3
  have l3 : (Str.ofString " ").length = 1 := rfl
  simp [n_law_point_text, N_law_point_text, L2.atI, L2.ixN]
  refine ⟨x, d, rfl, h0, h1, h3, litL (by omega), ?_⟩
  refine ⟨y, d, rfl, h0, h2, h3, ?_, hq⟩
  rw [app_len]
  exact litL (by omega)
def sp_law_has_form : SpD := fun ds m Q E => ∃ x y z : Int, ds = [.tup [.int x, .int y, .int z]] ∧ Q (.bl (ptShape (.tup [.int x, .int y, .int z]))) m
theorem hp_law_has_form {K : FragK} : ∀ ds m Q E, sp_law_has_form ds m Q E → n_law_has_form K sp_gcd (fun C ks vs _ m' => E C ks vs m') { nx := fun _ m' => Q .non m', rt := Q } (startD N_law_has_form ds) m := by
  rintro ds m Q E ⟨x, y, z, rfl, hq⟩
  simp only [n_law_has_form, N_law_has_form]
  refine seqI fun U hU => ?_
  simp [tyN, tyNames, isTy]
  refine hU _ _ ?_
  clear hU U
  refine seqI fun U hU => ?_
  simp
  refine lc_pure (xs := [.int x, .int y, .int z]) (fun _ => none) (fun R h => by simpa using h) (litT (by show 3 ≤ 1000000; decide)) (fun p d R hp hx r => ?_) ?_
  · simp at hx
    rcases hx with rfl | rfl | rfl <;> simp [tyN, tyNames, isTy] <;> exact r
  · simp
    refine hU _ _ ?_
    clear hU U
    simp [L2.atI, L2.ixN]
    by_cases hz : 0 < z
    · have hz' : 1 ≤ z := by omega
      simp [hz, ptShape, hz'] at hq ⊢
      refine ⟨_, _, rfl, _, _, rfl, ?_⟩
      simp only [toP, Option.some.injEq]
      refine ⟨_, rfl, by simp, ?_⟩
      rw [ev_int, gcd3]
      exact hq
    · have hz' : ¬1 ≤ z := by omega
      simp [hz, ptShape, hz'] at hq ⊢
      exact hq
def sp_law_is_point : SpD := fun ds m Q E => ∃ x y z : Int, ds = [.tup [.int x, .int y, .int z]] ∧ z < 2 ^ 60 ∧ Q (.bl (isPt (.tup [.int x, .int y, .int z]))) m
theorem hp_law_is_point {K : FragK} : ∀ ds m Q E, sp_law_is_point ds m Q E → n_law_is_point K sp_law_has_form (fun C ks vs _ m' => E C ks vs m') { nx := fun _ m' => Q .non m', rt := Q } (startD N_law_is_point ds) m := by
  rintro ds m Q E ⟨x, y, z, rfl, hz60, hq⟩
  have cp : CPow 10 6 := ⟨by decide, by decide, by decide⟩
  have cp2 : CPow 10 40 := ⟨by decide, by decide, by decide⟩
  simp [n_law_is_point, N_law_is_point, L2.atI, L2.ixN]
  refine ⟨x, y, z, rfl, ?_⟩
  by_cases hs : ptShape (.tup [.int x, .int y, .int z]) = true
  · simp [hs, cp, cp2]
    simp [ptShape] at hs
    by_cases hz : 1000000 < z
    · have hz' : ¬ z ≤ 1000000 := by omega
      simp [isPt, hs, hz'] at hq
      simp [hz]
      exact hq
    · have hz' : z ≤ 1000000 := by omega
      simp [isPt, hs, hz'] at hq
      simp [hz]
      refine ⟨mulR (by omega) (by omega), ?_⟩
      have e : decide (max (x.natAbs : Int) (y.natAbs : Int) ≤ 10000000000000000000000000000000000000000 * z) = (decide (-(10000000000000000000000000000000000000000 * z) ≤ x) && decide (x ≤ 10000000000000000000000000000000000000000 * z) && (decide (-(10000000000000000000000000000000000000000 * z) ≤ y) && decide (y ≤ 10000000000000000000000000000000000000000 * z))) := by
        rw [Bool.eq_iff_iff]
        simp
        omega
      rw [e]
      exact hq
  · have hs' : ptShape (.tup [.int x, .int y, .int z]) = false := by simpa using hs
    simp [hs']
    have e : isPt (.tup [.int x, .int y, .int z]) = false := by
      simp [ptShape] at hs'
      unfold isPt
      simp
      intro h1 h2
      exact absurd h2 (hs' h1)
    rw [e] at hq
    exact hq
end LW

namespace LW
open PySem PySem.Spec PyProof.Rows L2 DL TL
def row4 (r : Int × Int × Int × Int) : D := .tup [.int r.1, .int r.2.1, .int r.2.2.1, .int r.2.2.2]
def rows8 : List (Int × Int × Int × Int) := [(1, 0, 0, 1), (1, 1, 0, 1), (1, 0, 1, 1), (0, -1, 1, 0), (1, -1, 0, 1), (1, 0, -1, 1), (0, 1, 1, 0), (2, 1, 1, 1)]
theorem rows8_ok : ∀ r ∈ rows8, (r.1.natAbs + r.2.1.natAbs ≤ 3 ∧ r.2.2.1.natAbs + r.2.2.2.natAbs ≤ 3) ∧ (r.1 * r.2.2.2 - r.2.1 * r.2.2.1 = 1 ∨ r.1 * r.2.2.2 - r.2.1 * r.2.2.1 = -1) := by decide +kernel
theorem two_le {A B a c : Int} {k n : Nat} (h : A.natAbs + B.natAbs ≤ k) (h1 : a.natAbs ≤ n) (h2 : c.natAbs ≤ n) : (A * a + B * c + 0).natAbs ≤ k * n := by
  have e1 : (A * a + B * c + 0).natAbs ≤ (A * a).natAbs + (B * c).natAbs := by omega
  rw [Int.natAbs_mul, Int.natAbs_mul] at e1
  have e2 : A.natAbs * a.natAbs ≤ A.natAbs * n := Nat.mul_le_mul_left _ h1
  have e3 : B.natAbs * c.natAbs ≤ B.natAbs * n := Nat.mul_le_mul_left _ h2
  have e4 : (A.natAbs + B.natAbs) * n ≤ k * n := Nat.mul_le_mul_right _ h
  rw [Nat.add_mul] at e4
  omega
theorem det_mul (A B C D' a b c d : Int) : (A * a + B * c) * (C * b + D' * d) - (A * b + B * d) * (C * a + D' * c) = (A * D' - B * C) * (a * d - b * c) := by grind
def sp_law_table : SpD := fun ds m Q E => ∃ (p : Addr) (cs : List Int) (t l far : Int), ds = [.obj p, .int far] ∧ m p = some (penC cs t l) ∧ 0 ≤ far ∧ far < 2 ^ 60 ∧ 0 ≤ t ∧ t + 20 < 2 ^ 62 ∧ cs.length < 1000 ∧
  ∀ a b c d e f t' l' : Int, (a.natAbs ≤ 64 ∧ b.natAbs ≤ 64 ∧ c.natAbs ≤ 64 ∧ d.natAbs ≤ 64 ∧ e.natAbs ≤ far.natAbs ∧ f.natAbs ≤ far.natAbs) → (a * d - b * c = 1 ∨ a * d - b * c = -1) → t ≤ t' → t' ≤ t + 20 → Q (.tup [.int a, .int b, .int c, .int d, .int e, .int f]) (put m p (penC cs t' l'))
theorem hp_law_table {K : FragK} : ∀ ds m Q E, sp_law_table ds m Q E → n_law_table K sp_law_draw sp_law_pick sp_law_map_corner (fun C ks vs _ m' => E C ks vs m') { nx := fun _ m' => Q .non m', rt := Q } (startD N_law_table ds) m := by
  rintro ds m Q E ⟨p, cs, t, l, far, rfl, hm, f0, f1, t0, t1, hc, hq⟩
  simp only [n_law_table, N_law_table]
  refine seqI fun U hU => ?_
  simp
  repeat refine And.intro (litL (by decide)) ?_
  refine hU _ _ ?_
  clear hU U
  refine seqI fun U hU => ?_
  iterate 6 refine And.intro (litL (by decide)) ?_
  refine hU _ _ ?_
  clear hU U
  refine seqI fun U hU => ?_
  simp
  repeat refine And.intro (litL (by decide)) ?_
  refine hU _ _ ?_
  clear hU U
  refine seqI fun U hU => ?_
  refine for_at ?_
  simp
  refine ⟨p, cs, t, l, 4, rfl, hm, by decide, by decide, t0, by omega, hc, fun r t' l' r0 r1 a b => ?_⟩
  simp
  refine ⟨⟨by omega, by omega⟩, ?_⟩
  refine loop_of (fun i δ m' => ∃ (a b c d t' l' : Int) (o1 o4 : Option D), δ = [some (.obj p), some (.int far), some (.lst (rows8.map row4)), some (.tup [.int a, .int c]), some (.tup [.int b, .int d]), o1, none, none, o4] ∧
    (a.natAbs ≤ 3 ^ i ∧ b.natAbs ≤ 3 ^ i ∧ c.natAbs ≤ 3 ^ i ∧ d.natAbs ≤ 3 ^ i) ∧ (a * d - b * c = 1 ∨ a * d - b * c = -1) ∧ t ≤ t' ∧ t' ≤ t + 1 + i ∧ m' = put m p (penC cs t' l')) ⟨1, 0, 0, 1, t', l', _, _, rfl, by decide, by decide, a, by omega, rfl⟩ ?_ ?_
  · rintro i x δ' m' ex ⟨a, b, c, d, t2, l2, o1, o4, rfl, ⟨ha, hb, hc', hd⟩, hdet, ta, tb, rfl⟩
    obtain ⟨hi, rfl⟩ := rng0_get ex
    have hi4 : i < 4 := by omega
    have p3 : 3 ^ i ≤ 3 ^ 3 := Nat.pow_le_pow_right (by decide) (by omega)
    refine seqI fun U hU => ?_
    simp
    refine ⟨p, cs, t2, l2, _, rfl, by simp, by decide, by decide, by omega, by omega, hc, fun x t3 l3 hx x1 x2 => ?_⟩
    obtain ⟨⟨A, B, C, D'⟩, hr, rfl⟩ := List.mem_map.mp hx
    obtain ⟨⟨s1, s2⟩, sd⟩ := rows8_ok _ hr
    simp [row4]
    repeat refine And.intro (litL (by decide)) ?_
    refine hU _ _ ?_
    clear hU U
    simp
    refine ⟨A, B, C, D', 0, 0, a, c, rfl, ⟨by omega, by omega⟩, ?_⟩
    simp
    refine ⟨A, B, C, D', 0, 0, b, d, rfl, ⟨by omega, by omega⟩, ?_⟩
    simp
    have e3 : 3 ^ (i + 1) = 3 * 3 ^ i := by rw [Nat.pow_succ, Nat.mul_comm]
    refine ⟨A * a + B * c, A * b + B * d, C * a + D' * c, C * b + D' * d, ⟨⟨rfl, rfl⟩, rfl, rfl⟩, ?_, ?_, t3, by omega, by omega, l3, rfl⟩
    · rw [e3]
      have z1 := two_le (A := A) (B := B) s1 ha hc'
      have z2 := two_le (A := A) (B := B) s1 hb hd
      have z3 := two_le (A := C) (B := D') s2 ha hc'
      have z4 := two_le (A := C) (B := D') s2 hb hd
      simp at z1 z2 z3 z4
      exact ⟨z1, z2, z3, z4⟩
    · rw [det_mul]
      simp at sd
      rcases sd with z | z <;> rcases hdet with y | y <;> rw [z, y] <;> decide
  · rintro δ' m' ⟨a, b, c, d, t2, l2, o1, o4, rfl, ⟨ha, hb, hc', hd⟩, hdet, ta, tb, rfl⟩
    rw [rng_length] at ha hb hc' hd tb
    have p3 : 3 ^ r.toNat ≤ 3 ^ 3 := Nat.pow_le_pow_right (by decide) (by omega)
    have p27 : 3 ^ 3 = 27 := by decide
    refine hU _ _ ?_
    clear hU U
    refine seqI fun U hU => ?_
    simp
    refine ⟨mulL (by decide) (by decide), p, cs, t2, l2, _, rfl, by simp, by omega, by omega, by omega, by omega, hc, fun r1 t3 l3 x0 x1 y0 y1 => ?_⟩
    simp
    refine ⟨mulL (by decide) (by decide), p, cs, t3, l3, _, rfl, by simp, by omega, by omega, by omega, by omega, hc, fun r2 t4 l4 x2 x3 y2 y3 => ?_⟩
    simp
    refine hU _ _ ?_
    simp [L2.atI, L2.ixN]
    refine ⟨litL (by decide), ?_⟩
    exact hq a b c d _ _ t4 l4 ⟨by omega, by omega, by omega, by omega, by omega, by omega⟩ hdet (by omega) (by omega)
end LW

namespace LW
open PySem PySem.Spec PyProof.Rows L2 DL TL
theorem form_ok {x y d : Int} (hd : 0 < d) : 0 < d / ((Nat.gcd (Int.gcd x y) d.natAbs : Nat) : Int) ∧ d / ((Nat.gcd (Int.gcd x y) d.natAbs : Nat) : Int) ≤ d ∧
    Nat.gcd (Int.gcd (x / ((Nat.gcd (Int.gcd x y) d.natAbs : Nat) : Int)) (y / ((Nat.gcd (Int.gcd x y) d.natAbs : Nat) : Int))) (d / ((Nat.gcd (Int.gcd x y) d.natAbs : Nat) : Int)).natAbs = 1 ∧
    (x / ((Nat.gcd (Int.gcd x y) d.natAbs : Nat) : Int)).natAbs ≤ x.natAbs ∧ (y / ((Nat.gcd (Int.gcd x y) d.natAbs : Nat) : Int)).natAbs ≤ y.natAbs := by
  have hg : 0 < Nat.gcd (Int.gcd x y) d.natAbs := Nat.gcd_pos_of_pos_right _ (by omega)
  generalize hG : Nat.gcd (Int.gcd x y) d.natAbs = g at hg
  have dx : g ∣ x.natAbs := by rw [← hG]; exact Nat.dvd_trans (Nat.gcd_dvd_left ..) (Nat.gcd_dvd_left ..)
  have dy : g ∣ y.natAbs := by rw [← hG]; exact Nat.dvd_trans (Nat.gcd_dvd_left ..) (Nat.gcd_dvd_right ..)
  have dd : g ∣ d.natAbs := by rw [← hG]; exact Nat.gcd_dvd_right ..
  have ix : (g : Int) ∣ x := Int.ofNat_dvd_left.mpr dx
  have iy : (g : Int) ∣ y := Int.ofNat_dvd_left.mpr dy
  have id' : (g : Int) ∣ d := Int.ofNat_dvd_left.mpr dd
  have ax : (x / (g : Int)).natAbs = x.natAbs / g := by rw [Int.natAbs_ediv_of_dvd ix]; rfl
  have ay : (y / (g : Int)).natAbs = y.natAbs / g := by rw [Int.natAbs_ediv_of_dvd iy]; rfl
  have ad : (d / (g : Int)).natAbs = d.natAbs / g := by rw [Int.natAbs_ediv_of_dvd id']; rfl
  have p0 : 0 < d / (g : Int) := Int.ediv_pos_of_pos_of_dvd hd (by omega) id'
  refine ⟨p0, ?_, ?_, ?_, ?_⟩
  · have : (d / (g : Int)).natAbs ≤ d.natAbs := by rw [ad]; exact Nat.div_le_self _ _
    omega
  · have e : Int.gcd (x / (g : Int)) (y / (g : Int)) = Nat.gcd (x.natAbs / g) (y.natAbs / g) := by
      show Nat.gcd (x / (g : Int)).natAbs (y / (g : Int)).natAbs = _
      rw [ax, ay]
    have e2 : Int.gcd x y = Nat.gcd x.natAbs y.natAbs := rfl
    rw [e, ad, Nat.gcd_div dx dy]
    rw [e2] at hG
    rw [Nat.gcd_div (by rw [← hG]; exact Nat.gcd_dvd_left ..) dd, hG, Nat.div_self hg]
  · rw [ax]; exact Nat.div_le_self _ _
  · rw [ay]; exact Nat.div_le_self _ _
def sp_law_any_point : SpD := fun ds m Q E => ∃ (p : Addr) (cs : List Int) (t l : Int) (k : Nat), ds = [.obj p, .int k] ∧ m p = some (penC cs t l) ∧ k ≤ 50 ∧ 0 ≤ t ∧ t + 200 < 2 ^ 62 ∧ cs.length < 1000 ∧
  ∀ x y z t' l' : Int, 0 < z → z ≤ 1000000 → x.natAbs < 10 ^ 50 → y.natAbs < 10 ^ 50 → Nat.gcd (Int.gcd x y) z.natAbs = 1 → t ≤ t' → t' ≤ t + 200 → Q (.tup [.int x, .int y, .int z]) (put m p (penC cs t' l'))
theorem pm_le {r s : Int} {k : Nat} (r0 : 0 ≤ r) (r1 : r < 10 ^ k) (hk : k ≤ 50) (hs : s = 1 ∨ s = -1) : (r * s).natAbs < 10 ^ 50 := by
  have e : (r * s).natAbs = r.natAbs := by rcases hs with rfl | rfl <;> simp
  rw [e]
  have h : ((r.natAbs : Nat) : Int) < ((10 ^ k : Nat) : Int) := by
    rw [Int.natCast_pow]
    have : ((r.natAbs : Nat) : Int) = r := by omega
    rw [this]
    exact r1
  exact Nat.lt_of_lt_of_le (Int.ofNat_lt.mp h) (Nat.pow_le_pow_right (by decide) hk)
theorem hp_law_any_point {K : FragK} : ∀ ds m Q E, sp_law_any_point ds m Q E → n_law_any_point K sp_law_draw sp_law_pick sp_law_great sp_law_point_form (fun C ks vs _ m' => E C ks vs m') { nx := fun _ m' => Q .non m', rt := Q } (startD N_law_any_point ds) m := by
  rintro ds m Q E ⟨p, cs, t, l, k, rfl, hm, hk, t0, t1, hc, hq⟩
  have cp : CPow 10 6 := ⟨by decide, by decide, by decide⟩
  simp only [n_law_any_point, N_law_any_point]
  refine seqI fun U hU => ?_
  simp [↓dAsg, ↓dCallF, ↓dCons, ↓dNil, ↓dC, ↓dVar, ↓dLst, ↓dOp, cp]
  refine ⟨p, cs, t, l, _, rfl, hm, by decide, by decide, t0, by omega, hc, fun r t2 l2 r0 r1 a b => ?_⟩
  refine And.intro (litL (by decide)) ?_
  refine ⟨p, cs, t2, l2, _, rfl, put_same, by show 0 < 8; decide, by show 8 < 1000; decide, by omega, by omega, hc, fun d t3 l3 hd a3 b3 => ?_⟩
  obtain ⟨z, rfl, z0, z1⟩ : ∃ z : Int, d = .int z ∧ 0 < z ∧ z ≤ 1000000 := by
    have r1' : r < 1000000 := r1
    simp at hd
    rcases hd with rfl | rfl | rfl | rfl | rfl | rfl | rfl | rfl
    · exact ⟨_, rfl, by decide, by decide⟩
    · exact ⟨_, rfl, by decide, by decide⟩
    · exact ⟨_, rfl, by decide, by decide⟩
    · exact ⟨_, rfl, by decide, by decide⟩
    · exact ⟨_, rfl, by decide, by decide⟩
    · exact ⟨_, rfl, by decide, by decide⟩
    · exact ⟨_, rfl, by decide, by decide⟩
    · exact ⟨_, rfl, by omega, by omega⟩
  rw [put_put']
  refine hU _ _ ?_
  clear hU U hd
  have coord : ∀ (j : Nat) (δ : DSt) (rest : DS) (N : DEnds) (W : DW) (t3 l3 : Int), δ[0]? = some (some (.obj p)) → δ[1]? = some (some (.int k)) → 0 ≤ t3 → t3 + 60 < 2 ^ 62 →
      (∀ x t4 l4 : Int, x.natAbs < 10 ^ 50 → t3 ≤ t4 → t4 ≤ t3 + 60 → rest N (δ.set j (some (.int x))) (put m p (penC cs t4 l4))) →
      dSeq (dAsg (dOp oMul (dCallF sp_law_great W (dCons (dVar 0) (dCons (dCallF sp_law_pick W (dCons (dVar 0) (dCons (dLst (dCons (dC (.int 1)) (dCons (dC (.int 6)) (dCons (dVar 1) dNil)))) dNil))) dNil))) (dCallF sp_law_pick W (dCons (dVar 0) (dCons (dLst (dCons (dC (.int 1)) (dCons (dNeg (dC (.int 1))) dNil))) dNil)))) (hName j)) rest N δ (put m p (penC cs t3 l3)) := by
    intro j δ rest N W t3 l3 h0 h1 s0 s1 hr
    refine seqI fun U hU => ?_
    simp [h0, h1]
    refine And.intro (litL (by decide)) ?_
    refine ⟨p, cs, t3, l3, _, rfl, put_same, by show 0 < 3; decide, by show 3 < 1000; decide, s0, by omega, hc, fun f t4 l4 hf a4 b4 => ?_⟩
    obtain ⟨n, rfl, hn⟩ : ∃ n : Nat, f = .int n ∧ n ≤ 50 := by
      simp at hf
      rcases hf with rfl | rfl | rfl
      · exact ⟨1, rfl, by decide⟩
      · exact ⟨6, rfl, by decide⟩
      · exact ⟨k, rfl, hk⟩
    rw [put_put']
    refine ⟨p, cs, t4, l4, n, rfl, put_same, by omega, by omega, by omega, hc, fun r t5 l5 r0 r1 a5 b5 => ?_⟩
    rw [put_put']
    simp [h0]
    refine And.intro (litL (by decide)) ?_
    refine ⟨p, cs, t5, l5, _, rfl, put_same, by show 0 < 2; decide, by show 2 < 1000; decide, by omega, by omega, hc, fun g t6 l6 hg a6 b6 => ?_⟩
    obtain ⟨s, rfl, hs⟩ : ∃ s : Int, g = .int s ∧ (s = 1 ∨ s = -1) := by
      simp at hg
      rcases hg with rfl | rfl
      · exact ⟨1, rfl, .inl rfl⟩
      · exact ⟨-1, rfl, .inr rfl⟩
    rw [put_put']
    simp
    refine ⟨mulR (by omega) (by omega), hU _ _ (hr _ t6 l6 (pm_le r0 r1 hn hs) (by omega) (by omega))⟩
  refine coord 3 _ _ _ _ _ _ rfl rfl (by omega) (by omega) fun x t4 l4 hx a4 b4 => ?_
  refine coord 4 _ _ _ _ _ _ rfl rfl (by omega) (by omega) fun y t5 l5 hy a5 b5 => ?_
  simp
  refine ⟨x, y, z, rfl, z0, by omega, ?_⟩
  obtain ⟨f1, f2, f3, f4, f5⟩ := form_ok (x := x) (y := y) z0
  exact hq _ _ _ t5 l5 f1 (by omega) (by omega) (by omega) f3 (by omega) (by omega)
end LW

namespace LW
open PySem PySem.Spec PyProof.Rows L2 DL TL
def sp_law_parsed : SpD := fun ds m Q E => ∃ t : Str, ds = [.str t] ∧ Tx t ∧ (isNon (pointIn t) = false → Q (.lst [pointIn t]) m) ∧ (isNon (pointIn t) = true → ∀ a c, m a = none → Q (.str t) (put m a c))
theorem hp_law_parsed {K : FragK} (hx : exk K = true) : ∀ ds m Q E, sp_law_parsed ds m Q E → n_law_parsed K (sp_parse_point K) (fun C ks vs _ m' => E C ks vs m') { nx := fun _ m' => Q .non m', rt := Q } (startD N_law_parsed ds) m := by
  rintro ds m Q E ⟨t, rfl, ht, hq, hn⟩
  simp only [n_law_parsed, N_law_parsed]
  refine seqI fun U hU => ?_
  simp
  refine hU _ _ ?_
  clear hU U
  refine seqI fun U hU => ?_
  simp [-isNon]
  refine ⟨.str t, rfl, rfl, fun t' e => by cases e; exact ht, fun h => ⟨litL (by decide), hq h⟩, fun h => ?_⟩
  refine ⟨true, exm_ParseError_ParseError hx, fun _ a ha => hU _ _ ?_, fun z => by cases z⟩
  clear hU U
  have S := xs_ParseError hx
  have ty : TyV K (put m a (.exc (He.ga K "ParseError") ["value"] [.str t])) (.obj a) (.ref (He.ga K "ParseError")) := .inr ⟨a, _, _, _, rfl, put_same, rfl, S.exc⟩
  refine seqI fun U hU => ?_
  simp
  refine ⟨litL (by decide), _, ty, [Value.ref (He.ga K "CommandError"), Value.ref (He.ga K "InvalidPoint")], rfl, .inl ⟨?_, hU _ _ ?_⟩⟩
  · simp [PySem.W.kitAny, kit_ParseError_CommandError hx, kit_ParseError_InvalidPoint hx]
  · clear hU U
    simp
    exact ⟨_, ty, _, rfl, .inr ⟨kit_ParseError_ValueError hx, S.xf, S.no, hn h a _ ha⟩⟩
/-! ### what repr shows -/
theorem joinL_len (S : List Nat) : ∀ ps : List (List Nat), (joinL S ps).length ≤ (ps.map List.length).sum + ps.length * S.length
  | [] => by simp [joinL]
  | [p] => by simp [joinL]
  | p :: q :: r => by
    have ih := joinL_len S (q :: r)
    show (p ++ (S ++ joinL S (q :: r))).length ≤ _
    rw [List.length_append, List.length_append, List.map_cons, List.sum_cons, List.length_cons, Nat.add_mul]
    omega
theorem in_joinL {S : List Nat} {c : Nat} : ∀ {ps : List (List Nat)}, c ∈ joinL S ps → c ∈ S ∨ ∃ p ∈ ps, c ∈ p
  | [], h => by cases h
  | [p], h => .inr ⟨p, List.mem_cons_self, h⟩
  | p :: q :: r, h => by
    have h2 : c ∈ p ++ (S ++ joinL S (q :: r)) := h
    rcases List.mem_append.mp h2 with h3 | h3
    · exact .inr ⟨p, List.mem_cons_self, h3⟩
    · rcases List.mem_append.mp h3 with h4 | h4
      · exact .inl h4
      · rcases in_joinL h4 with h5 | ⟨z, h5, h6⟩
        · exact .inl h5
        · exact .inr ⟨z, List.mem_cons_of_mem _ h5, h6⟩
theorem join_len (y : Str) (ts : List Str) : (Str.join y ts).length ≤ (ts.map (·.length)).sum + ts.length * y.length := by
  rw [len_tl, tl_join]
  have h := joinL_len (tl y) (ts.map tl)
  rw [List.length_map, List.map_map] at h
  have e : (ts.map (List.length ∘ tl)) = ts.map (·.length) := List.map_congr_left fun t _ => (len_tl t).symm
  rw [e, ← len_tl y] at h
  exact h
theorem app_ok {x y : Str} (hx : PyData.strOk x = true) (hy : PyData.strOk y = true) : PyData.strOk (x ++ y) = true := ok_of fun c hc => by
  rw [tl_append] at hc
  rcases List.mem_append.mp hc with h | h
  · exact of_ok hx c h
  · exact of_ok hy c h
theorem join_ok {y : Str} {ts : List Str} (hy : PyData.strOk y = true) (ht : ∀ t ∈ ts, PyData.strOk t = true) : PyData.strOk (Str.join y ts) = true := ok_of fun c hc => by
  rw [tl_join] at hc
  rcases in_joinL hc with h | ⟨p, hp, h⟩
  · exact of_ok hy c h
  · obtain ⟨t, h1, rfl⟩ := List.mem_map.mp hp
    exact of_ok (ht t h1) c h
/-- may be shown, compared -/
structure Shows (p : PyData) (n : Nat) : Prop where
  sh : p.showable = true
  nd : p.hasDict = false
  dp : p.depth ≤ 2
  len : p.shown.length ≤ n
  ok : PyData.strOk p.shown = true
theorem showAll {xs : List PyData} (h : ∀ x ∈ xs, x.showable = true) : PyData.showableAll xs = true := by
  induction xs with
  | nil => simp [PyData.showableAll]
  | cons x xs ih => simp [PyData.showableAll, h x List.mem_cons_self, ih fun y hy => h y (List.mem_cons_of_mem _ hy)]
theorem dictAll {xs : List PyData} (h : ∀ x ∈ xs, x.hasDict = false) : PyData.hasDictAll xs = false := by
  induction xs with
  | nil => simp [PyData.hasDictAll]
  | cons x xs ih => simp [PyData.hasDictAll, h x List.mem_cons_self, ih fun y hy => h y (List.mem_cons_of_mem _ hy)]
theorem shows_ints {ns : List Int} (h : ∀ n ∈ ns, Sm n) (hl : ns.length ≤ 6) : Shows (.tuple (ns.map PyData.int)) 3400 := by
  have e : (PyData.tuple (ns.map PyData.int)).shown = ("(" : Str) ++ Str.join ", " (ns.map numS) ++ (if (ns.map PyData.int).length == 1 then ",)" else ")" : String) := by
    rw [PyData.shown_tuple, PyData.shownAll_ints]
    rfl
  refine ⟨?_, ?_, ?_, ?_, ?_⟩
  · simp only [PyData.showable]
    refine showAll fun x hx => ?_
    obtain ⟨n, hn, rfl⟩ := List.mem_map.mp hx
    simp only [PyData.showable]
    exact decide_eq_true (h n hn).log
  · simp only [PyData.hasDict]
    refine dictAll fun x hx => ?_
    obtain ⟨n, hn, rfl⟩ := List.mem_map.mp hx
    simp only [PyData.hasDict]
  · simp only [PyData.depth]
    have := depAll (ps := ns.map PyData.int) (k := 0) fun p hp => by
      obtain ⟨n, hn, rfl⟩ := List.mem_map.mp hp
      simp [PyData.depth]
    omega
  · rw [e, app_len, app_len]
    have h1 := join_len (Str.ofString ", ") (ns.map numS)
    have h2 := sum_le (l := (ns.map numS).map (·.length)) (b := 561) (by
      intro x hx
      simp at hx
      obtain ⟨n, hn, rfl⟩ := hx
      exact (h n hn).len)
    simp only [List.length_map] at h1 h2
    have h3 : (Str.ofString ", ").length = 2 := rfl
    have h4 : (Str.ofString "(").length = 1 := rfl
    have h5 : (Str.ofString (if (ns.map PyData.int).length == 1 then ",)" else ")" : String)).length ≤ 2 := by
      split
      · exact (by decide : (Str.ofString ",)").length ≤ 2)
      · exact (by decide : (Str.ofString ")").length ≤ 2)
    rw [h3] at h1
    have h6 : ns.length * 561 ≤ 6 * 561 := Nat.mul_le_mul_right _ hl
    omega
  · rw [e]
    refine app_ok (app_ok (by decide +kernel) (join_ok (by decide +kernel) fun t ht => ?_)) ?_
    · obtain ⟨n, hn, rfl⟩ := List.mem_map.mp ht
      exact num_ok n
    · split
      · exact (by decide +kernel : PyData.strOk (Str.ofString ",)") = true)
      · exact (by decide +kernel : PyData.strOk (Str.ofString ")") = true)
theorem shows_one {p : PyData} {n : Nat} (h : Shows p n) (hd : p.depth ≤ 1) : Shows (.list [p]) (n + 2) := by
  have e : (PyData.list [p]).shown = ("[" : Str) ++ p.shown ++ ("]" : Str) := by
    rw [PyData.shown_list, PyData.shownAll_cons, PyData.shownAll_nil]
    rfl
  refine ⟨?_, ?_, ?_, ?_, ?_⟩
  · simp [PyData.showable, PyData.showableAll, h.sh]
  · simp [PyData.hasDict, PyData.hasDictAll, h.nd]
  · simp [PyData.depth, PyData.depthAll]
    omega
  · rw [e, app_len, app_len]
    have h3 : (Str.ofString "[").length = 1 := rfl
    have h4 : (Str.ofString "]").length = 1 := rfl
    have := h.len
    omega
  · rw [e]
    exact app_ok (app_ok (by decide +kernel) h.ok) (by decide +kernel)
theorem chars_ok : ∀ c : Nat, c < 127 → ((Builtin.Str.reprChar 39 c).all fun d => decide (d < 1114112)) = true ∧ ((Builtin.Str.reprChar 34 c).all fun d => decide (d < 1114112)) = true := by decide +kernel
theorem quote_of (x : Str) : PySem.reprQuote x = 39 ∨ PySem.reprQuote x = 34 := by
  unfold PySem.reprQuote
  split <;> simp
theorem repr_ok {x : Str} (h : ∀ c ∈ tl x, c < 127) : PyData.strOk (reprText x) = true := ok_of fun c hc => by
  have key : ∀ (l : List Nat) (acc : Array Nat), (∀ c ∈ l, c < 127) → (∀ c ∈ acc.toList, c < 1114112) → ∀ c ∈ (l.foldl (fun out c => out ++ (Builtin.Str.reprChar (PySem.reprQuote x) c).toArray) acc).toList, c < 1114112 := by
    intro l
    induction l with
    | nil => intro acc _ ha c hc; exact ha c hc
    | cons d l ih =>
      intro acc hl ha c hc
      refine ih _ (fun e he => hl e (List.mem_cons_of_mem _ he)) ?_ c hc
      intro e he
      rw [Array.toList_append] at he
      rcases List.mem_append.mp he with z | z
      · exact ha e z
      · have hd := chars_ok d (hl d List.mem_cons_self)
        have z' : e ∈ Builtin.Str.reprChar (PySem.reprQuote x) d := by simpa using z
        rcases quote_of x with q | q <;> rw [q] at z'
        · exact of_decide_eq_true (List.all_eq_true.mp hd.1 e z')
        · exact of_decide_eq_true (List.all_eq_true.mp hd.2 e z')
  unfold reprText at hc
  have hq : PySem.reprQuote x < 1114112 := by rcases quote_of x with q | q <;> rw [q] <;> decide
  have hc2 : c ∈ ((x.cps.foldl (fun out c => out ++ (Builtin.Str.reprChar (PySem.reprQuote x) c).toArray) #[PySem.reprQuote x]).push (PySem.reprQuote x)).toList := hc
  rw [Array.toList_push] at hc2
  rcases List.mem_append.mp hc2 with z | z
  · rw [← Array.foldl_toList] at z
    exact key _ _ h (fun c hc => by simp at hc; rw [hc]; exact hq) c z
  · rw [List.mem_singleton.mp z]
    exact hq
theorem shows_str {x : Str} {n : Nat} (h : ∀ c ∈ tl x, c < 127) (hl : x.length ≤ n) : Shows (.str x) (10 * n + 2) := by
  refine ⟨by simp [PyData.showable], by simp [PyData.hasDict], by simp [PyData.depth], ?_, ?_⟩
  · rw [PyData.shown_str]
    have := StrLaws.reprText_len x fun c hc => Nat.lt_trans (h c hc) (by decide)
    omega
  · rw [PyData.shown_str]
    exact repr_ok h
end LW

namespace LW
open PySem PySem.Spec PyProof.Rows L2 DL TL
/-- a point of the law's own making -/
structure Pt (x y z : Int) : Prop where
  z0 : 0 < z
  z1 : z ≤ 1000000
  hx : x.natAbs < 10 ^ 50
  hy : y.natAbs < 10 ^ 50
  hg : Nat.gcd (Int.gcd x y) z.natAbs = 1
theorem sm50 {i : Int} (h : i.natAbs < 10 ^ 50) : Sm i := Nat.lt_trans h (by decide +kernel)
theorem Pt.sx {x y z : Int} (h : Pt x y z) : Sm x := sm50 h.hx
theorem Pt.sy {x y z : Int} (h : Pt x y z) : Sm y := sm50 h.hy
theorem Pt.sz {x y z : Int} (h : Pt x y z) : Sm z := sm50 (Nat.lt_of_le_of_lt (show z.natAbs ≤ 1000000 by have := h.z0; have := h.z1; omega) (by decide +kernel))
theorem Pt.place {x y z : Int} (h : Pt x y z) : placeIn (ptT x y z) = .tup [.int x, .int y, .int z] := placeIn_T h.z0 h.hg h.sx.b9 h.sy.b9 h.sz.b9
theorem len50 {i : Int} (h : i.natAbs < 10 ^ 50) : (numS i).length ≤ 51 := num_len (by decide) h
theorem fracT_len50 {n d : Int} (h1 : n.natAbs < 10 ^ 50) (h2 : d.natAbs < 10 ^ 50) : (fracT n d).length ≤ 110 := by
  have a := len50 (natAbs_ediv h1 (Int.gcd_dvd_left (a := n) (b := d)))
  have b := len50 (natAbs_ediv h2 (Int.gcd_dvd_right (a := n) (b := d)))
  unfold fracT
  split
  · omega
  · rw [app_len, app_len]
    have : sl.length = 1 := rfl
    omega
theorem fracT_plain {n d : Int} : ∀ c ∈ tl (fracT n d), c < 127 := by
  intro c hc
  have nm : ∀ i : Int, ∀ c ∈ tl (numS i), c < 127 := fun i c hc => by
    rcases num_signs i c hc with h | h <;> omega
  unfold fracT at hc
  split at hc
  · exact nm _ c hc
  · rw [tl_append, tl_append] at hc
    simp only [List.mem_append] at hc
    rcases hc with (h | h) | h
    · exact nm _ c h
    · have e : tl sl = [47] := rfl
      rw [e] at h
      rw [List.mem_singleton.mp h]
      decide
    · exact nm _ c h
theorem ptT_plain {x y z : Int} : ∀ c ∈ tl (ptT x y z), c < 127 := by
  intro c hc
  unfold ptT at hc
  rw [tl_append, tl_append] at hc
  simp only [List.mem_append] at hc
  rcases hc with (h | h) | h
  · exact fracT_plain c h
  · have e : tl sp = [32] := rfl
    rw [e] at h
    rw [List.mem_singleton.mp h]
    decide
  · exact fracT_plain c h
theorem Pt.len {x y z : Int} (h : Pt x y z) : (ptT x y z).length ≤ 221 := by
  have hz : z.natAbs < 10 ^ 50 := Nat.lt_of_le_of_lt (show z.natAbs ≤ 1000000 by have := h.z0; have := h.z1; omega) (by decide +kernel)
  have a := fracT_len50 h.hx hz
  have b := fracT_len50 h.hy hz
  unfold ptT
  rw [app_len, app_len]
  have : sp.length = 1 := rfl
  omega
theorem Pt.ok {x y z : Int} : PyData.strOk (ptT x y z) = true := ok_of fun c hc => Nat.lt_trans (ptT_plain c hc) (by decide)
theorem Pt.tx {x y z : Int} (h : Pt x y z) : Tx (ptT x y z) := ⟨Nat.le_trans h.len (by decide), Pt.ok⟩
theorem Pt.inj {x y z a b c : Int} (h : Pt x y z) (h' : Pt a b c) (e : ptT x y z = ptT a b c) : x = a ∧ y = b ∧ z = c := by
  have z := h'.place
  rw [← e, h.place] at z
  injection z with z
  injection z with z1 z
  injection z with z2 z
  injection z with z3 z
  injection z1 with z1
  injection z2 with z2
  injection z3 with z3
  exact ⟨z1, z2, z3⟩
/-! ### maps -/
structure Mp (ns : List Int) : Prop where
  len : ns.length = 6
  sm : ∀ n ∈ ns, n.natAbs < 10 ^ 42
  mp : isMapD (.tup (ns.map D.int)) = true
theorem len42 {i : Int} (h : i.natAbs < 10 ^ 42) : (numS i).length ≤ 43 := num_len (by decide) h
theorem Mp.s {ns : List Int} (h : Mp ns) : ∀ n ∈ ns, Sm n := fun n hn => Nat.lt_trans (h.sm n hn) (by decide +kernel)
theorem mapT_split {ns : List Int} (h : ns ≠ []) : Txt.split (mapT ns) sp = ns.map numS := by
  unfold mapT
  refine split_join (s := 32) (S := []) rfl (by decide +kernel) (by simpa using h) fun p hp => ?_
  obtain ⟨n, _, rfl⟩ := List.mem_map.mp hp
  exact num_free ⟨by decide, .inl (by decide)⟩
theorem Mp.ints {ns : List Int} (h : Mp ns) : intsIn (mapT ns) 6 = .tup (ns.map D.int) := by
  have hne : ns ≠ [] := fun e => by have := h.len; rw [e] at this; cases this
  have e : (Txt.split (mapT ns) sp).map (fun w => oI (intT w)) = ns.map D.int := by
    rw [mapT_split hne, List.map_map]
    refine List.map_congr_left fun n hn => ?_
    show oI (intT (numS n)) = _
    rw [intT_num (h.s n hn).b9]
    rfl
  unfold intsIn
  rw [e, if_pos]
  refine ⟨by rw [mapT_split hne, List.length_map]; exact h.len, ?_⟩
  rw [Bool.eq_false_iff]
  intro z
  obtain ⟨d, hd, hz⟩ := List.any_eq_true.mp z
  obtain ⟨n, _, rfl⟩ := List.mem_map.mp hd
  cases hz
theorem Mp.tx {ns : List Int} (h : Mp ns) : Tx (mapT ns) := by
  unfold mapT
  rw [join_eq]
  refine ⟨?_, join_ok (by decide +kernel) fun t ht => ?_⟩
  · have h1 := join_len sp (ns.map numS)
    have h2 := sum_le (l := (ns.map numS).map (·.length)) (b := 43) (by
      intro x hx
      simp at hx
      obtain ⟨n, hn, rfl⟩ := hx
      exact len42 (h.sm n hn))
    simp only [List.length_map] at h1 h2
    have h3 : sp.length = 1 := rfl
    rw [h3] at h1
    have h4 := h.len
    rw [h4] at h1 h2
    omega
  · obtain ⟨n, _, rfl⟩ := List.mem_map.mp ht
    exact num_ok n
theorem Mp.mapIn {ns : List Int} (h : Mp ns) : mapIn (mapT ns) = .tup (ns.map D.int) := by
  unfold LW.mapIn
  rw [h.ints, if_pos h.mp]
end LW

namespace LW
open PySem PySem.Spec PyProof.Rows L2 DL TL
abbrev P3 := Int × Int × Int
def ptD (e : P3) : D := .tup [.int e.1, .int e.2.1, .int e.2.2]
def ptP (e : P3) : PyData := .tuple [.int e.1, .int e.2.1, .int e.2.2]
def txS (e : P3) : Str := ptT e.1 e.2.1 e.2.2
def entry (e : P3) : D := .tup [ptD e, .str (txS e)]
def PtE (e : P3) : Prop := Pt e.1 e.2.1 e.2.2
theorem ptD_toP (e : P3) : toP (ptD e) = some (ptP e) := by simp [ptD, toP, toPs, ptP]
theorem ptP_shows {e : P3} (h : PtE e) : Shows (ptP e) 3400 := shows_ints (ns := [e.1, e.2.1, e.2.2]) (by
  intro n hn
  simp at hn
  rcases hn with rfl | rfl | rfl
  · exact h.sx
  · exact h.sy
  · exact h.sz) (by show 3 ≤ 6; decide)
theorem repr_ok' {d : D} {p : PyData} {n : Nat} {m : Mu} {Q : DQ} (e : toP d = some p) (h : Shows p n) (hn : n ≤ 1000000) (q : Q (.str p.shown) m) : gRepr [d] m Q :=
  ⟨p, e, h.sh, h.nd, Nat.le_trans h.dp (by decide), litL (Nat.le_trans h.len hn), q⟩
theorem ne_same {s : Str} (h : PyData.strOk s = true) {m : Mu} {Q : DQ} (q : Q (.bl false) m) : gEq not (.str s) (.str s) m Q :=
  ⟨.str s, .str s, by simp [toP], by simp [toP], by simp [h], by simp [h], by simpa using q⟩
/-- what both reprs show -/
def bothP (e : P3) : PyData := if isPt (ptD e) = true then .list [ptP e] else .str (txS e)
def bothD (e : P3) : D := if isPt (ptD e) = true then .lst [ptD e] else .str (txS e)
theorem both_toP (e : P3) : toP (bothD e) = some (bothP e) := by
  unfold bothD bothP
  split
  · simp [toP, toPs, ptD_toP]
  · simp [toP]
theorem both_shows {e : P3} (h : PtE e) : Shows (bothP e) 4000 := by
  unfold bothP
  split
  · have z := shows_one (ptP_shows h) (by simp [ptP, PyData.depth, PyData.depthAll])
    exact ⟨z.sh, z.nd, z.dp, Nat.le_trans z.len (by decide), z.ok⟩
  · have z := shows_str (x := txS e) (n := 221) ptT_plain h.len
    exact ⟨z.sh, z.nd, z.dp, Nat.le_trans z.len (by decide), z.ok⟩
theorem pointIn_of {e : P3} (h : PtE e) : pointIn (txS e) = if isPt (ptD e) = true then ptD e else .non := by
  unfold pointIn txS
  rw [h.place]
  rfl
/-- the law's parsed, whatever the point -/
theorem parsed_at {e : P3} (h : PtE e) {m : Mu} {p q : Addr} {c c' : MC} (hp : m p = some c) (hq : m q = some c') {Q : DQ} {E : DX} (k : ∀ m', m' p = some c → m' q = some c' → Q (bothD e) m') : sp_law_parsed [.str (txS e)] m Q E := by
  refine ⟨txS e, rfl, h.tx, fun hn => ?_, fun hn a x ha => ?_⟩
  · rw [pointIn_of h] at hn ⊢
    unfold bothD at k
    by_cases z : isPt (ptD e) = true
    · rw [if_pos z] at k ⊢
      exact k m hp hq
    · rw [if_neg z] at hn
      cases hn
  · rw [pointIn_of h] at hn
    unfold bothD at k
    by_cases z : isPt (ptD e) = true
    · rw [if_pos z] at hn
      cases hn
    · rw [if_neg z] at k
      refine k _ ?_ ?_
      · rw [put_ne (fun z => by rw [z, ha] at hp; cases hp)]
        exact hp
      · rw [put_ne (fun z => by rw [z, ha] at hq; cases hq)]
        exact hq
theorem eqv_pt (a b : P3) : (ptP a).eqv (ptP b) = decide (a = b) := by
  obtain ⟨x, y, z⟩ := a
  obtain ⟨u, v, w⟩ := b
  rw [Bool.eq_iff_iff]
  simp [ptP, PyData.eqv, PyData.eqvAll]
theorem sh_pt (a : P3) : SeqAt.shaped (ptP a) = true := sh_tuple 0 (by decide) fun p hp => by
  simp at hp
  rcases hp with rfl | rfl | rfl <;> simp [PyData.canLay0, PyData.depth]
theorem eqv_tx {a b : P3} (ha : PtE a) (hb : PtE b) : (txS a == txS b) = decide (a = b) := by
  rw [Bool.eq_iff_iff]
  simp
  constructor
  · intro h
    obtain ⟨h1, h2, h3⟩ := ha.inj hb h
    obtain ⟨x, y, z⟩ := a
    obtain ⟨u, v, w⟩ := b
    simp at h1 h2 h3
    simp [h1, h2, h3]
  · rintro rfl
    rfl
@[simp] theorem ev_bl (a b : Bool) : PyData.eqv (.bool a) (.bool b) = (a == b) := by simp [PyData.eqv]
def mapD (ns : List Int) : D := .tup (ns.map D.int)
theorem mapD_toP (ns : List Int) : toP (mapD ns) = some (.tuple (ns.map PyData.int)) := by simp [mapD, toP]
end LW

namespace LW
open PySem PySem.Spec PyProof.Rows L2 DL TL
/-- the law's names in the loop -/
def St (ns : List Int) (p q : Addr) (δ : DSt) : Prop := ∃ o3 o4 o5 o6 o7 o8 o9 o10 : Option D, δ = [some (.scr (ns.map D.int)), some (.obj p), some (.obj q), o3, o4, o5, o6, o7, o8, o9, o10]
def LInv (ns : List Int) (p q : Addr) (i : Nat) (δ : DSt) (m' : Mu) : Prop := St ns p q δ ∧ ∃ (t l : Int) (L : List P3), m' p = some (penC ns t l) ∧ m' q = some (.lst (L.map entry)) ∧ (∀ e ∈ L, PtE e) ∧ L.length ≤ i ∧ 0 ≤ t ∧ t ≤ 2000 * i
theorem hp_law {K : FragK} (ns : List Int) (hns : ns.length ≤ 63) :
    n_law K sp_law_pen sp_law_pick sp_law_any_point sp_format_point sp_format_point sp_law_parsed sp_law_is_point sp_law_great sp_law_table sp_format_map (sp_parse_map K) (sp_parse_point K) W0 { nx := fun _ _ => False, rt := fun d _ => d = .bl true } (startD N_law [.scr (ns.map D.int)]) fun _ => none := by
  simp only [n_law, N_law]
  refine seqI fun U hU => ?_
  simp
  refine ⟨ns, rfl, hns, fun p _ => hU _ _ ?_⟩
  clear hU U
  refine seqI fun U hU => ?_
  simp
  refine fun q hq => hU _ _ ?_
  clear hU U
  have hpq : p ≠ q := fun e => by rw [e, put_same] at hq; cases hq
  refine seqI fun U hU => ?_
  refine for_at ?_
  simp
  refine ⟨⟨by omega, by omega⟩, ?_⟩
  have hn12 : (4 + min 8 (ns.length : Int)).toNat ≤ 12 := by omega
  generalize (4 + min 8 (ns.length : Int)).toNat = n at hn12
  refine loop_of (LInv ns p q)
    ⟨⟨_, _, _, _, _, _, _, _, rfl⟩, 0, 0, [], by rw [put_ne hpq, put_same], put_same, by simp, by simp, by decide, by decide⟩ ?_ ?_
  · rintro i x δ' m' ex ⟨⟨o3, o4, o5, o6, o7, o8, o9, o10, rfl⟩, t, l, L, hp, hq', hL, hLl, t0, t1⟩
    obtain ⟨hi, rfl⟩ := rng0_get ex
    have hi12 : i < 12 := by omega
    refine seqI fun U hU => ?_
    simp
    refine ⟨litL (by decide), p, ns, t, l, _, rfl, hp, by show 0 < 3; decide, by show 3 < 1000; decide, t0, by omega, by omega, fun f t2 l2 hf a2 b2 => ?_⟩
    obtain ⟨k, rfl, hk⟩ : ∃ k : Nat, f = .int k ∧ k ≤ 50 := by
      simp at hf
      rcases hf with rfl | rfl | rfl
      · exact ⟨20, rfl, by decide⟩
      · exact ⟨40, rfl, by decide⟩
      · exact ⟨46, rfl, by decide⟩
    refine ⟨p, ns, t2, l2, k, rfl, put_same, hk, by omega, by omega, by omega, fun x y z t3 l3 z0 z1 hx hy hg a3 b3 => ?_⟩
    rw [put_put']
    have hE : PtE (x, y, z) := ⟨z0, z1, hx, hy, hg⟩
    refine hU _ _ ?_
    clear hU U
    refine seqI fun U hU => ?_
    simp
    refine ⟨x, y, z, rfl, z0, hE.sx, hE.sy, hE.sz, ?_⟩
    simp
    refine hU _ _ ?_
    clear hU U
    refine seqI fun U hU => ?_
    have lp : (put m' p (penC ns t3 l3)) p = some (penC ns t3 l3) := put_same
    have lq : (put m' p (penC ns t3 l3)) q = some (.lst (L.map entry)) := by rw [put_ne (Ne.symm hpq)]; exact hq'
    generalize put m' p (penC ns t3 l3) = m1 at lp lq
    suffices H : ∀ m3, m3 p = some (penC ns t3 l3) → m3 q = some (.lst (L.map entry)) → U [some (.scr (ns.map D.int)), some (.obj p), some (.obj q), some (.int i), some (ptD (x, y, z)), some (.str (txS (x, y, z))), o6, o7, o8, o9, o10] m3 by
      simp [-gRepr, -gEq]
      refine ⟨x, y, z, rfl, z0, hE.sx, hE.sy, hE.sz, ?_⟩
      simp [-gRepr, -gEq]
      refine ne_same Pt.ok ?_
      refine parsed_at hE lp lq fun m3 p3 q3 => ?_
      refine repr_ok' (both_toP _) (both_shows hE) (by decide) ?_
      refine ⟨x, y, z, rfl, by omega, ?_⟩
      have e1 := both_toP (x, y, z)
      have e2 := both_shows hE
      have e3 := H m3 p3 q3
      by_cases hb : isPt (ptD (x, y, z)) = true
      · have hb' : isPt (.tup [.int x, .int y, .int z]) = true := hb
        unfold bothD at e1
        rw [if_pos hb] at e1
        simp only [hb']
        refine ⟨litL (by decide), ?_⟩
        refine repr_ok' e1 e2 (by decide) ?_
        exact ne_same e2.ok e3
      · have hb' : isPt (.tup [.int x, .int y, .int z]) = false := by simpa [ptD] using hb
        unfold bothD at e1
        rw [if_neg hb] at e1
        simp only [hb']
        refine repr_ok' e1 e2 (by decide) ?_
        exact ne_same e2.ok e3
    intro m3 p3 q3
    refine hU _ _ ?_
    clear hU U lp lq m1 hq' hp m'
    refine seqI fun U hU => ?_
    simp
    refine ⟨⟨_, q3⟩, litL (by decide), ?_⟩
    simp [q3]
    refine ⟨litT (by omega), hU _ _ ?_⟩
    clear hU U
    have eL : L.map entry ++ [.tup [ptD (x, y, z), .str (txS (x, y, z))]] = (L ++ [(x, y, z)]).map entry := by simp [entry]
    rw [eL]
    have p4 : (put m3 q (.lst ((L ++ [(x, y, z)]).map entry))) p = some (penC ns t3 l3) := by rw [put_ne hpq]; exact p3
    have q4 : (put m3 q (.lst ((L ++ [(x, y, z)]).map entry))) q = some (.lst ((L ++ [(x, y, z)]).map entry)) := put_same
    generalize put m3 q (.lst ((L ++ [(x, y, z)]).map entry)) = m4 at p4 q4
    have hL' : ∀ e ∈ L ++ [(x, y, z)], PtE e := by
      intro e he
      rcases List.mem_append.mp he with h | h
      · exact hL e h
      · rw [List.mem_singleton.mp h]
        exact hE
    have hLl' : (L ++ [(x, y, z)]).length ≤ i + 1 := by rw [List.length_append]; simp; omega
    generalize L ++ [(x, y, z)] = L' at q4 hL' hLl'
    refine seqI fun U hU => ?_
    simp
    refine ⟨p, ns, t3, l3, 40, rfl, p4, by decide, by omega, by omega, by omega, fun r t4 l4 r0 r1 a4 b4 => ?_⟩
    simp
    refine ⟨litL (by decide), p, ns, t4, l4, _, rfl, put_same, by show 0 < 2; decide, by show 2 < 1000; decide, by omega, by omega, by omega, fun g t5 l5 hg' a5 b5 => ?_⟩
    obtain ⟨s, rfl, hs⟩ : ∃ s : Int, g = .int s ∧ (s = 1 ∨ s = -1) := by
      simp at hg'
      rcases hg' with rfl | rfl
      · exact ⟨1, rfl, .inl rfl⟩
      · exact ⟨-1, rfl, .inr rfl⟩
    rw [put_put']
    simp
    refine ⟨mulR (by omega) (by omega), hU _ _ ?_⟩
    clear hU U
    have hk42 : (r * s).natAbs < 10 ^ 40 := by
      have e : (r * s).natAbs = r.natAbs := by rcases hs with rfl | rfl <;> simp
      rw [e]
      have h : ((r.natAbs : Nat) : Int) < ((10 ^ 40 : Nat) : Int) := by
        have : ((r.natAbs : Nat) : Int) = r := by omega
        rw [this]
        exact r1
      exact Int.ofNat_lt.mp h
    generalize r * s = kk at hk42
    refine seqI fun U hU => ?_
    simp [↓dAsg, ↓dCallF, ↓dCons, ↓dNil, ↓dC, ↓dVar, ↓dLst, ↓dOp, ↓dTup, ↓dNeg]
    refine ⟨⟨by decide, by decide, by decide⟩, p, ns, t5, l5, 1000000000, rfl, put_same, by decide, by decide, by omega, by omega, by omega, fun a b c d e f t6 l6 hsz hdet a6 b6 => ?_⟩
    rw [put_put']
    refine ⟨litL (by decide), litL (by decide), p, ns, t6, l6, _, rfl, put_same, by show 0 < 3; decide, by show 3 < 1000; decide, by omega, by omega, by omega, fun tb t7 l7 htb a7 b7 => ?_⟩
    rw [put_put']
    obtain ⟨mp, rfl, hM⟩ : ∃ mp : List Int, tb = mapD mp ∧ Mp mp := by
      simp at htb
      have k42 : ∀ {v : Int}, v.natAbs ≤ 1000000000 → v.natAbs < 10 ^ 42 := fun h => Nat.lt_of_le_of_lt h (by decide +kernel)
      have kk42 : kk.natAbs < 10 ^ 42 := Nat.lt_trans hk42 (by decide +kernel)
      rcases htb with rfl | rfl | rfl
      · refine ⟨[a, b, c, d, e, f], rfl, rfl, ?_, ?_⟩
        · intro v hv
          simp at hv
          rcases hv with rfl | rfl | rfl | rfl | rfl | rfl <;> exact k42 (by omega)
        · simp [isMapD]
          rcases hdet with h | h
          · exact .inl h.symm
          · exact .inr h.symm
      · refine ⟨[1, kk, 0, 1, 7, kk], rfl, rfl, ?_, ?_⟩
        · intro v hv
          simp at hv
          rcases hv with rfl | rfl | rfl | rfl | rfl | rfl
          · decide +kernel
          · exact kk42
          · decide +kernel
          · decide +kernel
          · decide +kernel
          · exact kk42
        · simp [isMapD]
      · refine ⟨[-1, 0, kk, 1, kk, -7], rfl, rfl, ?_, ?_⟩
        · intro v hv
          simp at hv
          rcases hv with rfl | rfl | rfl | rfl | rfl | rfl
          · decide +kernel
          · decide +kernel
          · exact kk42
          · decide +kernel
          · exact kk42
          · decide +kernel
        · simp [isMapD]
    refine hU _ _ ?_
    clear hU U htb hsz hdet
    have p8 : (put m4 p (penC ns t7 l7)) p = some (penC ns t7 l7) := put_same
    have q8 : (put m4 p (penC ns t7 l7)) q = some (.lst (L'.map entry)) := by rw [put_ne (Ne.symm hpq)]; exact q4
    generalize put m4 p (penC ns t7 l7) = m8 at p8 q8
    refine seqI fun U hU => ?_
    simp [mapD]
    refine lc_map (xs := mp.map D.int) (fun d => .str (match d with | .int i => numS i | _ => Str.empty)) (fun R h => by simpa using h) (litT (by rw [List.length_map, hM.len]; decide)) (fun p d R hp hx r => ?_) ?_
    · simp at hx
      obtain ⟨n, hm, rfl⟩ := hx
      simp
      exact ⟨(hM.s n hm).log, r⟩
    · simp
      refine ⟨mp.map numS, by simp, map_fits (k := 6) (by rw [hM.len]; decide) (by decide) hM.s, hU _ _ ?_⟩
      clear hU U
      have mi := hM.mapIn
      have tx := hM.tx
      show dIfS _ _ _ _ [some (.scr (ns.map D.int)), some (.obj p), some (.obj q), some (.int i), some (ptD (x, y, z)), some (.str (mapT mp)), some (.int kk), some (mapD mp), o8, o9, o10] m8
      have sm := shows_ints hM.s (by rw [hM.len]; decide)
      simp [-gRepr, -gEq]
      refine ⟨mp, rfl, by rw [hM.len]; decide, hM.s, ?_⟩
      refine ne_same tx.2 ?_
      refine ⟨.str (mapT mp), rfl, rfl, fun t' e => by cases e; exact tx, fun h => ?_, fun h => ?_⟩
      · have e : prs mapIn (.str (mapT mp)) = mapD mp := mi
        rw [e]
        refine repr_ok' (mapD_toP mp) sm (by decide) ?_
        refine repr_ok' (mapD_toP mp) sm (by decide) ?_
        refine ne_same sm.ok ?_
        exact ⟨⟨_, _, _, _, _, _, _, _, rfl⟩, t7, l7, L', p8, q8, hL', hLl', by omega, by omega⟩
      · have e : prs mapIn (.str (mapT mp)) = mapD mp := mi
        rw [e] at h
        cases h
  · rintro δ' m' ⟨⟨o3, o4, o5, o6, o7, o8, o9, o10, rfl⟩, t, l, L, hp, hq', hL, hLl, t0, t1⟩
    refine hU _ _ ?_
    clear hU U
    refine ⟨q, L.map entry, rfl, hq', ?_⟩
    rw [rng_length] at hLl
    have hl12 : L.length ≤ 12 := by omega
    generalize DL.del m' q = m1
    refine seqI fun U hU => ?_
    simp only [List.set_cons_succ, List.set_cons_zero]
    refine for_list (xs := L.map entry) (fun R h => by simpa using h) (fun i δ m' => m' = m1 ∧ ∃ o3 o4 o5 o6 o7 o8 o9 o10 : Option D, δ = [some (.scr (ns.map D.int)), some (.obj p), some (.lst (L.map entry)), o3, o4, o5, o6, o7, o8, o9, o10]) ⟨rfl, _, _, _, _, _, _, _, _, rfl⟩ ?_ ?_
    · rintro i x δ' m' ex ⟨rfl, o3, o4, o5, o6, o7, o8, o9, o10, rfl⟩
      rw [List.getElem?_map] at ex
      obtain ⟨e, he, rfl⟩ := Option.map_eq_some_iff.mp ex
      have hE := hL e (List.mem_of_getElem? he)
      simp [entry]
      refine lc_pure (xs := L.map entry) (fun _ => none) (fun R h => by simpa [entry] using h) (litT (by rw [List.length_map]; omega)) (fun h d R hp hx r => ?_) ?_
      · obtain ⟨u, hu, rfl⟩ := List.mem_map.mp hx
        have hU' := hL u hu
        simp [entry, ptD_toP]
        refine ⟨sh_pt u, sh_pt e, Pt.ok, Pt.ok, ?_⟩
        rw [eqv_pt, eqv_tx hU' hE]
        simp
        exact r
      · rw [show (L.map entry).filterMap (fun _ => (none : Option D)) = [] from by simp]
        refine ⟨.list [], by simp [toP, toPs], sh_nil, ?_⟩
        simp
    · rintro δ' m' ⟨rfl, o3, o4, o5, o6, o7, o8, o9, o10, rfl⟩
      refine hU _ _ ?_
      clear hU U
      have h00 : Pt 0 0 1 := ⟨by decide, by decide, by decide +kernel, by decide +kernel, by decide⟩
      have h12 : Pt (-1) 0 2 := ⟨by decide, by decide, by decide +kernel, by decide +kernel, by decide +kernel⟩
      have t00 : ptT 0 0 1 = Str.ofString "0 0" := by decide +kernel
      have t12 : ptT (-1) 0 2 = Str.ofString "-1/2 0" := by decide +kernel
      have i12 : isPt (ptD (-1, 0, 2)) = true := by decide +kernel
      have pi12 : pointIn (Str.ofString "-1/2 0") = ptD (-1, 0, 2) := by
        have z := pointIn_of (e := (-1, 0, 2)) h12
        rw [if_pos i12] at z
        rw [← t12]
        exact z
      simp
      refine ⟨litL (by decide), 0, 0, 1, rfl, by decide, h00.sx, h00.sy, h00.sz, ?_⟩
      rw [t00]
      simp
      refine ⟨by decide +kernel, ?_⟩
      refine ⟨.str (Str.ofString "-1/2 0"), rfl, rfl, fun t' e => by cases e; rw [← t12]; exact h12.tx, fun h => ?_, fun h => ?_⟩
      · have e : prs pointIn (.str (Str.ofString "-1/2 0")) = ptD (-1, 0, 2) := pi12
        rw [e]
        simp [ptD_toP, toPs]
        exact ⟨litL (by decide), sh_pt (-1, 0, 2), sh_pt (-1, 0, 2), by have z := eqv_pt (-1, 0, 2) (-1, 0, 2); simpa [ptP] using z⟩
      · have e : prs pointIn (.str (Str.ofString "-1/2 0")) = ptD (-1, 0, 2) := pi12
        rw [e] at h
        cases h
end LW

namespace LW
open PySem PySem.Spec PyProof.Rows L2 DL
def loose0 : List Str := ["InvalidPoint", "ParseError", "CommandError", "is_int", "is_int_in", "gcd", "lcm", "reduced", "cross", "MAX_DENOMINATOR", "MAX_DISTANCE", "is_point_shape", "is_point", "determinant", "is_map", "DIGITS", "MAX_DIGITS", "format_fraction", "format_point", "format_map", "integer_in", "fraction_in", "place_in", "integers_in", "point_in", "map_in", "parsed", "parse_point", "parse_map", "_law_pen"]
def loose1 : List Str := ["_law_draw", "_law_pick", "_law_great", "_law_gcd", "_law_point_form", "_law_map_corner", "_law_table", "_law_has_form", "_law_is_point", "_law_fraction", "_law_fraction_text", "_law_point_text", "_law_any_point", "_law_parsed"]
def loose : List Str := loose0 ++ loose1
abbrev R : PySem.W.OpenRow := PySem.W.OpenLaw.row PySem.Challenge.rw_outleap_k87_points_and_maps_as_texts
abbrev hk : PySem.W.Hook := hookX 5 fa fn exk
def ob (s : PySem.W.SharedT) : ObX := obsX 5 fa fn exk (HandSHeadRun.getT s)
theorem ob_eq (s : PySem.W.SharedT) : ob s = hk.obs s.abs := obsX_eq (HandSHeadRun.getT_eq s)
theorem run (w : World) : HandSHeadRun.RunEq R (PySem.W.view R.prog [50]) hk ob 20000 loose w := by
  intro os
  kernel_rfl
end LW

namespace LW
open PySem PySem.Spec PyProof.Rows L2 DL
theorem ok_is_int {P : Program} {w : World} {K : FragK} {mg : Str → Option Value} {base : Heap} (T : Told fa fn K mg) (hx : exk K = true) : FnD P w K mg base 2 "is_int" ["value"] sp_is_int :=
  mk_is_int T   (fun ds m Q E h => by first | (obtain ⟨_, rfl, _⟩ := h; rfl) | (obtain ⟨_, _, rfl, _⟩ := h; rfl) | (obtain ⟨_, _, _, rfl, _⟩ := h; rfl) | (obtain ⟨_, _, _, _, rfl, _⟩ := h; rfl) | (obtain ⟨_, _, _, _, _, rfl, _⟩ := h; rfl) | (obtain ⟨_, _, _, _, _, _, rfl, _⟩ := h; rfl) | (obtain ⟨_, _, _, _, _, _, _, rfl, _⟩ := h; rfl) | (obtain ⟨_, _, _, _, _, _, _, _, rfl, _⟩ := h; rfl) | (obtain ⟨_, _, _, _, _, _, _, _, _, rfl, _⟩ := h; rfl) | (obtain ⟨_, _, _, _, _, _, _, _, _, _, rfl, _⟩ := h; rfl) | (obtain ⟨_, _, _, _, _, _, _, _, _, _, _, rfl, _⟩ := h; rfl) | (obtain ⟨_, _, _, _, _, _, _, _, _, _, _, _, rfl, _⟩ := h; rfl)) hp_is_int
theorem ok_is_int_in {P : Program} {w : World} {K : FragK} {mg : Str → Option Value} {base : Heap} (T : Told fa fn K mg) (hx : exk K = true) : FnD P w K mg base 3 "is_int_in" ["value", "low", "high"] sp_is_int_in :=
  mk_is_int_in T ((ok_is_int T hx).up (by decide))  (fun ds m Q E h => by first | (obtain ⟨_, rfl, _⟩ := h; rfl) | (obtain ⟨_, _, rfl, _⟩ := h; rfl) | (obtain ⟨_, _, _, rfl, _⟩ := h; rfl) | (obtain ⟨_, _, _, _, rfl, _⟩ := h; rfl) | (obtain ⟨_, _, _, _, _, rfl, _⟩ := h; rfl) | (obtain ⟨_, _, _, _, _, _, rfl, _⟩ := h; rfl) | (obtain ⟨_, _, _, _, _, _, _, rfl, _⟩ := h; rfl) | (obtain ⟨_, _, _, _, _, _, _, _, rfl, _⟩ := h; rfl) | (obtain ⟨_, _, _, _, _, _, _, _, _, rfl, _⟩ := h; rfl) | (obtain ⟨_, _, _, _, _, _, _, _, _, _, rfl, _⟩ := h; rfl) | (obtain ⟨_, _, _, _, _, _, _, _, _, _, _, rfl, _⟩ := h; rfl) | (obtain ⟨_, _, _, _, _, _, _, _, _, _, _, _, rfl, _⟩ := h; rfl)) hp_is_int_in
theorem ok_gcd {P : Program} {w : World} {K : FragK} {mg : Str → Option Value} {base : Heap} (T : Told fa fn K mg) (hx : exk K = true) : FnD P w K mg base 2 "gcd" ["first", "second"] sp_gcd :=
  mk_gcd T   (fun ds m Q E h => by first | (obtain ⟨_, rfl, _⟩ := h; rfl) | (obtain ⟨_, _, rfl, _⟩ := h; rfl) | (obtain ⟨_, _, _, rfl, _⟩ := h; rfl) | (obtain ⟨_, _, _, _, rfl, _⟩ := h; rfl) | (obtain ⟨_, _, _, _, _, rfl, _⟩ := h; rfl) | (obtain ⟨_, _, _, _, _, _, rfl, _⟩ := h; rfl) | (obtain ⟨_, _, _, _, _, _, _, rfl, _⟩ := h; rfl) | (obtain ⟨_, _, _, _, _, _, _, _, rfl, _⟩ := h; rfl) | (obtain ⟨_, _, _, _, _, _, _, _, _, rfl, _⟩ := h; rfl) | (obtain ⟨_, _, _, _, _, _, _, _, _, _, rfl, _⟩ := h; rfl) | (obtain ⟨_, _, _, _, _, _, _, _, _, _, _, rfl, _⟩ := h; rfl) | (obtain ⟨_, _, _, _, _, _, _, _, _, _, _, _, rfl, _⟩ := h; rfl)) hp_gcd
theorem ok_lcm {P : Program} {w : World} {K : FragK} {mg : Str → Option Value} {base : Heap} (T : Told fa fn K mg) (hx : exk K = true) : FnD P w K mg base 3 "lcm" ["numbers"] sp_lcm :=
  mk_lcm T ((ok_gcd T hx).up (by decide))  (fun ds m Q E h => by first | (obtain ⟨_, rfl, _⟩ := h; rfl) | (obtain ⟨_, _, rfl, _⟩ := h; rfl) | (obtain ⟨_, _, _, rfl, _⟩ := h; rfl) | (obtain ⟨_, _, _, _, rfl, _⟩ := h; rfl) | (obtain ⟨_, _, _, _, _, rfl, _⟩ := h; rfl) | (obtain ⟨_, _, _, _, _, _, rfl, _⟩ := h; rfl) | (obtain ⟨_, _, _, _, _, _, _, rfl, _⟩ := h; rfl) | (obtain ⟨_, _, _, _, _, _, _, _, rfl, _⟩ := h; rfl) | (obtain ⟨_, _, _, _, _, _, _, _, _, rfl, _⟩ := h; rfl) | (obtain ⟨_, _, _, _, _, _, _, _, _, _, rfl, _⟩ := h; rfl) | (obtain ⟨_, _, _, _, _, _, _, _, _, _, _, rfl, _⟩ := h; rfl) | (obtain ⟨_, _, _, _, _, _, _, _, _, _, _, _, rfl, _⟩ := h; rfl)) hp_lcm
theorem ok_reduced {P : Program} {w : World} {K : FragK} {mg : Str → Option Value} {base : Heap} (T : Told fa fn K mg) (hx : exk K = true) : FnD P w K mg base 3 "reduced" ["numerator", "denominator"] sp_reduced :=
  mk_reduced T ((ok_gcd T hx).up (by decide))  (fun ds m Q E h => by first | (obtain ⟨_, rfl, _⟩ := h; rfl) | (obtain ⟨_, _, rfl, _⟩ := h; rfl) | (obtain ⟨_, _, _, rfl, _⟩ := h; rfl) | (obtain ⟨_, _, _, _, rfl, _⟩ := h; rfl) | (obtain ⟨_, _, _, _, _, rfl, _⟩ := h; rfl) | (obtain ⟨_, _, _, _, _, _, rfl, _⟩ := h; rfl) | (obtain ⟨_, _, _, _, _, _, _, rfl, _⟩ := h; rfl) | (obtain ⟨_, _, _, _, _, _, _, _, rfl, _⟩ := h; rfl) | (obtain ⟨_, _, _, _, _, _, _, _, _, rfl, _⟩ := h; rfl) | (obtain ⟨_, _, _, _, _, _, _, _, _, _, rfl, _⟩ := h; rfl) | (obtain ⟨_, _, _, _, _, _, _, _, _, _, _, rfl, _⟩ := h; rfl) | (obtain ⟨_, _, _, _, _, _, _, _, _, _, _, _, rfl, _⟩ := h; rfl)) hp_reduced
theorem ok_cross {P : Program} {w : World} {K : FragK} {mg : Str → Option Value} {base : Heap} (T : Told fa fn K mg) (hx : exk K = true) : FnD P w K mg base 2 "cross" ["first", "second"] sp_cross :=
  mk_cross T   (fun ds m Q E h => by first | (obtain ⟨_, rfl, _⟩ := h; rfl) | (obtain ⟨_, _, rfl, _⟩ := h; rfl) | (obtain ⟨_, _, _, rfl, _⟩ := h; rfl) | (obtain ⟨_, _, _, _, rfl, _⟩ := h; rfl) | (obtain ⟨_, _, _, _, _, rfl, _⟩ := h; rfl) | (obtain ⟨_, _, _, _, _, _, rfl, _⟩ := h; rfl) | (obtain ⟨_, _, _, _, _, _, _, rfl, _⟩ := h; rfl) | (obtain ⟨_, _, _, _, _, _, _, _, rfl, _⟩ := h; rfl) | (obtain ⟨_, _, _, _, _, _, _, _, _, rfl, _⟩ := h; rfl) | (obtain ⟨_, _, _, _, _, _, _, _, _, _, rfl, _⟩ := h; rfl) | (obtain ⟨_, _, _, _, _, _, _, _, _, _, _, rfl, _⟩ := h; rfl) | (obtain ⟨_, _, _, _, _, _, _, _, _, _, _, _, rfl, _⟩ := h; rfl)) hp_cross
theorem ok_is_point_shape {P : Program} {w : World} {K : FragK} {mg : Str → Option Value} {base : Heap} (T : Told fa fn K mg) (hx : exk K = true) : FnD P w K mg base 3 "is_point_shape" ["value"] sp_is_point_shape :=
  mk_is_point_shape T ((ok_is_int T hx).up (by decide)) ((ok_gcd T hx).up (by decide))  (fun ds m Q E h => by first | (obtain ⟨_, rfl, _⟩ := h; rfl) | (obtain ⟨_, _, rfl, _⟩ := h; rfl) | (obtain ⟨_, _, _, rfl, _⟩ := h; rfl) | (obtain ⟨_, _, _, _, rfl, _⟩ := h; rfl) | (obtain ⟨_, _, _, _, _, rfl, _⟩ := h; rfl) | (obtain ⟨_, _, _, _, _, _, rfl, _⟩ := h; rfl) | (obtain ⟨_, _, _, _, _, _, _, rfl, _⟩ := h; rfl) | (obtain ⟨_, _, _, _, _, _, _, _, rfl, _⟩ := h; rfl) | (obtain ⟨_, _, _, _, _, _, _, _, _, rfl, _⟩ := h; rfl) | (obtain ⟨_, _, _, _, _, _, _, _, _, _, rfl, _⟩ := h; rfl) | (obtain ⟨_, _, _, _, _, _, _, _, _, _, _, rfl, _⟩ := h; rfl) | (obtain ⟨_, _, _, _, _, _, _, _, _, _, _, _, rfl, _⟩ := h; rfl)) hp_is_point_shape
theorem ok_is_point {P : Program} {w : World} {K : FragK} {mg : Str → Option Value} {base : Heap} (T : Told fa fn K mg) (hx : exk K = true) : FnD P w K mg base 4 "is_point" ["value"] sp_is_point :=
  mk_is_point T ((ok_is_point_shape T hx).up (by decide)) ((ok_is_int_in T hx).up (by decide))  (fun ds m Q E h => by first | (obtain ⟨_, rfl, _⟩ := h; rfl) | (obtain ⟨_, _, rfl, _⟩ := h; rfl) | (obtain ⟨_, _, _, rfl, _⟩ := h; rfl) | (obtain ⟨_, _, _, _, rfl, _⟩ := h; rfl) | (obtain ⟨_, _, _, _, _, rfl, _⟩ := h; rfl) | (obtain ⟨_, _, _, _, _, _, rfl, _⟩ := h; rfl) | (obtain ⟨_, _, _, _, _, _, _, rfl, _⟩ := h; rfl) | (obtain ⟨_, _, _, _, _, _, _, _, rfl, _⟩ := h; rfl) | (obtain ⟨_, _, _, _, _, _, _, _, _, rfl, _⟩ := h; rfl) | (obtain ⟨_, _, _, _, _, _, _, _, _, _, rfl, _⟩ := h; rfl) | (obtain ⟨_, _, _, _, _, _, _, _, _, _, _, rfl, _⟩ := h; rfl) | (obtain ⟨_, _, _, _, _, _, _, _, _, _, _, _, rfl, _⟩ := h; rfl)) hp_is_point
theorem ok_determinant {P : Program} {w : World} {K : FragK} {mg : Str → Option Value} {base : Heap} (T : Told fa fn K mg) (hx : exk K = true) : FnD P w K mg base 3 "determinant" ["mapping"] sp_determinant :=
  mk_determinant T ((ok_cross T hx).up (by decide))  (fun ds m Q E h => by first | (obtain ⟨_, rfl, _⟩ := h; rfl) | (obtain ⟨_, _, rfl, _⟩ := h; rfl) | (obtain ⟨_, _, _, rfl, _⟩ := h; rfl) | (obtain ⟨_, _, _, _, rfl, _⟩ := h; rfl) | (obtain ⟨_, _, _, _, _, rfl, _⟩ := h; rfl) | (obtain ⟨_, _, _, _, _, _, rfl, _⟩ := h; rfl) | (obtain ⟨_, _, _, _, _, _, _, rfl, _⟩ := h; rfl) | (obtain ⟨_, _, _, _, _, _, _, _, rfl, _⟩ := h; rfl) | (obtain ⟨_, _, _, _, _, _, _, _, _, rfl, _⟩ := h; rfl) | (obtain ⟨_, _, _, _, _, _, _, _, _, _, rfl, _⟩ := h; rfl) | (obtain ⟨_, _, _, _, _, _, _, _, _, _, _, rfl, _⟩ := h; rfl) | (obtain ⟨_, _, _, _, _, _, _, _, _, _, _, _, rfl, _⟩ := h; rfl)) hp_determinant
theorem ok_is_map {P : Program} {w : World} {K : FragK} {mg : Str → Option Value} {base : Heap} (T : Told fa fn K mg) (hx : exk K = true) : FnD P w K mg base 4 "is_map" ["value"] sp_is_map :=
  mk_is_map T ((ok_is_int T hx).up (by decide)) ((ok_determinant T hx).up (by decide))  (fun ds m Q E h => by first | (obtain ⟨_, rfl, _⟩ := h; rfl) | (obtain ⟨_, _, rfl, _⟩ := h; rfl) | (obtain ⟨_, _, _, rfl, _⟩ := h; rfl) | (obtain ⟨_, _, _, _, rfl, _⟩ := h; rfl) | (obtain ⟨_, _, _, _, _, rfl, _⟩ := h; rfl) | (obtain ⟨_, _, _, _, _, _, rfl, _⟩ := h; rfl) | (obtain ⟨_, _, _, _, _, _, _, rfl, _⟩ := h; rfl) | (obtain ⟨_, _, _, _, _, _, _, _, rfl, _⟩ := h; rfl) | (obtain ⟨_, _, _, _, _, _, _, _, _, rfl, _⟩ := h; rfl) | (obtain ⟨_, _, _, _, _, _, _, _, _, _, rfl, _⟩ := h; rfl) | (obtain ⟨_, _, _, _, _, _, _, _, _, _, _, rfl, _⟩ := h; rfl) | (obtain ⟨_, _, _, _, _, _, _, _, _, _, _, _, rfl, _⟩ := h; rfl)) hp_is_map
theorem ok_format_fraction {P : Program} {w : World} {K : FragK} {mg : Str → Option Value} {base : Heap} (T : Told fa fn K mg) (hx : exk K = true) : FnD P w K mg base 4 "format_fraction" ["numerator", "denominator"] sp_format_fraction :=
  mk_format_fraction T ((ok_reduced T hx).up (by decide))  (fun ds m Q E h => by first | (obtain ⟨_, rfl, _⟩ := h; rfl) | (obtain ⟨_, _, rfl, _⟩ := h; rfl) | (obtain ⟨_, _, _, rfl, _⟩ := h; rfl) | (obtain ⟨_, _, _, _, rfl, _⟩ := h; rfl) | (obtain ⟨_, _, _, _, _, rfl, _⟩ := h; rfl) | (obtain ⟨_, _, _, _, _, _, rfl, _⟩ := h; rfl) | (obtain ⟨_, _, _, _, _, _, _, rfl, _⟩ := h; rfl) | (obtain ⟨_, _, _, _, _, _, _, _, rfl, _⟩ := h; rfl) | (obtain ⟨_, _, _, _, _, _, _, _, _, rfl, _⟩ := h; rfl) | (obtain ⟨_, _, _, _, _, _, _, _, _, _, rfl, _⟩ := h; rfl) | (obtain ⟨_, _, _, _, _, _, _, _, _, _, _, rfl, _⟩ := h; rfl) | (obtain ⟨_, _, _, _, _, _, _, _, _, _, _, _, rfl, _⟩ := h; rfl)) hp_format_fraction
theorem ok_format_point {P : Program} {w : World} {K : FragK} {mg : Str → Option Value} {base : Heap} (T : Told fa fn K mg) (hx : exk K = true) : FnD P w K mg base 5 "format_point" ["point"] sp_format_point :=
  mk_format_point T ((ok_format_fraction T hx).up (by decide))  (fun ds m Q E h => by first | (obtain ⟨_, rfl, _⟩ := h; rfl) | (obtain ⟨_, _, rfl, _⟩ := h; rfl) | (obtain ⟨_, _, _, rfl, _⟩ := h; rfl) | (obtain ⟨_, _, _, _, rfl, _⟩ := h; rfl) | (obtain ⟨_, _, _, _, _, rfl, _⟩ := h; rfl) | (obtain ⟨_, _, _, _, _, _, rfl, _⟩ := h; rfl) | (obtain ⟨_, _, _, _, _, _, _, rfl, _⟩ := h; rfl) | (obtain ⟨_, _, _, _, _, _, _, _, rfl, _⟩ := h; rfl) | (obtain ⟨_, _, _, _, _, _, _, _, _, rfl, _⟩ := h; rfl) | (obtain ⟨_, _, _, _, _, _, _, _, _, _, rfl, _⟩ := h; rfl) | (obtain ⟨_, _, _, _, _, _, _, _, _, _, _, rfl, _⟩ := h; rfl) | (obtain ⟨_, _, _, _, _, _, _, _, _, _, _, _, rfl, _⟩ := h; rfl)) hp_format_point
theorem ok_format_map {P : Program} {w : World} {K : FragK} {mg : Str → Option Value} {base : Heap} (T : Told fa fn K mg) (hx : exk K = true) : FnD P w K mg base 2 "format_map" ["mapping"] sp_format_map :=
  mk_format_map T   (fun ds m Q E h => by first | (obtain ⟨_, rfl, _⟩ := h; rfl) | (obtain ⟨_, _, rfl, _⟩ := h; rfl) | (obtain ⟨_, _, _, rfl, _⟩ := h; rfl) | (obtain ⟨_, _, _, _, rfl, _⟩ := h; rfl) | (obtain ⟨_, _, _, _, _, rfl, _⟩ := h; rfl) | (obtain ⟨_, _, _, _, _, _, rfl, _⟩ := h; rfl) | (obtain ⟨_, _, _, _, _, _, _, rfl, _⟩ := h; rfl) | (obtain ⟨_, _, _, _, _, _, _, _, rfl, _⟩ := h; rfl) | (obtain ⟨_, _, _, _, _, _, _, _, _, rfl, _⟩ := h; rfl) | (obtain ⟨_, _, _, _, _, _, _, _, _, _, rfl, _⟩ := h; rfl) | (obtain ⟨_, _, _, _, _, _, _, _, _, _, _, rfl, _⟩ := h; rfl) | (obtain ⟨_, _, _, _, _, _, _, _, _, _, _, _, rfl, _⟩ := h; rfl)) hp_format_map
theorem ok_integer_in {P : Program} {w : World} {K : FragK} {mg : Str → Option Value} {base : Heap} (T : Told fa fn K mg) (hx : exk K = true) : FnD P w K mg base 2 "integer_in" ["text"] sp_integer_in :=
  mk_integer_in T   (fun ds m Q E h => by first | (obtain ⟨_, rfl, _⟩ := h; rfl) | (obtain ⟨_, _, rfl, _⟩ := h; rfl) | (obtain ⟨_, _, _, rfl, _⟩ := h; rfl) | (obtain ⟨_, _, _, _, rfl, _⟩ := h; rfl) | (obtain ⟨_, _, _, _, _, rfl, _⟩ := h; rfl) | (obtain ⟨_, _, _, _, _, _, rfl, _⟩ := h; rfl) | (obtain ⟨_, _, _, _, _, _, _, rfl, _⟩ := h; rfl) | (obtain ⟨_, _, _, _, _, _, _, _, rfl, _⟩ := h; rfl) | (obtain ⟨_, _, _, _, _, _, _, _, _, rfl, _⟩ := h; rfl) | (obtain ⟨_, _, _, _, _, _, _, _, _, _, rfl, _⟩ := h; rfl) | (obtain ⟨_, _, _, _, _, _, _, _, _, _, _, rfl, _⟩ := h; rfl) | (obtain ⟨_, _, _, _, _, _, _, _, _, _, _, _, rfl, _⟩ := h; rfl)) hp_integer_in
theorem ok_fraction_in {P : Program} {w : World} {K : FragK} {mg : Str → Option Value} {base : Heap} (T : Told fa fn K mg) (hx : exk K = true) : FnD P w K mg base 3 "fraction_in" ["text"] sp_fraction_in :=
  mk_fraction_in T ((ok_integer_in T hx).up (by decide)) ((ok_gcd T hx).up (by decide))  (fun ds m Q E h => by first | (obtain ⟨_, rfl, _⟩ := h; rfl) | (obtain ⟨_, _, rfl, _⟩ := h; rfl) | (obtain ⟨_, _, _, rfl, _⟩ := h; rfl) | (obtain ⟨_, _, _, _, rfl, _⟩ := h; rfl) | (obtain ⟨_, _, _, _, _, rfl, _⟩ := h; rfl) | (obtain ⟨_, _, _, _, _, _, rfl, _⟩ := h; rfl) | (obtain ⟨_, _, _, _, _, _, _, rfl, _⟩ := h; rfl) | (obtain ⟨_, _, _, _, _, _, _, _, rfl, _⟩ := h; rfl) | (obtain ⟨_, _, _, _, _, _, _, _, _, rfl, _⟩ := h; rfl) | (obtain ⟨_, _, _, _, _, _, _, _, _, _, rfl, _⟩ := h; rfl) | (obtain ⟨_, _, _, _, _, _, _, _, _, _, _, rfl, _⟩ := h; rfl) | (obtain ⟨_, _, _, _, _, _, _, _, _, _, _, _, rfl, _⟩ := h; rfl)) hp_fraction_in
theorem ok_place_in {P : Program} {w : World} {K : FragK} {mg : Str → Option Value} {base : Heap} (T : Told fa fn K mg) (hx : exk K = true) : FnD P w K mg base 4 "place_in" ["text"] sp_place_in :=
  mk_place_in T ((ok_fraction_in T hx).up (by decide)) ((ok_lcm T hx).up (by decide))  (fun ds m Q E h => by first | (obtain ⟨_, rfl, _⟩ := h; rfl) | (obtain ⟨_, _, rfl, _⟩ := h; rfl) | (obtain ⟨_, _, _, rfl, _⟩ := h; rfl) | (obtain ⟨_, _, _, _, rfl, _⟩ := h; rfl) | (obtain ⟨_, _, _, _, _, rfl, _⟩ := h; rfl) | (obtain ⟨_, _, _, _, _, _, rfl, _⟩ := h; rfl) | (obtain ⟨_, _, _, _, _, _, _, rfl, _⟩ := h; rfl) | (obtain ⟨_, _, _, _, _, _, _, _, rfl, _⟩ := h; rfl) | (obtain ⟨_, _, _, _, _, _, _, _, _, rfl, _⟩ := h; rfl) | (obtain ⟨_, _, _, _, _, _, _, _, _, _, rfl, _⟩ := h; rfl) | (obtain ⟨_, _, _, _, _, _, _, _, _, _, _, rfl, _⟩ := h; rfl) | (obtain ⟨_, _, _, _, _, _, _, _, _, _, _, _, rfl, _⟩ := h; rfl)) hp_place_in
theorem ok_integers_in {P : Program} {w : World} {K : FragK} {mg : Str → Option Value} {base : Heap} (T : Told fa fn K mg) (hx : exk K = true) : FnD P w K mg base 3 "integers_in" ["text", "count"] sp_integers_in :=
  mk_integers_in T ((ok_integer_in T hx).up (by decide))  (fun ds m Q E h => by first | (obtain ⟨_, rfl, _⟩ := h; rfl) | (obtain ⟨_, _, rfl, _⟩ := h; rfl) | (obtain ⟨_, _, _, rfl, _⟩ := h; rfl) | (obtain ⟨_, _, _, _, rfl, _⟩ := h; rfl) | (obtain ⟨_, _, _, _, _, rfl, _⟩ := h; rfl) | (obtain ⟨_, _, _, _, _, _, rfl, _⟩ := h; rfl) | (obtain ⟨_, _, _, _, _, _, _, rfl, _⟩ := h; rfl) | (obtain ⟨_, _, _, _, _, _, _, _, rfl, _⟩ := h; rfl) | (obtain ⟨_, _, _, _, _, _, _, _, _, rfl, _⟩ := h; rfl) | (obtain ⟨_, _, _, _, _, _, _, _, _, _, rfl, _⟩ := h; rfl) | (obtain ⟨_, _, _, _, _, _, _, _, _, _, _, rfl, _⟩ := h; rfl) | (obtain ⟨_, _, _, _, _, _, _, _, _, _, _, _, rfl, _⟩ := h; rfl)) hp_integers_in
theorem ok_point_in {P : Program} {w : World} {K : FragK} {mg : Str → Option Value} {base : Heap} (T : Told fa fn K mg) (hx : exk K = true) : FnD P w K mg base 5 "point_in" ["text"] sp_point_in :=
  mk_point_in T ((ok_place_in T hx).up (by decide)) ((ok_is_point T hx).up (by decide))  (fun ds m Q E h => by first | (obtain ⟨_, rfl, _⟩ := h; rfl) | (obtain ⟨_, _, rfl, _⟩ := h; rfl) | (obtain ⟨_, _, _, rfl, _⟩ := h; rfl) | (obtain ⟨_, _, _, _, rfl, _⟩ := h; rfl) | (obtain ⟨_, _, _, _, _, rfl, _⟩ := h; rfl) | (obtain ⟨_, _, _, _, _, _, rfl, _⟩ := h; rfl) | (obtain ⟨_, _, _, _, _, _, _, rfl, _⟩ := h; rfl) | (obtain ⟨_, _, _, _, _, _, _, _, rfl, _⟩ := h; rfl) | (obtain ⟨_, _, _, _, _, _, _, _, _, rfl, _⟩ := h; rfl) | (obtain ⟨_, _, _, _, _, _, _, _, _, _, rfl, _⟩ := h; rfl) | (obtain ⟨_, _, _, _, _, _, _, _, _, _, _, rfl, _⟩ := h; rfl) | (obtain ⟨_, _, _, _, _, _, _, _, _, _, _, _, rfl, _⟩ := h; rfl)) hp_point_in
theorem ok_map_in {P : Program} {w : World} {K : FragK} {mg : Str → Option Value} {base : Heap} (T : Told fa fn K mg) (hx : exk K = true) : FnD P w K mg base 5 "map_in" ["text"] sp_map_in :=
  mk_map_in T ((ok_integers_in T hx).up (by decide)) ((ok_is_map T hx).up (by decide))  (fun ds m Q E h => by first | (obtain ⟨_, rfl, _⟩ := h; rfl) | (obtain ⟨_, _, rfl, _⟩ := h; rfl) | (obtain ⟨_, _, _, rfl, _⟩ := h; rfl) | (obtain ⟨_, _, _, _, rfl, _⟩ := h; rfl) | (obtain ⟨_, _, _, _, _, rfl, _⟩ := h; rfl) | (obtain ⟨_, _, _, _, _, _, rfl, _⟩ := h; rfl) | (obtain ⟨_, _, _, _, _, _, _, rfl, _⟩ := h; rfl) | (obtain ⟨_, _, _, _, _, _, _, _, rfl, _⟩ := h; rfl) | (obtain ⟨_, _, _, _, _, _, _, _, _, rfl, _⟩ := h; rfl) | (obtain ⟨_, _, _, _, _, _, _, _, _, _, rfl, _⟩ := h; rfl) | (obtain ⟨_, _, _, _, _, _, _, _, _, _, _, rfl, _⟩ := h; rfl) | (obtain ⟨_, _, _, _, _, _, _, _, _, _, _, _, rfl, _⟩ := h; rfl)) hp_map_in
theorem ok_parsed {P : Program} {w : World} {K : FragK} {mg : Str → Option Value} {base : Heap} (T : Told fa fn K mg) (hx : exk K = true) : FnD P w K mg base 6 "parsed" ["parser", "text"] (sp_parsed K) :=
  mk_parsed T ((ok_point_in T hx).up (by decide)) ((ok_map_in T hx).up (by decide)) (xt_ParseError T hx) (fun ds m Q E h => by first | (obtain ⟨_, rfl, _⟩ := h; rfl) | (obtain ⟨_, _, rfl, _⟩ := h; rfl) | (obtain ⟨_, _, _, rfl, _⟩ := h; rfl) | (obtain ⟨_, _, _, _, rfl, _⟩ := h; rfl) | (obtain ⟨_, _, _, _, _, rfl, _⟩ := h; rfl) | (obtain ⟨_, _, _, _, _, _, rfl, _⟩ := h; rfl) | (obtain ⟨_, _, _, _, _, _, _, rfl, _⟩ := h; rfl) | (obtain ⟨_, _, _, _, _, _, _, _, rfl, _⟩ := h; rfl) | (obtain ⟨_, _, _, _, _, _, _, _, _, rfl, _⟩ := h; rfl) | (obtain ⟨_, _, _, _, _, _, _, _, _, _, rfl, _⟩ := h; rfl) | (obtain ⟨_, _, _, _, _, _, _, _, _, _, _, rfl, _⟩ := h; rfl) | (obtain ⟨_, _, _, _, _, _, _, _, _, _, _, _, rfl, _⟩ := h; rfl)) hp_parsed
theorem ok_parse_point {P : Program} {w : World} {K : FragK} {mg : Str → Option Value} {base : Heap} (T : Told fa fn K mg) (hx : exk K = true) : FnD P w K mg base 7 "parse_point" ["text"] (sp_parse_point K) :=
  mk_parse_point T ((ok_parsed T hx).up (by decide))  (fun ds m Q E h => by first | (obtain ⟨_, rfl, _⟩ := h; rfl) | (obtain ⟨_, _, rfl, _⟩ := h; rfl) | (obtain ⟨_, _, _, rfl, _⟩ := h; rfl) | (obtain ⟨_, _, _, _, rfl, _⟩ := h; rfl) | (obtain ⟨_, _, _, _, _, rfl, _⟩ := h; rfl) | (obtain ⟨_, _, _, _, _, _, rfl, _⟩ := h; rfl) | (obtain ⟨_, _, _, _, _, _, _, rfl, _⟩ := h; rfl) | (obtain ⟨_, _, _, _, _, _, _, _, rfl, _⟩ := h; rfl) | (obtain ⟨_, _, _, _, _, _, _, _, _, rfl, _⟩ := h; rfl) | (obtain ⟨_, _, _, _, _, _, _, _, _, _, rfl, _⟩ := h; rfl) | (obtain ⟨_, _, _, _, _, _, _, _, _, _, _, rfl, _⟩ := h; rfl) | (obtain ⟨_, _, _, _, _, _, _, _, _, _, _, _, rfl, _⟩ := h; rfl)) hp_parse_point
theorem ok_parse_map {P : Program} {w : World} {K : FragK} {mg : Str → Option Value} {base : Heap} (T : Told fa fn K mg) (hx : exk K = true) : FnD P w K mg base 7 "parse_map" ["text"] (sp_parse_map K) :=
  mk_parse_map T ((ok_parsed T hx).up (by decide))  (fun ds m Q E h => by first | (obtain ⟨_, rfl, _⟩ := h; rfl) | (obtain ⟨_, _, rfl, _⟩ := h; rfl) | (obtain ⟨_, _, _, rfl, _⟩ := h; rfl) | (obtain ⟨_, _, _, _, rfl, _⟩ := h; rfl) | (obtain ⟨_, _, _, _, _, rfl, _⟩ := h; rfl) | (obtain ⟨_, _, _, _, _, _, rfl, _⟩ := h; rfl) | (obtain ⟨_, _, _, _, _, _, _, rfl, _⟩ := h; rfl) | (obtain ⟨_, _, _, _, _, _, _, _, rfl, _⟩ := h; rfl) | (obtain ⟨_, _, _, _, _, _, _, _, _, rfl, _⟩ := h; rfl) | (obtain ⟨_, _, _, _, _, _, _, _, _, _, rfl, _⟩ := h; rfl) | (obtain ⟨_, _, _, _, _, _, _, _, _, _, _, rfl, _⟩ := h; rfl) | (obtain ⟨_, _, _, _, _, _, _, _, _, _, _, _, rfl, _⟩ := h; rfl)) hp_parse_map
theorem ok_law_pen {P : Program} {w : World} {K : FragK} {mg : Str → Option Value} {base : Heap} (T : Told fa fn K mg) (hx : exk K = true) : FnD P w K mg base 2 "_law_pen" ["_law_script"] sp_law_pen :=
  mk_law_pen T   (fun ds m Q E h => by first | (obtain ⟨_, rfl, _⟩ := h; rfl) | (obtain ⟨_, _, rfl, _⟩ := h; rfl) | (obtain ⟨_, _, _, rfl, _⟩ := h; rfl) | (obtain ⟨_, _, _, _, rfl, _⟩ := h; rfl) | (obtain ⟨_, _, _, _, _, rfl, _⟩ := h; rfl) | (obtain ⟨_, _, _, _, _, _, rfl, _⟩ := h; rfl) | (obtain ⟨_, _, _, _, _, _, _, rfl, _⟩ := h; rfl) | (obtain ⟨_, _, _, _, _, _, _, _, rfl, _⟩ := h; rfl) | (obtain ⟨_, _, _, _, _, _, _, _, _, rfl, _⟩ := h; rfl) | (obtain ⟨_, _, _, _, _, _, _, _, _, _, rfl, _⟩ := h; rfl) | (obtain ⟨_, _, _, _, _, _, _, _, _, _, _, rfl, _⟩ := h; rfl) | (obtain ⟨_, _, _, _, _, _, _, _, _, _, _, _, rfl, _⟩ := h; rfl)) hp_law_pen
theorem ok_law_draw {P : Program} {w : World} {K : FragK} {mg : Str → Option Value} {base : Heap} (T : Told fa fn K mg) (hx : exk K = true) : FnD P w K mg base 2 "_law_draw" ["_law_pen_here", "_law_many"] sp_law_draw :=
  mk_law_draw T   (fun ds m Q E h => by first | (obtain ⟨_, rfl, _⟩ := h; rfl) | (obtain ⟨_, _, rfl, _⟩ := h; rfl) | (obtain ⟨_, _, _, rfl, _⟩ := h; rfl) | (obtain ⟨_, _, _, _, rfl, _⟩ := h; rfl) | (obtain ⟨_, _, _, _, _, rfl, _⟩ := h; rfl) | (obtain ⟨_, _, _, _, _, _, rfl, _⟩ := h; rfl) | (obtain ⟨_, _, _, _, _, _, _, rfl, _⟩ := h; rfl) | (obtain ⟨_, _, _, _, _, _, _, _, rfl, _⟩ := h; rfl) | (obtain ⟨_, _, _, _, _, _, _, _, _, rfl, _⟩ := h; rfl) | (obtain ⟨_, _, _, _, _, _, _, _, _, _, rfl, _⟩ := h; rfl) | (obtain ⟨_, _, _, _, _, _, _, _, _, _, _, rfl, _⟩ := h; rfl) | (obtain ⟨_, _, _, _, _, _, _, _, _, _, _, _, rfl, _⟩ := h; rfl)) hp_law_draw
theorem ok_law_pick {P : Program} {w : World} {K : FragK} {mg : Str → Option Value} {base : Heap} (T : Told fa fn K mg) (hx : exk K = true) : FnD P w K mg base 3 "_law_pick" ["_law_pen_here", "_law_options"] sp_law_pick :=
  mk_law_pick T ((ok_law_draw T hx).up (by decide))  (fun ds m Q E h => by first | (obtain ⟨_, rfl, _⟩ := h; rfl) | (obtain ⟨_, _, rfl, _⟩ := h; rfl) | (obtain ⟨_, _, _, rfl, _⟩ := h; rfl) | (obtain ⟨_, _, _, _, rfl, _⟩ := h; rfl) | (obtain ⟨_, _, _, _, _, rfl, _⟩ := h; rfl) | (obtain ⟨_, _, _, _, _, _, rfl, _⟩ := h; rfl) | (obtain ⟨_, _, _, _, _, _, _, rfl, _⟩ := h; rfl) | (obtain ⟨_, _, _, _, _, _, _, _, rfl, _⟩ := h; rfl) | (obtain ⟨_, _, _, _, _, _, _, _, _, rfl, _⟩ := h; rfl) | (obtain ⟨_, _, _, _, _, _, _, _, _, _, rfl, _⟩ := h; rfl) | (obtain ⟨_, _, _, _, _, _, _, _, _, _, _, rfl, _⟩ := h; rfl) | (obtain ⟨_, _, _, _, _, _, _, _, _, _, _, _, rfl, _⟩ := h; rfl)) hp_law_pick
theorem ok_law_great {P : Program} {w : World} {K : FragK} {mg : Str → Option Value} {base : Heap} (T : Told fa fn K mg) (hx : exk K = true) : FnD P w K mg base 3 "_law_great" ["_law_pen_here", "_law_figures"] sp_law_great :=
  mk_law_great T ((ok_law_draw T hx).up (by decide))  (fun ds m Q E h => by first | (obtain ⟨_, rfl, _⟩ := h; rfl) | (obtain ⟨_, _, rfl, _⟩ := h; rfl) | (obtain ⟨_, _, _, rfl, _⟩ := h; rfl) | (obtain ⟨_, _, _, _, rfl, _⟩ := h; rfl) | (obtain ⟨_, _, _, _, _, rfl, _⟩ := h; rfl) | (obtain ⟨_, _, _, _, _, _, rfl, _⟩ := h; rfl) | (obtain ⟨_, _, _, _, _, _, _, rfl, _⟩ := h; rfl) | (obtain ⟨_, _, _, _, _, _, _, _, rfl, _⟩ := h; rfl) | (obtain ⟨_, _, _, _, _, _, _, _, _, rfl, _⟩ := h; rfl) | (obtain ⟨_, _, _, _, _, _, _, _, _, _, rfl, _⟩ := h; rfl) | (obtain ⟨_, _, _, _, _, _, _, _, _, _, _, rfl, _⟩ := h; rfl) | (obtain ⟨_, _, _, _, _, _, _, _, _, _, _, _, rfl, _⟩ := h; rfl)) hp_law_great
theorem ok_law_gcd {P : Program} {w : World} {K : FragK} {mg : Str → Option Value} {base : Heap} (T : Told fa fn K mg) (hx : exk K = true) : FnD P w K mg base 2 "_law_gcd" ["_law_one", "_law_two"] sp_gcd :=
  mk_law_gcd T   (fun ds m Q E h => by first | (obtain ⟨_, rfl, _⟩ := h; rfl) | (obtain ⟨_, _, rfl, _⟩ := h; rfl) | (obtain ⟨_, _, _, rfl, _⟩ := h; rfl) | (obtain ⟨_, _, _, _, rfl, _⟩ := h; rfl) | (obtain ⟨_, _, _, _, _, rfl, _⟩ := h; rfl) | (obtain ⟨_, _, _, _, _, _, rfl, _⟩ := h; rfl) | (obtain ⟨_, _, _, _, _, _, _, rfl, _⟩ := h; rfl) | (obtain ⟨_, _, _, _, _, _, _, _, rfl, _⟩ := h; rfl) | (obtain ⟨_, _, _, _, _, _, _, _, _, rfl, _⟩ := h; rfl) | (obtain ⟨_, _, _, _, _, _, _, _, _, _, rfl, _⟩ := h; rfl) | (obtain ⟨_, _, _, _, _, _, _, _, _, _, _, rfl, _⟩ := h; rfl) | (obtain ⟨_, _, _, _, _, _, _, _, _, _, _, _, rfl, _⟩ := h; rfl)) hp_law_gcd
theorem ok_law_point_form {P : Program} {w : World} {K : FragK} {mg : Str → Option Value} {base : Heap} (T : Told fa fn K mg) (hx : exk K = true) : FnD P w K mg base 3 "_law_point_form" ["_law_x", "_law_y", "_law_d"] sp_law_point_form :=
  mk_law_point_form T ((ok_law_gcd T hx).up (by decide))  (fun ds m Q E h => by first | (obtain ⟨_, rfl, _⟩ := h; rfl) | (obtain ⟨_, _, rfl, _⟩ := h; rfl) | (obtain ⟨_, _, _, rfl, _⟩ := h; rfl) | (obtain ⟨_, _, _, _, rfl, _⟩ := h; rfl) | (obtain ⟨_, _, _, _, _, rfl, _⟩ := h; rfl) | (obtain ⟨_, _, _, _, _, _, rfl, _⟩ := h; rfl) | (obtain ⟨_, _, _, _, _, _, _, rfl, _⟩ := h; rfl) | (obtain ⟨_, _, _, _, _, _, _, _, rfl, _⟩ := h; rfl) | (obtain ⟨_, _, _, _, _, _, _, _, _, rfl, _⟩ := h; rfl) | (obtain ⟨_, _, _, _, _, _, _, _, _, _, rfl, _⟩ := h; rfl) | (obtain ⟨_, _, _, _, _, _, _, _, _, _, _, rfl, _⟩ := h; rfl) | (obtain ⟨_, _, _, _, _, _, _, _, _, _, _, _, rfl, _⟩ := h; rfl)) hp_law_point_form
theorem ok_law_map_corner {P : Program} {w : World} {K : FragK} {mg : Str → Option Value} {base : Heap} (T : Told fa fn K mg) (hx : exk K = true) : FnD P w K mg base 2 "_law_map_corner" ["_law_table_here", "_law_corner"] sp_law_map_corner :=
  mk_law_map_corner T   (fun ds m Q E h => by first | (obtain ⟨_, rfl, _⟩ := h; rfl) | (obtain ⟨_, _, rfl, _⟩ := h; rfl) | (obtain ⟨_, _, _, rfl, _⟩ := h; rfl) | (obtain ⟨_, _, _, _, rfl, _⟩ := h; rfl) | (obtain ⟨_, _, _, _, _, rfl, _⟩ := h; rfl) | (obtain ⟨_, _, _, _, _, _, rfl, _⟩ := h; rfl) | (obtain ⟨_, _, _, _, _, _, _, rfl, _⟩ := h; rfl) | (obtain ⟨_, _, _, _, _, _, _, _, rfl, _⟩ := h; rfl) | (obtain ⟨_, _, _, _, _, _, _, _, _, rfl, _⟩ := h; rfl) | (obtain ⟨_, _, _, _, _, _, _, _, _, _, rfl, _⟩ := h; rfl) | (obtain ⟨_, _, _, _, _, _, _, _, _, _, _, rfl, _⟩ := h; rfl) | (obtain ⟨_, _, _, _, _, _, _, _, _, _, _, _, rfl, _⟩ := h; rfl)) hp_law_map_corner
theorem ok_law_table {P : Program} {w : World} {K : FragK} {mg : Str → Option Value} {base : Heap} (T : Told fa fn K mg) (hx : exk K = true) : FnD P w K mg base 4 "_law_table" ["_law_pen_here", "_law_far"] sp_law_table :=
  mk_law_table T ((ok_law_draw T hx).up (by decide)) ((ok_law_pick T hx).up (by decide)) ((ok_law_map_corner T hx).up (by decide))  (fun ds m Q E h => by first | (obtain ⟨_, rfl, _⟩ := h; rfl) | (obtain ⟨_, _, rfl, _⟩ := h; rfl) | (obtain ⟨_, _, _, rfl, _⟩ := h; rfl) | (obtain ⟨_, _, _, _, rfl, _⟩ := h; rfl) | (obtain ⟨_, _, _, _, _, rfl, _⟩ := h; rfl) | (obtain ⟨_, _, _, _, _, _, rfl, _⟩ := h; rfl) | (obtain ⟨_, _, _, _, _, _, _, rfl, _⟩ := h; rfl) | (obtain ⟨_, _, _, _, _, _, _, _, rfl, _⟩ := h; rfl) | (obtain ⟨_, _, _, _, _, _, _, _, _, rfl, _⟩ := h; rfl) | (obtain ⟨_, _, _, _, _, _, _, _, _, _, rfl, _⟩ := h; rfl) | (obtain ⟨_, _, _, _, _, _, _, _, _, _, _, rfl, _⟩ := h; rfl) | (obtain ⟨_, _, _, _, _, _, _, _, _, _, _, _, rfl, _⟩ := h; rfl)) hp_law_table
theorem ok_law_has_form {P : Program} {w : World} {K : FragK} {mg : Str → Option Value} {base : Heap} (T : Told fa fn K mg) (hx : exk K = true) : FnD P w K mg base 3 "_law_has_form" ["_law_thing"] sp_law_has_form :=
  mk_law_has_form T ((ok_law_gcd T hx).up (by decide))  (fun ds m Q E h => by first | (obtain ⟨_, rfl, _⟩ := h; rfl) | (obtain ⟨_, _, rfl, _⟩ := h; rfl) | (obtain ⟨_, _, _, rfl, _⟩ := h; rfl) | (obtain ⟨_, _, _, _, rfl, _⟩ := h; rfl) | (obtain ⟨_, _, _, _, _, rfl, _⟩ := h; rfl) | (obtain ⟨_, _, _, _, _, _, rfl, _⟩ := h; rfl) | (obtain ⟨_, _, _, _, _, _, _, rfl, _⟩ := h; rfl) | (obtain ⟨_, _, _, _, _, _, _, _, rfl, _⟩ := h; rfl) | (obtain ⟨_, _, _, _, _, _, _, _, _, rfl, _⟩ := h; rfl) | (obtain ⟨_, _, _, _, _, _, _, _, _, _, rfl, _⟩ := h; rfl) | (obtain ⟨_, _, _, _, _, _, _, _, _, _, _, rfl, _⟩ := h; rfl) | (obtain ⟨_, _, _, _, _, _, _, _, _, _, _, _, rfl, _⟩ := h; rfl)) hp_law_has_form
theorem ok_law_is_point {P : Program} {w : World} {K : FragK} {mg : Str → Option Value} {base : Heap} (T : Told fa fn K mg) (hx : exk K = true) : FnD P w K mg base 4 "_law_is_point" ["_law_thing"] sp_law_is_point :=
  mk_law_is_point T ((ok_law_has_form T hx).up (by decide))  (fun ds m Q E h => by first | (obtain ⟨_, rfl, _⟩ := h; rfl) | (obtain ⟨_, _, rfl, _⟩ := h; rfl) | (obtain ⟨_, _, _, rfl, _⟩ := h; rfl) | (obtain ⟨_, _, _, _, rfl, _⟩ := h; rfl) | (obtain ⟨_, _, _, _, _, rfl, _⟩ := h; rfl) | (obtain ⟨_, _, _, _, _, _, rfl, _⟩ := h; rfl) | (obtain ⟨_, _, _, _, _, _, _, rfl, _⟩ := h; rfl) | (obtain ⟨_, _, _, _, _, _, _, _, rfl, _⟩ := h; rfl) | (obtain ⟨_, _, _, _, _, _, _, _, _, rfl, _⟩ := h; rfl) | (obtain ⟨_, _, _, _, _, _, _, _, _, _, rfl, _⟩ := h; rfl) | (obtain ⟨_, _, _, _, _, _, _, _, _, _, _, rfl, _⟩ := h; rfl) | (obtain ⟨_, _, _, _, _, _, _, _, _, _, _, _, rfl, _⟩ := h; rfl)) hp_law_is_point
theorem ok_law_fraction {P : Program} {w : World} {K : FragK} {mg : Str → Option Value} {base : Heap} (T : Told fa fn K mg) (hx : exk K = true) : FnD P w K mg base 3 "_law_fraction" ["_law_n", "_law_d"] sp_reduced :=
  mk_law_fraction T ((ok_law_gcd T hx).up (by decide))  (fun ds m Q E h => by first | (obtain ⟨_, rfl, _⟩ := h; rfl) | (obtain ⟨_, _, rfl, _⟩ := h; rfl) | (obtain ⟨_, _, _, rfl, _⟩ := h; rfl) | (obtain ⟨_, _, _, _, rfl, _⟩ := h; rfl) | (obtain ⟨_, _, _, _, _, rfl, _⟩ := h; rfl) | (obtain ⟨_, _, _, _, _, _, rfl, _⟩ := h; rfl) | (obtain ⟨_, _, _, _, _, _, _, rfl, _⟩ := h; rfl) | (obtain ⟨_, _, _, _, _, _, _, _, rfl, _⟩ := h; rfl) | (obtain ⟨_, _, _, _, _, _, _, _, _, rfl, _⟩ := h; rfl) | (obtain ⟨_, _, _, _, _, _, _, _, _, _, rfl, _⟩ := h; rfl) | (obtain ⟨_, _, _, _, _, _, _, _, _, _, _, rfl, _⟩ := h; rfl) | (obtain ⟨_, _, _, _, _, _, _, _, _, _, _, _, rfl, _⟩ := h; rfl)) hp_law_fraction
theorem ok_law_fraction_text {P : Program} {w : World} {K : FragK} {mg : Str → Option Value} {base : Heap} (T : Told fa fn K mg) (hx : exk K = true) : FnD P w K mg base 4 "_law_fraction_text" ["_law_n", "_law_d"] sp_format_fraction :=
  mk_law_fraction_text T ((ok_law_fraction T hx).up (by decide))  (fun ds m Q E h => by first | (obtain ⟨_, rfl, _⟩ := h; rfl) | (obtain ⟨_, _, rfl, _⟩ := h; rfl) | (obtain ⟨_, _, _, rfl, _⟩ := h; rfl) | (obtain ⟨_, _, _, _, rfl, _⟩ := h; rfl) | (obtain ⟨_, _, _, _, _, rfl, _⟩ := h; rfl) | (obtain ⟨_, _, _, _, _, _, rfl, _⟩ := h; rfl) | (obtain ⟨_, _, _, _, _, _, _, rfl, _⟩ := h; rfl) | (obtain ⟨_, _, _, _, _, _, _, _, rfl, _⟩ := h; rfl) | (obtain ⟨_, _, _, _, _, _, _, _, _, rfl, _⟩ := h; rfl) | (obtain ⟨_, _, _, _, _, _, _, _, _, _, rfl, _⟩ := h; rfl) | (obtain ⟨_, _, _, _, _, _, _, _, _, _, _, rfl, _⟩ := h; rfl) | (obtain ⟨_, _, _, _, _, _, _, _, _, _, _, _, rfl, _⟩ := h; rfl)) hp_law_fraction_text
theorem ok_law_point_text {P : Program} {w : World} {K : FragK} {mg : Str → Option Value} {base : Heap} (T : Told fa fn K mg) (hx : exk K = true) : FnD P w K mg base 5 "_law_point_text" ["_law_place"] sp_format_point :=
  mk_law_point_text T ((ok_law_fraction_text T hx).up (by decide))  (fun ds m Q E h => by first | (obtain ⟨_, rfl, _⟩ := h; rfl) | (obtain ⟨_, _, rfl, _⟩ := h; rfl) | (obtain ⟨_, _, _, rfl, _⟩ := h; rfl) | (obtain ⟨_, _, _, _, rfl, _⟩ := h; rfl) | (obtain ⟨_, _, _, _, _, rfl, _⟩ := h; rfl) | (obtain ⟨_, _, _, _, _, _, rfl, _⟩ := h; rfl) | (obtain ⟨_, _, _, _, _, _, _, rfl, _⟩ := h; rfl) | (obtain ⟨_, _, _, _, _, _, _, _, rfl, _⟩ := h; rfl) | (obtain ⟨_, _, _, _, _, _, _, _, _, rfl, _⟩ := h; rfl) | (obtain ⟨_, _, _, _, _, _, _, _, _, _, rfl, _⟩ := h; rfl) | (obtain ⟨_, _, _, _, _, _, _, _, _, _, _, rfl, _⟩ := h; rfl) | (obtain ⟨_, _, _, _, _, _, _, _, _, _, _, _, rfl, _⟩ := h; rfl)) hp_law_point_text
theorem ok_law_any_point {P : Program} {w : World} {K : FragK} {mg : Str → Option Value} {base : Heap} (T : Told fa fn K mg) (hx : exk K = true) : FnD P w K mg base 4 "_law_any_point" ["_law_pen_here", "_law_figures"] sp_law_any_point :=
  mk_law_any_point T ((ok_law_draw T hx).up (by decide)) ((ok_law_pick T hx).up (by decide)) ((ok_law_great T hx).up (by decide)) ((ok_law_point_form T hx).up (by decide))  (fun ds m Q E h => by first | (obtain ⟨_, rfl, _⟩ := h; rfl) | (obtain ⟨_, _, rfl, _⟩ := h; rfl) | (obtain ⟨_, _, _, rfl, _⟩ := h; rfl) | (obtain ⟨_, _, _, _, rfl, _⟩ := h; rfl) | (obtain ⟨_, _, _, _, _, rfl, _⟩ := h; rfl) | (obtain ⟨_, _, _, _, _, _, rfl, _⟩ := h; rfl) | (obtain ⟨_, _, _, _, _, _, _, rfl, _⟩ := h; rfl) | (obtain ⟨_, _, _, _, _, _, _, _, rfl, _⟩ := h; rfl) | (obtain ⟨_, _, _, _, _, _, _, _, _, rfl, _⟩ := h; rfl) | (obtain ⟨_, _, _, _, _, _, _, _, _, _, rfl, _⟩ := h; rfl) | (obtain ⟨_, _, _, _, _, _, _, _, _, _, _, rfl, _⟩ := h; rfl) | (obtain ⟨_, _, _, _, _, _, _, _, _, _, _, _, rfl, _⟩ := h; rfl)) hp_law_any_point
theorem ok_law_parsed {P : Program} {w : World} {K : FragK} {mg : Str → Option Value} {base : Heap} (T : Told fa fn K mg) (hx : exk K = true) : FnD P w K mg base 8 "_law_parsed" ["_law_text"] sp_law_parsed :=
  mk_law_parsed T ((ok_parse_point T hx).up (by decide))  (fun ds m Q E h => by first | (obtain ⟨_, rfl, _⟩ := h; rfl) | (obtain ⟨_, _, rfl, _⟩ := h; rfl) | (obtain ⟨_, _, _, rfl, _⟩ := h; rfl) | (obtain ⟨_, _, _, _, rfl, _⟩ := h; rfl) | (obtain ⟨_, _, _, _, _, rfl, _⟩ := h; rfl) | (obtain ⟨_, _, _, _, _, _, rfl, _⟩ := h; rfl) | (obtain ⟨_, _, _, _, _, _, _, rfl, _⟩ := h; rfl) | (obtain ⟨_, _, _, _, _, _, _, _, rfl, _⟩ := h; rfl) | (obtain ⟨_, _, _, _, _, _, _, _, _, rfl, _⟩ := h; rfl) | (obtain ⟨_, _, _, _, _, _, _, _, _, _, rfl, _⟩ := h; rfl) | (obtain ⟨_, _, _, _, _, _, _, _, _, _, _, rfl, _⟩ := h; rfl) | (obtain ⟨_, _, _, _, _, _, _, _, _, _, _, _, rfl, _⟩ := h; rfl)) (hp_law_parsed hx)
theorem body_law {P : Program} {w : World} {K : FragK} {mg : Str → Option Value} {base : Heap} (T : Told fa fn K mg) (hx : exk K = true) {fa : Addr} : LawBody P w K mg base 8 fa "_law_script" "law" (defBody s_law) (defScope s_law) N_law (fun ns => ns.length ≤ 63 ∧ ∀ z ∈ ns, Builtin.Int.intBits z ≤ 1048576) :=
  lb_law T ((ok_law_pen T hx).up (by decide)) ((ok_law_pick T hx).up (by decide)) ((ok_law_any_point T hx).up (by decide)) ((ok_law_point_text T hx).up (by decide)) ((ok_format_point T hx).up (by decide)) ((ok_law_parsed T hx).up (by decide)) ((ok_law_is_point T hx).up (by decide)) ((ok_law_great T hx).up (by decide)) ((ok_law_table T hx).up (by decide)) ((ok_format_map T hx).up (by decide)) ((ok_parse_map T hx).up (by decide)) ((ok_parse_point T hx).up (by decide)) fun ns h => hp_law ns h.1
end LW
open PySem PySem.W PySem.Calls PyProof.Rows
theorem PySem.Challenge.cw_outleap_k87_points_and_maps_as_texts_holds : PySem.Challenge.rw_outleap_k87_points_and_maps_as_texts.Holds := by
  w_on; o_law
  refine HandSHeadRun.head_any (r := OpenLaw.row PySem.Challenge.rw_outleap_k87_points_and_maps_as_texts) (q := view (OpenLaw.row PySem.Challenge.rw_outleap_k87_points_and_maps_as_texts).prog [50]) (H := LW.hk) (ob := LW.ob) (M := 20000) (loose := LW.loose) (d := HandSHeadRun.topDef (OpenLaw.row PySem.Challenge.rw_outleap_k87_points_and_maps_as_texts).prog 50) (kwd := []) LW.ob_eq
    (by kernel_rfl) (fun s => by kernel_rfl) LW.run (by kernel_rfl) (by kernel_rfl) (by kernel_rfl) (by rfl) (by first | assumption | decide +kernel) (by decide +kernel) ⟨rfl, rfl, rfl, rfl, rfl, by decide +kernel⟩ ?hw ?hc
  case hw => w_witness2
  case hc =>
    refine DL.law_walk (l := PySem.Challenge.rw_outleap_k87_points_and_maps_as_texts) (n := 63) (k := 8) (x := "_law_script") (qual := "law") (N := LW.N_law) rfl (by decide) (by kernel_rfl) ⟨rfl, by decide, by decide⟩ ?_
    rintro w mg fa h ⟨K, KX, c, ex⟩ G hmg0
    have T : DL.Told LW.fa LW.fn K mg := ⟨h, KX, G, c⟩
    have hmg : mg ("law" : PySem.Str) = some (.ref fa) := by
      have e : (HandSHeadRun.topDef (OpenLaw.row PySem.Challenge.rw_outleap_k87_points_and_maps_as_texts).prog 50).name = ("law" : PySem.Str) := by kernel_rfl
      rw [← e]
      exact hmg0
    obtain ⟨fd, F⟩ := T.def_ 37 (d := DL.defD "law" LW.s_law)
    have e := hmg.symm.trans (T.glo 58 (x := "law"))
    cases e
    have b := L2.FunD.bindsA (ps := ["_law_script"]) F fun _ _ _ _ _ _ us hl => match us, hl with | [_], _ => rfl
    exact ⟨K, fd, _, _, _, _, _, KX, F, LW.sc_law, fun s u => b s [u] rfl, fun base _ _ => LW.body_law T ex⟩

