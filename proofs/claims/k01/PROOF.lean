import PyProof.Rows.All
import Wide.All
import OpenK.AllK
import Wide.FinOn
import HandS.ForMost
import HandS.ForExc
import HandS.HeadHook1
import HandS.CallSlots
import HandS.Defaults
import HandS.Style
import HandS.Wide
import HandS.TupAny
import HandS.TupMul
import HandS.Deep
import HandS.IsInst
import HandS.Strs
import HandS.RaiseMore
import HandS.TupLen
import KE.KExcSuper
import HandS.ExcInit
import HandS.TryMany
import HandS.ExcIs
import HandS.ExcField
import PyProof.WalksMore
import HandS.OwnEq
import HandS.SetKeys
import PyProof.ReprRoads
import PyProof.CallFns
import HandS.DictComp
import HandS.Zip
import HandS.HeadHook2
import HandS.Words
import KE.KStateDown
import HandS.Head0
import HandS.Head1
import HandS.Head2
import HandS.HeadEnd
import HandS.EndBits
import PySem.Challenge.RW_owedpoints_k01_programmes_let_and_refuse
set_option Elab.async false
set_option linter.all false
set_option maxRecDepth 100000
set_option maxHeartbeats 2000000
namespace ZL
open PySem PySem.Spec PyProof.Rows L2
/-! ### values of the functional layer -/
inductive Z where
  | non | bl (b : Bool) | int (i : Int) | str (x : Str) | ty (n : String) | glo (x : Str) | ref (i : Nat)
  | tup (xs : List Z) | lst (xs : List Z) | frl (xs : List Z) | ins (c : Str) (ns : List Str) (vs : List Z) | exc (c : Str) (ns : List Str) (vs : List Z) | dkf (ks : List Key) (vs : List Z)
instance : Inhabited Z := ⟨.non⟩
/-- a changing object -/
inductive MO where
  | dead | lst (xs : List Z) | ins (c : Str) (ns : List Str) (vs : List Z) | dk (ks : List Key) (vs : List Z) | dt (ks : List (List Key)) (vs : List Z)
instance : Inhabited MO := ⟨.dead⟩
abbrev Hv := List MO
abbrev Sg := List (Option Z)
structure Ex where
  cls : Str
  ns : List Str
  vs : List Z
inductive Res (α : Type) where
  | ok (a : α) (h : Hv)
  | exc (x : Ex) (h : Hv)
  | bad
def Res.bind {α β : Type} (r : Res α) (k : α → Hv → Res β) : Res β := match r with
  | .ok a h => k a h
  | .exc x h => .exc x h
  | .bad => .bad
inductive RS where
  | nx (s : Sg) (h : Hv)
  | rt (z : Z) (h : Hv)
  | bk (s : Sg) (h : Hv)
  | ct (s : Sg) (h : Hv)
  | exc (x : Ex) (s : Sg) (h : Hv)
  | bad
abbrev ME := Sg → Hv → Res Z
abbrev MT := Sg → Hv → Res Bool
abbrev MA := Sg → Hv → Res (List Z)
abbrev MS := Sg → Hv → RS
/-! ### what relates them to the abstract heap -/
structure RC where
  K : PySem.W.Frag
  ce : Addr → Value → Option Addr → Prop
mutual
def Rel (c : RC) (F : Hp) (ρ : Nat → Addr) (n : Nat) : Z → V → Prop
  | .non, v => v = .non
  | .bl b, v => v = .bl b
  | .int i, v => v = .int i
  | .str x, v => v = .str x
  | .ty m, v => v = .ty m
  | .glo x, v => v = .ref (He.ga c.K x)
  | .ref i, v => i < n ∧ v = .ref (ρ i)
  | .tup xs, v => ∃ a ws, v = .ref a ∧ F a = some (.tup ws) ∧ Rels c F ρ n xs ws
  | .lst xs, v => ∃ a ws, v = .ref a ∧ F a = some (.lst ws) ∧ Rels c F ρ n xs ws
  | .frl xs, v => ∃ a ws, v = .ref a ∧ SqL c.K F a ws ∧ Rels c F ρ n xs ws
  | .ins C ns vs, v => ∃ a dx ws, v = .ref a ∧ F a = some (.ins (He.ga c.K C) dx (ns.zip ws)) ∧ ns.length = ws.length ∧ Rels c F ρ n vs ws
  | .dkf ks vs, v => ∃ a ws, v = .ref a ∧ F a = some (.dK (ks.zip ws)) ∧ ks.length = ws.length ∧ Rels c F ρ n vs ws
  | .exc C ns vs, v => ∃ a d, v = .ref a ∧ c.ce a (.ref (He.ga c.K C)) d ∧ ((d = none ∧ ns = []) ∨ ∃ dx ws, d = some dx ∧ F dx = some (.xd (ns.zip ws)) ∧ ns.length = ws.length ∧ Rels c F ρ n vs ws)
def Rels (c : RC) (F : Hp) (ρ : Nat → Addr) (n : Nat) : List Z → List V → Prop
  | [], ws => ws = []
  | x :: xs, ws => ∃ v us, ws = v :: us ∧ Rel c F ρ n x v ∧ Rels c F ρ n xs us
end
/-- what was frozen is so, the live objects stand where they stood -/
def Ext (F : Hp) (ρ : Nat → Addr) (n : Nat) (F' : Hp) (ρ' : Nat → Addr) (n' : Nat) : Prop := (∀ a o, F a = some o → F' a = some o) ∧ (∀ i, i < n → ρ' i = ρ i) ∧ n ≤ n'
theorem Ext.refl {F : Hp} {ρ : Nat → Addr} {n : Nat} : Ext F ρ n F ρ n := ⟨fun _ _ h => h, fun _ _ => rfl, Nat.le_refl _⟩
theorem Ext.trans {F F1 F2 : Hp} {ρ ρ1 ρ2 : Nat → Addr} {n n1 n2 : Nat} (a : Ext F ρ n F1 ρ1 n1) (b : Ext F1 ρ1 n1 F2 ρ2 n2) : Ext F ρ n F2 ρ2 n2 :=
  ⟨fun x o h => b.1 x o (a.1 x o h), fun i h => (b.2.1 i (Nat.lt_of_lt_of_le h a.2.2)).trans (a.2.1 i h), Nat.le_trans a.2.2 b.2.2⟩
theorem sqT_mono {K : PySem.W.Frag} {F F' : Hp} {a : Addr} {ws : List V} (e : ∀ a o, F a = some o → F' a = some o) (h : SqT K F a ws) : SqT K F' a ws := by
  rcases h with (h | ⟨o, h⟩) | h
  · exact .inl (.inl (e _ _ h))
  · exact .inl (.inr ⟨o, e _ _ h⟩)
  · exact .inr h
theorem sqL_mono {K : PySem.W.Frag} {F F' : Hp} {a : Addr} {ws : List V} (e : ∀ a o, F a = some o → F' a = some o) (h : SqL K F a ws) : SqL K F' a ws := by
  rcases h with (h | ⟨o, h⟩) | h
  · exact .inl (.inl (e _ _ h))
  · exact .inl (.inr ⟨o, e _ _ h⟩)
  · exact .inr h
mutual
theorem Rel.ext {c : RC} {F F' : Hp} {ρ ρ' : Nat → Addr} {n n' : Nat} (e : Ext F ρ n F' ρ' n') : ∀ {z : Z} {v : V}, Rel c F ρ n z v → Rel c F' ρ' n' z v
  | .non, _, h => h
  | .bl _, _, h => h
  | .int _, _, h => h
  | .str _, _, h => h
  | .ty _, _, h => h
  | .glo _, _, h => h
  | .ref i, v, h => by
    have h' : i < n ∧ v = .ref (ρ i) := h
    exact ⟨Nat.lt_of_lt_of_le h'.1 e.2.2, by rw [e.2.1 i h'.1]; exact h'.2⟩
  | .tup xs, v, h => by
    obtain ⟨a, ws, h1, h2, h3⟩ := h
    exact ⟨a, ws, h1, e.1 _ _ h2, Rels.ext e h3⟩
  | .frl xs, v, h => by
    obtain ⟨a, ws, h1, h2, h3⟩ := h
    exact ⟨a, ws, h1, sqL_mono e.1 h2, Rels.ext e h3⟩
  | .lst xs, v, h => by
    obtain ⟨a, ws, h1, h2, h3⟩ := h
    exact ⟨a, ws, h1, e.1 _ _ h2, Rels.ext e h3⟩
  | .ins C ns vs, v, h => by
    obtain ⟨a, dx, ws, h1, h2, hl, h3⟩ := h
    exact ⟨a, dx, ws, h1, e.1 _ _ h2, hl, Rels.ext e h3⟩
  | .dkf ks vs, v, h => by
    obtain ⟨a, ws, h1, h2, hl, h3⟩ := h
    exact ⟨a, ws, h1, e.1 _ _ h2, hl, Rels.ext e h3⟩
  | .exc C ns vs, v, h => by
    obtain ⟨a, d, h1, h2, h3⟩ := h
    refine ⟨a, d, h1, h2, ?_⟩
    rcases h3 with h3 | ⟨dx, ws, q1, q2, ql, q3⟩
    · exact .inl h3
    · exact .inr ⟨dx, ws, q1, e.1 _ _ q2, ql, Rels.ext e q3⟩
theorem Rels.ext {c : RC} {F F' : Hp} {ρ ρ' : Nat → Addr} {n n' : Nat} (e : Ext F ρ n F' ρ' n') : ∀ {zs : List Z} {ws : List V}, Rels c F ρ n zs ws → Rels c F' ρ' n' zs ws
  | [], _, h => h
  | z :: zs, ws, h => by
    obtain ⟨v, us, h1, h2, h3⟩ := h
    exact ⟨v, us, h1, Rel.ext e h2, Rels.ext e h3⟩
end
section
variable {c : RC} {F : Hp} {ρ : Nat → Addr} {n : Nat}
theorem Rels.length : ∀ {zs : List Z} {ws : List V}, Rels c F ρ n zs ws → zs.length = ws.length
  | [], _, h => by rw [show _ = _ from h]; rfl
  | z :: zs, ws, h => by
    obtain ⟨v, us, h1, h2, h3⟩ := h
    rw [h1, List.length_cons, List.length_cons, Rels.length h3]
theorem Rels.nil : Rels c F ρ n [] [] := rfl
theorem Rels.cons {z : Z} {v : V} {zs : List Z} {ws : List V} (h : Rel c F ρ n z v) (t : Rels c F ρ n zs ws) : Rels c F ρ n (z :: zs) (v :: ws) := ⟨v, ws, rfl, h, t⟩
theorem Rels.get : ∀ {zs : List Z} {ws : List V} {i : Nat} {z : Z}, Rels c F ρ n zs ws → zs[i]? = some z → ∃ v, ws[i]? = some v ∧ Rel c F ρ n z v
  | [], _, _, _, _, e => by simp at e
  | y :: zs, ws, 0, z, h, e => by
    obtain ⟨v, us, rfl, h2, h3⟩ := h
    simp at e; subst e
    exact ⟨v, rfl, h2⟩
  | y :: zs, ws, i + 1, z, h, e => by
    obtain ⟨v, us, rfl, h2, h3⟩ := h
    obtain ⟨u, q1, q2⟩ := Rels.get (i := i) h3 (by simpa using e)
    exact ⟨u, by simpa using q1, q2⟩
theorem Rels.append : ∀ {zs ys : List Z} {ws us : List V}, Rels c F ρ n zs ws → Rels c F ρ n ys us → Rels c F ρ n (zs ++ ys) (ws ++ us)
  | [], _, _, _, h, t => by rw [show _ = _ from h]; exact t
  | z :: zs, ys, ws, us, h, t => by
    obtain ⟨v, rs, rfl, h2, h3⟩ := h
    exact ⟨v, rs ++ us, rfl, h2, Rels.append h3 t⟩
theorem Rels.set {z : Z} {v : V} (r : Rel c F ρ n z v) : ∀ {zs : List Z} {ws : List V} (i : Nat), Rels c F ρ n zs ws → Rels c F ρ n (zs.set i z) (ws.set i v)
  | [], _, _, h => by rw [show _ = _ from h]; rfl
  | y :: zs, ws, 0, h => by
    obtain ⟨u, rs, rfl, h2, h3⟩ := h
    exact ⟨v, rs, rfl, r, h3⟩
  | y :: zs, ws, i + 1, h => by
    obtain ⟨u, rs, rfl, h2, h3⟩ := h
    exact ⟨u, rs.set i v, rfl, h2, Rels.set r i h3⟩
theorem Rels.take : ∀ {zs : List Z} {ws : List V} (k : Nat), Rels c F ρ n zs ws → Rels c F ρ n (zs.take k) (ws.take k)
  | _, _, 0, _ => rfl
  | [], _, k + 1, h => by rw [show _ = _ from h]; rfl
  | y :: zs, ws, k + 1, h => by
    obtain ⟨u, rs, rfl, h2, h3⟩ := h
    exact ⟨u, rs.take k, rfl, h2, Rels.take k h3⟩
theorem Rels.drop : ∀ {zs : List Z} {ws : List V} (k : Nat), Rels c F ρ n zs ws → Rels c F ρ n (zs.drop k) (ws.drop k)
  | _, _, 0, h => h
  | [], _, k + 1, h => by rw [show _ = _ from h]; rfl
  | y :: zs, ws, k + 1, h => by
    obtain ⟨u, rs, rfl, h2, h3⟩ := h
    exact Rels.drop k h3
theorem Rels.reverse : ∀ {zs : List Z} {ws : List V}, Rels c F ρ n zs ws → Rels c F ρ n zs.reverse ws.reverse
  | [], _, h => by rw [show _ = _ from h]; rfl
  | y :: zs, ws, h => by
    obtain ⟨u, rs, rfl, h2, h3⟩ := h
    rw [List.reverse_cons, List.reverse_cons]
    exact (Rels.reverse h3).append (.cons h2 .nil)
theorem Rels.ints : ∀ {ns : List Int} {ws : List V}, Rels c F ρ n (ns.map Z.int) ws → ws = ns.map V.int
  | [], _, h => h
  | i :: ns, ws, h => by
    obtain ⟨v, us, rfl, h2, h3⟩ := h
    rw [show v = V.int i from h2, Rels.ints h3]; rfl
theorem Rels.bls : ∀ {ns : List Bool} {ws : List V}, Rels c F ρ n (ns.map Z.bl) ws → ws = ns.map V.bl
  | [], _, h => h
  | i :: ns, ws, h => by
    obtain ⟨v, us, rfl, h2, h3⟩ := h
    rw [show v = V.bl i from h2, Rels.bls h3]; rfl
theorem Rels.strs : ∀ {ns : List Str} {ws : List V}, Rels c F ρ n (ns.map Z.str) ws → ws = ns.map V.str
  | [], _, h => h
  | i :: ns, ws, h => by
    obtain ⟨v, us, rfl, h2, h3⟩ := h
    rw [show v = V.str i from h2, Rels.strs h3]; rfl
end
/-! ### the world -/
def MO.live : MO → Bool
  | .dead => false
  | _ => true
def MOk (c : RC) (F : Hp) (ρ : Nat → Addr) (n : Nat) (H : Hp) (a : Addr) : MO → Prop
  | .dead => True
  | .lst zs => ∃ ws, H a = some (.lst ws) ∧ Rels c F ρ n zs ws
  | .ins C ns vs => ∃ dx ws, H a = some (.ins (He.ga c.K C) dx (ns.zip ws)) ∧ ns.length = ws.length ∧ Rels c F ρ n vs ws
  | .dk ks vs => ∃ ws, H a = some (.dK (ks.zip ws)) ∧ ks.length = ws.length ∧ Rels c F ρ n vs ws
  | .dt ks vs => ∃ ws, H a = some (.dT (ks.zip ws)) ∧ ks.length = ws.length ∧ Rels c F ρ n vs ws
structure W (c : RC) (G F : Hp) (ρ : Nat → Addr) (h : Hv) (H : Hp) : Prop where
  sub : ∀ a o, F a = some o → H a = some o
  obj : ∀ i o, h[i]? = some o → MOk c F ρ h.length H (ρ i) o
  inj : ∀ i j o u, h[i]? = some o → h[j]? = some u → o.live = true → u.live = true → ρ i = ρ j → i = j
  nof : ∀ i o, h[i]? = some o → o.live = true → F (ρ i) = none
  pro : ∀ a o, G a = some o → H a = some o ∧ F a = none ∧ ∀ i m, h[i]? = some m → m.live = true → ρ i ≠ a
section
variable {c : RC} {G F F' : Hp} {ρ ρ' : Nat → Addr} {n n' : Nat} {H : Hp} {h : Hv}
theorem MOk.ext {a : Addr} (e : Ext F ρ n F' ρ' n') : ∀ {o : MO}, MOk c F ρ n H a o → MOk c F' ρ' n' H a o
  | .dead, _ => trivial
  | .lst zs, ⟨ws, h1, h2⟩ => ⟨ws, h1, h2.ext e⟩
  | .ins C ns vs, ⟨dx, ws, h1, h2, h3⟩ => ⟨dx, ws, h1, h2, h3.ext e⟩
  | .dk ks vs, ⟨ws, h1, h2, h3⟩ => ⟨ws, h1, h2, h3.ext e⟩
  | .dt ks vs, ⟨ws, h1, h2, h3⟩ => ⟨ws, h1, h2, h3.ext e⟩
theorem MOk.there {a : Addr} {o : MO} (m : MOk c F ρ n H a o) (l : o.live = true) : ∃ u, H a = some u := by
  cases o with
  | dead => cases l
  | lst zs => obtain ⟨ws, h1, _⟩ := m; exact ⟨_, h1⟩
  | ins C ns vs => obtain ⟨dx, ws, h1, _⟩ := m; exact ⟨_, h1⟩
  | dk ks vs => obtain ⟨ws, h1, _⟩ := m; exact ⟨_, h1⟩
  | dt ks vs => obtain ⟨ws, h1, _⟩ := m; exact ⟨_, h1⟩
theorem MOk.heap {a : Addr} {o : MO} {H' : Hp} (m : MOk c F ρ n H a o) (e : o.live = true → H' a = H a) : MOk c F ρ n H' a o := by
  cases o with
  | dead => trivial
  | lst zs => obtain ⟨ws, h1, h2⟩ := m; exact ⟨ws, (e rfl).trans h1, h2⟩
  | ins C ns vs => obtain ⟨dx, ws, h1, h2⟩ := m; exact ⟨dx, ws, (e rfl).trans h1, h2⟩
  | dk ks vs => obtain ⟨ws, h1, h2⟩ := m; exact ⟨ws, (e rfl).trans h1, h2⟩
  | dt ks vs => obtain ⟨ws, h1, h2⟩ := m; exact ⟨ws, (e rfl).trans h1, h2⟩
/-- a new frozen object -/
theorem W.frz (w : W c G F ρ h H) {p : Addr} (np : H p = none) (o : HO) : W c G (upd F p o) ρ h (upd H p o) ∧ Ext F ρ h.length (upd F p o) ρ h.length := by
  have nF : F p = none := by
    cases q : F p with
    | none => rfl
    | some u => rw [w.sub _ _ q] at np; cases np
  have e : Ext F ρ h.length (upd F p o) ρ h.length := ⟨fun a u q => by rw [upd_ne (ne_of_none q nF)]; exact q, fun _ _ => rfl, Nat.le_refl _⟩
  have ne : ∀ i m, h[i]? = some m → m.live = true → ρ i ≠ p := fun i m hm l z => by
    obtain ⟨u, q⟩ := (w.obj i m hm).there l
    rw [z, np] at q; cases q
  refine ⟨⟨fun a u q => ?_, fun i m hm => ?_, w.inj, fun i m hm l => ?_, fun a u q => ?_⟩, e⟩
  · by_cases z : a = p
    · subst z; rw [upd_same] at q; cases q; exact upd_same
    · rw [upd_ne z] at q; rw [upd_ne z]; exact w.sub _ _ q
  · exact ((w.obj i m hm).heap fun l => upd_ne (ne i m hm l)).ext e
  · rw [upd_ne (ne i m hm l)]; exact w.nof i m hm l
  · obtain ⟨q1, q2, q3⟩ := w.pro a u q
    have z : a ≠ p := ne_of_none q1 np
    exact ⟨by rw [upd_ne z]; exact q1, by rw [upd_ne z]; exact q2, q3⟩
/-- a new object that is not told of -/
theorem W.more (w : W c G F ρ h H) {p : Addr} (np : H p = none) (o : HO) : W c G F ρ h (upd H p o) := by
  have ne : ∀ i m, h[i]? = some m → m.live = true → ρ i ≠ p := fun i m hm l z => by
    obtain ⟨u, q⟩ := (w.obj i m hm).there l
    rw [z, np] at q; cases q
  exact ⟨fun a u q => by rw [upd_ne (fun z => by subst z; rw [w.sub _ _ q] at np; cases np)]; exact w.sub _ _ q, fun i m hm => (w.obj i m hm).heap fun l => upd_ne (ne i m hm l), w.inj, w.nof, fun a u q => ⟨by rw [upd_ne (ne_of_none (w.pro a u q).1 np)]; exact (w.pro a u q).1, (w.pro a u q).2⟩⟩
/-- a new changing object -/
theorem W.new (w : W c G F ρ h H) {p : Addr} (np : H p = none) {o : HO} {m : MO} (hl : m.live = true)
    (ok : ∀ ρ', Ext F ρ h.length F ρ' (h.length + 1) → MOk c F ρ' (h.length + 1) (upd H p o) p m) :
    ∃ ρ', ρ' h.length = p ∧ W c G F ρ' (h ++ [m]) (upd H p o) ∧ Ext F ρ h.length F ρ' (h ++ [m]).length := by
  have nF : F p = none := by
    cases q : F p with
    | none => rfl
    | some u => rw [w.sub _ _ q] at np; cases np
  have ne : ∀ i m, h[i]? = some m → m.live = true → ρ i ≠ p := fun i m hm l z => by
    obtain ⟨u, q⟩ := (w.obj i m hm).there l
    rw [z, np] at q; cases q
  let ρ' : Nat → Addr := fun i => if i = h.length then p else ρ i
  have lt : ∀ i, i < h.length → ρ' i = ρ i := fun i q => if_neg (Nat.ne_of_lt q)
  have at_ : ρ' h.length = p := if_pos rfl
  have e : Ext F ρ h.length F ρ' (h.length + 1) := ⟨fun _ _ q => q, lt, Nat.le_succ _⟩
  have hlen : (h ++ [m]).length = h.length + 1 := by simp
  have cs : ∀ i o, (h ++ [m])[i]? = some o → (i < h.length ∧ h[i]? = some o) ∨ (i = h.length ∧ o = m) := fun i o q => by
    rcases Nat.lt_trichotomy i h.length with l | l | l
    · rw [List.getElem?_append_left l] at q; exact .inl ⟨l, q⟩
    · subst l; simp at q; exact .inr ⟨rfl, q.symm⟩
    · rw [List.getElem?_eq_none (by simp; omega)] at q; cases q
  refine ⟨ρ', at_, ⟨fun a u q => ?_, fun i u hu => ?_, fun i j u v hu hv lu lv z => ?_, fun i u hu l => ?_, fun a u q => ?_⟩, by rw [hlen]; exact e⟩
  · rw [upd_ne (fun z => by subst z; rw [nF] at q; cases q)]; exact w.sub _ _ q
  · rw [hlen]
    rcases cs i u hu with ⟨l, q⟩ | ⟨rfl, rfl⟩
    · rw [lt i l]
      exact ((w.obj i u q).heap fun lv => upd_ne (ne i u q lv)).ext e
    · rw [at_]; exact ok ρ' e
  · rcases cs i u hu with ⟨l, q⟩ | ⟨rfl, rfl⟩ <;> rcases cs j v hv with ⟨l', q'⟩ | ⟨rfl, rfl⟩
    · rw [lt i l, lt j l'] at z; exact w.inj i j u v q q' lu lv z
    · rw [lt i l, at_] at z; exact absurd z (ne i u q lu)
    · rw [lt j l', at_] at z; exact absurd z.symm (ne j v q' lv)
    · rfl
  · rcases cs i u hu with ⟨l', q⟩ | ⟨rfl, rfl⟩
    · rw [lt i l']; exact w.nof i u q l
    · rw [at_]; exact nF
  · obtain ⟨q1, q2, q3⟩ := w.pro a u q
    have z : a ≠ p := ne_of_none q1 np
    refine ⟨by rw [upd_ne z]; exact q1, q2, fun i v hv l => ?_⟩
    rcases cs i v hv with ⟨l', q'⟩ | ⟨rfl, rfl⟩
    · rw [lt i l']; exact q3 i v q' l
    · rw [at_]; exact Ne.symm z
/-- a changing object changes -/
theorem W.put (w : W c G F ρ h H) {i : Nat} {m m' : MO} (hi : h[i]? = some m) (hl : m.live = true) {o : HO} (ok : MOk c F ρ h.length (upd H (ρ i) o) (ρ i) m') : W c G F ρ (h.set i m') (upd H (ρ i) o) := by
  have hlt : i < h.length := (List.getElem?_eq_some_iff.mp hi).1
  have cs : ∀ j o, (h.set i m')[j]? = some o → (j = i ∧ o = m') ∨ (j ≠ i ∧ h[j]? = some o) := fun j o q => by
    by_cases z : j = i
    · subst z; rw [List.getElem?_set_self hlt] at q; exact .inl ⟨rfl, (Option.some.inj q).symm⟩
    · rw [List.getElem?_set_ne (Ne.symm z)] at q; exact .inr ⟨z, q⟩
  have le : (h.set i m').length = h.length := List.length_set
  refine ⟨fun a u q => ?_, fun j u hu => ?_, fun j k u v hu hv lu lv z => ?_, fun j u hu l => ?_, fun a u q => ?_⟩
  · rw [upd_ne (fun z => by subst z; rw [w.nof i m hi hl] at q; cases q)]; exact w.sub _ _ q
  · rw [le]
    rcases cs j u hu with ⟨rfl, rfl⟩ | ⟨z, q⟩
    · exact ok
    · exact (w.obj j u q).heap fun l => upd_ne fun e => z (w.inj j i u m q hi l hl e)
  · rcases cs j u hu with ⟨rfl, rfl⟩ | ⟨z1, q⟩ <;> rcases cs k v hv with ⟨rfl, rfl⟩ | ⟨z2, q'⟩
    · rfl
    · exact w.inj _ _ m v hi q' hl lv z
    · exact w.inj _ _ u m q hi lu hl z
    · exact w.inj _ _ u v q q' lu lv z
  · rcases cs j u hu with ⟨rfl, rfl⟩ | ⟨z1, q⟩
    · exact w.nof _ m hi hl
    · exact w.nof _ u q l
  · obtain ⟨q1, q2, q3⟩ := w.pro a u q
    refine ⟨by rw [upd_ne (fun z => q3 i m hi hl z.symm)]; exact q1, q2, fun j v hv l => ?_⟩
    rcases cs j v hv with ⟨rfl, rfl⟩ | ⟨z, q'⟩
    · exact q3 _ m hi hl
    · exact q3 _ v q' l
/-- a changing object is frozen -/
theorem W.kill (w : W c G F ρ h H) {i : Nat} {m : MO} {o : HO} (hi : h[i]? = some m) (hl : m.live = true) (ho : H (ρ i) = some o) :
    W c G (upd F (ρ i) o) ρ (h.set i .dead) H ∧ Ext F ρ h.length (upd F (ρ i) o) ρ (h.set i .dead).length := by
  have hlt : i < h.length := (List.getElem?_eq_some_iff.mp hi).1
  have nF := w.nof i m hi hl
  have e : Ext F ρ h.length (upd F (ρ i) o) ρ h.length := ⟨fun a u q => by rw [upd_ne (ne_of_none q nF)]; exact q, fun _ _ => rfl, Nat.le_refl _⟩
  have cs : ∀ j o, (h.set i MO.dead)[j]? = some o → (j = i ∧ o = .dead) ∨ (j ≠ i ∧ h[j]? = some o) := fun j o q => by
    by_cases z : j = i
    · subst z; rw [List.getElem?_set_self hlt] at q; exact .inl ⟨rfl, (Option.some.inj q).symm⟩
    · rw [List.getElem?_set_ne (Ne.symm z)] at q; exact .inr ⟨z, q⟩
  have le : (h.set i MO.dead).length = h.length := List.length_set
  refine ⟨⟨fun a u q => ?_, fun j u hu => ?_, fun j k u v hu hv lu lv z => ?_, fun j u hu l => ?_, fun a u q => ?_⟩, by rw [le]; exact e⟩
  · by_cases z : a = ρ i
    · subst z; rw [upd_same] at q; cases q; exact ho
    · rw [upd_ne z] at q; exact w.sub _ _ q
  · rw [le]
    rcases cs j u hu with ⟨rfl, rfl⟩ | ⟨z, q⟩
    · trivial
    · exact (w.obj j u q).ext e
  · rcases cs j u hu with ⟨rfl, rfl⟩ | ⟨z1, q⟩
    · cases lu
    · rcases cs k v hv with ⟨rfl, rfl⟩ | ⟨z2, q'⟩
      · cases lv
      · exact w.inj _ _ u v q q' lu lv z
  · rcases cs j u hu with ⟨rfl, rfl⟩ | ⟨z1, q⟩
    · cases l
    · rw [upd_ne fun e => z1 (w.inj j i u m q hi l hl e)]; exact w.nof _ u q l
  · obtain ⟨q1, q2, q3⟩ := w.pro a u q
    refine ⟨q1, by rw [upd_ne (fun z => q3 i m hi hl z.symm)]; exact q2, fun j v hv l => ?_⟩
    rcases cs j v hv with ⟨rfl, rfl⟩ | ⟨z, q'⟩
    · cases l
    · exact q3 _ v q' l
/-- an object of ours is guarded -/
theorem W.guard (w : W c G F ρ h H) {p : Addr} (np : H p = none) (o : HO) : W c (upd G p o) F ρ h (upd H p o) := by
  have w1 := w.more np o
  refine ⟨w1.sub, w1.obj, w1.inj, w1.nof, fun a u q => ?_⟩
  by_cases z : a = p
  · subst z
    rw [upd_same] at q; cases q
    refine ⟨upd_same, ?_, fun i m hm l e => ?_⟩
    · cases q : F a with
      | none => rfl
      | some u => rw [w.sub _ _ q] at np; cases np
    · obtain ⟨u, q⟩ := (w.obj i m hm).there l
      rw [e, np] at q; cases q
  · rw [upd_ne z] at q
    exact w1.pro a u q
/-- .. and no more -/
theorem W.unguard {p : Addr} {o : HO} (w : W c (upd G p o) F ρ h H) (gp : G p = none) : H p = some o ∧ W c G F ρ h (fun b => if b = p then none else H b) := by
  obtain ⟨q1, q2, q3⟩ := w.pro p o upd_same
  have ne : ∀ i m, h[i]? = some m → m.live = true → ρ i ≠ p := q3
  refine ⟨q1, ⟨fun a u q => ?_, fun i m hm => (w.obj i m hm).heap fun l => if_neg (ne i m hm l), w.inj, w.nof, fun a u q => ?_⟩⟩
  · have z : a ≠ p := fun z => by subst z; rw [q2] at q; cases q
    rw [if_neg z]; exact w.sub _ _ q
  · have z : a ≠ p := ne_of_none q gp
    obtain ⟨r1, r2, r3⟩ := w.pro a u (by rw [upd_ne z]; exact q)
    exact ⟨by rw [if_neg z]; exact r1, r2, r3⟩
/-- what is guarded is changed -/
theorem W.reguard {p : Addr} {o : HO} (w : W c (upd G p o) F ρ h H) (u : HO) : W c (upd G p u) F ρ h (upd H p u) := by
  obtain ⟨q1, q2, q3⟩ := w.pro p o upd_same
  refine ⟨fun a v q => ?_, fun i m hm => (w.obj i m hm).heap fun l => upd_ne (q3 i m hm l), w.inj, w.nof, fun a v q => ?_⟩
  · rw [upd_ne (fun z => by subst z; rw [q2] at q; cases q)]; exact w.sub _ _ q
  · by_cases z : a = p
    · subst z; rw [upd_same] at q; cases q; exact ⟨upd_same, q2, q3⟩
    · rw [upd_ne z] at q
      obtain ⟨r1, r2, r3⟩ := w.pro a v (by rw [upd_ne z]; exact q)
      exact ⟨by rw [upd_ne z]; exact r1, r2, r3⟩
end
/-! ### slots -/
def RelS (c : RC) (F : Hp) (ρ : Nat → Addr) (n : Nat) (zs : Sg) (σ : L2.St) : Prop := zs.length = σ.length ∧ ∀ (i : Nat) (z : Z), zs[i]? = some (some z) → ∃ v, σ[i]? = some (some v) ∧ Rel c F ρ n z v
section
variable {c : RC} {F F' : Hp} {ρ ρ' : Nat → Addr} {n n' : Nat} {zs : Sg} {σ : L2.St}
theorem RelS.ext (e : Ext F ρ n F' ρ' n') (r : RelS c F ρ n zs σ) : RelS c F' ρ' n' zs σ := ⟨r.1, fun i z h => by
  obtain ⟨v, h1, h2⟩ := r.2 i z h
  exact ⟨v, h1, h2.ext e⟩⟩
theorem RelS.set (r : RelS c F ρ n zs σ) {z : Z} {v : V} (q : Rel c F ρ n z v) (i : Nat) : RelS c F ρ n (zs.set i (some z)) (σ.set i (some v)) := by
  refine ⟨by simp [r.1], fun j y h => ?_⟩
  by_cases e : i = j
  · subst e
    by_cases hl : i < zs.length
    · rw [List.getElem?_set_self hl] at h
      cases h
      exact ⟨v, by rw [List.getElem?_set_self (by rw [← r.1]; exact hl)], q⟩
    · rw [List.getElem?_eq_none (by simpa using hl)] at h; cases h
  · rw [List.getElem?_set_ne e] at h
    obtain ⟨v, h1, h2⟩ := r.2 j y h
    exact ⟨v, by rw [List.getElem?_set_ne e]; exact h1, h2⟩
theorem RelS.del (r : RelS c F ρ n zs σ) (i : Nat) {x : Option V} : RelS c F ρ n (zs.set i none) (σ.set i x) := by
  refine ⟨by simp [r.1], fun j y h => ?_⟩
  by_cases e : i = j
  · subst e
    by_cases hl : i < zs.length
    · rw [List.getElem?_set_self hl] at h; cases h
    · rw [List.getElem?_eq_none (by simpa using hl)] at h; cases h
  · rw [List.getElem?_set_ne e] at h
    obtain ⟨v, h1, h2⟩ := r.2 j y h
    exact ⟨v, by rw [List.getElem?_set_ne e]; exact h1, h2⟩
end
/-! ### readings -/
def RelX (c : RC) (F : Hp) (ρ : Nat → Addr) (n : Nat) (x : Ex) (cls : Value) (d : Option Addr) : Prop :=
  cls = .ref (He.ga c.K x.cls) ∧ ((d = none ∧ x.ns = []) ∨ ∃ dx ws, d = some dx ∧ F dx = some (.xd (x.ns.zip ws)) ∧ x.ns.length = ws.length ∧ Rels c F ρ n x.vs ws)
/-- behind an expression -/
def PostG {α β : Type} (R : RC → Hp → (Nat → Addr) → Nat → α → β → Prop) (c : RC) (E : WX) (G F : Hp) (ρ : Nat → Addr) (n : Nat) (σ : L2.St) (Q : β → Hp → Prop) : Res α → Prop
  | .ok z h => ∀ F' ρ' v H', Ext F ρ n F' ρ' h.length → W c G F' ρ' h H' → R c F' ρ' h.length z v → Q v H'
  | .exc x h => ∀ F' ρ' H' cls d, Ext F ρ n F' ρ' h.length → W c G F' ρ' h H' → RelX c F' ρ' h.length x cls d → E cls d σ H'
  | .bad => False
section
variable {α β γ δ : Type} {R : RC → Hp → (Nat → Addr) → Nat → α → β → Prop} {R2 : RC → Hp → (Nat → Addr) → Nat → γ → δ → Prop} {c : RC} {E : WX} {G F F1 : Hp} {ρ ρ1 : Nat → Addr} {n n1 : Nat} {σ : L2.St}
theorem PostG.ext {Q : β → Hp → Prop} {r : Res α} (p : PostG R c E G F ρ n σ Q r) (e : Ext F ρ n F1 ρ1 n1) : PostG R c E G F1 ρ1 n1 σ Q r := by
  cases r with
  | ok z h => exact fun F' ρ' v H' e' w q => p F' ρ' v H' (e.trans e') w q
  | exc x h => exact fun F' ρ' H' cls d e' w q => p F' ρ' H' cls d (e.trans e') w q
  | bad => exact p
theorem PostG.mono {Q Q' : β → Hp → Prop} {r : Res α} (p : PostG R c E G F ρ n σ Q r) (f : ∀ v H, Q v H → Q' v H) : PostG R c E G F ρ n σ Q' r := by
  cases r with
  | ok z h => exact fun F' ρ' v H' e' w q => f _ _ (p F' ρ' v H' e' w q)
  | exc x h => exact p
  | bad => exact p
/-- what is known behind the first of two -/
def Mid (R : RC → Hp → (Nat → Addr) → Nat → α → β → Prop) (c : RC) (G F : Hp) (ρ : Nat → Addr) (n : Nat) (P : Hp → (Nat → Addr) → Hv → α → Prop) (v : β) (H1 : Hp) : Prop :=
  ∃ F1 ρ1 h1 z, Ext F ρ n F1 ρ1 h1.length ∧ W c G F1 ρ1 h1 H1 ∧ R c F1 ρ1 h1.length z v ∧ P F1 ρ1 h1 z
theorem PostG.bind {Q : δ → Hp → Prop} {r : Res α} {k : α → Hv → Res γ} (p : PostG R2 c E G F ρ n σ Q (r.bind k)) :
    PostG R c E G F ρ n σ (Mid R c G F ρ n fun F1 ρ1 h1 z => PostG R2 c E G F1 ρ1 h1.length σ Q (k z h1)) r := by
  cases r with
  | ok z h => exact fun F' ρ' v H' e w q => ⟨F', ρ', h, z, e, w, q, PostG.ext (show PostG R2 c E G F ρ n σ Q (k z h) from p) e⟩
  | exc x h => exact p
  | bad => exact p
end
def RelB (_ : RC) (_ : Hp) (_ : Nat → Addr) (_ : Nat) (b : Bool) (v : Bool) : Prop := v = b
/-- a state of ours -/
def Rdy (c : RC) (P : Hp → Hp → (Nat → Addr) → Sg → Hv → Prop) : L2.St → Hp → Prop := fun σ H => ∃ G F ρ zs h, W c G F ρ h H ∧ RelS c F ρ h.length zs σ ∧ P G F ρ zs h
def rdE (c : RC) (E : WX) (m : ME) : TE := fun σ H Q => Rdy c (fun G F ρ zs h => PostG Rel c E G F ρ h.length σ Q (m zs h)) σ H
def rdT (c : RC) (E : WX) (m : MT) : TT := fun σ H Q => Rdy c (fun G F ρ zs h => PostG RelB c E G F ρ h.length σ Q (m zs h)) σ H
def rdA (c : RC) (E : WX) (m : MA) : TA := fun σ H Q => Rdy c (fun G F ρ zs h => PostG Rels c E G F ρ h.length σ Q (m zs h)) σ H
def PostS (c : RC) (E : WX) (G F : Hp) (ρ : Nat → Addr) (n : Nat) (D : Ends) : RS → Prop
  | .nx zs h => ∀ F' ρ' σ' H', Ext F ρ n F' ρ' h.length → W c G F' ρ' h H' → RelS c F' ρ' h.length zs σ' → D.nx σ' H'
  | .rt z h => ∀ F' ρ' v H', Ext F ρ n F' ρ' h.length → W c G F' ρ' h H' → Rel c F' ρ' h.length z v → D.rt v H'
  | .bk zs h => ∀ F' ρ' σ' H', Ext F ρ n F' ρ' h.length → W c G F' ρ' h H' → RelS c F' ρ' h.length zs σ' → D.bk σ' H'
  | .ct zs h => ∀ F' ρ' σ' H', Ext F ρ n F' ρ' h.length → W c G F' ρ' h H' → RelS c F' ρ' h.length zs σ' → D.ct σ' H'
  | .exc x zs h => ∀ F' ρ' σ' H' cls d, Ext F ρ n F' ρ' h.length → W c G F' ρ' h H' → RelS c F' ρ' h.length zs σ' → RelX c F' ρ' h.length x cls d → E cls d σ' H'
  | .bad => False
def rdS (c : RC) (E : WX) (m : MS) : TS := fun D σ H => Rdy c (fun G F ρ zs h => PostS c E G F ρ h.length D (m zs h)) σ H
theorem PostS.ext {c : RC} {E : WX} {G F F1 : Hp} {ρ ρ1 : Nat → Addr} {n n1 : Nat} {D : Ends} {r : RS} (p : PostS c E G F ρ n D r) (e : Ext F ρ n F1 ρ1 n1) : PostS c E G F1 ρ1 n1 D r := by
  cases r with
  | nx z h => exact fun F' ρ' v H' e' w q => p F' ρ' v H' (e.trans e') w q
  | rt z h => exact fun F' ρ' v H' e' w q => p F' ρ' v H' (e.trans e') w q
  | bk z h => exact fun F' ρ' v H' e' w q => p F' ρ' v H' (e.trans e') w q
  | ct z h => exact fun F' ρ' v H' e' w q => p F' ρ' v H' (e.trans e') w q
  | exc x z h => exact fun F' ρ' v H' cls d e' w q r => p F' ρ' v H' cls d (e.trans e') w q r
  | bad => exact p
/-- a reading is weakened -/
theorem PE.weak {X : Cx} {e : Expr} {t t' : TE} (h : PE X e t) (f : ∀ σ H Q, t' σ H Q → t σ H Q) : PE X e t' := ⟨fun pins s σ H Q I hw => h.run pins s σ H Q I (f σ H Q hw)⟩
theorem PT.weak {X : Cx} {e : Expr} {t t' : TT} (h : PT X e t) (f : ∀ σ H Q, t' σ H Q → t σ H Q) : PT X e t' := ⟨fun pins s σ H Q I hw => h.run pins s σ H Q I (f σ H Q hw)⟩
theorem PW.weak {X : Cx} {e : Expr} {t t' : TT} (h : PW X e t) (f : ∀ σ H Q, t' σ H Q → t σ H Q) : PW X e t' := ⟨fun wh pins s σ H Q I hw => h.run wh pins s σ H Q I (f σ H Q hw)⟩
theorem PA.weak {X : Cx} {e : List Expr} {t t' : TA} (h : PA X e t) (f : ∀ σ H Q, t' σ H Q → t σ H Q) : PA X e t' := ⟨fun pos pins s σ H Q I hw => h.run pos pins s σ H Q I (f σ H Q hw)⟩
theorem PS.weak {X : Cx} {e : Stmt} {t t' : TS} (h : PS X e t) (f : ∀ D σ H, t' D σ H → t D σ H) : PS X e t' := ⟨fun pins s σ H D I hw => h.run pins s σ H D I (f D σ H hw)⟩
theorem PSs.weak {X : Cx} {e : List Stmt} {t t' : TS} (h : PSs X e t) (f : ∀ D σ H, t' D σ H → t D σ H) : PSs X e t' := ⟨fun pins s σ H D I hw => h.run pins s σ H D I (f D σ H hw)⟩
end ZL
set_option Elab.async false
set_option linter.all false
set_option maxRecDepth 100000
set_option maxHeartbeats 2000000
namespace ZL
open PySem PySem.Spec PyProof.Rows L2
abbrev nox : WX := fun _ _ _ _ => False
/-! ### results of built-in operations -/
inductive Out where
  | val (z : Z) | tup (zs : List Z) | lst (zs : List Z)
def Out.go (mu : Bool) (h : Hv) : Option Out → Res Z
  | none => .bad
  | some (.val z) => .ok z h
  | some (.tup zs) => .ok (.tup zs) h
  | some (.lst zs) => if mu = true then .ok (.ref h.length) (h ++ [.lst zs]) else .ok (.lst zs) h
def OutR (c : RC) (F : Hp) (ρ : Nat → Addr) (h : Hv) (H : Hp) (Q : VK) : Out → Prop
  | .val z => ∀ v, Rel c F ρ h.length z v → Q v H
  | .tup zs => ∀ p ws, H p = none → Rels c F ρ h.length zs ws → Q (.ref p) (upd H p (.tup ws))
  | .lst zs => ∀ p ws, H p = none → Rels c F ρ h.length zs ws → Q (.ref p) (upd H p (.lst ws))
section
variable {c : RC} {E : WX} {G F : Hp} {ρ : Nat → Addr} {h : Hv} {H : Hp} {σ : L2.St} {Q : VK}
theorem post_tup {zs : List Z} (w : W c G F ρ h H) (q : ∀ F' ρ' v H', Ext F ρ h.length F' ρ' h.length → W c G F' ρ' h H' → Rel c F' ρ' h.length (.tup zs) v → Q v H') : OutR c F ρ h H Q (.tup zs) := fun p ws np r => by
  obtain ⟨w1, e1⟩ := w.frz np (.tup ws)
  exact q _ _ _ _ e1 w1 ⟨p, ws, rfl, upd_same, r.ext e1⟩
theorem post_lst {zs : List Z} (w : W c G F ρ h H) (q : ∀ F' ρ' v H', Ext F ρ h.length F' ρ' h.length → W c G F' ρ' h H' → Rel c F' ρ' h.length (.lst zs) v → Q v H') : OutR c F ρ h H Q (.lst zs) := fun p ws np r => by
  obtain ⟨w1, e1⟩ := w.frz np (.lst ws)
  exact q _ _ _ _ e1 w1 ⟨p, ws, rfl, upd_same, r.ext e1⟩
theorem post_new {zs : List Z} (w : W c G F ρ h H) (q : ∀ F' ρ' v H', Ext F ρ h.length F' ρ' (h ++ [MO.lst zs]).length → W c G F' ρ' (h ++ [.lst zs]) H' → Rel c F' ρ' (h ++ [MO.lst zs]).length (.ref h.length) v → Q v H') : OutR c F ρ h H Q (.lst zs) := fun p ws np r => by
  obtain ⟨ρ', e0, w1, e1⟩ := w.new np (o := .lst ws) (m := .lst zs) rfl fun ρ' e => ⟨ws, upd_same, r.ext e⟩
  exact q _ _ _ _ e1 w1 ⟨by simp, by rw [e0]⟩
theorem out_post {mu : Bool} {o : Out} (w : W c G F ρ h H) (p : PostG Rel c E G F ρ h.length σ Q (Out.go mu h (some o))) : OutR c F ρ h H Q o := by
  cases o with
  | val z => exact fun v r => p _ _ _ _ .refl w r
  | tup zs => exact post_tup w p
  | lst zs =>
    cases mu with
    | false => exact post_lst w p
    | true => exact post_new w p
end
/-- a two-place operation's reading, by a function of ours -/
def rdOp (c : RC) (g : Hv → Z → Z → Option Out) : R2 := fun x y H Q => ∃ G F ρ h zx zy o, W c G F ρ h H ∧ Rel c F ρ h.length zx x ∧ Rel c F ρ h.length zy y ∧ g h zx zy = some o ∧ OutR c F ρ h H Q o
def rdUn (c : RC) (g : Hv → Z → Option Out) : V → Hp → VK → Prop := fun x H Q => ∃ G F ρ h zx o, W c G F ρ h H ∧ Rel c F ρ h.length zx x ∧ g h zx = some o ∧ OutR c F ρ h H Q o
def rdCall (c : RC) (g : Hv → List Z → Option Out) : List V → Hp → VK → Prop := fun xs H Q => ∃ G F ρ h zs o, W c G F ρ h H ∧ Rels c F ρ h.length zs xs ∧ g h zs = some o ∧ OutR c F ρ h H Q o
def rdMt (c : RC) (g : Hv → Z → List Z → Option Out) : V → List V → Hp → VK → Prop := fun x xs H Q => ∃ G F ρ h z zs o, W c G F ρ h H ∧ Rel c F ρ h.length z x ∧ Rels c F ρ h.length zs xs ∧ g h z zs = some o ∧ OutR c F ρ h H Q o
/-! ### expressions -/
section
variable {X : Cx} {ce : Addr → Value → Option Addr → Prop} {E : WX} {a b : Expr} {ma mb mc : ME} {pos : Pos}
abbrev rc (X : Cx) (ce : Addr → Value → Option Addr → Prop) : RC := ⟨X.K, ce⟩
def ZE (X : Cx) (ce : Addr → Value → Option Addr → Prop) (E : WX) (e : Expr) (m : ME) : Prop := PE X e (rdE ⟨X.K, ce⟩ E m)
def ZT (X : Cx) (ce : Addr → Value → Option Addr → Prop) (E : WX) (e : Expr) (m : MT) : Prop := PT X e (rdT ⟨X.K, ce⟩ E m)
def ZW (X : Cx) (ce : Addr → Value → Option Addr → Prop) (E : WX) (e : Expr) (m : MT) : Prop := PW X e (rdT ⟨X.K, ce⟩ E m)
def ZA (X : Cx) (ce : Addr → Value → Option Addr → Prop) (E : WX) (es : List Expr) (m : MA) : Prop := PA X es (rdA ⟨X.K, ce⟩ E m)
def ZS (X : Cx) (ce : Addr → Value → Option Addr → Prop) (E : WX) (st : Stmt) (m : MS) : Prop := PS X st (rdS ⟨X.K, ce⟩ E m)
def ZSs (X : Cx) (ce : Addr → Value → Option Addr → Prop) (E : WX) (st : List Stmt) (m : MS) : Prop := PSs X st (rdS ⟨X.K, ce⟩ E m)
def zC (z : Z) : ME := fun _ h => .ok z h
def zVar (i : Nat) : ME := fun s h => match s[i]? with
  | some (some z) => .ok z h
  | _ => .bad
def zBin (g : Hv → Z → Z → Option Out) (mu : Bool) (ma mb : ME) : ME := fun s h => (ma s h).bind fun x h1 => (mb s h1).bind fun y h2 => Out.go mu h2 (g h2 x y)
def zUn (g : Hv → Z → Option Out) (ma : ME) : ME := fun s h => (ma s h).bind fun x h1 => Out.go false h1 (g h1 x)
def zAnd (a b : MT) : MT := fun s h => (a s h).bind fun k h1 => if k = true then b s h1 else .ok false h1
def zOr (a b : MT) : MT := fun s h => (a s h).bind fun k h1 => if k = true then .ok true h1 else b s h1
def zNot (a : MT) : MT := fun s h => (a s h).bind fun k h1 => .ok (!k) h1
def zIfE (t : MT) (a b : ME) : ME := fun s h => (t s h).bind fun k h1 => if k = true then a s h1 else b s h1
/-- a test as a value -/
def zBl (t : MT) : ME := fun s h => (t s h).bind fun k h1 => .ok (.bl k) h1
/-- a value that is a flag, as a test -/
def zTst (m : ME) : MT := fun s h => (m s h).bind fun z h1 => match z with
  | .bl k => .ok k h1
  | _ => .bad
def zNil : MA := fun _ h => .ok [] h
def zCons (a : ME) (t : MA) : MA := fun s h => (a s h).bind fun x h1 => (t s h1).bind fun xs h2 => .ok (x :: xs) h2
def zTup (t : MA) : ME := fun s h => (t s h).bind fun xs h1 => if xs.length ≤ sizeLine then .ok (.tup xs) h1 else .bad
def zLst (mu : Bool) (t : MA) : ME := fun s h => (t s h).bind fun xs h1 => if xs.length ≤ sizeLine then Out.go mu h1 (some (.lst xs)) else .bad
theorem ze_c {v : V} {z : Z} (he : PE X a (tC v)) (r : ∀ F ρ n, Rel ⟨X.K, ce⟩ F ρ n z v) : ZE X ce E a (zC z) :=
  PE.weak he fun σ H Q ⟨G, F, ρ, zs, h, w, rs, p⟩ => p _ _ _ _ .refl w (r _ _ _)
theorem ze_int {i j pos} : ZE X ce E (.Constant (.int i) j pos) (zC (.int i)) := ze_c pe_int fun _ _ _ => rfl
theorem ze_bl {b j pos} : ZE X ce E (.Constant (.bool b) j pos) (zC (.bl b)) := ze_c pe_bl fun _ _ _ => rfl
theorem ze_non {j pos} : ZE X ce E (.Constant .none j pos) (zC .non) := ze_c pe_non fun _ _ _ => rfl
theorem ze_str {x j pos} : ZE X ce E (.Constant (.str x) j pos) (zC (.str x)) := ze_c pe_str fun _ _ _ => rfl
theorem ze_var {i : Nat} (he : PE X a (tVar i)) : ZE X ce E a (zVar i) :=
  PE.weak he fun σ H Q ⟨G, F, ρ, zs, h, w, rs, p⟩ => by
    have p' : PostG Rel ⟨X.K, ce⟩ E G F ρ h.length σ Q (match zs[i]? with | some (some z) => .ok z h | _ => .bad) := p
    split at p'
    · rename_i z e
      obtain ⟨v, e1, r⟩ := rs.2 i z e
      exact ⟨v, e1, p' _ _ _ _ .refl w r⟩
    · exact p'.elim
theorem ze_op {op : Operator} {g : Hv → Z → Z → Option Out} (mu : Bool) (ho : OpR X (binaryOp op) (rdOp ⟨X.K, ce⟩ g)) (ha : ZE X ce E a ma) (hb : ZE X ce E b mb) : ZE X ce E (.BinOp a op b pos) (zBin g mu ma mb) :=
  PE.weak (pe_op ho ha hb) fun σ H Q ⟨G, F, ρ, zs, h, w, rs, p⟩ => ⟨G, F, ρ, zs, h, w, rs, p.bind.mono fun v H1 ⟨F1, ρ1, h1, z1, e1, w1, r1, p1⟩ =>
    ⟨G, F1, ρ1, zs, h1, w1, rs.ext e1, p1.bind.mono fun u H2 ⟨F2, ρ2, h2, z2, e2, w2, r2, p2⟩ => by
      dsimp only at p2
      cases q : g h2 z1 z2 with
      | none => rw [q] at p2; exact False.elim p2
      | some o => rw [q] at p2; exact ⟨G, F2, ρ2, h2, z1, z2, o, w2, r1.ext e2, r2, q, out_post w2 p2⟩⟩⟩
theorem ze_cmp {op : CmpOp} {g : Hv → Z → Z → Option Out} (ho : OpR X (compareOp op) (rdOp ⟨X.K, ce⟩ g)) (ha : ZE X ce E a ma) (hb : ZE X ce E b mb) (hm : behindInMarks op b = false := by first | exact nomark _ | rfl | with_unfolding_all rfl) :
    ZE X ce E (.Compare a [op] [b] pos) (zBin g false ma mb) :=
  PE.weak (pe_cmpR ho ha hb hm) fun σ H Q ⟨G, F, ρ, zs, h, w, rs, p⟩ => ⟨G, F, ρ, zs, h, w, rs, p.bind.mono fun v H1 ⟨F1, ρ1, h1, z1, e1, w1, r1, p1⟩ =>
    ⟨G, F1, ρ1, zs, h1, w1, rs.ext e1, p1.bind.mono fun u H2 ⟨F2, ρ2, h2, z2, e2, w2, r2, p2⟩ => by
      dsimp only at p2
      cases q : g h2 z1 z2 with
      | none => rw [q] at p2; exact False.elim p2
      | some o => rw [q] at p2; exact ⟨G, F2, ρ2, h2, z1, z2, o, w2, r1.ext e2, r2, q, out_post w2 p2⟩⟩⟩
/-- a flag's reading -/
theorem rdT_of {m : ME} {σ : L2.St} {H : Hp} {Q : Bool → Hp → Prop} {c : RC} (p : rdT c E (zTst m) σ H Q) : rdE c E m σ H fun x H1 => ∃ k, x = .bl k ∧ Q k H1 := by
  obtain ⟨G, F, ρ, zs, h, w, rs, p⟩ := p
  refine ⟨G, F, ρ, zs, h, w, rs, (PostG.bind (R := Rel) p).mono fun v H1 ⟨F1, ρ1, h1, z1, e1, w1, r1, p1⟩ => ?_⟩
  cases z1 with
  | bl k => exact ⟨k, r1, p1 F1 ρ1 k H1 .refl w1 rfl⟩
  | _ => exact False.elim p1
theorem zt_cmp {op : CmpOp} {g : Hv → Z → Z → Option Out} (ho : OpR X (compareOp op) (rdOp ⟨X.K, ce⟩ g)) (ha : ZE X ce E a ma) (hb : ZE X ce E b mb) (hm : behindInMarks op b = false := by first | exact nomark _ | rfl | with_unfolding_all rfl) :
    ZT X ce E (.Compare a [op] [b] pos) (zTst (zBin g false ma mb)) :=
  PT.weak (pt_cmpR ho ha hb hm) fun σ H Q p => by
    obtain ⟨G, F, ρ, zs, h, w, rs, p⟩ := rdT_of p
    exact ⟨G, F, ρ, zs, h, w, rs, p.bind.mono fun v H1 ⟨F1, ρ1, h1, z1, e1, w1, r1, p1⟩ =>
    ⟨G, F1, ρ1, zs, h1, w1, rs.ext e1, p1.bind.mono fun u H2 ⟨F2, ρ2, h2, z2, e2, w2, r2, p2⟩ => by
      dsimp only at p2
      cases q : g h2 z1 z2 with
      | none => rw [q] at p2; exact False.elim p2
      | some o => rw [q] at p2; exact ⟨G, F2, ρ2, h2, z1, z2, o, w2, r1.ext e2, r2, q, out_post w2 p2⟩⟩⟩
/-- a op b op' c -/
def zChain (g g' : Hv → Z → Z → Option Out) (ma mb mc : ME) : ME := fun s h => (ma s h).bind fun x h1 => (mb s h1).bind fun y h2 => match g h2 x y with
  | some (.val (.bl true)) => (mc s h2).bind fun z h3 => Out.go false h3 (g' h3 y z)
  | some (.val (.bl false)) => .ok (.bl false) h2
  | _ => .bad
theorem chain_rd {c : RC} {g g' : Hv → Z → Z → Option Out} {σ : L2.St} {H : Hp} {Q : VK} (p : rdE c E (zChain g g' ma mb mc) σ H Q) : tChain (rdOp c g) (rdOp c g') (rdE c E ma) (rdE c E mb) (rdE c E mc) σ H Q := by
  obtain ⟨G, F, ρ, zs, h, w, rs, p⟩ := p
  refine ⟨G, F, ρ, zs, h, w, rs, (PostG.bind p).mono fun v H1 ⟨F1, ρ1, h1, z1, e1, w1, r1, p1⟩ => ?_⟩
  refine ⟨G, F1, ρ1, zs, h1, w1, rs.ext e1, (PostG.bind p1).mono fun u H2 ⟨F2, ρ2, h2, z2, e2, w2, r2, p2⟩ => ?_⟩
  dsimp only at p2
  split at p2
  · rename_i q
    refine ⟨G, F2, ρ2, h2, z1, z2, _, w2, r1.ext e2, r2, q, fun v rv => ⟨true, rv, ?_⟩⟩
    rw [if_pos rfl]
    refine ⟨G, F2, ρ2, zs, h2, w2, (rs.ext e1).ext e2, (PostG.bind p2).mono fun x H3 ⟨F3, ρ3, h3, z3, e3, w3, r3, p3⟩ => ?_⟩
    dsimp only at p3
    cases q : g' h3 z2 z3 with
    | none => rw [q] at p3; exact False.elim p3
    | some o => rw [q] at p3; exact ⟨G, F3, ρ3, h3, z2, z3, o, w3, r2.ext e3, r3, q, out_post w3 p3⟩
  · rename_i q
    refine ⟨G, F2, ρ2, h2, z1, z2, _, w2, r1.ext e2, r2, q, fun v rv => ⟨false, rv, ?_⟩⟩
    rw [if_neg Bool.false_ne_true]
    exact p2 _ _ _ _ .refl w2 rfl
  · exact False.elim p2
theorem ze_chain {op op' : CmpOp} {g g' : Hv → Z → Z → Option Out} {d : Expr} (ho : OpR X (compareOp op) (rdOp ⟨X.K, ce⟩ g)) (ho' : OpR X (compareOp op') (rdOp ⟨X.K, ce⟩ g')) (ha : ZE X ce E a ma) (hb : ZE X ce E b mb) (hc : ZE X ce E d mc)
    (hm : lastMarks [op, op'] [b, d] = false := by with_unfolding_all rfl) : ZE X ce E (.Compare a [op, op'] [b, d] pos) (zChain g g' ma mb mc) :=
  PE.weak (pe_chain ho ho' ha hb hc hm) fun σ H Q p => chain_rd p
theorem zt_chain {op op' : CmpOp} {g g' : Hv → Z → Z → Option Out} {d : Expr} (ho : OpR X (compareOp op) (rdOp ⟨X.K, ce⟩ g)) (ho' : OpR X (compareOp op') (rdOp ⟨X.K, ce⟩ g')) (ha : ZE X ce E a ma) (hb : ZE X ce E b mb) (hc : ZE X ce E d mc)
    (hm : lastMarks [op, op'] [b, d] = false := by with_unfolding_all rfl) : ZT X ce E (.Compare a [op, op'] [b, d] pos) (zTst (zChain g g' ma mb mc)) :=
  PT.weak (pt_chain ho ho' ha hb hc hm) fun σ H Q p => chain_rd (rdT_of p)
theorem ze_un {op : UnaryOp} {g : Hv → Z → Option Out} (ho : UnR X (unaryOp op) (rdUn ⟨X.K, ce⟩ g)) (ha : ZE X ce E a ma) : ZE X ce E (.UnaryOp op a pos) (zUn g ma) :=
  PE.weak (pe_un ho ha) fun σ H Q ⟨G, F, ρ, zs, h, w, rs, p⟩ => ⟨G, F, ρ, zs, h, w, rs, p.bind.mono fun v H1 ⟨F1, ρ1, h1, z1, e1, w1, r1, p1⟩ => by
      dsimp only at p1
      cases q : g h1 z1 with
      | none => rw [q] at p1; exact False.elim p1
      | some o => rw [q] at p1; exact ⟨G, F1, ρ1, h1, z1, o, w1, r1, q, out_post w1 p1⟩⟩
variable {ta tb : MT} {rest : List Expr}
theorem bindB {α β : Type} {c : RC} {G F : Hp} {ρ : Nat → Addr} {n : Nat} {σ : L2.St} {Q : β → Hp → Prop} {r : Res Bool} {k : Bool → Hv → Res α} {R : RC → Hp → (Nat → Addr) → Nat → α → β → Prop} (p : PostG R c E G F ρ n σ Q (r.bind k)) :
    PostG RelB c E G F ρ n σ (fun b H1 => ∃ F1 ρ1 h1, Ext F ρ n F1 ρ1 h1.length ∧ W c G F1 ρ1 h1 H1 ∧ PostG R c E G F1 ρ1 h1.length σ Q (k b h1)) r :=
  (PostG.bind (R := RelB) p).mono fun b H1 ⟨F1, ρ1, h1, z1, e1, w1, r1, p1⟩ => by
    cases (show b = z1 from r1)
    exact ⟨F1, ρ1, h1, e1, w1, p1⟩
theorem zw_and1 (ha : ZT X ce E a ta) : ZW X ce E (.BoolOp .And [a] pos) ta := pw_and1 ha
theorem zw_or1 (ha : ZT X ce E a ta) : ZW X ce E (.BoolOp .Or [a] pos) ta := pw_or1 ha
theorem zw_and (ha : ZT X ce E a ta) (hb : ZW X ce E (.BoolOp .And (b :: rest) pos) tb) : ZW X ce E (.BoolOp .And (a :: b :: rest) pos) (zAnd ta tb) :=
  PW.weak (pw_and ha hb) fun σ H Q ⟨G, F, ρ, zs, h, w, rs, p⟩ => ⟨G, F, ρ, zs, h, w, rs, (bindB p).mono fun k H1 ⟨F1, ρ1, h1, e1, w1, p1⟩ => by
    cases k with
    | true => exact ⟨G, F1, ρ1, zs, h1, w1, rs.ext e1, p1⟩
    | false => exact p1 _ _ _ _ .refl w1 rfl⟩
theorem zw_or (ha : ZT X ce E a ta) (hb : ZW X ce E (.BoolOp .Or (b :: rest) pos) tb) : ZW X ce E (.BoolOp .Or (a :: b :: rest) pos) (zOr ta tb) :=
  PW.weak (pw_or ha hb) fun σ H Q ⟨G, F, ρ, zs, h, w, rs, p⟩ => ⟨G, F, ρ, zs, h, w, rs, (bindB p).mono fun k H1 ⟨F1, ρ1, h1, e1, w1, p1⟩ => by
    cases k with
    | false => exact ⟨G, F1, ρ1, zs, h1, w1, rs.ext e1, p1⟩
    | true => exact p1 _ _ _ _ .refl w1 rfl⟩
theorem ZW.zt (h : ZW X ce E a ta) : ZT X ce E a ta := PW.pt h
theorem zt_not (ha : ZT X ce E a ta) : ZT X ce E (.UnaryOp .Not a pos) (zNot ta) :=
  PT.weak (pt_not ha) fun σ H Q ⟨G, F, ρ, zs, h, w, rs, p⟩ => ⟨G, F, ρ, zs, h, w, rs, (bindB p).mono fun k H1 ⟨F1, ρ1, h1, e1, w1, p1⟩ => p1 _ _ _ _ .refl w1 rfl⟩
theorem ze_if {t : Expr} (ht : ZT X ce E t ta) (ha : ZE X ce E a ma) (hb : ZE X ce E b mb) : ZE X ce E (.IfExp t a b pos) (zIfE ta ma mb) :=
  PE.weak (pe_ifExp ht ha hb) fun σ H Q ⟨G, F, ρ, zs, h, w, rs, p⟩ => ⟨G, F, ρ, zs, h, w, rs, (bindB p).mono fun k H1 ⟨F1, ρ1, h1, e1, w1, p1⟩ => by
    cases k with
    | true => exact ⟨G, F1, ρ1, zs, h1, w1, rs.ext e1, p1⟩
    | false => exact ⟨G, F1, ρ1, zs, h1, w1, rs.ext e1, p1⟩⟩
/-! and, or, not of flags as values -/
def zAndE (a b : ME) : ME := fun s h => (a s h).bind fun x h1 => match x with
  | .bl true => b s h1
  | .bl false => .ok (.bl false) h1
  | _ => .bad
def zOrE (a b : ME) : ME := fun s h => (a s h).bind fun x h1 => match x with
  | .bl true => .ok (.bl true) h1
  | .bl false => b s h1
  | _ => .bad
def zNotE (a : ME) : ME := fun s h => (a s h).bind fun x h1 => match x with
  | .bl k => .ok (.bl (!k)) h1
  | _ => .bad
theorem ze_one {op} (h : ZE X ce E a ma) : ZE X ce E (.BoolOp op [a] pos) ma := pe_one h
theorem ze_and (ha : ZE X ce E a ma) (hb : ZE X ce E (.BoolOp .And (b :: rest) pos) mb) : ZE X ce E (.BoolOp .And (a :: b :: rest) pos) (zAndE ma mb) :=
  PE.weak (pe_and ha hb) fun σ H Q ⟨G, F, ρ, zs, h, w, rs, p⟩ => ⟨G, F, ρ, zs, h, w, rs, p.bind.mono fun v H1 ⟨F1, ρ1, h1, z1, e1, w1, r1, p1⟩ => by
    cases z1 with
    | bl k =>
      cases k with
      | true => exact ⟨true, r1, ⟨G, F1, ρ1, zs, h1, w1, rs.ext e1, p1⟩⟩
      | false => exact ⟨false, r1, p1 _ _ _ _ .refl w1 rfl⟩
    | _ => exact False.elim p1⟩
theorem ze_or (ha : ZE X ce E a ma) (hb : ZE X ce E (.BoolOp .Or (b :: rest) pos) mb) : ZE X ce E (.BoolOp .Or (a :: b :: rest) pos) (zOrE ma mb) :=
  PE.weak (pe_or ha hb) fun σ H Q ⟨G, F, ρ, zs, h, w, rs, p⟩ => ⟨G, F, ρ, zs, h, w, rs, p.bind.mono fun v H1 ⟨F1, ρ1, h1, z1, e1, w1, r1, p1⟩ => by
    cases z1 with
    | bl k =>
      cases k with
      | false => exact ⟨false, r1, ⟨G, F1, ρ1, zs, h1, w1, rs.ext e1, p1⟩⟩
      | true => exact ⟨true, r1, p1 _ _ _ _ .refl w1 rfl⟩
    | _ => exact False.elim p1⟩
theorem ze_not (ha : ZE X ce E a ma) : ZE X ce E (.UnaryOp .Not a pos) (zNotE ma) :=
  PE.weak (pe_not ha) fun σ H Q ⟨G, F, ρ, zs, h, w, rs, p⟩ => ⟨G, F, ρ, zs, h, w, rs, p.bind.mono fun v H1 ⟨F1, ρ1, h1, z1, e1, w1, r1, p1⟩ => by
    cases z1 with
    | bl k => exact ⟨k, r1, p1 _ _ _ _ .refl w1 rfl⟩
    | _ => exact False.elim p1⟩
/-! truth -/
def truZ (h : Hv) : Z → Option Bool
  | .non => some false
  | .bl b => some b
  | .int i => some (i != 0)
  | .str x => if x.length ≤ sizeLine then some ((x.length : Int) != 0) else none
  | .tup xs => some (!xs.isEmpty)
  | .lst xs => some (!xs.isEmpty)
  | .dkf ks _ => some (!ks.isEmpty)
  | .ref i => match h[i]? with
    | some (.lst xs) => some (!xs.isEmpty)
    | some (.dk ks _) => some (!ks.isEmpty)
    | _ => none
  | _ => none
def zTru (m : ME) : MT := fun s h => (m s h).bind fun z h1 => match truZ h1 z with
  | some k => .ok k h1
  | none => .bad
theorem rels_empty {c : RC} {F : Hp} {ρ : Nat → Addr} {n : Nat} {zs : List Z} {ws : List V} (r : Rels c F ρ n zs ws) : zs.isEmpty = ws.isEmpty := by
  cases zs with
  | nil => rw [show ws = [] from r]; rfl
  | cons z zs => obtain ⟨v, us, rfl, _⟩ := r; rfl
theorem sqT_sub {K : PySem.W.Frag} {F H : Hp} {a : Addr} {ws : List V} (s : ∀ a o, F a = some o → H a = some o) (h : SqT K F a ws) : SqT K H a ws := sqT_mono s h
theorem tru_rel {c : RC} {G F : Hp} {ρ : Nat → Addr} {h : Hv} {H : Hp} {z : Z} {v : V} {k : Bool} (w : W c G F ρ h H) (r : Rel c F ρ h.length z v) (e : truZ h z = some k) : TruV c.K v H k := by
  cases z with
  | non => cases r; cases e; rfl
  | bl b => cases r; cases e; rfl
  | int i => cases r; cases e; rfl
  | str x =>
    cases r
    have e : (if x.length ≤ sizeLine then some ((x.length : Int) != 0) else none) = some k := e
    split at e
    · rename_i q; cases e; exact ⟨q, rfl⟩
    · cases e
  | tup xs =>
    obtain ⟨a, ws, rfl, q, rr⟩ := r
    cases e
    exact .inr (.inl ⟨ws, SqT.of (w.sub _ _ q), by rw [rels_empty rr]⟩)
  | lst xs =>
    obtain ⟨a, ws, rfl, q, rr⟩ := r
    cases e
    exact .inl ⟨ws, SqL.of (w.sub _ _ q), by rw [rels_empty rr]⟩
  | dkf ks vs =>
    obtain ⟨a, ws, rfl, q, hl, rr⟩ := r
    cases e
    refine .inr (.inr ⟨_, w.sub _ _ q, ?_⟩)
    cases ks <;> cases ws <;> first | rfl | simp at hl
  | ref i =>
    obtain ⟨hi, rfl⟩ := r
    have e : (match h[i]? with
      | some (.lst xs) => some (!xs.isEmpty)
      | some (.dk ks _) => some (!ks.isEmpty)
      | _ => none) = some k := e
    split at e
    · rename_i xs q
      cases e
      obtain ⟨ws, h1, h2⟩ := w.obj i _ q
      exact .inl ⟨ws, SqL.of h1, by rw [rels_empty h2]⟩
    · rename_i ks vs q
      cases e
      obtain ⟨ws, h1, h2, h3⟩ := w.obj i _ q
      refine .inr (.inr ⟨_, h1, ?_⟩)
      cases ks <;> cases ws <;> first | rfl | simp at h2
    · cases e
  | _ => cases e
theorem zt_tru (ha : ZE X ce E a ma) (he : ∀ whole, isTrue a X.env whole = (do let v ← whole; standAt a.pos; holding [v] (truthy v)) := by intro _; rfl) : ZT X ce E a (zTru ma) :=
  PT.weak (pt_truth ha he) fun σ H Q ⟨G, F, ρ, zs, h, w, rs, p⟩ => ⟨G, F, ρ, zs, h, w, rs, (PostG.bind (R := Rel) p).mono fun v H1 ⟨F1, ρ1, h1, z1, e1, w1, r1, p1⟩ => by
    dsimp only at p1
    split at p1
    · rename_i k q
      exact ⟨k, tru_rel w1 r1 q, p1 _ _ _ _ .refl w1 rfl⟩
    · exact False.elim p1⟩
/-! displays -/
theorem za_nil : ZA X ce E [] zNil := PA.weak pa_nil fun σ H Q ⟨G, F, ρ, zs, h, w, rs, p⟩ => p _ _ _ _ .refl w rfl
theorem za_cons {e : Expr} {es : List Expr} {t : MA} (ha : ZE X ce E e ma) (hr : ZA X ce E es t) (hs : starEach (e :: es) X.env = (false, eval e X.env) :: starEach es X.env := by rfl) : ZA X ce E (e :: es) (zCons ma t) :=
  PA.weak (pa_cons ha hr hs) fun σ H Q ⟨G, F, ρ, zs, h, w, rs, p⟩ => ⟨G, F, ρ, zs, h, w, rs, p.bind.mono fun v H1 ⟨F1, ρ1, h1, z1, e1, w1, r1, p1⟩ =>
    ⟨G, F1, ρ1, zs, h1, w1, rs.ext e1, (PostG.bind (R := Rels) p1).mono fun vs H2 ⟨F2, ρ2, h2, zs2, e2, w2, r2, p2⟩ => p2 _ _ _ _ .refl w2 (.cons (r1.ext e2) r2)⟩⟩
theorem ze_tup {es : List Expr} {t : MA} {x1} (ht : ZA X ce E es t) : ZE X ce E (.Tuple es x1 pos) (zTup t) :=
  PE.weak (pe_tup ht) fun σ H Q ⟨G, F, ρ, zs, h, w, rs, p⟩ => ⟨G, F, ρ, zs, h, w, rs, (PostG.bind (R := Rels) p).mono fun vs H1 ⟨F1, ρ1, h1, xs, e1, w1, r1, p1⟩ => by
    dsimp only at p1
    split at p1
    · rename_i hl
      exact ⟨by rw [← r1.length]; exact hl, fun p np => post_tup w1 p1 p vs np r1⟩
    · exact False.elim p1⟩
theorem ze_lst {es : List Expr} {t : MA} (mu : Bool) (ht : ZA X ce E es t) : ZE X ce E (.List es pos) (zLst mu t) :=
  PE.weak (pe_lst ht) fun σ H Q ⟨G, F, ρ, zs, h, w, rs, p⟩ => ⟨G, F, ρ, zs, h, w, rs, (PostG.bind (R := Rels) p).mono fun vs H1 ⟨F1, ρ1, h1, xs, e1, w1, r1, p1⟩ => by
    dsimp only at p1
    split at p1
    · rename_i hl
      exact ⟨by rw [← r1.length]; exact hl, fun p np => out_post w1 p1 p vs np r1⟩
    · exact False.elim p1⟩
/-! calls of built-in functions, methods of built-in types, subscripts, slices -/
def zCallB (g : Hv → List Z → Option Out) (mu : Bool) (t : MA) : ME := fun s h => (t s h).bind fun xs h1 => Out.go mu h1 (g h1 xs)
def zMt (g : Hv → Z → List Z → Option Out) (mu : Bool) (o : ME) (t : MA) : ME := fun s h => (o s h).bind fun x h1 => (t s h1).bind fun xs h2 => Out.go mu h2 (g h2 x xs)
theorem callB_rd {c : RC} {g : Hv → List Z → Option Out} {mu : Bool} {t : MA} {σ : L2.St} {H : Hp} {Q : VK} (p : rdE c E (zCallB g mu t) σ H Q) : tCB (rdCall c g) (rdA c E t) σ H Q := by
  obtain ⟨G, F, ρ, zs, h, w, rs, p⟩ := p
  refine ⟨G, F, ρ, zs, h, w, rs, (PostG.bind (R := Rels) p).mono fun vs H1 ⟨F1, ρ1, h1, xs, e1, w1, r1, p1⟩ => ?_⟩
  dsimp only at p1
  cases q : g h1 xs with
  | none => rw [q] at p1; exact False.elim p1
  | some o => rw [q] at p1; exact ⟨G, F1, ρ1, h1, xs, o, w1, r1, q, out_post w1 p1⟩
theorem ze_callB {g : Hv → List Z → Option Out} {id : String} {x : Str} {e : Expr} {es : List Expr} {t : MA} {p pos : Pos} (mu : Bool) (hc : CallR X (.builtin id) (rdCall ⟨X.K, ce⟩ g)) (hg : Gl X x) (hm : X.mg x = none) (hv : bootBuiltins x = some (.builtin id)) (ha : ZA X ce E (e :: es) t)
    (hn : x ≠ "__name__" := by decide) (hdb : (x == ("__debug__" : Str)) = false := by decide) (he : starEach (e :: es) X.env = (false, eval e X.env) :: starEach es X.env := by rfl) (hpl : (backTo pos (starEach es X.env)).any (·.1) = false := by rfl) : ZE X ce E (.Call (.Name x p) (e :: es) [] pos) (zCallB g mu t) :=
  PE.weak (pe_callB hc hg hm hv ha hn hdb he hpl) fun σ H Q p => callB_rd p
theorem ze_callTy {g : Hv → List Z → Option Out} {T : String} {x : Str} {e : Expr} {es : List Expr} {t : MA} {p pos : Pos} (mu : Bool) (hc : CallR X (.type T) (rdCall ⟨X.K, ce⟩ g)) (hg : Gl X x) (hm : X.mg x = none) (hv : bootBuiltins x = some (.type T)) (ha : ZA X ce E (e :: es) t)
    (hn : x ≠ "__name__" := by decide) (hdb : (x == ("__debug__" : Str)) = false := by decide) (he : starEach (e :: es) X.env = (false, eval e X.env) :: starEach es X.env := by rfl) (hpl : (backTo pos (starEach es X.env)).any (·.1) = false := by rfl) : ZE X ce E (.Call (.Name x p) (e :: es) [] pos) (zCallB g mu t) :=
  PE.weak (pe_callTy hc hg hm hv ha hn hdb he hpl) fun σ H Q p => callB_rd p
theorem ze_ix {g : Hv → Z → Z → Option Out} (hr : IxR X (rdOp ⟨X.K, ce⟩ g)) (ha : ZE X ce E a ma) (hb : ZE X ce E b mb) (hs : PlainIx b := by intro _ _; rfl) : ZE X ce E (.Subscript a b pos) (zBin g false ma mb) :=
  PE.weak (pe_ix hr ha hb hs) fun σ H Q ⟨G, F, ρ, zs, h, w, rs, p⟩ => ⟨G, F, ρ, zs, h, w, rs, p.bind.mono fun v H1 ⟨F1, ρ1, h1, z1, e1, w1, r1, p1⟩ =>
    ⟨G, F1, ρ1, zs, h1, w1, rs.ext e1, p1.bind.mono fun u H2 ⟨F2, ρ2, h2, z2, e2, w2, r2, p2⟩ => by
      dsimp only at p2
      cases q : g h2 z1 z2 with
      | none => rw [q] at p2; exact False.elim p2
      | some o => rw [q] at p2; exact ⟨G, F2, ρ2, h2, z1, z2, o, w2, r1.ext e2, r2, q, out_post w2 p2⟩⟩⟩
end
end ZL
set_option Elab.async false
set_option linter.all false
set_option maxRecDepth 100000
set_option maxHeartbeats 2000000
namespace ZL
open PySem PySem.Spec PyProof.Rows L2
/-! ### leaving a def: what it made for itself is forgotten -/
mutual
def Z.blw (n : Nat) : Z → Bool
  | .ref i => decide (i < n)
  | .tup xs => belowL n xs
  | .lst xs => belowL n xs
  | .frl xs => belowL n xs
  | .ins _ _ xs => belowL n xs
  | .exc _ _ xs => belowL n xs
  | .dkf _ xs => belowL n xs
  | .non => true
  | .bl _ => true
  | .int _ => true
  | .str _ => true
  | .ty _ => true
  | .glo _ => true
def belowL (n : Nat) : List Z → Bool
  | [] => true
  | x :: xs => x.blw n && belowL n xs
end
def MO.blw (n : Nat) : MO → Bool
  | .dead => true
  | .lst xs => belowL n xs
  | .ins _ _ xs => belowL n xs
  | .dk _ xs => belowL n xs
  | .dt _ xs => belowL n xs
mutual
theorem Rel.below {c : RC} {F : Hp} {ρ : Nat → Addr} {n N : Nat} : ∀ {z : Z} {v : V}, Rel c F ρ N z v → z.blw n = true → Rel c F ρ n z v
  | .non, _, h, _ => h
  | .bl _, _, h, _ => h
  | .int _, _, h, _ => h
  | .str _, _, h, _ => h
  | .ty _, _, h, _ => h
  | .glo _, _, h, _ => h
  | .ref i, v, h, b => ⟨of_decide_eq_true b, (show i < N ∧ v = .ref (ρ i) from h).2⟩
  | .tup xs, v, h, b => by
    obtain ⟨a, ws, h1, h2, h3⟩ := h
    exact ⟨a, ws, h1, h2, Rels.below h3 b⟩
  | .lst xs, v, h, b => by
    obtain ⟨a, ws, h1, h2, h3⟩ := h
    exact ⟨a, ws, h1, h2, Rels.below h3 b⟩
  | .frl xs, v, h, b => by
    obtain ⟨a, ws, h1, h2, h3⟩ := h
    exact ⟨a, ws, h1, h2, Rels.below h3 b⟩
  | .ins C ns vs, v, h, b => by
    obtain ⟨a, dx, ws, h1, h2, hl, h3⟩ := h
    exact ⟨a, dx, ws, h1, h2, hl, Rels.below h3 b⟩
  | .dkf ks vs, v, h, b => by
    obtain ⟨a, ws, h1, h2, hl, h3⟩ := h
    exact ⟨a, ws, h1, h2, hl, Rels.below h3 b⟩
  | .exc C ns vs, v, h, b => by
    obtain ⟨a, d, h1, h2, h3⟩ := h
    refine ⟨a, d, h1, h2, ?_⟩
    rcases h3 with h3 | ⟨dx, ws, q1, q2, ql, q3⟩
    · exact .inl h3
    · exact .inr ⟨dx, ws, q1, q2, ql, Rels.below q3 b⟩
theorem Rels.below {c : RC} {F : Hp} {ρ : Nat → Addr} {n N : Nat} : ∀ {zs : List Z} {ws : List V}, Rels c F ρ N zs ws → belowL n zs = true → Rels c F ρ n zs ws
  | [], _, h, _ => h
  | z :: zs, ws, h, b => by
    obtain ⟨v, us, h1, h2, h3⟩ := h
    have b' : (z.blw n && belowL n zs) = true := b
    rw [Bool.and_eq_true] at b'
    exact ⟨v, us, h1, Rel.below h2 b'.1, Rels.below h3 b'.2⟩
end
theorem MOk.below {c : RC} {F : Hp} {ρ : Nat → Addr} {n N : Nat} {H : Hp} {a : Addr} {o : MO} (m : MOk c F ρ N H a o) (b : o.blw n = true) : MOk c F ρ n H a o := by
  cases o with
  | dead => trivial
  | lst zs => obtain ⟨ws, h1, h2⟩ := m; exact ⟨ws, h1, h2.below b⟩
  | ins C ns vs => obtain ⟨dx, ws, h1, h2, h3⟩ := m; exact ⟨dx, ws, h1, h2, h3.below b⟩
  | dk ks vs => obtain ⟨ws, h1, h2, h3⟩ := m; exact ⟨ws, h1, h2, h3.below b⟩
  | dt ks vs => obtain ⟨ws, h1, h2, h3⟩ := m; exact ⟨ws, h1, h2, h3.below b⟩
theorem W.trunc {c : RC} {G F : Hp} {ρ : Nat → Addr} {h : Hv} {H : Hp} {n : Nat} (w : W c G F ρ h H) (hn : n ≤ h.length) (b : (h.take n).all (·.blw n) = true) : W c G F ρ (h.take n) H := by
  have le : (h.take n).length = n := by rw [List.length_take]; omega
  have at_ : ∀ (i : Nat) (o : MO), (h.take n)[i]? = some o → h[i]? = some o := fun i o e => by
    by_cases q : i < n
    · rw [List.getElem?_take_of_lt q] at e; exact e
    · rw [List.getElem?_eq_none (by omega)] at e; cases e
  refine ⟨w.sub, fun i o e => ?_, fun i j o u e1 e2 => w.inj i j o u (at_ i o e1) (at_ j u e2), fun i o e => w.nof i o (at_ i o e), fun a u q => ⟨(w.pro a u q).1, (w.pro a u q).2.1, fun i m hm => (w.pro a u q).2.2 i m (at_ i m hm)⟩⟩
  rw [le]
  exact (w.obj i o (at_ i o e)).below (List.all_eq_true.mp b o (List.mem_of_getElem? e))
def fin (n : Nat) (z : Z) (h : Hv) : Res Z := if (z.blw n && (h.take n).all (·.blw n)) = true then .ok z (h.take n) else .ok z h
def finX (n : Nat) (x : Ex) (h : Hv) : Res Z := if (belowL n x.vs && (h.take n).all (·.blw n)) = true then .exc x (h.take n) else .exc x h
section
variable {c : RC} {E : WX} {G F F' : Hp} {ρ ρ' : Nat → Addr} {n : Nat} {h : Hv} {H : Hp} {σ : L2.St} {Q : VK}
theorem fin_ok {z : Z} {v : V} (p : PostG Rel c E G F ρ n σ Q (fin n z h)) (e : Ext F ρ n F' ρ' h.length) (w : W c G F' ρ' h H) (r : Rel c F' ρ' h.length z v) : Q v H := by
  unfold fin at p
  split at p
  · rename_i b
    rw [Bool.and_eq_true] at b
    have le : (h.take n).length = n := by rw [List.length_take]; have := e.2.2; omega
    exact p F' ρ' v H (by rw [le]; exact ⟨e.1, e.2.1, Nat.le_refl _⟩) (w.trunc e.2.2 b.2) (by rw [le]; exact r.below b.1)
  · exact p F' ρ' v H e w r
theorem RelX.below {x : Ex} {cls : Value} {d : Option Addr} {N : Nat} (r : RelX c F ρ N x cls d) (b : belowL n x.vs = true) : RelX c F ρ n x cls d :=
  ⟨r.1, r.2.imp id fun ⟨dx, ws, h1, h2, h3, h4⟩ => ⟨dx, ws, h1, h2, h3, h4.below b⟩⟩
theorem finX_ok {x : Ex} {cls : Value} {d : Option Addr} (p : PostG Rel c E G F ρ n σ Q (finX n x h)) (e : Ext F ρ n F' ρ' h.length) (w : W c G F' ρ' h H) (r : RelX c F' ρ' h.length x cls d) : E cls d σ H := by
  unfold finX at p
  split at p
  · rename_i b
    rw [Bool.and_eq_true] at b
    have le : (h.take n).length = n := by rw [List.length_take]; have := e.2.2; omega
    exact p F' ρ' H cls d (by rw [le]; exact ⟨e.1, e.2.1, Nat.le_refl _⟩) (w.trunc e.2.2 b.2) (by rw [le]; exact r.below b.1)
  · exact p F' ρ' H cls d e w r
end
/-- a def's body, from its arguments -/
def run (N : Nat) (m : MS) : List Z → Hv → Res Z := fun zs h => match m (zs.map some ++ List.replicate (N - zs.length) none) h with
  | .nx _ h' => fin h.length .non h'
  | .rt z h' => fin h.length z h'
  | .exc x _ h' => finX h.length x h'
  | _ => .bad
/-! ### what a def promises -/
abbrev no : Addr → Value → Option Addr → Prop := fun _ _ _ => False
abbrev up (E : XK) : WX := fun cls d _ H => E cls d H
def spZ (c : RC) (n : Nat) (F : List Z → Hv → Res Z) : Sp := fun vs H Q E => vs.length = n ∧ ∃ G Fz ρ h zs, W c G Fz ρ h H ∧ Rels c Fz ρ h.length zs vs ∧ PostG Rel c (up E) G Fz ρ h.length [] Q (F zs h)
/-- room, with nothing in the midst of a repr -/
structure RoomG (k : Nat) (A : Around) : Prop where
  rm : Room k A
  gd : A.guards = some []
theorem RoomG.mono {j k : Nat} {A : Around} (r : RoomG k A) (h : j ≤ k) : RoomG j A := ⟨r.rm.mono h, r.gd⟩
theorem RoomG.deeper {k : Nat} {A : Around} (r : RoomG (k + 1) A) (env : Env) : RoomG k (A.deeper env) := ⟨r.rm.deeper env, r.gd⟩
theorem RoomG.make {k : Nat} {A : Around} (r : RoomG (k + 1) A) (C : Addr) (us : List Value) (kw : List (Str × Value)) : RoomG k (A.under (.builtin "type.__call__" ⟨.ref C :: us, kw⟩)) := ⟨r.rm.make C us kw, by
  have e : Code.guards (.builtin "type.__call__" ⟨.ref C :: us, kw⟩) = [] := if_neg (by show ¬ (guardIds.contains "type.__call__") = true; decide +kernel)
  show pushGuards (Code.guards (.builtin "type.__call__" ⟨.ref C :: us, kw⟩)) A.guards = some []
  rw [e]
  exact r.gd⟩
structure FnOkG (P : Program) (w : World) (K : PySem.W.Frag) (mg : Str → Option Value) (base : Heap) (CX : CXT) (k : Nat) (f : Addr) (fd : FuncData) (ps : List Str) (sp : Sp) : Prop where
  len : ∀ vs H Q E, sp vs H Q E → vs.length = ps.length
  run : ∀ (A : Around) (outer : List Env) (s : Shared) (H : Hp) (args : Args) (us : List Value) (vs : List V) (Q : VK) (E : XK), RoomG k A → Env0 P w K mg base A outer s H → BindsTo s fd args (ps.zip us) → Vals vs us → sp vs H Q E → codeAny (model P w) A (.call (.ref f) args) (CR CX outer P w H s Q E) s
section
variable {P : Program} {w : World} {K : PySem.W.Frag} {mg : Str → Option Value} {base : Heap} {CX : CXT} {j k : Nat} {f : Addr} {fd : FuncData} {ps : List Str} {sp sp' : Sp}
theorem FnOkG.mono (x : FnOkG P w K mg base CX j f fd ps sp) (h : j ≤ k) : FnOkG P w K mg base CX k f fd ps sp := ⟨x.len, fun A outer s H args us vs Q E hr => x.run A outer s H args us vs Q E (hr.mono h)⟩
theorem FnOkG.imp (x : FnOkG P w K mg base CX k f fd ps sp) (h : ∀ vs H Q E, sp' vs H Q E → sp vs H Q E) : FnOkG P w K mg base CX k f fd ps sp' :=
  ⟨fun vs H Q E q => x.len vs H Q E (h _ _ _ _ q), fun A outer s H args us vs Q E hr he hb hv hs => x.run A outer s H args us vs Q E hr he hb hv (h _ _ _ _ hs)⟩
/-- a def by its body -/
theorem fnG_of {x qual : Str} {params : Arguments} {body : List Stmt} {scope : Scope} {N : List Str} (Fd : FunD K x qual params body scope [] [] f fd) (S : FnScope N ps scope) (len : ∀ vs H Q E, sp vs H Q E → vs.length = ps.length)
    (hbody : ∀ (cdv : Value) (A : Around) (outer : List Env) (s : Shared) (H : Hp) (vs : List V) (Q : VK) (E : XK), RoomG k (A.deeper (envOfC qual scope s.heap.objs.size f cdv)) → sp vs H Q E →
      ∃ t, PSs (cxOf CX P w K mg base N qual scope f cdv A outer s H E) body t ∧ t { nx := fun _ H' => Q .non H', rt := Q } (start N vs) H) : FnOkG P w K mg base CX (k + 1) f fd ps sp := by
  obtain ⟨oc, od, dV, kV, doc, pm, an, cdv, ct, osl, rfl, lk, hcd, _, _⟩ := Fd.ex
  refine ⟨len, fun A outer s H args us vs Q E hr e0 hb r hsp => ?_⟩
  have hl := len _ _ _ _ hsp
  have kx : K.In s.heap := e0.mod.kin.keeps fun b o e => (e0.bs b o e).1
  have nl : s.heap.NoLimit := e0.mod.nolimit.keeps fun b o e => (e0.bs b o e).1
  have hk : ∀ y ∈ ps.zip us, scope.names.lookup y.1 = some .local ∨ (scope.names.lookup y.1 = some .cell ∧ ((cellsFrom (s.heap.objs.size + 1) scope.names []).lookup y.1).isSome = true) := fun y hy =>
    (S.par y.1 (List.of_mem_zip (show (y.1, y.2) ∈ ps.zip us from hy)).1).imp id fun q => ⟨q, PySem.W.cellsFrom_some _ _ _ (.inl q)⟩
  refine codeAny_call_function hr.rm.depth (kx _ _ lk) rfl S.co S.gen rfl (PySem.W.codeRec_of kx hcd) (hb _ _ _ _ ?_)
  refine wpAny_newFunctionEnv_cells S.kind hk fun env he s1 y => ?_
  subst he
  refine ⟨nl.keeps y.toInCall.keep, codeAny_func ?_⟩
  obtain ⟨t, ht, hq⟩ := hbody cdv A outer s H vs Q E (hr.deeper _) hsp
  have I : Inv (cxOf CX P w K mg base N qual scope f cdv A outer s H E) [] (start N vs) H s1 := inv_start S hr.rm.hd e0 hl r y
  refine wpAny_mono (ht.run [] s1 (start N vs) H _ I hq) (fun fl s' hs => ?_) fun e s' hs => hs
  cases fl with
  | ret u =>
    obtain ⟨v, σ', H', J, rv, q⟩ := hs
    exact ⟨v, H', J.os, J.bare, J.base, J.hok, rv, q⟩
  | next =>
    obtain ⟨σ', H', J, q⟩ := hs
    exact ⟨.non, H', J.os, J.bare, J.base, J.hok, rfl, q⟩
  | brk =>
    obtain ⟨_, _, _, q⟩ := hs
    exact q.elim
  | cont =>
    obtain ⟨_, _, _, q⟩ := hs
    exact q.elim
end
section
variable {X : Cx} {CX : CXT} {k : Nat} {f : Addr} {fd : FuncData} {ps : List Str} {sp : Sp} {E : L2.St → XK} {x : Str} {p pos : Pos} {e : Expr} {es : List Expr} {t : TA}
theorem run_fnG {pins : List (Addr × Obj)} {σ : L2.St} {H : Hp} {s : Shared} {Q : VK} {us : List Value} {vs : List V} (Fn : FnOkG X.prog X.w X.K X.mg X.base CX k f fd ps sp) (hr : RoomG k X.A) (hb : Binds X.K fd ps []) (hx : PassesAt CX X σ (E σ))
    (I : Inv X pins σ H s) (r : Vals vs us) (h : sp vs H Q (E σ)) : wpAny (model X.prog X.w) X.A (call (.ref f) us) (EP X pins σ Q) X.xe s := by
  have hl : us.length = ps.length := by rw [← r.length]; exact Fn.len _ _ _ _ h
  have b := hb s us I.kIn (by rw [List.append_nil]; exact hl)
  rw [List.append_nil] at b
  refine wpAny_call (codeAny_mono (Fn.run X.A X.stack s H ⟨us, []⟩ us vs Q (E σ) hr I.env0 b r h) fun q s' hq => ?_)
  cases q with
  | error e => exact hx pins H s e s' I hq
  | ok fl =>
    cases fl with
    | ret u => exact I.after hq
    | _ => exact False.elim hq
theorem pe_callG (Fn : FnOkG X.prog X.w X.K X.mg X.base CX k f fd ps sp) (hr : RoomG k X.A) (hg : Gl X x) (hm : X.mg x = some (.ref f)) (hk : PySem.W.keepIn X.K (.ref f) = true) (hb : Binds X.K fd ps []) (hx : ∀ σ, PassesAt CX X σ (E σ)) (ha : PA X (e :: es) t)
    (hdb : (x == ("__debug__" : Str)) = false := by decide) (he : starEach (e :: es) X.env = (false, eval e X.env) :: starEach es X.env := by rfl) (hpl : (backTo pos (starEach es X.env)).any (·.1) = false := by rfl) :
    PE X (.Call (.Name x p) (e :: es) [] pos) (tCallS sp E t) := by
  refine ⟨fun pins s σ H Q I h => wpAny_Call_Name_kw (ld_glob I hg hm ?_ hdb)⟩
  exact PySem.W.callWith_K (h₀ := X.base) I.ok.mod.kin hk (thn (ha.run pos pins s σ H _ I h) fun us s1 ⟨vs, H1, I1, r, q⟩ => ⟨I1.kIn, run_fnG Fn hr hb (hx σ) I1 r q⟩) he hpl
end
structure FnZ (P : Program) (w : World) (K : PySem.W.Frag) (mg : Str → Option Value) (base : Heap) (k : Nat) (f : Addr) (n : Nat) (F : List Z → Hv → Res Z) : Prop where
  ex : ∃ fd ps, Binds K fd ps [] ∧ ps.length = n ∧ FnOkG P w K mg base (L2.CX P w) k f fd ps (spZ ⟨K, no⟩ n F)
  kp : PySem.W.keepIn K (.ref f) = true
theorem PostG.imp {α β : Type} {R : RC → Hp → (Nat → Addr) → Nat → α → β → Prop} {c : RC} {E E' : WX} {G F : Hp} {ρ : Nat → Addr} {n : Nat} {σ σ' : L2.St} {Q Q' : β → Hp → Prop} {r : Res α} (p : PostG R c E G F ρ n σ Q r) (f : ∀ v H, Q v H → Q' v H)
    (g : ∀ cls d H, E cls d σ H → E' cls d σ' H) : PostG R c E' G F ρ n σ' Q' r := by
  cases r with
  | ok z h => exact fun F' ρ' v H' e' w q => f _ _ (p F' ρ' v H' e' w q)
  | exc x h => exact fun F' ρ' H' cls d e' w q => g _ _ _ (p F' ρ' H' cls d e' w q)
  | bad => exact p
theorem FnZ.mono {P : Program} {w : World} {K : PySem.W.Frag} {mg : Str → Option Value} {base : Heap} {k j : Nat} {f : Addr} {n : Nat} {F : List Z → Hv → Res Z} (x : FnZ P w K mg base k f n F) (h : k ≤ j) : FnZ P w K mg base j f n F := by
  obtain ⟨⟨fd, ps, b, l, o⟩, kp⟩ := x
  exact ⟨⟨fd, ps, b, l, o.mono h⟩, kp⟩
/-- another function that tells the same where it tells anything -/
theorem FnZ.as {P : Program} {w : World} {K : PySem.W.Frag} {mg : Str → Option Value} {base : Heap} {k : Nat} {f : Addr} {n : Nat} {F G : List Z → Hv → Res Z} (x : FnZ P w K mg base k f n F) (h : ∀ zs h, zs.length = n → G zs h = .bad ∨ F zs h = G zs h) : FnZ P w K mg base k f n G := by
  obtain ⟨⟨fd, ps, b, l, o⟩, kp⟩ := x
  refine ⟨⟨fd, ps, b, l, o.imp fun vs H Q E ⟨hl, G0, Fz, ρ, hh, zs, w, r, p⟩ => ⟨hl, G0, Fz, ρ, hh, zs, w, r, ?_⟩⟩, kp⟩
  rcases h zs hh (by rw [r.length]; exact hl) with q | q
  · rw [q] at p; exact p.elim
  · rw [q]; exact p
/-- nothing is told of it -/
theorem start_rels {c : RC} {F : Hp} {ρ : Nat → Addr} {n N : Nat} {zs : List Z} {vs : List V} (r : Rels c F ρ n zs vs) : RelS c F ρ n (zs.map some ++ List.replicate (N - zs.length) none) (vs.map some ++ List.replicate (N - vs.length) none) := by
  have hl := r.length
  refine ⟨by simp [hl], fun i z e => ?_⟩
  by_cases q : i < zs.length
  · rw [List.getElem?_append_left (by simpa using q)] at e
    rw [List.getElem?_append_left (by simpa [← hl] using q)]
    rw [List.getElem?_map] at e ⊢
    cases e1 : zs[i]? with
    | none => rw [e1] at e; cases e
    | some y =>
      rw [e1] at e
      cases e
      obtain ⟨v, h1, h2⟩ := r.get e1
      exact ⟨v, by rw [h1]; rfl, h2⟩
  · rw [List.getElem?_append_right (by simpa using Nat.le_of_not_lt q), List.getElem?_replicate] at e
    split at e <;> cases e
/-- the def's rule -/
theorem fnz_of {P : Program} {w : World} {K : PySem.W.Frag} {mg : Str → Option Value} {base : Heap} {x qual : Str} {params : Arguments} {body : List Stmt} {scope : Scope} {f : Addr} {fd : FuncData} {N ps : List Str} {k : Nat} {m : MS}
    (F : FunD K x qual params body scope [] [] f fd) (S : FnScope N ps scope)
    (hb : ∀ (kV doc pm : Value) (an : Option Addr) (cdv ct : Value) (us : List Value), us.length = ps.length → bindArgs (PySem.W.fnOf x qual params body scope .none kV doc pm an cdv ct) ⟨us, []⟩ = pure (ps.zip us))
    (hbody : ∀ (cdv : Value) (A : Around) (outer : List Env) (s : Shared) (H : Hp) (E : XK), RoomG k (A.deeper (envOfC qual scope s.heap.objs.size f cdv)) → ZSs (cxOf (L2.CX P w) P w K mg base N qual scope f cdv A outer s H E) no (up E) body m) :
    FnZ P w K mg base (k + 1) f ps.length (run N.length m) := by
  refine ⟨⟨fd, ps, F.bindsN hb, rfl, fnG_of F S (fun vs H Q E h => h.1) fun cdv A outer s H vs Q E hr hsp => ⟨_, hbody cdv A outer s H E hr, ?_⟩⟩, F.kp⟩
  obtain ⟨hl, G0, Fz, ρ, h, zs, ww, r, p⟩ := hsp
  have rs : RelS ⟨K, no⟩ Fz ρ h.length (zs.map some ++ List.replicate (N.length - zs.length) none) (start N vs) := start_rels r
  refine ⟨G0, Fz, ρ, _, h, ww, rs, ?_⟩
  unfold run at p
  dsimp only
  revert p
  generalize m (zs.map some ++ List.replicate (N.length - zs.length) none) h = r0
  cases r0 with
  | nx s1 h1 => exact fun p F' ρ' σ' H' e w' _ => fin_ok p e w' rfl
  | rt z h1 => exact fun p F' ρ' v H' e w' r' => fin_ok p e w' r'
  | exc x s1 h1 => exact fun p F' ρ' σ' H' cls d e w' _ r' => finX_ok p e w' r'
  | bk s1 h1 => exact fun p => False.elim p
  | ct s1 h1 => exact fun p => False.elim p
  | bad => exact fun p => False.elim p
/-! ### calls -/
def zCall (F : List Z → Hv → Res Z) (t : MA) : ME := fun s h => (t s h).bind fun xs h1 => F xs h1
section
variable {X : Cx} {E : WX} {k : Nat} {n : Nat} {F : List Z → Hv → Res Z} {f C : Addr} {x m : Str} {p pos apos : Pos} {e o : Expr} {es : List Expr} {t : MA} {ma : ME}
theorem call_rd {c : RC} {σ : L2.St} {H : Hp} {Q : VK} (hl : ∀ s h xs h1, t s h = .ok xs h1 → xs.length = n) (q : rdE c E (zCall F t) σ H Q) : tCallS (spZ c n F) (WE E) (rdA c E t) σ H Q := by
  obtain ⟨G, Fz, ρ, zs, h, w, rs, q⟩ := q
  refine ⟨G, Fz, ρ, zs, h, w, rs, ?_⟩
  have q' := PostG.bind (R := Rels) q
  dsimp only
  revert q'
  cases eq : t zs h with
  | ok xs h1 =>
    intro q' F1 ρ1 v H1 e1 w1 r1
    obtain ⟨F2, ρ2, h2, z2, e2, w2, r2, p2⟩ := q' F1 ρ1 v H1 e1 w1 r1
    have hx := hl _ _ _ _ eq
    have q1 : PostG Rel c E G Fz ρ h.length σ Q (F xs h1) := by
      have : zCall F t zs h = F xs h1 := by unfold zCall; rw [eq]; rfl
      rw [← this]; exact q
    exact ⟨by rw [← r1.length]; exact hx, G, F1, ρ1, h1, xs, w1, r1, (q1.ext e1).imp (fun _ _ z => z) fun _ _ _ z => z⟩
  | exc x h1 => exact fun q' => q'
  | bad => exact fun q' => q'
theorem len_nil : ∀ s h xs h1, zNil s h = .ok xs h1 → xs.length = 0 := fun s h xs h1 e => by cases e; rfl
theorem len_cons {n : Nat} {a : ME} {t : MA} (ht : ∀ s h xs h1, t s h = .ok xs h1 → xs.length = n) : ∀ s h xs h1, zCons a t s h = .ok xs h1 → xs.length = n + 1 := fun s h xs h1 e => by
  unfold zCons at e
  cases e1 : a s h with
  | ok y h2 =>
    rw [e1] at e
    have e : ((t s h2).bind fun xs h3 => Res.ok (y :: xs) h3) = .ok xs h1 := e
    cases e2 : t s h2 with
    | ok ys h3 =>
      rw [e2] at e
      cases e
      rw [List.length_cons, ht _ _ _ _ e2]
    | exc x h3 => rw [e2] at e; cases e
    | bad => rw [e2] at e; cases e
  | exc x h3 => rw [e1] at e; cases e
  | bad => rw [e1] at e; cases e
theorem ze_call (Fz : FnZ X.prog X.w X.K X.mg X.base k (He.ga X.K x) n F) (hr : RoomG k X.A) (hg : Gl X x) (hm : X.mg x = some (.ref (He.ga X.K x))) (tk : Takes X E) (ha : ZA X no E (e :: es) t) (hl : ∀ s h xs h1, t s h = .ok xs h1 → xs.length = n)
    (hdb : (x == ("__debug__" : Str)) = false := by decide) (he : starEach (e :: es) X.env = (false, eval e X.env) :: starEach es X.env := by rfl) (hpl : (backTo pos (starEach es X.env)).any (·.1) = false := by rfl) : ZE X no E (.Call (.Name x p) (e :: es) [] pos) (zCall F t) := by
  obtain ⟨⟨fd, ps, hb, hn, ok⟩, kp⟩ := Fz
  exact PE.weak (pe_callG ok hr hg hm kp hb (fun σ => passAt tk σ) ha hdb he hpl) fun σ H Q q => call_rd hl q
theorem ze_call0 (Fz : FnZ X.prog X.w X.K X.mg X.base k (He.ga X.K x) 0 F) (hr : RoomG k X.A) (hg : Gl X x) (hm : X.mg x = some (.ref (He.ga X.K x))) (tk : Takes X E) (hdb : (x == ("__debug__" : Str)) = false := by decide) : ZE X no E (.Call (.Name x p) [] [] pos) (zCall F zNil) := by
  obtain ⟨⟨fd, ps, hb, hn, ok⟩, kp⟩ := Fz
  refine ⟨fun pins s σ H Q I h => ?_⟩
  refine wpAny_Call_Name_kw (ld_glob I hg hm ?_ hdb)
  obtain ⟨G, F1, ρ, zs, hh, w, rs, q⟩ := h
  exact PySem.W.callWith_K0 I.kIn kp (run_fnG (us := []) (E := WE E) ok hr hb (passAt tk σ) I .nil ⟨rfl, G, F1, ρ, hh, [], w, rfl, q.imp (fun _ _ z => z) fun _ _ _ z => z⟩)
end
end ZL
set_option Elab.async false
set_option linter.all false
set_option maxRecDepth 100000
set_option maxHeartbeats 2000000
namespace ZL
open PySem PySem.Spec PyProof.Rows L2
/-! ### statements -/
def Res.toS {α : Type} (r : Res α) (s : Sg) (k : α → Hv → RS) : RS := match r with
  | .ok a h => k a h
  | .exc x h => .exc x s h
  | .bad => .bad
theorem PostS.toG {α β : Type} {R : RC → Hp → (Nat → Addr) → Nat → α → β → Prop} {c : RC} {E : WX} {G F : Hp} {ρ : Nat → Addr} {n : Nat} {σ : L2.St} {D : Ends} {r : Res α} {s : Sg} {k : α → Hv → RS} (p : PostS c E G F ρ n D (r.toS s k)) (rs : RelS c F ρ n s σ) :
    PostG R c E G F ρ n σ (Mid R c G F ρ n fun F1 ρ1 h1 z => PostS c E G F1 ρ1 h1.length D (k z h1)) r := by
  cases r with
  | ok z h => exact fun F' ρ' v H' e w q => ⟨F', ρ', h, z, e, w, q, PostS.ext (show PostS c E G F ρ n D (k z h) from p) e⟩
  | exc x h => exact fun F' ρ' H' cls d e w q => p F' ρ' σ H' cls d e w (rs.ext e) q
  | bad => exact p
def zNop : MS := fun s h => .nx s h
def zSeq (t u : MS) : MS := fun s h => match t s h with
  | .nx s1 h1 => u s1 h1
  | r => r
def zDrop (m : ME) : MS := fun s h => (m s h).toS s fun _ h1 => .nx s h1
def zRet (m : ME) : MS := fun s h => (m s h).toS s fun z h1 => .rt z h1
def zRetN : MS := fun _ h => .rt .non h
def zIf (c : MT) (t u : MS) : MS := fun s h => (c s h).toS s fun b h1 => if b = true then t s h1 else u s h1
def zBrk : MS := fun s h => .bk s h
def zCont : MS := fun s h => .ct s h
/-- a target's store -/
abbrev TgZ := Z → Sg → Option Sg
def gOne (i : Nat) : TgZ := fun z s => some (s.set i (some z))
def gAll : List TgZ → List Z → Sg → Option Sg
  | [], [], s => some s
  | g :: gs, z :: zs, s => (g z s).bind fun s1 => gAll gs zs s1
  | _, _, _ => none
def gTp (gs : List TgZ) : TgZ := fun z s => match z with
  | .tup zs => if zs.length = gs.length then gAll gs zs s else none
  | _ => none
def zAsg (m : ME) (g : TgZ) : MS := fun s h => (m s h).toS s fun z h1 => match g z s with
  | some s1 => .nx s1 h1
  | none => .bad
/-- the slots but those -/
def Keep (vs : List Nat) (σ σ' : L2.St) : Prop := σ'.length = σ.length ∧ ∀ j, j ∉ vs → σ'[j]? = σ[j]?
theorem Keep.trans {vs : List Nat} {a b d : L2.St} (x : Keep vs a b) (y : Keep vs b d) : Keep vs a d := ⟨y.1.trans x.1, fun j h => (y.2 j h).trans (x.2 j h)⟩
def rdG (c : RC) (vs : List Nat) (g : TgZ) : TG := fun v σ H Q => ∃ F ρ n zs z zs', (∀ a o, F a = some o → H a = some o) ∧ RelS c F ρ n zs σ ∧ Rel c F ρ n z v ∧ g z zs = some zs' ∧ ∀ σ', RelS c F ρ n zs' σ' → Keep vs σ σ' → Q σ' H
def rdGs (c : RC) (vs : List Nat) (gs : List TgZ) : TGs := fun ws σ H Q => ∃ F ρ n zs xs zs', (∀ a o, F a = some o → H a = some o) ∧ RelS c F ρ n zs σ ∧ Rels c F ρ n xs ws ∧ gAll gs xs zs = some zs' ∧ ∀ σ', RelS c F ρ n zs' σ' → Keep vs σ σ' → Q σ' H
def ZG (X : Cx) (ce : Addr → Value → Option Addr → Prop) (vs : List Nat) (e : Expr) (g : TgZ) : Prop := PG X e (rdG ⟨X.K, ce⟩ vs g)
def ZGs (X : Cx) (ce : Addr → Value → Option Addr → Prop) (vs : List Nat) (es : List Expr) (gs : List TgZ) : Prop := PGs X es (rdGs ⟨X.K, ce⟩ vs gs)
theorem PG.weak {X : Cx} {e : Expr} {t t' : TG} (h : PG X e t) (f : ∀ v σ H Q, t' v σ H Q → t v σ H Q) : PG X e t' := ⟨fun pins s σ H v u Q I r hw => h.run pins s σ H v u Q I r (f v σ H Q hw)⟩
theorem PGs.weak {X : Cx} {e : List Expr} {t t' : TGs} (h : PGs X e t) (f : ∀ v σ H Q, t' v σ H Q → t v σ H Q) : PGs X e t' := ⟨fun pins s σ H v u Q I r hw => h.run pins s σ H v u Q I r (f v σ H Q hw)⟩
section
variable {X : Cx} {ce : Addr → Value → Option Addr → Prop} {E : WX} {st : Stmt} {rest : List Stmt} {t u : MS} {e : Expr} {m : ME} {c : MT} {pos : Pos}
theorem zss_nil : ZSs X ce E [] zNop := PSs.weak pss_nil fun D σ H ⟨G, F, ρ, zs, h, w, rs, p⟩ => p _ _ _ _ .refl w rs
theorem seq_rd {c : RC} {D : Ends} {σ : L2.St} {H : Hp} (q : rdS c E (zSeq t u) D σ H) : tSeq (rdS c E t) (rdS c E u) D σ H := by
  obtain ⟨G, F, ρ, zs, h, w, rs, p⟩ := q
  refine ⟨G, F, ρ, zs, h, w, rs, ?_⟩
  unfold zSeq at p
  dsimp only
  revert p
  generalize t zs h = r0
  cases r0 with
  | nx s1 h1 => exact fun p F' ρ' σ' H' e' w' r' => ⟨G, F', ρ', s1, h1, w', r', p.ext e'⟩
  | rt z h1 => exact fun p => p
  | bk s1 h1 => exact fun p => p
  | ct s1 h1 => exact fun p => p
  | exc x s1 h1 => exact fun p => p
  | bad => exact fun p => p
theorem zss_cons (h1 : ZS X ce E st t) (h2 : ZSs X ce E rest u) : ZSs X ce E (st :: rest) (zSeq t u) := PSs.weak (pss_cons h1 h2) fun D σ H q => seq_rd q
theorem zss_one (h1 : ZS X ce E st t) : ZSs X ce E [st] t := pss_one h1
theorem zs_pass : ZS X ce E (.Pass pos) zNop := PS.weak ps_pass fun D σ H ⟨G, F, ρ, zs, h, w, rs, p⟩ => p _ _ _ _ .refl w rs
theorem zs_break : ZS X ce E (.Break pos) zBrk := PS.weak ps_break fun D σ H ⟨G, F, ρ, zs, h, w, rs, p⟩ => p _ _ _ _ .refl w rs
theorem zs_continue : ZS X ce E (.Continue pos) zCont := PS.weak ps_continue fun D σ H ⟨G, F, ρ, zs, h, w, rs, p⟩ => p _ _ _ _ .refl w rs
theorem zs_expr (he : ZE X ce E e m) (hs : swapsWith e none pos.line X.env = pure false := by rfl) : ZS X ce E (.Expr e pos) (zDrop m) :=
  PS.weak (ps_expr he hs) fun D σ H ⟨G, F, ρ, zs, h, w, rs, p⟩ => ⟨G, F, ρ, zs, h, w, rs, (PostS.toG (R := Rel) p rs).mono fun v H1 ⟨F1, ρ1, h1, z1, e1, w1, r1, p1⟩ => p1 _ _ _ _ .refl w1 (rs.ext e1)⟩
theorem zs_ret (he : ZE X ce E e m) : ZS X ce E (.Return (some e) pos) (zRet m) :=
  PS.weak (ps_ret he) fun D σ H ⟨G, F, ρ, zs, h, w, rs, p⟩ => ⟨G, F, ρ, zs, h, w, rs, (PostS.toG (R := Rel) p rs).mono fun v H1 ⟨F1, ρ1, h1, z1, e1, w1, r1, p1⟩ => p1 _ _ _ _ .refl w1 r1⟩
theorem zs_retN : ZS X ce E (.Return none pos) zRetN := PS.weak ps_retN fun D σ H ⟨G, F, ρ, zs, h, w, rs, p⟩ => p _ _ _ _ .refl w rfl
theorem zs_if {ce' : Expr} {a b : List Stmt} (hc : ZT X ce E ce' c) (ha : ZSs X ce E a t) (hb : ZSs X ce E b u) : ZS X ce E (.If ce' a b pos) (zIf c t u) :=
  PS.weak (ps_if hc ha hb) fun D σ H ⟨G, F, ρ, zs, h, w, rs, p⟩ => ⟨G, F, ρ, zs, h, w, rs, (PostS.toG (R := RelB) p rs).mono fun v H1 ⟨F1, ρ1, h1, z1, e1, w1, r1, p1⟩ => by
    cases (show v = z1 from r1)
    cases v with
    | true => exact ⟨G, F1, ρ1, zs, h1, w1, rs.ext e1, p1⟩
    | false => exact ⟨G, F1, ρ1, zs, h1, w1, rs.ext e1, p1⟩⟩
/-! targets -/
theorem zg_name {vs : List Nat} {i : Nat} (hg : PG X e (gName i)) (hi : i ∈ vs) : ZG X ce vs e (gOne i) :=
  PG.weak hg fun v σ H Q ⟨F, ρ, n, zs, z, zs', sub, rs, r, eq, q⟩ => by
    cases eq
    exact q _ (rs.set r i) ⟨by simp, fun j hj => List.getElem?_set_ne fun (e : i = j) => hj (e ▸ hi)⟩
theorem zgs_nil {vs : List Nat} : ZGs X ce vs [] [] := PGs.weak pgs_nil fun v σ H Q ⟨F, ρ, n, zs, xs, zs', sub, rs, r, eq, q⟩ => by
  cases xs with
  | nil => cases eq; exact ⟨r, q _ rs ⟨rfl, fun _ _ => rfl⟩⟩
  | cons _ _ => cases eq
theorem zgs_cons {vs : List Nat} {es : List Expr} {g : TgZ} {gs : List TgZ} (h1 : ZG X ce vs e g) (h2 : ZGs X ce vs es gs) (hs : (assignEach (e :: es) X.env).map (·.2) = assign e X.env :: (assignEach es X.env).map (·.2) := by rfl) : ZGs X ce vs (e :: es) (g :: gs) :=
  PGs.weak (pgs_cons h1 h2 hs) fun ws σ H Q ⟨F, ρ, n, zs, xs, zs', sub, rs, r, eq, q⟩ => by
    cases xs with
    | nil => cases eq
    | cons x xs =>
      obtain ⟨v, us, rfl, r1, r2⟩ := r
      have eq : ((g x zs).bind fun s1 => gAll gs xs s1) = some zs' := eq
      cases e1 : g x zs with
      | none => rw [e1] at eq; cases eq
      | some s1 =>
        rw [e1] at eq
        exact ⟨v, us, rfl, F, ρ, n, zs, x, s1, sub, rs, r1, e1, fun σ1 rs1 k1 => ⟨F, ρ, n, s1, xs, zs', sub, rs1, r2, eq, fun σ2 rs2 k2 => q σ2 rs2 (k1.trans k2)⟩⟩
theorem zg_tup {vs : List Nat} {es : List Expr} {k : Nat} {gs : List TgZ} {nn : Nat} (hc : X.calm = true) (h : ZGs X ce vs es gs) (hl : nn = gs.length := by rfl) (hn : (assignEach es X.env).length = nn := by rfl) (hst : (assignEach es X.env).findIdx? (·.1) = none := by rfl) : ZG X ce vs (.Tuple es k pos) (gTp gs) :=
  PG.weak (pg_tup hc h hn hst) fun v σ H Q ⟨F, ρ, n, zs, z, zs', sub, rs, r, eq, q⟩ => by
    cases z with
    | tup xs =>
      obtain ⟨a, ws, rfl, r1, r2⟩ := r
      have eq : (if xs.length = gs.length then gAll gs xs zs else none) = some zs' := eq
      split at eq
      · rename_i hlen
        exact ⟨a, ws, rfl, SqT.of (sub _ _ r1), by rw [← r2.length, hlen, hl], F, ρ, n, zs, xs, zs', sub, rs, r2, eq, q⟩
      · cases eq
    | _ => cases eq
theorem asg_rd {c : RC} {vs : List Nat} {g : TgZ} {D : Ends} {σ : L2.St} {H : Hp} (q : rdS c E (zAsg m g) D σ H) : tAsg (rdE c E m) (rdG c vs g) D σ H := by
  obtain ⟨G, F, ρ, zs, h, w, rs, p⟩ := q
  refine ⟨G, F, ρ, zs, h, w, rs, (PostS.toG (R := Rel) p rs).mono fun v H1 ⟨F1, ρ1, h1, z1, e1, w1, r1, p1⟩ => ?_⟩
  dsimp only at p1
  cases eq : g z1 zs with
  | none => rw [eq] at p1; exact False.elim p1
  | some s1 => rw [eq] at p1; exact ⟨F1, ρ1, h1.length, zs, z1, s1, w1.sub, rs.ext e1, r1, eq, fun σ' rs' _ => p1 _ _ _ _ .refl w1 rs'⟩
theorem zs_asg {tg : Expr} {vs : List Nat} {g : TgZ} (he : ZE X ce E e m) (hg : ZG X ce vs tg g) (hs : swapsWithSole [tg] e pos.line X.env = pure false := by rfl) (hw : swappedStores [tg] e X.env = pure none := by rfl)
    (h1 : (assignEach [tg] X.env).map (·.2) = [assign tg X.env] := by rfl) : ZS X ce E (.Assign [tg] e pos) (zAsg m g) := PS.weak (ps_asg he hg hs hw h1) fun D σ H q => asg_rd q
theorem zs_set {i : Nat} {x : Str} {pos' : Pos} (hN : X.N.Nodup) (hi : X.N[i]? = some x) (hx : Loc X.env.scope x) (he : ZE X ce E e m) (hs : swapsWith e (some (.Name x pos')) pos.line X.env = pure false := by rfl)
    (hf : X.fn x = true ∨ X.env.scope.names.lookup x = some .local := by first | exact .inl rfl | exact .inr rfl | assumption) : ZS X ce E (.Assign [.Name x pos'] e pos) (zAsg m (gOne i)) :=
  PS.weak (ps_set hN hi hx he hs hf) fun D σ H ⟨G, F, ρ, zs, h, w, rs, p⟩ => ⟨G, F, ρ, zs, h, w, rs, (PostS.toG (R := Rel) p rs).mono fun v H1 ⟨F1, ρ1, h1, z1, e1, w1, r1, p1⟩ => p1 _ _ _ _ .refl w1 ((rs.ext e1).set r1 i)⟩
/-! a, b = e1, e2 of plain names -/
def zPar2 (i j : Nat) (t : MA) : MS := fun s h => (t s h).toS s fun zs h1 => match zs with
  | [x, y] => .nx ((s.set i (some x)).set j (some y)) h1
  | _ => .bad
def zPar3 (i j k : Nat) (t : MA) : MS := fun s h => (t s h).toS s fun zs h1 => match zs with
  | [x, y, z] => .nx (((s.set i (some x)).set j (some y)).set k (some z)) h1
  | _ => .bad
theorem par2_rd {c : RC} {i j : Nat} {ta : MA} {D : Ends} {σ : L2.St} {H : Hp} (q : rdS c E (zPar2 i j ta) D σ H) : tPar i j (rdA c E ta) D σ H := by
  obtain ⟨G, F, ρ, zs, h, w, rs, p⟩ := q
  refine ⟨G, F, ρ, zs, h, w, rs, (PostS.toG (R := Rels) p rs).mono fun v H1 ⟨F1, ρ1, h1, xs, e1, w1, r1, p1⟩ => ?_⟩
  dsimp only at p1
  split at p1
  · rename_i x y
    obtain ⟨v1, us, rfl, q1, v2, us2, rfl, q2, q3⟩ := r1
    rw [show us2 = [] from q3]
    exact ⟨v1, v2, rfl, p1 _ _ _ _ .refl w1 (((rs.ext e1).set q1 i).set q2 j)⟩
  · exact False.elim p1
theorem par3_rd {c : RC} {i j k : Nat} {ta : MA} {D : Ends} {σ : L2.St} {H : Hp} (q : rdS c E (zPar3 i j k ta) D σ H) : tPar3 i j k (rdA c E ta) D σ H := by
  obtain ⟨G, F, ρ, zs, h, w, rs, p⟩ := q
  refine ⟨G, F, ρ, zs, h, w, rs, (PostS.toG (R := Rels) p rs).mono fun v H1 ⟨F1, ρ1, h1, xs, e1, w1, r1, p1⟩ => ?_⟩
  dsimp only at p1
  split at p1
  · rename_i x y z
    obtain ⟨v1, us, rfl, q1, v2, us2, rfl, q2, v3, us3, rfl, q3, q4⟩ := r1
    rw [show us3 = [] from q4]
    exact ⟨v1, v2, v3, rfl, p1 _ _ _ _ .refl w1 ((((rs.ext e1).set q1 i).set q2 j).set q3 k)⟩
  · exact False.elim p1
theorem zs_par2 {i j : Nat} {x y : Str} {a b : Expr} {ta : MA} {px py pt : Pos} {kt k2 pt2} (hc : X.calm = true) (hN : X.N.Nodup) (hi : X.N[i]? = some x) (hj : X.N[j]? = some y) (hij : i ≠ j)
    (hx : X.env.scope.names.lookup x = some .local) (hy : X.env.scope.names.lookup y = some .local) (ha : ZA X ce E [a, b] ta)
    (hw : swappedStores [.Tuple [.Name x px, .Name y py] kt pt] (.Tuple [a, b] k2 pt2) X.env = pure (some [x, y]))
    (hs : swapsWithSole [.Tuple [.Name x px, .Name y py] kt pt] (.Tuple [a, b] k2 pt2) pos.line X.env = pure false := by rfl) :
    ZS X ce E (.Assign [.Tuple [.Name x px, .Name y py] kt pt] (.Tuple [a, b] k2 pt2) pos) (zPar2 i j ta) := PS.weak (ps_par hc hN hi hj hij hx hy ha hw hs) fun D σ H q => par2_rd q
end
end ZL
set_option Elab.async false
set_option linter.all false
set_option maxRecDepth 100000
set_option maxHeartbeats 2000000
namespace ZL
open PySem PySem.Spec PyProof.Rows L2
/-! ### what is walked -/
/-- the iterator J gives these items -/
def JOk (c : RC) (F : Hp) (ρ : Nat → Addr) (n : Nat) (items : List Z) (J : It) : Prop :=
  items.length ≤ sizeLine ∧ ∀ G F' ρ' h H, Ext F ρ n F' ρ' h.length → W c G F' ρ' h H → ∀ i,
    (∀ z, items[i]? = some z → J.go i H ∧ ∀ x H', J.yld i H x H' → ∃ F2, Ext F' ρ' h.length F2 ρ' h.length ∧ W c G F2 ρ' h H' ∧ Rel c F2 ρ' h.length z x) ∧ (items.length ≤ i → J.stop i H)
theorem JOk.ext {c : RC} {F F1 : Hp} {ρ ρ1 : Nat → Addr} {n n1 : Nat} {items : List Z} {J : It} (j : JOk c F ρ n items J) (e : Ext F ρ n F1 ρ1 n1) : JOk c F1 ρ1 n1 items J := ⟨j.1, fun G F' ρ' h H e' w i => j.2 G F' ρ' h H (e.trans e') w i⟩
abbrev MI := Sg → Hv → Res (List Z)
def rdI (c : RC) (E : WX) (m : MI) : TI := fun σ H R => Rdy c (fun G F ρ zs h => PostG JOk c E G F ρ h.length σ R (m zs h)) σ H
def ZI (X : Cx) (ce : Addr → Value → Option Addr → Prop) (E : WX) (tg e : Expr) (m : MI) : Prop := PI X tg e (rdI ⟨X.K, ce⟩ E m)
theorem PI.weak {X : Cx} {tg e : Expr} {t t' : TI} (h : PI X tg e t) (f : ∀ σ H Q, t' σ H Q → t σ H Q) : PI X tg e t' := ⟨fun pins s σ H R I hw => h.run pins s σ H R I (f σ H R hw)⟩
/-- what stands at a list's, a tuple's address is not longer than may be -/
theorem PE.sized {X : Cx} {e : Expr} {t : TE} (h : PE X e t) : PE X e (fun σ H Q => t σ H fun v H1 => (∀ a ws, v = .ref a → (SqL X.K H1 a ws ∨ SqT X.K H1 a ws) → ws.length ≤ sizeLine) → Q v H1) :=
  ⟨fun pins s σ H Q I hw => thn (h.run pins s σ H _ I hw) fun u s1 ⟨v, H1, I1, r1, q1⟩ => ⟨v, H1, I1, r1, q1 fun a ws _ q => by
    rcases q with q | q
    · obtain ⟨_, _, _, z⟩ := I1.list q; exact z
    · obtain ⟨_, _, _, z⟩ := I1.tuple q; exact z⟩⟩
section
variable {X : Cx} {ce : Addr → Value → Option Addr → Prop} {E : WX} {tg e : Expr} {m : ME} {pos : Pos}
theorem jok_list {c : RC} {F : Hp} {ρ : Nat → Addr} {n : Nat} {items : List Z} {a : Addr} {ws : List V} (hz : ws.length ≤ sizeLine) (q : SqL c.K F a ws) (r : Rels c F ρ n items ws) : JOk c F ρ n items (Itl c.K a) := by
  refine ⟨by rw [r.length]; exact hz, fun G F' ρ' h H e w i => ⟨fun z hz => ?_, fun hi => ?_⟩⟩
  · obtain ⟨v, h1, h2⟩ := r.get hz
    have s' : SqL c.K H a ws := sqL_mono (fun a o p => w.sub _ _ (e.1 _ _ p)) q
    refine ⟨⟨ws, v, s', h1⟩, fun x H' ⟨eq, y⟩ => ?_⟩
    subst eq
    have := y ws s'
    rw [h1] at this; cases this
    exact ⟨F', .refl, w, h2.ext e⟩
  · exact ⟨ws, sqL_mono (fun a o p => w.sub _ _ (e.1 _ _ p)) q, by rw [← r.length]; exact hi⟩
theorem jok_tup {c : RC} {F : Hp} {ρ : Nat → Addr} {n : Nat} {items : List Z} {a : Addr} {ws : List V} (hz : ws.length ≤ sizeLine) (q : SqT c.K F a ws) (r : Rels c F ρ n items ws) : JOk c F ρ n items (Itt c.K a) := by
  refine ⟨by rw [r.length]; exact hz, fun G F' ρ' h H e w i => ⟨fun z hz => ?_, fun hi => ?_⟩⟩
  · obtain ⟨v, h1, h2⟩ := r.get hz
    have s' : SqT c.K H a ws := sqT_mono (fun a o p => w.sub _ _ (e.1 _ _ p)) q
    refine ⟨⟨ws, v, s', h1⟩, fun x H' ⟨eq, y⟩ => ?_⟩
    subst eq
    have := y ws s'
    rw [h1] at this; cases this
    exact ⟨F', .refl, w, h2.ext e⟩
  · exact ⟨ws, sqT_mono (fun a o p => w.sub _ _ (e.1 _ _ p)) q, by rw [← r.length]; exact hi⟩
theorem jok_range {c : RC} {F : Hp} {ρ : Nat → Addr} {n : Nat} {lo : Int} {k : Nat} (hk : k ≤ sizeLine) : JOk c F ρ n ((List.range k).map fun i => Z.int (lo + (i : Nat))) (Itr lo k) := by
  refine ⟨by simpa using hk, fun G F' ρ' h H e w i => ⟨fun z hz => ?_, fun hi => show k ≤ i by simpa using hi⟩⟩
  rw [List.getElem?_map] at hz
  cases e1 : (List.range k)[i]? with
  | none => rw [e1] at hz; cases hz
  | some j =>
    rw [e1] at hz
    obtain ⟨h1, h2⟩ := List.getElem?_eq_some_iff.mp e1
    have hi : i < k := by simpa using h1
    have hj : j = i := by simpa using h2.symm
    cases hz
    refine ⟨hi, fun x H' ⟨eq, y⟩ => ?_⟩
    subst eq y hj
    exact ⟨F', .refl, w, rfl⟩
/-- the signs of a text -/
def signs (x : Str) : List Z := x.cps.toList.map fun c => .str ⟨#[c]⟩
/-- a list, a tuple or a text, as it comes -/
theorem pi_seq {l : Expr} {tl : TE} (hl : PE X l tl) : PI X tg l (fun σ H R => tl σ H fun x H1 => (∃ a ws, x = .ref a ∧ SqL X.K H1 a ws ∧ (ws.length ≤ sizeLine → R (Itl X.K a) H1)) ∨ (∃ a ws, x = .ref a ∧ SqT X.K H1 a ws ∧ (ws.length ≤ sizeLine → R (Itt X.K a) H1)) ∨ ∃ y, x = .str y ∧ R (Its y) H1) := by
  refine ⟨fun pins s σ H R I hw => ?_⟩
  refine thn (hl.run pins s σ H _ I hw) fun v s1 ⟨x, H1, I1, r1, q1⟩ => ?_
  rcases q1 with ⟨a, ws, rfl, hq, q⟩ | ⟨a, ws, rfl, hq, q⟩ | ⟨y, rfl, q⟩
  · cases r1
    obtain ⟨its, rv, p, hz⟩ := I1.list hq
    refine wpAny_pyIter_list p.isList ?_
    refine ⟨s1.heap.objs.size, [s1.heap.objs.size], _, _, H1, rfl, I1.kept (t' := s1.toks) fun b o e => Heap.get?_push_of_some _ e, turn_list a _, ⟨_, Heap.get?_push_size _ rfl, rfl, rfl⟩, fun b hb => ?_, q hz⟩
    have e : b = s1.heap.objs.size := by simpa using hb
    subst e
    exact I1.fpOk (Nat.le_refl _) (I1.hok.fresh (Nat.le_refl _))
  · cases r1
    obtain ⟨its, rv, p, hz⟩ := I1.tuple hq
    refine wpAny_pyIter_tuple (show s1.heap.IsTuple a its.toArray from p) ?_
    refine ⟨s1.heap.objs.size, [s1.heap.objs.size], _, _, H1, rfl, I1.kept (t' := s1.toks) fun b o e => Heap.get?_push_of_some _ e, turn_tuple a _, ⟨_, Heap.get?_push_size _ rfl, rfl, rfl⟩, fun b hb => ?_, q hz⟩
    have e : b = s1.heap.objs.size := by simpa using hb
    subst e
    exact I1.fpOk (Nat.le_refl _) (I1.hok.fresh (Nat.le_refl _))
  · obtain ⟨t, rfl⟩ := r1
    cases ha : y.cps.all (· < 128)
    · exact wpAny_pyIter_wide ha (pi_one (tk := s1.toks) I1 _ (turn_str _ y t "str_iterator" (.inr rfl)) ⟨_, Heap.get?_push_size _ rfl, rfl, rfl⟩ q)
    · exact wpAny_pyIter_ascii ha (pi_one (tk := s1.toks) I1 _ (turn_str _ y t "str_ascii_iterator" (.inl rfl)) ⟨_, Heap.get?_push_size _ rfl, rfl, rfl⟩ q)
theorem jok_str {c : RC} {F : Hp} {ρ : Nat → Addr} {n : Nat} {x : Str} (hz : x.cps.size ≤ sizeLine) : JOk c F ρ n (signs x) (Its x) := by
  refine ⟨by simpa [signs] using hz, fun G F' ρ' h H e w i => ⟨fun z hz => ?_, fun hi => show x.cps.size ≤ i by simpa [signs] using hi⟩⟩
  unfold signs at hz
  rw [List.getElem?_map, Array.getElem?_toList] at hz
  cases e1 : x.cps[i]? with
  | none => rw [e1] at hz; cases hz
  | some j =>
    rw [e1] at hz
    cases hz
    refine ⟨(Array.getElem?_eq_some_iff.mp e1).1, fun v H' ⟨eq, c1, h1, h2⟩ => ?_⟩
    subst eq
    rw [e1] at h1; cases h1
    exact ⟨F', .refl, w, h2⟩
/-- the items of a list, a tuple, the signs of a text -/
def itemsZ : Z → Option (List Z)
  | .lst xs => some xs
  | .frl xs => some xs
  | .tup xs => some xs
  | .str x => if x.cps.size ≤ sizeLine then some (signs x) else none
  | _ => none
def iSeq (m : ME) : MI := fun s h => (m s h).bind fun z h1 => match itemsZ z with
  | some xs => .ok xs h1
  | none => .bad
theorem zi_seq (he : ZE X ce E e m) : ZI X ce E tg e (iSeq m) :=
  PI.weak (pi_seq he) fun σ H R ⟨G, F, ρ, zs, h, w, rs, p⟩ => ⟨G, F, ρ, zs, h, w, rs, (PostG.bind (R := Rel) p).mono fun v H1 ⟨F1, ρ1, h1, z1, e1, w1, r1, p1⟩ => by
    dsimp only at p1
    cases z1 with
    | lst xs =>
      obtain ⟨a, ws, rfl, q, r⟩ := r1
      exact .inl ⟨a, ws, rfl, SqL.of (w1.sub _ _ q), fun hz => p1 _ _ _ _ .refl w1 (jok_list (c := ⟨X.K, ce⟩) hz (SqL.of q) r)⟩
    | tup xs =>
      obtain ⟨a, ws, rfl, q, r⟩ := r1
      exact .inr (.inl ⟨a, ws, rfl, SqT.of (w1.sub _ _ q), fun hz => p1 _ _ _ _ .refl w1 (jok_tup (c := ⟨X.K, ce⟩) hz (SqT.of q) r)⟩)
    | frl xs =>
      obtain ⟨a, ws, rfl, q, r⟩ := r1
      exact .inl ⟨a, ws, rfl, sqL_mono w1.sub q, fun hz => p1 _ _ _ _ .refl w1 (jok_list (c := ⟨X.K, ce⟩) hz q r)⟩
    | str x =>
      cases r1
      simp only [itemsZ] at p1
      split at p1
      · rename_i xs eq
        split at eq
        · rename_i hz
          cases eq
          exact .inr (.inr ⟨x, rfl, p1 _ _ _ _ .refl w1 (jok_str hz)⟩)
        · cases eq
      · exact False.elim p1
    | _ => exact False.elim p1⟩
/-! range -/
def rng (lo : Int) (k : Nat) : List Z := (List.range k).map fun i => Z.int (lo + (i : Nat))
def iR1 (t : MA) : MI := fun s h => (t s h).bind fun zs h1 => match zs with
  | [.int j] => if -(2 ^ 62) ≤ j ∧ j.toNat ≤ sizeLine then .ok (rng 0 j.toNat) h1 else .bad
  | _ => .bad
def iR2 (t : MA) : MI := fun s h => (t s h).bind fun zs h1 => match zs with
  | [.int i, .int j] => if (-(2 ^ 62) ≤ i ∧ i < 2 ^ 62 ∧ -(2 ^ 62) ≤ j ∧ j < 2 ^ 62) ∧ (j - i).toNat ≤ sizeLine then .ok (rng i (j - i).toNat) h1 else .bad
  | _ => .bad
theorem zi_range1 {a : Expr} {t : MA} {p : Pos} (hg : Gl X "range") (hm : X.mg "range" = none) (ha : ZA X ce E [a] t) (hs : starEach [a] X.env = [(false, eval a X.env)] := by rfl) : ZI X ce E tg (.Call (.Name "range" p) [a] [] pos) (iR1 t) :=
  PI.weak (pi_range1 hg hm ha hs) fun σ H R ⟨G, F, ρ, zs, h, w, rs, p⟩ => ⟨G, F, ρ, zs, h, w, rs, (PostG.bind (R := Rels) p).mono fun v H1 ⟨F1, ρ1, h1, z1, e1, w1, r1, p1⟩ => by
    dsimp only at p1
    split at p1
    · rename_i j
      split at p1
      · rename_i hj
        obtain ⟨v1, us, rfl, q1, q2⟩ := r1
        have l := line63
        have l2 : sizeLine = 16777216 := sizeLine_eq
        refine ⟨j, by rw [show us = [] from q2, show v1 = .int j from q1], hj.1, by omega, p1 _ _ _ _ .refl w1 (jok_range hj.2)⟩
      · exact False.elim p1
    · exact False.elim p1⟩
theorem zi_range2 {a b : Expr} {t : MA} {p : Pos} (hg : Gl X "range") (hm : X.mg "range" = none) (ha : ZA X ce E [a, b] t) (hs : starEach [a, b] X.env = [(false, eval a X.env), (false, eval b X.env)] := by rfl) (hs2 : starEach [b] X.env = [(false, eval b X.env)] := by rfl) :
    ZI X ce E tg (.Call (.Name "range" p) [a, b] [] pos) (iR2 t) :=
  PI.weak (pi_range2 hg hm ha hs hs2) fun σ H R ⟨G, F, ρ, zs, h, w, rs, p⟩ => ⟨G, F, ρ, zs, h, w, rs, (PostG.bind (R := Rels) p).mono fun v H1 ⟨F1, ρ1, h1, z1, e1, w1, r1, p1⟩ => by
    dsimp only at p1
    split at p1
    · rename_i i j
      split at p1
      · rename_i hj
        obtain ⟨v1, us, rfl, q1, v2, us2, rfl, q2, q3⟩ := r1
        refine ⟨i, j, by rw [show us2 = [] from q3, show v1 = .int i from q1, show v2 = .int j from q2], hj.1, p1 _ _ _ _ .refl w1 (jok_range hj.2)⟩
      · exact False.elim p1
    · exact False.elim p1⟩
/-! ### for -/
def forRun (g : TgZ) (body : MS) : List Z → Sg → Hv → RS
  | [], s, h => .nx s h
  | z :: zs, s, h => match g z s with
    | none => .bad
    | some s1 => match body s1 h with
      | .nx s2 h2 => forRun g body zs s2 h2
      | .ct s2 h2 => forRun g body zs s2 h2
      | .bk s2 h2 => .nx s2 h2
      | .rt z h2 => .rt z h2
      | .exc x s2 h2 => .exc x s2 h2
      | .bad => .bad
def zFor (wi : MI) (g : TgZ) (body : MS) : MS := fun s h => (wi s h).toS s fun zs h1 => forRun g body zs s h1
theorem zs_for {iter : Expr} {body : List Stmt} {wi : MI} {g : TgZ} {vs : List Nat} {mb : MS} (hp : PassesOwn (model X.prog X.w) X.A X.env X.xe) (hc : X.calm = true) (hi : ZI X ce E tg iter wi) (hg : ZG X ce vs tg g) (hb : ZSs X ce E body mb)
    (hs : ∀ x, foldedSetIterable iter X.env x = pure x := by intro _; rfl) : ZS X ce E (.For tg iter body [] pos) (zFor wi g mb) :=
  PS.weak (ps_for hp hc hi hg hb hs) fun D σ H ⟨G, F, ρ, zs, h, w, rs, p⟩ => ⟨G, F, ρ, zs, h, w, rs, (PostS.toG (R := JOk) p rs).mono fun J H1 ⟨F1, ρ1, h1, items, e1, w1, j1, p1⟩ => by
    dsimp only at p1
    refine ⟨fun i m σ H => ∃ F2 ρ2 h2 s2, Ext F1 ρ1 h1.length F2 ρ2 h2.length ∧ W ⟨X.K, ce⟩ G F2 ρ2 h2 H ∧ RelS ⟨X.K, ce⟩ F2 ρ2 h2.length s2 σ ∧ m + i = items.length ∧ PostS ⟨X.K, ce⟩ E G F2 ρ2 h2.length D (forRun g mb (items.drop i) s2 h2), ⟨items.length, F1, ρ1, h1, zs, .refl, w1, rs.ext e1, rfl, p1⟩, ?_⟩
    rintro i m σ2 H2 ⟨F2, ρ2, h2, s2, e2, w2, rs2, hm, p2⟩
    obtain ⟨j3, j4⟩ := j1.2 G F2 ρ2 h2 H2 e2 w2 i
    by_cases hlt : i < items.length
    · obtain ⟨go, yl⟩ := j3 items[i] (List.getElem?_eq_getElem hlt)
      refine .inr ⟨go, fun σ' H' => ∃ F2 ρ2 h2 s2, Ext F1 ρ1 h1.length F2 ρ2 h2.length ∧ W ⟨X.K, ce⟩ G F2 ρ2 h2 H' ∧ RelS ⟨X.K, ce⟩ F2 ρ2 h2.length s2 σ' ∧ PostS ⟨X.K, ce⟩ E G F2 ρ2 h2.length D (forRun g mb (items.drop (i + 1)) s2 h2), fun σ' H' ⟨F3, ρ3, h3, s3, e3, w3, rs3, p3⟩ => ⟨m - 1, by omega, F3, ρ3, h3, s3, e3, w3, rs3, by omega, p3⟩, fun x H' y => ?_⟩
      obtain ⟨F3, e3, w3, r3⟩ := yl x H' y
      rw [List.drop_eq_getElem_cons hlt] at p2
      simp only [forRun] at p2
      cases eg : g items[i] s2 with
      | none => rw [eg] at p2; exact False.elim p2
      | some s3 =>
        rw [eg] at p2
        dsimp only at p2
        refine ⟨F3, ρ2, h2.length, s2, items[i], s3, w3.sub, rs2.ext e3, r3, eg, fun σ3 rs3 _ => ⟨G, F3, ρ2, s3, h2, w3, rs3, ?_⟩⟩
        have p2 := p2.ext e3
        dsimp only
        revert p2
        generalize mb s3 h2 = r0
        have e13 := e2.trans e3
        cases r0 with
        | nx s4 h4 => exact fun p F' ρ' σ' H' e' w' r' => ⟨F', ρ', h4, s4, e13.trans e', w', r', p.ext e'⟩
        | ct s4 h4 => exact fun p F' ρ' σ' H' e' w' r' => ⟨F', ρ', h4, s4, e13.trans e', w', r', p.ext e'⟩
        | bk s4 h4 => exact fun p => p
        | rt z h4 => exact fun p => p
        | exc x s4 h4 => exact fun p => p
        | bad => exact fun p => p
    · have hi : items.length ≤ i := Nat.le_of_not_lt hlt
      rw [List.drop_eq_nil_of_le hi] at p2
      exact .inl ⟨j4 hi, p2 _ _ _ _ .refl w2 rs2⟩⟩
/-! ### while, at most so many turns -/
def whileRun (c : MT) (body : MS) : Nat → Sg → Hv → RS
  | 0, _, _ => .bad
  | n + 1, s, h => (c s h).toS s fun b h1 => if b = true then (match body s h1 with
      | .nx s2 h2 => whileRun c body n s2 h2
      | .ct s2 h2 => whileRun c body n s2 h2
      | .bk s2 h2 => .nx s2 h2
      | .rt z h2 => .rt z h2
      | .exc x s2 h2 => .exc x s2 h2
      | .bad => .bad) else .nx s h1
def zWhile (fuel : Nat) (c : MT) (body : MS) : MS := whileRun c body fuel
theorem zs_while {c : Expr} {body : List Stmt} {mc : MT} {mb : MS} (fuel : Nat) (hp : PassesOwn (model X.prog X.w) X.A X.env X.xe) (hc : ZT X ce E c mc) (hb : ZSs X ce E body mb) : ZS X ce E (.While c body [] pos) (zWhile fuel mc mb) :=
  PS.weak (ps_while hp hc hb) fun D σ H ⟨G, F, ρ, zs, h, w, rs, p⟩ => by
    refine ⟨fun n σ H => ∃ F2 ρ2 h2 s2, W ⟨X.K, ce⟩ G F2 ρ2 h2 H ∧ RelS ⟨X.K, ce⟩ F2 ρ2 h2.length s2 σ ∧ PostS ⟨X.K, ce⟩ E G F2 ρ2 h2.length D (whileRun mc mb n s2 h2), ⟨fuel, F, ρ, h, zs, w, rs, p⟩, ?_⟩
    rintro n σ2 H2 ⟨F2, ρ2, h2, s2, w2, rs2, p2⟩
    cases n with
    | zero => exact False.elim p2
    | succ n =>
      refine ⟨G, F2, ρ2, s2, h2, w2, rs2, (PostS.toG (R := RelB) p2 rs2).mono fun v H1 ⟨F3, ρ3, h3, z3, e3, w3, r3, p3⟩ => ?_⟩
      cases (show v = z3 from r3)
      cases v with
      | false => exact p3 _ _ _ _ .refl w3 (rs2.ext e3)
      | true =>
        refine ⟨fun σ' H' => ∃ F2 ρ2 h2 s2, W ⟨X.K, ce⟩ G F2 ρ2 h2 H' ∧ RelS ⟨X.K, ce⟩ F2 ρ2 h2.length s2 σ' ∧ PostS ⟨X.K, ce⟩ E G F2 ρ2 h2.length D (whileRun mc mb n s2 h2), fun σ' H' q => ⟨n, Nat.lt_succ_self _, q⟩, G, F3, ρ3, s2, h3, w3, rs2.ext e3, ?_⟩
        rw [if_pos rfl] at p3
        show PostS _ _ _ _ _ _ _ (mb s2 h3)
        revert p3
        generalize mb s2 h3 = r0
        cases r0 with
        | nx s4 h4 => exact fun p F' ρ' σ' H' e' w' r' => ⟨F', ρ', h4, s4, w', r', p.ext e'⟩
        | ct s4 h4 => exact fun p F' ρ' σ' H' e' w' r' => ⟨F', ρ', h4, s4, w', r', p.ext e'⟩
        | bk s4 h4 => exact fun p => p
        | rt z h4 => exact fun p => p
        | exc x s4 h4 => exact fun p => p
        | bad => exact fun p => p
/-! ### comprehensions -/
def Res.nox {α : Type} : Res α → Res α
  | .exc _ _ => .bad
  | r => r
theorem PostG.nox {α β : Type} {R : RC → Hp → (Nat → Addr) → Nat → α → β → Prop} {c : RC} {E E' : WX} {G F : Hp} {ρ : Nat → Addr} {n : Nat} {σ σ' : L2.St} {Q : β → Hp → Prop} {r : Res α} (p : PostG R c E G F ρ n σ Q r.nox) : PostG R c E' G F ρ n σ' Q r := by
  cases r with
  | ok z h => exact p
  | exc x h => exact False.elim p
  | bad => exact p
def lcRun (s : Sg) (g : TgZ) (tt : MT) (te : ME) : List Z → Hv → Res (List Z)
  | [], h => .ok [] h
  | z :: zs, h => match g z s with
    | none => .bad
    | some s1 => (tt s1 h).nox.bind fun b h1 => if b = true then (te s1 h1).nox.bind fun y h2 => (lcRun s g tt te zs h2).bind fun ys h3 => .ok (y :: ys) h3 else lcRun s g tt te zs h1
def wipeZ (s : Sg) : List Nat → Sg
  | [] => s
  | v :: vs => (wipeZ s vs).set v none
def zLc (mu : Bool) (vs : List Nat) (wi : MI) (g : TgZ) (tt : MT) (te : ME) : ME := fun s h => (wi s h).bind fun zs h1 => (lcRun (wipeZ s vs) g tt te zs h1).bind fun ys h2 => Out.go mu h2 (some (.lst ys))
theorem RelS.wipe {c : RC} {F : Hp} {ρ : Nat → Addr} {n : Nat} {zs : Sg} {σ : L2.St} (r : RelS c F ρ n zs σ) : ∀ vs : List Nat, RelS c F ρ n (wipeZ zs vs) (wipe σ vs)
  | [] => r
  | v :: vs => (RelS.wipe r vs).del v
theorem wipe_keep {vs : List Nat} {σ σ' : L2.St} (k : Keep vs (L2.wipe σ vs) σ') : L2.wipe σ' vs = L2.wipe σ vs := by
  have at_ : ∀ (vs : List Nat) (σ : L2.St) (j : Nat), (L2.wipe σ vs)[j]? = if j ∈ vs then (if j < σ.length then some none else none) else σ[j]? := by
    intro vs
    induction vs with
    | nil => intro σ j; simp [L2.wipe]
    | cons v vs ih =>
      intro σ j
      unfold L2.wipe
      by_cases hj : v = j
      · subst hj
        by_cases hl : v < σ.length
        · rw [List.getElem?_set_self (by rw [wipe_length]; exact hl)]; simp [hl]
        · rw [List.getElem?_eq_none (by simp [wipe_length]; omega)]; simp [hl]
      · rw [List.getElem?_set_ne hj, ih]
        have : j ∈ v :: vs ↔ j ∈ vs := by simp [Ne.symm hj]
        simp only [this]
  apply List.ext_getElem?
  intro j
  rw [at_, at_]
  have hl : σ'.length = σ.length := k.1.trans (wipe_length _ _)
  split
  · rw [hl]
  · rename_i hj
    rw [k.2 j hj, at_, if_neg hj]
/-- the tests of a comprehension -/
def ZTs (X : Cx) (ce : Addr → Value → Option Addr → Prop) (E : WX) (ifs : List Expr) (m : MT) : Prop := PTs X ifs (rdT ⟨X.K, ce⟩ E m)
def zYes : MT := fun _ h => .ok true h
theorem PTs.weak {X : Cx} {e : List Expr} {t t' : TT} (h : PTs X e t) (f : ∀ σ H Q, t' σ H Q → t σ H Q) : PTs X e t' := ⟨fun pins s σ H Q I hw => h.run pins s σ H Q I (f σ H Q hw)⟩
theorem zts_nil : ZTs X ce E [] zYes := PTs.weak pts_nil fun σ H Q ⟨G, F, ρ, zs, h, w, rs, p⟩ => p _ _ _ _ .refl w rfl
theorem zts_one {c : Expr} {m : MT} (h : ZT X ce E c m) : ZTs X ce E [c] m := pts_one h
theorem bind_assoc {α β γ : Type} (r : Res α) (k : α → Hv → Res β) (l : β → Hv → Res γ) : (r.bind k).bind l = r.bind fun a h => (k a h).bind l := by
  cases r <;> rfl
theorem lc_rd {c : RC} {mu : Bool} {vs : List Nat} {wi : MI} {g : TgZ} {tt : MT} {te : ME} {σ : L2.St} {H : Hp} {Q : VK} (q : rdE c E (zLc mu vs wi g tt te) σ H Q) : tLc (rdI c E wi) (rdG c vs g) (rdT c nox tt) (rdE c nox te) vs σ H Q := by
  obtain ⟨G, F, ρ, zs, h, w, rs, p⟩ := q
  refine ⟨G, F, ρ, zs, h, w, rs, (PostG.bind (R := JOk) p).mono fun J H1 ⟨F1, ρ1, h1, items, e1, w1, j1, p1⟩ => ?_⟩
  dsimp only at p1
  intro D nD
  have rs1 := (rs.ext e1).wipe vs
  have gD : G D = none := by
    cases q : G D with
    | none => rfl
    | some u => rw [(w1.pro D u q).1] at nD; cases nD
  -- the state of the loop
  refine ⟨fun i m H => ∃ F2 ρ2 h2 acc ws, Ext F1 ρ1 h1.length F2 ρ2 h2.length ∧ W c (upd G D (.lst ws)) F2 ρ2 h2 H ∧ Rels c F2 ρ2 h2.length acc ws ∧ m + i = items.length ∧ acc.length ≤ i ∧
    PostG Rel c E G F2 ρ2 h2.length σ Q ((lcRun (wipeZ zs vs) g tt te (items.drop i) h2).bind fun ys h3 => Out.go mu h3 (some (.lst (acc ++ ys)))), ⟨items.length, F1, ρ1, h1, [], [], .refl, w1.guard nD _, rfl, rfl, Nat.le_refl _, p1⟩, ?_⟩
  rintro i m H2 ⟨F2, ρ2, h2, acc, ws, e2, w2, ra, hm, hacc, p2⟩
  obtain ⟨j3, j4⟩ := j1.2 _ F2 ρ2 h2 _ e2 w2 i
  by_cases hlt : i < items.length
  · obtain ⟨go, yl⟩ := j3 items[i] (List.getElem?_eq_getElem hlt)
    refine .inr ⟨go, fun H' => ∃ F2 ρ2 h2 acc ws, Ext F1 ρ1 h1.length F2 ρ2 h2.length ∧ W c (upd G D (.lst ws)) F2 ρ2 h2 H' ∧ Rels c F2 ρ2 h2.length acc ws ∧ acc.length ≤ i + 1 ∧
      PostG Rel c E G F2 ρ2 h2.length σ Q ((lcRun (wipeZ zs vs) g tt te (items.drop (i + 1)) h2).bind fun ys h3 => Out.go mu h3 (some (.lst (acc ++ ys)))), fun H' ⟨F3, ρ3, h3, acc3, ws3, e3, x3, r3, a3, p3⟩ => ⟨m - 1, by omega, F3, ρ3, h3, acc3, ws3, e3, x3, r3, by omega, a3, p3⟩, fun x H' y => ?_⟩
    obtain ⟨F3, e3, w3, r3⟩ := yl x H' y
    rw [List.drop_eq_getElem_cons hlt] at p2
    simp only [lcRun] at p2
    cases eg : g items[i] (wipeZ zs vs) with
    | none => rw [eg] at p2; exact False.elim p2
    | some s3 =>
      rw [eg] at p2
      dsimp only at p2
      refine ⟨F3, ρ2, h2.length, wipeZ zs vs, items[i], s3, w3.sub, (rs1.ext e2).ext e3, r3, eg, fun σ3 rs3 k3 => ⟨wipe_keep k3, _, F3, ρ2, s3, h2, w3, rs3, ?_⟩⟩
      rw [bind_assoc] at p2
      have p2 := p2.ext e3
      have ra := ra.ext e3
      have e23 := e2.trans e3
      revert p2
      dsimp only
      cases et : tt s3 h2 with
      | bad => exact fun p => False.elim p
      | exc x h3 => exact fun p => False.elim p
      | ok b h3 =>
        intro p2 F4 ρ4 b' H4 e4 w4 eb
        cases (show b' = b from eb)
        have p3 : PostG Rel c E G F4 ρ4 h3.length σ Q ((if b = true then (te s3 h3).nox.bind fun y h2 => (lcRun (wipeZ zs vs) g tt te (items.drop (i + 1)) h2).bind fun ys h3 => .ok (y :: ys) h3 else lcRun (wipeZ zs vs) g tt te (items.drop (i + 1)) h3).bind fun ys h3 => Out.go mu h3 (some (.lst (acc ++ ys)))) := PostG.ext p2 e4
        have ra := ra.ext e4
        cases b with
        | false =>
          rw [if_neg Bool.false_ne_true] at p3 ⊢
          exact ⟨F4, ρ4, h3, acc, ws, e23.trans e4, w4, ra, by omega, p3⟩
        | true =>
          rw [if_pos rfl] at p3 ⊢
          rw [bind_assoc] at p3
          refine ⟨_, F4, ρ4, s3, h3, w4, rs3.ext e4, ?_⟩
          dsimp only
          revert p3
          cases ey : te s3 h3 with
          | bad => exact fun p => False.elim p
          | exc x h3 => exact fun p => False.elim p
          | ok y h4 =>
            intro p3 F5 ρ5 v H5 e5 w5 ry
            have p4 : PostG Rel c E G F5 ρ5 h4.length σ Q (((lcRun (wipeZ zs vs) g tt te (items.drop (i + 1)) h4).bind fun ys h3 => .ok (y :: ys) h3).bind fun ys h3 => Out.go mu h3 (some (.lst (acc ++ ys)))) := PostG.ext p3 e5
            have ra := ra.ext e5
            obtain ⟨q1, q2, q3⟩ := w5.pro D _ upd_same
            refine ⟨ws, q1, ?_, F5, ρ5, h4, acc ++ [y], ws ++ [v], (e23.trans e4).trans e5, w5.reguard _, ra.append (.cons ry .nil), by simp; omega, ?_⟩
            · rw [← ra.length]
              have := j1.1
              omega
            · rw [bind_assoc] at p4
              have : (fun ys h3 => Out.go mu h3 (some (.lst ((acc ++ [y]) ++ ys)))) = fun ys (h3 : Hv) => (Res.bind (.ok (y :: ys) h3) fun ys h3 => Out.go mu h3 (some (.lst (acc ++ ys)))) := by
                funext ys h3
                simp [Res.bind]
              rw [this]
              exact p4
  · have hi : items.length ≤ i := Nat.le_of_not_lt hlt
    rw [List.drop_eq_nil_of_le hi] at p2
    have p3 : PostG Rel c E G F2 ρ2 h2.length σ Q (Out.go mu h2 (some (.lst acc))) := by
      have := p2
      simp only [lcRun, Res.bind, List.append_nil] at this
      exact this
    obtain ⟨q1, w0⟩ := w2.unguard gD
    have eq : H2 = upd (fun b => if b = D then none else H2 b) D (.lst ws) := by
      funext b
      by_cases z : b = D
      · rw [z, upd_same]; exact q1
      · rw [upd_ne z, if_neg z]
    refine .inl ⟨j4 hi, ?_⟩
    rw [eq]
    exact out_post w0 p3 D ws (if_pos rfl) ra
theorem ze_lc {elt iter : Expr} {ifs : List Expr} {scope : Scope} {own : List (Str × Nat)} {vs : List Nat} {wi : MI} {g : TgZ} {tt : MT} {te : ME} (mu : Bool) (hc : X.calm = true) (hN : X.N.Nodup) (hi : ZI X ce E tg iter wi) (ok : BlkOk X.N X.env.scope scope own) (hv : own.map (·.2) = vs)
    (hg : ∀ (s : Shared) (H : Hp) (C : Addr) (cl : List (Str × Addr)) (fp : List Addr), ZG (X.blk s H scope (compEnvC scope cl C X.env) fp) ce vs tg g) (ht : ∀ (s : Shared) (H : Hp) (C : Addr) (cl : List (Str × Addr)) (fp : List Addr), ZTs (X.blk s H scope (compEnvC scope cl C X.env) fp) ce nox ifs tt)
    (he : ∀ (s : Shared) (H : Hp) (C : Addr) (cl : List (Str × Addr)) (fp : List Addr), ZE (X.blk s H scope (compEnvC scope cl C X.env) fp) ce nox elt te) (hs : ∀ x, foldedSetIterable iter X.env x = pure x := by intro _; rfl) :
    ZE X ce E (.ListComp elt [⟨tg, iter, ifs, 0⟩] scope pos) (zLc mu vs wi g tt te) := by
  subst hv
  exact PE.weak (pe_lc (g := rdG ⟨X.K, ce⟩ (own.map fun p : Str × Nat => p.2) g) (tt := rdT ⟨X.K, ce⟩ nox tt) (te := rdE ⟨X.K, ce⟩ nox te) hc hN hi ok hg ht he hs) fun σ H Q q => lc_rd q
theorem zs_setLc {i : Nat} {y : Str} {py : Pos} {elt iter : Expr} {ifs : List Expr} {scope : Scope} {own : List (Str × Nat)} {vs : List Nat} {spos : Pos} {wi : MI} {g : TgZ} {tt : MT} {te : ME} (mu : Bool) (hc : X.calm = true) (hN : X.N.Nodup) (hy : X.N[i]? = some y) (hyl : X.env.scope.names.lookup y = some .local)
    (hsw : swapsWith (.ListComp elt [⟨tg, iter, ifs, 0⟩] scope pos) (some (.Name y py)) spos.line X.env = pure true) (hi : ZI X ce E tg iter wi) (ok : BlkOk X.N X.env.scope scope own) (hv : own.map (·.2) = vs)
    (hg : ∀ (s : Shared) (H : Hp) (C : Addr) (cl : List (Str × Addr)) (fp : List Addr), ZG (X.blk s H scope (compEnvC scope cl C X.env) fp) ce vs tg g) (ht : ∀ (s : Shared) (H : Hp) (C : Addr) (cl : List (Str × Addr)) (fp : List Addr), ZTs (X.blk s H scope (compEnvC scope cl C X.env) fp) ce nox ifs tt)
    (he : ∀ (s : Shared) (H : Hp) (C : Addr) (cl : List (Str × Addr)) (fp : List Addr), ZE (X.blk s H scope (compEnvC scope cl C X.env) fp) ce nox elt te) (hs : ∀ x, foldedSetIterable iter X.env x = pure x := by intro _; rfl) :
    ZS X ce E (.Assign [.Name y py] (.ListComp elt [⟨tg, iter, ifs, 0⟩] scope pos) spos) (zAsg (zLc mu vs wi g tt te) (gOne i)) := by
  subst hv
  refine PS.weak (ps_setLc (g := rdG ⟨X.K, ce⟩ (own.map fun p : Str × Nat => p.2) g) (tt := rdT ⟨X.K, ce⟩ nox tt) (te := rdE ⟨X.K, ce⟩ nox te) hc hN hy hyl hsw hi ok hg ht he hs) fun D σ H ⟨G, F, ρ, zs, h, w, rs, p⟩ => ?_
  have q : rdE ⟨X.K, ce⟩ E (zLc mu (own.map (·.2)) wi g tt te) σ H fun x H1 => gName i x σ H1 D.nx := ⟨G, F, ρ, zs, h, w, rs, (PostS.toG (R := Rel) p rs).mono fun v H1 ⟨F1, ρ1, h1, z1, e1, w1, r1, p1⟩ => p1 _ _ _ _ .refl w1 ((rs.ext e1).set r1 i)⟩
  exact lc_rd q
end
end ZL
set_option Elab.async false
set_option linter.all false
set_option maxRecDepth 100000
set_option maxHeartbeats 2000000
namespace ZL
open PySem PySem.Spec PyProof.Rows L2
/-! ### what stands behind a value -/
def lstOf (h : Hv) : Z → Option (List Z)
  | .lst xs => some xs
  | .ref i => match h[i]? with
    | some (.lst xs) => some xs
    | _ => none
  | _ => none
def seqOf (h : Hv) : Z → Option (List Z)
  | .tup xs => some xs
  | .frl xs => some xs
  | .lst xs => some xs
  | .ref i => match h[i]? with
    | some (.lst xs) => some xs
    | _ => none
  | _ => none
section
variable {c : RC} {G F : Hp} {ρ : Nat → Addr} {h : Hv} {H : Hp}
theorem lst_rel (w : W c G F ρ h H) {z : Z} {v : V} {xs : List Z} (r : Rel c F ρ h.length z v) (e : lstOf h z = some xs) : ∃ a ws, v = .ref a ∧ H a = some (.lst ws) ∧ Rels c F ρ h.length xs ws := by
  cases z with
  | lst ys =>
    cases e
    obtain ⟨a, ws, rfl, q, rr⟩ := r
    exact ⟨a, ws, rfl, w.sub _ _ q, rr⟩
  | ref i =>
    obtain ⟨hi, rfl⟩ := r
    have e : (match h[i]? with
      | some (.lst xs) => some xs
      | _ => none) = some xs := e
    split at e
    · rename_i ys q
      cases e
      obtain ⟨ws, h1, h2⟩ := w.obj i _ q
      exact ⟨_, ws, rfl, h1, h2⟩
    · cases e
  | _ => cases e
theorem seq_rel (w : W c G F ρ h H) {z : Z} {v : V} {xs : List Z} (r : Rel c F ρ h.length z v) (e : seqOf h z = some xs) : ∃ a ws, v = .ref a ∧ (SqL c.K H a ws ∨ SqT c.K H a ws) ∧ Rels c F ρ h.length xs ws := by
  cases z with
  | tup ys =>
    cases e
    obtain ⟨a, ws, rfl, q, rr⟩ := r
    exact ⟨a, ws, rfl, .inr (SqT.of (w.sub _ _ q)), rr⟩
  | frl ys =>
    cases e
    obtain ⟨a, ws, rfl, q, rr⟩ := r
    exact ⟨a, ws, rfl, .inl (sqL_mono w.sub q), rr⟩
  | lst ys =>
    obtain ⟨a, ws, rfl, q, rr⟩ := lst_rel w r (show lstOf h (.lst ys) = some xs from e)
    exact ⟨a, ws, rfl, .inl (SqL.of q), rr⟩
  | ref i =>
    obtain ⟨a, ws, rfl, q, rr⟩ := lst_rel w r (show lstOf h (.ref i) = some xs from e)
    exact ⟨a, ws, rfl, .inl (SqL.of q), rr⟩
  | _ => cases e
end
/-! ### operators -/
def addZ (h : Hv) : Z → Z → Option Out
  | .int i, .int j => some (.val (.int (i + j)))
  | .str x, .str y => if x.length + y.length ≤ sizeLine then some (.val (.str (x ++ y))) else none
  | .tup xs, .tup ys => if xs.length + ys.length ≤ sizeLine then (match xs, ys with
    | [], _ => some (.val (.tup ys))
    | _, [] => some (.val (.tup xs))
    | _, _ => some (.tup (xs ++ ys))) else none
  | x, y => match lstOf h x, lstOf h y with
    | some xs, some ys => if xs.length + ys.length ≤ sizeLine then some (.lst (xs ++ ys)) else none
    | _, _ => none
def subZ (_ : Hv) : Z → Z → Option Out
  | .int i, .int j => some (.val (.int (i - j)))
  | _, _ => none
def mulZ (h : Hv) : Z → Z → Option Out
  | .int i, .int j => if (-(2 ^ 64) < i ∧ i < 2 ^ 64) ∨ (-(2 ^ 64) < j ∧ j < 2 ^ 64) then some (.val (.int (i * j))) else none
  | .tup xs, .int k => if xs ≠ [] ∧ 2 ≤ k ∧ k ≤ 1000 ∧ xs.length ≤ 1000 then some (.tup (List.replicate k.toNat xs).flatten) else none
  | x, .int k => match lstOf h x with
    | some xs => if -(2 ^ 63) ≤ k ∧ k < 2 ^ 63 ∧ xs.length * k.toNat ≤ sizeLine then some (.lst (List.replicate k.toNat xs).flatten) else none
    | none => none
  | _, _ => none
def fdivZ (_ : Hv) : Z → Z → Option Out
  | .int i, .int j => if 0 < j ∧ j < 1073741824 then some (.val (.int (i / j))) else none
  | _, _ => none
def modZ (_ : Hv) : Z → Z → Option Out
  | .int i, .int j => if 0 < j then some (.val (.int (i % j))) else none
  | _, _ => none
def powZ (_ : Hv) : Z → Z → Option Out
  | .int i, .int j => if 0 ≤ j ∧ j ≤ 1000000 ∧ i.natAbs < 2 ^ 64 then some (.val (.int (i ^ j.toNat))) else none
  | _, _ => none
def negZ (_ : Hv) : Z → Option Out
  | .int i => some (.val (.int (-i)))
  | _ => none
section
variable {X : Cx} {ce : Addr → Value → Option Addr → Prop}
theorem rels_flat {c : RC} {F : Hp} {ρ : Nat → Addr} {n : Nat} {xs : List Z} {ws : List V} (r : Rels c F ρ n xs ws) : ∀ k : Nat, Rels c F ρ n (List.replicate k xs).flatten (List.replicate k ws).flatten
  | 0 => rfl
  | k + 1 => by
    rw [List.replicate_succ, List.replicate_succ, List.flatten_cons, List.flatten_cons]
    exact r.append (rels_flat r k)
theorem oz_add : OpR X (binaryOp .Add) (rdOp ⟨X.K, ce⟩ addZ) := by
  intro pins s σ H x y v u Q I rx ry ⟨G, F, ρ, h, zx, zy, o, w, r1, r2, e, q⟩
  have lists : ∀ xs ys, lstOf h zx = some xs → lstOf h zy = some ys → (if xs.length + ys.length ≤ sizeLine then some (Out.lst (xs ++ ys)) else none) = some o → wpAny (model X.prog X.w) X.A (binaryOp .Add v u) (EP X pins σ Q) X.xe s := by
    intro xs ys e1 e2 e
    split at e
    · rename_i hl
      cases e
      obtain ⟨a, ws, rfl, q1, rr1⟩ := lst_rel w r1 e1
      obtain ⟨b, us, rfl, q2, rr2⟩ := lst_rel w r2 e2
      exact op_cat pins s σ H _ _ v u Q I rx ry ⟨a, b, ws, us, rfl, rfl, q1, q2, by rw [← rr1.length, ← rr2.length]; exact hl, fun p np => q p _ np (rr1.append rr2)⟩
    · cases e
  unfold addZ at e
  split at e
  · cases e; cases r1; cases r2
    exact op_add pins s σ H _ _ v u Q I rx ry ⟨_, _, rfl, rfl, q _ rfl⟩
  · split at e
    · rename_i hl
      cases e; cases r1; cases r2
      exact op_add_str pins s σ H _ _ v u Q I rx ry ⟨_, _, rfl, rfl, hl, q _ rfl⟩
    · cases e
  · rename_i xs ys
    split at e
    · rename_i hl
      obtain ⟨a, ws, rfl, q1, rr1⟩ := r1
      obtain ⟨b, us, rfl, q2, rr2⟩ := r2
      have l1 := rr1.length
      have l2 := rr2.length
      refine op_catA pins s σ H _ _ v u Q I rx ry ⟨a, b, ws, us, rfl, rfl, SqT.of (w.sub _ _ q1), SqT.of (w.sub _ _ q2), by omega, fun hw => ?_, fun hw hu => ?_, fun hw hu p np => ?_⟩
      · subst hw
        cases xs with
        | nil => cases e; exact q _ ⟨b, us, rfl, q2, rr2⟩
        | cons _ _ => simp at l1
      · subst hu
        cases ys with
        | nil =>
          cases xs with
          | nil => rw [show ws = [] from rr1] at hw; exact absurd rfl hw
          | cons _ _ => cases e; exact q _ ⟨a, ws, rfl, q1, rr1⟩
        | cons _ _ => simp at l2
      · cases xs with
        | nil => rw [show ws = [] from rr1] at hw; exact absurd rfl hw
        | cons _ _ =>
          cases ys with
          | nil => rw [show us = [] from rr2] at hu; exact absurd rfl hu
          | cons _ _ => cases e; exact q p _ np (rr1.append rr2)
    · cases e
  · split at e
    · rename_i e1 e2
      exact lists _ _ e1 e2 e
    · cases e
theorem oz_sub : OpR X (binaryOp .Sub) (rdOp ⟨X.K, ce⟩ subZ) := by
  intro pins s σ H x y v u Q I rx ry ⟨G, F, ρ, h, zx, zy, o, w, r1, r2, e, q⟩
  unfold subZ at e
  split at e
  · cases e; cases r1; cases r2
    exact op_sub pins s σ H _ _ v u Q I rx ry ⟨_, _, rfl, rfl, q _ rfl⟩
  · cases e
theorem oz_mul : OpR X (binaryOp .Mult) (rdOp ⟨X.K, ce⟩ mulZ) := by
  intro pins s σ H x y v u Q I rx ry ⟨G, F, ρ, h, zx, zy, o, w, r1, r2, e, q⟩
  unfold mulZ at e
  split at e
  · split at e
    · rename_i hl
      cases e; cases r1; cases r2
      exact op_mul pins s σ H _ _ v u Q I rx ry ⟨_, _, rfl, rfl, hl, q _ rfl⟩
    · cases e
  · split at e
    · rename_i hl
      cases e; cases r2
      obtain ⟨a, ws, rfl, q1, rr1⟩ := r1
      have l1 := rr1.length
      exact op_repT pins s σ H _ _ v u Q I rx ry ⟨a, _, ws, rfl, rfl, SqT.of (w.sub _ _ q1), fun z => by
        subst z
        have : ∀ l : List Z, l.length = ([] : List V).length → l = [] := fun l h => List.length_eq_zero_iff.mp h
        exact hl.1 (this _ l1), hl.2.1, hl.2.2.1, by omega, fun p np => q p _ np (rels_flat rr1 _)⟩
    · cases e
  · split at e
    · rename_i e1
      split at e
      · rename_i hl
        cases e; cases r2
        obtain ⟨a, ws, rfl, q1, rr1⟩ := lst_rel w r1 e1
        exact op_rep pins s σ H _ _ v u Q I rx ry ⟨a, _, ws, rfl, rfl, q1, hl.1, hl.2.1, by rw [← rr1.length]; exact hl.2.2, fun p np => q p _ np (rels_flat rr1 _)⟩
      · cases e
    · cases e
  · cases e
theorem oz_fdiv : OpR X (binaryOp .FloorDiv) (rdOp ⟨X.K, ce⟩ fdivZ) := by
  intro pins s σ H x y v u Q I rx ry ⟨G, F, ρ, h, zx, zy, o, w, r1, r2, e, q⟩
  unfold fdivZ at e
  split at e
  · split at e
    · rename_i hl
      cases e; cases r1; cases r2
      exact op_fdiv pins s σ H _ _ v u Q I rx ry ⟨_, _, rfl, rfl, hl, q _ rfl⟩
    · cases e
  · cases e
theorem oz_mod : OpR X (binaryOp .Mod) (rdOp ⟨X.K, ce⟩ modZ) := by
  intro pins s σ H x y v u Q I rx ry ⟨G, F, ρ, h, zx, zy, o, w, r1, r2, e, q⟩
  unfold modZ at e
  split at e
  · split at e
    · rename_i hl
      cases e; cases r1; cases r2
      exact op_mod pins s σ H _ _ v u Q I rx ry ⟨_, _, rfl, rfl, hl, q _ rfl⟩
    · cases e
  · cases e
theorem oz_pow : OpR X (binaryOp .Pow) (rdOp ⟨X.K, ce⟩ powZ) := by
  intro pins s σ H x y v u Q I rx ry ⟨G, F, ρ, h, zx, zy, o, w, r1, r2, e, q⟩
  unfold powZ at e
  split at e
  · split at e
    · rename_i hl
      cases e; cases r1; cases r2
      exact op_pow pins s σ H _ _ v u Q I rx ry ⟨_, _, rfl, rfl, hl, q _ rfl⟩
    · cases e
  · cases e
theorem uz_neg : UnR X (unaryOp .USub) (rdUn ⟨X.K, ce⟩ negZ) := by
  intro pins s σ H x v Q I rx ⟨G, F, ρ, h, zx, o, w, r1, e, q⟩
  unfold negZ at e
  split at e
  · cases e; cases r1
    exact un_neg pins s σ H _ v Q I rx ⟨_, rfl, q _ rfl⟩
  · cases e
end
/-! ### comparisons -/
mutual
/-- a value as plain data -/
def toD (h : Hv) : Z → Option PyData
  | .non => some .none
  | .bl b => some (.bool b)
  | .int i => some (.int i)
  | .str x => some (.str x)
  | .tup xs => (toDs h xs).map .tuple
  | .lst xs => (toDs h xs).map .list
  | .ref i => match h[i]? with
    | some (.lst xs) => (flatDs xs).map .list
    | _ => none
  | _ => none
def toDs (h : Hv) : List Z → Option (List PyData)
  | [] => some []
  | z :: zs => match toD h z, toDs h zs with
    | some d, some ds => some (d :: ds)
    | _, _ => none
/-- without looking at changing objects -/
def flatD : Z → Option PyData
  | .non => some .none
  | .bl b => some (.bool b)
  | .int i => some (.int i)
  | .str x => some (.str x)
  | .tup xs => (flatDs xs).map .tuple
  | .lst xs => (flatDs xs).map .list
  | _ => none
def flatDs : List Z → Option (List PyData)
  | [] => some []
  | z :: zs => match flatD z, flatDs zs with
    | some d, some ds => some (d :: ds)
    | _, _ => none
end
section
variable {c : RC} {G F : Hp} {ρ : Nat → Addr} {h : Hv} {H : Hp} {n : Nat}
mutual
theorem flatD_rel (sub : ∀ a o, F a = some o → H a = some o) : ∀ {z : Z} {v : V} {d : PyData}, Rel c F ρ n z v → flatD z = some d → Dp c.K H v d
  | .non, _, _, r, e => by cases r; cases e; exact .non
  | .bl b, _, _, r, e => by cases r; cases e; exact .bl b
  | .int i, _, _, r, e => by cases r; cases e; exact .int i
  | .str x, _, _, r, e => by cases r; cases e; exact .str x
  | .tup xs, v, d, r, e => by
    obtain ⟨a, ws, rfl, q, rr⟩ := r
    have e : (flatDs xs).map PyData.tuple = some d := e
    cases e1 : flatDs xs with
    | none => rw [e1] at e; cases e
    | some ds => rw [e1] at e; cases e; exact .tup (SqT.of (sub _ _ q)) (flatDs_rel sub rr e1)
  | .lst xs, v, d, r, e => by
    obtain ⟨a, ws, rfl, q, rr⟩ := r
    have e : (flatDs xs).map PyData.list = some d := e
    cases e1 : flatDs xs with
    | none => rw [e1] at e; cases e
    | some ds => rw [e1] at e; cases e; exact .lst (SqL.of (sub _ _ q)) (flatDs_rel sub rr e1)
  | .ref _, _, _, _, e => by cases e
  | .ty _, _, _, _, e => by cases e
  | .glo _, _, _, _, e => by cases e
  | .ins _ _ _, _, _, _, e => by cases e
  | .frl _, _, _, _, e => by cases e
  | .exc _ _ _, _, _, _, e => by cases e
  | .dkf _ _, _, _, _, e => by cases e
theorem flatDs_rel (sub : ∀ a o, F a = some o → H a = some o) : ∀ {zs : List Z} {ws : List V} {ds : List PyData}, Rels c F ρ n zs ws → flatDs zs = some ds → DpAll c.K H ws ds
  | [], _, _, r, e => by cases e; rw [show _ = _ from r]; exact .nil
  | z :: zs, ws, ds, r, e => by
    obtain ⟨v, us, rfl, r1, r2⟩ := r
    have e : (match flatD z, flatDs zs with
      | some d, some ds => some (d :: ds)
      | _, _ => none) = some ds := e
    split at e
    · rename_i d ds' e1 e2
      cases e
      exact .cons (flatD_rel sub r1 e1) (flatDs_rel sub r2 e2)
    · cases e
end
mutual
theorem toD_rel (w : W c G F ρ h H) : ∀ {z : Z} {v : V} {d : PyData}, Rel c F ρ h.length z v → toD h z = some d → Dp c.K H v d
  | .non, _, _, r, e => by cases r; cases e; exact .non
  | .bl b, _, _, r, e => by cases r; cases e; exact .bl b
  | .int i, _, _, r, e => by cases r; cases e; exact .int i
  | .str x, _, _, r, e => by cases r; cases e; exact .str x
  | .tup xs, v, d, r, e => by
    obtain ⟨a, ws, rfl, q, rr⟩ := r
    have e : (toDs h xs).map PyData.tuple = some d := e
    cases e1 : toDs h xs with
    | none => rw [e1] at e; cases e
    | some ds => rw [e1] at e; cases e; exact .tup (SqT.of (w.sub _ _ q)) (toDs_rel w rr e1)
  | .lst xs, v, d, r, e => by
    obtain ⟨a, ws, rfl, q, rr⟩ := r
    have e : (toDs h xs).map PyData.list = some d := e
    cases e1 : toDs h xs with
    | none => rw [e1] at e; cases e
    | some ds => rw [e1] at e; cases e; exact .lst (SqL.of (w.sub _ _ q)) (toDs_rel w rr e1)
  | .ref i, v, d, r, e => by
    obtain ⟨hi, rfl⟩ := r
    have e : (match h[i]? with
      | some (.lst xs) => (flatDs xs).map PyData.list
      | _ => none) = some d := e
    split at e
    · rename_i xs q
      obtain ⟨ws, h1, h2⟩ := w.obj i _ q
      cases e1 : flatDs xs with
      | none => rw [e1] at e; cases e
      | some ds => rw [e1] at e; cases e; exact .lst (SqL.of h1) (flatDs_rel w.sub h2 e1)
    · cases e
  | .ty _, _, _, _, e => by cases e
  | .glo _, _, _, _, e => by cases e
  | .ins _ _ _, _, _, _, e => by cases e
  | .frl _, _, _, _, e => by cases e
  | .exc _ _ _, _, _, _, e => by cases e
  | .dkf _ _, _, _, _, e => by cases e
theorem toDs_rel (w : W c G F ρ h H) : ∀ {zs : List Z} {ws : List V} {ds : List PyData}, Rels c F ρ h.length zs ws → toDs h zs = some ds → DpAll c.K H ws ds
  | [], _, _, r, e => by cases e; rw [show _ = _ from r]; exact .nil
  | z :: zs, ws, ds, r, e => by
    obtain ⟨v, us, rfl, r1, r2⟩ := r
    have e : (match toD h z, toDs h zs with
      | some d, some ds => some (d :: ds)
      | _, _ => none) = some ds := e
    split at e
    · rename_i d ds' e1 e2
      cases e
      exact .cons (toD_rel w r1 e1) (toDs_rel w r2 e2)
    · cases e
end
end
/-- ==, != of plain data -/
def eqD (h : Hv) (x y : Z) : Option Bool := match toD h x, toD h y with
  | some d, some e => if SeqAt.shaped d = true ∧ SeqAt.shaped e = true then some (PyData.eqv d e) else none
  | _, _ => none
def eqZ (h : Hv) (x y : Z) : Option Out := (eqD h x y).map fun b => .val (.bl b)
def neZ (h : Hv) (x y : Z) : Option Out := (eqD h x y).map fun b => .val (.bl (!b))
def ltZ (_ : Hv) : Z → Z → Option Out
  | .int i, .int j => some (.val (.bl (decide (i < j))))
  | .str x, .str y => some (.val (.bl (decide (x.cps.toList < y.cps.toList))))
  | _, _ => none
def leZ (_ : Hv) : Z → Z → Option Out
  | .int i, .int j => some (.val (.bl (decide (i ≤ j))))
  | _, _ => none
def gtZ (_ : Hv) : Z → Z → Option Out
  | .int i, .int j => some (.val (.bl (decide (j < i))))
  | _, _ => none
def geZ (_ : Hv) : Z → Z → Option Out
  | .int i, .int j => some (.val (.bl (decide (j ≤ i))))
  | _, _ => none
def isNon : Z → Bool
  | .non => true
  | _ => false
def isZ (_ : Hv) : Z → Z → Option Out
  | x, .non => some (.val (.bl (isNon x)))
  | .bl a, .bl b => some (.val (.bl (decide (a = b))))
  | _, _ => none
def isnZ (_ : Hv) : Z → Z → Option Out
  | x, .non => some (.val (.bl (!isNon x)))
  | .bl a, .bl b => some (.val (.bl (!decide (a = b))))
  | _, _ => none
def subS (x y : Str) : Bool := !(Builtin.Str.occurrences y x 0 y.length 1).isEmpty
def flatZ : Z → Option V
  | .non => some .non
  | .bl b => some (.bl b)
  | .int i => some (.int i)
  | .str x => some (.str x)
  | _ => none
def allFlat : List Z → Option (List V)
  | [] => some []
  | z :: zs => match flatZ z, allFlat zs with
    | some v, some vs => some (v :: vs)
    | _, _ => none
/-- x in y: a text in a text; a plain thing in a list or tuple of plain things -/
def inB (h : Hv) (x y : Z) : Option Bool := match x, y with
  | .str a, .str b => some (subS a b)
  | _, _ => match seqOf h y with
    | some ys => match flatZ x, allFlat ys with
      | some v, some vs => some (inV v vs)
      | _, _ => none
    | none => none
def inZ (h : Hv) (x y : Z) : Option Out := (inB h x y).map fun b => .val (.bl b)
def ninZ (h : Hv) (x y : Z) : Option Out := (inB h x y).map fun b => .val (.bl (!b))
theorem flatZ_rel {c : RC} {F : Hp} {ρ : Nat → Addr} {n : Nat} {z : Z} {v u : V} (r : Rel c F ρ n z v) (e : flatZ z = some u) : v = u ∧ flatV u = true := by
  cases z <;> cases e <;> exact ⟨r, rfl⟩
theorem allFlat_rel {c : RC} {F : Hp} {ρ : Nat → Addr} {n : Nat} : ∀ {zs : List Z} {ws us : List V}, Rels c F ρ n zs ws → allFlat zs = some us → ws = us ∧ us.all flatV = true
  | [], _, _, r, e => by cases e; exact ⟨r, rfl⟩
  | z :: zs, ws, us, r, e => by
    obtain ⟨v, ts, rfl, r1, r2⟩ := r
    have e : (match flatZ z, allFlat zs with
      | some v, some vs => some (v :: vs)
      | _, _ => none) = some us := e
    split at e
    · rename_i d ds' e1 e2
      cases e
      obtain ⟨rfl, f1⟩ := flatZ_rel r1 e1
      obtain ⟨rfl, f2⟩ := allFlat_rel r2 e2
      exact ⟨rfl, by rw [List.all_cons, f1, f2]; rfl⟩
    · cases e
theorem isNon_rel {c : RC} {F : Hp} {ρ : Nat → Addr} {n : Nat} {z : Z} {v : V} (r : Rel c F ρ n z v) : decide (v = .non) = isNon z := by
  cases z with
  | non => cases r; rfl
  | bl _ => cases r; rfl
  | int _ => cases r; rfl
  | str _ => cases r; rfl
  | ty _ => cases r; rfl
  | glo _ => cases r; rfl
  | ref _ => obtain ⟨_, rfl⟩ := r; rfl
  | tup _ => obtain ⟨_, _, rfl, _⟩ := r; rfl
  | lst _ => obtain ⟨_, _, rfl, _⟩ := r; rfl
  | frl _ => obtain ⟨_, _, rfl, _⟩ := r; rfl
  | ins _ _ _ => obtain ⟨_, _, _, rfl, _⟩ := r; rfl
  | exc _ _ _ => obtain ⟨_, _, rfl, _⟩ := r; rfl
  | dkf _ _ => obtain ⟨_, _, rfl, _⟩ := r; rfl
section
variable {X : Cx} {ce : Addr → Value → Option Addr → Prop}
theorem oz_eq (hu : X.A.units + 64 < cLine) : OpR X (compareOp .Eq) (rdOp ⟨X.K, ce⟩ eqZ) := by
  intro pins s σ H x y v u Q I rx ry ⟨G, F, ρ, h, zx, zy, o, w, r1, r2, e, q⟩
  unfold eqZ eqD at e
  split at e
  · rename_i d d' e1 e2
    split at e
    · rename_i hs
      cases e
      exact op_eqD hu pins s σ H _ _ v u Q I rx ry ⟨d, d', toD_rel w r1 e1, toD_rel w r2 e2, hs.1, hs.2, q _ rfl⟩
    · cases e
  · cases e
theorem oz_ne (hu : X.A.units + 64 < cLine) : OpR X (compareOp .NotEq) (rdOp ⟨X.K, ce⟩ neZ) := by
  intro pins s σ H x y v u Q I rx ry ⟨G, F, ρ, h, zx, zy, o, w, r1, r2, e, q⟩
  unfold neZ eqD at e
  split at e
  · rename_i d d' e1 e2
    split at e
    · rename_i hs
      cases e
      exact op_neD hu pins s σ H _ _ v u Q I rx ry ⟨d, d', toD_rel w r1 e1, toD_rel w r2 e2, hs.1, hs.2, q _ rfl⟩
    · cases e
  · cases e
theorem oz_lt : OpR X (compareOp .Lt) (rdOp ⟨X.K, ce⟩ ltZ) := by
  intro pins s σ H x y v u Q I rx ry ⟨G, F, ρ, h, zx, zy, o, w, r1, r2, e, q⟩
  unfold ltZ at e
  split at e
  · cases e; cases r1; cases r2
    exact op_lt pins s σ H _ _ v u Q I rx ry ⟨_, _, rfl, rfl, q _ rfl⟩
  · cases e; cases r1; cases r2
    exact op_lt_str pins s σ H _ _ v u Q I rx ry ⟨_, _, rfl, rfl, q _ rfl⟩
  · cases e
theorem oz_le : OpR X (compareOp .LtE) (rdOp ⟨X.K, ce⟩ leZ) := by
  intro pins s σ H x y v u Q I rx ry ⟨G, F, ρ, h, zx, zy, o, w, r1, r2, e, q⟩
  unfold leZ at e
  split at e
  · cases e; cases r1; cases r2
    exact op_le pins s σ H _ _ v u Q I rx ry ⟨_, _, rfl, rfl, q _ rfl⟩
  · cases e
theorem oz_gt : OpR X (compareOp .Gt) (rdOp ⟨X.K, ce⟩ gtZ) := by
  intro pins s σ H x y v u Q I rx ry ⟨G, F, ρ, h, zx, zy, o, w, r1, r2, e, q⟩
  unfold gtZ at e
  split at e
  · cases e; cases r1; cases r2
    exact op_gt pins s σ H _ _ v u Q I rx ry ⟨_, _, rfl, rfl, q _ rfl⟩
  · cases e
theorem oz_ge : OpR X (compareOp .GtE) (rdOp ⟨X.K, ce⟩ geZ) := by
  intro pins s σ H x y v u Q I rx ry ⟨G, F, ρ, h, zx, zy, o, w, r1, r2, e, q⟩
  unfold geZ at e
  split at e
  · cases e; cases r1; cases r2
    exact op_ge pins s σ H _ _ v u Q I rx ry ⟨_, _, rfl, rfl, q _ rfl⟩
  · cases e
theorem oz_is : OpR X (compareOp .Is) (rdOp ⟨X.K, ce⟩ isZ) := by
  intro pins s σ H x y v u Q I rx ry ⟨G, F, ρ, h, zx, zy, o, w, r1, r2, e, q⟩
  unfold isZ at e
  split at e
  · cases e; cases r2
    exact op_isN pins s σ H _ _ v u Q I rx ry ⟨rfl, by rw [isNon_rel r1]; exact q _ rfl⟩
  · cases e; cases r1; cases r2
    exact op_isBl pins s σ H _ _ v u Q I rx ry ⟨_, _, rfl, rfl, q _ rfl⟩
  · cases e
theorem oz_isn : OpR X (compareOp .IsNot) (rdOp ⟨X.K, ce⟩ isnZ) := by
  intro pins s σ H x y v u Q I rx ry ⟨G, F, ρ, h, zx, zy, o, w, r1, r2, e, q⟩
  unfold isnZ at e
  split at e
  · cases e; cases r2
    exact op_notN pins s σ H _ _ v u Q I rx ry ⟨rfl, by rw [isNon_rel r1]; exact q _ rfl⟩
  · cases e; cases r1; cases r2
    exact op_notBl pins s σ H _ _ v u Q I rx ry ⟨_, _, rfl, rfl, q _ rfl⟩
  · cases e
theorem oz_in : OpR X (compareOp .In) (rdOp ⟨X.K, ce⟩ inZ) := by
  intro pins s σ H x y v u Q I rx ry ⟨G, F, ρ, h, zx, zy, o, w, r1, r2, e, q⟩
  unfold inZ inB at e
  split at e
  · cases e; cases r1; cases r2
    exact op_in_str pins s σ H _ _ v u Q I rx ry ⟨_, _, rfl, rfl, q _ rfl⟩
  · split at e
    · rename_i ys e1
      split at e
      · rename_i a as e2 e3
        cases e
        obtain ⟨p, ws, rfl, q1, rr⟩ := seq_rel w r2 e1
        obtain ⟨rfl, f1⟩ := flatZ_rel r1 e2
        obtain ⟨rfl, f2⟩ := allFlat_rel rr e3
        exact op_in_seq pins s σ H _ _ v u Q I rx ry ⟨p, _, rfl, q1, f1, f2, q _ rfl⟩
      · cases e
    · cases e
theorem oz_nin : OpR X (compareOp .NotIn) (rdOp ⟨X.K, ce⟩ ninZ) := by
  intro pins s σ H x y v u Q I rx ry ⟨G, F, ρ, h, zx, zy, o, w, r1, r2, e, q⟩
  unfold ninZ inB at e
  split at e
  · cases e; cases r1; cases r2
    exact op_notIn_str pins s σ H _ _ v u Q I rx ry ⟨_, _, rfl, rfl, q _ rfl⟩
  · split at e
    · rename_i ys e1
      split at e
      · rename_i a as e2 e3
        cases e
        obtain ⟨p, ws, rfl, q1, rr⟩ := seq_rel w r2 e1
        obtain ⟨rfl, f1⟩ := flatZ_rel r1 e2
        obtain ⟨rfl, f2⟩ := allFlat_rel rr e3
        exact op_notIn_seq pins s σ H _ _ v u Q I rx ry ⟨p, _, rfl, q1, f1, f2, q _ rfl⟩
      · cases e
    · cases e
end
end ZL
set_option Elab.async false
set_option linter.all false
set_option maxRecDepth 100000
set_option maxHeartbeats 2000000
namespace ZL
open PySem PySem.Spec PyProof.Rows L2
/-! ### built-in functions -/
def lenN (h : Hv) : Z → Option Nat
  | .str x => if x.length ≤ sizeLine then some x.length else none
  | .dkf ks _ => some ks.length
  | .ref i => match h[i]? with
    | some (.lst xs) => some xs.length
    | some (.dk ks _) => some ks.length
    | some (.dt ks _) => some ks.length
    | _ => none
  | z => (seqOf h z).map List.length
def lenZ (h : Hv) : List Z → Option Out
  | [z] => (lenN h z).map fun n => .val (.int n)
  | _ => none
def absZ (_ : Hv) : List Z → Option Out
  | [.int i] => some (.val (.int (if i < 0 then -i else i)))
  | _ => none
def intZ (_ : Hv) : List Z → Option Out
  | [.int i] => some (.val (.int i))
  | [.bl k] => some (.val (.int (if k then 1 else 0)))
  | _ => none
def strZ (_ : Hv) : List Z → Option Out
  | [.int i] => if i.natAbs.log2 < 1920 then some (.val (.str (toString i))) else none
  | [.str x] => some (.val (.str x))
  | _ => none
def listZ (h : Hv) : List Z → Option Out
  | [z] => (seqOf h z).map .lst
  | _ => none
def tupleZ (h : Hv) : List Z → Option Out
  | [.tup xs] => some (.val (.tup xs))
  | [z] => (lstOf h z).map .tup
  | _ => none
def blsOf : List Z → Option (List Bool)
  | [] => some []
  | .bl b :: zs => (blsOf zs).map (b :: ·)
  | _ => none
def intsOf : List Z → Option (List Int)
  | [] => some []
  | .int i :: zs => (intsOf zs).map (i :: ·)
  | _ => none
def strsOf : List Z → Option (List Str)
  | [] => some []
  | .str i :: zs => (strsOf zs).map (i :: ·)
  | _ => none
theorem blsOf_map : ∀ {zs : List Z} {bs : List Bool}, blsOf zs = some bs → zs = bs.map Z.bl
  | [], _, e => by cases e; rfl
  | z :: zs, bs, e => by
    cases z with
    | bl b =>
      have e : (blsOf zs).map (b :: ·) = some bs := e
      cases e1 : blsOf zs with
      | none => rw [e1] at e; cases e
      | some cs => rw [e1] at e; cases e; rw [blsOf_map e1]; rfl
    | _ => cases e
theorem intsOf_map : ∀ {zs : List Z} {bs : List Int}, intsOf zs = some bs → zs = bs.map Z.int
  | [], _, e => by cases e; rfl
  | z :: zs, bs, e => by
    cases z with
    | int b =>
      have e : (intsOf zs).map (b :: ·) = some bs := e
      cases e1 : intsOf zs with
      | none => rw [e1] at e; cases e
      | some cs => rw [e1] at e; cases e; rw [intsOf_map e1]; rfl
    | _ => cases e
theorem strsOf_map : ∀ {zs : List Z} {bs : List Str}, strsOf zs = some bs → zs = bs.map Z.str
  | [], _, e => by cases e; rfl
  | z :: zs, bs, e => by
    cases z with
    | str b =>
      have e : (strsOf zs).map (b :: ·) = some bs := e
      cases e1 : strsOf zs with
      | none => rw [e1] at e; cases e
      | some cs => rw [e1] at e; cases e; rw [strsOf_map e1]; rfl
    | _ => cases e
def allZ (h : Hv) : List Z → Option Out
  | [z] => match lstOf h z with
    | some xs => (blsOf xs).map fun bs => .val (.bl (bs.all id))
    | none => none
  | _ => none
def anyZ (h : Hv) : List Z → Option Out
  | [z] => match lstOf h z with
    | some xs => (blsOf xs).map fun bs => .val (.bl (bs.any id))
    | none => none
  | _ => none
def sumZ (h : Hv) : List Z → Option Out
  | [z] => match lstOf h z with
    | some xs => (intsOf xs).map fun bs => .val (.int bs.sum)
    | none => none
  | _ => none
def max2Z (_ : Hv) : List Z → Option Out
  | [.int i, .int j] => some (.val (.int (if j > i then j else i)))
  | _ => none
def min2Z (_ : Hv) : List Z → Option Out
  | [.int i, .int j] => some (.val (.int (if j < i then j else i)))
  | _ => none
section
variable {X : Cx} {ce : Addr → Value → Option Addr → Prop}
theorem rels1 {c : RC} {F : Hp} {ρ : Nat → Addr} {n : Nat} {z : Z} {xs : List V} (r : Rels c F ρ n [z] xs) : ∃ v, xs = [v] ∧ Rel c F ρ n z v := by
  obtain ⟨v, us, rfl, h1, h2⟩ := r
  rw [show us = [] from h2]
  exact ⟨v, rfl, h1⟩
theorem rels2 {c : RC} {F : Hp} {ρ : Nat → Addr} {n : Nat} {z y : Z} {xs : List V} (r : Rels c F ρ n [z, y] xs) : ∃ v u, xs = [v, u] ∧ Rel c F ρ n z v ∧ Rel c F ρ n y u := by
  obtain ⟨v, us, rfl, h1, u, ts, rfl, h2, h3⟩ := r
  rw [show ts = [] from h3]
  exact ⟨v, u, rfl, h1, h2⟩
theorem cz_len : CallR X (.builtin "len") (rdCall ⟨X.K, ce⟩ lenZ) := by
  intro pins s σ H xs us Q I rr ⟨G, F, ρ, h, zs, o, w, r, e, q⟩
  unfold lenZ at e
  split at e
  · rename_i z
    obtain ⟨v, rfl, r1⟩ := rels1 r
    cases e1 : lenN h z with
    | none => rw [e1] at e; cases e
    | some n =>
      rw [e1] at e; cases e
      have seq : ∀ ys, seqOf h z = some ys → ys.length = n → wpAny (model X.prog X.w) X.A (call (.builtin "len") us) (EP X pins σ Q) X.xe s := by
        intro ys e2 hn
        obtain ⟨p, ws, rfl, q1, rr1⟩ := seq_rel w r1 e2
        exact call_len_seq pins s σ H _ us Q I rr ⟨p, ws, rfl, q1, q _ (show V.int _ = V.int _ by rw [← hn, rr1.length])⟩
      have dic : ∀ p (kvs : List (Key × V)), v = .ref p → H p = some (.dK kvs) → kvs.length = n → wpAny (model X.prog X.w) X.A (call (.builtin "len") us) (EP X pins σ Q) X.xe s := by
        intro p kvs hv hp hn
        obtain ⟨u, rfl, rx⟩ := vals1 rr
        subst hv
        obtain rfl : u = .ref p := rx
        exact d_len I (.inl hp) fun t s' I' => ⟨.int n, H, I', ⟨t, by rw [hn]⟩, q _ rfl⟩
      have sq : ∀ z', z = z' → (seqOf h z').map List.length = some n → wpAny (model X.prog X.w) X.A (call (.builtin "len") us) (EP X pins σ Q) X.xe s := by
        intro z' hz e1
        cases e2 : seqOf h z' with
        | none => rw [e2] at e1; cases e1
        | some ys => rw [e2] at e1; cases e1; exact seq ys (by rw [hz]; exact e2) rfl
      cases z with
      | str x =>
        have e1 : (if x.length ≤ sizeLine then some x.length else none) = some n := e1
        split at e1
        · rename_i hl
          cases e1; cases r1
          exact call_len_str pins s σ H _ us Q I rr ⟨_, rfl, hl, q _ rfl⟩
        · cases e1
      | dkf ks vs =>
        obtain ⟨a, ws, hv, h1, hl, _⟩ := r1
        have e1 : some ks.length = some n := e1
        cases e1
        exact dic a _ hv (w.sub _ _ h1) (by simp [hl])
      | ref i =>
        obtain ⟨hi, hv⟩ := r1
        have e1 : (match h[i]? with
          | some (.lst xs) => some xs.length
          | some (.dk ks _) => some ks.length
          | some (.dt ks _) => some ks.length
          | _ => none) = some n := e1
        split at e1
        · rename_i xs hx
          cases e1
          exact seq xs (by simp [seqOf, hx]) rfl
        · rename_i ks vs hx
          cases e1
          obtain ⟨ws, h1, h2, _⟩ := w.obj i _ hx
          exact dic _ _ hv h1 (by simp [h2])
        · rename_i ks vs hx
          cases e1
          obtain ⟨ws, h1, h2, _⟩ := w.obj i _ hx
          subst hv
          exact call_len_dT pins s σ H _ us Q I rr ⟨_, _, rfl, h1, q _ (show V.int _ = V.int _ by simp [h2])⟩
        · cases e1
      | _ => exact sq _ rfl e1
  · cases e
theorem cz_abs : CallR X (.builtin "abs") (rdCall ⟨X.K, ce⟩ absZ) := by
  intro pins s σ H xs us Q I rr ⟨G, F, ρ, h, zs, o, w, r, e, q⟩
  unfold absZ at e
  split at e
  · obtain ⟨v, rfl, r1⟩ := rels1 r
    cases e; cases r1
    exact call_abs pins s σ H _ us Q I rr ⟨_, rfl, q _ rfl⟩
  · cases e
theorem cz_int : CallR X (.type "int") (rdCall ⟨X.K, ce⟩ intZ) := by
  intro pins s σ H xs us Q I rr ⟨G, F, ρ, h, zs, o, w, r, e, q⟩
  unfold intZ at e
  split at e
  · obtain ⟨v, rfl, r1⟩ := rels1 r
    cases e; cases r1
    exact call_int1 pins s σ H _ us Q I rr (.inl ⟨_, rfl, q _ rfl⟩)
  · obtain ⟨v, rfl, r1⟩ := rels1 r
    cases e; cases r1
    exact call_int1 pins s σ H _ us Q I rr (.inr ⟨_, rfl, q _ rfl⟩)
  · cases e
theorem cz_str : CallR X (.type "str") (rdCall ⟨X.K, ce⟩ strZ) := by
  intro pins s σ H xs us Q I rr ⟨G, F, ρ, h, zs, o, w, r, e, q⟩
  unfold strZ at e
  split at e
  · obtain ⟨v, rfl, r1⟩ := rels1 r
    split at e
    · rename_i hl
      cases e; cases r1
      exact call_str_int pins s σ H _ us Q I rr ⟨_, rfl, hl, q _ rfl⟩
    · cases e
  · obtain ⟨v, rfl, r1⟩ := rels1 r
    cases e; cases r1
    exact SkE.call_str_str pins s σ H _ us Q I rr ⟨_, rfl, q _ rfl⟩
  · cases e
theorem cz_list : CallR X (.type "list") (rdCall ⟨X.K, ce⟩ listZ) := by
  intro pins s σ H xs us Q I rr ⟨G, F, ρ, h, zs, o, w, r, e, q⟩
  unfold listZ at e
  split at e
  · rename_i z
    obtain ⟨v, rfl, r1⟩ := rels1 r
    cases e2 : seqOf h z with
    | none => rw [e2] at e; cases e
    | some ys =>
      rw [e2] at e; cases e
      obtain ⟨p, ws, rfl, q1, rr1⟩ := seq_rel w r1 e2
      exact call_list_of pins s σ H _ us Q I rr ⟨p, ws, rfl, q1, fun l nl => q l ws nl rr1⟩
  · cases e
theorem cz_tuple : CallR X (.type "tuple") (rdCall ⟨X.K, ce⟩ tupleZ) := by
  intro pins s σ H xs us Q I rr ⟨G, F, ρ, h, zs, o, w, r, e, q⟩
  unfold tupleZ at e
  split at e
  · obtain ⟨v, rfl, r1⟩ := rels1 r
    cases e
    obtain ⟨p, ws, rfl, q1, rr1⟩ := id r1
    exact call_tuple_of pins s σ H _ us Q I rr ⟨p, ws, rfl, .inr ⟨SqT.of (w.sub _ _ q1), q _ r1⟩⟩
  · rename_i z _
    obtain ⟨v, rfl, r1⟩ := rels1 r
    cases e2 : lstOf h z with
    | none => rw [e2] at e; cases e
    | some ys =>
      rw [e2] at e; cases e
      obtain ⟨p, ws, rfl, q1, rr1⟩ := lst_rel w r1 e2
      exact call_tuple_of pins s σ H _ us Q I rr ⟨p, ws, rfl, .inl ⟨SqL.of q1, fun l nl => q l ws nl rr1⟩⟩
  · cases e
theorem cz_all (hc : X.calm = true) : CallR X (.builtin "all") (rdCall ⟨X.K, ce⟩ allZ) := by
  intro pins s σ H xs us Q I rr ⟨G, F, ρ, h, zs, o, w, r, e, q⟩
  unfold allZ at e
  split at e
  · obtain ⟨v, rfl, r1⟩ := rels1 r
    split at e
    · rename_i ys e1
      cases e2 : blsOf ys with
      | none => rw [e2] at e; cases e
      | some bs =>
        rw [e2] at e; cases e
        obtain ⟨p, ws, rfl, q1, rr1⟩ := lst_rel w r1 e1
        rw [blsOf_map e2] at rr1
        rw [rr1.bls] at q1
        exact cr_all hc pins s σ H _ us Q I rr ⟨p, bs, rfl, SqL.of q1, q _ rfl⟩
    · cases e
  · cases e
theorem cz_any (hc : X.calm = true) : CallR X (.builtin "any") (rdCall ⟨X.K, ce⟩ anyZ) := by
  intro pins s σ H xs us Q I rr ⟨G, F, ρ, h, zs, o, w, r, e, q⟩
  unfold anyZ at e
  split at e
  · obtain ⟨v, rfl, r1⟩ := rels1 r
    split at e
    · rename_i ys e1
      cases e2 : blsOf ys with
      | none => rw [e2] at e; cases e
      | some bs =>
        rw [e2] at e; cases e
        obtain ⟨p, ws, rfl, q1, rr1⟩ := lst_rel w r1 e1
        rw [blsOf_map e2] at rr1
        rw [rr1.bls] at q1
        exact cr_any hc pins s σ H _ us Q I rr ⟨p, bs, rfl, SqL.of q1, q _ rfl⟩
    · cases e
  · cases e
theorem cz_sum (hc : X.calm = true) : CallR X (.builtin "sum") (rdCall ⟨X.K, ce⟩ sumZ) := by
  intro pins s σ H xs us Q I rr ⟨G, F, ρ, h, zs, o, w, r, e, q⟩
  unfold sumZ at e
  split at e
  · obtain ⟨v, rfl, r1⟩ := rels1 r
    split at e
    · rename_i ys e1
      cases e2 : intsOf ys with
      | none => rw [e2] at e; cases e
      | some bs =>
        rw [e2] at e; cases e
        obtain ⟨p, ws, rfl, q1, rr1⟩ := lst_rel w r1 e1
        rw [intsOf_map e2] at rr1
        rw [rr1.ints] at q1
        exact cr_sum hc pins s σ H _ us Q I rr ⟨p, bs, rfl, SqL.of q1, q _ rfl⟩
    · cases e
  · cases e
theorem cz_max2 (hc : X.calm = true) : CallR X (.builtin "max") (rdCall ⟨X.K, ce⟩ max2Z) := by
  intro pins s σ H xs us Q I rr ⟨G, F, ρ, h, zs, o, w, r, e, q⟩
  unfold max2Z at e
  split at e
  · obtain ⟨v, u, rfl, r1, r2⟩ := rels2 r
    cases e; cases r1; cases r2
    exact call_max2 hc pins s σ H _ us Q I rr ⟨_, _, rfl, q _ rfl⟩
  · cases e
theorem cz_min2 (hc : X.calm = true) : CallR X (.builtin "min") (rdCall ⟨X.K, ce⟩ min2Z) := by
  intro pins s σ H xs us Q I rr ⟨G, F, ρ, h, zs, o, w, r, e, q⟩
  unfold min2Z at e
  split at e
  · obtain ⟨v, u, rfl, r1, r2⟩ := rels2 r
    cases e; cases r1; cases r2
    exact call_min2 hc pins s σ H _ us Q I rr ⟨_, _, rfl, q _ rfl⟩
  · cases e
end
/-! ### isinstance -/
abbrev Ty := Sum String Str
/-- ps: the plain classes -/
def tyOf (ps : List Str) (h : Hv) : Z → Option Ty
  | .non => some (.inl "NoneType")
  | .bl _ => some (.inl "bool")
  | .int _ => some (.inl "int")
  | .str _ => some (.inl "str")
  | .tup _ => some (.inl "tuple")
  | .lst _ => some (.inl "list")
  | .dkf _ _ => some (.inl "dict")
  | .ins C _ _ => if ps.contains C = true then some (.inr C) else none
  | .ref i => match h[i]? with
    | some (.lst _) => some (.inl "list")
    | some (.dk _ _) => some (.inl "dict")
    | some (.dt _ _) => some (.inl "dict")
    | some (.ins C _ _) => if ps.contains C = true then some (.inr C) else none
    | _ => none
  | _ => none
def clOf : Z → Option Ty
  | .ty n => some (.inl n)
  | .glo C => some (.inr C)
  | _ => none
/-- the classes of the text, each with all that it is under -/
abbrev Kits := List (Str × List Ty)
def btys : List String := ["NoneType", "bool", "int", "str", "tuple", "list", "dict", "ValueError"]
def kitZ (ks : Kits) : Ty → Ty → Option Bool
  | .inl a, .inl b => kitB a b
  | .inl a, .inr C => if btys.contains a && (ks.lookup C).isSome then some false else none
  | .inr C, c => match ks.lookup C with
    | some us => match c with
      | .inl b => if btys.contains b then some (us.contains (.inl b)) else none
      | .inr D => if (ks.lookup D).isSome then some (us.contains (.inr D)) else none
    | none => none
def tyVal (K : PySem.W.Frag) : Ty → Value
  | .inl a => .type a
  | .inr C => .ref (He.ga K C)
def KitsOk (K : PySem.W.Frag) (ks : Kits) : Prop := ∀ t c b, kitZ ks t c = some b → PySem.W.kitOne K (tyVal K t) (tyVal K c) = some b
structure InsOk (K : PySem.W.Frag) (C : Addr) : Prop where
  cl : Cls K C
  ha : PySem.W.findIn K (.ref C) "__class__" = some (some (.builtin "object.__class__"))
  hn : PySem.W.specialIn K (.builtin "object.__class__") "__get__" = some (some (.builtin "getset_descriptor.__get__"))
  ht : PySem.W.takesIn K (.builtin "object.__class__") = some true
  hm : PySem.W.mroIn K C (.type "object") = some true
def kitsZ (ks : Kits) (t : Ty) : List Z → Option Bool
  | [] => some false
  | z :: zs => match clOf z with
    | some c => match kitZ ks t c with
      | some true => some true
      | some false => kitsZ ks t zs
      | none => none
    | none => none
section
variable {c : RC} {G F : Hp} {ρ : Nat → Addr} {h : Hv} {H : Hp}
theorem tyOf_rel {ps : List Str} (w : W c G F ρ h H) (hi : ∀ C, ps.contains C = true → InsOk c.K (He.ga c.K C)) {z : Z} {v : V} {t : Ty} (r : Rel c F ρ h.length z v) (e : tyOf ps h z = some t) : TyX c.K H v (tyVal c.K t) := by
  have ins : ∀ {a dx : Addr} {C : Str} {fs : List (Str × V)}, H a = some (.ins (He.ga c.K C) dx fs) → InsOk c.K (He.ga c.K C) → TyX c.K H (.ref a) (.ref (He.ga c.K C)) := fun e o => .base (.ins e o.cl o.ha o.hn o.ht o.hm)
  cases z with
  | non => cases r; cases e; exact .base .non
  | bl b => cases r; cases e; exact .base (.bl _)
  | int i => cases r; cases e; exact .base (.int _)
  | str x => cases r; cases e; exact .base (.str _)
  | tup xs =>
    obtain ⟨a, ws, rfl, q, rr⟩ := r
    cases e
    exact .base (.tup (w.sub _ _ q))
  | lst xs =>
    obtain ⟨a, ws, rfl, q, rr⟩ := r
    cases e
    exact .base (.lst (w.sub _ _ q))
  | dkf ks vs =>
    obtain ⟨a, ws, rfl, q, rr⟩ := r
    cases e
    exact .base (.dK (w.sub _ _ q))
  | ins C ns vs =>
    obtain ⟨a, dx, ws, rfl, q, rr⟩ := r
    have e : (if ps.contains C = true then some (Sum.inr C) else none) = some t := e
    split at e
    · rename_i hp
      cases e
      exact ins (w.sub _ _ q) (hi C hp)
    · cases e
  | ref i =>
    obtain ⟨hl, rfl⟩ := r
    have e : (match h[i]? with
      | some (.lst _) => some (.inl "list")
      | some (.dk _ _) => some (.inl "dict")
      | some (.dt _ _) => some (.inl "dict")
      | some (.ins C _ _) => if ps.contains C = true then some (.inr C) else none
      | _ => none : Option Ty) = some t := e
    split at e
    · rename_i xs q
      obtain ⟨ws, h1, h2⟩ := w.obj i _ q
      cases e
      exact .base (.lst h1)
    · rename_i ks xs q
      obtain ⟨ws, h1, h2⟩ := w.obj i _ q
      cases e
      exact .base (.dK h1)
    · rename_i ks xs q
      obtain ⟨ws, h1, h2⟩ := w.obj i _ q
      cases e
      exact .base (.dT h1)
    · rename_i C ns vs q
      obtain ⟨dx, ws, h1, h2⟩ := w.obj i _ q
      split at e
      · rename_i hp
        cases e
        exact ins h1 (hi C hp)
      · cases e
    · cases e
  | _ => cases e
theorem clOf_rel {n : Nat} {z : Z} {v : V} {t : Ty} (r : Rel c F ρ n z v) (e : clOf z = some t) : ClsV v (tyVal c.K t) := by
  cases z with
  | ty m => cases r; cases e; exact .ty _
  | glo x => cases r; cases e; exact .own _
  | _ => cases e
theorem kits_rel {ks : Kits} (hk : KitsOk c.K ks) {n : Nat} {t : Ty} : ∀ {cs : List Z} {ws : List V} {b : Bool}, Rels c F ρ n cs ws → kitsZ ks t cs = some b → (∀ z ∈ cs, (clOf z).isSome = true) → ∃ us, Paired ClsV ws us ∧ PySem.W.kitAny c.K (tyVal c.K t) us = some b
  | [], ws, b, r, e, _ => by cases e; rw [show ws = [] from r]; exact ⟨[], .nil, rfl⟩
  | z :: cs, ws, b, r, e, all => by
    obtain ⟨v, vs, rfl, r1, r2⟩ := r
    have e : (match clOf z with
      | some u => match kitZ ks t u with
        | some true => some true
        | some false => kitsZ ks t cs
        | none => none
      | none => none) = some b := e
    cases e1 : clOf z with
    | none => rw [e1] at e; cases e
    | some u =>
      rw [e1] at e
      dsimp only at e
      have k1 := clOf_rel r1 e1
      have all' : ∀ z ∈ cs, (clOf z).isSome = true := fun z hz => all z (List.mem_cons_of_mem _ hz)
      cases e2 : kitZ ks t u with
      | none => rw [e2] at e; cases e
      | some d =>
        rw [e2] at e
        have k2 := hk _ _ _ e2
        cases d with
        | true =>
          cases e
          -- the others' classes
          have rest : ∀ {cs : List Z} {vs : List V}, Rels c F ρ n cs vs → (∀ z ∈ cs, (clOf z).isSome = true) → ∃ us, Paired ClsV vs us := by
            intro cs
            induction cs with
            | nil => intro vs r _; rw [show vs = [] from r]; exact ⟨[], .nil⟩
            | cons z cs ih =>
              intro vs r all
              obtain ⟨v, ts, rfl, r1, r2⟩ := r
              obtain ⟨u, hu⟩ := Option.isSome_iff_exists.mp (all z List.mem_cons_self)
              obtain ⟨us, p⟩ := ih r2 fun z hz => all z (List.mem_cons_of_mem _ hz)
              exact ⟨_ :: us, .cons (clOf_rel r1 hu) p⟩
          obtain ⟨us, p⟩ := rest r2 all'
          exact ⟨_ :: us, .cons k1 p, kitAny_cons k2 (fun z => nomatch z) fun _ => rfl⟩
        | false =>
          obtain ⟨us, p, k3⟩ := kits_rel hk r2 e all'
          exact ⟨_ :: us, .cons k1 p, kitAny_cons k2 (fun _ => k3) fun z => nomatch z⟩
end
def clsAll : List Z → Bool
  | [] => true
  | z :: zs => (clOf z).isSome && clsAll zs
theorem clsAll_mem : ∀ {zs : List Z}, clsAll zs = true → ∀ z ∈ zs, (clOf z).isSome = true
  | [], _, z, h => nomatch h
  | y :: zs, e, z, h => by
    have e : ((clOf y).isSome && clsAll zs) = true := e
    rw [Bool.and_eq_true] at e
    rcases List.mem_cons.mp h with rfl | h
    · exact e.1
    · exact clsAll_mem e.2 z h
def isiG (ks : Kits) (ps : List Str) (h : Hv) : List Z → Option Out
  | [z, .tup cs] => match tyOf ps h z with
    | some t => if clsAll cs = true then (kitsZ ks t cs).map fun b => .val (.bl b) else none
    | none => none
  | [z, c] => match tyOf ps h z, clOf c with
    | some t, some u => (kitZ ks t u).map fun b => .val (.bl b)
    | _, _ => none
  | _ => none
section
variable {X : Cx} {ce : Addr → Value → Option Addr → Prop}
theorem cz_isi {ks : Kits} {ps : List Str} (hk : KitsOk X.K ks) (hi : ∀ C, ps.contains C = true → InsOk X.K (He.ga X.K C)) : CallR X (.builtin "isinstance") (rdCall ⟨X.K, ce⟩ (isiG ks ps)) := by
  intro pins s σ H xs us Q I rr ⟨G, F, ρ, h, zs, o, w, r, e, q⟩
  unfold isiG at e
  split at e
  · rename_i z cs
    obtain ⟨v, u, rfl, r1, r2⟩ := rels2 r
    split at e
    · rename_i t e1
      split at e
      · rename_i ha
        cases e2 : kitsZ ks t cs with
        | none => rw [e2] at e; cases e
        | some b =>
          rw [e2] at e; cases e
          obtain ⟨a, ws, rfl, q1, rr1⟩ := r2
          obtain ⟨ts, p, k⟩ := kits_rel (c := ⟨X.K, ce⟩) hk rr1 e2 (clsAll_mem ha)
          exact call_isiT pins s σ H _ us Q I rr ⟨_, a, ws, _, ts, b, rfl, w.sub _ _ q1, p, tyOf_rel w hi r1 e1, k, q _ rfl⟩
      · cases e
    · cases e
  · rename_i z c _
    obtain ⟨v, u, rfl, r1, r2⟩ := rels2 r
    split at e
    · rename_i t d e1 e2
      cases e3 : kitZ ks t d with
      | none => rw [e3] at e; cases e
      | some b =>
        rw [e3] at e; cases e
        exact call_isi pins s σ H _ us Q I rr ⟨_, _, _, _, b, rfl, clOf_rel (c := ⟨X.K, ce⟩) r2 e2, tyOf_rel w hi r1 e1, hk _ _ _ e3, q _ rfl⟩
    · cases e
  · cases e
end
end ZL
set_option Elab.async false
set_option linter.all false
set_option maxRecDepth 100000
set_option maxHeartbeats 2000000
namespace ZL
open PySem PySem.Spec PyProof.Rows L2
/-! ### subscripts, slices -/
def ixZ (h : Hv) : Z → Z → Option Out
  | .str x, .int i => if x.length ≤ sizeLine then (atI x.cps.toList i).map fun c => .val (.str ⟨#[c]⟩) else none
  | z, .int i => match seqOf h z with
    | some xs => (atI xs i).map .val
    | none => none
  | _, _ => none
def cutZ (xs : List Z) (lo hi : Option Int) : List Z := (xs.drop (HT.sIx xs.length 0 lo)).take (HT.sIx xs.length xs.length hi - HT.sIx xs.length 0 lo)
def slZ (h : Hv) (z : Z) (lo hi : Option Int) : Option Out := match z with
  | .tup xs => if HT.sIx xs.length 0 lo = 0 ∧ HT.sIx xs.length xs.length hi = xs.length then some (.val (.tup xs)) else some (.tup (cutZ xs lo hi))
  | .str x => if x.length ≤ sizeLine then some (.val (.str (cutS x lo hi))) else none
  | .frl xs => some (.lst (cutZ xs lo hi))
  | z => (lstOf h z).map fun xs => .lst (cutZ xs lo hi)
abbrev MO1 := Sg → Hv → Res (Option Int)
def zNone : MO1 := fun _ h => .ok none h
def zSome (m : ME) : MO1 := fun s h => (m s h).bind fun z h1 => match z with
  | .int i => .ok (some i) h1
  | _ => .bad
def zSl (mu : Bool) (m : ME) (lo hi : MO1) : ME := fun s h => (m s h).bind fun z h1 => (lo s h1).bind fun l h2 => (hi s h2).bind fun u h3 => Out.go mu h3 (slZ h3 z l u)
def RelO1 (_ : RC) (_ : Hp) (_ : Nat → Addr) (_ : Nat) (a b : Option Int) : Prop := b = a
def rdO (c : RC) (E : WX) (m : MO1) : TO := fun σ H Q => Rdy c (fun G F ρ zs h => PostG RelO1 c E G F ρ h.length σ Q (m zs h)) σ H
section
variable {X : Cx} {ce : Addr → Value → Option Addr → Prop} {E : WX} {e : Expr} {m : ME} {pos p2 : Pos} {lo hi : Option Expr} {ml mh : MO1}
theorem atI_rel {c : RC} {F : Hp} {ρ : Nat → Addr} {n : Nat} {xs : List Z} {ws : List V} {i : Int} {z : Z} (r : Rels c F ρ n xs ws) (e : atI xs i = some z) : ∃ v, atI ws i = some v ∧ Rel c F ρ n z v := by
  unfold atI at e ⊢
  rw [← r.length]
  cases q : ixN xs.length i with
  | none => rw [q] at e; cases e
  | some j => rw [q] at e; exact r.get e
theorem iz_ix : IxR X (rdOp ⟨X.K, ce⟩ ixZ) := by
  intro value slice pins s σ H x y v u Q I rx ry ⟨G, F, ρ, h, zx, zy, o, w, r1, r2, e, q⟩ hs
  unfold ixZ at e
  split at e
  · split at e
    · rename_i hl
      cases r1; cases r2
      cases e1 : atI (Str.cps _).toList _ with
      | none => rw [e1] at e; cases e
      | some c => rw [e1] at e; cases e; exact ix_str value slice pins s σ H _ _ v u Q I rx ry ⟨_, _, c, rfl, rfl, hl, e1, q _ rfl⟩ hs
    · cases e
  · split at e
    · rename_i xs e1
      cases r2
      obtain ⟨p, ws, rfl, q1, rr⟩ := seq_rel w r1 e1
      cases e2 : atI xs _ with
      | none => rw [e2] at e; cases e
      | some z =>
        rw [e2] at e; cases e
        obtain ⟨a, h1, h2⟩ := atI_rel rr e2
        rcases q1 with q1 | q1
        · exact ix_list value slice pins s σ H _ _ v u Q I rx ry ⟨p, ws, _, a, rfl, rfl, q1, h1, q _ h2⟩ hs
        · exact ix_tup value slice pins s σ H _ _ v u Q I rx ry ⟨p, ws, _, a, rfl, rfl, q1, h1, q _ h2⟩ hs
    · cases e
  · cases e
def rdSl (c : RC) : V → Option Int → Option Int → Hp → VK → Prop := fun x lo hi H Q => ∃ G F ρ h z o, W c G F ρ h H ∧ Rel c F ρ h.length z x ∧ slZ h z lo hi = some o ∧ OutR c F ρ h H Q o
theorem cut_rel {c : RC} {F : Hp} {ρ : Nat → Addr} {n : Nat} {xs : List Z} {ws : List V} (r : Rels c F ρ n xs ws) (lo hi : Option Int) : Rels c F ρ n (cutZ xs lo hi) (cutV ws lo hi) := by
  unfold cutZ cutV
  rw [← r.length]
  exact (r.drop _).take _
theorem sz_sl : SlR X (rdSl ⟨X.K, ce⟩) := by
  intro pins s σ H x v vl vu lo hi sl Q I rx hs pl pu ⟨G, F, ρ, h, z, o, w, r, e, q⟩
  have list : ∀ xs a ws, x = .ref a → SqL X.K H a ws → Rels ⟨X.K, ce⟩ F ρ h.length xs ws → o = .lst (cutZ xs lo hi) → ∃ T id, typeLookup (.type T) "__getitem__" = pure (some (.builtin id)) ∧ s.TypeIs v T ∧ wpAny (model X.prog X.w) X.A (getItem v (.ref sl)) (EP X pins σ Q) X.xe s := by
    intro xs a ws hx q1 rr eo
    subst hx eo
    exact sl_list pins s σ H _ v vl vu lo hi sl Q I rx hs pl pu ⟨a, ws, rfl, q1, fun p np => q p _ np (cut_rel rr lo hi)⟩
  unfold slZ at e
  split at e
  · rename_i xs
    obtain ⟨a, ws, rfl, q1, rr⟩ := r
    have l := rr.length
    split at e
    · rename_i hw
      cases e
      rw [l] at hw
      exact sl_tupA pins s σ H _ v vl vu lo hi sl Q I rx hs pl pu ⟨a, ws, rfl, SqT.of (w.sub _ _ q1), fun _ => q _ ⟨a, ws, rfl, q1, rr⟩, fun n => absurd hw n⟩
    · rename_i hw
      cases e
      rw [l] at hw
      exact sl_tupA pins s σ H _ v vl vu lo hi sl Q I rx hs pl pu ⟨a, ws, rfl, SqT.of (w.sub _ _ q1), fun n => absurd n hw, fun _ p np => q p _ np (cut_rel rr lo hi)⟩
  · split at e
    · rename_i hl
      cases e; cases r
      exact sl_str pins s σ H _ v vl vu lo hi sl Q I rx hs pl pu ⟨_, rfl, hl, q _ rfl⟩
    · cases e
  · obtain ⟨a, ws, rfl, q1, rr⟩ := r
    cases e
    exact list _ a ws rfl (sqL_mono w.sub q1) rr rfl
  · cases e1 : lstOf h z with
    | none => rw [e1] at e; cases e
    | some xs =>
      rw [e1] at e; cases e
      obtain ⟨a, ws, rfl, q1, rr⟩ := lst_rel w r e1
      exact list xs a ws rfl (SqL.of q1) rr rfl
def ZO (X : Cx) (ce : Addr → Value → Option Addr → Prop) (E : WX) (e : Option Expr) (m : MO1) : Prop := PO X e (rdO ⟨X.K, ce⟩ E m)
theorem PO.weak {X : Cx} {e : Option Expr} {t t' : TO} (h : PO X e t) (f : ∀ σ H Q, t' σ H Q → t σ H Q) : PO X e t' := by
  obtain ⟨h⟩ := h
  exact ⟨fun pins s σ H Q I hw => h pins s σ H Q I (f σ H Q hw)⟩
theorem zo_none : ZO X ce E none zNone := PO.weak po_none fun σ H Q ⟨G, F, ρ, zs, h, w, rs, p⟩ => p _ _ _ _ .refl w rfl
theorem zo_some (he : ZE X ce E e m) : ZO X ce E (some e) (zSome m) := PO.weak (po_some he) fun σ H Q ⟨G, F, ρ, zs, h, w, rs, p⟩ => ⟨G, F, ρ, zs, h, w, rs, (PostG.bind (R := Rel) p).mono fun v H1 ⟨F1, ρ1, h1, z1, e1, w1, r1, p1⟩ => by
  cases z1 with
  | int i => exact ⟨i, r1, p1 _ _ _ _ .refl w1 rfl⟩
  | _ => exact False.elim p1⟩
theorem ze_sl (mu : Bool) (he : ZE X ce E e m) (hl : ZO X ce E lo ml) (hh : ZO X ce E hi mh) : ZE X ce E (.Subscript e (.Slice lo hi none p2) pos) (zSl mu m ml mh) :=
  PE.weak (pe_slice sz_sl he hl hh) fun σ H Q ⟨G, F, ρ, zs, h, w, rs, p⟩ => ⟨G, F, ρ, zs, h, w, rs, (PostG.bind (R := Rel) p).mono fun v H1 ⟨F1, ρ1, h1, z1, e1, w1, r1, p1⟩ =>
    ⟨G, F1, ρ1, zs, h1, w1, rs.ext e1, (PostG.bind (R := RelO1) p1).mono fun l H2 ⟨F2, ρ2, h2, z2, e2, w2, r2, p2⟩ =>
      ⟨G, F2, ρ2, zs, h2, w2, (rs.ext e1).ext e2, (PostG.bind (R := RelO1) p2).mono fun u H3 ⟨F3, ρ3, h3, z3, e3, w3, r3, p3⟩ => by
        cases (show l = z2 from r2)
        cases (show u = z3 from r3)
        cases q : slZ h3 z1 l u with
        | none => rw [q] at p3; exact False.elim p3
        | some o => rw [q] at p3; exact ⟨G, F3, ρ3, h3, z1, o, w3, (r1.ext e2).ext e3, q, out_post w3 p3⟩⟩⟩⟩
end
/-! ### methods of built-in types -/
def tyIs (T : String) (h : Hv) (z : Z) : Bool := match z with
  | .str _ => T == "str"
  | .lst _ => T == "list"
  | .frl _ => T == "list"
  | .ref i => match h[i]? with
    | some (.lst _) => T == "list"
    | some (.dk _ _) => T == "dict"
    | some (.dt _ _) => T == "dict"
    | _ => false
  | _ => false
theorem tyIs_rel {c : RC} {G F : Hp} {ρ : Nat → Addr} {h : Hv} {H : Hp} {T : String} {z : Z} {v : V} (w : W c G F ρ h H) (r : Rel c F ρ h.length z v) (e : tyIs T h z = true) : tyV c.K T v H := by
  cases z with
  | str x => cases r; exact eq_of_beq e
  | lst xs => obtain ⟨a, ws, rfl, q, rr⟩ := r; exact .inl ⟨eq_of_beq e, ws, SqL.of (w.sub _ _ q)⟩
  | frl xs => obtain ⟨a, ws, rfl, q, rr⟩ := r; exact .inl ⟨eq_of_beq e, ws, sqL_mono w.sub q⟩
  | ref i =>
    obtain ⟨hl, rfl⟩ := r
    have e : (match h[i]? with
      | some (.lst _) => T == "list"
      | some (.dk _ _) => T == "dict"
      | some (.dt _ _) => T == "dict"
      | _ => false) = true := e
    split at e
    · rename_i q
      obtain ⟨ws, h1, h2⟩ := w.obj i _ q
      exact .inl ⟨eq_of_beq e, ws, SqL.of h1⟩
    · rename_i q
      obtain ⟨ws, h1, h2⟩ := w.obj i _ q
      exact .inr (.inr (.inl ⟨eq_of_beq e, .inl ⟨_, h1⟩⟩))
    · rename_i q
      obtain ⟨ws, h1, h2⟩ := w.obj i _ q
      exact .inr (.inr (.inl ⟨eq_of_beq e, .inr ⟨_, h1⟩⟩))
    · cases e
  | _ => cases e
/-- what changes objects -/
def rdMut (c : RC) (g : Hv → Z → List Z → Option (Z × Hv)) : V → List V → Hp → VK → Prop := fun x xs H Q => ∃ G F ρ h z zs z' h', W c G F ρ h H ∧ Rel c F ρ h.length z x ∧ Rels c F ρ h.length zs xs ∧ g h z zs = some (z', h') ∧
  ∀ F' ρ' v H', Ext F ρ h.length F' ρ' h'.length → W c G F' ρ' h' H' → Rel c F' ρ' h'.length z' v → Q v H'
def zMeth (T : String) (g : Hv → Z → List Z → Option Out) (mu : Bool) (o : ME) (t : MA) : ME := fun s h => (o s h).bind fun x h1 => if tyIs T h1 x = true then (t s h1).bind fun xs h2 => Out.go mu h2 (g h2 x xs) else .bad
def zMut (T : String) (g : Hv → Z → List Z → Option (Z × Hv)) (o : ME) (t : MA) : ME := fun s h => (o s h).bind fun x h1 => if tyIs T h1 x = true then (t s h1).bind fun xs h2 => match g h2 x xs with
  | some (z, h3) => .ok z h3
  | none => .bad else .bad
section
variable {X : Cx} {ce : Addr → Value → Option Addr → Prop} {E : WX} {o e : Expr} {es : List Expr} {mo : ME} {t : MA} {name : Str} {apos cpos : Pos} {T id : String} {g : Hv → Z → List Z → Option Out} {gm : Hv → Z → List Z → Option (Z × Hv)}
theorem meth_rd {c : RC} {mu : Bool} {σ : L2.St} {H : Hp} {Q : VK} (q : rdE c E (zMeth T g mu mo t) σ H Q) : tBM c.K T (rdMt c g) (rdE c E mo) (rdA c E t) σ H Q := by
  obtain ⟨G, F, ρ, zs, h, w, rs, p⟩ := q
  refine ⟨G, F, ρ, zs, h, w, rs, (PostG.bind (R := Rel) p).mono fun v H1 ⟨F1, ρ1, h1, z1, e1, w1, r1, p1⟩ => ?_⟩
  dsimp only at p1
  split at p1
  · rename_i ht
    refine ⟨tyIs_rel w1 r1 ht, G, F1, ρ1, zs, h1, w1, rs.ext e1, (PostG.bind (R := Rels) p1).mono fun vs H2 ⟨F2, ρ2, h2, z2, e2, w2, r2, p2⟩ => ?_⟩
    dsimp only at p2
    cases q : g h2 z1 z2 with
    | none => rw [q] at p2; exact False.elim p2
    | some o => rw [q] at p2; exact ⟨G, F2, ρ2, h2, z1, z2, o, w2, r1.ext e2, r2, q, out_post w2 p2⟩
  · exact False.elim p1
theorem mut_rd {c : RC} {σ : L2.St} {H : Hp} {Q : VK} (q : rdE c E (zMut T gm mo t) σ H Q) : tBM c.K T (rdMut c gm) (rdE c E mo) (rdA c E t) σ H Q := by
  obtain ⟨G, F, ρ, zs, h, w, rs, p⟩ := q
  refine ⟨G, F, ρ, zs, h, w, rs, (PostG.bind (R := Rel) p).mono fun v H1 ⟨F1, ρ1, h1, z1, e1, w1, r1, p1⟩ => ?_⟩
  dsimp only at p1
  split at p1
  · rename_i ht
    refine ⟨tyIs_rel w1 r1 ht, G, F1, ρ1, zs, h1, w1, rs.ext e1, (PostG.bind (R := Rels) p1).mono fun vs H2 ⟨F2, ρ2, h2, z2, e2, w2, r2, p2⟩ => ?_⟩
    dsimp only at p2
    cases q : gm h2 z1 z2 with
    | none => rw [q] at p2; exact False.elim p2
    | some o => rw [q] at p2; exact ⟨G, F2, ρ2, h2, z1, z2, o.1, o.2, w2, r1.ext e2, r2, q, p2⟩
  · exact False.elim p1
theorem ze_meth (mu : Bool) (pa : PlainAttrs T) (slot : Slot T name id) (hty : typeOf (.builtin id) = pure (.type "method_descriptor")) (hm : MtR X id (rdMt ⟨X.K, ce⟩ g)) (ho : ZE X ce E o mo) (ha : ZA X ce E (e :: es) t)
    (hbase : attributeBase o name X.env (eval o X.env) = eval o X.env := by rfl)
    (hfew : ((backTo cpos (starEach (e :: es) X.env)).all (fun x => !x.1) && (backToKw cpos (keywordEach [] X.env)).all (fun x => x.1.isSome) && decide ((e :: es).length + ([] : List Keyword).length + (if ([] : List Keyword).isEmpty then 0 else 1) < 30)) = true := by rfl)
    (hline : (apos.endLine == cpos.line) = true := by rfl) (hs : starEach (e :: es) X.env = (false, eval e X.env) :: starEach es X.env := by rfl) (hplain : (backTo cpos (starEach es X.env)).any (·.1) = false := by rfl) :
    ZE X ce E (.Call (.Attribute o name apos) (e :: es) [] cpos) (zMeth T g mu mo t) := PE.weak (pe_bm pa slot hty hm ho ha hbase hfew hline hs hplain) fun σ H Q q => meth_rd (c := ⟨X.K, ce⟩) q
theorem ze_meth0 (mu : Bool) (pa : PlainAttrs T) (slot : Slot T name id) (hty : typeOf (.builtin id) = pure (.type "method_descriptor")) (hm : MtR X id (rdMt ⟨X.K, ce⟩ g)) (ho : ZE X ce E o mo)
    (hbase : attributeBase o name X.env (eval o X.env) = eval o X.env := by rfl) (hline : (apos.endLine == cpos.line) = true := by rfl) :
    ZE X ce E (.Call (.Attribute o name apos) [] [] cpos) (zMeth T g mu mo zNil) := PE.weak (pe_bm0 pa slot hty hm ho hbase hline) fun σ H Q ⟨G, F, ρ, zs, h, w, rs, p⟩ =>
  ⟨G, F, ρ, zs, h, w, rs, (PostG.bind (R := Rel) p).mono fun v H1 ⟨F1, ρ1, h1, z1, e1, w1, r1, p1⟩ => by
    dsimp only at p1
    split at p1
    · rename_i ht
      refine ⟨tyIs_rel (c := ⟨X.K, ce⟩) w1 r1 ht, ?_⟩
      simp only [zNil, Res.bind] at p1
      cases q : g h1 z1 [] with
      | none => rw [q] at p1; exact False.elim p1
      | some o => rw [q] at p1; exact ⟨G, F1, ρ1, h1, z1, [], o, w1, r1, rfl, q, out_post w1 p1⟩
    · exact False.elim p1⟩
theorem ze_mut (pa : PlainAttrs T) (slot : Slot T name id) (hty : typeOf (.builtin id) = pure (.type "method_descriptor")) (hm : MtR X id (rdMut ⟨X.K, ce⟩ gm)) (ho : ZE X ce E o mo) (ha : ZA X ce E (e :: es) t)
    (hbase : attributeBase o name X.env (eval o X.env) = eval o X.env := by rfl)
    (hfew : ((backTo cpos (starEach (e :: es) X.env)).all (fun x => !x.1) && (backToKw cpos (keywordEach [] X.env)).all (fun x => x.1.isSome) && decide ((e :: es).length + ([] : List Keyword).length + (if ([] : List Keyword).isEmpty then 0 else 1) < 30)) = true := by rfl)
    (hline : (apos.endLine == cpos.line) = true := by rfl) (hs : starEach (e :: es) X.env = (false, eval e X.env) :: starEach es X.env := by rfl) (hplain : (backTo cpos (starEach es X.env)).any (·.1) = false := by rfl) :
    ZE X ce E (.Call (.Attribute o name apos) (e :: es) [] cpos) (zMut T gm mo t) := PE.weak (pe_bm pa slot hty hm ho ha hbase hfew hline hs hplain) fun σ H Q q => mut_rd (c := ⟨X.K, ce⟩) q
theorem ze_mut0 (pa : PlainAttrs T) (slot : Slot T name id) (hty : typeOf (.builtin id) = pure (.type "method_descriptor")) (hm : MtR X id (rdMut ⟨X.K, ce⟩ gm)) (ho : ZE X ce E o mo)
    (hbase : attributeBase o name X.env (eval o X.env) = eval o X.env := by rfl) (hline : (apos.endLine == cpos.line) = true := by rfl) :
    ZE X ce E (.Call (.Attribute o name apos) [] [] cpos) (zMut T gm mo zNil) := PE.weak (pe_bm0 pa slot hty hm ho hbase hline) fun σ H Q ⟨G, F, ρ, zs, h, w, rs, p⟩ =>
  ⟨G, F, ρ, zs, h, w, rs, (PostG.bind (R := Rel) p).mono fun v H1 ⟨F1, ρ1, h1, z1, e1, w1, r1, p1⟩ => by
    dsimp only at p1
    split at p1
    · rename_i ht
      refine ⟨tyIs_rel (c := ⟨X.K, ce⟩) w1 r1 ht, ?_⟩
      simp only [zNil, Res.bind] at p1
      cases q : gm h1 z1 [] with
      | none => rw [q] at p1; exact False.elim p1
      | some o => rw [q] at p1; exact ⟨G, F1, ρ1, h1, z1, [], o.1, o.2, w1, r1, rfl, q, p1⟩
    · exact False.elim p1⟩
end
/-! the methods -/
def joinZ (h : Hv) : Z → List Z → Option Out
  | .str a, [z] => match seqOf h z with
    | some xs => match strsOf xs with
      | some ys => if (ys.map (·.length)).sum + ys.length * a.length ≤ 16777216 then some (.val (.str (Txt.join a ys))) else none
      | none => none
    | none => none
  | _, _ => none
def upperZ (_ : Hv) : Z → List Z → Option Out
  | .str a, [] => if a.length ≤ 5592405 then some (.val (.str (Txt.upper a))) else none
  | _, _ => none
def appZ (h : Hv) : Z → List Z → Option (Z × Hv)
  | .ref i, [y] => match h[i]? with
    | some (.lst xs) => if xs.length < sizeLine then some (.non, h.set i (.lst (xs ++ [y]))) else none
    | _ => none
  | _, _ => none
def popZ (h : Hv) : Z → List Z → Option (Z × Hv)
  | .ref i, [] => match h[i]? with
    | some (.lst xs) => match xs[xs.length - 1]? with
      | some y => some (y, h.set i (.lst xs.dropLast))
      | none => none
    | _ => none
  | .ref i, [.int j] => match h[i]? with
    | some (.lst xs) => if -(2 ^ 63) ≤ j ∧ j < 2 ^ 63 then (match seqIndex? j xs.length with
      | some k => match xs[k]? with
        | some y => some (y, h.set i (.lst (xs.eraseIdx k)))
        | none => none
      | none => none) else none
    | _ => none
  | _, _ => none
section
variable {X : Cx} {ce : Addr → Value → Option Addr → Prop}
theorem mz_join : MtR X "str.join" (rdMt ⟨X.K, ce⟩ joinZ) := by
  intro pins s σ H x xs v us Q I rx rxs ⟨G, F, ρ, h, z, zs, o, w, r1, r2, e, q⟩
  unfold joinZ at e
  split at e
  · cases r1
    obtain ⟨b, rfl, r3⟩ := rels1 r2
    split at e
    · rename_i ys e1
      split at e
      · rename_i zs e2
        split at e
        · rename_i hl
          cases e
          obtain ⟨p, ws, rfl, q1, rr⟩ := seq_rel w r3 e1
          rw [strsOf_map e2] at rr
          rw [rr.strs] at q1
          exact mt_join pins s σ H _ _ v us Q I rx rxs ⟨_, p, zs, rfl, rfl, q1, hl, q _ rfl⟩
        · cases e
      · cases e
    · cases e
  · cases e
theorem mz_upper : MtR X "str.upper" (rdMt ⟨X.K, ce⟩ upperZ) := by
  intro pins s σ H x xs v us Q I rx rxs ⟨G, F, ρ, h, z, zs, o, w, r1, r2, e, q⟩
  unfold upperZ at e
  split at e
  · cases r1
    split at e
    · rename_i hl
      cases e
      rw [show xs = [] from r2] at rxs
      exact mt_upper pins s σ H _ _ v us Q I rx rxs ⟨_, rfl, rfl, hl, q _ rfl⟩
    · cases e
  · cases e
theorem mz_app : MtR X "list.append" (rdMut ⟨X.K, ce⟩ appZ) := by
  intro pins s σ H x xs v us Q I rx rxs ⟨G, F, ρ, h, z, zs, z', h', w, r1, r2, e, q⟩
  unfold appZ at e
  split at e
  · rename_i i y
    obtain ⟨hi, rfl⟩ := r1
    obtain ⟨b, rfl, r3⟩ := rels1 r2
    split at e
    · rename_i ys e1
      split at e
      · rename_i hl
        cases e
        obtain ⟨ws, h1, h2⟩ := w.obj i _ e1
        refine mt_append pins s σ H _ _ v us Q I rx rxs ⟨_, ws, b, rfl, rfl, h1, by rw [← h2.length]; exact hl, ?_⟩
        exact q F ρ .non _ (by rw [List.length_set]; exact .refl) (w.put e1 rfl ⟨_, upd_same, h2.append (.cons r3 .nil)⟩) rfl
      · cases e
    · cases e
  · cases e
theorem rels_dropLast {c : RC} {F : Hp} {ρ : Nat → Addr} {n : Nat} {xs : List Z} {ws : List V} (r : Rels c F ρ n xs ws) : Rels c F ρ n xs.dropLast ws.dropLast := by
  rw [List.dropLast_eq_take, List.dropLast_eq_take, ← r.length]
  exact r.take _
theorem rels_erase {c : RC} {F : Hp} {ρ : Nat → Addr} {n : Nat} {xs : List Z} {ws : List V} (r : Rels c F ρ n xs ws) (k : Nat) : Rels c F ρ n (xs.eraseIdx k) (ws.eraseIdx k) := by
  rw [List.eraseIdx_eq_take_drop_succ, List.eraseIdx_eq_take_drop_succ]
  exact (r.take _).append (r.drop _)
theorem mz_pop : MtR X "list.pop" (rdMut ⟨X.K, ce⟩ popZ) := by
  intro pins s σ H x xs v us Q I rx rxs ⟨G, F, ρ, h, z, zs, z', h', w, r1, r2, e, q⟩
  unfold popZ at e
  split at e
  · rename_i i
    obtain ⟨hi, rfl⟩ := r1
    rw [show xs = [] from r2] at rxs
    split at e
    · rename_i ys e1
      split at e
      · rename_i y e2
        cases e
        obtain ⟨ws, h1, h2⟩ := w.obj i _ e1
        obtain ⟨b, h3, h4⟩ := h2.get e2
        refine mt_pop pins s σ H _ _ v us Q I rx rxs ⟨_, ws, b, rfl, rfl, h1, by rw [← h2.length]; exact h3, ?_⟩
        exact q F ρ b _ (by rw [List.length_set]; exact .refl) (w.put e1 rfl ⟨_, upd_same, rels_dropLast h2⟩) (by rw [List.length_set]; exact h4)
      · cases e
    · cases e
  · rename_i i j
    obtain ⟨hi, rfl⟩ := r1
    obtain ⟨b0, rfl, r3⟩ := rels1 r2
    cases r3
    split at e
    · rename_i ys e1
      split at e
      · rename_i hj
        split at e
        · rename_i k e3
          split at e
          · rename_i y e2
            cases e
            obtain ⟨ws, h1, h2⟩ := w.obj i _ e1
            obtain ⟨b, h3, h4⟩ := h2.get e2
            refine mt_popAt pins s σ H _ _ v us Q I rx rxs ⟨_, ws, j, k, b, rfl, rfl, h1, hj.1, hj.2, by rw [← h2.length]; exact e3, h3, ?_⟩
            exact q F ρ b _ (by rw [List.length_set]; exact .refl) (w.put e1 rfl ⟨_, upd_same, rels_erase h2 k⟩) (by rw [List.length_set]; exact h4)
          · cases e
        · cases e
      · cases e
    · cases e
  · cases e
end
/-! stores into a list -/
def setZ (h : Hv) : Z → Z → Z → Option Hv
  | .ref i, .int k, v => match h[i]? with
    | some (.lst xs) => match ixN xs.length k with
      | some j => some (h.set i (.lst (xs.set j v)))
      | none => none
    | _ => none
  | _, _, _ => none
def rdSet (c : RC) (g : Hv → Z → Z → Z → Option Hv) : TSet := fun o i v H Q => ∃ G F ρ h zo zi zv h', W c G F ρ h H ∧ Rel c F ρ h.length zo o ∧ Rel c F ρ h.length zi i ∧ Rel c F ρ h.length zv v ∧ g h zo zi zv = some h' ∧
  ∀ F' ρ' H', Ext F ρ h.length F' ρ' h'.length → W c G F' ρ' h' H' → Q H'
def zSet (g : Hv → Z → Z → Z → Option Hv) (mv mo mi : ME) : MS := fun s h => (mv s h).toS s fun v h1 => (mo s h1).toS s fun o h2 => (mi s h2).toS s fun i h3 => match g h3 o i v with
  | some h4 => .nx s h4
  | none => .bad
section
variable {X : Cx} {ce : Addr → Value → Option Addr → Prop} {E : WX} {o i e : Expr} {mo mi mv : ME} {pos pos' : Pos}
theorem wz_list : PSet X (rdSet ⟨X.K, ce⟩ setZ) := by
  intro pins s σ H x y z v u t Q I rx ry rz ⟨G, F, ρ, h, zo, zi, zv, h', w, r1, r2, r3, e, q⟩
  unfold setZ at e
  split at e
  · rename_i i k
    obtain ⟨hi, rfl⟩ := r1
    cases r2
    split at e
    · rename_i xs e1
      split at e
      · rename_i j e2
        cases e
        obtain ⟨ws, h1, h2⟩ := w.obj i _ e1
        refine set_list pins s σ H _ _ _ _ _ _ Q I rx ry rz ⟨_, ws, k, j, rfl, rfl, h1, by rw [← h2.length]; exact e2, ?_⟩
        exact q F ρ _ (by rw [List.length_set]; exact .refl) (w.put e1 rfl ⟨_, upd_same, Rels.set r3 j h2⟩)
      · cases e
    · cases e
  · cases e
theorem zs_setIx {g : Hv → Z → Z → Z → Option Hv} (hg : PSet X (rdSet ⟨X.K, ce⟩ g)) (he : ZE X ce E e mv) (ho : ZE X ce E o mo) (hi : ZE X ce E i mi)
    (hs : swapsWithSole [.Subscript o i pos'] e pos.line X.env = pure false := by rfl) (hw : swappedStores [.Subscript o i pos'] e X.env = pure none := by rfl)
    (h1 : (assignEach [.Subscript o i pos'] X.env).map (·.2) = [assign (.Subscript o i pos') X.env] := by rfl)
    (ha : ∀ v, assign (.Subscript o i pos') X.env v = (do
      let ov ← holding [v] (eval o X.env)
      let iv ← holding [v, ov] (eval i X.env)
      standAt pos'
      holding [v, ov, iv] (setItem ov iv v)
      release [v, ov, iv] []) := by intro _; rfl) : ZS X ce E (.Assign [.Subscript o i pos'] e pos) (zSet g mv mo mi) :=
  PS.weak (ps_asg he (pg_sub ho hi hg ha) hs hw h1) fun D σ H ⟨G, F, ρ, zs, h, w, rs, p⟩ => ⟨G, F, ρ, zs, h, w, rs, (PostS.toG (R := Rel) p rs).mono fun v H1 ⟨F1, ρ1, h1, z1, e1, w1, r1, p1⟩ =>
    ⟨G, F1, ρ1, zs, h1, w1, rs.ext e1, (PostS.toG (R := Rel) p1 (rs.ext e1)).mono fun u H2 ⟨F2, ρ2, h2, z2, e2, w2, r2, p2⟩ =>
      ⟨G, F2, ρ2, zs, h2, w2, (rs.ext e1).ext e2, (PostS.toG (R := Rel) p2 ((rs.ext e1).ext e2)).mono fun t H3 ⟨F3, ρ3, h3, z3, e3, w3, r3, p3⟩ => by
        dsimp only at p3
        cases q : g h3 z2 z3 z1 with
        | none => rw [q] at p3; exact False.elim p3
        | some h4 => rw [q] at p3; exact ⟨G, F3, ρ3, h3, z2, z3, z1, h4, w3, r2.ext e3, r3, (r1.ext e2).ext e3, q, fun F' ρ' H' e' w' => p3 F' ρ' σ H' e' w' ((((rs.ext e1).ext e2).ext e3).ext e')⟩⟩⟩⟩
end
end ZL
set_option Elab.async false
set_option linter.all false
set_option maxRecDepth 100000
set_option maxHeartbeats 2000000
namespace ZL
open PySem PySem.Spec PyProof.Rows L2
/-! ### instances -/
def lookF {α : Type} : List Str → List α → Str → Option α
  | n :: ns, v :: vs, f => if f == n then some v else lookF ns vs f
  | _, _, _ => none
theorem lookF_zip {α : Type} : ∀ (ns : List Str) (vs : List α) (f : Str), (ns.zip vs).lookup f = lookF ns vs f
  | [], _, _ => rfl
  | _ :: _, [], _ => rfl
  | n :: ns, v :: vs, f => by
    rw [List.zip_cons_cons, List.lookup_cons, lookF, lookF_zip ns vs f]
    cases f == n <;> rfl
theorem lookF_rel {c : RC} {F : Hp} {ρ : Nat → Addr} {n : Nat} : ∀ {ns : List Str} {vs : List Z} {ws : List V} {f : Str} {z : Z}, Rels c F ρ n vs ws → lookF ns vs f = some z → ∃ v, lookF ns ws f = some v ∧ Rel c F ρ n z v
  | [], _, _, _, _, _, e => by cases e
  | _ :: _, [], _, _, _, _, e => by cases e
  | m :: ns, y :: vs, ws, f, z, r, e => by
    obtain ⟨v, us, rfl, r1, r2⟩ := r
    have e : (if f == m then some y else lookF ns vs f) = some z := e
    show ∃ u, (if f == m then some v else lookF ns us f) = some u ∧ _
    split at e
    · rename_i q; cases e; rw [if_pos q]; exact ⟨v, rfl, r1⟩
    · rename_i q; rw [if_neg q]; exact lookF_rel r2 e
theorem lookF_none {α β : Type} : ∀ {ns : List Str} {vs : List α} {ws : List β} {f : Str}, vs.length = ws.length → lookF ns vs f = none → lookF ns ws f = none
  | [], _, _, _, _, _ => rfl
  | _ :: _, [], [], _, _, _ => rfl
  | _ :: _, [], _ :: _, _, h, _ => by cases h
  | _ :: _, _ :: _, [], _, h, _ => by cases h
  | n :: ns, v :: vs, w :: ws, f, h, e => by
    have e : (if f == n then some v else lookF ns vs f) = none := e
    show (if f == n then some w else lookF ns ws f) = none
    split at e
    · cases e
    · rename_i q; rw [if_neg q]; exact lookF_none (Nat.succ.inj h) e
/-- what an instance is -/
def insOf (h : Hv) : Z → Option (Str × List Str × List Z)
  | .ins C ns vs => some (C, ns, vs)
  | .ref i => match h[i]? with
    | some (.ins C ns vs) => some (C, ns, vs)
    | _ => none
  | _ => none
theorem ins_rel {c : RC} {G F : Hp} {ρ : Nat → Addr} {h : Hv} {H : Hp} (w : W c G F ρ h H) {z : Z} {v : V} {C : Str} {ns : List Str} {vs : List Z} (r : Rel c F ρ h.length z v) (e : insOf h z = some (C, ns, vs)) :
    ∃ a dx ws, v = .ref a ∧ H a = some (.ins (He.ga c.K C) dx (ns.zip ws)) ∧ ns.length = ws.length ∧ Rels c F ρ h.length vs ws := by
  cases z with
  | ins C ns vs =>
    cases e
    obtain ⟨a, dx, ws, rfl, q, hl, rr⟩ := r
    exact ⟨a, dx, ws, rfl, w.sub _ _ q, hl, rr⟩
  | ref i =>
    obtain ⟨hi, rfl⟩ := r
    have e : (match h[i]? with
      | some (.ins C ns vs) => some (C, ns, vs)
      | _ => none) = some (C, ns, vs) := e
    split at e
    · rename_i q
      cases e
      obtain ⟨dx, ws, h1, h2, h3⟩ := w.obj i _ q
      exact ⟨_, dx, ws, rfl, h1, h2, h3⟩
    · cases e
  | _ => cases e
/-- o.f; cs: the classes of which this is a plain field -/
def zFld (cs : List Str) (f : Str) (m : ME) : ME := fun s h => (m s h).bind fun z h1 => match insOf h1 z with
  | some (C, ns, vs) => if cs.contains C = true then (match lookF ns vs f with
    | some y => .ok y h1
    | none => .bad) else .bad
  | none => .bad
structure PlainF (K : PySem.W.Frag) (cs : List Str) (f : Str) : Prop where
  cl : ∀ C, cs.contains C = true → Cls K (He.ga K C)
  no : ∀ C, cs.contains C = true → NoAttr K (He.ga K C) f
section
variable {X : Cx} {ce : Addr → Value → Option Addr → Prop} {E : WX} {e o : Expr} {es : List Expr} {m mo mv : ME} {t : MA} {pos p pos' apos : Pos} {f : Str} {cs : List Str}
theorem ze_fld (hf : PlainF X.K cs f) (he : ZE X ce E e m) (hb : attributeBase e f X.env (eval e X.env) = eval e X.env := by rfl) : ZE X ce E (.Attribute e f pos) (zFld cs f m) :=
  PE.weak (pe_fld he hb) fun σ H Q ⟨G, F, ρ, zs, h, w, rs, p⟩ => ⟨G, F, ρ, zs, h, w, rs, (PostG.bind (R := Rel) p).mono fun v H1 ⟨F1, ρ1, h1, z1, e1, w1, r1, p1⟩ => by
    dsimp only at p1
    split at p1
    · rename_i C ns vs q
      split at p1
      · rename_i hc
        split at p1
        · rename_i y q2
          obtain ⟨a, dx, ws, rfl, hH, hl, rr⟩ := ins_rel w1 r1 q
          obtain ⟨u, h3, h4⟩ := lookF_rel rr q2
          exact ⟨a, _, dx, _, u, rfl, hH, hf.cl C hc, hf.no C hc, by rw [lookF_zip]; exact h3, p1 _ _ _ _ .refl w1 h4⟩
        · exact False.elim p1
      · exact False.elim p1
    · exact False.elim p1⟩
/-- o.f = e (o changing) -/
def putZ (f : Str) (y : Z) : List Str → List Z → List Str × List Z
  | n :: ns, v :: vs => if f == n then (n :: ns, y :: vs) else (n :: (putZ f y ns vs).1, v :: (putZ f y ns vs).2)
  | _, _ => ([f], [y])
def zSetFld (cs : List Str) (f : Str) (mv mo : ME) : MS := fun s h => (mv s h).toS s fun y h1 => (mo s h1).toS s fun z h2 => match z with
  | .ref i => match h2[i]? with
    | some (.ins C ns vs) => if cs.contains C = true ∧ ns.length < 1000 ∧ ns.length = vs.length then .nx s (h2.set i (.ins C (putZ f y ns vs).1 (putZ f y ns vs).2)) else .bad
    | _ => .bad
  | _ => .bad
theorem putZ_rel {c : RC} {F : Hp} {ρ : Nat → Addr} {n : Nat} {f : Str} {y : Z} {u : V} (r0 : Rel c F ρ n y u) : ∀ {ns : List Str} {vs : List Z} {ws : List V}, ns.length = vs.length → Rels c F ρ n vs ws →
    ∃ us, putF f u (ns.zip ws) = (putZ f y ns vs).1.zip us ∧ (putZ f y ns vs).1.length = us.length ∧ Rels c F ρ n (putZ f y ns vs).2 us
  | [], [], ws, _, r => by
    rw [show ws = [] from r]
    exact ⟨[u], rfl, rfl, .cons r0 .nil⟩
  | [], _ :: _, _, h, _ => by cases h
  | _ :: _, [], _, h, _ => by cases h
  | m :: ns, v :: vs, ws, hl, r => by
    obtain ⟨x, us, rfl, r1, r2⟩ := r
    have l2 := r2.length
    obtain ⟨ts, q1, q2, q3⟩ := putZ_rel (f := f) r0 (ns := ns) (Nat.succ.inj hl) r2
    have hp : putF f u ((m, x) :: ns.zip us) = if m = f then (m, u) :: ns.zip us else (m, x) :: putF f u (ns.zip us) := by
      rfl
    rw [List.zip_cons_cons, hp]
    have hz : putZ f y (m :: ns) (v :: vs) = if f == m then (m :: ns, y :: vs) else (m :: (putZ f y ns vs).1, v :: (putZ f y ns vs).2) := rfl
    rw [hz]
    by_cases z : m = f
    · subst z
      have hl' : ns.length = vs.length := Nat.succ.inj hl
      simp only [beq_self_eq_true, if_true]
      exact ⟨u :: us, rfl, by simp [hl', l2], .cons r0 r2⟩
    · have z' : (f == m) = false := beq_eq_false_iff_ne.mpr (Ne.symm z)
      simp only [z', if_neg z, Bool.false_eq_true, if_false]
      exact ⟨x :: ts, by rw [q1]; rfl, by simp [q2], .cons r1 q3⟩
theorem zs_setFld (hf : PlainF X.K cs f) (he : ZE X ce E e mv) (ho : ZE X ce E o mo) (hs : swapsWith e (some (.Attribute o f pos')) pos.line X.env = pure false := by rfl) : ZS X ce E (.Assign [.Attribute o f pos'] e pos) (zSetFld cs f mv mo) :=
  PS.weak (ps_fld ho he hs) fun D σ H ⟨G, F, ρ, zs, h, w, rs, p⟩ => ⟨G, F, ρ, zs, h, w, rs, (PostS.toG (R := Rel) p rs).mono fun v H1 ⟨F1, ρ1, h1, z1, e1, w1, r1, p1⟩ =>
    ⟨G, F1, ρ1, zs, h1, w1, rs.ext e1, (PostS.toG (R := Rel) p1 (rs.ext e1)).mono fun u H2 ⟨F2, ρ2, h2, z2, e2, w2, r2, p2⟩ => by
      dsimp only at p2
      cases z2 with
      | ref i =>
        dsimp only at p2
        split at p2
        · rename_i C ns vs q
          split at p2
          · rename_i hc
            obtain ⟨hi, rfl⟩ := r2
            obtain ⟨dx, ws, k1, k2, k3⟩ := w2.obj i _ q
            obtain ⟨us, q1, q2, q3⟩ := putZ_rel (f := f) (r1.ext e2) hc.2.2 k3
            refine ⟨_, _, dx, _, rfl, k1, hf.cl C hc.1, hf.no C hc.1, by simp; omega, ?_⟩
            have e' : Ext F2 ρ2 h2.length F2 ρ2 (h2.set i (MO.ins C (putZ f z1 ns vs).1 (putZ f z1 ns vs).2)).length := by rw [List.length_set]; exact .refl
            exact p2 F2 ρ2 σ _ e' (w2.put q rfl ⟨dx, us, by rw [upd_same, q1], q2, q3⟩) (((rs.ext e1).ext e2).ext e')
          · exact False.elim p2
        · exact False.elim p2
      | _ => exact False.elim p2⟩⟩
/-! own methods -/
def zMethU (C : Str) (mt : Str) (F : List Z → Hv → Res Z) (o : ME) (t : MA) : ME := fun s h => (o s h).bind fun x h1 => match insOf h1 x with
  | some (D, ns, vs) => if D = C ∧ lookF ns vs mt = none ∧ ns.length = vs.length then (t s h1).bind fun xs h2 => F (x :: xs) h2 else .bad
  | none => .bad
variable {k n : Nat} {F : List Z → Hv → Res Z} {C mt : Str} {a : Addr}
theorem methU_rd {c : RC} {σ : L2.St} {H : Hp} {Q : VK} (hl : ∀ s h xs h1, t s h = .ok xs h1 → xs.length + 1 = n) (q : rdE c E (zMethU C mt F mo t) σ H Q) :
    rdE c E mo σ H fun x H1 => ∃ a dx fs, x = .ref a ∧ H1 a = some (.ins (He.ga c.K C) dx fs) ∧ fs.lookup mt = none ∧ rdA c E t σ H1 fun vs H2 => spZ c n F (x :: vs) H2 Q (WE E σ) := by
  obtain ⟨G, Fz, ρ, zs, h, w, rs, p⟩ := q
  refine ⟨G, Fz, ρ, zs, h, w, rs, (PostG.bind (R := Rel) p).mono fun v H1 ⟨F1, ρ1, h1, z1, e1, w1, r1, p1⟩ => ?_⟩
  dsimp only at p1
  split at p1
  · rename_i D ns vs q
    split at p1
    · rename_i hD
      obtain ⟨rfl, hm, hlen⟩ := hD
      obtain ⟨a, dx, ws, rfl, hH, hl2, rr⟩ := ins_rel w1 r1 q
      refine ⟨a, dx, _, rfl, hH, by rw [lookF_zip]; exact lookF_none rr.length hm, G, F1, ρ1, zs, h1, w1, rs.ext e1, ?_⟩
      have p2 := PostG.bind (R := Rels) p1
      dsimp only
      revert p2 p1
      cases et : t zs h1 with
      | bad => exact fun p _ => False.elim p
      | exc x h3 => exact fun p _ => p
      | ok xs h3 =>
        intro p1 p2 F4 ρ4 us H4 e4 w4 r4
        have hx := hl _ _ _ _ et
        have p1' : PostG Rel c E G F1 ρ1 h1.length σ Q (F (z1 :: xs) h3) := p1
        exact ⟨by rw [List.length_cons, ← r4.length]; exact hx, G, F4, ρ4, h3, z1 :: xs, w4, .cons (r1.ext e4) r4, (p1'.ext e4).imp (fun _ _ z => z) fun _ _ _ z => z⟩
    · exact False.elim p1
  · exact False.elim p1
theorem ze_methU {pl : Sem Bool} (Fz : FnZ X.prog X.w X.K X.mg X.base k a n F) (hr : RoomG k X.A) (c : Cls X.K (He.ga X.K C)) (hm : Meth X.K (He.ga X.K C) mt a) (tk : Takes X E) (ho : ZE X no E o mo) (ha : ZA X no E (e :: es) t) (hl : ∀ s h xs h1, t s h = .ok xs h1 → xs.length + 1 = n)
    (hst : starEach (e :: es) X.env = (false, eval e X.env) :: starEach es X.env := by rfl) (hpl : (backTo pos (starEach es X.env)).any (·.1) = false := by rfl)
    (ht : eval (.Call (.Attribute o mt apos) (e :: es) [] pos) X.env = (do
      let ov ← eval o X.env
      standAt apos.atName
      let (f, first) ← holding [ov] (getMethod ov mt pl)
      callWith pos f first (backTo pos (starEach (e :: es) X.env)) (backToKw pos (keywordEach [] X.env))) := by rfl) :
    ZE X no E (.Call (.Attribute o mt apos) (e :: es) [] pos) (zMethU C mt F mo t) := by
  obtain ⟨⟨fd, ps, hb, hn, ok⟩, kp⟩ := Fz
  refine ⟨fun pins s σ H Q I h => ?_⟩
  have h := methU_rd (c := ⟨X.K, no⟩) hl h
  refine PySem.W.methodCall_KW (pl := pl) (thn (ho.run pins s σ H _ I h) fun u s1 ⟨x, H1, I1, rx, a0, dx, fs, ex, ea, l, q⟩ => ?_) ht
  subst ex
  obtain rfl : u = Value.ref a0 := rx
  refine getmeth_ok I1 ea c hm l ?_
  refine PySem.W.callWith_K (first := [.ref a0]) (h₀ := X.base) I.ok.mod.kin hm.kp (thn (ha.run pos pins s1 σ H1 _ I1 q) fun us s2 ⟨vs, H2, I2, r, q2⟩ => ⟨I2.kIn, ?_⟩) hst hpl
  exact run_fnG (us := .ref a0 :: us) (vs := .ref a0 :: vs) (E := WE E) ok hr hb (passAt tk σ) I2 (.cons rfl r) q2
theorem ze_methU0 {pl : Sem Bool} (Fz : FnZ X.prog X.w X.K X.mg X.base k a 1 F) (hr : RoomG k X.A) (c : Cls X.K (He.ga X.K C)) (hm : Meth X.K (He.ga X.K C) mt a) (tk : Takes X E) (ho : ZE X no E o mo)
    (ht : eval (.Call (.Attribute o mt apos) [] [] pos) X.env = (do
      let ov ← eval o X.env
      standAt apos.atName
      let (f, first) ← holding [ov] (getMethod ov mt pl)
      callWith pos f first (backTo pos (starEach [] X.env)) (backToKw pos (keywordEach [] X.env))) := by rfl) :
    ZE X no E (.Call (.Attribute o mt apos) [] [] pos) (zMethU C mt F mo zNil) := by
  obtain ⟨⟨fd, ps, hb, hn, ok⟩, kp⟩ := Fz
  refine ⟨fun pins s σ H Q I h => ?_⟩
  have h := methU_rd (c := ⟨X.K, no⟩) (n := 1) (fun s h xs h1 e => by cases e; rfl) h
  refine PySem.W.methodCall_KW (pl := pl) (thn (ho.run pins s σ H _ I h) fun u s1 ⟨x, H1, I1, rx, a0, dx, fs, ex, ea, l, q⟩ => ?_) ht
  subst ex
  obtain rfl : u = Value.ref a0 := rx
  refine getmeth_ok I1 ea c hm l ?_
  obtain ⟨G, F1, ρ1, zs1, h1, w1, rs1, p1⟩ := q
  have p2 : spZ ⟨X.K, no⟩ 1 F [.ref a0] H1 Q (WE E σ) := p1 F1 ρ1 [] H1 .refl w1 rfl
  exact PySem.W.callWith_K0 (first := [.ref a0]) I1.kIn hm.kp (run_fnG (us := [.ref a0]) (vs := [.ref a0]) (E := WE E) ok hr hb (passAt tk σ) I1 (.cons rfl .nil) p2)
/-! a new instance -/
theorem run_makeS {CX : CXT} {fd : FuncData} {ps : List Str} {sp : Sp} {C f : Addr} {pins : List (Addr × Obj)} {σ : L2.St} {H : Hp} {s : Shared} {Q : VK} {us : List Value} {vs : List V} {Ex : XK} (M : Mk X.K C f) (Fn : FnOkG X.prog X.w X.K X.mg X.base CX k f fd ps sp) (hr : RoomG (k + 1) X.A)
    (hb : Binds X.K fd ps []) (hx : PassesAt CX X σ Ex) (I : Inv X pins σ H s) (r : Vals vs us)
    (h : ∀ x dx, H x = none → H dx = none → dx ≠ x → sp (.ref x :: vs) (upd (upd H dx (.own x)) x (.ins C dx [])) (fun v H2 => v = .non ∧ Q (.ref x) H2) Ex) :
    wpAny (model X.prog X.w) X.A (call (.ref C) us) (EP X pins σ Q) X.xe s := by
  have hq := h (s.heap.objs.size + 1) s.heap.objs.size (I.hok.fresh (Nat.le_succ _)) (I.hok.fresh (Nat.le_refl _)) (Nat.ne_of_lt (Nat.lt_succ_self _))
  have I2 := Inv.made (C := C) I
  have r2 : Vals (V.ref (s.heap.objs.size + 1) :: vs) (Value.ref (s.heap.objs.size + 1) :: us) := .cons rfl r
  have hl : (Value.ref (s.heap.objs.size + 1) :: us).length = ps.length := by rw [← r2.length]; exact Fn.len _ _ _ _ hq
  have bd := hb _ (Value.ref (s.heap.objs.size + 1) :: us) I2.kIn (by rw [List.append_nil]; exact hl)
  rw [List.append_nil] at bd
  refine wpAny_call (make_map (f := f) I.kIn M.makes M.init (beq_iff_eq.mp M.fn) (codeAny_mono (Fn.run _ X.stack _ _ ⟨Value.ref (s.heap.objs.size + 1) :: us, []⟩ _ _ _ Ex (hr.make C us []) (I2.env0.make C us []) bd r2 hq) fun r s' hq' => ?_))
  cases r with
  | error e => exact hx pins _ _ e s' I2 hq'
  | ok fl =>
    cases fl with
    | ret u =>
      obtain ⟨v, H', I3, rv, ev, q3⟩ := I2.after hq'
      subst ev
      exact ⟨rv, ⟨V.ref (s.heap.objs.size + 1), H', I3, rfl, q3⟩⟩
    | next => exact False.elim hq'
    | brk => exact False.elim hq'
    | cont => exact False.elim hq'
/-- fz: the new instance is never changed any more -/
def mkZ (fz : Bool) (C : Str) (F : List Z → Hv → Res Z) (xs : List Z) (h : Hv) : Res Z := match F (.ref h.length :: xs) (h ++ [.ins C [] []]) with
  | .ok .non h1 => if fz = true then (match h1[h.length]? with
    | some (.ins D ns vs) => fin h.length (.ins D ns vs) (h1.set h.length .dead)
    | _ => .bad) else .ok (.ref h.length) h1
  | .exc x h1 => finX h.length x h1
  | _ => .bad
def zMake (fz : Bool) (C : Str) (F : List Z → Hv → Res Z) (t : MA) : ME := fun s h => (t s h).bind fun xs h1 => mkZ fz C F xs h1
theorem mk_rd {c : RC} {fz : Bool} {G F1 : Hp} {ρ1 : Nat → Addr} {h1 : Hv} {H1 : Hp} {σ : L2.St} {Q : VK} {xs : List Z} {vs : List V} (w1 : W c G F1 ρ1 h1 H1) (r1 : Rels c F1 ρ1 h1.length xs vs) (hl : xs.length + 1 = n) (p1 : PostG Rel c E G F1 ρ1 h1.length σ Q (mkZ fz C F xs h1)) :
    ∀ x dx, H1 x = none → H1 dx = none → dx ≠ x → spZ c n F (.ref x :: vs) (upd (upd H1 dx (.own x)) x (.ins (He.ga c.K C) dx [])) (fun v H2 => v = .non ∧ Q (.ref x) H2) (WE E σ) := by
  intro x dx nx nd ne
  have nx' : upd H1 dx (.own x) x = none := by rw [upd_ne (Ne.symm ne)]; exact nx
  obtain ⟨ρ2, e0, w2, e2⟩ := (w1.more nd (.own x)).new nx' (o := .ins (He.ga c.K C) dx []) (m := .ins C [] []) rfl fun ρ' e => ⟨dx, [], by rw [upd_same]; rfl, rfl, rfl⟩
  refine ⟨by rw [List.length_cons, ← r1.length]; exact hl, G, F1, ρ2, _, .ref h1.length :: xs, w2, .cons ⟨by simp, by rw [e0]⟩ (r1.ext e2), ?_⟩
  unfold mkZ at p1
  revert p1
  generalize F (.ref h1.length :: xs) (h1 ++ [.ins C [] []]) = r0
  cases r0 with
  | bad => exact fun p => False.elim p
  | exc y h3 => exact fun p1 F4 ρ4 H4 cls d e4 w4 r4 => finX_ok (σ := σ) p1 (e2.trans e4) w4 r4
  | ok z h3 =>
    cases z with
    | non =>
      intro p1 F4 ρ4 v H4 e4 w4 r4
      have e24 := e2.trans e4
      have at_ : ρ4 h1.length = x := by rw [e4.2.1 _ (by simp), e0]
      refine ⟨r4, ?_⟩
      dsimp only at p1
      cases fz with
      | false =>
        rw [if_neg Bool.false_ne_true] at p1
        exact p1 F4 ρ4 _ H4 e24 w4 ⟨by have := e4.2.2; simp at this; omega, by rw [at_]⟩
      | true =>
        rw [if_pos rfl] at p1
        split at p1
        · rename_i D ns ws q
          obtain ⟨dy, us, k1, k2, k3⟩ := w4.obj _ _ q
          obtain ⟨w5, e5⟩ := w4.kill q rfl k1
          rw [at_] at k1 e5 w5
          exact fin_ok p1 (e24.trans e5) w5 ⟨x, dy, us, rfl, upd_same, k2, k3.ext e5⟩
        · exact False.elim p1
    | _ => exact fun p => False.elim p
theorem ze_make {x : Str} (fz : Bool) (M : Mk X.K (He.ga X.K x) a) (Fz : FnZ X.prog X.w X.K X.mg X.base k a n F) (hr : RoomG (k + 1) X.A) (hg : Gl X x) (hm : X.mg x = some (.ref (He.ga X.K x))) (tk : Takes X E) (ha : ZA X no E (e :: es) t) (hl : ∀ s h xs h1, t s h = .ok xs h1 → xs.length + 1 = n)
    (hdb : (x == ("__debug__" : Str)) = false := by decide) (he : starEach (e :: es) X.env = (false, eval e X.env) :: starEach es X.env := by rfl) (hpl : (backTo pos (starEach es X.env)).any (·.1) = false := by rfl) : ZE X no E (.Call (.Name x p) (e :: es) [] pos) (zMake fz x F t) := by
  obtain ⟨⟨fd, ps, hb, hn, ok⟩, kp⟩ := Fz
  refine ⟨fun pins s σ H Q I h => ?_⟩
  refine wpAny_Call_Name_kw (ld_glob I hg hm ?_ hdb)
  obtain ⟨G, Fh, ρ, zs, hh, w, rs, q⟩ := h
  have h : rdA ⟨X.K, no⟩ E t σ H fun vs H1 => ∀ y dx, H1 y = none → H1 dx = none → dx ≠ y → spZ ⟨X.K, no⟩ n F (.ref y :: vs) (upd (upd H1 dx (.own y)) y (.ins (He.ga X.K x) dx [])) (fun v H2 => v = .non ∧ Q (.ref y) H2) (WE E σ) := by
    refine ⟨G, Fh, ρ, zs, hh, w, rs, ?_⟩
    unfold zMake at q
    dsimp only
    revert q
    cases et : t zs hh with
    | bad => exact fun p => False.elim p
    | exc x h3 => exact fun p => p
    | ok xs h3 =>
      intro q F4 ρ4 us H4 e4 w4 r4
      have q' : PostG Rel ⟨X.K, no⟩ E G Fh ρ hh.length σ Q (mkZ fz x F xs h3) := q
      exact mk_rd w4 r4 (hl _ _ _ _ et) (q'.ext e4)
  refine PySem.W.callWith_K (h₀ := X.base) I.ok.mod.kin M.kp (thn (ha.run pos pins s σ H _ I h) fun us s1 ⟨vs, H1, I1, r, q⟩ => ⟨I1.kIn, ?_⟩) he hpl
  exact run_makeS M ok hr hb (passAt tk σ) I1 r q
theorem ze_make0 {x : Str} (fz : Bool) (M : Mk X.K (He.ga X.K x) a) (Fz : FnZ X.prog X.w X.K X.mg X.base k a 1 F) (hr : RoomG (k + 1) X.A) (hg : Gl X x) (hm : X.mg x = some (.ref (He.ga X.K x))) (tk : Takes X E)
    (hdb : (x == ("__debug__" : Str)) = false := by decide) : ZE X no E (.Call (.Name x p) [] [] pos) (zMake fz x F zNil) := by
  obtain ⟨⟨fd, ps, hb, hn, ok⟩, kp⟩ := Fz
  refine ⟨fun pins s σ H Q I h => ?_⟩
  refine wpAny_Call_Name_kw (ld_glob I hg hm ?_ hdb)
  obtain ⟨G, Fh, ρ, zs, hh, w, rs, q⟩ := h
  exact PySem.W.callWith_K0 I.kIn M.kp (run_makeS (us := []) (vs := []) M ok hr hb (passAt tk σ) I .nil (mk_rd (fz := fz) (xs := []) w rfl rfl q))
end
end ZL
set_option Elab.async false
set_option linter.all false
set_option maxRecDepth 100000
set_option maxHeartbeats 2000000
namespace ZL
open PySem PySem.Spec PyProof.Rows L2
/-! ### an own exception whose __init__ hands its one argument on and keeps it -/
def spInit (K : PySem.W.Frag) (C : Addr) (fld : Str) : Sp := fun vs H Q E => ∃ a y, vs = [.ref a, y] ∧ H a = some (exo a C none) ∧ ∀ d, H d = none → d ≠ a → Q .non (upd (upd H d (exd d [(fld, y)])) a (exo a C (some d)))
section
open PySem.W
variable {P : Program} {w : World} {K : PySem.W.Frag} {mg : Str → Option Value} {base : Heap}
theorem super_step {A : Around} {E : Value → Shared → Prop} {s : Shared} {body : List Stmt} {f C cc cda e t0 L : Addr} {sc : Scope} {nm qual : Str} {params : Arguments} {dV kV doc pm ct oc ccl cl u : Value} {an od cdd cld : Option Addr} {osl ccs csl : Array (Option Value)} {vs : Array Value} {file : Str} {tf : Tok} {ar : Arg} {px : Str} {m : Str → Option Value} {p0 p1 p2 p3 p4 : Pos} {Q : Value → Shared → Prop}
    (KX : K.In s.heap) (lk : K.lookup f = some ⟨oc, od, .func (fnX nm qual params body sc [("__class__", cc)] dV kV doc pm an (.ref cda) ct), osl⟩) (hcode : K.lookup cda = some ⟨ccl, cdd, .fields vs, ccs⟩) (hvs : vs[2]? = some (.str file tf))
    (hfile : ((P.main.file : Str) == file) = true) (htop : (P.main.scope.names.lookup ("super" : Str)).isSome = false) (hcell : K.lookup cc = some ⟨cl, cld, .cell (some (.ref C)), csl⟩) (T : OexC K C)
    (hsup : ks_superIn K C C "__init__" = some (some (.builtin "ValueError.__init__"))) (hop : nsIn K cStatics "thirdparty.any" = some none) (hsub : mroIn K C (.ref C) = some true) (hB : subIn K (.ref C) (.type "ValueError") = some true)
    (hsg : ∀ {Q : Value → Shared → Prop}, Q (.type "super") s → wpAny (model P w) A (loadGlobal (callEnv (fnX nm qual params body sc [("__class__", cc)] dV kV doc pm an (.ref cda) ct) L f) "super") Q E s)
    (hks : sc.names.lookup ("super" : Str) = some .globalImplicit) (hkc : sc.names.lookup ("__class__" : Str) = some .free) (hk1 : sc.names.lookup ar.arg = some .local) (hk2 : sc.names.lookup px = some .local) (hkk : sc.kind = .function)
    (hpar : (params.posonlyargs ++ params.args).head? = some ar) (hL : s.heap.Ns L m) (hm1 : m ar.arg = some (.ref e)) (hm2 : m px = some u) (hdx : (px == ("__debug__" : Str)) = false) (he : s.heap.get? e = some (PySem.HandSPX.excO C t0)) (heC : e ≠ C)
    (hc : eval (.Call (.Attribute (.Call (.Name "super" p0) [] [] p1) "__init__" p2) [.Name px p3] [] p4) (callEnv (fnX nm qual params body sc [("__class__", cc)] dV kV doc pm an (.ref cda) ct) L f) = (do
      let ov ← attributeBase (.Call (.Name "super" p0) [] [] p1) "__init__" (callEnv (fnX nm qual params body sc [("__class__", cc)] dV kV doc pm an (.ref cda) ct) L f) (eval (.Call (.Name "super" p0) [] [] p1) (callEnv (fnX nm qual params body sc [("__class__", cc)] dV kV doc pm an (.ref cda) ct) L f))
      standAt p2.atName
      let (f1, first) ← holding [ov] (getMethod ov "__init__" (pure false))
      callWith p4 f1 first (backTo p4 (starEach [.Name px p3] (callEnv (fnX nm qual params body sc [("__class__", cc)] dV kV doc pm an (.ref cda) ct) L f))) []))
    (h : ∀ h1 t1 tk, (∀ b o, b ≠ e → s.heap.get? b = some o → h1.get? b = some o) → h1.get? e = some (PySem.HandSPX.excO C t1) → Q .none { s with heap := h1, toks := tk }) :
    _root_.PySem.wpAt (model P w) A (.func body (callEnv (fnX nm qual params body sc [("__class__", cc)] dV kV doc pm an (.ref cda) ct) L f))
      (eval (.Call (.Attribute (.Call (.Name "super" p0) [] [] p1) "__init__" p2) [.Name px p3] [] p4) (callEnv (fnX nm qual params body sc [("__class__", cc)] dV kV doc pm an (.ref cda) ct) L f)) Q E s := by
  obtain ⟨cnm, q, N, bs, bm, sn, sub, ab, col, dd, k0, k1, k2, k3, k5, hC, hbm⟩ := T.cls
  have hcl : clsIn K C = some { name := cnm, bases := bs, mro := .ref C :: bm, ns := N, qualname := q, hasDict := true, slotNames := sn, subclasses := sub, abstract := ab, collection := col, hasDel := false } := by unfold clsIn; rw [hC] <;> rfl
  have hsup2 : alongIn K "__init__" (((.ref C :: bm).dropWhile (· != .ref C)).drop 1) = some (some (.builtin "ValueError.__init__")) := by
    unfold ks_superIn at hsup
    rw [hcl] at hsup
    exact hsup
  obtain ⟨hh, g, d, tk, os⟩ := s
  refine ks_wpAt_MethodCall (pl := pure false) ?_ hc
  refine ks_wpAt_super_base (env := callEnv (fnX nm qual params body sc [("__class__", cc)] dV kV doc pm an (.ref cda) ct) L f) hks hkc rfl rfl (KX _ _ lk) rfl hpar rfl (KX _ _ hcode) rfl hvs hfile htop ?_
  refine ks_loadName_global hkk hks (hsg ⟨rfl, ?_⟩)
  refine wpAny_loadName_free hkk hkc rfl ⟨_, KX _ _ hcell, rfl⟩ ?_
  refine wpAny_loadName_local hkk hk1 hL hm1 ?_
  have hC1 := KX _ _ hC
  refine ks_wpAny_isType_cls hC1 rfl ⟨rfl, ?_⟩
  refine ks_wpAny_call_super hC1 rfl he rfl (fun c z => by cases z) (looks_mroIn KX hsub) (fun h1 e1 k1' => ?_)
  have K1 : K.In h1 := KX.keeps k1'
  have he1 := k1' _ _ he
  have I1 : InstAt h1 e (PySem.HandSPX.excO C t0) C none := ⟨he1, rfl, rfl, trivial⟩
  refine kxs_getMethod kxs_ValueError e1 (looks_opaque K1 hop) (l₀ := .ref C :: bm) ?_ rfl K1 hsup2 (I1.type.andThen (looks_subIn K1 hB)) heC rfl ?_
  · exact fun A Q E s k q => wpAny_bind ((looks_clsIn K1 hcl) A _ E s k (wpAny_pure q))
  have hmw : (h1.push (kxs_mw "ValueError.__init__" e)).get? h1.objs.size = some (kxs_mw "ValueError.__init__" e) := Heap.get?_push_size _ rfl
  show wpAny _ _ (callWith p4 (.ref h1.objs.size) [] (backTo p4 (starEach [.Name px p3] (callEnv (fnX nm qual params body sc [("__class__", cc)] dV kV doc pm an (.ref cda) ct) L f))) []) Q E _
  have k2' : ∀ b o, hh.get? b = some o → (h1.push (kxs_mw "ValueError.__init__" e)).get? b = some o := fun b o q => Heap.get?_push_of_some _ (k1' _ _ q)
  have hL2 : (h1.push (kxs_mw "ValueError.__init__" e)).Ns L m := hL.keeps k2'
  refine kxs_callWith (i := "ValueError.__init__") (x := e) rfl (PySem.Calls.evalArgs_plain (PySem.Calls.spliced_cons (x := eval (.Name px p3) (callEnv (fnX nm qual params body sc [("__class__", cc)] dV kV doc pm an (.ref cda) ct) L f)) ?_))
  refine wpAny_Name (wpAny_loadName_local hkk hk2 hL2 hm2 ?_) hdx
  refine PySem.Calls.spliced_nil ⟨hmw, ?_⟩
  refine wpAny_call (codeAny_of_tree ?_)
  show wpAny _ A.in1 (callAny (.ref h1.objs.size) ⟨[u], []⟩) _ _ _
  simp only [callAny]
  refine wpAny_bind (wpAny_load hmw ?_)
  simp only [kxs_mw, show (Value.type "method-wrapper" == Value.type "method" || Value.type "method-wrapper" == Value.type "builtin_function_or_method" || Value.type "method-wrapper" == Value.type "method-wrapper") = true by decide, if_true]
  refine PySem.W.KFB.if_so (by decide) ?_
  have hC2 := k2' _ _ hC1
  refine wpAny_bind (check_bound_init F.excBase_ValueError.toExcCallFacts hC2 (k2' _ _ he) rfl ?_)
  refine wpAny_bind (wpAny_pure (wpAny_pure ?_))
  refine ⟨plainId_quiet F.excBase_ValueError.init.plain _, codeAny_builtin F.excBase_ValueError.initEntry ?_⟩
  refine exc_init_tree (cls := .ref C) (t0 := t0) (dv := none) (c2 := .none) (c3 := .none) (b4 := .bool false) (k2' _ _ he) (by rw [List.length_cons, List.length_nil, sizeLine_eq]; omega) fun h3 k3 e3 t3 => ?_
  exact h h3 _ _ (fun b o hb q => k3 b o hb (k2' _ _ q)) e3
/-- what is to be known of such a def: f its address, C its class -/
structure InitK (P : Program) (K : PySem.W.Frag) (C f : Addr) (fld px : Str) (fd : FuncData) : Prop where
  T : OexC K C
  sup : ks_superIn K C C "__init__" = some (some (.builtin "ValueError.__init__"))
  op : nsIn K cStatics "thirdparty.any" = some none
  sub : mroIn K C (.ref C) = some true
  B : subIn K (.ref C) (.type "ValueError") = some true
  no : findIn K (.ref C) fld = some none
  sg : nsIn K mainGlobals "super" = some none
  top : (P.main.scope.names.lookup ("super" : Str)).isSome = false
  ex : ∃ (oc ccl cl : Value) (od cdd cld : Option Addr) (osl csl ccs : Array (Option Value)) (vs : Array Value) (file : Str) (tf : Tok) (cc cda : Addr) (ar : Arg) (nm qual : Str) (params : Arguments) (sc : Scope) (dV kV doc pm ct : Value) (an : Option Addr) (p0 p1 p2 p3 p4 p5 p6 p7 p8 p9 : Pos),
    fd = fnX nm qual params [.Expr (.Call (.Attribute (.Call (.Name "super" p0) [] [] p1) "__init__" p2) [.Name px p3] [] p4) p5, .Assign [.Attribute (.Name ar.arg p6) fld p7] (.Name px p8) p9] sc [("__class__", cc)] dV kV doc pm an (.ref cda) ct ∧
    K.lookup f = some ⟨oc, od, .func fd, osl⟩ ∧ codeIn K (.ref cda) qual = true ∧ K.lookup cda = some ⟨ccl, cdd, .fields vs, ccs⟩ ∧ vs[2]? = some (.str file tf) ∧ ((P.main.file : Str) == file) = true ∧ K.lookup cc = some ⟨cl, cld, .cell (some (.ref C)), csl⟩ ∧
    sc.names.lookup ("super" : Str) = some .globalImplicit ∧ sc.names.lookup ("__class__" : Str) = some .free ∧ sc.names.lookup ar.arg = some .local ∧ sc.names.lookup px = some .local ∧ sc.kind = .function ∧ sc.isCoroutine = false ∧ sc.isGenerator = false ∧ (∀ x ∈ sc.names, x.2 ≠ .cell) ∧
    (params.posonlyargs ++ params.args).head? = some ar ∧ ar.arg ≠ px ∧ (ar.arg == ("__debug__" : Str)) = false ∧ (px == ("__debug__" : Str)) = false ∧ (∀ us : List Value, us.length = 2 → bindArgs fd ⟨us, []⟩ = pure ([ar.arg, px].zip us)) ∧
    (∀ L, interactive (callEnv fd L f) = false) ∧ (∀ L, swapsWith (.Call (.Attribute (.Call (.Name "super" p0) [] [] p1) "__init__" p2) [.Name px p3] [] p4) none p5.line (callEnv fd L f) = pure false) ∧
    (∀ L, swapsWith (.Name px p8) (some (.Attribute (.Name ar.arg p6) fld p7)) p9.line (callEnv fd L f) = pure false) ∧
    ∀ L, eval (.Call (.Attribute (.Call (.Name "super" p0) [] [] p1) "__init__" p2) [.Name px p3] [] p4) (callEnv fd L f) = (do
      let ov ← attributeBase (.Call (.Name "super" p0) [] [] p1) "__init__" (callEnv fd L f) (eval (.Call (.Name "super" p0) [] [] p1) (callEnv fd L f))
      standAt p2.atName
      let (f1, first) ← holding [ov] (getMethod ov "__init__" (pure false))
      callWith p4 f1 first (backTo p4 (starEach [.Name px p3] (callEnv fd L f))) [])
theorem InitK.binds {C f : Addr} {fld px : Str} {fd : FuncData} (I : InitK P K C f fld px fd) : ∃ slf : Str, Binds K fd [slf, px] [] := by
  obtain ⟨oc, ccl, cl, od, cdd, cld, osl, csl, ccs, vs, file, tf, cc, cda, ar, nm, qual, params, sc, dV, kV, doc, pm, ct, an, p0, p1, p2, p3, p4, p5, p6, p7, p8, p9, e, r⟩ := I.ex
  exact ⟨ar.arg, .all r.2.2.2.2.2.2.2.2.2.2.2.2.2.2.2.2.2.2.1⟩
theorem init_ok {CX : CXT} {C f : Addr} {fld px : Str} {fd : FuncData} (I : InitK P K C f fld px fd) : ∃ slf : Str, Binds K fd [slf, px] [] ∧ FnOk P w K mg base CX 1 f fd [slf, px] (spInit K C fld) := by
  obtain ⟨oc, ccl, cl, od, cdd, cld, osl, csl, ccs, vs, file, tf, cc, cda, ar, nm, qual, params, sc, dV, kV, doc, pm, ct, an, p0, p1, p2, p3, p4, p5, p6, p7, p8, p9, rfl, lk, hcd, hcode, hvs, hfile, hcell, hks, hkc, hk1, hk2, hkk, hco, hgen, hnc, hpar, hne, hd1, hd2, hb, hi, hs1, hs2, hev⟩ := I.ex
  refine ⟨ar.arg, .all hb, ⟨fun vs H Q E ⟨a, y, e, _⟩ => by rw [e]; rfl, fun A outer s H args us vs' Q E hr e0 hbd r hsp => ?_⟩⟩
  obtain ⟨a, y, rfl, ha, hq⟩ := hsp
  obtain ⟨cnm, q, N, bs, bm, sn, sub, ab, col, dd, k0, k1, k2, k3, k5, hC, hbm⟩ := I.T.cls
  have hcl : clsIn K C = some { name := cnm, bases := bs, mro := .ref C :: bm, ns := N, qualname := q, hasDict := true, slotNames := sn, subclasses := sub, abstract := ab, collection := col, hasDel := false } := by unfold clsIn; rw [hC] <;> rfl
  cases r with
  | @cons _ u0 _ ur ra rw' =>
  obtain rfl : u0 = Value.ref a := ra
  cases rw' with
  | @cons _ u _ ur2 ry rw2 =>
  cases rw2
  obtain ⟨t0, hoe⟩ := exo_at e0.hok ha
  have KX : K.In s.heap := e0.mod.kin.keeps fun b o e => (e0.bs b o e).1
  have lim : s.heap.NoLimit := e0.mod.nolimit.keeps fun b o e => (e0.bs b o e).1
  have haC : a ≠ C := fun z => by
    have := KX _ _ hC
    rw [← z, hoe] at this
    cases this
  refine ks_codeAny_call_defAt hr.depth (KX _ _ lk) rfl lim (codeRec_of KX hcd) rfl hbd hnc ?_ (fun h₀ hns hk => ?_) hco hgen hkk
  · intro x hx
    have hx : x ∈ [(ar.arg, Value.ref a), (px, u)] := hx
    simp only [List.mem_cons, List.not_mem_nil, or_false] at hx
    rcases hx with rfl | rfl
    · exact hk1
    · exact hk2
  have K0 : K.In h₀ := KX.keeps hk
  have hm1 : ([ar.arg, px].zip [Value.ref a, u]).reverse.lookup ar.arg = some (.ref a) := by
    show ([(px, u), (ar.arg, Value.ref a)] : List (Str × Value)).lookup ar.arg = _
    have z : (ar.arg == px) = false := beq_eq_false_iff_ne.mpr hne
    simp [List.lookup, z]
  have hm2 : ([ar.arg, px].zip [Value.ref a, u]).reverse.lookup px = some u := by
    show ([(px, u), (ar.arg, Value.ref a)] : List (Str × Value)).lookup px = _
    simp [List.lookup]
  refine ks_wpAt_execs_cons (ks_wpAt_Expr_any ?_ (hi _) (hs1 _))
  refine super_step (m := fun x => ([ar.arg, px].zip [Value.ref a, u]).reverse.lookup x) K0 lk hcode hvs hfile I.top hcell I.T I.sup I.op I.sub I.B (fun {Q} q => ?_) hks hkc hk1 hk2 hkk hpar hns hm1 hm2 hd2 (hk _ _ hoe) haC (hev _) fun h1 t1 tk k1' he1 => ?_
  · obtain ⟨mb, b1, b2⟩ := e0.mod.blt
    have kb : ∀ b o, base.get? b = some o → h₀.get? b = some o := fun b o e => hk _ _ (e0.bs b o e).1
    exact PySem.Calls.loadGlobal_builtin (e0.mod.glob.keeps kb) (mg_none_of e0.mod.kin e0.mod.glob I.sg) (b1.keeps kb) ((b2 _ (by decide)).trans (by kernel_rfl)) q
  refine ks_wpAt_execs_cons (wpAt_of_wpAny (plainObj_wpAny_Assign_Attribute ?_ (hs2 _)))
  have hLa : s.heap.objs.size ≠ a := fun z => by
    have := Heap.lt_size hoe
    rw [← z] at this
    exact Nat.lt_irrefl _ this
  have hns1 : h1.Ns s.heap.objs.size (fun x => ([ar.arg, px].zip [Value.ref a, u]).reverse.lookup x) := by
    obtain ⟨o, es, ep, e1, r⟩ := hns
    exact ⟨o, es, ep, k1' _ _ hLa e1, r⟩
  refine wpAny_Name (wpAny_loadName_local hkk hk2 hns1 hm2 ?_) hd2
  refine wpAny_Name (wpAny_loadName_local hkk hk1 hns1 hm1 ?_) hd1
  have K1 : K.In h1 := fun b o e => k1' b o (fun z => by
    have q := (e0.bs b o (e0.mod.kin _ _ e)).2
    rw [z, ha] at q
    cases q) (K0 _ _ e)
  refine set_plain K1 (ox := { cls := .ref C, dict := none, data := .fields #[.ref t1, .none, .none, .none, .bool false, .none] }) (od := none) ⟨he1, rfl, rfl, trivial⟩ I.T.sa ?_
  refine PySem.HandSPX.exc_osa K1 he1 hcl (show PySem.HandSPX.refsVE (.ref C :: bm) = true from hbm) rfl I.no (fun h2 tk' dx k dn dne hx hn => ?_)
  refine wpAt_of_wpAny (wpAny_pure ?_)
  have keep : ∀ b o, b ≠ a → s.heap.get? b = some o → h2.get? b = some o := fun b o hb e => k b o hb (k1' b o hb (hk b o e))
  have hsz : s.heap.objs.size ≤ dx := by
    obtain ⟨o, es, ep, e1, _⟩ := hns1
    exact Nat.le_trans (Nat.le_of_lt (Heap.lt_size e1)) dn
  have hnd : H dx = none := e0.hok.fresh hsz
  have nd : ∀ {b : Addr} {o : Obj}, s.heap.get? b = some o → b ≠ dx := fun {b o} q => Nat.ne_of_lt (Nat.lt_of_lt_of_le (Heap.lt_size q) hsz)
  have na : ∀ {b : Addr}, H b = none → b ≠ a := fun {b} n z => by
    rw [z, ha] at n
    cases n
  refine ⟨.non, _, rfl, e0.bare, ?_, ?_, rfl, hq dx hnd dne⟩
  · exact {
      keep := fun b o q n _ _ => keep b o (na n) q
      slot := fun b o q n _ _ => ⟨o.slots, keep b o (na n) q⟩
      free := fun b o q n _ => by rw [upd_ne (na n), upd_ne (nd q)]; exact n
      there := fun b o q _ => by
        by_cases hb : b = a
        · exact ⟨_, by rw [hb]; exact hx⟩
        · exact ⟨o, keep b o hb q⟩
      tups := fun b xs q => by rw [upd_ne (at_ne ha q exo_tup), upd_ne (ne_of_none q hnd)]; exact q
      frzs := fun b o v q => by rw [upd_ne (at_ne ha q exo_frz), upd_ne (ne_of_none q hnd)]; exact q
      tbls := fun b ps q => ⟨#[], by rw [upd_ne (at_ne ha q exo_tbl), upd_ne (ne_of_none q hnd), q]; simp⟩ }
  · intro b o q
    by_cases hb : b = a
    · subst hb
      rw [upd_same] at q
      cases q
      exact exo_ok hx
    · rw [upd_ne hb] at q
      by_cases hd : b = dx
      · subst hd
        rw [upd_same] at q
        cases q
        exact exd_ok hn (relO_put (fs := []) ry fun g => True.intro)
      · rw [upd_ne hd] at q
        exact (e0.hok b o q).stay (fun c v hc z => keep c v (by
            rcases hc with hc | hc
            · rw [hc]
              exact hb
            · exact at_ne ha hc exo_own) z)
          (fun c hc => by rw [upd_ne (at_ne ha hc exo_own), upd_ne (ne_of_none hc hnd)]; exact hc) (fun c xs hc => by rw [upd_ne (at_ne ha hc exo_tup), upd_ne (ne_of_none hc hnd)]; exact hc)
end
end ZL
set_option Elab.async false
set_option linter.all false
set_option maxRecDepth 100000
set_option maxHeartbeats 4000000
namespace ZL
open PySem PySem.Spec PyProof.Rows L2
/-! ### the class of a caught error, with a dict or without -/
section
open PySem.W PySem.Calls
variable {prog : Program} {w : World} {A : Around} {E : Value → Shared → Prop} {s : Shared} {K : Frag} {x D : Addr} {ox : Obj} {od : Option Obj}
theorem findObj_dataX {C : Addr} {name : Str} {a g : Value} (hc : (clsIn K C).isSome = true) (ha : findIn K (.ref C) name = some (some a)) (hg : specialIn K a "__get__" = some (some g)) (ht : takesIn K a = some true) : findObj K C od name = some (.bind g a) := by
  obtain ⟨cd, hc⟩ := Option.isSome_iff_exists.mp hc
  unfold findObj
  rw [hc, Option.bind_some, ha, Option.bind_some]
  simp [hg, ht]
theorem kin_classX {Q : Option Value → Shared → Prop} (T : ExcC K D) (X : K.In s.heap) (I : InstAt s.heap x ox D od) (h : Q (some (.ref D)) { s with toks := s.toks + 1 }) : wpAny (model prog w) A (getAttr? (.ref x) "__class__") Q E s := by
  have hf : findObj K D od "__class__" = some (.bind (.builtin "getset_descriptor.__get__") (.builtin "object.__class__")) := findObj_dataX (by obtain ⟨cd, hc, _⟩ := any_some T.hd; rw [hc]; rfl) T.ha T.hn T.ht
  obtain ⟨hp, g, d, t, os⟩ := s
  have L0 := I.type (M := model prog w)
  have L1 := looks_findIn (M := model prog w) X T.hg
  have L2 := looks_findIn (M := model prog w) X T.hk
  have L3 := looks_find (M := model prog w) X I hf
  have sub : Looks (model prog w) hp (isInstance (.ref x) (.type "BaseException")) true := L0.andThen (looks_subIn X T.hs)
  have y0 : (false && onTheHeap (Value.builtin "BaseException.__getattribute__")) = false := rfl
  have y2 : (Value.builtin "BaseException.__getattribute__" == Value.builtin "object.__getattribute__") = false := by decide +kernel
  have y1 : (onTheHeap (Value.ref D) && Value.builtin "BaseException.__getattribute__" == Value.builtin "object.__getattribute__") = false := by rw [y2]; rfl
  unfold getAttr? getAttrBy? getAttrBy
  refine wpAny_bind (wpAny_mkText (wpAny_bind (wpAny_attempt (wpAny_holding (wpAny_bind (L0.at (wpAny_bind (L1.at ?_))))))))
  show wpAny _ _ (if (onTheHeap (Value.ref D) && Value.builtin "BaseException.__getattribute__" == Value.builtin "object.__getattribute__") = true then _ else _) _ _ _
  rw [y1, if_neg Bool.false_ne_true]
  unfold getAttrByItsOwn hookBefore
  refine wpAny_bind ?_
  rw [if_pos (show onTheHeap (Value.ref D) = true from rfl)]
  refine L2.at ?_
  refine wpAny_bind (wpAny_attempt (wpAny_holding ?_))
  unfold callGetattribute
  rw [y0, if_neg Bool.false_ne_true]
  unfold boundAndCalled
  rw [PySem.F.excAttr_ValueError.ga.bind (.ref x)]
  refine wpAny_bind (wpAny_pure ?_)
  show wpAny _ _ (call (.builtin "BaseException.__getattribute__") [.ref x, .str "__class__" t]) _ _ _
  refine wpAny_call (codeAny_call_builtin PySem.F.excAttr_ValueError.ga.plain PySem.F.entry_bexc_ga ?_)
  refine @check_slot (model prog w) _ _ ⟨hp, g, d, t + 1, os⟩ "BaseException.__getattribute__" "BaseException" "__getattribute__" (.ref x) [.str "__class__" t] [] _ (by decide +kernel) (by decide +kernel) sub (PySem.F.args_bexc_ga (.ref x) (.str "__class__" t)) ?_
  unfold Builtin.«object.__getattribute__»
  refine wpAny_bind (wpAny_of_eq (a := ((Value.ref x : Value), [Value.str "__class__" t])) (by first | rfl | (simp only [slotArgs]; rfl)) ?_)
  refine wpAny_bind (wpAny_pure (wpAny_bind (L0.at (wpAny_bind (L3.at ?_)))))
  show wpAny _ _ (holding [Value.builtin "object.__class__"] (call (.builtin "getset_descriptor.__get__") [.builtin "object.__class__", .ref x, .ref D]) >>= ret) _ _ _
  refine wpAny_bind (wpAny_holding (wpAny_call (class_get (s := ⟨hp, g, d, t + 1, os⟩) (ox := ox) (od := od) X I T.hm ?_)))
  refine wpAny_pure ?_
  show wpAny _ _ (handedOut (.ref D)) _ _ _
  rw [handedOut_of (v := .ref D) rfl]
  first
    | exact wpAny_pure (wpAny_pure h)
    | exact wpAny_pure h
    | exact wpAny_pure (wpAny_bind (wpAny_pure (wpAny_pure h)))
theorem kitX_exc (T : ExcC K D) : KitX K (.ref x) (.ref D) (fun h => InstAt h x ox D od) := by
  obtain ⟨cdD, hcD, _⟩ := any_some T.hd
  unfold clsIn at hcD
  split at hcD
  · rename_i c' d' cd' sl' ho
    exact {
      ty := fun _ _ _ I => I.type
      it := fun _ _ X _ => by
        intro A' Q' E' s' k q
        unfold isType loadHead
        exact wpAny_bind (wpAny_loadPart (k _ _ (X _ _ ho)) (wpAny_pure q))
      ne := fun h tp dd its n sl X htp => by
        refine Bool.eq_false_iff.mpr fun q => ?_
        have e : D = tp := Value.ref.inj (beq_iff_eq.mp q)
        subst e
        have z := (X _ _ ho).symm.trans htp
        cases z
      ca := fun X I k => kin_classX T X I k }
  · cases hcD
end
/-- the exceptions that are told of stand there -/
def Pinned (X : Cx) (ce : Addr → Value → Option Addr → Prop) : Prop := ∀ a cls d, ce a cls d → ∀ pins σ H s, Inv X pins σ H s → ∃ oe vs, s.heap.get? a = some oe ∧ oe.cls = cls ∧ oe.dict = d ∧ oe.data = .fields vs
theorem pinned_no {X : Cx} : Pinned X no := fun _ _ _ h => h.elim
abbrev ceOf (a : Addr) (cls : Value) (d : Option Addr) : Addr → Value → Option Addr → Prop := fun a' cls' d' => a' = a ∧ cls' = cls ∧ d' = d
theorem pinned_suite {X : Cx} {a : Addr} {oe : Obj} {cls : Value} {d : Option Addr} {pn : List (Addr × Obj)} (hz : Zc cls d oe) (hf : ∃ vs, oe.data = .fields vs) : Pinned (X.suite a ((a, oe) :: pn)) (ceOf a cls d) := fun a' cls' d' ⟨e1, e2, e3⟩ pins σ H s I => by
  subst e1 e2 e3
  obtain ⟨hget, _⟩ := I.pin (a', oe) (List.mem_append.mpr (.inl List.mem_cons_self))
  obtain ⟨vs, hv⟩ := hf
  exact ⟨oe, vs, hget, hz.1, hz.2, hv⟩
section
variable {X : Cx} {ce : Addr → Value → Option Addr → Prop} {E : WX}
/-- its dict stands -/
theorem exc_inst {c : RC} {G F : Hp} {ρ : Nat → Addr} {h : Hv} {H : Hp} {pins : List (Addr × Obj)} {σ : L2.St} {s : Shared} {a D : Addr} {d : Option Addr} {ns : List Str} {vs : List Z} (hp : Pinned X ce) (w : W ⟨X.K, ce⟩ G F ρ h H) (I : Inv X pins σ H s) (hc : ce a (.ref D) d)
    (q : (d = none ∧ ns = []) ∨ ∃ dx ws, d = some dx ∧ F dx = some (.xd (ns.zip ws)) ∧ ns.length = ws.length ∧ Rels ⟨X.K, ce⟩ F ρ h.length vs ws) : ∃ ox od, PySem.W.InstAt s.heap a ox D od := by
  obtain ⟨oe, us, e1, e2, e3, e4⟩ := hp _ _ _ hc pins σ H s I
  obtain ⟨oc, odd, oda, osl⟩ := oe
  dsimp only at e2 e3 e4
  subst e2 e3 e4
  rcases q with ⟨rfl, _⟩ | ⟨dx, ws, rfl, q1, _⟩
  · exact ⟨_, none, e1, rfl, rfl, trivial⟩
  · have hx : ObjOk X.prog X.w H s.heap dx (.xd (ns.zip ws)) := I.hok dx _ (w.sub _ _ q1)
    obtain ⟨mA, hns, hr⟩ := hx
    obtain ⟨od, ho, _⟩ := lookIn_ns hns
    exact ⟨_, some od, e1, rfl, rfl, ho⟩
def tyOfX (es : List Str) : Z → Option Ty
  | .exc C _ _ => if es.contains C = true then some (.inr C) else none
  | _ => none
def isiX (ks : Kits) (ps es : List Str) (h : Hv) : List Z → Option Out
  | [.exc C ns vs, c] => match tyOfX es (.exc C ns vs), clOf c with
    | some t, some u => (kitZ ks t u).map fun b => .val (.bl b)
    | _, _ => none
  | zs => isiG ks ps h zs
theorem cz_isiX {ks : Kits} {ps es : List Str} (hp : Pinned X ce) (hk : KitsOk X.K ks) (hi : ∀ C, ps.contains C = true → InsOk X.K (He.ga X.K C)) (he : ∀ C, es.contains C = true → ExcC X.K (He.ga X.K C)) : CallR X (.builtin "isinstance") (rdCall ⟨X.K, ce⟩ (isiX ks ps es)) := by
  intro pins s σ H xs us Q I r ⟨G, F, ρ, h, zs, o, w, rr, e, q⟩
  unfold isiX at e
  split at e
  · rename_i C ns vs cz
    obtain ⟨v1, us1, rfl, r1, v2, us2, rfl, r2, r3⟩ := rr
    cases (show us2 = [] from r3)
    unfold tyOfX at e
    dsimp only at e
    split at e
    · rename_i t u q1 q2
      split at q1
      · rename_i hes
        cases q1
        obtain ⟨a, d, rfl, hc, hd⟩ := r1
        cases e3 : kitZ ks (.inr C) u with
        | none => rw [e3] at e; cases e
        | some b =>
          rw [e3] at e
          cases e
          cases r with
          | cons rx rr =>
            cases rr with
            | cons rt rr =>
              cases rr
              cases rx
              have ec := (clOf_rel (c := ⟨X.K, ce⟩) r2 q2).eq rt
              subst ec
              obtain ⟨ox, od, J⟩ := exc_inst (c := ⟨X.K, ce⟩) hp w I hc hd
              exact PySem.W.kia_one (kitX_exc (he C hes)) I.kIn J (hk _ _ _ e3) (fun z => nomatch z) fun tk => ⟨.bl b, H, I.kept (t' := tk) fun _ _ z => z, rfl, q _ rfl⟩
      · cases q1
    · cases e
  · exact cz_isi hk hi pins s σ H xs us Q I r ⟨G, F, ρ, h, zs, o, w, rr, e, q⟩
/-! error.f -/
def zExF (cs : List Str) (f : Str) (m : ME) : ME := fun s h => (m s h).bind fun z h1 => match z with
  | .exc C ns vs => if cs.contains C = true then (match lookF ns vs f with
    | some y => .ok y h1
    | none => .bad) else .bad
  | _ => .bad
theorem rels_lookF {c : RC} {F : Hp} {ρ : Nat → Addr} {n : Nat} {f : Str} {z : Z} : ∀ {ns : List Str} {vs : List Z} {ws : List V}, ns.length = ws.length → Rels c F ρ n vs ws → lookF ns vs f = some z → ∃ v, (ns.zip ws).lookup f = some v ∧ Rel c F ρ n z v
  | [], _, _, _, _, h => by cases h
  | m :: ns, [], _, _, _, h => by cases h
  | m :: ns, v :: vs, ws, hl, r, h => by
    obtain ⟨u, us, rfl, r1, r2⟩ := r
    have h : (if f == m then some v else lookF ns vs f) = some z := h
    show ∃ v, ((m, u) :: ns.zip us).lookup f = some v ∧ _
    by_cases q : (f == m) = true
    · rw [if_pos q] at h
      cases h
      exact ⟨u, by simp [List.lookup, q], r1⟩
    · rw [if_neg q] at h
      obtain ⟨w, q1, q2⟩ := rels_lookF (Nat.succ.inj hl) r2 h
      exact ⟨w, by simp [List.lookup, Bool.eq_false_iff.mpr q, q1], q2⟩
theorem ze_exf {cs : List Str} {f : Str} {e : Expr} {m : ME} {pos : Pos} (hp : Pinned X ce) (hT : ∀ C, cs.contains C = true → XfC X.K (He.ga X.K C) ∧ PySem.W.findIn X.K (.ref (He.ga X.K C)) f = some none) (he : ZE X ce E e m)
    (hb : attributeBase e f X.env (eval e X.env) = eval e X.env := by rfl) : ZE X ce E (.Attribute e f pos) (zExF cs f m) := by
  refine ⟨fun pins s σ H Q I ⟨G, F, ρ, zs, h, w, rs, p⟩ => ?_⟩
  refine attr_of hb (thn (he.run pins s σ H _ I ⟨G, F, ρ, zs, h, w, rs, PostG.bind (R := Rel) p⟩) fun u s1 ⟨v, H1, I1, rx, F1, ρ1, h1, z1, e1, w1, r1, p1⟩ => ?_)
  dsimp only at p1
  split at p1
  · rename_i C ns vs
    split at p1
    · rename_i hc
      split at p1
      · rename_i y hl
        obtain ⟨a, d, rfl, k1, k2⟩ := r1
        obtain rfl : u = Value.ref a := rx
        obtain ⟨T, hno⟩ := hT C hc
        obtain ⟨oe, us, o1, o2, o3, o4⟩ := hp _ _ _ k1 pins σ H1 s1 I1
        rcases k2 with ⟨rfl, rfl⟩ | ⟨dx, ws, rfl, q1, q2, q3⟩
        · cases hl
        · have hx : ObjOk X.prog X.w H1 s1.heap dx (.xd (ns.zip ws)) := I1.hok dx _ (w1.sub _ _ q1)
          obtain ⟨mA, hns, hr⟩ := hx
          obtain ⟨od, ho, hlk⟩ := lookIn_ns hns
          obtain ⟨v, l, rv⟩ := rels_lookF q2 q3 hl
          obtain ⟨u, hu, ru⟩ := RelO.some_of (v := v) (o := mA f) (by rw [← l]; exact hr f)
          obtain ⟨oc, odd, oda, osl⟩ := oe
          dsimp only at o2 o3 o4
          subst o2 o3 o4
          have J : PySem.W.InstAt s1.heap a _ (He.ga X.K C) (some od) := ⟨o1, rfl, rfl, ho⟩
          exact HandSPX.exc_get I1.kIn J T.ga T.gg T.exC (PySem.W.findObj_own T.hdC hno rfl (by rw [hlk, hu])) (handed_of ru) ⟨v, H1, I1.tok _, ru, p1 _ _ _ _ .refl w1 rv⟩
      · exact False.elim p1
    · exact False.elim p1
  · exact False.elim p1
end
end ZL
set_option Elab.async false
set_option linter.all false
set_option maxRecDepth 100000
set_option maxHeartbeats 4000000
namespace ZL
open PySem PySem.Spec PyProof.Rows L2
/-! ### raise -/
def zRaise0 (C : Str) : MS := fun s h => .exc ⟨C, [], []⟩ s h
def zRaise1 (C fld : Str) (t : MA) : MS := fun s h => (t s h).toS s fun zs h1 => match zs with
  | [y] => .exc ⟨C, [fld], [y]⟩ s h1
  | _ => .bad
section
variable {X : Cx} {ce : Addr → Value → Option Addr → Prop} {E : WX}
theorem pmk_own0 {x : Str} {C : Addr} {bmB : List Value} {B newId initId : String} {p pos : Pos} (F : ExcBaseFacts B newId initId bmB) (q : PySem.W.excIn X.K C bmB newId = true) (gC : X.mg x = some (.ref C)) (kC : PySem.W.keepIn X.K (.ref C) = true) (r : Raises X (.ref C)) (hg : Gl X x)
    (hdb : (x == ("__debug__" : Str)) = false := by decide) : PMk X (.Call (.Name x p) [] [] pos) (fun _ H Q => Q (.ref C) none H) := by
  intro pins s σ H Q I h
  refine wpAny_Call_Name_kw (ld_glob I hg gC ?_ hdb)
  refine PySem.W.callWith_K0 I.kIn kC ?_
  show wpAny _ _ (call (.ref C) []) _ _ _
  obtain ⟨bm, N, nm, qn, bs, hdct, sn, sub, ab, col, dd, k0, k1, k2, k3, k5, mN, hC, hN, hni, T⟩ := exc_obj I.kIn q
  refine wpAny_call_exc_subT F T hC hN hni (fun h' e hm => ?_) (by show 0 ≤ sizeLine; exact Nat.zero_le _)
  exact mk_of I hm r h (I.hok.gone hm.new)
theorem zs_raise0 {x : Str} {p pos pos' : Pos} (hc : X.calm = true) (tk : Takes X E) (q : PySem.W.excIn X.K (He.ga X.K x) [.type "ValueError", .type "Exception", .type "BaseException", .type "object"] "ValueError.__new__" = true) (gC : X.mg x = some (.ref (He.ga X.K x))) (kC : PySem.W.keepIn X.K (.ref (He.ga X.K x)) = true)
    (r : Raises X (.ref (He.ga X.K x))) (hg : Gl X x) (hdb : (x == ("__debug__" : Str)) = false := by decide) : ZS X ce E (.Raise (some (.Call (.Name x p) [] [] pos)) none pos') (zRaise0 x) :=
  PS.weak (ps_raise hc tk (pmk_own0 F.excBase_ValueError q gC kC r hg hdb)) fun D σ H ⟨G, F, ρ, zs, h, w, rs, p⟩ => p _ _ _ _ _ _ .refl w rs ⟨rfl, .inl ⟨rfl, rfl⟩⟩
theorem zs_raise1 {x fld px : Str} {fI : Addr} {fd : FuncData} {k : Nat} {e : Expr} {t : MA} {p pos pos' : Pos} (hc : X.calm = true) (tk : Takes X E) (I1 : InitK X.prog X.K (He.ga X.K x) fI fld px fd) (iC : PySem.W.findIn X.K (.ref (He.ga X.K x)) "__init__" = some (some (.ref fI)))
    (tI : PySem.W.typeIn X.K (.ref fI) = some (.type "function")) (hr : RoomG 2 X.A) (gC : X.mg x = some (.ref (He.ga X.K x))) (hg : Gl X x) (ha : ZA X ce E [e] t) (hdb : (x == ("__debug__" : Str)) = false := by decide)
    (he : starEach [e] X.env = (false, eval e X.env) :: starEach [] X.env := by rfl) : ZS X ce E (.Raise (some (.Call (.Name x p) [e] [] pos)) none pos') (zRaise1 x fld t) := by
  obtain ⟨slf, hb, F1⟩ := init_ok (w := X.w) (mg := X.mg) (base := X.base) (CX := fun _ _ _ _ _ _ => False) I1
  refine PS.weak (ps_raise hc tk (pmk_oex (CX := fun _ _ _ _ _ _ => False) (dvs := []) I1.T iC tI F1 hr.rm hb .nil (fun _ _ _ _ _ _ _ z => z.elim) hg gC ha hdb he rfl)) fun D σ H ⟨G, F, ρ, zs, h, w, rs, q⟩ => ⟨G, F, ρ, zs, h, w, rs, (PostS.toG (R := Rels) q rs).mono fun vs H1 ⟨F1, ρ1, h1, z1, e1, w1, r1, p1⟩ => ?_⟩
  dsimp only at p1
  split at p1
  · rename_i y
    obtain ⟨v, us, rfl, q1, q2⟩ := r1
    cases (show us = [] from q2)
    refine ⟨by simp, fun a na => ⟨a, v, rfl, upd_same, fun d nd hda => ⟨rfl, d, [(fld, v)], upd_same, by rw [upd_ne hda, upd_same], ?_, ?_⟩⟩⟩
    · rw [upd_ne hda] at nd
      exact nd
    · rw [upd_ne hda] at nd
      have eq : upd (del (upd (upd (upd H1 a (exo a (He.ga X.K x) none)) d (exd d [(fld, v)])) a (exo a (He.ga X.K x) (some d))) a) d (.xd [(fld, v)]) = upd H1 d (.xd [(fld, v)]) := by
        funext b
        by_cases hb : b = d
        · rw [hb, upd_same, upd_same]
        · rw [upd_ne hb, upd_ne hb]
          by_cases hba : b = a
          · rw [hba, del_same, na]
          · rw [del_ne hba, upd_ne hba, upd_ne hb, upd_ne hba]
      rw [eq]
      obtain ⟨w2, e2⟩ := w1.frz nd (.xd [(fld, v)])
      exact p1 _ _ _ _ _ _ e2 w2 ((rs.ext e1).ext e2) ⟨rfl, .inr ⟨d, [v], rfl, upd_same, rfl, .cons (q1.ext e2) .nil⟩⟩
  · exact False.elim p1
end
/-! ### try -/
/-- how a clause wishes: slot i is its name's -/
def endsU (o : Option Nat) (D : Ends) : Ends := match o with
  | none => D
  | some i => { nx := fun σ' H' => D.nx (σ'.set i none) H', rt := D.rt, bk := fun σ' H' => D.bk (σ'.set i none) H', ct := fun σ' H' => D.ct (σ'.set i none) H' }
def slotU (o : Option Nat) (a : Addr) (σ : L2.St) : L2.St := match o with
  | none => σ
  | some i => σ.set i (some (.ref a))
def wMix (K : PySem.W.Frag) (Wout : WX) (D : Ends) : List (Value × Option Nat × (Addr → Value → Option Addr → TS)) → WX
  | [] => Wout
  | (c, o, ts) :: r => fun cls d σ H => ∃ b, PySem.W.exmOne K cls c = some b ∧ (b = true → ∀ a, H a = none → ts a cls d (endsU o D) (slotU o a σ) H) ∧ (b = false → wMix K Wout D r cls d σ H)
inductive HdsMix (X : Cx) : List ExceptHandler → List (Value × Option Nat × (Addr → Value → Option Addr → TS)) → Prop
  | nil : HdsMix X [] []
  | cons {x : Str} {c : Value} {ts : Addr → Value → Option Addr → TS} {b₀ : Stmt} {suite : List Stmt} {np pos' : Pos} {hds : List ExceptHandler} {l : List (Value × Option Nat × (Addr → Value → Option Addr → TS))} {on : Option Str} {oi : Option Nat} (hc : Names X x c)
      (ho : match on, oi with
        | none, none => True
        | some n, some i => X.N[i]? = some n ∧ X.env.kindOf n = some .local
        | _, _ => False)
      (hsu : ∀ (a : Addr) (oe : Obj) (cls : Value) (d : Option Addr) (pn : List (Addr × Obj)), Zc cls d oe → (∃ vs, oe.data = .fields vs) → PSs (X.suite a ((a, oe) :: pn)) (b₀ :: suite) (ts a cls d)) (r : HdsMix X hds l) :
      HdsMix X (.ExceptHandler (some (.Name x np)) on (b₀ :: suite) pos' :: hds) ((c, oi, ts) :: l)
section
variable {X : Cx} {body : List Stmt} {h₀ : ExceptHandler} {hds : List ExceptHandler} {l : List (Value × Option Nat × (Addr → Value → Option Addr → TS))} {pos : Pos} {tb : WX → TS} {Wout : WX}
theorem ps_try_mix (hs : X.stack = X.env :: X.outer) (hf : X.env.frame = some X.env.locals) (hN : X.N.Nodup) (tk : Takes X Wout)
    (hb : ∀ (W : WX) (pn : List (Addr × Obj)) (xe : Value → Shared → Prop), Takes (X.tr pn xe) W → PassesOwn (model X.prog X.w) X.A X.env xe → PSs (X.tr pn xe) body (tb W))
    (hh : HdsMix X (h₀ :: hds) l) : PS X (.Try body (h₀ :: hds) [] [] pos) (fun D σ H => tb (wMix X.K Wout D l) D σ H) := by
  refine ⟨fun pins s σ H D I h => ?_⟩
  have ok := I.ok
  have hfr : X.A.frames = some (X.env :: X.outer) := by rw [ok.frames, hs]
  refine wpAny_Try_except ?_
  refine wpAny_mono ((hb (wMix X.K Wout D l) (X.pn ++ pins) (fun e s₁ => wpAny (model X.prog X.w) X.A (noteFrame e X.env) (fun _ s₂ => wpAny (model X.prog X.w) X.A (setFlight e none) (fun _ s₃ =>
    wpAny (model X.prog X.w) X.A (handleBy e X.env (h₀ :: hds)) (SP X pins D) X.xe s₃) X.xe s₂) X.xe s₁) (fun u s' xx => ?_) PassesOwn.looking).run [] s σ H D (I.toTry _) h) (fun f s1 hsp => ?_) (fun e s1 he => he)
  · obtain ⟨a, B, sI, pins', σ', H', cls, d, rfl, J', nb, up, sky, na, os, ag, wm⟩ := xx
    have J : Inv X pins σ' H' sI := J'.ofTry ok
    have sky' : Sky B (X.env :: X.outer) a (Zc cls d) X.env.locals s'.heap := by rw [← hs]; exact sky
    show wpAny (model X.prog X.w) X.A (noteFrame (.ref a) X.env) _ _ _
    refine Sky.land Zc.steady hfr hf sky' fun h3 fl3 up3 => ?_
    have J3 : Inv X pins σ' H' { s' with heap := h3 } := J.landed nb fl3.1 (up.trans up3) os ag
    obtain ⟨oe3, vs3, he3, hz3, hd3⟩ := fl3.there
    have nfr : a ∉ frs (X.env :: X.outer) := fun hm => by
      obtain ⟨_, o', e', hnf⟩ := fl3.2.2.1.mem hm
      rw [he3] at e'; cases e'
      exact hnf _ hd3
    have nL : a ≠ X.env.locals := fun z => nfr (List.mem_filterMap.mpr ⟨X.env, List.mem_cons_self, by rw [hf, z]⟩)
    have nF : a ∉ X.fs := fun hm => by
      obtain ⟨e, he, q⟩ := List.mem_filterMap.mp hm
      exact nfr (List.mem_filterMap.mpr ⟨e, List.mem_cons_of_mem _ he, q⟩)
    have S3 := J3.suite he3 hd3 na nL nF
    have go : ∀ {hds' : List ExceptHandler} {l' : List (Value × Option Nat × (Addr → Value → Option Addr → TS))}, HdsMix X hds' l' → wMix X.K Wout D l' cls d σ' H' →
        wpAny (model X.prog X.w) X.A (handleBy (.ref a) X.env hds') (SP X pins D) X.xe { s' with heap := h3 } := by
      intro hds' l' hk
      induction hk with
      | nil =>
        intro wm
        refine wpAny_handleBy_nil ?_
        obtain ⟨k1, k2, k3, oe, vs, T, oT, ts', he, hz, hd, h1, hr⟩ := id fl3
        unfold PySem.passOn
        refine wpAny_bind (wpAny_field he hd h1 ?_)
        rw [if_neg (show ¬ ((Value.ref T == Value.none) = true) from by simp)]
        have fin : wpAny (model X.prog X.w) X.A (setFlight (.ref a) X.env.frame) (fun _ s4 => wpAny (model X.prog X.w) X.A (throw (.ref a) : Sem Flow) (SP X pins D) X.xe s4) X.xe { s' with heap := h3 } := by
          rw [hf]
          refine HandSPX.setFlight_upZ fl3 fun h4 hh4 up4 => wpAny_throw (tk _ _ ?_)
          exact ⟨a, B, sI, pins, σ', H', cls, d, rfl, J, nb, (up.trans up3).trans up4, .inr (.inr (by rw [hs]; exact hh4)), na, os, ag, wm⟩
        first
          | exact wpAny_bind (wpAny_pure (wpAny_bind fin))
          | exact wpAny_bind fin
      | @cons x c ts b₀ suite np pos' hds2 l2 on oi hc ho hsu r ih =>
        intro wm
        obtain ⟨b, hb1, hyes, hno⟩ := wm
        refine wpAny_handleBy_cons (codeAny_handlers_test ?_) (by intro q; cases q)
        have LT : PySem.W.Looks (model X.prog X.w) h3 (typeOf (.ref a)) cls := fun A Q E s k q => wpAny_typeOf_ref (k _ _ he3) (by rw [hz3.1]; exact q)
        have LM := PySem.W.exm_one (M := model X.prog X.w) (J3.kIn) LT hb1
        have test : ∀ {Q : Value → Shared → Prop} {E : Value → Shared → Prop}, Q c { s' with heap := h3 } → wpAny (model X.prog X.w) (X.A.mark (some (.ref a))) (eval (.Name x np) X.env) Q E { s' with heap := h3 } := fun {Q E} q => by
          obtain ⟨hg, hdbg, hm | ⟨hm, hv, hnn⟩⟩ := hc
          · exact ld_glob (X := X.suite a ((a, oe3) :: (X.pn ++ pins))) S3 hg hm q hdbg
          · exact ld_blt (X := X.suite a ((a, oe3) :: (X.pn ++ pins))) S3 hg hm hv q hnn hdbg
        refine test (LM.here ?_)
        cases b with
        | true =>
          cases on with
          | none =>
            cases oi with
            | some i => exact False.elim ho
            | none =>
              refine codeAny_handlers_suite ?_
              refine HandSPX.lands_againZ fl3 fun h4 fl4 up4 => ?_
              have J4 : Inv X pins σ' H' { s' with heap := h4 } := J.landed nb fl4.1 ((up.trans up3).trans up4) os ag
              obtain ⟨oe4, vs4, he4, hz4, hd4⟩ := fl4.there
              have S4 := J4.suite he4 hd4 na nL nF
              refine wpAny_mono ((hsu a oe4 cls d (X.pn ++ pins) hz4 ⟨_, hd4⟩).run [] _ _ H' _ S4 (hyes rfl a na)) (fun f s6 hsp => ?_) (fun _ _ z => False.elim z)
              cases f with
              | ret u =>
                obtain ⟨v6, σ6, H6, S6, r6, q6⟩ := hsp
                exact ⟨_, _, _, S6.unsuite ok, r6, q6⟩
              | _ =>
                obtain ⟨σ6, H6, S6, q6⟩ := hsp
                exact ⟨_, _, S6.unsuite ok, q6⟩
          | some n =>
            cases oi with
            | none => exact False.elim ho
            | some i =>
              obtain ⟨hi, hln⟩ := ho
              have hloc : Loc X.env.scope n := .inl hln
              refine codeAny_handlers_suite_as ?_
              refine HandSPX.lands_againZ fl3 fun h4 fl4 up4 => ?_
              have J4 : Inv X pins σ' H' { s' with heap := h4 } := J.landed nb fl4.1 ((up.trans up3).trans up4) os ag
              obtain ⟨oe4, vs4, he4, hz4, hd4⟩ := fl4.there
              have S4 := J4.suite he4 hd4 na nL nF
              refine store_ok (X := X.suite a ((a, oe4) :: (X.pn ++ pins))) (v := .ref a) S4 hN hi hloc rfl (fun s5 S5 => ?_) (.inr hln)
              refine wpAny_mono ((hsu a oe4 cls d (X.pn ++ pins) hz4 ⟨_, hd4⟩).run [] s5 _ H' _ S5 (hyes rfl a na)) (fun f s6 hsp => ?_) (fun _ _ z => False.elim z)
              have end_ : ∀ {σ6 : L2.St} {H6 : Hp} {Q : Shared → Prop}, Inv (X.suite a ((a, oe4) :: (X.pn ++ pins))) [] σ6 H6 s6 → (∀ s7, Inv X pins (σ6.set i none) H6 s7 → Q s7) →
                  wpAny (model X.prog X.w) X.A (do bindName X.env n .none; unbindBehindTheSuite X.env n pos') (fun _ s7 => Q s7) X.xe s6 := fun {σ6 H6 Q} S6 hq => gone_ok (S6.unsuite ok) hN hi hln hq
              cases f with
              | ret u =>
                obtain ⟨v6, σ6, H6, S6, r6, q6⟩ := hsp
                exact end_ S6 fun s7 J7 => ⟨_, _, _, J7, r6, q6⟩
              | _ =>
                obtain ⟨σ6, H6, S6, q6⟩ := hsp
                exact end_ S6 fun s7 J7 => ⟨_, _, J7, q6⟩
        | false =>
          show wpAny _ X.A (handleBy (.ref a) X.env hds2) _ _ _
          exact ih (hno rfl)
    exact go hh wm
  · cases f with
    | next =>
      obtain ⟨σ', H', J', q⟩ := hsp
      exact wpAny_execs_nil ⟨σ', H', J'.ofTry ok, q⟩
    | ret u =>
      obtain ⟨v, σ', H', J', r, q⟩ := hsp
      exact ⟨v, σ', H', J'.ofTry ok, r, q⟩
    | _ =>
      obtain ⟨σ', H', J', q⟩ := hsp
      exact ⟨σ', H', J'.ofTry ok, q⟩
end
end ZL
set_option Elab.async false
set_option linter.all false
set_option maxRecDepth 100000
set_option maxHeartbeats 4000000
namespace ZL
open PySem PySem.Spec PyProof.Rows L2
/-! ### no exception within -/
mutual
def Z.noX : Z → Bool
  | .tup xs => noXs xs
  | .lst xs => noXs xs
  | .frl xs => noXs xs
  | .ins _ _ xs => noXs xs
  | .exc _ _ _ => false
  | .dkf _ xs => noXs xs
  | .ref _ => true
  | .non => true
  | .bl _ => true
  | .int _ => true
  | .str _ => true
  | .ty _ => true
  | .glo _ => true
def noXs : List Z → Bool
  | [] => true
  | x :: xs => x.noX && noXs xs
end
def MO.noX : MO → Bool
  | .dead => true
  | .lst xs => noXs xs
  | .ins _ _ xs => noXs xs
  | .dk _ xs => noXs xs
  | .dt _ xs => noXs xs
def slotNo : Option Z → Bool
  | none => true
  | some z => z.noX
section
variable {K : PySem.W.Frag} {ce ce' : Addr → Value → Option Addr → Prop} {F G : Hp} {ρ : Nat → Addr} {n : Nat}
mutual
theorem Rel.conv : ∀ {z : Z} {v : V}, (z.noX = true ∨ ∀ a c d, ce a c d → ce' a c d) → Rel ⟨K, ce⟩ F ρ n z v → Rel ⟨K, ce'⟩ F ρ n z v
  | .non, _, _, h => h
  | .bl _, _, _, h => h
  | .int _, _, _, h => h
  | .str _, _, _, h => h
  | .ty _, _, _, h => h
  | .glo _, _, _, h => h
  | .ref i, v, _, h => h
  | .tup xs, v, q, h => by
    obtain ⟨a, ws, h1, h2, h3⟩ := h
    exact ⟨a, ws, h1, h2, Rels.conv q h3⟩
  | .frl xs, v, q, h => by
    obtain ⟨a, ws, h1, h2, h3⟩ := h
    exact ⟨a, ws, h1, h2, Rels.conv q h3⟩
  | .lst xs, v, q, h => by
    obtain ⟨a, ws, h1, h2, h3⟩ := h
    exact ⟨a, ws, h1, h2, Rels.conv q h3⟩
  | .ins C ns vs, v, q, h => by
    obtain ⟨a, dx, ws, h1, h2, hl, h3⟩ := h
    exact ⟨a, dx, ws, h1, h2, hl, Rels.conv q h3⟩
  | .dkf ks vs, v, q, h => by
    obtain ⟨a, ws, h1, h2, hl, h3⟩ := h
    exact ⟨a, ws, h1, h2, hl, Rels.conv q h3⟩
  | .exc C ns vs, v, q, h => by
    obtain ⟨a, d, h1, h2, h3⟩ := h
    rcases q with q | q
    · cases q
    · refine ⟨a, d, h1, q _ _ _ h2, ?_⟩
      rcases h3 with h3 | ⟨dx, ws, q1, q2, ql, q3⟩
      · exact .inl h3
      · exact .inr ⟨dx, ws, q1, q2, ql, Rels.conv (.inr q) q3⟩
theorem Rels.conv : ∀ {zs : List Z} {ws : List V}, (noXs zs = true ∨ ∀ a c d, ce a c d → ce' a c d) → Rels ⟨K, ce⟩ F ρ n zs ws → Rels ⟨K, ce'⟩ F ρ n zs ws
  | [], _, _, h => h
  | z :: zs, ws, q, h => by
    obtain ⟨v, us, h1, h2, h3⟩ := h
    have q1 : (z.noX = true ∨ ∀ a c d, ce a c d → ce' a c d) := q.imp (fun (e : (z.noX && noXs zs) = true) => (Bool.and_eq_true_iff.mp e).1) id
    have q2 : (noXs zs = true ∨ ∀ a c d, ce a c d → ce' a c d) := q.imp (fun (e : (z.noX && noXs zs) = true) => (Bool.and_eq_true_iff.mp e).2) id
    exact ⟨v, us, h1, Rel.conv q1 h2, Rels.conv q2 h3⟩
end
theorem MOk.conv {H : Hp} {a : Addr} {o : MO} (q : o.noX = true ∨ ∀ a c d, ce a c d → ce' a c d) (m : MOk ⟨K, ce⟩ F ρ n H a o) : MOk ⟨K, ce'⟩ F ρ n H a o := by
  cases o with
  | dead => trivial
  | lst zs => obtain ⟨ws, h1, h2⟩ := m; exact ⟨ws, h1, h2.conv q⟩
  | ins C ns vs => obtain ⟨dx, ws, h1, h2, h3⟩ := m; exact ⟨dx, ws, h1, h2, h3.conv q⟩
  | dk ks vs => obtain ⟨ws, h1, h2, h3⟩ := m; exact ⟨ws, h1, h2, h3.conv q⟩
  | dt ks vs => obtain ⟨ws, h1, h2, h3⟩ := m; exact ⟨ws, h1, h2, h3.conv q⟩
theorem W.conv {h : Hv} {H : Hp} (q : h.all MO.noX = true ∨ ∀ a c d, ce a c d → ce' a c d) (w : W ⟨K, ce⟩ G F ρ h H) : W ⟨K, ce'⟩ G F ρ h H :=
  ⟨w.sub, fun i o e => (w.obj i o e).conv (q.imp (fun z => List.all_eq_true.mp z o (List.mem_of_getElem? e)) id), w.inj, w.nof, w.pro⟩
theorem RelS.conv {zs : Sg} {σ : L2.St} (q : zs.all slotNo = true ∨ ∀ a c d, ce a c d → ce' a c d) (r : RelS ⟨K, ce⟩ F ρ n zs σ) : RelS ⟨K, ce'⟩ F ρ n zs σ := ⟨r.1, fun i z e => by
  obtain ⟨v, h1, h2⟩ := r.2 i z e
  exact ⟨v, h1, h2.conv (q.imp (fun y => List.all_eq_true.mp y (some z) (List.mem_of_getElem? e)) id)⟩⟩
end
/-! ### try -/
structure ZCl where
  test : Str → Option Bool
  slot : Option Nat
  run : MS
def unO (o : Option Nat) (s : Sg) : Sg := match o with
  | none => s
  | some i => s.set i none
def setO (o : Option Nat) (z : Z) (s : Sg) : Sg := match o with
  | none => s
  | some i => s.set i (some z)
def leaveZ (o : Option Nat) : RS → RS
  | .nx s h => if ((unO o s).all slotNo && h.all MO.noX) = true then .nx (unO o s) h else .bad
  | .bk s h => if ((unO o s).all slotNo && h.all MO.noX) = true then .bk (unO o s) h else .bad
  | .ct s h => if ((unO o s).all slotNo && h.all MO.noX) = true then .ct (unO o s) h else .bad
  | .rt z h => if (z.noX && h.all MO.noX) = true then .rt z h else .bad
  | .exc _ _ _ => .bad
  | .bad => .bad
def hdRun : List ZCl → Ex → Sg → Hv → RS
  | [], x, s, h => .exc x s h
  | k :: r, x, s, h => match k.test x.cls with
    | some true => leaveZ k.slot (k.run (setO k.slot (.exc x.cls x.ns x.vs) s) h)
    | some false => hdRun r x s h
    | none => .bad
def zTry (b : MS) (l : List ZCl) : MS := fun s h => match b s h with
  | .exc x s1 h1 => hdRun l x s1 h1
  | r => r
inductive HdsZ (X : Cx) : List ExceptHandler → List ZCl → List (Value × Option Nat × (Addr → Value → Option Addr → TS)) → Prop
  | nil : HdsZ X [] [] []
  | cons {x : Str} {c : Value} {k : ZCl} {b₀ : Stmt} {suite : List Stmt} {np pos' : Pos} {hds : List ExceptHandler} {lz : List ZCl} {l : List (Value × Option Nat × (Addr → Value → Option Addr → TS))} {on : Option Str} (hc : Names X x c)
      (ht : ∀ C b, k.test C = some b → PySem.W.exmOne X.K (.ref (He.ga X.K C)) c = some b)
      (ho : match on, k.slot with
        | none, none => True
        | some n, some i => X.N[i]? = some n ∧ X.env.kindOf n = some .local
        | _, _ => False)
      (hsu : ∀ (a : Addr) (oe : Obj) (cls : Value) (d : Option Addr) (pn : List (Addr × Obj)), Zc cls d oe → (∃ vs, oe.data = .fields vs) → ZSs (X.suite a ((a, oe) :: pn)) (ceOf a cls d) nox (b₀ :: suite) k.run) (r : HdsZ X hds lz l) :
      HdsZ X (.ExceptHandler (some (.Name x np)) on (b₀ :: suite) pos' :: hds) (k :: lz) ((c, k.slot, fun a cls d => rdS ⟨X.K, ceOf a cls d⟩ nox k.run) :: l)
theorem HdsZ.mix {X : Cx} {hds : List ExceptHandler} {lz : List ZCl} {l : List (Value × Option Nat × (Addr → Value → Option Addr → TS))} (h : HdsZ X hds lz l) : HdsMix X hds l := by
  induction h with
  | nil => exact .nil
  | cons hc ht ho hsu r ih => exact .cons hc ho hsu ih
section
variable {X : Cx} {E : WX}
theorem hds_rd {G F : Hp} {ρ : Nat → Addr} {h : Hv} {D : Ends} {x : Ex} {zs : Sg} {σ : L2.St} {H : Hp} {cls : Value} {d : Option Addr} (w : W ⟨X.K, no⟩ G F ρ h H) (rs : RelS ⟨X.K, no⟩ F ρ h.length zs σ) (rx : RelX ⟨X.K, no⟩ F ρ h.length x cls d) {hds : List ExceptHandler} {lz : List ZCl} {l : List (Value × Option Nat × (Addr → Value → Option Addr → TS))} (hh : HdsZ X hds lz l) :
    PostS ⟨X.K, no⟩ E G F ρ h.length D (hdRun lz x zs h) → wMix X.K E D l cls d σ H := by
  induction hh with
  | nil => exact fun p => p _ _ _ _ _ _ .refl w rs rx
  | @cons x' c k b₀ suite np pos' hds lz l on hc ht ho hsu r ih =>
    intro p
    have p : PostS ⟨X.K, no⟩ E G F ρ h.length D (match k.test x.cls with
      | some true => leaveZ k.slot (k.run (setO k.slot (.exc x.cls x.ns x.vs) zs) h)
      | some false => hdRun lz x zs h
      | none => .bad) := p
    obtain ⟨ec, rd⟩ := rx
    subst ec
    cases e : k.test x.cls with
    | none => rw [e] at p; exact False.elim p
    | some b =>
      rw [e] at p
      refine ⟨b, ht _ _ e, fun hb a na => ?_, fun hb => ?_⟩
      · subst hb
        dsimp only at p
        have mono : ∀ a' c' d', no a' c' d' → ceOf a (.ref (He.ga X.K x.cls)) d a' c' d' := fun _ _ _ z => z.elim
        have w2 : W ⟨X.K, ceOf a (.ref (He.ga X.K x.cls)) d⟩ G F ρ h H := w.conv (.inr mono)
        have rs2 : RelS ⟨X.K, ceOf a (.ref (He.ga X.K x.cls)) d⟩ F ρ h.length zs σ := rs.conv (.inr mono)
        have rz : Rel ⟨X.K, ceOf a (.ref (He.ga X.K x.cls)) d⟩ F ρ h.length (.exc x.cls x.ns x.vs) (.ref a) :=
          ⟨a, d, rfl, ⟨rfl, rfl, rfl⟩, rd.imp id fun ⟨dx, ws, q1, q2, q3, q4⟩ => ⟨dx, ws, q1, q2, q3, q4.conv (.inr mono)⟩⟩
        have rs3 : RelS ⟨X.K, ceOf a (.ref (He.ga X.K x.cls)) d⟩ F ρ h.length (setO k.slot (.exc x.cls x.ns x.vs) zs) (slotU k.slot a σ) := by
          cases k.slot with
          | none => exact rs2
          | some i => exact rs2.set rz i
        refine ⟨G, F, ρ, _, h, w2, rs3, ?_⟩
        dsimp only
        revert p
        generalize k.run (setO k.slot (.exc x.cls x.ns x.vs) zs) h = r0
        have un : ∀ {F' : Hp} {ρ' : Nat → Addr} {n : Nat} {s1 : Sg} {σ' : L2.St}, RelS ⟨X.K, ceOf a (.ref (He.ga X.K x.cls)) d⟩ F' ρ' n s1 σ' → RelS ⟨X.K, ceOf a (.ref (He.ga X.K x.cls)) d⟩ F' ρ' n (unO k.slot s1) (match k.slot with
            | none => σ'
            | some i => σ'.set i none) := fun r => by
          cases k.slot with
          | none => exact r
          | some i => exact r.del i
        cases r0 with
        | nx s1 h1 =>
          refine fun p F' ρ' σ' H' e' w' r' => ?_
          simp only [leaveZ] at p
          split at p
          · rename_i q
            obtain ⟨q1, q2⟩ := Bool.and_eq_true_iff.mp q
            have r2 := (un r').conv (ce' := no) (.inl q1)
            have z := p F' ρ' _ H' e' (w'.conv (.inl q2)) r2
            revert z
            cases k.slot <;> exact id
          · exact False.elim p
        | bk s1 h1 =>
          refine fun p F' ρ' σ' H' e' w' r' => ?_
          simp only [leaveZ] at p
          split at p
          · rename_i q
            obtain ⟨q1, q2⟩ := Bool.and_eq_true_iff.mp q
            have r2 := (un r').conv (ce' := no) (.inl q1)
            have z := p F' ρ' _ H' e' (w'.conv (.inl q2)) r2
            revert z
            cases k.slot <;> exact id
          · exact False.elim p
        | ct s1 h1 =>
          refine fun p F' ρ' σ' H' e' w' r' => ?_
          simp only [leaveZ] at p
          split at p
          · rename_i q
            obtain ⟨q1, q2⟩ := Bool.and_eq_true_iff.mp q
            have r2 := (un r').conv (ce' := no) (.inl q1)
            have z := p F' ρ' _ H' e' (w'.conv (.inl q2)) r2
            revert z
            cases k.slot <;> exact id
          · exact False.elim p
        | rt z h1 =>
          refine fun p F' ρ' v H' e' w' r' => ?_
          simp only [leaveZ] at p
          split at p
          · rename_i q
            obtain ⟨q1, q2⟩ := Bool.and_eq_true_iff.mp q
            have z := p F' ρ' v H' e' (w'.conv (.inl q2)) (r'.conv (.inl q1))
            revert z
            cases k.slot <;> exact id
          · exact False.elim p
        | exc y s1 h1 => exact fun p => False.elim p
        | bad => exact fun p => False.elim p
      · subst hb
        exact ih p
theorem zs_try {body : List Stmt} {h₀ : ExceptHandler} {hds : List ExceptHandler} {lz : List ZCl} {l : List (Value × Option Nat × (Addr → Value → Option Addr → TS))} {pos : Pos} {mb : MS} (hs : X.stack = X.env :: X.outer) (hf : X.env.frame = some X.env.locals) (hN : X.N.Nodup) (tk : Takes X E)
    (hb : ∀ (W : WX) (pn : List (Addr × Obj)) (xe : Value → Shared → Prop), Takes (X.tr pn xe) W → PassesOwn (model X.prog X.w) X.A X.env xe → ZSs (X.tr pn xe) no W body mb)
    (hh : HdsZ X (h₀ :: hds) lz l) : ZS X no E (.Try body (h₀ :: hds) [] [] pos) (zTry mb lz) :=
  PS.weak (ps_try_mix (tb := fun W => rdS ⟨X.K, no⟩ W mb) hs hf hN tk hb hh.mix) fun D σ H ⟨G, F, ρ, zs, h, w, rs, p⟩ => ⟨G, F, ρ, zs, h, w, rs, by
    unfold zTry at p
    dsimp only
    revert p
    generalize mb zs h = r0
    cases r0 with
    | exc x s1 h1 => exact fun p F' ρ' σ' H' cls d e' w' r' rx => hds_rd w' r' rx hh (PostS.ext (r := hdRun lz x s1 h1) p e')
    | nx s1 h1 => exact fun p => p
    | rt z h1 => exact fun p => p
    | bk s1 h1 => exact fun p => p
    | ct s1 h1 => exact fun p => p
    | bad => exact fun p => p⟩
end
end ZL
set_option Elab.async false
set_option linter.all false
set_option maxRecDepth 100000
set_option maxHeartbeats 4000000
namespace ZL
open PySem PySem.Spec PyProof.Rows L2
/-! ### set(xs), any keys -/
def metS {K : Type} [DecidableEq K] (σ : List K) (v : K) : List K := if σ.any (fun x => decide (x = v)) = true then σ else σ ++ [v]
def metN {K : Type} [DecidableEq K] (val : Nat → K) (i : Nat) : List K := ((List.range i).map val).foldl metS []
section
variable {K : Type} [DecidableEq K]
theorem metN_succ (val : Nat → K) (i : Nat) : metN val (i + 1) = metS (metN val i) (val i) := by
  unfold metN; rw [List.range_succ, List.map_append, List.foldl_append]; rfl
theorem metN_le (val : Nat → K) : ∀ i, (metN val i).length ≤ i
  | 0 => Nat.le_refl _
  | i + 1 => by
    have ih := metN_le val i
    rw [metN_succ]; unfold metS
    split
    · omega
    · rw [List.length_append, List.length_singleton]; omega
theorem metS_any (σ : List K) (v k : K) : (metS σ v).any (fun x => decide (x = k)) = (σ.any (fun x => decide (x = k)) || decide (k = v)) := by
  unfold metS
  by_cases h : σ.any (fun x => decide (x = v)) = true
  · rw [if_pos h]
    by_cases e : k = v
    · subst e; rw [h]; simp
    · simp [e]
  · rw [if_neg h, List.any_append]
    by_cases e : k = v
    · subst e; simp
    · have : ¬ v = k := fun z => e z.symm
      simp [e, this]
theorem metS_len (σ : List K) (v : K) : (metS σ v).length = if σ.any (fun x => decide (x = v)) = true then σ.length else σ.length + 1 := by
  unfold metS; split <;> simp
end
section
variable {prog : Program} {w : World} {A : Around} {R : Result → Shared → Prop} {I : Addr} {fp wr : List Addr} {G : Array GenState → Array GenState → Prop} {n : Nat} {P : Nat → Value → Prop} {St : Nat → Shared → Prop} {K : Type} [DecidableEq K] {knd : PySem.KeyKind prog w K}
theorem setOf_cg {h : Heap} {a : Addr} {S S' : K → Bool} {m m' : Nat} (hS : h.SetOf knd a S m) (e : ∀ k, S k = S' k) (en : m = m') : h.SetOf knd a S' m' := by
  have : S = S' := funext e
  subst this; subst en; exact hS
theorem setLoop (W : WalksS prog w A.in1 I fp wr G n P St) (S : Addr) (hSf : S ∉ fp) (val : Nat → K) (hval : ∀ i v, P i v → knd.is (val i) v = true ∧ v.scannable = true) (hb : n + 1 < scanBound) :
    ∀ (k i : Nat) (s : Shared), n - i = k → i ≤ n → St i s → s.heap.SetOf knd S (fun k' => (metN val i).any (fun x => decide (x = k'))) (metN val i).length →
      (∀ s', Moved (S :: wr) G s s' → s'.heap.SetOf knd S (fun k' => (metN val n).any (fun x => decide (x = k'))) (metN val n).length → R (.ok (.ret .none)) s') →
      codeAny (model prog w) A (.builtin "set.update.loop" ⟨[.ref S, .ref I], []⟩) R s := by
  have hSw : S ∉ wr := fun h => hSf (W.sub _ h)
  have sub2 : ∀ b ∈ wr, b ∈ S :: wr := fun b hb => List.mem_cons_of_mem _ hb
  intro k
  induction k with
  | zero =>
    intro i s hk hi hst hS hR
    obtain rfl : i = n := by omega
    refine codeAny_builtin PyProof.Rows.F.entry_set_update_loop ?_
    rw [Around.under_plainId PyProof.Rows.F.plain_set_update_loop _]
    refine wpAny_bind (m := pyNext (.ref I)) (W.done s _ _ hst fun s' hm => ?_)
    exact wpAny_pure (hR s' (hm.mono sub2) (by
      obtain ⟨o, es, ep, t, ho, rest⟩ := hS
      exact ⟨o, es, ep, t, hm.heap S _ hSw ho, rest⟩))
  | succ k ih =>
    intro i s hk hi hst hS hR
    have hlt : i < n := by omega
    refine codeAny_builtin PyProof.Rows.F.entry_set_update_loop ?_
    rw [Around.under_plainId PyProof.Rows.F.plain_set_update_loop _]
    refine wpAny_bind (m := pyNext (.ref I)) (W.item i s _ _ hlt hst fun v s' hP hst' hm => ?_)
    obtain ⟨hv1, hv2⟩ := hval i v hP
    have hS' : s'.heap.SetOf knd S (fun k' => (metN val i).any (fun x => decide (x = k'))) (metN val i).length := by
      obtain ⟨o, es, ep, tb, ho, rest⟩ := hS
      exact ⟨o, es, ep, tb, hm.heap S _ hSw ho, rest⟩
    refine wpAny_bind (m := holding [v] (setAdd S v)) (wpAny_holding ?_)
    unfold setAdd
    refine wpAny_holding (wpAny_bind (knd.pyHash (k := val i) hv1 ?_))
    have room : (metN val i).length + 1 < scanBound := by have := metN_le val i; omega
    refine wpAny_setAddHashed_of (knd := knd) (s := { s' with toks := s'.toks + 1 }) hv1 hv2 hS' room fun h' hsb hS2 => ?_
    have hSi : h'.SetOf knd S (fun k' => (metN val (i + 1)).any (fun x => decide (x = k'))) (metN val (i + 1)).length :=
      setOf_cg hS2 (fun k' => by rw [metN_succ, metS_any]) (by rw [metN_succ, metS_len])
    refine wpAny_pure ⟨plainId_quiet PyProof.Rows.F.plain_set_update_loop _, ih (i + 1) _ (by omega) hlt (W.frame _ s' _ _ hst' (Nat.le_succ _) fun b hb o e => ?_) hSi fun s2 hm2 hS3 => ?_⟩
    · rw [hsb.2 b (fun h : b = S => hSf (by rw [← h]; exact hb))]; exact e
    · refine hR s2 (Moved.trans W.gtrans ((hm.mono sub2).then_heap (Nat.le_succ _) fun b o hb e => ?_) hm2) hS3
      rw [hsb.2 b (fun h : b = S => hb (by rw [h]; exact List.mem_cons_self))]; exact e
end
section
variable {prog : Program} {w : World} {A : Around} {E : Value → Shared → Prop} {s : Shared} {K : Type} [DecidableEq K] {knd : PySem.KeyKind prog w K}
/-- set(x): what its __init__ walks stands at l -/
theorem setCall {l : Addr} {m : Nat} {val : Nat → K} {Q : Value → Shared → Prop}
    (hi : ∀ {R : Result → Shared → Prop} (led : Bool), (∀ h' tk, h'.SetOf knd s.heap.objs.size (fun k' => (metN val m).any (fun x => decide (x = k'))) (metN val m).length → (∀ b o, b < s.heap.objs.size → s.heap.get? b = some o → h'.get? b = some o) → R (.ok (.ret .none)) { s with heap := h', toks := tk }) →
      wpAny (model prog w) A.in1.in1 (Builtin.«set.__init__» ⟨[.ref s.heap.objs.size, .ref l], []⟩) (fun fin s' => match fin with | .done f => R (.ok f) s' | .again c' => c'.quiet = true ∧ codeAny (model prog w) A.in1 c' R s') (fun e s' => R (.error e) s') { s with heap := s.heap.push { cls := .type "set", dict := none, data := .set #[] 0 (.fresh 0 0 led) } })
    (h : ∀ (h' : Heap) (tk : Nat), h'.SetOf knd s.heap.objs.size (fun k' => (metN val m).any (fun x => decide (x = k'))) (metN val m).length → (∀ b o, b < s.heap.objs.size → s.heap.get? b = some o → h'.get? b = some o) → Q (.ref s.heap.objs.size) { s with heap := h', toks := tk }) :
    wpAny (model prog w) A (call (.type "set") [.ref l]) Q E s := by
  obtain ⟨c, tl, hmro⟩ := PySem.F.called_set.mro
  have q1 := PySem.F.called_set.made
  have q2 := PySem.F.called_set.sub
  refine wpAny_call (codeAny_of_tree ?_)
  refine wpAny_pure ⟨Code.quiet_builtin _ (by decide +kernel), codeAny_builtin PySem.F.entry_type_call ?_⟩
  rw [Around.under_plain (weight_type_call_type "set" [.ref l] []) rfl]
  have q3 := PySem.F.called_set.notType
  have q4 := PySem.F.called_set.canCreate
  have q5 := PySem.F.typeCall_set_1 (.ref l)
  repeat (any_goals (first | assumption | wp_step))
  refine codeAny_mono (code_set_new_1 (.ref l) (E := E) (Q₁ := fun obj s1 => ∃ led : Bool, obj = .ref s.heap.objs.size ∧ s1 = { s with heap := s.heap.push { cls := .type "set", dict := none, data := .set #[] 0 (.fresh 0 0 led) } }) fun led => ⟨led, rfl, rfl⟩) fun r s1 hr => ?_
  cases r with
  | error e => exact hr
  | ok fl =>
    cases fl with
    | ret obj =>
      obtain ⟨led, rfl, rfl⟩ := hr
      have hS : (s.heap.push { cls := .type "set", dict := none, data := .set #[] 0 (.fresh 0 0 led) }).get? s.heap.objs.size = some { cls := .type "set", dict := none, data := .set #[] 0 (.fresh 0 0 led) } := Heap.get?_push_size _ rfl
      have hT : Shared.TypeIs { s with heap := s.heap.push { cls := .type "set", dict := none, data := .set #[] 0 (.fresh 0 0 led) } } (.ref s.heap.objs.size) "set" := ⟨_, hS, rfl⟩
      have q6 := PySem.F.called_set.init.lookup
      have q7 := PySem.F.called_set.init.bind (.ref s.heap.objs.size)
      repeat (any_goals (first | assumption | wp_step))
      refine codeAny_mono (codeAny_call_builtin (R := wants (fun r s2 => r = .none ∧ ∃ h' tk, s2 = { s with heap := h', toks := tk } ∧ h'.SetOf knd s.heap.objs.size (fun k' => (metN val m).any (fun x => decide (x = k'))) (metN val m).length ∧ (∀ b o, b < s.heap.objs.size → s.heap.get? b = some o → h'.get? b = some o)) E)
        PySem.F.called_set.init.plain PySem.F.entry_set_init (check_set_init_1 hT ?_)) fun r2 s2 hr2 => ?_
      · exact hi (R := wants (fun r s2 => r = .none ∧ ∃ h' tk, s2 = { s with heap := h', toks := tk } ∧ h'.SetOf knd s.heap.objs.size (fun k' => (metN val m).any (fun x => decide (x = k'))) (metN val m).length ∧ (∀ b o, b < s.heap.objs.size → s.heap.get? b = some o → h'.get? b = some o)) E) led fun h' tk x y => ⟨rfl, h', tk, rfl, x, y⟩
      · cases r2 with
        | error e => exact hr2
        | ok fl2 =>
          cases fl2 with
          | ret r =>
            obtain ⟨rfl, h', tk, rfl, z1, z2⟩ := hr2
            repeat (any_goals (first | assumption | wp_step))
            exact h _ _ z1 z2
          | _ => exact hr2.elim
    | _ => exact hr.elim
theorem call_set_keysL {l : Addr} {items : Array Value} {val : Nat → K} {Q : Value → Shared → Prop} (hh : A.handled = none) (hl : s.heap.IsList l items) (hval : ∀ (i : Nat) (v : Value), items[i]? = some v → knd.is (val i) v = true ∧ v.scannable = true) (hb : items.size + 1 < scanBound)
    (h : ∀ (h' : Heap) (tk : Nat), h'.SetOf knd s.heap.objs.size (fun k' => (metN val items.size).any (fun x => decide (x = k'))) (metN val items.size).length → (∀ b o, b < s.heap.objs.size → s.heap.get? b = some o → h'.get? b = some o) → Q (.ref s.heap.objs.size) { s with heap := h', toks := tk }) :
    wpAny (model prog w) A (call (.type "set") [.ref l]) Q E s := by
  refine setCall (knd := knd) (m := items.size) (val := val) (fun {R} led fin => ?_) h
  obtain ⟨⟨oc, odd, oda, osl⟩, hol, hcl, nl, hdl⟩ := hl
  simp only at hcl hdl
  subst hcl hdl
  have hS : (s.heap.push { cls := .type "set", dict := none, data := .set #[] 0 (.fresh 0 0 led) }).get? s.heap.objs.size = some { cls := .type "set", dict := none, data := .set #[] 0 (.fresh 0 0 led) } := Heap.get?_push_size _ rfl
  have o1 : (s.heap.push { cls := .type "set", dict := none, data := .set #[] 0 (.fresh 0 0 led) }).get? l = some { cls := .type "list", dict := odd, data := .seq items nl, slots := osl } := Heap.get?_push_of_some _ hol
  have q1 := PySem.F.sub_list_set
  have q2 := PySem.F.sub_list_frozenset
  have q3 : (Value.type "list" == Value.type "dict") = false := by decide
  have l1 : (s.heap.push { cls := .type "set", dict := none, data := .set #[] 0 (.fresh 0 0 led) }).IsList l items := ⟨_, o1, rfl, nl, rfl⟩
  unfold Builtin.«set.__init__» noKeywords Builtin.Frozenset.updateFrom
  generalize hPI : pyIter = PI
  wp_walk
  subst hPI
  refine wpAny_pyIter_list l1 (wpAny_bind (wpAny_runValue ?_))
  have z1 : l < s.heap.objs.size := Heap.lt_size hol
  have z2 : A.in1.in1.in1.handled = none := by simp [hh]
  have z3 : l ≠ (s.heap.push { cls := .type "set", dict := none, data := .set #[] 0 (.fresh 0 0 led) }).objs.size := by
    rw [Heap.size_push]; exact Nat.ne_of_lt (Nat.lt_succ_of_lt z1)
  have z4 : s.heap.objs.size ∉ [(s.heap.push { cls := .type "set", dict := none, data := .set #[] 0 (.fresh 0 0 led) }).objs.size, l] := by
    rw [Heap.size_push]; simp only [List.mem_cons, List.mem_singleton, List.not_mem_nil, or_false, not_or]
    exact ⟨Nat.ne_of_lt (Nat.lt_succ_self _), Nat.ne_of_gt z1⟩
  refine setLoop (knd := knd) ((Walks.list z2 _ l z3 items).toS) s.heap.objs.size z4 val hval hb (items.size - 0) 0 _ (by omega) (Nat.zero_le _) ⟨⟨_, Heap.get?_push_size _ rfl, rfl, rfl⟩, (l1.push _)⟩ ?_ ?_
  · have g : ((s.heap.push { cls := .type "set", dict := none, data := .set #[] 0 (.fresh 0 0 led) }).push { cls := .type "list_iterator", data := .fields #[.ref l, .int 0 0] }).get? s.heap.objs.size
        = some { cls := .type "set", dict := none, data := .set #[] 0 (.fresh 0 0 led) } := Heap.get?_push_of_some _ hS
    exact setOf_cg ((PyProof.Rows.setObjOf_fresh (knd := knd) led).setOf g (by unfold scanBound; omega)) (fun _ => rfl) rfl
  · intro s' hm hS'
    obtain ⟨h', g', d', tk', os'⟩ := s'
    obtain rfl : g' = s.gens := hm.gens
    obtain rfl : d' = s.drawn := hm.drawn
    obtain rfl : os' = s.os := hm.os
    refine wpAny_pure ?_
    refine wpAny_pure (fin h' tk' hS' fun b o hb e => ?_)
    have b1 : b ≠ s.heap.objs.size := Nat.ne_of_lt hb
    have b2 : b ≠ (s.heap.push { cls := .type "set", dict := none, data := .set #[] 0 (.fresh 0 0 led) }).objs.size := by
      rw [Heap.size_push]; exact Nat.ne_of_lt (Nat.lt_succ_of_lt hb)
    exact hm.heap b o (by simp only [List.mem_cons, List.mem_singleton, List.not_mem_nil, or_false, not_or]; exact ⟨b1, b2⟩) (Heap.get?_push_of_some _ (Heap.get?_push_of_some _ e))
theorem call_set_keysT {l : Addr} {items : Array Value} {val : Nat → K} {Q : Value → Shared → Prop} (hh : A.handled = none) (hl : s.heap.IsTuple l items) (hval : ∀ (i : Nat) (v : Value), items[i]? = some v → knd.is (val i) v = true ∧ v.scannable = true) (hb : items.size + 1 < scanBound)
    (h : ∀ (h' : Heap) (tk : Nat), h'.SetOf knd s.heap.objs.size (fun k' => (metN val items.size).any (fun x => decide (x = k'))) (metN val items.size).length → (∀ b o, b < s.heap.objs.size → s.heap.get? b = some o → h'.get? b = some o) → Q (.ref s.heap.objs.size) { s with heap := h', toks := tk }) :
    wpAny (model prog w) A (call (.type "set") [.ref l]) Q E s := by
  refine setCall (knd := knd) (m := items.size) (val := val) (fun {R} led fin => ?_) h
  obtain ⟨⟨oc, odd, oda, osl⟩, hol, hcl, nl, hdl⟩ := hl
  simp only at hcl hdl
  subst hcl hdl
  have hS : (s.heap.push { cls := .type "set", dict := none, data := .set #[] 0 (.fresh 0 0 led) }).get? s.heap.objs.size = some { cls := .type "set", dict := none, data := .set #[] 0 (.fresh 0 0 led) } := Heap.get?_push_size _ rfl
  have o1 : (s.heap.push { cls := .type "set", dict := none, data := .set #[] 0 (.fresh 0 0 led) }).get? l = some { cls := .type "tuple", dict := odd, data := .seq items nl, slots := osl } := Heap.get?_push_of_some _ hol
  have q1 := PySem.F.sub_tuple_set
  have q2 := PySem.F.sub_tuple_frozenset
  have q3 : (Value.type "tuple" == Value.type "dict") = false := by decide
  have l1 : (s.heap.push { cls := .type "set", dict := none, data := .set #[] 0 (.fresh 0 0 led) }).IsTuple l items := ⟨_, o1, rfl, nl, rfl⟩
  unfold Builtin.«set.__init__» noKeywords Builtin.Frozenset.updateFrom
  generalize hPI : pyIter = PI
  wp_walk
  subst hPI
  refine wpAny_pyIter_tuple l1 (wpAny_bind (wpAny_runValue ?_))
  have z1 : l < s.heap.objs.size := Heap.lt_size hol
  have z2 : A.in1.in1.in1.handled = none := by simp [hh]
  have z3 : l ≠ (s.heap.push { cls := .type "set", dict := none, data := .set #[] 0 (.fresh 0 0 led) }).objs.size := by
    rw [Heap.size_push]; exact Nat.ne_of_lt (Nat.lt_succ_of_lt z1)
  have z4 : s.heap.objs.size ∉ [(s.heap.push { cls := .type "set", dict := none, data := .set #[] 0 (.fresh 0 0 led) }).objs.size, l] := by
    rw [Heap.size_push]; simp only [List.mem_cons, List.mem_singleton, List.not_mem_nil, or_false, not_or]
    exact ⟨Nat.ne_of_lt (Nat.lt_succ_self _), Nat.ne_of_gt z1⟩
  refine setLoop (knd := knd) ((Walks.tuple z2 _ l z3 items).toS) s.heap.objs.size z4 val hval hb (items.size - 0) 0 _ (by omega) (Nat.zero_le _) ⟨⟨_, Heap.get?_push_size _ rfl, rfl, rfl⟩, (l1.push _)⟩ ?_ ?_
  · have g : ((s.heap.push { cls := .type "set", dict := none, data := .set #[] 0 (.fresh 0 0 led) }).push { cls := .type "tuple_iterator", data := .fields #[.ref l, .int 0 0] }).get? s.heap.objs.size
        = some { cls := .type "set", dict := none, data := .set #[] 0 (.fresh 0 0 led) } := Heap.get?_push_of_some _ hS
    exact setOf_cg ((PyProof.Rows.setObjOf_fresh (knd := knd) led).setOf g (by unfold scanBound; omega)) (fun _ => rfl) rfl
  · intro s' hm hS'
    obtain ⟨h', g', d', tk', os'⟩ := s'
    obtain rfl : g' = s.gens := hm.gens
    obtain rfl : d' = s.drawn := hm.drawn
    obtain rfl : os' = s.os := hm.os
    refine wpAny_pure ?_
    refine wpAny_pure (fin h' tk' hS' fun b o hb e => ?_)
    have b1 : b ≠ s.heap.objs.size := Nat.ne_of_lt hb
    have b2 : b ≠ (s.heap.push { cls := .type "set", dict := none, data := .set #[] 0 (.fresh 0 0 led) }).objs.size := by
      rw [Heap.size_push]; exact Nat.ne_of_lt (Nat.lt_succ_of_lt hb)
    exact hm.heap b o (by simp only [List.mem_cons, List.mem_singleton, List.not_mem_nil, or_false, not_or]; exact ⟨b1, b2⟩) (Heap.get?_push_of_some _ (Heap.get?_push_of_some _ e))
end
end ZL
set_option Elab.async false
set_option linter.all false
set_option maxRecDepth 100000
set_option maxHeartbeats 4000000
namespace ZL
open PySem PySem.Spec PyProof.Rows L2
/-! ### comparing with an own == -/
section
open PySem.W
variable {prog : Program} {w : World} {A : Around} {E : Value → Shared → Prop} {s : Shared} {K : Frag} {x C f : Addr} {ox : Obj} {od : Option Obj} {b tb : Value}
theorem bltBound_K {M : Model} {name : Str} {id : String} {args : List Value} {Q : Option Value → Shared → Prop} (X : K.In s.heap) (I : InstAt s.heap x ox C od) (hs : findIn K (.ref C) name = some (some (.builtin id))) (hb : ∀ v, bindSpecial (.builtin id) v = pure (.builtin id, [v]))
    (h : wpAny M A (call (.builtin id) (.ref x :: args)) (fun v => Q (some v)) E s) : wpAny M A (callSpecialIfBound? (.ref x) name args) Q E s := by
  simp only [callSpecialIfBound?, bindSpecialIfBound?]
  refine wpAny_holding (wpAny_bind (wpAny_bind (wpAny_bind (I.type.here ((looks_findIn X hs).here ?_)))))
  simp only [hb]
  refine wpAny_bind (wpAny_askSetting (wpAny_ite ?_))
  have fin : wpAny M A (call (.builtin id) ([.ref x] ++ args) >>= fun v => pure (some v)) Q E s := wpAny_bind (wpAny_mono h (fun v s' h' => wpAny_pure h') fun _ _ h' => h')
  split
  · exact wpAny_bind (wpAny_pure (wpAny_pure (by exact fin)))
  · exact wpAny_tryCatch (wpAny_bind (wpAny_pure (wpAny_pure (by exact fin))))
/-- x != b, where the class has == of its own, the != of object -/
theorem cmpNe_K {Q : Value → Shared → Prop} (hu : A.units + 1 < cLine) (X : K.In s.heap) (I : InstAt s.heap x ox C od) (hb : Looks (model prog w) s.heap (typeOf b) tb) (hn : notFirst K C tb = true) (hs : findIn K (.ref C) "__eq__" = some (some (.ref f))) (hf : isFn K (.ref f) = true)
    (hne : findIn K (.ref C) "__ne__" = some (some (.builtin "object.__ne__"))) (hm : mroIn K C (.type "object") = some true)
    (h : wpAny (model prog w) A.in1 (call (.ref f) [.ref x, b]) (fun v s' => ∃ k, v = .bool k ∧ Q (.bool (!k)) s') E s) : wpAny (model prog w) A (richCompare .NotEq (.ref x) b) Q E s := by
  have sub : Looks (model prog w) s.heap (isInstance (.ref x) (.type "object")) true := I.type.andThen (looks_mroIn X hm)
  have body : wpAny (model prog w) A.in1 (Builtin.«object.__ne__» ⟨[.ref x, b], []⟩) (fun fin s' => ∃ v, fin = .done (.ret v) ∧ Q v s' ∧ ∃ k, v = .bool k) E s := by
    unfold Builtin.«object.__ne__»
    refine wpAny_bind (wpAny_of_eq (a := ((Value.ref x : Value), [b])) (by first | rfl | (simp only [slotArgs]; rfl)) ?_)
    dsimp only
    refine wpAny_bind (wpAny_cRoomFor (by show A.units + 1 < cLine; exact hu) ?_)
    refine wpAny_bind (m := callSpecialIfBound? (.ref x) (Str.ofString "__eq__") [b]) (ifBound_K X I hs hf (wpAny_mono h (fun v s' hv => ?_) fun _ _ e => e))
    obtain ⟨k, rfl, q⟩ := hv
    dsimp only
    refine wpAny_bind (m := truthy (.bool k)) (wpAny_truthy_bool ?_)
    exact wpAny_pure ⟨_, rfl, q, _, rfl⟩
  have one : wpAny (model prog w) A (tryCompare (.ref x) "__ne__" b) (fun r s' => ∃ v, r = some v ∧ Q v s') E s := by
    unfold tryCompare
    refine wpAny_bind (bltBound_K X I hne (PySem.F.slot_tuple_iterator_ne).bind (wpAny_call (codeAny_call_builtin (PySem.F.slot_tuple_iterator_ne).plain PySem.F.cmpEntry_ne ?_)))
    refine check_slot PySem.F.cmpKind_ne PySem.F.cmpSplit_ne sub (PySem.F.cmpArgs_ne _ _) ?_
    refine wpAny_mono body (fun r s' hr => ?_) fun _ _ e => e
    obtain ⟨v, rfl, q, k, rfl⟩ := hr
    exact (wpAny_pure ⟨_, rfl, q⟩ : wpAny (model prog w) A (pure (some (Value.bool k))) (fun r s' => ∃ v, r = some v ∧ Q v s') E s')
  unfold richCompare
  simp only [oneThing_ref]
  refine wpAny_holding (wpAny_bind (wpAny_cRoomFor (Nat.lt_of_succ_lt hu) ?_))
  refine wpAny_bind (I.type.here (wpAny_bind (hb.here ?_)))
  split
  · rename_i q
    have e : subIn K tb (.ref C) = some false := by
      rcases Bool.or_eq_true_iff.mp hn with e | e
      · rw [beq_iff_eq.mp e] at q; simp at q
      · exact beq_iff_eq.mp e
    refine wpAny_bind ((looks_subIn X e).here ?_)
    simp only [Bool.false_eq_true, if_false]
    refine wpAny_bind (wpAny_mono one (fun r s' z => ?_) fun _ _ e => e)
    obtain ⟨v, rfl, hq⟩ := z
    exact wpAny_pure hq
  · refine wpAny_bind (wpAny_pure ?_)
    simp only [Bool.false_eq_true, if_false]
    refine wpAny_bind (wpAny_mono one (fun r s' z => ?_) fun _ _ e => e)
    obtain ⟨v, rfl, hq⟩ := z
    exact wpAny_pure hq
end
/-- the class C has == of its own, which is F, and the != of object -/
structure EqOk (P : Program) (w : World) (K : PySem.W.Frag) (mg : Str → Option Value) (base : Heap) (k : Nat) (C : Str) (F : List Z → Hv → Res Z) (ts : List Ty) : Prop where
  ex : ∃ a, FnZ P w K mg base k a 2 F ∧ PySem.W.findIn K (.ref (He.ga K C)) "__eq__" = some (some (.ref a)) ∧ PySem.W.isFn K (.ref a) = true
  ne : PySem.W.findIn K (.ref (He.ga K C)) "__ne__" = some (some (.builtin "object.__ne__"))
  ob : PySem.W.mroIn K (He.ga K C) (.type "object") = some true
  nf : ∀ t, ts.contains t = true → PySem.W.notFirst K (He.ga K C) (tyVal K t) = true
/-- eqs: the classes with == of their own -/
def eqU (eqs : List (Str × List Ty × (List Z → Hv → Res Z))) (ps : List Str) (h : Hv) (x y : Z) : Res Bool := match insOf h x with
  | some (C, _, _) => match eqs.lookup C, tyOf ps h y with
    | some (ts, F), some t => if ts.contains t = true then (match F [x, y] h with
      | .ok (.bl b) h1 => .ok b h1
      | _ => .bad) else .bad
    | _, _ => .bad
  | none => match eqD h x y with
    | some b => .ok b h
    | none => .bad
def rdR (c : RC) (g : Hv → Z → Z → Res Bool) (f : Bool → Bool) : R2 := fun x y H Q => ∃ G F ρ h zx zy, W c G F ρ h H ∧ Rel c F ρ h.length zx x ∧ Rel c F ρ h.length zy y ∧ PostG RelB c nox G F ρ h.length [] (fun b H' => Q (.bl (f b)) H') (g h zx zy)
section
variable {X : Cx} {k : Nat} {eqs : List (Str × List Ty × (List Z → Hv → Res Z))} {ps : List Str}
theorem eq_run {pins : List (Addr × Obj)} {σ : L2.St} {H : Hp} {s : Shared} {A : Around} {F : List Z → Hv → Res Z} {a : Addr} {G Fh : Hp} {ρ : Nat → Addr} {h : Hv} {zx zy : Z} {x y : V} {u v : Value} {Q : Bool → Hp → Prop} {E : Value → Shared → Prop} (Fz : FnZ X.prog X.w X.K X.mg X.base k a 2 F) (hr : RoomG k A) (hA : A.frames = X.A.frames)
    (I : Inv X pins σ H s) (w : W ⟨X.K, no⟩ G Fh ρ h H) (rx : Rel ⟨X.K, no⟩ Fh ρ h.length zx x) (ry : Rel ⟨X.K, no⟩ Fh ρ h.length zy y) (vx : RelV x u) (vy : RelV y v)
    (p : PostG RelB ⟨X.K, no⟩ nox G Fh ρ h.length [] Q (match F [zx, zy] h with
      | .ok (.bl b) h1 => .ok b h1
      | _ => .bad)) :
    wpAny (model X.prog X.w) A (call (.ref a) [u, v]) (fun r s' => ∃ b H', r = .bool b ∧ Inv X pins σ H' s' ∧ Q b H') E s := by
  obtain ⟨⟨fd, ps, hb, hn, ok⟩, kp⟩ := Fz
  have e0 : Env0 X.prog X.w X.K X.mg X.base A X.stack s H := by
    have e := I.env0
    exact ⟨by rw [hA]; exact e.frames, e.mod, e.bs, e.bsz, e.funs, e.frf, e.hok, e.bare⟩
  have b := hb s [u, v] I.kIn (by simp [hn])
  rw [List.append_nil] at b
  have sp : spZ ⟨X.K, no⟩ 2 F [x, y] H (fun r H' => ∃ b, r = .bl b ∧ Q b H') (fun _ _ _ => False) := by
    refine ⟨rfl, G, Fh, ρ, h, [zx, zy], w, .cons rx (.cons ry .nil), ?_⟩
    revert p
    generalize F [zx, zy] h = r0
    cases r0 with
    | bad => exact fun p => False.elim p
    | exc e h1 => exact fun p => False.elim p
    | ok z h1 =>
      cases z with
      | bl b => exact fun p F' ρ' v H' e' w' r' => ⟨b, r', p F' ρ' b H' e' w' rfl⟩
      | _ => exact fun p => False.elim p
  refine wpAny_call (codeAny_mono (ok.run A X.stack s H ⟨[u, v], []⟩ [u, v] [x, y] _ _ hr e0 b (.cons vx (.cons vy .nil)) sp) fun r s' hq => ?_)
  cases r with
  | error e =>
    obtain ⟨_, _, _, _, _, _, _, _, _, _, _, _, z⟩ := hq
    exact z.elim
  | ok fl =>
    cases fl with
    | ret q =>
      obtain ⟨r, H', I', rr, bb, eb, q2⟩ := I.after hq
      subst eb
      cases rr
      exact ⟨bb, H', rfl, I', q2⟩
    | _ => exact False.elim hq
theorem oz_eqU (hr : RoomG (k + 1) X.A) (hE : ∀ C ts F, eqs.lookup C = some (ts, F) → EqOk X.prog X.w X.K X.mg X.base k C F ts) (hi : ∀ C, ps.contains C = true → InsOk X.K (He.ga X.K C)) : OpR X (compareOp .Eq) (rdR ⟨X.K, no⟩ (eqU eqs ps) fun b => b) := by
  intro pins s σ H x y v u Q I rx ry ⟨G, F, ρ, h, zx, zy, w, r1, r2, p⟩
  have hu : X.A.units + 64 < cLine := hr.rm.units
  unfold eqU at p
  cases e : insOf h zx with
  | none =>
    rw [e] at p
    dsimp only at p
    cases e2 : eqD h zx zy with
    | none => rw [e2] at p; exact False.elim p
    | some b =>
      rw [e2] at p
      exact oz_eq (ce := no) hu pins s σ H x y v u Q I rx ry ⟨G, F, ρ, h, zx, zy, .val (.bl b), w, r1, r2, by unfold eqZ; rw [e2]; rfl, fun v rv => by rw [show v = .bl b from rv]; exact p _ _ _ _ .refl w rfl⟩
  | some q =>
    obtain ⟨C, ns, vs⟩ := q
    rw [e] at p
    dsimp only at p
    cases e2 : eqs.lookup C with
    | none => rw [e2] at p; exact False.elim p
    | some tf =>
      obtain ⟨ts, Fe⟩ := tf
      cases e3 : tyOf ps h zy with
      | none => rw [e2, e3] at p; exact False.elim p
      | some t =>
        rw [e2, e3] at p
        dsimp only at p
        split at p
        · rename_i ht
          obtain ⟨⟨a, fz, h1, h2⟩, h3, h4, h5⟩ := hE C ts Fe e2
          obtain ⟨ad, dx, ws, rfl, o1, o2, o3⟩ := ins_rel w r1 e
          cases rx
          obtain ⟨mA, J, _⟩ := ins_get I.hok o1
          obtain ⟨od, J, _⟩ := J.look
          obtain ⟨m, hF⟩ := I.fr
          obtain ⟨Pk, Zk, pk, _⟩ := kit_of I ry (tyOf_rel w hi r2 e3)
          refine PySem.W.cmp_K (op := .Eq) hr.rm.units0 hF I.ok.mod.kin J (Zk.ty _ _ I.kIn pk) (h5 t ht) h1 h2 ?_
          refine wpAny_mono (eq_run (Q := fun b H' => Q (.bl b) H') fz (hr.mono (Nat.le_succ _)) rfl I w r1 r2 rfl ry p) (fun r s' ⟨b, H', e', I', q'⟩ => ?_) fun _ _ z => z
          subst e'
          exact ⟨.bl b, H', I', rfl, q'⟩
        · exact False.elim p
theorem oz_neU (hr : RoomG (k + 1) X.A) (hE : ∀ C ts F, eqs.lookup C = some (ts, F) → EqOk X.prog X.w X.K X.mg X.base k C F ts) (hi : ∀ C, ps.contains C = true → InsOk X.K (He.ga X.K C)) : OpR X (compareOp .NotEq) (rdR ⟨X.K, no⟩ (eqU eqs ps) fun b => !b) := by
  intro pins s σ H x y v u Q I rx ry ⟨G, F, ρ, h, zx, zy, w, r1, r2, p⟩
  have hu : X.A.units + 64 < cLine := hr.rm.units
  unfold eqU at p
  cases e : insOf h zx with
  | none =>
    rw [e] at p
    dsimp only at p
    cases e2 : eqD h zx zy with
    | none => rw [e2] at p; exact False.elim p
    | some b =>
      rw [e2] at p
      exact oz_ne (ce := no) hu pins s σ H x y v u Q I rx ry ⟨G, F, ρ, h, zx, zy, .val (.bl (!b)), w, r1, r2, by unfold neZ; rw [e2]; rfl, fun v rv => by rw [show v = .bl (!b) from rv]; exact p _ _ _ _ .refl w rfl⟩
  | some q =>
    obtain ⟨C, ns, vs⟩ := q
    rw [e] at p
    dsimp only at p
    cases e2 : eqs.lookup C with
    | none => rw [e2] at p; exact False.elim p
    | some tf =>
      obtain ⟨ts, Fe⟩ := tf
      cases e3 : tyOf ps h zy with
      | none => rw [e2, e3] at p; exact False.elim p
      | some t =>
        rw [e2, e3] at p
        dsimp only at p
        split at p
        · rename_i ht
          obtain ⟨⟨a, fz, h1, h2⟩, h3, h4, h5⟩ := hE C ts Fe e2
          obtain ⟨ad, dx, ws, rfl, o1, o2, o3⟩ := ins_rel w r1 e
          cases rx
          obtain ⟨mA, J, _⟩ := ins_get I.hok o1
          obtain ⟨od, J, _⟩ := J.look
          obtain ⟨Pk, Zk, pk, _⟩ := kit_of I ry (tyOf_rel w hi r2 e3)
          show wpAny (model X.prog X.w) X.A (richCompare .NotEq _ u) (EP X pins σ Q) X.xe s
          refine cmpNe_K (by have := hr.rm.units; omega) I.kIn J (Zk.ty _ _ I.kIn pk) (h5 t ht) h1 h2 h3 h4 ?_
          refine wpAny_mono (eq_run (A := X.A.in1) (Q := fun b H' => Q (.bl (!b)) H') fz ⟨hr.rm.in1, hr.gd⟩ rfl I w r1 r2 rfl ry p) (fun r s' ⟨b, H', e', I', q'⟩ => ⟨b, e', ?_⟩) fun _ _ z => z
          exact ⟨.bl (!b), H', I', rfl, q'⟩
        · exact False.elim p
/-! x == y, x != y as expressions -/
def zEqE (g : Hv → Z → Z → Res Bool) (f : Bool → Bool) (ma mb : ME) : ME := fun s h => (ma s h).bind fun x h1 => (mb s h1).bind fun y h2 => (g h2 x y).nox.bind fun b h3 => .ok (.bl (f b)) h3
theorem eqE_rd {E : WX} {c : RC} {g : Hv → Z → Z → Res Bool} {f : Bool → Bool} {ma mb : ME} {σ : L2.St} {H : Hp} {Q : VK} (q : rdE c E (zEqE g f ma mb) σ H Q) : rdE c E ma σ H fun x H1 => rdE c E mb σ H1 fun y H2 => rdR c g f x y H2 Q := by
  obtain ⟨G, F, ρ, zs, h, w, rs, p⟩ := q
  refine ⟨G, F, ρ, zs, h, w, rs, (PostG.bind (R := Rel) p).mono fun v H1 ⟨F1, ρ1, h1, z1, e1, w1, r1, p1⟩ => ?_⟩
  refine ⟨G, F1, ρ1, zs, h1, w1, rs.ext e1, (PostG.bind (R := Rel) p1).mono fun u H2 ⟨F2, ρ2, h2, z2, e2, w2, r2, p2⟩ => ?_⟩
  refine ⟨G, F2, ρ2, h2, z1, z2, w2, r1.ext e2, r2, ?_⟩
  dsimp only at p2
  revert p2
  generalize g h2 z1 z2 = r0
  cases r0 with
  | bad => exact fun p => False.elim p
  | exc x h3 => exact fun p => False.elim p
  | ok b h3 => exact fun p F3 ρ3 b' H3 e3 w3 eb => p F3 ρ3 _ H3 e3 w3 (by rw [show b' = b from eb]; rfl)
theorem ze_eqU {ce : Addr → Value → Option Addr → Prop} {E : WX} {op : CmpOp} {g : Hv → Z → Z → Res Bool} {f : Bool → Bool} {a b : Expr} {ma mb : ME} {pos : Pos} (ho : OpR X (compareOp op) (rdR ⟨X.K, ce⟩ g f)) (ha : ZE X ce E a ma) (hb : ZE X ce E b mb) (hm : behindInMarks op b = false := by first | exact nomark _ | rfl | with_unfolding_all rfl) :
    ZE X ce E (.Compare a [op] [b] pos) (zEqE g f ma mb) := PE.weak (pe_cmpR ho ha hb hm) fun σ H Q p => eqE_rd p
theorem zt_eqU {ce : Addr → Value → Option Addr → Prop} {E : WX} {op : CmpOp} {g : Hv → Z → Z → Res Bool} {f : Bool → Bool} {a b : Expr} {ma mb : ME} {pos : Pos} (ho : OpR X (compareOp op) (rdR ⟨X.K, ce⟩ g f)) (ha : ZE X ce E a ma) (hb : ZE X ce E b mb) (hm : behindInMarks op b = false := by first | exact nomark _ | rfl | with_unfolding_all rfl) :
    ZT X ce E (.Compare a [op] [b] pos) (zTst (zEqE g f ma mb)) := PT.weak (pt_cmpR ho ha hb hm) fun σ H Q p => eqE_rd (rdT_of p)
end
end ZL
set_option Elab.async false
set_option linter.all false
set_option maxRecDepth 100000
set_option maxHeartbeats 4000000
namespace ZL
open PySem PySem.Spec PyProof.Rows L2
/-! ### xs[::-1] -/
section
variable {prog : Program} {w : World} {A : Around} {E : Value → Shared → Prop} {s : Shared}
theorem applied_rev {sl : Addr} {vs : Value} {n : Nat} {Q : Int × Int × Nat → Shared → Prop} (hs : s.heap.IsSliceOf sl .none .none vs) (ps : IsPart vs (some (-1))) (h : Q ((n : Int) - 1, -1, n) s) : wpAny (model prog w) A (Builtin.Slice.sliceApplied (.ref sl) (pure (n : Int))) Q E s := by
  obtain ⟨os, hos, hcs, hds⟩ := id hs
  unfold Builtin.Slice.sliceApplied Builtin.Slice.sliceFields
  refine wpAny_bind (wpAny_bind (wpAny_field hos hds (x := .none) rfl (wpAny_bind (wpAny_field hos hds (x := .none) rfl (wpAny_bind (wpAny_field hos hds (x := vs) rfl (wpAny_pure ?_)))))))
  refine wpAny_bind (HT.slicePart_ ps ?_)
  show wpAny _ _ (if ((-1 : Int) == 0) = true then _ else _) _ _ s
  rw [if_neg (by decide)]
  refine wpAny_bind (HT.slicePart_ .none (wpAny_bind (HT.slicePart_ .none (wpAny_bind (wpAny_pure ?_)))))
  refine wpAny_pure ?_
  have e : Builtin.Slice.slicePlaces ((n : Int) - 1) (-1) (-1) = n := by
    unfold Builtin.Slice.slicePlaces
    rw [if_neg (by decide)]
    split <;> simp <;> omega
  show Q ((n : Int) - 1, -1, Builtin.Slice.slicePlaces ((n : Int) - 1) (-1) (-1)) s
  rw [e]
  exact h
theorem fm_map {α β : Type} {f : α → Option β} {g : α → β} : ∀ {l : List α}, (∀ k ∈ l, f k = some (g k)) → l.filterMap f = l.map g
  | [], _ => rfl
  | x :: l, h => by
    rw [List.filterMap_cons, h x List.mem_cons_self, List.map_cons, fm_map fun k hk => h k (List.mem_cons_of_mem _ hk)]
theorem pick_rev (xs : List Value) : ((List.range xs.toArray.size).filterMap fun (k : Nat) => xs.toArray[((xs.toArray.size : Int) - 1 + (k : Int) * (-1)).toNat]?) = xs.reverse := by
  have hsz : xs.toArray.size = xs.length := List.size_toArray
  rw [hsz]
  have e := fm_map (f := fun (k : Nat) => xs.toArray[((xs.length : Int) - 1 + (k : Int) * (-1)).toNat]?) (g := fun k => xs.reverse[k]?.getD .none) (l := List.range xs.length) (fun k hk => by
    have hk : k < xs.length := by simpa using hk
    have e1 : ((xs.length : Int) - 1 + (k : Int) * (-1)).toNat = xs.length - 1 - k := by omega
    rw [e1, List.getElem?_reverse hk, List.getElem?_toArray, List.getElem?_eq_getElem (by omega)]
    rfl)
  rw [e]
  apply List.ext_getElem?
  intro i
  rw [List.getElem?_map]
  by_cases hi : i < xs.length
  · rw [List.getElem?_range hi]
    simp [List.getElem?_eq_getElem (show i < xs.reverse.length by simpa using hi)]
  · rw [List.getElem?_eq_none (by simpa using hi), List.getElem?_eq_none (by simpa using hi)]
    rfl
theorem getItem_tuple_rev {t sl : Addr} {its : List Value} {vs : Value} {Q : Value → Shared → Prop} (ht : IsTup s.heap t its.toArray) (hs : s.heap.IsSliceOf sl .none .none vs) (ps : IsPart vs (some (-1)))
    (h : Q (.ref s.heap.objs.size) { s with heap := s.heap.push { cls := .type "tuple", data := .seq its.reverse.toArray } }) (hsz : its.length ≤ sizeLine) : wpAny (model prog w) A (getItem (.ref t) (.ref sl)) Q E s := by
  have tk : sizeOk (.seq its.reverse.toArray) := by
    show its.reverse.toArray.size ≤ sizeLine
    rw [List.size_toArray, List.length_reverse]; exact hsz
  obtain ⟨os, hos, hcs, hds⟩ := id hs
  have hT : s.TypeIs (.ref sl) "slice" := ⟨os, hos, hcs⟩
  unfold getItem
  try with_reducible refine wpAny_holding ?_
  first | refine wpAny_bind (wpAny_pure ?_) | skip
  refine wpAny_bind (wpAny_sequenceKey ht.typeIs (by decide) ?_)
  refine wpAny_bind (wpAny_callSpecial?_slot (name := Str.ofString "__getitem__") ht.typeIs PyProof.Rows.slot_tuple_getitem (wpAny_call_entry PyProof.Rows.slot_tuple_getitem ht.typeIs entry_tuple_getitem ?_ (args_tuple_getitem _ _)))
  refine wpAny_bind (m := Builtin.Tuple.tupleItemsOf (.ref t)) (tupleItemsOf_ ht ?_)
  refine wpAny_bind (wpAny_typeOf hT ?_)
  rw [if_pos (by decide)]
  refine wpAny_bind (by
    refine applied_rev hs ps ?_
    have no : ¬ ((((its.toArray.size : Int) - 1) == 0 && (-1 : Int) == 1 && its.toArray.size == its.toArray.size) = true) := by
      intro q
      rw [Bool.and_eq_true, Bool.and_eq_true] at q
      exact absurd q.1.2 (by decide)
    show wpAny _ _ (if (((its.toArray.size : Int) - 1) == 0 && (-1 : Int) == 1 && its.toArray.size == its.toArray.size) = true then _ else _) _ _ s
    rw [if_neg no, pick_rev]
    first
      | exact wpAny_bind (m := Builtin.Tuple.tupleExact _) (wpAny_newObj_type (wpAny_pure ⟨_, rfl, wpAny_pure h⟩) tk)
      | exact wpAny_bind (m := Builtin.Tuple.tupleExact _) (wpAny_newObj_type (wpAny_bind (wpAny_pure (wpAny_pure ⟨_, rfl, wpAny_pure h⟩))) tk)
      | exact wpAny_bind (wpAny_bind (m := Builtin.Tuple.tupleExact _) (wpAny_newObj_type (wpAny_pure (wpAny_pure ⟨_, rfl, wpAny_pure h⟩)) tk))
      | exact wpAny_bind (wpAny_bind (m := Builtin.Tuple.tupleExact _) (wpAny_newObj_type (wpAny_pure ⟨_, rfl, wpAny_pure h⟩) tk)))
end
/-- xs[::-1], xs a list or a tuple -/
def revZ (h : Hv) (z : Z) : Option Out := match z with
  | .tup xs => some (.tup xs.reverse)
  | .frl xs => some (.lst xs.reverse)
  | z => (lstOf h z).map fun xs => .lst xs.reverse
def zRev (mu : Bool) (m : ME) : ME := fun s h => (m s h).bind fun z h1 => Out.go mu h1 (revZ h1 z)
section
variable {X : Cx} {ce : Addr → Value → Option Addr → Prop} {E : WX}
theorem pe_rev {e : Expr} {te : TE} {k : Nat} {p1 p2 p3 pos : Pos} (he : PE X e te) : PE X (.Subscript e (.Slice none none (some (.UnaryOp .USub (.Constant (.int 1) k p1) p2)) p3) pos)
    (fun σ H Q => te σ H fun x H1 => ∃ a xs, x = .ref a ∧ ((SqL X.K H1 a xs ∧ ∀ p, H1 p = none → Q (.ref p) (upd H1 p (.lst xs.reverse))) ∨ (SqT X.K H1 a xs ∧ ∀ p, H1 p = none → Q (.ref p) (upd H1 p (.tup xs.reverse))))) := by
  refine ⟨fun pins s σ H Q I h => ?_⟩
  refine Subscript_ (thn (he.run pins s σ H _ I h) fun v s1 ⟨x, H1, I1, r1, q1⟩ => ?_)
  obtain ⟨a, xs, rfl, q⟩ := q1
  cases r1
  have st : PO X (some (.UnaryOp .USub (.Constant (.int 1) k p1) p2)) (tPart (tUn (rU fun i => .int (-i)) (tC (.int 1)))) := po_some (pe_un un_neg pe_int)
  refine wpAny_Slice (thn (po_none.run pins s1 σ H1 (fun o H2 => o = none ∧ H2 = H1) I1 ⟨rfl, rfl⟩) fun vl s2 ⟨l, H2, I2, pl, el, e2⟩ => ?_)
  subst el e2
  refine thn (po_none.run pins s2 σ H2 (fun o H3 => o = none ∧ H3 = H2) I2 ⟨rfl, rfl⟩) fun vu s3 ⟨u, H3, I3, pu, eu, e3⟩ => ?_
  subst eu e3
  refine thn (st.run pins s3 σ H3 (fun o H4 => o = some (-1) ∧ H4 = H3) I3 ⟨1, rfl, -1, rfl, rfl, rfl⟩) fun vs s4 ⟨o, H4, I4, ps, eo, e4⟩ => ?_
  subst eo e4
  have I5 : Inv X pins σ H4 { s4 with heap := s4.heap.push { cls := .type "slice", data := .fields #[vl, vu, vs] } } := I4.kept (t' := s4.toks) fun b ob q => Heap.get?_push_of_some _ q
  rcases q with ⟨hx, q⟩ | ⟨hx, q⟩
  · obtain ⟨its, r, ht, hz⟩ := I5.list hx
    refine tail_any (ops := [.ref a, .ref s4.heap.objs.size]) ht.isList.typeIs (PySem.slot_list_getitem.lookup) ?_ (by with_unfolding_all rfl)
    refine wpAny_getItem_list_slice ht.isList (Heap.IsSliceOf.new _ vl vu vs) pl pu ps (by decide) ?_ (by rw [List.size_toArray, ← r.length]; exact hz)
    rw [PySem.W.krv_pick]
    refine ⟨.ref _, _, I5.laid (t' := s4.toks) (o := .lst xs.reverse) (fun b ob q => Heap.get?_push_of_some _ q) (Nat.le_refl _) ?_, rfl, q _ (I5.hok.fresh (Nat.le_refl _))⟩
    exact ⟨by rw [List.length_reverse]; exact hz, _, 0, r.reverse, Heap.get?_push_size _ rfl⟩
  · obtain ⟨its, r, ht, hz⟩ := I5.tuple hx
    cases pl
    cases pu
    refine tail_any (ops := [.ref a, .ref s4.heap.objs.size]) ht.typeIs (PyProof.Rows.slot_tuple_getitem.lookup) ?_ (by with_unfolding_all rfl)
    refine getItem_tuple_rev ht (Heap.IsSliceOf.new _ .none .none vs) ps ?_ (by rw [← r.length]; exact hz)
    refine ⟨.ref _, _, I5.laid (t' := s4.toks) (o := .tup xs.reverse) (fun b ob q => Heap.get?_push_of_some _ q) (Nat.le_refl _) ?_, rfl, q _ (I5.hok.fresh (Nat.le_refl _))⟩
    exact ⟨by rw [List.length_reverse]; exact hz, _, r.reverse, ⟨_, Heap.get?_push_size _ rfl, rfl, _, rfl⟩⟩
theorem ze_rev {e : Expr} {m : ME} {k : Nat} {p1 p2 p3 pos : Pos} (mu : Bool) (he : ZE X ce E e m) : ZE X ce E (.Subscript e (.Slice none none (some (.UnaryOp .USub (.Constant (.int 1) k p1) p2)) p3) pos) (zRev mu m) :=
  PE.weak (pe_rev he) fun σ H Q ⟨G, F, ρ, zs, h, w, rs, p⟩ => ⟨G, F, ρ, zs, h, w, rs, (PostG.bind (R := Rel) p).mono fun v H1 ⟨F1, ρ1, h1, z1, e1, w1, r1, p1⟩ => by
    dsimp only at p1
    unfold revZ at p1
    split at p1
    · rename_i xs
      obtain ⟨a, ws, rfl, q, rr⟩ := r1
      exact ⟨a, ws, rfl, .inr ⟨SqT.of (w1.sub _ _ q), fun p np => out_post w1 p1 p _ np rr.reverse⟩⟩
    · rename_i xs
      obtain ⟨a, ws, rfl, q, rr⟩ := r1
      exact ⟨a, ws, rfl, .inl ⟨sqL_mono w1.sub q, fun p np => out_post w1 p1 p _ np rr.reverse⟩⟩
    · cases e2 : lstOf h1 z1 with
      | none => rw [e2] at p1; exact False.elim p1
      | some xs =>
        rw [e2] at p1
        obtain ⟨a, ws, rfl, q, rr⟩ := lst_rel w1 r1 e2
        exact ⟨a, ws, rfl, .inl ⟨SqL.of q, fun p np => out_post w1 p1 p _ np rr.reverse⟩⟩⟩
end
end ZL
set_option Elab.async false
set_option linter.all false
set_option maxRecDepth 100000
set_option maxHeartbeats 4000000
namespace ZL
open PySem PySem.Spec PyProof.Rows L2
/-! ### len(set(xs)) -/
def keyZ : Z → Option Key
  | .int i => some (.inl i)
  | .str x => some (.inr x)
  | _ => none
def keysZ : List Z → Option (List Key)
  | [] => some []
  | z :: zs => match keyZ z, keysZ zs with
    | some k, some ks => some (k :: ks)
    | _, _ => none
def nubK (ks : List Key) : List Key := ks.foldl metS []
theorem keys_rel {c : RC} {F : Hp} {ρ : Nat → Addr} {n : Nat} : ∀ {zs : List Z} {ws : List V} {ks : List Key}, Rels c F ρ n zs ws → keysZ zs = some ks → ws = ks.map kV
  | [], _, _, r, e => by cases e; exact r
  | z :: zs, ws, ks, r, e => by
    obtain ⟨v, us, rfl, r1, r2⟩ := r
    have e : (match keyZ z, keysZ zs with
      | some k, some ks => some (k :: ks)
      | _, _ => none) = some ks := e
    split at e
    · rename_i k ks' e1 e2
      cases e
      rw [keys_rel r2 e2]
      cases z with
      | int i => cases e1; cases r1; rfl
      | str x => cases e1; cases r1; rfl
      | _ => cases e1
    · cases e
theorem metN_nub (ks : List Key) : metN (fun i => ks.getD i (.inl 0)) ks.length = nubK ks := by
  unfold metN nubK
  congr 1
  apply List.ext_getElem?
  intro i
  rw [List.getElem?_map]
  by_cases hi : i < ks.length
  · rw [List.getElem?_range hi, List.getElem?_eq_getElem hi]
    simp [hi]
  · rw [List.getElem?_eq_none (by simpa using hi), List.getElem?_eq_none (by simpa using hi)]
    rfl
def zLenSet (m : ME) : ME := fun s h => (m s h).bind fun z h1 => match (seqOf h1 z).bind keysZ with
  | some ks => if ks.length < 4000 then .ok (.int (nubK ks).length) h1 else .bad
  | none => .bad
section
variable {X : Cx} {ce : Addr → Value → Option Addr → Prop} {E : WX}
theorem pe_lenSetK {a : Expr} {ta : TE} {p p2 q pos : Pos} (hc : X.calm = true) (hg : Gl X "len") (hm : X.mg "len" = none) (hg2 : Gl X "set") (hm2 : X.mg "set" = none) (ha : PE X a ta) (na : starEach [a] X.env = (false, eval a X.env) :: starEach [] X.env := by rfl) :
    PE X (.Call (.Name "len" p) [.Call (.Name "set" p2) [a] [] q] [] pos) (fun σ H Q => ta σ H fun x H1 => ∃ l, ∃ ks : List Key, x = .ref l ∧ (SqL X.K H1 l (ks.map kV) ∨ SqT X.K H1 l (ks.map kV)) ∧ ks.length < 4000 ∧ Q (.int (nubK ks).length) H1) := by
  refine ⟨fun pins s σ H Q I h => ?_⟩
  refine Call_ (ld_blt I hg hm boot_len ?_)
  refine PyProof.Rows.callWith_builtin1 (PyProof.Rows.args_cons ?_ rfl) rfl rfl
  refine Call_ (ld_blt I hg2 hm2 boot_set ?_)
  refine PyProof.Rows.callWith_type1 (PyProof.Rows.args_cons (thn (ha.run pins s σ H _ I h) fun v s1 ⟨x, H1, I1, r1, q1⟩ => PyProof.Rows.args_nil ?_) na) na rfl
  obtain ⟨l, ks, rfl, hq, h1, q1⟩ := q1
  cases r1
  have val : ∀ (its : List Value), Vals (ks.map kV) its → ∀ (i : Nat) (v : Value), its.toArray[i]? = some v → (mixKind X.prog X.w).is (ks.getD i (.inl 0)) v = true ∧ v.scannable = true := fun its r i v hv => by
    have hv : its[i]? = some v := by simpa using hv
    have hi : i < ks.length := by
      have := (List.getElem?_eq_some_iff.mp hv).1
      rw [← r.length, List.length_map] at this
      exact this
    obtain ⟨u, hu, ru⟩ := r.get (i := i) (x := kV ks[i]) (by simp [hi])
    rw [hv] at hu
    cases hu
    have e : ks.getD i (.inl 0) = ks[i] := by simp [hi]
    rw [e]
    exact ⟨kV_is ru, key_scan ru⟩
  have fin : ∀ (its : List Value), Vals (ks.map kV) its → ∀ (h' : Heap) (tk : Nat), h'.SetOf (mixKind X.prog X.w) s1.heap.objs.size (fun k' => (metN (fun i => ks.getD i (.inl 0)) its.toArray.size).any (fun x => decide (x = k'))) (metN (fun i => ks.getD i (.inl 0)) its.toArray.size).length →
      (∀ b o, b < s1.heap.objs.size → s1.heap.get? b = some o → h'.get? b = some o) →
      wpAny (model X.prog X.w) X.A (spliced (backTo pos (starEach [] X.env))) (fun vs s2 => wpAny (model X.prog X.w) X.A (call (.builtin "len") (Value.ref s1.heap.objs.size :: vs)) (EP X pins σ Q) X.xe s2) X.xe { s1 with heap := h', toks := tk } := fun its r h' tk hS hk => by
    refine PyProof.Rows.args_nil ?_
    have hl : its.toArray.size = ks.length := by rw [List.size_toArray, ← r.length, List.length_map]
    rw [hl, metN_nub] at hS
    have hle : (nubK ks).length ≤ ks.length := by rw [← metN_nub]; exact metN_le _ _
    obtain ⟨o, es, ep, t, ho, hex, hd, _, _, _, hf, hn⟩ := hS
    have I2 : Inv X pins σ H1 { s1 with heap := h', toks := tk } := I1.kept fun b o e => hk b o (Heap.lt_size e) e
    refine call_len_set ho hex hd hf (by rw [hn]; omega) ⟨.int (nubK ks).length, H1, I2.tok _, ⟨_, by rw [hn]⟩, q1⟩
  have hb : ∀ its : List Value, Vals (ks.map kV) its → its.toArray.size + 1 < scanBound := fun its r => by
    rw [List.size_toArray, ← r.length, List.length_map]
    show _ < 4096
    omega
  rcases hq with hq | hq
  · obtain ⟨its, r, pl, hz⟩ := I1.list hq
    exact call_set_keysL (knd := mixKind X.prog X.w) (I1.ok.hd hc) pl.isList (val its r) (hb its r) fun h' tk hS hk => fin its r h' tk hS hk
  · obtain ⟨its, r, pl, hz⟩ := I1.tuple hq
    exact call_set_keysT (knd := mixKind X.prog X.w) (I1.ok.hd hc) pl (val its r) (hb its r) fun h' tk hS hk => fin its r h' tk hS hk
theorem ze_lenSet {a : Expr} {m : ME} {p p2 q pos : Pos} (hc : X.calm = true) (hg : Gl X "len") (hm : X.mg "len" = none) (hg2 : Gl X "set") (hm2 : X.mg "set" = none) (ha : ZE X ce E a m) (na : starEach [a] X.env = (false, eval a X.env) :: starEach [] X.env := by rfl) :
    ZE X ce E (.Call (.Name "len" p) [.Call (.Name "set" p2) [a] [] q] [] pos) (zLenSet m) :=
  PE.weak (pe_lenSetK hc hg hm hg2 hm2 ha na) fun σ H Q ⟨G, F, ρ, zs, h, w, rs, p⟩ => ⟨G, F, ρ, zs, h, w, rs, (PostG.bind (R := Rel) p).mono fun v H1 ⟨F1, ρ1, h1, z1, e1, w1, r1, p1⟩ => by
    dsimp only at p1
    cases e2 : seqOf h1 z1 with
    | none => rw [e2] at p1; exact False.elim p1
    | some xs =>
      rw [e2] at p1
      dsimp only [Option.bind] at p1
      cases e3 : keysZ xs with
      | none => rw [e3] at p1; exact False.elim p1
      | some ks =>
        rw [e3] at p1
        dsimp only at p1
        split at p1
        · rename_i hl
          obtain ⟨a, ws, rfl, q, rr⟩ := seq_rel w1 r1 e2
          rw [keys_rel rr e3] at q
          exact ⟨a, ks, rfl, q, hl, p1 _ _ _ _ .refl w1 rfl⟩
        · exact False.elim p1⟩
end
/-! ### repr -/
def keyD : Key → PyData
  | .inl i => .int i
  | .inr x => .str x
def zipD : List Key → List PyData → List (PyData × PyData)
  | k :: ks, d :: ds => (keyD k, d) :: zipD ks ds
  | _, _ => []
mutual
/-- what is never changed, as plain data, dicts too -/
def datZ : Z → Option PyData
  | .non => some .none
  | .bl b => some (.bool b)
  | .int i => some (.int i)
  | .str x => some (.str x)
  | .tup xs => (datZs xs).map .tuple
  | .lst xs => (datZs xs).map .list
  | .dkf ks xs => (datZs xs).map fun ds => .dict (zipD ks ds)
  | _ => none
def datZs : List Z → Option (List PyData)
  | [] => some []
  | z :: zs => match datZ z, datZs zs with
    | some d, some ds => some (d :: ds)
    | _, _ => none
end
section
variable {X : Cx} {pins : List (Addr × Obj)} {σ : L2.St} {H : Hp} {s : Shared} {c : RC} {F : Hp} {ρ : Nat → Addr} {n : Nat}
def InH (H : Hp) (as : List Addr) : Prop := ∀ b ∈ as, ∃ o, H b = some o
theorem inH_app {as bs : List Addr} (a : InH H as) (b : InH H bs) : InH H (as ++ bs) := fun x hx => (List.mem_append.mp hx).elim (a x) (b x)
theorem key_reads {h : Heap} {k : Key} {u : Value} (a : keyIs k u = true) : Reads h u (keyD k) [] := by
  rcases keyIs_shape a with ⟨i, t, rfl, rfl⟩ | ⟨x, t, rfl, rfl⟩
  · exact .int _ _
  · exact .str _ _
theorem zipD_keys : ∀ {ks : List Key} {ds : List PyData}, ks.length = ds.length → (zipD ks ds).map (·.1) = ks.map keyD ∧ (zipD ks ds).map (·.2) = ds
  | [], [], _ => ⟨rfl, rfl⟩
  | [], _ :: _, h => by cases h
  | _ :: _, [], h => by cases h
  | k :: ks, d :: ds, h => by
    obtain ⟨h1, h2⟩ := zipD_keys (ks := ks) (ds := ds) (Nat.succ.inj h)
    exact ⟨by show keyD k :: (zipD ks ds).map (·.1) = _; rw [h1]; rfl, by show d :: (zipD ks ds).map (·.2) = _; rw [h2]⟩
theorem datZs_len : ∀ {zs : List Z} {ds : List PyData}, datZs zs = some ds → zs.length = ds.length
  | [], _, e => by cases e; rfl
  | z :: zs, ds, e => by
    have e : (match datZ z, datZs zs with
      | some d, some ds => some (d :: ds)
      | _, _ => none) = some ds := e
    split at e
    · rename_i d ds' e1 e2
      cases e
      rw [List.length_cons, List.length_cons, datZs_len e2]
    · cases e
theorem pairs_reads {h : Heap} : ∀ {es : List DictEntry} {vs : List (Key × Value)}, Pairs (mixKind X.prog X.w) es vs → ReadsAll h (es.map (·.key)) (vs.map fun p => keyD p.1) [] ∧ es.map (·.val) = vs.map (·.2) := by
  intro es vs p
  induction p with
  | nil => exact ⟨.nil, rfl⟩
  | cons hk hv r ih =>
    obtain ⟨i1, i2⟩ := ih
    refine ⟨?_, ?_⟩
    · exact ReadsAll.cons (as := []) (bs := []) (key_reads hk) i1
    · first
        | (rw [List.map_cons, List.map_cons, i2, hv])
        | (simp [i2, hv])
theorem kv_split : ∀ {ks : List Key} {ws : List V} {vs : List (Key × Value)}, ks.length = ws.length → KV (ks.zip ws) vs → vs.map (·.1) = ks ∧ Vals ws (vs.map (·.2))
  | [], [], _, _, .nil => ⟨rfl, .nil⟩
  | [], _ :: _, _, h, _ => nomatch h
  | _ :: _, [], _, h, _ => nomatch h
  | k :: ks, w :: ws, _, h, .cons a t => by
    obtain ⟨i1, i2⟩ := kv_split (ks := ks) (ws := ws) (Nat.succ.inj h) t
    exact ⟨by rw [List.map_cons, i1, ← a.1], .cons a.2 i2⟩
mutual
theorem dat_reads (I : Inv X pins σ H s) (sub : ∀ a o, F a = some o → H a = some o) : ∀ {z : Z} {v : V} {u : Value} {d : PyData}, Rel c F ρ n z v → RelV v u → datZ z = some d → ∃ as, Reads s.heap u d as ∧ InH H as
  | .non, _, u, _, r, q, e => by cases r; cases e; obtain rfl : u = .none := q; exact ⟨_, .none, fun _ h => nomatch h⟩
  | .bl b, _, u, _, r, q, e => by cases r; cases e; obtain rfl : u = .bool b := q; exact ⟨_, .bool b, fun _ h => nomatch h⟩
  | .int i, _, u, _, r, q, e => by cases r; cases e; obtain ⟨t, rfl⟩ := q; exact ⟨_, .int i t, fun _ h => nomatch h⟩
  | .str x, _, u, _, r, q, e => by cases r; cases e; obtain ⟨t, rfl⟩ := q; exact ⟨_, .str x t, fun _ h => nomatch h⟩
  | .tup xs, _, u, d, r, q, e => by
    obtain ⟨a, ws, rfl, q1, rr⟩ := r
    obtain rfl : u = .ref a := q
    have e : (datZs xs).map PyData.tuple = some d := e
    cases e1 : datZs xs with
    | none => rw [e1] at e; cases e
    | some ds =>
      rw [e1] at e; cases e
      obtain ⟨_, its, rv, o, h1, h2, k, h3⟩ := (show ObjOk X.prog X.w H s.heap a (.tup ws) from I.hok a _ (sub _ _ q1))
      obtain ⟨as, r1, r2⟩ := dats_reads I sub rr rv e1
      exact ⟨as, .tuple h1 h2 h3 (by simpa using r1), r2⟩
  | .lst xs, _, u, d, r, q, e => by
    obtain ⟨a, ws, rfl, q1, rr⟩ := r
    obtain rfl : u = .ref a := q
    have e : (datZs xs).map PyData.list = some d := e
    cases e1 : datZs xs with
    | none => rw [e1] at e; cases e
    | some ds =>
      rw [e1] at e; cases e
      obtain ⟨_, its, k, rv, h1⟩ := (show ObjOk X.prog X.w H s.heap a (.lst ws) from I.hok a _ (sub _ _ q1))
      obtain ⟨as, r1, r2⟩ := dats_reads I sub rr rv e1
      exact ⟨a :: as, .list h1 rfl rfl (by simpa using r1), fun b hb => by
        rcases List.mem_cons.mp hb with z | z
        · exact ⟨_, by rw [z]; exact sub _ _ q1⟩
        · exact r2 b z⟩
  | .dkf ks xs, _, u, d, r, q, e => by
    obtain ⟨a, ws, rfl, q1, hl, rr⟩ := r
    obtain rfl : u = .ref a := q
    have e : (datZs xs).map (fun ds => PyData.dict (zipD ks ds)) = some d := e
    cases e1 : datZs xs with
    | none => rw [e1] at e; cases e
    | some ds =>
      rw [e1] at e; cases e
      obtain ⟨_, hd, vs, kv, o, es, ep, h1, h2, h3, h4, h5, h6⟩ := dk_of I.hok (sub _ _ q1)
      obtain ⟨p1, p2⟩ := pairs_reads (h := s.heap) h5
      have kv1 := kv_split hl kv
      obtain ⟨as, r1, r2⟩ := dats_reads I sub rr kv1.2 e1
      have hz := zipD_keys (ks := ks) (ds := ds) (by rw [hl, ← rr.length]; exact datZs_len e1)
      have k1 : ReadsAll s.heap (es.toList.map (·.key)) ((zipD ks ds).map (·.1)) [] := by
        rw [hz.1, ← kv1.1, List.map_map]; exact p1
      have k2 : ReadsAll s.heap (es.toList.map (·.val)) ((zipD ks ds).map (·.2)) as := by
        rw [hz.2, p2]; exact r1
      refine ⟨a :: [] ++ as, .dict h1 h2.1 h3 k1 k2, fun b hb => ?_⟩
      rcases List.mem_cons.mp hb with z | z
      · exact ⟨_, by rw [z]; exact sub _ _ q1⟩
      · exact r2 b z
  | .ty _, _, _, _, _, _, e => by cases e
  | .glo _, _, _, _, _, _, e => by cases e
  | .ref _, _, _, _, _, _, e => by cases e
  | .frl _, _, _, _, _, _, e => by cases e
  | .ins _ _ _, _, _, _, _, _, e => by cases e
  | .exc _ _ _, _, _, _, _, _, e => by cases e
theorem dats_reads (I : Inv X pins σ H s) (sub : ∀ a o, F a = some o → H a = some o) : ∀ {zs : List Z} {ws : List V} {us : List Value} {ds : List PyData}, Rels c F ρ n zs ws → Vals ws us → datZs zs = some ds → ∃ as, ReadsAll s.heap us ds as ∧ InH H as
  | [], _, us, _, r, q, e => by
    cases e
    rw [show _ = _ from r] at q
    cases q
    exact ⟨_, .nil, fun _ h => nomatch h⟩
  | z :: zs, ws, us, ds, r, q, e => by
    obtain ⟨v, vs, rfl, r1, r2⟩ := r
    cases q with
    | cons a t =>
      have e : (match datZ z, datZs zs with
        | some d, some ds => some (d :: ds)
        | _, _ => none) = some ds := e
      split at e
      · rename_i d ds' e1 e2
        cases e
        obtain ⟨as, x1, x2⟩ := dat_reads I sub r1 a e1
        obtain ⟨bs, y1, y2⟩ := dats_reads I sub r2 t e2
        exact ⟨_, .cons x1 y1, inH_app x2 y2⟩
      · cases e
end
end
theorem vals1' {v : V} {us : List Value} (r : Vals [v] us) : ∃ u, us = [u] ∧ RelV v u := by
  cases r with
  | cons a t => cases t; exact ⟨_, rfl, a⟩
def reprZ (_ : Hv) : List Z → Option Out
  | [z] => match z, datZ z with
    | .tup _, some d => if d.showable = true ∧ d.depth ≤ 60 ∧ d.shown.length ≤ sizeLine then some (.val (.str d.shown)) else none
    | .lst _, some d => if d.showable = true ∧ d.depth ≤ 60 ∧ d.shown.length ≤ sizeLine then some (.val (.str d.shown)) else none
    | .int i, _ => if i.natAbs.log2 < 1920 then some (.val (.str (toString i))) else none
    | .str x, _ => if (reprText x).length ≤ sizeLine then some (.val (.str (reprText x))) else none
    | .bl b, _ => some (.val (.str (if b then "True" else "False")))
    | .non, _ => some (.val (.str "None"))
    | _, _ => none
  | _ => none
section
variable {X : Cx} {ce : Addr → Value → Option Addr → Prop} {k : Nat}
theorem cz_repr (hr : RoomG k X.A) (hsm : ∃ o, X.K.lookup sysModules = some o) : CallR X (.builtin "repr") (rdCall ⟨X.K, ce⟩ reprZ) := by
  intro pins s σ H xs us Q I r ⟨G, F, ρ, h, zs, o, w, rr, e, q⟩
  have go : ∀ {z : Z} {v : V} {u : Value} {d : PyData} {a : Addr}, v = .ref a → Rel ⟨X.K, ce⟩ F ρ h.length z v → RelV v u → datZ z = some d → d.showable = true ∧ d.depth ≤ 60 ∧ d.shown.length ≤ sizeLine → (∀ y, Rel ⟨X.K, ce⟩ F ρ h.length (.str d.shown) y → Q y H) →
      wpAny (model X.prog X.w) X.A (call (.builtin "repr") [u]) (EP X pins σ Q) X.xe s := by
    intro z v u d a hv rz vu ed hd q
    subst hv
    obtain ⟨as, r1, r2⟩ := dat_reads I w.sub rz vu ed
    obtain rfl : u = .ref a := vu
    refine repr_of_reads' r1 hd.1 (fun _ hm => ?_) hr.gd (by have := hr.rm.units; omega) (fun b o e => e) (fun h' u tk hk => ⟨.str d.shown, H, I.kept (t' := tk) hk, ⟨u, rfl⟩, q _ rfl⟩) hd.2.2
    obtain ⟨o1, e1⟩ := hsm
    obtain ⟨o2, e2⟩ := r2 _ hm
    have := (I.bs _ _ (I.ok.mod.kin _ _ e1)).2
    rw [e2] at this
    cases this
  unfold reprZ at e
  split at e
  · rename_i z
    obtain ⟨v1, rfl, r1⟩ := rels1 rr
    obtain ⟨u, rfl, vu⟩ := vals1' r
    split at e
    · rename_i xs d ed
      split at e
      · rename_i hd
        cases e
        obtain ⟨a, ws, hv, _⟩ := id r1
        exact go hv r1 vu ed hd q
      · cases e
    · rename_i xs d ed
      split at e
      · rename_i hd
        cases e
        obtain ⟨a, ws, hv, _⟩ := id r1
        exact go hv r1 vu ed hd q
      · cases e
    · split at e
      · rename_i hi
        cases e; cases r1
        obtain ⟨t, rfl⟩ := vu
        exact PySem.P.repr_of_int hi ⟨.str _, H, I.tok _, ⟨_, rfl⟩, q _ rfl⟩
      · cases e
    · split at e
      · rename_i hi
        cases e; cases r1
        obtain ⟨t, rfl⟩ := vu
        exact PySem.P.repr_of_str ⟨.str _, H, I.tok _, ⟨_, rfl⟩, q _ rfl⟩ hi
      · cases e
    · cases e; cases r1
      cases vu
      exact PySem.P.repr_of_bool ⟨.str _, H, I.tok _, ⟨_, rfl⟩, q _ rfl⟩
    · cases e; cases r1
      cases vu
      exact PySem.P.repr_of_none ⟨.str _, H, I.tok _, ⟨_, rfl⟩, q _ rfl⟩
    · cases e
  · cases e
end
end ZL
set_option Elab.async false
set_option linter.all false
set_option maxRecDepth 100000
set_option maxHeartbeats 4000000
namespace ZL
open PySem PySem.Spec PyProof.Rows L2
/-! ### {k: v for ..} -/
def putD (k : Key) (z : Z) (ks : List Key) (vs : List Z) : List Key × List Z :=
  if (ks.any fun n => decide (n = k)) = true then (ks, List.zipWith (fun n x => if n = k then z else x) ks vs) else (ks ++ [k], vs ++ [z])
section
variable {c : RC} {F : Hp} {ρ : Nat → Addr} {n : Nat}
theorem any_zip {α : Type} (k : Key) : ∀ {ks : List Key} {ws : List α}, ks.length = ws.length → ((ks.zip ws).any fun kv => decide (kv.1 = k)) = ks.any fun n => decide (n = k)
  | [], [], _ => rfl
  | [], _ :: _, h => nomatch h
  | _ :: _, [], h => nomatch h
  | x :: ks, w :: ws, h => by rw [List.zip_cons_cons, List.any_cons, List.any_cons, any_zip k (Nat.succ.inj h)]
theorem repl_zip (k : Key) (v : V) : ∀ {ks : List Key} {ws : List V}, ks.length = ws.length → (ks.zip ws).map (fun kv => if kv.1 = k then (kv.1, v) else kv) = ks.zip (List.zipWith (fun n x => if n = k then v else x) ks ws)
  | [], [], _ => rfl
  | [], _ :: _, h => nomatch h
  | _ :: _, [], h => nomatch h
  | x :: ks, w :: ws, h => by
    rw [List.zip_cons_cons, List.map_cons, repl_zip k v (Nat.succ.inj h), List.zipWith_cons_cons, List.zip_cons_cons]
    by_cases e : x = k
    · simp [e]
    · simp [e]
theorem repl_rel (k : Key) {z : Z} {v : V} (r0 : Rel c F ρ n z v) : ∀ {ks : List Key} {vs : List Z} {ws : List V}, Rels c F ρ n vs ws → Rels c F ρ n (List.zipWith (fun m x => if m = k then z else x) ks vs) (List.zipWith (fun m x => if m = k then v else x) ks ws)
  | [], _, _, _ => rfl
  | _ :: _, [], _, r => by rw [show _ = _ from r]; rfl
  | x :: ks, y :: vs, ws, r => by
    obtain ⟨u, us, rfl, r1, r2⟩ := r
    rw [List.zipWith_cons_cons, List.zipWith_cons_cons]
    refine .cons ?_ (repl_rel k r0 r2)
    by_cases e : x = k
    · rw [if_pos e, if_pos e]; exact r0
    · rw [if_neg e, if_neg e]; exact r1
theorem putD_rel (k : Key) {z : Z} {v : V} (r0 : Rel c F ρ n z v) {ks : List Key} {vs : List Z} {ws : List V} (hl : ks.length = ws.length) (r : Rels c F ρ n vs ws) :
    ∃ us, putK (ks.zip ws) k v = (putD k z ks vs).1.zip us ∧ (putD k z ks vs).1.length = us.length ∧ Rels c F ρ n (putD k z ks vs).2 us := by
  unfold putK putD
  rw [any_zip k hl]
  split
  · exact ⟨_, repl_zip k v hl, by simp [hl], repl_rel k r0 r⟩
  · exact ⟨ws ++ [v], by rw [List.zip_append hl]; rfl, by simp [hl], r.append (.cons r0 .nil)⟩
end
theorem putD_len (k : Key) (z : Z) (ks : List Key) (vs : List Z) : (putD k z ks vs).1.length ≤ ks.length + 1 := by
  unfold putD
  split
  · exact Nat.le_succ _
  · simp
def dcRun (s : Sg) (g : TgZ) (tt : MT) (tk tv : ME) : List Z → List Key × List Z → Hv → Res (List Key × List Z)
  | [], a, h => .ok a h
  | z :: zs, a, h => match g z s with
    | none => .bad
    | some s1 => (tt s1 h).nox.bind fun b h1 => if b = true then (tk s1 h1).nox.bind fun y h2 => (tv s1 h2).nox.bind fun v h3 => match keyZ y with
      | some k => dcRun s g tt tk tv zs (putD k v a.1 a.2) h3
      | none => .bad
      else dcRun s g tt tk tv zs a h1
def zDc (vs : List Nat) (wi : MI) (g : TgZ) (tt : MT) (tk tv : ME) : ME := fun s h => (wi s h).bind fun zs h1 => (dcRun (wipeZ s vs) g tt tk tv zs ([], []) h1).bind fun a h2 => .ok (.ref h2.length) (h2 ++ [.dk a.1 a.2])
section
variable {X : Cx} {ce : Addr → Value → Option Addr → Prop} {E : WX}
theorem dc_rd {c : RC} {vs : List Nat} {wi : MI} {g : TgZ} {tt : MT} {tk tv : ME} {σ : L2.St} {H : Hp} {Q : VK} (q : rdE c E (zDc vs wi g tt tk tv) σ H Q) : tDc (rdI c E wi) (rdG c vs g) (rdT c nox tt) (rdE c nox tk) (rdE c nox tv) vs σ H Q := by
  obtain ⟨G, F, ρ, zs, h, w, rs, p⟩ := q
  refine ⟨G, F, ρ, zs, h, w, rs, (PostG.bind (R := JOk) p).mono fun J H1 ⟨F1, ρ1, h1, items, e1, w1, j1, p1⟩ => ?_⟩
  dsimp only at p1
  intro D nD
  have rs1 := (rs.ext e1).wipe vs
  have gD : G D = none := by
    cases q : G D with
    | none => rfl
    | some u => rw [(w1.pro D u q).1] at nD; cases nD
  let goal (i : Nat) (a : List Key × List Z) (h2 : Hv) : Res Z := (dcRun (wipeZ zs vs) g tt tk tv (items.drop i) a h2).bind fun a h3 => .ok (.ref h3.length) (h3 ++ [.dk a.1 a.2])
  refine ⟨fun i m H => ∃ F2 ρ2 h2 a ws, Ext F1 ρ1 h1.length F2 ρ2 h2.length ∧ W c (upd G D (.dK (a.1.zip ws))) F2 ρ2 h2 H ∧ a.1.length = ws.length ∧ Rels c F2 ρ2 h2.length a.2 ws ∧ m + i = items.length ∧ a.1.length ≤ i ∧ PostG Rel c E G F2 ρ2 h2.length σ Q (goal i a h2),
    ⟨items.length, F1, ρ1, h1, ([], []), [], .refl, w1.guard nD _, rfl, Rels.nil, rfl, Nat.le_refl _, p1⟩, ?_⟩
  rintro i m H2 ⟨F2, ρ2, h2, a, ws, e2, w2, la, ra, hm, hacc, p2⟩
  obtain ⟨j3, j4⟩ := j1.2 _ F2 ρ2 h2 _ e2 w2 i
  by_cases hlt : i < items.length
  · obtain ⟨go, yl⟩ := j3 items[i] (List.getElem?_eq_getElem hlt)
    refine .inr ⟨go, fun H' => ∃ F2 ρ2 h2 a ws, Ext F1 ρ1 h1.length F2 ρ2 h2.length ∧ W c (upd G D (.dK (a.1.zip ws))) F2 ρ2 h2 H' ∧ a.1.length = ws.length ∧ Rels c F2 ρ2 h2.length a.2 ws ∧ a.1.length ≤ i + 1 ∧ PostG Rel c E G F2 ρ2 h2.length σ Q (goal (i + 1) a h2),
      fun H' ⟨F3, ρ3, h3, a3, ws3, e3, x3, l3, r3, b3, p3⟩ => ⟨m - 1, by omega, F3, ρ3, h3, a3, ws3, e3, x3, l3, r3, by omega, b3, p3⟩, fun x H' y => ?_⟩
    obtain ⟨F3, e3, w3, r3⟩ := yl x H' y
    dsimp only [goal] at p2
    rw [List.drop_eq_getElem_cons hlt] at p2
    simp only [dcRun] at p2
    cases eg : g items[i] (wipeZ zs vs) with
    | none => rw [eg] at p2; exact False.elim p2
    | some s3 =>
      rw [eg] at p2
      dsimp only at p2
      refine ⟨F3, ρ2, h2.length, wipeZ zs vs, items[i], s3, w3.sub, (rs1.ext e2).ext e3, r3, eg, fun σ3 rs3 k3 => ⟨wipe_keep k3, _, F3, ρ2, s3, h2, w3, rs3, ?_⟩⟩
      rw [bind_assoc] at p2
      have p2 := p2.ext e3
      have ra := ra.ext e3
      have e23 := e2.trans e3
      revert p2
      dsimp only
      cases et : tt s3 h2 with
      | bad => exact fun p => False.elim p
      | exc x h3 => exact fun p => False.elim p
      | ok b h3 =>
        intro p2 F4 ρ4 b' H4 e4 w4 eb
        cases (show b' = b from eb)
        have ra := ra.ext e4
        cases b with
        | false =>
          have p3 : PostG Rel c E G F4 ρ4 h3.length σ Q (goal (i + 1) a h3) := PostG.ext p2 e4
          rw [if_neg Bool.false_ne_true]
          exact ⟨F4, ρ4, h3, a, ws, e23.trans e4, w4, la, ra, by omega, p3⟩
        | true =>
          have p3 : PostG Rel c E G F4 ρ4 h3.length σ Q (((tk s3 h3).nox.bind fun y h2 => (tv s3 h2).nox.bind fun v h3 => match keyZ y with
            | some k => dcRun (wipeZ zs vs) g tt tk tv (items.drop (i + 1)) (putD k v a.1 a.2) h3
            | none => .bad).bind fun a h3 => .ok (.ref h3.length) (h3 ++ [.dk a.1 a.2])) := PostG.ext p2 e4
          rw [if_pos rfl]
          rw [bind_assoc] at p3
          refine ⟨_, F4, ρ4, s3, h3, w4, rs3.ext e4, ?_⟩
          dsimp only
          revert p3
          cases ek : tk s3 h3 with
          | bad => exact fun p => False.elim p
          | exc x h3 => exact fun p => False.elim p
          | ok y h4 =>
            intro p3 F5 ρ5 yv H5 e5 w5 ry
            have p4 : PostG Rel c E G F5 ρ5 h4.length σ Q (((tv s3 h4).nox.bind fun v h3 => match keyZ y with
              | some k => dcRun (wipeZ zs vs) g tt tk tv (items.drop (i + 1)) (putD k v a.1 a.2) h3
              | none => .bad).bind fun a h3 => .ok (.ref h3.length) (h3 ++ [.dk a.1 a.2])) := PostG.ext p3 e5
            rw [bind_assoc] at p4
            refine ⟨_, F5, ρ5, s3, h4, w5, (rs3.ext e4).ext e5, ?_⟩
            dsimp only
            have ra := ra.ext e5
            revert p4
            cases ev : tv s3 h4 with
            | bad => exact fun p => False.elim p
            | exc x h3 => exact fun p => False.elim p
            | ok v h5 =>
              intro p4 F6 ρ6 vv H6 e6 w6 rv
              have ra := ra.ext e6
              cases eky : keyZ y with
              | none =>
                have p5 : PostG Rel c E G F5 ρ5 h4.length σ Q (((match keyZ y with
                  | some k => dcRun (wipeZ zs vs) g tt tk tv (items.drop (i + 1)) (putD k v a.1 a.2) h5
                  | none => .bad : Res (List Key × List Z))).bind fun a h3 => .ok (.ref h3.length) (h3 ++ [.dk a.1 a.2])) := p4
                rw [eky] at p5
                exact False.elim p5
              | some k =>
                have p5 : PostG Rel c E G F6 ρ6 h5.length σ Q (((match keyZ y with
                  | some k => dcRun (wipeZ zs vs) g tt tk tv (items.drop (i + 1)) (putD k v a.1 a.2) h5
                  | none => .bad : Res (List Key × List Z))).bind fun a h3 => .ok (.ref h3.length) (h3 ++ [.dk a.1 a.2])) := PostG.ext p4 e6
                rw [eky] at p5
                obtain ⟨q1, q2, q3⟩ := w6.pro D _ upd_same
                obtain ⟨us, u1, u2, u3⟩ := putD_rel k rv la ra
                have hk : yv = kV k := by
                  have := keys_rel (zs := [y]) (ks := [k]) (.cons ry .nil) (by simp [keysZ, eky])
                  simpa using this
                refine ⟨_, k, hk, q1, ?_, ?_⟩
                · have := j1.1
                  rw [List.length_zip, la, Nat.min_self]
                  omega
                · rw [u1]
                  exact ⟨F6, ρ6, h5, putD k v a.1 a.2, us, ((e23.trans e4).trans e5).trans e6, w6.reguard _, u2, u3, by have := putD_len k v a.1 a.2; omega, p5⟩
  · have hi : items.length ≤ i := Nat.le_of_not_lt hlt
    have p3 : PostG Rel c E G F2 ρ2 h2.length σ Q (.ok (.ref h2.length) (h2 ++ [.dk a.1 a.2])) := by
      dsimp only [goal] at p2
      rw [List.drop_eq_nil_of_le hi] at p2
      exact p2
    obtain ⟨q1, w0⟩ := w2.unguard gD
    have eq : H2 = upd (fun b => if b = D then none else H2 b) D (.dK (a.1.zip ws)) := by
      funext b
      by_cases z : b = D
      · rw [z, upd_same]; exact q1
      · rw [upd_ne z, if_neg z]
    refine .inl ⟨j4 hi, ?_⟩
    rw [eq]
    obtain ⟨ρ', e0, w1, e1⟩ := w0.new (if_pos rfl) (o := .dK (a.1.zip ws)) (m := .dk a.1 a.2) rfl fun ρ' e => ⟨ws, upd_same, la, ra.ext e⟩
    exact p3 _ _ _ _ e1 w1 ⟨by simp, by rw [e0]⟩
theorem ze_dc {kx vx tg iter : Expr} {ifs : List Expr} {scope : Scope} {own : List (Str × Nat)} {pos : Pos} {vs : List Nat} {wi : MI} {g : TgZ} {tt : MT} {tk tv : ME} (hc : X.calm = true) (hN : X.N.Nodup) (hi : ZI X ce E tg iter wi) (ok : BlkOk X.N X.env.scope scope own) (hv : own.map (·.2) = vs)
    (hg : ∀ (s : Shared) (H : Hp) (C : Addr) (cl : List (Str × Addr)) (fp : List Addr), ZG (X.blk s H scope (compEnvC scope cl C X.env) fp) ce vs tg g) (ht : ∀ (s : Shared) (H : Hp) (C : Addr) (cl : List (Str × Addr)) (fp : List Addr), ZTs (X.blk s H scope (compEnvC scope cl C X.env) fp) ce nox ifs tt)
    (hk : ∀ (s : Shared) (H : Hp) (C : Addr) (cl : List (Str × Addr)) (fp : List Addr), ZE (X.blk s H scope (compEnvC scope cl C X.env) fp) ce nox kx tk) (he : ∀ (s : Shared) (H : Hp) (C : Addr) (cl : List (Str × Addr)) (fp : List Addr), ZE (X.blk s H scope (compEnvC scope cl C X.env) fp) ce nox vx tv)
    (hs : ∀ x, foldedSetIterable iter X.env x = pure x := by intro _; rfl) : ZE X ce E (.DictComp kx vx [⟨tg, iter, ifs, 0⟩] scope pos) (zDc vs wi g tt tk tv) := by
  subst hv
  exact PE.weak (pe_dc (g := rdG ⟨X.K, ce⟩ (own.map fun p : Str × Nat => p.2) g) (tt := rdT ⟨X.K, ce⟩ nox tt) (tk := rdE ⟨X.K, ce⟩ nox tk) (tv := rdE ⟨X.K, ce⟩ nox tv) hc hN hi ok hg ht hk he hs) fun σ H Q q => dc_rd q
end
end ZL
set_option Elab.async false
set_option linter.all false
set_option maxRecDepth 100000
set_option maxHeartbeats 4000000
namespace ZL
open PySem PySem.Spec PyProof.Rows L2
/-! ### dict displays -/
def RelP (c : RC) (F : Hp) (ρ : Nat → Addr) (n : Nat) (l : List (Z × Z)) (ps : List (V × V)) : Prop := Rels c F ρ n (l.map (·.1)) (ps.map (·.1)) ∧ Rels c F ρ n (l.map (·.2)) (ps.map (·.2))
def zPrs : List (ME × ME) → Sg → Hv → Res (List (Z × Z))
  | [], _, h => .ok [] h
  | q :: r, s, h => (q.1 s h).bind fun x h1 => (q.2 s h1).bind fun y h2 => (zPrs r s h2).bind fun l h3 => .ok ((x, y) :: l) h3
def zDisp (mu : Bool) (ps : List (ME × ME)) : ME := fun s h => (zPrs ps s h).bind fun l h1 => match keysZ (l.map (·.1)) with
  | some ks => if ks.Nodup ∧ ks.length ≤ 15 then (if mu = true then .ok (.ref h1.length) (h1 ++ [.dk ks (l.map (·.2))]) else .ok (.dkf ks (l.map (·.2))) h1) else .bad
  | none => .bad
section
variable {c : RC} {E : WX}
theorem prs_rd {G : Hp} {σ : L2.St} {Q : List (V × V) → Hp → Prop} : ∀ {ps : List (ME × ME)} {F : Hp} {ρ : Nat → Addr} {h : Hv} {H : Hp} {zs : Sg}, W c G F ρ h H → RelS c F ρ h.length zs σ → PostG RelP c E G F ρ h.length σ Q (zPrs ps zs h) → tPairs (ps.map fun q => (rdE c E q.1, rdE c E q.2)) σ H Q
  | [], _, _, _, _, _, w, rs, p => p _ _ _ _ .refl w ⟨rfl, rfl⟩
  | q :: r, F, ρ, h, H, zs, w, rs, p => ⟨G, F, ρ, zs, h, w, rs, (PostG.bind (R := Rel) p).mono fun v H1 ⟨F1, ρ1, h1, z1, e1, w1, r1, p1⟩ =>
    ⟨G, F1, ρ1, zs, h1, w1, rs.ext e1, (PostG.bind (R := Rel) p1).mono fun u H2 ⟨F2, ρ2, h2, z2, e2, w2, r2, p2⟩ =>
      prs_rd w2 ((rs.ext e1).ext e2) ((PostG.bind (R := RelP) p2).mono fun l H3 ⟨F3, ρ3, h3, zl, e3, w3, r3, p3⟩ => p3 _ _ ((v, u) :: l) _ .refl w3 ⟨.cons ((r1.ext e2).ext e3) r3.1, .cons (r2.ext e3) r3.2⟩)⟩⟩
theorem merge_nodup : ∀ (l acc : List (Key × V)), ((acc ++ l).map (·.1)).Nodup → mergeK acc l = acc ++ l
  | [], acc, _ => (List.append_nil acc).symm
  | p :: l, acc, h => by
    have e : putK acc p.1 p.2 = acc ++ [p] := by
      unfold putK
      have no : ¬ (acc.any fun kv => decide (kv.1 = p.1)) = true := by
        intro q
        obtain ⟨x, hx, ex⟩ := List.any_eq_true.mp q
        have ex : x.1 = p.1 := of_decide_eq_true ex
        rw [List.map_append, List.nodup_append] at h
        exact h.2.2 x.1 (List.mem_map_of_mem hx) p.1 (List.mem_map_of_mem List.mem_cons_self) ex
      rw [if_neg no]
    show mergeK (putK acc p.1 p.2) l = _
    rw [e, merge_nodup l (acc ++ [p]) (by simpa using h)]
    simp
theorem zip_fst {α β : Type} : ∀ {as : List α} {bs : List β}, as.length = bs.length → (as.zip bs).map (·.1) = as
  | [], [], _ => rfl
  | [], _ :: _, h => nomatch h
  | _ :: _, [], h => nomatch h
  | a :: as, b :: bs, h => by rw [List.zip_cons_cons, List.map_cons, zip_fst (Nat.succ.inj h)]
theorem pairs_keys : ∀ {ps : List (V × V)} {ks : List Key}, ps.map (·.1) = ks.map kV → ps = (ks.zip (ps.map (·.2))).map fun kv => (kV kv.1, kv.2)
  | [], [], _ => rfl
  | [], _ :: _, h => nomatch h
  | _ :: _, [], h => nomatch h
  | p :: ps, k :: ks, h => by
    have h1 : p.1 = kV k ∧ ps.map (·.1) = ks.map kV := by simpa using h
    rw [List.map_cons, List.zip_cons_cons, List.map_cons, ← pairs_keys h1.2, ← h1.1]
theorem disp_rd {mu : Bool} {ps : List (ME × ME)} {σ : L2.St} {H : Hp} {Q : VK} (q : rdE c E (zDisp mu ps) σ H Q) : tDisp (ps.map fun q => (rdE c E q.1, rdE c E q.2)) σ H Q := by
  obtain ⟨G, F, ρ, zs, h, w, rs, p⟩ := q
  intro D nD
  have gD : G D = none := by
    cases q : G D with
    | none => rfl
    | some u => rw [(w.pro D u q).1] at nD; cases nD
  have key : PostG RelP c E G F ρ h.length σ (Mid RelP c G F ρ h.length fun F1 ρ1 h1 l => PostG Rel c E G F1 ρ1 h1.length σ Q (match keysZ (l.map (·.1)) with
    | some ks => if ks.Nodup ∧ ks.length ≤ 15 then (if mu = true then .ok (.ref h1.length) (h1 ++ [.dk ks (l.map (·.2))]) else .ok (.dkf ks (l.map (·.2))) h1) else .bad
    | none => .bad)) (zPrs ps zs h) := PostG.bind p
  have key2 : PostG RelP c E (upd G D (.dK [])) F ρ h.length σ (fun ps H2 => H2 D = some (.dK []) ∧ ∃ kvs : List (Key × V), ps = kvs.map (fun kv => (kV kv.1, kv.2)) ∧ kvs.length ≤ 15 ∧ Q (.ref D) (upd H2 D (.dK (mergeK [] kvs)))) (zPrs ps zs h) := by
    have p' : PostG Rel c E G F ρ h.length σ Q ((zPrs ps zs h).bind fun l h1 => match keysZ (l.map (·.1)) with
      | some ks => if ks.Nodup ∧ ks.length ≤ 15 then (if mu = true then .ok (.ref h1.length) (h1 ++ [.dk ks (l.map (·.2))]) else .ok (.dkf ks (l.map (·.2))) h1) else .bad
      | none => .bad) := p
    clear key p
    revert p'
    cases zPrs ps zs h with
    | bad => exact fun p => False.elim p
    | exc x h1 =>
      intro p F' ρ' H' cls d e' w' r'
      exact p F' ρ' H' cls d e' ⟨w'.sub, w'.obj, w'.inj, w'.nof, fun a o q => w'.pro a o (by
        by_cases z : a = D
        · rw [z, gD] at q; cases q
        · rw [upd_ne z]; exact q)⟩ r'
    | ok l h1 =>
      intro p F' ρ' prs H' e' w' r'
      have p1 : PostG Rel c E G F' ρ' h1.length σ Q (match keysZ (l.map (·.1)) with
        | some ks => if ks.Nodup ∧ ks.length ≤ 15 then (if mu = true then .ok (.ref h1.length) (h1 ++ [.dk ks (l.map (·.2))]) else .ok (.dkf ks (l.map (·.2))) h1) else .bad
        | none => .bad) := PostG.ext p e'
      cases ek : keysZ (l.map (·.1)) with
      | none => rw [ek] at p1; exact False.elim p1
      | some ks =>
        rw [ek] at p1
        dsimp only at p1
        split at p1
        · rename_i hk
          have k1 := keys_rel r'.1 ek
          have ll : ks.length = (prs.map (·.2)).length := by
            have := congrArg List.length k1
            simpa using this.symm
          obtain ⟨q1, w0⟩ := w'.unguard gD
          have mrg : mergeK [] (ks.zip (prs.map (·.2))) = ks.zip (prs.map (·.2)) := by
            rw [merge_nodup _ [] (by rw [List.nil_append, zip_fst ll]; exact hk.1), List.nil_append]
          refine ⟨q1, ks.zip (prs.map (·.2)), pairs_keys k1, by rw [List.length_zip, ll, Nat.min_self, ← ll]; exact hk.2, ?_⟩
          rw [mrg]
          have eq : upd H' D (.dK (ks.zip (prs.map (·.2)))) = upd (fun b => if b = D then none else H' b) D (.dK (ks.zip (prs.map (·.2)))) := by
            funext b
            by_cases z : b = D
            · rw [z, upd_same, upd_same]
            · rw [upd_ne z, upd_ne z, if_neg z]
          rw [eq]
          cases mu with
          | true =>
            rw [if_pos rfl] at p1
            obtain ⟨ρ2, e0, w1, e1⟩ := w0.new (if_pos rfl) (o := .dK (ks.zip (prs.map (·.2)))) (m := .dk ks (l.map (·.2))) rfl fun ρ' e => ⟨_, upd_same, ll, r'.2.ext e⟩
            exact p1 _ _ _ _ e1 w1 ⟨by simp, by rw [e0]⟩
          | false =>
            rw [if_neg Bool.false_ne_true] at p1
            obtain ⟨w1, e1⟩ := w0.frz (if_pos rfl) (.dK (ks.zip (prs.map (·.2))))
            exact p1 _ _ _ _ e1 w1 ⟨D, _, rfl, upd_same, ll, r'.2.ext e1⟩
        · exact False.elim p1
  exact prs_rd (w.guard nD _) rs key2
end
section
variable {X : Cx} {ce : Addr → Value → Option Addr → Prop} {E : WX}
def ZPs (X : Cx) (ce : Addr → Value → Option Addr → Prop) (E : WX) (pos : Pos) (keys : List (Option Expr)) (vals : List Expr) (ps : List (ME × ME)) : Prop := PPs X pos keys vals (ps.map fun q => (rdE ⟨X.K, ce⟩ E q.1, rdE ⟨X.K, ce⟩ E q.2))
theorem zps_nil {pos : Pos} : ZPs X ce E pos [] [] [] := pps_nil
theorem zps_cons {pos : Pos} {k v : Expr} {ks : List (Option Expr)} {vs : List Expr} {mk mv : ME} {ps : List (ME × ME)} (hk : ZE X ce E k mk) (hv : ZE X ce E v mv) (hr : ZPs X ce E pos ks vs ps) : ZPs X ce E pos (some k :: ks) (v :: vs) ((mk, mv) :: ps) := pps_cons hk hv hr
theorem ze_disp {pos : Pos} {keys : List (Option Expr)} {vals : List Expr} {ps : List (ME × ME)} (mu : Bool) (h : ZPs X ce E pos keys vals ps) (hall : keys.all (·.isSome) = true := by rfl) (hl : keys.length = vals.length := by rfl) (h0 : keys ≠ [] := by intro z; cases z) (h15 : keys.length ≤ 15 := by decide) : ZE X ce E (.Dict keys vals pos) (zDisp mu ps) :=
  PE.weak (pe_disp h hall hl h0 h15) fun σ H Q q => disp_rd q
theorem ze_disp0 {pos : Pos} (mu : Bool) : ZE X ce E (.Dict [] [] pos) (zDisp mu []) := PE.weak pe_dnewK fun σ H Q ⟨G, F, ρ, zs, h, w, rs, p⟩ => fun D nD => by
  have p1 : PostG Rel ⟨X.K, ce⟩ E G F ρ h.length σ Q (if mu = true then .ok (.ref h.length) (h ++ [.dk [] []]) else .ok (.dkf [] []) h) := p
  cases mu with
  | true =>
    rw [if_pos rfl] at p1
    obtain ⟨ρ2, e0, w1, e1⟩ := w.new nD (o := .dK []) (m := .dk [] []) rfl fun ρ' e => ⟨[], upd_same, rfl, rfl⟩
    exact p1 _ _ _ _ e1 w1 ⟨by simp, by rw [e0]⟩
  | false =>
    rw [if_neg Bool.false_ne_true] at p1
    obtain ⟨w1, e1⟩ := w.frz nD (.dK [])
    exact p1 _ _ _ _ e1 w1 ⟨D, [], rfl, upd_same, rfl, rfl⟩
end
/-! ### zip, enumerate -/
def frozL : Z → Option (List Z)
  | .lst xs => some xs
  | .frl xs => some xs
  | _ => none
def prZ (x y : Z) : Z := .tup [x, y]
def iZip (t : MA) : MI := fun s h => (t s h).bind fun zs h1 => match zs with
  | [.tup xs, .tup ys] => if xs.length ≤ sizeLine then .ok (List.zipWith prZ xs ys) h1 else .bad
  | [x, y] => match frozL x, frozL y with
    | some xs, some ys => if xs.length ≤ sizeLine then .ok (List.zipWith prZ xs ys) h1 else .bad
    | _, _ => .bad
  | _ => .bad
def numZ (xs : List Z) : List Z := List.zipWith (fun (i : Nat) x => prZ (.int (i : Int)) x) (List.range xs.length) xs
def iEnm (t : MA) : MI := fun s h => (t s h).bind fun zs h1 => match zs with
  | [x] => match frozL x with
    | some xs => if xs.length ≤ sizeLine then .ok (numZ xs) h1 else .bad
    | none => .bad
  | _ => .bad
theorem zw_get {α β γ : Type} {f : α → β → γ} : ∀ {as : List α} {bs : List β} {i : Nat} {z : γ}, (List.zipWith f as bs)[i]? = some z → ∃ a b, as[i]? = some a ∧ bs[i]? = some b ∧ z = f a b
  | [], _, i, z, h => by simp at h
  | _ :: _, [], i, z, h => by simp at h
  | a :: as, b :: bs, 0, z, h => by simp at h; exact ⟨a, b, rfl, rfl, h.symm⟩
  | a :: as, b :: bs, i + 1, z, h => by
    rw [List.zipWith_cons_cons, List.getElem?_cons_succ] at h
    obtain ⟨x, y, h1, h2, h3⟩ := zw_get h
    exact ⟨x, y, by simpa using h1, by simpa using h2, h3⟩
theorem frozL_rel {c : RC} {F : Hp} {ρ : Nat → Addr} {n : Nat} {z : Z} {v : V} {xs : List Z} (r : Rel c F ρ n z v) (e : frozL z = some xs) : ∃ a ws, v = .ref a ∧ SqL c.K F a ws ∧ Rels c F ρ n xs ws := by
  cases z with
  | lst ys => cases e; obtain ⟨a, ws, rfl, q, rr⟩ := r; exact ⟨a, ws, rfl, SqL.of q, rr⟩
  | frl ys => cases e; obtain ⟨a, ws, rfl, q, rr⟩ := r; exact ⟨a, ws, rfl, q, rr⟩
  | _ => cases e
section
variable {c : RC} {F : Hp} {ρ : Nat → Addr} {n : Nat}
theorem jok_zipT {a b : Addr} {xs ys : List Z} {us ws : List V} (hz : xs.length ≤ sizeLine) (qa : SqT c.K F a us) (qb : SqT c.K F b ws) (ra : Rels c F ρ n xs us) (rb : Rels c F ρ n ys ws) : JOk c F ρ n (List.zipWith prZ xs ys) (RZ.ItzT c.K a b) := by
  refine ⟨by rw [List.length_zipWith]; omega, fun G F' ρ' h H e w i => ?_⟩
  have sa : SqT c.K H a us := sqT_mono (fun a o p => w.sub _ _ (e.1 _ _ p)) qa
  have sb : SqT c.K H b ws := sqT_mono (fun a o p => w.sub _ _ (e.1 _ _ p)) qb
  refine ⟨fun z hz => ?_, fun hi => ⟨us, ws, sa, sb, by rw [List.length_zipWith, ra.length, rb.length] at hi; omega⟩⟩
  obtain ⟨x, y, h1, h2, rfl⟩ := zw_get hz
  obtain ⟨u, k1, k2⟩ := ra.get h1
  obtain ⟨v, l1, l2⟩ := rb.get h2
  refine ⟨⟨us, ws, u, v, sa, sb, k1, l1⟩, fun x' H' ⟨T, u', v', e1, nT, e2, f1, f2⟩ => ?_⟩
  subst e1 e2
  have := f1 us sa; rw [k1] at this; cases this
  have := f2 ws sb; rw [l1] at this; cases this
  obtain ⟨w1, e1⟩ := w.frz nT (.tup [u, v])
  exact ⟨_, e1, w1, T, [u, v], rfl, upd_same, .cons ((k2.ext e).ext e1) (.cons ((l2.ext e).ext e1) .nil)⟩
theorem jok_zip {a b : Addr} {xs ys : List Z} {us ws : List V} (hz : xs.length ≤ sizeLine) (qa : SqL c.K F a us) (qb : SqL c.K F b ws) (ra : Rels c F ρ n xs us) (rb : Rels c F ρ n ys ws) : JOk c F ρ n (List.zipWith prZ xs ys) (Itz c.K a b) := by
  refine ⟨by rw [List.length_zipWith]; omega, fun G F' ρ' h H e w i => ?_⟩
  have sa : SqL c.K H a us := sqL_mono (fun a o p => w.sub _ _ (e.1 _ _ p)) qa
  have sb : SqL c.K H b ws := sqL_mono (fun a o p => w.sub _ _ (e.1 _ _ p)) qb
  refine ⟨fun z hz => ?_, fun hi => ⟨us, ws, sa, sb, by rw [List.length_zipWith, ra.length, rb.length] at hi; omega⟩⟩
  obtain ⟨x, y, h1, h2, rfl⟩ := zw_get hz
  obtain ⟨u, k1, k2⟩ := ra.get h1
  obtain ⟨v, l1, l2⟩ := rb.get h2
  refine ⟨⟨us, ws, u, v, sa, sb, k1, l1⟩, fun x' H' ⟨T, u', v', e1, nT, e2, f1, f2⟩ => ?_⟩
  subst e1 e2
  have := f1 us sa; rw [k1] at this; cases this
  have := f2 ws sb; rw [l1] at this; cases this
  obtain ⟨w1, e1⟩ := w.frz nT (.tup [u, v])
  exact ⟨_, e1, w1, T, [u, v], rfl, upd_same, .cons ((k2.ext e).ext e1) (.cons ((l2.ext e).ext e1) .nil)⟩
theorem jok_enum {a : Addr} {xs : List Z} {us : List V} (hz : xs.length ≤ sizeLine) (qa : SqL c.K F a us) (ra : Rels c F ρ n xs us) : JOk c F ρ n (numZ xs) (Ite c.K a) := by
  refine ⟨by unfold numZ; rw [List.length_zipWith, List.length_range]; omega, fun G F' ρ' h H e w i => ?_⟩
  have sa : SqL c.K H a us := sqL_mono (fun a o p => w.sub _ _ (e.1 _ _ p)) qa
  refine ⟨fun z hz => ?_, fun hi => ⟨us, sa, by unfold numZ at hi; rw [List.length_zipWith, List.length_range, ra.length] at hi; omega⟩⟩
  obtain ⟨x, y, h1, h2, rfl⟩ := zw_get hz
  obtain ⟨hx1, hx2⟩ := List.getElem?_eq_some_iff.mp h1
  have hx : x = i := by simpa using hx2.symm
  subst hx
  obtain ⟨v, l1, l2⟩ := ra.get h2
  refine ⟨⟨us, v, sa, l1⟩, fun x' H' ⟨T, v', e1, nT, e2, f2⟩ => ?_⟩
  subst e1 e2
  have := f2 us sa; rw [l1] at this; cases this
  obtain ⟨w1, e1⟩ := w.frz nT (.tup [.int (x : Nat), v])
  exact ⟨_, e1, w1, T, _, rfl, upd_same, .cons rfl (.cons ((l2.ext e).ext e1) .nil)⟩
end
section
variable {X : Cx} {ce : Addr → Value → Option Addr → Prop} {E : WX}
theorem zi_zip {e e2 : Expr} {t : MA} {p pos tpos : Pos} {elts : List Expr} {kk : Nat} (hg : Gl X "zip") (hm : X.mg "zip" = none) (ha : ZA X ce E [e, e2] t)
    (hs : starEach [e, e2] X.env = (false, eval e X.env) :: starEach [e2] X.env := by rfl) (hpl : (backTo pos (starEach [e2] X.env)).any (·.1) = false := by rfl) : ZI X ce E (.Tuple elts kk tpos) (.Call (.Name "zip" p) [e, e2] [] pos) (iZip t) :=
  PI.weak (RZ.pi_zipA hg hm ha hs hpl) fun σ H R ⟨G, F, ρ, zs, h, w, rs, p⟩ => ⟨G, F, ρ, zs, h, w, rs, (PostG.bind (R := Rels) p).mono fun v H1 ⟨F1, ρ1, h1, z1, e1, w1, r1, p1⟩ => by
    dsimp only at p1
    split at p1
    · rename_i xs ys
      split at p1
      · rename_i hz
        obtain ⟨v1, v2, rfl, ⟨a, us, rfl, q1, k1⟩, ⟨b, ws, rfl, q2, k2⟩⟩ := rels2 r1
        exact ⟨a, b, us, ws, rfl, .inr ⟨SqT.of (w1.sub _ _ q1), SqT.of (w1.sub _ _ q2), p1 _ _ _ _ .refl w1 (jok_zipT (c := ⟨X.K, ce⟩) hz (SqT.of q1) (SqT.of q2) k1 k2)⟩⟩
      · exact False.elim p1
    · rename_i x y _
      split at p1
      · rename_i xs ys ex ey
        split at p1
        · rename_i hz
          obtain ⟨v1, v2, rfl, ra, rb⟩ := rels2 r1
          obtain ⟨a, us, rfl, q1, k1⟩ := frozL_rel ra ex
          obtain ⟨b, ws, rfl, q2, k2⟩ := frozL_rel rb ey
          exact ⟨a, b, us, ws, rfl, .inl ⟨sqL_mono w1.sub q1, sqL_mono w1.sub q2, p1 _ _ _ _ .refl w1 (jok_zip (c := ⟨X.K, ce⟩) hz q1 q2 k1 k2)⟩⟩
        · exact False.elim p1
      · exact False.elim p1
    · exact False.elim p1⟩
theorem zi_enum {e : Expr} {t : MA} {p pos tpos : Pos} {elts : List Expr} {kk : Nat} (hg : Gl X "enumerate") (hm : X.mg "enumerate" = none) (ha : ZA X ce E [e] t) (hs : starEach [e] X.env = [(false, eval e X.env)] := by rfl) :
    ZI X ce E (.Tuple elts kk tpos) (.Call (.Name "enumerate" p) [e] [] pos) (iEnm t) :=
  PI.weak (pi_enum hg hm ha hs) fun σ H R ⟨G, F, ρ, zs, h, w, rs, p⟩ => ⟨G, F, ρ, zs, h, w, rs, (PostG.bind (R := Rels) p).mono fun v H1 ⟨F1, ρ1, h1, z1, e1, w1, r1, p1⟩ => by
    dsimp only at p1
    split at p1
    · rename_i x
      split at p1
      · rename_i xs ex
        split at p1
        · rename_i hz
          obtain ⟨v1, rfl, ra⟩ := rels1 r1
          obtain ⟨a, us, rfl, q1, k1⟩ := frozL_rel ra ex
          exact ⟨a, us, rfl, sqL_mono w1.sub q1, p1 _ _ _ _ .refl w1 (jok_enum (c := ⟨X.K, ce⟩) hz q1 k1)⟩
        · exact False.elim p1
      · exact False.elim p1
    · exact False.elim p1⟩
/-! () * n -/
theorem op_rep0 {pins : List (Addr × Obj)} {s : Shared} {σ : L2.St} {H : Hp} {l : Addr} {k : Int} {u : Value} {Q : VK} (I : Inv X pins σ H s) (ru : RelV (.int k) u) (hk : -(2 ^ 63) ≤ k ∧ k < 2 ^ 63) (hT : SqT X.K H l []) (q : Q (.ref l) H) :
    wpAny (model X.prog X.w) X.A (binaryOp .Mult (.ref l) u) (EP X pins σ Q) X.xe s := by
  obtain ⟨t, rfl⟩ := ru
  obtain ⟨its, r, ⟨⟨cls, dd, data, sl⟩, ho, hc, n, hd⟩, hs⟩ := I.tuple hT
  simp only at hc hd
  subst hc hd
  cases r
  have mul : Meets (Builtin.«tuple.__mul__» ⟨[.ref l, .int k t], []⟩) (fun _ R s => s.heap.get? l = some { cls := .type "tuple", dict := dd, data := .seq ([] : List Value).toArray n, slots := sl } ∧ R (.ok (.ret (.ref l))) s) :=
    .of_wp fun prog w A R s h => by
      obtain ⟨hp, g, d, tk, os⟩ := s
      obtain ⟨hl, h⟩ := h
      have f1 := AutoSeq1.idx_int
      have c0 : (decide (k < -(2 ^ 63)) || decide (k ≥ 2 ^ 63)) = false := by rw [decide_eq_false (by omega), decide_eq_false (by omega)]; rfl
      wp_walk using wpAny_loadPart' hl
      refine wpAny_ite_false (decide_eq_false (by rw [c0]; exact Bool.false_ne_true)) ?_
      wp_walk using wpAny_loadPart' hl
      exact ⟨_, rfl, h⟩
  refine wpAny_binaryOp_repeat_ref (T := "tuple") (U := "int") (by decide) ⟨_, ho, rfl⟩ (fun s' => typeIs_int s' k t) noFill_tuple_mul F.fills_int_mul F.slot_int_rmul repeat_tuple F.slot_int_index.lookup
    (call_meets F.slot_int_rmul (typeIs_int s k t) F.entry_int_rmul (F.args_int_rmul_2 _ _) (int_rmul_tuple k t l _ n dd sl)
      ⟨ho, rfl, ⟨_, ho, rfl⟩, call_meets F.slot_tuple_mul ⟨_, ho, rfl⟩ F.entry_tuple_mul (F.args_tuple_mul_2 _ _) mul ⟨ho, .ref l, H, I, rfl, q⟩⟩)
/-- x * y, () * n too -/
def mul0Z (h : Hv) (x y : Z) : Option Out := match x, y with
  | .tup [], .int k => if -(2 ^ 63) ≤ k ∧ k < 2 ^ 63 then some (.val (.tup [])) else none
  | x, y => mulZ h x y
theorem oz_mul0 : OpR X (binaryOp .Mult) (rdOp ⟨X.K, ce⟩ mul0Z) := by
  intro pins s σ H x y v u Q I rx ry ⟨G, F, ρ, h, zx, zy, o, w, r1, r2, e, q⟩
  unfold mul0Z at e
  split at e
  · rename_i k
    split at e
    · rename_i hk
      cases e; cases r2
      obtain ⟨a, ws, rfl, q1, rr1⟩ := id r1
      cases (show ws = [] from rr1)
      cases rx
      exact op_rep0 I ry hk (SqT.of (w.sub _ _ q1)) (q _ r1)
    · cases e
  · exact oz_mul pins s σ H x y v u Q I rx ry ⟨G, F, ρ, h, zx, zy, o, w, r1, r2, e, q⟩
end
end ZL
set_option Elab.async false
set_option linter.all false
set_option maxRecDepth 100000
namespace ZL
open PySem PySem.Spec PyProof.Rows L2
/-! ### names -/
section
variable {X : Cx} {ce : Addr → Value → Option Addr → Prop} {E : WX} {x : Str} {pos : Pos}
theorem zv0 (i : Nat) (hN : X.N[i]? = some x := by rfl) (hv : X.env.scope.names.lookup x = some .local := by rfl) (hd : (x == ("__debug__" : Str)) = false := by rfl) (hc : (x == ("__classdict__" : Str)) = false := by rfl) : ZE X ce E (.Name x pos) (zVar i) := ze_var (pe_var hN (.inl hv) hd hc)
theorem zvc (i : Nat) (hN : X.N[i]? = some x := by rfl) (hv : X.env.scope.names.lookup x = some .cell := by rfl) (hd : (x == ("__debug__" : Str)) = false := by rfl) (hc : (x == ("__classdict__" : Str)) = false := by rfl) : ZE X ce E (.Name x pos) (zVar i) := ze_var (pe_var hN (.inr (.inl hv)) hd hc)
theorem zvf (i : Nat) (hN : X.N[i]? = some x := by rfl) (hv : X.env.scope.names.lookup x = some .free := by rfl) (hd : (x == ("__debug__" : Str)) = false := by rfl) (hc : (x == ("__classdict__" : Str)) = false := by rfl) : ZE X ce E (.Name x pos) (zVar i) := ze_var (pe_var hN (.inr (.inr hv)) hd hc)
theorem ze_gi {i : Int} (hg : Gl X x) (hm : ∃ t, X.mg x = some (.int i t)) (hd : (x == ("__debug__" : Str)) = false := by rfl) : ZE X ce E (.Name x pos) (zC (.int i)) := by
  obtain ⟨t, hm⟩ := hm
  exact ze_c (pe_glob (v := .int i) hg hm ⟨t, rfl⟩ hd) fun _ _ _ => rfl
theorem ze_gs {y : Str} (hg : Gl X x) (hm : ∃ t, X.mg x = some (.str y t)) (hd : (x == ("__debug__" : Str)) = false := by rfl) : ZE X ce E (.Name x pos) (zC (.str y)) := by
  obtain ⟨t, hm⟩ := hm
  exact ze_c (pe_glob (v := .str y) hg hm ⟨t, rfl⟩ hd) fun _ _ _ => rfl
theorem ze_glo (hg : Gl X x) (hm : X.mg x = some (.ref (He.ga X.K x))) (hd : (x == ("__debug__" : Str)) = false := by rfl) : ZE X ce E (.Name x pos) (zC (.glo x)) := ze_c (pe_glob (v := .ref (He.ga X.K x)) hg hm rfl hd) fun _ _ _ => rfl
theorem ze_ty {T : String} (hg : Gl X x) (hm : X.mg x = none) (hv : bootBuiltins x = some (.type T)) (hn : x ≠ "__name__" := by decide) (hd : (x == ("__debug__" : Str)) = false := by rfl) : ZE X ce E (.Name x pos) (zC (.ty T)) := ze_c (pe_bltn (v := .ty T) hg hm hv rfl hn hd) fun _ _ _ => rfl
end
/-! ### a def from a statement -/
def defD (a : Str × Option Str) (name qual : Str) (st : Stmt) : He.DefD := { at_ := a, name := name, qual := qual, params := defArgs st, body := defBody st, scope := defScope st }
theorem tk_cx {P : Program} {w : World} {K : PySem.W.Frag} {mg : Str → Option Value} {base : Heap} {N : List Str} {qual : Str} {scope : Scope} {f : Addr} {cdv : Value} {A : Around} {outer : List Env} {s : Shared} {H : Hp} {E : XK} : Takes (cxOf (L2.CX P w) P w K mg base N qual scope f cdv A outer s H E) (up E) := takes_of rfl rfl rfl rfl
/-- a comprehension's block, seen by a check -/
def blkB (N : List Str) (sc scope : Scope) (own : List (Str × Nat)) : Bool :=
  decide (scope.kind = .function) && ((scope.names.all fun y => decide (scope.names.lookup y.1 = some y.2)) && ((own.all fun p => decide (N[p.2]? = some p.1)) &&
    ((scope.names.all fun y => !decide (y.2 = .free) || (decide (sc.names.lookup y.1 = some .cell) || decide (sc.names.lookup y.1 = some .free))) &&
      scope.names.all fun y => !(decide (y.2 = .local) || decide (y.2 = .cell)) || (decide (y.1 ∈ own.map (·.1)) || !decide (y.1 ∈ N)))))
theorem blk_of {N : List Str} {sc scope : Scope} {own : List (Str × Nat)} (h : blkB N sc scope own = true) : BlkOk N sc scope own := by
  unfold blkB at h
  simp only [Bool.and_eq_true, List.all_eq_true, Bool.or_eq_true, decide_eq_true_eq, Bool.not_eq_true', decide_eq_false_iff_not, Bool.or_eq_false_iff] at h
  obtain ⟨h1, h2, h3, h4, h5⟩ := h
  exact ⟨h1, h2, h3, fun y hy e => (h4 y hy).resolve_left fun n => n e, fun y hy e => (h5 y hy).resolve_left fun n => e.elim n.1 n.2⟩
section
variable {X : Cx} {ce : Addr → Value → Option Addr → Prop} {E : WX}
theorem zs_par3 {i j l : Nat} {x y z : Str} {a b c : Expr} {ta : MA} {px py pz pt pos : Pos} {kt k2 pt2} (hc : X.calm = true) (hN : X.N.Nodup) (hi : X.N[i]? = some x) (hj : X.N[j]? = some y) (hl : X.N[l]? = some z) (hij : i ≠ j) (hil : i ≠ l) (hjl : j ≠ l)
    (hx : X.env.scope.names.lookup x = some .local) (hy : X.env.scope.names.lookup y = some .local) (hz : X.env.scope.names.lookup z = some .local) (ha : ZA X ce E [a, b, c] ta)
    (hw : swappedStores [.Tuple [.Name x px, .Name y py, .Name z pz] kt pt] (.Tuple [a, b, c] k2 pt2) X.env = pure (some [x, y, z]))
    (hs : swapsWithSole [.Tuple [.Name x px, .Name y py, .Name z pz] kt pt] (.Tuple [a, b, c] k2 pt2) pos.line X.env = pure false := by rfl) :
    ZS X ce E (.Assign [.Tuple [.Name x px, .Name y py, .Name z pz] kt pt] (.Tuple [a, b, c] k2 pt2) pos) (zPar3 i j l ta) := PS.weak (ps_par3 hc hN hi hj hl hij hil hjl hx hy hz ha hw hs) fun D σ H q => par3_rd q
theorem takes_nox : Takes X nox := takes_none5
end
/-- a def that is never called -/
theorem fnz_bad {P : Program} {w : World} {K : PySem.W.Frag} {mg : Str → Option Value} {base : Heap} {x qual : Str} {params : Arguments} {body : List Stmt} {scope : Scope} {f : Addr} {fd : FuncData} {ps : List Str} {k : Nat} (Fd : FunD K x qual params body scope [] [] f fd)
    (hb : ∀ (kV doc pm : Value) (an : Option Addr) (cdv ct : Value) (us : List Value), us.length = ps.length → bindArgs (PySem.W.fnOf x qual params body scope .none kV doc pm an cdv ct) ⟨us, []⟩ = pure (ps.zip us)) : FnZ P w K mg base k f ps.length (fun _ _ => .bad) :=
  ⟨⟨fd, ps, Fd.bindsN hb, rfl, ⟨fun vs H Q E h => h.1, fun A outer s H args us vs Q E hr e0 hbd r hsp => by
    obtain ⟨_, _, _, _, _, _, _, _, p⟩ := hsp
    exact p.elim⟩⟩, Fd.kp⟩
theorem pass_cx {P : Program} {w : World} {K : PySem.W.Frag} {mg : Str → Option Value} {base : Heap} {N : List Str} {qual : Str} {scope : Scope} {f : Addr} {cdv : Value} {A : Around} {outer : List Env} {s : Shared} {H : Hp} {E : XK} :
    PassesOwn (model (cxOf (L2.CX P w) P w K mg base N qual scope f cdv A outer s H E).prog (cxOf (L2.CX P w) P w K mg base N qual scope f cdv A outer s H E).w) (cxOf (L2.CX P w) P w K mg base N qual scope f cdv A outer s H E).A (cxOf (L2.CX P w) P w K mg base N qual scope f cdv A outer s H E).env
      (cxOf (L2.CX P w) P w K mg base N qual scope f cdv A outer s H E).xe := passes_of (K := fun e s'' => L2.CX P w outer H s E e s'') rfl
section
variable {X : Cx} {ce : Addr → Value → Option Addr → Prop} {E : WX}
/-- an own exception with a field -/
structure X1 (P : Program) (K : PySem.W.Frag) (x fld : Str) : Prop where
  i : ∃ fd px, InitK P K (He.ga K x) (He.ma K (He.ga K x) "__init__") fld px fd
  iC : PySem.W.findIn K (.ref (He.ga K x)) "__init__" = some (some (.ref (He.ma K (He.ga K x) "__init__")))
  tI : PySem.W.typeIn K (.ref (He.ma K (He.ga K x) "__init__")) = some (.type "function")
theorem zs_raiseF {x fld : Str} {e : Expr} {t : MA} {p pos pos' : Pos} (hc : X.calm = true) (tk : Takes X E) (I : X1 X.prog X.K x fld) (hr : RoomG 2 X.A) (gC : X.mg x = some (.ref (He.ga X.K x))) (hg : Gl X x) (ha : ZA X ce E [e] t) (hdb : (x == ("__debug__" : Str)) = false := by decide)
    (he : starEach [e] X.env = (false, eval e X.env) :: starEach [] X.env := by rfl) : ZS X ce E (.Raise (some (.Call (.Name x p) [e] [] pos)) none pos') (zRaise1 x fld t) := by
  obtain ⟨⟨fd, px, i⟩, h1, h2⟩ := I
  exact zs_raise1 (k := 0) hc tk i h1 h2 hr gC hg ha hdb he
/-- .. without -/
structure X0 (K : PySem.W.Frag) (x : Str) : Prop where
  e : PySem.W.excIn K (He.ga K x) [.type "ValueError", .type "Exception", .type "BaseException", .type "object"] "ValueError.__new__" = true
  k : PySem.W.keepIn K (.ref (He.ga K x)) = true
  s : PySem.W.subIn K (.ref (He.ga K x)) (.type "BaseException") = some true
  t : PySem.W.typeIn K (.ref (He.ga K x)) = some (.type "type")
theorem zs_raiseN {x : Str} {p pos pos' : Pos} (hc : X.calm = true) (tk : Takes X E) (I : X0 X.K x) (gC : X.mg x = some (.ref (He.ga X.K x))) (hg : Gl X x) (hdb : (x == ("__debug__" : Str)) = false := by decide) : ZS X ce E (.Raise (some (.Call (.Name x p) [] [] pos)) none pos') (zRaise0 x) :=
  zs_raise0 hc tk I.e gC I.k (raises_own I.s I.t) hg hdb
end
end ZL
set_option Elab.async false
set_option linter.all false
set_option maxRecDepth 100000
set_option maxHeartbeats 4000000
namespace ZL
open PySem PySem.Spec PyProof.Rows L2
/-! ### what the written part is asked -/
inductive Fz where
  | fa (f : He.Fa) | kits (ks : Kits) | ins (C : Str) | exc (C : Str) | xf (C a : Str) | eq (C : Str) (ts : List Ty) | sm | init (file C fld : Str)
def oo (a b : Option (Option Value)) : Bool := decide (a = b)
theorem oo_ok {a b : Option (Option Value)} (h : oo a b = true) : a = b := of_decide_eq_true h
def clsB (K : PySem.W.Frag) (C : Addr) : Bool := PySem.W.plainGet K C Str.empty && (PySem.W.hasDictIn K C && (PySem.W.plainOver K C && oo (PySem.W.findIn K (.ref C) "__setattr__") (some (some (.builtin "object.__setattr__")))))
def obB (a b : Option Bool) : Bool := decide (a = b)
def insB (K : PySem.W.Frag) (C : Addr) : Bool := clsB K C && (oo (PySem.W.findIn K (.ref C) "__class__") (some (some (.builtin "object.__class__"))) && (oo (PySem.W.specialIn K (.builtin "object.__class__") "__get__") (some (some (.builtin "getset_descriptor.__get__"))) &&
  (obB (PySem.W.takesIn K (.builtin "object.__class__")) (some true) && obB (PySem.W.mroIn K C (.type "object")) (some true))))
def excB (K : PySem.W.Frag) (C : Addr) : Bool := oo (PySem.W.findIn K (.ref C) "__getattribute__") (some (some (.builtin "BaseException.__getattribute__"))) && (oo (PySem.W.findIn K (.ref C) "__getattr__") (some none) && (obB (PySem.W.subIn K (.ref C) (.type "BaseException")) (some true) && (PySem.W.hasDictIn K C &&
  (oo (PySem.W.findIn K (.ref C) "__class__") (some (some (.builtin "object.__class__"))) && (oo (PySem.W.specialIn K (.builtin "object.__class__") "__get__") (some (some (.builtin "getset_descriptor.__get__"))) && (obB (PySem.W.takesIn K (.builtin "object.__class__")) (some true) && obB (PySem.W.mroIn K C (.type "object")) (some true)))))))
def kitsB (K : PySem.W.Frag) (ks : Kits) : Bool := (ks.all fun p => btys.all fun a => obB (PySem.W.kitOne K (.type a) (.ref (He.ga K p.1))) (some false)) && ((ks.all fun p => btys.all fun b => obB (PySem.W.kitOne K (.ref (He.ga K p.1)) (.type b)) (some (p.2.contains (.inl b)))) &&
  ks.all fun p => ks.all fun r => obB (PySem.W.kitOne K (.ref (He.ga K p.1)) (.ref (He.ga K r.1))) (some (p.2.contains (.inr r.1))))
def eqB (K : PySem.W.Frag) (C : Str) (ts : List Ty) : Bool := oo (PySem.W.findIn K (.ref (He.ga K C)) "__eq__") (some (some (.ref (He.ma K (He.ga K C) "__eq__")))) && (PySem.W.isFn K (.ref (He.ma K (He.ga K C) "__eq__")) && (oo (PySem.W.findIn K (.ref (He.ga K C)) "__ne__") (some (some (.builtin "object.__ne__"))) &&
  (obB (PySem.W.mroIn K (He.ga K C) (.type "object")) (some true) && ts.all fun t => PySem.W.notFirst K (He.ga K C) (tyVal K t))))
def oexB (K : PySem.W.Frag) (C : Addr) : Bool := (match K.lookup C with
  | some ⟨.type "type", _, .cls cd, sl⟩ => (match cd.mro, sl.toList with
    | .ref D :: bm, [_, _, _, _, some (.builtin n), _] => decide (D = C) && (decide (n = "ValueError.__new__") && (!cd.hasDel && (cd.hasDict && PySem.HandSPX.refsVE bm)))
    | _, _ => false)
  | _ => false) && (oo (PySem.W.findIn K (.ref C) "__setattr__") (some (some (.builtin "object.__setattr__"))) && (obB (PySem.W.subIn K (.ref C) (.type "BaseException")) (some true) && (decide (PySem.W.typeIn K (.ref C) = some (.type "type")) && PySem.W.keepIn K (.ref C))))
def cellB (K : PySem.W.Frag) (c C : Addr) : Bool := match K.lookup c with
  | some ⟨_, _, .cell (some (.ref D)), _⟩ => decide (D = C)
  | _ => false
def fileB (K : PySem.W.Frag) (cd : Value) (file : Str) : Bool := match cd with
  | .ref c => (match K.lookup c with
    | some ⟨_, _, .fields vs, _⟩ => (match (vs[2]? : Option Value) with
      | some (Value.str f _) => file == f
      | _ => false)
    | _ => false)
  | _ => false
def initB (K : PySem.W.Frag) (file C fld : Str) : Bool := oexB K (He.ga K C) && (oo (PySem.W.ks_superIn K (He.ga K C) (He.ga K C) "__init__") (some (some (.builtin "ValueError.__init__"))) && (oo (PySem.W.nsIn K cStatics "thirdparty.any") (some none) && (obB (PySem.W.mroIn K (He.ga K C) (.ref (He.ga K C))) (some true) &&
  (obB (PySem.W.subIn K (.ref (He.ga K C)) (.type "ValueError")) (some true) && (oo (PySem.W.findIn K (.ref (He.ga K C)) fld) (some none) && (oo (PySem.W.nsIn K mainGlobals "super") (some none) && (oo (PySem.W.findIn K (.ref (He.ga K C)) "__init__") (some (some (.ref (He.ma K (He.ga K C) "__init__")))) &&
  (decide (PySem.W.typeIn K (.ref (He.ma K (He.ga K C) "__init__")) = some (.type "function")) && (match K.lookup (He.ma K (He.ga K C) "__init__") with
    | some ⟨_, _, .func fd, _⟩ => (match fd.closure with
      | [p] => cellB K p.2 (He.ga K C) && (PySem.W.codeIn K fd.code fd.qualname && fileB K fd.code file)
      | _ => false)
    | _ => false)))))))))
def Fz.ok (K : PySem.W.Frag) : Fz → Bool
  | .fa f => f.ok K
  | .kits ks => kitsB K ks
  | .ins C => insB K (He.ga K C)
  | .exc C => excB K (He.ga K C)
  | .xf C a => xfB K (He.ga K C) && oo (PySem.W.findIn K (.ref (He.ga K C)) a) (some none)
  | .eq C ts => eqB K C ts
  | .sm => (K.lookup sysModules).isSome
  | .init file C fld => initB K file C fld
section
variable {K : PySem.W.Frag}
theorem ba {a b : Bool} (h : (a && b) = true) : a = true ∧ b = true := Bool.and_eq_true_iff.mp h
theorem ob_ok {a b : Option Bool} (h : obB a b = true) : a = b := of_decide_eq_true h
theorem clsB_ok {C : Addr} (h : clsB K C = true) : Cls K C := by
  obtain ⟨h1, h⟩ := ba h
  obtain ⟨h2, h⟩ := ba h
  obtain ⟨h3, h4⟩ := ba h
  exact ⟨h1, h2, h3, oo_ok h4⟩
theorem insB_ok {C : Addr} (h : insB K C = true) : InsOk K C := by
  obtain ⟨h1, h⟩ := ba h
  obtain ⟨h2, h⟩ := ba h
  obtain ⟨h3, h⟩ := ba h
  obtain ⟨h4, h5⟩ := ba h
  exact ⟨clsB_ok h1, oo_ok h2, oo_ok h3, ob_ok h4, ob_ok h5⟩
theorem excB_ok {C : Addr} (h : excB K C = true) : ExcC K C := by
  obtain ⟨h1, h⟩ := ba h
  obtain ⟨h2, h⟩ := ba h
  obtain ⟨h3, h⟩ := ba h
  obtain ⟨h4, h⟩ := ba h
  obtain ⟨h5, h⟩ := ba h
  obtain ⟨h6, h⟩ := ba h
  obtain ⟨h7, h8⟩ := ba h
  exact ⟨oo_ok h1, oo_ok h2, ob_ok h3, h4, oo_ok h5, oo_ok h6, ob_ok h7, ob_ok h8⟩
theorem lookup_mem {α : Type} {x : Str} {v : α} : ∀ {l : List (Str × α)}, l.lookup x = some v → (x, v) ∈ l
  | [], h => nomatch h
  | (y, u) :: l, h => by
    rw [List.lookup_cons] at h
    split at h
    · rename_i e
      cases h
      rw [eq_of_beq e]
      exact List.mem_cons_self
    · exact List.mem_cons_of_mem _ (lookup_mem h)
theorem kitsB_ok {ks : Kits} (h : kitsB K ks = true) : KitsOk K ks := by
  obtain ⟨h1, h⟩ := ba h
  obtain ⟨h2, h3⟩ := ba h
  intro t c b e
  cases t with
  | inl a =>
    cases c with
    | inl d => exact kit_ty e
    | inr C =>
      have e : (if btys.contains a && (ks.lookup C).isSome then some false else none) = some b := e
      split at e
      · rename_i hc
        cases e
        obtain ⟨q1, q2⟩ := ba hc
        obtain ⟨us, hu⟩ := Option.isSome_iff_exists.mp q2
        have := List.all_eq_true.mp (List.all_eq_true.mp h1 _ (lookup_mem hu)) a (by simpa using q1)
        exact ob_ok this
      · cases e
  | inr C =>
    cases c with
    | inl d =>
      have e : (match ks.lookup C with
        | some us => if btys.contains d then some (us.contains (.inl d)) else none
        | none => none) = some b := e
      cases hu : ks.lookup C with
      | none => rw [hu] at e; cases e
      | some us =>
        rw [hu] at e
        dsimp only at e
        split at e
        · rename_i q1
          cases e
          have := List.all_eq_true.mp (List.all_eq_true.mp h2 _ (lookup_mem hu)) d (by simpa using q1)
          exact ob_ok this
        · cases e
    | inr D =>
      have e : (match ks.lookup C with
        | some us => if (ks.lookup D).isSome then some (us.contains (.inr D)) else none
        | none => none) = some b := e
      cases hu : ks.lookup C with
      | none => rw [hu] at e; cases e
      | some us =>
        rw [hu] at e
        dsimp only at e
        split at e
        · rename_i q2
          cases e
          obtain ⟨vs, hv⟩ := Option.isSome_iff_exists.mp q2
          have := List.all_eq_true.mp (List.all_eq_true.mp h3 _ (lookup_mem hu)) _ (lookup_mem hv)
          exact ob_ok this
        · cases e
theorem ty_mem {t : Ty} : ∀ {ts : List Ty}, ts.contains t = true → t ∈ ts
  | [], h => by simp at h
  | a :: ts, h => by
    rw [List.contains_cons, Bool.or_eq_true] at h
    rcases h with h | h
    · have e : t = a := by
        cases t with
        | inl x => cases a with
          | inl y => exact congrArg _ (eq_of_beq (show (x == y) = true from h))
          | inr y => cases h
        | inr x => cases a with
          | inl y => cases h
          | inr y => exact congrArg _ (eq_of_beq (show (x == y) = true from h))
      rw [e]; exact List.mem_cons_self
    · exact List.mem_cons_of_mem _ (ty_mem h)
theorem eqB_ok {C : Str} {ts : List Ty} (h : eqB K C ts = true) : PySem.W.findIn K (.ref (He.ga K C)) "__eq__" = some (some (.ref (He.ma K (He.ga K C) "__eq__"))) ∧ PySem.W.isFn K (.ref (He.ma K (He.ga K C) "__eq__")) = true ∧
    PySem.W.findIn K (.ref (He.ga K C)) "__ne__" = some (some (.builtin "object.__ne__")) ∧ PySem.W.mroIn K (He.ga K C) (.type "object") = some true ∧ ∀ t, ts.contains t = true → PySem.W.notFirst K (He.ga K C) (tyVal K t) = true := by
  obtain ⟨h1, h⟩ := ba h
  obtain ⟨h2, h⟩ := ba h
  obtain ⟨h3, h⟩ := ba h
  obtain ⟨h4, h5⟩ := ba h
  exact ⟨oo_ok h1, h2, oo_ok h3, ob_ok h4, fun t ht => List.all_eq_true.mp h5 t (ty_mem ht)⟩
theorem oexB_ok {C : Addr} (h : oexB K C = true) : OexC K C := by
  obtain ⟨h1, h⟩ := ba h
  obtain ⟨h2, h⟩ := ba h
  obtain ⟨h3, h⟩ := ba h
  obtain ⟨h4, h5⟩ := ba h
  refine ⟨?_, oo_ok h2, ob_ok h3, of_decide_eq_true h4, h5⟩
  split at h1
  · rename_i dd cd sl ho
    split at h1
    · rename_i D bm k0 k1 k2 k3 n k5 hm hs
      obtain ⟨q1, h1⟩ := ba h1
      obtain ⟨q2, h1⟩ := ba h1
      obtain ⟨q3, h1⟩ := ba h1
      obtain ⟨q4, q5⟩ := ba h1
      have q1 : D = C := of_decide_eq_true q1
      have q2 : n = "ValueError.__new__" := of_decide_eq_true q2
      subst q1 q2
      obtain ⟨nm, bs, mro, ns, qn, hd, sn, sub, ab, col, del⟩ := cd
      dsimp only at hm q3 q4
      subst hm q4
      have q3 : del = false := by simpa using q3
      subst q3
      have hsl : sl = #[k0, k1, k2, k3, some (.builtin "ValueError.__new__"), k5] := by
        obtain ⟨l⟩ := sl
        simp only at hs
        rw [hs]
      subst hsl
      exact ⟨nm, qn, ns, bs, bm, sn, sub, ab, col, dd, k0, k1, k2, k3, k5, ho, q5⟩
    · cases h1
  · cases h1
theorem cellB_ok {c C : Addr} (h : cellB K c C = true) : ∃ cl cld csl, K.lookup c = some ⟨cl, cld, .cell (some (.ref C)), csl⟩ := by
  unfold cellB at h
  split at h
  · rename_i cl cld D csl e
    have h : D = C := of_decide_eq_true h
    subst h
    exact ⟨_, _, _, e⟩
  · cases h
theorem fileB_ok {cd : Value} {file : Str} (h : fileB K cd file = true) : ∃ cda ccl cdd vs ccs f tf, cd = .ref cda ∧ K.lookup cda = some ⟨ccl, cdd, .fields vs, ccs⟩ ∧ vs[2]? = some (.str f tf) ∧ (file == f) = true := by
  unfold fileB at h
  split at h
  · split at h
    · rename_i c _ _ _ vs _ e
      split at h
      · rename_i f tf e2
        exact ⟨_, _, _, vs, _, f, tf, rfl, e, e2, h⟩
      · cases h
    · cases h
  · cases h
/-- an own exception's __init__, as it stands -/
abbrev InV : Type := Option (Str × Str × Arguments × FuncBody × Scope × Addr × List Str × Addr)
def inObs (K : PySem.W.Frag) (C : Str) : InV := match K.lookup (He.ma K (He.ga K C) "__init__") with
  | some ⟨_, _, .func fd, _⟩ => some (fd.name, fd.qualname, fd.params, fd.body, fd.scope, fd.globals, fd.closure.map (·.1), fd.builtins)
  | _ => none
def inVal (C : Str) (st : Stmt) : InV := some ("__init__", C ++ ".__init__", defArgs st, .stmts (defBody st), defScope st, mainGlobals, ["__class__"], builtinsNs)
/-- what of an own exception's __init__ is plain to see -/
structure InitS (file fld : Str) (top : Prop) (C : Str) (st : Stmt) : Prop where
  ex : ∃ (ar : Arg) (px : Str) (p0 p1 p2 p3 p4 p5 p6 p7 p8 p9 : Pos), defBody st = [.Expr (.Call (.Attribute (.Call (.Name "super" p0) [] [] p1) "__init__" p2) [.Name px p3] [] p4) p5, .Assign [.Attribute (.Name ar.arg p6) fld p7] (.Name px p8) p9] ∧
    (defScope st).names.lookup ("super" : Str) = some .globalImplicit ∧ (defScope st).names.lookup ("__class__" : Str) = some .free ∧ (defScope st).names.lookup ar.arg = some .local ∧ (defScope st).names.lookup px = some .local ∧ (defScope st).kind = .function ∧ (defScope st).isCoroutine = false ∧ (defScope st).isGenerator = false ∧
    (∀ x ∈ (defScope st).names, x.2 ≠ .cell) ∧ ((defArgs st).posonlyargs ++ (defArgs st).args).head? = some ar ∧ ar.arg ≠ px ∧ (ar.arg == ("__debug__" : Str)) = false ∧ (px == ("__debug__" : Str)) = false ∧
    (∀ (nm qual : Str) (cl : List (Str × Addr)) (kV doc pm : Value) (an : Option Addr) (cdv ct : Value) (us : List Value), us.length = 2 → bindArgs (PySem.W.fnX nm qual (defArgs st) (defBody st) (defScope st) cl .none kV doc pm an cdv ct) ⟨us, []⟩ = pure ([ar.arg, px].zip us)) ∧
    (∀ (nm qual : Str) (cl : List (Str × Addr)) (kV doc pm : Value) (an : Option Addr) (cdv ct : Value) (L f : Addr), interactive (callEnv (PySem.W.fnX nm qual (defArgs st) (defBody st) (defScope st) cl .none kV doc pm an cdv ct) L f) = false ∧
      swapsWith (.Call (.Attribute (.Call (.Name "super" p0) [] [] p1) "__init__" p2) [.Name px p3] [] p4) none p5.line (callEnv (PySem.W.fnX nm qual (defArgs st) (defBody st) (defScope st) cl .none kV doc pm an cdv ct) L f) = pure false ∧
      swapsWith (.Name px p8) (some (.Attribute (.Name ar.arg p6) fld p7)) p9.line (callEnv (PySem.W.fnX nm qual (defArgs st) (defBody st) (defScope st) cl .none kV doc pm an cdv ct) L f) = pure false ∧
      eval (.Call (.Attribute (.Call (.Name "super" p0) [] [] p1) "__init__" p2) [.Name px p3] [] p4) (callEnv (PySem.W.fnX nm qual (defArgs st) (defBody st) (defScope st) cl .none kV doc pm an cdv ct) L f) = (do
        let ov ← attributeBase (.Call (.Name "super" p0) [] [] p1) "__init__" (callEnv (PySem.W.fnX nm qual (defArgs st) (defBody st) (defScope st) cl .none kV doc pm an cdv ct) L f) (eval (.Call (.Name "super" p0) [] [] p1) (callEnv (PySem.W.fnX nm qual (defArgs st) (defBody st) (defScope st) cl .none kV doc pm an cdv ct) L f))
        standAt p2.atName
        let (f1, first) ← holding [ov] (getMethod ov "__init__" (pure false))
        callWith p4 f1 first (backTo p4 (starEach [.Name px p3] (callEnv (PySem.W.fnX nm qual (defArgs st) (defBody st) (defScope st) cl .none kV doc pm an cdv ct) L f))) []))
theorem init_x1 {P : Program} {C fld : Str} {st : Stmt} (htop : (P.main.scope.names.lookup ("super" : Str)).isSome = false) (hb : initB K P.main.file C fld = true) (ho : inObs K C = inVal C st) (hd : ∀ fd, K.lookup (He.ma K (He.ga K C) "__init__") = some fd → ∀ g, fd.data = .func g → g.defaults = .none) (S : InitS P.main.file fld True C st) : X1 P K C fld := by
  obtain ⟨h1, hb⟩ := ba hb
  obtain ⟨h2, hb⟩ := ba hb
  obtain ⟨h3, hb⟩ := ba hb
  obtain ⟨h4, hb⟩ := ba hb
  obtain ⟨h5, hb⟩ := ba hb
  obtain ⟨h6, hb⟩ := ba hb
  obtain ⟨h7, hb⟩ := ba hb
  obtain ⟨h8, hb⟩ := ba hb
  obtain ⟨h9, hb⟩ := ba hb
  refine ⟨?_, oo_ok h8, of_decide_eq_true h9⟩
  unfold inObs at ho
  cases q : K.lookup (He.ma K (He.ga K C) "__init__") with
  | none => rw [q] at hb; cases hb
  | some o =>
    obtain ⟨oc, od, dt, osl⟩ := o
    rw [q] at hb ho
    cases dt with
    | func fd =>
      obtain ⟨n1, n2, n3, n4, n5, n6, n7, n8, n9, n10, n11, n12, n13, n14, n15⟩ := fd
      have ho2 : (some (n1, n2, n3, n4, n5, n6, n7.map (·.1), n15) : InV) = (some ("__init__", C ++ ".__init__", defArgs st, FuncBody.stmts (defBody st), defScope st, mainGlobals, ["__class__"], builtinsNs) : InV) := ho
      simp only [Option.some.injEq, Prod.mk.injEq] at ho2
      obtain ⟨e1, e2, e3, e4, e5, e6, e7, e8⟩ := ho2
      subst e1 e2 e3 e4 e5 e6 e8
      have e9 : n8 = .none := hd _ q _ rfl
      subst e9
      dsimp only at hb
      cases n7 with
      | nil => cases e7
      | cons p r =>
        cases r with
        | cons _ _ => have := congrArg List.length e7; simp at this
        | nil =>
          obtain ⟨x, cc⟩ := p
          have ex : x = "__class__" := (List.cons.inj e7).1
          subst ex
          obtain ⟨c1, hb⟩ := ba hb
          obtain ⟨c2, c3⟩ := ba hb
          obtain ⟨cl, cld, csl, k1⟩ := cellB_ok c1
          obtain ⟨cda, ccl, cdd, vs, ccs, f, tf, rfl, k2, k3, k4⟩ := fileB_ok c3
          obtain ⟨ar, px, p0, p1, p2, p3, p4, p5, p6, p7, p8, p9, s1, s2, s3, s4, s5, s6, s7, s8, s9, s10, s11, s12, s13, s14, s15⟩ := S.ex
          refine ⟨_, px, ⟨oexB_ok h1, oo_ok h2, oo_ok h3, ob_ok h4, ob_ok h5, oo_ok h6, oo_ok h7, htop, oc, ccl, cl, od, cdd, cld, osl, csl, ccs, vs, f, tf, cc, cda, ar, "__init__", C ++ ".__init__", defArgs st, defScope st, .none, n9, n10, n11, n14, n12, p0, p1, p2, p3, p4, p5, p6, p7, p8, p9, ?_, q, c2, k2, k3, k4, k1, s2, s3, s4, s5, s6, s7, s8, s9, s10, s11, s12, s13, fun us hl => s14 _ _ _ _ _ _ _ _ _ us hl, fun L => (s15 _ _ _ _ _ _ _ _ _ L _).1, fun L => (s15 _ _ _ _ _ _ _ _ _ L _).2.1, fun L => (s15 _ _ _ _ _ _ _ _ _ L _).2.2.1, fun L => (s15 _ _ _ _ _ _ _ _ _ L _).2.2.2⟩⟩
          rw [← s1]
    | _ => cases hb
end
end ZL
set_option Elab.async false
set_option linter.all false
set_option maxRecDepth 100000
set_option maxHeartbeats 4000000
namespace ZL
open PySem PySem.Spec PyProof.Rows L2
/-! ### the Hook -/
abbrev AlZ : Type := Bool × List He.FnW × List InV
def dflNone (K : PySem.W.Frag) (C : Str) : Bool := match K.lookup (He.ma K (He.ga K C) "__init__") with
  | some ⟨_, _, .func fd, _⟩ => decide (fd.defaults = .none)
  | _ => true
def obsZ (fz : List Fz) (fn : List He.DefD) (ins : List (Str × Stmt)) (K : PySem.W.Frag) : AlZ := ((fz.all fun f => f.ok K) && ((fn.all fun d => d.ok K) && ins.all fun p => dflNone K p.1), fn.map fun d => He.fnW K d.at_, ins.map fun p => inObs K p.1)
def valZ (fn : List He.DefD) (ins : List (Str × Stmt)) : AlZ := (true, fn.map He.DefD.val, ins.map fun p => inVal p.1 p.2)
def SaysZ (fz : List Fz) (fn : List He.DefD) (ins : List (Str × Stmt)) (K : PySem.W.Frag) : Prop := obsZ fz fn ins K = valZ fn ins
def frZ (g : Addr → Option Obj) (n : Nat) : PySem.W.Frag := He.frG g (He.asD g n ++ [cStatics, sysModules])
def obsZG (n : Nat) (fz : List Fz) (fn : List He.DefD) (ins : List (Str × Stmt)) (g : Addr → Option Obj) : AlZ := obsZ fz fn ins (frZ g n)
def hookZ (n : Nat) (fz : List Fz) (fn : List He.DefD) (ins : List (Str × Stmt)) : PySem.W.Hook where
  α := AlZ
  obs := fun s => obsZG n fz fn ins s.heap.get?
  val := fun _ => valZ fn ins
  says := fun _ h => ∃ K : PySem.W.Frag, K.In h ∧ SaysZ fz fn ins K
  of := fun _ _ e => ⟨_, He.frG_in, e⟩
  keeps := fun _ _ _ ⟨K, hK, c⟩ k => ⟨K, PySem.W.Frag.In.keeps hK k, c⟩
theorem obsZG_eq {n : Nat} {fz : List Fz} {fn : List He.DefD} {ins : List (Str × Stmt)} {g : Addr → Option Obj} {s : Shared} (h : ∀ a, g a = s.heap.get? a) : obsZG n fz fn ins g = (hookZ n fz fn ins).obs s := by
  have e : g = s.heap.get? := funext h
  rw [e]; rfl
section
variable {fz : List Fz} {fn : List He.DefD} {ins : List (Str × Stmt)} {K : PySem.W.Frag}
theorem SaysZ.bools (c : SaysZ fz fn ins K) : (fz.all fun f => f.ok K) = true ∧ (fn.all fun d => d.ok K) = true ∧ (ins.all fun p => dflNone K p.1) = true := by
  have c1 : ((fz.all fun f => f.ok K) && ((fn.all fun d => d.ok K) && ins.all fun p => dflNone K p.1)) = true := congrArg (fun z : AlZ => z.1) c
  obtain ⟨h1, h⟩ := ba c1
  obtain ⟨h2, h3⟩ := ba h
  exact ⟨h1, h2, h3⟩
theorem SaysZ.fact (c : SaysZ fz fn ins K) {f : Fz} (i : Nat) (h : fz[i]? = some f := by rfl) : f.ok K = true := List.all_eq_true.mp c.bools.1 f (List.mem_of_getElem? h)
theorem SaysZ.def_ (c : SaysZ fz fn ins K) {d : He.DefD} (i : Nat) (h : fn[i]? = some d := by rfl) : ∃ fd, FunD K d.name d.qual d.params d.body d.scope (d.dvs K) (d.kws K) (He.fAd K d.at_) fd := by
  have e : fn.map (fun d => He.fnW K d.at_) = fn.map He.DefD.val := congrArg (fun z : AlZ => z.2.1) c
  have e2 : (fn.map fun d => He.fnW K d.at_)[i]? = (fn.map He.DefD.val)[i]? := by rw [e]
  rw [List.getElem?_map, List.getElem?_map, h] at e2
  exact He.DefD.funD (Option.some.inj e2) (List.all_eq_true.mp c.bools.2.1 d (List.mem_of_getElem? h))
theorem SaysZ.init_ (c : SaysZ fz fn ins K) {p : Str × Stmt} (i : Nat) (h : ins[i]? = some p := by rfl) : inObs K p.1 = inVal p.1 p.2 ∧ dflNone K p.1 = true := by
  have e : ins.map (fun p => inObs K p.1) = ins.map fun p => inVal p.1 p.2 := congrArg (fun z : AlZ => z.2.2) c
  have e2 : (ins.map fun p => inObs K p.1)[i]? = (ins.map fun p => inVal p.1 p.2)[i]? := by rw [e]
  rw [List.getElem?_map, List.getElem?_map, h] at e2
  exact ⟨Option.some.inj e2, List.all_eq_true.mp c.bools.2.2 p (List.mem_of_getElem? h)⟩
theorem dfl_ok {C : Str} (h : dflNone K C = true) : ∀ fd, K.lookup (He.ma K (He.ga K C) "__init__") = some fd → ∀ g, fd.data = .func g → g.defaults = .none := by
  intro fd e g eg
  unfold dflNone at h
  rw [e] at h
  obtain ⟨oc, od, dt, sl⟩ := fd
  dsimp only at eg
  subst eg
  exact of_decide_eq_true h
end
/-! ### a law's end -/
theorem ints_rels {c : RC} {F : Hp} {ρ : Nat → Addr} {n : Nat} : ∀ ns : List Int, Rels c F ρ n (ns.map Z.int) (ns.map V.int)
  | [] => rfl
  | i :: ns => .cons rfl (ints_rels ns)
theorem law_callG {P : Program} {w : World} {K : PySem.W.Frag} {mg mb : Str → Option Value} {k : Nat} {fa a : Addr} {F : List Z → Hv → Res Z} {s : Shared} {vs : List Value} {ns : List Int}
    (KX : K.In s.heap) (hns : s.heap.Ns mainGlobals mg) (hb : s.heap.Ns builtinsNs mb) (hbb : ∀ x : Str, x ≠ "__name__" → mb x = bootBuiltins x) (hlim : s.heap.NoLimit) (hg : s.gens = #[]) (ha : s.heap.get? a = some { cls := .type "list", data := .seq vs.toArray }) (hi : IntsAre vs ns) (hl : ns.length ≤ sizeLine)
    (hr : RoomG k callerA) (Fz : ∀ base : Heap, K.In base → base.Ns mainGlobals mg → FnZ P w K mg base k fa 1 F) (hz : ∃ h', F [.frl (ns.map Z.int)] [] = .ok (.bl true) h') :
    codeAny (model P w) callerA (.call (.ref fa) ⟨[.ref a], []⟩) (fun r s' => r = .ok (.ret (.bool true)) ∧ OldK s.heap s'.heap ∧ s'.os = s.os ∧ AllBare s'.gens) s := by
  have rv := vals_ints hi
  have lv := hi.length
  have core : ∀ H : Hp, Only H → SqL K H a (ns.map V.int) → HOk P w H s.heap → (∀ b, H b ≠ none → b = a) → (H a ≠ none → K.lookup a = none) → codeAny (model P w) callerA (.call (.ref fa) ⟨[.ref a], []⟩) (fun r s' => r = .ok (.ret (.bool true)) ∧ OldK s.heap s'.heap ∧ s'.os = s.os ∧ AllBare s'.gens) s := by
    intro H hO hS hok hA hK
    have only : ∀ {b : Addr}, (b = a → H b = none) → H b = none := fun {b} f => by
      cases q : H b with
      | none => rfl
      | some u =>
        have e := f (hA b (by rw [q]; simp))
        rw [q] at e
        exact e
    have nsB : ∀ {b : Addr} {m : Str → Option Value}, s.heap.Ns b m → (hidT s.heap H).Ns b m := fun {b m} ⟨o, es, ep, e, d, r⟩ => ⟨o, es, ep, hidT_get e (only fun z => by
      subst z
      rw [ha] at e; cases e
      have d' : Data.seq vs.toArray _ = Data.dict es ep := d
      cases d'), d, r⟩
    have inB : K.In (hidT s.heap H) := fun b o e => hidT_get (KX b o e) (only fun z => by
      subst z
      cases q : H b with
      | none => rfl
      | some u => rw [hK (by rw [q]; simp)] at e; cases e)
    have md : Mod K mg (hidT s.heap H) := ⟨inB, nsB hns, ⟨mb, nsB hb, hbb⟩, let ⟨mc, h1, h2⟩ := hlim; ⟨mc, nsB h1, h2⟩⟩
    have e0 : Env0 P w K mg (hidT s.heap H) callerA [] s H := ⟨rfl, md, fun b o e => of_hidT e, Nat.le_of_eq (hidT_size _ _), trivial, fun b hb => absurd (show b ∈ ([] : List Addr) from hb) (by simp), hok, .of_eq hg⟩
    obtain ⟨⟨fd, ps, hbd, hn, ok⟩, kp⟩ := Fz _ inB (nsB hns)
    have bd := hbd s [.ref a] KX (by rw [List.append_nil]; exact hn.symm)
    rw [List.append_nil] at bd
    obtain ⟨h', eF⟩ := hz
    have sp : spZ ⟨K, no⟩ 1 F [.ref a] H (fun v _ => v = .bl true) (fun _ _ _ => False) := by
      refine ⟨rfl, fun _ => none, H, fun _ => 0, [], [.frl (ns.map Z.int)], ⟨fun _ _ e => e, fun i o e => by simp at e, fun i j o u e => by simp at e, fun i o e => by simp at e, fun a o e => by cases e⟩, .cons ⟨a, ns.map V.int, rfl, hS, ints_rels ns⟩ .nil, ?_⟩
      rw [eF]
      exact fun F' ρ' v H' _ _ r => r
    refine codeAny_mono (ok.run callerA [] s H ⟨[.ref a], []⟩ [.ref a] [.ref a] _ _ hr e0 bd (.cons rfl .nil) sp) fun r s' h => ?_
    cases r with
    | error e =>
      obtain ⟨_, _, _, _, _, _, _, _, _, _, _, _, z⟩ := h
      exact z.elim
    | ok fl =>
      cases fl with
      | ret u =>
        obtain ⟨v, H', os, bare, un, hok', r', q⟩ := h
        have q' : v = .bl true := q
        subst q'
        obtain rfl : u = Value.bool true := r'
        refine ⟨rfl, OldK.of_keep fun b o e => ?_, os, bare⟩
        rcases hO b with z | ⟨ob, xs, z⟩
        · exact un.keep b o e z (by intro z; exact absurd (show b ∈ ([] : List Addr) from z) (by simp)) (by simp)
        · obtain ⟨e1, _⟩ := hok b _ z
          obtain ⟨e2, _⟩ := hok' b _ (un.frzs b ob _ z)
          rw [e] at e1; cases e1
          exact e2
      | _ => exact False.elim h
  cases hk : K.lookup a with
  | some o =>
    have e := KX a o hk
    rw [ha] at e
    cases e
    exact core (fun _ => none) (fun _ => .inl rfl) (.inr ⟨_, vs.toArray, _, hk, rfl, rfl, rfl, by rw [List.size_toArray, lv]; exact hl, by simpa using rv⟩) (fun b u z => by have z' : (none : Option HO) = some u := z; cases z') (fun b z => absurd rfl z) fun z => absurd rfl z
  | none =>
    let H : Hp := fun b => if b = a then some (.frz { cls := .type "list", data := .seq vs.toArray } (.lst (ns.map V.int))) else none
    have at_ : H a = some (.frz { cls := .type "list", data := .seq vs.toArray } (.lst (ns.map V.int))) := if_pos rfl
    have off : ∀ {b : Addr}, b ≠ a → H b = none := fun h => if_neg h
    refine core H (fun b => ?_) (.inl (.inr ⟨_, at_⟩)) (fun b u z => ?_) (fun b z => ?_) fun _ => hk
    · by_cases q : b = a
      · subst q; exact .inr ⟨_, _, at_⟩
      · exact .inl (off q)
    · by_cases q : b = a
      · subst q
        rw [at_] at z
        cases z
        exact ⟨ha, by rw [List.length_map]; exact hl, vs, _, rv, ha⟩
      · rw [off q] at z; cases z
    · by_cases q : b = a
      · exact q
      · exact absurd (off q) z
theorem walk_Z {l : PySem.W.OpenLaw} {n k : Nat} {q : Program} {loose : List Str} {XP : (Str → Option Value) → Heap → Prop} {YP : World → Heap → Prop} {d : DefRec} {F : List Z → Hv → Res Z} (hn : l.most = some n) (hn2 : n ≤ sizeLine) (hdf : d.params.defaults = []) (hr : RoomG k callerA)
    (Fh : ∀ (w : World) (mg : Str → Option Value) (fa : Addr) (h : Heap), YP w h → h.Ns mainGlobals mg → mg d.name = some (.ref fa) → ∃ K : PySem.W.Frag, K.In h ∧ ∀ base : Heap, K.In base → base.Ns mainGlobals mg → FnZ l.prog w K mg base k fa 1 F)
    (hz : ∀ ns : List Int, ns.length ≤ n → (∀ i ∈ ns, Builtin.Int.intBits i ≤ 1048576) → ∃ h', F [.frl (ns.map Z.int)] [] = .ok (.bl true) h') : PySem.W.WalkO q loose XP YP l.row.toRowW d [] (fun f vs => PySem.call f vs) := by
  refine Att.attach_callB hn hdf fun w s₀ s₁ mg mb fa o pm cd doc a vs ns G Y ho hd hcd hmg hobj hints hlen hbits hg => ?_
  obtain ⟨K, KX, hF⟩ := Fh w mg fa _ Y G.T.g hmg
  exact law_callG KX G.T.g G.T.b G.T.builtins G.T.nolimit hg hobj hints (Nat.le_trans hlen hn2) hr hF (hz ns hlen hbits)
/-! ### helpers -/
def AllP (P : Str → Prop) : List Str → Prop
  | [] => True
  | x :: r => P x ∧ AllP P r
theorem con_all {P : Str → Prop} : ∀ {cs : List Str}, AllP P cs → ∀ C, cs.contains C = true → P C
  | [], _, C, h => by simp at h
  | x :: r, a, C, h => by
    rw [List.contains_cons, Bool.or_eq_true] at h
    rcases h with h | h
    · rw [eq_of_beq h]; exact a.1
    · exact con_all a.2 C h
def AllQ (P : Str → Bool → Prop) : List (Str × Bool) → Prop
  | [] => True
  | x :: r => P x.1 x.2 ∧ AllQ P r
theorem tab_all {P : Str → Bool → Prop} : ∀ {l : List (Str × Bool)}, AllQ P l → ∀ C b, l.lookup C = some b → P C b
  | [], _, C, b, h => nomatch h
  | x :: r, a, C, b, h => by
    rw [List.lookup_cons] at h
    split at h
    · rename_i e
      cases h
      rw [eq_of_beq e]; exact a.1
    · exact tab_all a.2 C b h
theorem xf_ok {K : PySem.W.Frag} {C a : Str} (h : (Fz.xf C a).ok K = true) : XfC K (He.ga K C) ∧ PySem.W.findIn K (.ref (He.ga K C)) a = some none := by
  obtain ⟨h1, h2⟩ := ba h
  exact ⟨xfB_ok h1, oo_ok h2⟩
theorem x0_ok {K : PySem.W.Frag} {x : Str} (h : (He.Fa.exc x).ok K = true) : X0 K x := by
  obtain ⟨h1, h2, h3, h4⟩ := He.exc_ok h
  exact ⟨h1, h2, h3, h4⟩
theorem sm_ok {K : PySem.W.Frag} (h : Fz.sm.ok K = true) : ∃ o, K.lookup sysModules = some o := Option.isSome_iff_exists.mp h
def argZ (st : Stmt) : Arg := match (defArgs st).args with
  | a :: _ => a
  | [] => ⟨"", none, ⟨0, 0, 0, 0⟩⟩
end ZL
set_option Elab.async false
set_option linter.all false
set_option maxRecDepth 100000
set_option maxHeartbeats 2000000
namespace ZL
open PySem PySem.Spec PyProof.Rows L2
/-! ### a local list, dict or instance that is changed no more becomes a value -/
def frzS (v : Nat) (s : Sg) (h : Hv) : Sg × Hv := match s[v]? with
  | some (some (.ref i)) => match h[i]? with
    | some (.lst xs) => (s.set v (some (.lst xs)), h.set i .dead)
    | some (.dk ks xs) => (s.set v (some (.dkf ks xs)), h.set i .dead)
    | some (.ins C ns xs) => (s.set v (some (.ins C ns xs)), h.set i .dead)
    | _ => (s, h)
  | _ => (s, h)
def zFrz (v : Nat) (m : MS) : MS := fun s h => m (frzS v s h).1 (frzS v s h).2
section
variable {X : Cx} {ce : Addr → Value → Option Addr → Prop} {E : WX} {st : Stmt} {m : MS}
theorem frz_rd {c : RC} {G F : Hp} {ρ : Nat → Addr} {zs : Sg} {h : Hv} {σ : L2.St} {H : Hp} (v : Nat) (w : W c G F ρ h H) (rs : RelS c F ρ h.length zs σ) :
    ∃ F', W c G F' ρ (frzS v zs h).2 H ∧ RelS c F' ρ (frzS v zs h).2.length (frzS v zs h).1 σ ∧ Ext F ρ h.length F' ρ (frzS v zs h).2.length := by
  unfold frzS
  split
  · rename_i i e1
    obtain ⟨u, e2, r⟩ := rs.2 v _ e1
    have r : i < h.length ∧ u = .ref (ρ i) := r
    have go : ∀ {m : MO} {o : HO} {z : Z}, h[i]? = some m → m.live = true → H (ρ i) = some o → (∀ F', Ext F ρ h.length F' ρ h.length → F' (ρ i) = some o → Rel c F' ρ h.length z (.ref (ρ i))) →
        ∃ F', W c G F' ρ (h.set i .dead) H ∧ RelS c F' ρ (h.set i .dead).length (zs.set v (some z)) σ ∧ Ext F ρ h.length F' ρ (h.set i .dead).length := by
      intro m o z hm hl ho hz
      obtain ⟨w2, e⟩ := w.kill hm hl ho
      have le : (h.set i MO.dead).length = h.length := List.length_set
      rw [le] at e ⊢
      refine ⟨_, w2, ?_, e⟩
      have rs2 := rs.ext e
      refine ⟨by rw [List.length_set]; exact rs2.1, fun j y hj => ?_⟩
      by_cases ej : v = j
      · subst ej
        have hv : v < zs.length := (List.getElem?_eq_some_iff.mp e1).1
        rw [List.getElem?_set_self hv] at hj
        cases hj
        exact ⟨u, e2, by rw [r.2]; exact hz _ e (by simp [upd_same])⟩
      · rw [List.getElem?_set_ne ej] at hj
        exact rs2.2 j y hj
    split
    · rename_i xs e3
      obtain ⟨ws, h1, h2⟩ := w.obj i _ e3
      exact go e3 rfl h1 fun F' e q => ⟨_, ws, rfl, q, h2.ext e⟩
    · rename_i ks xs e3
      obtain ⟨ws, h1, hl, h2⟩ := w.obj i _ e3
      exact go e3 rfl h1 fun F' e q => ⟨_, ws, rfl, q, hl, h2.ext e⟩
    · rename_i C ns xs e3
      obtain ⟨dx, ws, h1, hl, h2⟩ := w.obj i _ e3
      exact go e3 rfl h1 fun F' e q => ⟨_, dx, ws, rfl, q, hl, h2.ext e⟩
    · exact ⟨F, w, rs, .refl⟩
  · exact ⟨F, w, rs, .refl⟩
theorem zs_frz (v : Nat) (hm : ZS X ce E st m) : ZS X ce E st (zFrz v m) :=
  PS.weak hm fun D σ H ⟨G, F, ρ, zs, h, w, rs, p⟩ => by
    obtain ⟨F', w2, r2, e2⟩ := frz_rd v w rs
    exact ⟨G, F', ρ, _, _, w2, r2, PostS.ext p e2⟩
end
end ZL
set_option Elab.async false
set_option linter.all false
set_option maxRecDepth 100000
set_option maxHeartbeats 4000000
namespace K01
open PySem PySem.Spec PyProof.Rows L2 ZL
abbrev Pq : Program := PySem.Challenge.pw_owedpoints_k01_programmes_let_and_refuse
def top (i : Nat) : Stmt := Pq.main.body.getD i (.Pass ⟨0, 0, 0, 0⟩)
theorem b_abs : bootBuiltins "abs" = some (.builtin "abs") := by kernel_rfl
theorem b_all : bootBuiltins "all" = some (.builtin "all") := by kernel_rfl
theorem b_bool : bootBuiltins "bool" = some (.type "bool") := by kernel_rfl
theorem b_int : bootBuiltins "int" = some (.type "int") := by kernel_rfl
theorem b_isinstance : bootBuiltins "isinstance" = some (.builtin "isinstance") := by kernel_rfl
theorem b_len : bootBuiltins "len" = some (.builtin "len") := by kernel_rfl
theorem b_list : bootBuiltins "list" = some (.type "list") := by kernel_rfl
theorem b_repr : bootBuiltins "repr" = some (.builtin "repr") := by kernel_rfl
theorem b_str : bootBuiltins "str" = some (.type "str") := by kernel_rfl
theorem b_tuple : bootBuiltins "tuple" = some (.type "tuple") := by kernel_rfl
def plainCs : List Str := ["Programme"]
def excCs : List Str := ["PointError", "BadProgramme"]
def kits : Kits := [("Programme", [.inr "Programme"]), ("PointError", [.inr "PointError", .inl "ValueError"]), ("BadProgramme", [.inr "BadProgramme", .inr "PointError", .inl "ValueError"])]
def cs_houses : List Str := ["Programme"]
def cs_kinds : List Str := ["Programme"]
def cs_partners : List Str := ["Programme"]
def cs_shelves : List Str := ["Programme"]
def csx_part : List Str := ["BadProgramme"]
def tst_BadProgramme (x : Str) : Option Bool := ([("PointError", false), ("BadProgramme", true)] : List (Str × Bool)).lookup x
def tst_PointError (x : Str) : Option Bool := ([("PointError", true), ("BadProgramme", true)] : List (Str × Bool)).lookup x
abbrev st__law_int : Stmt := top 28
abbrev N__law_int : List Str := ["thing", "least", "most"]
theorem sc__law_int : FnScope N__law_int ["thing", "least", "most"] (defScope st__law_int) := ⟨rfl, rfl, rfl, by decide +kernel, rfl, by decide +kernel, by decide +kernel⟩
def m__law_int : MS :=
  (zRet (zAndE (zCallB (isiG kits plainCs) false (zCons (zVar 0) (zCons (zC (.ty "int")) zNil))) (zAndE (zNotE (zCallB (isiG kits plainCs) false (zCons (zVar 0) (zCons (zC (.ty "bool")) zNil)))) (zChain leZ leZ (zVar 1) (zVar 0) (zVar 2)))))
def F__law_int : List Z → Hv → Res Z := run 3 m__law_int
abbrev st__law_is_day : Stmt := top 33
abbrev N__law_is_day : List Str := ["thing"]
theorem sc__law_is_day : FnScope N__law_is_day ["thing"] (defScope st__law_is_day) := ⟨rfl, rfl, rfl, by decide +kernel, rfl, by decide +kernel, by decide +kernel⟩
def m__law_is_day : MS :=
  (zRet (zCall F__law_int (zCons (zVar 0) (zCons (zC (.int 0)) (zCons (zC (.int 999999)) zNil)))))
def F__law_is_day : List Z → Hv → Res Z := run 1 m__law_is_day
abbrev st__law_is_label : Stmt := top 32
abbrev N__law_is_label : List Str := ["thing", "sign"]
theorem sc__law_is_label : FnScope N__law_is_label ["thing"] (defScope st__law_is_label) := ⟨rfl, rfl, rfl, by decide +kernel, rfl, by decide +kernel, by decide +kernel⟩
def m__law_is_label : MS :=
  (zSeq (zIf (zOr (zNot (zTru (zCallB (isiG kits plainCs) false (zCons (zVar 0) (zCons (zC (.ty "str")) zNil))))) (zNot (zTst (zChain leZ leZ (zC (.int 1)) (zCallB lenZ false (zCons (zVar 0) zNil)) (zC (.int 10))))))
  (zRet (zC (.bl false)))
  zNop)
  (zRet (zCallB allZ false (zCons (zLc false [1] (iSeq (zVar 0)) (gOne 1) zYes (zBin inZ false (zVar 1) (zC (.str "abcdefghijklmnopqrstuvwxyz")))) zNil))))
def F__law_is_label : List Z → Hv → Res Z := run 2 m__law_is_label
abbrev st__law_are_houses : Stmt := top 36
abbrev N__law_are_houses : List Str := ["thing", "row"]
theorem sc__law_are_houses : FnScope N__law_are_houses ["thing"] (defScope st__law_are_houses) := ⟨rfl, rfl, rfl, by decide +kernel, rfl, by decide +kernel, by decide +kernel⟩
def m__law_are_houses : MS :=
  (zSeq (zIf (zOr (zNot (zTru (zCallB (isiG kits plainCs) false (zCons (zVar 0) (zCons (zC (.ty "tuple")) zNil))))) (zTst (zBin gtZ false (zCallB lenZ false (zCons (zVar 0) zNil)) (zC (.int 20)))))
  (zRet (zC (.bl false)))
  zNop)
  (zSeq (zFor (iSeq (zVar 0)) (gOne 1)
  (zSeq (zIf (zOr (zNot (zTru (zCallB (isiG kits plainCs) false (zCons (zVar 1) (zCons (zC (.ty "tuple")) zNil))))) (zOr (zTst (zBin neZ false (zCallB lenZ false (zCons (zVar 1) zNil)) (zC (.int 4)))) (zOr (zNot (zTru (zCall F__law_is_label (zCons (zBin ixZ false (zVar 1) (zC (.int 0))) zNil)))) (zNot (zTru (zCall F__law_is_label (zCons (zBin ixZ false (zVar 1) (zC (.int 1))) zNil)))))))
  (zRet (zC (.bl false)))
  zNop)
  (zIf (zOr (zNot (zTru (zCall F__law_is_day (zCons (zBin ixZ false (zVar 1) (zC (.int 2))) zNil)))) (zOr (zNot (zTru (zCall F__law_is_day (zCons (zBin ixZ false (zVar 1) (zC (.int 3))) zNil)))) (zTst (zBin gtZ false (zBin ixZ false (zVar 1) (zC (.int 2))) (zBin ixZ false (zVar 1) (zC (.int 3)))))))
  (zRet (zC (.bl false)))
  zNop)))
  (zRet (zC (.bl true)))))
def F__law_are_houses : List Z → Hv → Res Z := run 2 m__law_are_houses
abbrev st__law_are_labels : Stmt := top 34
abbrev N__law_are_labels : List Str := ["thing", "least", "most", "one"]
theorem sc__law_are_labels : FnScope N__law_are_labels ["thing", "least", "most"] (defScope st__law_are_labels) := ⟨rfl, rfl, rfl, by decide +kernel, rfl, by decide +kernel, by decide +kernel⟩
def m__law_are_labels : MS :=
  (zSeq (zIf (zOr (zNot (zTru (zCallB (isiG kits plainCs) false (zCons (zVar 0) (zCons (zC (.ty "tuple")) zNil))))) (zNot (zTst (zChain leZ leZ (zVar 1) (zCallB lenZ false (zCons (zVar 0) zNil)) (zVar 2)))))
  (zRet (zC (.bl false)))
  zNop)
  (zSeq (zIf (zNot (zTru (zCallB allZ false (zCons (zLc false [3] (iSeq (zVar 0)) (gOne 3) zYes (zCall F__law_is_label (zCons (zVar 3) zNil))) zNil))))
  (zRet (zC (.bl false)))
  zNop)
  (zRet (zBin eqZ false (zLenSet (zVar 0)) (zCallB lenZ false (zCons (zVar 0) zNil))))))
def F__law_are_labels : List Z → Hv → Res Z := run 4 m__law_are_labels
abbrev st__law_are_shelves : Stmt := top 35
abbrev N__law_are_shelves : List Str := ["kinds", "thing", "pair", "kind"]
theorem sc__law_are_shelves : FnScope N__law_are_shelves ["kinds", "thing"] (defScope st__law_are_shelves) := ⟨rfl, rfl, rfl, by decide +kernel, rfl, by decide +kernel, by decide +kernel⟩
def m__law_are_shelves : MS :=
  (zSeq (zIf (zOr (zNot (zTru (zCallB (isiG kits plainCs) false (zCons (zVar 1) (zCons (zC (.ty "tuple")) zNil))))) (zNot (zTst (zChain leZ leZ (zC (.int 1)) (zCallB lenZ false (zCons (zVar 1) zNil)) (zC (.int 8))))))
  (zRet (zC (.bl false)))
  zNop)
  (zSeq (zFor (iSeq (zVar 1)) (gOne 2)
  (zSeq (zIf (zOr (zNot (zTru (zCallB (isiG kits plainCs) false (zCons (zVar 2) (zCons (zC (.ty "tuple")) zNil))))) (zOr (zTst (zBin neZ false (zCallB lenZ false (zCons (zVar 2) zNil)) (zC (.int 2)))) (zNot (zTru (zCall F__law_are_labels (zCons (zBin ixZ false (zVar 2) (zC (.int 1))) (zCons (zC (.int 0)) (zCons (zC (.int 8)) zNil))))))))
  (zRet (zC (.bl false)))
  zNop)
  (zIf (zOr (zNot (zTru (zCall F__law_is_label (zCons (zBin ixZ false (zVar 2) (zC (.int 0))) zNil)))) (zNot (zTru (zCallB allZ false (zCons (zLc false [3] (iSeq (zBin ixZ false (zVar 2) (zC (.int 1)))) (gOne 3) zYes (zBin inZ false (zVar 3) (zVar 0))) zNil)))))
  (zRet (zC (.bl false)))
  zNop)))
  (zRet (zBin eqZ false (zLenSet (zLc false [2] (iSeq (zVar 1)) (gOne 2) zYes (zBin ixZ false (zVar 2) (zC (.int 0))))) (zCallB lenZ false (zCons (zVar 1) zNil))))))
def F__law_are_shelves : List Z → Hv → Res Z := run 4 m__law_are_shelves
abbrev st__law_bad_part : Stmt := top 37
abbrev N__law_bad_part : List Str := ["parts", "kinds", "shelves", "partners", "houses"]
theorem sc__law_bad_part : FnScope N__law_bad_part ["parts"] (defScope st__law_bad_part) := ⟨rfl, rfl, rfl, by decide +kernel, rfl, by decide +kernel, by decide +kernel⟩
def m__law_bad_part : MS :=
  (zSeq (zAsg (zVar 0) (gTp [(gOne 1), (gOne 2), (gOne 3), (gOne 4)]))
  (zSeq (zIf (zNot (zTru (zCall F__law_are_labels (zCons (zVar 1) (zCons (zC (.int 1)) (zCons (zC (.int 8)) zNil))))))
  (zRet (zC (.str "kinds")))
  zNop)
  (zSeq (zIf (zNot (zTru (zCall F__law_are_shelves (zCons (zVar 1) (zCons (zVar 2) zNil)))))
  (zRet (zC (.str "shelves")))
  zNop)
  (zSeq (zIf (zNot (zTru (zCall F__law_are_labels (zCons (zVar 3) (zCons (zC (.int 1)) (zCons (zC (.int 8)) zNil))))))
  (zRet (zC (.str "partners")))
  zNop)
  (zRet (zIfE (zTru (zCall F__law_are_houses (zCons (zVar 4) zNil))) (zC .non) (zC (.str "houses"))))))))
def F__law_bad_part : List Z → Hv → Res Z := run 5 m__law_bad_part
abbrev st__law_draw : Stmt := top 25
abbrev N__law_draw : List Str := ["hand", "limit", "cell", "digit", "number"]
theorem sc__law_draw : FnScope N__law_draw ["hand", "limit"] (defScope st__law_draw) := ⟨rfl, rfl, rfl, by decide +kernel, rfl, by decide +kernel, by decide +kernel⟩
def m__law_draw : MS :=
  (zSeq (zIf (zAnd (zTst (zBin eqZ false (zBin ixZ false (zVar 0) (zC (.int 2))) (zC (.int 0)))) (zTst (zBin ltZ false (zBin ixZ false (zVar 0) (zC (.int 1))) (zCallB lenZ false (zCons (zBin ixZ false (zVar 0) (zC (.int 0))) zNil)))))
  (zSeq (zAsg (zBin ixZ false (zBin ixZ false (zVar 0) (zC (.int 0))) (zBin ixZ false (zVar 0) (zC (.int 1)))) (gOne 2))
  (zSeq (zSet setZ (zBin addZ false (zBin ixZ false (zVar 0) (zC (.int 1))) (zC (.int 1))) (zVar 0) (zC (.int 1)))
  (zSeq (zSet setZ (zBin modZ false (zCallB intZ false (zCons (zBin addZ false (zBin addZ false (zBin mul0Z false (zBin ixZ false (zVar 0) (zC (.int 3))) (zC (.int 69621))) (zVar 2)) (zC (.int 97))) zNil)) (zC (.int 2147483629))) (zVar 0) (zC (.int 3)))
  (zIf (zTst (zBin geZ false (zVar 2) (zBin powZ false (zC (.int 10)) (zC (.int 18)))))
  (zSet setZ (zVar 2) (zVar 0) (zC (.int 2)))
  zNop))))
  zNop)
  (zSeq (zIf (zTst (zBin gtZ false (zBin ixZ false (zVar 0) (zC (.int 2))) (zC (.int 0))))
  (zSeq (zAsg (zBin modZ false (zCallB intZ false (zCons (zBin ixZ false (zVar 0) (zC (.int 2))) zNil)) (zVar 1)) (gOne 3))
  (zSeq (zSet setZ (zBin fdivZ false (zBin ixZ false (zVar 0) (zC (.int 2))) (zVar 1)) (zVar 0) (zC (.int 2)))
  (zRet (zVar 3))))
  zNop)
  (zSeq (zSet setZ (zBin addZ false (zBin ixZ false (zVar 0) (zC (.int 4))) (zC (.int 1))) (zVar 0) (zC (.int 4)))
  (zSeq (zAsg (zBin modZ false (zCallB intZ false (zCons (zBin mul0Z false (zCallB intZ false (zCons (zBin addZ false (zBin ixZ false (zVar 0) (zC (.int 3))) (zBin mul0Z false (zC (.int 7919)) (zBin ixZ false (zVar 0) (zC (.int 4))))) zNil)) (zC (.int 48271))) zNil)) (zC (.int 2147483647))) (gOne 4))
  (zSeq (zAsg (zBin modZ false (zCallB intZ false (zCons (zBin mul0Z false (zVar 4) (zBin addZ false (zBin fdivZ false (zVar 4) (zC (.int 1009))) (zC (.int 69621)))) zNil)) (zC (.int 2147483647))) (gOne 4))
  (zSeq (zAsg (zBin modZ false (zCallB intZ false (zCons (zBin mul0Z false (zVar 4) (zBin addZ false (zBin fdivZ false (zVar 4) (zC (.int 2003))) (zC (.int 40692)))) zNil)) (zC (.int 2147483399))) (gOne 4))
  (zRet (zBin modZ false (zCallB intZ false (zCons (zBin fdivZ false (zVar 4) (zC (.int 16))) zNil)) (zVar 1)))))))))
def F__law_draw : List Z → Hv → Res Z := run 5 m__law_draw
abbrev st__law_some : Stmt := top 26
abbrev N__law_some : List Str := ["hand", "items"]
theorem sc__law_some : FnScope N__law_some ["hand", "items"] (defScope st__law_some) := ⟨rfl, rfl, rfl, by decide +kernel, rfl, by decide +kernel, by decide +kernel⟩
def m__law_some : MS :=
  (zRet (zBin ixZ false (zVar 1) (zCall F__law_draw (zCons (zVar 0) (zCons (zCallB lenZ false (zCons (zVar 1) zNil)) zNil)))))
def F__law_some : List Z → Hv → Res Z := run 2 m__law_some
abbrev st__law_label : Stmt := top 29
abbrev N__law_label : List Str := ["hand", "letters", "size", "turn"]
theorem sc__law_label : FnScope N__law_label ["hand"] (defScope st__law_label) := ⟨rfl, rfl, rfl, by decide +kernel, rfl, by decide +kernel, by decide +kernel⟩
def m__law_label : MS :=
  (zSeq (zAsg (zCall F__law_some (zCons (zVar 0) (zCons (zLst false (zCons (zC (.str "ab")) (zCons (zC (.str "abc")) (zCons (zC (.str "abcdefghijklmnopqrstuvwxyz")) zNil)))) zNil))) (gOne 1))
  (zSeq (zAsg (zIfE (zTst (zBin eqZ false (zCall F__law_draw (zCons (zVar 0) (zCons (zC (.int 8)) zNil))) (zC (.int 0)))) (zC (.int 10)) (zBin addZ false (zC (.int 1)) (zCall F__law_draw (zCons (zVar 0) (zCons (zC (.int 4)) zNil))))) (gOne 2))
  (zRet (zMeth "str" joinZ false (zC (.str "")) (zCons (zLc false [3] (iR1 (zCons (zVar 2) zNil)) (gOne 3) zYes (zBin ixZ false (zVar 1) (zCall F__law_draw (zCons (zVar 0) (zCons (zCallB lenZ false (zCons (zVar 1) zNil)) zNil))))) zNil)))))
def F__law_label : List Z → Hv → Res Z := run 4 m__law_label
abbrev st__law_deep : Stmt := top 38
abbrev N__law_deep : List Str := ["thing", "turns", "turn"]
theorem sc__law_deep : FnScope N__law_deep ["thing", "turns"] (defScope st__law_deep) := ⟨rfl, rfl, rfl, by decide +kernel, rfl, by decide +kernel, by decide +kernel⟩
def m__law_deep : MS :=
  (zSeq (zFor (iR1 (zCons (zVar 1) zNil)) (gOne 2)
  (zAsg (zIfE (zTst (zBin ltZ false (zVar 2) (zC (.int 5)))) (zTup (zCons (zVar 0) zNil)) (zLst false (zCons (zVar 0) zNil))) (gOne 0)))
  (zRet (zVar 0)))
def F__law_deep : List Z → Hv → Res Z := run 3 m__law_deep
abbrev st__law_odd : Stmt := top 39
abbrev N__law_odd : List Str := ["hand", "odd"]
theorem sc__law_odd : FnScope N__law_odd ["hand"] (defScope st__law_odd) := ⟨rfl, rfl, rfl, by decide +kernel, rfl, by decide +kernel, by decide +kernel⟩
def m__law_odd : MS :=
  (zSeq (zAsg (zLst false (zCons (zC .non) (zCons (zC (.bl true)) (zCons (zC (.bl false)) (zCons (zC (.int 0)) (zCons (zC (.int 1)) (zCons (zUn negZ (zC (.int 1))) (zCons (zBin powZ false (zC (.int 10)) (zC (.int 30))) (zCons (zC (.str "")) (zCons (zC (.str "a")) (zCons (zC (.str "A")) (zCons (zC (.str "ab c")) (zCons (zC (.str "abcdefghijk")) (zCons (zTup zNil) (zCons (zLst false zNil) (zCons (zDisp false []) (zCons (zTup (zCons (zC (.int 0)) zNil)) (zCons (zTup (zCons (zC (.str "a")) zNil)) (zCons (zDisp false [((zC (.int 0)), (zC (.int 0)))]) zNil))))))))))))))))))) (gOne 1))
  (zRet (zCall F__law_some (zCons (zVar 0) (zCons (zBin addZ false (zVar 1) (zLst false (zCons (zCall F__law_deep (zCons (zTup zNil) (zCons (zC (.int 11)) zNil))) (zCons (zC (.int 999999)) (zCons (zBin powZ false (zC (.int 10)) (zC (.int 6))) (zCons (zBin powZ false (zC (.int 10)) (zC (.int 9))) zNil)))))) zNil)))))
def F__law_odd : List Z → Hv → Res Z := run 2 m__law_odd
abbrev st__law_bent : Stmt := top 40
abbrev N__law_bent : List Str := ["hand", "thing", "kind", "at", "to", "some"]
theorem sc__law_bent : FnScope N__law_bent ["hand", "thing"] (defScope st__law_bent) := ⟨rfl, rfl, rfl, by decide +kernel, rfl, by decide +kernel, by decide +kernel⟩
def m__law_bent (F : List Z → Hv → Res Z) : MS :=
  (zSeq (zAsg (zCall F__law_draw (zCons (zVar 0) (zCons (zC (.int 12)) zNil))) (gOne 2))
  (zSeq (zIf (zAnd (zTru (zCallB (isiG kits plainCs) false (zCons (zVar 1) (zCons (zC (.ty "tuple")) zNil)))) (zAnd (zTst (zBin gtZ false (zCallB lenZ false (zCons (zVar 1) zNil)) (zC (.int 0)))) (zTst (zBin gtZ false (zVar 2) (zC (.int 3))))))
  (zSeq (zAsg (zCall F__law_draw (zCons (zVar 0) (zCons (zCallB lenZ false (zCons (zVar 1) zNil)) zNil))) (gOne 3))
  (zRet (zBin addZ false (zBin addZ false (zSl false (zVar 1) zNone (zSome (zVar 3))) (zTup (zCons (zCall F (zCons (zVar 0) (zCons (zBin ixZ false (zVar 1) (zVar 3)) zNil))) zNil))) (zSl false (zVar 1) (zSome (zBin addZ false (zVar 3) (zC (.int 1)))) zNone))))
  zNop)
  (zSeq (zIf (zTru (zCallB (isiG kits plainCs) false (zCons (zVar 1) (zCons (zC (.ty "tuple")) zNil))))
  (zSeq (zPar2 3 4 (zCons (zCall F__law_draw (zCons (zVar 0) (zCons (zBin addZ false (zCallB lenZ false (zCons (zVar 1) zNil)) (zC (.int 1))) zNil))) (zCons (zCall F__law_draw (zCons (zVar 0) (zCons (zBin addZ false (zCallB lenZ false (zCons (zVar 1) zNil)) (zC (.int 1))) zNil))) zNil)))
  (zSeq (zAsg (zLst false (zCons (zBin addZ false (zSl false (zVar 1) zNone (zSome (zVar 3))) (zSl false (zVar 1) (zSome (zBin addZ false (zVar 3) (zC (.int 1)))) zNone)) (zCons (zBin addZ false (zBin addZ false (zSl false (zVar 1) zNone (zSome (zVar 3))) (zSl false (zVar 1) (zSome (zVar 3)) (zSome (zBin addZ false (zVar 3) (zC (.int 1)))))) (zSl false (zVar 1) (zSome (zVar 3)) zNone)) (zCons (zCallB listZ false (zCons (zVar 1) zNil)) (zCons (zRev false (zVar 1)) zNil))))) (gOne 5))
  (zSeq (zAsg (zBin addZ false (zVar 5) (zLst false (zCons (zBin addZ false (zBin addZ false (zSl false (zVar 1) zNone (zSome (zVar 3))) (zSl false (zBin addZ false (zSl false (zVar 1) (zSome (zVar 4)) zNone) (zSl false (zVar 1) zNone (zSome (zVar 4)))) zNone (zSome (zC (.int 1))))) (zSl false (zVar 1) (zSome (zBin addZ false (zVar 3) (zC (.int 1)))) zNone)) (zCons (zBin addZ false (zVar 1) (zTup (zCons (zC (.int 0)) zNil))) (zCons (zSl false (zVar 1) zNone (zSome (zUn negZ (zC (.int 1))))) zNil))))) (gOne 5))
  (zRet (zCall F__law_some (zCons (zVar 0) (zCons (zBin addZ false (zVar 5) (zLst false (zCons (zBin addZ false (zSl false (zVar 1) (zSome (zVar 3)) zNone) (zSl false (zVar 1) zNone (zSome (zVar 3)))) (zCons (zCall F__law_odd (zCons (zVar 0) zNil)) (zCons (zSl false (zBin mul0Z false (zVar 1) (zC (.int 61))) zNone (zSome (zC (.int 61)))) zNil))))) zNil)))))))
  zNop)
  (zSeq (zIf (zTru (zCall F__law_int (zCons (zVar 1) (zCons (zC (.int 0)) (zCons (zBin powZ false (zC (.int 10)) (zC (.int 12))) zNil)))))
  (zRet (zCall F__law_some (zCons (zVar 0) (zCons (zLst false (zCons (zBin addZ false (zCallB intZ false (zCons (zVar 1) zNil)) (zC (.int 1))) (zCons (zBin subZ false (zCallB intZ false (zCons (zVar 1) zNil)) (zC (.int 1))) (zCons (zBin eqZ false (zVar 1) (zC (.int 1))) (zCons (zCallB strZ false (zCons (zVar 1) zNil)) (zCons (zC (.int 999999)) (zCons (zBin powZ false (zC (.int 10)) (zC (.int 6))) (zCons (zBin powZ false (zC (.int 10)) (zC (.int 9))) zNil)))))))) zNil))))
  zNop)
  (zSeq (zIf (zTru (zCallB (isiG kits plainCs) false (zCons (zVar 1) (zCons (zC (.ty "str")) zNil))))
  (zSeq (zAsg (zLst false (zCons (zBin addZ false (zVar 1) (zC (.str "a"))) (zCons (zSl false (zVar 1) (zSome (zC (.int 1))) zNone) (zCons (zC (.str "")) (zCons (zMeth "str" upperZ false (zVar 1) zNil) (zCons (zCall F__law_label (zCons (zVar 0) zNil)) (zCons (zTup (zCons (zVar 1) zNil)) (zCons (zBin addZ false (zVar 1) (zC (.str " "))) zNil)))))))) (gOne 5))
  (zRet (zCall F__law_some (zCons (zVar 0) (zCons (zBin addZ false (zVar 5) (zLst false (zCons (zC .non) zNil))) zNil)))))
  zNop)
  (zRet (zCall F__law_odd (zCons (zVar 0) zNil))))))))
def F__law_bent : Nat → List Z → Hv → Res Z
  | 0 => fun _ _ => .bad
  | n + 1 => run 6 (m__law_bent (F__law_bent n))
abbrev st_Programme_C_all_parts : Stmt := inClass (top 22) 1
abbrev N_Programme_C_all_parts : List Str := ["self"]
theorem sc_Programme_C_all_parts : FnScope N_Programme_C_all_parts ["self"] (defScope st_Programme_C_all_parts) := ⟨rfl, rfl, rfl, by decide +kernel, rfl, by decide +kernel, by decide +kernel⟩
def m_Programme_C_all_parts : MS :=
  (zRet (zTup (zCons (zFld cs_kinds "kinds" (zVar 0)) (zCons (zFld cs_shelves "shelves" (zVar 0)) (zCons (zFld cs_partners "partners" (zVar 0)) (zCons (zFld cs_houses "houses" (zVar 0)) zNil))))))
def F_Programme_C_all_parts : List Z → Hv → Res Z := run 1 m_Programme_C_all_parts
abbrev st_Programme_C_u_eq_u : Stmt := inClass (top 22) 2
abbrev N_Programme_C_u_eq_u : List Str := ["self", "other"]
theorem sc_Programme_C_u_eq_u : FnScope N_Programme_C_u_eq_u ["self", "other"] (defScope st_Programme_C_u_eq_u) := ⟨rfl, rfl, rfl, by decide +kernel, rfl, by decide +kernel, by decide +kernel⟩
def m_Programme_C_u_eq_u : MS :=
  (zRet (zAndE (zCallB (isiG kits plainCs) false (zCons (zVar 1) (zCons (zC (.glo "Programme")) zNil))) (zBin eqZ false (zMethU "Programme" "all_parts" F_Programme_C_all_parts (zVar 0) zNil) (zMethU "Programme" "all_parts" F_Programme_C_all_parts (zVar 1) zNil))))
def F_Programme_C_u_eq_u : List Z → Hv → Res Z := run 2 m_Programme_C_u_eq_u
abbrev st_is_integer : Stmt := top 4
abbrev N_is_integer : List Str := ["thing"]
theorem sc_is_integer : FnScope N_is_integer ["thing"] (defScope st_is_integer) := ⟨rfl, rfl, rfl, by decide +kernel, rfl, by decide +kernel, by decide +kernel⟩
def m_is_integer : MS :=
  (zRet (zAndE (zCallB (isiG kits plainCs) false (zCons (zVar 0) (zCons (zC (.ty "int")) zNil))) (zNotE (zCallB (isiG kits plainCs) false (zCons (zVar 0) (zCons (zC (.ty "bool")) zNil))))))
def F_is_integer : List Z → Hv → Res Z := run 1 m_is_integer
abbrev st_is_from_to : Stmt := top 5
abbrev N_is_from_to : List Str := ["thing", "least", "most"]
theorem sc_is_from_to : FnScope N_is_from_to ["thing", "least", "most"] (defScope st_is_from_to) := ⟨rfl, rfl, rfl, by decide +kernel, rfl, by decide +kernel, by decide +kernel⟩
def m_is_from_to : MS :=
  (zRet (zAndE (zCall F_is_integer (zCons (zVar 0) zNil)) (zChain leZ leZ (zVar 1) (zVar 0) (zVar 2))))
def F_is_from_to : List Z → Hv → Res Z := run 3 m_is_from_to
abbrev st_is_day : Stmt := top 7
abbrev N_is_day : List Str := ["thing"]
theorem sc_is_day : FnScope N_is_day ["thing"] (defScope st_is_day) := ⟨rfl, rfl, rfl, by decide +kernel, rfl, by decide +kernel, by decide +kernel⟩
def m_is_day : MS :=
  (zRet (zCall F_is_from_to (zCons (zVar 0) (zCons (zC (.int 0)) (zCons (zC (.int (999999))) zNil)))))
def F_is_day : List Z → Hv → Res Z := run 1 m_is_day
abbrev st_is_label : Stmt := top 6
abbrev N_is_label : List Str := ["thing", "sign"]
theorem sc_is_label : FnScope N_is_label ["thing"] (defScope st_is_label) := ⟨rfl, rfl, rfl, by decide +kernel, rfl, by decide +kernel, by decide +kernel⟩
def m_is_label : MS :=
  (zSeq (zIf (zOr (zNot (zTru (zCallB (isiG kits plainCs) false (zCons (zVar 0) (zCons (zC (.ty "str")) zNil))))) (zNot (zTst (zChain leZ leZ (zC (.int 1)) (zCallB lenZ false (zCons (zVar 0) zNil)) (zC (.int (10)))))))
  (zRet (zC (.bl false)))
  zNop)
  (zRet (zCallB allZ false (zCons (zLc false [1] (iSeq (zVar 0)) (gOne 1) zYes (zBin inZ false (zVar 1) (zC (.str "abcdefghijklmnopqrstuvwxyz")))) zNil))))
def F_is_label : List Z → Hv → Res Z := run 2 m_is_label
abbrev st_is_tuple_of : Stmt := top 8
abbrev N_is_tuple_of : List Str := ["thing", "many"]
theorem sc_is_tuple_of : FnScope N_is_tuple_of ["thing", "many"] (defScope st_is_tuple_of) := ⟨rfl, rfl, rfl, by decide +kernel, rfl, by decide +kernel, by decide +kernel⟩
def m_is_tuple_of : MS :=
  (zRet (zAndE (zCallB (isiG kits plainCs) false (zCons (zVar 0) (zCons (zC (.ty "tuple")) zNil))) (zBin eqZ false (zCallB lenZ false (zCons (zVar 0) zNil)) (zVar 1))))
def F_is_tuple_of : List Z → Hv → Res Z := run 2 m_is_tuple_of
abbrev st_is_stay : Stmt := top 20
abbrev N_is_stay : List Str := ["thing"]
theorem sc_is_stay : FnScope N_is_stay ["thing"] (defScope st_is_stay) := ⟨rfl, rfl, rfl, by decide +kernel, rfl, by decide +kernel, by decide +kernel⟩
def m_is_stay : MS :=
  (zSeq (zIf (zOr (zNot (zTru (zCall F_is_tuple_of (zCons (zVar 0) (zCons (zC (.int 4)) zNil))))) (zOr (zNot (zTru (zCall F_is_label (zCons (zBin ixZ false (zVar 0) (zC (.int 0))) zNil)))) (zNot (zTru (zCall F_is_label (zCons (zBin ixZ false (zVar 0) (zC (.int 1))) zNil))))))
  (zRet (zC (.bl false)))
  zNop)
  (zRet (zAndE (zCall F_is_day (zCons (zBin ixZ false (zVar 0) (zC (.int 2))) zNil)) (zAndE (zCall F_is_day (zCons (zBin ixZ false (zVar 0) (zC (.int 3))) zNil)) (zBin leZ false (zBin ixZ false (zVar 0) (zC (.int 2))) (zBin ixZ false (zVar 0) (zC (.int 3))))))))
def F_is_stay : List Z → Hv → Res Z := run 1 m_is_stay
abbrev st_are_houses : Stmt := top 21
abbrev N_are_houses : List Str := ["thing", "one"]
theorem sc_are_houses : FnScope N_are_houses ["thing"] (defScope st_are_houses) := ⟨rfl, rfl, rfl, by decide +kernel, rfl, by decide +kernel, by decide +kernel⟩
def m_are_houses : MS :=
  (zRet (zAndE (zCallB (isiG kits plainCs) false (zCons (zVar 0) (zCons (zC (.ty "tuple")) zNil))) (zAndE (zBin leZ false (zCallB lenZ false (zCons (zVar 0) zNil)) (zC (.int (20)))) (zCallB allZ false (zCons (zLc false [1] (iSeq (zVar 0)) (gOne 1) zYes (zCall F_is_stay (zCons (zVar 1) zNil))) zNil)))))
def F_are_houses : List Z → Hv → Res Z := run 2 m_are_houses
abbrev st_are_labels : Stmt := top 9
abbrev N_are_labels : List Str := ["thing", "most", "one"]
theorem sc_are_labels : FnScope N_are_labels ["thing", "most"] (defScope st_are_labels) := ⟨rfl, rfl, rfl, by decide +kernel, rfl, by decide +kernel, by decide +kernel⟩
def m_are_labels : MS :=
  (zSeq (zIf (zOr (zNot (zTru (zCallB (isiG kits plainCs) false (zCons (zVar 0) (zCons (zC (.ty "tuple")) zNil))))) (zNot (zTst (zChain leZ leZ (zC (.int 1)) (zCallB lenZ false (zCons (zVar 0) zNil)) (zVar 1)))))
  (zRet (zC (.bl false)))
  zNop)
  (zRet (zAndE (zCallB allZ false (zCons (zLc false [2] (iSeq (zVar 0)) (gOne 2) zYes (zCall F_is_label (zCons (zVar 2) zNil))) zNil)) (zBin eqZ false (zLenSet (zVar 0)) (zCallB lenZ false (zCons (zVar 0) zNil))))))
def F_are_labels : List Z → Hv → Res Z := run 3 m_are_labels
abbrev st_is_shelf_of : Stmt := top 18
abbrev N_is_shelf_of : List Str := ["thing", "kinds", "one"]
theorem sc_is_shelf_of : FnScope N_is_shelf_of ["thing", "kinds"] (defScope st_is_shelf_of) := ⟨rfl, rfl, rfl, by decide +kernel, rfl, by decide +kernel, by decide +kernel⟩
def m_is_shelf_of : MS :=
  (zSeq (zIf (zOr (zNot (zTru (zCall F_is_tuple_of (zCons (zVar 0) (zCons (zC (.int 2)) zNil))))) (zOr (zNot (zTru (zCall F_is_label (zCons (zBin ixZ false (zVar 0) (zC (.int 0))) zNil)))) (zNot (zTru (zCallB (isiG kits plainCs) false (zCons (zBin ixZ false (zVar 0) (zC (.int 1))) (zCons (zC (.ty "tuple")) zNil)))))))
  (zRet (zC (.bl false)))
  zNop)
  (zRet (zAndE (zCallB allZ false (zCons (zLc false [2] (iSeq (zBin ixZ false (zVar 0) (zC (.int 1)))) (gOne 2) zYes (zAndE (zCall F_is_label (zCons (zVar 2) zNil)) (zBin inZ false (zVar 2) (zVar 1)))) zNil)) (zBin eqZ false (zLenSet (zBin ixZ false (zVar 0) (zC (.int 1)))) (zCallB lenZ false (zCons (zBin ixZ false (zVar 0) (zC (.int 1))) zNil))))))
def F_is_shelf_of : List Z → Hv → Res Z := run 3 m_is_shelf_of
abbrev st_are_shelves : Stmt := top 19
abbrev N_are_shelves : List Str := ["thing", "kinds", "one"]
theorem sc_are_shelves : FnScope N_are_shelves ["thing", "kinds"] (defScope st_are_shelves) := ⟨rfl, rfl, rfl, by decide +kernel, rfl, by decide +kernel, by decide +kernel⟩
def m_are_shelves : MS :=
  (zSeq (zIf (zOr (zNot (zTru (zCallB (isiG kits plainCs) false (zCons (zVar 0) (zCons (zC (.ty "tuple")) zNil))))) (zNot (zTst (zChain leZ leZ (zC (.int 1)) (zCallB lenZ false (zCons (zVar 0) zNil)) (zC (.int (8)))))))
  (zRet (zC (.bl false)))
  zNop)
  (zRet (zAndE (zCallB allZ false (zCons (zLc false [2] (iSeq (zVar 0)) (gOne 2) zYes (zCall F_is_shelf_of (zCons (zVar 2) (zCons (zVar 1) zNil)))) zNil)) (zBin eqZ false (zCallB lenZ false (zCons (zDc [2] (iSeq (zVar 0)) (gOne 2) zYes (zBin ixZ false (zVar 2) (zC (.int 0))) (zC (.bl true))) zNil)) (zCallB lenZ false (zCons (zVar 0) zNil))))))
def F_are_shelves : List Z → Hv → Res Z := run 3 m_are_shelves
abbrev st_Programme_C_u_init_u : Stmt := inClass (top 22) 0
abbrev N_Programme_C_u_init_u : List Str := ["self", "kinds", "shelves", "partners", "houses"]
theorem sc_Programme_C_u_init_u : FnScope N_Programme_C_u_init_u ["self", "kinds", "shelves", "partners", "houses"] (defScope st_Programme_C_u_init_u) := ⟨rfl, rfl, rfl, by decide +kernel, rfl, by decide +kernel, by decide +kernel⟩
def m_Programme_C_u_init_u : MS :=
  (zSeq (zIf (zNot (zTru (zCall F_are_labels (zCons (zVar 1) (zCons (zC (.int (8))) zNil)))))
  (zRaise1 "BadProgramme" "part" (zCons (zC (.str "kinds")) zNil))
  zNop)
  (zSeq (zIf (zNot (zTru (zCall F_are_shelves (zCons (zVar 2) (zCons (zVar 1) zNil)))))
  (zRaise1 "BadProgramme" "part" (zCons (zC (.str "shelves")) zNil))
  zNop)
  (zSeq (zIf (zNot (zTru (zCall F_are_labels (zCons (zVar 3) (zCons (zC (.int (8))) zNil)))))
  (zRaise1 "BadProgramme" "part" (zCons (zC (.str "partners")) zNil))
  zNop)
  (zSeq (zIf (zNot (zTru (zCall F_are_houses (zCons (zVar 4) zNil))))
  (zRaise1 "BadProgramme" "part" (zCons (zC (.str "houses")) zNil))
  zNop)
  (zSeq (zSetFld cs_kinds "kinds" (zVar 1) (zVar 0))
  (zSeq (zSetFld cs_shelves "shelves" (zVar 2) (zVar 0))
  (zSeq (zSetFld cs_partners "partners" (zVar 3) (zVar 0))
  (zSetFld cs_houses "houses" (zVar 4) (zVar 0)))))))))
def F_Programme_C_u_init_u : List Z → Hv → Res Z := run 5 m_Programme_C_u_init_u
abbrev st__law_is : Stmt := top 27
abbrev N__law_is : List Str := ["thing", "due", "one", "other"]
theorem sc__law_is : FnScope N__law_is ["thing", "due"] (defScope st__law_is) := ⟨rfl, rfl, rfl, by decide +kernel, rfl, by decide +kernel, by decide +kernel⟩
def m__law_is (F : List Z → Hv → Res Z) : MS :=
  (zSeq (zIf (zTru (zCallB (isiG kits plainCs) false (zCons (zVar 1) (zCons (zTup (zCons (zC (.ty "tuple")) (zCons (zC (.ty "list")) zNil))) zNil))))
  (zSeq (zIf (zOr (zTst (zBin neZ false (zCallB (isiG kits plainCs) false (zCons (zVar 1) (zCons (zC (.ty "tuple")) zNil))) (zCallB (isiG kits plainCs) false (zCons (zVar 0) (zCons (zC (.ty "tuple")) zNil))))) (zNot (zTru (zCallB (isiG kits plainCs) false (zCons (zVar 0) (zCons (zTup (zCons (zC (.ty "tuple")) (zCons (zC (.ty "list")) zNil))) zNil))))))
  (zRet (zC (.bl false)))
  zNop)
  (zRet (zAndE (zBin eqZ false (zCallB lenZ false (zCons (zVar 0) zNil)) (zCallB lenZ false (zCons (zVar 1) zNil))) (zCallB allZ false (zCons (zLc false [2, 3] (iZip (zCons (zVar 0) (zCons (zVar 1) zNil))) (gTp [(gOne 2), (gOne 3)]) zYes (zCall F (zCons (zVar 2) (zCons (zVar 3) zNil)))) zNil)))))
  zNop)
  (zSeq (zIf (zOr (zTst (zBin isZ false (zVar 1) (zC .non))) (zTst (zBin isZ false (zVar 0) (zC .non))))
  (zRet (zAndE (zBin isZ false (zVar 1) (zC .non)) (zBin isZ false (zVar 0) (zC .non))))
  zNop)
  (zSeq (zIf (zOr (zTru (zCallB (isiG kits plainCs) false (zCons (zVar 1) (zCons (zC (.ty "bool")) zNil)))) (zTru (zCallB (isiG kits plainCs) false (zCons (zVar 0) (zCons (zC (.ty "bool")) zNil)))))
  (zRet (zAndE (zCallB (isiG kits plainCs) false (zCons (zVar 1) (zCons (zC (.ty "bool")) zNil))) (zAndE (zCallB (isiG kits plainCs) false (zCons (zVar 0) (zCons (zC (.ty "bool")) zNil))) (zBin eqZ false (zVar 0) (zVar 1)))))
  zNop)
  (zRet (zAndE (zCallB (isiG kits plainCs) false (zCons (zVar 0) (zCons (zTup (zCons (zC (.ty "int")) (zCons (zC (.ty "str")) zNil))) zNil))) (zAndE (zBin eqZ false (zCallB (isiG kits plainCs) false (zCons (zVar 0) (zCons (zC (.ty "str")) zNil))) (zCallB (isiG kits plainCs) false (zCons (zVar 1) (zCons (zC (.ty "str")) zNil)))) (zBin eqZ false (zVar 0) (zVar 1))))))))
def F__law_is : Nat → List Z → Hv → Res Z
  | 0 => fun _ _ => .bad
  | n + 1 => run 4 (m__law_is (F__law_is n))
abbrev st__law_equal_right : Stmt := top 43
abbrev N__law_equal_right : List Str := ["parts", "others", "one", "other"]
theorem sc__law_equal_right : FnScope N__law_equal_right ["parts", "others"] (defScope st__law_equal_right) := ⟨rfl, rfl, rfl, by decide +kernel, rfl, by decide +kernel, by decide +kernel⟩
def eqTs (C : Str) : List Ty := [.inl "NoneType", .inl "bool", .inl "int", .inl "str", .inl "tuple", .inl "list", .inl "dict", .inr "Programme"]
def eqLv : Nat := 2
def eqs : List (Str × List Ty × (List Z → Hv → Res Z)) := [("Programme", eqTs "Programme", F_Programme_C_u_eq_u)]
def m__law_equal_right : MS :=
  (zSeq (zAsg (zMake true "Programme" F_Programme_C_u_init_u (zCons (zBin ixZ false (zVar 0) (zC (.int 0))) (zCons (zBin ixZ false (zVar 0) (zC (.int 1))) (zCons (zBin ixZ false (zVar 0) (zC (.int 2))) (zCons (zBin ixZ false (zVar 0) (zC (.int 3))) zNil))))) (gOne 2))
  (zSeq (zAsg (zMake true "Programme" F_Programme_C_u_init_u (zCons (zBin ixZ false (zVar 1) (zC (.int 0))) (zCons (zBin ixZ false (zVar 1) (zC (.int 1))) (zCons (zBin ixZ false (zVar 1) (zC (.int 2))) (zCons (zBin ixZ false (zVar 1) (zC (.int 3))) zNil))))) (gOne 3))
  (zRet (zCall (F__law_is 20) (zCons (zLst false (zCons (zEqE (eqU eqs plainCs) (fun b => b) (zVar 2) (zVar 3)) (zCons (zEqE (eqU eqs plainCs) (fun b => !b) (zVar 2) (zVar 3)) zNil))) (zCons (zLst false (zCons (zEqE (eqU eqs plainCs) (fun b => b) (zVar 0) (zVar 1)) (zCons (zEqE (eqU eqs plainCs) (fun b => !b) (zVar 0) (zVar 1)) zNil))) zNil))))))
def F__law_equal_right : List Z → Hv → Res Z := run 4 m__law_equal_right
abbrev st__law_hand : Stmt := top 24
abbrev N__law_hand : List Str := ["script", "cells", "cell"]
theorem sc__law_hand : FnScope N__law_hand ["script"] (defScope st__law_hand) := ⟨rfl, rfl, rfl, by decide +kernel, rfl, by decide +kernel, by decide +kernel⟩
def m__law_hand : MS :=
  (zSeq (zAsg (zLc false [2] (iSeq (zSl false (zVar 0) zNone (zSome (zC (.int 63))))) (gOne 2) zYes (zCallB absZ false (zCons (zCallB intZ false (zCons (zVar 2) zNil)) zNil))) (gOne 1))
  (zRet (zLst true (zCons (zVar 1) (zCons (zC (.int 0)) (zCons (zC (.int 0)) (zCons (zBin addZ false (zC (.int 37)) (zCallB lenZ false (zCons (zVar 1) zNil))) (zCons (zC (.int 0)) zNil))))))))
def F__law_hand : List Z → Hv → Res Z := run 3 m__law_hand
abbrev st__law_told : Stmt := top 41
abbrev N__law_told : List Str := ["parts", "found", "error"]
theorem sc__law_told : FnScope N__law_told ["parts"] (defScope st__law_told) := ⟨rfl, rfl, rfl, by decide +kernel, rfl, by decide +kernel, by decide +kernel⟩
def m__law_told : MS :=
  (zSeq (zAsg (zTup (zCons (zC (.str "other")) (zCons (zC .non) zNil))) (gOne 1))
  (zSeq (zTry (zAsg (zTup (zCons (zC (.str "made")) (zCons (zMake true "Programme" F_Programme_C_u_init_u (zCons (zBin ixZ false (zVar 0) (zC (.int 0))) (zCons (zBin ixZ false (zVar 0) (zC (.int 1))) (zCons (zBin ixZ false (zVar 0) (zC (.int 2))) (zCons (zBin ixZ false (zVar 0) (zC (.int 3))) zNil))))) zNil))) (gOne 1)) [⟨tst_BadProgramme, (some 2), (zAsg (zTup (zCons (zC (.str "bad")) (zCons (zIfE (zTru (zCallB (isiX kits plainCs excCs) false (zCons (zVar 2) (zCons (zC (.glo "PointError")) zNil)))) (zExF csx_part "part" (zVar 2)) (zC .non)) zNil))) (gOne 1))⟩, ⟨tst_PointError, none, (zAsg (zTup (zCons (zC (.str "other")) (zCons (zC .non) zNil))) (gOne 1))⟩])
  (zRet (zVar 1))))
def F__law_told : List Z → Hv → Res Z := run 3 m__law_told
abbrev st__law_is_right : Stmt := top 42
abbrev N__law_is_right : List Str := ["parts", "kept", "due", "word", "thing", "again"]
theorem sc__law_is_right : FnScope N__law_is_right ["parts"] (defScope st__law_is_right) := ⟨rfl, rfl, rfl, by decide +kernel, rfl, by decide +kernel, by decide +kernel⟩
def m__law_is_right : MS :=
  (zSeq (zPar2 1 2 (zCons (zCallB reprZ false (zCons (zVar 0) zNil)) (zCons (zCall F__law_bad_part (zCons (zVar 0) zNil)) zNil)))
  (zSeq (zAsg (zCall F__law_told (zCons (zVar 0) zNil)) (gTp [(gOne 3), (gOne 4)]))
  (zSeq (zIf (zOr (zTst (zEqE (eqU eqs plainCs) (fun b => !b) (zCallB reprZ false (zCons (zVar 0) zNil)) (zVar 1))) (zTst (zEqE (eqU eqs plainCs) (fun b => !b) (zVar 3) (zIfE (zTst (zBin isZ false (zVar 2) (zC .non))) (zC (.str "made")) (zC (.str "bad"))))))
  (zRet (zC (.bl false)))
  zNop)
  (zSeq (zIf (zTst (zBin isnZ false (zVar 2) (zC .non)))
  (zRet (zCall (F__law_is 20) (zCons (zVar 4) (zCons (zVar 2) zNil))))
  zNop)
  (zSeq (zAsg (zMake true "Programme" F_Programme_C_u_init_u (zCons (zBin ixZ false (zVar 0) (zC (.int 0))) (zCons (zBin ixZ false (zVar 0) (zC (.int 1))) (zCons (zBin ixZ false (zVar 0) (zC (.int 2))) (zCons (zBin ixZ false (zVar 0) (zC (.int 3))) zNil))))) (gOne 5))
  (zSeq (zIf (zNot (zTru (zCall (F__law_is 20) (zCons (zTup (zCons (zFld cs_kinds "kinds" (zVar 4)) (zCons (zFld cs_shelves "shelves" (zVar 4)) (zCons (zFld cs_partners "partners" (zVar 4)) (zCons (zFld cs_houses "houses" (zVar 4)) zNil))))) (zCons (zVar 0) zNil)))))
  (zRet (zC (.bl false)))
  zNop)
  (zRet (zAndE (zEqE (eqU eqs plainCs) (fun b => b) (zVar 4) (zVar 5)) (zAndE (zNotE (zEqE (eqU eqs plainCs) (fun b => !b) (zVar 4) (zVar 5))) (zAndE (zEqE (eqU eqs plainCs) (fun b => !b) (zVar 4) (zVar 0)) (zNotE (zEqE (eqU eqs plainCs) (fun b => b) (zVar 4) (zBin ixZ false (zVar 0) (zC (.int 0)))))))))))))))
def F__law_is_right : List Z → Hv → Res Z := run 6 m__law_is_right
abbrev st__law_known_right : Stmt := top 44
abbrev N__law_known_right : List Str := ["long", "house", "cases", "parts", "due"]
theorem sc__law_known_right : FnScope N__law_known_right [] (defScope st__law_known_right) := ⟨rfl, rfl, rfl, by decide +kernel, rfl, by decide +kernel, by decide +kernel⟩
def m__law_known_right : MS :=
  (zSeq (zAsg (zTup (zCons (zC (.str "aa")) (zCons (zC (.str "bb")) (zCons (zC (.str "cc")) (zCons (zC (.str "dd")) (zCons (zC (.str "ee")) (zCons (zC (.str "ff")) (zCons (zC (.str "gg")) (zCons (zC (.str "hh")) zNil))))))))) (gOne 0))
  (zSeq (zAsg (zTup (zCons (zC (.str "h")) (zCons (zC (.str "ann")) (zCons (zC (.int 0)) (zCons (zC (.int 999999)) zNil))))) (gOne 1))
  (zSeq (zAsg (zLst true (zCons (zTup (zCons (zTup (zCons (zTup (zCons (zC (.str "a")) zNil)) (zCons (zTup (zCons (zTup (zCons (zC (.str "s")) (zCons (zTup zNil) zNil))) zNil)) (zCons (zTup (zCons (zC (.str "p")) zNil)) (zCons (zTup zNil) zNil))))) (zCons (zC .non) zNil))) (zCons (zTup (zCons (zTup (zCons (zVar 0) (zCons (zTup (zCons (zTup (zCons (zC (.str "s")) (zCons (zRev false (zVar 0)) zNil))) zNil)) (zCons (zVar 0) (zCons (zBin mul0Z false (zTup (zCons (zVar 1) zNil)) (zC (.int 20))) zNil))))) (zCons (zC .non) zNil))) zNil))) (gOne 2))
  (zSeq (zAsg (zBin addZ true (zVar 2) (zLst false (zCons (zTup (zCons (zTup (zCons (zBin addZ false (zVar 0) (zTup (zCons (zC (.str "ii")) zNil))) (zCons (zTup zNil) (zCons (zTup zNil) (zCons (zC .non) zNil))))) (zCons (zC (.str "kinds")) zNil))) (zCons (zTup (zCons (zTup (zCons (zTup (zCons (zC (.str "a")) zNil)) (zCons (zTup (zCons (zTup (zCons (zC (.str "s")) (zCons (zTup (zCons (zC (.str "b")) zNil)) zNil))) zNil)) (zCons (zTup zNil) (zCons (zTup zNil) zNil))))) (zCons (zC (.str "shelves")) zNil))) zNil)))) (gOne 2))
  (zSeq (zDrop (zMut "list" appZ (zVar 2) (zCons (zTup (zCons (zTup (zCons (zTup (zCons (zC (.str "a")) zNil)) (zCons (zTup (zCons (zTup (zCons (zC (.str "s")) (zCons (zTup (zCons (zC (.str "a")) (zCons (zC (.str "a")) zNil))) zNil))) zNil)) (zCons (zTup (zCons (zC (.str "p")) zNil)) (zCons (zTup zNil) zNil))))) (zCons (zC (.str "shelves")) zNil))) zNil)))
  (zSeq (zDrop (zMut "list" appZ (zVar 2) (zCons (zTup (zCons (zTup (zCons (zTup (zCons (zC (.str "a")) zNil)) (zCons (zTup (zCons (zTup (zCons (zC (.str "s")) (zCons (zTup zNil) zNil))) zNil)) (zCons (zTup (zCons (zC (.str "p")) (zCons (zC (.str "p")) zNil))) (zCons (zTup zNil) zNil))))) (zCons (zC (.str "partners")) zNil))) zNil)))
  (zSeq (zDrop (zMut "list" appZ (zVar 2) (zCons (zTup (zCons (zTup (zCons (zTup (zCons (zC (.str "a")) zNil)) (zCons (zBin mul0Z false (zTup (zCons (zTup (zCons (zC (.str "s")) (zCons (zTup zNil) zNil))) zNil)) (zC (.int 2))) (zCons (zTup (zCons (zC (.str "p")) zNil)) (zCons (zTup zNil) zNil))))) (zCons (zC (.str "shelves")) zNil))) zNil)))
  (zSeq (zDrop (zMut "list" appZ (zVar 2) (zCons (zTup (zCons (zTup (zCons (zTup (zCons (zC (.str "a")) zNil)) (zCons (zTup (zCons (zTup (zCons (zC (.str "s")) (zCons (zTup zNil) zNil))) zNil)) (zCons (zTup (zCons (zC (.str "p")) zNil)) (zCons (zBin mul0Z false (zTup (zCons (zVar 1) zNil)) (zC (.int 21))) zNil))))) (zCons (zC (.str "houses")) zNil))) zNil)))
  (zSeq (zDrop (zMut "list" appZ (zVar 2) (zCons (zTup (zCons (zTup (zCons (zTup (zCons (zC (.str "a")) zNil)) (zCons (zTup (zCons (zTup (zCons (zC (.str "s")) (zCons (zTup zNil) zNil))) zNil)) (zCons (zTup (zCons (zC (.str "p")) zNil)) (zCons (zTup (zCons (zTup (zCons (zC (.str "h")) (zCons (zC (.str "ann")) (zCons (zC (.int 3)) (zCons (zC (.int 2)) zNil))))) zNil)) zNil))))) (zCons (zC (.str "houses")) zNil))) zNil)))
  (zSeq (zDrop (zMut "list" appZ (zVar 2) (zCons (zTup (zCons (zTup (zCons (zTup zNil) (zCons (zC .non) (zCons (zC .non) (zCons (zC .non) zNil))))) (zCons (zC (.str "kinds")) zNil))) zNil)))
  (zSeq (zDrop (zMut "list" appZ (zVar 2) (zCons (zTup (zCons (zTup (zCons (zTup (zCons (zC (.str "a")) zNil)) (zCons (zTup (zCons (zTup (zCons (zC (.str "s")) (zCons (zTup zNil) zNil))) zNil)) (zCons (zTup (zCons (zC (.str "p")) zNil)) (zCons (zTup (zCons (zTup (zCons (zC (.str "h")) (zCons (zC (.str "ann")) (zCons (zC (.int 0)) (zCons (zBin powZ false (zC (.int 10)) (zC (.int 6))) zNil))))) zNil)) zNil))))) (zCons (zC (.str "houses")) zNil))) zNil)))
  (zFrz 2 (zRet (zCallB allZ false (zCons (zLc false [3, 4] (iSeq (zVar 2)) (gTp [(gOne 3), (gOne 4)]) zYes (zAndE (zBin eqZ false (zCall F__law_bad_part (zCons (zVar 3) zNil)) (zVar 4)) (zCall F__law_is_right (zCons (zVar 3) zNil)))) zNil)))))))))))))))
def F__law_known_right : List Z → Hv → Res Z := run 5 m__law_known_right
abbrev st__law_labels : Stmt := top 30
abbrev N__law_labels : List Str := ["hand", "most", "found", "turn", "label"]
theorem sc__law_labels : FnScope N__law_labels ["hand", "most"] (defScope st__law_labels) := ⟨rfl, rfl, rfl, by decide +kernel, rfl, by decide +kernel, by decide +kernel⟩
def m__law_labels : MS :=
  (zSeq (zAsg (zLst true zNil) (gOne 2))
  (zSeq (zFor (iR1 (zCons (zBin addZ false (zC (.int 1)) (zCall F__law_draw (zCons (zVar 0) (zCons (zVar 1) zNil)))) zNil)) (gOne 3)
  (zSeq (zAsg (zCall F__law_label (zCons (zVar 0) zNil)) (gOne 4))
  (zIf (zTst (zBin ninZ false (zVar 4) (zVar 2)))
  (zDrop (zMut "list" appZ (zVar 2) (zCons (zVar 4) zNil)))
  zNop)))
  (zRet (zCallB tupleZ false (zCons (zVar 2) zNil)))))
def F__law_labels : List Z → Hv → Res Z := run 5 m__law_labels
abbrev st__law_parts : Stmt := top 31
abbrev N__law_parts : List Str := ["hand", "kinds", "shelves", "houses", "label", "taken", "names", "accounts", "turn", "first", "last", "kind"]
theorem sc__law_parts : FnScope N__law_parts ["hand"] (defScope st__law_parts) := ⟨rfl, rfl, rfl, by decide +kernel, rfl, by decide +kernel, by decide +kernel⟩
def m__law_parts : MS :=
  (zSeq (zPar3 1 2 3 (zCons (zCall F__law_labels (zCons (zVar 0) (zCons (zC (.int 8)) zNil))) (zCons (zLst true zNil) (zCons (zLst true zNil) zNil))))
  (zSeq (zFor (iSeq (zCall F__law_labels (zCons (zVar 0) (zCons (zC (.int 8)) zNil)))) (gOne 4)
  (zSeq (zAsg (zLc false [11] (iSeq (zVar 1)) (gOne 11) (zTst (zBin eqZ false (zCall F__law_draw (zCons (zVar 0) (zCons (zC (.int 2)) zNil))) (zC (.int 0)))) (zVar 11)) (gOne 5))
  (zDrop (zMut "list" appZ (zVar 2) (zCons (zTup (zCons (zVar 4) (zCons (zCallB tupleZ false (zCons (zIfE (zTst (zBin eqZ false (zCall F__law_draw (zCons (zVar 0) (zCons (zC (.int 2)) zNil))) (zC (.int 0)))) (zRev false (zVar 5)) (zVar 5)) zNil)) zNil))) zNil)))))
  (zSeq (zPar2 6 7 (zCons (zCall F__law_labels (zCons (zVar 0) (zCons (zC (.int 3)) zNil))) (zCons (zCall F__law_labels (zCons (zVar 0) (zCons (zC (.int 4)) zNil))) zNil)))
  (zSeq (zFor (iR1 (zCons (zCall F__law_some (zCons (zVar 0) (zCons (zLst false (zCons (zC (.int 0)) (zCons (zC (.int 2)) (zCons (zC (.int 5)) (zCons (zC (.int 9)) (zCons (zC (.int 20)) zNil)))))) zNil))) zNil)) (gOne 8)
  (zSeq (zAsg (zCall F__law_draw (zCons (zVar 0) (zCons (zC (.int 12)) zNil))) (gOne 9))
  (zSeq (zAsg (zIfE (zTst (zBin gtZ false (zCall F__law_draw (zCons (zVar 0) (zCons (zC (.int 9)) zNil))) (zC (.int 0)))) (zBin addZ false (zVar 9) (zCall F__law_draw (zCons (zVar 0) (zCons (zC (.int 9)) zNil)))) (zC (.int 999999))) (gOne 10))
  (zDrop (zMut "list" appZ (zVar 3) (zCons (zTup (zCons (zCall F__law_some (zCons (zVar 0) (zCons (zVar 6) zNil))) (zCons (zCall F__law_some (zCons (zVar 0) (zCons (zVar 7) zNil))) (zCons (zVar 9) (zCons (zVar 10) zNil))))) zNil))))))
  (zRet (zTup (zCons (zVar 1) (zCons (zCallB tupleZ false (zCons (zVar 2) zNil)) (zCons (zCall F__law_labels (zCons (zVar 0) (zCons (zC (.int 8)) zNil))) (zCons (zCallB tupleZ false (zCons (zVar 3) zNil)) zNil))))))))))
def F__law_parts : List Z → Hv → Res Z := run 12 m__law_parts
abbrev st_law : Stmt := top 45
abbrev N_law : List Str := ["script", "hand", "turn", "parts", "again", "bent", "more", "at"]
theorem sc_law : FnScope N_law ["script"] (defScope st_law) := ⟨rfl, rfl, rfl, by decide +kernel, rfl, by decide +kernel, by decide +kernel⟩
def m_law : MS :=
  (zSeq (zAsg (zCall F__law_hand (zCons (zVar 0) zNil)) (gOne 1))
  (zSeq (zFor (iR1 (zCons (zC (.int 4)) zNil)) (gOne 2)
  (zSeq (zAsg (zCall F__law_parts (zCons (zVar 1) zNil)) (gOne 3))
  (zSeq (zIf (zNot (zTru (zCall F__law_is_right (zCons (zVar 3) zNil))))
  (zRet (zC (.bl false)))
  zNop)
  (zSeq (zFor (iR1 (zCons (zC (.int 5)) zNil)) (gOne 4)
  (zSeq (zAsg (zVar 3) (gOne 5))
  (zSeq (zFor (iR1 (zCons (zBin addZ false (zC (.int 1)) (zCall F__law_draw (zCons (zVar 1) (zCons (zC (.int 3)) zNil)))) zNil)) (gOne 6)
  (zSeq (zAsg (zCall F__law_draw (zCons (zVar 1) (zCons (zC (.int 4)) zNil))) (gOne 7))
  (zAsg (zBin addZ false (zBin addZ false (zSl false (zVar 5) zNone (zSome (zVar 7))) (zTup (zCons (zCall (F__law_bent 20) (zCons (zVar 1) (zCons (zBin ixZ false (zVar 5) (zVar 7)) zNil))) zNil))) (zSl false (zVar 5) (zSome (zBin addZ false (zVar 7) (zC (.int 1)))) zNone)) (gOne 5))))
  (zSeq (zIf (zNot (zTru (zCall F__law_is_right (zCons (zVar 5) zNil))))
  (zRet (zC (.bl false)))
  zNop)
  (zIf (zAnd (zTst (zBin isZ false (zCall F__law_bad_part (zCons (zVar 5) zNil)) (zC .non))) (zNot (zTru (zCall F__law_equal_right (zCons (zVar 3) (zCons (zVar 5) zNil))))))
  (zRet (zC (.bl false)))
  zNop)))))
  (zIf (zNot (zTru (zCall F__law_equal_right (zCons (zVar 3) (zCons (zCall F__law_parts (zCons (zVar 1) zNil)) zNil)))))
  (zRet (zC (.bl false)))
  zNop)))))
  (zRet (zCall F__law_known_right zNil))))
def F_law : List Z → Hv → Res Z := run 8 m_law
structure Fx (K : PySem.W.Frag) (mg : Str → Option Value) : Prop where
  n_abs : mg "abs" = none
  n_all : mg "all" = none
  n_bool : mg "bool" = none
  n_int : mg "int" = none
  n_isinstance : mg "isinstance" = none
  n_len : mg "len" = none
  n_list : mg "list" = none
  n_range : mg "range" = none
  n_repr : mg "repr" = none
  n_set : mg "set" = none
  n_str : mg "str" = none
  n_tuple : mg "tuple" = none
  n_zip : mg "zip" = none
  g_BadProgramme : mg "BadProgramme" = some (.ref (He.ga K "BadProgramme"))
  g_PointError : mg "PointError" = some (.ref (He.ga K "PointError"))
  g_Programme : mg "Programme" = some (.ref (He.ga K "Programme"))
  g__law_are_houses : mg "_law_are_houses" = some (.ref (He.ga K "_law_are_houses"))
  g__law_are_labels : mg "_law_are_labels" = some (.ref (He.ga K "_law_are_labels"))
  g__law_are_shelves : mg "_law_are_shelves" = some (.ref (He.ga K "_law_are_shelves"))
  g__law_bad_part : mg "_law_bad_part" = some (.ref (He.ga K "_law_bad_part"))
  g__law_bent : mg "_law_bent" = some (.ref (He.ga K "_law_bent"))
  g__law_deep : mg "_law_deep" = some (.ref (He.ga K "_law_deep"))
  g__law_draw : mg "_law_draw" = some (.ref (He.ga K "_law_draw"))
  g__law_equal_right : mg "_law_equal_right" = some (.ref (He.ga K "_law_equal_right"))
  g__law_hand : mg "_law_hand" = some (.ref (He.ga K "_law_hand"))
  g__law_int : mg "_law_int" = some (.ref (He.ga K "_law_int"))
  g__law_is : mg "_law_is" = some (.ref (He.ga K "_law_is"))
  g__law_is_day : mg "_law_is_day" = some (.ref (He.ga K "_law_is_day"))
  g__law_is_label : mg "_law_is_label" = some (.ref (He.ga K "_law_is_label"))
  g__law_is_right : mg "_law_is_right" = some (.ref (He.ga K "_law_is_right"))
  g__law_known_right : mg "_law_known_right" = some (.ref (He.ga K "_law_known_right"))
  g__law_label : mg "_law_label" = some (.ref (He.ga K "_law_label"))
  g__law_labels : mg "_law_labels" = some (.ref (He.ga K "_law_labels"))
  g__law_odd : mg "_law_odd" = some (.ref (He.ga K "_law_odd"))
  g__law_parts : mg "_law_parts" = some (.ref (He.ga K "_law_parts"))
  g__law_some : mg "_law_some" = some (.ref (He.ga K "_law_some"))
  g__law_told : mg "_law_told" = some (.ref (He.ga K "_law_told"))
  g_are_houses : mg "are_houses" = some (.ref (He.ga K "are_houses"))
  g_are_labels : mg "are_labels" = some (.ref (He.ga K "are_labels"))
  g_are_shelves : mg "are_shelves" = some (.ref (He.ga K "are_shelves"))
  g_is_day : mg "is_day" = some (.ref (He.ga K "is_day"))
  g_is_from_to : mg "is_from_to" = some (.ref (He.ga K "is_from_to"))
  g_is_integer : mg "is_integer" = some (.ref (He.ga K "is_integer"))
  g_is_label : mg "is_label" = some (.ref (He.ga K "is_label"))
  g_is_shelf_of : mg "is_shelf_of" = some (.ref (He.ga K "is_shelf_of"))
  g_is_stay : mg "is_stay" = some (.ref (He.ga K "is_stay"))
  g_is_tuple_of : mg "is_tuple_of" = some (.ref (He.ga K "is_tuple_of"))
  c_LETTERS : ∃ t, mg "LETTERS" = some (.str "abcdefghijklmnopqrstuvwxyz" t)
  c_MOST_DAY : ∃ t, mg "MOST_DAY" = some (.int (999999) t)
  c_MOST_HOUSES : ∃ t, mg "MOST_HOUSES" = some (.int (20) t)
  c_MOST_KINDS : ∃ t, mg "MOST_KINDS" = some (.int (8) t)
  c_MOST_PARTNERS : ∃ t, mg "MOST_PARTNERS" = some (.int (8) t)
  c_MOST_SHELVES : ∃ t, mg "MOST_SHELVES" = some (.int (8) t)
  c_MOST_SIGNS : ∃ t, mg "MOST_SIGNS" = some (.int (10) t)
  kits : KitsOk K kits
  ins : ∀ C, plainCs.contains C = true → InsOk K (He.ga K C)
  exc : ∀ C, excCs.contains C = true → ExcC K (He.ga K C)
  f_houses : PlainF K cs_houses "houses"
  f_kinds : PlainF K cs_kinds "kinds"
  f_partners : PlainF K cs_partners "partners"
  f_shelves : PlainF K cs_shelves "shelves"
  mk_Programme : Mk K (He.ga K "Programme") (He.ma K (He.ga K "Programme") "__init__")
  cls_Programme : Cls K (He.ga K "Programme")
  m_Programme_all_parts : Meth K (He.ga K "Programme") "all_parts" (He.ma K (He.ga K "Programme") "all_parts")
  x1_BadProgramme : X1 Pq K "BadProgramme" "part"
  tst_BadProgramme : ∀ C b, tst_BadProgramme C = some b → PySem.W.exmOne K (.ref (He.ga K C)) (.ref (He.ga K "BadProgramme")) = some b
  tst_PointError : ∀ C b, tst_PointError C = some b → PySem.W.exmOne K (.ref (He.ga K C)) (.ref (He.ga K "PointError")) = some b
  xf_part : ∀ C, csx_part.contains C = true → XfC K (He.ga K C) ∧ PySem.W.findIn K (.ref (He.ga K C)) "part" = some none
  sm : ∃ o, K.lookup sysModules = some o
  eq_Programme : PySem.W.findIn K (.ref (He.ga K "Programme")) "__eq__" = some (some (.ref (He.ma K (He.ga K "Programme") "__eq__"))) ∧ PySem.W.isFn K (.ref (He.ma K (He.ga K "Programme") "__eq__")) = true ∧ PySem.W.findIn K (.ref (He.ga K "Programme")) "__ne__" = some (some (.builtin "object.__ne__")) ∧ PySem.W.mroIn K (He.ga K "Programme") (.type "object") = some true ∧ ∀ t, (eqTs "Programme").contains t = true → PySem.W.notFirst K (He.ga K "Programme") (tyVal K t) = true
  d__law_int : ∃ fd, FunD K "_law_int" "_law_int" (defArgs st__law_int) (defBody st__law_int) (defScope st__law_int) [] [] (He.ga K "_law_int") fd
  d__law_is_day : ∃ fd, FunD K "_law_is_day" "_law_is_day" (defArgs st__law_is_day) (defBody st__law_is_day) (defScope st__law_is_day) [] [] (He.ga K "_law_is_day") fd
  d__law_is_label : ∃ fd, FunD K "_law_is_label" "_law_is_label" (defArgs st__law_is_label) (defBody st__law_is_label) (defScope st__law_is_label) [] [] (He.ga K "_law_is_label") fd
  d__law_are_houses : ∃ fd, FunD K "_law_are_houses" "_law_are_houses" (defArgs st__law_are_houses) (defBody st__law_are_houses) (defScope st__law_are_houses) [] [] (He.ga K "_law_are_houses") fd
  d__law_are_labels : ∃ fd, FunD K "_law_are_labels" "_law_are_labels" (defArgs st__law_are_labels) (defBody st__law_are_labels) (defScope st__law_are_labels) [] [] (He.ga K "_law_are_labels") fd
  d__law_are_shelves : ∃ fd, FunD K "_law_are_shelves" "_law_are_shelves" (defArgs st__law_are_shelves) (defBody st__law_are_shelves) (defScope st__law_are_shelves) [] [] (He.ga K "_law_are_shelves") fd
  d__law_bad_part : ∃ fd, FunD K "_law_bad_part" "_law_bad_part" (defArgs st__law_bad_part) (defBody st__law_bad_part) (defScope st__law_bad_part) [] [] (He.ga K "_law_bad_part") fd
  d__law_draw : ∃ fd, FunD K "_law_draw" "_law_draw" (defArgs st__law_draw) (defBody st__law_draw) (defScope st__law_draw) [] [] (He.ga K "_law_draw") fd
  d__law_some : ∃ fd, FunD K "_law_some" "_law_some" (defArgs st__law_some) (defBody st__law_some) (defScope st__law_some) [] [] (He.ga K "_law_some") fd
  d__law_label : ∃ fd, FunD K "_law_label" "_law_label" (defArgs st__law_label) (defBody st__law_label) (defScope st__law_label) [] [] (He.ga K "_law_label") fd
  d__law_deep : ∃ fd, FunD K "_law_deep" "_law_deep" (defArgs st__law_deep) (defBody st__law_deep) (defScope st__law_deep) [] [] (He.ga K "_law_deep") fd
  d__law_odd : ∃ fd, FunD K "_law_odd" "_law_odd" (defArgs st__law_odd) (defBody st__law_odd) (defScope st__law_odd) [] [] (He.ga K "_law_odd") fd
  d__law_bent : ∃ fd, FunD K "_law_bent" "_law_bent" (defArgs st__law_bent) (defBody st__law_bent) (defScope st__law_bent) [] [] (He.ga K "_law_bent") fd
  d_Programme_C_all_parts : ∃ fd, FunD K "all_parts" "Programme.all_parts" (defArgs st_Programme_C_all_parts) (defBody st_Programme_C_all_parts) (defScope st_Programme_C_all_parts) [] [] (He.ma K (He.ga K "Programme") "all_parts") fd
  d_Programme_C_u_eq_u : ∃ fd, FunD K "__eq__" "Programme.__eq__" (defArgs st_Programme_C_u_eq_u) (defBody st_Programme_C_u_eq_u) (defScope st_Programme_C_u_eq_u) [] [] (He.ma K (He.ga K "Programme") "__eq__") fd
  d_is_integer : ∃ fd, FunD K "is_integer" "is_integer" (defArgs st_is_integer) (defBody st_is_integer) (defScope st_is_integer) [] [] (He.ga K "is_integer") fd
  d_is_from_to : ∃ fd, FunD K "is_from_to" "is_from_to" (defArgs st_is_from_to) (defBody st_is_from_to) (defScope st_is_from_to) [] [] (He.ga K "is_from_to") fd
  d_is_day : ∃ fd, FunD K "is_day" "is_day" (defArgs st_is_day) (defBody st_is_day) (defScope st_is_day) [] [] (He.ga K "is_day") fd
  d_is_label : ∃ fd, FunD K "is_label" "is_label" (defArgs st_is_label) (defBody st_is_label) (defScope st_is_label) [] [] (He.ga K "is_label") fd
  d_is_tuple_of : ∃ fd, FunD K "is_tuple_of" "is_tuple_of" (defArgs st_is_tuple_of) (defBody st_is_tuple_of) (defScope st_is_tuple_of) [] [] (He.ga K "is_tuple_of") fd
  d_is_stay : ∃ fd, FunD K "is_stay" "is_stay" (defArgs st_is_stay) (defBody st_is_stay) (defScope st_is_stay) [] [] (He.ga K "is_stay") fd
  d_are_houses : ∃ fd, FunD K "are_houses" "are_houses" (defArgs st_are_houses) (defBody st_are_houses) (defScope st_are_houses) [] [] (He.ga K "are_houses") fd
  d_are_labels : ∃ fd, FunD K "are_labels" "are_labels" (defArgs st_are_labels) (defBody st_are_labels) (defScope st_are_labels) [] [] (He.ga K "are_labels") fd
  d_is_shelf_of : ∃ fd, FunD K "is_shelf_of" "is_shelf_of" (defArgs st_is_shelf_of) (defBody st_is_shelf_of) (defScope st_is_shelf_of) [] [] (He.ga K "is_shelf_of") fd
  d_are_shelves : ∃ fd, FunD K "are_shelves" "are_shelves" (defArgs st_are_shelves) (defBody st_are_shelves) (defScope st_are_shelves) [] [] (He.ga K "are_shelves") fd
  d_Programme_C_u_init_u : ∃ fd, FunD K "__init__" "Programme.__init__" (defArgs st_Programme_C_u_init_u) (defBody st_Programme_C_u_init_u) (defScope st_Programme_C_u_init_u) [] [] (He.ma K (He.ga K "Programme") "__init__") fd
  d__law_is : ∃ fd, FunD K "_law_is" "_law_is" (defArgs st__law_is) (defBody st__law_is) (defScope st__law_is) [] [] (He.ga K "_law_is") fd
  d__law_equal_right : ∃ fd, FunD K "_law_equal_right" "_law_equal_right" (defArgs st__law_equal_right) (defBody st__law_equal_right) (defScope st__law_equal_right) [] [] (He.ga K "_law_equal_right") fd
  d__law_hand : ∃ fd, FunD K "_law_hand" "_law_hand" (defArgs st__law_hand) (defBody st__law_hand) (defScope st__law_hand) [] [] (He.ga K "_law_hand") fd
  d__law_told : ∃ fd, FunD K "_law_told" "_law_told" (defArgs st__law_told) (defBody st__law_told) (defScope st__law_told) [] [] (He.ga K "_law_told") fd
  d__law_is_right : ∃ fd, FunD K "_law_is_right" "_law_is_right" (defArgs st__law_is_right) (defBody st__law_is_right) (defScope st__law_is_right) [] [] (He.ga K "_law_is_right") fd
  d__law_known_right : ∃ fd, FunD K "_law_known_right" "_law_known_right" (defArgs st__law_known_right) (defBody st__law_known_right) (defScope st__law_known_right) [] [] (He.ga K "_law_known_right") fd
  d__law_labels : ∃ fd, FunD K "_law_labels" "_law_labels" (defArgs st__law_labels) (defBody st__law_labels) (defScope st__law_labels) [] [] (He.ga K "_law_labels") fd
  d__law_parts : ∃ fd, FunD K "_law_parts" "_law_parts" (defArgs st__law_parts) (defBody st__law_parts) (defScope st__law_parts) [] [] (He.ga K "_law_parts") fd
  d_law : ∃ fd, FunD K "law" "law" (defArgs st_law) (defBody st_law) (defScope st_law) [] [] (He.ga K "law") fd
section
variable {w : World} {K : PySem.W.Frag} {mg : Str → Option Value} {base : Heap}
theorem z__law_int (O : Fx K mg) : FnZ Pq w K mg base 1 (He.ga K "_law_int") 3 F__law_int :=
  O.d__law_int.elim fun fd Fd => fnz_of (k := 0) Fd sc__law_int (fun kV doc pm an cdv ct us hl => match us, hl with | [_, _, _], _ => rfl) fun cdv A outer s H E hr =>
    have nd := sc__law_int.nd
    (zss_one (zs_ret (ze_and (ze_callB false (cz_isi O.kits O.ins) rfl O.n_isinstance b_isinstance (za_cons (zv0 0) (za_cons (ze_ty rfl O.n_int b_int) za_nil))) (ze_and (ze_not (ze_callB false (cz_isi O.kits O.ins) rfl O.n_isinstance b_isinstance (za_cons (zv0 0) (za_cons (ze_ty rfl O.n_bool b_bool) za_nil)))) (ze_one (ze_chain oz_le oz_le (zv0 1) (zv0 0) (zv0 2)))))))
theorem z__law_is_day (O : Fx K mg) : FnZ Pq w K mg base 2 (He.ga K "_law_is_day") 1 F__law_is_day :=
  O.d__law_is_day.elim fun fd Fd => fnz_of (k := 1) Fd sc__law_is_day (fun kV doc pm an cdv ct us hl => match us, hl with | [_], _ => rfl) fun cdv A outer s H E hr =>
    have nd := sc__law_is_day.nd
    (zss_one (zs_ret (ze_call (z__law_int O) (hr.mono (by first | decide | omega)) rfl O.g__law_int tk_cx (za_cons (zv0 0) (za_cons ze_int (za_cons ze_int za_nil))) (len_cons (len_cons (len_cons len_nil))))))
theorem z__law_is_label (O : Fx K mg) : FnZ Pq w K mg base 1 (He.ga K "_law_is_label") 1 F__law_is_label :=
  O.d__law_is_label.elim fun fd Fd => fnz_of (k := 0) Fd sc__law_is_label (fun kV doc pm an cdv ct us hl => match us, hl with | [_], _ => rfl) fun cdv A outer s H E hr =>
    have nd := sc__law_is_label.nd
    (zss_cons (zs_if (ZW.zt (zw_or (zt_not (zt_tru (ze_callB false (cz_isi O.kits O.ins) rfl O.n_isinstance b_isinstance (za_cons (zv0 0) (za_cons (ze_ty rfl O.n_str b_str) za_nil))))) (zw_or1 (zt_not (zt_chain oz_le oz_le ze_int (ze_callB false cz_len rfl O.n_len b_len (za_cons (zv0 0) za_nil)) ze_int)))))
  (zss_one (zs_ret ze_bl))
  zss_nil)
  (zss_one (zs_ret (ze_callB false (cz_all rfl) rfl O.n_all b_all (za_cons (ze_lc (own := [("sign", 1)]) false rfl nd (zi_seq (zv0 0)) (blk_of rfl) rfl (fun s H C cl fp => (zg_name (pg_name nd rfl (.inl rfl)) (by decide))) (fun s H C cl fp => zts_nil) (fun s H C cl fp => (ze_cmp oz_in (zv0 1) ze_str))) za_nil)))))
theorem z__law_are_houses (O : Fx K mg) : FnZ Pq w K mg base 3 (He.ga K "_law_are_houses") 1 F__law_are_houses :=
  O.d__law_are_houses.elim fun fd Fd => fnz_of (k := 2) Fd sc__law_are_houses (fun kV doc pm an cdv ct us hl => match us, hl with | [_], _ => rfl) fun cdv A outer s H E hr =>
    have nd := sc__law_are_houses.nd
    (zss_cons (zs_if (ZW.zt (zw_or (zt_not (zt_tru (ze_callB false (cz_isi O.kits O.ins) rfl O.n_isinstance b_isinstance (za_cons (zv0 0) (za_cons (ze_ty rfl O.n_tuple b_tuple) za_nil))))) (zw_or1 (zt_cmp oz_gt (ze_callB false cz_len rfl O.n_len b_len (za_cons (zv0 0) za_nil)) ze_int))))
  (zss_one (zs_ret ze_bl))
  zss_nil)
  (zss_cons (zs_for (vs := [1]) pass_cx rfl (zi_seq (zv0 0)) (zg_name (pg_name nd rfl (.inl rfl)) (by decide))
  (zss_cons (zs_if (ZW.zt (zw_or (zt_not (zt_tru (ze_callB false (cz_isi O.kits O.ins) rfl O.n_isinstance b_isinstance (za_cons (zv0 1) (za_cons (ze_ty rfl O.n_tuple b_tuple) za_nil))))) (zw_or (zt_cmp (oz_ne hr.rm.units) (ze_callB false cz_len rfl O.n_len b_len (za_cons (zv0 1) za_nil)) ze_int) (zw_or (zt_not (zt_tru (ze_call (z__law_is_label O) (hr.mono (by first | decide | omega)) rfl O.g__law_is_label tk_cx (za_cons (ze_ix iz_ix (zv0 1) ze_int) za_nil) (len_cons len_nil)))) (zw_or1 (zt_not (zt_tru (ze_call (z__law_is_label O) (hr.mono (by first | decide | omega)) rfl O.g__law_is_label tk_cx (za_cons (ze_ix iz_ix (zv0 1) ze_int) za_nil) (len_cons len_nil)))))))))
  (zss_one (zs_ret ze_bl))
  zss_nil)
  (zss_one (zs_if (ZW.zt (zw_or (zt_not (zt_tru (ze_call (z__law_is_day O) (hr.mono (by first | decide | omega)) rfl O.g__law_is_day tk_cx (za_cons (ze_ix iz_ix (zv0 1) ze_int) za_nil) (len_cons len_nil)))) (zw_or (zt_not (zt_tru (ze_call (z__law_is_day O) (hr.mono (by first | decide | omega)) rfl O.g__law_is_day tk_cx (za_cons (ze_ix iz_ix (zv0 1) ze_int) za_nil) (len_cons len_nil)))) (zw_or1 (zt_cmp oz_gt (ze_ix iz_ix (zv0 1) ze_int) (ze_ix iz_ix (zv0 1) ze_int))))))
  (zss_one (zs_ret ze_bl))
  zss_nil))))
  (zss_one (zs_ret ze_bl))))
theorem z__law_are_labels (O : Fx K mg) : FnZ Pq w K mg base 2 (He.ga K "_law_are_labels") 3 F__law_are_labels :=
  O.d__law_are_labels.elim fun fd Fd => fnz_of (k := 1) Fd sc__law_are_labels (fun kV doc pm an cdv ct us hl => match us, hl with | [_, _, _], _ => rfl) fun cdv A outer s H E hr =>
    have nd := sc__law_are_labels.nd
    (zss_cons (zs_if (ZW.zt (zw_or (zt_not (zt_tru (ze_callB false (cz_isi O.kits O.ins) rfl O.n_isinstance b_isinstance (za_cons (zv0 0) (za_cons (ze_ty rfl O.n_tuple b_tuple) za_nil))))) (zw_or1 (zt_not (zt_chain oz_le oz_le (zv0 1) (ze_callB false cz_len rfl O.n_len b_len (za_cons (zv0 0) za_nil)) (zv0 2))))))
  (zss_one (zs_ret ze_bl))
  zss_nil)
  (zss_cons (zs_if (zt_not (zt_tru (ze_callB false (cz_all rfl) rfl O.n_all b_all (za_cons (ze_lc (own := [("one", 3)]) false rfl nd (zi_seq (zv0 0)) (blk_of rfl) rfl (fun s H C cl fp => (zg_name (pg_name nd rfl (.inl rfl)) (by decide))) (fun s H C cl fp => zts_nil) (fun s H C cl fp => (ze_call (z__law_is_label O) (hr.mono (by first | decide | omega)) rfl O.g__law_is_label takes_nox (za_cons (zv0 3) za_nil) (len_cons len_nil)))) za_nil))))
  (zss_one (zs_ret ze_bl))
  zss_nil)
  (zss_one (zs_ret (ze_cmp (oz_eq hr.rm.units) (ze_lenSet rfl rfl O.n_len rfl O.n_set (zv0 0)) (ze_callB false cz_len rfl O.n_len b_len (za_cons (zv0 0) za_nil)))))))
theorem z__law_are_shelves (O : Fx K mg) : FnZ Pq w K mg base 3 (He.ga K "_law_are_shelves") 2 F__law_are_shelves :=
  O.d__law_are_shelves.elim fun fd Fd => fnz_of (k := 2) Fd sc__law_are_shelves (fun kV doc pm an cdv ct us hl => match us, hl with | [_, _], _ => rfl) fun cdv A outer s H E hr =>
    have nd := sc__law_are_shelves.nd
    (zss_cons (zs_if (ZW.zt (zw_or (zt_not (zt_tru (ze_callB false (cz_isi O.kits O.ins) rfl O.n_isinstance b_isinstance (za_cons (zv0 1) (za_cons (ze_ty rfl O.n_tuple b_tuple) za_nil))))) (zw_or1 (zt_not (zt_chain oz_le oz_le ze_int (ze_callB false cz_len rfl O.n_len b_len (za_cons (zv0 1) za_nil)) ze_int)))))
  (zss_one (zs_ret ze_bl))
  zss_nil)
  (zss_cons (zs_for (vs := [2]) pass_cx rfl (zi_seq (zv0 1)) (zg_name (pg_name nd rfl (.inl rfl)) (by decide))
  (zss_cons (zs_if (ZW.zt (zw_or (zt_not (zt_tru (ze_callB false (cz_isi O.kits O.ins) rfl O.n_isinstance b_isinstance (za_cons (zv0 2) (za_cons (ze_ty rfl O.n_tuple b_tuple) za_nil))))) (zw_or (zt_cmp (oz_ne hr.rm.units) (ze_callB false cz_len rfl O.n_len b_len (za_cons (zv0 2) za_nil)) ze_int) (zw_or1 (zt_not (zt_tru (ze_call (z__law_are_labels O) (hr.mono (by first | decide | omega)) rfl O.g__law_are_labels tk_cx (za_cons (ze_ix iz_ix (zv0 2) ze_int) (za_cons ze_int (za_cons ze_int za_nil))) (len_cons (len_cons (len_cons len_nil))))))))))
  (zss_one (zs_ret ze_bl))
  zss_nil)
  (zss_one (zs_if (ZW.zt (zw_or (zt_not (zt_tru (ze_call (z__law_is_label O) (hr.mono (by first | decide | omega)) rfl O.g__law_is_label tk_cx (za_cons (ze_ix iz_ix (zv0 2) ze_int) za_nil) (len_cons len_nil)))) (zw_or1 (zt_not (zt_tru (ze_callB false (cz_all rfl) rfl O.n_all b_all (za_cons (ze_lc (own := [("kind", 3)]) false rfl nd (zi_seq (ze_ix iz_ix (zv0 2) ze_int)) (blk_of rfl) rfl (fun s H C cl fp => (zg_name (pg_name nd rfl (.inl rfl)) (by decide))) (fun s H C cl fp => zts_nil) (fun s H C cl fp => (ze_cmp oz_in (zv0 3) (zvc 0)))) za_nil)))))))
  (zss_one (zs_ret ze_bl))
  zss_nil))))
  (zss_one (zs_ret (ze_cmp (oz_eq hr.rm.units) (ze_lenSet rfl rfl O.n_len rfl O.n_set (ze_lc (own := [("pair", 2)]) false rfl nd (zi_seq (zv0 1)) (blk_of rfl) rfl (fun s H C cl fp => (zg_name (pg_name nd rfl (.inl rfl)) (by decide))) (fun s H C cl fp => zts_nil) (fun s H C cl fp => (ze_ix iz_ix (zv0 2) ze_int)))) (ze_callB false cz_len rfl O.n_len b_len (za_cons (zv0 1) za_nil)))))))
theorem z__law_bad_part (O : Fx K mg) : FnZ Pq w K mg base 4 (He.ga K "_law_bad_part") 1 F__law_bad_part :=
  O.d__law_bad_part.elim fun fd Fd => fnz_of (k := 3) Fd sc__law_bad_part (fun kV doc pm an cdv ct us hl => match us, hl with | [_], _ => rfl) fun cdv A outer s H E hr =>
    have nd := sc__law_bad_part.nd
    (zss_cons (zs_asg (vs := [1, 2, 3, 4]) (zv0 0) (zg_tup (nn := 4) rfl (zgs_cons (zg_name (pg_name nd rfl (.inl rfl)) (by decide)) (zgs_cons (zg_name (pg_name nd rfl (.inl rfl)) (by decide)) (zgs_cons (zg_name (pg_name nd rfl (.inl rfl)) (by decide)) (zgs_cons (zg_name (pg_name nd rfl (.inl rfl)) (by decide)) zgs_nil))))))
  (zss_cons (zs_if (zt_not (zt_tru (ze_call (z__law_are_labels O) (hr.mono (by first | decide | omega)) rfl O.g__law_are_labels tk_cx (za_cons (zv0 1) (za_cons ze_int (za_cons ze_int za_nil))) (len_cons (len_cons (len_cons len_nil))))))
  (zss_one (zs_ret ze_str))
  zss_nil)
  (zss_cons (zs_if (zt_not (zt_tru (ze_call (z__law_are_shelves O) (hr.mono (by first | decide | omega)) rfl O.g__law_are_shelves tk_cx (za_cons (zv0 1) (za_cons (zv0 2) za_nil)) (len_cons (len_cons len_nil)))))
  (zss_one (zs_ret ze_str))
  zss_nil)
  (zss_cons (zs_if (zt_not (zt_tru (ze_call (z__law_are_labels O) (hr.mono (by first | decide | omega)) rfl O.g__law_are_labels tk_cx (za_cons (zv0 3) (za_cons ze_int (za_cons ze_int za_nil))) (len_cons (len_cons (len_cons len_nil))))))
  (zss_one (zs_ret ze_str))
  zss_nil)
  (zss_one (zs_ret (ze_if (zt_tru (ze_call (z__law_are_houses O) (hr.mono (by first | decide | omega)) rfl O.g__law_are_houses tk_cx (za_cons (zv0 4) za_nil) (len_cons len_nil))) ze_non ze_str)))))))
theorem z__law_draw (O : Fx K mg) : FnZ Pq w K mg base 1 (He.ga K "_law_draw") 2 F__law_draw :=
  O.d__law_draw.elim fun fd Fd => fnz_of (k := 0) Fd sc__law_draw (fun kV doc pm an cdv ct us hl => match us, hl with | [_, _], _ => rfl) fun cdv A outer s H E hr =>
    have nd := sc__law_draw.nd
    (zss_cons (zs_if (ZW.zt (zw_and (zt_cmp (oz_eq hr.rm.units) (ze_ix iz_ix (zv0 0) ze_int) ze_int) (zw_and1 (zt_cmp oz_lt (ze_ix iz_ix (zv0 0) ze_int) (ze_callB false cz_len rfl O.n_len b_len (za_cons (ze_ix iz_ix (zv0 0) ze_int) za_nil))))))
  (zss_cons (zs_set nd rfl (.inl rfl) (ze_ix iz_ix (ze_ix iz_ix (zv0 0) ze_int) (ze_ix iz_ix (zv0 0) ze_int)))
  (zss_cons (zs_setIx wz_list (ze_op false oz_add (ze_ix iz_ix (zv0 0) ze_int) ze_int) (zv0 0) ze_int)
  (zss_cons (zs_setIx wz_list (ze_op false oz_mod (ze_callTy false cz_int rfl O.n_int b_int (za_cons (ze_op false oz_add (ze_op false oz_add (ze_op false oz_mul0 (ze_ix iz_ix (zv0 0) ze_int) ze_int) (zv0 2)) ze_int) za_nil)) ze_int) (zv0 0) ze_int)
  (zss_one (zs_if (zt_cmp oz_ge (zv0 2) (ze_op false oz_pow ze_int ze_int))
  (zss_one (zs_setIx wz_list (zv0 2) (zv0 0) ze_int))
  zss_nil)))))
  zss_nil)
  (zss_cons (zs_if (zt_cmp oz_gt (ze_ix iz_ix (zv0 0) ze_int) ze_int)
  (zss_cons (zs_set nd rfl (.inl rfl) (ze_op false oz_mod (ze_callTy false cz_int rfl O.n_int b_int (za_cons (ze_ix iz_ix (zv0 0) ze_int) za_nil)) (zv0 1)))
  (zss_cons (zs_setIx wz_list (ze_op false oz_fdiv (ze_ix iz_ix (zv0 0) ze_int) (zv0 1)) (zv0 0) ze_int)
  (zss_one (zs_ret (zv0 3)))))
  zss_nil)
  (zss_cons (zs_setIx wz_list (ze_op false oz_add (ze_ix iz_ix (zv0 0) ze_int) ze_int) (zv0 0) ze_int)
  (zss_cons (zs_set nd rfl (.inl rfl) (ze_op false oz_mod (ze_callTy false cz_int rfl O.n_int b_int (za_cons (ze_op false oz_mul0 (ze_callTy false cz_int rfl O.n_int b_int (za_cons (ze_op false oz_add (ze_ix iz_ix (zv0 0) ze_int) (ze_op false oz_mul0 ze_int (ze_ix iz_ix (zv0 0) ze_int))) za_nil)) ze_int) za_nil)) ze_int))
  (zss_cons (zs_set nd rfl (.inl rfl) (ze_op false oz_mod (ze_callTy false cz_int rfl O.n_int b_int (za_cons (ze_op false oz_mul0 (zv0 4) (ze_op false oz_add (ze_op false oz_fdiv (zv0 4) ze_int) ze_int)) za_nil)) ze_int))
  (zss_cons (zs_set nd rfl (.inl rfl) (ze_op false oz_mod (ze_callTy false cz_int rfl O.n_int b_int (za_cons (ze_op false oz_mul0 (zv0 4) (ze_op false oz_add (ze_op false oz_fdiv (zv0 4) ze_int) ze_int)) za_nil)) ze_int))
  (zss_one (zs_ret (ze_op false oz_mod (ze_callTy false cz_int rfl O.n_int b_int (za_cons (ze_op false oz_fdiv (zv0 4) ze_int) za_nil)) (zv0 1))))))))))
theorem z__law_some (O : Fx K mg) : FnZ Pq w K mg base 2 (He.ga K "_law_some") 2 F__law_some :=
  O.d__law_some.elim fun fd Fd => fnz_of (k := 1) Fd sc__law_some (fun kV doc pm an cdv ct us hl => match us, hl with | [_, _], _ => rfl) fun cdv A outer s H E hr =>
    have nd := sc__law_some.nd
    (zss_one (zs_ret (ze_ix iz_ix (zv0 1) (ze_call (z__law_draw O) (hr.mono (by first | decide | omega)) rfl O.g__law_draw tk_cx (za_cons (zv0 0) (za_cons (ze_callB false cz_len rfl O.n_len b_len (za_cons (zv0 1) za_nil)) za_nil)) (len_cons (len_cons len_nil))))))
theorem z__law_label (O : Fx K mg) : FnZ Pq w K mg base 3 (He.ga K "_law_label") 1 F__law_label :=
  O.d__law_label.elim fun fd Fd => fnz_of (k := 2) Fd sc__law_label (fun kV doc pm an cdv ct us hl => match us, hl with | [_], _ => rfl) fun cdv A outer s H E hr =>
    have nd := sc__law_label.nd
    (zss_cons (zs_set nd rfl (.inr rfl) (ze_call (z__law_some O) (hr.mono (by first | decide | omega)) rfl O.g__law_some tk_cx (za_cons (zvc 0) (za_cons (ze_lst false (za_cons ze_str (za_cons ze_str (za_cons ze_str za_nil)))) za_nil)) (len_cons (len_cons len_nil))))
  (zss_cons (zs_set nd rfl (.inl rfl) (ze_if (zt_cmp (oz_eq hr.rm.units) (ze_call (z__law_draw O) (hr.mono (by first | decide | omega)) rfl O.g__law_draw tk_cx (za_cons (zvc 0) (za_cons ze_int za_nil)) (len_cons (len_cons len_nil))) ze_int) ze_int (ze_op false oz_add ze_int (ze_call (z__law_draw O) (hr.mono (by first | decide | omega)) rfl O.g__law_draw tk_cx (za_cons (zvc 0) (za_cons ze_int za_nil)) (len_cons (len_cons len_nil))))))
  (zss_one (zs_ret (ze_meth false PySem.F.plainAttrs_str PySem.F.slot_str_join PySem.F.type_str_join mz_join ze_str (za_cons (ze_lc (own := [("turn", 3)]) false rfl nd (zi_range1 rfl O.n_range (za_cons (zv0 2) za_nil)) (blk_of rfl) rfl (fun s H C cl fp => (zg_name (pg_name nd rfl (.inl rfl)) (by decide))) (fun s H C cl fp => zts_nil) (fun s H C cl fp => (ze_ix iz_ix (zvc 1) (ze_call (z__law_draw O) (hr.mono (by first | decide | omega)) rfl O.g__law_draw takes_nox (za_cons (zvc 0) (za_cons (ze_callB false cz_len rfl O.n_len b_len (za_cons (zvc 1) za_nil)) za_nil)) (len_cons (len_cons len_nil)))))) za_nil))))))
theorem z__law_deep (O : Fx K mg) : FnZ Pq w K mg base 1 (He.ga K "_law_deep") 2 F__law_deep :=
  O.d__law_deep.elim fun fd Fd => fnz_of (k := 0) Fd sc__law_deep (fun kV doc pm an cdv ct us hl => match us, hl with | [_, _], _ => rfl) fun cdv A outer s H E hr =>
    have nd := sc__law_deep.nd
    (zss_cons (zs_for (vs := [2]) pass_cx rfl (zi_range1 rfl O.n_range (za_cons (zv0 1) za_nil)) (zg_name (pg_name nd rfl (.inl rfl)) (by decide))
  (zss_one (zs_set nd rfl (.inl rfl) (ze_if (zt_cmp oz_lt (zv0 2) ze_int) (ze_tup (za_cons (zv0 0) za_nil)) (ze_lst false (za_cons (zv0 0) za_nil))))))
  (zss_one (zs_ret (zv0 0))))
theorem z__law_odd (O : Fx K mg) : FnZ Pq w K mg base 3 (He.ga K "_law_odd") 1 F__law_odd :=
  O.d__law_odd.elim fun fd Fd => fnz_of (k := 2) Fd sc__law_odd (fun kV doc pm an cdv ct us hl => match us, hl with | [_], _ => rfl) fun cdv A outer s H E hr =>
    have nd := sc__law_odd.nd
    (zss_cons (zs_set nd rfl (.inl rfl) (ze_lst false (za_cons ze_non (za_cons ze_bl (za_cons ze_bl (za_cons ze_int (za_cons ze_int (za_cons (ze_un uz_neg ze_int) (za_cons (ze_op false oz_pow ze_int ze_int) (za_cons ze_str (za_cons ze_str (za_cons ze_str (za_cons ze_str (za_cons ze_str (za_cons (ze_tup za_nil) (za_cons (ze_lst false za_nil) (za_cons (ze_disp0 false) (za_cons (ze_tup (za_cons ze_int za_nil)) (za_cons (ze_tup (za_cons ze_str za_nil)) (za_cons (ze_disp false (zps_cons ze_int ze_int zps_nil)) za_nil))))))))))))))))))))
  (zss_one (zs_ret (ze_call (z__law_some O) (hr.mono (by first | decide | omega)) rfl O.g__law_some tk_cx (za_cons (zv0 0) (za_cons (ze_op false oz_add (zv0 1) (ze_lst false (za_cons (ze_call (z__law_deep O) (hr.mono (by first | decide | omega)) rfl O.g__law_deep tk_cx (za_cons (ze_tup za_nil) (za_cons ze_int za_nil)) (len_cons (len_cons len_nil))) (za_cons ze_int (za_cons (ze_op false oz_pow ze_int ze_int) (za_cons (ze_op false oz_pow ze_int ze_int) za_nil)))))) za_nil)) (len_cons (len_cons len_nil))))))
theorem z__law_bent (O : Fx K mg) : ∀ n, FnZ Pq w K mg base (4 + n) (He.ga K "_law_bent") 2 (F__law_bent n)
  | 0 => O.d__law_bent.elim fun fd Fd => fnz_bad (ps := ["hand", "thing"]) Fd (fun kV doc pm an cdv ct us hl => match us, hl with | [_, _], _ => rfl)
  | n + 1 => O.d__law_bent.elim fun fd Fd => fnz_of (k := 4 + n) Fd sc__law_bent (fun kV doc pm an cdv ct us hl => match us, hl with | [_, _], _ => rfl) fun cdv A outer s H E hr =>
    have nd := sc__law_bent.nd
    have ih := z__law_bent O n
    (zss_cons (zs_set nd rfl (.inl rfl) (ze_call (z__law_draw O) (hr.mono (by first | decide | omega)) rfl O.g__law_draw tk_cx (za_cons (zv0 0) (za_cons ze_int za_nil)) (len_cons (len_cons len_nil))))
  (zss_cons (zs_if (ZW.zt (zw_and (zt_tru (ze_callB false (cz_isi O.kits O.ins) rfl O.n_isinstance b_isinstance (za_cons (zv0 1) (za_cons (ze_ty rfl O.n_tuple b_tuple) za_nil)))) (zw_and (zt_cmp oz_gt (ze_callB false cz_len rfl O.n_len b_len (za_cons (zv0 1) za_nil)) ze_int) (zw_and1 (zt_cmp oz_gt (zv0 2) ze_int)))))
  (zss_cons (zs_set nd rfl (.inl rfl) (ze_call (z__law_draw O) (hr.mono (by first | decide | omega)) rfl O.g__law_draw tk_cx (za_cons (zv0 0) (za_cons (ze_callB false cz_len rfl O.n_len b_len (za_cons (zv0 1) za_nil)) za_nil)) (len_cons (len_cons len_nil))))
  (zss_one (zs_ret (ze_op false oz_add (ze_op false oz_add (ze_sl false (zv0 1) zo_none (zo_some (zv0 3))) (ze_tup (za_cons (ze_call ih (hr.mono (by first | decide | omega)) rfl O.g__law_bent tk_cx (za_cons (zv0 0) (za_cons (ze_ix iz_ix (zv0 1) (zv0 3)) za_nil)) (len_cons (len_cons len_nil))) za_nil))) (ze_sl false (zv0 1) (zo_some (ze_op false oz_add (zv0 3) ze_int)) zo_none)))))
  zss_nil)
  (zss_cons (zs_if (zt_tru (ze_callB false (cz_isi O.kits O.ins) rfl O.n_isinstance b_isinstance (za_cons (zv0 1) (za_cons (ze_ty rfl O.n_tuple b_tuple) za_nil))))
  (zss_cons (zs_par2 rfl nd rfl rfl (by decide) rfl rfl (za_cons (ze_call (z__law_draw O) (hr.mono (by first | decide | omega)) rfl O.g__law_draw tk_cx (za_cons (zv0 0) (za_cons (ze_op false oz_add (ze_callB false cz_len rfl O.n_len b_len (za_cons (zv0 1) za_nil)) ze_int) za_nil)) (len_cons (len_cons len_nil))) (za_cons (ze_call (z__law_draw O) (hr.mono (by first | decide | omega)) rfl O.g__law_draw tk_cx (za_cons (zv0 0) (za_cons (ze_op false oz_add (ze_callB false cz_len rfl O.n_len b_len (za_cons (zv0 1) za_nil)) ze_int) za_nil)) (len_cons (len_cons len_nil))) za_nil)) rfl)
  (zss_cons (zs_set nd rfl (.inl rfl) (ze_lst false (za_cons (ze_op false oz_add (ze_sl false (zv0 1) zo_none (zo_some (zv0 3))) (ze_sl false (zv0 1) (zo_some (ze_op false oz_add (zv0 3) ze_int)) zo_none)) (za_cons (ze_op false oz_add (ze_op false oz_add (ze_sl false (zv0 1) zo_none (zo_some (zv0 3))) (ze_sl false (zv0 1) (zo_some (zv0 3)) (zo_some (ze_op false oz_add (zv0 3) ze_int)))) (ze_sl false (zv0 1) (zo_some (zv0 3)) zo_none)) (za_cons (ze_callTy false cz_list rfl O.n_list b_list (za_cons (zv0 1) za_nil)) (za_cons (ze_rev false (zv0 1)) za_nil))))))
  (zss_cons (zs_set nd rfl (.inl rfl) (ze_op false oz_add (zv0 5) (ze_lst false (za_cons (ze_op false oz_add (ze_op false oz_add (ze_sl false (zv0 1) zo_none (zo_some (zv0 3))) (ze_sl false (ze_op false oz_add (ze_sl false (zv0 1) (zo_some (zv0 4)) zo_none) (ze_sl false (zv0 1) zo_none (zo_some (zv0 4)))) zo_none (zo_some ze_int))) (ze_sl false (zv0 1) (zo_some (ze_op false oz_add (zv0 3) ze_int)) zo_none)) (za_cons (ze_op false oz_add (zv0 1) (ze_tup (za_cons ze_int za_nil))) (za_cons (ze_sl false (zv0 1) zo_none (zo_some (ze_un uz_neg ze_int))) za_nil))))))
  (zss_one (zs_ret (ze_call (z__law_some O) (hr.mono (by first | decide | omega)) rfl O.g__law_some tk_cx (za_cons (zv0 0) (za_cons (ze_op false oz_add (zv0 5) (ze_lst false (za_cons (ze_op false oz_add (ze_sl false (zv0 1) (zo_some (zv0 3)) zo_none) (ze_sl false (zv0 1) zo_none (zo_some (zv0 3)))) (za_cons (ze_call (z__law_odd O) (hr.mono (by first | decide | omega)) rfl O.g__law_odd tk_cx (za_cons (zv0 0) za_nil) (len_cons len_nil)) (za_cons (ze_sl false (ze_op false oz_mul0 (zv0 1) ze_int) zo_none (zo_some ze_int)) za_nil))))) za_nil)) (len_cons (len_cons len_nil))))))))
  zss_nil)
  (zss_cons (zs_if (zt_tru (ze_call (z__law_int O) (hr.mono (by first | decide | omega)) rfl O.g__law_int tk_cx (za_cons (zv0 1) (za_cons ze_int (za_cons (ze_op false oz_pow ze_int ze_int) za_nil))) (len_cons (len_cons (len_cons len_nil)))))
  (zss_one (zs_ret (ze_call (z__law_some O) (hr.mono (by first | decide | omega)) rfl O.g__law_some tk_cx (za_cons (zv0 0) (za_cons (ze_lst false (za_cons (ze_op false oz_add (ze_callTy false cz_int rfl O.n_int b_int (za_cons (zv0 1) za_nil)) ze_int) (za_cons (ze_op false oz_sub (ze_callTy false cz_int rfl O.n_int b_int (za_cons (zv0 1) za_nil)) ze_int) (za_cons (ze_cmp (oz_eq hr.rm.units) (zv0 1) ze_int) (za_cons (ze_callTy false cz_str rfl O.n_str b_str (za_cons (zv0 1) za_nil)) (za_cons ze_int (za_cons (ze_op false oz_pow ze_int ze_int) (za_cons (ze_op false oz_pow ze_int ze_int) za_nil)))))))) za_nil)) (len_cons (len_cons len_nil)))))
  zss_nil)
  (zss_cons (zs_if (zt_tru (ze_callB false (cz_isi O.kits O.ins) rfl O.n_isinstance b_isinstance (za_cons (zv0 1) (za_cons (ze_ty rfl O.n_str b_str) za_nil))))
  (zss_cons (zs_set nd rfl (.inl rfl) (ze_lst false (za_cons (ze_op false oz_add (zv0 1) ze_str) (za_cons (ze_sl false (zv0 1) (zo_some ze_int) zo_none) (za_cons ze_str (za_cons (ze_meth0 false PySem.F.plainAttrs_str PySem.F.slot_str_upper PySem.F.type_str_upper mz_upper (zv0 1)) (za_cons (ze_call (z__law_label O) (hr.mono (by first | decide | omega)) rfl O.g__law_label tk_cx (za_cons (zv0 0) za_nil) (len_cons len_nil)) (za_cons (ze_tup (za_cons (zv0 1) za_nil)) (za_cons (ze_op false oz_add (zv0 1) ze_str) za_nil)))))))))
  (zss_one (zs_ret (ze_call (z__law_some O) (hr.mono (by first | decide | omega)) rfl O.g__law_some tk_cx (za_cons (zv0 0) (za_cons (ze_op false oz_add (zv0 5) (ze_lst false (za_cons ze_non za_nil))) za_nil)) (len_cons (len_cons len_nil))))))
  zss_nil)
  (zss_one (zs_ret (ze_call (z__law_odd O) (hr.mono (by first | decide | omega)) rfl O.g__law_odd tk_cx (za_cons (zv0 0) za_nil) (len_cons len_nil)))))))))
theorem z_Programme_C_all_parts (O : Fx K mg) : FnZ Pq w K mg base 1 (He.ma K (He.ga K "Programme") "all_parts") 1 F_Programme_C_all_parts :=
  O.d_Programme_C_all_parts.elim fun fd Fd => fnz_of (k := 0) Fd sc_Programme_C_all_parts (fun kV doc pm an cdv ct us hl => match us, hl with | [_], _ => rfl) fun cdv A outer s H E hr =>
    have nd := sc_Programme_C_all_parts.nd
    (zss_one (zs_ret (ze_tup (za_cons (ze_fld O.f_kinds (zv0 0)) (za_cons (ze_fld O.f_shelves (zv0 0)) (za_cons (ze_fld O.f_partners (zv0 0)) (za_cons (ze_fld O.f_houses (zv0 0)) za_nil)))))))
theorem z_Programme_C_u_eq_u (O : Fx K mg) : FnZ Pq w K mg base 2 (He.ma K (He.ga K "Programme") "__eq__") 2 F_Programme_C_u_eq_u :=
  O.d_Programme_C_u_eq_u.elim fun fd Fd => fnz_of (k := 1) Fd sc_Programme_C_u_eq_u (fun kV doc pm an cdv ct us hl => match us, hl with | [_, _], _ => rfl) fun cdv A outer s H E hr =>
    have nd := sc_Programme_C_u_eq_u.nd
    (zss_one (zs_ret (ze_and (ze_callB false (cz_isi O.kits O.ins) rfl O.n_isinstance b_isinstance (za_cons (zv0 1) (za_cons (ze_glo rfl O.g_Programme) za_nil))) (ze_one (ze_cmp (oz_eq hr.rm.units) (ze_methU0 (z_Programme_C_all_parts O) (hr.mono (by first | decide | omega)) O.cls_Programme O.m_Programme_all_parts tk_cx (zv0 0)) (ze_methU0 (z_Programme_C_all_parts O) (hr.mono (by first | decide | omega)) O.cls_Programme O.m_Programme_all_parts tk_cx (zv0 1)))))))
theorem z_is_integer (O : Fx K mg) : FnZ Pq w K mg base 1 (He.ga K "is_integer") 1 F_is_integer :=
  O.d_is_integer.elim fun fd Fd => fnz_of (k := 0) Fd sc_is_integer (fun kV doc pm an cdv ct us hl => match us, hl with | [_], _ => rfl) fun cdv A outer s H E hr =>
    have nd := sc_is_integer.nd
    (zss_one (zs_ret (ze_and (ze_callB false (cz_isi O.kits O.ins) rfl O.n_isinstance b_isinstance (za_cons (zv0 0) (za_cons (ze_ty rfl O.n_int b_int) za_nil))) (ze_one (ze_not (ze_callB false (cz_isi O.kits O.ins) rfl O.n_isinstance b_isinstance (za_cons (zv0 0) (za_cons (ze_ty rfl O.n_bool b_bool) za_nil))))))))
theorem z_is_from_to (O : Fx K mg) : FnZ Pq w K mg base 2 (He.ga K "is_from_to") 3 F_is_from_to :=
  O.d_is_from_to.elim fun fd Fd => fnz_of (k := 1) Fd sc_is_from_to (fun kV doc pm an cdv ct us hl => match us, hl with | [_, _, _], _ => rfl) fun cdv A outer s H E hr =>
    have nd := sc_is_from_to.nd
    (zss_one (zs_ret (ze_and (ze_call (z_is_integer O) (hr.mono (by first | decide | omega)) rfl O.g_is_integer tk_cx (za_cons (zv0 0) za_nil) (len_cons len_nil)) (ze_one (ze_chain oz_le oz_le (zv0 1) (zv0 0) (zv0 2))))))
theorem z_is_day (O : Fx K mg) : FnZ Pq w K mg base 3 (He.ga K "is_day") 1 F_is_day :=
  O.d_is_day.elim fun fd Fd => fnz_of (k := 2) Fd sc_is_day (fun kV doc pm an cdv ct us hl => match us, hl with | [_], _ => rfl) fun cdv A outer s H E hr =>
    have nd := sc_is_day.nd
    (zss_one (zs_ret (ze_call (z_is_from_to O) (hr.mono (by first | decide | omega)) rfl O.g_is_from_to tk_cx (za_cons (zv0 0) (za_cons ze_int (za_cons (ze_gi rfl O.c_MOST_DAY) za_nil))) (len_cons (len_cons (len_cons len_nil))))))
theorem z_is_label (O : Fx K mg) : FnZ Pq w K mg base 1 (He.ga K "is_label") 1 F_is_label :=
  O.d_is_label.elim fun fd Fd => fnz_of (k := 0) Fd sc_is_label (fun kV doc pm an cdv ct us hl => match us, hl with | [_], _ => rfl) fun cdv A outer s H E hr =>
    have nd := sc_is_label.nd
    (zss_cons (zs_if (ZW.zt (zw_or (zt_not (zt_tru (ze_callB false (cz_isi O.kits O.ins) rfl O.n_isinstance b_isinstance (za_cons (zv0 0) (za_cons (ze_ty rfl O.n_str b_str) za_nil))))) (zw_or1 (zt_not (zt_chain oz_le oz_le ze_int (ze_callB false cz_len rfl O.n_len b_len (za_cons (zv0 0) za_nil)) (ze_gi rfl O.c_MOST_SIGNS))))))
  (zss_one (zs_ret ze_bl))
  zss_nil)
  (zss_one (zs_ret (ze_callB false (cz_all rfl) rfl O.n_all b_all (za_cons (ze_lc (own := [("sign", 1)]) false rfl nd (zi_seq (zv0 0)) (blk_of rfl) rfl (fun s H C cl fp => (zg_name (pg_name nd rfl (.inl rfl)) (by decide))) (fun s H C cl fp => zts_nil) (fun s H C cl fp => (ze_cmp oz_in (zv0 1) (ze_gs rfl O.c_LETTERS)))) za_nil)))))
theorem z_is_tuple_of (O : Fx K mg) : FnZ Pq w K mg base 1 (He.ga K "is_tuple_of") 2 F_is_tuple_of :=
  O.d_is_tuple_of.elim fun fd Fd => fnz_of (k := 0) Fd sc_is_tuple_of (fun kV doc pm an cdv ct us hl => match us, hl with | [_, _], _ => rfl) fun cdv A outer s H E hr =>
    have nd := sc_is_tuple_of.nd
    (zss_one (zs_ret (ze_and (ze_callB false (cz_isi O.kits O.ins) rfl O.n_isinstance b_isinstance (za_cons (zv0 0) (za_cons (ze_ty rfl O.n_tuple b_tuple) za_nil))) (ze_one (ze_cmp (oz_eq hr.rm.units) (ze_callB false cz_len rfl O.n_len b_len (za_cons (zv0 0) za_nil)) (zv0 1))))))
theorem z_is_stay (O : Fx K mg) : FnZ Pq w K mg base 4 (He.ga K "is_stay") 1 F_is_stay :=
  O.d_is_stay.elim fun fd Fd => fnz_of (k := 3) Fd sc_is_stay (fun kV doc pm an cdv ct us hl => match us, hl with | [_], _ => rfl) fun cdv A outer s H E hr =>
    have nd := sc_is_stay.nd
    (zss_cons (zs_if (ZW.zt (zw_or (zt_not (zt_tru (ze_call (z_is_tuple_of O) (hr.mono (by first | decide | omega)) rfl O.g_is_tuple_of tk_cx (za_cons (zv0 0) (za_cons ze_int za_nil)) (len_cons (len_cons len_nil))))) (zw_or (zt_not (zt_tru (ze_call (z_is_label O) (hr.mono (by first | decide | omega)) rfl O.g_is_label tk_cx (za_cons (ze_ix iz_ix (zv0 0) ze_int) za_nil) (len_cons len_nil)))) (zw_or1 (zt_not (zt_tru (ze_call (z_is_label O) (hr.mono (by first | decide | omega)) rfl O.g_is_label tk_cx (za_cons (ze_ix iz_ix (zv0 0) ze_int) za_nil) (len_cons len_nil))))))))
  (zss_one (zs_ret ze_bl))
  zss_nil)
  (zss_one (zs_ret (ze_and (ze_call (z_is_day O) (hr.mono (by first | decide | omega)) rfl O.g_is_day tk_cx (za_cons (ze_ix iz_ix (zv0 0) ze_int) za_nil) (len_cons len_nil)) (ze_and (ze_call (z_is_day O) (hr.mono (by first | decide | omega)) rfl O.g_is_day tk_cx (za_cons (ze_ix iz_ix (zv0 0) ze_int) za_nil) (len_cons len_nil)) (ze_one (ze_cmp oz_le (ze_ix iz_ix (zv0 0) ze_int) (ze_ix iz_ix (zv0 0) ze_int))))))))
theorem z_are_houses (O : Fx K mg) : FnZ Pq w K mg base 5 (He.ga K "are_houses") 1 F_are_houses :=
  O.d_are_houses.elim fun fd Fd => fnz_of (k := 4) Fd sc_are_houses (fun kV doc pm an cdv ct us hl => match us, hl with | [_], _ => rfl) fun cdv A outer s H E hr =>
    have nd := sc_are_houses.nd
    (zss_one (zs_ret (ze_and (ze_callB false (cz_isi O.kits O.ins) rfl O.n_isinstance b_isinstance (za_cons (zv0 0) (za_cons (ze_ty rfl O.n_tuple b_tuple) za_nil))) (ze_and (ze_cmp oz_le (ze_callB false cz_len rfl O.n_len b_len (za_cons (zv0 0) za_nil)) (ze_gi rfl O.c_MOST_HOUSES)) (ze_one (ze_callB false (cz_all rfl) rfl O.n_all b_all (za_cons (ze_lc (own := [("one", 1)]) false rfl nd (zi_seq (zv0 0)) (blk_of rfl) rfl (fun s H C cl fp => (zg_name (pg_name nd rfl (.inl rfl)) (by decide))) (fun s H C cl fp => zts_nil) (fun s H C cl fp => (ze_call (z_is_stay O) (hr.mono (by first | decide | omega)) rfl O.g_is_stay takes_nox (za_cons (zv0 1) za_nil) (len_cons len_nil)))) za_nil)))))))
theorem z_are_labels (O : Fx K mg) : FnZ Pq w K mg base 2 (He.ga K "are_labels") 2 F_are_labels :=
  O.d_are_labels.elim fun fd Fd => fnz_of (k := 1) Fd sc_are_labels (fun kV doc pm an cdv ct us hl => match us, hl with | [_, _], _ => rfl) fun cdv A outer s H E hr =>
    have nd := sc_are_labels.nd
    (zss_cons (zs_if (ZW.zt (zw_or (zt_not (zt_tru (ze_callB false (cz_isi O.kits O.ins) rfl O.n_isinstance b_isinstance (za_cons (zv0 0) (za_cons (ze_ty rfl O.n_tuple b_tuple) za_nil))))) (zw_or1 (zt_not (zt_chain oz_le oz_le ze_int (ze_callB false cz_len rfl O.n_len b_len (za_cons (zv0 0) za_nil)) (zv0 1))))))
  (zss_one (zs_ret ze_bl))
  zss_nil)
  (zss_one (zs_ret (ze_and (ze_callB false (cz_all rfl) rfl O.n_all b_all (za_cons (ze_lc (own := [("one", 2)]) false rfl nd (zi_seq (zv0 0)) (blk_of rfl) rfl (fun s H C cl fp => (zg_name (pg_name nd rfl (.inl rfl)) (by decide))) (fun s H C cl fp => zts_nil) (fun s H C cl fp => (ze_call (z_is_label O) (hr.mono (by first | decide | omega)) rfl O.g_is_label takes_nox (za_cons (zv0 2) za_nil) (len_cons len_nil)))) za_nil)) (ze_one (ze_cmp (oz_eq hr.rm.units) (ze_lenSet rfl rfl O.n_len rfl O.n_set (zv0 0)) (ze_callB false cz_len rfl O.n_len b_len (za_cons (zv0 0) za_nil))))))))
theorem z_is_shelf_of (O : Fx K mg) : FnZ Pq w K mg base 2 (He.ga K "is_shelf_of") 2 F_is_shelf_of :=
  O.d_is_shelf_of.elim fun fd Fd => fnz_of (k := 1) Fd sc_is_shelf_of (fun kV doc pm an cdv ct us hl => match us, hl with | [_, _], _ => rfl) fun cdv A outer s H E hr =>
    have nd := sc_is_shelf_of.nd
    (zss_cons (zs_if (ZW.zt (zw_or (zt_not (zt_tru (ze_call (z_is_tuple_of O) (hr.mono (by first | decide | omega)) rfl O.g_is_tuple_of tk_cx (za_cons (zv0 0) (za_cons ze_int za_nil)) (len_cons (len_cons len_nil))))) (zw_or (zt_not (zt_tru (ze_call (z_is_label O) (hr.mono (by first | decide | omega)) rfl O.g_is_label tk_cx (za_cons (ze_ix iz_ix (zv0 0) ze_int) za_nil) (len_cons len_nil)))) (zw_or1 (zt_not (zt_tru (ze_callB false (cz_isi O.kits O.ins) rfl O.n_isinstance b_isinstance (za_cons (ze_ix iz_ix (zv0 0) ze_int) (za_cons (ze_ty rfl O.n_tuple b_tuple) za_nil)))))))))
  (zss_one (zs_ret ze_bl))
  zss_nil)
  (zss_one (zs_ret (ze_and (ze_callB false (cz_all rfl) rfl O.n_all b_all (za_cons (ze_lc (own := [("one", 2)]) false rfl nd (zi_seq (ze_ix iz_ix (zv0 0) ze_int)) (blk_of rfl) rfl (fun s H C cl fp => (zg_name (pg_name nd rfl (.inl rfl)) (by decide))) (fun s H C cl fp => zts_nil) (fun s H C cl fp => (ze_and (ze_call (z_is_label O) (hr.mono (by first | decide | omega)) rfl O.g_is_label takes_nox (za_cons (zv0 2) za_nil) (len_cons len_nil)) (ze_one (ze_cmp oz_in (zv0 2) (zvc 1)))))) za_nil)) (ze_one (ze_cmp (oz_eq hr.rm.units) (ze_lenSet rfl rfl O.n_len rfl O.n_set (ze_ix iz_ix (zv0 0) ze_int)) (ze_callB false cz_len rfl O.n_len b_len (za_cons (ze_ix iz_ix (zv0 0) ze_int) za_nil))))))))
theorem z_are_shelves (O : Fx K mg) : FnZ Pq w K mg base 3 (He.ga K "are_shelves") 2 F_are_shelves :=
  O.d_are_shelves.elim fun fd Fd => fnz_of (k := 2) Fd sc_are_shelves (fun kV doc pm an cdv ct us hl => match us, hl with | [_, _], _ => rfl) fun cdv A outer s H E hr =>
    have nd := sc_are_shelves.nd
    (zss_cons (zs_if (ZW.zt (zw_or (zt_not (zt_tru (ze_callB false (cz_isi O.kits O.ins) rfl O.n_isinstance b_isinstance (za_cons (zv0 0) (za_cons (ze_ty rfl O.n_tuple b_tuple) za_nil))))) (zw_or1 (zt_not (zt_chain oz_le oz_le ze_int (ze_callB false cz_len rfl O.n_len b_len (za_cons (zv0 0) za_nil)) (ze_gi rfl O.c_MOST_SHELVES))))))
  (zss_one (zs_ret ze_bl))
  zss_nil)
  (zss_one (zs_ret (ze_and (ze_callB false (cz_all rfl) rfl O.n_all b_all (za_cons (ze_lc (own := [("one", 2)]) false rfl nd (zi_seq (zv0 0)) (blk_of rfl) rfl (fun s H C cl fp => (zg_name (pg_name nd rfl (.inl rfl)) (by decide))) (fun s H C cl fp => zts_nil) (fun s H C cl fp => (ze_call (z_is_shelf_of O) (hr.mono (by first | decide | omega)) rfl O.g_is_shelf_of takes_nox (za_cons (zv0 2) (za_cons (zvc 1) za_nil)) (len_cons (len_cons len_nil))))) za_nil)) (ze_one (ze_cmp (oz_eq hr.rm.units) (ze_callB false cz_len rfl O.n_len b_len (za_cons (ze_dc (own := [("one", 2)]) rfl nd (zi_seq (zv0 0)) (blk_of rfl) rfl (fun s H C cl fp => (zg_name (pg_name nd rfl (.inl rfl)) (by decide))) (fun s H C cl fp => zts_nil) (fun s H C cl fp => (ze_ix iz_ix (zv0 2) ze_int)) (fun s H C cl fp => ze_bl)) za_nil)) (ze_callB false cz_len rfl O.n_len b_len (za_cons (zv0 0) za_nil))))))))
theorem z_Programme_C_u_init_u (O : Fx K mg) : FnZ Pq w K mg base 6 (He.ma K (He.ga K "Programme") "__init__") 5 F_Programme_C_u_init_u :=
  O.d_Programme_C_u_init_u.elim fun fd Fd => fnz_of (k := 5) Fd sc_Programme_C_u_init_u (fun kV doc pm an cdv ct us hl => match us, hl with | [_, _, _, _, _], _ => rfl) fun cdv A outer s H E hr =>
    have nd := sc_Programme_C_u_init_u.nd
    (zss_cons (zs_if (zt_not (zt_tru (ze_call (z_are_labels O) (hr.mono (by first | decide | omega)) rfl O.g_are_labels tk_cx (za_cons (zv0 1) (za_cons (ze_gi rfl O.c_MOST_KINDS) za_nil)) (len_cons (len_cons len_nil)))))
  (zss_one (zs_raiseF rfl tk_cx O.x1_BadProgramme (hr.mono (by first | decide | omega)) O.g_BadProgramme rfl (za_cons ze_str za_nil)))
  zss_nil)
  (zss_cons (zs_if (zt_not (zt_tru (ze_call (z_are_shelves O) (hr.mono (by first | decide | omega)) rfl O.g_are_shelves tk_cx (za_cons (zv0 2) (za_cons (zv0 1) za_nil)) (len_cons (len_cons len_nil)))))
  (zss_one (zs_raiseF rfl tk_cx O.x1_BadProgramme (hr.mono (by first | decide | omega)) O.g_BadProgramme rfl (za_cons ze_str za_nil)))
  zss_nil)
  (zss_cons (zs_if (zt_not (zt_tru (ze_call (z_are_labels O) (hr.mono (by first | decide | omega)) rfl O.g_are_labels tk_cx (za_cons (zv0 3) (za_cons (ze_gi rfl O.c_MOST_PARTNERS) za_nil)) (len_cons (len_cons len_nil)))))
  (zss_one (zs_raiseF rfl tk_cx O.x1_BadProgramme (hr.mono (by first | decide | omega)) O.g_BadProgramme rfl (za_cons ze_str za_nil)))
  zss_nil)
  (zss_cons (zs_if (zt_not (zt_tru (ze_call (z_are_houses O) (hr.mono (by first | decide | omega)) rfl O.g_are_houses tk_cx (za_cons (zv0 4) za_nil) (len_cons len_nil))))
  (zss_one (zs_raiseF rfl tk_cx O.x1_BadProgramme (hr.mono (by first | decide | omega)) O.g_BadProgramme rfl (za_cons ze_str za_nil)))
  zss_nil)
  (zss_cons (zs_setFld O.f_kinds (zv0 1) (zv0 0))
  (zss_cons (zs_setFld O.f_shelves (zv0 2) (zv0 0))
  (zss_cons (zs_setFld O.f_partners (zv0 3) (zv0 0))
  (zss_one (zs_setFld O.f_houses (zv0 4) (zv0 0))))))))))
theorem z__law_is (O : Fx K mg) : ∀ n, FnZ Pq w K mg base (1 + n) (He.ga K "_law_is") 2 (F__law_is n)
  | 0 => O.d__law_is.elim fun fd Fd => fnz_bad (ps := ["thing", "due"]) Fd (fun kV doc pm an cdv ct us hl => match us, hl with | [_, _], _ => rfl)
  | n + 1 => O.d__law_is.elim fun fd Fd => fnz_of (k := 1 + n) Fd sc__law_is (fun kV doc pm an cdv ct us hl => match us, hl with | [_, _], _ => rfl) fun cdv A outer s H E hr =>
    have nd := sc__law_is.nd
    have ih := z__law_is O n
    (zss_cons (zs_if (zt_tru (ze_callB false (cz_isi O.kits O.ins) rfl O.n_isinstance b_isinstance (za_cons (zv0 1) (za_cons (ze_tup (za_cons (ze_ty rfl O.n_tuple b_tuple) (za_cons (ze_ty rfl O.n_list b_list) za_nil))) za_nil))))
  (zss_cons (zs_if (ZW.zt (zw_or (zt_cmp (oz_ne hr.rm.units) (ze_callB false (cz_isi O.kits O.ins) rfl O.n_isinstance b_isinstance (za_cons (zv0 1) (za_cons (ze_ty rfl O.n_tuple b_tuple) za_nil))) (ze_callB false (cz_isi O.kits O.ins) rfl O.n_isinstance b_isinstance (za_cons (zv0 0) (za_cons (ze_ty rfl O.n_tuple b_tuple) za_nil)))) (zw_or1 (zt_not (zt_tru (ze_callB false (cz_isi O.kits O.ins) rfl O.n_isinstance b_isinstance (za_cons (zv0 0) (za_cons (ze_tup (za_cons (ze_ty rfl O.n_tuple b_tuple) (za_cons (ze_ty rfl O.n_list b_list) za_nil))) za_nil))))))))
  (zss_one (zs_ret ze_bl))
  zss_nil)
  (zss_one (zs_ret (ze_and (ze_cmp (oz_eq hr.rm.units) (ze_callB false cz_len rfl O.n_len b_len (za_cons (zv0 0) za_nil)) (ze_callB false cz_len rfl O.n_len b_len (za_cons (zv0 1) za_nil))) (ze_one (ze_callB false (cz_all rfl) rfl O.n_all b_all (za_cons (ze_lc (own := [("one", 2), ("other", 3)]) false rfl nd (zi_zip rfl O.n_zip (za_cons (zv0 0) (za_cons (zv0 1) za_nil))) (blk_of rfl) rfl (fun s H C cl fp => (zg_tup (nn := 2) rfl (zgs_cons (zg_name (pg_name nd rfl (.inl rfl)) (by decide)) (zgs_cons (zg_name (pg_name nd rfl (.inl rfl)) (by decide)) zgs_nil)))) (fun s H C cl fp => zts_nil) (fun s H C cl fp => (ze_call ih (hr.mono (by first | decide | omega)) rfl O.g__law_is takes_nox (za_cons (zv0 2) (za_cons (zv0 3) za_nil)) (len_cons (len_cons len_nil))))) za_nil)))))))
  zss_nil)
  (zss_cons (zs_if (ZW.zt (zw_or (zt_cmp oz_is (zv0 1) ze_non) (zw_or1 (zt_cmp oz_is (zv0 0) ze_non))))
  (zss_one (zs_ret (ze_and (ze_cmp oz_is (zv0 1) ze_non) (ze_one (ze_cmp oz_is (zv0 0) ze_non)))))
  zss_nil)
  (zss_cons (zs_if (ZW.zt (zw_or (zt_tru (ze_callB false (cz_isi O.kits O.ins) rfl O.n_isinstance b_isinstance (za_cons (zv0 1) (za_cons (ze_ty rfl O.n_bool b_bool) za_nil)))) (zw_or1 (zt_tru (ze_callB false (cz_isi O.kits O.ins) rfl O.n_isinstance b_isinstance (za_cons (zv0 0) (za_cons (ze_ty rfl O.n_bool b_bool) za_nil)))))))
  (zss_one (zs_ret (ze_and (ze_callB false (cz_isi O.kits O.ins) rfl O.n_isinstance b_isinstance (za_cons (zv0 1) (za_cons (ze_ty rfl O.n_bool b_bool) za_nil))) (ze_and (ze_callB false (cz_isi O.kits O.ins) rfl O.n_isinstance b_isinstance (za_cons (zv0 0) (za_cons (ze_ty rfl O.n_bool b_bool) za_nil))) (ze_one (ze_cmp (oz_eq hr.rm.units) (zv0 0) (zv0 1)))))))
  zss_nil)
  (zss_one (zs_ret (ze_and (ze_callB false (cz_isi O.kits O.ins) rfl O.n_isinstance b_isinstance (za_cons (zv0 0) (za_cons (ze_tup (za_cons (ze_ty rfl O.n_int b_int) (za_cons (ze_ty rfl O.n_str b_str) za_nil))) za_nil))) (ze_and (ze_cmp (oz_eq hr.rm.units) (ze_callB false (cz_isi O.kits O.ins) rfl O.n_isinstance b_isinstance (za_cons (zv0 0) (za_cons (ze_ty rfl O.n_str b_str) za_nil))) (ze_callB false (cz_isi O.kits O.ins) rfl O.n_isinstance b_isinstance (za_cons (zv0 1) (za_cons (ze_ty rfl O.n_str b_str) za_nil)))) (ze_one (ze_cmp (oz_eq hr.rm.units) (zv0 0) (zv0 1))))))))))
theorem eqs_ok (O : Fx K mg) : ∀ C ts F, eqs.lookup C = some (ts, F) → EqOk Pq w K mg base eqLv C F ts := by
  intro C ts F h
  unfold eqs at h
  by_cases h0 : (C == "Programme") = true
  · have hc : C = "Programme" := eq_of_beq h0
    subst hc
    have e : (ts, F) = (eqTs "Programme", F_Programme_C_u_eq_u) := (Option.some.inj (show some (eqTs "Programme", F_Programme_C_u_eq_u) = some (ts, F) from h)).symm
    cases e
    obtain ⟨a1, a2, a3, a4, a5⟩ := O.eq_Programme
    exact ⟨⟨_, (z_Programme_C_u_eq_u O).mono (by decide), a1, a2⟩, a3, a4, a5⟩
  rw [List.lookup_cons, Bool.eq_false_iff.mpr h0] at h
  cases h
theorem z__law_equal_right (O : Fx K mg) : FnZ Pq w K mg base 22 (He.ga K "_law_equal_right") 2 F__law_equal_right :=
  O.d__law_equal_right.elim fun fd Fd => fnz_of (k := 21) Fd sc__law_equal_right (fun kV doc pm an cdv ct us hl => match us, hl with | [_, _], _ => rfl) fun cdv A outer s H E hr =>
    have nd := sc__law_equal_right.nd
    (zss_cons (zs_set nd rfl (.inl rfl) (ze_make true O.mk_Programme (z_Programme_C_u_init_u O) (hr.mono (by first | decide | omega)) rfl O.g_Programme tk_cx (za_cons (ze_ix iz_ix (zv0 0) ze_int) (za_cons (ze_ix iz_ix (zv0 0) ze_int) (za_cons (ze_ix iz_ix (zv0 0) ze_int) (za_cons (ze_ix iz_ix (zv0 0) ze_int) za_nil)))) (fun s h xs h1 e => congrArg (· + 1) ((len_cons (len_cons (len_cons (len_cons len_nil)))) s h xs h1 e))))
  (zss_cons (zs_set nd rfl (.inl rfl) (ze_make true O.mk_Programme (z_Programme_C_u_init_u O) (hr.mono (by first | decide | omega)) rfl O.g_Programme tk_cx (za_cons (ze_ix iz_ix (zv0 1) ze_int) (za_cons (ze_ix iz_ix (zv0 1) ze_int) (za_cons (ze_ix iz_ix (zv0 1) ze_int) (za_cons (ze_ix iz_ix (zv0 1) ze_int) za_nil)))) (fun s h xs h1 e => congrArg (· + 1) ((len_cons (len_cons (len_cons (len_cons len_nil)))) s h xs h1 e))))
  (zss_one (zs_ret (ze_call (z__law_is O 20) (hr.mono (by first | decide | omega)) rfl O.g__law_is tk_cx (za_cons (ze_lst false (za_cons (ze_eqU (oz_eqU (k := eqLv) (hr.mono (by first | decide | omega)) (eqs_ok O) O.ins) (zv0 2) (zv0 3)) (za_cons (ze_eqU (oz_neU (k := eqLv) (hr.mono (by first | decide | omega)) (eqs_ok O) O.ins) (zv0 2) (zv0 3)) za_nil))) (za_cons (ze_lst false (za_cons (ze_eqU (oz_eqU (k := eqLv) (hr.mono (by first | decide | omega)) (eqs_ok O) O.ins) (zv0 0) (zv0 1)) (za_cons (ze_eqU (oz_neU (k := eqLv) (hr.mono (by first | decide | omega)) (eqs_ok O) O.ins) (zv0 0) (zv0 1)) za_nil))) za_nil)) (len_cons (len_cons len_nil)))))))
theorem z__law_hand (O : Fx K mg) : FnZ Pq w K mg base 1 (He.ga K "_law_hand") 1 F__law_hand :=
  O.d__law_hand.elim fun fd Fd => fnz_of (k := 0) Fd sc__law_hand (fun kV doc pm an cdv ct us hl => match us, hl with | [_], _ => rfl) fun cdv A outer s H E hr =>
    have nd := sc__law_hand.nd
    (zss_cons (zs_setLc (own := [("cell", 2)]) false rfl nd rfl rfl rfl (zi_seq (ze_sl false (zv0 0) zo_none (zo_some ze_int))) (blk_of rfl) rfl (fun s H C cl fp => (zg_name (pg_name nd rfl (.inl rfl)) (by decide))) (fun s H C cl fp => zts_nil) (fun s H C cl fp => (ze_callB false cz_abs rfl O.n_abs b_abs (za_cons (ze_callTy false cz_int rfl O.n_int b_int (za_cons (zv0 2) za_nil)) za_nil))))
  (zss_one (zs_ret (ze_lst true (za_cons (zv0 1) (za_cons ze_int (za_cons ze_int (za_cons (ze_op false oz_add ze_int (ze_callB false cz_len rfl O.n_len b_len (za_cons (zv0 1) za_nil))) (za_cons ze_int za_nil)))))))))
theorem z__law_told (O : Fx K mg) : FnZ Pq w K mg base 8 (He.ga K "_law_told") 1 F__law_told :=
  O.d__law_told.elim fun fd Fd => fnz_of (k := 7) Fd sc__law_told (fun kV doc pm an cdv ct us hl => match us, hl with | [_], _ => rfl) fun cdv A outer s H E hr =>
    have nd := sc__law_told.nd
    (zss_cons (zs_set nd rfl (.inl rfl) (ze_tup (za_cons ze_str (za_cons ze_non za_nil))))
  (zss_cons (zs_try rfl rfl nd tk_cx (fun W pn xe tk2 po2 => (zss_one (zs_set nd rfl (.inl rfl) (ze_tup (za_cons ze_str (za_cons (ze_make true O.mk_Programme (z_Programme_C_u_init_u O) (hr.mono (by first | decide | omega)) rfl O.g_Programme tk2 (za_cons (ze_ix iz_ix (zv0 0) ze_int) (za_cons (ze_ix iz_ix (zv0 0) ze_int) (za_cons (ze_ix iz_ix (zv0 0) ze_int) (za_cons (ze_ix iz_ix (zv0 0) ze_int) za_nil)))) (fun s h xs h1 e => congrArg (· + 1) ((len_cons (len_cons (len_cons (len_cons len_nil)))) s h xs h1 e))) za_nil)))))) (.cons (k := ⟨tst_BadProgramme, (some 2), _⟩) ⟨rfl, rfl, .inl O.g_BadProgramme⟩ O.tst_BadProgramme ⟨rfl, rfl⟩ (fun a oe cls d pn hz hf => (zss_one (zs_set nd rfl (.inl rfl) (ze_tup (za_cons ze_str (za_cons (ze_if (zt_tru (ze_callB false (cz_isiX (pinned_suite hz hf) O.kits O.ins O.exc) rfl O.n_isinstance b_isinstance (za_cons (zv0 2) (za_cons (ze_glo rfl O.g_PointError) za_nil)))) (ze_exf (pinned_suite hz hf) (O.xf_part) (zv0 2)) ze_non) za_nil)))))) (.cons (k := ⟨tst_PointError, none, _⟩) ⟨rfl, rfl, .inl O.g_PointError⟩ O.tst_PointError True.intro (fun a oe cls d pn hz hf => (zss_one (zs_set nd rfl (.inl rfl) (ze_tup (za_cons ze_str (za_cons ze_non za_nil)))))) .nil)))
  (zss_one (zs_ret (zv0 1)))))
theorem z__law_is_right (O : Fx K mg) : FnZ Pq w K mg base 22 (He.ga K "_law_is_right") 1 F__law_is_right :=
  O.d__law_is_right.elim fun fd Fd => fnz_of (k := 21) Fd sc__law_is_right (fun kV doc pm an cdv ct us hl => match us, hl with | [_], _ => rfl) fun cdv A outer s H E hr =>
    have nd := sc__law_is_right.nd
    (zss_cons (zs_par2 rfl nd rfl rfl (by decide) rfl rfl (za_cons (ze_callB false (cz_repr hr O.sm) rfl O.n_repr b_repr (za_cons (zv0 0) za_nil)) (za_cons (ze_call (z__law_bad_part O) (hr.mono (by first | decide | omega)) rfl O.g__law_bad_part tk_cx (za_cons (zv0 0) za_nil) (len_cons len_nil)) za_nil)) rfl)
  (zss_cons (zs_asg (vs := [3, 4]) (ze_call (z__law_told O) (hr.mono (by first | decide | omega)) rfl O.g__law_told tk_cx (za_cons (zv0 0) za_nil) (len_cons len_nil)) (zg_tup (nn := 2) rfl (zgs_cons (zg_name (pg_name nd rfl (.inl rfl)) (by decide)) (zgs_cons (zg_name (pg_name nd rfl (.inl rfl)) (by decide)) zgs_nil))))
  (zss_cons (zs_if (ZW.zt (zw_or (zt_eqU (oz_neU (k := eqLv) (hr.mono (by first | decide | omega)) (eqs_ok O) O.ins) (ze_callB false (cz_repr hr O.sm) rfl O.n_repr b_repr (za_cons (zv0 0) za_nil)) (zv0 1)) (zw_or1 (zt_eqU (oz_neU (k := eqLv) (hr.mono (by first | decide | omega)) (eqs_ok O) O.ins) (zv0 3) (ze_if (zt_cmp oz_is (zv0 2) ze_non) ze_str ze_str)))))
  (zss_one (zs_ret ze_bl))
  zss_nil)
  (zss_cons (zs_if (zt_cmp oz_isn (zv0 2) ze_non)
  (zss_one (zs_ret (ze_call (z__law_is O 20) (hr.mono (by first | decide | omega)) rfl O.g__law_is tk_cx (za_cons (zv0 4) (za_cons (zv0 2) za_nil)) (len_cons (len_cons len_nil)))))
  zss_nil)
  (zss_cons (zs_set nd rfl (.inl rfl) (ze_make true O.mk_Programme (z_Programme_C_u_init_u O) (hr.mono (by first | decide | omega)) rfl O.g_Programme tk_cx (za_cons (ze_ix iz_ix (zv0 0) ze_int) (za_cons (ze_ix iz_ix (zv0 0) ze_int) (za_cons (ze_ix iz_ix (zv0 0) ze_int) (za_cons (ze_ix iz_ix (zv0 0) ze_int) za_nil)))) (fun s h xs h1 e => congrArg (· + 1) ((len_cons (len_cons (len_cons (len_cons len_nil)))) s h xs h1 e))))
  (zss_cons (zs_if (zt_not (zt_tru (ze_call (z__law_is O 20) (hr.mono (by first | decide | omega)) rfl O.g__law_is tk_cx (za_cons (ze_tup (za_cons (ze_fld O.f_kinds (zv0 4)) (za_cons (ze_fld O.f_shelves (zv0 4)) (za_cons (ze_fld O.f_partners (zv0 4)) (za_cons (ze_fld O.f_houses (zv0 4)) za_nil))))) (za_cons (zv0 0) za_nil)) (len_cons (len_cons len_nil)))))
  (zss_one (zs_ret ze_bl))
  zss_nil)
  (zss_one (zs_ret (ze_and (ze_eqU (oz_eqU (k := eqLv) (hr.mono (by first | decide | omega)) (eqs_ok O) O.ins) (zv0 4) (zv0 5)) (ze_and (ze_not (ze_eqU (oz_neU (k := eqLv) (hr.mono (by first | decide | omega)) (eqs_ok O) O.ins) (zv0 4) (zv0 5))) (ze_and (ze_eqU (oz_neU (k := eqLv) (hr.mono (by first | decide | omega)) (eqs_ok O) O.ins) (zv0 4) (zv0 0)) (ze_one (ze_not (ze_eqU (oz_eqU (k := eqLv) (hr.mono (by first | decide | omega)) (eqs_ok O) O.ins) (zv0 4) (ze_ix iz_ix (zv0 0) ze_int)))))))))))))))
theorem z__law_known_right (O : Fx K mg) : FnZ Pq w K mg base 23 (He.ga K "_law_known_right") 0 F__law_known_right :=
  O.d__law_known_right.elim fun fd Fd => fnz_of (k := 22) Fd sc__law_known_right (fun kV doc pm an cdv ct us hl => match us, hl with | [], _ => rfl) fun cdv A outer s H E hr =>
    have nd := sc__law_known_right.nd
    (zss_cons (zs_set nd rfl (.inl rfl) (ze_tup (za_cons ze_str (za_cons ze_str (za_cons ze_str (za_cons ze_str (za_cons ze_str (za_cons ze_str (za_cons ze_str (za_cons ze_str za_nil))))))))))
  (zss_cons (zs_set nd rfl (.inl rfl) (ze_tup (za_cons ze_str (za_cons ze_str (za_cons ze_int (za_cons ze_int za_nil))))))
  (zss_cons (zs_set nd rfl (.inl rfl) (ze_lst true (za_cons (ze_tup (za_cons (ze_tup (za_cons (ze_tup (za_cons ze_str za_nil)) (za_cons (ze_tup (za_cons (ze_tup (za_cons ze_str (za_cons (ze_tup za_nil) za_nil))) za_nil)) (za_cons (ze_tup (za_cons ze_str za_nil)) (za_cons (ze_tup za_nil) za_nil))))) (za_cons ze_non za_nil))) (za_cons (ze_tup (za_cons (ze_tup (za_cons (zv0 0) (za_cons (ze_tup (za_cons (ze_tup (za_cons ze_str (za_cons (ze_rev false (zv0 0)) za_nil))) za_nil)) (za_cons (zv0 0) (za_cons (ze_op false oz_mul0 (ze_tup (za_cons (zv0 1) za_nil)) ze_int) za_nil))))) (za_cons ze_non za_nil))) za_nil))))
  (zss_cons (zs_set nd rfl (.inl rfl) (ze_op true oz_add (zv0 2) (ze_lst false (za_cons (ze_tup (za_cons (ze_tup (za_cons (ze_op false oz_add (zv0 0) (ze_tup (za_cons ze_str za_nil))) (za_cons (ze_tup za_nil) (za_cons (ze_tup za_nil) (za_cons ze_non za_nil))))) (za_cons ze_str za_nil))) (za_cons (ze_tup (za_cons (ze_tup (za_cons (ze_tup (za_cons ze_str za_nil)) (za_cons (ze_tup (za_cons (ze_tup (za_cons ze_str (za_cons (ze_tup (za_cons ze_str za_nil)) za_nil))) za_nil)) (za_cons (ze_tup za_nil) (za_cons (ze_tup za_nil) za_nil))))) (za_cons ze_str za_nil))) za_nil)))))
  (zss_cons (zs_expr (ze_mut PySem.F.plainAttrs_list PySem.F.slot_list_append PySem.F.type_list_append mz_app (zv0 2) (za_cons (ze_tup (za_cons (ze_tup (za_cons (ze_tup (za_cons ze_str za_nil)) (za_cons (ze_tup (za_cons (ze_tup (za_cons ze_str (za_cons (ze_tup (za_cons ze_str (za_cons ze_str za_nil))) za_nil))) za_nil)) (za_cons (ze_tup (za_cons ze_str za_nil)) (za_cons (ze_tup za_nil) za_nil))))) (za_cons ze_str za_nil))) za_nil)))
  (zss_cons (zs_expr (ze_mut PySem.F.plainAttrs_list PySem.F.slot_list_append PySem.F.type_list_append mz_app (zv0 2) (za_cons (ze_tup (za_cons (ze_tup (za_cons (ze_tup (za_cons ze_str za_nil)) (za_cons (ze_tup (za_cons (ze_tup (za_cons ze_str (za_cons (ze_tup za_nil) za_nil))) za_nil)) (za_cons (ze_tup (za_cons ze_str (za_cons ze_str za_nil))) (za_cons (ze_tup za_nil) za_nil))))) (za_cons ze_str za_nil))) za_nil)))
  (zss_cons (zs_expr (ze_mut PySem.F.plainAttrs_list PySem.F.slot_list_append PySem.F.type_list_append mz_app (zv0 2) (za_cons (ze_tup (za_cons (ze_tup (za_cons (ze_tup (za_cons ze_str za_nil)) (za_cons (ze_op false oz_mul0 (ze_tup (za_cons (ze_tup (za_cons ze_str (za_cons (ze_tup za_nil) za_nil))) za_nil)) ze_int) (za_cons (ze_tup (za_cons ze_str za_nil)) (za_cons (ze_tup za_nil) za_nil))))) (za_cons ze_str za_nil))) za_nil)))
  (zss_cons (zs_expr (ze_mut PySem.F.plainAttrs_list PySem.F.slot_list_append PySem.F.type_list_append mz_app (zv0 2) (za_cons (ze_tup (za_cons (ze_tup (za_cons (ze_tup (za_cons ze_str za_nil)) (za_cons (ze_tup (za_cons (ze_tup (za_cons ze_str (za_cons (ze_tup za_nil) za_nil))) za_nil)) (za_cons (ze_tup (za_cons ze_str za_nil)) (za_cons (ze_op false oz_mul0 (ze_tup (za_cons (zv0 1) za_nil)) ze_int) za_nil))))) (za_cons ze_str za_nil))) za_nil)))
  (zss_cons (zs_expr (ze_mut PySem.F.plainAttrs_list PySem.F.slot_list_append PySem.F.type_list_append mz_app (zv0 2) (za_cons (ze_tup (za_cons (ze_tup (za_cons (ze_tup (za_cons ze_str za_nil)) (za_cons (ze_tup (za_cons (ze_tup (za_cons ze_str (za_cons (ze_tup za_nil) za_nil))) za_nil)) (za_cons (ze_tup (za_cons ze_str za_nil)) (za_cons (ze_tup (za_cons (ze_tup (za_cons ze_str (za_cons ze_str (za_cons ze_int (za_cons ze_int za_nil))))) za_nil)) za_nil))))) (za_cons ze_str za_nil))) za_nil)))
  (zss_cons (zs_expr (ze_mut PySem.F.plainAttrs_list PySem.F.slot_list_append PySem.F.type_list_append mz_app (zv0 2) (za_cons (ze_tup (za_cons (ze_tup (za_cons (ze_tup za_nil) (za_cons ze_non (za_cons ze_non (za_cons ze_non za_nil))))) (za_cons ze_str za_nil))) za_nil)))
  (zss_cons (zs_expr (ze_mut PySem.F.plainAttrs_list PySem.F.slot_list_append PySem.F.type_list_append mz_app (zv0 2) (za_cons (ze_tup (za_cons (ze_tup (za_cons (ze_tup (za_cons ze_str za_nil)) (za_cons (ze_tup (za_cons (ze_tup (za_cons ze_str (za_cons (ze_tup za_nil) za_nil))) za_nil)) (za_cons (ze_tup (za_cons ze_str za_nil)) (za_cons (ze_tup (za_cons (ze_tup (za_cons ze_str (za_cons ze_str (za_cons ze_int (za_cons (ze_op false oz_pow ze_int ze_int) za_nil))))) za_nil)) za_nil))))) (za_cons ze_str za_nil))) za_nil)))
  (zss_one (zs_frz 2 (zs_ret (ze_callB false (cz_all rfl) rfl O.n_all b_all (za_cons (ze_lc (own := [("parts", 3), ("due", 4)]) false rfl nd (zi_seq (zv0 2)) (blk_of rfl) rfl (fun s H C cl fp => (zg_tup (nn := 2) rfl (zgs_cons (zg_name (pg_name nd rfl (.inl rfl)) (by decide)) (zgs_cons (zg_name (pg_name nd rfl (.inl rfl)) (by decide)) zgs_nil)))) (fun s H C cl fp => zts_nil) (fun s H C cl fp => (ze_and (ze_cmp (oz_eq hr.rm.units) (ze_call (z__law_bad_part O) (hr.mono (by first | decide | omega)) rfl O.g__law_bad_part takes_nox (za_cons (zv0 3) za_nil) (len_cons len_nil)) (zv0 4)) (ze_one (ze_call (z__law_is_right O) (hr.mono (by first | decide | omega)) rfl O.g__law_is_right takes_nox (za_cons (zv0 3) za_nil) (len_cons len_nil)))))) za_nil))))))))))))))))
theorem z__law_labels (O : Fx K mg) : FnZ Pq w K mg base 4 (He.ga K "_law_labels") 2 F__law_labels :=
  O.d__law_labels.elim fun fd Fd => fnz_of (k := 3) Fd sc__law_labels (fun kV doc pm an cdv ct us hl => match us, hl with | [_, _], _ => rfl) fun cdv A outer s H E hr =>
    have nd := sc__law_labels.nd
    (zss_cons (zs_set nd rfl (.inl rfl) (ze_lst true za_nil))
  (zss_cons (zs_for (vs := [3]) pass_cx rfl (zi_range1 rfl O.n_range (za_cons (ze_op false oz_add ze_int (ze_call (z__law_draw O) (hr.mono (by first | decide | omega)) rfl O.g__law_draw tk_cx (za_cons (zv0 0) (za_cons (zv0 1) za_nil)) (len_cons (len_cons len_nil)))) za_nil)) (zg_name (pg_name nd rfl (.inl rfl)) (by decide))
  (zss_cons (zs_set nd rfl (.inl rfl) (ze_call (z__law_label O) (hr.mono (by first | decide | omega)) rfl O.g__law_label tk_cx (za_cons (zv0 0) za_nil) (len_cons len_nil)))
  (zss_one (zs_if (zt_cmp oz_nin (zv0 4) (zv0 2))
  (zss_one (zs_expr (ze_mut PySem.F.plainAttrs_list PySem.F.slot_list_append PySem.F.type_list_append mz_app (zv0 2) (za_cons (zv0 4) za_nil))))
  zss_nil))))
  (zss_one (zs_ret (ze_callTy false cz_tuple rfl O.n_tuple b_tuple (za_cons (zv0 2) za_nil))))))
theorem z__law_parts (O : Fx K mg) : FnZ Pq w K mg base 5 (He.ga K "_law_parts") 1 F__law_parts :=
  O.d__law_parts.elim fun fd Fd => fnz_of (k := 4) Fd sc__law_parts (fun kV doc pm an cdv ct us hl => match us, hl with | [_], _ => rfl) fun cdv A outer s H E hr =>
    have nd := sc__law_parts.nd
    (zss_cons (zs_par3 rfl nd rfl rfl rfl (by decide) (by decide) (by decide) rfl rfl rfl (za_cons (ze_call (z__law_labels O) (hr.mono (by first | decide | omega)) rfl O.g__law_labels tk_cx (za_cons (zvc 0) (za_cons ze_int za_nil)) (len_cons (len_cons len_nil))) (za_cons (ze_lst true za_nil) (za_cons (ze_lst true za_nil) za_nil))) rfl)
  (zss_cons (zs_for (vs := [4]) pass_cx rfl (zi_seq (ze_call (z__law_labels O) (hr.mono (by first | decide | omega)) rfl O.g__law_labels tk_cx (za_cons (zvc 0) (za_cons ze_int za_nil)) (len_cons (len_cons len_nil)))) (zg_name (pg_name nd rfl (.inl rfl)) (by decide))
  (zss_cons (zs_setLc (own := [("kind", 11)]) false rfl nd rfl rfl rfl (zi_seq (zv0 1)) (blk_of rfl) rfl (fun s H C cl fp => (zg_name (pg_name nd rfl (.inl rfl)) (by decide))) (fun s H C cl fp => (zts_one (zt_cmp (oz_eq hr.rm.units) (ze_call (z__law_draw O) (hr.mono (by first | decide | omega)) rfl O.g__law_draw takes_nox (za_cons (zvc 0) (za_cons ze_int za_nil)) (len_cons (len_cons len_nil))) ze_int))) (fun s H C cl fp => (zv0 11)))
  (zss_one (zs_expr (ze_mut PySem.F.plainAttrs_list PySem.F.slot_list_append PySem.F.type_list_append mz_app (zv0 2) (za_cons (ze_tup (za_cons (zv0 4) (za_cons (ze_callTy false cz_tuple rfl O.n_tuple b_tuple (za_cons (ze_if (zt_cmp (oz_eq hr.rm.units) (ze_call (z__law_draw O) (hr.mono (by first | decide | omega)) rfl O.g__law_draw tk_cx (za_cons (zvc 0) (za_cons ze_int za_nil)) (len_cons (len_cons len_nil))) ze_int) (ze_rev false (zv0 5)) (zv0 5)) za_nil)) za_nil))) za_nil))))))
  (zss_cons (zs_par2 rfl nd rfl rfl (by decide) rfl rfl (za_cons (ze_call (z__law_labels O) (hr.mono (by first | decide | omega)) rfl O.g__law_labels tk_cx (za_cons (zvc 0) (za_cons ze_int za_nil)) (len_cons (len_cons len_nil))) (za_cons (ze_call (z__law_labels O) (hr.mono (by first | decide | omega)) rfl O.g__law_labels tk_cx (za_cons (zvc 0) (za_cons ze_int za_nil)) (len_cons (len_cons len_nil))) za_nil)) rfl)
  (zss_cons (zs_for (vs := [8]) pass_cx rfl (zi_range1 rfl O.n_range (za_cons (ze_call (z__law_some O) (hr.mono (by first | decide | omega)) rfl O.g__law_some tk_cx (za_cons (zvc 0) (za_cons (ze_lst false (za_cons ze_int (za_cons ze_int (za_cons ze_int (za_cons ze_int (za_cons ze_int za_nil)))))) za_nil)) (len_cons (len_cons len_nil))) za_nil)) (zg_name (pg_name nd rfl (.inl rfl)) (by decide))
  (zss_cons (zs_set nd rfl (.inl rfl) (ze_call (z__law_draw O) (hr.mono (by first | decide | omega)) rfl O.g__law_draw tk_cx (za_cons (zvc 0) (za_cons ze_int za_nil)) (len_cons (len_cons len_nil))))
  (zss_cons (zs_set nd rfl (.inl rfl) (ze_if (zt_cmp oz_gt (ze_call (z__law_draw O) (hr.mono (by first | decide | omega)) rfl O.g__law_draw tk_cx (za_cons (zvc 0) (za_cons ze_int za_nil)) (len_cons (len_cons len_nil))) ze_int) (ze_op false oz_add (zv0 9) (ze_call (z__law_draw O) (hr.mono (by first | decide | omega)) rfl O.g__law_draw tk_cx (za_cons (zvc 0) (za_cons ze_int za_nil)) (len_cons (len_cons len_nil)))) ze_int))
  (zss_one (zs_expr (ze_mut PySem.F.plainAttrs_list PySem.F.slot_list_append PySem.F.type_list_append mz_app (zv0 3) (za_cons (ze_tup (za_cons (ze_call (z__law_some O) (hr.mono (by first | decide | omega)) rfl O.g__law_some tk_cx (za_cons (zvc 0) (za_cons (zv0 6) za_nil)) (len_cons (len_cons len_nil))) (za_cons (ze_call (z__law_some O) (hr.mono (by first | decide | omega)) rfl O.g__law_some tk_cx (za_cons (zvc 0) (za_cons (zv0 7) za_nil)) (len_cons (len_cons len_nil))) (za_cons (zv0 9) (za_cons (zv0 10) za_nil))))) za_nil)))))))
  (zss_one (zs_ret (ze_tup (za_cons (zv0 1) (za_cons (ze_callTy false cz_tuple rfl O.n_tuple b_tuple (za_cons (zv0 2) za_nil)) (za_cons (ze_call (z__law_labels O) (hr.mono (by first | decide | omega)) rfl O.g__law_labels tk_cx (za_cons (zvc 0) (za_cons ze_int za_nil)) (len_cons (len_cons len_nil))) (za_cons (ze_callTy false cz_tuple rfl O.n_tuple b_tuple (za_cons (zv0 3) za_nil)) za_nil)))))))))))
theorem z_law (O : Fx K mg) : FnZ Pq w K mg base 25 (He.ga K "law") 1 F_law :=
  O.d_law.elim fun fd Fd => fnz_of (k := 24) Fd sc_law (fun kV doc pm an cdv ct us hl => match us, hl with | [_], _ => rfl) fun cdv A outer s H E hr =>
    have nd := sc_law.nd
    (zss_cons (zs_set nd rfl (.inl rfl) (ze_call (z__law_hand O) (hr.mono (by first | decide | omega)) rfl O.g__law_hand tk_cx (za_cons (zv0 0) za_nil) (len_cons len_nil)))
  (zss_cons (zs_for (vs := [2]) pass_cx rfl (zi_range1 rfl O.n_range (za_cons ze_int za_nil)) (zg_name (pg_name nd rfl (.inl rfl)) (by decide))
  (zss_cons (zs_set nd rfl (.inl rfl) (ze_call (z__law_parts O) (hr.mono (by first | decide | omega)) rfl O.g__law_parts tk_cx (za_cons (zv0 1) za_nil) (len_cons len_nil)))
  (zss_cons (zs_if (zt_not (zt_tru (ze_call (z__law_is_right O) (hr.mono (by first | decide | omega)) rfl O.g__law_is_right tk_cx (za_cons (zv0 3) za_nil) (len_cons len_nil))))
  (zss_one (zs_ret ze_bl))
  zss_nil)
  (zss_cons (zs_for (vs := [4]) pass_cx rfl (zi_range1 rfl O.n_range (za_cons ze_int za_nil)) (zg_name (pg_name nd rfl (.inl rfl)) (by decide))
  (zss_cons (zs_set nd rfl (.inl rfl) (zv0 3))
  (zss_cons (zs_for (vs := [6]) pass_cx rfl (zi_range1 rfl O.n_range (za_cons (ze_op false oz_add ze_int (ze_call (z__law_draw O) (hr.mono (by first | decide | omega)) rfl O.g__law_draw tk_cx (za_cons (zv0 1) (za_cons ze_int za_nil)) (len_cons (len_cons len_nil)))) za_nil)) (zg_name (pg_name nd rfl (.inl rfl)) (by decide))
  (zss_cons (zs_set nd rfl (.inl rfl) (ze_call (z__law_draw O) (hr.mono (by first | decide | omega)) rfl O.g__law_draw tk_cx (za_cons (zv0 1) (za_cons ze_int za_nil)) (len_cons (len_cons len_nil))))
  (zss_one (zs_set nd rfl (.inl rfl) (ze_op false oz_add (ze_op false oz_add (ze_sl false (zv0 5) zo_none (zo_some (zv0 7))) (ze_tup (za_cons (ze_call (z__law_bent O 20) (hr.mono (by first | decide | omega)) rfl O.g__law_bent tk_cx (za_cons (zv0 1) (za_cons (ze_ix iz_ix (zv0 5) (zv0 7)) za_nil)) (len_cons (len_cons len_nil))) za_nil))) (ze_sl false (zv0 5) (zo_some (ze_op false oz_add (zv0 7) ze_int)) zo_none))))))
  (zss_cons (zs_if (zt_not (zt_tru (ze_call (z__law_is_right O) (hr.mono (by first | decide | omega)) rfl O.g__law_is_right tk_cx (za_cons (zv0 5) za_nil) (len_cons len_nil))))
  (zss_one (zs_ret ze_bl))
  zss_nil)
  (zss_one (zs_if (ZW.zt (zw_and (zt_cmp oz_is (ze_call (z__law_bad_part O) (hr.mono (by first | decide | omega)) rfl O.g__law_bad_part tk_cx (za_cons (zv0 5) za_nil) (len_cons len_nil)) ze_non) (zw_and1 (zt_not (zt_tru (ze_call (z__law_equal_right O) (hr.mono (by first | decide | omega)) rfl O.g__law_equal_right tk_cx (za_cons (zv0 3) (za_cons (zv0 5) za_nil)) (len_cons (len_cons len_nil))))))))
  (zss_one (zs_ret ze_bl))
  zss_nil))))))
  (zss_one (zs_if (zt_not (zt_tru (ze_call (z__law_equal_right O) (hr.mono (by first | decide | omega)) rfl O.g__law_equal_right tk_cx (za_cons (zv0 3) (za_cons (ze_call (z__law_parts O) (hr.mono (by first | decide | omega)) rfl O.g__law_parts tk_cx (za_cons (zv0 1) za_nil) (len_cons len_nil)) za_nil)) (len_cons (len_cons len_nil)))))
  (zss_one (zs_ret ze_bl))
  zss_nil))))))
  (zss_one (zs_ret (ze_call0 (z__law_known_right O) (hr.mono (by first | decide | omega)) rfl O.g__law_known_right tk_cx)))))
end
abbrev si_BadProgramme : Stmt := inClass (top 12) 0
theorem is_BadProgramme : InitS Pq.main.file "part" True "BadProgramme" si_BadProgramme := ⟨⟨argZ si_BadProgramme, "part", _, _, _, _, _, _, _, _, _, _, rfl, rfl, rfl, rfl, rfl, rfl, rfl, rfl, by decide +kernel, rfl, by decide +kernel, rfl, rfl, fun nm qual cl kV doc pm an cdv ct us hl => match us, hl with | [_, _], _ => rfl, fun nm qual cl kV doc pm an cdv ct L f => ⟨rfl, rfl, rfl, rfl⟩⟩⟩
def dd__law_int : He.DefD := defD ("_law_int", none) "_law_int" "_law_int" st__law_int
def dd__law_is_day : He.DefD := defD ("_law_is_day", none) "_law_is_day" "_law_is_day" st__law_is_day
def dd__law_is_label : He.DefD := defD ("_law_is_label", none) "_law_is_label" "_law_is_label" st__law_is_label
def dd__law_are_houses : He.DefD := defD ("_law_are_houses", none) "_law_are_houses" "_law_are_houses" st__law_are_houses
def dd__law_are_labels : He.DefD := defD ("_law_are_labels", none) "_law_are_labels" "_law_are_labels" st__law_are_labels
def dd__law_are_shelves : He.DefD := defD ("_law_are_shelves", none) "_law_are_shelves" "_law_are_shelves" st__law_are_shelves
def dd__law_bad_part : He.DefD := defD ("_law_bad_part", none) "_law_bad_part" "_law_bad_part" st__law_bad_part
def dd__law_draw : He.DefD := defD ("_law_draw", none) "_law_draw" "_law_draw" st__law_draw
def dd__law_some : He.DefD := defD ("_law_some", none) "_law_some" "_law_some" st__law_some
def dd__law_label : He.DefD := defD ("_law_label", none) "_law_label" "_law_label" st__law_label
def dd__law_deep : He.DefD := defD ("_law_deep", none) "_law_deep" "_law_deep" st__law_deep
def dd__law_odd : He.DefD := defD ("_law_odd", none) "_law_odd" "_law_odd" st__law_odd
def dd__law_bent : He.DefD := defD ("_law_bent", none) "_law_bent" "_law_bent" st__law_bent
def dd_Programme_C_all_parts : He.DefD := defD ("Programme", some "all_parts") "all_parts" "Programme.all_parts" st_Programme_C_all_parts
def dd_Programme_C_u_eq_u : He.DefD := defD ("Programme", some "__eq__") "__eq__" "Programme.__eq__" st_Programme_C_u_eq_u
def dd_is_integer : He.DefD := defD ("is_integer", none) "is_integer" "is_integer" st_is_integer
def dd_is_from_to : He.DefD := defD ("is_from_to", none) "is_from_to" "is_from_to" st_is_from_to
def dd_is_day : He.DefD := defD ("is_day", none) "is_day" "is_day" st_is_day
def dd_is_label : He.DefD := defD ("is_label", none) "is_label" "is_label" st_is_label
def dd_is_tuple_of : He.DefD := defD ("is_tuple_of", none) "is_tuple_of" "is_tuple_of" st_is_tuple_of
def dd_is_stay : He.DefD := defD ("is_stay", none) "is_stay" "is_stay" st_is_stay
def dd_are_houses : He.DefD := defD ("are_houses", none) "are_houses" "are_houses" st_are_houses
def dd_are_labels : He.DefD := defD ("are_labels", none) "are_labels" "are_labels" st_are_labels
def dd_is_shelf_of : He.DefD := defD ("is_shelf_of", none) "is_shelf_of" "is_shelf_of" st_is_shelf_of
def dd_are_shelves : He.DefD := defD ("are_shelves", none) "are_shelves" "are_shelves" st_are_shelves
def dd_Programme_C_u_init_u : He.DefD := defD ("Programme", some "__init__") "__init__" "Programme.__init__" st_Programme_C_u_init_u
def dd__law_is : He.DefD := defD ("_law_is", none) "_law_is" "_law_is" st__law_is
def dd__law_equal_right : He.DefD := defD ("_law_equal_right", none) "_law_equal_right" "_law_equal_right" st__law_equal_right
def dd__law_hand : He.DefD := defD ("_law_hand", none) "_law_hand" "_law_hand" st__law_hand
def dd__law_told : He.DefD := defD ("_law_told", none) "_law_told" "_law_told" st__law_told
def dd__law_is_right : He.DefD := defD ("_law_is_right", none) "_law_is_right" "_law_is_right" st__law_is_right
def dd__law_known_right : He.DefD := defD ("_law_known_right", none) "_law_known_right" "_law_known_right" st__law_known_right
def dd__law_labels : He.DefD := defD ("_law_labels", none) "_law_labels" "_law_labels" st__law_labels
def dd__law_parts : He.DefD := defD ("_law_parts", none) "_law_parts" "_law_parts" st__law_parts
def dd_law : He.DefD := defD ("law", none) "law" "law" st_law
def fn : List He.DefD := [dd__law_int, dd__law_is_day, dd__law_is_label, dd__law_are_houses, dd__law_are_labels, dd__law_are_shelves, dd__law_bad_part, dd__law_draw, dd__law_some, dd__law_label, dd__law_deep, dd__law_odd, dd__law_bent, dd_Programme_C_all_parts, dd_Programme_C_u_eq_u, dd_is_integer, dd_is_from_to, dd_is_day, dd_is_label, dd_is_tuple_of, dd_is_stay, dd_are_houses, dd_are_labels, dd_is_shelf_of, dd_are_shelves, dd_Programme_C_u_init_u, dd__law_is, dd__law_equal_right, dd__law_hand, dd__law_told, dd__law_is_right, dd__law_known_right, dd__law_labels, dd__law_parts, dd_law]
def ins : List (Str × Stmt) := [("BadProgramme", si_BadProgramme)]
def fz : List Fz := [
  .fa (.free "abs"),
  .fa (.free "all"),
  .fa (.free "bool"),
  .fa (.free "int"),
  .fa (.free "isinstance"),
  .fa (.free "len"),
  .fa (.free "list"),
  .fa (.free "range"),
  .fa (.free "repr"),
  .fa (.free "set"),
  .fa (.free "str"),
  .fa (.free "tuple"),
  .fa (.free "zip"),
  .fa (.glo "BadProgramme"),
  .fa (.glo "PointError"),
  .fa (.glo "Programme"),
  .fa (.glo "_law_are_houses"),
  .fa (.glo "_law_are_labels"),
  .fa (.glo "_law_are_shelves"),
  .fa (.glo "_law_bad_part"),
  .fa (.glo "_law_bent"),
  .fa (.glo "_law_deep"),
  .fa (.glo "_law_draw"),
  .fa (.glo "_law_equal_right"),
  .fa (.glo "_law_hand"),
  .fa (.glo "_law_int"),
  .fa (.glo "_law_is"),
  .fa (.glo "_law_is_day"),
  .fa (.glo "_law_is_label"),
  .fa (.glo "_law_is_right"),
  .fa (.glo "_law_known_right"),
  .fa (.glo "_law_label"),
  .fa (.glo "_law_labels"),
  .fa (.glo "_law_odd"),
  .fa (.glo "_law_parts"),
  .fa (.glo "_law_some"),
  .fa (.glo "_law_told"),
  .fa (.glo "are_houses"),
  .fa (.glo "are_labels"),
  .fa (.glo "are_shelves"),
  .fa (.glo "is_day"),
  .fa (.glo "is_from_to"),
  .fa (.glo "is_integer"),
  .fa (.glo "is_label"),
  .fa (.glo "is_shelf_of"),
  .fa (.glo "is_stay"),
  .fa (.glo "is_tuple_of"),
  .fa (.str "LETTERS" "abcdefghijklmnopqrstuvwxyz"),
  .fa (.int "MOST_DAY" (999999)),
  .fa (.int "MOST_HOUSES" (20)),
  .fa (.int "MOST_KINDS" (8)),
  .fa (.int "MOST_PARTNERS" (8)),
  .fa (.int "MOST_SHELVES" (8)),
  .fa (.int "MOST_SIGNS" (10)),
  .kits kits,
  .ins "Programme",
  .exc "PointError",
  .exc "BadProgramme",
  .fa (.noat "Programme" "houses"),
  .fa (.noat "Programme" "kinds"),
  .fa (.noat "Programme" "partners"),
  .fa (.noat "Programme" "shelves"),
  .fa (.mkr "Programme"),
  .fa (.meth "Programme" "all_parts"),
  .init Pq.main.file "BadProgramme" "part",
  .fa (.exm "PointError" "BadProgramme" false),
  .fa (.exm "BadProgramme" "BadProgramme" true),
  .fa (.exm "PointError" "PointError" true),
  .fa (.exm "BadProgramme" "PointError" true),
  .xf "BadProgramme" "part",
  .sm,
  .eq "Programme" (eqTs "Programme"),
  .fa (.glo "law")]
theorem fx {K : PySem.W.Frag} {h : Heap} {mg : Str → Option Value} (X : K.In h) (G : h.Ns mainGlobals mg) (c : SaysZ fz fn ins K) : Fx K mg where
  n_abs := He.free_ok X G (c.fact (f := .fa (.free "abs")) 0)
  n_all := He.free_ok X G (c.fact (f := .fa (.free "all")) 1)
  n_bool := He.free_ok X G (c.fact (f := .fa (.free "bool")) 2)
  n_int := He.free_ok X G (c.fact (f := .fa (.free "int")) 3)
  n_isinstance := He.free_ok X G (c.fact (f := .fa (.free "isinstance")) 4)
  n_len := He.free_ok X G (c.fact (f := .fa (.free "len")) 5)
  n_list := He.free_ok X G (c.fact (f := .fa (.free "list")) 6)
  n_range := He.free_ok X G (c.fact (f := .fa (.free "range")) 7)
  n_repr := He.free_ok X G (c.fact (f := .fa (.free "repr")) 8)
  n_set := He.free_ok X G (c.fact (f := .fa (.free "set")) 9)
  n_str := He.free_ok X G (c.fact (f := .fa (.free "str")) 10)
  n_tuple := He.free_ok X G (c.fact (f := .fa (.free "tuple")) 11)
  n_zip := He.free_ok X G (c.fact (f := .fa (.free "zip")) 12)
  g_BadProgramme := He.glo_ok X G (c.fact (f := .fa (.glo "BadProgramme")) 13)
  g_PointError := He.glo_ok X G (c.fact (f := .fa (.glo "PointError")) 14)
  g_Programme := He.glo_ok X G (c.fact (f := .fa (.glo "Programme")) 15)
  g__law_are_houses := He.glo_ok X G (c.fact (f := .fa (.glo "_law_are_houses")) 16)
  g__law_are_labels := He.glo_ok X G (c.fact (f := .fa (.glo "_law_are_labels")) 17)
  g__law_are_shelves := He.glo_ok X G (c.fact (f := .fa (.glo "_law_are_shelves")) 18)
  g__law_bad_part := He.glo_ok X G (c.fact (f := .fa (.glo "_law_bad_part")) 19)
  g__law_bent := He.glo_ok X G (c.fact (f := .fa (.glo "_law_bent")) 20)
  g__law_deep := He.glo_ok X G (c.fact (f := .fa (.glo "_law_deep")) 21)
  g__law_draw := He.glo_ok X G (c.fact (f := .fa (.glo "_law_draw")) 22)
  g__law_equal_right := He.glo_ok X G (c.fact (f := .fa (.glo "_law_equal_right")) 23)
  g__law_hand := He.glo_ok X G (c.fact (f := .fa (.glo "_law_hand")) 24)
  g__law_int := He.glo_ok X G (c.fact (f := .fa (.glo "_law_int")) 25)
  g__law_is := He.glo_ok X G (c.fact (f := .fa (.glo "_law_is")) 26)
  g__law_is_day := He.glo_ok X G (c.fact (f := .fa (.glo "_law_is_day")) 27)
  g__law_is_label := He.glo_ok X G (c.fact (f := .fa (.glo "_law_is_label")) 28)
  g__law_is_right := He.glo_ok X G (c.fact (f := .fa (.glo "_law_is_right")) 29)
  g__law_known_right := He.glo_ok X G (c.fact (f := .fa (.glo "_law_known_right")) 30)
  g__law_label := He.glo_ok X G (c.fact (f := .fa (.glo "_law_label")) 31)
  g__law_labels := He.glo_ok X G (c.fact (f := .fa (.glo "_law_labels")) 32)
  g__law_odd := He.glo_ok X G (c.fact (f := .fa (.glo "_law_odd")) 33)
  g__law_parts := He.glo_ok X G (c.fact (f := .fa (.glo "_law_parts")) 34)
  g__law_some := He.glo_ok X G (c.fact (f := .fa (.glo "_law_some")) 35)
  g__law_told := He.glo_ok X G (c.fact (f := .fa (.glo "_law_told")) 36)
  g_are_houses := He.glo_ok X G (c.fact (f := .fa (.glo "are_houses")) 37)
  g_are_labels := He.glo_ok X G (c.fact (f := .fa (.glo "are_labels")) 38)
  g_are_shelves := He.glo_ok X G (c.fact (f := .fa (.glo "are_shelves")) 39)
  g_is_day := He.glo_ok X G (c.fact (f := .fa (.glo "is_day")) 40)
  g_is_from_to := He.glo_ok X G (c.fact (f := .fa (.glo "is_from_to")) 41)
  g_is_integer := He.glo_ok X G (c.fact (f := .fa (.glo "is_integer")) 42)
  g_is_label := He.glo_ok X G (c.fact (f := .fa (.glo "is_label")) 43)
  g_is_shelf_of := He.glo_ok X G (c.fact (f := .fa (.glo "is_shelf_of")) 44)
  g_is_stay := He.glo_ok X G (c.fact (f := .fa (.glo "is_stay")) 45)
  g_is_tuple_of := He.glo_ok X G (c.fact (f := .fa (.glo "is_tuple_of")) 46)
  c_LETTERS := He.str_ok X G (c.fact (f := .fa (.str "LETTERS" "abcdefghijklmnopqrstuvwxyz")) 47)
  c_MOST_DAY := He.int_ok X G (c.fact (f := .fa (.int "MOST_DAY" (999999))) 48)
  c_MOST_HOUSES := He.int_ok X G (c.fact (f := .fa (.int "MOST_HOUSES" (20))) 49)
  c_MOST_KINDS := He.int_ok X G (c.fact (f := .fa (.int "MOST_KINDS" (8))) 50)
  c_MOST_PARTNERS := He.int_ok X G (c.fact (f := .fa (.int "MOST_PARTNERS" (8))) 51)
  c_MOST_SHELVES := He.int_ok X G (c.fact (f := .fa (.int "MOST_SHELVES" (8))) 52)
  c_MOST_SIGNS := He.int_ok X G (c.fact (f := .fa (.int "MOST_SIGNS" (10))) 53)
  kits := kitsB_ok (c.fact (f := .kits kits) 54)
  ins := con_all ⟨insB_ok (c.fact (f := .ins "Programme") 55), True.intro⟩
  exc := con_all ⟨excB_ok (c.fact (f := .exc "PointError") 56), excB_ok (c.fact (f := .exc "BadProgramme") 57), True.intro⟩
  f_houses := ⟨con_all ⟨(insB_ok (c.fact (f := .ins "Programme") 55)).cl, True.intro⟩, con_all ⟨He.noat_ok (c.fact (f := .fa (.noat "Programme" "houses")) 58), True.intro⟩⟩
  f_kinds := ⟨con_all ⟨(insB_ok (c.fact (f := .ins "Programme") 55)).cl, True.intro⟩, con_all ⟨He.noat_ok (c.fact (f := .fa (.noat "Programme" "kinds")) 59), True.intro⟩⟩
  f_partners := ⟨con_all ⟨(insB_ok (c.fact (f := .ins "Programme") 55)).cl, True.intro⟩, con_all ⟨He.noat_ok (c.fact (f := .fa (.noat "Programme" "partners")) 60), True.intro⟩⟩
  f_shelves := ⟨con_all ⟨(insB_ok (c.fact (f := .ins "Programme") 55)).cl, True.intro⟩, con_all ⟨He.noat_ok (c.fact (f := .fa (.noat "Programme" "shelves")) 61), True.intro⟩⟩
  mk_Programme := He.mkr_ok (c.fact (f := .fa (.mkr "Programme")) 62)
  cls_Programme := (insB_ok (c.fact (f := .ins "Programme") 55)).cl
  m_Programme_all_parts := He.meth_ok (c.fact (f := .fa (.meth "Programme" "all_parts")) 63)
  x1_BadProgramme := init_x1 (by kernel_rfl) (c.fact (f := .init Pq.main.file "BadProgramme" "part") 64) (c.init_ (p := ("BadProgramme", si_BadProgramme)) 0).1 (dfl_ok (c.init_ (p := ("BadProgramme", si_BadProgramme)) 0).2) is_BadProgramme
  tst_BadProgramme := tab_all ⟨He.exm_ok (c.fact (f := .fa (.exm "PointError" "BadProgramme" false)) 65), He.exm_ok (c.fact (f := .fa (.exm "BadProgramme" "BadProgramme" true)) 66), True.intro⟩
  tst_PointError := tab_all ⟨He.exm_ok (c.fact (f := .fa (.exm "PointError" "PointError" true)) 67), He.exm_ok (c.fact (f := .fa (.exm "BadProgramme" "PointError" true)) 68), True.intro⟩
  xf_part := con_all ⟨xf_ok (c.fact (f := .xf "BadProgramme" "part") 69), True.intro⟩
  sm := sm_ok (c.fact (f := .sm) 70)
  eq_Programme := eqB_ok (c.fact (f := .eq "Programme" (eqTs "Programme")) 71)
  d__law_int := c.def_ (d := dd__law_int) 0
  d__law_is_day := c.def_ (d := dd__law_is_day) 1
  d__law_is_label := c.def_ (d := dd__law_is_label) 2
  d__law_are_houses := c.def_ (d := dd__law_are_houses) 3
  d__law_are_labels := c.def_ (d := dd__law_are_labels) 4
  d__law_are_shelves := c.def_ (d := dd__law_are_shelves) 5
  d__law_bad_part := c.def_ (d := dd__law_bad_part) 6
  d__law_draw := c.def_ (d := dd__law_draw) 7
  d__law_some := c.def_ (d := dd__law_some) 8
  d__law_label := c.def_ (d := dd__law_label) 9
  d__law_deep := c.def_ (d := dd__law_deep) 10
  d__law_odd := c.def_ (d := dd__law_odd) 11
  d__law_bent := c.def_ (d := dd__law_bent) 12
  d_Programme_C_all_parts := c.def_ (d := dd_Programme_C_all_parts) 13
  d_Programme_C_u_eq_u := c.def_ (d := dd_Programme_C_u_eq_u) 14
  d_is_integer := c.def_ (d := dd_is_integer) 15
  d_is_from_to := c.def_ (d := dd_is_from_to) 16
  d_is_day := c.def_ (d := dd_is_day) 17
  d_is_label := c.def_ (d := dd_is_label) 18
  d_is_tuple_of := c.def_ (d := dd_is_tuple_of) 19
  d_is_stay := c.def_ (d := dd_is_stay) 20
  d_are_houses := c.def_ (d := dd_are_houses) 21
  d_are_labels := c.def_ (d := dd_are_labels) 22
  d_is_shelf_of := c.def_ (d := dd_is_shelf_of) 23
  d_are_shelves := c.def_ (d := dd_are_shelves) 24
  d_Programme_C_u_init_u := c.def_ (d := dd_Programme_C_u_init_u) 25
  d__law_is := c.def_ (d := dd__law_is) 26
  d__law_equal_right := c.def_ (d := dd__law_equal_right) 27
  d__law_hand := c.def_ (d := dd__law_hand) 28
  d__law_told := c.def_ (d := dd__law_told) 29
  d__law_is_right := c.def_ (d := dd__law_is_right) 30
  d__law_known_right := c.def_ (d := dd__law_known_right) 31
  d__law_labels := c.def_ (d := dd__law_labels) 32
  d__law_parts := c.def_ (d := dd__law_parts) 33
  d_law := c.def_ (d := dd_law) 34
end K01
set_option Elab.async false
set_option linter.all false
set_option maxRecDepth 100000
set_option maxHeartbeats 1000000
namespace ZL
open PySem PySem.Spec PyProof.Rows L2
@[simp] theorem eqD_int (h : Hv) (i j : Int) : eqD h (.int i) (.int j) = some (decide (i = j)) := by
  simp [eqD, toD, SeqAt.shaped, PyData.eqv, PyData.canLay0, PyData.depth]
  rfl
@[simp] theorem eqD_bl (h : Hv) (i j : Bool) : eqD h (.bl i) (.bl j) = some (decide (i = j)) := by
  cases i <;> cases j <;> simp [eqD, toD, SeqAt.shaped, PyData.eqv, PyData.canLay0, PyData.depth] <;> rfl
@[simp] theorem zYes_eq {s : Sg} {h : Hv} : zYes s h = .ok true h := rfl
@[simp] theorem wipe_nil {s : Sg} : wipeZ s [] = s := rfl
@[simp] theorem wipe_cons {s : Sg} {v : Nat} {vs : List Nat} : wipeZ s (v :: vs) = (wipeZ s vs).set v none := rfl
section
variable {h : Hv} {i j : Int} {xs ys : List Z} {x y : Z} {b k : Bool} {a c : Str}
@[simp] theorem eqZ_int : eqZ h (.int i) (.int j) = some (.val (.bl (decide (i = j)))) := by simp [eqZ]
@[simp] theorem eqZ_bl : eqZ h (.bl b) (.bl k) = some (.val (.bl (decide (b = k)))) := by simp [eqZ]
@[simp] theorem neZ_int : neZ h (.int i) (.int j) = some (.val (.bl (!decide (i = j)))) := by simp [neZ]
@[simp] theorem neZ_bl : neZ h (.bl b) (.bl k) = some (.val (.bl (!decide (b = k)))) := by simp [neZ]
@[simp] theorem ltZ_int : ltZ h (.int i) (.int j) = some (.val (.bl (decide (i < j)))) := rfl
@[simp] theorem leZ_int : leZ h (.int i) (.int j) = some (.val (.bl (decide (i ≤ j)))) := rfl
@[simp] theorem gtZ_int : gtZ h (.int i) (.int j) = some (.val (.bl (decide (j < i)))) := rfl
@[simp] theorem geZ_int : geZ h (.int i) (.int j) = some (.val (.bl (decide (j ≤ i)))) := rfl
@[simp] theorem isZ_non : isZ h x .non = some (.val (.bl (isNon x))) := by cases x <;> rfl
@[simp] theorem isnZ_non : isnZ h x .non = some (.val (.bl (!isNon x))) := by cases x <;> rfl
@[simp] theorem addZ_int : addZ h (.int i) (.int j) = some (.val (.int (i + j))) := rfl
@[simp] theorem subZ_int : subZ h (.int i) (.int j) = some (.val (.int (i - j))) := rfl
@[simp] theorem modZ_int : modZ h (.int i) (.int j) = if 0 < j then some (.val (.int (i % j))) else none := rfl
@[simp] theorem fdivZ_int : fdivZ h (.int i) (.int j) = if 0 < j ∧ j < 1073741824 then some (.val (.int (i / j))) else none := rfl
@[simp] theorem mul0Z_int : mul0Z h (.int i) (.int j) = if (-(2 ^ 64) < i ∧ i < 2 ^ 64) ∨ (-(2 ^ 64) < j ∧ j < 2 ^ 64) then some (.val (.int (i * j))) else none := rfl
@[simp] theorem intZ_int : intZ h [.int i] = some (.val (.int i)) := rfl
@[simp] theorem absZ_int : absZ h [.int i] = some (.val (.int (if i < 0 then -i else i))) := rfl
theorem lenZ_of {z : Z} {n : Nat} (e : lenN h z = some n) : ZL.lenZ h [z] = some (.val (.int n)) := by
  simp only [ZL.lenZ, e]; rfl
theorem lenZ_no {z : Z} (e : lenN h z = none) : ZL.lenZ h [z] = none := by
  simp only [ZL.lenZ, e]; rfl
@[simp] theorem lenZ_str : ZL.lenZ h [.str a] = if a.length ≤ sizeLine then some (.val (.int a.length)) else none := by
  have e : lenN h (.str a) = if a.length ≤ sizeLine then some a.length else none := rfl
  split <;> rename_i hs
  · rw [if_pos hs] at e; exact lenZ_of e
  · rw [if_neg hs] at e; exact lenZ_no e
@[simp] theorem lenZ_tup : ZL.lenZ h [.tup xs] = some (.val (.int xs.length)) := lenZ_of rfl
@[simp] theorem lenZ_lst : ZL.lenZ h [.lst xs] = some (.val (.int xs.length)) := lenZ_of rfl
theorem lenZ_rl {n : Nat} (e : h[n]? = some (.lst xs)) : ZL.lenZ h [.ref n] = some (.val (.int xs.length)) := lenZ_of (by
  show (match h[n]? with
    | some (.lst xs) => some xs.length
    | some (.dk ks _) => some ks.length
    | some (.dt ks _) => some ks.length
    | _ => none) = _
  rw [e])
theorem lenZ_rd {n : Nat} {ks : List Key} (e : h[n]? = some (.dk ks xs)) : ZL.lenZ h [.ref n] = some (.val (.int ks.length)) := lenZ_of (by
  show (match h[n]? with
    | some (.lst xs) => some xs.length
    | some (.dk ks _) => some ks.length
    | some (.dt ks _) => some ks.length
    | _ => none) = _
  rw [e])
@[simp] theorem ixZ_tup : ixZ h (.tup xs) (.int i) = (atI xs i).map .val := rfl
@[simp] theorem ixZ_lst : ixZ h (.lst xs) (.int i) = (atI xs i).map .val := rfl
@[simp] theorem truZ_bl : truZ h (.bl b) = some b := rfl
@[simp] theorem isNon_non : isNon .non = true := rfl
@[simp] theorem isNon_str : isNon (.str a) = false := rfl
@[simp] theorem isNon_tup : isNon (.tup xs) = false := rfl
@[simp] theorem items_tup : itemsZ (.tup xs) = some xs := rfl
@[simp] theorem items_lst : itemsZ (.lst xs) = some xs := rfl
@[simp] theorem seqOf_tup : seqOf h (.tup xs) = some xs := rfl
@[simp] theorem seqOf_lst : seqOf h (.lst xs) = some xs := rfl
@[simp] theorem atI_0 : atI (x :: xs) 0 = some x := by simp [atI, ixN]
@[simp] theorem atI_1 : atI (x :: y :: xs) 1 = some y := by simp [atI, ixN]; rw [if_pos (by omega)]; rfl
@[simp] theorem atI_2 {z : Z} : atI (x :: y :: z :: xs) 2 = some z := by simp [atI, ixN]; rw [if_pos (by omega)]; rfl
@[simp] theorem atI_3 {z w : Z} : atI (x :: y :: z :: w :: xs) 3 = some w := by simp [atI, ixN]; rw [if_pos (by omega)]; rfl
end
theorem szL : sizeLine = 16777216 := rfl
/-! ### what a run ends in -/
def Res.wp {α : Type} (r : Res α) (Q : α → Hv → Prop) : Prop := match r with
  | .ok a h => Q a h
  | _ => False
def RS.wp (r : RS) (N : Sg → Hv → Prop) (R : Z → Hv → Prop) : Prop := match r with
  | .nx s h => N s h
  | .rt z h => R z h
  | _ => False
section
variable {α : Type} {s : Sg} {h : Hv} {Q : Z → Hv → Prop} {QT : Bool → Hv → Prop} {QA : List Z → Hv → Prop} {N : Sg → Hv → Prop} {R : Z → Hv → Prop}
theorem Res.wp_eq {r : Res α} {a : α} (e : r.wp fun b h' => b = a ∧ h' = h) : r = .ok a h := by
  cases r with
  | ok b h' => obtain ⟨rfl, rfl⟩ := e; rfl
  | exc => exact e.elim
  | bad => exact e.elim
theorem Res.wp_ex {r : Res α} {P : α → Hv → Prop} (e : r.wp P) : ∃ a h', r = .ok a h' ∧ P a h' := by
  cases r with
  | ok b h' => exact ⟨b, h', rfl, e⟩
  | exc => exact e.elim
  | bad => exact e.elim
theorem Res.wp_mono {r : Res α} {P P' : α → Hv → Prop} (e : r.wp P) (hm : ∀ a h, P a h → P' a h) : r.wp P' := by
  cases r with
  | ok b h' => exact hm _ _ e
  | exc => exact e.elim
  | bad => exact e.elim
theorem RS.wp_mono {r : RS} {N' : Sg → Hv → Prop} {R' : Z → Hv → Prop} (e : r.wp N R) (hn : ∀ s h, N s h → N' s h) (hr : ∀ z h, R z h → R' z h) : r.wp N' R' := by
  cases r with
  | nx s h' => exact hn _ _ e
  | rt z h' => exact hr _ _ e
  | bk => exact e.elim
  | ct => exact e.elim
  | exc => exact e.elim
  | bad => exact e.elim
@[simp] theorem wp_ok (a : α) (Q : α → Hv → Prop) : (Res.ok a h).wp Q = Q a h := rfl
@[simp] theorem wp_bind {β : Type} (r : Res α) (k : α → Hv → Res β) (Q : β → Hv → Prop) : (r.bind k).wp Q = r.wp fun a h1 => (k a h1).wp Q := by cases r <;> rfl
@[simp] theorem wp_toS (r : Res α) (k : α → Hv → RS) : (r.toS s k).wp N R = r.wp fun a h1 => (k a h1).wp N R := by cases r <;> rfl
@[simp] theorem wp_nx : (RS.nx s h).wp N R = N s h := rfl
@[simp] theorem wp_rt (z : Z) : (RS.rt z h).wp N R = R z h := rfl
@[simp] theorem wp_seq (t u : MS) : (zSeq t u s h).wp N R = (t s h).wp (fun s1 h1 => (u s1 h1).wp N R) R := by
  unfold zSeq; cases t s h <;> rfl
@[simp] theorem wp_if (c : MT) (t u : MS) : (zIf c t u s h).wp N R = (c s h).wp fun b h1 => (b = true → (t s h1).wp N R) ∧ (b = false → (u s h1).wp N R) := by
  unfold zIf; rw [wp_toS]; congr 1; funext b h1; cases b <;> simp
@[simp] theorem wp_nop : (zNop s h).wp N R = N s h := rfl
@[simp] theorem wp_ret (m : ME) : (zRet m s h).wp N R = (m s h).wp fun z h1 => R z h1 := by unfold zRet; simp
@[simp] theorem wp_drop (m : ME) : (zDrop m s h).wp N R = (m s h).wp fun _ h1 => N s h1 := by unfold zDrop; simp
@[simp] theorem wp_c (z : Z) : (zC z s h).wp Q = Q z h := rfl
@[simp] theorem wp_bin (g : Hv → Z → Z → Option Out) (mu : Bool) (a b : ME) : (zBin g mu a b s h).wp Q = (a s h).wp fun x h1 => (b s h1).wp fun y h2 => (Out.go mu h2 (g h2 x y)).wp Q := by unfold zBin; simp
@[simp] theorem wp_un (g : Hv → Z → Option Out) (a : ME) : (zUn g a s h).wp Q = (a s h).wp fun x h1 => (Out.go false h1 (g h1 x)).wp Q := by unfold zUn; simp
@[simp] theorem wp_and (a b : MT) : (zAnd a b s h).wp QT = (a s h).wp fun k h1 => (k = true → (b s h1).wp QT) ∧ (k = false → QT false h1) := by
  unfold zAnd; rw [wp_bind]; congr 1; funext k h1; cases k <;> simp
@[simp] theorem wp_or (a b : MT) : (zOr a b s h).wp QT = (a s h).wp fun k h1 => (k = true → QT true h1) ∧ (k = false → (b s h1).wp QT) := by
  unfold zOr; rw [wp_bind]; congr 1; funext k h1; cases k <;> simp
@[simp] theorem wp_not (a : MT) : (zNot a s h).wp QT = (a s h).wp fun k h1 => QT (!k) h1 := by unfold zNot; simp
@[simp] theorem wp_ifE (t : MT) (a b : ME) : (zIfE t a b s h).wp Q = (t s h).wp fun k h1 => (k = true → (a s h1).wp Q) ∧ (k = false → (b s h1).wp Q) := by
  unfold zIfE; rw [wp_bind]; congr 1; funext k h1; cases k <;> simp
def isBl (Q : Bool → Prop) : Z → Prop
  | .bl k => Q k
  | _ => False
@[simp] theorem isBl_bl (Q : Bool → Prop) (k : Bool) : isBl Q (.bl k) = Q k := rfl
@[simp] theorem wp_tst (m : ME) : (zTst m s h).wp QT = (m s h).wp fun z h1 => isBl (fun k => QT k h1) z := by
  unfold zTst; rw [wp_bind]; congr 1; funext z h1; cases z <;> rfl
@[simp] theorem wp_nil : (zNil s h).wp QA = QA [] h := rfl
@[simp] theorem wp_cons (a : ME) (t : MA) : (zCons a t s h).wp QA = (a s h).wp fun x h1 => (t s h1).wp fun xs h2 => QA (x :: xs) h2 := by unfold zCons; simp
@[simp] theorem wp_tup (t : MA) : (zTup t s h).wp Q = (t s h).wp fun xs h1 => xs.length ≤ sizeLine ∧ Q (.tup xs) h1 := by
  unfold zTup; rw [wp_bind]; congr 1; funext xs h1; split <;> rename_i e <;> simp [e, Res.wp]
@[simp] theorem wp_lstF (t : MA) : (zLst false t s h).wp Q = (t s h).wp fun xs h1 => xs.length ≤ sizeLine ∧ Q (.lst xs) h1 := by
  unfold zLst; rw [wp_bind]; congr 1; funext xs h1; split <;> rename_i e <;> simp only [e, Res.wp, Out.go, true_and, false_and, Bool.false_eq_true, if_true, if_false]
@[simp] theorem wp_lstT (t : MA) : (zLst true t s h).wp Q = (t s h).wp fun xs h1 => xs.length ≤ sizeLine ∧ Q (.ref h1.length) (h1 ++ [.lst xs]) := by
  unfold zLst; rw [wp_bind]; congr 1; funext xs h1; split <;> rename_i e <;> simp only [e, Res.wp, Out.go, true_and, false_and, Bool.false_eq_true, if_true, if_false]
@[simp] theorem wp_chain (g g' : Hv → Z → Z → Option Out) (a b c : ME) : (zChain g g' a b c s h).wp Q = (a s h).wp fun x h1 => (b s h1).wp fun y h2 => (Out.go false h2 (g h2 x y)).wp fun z h3 => isBl (fun k => (k = true → (c s h2).wp fun z h3 => (Out.go false h3 (g' h3 y z)).wp Q) ∧ (k = false → Q (.bl false) h2)) z := by
  unfold zChain; rw [wp_bind]; congr 1; funext x h1; rw [wp_bind]; congr 1; funext y h2
  cases g h2 x y with
  | none => rfl
  | some o => cases o with
    | val z => cases z <;> first | rfl | (rename_i k; cases k <;> simp [Out.go])
    | tup zs => rfl
    | lst zs => rfl
@[simp] theorem wp_andE (a b : ME) : (zAndE a b s h).wp Q = (a s h).wp fun x h1 => isBl (fun k => (k = true → (b s h1).wp Q) ∧ (k = false → Q (.bl false) h1)) x := by
  unfold zAndE; rw [wp_bind]; congr 1; funext x h1; cases x <;> first | rfl | (rename_i k; cases k <;> simp)
@[simp] theorem wp_orE (a b : ME) : (zOrE a b s h).wp Q = (a s h).wp fun x h1 => isBl (fun k => (k = true → Q (.bl true) h1) ∧ (k = false → (b s h1).wp Q)) x := by
  unfold zOrE; rw [wp_bind]; congr 1; funext x h1; cases x <;> first | rfl | (rename_i k; cases k <;> simp)
@[simp] theorem wp_notE (a : ME) : (zNotE a s h).wp Q = (a s h).wp fun x h1 => isBl (fun k => Q (.bl (!k)) h1) x := by
  unfold zNotE; rw [wp_bind]; congr 1; funext x h1; cases x <;> rfl
@[simp] theorem wp_tru (m : ME) : (zTru m s h).wp QT = (m s h).wp fun z h1 => ∃ k, truZ h1 z = some k ∧ QT k h1 := by
  unfold zTru; rw [wp_bind]; congr 1; funext z h1
  cases truZ h1 z <;> simp [Res.wp]
@[simp] theorem wp_callB (g : Hv → List Z → Option Out) (mu : Bool) (t : MA) : (zCallB g mu t s h).wp Q = (t s h).wp fun xs h1 => (Out.go mu h1 (g h1 xs)).wp Q := by unfold zCallB; simp
@[simp] theorem wp_call (F : List Z → Hv → Res Z) (t : MA) : (zCall F t s h).wp Q = (t s h).wp fun xs h1 => (F xs h1).wp Q := by unfold zCall; simp
@[simp] theorem wp_val (mu : Bool) (z : Z) : (Out.go mu h (some (.val z))).wp Q = Q z h := rfl
@[simp] theorem wp_otup (mu : Bool) (zs : List Z) : (Out.go mu h (some (.tup zs))).wp Q = Q (.tup zs) h := rfl
@[simp] theorem wp_olstF (zs : List Z) : (Out.go false h (some (.lst zs))).wp Q = Q (.lst zs) h := rfl
@[simp] theorem wp_olstT (zs : List Z) : (Out.go true h (some (.lst zs))).wp Q = Q (.ref h.length) (h ++ [.lst zs]) := rfl
@[simp] theorem wp_asg1 (m : ME) (i : Nat) : (zAsg m (gOne i) s h).wp N R = (m s h).wp fun z h1 => N (s.set i (some z)) h1 := by
  unfold zAsg; rw [wp_toS]; congr 1
@[simp] theorem wp_asg (m : ME) (g : TgZ) : (zAsg m g s h).wp N R = (m s h).wp fun z h1 => ∃ s1, g z s = some s1 ∧ N s1 h1 := by
  unfold zAsg; rw [wp_toS]; congr 1; funext z h1
  cases g z s <;> simp [RS.wp]
@[simp] theorem wp_set (g : Hv → Z → Z → Z → Option Hv) (mv mo mi : ME) : (zSet g mv mo mi s h).wp N R = (mv s h).wp fun v h1 => (mo s h1).wp fun o h2 => (mi s h2).wp fun i h3 => ∃ h4, g h3 o i v = some h4 ∧ N s h4 := by
  unfold zSet; simp only [wp_toS]; congr 1; funext v h1; congr 1; funext o h2; congr 1; funext i h3
  cases g h3 o i v <;> simp [RS.wp]
@[simp] theorem wp_sl (mu : Bool) (m : ME) (lo hi : MO1) : (zSl mu m lo hi s h).wp Q = (m s h).wp fun z h1 => (lo s h1).wp fun l h2 => (hi s h2).wp fun u h3 => (Out.go mu h3 (slZ h3 z l u)).wp Q := by unfold zSl; simp
@[simp] theorem wp_none (QO : Option Int → Hv → Prop) : (zNone s h).wp QO = QO none h := rfl
def isInt (Q : Int → Prop) : Z → Prop
  | .int k => Q k
  | _ => False
@[simp] theorem isInt_int (Q : Int → Prop) (k : Int) : isInt Q (.int k) = Q k := rfl
@[simp] theorem wp_some (m : ME) (QO : Option Int → Hv → Prop) : (zSome m s h).wp QO = (m s h).wp fun z h1 => isInt (fun i => QO (some i) h1) z := by
  unfold zSome; rw [wp_bind]; congr 1; funext z h1; cases z <;> rfl
@[simp] theorem wp_meth (T : String) (g : Hv → Z → List Z → Option Out) (mu : Bool) (o : ME) (t : MA) : (zMeth T g mu o t s h).wp Q = (o s h).wp fun x h1 => tyIs T h1 x = true ∧ (t s h1).wp fun xs h2 => (Out.go mu h2 (g h2 x xs)).wp Q := by
  unfold zMeth; rw [wp_bind]; congr 1; funext x h1; split <;> rename_i e
  · simp only [wp_bind, e, true_and]
  · simp [e, Res.wp]
@[simp] theorem wp_mut (T : String) (g : Hv → Z → List Z → Option (Z × Hv)) (o : ME) (t : MA) : (zMut T g o t s h).wp Q = (o s h).wp fun x h1 => tyIs T h1 x = true ∧ (t s h1).wp fun xs h2 => ∃ z h3, g h2 x xs = some (z, h3) ∧ Q z h3 := by
  unfold zMut; rw [wp_bind]; congr 1; funext x h1; split
  · rename_i e
    simp only [wp_bind, e, true_and]; congr 1; funext xs h2
    cases g h2 x xs with
    | none => simp [Res.wp]
    | some q =>
      obtain ⟨z, h3⟩ := q
      exact propext ⟨fun q => ⟨_, _, rfl, q⟩, fun ⟨_, _, e, q⟩ => by cases e; exact q⟩
  · rename_i e; simp [e, Res.wp]
@[simp] theorem wp_rev (mu : Bool) (m : ME) : (zRev mu m s h).wp Q = (m s h).wp fun z h1 => (Out.go mu h1 (revZ h1 z)).wp Q := by unfold zRev; simp
@[simp] theorem wp_for (wi : MI) (g : TgZ) (b : MS) : (zFor wi g b s h).wp N R = (wi s h).wp fun zs h1 => (forRun g b zs s h1).wp N R := by unfold zFor; simp
@[simp] theorem wp_lc (mu : Bool) (vs : List Nat) (wi : MI) (g : TgZ) (tt : MT) (te : ME) : (zLc mu vs wi g tt te s h).wp Q = (wi s h).wp fun zs h1 => (lcRun (wipeZ s vs) g tt te zs h1).wp fun ys h2 => (Out.go mu h2 (some (.lst ys))).wp Q := by unfold zLc; simp
@[simp] theorem wp_iseq (m : ME) : (iSeq m s h).wp QA = (m s h).wp fun z h1 => ∃ xs, itemsZ z = some xs ∧ QA xs h1 := by
  unfold iSeq; rw [wp_bind]; congr 1; funext z h1
  cases itemsZ z <;> simp [Res.wp]
@[simp] theorem wp_lenSet (m : ME) : (zLenSet m s h).wp Q = (m s h).wp fun z h1 => ∃ ks, (seqOf h1 z).bind keysZ = some ks ∧ ks.length < 4000 ∧ Q (.int (nubK ks).length) h1 := by
  unfold zLenSet; rw [wp_bind]; congr 1; funext z h1
  cases (seqOf h1 z).bind keysZ with
  | none => simp [Res.wp]
  | some ks => by_cases hk : ks.length < 4000 <;> simp [hk, Res.wp]
theorem wp_var {i : Nat} {z : Z} (e : s[i]? = some (some z)) : (zVar i s h).wp Q = Q z h := by unfold zVar; rw [e]; rfl
@[simp] theorem wp_var0 {a : Z} {r : Sg} : (zVar 0 (some a :: r) h).wp Q = Q a h := rfl
@[simp] theorem wp_varS {i : Nat} {a : Option Z} {r : Sg} : (zVar (i + 1) (a :: r) h).wp Q = (zVar i r h).wp Q := rfl
@[simp] theorem wp_eqE (g : Hv → Z → Z → Res Bool) (f : Bool → Bool) (ma mb : ME) : (zEqE g f ma mb s h).wp Q = (ma s h).wp fun x h1 => (mb s h1).wp fun y h2 => (g h2 x y).wp fun b h3 => Q (.bl (f b)) h3 := by
  unfold zEqE; simp only [wp_bind]; congr 1; funext x h1; congr 1; funext y h2
  cases g h2 x y <;> simp [Res.nox, Res.wp]
theorem run_wp {k : Nat} {m : MS} {zs : List Z} (e : (m (zs.map some ++ List.replicate (k - zs.length) none) h).wp (fun _ h' => (fin h.length .non h').wp Q) (fun z h' => (fin h.length z h').wp Q)) : (ZL.run k m zs h).wp Q := by
  unfold ZL.run
  cases hm : m (zs.map some ++ List.replicate (k - zs.length) none) h <;> rw [hm] at e
  all_goals first | exact e | exact e.elim
@[simp] theorem fin_pure (z : Z) (h : Hv) : fin h.length z h = .ok z h := by unfold fin; split <;> simp
end
theorem lc_one {s : Sg} {i : Nat} {te : ME} {f : Z → Z} {h : Hv} : ∀ {zs : List Z}, (∀ z ∈ zs, te (s.set i (some z)) h = .ok (f z) h) → lcRun s (gOne i) zYes te zs h = .ok (zs.map f) h
  | [], _ => rfl
  | z :: zs, hf => by
    rw [lcRun]
    simp only [gOne, zYes, Res.nox, Res.bind, if_true]
    rw [hf z (by simp)]
    simp only [Res.nox]
    have r := lc_one (zs := zs) (fun y hy => hf y (by simp [hy]))
    rw [r]
    rfl
theorem lc_tp2 {s : Sg} {i j : Nat} {te : ME} {f : Z → Z → Z} {h : Hv} : ∀ {zs : List (Z × Z)}, (∀ z ∈ zs, te ((s.set i (some z.1)).set j (some z.2)) h = .ok (f z.1 z.2) h) → lcRun s (gTp [gOne i, gOne j]) zYes te (zs.map fun q => .tup [q.1, q.2]) h = .ok (zs.map fun q => f q.1 q.2) h
  | [], _ => rfl
  | z :: zs, hf => by
    rw [List.map_cons, lcRun]
    have e : gTp [gOne i, gOne j] (.tup [z.1, z.2]) s = some ((s.set i (some z.1)).set j (some z.2)) := rfl
    rw [e]
    simp only [zYes, Res.nox, Res.bind, if_true]
    rw [hf z (by simp)]
    simp only [Res.nox]
    have r := lc_tp2 (zs := zs) (fun y hy => hf y (by simp [hy]))
    rw [r]
    rfl
theorem bls_map (p : Z → Bool) : ∀ zs : List Z, blsOf (zs.map fun z => .bl (p z)) = some (zs.map p)
  | [] => rfl
  | z :: zs => by rw [List.map_cons, blsOf, bls_map p zs]; rfl
@[simp] theorem all_map (h : Hv) (p : Z → Bool) (zs : List Z) : allZ h [.lst (zs.map fun z => .bl (p z))] = some (.val (.bl (zs.all p))) := by
  simp only [allZ, lstOf, bls_map, Option.map_some, List.all_map]
  rfl
theorem all_lc {vs : List Nat} {wi : MI} {i : Nat} {te : ME} {p : Z → Bool} {s : Sg} {h : Hv} {zs : List Z} (hw : wi s h = .ok zs h) (hf : ∀ z ∈ zs, te ((wipeZ s vs).set i (some z)) h = .ok (.bl (p z)) h) :
    zCallB allZ false (zCons (zLc false vs wi (gOne i) zYes te) zNil) s h = .ok (.bl (zs.all p)) h := by
  simp only [zCallB, zCons, zNil, zLc, hw, Res.bind, lc_one (f := fun z => .bl (p z)) hf, Out.go, Bool.false_eq_true, if_false, all_map]
theorem for_ret {s : Sg} {i : Nat} {body : MS} {p : Z → Bool} {h : Hv} : ∀ {zs : List Z} {w0 : Option Z}, (∀ z ∈ zs, body (s.set i (some z)) h = if p z = true then .nx (s.set i (some z)) h else .rt (.bl false) h) →
    ∃ w, forRun (gOne i) body zs (s.set i w0) h = if zs.all p = true then .nx (s.set i w) h else .rt (.bl false) h
  | [], w0, _ => ⟨w0, rfl⟩
  | z :: zs, w0, hf => by
    obtain ⟨w, r⟩ := for_ret (zs := zs) (w0 := some z) (fun y hy => hf y (by simp [hy]))
    refine ⟨w, ?_⟩
    rw [forRun]
    simp only [gOne, List.set_set]
    rw [hf z (by simp)]
    by_cases hp : p z = true
    · simp only [hp, if_true, List.all_cons, Bool.true_and]
      exact r
    · simp [hp]
theorem for_false {s : Sg} {i : Nat} {body : MS} {p : Z → Bool} {h : Hv} {zs : List Z} (w0 : Option Z) (hs : s = s.set i w0) (hf : ∀ z ∈ zs, body (s.set i (some z)) h = if p z = true then .nx (s.set i (some z)) h else .rt (.bl false) h) :
    ∃ w, forRun (gOne i) body zs s h = if zs.all p = true then .nx (s.set i w) h else .rt (.bl false) h := by
  obtain ⟨w, r⟩ := for_ret (w0 := w0) hf
  rw [← hs] at r
  exact ⟨w, r⟩
/-! the dict's keys are the set's -/
theorem putD_fst (k : Key) (z : Z) (ks : List Key) (vs : List Z) : (putD k z ks vs).1 = metS ks k := by
  unfold putD metS
  split <;> rfl
theorem dc_keys {s : Sg} {i : Nat} {tk tv : ME} {f v : Z → Z} {h : Hv} : ∀ {zs : List Z} {ks : List Key} {a : List Key × List Z}, (∀ z ∈ zs, tk (s.set i (some z)) h = .ok (f z) h ∧ tv (s.set i (some z)) h = .ok (v z) h) → keysZ (zs.map f) = some ks →
    ∃ ws, dcRun s (gOne i) zYes tk tv zs a h = .ok (ks.foldl metS a.1, ws) h
  | [], ks, a, _, hk => by
    cases hk
    exact ⟨a.2, rfl⟩
  | z :: zs, ks, a, hf, hk => by
    rw [List.map_cons, keysZ] at hk
    split at hk
    · rename_i k ks' e1 e2
      cases hk
      obtain ⟨ws, r⟩ := dc_keys (zs := zs) (ks := ks') (a := putD k (v z) a.1 a.2) (fun y hy => hf y (by simp [hy])) e2
      refine ⟨ws, ?_⟩
      rw [dcRun]
      simp only [gOne, zYes, Res.nox, Res.bind, if_true]
      rw [(hf z (by simp)).1]
      simp only [Res.nox]
      rw [(hf z (by simp)).2]
      simp only [Res.nox, e1]
      rw [putD_fst] at r
      exact r
    · cases hk
/-! keys -/
theorem keysZ_len : ∀ {zs : List Z} {ks : List Key}, keysZ zs = some ks → ks.length = zs.length
  | [], _, h => by cases h; rfl
  | z :: zs, ks, h => by
    rw [keysZ] at h
    split at h
    · rename_i e1 e2
      cases h
      simp [keysZ_len e2]
    · cases h
def nodupB (xs : List Z) : Bool := decide ((nubK ((keysZ xs).getD [])).length = xs.length)
end ZL
set_option Elab.async false
set_option linter.all false
set_option maxRecDepth 100000
set_option maxHeartbeats 1000000
namespace ZL
open PySem PySem.Spec PyProof.Rows L2
/-! ### the values that a run of k01 meets -/
/-- a sign that repr shows as itself -/
def okC (c : Nat) : Bool := decide (32 ≤ c ∧ c < 127 ∧ c ≠ 39 ∧ c ≠ 34 ∧ c ≠ 92)
def okS (x : Str) : Bool := x.cps.toList.all fun c => okC c
mutual
def Z.U (n : Nat) : Z → Bool
  | .non => true
  | .bl _ => true
  | .int i => decide (i.natAbs ≤ 10 ^ 31)
  | .str x => decide (x.length ≤ n) && okS x
  | .tup xs => decide (xs.length ≤ n) && Us n xs
  | .lst xs => decide (xs.length ≤ n) && Us n xs
  | .dkf ks vs => ks.isEmpty && vs.isEmpty || (match ks, vs with
    | [.inl 0], [.int 0] => true
    | _, _ => false)
  | _ => false
def Us (n : Nat) : List Z → Bool
  | [] => true
  | z :: zs => z.U n && Us n zs
end
theorem Us_all {n : Nat} : ∀ {xs : List Z}, Us n xs = true ↔ ∀ x ∈ xs, x.U n = true
  | [] => by simp [Us]
  | x :: xs => by simp [Us, Us_all (xs := xs)]
end ZL
set_option Elab.async false
set_option linter.all false
set_option maxRecDepth 100000
set_option maxHeartbeats 1000000
namespace K01
open PySem PySem.Spec PyProof.Rows L2 ZL
def letters : Str := "abcdefghijklmnopqrstuvwxyz"
def labB : Z → Bool
  | .str x => decide (1 ≤ x.length ∧ x.length ≤ 10) && (ZL.signs x).all fun z => match z with
    | .str c => subS c letters
    | _ => false
  | _ => false
def isS : Z → Bool | .str _ => true | _ => false
def isT : Z → Bool | .tup _ => true | _ => false
def isI : Z → Bool | .int _ => true | .bl _ => true | _ => false
def isB : Z → Bool | .bl _ => true | _ => false
theorem isi_str (h : Hv) {z : Z} {n : Nat} (u : z.U n = true) : isiG kits plainCs h [z, .ty "str"] = some (.val (.bl (isS z))) := by
  cases z <;> first | rfl | simp [Z.U] at u
theorem isi_tup (h : Hv) {z : Z} {n : Nat} (u : z.U n = true) : isiG kits plainCs h [z, .ty "tuple"] = some (.val (.bl (isT z))) := by
  cases z <;> first | rfl | simp [Z.U] at u
theorem isi_int (h : Hv) {z : Z} {n : Nat} (u : z.U n = true) : isiG kits plainCs h [z, .ty "int"] = some (.val (.bl (isI z))) := by
  cases z <;> first | rfl | simp [Z.U] at u
theorem isi_bool (h : Hv) {z : Z} {n : Nat} (u : z.U n = true) : isiG kits plainCs h [z, .ty "bool"] = some (.val (.bl (isB z))) := by
  cases z <;> first | rfl | simp [Z.U] at u
theorem lc_lab {x : Str} {h : Hv} {s : Sg} (i : Nat) (hi : i < s.length) : lcRun s (gOne i) zYes (zBin inZ false (zVar i) (zC (.str "abcdefghijklmnopqrstuvwxyz"))) (ZL.signs x) h = .ok ((ZL.signs x).map fun z => .bl (match z with | .str c => subS c letters | _ => false)) h := by
  refine lc_one fun z hz => ?_
  unfold ZL.signs at hz
  simp only [List.mem_map] at hz
  obtain ⟨c, _, rfl⟩ := hz
  refine Res.wp_eq ?_
  simp [wp_var (z := .str ⟨#[c]⟩) (i := i) (s := s.set i (some (.str ⟨#[c]⟩))) (by simp [hi]), inZ, inB]
  rfl
theorem lab_len {x : Str} {n : Nat} (u : (Z.str x).U n = true) (hn : n ≤ 1000) : x.length ≤ sizeLine ∧ itemsZ (.str x) = some (ZL.signs x) := by
  have hx : x.length ≤ n := by simp [Z.U] at u; exact u.1
  have hs : x.length ≤ sizeLine := by rw [szL]; omega
  have hs' : x.cps.size ≤ sizeLine := hs
  exact ⟨hs, show (if x.cps.size ≤ sizeLine then some (ZL.signs x) else none) = _ from if_pos hs'⟩
theorem f_law_is_label {n : Nat} (hn : n ≤ 1000) (z : Z) (h : Hv) (u : z.U n = true) : F__law_is_label [z] h = .ok (.bl (labB z)) h := by
  refine Res.wp_eq (run_wp ?_)
  unfold m__law_is_label
  have i1 := isi_str h u
  cases z with
  | str x =>
    obtain ⟨hs, hi⟩ := lab_len u hn
    have hl := lc_lab (x := x) (h := h) (s := [some (.str x), none]) 1 (by simp)
    simp [i1, hs, hi, hl, isS, labB]
    refine ⟨fun a => ⟨fun b c d => by omega, fun b _ => by omega⟩, fun a b => by omega⟩
  | _ => simp [i1, labB, isS, -wp_chain]
theorem f_is_label {n : Nat} (hn : n ≤ 1000) (z : Z) (h : Hv) (u : z.U n = true) : F_is_label [z] h = .ok (.bl (labB z)) h := by
  refine Res.wp_eq (run_wp ?_)
  unfold m_is_label
  have i1 := isi_str h u
  cases z with
  | str x =>
    obtain ⟨hs, hi⟩ := lab_len u hn
    have hl := lc_lab (x := x) (h := h) (s := [some (.str x), none]) 1 (by simp)
    simp [i1, hs, hi, hl, isS, labB]
    refine ⟨fun a => ⟨fun b c d => by omega, fun b _ => by omega⟩, fun a b => by omega⟩
  | _ => simp [i1, labB, isS, -wp_chain]
/-! a labels' tuple -/
def labsB (lo hi : Int) : Z → Bool
  | .tup xs => decide (lo ≤ xs.length ∧ (xs.length : Int) ≤ hi) && (xs.all labB && nodupB xs)
  | _ => false
theorem lab_keys : ∀ {xs : List Z}, xs.all labB = true → ∃ ks, keysZ xs = some ks
  | [], _ => ⟨[], rfl⟩
  | x :: xs, h => by
    simp only [List.all_cons, Bool.and_eq_true] at h
    obtain ⟨ks, e⟩ := lab_keys h.2
    cases x <;> simp [labB] at h
    exact ⟨_, by rw [keysZ, e]; rfl⟩
theorem nodup_of {xs : List Z} {ks : List Key} (e : keysZ xs = some ks) : nodupB xs = decide (((nubK ks).length : Int) = (xs.length : Int)) := by
  unfold nodupB; rw [e]; simp only [Option.getD_some, decide_eq_decide]; omega
theorem tup_U {n : Nat} {xs : List Z} (u : (Z.tup xs).U n = true) : xs.length ≤ n ∧ ∀ x ∈ xs, x.U n = true := by
  simp only [Z.U, Bool.and_eq_true, decide_eq_true_eq] at u
  exact ⟨u.1, Us_all.mp u.2⟩
theorem f_law_are_labels {n : Nat} (hn : n ≤ 1000) (z : Z) (lo hi : Int) (h : Hv) (u : z.U n = true) : F__law_are_labels [z, .int lo, .int hi] h = .ok (.bl (labsB lo hi z)) h := by
  refine Res.wp_eq (run_wp ?_)
  unfold m__law_are_labels
  have i1 := isi_tup h u
  cases z with
  | tup xs =>
    obtain ⟨hx, hu⟩ := tup_U u
    have hl : lcRun [some (.tup xs), some (.int lo), some (.int hi), none] (gOne 3) zYes (zCall F__law_is_label (zCons (zVar 3) zNil)) xs h = .ok (xs.map fun z => .bl (labB z)) h :=
      lc_one fun z hz => Res.wp_eq (by simp [f_law_is_label hn z h (hu z hz)])
    simp [i1, hl, isT, labsB]
    by_cases ha : xs.all labB = true
    · obtain ⟨ks, e⟩ := lab_keys ha
      have hk := keysZ_len e
      rw [nodup_of e]
      simp [e]
      have ha' := List.all_eq_true.mp ha
      refine ⟨fun a => ⟨fun b c d => by omega, fun b => .inr ⟨ha', by omega, by simp [a, b, ha]⟩⟩, fun a b => by omega⟩
    · have ha' : ∃ x, x ∈ xs ∧ labB x = false := by simpa using ha
      refine ⟨fun a => ⟨fun b c d => by omega, fun b => .inl ⟨ha', fun _ _ hh => absurd (List.all_eq_true.mpr hh) ha⟩⟩, fun a b => by omega⟩
  | _ => simp [i1, labsB, isT, -wp_chain]
theorem f_are_labels {n : Nat} (hn : n ≤ 1000) (z : Z) (hi : Int) (h : Hv) (u : z.U n = true) : F_are_labels [z, .int hi] h = .ok (.bl (labsB 1 hi z)) h := by
  refine Res.wp_eq (run_wp ?_)
  unfold m_are_labels
  have i1 := isi_tup h u
  cases z with
  | tup xs =>
    obtain ⟨hx, hu⟩ := tup_U u
    have hl : lcRun [some (.tup xs), some (.int hi), none] (gOne 2) zYes (zCall F_is_label (zCons (zVar 2) zNil)) xs h = .ok (xs.map fun z => .bl (labB z)) h :=
      lc_one fun z hz => Res.wp_eq (by simp [f_is_label hn z h (hu z hz)])
    simp [i1, hl, isT, labsB]
    by_cases ha : xs.all labB = true
    · obtain ⟨ks, e⟩ := lab_keys ha
      have hk := keysZ_len e
      rw [nodup_of e]
      simp [e]
      have ha' := List.all_eq_true.mp ha
      refine ⟨fun a => ⟨fun b c d => by omega, fun b => ⟨fun _ => ⟨by omega, by simp [a, b, ha]⟩, fun x hx hb => by rw [ha' x hx] at hb; cases hb⟩⟩, fun a b => by omega⟩
    · have ha' : ¬ ∀ x ∈ xs, labB x = true := fun hh => ha (List.all_eq_true.mpr hh)
      refine ⟨fun a => ⟨fun b c d => by omega, fun b => ⟨fun hh => absurd hh ha', fun x hx hb _ _ hh => absurd hh ha'⟩⟩, fun a b => by omega⟩
  | _ => simp [i1, labsB, isT, -wp_chain]
/-! a shelf's pair -/
def inK (k : Z) (kinds : List Z) : Bool := (inB [] k (.tup kinds)).getD false
def shelfB (kinds : List Z) : Z → Bool
  | .tup [a, b] => labB a && (labsB 0 8 b && (match b with | .tup ls => ls.all (inK · kinds) | _ => false))
  | _ => false
def fstZ : Z → Z
  | .tup (a :: _) => a
  | z => z
def shelvesB (kinds : List Z) : Z → Bool
  | .tup xs => decide ((1 : Int) ≤ xs.length ∧ (xs.length : Int) ≤ 8) && (xs.all (shelfB kinds) && nodupB (xs.map fstZ))
  | _ => false
def dayB : Z → Bool
  | .int i => decide (0 ≤ i ∧ i ≤ 999999)
  | _ => false
def leB : Z → Z → Bool
  | .int i, .int j => decide (i ≤ j)
  | _, _ => false
def stayB : Z → Bool
  | .tup [a, b, c, d] => labB a && (labB b && (dayB c && (dayB d && leB c d)))
  | _ => false
def housesB : Z → Bool
  | .tup xs => decide ((xs.length : Int) ≤ 20) && xs.all stayB
  | _ => false
def betB (lo hi : Int) : Z → Bool
  | .int i => decide (lo ≤ i ∧ i ≤ hi)
  | _ => false
theorem f_law_int {n : Nat} (z : Z) (lo hi : Int) (h : Hv) (u : z.U n = true) : F__law_int [z, .int lo, .int hi] h = .ok (.bl (betB lo hi z)) h := by
  refine Res.wp_eq (run_wp ?_)
  unfold m__law_int
  have i1 := isi_int h u
  have i2 := isi_bool h u
  cases z with
  | int i => 
    simp [i1, i2, isI, isB, betB]
    exact ⟨fun a _ => a, fun a b => by omega⟩
  | _ => simp [i1, i2, isI, isB, betB, -wp_chain]
theorem f_law_is_day {n : Nat} (z : Z) (h : Hv) (u : z.U n = true) : F__law_is_day [z] h = .ok (.bl (dayB z)) h := by
  refine Res.wp_eq (run_wp ?_)
  unfold m__law_is_day
  simp [f_law_int z 0 999999 h u]
  cases z <;> rfl
theorem f_is_integer {n : Nat} (z : Z) (h : Hv) (u : z.U n = true) : F_is_integer [z] h = .ok (.bl (isI z && !isB z)) h := by
  refine Res.wp_eq (run_wp ?_)
  unfold m_is_integer
  simp [isi_int h u, isi_bool h u]
  cases z <;> simp [isI, isB]
theorem f_is_day {n : Nat} (z : Z) (h : Hv) (u : z.U n = true) : F_is_day [z] h = .ok (.bl (dayB z)) h := by
  have e : F_is_from_to [z, .int 0, .int 999999] h = .ok (.bl (dayB z)) h := by
    refine Res.wp_eq (run_wp ?_)
    unfold m_is_from_to
    simp [f_is_integer z h u, -wp_chain]
    cases z with
    | int i =>
      simp [isI, isB, dayB]
      exact ⟨fun a _ => a, fun a b => by omega⟩
    | _ => simp [isI, isB, dayB, -wp_chain]
  refine Res.wp_eq (run_wp ?_)
  unfold m_is_day
  simp [e]
end K01
set_option Elab.async false
set_option linter.all false
set_option maxRecDepth 100000
set_option maxHeartbeats 1000000
namespace ZL
open PySem PySem.Spec PyProof.Rows L2
theorem nub_nodup : ∀ {ks σ : List Key}, (ks.foldl metS σ).length ≤ σ.length + ks.length ∧ ((ks.foldl metS σ).length = σ.length + ks.length → ks.Nodup ∧ ∀ k ∈ ks, k ∉ σ)
  | [], σ => by simp
  | k :: ks, σ => by
    rw [List.foldl_cons]
    obtain ⟨r1, r2⟩ := nub_nodup (ks := ks) (σ := metS σ k)
    unfold metS at r1 r2 ⊢
    by_cases hk : σ.any (fun x => decide (x = k)) = true
    · simp only [hk, if_true] at r1 r2 ⊢
      refine ⟨by simp only [List.length_cons]; omega, fun e => ?_⟩
      simp only [List.length_cons] at e; omega
    · simp only [hk, if_false, Bool.false_eq_true, List.length_append, List.length_cons, List.length_nil] at r1 r2 ⊢
      refine ⟨by omega, fun e => ?_⟩
      obtain ⟨r3, r4⟩ := r2 (by omega)
      have hk' : k ∉ σ := fun hm => hk (List.any_eq_true.mpr ⟨k, hm, by simp⟩)
      refine ⟨List.nodup_cons.mpr ⟨fun hm => r4 k hm (by simp), r3⟩, fun x hx => ?_⟩
      rcases List.mem_cons.mp hx with rfl | hx
      · exact hk'
      · exact fun hm => r4 x hx (by simp [hm])
def Cl (h : Hv) : Prop := h.all (·.blw h.length) = true
theorem fin_cut {z : Z} {h t : Hv} (c : Cl h) (hz : z.blw h.length = true) : fin h.length z (h ++ t) = .ok z h := by
  unfold fin
  have c' : (h.all fun x => x.blw h.length) = true := c
  simp [hz, c']
@[simp] theorem wp_dc {s : Sg} {h : Hv} {Q : Z → Hv → Prop} (vs : List Nat) (wi : MI) (g : TgZ) (tt : MT) (tk tv : ME) : (zDc vs wi g tt tk tv s h).wp Q = (wi s h).wp fun zs h1 => (dcRun (wipeZ s vs) g tt tk tv zs ([], []) h1).wp fun a h2 => Q (.ref h2.length) (h2 ++ [.dk a.1 a.2]) := by unfold zDc; simp
end ZL
namespace K01
open PySem PySem.Spec PyProof.Rows L2 ZL
theorem lab_str {z : Z} (e : labB z = true) : ∃ x, z = .str x := by
  cases z <;> simp [labB] at e
  exact ⟨_, rfl⟩
theorem flat_labs : ∀ {kinds : List Z}, kinds.all labB = true → ∃ vs, allFlat kinds = some vs ∧ ∀ x, V.str x ∈ vs → Z.str x ∈ kinds
  | [], _ => ⟨[], rfl, fun _ h => by cases h⟩
  | k :: kinds, e => by
    simp only [List.all_cons, Bool.and_eq_true] at e
    obtain ⟨x, rfl⟩ := lab_str e.1
    obtain ⟨vs, e1, e2⟩ := flat_labs e.2
    refine ⟨.str x :: vs, by rw [ZL.allFlat, e1]; rfl, fun y hy => ?_⟩
    rcases List.mem_cons.mp hy with hy | hy
    · cases hy; simp
    · exact List.mem_cons_of_mem _ (e2 y hy)
theorem in_lab {h : Hv} {one : Z} {kinds : List Z} (h1 : labB one = true) (hk : kinds.all labB = true) : inZ h one (.tup kinds) = some (.val (.bl (inK one kinds))) := by
  obtain ⟨x, rfl⟩ := lab_str h1
  obtain ⟨vs, e, _⟩ := flat_labs hk
  simp [inK, inZ, inB, flatZ, e]
theorem in_mem {one : Z} {kinds : List Z} (h1 : labB one = true) (hk : kinds.all labB = true) (e : inK one kinds = true) : one ∈ kinds := by
  obtain ⟨x, rfl⟩ := lab_str h1
  obtain ⟨vs, e1, e2⟩ := flat_labs hk
  simp [inK, inB, flatZ, e1, inV] at e
  obtain ⟨y, hy, hv⟩ := e
  cases y <;> simp [eqV] at hv
  subst hv
  exact e2 _ hy
theorem keys_nodup : ∀ {xs : List Z} {ks : List Key}, keysZ xs = some ks → ks.Nodup → xs.Nodup
  | [], _, _, _ => List.nodup_nil
  | x :: xs, ks, e, n => by
    rw [keysZ] at e
    split at e
    · rename_i k ks' e1 e2
      cases e
      obtain ⟨n1, n2⟩ := List.nodup_cons.mp n
      refine List.nodup_cons.mpr ⟨fun hm => n1 ?_, keys_nodup e2 n2⟩
      clear n n1 n2
      induction xs generalizing ks' with
      | nil => cases hm
      | cons y xs ih =>
        rw [keysZ] at e2
        split at e2
        · rename_i k2 ks2 e3 e4
          cases e2
          rcases List.mem_cons.mp hm with rfl | hm
          · rw [e1] at e3; cases e3; simp
          · exact List.mem_cons_of_mem _ (ih _ e4 hm)
        · cases e2
    · cases e
theorem few {ls kinds : List Z} (hl : ls.all labB = true) (hk : kinds.all labB = true) (hi : ls.all (inK · kinds) = true) (hn : nodupB ls = true) : ls.length ≤ kinds.length := by
  obtain ⟨ks, e⟩ := lab_keys hl
  unfold nodupB at hn
  rw [e] at hn
  simp only [Option.getD_some, decide_eq_true_eq] at hn
  have hk' := keysZ_len e
  have nd := (nub_nodup (ks := ks) (σ := [])).2 (by unfold nubK at hn; simp; omega)
  exact List.Nodup.length_le_of_subset (keys_nodup e nd.1) fun x hx => in_mem (List.all_eq_true.mp hl x hx) hk (List.all_eq_true.mp hi x hx)
/-! the program's shelf -/
theorem f_is_tuple_of {n : Nat} (z : Z) (m : Int) (h : Hv) (u : z.U n = true) : F_is_tuple_of [z, .int m] h = .ok (.bl (match z with | .tup xs => decide ((xs.length : Int) = m) | _ => false)) h := by
  refine Res.wp_eq (run_wp ?_)
  unfold m_is_tuple_of
  have i1 := isi_tup h u
  cases z with
  | tup xs => simp [i1, isT]
  | _ => simp [i1, isT]
theorem all_and_lc {kinds ls : List Z} {s : Sg} {h : Hv} {n : Nat} (hn : n ≤ 1000) (hk : kinds.all labB = true) (hu : ∀ x ∈ ls, x.U n = true) (i j : Nat) (hj : ∀ z, (s.set i (some z))[j]? = some (some (.tup kinds))) (hi : i < s.length) :
    lcRun s (gOne i) zYes (zAndE (zCall F_is_label (zCons (zVar i) zNil)) (zBin inZ false (zVar i) (zVar j))) ls h = .ok (ls.map fun z => .bl (labB z && inK z kinds)) h := by
  refine lc_one fun z hz => Res.wp_eq ?_
  have e1 : (s.set i (some z))[i]? = some (some z) := by simp [hi]
  simp [wp_var e1, wp_var (hj z), f_is_label hn z h (hu z hz)]
  by_cases hb : labB z = true
  · simp [hb, in_lab hb hk]
  · simp [hb]
theorem pair_of {xs : List Z} (e : (xs.length : Int) = 2) : ∃ a b, xs = [a, b] := by
  match xs, e with
  | [a, b], _ => exact ⟨a, b, rfl⟩
  | [], e => simp at e
  | [_], e => simp at e
  | _ :: _ :: _ :: _, e => simp only [List.length_cons] at e; omega
theorem shelf_no {xs kinds : List Z} (e : ¬ (xs.length : Int) = 2) : shelfB kinds (.tup xs) = false := by
  unfold shelfB
  split
  · rename_i h; cases h; exact absurd rfl e
  · rfl
theorem f_is_shelf_of {n : Nat} (hn : n ≤ 1000) {kinds : List Z} (hk : kinds.all labB = true) (h8 : kinds.length ≤ 8) (z : Z) (h : Hv) (u : z.U n = true) : F_is_shelf_of [z, .tup kinds] h = .ok (.bl (shelfB kinds z)) h := by
  refine Res.wp_eq (run_wp ?_)
  unfold m_is_shelf_of
  have i1 := f_is_tuple_of z 2 h u
  cases z with
  | tup xs =>
    by_cases e2 : (xs.length : Int) = 2
    · obtain ⟨a, b, rfl⟩ := pair_of e2
      obtain ⟨hx, hu⟩ := tup_U u
      have ua := hu a (by simp)
      have ub := hu b (by simp)
      have i2 := isi_tup h ub
      have i3 := f_is_label hn a h ua
      by_cases la : labB a = true
      · cases b with
        | tup ls =>
          obtain ⟨hx, hul⟩ := tup_U ub
          have hl := all_and_lc (s := [some (.tup [a, .tup ls]), some (.tup kinds), none]) (h := h) hn hk hul 2 1 (fun _ => rfl) (by simp)
          simp [i1, i2, i3, la, isT, hl, -wp_lenSet]
          by_cases h1 : ls.all labB = true
          · by_cases h2 : ls.all (inK · kinds) = true
            · obtain ⟨ks, e⟩ := lab_keys h1
              have hk' := keysZ_len e
              have h1' := List.all_eq_true.mp h1
              have h2' := List.all_eq_true.mp h2
              have fw := few h1 hk h2
              rw [nodup_of e] at fw
              simp only [decide_eq_true_eq] at fw
              simp [shelfB, labsB, la, h1, h2, e, nodup_of e]
              refine ⟨fun _ => ⟨by omega, fun hh => ?_⟩, fun x hx => ?_⟩
              · have := fw hh; omega
              · intro hh; rw [h1' x hx, h2' x hx] at hh; simp at hh
            · refine ⟨fun hh => absurd (List.all_eq_true.mpr fun x hx => (hh x hx).2) h2, fun _ _ _ => ?_⟩
              simp only [shelfB, h2, Bool.and_false]
          · refine ⟨fun hh => absurd (List.all_eq_true.mpr fun x hx => (hh x hx).1) h1, fun _ _ _ => ?_⟩
            simp only [shelfB, labsB, h1, Bool.and_false, Bool.false_and]
        | _ => simp [i1, i2, i3, la, isT, shelfB, labsB]
      · simp [i1, i3, la, shelfB]
    · simp [i1, e2, shelf_no e2]
  | _ => simp [i1, shelfB]
theorem shelf_fst {kinds : List Z} {s : Z} (e : shelfB kinds s = true) : ∃ a b, s = .tup [a, b] ∧ labB a = true := by
  unfold shelfB at e
  split at e
  · rename_i a b
    simp only [Bool.and_eq_true] at e
    exact ⟨a, b, rfl, e.1⟩
  · cases e
theorem f_are_shelves {n : Nat} (hn : n ≤ 1000) {kinds : List Z} (hk : kinds.all labB = true) (h8 : kinds.length ≤ 8) (z : Z) (h : Hv) (c : Cl h) (u : z.U n = true) : F_are_shelves [z, .tup kinds] h = .ok (.bl (shelvesB kinds z)) h := by
  refine Res.wp_eq (run_wp ?_)
  unfold m_are_shelves
  have i1 := isi_tup h u
  cases z with
  | tup xs =>
    obtain ⟨hx, hu⟩ := tup_U u
    have hl : lcRun [some (.tup xs), some (.tup kinds), none] (gOne 2) zYes (zCall F_is_shelf_of (zCons (zVar 2) (zCons (zVar 1) zNil))) xs h = .ok (xs.map fun z => .bl (shelfB kinds z)) h :=
      lc_one fun z hz => Res.wp_eq (by simp [f_is_shelf_of hn hk h8 z h (hu z hz)])
    by_cases ha : xs.all (shelfB kinds) = true
    · have ha' := List.all_eq_true.mp ha
      have hf : (xs.map fstZ).all labB = true := by
        simp only [List.all_map, List.all_eq_true]
        intro x hx
        obtain ⟨a, b, rfl, q⟩ := shelf_fst (ha' x hx)
        exact q
      obtain ⟨ks, e⟩ := lab_keys hf
      have hk' := keysZ_len e
      obtain ⟨ws, hd⟩ := dc_keys (s := [some (.tup xs), some (.tup kinds), none]) (i := 2) (tk := zBin ixZ false (zVar 2) (zC (.int 0))) (tv := zC (.bl true)) (f := fstZ) (v := fun _ => .bl true) (h := h) (a := ([], [])) (fun z hz => by
        obtain ⟨a, b, rfl, q⟩ := shelf_fst (ha' z hz)
        exact ⟨Res.wp_eq (by simp; rfl), rfl⟩) e
      have hd' : dcRun [some (.tup xs), some (.tup kinds), none] (gOne 2) zYes (zBin ixZ false (zVar 2) (zC (.int 0))) (zC (.bl true)) xs ([], []) h = .ok (nubK ks, ws) h := hd
      have hr := lenZ_rd (h := h ++ [.dk (nubK ks) ws]) (n := h.length) (ks := nubK ks) (xs := ws) (by simp)
      have hc : ∀ b : Bool, fin h.length (.bl b) (h ++ [.dk (nubK ks) ws]) = .ok (.bl b) h := fun b => fin_cut c rfl
      simp [i1, hl, isT, hd', hr, hc, shelvesB, ha, nodup_of e]
      refine ⟨fun a => ⟨fun b _ d => by omega, fun b _ => ⟨a, b⟩⟩, fun a b => by omega⟩
    · have ha' : ¬ ∀ x ∈ xs, shelfB kinds x = true := fun hh => ha (List.all_eq_true.mpr hh)
      simp [i1, hl, isT, shelvesB, ha]
  | _ => simp [i1, shelvesB, isT, -wp_chain]
/-! the law's shelves -/
theorem in_lc {kinds ls : List Z} {s : Sg} {h : Hv} (hk : kinds.all labB = true) (hl : ls.all labB = true) (i j : Nat) (hj : ∀ z, (s.set i (some z))[j]? = some (some (.tup kinds))) (hi : i < s.length) :
    lcRun s (gOne i) zYes (zBin inZ false (zVar i) (zVar j)) ls h = .ok (ls.map fun z => .bl (inK z kinds)) h := by
  refine lc_one fun z hz => Res.wp_eq ?_
  have e1 : (s.set i (some z))[i]? = some (some z) := by simp [hi]
  simp [wp_var e1, wp_var (hj z), in_lab (List.all_eq_true.mp hl z hz) hk]
theorem RS.wp_eqN {r : RS} {s : Sg} {h : Hv} (e : r.wp (fun s' h' => s' = s ∧ h' = h) fun _ _ => False) : r = .nx s h := by
  cases r <;> first | exact e.elim | (obtain ⟨rfl, rfl⟩ := e; rfl)
theorem RS.wp_eqR {r : RS} {z : Z} {h : Hv} (e : r.wp (fun _ _ => False) fun z' h' => z' = z ∧ h' = h) : r = .rt z h := by
  cases r <;> first | exact e.elim | (obtain ⟨rfl, rfl⟩ := e; rfl)
theorem RS.wp_eqB {r : RS} {b : Bool} {s : Sg} {h : Hv} (e : r.wp (fun s' h' => b = true ∧ s' = s ∧ h' = h) fun z' h' => b = false ∧ z' = .bl false ∧ h' = h) : r = if b = true then .nx s h else .rt (.bl false) h := by
  cases r <;> first | exact e.elim | (obtain ⟨rfl, rfl, rfl⟩ := e; rfl)
theorem f_law_are_shelves {n : Nat} (hn : n ≤ 1000) {kinds : List Z} (hk : kinds.all labB = true) (z : Z) (h : Hv) (u : z.U n = true) : F__law_are_shelves [.tup kinds, z] h = .ok (.bl (shelvesB kinds z)) h := by
  refine Res.wp_eq (run_wp ?_)
  unfold m__law_are_shelves
  have i1 := isi_tup h u
  cases z with
  | tup xs =>
    obtain ⟨hx, hu⟩ := tup_U u
    obtain ⟨w, hf⟩ := for_false (p := shelfB kinds) (s := [some (.tup kinds), some (.tup xs), none, none]) (i := 2) (h := h) (zs := xs) (body := (zSeq (zIf (zOr (zNot (zTru (zCallB (isiG kits plainCs) false (zCons (zVar 2) (zCons (zC (.ty "tuple")) zNil))))) (zOr (zTst (zBin neZ false (zCallB ZL.lenZ false (zCons (zVar 2) zNil)) (zC (.int 2)))) (zNot (zTru (zCall F__law_are_labels (zCons (zBin ixZ false (zVar 2) (zC (.int 1))) (zCons (zC (.int 0)) (zCons (zC (.int 8)) zNil))))))))
  (zRet (zC (.bl false)))
  zNop)
  (zIf (zOr (zNot (zTru (zCall F__law_is_label (zCons (zBin ixZ false (zVar 2) (zC (.int 0))) zNil)))) (zNot (zTru (zCallB allZ false (zCons (zLc false [3] (iSeq (zBin ixZ false (zVar 2) (zC (.int 1)))) (gOne 3) zYes (zBin inZ false (zVar 3) (zVar 0))) zNil)))))
  (zRet (zC (.bl false)))
  zNop))) none rfl (fun z hz => RS.wp_eqB (by
      have uz := hu z hz
      have i2 := isi_tup h uz
      cases z with
      | tup ys =>
        by_cases e2 : (ys.length : Int) = 2
        · obtain ⟨a, b, rfl⟩ := pair_of e2
          obtain ⟨hx, hu⟩ := tup_U uz
          have ua := hu a (by simp)
          have ub := hu b (by simp)
          have i3 := f_law_is_label hn a h ua
          have i4 := f_law_are_labels hn b 0 8 h ub
          by_cases lb : labsB 0 8 b = true
          · cases b with
            | tup ls =>
              have hl : ls.all labB = true := by simp only [labsB, Bool.and_eq_true] at lb; exact lb.2.1
              have hc := in_lc (s := [some (.tup kinds), some (.tup xs), some (.tup [a, .tup ls]), none]) (h := h) hk hl 3 0 (fun _ => rfl) (by simp)
              simp [i2, i3, i4, isT, lb, hc, shelfB]
              grind
            | _ => simp [labsB] at lb
          · simp [i2, i3, i4, isT, lb, shelfB]
        · simp [i2, isT, e2, shelf_no e2]
      | _ => simp [i2, isT, shelfB]))
    have hsh : shelvesB kinds (.tup xs) = (decide ((1 : Int) ≤ xs.length ∧ (xs.length : Int) ≤ 8) && (xs.all (shelfB kinds) && nodupB (xs.map fstZ))) := rfl
    by_cases ha : xs.all (shelfB kinds) = true
    · rw [if_pos ha] at hf
      have ha' := List.all_eq_true.mp ha
      have hft : (xs.map fstZ).all labB = true := by
        simp only [List.all_map, List.all_eq_true]
        intro x hx
        obtain ⟨a, b, rfl, q⟩ := shelf_fst (ha' x hx)
        exact q
      obtain ⟨ks, e⟩ := lab_keys hft
      have hk' := keysZ_len e
      rw [List.length_map] at hk'
      have hl : lcRun [some (.tup kinds), some (.tup xs), none, none] (gOne 2) zYes (zBin ixZ false (zVar 2) (zC (.int 0))) xs h = .ok (xs.map fstZ) h :=
        lc_one fun z hz => Res.wp_eq (by
          obtain ⟨a, b, rfl, q⟩ := shelf_fst (ha' z hz)
          simp; rfl)
      simp [i1, isT, hf, hl, hsh, e, nodup_of e, ha]
      refine ⟨fun a => ⟨fun b _ d => by omega, fun b => ⟨by omega, fun _ => ⟨a, b⟩⟩⟩, fun a b => by omega⟩
    · rw [if_neg ha] at hf
      simp [i1, isT, hf, hsh, ha, -wp_lenSet]
  | _ => simp [i1, shelvesB, isT, -wp_chain]
end K01
set_option Elab.async false
set_option linter.all false
set_option maxRecDepth 100000
set_option maxHeartbeats 1000000
namespace K01
open PySem PySem.Spec PyProof.Rows L2 ZL
theorem four_of {xs : List Z} (e : (xs.length : Int) = 4) : ∃ a b c d, xs = [a, b, c, d] := by
  match xs, e with
  | [a, b, c, d], _ => exact ⟨a, b, c, d, rfl⟩
  | [], e => simp at e
  | [_], e => simp at e
  | [_, _], e => simp at e
  | [_, _, _], e => simp at e
  | _ :: _ :: _ :: _ :: _ :: _, e => simp only [List.length_cons] at e; omega
theorem stay_no {xs : List Z} (e : ¬ (xs.length : Int) = 4) : stayB (.tup xs) = false := by
  unfold stayB
  split
  · rename_i h; cases h; exact absurd rfl e
  · rfl
theorem day_int {z : Z} (e : dayB z = true) : ∃ i, z = .int i := by
  cases z <;> simp [dayB] at e
  exact ⟨_, rfl⟩
theorem f_is_stay {n : Nat} (hn : n ≤ 1000) (z : Z) (h : Hv) (u : z.U n = true) : F_is_stay [z] h = .ok (.bl (stayB z)) h := by
  refine Res.wp_eq (run_wp ?_)
  unfold m_is_stay
  have i1 := f_is_tuple_of z 4 h u
  cases z with
  | tup xs =>
    by_cases e4 : (xs.length : Int) = 4
    · obtain ⟨a, b, c, d, rfl⟩ := four_of e4
      obtain ⟨hx, hu⟩ := tup_U u
      have ia := f_is_label hn a h (hu a (by simp))
      have ib := f_is_label hn b h (hu b (by simp))
      have ic := f_is_day c h (hu c (by simp))
      have id := f_is_day d h (hu d (by simp))
      by_cases la : labB a = true
      · by_cases lb : labB b = true
        · by_cases lc : dayB c = true
          · by_cases ld : dayB d = true
            · obtain ⟨i, rfl⟩ := day_int lc
              obtain ⟨j, rfl⟩ := day_int ld
              simp [i1, ia, ib, ic, id, la, lb, lc, ld, stayB, leB]
            · simp [i1, ia, ib, ic, id, la, lb, lc, ld, stayB]
          · simp [i1, ia, ib, ic, id, la, lb, lc, stayB]
        · simp [i1, ia, ib, ic, id, la, lb, stayB]
      · simp [i1, ia, ib, ic, id, la, stayB]
    · simp [i1, e4, stay_no e4]
  | _ => simp [i1, stayB]
theorem f_are_houses {n : Nat} (hn : n ≤ 1000) (z : Z) (h : Hv) (u : z.U n = true) : F_are_houses [z] h = .ok (.bl (housesB z)) h := by
  refine Res.wp_eq (run_wp ?_)
  unfold m_are_houses
  have i1 := isi_tup h u
  cases z with
  | tup xs =>
    obtain ⟨hx, hu⟩ := tup_U u
    have hl : lcRun [some (.tup xs), none] (gOne 1) zYes (zCall F_is_stay (zCons (zVar 1) zNil)) xs h = .ok (xs.map fun z => .bl (stayB z)) h :=
      lc_one fun z hz => Res.wp_eq (by simp [f_is_stay hn z h (hu z hz)])
    simp [i1, hl, isT, housesB]
    grind
  | _ => simp [i1, housesB, isT]
theorem f_law_are_houses {n : Nat} (hn : n ≤ 1000) (z : Z) (h : Hv) (u : z.U n = true) : F__law_are_houses [z] h = .ok (.bl (housesB z)) h := by
  refine Res.wp_eq (run_wp ?_)
  unfold m__law_are_houses
  have i1 := isi_tup h u
  cases z with
  | tup xs =>
    obtain ⟨hx, hu⟩ := tup_U u
    obtain ⟨w, hf⟩ := for_false (p := stayB) (s := [some (.tup xs), none]) (i := 1) (h := h) (zs := xs) (body := (zSeq (zIf (zOr (zNot (zTru (zCallB (isiG kits plainCs) false (zCons (zVar 1) (zCons (zC (.ty "tuple")) zNil))))) (zOr (zTst (zBin neZ false (zCallB ZL.lenZ false (zCons (zVar 1) zNil)) (zC (.int 4)))) (zOr (zNot (zTru (zCall F__law_is_label (zCons (zBin ixZ false (zVar 1) (zC (.int 0))) zNil)))) (zNot (zTru (zCall F__law_is_label (zCons (zBin ixZ false (zVar 1) (zC (.int 1))) zNil)))))))
  (zRet (zC (.bl false)))
  zNop)
  (zIf (zOr (zNot (zTru (zCall F__law_is_day (zCons (zBin ixZ false (zVar 1) (zC (.int 2))) zNil)))) (zOr (zNot (zTru (zCall F__law_is_day (zCons (zBin ixZ false (zVar 1) (zC (.int 3))) zNil)))) (zTst (zBin gtZ false (zBin ixZ false (zVar 1) (zC (.int 2))) (zBin ixZ false (zVar 1) (zC (.int 3)))))))
  (zRet (zC (.bl false)))
  zNop))) none rfl (fun z hz => RS.wp_eqB (by
      have uz := hu z hz
      have i2 := isi_tup h uz
      cases z with
      | tup ys =>
        by_cases e4 : (ys.length : Int) = 4
        · obtain ⟨a, b, c, d, rfl⟩ := four_of e4
          obtain ⟨hx, hu⟩ := tup_U uz
          have ia := f_law_is_label hn a h (hu a (by simp))
          have ib := f_law_is_label hn b h (hu b (by simp))
          have ic := f_law_is_day c h (hu c (by simp))
          have id := f_law_is_day d h (hu d (by simp))
          by_cases la : labB a = true
          · by_cases lb : labB b = true
            · by_cases lc : dayB c = true
              · by_cases ld : dayB d = true
                · obtain ⟨i, rfl⟩ := day_int lc
                  obtain ⟨j, rfl⟩ := day_int ld
                  simp [i2, isT, ia, ib, ic, id, la, lb, lc, ld, stayB, leB]
                · simp [i2, isT, ia, ib, ic, id, la, lb, lc, ld, stayB]
              · simp [i2, isT, ia, ib, ic, id, la, lb, lc, stayB]
            · simp [i2, isT, ia, ib, ic, id, la, lb, stayB]
          · simp [i2, isT, ia, ib, ic, id, la, stayB]
        · simp [i2, isT, e4, stay_no e4]
      | _ => simp [i2, isT, stayB]))
    by_cases ha : xs.all stayB = true
    · rw [if_pos ha] at hf
      simp [i1, isT, hf, housesB, ha]
    · rw [if_neg ha] at hf
      simp [i1, isT, hf, housesB, ha]
  | _ => simp [i1, housesB, isT, -wp_chain]
theorem gOne_eq (i : Nat) (z : Z) (s : Sg) : gOne i z s = some (s.set i (some z)) := rfl
/-! which part is bad -/
def badB (k s p hs : Z) : Option Str :=
  if labsB 1 8 k = false then some "kinds" else
  if (match k with | .tup ks => shelvesB ks s | _ => false) = false then some "shelves" else
  if labsB 1 8 p = false then some "partners" else
  if housesB hs = false then some "houses" else none
def badZ (k s p hs : Z) : Z := match badB k s p hs with
  | some w => .str w
  | none => .non
theorem labs_tup {k : Z} (e : labsB 1 8 k = true) : ∃ ks, k = .tup ks ∧ ks.all labB = true ∧ ks.length ≤ 8 := by
  cases k with
  | tup ks =>
    simp only [labsB, Bool.and_eq_true, decide_eq_true_eq] at e
    exact ⟨_, rfl, e.2.1, by omega⟩
  | _ => cases e
theorem f_law_bad_part {n : Nat} (hn : n ≤ 1000) (k s p hs : Z) (h : Hv) (uk : k.U n = true) (us : s.U n = true) (up : p.U n = true) (uh : hs.U n = true) : F__law_bad_part [.tup [k, s, p, hs]] h = .ok (badZ k s p hs) h := by
  refine Res.wp_eq (run_wp ?_)
  unfold m__law_bad_part
  have ik := f_law_are_labels hn k 1 8 h uk
  have ip := f_law_are_labels hn p 1 8 h up
  have ih := f_law_are_houses hn hs h uh
  by_cases lk : labsB 1 8 k = true
  · obtain ⟨ks, rfl, hk, h8⟩ := labs_tup lk
    have is := f_law_are_shelves hn hk s h us
    by_cases ls : shelvesB ks s = true
    · by_cases lp : labsB 1 8 p = true
      · by_cases lh : housesB hs = true
        · simp [gTp, gAll, gOne_eq, ik, is, ip, ih, lk, ls, lp, lh, badZ, badB]
        · simp [gTp, gAll, gOne_eq, ik, is, ip, ih, lk, ls, lp, lh, badZ, badB]
      · simp [gTp, gAll, gOne_eq, ik, is, ip, ih, lk, ls, lp, badZ, badB]
    · simp [gTp, gAll, gOne_eq, ik, is, ip, ih, lk, ls, badZ, badB]
  · simp [gTp, gAll, gOne_eq, ik, lk, badZ, badB]
end K01
set_option Elab.async false
set_option linter.all false
set_option maxRecDepth 100000
set_option maxHeartbeats 1000000
namespace ZL
open PySem PySem.Spec PyProof.Rows L2
mutual
theorem U_blw {n m : Nat} : ∀ {z : Z}, z.U n = true → z.blw m = true
  | .non, _ => rfl
  | .bl _, _ => rfl
  | .int _, _ => rfl
  | .str _, _ => rfl
  | .tup xs, u => by
    simp only [Z.U, Bool.and_eq_true] at u
    exact Us_blw u.2
  | .lst xs, u => by
    simp only [Z.U, Bool.and_eq_true] at u
    exact Us_blw u.2
  | .dkf ks vs, u => by
    show belowL m vs = true
    simp only [Z.U, Bool.or_eq_true, Bool.and_eq_true, List.isEmpty_iff] at u
    rcases u with ⟨_, rfl⟩ | u
    · rfl
    · split at u
      · rfl
      · cases u
  | .ty _, u => by cases u
  | .glo _, u => by cases u
  | .ref _, u => by cases u
  | .frl _, u => by cases u
  | .ins _ _ _, u => by cases u
  | .exc _ _ _, u => by cases u
theorem Us_blw {n m : Nat} : ∀ {xs : List Z}, Us n xs = true → belowL m xs = true
  | [], _ => rfl
  | x :: xs, u => by
    simp only [Us, Bool.and_eq_true] at u
    simp only [belowL, U_blw u.1, Us_blw u.2, Bool.and_self]
end
theorem chk {C fld : Str} {w : Z} {m : ME} {b : Bool} {s : Sg} {h : Hv} (e : m s h = .ok (.bl b) h) : zIf (zNot (zTru m)) (zRaise1 C fld (zCons (zC w) zNil)) zNop s h = if b = true then .nx s h else .exc ⟨C, [fld], [w]⟩ s h := by
  simp only [zIf, zNot, zTru, e, Res.bind, truZ, Res.toS]
  cases b <;> rfl
theorem seq_nx {t u : MS} {s s1 : Sg} {h h1 : Hv} (e : t s h = .nx s1 h1) : zSeq t u s h = u s1 h1 := by unfold zSeq; rw [e]
theorem seq_exc {t u : MS} {s s1 : Sg} {h h1 : Hv} {x : Ex} (e : t s h = .exc x s1 h1) : zSeq t u s h = .exc x s1 h1 := by unfold zSeq; rw [e]
theorem fin_len {n : Nat} {z : Z} {h : Hv} (e : h.length = n) : fin n z h = .ok z h := by subst e; exact fin_pure z h
theorem finX_pure (x : Ex) (h : Hv) : finX h.length x h = .exc x h := by unfold finX; split <;> simp
theorem run_exc {k : Nat} {m : MS} {zs : List Z} {h : Hv} {x : Ex} {s : Sg} (e : m (zs.map some ++ List.replicate (k - zs.length) none) h = .exc x s h) : ZL.run k m zs h = .exc x h := by
  unfold ZL.run; rw [e]; exact finX_pure x h
theorem call_ok {F : List Z → Hv → Res Z} {t : MA} {s : Sg} {h : Hv} {xs : List Z} {r : Res Z} (ht : t s h = .ok xs h) (hf : F xs h = r) : zCall F t s h = r := by unfold zCall; rw [ht]; exact hf
theorem run_nx {k : Nat} {m : MS} {zs : List Z} {h h' : Hv} {s : Sg} (e : m (zs.map some ++ List.replicate (k - zs.length) none) h = .nx s h') (hl : h'.length = h.length) : ZL.run k m zs h = .ok .non h' := by
  unfold ZL.run; rw [e]; exact fin_len hl
theorem setFld_ok {cs : List Str} {f : Str} {mv mo : ME} {s : Sg} {h : Hv} {i : Nat} {C : Str} {ns ns' : List Str} {vs vs' : List Z} {y : Z} (hm : mv s h = .ok y h) (ho : mo s h = .ok (.ref i) h) (hi : h[i]? = some (.ins C ns vs)) (hc : cs.contains C = true) (hl : ns.length < 1000) (he : ns.length = vs.length) (hp : putZ f y ns vs = (ns', vs')) :
    zSetFld cs f mv mo s h = .nx s (h.set i (.ins C ns' vs')) := by
  unfold zSetFld
  rw [hm]; simp only [Res.toS]; rw [ho]; simp only [hi, hc, hl, he, hp, and_self, if_true]
  rw [if_pos ⟨trivial, by omega, trivial⟩]
end ZL
namespace K01
open PySem PySem.Spec PyProof.Rows L2 ZL
abbrev prog (k s p hs : Z) : Z := .ins "Programme" ["kinds", "shelves", "partners", "houses"] [k, s, p, hs]
section
variable {n : Nat} (hn : n ≤ 1000) (k s p hs : Z) (h : Hv) (c : Cl h) (uk : k.U n = true) (us : s.U n = true) (up : p.U n = true) (uh : hs.U n = true)
include hn c uk us up uh
theorem f_init_bad {w : Str} (i : Nat) (e : badB k s p hs = some w) : F_Programme_C_u_init_u [.ref i, k, s, p, hs] h = .exc ⟨"BadProgramme", ["part"], [.str w]⟩ h := by
  refine run_exc (s := [some (.ref i), some k, some s, some p, some hs]) ?_
  unfold m_Programme_C_u_init_u
  have ik := f_are_labels hn k 8 h uk
  have ip := f_are_labels hn p 8 h up
  have ih := f_are_houses hn hs h uh
  show zSeq _ _ [some (.ref i), some k, some s, some p, some hs] h = _
  have ck := chk (C := "BadProgramme") (fld := "part") (w := .str "kinds") (s := [some (.ref i), some k, some s, some p, some hs]) (call_ok (t := zCons (zVar 1) (zCons (zC (.int 8)) zNil)) rfl ik)
  by_cases lk : labsB 1 8 k = true
  · rw [if_pos lk] at ck
    rw [seq_nx ck]
    obtain ⟨ks, rfl, hk, h8⟩ := labs_tup lk
    have is := f_are_shelves hn hk h8 s h c us
    have cs := chk (C := "BadProgramme") (fld := "part") (w := .str "shelves") (s := [some (.ref i), some (.tup ks), some s, some p, some hs]) (call_ok (t := zCons (zVar 2) (zCons (zVar 1) zNil)) rfl is)
    by_cases ls : shelvesB ks s = true
    · rw [if_pos ls] at cs
      rw [seq_nx cs]
      have cp := chk (C := "BadProgramme") (fld := "part") (w := .str "partners") (s := [some (.ref i), some (.tup ks), some s, some p, some hs]) (call_ok (t := zCons (zVar 3) (zCons (zC (.int 8)) zNil)) rfl ip)
      by_cases lp : labsB 1 8 p = true
      · rw [if_pos lp] at cp
        rw [seq_nx cp]
        have ch := chk (C := "BadProgramme") (fld := "part") (w := .str "houses") (s := [some (.ref i), some (.tup ks), some s, some p, some hs]) (call_ok (t := zCons (zVar 4) zNil) rfl ih)
        by_cases lh : housesB hs = true
        · simp [badB, lk, ls, lp, lh] at e
        · rw [if_neg lh] at ch
          rw [seq_exc ch]
          simp [badB, lk, ls, lp, lh] at e
          rw [e]
      · rw [if_neg lp] at cp
        rw [seq_exc cp]
        simp [badB, lk, ls, lp] at e
        rw [e]
    · rw [if_neg ls] at cs
      rw [seq_exc cs]
      simp [badB, lk, ls] at e
      rw [e]
  · rw [if_neg lk] at ck
    rw [seq_exc ck]
    simp [badB, lk] at e
    rw [e]
theorem f_init_ok (e : badB k s p hs = none) (i : Nat) (hi : h[i]? = some (.ins "Programme" [] [])) : F_Programme_C_u_init_u [.ref i, k, s, p, hs] h = .ok .non (h.set i (.ins "Programme" ["kinds", "shelves", "partners", "houses"] [k, s, p, hs])) := by
  refine run_nx (s := [some (.ref i), some k, some s, some p, some hs]) ?_ (by simp)
  unfold m_Programme_C_u_init_u
  have ik := f_are_labels hn k 8 h uk
  have ip := f_are_labels hn p 8 h up
  have ih := f_are_houses hn hs h uh
  have hl : i < h.length := (List.getElem?_eq_some_iff.mp hi).1
  show zSeq _ _ [some (.ref i), some k, some s, some p, some hs] h = _
  have ck := chk (C := "BadProgramme") (fld := "part") (w := .str "kinds") (s := [some (.ref i), some k, some s, some p, some hs]) (call_ok (t := zCons (zVar 1) (zCons (zC (.int 8)) zNil)) rfl ik)
  by_cases lk : labsB 1 8 k = true
  · rw [if_pos lk] at ck
    rw [seq_nx ck]
    obtain ⟨ks, rfl, hk, h8⟩ := labs_tup lk
    have is := f_are_shelves hn hk h8 s h c us
    have cs := chk (C := "BadProgramme") (fld := "part") (w := .str "shelves") (s := [some (.ref i), some (.tup ks), some s, some p, some hs]) (call_ok (t := zCons (zVar 2) (zCons (zVar 1) zNil)) rfl is)
    by_cases ls : shelvesB ks s = true
    · rw [if_pos ls] at cs
      rw [seq_nx cs]
      have cp := chk (C := "BadProgramme") (fld := "part") (w := .str "partners") (s := [some (.ref i), some (.tup ks), some s, some p, some hs]) (call_ok (t := zCons (zVar 3) (zCons (zC (.int 8)) zNil)) rfl ip)
      by_cases lp : labsB 1 8 p = true
      · rw [if_pos lp] at cp
        rw [seq_nx cp]
        have ch := chk (C := "BadProgramme") (fld := "part") (w := .str "houses") (s := [some (.ref i), some (.tup ks), some s, some p, some hs]) (call_ok (t := zCons (zVar 4) zNil) rfl ih)
        by_cases lh : housesB hs = true
        · rw [if_pos lh] at ch
          rw [seq_nx ch]
          rw [seq_nx (setFld_ok (y := .tup ks) (ns' := ["kinds"]) (vs' := [.tup ks]) rfl rfl hi (by decide +kernel) (by simp) rfl rfl)]
          rw [seq_nx (setFld_ok (y := s) (ns' := ["kinds", "shelves"]) (vs' := [.tup ks, s]) rfl rfl (by simp [hl]; exact ⟨rfl, rfl, rfl⟩) (by decide +kernel) (by simp) rfl rfl)]
          rw [seq_nx (setFld_ok (y := p) (ns' := ["kinds", "shelves", "partners"]) (vs' := [.tup ks, s, p]) rfl rfl (by simp [hl]; exact ⟨rfl, rfl, rfl⟩) (by decide +kernel) (by simp) rfl rfl)]
          rw [setFld_ok (y := hs) (ns' := ["kinds", "shelves", "partners", "houses"]) (vs' := [.tup ks, s, p, hs]) rfl rfl (by simp [hl]; exact ⟨rfl, rfl, rfl⟩) (by decide +kernel) (by simp) rfl rfl]
          simp
        · simp [badB, lk, ls, lp, lh] at e
      · simp [badB, lk, ls, lp] at e
    · simp [badB, lk, ls] at e
  · simp [badB, lk] at e
end
end K01
set_option Elab.async false
set_option linter.all false
set_option maxRecDepth 100000
set_option maxHeartbeats 1000000
namespace ZL
open PySem PySem.Spec PyProof.Rows L2
mutual
theorem blw_mono {n m : Nat} (l : n ≤ m) : ∀ {z : Z}, z.blw n = true → z.blw m = true
  | .non, _ => rfl
  | .bl _, _ => rfl
  | .int _, _ => rfl
  | .str _, _ => rfl
  | .ty _, _ => rfl
  | .glo _, _ => rfl
  | .ref i, u => by
    simp only [Z.blw, decide_eq_true_eq] at u ⊢
    omega
  | .tup xs, u => blws_mono l (xs := xs) u
  | .lst xs, u => blws_mono l (xs := xs) u
  | .frl xs, u => blws_mono l (xs := xs) u
  | .ins _ _ xs, u => blws_mono l (xs := xs) u
  | .exc _ _ xs, u => blws_mono l (xs := xs) u
  | .dkf _ xs, u => blws_mono l (xs := xs) u
theorem blws_mono {n m : Nat} (l : n ≤ m) : ∀ {xs : List Z}, belowL n xs = true → belowL m xs = true
  | [], _ => rfl
  | x :: xs, u => by
    simp only [belowL, Bool.and_eq_true] at u ⊢
    exact ⟨blw_mono l u.1, blws_mono l u.2⟩
end
theorem mblw_mono {n m : Nat} (l : n ≤ m) {o : MO} (u : o.blw n = true) : o.blw m = true := by
  cases o with
  | dead => rfl
  | lst xs => exact blws_mono l (xs := xs) u
  | ins _ _ xs => exact blws_mono l (xs := xs) u
  | dk _ xs => exact blws_mono l (xs := xs) u
  | dt _ xs => exact blws_mono l (xs := xs) u
theorem Cl.app {h : Hv} (c : Cl h) {o : MO} (u : o.blw (h.length + 1) = true) : Cl (h ++ [o]) := by
  unfold Cl at c ⊢
  simp only [List.all_eq_true, List.mem_append, List.mem_singleton, List.length_append, List.length_cons, List.length_nil, Nat.zero_add] at c ⊢
  rintro x (hx | rfl)
  · exact mblw_mono (by omega) (c x hx)
  · exact u
theorem finX_cut {x : Ex} {h t : Hv} (c : Cl h) (hz : belowL h.length x.vs = true) : finX h.length x (h ++ t) = .exc x h := by
  unfold finX
  have c' : (h.all fun x => x.blw h.length) = true := c
  simp [hz, c']
mutual
theorem U_noX {n : Nat} : ∀ {z : Z}, z.U n = true → z.noX = true
  | .non, _ => rfl
  | .bl _, _ => rfl
  | .int _, _ => rfl
  | .str _, _ => rfl
  | .tup xs, u => by
    simp only [Z.U, Bool.and_eq_true] at u
    exact Us_noX u.2
  | .lst xs, u => by
    simp only [Z.U, Bool.and_eq_true] at u
    exact Us_noX u.2
  | .dkf ks vs, u => by
    show noXs vs = true
    simp only [Z.U, Bool.or_eq_true, Bool.and_eq_true, List.isEmpty_iff] at u
    rcases u with ⟨_, rfl⟩ | u
    · rfl
    · split at u
      · rfl
      · cases u
  | .ty _, u => by cases u
  | .glo _, u => by cases u
  | .ref _, u => by cases u
  | .frl _, u => by cases u
  | .ins _ _ _, u => by cases u
  | .exc _ _ _, u => by cases u
theorem Us_noX {n : Nat} : ∀ {xs : List Z}, Us n xs = true → noXs xs = true
  | [], _ => rfl
  | x :: xs, u => by
    simp only [Us, Bool.and_eq_true] at u
    simp only [noXs, U_noX u.1, Us_noX u.2, Bool.and_self]
end
end ZL
namespace K01
open PySem PySem.Spec PyProof.Rows L2 ZL
section
variable {n : Nat} (hn : n ≤ 1000) (k s p hs : Z) (h : Hv) (c : Cl h) (uk : k.U n = true) (us : s.U n = true) (up : p.U n = true) (uh : hs.U n = true)
include hn c uk us up uh
theorem make_bad {w : Str} (e : badB k s p hs = some w) : mkZ true "Programme" F_Programme_C_u_init_u [k, s, p, hs] h = .exc ⟨"BadProgramme", ["part"], [.str w]⟩ h := by
  unfold mkZ
  rw [f_init_bad hn k s p hs _ (c.app rfl) uk us up uh h.length e]
  exact finX_cut c rfl
theorem make_ok (e : badB k s p hs = none) : mkZ true "Programme" F_Programme_C_u_init_u [k, s, p, hs] h = .ok (prog k s p hs) h := by
  unfold mkZ
  rw [f_init_ok hn k s p hs _ (c.app rfl) uk us up uh e h.length (by simp)]
  simp only [if_true]
  have e1 : ((h ++ [MO.ins "Programme" [] []]).set h.length (.ins "Programme" ["kinds", "shelves", "partners", "houses"] [k, s, p, hs])) = h ++ [.ins "Programme" ["kinds", "shelves", "partners", "houses"] [k, s, p, hs]] := by
    rw [List.set_append_right _ _ (Nat.le_refl _)]; simp
  rw [e1]
  simp
  refine fin_cut c ?_
  show belowL _ _ = true
  simp only [belowL, U_blw uk, U_blw us, U_blw up, U_blw uh, Bool.and_self]
theorem f_told (nx : h.all MO.noX = true) : F__law_told [.tup [k, s, p, hs]] h = .ok (match badB k s p hs with | some w => .tup [.str "bad", .str w] | none => .tup [.str "made", prog k s p hs]) h := by
  have szl : (2 : Nat) ≤ sizeLine := by rw [szL]; omega
  have ht : ∀ w, (zCons (zBin ixZ false (zVar 0) (zC (.int 0))) (zCons (zBin ixZ false (zVar 0) (zC (.int 1))) (zCons (zBin ixZ false (zVar 0) (zC (.int 2))) (zCons (zBin ixZ false (zVar 0) (zC (.int 3))) zNil)))) [some (.tup [k, s, p, hs]), some w, none] h = .ok [k, s, p, hs] h := fun w => Res.wp_eq (by simp)
  have hm : ∀ w r, mkZ true "Programme" F_Programme_C_u_init_u [k, s, p, hs] h = r → zMake true "Programme" F_Programme_C_u_init_u (zCons (zBin ixZ false (zVar 0) (zC (.int 0))) (zCons (zBin ixZ false (zVar 0) (zC (.int 1))) (zCons (zBin ixZ false (zVar 0) (zC (.int 2))) (zCons (zBin ixZ false (zVar 0) (zC (.int 3))) zNil)))) [some (.tup [k, s, p, hs]), some w, none] h = r := fun w r e => by
    unfold zMake; rw [ht w]; exact e
  refine Res.wp_eq (run_wp ?_)
  unfold m__law_told
  cases e : badB k s p hs with
  | none =>
    have hm1 := hm (.tup [.str "other", .non]) _ (make_ok hn k s p hs h c uk us up uh e)
    simp [szL, zTry, zAsg, zTup, zCons, zC, hm1, Res.bind, Res.toS, zNil, gOne_eq]
  | some w =>
    have hm1 := hm (.tup [.str "other", .non]) _ (make_bad hn k s p hs h c uk us up uh e)
    have t1 : tst_BadProgramme "BadProgramme" = some true := by decide +kernel
    have hz : ∀ w1, zIfE (zTru (zCallB (isiX kits plainCs excCs) false (zCons (zVar 2) (zCons (zC (Z.glo "PointError")) zNil)))) (zExF csx_part "part" (zVar 2)) (zC Z.non)
      [some (Z.tup [k, s, p, hs]), some w1, some (Z.exc "BadProgramme" ["part"] [Z.str w])] h = .ok (.str w) h := fun w1 => rfl
    have hx : (Z.tup [k, s, p, hs]).noX = true := by simp [Z.noX, noXs, U_noX uk, U_noX us, U_noX up, U_noX uh]
    have hx2 : (Z.tup [Z.str "bad", Z.str w]).noX = true := rfl
    have hs0 : slotNo none = true := rfl
    have hs1 : ∀ z : Z, slotNo (some z) = z.noX := fun _ => rfl
    simp [szL, zTry, zAsg, zTup, zCons, zC, hm1, Res.bind, Res.toS, zNil, gOne_eq, hdRun, t1, setO, hz, leaveZ, unO, hs0, hs1, hx, hx2, nx, List.all_eq_true.mp nx, -List.all_eq_true]
end
end K01
set_option Elab.async false
set_option linter.all false
set_option maxRecDepth 100000
set_option maxHeartbeats 1000000
namespace ZL
open PySem PySem.Spec PyProof.Rows L2
theorem okS_strOk {x : Str} (e : okS x = true) : PyData.strOk x = true := by
  unfold okS at e
  unfold PyData.strOk
  rw [← Array.all_toList]
  simp only [List.all_eq_true, decide_eq_true_eq] at e ⊢
  intro c hc
  have := e c hc
  simp only [okC, decide_eq_true_eq] at this
  omega
mutual
/-- plain data of words and ints, not deeper than d -/
def Z.T : Nat → Z → Bool
  | _, .str x => okS x
  | _, .int _ => true
  | d + 1, .tup xs => decide (xs.length ≤ 1000) && Ts d xs
  | _, _ => false
def Ts : Nat → List Z → Bool
  | _, [] => true
  | d, x :: xs => x.T d && Ts d xs
end
theorem Ts_all {d : Nat} : ∀ {xs : List Z}, Ts d xs = true ↔ ∀ x ∈ xs, x.T d = true
  | [] => by simp [Ts]
  | x :: xs => by simp [Ts, Ts_all (xs := xs)]
mutual
theorem T_toD (h : Hv) : ∀ {d : Nat} {z : Z}, z.T d = true → ∃ D, toD h z = some D ∧ D.canLay0 = true ∧ D.depth ≤ d
  | d, .str x, e => by
    have e' : okS x = true := by cases d <;> exact e
    exact ⟨.str x, by unfold toD; rfl, by show PyData.strOk x = true; exact okS_strOk e', Nat.zero_le _⟩
  | d, .int i, _ => ⟨.int i, by unfold toD; rfl, rfl, Nat.zero_le _⟩
  | d + 1, .tup xs, e => by
    have e : (decide (xs.length ≤ 1000) && Ts d xs) = true := e
    simp only [Bool.and_eq_true] at e
    obtain ⟨Ds, e1, e2, e3⟩ := Ts_toD h (d := d) (xs := xs) e.2
    exact ⟨.tuple Ds, by unfold toD; rw [e1]; rfl, e2, by show PyData.depthAll Ds + 1 ≤ d + 1; omega⟩
  | 0, .tup _, e => by cases e
  | d, .non, e => by cases d <;> cases e
  | d, .bl _, e => by cases d <;> cases e
  | d, .ty _, e => by cases d <;> cases e
  | d, .glo _, e => by cases d <;> cases e
  | d, .ref _, e => by cases d <;> cases e
  | d, .lst _, e => by cases d <;> cases e
  | d, .frl _, e => by cases d <;> cases e
  | d, .ins _ _ _, e => by cases d <;> cases e
  | d, .exc _ _ _, e => by cases d <;> cases e
  | d, .dkf _ _, e => by cases d <;> cases e
theorem Ts_toD (h : Hv) : ∀ {d : Nat} {xs : List Z}, Ts d xs = true → ∃ Ds, toDs h xs = some Ds ∧ PyData.canLayAll0 Ds = true ∧ PyData.depthAll Ds ≤ d
  | d, [], _ => ⟨[], by unfold toDs; rfl, rfl, Nat.zero_le _⟩
  | d, x :: xs, e => by
    simp only [Ts, Bool.and_eq_true] at e
    obtain ⟨D, a1, a2, a3⟩ := T_toD h e.1
    obtain ⟨Ds, b1, b2, b3⟩ := Ts_toD h e.2
    refine ⟨D :: Ds, by unfold toDs; rw [a1, b1], by simp [PyData.canLayAll0, a2, b2], ?_⟩
    show max _ _ ≤ d
    omega
end
theorem eqD_T {h : Hv} {d : Nat} (hd : d ≤ 64) {x y : Z} (tx : x.T d = true) (ty : y.T d = true) : ∃ b, eqD h x y = some b := by
  obtain ⟨D, a1, a2, a3⟩ := T_toD h tx
  obtain ⟨E, b1, b2, b3⟩ := T_toD h ty
  unfold eqD
  rw [a1, b1]
  refine ⟨PyData.eqv D E, if_pos ⟨?_, ?_⟩⟩ <;> unfold SeqAt.shaped <;> simp [a2, b2] <;> omega
theorem eqD_Tr {h : Hv} {d : Nat} (hd : d ≤ 64) {x : Z} (tx : x.T d = true) : eqD h x x = some true := by
  obtain ⟨D, a1, a2, a3⟩ := T_toD h tx
  unfold eqD
  rw [a1]
  have hs : SeqAt.shaped D = true := by unfold SeqAt.shaped; simp [a2]; omega
  show (if _ then _ else _) = _
  rw [if_pos ⟨hs, hs⟩, SeqAt.eqv_refl D a2]
theorem eqD_str {h : Hv} {x y : Str} (hx : PyData.strOk x = true) (hy : PyData.strOk y = true) : eqD h (.str x) (.str y) = some (x == y) := by
  unfold eqD toD
  have hs : ∀ z : Str, PyData.strOk z = true → SeqAt.shaped (.str z) = true := fun z hz => by
    unfold SeqAt.shaped
    have : (PyData.str z).canLay0 = true := hz
    rw [this]; rfl
  show (if _ then _ else _) = _
  rw [if_pos ⟨hs x hx, hs y hy⟩]
  rfl
end ZL
namespace K01
open PySem PySem.Spec PyProof.Rows L2 ZL
theorem f_law_is_T {h : Hv} : ∀ {d : Nat} {z : Z}, z.T d = true → d ≤ 60 → ∀ f, d < f → F__law_is f [z, z] h = .ok (.bl true) h
  | d, .str x, e, hd, f + 1, _ => by
    have e' : okS x = true := by cases d <;> exact e
    have er := eqD_str (h := h) (okS_strOk e') (okS_strOk e')
    refine Res.wp_eq (run_wp ?_)
    unfold m__law_is
    have i1 : isiG kits plainCs h [.str x, .tup [.ty "tuple", .ty "list"]] = some (.val (.bl false)) := rfl
    have i2 : isiG kits plainCs h [.str x, .ty "bool"] = some (.val (.bl false)) := rfl
    have i3 : isiG kits plainCs h [.str x, .tup [.ty "int", .ty "str"]] = some (.val (.bl true)) := rfl
    have i4 : isiG kits plainCs h [.str x, .ty "str"] = some (.val (.bl true)) := rfl
    simp [i1, i2, i3, i4, szL, eqZ, er]
  | d, .int i, e, hd, f + 1, _ => by
    refine Res.wp_eq (run_wp ?_)
    unfold m__law_is
    have i1 : isiG kits plainCs h [.int i, .tup [.ty "tuple", .ty "list"]] = some (.val (.bl false)) := rfl
    have i2 : isiG kits plainCs h [.int i, .ty "bool"] = some (.val (.bl false)) := rfl
    have i3 : isiG kits plainCs h [.int i, .tup [.ty "int", .ty "str"]] = some (.val (.bl true)) := rfl
    have i4 : isiG kits plainCs h [.int i, .ty "str"] = some (.val (.bl false)) := rfl
    simp [i1, i2, i3, i4, szL, ZL.isNon]
  | d + 1, .tup xs, e, hd, f + 1, hf => by
    refine Res.wp_eq (run_wp ?_)
    unfold m__law_is
    have i1 : isiG kits plainCs h [.tup xs, .tup [.ty "tuple", .ty "list"]] = some (.val (.bl true)) := rfl
    have i2 : isiG kits plainCs h [.tup xs, .ty "tuple"] = some (.val (.bl true)) := rfl
    have e : (decide (xs.length ≤ 1000) && Ts d xs) = true := e
    simp only [Bool.and_eq_true, decide_eq_true_eq] at e
    have hx := Ts_all.mp e.2
    have hz : List.zipWith prZ xs xs = (xs.map fun x => (x, x)).map fun q => Z.tup [q.1, q.2] := by
      rw [List.zipWith_self, List.map_map]; rfl
    have hl : lcRun [some (.tup xs), some (.tup xs), none, none] (gTp [gOne 2, gOne 3]) zYes (zCall (F__law_is f) (zCons (zVar 2) (zCons (zVar 3) zNil))) (List.zipWith prZ xs xs) h = .ok ((xs.map fun x => (x, x)).map fun q => (fun _ _ => Z.bl true) q.1 q.2) h := by
      rw [hz]
      refine lc_tp2 (f := fun _ _ => Z.bl true) fun q hq => ?_
      simp only [List.mem_map] at hq
      obtain ⟨x, hq, rfl⟩ := hq
      exact Res.wp_eq (by simp [f_law_is_T (hx x hq) (by omega) f (by omega)])
    have hb := all_map h (fun _ => true) xs
    rw [List.zipWith_self] at hl
    have hs : xs.length ≤ 16777216 := by omega
    simp [i1, i2, szL, ZL.iZip, hl, hs, Function.comp_def, hb]
  | 0, .tup _, e, _, _, _ => by cases e
  | d, .non, e, _, _, _ => by cases d <;> cases e
  | d, .bl _, e, _, _, _ => by cases d <;> cases e
  | d, .ty _, e, _, _, _ => by cases d <;> cases e
  | d, .glo _, e, _, _, _ => by cases d <;> cases e
  | d, .ref _, e, _, _, _ => by cases d <;> cases e
  | d, .lst _, e, _, _, _ => by cases d <;> cases e
  | d, .frl _, e, _, _, _ => by cases d <;> cases e
  | d, .ins _ _ _, e, _, _, _ => by cases d <;> cases e
  | d, .exc _ _ _, e, _, _, _ => by cases d <;> cases e
  | d, .dkf _ _, e, _, _, _ => by cases d <;> cases e
theorem fld_of {cs : List Str} {f C : Str} {ns : List Str} {vs : List Z} {m : ME} {s : Sg} {h : Hv} {y : Z} (e : m s h = .ok (.ins C ns vs) h) (hc : cs.contains C = true) (hl : lookF ns vs f = some y) : zFld cs f m s h = .ok y h := by
  unfold zFld; rw [e]; simp only [Res.bind, insOf, hc, hl, if_true]
theorem f_all_parts (k s p hs : Z) (h : Hv) : F_Programme_C_all_parts [prog k s p hs] h = .ok (.tup [k, s, p, hs]) h := by
  refine Res.wp_eq (run_wp ?_)
  unfold m_Programme_C_all_parts
  have e1 := fld_of (cs := cs_kinds) (f := "kinds") (y := k) (m := zVar 0) (s := [some (prog k s p hs)]) (h := h) rfl (by decide +kernel) rfl
  have e2 := fld_of (cs := cs_shelves) (f := "shelves") (y := s) (m := zVar 0) (s := [some (prog k s p hs)]) (h := h) rfl (by decide +kernel) rfl
  have e3 := fld_of (cs := cs_partners) (f := "partners") (y := p) (m := zVar 0) (s := [some (prog k s p hs)]) (h := h) rfl (by decide +kernel) rfl
  have e4 := fld_of (cs := cs_houses) (f := "houses") (y := hs) (m := zVar 0) (s := [some (prog k s p hs)]) (h := h) rfl (by decide +kernel) rfl
  unfold prog at e1 e2 e3 e4 ⊢
  simp [e1, e2, e3, e4, szL]
theorem methU_of {C mt : Str} {F : List Z → Hv → Res Z} {o : ME} {s : Sg} {h : Hv} {ns : List Str} {vs : List Z} {r : Res Z} (e : o s h = .ok (.ins C ns vs) h) (hl : lookF ns vs mt = none) (hk : ns.length = vs.length) (hf : F [.ins C ns vs] h = r) : zMethU C mt F o zNil s h = r := by
  unfold zMethU; rw [e]; simp only [Res.bind, insOf, hl, hk, and_self, if_true, zNil]; exact hf
theorem f_eq_prog (k s p hs k' s' p' hs' : Z) (h : Hv) {b : Bool} (e : eqD h (.tup [k, s, p, hs]) (.tup [k', s', p', hs']) = some b) : F_Programme_C_u_eq_u [prog k s p hs, prog k' s' p' hs'] h = .ok (.bl b) h := by
  refine Res.wp_eq (run_wp ?_)
  unfold m_Programme_C_u_eq_u
  have i1 : isiG kits plainCs h [prog k' s' p' hs', .glo "Programme"] = some (.val (.bl true)) := rfl
  have e1 := methU_of (C := "Programme") (mt := "all_parts") (o := zVar 0) (s := [some (prog k s p hs), some (prog k' s' p' hs')]) (h := h) rfl rfl rfl (f_all_parts k s p hs h)
  have e2 := methU_of (C := "Programme") (mt := "all_parts") (o := zVar 1) (s := [some (prog k s p hs), some (prog k' s' p' hs')]) (h := h) rfl rfl rfl (f_all_parts k' s' p' hs' h)
  unfold prog at i1 e1 e2 ⊢
  simp [i1, e1, e2, eqZ, e]
theorem f_eq_tup (k s p hs : Z) (xs : List Z) (h : Hv) : F_Programme_C_u_eq_u [prog k s p hs, .tup xs] h = .ok (.bl false) h := by
  refine Res.wp_eq (run_wp ?_)
  unfold m_Programme_C_u_eq_u
  have i1 : isiG kits plainCs h [.tup xs, .glo "Programme"] = some (.val (.bl false)) := rfl
  simp [i1]
theorem eqU_ins {eqs : List (Str × List ZL.Ty × (List Z → Hv → Res Z))} {ps : List Str} {h : Hv} {C : Str} {ns : List Str} {vs : List Z} {y : Z} {ts : List ZL.Ty} {F : List Z → Hv → Res Z} {t : ZL.Ty} {b : Bool} (e1 : eqs.lookup C = some (ts, F)) (e2 : ZL.tyOf ps h y = some t) (hc : ts.contains t = true) (e3 : F [.ins C ns vs, y] h = .ok (.bl b) h) : eqU eqs ps h (.ins C ns vs) y = .ok b h := by
  unfold ZL.eqU; simp only [insOf, e1, e2, hc, e3, if_true]
theorem eqU_prog (k s p hs k' s' p' hs' : Z) (h : Hv) {b : Bool} (e : eqD h (.tup [k, s, p, hs]) (.tup [k', s', p', hs']) = some b) : eqU eqs plainCs h (prog k s p hs) (prog k' s' p' hs') = .ok b h :=
  eqU_ins (ts := eqTs "Programme") (t := .inr "Programme") rfl rfl (by decide +kernel) (f_eq_prog _ _ _ _ _ _ _ _ h e)
theorem eqU_tup (k s p hs : Z) (xs : List Z) (h : Hv) : eqU eqs plainCs h (prog k s p hs) (.tup xs) = .ok false h :=
  eqU_ins (ts := eqTs "Programme") (t := .inl "tuple") rfl rfl (by decide +kernel) (f_eq_tup _ _ _ _ _ h)
theorem eqU_data {x y : Z} {h : Hv} {b : Bool} (hx : insOf h x = none) (e : eqD h x y = some b) : eqU eqs plainCs h x y = .ok b h := by
  unfold ZL.eqU; rw [hx]; simp only [e]
end K01
set_option Elab.async false
set_option linter.all false
set_option maxRecDepth 100000
set_option maxHeartbeats 1000000
namespace ZL
open PySem PySem.Spec PyProof.Rows L2
def isP2 (Q : Z → Z → Prop) : List Z → Prop
  | [x, y] => Q x y
  | _ => False
@[simp] theorem isP2_eq (Q : Z → Z → Prop) (x y : Z) : isP2 Q [x, y] = Q x y := rfl
@[simp] theorem wp_par2 {s : Sg} {h : Hv} {N : Sg → Hv → Prop} {R : Z → Hv → Prop} (i j : Nat) (t : MA) : (zPar2 i j t s h).wp N R = (t s h).wp fun zs h1 => isP2 (fun x y => N ((s.set i (some x)).set j (some y)) h1) zs := by
  unfold zPar2; rw [wp_toS]; congr 1; funext zs h1
  match zs with
  | [x, y] => rfl
  | [] => rfl
  | [_] => rfl
  | _ :: _ :: _ :: _ => rfl
@[simp] theorem wp_make {s : Sg} {h : Hv} {Q : Z → Hv → Prop} (fz : Bool) (C : Str) (F : List Z → Hv → Res Z) (t : MA) : (zMake fz C F t s h).wp Q = (t s h).wp fun xs h1 => (mkZ fz C F xs h1).wp Q := by unfold zMake; simp
def fldP (cs : List Str) (f : Str) (h : Hv) (z : Z) (Q : Z → Prop) : Prop := ∃ C ns vs y, insOf h z = some (C, ns, vs) ∧ cs.contains C = true ∧ lookF ns vs f = some y ∧ Q y
@[simp] theorem wp_fld {s : Sg} {h : Hv} {Q : Z → Hv → Prop} (cs : List Str) (f : Str) (m : ME) : (zFld cs f m s h).wp Q = (m s h).wp fun z h1 => fldP cs f h1 z fun y => Q y h1 := by
  unfold zFld; rw [wp_bind]; congr 1; funext z h1
  unfold fldP
  cases e : insOf h1 z with
  | none => simp [Res.wp]
  | some q =>
    obtain ⟨C, ns, vs⟩ := q
    by_cases hc : cs.contains C = true
    · simp only [hc, if_true]
      cases e2 : lookF ns vs f with
      | none =>
        refine propext ⟨fun q => q.elim, fun ⟨_, _, _, _, e3, _, e4, _⟩ => ?_⟩
        cases e3; rw [e2] at e4; cases e4
      | some y =>
        refine propext ⟨fun q => ⟨_, _, _, _, rfl, hc, e2, q⟩, fun ⟨_, _, _, _, e3, _, e4, q⟩ => ?_⟩
        cases e3; rw [e2] at e4; cases e4; exact q
    · refine propext ⟨fun q => by simp only [hc] at q; exact q.elim, fun ⟨_, _, _, _, e3, e4, _⟩ => ?_⟩
      cases e3; exact absurd e4 hc
theorem fldP_of {cs : List Str} {f : Str} {h : Hv} {C : Str} {ns : List Str} {vs : List Z} {y : Z} (hc : cs.contains C = true) (hl : lookF ns vs f = some y) (Q : Z → Prop) : fldP cs f h (.ins C ns vs) Q = Q y :=
  propext ⟨fun ⟨_, _, _, _, e3, _, e4, q⟩ => by cases e3; rw [hl] at e4; cases e4; exact q, fun q => ⟨_, _, _, _, rfl, hc, hl, q⟩⟩
end ZL
namespace K01
open PySem PySem.Spec PyProof.Rows L2 ZL
theorem bad_okS {k s p hs : Z} {w : Str} (e : badB k s p hs = some w) : okS w = true := by
  have h4 : w = "kinds" ∨ w = "shelves" ∨ w = "partners" ∨ w = "houses" := by
    by_cases lk : labsB 1 8 k = true
    · obtain ⟨ks, rfl, hk, h8⟩ := labs_tup lk
      by_cases ls : shelvesB ks s = true
      · by_cases lp : labsB 1 8 p = true
        · by_cases lh : housesB hs = true
          · simp [badB, lk, ls, lp, lh] at e
          · simp [badB, lk, ls, lp, lh] at e; exact .inr (.inr (.inr e.symm))
        · simp [badB, lk, ls, lp] at e; exact .inr (.inr (.inl e.symm))
      · simp [badB, lk, ls] at e; exact .inr (.inl e.symm)
    · simp [badB, lk] at e; exact .inl e.symm
  rcases h4 with rfl | rfl | rfl | rfl <;> decide +kernel
theorem good_of {k s p hs : Z} (e : badB k s p hs = none) : ∃ ks, k = .tup ks ∧ labsB 1 8 k = true ∧ shelvesB ks s = true ∧ labsB 1 8 p = true ∧ housesB hs = true := by
  by_cases lk : labsB 1 8 k = true
  · obtain ⟨ks, rfl, hk, h8⟩ := labs_tup lk
    by_cases ls : shelvesB ks s = true
    · by_cases lp : labsB 1 8 p = true
      · by_cases lh : housesB hs = true
        · exact ⟨ks, rfl, lk, ls, lp, lh⟩
        · simp [badB, lk, ls, lp, lh] at e
      · simp [badB, lk, ls, lp] at e
    · simp [badB, lk, ls] at e
  · simp [badB, lk] at e
theorem U_T_str {n d : Nat} {x : Str} (u : (Z.str x).U n = true) : (Z.str x).T d = true := by
  simp only [Z.U, Bool.and_eq_true] at u
  cases d <;> exact u.2
theorem lab_T {n d : Nat} {z : Z} (u : z.U n = true) (l : labB z = true) : z.T d = true := by
  obtain ⟨x, rfl⟩ := lab_str l
  exact U_T_str u
theorem labs_T {n d : Nat} (hn : n ≤ 1000) {xs : List Z} (u : (Z.tup xs).U n = true) (l : xs.all labB = true) : (Z.tup xs).T (d + 1) = true := by
  obtain ⟨hx, hu⟩ := tup_U u
  show (decide (xs.length ≤ 1000) && Ts d xs) = true
  simp only [Bool.and_eq_true, decide_eq_true_eq]
  exact ⟨by omega, Ts_all.mpr fun x hx => lab_T (hu x hx) (List.all_eq_true.mp l x hx)⟩
theorem tup_T {d : Nat} {xs : List Z} (hl : xs.length ≤ 1000) (h : ∀ x ∈ xs, x.T d = true) : (Z.tup xs).T (d + 1) = true := by
  show (decide (xs.length ≤ 1000) && Ts d xs) = true
  simp only [Bool.and_eq_true, decide_eq_true_eq]
  exact ⟨hl, Ts_all.mpr h⟩
theorem good_T {n : Nat} (hn : n ≤ 1000) {k s p hs : Z} (uk : k.U n = true) (us : s.U n = true) (up : p.U n = true) (uh : hs.U n = true) (e : badB k s p hs = none) : (Z.tup [k, s, p, hs]).T 4 = true := by
  obtain ⟨ks, rfl, lk, ls, lp, lh⟩ := good_of e
  obtain ⟨ks', e1, hk, h8⟩ := labs_tup lk
  cases e1
  obtain ⟨ps, rfl, hp, p8⟩ := labs_tup lp
  refine tup_T (by simp) fun x hx => ?_
  simp only [List.mem_cons, List.not_mem_nil, or_false] at hx
  rcases hx with rfl | rfl | rfl | rfl
  · exact labs_T hn uk hk
  · cases x with
    | tup xs =>
      simp only [shelvesB, Bool.and_eq_true] at ls
      obtain ⟨hx, hu⟩ := tup_U us
      refine tup_T (by omega) fun y hy => ?_
      have hy2 := List.all_eq_true.mp ls.2.1 y hy
      have uy := hu y hy
      unfold shelfB at hy2
      split at hy2
      · rename_i a b
        simp only [Bool.and_eq_true] at hy2
        obtain ⟨_, hu2⟩ := tup_U uy
        refine tup_T (by simp) fun z hz => ?_
        simp only [List.mem_cons, List.not_mem_nil, or_false] at hz
        rcases hz with rfl | rfl
        · exact lab_T (hu2 _ (by simp)) hy2.1
        · cases z with
          | tup ls =>
            have := hy2.2.1
            simp only [labsB, Bool.and_eq_true] at this
            exact labs_T hn (hu2 _ (by simp)) this.2.1
          | _ => simp [labsB] at hy2
      · cases hy2
    | _ => simp [shelvesB] at ls
  · exact labs_T hn up hp
  · cases x with
    | tup xs =>
      simp only [housesB, Bool.and_eq_true] at lh
      obtain ⟨hx, hu⟩ := tup_U uh
      refine tup_T (by omega) fun y hy => ?_
      have hy2 := List.all_eq_true.mp lh.2 y hy
      have uy := hu y hy
      unfold stayB at hy2
      split at hy2
      · rename_i a b c d
        simp only [Bool.and_eq_true] at hy2
        obtain ⟨_, hu2⟩ := tup_U uy
        obtain ⟨i, rfl⟩ := day_int hy2.2.2.1
        obtain ⟨j, rfl⟩ := day_int hy2.2.2.2.1
        refine tup_T (by simp) fun z hz => ?_
        simp only [List.mem_cons, List.not_mem_nil, or_false] at hz
        rcases hz with rfl | rfl | rfl | rfl
        · exact lab_T (hu2 _ (by simp)) hy2.1
        · exact lab_T (hu2 _ (by simp)) hy2.2.1
        · rfl
        · rfl
      · cases hy2
    | _ => simp [housesB] at lh
section
variable {n : Nat} (hn : n ≤ 1000) (k s p hs : Z) (h : Hv) (c : Cl h) (nx : h.all MO.noX = true) (uk : k.U n = true) (us : s.U n = true) (up : p.U n = true) (uh : hs.U n = true)
include hn c nx uk us up uh
theorem f_is_right {r : Str} (hr : ∀ h, reprZ h [.tup [k, s, p, hs]] = some (.val (.str r))) (ro : PyData.strOk r = true) : F__law_is_right [.tup [k, s, p, hs]] h = .ok (.bl true) h := by
  refine Res.wp_eq (run_wp ?_)
  unfold m__law_is_right
  have hb := f_law_bad_part hn k s p hs h uk us up uh
  have ht := f_told hn k s p hs h c uk us up uh nx
  have hre : eqU eqs plainCs h (.str r) (.str r) = .ok true h := eqU_data rfl (by rw [eqD_str ro ro]; simp)
  cases e : badB k s p hs with
  | some w =>
    have ow := bad_okS e
    have hz : badZ k s p hs = .str w := by unfold badZ; rw [e]
    rw [hz] at hb
    rw [e] at ht
    have hw : eqU eqs plainCs h (.str "bad") (.str "bad") = .ok true h := eqU_data rfl (by rw [eqD_str (by decide +kernel) (by decide +kernel)]; simp)
    have hi := f_law_is_T (h := h) (d := 0) (z := .str w) ow (by omega) 20 (by omega)
    simp [hr, hb, ht, hre, hw, hi, gTp, gAll, gOne_eq]
  | none =>
    have hz : badZ k s p hs = .non := by unfold badZ; rw [e]
    rw [hz] at hb
    rw [e] at ht
    have hw : eqU eqs plainCs h (.str "made") (.str "made") = .ok true h := eqU_data rfl (by rw [eqD_str (by decide +kernel) (by decide +kernel)]; simp)
    have gt := good_T hn uk us up uh e
    have hi := f_law_is_T (h := h) gt (by omega) 20 (by omega)
    obtain ⟨ks, rfl, _⟩ := good_of e
    have hq := eqU_prog (.tup ks) s p hs (.tup ks) s p hs h (eqD_Tr (by omega) gt)
    have hq2 := eqU_tup (.tup ks) s p hs [.tup ks, s, p, hs] h
    have hq3 := eqU_tup (.tup ks) s p hs ks h
    have mk := make_ok hn (.tup ks) s p hs h c uk us up uh e
    have g1 : ∀ Q, fldP cs_kinds "kinds" h (prog (.tup ks) s p hs) Q = Q (.tup ks) := fun Q => fldP_of (by decide +kernel) rfl Q
    have g2 : ∀ Q, fldP cs_shelves "shelves" h (prog (.tup ks) s p hs) Q = Q s := fun Q => fldP_of (by decide +kernel) rfl Q
    have g3 : ∀ Q, fldP cs_partners "partners" h (prog (.tup ks) s p hs) Q = Q p := fun Q => fldP_of (by decide +kernel) rfl Q
    have g4 : ∀ Q, fldP cs_houses "houses" h (prog (.tup ks) s p hs) Q = Q hs := fun Q => fldP_of (by decide +kernel) rfl Q
    simp [hr, hb, ht, hre, hw, gTp, gAll, gOne_eq, mk, g1, g2, g3, g4, hi, hq, hq2, hq3, szL]
end
end K01
set_option Elab.async false
set_option linter.all false
set_option maxRecDepth 100000
set_option maxHeartbeats 1000000
namespace K01
open PySem PySem.Spec PyProof.Rows L2 ZL
theorem f_law_is_bl (h : Hv) (b : Bool) (f : Nat) : F__law_is (f + 1) [.bl b, .bl b] h = .ok (.bl true) h := by
  refine Res.wp_eq (run_wp ?_)
  unfold m__law_is
  have i1 : isiG kits plainCs h [.bl b, .tup [.ty "tuple", .ty "list"]] = some (.val (.bl false)) := rfl
  have i2 : isiG kits plainCs h [.bl b, .ty "bool"] = some (.val (.bl true)) := rfl
  simp [i1, i2, szL, ZL.isNon]
theorem f_law_is_two (h : Hv) (a b : Bool) : F__law_is 20 [.lst [.bl a, .bl b], .lst [.bl a, .bl b]] h = .ok (.bl true) h := by
  refine Res.wp_eq (run_wp ?_)
  unfold m__law_is
  have i1 : isiG kits plainCs h [.lst [.bl a, .bl b], .tup [.ty "tuple", .ty "list"]] = some (.val (.bl true)) := rfl
  have i2 : isiG kits plainCs h [.lst [.bl a, .bl b], .ty "tuple"] = some (.val (.bl false)) := rfl
  have hl : lcRun [some (.lst [.bl a, .bl b]), some (.lst [.bl a, .bl b]), none, none] (gTp [gOne 2, gOne 3]) zYes (zCall (F__law_is 19) (zCons (zVar 2) (zCons (zVar 3) zNil))) [prZ (.bl a) (.bl a), prZ (.bl b) (.bl b)] h = .ok [.bl true, .bl true] h :=
    lc_tp2 (f := fun _ _ => Z.bl true) (zs := [(Z.bl a, Z.bl a), (Z.bl b, Z.bl b)]) fun q hq => by
      simp only [List.mem_cons, List.not_mem_nil, or_false] at hq
      rcases hq with rfl | rfl
      · exact Res.wp_eq (by simp [f_law_is_bl h a 18])
      · exact Res.wp_eq (by simp [f_law_is_bl h b 18])
  have ha : allZ h [.lst [.bl true, .bl true]] = some (.val (.bl true)) := rfl
  simp [i1, i2, szL, ZL.iZip, frozL, hl, ha]
theorem f_equal_right {n : Nat} (hn : n ≤ 1000) {k s p hs k' s' p' hs' : Z} (h : Hv) (c : Cl h) (uk : k.U n = true) (us : s.U n = true) (up : p.U n = true) (uh : hs.U n = true) (e : badB k s p hs = none)
    (uk' : k'.U n = true) (us' : s'.U n = true) (up' : p'.U n = true) (uh' : hs'.U n = true) (e' : badB k' s' p' hs' = none) :
    F__law_equal_right [.tup [k, s, p, hs], .tup [k', s', p', hs']] h = .ok (.bl true) h := by
  refine Res.wp_eq (run_wp ?_)
  unfold m__law_equal_right
  have m1 := make_ok hn k s p hs h c uk us up uh e
  have m2 := make_ok hn k' s' p' hs' h c uk' us' up' uh' e'
  obtain ⟨b, hb⟩ := eqD_T (h := h) (d := 4) (by omega) (good_T hn uk us up uh e) (good_T hn uk' us' up' uh' e')
  have q1 := eqU_prog k s p hs k' s' p' hs' h hb
  have q2 : eqU eqs plainCs h (.tup [k, s, p, hs]) (.tup [k', s', p', hs']) = .ok b h := eqU_data rfl hb
  have hi := f_law_is_two h b (!b)
  simp [m1, m2, q1, q2, hi, szL, gOne_eq]
/-! ### drawing -/
/-- the hand: its cells, its four numbers -/
def hand (cs : List Int) (a b c d : Int) : MO := .lst [.lst (cs.map Z.int), .int a, .int b, .int c, .int d]
/-- a hand that draws -/
def HdOk (m : MO) : Prop := ∃ (cs : List Int) (a b c d : Int), m = hand cs a b c d ∧ cs.length ≤ 63 ∧ (∀ i ∈ cs, 0 ≤ i) ∧ 0 ≤ a ∧ 0 ≤ b ∧ 0 ≤ c ∧ c < 2147483629 ∧ 0 ≤ d
section
variable {xs : List Z} {rest : Hv} {k : Int} {v x y z u w : Z}
@[simp] theorem ixZ_ref0 : ixZ (.lst xs :: rest) (.ref 0) (.int k) = (atI xs k).map .val := rfl
theorem setZ_ref0 : setZ (.lst xs :: rest) (.ref 0) (.int k) v = (match ixN xs.length k with
  | some j => some (.lst (xs.set j v) :: rest)
  | none => none) := rfl
@[simp] theorem setZ_1 : setZ (.lst [x, y, z, u, w] :: rest) (.ref 0) (.int 1) v = some (.lst [x, v, z, u, w] :: rest) := rfl
@[simp] theorem setZ_2 : setZ (.lst [x, y, z, u, w] :: rest) (.ref 0) (.int 2) v = some (.lst [x, y, v, u, w] :: rest) := rfl
@[simp] theorem setZ_3 : setZ (.lst [x, y, z, u, w] :: rest) (.ref 0) (.int 3) v = some (.lst [x, y, z, v, w] :: rest) := rfl
@[simp] theorem setZ_4 : setZ (.lst [x, y, z, u, w] :: rest) (.ref 0) (.int 4) v = some (.lst [x, y, z, u, v] :: rest) := rfl
@[simp] theorem atI_4 : atI [x, y, z, u, w] 4 = some w := rfl
theorem cell_at {cs : List Int} {a : Int} (h0 : 0 ≤ a) (ha : a < cs.length) : ∃ i ∈ cs, atI (cs.map Z.int) a = some (.int i) := by
  obtain ⟨n, rfl⟩ : ∃ n : Nat, a = n := ⟨a.toNat, by omega⟩
  have hn : n < cs.length := by omega
  refine ⟨cs[n], List.getElem_mem _, ?_⟩
  have hn' : (n : Int) < cs.length := by omega
  simp [atI, ixN, hn]
@[simp] theorem pow18 {h : Hv} : powZ h (.int 10) (.int 18) = some (.val (.int (10 ^ 18))) := rfl
end
def draw1 : MS := (zIf (zAnd (zTst (zBin eqZ false (zBin ixZ false (zVar 0) (zC (.int 2))) (zC (.int 0)))) (zTst (zBin ltZ false (zBin ixZ false (zVar 0) (zC (.int 1))) (zCallB ZL.lenZ false (zCons (zBin ixZ false (zVar 0) (zC (.int 0))) zNil)))))
  (zSeq (zAsg (zBin ixZ false (zBin ixZ false (zVar 0) (zC (.int 0))) (zBin ixZ false (zVar 0) (zC (.int 1)))) (gOne 2))
  (zSeq (zSet setZ (zBin addZ false (zBin ixZ false (zVar 0) (zC (.int 1))) (zC (.int 1))) (zVar 0) (zC (.int 1)))
  (zSeq (zSet setZ (zBin modZ false (zCallB intZ false (zCons (zBin addZ false (zBin addZ false (zBin mul0Z false (zBin ixZ false (zVar 0) (zC (.int 3))) (zC (.int 69621))) (zVar 2)) (zC (.int 97))) zNil)) (zC (.int 2147483629))) (zVar 0) (zC (.int 3)))
  (zIf (zTst (zBin geZ false (zVar 2) (zBin powZ false (zC (.int 10)) (zC (.int 18)))))
  (zSet setZ (zVar 2) (zVar 0) (zC (.int 2)))
  zNop))))
  zNop)
theorem draw1_ok {m : MO} (hm : HdOk m) {rest : Hv} {lim : Int} : (draw1 [some (.ref 0), some (.int lim), none, none, none] (m :: rest)).wp (fun s h => ∃ m' q, HdOk m' ∧ h = m' :: rest ∧ s = [some (.ref 0), some (.int lim), q, none, none]) fun _ _ => False := by
  obtain ⟨cs, a, b, c, d, rfl, h1, h2, h3, h4, h5, h6, h7⟩ := hm
  unfold draw1
  have h0 : HdOk (hand cs a b c d) := ⟨cs, a, b, c, d, rfl, h1, h2, h3, h4, h5, h6, h7⟩
  by_cases hb : b = 0
  · by_cases ha : a < cs.length
    · obtain ⟨i, hi, ei⟩ := cell_at h3 ha
      have hi0 := h2 i hi
      simp [hand, hb, ha, gOne_eq, ei]
      exact ⟨fun _ => ⟨cs, a + 1, i, _, d, rfl, h1, h2, by omega, by omega, by omega, by omega, h7⟩, fun _ => ⟨cs, a + 1, 0, _, d, rfl, h1, h2, by omega, by omega, by omega, by omega, h7⟩⟩
    · subst hb
      simp [hand, ha, gOne_eq]
      exact h0
  · simp [hand, hb, gOne_eq]
    exact h0
def draw2 : MS := (zSeq (zIf (zTst (zBin gtZ false (zBin ixZ false (zVar 0) (zC (.int 2))) (zC (.int 0))))
  (zSeq (zAsg (zBin modZ false (zCallB intZ false (zCons (zBin ixZ false (zVar 0) (zC (.int 2))) zNil)) (zVar 1)) (gOne 3))
  (zSeq (zSet setZ (zBin fdivZ false (zBin ixZ false (zVar 0) (zC (.int 2))) (zVar 1)) (zVar 0) (zC (.int 2)))
  (zRet (zVar 3))))
  zNop)
  (zSeq (zSet setZ (zBin addZ false (zBin ixZ false (zVar 0) (zC (.int 4))) (zC (.int 1))) (zVar 0) (zC (.int 4)))
  (zSeq (zAsg (zBin modZ false (zCallB intZ false (zCons (zBin mul0Z false (zCallB intZ false (zCons (zBin addZ false (zBin ixZ false (zVar 0) (zC (.int 3))) (zBin mul0Z false (zC (.int 7919)) (zBin ixZ false (zVar 0) (zC (.int 4))))) zNil)) (zC (.int 48271))) zNil)) (zC (.int 2147483647))) (gOne 4))
  (zSeq (zAsg (zBin modZ false (zCallB intZ false (zCons (zBin mul0Z false (zVar 4) (zBin addZ false (zBin fdivZ false (zVar 4) (zC (.int 1009))) (zC (.int 69621)))) zNil)) (zC (.int 2147483647))) (gOne 4))
  (zSeq (zAsg (zBin modZ false (zCallB intZ false (zCons (zBin mul0Z false (zVar 4) (zBin addZ false (zBin fdivZ false (zVar 4) (zC (.int 2003))) (zC (.int 40692)))) zNil)) (zC (.int 2147483399))) (gOne 4))
  (zRet (zBin modZ false (zCallB intZ false (zCons (zBin fdivZ false (zVar 4) (zC (.int 16))) zNil)) (zVar 1)))))))) 
theorem seq_rt {t u : MS} {s : Sg} {h h1 : Hv} {z : Z} (e : t s h = .rt z h1) : zSeq t u s h = .rt z h1 := by unfold zSeq; rw [e]
theorem num1 {cs : List Int} {a b c d : Int} {rest : Hv} {r l q w : Option Z} (hr : r = some (.ref 0)) : ∃ y, (zAsg (zBin modZ false (zCallB intZ false (zCons (zBin mul0Z false (zCallB intZ false (zCons (zBin addZ false (zBin ixZ false (zVar 0) (zC (.int 3))) (zBin mul0Z false (zC (.int 7919)) (zBin ixZ false (zVar 0) (zC (.int 4))))) zNil)) (zC (.int 48271))) zNil)) (zC (.int 2147483647))) (gOne 4)) [r, l, q, none, w] (hand cs a b c d :: rest) = .nx [r, l, q, none, some (.int y)] (hand cs a b c d :: rest) ∧ 0 ≤ y ∧ y < 2147483647 := by
  subst hr
  refine ⟨((c + 7919 * d) * 48271) % 2147483647, ?_, by omega, by omega⟩
  refine RS.wp_eqN ?_
  simp [hand, gOne_eq]
theorem num2 {h : Hv} {r l q : Option Z} {x k m M : Int} (hx : 0 ≤ x ∧ x < 2147483647) (hk : 0 < k ∧ k < 1073741824) (hM : 0 < M) : ∃ y, (zAsg (zBin modZ false (zCallB intZ false (zCons (zBin mul0Z false (zVar 4) (zBin addZ false (zBin fdivZ false (zVar 4) (zC (.int k))) (zC (.int m)))) zNil)) (zC (.int M))) (gOne 4)) [r, l, q, none, some (.int x)] h = .nx [r, l, q, none, some (.int y)] h ∧ 0 ≤ y ∧ y < M := by
  have hb : (-(2 ^ 64) < x ∧ x < 2 ^ 64) := by omega
  refine ⟨(x * (x / k + m)) % M, ?_, Int.emod_nonneg _ (by omega), Int.emod_lt_of_pos _ hM⟩
  refine RS.wp_eqN ?_
  simp only [wp_asg, wp_bin, wp_callB, wp_cons, wp_nil, wp_varS, wp_var0, wp_c, fdivZ_int, if_pos hk, wp_val, addZ_int, mul0Z_int, if_pos (Or.inl hb : (-(2 ^ 64) < x ∧ x < 2 ^ 64) ∨ _), intZ_int, modZ_int, if_pos hM, gOne_eq]
  exact ⟨_, rfl, rfl, trivial⟩
theorem draw2_ok {m : MO} (hm : HdOk m) {rest : Hv} {lim : Int} {q : Option Z} (l1 : 0 < lim) (l2 : lim < 1073741824) : (draw2 [some (.ref 0), some (.int lim), q, none, none] (m :: rest)).wp (fun _ _ => False) fun z h => ∃ m' r, HdOk m' ∧ h = m' :: rest ∧ z = .int r ∧ 0 ≤ r ∧ r < lim := by
  obtain ⟨cs, a, b, c, d, rfl, h1, h2, h3, h4, h5, h6, h7⟩ := hm
  unfold draw2
  by_cases hb : 0 < b
  · have es : ((zIf (zTst (zBin gtZ false (zBin ixZ false (zVar 0) (zC (.int 2))) (zC (.int 0)))) (zSeq (zAsg (zBin modZ false (zCallB intZ false (zCons (zBin ixZ false (zVar 0) (zC (.int 2))) zNil)) (zVar 1)) (gOne 3)) (zSeq (zSet setZ (zBin fdivZ false (zBin ixZ false (zVar 0) (zC (.int 2))) (zVar 1)) (zVar 0) (zC (.int 2))) (zRet (zVar 3)))) zNop) [some (.ref 0), some (.int lim), q, none, none] (hand cs a b c d :: rest)) = .rt (.int (b % lim)) (hand cs a (b / lim) c d :: rest) := RS.wp_eqR (by simp [hand, hb, gOne_eq, l1, l2])
    rw [seq_rt es]
    exact ⟨_, _, ⟨cs, a, b / lim, c, d, rfl, h1, h2, h3, Int.ediv_nonneg h4 (by omega), h5, h6, h7⟩, rfl, rfl, Int.emod_nonneg _ (by omega), Int.emod_lt_of_pos _ l1⟩
  · obtain ⟨y1, e1, y1a, y1b⟩ := num1 (cs := cs) (a := a) (b := b) (c := c) (d := d + 1) (rest := rest) (r := some (.ref 0)) (l := some (.int lim)) (q := q) (w := none) rfl
    obtain ⟨y2, e2, y2a, y2b⟩ := num2 (h := hand cs a b c (d + 1) :: rest) (r := some (.ref 0)) (l := some (.int lim)) (q := q) (x := y1) (k := 1009) (m := 69621) (M := 2147483647) ⟨y1a, y1b⟩ (by omega) (by omega)
    obtain ⟨y3, e3, y3a, y3b⟩ := num2 (h := hand cs a b c (d + 1) :: rest) (r := some (.ref 0)) (l := some (.int lim)) (q := q) (x := y2) (k := 2003) (m := 40692) (M := 2147483399) ⟨y2a, y2b⟩ (by omega) (by omega)
    have es : ((zIf (zTst (zBin gtZ false (zBin ixZ false (zVar 0) (zC (.int 2))) (zC (.int 0)))) (zSeq (zAsg (zBin modZ false (zCallB intZ false (zCons (zBin ixZ false (zVar 0) (zC (.int 2))) zNil)) (zVar 1)) (gOne 3)) (zSeq (zSet setZ (zBin fdivZ false (zBin ixZ false (zVar 0) (zC (.int 2))) (zVar 1)) (zVar 0) (zC (.int 2))) (zRet (zVar 3)))) zNop) [some (.ref 0), some (.int lim), q, none, none] (hand cs a b c d :: rest)) = .nx [some (.ref 0), some (.int lim), q, none, none] (hand cs a b c d :: rest) := RS.wp_eqN (by simp [hand, hb])
    have et : (zSet setZ (zBin addZ false (zBin ixZ false (zVar 0) (zC (.int 4))) (zC (.int 1))) (zVar 0) (zC (.int 4)) [some (.ref 0), some (.int lim), q, none, none] (hand cs a b c d :: rest)) = .nx [some (.ref 0), some (.int lim), q, none, none] (hand cs a b c (d + 1) :: rest) := RS.wp_eqN (by simp [hand])
    rw [seq_nx es, seq_nx et, seq_nx e1, seq_nx e2, seq_nx e3]
    simp [l1]
    exact ⟨_, ⟨cs, a, b, c, d + 1, rfl, h1, h2, h3, h4, h5, h6, by omega⟩, rfl, Int.emod_nonneg _ (by omega), Int.emod_lt_of_pos _ l1⟩
end K01
set_option Elab.async false
set_option linter.all false
set_option maxRecDepth 100000
set_option maxHeartbeats 1000000
namespace ZL
open PySem PySem.Spec PyProof.Rows L2
theorem atI_mem {α : Type} {xs : List α} {r : Int} (r0 : 0 ≤ r) (r1 : r < xs.length) : ∃ x ∈ xs, atI xs r = some x := by
  obtain ⟨n, rfl⟩ : ∃ n : Nat, r = n := ⟨r.toNat, by omega⟩
  have hn : n < xs.length := by omega
  refine ⟨xs[n], List.getElem_mem _, ?_⟩
  simp [atI, ixN, hn]
@[simp] theorem ok_bind {α β : Type} (a : α) (h : Hv) (k : α → Hv → Res β) : (Res.ok a h).bind k = k a h := rfl
/-- a loop that keeps something -/
theorem for_inv {I : Sg → Hv → Prop} {R : Z → Hv → Prop} {g : TgZ} {body : MS} : ∀ {zs : List Z} {s : Sg} {h : Hv}, I s h → (∀ z ∈ zs, ∀ s h, I s h → ∃ s1, g z s = some s1 ∧ (body s1 h).wp I R) → (forRun g body zs s h).wp I R
  | [], _, _, h0, _ => h0
  | z :: zs, s, h, h0, st => by
    obtain ⟨s1, e, w⟩ := st z (by simp) s h h0
    rw [forRun, e]
    simp only
    cases hb : body s1 h <;> rw [hb] at w
    · simp only
      exact for_inv (zs := zs) w fun y hy => st y (by simp [hy])
    · exact w
    all_goals exact w.elim
theorem mem_rng {lo : Int} {k : Nat} {z : Z} (h : z ∈ rng lo k) : ∃ i : Nat, i < k ∧ z = .int (lo + i) := by
  unfold rng at h
  simp only [List.mem_map, List.mem_range] at h
  obtain ⟨i, hi, rfl⟩ := h
  exact ⟨i, hi, rfl⟩
theorem rng_len (lo : Int) (k : Nat) : (rng lo k).length = k := by simp [rng]
@[simp] theorem wp_r1 {s : Sg} {h : Hv} {Q : List Z → Hv → Prop} (t : MA) : (iR1 t s h).wp Q = (t s h).wp fun zs h1 => ∃ j, zs = [.int j] ∧ -(2 ^ 62) ≤ j ∧ j.toNat ≤ sizeLine ∧ Q (rng 0 j.toNat) h1 := by
  unfold iR1; rw [wp_bind]; congr 1; funext zs h1
  split
  · rename_i j
    split <;> rename_i e
    · exact propext ⟨fun q => ⟨j, rfl, e.1, e.2, q⟩, fun ⟨_, e1, _, _, q⟩ => by cases e1; exact q⟩
    · exact propext ⟨fun q => q.elim, fun ⟨_, e1, q1, q2, _⟩ => by cases e1; exact e ⟨q1, q2⟩⟩
  · rename_i e
    refine propext ⟨fun q => q.elim, ?_⟩
    rintro ⟨j, rfl, _⟩
    exact e j rfl
theorem szN : sizeLine = 16777216 := id rfl
@[simp] theorem wp_ifv {p : Prop} {_ : Decidable p} {mu : Bool} {h : Hv} {o : Out} {Q : Z → Hv → Prop} : (Out.go mu h (if p then some o else none)).wp Q = (p ∧ (Out.go mu h (some o)).wp Q) := by
  by_cases hp : p
  · rw [if_pos hp]; exact (and_iff_right hp).symm |> propext
  · rw [if_neg hp]; exact propext ⟨fun q => q.elim, fun q => absurd q.1 hp⟩
@[simp] theorem rng_zero (lo : Int) : rng lo 0 = [] := rfl
end ZL
namespace K01
open PySem PySem.Spec PyProof.Rows L2 ZL
/-- after a draw -/
def Dr (rest : Hv) (P : Z → Prop) (z : Z) (h : Hv) : Prop := ∃ m', HdOk m' ∧ h = m' :: rest ∧ P z
theorem draw_ok {m : MO} (hm : HdOk m) {rest : Hv} {lim : Int} (l1 : 0 < lim) (l2 : lim < 1073741824) :
    (F__law_draw [.ref 0, .int lim] (m :: rest)).wp (Dr rest fun z => ∃ r, z = .int r ∧ 0 ≤ r ∧ r < lim) := by
  refine run_wp ?_
  show (zSeq draw1 draw2 [some (.ref 0), some (.int lim), none, none, none] (m :: rest)).wp _ _
  rw [wp_seq]
  refine RS.wp_mono (draw1_ok hm) ?_ (fun _ _ e => e.elim)
  rintro s h ⟨m', q, hm', rfl, rfl⟩
  refine RS.wp_mono (draw2_ok hm' l1 l2) (fun _ _ e => e.elim) ?_
  rintro z h ⟨m2, r, hm2, rfl, rfl, r0, r1⟩
  rw [fin_len (by simp)]
  exact ⟨m2, hm2, rfl, r, rfl, r0, r1⟩
theorem some_ok {m : MO} (hm : HdOk m) {rest : Hv} {xs : List Z} {c : Z} (hc : c = .lst xs ∨ c = .tup xs) (l1 : 0 < xs.length) (l2 : xs.length < 1073741824) :
    (F__law_some [.ref 0, c] (m :: rest)).wp (Dr rest (· ∈ xs)) := by
  refine run_wp ?_
  unfold m__law_some
  have hl : ∀ h, ZL.lenZ h [c] = some (.val (.int xs.length)) := fun h => by rcases hc with rfl | rfl <;> simp
  have hi : ∀ h k, ixZ h c (.int k) = (atI xs k).map .val := fun h k => by rcases hc with rfl | rfl <;> simp
  simp [hl]
  refine Res.wp_mono (draw_ok hm (by omega) (by omega)) ?_
  rintro z h ⟨m', hm', rfl, r, rfl, r0, r1⟩
  obtain ⟨x, hx, e⟩ := atI_mem r0 r1
  simp [hi, e]
  rw [fin_len (by simp)]
  exact ⟨m', hm', rfl, hx⟩
theorem lc_dr {s : Sg} {i : Nat} {te : ME} {P : Z → Prop} {rest : Hv} : ∀ {zs : List Z} {m : MO}, HdOk m → (∀ z ∈ zs, ∀ m, HdOk m → (te (s.set i (some z)) (m :: rest)).wp (Dr rest P)) → (lcRun s (gOne i) zYes te zs (m :: rest)).wp fun ys h => ∃ m', HdOk m' ∧ h = m' :: rest ∧ ys.length = zs.length ∧ ∀ y ∈ ys, P y
  | [], m, hm, _ => ⟨m, hm, rfl, rfl, fun _ h => by cases h⟩
  | z :: zs, m, hm, st => by
    have w := st z (by simp) m hm
    rw [lcRun]
    simp only [gOne, zYes, Res.nox, ok_bind, if_true]
    cases e : te (s.set i (some z)) (m :: rest) <;> rw [e] at w
    · obtain ⟨m', hm', rfl, hp⟩ := w
      simp only [Res.nox, ok_bind, wp_bind, wp_ok]
      refine Res.wp_mono (lc_dr (zs := zs) hm' fun y hy => st y (by simp [hy])) ?_
      rintro ys h ⟨m2, hm2, rfl, hl, hy⟩
      exact ⟨m2, hm2, rfl, by simp [hl], fun y hy' => by
        rcases List.mem_cons.mp hy' with rfl | hy'
        · exact hp
        · exact hy y hy'⟩
    · exact w.elim
    · exact w.elim
/-- a comprehension that draws which to keep -/
theorem lc_drf {s : Sg} {i : Nat} {te : ME} {tt : MT} {rest : Hv} (ht : ∀ z h, te (s.set i (some z)) h = .ok z h) : ∀ {zs : List Z} {m : MO}, HdOk m → (∀ z ∈ zs, ∀ m, HdOk m → (tt (s.set i (some z)) (m :: rest)).wp fun _ h => ∃ m', HdOk m' ∧ h = m' :: rest) → (lcRun s (gOne i) tt te zs (m :: rest)).wp fun ys h => ∃ m', HdOk m' ∧ h = m' :: rest ∧ ys.Sublist zs
  | [], m, hm, _ => ⟨m, hm, rfl, .slnil⟩
  | z :: zs, m, hm, st => by
    have w := st z (by simp) m hm
    rw [lcRun]
    simp only [gOne]
    cases e : tt (s.set i (some z)) (m :: rest) <;> rw [e] at w
    · obtain ⟨m', hm', rfl⟩ := w
      simp only [Res.nox, ok_bind]
      have ih := lc_drf (te := te) (zs := zs) ht hm' fun y hy => st y (by simp [hy])
      split
      · rw [ht]
        simp only [Res.nox, ok_bind, wp_bind, wp_ok]
        refine Res.wp_mono ih ?_
        rintro ys h ⟨m2, hm2, rfl, hl⟩
        exact ⟨m2, hm2, rfl, hl.cons_cons _⟩
      · refine Res.wp_mono ih ?_
        rintro ys h ⟨m2, hm2, rfl, hl⟩
        exact ⟨m2, hm2, rfl, hl.cons _⟩
    · exact w.elim
    · exact w.elim
/-! labels -/
def lowS (x : Str) : Prop := ∀ c ∈ x.cps.toList, 97 ≤ c ∧ c ≤ 122
def LabP (z : Z) : Prop := ∃ x : Str, z = .str x ∧ 1 ≤ x.length ∧ x.length ≤ 10 ∧ lowS x
theorem low_sub {c : Nat} (h : 97 ≤ c ∧ c ≤ 122) : subS ⟨#[c]⟩ letters = true := by
  have : ∀ k : Fin 26, subS ⟨#[97 + k.val]⟩ letters = true := by decide +kernel
  have h' := this ⟨c - 97, by omega⟩
  simp only at h'
  rwa [show 97 + (c - 97) = c by omega] at h'
theorem LabP.lab {z : Z} (h : LabP z) : labB z = true := by
  obtain ⟨x, rfl, h1, h2, h3⟩ := h
  unfold labB
  simp only [Bool.and_eq_true, decide_eq_true_eq, List.all_eq_true]
  refine ⟨⟨h1, h2⟩, fun z hz => ?_⟩
  unfold ZL.signs at hz
  simp only [List.mem_map] at hz
  obtain ⟨c, hc, rfl⟩ := hz
  exact low_sub (h3 c hc)
theorem LabP.U {z : Z} (h : LabP z) {n : Nat} (hn : 10 ≤ n) : z.U n = true := by
  obtain ⟨x, rfl, h1, h2, h3⟩ := h
  simp only [Z.U, Bool.and_eq_true, decide_eq_true_eq, okS]
  refine ⟨by omega, ?_⟩
  rw [List.all_eq_true]
  intro c hc
  have := h3 c hc
  simp only [okC, decide_eq_true_eq]
  omega
/-- one letter -/
def OneP (z : Z) : Prop := ∃ c, z = .str ⟨#[c]⟩ ∧ 97 ≤ c ∧ c ≤ 122
theorem one_of {x : Str} {h : Hv} {r : Int} (hx : lowS x) (hl : x.length ≤ 1000) (r0 : 0 ≤ r) (r1 : r < x.length) : ∃ c, ixZ h (.str x) (.int r) = some (.val (.str ⟨#[c]⟩)) ∧ 97 ≤ c ∧ c ≤ 122 := by
  have hs : x.length ≤ sizeLine := by rw [szL]; omega
  obtain ⟨c, hc, e⟩ := atI_mem (xs := x.cps.toList) r0 (by simpa [Str.length] using r1)
  refine ⟨c, ?_, hx c hc⟩
  show (if x.length ≤ sizeLine then (atI x.cps.toList r).map fun c => Out.val (.str ⟨#[c]⟩) else none) = _
  rw [if_pos hs, e]; rfl
theorem ones_strs : ∀ {ys : List Z}, (∀ y ∈ ys, OneP y) → ∃ ss, strsOf ys = some ss ∧ ss.length = ys.length ∧ ∀ x ∈ ss, x.length = 1 ∧ lowS x
  | [], _ => ⟨[], rfl, rfl, fun _ h => by cases h⟩
  | y :: ys, h => by
    obtain ⟨c, rfl, hc⟩ := h y (by simp)
    obtain ⟨ss, e, hl, hs⟩ := ones_strs (ys := ys) fun z hz => h z (by simp [hz])
    refine ⟨⟨#[c]⟩ :: ss, by rw [strsOf, e]; rfl, by simp [hl], fun x hx => ?_⟩
    rcases List.mem_cons.mp hx with rfl | hx
    · exact ⟨rfl, fun d hd => by simp at hd; subst hd; exact hc⟩
    · exact hs x hx
end K01
set_option Elab.async false
set_option linter.all false
set_option maxRecDepth 100000
set_option maxHeartbeats 1000000
namespace ZL
open PySem PySem.Spec PyProof.Rows L2
theorem str_app (a b : Str) : (a ++ b).cps.toList = a.cps.toList ++ b.cps.toList := by
  show (a.cps ++ b.cps).toList = _
  simp
theorem join0' {a : Str} (ha : a.cps.toList = []) : ∀ ss : List Str, (Str.join a ss).cps.toList = (ss.map fun x => x.cps.toList).flatten
  | [] => rfl
  | [x] => by simp [Str.join]
  | x :: y :: ss => by
    rw [Str.join, str_app, str_app, join0' ha (y :: ss), ha]
    · simp
    · simp
theorem join0 {a : Str} (ha : a.cps.toList = []) (ss : List Str) : (Txt.join a ss).cps.toList = (ss.map fun x => x.cps.toList).flatten := by
  show (PySem.Builtin.Str.glued a ss).cps.toList = _
  rw [StrLaws.glued_eq_join, join0' ha]
theorem sum_rep (n k : Nat) : (List.replicate n k).sum = n * k := by
  induction n with
  | zero => simp
  | succ n ih => rw [List.replicate_succ, List.sum_cons, ih, Nat.succ_mul]; omega
theorem len_toList (x : Str) : x.cps.toList.length = x.length := by simp [Str.length]
end ZL
namespace K01
open PySem PySem.Spec PyProof.Rows L2 ZL
@[simp] theorem gOne_eq' (i : Nat) (z : Z) (s : Sg) : gOne i z s = some (s.set i (some z)) := rfl
theorem join_ones {ss : List Str} (h : ∀ x ∈ ss, x.length = 1 ∧ lowS x) : (Txt.join "" ss).length = ss.length ∧ lowS (Txt.join "" ss) := by
  have e := join0 (a := "") rfl ss
  constructor
  · rw [← len_toList, e, List.length_flatten, List.map_map]
    have : ss.map (List.length ∘ fun x => x.cps.toList) = ss.map fun _ => 1 := List.map_congr_left fun x hx => by
      show x.cps.toList.length = 1
      rw [len_toList]; exact (h x hx).1
    rw [this, List.map_const']; simp
  · intro c hc
    rw [e] at hc
    simp only [List.mem_flatten, List.mem_map] at hc
    obtain ⟨l, ⟨x, hx, rfl⟩, hc⟩ := hc
    exact (h x hx).2 c hc
theorem label_ok {m : MO} (hm : HdOk m) {rest : Hv} : (F__law_label [.ref 0] (m :: rest)).wp (Dr rest LabP) := by
  refine run_wp ?_
  unfold m__law_label
  simp [szN]
  refine Res.wp_mono (some_ok hm (.inl rfl) (by simp) (by simp)) ?_
  rintro z h ⟨m, hm, rfl, hz⟩
  have hz' : ∃ x : Str, z = .str x ∧ lowS x ∧ 1 ≤ x.length ∧ x.length ≤ 26 := by
    have l1 : lowS "ab" ∧ lowS "abc" ∧ lowS "abcdefghijklmnopqrstuvwxyz" := by unfold lowS; decide +kernel
    simp only [List.mem_cons, List.not_mem_nil, or_false] at hz
    rcases hz with rfl | rfl | rfl
    · exact ⟨_, rfl, l1.1, by decide +kernel, by decide +kernel⟩
    · exact ⟨_, rfl, l1.2.1, by decide +kernel, by decide +kernel⟩
    · exact ⟨_, rfl, l1.2.2, by decide +kernel, by decide +kernel⟩
  obtain ⟨x, rfl, lx, x1, x2⟩ := hz'
  clear hz
  refine Res.wp_mono (draw_ok hm (by omega) (by omega)) ?_
  rintro z h ⟨m, hm, rfl, r, rfl, r0, r1⟩
  have key : ∀ (k : Int) (m : MO), HdOk m → 1 ≤ k → k ≤ 10 → (lcRun [some (.ref 0), some (.str x), some (.int k), none] (gOne 3) zYes (zBin ixZ false (zVar 1) (zCall F__law_draw (zCons (zVar 0) (zCons (zCallB ZL.lenZ false (zCons (zVar 1) zNil)) zNil)))) (rng 0 k.toNat) (m :: rest)).wp fun ys h => ∃ m', HdOk m' ∧ h = m' :: rest ∧ ys.length = (rng 0 k.toNat).length ∧ ∀ y ∈ ys, OneP y := by
    intro k m hm k1 k2
    refine lc_dr hm fun z hz m hm => ?_
    simp [szN]
    refine ⟨by omega, Res.wp_mono (draw_ok hm (by omega) (by omega)) ?_⟩
    rintro z h ⟨m, hm, rfl, r, rfl, r0, r1⟩
    obtain ⟨c, e, hc⟩ := one_of (h := m :: rest) lx (by omega) r0 r1
    simp [e]
    exact ⟨m, hm, rfl, c, rfl, hc⟩
  have fin' : ∀ (k : Int) (m : MO), HdOk m → 1 ≤ k → k ≤ 10 → (lcRun [some (.ref 0), some (.str x), some (.int k), none] (gOne 3) zYes (zBin ixZ false (zVar 1) (zCall F__law_draw (zCons (zVar 0) (zCons (zCallB ZL.lenZ false (zCons (zVar 1) zNil)) zNil)))) (rng 0 k.toNat) (m :: rest)).wp fun ys h => (Out.go false h (joinZ h (.str "") [.lst ys])).wp fun z h => (fin (m :: rest).length z h).wp (Dr rest LabP) := by
    intro k m hm k1 k2
    refine Res.wp_mono (key k m hm k1 k2) ?_
    rintro ys h ⟨m', hm', rfl, hl, hy⟩
    obtain ⟨ss, e, sl, hs⟩ := ones_strs hy
    rw [rng_len] at hl
    obtain ⟨j1, j2⟩ := join_ones hs
    have ej : joinZ (m' :: rest) (.str "") [.lst ys] = some (.val (.str (Txt.join "" ss))) := by
      unfold joinZ
      simp only [seqOf_lst, e]
      rw [if_pos]
      have : (ss.map fun x => x.length) = ss.map fun _ => 1 := List.map_congr_left fun x hx => (hs x hx).1
      rw [this, List.map_const', sum_rep]
      have : Str.length "" = 0 := rfl
      rw [this]
      simp
      omega
    rw [ej]
    simp only [wp_val]
    rw [fin_len (by simp)]
    exact ⟨m', hm', rfl, _, rfl, by omega, by omega, j2⟩
  have ht : ∀ h, tyIs "str" h (Z.str (Str.ofString "")) = true := fun _ => rfl
  simp [ht]
  refine ⟨fun _ => fin' 10 m hm (by omega) (by omega), fun _ => ?_⟩
  refine Res.wp_mono (draw_ok hm (by omega) (by omega)) ?_
  rintro z h ⟨m, hm, rfl, r, rfl, r0, r1⟩
  simp
  exact ⟨by omega, by omega, fin' (1 + r) m hm (by omega) (by omega)⟩
end K01
set_option Elab.async false
set_option linter.all false
set_option maxRecDepth 100000
set_option maxHeartbeats 1000000
namespace ZL
open PySem PySem.Spec PyProof.Rows L2
theorem for_invk {I : Nat → Sg → Hv → Prop} {R : Z → Hv → Prop} {g : TgZ} {body : MS} : ∀ {zs : List Z} {k : Nat} {s : Sg} {h : Hv}, I k s h → (∀ j, j < k + zs.length → ∀ z ∈ zs, ∀ s h, I j s h → ∃ s1, g z s = some s1 ∧ (body s1 h).wp (I (j + 1)) R) → (forRun g body zs s h).wp (I (k + zs.length)) R
  | [], _, _, _, h0, _ => h0
  | z :: zs, k, s, h, h0, st => by
    obtain ⟨s1, e, w⟩ := st k (by simp) z (by simp) s h h0
    rw [forRun, e]
    simp only
    cases hb : body s1 h <;> rw [hb] at w
    · simp only
      have r := for_invk (zs := zs) w fun j hj y hy => st j (by simp; omega) y (by simp [hy])
      rwa [show k + 1 + zs.length = k + (z :: zs).length by simp; omega] at r
    · exact w
    all_goals exact w.elim
theorem nub_of_nodup : ∀ {ks σ : List Key}, ks.Nodup → (∀ k ∈ ks, k ∉ σ) → (ks.foldl metS σ).length = σ.length + ks.length
  | [], σ, _, _ => rfl
  | k :: ks, σ, hn, hs => by
    obtain ⟨n1, n2⟩ := List.nodup_cons.mp hn
    have e : metS σ k = σ ++ [k] := by
      unfold metS
      rw [if_neg]
      intro ha
      obtain ⟨x, hx, e⟩ := List.any_eq_true.mp ha
      simp only [decide_eq_true_eq] at e
      subst e
      exact hs x (by simp) hx
    rw [List.foldl_cons, e, nub_of_nodup n2]
    · simp; omega
    · intro x hx
      simp only [List.mem_append, List.mem_singleton, not_or]
      exact ⟨hs x (by simp [hx]), fun e => n1 (e ▸ hx)⟩
@[simp] theorem get_end {m o : MO} {rest : Hv} : (m :: (rest ++ [o]))[rest.length + 1]? = some o := by simp
@[simp] theorem set_end {m o o' : MO} {rest : Hv} : (m :: (rest ++ [o])).set (rest.length + 1) o' = m :: (rest ++ [o']) := by simp
@[simp] theorem wp_r2 {s : Sg} {h : Hv} {Q : List Z → Hv → Prop} (t : MA) : (iR2 t s h).wp Q = (t s h).wp fun zs h1 => ∃ i j, zs = [.int i, .int j] ∧ (-(2 ^ 62) ≤ i ∧ i < 2 ^ 62 ∧ -(2 ^ 62) ≤ j ∧ j < 2 ^ 62) ∧ (j - i).toNat ≤ sizeLine ∧ Q (rng i (j - i).toNat) h1 := by
  unfold iR2; rw [wp_bind]; congr 1; funext zs h1
  split
  · rename_i i j
    split <;> rename_i e
    · exact propext ⟨fun q => ⟨i, j, rfl, e.1, e.2, q⟩, fun ⟨_, _, e1, _, _, q⟩ => by cases e1; exact q⟩
    · exact propext ⟨fun q => q.elim, fun ⟨_, _, e1, q1, q2, _⟩ => by cases e1; exact e ⟨q1, q2⟩⟩
  · rename_i e
    refine propext ⟨fun q => q.elim, ?_⟩
    rintro ⟨i, j, rfl, _⟩
    exact e i j rfl
end ZL
namespace K01
open PySem PySem.Spec PyProof.Rows L2 ZL
theorem hd_blw {m : MO} (hm : HdOk m) (n : Nat) : m.blw n = true := by
  obtain ⟨cs, a, b, c, d, rfl, _⟩ := hm
  have : ∀ cs : List Int, belowL n (cs.map Z.int) = true := fun cs => by
    induction cs with
    | nil => rfl
    | cons c cs ih => rw [List.map_cons, belowL, ih]; rfl
  show belowL n [.lst (cs.map Z.int), .int a, .int b, .int c, .int d] = true
  rw [belowL]
  show (belowL n (cs.map Z.int) && _) = true
  rw [this]; rfl
def Cr (rest : Hv) : Prop := rest.all (·.blw (rest.length + 1)) = true
theorem Cr.cl {m : MO} (hm : HdOk m) {rest : Hv} (c : Cr rest) : ZL.Cl (m :: rest) := by
  unfold ZL.Cl; unfold Cr at c
  rw [List.all_cons, List.length_cons, c, hd_blw hm]; rfl
theorem lab_blws {n : Nat} : ∀ {xs : List Z}, (∀ x ∈ xs, LabP x) → belowL n xs = true
  | [], _ => rfl
  | x :: xs, h => by
    obtain ⟨s, rfl, _⟩ := h x (by simp)
    rw [belowL, lab_blws (xs := xs) fun y hy => h y (by simp [hy])]; rfl
theorem labP_keys : ∀ {xs : List Z}, (∀ x ∈ xs, LabP x) → ∃ ks, keysZ xs = some ks ∧ ks = xs.map fun z => match z with | .str x => .inr x | _ => .inl 0
  | [], _ => ⟨[], rfl, rfl⟩
  | x :: xs, h => by
    obtain ⟨s, rfl, _⟩ := h x (by simp)
    obtain ⟨ks, e, rfl⟩ := labP_keys (xs := xs) fun y hy => h y (by simp [hy])
    exact ⟨_, by rw [keysZ, e]; rfl, rfl⟩
theorem nodupP {xs : List Z} (h : ∀ x ∈ xs, LabP x) (hn : xs.Nodup) : nodupB xs = true := by
  obtain ⟨ks, e, ek⟩ := labP_keys h
  have : ks.Nodup := by
    subst ek
    clear e
    induction xs with
    | nil => exact List.nodup_nil
    | cons x xs ih =>
      obtain ⟨n1, n2⟩ := List.nodup_cons.mp hn
      obtain ⟨s, rfl, _⟩ := h x (by simp)
      refine List.nodup_cons.mpr ⟨fun hm => n1 ?_, ih (fun y hy => h y (by simp [hy])) n2⟩
      simp only [List.mem_map] at hm
      obtain ⟨y, hy, e⟩ := hm
      obtain ⟨t, rfl, _⟩ := h y (by simp [hy])
      simp at e
      rw [← e]; exact hy
  have hl := keysZ_len e
  unfold nodupB
  rw [e]
  simp only [Option.getD_some, decide_eq_true_eq]
  have r := nub_of_nodup this (σ := []) (fun _ _ h => by cases h)
  unfold nubK
  rw [r]; simp [hl]
theorem flatP : ∀ {xs : List Z}, (∀ x ∈ xs, LabP x) → ∃ vs, ZL.allFlat xs = some vs ∧ ∀ x : Str, inV (.str x) vs = true ↔ Z.str x ∈ xs
  | [], _ => ⟨[], rfl, fun x => by simp [inV]⟩
  | y :: xs, h => by
    obtain ⟨s, rfl, _⟩ := h y (by simp)
    obtain ⟨vs, e, hi⟩ := flatP (xs := xs) fun z hz => h z (by simp [hz])
    refine ⟨.str s :: vs, by rw [ZL.allFlat, e]; rfl, fun x => ?_⟩
    have := hi x
    simp only [inV, List.any_cons, Bool.or_eq_true, List.mem_cons, Z.str.injEq] at this ⊢
    rw [this]
    refine or_congr ?_ Iff.rfl
    simp [eqV]
    try exact eq_comm
def LabsP (most : Int) (z : Z) : Prop := ∃ xs, z = .tup xs ∧ 1 ≤ xs.length ∧ xs.length ≤ most ∧ (∀ x ∈ xs, LabP x) ∧ xs.Nodup
theorem labels_ok {m : MO} (hm : HdOk m) {rest : Hv} (c : Cr rest) {most : Int} (l1 : 0 < most) (l2 : most < 1000) : (F__law_labels [.ref 0, .int most] (m :: rest)).wp (Dr rest (LabsP most)) := by
  refine run_wp ?_
  unfold m__law_labels
  simp [szN]
  refine Res.wp_mono (draw_ok hm (by omega) (by omega)) ?_
  rintro z h ⟨m, hm, rfl, r, rfl, r0, r1⟩
  simp
  refine ⟨by omega, by omega, ?_⟩
  refine RS.wp_mono (for_invk (k := 0) (R := fun _ _ => False)
    (I := fun k s h => ∃ m w1 w2 xs, HdOk m ∧ s = [some (.ref 0), some (.int most), some (.ref (rest.length + 1)), w1, w2] ∧ h = m :: (rest ++ [.lst xs]) ∧ xs.length ≤ k ∧ (0 < k → 1 ≤ xs.length) ∧ (∀ x ∈ xs, LabP x) ∧ xs.Nodup)
    ⟨m, none, none, [], hm, rfl, rfl, by simp, by simp, by simp, by simp⟩ ?_) ?_ (fun _ _ e => e.elim)
  rotate_left
  · rintro s h ⟨m, w1, w2, xs, hm, rfl, rfl, h1, h2, h3, h4⟩
    rw [rng_len] at h1 h2
    simp [tupleZ, lstOf]
    have := fin_cut (z := .tup xs) (t := [.lst xs]) (c.cl hm) (lab_blws h3)
    rw [List.cons_append, List.length_cons] at this
    rw [this]
    exact ⟨m, hm, rfl, xs, rfl, h2 (by omega), by omega, h3, h4⟩
  · intro j hj z hz s h ⟨m, w1, w2, xs, hm, e1, e2, h1, h2, h3, h4⟩
    subst e1 e2
    refine ⟨_, rfl, ?_⟩
    simp
    refine Res.wp_mono (label_ok hm) ?_
    rintro z h ⟨m, hm, rfl, x, rfl, x1, x2, x3⟩
    obtain ⟨vs, ev, hv⟩ := flatP h3
    simp [ninZ, inB, seqOf, flatZ, ev, appZ, tyIs]
    rw [rng_len] at hj
    refine ⟨fun hi => ⟨_, _, ⟨by rw [szN]; omega, rfl, rfl⟩, m, hm, _, rfl, by simp; omega, by simp, ?_, ?_⟩, fun hi => ⟨m, hm, xs, ⟨rfl, rfl⟩, by omega, ?_, h3, h4⟩⟩
    · intro y hy
      rcases List.mem_append.mp hy with hy | hy
      · exact h3 y hy
      · simp at hy; subst hy; exact ⟨x, rfl, x1, x2, x3⟩
    · rw [List.nodup_append]
      refine ⟨h4, by simp, fun a ha b hb => ?_⟩
      simp at hb; subst hb
      rintro rfl
      rw [(hv x).mpr ha] at hi; cases hi
    · have := (hv x).mp hi
      exact List.length_pos_of_mem this
theorem LabsP.labs {most : Int} {z : Z} (h : LabsP most z) : labsB 1 most z = true := by
  obtain ⟨xs, rfl, h1, h2, h3, h4⟩ := h
  simp only [labsB, Bool.and_eq_true, decide_eq_true_eq, List.all_eq_true]
  exact ⟨⟨by omega, h2⟩, fun x hx => (h3 x hx).lab, nodupP h3 h4⟩
theorem LabsP.U {most : Int} {z : Z} (h : LabsP most z) {n : Nat} (hn : 10 ≤ n) (hm : most ≤ n) : z.U n = true := by
  obtain ⟨xs, rfl, h1, h2, h3, h4⟩ := h
  simp only [Z.U, Bool.and_eq_true, decide_eq_true_eq]
  exact ⟨by omega, Us_all.mpr fun x hx => (h3 x hx).U hn⟩
end K01
set_option Elab.async false
set_option linter.all false
set_option maxRecDepth 100000
set_option maxHeartbeats 1000000
namespace ZL
open PySem PySem.Spec PyProof.Rows L2
/-! ### how long what repr tells is -/
mutual
def rs : Z → Nat
  | .str x => x.length + 2
  | .tup xs => rss xs + 3
  | .lst xs => rss xs + 3
  | _ => 40
def rss : List Z → Nat
  | [] => 0
  | x :: xs => rs x + 2 + rss xs
end
mutual
def dep : Z → Nat
  | .tup xs => deps xs + 1
  | .lst xs => deps xs + 1
  | .dkf _ _ => 1
  | _ => 0
def deps : List Z → Nat
  | [] => 0
  | x :: xs => max (dep x) (deps xs)
end
def cOk (x : Str) : Prop := ∀ c ∈ x.cps.toList, c < 0x110000
theorem cOk_strOk {x : Str} (h : cOk x) : PyData.strOk x = true := by
  unfold PyData.strOk
  rw [← Array.all_toList, List.all_eq_true]
  intro c hc
  have := h c hc
  simp only [decide_eq_true_eq]; exact this
theorem cOk_app {a b : Str} (ha : cOk a) (hb : cOk b) : cOk (a ++ b) := by
  intro c hc
  rw [str_app] at hc
  rcases List.mem_append.mp hc with hc | hc
  · exact ha c hc
  · exact hb c hc
theorem cOk_of (s : String) : cOk (Str.ofString s) := by
  intro c hc
  rw [Str.ofString_eq_toList] at hc
  simp only [List.mem_map] at hc
  obtain ⟨d, _, rfl⟩ := hc
  have := d.valid
  unfold Char.toNat
  have h' : d.val.toNat.isValidChar := this
  unfold Nat.isValidChar at h'
  omega
theorem cOk_join {a : Str} (ha : cOk a) : ∀ {ss : List Str}, (∀ x ∈ ss, cOk x) → cOk (Str.join a ss)
  | [], _ => fun c hc => by cases hc
  | [x], h => h x (by simp)
  | x :: y :: ss, h => by
    rw [Str.join]
    · exact cOk_app (cOk_app (h x (by simp)) ha) (cOk_join ha fun z hz => h z (List.mem_cons_of_mem _ hz))
    · simp
theorem cOk_tup {ss : List Str} (h : ∀ x ∈ ss, cOk x) : cOk (tupleText ss) := by
  unfold tupleText
  exact cOk_app (cOk_app (cOk_of _) (cOk_join (cOk_of _) h)) (cOk_of _)
theorem cOk_lst {ss : List Str} (h : ∀ x ∈ ss, cOk x) : cOk (listText ss) := by
  rw [listText_eq_join]
  exact cOk_app (cOk_app (cOk_of _) (cOk_join (cOk_of _) h)) (cOk_of _)
theorem rep_char {q c : Nat} (hc : okC c = true) (hq : q = 39) : Builtin.Str.reprChar q c = [c] := by
  subst hq
  have : ∀ k : Fin 95, okC (32 + k.val) = true → Builtin.Str.reprChar 39 (32 + k.val) = [32 + k.val] := by decide +kernel
  simp only [okC, decide_eq_true_eq] at hc
  have h' := this ⟨c - 32, by omega⟩
  simp only at h'
  rw [show 32 + (c - 32) = c by omega] at h'
  exact h' (by simp only [okC, decide_eq_true_eq]; omega)
theorem okS_all {x : Str} (h : okS x = true) : ∀ c ∈ x.cps.toList, okC c = true := by
  unfold okS at h
  exact List.all_eq_true.mp h
theorem rep_str {x : Str} (h : okS x = true) : (reprText x).cps.toList = 39 :: (x.cps.toList ++ [39]) := by
  have ho := okS_all h
  have hq : reprQuote x = 39 := by
    unfold reprQuote
    rw [if_neg]
    intro hh
    simp only [Bool.and_eq_true] at hh
    have := ho 39 (by simpa using hh.1)
    simp [okC] at this
  unfold reprText
  rw [hq, ← Array.foldl_toList]
  have : ∀ (l : List Nat) (acc : Array Nat), (∀ c ∈ l, okC c = true) → (l.foldl (fun out c => out ++ (Builtin.Str.reprChar 39 c).toArray) acc).toList = acc.toList ++ l := by
    intro l
    induction l with
    | nil => intro acc _; simp
    | cons c l ih =>
      intro acc h
      rw [List.foldl_cons, ih _ fun d hd => h d (by simp [hd]), rep_char (h c (by simp)) rfl]
      simp
  show (Array.push (List.foldl _ _ _) 39).toList = _
  rw [Array.toList_push, this _ _ ho]
  simp
mutual
theorem U_dat {n : Nat} : ∀ {z : Z}, z.U n = true → ∃ d, datZ z = some d ∧ d.showable = true ∧ d.depth ≤ dep z ∧ d.shown.length ≤ rs z ∧ cOk d.shown
  | .non, _ => ⟨.none, rfl, rfl, Nat.le_refl _, by decide +kernel, cOk_of _⟩
  | .bl b, _ => ⟨.bool b, rfl, rfl, Nat.le_refl _, by cases b <;> decide +kernel, by cases b <;> exact cOk_of _⟩
  | .int i, u => by
    simp only [Z.U, decide_eq_true_eq] at u
    refine ⟨.int i, rfl, ?_, Nat.le_refl _, ?_, cOk_of _⟩
    · show decide (i.natAbs.log2 < 1920) = true
      simp only [decide_eq_true_eq]
      by_cases h0 : i.natAbs = 0
      · rw [h0]; decide
      · exact (Nat.log2_lt h0).mpr (Nat.lt_of_le_of_lt u (by decide))
    · have := int_text_length_le10 (a := i) (k := 32) (by omega) (Nat.lt_of_le_of_lt u (by decide))
      show (Str.ofString (toString i)).length ≤ 40
      rw [← len_toList, Str.ofString_eq_toList]
      simp only [List.length_map]
      have e : (toString i).toList.length = (toString i).length := rfl
      omega
  | .str x, u => by
    simp only [Z.U, Bool.and_eq_true] at u
    have e := rep_str u.2
    refine ⟨.str x, rfl, rfl, Nat.le_refl _, ?_, fun c hc => ?_⟩
    · show (reprText x).length ≤ x.length + 2
      rw [← len_toList, e]; simp [Str.length]
    · have hc : c ∈ (reprText x).cps.toList := hc
      rw [e] at hc
      simp only [List.mem_cons, List.mem_append, List.not_mem_nil, or_false] at hc
      rcases hc with rfl | hc | rfl
      · omega
      · have := okS_all u.2 c hc
        simp only [okC, decide_eq_true_eq] at this; omega
      · omega
  | .tup xs, u => by
    simp only [Z.U, Bool.and_eq_true] at u
    obtain ⟨ds, e, a, b, c, d⟩ := Us_dat u.2
    refine ⟨.tuple ds, by simp [datZ, e], a, by show PyData.depthAll ds + 1 ≤ _; exact Nat.succ_le_succ b, ?_, cOk_tup d⟩
    have := tupleText_len_le (PyData.shownAll ds)
    show (tupleText (PyData.shownAll ds)).length ≤ rss xs + 3
    omega
  | .lst xs, u => by
    simp only [Z.U, Bool.and_eq_true] at u
    obtain ⟨ds, e, a, b, c, d⟩ := Us_dat u.2
    refine ⟨.list ds, by simp [datZ, e], a, by show PyData.depthAll ds + 1 ≤ _; exact Nat.succ_le_succ b, ?_, cOk_lst d⟩
    have := listText_len_le (PyData.shownAll ds)
    show (listText (PyData.shownAll ds)).length ≤ rss xs + 3
    omega
  | .dkf ks vs, u => by
    simp only [Z.U, Bool.or_eq_true, Bool.and_eq_true, List.isEmpty_iff] at u
    rcases u with ⟨rfl, rfl⟩ | u
    · exact ⟨.dict [], rfl, rfl, Nat.le_refl _, by decide +kernel, by unfold cOk; decide +kernel⟩
    · split at u
      · exact ⟨.dict [(.int 0, .int 0)], rfl, by decide +kernel, Nat.le_refl _, by decide +kernel, by unfold cOk; decide +kernel⟩
      · cases u
  | .ty _, u => by cases u
  | .glo _, u => by cases u
  | .ref _, u => by cases u
  | .frl _, u => by cases u
  | .ins _ _ _, u => by cases u
  | .exc _ _ _, u => by cases u
theorem Us_dat {n : Nat} : ∀ {xs : List Z}, Us n xs = true → ∃ ds, datZs xs = some ds ∧ PyData.showableAll ds = true ∧ PyData.depthAll ds ≤ deps xs ∧ ((PyData.shownAll ds).map (·.length)).sum + 2 * (PyData.shownAll ds).length ≤ rss xs ∧ ∀ x ∈ PyData.shownAll ds, cOk x
  | [], _ => ⟨[], rfl, rfl, Nat.le_refl _, Nat.le_refl _, fun _ h => by cases h⟩
  | x :: xs, u => by
    simp only [Us, Bool.and_eq_true] at u
    obtain ⟨d, e1, a1, b1, c1, d1⟩ := U_dat u.1
    obtain ⟨ds, e2, a2, b2, c2, d2⟩ := Us_dat u.2
    refine ⟨d :: ds, by rw [datZs, e1, e2], by simp [PyData.showableAll, a1, a2], ?_, ?_, ?_⟩
    · show max _ _ ≤ max _ _
      omega
    · simp only [PyData.shownAll, List.map_cons, List.sum_cons, List.length_cons, rss]
      omega
    · intro y hy
      simp only [PyData.shownAll, List.mem_cons] at hy
      rcases hy with rfl | hy
      · exact d1
      · exact d2 y hy
end
theorem repr_tup {n : Nat} {xs : List Z} (u : (Z.tup xs).U n = true) (hd : dep (.tup xs) ≤ 60) (hs : rs (.tup xs) ≤ 16777216) : ∃ r, (∀ h, reprZ h [.tup xs] = some (.val (.str r))) ∧ PyData.strOk r = true := by
  obtain ⟨d, e, a, b, c, hc⟩ := U_dat u
  refine ⟨d.shown, fun h => ?_, cOk_strOk hc⟩
  unfold reprZ
  simp only [e]
  rw [if_pos ⟨a, by omega, by rw [szN]; omega⟩]
end ZL
set_option Elab.async false
set_option linter.all false
set_option maxRecDepth 100000
set_option maxHeartbeats 1000000
namespace ZL
open PySem PySem.Spec PyProof.Rows L2
section
variable {h : Hv} {xs ys : List Z} {Q : Z → Hv → Prop}
theorem cut_whole {lo hi : Option Int} (h1 : HT.sIx xs.length 0 lo = 0) (h2 : HT.sIx xs.length xs.length hi = xs.length) : cutZ xs lo hi = xs := by
  unfold cutZ; rw [h1, h2]; simp
@[simp] theorem wp_sl_tup {mu : Bool} {lo hi : Option Int} : (Out.go mu h (slZ h (.tup xs) lo hi)).wp Q = Q (.tup (cutZ xs lo hi)) h := by
  show (Out.go mu h (if HT.sIx xs.length 0 lo = 0 ∧ HT.sIx xs.length xs.length hi = xs.length then some (.val (.tup xs)) else some (.tup (cutZ xs lo hi)))).wp Q = _
  split
  · rename_i e; rw [cut_whole e.1 e.2]; rfl
  · rfl
@[simp] theorem wp_add_tup {mu : Bool} : (Out.go mu h (addZ h (.tup xs) (.tup ys))).wp Q = (xs.length + ys.length ≤ sizeLine ∧ Q (.tup (xs ++ ys)) h) := by
  have e : addZ h (.tup xs) (.tup ys) = if xs.length + ys.length ≤ sizeLine then (match xs, ys with
    | [], _ => some (.val (.tup ys))
    | _, [] => some (.val (.tup xs))
    | _, _ => some (.tup (xs ++ ys))) else none := rfl
  rw [e]
  split
  · rename_i hl
    rw [show (xs.length + ys.length ≤ sizeLine ∧ Q (.tup (xs ++ ys)) h) = Q (.tup (xs ++ ys)) h from propext ⟨fun q => q.2, fun q => ⟨hl, q⟩⟩]
    split
    · rfl
    · simp
    · rfl
  · rename_i hl
    exact propext ⟨fun q => q.elim, fun q => absurd q.1 hl⟩
theorem cut_to (k : Nat) : cutZ xs none (some (k : Int)) = xs.take k := by
  unfold cutZ
  rw [HT.sIx_nat, HT.sIx_none]
  simp only [List.drop_zero, Nat.sub_zero]
  by_cases hk : k ≤ xs.length
  · rw [Nat.min_eq_left hk]
  · rw [Nat.min_eq_right (by omega), List.take_of_length_le (Nat.le_refl _), List.take_of_length_le (i := k) (by omega)]
theorem cut_from (k : Nat) : cutZ xs (some (k : Int)) none = xs.drop k := by
  unfold cutZ
  rw [HT.sIx_nat, HT.sIx_none]
  by_cases hk : k ≤ xs.length
  · rw [Nat.min_eq_left hk, List.take_of_length_le (by simp)]
  · rw [Nat.min_eq_right (by omega)]; simp; omega
theorem cut_one (k : Nat) : cutZ xs (some (k : Int)) (some ((k : Int) + 1)) = (xs.drop k).take 1 := by
  unfold cutZ
  rw [HT.sIx_nat, show (k : Int) + 1 = ((k + 1 : Nat) : Int) by omega, HT.sIx_nat]
  by_cases hk : k < xs.length
  · rw [Nat.min_eq_left (by omega), Nat.min_eq_left (by omega)]; congr 1; omega
  · rw [Nat.min_eq_right (by omega), Nat.min_eq_right (by omega)]; simp; omega
theorem cut_m1 : cutZ xs none (some (-1)) = xs.take (xs.length - 1) := by
  unfold cutZ
  have : HT.sIx xs.length xs.length (some (-1)) = xs.length - 1 := by
    show (if (-1 : Int) < 0 then ((-1 : Int) + (xs.length : Int)).toNat else min (-1 : Int).toNat xs.length) = _
    rw [if_pos (by omega)]; omega
  rw [this, HT.sIx_none]; simp
theorem run_rt {k : Nat} {m : MS} {zs : List Z} {z : Z} (e : m (zs.map some ++ List.replicate (k - zs.length) none) h = .rt z h) : ZL.run k m zs h = .ok z h := by
  unfold ZL.run; rw [e]; exact fin_pure z h
end
/-! sizes -/
theorem rss_app : ∀ {xs ys : List Z}, rss (xs ++ ys) = rss xs + rss ys
  | [], ys => by simp [rss]
  | x :: xs, ys => by simp only [List.cons_append, rss, rss_app (xs := xs)]; omega
theorem rss_td {xs : List Z} (k : Nat) : rss (xs.take k) + rss (xs.drop k) = rss xs := by
  rw [← rss_app, List.take_append_drop]
theorem rss_rev : ∀ {xs : List Z}, rss xs.reverse = rss xs
  | [] => rfl
  | x :: xs => by rw [List.reverse_cons, rss_app, rss_rev (xs := xs)]; simp only [rss]; omega
theorem rss_le {E : Nat} : ∀ {xs : List Z}, (∀ x ∈ xs, rs x ≤ E) → rss xs ≤ xs.length * (E + 2)
  | [], _ => by simp [rss]
  | x :: xs, h => by
    have := rss_le (xs := xs) fun y hy => h y (by simp [hy])
    have := h x (by simp)
    simp only [rss, List.length_cons, Nat.succ_mul]; omega
theorem rs_mem {x : Z} : ∀ {xs : List Z}, x ∈ xs → rs x + 2 ≤ rss xs
  | y :: xs, h => by
    rcases List.mem_cons.mp h with rfl | h
    · simp only [rss]; omega
    · have := rs_mem h; simp only [rss]; omega
mutual
def td : Z → Nat
  | .tup xs => tds xs + 1
  | _ => 0
def tds : List Z → Nat
  | [] => 0
  | x :: xs => max (td x) (tds xs)
end
theorem tds_le {t : Nat} : ∀ {xs : List Z}, (∀ x ∈ xs, td x ≤ t) ↔ tds xs ≤ t
  | [] => by simp [tds]
  | x :: xs => by simp only [List.mem_cons, forall_eq_or_imp, tds_le (xs := xs), tds]; omega
theorem deps_le {t : Nat} : ∀ {xs : List Z}, (∀ x ∈ xs, dep x ≤ t) ↔ deps xs ≤ t
  | [] => by simp [deps]
  | x :: xs => by simp only [List.mem_cons, forall_eq_or_imp, deps_le (xs := xs), deps]; omega
def kids : Z → List Z
  | .tup xs => xs
  | _ => []
def Bd : List Nat → Z → Prop
  | [], _ => True
  | b :: bs, z => rs z ≤ b ∧ ∀ x ∈ kids z, Bd bs x
def nb : List Nat → List Nat
  | [] => []
  | [b] => [61 * (b + 2) + 200]
  | b :: c :: bs => max (61 * (c + 2) + 200) (b + (nb (c :: bs)).headD 0 + 60) :: nb (c :: bs)
theorem nb_ne (c : Nat) (bs : List Nat) : ∃ d ds, nb (c :: bs) = d :: ds ∧ ds = nb bs ∧ c ≤ d ∧ 200 ≤ d := by
  cases bs with
  | nil => exact ⟨_, [], rfl, rfl, by omega, by omega⟩
  | cons e bs => exact ⟨_, _, rfl, rfl, by omega, by omega⟩
theorem kid_rs {x z : Z} (h : x ∈ kids z) : rs x + 5 ≤ rs z := by
  cases z with
  | tup xs => have := rs_mem (show x ∈ xs from h); simp only [rs]; omega
  | _ => cases h
theorem Bd_small {z : Z} : ∀ {bs : List Nat} {z : Z}, rs z ≤ 200 → Bd (nb bs) z
  | [], _, _ => trivial
  | b :: bs, z, hz => by
    obtain ⟨d, ds, e, e2, h1, h2⟩ := nb_ne b bs
    rw [e]
    refine ⟨by omega, fun x hx => ?_⟩
    rw [e2]
    exact Bd_small (z := z) (by have := kid_rs hx; omega)
theorem Bd_nb : ∀ {bs : List Nat} {z : Z}, Bd bs z → Bd (nb bs) z
  | [], _, _ => trivial
  | b :: bs, z, hz => by
    obtain ⟨d, ds, e, e2, h1, h2⟩ := nb_ne b bs
    rw [e]
    refine ⟨by have := hz.1; omega, fun x hx => ?_⟩
    rw [e2]
    exact Bd_nb (hz.2 x hx)
mutual
theorem U_mono {n m : Nat} (l : n ≤ m) : ∀ {z : Z}, z.U n = true → z.U m = true
  | .non, _ => rfl
  | .bl _, _ => rfl
  | .int _, u => u
  | .str _, u => by
    simp only [Z.U, Bool.and_eq_true, decide_eq_true_eq] at u ⊢
    exact ⟨by omega, u.2⟩
  | .tup xs, u => by
    simp only [Z.U, Bool.and_eq_true, decide_eq_true_eq] at u ⊢
    exact ⟨by omega, Us_mono l u.2⟩
  | .lst xs, u => by
    simp only [Z.U, Bool.and_eq_true, decide_eq_true_eq] at u ⊢
    exact ⟨by omega, Us_mono l u.2⟩
  | .dkf _ _, u => u
  | .ty _, u => u
  | .glo _, u => u
  | .ref _, u => u
  | .frl _, u => u
  | .ins _ _ _, u => u
  | .exc _ _ _, u => u
theorem Us_mono {n m : Nat} (l : n ≤ m) : ∀ {xs : List Z}, Us n xs = true → Us m xs = true
  | [], _ => rfl
  | x :: xs, u => by
    simp only [Us, Bool.and_eq_true] at u ⊢
    exact ⟨U_mono l u.1, Us_mono l u.2⟩
end
structure Bn (n t d : Nat) (bs : List Nat) (z : Z) : Prop where
  u : z.U n = true
  t : td z ≤ t
  d : dep z ≤ d
  b : Bd bs z
/-- what a bend leads to -/
def Bent (n t d : Nat) (bs : List Nat) (S : Nat) (z : Z) : Prop := Bn (n + 1) (t + 1) (d + 14) (nb bs) z ∧ rs z ≤ 61 * (S + 2) + 200
theorem bent_small {n t d S : Nat} {bs : List Nat} {z : Z} (u : z.U (n + 1) = true) (h1 : td z ≤ 1) (h2 : dep z ≤ 13) (h3 : rs z ≤ 200) : Bent n t d bs S z :=
  ⟨⟨u, by omega, by omega, Bd_small (z := z) h3⟩, by omega⟩
theorem bent_root {n t d : Nat} {bs : List Nat} {xs ys : List Z} (hz : Bn n t d bs (.tup xs)) (hm : ∀ y ∈ ys, y ∈ xs ∨ y = .int 0) (hl : ys.length ≤ n + 1)
    (hr : ∀ E, (∀ x ∈ xs, rs x ≤ E) → rss ys ≤ rss xs + (E + 2) + 42 ∨ rss ys ≤ 61 * (E + 2)) : Bent n t d bs (rs (.tup xs)) (.tup ys) ∧ Bent n t d bs (rs (.tup xs)) (.lst ys) := by
  have hu : ∀ x ∈ xs, x.U n = true := by have := hz.u; simp only [Z.U, Bool.and_eq_true] at this; exact Us_all.mp this.2
  have hy : Us (n + 1) ys = true := Us_all.mpr fun y hy => by
    rcases hm y hy with h | rfl
    · exact U_mono (Nat.le_succ n) (hu y h)
    · simp [Z.U]
  have h1 : rss ys + 3 ≤ 61 * (rs (.tup xs) + 2) + 200 := by
    have := hr (rs (.tup xs)) fun x hx => by have := rs_mem hx; simp only [rs]; omega
    simp only [rs] at this ⊢; omega
  have h2 : ∀ b bs', bs = b :: bs' → ∀ d ds, nb bs = d :: ds → rss ys + 3 ≤ d := by
    rintro b bs' rfl d ds e
    have hb := hz.b.1
    simp only [rs] at hb
    cases bs' with
    | nil =>
      simp only [nb, List.cons.injEq] at e
      have := hr b fun x hx => by have := rs_mem hx; omega
      omega
    | cons c bs' =>
      simp only [nb, List.cons.injEq] at e
      have := hr c fun x hx => (hz.b.2 x hx).1
      obtain ⟨d2, ds2, e3, _, h3, h4⟩ := nb_ne c bs'
      rw [e3] at e
      simp only [List.headD_cons] at e
      omega
  have tx := tds_le.mpr (show tds xs ≤ t - 1 by have := hz.t; simp only [td] at this; omega)
  have dx := deps_le.mpr (show deps xs ≤ d - 1 by have := hz.d; simp only [dep] at this; omega)
  have d0 : 1 ≤ d := by have := hz.d; simp only [dep] at this; omega
  have t0 : 1 ≤ t := by have := hz.t; simp only [td] at this; omega
  have ty : tds ys ≤ t - 1 := tds_le.mp fun y hy => by
    rcases hm y hy with h | rfl
    · exact tx y h
    · simp [td]
  have dy : deps ys ≤ d - 1 := deps_le.mp fun y hy => by
    rcases hm y hy with h | rfl
    · exact dx y h
    · simp [dep]
  refine ⟨⟨⟨?_, by simp only [td]; omega, by simp only [dep]; omega, ?_⟩, h1⟩, ⟨⟨?_, by simp only [td]; omega, by simp only [dep]; omega, ?_⟩, h1⟩⟩
  · simp only [Z.U, Bool.and_eq_true, decide_eq_true_eq]; exact ⟨hl, hy⟩
  · cases bs with
    | nil => trivial
    | cons b bs =>
      obtain ⟨d, ds, e, e2, h3, h4⟩ := nb_ne b bs
      have h5 := h2 b bs rfl d ds e
      rw [e]
      refine ⟨h5, fun y hy => ?_⟩
      rw [e2]
      rcases hm y hy with h | rfl
      · exact Bd_nb (hz.b.2 y h)
      · exact Bd_small (z := .int 0) (by simp [rs])
  · simp only [Z.U, Bool.and_eq_true, decide_eq_true_eq]; exact ⟨hl, hy⟩
  · cases bs with
    | nil => trivial
    | cons b bs =>
      obtain ⟨d, ds, e, e2, h3, h4⟩ := nb_ne b bs
      have h5 := h2 b bs rfl d ds e
      rw [e]
      exact ⟨h5, fun y hy => by cases hy⟩
/-- a bend of one place -/
theorem bent_in {n t d : Nat} {bs : List Nat} {ys zs : List Z} {x y : Z} (hz : Bn n t d bs (.tup (ys ++ x :: zs))) (hy : Bent n (t - 1) (d - 1) bs.tail (rs x) y) : Bent n t d bs (rs (.tup (ys ++ x :: zs))) (.tup (ys ++ y :: zs)) := by
  have hu : ys.length + (zs.length + 1) ≤ n ∧ ∀ w ∈ ys ++ x :: zs, w.U n = true := by
    have := hz.u; simp only [Z.U, Bool.and_eq_true, decide_eq_true_eq, List.length_append, List.length_cons] at this; exact ⟨this.1, Us_all.mp this.2⟩
  have tx := tds_le.mpr (show tds (ys ++ x :: zs) ≤ t - 1 by have := hz.t; simp only [td] at this; omega)
  have dx := deps_le.mpr (show deps (ys ++ x :: zs) ≤ d - 1 by have := hz.d; simp only [dep] at this; omega)
  have d0 : 1 ≤ d := by have := hz.d; simp only [dep] at this; omega
  have t0 : 1 ≤ t := by have := hz.t; simp only [td] at this; omega
  have e1 : rss (ys ++ x :: zs) = rss ys + (rs x + 2 + rss zs) := by rw [rss_app, rss]
  have e2 : rss (ys ++ y :: zs) = rss ys + (rs y + 2 + rss zs) := by rw [rss_app, rss]
  have ye := hy.2
  have hm : ∀ w ∈ ys ++ y :: zs, w = y ∨ w ∈ ys ++ x :: zs := fun w hw => by
    simp only [List.mem_append, List.mem_cons] at hw ⊢
    rcases hw with h | h | h
    · exact .inr (.inl h)
    · exact .inl h
    · exact .inr (.inr (.inr h))
  refine ⟨⟨?_, ?_, ?_, ?_⟩, by simp only [rs, e1, e2]; omega⟩
  · simp only [Z.U, Bool.and_eq_true, decide_eq_true_eq, List.length_append, List.length_cons]
    refine ⟨by omega, Us_all.mpr fun w hw => ?_⟩
    rcases hm w hw with rfl | h
    · exact hy.1.u
    · exact U_mono (Nat.le_succ n) (hu.2 w h)
  · have : tds (ys ++ y :: zs) ≤ t := tds_le.mp fun w hw => by
      rcases hm w hw with rfl | h
      · have := hy.1.t; omega
      · have := tx w h; omega
    simp only [td]; omega
  · have : deps (ys ++ y :: zs) ≤ d + 13 := deps_le.mp fun w hw => by
      rcases hm w hw with rfl | h
      · have := hy.1.d; omega
      · have := dx w h; omega
    simp only [dep]; omega
  · cases bs with
    | nil => trivial
    | cons b bs =>
      have hb := hz.b.1
      have hk := hz.b.2 x (show x ∈ ys ++ x :: zs by simp)
      obtain ⟨D, Ds, e, e4, h3, h4⟩ := nb_ne b bs
      have yb := hy.1.b
      simp only [List.tail_cons] at yb
      rw [e]
      refine ⟨?_, fun w hw => ?_⟩
      · simp only [rs, e1] at hb
        simp only [rs, e2]
        cases bs with
        | nil => simp only [nb, List.cons.injEq] at e; omega
        | cons c bs =>
          simp only [nb, List.cons.injEq] at e
          obtain ⟨d2, ds2, e5, _, _, _⟩ := nb_ne c bs
          rw [e5] at e yb
          simp only [List.headD_cons] at e
          have := yb.1
          omega
      · rw [e4]
        rcases hm w hw with rfl | h
        · exact yb
        · exact Bd_nb (hz.b.2 w h)
end ZL
set_option Elab.async false
set_option linter.all false
set_option maxRecDepth 100000
set_option maxHeartbeats 1000000
namespace K01
open PySem PySem.Spec PyProof.Rows L2 ZL
def deepV : Z := .lst [.lst [.lst [.lst [.lst [.lst [.tup [.tup [.tup [.tup [.tup [.tup []]]]]]]]]]]]
theorem deep_ok (h : Hv) : F__law_deep [.tup [], .int 11] h = .ok deepV h := by
  refine run_rt ?_
  rfl
def oddL : List Z := [.non, .bl true, .bl false, .int 0, .int 1, .int (-1), .int (10 ^ 30), .str "", .str "a", .str "A", .str "ab c", .str "abcdefghijk", .tup [], .lst [], .dkf [] [], .tup [.int 0], .tup [.str "a"], .dkf [.inl 0] [.int 0]]
def oddA : List Z := oddL ++ [deepV, .int 999999, .int (10 ^ 6), .int (10 ^ 9)]
theorem odd_ok {m : MO} (hm : HdOk m) {rest : Hv} (c : Cr rest) : (F__law_odd [.ref 0] (m :: rest)).wp (Dr rest (· ∈ oddA)) := by
  refine run_wp ?_
  unfold m__law_odd
  have e1 : zAsg (zLst false (zCons (zC .non) (zCons (zC (.bl true)) (zCons (zC (.bl false)) (zCons (zC (.int 0)) (zCons (zC (.int 1)) (zCons (zUn negZ (zC (.int 1))) (zCons (zBin powZ false (zC (.int 10)) (zC (.int 30))) (zCons (zC (.str "")) (zCons (zC (.str "a")) (zCons (zC (.str "A")) (zCons (zC (.str "ab c")) (zCons (zC (.str "abcdefghijk")) (zCons (zTup zNil) (zCons (zLst false zNil) (zCons (zDisp false []) (zCons (zTup (zCons (zC (.int 0)) zNil)) (zCons (zTup (zCons (zC (.str "a")) zNil)) (zCons (zDisp false [((zC (.int 0)), (zC (.int 0)))]) zNil))))))))))))))))))) (gOne 1) [some (.ref 0), none] (m :: rest) = .nx [some (.ref 0), some (.lst oddL)] (m :: rest) := by rfl
  show (zSeq _ _ [some (.ref 0), none] (m :: rest)).wp _ _
  rw [wp_seq, e1, wp_nx]
  have ea : ∀ h, addZ h (.lst oddL) (.lst [deepV, .int 999999, .int (10 ^ 6), .int (10 ^ 9)]) = some (.lst oddA) := fun h => rfl
  have ep : ∀ h, powZ h (.int 10) (.int 6) = some (.val (.int (10 ^ 6))) := fun h => rfl
  have ep9 : ∀ h, powZ h (.int 10) (.int 9) = some (.val (.int (10 ^ 9))) := fun h => rfl
  simp [szN, deep_ok, ep, ep9]
  simp at ea
  rw [ea]
  simp
  refine Res.wp_mono (some_ok hm (.inl rfl) (by decide) (by decide)) ?_
  rintro z h ⟨m, hm, rfl, hz⟩
  rw [fin_len (by simp)]
  exact ⟨m, hm, rfl, hz⟩
theorem odd_small : ∀ z ∈ oddA, z.U 61 = true ∧ td z ≤ 1 ∧ dep z ≤ 13 ∧ rs z ≤ 200 := by
  have h : (oddA.all fun z => z.U 61 && decide (td z ≤ 1) && decide (dep z ≤ 13) && decide (rs z ≤ 200)) = true := by decide +kernel
  intro z hz
  have := List.all_eq_true.mp h z hz
  simp only [Bool.and_eq_true, decide_eq_true_eq] at this
  exact ⟨this.1.1.1, this.1.1.2, this.1.2, this.2⟩
theorem odd_bent {n t d S : Nat} {bs : List Nat} (hn : 61 ≤ n) : ∀ z ∈ oddA, Bent n t d bs S z := fun z hz => by
  obtain ⟨a, b, c, e⟩ := odd_small z hz
  exact bent_small (U_mono (by omega) a) b c e
/-! the drawn places of a tuple -/
theorem rss_take_le (xs : List Z) (k : Nat) : rss (xs.take k) ≤ rss xs := by have := rss_td (xs := xs) k; omega
theorem rss_drop_le (xs : List Z) (k : Nat) : rss (xs.drop k) ≤ rss xs := by have := rss_td (xs := xs) k; omega
theorem rss_one {xs : List Z} {E : Nat} (h : ∀ x ∈ xs, rs x ≤ E) (k : Nat) : rss ((xs.drop k).take 1) ≤ E + 2 := by
  have := rss_le (E := E) (xs := (xs.drop k).take 1) fun x hx => h x (List.mem_of_mem_drop (List.mem_of_mem_take hx))
  have : ((xs.drop k).take 1).length ≤ 1 := by simp; omega
  have : ((xs.drop k).take 1).length * (E + 2) ≤ 1 * (E + 2) := Nat.mul_le_mul_right _ this
  omega
theorem rss_head {xs : List Z} {E : Nat} (h : ∀ x ∈ xs, rs x ≤ E) : rss (xs.take 1) ≤ E + 2 := by
  have := rss_one h 0; simpa using this
section
variable {n t d : Nat} {bs : List Nat} {xs : List Z} (hz : Bn n t d bs (.tup xs)) (hl : xs.length ≤ n) (i j : Nat)
include hz hl
theorem alt1 : Bent n t d bs (rs (.tup xs)) (.tup (xs.take i ++ xs.drop (i + 1))) :=
  (bent_root hz (fun y hy => .inl ((List.mem_append.mp hy).elim List.mem_of_mem_take List.mem_of_mem_drop)) (by simp; omega) fun E hE => .inl (by
    rw [rss_app]; have := rss_td (xs := xs) i; have : rss (xs.drop (i + 1)) ≤ rss (xs.drop i) := by rw [← List.drop_drop]; exact rss_drop_le _ _
    omega)).1
theorem alt2 : Bent n t d bs (rs (.tup xs)) (.tup (xs.take i ++ (xs.drop i).take 1 ++ xs.drop i)) :=
  (bent_root hz (fun y hy => .inl (by
    simp only [List.mem_append] at hy
    rcases hy with (h | h) | h
    · exact List.mem_of_mem_take h
    · exact List.mem_of_mem_drop (List.mem_of_mem_take h)
    · exact List.mem_of_mem_drop h)) (by simp; omega) fun E hE => .inl (by
    rw [rss_app, rss_app]; have := rss_td (xs := xs) i; have := rss_one hE i; omega)).1
theorem alt3 : Bent n t d bs (rs (.tup xs)) (.lst xs) := (bent_root hz (fun y hy => .inl hy) (by omega) fun E hE => .inl (by omega)).2
theorem alt4 : Bent n t d bs (rs (.tup xs)) (.tup xs.reverse) := (bent_root hz (fun y hy => .inl (List.mem_reverse.mp hy)) (by simp; omega) fun E hE => .inl (by rw [rss_rev]; omega)).1
theorem alt5 : Bent n t d bs (rs (.tup xs)) (.tup (xs.take i ++ (xs.drop j ++ xs.take j).take 1 ++ xs.drop (i + 1))) := by
  have hm : ∀ y ∈ xs.drop j ++ xs.take j, y ∈ xs := fun y hy => (List.mem_append.mp hy).elim List.mem_of_mem_drop List.mem_of_mem_take
  refine (bent_root hz (fun y hy => .inl (by
    simp only [List.mem_append] at hy
    rcases hy with (h | h) | h
    · exact List.mem_of_mem_take h
    · exact hm _ (List.mem_of_mem_take h)
    · exact List.mem_of_mem_drop h)) (by simp; omega) fun E hE => .inl (by
    rw [rss_app, rss_app]; have := rss_td (xs := xs) i
    have : rss (xs.drop (i + 1)) ≤ rss (xs.drop i) := by rw [← List.drop_drop]; exact rss_drop_le _ _
    have := rss_head (xs := xs.drop j ++ xs.take j) fun x hx => hE x (hm x hx)
    omega)).1
theorem alt6 : Bent n t d bs (rs (.tup xs)) (.tup (xs ++ [.int 0])) :=
  (bent_root hz (fun y hy => by
    rcases List.mem_append.mp hy with h | h
    · exact .inl h
    · simp at h; exact .inr h) (by simp; omega) fun E hE => .inl (by rw [rss_app]; simp only [rss, rs]; omega)).1
theorem alt7 : Bent n t d bs (rs (.tup xs)) (.tup (xs.take (xs.length - 1))) := (bent_root hz (fun y hy => .inl (List.mem_of_mem_take hy)) (by simp; omega) fun E hE => .inl (by have := rss_take_le xs (xs.length - 1); omega)).1
theorem alt8 : Bent n t d bs (rs (.tup xs)) (.tup (xs.drop i ++ xs.take i)) := (bent_root hz (fun y hy => .inl ((List.mem_append.mp hy).elim List.mem_of_mem_drop List.mem_of_mem_take)) (by simp; omega) fun E hE => .inl (by rw [rss_app]; have := rss_td (xs := xs) i; omega)).1
theorem alt9 (hn : 61 ≤ n) : Bent n t d bs (rs (.tup xs)) (.tup ((List.replicate 61 xs).flatten.take 61)) := by
  have hm : ∀ y ∈ (List.replicate 61 xs).flatten.take 61, y ∈ xs := fun y hy => by
    have := List.mem_of_mem_take hy
    simp only [List.mem_flatten, List.mem_replicate] at this
    obtain ⟨l, ⟨_, rfl⟩, h⟩ := this
    exact h
  have hk : ((List.replicate 61 xs).flatten.take 61).length ≤ 61 := by rw [List.length_take]; omega
  exact (bent_root hz (fun y hy => .inl (hm y hy)) (by omega) fun E hE => .inr (by
    have := rss_le (E := E) (xs := (List.replicate 61 xs).flatten.take 61) fun x hx => hE x (hm x hx)
    have := Nat.mul_le_mul_right (E + 2) hk
    omega)).1
end
end K01
set_option Elab.async false
set_option linter.all false
set_option maxRecDepth 100000
set_option maxHeartbeats 1000000
namespace ZL
open PySem PySem.Spec PyProof.Rows L2
theorem RS.stepN {r : RS} {N N' : Sg → Hv → Prop} {R : Z → Hv → Prop} (e : r.wp N' fun _ _ => False) (h : ∀ s h, N' s h → N s h) : r.wp N R := RS.wp_mono e h fun _ _ q => q.elim
end ZL
namespace K01
open PySem PySem.Spec PyProof.Rows L2 ZL
def repL (k : Nat) (xs : List Z) : List Z := (List.replicate k xs).flatten
theorem mul61 {xs : List Z} (hl : xs.length ≤ 1000) {h : Hv} {Q : Z → Hv → Prop} : (Out.go false h (mul0Z h (.tup xs) (.int 61))).wp Q = Q (.tup (repL 61 xs)) h := by
  cases xs with
  | nil => rfl
  | cons x xs =>
    show (Out.go false h (if x :: xs ≠ [] ∧ (2 : Int) ≤ 61 ∧ (61 : Int) ≤ 1000 ∧ (x :: xs).length ≤ 1000 then some (.tup (List.replicate (61 : Int).toNat (x :: xs)).flatten) else none)).wp Q = _
    rw [if_pos ⟨by simp, by omega, by omega, hl⟩]; rfl
@[simp] theorem wp_neg {h : Hv} {k : Int} {Q : Z → Hv → Prop} : (Out.go false h (negZ h (.int k))).wp Q = Q (.int (-k)) h := rfl
@[simp] theorem rev_tup {h : Hv} {xs : List Z} : revZ h (.tup xs) = some (.tup xs.reverse) := rfl
@[simp] theorem lst_tup {h : Hv} {xs : List Z} : listZ h [.tup xs] = some (.lst xs) := rfl
theorem add_lst {h : Hv} {xs ys : List Z} : addZ h (.lst xs) (.lst ys) = if xs.length + ys.length ≤ sizeLine then some (.lst (xs ++ ys)) else none := rfl
theorem eq_bl {h : Hv} {n d : Nat} : True := trivial
/-- a tuple is bent at its root -/
theorem bent_tup {n t d : Nat} {bs : List Nat} (h61 : 61 ≤ n) (h99 : n ≤ 99) {F : List Z → Hv → Res Z} {m : MO} (hm : HdOk m) {rest : Hv} (c : Cr rest) {xs : List Z} (hz : Bn n t d bs (.tup xs)) (kd : Int)
    (he : ∀ k m, k < xs.length → HdOk m → (F [.ref 0, xs.getD k .non] (m :: rest)).wp (Dr rest (Bent n (t - 1) (d - 1) bs.tail (rs (xs.getD k .non))))) :
    (m__law_bent F [some (.ref 0), some (.tup xs), none, none, none, none] (m :: rest)).wp (fun _ _ => False) fun z h => Dr rest (Bent n t d bs (rs (.tup xs))) z h := by
  have hl : xs.length ≤ n := by have := hz.u; simp only [Z.U, Bool.and_eq_true, decide_eq_true_eq] at this; exact this.1
  have i1 : ∀ h, isiG kits plainCs h [.tup xs, .ty "tuple"] = some (.val (.bl true)) := fun _ => rfl
  unfold m__law_bent
  rw [wp_seq]
  refine RS.stepN (N' := fun s1 h1 => ∃ m r, HdOk m ∧ h1 = m :: rest ∧ s1 = [some (.ref 0), some (.tup xs), some (.int r), none, none, none]) ?_ ?_
  · simp
    refine Res.wp_mono (draw_ok hm (by omega) (by omega)) ?_
    rintro z h ⟨m, hm, rfl, r, rfl, r0, r1⟩
    exact ⟨m, hm, rfl, r, rfl⟩
  rintro _ _ ⟨m, r, hm, rfl, rfl⟩
  rw [wp_seq]
  have sz : 16777216 = sizeLine := szN.symm
  by_cases hc : 0 < xs.length ∧ 3 < r
  · simp [i1, hc.1, hc.2]
    refine Res.wp_mono (draw_ok hm (by omega) (by omega)) ?_
    rintro z h ⟨m, hm, rfl, a, rfl, a0, a1⟩
    obtain ⟨k, rfl⟩ : ∃ k : Nat, a = k := ⟨a.toNat, by omega⟩
    have hk : k < xs.length := by omega
    have ei : atI xs (k : Int) = some (xs.getD k .non) := by simp [atI, ixN, hk]
    simp [ei]
    refine Res.wp_mono (he k m hk hm) ?_
    rintro z h ⟨m, hm, rfl, hb⟩
    have e1 : cutZ xs (some ((k : Int) + 1)) none = xs.drop (k + 1) := cut_from (k + 1)
    have e2 : xs = xs.take k ++ xs.getD k .non :: xs.drop (k + 1) := by
      conv => lhs; rw [← List.take_append_drop k xs, List.drop_eq_getElem_cons hk]
      simp [List.getD_eq_getElem?_getD, hk]
    simp [cut_to, e1]
    refine ⟨by rw [szN]; omega, by rw [szN]; omega, by rw [szN]; omega, m, hm, rfl, ?_⟩
    have := bent_in (ys := xs.take k) (zs := xs.drop (k + 1)) (e2 ▸ hz) hb
    rwa [← e2] at this
  · refine RS.stepN (N' := fun s1 h1 => s1 = [some (.ref 0), some (.tup xs), some (.int r), none, none, none] ∧ h1 = m :: rest) ?_ ?_
    · by_cases h0 : 0 < xs.length
      · have h3 : ¬ 3 < r := fun e => hc ⟨h0, e⟩
        simp [i1, h0, h3]
      · simp [i1, h0]
    rintro _ _ ⟨rfl, rfl⟩
    rw [wp_seq]
    simp [i1]
    refine Res.wp_mono (draw_ok hm (by omega) (by omega)) ?_
    rintro z h ⟨m, hm, rfl, a, rfl, a0, a1⟩
    simp
    refine Res.wp_mono (draw_ok hm (by omega) (by omega)) ?_
    rintro z h ⟨m, hm, rfl, b, rfl, b0, b1⟩
    obtain ⟨i, rfl⟩ : ∃ k : Nat, a = k := ⟨a.toNat, by omega⟩
    obtain ⟨j, rfl⟩ : ∃ k : Nat, b = k := ⟨b.toNat, by omega⟩
    have e1 : cutZ xs (some ((i : Int) + 1)) none = xs.drop (i + 1) := cut_from (i + 1)
    have e2 : ∀ ys, cutZ ys none (some 1) = ys.take 1 := fun ys => cut_to (xs := ys) 1
    have e3 : ∀ ys, cutZ ys none (some 61) = ys.take 61 := fun ys => cut_to (xs := ys) 61
    simp [cut_to, cut_from, cut_one, cut_m1, e1, e2, e3, add_lst]
    refine ⟨by omega, by omega, by omega, by omega, by omega, by omega, by omega, by omega, by omega, by omega, by omega, by omega, ?_⟩
    refine Res.wp_mono (odd_ok hm c) ?_
    rintro z h ⟨m, hm, rfl, ho⟩
    rw [mul61 (by omega)]
    simp [e3]
    refine ⟨by omega, by omega, ?_⟩
    refine Res.wp_mono (some_ok hm (.inl rfl) (by simp) (by simp)) ?_
    rintro w h ⟨m, hm, rfl, hw⟩
    refine ⟨m, hm, rfl, ?_⟩
    simp only [List.mem_cons, List.not_mem_nil, or_false] at hw
    rcases hw with rfl | rfl | rfl | rfl | rfl | rfl | rfl | rfl | rfl | rfl
    · exact alt1 hz hl i
    · have := alt2 hz hl i; rwa [List.append_assoc] at this
    · exact alt3 hz hl
    · exact alt4 hz hl
    · have := alt5 hz hl i j; rwa [List.append_assoc] at this
    · exact alt6 hz hl
    · exact alt7 hz hl
    · exact alt8 hz hl i
    · exact odd_bent h61 w ho
    · exact alt9 hz hl h61
/-! other things -/
theorem okS_of {s : String} (h : ∀ c ∈ s.toList, okC c.toNat = true) : okS (Str.ofString s) = true := by
  unfold okS
  rw [Str.ofString_eq_toList, List.all_eq_true]
  intro c hc
  simp only [List.mem_map] at hc
  obtain ⟨d, hd, rfl⟩ := hc
  exact h d hd
theorem nat_okS (k : Nat) : okS (Str.ofString (toString (k : Int))) = true := by
  refine okS_of fun c hc => ?_
  have hc : c ∈ (Nat.repr k).toList := hc
  have hc : c ∈ Nat.toDigits 10 k := by simpa [Nat.repr] using hc
  have := Nat.isDigit_of_mem_toDigits (by decide) (by decide) hc
  simp only [Char.isDigit, Bool.and_eq_true, decide_eq_true_eq] at this
  simp only [okC, decide_eq_true_eq, Char.toNat]
  have h1 := this.1
  have h2 := this.2
  have h1' : (48 : UInt32).toNat ≤ c.val.toNat := h1
  have h2' : c.val.toNat ≤ (57 : UInt32).toNat := h2
  have a1 : (48 : UInt32).toNat = 48 := rfl
  have a2 : (57 : UInt32).toNat = 57 := rfl
  omega
theorem nat_len {k : Nat} (h : k ≤ 10 ^ 12) : (Str.ofString (toString (k : Int))).length ≤ 14 := by
  have := int_text_length_le10 (a := (k : Int)) (k := 13) (by omega) (by show k < 10 ^ 13; omega)
  rw [← len_toList, Str.ofString_eq_toList]
  simp only [List.length_map]
  have e : (toString (k : Int)).toList.length = (toString (k : Int)).length := rfl
  omega
theorem up_ok {x : Str} (h : okS x = true) : okS (Txt.upper x) = true ∧ (Txt.upper x).length = x.length := by
  have hu : ∀ k : Fin 95, okC (32 + k.val) = true → ∃ d, Unicode.upperOf (32 + k.val) = [d] ∧ okC d = true := by
    have : ∀ k : Fin 95, okC (32 + k.val) = true → (Unicode.upperOf (32 + k.val)).length = 1 ∧ (Unicode.upperOf (32 + k.val)).all okC = true := by decide +kernel
    intro k hk
    obtain ⟨h1, h2⟩ := this k hk
    match e : Unicode.upperOf (32 + k.val), h1 with
    | [d], _ => exact ⟨d, rfl, by rw [e] at h2; simpa using h2⟩
  have hu' : ∀ c, okC c = true → ∃ d, Unicode.upperOf c = [d] ∧ okC d = true := by
    intro c hc
    have hc' := hc
    simp only [okC, decide_eq_true_eq] at hc'
    have := hu ⟨c - 32, by omega⟩
    simp only [show 32 + (c - 32) = c by omega] at this
    exact this hc
  have ho := okS_all h
  have e : (Txt.upper x).cps.toList = (x.cps.toList.map Unicode.upperOf).flatten := by
    show (placed x fun _ c => Unicode.upperOf c).toList = _
    unfold placed
    simp [Array.toList_flatten, Array.toList_mapIdx]
    have : ∀ (l : List Nat) (f : Nat → List Nat), l.mapIdx (fun _ c => (f c).toArray) = l.map fun c => (f c).toArray := fun l f => by
      apply List.ext_getElem
      · simp
      · intro i h1 h2; simp
    rw [this, List.map_map]
    rfl
  have e2 : ∀ l : List Nat, (∀ c ∈ l, okC c = true) → ((l.map Unicode.upperOf).flatten).length = l.length ∧ ∀ c ∈ (l.map Unicode.upperOf).flatten, okC c = true := by
    intro l
    induction l with
    | nil => intro _; exact ⟨rfl, fun _ h => by cases h⟩
    | cons c l ih =>
      intro h
      obtain ⟨d, hd, od⟩ := hu' c (h c (by simp))
      obtain ⟨h1, h2⟩ := ih fun y hy => h y (by simp [hy])
      rw [List.map_cons, List.flatten_cons, hd]
      refine ⟨by simp only [List.length_append, List.length_cons, List.length_nil, h1]; omega, fun y hy => ?_⟩
      simp only [List.cons_append, List.nil_append, List.mem_cons] at hy
      rcases hy with rfl | hy
      · exact od
      · exact h2 y hy
  obtain ⟨h1, h2⟩ := e2 _ ho
  rw [← e] at h1 h2
  refine ⟨?_, by rw [← len_toList, h1, len_toList]⟩
  unfold okS
  rw [List.all_eq_true]; exact h2
end K01
set_option Elab.async false
set_option linter.all false
set_option maxRecDepth 100000
set_option maxHeartbeats 1000000
namespace K01
open PySem PySem.Spec PyProof.Rows L2 ZL
theorem Dr_fin {rest : Hv} {P : Z → Prop} {z : Z} {h : Hv} {k : Nat} (hk : k = rest.length + 1) (d : Dr rest P z h) : (fin k z h).wp (Dr rest P) := by
  obtain ⟨m, hm, rfl, hp⟩ := d
  rw [fin_len (by simp [hk])]
  exact ⟨m, hm, rfl, hp⟩
theorem bent_oth {n t d : Nat} {bs : List Nat} (h61 : 61 ≤ n) (h99 : n ≤ 99) {F : List Z → Hv → Res Z} {m : MO} (hm : HdOk m) {rest : Hv} (c : Cr rest) {z : Z} (hz : Bn n t d bs z) (ht : ∀ xs, z ≠ .tup xs) :
    (m__law_bent F [some (.ref 0), some z, none, none, none, none] (m :: rest)).wp (fun _ _ => False) fun w h => Dr rest (Bent n t d bs (rs z)) w h := by
  have i1 : ∀ h, isiG kits plainCs h [z, .ty "tuple"] = some (.val (.bl false)) := fun h => by
    rw [isi_tup h hz.u]; cases z <;> first | rfl | exact absurd rfl (ht _)
  unfold m__law_bent
  rw [wp_seq]
  refine RS.stepN (N' := fun s1 h1 => ∃ m r, HdOk m ∧ h1 = m :: rest ∧ s1 = [some (.ref 0), some z, some (.int r), none, none, none]) ?_ ?_
  · simp
    refine Res.wp_mono (draw_ok hm (by omega) (by omega)) ?_
    rintro z h ⟨m, hm, rfl, r, rfl, r0, r1⟩
    exact ⟨m, hm, rfl, r, rfl⟩
  rintro _ _ ⟨m, r, hm, rfl, rfl⟩
  rw [wp_seq]
  refine RS.stepN (N' := fun s1 h1 => s1 = [some (.ref 0), some z, some (.int r), none, none, none] ∧ h1 = m :: rest) (by simp [i1]) ?_
  rintro _ _ ⟨rfl, rfl⟩
  rw [wp_seq]
  refine RS.stepN (N' := fun s1 h1 => s1 = [some (.ref 0), some z, some (.int r), none, none, none] ∧ h1 = m :: rest) (by simp [i1]) ?_
  rintro _ _ ⟨rfl, rfl⟩
  have p12 : ∀ h, powZ h (.int 10) (.int 12) = some (.val (.int 1000000000000)) := fun _ => rfl
  have p6 : ∀ h, powZ h (.int 10) (.int 6) = some (.val (.int 1000000)) := fun _ => rfl
  have p9 : ∀ h, powZ h (.int 10) (.int 9) = some (.val (.int 1000000000)) := fun _ => rfl
  have sz := szN
  have odd : ∀ m, HdOk m → (F__law_odd [.ref 0] (m :: rest)).wp fun w h => Dr rest (Bent n t d bs (rs z)) w h := fun m hm => by
    refine Res.wp_mono (odd_ok hm c) ?_
    rintro z h ⟨m, hm, rfl, ho⟩
    exact ⟨m, hm, rfl, odd_bent h61 _ ho⟩
  have fi := f_law_int z 0 1000000000000 (m :: rest) hz.u
  have i2 : ∀ h, isiG kits plainCs h [z, .ty "str"] = some (.val (.bl (isS z))) := fun h => isi_str h hz.u
  cases z with
  | int i =>
    by_cases hi : 0 ≤ i ∧ i ≤ 10 ^ 12
    · obtain ⟨k, rfl⟩ : ∃ k : Nat, i = k := ⟨i.toNat, by omega⟩
      have hk : k ≤ 10 ^ 12 := by omega
      have hl : (k : Int).natAbs.log2 < 1920 := by
        by_cases h0 : k = 0
        · rw [h0]; decide
        · exact (Nat.log2_lt (by omega)).mpr (Nat.lt_of_le_of_lt (show (k : Int).natAbs ≤ 10 ^ 12 by omega) (by decide))
      obtain ⟨S, hS⟩ : ∃ S, S = Str.ofString (toString (k : Int)) := ⟨_, rfl⟩
      have hle := nat_len hk
      have hok := nat_okS k
      rw [← hS] at hle hok
      have es : ∀ h, strZ h [.int k] = some (.val (.str S)) := fun h => by
        rw [hS]
        show (if (k : Int).natAbs.log2 < 1920 then some (Out.val (.str (toString (k : Int)))) else none) = _
        rw [if_pos hl]
      have hb : betB 0 1000000000000 (.int k) = true := by simp [betB]; omega
      simp [fi, p12, p6, p9, hb, es]
      refine ⟨by omega, ?_⟩
      refine Res.wp_mono (some_ok hm (.inl rfl) (by simp) (by simp)) ?_
      rintro w h ⟨m, hm, rfl, hw⟩
      refine ⟨m, hm, rfl, ?_⟩
      simp only [List.mem_cons, List.not_mem_nil, or_false] at hw
      rcases hw with rfl | rfl | rfl | rfl | rfl | rfl | rfl
      · exact bent_small (by simp [Z.U]; omega) (by simp [td]) (by simp [dep]) (by simp [rs])
      · exact bent_small (by simp [Z.U]; omega) (by simp [td]) (by simp [dep]) (by simp [rs])
      · exact bent_small rfl (by simp [td]) (by simp [dep]) (by simp [rs])
      · exact bent_small (by simp only [Z.U, Bool.and_eq_true, decide_eq_true_eq]; exact ⟨by omega, hok⟩) (by simp [td]) (by simp [dep]) (by simp only [rs]; omega)
      · exact bent_small (by simp [Z.U]) (by simp [td]) (by simp [dep]) (by simp [rs])
      · exact bent_small (by simp [Z.U]) (by simp [td]) (by simp [dep]) (by simp [rs])
      · exact bent_small (by simp [Z.U]) (by simp [td]) (by simp [dep]) (by simp [rs])
    · have hb : betB 0 1000000000000 (.int i) = false := by simp [betB]; omega
      simp [fi, p12, hb, i2, isS]
      exact odd m hm
  | str x =>
    have hb : betB 0 1000000000000 (.str x) = false := rfl
    have hx : x.length ≤ n ∧ okS x = true := by have := hz.u; simp only [Z.U, Bool.and_eq_true, decide_eq_true_eq] at this; exact this
    obtain ⟨u1, u2⟩ := up_ok hx.2
    have ea : ∀ h y, addZ h (.str x) (.str y) = if x.length + y.length ≤ sizeLine then some (.val (.str (x ++ y))) else none := fun _ _ => rfl
    have eu : ∀ h, upperZ h (.str x) [] = if x.length ≤ 5592405 then some (.val (.str (Txt.upper x))) else none := fun _ => rfl
    have ec : ∀ h, slZ h (.str x) (some 1) none = if x.length ≤ sizeLine then some (.val (.str (cutS x (some 1) none))) else none := fun _ => rfl
    have et : ∀ h, tyIs "str" h (.str x) = true := fun _ => rfl
    have l1 : Str.length "a" = 1 := rfl
    have l2 : Str.length " " = 1 := rfl
    simp [fi, p12, hb, i2, isS, ea, eu, ec, et, l1, l2]
    refine ⟨by omega, by omega, by omega, ?_⟩
    refine Res.wp_mono (label_ok hm) ?_
    rintro lab h ⟨m, hm, rfl, hlab⟩
    simp [add_lst]
    refine ⟨by omega, by omega, by omega, by omega, by omega, ?_⟩
    refine Res.wp_mono (some_ok hm (.inl rfl) (by simp) (by simp)) ?_
    rintro w h ⟨m, hm, rfl, hw⟩
    refine ⟨m, hm, rfl, ?_⟩
    have oapp : ∀ y, okS y = true → okS (x ++ y) = true := fun y hy => by
      unfold okS at *
      rw [str_app]
      simp only [List.all_append, Bool.and_eq_true]
      exact ⟨hx.2, hy⟩
    simp only [List.mem_cons, List.not_mem_nil, or_false] at hw
    rcases hw with rfl | rfl | rfl | rfl | rfl | rfl | rfl | rfl
    · have hl : (x ++ Str.ofString "a").length = x.length + 1 := Str.length_append _ _
      exact bent_small (by simp only [Z.U, Bool.and_eq_true, decide_eq_true_eq]; exact ⟨by omega, oapp _ (by decide +kernel)⟩) (by simp [td]) (by simp [dep]) (by simp only [rs]; omega)
    · have hl : (cutS x (some 1) none).cps.toList = (x.cps.toList.drop (HT.sIx x.length 0 (some 1))).take (HT.sIx x.length x.length none - HT.sIx x.length 0 (some 1)) := by unfold cutS; simp
      have hm' : ∀ c ∈ (cutS x (some 1) none).cps.toList, c ∈ x.cps.toList := fun c hc => by rw [hl] at hc; exact List.mem_of_mem_drop (List.mem_of_mem_take hc)
      have hn : (cutS x (some 1) none).length ≤ x.length := by
        rw [← len_toList, hl, ← len_toList]; simp; omega
      refine bent_small ?_ (by simp [td]) (by simp [dep]) (by simp only [rs]; omega)
      simp only [Z.U, Bool.and_eq_true, decide_eq_true_eq]
      refine ⟨by omega, ?_⟩
      unfold okS
      rw [List.all_eq_true]
      exact fun c hc => okS_all hx.2 c (hm' c hc)
    · exact bent_small (by simp only [Z.U, Bool.and_eq_true, decide_eq_true_eq]; exact ⟨Nat.zero_le _, by decide +kernel⟩) (by simp [td]) (by simp [dep]) (by decide +kernel)
    · exact bent_small (by simp only [Z.U, Bool.and_eq_true, decide_eq_true_eq]; exact ⟨by omega, u1⟩) (by simp [td]) (by simp [dep]) (by simp only [rs]; omega)
    · have hU := hlab.U (n := n + 1) (by omega)
      obtain ⟨y, rfl, y1, y2, y3⟩ := hlab
      exact bent_small hU (by simp [td]) (by simp [dep]) (by simp only [rs]; omega)
    · refine bent_small ?_ (by simp [td, tds]) (by simp [dep, deps]) (by simp only [rs, rss]; omega)
      have := U_mono (Nat.le_succ n) hz.u
      simp only [Z.U, Bool.and_eq_true, decide_eq_true_eq, List.length_cons, List.length_nil, Us] at this ⊢
      exact ⟨by omega, this, trivial⟩
    · have hl : (x ++ Str.ofString " ").length = x.length + 1 := Str.length_append _ _
      exact bent_small (by simp only [Z.U, Bool.and_eq_true, decide_eq_true_eq]; exact ⟨by omega, oapp _ (by decide +kernel)⟩) (by simp [td]) (by simp [dep]) (by simp only [rs]; omega)
    · exact bent_small rfl (by simp [td]) (by simp [dep]) (by simp [rs])
  | tup xs => exact absurd rfl (ht xs)
  | non =>
    simp [fi, p12, betB, i2, isS]
    exact odd m hm
  | bl b =>
    simp [fi, p12, betB, i2, isS]
    exact odd m hm
  | lst xs =>
    simp [fi, p12, betB, i2, isS]
    exact odd m hm
  | dkf ks vs =>
    simp [fi, p12, betB, i2, isS]
    exact odd m hm
  | _ =>
    have := hz.u
    cases this
theorem bent_ok {n : Nat} (h61 : 61 ≤ n) (h99 : n ≤ 99) {rest : Hv} (c : Cr rest) : ∀ (f : Nat) {t d : Nat} {bs : List Nat} {z : Z} {m : MO}, HdOk m → Bn n t d bs z → t < f → (F__law_bent f [.ref 0, z] (m :: rest)).wp (Dr rest (Bent n t d bs (rs z)))
  | 0, _, _, _, _, _, _, _, h => by omega
  | f + 1, t, d, bs, z, m, hm, hz, hf => by
    show (ZL.run 6 (m__law_bent (F__law_bent f)) [.ref 0, z] (m :: rest)).wp _
    refine run_wp ?_
    by_cases ht : ∃ xs, z = .tup xs
    · obtain ⟨xs, rfl⟩ := ht
      refine RS.wp_mono (bent_tup h61 h99 hm c hz 0 ?_) (fun _ _ e => e.elim) fun z h e => Dr_fin rfl e
      intro k m hk hm
      have t0 : 1 ≤ t := by have := hz.t; simp only [td] at this; omega
      have hx : xs.getD k .non ∈ xs := by simp [List.getD_eq_getElem?_getD, hk]
      refine bent_ok h61 h99 c f hm ⟨?_, ?_, ?_, ?_⟩ (by omega)
      · exact (tup_U hz.u).2 _ hx
      · exact tds_le.mpr (show tds xs ≤ t - 1 by have := hz.t; simp only [td] at this; omega) _ hx
      · exact deps_le.mpr (show deps xs ≤ d - 1 by have := hz.d; simp only [dep] at this; omega) _ hx
      · have := hz.b
        cases bs with
        | nil => trivial
        | cons b bs => exact this.2 _ hx
    · exact RS.wp_mono (bent_oth h61 h99 hm c hz fun xs e => ht ⟨xs, e⟩) (fun _ _ e => e.elim) fun z h e => Dr_fin rfl e
end K01
set_option Elab.async false
set_option linter.all false
set_option maxRecDepth 100000
set_option maxHeartbeats 1000000
namespace ZL
open PySem PySem.Spec PyProof.Rows L2
theorem for_pre' {I : List Z → Sg → Hv → Prop} {R : Z → Hv → Prop} {g : TgZ} {body : MS} : ∀ {zs pre : List Z} {s : Sg} {h : Hv}, I pre s h → (∀ p z q, pre ++ zs = p ++ z :: q → ∀ s h, I p s h → ∃ s1, g z s = some s1 ∧ (body s1 h).wp (I (p ++ [z])) R) → (forRun g body zs s h).wp (I (pre ++ zs)) R
  | [], pre, _, _, h0, _ => by rw [List.append_nil]; exact h0
  | z :: zs, pre, s, h, h0, st => by
    obtain ⟨s1, e, w⟩ := st pre z zs rfl s h h0
    rw [forRun, e]
    simp only
    cases hb : body s1 h <;> rw [hb] at w
    · simp only
      have r := for_pre' (zs := zs) (pre := pre ++ [z]) w fun p y q hy => st p y q (by rw [← hy]; simp)
      rwa [show pre ++ [z] ++ zs = pre ++ z :: zs by simp] at r
    · exact w
    all_goals exact w.elim
theorem for_pre {zs : List Z} (I : List Z → Sg → Hv → Prop) {R : Z → Hv → Prop} {N : Sg → Hv → Prop} {g : TgZ} {body : MS} {s : Sg} {h : Hv} (h0 : I [] s h) (st : ∀ p z q, zs = p ++ z :: q → ∀ s h, I p s h → ∃ s1, g z s = some s1 ∧ ∀ N', (∀ s h, I (p ++ [z]) s h → N' s h) → (body s1 h).wp N' R) (hN : ∀ s h, I zs s h → N s h) : (forRun g body zs s h).wp N R :=
  RS.wp_mono (for_pre' (pre := []) h0 fun p z q e s h hi => by
    obtain ⟨s1, e1, w⟩ := st p z q e s h hi
    exact ⟨s1, e1, w _ fun _ _ h => h⟩) hN fun _ _ h => h
theorem RS.step {r : RS} {N : Sg → Hv → Prop} {R : Z → Hv → Prop} (I : Sg → Hv → Prop) (e : ∀ N', (∀ s h, I s h → N' s h) → r.wp N' R) (h : ∀ s h, I s h → N s h) : r.wp N R := RS.wp_mono (e I fun _ _ q => q) h fun _ _ q => q
def isP3 (Q : Z → Z → Z → Prop) : List Z → Prop
  | [x, y, z] => Q x y z
  | _ => False
@[simp] theorem isP3_eq (Q : Z → Z → Z → Prop) (x y z : Z) : isP3 Q [x, y, z] = Q x y z := rfl
@[simp] theorem wp_par3 {s : Sg} {h : Hv} {N : Sg → Hv → Prop} {R : Z → Hv → Prop} (i j k : Nat) (t : MA) : (zPar3 i j k t s h).wp N R = (t s h).wp fun zs h1 => isP3 (fun x y z => N (((s.set i (some x)).set j (some y)).set k (some z)) h1) zs := by
  unfold zPar3; rw [wp_toS]; congr 1; funext zs h1
  match zs with
  | [x, y, z] => rfl
  | [] => rfl
  | [_] => rfl
  | [_, _] => rfl
  | _ :: _ :: _ :: _ :: _ => rfl
end ZL
namespace K01
open PySem PySem.Spec PyProof.Rows L2 ZL
def B0 : List Nat := [2400, 150, 125, 16]
/-- a part as drawn -/
abbrev P0 (z : Z) : Prop := Bn 61 3 4 B0 z
theorem lab_rs {z : Z} (h : LabP z) : rs z ≤ 12 := by obtain ⟨x, rfl, a, b, c⟩ := h; simp only [rs]; omega
theorem lab_td {z : Z} (h : LabP z) : td z = 0 := by obtain ⟨x, rfl, a, b, c⟩ := h; rfl
theorem lab_dep {z : Z} (h : LabP z) : dep z = 0 := by obtain ⟨x, rfl, a, b, c⟩ := h; rfl
theorem lab_kids {z : Z} (h : LabP z) : kids z = [] := by obtain ⟨x, rfl, a, b, c⟩ := h; rfl
theorem labs_rss {xs : List Z} (h : ∀ x ∈ xs, LabP x) (hl : xs.length ≤ 8) : rss xs ≤ 112 := by
  have := rss_le (E := 12) fun x hx => lab_rs (h x hx)
  have : xs.length * 14 ≤ 8 * 14 := Nat.mul_le_mul_right _ hl
  omega
theorem Bd_lab {z : Z} (h : LabP z) : ∀ {bs : List Nat}, (∀ b ∈ bs, 12 ≤ b) → Bd bs z
  | [], _ => trivial
  | b :: bs, hb => ⟨by have := lab_rs h; have := hb b (by simp); omega, fun x hx => by rw [lab_kids h] at hx; cases hx⟩
theorem Bd_labs {xs : List Z} (h : ∀ x ∈ xs, LabP x) (hl : xs.length ≤ 8) {b : Nat} {bs : List Nat} (h1 : 115 ≤ b) (h2 : ∀ b ∈ bs, 12 ≤ b) : Bd (b :: bs) (.tup xs) :=
  ⟨by have := labs_rss h hl; simp only [rs]; omega, fun x hx => Bd_lab (h x hx) h2⟩
theorem LabsP.P0 {z : Z} {most : Int} (hm : most ≤ 8) (h : LabsP most z) : P0 z := by
  have hU := h.U (n := 61) (by omega) (by omega)
  obtain ⟨xs, rfl, h1, h2, h3, h4⟩ := h
  refine ⟨hU, ?_, ?_, Bd_labs h3 (by omega) (by omega) (by simp)⟩
  · have : tds xs ≤ 0 := tds_le.mp fun x hx => by rw [lab_td (h3 x hx)]; exact Nat.le_refl _
    simp only [td]; omega
  · have : deps xs ≤ 0 := deps_le.mp fun x hx => by rw [lab_dep (h3 x hx)]; exact Nat.le_refl _
    simp only [dep]; omega
/-- a drawn shelf -/
def ShP (ks : List Z) (z : Z) : Prop := ∃ a ls, z = .tup [a, .tup ls] ∧ LabP a ∧ ls.length ≤ 8 ∧ ls.Nodup ∧ ∀ x ∈ ls, x ∈ ks
/-- a drawn house -/
def HsP (z : Z) : Prop := ∃ a b f l, z = .tup [a, b, .int f, .int l] ∧ LabP a ∧ LabP b ∧ 0 ≤ f ∧ f ≤ l ∧ l ≤ 999999
theorem inK_mem {ks : List Z} (hk : ∀ x ∈ ks, LabP x) {x : Z} (hx : x ∈ ks) : inK x ks = true := by
  obtain ⟨vs, e, hv⟩ := flatP hk
  obtain ⟨s, rfl, _⟩ := hk x hx
  simp [inK, inB, seqOf, flatZ, e]
  exact (hv s).mpr hx
theorem ShP.shelf {ks : List Z} (hk : ∀ x ∈ ks, LabP x) {z : Z} (h : ShP ks z) : shelfB ks z = true := by
  obtain ⟨a, ls, rfl, ha, hl, hn, hm⟩ := h
  have hL : ∀ x ∈ ls, LabP x := fun x hx => hk x (hm x hx)
  simp only [shelfB, Bool.and_eq_true, labsB, decide_eq_true_eq, List.all_eq_true]
  exact ⟨ha.lab, ⟨⟨by omega, by omega⟩, fun x hx => (hL x hx).lab, nodupP hL hn⟩, fun x hx => inK_mem hk (hm x hx)⟩
theorem shelves_of {ks sh : List Z} (hk : ∀ x ∈ ks, LabP x) (h : ∀ z ∈ sh, ShP ks z) (h1 : 1 ≤ sh.length) (h8 : sh.length ≤ 8) (hn : (sh.map fstZ).Nodup) : shelvesB ks (.tup sh) = true := by
  simp only [shelvesB, Bool.and_eq_true, decide_eq_true_eq, List.all_eq_true]
  refine ⟨⟨by omega, by omega⟩, fun z hz => (h z hz).shelf hk, nodupP (fun x hx => ?_) hn⟩
  simp only [List.mem_map] at hx
  obtain ⟨z, hz, rfl⟩ := hx
  obtain ⟨a, ls, rfl, ha, _⟩ := h z hz
  exact ha
theorem HsP.stay {z : Z} (h : HsP z) : stayB z = true := by
  obtain ⟨a, b, f, l, rfl, ha, hb, h1, h2, h3⟩ := h
  simp only [stayB, Bool.and_eq_true, ha.lab, hb.lab, dayB, leB, decide_eq_true_eq]
  exact ⟨trivial, trivial, by omega, by omega, h2⟩
theorem P0_of {xs : List Z} (hl : xs.length ≤ 20) (h : ∀ x ∈ xs, Bn 61 2 3 [117, 125, 16] x) : P0 (.tup xs) := by
  refine ⟨?_, ?_, ?_, ?_⟩
  · simp only [Z.U, Bool.and_eq_true, decide_eq_true_eq]
    exact ⟨by omega, Us_all.mpr fun x hx => (h x hx).u⟩
  · have := tds_le.mp fun x hx => (h x hx).t
    simp only [td]; omega
  · have := deps_le.mp fun x hx => (h x hx).d
    simp only [dep]; omega
  · have := rss_le (E := 117) fun x hx => (h x hx).b.1
    have : xs.length * 119 ≤ 20 * 119 := Nat.mul_le_mul_right _ hl
    refine ⟨by simp only [rs]; omega, fun x hx => ⟨by have := (h x hx).b.1; omega, (h x hx).b.2⟩⟩
theorem P0_of8 {xs : List Z} (hl : xs.length ≤ 8) (h : ∀ x ∈ xs, Bn 61 2 3 [150, 125, 16] x) : P0 (.tup xs) := by
  refine ⟨?_, ?_, ?_, ?_⟩
  · simp only [Z.U, Bool.and_eq_true, decide_eq_true_eq]
    exact ⟨by omega, Us_all.mpr fun x hx => (h x hx).u⟩
  · have := tds_le.mp fun x hx => (h x hx).t
    simp only [td]; omega
  · have := deps_le.mp fun x hx => (h x hx).d
    simp only [dep]; omega
  · have := rss_le (E := 150) fun x hx => (h x hx).b.1
    have : xs.length * 152 ≤ 8 * 152 := Nat.mul_le_mul_right _ hl
    exact ⟨by simp only [rs]; omega, fun x hx => (h x hx).b⟩
theorem HsP.Bn {z : Z} (h : HsP z) : Bn 61 2 3 [117, 125, 16] z := by
  obtain ⟨a, b, f, l, rfl, ha, hb, h1, h2, h3⟩ := h
  refine ⟨?_, ?_, ?_, ?_⟩
  · simp only [Z.U, Us, Bool.and_eq_true, decide_eq_true_eq, ha.U (show 10 ≤ 61 by omega), hb.U (show 10 ≤ 61 by omega)]
    exact ⟨by simp, trivial, trivial, by omega, by omega, trivial⟩
  · simp only [td, tds, lab_td ha, lab_td hb]; omega
  · simp only [dep, deps, lab_dep ha, lab_dep hb]; omega
  · have := lab_rs ha
    have := lab_rs hb
    refine ⟨by simp only [rs, rss]; omega, fun x hx => ?_⟩
    simp only [kids, List.mem_cons, List.not_mem_nil, or_false] at hx
    rcases hx with rfl | rfl | rfl | rfl
    · exact Bd_lab ha (by simp)
    · exact Bd_lab hb (by simp)
    · exact ⟨by simp [rs], fun x hx => by cases hx⟩
    · exact ⟨by simp [rs], fun x hx => by cases hx⟩
theorem ShP.Bn {ks : List Z} (hk : ∀ x ∈ ks, LabP x) {z : Z} (h : ShP ks z) : Bn 61 2 3 [150, 125, 16] z := by
  obtain ⟨a, ls, rfl, ha, hl, hn, hm⟩ := h
  have hL : ∀ x ∈ ls, LabP x := fun x hx => hk x (hm x hx)
  have e1 : tds ls ≤ 0 := tds_le.mp fun x hx => by rw [lab_td (hL x hx)]; exact Nat.le_refl _
  have e2 : deps ls ≤ 0 := deps_le.mp fun x hx => by rw [lab_dep (hL x hx)]; exact Nat.le_refl _
  have e3 := labs_rss hL hl
  have e4 := lab_rs ha
  refine ⟨?_, ?_, ?_, ?_⟩
  · simp only [Z.U, Us, Bool.and_eq_true, decide_eq_true_eq, ha.U (show 10 ≤ 61 by omega)]
    exact ⟨by simp, trivial, ⟨by omega, Us_all.mpr fun x hx => (hL x hx).U (by omega)⟩, trivial⟩
  · simp only [td, tds, lab_td ha]; omega
  · simp only [dep, deps, lab_dep ha]; omega
  · refine ⟨by simp only [rs, rss]; omega, fun x hx => ?_⟩
    simp only [kids, List.mem_cons, List.not_mem_nil, or_false] at hx
    rcases hx with rfl | rfl
    · exact Bd_lab ha (by simp)
    · exact Bd_labs hL hl (by omega) (by simp)
def PartsP (z : Z) : Prop := ∃ k s p hs, z = .tup [k, s, p, hs] ∧ badB k s p hs = none ∧ P0 k ∧ P0 s ∧ P0 p ∧ P0 hs
theorem badB_ok {ks : List Z} {s p hs : Z} (h1 : labsB 1 8 (.tup ks) = true) (h2 : shelvesB ks s = true) (h3 : labsB 1 8 p = true) (h4 : housesB hs = true) : badB (.tup ks) s p hs = none := by
  simp [badB, h1, h2, h3, h4]
theorem parts_of {k p : Z} {sh hs ks : List Z} (hk : LabsP 8 k) (ek : k = .tup ks) (hp : LabsP 8 p) (h : ∀ z ∈ sh, ShP ks z) (h1 : 1 ≤ sh.length) (h8 : sh.length ≤ 8) (hn : (sh.map fstZ).Nodup) (hh : ∀ z ∈ hs, HsP z) (hl : hs.length ≤ 20) : PartsP (.tup [k, .tup sh, p, .tup hs]) := by
  subst ek
  have hL : ∀ x ∈ ks, LabP x := by obtain ⟨xs, e, _, _, h, _⟩ := id hk; cases e; exact h
  refine ⟨_, _, _, _, rfl, badB_ok hk.labs (shelves_of hL h h1 h8 hn) hp.labs ?_, hk.P0 (by omega), P0_of8 h8 fun x hx => (h x hx).Bn hL, hp.P0 (by omega), P0_of hl fun x hx => (hh x hx).Bn⟩
  simp only [housesB, Bool.and_eq_true, decide_eq_true_eq, List.all_eq_true]
  exact ⟨by omega, fun x hx => (hh x hx).stay⟩
end K01
set_option Elab.async false
set_option linter.all false
set_option maxRecDepth 100000
set_option maxHeartbeats 1000000
namespace K01
open PySem PySem.Spec PyProof.Rows L2 ZL
theorem Cr.two {a b : List Z} (ha : belowL 3 a = true) (hb : belowL 3 b = true) : Cr [.lst a, .lst b] := by
  unfold Cr
  simp only [List.all_cons, List.all_nil, Bool.and_true, Bool.and_eq_true]
  exact ⟨ha, hb⟩
theorem blws_of {n : Nat} : ∀ {xs : List Z}, (∀ x ∈ xs, x.blw n = true) → belowL n xs = true
  | [], _ => rfl
  | x :: xs, h => by rw [belowL, h x (by simp), blws_of fun y hy => h y (by simp [hy])]; rfl
theorem ShP.blw {ks : List Z} (hk : ∀ x ∈ ks, LabP x) {z : Z} (h : ShP ks z) (n : Nat) : z.blw n = true := U_blw (h.Bn hk).u
theorem HsP.blw {z : Z} (h : HsP z) (n : Nat) : z.blw n = true := U_blw h.Bn.u
theorem parts_ok {m : MO} (hm : HdOk m) : (F__law_parts [.ref 0] [m]).wp (Dr [] PartsP) := by
  refine run_wp ?_
  unfold m__law_parts
  have sz := szN
  rw [wp_seq]
  refine RS.step (fun s1 h1 => ∃ m ks, HdOk m ∧ LabsP 8 (.tup ks) ∧ h1 = [m, .lst [], .lst []] ∧ s1 = [some (.ref 0), some (.tup ks), some (.ref 1), some (.ref 2), none, none, none, none, none, none, none, none]) ?_ ?_
  · intro N' hI
    simp
    refine Res.wp_mono (labels_ok (rest := []) hm rfl (by omega) (by omega)) ?_
    rintro z h ⟨m, hm, rfl, hz⟩
    obtain ⟨ks, rfl, _⟩ := id hz
    simp
    exact hI _ _ ⟨m, ks, hm, hz, rfl, rfl⟩
  rintro _ _ ⟨m, ks, hm, hk, rfl, rfl⟩
  have hL : ∀ x ∈ ks, LabP x := by obtain ⟨xs, e, _, _, h, _⟩ := id hk; cases e; exact h
  have hk8 : ks.length ≤ 8 ∧ ks.Nodup := by obtain ⟨xs, e, _, h, _, h2⟩ := id hk; cases e; exact ⟨by omega, h2⟩
  rw [wp_seq]
  refine RS.step (fun s1 h1 => ∃ m sh w4 w5 w11, HdOk m ∧ (∀ z ∈ sh, ShP ks z) ∧ 1 ≤ sh.length ∧ sh.length ≤ 8 ∧ (sh.map fstZ).Nodup ∧ h1 = [m, .lst sh, .lst []] ∧ s1 = [some (.ref 0), some (.tup ks), some (.ref 1), some (.ref 2), w4, w5, none, none, none, none, none, w11]) ?_ ?_
  · intro N' hI
    simp
    refine Res.wp_mono (labels_ok hm (Cr.two rfl rfl) (by omega) (by omega)) ?_
    rintro z h ⟨m, hm, rfl, ls, rfl, l1, l2, l3, l4⟩
    simp
    refine for_pre (fun p s1 h1 => ∃ m sh w4 w5 w11, HdOk m ∧ (∀ z ∈ sh, ShP ks z) ∧ sh.map fstZ = p ∧ h1 = [m, .lst sh, .lst []] ∧ s1 = [some (.ref 0), some (.tup ks), some (.ref 1), some (.ref 2), w4, w5, none, none, none, none, none, w11]) ⟨m, [], none, none, none, hm, by simp, rfl, rfl, rfl⟩ ?_ ?_
    · rintro p z q hq _ _ ⟨m, sh, w4, w5, w11, hm, hs, hp, rfl, rfl⟩
      refine ⟨_, rfl, fun N' hI => ?_⟩
      simp
      have hCr : Cr [.lst sh, .lst []] := Cr.two (blws_of fun x hx => (hs x hx).blw hL 3) rfl
      have hlen : sh.length ≤ 8 := by have : sh.length = p.length := by rw [← hp]; simp
                                      rw [hq] at l2; simp at l2; omega
      have hz : LabP z := l3 z (by rw [hq]; simp)
      refine Res.wp_mono (lc_drf (fun z h => rfl) hm fun z hz m hm => ?_) ?_
      · simp
        refine Res.wp_mono (draw_ok hm (by omega) (by omega)) ?_
        rintro z h ⟨m, hm, rfl, r, rfl, r0, r1⟩
        simp
        exact hm
      · rintro ys h ⟨m, hm, rfl, hy⟩
        have ht : ∀ h, tyIs "list" (m :: .lst sh :: h) (Z.ref 1) = true := fun _ => rfl
        have ap : ∀ m v, appZ [m, .lst sh, .lst []] (.ref 1) [v] = some (.non, [m, .lst (sh ++ [v]), .lst []]) := fun m v => by
          show (if sh.length < sizeLine then some (Z.non, [m, MO.lst (sh ++ [v]), MO.lst []]) else none) = _
          rw [if_pos (by omega)]
        have ok : ∀ m ts, HdOk m → (∀ x ∈ ts, x ∈ ys) → ts.length ≤ ys.length → ts.Nodup → N' [some (.ref 0), some (.tup ks), some (.ref 1), some (.ref 2), some z, some (.lst ys), none, none, none, none, none, w11] [m, .lst (sh ++ [.tup [z, .tup ts]]), .lst []] := fun m ts hm h1 h2 h3 => by
          refine hI _ _ ⟨m, _, _, _, _, hm, fun x hx => ?_, ?_, rfl, rfl⟩
          · rcases List.mem_append.mp hx with hx | hx
            · exact hs x hx
            · simp at hx; subst hx
              exact ⟨z, ts, rfl, hz, by have := hy.length_le; omega, h3, fun x hx => hy.subset (h1 x hx)⟩
          · rw [List.map_append, hp]; rfl
        simp [ht]
        refine Res.wp_mono (draw_ok hm (by omega) (by omega)) ?_
        rintro w h ⟨m, hm, rfl, r, rfl, r0, r1⟩
        have t1 : ∀ h zs, tupleZ h [.lst zs] = some (.tup zs) := fun _ _ => rfl
        have t2 : ∀ h, revZ h (.lst ys) = some (.lst ys.reverse) := fun _ => rfl
        simp [t1, t2, ap]
        exact ⟨fun _ => ⟨by omega, _, _, ⟨rfl, rfl⟩, ok m _ hm (fun x hx => List.mem_reverse.mp hx) (by simp) ((List.reverse_perm ys).nodup_iff.mpr (hy.nodup hk8.2))⟩, fun _ => ⟨by omega, _, _, ⟨rfl, rfl⟩, ok m _ hm (fun x hx => hx) (Nat.le_refl _) (hy.nodup hk8.2)⟩⟩
    · rintro _ _ ⟨m, sh, w4, w5, w11, hm, hs, hp, rfl, rfl⟩
      have hl : sh.length = ls.length := by rw [← hp]; simp
      exact hI _ _ ⟨m, sh, w4, w5, w11, hm, hs, by omega, by omega, by rw [hp]; exact l4, rfl, rfl⟩
  rintro _ _ ⟨m, sh, w4, w5, w11, hm, hs, s1, s8, hn, rfl, rfl⟩
  have hsb : belowL 3 sh = true := blws_of fun x hx => (hs x hx).blw hL 3
  rw [wp_seq]
  refine RS.step (fun s1 h1 => ∃ m ns as, HdOk m ∧ LabsP 3 (.tup ns) ∧ LabsP 4 (.tup as) ∧ h1 = [m, .lst sh, .lst []] ∧ s1 = [some (.ref 0), some (.tup ks), some (.ref 1), some (.ref 2), w4, w5, some (.tup ns), some (.tup as), none, none, none, w11]) ?_ ?_
  · intro N' hI
    simp
    refine Res.wp_mono (labels_ok hm (Cr.two hsb rfl) (by omega) (by omega)) ?_
    rintro z h ⟨m, hm, rfl, hz⟩
    refine Res.wp_mono (labels_ok hm (Cr.two hsb rfl) (by omega) (by omega)) ?_
    rintro w h ⟨m, hm, rfl, hw⟩
    obtain ⟨ns, rfl, _⟩ := id hz
    obtain ⟨as, rfl, _⟩ := id hw
    exact hI _ _ ⟨m, ns, as, hm, hz, hw, rfl, rfl⟩
  rintro _ _ ⟨m, ns, as, hm, hns, has, rfl, rfl⟩
  obtain ⟨_, e, n1, n2, n3, _⟩ := hns; cases e
  obtain ⟨_, e, a1, a2, a3, _⟩ := has; cases e
  rw [wp_seq]
  refine RS.step (fun s1 h1 => ∃ m hs w8 w9 w10, HdOk m ∧ (∀ z ∈ hs, HsP z) ∧ hs.length ≤ 20 ∧ h1 = [m, .lst sh, .lst hs] ∧ s1 = [some (.ref 0), some (.tup ks), some (.ref 1), some (.ref 2), w4, w5, some (.tup ns), some (.tup as), w8, w9, w10, w11]) ?_ ?_
  · intro N' hI
    simp
    refine ⟨by omega, ?_⟩
    refine Res.wp_mono (some_ok hm (.inl rfl) (by simp) (by simp)) ?_
    rintro z h ⟨m, hm, rfl, hz⟩
    obtain ⟨j, rfl, j0, j1⟩ : ∃ j : Int, z = .int j ∧ 0 ≤ j ∧ j ≤ 20 := by
      simp only [List.mem_cons, List.not_mem_nil, or_false] at hz
      rcases hz with rfl | rfl | rfl | rfl | rfl
      · exact ⟨_, rfl, by omega, by omega⟩
      · exact ⟨_, rfl, by omega, by omega⟩
      · exact ⟨_, rfl, by omega, by omega⟩
      · exact ⟨_, rfl, by omega, by omega⟩
      · exact ⟨_, rfl, by omega, by omega⟩
    simp
    refine ⟨by omega, by omega, ?_⟩
    refine for_pre (fun p s1 h1 => ∃ m hs w8 w9 w10, HdOk m ∧ (∀ z ∈ hs, HsP z) ∧ hs.length = p.length ∧ h1 = [m, .lst sh, .lst hs] ∧ s1 = [some (.ref 0), some (.tup ks), some (.ref 1), some (.ref 2), w4, w5, some (.tup ns), some (.tup as), w8, w9, w10, w11]) ⟨m, [], none, none, none, hm, by simp, rfl, rfl, rfl⟩ ?_ ?_
    · rintro p z q hq _ _ ⟨m, hs', w8, w9, w10, hm, hh, hp, rfl, rfl⟩
      refine ⟨_, rfl, fun N' hI => ?_⟩
      have hl : (rng 0 j.toNat).length = j.toNat := rng_len _ _
      rw [hq] at hl
      simp at hl
      have ht : ∀ m, tyIs "list" [m, .lst sh, .lst hs'] (Z.ref 2) = true := fun _ => rfl
      have ap : ∀ m v, appZ [m, .lst sh, .lst hs'] (.ref 2) [v] = some (.non, [m, .lst sh, .lst (hs' ++ [v])]) := fun m v => by
        show (if hs'.length < sizeLine then some (Z.non, [m, MO.lst sh, MO.lst (hs' ++ [v])]) else none) = _
        rw [if_pos (by omega)]
      simp
      refine Res.wp_mono (draw_ok hm (by omega) (by omega)) ?_
      rintro w h ⟨m, hm, rfl, f, rfl, f0, f1⟩
      refine Res.wp_mono (draw_ok hm (by omega) (by omega)) ?_
      rintro w h ⟨m, hm, rfl, b, rfl, b0, b1⟩
      have go : ∀ m (l : Int), HdOk m → f ≤ l → l ≤ 999999 → (F__law_some [.ref 0, .tup ns] [m, .lst sh, .lst hs']).wp fun x h1 => (F__law_some [.ref 0, .tup as] h1).wp fun x_1 h1 => 4 ≤ sizeLine ∧ ∃ z_1 h3, appZ h1 (.ref 2) [.tup [x, x_1, .int f, .int l]] = some (z_1, h3) ∧ N' [some (.ref 0), some (.tup ks), some (.ref 1), some (.ref 2), w4, w5, some (.tup ns), some (.tup as), some z, some (.int f), some (.int l), w11] h3 := by
        intro m l hm l1 l2
        refine Res.wp_mono (some_ok hm (.inr rfl) (by omega) (by omega)) ?_
        rintro x h ⟨m, hm, rfl, hx⟩
        refine Res.wp_mono (some_ok hm (.inr rfl) (by omega) (by omega)) ?_
        rintro y h ⟨m, hm, rfl, hy⟩
        refine ⟨by omega, _, _, ap _ _, hI _ _ ⟨m, _, _, _, _, hm, fun u hu => ?_, by simp [hp], rfl, rfl⟩⟩
        rcases List.mem_append.mp hu with hu | hu
        · exact hh u hu
        · simp at hu; subst hu
          exact ⟨x, y, f, l, rfl, n3 x hx, a3 y hy, f0, l1, l2⟩
      simp [ht]
      refine ⟨fun _ => ?_, fun _ => go m 999999 hm (by omega) (by omega)⟩
      refine Res.wp_mono (draw_ok hm (by omega) (by omega)) ?_
      rintro w h ⟨m, hm, rfl, g, rfl, g0, g1⟩
      simp [ht]
      exact go m (f + g) hm (by omega) (by omega)
    · rintro _ _ ⟨m, hs, w8, w9, w10, hm, hh, hp, rfl, rfl⟩
      rw [rng_len] at hp
      exact hI _ _ ⟨m, hs, w8, w9, w10, hm, hh, by omega, rfl, rfl⟩
  rintro _ _ ⟨m, hs', w8, w9, w10, hm, hh, hl, rfl, rfl⟩
  have t1 : ∀ m h, tupleZ (m :: .lst sh :: h) [.ref 1] = some (.tup sh) := fun _ _ => rfl
  have t2 : ∀ m, tupleZ [m, .lst sh, .lst hs'] [.ref 2] = some (.tup hs') := fun _ => rfl
  have hhb : belowL 3 hs' = true := blws_of fun x hx => (hh x hx).blw 3
  simp [t1]
  refine Res.wp_mono (labels_ok hm (Cr.two hsb hhb) (by omega) (by omega)) ?_
  rintro p h ⟨m, hm, rfl, hp⟩
  simp [t2]
  refine ⟨by omega, ?_⟩
  obtain ⟨_, e, p1, p2, p3, p4⟩ := id hp
  subst e
  have hb : (Z.tup [.tup ks, .tup sh, .tup _, .tup hs']).blw 1 = true := U_blw (n := 61) (by
    have h1 := hk.P0 (by omega) |>.u
    have h2 := (P0_of8 s8 fun x hx => (hs x hx).Bn hL).u
    have h3 := hp.P0 (by omega) |>.u
    have h4 := (P0_of hl fun x hx => (hh x hx).Bn).u
    simp only [Z.U, Us, Bool.and_eq_true, decide_eq_true_eq] at h1 h2 h3 h4 ⊢
    exact ⟨by simp, h1, h2, h3, h4, trivial⟩)
  have := fin_cut (h := [m]) (z := .tup [.tup ks, .tup sh, .tup _, .tup hs']) (t := [.lst sh, .lst hs']) (Cr.cl (rest := []) hm rfl) hb
  simp at this
  rw [this]
  exact ⟨m, hm, rfl, parts_of hk rfl hp hs s1 s8 hn hh hl⟩
end K01
set_option Elab.async false
set_option linter.all false
set_option maxRecDepth 100000
set_option maxHeartbeats 1000000
namespace K01
open PySem PySem.Spec PyProof.Rows L2 ZL
theorem hand_ok {ns : List Int} (hl : ns.length ≤ 63) : (F__law_hand [.frl (ns.map Z.int)] []).wp fun z h => z = .ref 0 ∧ ∃ m, HdOk m ∧ h = [m] := by
  refine run_wp ?_
  unfold m__law_hand
  have sz := szN
  have es : ∀ h, slZ h (.frl (ns.map Z.int)) none (some 63) = some (.lst (ns.map Z.int)) := fun h => by
    show some (Out.lst (cutZ _ none (some ((63 : Nat) : Int)))) = _
    rw [cut_to, List.take_of_length_le (by simp; omega)]
  have hlc : ∀ s : Sg, 2 < s.length → lcRun s (gOne 2) zYes (zCallB absZ false (zCons (zCallB intZ false (zCons (zVar 2) zNil)) zNil)) (ns.map Z.int) [] = .ok ((ns.map Z.int).map fun z => match z with | .int i => .int (if i < 0 then -i else i) | z => z) [] := fun s hs => lc_one fun z hz => by
    simp only [List.mem_map] at hz
    obtain ⟨i, _, rfl⟩ := hz
    refine Res.wp_eq ?_
    simp [wp_var (s := s.set 2 (some (.int i))) (i := 2) (z := .int i) (by simp [hs])]
  have em : ((ns.map Z.int).map fun z => match z with | .int i => Z.int (if i < 0 then -i else i) | z => z) = (ns.map fun i => if i < 0 then -i else i).map Z.int := by
    simp [Function.comp_def]
  rw [em] at hlc
  simp [es, hlc]
  refine ⟨by omega, ?_⟩
  unfold fin
  simp [Z.blw]
  refine ⟨ns.map fun i => if i < 0 then -i else i, 0, 0, 37 + ns.length, 0, by simp [hand], by simp; omega, fun i hi => ?_, by omega, by omega, by omega, by omega, by omega⟩
  simp only [List.mem_map] at hi
  obtain ⟨j, _, rfl⟩ := hi
  split <;> omega
/-! bent parts -/
def bv : Nat → List Nat
  | 0 => B0
  | j + 1 => nb (bv j)
abbrev Pj (j : Nat) (z : Z) : Prop := Bn (61 + j) (3 + j) (4 + 14 * j) (bv j) z
def BP (q : Nat) (z : Z) : Prop := ∃ k s p hs a b c d, z = .tup [k, s, p, hs] ∧ Pj a k ∧ Pj b s ∧ Pj c p ∧ Pj d hs ∧ a + b + c + d ≤ q
def hd (j : Nat) : Nat := (bv j).headD 0
theorem bv_hd (j : Nat) : ∃ ds, bv j = hd j :: ds := by
  have : ∀ j, ∃ d ds, bv j = d :: ds := fun j => by
    induction j with
    | zero => exact ⟨_, _, rfl⟩
    | succ j ih =>
      obtain ⟨d, ds, e⟩ := ih
      obtain ⟨d2, ds2, e2, _⟩ := nb_ne d ds
      exact ⟨d2, ds2, by rw [bv, e, e2]⟩
  obtain ⟨d, ds, e⟩ := this j
  exact ⟨ds, by unfold hd; rw [e]; rfl⟩
theorem Pj.rs {j : Nat} {z : Z} (h : Pj j z) : rs z ≤ hd j := by
  obtain ⟨ds, e⟩ := bv_hd j
  have := h.b
  rw [e] at this
  exact this.1
theorem hds {a b c d : Nat} (h : a + b + c + d ≤ 3) : hd a + hd b + hd c + hd d ≤ 16000000 := by
  have : ∀ a : _root_.Fin 4, ∀ b : _root_.Fin 4, ∀ c : _root_.Fin 4, ∀ d : _root_.Fin 4, a.val + b.val + c.val + d.val ≤ 3 → hd a.val + hd b.val + hd c.val + hd d.val ≤ 16000000 := by decide +kernel
  exact this ⟨a, by omega⟩ ⟨b, by omega⟩ ⟨c, by omega⟩ ⟨d, by omega⟩ h
theorem hd_noX {m : MO} (hm : HdOk m) : m.noX = true := by
  obtain ⟨cs, a, b, c, d, rfl, _⟩ := hm
  have : ∀ cs : List Int, noXs (cs.map Z.int) = true := fun cs => by
    induction cs with
    | nil => rfl
    | cons c cs ih => rw [List.map_cons, noXs, ih]; rfl
  show noXs [.lst (cs.map Z.int), .int a, .int b, .int c, .int d] = true
  rw [noXs]
  show (noXs (cs.map Z.int) && _) = true
  rw [this]; rfl
theorem BP.right {q : Nat} {z : Z} (h : BP q z) (hq : q ≤ 3) {m : MO} (hm : HdOk m) : F__law_is_right [z] [m] = .ok (.bl true) [m] := by
  obtain ⟨k, s, p, hs, a, b, c, d, rfl, pk, ps, pp, ph, hj⟩ := h
  have uk : k.U 64 = true := U_mono (by omega) pk.u
  have us : s.U 64 = true := U_mono (by omega) ps.u
  have up : p.U 64 = true := U_mono (by omega) pp.u
  have uh : hs.U 64 = true := U_mono (by omega) ph.u
  have hr := repr_tup (n := 64) (xs := [k, s, p, hs]) (by
    simp only [Z.U, Us, Bool.and_eq_true, decide_eq_true_eq]; exact ⟨by simp, uk, us, up, uh, trivial⟩) (by
    have := pk.d; have := ps.d; have := pp.d; have := ph.d
    simp only [dep, deps]; omega) (by
    have := pk.rs; have := ps.rs; have := pp.rs; have := ph.rs; have := hds (show a + b + c + d ≤ 3 by omega)
    simp only [rs, rss]; omega)
  obtain ⟨r, hr, ro⟩ := hr
  refine f_is_right (n := 64) (by omega) k s p hs [m] (Cr.cl (rest := []) hm rfl) ?_ uk us up uh hr ro
  simp [hd_noX hm]
theorem PartsP.BP {z : Z} (h : PartsP z) : BP 0 z := by
  obtain ⟨k, s, p, hs, rfl, hb, h1, h2, h3, h4⟩ := h
  exact ⟨k, s, p, hs, 0, 0, 0, 0, rfl, h1, h2, h3, h4, by omega⟩
theorem Bent.next {j : Nat} {S : Nat} {z : Z} (h : Bent (61 + j) (3 + j) (4 + 14 * j) (bv j) S z) : Pj (j + 1) z := by
  have := h.1
  rw [show 61 + j + 1 = 61 + (j + 1) by omega, show 3 + j + 1 = 3 + (j + 1) by omega, show 4 + 14 * j + 14 = 4 + 14 * (j + 1) by omega] at this
  exact this
/-! parts known by hand -/
def longV : Z := .tup [.str "aa", .str "bb", .str "cc", .str "dd", .str "ee", .str "ff", .str "gg", .str "hh"]
def houseV : Z := .tup [.str "h", .str "ann", .int 0, .int 999999]
def revV : Z := .tup [.str "hh", .str "gg", .str "ff", .str "ee", .str "dd", .str "cc", .str "bb", .str "aa"]
def aV : Z := .tup [.str "a"]
def sV (x : List Z) : Z := .tup [.tup [.str "s", .tup x]]
def casesL : List (Z × Z) := [
  (.tup [aV, sV [], .tup [.str "p"], .tup []], .non),
  (.tup [longV, .tup [.tup [.str "s", revV]], longV, .tup (List.replicate 20 houseV)], .non),
  (.tup [.tup [.str "aa", .str "bb", .str "cc", .str "dd", .str "ee", .str "ff", .str "gg", .str "hh", .str "ii"], .tup [], .tup [], .non], .str "kinds"),
  (.tup [aV, sV [.str "b"], .tup [], .tup []], .str "shelves"),
  (.tup [aV, sV [.str "a", .str "a"], .tup [.str "p"], .tup []], .str "shelves"),
  (.tup [aV, sV [], .tup [.str "p", .str "p"], .tup []], .str "partners"),
  (.tup [aV, .tup [.tup [.str "s", .tup []], .tup [.str "s", .tup []]], .tup [.str "p"], .tup []], .str "shelves"),
  (.tup [aV, sV [], .tup [.str "p"], .tup (List.replicate 21 houseV)], .str "houses"),
  (.tup [aV, sV [], .tup [.str "p"], .tup [.tup [.str "h", .str "ann", .int 3, .int 2]]], .str "houses"),
  (.tup [.tup [], .non, .non, .non], .str "kinds"),
  (.tup [aV, sV [], .tup [.str "p"], .tup [.tup [.str "h", .str "ann", .int 0, .int 1000000]]], .str "houses")]
def caseB : Z × Z → Bool
  | (.tup [k, s, p, hs], due) => k.U 64 && s.U 64 && p.U 64 && hs.U 64 && decide (dep (.tup [k, s, p, hs]) ≤ 60) && decide (rs (.tup [k, s, p, hs]) ≤ 16777216) && (match badB k s p hs, due with
    | none, .non => true
    | some w, .str x => decide (w = x) && okS x
    | _, _ => false)
  | _ => false
theorem cases_ok : casesL.all caseB = true := by decide +kernel
theorem case_ok {c : Z × Z} (h : caseB c = true) {H : Hv} (cl : ZL.Cl H) (nx : H.all MO.noX = true) : ∃ v, F__law_bad_part [c.1] H = .ok v H ∧ eqZ H v c.2 = some (.val (.bl true)) ∧ F__law_is_right [c.1] H = .ok (.bl true) H := by
  obtain ⟨z, due⟩ := c
  unfold caseB at h
  split at h
  · rename_i k s p hs due' e
    cases e
    simp only [Bool.and_eq_true, decide_eq_true_eq] at h
    obtain ⟨⟨⟨⟨⟨⟨uk, us⟩, up⟩, uh⟩, hd⟩, hr⟩, hb⟩ := h
    obtain ⟨r, hr, ro⟩ := repr_tup (n := 64) (xs := [k, s, p, hs]) (by
      simp only [Z.U, Us, Bool.and_eq_true, decide_eq_true_eq]; exact ⟨by simp, uk, us, up, uh, trivial⟩) hd hr
    refine ⟨badZ k s p hs, f_law_bad_part (n := 64) (by omega) k s p hs H uk us up uh, ?_, f_is_right (n := 64) (by omega) k s p hs H cl nx uk us up uh hr ro⟩
    unfold badZ
    split at hb
    · rename_i e; rw [e]; rfl
    · rename_i w x e
      simp only [Bool.and_eq_true, decide_eq_true_eq] at hb
      rw [e, hb.1]
      simp only [eqZ]
      rw [eqD_str (okS_strOk hb.2) (okS_strOk hb.2)]
      simp
    · cases hb
  · cases h
def casesM : List Z := casesL.map fun q => .tup [q.1, q.2]
def knownEnd : MS := zFrz 2 (zRet (zCallB allZ false (zCons (zLc false [3, 4] (iSeq (zVar 2)) (gTp [(gOne 3), (gOne 4)]) zYes (zAndE (zBin eqZ false (zCall F__law_bad_part (zCons (zVar 3) zNil)) (zVar 4)) (zCall F__law_is_right (zCons (zVar 3) zNil)))) zNil)))
theorem known_pre (m : MO) : m__law_known_right [none, none, none, none, none] [m] = knownEnd [some longV, some houseV, some (.ref 2), none, none] [m, .lst (casesM.take 2), .lst casesM] := by
  kernel_rfl
end K01
set_option Elab.async false
set_option linter.all false
set_option maxRecDepth 100000
set_option maxHeartbeats 1000000
namespace K01
open PySem PySem.Spec PyProof.Rows L2 ZL
theorem known_ok {m : MO} (hm : HdOk m) : F__law_known_right [] [m] = .ok (.bl true) [m] := by
  refine Res.wp_eq (run_wp ?_)
  show (m__law_known_right [none, none, none, none, none] [m]).wp _ _
  rw [known_pre]
  have ef : frzS 2 [some longV, some houseV, some (.ref 2), none, none] [m, .lst (casesM.take 2), .lst casesM] = ([some longV, some houseV, some (.lst casesM), none, none], [m, .lst (casesM.take 2), .dead]) := rfl
  unfold knownEnd zFrz
  rw [ef]
  have hl : lcRun [some longV, some houseV, some (.lst casesM), none, none] (gTp [(gOne 3), (gOne 4)]) zYes (zAndE (zBin eqZ false (zCall F__law_bad_part (zCons (zVar 3) zNil)) (zVar 4)) (zCall F__law_is_right (zCons (zVar 3) zNil))) casesM [m, .lst (casesM.take 2), .dead] = .ok (casesL.map fun _ => .bl true) [m, .lst (casesM.take 2), .dead] := by
    refine lc_tp2 (f := fun _ _ => Z.bl true) fun q hq => ?_
    obtain ⟨v, e1, e2, e3⟩ := case_ok (List.all_eq_true.mp cases_ok q hq) (H := [m, .lst (casesM.take 2), .dead]) (by
      have h1 := hd_blw hm 3
      have h2 : (MO.lst (casesM.take 2)).blw 3 = true := by decide +kernel
      show (m.blw 3 && ((MO.lst (casesM.take 2)).blw 3 && (MO.dead.blw 3 && true))) = true
      rw [h1, h2]; rfl) (by
      have h2 : (MO.lst (casesM.take 2)).noX = true := by decide +kernel
      show (m.noX && ((MO.lst (casesM.take 2)).noX && (MO.dead.noX && true))) = true
      rw [hd_noX hm, h2]; rfl)
    refine Res.wp_eq ?_
    simp only [List.set, wp_andE, wp_bin, wp_call, wp_cons, wp_nil, wp_varS, wp_var0, e1, wp_ok, e2, e3, wp_val, isBl_bl]
    simp
  have ha : ∀ h, allZ h [.lst (casesL.map fun _ => .bl true)] = some (.val (.bl true)) := fun h => rfl
  have hf := fin_cut (h := [m]) (z := .bl true) (t := [.lst (casesM.take 2), .dead]) (Cr.cl (rest := []) hm rfl) rfl
  simp only [wp_ret, wp_callB, wp_cons, wp_nil, wp_lc, wp_iseq, wp_varS, wp_var0, items_lst, wipeZ, List.set, hl, wp_ok, wp_olstF, ha, wp_val]
  refine ⟨_, rfl, ?_⟩
  rw [hl]
  simp only [wp_ok, wp_olstF, ha, wp_val]
  show (fin 1 (.bl true) ([m] ++ [.lst (casesM.take 2), .dead])).wp _
  have hf' : fin 1 (.bl true) ([m] ++ [.lst (casesM.take 2), .dead]) = .ok (.bl true) [m] := hf
  rw [hf']
  exact ⟨rfl, rfl⟩
theorem step_ok {q : Nat} {z : Z} (h : BP q z) (hq : q < 3) {m : MO} (hm : HdOk m) {s0 s1 s2 s3 s4 s6 w7 : Option Z} (e1 : s1 = some (.ref 0)) :
    ((zSeq (zAsg (zCall F__law_draw (zCons (zVar 1) (zCons (zC (.int 4)) zNil))) (gOne 7))
  (zAsg (zBin addZ false (zBin addZ false (zSl false (zVar 5) zNone (zSome (zVar 7))) (zTup (zCons (zCall (F__law_bent 20) (zCons (zVar 1) (zCons (zBin ixZ false (zVar 5) (zVar 7)) zNil))) zNil))) (zSl false (zVar 5) (zSome (zBin addZ false (zVar 7) (zC (.int 1)))) zNone)) (gOne 5))) [s0, s1, s2, s3, s4, some z, s6, w7] [m]).wp (fun s h => ∃ m z' w7, HdOk m ∧ h = [m] ∧ BP (q + 1) z' ∧ s = [s0, s1, s2, s3, s4, some z', s6, w7]) fun _ _ => False := by
  subst e1
  have sz := szN
  rw [wp_seq]
  refine RS.step (fun s h => ∃ m k, HdOk m ∧ h = [m] ∧ k < 4 ∧ s = [s0, some (.ref 0), s2, s3, s4, some z, s6, some (.int (k : Nat))]) ?_ ?_
  · intro N' hI
    simp
    refine Res.wp_mono (draw_ok (rest := []) hm (by omega) (by omega)) ?_
    rintro w h ⟨m, hm, rfl, r, rfl, r0, r1⟩
    obtain ⟨k, rfl⟩ : ∃ k : Nat, r = k := ⟨r.toNat, by omega⟩
    exact hI _ _ ⟨m, k, hm, rfl, by omega, rfl⟩
  rintro _ _ ⟨m, k, hm, rfl, hk, rfl⟩
  obtain ⟨x, s, p, hs, a, b, c, d, rfl, pk, ps, pp, ph, hj⟩ := h
  have c1 : ∀ xs : List Z, cutZ xs none (some 1) = xs.take 1 := fun xs => cut_to 1
  have c2 : ∀ xs : List Z, cutZ xs none (some 2) = xs.take 2 := fun xs => cut_to 2
  have c3 : ∀ xs : List Z, cutZ xs none (some 3) = xs.take 3 := fun xs => cut_to 3
  have c0 : ∀ xs : List Z, cutZ xs none (some 0) = xs.take 0 := fun xs => cut_to 0
  have d1 : ∀ xs : List Z, cutZ xs (some 1) none = xs.drop 1 := fun xs => cut_from 1
  have d2 : ∀ xs : List Z, cutZ xs (some 2) none = xs.drop 2 := fun xs => cut_from 2
  have d3 : ∀ xs : List Z, cutZ xs (some 3) none = xs.drop 3 := fun xs => cut_from 3
  have d4 : ∀ xs : List Z, cutZ xs (some 4) none = xs.drop 4 := fun xs => cut_from 4
  have q4 : k = 0 ∨ k = 1 ∨ k = 2 ∨ k = 3 := by omega
  have bent := fun {j : Nat} {z : Z} (hj : j < 3) (hz : Pj j z) => bent_ok (n := 61 + j) (by omega) (by omega) (rest := []) rfl 20 (t := 3 + j) (d := 4 + 14 * j) (bs := bv j) hm hz (by omega)
  rcases q4 with rfl | rfl | rfl | rfl
  · simp [c0, d1]
    refine Res.wp_mono (bent (by omega) pk) ?_
    rintro w h ⟨m, hm, rfl, hw⟩
    simp [c0, d1, szN]
    exact ⟨m, hm, rfl, _, _, _, _, a + 1, b, c, d, rfl, Bent.next hw, ps, pp, ph, by omega⟩
  · simp [c1, d2]
    refine Res.wp_mono (bent (by omega) ps) ?_
    rintro w h ⟨m, hm, rfl, hw⟩
    simp [c1, d2, szN]
    exact ⟨m, hm, rfl, _, _, _, _, a, b + 1, c, d, rfl, pk, Bent.next hw, pp, ph, by omega⟩
  · simp [c2, d3]
    refine Res.wp_mono (bent (by omega) pp) ?_
    rintro w h ⟨m, hm, rfl, hw⟩
    simp [c2, d3, szN]
    exact ⟨m, hm, rfl, _, _, _, _, a, b, c + 1, d, rfl, pk, ps, Bent.next hw, ph, by omega⟩
  · simp [c3, d4]
    refine Res.wp_mono (bent (by omega) ph) ?_
    rintro w h ⟨m, hm, rfl, hw⟩
    simp [c3, d4, szN]
    exact ⟨m, hm, rfl, _, _, _, _, a, b, c, d + 1, rfl, pk, ps, pp, Bent.next hw, by omega⟩
theorem bad_of {q : Nat} {z : Z} (h : BP q z) (hq : q ≤ 3) (H : Hv) : ∃ k s p hs, z = .tup [k, s, p, hs] ∧ k.U 64 = true ∧ s.U 64 = true ∧ p.U 64 = true ∧ hs.U 64 = true ∧ F__law_bad_part [z] H = .ok (badZ k s p hs) H := by
  obtain ⟨k, s, p, hs, a, b, c, d, rfl, pk, ps, pp, ph, hj⟩ := h
  have uk : k.U 64 = true := U_mono (by omega) pk.u
  have us : s.U 64 = true := U_mono (by omega) ps.u
  have up : p.U 64 = true := U_mono (by omega) pp.u
  have uh : hs.U 64 = true := U_mono (by omega) ph.u
  exact ⟨k, s, p, hs, rfl, uk, us, up, uh, f_law_bad_part (n := 64) (by omega) k s p hs H uk us up uh⟩
theorem eq_parts {y z : Z} {q : Nat} (hy : PartsP y) (hz : BP q z) (hq : q ≤ 3) (hb : ∀ k s p hs, z = .tup [k, s, p, hs] → badB k s p hs = none) {m : MO} (hm : HdOk m) : F__law_equal_right [y, z] [m] = .ok (.bl true) [m] := by
  obtain ⟨k, s, p, hs, rfl, b0, h1, h2, h3, h4⟩ := hy
  obtain ⟨k', s', p', hs', rfl, u1, u2, u3, u4, _⟩ := bad_of hz hq [m]
  exact f_equal_right (n := 64) (by omega) [m] (Cr.cl (rest := []) hm rfl) (U_mono (by omega) h1.u) (U_mono (by omega) h2.u) (U_mono (by omega) h3.u) (U_mono (by omega) h4.u) b0 u1 u2 u3 u4 (hb _ _ _ _ rfl)
theorem plain (ns : List Int) (hl : ns.length ≤ 63) (_ : ∀ i ∈ ns, Builtin.Int.intBits i ≤ 1048576) : ∃ h', F_law [.frl (ns.map Z.int)] [] = .ok (.bl true) h' := by
  have sz := szN
  have main : (F_law [.frl (ns.map Z.int)] []).wp fun z _ => z = .bl true := by
    refine run_wp ?_
    unfold m_law
    rw [wp_seq]
    refine RS.step (fun s h => ∃ m, HdOk m ∧ h = [m] ∧ s = [some (.frl (ns.map Z.int)), some (.ref 0), none, none, none, none, none, none]) ?_ ?_
    · intro N' hI
      simp
      refine Res.wp_mono (hand_ok hl) ?_
      rintro z h ⟨rfl, m, hm, rfl⟩
      exact hI _ _ ⟨m, hm, rfl, rfl⟩
    rintro _ _ ⟨m, hm, rfl, rfl⟩
    rw [wp_seq]
    refine RS.step (fun s h => ∃ m, HdOk m ∧ h = [m] ∧ ∃ r, s = r) ?_ ?_
    · intro N' hI
      simp
      refine ⟨by omega, ?_⟩
      refine for_pre (fun _ s h => ∃ m w2 w3 w4 w5 w6 w7, HdOk m ∧ h = [m] ∧ s = [some (.frl (ns.map Z.int)), some (.ref 0), w2, w3, w4, w5, w6, w7]) ⟨m, _, _, _, _, _, _, hm, rfl, rfl⟩ ?_ ?_
      · rintro _ z _ _ _ _ ⟨m, w2, w3, w4, w5, w6, w7, hm, rfl, rfl⟩
        refine ⟨_, rfl, fun N' hI => ?_⟩
        rw [wp_seq]
        refine RS.step (fun s h => ∃ m y, HdOk m ∧ PartsP y ∧ h = [m] ∧ s = [some (.frl (ns.map Z.int)), some (.ref 0), some z, some y, w4, w5, w6, w7]) ?_ ?_
        · intro N' hI
          simp
          refine Res.wp_mono (parts_ok hm) ?_
          rintro y h ⟨m, hm, rfl, hy⟩
          exact hI _ _ ⟨m, y, hm, hy, rfl, rfl⟩
        rintro _ _ ⟨m, y, hm, hy, rfl, rfl⟩
        rw [wp_seq]
        refine RS.step (fun s h => h = [m] ∧ s = [some (.frl (ns.map Z.int)), some (.ref 0), some z, some y, w4, w5, w6, w7]) ?_ ?_
        · intro N' hI
          have := hy.BP.right (by omega) hm
          simp [this]
          exact hI _ _ ⟨rfl, rfl⟩
        rintro _ _ ⟨rfl, rfl⟩
        rw [wp_seq]
        refine RS.step (fun s h => ∃ m w4 w5 w6 w7, HdOk m ∧ h = [m] ∧ s = [some (.frl (ns.map Z.int)), some (.ref 0), some z, some y, w4, w5, w6, w7]) ?_ ?_
        · intro N' hI
          simp
          refine ⟨by omega, ?_⟩
          refine for_pre (fun _ s h => ∃ m w4 w5 w6 w7, HdOk m ∧ h = [m] ∧ s = [some (.frl (ns.map Z.int)), some (.ref 0), some z, some y, w4, w5, w6, w7]) ⟨m, _, _, _, _, hm, rfl, rfl⟩ ?_ ?_
          · rintro _ a _ _ _ _ ⟨m, w4, w5, w6, w7, hm, rfl, rfl⟩
            refine ⟨_, rfl, fun N' hI => ?_⟩
            rw [wp_seq]
            refine RS.step (fun s h => h = [m] ∧ s = [some (.frl (ns.map Z.int)), some (.ref 0), some z, some y, some a, some y, w6, w7]) ?_ ?_
            · intro N' hI
              simp
              exact hI _ _ ⟨rfl, rfl⟩
            rintro _ _ ⟨rfl, rfl⟩
            rw [wp_seq]
            refine RS.step (fun s h => ∃ m b w6 w7, HdOk m ∧ BP 3 b ∧ h = [m] ∧ s = [some (.frl (ns.map Z.int)), some (.ref 0), some z, some y, some a, some b, w6, w7]) ?_ ?_
            · intro N' hI
              simp only [wp_for, wp_r1, wp_cons, wp_nil, wp_bin, wp_c, wp_call, wp_varS, wp_var0]
              refine Res.wp_mono (draw_ok (rest := []) hm (by omega) (by omega)) ?_
              rintro w h ⟨m, hm, rfl, r, rfl, r0, r1⟩
              simp only [addZ_int, wp_val]
              refine ⟨_, rfl, by omega, by omega, ?_⟩
              refine for_pre (fun p s h => ∃ m b w6 w7, HdOk m ∧ BP p.length b ∧ h = [m] ∧ s = [some (.frl (ns.map Z.int)), some (.ref 0), some z, some y, some a, some b, w6, w7]) ⟨m, y, _, _, hm, hy.BP, rfl, rfl⟩ ?_ ?_
              · rintro p c q e _ _ ⟨m, b, w6, w7, hm, hb, rfl, rfl⟩
                refine ⟨_, rfl, fun N' hI => ?_⟩
                have hl := rng_len 0 (1 + r).toNat
                rw [e] at hl
                simp at hl
                refine RS.wp_mono (step_ok hb (by omega) hm rfl) ?_ (fun _ _ e => e.elim)
                rintro s h ⟨m, b', w7', hm, rfl, hb', rfl⟩
                exact hI _ _ ⟨m, b', _, _, hm, by simpa using hb', rfl, rfl⟩
              · rintro _ _ ⟨m, b, w6, w7, hm, hb, rfl, rfl⟩
                rw [rng_len] at hb
                obtain ⟨k, s, p, hs, a1, b1, c1, d1, e, h1, h2, h3, h4, h5⟩ := hb
                exact hI _ _ ⟨m, b, _, _, hm, ⟨k, s, p, hs, a1, b1, c1, d1, e, h1, h2, h3, h4, by omega⟩, rfl, rfl⟩
            rintro _ _ ⟨m, b, w6, w7, hm, hb, rfl, rfl⟩
            rw [wp_seq]
            refine RS.step (fun s h => h = [m] ∧ s = [some (.frl (ns.map Z.int)), some (.ref 0), some z, some y, some a, some b, w6, w7]) ?_ ?_
            · intro N' hI
              have := hb.right (by omega) hm
              simp [this]
              exact hI _ _ ⟨rfl, rfl⟩
            rintro _ _ ⟨rfl, rfl⟩
            obtain ⟨k, s, p, hs, rfl, _, _, _, _, hbad⟩ := bad_of hb (by omega) [m]
            simp [hbad]
            have fine : N' [some (.frl (ns.map Z.int)), some (.ref 0), some z, some y, some a, some (.tup [k, s, p, hs]), w6, w7] [m] := hI _ _ ⟨m, _, _, _, _, hm, rfl, rfl⟩
            cases eb : badB k s p hs with
            | some w =>
              have : isNon (badZ k s p hs) = false := by unfold badZ; rw [eb]; rfl
              simp [this]
              exact fine
            | none =>
              have : isNon (badZ k s p hs) = true := by unfold badZ; rw [eb]; rfl
              have e2 := eq_parts hy hb (by omega) (fun _ _ _ _ e => by cases e; exact eb) hm
              simp [this, e2]
              exact fine
          · rintro _ _ ⟨m, w4, w5, w6, w7, hm, rfl, rfl⟩
            exact hI _ _ ⟨m, _, _, _, _, hm, rfl, rfl⟩
        rintro _ _ ⟨m, w4, w5, w6, w7, hm, rfl, rfl⟩
        simp
        refine Res.wp_mono (parts_ok hm) ?_
        rintro u h ⟨m, hm, rfl, hu⟩
        have e2 := eq_parts hy hu.BP (by omega) (fun _ _ _ _ e => by
          obtain ⟨_, _, _, _, e', b0, _⟩ := hu
          rw [e'] at e; cases e; exact b0) hm
        simp [e2]
        exact hI _ _ ⟨m, _, _, _, _, _, _, hm, rfl, rfl⟩
      · rintro _ _ ⟨m, w2, w3, w4, w5, w6, w7, hm, rfl, rfl⟩
        exact hI _ _ ⟨m, hm, rfl, _, rfl⟩
    rintro _ _ ⟨m, hm, rfl, _, rfl⟩
    simp [known_ok hm]
    unfold fin
    simp [Z.blw]
  obtain ⟨z, h, e, rfl⟩ := Res.wp_ex main
  exact ⟨h, e⟩
end K01
namespace K01
open PySem PySem.W PySem.Calls PyProof.Rows L2 ZL
abbrev R : OpenRow := OpenLaw.row PySem.Challenge.rw_owedpoints_k01_programmes_let_and_refuse
abbrev qv : Program := view R.prog [45]
def names : List PySem.Str := (["LETTERS", "MOST_SIGNS", "MOST_DAY", "is_integer", "is_from_to", "is_label", "is_day", "is_tuple_of", "are_labels", "PointError", "BadProgramme", "MOST_KINDS", "MOST_SHELVES", "MOST_PARTNERS", "MOST_HOUSES", "is_shelf_of", "are_shelves", "is_stay", "are_houses", "Programme", "_law_hand", "_law_draw", "_law_some", "_law_is", "_law_int", "_law_label", "_law_labels", "_law_parts", "_law_is_label", "_law_is_day"] : List PySem.Str) ++ (["_law_are_labels", "_law_are_shelves", "_law_are_houses", "_law_bad_part", "_law_deep", "_law_odd", "_law_bent", "_law_told", "_law_is_right", "_law_equal_right", "_law_known_right"] : List PySem.Str)
abbrev hk : Hook := hookZ 4 fz fn ins
def ob (s : SharedT) : AlZ := obsZG 4 fz fn ins (HandSHeadRun.getT s)
theorem ob_eq (s : SharedT) : ob s = hk.obs s.abs := obsZG_eq (HandSHeadRun.getT_eq s)
theorem run (w : World) : HandSHeadRun.RunEq R qv hk ob 100000 names w := by
  intro os
  kernel_rfl
end K01
open PySem PySem.W PySem.Calls PyProof.Rows in
theorem K01.holds : PySem.Challenge.rw_owedpoints_k01_programmes_let_and_refuse.Holds := by
  w_on; o_law
  refine HandSHeadRun.head_any (r := OpenLaw.row PySem.Challenge.rw_owedpoints_k01_programmes_let_and_refuse) (q := K01.qv) (H := K01.hk) (ob := K01.ob) (M := 100000) (loose := K01.names) (d := HandSHeadRun.topDef (OpenLaw.row PySem.Challenge.rw_owedpoints_k01_programmes_let_and_refuse).prog 45) (kwd := []) K01.ob_eq
    (by kernel_rfl) (fun s => by kernel_rfl) K01.run (by kernel_rfl) (by kernel_rfl) (by kernel_rfl) (by rfl) (by first | assumption | decide +kernel) (by decide +kernel) ⟨rfl, rfl, rfl, rfl, rfl, by decide +kernel⟩ ?hw ?hc
  case hw => w_witness2
  case hc =>
    refine ZL.walk_Z (l := PySem.Challenge.rw_owedpoints_k01_programmes_let_and_refuse) (n := 63) (k := 25) (F := K01.F_law) rfl (by decide) (by kernel_rfl) ⟨⟨rfl, by decide, by decide⟩, rfl⟩ ?F K01.plain
    intro w mg fa h Y G hmg0
    obtain ⟨K, KX, c⟩ := Y
    have hmg : mg ("law" : PySem.Str) = some (.ref fa) := by
      have e : (HandSHeadRun.topDef (OpenLaw.row PySem.Challenge.rw_owedpoints_k01_programmes_let_and_refuse).prog 45).name = ("law" : PySem.Str) := by kernel_rfl
      rw [← e]
      exact hmg0
    have O := K01.fx KX G c
    have e := hmg.symm.trans (He.glo_ok KX G (c.fact (f := .fa (.glo "law")) 72))
    cases e
    exact ⟨K, KX, fun base _ _ => K01.z_law O⟩
set_option maxRecDepth 100000 in
set_option maxHeartbeats 8000000 in
theorem PySem.Challenge.cw_owedpoints_k01_programmes_let_and_refuse_holds : PySem.Challenge.rw_owedpoints_k01_programmes_let_and_refuse.Holds := by
  exact K01.holds
