import PyProof.Rows.All
import Wide.All
import OpenK.AllK
import Wide.FinOn
import HandS.ForMost
import HandS.ForExc
import HandS.Walk
import HandS.Wide
import HandS.IsInst
import HandS.TupAny
import HandS.TupMul
import HandS.TupLe
import HandS.Style
import HandS.Flow
import HandS.SortInts
import KE.KTupSum
import HandS.Zip
import HandS.Deep
import HandS.Text
import KE.GoesEnum
import KE.GoesMore
import PyProof.ReprRoads
import HandS.SetFor
import HandS.TupSets
import KE.DataMinMax
import KE.SortData
import HandS.Conv
import PySem.Challenge.RW_meanchoice_k13_boards_of_anything
set_option Elab.async false
set_option linter.all false
set_option maxRecDepth 100000
set_option maxHeartbeats 2000000
/-! DL: a layer of plain data over the hand layer: what an expression or a block computes, as a Lean function of data. -/
namespace DL
open PySem PySem.Spec PyProof.Rows L2

abbrev D := PyData
/-- the lists that are known by reference (the tape), by number -/
abbrev T := List (List D)
inductive Rs (α : Type) where
  | ok (a : α) (τ : T)
  | er (e : Str) (τ : T)
  | no
/-- a computation over the lists by reference -/
def M (α : Type) := T → Rs α
def pu {α : Type} (a : α) : M α := fun τ => .ok a τ
def bd {α β : Type} (m : M α) (k : α → M β) : M β := fun τ => match m τ with
  | .ok a τ' => k a τ'
  | .er e τ' => .er e τ'
  | .no => .no
def no {α : Type} : M α := fun _ => .no
def rz {α : Type} (e : Str) : M α := fun τ => .er e τ
def li {α : Type} (o : Option α) : M α := match o with
  | some a => pu a
  | none => no
@[simp] theorem li_some {α : Type} (a : α) : li (some a) = pu a := rfl
@[simp] theorem li_none {α : Type} : li (none : Option α) = no := rfl
@[simp] theorem bd_pu {α β : Type} (a : α) (k : α → M β) : bd (pu a) k = k a := rfl
@[simp] theorem bd_no {α β : Type} (k : α → M β) : bd no k = no := rfl
@[simp] theorem bd_rz {α β : Type} (e : Str) (k : α → M β) : bd (rz e) k = rz e := rfl
theorem bd_bd {α β γ : Type} (m : M α) (k : α → M β) (l : β → M γ) : bd (bd m k) l = bd m fun a => bd (k a) l := by
  funext τ
  unfold bd
  cases m τ <;> rfl
theorem bd_id {α : Type} (m : M α) : bd m pu = m := by
  funext τ
  unfold bd pu
  cases m τ <;> rfl
/-- what must hold of the end -/
@[irreducible] def Rs.wp {α : Type} (r : Rs α) (Q : α → T → Prop) (E : Str → T → Prop) : Prop := match r with
  | .ok a τ => Q a τ
  | .er e τ => E e τ
  | .no => False
theorem wp_ok {α : Type} {a : α} {τ : T} {Q : α → T → Prop} {E : Str → T → Prop} : (Rs.ok a τ).wp Q E ↔ Q a τ := by simp only [Rs.wp]
theorem wp_er {α : Type} {e : Str} {τ : T} {Q : α → T → Prop} {E : Str → T → Prop} : (Rs.er e τ : Rs α).wp Q E ↔ E e τ := by simp only [Rs.wp]
theorem wp_no {α : Type} {Q : α → T → Prop} {E : Str → T → Prop} : (Rs.no : Rs α).wp Q E ↔ False := by simp only [Rs.wp]
theorem wp_pu {α : Type} {a : α} {τ : T} {Q : α → T → Prop} {E : Str → T → Prop} : (pu a τ).wp Q E ↔ Q a τ := wp_ok
theorem wp_rz {α : Type} {e : Str} {τ : T} {Q : α → T → Prop} {E : Str → T → Prop} : ((rz e : M α) τ).wp Q E ↔ E e τ := wp_er
theorem wp_nn {α : Type} {τ : T} {Q : α → T → Prop} {E : Str → T → Prop} : ((no : M α) τ).wp Q E ↔ False := wp_no
theorem wp_li {α : Type} {o : Option α} {τ : T} {Q : α → T → Prop} {E : Str → T → Prop} (h : (li o τ).wp Q E) : ∃ a, o = some a ∧ Q a τ := by
  cases o with
  | none => exact (wp_no.mp h).elim
  | some a => exact ⟨a, rfl, wp_ok.mp h⟩
theorem Rs.wp_mono {α : Type} {r : Rs α} {Q Q' : α → T → Prop} {E E' : Str → T → Prop} (h : r.wp Q E) (hq : ∀ a τ, Q a τ → Q' a τ) (he : ∀ e τ, E e τ → E' e τ) : r.wp Q' E' := by
  cases r with
  | ok a τ => exact wp_ok.mpr (hq a τ (wp_ok.mp h))
  | er e τ => exact wp_er.mpr (he e τ (wp_er.mp h))
  | no => exact (wp_no.mp h).elim
theorem wp_bd {α β : Type} {m : M α} {k : α → M β} {τ : T} {Q : β → T → Prop} {E : Str → T → Prop} : (bd m k τ).wp Q E ↔ (m τ).wp (fun a τ' => (k a τ').wp Q E) E := by
  unfold bd
  cases m τ with
  | ok a τ' => exact (wp_ok (Q := fun a τ' => (k a τ').wp Q E)).symm
  | er e τ' => exact wp_er.trans wp_er.symm
  | no => exact wp_no.trans wp_no.symm
theorem wp_of {α β : Type} {m : M α} {k : α → M β} {τ : T} {Q : β → T → Prop} {E : Str → T → Prop} (h : (bd m k τ).wp Q E) {Q' : α → T → Prop} {E' : Str → T → Prop} (hq : ∀ a τ', (k a τ').wp Q E → Q' a τ') (he : ∀ e τ', E e τ' → E' e τ') : (m τ).wp Q' E' :=
  Rs.wp_mono (wp_bd.mp h) hq he
/-! data without lists and dicts -/
mutual
def noL : D → Bool
  | .none | .bool _ | .int _ | .str _ => true
  | .list _ => false
  | .tuple xs => noLs xs
  | .dict _ => false
def noLs : List D → Bool
  | [] => true
  | x :: xs => noL x && noLs xs
end
/-- what a list by reference may hold: the script, or data without lists -/
def okT : D → Bool
  | .dict [(.none, .list _)] => true
  | d => noL d
/-- the law's script, as data -/
abbrev scr (ns : List Int) : D := .dict [(.none, .list (ns.map .int))]

/-! ### what stands for data -/
/-- a list, a tuple of the module's own -/
def KL (K : PySem.W.Frag) (a : Addr) (xs : List V) : Prop := SqL K (fun _ => none) a xs
def KT (K : PySem.W.Frag) (a : Addr) (xs : List V) : Prop := SqT K (fun _ => none) a xs
theorem KL.sq {K : PySem.W.Frag} {a : Addr} {xs : List V} {H : Hp} (h : KL K a xs) : SqL K H a xs := by
  rcases h with (h | ⟨_, h⟩) | h
  · cases h
  · cases h
  · exact .inr h
theorem KT.sq {K : PySem.W.Frag} {a : Addr} {xs : List V} {H : Hp} (h : KT K a xs) : SqT K H a xs := by
  rcases h with (h | ⟨_, h⟩) | h
  · cases h
  · cases h
  · exact .inr h
/-- a key -/
def keyD : D → Key → Prop
  | .int i, k => k = .inl i
  | .str x, k => k = .inr x
  | _, _ => False
mutual
def Rep (K : PySem.W.Frag) (O : Addr → Prop) (H : Hp) : D → V → Prop
  | .none, v => v = .non
  | .bool b, v => v = .bl b
  | .int i, v => v = .int i
  | .str x, v => v = .str x
  | .list ds, v => ∃ a xs, v = .ref a ∧ H a = some (.lst xs) ∧ ¬ O a ∧ RepA K O H ds xs
  | .tuple ds, v => ∃ a xs, v = .ref a ∧ ((H a = some (.tup xs) ∧ ¬ O a) ∨ KT K a xs) ∧ RepA K O H ds xs
  | .dict kvs, v => (∃ a xs, v = .ref a ∧ H a = some (.dK xs) ∧ ¬ O a ∧ RepK K O H kvs xs) ∨
      (∃ (a : Addr) (ns : List Int), v = .ref a ∧ kvs = [(.none, .list (ns.map .int))] ∧ (((∃ o, H a = some (.frz o (.lst (ns.map V.int)))) ∧ ¬ O a) ∨ KL K a (ns.map V.int)))
def RepA (K : PySem.W.Frag) (O : Addr → Prop) (H : Hp) : List D → List V → Prop
  | [], xs => xs = []
  | d :: ds, xs => ∃ v r, xs = v :: r ∧ Rep K O H d v ∧ RepA K O H ds r
def RepK (K : PySem.W.Frag) (O : Addr → Prop) (H : Hp) : List (D × D) → List (Key × V) → Prop
  | [], xs => xs = []
  | (k, d) :: r, xs => ∃ kk v r', xs = (kk, v) :: r' ∧ keyD k kk ∧ Rep K O H d v ∧ RepK K O H r r'
end
/-- what is not open is kept, what is opened is new -/
structure Kp (O : Addr → Prop) (H : Hp) (O' : Addr → Prop) (H' : Hp) : Prop where
  kp : ∀ a o, H a = some o → ¬ O a → H' a = some o
  on : ∀ a, O' a → O a ∨ H a = none
  tk : ∀ a, H a ≠ none → H' a ≠ none
theorem Kp.refl {O : Addr → Prop} {H : Hp} : Kp O H O H := ⟨fun _ _ h _ => h, fun _ h => .inl h, fun _ h => h⟩
theorem Kp.trans {O O1 O2 : Addr → Prop} {H H1 H2 : Hp} (a : Kp O H O1 H1) (b : Kp O1 H1 O2 H2) : Kp O H O2 H2 := by
  refine ⟨fun x o h n => b.kp x o (a.kp x o h n) fun z => ?_, fun x h => ?_, fun x h => b.tk x (a.tk x h)⟩
  · rcases a.on x z with z | z
    · exact n z
    · rw [z] at h; cases h
  · rcases b.on x h with z | z
    · exact a.on x z
    · refine .inr ?_
      cases e : H x with
      | none => rfl
      | some o => exact absurd z (a.tk x (by rw [e]; simp))
/-- nothing that stood changes, nothing is opened -/
theorem Kp.same {O : Addr → Prop} {H H' : Hp} (s : Same H H') : Kp O H O H' := ⟨fun a o h _ => s a o h, fun _ h => .inl h, fun a h => by
  cases e : H a with
  | none => exact absurd e h
  | some o => rw [s a o e]; simp⟩
section
variable {K : PySem.W.Frag} {O O' : Addr → Prop} {H H' : Hp}
theorem Kp.nopen (k : Kp O H O' H') {a : Addr} {o : HO} (h : H a = some o) (n : ¬ O a) : ¬ O' a := fun z => by
  rcases k.on a z with z | z
  · exact n z
  · rw [z] at h; cases h
mutual
theorem Rep.kp (k : Kp O H O' H') : ∀ (d : D) (v : V), Rep K O H d v → Rep K O' H' d v
  | .none, _, h => h
  | .bool _, _, h => h
  | .int _, _, h => h
  | .str _, _, h => h
  | .list ds, _, ⟨a, xs, e, h1, h2, h3⟩ => ⟨a, xs, e, k.kp a _ h1 h2, k.nopen h1 h2, RepA.kp k ds xs h3⟩
  | .tuple ds, _, ⟨a, xs, e, h1, h3⟩ => ⟨a, xs, e, h1.elim (fun h => .inl ⟨k.kp a _ h.1 h.2, k.nopen h.1 h.2⟩) .inr, RepA.kp k ds xs h3⟩
  | .dict kvs, _, h => h.elim (fun ⟨a, xs, e, h1, h2, h3⟩ => .inl ⟨a, xs, e, k.kp a _ h1 h2, k.nopen h1 h2, RepK.kp k kvs xs h3⟩)
      (fun ⟨a, ns, e, h1, h2⟩ => .inr ⟨a, ns, e, h1, h2.elim (fun ⟨⟨o, h3⟩, h4⟩ => .inl ⟨⟨o, k.kp a _ h3 h4⟩, k.nopen h3 h4⟩) .inr⟩)
theorem RepA.kp (k : Kp O H O' H') : ∀ (ds : List D) (xs : List V), RepA K O H ds xs → RepA K O' H' ds xs
  | [], _, h => h
  | d :: ds, _, ⟨v, r, e, h1, h2⟩ => ⟨v, r, e, Rep.kp k d v h1, RepA.kp k ds r h2⟩
theorem RepK.kp (k : Kp O H O' H') : ∀ (kvs : List (D × D)) (xs : List (Key × V)), RepK K O H kvs xs → RepK K O' H' kvs xs
  | [], _, h => h
  | (_, d) :: r, _, ⟨kk, v, r', e, h0, h1, h2⟩ => ⟨kk, v, r', e, h0, Rep.kp k d v h1, RepK.kp k r r' h2⟩
end
/-- fewer are open -/
theorem Rep.less (s : ∀ a, O' a → O a) {d : D} {v : V} (h : Rep K O H d v) : Rep K O' H d v := Rep.kp ⟨fun _ _ h _ => h, fun a z => .inl (s a z), fun _ h => h⟩ d v h
theorem RepA.less (s : ∀ a, O' a → O a) {d : List D} {v : List V} (h : RepA K O H d v) : RepA K O' H d v := RepA.kp ⟨fun _ _ h _ => h, fun a z => .inl (s a z), fun _ h => h⟩ d v h
theorem RepA.length : ∀ {ds : List D} {xs : List V}, RepA K O H ds xs → xs.length = ds.length
  | [], _, h => by
    have e : _ = _ := h
    subst e; rfl
  | d :: ds, _, ⟨v, r, e, h1, h2⟩ => by
    subst e
    rw [List.length_cons, List.length_cons, RepA.length h2]
theorem RepA.get : ∀ {ds : List D} {xs : List V} {i : Nat} {d : D}, RepA K O H ds xs → ds[i]? = some d → ∃ v, xs[i]? = some v ∧ Rep K O H d v
  | [], _, _, _, _, e => by simp at e
  | d :: ds, _, 0, _, ⟨v, r, e, h1, h2⟩, q => by
    subst e
    simp at q
    subst q
    exact ⟨v, by simp, h1⟩
  | d :: ds, _, i + 1, _, ⟨v, r, e, h1, h2⟩, q => by
    subst e
    obtain ⟨w, z1, z2⟩ := RepA.get (i := i) h2 (by simpa using q)
    exact ⟨w, by simpa using z1, z2⟩
theorem RepA.append : ∀ {ds es : List D} {xs ys : List V}, RepA K O H ds xs → RepA K O H es ys → RepA K O H (ds ++ es) (xs ++ ys)
  | [], _, _, _, h, h' => by
    have e : _ = _ := h
    subst e
    exact h'
  | d :: ds, _, _, _, ⟨v, r, e, h1, h2⟩, h' => by
    subst e
    exact ⟨v, _, rfl, h1, RepA.append h2 h'⟩
theorem RepA.one {d : D} {v : V} (h : Rep K O H d v) : RepA K O H [d] [v] := ⟨v, [], rfl, h, rfl⟩
theorem RepA.set : ∀ {ds : List D} {xs : List V} {i : Nat} {d : D} {v : V}, RepA K O H ds xs → Rep K O H d v → RepA K O H (ds.set i d) (xs.set i v)
  | [], _, _, _, _, h, _ => by
    have e : _ = _ := h
    subst e
    exact rfl
  | d :: ds, _, 0, _, _, ⟨v, r, e, h1, h2⟩, h' => by
    subst e
    exact ⟨_, r, rfl, h', h2⟩
  | d :: ds, _, i + 1, _, _, ⟨v, r, e, h1, h2⟩, h' => by
    subst e
    exact ⟨v, _, rfl, h1, RepA.set h2 h'⟩
theorem RepA.take : ∀ {ds : List D} {xs : List V} (n : Nat), RepA K O H ds xs → RepA K O H (ds.take n) (xs.take n)
  | _, _, 0, _ => rfl
  | [], _, n + 1, h => by
    have e : _ = _ := h
    subst e
    exact rfl
  | d :: ds, _, n + 1, ⟨v, r, e, h1, h2⟩ => by
    subst e
    exact ⟨v, _, rfl, h1, RepA.take n h2⟩
theorem RepA.drop : ∀ {ds : List D} {xs : List V} (n : Nat), RepA K O H ds xs → RepA K O H (ds.drop n) (xs.drop n)
  | _, _, 0, h => h
  | [], _, n + 1, h => by
    have e : _ = _ := h
    subst e
    exact rfl
  | d :: ds, _, n + 1, ⟨v, r, e, h1, h2⟩ => by
    subst e
    exact RepA.drop n h2
theorem RepA.nil_iff {xs : List V} : RepA K O H [] xs ↔ xs = [] := Iff.rfl
theorem RepA.mem : ∀ {ds : List D} {xs : List V} {v : V}, RepA K O H ds xs → v ∈ xs → ∃ d ∈ ds, Rep K O H d v
  | [], _, _, h, m => by
    have e : _ = _ := h
    subst e
    simp at m
  | d :: ds, _, _, ⟨v, r, e, h1, h2⟩, m => by
    subst e
    rcases List.mem_cons.mp m with e | m
    · subst e
      exact ⟨d, List.mem_cons_self, h1⟩
    · obtain ⟨d', m', h'⟩ := RepA.mem h2 m
      exact ⟨d', List.mem_cons_of_mem _ m', h'⟩
theorem RepA.ints : ∀ {is : List Int} {xs : List V}, RepA K O H (is.map .int) xs → xs = is.map V.int
  | [], _, h => h
  | i :: is, _, ⟨v, r, e, h1, h2⟩ => by
    subst e
    have e1 : v = .int i := h1
    rw [e1, RepA.ints h2]
    rfl
theorem RepA.of_ints : ∀ (is : List Int), RepA K O H (is.map .int) (is.map V.int)
  | [] => rfl
  | i :: is => ⟨_, _, rfl, rfl, RepA.of_ints is⟩
theorem RepA.bools : ∀ {bs : List Bool} {xs : List V}, RepA K O H (bs.map .bool) xs → xs = bs.map V.bl
  | [], _, h => h
  | i :: is, _, ⟨v, r, e, h1, h2⟩ => by
    subst e
    have e1 : v = .bl i := h1
    rw [e1, RepA.bools h2]
    rfl
theorem RepA.strs : ∀ {bs : List Str} {xs : List V}, RepA K O H (bs.map .str) xs → xs = bs.map V.str
  | [], _, h => h
  | i :: is, _, ⟨v, r, e, h1, h2⟩ => by
    subst e
    have e1 : v = .str i := h1
    rw [e1, RepA.strs h2]
    rfl
theorem RepA.of_strs : ∀ (is : List Str), RepA K O H (is.map .str) (is.map V.str)
  | [] => rfl
  | i :: is => ⟨_, _, rfl, rfl, RepA.of_strs is⟩
end

/-! ### the state: slots, the lists by reference -/
inductive Slot where
  | emp
  | val (d : D)
  /-- a list of the def's own, held by this name alone -/
  | own (ds : List D)
  /-- a dict of the def's own, held by this name alone -/
  | ownd (kvs : List (D × D))
  /-- a list by reference -/
  | mu (n : Nat)
  /-- never -/
  | bad
/-- what is open, where the lists by reference stand, where the own ones -/
structure Gh where
  O : Addr → Prop
  al : List Addr
  ow : Nat → Addr
/-- a def's entry: the heap, what is open, the lists by reference -/
structure Fm where
  B : Hp
  O : Addr → Prop
  al : List Addr
def Slot.isOwn : Slot → Bool
  | .own _ => true
  | .ownd _ => true
  | _ => false
def Slot.at (K : PySem.W.Frag) (G : Gh) (H : Hp) (i : Nat) : Slot → Option V → Prop
  | .emp, _ => True
  | .val d, o => ∃ v, o = some v ∧ Rep K G.O H d v
  | .own ds, o => o = some (.ref (G.ow i)) ∧ ∃ xs, H (G.ow i) = some (.lst xs) ∧ RepA K G.O H ds xs
  | .ownd kvs, o => o = some (.ref (G.ow i)) ∧ ∃ xs, H (G.ow i) = some (.dK xs) ∧ RepK K G.O H kvs xs
  | .mu n, o => ∃ a, o = some (.ref a) ∧ G.al[n]? = some a
  | .bad, _ => False
/-- the ground: what is kept of the entry, the lists by reference -/
structure Gd (K : PySem.W.Frag) (F : Fm) (G : Gh) (τ : T) (H : Hp) : Prop where
  mu : ∀ (n : Nat) (ds : List D), τ[n]? = some ds → ∃ a xs, G.al[n]? = some a ∧ H a = some (.lst xs) ∧ RepA K G.O H ds xs
  plain : ∀ ds ∈ τ, ds.all okT = true
  mo : ∀ a ∈ G.al, G.O a
  mlen : G.al.length = τ.length
  mnd : G.al.Nodup
  trk : ∀ a, G.O a → ∃ o, H a = some o
  keep : ∀ a o, F.B a = some o → a ∉ F.al → H a = some o
  pre : ∃ s, G.al = F.al ++ s
  bnew : ∀ a ∈ G.al, a ∈ F.al ∨ F.B a = none
  base : ∀ a, F.O a → G.O a
  opn : ∀ a, G.O a → F.O a ∨ F.B a = none
  fo : ∀ a, F.O a → F.B a ≠ none
/-- the slots -/
structure Sl (K : PySem.W.Frag) (F : Fm) (G : Gh) (ρ : List Slot) (σ : L2.St) (H : Hp) : Prop where
  len : σ.length = ρ.length
  sl : ∀ (i : Nat) (s : Slot), ρ[i]? = some s → ∃ o, σ[i]? = some o ∧ s.at K G H i o
  inj : ∀ (i j : Nat) (s t : Slot), ρ[i]? = some s → ρ[j]? = some t → s.isOwn = true → t.isOwn = true → G.ow i = G.ow j → i = j
  ops : ∀ (i : Nat) (s : Slot), ρ[i]? = some s → s.isOwn = true → G.O (G.ow i) ∧ G.ow i ∉ G.al ∧ F.B (G.ow i) = none
/-- the whole -/
structure At (K : PySem.W.Frag) (F : Fm) (G : Gh) (ρ : List Slot) (τ : T) (σ : L2.St) (H : Hp) : Prop where
  gd : Gd K F G τ H
  sl : Sl K F G ρ σ H
section
variable {K : PySem.W.Frag} {F : Fm} {G : Gh} {ρ : List Slot} {τ : T} {σ : L2.St} {H H' : Hp}
theorem Gd.nopen (g : Gd K F G τ H) {p : Addr} (h : H p = none) : ¬ G.O p := fun z => by
  obtain ⟨o, e⟩ := g.trk p z
  rw [h] at e; cases e
theorem Gd.same (g : Gd K F G τ H) (s : Same H H') : Gd K F G τ H' where
  mu := fun n ds e => by
    obtain ⟨a, xs, h1, h2, h3⟩ := g.mu n ds e
    exact ⟨a, xs, h1, s a _ h2, RepA.kp (Kp.same s) _ _ h3⟩
  plain := g.plain
  mo := g.mo
  mlen := g.mlen
  mnd := g.mnd
  trk := fun a z => let ⟨o, e⟩ := g.trk a z; ⟨o, s a o e⟩
  keep := fun a o e n => s a o (g.keep a o e n)
  pre := g.pre
  bnew := g.bnew
  base := g.base
  opn := g.opn
  fo := g.fo
theorem Slot.at_same (s : Same H H') {i : Nat} {t : Slot} {o : Option V} (h : t.at K G H i o) : t.at K G H' i o := by
  cases t with
  | emp => exact h
  | val d => obtain ⟨v, e, r⟩ := h; exact ⟨v, e, Rep.kp (Kp.same s) _ _ r⟩
  | own ds => obtain ⟨e, xs, h1, h2⟩ := h; exact ⟨e, xs, s _ _ h1, RepA.kp (Kp.same s) _ _ h2⟩
  | ownd ds => obtain ⟨e, xs, h1, h2⟩ := h; exact ⟨e, xs, s _ _ h1, RepK.kp (Kp.same s) _ _ h2⟩
  | mu n => exact h
  | bad => exact h
theorem Sl.same (g : Sl K F G ρ σ H) (s : Same H H') : Sl K F G ρ σ H' :=
  ⟨g.len, fun i t e => let ⟨o, h1, h2⟩ := g.sl i t e; ⟨o, h1, Slot.at_same s h2⟩, g.inj, g.ops⟩
theorem At.same (g : At K F G ρ τ σ H) (s : Same H H') : At K F G ρ τ σ H' := ⟨g.gd.same s, g.sl.same s⟩
/-- what an expression keeps: all that stood but the lists by reference -/
structure Ke (G : Gh) (H : Hp) (G' : Gh) (H' : Hp) : Prop where
  p : Kp G.O H G'.O H'
  ks : ∀ a o, H a = some o → a ∉ G.al → H' a = some o
  oo : ∀ a, G.O a → G'.O a
  ow : G'.ow = G.ow
  al : ∃ s, G'.al = G.al ++ s
  an : ∀ a ∈ G'.al, a ∈ G.al ∨ H a = none
theorem Ke.refl : Ke G H G H := ⟨Kp.refl, fun _ _ h _ => h, fun _ h => h, rfl, ⟨[], by simp⟩, fun _ h => .inl h⟩
theorem Ke.same (s : Same H H') : Ke G H G H' := ⟨Kp.same s, fun a o h _ => s a o h, fun _ h => h, rfl, ⟨[], by simp⟩, fun _ h => .inl h⟩
theorem Ke.trans {G1 G2 : Gh} {H1 H2 : Hp} (a : Ke G H G1 H1) (b : Ke G1 H1 G2 H2) : Ke G H G2 H2 := by
  refine ⟨a.p.trans b.p, fun x o h n => b.ks x o (a.ks x o h n) fun m => ?_, fun x h => b.oo x (a.oo x h), b.ow.trans a.ow, ?_, fun x m => ?_⟩
  · rcases a.an x m with z | z
    · exact n z
    · rw [h] at z; cases z
  · obtain ⟨s, hs⟩ := a.al
    obtain ⟨t, ht⟩ := b.al
    exact ⟨s ++ t, by rw [ht, hs, List.append_assoc]⟩
  · rcases b.an x m with z | z
    · exact a.an x z
    · refine .inr ?_
      cases e : H x with
      | none => rfl
      | some o => exact absurd z (a.p.tk x (by rw [e]; simp))
/-- the slots behind an expression -/
theorem Sl.ke {G' : Gh} (l : Sl K F G ρ σ H) (g : Gd K F G τ H) (k : Ke G H G' H') : Sl K F G' ρ σ H' := by
  refine ⟨l.len, fun i s e => ?_, fun i j s t e e' h h' z => l.inj i j s t e e' h h' (by rw [k.ow] at z; exact z), fun i s e h => ?_⟩
  · obtain ⟨o, h1, h2⟩ := l.sl i s e
    refine ⟨o, h1, ?_⟩
    cases s with
    | emp => trivial
    | val d => obtain ⟨v, e, r⟩ := h2; exact ⟨v, e, Rep.kp k.p _ _ r⟩
    | own ds =>
      obtain ⟨e2, xs, q1, q2⟩ := h2
      obtain ⟨p1, p2, p3⟩ := l.ops i _ e rfl
      exact ⟨by rw [k.ow]; exact e2, xs, by rw [k.ow]; exact k.ks _ _ q1 p2, RepA.kp k.p _ _ q2⟩
    | ownd ds =>
      obtain ⟨e2, xs, q1, q2⟩ := h2
      obtain ⟨p1, p2, p3⟩ := l.ops i _ e rfl
      exact ⟨by rw [k.ow]; exact e2, xs, by rw [k.ow]; exact k.ks _ _ q1 p2, RepK.kp k.p _ _ q2⟩
    | mu n =>
      obtain ⟨a, e2, q⟩ := h2
      obtain ⟨s', hs'⟩ := k.al
      refine ⟨a, e2, ?_⟩
      show G'.al[n]? = some a
      rw [hs']
      exact List.getElem?_append_left (List.getElem?_eq_some_iff.mp q).1 ▸ q
    | bad => exact h2
  · obtain ⟨p1, p2, p3⟩ := l.ops i s e h
    rw [k.ow]
    refine ⟨k.oo _ p1, fun m => ?_, p3⟩
    rcases k.an _ m with z | z
    · exact p2 z
    · obtain ⟨o, q⟩ := g.trk _ p1
      rw [q] at z; cases z
theorem Same.new {p : Addr} {o : HO} (h : H p = none) : Same H (upd H p o) := fun a u e => by
  rw [upd_ne (ne_of_none e h)]; exact e
end
end DL


set_option maxRecDepth 100000
set_option maxHeartbeats 2000000
namespace DL
open PySem PySem.Spec PyProof.Rows L2

section
variable {K : PySem.W.Frag} {F : Fm} {G G' : Gh} {ρ : List Slot} {τ τ' : T} {σ : L2.St} {H H' : Hp}
/-- a new address was new at the entry -/
theorem Gd.bnone (g : Gd K F G τ H) {p : Addr} (h : H p = none) : F.B p = none := by
  cases e : F.B p with
  | none => rfl
  | some o =>
    by_cases m : p ∈ F.al
    · obtain ⟨s, hs⟩ := g.pre
      exact absurd (g.mo p (by rw [hs]; exact List.mem_append_left _ m)) (g.nopen h)
    · rw [g.keep p o e m] at h; cases h
/-- the entry of a callee's ground -/
theorem Gd.enter (g : Gd K F G τ H) : Gd K ⟨H, G.O, G.al⟩ ⟨G.O, G.al, fun _ => 0⟩ τ H where
  mu := g.mu
  plain := g.plain
  mo := g.mo
  mlen := g.mlen
  mnd := g.mnd
  trk := g.trk
  keep := fun _ _ e _ => e
  pre := ⟨[], by simp⟩
  bnew := fun _ h => .inl h
  base := fun _ h => h
  opn := fun _ h => .inl h
  fo := fun a h => by
    obtain ⟨o, e⟩ := g.trk a h
    show H a ≠ none
    rw [e]; simp
/-- behind a callee -/
theorem Gd.kpOf (g : Gd K F G τ H) (g' : Gd K ⟨H, G.O, G.al⟩ G' τ' H') : Kp G.O H G'.O H' := by
  refine ⟨fun a o e n => g'.keep a o e fun m => n (g.mo a m), fun a h => g'.opn a h, fun a h => ?_⟩
  cases e : H a with
  | none => exact absurd e h
  | some o =>
    by_cases m : a ∈ G.al
    · obtain ⟨s, hs⟩ := g'.pre
      obtain ⟨o', e'⟩ := g'.trk a (g'.mo a (by rw [hs]; exact List.mem_append_left _ m))
      rw [e']; simp
    · have q := g'.keep a o e m
      rw [q]; simp
theorem Gd.after (g : Gd K F G τ H) (g' : Gd K ⟨H, G.O, G.al⟩ G' τ' H') : Gd K F ⟨G'.O, G'.al, G.ow⟩ τ' H' where
  mu := g'.mu
  plain := g'.plain
  mo := g'.mo
  mlen := g'.mlen
  mnd := g'.mnd
  trk := g'.trk
  keep := fun a o e n => g'.keep a o (g.keep a o e n) fun m => by
    rcases g.bnew a m with z | z
    · exact n z
    · rw [z] at e; cases e
  pre := by
    obtain ⟨s, hs⟩ := g.pre
    obtain ⟨s', hs'⟩ := g'.pre
    exact ⟨s ++ s', by rw [hs']; show G.al ++ s' = _; rw [hs, List.append_assoc]⟩
  bnew := fun a m => by
    rcases g'.bnew a m with z | z
    · exact g.bnew a z
    · exact .inr (g.bnone z)
  base := fun a h => g'.base a (g.base a h)
  opn := fun a h => by
    rcases g'.opn a h with z | z
    · exact g.opn a z
    · exact .inr (g.bnone z)
  fo := g.fo
theorem Gd.keOf (g : Gd K F G τ H) (g' : Gd K ⟨H, G.O, G.al⟩ G' τ' H') : Ke G H ⟨G'.O, G'.al, G.ow⟩ H' :=
  ⟨(g.kpOf (G' := G') g' :), fun a o h n => g'.keep a o h n, g'.base, rfl, g'.pre, fun a m => g'.bnew a m⟩
theorem At.ke (a : At K F G ρ τ σ H) (g : Gd K F G' τ' H') (k : Ke G H G' H') : At K F G' ρ τ' σ H' := ⟨g, a.sl.ke a.gd k⟩
theorem At.after (a : At K F G ρ τ σ H) (g' : Gd K ⟨H, G.O, G.al⟩ G' τ' H') : At K F ⟨G'.O, G'.al, G.ow⟩ ρ τ' σ H' := a.ke (a.gd.after g') (a.gd.keOf g')
end

/-! ### readings -/
/-- an error leaves -/
def EX (K : PySem.W.Frag) (mg : Str → Option Value) (W : WX) (F : Fm) (ρ : List Slot) (σ : L2.St) (G : Gh) (H : Hp) : Str → T → Prop := fun e τ' =>
  ∃ C, mg e = some (.ref C) ∧ ∀ H' G', At K F G' ρ τ' σ H' → Ke G H G' H' → W (.ref C) none σ H'
theorem EX.kp {K : PySem.W.Frag} {mg : Str → Option Value} {W : WX} {F : Fm} {ρ : List Slot} {σ : L2.St} {G G' : Gh} {H H' : Hp} {e : Str} {τ : T} (h : EX K mg W F ρ σ G H e τ) (k : Ke G H G' H') : EX K mg W F ρ σ G' H' e τ :=
  let ⟨C, h1, h2⟩ := h; ⟨C, h1, fun H2 G2 a k2 => h2 H2 G2 a (k.trans k2)⟩
/-- e computes m -/
def tE (K : PySem.W.Frag) (mg : Str → Option Value) (W : WX) (ρ : List Slot) (m : M D) : TE := fun σ H Q => ∃ F G τ, At K F G ρ τ σ H ∧
  (m τ).wp (fun d τ' => ∀ v H' G', At K F G' ρ τ' σ H' → Ke G H G' H' → Rep K G'.O H' d v → Q v H') (EX K mg W F ρ σ G H)
def tT (K : PySem.W.Frag) (mg : Str → Option Value) (W : WX) (ρ : List Slot) (m : M Bool) : TT := fun σ H Q => ∃ F G τ, At K F G ρ τ σ H ∧
  (m τ).wp (fun b τ' => ∀ H' G', At K F G' ρ τ' σ H' → Ke G H G' H' → Q b H') (EX K mg W F ρ σ G H)
/-- a new list that nobody else holds -/
def tO (K : PySem.W.Frag) (mg : Str → Option Value) (W : WX) (ρ : List Slot) (m : M (List D)) : TE := fun σ H Q => ∃ F G τ, At K F G ρ τ σ H ∧
  (m τ).wp (fun ds τ' => ∀ p xs H' G', At K F G' ρ τ' σ H' → Ke G H G' H' → H' p = some (.lst xs) → RepA K G'.O H' ds xs → G'.O p → p ∉ G'.al → H p = none → Q (.ref p) H') (EX K mg W F ρ σ G H)
/-- a row of expressions, n of them; c hands what they compute on -/
abbrev CL (α : Type) := ∀ β : Type, (List α → M β) → M β
def tL (K : PySem.W.Frag) (mg : Str → Option Value) (W : WX) (ρ : List Slot) (n : Nat) (c : CL D) : TA := fun σ H Q => ∃ (F : Fm) (G : Gh) (τ : T) (β : Type) (k : List D → M β) (P : β → T → Prop) (E : Str → T → Prop), At K F G ρ τ σ H ∧
  (c β k τ).wp P E ∧ (∀ e τ', E e τ' → EX K mg W F ρ σ G H e τ') ∧
  ∀ vs H1 G1 τ1 ds, At K F G1 ρ τ1 σ H1 → Ke G H G1 H1 → RepA K G1.O H1 ds vs → ds.length = n → (k ds τ1).wp P E → Q vs H1
/-- an argument: data, or a list by reference -/
inductive Arg where
  | d (x : D)
  | mu (n : Nat)
def Arg.rep (K : PySem.W.Frag) (O : Addr → Prop) (al : List Addr) (H : Hp) : Arg → V → Prop
  | .d x, v => Rep K O H x v
  | .mu n, v => ∃ a, v = .ref a ∧ al[n]? = some a
def ArgsRep (K : PySem.W.Frag) (O : Addr → Prop) (al : List Addr) (H : Hp) : List Arg → List V → Prop
  | [], xs => xs = []
  | a :: as, xs => ∃ v r, xs = v :: r ∧ a.rep K O al H v ∧ ArgsRep K O al H as r
def tA (K : PySem.W.Frag) (mg : Str → Option Value) (W : WX) (ρ : List Slot) (n : Nat) (c : CL Arg) : TA := fun σ H Q => ∃ (F : Fm) (G : Gh) (τ : T) (β : Type) (k : List Arg → M β) (P : β → T → Prop) (E : Str → T → Prop), At K F G ρ τ σ H ∧
  (c β k τ).wp P E ∧ (∀ e τ', E e τ' → EX K mg W F ρ σ G H e τ') ∧
  ∀ vs H1 G1 τ1 as, At K F G1 ρ τ1 σ H1 → Ke G H G1 H1 → ArgsRep K G1.O G1.al H1 as vs → vs.length = n → (k as τ1).wp P E → Q vs H1

section
variable (X : Cx) (W : WX)
def EV (e : Expr) (ρ : List Slot) (m : M D) : Prop := PE X e (tE X.K X.mg W ρ m)
def ET (e : Expr) (ρ : List Slot) (m : M Bool) : Prop := PT X e (tT X.K X.mg W ρ m)
def EW (e : Expr) (ρ : List Slot) (m : M Bool) : Prop := PW X e (tT X.K X.mg W ρ m)
def EO (e : Expr) (ρ : List Slot) (m : M (List D)) : Prop := PE X e (tO X.K X.mg W ρ m)
def EL (es : List Expr) (ρ : List Slot) (c : CL D) : Prop := PA X es (tL X.K X.mg W ρ es.length c)
def EA (es : List Expr) (ρ : List Slot) (c : CL Arg) : Prop := PA X es (tA X.K X.mg W ρ es.length c)
end
/-- what the heap's sizes say -/
def Fits (H : Hp) : Prop := ∀ a, (∀ xs, H a = some (.lst xs) → xs.length ≤ sizeLine) ∧ (∀ xs, H a = some (.tup xs) → xs.length ≤ sizeLine) ∧ (∀ xs, H a = some (.dK xs) → xs.length ≤ sizeLine)
section
variable {X : Cx} {W : WX} {e a b : Expr} {es : List Expr} {ρ : List Slot} {pos : Pos}
theorem fits_of {pins : List (Addr × Obj)} {σ : L2.St} {H : Hp} {s : Shared} (I : Inv X pins σ H s) : Fits H := fun a => by
  refine ⟨fun xs h => ?_, fun xs h => ?_, fun xs h => ?_⟩
  · exact (show _ ∧ _ from I.hok a _ h).1
  · exact (show _ ∧ _ from I.hok a _ h).1
  · exact (show _ ∧ _ from I.hok a _ h).1
theorem pe_mono {t t' : TE} (h : PE X e t) (w : ∀ σ H Q, Fits H → t' σ H Q → t σ H Q) : PE X e t' := ⟨fun pins s σ H Q I q => h.run pins s σ H Q I (w σ H Q (fits_of I) q)⟩
theorem pt_mono {t t' : TT} (h : PT X e t) (w : ∀ σ H Q, Fits H → t' σ H Q → t σ H Q) : PT X e t' := ⟨fun pins s σ H Q I q => h.run pins s σ H Q I (w σ H Q (fits_of I) q)⟩
theorem pw_mono {t t' : TT} (h : PW X e t) (w : ∀ σ H Q, Fits H → t' σ H Q → t σ H Q) : PW X e t' := ⟨fun wh pins s σ H Q I q => h.run wh pins s σ H Q I (w σ H Q (fits_of I) q)⟩
theorem pa_mono {t t' : TA} (h : PA X es t) (w : ∀ σ H Q, Fits H → t' σ H Q → t σ H Q) : PA X es t' := ⟨fun pos pins s σ H Q I q => h.run pos pins s σ H Q I (w σ H Q (fits_of I) q)⟩
theorem ps_mono {st : Stmt} {t t' : TS} (h : PS X st t) (w : ∀ D σ H, Fits H → t' D σ H → t D σ H) : PS X st t' := ⟨fun pins s σ H D I q => h.run pins s σ H D I (w D σ H (fits_of I) q)⟩
theorem pss_mono {st : List Stmt} {t t' : TS} (h : PSs X st t) (w : ∀ D σ H, Fits H → t' D σ H → t D σ H) : PSs X st t' := ⟨fun pins s σ H D I q => h.run pins s σ H D I (w D σ H (fits_of I) q)⟩

/-! ### names and constants -/
theorem ev_var {i : Nat} {x : Str} {d : D} (hs : ρ[i]? = some (.val d)) (hN : X.N[i]? = some x := by rfl) (hv : Vis X.env.scope x := by first | exact Or.inl rfl | exact Or.inr (Or.inl rfl) | exact Or.inr (Or.inr rfl))
    (hd : (x == ("__debug__" : Str)) = false := by decide) (hcd : (x == ("__classdict__" : Str)) = false := by decide) : EV X W (.Name x pos) ρ (pu d) := by
  refine pe_mono (pe_var hN hv hd hcd) fun σ H Q _ h => ?_
  obtain ⟨F, G, τ, at_, q⟩ := h
  obtain ⟨o, e1, v, e2, r⟩ := at_.sl.sl i _ hs
  exact ⟨v, by rw [e1, e2], wp_pu.mp q v H G at_ Ke.refl r⟩
theorem ev_c {v : V} {d : D} (h : PE X e (tC v)) (r : ∀ O H, Rep X.K O H d v) : EV X W e ρ (pu d) := by
  refine pe_mono h fun σ H Q _ h => ?_
  obtain ⟨F, G, τ, at_, q⟩ := h
  exact wp_pu.mp q v H G at_ Ke.refl (r _ _)
theorem ev_int {i : Int} {j : Nat} : EV X W (.Constant (.int i) j pos) ρ (pu (.int i)) := ev_c pe_int fun _ _ => rfl
theorem ev_bl {i : Bool} {j : Nat} : EV X W (.Constant (.bool i) j pos) ρ (pu (.bool i)) := ev_c pe_bl fun _ _ => rfl
theorem ev_non {j : Nat} : EV X W (.Constant .none j pos) ρ (pu .none) := ev_c pe_non fun _ _ => rfl
theorem ev_str {x : Str} {j : Nat} : EV X W (.Constant (.str x) j pos) ρ (pu (.str x)) := ev_c pe_str fun _ _ => rfl

/-! ### two-place operations -/
def OpD (K : PySem.W.Frag) (r : R2) (g : D → D → Option D) : Prop := ∀ (O : Addr → Prop) (H : Hp) (x y d : D) (vx vy : V) (Q : VK), (∀ p, H p = none → ¬ O p) → Rep K O H x vx → Rep K O H y vy → g x y = some d →
  (∀ v H', Same H H' → Rep K O H' d v → Q v H') → r vx vy H Q
def CmpD (K : PySem.W.Frag) (r : R2) (g : D → D → Option Bool) : Prop := ∀ (O : Addr → Prop) (H : Hp) (x y : D) (b : Bool) (vx vy : V) (Q : VK), Rep K O H x vx → Rep K O H y vy → g x y = some b → Q (.bl b) H → r vx vy H Q
theorem CmpD.op {K : PySem.W.Frag} {r : R2} {g : D → D → Option Bool} (h : CmpD K r g) : OpD K r fun x y => (g x y).map .bool := fun O H x y d vx vy Q _ hx hy hg q => by
  cases e : g x y with
  | none => simp [e] at hg
  | some b =>
    simp [e] at hg
    subst hg
    exact h O H x y b vx vy Q hx hy e (q _ H (fun _ _ z => z) rfl)
section
variable {K : PySem.W.Frag} {mg : Str → Option Value} {r r' : R2} {ma mb mc : M D} {σ : L2.St} {H : Hp} {Q : VK}
theorem tE_bd {m : M D} {k : D → M D} (h : tE K mg W ρ (bd m k) σ H Q) : tE K mg W ρ m σ H fun v H1 => ∃ (F : Fm) (G : Gh) (τ : T) (d : D), At K F G ρ τ σ H1 ∧ Rep K G.O H1 d v ∧
    (k d τ).wp (fun d τ' => ∀ v H' G', At K F G' ρ τ' σ H' → Ke G H1 G' H' → Rep K G'.O H' d v → Q v H') (EX K mg W F ρ σ G H1) := by
  obtain ⟨F, G, τ, at_, q⟩ := h
  refine ⟨F, G, τ, at_, wp_of q (fun d τ1 z v H1 G1 a1 k1 r1 => ?_) fun e τ1 z => z⟩
  exact ⟨F, G1, τ1, d, a1, r1, Rs.wp_mono z (fun d2 τ2 z2 v2 H2 G2 a2 k2 r2 => z2 v2 H2 G2 a2 (k1.trans k2) r2) fun e τ2 z2 => z2.kp k1⟩
theorem tT_bd {m : M D} {k : D → M Bool} {Q : Bool → Hp → Prop} (h : tT K mg W ρ (bd m k) σ H Q) : tE K mg W ρ m σ H fun v H1 => ∃ (F : Fm) (G : Gh) (τ : T) (d : D), At K F G ρ τ σ H1 ∧ Rep K G.O H1 d v ∧
    (k d τ).wp (fun b τ' => ∀ H' G', At K F G' ρ τ' σ H' → Ke G H1 G' H' → Q b H') (EX K mg W F ρ σ G H1) := by
  obtain ⟨F, G, τ, at_, q⟩ := h
  refine ⟨F, G, τ, at_, wp_of q (fun d τ1 z v H1 G1 a1 k1 r1 => ?_) fun e τ1 z => z⟩
  exact ⟨F, G1, τ1, d, a1, r1, Rs.wp_mono z (fun d2 τ2 z2 H2 G2 a2 k2 => z2 H2 G2 a2 (k1.trans k2)) fun e τ2 z2 => z2.kp k1⟩
theorem bin_ev {g : D → D → Option D} (hd : OpD K r g) (h : tE K mg W ρ (bd ma fun x => bd mb fun y => li (g x y)) σ H Q) : tOp r (tE K mg W ρ ma) (tE K mg W ρ mb) σ H Q := by
  obtain ⟨F, G, τ, at_, q⟩ := h
  refine ⟨F, G, τ, at_, wp_of q (fun x τ1 z vx H1 G1 a1 k1 r1 => ?_) fun e τ1 z => z⟩
  refine ⟨F, G1, τ1, a1, wp_of z (fun y τ2 z2 vy H2 G2 a2 k2 r2 => ?_) fun e τ2 z2 => z2.kp k1⟩
  obtain ⟨d, e, z2⟩ := wp_li z2
  exact hd G2.O H2 x y d vx vy Q (fun p hp => a2.gd.nopen hp) (Rep.kp k2.p _ _ r1) r2 e fun v H3 s3 r3 => z2 v H3 G2 (a2.same s3) ((k1.trans k2).trans (Ke.same s3)) r3
theorem bin_et {g : D → D → Option Bool} {Q : Bool → Hp → Prop} (hd : CmpD K r g) (h : tT K mg W ρ (bd ma fun x => bd mb fun y => li (g x y)) σ H Q) :
    tTest (tOp r (tE K mg W ρ ma) (tE K mg W ρ mb)) σ H Q := by
  obtain ⟨F, G, τ, at_, q⟩ := h
  refine ⟨F, G, τ, at_, wp_of q (fun x τ1 z vx H1 G1 a1 k1 r1 => ?_) fun e τ1 z => z⟩
  refine ⟨F, G1, τ1, a1, wp_of z (fun y τ2 z2 vy H2 G2 a2 k2 r2 => ?_) fun e τ2 z2 => z2.kp k1⟩
  obtain ⟨d, e, z2⟩ := wp_li z2
  exact hd G2.O H2 x y d vx vy _ (Rep.kp k2.p _ _ r1) r2 e ⟨d, rfl, z2 H2 G2 a2 (k1.trans k2)⟩
end
theorem ev_op {op : Operator} {r : R2} {g : D → D → Option D} {ma mb : M D} (ho : OpR X (binaryOp op) r) (hd : OpD X.K r g) (ha : EV X W a ρ ma) (hb : EV X W b ρ mb) : EV X W (.BinOp a op b pos) ρ (bd ma fun x => bd mb fun y => li (g x y)) :=
  pe_mono (pe_op ho ha hb) fun _ _ _ _ h => bin_ev hd h
theorem ev_cmp {op : CmpOp} {r : R2} {g : D → D → Option Bool} {ma mb : M D} (ho : OpR X (compareOp op) r) (hd : CmpD X.K r g) (ha : EV X W a ρ ma) (hb : EV X W b ρ mb) (hm : behindInMarks op b = false) :
    EV X W (.Compare a [op] [b] pos) ρ (bd ma fun x => bd mb fun y => li ((g x y).map .bool)) := pe_mono (pe_cmpR ho ha hb hm) fun _ _ _ _ h => bin_ev hd.op h
theorem et_cmp {op : CmpOp} {r : R2} {g : D → D → Option Bool} {ma mb : M D} (ho : OpR X (compareOp op) r) (hd : CmpD X.K r g) (ha : EV X W a ρ ma) (hb : EV X W b ρ mb) (hm : behindInMarks op b = false) :
    ET X W (.Compare a [op] [b] pos) ρ (bd ma fun x => bd mb fun y => li (g x y)) := pt_mono (pt_cmpR ho ha hb hm) fun _ _ _ _ h => bin_et hd h
end
end DL


set_option maxRecDepth 100000
set_option maxHeartbeats 2000000
namespace DL
open PySem PySem.Spec PyProof.Rows L2

section
variable {X : Cx} {W : WX} {e a b c : Expr} {es rest : List Expr} {ρ : List Slot} {pos : Pos}

/-! ### truth, and, or, not, if -/
/-- a truth -/
def tb (d : D) : M Bool := match d with
  | .bool b => pu b
  | _ => no
@[simp] theorem tb_bool (b : Bool) : tb (.bool b) = pu b := rfl
/-- truth of data -/
def dTru : D → Option Bool
  | .none => some false
  | .bool b => some b
  | .int i => some (i != 0)
  | .str y => if y.length ≤ sizeLine then some ((y.length : Int) != 0) else none
  | .list ds => some (!ds.isEmpty)
  | .tuple ds => some (!ds.isEmpty)
  | .dict _ => none
theorem isEmpty_rep {K : PySem.W.Frag} {O : Addr → Prop} {H : Hp} {ds : List D} {xs : List V} (h : RepA K O H ds xs) : ds.isEmpty = xs.isEmpty := by
  have l := h.length
  cases ds <;> cases xs <;> first | rfl | (simp at l)
theorem tru_of {K : PySem.W.Frag} {O : Addr → Prop} {H : Hp} {d : D} {v : V} {k : Bool} (h : Rep K O H d v) (e : dTru d = some k) : TruV K v H k := by
  cases d with
  | none => cases h; exact (Option.some.inj e).symm
  | bool b => cases h; exact (Option.some.inj e).symm
  | int i => cases h; exact (Option.some.inj e).symm
  | str y =>
    cases h
    have e : (if y.length ≤ sizeLine then some ((y.length : Int) != 0) else none) = some k := e
    split at e
    · rename_i q; exact ⟨q, (Option.some.inj e).symm⟩
    · cases e
  | list ds =>
    obtain ⟨a, xs, rfl, h1, h2, h3⟩ := h
    exact .inl ⟨xs, SqL.of h1, by rw [← isEmpty_rep h3]; exact (Option.some.inj e).symm⟩
  | tuple ds =>
    obtain ⟨a, xs, rfl, h1, h3⟩ := h
    refine .inr (.inl ⟨xs, ?_, by rw [← isEmpty_rep h3]; exact (Option.some.inj e).symm⟩)
    rcases h1 with h1 | h1
    · exact SqT.of h1.1
    · exact h1.sq
  | dict _ => cases e
theorem et_truth {m : M D} (he : EV X W e ρ m) (hp : ∀ whole, isTrue e X.env whole = (do let v ← whole; standAt e.pos; holding [v] (truthy v)) := by intro _; rfl) : ET X W e ρ (bd m fun d => li (dTru d)) := by
  refine pt_mono (pt_truth he hp) fun σ H Q _ h => ?_
  obtain ⟨F, G, τ, at_, q⟩ := h
  refine ⟨F, G, τ, at_, wp_of q (fun d τ1 z v H1 G1 a1 k1 r1 => ?_) fun _ _ z => z⟩
  obtain ⟨k, e, z⟩ := wp_li z
  exact ⟨k, tru_of r1 e, z H1 G1 a1 k1⟩
theorem et_of_ew {m : M Bool} (h : EW X W e ρ m) : ET X W e ρ m := PW.pt h
theorem ew_and1 {m : M Bool} (ha : ET X W a ρ m) : EW X W (.BoolOp .And [a] pos) ρ m := pw_and1 ha
theorem ew_or1 {m : M Bool} (ha : ET X W a ρ m) : EW X W (.BoolOp .Or [a] pos) ρ m := pw_or1 ha
section
variable {K : PySem.W.Frag} {mg : Str → Option Value}
theorem tT_bind {m : M Bool} {k : Bool → M Bool} {σ : L2.St} {H : Hp} {Q : Bool → Hp → Prop} (h : tT K mg W ρ (bd m k) σ H Q) : tT K mg W ρ m σ H fun b H1 => tT K mg W ρ (k b) σ H1 Q := by
  obtain ⟨F, G, τ, at_, q⟩ := h
  refine ⟨F, G, τ, at_, wp_of q (fun d τ1 z H1 G1 a1 k1 => ?_) fun e τ1 z => z⟩
  exact ⟨F, G1, τ1, a1, Rs.wp_mono z (fun d2 τ2 z2 H2 G2 a2 k2 => z2 H2 G2 a2 (k1.trans k2)) fun e τ2 z2 => z2.kp k1⟩
theorem tT_bindE {m : M Bool} {k : Bool → M D} {σ : L2.St} {H : Hp} {Q : VK} (h : tE K mg W ρ (bd m k) σ H Q) : tT K mg W ρ m σ H fun b H1 => tE K mg W ρ (k b) σ H1 Q := by
  obtain ⟨F, G, τ, at_, q⟩ := h
  refine ⟨F, G, τ, at_, wp_of q (fun d τ1 z H1 G1 a1 k1 => ?_) fun e τ1 z => z⟩
  exact ⟨F, G1, τ1, a1, Rs.wp_mono z (fun d2 τ2 z2 v2 H2 G2 a2 k2 => z2 v2 H2 G2 a2 (k1.trans k2)) fun e τ2 z2 => z2.kp k1⟩
theorem tT_pu {b : Bool} {σ : L2.St} {H : Hp} {Q : Bool → Hp → Prop} (h : tT K mg W ρ (pu b) σ H Q) : Q b H := by
  obtain ⟨F, G, τ, at_, q⟩ := h
  exact wp_pu.mp q H G at_ Ke.refl
theorem tE_pu {b : Bool} {σ : L2.St} {H : Hp} {Q : VK} (h : tE K mg W ρ (pu (.bool b)) σ H Q) : Q (.bl b) H := by
  obtain ⟨F, G, τ, at_, q⟩ := h
  exact wp_pu.mp q _ H G at_ Ke.refl rfl
theorem tE_tb {m : M D} {k : Bool → M D} {σ : L2.St} {H : Hp} {Q : VK} (h : tE K mg W ρ (bd m fun d => bd (tb d) k) σ H Q) : tE K mg W ρ m σ H fun v H1 => ∃ b, v = .bl b ∧ tE K mg W ρ (k b) σ H1 Q := by
  obtain ⟨F, G, τ, at_, q⟩ := h
  refine ⟨F, G, τ, at_, wp_of q (fun d τ1 z v H1 G1 a1 k1 r1 => ?_) fun e τ1 z => z⟩
  cases d with
  | bool b =>
    rw [tb_bool, bd_pu] at z
    exact ⟨b, r1, F, G1, τ1, a1, Rs.wp_mono z (fun d2 τ2 z2 v2 H2 G2 a2 k2 => z2 v2 H2 G2 a2 (k1.trans k2)) fun e τ2 z2 => z2.kp k1⟩
  | _ => exact (wp_no.mp z).elim
end
theorem ew_and {m m' : M Bool} (ha : ET X W a ρ m) (hb : EW X W (.BoolOp .And (b :: rest) pos) ρ m') : EW X W (.BoolOp .And (a :: b :: rest) pos) ρ (bd m fun k => if k then m' else pu false) := by
  refine pw_mono (pw_and ha hb) fun σ H Q _ h => ?_
  refine (?_ : tT X.K X.mg W ρ m σ H _)
  have h' := tT_bind h
  obtain ⟨F, G, τ, at_, q⟩ := h'
  refine ⟨F, G, τ, at_, Rs.wp_mono q (fun k τ1 z H1 G1 a1 k1 => ?_) fun _ _ z => z⟩
  have z := z H1 G1 a1 k1
  cases k with
  | true => exact z
  | false => exact tT_pu z
theorem ew_or {m m' : M Bool} (ha : ET X W a ρ m) (hb : EW X W (.BoolOp .Or (b :: rest) pos) ρ m') : EW X W (.BoolOp .Or (a :: b :: rest) pos) ρ (bd m fun k => if k then pu true else m') := by
  refine pw_mono (pw_or ha hb) fun σ H Q _ h => ?_
  refine (?_ : tT X.K X.mg W ρ m σ H _)
  have h' := tT_bind h
  obtain ⟨F, G, τ, at_, q⟩ := h'
  refine ⟨F, G, τ, at_, Rs.wp_mono q (fun k τ1 z H1 G1 a1 k1 => ?_) fun _ _ z => z⟩
  have z := z H1 G1 a1 k1
  cases k with
  | true => exact tT_pu z
  | false => exact z
theorem et_not {m : M Bool} (ha : ET X W a ρ m) : ET X W (.UnaryOp .Not a pos) ρ (bd m fun k => pu (!k)) := by
  refine pt_mono (pt_not ha) fun σ H Q _ h => ?_
  obtain ⟨F, G, τ, at_, q⟩ := h
  exact ⟨F, G, τ, at_, wp_of q (fun k τ1 z H1 G1 a1 k1 => wp_pu.mp z H1 G1 a1 k1) fun _ _ z => z⟩
theorem ev_one {op} {m : M D} (ha : EV X W a ρ m) : EV X W (.BoolOp op [a] pos) ρ m := pe_one ha
theorem ev_and {m m' : M D} (ha : EV X W a ρ m) (hb : EV X W (.BoolOp .And (b :: rest) pos) ρ m') : EV X W (.BoolOp .And (a :: b :: rest) pos) ρ (bd m fun d => bd (tb d) fun k => if k then m' else pu (.bool false)) := by
  refine pe_mono (pe_and ha hb) fun σ H Q _ h => ?_
  refine (?_ : tE X.K X.mg W ρ m σ H _)
  obtain ⟨F, G, τ, at_, q⟩ := tE_tb h
  refine ⟨F, G, τ, at_, Rs.wp_mono q (fun d τ1 z v H1 G1 a1 k1 r1 => ?_) fun _ _ z => z⟩
  obtain ⟨k, e, z⟩ := z v H1 G1 a1 k1 r1
  refine ⟨k, e, ?_⟩
  cases k with
  | true => exact z
  | false => exact tE_pu z
theorem ev_or {m m' : M D} (ha : EV X W a ρ m) (hb : EV X W (.BoolOp .Or (b :: rest) pos) ρ m') : EV X W (.BoolOp .Or (a :: b :: rest) pos) ρ (bd m fun d => bd (tb d) fun k => if k then pu (.bool true) else m') := by
  refine pe_mono (pe_or ha hb) fun σ H Q _ h => ?_
  refine (?_ : tE X.K X.mg W ρ m σ H _)
  obtain ⟨F, G, τ, at_, q⟩ := tE_tb h
  refine ⟨F, G, τ, at_, Rs.wp_mono q (fun d τ1 z v H1 G1 a1 k1 r1 => ?_) fun _ _ z => z⟩
  obtain ⟨k, e, z⟩ := z v H1 G1 a1 k1 r1
  refine ⟨k, e, ?_⟩
  cases k with
  | true => exact tE_pu z
  | false => exact z
theorem ev_not {m : M D} (ha : EV X W a ρ m) : EV X W (.UnaryOp .Not a pos) ρ (bd m fun d => bd (tb d) fun k => pu (.bool (!k))) := by
  refine pe_mono (pe_not ha) fun σ H Q _ h => ?_
  refine (?_ : tE X.K X.mg W ρ m σ H _)
  obtain ⟨F, G, τ, at_, q⟩ := tE_tb h
  refine ⟨F, G, τ, at_, Rs.wp_mono q (fun d τ1 z v H1 G1 a1 k1 r1 => ?_) fun _ _ z => z⟩
  obtain ⟨k, e, z⟩ := z v H1 G1 a1 k1 r1
  exact ⟨k, e, tE_pu z⟩
theorem ev_if {m : M Bool} {ma mb : M D} (hc : ET X W c ρ m) (ha : EV X W a ρ ma) (hb : EV X W b ρ mb) : EV X W (.IfExp c a b pos) ρ (bd m fun k => if k then ma else mb) := by
  refine pe_mono (pe_ifExp hc ha hb) fun σ H Q _ h => ?_
  refine (?_ : tT X.K X.mg W ρ m σ H _)
  obtain ⟨F, G, τ, at_, q⟩ := tT_bindE h
  refine ⟨F, G, τ, at_, Rs.wp_mono q (fun k τ1 z H1 G1 a1 k1 => ?_) fun _ _ z => z⟩
  have z := z H1 G1 a1 k1
  cases k with
  | true => exact z
  | false => exact z
/-- a value that is a truth, as a test (kept plain: the value is a bool) -/
theorem et_val {m : M D} (he : EV X W e ρ m) (hp : ∀ whole, isTrue e X.env whole = (do let v ← whole; standAt e.pos; holding [v] (truthy v)) := by intro _; rfl) : ET X W e ρ (bd m tb) := by
  refine pt_mono (pt_val he hp) fun σ H Q _ h => ?_
  obtain ⟨F, G, τ, at_, q⟩ := h
  refine ⟨F, G, τ, at_, wp_of q (fun d τ1 z v H1 G1 a1 k1 r1 => ?_) fun _ _ z => z⟩
  cases d with
  | bool b => exact ⟨b, r1, wp_pu.mp z H1 G1 a1 k1⟩
  | _ => exact (wp_no.mp z).elim

/-! ### chains of two comparisons -/
theorem ev_chain {op op' : CmpOp} {r r' : R2} {g g' : D → D → Option Bool} {ma mb mc : M D} (ho : OpR X (compareOp op) r) (ho' : OpR X (compareOp op') r') (hd : CmpD X.K r g) (hd' : CmpD X.K r' g')
    (ha : EV X W a ρ ma) (hb : EV X W b ρ mb) (hc : EV X W c ρ mc) (hm : lastMarks [op, op'] [b, c] = false := by with_unfolding_all rfl) :
    EV X W (.Compare a [op, op'] [b, c] pos) ρ (bd ma fun x => bd mb fun y => bd (li (g x y)) fun k => if k then bd mc fun z => li ((g' y z).map .bool) else pu (.bool false)) := by
  refine pe_mono (pe_chain ho ho' ha hb hc hm) fun σ H Q _ h => ?_
  obtain ⟨F, G, τ, at_, q⟩ := h
  refine ⟨F, G, τ, at_, wp_of q (fun x τ1 z vx H1 G1 a1 k1 r1 => ?_) fun _ _ z => z⟩
  refine ⟨F, G1, τ1, a1, wp_of z (fun y τ2 z2 vy H2 G2 a2 k2 r2 => ?_) fun e τ2 z2 => z2.kp k1⟩
  obtain ⟨k, e, z3⟩ := wp_li (wp_bd.mp z2)
  refine hd G2.O H2 x y k vx vy _ (Rep.kp k2.p _ _ r1) r2 e ⟨k, rfl, ?_⟩
  cases k with
  | false => exact iteF (wp_pu.mp z3 _ H2 G2 a2 (k1.trans k2) rfl)
  | true =>
    refine iteT ⟨F, G2, τ2, a2, wp_of z3 (fun z τ3 z4 vz H3 G3 a3 k3 r3 => ?_) fun e τ3 z4 => z4.kp (k1.trans k2)⟩
    obtain ⟨d, e, z4⟩ := wp_li z4
    exact hd'.op G3.O H3 y z d vy vz Q (fun p hp => a3.gd.nopen hp) (Rep.kp k3.p _ _ r2) r3 e fun v H4 s4 r4 => z4 v H4 G3 (a3.same s4) (((k1.trans k2).trans k3).trans (Ke.same s4)) r4
theorem et_chain {op op' : CmpOp} {r r' : R2} {g g' : D → D → Option Bool} {ma mb mc : M D} (ho : OpR X (compareOp op) r) (ho' : OpR X (compareOp op') r') (hd : CmpD X.K r g) (hd' : CmpD X.K r' g')
    (ha : EV X W a ρ ma) (hb : EV X W b ρ mb) (hc : EV X W c ρ mc) (hm : lastMarks [op, op'] [b, c] = false := by with_unfolding_all rfl) :
    ET X W (.Compare a [op, op'] [b, c] pos) ρ (bd ma fun x => bd mb fun y => bd (li (g x y)) fun k => if k then bd mc fun z => li (g' y z) else pu false) := by
  refine pt_mono (pt_chain ho ho' ha hb hc hm) fun σ H Q _ h => ?_
  obtain ⟨F, G, τ, at_, q⟩ := h
  refine ⟨F, G, τ, at_, wp_of q (fun x τ1 z vx H1 G1 a1 k1 r1 => ?_) fun _ _ z => z⟩
  refine ⟨F, G1, τ1, a1, wp_of z (fun y τ2 z2 vy H2 G2 a2 k2 r2 => ?_) fun e τ2 z2 => z2.kp k1⟩
  obtain ⟨k, e, z3⟩ := wp_li (wp_bd.mp z2)
  refine hd G2.O H2 x y k vx vy _ (Rep.kp k2.p _ _ r1) r2 e ⟨k, rfl, ?_⟩
  cases k with
  | false => exact iteF ⟨false, rfl, wp_pu.mp z3 H2 G2 a2 (k1.trans k2)⟩
  | true =>
    refine iteT ⟨F, G2, τ2, a2, wp_of z3 (fun z τ3 z4 vz H3 G3 a3 k3 r3 => ?_) fun e τ3 z4 => z4.kp (k1.trans k2)⟩
    obtain ⟨d, e, z4⟩ := wp_li z4
    exact hd' G3.O H3 y z d vy vz _ (Rep.kp k3.p _ _ r2) r3 e ⟨d, rfl, z4 H3 G3 a3 ((k1.trans k2).trans k3)⟩

/-! ### rows of expressions, displays -/
theorem el_nil : EL X W [] ρ (fun β k => k []) := by
  refine pa_mono pa_nil fun σ H Q _ h => ?_
  obtain ⟨F, G, τ, β, k, P, E, at_, q, hE, hQ⟩ := h
  exact hQ [] H G τ [] at_ Ke.refl rfl rfl q
theorem el_cons {m : M D} {c : CL D} (ha : EV X W a ρ m) (hr : EL X W es ρ c) (hs : starEach (a :: es) X.env = (false, eval a X.env) :: starEach es X.env := by rfl) :
    EL X W (a :: es) ρ (fun β k => bd m fun d => c β fun ds => k (d :: ds)) := by
  refine pa_mono (pa_cons ha hr hs) fun σ H Q _ h => ?_
  obtain ⟨F, G, τ, β, k, P, E, at_, q, hE, hQ⟩ := h
  refine ⟨F, G, τ, at_, wp_of q (fun d τ1 z v H1 G1 a1 k1 r1 => ?_) hE⟩
  exact ⟨F, G1, τ1, β, fun ds => k (d :: ds), P, E, a1, z, fun e τ' q => (hE e τ' q).kp k1, fun vs H2 G2 τ2 ds a2 k2 r2 hl z2 => hQ (v :: vs) H2 G2 τ2 (d :: ds) a2 (k1.trans k2) ⟨v, vs, rfl, Rep.kp k2.p _ _ r1, r2⟩ (by rw [List.length_cons, hl, List.length_cons]) z2⟩
theorem ea_nil : EA X W [] ρ (fun β k => k []) := by
  refine pa_mono pa_nil fun σ H Q _ h => ?_
  obtain ⟨F, G, τ, β, k, P, E, at_, q, hE, hQ⟩ := h
  exact hQ [] H G τ [] at_ Ke.refl rfl rfl q
theorem ea_d {m : M D} {c : CL Arg} (ha : EV X W a ρ m) (hr : EA X W es ρ c) (hs : starEach (a :: es) X.env = (false, eval a X.env) :: starEach es X.env := by rfl) :
    EA X W (a :: es) ρ (fun β k => bd m fun d => c β fun as => k (.d d :: as)) := by
  refine pa_mono (pa_cons ha hr hs) fun σ H Q _ h => ?_
  obtain ⟨F, G, τ, β, k, P, E, at_, q, hE, hQ⟩ := h
  refine ⟨F, G, τ, at_, wp_of q (fun d τ1 z v H1 G1 a1 k1 r1 => ?_) hE⟩
  exact ⟨F, G1, τ1, β, fun as => k (.d d :: as), P, E, a1, z, fun e τ' q => (hE e τ' q).kp k1, fun vs H2 G2 τ2 as a2 k2 r2 hl z2 => hQ (v :: vs) H2 G2 τ2 (.d d :: as) a2 (k1.trans k2) ⟨v, vs, rfl, Rep.kp k2.p _ _ r1, r2⟩ (by rw [List.length_cons, hl, List.length_cons]) z2⟩
/-- a list by reference is handed on -/
theorem ea_mu {i n : Nat} {x : Str} {c : CL Arg} {p : Pos} (hsl : ρ[i]? = some (.mu n)) (hr : EA X W es ρ c) (hN : X.N[i]? = some x := by rfl) (hv : Vis X.env.scope x := by first | exact Or.inl rfl | exact Or.inr (Or.inl rfl) | exact Or.inr (Or.inr rfl))
    (hd : (x == ("__debug__" : Str)) = false := by decide) (hcd : (x == ("__classdict__" : Str)) = false := by decide) (hs : starEach (.Name x p :: es) X.env = (false, eval (.Name x p) X.env) :: starEach es X.env := by rfl) :
    EA X W (.Name x p :: es) ρ (fun β k => c β fun as => k (.mu n :: as)) := by
  refine pa_mono (pa_cons (pe_var hN hv hd hcd) hr hs) fun σ H Q _ h => ?_
  obtain ⟨F, G, τ, β, k, P, E, at_, q, hE, hQ⟩ := h
  obtain ⟨o, e1, a, e2, e3⟩ := at_.sl.sl i _ hsl
  refine ⟨.ref a, by rw [e1, e2], F, G, τ, β, _, P, E, at_, q, hE, fun vs H2 G2 τ2 as a2 k2 r2 hl z2 => ?_⟩
  obtain ⟨o', e1', a', e2', e3'⟩ := a2.sl.sl i _ hsl
  have ea : a' = a := by
    rw [e1] at e1'
    have z := Option.some.inj e1'
    rw [e2, e2'] at z
    exact (V.ref.inj (Option.some.inj z)).symm
  subst ea
  exact hQ _ H2 G2 τ2 (.mu n :: as) a2 k2 ⟨_, vs, rfl, ⟨_, rfl, e3'⟩, r2⟩ (by rw [List.length_cons, hl, List.length_cons]) z2
theorem line1000 : (1000 : Nat) ≤ sizeLine := by rw [sizeLine_eq]; decide
theorem ev_tup {c : CL D} {x1} (h : EL X W es ρ c) (hz : es.length ≤ 1000 := by decide) : EV X W (.Tuple es x1 pos) ρ (c D fun ds => pu (.tuple ds)) := by
  refine pe_mono (pe_tup h) fun σ H Q _ h => ?_
  obtain ⟨F, G, τ, at_, q⟩ := h
  refine ⟨F, G, τ, D, _, _, _, at_, q, fun e τ' z => z, fun vs H1 G1 τ1 ds a1 k1 r1 hl z => ?_⟩
  refine ⟨by rw [r1.length, hl]; exact Nat.le_trans hz line1000, fun p hp => ?_⟩
  have s : Same H1 (upd H1 p (.tup vs)) := Same.new hp
  exact wp_pu.mp z _ _ G1 (a1.same s) (k1.trans (Ke.same s)) ⟨p, vs, rfl, .inl ⟨upd_same, a1.gd.nopen hp⟩, RepA.kp (Kp.same s) _ _ r1⟩
/-- open a new list -/
theorem At.open {K : PySem.W.Frag} {F : Fm} {G : Gh} {τ : T} {σ : L2.St} {H : Hp} (a : At K F G ρ τ σ H) {p : Addr} (hp : H p = none) (o : HO) :
    At K F ⟨fun x => G.O x ∨ x = p, G.al, G.ow⟩ ρ τ σ (upd H p o) ∧ Ke G H ⟨fun x => G.O x ∨ x = p, G.al, G.ow⟩ (upd H p o) := by
  have s : Same H (upd H p o) := Same.new hp
  have k : Kp G.O H (fun x => G.O x ∨ x = p) (upd H p o) := ⟨fun x u h _ => s x u h, fun x h => h.elim .inl fun z => .inr (by rw [z]; exact hp), (Kp.same s (O := G.O)).tk⟩
  refine ⟨⟨?_, ?_⟩, ⟨k, fun a u h _ => s a u h, fun a h => .inl h, rfl, ⟨[], by simp⟩, fun a h => .inl h⟩⟩
  · exact { mu := fun n ds e => by
              obtain ⟨x, xs, h1, h2, h3⟩ := a.gd.mu n ds e
              exact ⟨x, xs, h1, s _ _ h2, RepA.kp k _ _ h3⟩
            plain := a.gd.plain
            mo := fun x h => .inl (a.gd.mo x h)
            mlen := a.gd.mlen
            mnd := a.gd.mnd
            trk := fun x h => h.elim (fun z => let ⟨u, e⟩ := a.gd.trk x z; ⟨u, s _ _ e⟩) fun z => ⟨o, by rw [z]; exact upd_same⟩
            keep := fun x u e n => s _ _ (a.gd.keep x u e n)
            pre := a.gd.pre
            bnew := a.gd.bnew
            base := fun x h => .inl (a.gd.base x h)
            opn := fun x h => h.elim (a.gd.opn x) fun z => .inr (by rw [z]; exact a.gd.bnone hp)
            fo := a.gd.fo }
  · refine ⟨a.sl.len, fun i t e => ?_, a.sl.inj, fun i t e h => ?_⟩
    · obtain ⟨u, h1, h2⟩ := a.sl.sl i t e
      refine ⟨u, h1, ?_⟩
      cases t with
      | emp => trivial
      | val d => obtain ⟨v, e, r⟩ := h2; exact ⟨v, e, Rep.kp k _ _ r⟩
      | own ds => obtain ⟨e, xs, h1, h2⟩ := h2; exact ⟨e, xs, s _ _ h1, RepA.kp k _ _ h2⟩
      | ownd ds => obtain ⟨e, xs, h1, h2⟩ := h2; exact ⟨e, xs, s _ _ h1, RepK.kp k _ _ h2⟩
      | mu n => exact h2
      | bad => exact h2
    · obtain ⟨h1, h2, h3⟩ := a.sl.ops i t e h
      exact ⟨.inl h1, h2, h3⟩
theorem At.ow_ne {K : PySem.W.Frag} {F : Fm} {G : Gh} {τ : T} {σ : L2.St} {H : Hp} (a : At K F G ρ τ σ H) {p : Addr} (hp : H p = none) {i : Nat} {s : Slot} (e : ρ[i]? = some s) (h : s.isOwn = true) : G.ow i ≠ p := fun z => by
  obtain ⟨u, hu⟩ := a.gd.trk _ (a.sl.ops i s e h).1
  rw [z, hp] at hu; cases hu
theorem At.al_ne {K : PySem.W.Frag} {F : Fm} {G : Gh} {τ : T} {σ : L2.St} {H : Hp} (a : At K F G ρ τ σ H) {p : Addr} (hp : H p = none) : p ∉ G.al := fun z => a.gd.nopen hp (a.gd.mo p z)
theorem none_back {G G' : Gh} {H H' : Hp} (k : Ke G H G' H') {p : Addr} (hp : H' p = none) : H p = none := by
  cases e : H p with
  | none => rfl
  | some o => exact absurd hp (k.p.tk p (by rw [e]; simp))
theorem eo_lst {c : CL D} (h : EL X W es ρ c) (hz : es.length ≤ 1000 := by decide) : EO X W (.List es pos) ρ (c _ fun ds => pu ds) := by
  refine pe_mono (pe_lst h) fun σ H Q _ h => ?_
  obtain ⟨F, G, τ, at_, q⟩ := h
  refine ⟨F, G, τ, _, _, _, _, at_, q, fun e τ' z => z, fun vs H1 G1 τ1 ds a1 k1 r1 hl z => ?_⟩
  refine ⟨by rw [r1.length, hl]; exact Nat.le_trans hz line1000, fun p hp => ?_⟩
  obtain ⟨a2, k2⟩ := a1.open hp (.lst vs)
  exact wp_pu.mp z p vs _ _ a2 (k1.trans k2) upd_same (RepA.kp k2.p _ _ r1) (.inr rfl) (a1.al_ne hp) (none_back k1 hp)
/-- close it again -/
theorem At.close {K : PySem.W.Frag} {F : Fm} {G : Gh} {τ : T} {σ : L2.St} {H : Hp} (a : At K F G ρ τ σ H) {p : Addr} (h1 : p ∉ G.al) (h2 : F.B p = none) (h3 : ∀ (i : Nat) (s : Slot), ρ[i]? = some s → s.isOwn = true → G.ow i ≠ p) :
    At K F ⟨fun x => G.O x ∧ x ≠ p, G.al, G.ow⟩ ρ τ σ H := by
  have l : ∀ x, (G.O x ∧ x ≠ p) → G.O x := fun x h => h.1
  have h4 : ¬ F.O p := fun z => a.gd.fo p z h2
  refine ⟨?_, ?_⟩
  · exact { mu := fun n ds e => by
              obtain ⟨x, xs, h1, h2, h3⟩ := a.gd.mu n ds e
              exact ⟨x, xs, h1, h2, RepA.less l h3⟩
            plain := a.gd.plain
            mo := fun x h => ⟨a.gd.mo x h, fun z => h1 (z ▸ h)⟩
            mlen := a.gd.mlen
            mnd := a.gd.mnd
            trk := fun x h => a.gd.trk x h.1
            keep := a.gd.keep
            pre := a.gd.pre
            bnew := a.gd.bnew
            base := fun x h => ⟨a.gd.base x h, fun z => h4 (z ▸ h)⟩
            opn := fun x h => a.gd.opn x h.1
            fo := a.gd.fo }
  · refine ⟨a.sl.len, fun i t e => ?_, a.sl.inj, fun i t e h => ?_⟩
    · obtain ⟨u, h1, h2⟩ := a.sl.sl i t e
      refine ⟨u, h1, ?_⟩
      cases t with
      | emp => trivial
      | val d => obtain ⟨v, e, r⟩ := h2; exact ⟨v, e, Rep.less l r⟩
      | own ds => obtain ⟨e, xs, h1, h2⟩ := h2; exact ⟨e, xs, h1, RepA.less l h2⟩
      | ownd ds => obtain ⟨e, xs, h1, h2⟩ := h2; exact ⟨e, xs, h1, RepK.kp ⟨fun _ _ h _ => h, fun a z => .inl (l a z), fun _ h => h⟩ _ _ h2⟩
      | mu n => exact h2
      | bad => exact h2
    · obtain ⟨q1, q2, q3⟩ := a.sl.ops i t e h
      exact ⟨⟨q1, h3 i t e h⟩, q2, q3⟩
end
end DL


set_option maxRecDepth 100000
set_option maxHeartbeats 2000000
namespace DL
open PySem PySem.Spec PyProof.Rows L2

/-! ### operations on data -/
def isF : D → Bool
  | .none | .bool _ | .int _ | .str _ => true
  | _ => false
def dAdd : D → D → Option D
  | .int i, .int j => some (.int (i + j))
  | .int i, .bool k => some (.int (i + b2i k))
  | .str a, .str b => if a.length + b.length ≤ 16777216 then some (.str (a ++ b)) else none
  | .tuple xs, .tuple ys => if xs.length + ys.length ≤ 16777216 then some (.tuple (xs ++ ys)) else none
  | .list xs, .list ys => if xs.length + ys.length ≤ 16777216 then some (.list (xs ++ ys)) else none
  | _, _ => none
def dSub : D → D → Option D
  | .int i, .int j => some (.int (i - j))
  | _, _ => none
def dMul : D → D → Option D
  | .int i, .int j => if i.natAbs.log2 + j.natAbs.log2 < 1000000 then some (.int (i * j)) else none
  | .tuple xs, .int k => if xs ≠ [] ∧ 2 ≤ k ∧ k ≤ 1000 ∧ xs.length ≤ 1000 then some (.tuple (List.replicate k.toNat xs).flatten) else none
  | .list xs, .int k => if -(2 ^ 63) ≤ k ∧ k < 2 ^ 63 ∧ xs.length * k.toNat ≤ 16777216 then some (.list (List.replicate k.toNat xs).flatten) else none
  | _, _ => none
def dMod : D → D → Option D
  | .int i, .int j => if 0 < j then some (.int (i % j)) else none
  | _, _ => none
def dDiv : D → D → Option D
  | .int i, .int j => if 0 < j ∧ j.natAbs.log2 < 9000 then some (.int (i / j)) else none
  | _, _ => none
def dPow : D → D → Option D
  | .int i, .int j => if 0 ≤ j ∧ j ≤ 1000000 ∧ i.natAbs < 2 ^ 64 then some (.int (i ^ j.toNat)) else none
  | _, _ => none
def dLt : D → D → Option Bool
  | .int i, .int j => some (decide (i < j))
  | _, _ => none
def dLe : D → D → Option Bool
  | .int i, .int j => some (decide (i ≤ j))
  | _, _ => none
def dGt : D → D → Option Bool
  | .int i, .int j => some (decide (j < i))
  | _, _ => none
def dGe : D → D → Option Bool
  | .int i, .int j => some (decide (j ≤ i))
  | _, _ => none
/-- a tuple of anything, and () -/
def emE : D → D → Option Bool
  | .tuple xs, .tuple [] => some xs.isEmpty
  | _, _ => none
def dEq : D → D → Option Bool
  | .str a, .str b => some (a == b)
  | .str _, .int _ => some false
  | .str _, .none => some false
  | .str _, .bool _ => some false
  | .int _, .str _ => some false
  | .none, .str _ => some false
  | .bool _, .str _ => some false
  | .dict [(.none, .list ds)], .list es => if SeqAt.shaped (.list ds) && SeqAt.shaped (.list es) then some (PyData.eqv (.list ds) (.list es)) else none
  | x, y => if SeqAt.shaped x && SeqAt.shaped y then some (PyData.eqv x y) else emE x y
def dNe (x y : D) : Option Bool := (dEq x y).map (!·)
/-- is, is not: of truths, of None -/
def dIs : D → D → Option Bool
  | .bool a, .bool b => some (decide (a = b))
  | .none, .none => some true
  | .int _, .none => some false
  | .bool _, .none => some false
  | .str _, .none => some false
  | .list _, .none => some false
  | .tuple _, .none => some false
  | .dict _, .none => some false
  | _, _ => none
def dNis (x y : D) : Option Bool := (dIs x y).map (!·)
def dIdx : D → D → Option D
  | .list ds, .int i => atI ds i
  | .tuple ds, .int i => atI ds i
  | .dict [(.none, .list ds)], .int i => atI ds i
  | .str z, .int i => if z.length ≤ 16777216 then (atI z.cps.toList i).map fun c => .str ⟨#[c]⟩ else none
  | _, _ => none
def dIn (d : D) : D → Option Bool
  | .list ds => if (isF d && ds.all isF) || (SeqAt.shaped d && SeqAt.shaped (.list ds)) then some (ds.any fun z => PyData.eqv z d) else none
  | .tuple ds => if isF d && ds.all isF then some (ds.any fun z => PyData.eqv z d) else none
  | .str z => match d with
    | .str y => if y.length = 1 then some (decide (y.cps.getD 0 0 ∈ z.cps.toList)) else none
    | _ => none
  | _ => none
def dNin (d e : D) : Option Bool := (dIn d e).map (!·)
def cutD (xs : List D) (lo hi : Option Int) : List D := (xs.drop (HT.sIx xs.length 0 lo)).take (HT.sIx xs.length xs.length hi - HT.sIx xs.length 0 lo)
def dLen : D → Option D
  | .list ds => some (.int ds.length)
  | .tuple ds => some (.int ds.length)
  | .dict [(.none, .list ds)] => some (.int ds.length)
  | .str z => if z.length ≤ 16777216 then some (.int z.length) else none
  | .dict kvs => some (.int kvs.length)
  | _ => none

section
variable {K : PySem.W.Frag}
theorem rep_int {O : Addr → Prop} {H : Hp} {i : Int} {v : V} (h : Rep K O H (.int i) v) : v = .int i := h
theorem rep_tup {O : Addr → Prop} {H : Hp} {ds : List D} {v : V} (h : Rep K O H (.tuple ds) v) : ∃ a xs, v = .ref a ∧ SqT K H a xs ∧ RepA K O H ds xs := by
  obtain ⟨a, xs, e, h1, h3⟩ := h
  exact ⟨a, xs, e, h1.elim (fun h => SqT.of h.1) KT.sq, h3⟩
theorem rep_lst {O : Addr → Prop} {H : Hp} {ds : List D} {v : V} (h : Rep K O H (.list ds) v) : ∃ a xs, v = .ref a ∧ SqL K H a xs ∧ RepA K O H ds xs := by
  obtain ⟨a, xs, e, h1, h2, h3⟩ := h
  exact ⟨a, xs, e, SqL.of h1, h3⟩
theorem not_keyD_none {kk : Key} : ¬ keyD .none kk := fun h => h
theorem rep_scr {O : Addr → Prop} {H : Hp} {ds : List D} {v : V} (h : Rep K O H (.dict [(.none, .list ds)]) v) : ∃ a xs, v = .ref a ∧ SqL K H a xs ∧ RepA K O H ds xs := by
  rcases h with ⟨a, xs, _, _, _, kk, v, r', _, h0, _⟩ | ⟨a, ns, e, h1, h2⟩
  · exact h0.elim
  · have q : ds = ns.map .int := by
      have z := (List.cons.inj h1).1
      exact PyData.list.inj (Prod.mk.inj z).2
    subst q
    refine ⟨a, ns.map V.int, e, ?_, RepA.of_ints ns⟩
    rcases h2 with ⟨⟨o, h2⟩, _⟩ | h2
    · exact .inl (.inr ⟨o, h2⟩)
    · exact h2.sq
theorem new_tup {O : Addr → Prop} {H : Hp} {p : Addr} {ds : List D} {xs : List V} (hO : ∀ p, H p = none → ¬ O p) (hp : H p = none) (h : RepA K O H ds xs) : Rep K O (upd H p (.tup xs)) (.tuple ds) (.ref p) :=
  ⟨p, xs, rfl, .inl ⟨upd_same, hO p hp⟩, RepA.kp (Kp.same (Same.new hp)) _ _ h⟩
theorem new_lst {O : Addr → Prop} {H : Hp} {p : Addr} {ds : List D} {xs : List V} (hO : ∀ p, H p = none → ¬ O p) (hp : H p = none) (h : RepA K O H ds xs) : Rep K O (upd H p (.lst xs)) (.list ds) (.ref p) :=
  ⟨p, xs, rfl, upd_same, hO p hp, RepA.kp (Kp.same (Same.new hp)) _ _ h⟩
theorem RepA.rep {O : Addr → Prop} {H : Hp} {ds : List D} {xs : List V} (h : RepA K O H ds xs) : ∀ n, RepA K O H (List.replicate n ds).flatten (List.replicate n xs).flatten
  | 0 => rfl
  | n + 1 => by
    rw [List.replicate_succ, List.replicate_succ, List.flatten_cons, List.flatten_cons]
    exact RepA.append h (RepA.rep h n)
theorem RepA.ne_nil {O : Addr → Prop} {H : Hp} {ds : List D} {xs : List V} (h : RepA K O H ds xs) (n : ds ≠ []) : xs ≠ [] := by
  have l := h.length
  intro e
  subst e
  cases ds with
  | nil => exact n rfl
  | cons => simp at l
theorem atI_rep {O : Addr → Prop} {H : Hp} {ds : List D} {xs : List V} {i : Int} {d : D} (h : RepA K O H ds xs) (e : atI ds i = some d) : ∃ v, atI xs i = some v ∧ Rep K O H d v := by
  unfold atI at e ⊢
  rw [h.length]
  cases q : ixN ds.length i with
  | none => rw [q] at e; cases e
  | some j =>
    rw [q] at e
    exact RepA.get h e
theorem RepA.flat {O : Addr → Prop} {H : Hp} : ∀ {ds : List D} {xs : List V}, RepA K O H ds xs → ds.all isF = true → xs.all flatV = true
  | [], _, h, _ => by
    have e : _ = _ := h
    subst e; rfl
  | d :: ds, _, ⟨v, r, e, h1, h2⟩, f => by
    subst e
    rw [List.all_cons, Bool.and_eq_true] at f
    rw [List.all_cons, Bool.and_eq_true]
    refine ⟨?_, RepA.flat h2 f.2⟩
    cases d with
    | none => cases h1; rfl
    | bool b => cases h1; rfl
    | int b => cases h1; rfl
    | str b => cases h1; rfl
    | list _ => exact absurd f.1 (by simp [isF])
    | tuple _ => exact absurd f.1 (by simp [isF])
    | dict _ => exact absurd f.1 (by simp [isF])
theorem flat_rep {O : Addr → Prop} {H : Hp} {d : D} {v : V} (h : Rep K O H d v) (f : isF d = true) : flatV v = true := by
  have := RepA.flat (RepA.one h) (by simp [f])
  simpa using this
theorem eqV_rep {O : Addr → Prop} {H : Hp} {d e : D} {v w : V} (h : Rep K O H d v) (h' : Rep K O H e w) (f : isF d = true) (f' : isF e = true) : eqV v w = PyData.eqv d e := by
  cases d <;> cases e <;> first
    | exact (Bool.false_ne_true f).elim
    | exact (Bool.false_ne_true f').elim
    | (cases h; cases h'; simp [eqV, PyData.eqv]; done)
theorem inV_rep {O : Addr → Prop} {H : Hp} {d : D} {v : V} (h : Rep K O H d v) (f : isF d = true) : ∀ {ds : List D} {xs : List V}, RepA K O H ds xs → ds.all isF = true → inV v xs = ds.any fun z => PyData.eqv z d
  | [], _, h, _ => by
    have e : _ = _ := h
    subst e; rfl
  | e :: ds, _, ⟨w, r, q, h1, h2⟩, f' => by
    subst q
    rw [List.all_cons, Bool.and_eq_true] at f'
    have ih := inV_rep h f h2 f'.2
    unfold inV at ih ⊢
    rw [List.any_cons, List.any_cons, ih, eqV_rep h1 h f'.1 f]
mutual
theorem Rep.dp {O : Addr → Prop} {H : Hp} : ∀ (d : D) (v : V), PyData.canLay0 d = true → Rep K O H d v → Dp K H v d
  | .none, _, _, h => by cases h; exact .non
  | .bool _, _, _, h => by cases h; exact .bl _
  | .int _, _, _, h => by cases h; exact .int _
  | .str _, _, _, h => by cases h; exact .str _
  | .list ds, _, c, h => by
    obtain ⟨a, xs, rfl, h1, h3⟩ := rep_lst h
    exact .lst h1 (RepA.dp ds xs (by simpa [PyData.canLay0] using c) h3)
  | .tuple ds, _, c, h => by
    obtain ⟨a, xs, rfl, h1, h3⟩ := rep_tup h
    exact .tup h1 (RepA.dp ds xs (by simpa [PyData.canLay0] using c) h3)
  | .dict _, _, c, _ => by simp [PyData.canLay0] at c
theorem RepA.dp {O : Addr → Prop} {H : Hp} : ∀ (ds : List D) (xs : List V), PyData.canLayAll0 ds = true → RepA K O H ds xs → DpAll K H xs ds
  | [], _, _, h => by
    have e : _ = _ := h
    subst e; exact .nil
  | d :: ds, _, c, ⟨v, r, e, h1, h2⟩ => by
    subst e
    rw [PyData.canLayAll0, Bool.and_eq_true] at c
    exact .cons (Rep.dp d v c.1 h1) (RepA.dp ds r c.2 h2)
end
theorem dp_of {O : Addr → Prop} {H : Hp} {d : D} {v : V} (s : SeqAt.shaped d = true) (h : Rep K O H d v) : Dp K H v d := Rep.dp d v (SeqAt.canLay_of_shaped s) h

/-! ### their rules -/
theorem same_refl (H : Hp) : Same H H := fun _ _ z => z
section
variable {X : Cx}
def rAddD (K : PySem.W.Frag) : R2 := fun x y H Q => (rI0 (fun i j => .int (i + j))) x y H Q ∨ ((∃ i k, x = .int i ∧ y = .bl k ∧ Q (.int (i + b2i k)) H) ∨ ((∃ i j, x = .str i ∧ y = .str j ∧ i.length + j.length ≤ sizeLine ∧ Q (.str (i ++ j)) H) ∨ (rCatA K x y H Q ∨ rCat x y H Q)))
theorem or_add : OpR X (binaryOp .Add) (rAddD X.K) := OpR.or op_add (OpR.or op_add_ib (OpR.or op_add_str (OpR.or op_catA op_cat)))
theorem od_add : OpD K (rAddD K) dAdd := by
  intro O H x y d vx vy Q hO hx hy hg q
  unfold dAdd at hg
  split at hg
  · cases hx; cases hy; cases hg
    exact .inl ⟨_, _, rfl, rfl, q _ H (same_refl H) rfl⟩
  · cases hx; cases hy; cases hg
    exact .inr (.inl ⟨_, _, rfl, rfl, q _ H (same_refl H) rfl⟩)
  · cases hx; cases hy
    split at hg
    · rename_i hz
      cases hg
      exact .inr (.inr (.inl ⟨_, _, rfl, rfl, by rw [sizeLine_eq]; exact hz, q _ H (same_refl H) rfl⟩))
    · cases hg
  · split at hg
    · rename_i xs ys hz
      cases hg
      obtain ⟨a, as, rfl, h1, h3⟩ := rep_tup hx
      obtain ⟨b, bs, rfl, g1, g3⟩ := rep_tup hy
      refine .inr (.inr (.inr (.inl ⟨a, b, as, bs, rfl, rfl, h1, g1, by rw [sizeLine_eq, h3.length, g3.length]; exact hz, fun e => ?_, fun _ e => ?_, fun _ _ p hp => q _ _ (Same.new hp) (new_tup hO hp (RepA.append h3 g3))⟩)))
      · have l := h3.length
        rw [e] at l
        have e2 : xs = [] := List.length_eq_zero_iff.mp l.symm
        subst e2
        exact q _ H (same_refl H) hy
      · have l := g3.length
        rw [e] at l
        have e2 : ys = [] := List.length_eq_zero_iff.mp l.symm
        subst e2
        exact q _ H (same_refl H) (by rw [List.append_nil]; exact hx)
    · cases hg
  · split at hg
    · rename_i xs ys hz
      cases hg
      obtain ⟨a, as, rfl, h1, h2, h3⟩ := hx
      obtain ⟨b, bs, rfl, g1, g2, g3⟩ := hy
      exact .inr (.inr (.inr (.inr ⟨a, b, as, bs, rfl, rfl, h1, g1, by rw [sizeLine_eq, h3.length, g3.length]; exact hz, fun p hp => q _ _ (Same.new hp) (new_lst hO hp (RepA.append h3 g3))⟩)))
    · cases hg
  · cases hg
theorem od_sub : OpD K (rI0 fun i j => .int (i - j)) dSub := by
  intro O H x y d vx vy Q hO hx hy hg q
  unfold dSub at hg
  split at hg
  · cases hx; cases hy; cases hg
    exact ⟨_, _, rfl, rfl, q _ H (same_refl H) rfl⟩
  · cases hg
def rMulD (K : PySem.W.Frag) : R2 := fun x y H Q => (rI CMulW (fun i j => .int (i * j))) x y H Q ∨ (rRepT K x y H Q ∨ rRep x y H Q)
theorem or_mul : OpR X (binaryOp .Mult) (rMulD X.K) := OpR.or op_mulW (OpR.or op_repT op_rep)
theorem od_mul : OpD K (rMulD K) dMul := by
  intro O H x y d vx vy Q hO hx hy hg q
  unfold dMul at hg
  split at hg
  · cases hx; cases hy
    split at hg
    · rename_i hz
      cases hg
      exact .inl ⟨_, _, rfl, rfl, hz, q _ H (same_refl H) rfl⟩
    · cases hg
  · split at hg
    · rename_i hz
      cases hg
      obtain ⟨a, as, rfl, h1, h3⟩ := rep_tup hx
      cases hy
      exact .inr (.inl ⟨a, _, as, rfl, rfl, h1, h3.ne_nil hz.1, hz.2.1, hz.2.2.1, by rw [h3.length]; exact hz.2.2.2, fun p hp => q _ _ (Same.new hp) (new_tup hO hp (h3.rep _))⟩)
    · cases hg
  · split at hg
    · rename_i hz
      cases hg
      obtain ⟨a, as, rfl, h1, h2, h3⟩ := hx
      cases hy
      exact .inr (.inr ⟨a, _, as, rfl, rfl, h1, hz.1, hz.2.1, by rw [sizeLine_eq, h3.length]; exact hz.2.2, fun p hp => q _ _ (Same.new hp) (new_lst hO hp (h3.rep _))⟩)
    · cases hg
  · cases hg
theorem od_mod : OpD K (rI (fun _ j => 0 < j) fun i j => .int (i % j)) dMod := by
  intro O H x y d vx vy Q hO hx hy hg q
  unfold dMod at hg
  split at hg
  · cases hx; cases hy
    split at hg
    · rename_i hz; cases hg
      exact ⟨_, _, rfl, rfl, hz, q _ H (same_refl H) rfl⟩
    · cases hg
  · cases hg
theorem od_div : OpD K (rI CDivW fun i j => .int (i / j)) dDiv := by
  intro O H x y d vx vy Q hO hx hy hg q
  unfold dDiv at hg
  split at hg
  · cases hx; cases hy
    split at hg
    · rename_i hz; cases hg
      exact ⟨_, _, rfl, rfl, hz, q _ H (same_refl H) rfl⟩
    · cases hg
  · cases hg
theorem od_pow : OpD K (rI CPow fun i j => .int (i ^ j.toNat)) dPow := by
  intro O H x y d vx vy Q hO hx hy hg q
  unfold dPow at hg
  split at hg
  · cases hx; cases hy
    split at hg
    · rename_i hz; cases hg
      exact ⟨_, _, rfl, rfl, hz, q _ H (same_refl H) rfl⟩
    · cases hg
  · cases hg
theorem cd_int {p : Int → Int → Bool} {g : D → D → Option Bool} (h : ∀ x y b, g x y = some b → ∃ i j, x = .int i ∧ y = .int j ∧ b = p i j) : CmpD K (rI0 fun i j => .bl (p i j)) g := by
  intro O H x y b vx vy Q hx hy hg q
  obtain ⟨i, j, rfl, rfl, rfl⟩ := h x y b hg
  cases hx; cases hy
  exact ⟨i, j, rfl, rfl, q⟩
theorem cd_lt : CmpD K (rI0 fun i j => .bl (decide (i < j))) dLt := cd_int fun x y b h => by
  unfold dLt at h; split at h <;> cases h; exact ⟨_, _, rfl, rfl, rfl⟩
theorem cd_le : CmpD K (rI0 fun i j => .bl (decide (i ≤ j))) dLe := cd_int fun x y b h => by
  unfold dLe at h; split at h <;> cases h; exact ⟨_, _, rfl, rfl, rfl⟩
theorem cd_gt : CmpD K (rI0 fun i j => .bl (decide (j < i))) dGt := cd_int fun x y b h => by
  unfold dGt at h; split at h <;> cases h; exact ⟨_, _, rfl, rfl, rfl⟩
theorem cd_ge : CmpD K (rI0 fun i j => .bl (decide (j ≤ i))) dGe := cd_int fun x y b h => by
  unfold dGe at h; split at h <;> cases h; exact ⟨_, _, rfl, rfl, rfl⟩
def rEqE (K : PySem.W.Frag) : R2 := fun x y H Q => ∃ a b xs, x = .ref a ∧ y = .ref b ∧ SqT K H a xs ∧ SqT K H b [] ∧ Q (.bl xs.isEmpty) H
def rNeE (K : PySem.W.Frag) : R2 := fun x y H Q => ∃ a b xs, x = .ref a ∧ y = .ref b ∧ SqT K H a xs ∧ SqT K H b [] ∧ Q (.bl (!xs.isEmpty)) H
theorem emp_of {xs : List V} {its its2 : List Value} (r : Vals xs its) (r2 : Vals [] its2) : its2 = [] ∧ ((List.range (min its.toArray.size its2.toArray.size)).all (fun _ => true) && its.toArray.size == its2.toArray.size) = xs.isEmpty := by
  cases r2
  refine ⟨rfl, ?_⟩
  cases r with
  | nil => rfl
  | cons _ _ => rfl
theorem op_eqE (hu : X.A.units + 64 < cLine) : OpR X (compareOp .Eq) (rEqE X.K) := by
  intro pins s σ H x y v u Q I rx ry h
  obtain ⟨a, b, xs, rfl, rfl, h1, h2, q⟩ := h
  cases rx
  cases ry
  obtain ⟨its, r, hl, _⟩ := I.tuple h1
  obtain ⟨its2, r2, hl2, _⟩ := I.tuple h2
  obtain ⟨e1, e2⟩ := emp_of r r2
  refine SeqAt.eq_tupleAt (e := fun _ => true) hl hl2 (by omega) (fun j h1 h2 => by
    subst e1
    exact absurd h2 (Nat.not_lt_zero j)) ?_
  rw [e2]
  exact ⟨.bl _, H, I, rfl, q⟩
theorem op_neE (hu : X.A.units + 64 < cLine) : OpR X (compareOp .NotEq) (rNeE X.K) := by
  intro pins s σ H x y v u Q I rx ry h
  obtain ⟨a, b, xs, rfl, rfl, h1, h2, q⟩ := h
  cases rx
  cases ry
  obtain ⟨its, r, hl, _⟩ := I.tuple h1
  obtain ⟨its2, r2, hl2, _⟩ := I.tuple h2
  obtain ⟨e1, e2⟩ := emp_of r r2
  refine SeqAt.RcNeAt.tuples (e := fun _ => true) hl hl2 (by omega) (fun j h1 h2 => by
    subst e1
    exact absurd h2 (Nat.not_lt_zero j)) X.prog X.w X.xe _ ?_
  rw [e2]
  exact ⟨.bl _, H, I, rfl, q⟩
def rEqA (K : PySem.W.Frag) : R2 := fun x y H Q => rEq x y H Q ∨ (rEqD K x y H Q ∨ rEqE K x y H Q)
def rNeA (K : PySem.W.Frag) : R2 := fun x y H Q => rNe x y H Q ∨ (rNeD K x y H Q ∨ rNeE K x y H Q)
theorem or_eq (hu : X.A.units + 64 < cLine) : OpR X (compareOp .Eq) (rEqA X.K) := OpR.or op_eq (OpR.or (op_eqD hu) (op_eqE hu))
theorem or_ne (hu : X.A.units + 64 < cLine) : OpR X (compareOp .NotEq) (rNeA X.K) := OpR.or op_ne (OpR.or (op_neD hu) (op_neE hu))
theorem eq_scal {x y : V} {b : Bool} (h : scal x y = true) (e : b = decide (x = y)) {H : Hp} {Q : VK} (q : Q (.bl b) H) : rEq x y H Q := ⟨h, by rw [← e]; exact q⟩
theorem dEq_cases {x y : D} {b : Bool} (h : dEq x y = some b) {O : Addr → Prop} {H : Hp} {vx vy : V} (hx : Rep K O H x vx) (hy : Rep K O H y vy) :
    (scal vx vy = true ∧ b = decide (vx = vy)) ∨ (∃ d e, Dp K H vx d ∧ Dp K H vy e ∧ SeqAt.shaped d = true ∧ SeqAt.shaped e = true ∧ b = PyData.eqv d e) ∨ ∃ a p xs, vx = .ref a ∧ vy = .ref p ∧ SqT K H a xs ∧ SqT K H p [] ∧ b = xs.isEmpty := by
  unfold dEq at h
  split at h
  · cases hx; cases hy; cases h; exact .inl ⟨rfl, by rw [dec_str]⟩
  · cases hx; cases hy; cases h; exact .inl ⟨rfl, by simp⟩
  · cases hx; cases hy; cases h; exact .inl ⟨rfl, by simp⟩
  · cases hx; cases hy; cases h; exact .inl ⟨rfl, by simp⟩
  · cases hx; cases hy; cases h; exact .inl ⟨rfl, by simp⟩
  · cases hx; cases hy; cases h; exact .inl ⟨rfl, by simp⟩
  · cases hx; cases hy; cases h; exact .inl ⟨rfl, by simp⟩
  · split at h
    · rename_i hz
      rw [Bool.and_eq_true] at hz
      cases h
      obtain ⟨a, xs, rfl, h1, h3⟩ := rep_scr hx
      exact .inr (.inl ⟨_, _, .lst h1 (RepA.dp _ _ (by simpa [PyData.canLay0] using SeqAt.canLay_of_shaped hz.1) h3), dp_of hz.2 hy, hz.1, hz.2, rfl⟩)
    · cases h
  · split at h
    · rename_i hz
      rw [Bool.and_eq_true] at hz
      cases h
      exact .inr (.inl ⟨_, _, dp_of hz.1 hx, dp_of hz.2 hy, hz.1, hz.2, rfl⟩)
    · unfold emE at h
      split at h
      · cases h
        obtain ⟨a, xs, rfl, h1, h3⟩ := rep_tup hx
        obtain ⟨p, ys, rfl, h2, h4⟩ := rep_tup hy
        have e : ys = [] := h4
        subst e
        exact .inr (.inr ⟨a, p, xs, rfl, rfl, h1, h2, isEmpty_rep h3⟩)
      · cases h
theorem cd_eq : CmpD K (rEqA K) dEq := by
  intro O H x y b vx vy Q hx hy hg q
  rcases dEq_cases hg hx hy with ⟨h, e⟩ | ⟨d, e, h1, h2, h3, h4, h5⟩ | ⟨a, p, xs, e1, e2, h1, h2, h5⟩
  · exact .inl ⟨h, by rw [← e]; exact q⟩
  · exact .inr (.inl ⟨d, e, h1, h2, h3, h4, by rw [← h5]; exact q⟩)
  · exact .inr (.inr ⟨a, p, xs, e1, e2, h1, h2, by rw [← h5]; exact q⟩)
theorem cd_ne : CmpD K (rNeA K) dNe := by
  intro O H x y b vx vy Q hx hy hg q
  obtain ⟨c, hc, hb⟩ := Option.map_eq_some_iff.mp hg
  subst hb
  rcases dEq_cases hc hx hy with ⟨h, e⟩ | ⟨d, e, h1, h2, h3, h4, h5⟩ | ⟨a, p, xs, e1, e2, h1, h2, h5⟩
  · exact .inl ⟨h, by rw [← e]; exact q⟩
  · exact .inr (.inl ⟨d, e, h1, h2, h3, h4, by rw [← h5]; exact q⟩)
  · exact .inr (.inr ⟨a, p, xs, e1, e2, h1, h2, by rw [← h5]; exact q⟩)
def rIsA : R2 := fun x y H Q => (∃ a b, x = .bl a ∧ y = .bl b ∧ Q (.bl (decide (a = b))) H) ∨ (y = .non ∧ Q (.bl (decide (x = .non))) H)
def rNisA : R2 := fun x y H Q => (∃ a b, x = .bl a ∧ y = .bl b ∧ Q (.bl (!decide (a = b))) H) ∨ (y = .non ∧ Q (.bl (!decide (x = .non))) H)
theorem or_is : OpR X (compareOp .Is) rIsA := OpR.or op_is_bl op_isN
theorem or_nis : OpR X (compareOp .IsNot) rNisA := OpR.or op_isnot_bl op_notN
theorem dIs_cases {x y : D} {b : Bool} (h : dIs x y = some b) {O : Addr → Prop} {H : Hp} {vx vy : V} (hx : Rep K O H x vx) (hy : Rep K O H y vy) :
    (∃ i j, vx = .bl i ∧ vy = .bl j ∧ b = decide (i = j)) ∨ (vy = .non ∧ b = decide (vx = .non)) := by
  unfold dIs at h
  split at h
  · cases hx; cases hy; cases h; exact .inl ⟨_, _, rfl, rfl, rfl⟩
  · cases hx; cases hy; cases h; exact .inr ⟨rfl, by simp⟩
  · cases hx; cases hy; cases h; exact .inr ⟨rfl, by simp⟩
  · cases hx; cases hy; cases h; exact .inr ⟨rfl, by simp⟩
  · cases hx; cases hy; cases h; exact .inr ⟨rfl, by simp⟩
  · obtain ⟨a, xs, rfl, _⟩ := hx; cases hy; cases h; exact .inr ⟨rfl, by simp⟩
  · obtain ⟨a, xs, rfl, _⟩ := hx; cases hy; cases h; exact .inr ⟨rfl, by simp⟩
  · cases hy; cases h
    rcases hx with ⟨a, xs, rfl, _⟩ | ⟨a, xs, rfl, _⟩ <;> exact .inr ⟨rfl, by simp⟩
  · cases h
theorem cd_is : CmpD K rIsA dIs := by
  intro O H x y b vx vy Q hx hy hg q
  rcases dIs_cases hg hx hy with ⟨i, j, h1, h2, e⟩ | ⟨h, e⟩
  · exact .inl ⟨i, j, h1, h2, by rw [← e]; exact q⟩
  · exact .inr ⟨h, by rw [← e]; exact q⟩
theorem cd_nis : CmpD K rNisA dNis := by
  intro O H x y b vx vy Q hx hy hg q
  obtain ⟨c, hc, hb⟩ := Option.map_eq_some_iff.mp hg
  subst hb
  rcases dIs_cases hc hx hy with ⟨i, j, h1, h2, e⟩ | ⟨h, e⟩
  · exact .inl ⟨i, j, h1, h2, by rw [← e]; exact q⟩
  · exact .inr ⟨h, by rw [← e]; exact q⟩
theorem od_idx : OpD K (rIx K) dIdx := by
  intro O H x y d vx vy Q hO hx hy hg q
  unfold dIdx at hg
  split at hg
  · obtain ⟨a, xs, rfl, h1, h3⟩ := rep_lst hx
    cases hy
    obtain ⟨v, e, r⟩ := atI_rep h3 hg
    exact .inl ⟨a, xs, _, v, rfl, rfl, h1, e, q v H (same_refl H) r⟩
  · obtain ⟨a, xs, rfl, h1, h3⟩ := rep_tup hx
    cases hy
    obtain ⟨v, e, r⟩ := atI_rep h3 hg
    exact .inr (.inl ⟨a, xs, _, v, rfl, rfl, h1, e, q v H (same_refl H) r⟩)
  · obtain ⟨a, xs, rfl, h1, h3⟩ := rep_scr hx
    cases hy
    obtain ⟨v, e, r⟩ := atI_rep h3 hg
    exact .inl ⟨a, xs, _, v, rfl, rfl, h1, e, q v H (same_refl H) r⟩
  · cases hx; cases hy
    split at hg
    · rename_i hz
      obtain ⟨c, e, rfl⟩ := Option.map_eq_some_iff.mp hg
      exact .inr (.inr ⟨_, _, c, rfl, rfl, by rw [sizeLine_eq]; exact hz, e, q _ H (same_refl H) rfl⟩)
    · cases hg
  · cases hg
end
end
section
variable {X : Cx} {W : WX} {e a b : Expr} {es : List Expr} {ρ : List Slot} {pos : Pos}
theorem ev_idx {ma mb : M D} (ha : EV X W a ρ ma) (hb : EV X W b ρ mb) (hs : PlainIx b := by intro _ _; rfl) : EV X W (.Subscript a b pos) ρ (bd ma fun x => bd mb fun y => li (dIdx x y)) :=
  pe_mono (pe_ix ix_seq ha hb hs) fun _ _ _ _ h => bin_ev od_idx h
theorem ev_add {ma mb : M D} (ha : EV X W a ρ ma) (hb : EV X W b ρ mb) : EV X W (.BinOp a .Add b pos) ρ (bd ma fun x => bd mb fun y => li (dAdd x y)) := ev_op or_add od_add ha hb
theorem ev_sub {ma mb : M D} (ha : EV X W a ρ ma) (hb : EV X W b ρ mb) : EV X W (.BinOp a .Sub b pos) ρ (bd ma fun x => bd mb fun y => li (dSub x y)) := ev_op op_sub od_sub ha hb
theorem ev_mul {ma mb : M D} (ha : EV X W a ρ ma) (hb : EV X W b ρ mb) : EV X W (.BinOp a .Mult b pos) ρ (bd ma fun x => bd mb fun y => li (dMul x y)) := ev_op or_mul od_mul ha hb
theorem ev_mod {ma mb : M D} (ha : EV X W a ρ ma) (hb : EV X W b ρ mb) : EV X W (.BinOp a .Mod b pos) ρ (bd ma fun x => bd mb fun y => li (dMod x y)) := ev_op op_mod od_mod ha hb
theorem ev_div {ma mb : M D} (ha : EV X W a ρ ma) (hb : EV X W b ρ mb) : EV X W (.BinOp a .FloorDiv b pos) ρ (bd ma fun x => bd mb fun y => li (dDiv x y)) := ev_op op_fdivW od_div ha hb
theorem ev_pow {ma mb : M D} (ha : EV X W a ρ ma) (hb : EV X W b ρ mb) : EV X W (.BinOp a .Pow b pos) ρ (bd ma fun x => bd mb fun y => li (dPow x y)) := ev_op op_pow od_pow ha hb
/-- -n -/
def dNeg : D → Option D
  | .int i => some (.int (-i))
  | _ => none
theorem ev_neg {m : M D} (ha : EV X W a ρ m) : EV X W (.UnaryOp .USub a pos) ρ (bd m fun x => li (dNeg x)) := by
  refine pe_mono (pe_un un_neg ha) fun σ H Q _ h => ?_
  obtain ⟨F, G, τ, at_, q⟩ := h
  refine ⟨F, G, τ, at_, wp_of q (fun d τ1 z v H1 G1 a1 k1 r1 => ?_) fun _ _ z => z⟩
  obtain ⟨x, e, z⟩ := wp_li z
  unfold dNeg at e
  split at e
  · cases e
    cases r1
    exact ⟨_, rfl, z _ H1 G1 a1 k1 rfl⟩
  · cases e
/-- a new list, held as data -/
theorem ev_frz {m : M (List D)} (he : EO X W e ρ m) : EV X W e ρ (bd m fun ds => pu (.list ds)) := by
  refine pe_mono he fun σ H Q _ h => ?_
  obtain ⟨F, G, τ, at_, q⟩ := h
  refine ⟨F, G, τ, at_, wp_of q (fun ds τ1 z p xs H1 G1 a1 k1 h1 r1 o1 n1 b1 => ?_) fun _ _ z => z⟩
  refine wp_pu.mp z _ H1 _ (a1.close n1 (at_.gd.bnone b1) fun i s e h => by rw [k1.ow]; exact at_.ow_ne b1 e h) ⟨⟨k1.p.kp, fun a h => k1.p.on a h.1, k1.p.tk⟩, k1.ks, fun a h => ⟨k1.oo a h, fun z => at_.gd.nopen b1 (z ▸ h)⟩, k1.ow, k1.al, k1.an⟩ ⟨p, xs, rfl, h1, fun z => z.2 rfl, RepA.less (fun x h => h.1) r1⟩
/-! ### built-in functions -/
def CallD (K : PySem.W.Frag) (r : List V → Hp → VK → Prop) (g : List D → Option D) : Prop := ∀ (O : Addr → Prop) (H : Hp) (ds : List D) (d : D) (vs : List V) (Q : VK), (∀ p, H p = none → ¬ O p) → Fits H → RepA K O H ds vs → g ds = some d →
  (∀ v H', Same H H' → Rep K O H' d v → Q v H') → r vs H Q
def CallO (K : PySem.W.Frag) (r : List V → Hp → VK → Prop) (g : List D → Option (List D)) : Prop := ∀ (O : Addr → Prop) (H : Hp) (ds es : List D) (vs : List V) (Q : VK), Fits H → RepA K O H ds vs → g ds = some es →
  (∀ l xs, H l = none → RepA K O H es xs → Q (.ref l) (upd H l (.lst xs))) → r vs H Q
@[reducible] def g1 {α : Type} (f : D → Option α) : List D → Option α
  | [d] => f d
  | _ => none
@[reducible] def g2 {α : Type} (f : D → D → Option α) : List D → Option α
  | [d, e] => f d e
  | _ => none
end
end DL


set_option maxRecDepth 100000
set_option maxHeartbeats 2000000
namespace DL
open PySem PySem.Spec PyProof.Rows L2

section
variable {X : Cx} {W : WX} {e a b : Expr} {es : List Expr} {ρ : List Slot} {pos p : Pos} {x : Str}
theorem el_call {r : List V → Hp → VK → Prop} {g : List D → Option D} {c : CL D} {t : TE} (hd : CallD X.K r g) (ht : ∀ σ H Q, (tL X.K X.mg W ρ (e :: es).length c σ H fun vs H1 => Fits H1 → r vs H1 Q) → t σ H Q)
    {σ : L2.St} {H : Hp} {Q : VK} (h : tE X.K X.mg W ρ (c D fun ds => li (g ds)) σ H Q) : t σ H Q := by
  obtain ⟨F, G, τ, at_, q⟩ := h
  refine ht σ H Q ⟨F, G, τ, D, _, _, _, at_, q, fun e τ' z => z, fun vs H1 G1 τ1 ds a1 k1 r1 hl z hf => ?_⟩
  obtain ⟨d, e, z⟩ := wp_li z
  exact hd G1.O H1 ds d vs Q (fun p hp => a1.gd.nopen hp) hf r1 e fun v H2 s2 r2 => z v H2 G1 (a1.same s2) (k1.trans (Ke.same s2)) r2
/-- the arguments' end knows the sizes -/
theorem pa_fits {t : TA} (h : PA X es t) : PA X es (fun σ H Q => t σ H fun vs H1 => Fits H1 → Q vs H1) := ⟨fun pos pins s σ H Q I q =>
  thn (h.run pos pins s σ H _ I q) fun us s' ⟨vs, H', I', r, z⟩ => ⟨vs, H', I', r, z (fits_of I')⟩⟩
theorem pe_fits {t : TE} (h : PE X e t) : PE X e (fun σ H Q => t σ H fun v H1 => Fits H1 → Q v H1) := ⟨fun pins s σ H Q I q =>
  thn (h.run pins s σ H _ I q) fun us s' ⟨vs, H', I', r, z⟩ => ⟨vs, H', I', r, z (fits_of I')⟩⟩
theorem ev_callB {id : String} {r : List V → Hp → VK → Prop} {g : List D → Option D} {c : CL D} (hc : CallR X (.builtin id) r) (hd : CallD X.K r g) (hg : Gl X x) (hm : X.mg x = none) (hv : bootBuiltins x = some (.builtin id)) (ha : EL X W (e :: es) ρ c) (hn : x ≠ "__name__" := by decide) (hdb : (x == ("__debug__" : Str)) = false := by decide)
    (he : starEach (e :: es) X.env = (false, eval e X.env) :: starEach es X.env := by rfl) (hpl : (backTo pos (starEach es X.env)).any (·.1) = false := by rfl) : EV X W (.Call (.Name x p) (e :: es) [] pos) ρ (c D fun ds => li (g ds)) :=
  pe_mono (pe_callB hc hg hm hv (pa_fits ha) hn hdb he hpl) fun σ H Q _ h => el_call (t := tCB r fun σ H Q => tL X.K X.mg W ρ (e :: es).length c σ H fun vs H1 => Fits H1 → Q vs H1) hd (fun _ _ _ z => z) h
theorem ev_callT {id : String} {r : List V → Hp → VK → Prop} {g : List D → Option D} {c : CL D} (hc : CallR X (.type id) r) (hd : CallD X.K r g) (hg : Gl X x) (hm : X.mg x = none) (hv : bootBuiltins x = some (.type id)) (ha : EL X W (e :: es) ρ c) (hn : x ≠ "__name__" := by decide) (hdb : (x == ("__debug__" : Str)) = false := by decide)
    (he : starEach (e :: es) X.env = (false, eval e X.env) :: starEach es X.env := by rfl) (hpl : (backTo pos (starEach es X.env)).any (·.1) = false := by rfl) : EV X W (.Call (.Name x p) (e :: es) [] pos) ρ (c D fun ds => li (g ds)) :=
  pe_mono (pe_callTy hc hg hm hv (pa_fits ha) hn hdb he hpl) fun σ H Q _ h => el_call (t := tCB r fun σ H Q => tL X.K X.mg W ρ (e :: es).length c σ H fun vs H1 => Fits H1 → Q vs H1) hd (fun _ _ _ z => z) h
theorem el_callO {r : List V → Hp → VK → Prop} {g : List D → Option (List D)} {c : CL D} {t : TE} (hd : CallO X.K r g) (ht : ∀ σ H Q, (tL X.K X.mg W ρ (e :: es).length c σ H fun vs H1 => Fits H1 → r vs H1 Q) → t σ H Q)
    {σ : L2.St} {H : Hp} {Q : VK} (h : tO X.K X.mg W ρ (c (List D) fun ds => li (g ds)) σ H Q) : t σ H Q := by
  obtain ⟨F, G, τ, at_, q⟩ := h
  refine ht σ H Q ⟨F, G, τ, _, _, _, _, at_, q, fun e τ' z => z, fun vs H1 G1 τ1 ds a1 k1 r1 hl z hf => ?_⟩
  obtain ⟨d, e, z⟩ := wp_li z
  refine hd G1.O H1 ds d vs Q hf r1 e fun l xs hl r2 => ?_
  obtain ⟨a2, k2⟩ := a1.open hl (.lst xs)
  exact z l xs _ _ a2 (k1.trans k2) upd_same (RepA.kp k2.p _ _ r2) (.inr rfl) (a1.al_ne hl) (none_back k1 hl)
theorem eo_callB {id : String} {r : List V → Hp → VK → Prop} {g : List D → Option (List D)} {c : CL D} (hc : CallR X (.builtin id) r) (hd : CallO X.K r g) (hg : Gl X x) (hm : X.mg x = none) (hv : bootBuiltins x = some (.builtin id)) (ha : EL X W (e :: es) ρ c) (hn : x ≠ "__name__" := by decide) (hdb : (x == ("__debug__" : Str)) = false := by decide)
    (he : starEach (e :: es) X.env = (false, eval e X.env) :: starEach es X.env := by rfl) (hpl : (backTo pos (starEach es X.env)).any (·.1) = false := by rfl) : EO X W (.Call (.Name x p) (e :: es) [] pos) ρ (c (List D) fun ds => li (g ds)) :=
  pe_mono (pe_callB hc hg hm hv (pa_fits ha) hn hdb he hpl) fun σ H Q _ h => el_callO (t := tCB r fun σ H Q => tL X.K X.mg W ρ (e :: es).length c σ H fun vs H1 => Fits H1 → Q vs H1) hd (fun _ _ _ z => z) h
theorem eo_callT {id : String} {r : List V → Hp → VK → Prop} {g : List D → Option (List D)} {c : CL D} (hc : CallR X (.type id) r) (hd : CallO X.K r g) (hg : Gl X x) (hm : X.mg x = none) (hv : bootBuiltins x = some (.type id)) (ha : EL X W (e :: es) ρ c) (hn : x ≠ "__name__" := by decide) (hdb : (x == ("__debug__" : Str)) = false := by decide)
    (he : starEach (e :: es) X.env = (false, eval e X.env) :: starEach es X.env := by rfl) (hpl : (backTo pos (starEach es X.env)).any (·.1) = false := by rfl) : EO X W (.Call (.Name x p) (e :: es) [] pos) ρ (c (List D) fun ds => li (g ds)) :=
  pe_mono (pe_callTy hc hg hm hv (pa_fits ha) hn hdb he hpl) fun σ H Q _ h => el_callO (t := tCB r fun σ H Q => tL X.K X.mg W ρ (e :: es).length c σ H fun vs H1 => Fits H1 → Q vs H1) hd (fun _ _ _ z => z) h
end

/-! ### the built-ins on data -/
def dAbs : D → Option D
  | .int i => some (.int (if i < 0 then -i else i))
  | _ => none
def dInt : D → Option D
  | .int i => some (.int i)
  | .bool k => some (.int (if k then 1 else 0))
  | .str a => if a.length ≤ 640 then (PySem.intText? a).map .int else none
  | _ => none
def dMax2 : D → D → Option D
  | .int i, .int j => some (.int (if j > i then j else i))
  | _, _ => none
def dMin2 : D → D → Option D
  | .int i, .int j => some (.int (if j < i then j else i))
  | _, _ => none
def asInts : List D → Option (List Int)
  | [] => some []
  | .int i :: r => (asInts r).map (i :: ·)
  | _ => none
def asBools : List D → Option (List Bool)
  | [] => some []
  | .bool i :: r => (asBools r).map (i :: ·)
  | _ => none
@[simp] theorem asInts_map : ∀ is : List Int, asInts (is.map .int) = some is
  | [] => rfl
  | i :: is => by simp [asInts, asInts_map is]
@[simp] theorem asBools_map : ∀ is : List Bool, asBools (is.map .bool) = some is
  | [] => rfl
  | i :: is => by simp [asBools, asBools_map is]
theorem asInts_eq : ∀ {ds : List D} {is : List Int}, asInts ds = some is → ds = is.map .int
  | [], is, h => by cases h; rfl
  | d :: ds, is, h => by
    cases d <;> first
      | (cases h; done)
      | (obtain ⟨r, h1, rfl⟩ := Option.map_eq_some_iff.mp h
         rw [asInts_eq h1]; rfl)
theorem asBools_eq : ∀ {ds : List D} {is : List Bool}, asBools ds = some is → ds = is.map .bool
  | [], is, h => by cases h; rfl
  | d :: ds, is, h => by
    cases d <;> first
      | (cases h; done)
      | (obtain ⟨r, h1, rfl⟩ := Option.map_eq_some_iff.mp h
         rw [asBools_eq h1]; rfl)
def dSum : D → Option D
  | .list ds => (asInts ds).map fun is => .int is.sum
  | .tuple ds => (asInts ds).map fun is => .int is.sum
  | _ => none
def dAll : D → Option D
  | .list ds => (asBools ds).map fun bs => .bool (bs.all id)
  | _ => none
def dAny : D → Option D
  | .list ds => (asBools ds).map fun bs => .bool (bs.any id)
  | _ => none
def dTup : D → Option D
  | .list ds => some (.tuple ds)
  | .tuple ds => some (.tuple ds)
  | _ => none
def dLst : D → Option (List D)
  | .list ds => some ds
  | .tuple ds => some ds
  | _ => none
section
variable {K : PySem.W.Frag}
theorem repA1 {O : Addr → Prop} {H : Hp} {ds : List D} {vs : List V} {α : Type} {f : D → Option α} {z : α} (h : RepA K O H ds vs) (e : g1 f ds = some z) : ∃ d v, ds = [d] ∧ vs = [v] ∧ Rep K O H d v ∧ f d = some z := by
  unfold g1 at e
  split at e
  · rename_i d
    obtain ⟨v, r, rfl, h1, h2⟩ := h
    have q : r = [] := h2
    subst q
    exact ⟨d, v, rfl, rfl, h1, e⟩
  · cases e
theorem repA2 {O : Addr → Prop} {H : Hp} {ds : List D} {vs : List V} {α : Type} {f : D → D → Option α} {z : α} (h : RepA K O H ds vs) (e : g2 f ds = some z) : ∃ d d' v v', ds = [d, d'] ∧ vs = [v, v'] ∧ Rep K O H d v ∧ Rep K O H d' v' ∧ f d d' = some z := by
  unfold g2 at e
  split at e
  · rename_i d d'
    obtain ⟨v, r, rfl, h1, v', r', rfl, h2, h3⟩ := h
    have q : r' = [] := h3
    subst q
    exact ⟨d, d', v, v', rfl, rfl, h1, h2, e⟩
  · cases e
theorem cl_abs : CallD K (fun xs H Q => ∃ i, xs = [.int i] ∧ Q (.int (if i < 0 then -i else i)) H) (g1 dAbs) := by
  intro O H ds d vs Q hO hf h e q
  obtain ⟨d1, v, rfl, rfl, r, e⟩ := repA1 h e
  unfold dAbs at e
  split at e
  · cases r; cases e
    exact ⟨_, rfl, q _ H (same_refl H) rfl⟩
  · cases e
def rIntA : List V → Hp → VK → Prop := fun xs H Q => ((∃ i, xs = [.int i] ∧ Q (.int i) H) ∨ ∃ k, xs = [.bl k] ∧ Q (.int (if k then 1 else 0)) H) ∨ ∃ a n, xs = [.str a] ∧ PySem.intText? a = some n ∧ a.length ≤ 640 ∧ Q (.int n) H
theorem cr_int {X : Cx} : CallR X (.type "int") rIntA := CallR.or call_int1 call_int_str
theorem cl_int : CallD K rIntA (g1 dInt) := by
  intro O H ds d vs Q hO hf h e q
  obtain ⟨d1, v, rfl, rfl, r, e⟩ := repA1 h e
  unfold dInt at e
  split at e
  · cases r; cases e
    exact .inl (.inl ⟨_, rfl, q _ H (same_refl H) rfl⟩)
  · cases r; cases e
    exact .inl (.inr ⟨_, rfl, q _ H (same_refl H) rfl⟩)
  · cases r
    split at e
    · rename_i hz
      obtain ⟨n, e1, rfl⟩ := Option.map_eq_some_iff.mp e
      exact .inr ⟨_, n, rfl, e1, hz, q _ H (same_refl H) rfl⟩
    · cases e
  · cases e
theorem cl_max2 : CallD K (fun xs H Q => ∃ i j, xs = [.int i, .int j] ∧ Q (.int (if j > i then j else i)) H) (g2 dMax2) := by
  intro O H ds d vs Q hO hf h e q
  obtain ⟨d1, d2, v, v', rfl, rfl, r, r', e⟩ := repA2 h e
  unfold dMax2 at e
  split at e
  · cases r; cases r'; cases e
    exact ⟨_, _, rfl, q _ H (same_refl H) rfl⟩
  · cases e
theorem cl_min2 : CallD K (fun xs H Q => ∃ i j, xs = [.int i, .int j] ∧ Q (.int (if j < i then j else i)) H) (g2 dMin2) := by
  intro O H ds d vs Q hO hf h e q
  obtain ⟨d1, d2, v, v', rfl, rfl, r, r', e⟩ := repA2 h e
  unfold dMin2 at e
  split at e
  · cases r; cases r'; cases e
    exact ⟨_, _, rfl, q _ H (same_refl H) rfl⟩
  · cases e
/-- of a list or a tuple of ints -/
def rSumT (K : PySem.W.Frag) : List V → Hp → VK → Prop := fun vs H Q => ∃ (a : Addr) (ns : List Int), vs = [V.ref a] ∧ SqT K H a (ns.map V.int) ∧ Q (.int ns.sum) H
theorem cr_sumT {X : Cx} (hc : X.calm = true) : CallR X (.builtin "sum") (rSumT X.K) := by
  intro pins s σ H vs us Q I r h
  obtain ⟨a, ns, rfl, hs, q⟩ := h
  obtain ⟨its, rv, hl, _⟩ := I.tuple hs
  rw [Vals.ref1 r]
  have hi : IntsAre its ns := Vals.ints rv
  obtain ⟨xs, e⟩ := hi.allInts.items
  have hn : numsOf (intItems xs).toList = ns := by rw [← e]; exact hi.numsOf
  rw [nums_intItems] at hn
  have hl' : s.heap.IsTuple a its.toArray := hl
  rw [e] at hl'
  refine PySem.W.ktm_sumG (I.ok.hd hc) hl' fun h' tk t' hk => ?_
  rw [preSum_eq, List.take_of_length_le (by simp), hn]
  exact ⟨.int _, H, I.kept hk, ⟨_, rfl⟩, q⟩
def rSumA (K : PySem.W.Frag) : List V → Hp → VK → Prop := fun vs H Q => rSum K vs H Q ∨ rSumT K vs H Q
theorem cr_sumA {X : Cx} (hc : X.calm = true) : CallR X (.builtin "sum") (rSumA X.K) := CallR.or (cr_sum hc) (cr_sumT hc)
theorem cl_sum : CallD K (rSumA K) (g1 dSum) := by
  intro O H ds d vs Q hO hf h e q
  obtain ⟨d1, v, rfl, rfl, r, e⟩ := repA1 h e
  unfold dSum at e
  split at e
  · obtain ⟨is, e1, rfl⟩ := Option.map_eq_some_iff.mp e
    have e2 := asInts_eq e1
    subst e2
    obtain ⟨a, xs, rfl, h1, h3⟩ := rep_lst r
    have e3 := RepA.ints h3
    subst e3
    exact .inl ⟨a, is, rfl, h1, q _ H (same_refl H) rfl⟩
  · obtain ⟨is, e1, rfl⟩ := Option.map_eq_some_iff.mp e
    have e2 := asInts_eq e1
    subst e2
    obtain ⟨a, xs, rfl, h1, h3⟩ := rep_tup r
    have e3 := RepA.ints h3
    subst e3
    exact .inr ⟨a, is, rfl, h1, q _ H (same_refl H) rfl⟩
  · cases e
theorem cl_all : CallD K (rAll K) (g1 dAll) := by
  intro O H ds d vs Q hO hf h e q
  obtain ⟨d1, v, rfl, rfl, r, e⟩ := repA1 h e
  unfold dAll at e
  split at e
  · obtain ⟨is, e1, rfl⟩ := Option.map_eq_some_iff.mp e
    have e2 := asBools_eq e1
    subst e2
    obtain ⟨a, xs, rfl, h1, h3⟩ := rep_lst r
    have e3 := RepA.bools h3
    subst e3
    exact ⟨a, is, rfl, h1, q _ H (same_refl H) rfl⟩
  · cases e
theorem cl_any : CallD K (rAny K) (g1 dAny) := by
  intro O H ds d vs Q hO hf h e q
  obtain ⟨d1, v, rfl, rfl, r, e⟩ := repA1 h e
  unfold dAny at e
  split at e
  · obtain ⟨is, e1, rfl⟩ := Option.map_eq_some_iff.mp e
    have e2 := asBools_eq e1
    subst e2
    obtain ⟨a, xs, rfl, h1, h3⟩ := rep_lst r
    have e3 := RepA.bools h3
    subst e3
    exact ⟨a, is, rfl, h1, q _ H (same_refl H) rfl⟩
  · cases e
def rLenA (K : PySem.W.Frag) : List V → Hp → VK → Prop := fun xs H Q => (∃ x n, xs = [x] ∧ LenV K x H n ∧ Q (.int n) H) ∨ ∃ a kvs, xs = [V.ref a] ∧ H a = some (.dK kvs) ∧ Q (.int kvs.length) H
theorem cr_len {X : Cx} : CallR X (.builtin "len") (rLenA X.K) := CallR.or call_len call_lenD
theorem repK_len {O : Addr → Prop} {H : Hp} : ∀ {kvs : List (D × D)} {xs : List (Key × V)}, RepK K O H kvs xs → xs.length = kvs.length
  | [], _, h => by
    have e : _ = _ := h
    subst e; rfl
  | (k, d) :: r, _, ⟨kk, v, r', e, _, _, h2⟩ => by
    subst e
    rw [List.length_cons, List.length_cons, repK_len h2]
theorem cl_len : CallD K (rLenA K) (g1 dLen) := by
  intro O H ds d vs Q hO hf h e q
  obtain ⟨d1, v, rfl, rfl, r, e'⟩ := repA1 h e
  clear e
  have e := e'
  clear e'
  unfold dLen at e
  split at e
  · cases e
    obtain ⟨a, xs, rfl, h1, h3⟩ := rep_lst r
    exact .inl ⟨_, xs.length, rfl, .inl ⟨xs, h1, rfl⟩, q _ H (same_refl H) (by rw [h3.length]; rfl)⟩
  · cases e
    obtain ⟨a, xs, rfl, h1, h3⟩ := rep_tup r
    exact .inl ⟨_, xs.length, rfl, .inr ⟨xs, h1, rfl⟩, q _ H (same_refl H) (by rw [h3.length]; rfl)⟩
  · cases e
    obtain ⟨a, xs, rfl, h1, h3⟩ := rep_scr r
    exact .inl ⟨_, xs.length, rfl, .inl ⟨xs, h1, rfl⟩, q _ H (same_refl H) (by rw [h3.length]; rfl)⟩
  · cases r
    split at e
    · rename_i hz
      cases e
      exact .inl ⟨_, _, rfl, ⟨by rw [sizeLine_eq]; exact hz, rfl⟩, q _ H (same_refl H) rfl⟩
    · cases e
  · rename_i kvs hn
    cases e
    rcases r with ⟨a, xs, rfl, h1, h2, h3⟩ | ⟨a, ns, rfl, e1, h2⟩
    · exact .inr ⟨a, xs, rfl, h1, q _ H (same_refl H) (by rw [repK_len h3]; rfl)⟩
    · exact (hn (ns.map .int) (by rw [e1])).elim
  · cases e
theorem cl_tup : CallD K (fun xs H Q => ∃ p ys, xs = [.ref p] ∧ ((SqL K H p ys ∧ ∀ l, H l = none → Q (.ref l) (upd H l (.tup ys))) ∨ (SqT K H p ys ∧ Q (.ref p) H))) (g1 dTup) := by
  intro O H ds d vs Q hO hf h e q
  obtain ⟨d1, v, rfl, rfl, r, e⟩ := repA1 h e
  unfold dTup at e
  split at e
  · cases e
    obtain ⟨a, xs, rfl, h1, h3⟩ := rep_lst r
    exact ⟨a, xs, rfl, .inl ⟨h1, fun l hl => q _ _ (Same.new hl) (new_tup hO hl h3)⟩⟩
  · cases e
    obtain ⟨a, xs, rfl, h1, h3⟩ := rep_tup r
    exact ⟨a, xs, rfl, .inr ⟨h1, q _ H (same_refl H) r⟩⟩
  · cases e
theorem cl_lst : CallO K (fun xs H Q => ∃ p ys, xs = [.ref p] ∧ (SqL K H p ys ∨ SqT K H p ys) ∧ ∀ l, H l = none → Q (.ref l) (upd H l (.lst ys))) (g1 dLst) := by
  intro O H ds d vs Q hf h e q
  obtain ⟨d1, v, rfl, rfl, r, e⟩ := repA1 h e
  unfold dLst at e
  split at e
  · cases e
    obtain ⟨a, xs, rfl, h1, h3⟩ := rep_lst r
    exact ⟨a, xs, rfl, .inl h1, fun l hl => q l xs hl h3⟩
  · cases e
    obtain ⟨a, xs, rfl, h1, h3⟩ := rep_tup r
    exact ⟨a, xs, rfl, .inr h1, fun l hl => q l xs hl h3⟩
  · cases e
/-! ### isinstance(e, T), T a built-in class -/
def tyN : D → String
  | .none => "NoneType"
  | .bool _ => "bool"
  | .int _ => "int"
  | .str _ => "str"
  | .list _ => "list"
  | .tuple _ => "tuple"
  | .dict [(.none, .list _)] => "list"
  | .dict _ => "dict"
def tyNs : List String := ["NoneType", "bool", "int", "str", "list", "tuple", "dict"]
theorem tyN_mem (d : D) : tyN d ∈ tyNs := by
  unfold tyN tyNs
  split <;> simp
def isI (n : String) (d : D) : Bool := tyN d == n || (n == "int" && tyN d == "bool")
theorem ty_of {O : Addr → Prop} {H : Hp} {d : D} {v : V} (h : Rep K O H d v) : TyX K H v (.type (tyN d)) := by
  unfold tyN
  split
  · cases h; exact .base .non
  · cases h; exact .base (.bl _)
  · cases h; exact .base (.int _)
  · cases h; exact .base (.str _)
  · obtain ⟨a, xs, rfl, h1, h2, h3⟩ := h
    exact .base (.lst h1)
  · obtain ⟨a, xs, rfl, h1, h3⟩ := h
    rcases h1 with h1 | h1
    · exact .base (.tup h1.1)
    · rcases h1 with (h1 | ⟨_, h1⟩) | ⟨o, its, n, h1, h2, _⟩
      · cases h1
      · cases h1
      · exact .kTuple h1 h2
  · obtain ⟨a, xs, rfl, h1, h3⟩ := rep_scr h
    rcases h1 with (h1 | ⟨_, h1⟩) | ⟨o, its, n, h1, h2, _⟩
    · exact .base (.lst h1)
    · exact .base (.frz h1)
    · exact .kList h1 h2
  · rename_i kvs hn
    rcases h with ⟨a, xs, rfl, h1, h2, h3⟩ | ⟨a, ns, rfl, e1, h2⟩
    · exact .base (.dK h1)
    · exact (hn (ns.map .int) (by rw [e1])).elim
end
section
variable {X : Cx} {W : WX} {e : Expr} {ρ : List Slot} {pos p q : Pos} {x : Str}
/-- n: the class's own name -/
theorem ev_isi {n : String} {m : M D} (he : EV X W e ρ m) (hg : Gl X "isinstance") (hm : X.mg "isinstance" = none) (hgx : Gl X x) (hmx : X.mg x = none) (hvx : bootBuiltins x = some (.type n)) (hk : (tyNs.all fun t => decide (kitB t n = some (t == n || (n == "int" && t == "bool")))) = true)
    (hdx : (x == ("__debug__" : Str)) = false := by decide) (hnx : x ≠ "__name__" := by decide) (hs : starEach [e, .Name x q] X.env = (false, eval e X.env) :: starEach [.Name x q] X.env := by rfl) (hs2 : starEach [.Name x q] X.env = (false, eval (.Name x q) X.env) :: starEach [] X.env := by rfl)
    (hpl : (backTo pos (starEach [.Name x q] X.env)).any (·.1) = false := by rfl) :
    EV X W (.Call (.Name "isinstance" p) [e, .Name x q] [] pos) ρ (bd m fun d => pu (.bool (isI n d))) := by
  have hb : bootBuiltins "isinstance" = some (.builtin "isinstance") := by decide +kernel
  refine pe_mono (pe_callB call_isi hg hm hb (pa_cons he (pa_cons (pe_bltn (v := .ty n) hgx hmx hvx rfl hnx hdx) pa_nil hs2) hs) (by decide) (by decide) hs hpl) fun σ H Q _ h => ?_
  obtain ⟨F, G, τ, at_, z⟩ := h
  refine ⟨F, G, τ, at_, wp_of z (fun d τ1 z v H1 G1 a1 k1 r1 => ?_) fun _ _ z => z⟩
  have k := of_decide_eq_true (List.all_eq_true.mp hk (tyN d) (tyN_mem d))
  exact ⟨v, .ty n, _, _, _, rfl, .ty n, ty_of r1, kit_ty k, wp_pu.mp z _ H1 G1 a1 k1 rfl⟩
end
end DL


set_option maxRecDepth 100000
set_option maxHeartbeats 2000000
namespace DL
open PySem PySem.Spec PyProof.Rows L2

/-! ### what a def promises, calls of defs -/
/-- what comes back: data (false), a new list that nobody else holds (true) -/
def RetRep (K : PySem.W.Frag) (F : Fm) (G : Gh) (H : Hp) : Bool → D → V → Prop
  | false, d, v => Rep K G.O H d v
  | true, d, v => ∃ p xs ds, v = .ref p ∧ d = .list ds ∧ G.O p ∧ p ∉ G.al ∧ F.B p = none ∧ H p = some (.lst xs) ∧ RepA K G.O H ds xs
def gh0 (O : Addr → Prop) (al : List Addr) : Gh := ⟨O, al, fun _ => 0⟩
/-- the promise of a def of n arguments that computes f -/
def spD (K : PySem.W.Frag) (mg : Str → Option Value) (n : Nat) (ow : Bool) (f : List Arg → M D) : Sp := fun vs H Q E => ∃ (O : Addr → Prop) (al : List Addr) (τ : T) (as : List Arg), vs.length = n ∧ Gd K ⟨H, O, al⟩ (gh0 O al) τ H ∧ ArgsRep K O al H as vs ∧
  (f as τ).wp (fun d τ' => ∀ v H' G', Gd K ⟨H, O, al⟩ G' τ' H' → RetRep K ⟨H, O, al⟩ G' H' ow d v → Q v H') (fun e τ' => ∃ C, mg e = some (.ref C) ∧ ∀ H' G', Gd K ⟨H, O, al⟩ G' τ' H' → E (.ref C) none H')
theorem ArgsRep.length {K : PySem.W.Frag} {O : Addr → Prop} {al : List Addr} {H : Hp} : ∀ {as : List Arg} {vs : List V}, ArgsRep K O al H as vs → vs.length = as.length
  | [], _, h => by
    have e : _ = _ := h
    subst e; rfl
  | a :: as, _, ⟨v, r, e, h1, h2⟩ => by
    subst e
    rw [List.length_cons, List.length_cons, ArgsRep.length h2]
/-- a list, of what comes -/
def toL : D → M (List D)
  | .list ds => pu ds
  | _ => no
@[simp] theorem toL_list (ds : List D) : toL (.list ds) = pu ds := rfl
/-- at the def's level the wish hangs on no slot -/
abbrev wOf (E : XK) : WX := fun cls d _ H => E cls d H
section
variable {X : Cx} {e a b : Expr} {es : List Expr} {ρ : List Slot} {pos p : Pos} {x : Str} {CX : CXT} {k : Nat} {f : Addr} {fd : FuncData} {ps : List Str} {fm : List Arg → M D} {E : XK} {c : CL Arg} {n : Nat}
theorem call_core {W : WX} {ow : Bool} {σ : L2.St} {vs : List V} {H1 : Hp} {Q : VK} {as : List Arg} {F : Fm} {G G1 : Gh} {H : Hp} {τ1 : T} {K : PySem.W.Frag} {mg : Str → Option Value} {P : D → T → Prop} {E1 : Str → T → Prop} (hW : ∀ cls H', W cls none σ H' → E cls none H') (hn : vs.length = n)
    (a1 : At K F G1 ρ τ1 σ H1) (k1 : Ke G H G1 H1) (r1 : ArgsRep K G1.O G1.al H1 as vs) (z : (fm as τ1).wp P E1) (hP : ∀ d τ2, P d τ2 → ∀ v H2 G2, Gd K ⟨H1, G1.O, G1.al⟩ G2 τ2 H2 → RetRep K ⟨H1, G1.O, G1.al⟩ G2 H2 ow d v → Q v H2)
    (hE : ∀ e τ2, E1 e τ2 → EX K mg W F ρ σ G H e τ2) : spD K mg n ow fm vs H1 Q E := by
  refine ⟨G1.O, G1.al, τ1, as, hn, a1.gd.enter, r1, Rs.wp_mono z (fun d τ2 z2 => hP d τ2 z2) fun e τ2 z2 => ?_⟩
  obtain ⟨C, hC, h2⟩ := hE e τ2 z2
  exact ⟨C, hC, fun H2 G2 g2 => hW _ _ (h2 H2 _ (a1.after g2) (k1.trans (a1.gd.keOf g2)))⟩
theorem ev_call {W : WX} (Fo : FnOk X.prog X.w X.K X.mg X.base CX k f fd ps (spD X.K X.mg ps.length false fm)) (hr : Room k X.A) (hg : Gl X x) (hm : X.mg x = some (.ref f)) (hk : PySem.W.keepIn X.K (.ref f) = true) (hb : Binds X.K fd ps []) (hx : Passes CX X E) (hW : ∀ cls σ H', W cls none σ H' → E cls none H')
    (ha : EA X W (e :: es) ρ c) (hn : (e :: es).length = ps.length := by rfl) (hdb : (x == ("__debug__" : Str)) = false := by decide) (he : starEach (e :: es) X.env = (false, eval e X.env) :: starEach es X.env := by rfl) (hpl : (backTo pos (starEach es X.env)).any (·.1) = false := by rfl) :
    EV X W (.Call (.Name x p) (e :: es) [] pos) ρ (c D fm) := by
  refine pe_mono (pe_call Fo hr hg hm hk hb .nil hx ha hdb he hpl) fun σ H Q _ h => ?_
  obtain ⟨F, G, τ, at_, q⟩ := h
  refine ⟨F, G, τ, D, fm, _, _, at_, q, fun e τ' z => z, fun vs H1 G1 τ1 as a1 k1 r1 hl z => ?_⟩
  show spD _ _ _ _ _ (vs ++ []) H1 Q E
  rw [List.append_nil]
  exact call_core (fun cls H' => hW cls σ H') (hl.trans hn) a1 k1 r1 z (fun d τ2 z2 v H2 G2 g2 rr => z2 v H2 _ (a1.after g2) (k1.trans (a1.gd.keOf g2)) rr) fun e τ2 z2 => z2
theorem eo_call {W : WX} (Fo : FnOk X.prog X.w X.K X.mg X.base CX k f fd ps (spD X.K X.mg ps.length true fm)) (hr : Room k X.A) (hg : Gl X x) (hm : X.mg x = some (.ref f)) (hk : PySem.W.keepIn X.K (.ref f) = true) (hb : Binds X.K fd ps []) (hx : Passes CX X E) (hW : ∀ cls σ H', W cls none σ H' → E cls none H')
    (ha : EA X W (e :: es) ρ c) (hn : (e :: es).length = ps.length := by rfl) (hdb : (x == ("__debug__" : Str)) = false := by decide) (he : starEach (e :: es) X.env = (false, eval e X.env) :: starEach es X.env := by rfl) (hpl : (backTo pos (starEach es X.env)).any (·.1) = false := by rfl) :
    EO X W (.Call (.Name x p) (e :: es) [] pos) ρ (c (List D) fun as => bd (fm as) toL) := by
  refine pe_mono (pe_call Fo hr hg hm hk hb .nil hx ha hdb he hpl) fun σ H Q _ h => ?_
  obtain ⟨F, G, τ, at_, q⟩ := h
  refine ⟨F, G, τ, _, _, _, _, at_, q, fun e τ' z => z, fun vs H1 G1 τ1 as a1 k1 r1 hl z => ?_⟩
  show spD _ _ _ _ _ (vs ++ []) H1 Q E
  rw [List.append_nil]
  refine call_core (fun cls H' => hW cls σ H') (hl.trans hn) a1 k1 r1 (wp_bd.mp z) (fun d τ2 z2 v H2 G2 g2 rr => ?_) fun e τ2 z2 => z2
  obtain ⟨q, xs, ds, rfl, rfl, h1, h2, h3, h4, h5⟩ := rr
  exact wp_pu.mp z2 q xs H2 _ (a1.after g2) (k1.trans (a1.gd.keOf g2)) h4 h5 h1 h2 (none_back k1 h3)
end

/-! ### what is walked -/
structure ItOk (K : PySem.W.Frag) (O : Addr → Prop) (H : Hp) (J : It) (ds : List D) : Prop where
  go : ∀ (i : Nat) O' H', Kp O H O' H' → i < ds.length → J.go i H'
  stop : ∀ O' H', Kp O H O' H' → J.stop ds.length H'
  yld : ∀ (i : Nat) O' H' x H'', Kp O H O' H' → (∀ p, H' p = none → ¬ O' p) → i < ds.length → J.yld i H' x H'' → Same H' H'' ∧ ∃ d, ds[i]? = some d ∧ Rep K O' H'' d x
def tI (K : PySem.W.Frag) (mg : Str → Option Value) (W : WX) (ρ : List Slot) (m : M (List D)) : TI := fun σ H R => ∃ F G τ, At K F G ρ τ σ H ∧
  (m τ).wp (fun ds τ' => ∀ J H' G', At K F G' ρ τ' σ H' → Ke G H G' H' → ItOk K G'.O H' J ds → ds.length ≤ sizeLine → R J H') (EX K mg W F ρ σ G H)
def EI (X : Cx) (W : WX) (tg e : Expr) (ρ : List Slot) (m : M (List D)) : Prop := PI X tg e (tI X.K X.mg W ρ m)
theorem KL.size {K : PySem.W.Frag} {a : Addr} {xs : List V} (h : KL K a xs) : xs.length ≤ sizeLine := by
  rcases h with (h | ⟨_, h⟩) | ⟨o, its, n, h1, h2, h3, h4, h5, h6⟩
  · cases h
  · cases h
  · have := h6.length
    simp only [Array.length_toList] at this
    omega
theorem KT.size {K : PySem.W.Frag} {a : Addr} {xs : List V} (h : KT K a xs) : xs.length ≤ sizeLine := by
  rcases h with (h | ⟨_, h⟩) | ⟨o, its, n, h1, h2, h4, h5, h6⟩
  · cases h
  · cases h
  · have := h6.length
    simp only [Array.length_toList] at this
    omega
section
variable {X : Cx} {W : WX} {tg e a b : Expr} {es : List Expr} {ρ : List Slot} {pos p : Pos}
theorem pi_mono {t t' : TI} (h : PI X tg e t) (w : ∀ σ H R, Fits H → t' σ H R → t σ H R) : PI X tg e t' := ⟨fun pins s σ H R I q => h.run pins s σ H R I (w σ H R (fits_of I) q)⟩
def iAny (K : PySem.W.Frag) (tl : TE) : TI := fun σ H R => tl σ H fun x H1 => ∃ a, x = .ref a ∧ (((∃ xs, SqL K H1 a xs) ∧ R (Itl K a) H1) ∨ ((∃ xs, SqT K H1 a xs) ∧ R (Itt K a) H1))
theorem pi_any {l : Expr} {tl : TE} (hl : PE X l tl) : PI X tg l (iAny X.K tl) := by
  refine ⟨fun pins s σ H R I h => ?_⟩
  refine thn (hl.run pins s σ H _ I h) fun v s1 ⟨x, H1, I1, r1, q1⟩ => ?_
  obtain ⟨a, e, q1⟩ := q1
  subst e
  cases r1
  rcases q1 with ⟨⟨xs, hq⟩, q⟩ | ⟨⟨xs, hq⟩, q⟩
  · obtain ⟨its, rv, p, hz⟩ := I1.list hq
    refine wpAny_pyIter_list p.isList ?_
    refine ⟨s1.heap.objs.size, [s1.heap.objs.size], _, _, H1, rfl, I1.kept (t' := s1.toks) fun b o e => Heap.get?_push_of_some _ e, turn_list a _, ⟨_, Heap.get?_push_size _ rfl, rfl, rfl⟩, fun b hb => ?_, q⟩
    have e : b = s1.heap.objs.size := by simpa using hb
    subst e
    exact I1.fpOk (Nat.le_refl _) (I1.hok.fresh (Nat.le_refl _))
  · obtain ⟨its, rv, p, hz⟩ := I1.tuple hq
    refine wpAny_pyIter_tuple (show s1.heap.IsTuple a its.toArray from p) ?_
    refine ⟨s1.heap.objs.size, [s1.heap.objs.size], _, _, H1, rfl, I1.kept (t' := s1.toks) fun b o e => Heap.get?_push_of_some _ e, turn_tuple a _, ⟨_, Heap.get?_push_size _ rfl, rfl, rfl⟩, fun b hb => ?_, q⟩
    have e : b = s1.heap.objs.size := by simpa using hb
    subst e
    exact I1.fpOk (Nat.le_refl _) (I1.hok.fresh (Nat.le_refl _))
theorem itok_list {K : PySem.W.Frag} {O : Addr → Prop} {H : Hp} {a : Addr} {xs : List V} {ds : List D} (h1 : H a = some (.lst xs)) (h2 : ¬ O a) (h3 : RepA K O H ds xs) : ItOk K O H (Itl K a) ds where
  go := fun i O' H' k hi => ⟨xs, xs[i]'(by rw [h3.length]; exact hi), SqL.of (k.kp a _ h1 h2), by simp⟩
  stop := fun O' H' k => ⟨xs, SqL.of (k.kp a _ h1 h2), Nat.le_of_eq h3.length⟩
  yld := fun i O' H' x H'' k hO hi y => by
    obtain ⟨e, y⟩ := y
    subst e
    have z := y xs (SqL.of (k.kp a _ h1 h2))
    have r := RepA.kp k _ _ h3
    obtain ⟨v, e1, e2⟩ := RepA.get (i := i) (d := ds[i]) r (by simp [hi])
    rw [z] at e1
    cases e1
    exact ⟨same_refl _, ds[i], by simp [hi], e2⟩
theorem itok_tup {K : PySem.W.Frag} {O : Addr → Prop} {H : Hp} {a : Addr} {xs : List V} {ds : List D} (h1 : (H a = some (.tup xs) ∧ ¬ O a) ∨ KT K a xs) (h3 : RepA K O H ds xs) : ItOk K O H (Itt K a) ds := by
  have sq : ∀ O' H', Kp O H O' H' → SqT K H' a xs := fun O' H' k => h1.elim (fun h => SqT.of (k.kp a _ h.1 h.2)) KT.sq
  refine ⟨fun i O' H' k hi => ⟨xs, xs[i]'(by rw [h3.length]; exact hi), sq O' H' k, by simp⟩, fun O' H' k => ⟨xs, sq O' H' k, Nat.le_of_eq h3.length⟩, fun i O' H' x H'' k hO hi y => ?_⟩
  obtain ⟨e, y⟩ := y
  subst e
  have z := y xs (sq _ _ k)
  have r := RepA.kp k _ _ h3
  obtain ⟨v, e1, e2⟩ := RepA.get (i := i) (d := ds[i]) r (by simp [hi])
  rw [z] at e1
  cases e1
  exact ⟨same_refl _, ds[i], by simp [hi], e2⟩
theorem ei_val {m : M D} (he : EV X W e ρ m) : EI X W tg e ρ (bd m fun d => li (dLst d)) := by
  refine pi_mono (pi_any (pe_fits he)) fun σ H R _ h => ?_
  obtain ⟨F, G, τ, at_, q⟩ := h
  refine ⟨F, G, τ, at_, wp_of q (fun d τ1 z v H1 G1 a1 k1 r1 hf => ?_) fun _ _ z => z⟩
  obtain ⟨ds, e, z9⟩ := wp_li z
  clear z
  unfold dLst at e
  split at e
  · cases e
    obtain ⟨a, xs, rfl, h1, h2, h3⟩ := r1
    exact ⟨a, rfl, .inl ⟨⟨xs, SqL.of h1⟩, z9 _ H1 G1 a1 k1 (itok_list h1 h2 h3) (by rw [← h3.length]; exact (hf a).1 xs h1)⟩⟩
  · cases e
    obtain ⟨a, xs, rfl, h1, h3⟩ := r1
    refine ⟨a, rfl, .inr ⟨⟨xs, h1.elim (fun h => SqT.of h.1) KT.sq⟩, z9 _ H1 G1 a1 k1 (itok_tup h1 h3) ?_⟩⟩
    rw [← h3.length]
    exact h1.elim (fun h => (hf a).2.1 xs h.1) KT.size
  · cases e
/-- range(n), range(lo, hi) -/
def dRng1 : D → Option (List D)
  | .int n => if -(2 ^ 62) ≤ n ∧ n ≤ 16777216 then some ((List.range n.toNat).map fun (i : Nat) => .int i) else none
  | _ => none
def dRng2 : D → D → Option (List D)
  | .int i, .int j => if -(2 ^ 61) ≤ i ∧ i < 2 ^ 61 ∧ -(2 ^ 61) ≤ j ∧ j < 2 ^ 61 ∧ j - i ≤ 16777216 then some ((List.range (j - i).toNat).map fun (k : Nat) => .int (i + k)) else none
  | _, _ => none
theorem itok_range {K : PySem.W.Frag} {O : Addr → Prop} {H : Hp} (lo : Int) (n : Nat) : ItOk K O H (Itr lo n) ((List.range n).map fun (k : Nat) => .int (lo + k)) where
  go := fun i O' H' k hi => by
    show i < n
    simpa using hi
  stop := fun O' H' k => by
    show n ≤ _
    simp
  yld := fun i O' H' x H'' k hO hi y => by
    obtain ⟨e, y⟩ := y
    subst e
    subst y
    have hi' : i < n := by simpa using hi
    exact ⟨same_refl _, .int (lo + i), by simp [hi'], rfl⟩
theorem ei_range1 {m : M D} (ha : EV X W a ρ m) (hg : Gl X "range") (hm : X.mg "range" = none) (hs : starEach [a] X.env = [(false, eval a X.env)] := by rfl) : EI X W tg (.Call (.Name "range" p) [a] [] pos) ρ (bd m fun d => li (dRng1 d)) := by
  refine pi_mono (pi_range1 hg hm (pa_cons ha pa_nil hs) hs) fun σ H R _ h => ?_
  obtain ⟨F, G, τ, at_, q⟩ := h
  refine ⟨F, G, τ, at_, wp_of q (fun d τ1 z v H1 G1 a1 k1 r1 => ?_) fun _ _ z => z⟩
  obtain ⟨ds, e, z9⟩ := wp_li z
  clear z
  unfold dRng1 at e
  split at e
  · split at e
    · rename_i hz
      cases e
      cases r1
      refine ⟨_, rfl, by omega, by omega, z9 _ H1 G1 a1 k1 ?_ ?_⟩
      · have := itok_range (K := X.K) (O := G1.O) (H := H1) 0 (Int.toNat ‹Int›)
        simpa using this
      · simp only [List.length_map, List.length_range]
        rw [sizeLine_eq]
        omega
    · cases e
  · cases e
theorem ei_range2 {ma mb : M D} (ha : EV X W a ρ ma) (hb : EV X W b ρ mb) (hg : Gl X "range") (hm : X.mg "range" = none) (hs : starEach [a, b] X.env = [(false, eval a X.env), (false, eval b X.env)] := by rfl) (hs2 : starEach [b] X.env = [(false, eval b X.env)] := by rfl) :
    EI X W tg (.Call (.Name "range" p) [a, b] [] pos) ρ (bd ma fun x => bd mb fun y => li (dRng2 x y)) := by
  refine pi_mono (pi_range2 hg hm (pa_cons ha (pa_cons hb pa_nil hs2) (by rw [hs, hs2])) hs hs2) fun σ H R _ h => ?_
  obtain ⟨F, G, τ, at_, q⟩ := h
  refine ⟨F, G, τ, at_, wp_of q (fun d τ1 z v H1 G1 a1 k1 r1 => ?_) fun _ _ z => z⟩
  refine ⟨F, G1, τ1, a1, wp_of z (fun d2 τ2 z v2 H2 G2 a2 k2 r2 => ?_) fun e τ2 z => z.kp k1⟩
  obtain ⟨ds, e, z9⟩ := wp_li z
  clear z
  unfold dRng2 at e
  split at e
  · split at e
    · rename_i hz
      cases e
      cases r1
      cases r2
      refine ⟨_, _, rfl, ⟨by omega, by omega, by omega, by omega⟩, z9 _ H2 G2 a2 (k1.trans k2) (itok_range _ _) ?_⟩
      simp only [List.length_map, List.length_range]
      rw [sizeLine_eq]
      omega
    · cases e
  · cases e
end

/-! ### targets -/
/-- slots by places -/
def sets (ρ : List Slot) : List Nat → List D → List Slot
  | i :: is, d :: ds => sets (ρ.set i (.val d)) is ds
  | _, _ => ρ
def setV (σ : L2.St) : List Nat → List V → L2.St
  | i :: is, v :: vs => setV (σ.set i (some v)) is vs
  | _, _ => σ
section
variable {K : PySem.W.Frag} {F : Fm} {G : Gh} {ρ : List Slot} {τ : T} {σ : L2.St} {H : Hp}
theorem Sl.setVal (l : Sl K F G ρ σ H) {i : Nat} {d : D} {v : V} (r : Rep K G.O H d v) : Sl K F G (ρ.set i (.val d)) (σ.set i (some v)) H := by
  refine ⟨by rw [List.length_set, List.length_set]; exact l.len, fun j s e => ?_, fun j j' s t e e' h h' => ?_, fun j s e h => ?_⟩
  · by_cases hj : i = j
    · subst hj
      have hi : i < ρ.length := by
        have := (List.getElem?_eq_some_iff.mp e).1
        simpa using this
      rw [List.getElem?_set_self hi] at e
      cases e
      exact ⟨some v, List.getElem?_set_self (by rw [l.len]; exact hi), v, rfl, r⟩
    · rw [List.getElem?_set_ne hj] at e ⊢
      exact l.sl j s e
  · have n1 : i ≠ j := fun z => by
      subst z
      have hi : i < ρ.length := by
        have := (List.getElem?_eq_some_iff.mp e).1
        simpa using this
      rw [List.getElem?_set_self hi] at e
      cases e; cases h
    have n2 : i ≠ j' := fun z => by
      subst z
      have hi : i < ρ.length := by
        have := (List.getElem?_eq_some_iff.mp e').1
        simpa using this
      rw [List.getElem?_set_self hi] at e'
      cases e'; cases h'
    rw [List.getElem?_set_ne n1] at e
    rw [List.getElem?_set_ne n2] at e'
    exact l.inj j j' s t e e' h h'
  · have n1 : i ≠ j := fun z => by
      subst z
      have hi : i < ρ.length := by
        have := (List.getElem?_eq_some_iff.mp e).1
        simpa using this
      rw [List.getElem?_set_self hi] at e
      cases e; cases h
    rw [List.getElem?_set_ne n1] at e
    exact l.ops j s e h
theorem Sl.setVals : ∀ {is : List Nat} {ds : List D} {vs : List V} {ρ : List Slot} {σ : L2.St}, Sl K F G ρ σ H → RepA K G.O H ds vs → Sl K F G (sets ρ is ds) (setV σ is vs) H
  | [], _, _, _, _, l, _ => by simpa [sets, setV] using l
  | i :: is, [], vs, _, _, l, r => by
    have e : vs = [] := r
    subst e
    simpa [sets, setV] using l
  | i :: is, d :: ds, _, _, _, l, ⟨v, r, e, h1, h2⟩ => by
    subst e
    simp only [sets, setV]
    exact Sl.setVals (l.setVal h1) h2
end
/-- a target: what it takes d apart into, for the slots is -/
def TgOk (K : PySem.W.Frag) (g : TG) (u : D → Option (List D)) (is : List Nat) : Prop :=
  ∀ (O : Addr → Prop) (H : Hp) (d : D) (v : V) (ds : List D) (σ : L2.St) (Q : L2.St → Hp → Prop), Rep K O H d v → u d = some ds → (∀ vs, RepA K O H ds vs → Q (setV σ is vs) H) → g v σ H Q
structure GT (X : Cx) (tg : Expr) (g : TG) (u : D → Option (List D)) (is : List Nat) : Prop where
  pg : PG X tg g
  ok : TgOk X.K g u is
def u1 (d : D) : Option (List D) := some [d]
def uN (n : Nat) : D → Option (List D)
  | .tuple ds => if ds.length = n then some ds else none
  | _ => none
section
variable {X : Cx} {pos p : Pos}
theorem tgok_name {K : PySem.W.Frag} {i : Nat} : TgOk K (gName i) u1 [i] := fun O H d v ds σ Q r e h => by cases e; exact h [v] (RepA.one r)
theorem gt_name {i : Nat} {x : Str} (hN : X.N.Nodup) (hi : X.N[i]? = some x) (hx : Loc X.env.scope x) (hf : X.fn x = true ∨ X.env.scope.names.lookup x = some .local := by first | exact .inl rfl | exact .inr rfl | assumption) : GT X (.Name x pos) (gName i) u1 [i] :=
  ⟨pg_name hN hi hx hf, tgok_name⟩
/-- names in a tuple, as PGs -/
def gNames : List Nat → TGs
  | [] => gNil
  | i :: is => gCons (gName i) (gNames is)
theorem gNames_ok {K : PySem.W.Frag} {O : Addr → Prop} {H : Hp} : ∀ {is : List Nat} {vs : List V} {σ : L2.St} {Q : L2.St → Hp → Prop}, vs.length = is.length → Q (setV σ is vs) H → gNames is vs σ H Q
  | [], [], _, _, _, h => ⟨rfl, h⟩
  | i :: is, v :: vs, σ, Q, e, h => ⟨v, vs, rfl, gNames_ok (K := K) (O := O) (by simpa using e) h⟩
theorem tgok_tup {K : PySem.W.Frag} {is : List Nat} {n : Nat} (hl : is.length = n) : TgOk K (gTup K n (gNames is)) (uN n) is := by
  intro O H d v ds σ Q r e h
  unfold uN at e
  split at e
  · split at e
    · rename_i hz
      cases e
      obtain ⟨a, xs, rfl, h1, h3⟩ := rep_tup r
      exact ⟨a, xs, rfl, h1, by rw [h3.length]; exact hz, gNames_ok (K := K) (O := O) (by rw [h3.length, hz, hl]) (h xs h3)⟩
    · cases e
  · cases e
theorem gt_tup {es : List Expr} {k : Nat} {is : List Nat} {n : Nat} (hc : X.calm = true) (h : PGs X es (gNames is)) (hl : is.length = n) (hn : (assignEach es X.env).length = n := by rfl) (hst : (assignEach es X.env).findIdx? (·.1) = none := by rfl) :
    GT X (.Tuple es k pos) (gTup X.K n (gNames is)) (uN n) is := ⟨pg_tup hc h hn hst, tgok_tup hl⟩
end
end DL


set_option maxRecDepth 100000
set_option maxHeartbeats 2000000
namespace DL
open PySem PySem.Spec PyProof.Rows L2

/-! ### comprehensions -/
/-- nothing is let out -/
abbrev W0 : WX := fun _ _ _ _ => False
def mp : List D → (D → M D) → M (List D)
  | [], _ => pu []
  | d :: ds, f => bd (f d) fun x => bd (mp ds f) fun r => pu (x :: r)
def mf : List D → (D → M Bool) → (D → M D) → M (List D)
  | [], _, _ => pu []
  | d :: ds, t, f => bd (t d) fun b => if b then bd (f d) fun x => bd (mf ds t f) fun r => pu (x :: r) else mf ds t f
theorem mf_true (f : D → M D) : ∀ ds, mf ds (fun _ => pu true) f = mp ds f
  | [] => rfl
  | d :: ds => by
    rw [mf, bd_pu, if_pos rfl, mf_true f ds]
    rfl
/-- slots forgotten -/
def wps (ρ : List Slot) : List Nat → List Slot
  | [] => ρ
  | i :: is => (wps ρ is).set i .emp
section
variable {K : PySem.W.Frag} {F : Fm} {G : Gh} {ρ : List Slot} {τ : T} {σ : L2.St} {H : Hp}
theorem Sl.setEmp (l : Sl K F G ρ σ H) (i : Nat) (o : Option V) : Sl K F G (ρ.set i .emp) (σ.set i o) H := by
  refine ⟨by rw [List.length_set, List.length_set]; exact l.len, fun j s e => ?_, fun j j' s t e e' h h' => ?_, fun j s e h => ?_⟩
  · by_cases hj : i = j
    · subst hj
      have hi : i < ρ.length := by
        have := (List.getElem?_eq_some_iff.mp e).1
        simpa using this
      rw [List.getElem?_set_self hi] at e
      cases e
      exact ⟨o, List.getElem?_set_self (by rw [l.len]; exact hi), trivial⟩
    · rw [List.getElem?_set_ne hj] at e ⊢
      exact l.sl j s e
  · have n1 : i ≠ j := fun z => by
      subst z
      have hi : i < ρ.length := by
        have := (List.getElem?_eq_some_iff.mp e).1
        simpa using this
      rw [List.getElem?_set_self hi] at e
      cases e; cases h
    have n2 : i ≠ j' := fun z => by
      subst z
      have hi : i < ρ.length := by
        have := (List.getElem?_eq_some_iff.mp e').1
        simpa using this
      rw [List.getElem?_set_self hi] at e'
      cases e'; cases h'
    rw [List.getElem?_set_ne n1] at e
    rw [List.getElem?_set_ne n2] at e'
    exact l.inj j j' s t e e' h h'
  · have n1 : i ≠ j := fun z => by
      subst z
      have hi : i < ρ.length := by
        have := (List.getElem?_eq_some_iff.mp e).1
        simpa using this
      rw [List.getElem?_set_self hi] at e
      cases e; cases h
    rw [List.getElem?_set_ne n1] at e
    exact l.ops j s e h
theorem Sl.wipe (l : Sl K F G ρ σ H) : ∀ is : List Nat, Sl K F G (wps ρ is) (L2.wipe σ is) H
  | [] => l
  | i :: is => (Sl.wipe l is).setEmp i none
theorem wipe_setV : ∀ {is js : List Nat} {vs : List V} {σ : L2.St}, (∀ i ∈ js, i ∈ is) → L2.wipe (setV σ js vs) is = L2.wipe σ is
  | is, [], vs, σ, _ => by simp [setV]
  | is, j :: js, [], σ, _ => by simp [setV]
  | is, j :: js, v :: vs, σ, h => by
    rw [setV, wipe_setV fun i m => h i (List.mem_cons_of_mem _ m)]
    have hj : j ∈ is := h j List.mem_cons_self
    clear h
    induction is with
    | nil => cases hj
    | cons i is ih =>
      rw [L2.wipe, L2.wipe]
      by_cases m : j ∈ is
      · rw [ih m]
      · have e : j = i := by
          rcases List.mem_cons.mp hj with e | e
          · exact e
          · exact absurd e m
        subst e
        clear ih hj
        have q : ∀ (is : List Nat), j ∉ is → L2.wipe (σ.set j (some v)) is = (L2.wipe σ is).set j (some v) := by
          intro is
          induction is with
          | nil => intro _; rfl
          | cons k ks ih =>
            intro m
            rw [L2.wipe, L2.wipe, ih fun z => m (List.mem_cons_of_mem _ z)]
            exact List.set_comm _ _ fun z => m (by rw [z]; exact List.mem_cons_self)
        rw [q is m, List.set_set]
theorem wipe_wipe : ∀ (is : List Nat) {σ : L2.St}, L2.wipe (L2.wipe σ is) is = L2.wipe σ is := by
  intro is
  have key : ∀ (js is : List Nat) (σ : L2.St), (∀ j ∈ js, j ∈ is) → L2.wipe (L2.wipe σ js) is = L2.wipe σ is := by
    intro js
    induction js with
    | nil => intro is σ _; rfl
    | cons j js ih =>
      intro is σ h
      rw [L2.wipe]
      have q : ∀ (is : List Nat) (τ : L2.St), j ∈ is → L2.wipe (τ.set j none) is = L2.wipe τ is := by
        intro is
        induction is with
        | nil => intro _ m; cases m
        | cons k ks ihk =>
          intro τ m
          rw [L2.wipe, L2.wipe]
          by_cases mk : j ∈ ks
          · rw [ihk τ mk]
          · have e : j = k := by
              rcases List.mem_cons.mp m with e | e
              · exact e
              · exact absurd e mk
            subst e
            have q2 : ∀ (is : List Nat), j ∉ is → L2.wipe (τ.set j none) is = (L2.wipe τ is).set j none := by
              intro is
              induction is with
              | nil => intro _; rfl
              | cons l ls ihl =>
                intro m
                rw [L2.wipe, L2.wipe, ihl fun z => m (List.mem_cons_of_mem _ z)]
                exact List.set_comm _ _ fun z => m (by rw [z]; exact List.mem_cons_self)
            rw [q2 ks mk, List.set_set]
      rw [q is _ (h j List.mem_cons_self)]
      exact ih is σ fun i m => h i (List.mem_cons_of_mem _ m)
  intro σ
  exact key is is σ fun _ h => h
/-- an open list that is no slot's changes -/
theorem At.updOpen (a : At K F G ρ τ σ H) {p : Addr} (o : HO) (hp : G.O p) (hal : p ∉ G.al) (hB : F.B p = none) (how : ∀ (i : Nat) (s : Slot), ρ[i]? = some s → s.isOwn = true → G.ow i ≠ p) :
    At K F G ρ τ σ (upd H p o) ∧ Kp G.O H G.O (upd H p o) := by
  have k : Kp G.O H G.O (upd H p o) := by
    refine ⟨fun x u h n => ?_, fun x h => .inl h, fun x h => ?_⟩
    · have : x ≠ p := fun z => n (z ▸ hp)
      rw [upd_ne this]; exact h
    · by_cases e : x = p
      · rw [e, upd_same]; simp
      · rw [upd_ne e]; exact h
  refine ⟨⟨?_, ?_⟩, k⟩
  · exact { mu := fun n ds e => by
              obtain ⟨x, xs, h1, h2, h3⟩ := a.gd.mu n ds e
              have : x ≠ p := fun z => hal (z ▸ List.mem_of_getElem? h1)
              exact ⟨x, xs, h1, by rw [upd_ne this]; exact h2, RepA.kp k _ _ h3⟩
            plain := a.gd.plain
            mo := a.gd.mo
            mlen := a.gd.mlen
            mnd := a.gd.mnd
            trk := fun x h => by
              by_cases e : x = p
              · exact ⟨o, by rw [e]; exact upd_same⟩
              · rw [upd_ne e]; exact a.gd.trk x h
            keep := fun x u e n => by
              have : x ≠ p := fun z => by rw [z, hB] at e; cases e
              rw [upd_ne this]; exact a.gd.keep x u e n
            pre := a.gd.pre
            bnew := a.gd.bnew
            base := a.gd.base
            opn := a.gd.opn
            fo := a.gd.fo }
  · refine ⟨a.sl.len, fun i t e => ?_, a.sl.inj, a.sl.ops⟩
    obtain ⟨u, h1, h2⟩ := a.sl.sl i t e
    refine ⟨u, h1, ?_⟩
    cases t with
    | emp => trivial
    | val d => obtain ⟨v, e, r⟩ := h2; exact ⟨v, e, Rep.kp k _ _ r⟩
    | own ds => obtain ⟨e2, xs, h1, h2⟩ := h2; exact ⟨e2, xs, by rw [upd_ne (how i _ e rfl)]; exact h1, RepA.kp k _ _ h2⟩
    | ownd ds => obtain ⟨e2, xs, h1, h2⟩ := h2; exact ⟨e2, xs, by rw [upd_ne (how i _ e rfl)]; exact h1, RepK.kp k _ _ h2⟩
    | mu n => exact h2
    | bad => exact h2
end
section
variable {X : Cx} {ρ : List Slot}
theorem pe_ex {e : Expr} {α : Type} {t : α → TE} (h : ∀ x, PE X e (t x)) : PE X e (fun σ H Q => ∃ x, t x σ H Q) := ⟨fun pins s σ H Q I ⟨x, q⟩ => (h x).run pins s σ H Q I q⟩
theorem pts_ex {es : List Expr} {α : Type} {t : α → TT} (h : ∀ x, PTs X es (t x)) : PTs X es (fun σ H Q => ∃ x, t x σ H Q) := ⟨fun pins s σ H Q I ⟨x, q⟩ => (h x).run pins s σ H Q I q⟩
theorem pts_yes {K : PySem.W.Frag} {mg : Str → Option Value} {W : WX} : PTs X [] (tT K mg W ρ (pu true)) := ⟨fun pins s σ H Q I h => pts_nil.run pins s σ H Q I (tT_pu h)⟩
/-- the reading of a comprehension -/
theorem lc_read {K : PySem.W.Frag} {mg : Str → Option Value} {g : TG} {u : D → Option (List D)} {is : List Nat} {mi : M (List D)} {mt : List D → M Bool} {me : List D → M D}
    (hok : TgOk K g u is)
    {σ : L2.St} {H : Hp} {Q : VK} (h : tO K mg W0 ρ (bd mi fun ds => mf ds (fun d => bd (li (u d)) mt) (fun d => bd (li (u d)) me)) σ H Q) :
    tLc (tI K mg W0 ρ mi) g (fun σ H Q => ∃ xs, tT K mg W0 (sets (wps ρ is) is xs) (mt xs) σ H Q) (fun σ H Q => ∃ xs, tE K mg W0 (sets (wps ρ is) is xs) (me xs) σ H Q) is σ H Q := by
  obtain ⟨F, G, τ, at_, q⟩ := h
  refine ⟨F, G, τ, at_, wp_of q (fun ds τ1 z J H1 G1 a1 k1 it hz => ?_) fun _ _ z => z⟩
  intro L hL
  obtain ⟨a2, k2⟩ := a1.open hL (.lst [])
  have how : ∀ (i : Nat) (s : Slot), ρ[i]? = some s → s.isOwn = true → G1.ow i ≠ L := fun i s e h => a1.ow_ne hL e h
  refine ⟨fun i m H' => m = ds.length - i ∧ i ≤ ds.length ∧ ∃ (G' : Gh) (τ' : T) (acc : List D) (vacc : List V), At K F G' ρ τ' σ H' ∧ Ke G1 H1 G' H' ∧ G'.O L ∧ L ∉ G'.al ∧ H' L = some (.lst vacc) ∧ RepA K G'.O H' acc vacc ∧ acc.length ≤ i ∧
    ((bd (mf (ds.drop i) (fun d => bd (li (u d)) mt) (fun d => bd (li (u d)) me)) fun r => pu (acc ++ r)) τ').wp (fun ds τ' => ∀ p xs H' G', At K F G' ρ τ' σ H' → Ke G H G' H' → H' p = some (.lst xs) → RepA K G'.O H' ds xs → G'.O p → p ∉ G'.al → H p = none → Q (.ref p) H') (EX K mg W0 F ρ σ G H), ⟨ds.length, by simp, Nat.zero_le _, _, τ1, [], [], a2, k2, .inr rfl, a1.al_ne hL, upd_same, rfl, Nat.le_refl _, ?_⟩, ?_⟩
  · show ((bd (mf ds _ _) pu) τ1).wp _ _
    rw [bd_id]
    exact z
  rintro i m H' ⟨rfl, hi, G', τ', acc, vacc, a', k', oL, nL, hL', rA, hl, wp⟩
  by_cases hlt : i < ds.length
  · refine .inr ⟨it.go i G'.O H' k'.p hlt, fun H'' => ∃ m', m' = ds.length - (i + 1) ∧ (i + 1) ≤ ds.length ∧ ∃ (G' : Gh) (τ' : T) (acc : List D) (vacc : List V), At K F G' ρ τ' σ H'' ∧ Ke G1 H1 G' H'' ∧ G'.O L ∧ L ∉ G'.al ∧ H'' L = some (.lst vacc) ∧ RepA K G'.O H'' acc vacc ∧ acc.length ≤ i + 1 ∧
      ((bd (mf (ds.drop (i + 1)) (fun d => bd (li (u d)) mt) (fun d => bd (li (u d)) me)) fun r => pu (acc ++ r)) τ').wp (fun ds τ' => ∀ p xs H' G', At K F G' ρ τ' σ H' → Ke G H G' H' → H' p = some (.lst xs) → RepA K G'.O H' ds xs → G'.O p → p ∉ G'.al → H p = none → Q (.ref p) H') (EX K mg W0 F ρ σ G H), fun H'' ⟨m', e, r⟩ => ⟨m', by omega, e, r⟩, ?_⟩
    intro x H'' y
    obtain ⟨sm, d, hd, rd⟩ := it.yld i G'.O H' x H'' k'.p (fun p hp => a'.gd.nopen hp) hlt y
    have a'' := a'.same sm
    have ke'' : Ke G1 H1 G' H'' := k'.trans (Ke.same sm)
    have hL'' : H'' L = some (.lst vacc) := sm _ _ hL'
    have rA'' := RepA.kp (Kp.same sm (O := G'.O)) _ _ rA
    have hdrop : ds.drop i = d :: ds.drop (i + 1) := by
      rw [List.drop_eq_getElem_cons hlt]
      congr 1
      rw [List.getElem?_eq_getElem hlt] at hd
      exact Option.some.inj hd
    rw [hdrop, mf, bd_bd] at wp
    have wp2 := wp_bd.mp wp
    have wp3 := wp_bd.mp wp2
    obtain ⟨xs, hu, wp4⟩ := wp_li wp3
    refine hok G'.O H'' d x xs _ _ rd hu fun vs rv => ⟨by rw [wipe_setV (fun _ h => h), wipe_wipe], ?_⟩
    have atS : At K F G' (sets (wps ρ is) is xs) τ' (setV (L2.wipe σ is) is vs) H'' := ⟨a''.gd, Sl.setVals (Sl.wipe a''.sl is) rv⟩
    refine ⟨xs, F, G', τ', atS, Rs.wp_mono wp4 (fun b τ3 wp5 H3 G3 a3 k3 => ?_) fun e τ3 w => ?_⟩
    · have a3' : At K F G3 ρ τ3 σ H3 := a''.ke a3.gd k3
      have hL3 : H3 L = some (.lst vacc) := k3.ks _ _ hL'' nL
      have nL3 : L ∉ G3.al := fun m => by
        rcases k3.an L m with z | z
        · exact nL z
        · rw [hL''] at z; cases z
      have rA3 := RepA.kp k3.p _ _ rA''
      cases b with
      | false =>
        rw [if_neg Bool.false_ne_true] at wp5
        refine iteF ?_
        exact ⟨_, rfl, hlt, G3, τ3, acc, vacc, a3', ke''.trans k3, k3.oo _ oL, nL3, hL3, rA3, Nat.le_succ_of_le hl, wp5⟩
      | true =>
        rw [if_pos rfl] at wp5
        refine iteT ?_
        rw [hu, li_some, bd_pu, bd_bd] at wp5
        refine ⟨xs, F, G3, τ3, a3, Rs.wp_mono (wp_bd.mp wp5) (fun y τ4 wp6 vy H4 G4 a4 k4 r4 => ?_) fun e τ4 w => ?_⟩
        · have a4' : At K F G4 ρ τ4 σ H4 := a3'.ke a4.gd k4
          have hL4 : H4 L = some (.lst vacc) := k4.ks _ _ hL3 nL3
          have nL4 : L ∉ G4.al := fun m => by
            rcases k4.an L m with z | z
            · exact nL3 z
            · rw [hL3] at z; cases z
          have rA4 := RepA.kp k4.p _ _ rA3
          have kk : Ke G1 H1 G4 H4 := (ke''.trans k3).trans k4
          have oL4 : G4.O L := k4.oo _ (k3.oo _ oL)
          refine ⟨vacc, hL4, by rw [rA4.length]; omega, ?_⟩
          obtain ⟨a5, k5⟩ := a4'.updOpen (.lst (vacc ++ [vy])) oL4 nL4 (a1.gd.bnone hL) fun i s e h => by rw [kk.ow]; exact how i s e h
          refine ⟨_, rfl, hlt, G4, τ4, acc ++ [y], vacc ++ [vy], a5, ⟨kk.p.trans k5, fun p o e n => ?_, kk.oo, kk.ow, kk.al, kk.an⟩, oL4, nL4, upd_same, RepA.kp k5 _ _ (RepA.append rA4 (RepA.one r4)), by rw [List.length_append, List.length_singleton]; omega, ?_⟩
          · have : p ≠ L := fun z => by rw [z, hL] at e; cases e
            rw [upd_ne this]
            exact kk.ks p o e n
          · have wp7 := wp6
            rw [bd_bd] at wp7
            simpa [List.append_assoc] using wp7
        · obtain ⟨C, _, hC⟩ := w
          exact ⟨C, ‹_›, fun H5 G5 a5 k5 => hC H5 G5 (at_.ke a5.gd (((((k1.trans ke'').trans k3)).trans k5))) (((k1.trans ke'').trans k3).trans k5)⟩
    · obtain ⟨C, _, hC⟩ := w
      exact ⟨C, ‹_›, fun H5 G5 a5 k5 => hC H5 G5 (at_.ke a5.gd ((k1.trans ke'').trans k5)) ((k1.trans ke'').trans k5)⟩
  · have e : i = ds.length := by omega
    subst e
    rw [List.drop_length, mf, bd_pu, List.append_nil] at wp
    exact .inl ⟨it.stop G'.O H' k'.p, wp_pu.mp wp L vacc H' G' a' (k1.trans k') hL' rA oL nL (none_back k1 hL)⟩
theorem eo_lc {elt tg iter : Expr} {ifs : List Expr} {scope : Scope} {own : List (Str × Nat)} {pos : Pos} {g : TG} {u : D → Option (List D)} {mi : M (List D)} {mt : List D → M Bool} {me : List D → M D} (hc : X.calm = true) (hN : X.N.Nodup) (hi : EI X W0 tg iter ρ mi) (ok : BlkOk X.N X.env.scope scope own)
    (hok : TgOk X.K g u (own.map (·.2))) (hg : ∀ (s : Shared) (H : Hp) (C : Addr) (cl : List (Str × Addr)) (fp : List Addr), PG (X.blk s H scope (compEnvC scope cl C X.env) fp) tg g)
    (ht : ∀ (xs : List D) (s : Shared) (H : Hp) (C : Addr) (cl : List (Str × Addr)) (fp : List Addr), PTs (X.blk s H scope (compEnvC scope cl C X.env) fp) ifs (tT X.K X.mg W0 (sets (wps ρ (own.map (·.2))) (own.map (·.2)) xs) (mt xs)))
    (he : ∀ (xs : List D) (s : Shared) (H : Hp) (C : Addr) (cl : List (Str × Addr)) (fp : List Addr), EV (X.blk s H scope (compEnvC scope cl C X.env) fp) W0 elt (sets (wps ρ (own.map (·.2))) (own.map (·.2)) xs) (me xs)) (hs : ∀ x, foldedSetIterable iter X.env x = pure x := by intro _; rfl) :
    EO X W0 (.ListComp elt [⟨tg, iter, ifs, 0⟩] scope pos) ρ (bd mi fun ds => mf ds (fun d => bd (li (u d)) mt) (fun d => bd (li (u d)) me)) := by
  have he' : ∀ (s : Shared) (H : Hp) (C : Addr) (cl : List (Str × Addr)) (fp : List Addr), PE (X.blk s H scope (compEnvC scope cl C X.env) fp) elt (fun σ H Q => ∃ xs, tE X.K X.mg W0 (sets (wps ρ (own.map (·.2))) (own.map (·.2)) xs) (me xs) σ H Q) :=
    fun s H C cl fp => ⟨fun pins s' σ H' Q I ⟨xs, q⟩ => PE.run (he xs s H C cl fp) pins s' σ H' Q I q⟩
  exact pe_mono (pe_lc hc hN hi ok hg (fun s H C cl fp => pts_ex fun xs => ht xs s H C cl fp) he' hs) fun σ H Q _ h => lc_read hok h
end
end DL


set_option maxRecDepth 100000
set_option maxHeartbeats 2000000
namespace DL
open PySem PySem.Spec PyProof.Rows L2

/-! ### blocks -/
/-- how a block ends: it goes on, leaves its loop, turns it, hands back -/
inductive Fl (S L : Type) where
  | nx (s : S)
  | bk (l : L)
  | ct (l : L)
  | rt (d : D)
def FlP {S L : Type} (K : PySem.W.Frag) (F : Fm) (ow : Bool) (eS : S → List Slot) (eL : L → List Slot) (N : Ends) (G : Gh) (H : Hp) : Fl S L → T → Prop
  | .nx s, τ' => ∀ σ' H' G', At K F G' (eS s) τ' σ' H' → Kp G.O H G'.O H' → N.nx σ' H'
  | .bk s, τ' => ∀ σ' H' G', At K F G' (eL s) τ' σ' H' → Kp G.O H G'.O H' → N.bk σ' H'
  | .ct s, τ' => ∀ σ' H' G', At K F G' (eL s) τ' σ' H' → Kp G.O H G'.O H' → N.ct σ' H'
  | .rt d, τ' => ∀ v H' G', Gd K F G' τ' H' → RetRep K F G' H' ow d v → N.rt v H'
def FlE (K : PySem.W.Frag) (mg : Str → Option Value) (W : WX) (F : Fm) : Str → T → Prop := fun e τ' => ∃ C, mg e = some (.ref C) ∧ ∀ σ' H' G', Gd K F G' τ' H' → W (.ref C) none σ' H'
theorem FlE.ex {K : PySem.W.Frag} {mg : Str → Option Value} {W : WX} {F : Fm} {e : Str} {τ : T} (h : FlE K mg W F e τ) {ρ : List Slot} {σ : L2.St} {G : Gh} {H : Hp} : EX K mg W F ρ σ G H e τ :=
  let ⟨C, h1, h2⟩ := h; ⟨C, h1, fun H' G' a k => h2 σ H' G' a.gd⟩
theorem FlP.kp {S L : Type} {K : PySem.W.Frag} {F : Fm} {ow : Bool} {eS : S → List Slot} {eL : L → List Slot} {N : Ends} {G G1 : Gh} {H H1 : Hp} (k : Kp G.O H G1.O H1) : ∀ {f : Fl S L} {τ : T}, FlP K F ow eS eL N G H f τ → FlP K F ow eS eL N G1 H1 f τ
  | .nx _, _, h => fun σ' H' G' a k' => h σ' H' G' a (k.trans k')
  | .bk _, _, h => fun σ' H' G' a k' => h σ' H' G' a (k.trans k')
  | .ct _, _, h => fun σ' H' G' a k' => h σ' H' G' a (k.trans k')
  | .rt _, _, h => h
def tS {S L : Type} (K : PySem.W.Frag) (mg : Str → Option Value) (W : WX) (ow : Bool) (eS : S → List Slot) (eL : L → List Slot) (ρ : List Slot) (m : M (Fl S L)) : TS := fun N σ H => ∃ F G τ, At K F G ρ τ σ H ∧ (m τ).wp (FlP K F ow eS eL N G H) (FlE K mg W F)
def ES {S L : Type} (X : Cx) (W : WX) (ow : Bool) (sts : List Stmt) (eS : S → List Slot) (eL : L → List Slot) (ρ : List Slot) (m : M (Fl S L)) : Prop := PSs X sts (tS X.K X.mg W ow eS eL ρ m)
/-- a block, then what follows it -/
def sqk {S S' L : Type} (k : S → M (Fl S' L)) : Fl S L → M (Fl S' L)
  | .nx s => k s
  | .bk l => pu (.bk l)
  | .ct l => pu (.ct l)
  | .rt d => pu (.rt d)
def sq {S S' L : Type} (m : M (Fl S L)) (k : S → M (Fl S' L)) : M (Fl S' L) := bd m (sqk k)
@[simp] theorem sq_nx {S S' L : Type} (s : S) (k : S → M (Fl S' L)) : sq (pu (.nx s)) k = k s := rfl
@[simp] theorem sq_bk {S S' L : Type} (l : L) (k : S → M (Fl S' L)) : sq (pu (.bk l)) k = pu (.bk l) := rfl
@[simp] theorem sq_ct {S S' L : Type} (l : L) (k : S → M (Fl S' L)) : sq (pu (.ct l)) k = pu (.ct l) := rfl
@[simp] theorem sq_rt {S S' L : Type} (d : D) (k : S → M (Fl S' L)) : sq (pu (.rt d)) k = pu (.rt d) := rfl
theorem sq_bd {α S S' L : Type} (m : M α) (f : α → M (Fl S L)) (k : S → M (Fl S' L)) : sq (bd m f) k = bd m fun a => sq (f a) k := bd_bd _ _ _
/-- the loop over what is walked -/
def fo {S L : Type} (body : S → D → M (Fl S S)) : List D → S → M (Fl S L)
  | [], s => pu (.nx s)
  | d :: ds, s => bd (body s d) fun
    | .nx s' => fo body ds s'
    | .ct s' => fo body ds s'
    | .bk s' => pu (.nx s')
    | .rt d => pu (.rt d)
/-- a while's turn, r what follows -/
def wst {S L : Type} (c : S → M Bool) (body : S → M (Fl S S)) (r : S → M (Fl S L)) (s : S) : M (Fl S L) := bd (c s) fun b => if b then bd (body s) fun
    | .nx s' => r s'
    | .ct s' => r s'
    | .bk s' => pu (.nx s')
    | .rt d => pu (.rt d) else pu (.nx s)
/-- n turns at most -/
def whN {S L : Type} (c : S → M Bool) (body : S → M (Fl S S)) : Nat → S → M (Fl S L)
  | 0 => fun _ => no
  | n + 1 => wst c body (whN c body n)
open Classical in
noncomputable def wh {S L : Type} (c : S → M Bool) (body : S → M (Fl S S)) (s : S) : M (Fl S L) := fun τ =>
  if h : ∃ n, whN (L := L) c body n s τ ≠ .no then whN c body h.choose s τ else .no
/-- it goes on once, or it does not -/
theorem wst_pt {S L : Type} (c : S → M Bool) (body : S → M (Fl S S)) (s : S) (τ : T) : (∃ s' τ', ∀ r : S → M (Fl S L), wst c body r s τ = r s' τ') ∨ ∃ x, ∀ r : S → M (Fl S L), wst c body r s τ = x := by
  cases e : c s τ with
  | no => exact .inr ⟨.no, fun r => by simp [wst, bd, e]⟩
  | er x τ' => exact .inr ⟨.er x τ', fun r => by simp [wst, bd, e]⟩
  | ok b τ1 =>
    cases b with
    | false => exact .inr ⟨.ok (.nx s) τ1, fun r => by simp [wst, bd, e, pu]⟩
    | true =>
      cases e2 : body s τ1 with
      | no => exact .inr ⟨.no, fun r => by simp [wst, bd, e, e2]⟩
      | er x τ' => exact .inr ⟨.er x τ', fun r => by simp [wst, bd, e, e2]⟩
      | ok f τ2 =>
        cases f with
        | nx s' => exact .inl ⟨s', τ2, fun r => by simp [wst, bd, e, e2]⟩
        | ct s' => exact .inl ⟨s', τ2, fun r => by simp [wst, bd, e, e2]⟩
        | bk s' => exact .inr ⟨.ok (.nx s') τ2, fun r => by simp [wst, bd, e, e2, pu]⟩
        | rt d => exact .inr ⟨.ok (.rt d) τ2, fun r => by simp [wst, bd, e, e2, pu]⟩
theorem whN_succ {S L : Type} {c : S → M Bool} {body : S → M (Fl S S)} : ∀ {n : Nat} {s : S} {τ : T}, whN (L := L) c body n s τ ≠ .no → whN (L := L) c body (n + 1) s τ = whN c body n s τ
  | 0, s, τ, h => absurd rfl h
  | n + 1, s, τ, h => by
    show wst c body (whN c body (n + 1)) s τ = wst c body (whN c body n) s τ
    have h : wst (L := L) c body (whN c body n) s τ ≠ .no := h
    rcases wst_pt (L := L) c body s τ with ⟨s', τ', q⟩ | ⟨x, q⟩
    · rw [q] at h
      rw [q, q]
      exact whN_succ h
    · rw [q, q]
theorem whN_le {S L : Type} {c : S → M Bool} {body : S → M (Fl S S)} {n : Nat} {s : S} {τ : T} (h : whN (L := L) c body n s τ ≠ .no) : ∀ k, whN (L := L) c body (n + k) s τ = whN c body n s τ
  | 0 => rfl
  | k + 1 => by
    have ih := whN_le h k
    rw [show n + (k + 1) = (n + k) + 1 from rfl, whN_succ (by rw [ih]; exact h), ih]
theorem wh_of {S L : Type} {c : S → M Bool} {body : S → M (Fl S S)} {n : Nat} {s : S} {τ : T} {r : Rs (Fl S L)} (h : whN c body n s τ = r) (hr : r ≠ .no) : wh c body s τ = r := by
  have ex : ∃ n, whN (L := L) c body n s τ ≠ .no := ⟨n, by rw [h]; exact hr⟩
  unfold wh
  rw [dif_pos ex]
  have q := ex.choose_spec
  rw [← h]
  rcases Nat.le_total ex.choose n with l | l
  · obtain ⟨k, e⟩ := Nat.exists_eq_add_of_le l
    have z := whN_le q k
    rw [← e] at z
    exact z.symm
  · obtain ⟨k, e⟩ := Nat.exists_eq_add_of_le l
    rw [e]
    exact whN_le (by rw [h]; exact hr) k
theorem wh_ex {S L : Type} {c : S → M Bool} {body : S → M (Fl S S)} {s : S} {τ : T} {Q : Fl S L → T → Prop} {E : Str → T → Prop} (h : (wh c body s τ).wp Q E) : ∃ n, (whN c body n s τ).wp Q E := by
  unfold wh at h
  split at h
  · exact ⟨_, h⟩
  · exact (wp_no.mp h).elim
theorem wh_no {S L : Type} {c : S → M Bool} {body : S → M (Fl S S)} {s : S} {τ : T} (h : ∀ n, whN (L := L) c body n s τ = .no) : wh (L := L) c body s τ = .no := by
  unfold wh
  rw [dif_neg fun ⟨n, z⟩ => z (h n)]
theorem wh_unf {S L : Type} (c : S → M Bool) (body : S → M (Fl S S)) (s : S) : wh (L := L) c body s = wst c body (wh c body) s := by
  funext τ
  rcases wst_pt (L := L) c body s τ with ⟨s', τ', q⟩ | ⟨x, q⟩
  · rw [q]
    have e : ∀ n, whN (L := L) c body (n + 1) s τ = whN c body n s' τ' := fun n => q _
    by_cases ex : ∃ n, whN (L := L) c body n s' τ' ≠ .no
    · obtain ⟨n, h⟩ := ex
      rw [wh_of rfl h]
      exact wh_of (e n) h
    · have z : ∀ n, whN (L := L) c body n s' τ' = .no := fun n => Classical.byContradiction fun z => ex ⟨n, z⟩
      rw [wh_no z]
      refine wh_no fun n => ?_
      cases n with
      | zero => rfl
      | succ n => rw [e, z]
  · rw [q]
    have e : ∀ n, whN (L := L) c body (n + 1) s τ = x := fun n => q _
    by_cases hx : x = .no
    · rw [hx]
      refine wh_no fun n => ?_
      cases n with
      | zero => rfl
      | succ n => rw [e, hx]
    · exact wh_of (e 0) hx

/-! ### slots may be forgotten, an own list becomes data -/
def Wk1 : Slot → Slot → Prop
  | _, .emp => True
  | .val a, .val b => a = b
  | .own a, .own b => a = b
  | .own a, .val b => b = .list a
  | .ownd a, .ownd b => a = b
  | .ownd a, .val b => b = .dict a
  | .mu a, .mu b => a = b
  | _, _ => False
def Wk : List Slot → List Slot → Prop
  | [], [] => True
  | s :: r, t :: r' => Wk1 s t ∧ Wk r r'
  | _, _ => False
theorem Wk.len : ∀ {a b : List Slot}, Wk a b → a.length = b.length
  | [], [], _ => rfl
  | s :: r, t :: r', h => by rw [List.length_cons, List.length_cons, Wk.len h.2]
  | [], _ :: _, h => h.elim
  | _ :: _, [], h => h.elim
theorem Wk.get : ∀ {a b : List Slot} {i : Nat} {t : Slot}, Wk a b → b[i]? = some t → ∃ s, a[i]? = some s ∧ Wk1 s t
  | [], [], _, _, _, e => by simp at e
  | s :: r, t :: r', 0, _, h, e => by
    simp at e
    subst e
    exact ⟨s, by simp, h.1⟩
  | s :: r, t :: r', i + 1, _, h, e => by
    obtain ⟨s', e', h'⟩ := Wk.get (i := i) h.2 (by simpa using e)
    exact ⟨s', by simpa using e', h'⟩
  | [], _ :: _, _, _, h, _ => h.elim
  | _ :: _, [], _, _, h, _ => h.elim
theorem At.wk {K : PySem.W.Frag} {F : Fm} {G : Gh} {ρ ρ' : List Slot} {τ : T} {σ : L2.St} {H : Hp} (a : At K F G ρ τ σ H) (w : Wk ρ ρ') : ∃ G', At K F G' ρ' τ σ H ∧ Kp G.O H G'.O H := by
  let cl : Addr → Prop := fun x => ∃ (i : Nat) (s t : Slot), ρ[i]? = some s ∧ ρ'[i]? = some t ∧ s.isOwn = true ∧ t.isOwn = false ∧ x = G.ow i
  have l : ∀ x, (G.O x ∧ ¬ cl x) → G.O x := fun x h => h.1
  have kp : Kp G.O H (fun x => G.O x ∧ ¬ cl x) H := ⟨fun _ _ h _ => h, fun x h => .inl h.1, fun _ h => h⟩
  have nal : ∀ x ∈ G.al, ¬ cl x := fun x m ⟨i, s, t, e1, _, h1, _, e⟩ => (a.sl.ops i s e1 h1).2.1 (e ▸ m)
  refine ⟨⟨fun x => G.O x ∧ ¬ cl x, G.al, G.ow⟩, ⟨?_, ?_⟩, kp⟩
  · exact { mu := fun n ds e => by
              obtain ⟨x, xs, h1, h2, h3⟩ := a.gd.mu n ds e
              exact ⟨x, xs, h1, h2, RepA.less l h3⟩
            plain := a.gd.plain
            mo := fun x h => ⟨a.gd.mo x h, nal x h⟩
            mlen := a.gd.mlen
            mnd := a.gd.mnd
            trk := fun x h => a.gd.trk x h.1
            keep := a.gd.keep
            pre := a.gd.pre
            bnew := a.gd.bnew
            base := fun x h => ⟨a.gd.base x h, fun ⟨i, s, t, e1, _, h1, _, e⟩ => a.gd.fo x h (by rw [e]; exact (a.sl.ops i s e1 h1).2.2)⟩
            opn := fun x h => a.gd.opn x h.1
            fo := a.gd.fo }
  · refine ⟨a.sl.len.trans w.len, fun i t e => ?_, fun i j t t' e e' h h' z => ?_, fun i t e h => ?_⟩
    · obtain ⟨s, es, ws⟩ := w.get e
      obtain ⟨o, h1, h2⟩ := a.sl.sl i s es
      refine ⟨o, h1, ?_⟩
      cases t with
      | emp => trivial
      | bad => cases s <;> exact ws.elim
      | val d =>
        cases s with
        | val d' =>
          have q : d' = d := ws
          subst q
          obtain ⟨v, e, r⟩ := h2
          exact ⟨v, e, Rep.less l r⟩
        | own ds =>
          have q : d = .list ds := ws
          subst q
          obtain ⟨e2, xs, q1, q2⟩ := h2
          exact ⟨_, e2, _, xs, rfl, q1, fun z => z.2 ⟨i, _, _, es, e, rfl, rfl, rfl⟩, RepA.less l q2⟩
        | ownd ds =>
          have q : d = .dict ds := ws
          subst q
          obtain ⟨e2, xs, q1, q2⟩ := h2
          exact ⟨_, e2, .inl ⟨_, xs, rfl, q1, fun z => z.2 ⟨i, _, _, es, e, rfl, rfl, rfl⟩, RepK.kp kp _ _ q2⟩⟩
        | emp => exact ws.elim
        | mu n => exact ws.elim
        | bad => exact ws.elim
      | own ds =>
        cases s with
        | own ds' =>
          have q : ds' = ds := ws
          subst q
          obtain ⟨e2, xs, q1, q2⟩ := h2
          exact ⟨e2, xs, q1, RepA.less l q2⟩
        | _ => exact ws.elim
      | ownd ds =>
        cases s with
        | ownd ds' =>
          have q : ds' = ds := ws
          subst q
          obtain ⟨e2, xs, q1, q2⟩ := h2
          exact ⟨e2, xs, q1, RepK.kp kp _ _ q2⟩
        | _ => exact ws.elim
      | mu n =>
        cases s with
        | mu n' =>
          have q : n' = n := ws
          subst q
          exact h2
        | _ => exact ws.elim
    · obtain ⟨s, es, ws⟩ := w.get e
      obtain ⟨s', es', ws'⟩ := w.get e'
      have ho : s.isOwn = true := by cases t <;> cases s <;> first | rfl | exact ws.elim | cases h
      have ho' : s'.isOwn = true := by cases t' <;> cases s' <;> first | rfl | exact ws'.elim | cases h'
      exact a.sl.inj i j s s' es es' ho ho' z
    · obtain ⟨s, es, ws⟩ := w.get e
      have ho : s.isOwn = true := by cases t <;> cases s <;> first | rfl | exact ws.elim | cases h
      obtain ⟨q1, q2, q3⟩ := a.sl.ops i s es ho
      refine ⟨⟨q1, ?_⟩, q2, q3⟩
      rintro ⟨j, s', t', e1, e2, h1, h2, z⟩
      have ij := a.sl.inj i j s s' es e1 ho h1 z
      subst ij
      rw [e] at e2
      cases e2
      rw [h] at h2
      cases h2
section
variable {X : Cx} {W : WX} {ow : Bool} {S S1 L : Type} {eS : S → List Slot} {e1 : S1 → List Slot} {eL : L → List Slot} {ρ ρ' : List Slot} {st : Stmt} {rest body A B : List Stmt} {e a b c tg iter : Expr} {pos p : Pos} {x : Str} {i : Nat}
theorem es_wk {m : M (Fl S L)} {sts : List Stmt} (w : Wk ρ ρ') (h : ES X W ow sts eS eL ρ' m) : ES X W ow sts eS eL ρ m := pss_mono h fun N σ H _ ⟨F, G, τ, a, q⟩ => by
  obtain ⟨G', a', k⟩ := a.wk w
  exact ⟨F, G', τ, a', Rs.wp_mono q (fun f τ' z => z.kp k) fun _ _ z => z⟩
theorem es_no {sts : List Stmt} : ES X W ow sts eS eL ρ no := pss_mono pss_never fun N σ H _ ⟨F, G, τ, a, q⟩ => (wp_no.mp q).elim
theorem es_nil {s : S} (w : Wk ρ (eS s) := by exact ⟨⟩) : ES X W ow [] eS eL ρ (pu (.nx s)) := es_wk w (pss_mono pss_nil fun N σ H _ ⟨F, G, τ, a, q⟩ => wp_pu.mp q σ H G a Kp.refl)
theorem es_break {l : L} (w : Wk ρ (eL l)) : ES X W ow (.Break pos :: rest) eS eL ρ (pu (.bk l)) := es_wk w (pss_mono (pss_cons ps_break pss_never) fun N σ H _ ⟨F, G, τ, a, q⟩ => wp_pu.mp q σ H G a Kp.refl)
theorem es_continue {l : L} (w : Wk ρ (eL l)) : ES X W ow (.Continue pos :: rest) eS eL ρ (pu (.ct l)) := es_wk w (pss_mono (pss_cons ps_continue pss_never) fun N σ H _ ⟨F, G, τ, a, q⟩ => wp_pu.mp q σ H G a Kp.refl)
theorem es_pass {m : M (Fl S L)} (h : ES X W ow rest eS eL ρ m) : ES X W ow (.Pass pos :: rest) eS eL ρ m := pss_mono (pss_cons ps_pass h) fun _ _ _ _ z => z
/-- return e -/
theorem es_ret {m : M D} (he : EV X W e ρ m) : ES X W false (.Return (some e) pos :: rest) eS eL ρ (bd m fun d => pu (.rt d)) := by
  refine pss_mono (pss_cons (ps_ret he) pss_never) fun N σ H _ ⟨F, G, τ, a, q⟩ => ?_
  exact ⟨F, G, τ, a, wp_of q (fun d τ1 z v H1 G1 a1 k1 r1 => wp_pu.mp z v H1 G1 a1.gd r1) fun _ _ z => z.ex⟩
theorem es_retN : ES X W false (.Return none pos :: rest) eS eL ρ (pu (.rt .none)) := by
  refine pss_mono (pss_cons ps_retN pss_never) fun N σ H _ ⟨F, G, τ, a, q⟩ => ?_
  exact wp_pu.mp q _ H G a.gd rfl
/-- return of a new list -/
theorem es_retO {m : M (List D)} (he : EO X W e ρ m) : ES X W true (.Return (some e) pos :: rest) eS eL ρ (bd m fun ds => pu (.rt (.list ds))) := by
  refine pss_mono (pss_cons (ps_ret he) pss_never) fun N σ H _ ⟨F, G, τ, a, q⟩ => ?_
  exact ⟨F, G, τ, a, wp_of q (fun d τ1 z p xs H1 G1 a1 k1 h1 r1 o1 n1 b1 => wp_pu.mp z _ H1 G1 a1.gd ⟨p, xs, d, rfl, rfl, o1, n1, a.gd.bnone b1, h1, r1⟩) fun _ _ z => z.ex⟩
/-- return of an own list -/
theorem es_retX {ds : List D} (hs : ρ[i]? = some (.own ds)) (hN : X.N[i]? = some x := by rfl) (hv : Vis X.env.scope x := by first | exact Or.inl rfl | exact Or.inr (Or.inl rfl) | exact Or.inr (Or.inr rfl))
    (hd : (x == ("__debug__" : Str)) = false := by decide) (hcd : (x == ("__classdict__" : Str)) = false := by decide) : ES X W true (.Return (some (.Name x p)) pos :: rest) eS eL ρ (pu (.rt (.list ds))) := by
  refine pss_mono (pss_cons (ps_ret (pe_var hN hv hd hcd)) pss_never) fun N σ H _ ⟨F, G, τ, a, q⟩ => ?_
  obtain ⟨o, h1, e2, xs, q1, q2⟩ := a.sl.sl i _ hs
  obtain ⟨p1, p2, p3⟩ := a.sl.ops i _ hs rfl
  exact ⟨_, by rw [h1, e2], wp_pu.mp q _ H G a.gd ⟨_, xs, ds, rfl, rfl, p1, p2, p3, q1, q2⟩⟩
/-- an expression alone -/
theorem es_expr {m : M D} {k : M (Fl S L)} (he : EV X W e ρ m) (hr : ES X W ow rest eS eL ρ k) (hs : swapsWith e none pos.line X.env = pure false := by rfl) : ES X W ow (.Expr e pos :: rest) eS eL ρ (bd m fun _ => k) := by
  refine pss_mono (pss_cons (ps_expr he hs) hr) fun N σ H _ ⟨F, G, τ, a, q⟩ => ?_
  exact ⟨F, G, τ, a, wp_of q (fun d τ1 z v H1 G1 a1 k1 r1 => ⟨F, G1, τ1, a1, Rs.wp_mono z (fun f τ' z => z.kp k1.p) fun _ _ z => z⟩) fun _ _ z => z.ex⟩
/-- x = e -/
theorem es_set {m : M D} {k : D → M (Fl S L)} (i : Nat) {pos' : Pos} (hN : X.N.Nodup) (he : EV X W e ρ m) (hr : ∀ d, ES X W ow rest eS eL (ρ.set i (.val d)) (k d)) (hi : X.N[i]? = some x := by rfl) (hx : Loc X.env.scope x := by first | exact Or.inl rfl | exact Or.inr rfl)
    (hs : swapsWith e (some (.Name x pos')) pos.line X.env = pure false := by rfl) (hf : X.fn x = true ∨ X.env.scope.names.lookup x = some .local := by first | exact .inl rfl | exact .inr rfl | assumption) :
    ES X W ow (.Assign [.Name x pos'] e pos :: rest) eS eL ρ (bd m k) := by
  have hr' : PSs X rest (fun N σ H => ∃ d, tS X.K X.mg W ow eS eL (ρ.set i (.val d)) (k d) N σ H) := ⟨fun pins s σ H D I ⟨d, q⟩ => PSs.run (hr d) pins s σ H D I q⟩
  refine pss_mono (pss_cons (ps_set hN hi hx he hs hf) hr') fun N σ H _ ⟨F, G, τ, a, q⟩ => ?_
  refine ⟨F, G, τ, a, wp_of q (fun d τ1 z v H1 G1 a1 k1 r1 => ?_) fun _ _ z => z.ex⟩
  exact ⟨d, F, G1, τ1, ⟨a1.gd, a1.sl.setVal r1⟩, Rs.wp_mono z (fun f τ' z => z.kp k1.p) fun _ _ z => z⟩
theorem At.setOwn {K : PySem.W.Frag} {F : Fm} {G : Gh} {τ : T} {σ : L2.St} {H : Hp} (a : At K F G ρ τ σ H) {q : Addr} {ds : List D} {xs : List V} (h1 : H q = some (.lst xs)) (h2 : RepA K G.O H ds xs) (h3 : G.O q) (h4 : q ∉ G.al) (h5 : F.B q = none)
    (h6 : ∀ (j : Nat) (s : Slot), ρ[j]? = some s → s.isOwn = true → G.ow j ≠ q) : At K F ⟨G.O, G.al, fun j => if j = i then q else G.ow j⟩ (ρ.set i (.own ds)) τ (σ.set i (some (.ref q))) H := by
  refine ⟨⟨a.gd.mu, a.gd.plain, a.gd.mo, a.gd.mlen, a.gd.mnd, a.gd.trk, a.gd.keep, a.gd.pre, a.gd.bnew, a.gd.base, a.gd.opn, a.gd.fo⟩, ?_⟩
  have other : ∀ (j : Nat) (s : Slot), j ≠ i → (ρ.set i (.own ds))[j]? = some s → ρ[j]? = some s := fun j s hj e => by
    rw [List.getElem?_set_ne (Ne.symm hj)] at e
    exact e
  have here : ∀ (s : Slot), (ρ.set i (.own ds))[i]? = some s → s = .own ds := fun s e => by
    have hi : i < ρ.length := by
      have := (List.getElem?_eq_some_iff.mp e).1
      simpa using this
    rw [List.getElem?_set_self hi] at e
    exact (Option.some.inj e).symm
  refine ⟨by rw [List.length_set, List.length_set]; exact a.sl.len, fun j s e => ?_, fun j j' s t e e' h h' z => ?_, fun j s e h => ?_⟩
  · by_cases hj : j = i
    · subst hj
      have := here s e
      subst this
      have hi : j < ρ.length := by
        have := (List.getElem?_eq_some_iff.mp e).1
        simpa using this
      exact ⟨_, List.getElem?_set_self (by rw [a.sl.len]; exact hi), (by show _ = some (V.ref (if j = j then q else G.ow j)); rw [if_pos rfl]), xs, (by show H (if j = j then q else G.ow j) = _; rw [if_pos rfl]; exact h1), h2⟩
    · obtain ⟨o, q1, q2⟩ := a.sl.sl j s (other j s hj e)
      refine ⟨o, by rw [List.getElem?_set_ne (Ne.symm hj)]; exact q1, ?_⟩
      cases s with
      | emp => trivial
      | val d => exact q2
      | own es =>
        obtain ⟨z1, z2⟩ := q2
        exact ⟨(by show o = some (V.ref (if j = i then q else G.ow j)); rw [if_neg hj]; exact z1), by
          show ∃ xs, H (if j = i then q else G.ow j) = _ ∧ _
          rw [if_neg hj]; exact z2⟩
      | ownd es =>
        obtain ⟨z1, z2⟩ := q2
        exact ⟨(by show o = some (V.ref (if j = i then q else G.ow j)); rw [if_neg hj]; exact z1), by
          show ∃ xs, H (if j = i then q else G.ow j) = _ ∧ _
          rw [if_neg hj]; exact z2⟩
      | mu n => exact q2
      | bad => exact q2
  · have z' : (if j = i then q else G.ow j) = (if j' = i then q else G.ow j') := z
    by_cases hj : j = i
    · by_cases hj' : j' = i
      · rw [hj, hj']
      · rw [if_pos hj, if_neg hj'] at z'
        exact absurd z'.symm (h6 j' t (other j' t hj' e') h')
    · by_cases hj' : j' = i
      · rw [if_neg hj, if_pos hj'] at z'
        exact absurd z' (h6 j s (other j s hj e) h)
      · rw [if_neg hj, if_neg hj'] at z'
        exact a.sl.inj j j' s t (other j s hj e) (other j' t hj' e') h h' z'
  · show G.O (if j = i then q else G.ow j) ∧ (if j = i then q else G.ow j) ∉ G.al ∧ F.B (if j = i then q else G.ow j) = none
    by_cases hj : j = i
    · rw [if_pos hj]; exact ⟨h3, h4, h5⟩
    · rw [if_neg hj]; exact a.sl.ops j s (other j s hj e) h
/-- x = a new list, x's own from now on -/
theorem es_own {m : M (List D)} {k : List D → M (Fl S L)} (i : Nat) {pos' : Pos} (hN : X.N.Nodup) (he : EO X W e ρ m) (hr : ∀ ds, ES X W ow rest eS eL (ρ.set i (.own ds)) (k ds)) (hi : X.N[i]? = some x := by rfl) (hx : Loc X.env.scope x := by first | exact Or.inl rfl | exact Or.inr rfl)
    (hs : swapsWith e (some (.Name x pos')) pos.line X.env = pure false := by rfl) (hf : X.fn x = true ∨ X.env.scope.names.lookup x = some .local := by first | exact .inl rfl | exact .inr rfl | assumption) :
    ES X W ow (.Assign [.Name x pos'] e pos :: rest) eS eL ρ (bd m k) := by
  have hr' : PSs X rest (fun N σ H => ∃ d, tS X.K X.mg W ow eS eL (ρ.set i (.own d)) (k d) N σ H) := ⟨fun pins s σ H D I ⟨d, q⟩ => PSs.run (hr d) pins s σ H D I q⟩
  refine pss_mono (pss_cons (ps_set hN hi hx he hs hf) hr') fun N σ H _ ⟨F, G, τ, a, q⟩ => ?_
  refine ⟨F, G, τ, a, wp_of q (fun d τ1 z p xs H1 G1 a1 k1 h1 r1 o1 n1 b1 => ?_) fun _ _ z => z.ex⟩
  exact ⟨d, F, _, τ1, a1.setOwn h1 r1 o1 n1 (a.gd.bnone b1) (fun j s e h => by rw [k1.ow]; exact a.ow_ne b1 e h), Rs.wp_mono z (fun f τ' z => FlP.kp k1.p z) fun _ _ z => z⟩
end
end DL


set_option maxRecDepth 100000
set_option maxHeartbeats 2000000
namespace DL
open PySem PySem.Spec PyProof.Rows L2

/-- a condition -/
def ck (b : Bool) : M Unit := if b then pu () else no
@[simp] theorem ck_true : ck true = pu () := rfl
@[simp] theorem ck_false : ck false = no := rfl
theorem wp_ck {b : Bool} {τ : T} {Q : Unit → T → Prop} {E : Str → T → Prop} (h : (ck b τ).wp Q E) : b = true ∧ Q () τ := by
  cases b with
  | true => exact ⟨rfl, wp_pu.mp h⟩
  | false => exact (wp_no.mp h).elim
/-- a list by reference is read, one of its places stored, a new one made -/
def mget (n : Nat) : M (List D) := fun τ => match τ[n]? with
  | some ds => .ok ds τ
  | none => .no
def setD (ds : List D) : D → D → Option (List D)
  | .int k, d => (ixN ds.length k).map fun j => ds.set j d
  | _, _ => none
def mput (n : Nat) (ds : List D) : M Unit := fun τ => if ds.all okT then .ok () (τ.set n ds) else .no
def mnew (ds : List D) : M Nat := fun τ => if ds.all okT then .ok τ.length (τ ++ [ds]) else .no
/-- data that are not lists and hold none -/
def nl (d : D) : M D := if noL d then pu d else no

section
variable {K : PySem.W.Frag} {F : Fm} {G : Gh} {ρ : List Slot} {τ : T} {σ : L2.St} {H : Hp}
mutual
theorem Rep.more {O : Addr → Prop} {a : Addr} {xs : List V} (ha : H a = some (.lst xs)) : ∀ (d : D) (v : V), noL d = true → Rep K O H d v → Rep K (fun x => O x ∨ x = a) H d v
  | .none, _, _, h => h
  | .bool _, _, _, h => h
  | .int _, _, _, h => h
  | .str _, _, _, h => h
  | .list _, _, n, _ => by simp [noL] at n
  | .tuple ds, _, n, ⟨b, ys, e, h1, h3⟩ => ⟨b, ys, e, h1.elim (fun h => .inl ⟨h.1, fun z => z.elim h.2 fun z => by rw [z, ha] at h; cases h.1⟩) .inr, RepA.more ha ds ys (by simpa [noL] using n) h3⟩
  | .dict _, _, n, _ => by simp [noL] at n
theorem RepA.more {O : Addr → Prop} {a : Addr} {xs : List V} (ha : H a = some (.lst xs)) : ∀ (ds : List D) (vs : List V), noLs ds = true → RepA K O H ds vs → RepA K (fun x => O x ∨ x = a) H ds vs
  | [], _, _, h => h
  | d :: ds, _, n, ⟨v, r, e, h1, h2⟩ => by
    rw [noLs, Bool.and_eq_true] at n
    exact ⟨v, r, e, Rep.more ha d v n.1 h1, RepA.more ha ds r n.2 h2⟩
end
theorem Rep.moreT {O : Addr → Prop} {a : Addr} {xs : List V} (ha : H a = some (.lst xs)) {d : D} {v : V} (n : okT d = true) (h : Rep K O H d v) : Rep K (fun x => O x ∨ x = a) H d v := by
  unfold okT at n
  split at n
  · rcases h with ⟨b, ys, _, _, _, kk, v, r', _, h0, _⟩ | ⟨b, ns, e, h1, h2⟩
    · exact h0.elim
    · exact .inr ⟨b, ns, e, h1, h2.elim (fun ⟨⟨o, q⟩, m⟩ => .inl ⟨⟨o, q⟩, fun z => z.elim m fun z => by rw [z, ha] at q; cases q⟩) .inr⟩
  · exact Rep.more ha d v n h
theorem RepA.moreT {O : Addr → Prop} {a : Addr} {xs : List V} (ha : H a = some (.lst xs)) : ∀ {ds : List D} {vs : List V}, ds.all okT = true → RepA K O H ds vs → RepA K (fun x => O x ∨ x = a) H ds vs
  | [], _, _, h => h
  | d :: ds, _, n, ⟨v, r, e, h1, h2⟩ => by
    rw [List.all_cons, Bool.and_eq_true] at n
    exact ⟨v, r, e, Rep.moreT ha n.1 h1, RepA.moreT ha n.2 h2⟩
/-- an own list is lent: seen as data -/
theorem At.lend (a : At K F G ρ τ σ H) {i : Nat} {ds : List D} (hs : ρ[i]? = some (.own ds)) : At K F ⟨fun x => G.O x ∧ x ≠ G.ow i, G.al, G.ow⟩ (ρ.set i (.val (.list ds))) τ σ H := by
  have l : ∀ x, (G.O x ∧ x ≠ G.ow i) → G.O x := fun x h => h.1
  have kp : Kp G.O H (fun x => G.O x ∧ x ≠ G.ow i) H := ⟨fun _ _ h _ => h, fun x h => .inl h.1, fun _ h => h⟩
  obtain ⟨p1, p2, p3⟩ := a.sl.ops i _ hs rfl
  have hi : i < ρ.length := (List.getElem?_eq_some_iff.mp hs).1
  refine ⟨?_, ?_⟩
  · exact { mu := fun n ds e => by
              obtain ⟨x, xs, h1, h2, h3⟩ := a.gd.mu n ds e
              exact ⟨x, xs, h1, h2, RepA.less l h3⟩
            plain := a.gd.plain
            mo := fun x h => ⟨a.gd.mo x h, fun z => p2 (z ▸ h)⟩
            mlen := a.gd.mlen
            mnd := a.gd.mnd
            trk := fun x h => a.gd.trk x h.1
            keep := a.gd.keep
            pre := a.gd.pre
            bnew := a.gd.bnew
            base := fun x h => ⟨a.gd.base x h, fun z => a.gd.fo x h (z ▸ p3)⟩
            opn := fun x h => a.gd.opn x h.1
            fo := a.gd.fo }
  · have other : ∀ (j : Nat) (s : Slot), s.isOwn = true → (ρ.set i (.val (.list ds)))[j]? = some s → j ≠ i ∧ ρ[j]? = some s := fun j s h e => by
      have n : j ≠ i := fun z => by
        subst z
        rw [List.getElem?_set_self hi] at e
        cases e; cases h
      rw [List.getElem?_set_ne (Ne.symm n)] at e
      exact ⟨n, e⟩
    refine ⟨by rw [List.length_set]; exact a.sl.len, fun j t e => ?_, fun j j' t t' e e' h h' z => a.sl.inj j j' t t' (other j t h e).2 (other j' t' h' e').2 h h' z, fun j t e h => ?_⟩
    · by_cases hj : j = i
      · subst hj
        rw [List.getElem?_set_self hi] at e
        cases e
        obtain ⟨o, h1, h2, xs, q1, q2⟩ := a.sl.sl j _ hs
        exact ⟨o, h1, _, h2, _, xs, rfl, q1, fun z => z.2 rfl, RepA.less l q2⟩
      · rw [List.getElem?_set_ne (Ne.symm hj)] at e
        obtain ⟨u, h1, h2⟩ := a.sl.sl j t e
        refine ⟨u, h1, ?_⟩
        cases t with
        | emp => trivial
        | val d => obtain ⟨v, e, r⟩ := h2; exact ⟨v, e, Rep.less l r⟩
        | own ds => obtain ⟨e, xs, h1, h2⟩ := h2; exact ⟨e, xs, h1, RepA.less l h2⟩
        | ownd ds => obtain ⟨e, xs, h1, h2⟩ := h2; exact ⟨e, xs, h1, RepK.kp kp _ _ h2⟩
        | mu n => exact h2
        | bad => exact h2
    · obtain ⟨n, e'⟩ := other j t h e
      obtain ⟨q1, q2, q3⟩ := a.sl.ops j t e' h
      exact ⟨⟨q1, fun z => n (a.sl.inj j i t _ e' hs h rfl z)⟩, q2, q3⟩
/-- .. and handed back -/
theorem At.back (a : At K F G ρ τ σ H) {i : Nat} {ds : List D} (hs : ρ[i]? = some (.own ds)) {G' : Gh} {τ' : T} {H' : Hp} (g' : Gd K F G' τ' H') (k : Ke ⟨fun x => G.O x ∧ x ≠ G.ow i, G.al, G.ow⟩ H G' H') :
    At K F ⟨fun x => G'.O x ∨ x = G.ow i, G'.al, G'.ow⟩ ρ τ' σ H' ∧ Ke G H ⟨fun x => G'.O x ∨ x = G.ow i, G'.al, G'.ow⟩ H' ∧ ∃ xs, H' (G.ow i) = some (.lst xs) := by
  obtain ⟨p1, p2, p3⟩ := a.sl.ops i _ hs rfl
  obtain ⟨o, h1, h2, xs, q1, q2⟩ := a.sl.sl i _ hs
  have hx : H' (G.ow i) = some (.lst xs) := k.ks _ _ q1 p2
  have k2 : Ke G H ⟨fun x => G'.O x ∨ x = G.ow i, G'.al, G'.ow⟩ H' := by
    refine ⟨⟨fun x o h n => k.p.kp x o h fun z => n z.1, fun x h => ?_, k.p.tk⟩, k.ks, fun x h => ?_, k.ow, k.al, k.an⟩
    · rcases h with h | h
      · exact (k.p.on x h).elim (fun z => .inl z.1) .inr
      · exact .inl (h ▸ p1)
    · by_cases e : x = G.ow i
      · exact .inr e
      · exact .inl (k.oo x ⟨h, e⟩)
  refine ⟨a.ke ?_ k2, k2, xs, hx⟩
  exact { mu := fun n ds e => by
            obtain ⟨x, ys, h1, h2, h3⟩ := g'.mu n ds e
            exact ⟨x, ys, h1, h2, RepA.moreT hx (g'.plain ds (List.mem_of_getElem? e)) h3⟩
          plain := g'.plain
          mo := fun x h => .inl (g'.mo x h)
          mlen := g'.mlen
          mnd := g'.mnd
          trk := fun x h => h.elim (g'.trk x) fun z => ⟨.lst xs, by rw [z]; exact hx⟩
          keep := g'.keep
          pre := g'.pre
          bnew := g'.bnew
          base := fun x h => .inl (g'.base x h)
          opn := fun x h => h.elim (g'.opn x) fun z => by rw [z]; exact a.gd.opn _ p1
          fo := g'.fo }
/-- an own list changes -/
theorem At.putOwn (a : At K F G ρ τ σ H) {i : Nat} {ds es : List D} {ys : List V} (hs : ρ[i]? = some (.own ds)) (r : RepA K G.O H es ys) : At K F G (ρ.set i (.own es)) τ σ (upd H (G.ow i) (.lst ys)) ∧ Kp G.O H G.O (upd H (G.ow i) (.lst ys)) := by
  obtain ⟨p1, p2, p3⟩ := a.sl.ops i _ hs rfl
  have hi : i < ρ.length := (List.getElem?_eq_some_iff.mp hs).1
  have k : Kp G.O H G.O (upd H (G.ow i) (.lst ys)) := by
    refine ⟨fun x u h n => ?_, fun x h => .inl h, fun x h => ?_⟩
    · have : x ≠ G.ow i := fun z => n (z ▸ p1)
      rw [upd_ne this]; exact h
    · by_cases e : x = G.ow i
      · rw [e, upd_same]; simp
      · rw [upd_ne e]; exact h
  refine ⟨⟨?_, ?_⟩, k⟩
  · exact { mu := fun n ds e => by
              obtain ⟨x, xs, h1, h2, h3⟩ := a.gd.mu n ds e
              have : x ≠ G.ow i := fun z => p2 (z ▸ List.mem_of_getElem? h1)
              exact ⟨x, xs, h1, by rw [upd_ne this]; exact h2, RepA.kp k _ _ h3⟩
            plain := a.gd.plain
            mo := a.gd.mo
            mlen := a.gd.mlen
            mnd := a.gd.mnd
            trk := fun x h => by
              by_cases e : x = G.ow i
              · exact ⟨_, by rw [e]; exact upd_same⟩
              · rw [upd_ne e]; exact a.gd.trk x h
            keep := fun x u e n => by
              have : x ≠ G.ow i := fun z => by rw [z, p3] at e; cases e
              rw [upd_ne this]; exact a.gd.keep x u e n
            pre := a.gd.pre
            bnew := a.gd.bnew
            base := a.gd.base
            opn := a.gd.opn
            fo := a.gd.fo }
  · have old : ∀ (j : Nat) (s : Slot), (ρ.set i (.own es))[j]? = some s → s.isOwn = true → ∃ s', ρ[j]? = some s' ∧ s'.isOwn = true := fun j s e h => by
      by_cases hj : j = i
      · subst hj; exact ⟨_, hs, rfl⟩
      · rw [List.getElem?_set_ne (Ne.symm hj)] at e
        exact ⟨s, e, h⟩
    refine ⟨by rw [List.length_set]; exact a.sl.len, fun j t e => ?_, fun j j' t t' e e' h h' z => ?_, fun j t e h => ?_⟩
    · by_cases hj : j = i
      · subst hj
        rw [List.getElem?_set_self hi] at e
        cases e
        obtain ⟨o, h1, h2, xs, q1, q2⟩ := a.sl.sl j _ hs
        exact ⟨o, h1, h2, ys, upd_same, RepA.kp k _ _ r⟩
      · rw [List.getElem?_set_ne (Ne.symm hj)] at e
        obtain ⟨u, h1, h2⟩ := a.sl.sl j t e
        refine ⟨u, h1, ?_⟩
        cases t with
        | emp => trivial
        | val d => obtain ⟨v, e, r⟩ := h2; exact ⟨v, e, Rep.kp k _ _ r⟩
        | own ds' =>
          obtain ⟨e2, xs, h1, h2⟩ := h2
          have n : G.ow j ≠ G.ow i := fun z => hj (a.sl.inj j i _ _ e hs rfl rfl z)
          exact ⟨e2, xs, by rw [upd_ne n]; exact h1, RepA.kp k _ _ h2⟩
        | ownd ds' =>
          obtain ⟨e2, xs, h1, h2⟩ := h2
          have n : G.ow j ≠ G.ow i := fun z => hj (a.sl.inj j i _ _ e hs rfl rfl z)
          exact ⟨e2, xs, by rw [upd_ne n]; exact h1, RepK.kp k _ _ h2⟩
        | mu n => exact h2
        | bad => exact h2
    · obtain ⟨s, e1, o1⟩ := old j t e h
      obtain ⟨s', e2, o2⟩ := old j' t' e' h'
      exact a.sl.inj j j' s s' e1 e2 o1 o2 z
    · obtain ⟨s, e1, o1⟩ := old j t e h
      exact a.sl.ops j s e1 o1
/-- a list by reference changes -/
theorem At.putMu (a : At K F G ρ τ σ H) {n : Nat} {p : Addr} {es : List D} {ys : List V} (hp : G.al[n]? = some p) (r : RepA K G.O H es ys) (pl : es.all okT = true) : At K F G ρ (τ.set n es) σ (upd H p (.lst ys)) ∧ Kp G.O H G.O (upd H p (.lst ys)) := by
  have pm : p ∈ G.al := List.mem_of_getElem? hp
  have p1 := a.gd.mo p pm
  have hn : n < τ.length := by rw [← a.gd.mlen]; exact (List.getElem?_eq_some_iff.mp hp).1
  have k : Kp G.O H G.O (upd H p (.lst ys)) := by
    refine ⟨fun x u h n => ?_, fun x h => .inl h, fun x h => ?_⟩
    · have : x ≠ p := fun z => n (z ▸ p1)
      rw [upd_ne this]; exact h
    · by_cases e : x = p
      · rw [e, upd_same]; simp
      · rw [upd_ne e]; exact h
  refine ⟨⟨?_, ?_⟩, k⟩
  · exact { mu := fun m ds e => by
              by_cases hm : m = n
              · subst hm
                rw [List.getElem?_set_self hn] at e
                cases e
                exact ⟨p, ys, hp, upd_same, RepA.kp k _ _ r⟩
              · rw [List.getElem?_set_ne (Ne.symm hm)] at e
                obtain ⟨x, xs, h1, h2, h3⟩ := a.gd.mu m ds e
                have : x ≠ p := fun z => by
                  subst z
                  obtain ⟨l1, e1⟩ := List.getElem?_eq_some_iff.mp h1
                  obtain ⟨l2, e2⟩ := List.getElem?_eq_some_iff.mp hp
                  exact hm ((List.getElem_inj a.gd.mnd).mp (e1.trans e2.symm))
                exact ⟨x, xs, h1, by rw [upd_ne this]; exact h2, RepA.kp k _ _ h3⟩
            plain := fun ds m => by
              rcases List.mem_or_eq_of_mem_set m with z | z
              · exact a.gd.plain ds z
              · rw [z]; exact pl
            mo := a.gd.mo
            mlen := by rw [List.length_set]; exact a.gd.mlen
            mnd := a.gd.mnd
            trk := fun x h => by
              by_cases e : x = p
              · exact ⟨_, by rw [e]; exact upd_same⟩
              · rw [upd_ne e]; exact a.gd.trk x h
            keep := fun x u e m => by
              have : x ≠ p := fun z => by
                subst z
                rcases a.gd.bnew x pm with z | z
                · exact m z
                · rw [z] at e; cases e
              rw [upd_ne this]; exact a.gd.keep x u e m
            pre := a.gd.pre
            bnew := a.gd.bnew
            base := a.gd.base
            opn := a.gd.opn
            fo := a.gd.fo }
  · refine ⟨a.sl.len, fun j t e => ?_, a.sl.inj, a.sl.ops⟩
    obtain ⟨u, h1, h2⟩ := a.sl.sl j t e
    refine ⟨u, h1, ?_⟩
    cases t with
    | emp => trivial
    | val d => obtain ⟨v, e, r⟩ := h2; exact ⟨v, e, Rep.kp k _ _ r⟩
    | own ds' =>
      obtain ⟨e2, xs, h1, h2⟩ := h2
      have n : G.ow j ≠ p := fun z => (a.sl.ops j _ e rfl).2.1 (z ▸ pm)
      exact ⟨e2, xs, by rw [upd_ne n]; exact h1, RepA.kp k _ _ h2⟩
    | ownd ds' =>
      obtain ⟨e2, xs, h1, h2⟩ := h2
      have n : G.ow j ≠ p := fun z => (a.sl.ops j _ e rfl).2.1 (z ▸ pm)
      exact ⟨e2, xs, by rw [upd_ne n]; exact h1, RepK.kp k _ _ h2⟩
    | mu n => exact h2
    | bad => exact h2
/-- an open list becomes one by reference -/
theorem At.newMu (a : At K F G ρ τ σ H) {q : Addr} {ds : List D} {xs : List V} {i : Nat} (h1 : H q = some (.lst xs)) (h2 : RepA K G.O H ds xs) (h3 : G.O q) (h4 : q ∉ G.al) (h5 : F.B q = none) (pl : ds.all okT = true)
    (h6 : ∀ (j : Nat) (s : Slot), ρ[j]? = some s → s.isOwn = true → G.ow j ≠ q) : At K F ⟨G.O, G.al ++ [q], G.ow⟩ (ρ.set i (.mu τ.length)) (τ ++ [ds]) (σ.set i (some (.ref q))) H := by
  refine ⟨?_, ?_⟩
  · exact { mu := fun n es e => by
              by_cases hn : n < τ.length
              · rw [List.getElem?_append_left hn] at e
                obtain ⟨x, ys, g1, g2, g3⟩ := a.gd.mu n es e
                exact ⟨x, ys, by rw [List.getElem?_append_left (by rw [a.gd.mlen]; exact hn)]; exact g1, g2, g3⟩
              · rw [List.getElem?_append_right (by omega)] at e
                have : n - τ.length = 0 := by
                  cases hk : n - τ.length with
                  | zero => rfl
                  | succ k => rw [hk] at e; simp at e
                rw [this] at e
                simp at e
                subst e
                exact ⟨q, xs, by rw [List.getElem?_append_right (by rw [a.gd.mlen]; omega), a.gd.mlen, this]; rfl, h1, h2⟩
            plain := fun es m => by
              rcases List.mem_append.mp m with z | z
              · exact a.gd.plain es z
              · rw [List.mem_singleton.mp z]; exact pl
            mo := fun x m => by
              rcases List.mem_append.mp m with z | z
              · exact a.gd.mo x z
              · rw [List.mem_singleton.mp z]; exact h3
            mlen := by rw [List.length_append, List.length_append, a.gd.mlen]; rfl
            mnd := by
              rw [List.nodup_append]
              refine ⟨a.gd.mnd, by simp, fun x m y m' z => ?_⟩
              rw [List.mem_singleton.mp m'] at z
              exact h4 (z ▸ m)
            trk := a.gd.trk
            keep := a.gd.keep
            pre := by
              obtain ⟨s, hs⟩ := a.gd.pre
              exact ⟨s ++ [q], by show G.al ++ [q] = _; rw [hs, List.append_assoc]⟩
            bnew := fun x m => by
              rcases List.mem_append.mp m with z | z
              · exact a.gd.bnew x z
              · rw [List.mem_singleton.mp z]; exact .inr h5
            base := a.gd.base
            opn := a.gd.opn
            fo := a.gd.fo }
  · have other : ∀ (j : Nat) (s : Slot), s.isOwn = true → (ρ.set i (.mu τ.length))[j]? = some s → ρ[j]? = some s := fun j s h e => by
      by_cases hj : j = i
      · subst hj
        have hi : j < ρ.length := by
          have := (List.getElem?_eq_some_iff.mp e).1
          simpa using this
        rw [List.getElem?_set_self hi] at e
        cases e; cases h
      · rw [List.getElem?_set_ne (Ne.symm hj)] at e
        exact e
    refine ⟨by rw [List.length_set, List.length_set]; exact a.sl.len, fun j t e => ?_, fun j j' t t' e e' h h' z => a.sl.inj j j' t t' (other j t h e) (other j' t' h' e') h h' z, fun j t e h => ?_⟩
    · by_cases hj : j = i
      · subst hj
        have hi : j < ρ.length := by
          have := (List.getElem?_eq_some_iff.mp e).1
          simpa using this
        rw [List.getElem?_set_self hi] at e
        cases e
        exact ⟨_, List.getElem?_set_self (by rw [a.sl.len]; exact hi), q, rfl, by show (G.al ++ [q])[τ.length]? = _; rw [← a.gd.mlen]; simp⟩
      · rw [List.getElem?_set_ne (Ne.symm hj)] at e
        obtain ⟨u, g1, g2⟩ := a.sl.sl j t e
        refine ⟨u, by rw [List.getElem?_set_ne (Ne.symm hj)]; exact g1, ?_⟩
        cases t with
        | emp => trivial
        | val d => exact g2
        | own ds' => exact g2
        | ownd ds' => exact g2
        | mu n =>
          obtain ⟨b, z1, z2⟩ := g2
          exact ⟨b, z1, by show (G.al ++ [q])[n]? = _; rw [List.getElem?_append_left (List.getElem?_eq_some_iff.mp z2).1]; exact z2⟩
        | bad => exact g2
    · obtain ⟨q1, q2, q3⟩ := a.sl.ops j t (other j t h e) h
      refine ⟨q1, fun m => ?_, q3⟩
      rcases List.mem_append.mp m with z | z
      · exact q2 z
      · exact h6 j t (other j t h e) h (List.mem_singleton.mp z)
end
section
variable {X : Cx} {W : WX} {e a b c : Expr} {ρ : List Slot} {pos p p2 : Pos} {x : Str} {i n : Nat} {ds : List D}
/-- with an own list lent -/
theorem ev_bor {m : M D} (hs : ρ[i]? = some (.own ds)) (he : EV X W e (ρ.set i (.val (.list ds))) m) (hW : W = W0 ∨ ∀ cls σ σ' H, W cls none σ H → W cls none σ' H := by exact Or.inl rfl) : EV X W e ρ (bd m nl) := by
  refine pe_mono he fun σ H Q _ h => ?_
  obtain ⟨F, G, τ, at_, q⟩ := h
  refine ⟨F, _, τ, at_.lend hs, wp_of q (fun d τ1 z v H1 G1 a1 k1 r1 => ?_) fun er τ1 z => ?_⟩
  · obtain ⟨a2, k2, xs, hx⟩ := at_.back hs a1.gd k1
    unfold nl at z
    split at z
    · rename_i hn
      exact wp_pu.mp z v H1 _ a2 k2 (Rep.more hx d v hn r1)
    · exact (wp_no.mp z).elim
  · obtain ⟨C, hC, h2⟩ := z
    refine ⟨C, hC, fun H1 G1 a1 k1 => ?_⟩
    obtain ⟨a2, k2, xs, hx⟩ := at_.back hs a1.gd k1
    exact h2 H1 _ a2 k2
theorem et_bor {m : M Bool} (hs : ρ[i]? = some (.own ds)) (he : ET X W e (ρ.set i (.val (.list ds))) m) : ET X W e ρ m := by
  refine pt_mono he fun σ H Q _ h => ?_
  obtain ⟨F, G, τ, at_, q⟩ := h
  refine ⟨F, _, τ, at_.lend hs, Rs.wp_mono q (fun d τ1 z H1 G1 a1 k1 => ?_) fun er τ1 z => ?_⟩
  · obtain ⟨a2, k2, xs, hx⟩ := at_.back hs a1.gd k1
    exact z H1 _ a2 k2
  · obtain ⟨C, hC, h2⟩ := z
    refine ⟨C, hC, fun H1 G1 a1 k1 => ?_⟩
    obtain ⟨a2, k2, xs, hx⟩ := at_.back hs a1.gd k1
    exact h2 H1 _ a2 k2
/-- t[e], t a list by reference -/
theorem ev_mui {m : M D} (hs : ρ[i]? = some (.mu n)) (he : EV X W b ρ m) (hN : X.N[i]? = some x := by rfl) (hv : Vis X.env.scope x := by first | exact Or.inl rfl | exact Or.inr (Or.inl rfl) | exact Or.inr (Or.inr rfl))
    (hd : (x == ("__debug__" : Str)) = false := by decide) (hcd : (x == ("__classdict__" : Str)) = false := by decide) (hp : PlainIx b := by intro _ _; rfl) :
    EV X W (.Subscript (.Name x p) b pos) ρ (bd m fun y => bd (mget n) fun ds => li (dIdx (.list ds) y)) := by
  refine pe_mono (pe_ix ix_list (pe_var hN hv hd hcd) he hp) fun σ H Q _ h => ?_
  obtain ⟨F, G, τ, at_, q⟩ := h
  obtain ⟨o, e1, a, e2, e3⟩ := at_.sl.sl i _ hs
  refine ⟨.ref a, by rw [e1, e2], F, G, τ, at_, wp_of q (fun d τ1 z v H1 G1 a1 k1 r1 => ?_) fun _ _ z => z⟩
  obtain ⟨o', e1', a', e2', e3'⟩ := a1.sl.sl i _ hs
  have ea : a' = a := by
    rw [e1] at e1'
    have z := Option.some.inj e1'
    rw [e2, e2'] at z
    exact (V.ref.inj (Option.some.inj z)).symm
  subst ea
  have z2 := wp_bd.mp z
  unfold mget at z2
  split at z2
  · rename_i ds hds
    obtain ⟨d', e', z3⟩ := wp_li (wp_ok.mp z2)
    obtain ⟨a2, xs, g1, g2, g3⟩ := a1.gd.mu n ds hds
    rw [e3'] at g1
    cases g1
    cases d with
    | int k =>
      have e2 : atI ds k = some d' := e'
      cases r1
      obtain ⟨w, w1, w2⟩ := atI_rep g3 e2
      exact ⟨_, xs, _, w, rfl, rfl, SqL.of g2, w1, z3 w H1 G1 a1 k1 w2⟩
    | none => cases e'
    | bool b => cases e'
    | str b => cases e'
    | list b => cases e'
    | tuple b => cases e'
    | dict b => cases e'
  · exact (wp_no.mp z2).elim
end
end DL


set_option maxRecDepth 100000
set_option maxHeartbeats 2000000
namespace DL
open PySem PySem.Spec PyProof.Rows L2

@[reducible] def k2 {α : Type} (k : D → D → M α) : List D → M α
  | [x, y] => k x y
  | _ => no
section
variable {X : Cx} {W : WX} {e a b c : Expr} {ρ : List Slot} {pos p p2 : Pos} {x : Str} {i n : Nat} {ds : List D} {ow : Bool} {rest : List Stmt} {S L S1 : Type} {eS : S → List Slot} {eL : L → List Slot} {eS1 : S1 → List Slot}
/-- blocks that hang on data -/
theorem es_ex {α : Type} {sts : List Stmt} {ρ : α → List Slot} {m : α → M (Fl S L)} (h : ∀ d, ES X W ow sts eS eL (ρ d) (m d)) : PSs X sts (fun N σ H => ∃ d, tS X.K X.mg W ow eS eL (ρ d) (m d) N σ H) :=
  ⟨fun pins s σ H D I ⟨d, q⟩ => PSs.run (h d) pins s σ H D I q⟩
/-- y = [..] on one line, y's own from now on -/
theorem es_ownLc {y : Str} {py : Pos} {elt tg iter : Expr} {ifs : List Expr} {scope : Scope} {own : List (Str × Nat)} {spos : Pos} {g : TG} {u : D → Option (List D)} {mi : M (List D)} {mt : List D → M Bool} {me : List D → M D} {k : List D → M (Fl S L)} (i : Nat) (hc : X.calm = true) (hN : X.N.Nodup)
    (hi : EI X W0 tg iter ρ mi) (ok : BlkOk X.N X.env.scope scope own)
    (hok : TgOk X.K g u (own.map (·.2))) (hg : ∀ (s : Shared) (H : Hp) (C : Addr) (cl : List (Str × Addr)) (fp : List Addr), PG (X.blk s H scope (compEnvC scope cl C X.env) fp) tg g)
    (ht : ∀ (xs : List D) (s : Shared) (H : Hp) (C : Addr) (cl : List (Str × Addr)) (fp : List Addr), PTs (X.blk s H scope (compEnvC scope cl C X.env) fp) ifs (tT X.K X.mg W0 (sets (wps ρ (own.map (·.2))) (own.map (·.2)) xs) (mt xs)))
    (he : ∀ (xs : List D) (s : Shared) (H : Hp) (C : Addr) (cl : List (Str × Addr)) (fp : List Addr), EV (X.blk s H scope (compEnvC scope cl C X.env) fp) W0 elt (sets (wps ρ (own.map (·.2))) (own.map (·.2)) xs) (me xs))
    (hr : ∀ ds, ES X W0 ow rest eS eL (ρ.set i (.own ds)) (k ds)) (hy : X.N[i]? = some y := by rfl) (hyl : X.env.scope.names.lookup y = some .local := by rfl)
    (hsw : swapsWith (.ListComp elt [⟨tg, iter, ifs, 0⟩] scope pos) (some (.Name y py)) spos.line X.env = pure true := by exact sw_true rfl rfl rfl rfl) (hs : ∀ x, foldedSetIterable iter X.env x = pure x := by intro _; rfl) :
    ES X W0 ow (.Assign [.Name y py] (.ListComp elt [⟨tg, iter, ifs, 0⟩] scope pos) spos :: rest) eS eL ρ (bd (bd mi fun ds => mf ds (fun d => bd (li (u d)) mt) (fun d => bd (li (u d)) me)) k) := by
  have he' : ∀ (s : Shared) (H : Hp) (C : Addr) (cl : List (Str × Addr)) (fp : List Addr), PE (X.blk s H scope (compEnvC scope cl C X.env) fp) elt (fun σ H Q => ∃ xs, tE X.K X.mg W0 (sets (wps ρ (own.map (·.2))) (own.map (·.2)) xs) (me xs) σ H Q) :=
    fun s H C cl fp => ⟨fun pins s' σ H' Q I ⟨xs, q⟩ => PE.run (he xs s H C cl fp) pins s' σ H' Q I q⟩
  refine pss_mono (pss_cons (ps_setLc hc hN hy hyl hsw hi ok hg (fun s H C cl fp => pts_ex fun xs => ht xs s H C cl fp) he' hs) (es_ex hr)) fun N σ H _ h => ?_
  unfold tSeq tAsg
  refine lc_read hok ?_
  obtain ⟨F, G, τ, a, q⟩ := h
  exact ⟨F, G, τ, a, wp_of q (fun d τ1 z p xs H1 G1 a1 k1 h1 r1 o1 n1 b1 => ⟨d, F, _, τ1, a1.setOwn h1 r1 o1 n1 (a.gd.bnone b1) (fun j s e h => by rw [k1.ow]; exact a.ow_ne b1 e h), Rs.wp_mono z (fun f τ' z => FlP.kp k1.p z) fun _ _ z => z⟩) fun _ _ z => z.ex⟩
/-- the reading of a join -/
theorem sq_read {K : PySem.W.Frag} {mg : Str → Option Value} {F : Fm} {N : Ends} {G : Gh} {H : Hp} {k : S1 → M (Fl S L)} {f : Fl S1 L} {τ : T}
    (h : (sqk k f τ).wp (FlP K F ow eS eL N G H) (FlE K mg W F)) :
    FlP K F ow eS1 eL { N with nx := fun σ H => ∃ s, tS K mg W ow eS eL (eS1 s) (k s) N σ H } G H f τ := by
  cases f with
  | nx s => exact fun σ' H' G' a' k' => ⟨s, F, G', τ, a', Rs.wp_mono h (fun f τ' z => FlP.kp k' z) fun _ _ z => z⟩
  | bk l =>
    have z := wp_pu.mp (show (pu (Fl.bk l) τ).wp _ _ from h)
    exact z
  | ct l =>
    have z := wp_pu.mp (show (pu (Fl.ct l) τ).wp _ _ from h)
    exact z
  | rt d =>
    have z := wp_pu.mp (show (pu (Fl.rt d) τ).wp _ _ from h)
    exact z
/-- if .. else .., then the rest -/
theorem es_if {sa sb : List Stmt} {mc : M Bool} {mA mB : M (Fl S1 L)} {k : S1 → M (Fl S L)} (hc : ET X W c ρ mc) (ha : ES X W ow sa eS1 eL ρ mA) (hb : ES X W ow sb eS1 eL ρ mB) (hr : ∀ s, ES X W ow rest eS eL (eS1 s) (k s)) :
    ES X W ow (.If c sa sb pos :: rest) eS eL ρ (sq (bd mc fun b => if b then mA else mB) k) := by
  refine pss_mono (pss_cons (ps_if hc ha hb) (es_ex hr)) fun N σ H _ ⟨F, G, τ, a, q⟩ => ?_
  have q1 := wp_bd.mp (wp_bd.mp q)
  refine ⟨F, G, τ, a, Rs.wp_mono q1 (fun b τ1 z H1 G1 a1 k1 => ?_) fun _ _ z => z.ex⟩
  cases b with
  | true => exact ⟨F, G1, τ1, a1, Rs.wp_mono z (fun f τ2 z => FlP.kp k1.p (sq_read z)) fun _ _ z => z⟩
  | false => exact ⟨F, G1, τ1, a1, Rs.wp_mono z (fun f τ2 z => FlP.kp k1.p (sq_read z)) fun _ _ z => z⟩
/-- if whose block never goes on -/
theorem es_ifx {sa : List Stmt} {mc : M Bool} {mA mR : M (Fl S L)} (hc : ET X W c ρ mc) (ha : ES X W ow sa (fun _ : S => [.bad]) eL ρ mA) (hr : ES X W ow rest eS eL ρ mR) :
    ES X W ow (.If c sa [] pos :: rest) eS eL ρ (bd mc fun b => if b then mA else mR) := by
  refine pss_mono (pss_cons (ps_if hc ha pss_nil) hr) fun N σ H _ ⟨F, G, τ, a, q⟩ => ?_
  refine ⟨F, G, τ, a, Rs.wp_mono (wp_bd.mp q) (fun b τ1 z H1 G1 a1 k1 => ?_) fun _ _ z => z.ex⟩
  cases b with
  | false => exact ⟨F, G1, τ1, a1, Rs.wp_mono z (fun f τ2 z => FlP.kp k1.p z) fun _ _ z => z⟩
  | true =>
    refine ⟨F, G1, τ1, a1, Rs.wp_mono z (fun f τ2 z => FlP.kp k1.p ?_) fun _ _ z => z⟩
    cases f with
    | nx s =>
      intro σ' H' G' a' k'
      obtain ⟨o, _, h⟩ := a'.sl.sl 0 .bad rfl
      exact h.elim
    | bk l => exact z
    | ct l => exact z
    | rt d => exact z
/-- .. both never -/
theorem es_ifxx {sa sb : List Stmt} {mc : M Bool} {mA mB : M (Fl S L)} (hc : ET X W c ρ mc) (ha : ES X W ow sa (fun _ : S => [.bad]) eL ρ mA) (hb : ES X W ow sb (fun _ : S => [.bad]) eL ρ mB) :
    ES X W ow (.If c sa sb pos :: rest) eS eL ρ (bd mc fun b => if b then mA else mB) := by
  refine pss_mono (pss_cons (ps_if hc ha hb) pss_never) fun N σ H _ ⟨F, G, τ, a, q⟩ => ?_
  refine ⟨F, G, τ, a, Rs.wp_mono (wp_bd.mp q) (fun b τ1 z H1 G1 a1 k1 => ?_) fun _ _ z => z.ex⟩
  have bad : ∀ f τ2, FlP X.K F ow eS eL N G H f τ2 → FlP X.K F ow (fun _ : S => [.bad]) eL { N with nx := tNever N } G H f τ2 := fun f τ2 z => by
    cases f with
    | nx s =>
      intro σ' H' G' a' k'
      obtain ⟨o, _, h⟩ := a'.sl.sl 0 .bad rfl
      exact h.elim
    | bk l => exact z
    | ct l => exact z
    | rt d => exact z
  cases b with
  | false => exact ⟨F, G1, τ1, a1, Rs.wp_mono z (fun f τ2 z => FlP.kp k1.p (bad f τ2 z)) fun _ _ z => z⟩
  | true => exact ⟨F, G1, τ1, a1, Rs.wp_mono z (fun f τ2 z => FlP.kp k1.p (bad f τ2 z)) fun _ _ z => z⟩
/-- a, b = e -/
theorem es_tup {tg : Expr} {g : TG} {u : D → Option (List D)} {is : List Nat} {m : M D} {k : List D → M (Fl S L)} (hg : GT X tg g u is) (he : EV X W e ρ m) (hr : ∀ xs, ES X W ow rest eS eL (sets ρ is xs) (k xs))
    (hs : swapsWithSole [tg] e pos.line X.env = pure false := by rfl) (hw : swappedStores [tg] e X.env = pure none := by rfl) (h1 : (assignEach [tg] X.env).map (·.2) = [assign tg X.env] := by rfl) :
    ES X W ow (.Assign [tg] e pos :: rest) eS eL ρ (bd m fun d => bd (li (u d)) k) := by
  refine pss_mono (pss_cons (ps_asg he hg.pg hs hw h1) (es_ex hr)) fun N σ H _ ⟨F, G, τ, a, q⟩ => ?_
  refine ⟨F, G, τ, a, wp_of q (fun d τ1 z v H1 G1 a1 k1 r1 => ?_) fun _ _ z => z.ex⟩
  obtain ⟨xs, hu, z⟩ := wp_li (wp_bd.mp z)
  exact hg.ok G1.O H1 d v xs σ _ r1 hu fun vs rv => ⟨xs, F, G1, τ1, ⟨a1.gd, a1.sl.setVals rv⟩, Rs.wp_mono z (fun f τ' z => FlP.kp k1.p z) fun _ _ z => z⟩
/-- x, y = a, b -/
theorem es_par {i j : Nat} {x y : Str} {px py pt : Pos} {kt n2 pt2} {c : CL D} {k : D → D → M (Fl S L)} (hc : X.calm = true) (hN : X.N.Nodup) (ha : EL X W [a, b] ρ c) (hr : ∀ d d', ES X W ow rest eS eL ((ρ.set i (.val d)).set j (.val d')) (k d d')) (hi : X.N[i]? = some x := by rfl) (hj : X.N[j]? = some y := by rfl) (hij : i ≠ j := by decide)
    (hx : X.env.scope.names.lookup x = some .local := by rfl) (hy : X.env.scope.names.lookup y = some .local := by rfl)
    (hw : swappedStores [.Tuple [.Name x px, .Name y py] kt pt] (.Tuple [a, b] n2 pt2) X.env = pure (some [x, y]) := by rfl)
    (hs : swapsWithSole [.Tuple [.Name x px, .Name y py] kt pt] (.Tuple [a, b] n2 pt2) pos.line X.env = pure false := by rfl) :
    ES X W ow (.Assign [.Tuple [.Name x px, .Name y py] kt pt] (.Tuple [a, b] n2 pt2) pos :: rest) eS eL ρ (c _ (k2 k)) := by
  have hr' : PSs X rest (fun N σ H => ∃ d : D × D, tS X.K X.mg W ow eS eL ((ρ.set i (.val d.1)).set j (.val d.2)) (k d.1 d.2) N σ H) := es_ex fun d => hr d.1 d.2
  refine pss_mono (pss_cons (ps_par hc hN hi hj hij hx hy ha hw hs) hr') fun N σ H _ ⟨F, G, τ, a, q⟩ => ?_
  refine ⟨F, G, τ, _, _, _, _, a, q, fun e τ' z => FlE.ex z, fun vs H1 G1 τ1 ds a1 k1 r1 hl z => ?_⟩
  rcases ds with _ | ⟨d1, _ | ⟨d2, _ | ⟨d3, r⟩⟩⟩
  · cases hl
  · cases hl
  · obtain ⟨v, r', rfl, q1, w, r'', rfl, q2, q3⟩ := r1
    have q3 : r'' = [] := q3
    subst q3
    exact ⟨v, w, rfl, (d1, d2), F, G1, τ1, ⟨a1.gd, (a1.sl.setVal q1).setVal q2⟩, Rs.wp_mono z (fun f τ' z => FlP.kp k1.p z) fun _ _ z => z⟩
  · cases hl
end
section
variable {X : Cx} {W : WX} {e a b c : Expr} {ρ : List Slot} {pos p p2 : Pos} {x : Str} {i n : Nat} {ds : List D} {ow : Bool} {rest : List Stmt} {S L S1 : Type} {eS : S → List Slot} {eL : L → List Slot} {eS1 : S1 → List Slot}
/-- for -/
theorem es_for {tg iter : Expr} {body : List Stmt} {g : TG} {u : D → Option (List D)} {is : List Nat} {mi : M (List D)} {mb : S1 → List D → M (Fl S1 S1)} {k : S1 → M (Fl S L)} (hp : PassesOwn (model X.prog X.w) X.A X.env X.xe) (hc : X.calm = true) (s0 : S1) (hi : EI X W tg iter ρ mi) (hg : GT X tg g u is)
    (hb : ∀ s xs, ES X W ow body eS1 eS1 (sets (eS1 s) is xs) (mb s xs)) (hr : ∀ s, ES X W ow rest eS eL (eS1 s) (k s)) (w : Wk ρ (eS1 s0) := by exact ⟨⟩) (hs : ∀ x, foldedSetIterable iter X.env x = pure x := by intro _; rfl) :
    ES X W ow (.For tg iter body [] pos :: rest) eS eL ρ (sq (bd mi fun ds => fo (fun s d => bd (li (u d)) (mb s)) ds s0) k) := by
  have hb' : PSs X body (fun N σ H => ∃ d : S1 × List D, tS X.K X.mg W ow eS1 eS1 (sets (eS1 d.1) is d.2) (mb d.1 d.2) N σ H) := es_ex fun d => hb d.1 d.2
  refine pss_mono (pss_cons (ps_for hp hc hi hg.pg hb' hs) (es_ex hr)) fun N σ H _ ⟨F, G, τ, a, q⟩ => ?_
  rw [sq_bd] at q
  refine ⟨F, G, τ, a, wp_of q (fun ds τ1 z J H1 G1 a1 k1 it hz => ?_) fun _ _ z => z.ex⟩
  obtain ⟨G2, a2, k2⟩ := a1.wk w
  refine ⟨fun i m σ' H' => m = ds.length - i ∧ i ≤ ds.length ∧ ∃ (G' : Gh) (τ' : T) (s : S1), At X.K F G' (eS1 s) τ' σ' H' ∧ Kp G1.O H1 G'.O H' ∧
    (sq (fo (fun s d => bd (li (u d)) (mb s)) (ds.drop i) s) k τ').wp (FlP X.K F ow eS eL N G H) (FlE X.K X.mg W F), ⟨ds.length, by simp, Nat.zero_le _, G2, τ1, s0, a2, k2, z⟩, ?_⟩
  rintro i m σ' H' ⟨rfl, hi, G', τ', s, a', k', wp⟩
  by_cases hlt : i < ds.length
  · refine .inr ⟨it.go i G'.O H' k' hlt, fun σ'' H'' => ∃ m', m' = ds.length - (i + 1) ∧ (i + 1) ≤ ds.length ∧ ∃ (G' : Gh) (τ' : T) (s : S1), At X.K F G' (eS1 s) τ' σ'' H'' ∧ Kp G1.O H1 G'.O H'' ∧
      (sq (fo (fun s d => bd (li (u d)) (mb s)) (ds.drop (i + 1)) s) k τ').wp (FlP X.K F ow eS eL N G H) (FlE X.K X.mg W F), fun σ'' H'' ⟨m', e, r⟩ => ⟨m', by omega, e, r⟩, ?_⟩
    intro x H'' y
    obtain ⟨sm, d, hd, rd⟩ := it.yld i G'.O H' x H'' k' (fun p hp => a'.gd.nopen hp) hlt y
    have a'' := a'.same sm
    have k'' : Kp G1.O H1 G'.O H'' := k'.trans (Kp.same sm)
    have hdrop : ds.drop i = d :: ds.drop (i + 1) := by
      rw [List.drop_eq_getElem_cons hlt]
      congr 1
      rw [List.getElem?_eq_getElem hlt] at hd
      exact Option.some.inj hd
    rw [hdrop, fo, sq_bd, bd_bd] at wp
    obtain ⟨xs, hu, wp⟩ := wp_li (wp_bd.mp wp)
    refine hg.ok G'.O H'' d x xs σ' _ rd hu fun vs rv => ⟨(s, xs), F, G', τ', ⟨a''.gd, a''.sl.setVals rv⟩, Rs.wp_mono (wp_bd.mp wp) (fun f τ2 z2 => ?_) fun _ _ z => z⟩
    cases f with
    | nx s' => exact fun σ3 H3 G3 a3 k3 => ⟨_, rfl, hlt, G3, τ2, s', a3, k''.trans k3, z2⟩
    | ct s' => exact fun σ3 H3 G3 a3 k3 => ⟨_, rfl, hlt, G3, τ2, s', a3, k''.trans k3, z2⟩
    | bk s' => exact fun σ3 H3 G3 a3 k3 => ⟨s', F, G3, τ2, a3, Rs.wp_mono z2 (fun f τ' z => FlP.kp ((k1.p.trans k'').trans k3) z) fun _ _ z => z⟩
    | rt d =>
      have z2 := wp_pu.mp (show (pu (Fl.rt d) τ2).wp _ _ from z2)
      exact z2
  · have e : i = ds.length := by omega
    subst e
    rw [List.drop_length, fo, sq_nx] at wp
    exact .inl ⟨it.stop G'.O H' k', s, F, G', τ', a', Rs.wp_mono wp (fun f τ' z => FlP.kp (k1.p.trans k') z) fun _ _ z => z⟩
/-- while -/
theorem es_while {body : List Stmt} {mc : S1 → M Bool} {mb : S1 → M (Fl S1 S1)} {k : S1 → M (Fl S L)} (hp : PassesOwn (model X.prog X.w) X.A X.env X.xe) (s0 : S1) (hc : ∀ s, ET X W c (eS1 s) (mc s)) (hb : ∀ s, ES X W ow body eS1 eS1 (eS1 s) (mb s)) (hr : ∀ s, ES X W ow rest eS eL (eS1 s) (k s)) (w : Wk ρ (eS1 s0) := by exact ⟨⟩) :
    ES X W ow (.While c body [] pos :: rest) eS eL ρ (sq (wh mc mb s0) k) := by
  have hc' : PT X c (fun σ H Q => ∃ s, tT X.K X.mg W (eS1 s) (mc s) σ H Q) := ⟨fun pins s σ H Q I ⟨d, q⟩ => PT.run (hc d) pins s σ H Q I q⟩
  refine pss_mono (pss_cons (ps_while hp hc' (es_ex hb)) (es_ex hr)) fun N σ H _ ⟨F, G, τ, a, q⟩ => ?_
  obtain ⟨G2, a2, k2⟩ := a.wk w
  obtain ⟨n, q⟩ := wh_ex (wp_bd.mp q)
  refine ⟨fun m σ' H' => ∃ (G' : Gh) (τ' : T) (s : S1), At X.K F G' (eS1 s) τ' σ' H' ∧ Kp G.O H G'.O H' ∧ (whN (L := L) mc mb m s τ').wp (fun f τ' => (sqk k f τ').wp (FlP X.K F ow eS eL N G H) (FlE X.K X.mg W F)) (FlE X.K X.mg W F), ⟨n, G2, τ, s0, a2, k2, q⟩, ?_⟩
  rintro m σ' H' ⟨G', τ', s, a', k', wp⟩
  cases m with
  | zero => exact (wp_no.mp wp).elim
  | succ m =>
    refine ⟨s, F, G', τ', a', Rs.wp_mono (wp_bd.mp (show (wst mc mb (whN mc mb m) s τ').wp _ _ from wp)) (fun b τ1 z H1 G1 a1 k1 => ?_) fun _ _ z => FlE.ex z⟩
    cases b with
    | false =>
      have z := wp_pu.mp z
      exact ⟨s, F, G1, τ1, a1, Rs.wp_mono z (fun f τ' z => FlP.kp (k'.trans k1.p) z) fun _ _ z => z⟩
    | true =>
      refine ⟨fun σ'' H'' => ∃ (G' : Gh) (τ' : T) (s : S1), At X.K F G' (eS1 s) τ' σ'' H'' ∧ Kp G.O H G'.O H'' ∧ (whN (L := L) mc mb m s τ').wp (fun f τ' => (sqk k f τ').wp (FlP X.K F ow eS eL N G H) (FlE X.K X.mg W F)) (FlE X.K X.mg W F), fun σ'' H'' r => ⟨m, Nat.lt_succ_self m, r⟩, s, F, G1, τ1, a1, Rs.wp_mono (wp_bd.mp z) (fun f τ2 z2 => ?_) fun _ _ z => z⟩
      cases f with
      | nx s' => exact fun σ3 H3 G3 a3 k3 => ⟨G3, τ2, s', a3, (k'.trans k1.p).trans k3, z2⟩
      | ct s' => exact fun σ3 H3 G3 a3 k3 => ⟨G3, τ2, s', a3, (k'.trans k1.p).trans k3, z2⟩
      | bk s' =>
        have z2 := wp_pu.mp z2
        exact fun σ3 H3 G3 a3 k3 => ⟨s', F, G3, τ2, a3, Rs.wp_mono z2 (fun f τ' z => FlP.kp ((k'.trans k1.p).trans k3) z) fun _ _ z => z⟩
      | rt d =>
        have z2 := wp_pu.mp (wp_pu.mp z2)
        exact z2
end
end DL


set_option maxRecDepth 100000
set_option maxHeartbeats 2000000
namespace DL
open PySem PySem.Spec PyProof.Rows L2

section
variable {X : Cx} {W : WX} {e b c v : Expr} {ρ : List Slot} {pos p p2 apos cpos : Pos} {x : Str} {i n : Nat} {ds : List D} {ow : Bool} {rest : List Stmt} {S L S1 : Type} {eS : S → List Slot} {eL : L → List Slot} {eS1 : S1 → List Slot}
/-- a new list made with an own one lent -/
theorem eo_bor {m : M (List D)} (hs : ρ[i]? = some (.own ds)) (he : EO X W e (ρ.set i (.val (.list ds))) m) : EO X W e ρ (bd m fun r => bd (ck (r.all okT)) fun _ => pu r) := by
  refine pe_mono he fun σ H Q _ h => ?_
  obtain ⟨F, G, τ, at_, q⟩ := h
  refine ⟨F, _, τ, at_.lend hs, wp_of q (fun d τ1 z p xs H1 G1 a1 k1 h1 r1 o1 n1 b1 => ?_) fun er τ1 z => ?_⟩
  · obtain ⟨a2, k2, ys, hx⟩ := at_.back hs a1.gd k1
    obtain ⟨hn, z⟩ := wp_ck (wp_bd.mp z)
    exact wp_pu.mp z p xs H1 _ a2 k2 h1 (RepA.moreT hx hn r1) (.inl o1) n1 b1
  · obtain ⟨C, hC, h2⟩ := z
    refine ⟨C, hC, fun H1 G1 a1 k1 => ?_⟩
    obtain ⟨a2, k2, xs, hx⟩ := at_.back hs a1.gd k1
    exact h2 H1 _ a2 k2
/-- x.append(e), x's own list -/
theorem es_app {m : M D} {k : D → M (Fl S L)} (hs : ρ[i]? = some (.own ds)) (he : EV X W e ρ m) (hr : ∀ d, ES X W ow rest eS eL (ρ.set i (.own (ds ++ [d]))) (k d)) (hN : X.N[i]? = some x := by rfl) (hv : Vis X.env.scope x := by first | exact Or.inl rfl | exact Or.inr (Or.inl rfl) | exact Or.inr (Or.inr rfl))
    (hd : (x == ("__debug__" : Str)) = false := by decide) (hcd : (x == ("__classdict__" : Str)) = false := by decide)
    (hbase : attributeBase (.Name x p) "append" X.env (eval (.Name x p) X.env) = eval (.Name x p) X.env := by rfl)
    (hfew : ((backTo cpos (starEach [e] X.env)).all (fun x => !x.1) && (backToKw cpos (keywordEach [] X.env)).all (fun x => x.1.isSome)
      && decide ([e].length + ([] : List Keyword).length + (if ([] : List Keyword).isEmpty then 0 else 1) < 30)) = true := by rfl)
    (hline : (apos.endLine == cpos.line) = true := by rfl) (hst : starEach [e] X.env = [(false, eval e X.env)] := by rfl) (hsw : swapsWith (.Call (.Attribute (.Name x p) "append" apos) [e] [] cpos) none pos.line X.env = pure false := by rfl) :
    ES X W ow (.Expr (.Call (.Attribute (.Name x p) "append" apos) [e] [] cpos) pos :: rest) eS eL ρ (bd m fun d => bd (ck (decide (ds.length < 16777216))) fun _ => k d) := by
  refine pss_mono (pss_cons (ps_expr (pe_bm PySem.F.plainAttrs_list PySem.F.slot_list_append PySem.F.type_list_append mt_append (pe_var hN hv hd hcd) (pa_cons he pa_nil hst) hbase hfew hline hst) hsw) (es_ex hr)) fun N σ H _ ⟨F, G, τ, a, q⟩ => ?_
  obtain ⟨o, h1, e2, xs, q1, q2⟩ := a.sl.sl i _ hs
  obtain ⟨p1, p2, p3⟩ := a.sl.ops i _ hs rfl
  refine ⟨.ref (G.ow i), by rw [h1, e2], .inl ⟨rfl, xs, SqL.of q1⟩, F, G, τ, a, wp_of q (fun d τ1 z v H1 G1 a1 k1 r1 => ?_) fun _ _ z => z.ex⟩
  obtain ⟨hz, z⟩ := wp_ck (wp_bd.mp z)
  have hz := of_decide_eq_true hz
  have hH : H1 (G.ow i) = some (.lst xs) := k1.ks _ _ q1 p2
  have ra := RepA.kp k1.p _ _ q2
  have eo : G1.ow = G.ow := k1.ow
  obtain ⟨a2, k2⟩ := a1.putOwn hs (RepA.append ra (RepA.one r1))
  rw [eo] at a2 k2
  exact ⟨G.ow i, xs, v, rfl, rfl, hH, by rw [q2.length, sizeLine_eq]; exact hz, d, F, G1, τ1, a2, Rs.wp_mono z (fun f τ' z => FlP.kp (k1.p.trans k2) z) fun _ _ z => z⟩
/-- x[b] = v, x's own list -/
theorem es_oset {mv mb : M D} {k : List D → M (Fl S L)} (hs : ρ[i]? = some (.own ds)) (hv : EV X W v ρ mv) (hb : EV X W b ρ mb) (hr : ∀ es, ES X W ow rest eS eL (ρ.set i (.own es)) (k es)) (hN : X.N[i]? = some x := by rfl) (hvi : Vis X.env.scope x := by first | exact Or.inl rfl | exact Or.inr (Or.inl rfl) | exact Or.inr (Or.inr rfl))
    (hd : (x == ("__debug__" : Str)) = false := by decide) (hcd : (x == ("__classdict__" : Str)) = false := by decide)
    (ha : ∀ v, assign (.Subscript (.Name x p) b p2) X.env v = (do
      let ov ← holding [v] (eval (.Name x p) X.env)
      let iv ← holding [v, ov] (eval b X.env)
      standAt p2
      holding [v, ov, iv] (setItem ov iv v)
      release [v, ov, iv] []) := by intro _; rfl) (hsw : swapsWithSole [.Subscript (.Name x p) b p2] v pos.line X.env = pure false := by rfl) (hw : swappedStores [.Subscript (.Name x p) b p2] v X.env = pure none := by rfl)
    (h1 : (assignEach [.Subscript (.Name x p) b p2] X.env).map (·.2) = [assign (.Subscript (.Name x p) b p2) X.env] := by rfl) :
    ES X W ow (.Assign [.Subscript (.Name x p) b p2] v pos :: rest) eS eL ρ (bd mv fun d => bd mb fun j => bd (li (setD ds j d)) k) := by
  refine pss_mono (pss_cons (ps_asg hv (pg_sub (pe_var hN hvi hd hcd) hb set_list ha) hsw hw h1) (es_ex hr)) fun N σ H _ ⟨F, G, τ, a, q⟩ => ?_
  obtain ⟨o, h1, e2, xs, q1, q2⟩ := a.sl.sl i _ hs
  obtain ⟨p1, p2, p3⟩ := a.sl.ops i _ hs rfl
  refine ⟨F, G, τ, a, wp_of q (fun d τ1 z v H1 G1 a1 k1 r1 => ?_) fun _ _ z => z.ex⟩
  refine ⟨_, by rw [h1, e2], F, G1, τ1, a1, wp_of z (fun d2 τ2 z v2 H2 G2 a2 k2 r2 => ?_) fun _ _ z => z.ex⟩
  obtain ⟨es, he, z⟩ := wp_li (wp_bd.mp z)
  have kk := k1.trans k2
  have hH : H2 (G.ow i) = some (.lst xs) := kk.ks _ _ q1 p2
  have ra := RepA.kp kk.p _ _ q2
  have eo : G2.ow = G.ow := kk.ow
  cases d2 with
  | int j0 =>
    have he : (ixN ds.length j0).map (fun j => ds.set j d) = some es := he
    obtain ⟨j, hj, rfl⟩ := Option.map_eq_some_iff.mp he
    cases r2
    obtain ⟨a3, k3⟩ := a2.putOwn hs (RepA.set (i := j) ra (Rep.kp k2.p _ _ r1))
    rw [eo] at a3 k3
    exact ⟨_, xs, j0, j, rfl, rfl, hH, by rw [q2.length]; exact hj, _, F, G2, τ2, a3, Rs.wp_mono z (fun f τ' z => FlP.kp (kk.p.trans k3) z) fun _ _ z => z⟩
  | none => cases he
  | bool b => cases he
  | str b => cases he
  | list b => cases he
  | tuple b => cases he
  | dict b => cases he
/-- x[b] = v, x a list by reference -/
theorem es_mset {mv mb : M D} {k : M (Fl S L)} (hs : ρ[i]? = some (.mu n)) (hv : EV X W v ρ mv) (hb : EV X W b ρ mb) (hr : ES X W ow rest eS eL ρ k) (hN : X.N[i]? = some x := by rfl) (hvi : Vis X.env.scope x := by first | exact Or.inl rfl | exact Or.inr (Or.inl rfl) | exact Or.inr (Or.inr rfl))
    (hd : (x == ("__debug__" : Str)) = false := by decide) (hcd : (x == ("__classdict__" : Str)) = false := by decide)
    (ha : ∀ v, assign (.Subscript (.Name x p) b p2) X.env v = (do
      let ov ← holding [v] (eval (.Name x p) X.env)
      let iv ← holding [v, ov] (eval b X.env)
      standAt p2
      holding [v, ov, iv] (setItem ov iv v)
      release [v, ov, iv] []) := by intro _; rfl) (hsw : swapsWithSole [.Subscript (.Name x p) b p2] v pos.line X.env = pure false := by rfl) (hw : swappedStores [.Subscript (.Name x p) b p2] v X.env = pure none := by rfl)
    (h1 : (assignEach [.Subscript (.Name x p) b p2] X.env).map (·.2) = [assign (.Subscript (.Name x p) b p2) X.env] := by rfl) :
    ES X W ow (.Assign [.Subscript (.Name x p) b p2] v pos :: rest) eS eL ρ (bd mv fun d => bd mb fun j => bd (mget n) fun ds => bd (li (setD ds j d)) fun es => bd (mput n es) fun _ => k) := by
  refine pss_mono (pss_cons (ps_asg hv (pg_sub (pe_var hN hvi hd hcd) hb set_list ha) hsw hw h1) hr) fun N σ H _ ⟨F, G, τ, a, q⟩ => ?_
  obtain ⟨o, h1, ad, e2, e3⟩ := a.sl.sl i _ hs
  refine ⟨F, G, τ, a, wp_of q (fun d τ1 z v H1 G1 a1 k1 r1 => ?_) fun _ _ z => z.ex⟩
  refine ⟨_, by rw [h1, e2], F, G1, τ1, a1, wp_of z (fun d2 τ2 z v2 H2 G2 a2 k2 r2 => ?_) fun _ _ z => z.ex⟩
  obtain ⟨o', h1', ad', e2', e3'⟩ := a2.sl.sl i _ hs
  have ea : ad' = ad := by
    rw [h1] at h1'
    have z := Option.some.inj h1'
    rw [e2, e2'] at z
    exact (V.ref.inj (Option.some.inj z)).symm
  subst ea
  have z := wp_bd.mp z
  unfold mget at z
  split at z
  · rename_i ds hds
    obtain ⟨es, he, z⟩ := wp_li (wp_bd.mp (wp_ok.mp z))
    have z := wp_bd.mp z
    unfold mput at z
    split at z
    · rename_i hpl
      have z := wp_ok.mp z
      obtain ⟨a3, xs, g1, g2, g3⟩ := a2.gd.mu n ds hds
      rw [e3'] at g1
      cases g1
      cases d2 with
      | int j0 =>
        have he : (ixN ds.length j0).map (fun j => ds.set j d) = some es := he
        obtain ⟨j, hj, rfl⟩ := Option.map_eq_some_iff.mp he
        cases r2
        obtain ⟨a4, k4⟩ := a2.putMu e3' (RepA.set (i := j) g3 (Rep.kp k2.p _ _ r1)) hpl
        exact ⟨_, xs, j0, j, rfl, rfl, g2, by rw [g3.length]; exact hj, F, G2, _, a4, Rs.wp_mono z (fun f τ' z => FlP.kp ((k1.p.trans k2.p).trans k4) z) fun _ _ z => z⟩
      | none => cases he
      | bool b => cases he
      | str b => cases he
      | list b => cases he
      | tuple b => cases he
      | dict b => cases he
    · exact (wp_no.mp z).elim
  · exact (wp_no.mp z).elim
/-- x = a new list, by reference from now on -/
theorem es_newmu {m : M (List D)} {k : Nat → M (Fl S L)} (i : Nat) {pos' : Pos} (hN : X.N.Nodup) (he : EO X W e ρ m) (hr : ∀ n, ES X W ow rest eS eL (ρ.set i (.mu n)) (k n)) (hi : X.N[i]? = some x := by rfl) (hx : Loc X.env.scope x := by first | exact Or.inl rfl | exact Or.inr rfl)
    (hs : swapsWith e (some (.Name x pos')) pos.line X.env = pure false := by rfl) (hf : X.fn x = true ∨ X.env.scope.names.lookup x = some .local := by first | exact .inl rfl | exact .inr rfl | assumption) :
    ES X W ow (.Assign [.Name x pos'] e pos :: rest) eS eL ρ (bd m fun ds => bd (mnew ds) k) := by
  refine pss_mono (pss_cons (ps_set hN hi hx he hs hf) (es_ex hr)) fun N σ H _ ⟨F, G, τ, a, q⟩ => ?_
  refine ⟨F, G, τ, a, wp_of q (fun d τ1 z p xs H1 G1 a1 k1 h1 r1 o1 n1 b1 => ?_) fun _ _ z => z.ex⟩
  have z := wp_bd.mp z
  unfold mnew at z
  split at z
  · rename_i hpl
    have z := wp_ok.mp z
    exact ⟨τ1.length, F, _, _, a1.newMu h1 r1 o1 n1 (a.gd.bnone b1) hpl (fun j s e h => by rw [k1.ow]; exact a.ow_ne b1 e h), Rs.wp_mono z (fun f τ' z => FlP.kp k1.p z) fun _ _ z => z⟩
  · exact (wp_no.mp z).elim
end
end DL


set_option maxRecDepth 100000
set_option maxHeartbeats 2000000
namespace DL
open PySem PySem.Spec PyProof.Rows L2

/-! ### defs -/
/-- what a def's body computes; an error is not looked for -/
def fe (ow : Bool) (m : M (Fl Unit Empty)) : M D := fun τ => match m τ with
  | .ok (.rt d) τ' => .ok d τ'
  | .ok (.nx _) τ' => if ow then .no else .ok .none τ'
  | _ => .no
@[simp] theorem fe_rt (ow : Bool) (d : D) : fe ow (pu (.rt d)) = pu d := rfl
@[simp] theorem fe_nx (s : Unit) : fe false (pu (.nx s)) = pu .none := rfl
@[simp] theorem fe_no (ow : Bool) : fe ow no = no := rfl
theorem fe_wp {ow : Bool} {m : M (Fl Unit Empty)} {τ : T} {Q : D → T → Prop} {E : Str → T → Prop} (h : (fe ow m τ).wp Q E) :
    (m τ).wp (fun f τ' => match f with
      | .rt d => Q d τ'
      | .nx _ => ow = false ∧ Q .none τ'
      | _ => False) (fun _ _ => False) := by
  unfold fe at h
  split at h
  · rename_i e; rw [e]; exact wp_ok.mpr (wp_ok.mp h)
  · rename_i e
    rw [e]
    cases ow with
    | true => exact (wp_no.mp h).elim
    | false => exact wp_ok.mpr ⟨rfl, wp_ok.mp h⟩
  · exact (wp_no.mp h).elim
/-- .. and back, for proofs of what a def answers -/
theorem wp_fe {ow : Bool} {m : M (Fl Unit Empty)} {τ : T} {Q : D → T → Prop} {E : Str → T → Prop} (h : (m τ).wp (fun f τ' => match f with
      | .rt d => Q d τ'
      | .nx _ => ow = false ∧ Q .none τ'
      | _ => False) (fun _ _ => False)) : (fe ow m τ).wp Q E := by
  unfold fe
  split
  · rename_i e
    rw [e] at h
    have z := wp_ok.mp h
    exact wp_ok.mpr z
  · rename_i e
    rw [e] at h
    obtain ⟨z, q⟩ := wp_ok.mp h
    rw [if_neg (by rw [z]; exact Bool.false_ne_true)]
    exact wp_ok.mpr q
  · rename_i x h1 h2
    cases e : m τ with
    | ok f τ' =>
      rw [e] at h
      cases f with
      | rt d => exact absurd e (h1 d τ')
      | nx s => exact absurd e (h2 s τ')
      | bk l => exact l.elim
      | ct l => exact l.elim
    | er x τ' => rw [e] at h; exact (wp_er.mp h).elim
    | no => rw [e] at h; exact (wp_no.mp h).elim
/-! the types of arguments: true, a list by reference; false, data -/
@[reducible] def Ty : List Bool → Type
  | [] => M D
  | true :: r => Nat → Ty r
  | false :: r => D → Ty r
def app : (l : List Bool) → Ty l → List Arg → M D
  | [], m, [] => m
  | true :: r, f, .mu n :: as => app r (f n) as
  | false :: r, f, .d x :: as => app r (f x) as
  | _, _, _ => no
@[simp] theorem app_nil (m : Ty []) : app [] m [] = m := rfl
@[simp] theorem app_mu (r : List Bool) (f : Ty (true :: r)) (n : Nat) (as : List Arg) : app (true :: r) f (.mu n :: as) = app r (f n) as := rfl
@[simp] theorem app_d (r : List Bool) (f : Ty (false :: r)) (n : D) (as : List Arg) : app (false :: r) f (.d n :: as) = app r (f n) as := rfl
def AllB : (l : List Bool) → (List Slot → M D → Prop) → Ty l → List Slot → Prop
  | [], P, m, ρ => P ρ m
  | true :: r, P, f, ρ => ∀ n, AllB r P (f n) (ρ ++ [.mu n])
  | false :: r, P, f, ρ => ∀ d, AllB r P (f d) (ρ ++ [.val d])
def Arg.slot : Arg → Slot
  | .d x => .val x
  | .mu n => .mu n
theorem app_cases {τ : T} {Q : D → T → Prop} {E : Str → T → Prop} {P : List Slot → M D → Prop} : ∀ (l : List Bool) {m : Ty l} {as : List Arg} {ρ : List Slot}, AllB l P m ρ → (app l m as τ).wp Q E → P (ρ ++ as.map Arg.slot) (app l m as)
  | [], m, [], ρ, h, _ => by
    have h : P ρ m := h
    simpa using h
  | true :: r, f, .mu n :: as, ρ, h, w => by
    have q := app_cases r (as := as) (h n) w
    simpa [Arg.slot, List.append_assoc] using q
  | false :: r, f, .d n :: as, ρ, h, w => by
    have q := app_cases r (as := as) (h n) w
    simpa [Arg.slot, List.append_assoc] using q
  | [], m, _ :: _, ρ, _, w => (wp_no.mp w).elim
  | true :: r, f, [], ρ, _, w => (wp_no.mp w).elim
  | true :: r, f, .d _ :: _, ρ, _, w => (wp_no.mp w).elim
  | false :: r, f, [], ρ, _, w => (wp_no.mp w).elim
  | false :: r, f, .mu _ :: _, ρ, _, w => (wp_no.mp w).elim
def emps : Nat → List Slot
  | 0 => []
  | n + 1 => .emp :: emps n
theorem emps_rep : ∀ n, emps n = List.replicate n .emp
  | 0 => rfl
  | n + 1 => by rw [emps, emps_rep n]; rfl
theorem noown {as : List Arg} {n i : Nat} {s : Slot} (h : (as.map Arg.slot ++ emps n)[i]? = some s) : s.isOwn = false := by
  rw [emps_rep] at h
  have m := List.mem_of_getElem? h
  rcases List.mem_append.mp m with m | m
  · obtain ⟨a, _, e⟩ := List.mem_map.mp m
    rw [← e]
    cases a <;> rfl
  · rw [(List.mem_replicate.mp m).2]
    rfl
theorem start_at {K : PySem.W.Frag} {G : Gh} {H : Hp} : ∀ {as : List Arg} {vs : List V} {i : Nat} {s : Slot} {n : Nat}, ArgsRep K G.O G.al H as vs → (as.map Arg.slot ++ emps n)[i]? = some s → ∃ o, (vs.map some ++ List.replicate n none)[i]? = some o ∧ s.at K G H i o
  | [], _, i, s, n, h, e => by
    have z : _ = _ := h
    subst z
    rw [emps_rep] at e
    have hs : s = .emp := by
      have m := List.mem_of_getElem? e
      simpa using (List.mem_replicate.mp (by simpa using m)).2
    subst hs
    have hi : i < n := by
      have := (List.getElem?_eq_some_iff.mp e).1
      simpa using this
    exact ⟨none, by simp [hi], trivial⟩
  | a :: as, _, 0, s, n, ⟨v, r, z, h1, h2⟩, e => by
    subst z
    simp at e
    subst e
    refine ⟨some v, by simp, ?_⟩
    cases a with
    | d x => exact ⟨v, rfl, h1⟩
    | mu m => obtain ⟨p, e1, e2⟩ := h1; exact ⟨p, by rw [e1], e2⟩
  | a :: as, _, i + 1, s, n, ⟨v, r, z, h1, h2⟩, e => by
    subst z
    obtain ⟨o, g1, g2⟩ := start_at (i := i) h2 (by simpa using e)
    refine ⟨o, by simpa using g1, ?_⟩
    cases s <;> first | exact g2 | skip
    · exact absurd (noown (as := as) (n := n) (i := i) (by simpa using e)) (by simp [Slot.isOwn])
    · exact absurd (noown (as := as) (n := n) (i := i) (by simpa using e)) (by simp [Slot.isOwn])
theorem start_ok {K : PySem.W.Frag} {F : Fm} {G : Gh} {H : Hp} {N : List Str} {as : List Arg} {vs : List V} {n : Nat} (h : ArgsRep K G.O G.al H as vs) (hn : N.length - vs.length = n) : Sl K F G (as.map Arg.slot ++ emps n) (L2.start N vs) H := by
  unfold L2.start
  rw [hn]
  refine ⟨by rw [emps_rep]; simp [h.length], fun i s e => start_at h e, fun i j s t e e' h1 _ _ => ?_, fun i s e h1 => ?_⟩
  · rw [noown e] at h1; cases h1
  · rw [noown e] at h1; cases h1
section
variable {P : Program} {w : World} {K : PySem.W.Frag} {mg : Str → Option Value} {base : Heap}
/-- a def -/
theorem fn_ok {x qual : Str} {st : Stmt} {f : Addr} {fd : FuncData} {N ps : List Str} {k : Nat} (F : Fun K x qual st f fd) (S : FnScope N ps (defScope st)) (ow : Bool) (l : List Bool) (m : Ty l) (hl : l.length = ps.length)
    (hb : ∀ (cdv : Value) (A : Around) (outer : List Env) (s : Shared) (H : Hp) (E : XK), Room k (A.deeper (envOfC qual (defScope st) s.heap.objs.size f cdv)) → (A.deeper (envOfC qual (defScope st) s.heap.objs.size f cdv)).units + 64 < cLine →
      AllB l (fun ρ m => ∃ b : M (Fl Unit Empty), m = fe ow b ∧ ES (cxOf CX0 P w K mg base N qual (defScope st) f cdv A outer s H E).nox W0 ow (defBody st) (fun _ => emps N.length) (fun e => e.elim) (ρ ++ emps (N.length - ps.length)) b) m []) :
    FnOk P w K mg base CX0 (k + 1) f fd ps (spD K mg ps.length ow (app l m)) := by
  refine F.ok S (fun vs H Q E h => ?_) (fun cdv A outer s H vs Q E hr h => ?_)
  · obtain ⟨O, al, τ, as, h, _⟩ := h
    exact h
  · obtain ⟨O, al, τ, as, hn, g, ra, wp⟩ := h
    obtain ⟨b, e, h⟩ := app_cases l (hb cdv A outer s H E hr (by have := hr.un; omega)) wp
    refine ⟨_, h, ⟨H, O, al⟩, gh0 O al, τ, ⟨g, ?_⟩, ?_⟩
    · rw [List.nil_append]
      exact start_ok ra (by rw [hn])
    · rw [e] at wp
      refine Rs.wp_mono (fe_wp wp) (fun f τ' z => ?_) fun _ _ z => z.elim
      cases f with
      | rt d => exact z
      | nx s =>
        obtain ⟨z1, z2⟩ := z
        subst z1
        exact fun σ' H' G' a' _ => z2 _ H' G' a'.gd rfl
      | bk l => exact z.elim
      | ct l => exact z.elim
end
/-! ### the law -/
def spLaw (K : PySem.W.Frag) (n : Nat) : Sp := fun vs H Q _ => ∃ (a : Addr) (ns : List Int), vs = [.ref a] ∧ ns.length ≤ n ∧ Only H ∧ SqL K H a (ns.map V.int) ∧ ∀ H', Q (.bl true) H'
theorem law_sp {K : PySem.W.Frag} {mg : Str → Option Value} {m : Ty [false]} {n : Nat} (h : ∀ ns : List Int, ns.length ≤ n → ∃ τ', m (scr ns) [] = .ok (.bool true) τ') (vs : List V) (H : Hp) (Q : VK) (E : XK) (hq : spLaw K n vs H Q E) :
    spD K mg 1 false (app [false] m) vs H Q E := by
  obtain ⟨a, ns, rfl, hl, hO, hS, hq⟩ := hq
  refine ⟨fun _ => False, [], [], [.d (scr ns)], rfl, ?_, ⟨_, _, rfl, ?_, rfl⟩, ?_⟩
  · exact { mu := fun n ds e => by simp at e
            plain := fun ds m => by cases m
            mo := fun a m => by cases m
            mlen := rfl
            mnd := List.nodup_nil
            trk := fun a h => h.elim
            keep := fun a o e _ => e
            pre := ⟨[], rfl⟩
            bnew := fun a m => by cases m
            base := fun a h => h
            opn := fun a h => h.elim
            fo := fun a h => h.elim }
  · refine .inr ⟨a, ns, rfl, rfl, ?_⟩
    rcases hS with (h | ⟨o, h⟩) | h
    · rcases hO a with z | ⟨o, xs, z⟩
      · rw [z] at h; cases h
      · rw [z] at h; cases h
    · exact .inl ⟨⟨o, h⟩, fun z => z⟩
    · exact .inr (.inr h)
  · obtain ⟨τ', e⟩ := h ns hl
    show (m (scr ns) []).wp _ _
    rw [e]
    refine wp_ok.mpr fun v H' G' _ r => ?_
    have r : v = .bl true := r
    rw [r]
    exact hq H'
theorem law_walk {l : PySem.W.OpenLaw} {n k : Nat} {q : Program} {loose : List Str} {XP : (Str → Option Value) → Heap → Prop} {YP : World → Heap → Prop} {d : DefRec} {K : Params → PySem.W.Frag} {x : Str} {m : Ty [false]}
    (hm : ∀ ns : List Int, ns.length ≤ n → ∃ τ', m (scr ns) [] = .ok (.bool true) τ')
    (hn : l.most = some n) (hn2 : n ≤ sizeLine) (hdf : d.params.defaults = []) (hr : Room k callerA)
    (hY : ∀ (w : World) (h : Heap), YP w h → (K w.params).In h)
    (F : ∀ (w : World) (mg : Str → Option Value) (fa : Addr) (h : Heap), (K w.params).In h → h.Ns mainGlobals mg → mg d.name = some (.ref fa) →
      ∃ fd : FuncData, (∀ (s : Shared) (u : Value), BindsTo s fd ⟨[u], []⟩ [(x, u)]) ∧
        ∀ base : Heap, (K w.params).In base → base.Ns mainGlobals mg → FnOk l.prog w (K w.params) mg base CX0 k fa fd [x] (spD (K w.params) mg 1 false (app [false] m))) :
    PySem.W.WalkO q loose XP YP l.row.toRowW d [] (fun f vs => PySem.call f vs) := by
  refine L2.walk_of (n := n) (k := k) (x := x) (CX := fun _ => CX0) (sp := fun w => spLaw (K w.params) n) hn hn2 hdf hr hY (fun w mg fa h h1 h2 h3 => ?_) (fun w H a ns h1 h2 h3 => ⟨a, ns, rfl, h1, h2, h3, fun _ => rfl⟩) fun _ _ _ _ _ z => z
  obtain ⟨fd, b, f⟩ := F w mg fa h h1 h2 h3
  exact ⟨fd, b, fun base g1 g2 => (f base g1 g2).imp fun vs H Q E z => law_sp hm vs H Q E z⟩
end DL


set_option maxRecDepth 100000
set_option maxHeartbeats 2000000
namespace DL
open PySem PySem.Spec PyProof.Rows L2

/-- a def of the text, as it stands behind the top -/
structure Dc (K : PySem.W.Frag) (mg : Str → Option Value) (x : Str) (st : Stmt) (ps : List Str) : Prop where
  ex : ∃ (f : Addr) (fd : FuncData), Fun K x x st f fd ∧ mg x = some (.ref f) ∧ Binds K fd ps []
/-- a def that computes fm -/
structure Df (P : Program) (w : World) (K : PySem.W.Frag) (mg : Str → Option Value) (base : Heap) (k : Nat) (x : Str) (n : Nat) (ow : Bool) (fm : List Arg → M D) : Prop where
  ex : ∃ (f : Addr) (fd : FuncData) (ps : List Str), ps.length = n ∧ FnOk P w K mg base CX0 k f fd ps (spD K mg n ow fm) ∧ mg x = some (.ref f) ∧ PySem.W.keepIn K (.ref f) = true ∧ Binds K fd ps []
section
variable {P : Program} {w : World} {K : PySem.W.Frag} {mg : Str → Option Value} {base : Heap}
theorem fn_df {x : Str} {st : Stmt} {N ps : List Str} {k : Nat} (c : Dc K mg x st ps) (S : FnScope N ps (defScope st)) (ow : Bool) (l : List Bool) (m : Ty l) (hl : l.length = ps.length)
    (hb : ∀ (f : Addr) (cdv : Value) (A : Around) (outer : List Env) (s : Shared) (H : Hp) (E : XK), Room k (A.deeper (envOfC x (defScope st) s.heap.objs.size f cdv)) → (A.deeper (envOfC x (defScope st) s.heap.objs.size f cdv)).units + 64 < cLine →
      AllB l (fun ρ m => ∃ b : M (Fl Unit Empty), m = fe ow b ∧ ES (cxOf CX0 P w K mg base N x (defScope st) f cdv A outer s H E).nox W0 ow (defBody st) (fun _ => emps N.length) (fun e => e.elim) (ρ ++ emps (N.length - ps.length)) b) m []) :
    Df P w K mg base (k + 1) x ps.length ow (app l m) := by
  obtain ⟨f, fd, F, h1, h2⟩ := c.ex
  exact ⟨f, fd, ps, rfl, fn_ok F S ow l m hl fun cdv A outer s H E h => hb f cdv A outer s H E h, h1, F.kp, h2⟩
end
section
variable {X : Cx} {e : Expr} {es : List Expr} {ρ : List Slot} {pos p : Pos} {x : Str} {k j n : Nat} {fm : List Arg → M D} {c : CL Arg}
theorem w0e (cls : Value) (σ : L2.St) (H : Hp) : W0 cls none σ H → E0 cls none H := fun h => h
theorem ev_df (Fo : Df X.prog X.w X.K X.mg X.base k x n false fm) (hr : Room j X.A) (ha : EA X W0 (e :: es) ρ c) (hk : k ≤ j := by decide) (hg : Gl X x := by rfl) (hn : (e :: es).length = n := by rfl) (hdb : (x == ("__debug__" : Str)) = false := by decide) (he : starEach (e :: es) X.env = (false, eval e X.env) :: starEach es X.env := by rfl) (hpl : (backTo pos (starEach es X.env)).any (·.1) = false := by rfl) :
    EV X W0 (.Call (.Name x p) (e :: es) [] pos) ρ (c D fm) := by
  obtain ⟨f, fd, ps, rfl, h1, h2, h3, h4⟩ := Fo.ex
  exact ev_call h1 (hr.mono hk) hg h2 h3 h4 pass0 w0e ha hn hdb he hpl
theorem eo_df (Fo : Df X.prog X.w X.K X.mg X.base k x n true fm) (hr : Room j X.A) (ha : EA X W0 (e :: es) ρ c) (hk : k ≤ j := by decide) (hg : Gl X x := by rfl) (hn : (e :: es).length = n := by rfl) (hdb : (x == ("__debug__" : Str)) = false := by decide) (he : starEach (e :: es) X.env = (false, eval e X.env) :: starEach es X.env := by rfl) (hpl : (backTo pos (starEach es X.env)).any (·.1) = false := by rfl) :
    EO X W0 (.Call (.Name x p) (e :: es) [] pos) ρ (c (List D) fun as => bd (fm as) toL) := by
  obtain ⟨f, fd, ps, rfl, h1, h2, h3, h4⟩ := Fo.ex
  exact eo_call h1 (hr.mono hk) hg h2 h3 h4 pass0 w0e ha hn hdb he hpl
end
end DL


set_option maxRecDepth 100000
set_option maxHeartbeats 2000000
namespace DL
open PySem PySem.Spec PyProof.Rows L2

@[reducible] def x1 {α : Type} (f : D → M α) : List D → M α
  | [x] => f x
  | _ => no
@[reducible] def x2 {α : Type} (f : D → D → M α) : List D → M α
  | [x, y] => f x y
  | _ => no
@[reducible] def x3 {α : Type} (f : D → D → D → M α) : List D → M α
  | [x, y, z] => f x y z
  | _ => no
@[reducible] def x4 {α : Type} (f : D → D → D → D → M α) : List D → M α
  | [x, y, z, w] => f x y z w
  | _ => no
section
variable {X : Cx} {W : WX} {e : Expr} {ρ : List Slot} {ow : Bool} {sts : List Stmt} {S L : Type} {eS : S → List Slot} {eL : L → List Slot} {i j k l : Nat}
theorem ev_no : EV X W e ρ no := ⟨fun pins s σ H Q I ⟨F, G, τ, a, q⟩ => (wp_no.mp q).elim⟩
theorem pts_no {ifs : List Expr} {K : PySem.W.Frag} {mg : Str → Option Value} : PTs X ifs (tT K mg W ρ no) := ⟨fun pins s σ H Q I ⟨F, G, τ, a, q⟩ => (wp_no.mp q).elim⟩
theorem pts_1 {m : M Bool} (h : ET X W e ρ m) : PTs X [e] (tT X.K X.mg W ρ m) := pts_one h
theorem es_x1 {f : D → M (Fl S L)} (h : ∀ x, ES X W ow sts eS eL (ρ.set i (.val x)) (f x)) : ∀ xs, ES X W ow sts eS eL (sets ρ [i] xs) (x1 f xs)
  | [] => es_no
  | [x] => h x
  | _ :: _ :: _ => es_no
theorem es_x2 {f : D → D → M (Fl S L)} (h : ∀ x y, ES X W ow sts eS eL ((ρ.set i (.val x)).set j (.val y)) (f x y)) : ∀ xs, ES X W ow sts eS eL (sets ρ [i, j] xs) (x2 f xs)
  | [] => es_no
  | [x] => es_no
  | [x, y] => h x y
  | _ :: _ :: _ :: _ => es_no
theorem es_x3 {f : D → D → D → M (Fl S L)} (h : ∀ x y z, ES X W ow sts eS eL (((ρ.set i (.val x)).set j (.val y)).set k (.val z)) (f x y z)) : ∀ xs, ES X W ow sts eS eL (sets ρ [i, j, k] xs) (x3 f xs)
  | [] => es_no
  | [x] => es_no
  | [x, y] => es_no
  | [x, y, z] => h x y z
  | _ :: _ :: _ :: _ :: _ => es_no
theorem es_x4 {f : D → D → D → D → M (Fl S L)} (h : ∀ x y z w, ES X W ow sts eS eL ((((ρ.set i (.val x)).set j (.val y)).set k (.val z)).set l (.val w)) (f x y z w)) : ∀ xs, ES X W ow sts eS eL (sets ρ [i, j, k, l] xs) (x4 f xs)
  | [] => es_no
  | [x] => es_no
  | [x, y] => es_no
  | [x, y, z] => es_no
  | [x, y, z, w] => h x y z w
  | _ :: _ :: _ :: _ :: _ :: _ => es_no
theorem ev_x1 {f : D → M D} (h : ∀ x, EV X W e (ρ.set i (.val x)) (f x)) : ∀ xs, EV X W e (sets ρ [i] xs) (x1 f xs)
  | [] => ev_no
  | [x] => h x
  | _ :: _ :: _ => ev_no
theorem ev_x2 {f : D → D → M D} (h : ∀ x y, EV X W e ((ρ.set i (.val x)).set j (.val y)) (f x y)) : ∀ xs, EV X W e (sets ρ [i, j] xs) (x2 f xs)
  | [] => ev_no
  | [x] => ev_no
  | [x, y] => h x y
  | _ :: _ :: _ :: _ => ev_no
theorem ev_x3 {f : D → D → D → M D} (h : ∀ x y z, EV X W e (((ρ.set i (.val x)).set j (.val y)).set k (.val z)) (f x y z)) : ∀ xs, EV X W e (sets ρ [i, j, k] xs) (x3 f xs)
  | [] => ev_no
  | [x] => ev_no
  | [x, y] => ev_no
  | [x, y, z] => h x y z
  | _ :: _ :: _ :: _ :: _ => ev_no
theorem pts_x1 {ifs : List Expr} {K : PySem.W.Frag} {mg : Str → Option Value} {f : D → M Bool} (h : ∀ x, PTs X ifs (tT K mg W (ρ.set i (.val x)) (f x))) : ∀ xs, PTs X ifs (tT K mg W (sets ρ [i] xs) (x1 f xs))
  | [] => pts_no
  | [x] => h x
  | _ :: _ :: _ => pts_no
theorem pts_x2 {ifs : List Expr} {K : PySem.W.Frag} {mg : Str → Option Value} {f : D → D → M Bool} (h : ∀ x y, PTs X ifs (tT K mg W ((ρ.set i (.val x)).set j (.val y)) (f x y))) : ∀ xs, PTs X ifs (tT K mg W (sets ρ [i, j] xs) (x2 f xs))
  | [] => pts_no
  | [x] => pts_no
  | [x, y] => h x y
  | _ :: _ :: _ :: _ => pts_no
theorem pts_x3 {ifs : List Expr} {K : PySem.W.Frag} {mg : Str → Option Value} {f : D → D → D → M Bool} (h : ∀ x y z, PTs X ifs (tT K mg W (((ρ.set i (.val x)).set j (.val y)).set k (.val z)) (f x y z))) : ∀ xs, PTs X ifs (tT K mg W (sets ρ [i, j, k] xs) (x3 f xs))
  | [] => pts_no
  | [x] => pts_no
  | [x, y] => pts_no
  | [x, y, z] => h x y z
  | _ :: _ :: _ :: _ :: _ => pts_no
@[simp] theorem x1_u1 {α : Type} (f : D → M α) (d : D) : bd (li (u1 d)) (x1 f) = f d := rfl
/-- a, b = a list -/
def uL (n : Nat) : D → Option (List D)
  | .list ds => if ds.length = n then some ds else none
  | _ => none
theorem tgok_unl {K : PySem.W.Frag} {is : List Nat} {n : Nat} (hl : is.length = n) : TgOk K (gLst K n (gNames is)) (uL n) is := by
  intro O H d v ds σ Q r e h
  unfold uL at e
  split at e
  · split at e
    · rename_i hz
      cases e
      obtain ⟨a, xs, rfl, h1, h2, h3⟩ := r
      exact ⟨a, xs, rfl, SqL.of h1, by rw [h3.length]; exact hz, gNames_ok (K := K) (O := O) (by rw [h3.length, hz, hl]) (h xs h3)⟩
    · cases e
  · cases e
end
end DL


set_option maxRecDepth 100000
set_option maxHeartbeats 2000000
namespace DL
open PySem PySem.Spec PyProof.Rows L2

/-! ### what mirrors answer -/
/-- m comes to an end with Q -/
def Tri {α : Type} (m : M α) (τ : T) (Q : α → T → Prop) : Prop := ∃ a τ', m τ = .ok a τ' ∧ Q a τ'
section
variable {α β : Type} {τ : T} {Q Q' : α → T → Prop}
theorem Tri.mono {m : M α} (h : Tri m τ Q) (w : ∀ a τ', Q a τ' → Q' a τ') : Tri m τ Q' := let ⟨a, τ', e, q⟩ := h; ⟨a, τ', e, w a τ' q⟩
@[simp] theorem tri_pu {a : α} : Tri (pu a) τ Q ↔ Q a τ := by
  constructor
  · rintro ⟨b, τ', e, q⟩
    unfold pu at e
    injection e with e1 e2
    subst e1 e2
    exact q
  · exact fun h => ⟨_, _, rfl, h⟩
@[simp] theorem tri_no : Tri (no : M α) τ Q ↔ False := by
  constructor
  · rintro ⟨b, τ', e, q⟩
    unfold no at e
    cases e
  · exact fun h => h.elim
@[simp] theorem tri_bd {m : M β} {k : β → M α} : Tri (bd m k) τ Q ↔ Tri m τ fun b τ' => Tri (k b) τ' Q := by
  constructor
  · rintro ⟨a, τ', e, q⟩
    unfold bd at e
    cases h : m τ with
    | ok b τ1 => rw [h] at e; exact ⟨b, τ1, h, a, τ', e, q⟩
    | er x τ1 => rw [h] at e; cases e
    | no => rw [h] at e; cases e
  · rintro ⟨b, τ1, h, a, τ', e, q⟩
    exact ⟨a, τ', by unfold bd; rw [h]; exact e, q⟩
theorem tri_li {o : Option α} : Tri (li o) τ Q ↔ ∃ a, o = some a ∧ Q a τ := by
  cases o with
  | none => simp
  | some a => simp
@[simp] theorem tri_ite {b : Bool} {m m' : M α} : Tri (if b = true then m else m') τ Q ↔ if b = true then Tri m τ Q else Tri m' τ Q := by cases b <;> simp
/-- what a def's body must end with -/
def feQ (ow : Bool) (Q : D → T → Prop) : Fl Unit Empty → T → Prop
  | .rt d, τ => Q d τ
  | .nx _, τ => ow = false ∧ Q .none τ
  | _, _ => False
@[simp] theorem feQ_rt {ow : Bool} {Q : D → T → Prop} {d : D} : feQ ow Q (.rt d) τ ↔ Q d τ := Iff.rfl
@[simp] theorem feQ_nx {ow : Bool} {Q : D → T → Prop} {s : Unit} : feQ ow Q (.nx s) τ ↔ ow = false ∧ Q .none τ := Iff.rfl
@[simp] theorem tri_fe {ow : Bool} {m : M (Fl Unit Empty)} {Q : D → T → Prop} : Tri (fe ow m) τ Q ↔ Tri m τ (feQ ow Q) := by
  constructor
  · rintro ⟨a, τ', e, q⟩
    unfold fe at e
    split at e
    · rename_i h; cases e; exact ⟨_, _, h, q⟩
    · rename_i h
      cases ow with
      | true => cases e
      | false => cases e; exact ⟨_, _, h, rfl, q⟩
    · cases e
  · rintro ⟨a, τ', e, q⟩
    cases a with
    | rt d => exact ⟨d, τ', by unfold fe; rw [e], q⟩
    | nx s => obtain ⟨z, q⟩ := q; subst z; exact ⟨.none, τ', by unfold fe; rw [e]; rfl, q⟩
    | bk l => cases l
    | ct l => cases l
@[simp] theorem tri_sq {S S' L : Type} {m : M (Fl S L)} {k : S → M (Fl S' L)} {Q : Fl S' L → T → Prop} : Tri (sq m k) τ Q ↔ Tri m τ fun f τ' => Tri (sqk k f) τ' Q := by
  unfold sq; exact tri_bd
@[simp] theorem sqk_nx {S S' L : Type} (k : S → M (Fl S' L)) (s : S) : sqk k (.nx s) = k s := rfl
@[simp] theorem sqk_bk {S S' L : Type} (k : S → M (Fl S' L)) (s : L) : sqk k (.bk s) = pu (.bk s) := rfl
@[simp] theorem sqk_ct {S S' L : Type} (k : S → M (Fl S' L)) (s : L) : sqk k (.ct s) = pu (.ct s) := rfl
@[simp] theorem sqk_rt {S S' L : Type} (k : S → M (Fl S' L)) (d : D) : sqk k (.rt d : Fl S L) = pu (.rt d) := rfl
theorem tri_mget {n : Nat} {Q : List D → T → Prop} : Tri (mget n) τ Q ↔ ∃ ds, τ[n]? = some ds ∧ Q ds τ := by
  unfold mget Tri
  cases e : τ[n]? with
  | none => simp [e]
  | some ds =>
    simp only [e]
    constructor
    · rintro ⟨a, τ', z, q⟩
      cases z
      exact ⟨_, rfl, q⟩
    · rintro ⟨a, z, q⟩
      cases z
      exact ⟨_, _, rfl, q⟩
theorem tri_mput {n : Nat} {ds : List D} {Q : Unit → T → Prop} : Tri (mput n ds) τ Q ↔ ds.all okT = true ∧ Q () (τ.set n ds) := by
  unfold mput Tri
  by_cases h : ds.all okT = true
  · simp only [if_pos h]
    constructor
    · rintro ⟨a, τ', z, q⟩
      cases z
      exact ⟨h, q⟩
    · exact fun q => ⟨_, _, rfl, q.2⟩
  · simp only [if_neg h]
    constructor
    · rintro ⟨a, τ', z, q⟩
      cases z
    · exact fun q => absurd q.1 h
theorem tri_mnew {ds : List D} {Q : Nat → T → Prop} : Tri (mnew ds) τ Q ↔ ds.all okT = true ∧ Q τ.length (τ ++ [ds]) := by
  unfold mnew Tri
  by_cases h : ds.all okT = true
  · simp only [if_pos h]
    constructor
    · rintro ⟨a, τ', z, q⟩
      cases z
      exact ⟨h, q⟩
    · exact fun q => ⟨_, _, rfl, q.2⟩
  · simp only [if_neg h]
    constructor
    · rintro ⟨a, τ', z, q⟩
      cases z
    · exact fun q => absurd q.1 h
@[simp] theorem mget0 {ds : List D} {τ : T} : mget 0 (ds :: τ) = pu ds (ds :: τ) := rfl
@[simp] theorem tri_mget0 {ds : List D} {τ : T} {Q : List D → T → Prop} : Tri (mget 0) (ds :: τ) Q ↔ Q ds (ds :: τ) := by rw [tri_mget]; simp
@[simp] theorem tri_mput0 {ds es : List D} {τ : T} {Q : Unit → T → Prop} : Tri (mput 0 es) (ds :: τ) Q ↔ es.all okT = true ∧ Q () (es :: τ) := by rw [tri_mput]; simp
@[simp] theorem tri_ck {b : Bool} {Q : Unit → T → Prop} : Tri (ck b) τ Q ↔ b = true ∧ Q () τ := by
  cases b <;> simp
end
/-- a for-loop that goes on to its end -/
theorem tri_fo {S L : Type} {body : S → D → M (Fl S S)} {Q : Fl S L → T → Prop} (I : Nat → S → T → Prop) (ds : List D) {s : S} {τ : T} (h0 : I 0 s τ)
    (hs : ∀ i d s τ, ds[i]? = some d → I i s τ → Tri (body s d) τ fun f τ' => match f with
      | .nx s' => I (i + 1) s' τ'
      | .ct s' => I (i + 1) s' τ'
      | .bk s' => Q (.nx s') τ'
      | .rt d => Q (.rt d) τ') (hd : ∀ s τ, I ds.length s τ → Q (.nx s) τ) : Tri (fo body ds s) τ Q := by
  have key : ∀ (es : List D) (i : Nat) (s : S) (τ : T), ds.drop i = es → i ≤ ds.length → I i s τ → Tri (fo body es s) τ Q := by
    intro es
    induction es with
    | nil =>
      intro i s τ hdr hi h
      have : ds.length ≤ i := by
        have := congrArg List.length hdr
        simp at this
        omega
      have e : i = ds.length := by omega
      subst e
      simpa [fo] using hd s τ h
    | cons d es ih =>
      intro i s τ hdr hi h
      have hlt : i < ds.length := by
        have := congrArg List.length hdr
        simp at this
        omega
      have hdd : ds[i]? = some d := by
        have := congrArg (fun l => l[0]?) hdr
        simpa using this
      have hdr' : ds.drop (i + 1) = es := by
        have := congrArg (List.drop 1) hdr
        simpa [List.drop_drop, Nat.add_comm] using this
      rw [fo, tri_bd]
      refine (hs i d s τ hdd h).mono fun f τ' q => ?_
      cases f with
      | nx s' => exact ih (i + 1) s' τ' hdr' hlt q
      | ct s' => exact ih (i + 1) s' τ' hdr' hlt q
      | bk s' => simpa using q
      | rt d => simpa using q
  exact key ds 0 s τ (by simp) (Nat.zero_le _) h0
/-- a while-loop by a measure -/
theorem tri_wh {S L : Type} {c : S → M Bool} {body : S → M (Fl S S)} {Q : Fl S L → T → Prop} (μ : S → Nat) (I : S → T → Prop)
    (hs : ∀ s τ, I s τ → Tri (c s) τ fun b τ' => if b = true then Tri (body s) τ' (fun f τ2 => match f with
      | .nx s' => μ s' < μ s ∧ I s' τ2
      | .ct s' => μ s' < μ s ∧ I s' τ2
      | .bk s' => Q (.nx s') τ2
      | .rt d => Q (.rt d) τ2) else Q (.nx s) τ') : ∀ {s : S} {τ : T}, I s τ → Tri (wh c body s) τ Q := by
  have key : ∀ (n : Nat) (s : S) (τ : T), μ s = n → I s τ → Tri (wh c body s) τ Q := by
    intro n
    induction n using Nat.strongRecOn with
    | ind n ih =>
      intro s τ hn h
      rw [wh_unf, wst, tri_bd]
      refine (hs s τ h).mono fun b τ' q => ?_
      cases b with
      | false => simpa using q
      | true =>
        simp only [if_true, tri_bd] at q ⊢
        refine q.mono fun f τ2 z => ?_
        cases f with
        | nx s' => exact ih _ (by omega) s' τ2 rfl z.2
        | ct s' => exact ih _ (by omega) s' τ2 rfl z.2
        | bk s' => simpa using z
        | rt d => simpa using z
  intro s τ h
  exact key _ s τ rfl h
/-- a def that only computes: from any lists -/
theorem eq_pu {α : Type} {m : M α} {a : α} (h : ∀ τ, Tri m τ fun b τ' => b = a ∧ τ' = τ) : m = pu a := by
  funext τ
  obtain ⟨b, τ', e, rfl, rfl⟩ := h τ
  exact e
theorem mp_pu {f : D → M D} {g : D → D} : ∀ {ds : List D}, (∀ d ∈ ds, f d = pu (g d)) → mp ds f = pu (ds.map g)
  | [], _ => rfl
  | d :: ds, h => by
    rw [mp, h d List.mem_cons_self, mp_pu fun x m => h x (List.mem_cons_of_mem _ m)]
    rfl
theorem mf_pu {t : D → M Bool} {f : D → M D} {p : D → Bool} {g : D → D} : ∀ {ds : List D}, (∀ d ∈ ds, t d = pu (p d)) → (∀ d ∈ ds, p d = true → f d = pu (g d)) → mf ds t f = pu ((ds.filter p).map g)
  | [], _, _ => rfl
  | d :: ds, h, h' => by
    have ih := mf_pu (ds := ds) (fun x m => h x (List.mem_cons_of_mem _ m)) fun x m => h' x (List.mem_cons_of_mem _ m)
    rw [mf, h d List.mem_cons_self, bd_pu]
    cases e : p d with
    | false => simp [ih, e]
    | true => simp [ih, e, h' d List.mem_cons_self e]
/-! data, computed -/
@[simp] theorem dAdd_i (i j : Int) : dAdd (.int i) (.int j) = some (.int (i + j)) := rfl
@[simp] theorem dSub_i (i j : Int) : dSub (.int i) (.int j) = some (.int (i - j)) := rfl
theorem dMul_i {i j : Int} (h : i.natAbs.log2 + j.natAbs.log2 < 1000000) : dMul (.int i) (.int j) = some (.int (i * j)) := if_pos h
theorem dMod_i {i j : Int} (h : 0 < j) : dMod (.int i) (.int j) = some (.int (i % j)) := if_pos h
theorem dDiv_i {i j : Int} (h : 0 < j) (h' : j.natAbs.log2 < 9000) : dDiv (.int i) (.int j) = some (.int (i / j)) := if_pos ⟨h, h'⟩
theorem dPow_i {i j : Int} (h : 0 ≤ j ∧ j ≤ 1000000 ∧ i.natAbs < 2 ^ 64) : dPow (.int i) (.int j) = some (.int (i ^ j.toNat)) := if_pos h
@[simp] theorem dLt_i (i j : Int) : dLt (.int i) (.int j) = some (decide (i < j)) := rfl
@[simp] theorem dLe_i (i j : Int) : dLe (.int i) (.int j) = some (decide (i ≤ j)) := rfl
@[simp] theorem dGt_i (i j : Int) : dGt (.int i) (.int j) = some (decide (j < i)) := rfl
@[simp] theorem dGe_i (i j : Int) : dGe (.int i) (.int j) = some (decide (j ≤ i)) := rfl
@[simp] theorem dNeg_i (i : Int) : dNeg (.int i) = some (.int (-i)) := rfl
@[simp] theorem dTru_b (b : Bool) : dTru (.bool b) = some b := rfl
@[simp] theorem dTru_i (i : Int) : dTru (.int i) = some (i != 0) := rfl
@[simp] theorem dTru_l (ds : List D) : dTru (.list ds) = some (!ds.isEmpty) := rfl
@[simp] theorem dTru_t (ds : List D) : dTru (.tuple ds) = some (!ds.isEmpty) := rfl
@[simp] theorem dEq_i (i j : Int) : dEq (.int i) (.int j) = some (decide (i = j)) := rfl
@[simp] theorem dNe_i (i j : Int) : dNe (.int i) (.int j) = some (!decide (i = j)) := rfl
@[simp] theorem dIdx_t0 (a : D) (l : List D) : dIdx (.tuple (a :: l)) (.int 0) = some a := by
  show atI _ _ = _
  exact atI_nat (j := 0) rfl
@[simp] theorem dIdx_t1 (a b : D) (l : List D) : dIdx (.tuple (a :: b :: l)) (.int 1) = some b := by
  show atI _ _ = _
  exact atI_nat (j := 1) rfl
@[simp] theorem dIdx_t2 (a b c : D) (l : List D) : dIdx (.tuple (a :: b :: c :: l)) (.int 2) = some c := by
  show atI _ _ = _
  exact atI_nat (j := 2) rfl
@[simp] theorem dIdx_t3 (a b c d : D) (l : List D) : dIdx (.tuple (a :: b :: c :: d :: l)) (.int 3) = some d := by
  show atI _ _ = _
  exact atI_nat (j := 3) rfl
@[simp] theorem dIdx_l0 (a : D) (l : List D) : dIdx (.list (a :: l)) (.int 0) = some a := by
  show atI _ _ = _
  exact atI_nat (j := 0) rfl
@[simp] theorem dIdx_l1 (a b : D) (l : List D) : dIdx (.list (a :: b :: l)) (.int 1) = some b := by
  show atI _ _ = _
  exact atI_nat (j := 1) rfl
@[simp] theorem dIdx_l2 (a b c : D) (l : List D) : dIdx (.list (a :: b :: c :: l)) (.int 2) = some c := by
  show atI _ _ = _
  exact atI_nat (j := 2) rfl
theorem dIdx_l {ds : List D} {i : Nat} {d : D} (h : ds[i]? = some d) : dIdx (.list ds) (.int i) = some d := by
  show atI _ _ = _
  exact atI_nat h
theorem dIdx_t {ds : List D} {i : Nat} {d : D} (h : ds[i]? = some d) : dIdx (.tuple ds) (.int i) = some d := by
  show atI _ _ = _
  exact atI_nat h
theorem dIdx_s {ns : List Int} {i : Nat} {n : Int} (h : ns[i]? = some n) : dIdx (scr ns) (.int i) = some (.int n) := by
  show atI _ _ = _
  exact atI_nat (by simp [h])
@[simp] theorem dLen_l (ds : List D) : dLen (.list ds) = some (.int ds.length) := rfl
@[simp] theorem dLen_t (ds : List D) : dLen (.tuple ds) = some (.int ds.length) := rfl
@[simp] theorem dLen_s (ns : List Int) : dLen (scr ns) = some (.int ns.length) := by simp [scr, dLen]
@[simp] theorem setD0 (a d : D) (l : List D) : setD (a :: l) (.int 0) d = some (d :: l) := by
  unfold setD ixN
  simp
@[simp] theorem setD1 (a b d : D) (l : List D) : setD (a :: b :: l) (.int 1) d = some (a :: d :: l) := by
  unfold setD ixN
  simp
  omega
@[simp] theorem setD2 (a b c d : D) (l : List D) : setD (a :: b :: c :: l) (.int 2) d = some (a :: b :: d :: l) := by
  unfold setD ixN
  simp
  omega
@[simp] theorem isI_ii (i : Int) : isI "int" (.int i) = true := rfl
@[simp] theorem isI_ib (i : Bool) : isI "int" (.bool i) = true := rfl
@[simp] theorem isI_bb (i : Bool) : isI "bool" (.bool i) = true := rfl
@[simp] theorem isI_bi (i : Int) : isI "bool" (.int i) = false := rfl
@[simp] theorem isI_tt (l : List D) : isI "tuple" (.tuple l) = true := rfl
@[simp] theorem isI_ll (l : List D) : isI "list" (.list l) = true := rfl
@[simp] theorem dRng1_n {n : Int} (h : n ≤ 16777216 := by decide) (h' : -(2 ^ 62) ≤ n := by decide) : dRng1 (.int n) = some ((List.range n.toNat).map fun (i : Nat) => .int i) := if_pos ⟨h', h⟩
@[simp] theorem okT_scr (ns : List Int) : okT (scr ns) = true := rfl
@[simp] theorem okT_int (i : Int) : okT (.int i) = true := rfl
theorem log2_le {n k : Nat} (h : n < 2 ^ (k + 1)) : n.log2 ≤ k := by
  by_cases z : n = 0
  · subst z; simp
  · have := (Nat.log2_lt z).mpr h
    omega
theorem log2_int {i : Int} {k : Nat} (h : -(2 ^ (k + 1) : Nat) < i) (h' : i < (2 ^ (k + 1) : Nat)) : i.natAbs.log2 ≤ k := log2_le (by omega)
end DL


set_option maxRecDepth 100000
set_option maxHeartbeats 2000000
namespace DL
open PySem PySem.Spec PyProof.Rows L2

/-! ### small numbers -/
class SmI (i : Int) (k : outParam Nat) : Prop where
  h : i.natAbs < 2 ^ k
theorem SmI.log {i : Int} {k : Nat} (s : SmI i k) : i.natAbs.log2 ≤ k := by
  have := s.h
  by_cases z : i.natAbs = 0
  · rw [z]; simp
  · have := (Nat.log2_lt z).mpr this
    omega
instance smLit (n : Nat) : SmI (no_index (OfNat.ofNat n)) (n.log2 + 1) := ⟨by
  show (Int.ofNat n).natAbs < _
  simp
  exact Nat.lt_log2_self⟩
instance smNegLit (n : Nat) : SmI (-(no_index (OfNat.ofNat n))) (n.log2 + 1) := ⟨by rw [Int.natAbs_neg]; exact (smLit n).h⟩
instance smAdd (i j : Int) (a b : Nat) [x : SmI i a] [y : SmI j b] : SmI (i + j) (a + b + 1) := ⟨by
  have h1 := x.h
  have h2 := y.h
  have h3 : (i + j).natAbs ≤ i.natAbs + j.natAbs := Int.natAbs_add_le i j
  have h4 : 2 ^ a ≤ 2 ^ (a + b) := Nat.pow_le_pow_right (by decide) (by omega)
  have h5 : 2 ^ b ≤ 2 ^ (a + b) := Nat.pow_le_pow_right (by decide) (by omega)
  rw [Nat.pow_succ]
  omega⟩
instance smSub (i j : Int) (a b : Nat) [x : SmI i a] [y : SmI j b] : SmI (i - j) (a + b + 1) := ⟨by
  have h1 := x.h
  have h2 := y.h
  have h3 : (i - j).natAbs ≤ i.natAbs + j.natAbs := by omega
  have h4 : 2 ^ a ≤ 2 ^ (a + b) := Nat.pow_le_pow_right (by decide) (by omega)
  have h5 : 2 ^ b ≤ 2 ^ (a + b) := Nat.pow_le_pow_right (by decide) (by omega)
  rw [Nat.pow_succ]
  omega⟩
instance smMul (i j : Int) (a b : Nat) [x : SmI i a] [y : SmI j b] : SmI (i * j) (a + b) := ⟨by
  rw [Int.natAbs_mul, Nat.pow_add]
  exact Nat.mul_lt_mul'' x.h y.h⟩
instance smMod (i : Int) (n : Nat) [z : NeZero n] : SmI (i % (no_index (OfNat.ofNat n))) (n.log2 + 1) := ⟨by
  have h0 : n ≠ 0 := z.out
  have h1 : (0 : Int) < Int.ofNat n := by simp; omega
  have h2 := Int.emod_nonneg i (b := Int.ofNat n) (by omega)
  have h3 := Int.emod_lt_of_pos i h1
  have h4 := (smLit n).h
  show (i % Int.ofNat n).natAbs < _
  have h5 : (Int.ofNat n).natAbs < 2 ^ (n.log2 + 1) := h4
  omega⟩
theorem mulOk (i j : Int) {a b : Nat} [x : SmI i a] [y : SmI j b] (h : a + b < 1000000 := by decide +kernel) : i.natAbs.log2 + j.natAbs.log2 < 1000000 := by
  have := x.log
  have := y.log
  omega
theorem smOf {i : Int} {k : Nat} (h : -(2 ^ k : Nat) < i) (h' : i < (2 ^ k : Nat)) : SmI i k := ⟨by omega⟩
theorem smNat {n k : Nat} (h : n < 2 ^ k) : SmI (n : Int) k := ⟨by simpa using h⟩
theorem divOk (j : Int) {b : Nat} [y : SmI j b] (h : b < 9000 := by decide +kernel) : j.natAbs.log2 < 9000 := by
  have := y.log
  omega
/-! data that may be compared -/
def Sh (n : Nat) (d : D) : Prop := d.canLay0 = true ∧ d.depth ≤ n
theorem Sh.mono {n m : Nat} {d : D} (h : Sh n d) (l : n ≤ m) : Sh m d := ⟨h.1, Nat.le_trans h.2 l⟩
theorem Sh.shaped {n : Nat} {d : D} (h : Sh n d) (l : n ≤ 64 := by decide) : SeqAt.shaped d = true := by
  unfold SeqAt.shaped
  rw [h.1, Bool.true_and]
  exact decide_eq_true (Nat.le_trans h.2 l)
theorem sh_int (i : Int) : Sh 1 (.int i) := ⟨rfl, by simp [PyData.depth]⟩
theorem sh_bool (i : Bool) : Sh 1 (.bool i) := ⟨rfl, by simp [PyData.depth]⟩
theorem sh_none : Sh 1 .none := ⟨rfl, by simp [PyData.depth]⟩
theorem sh_all {n : Nat} : ∀ {ds : List D}, (∀ d ∈ ds, Sh n d) → PyData.canLayAll0 ds = true ∧ PyData.depthAll ds ≤ n
  | [], _ => ⟨rfl, by simp [PyData.depthAll]⟩
  | d :: ds, h => by
    have h1 := h d List.mem_cons_self
    have h2 := sh_all fun x m => h x (List.mem_cons_of_mem _ m)
    refine ⟨?_, ?_⟩
    · rw [PyData.canLayAll0, h1.1, h2.1]; rfl
    · rw [PyData.depthAll]
      exact Nat.max_le.mpr ⟨h1.2, h2.2⟩
theorem sh_list {n : Nat} {ds : List D} (h : ∀ d ∈ ds, Sh n d) : Sh (n + 1) (.list ds) := by
  obtain ⟨h1, h2⟩ := sh_all h
  exact ⟨by rw [PyData.canLay0]; exact h1, by rw [PyData.depth]; omega⟩
theorem sh_tup {n : Nat} {ds : List D} (h : ∀ d ∈ ds, Sh n d) : Sh (n + 1) (.tuple ds) := by
  obtain ⟨h1, h2⟩ := sh_all h
  exact ⟨by rw [PyData.canLay0]; exact h1, by rw [PyData.depth]; omega⟩
theorem sh_ints (is : List Int) : Sh 2 (.list (is.map .int)) := sh_list fun d m => by
  obtain ⟨i, _, rfl⟩ := List.mem_map.mp m
  exact sh_int i
theorem sh_intt (is : List Int) : Sh 2 (.tuple (is.map .int)) := sh_tup fun d m => by
  obtain ⟨i, _, rfl⟩ := List.mem_map.mp m
  exact sh_int i
theorem dNe_scr_nil (ns : List Int) : dNe (scr ns) (.list []) = some (!ns.isEmpty) := by
  have h1 := (sh_ints ns).shaped
  have h2 := (sh_ints []).shaped
  show (if SeqAt.shaped (.list (ns.map .int)) && SeqAt.shaped (.list []) then some (PyData.eqv (.list (ns.map .int)) (.list [])) else none).map (!·) = _
  rw [h1, show SeqAt.shaped (.list []) = true from h2]
  cases ns with
  | nil => rfl
  | cons x l => simp [PyData.eqv, PyData.eqvAll]
theorem dEq_tt {xs ys : List D} (h : Sh 64 (.tuple xs)) (h' : Sh 64 (.tuple ys)) : dEq (.tuple xs) (.tuple ys) = some (PyData.eqvAll xs ys) := by
  show (if SeqAt.shaped (.tuple xs) && SeqAt.shaped (.tuple ys) then some (PyData.eqv (.tuple xs) (.tuple ys)) else emE (.tuple xs) (.tuple ys)) = _
  rw [h.shaped, h'.shaped]
  rfl
theorem dEq_ll {xs ys : List D} (h : Sh 64 (.list xs)) (h' : Sh 64 (.list ys)) : dEq (.list xs) (.list ys) = some (PyData.eqvAll xs ys) := by
  show (if SeqAt.shaped (.list xs) && SeqAt.shaped (.list ys) then some (PyData.eqv (.list xs) (.list ys)) else emE (.list xs) (.list ys)) = _
  rw [h.shaped, h'.shaped]
  rfl
@[simp] theorem eqv_ii (i j : Int) : PyData.eqv (.int i) (.int j) = (i == j) := rfl
end DL


set_option maxRecDepth 100000
set_option maxHeartbeats 2000000
namespace DL
open PySem PySem.Spec PyProof.Rows L2 RZ 

/-! ### slices -/
def tPO (K : PySem.W.Frag) (mg : Str → Option Value) (W : WX) (ρ : List Slot) (m : M (Option Int)) : TO := fun σ H Q => ∃ F G τ, At K F G ρ τ σ H ∧
  (m τ).wp (fun o τ' => ∀ H' G', At K F G' ρ τ' σ H' → Ke G H G' H' → Q o H') (EX K mg W F ρ σ G H)
def EP (X : Cx) (W : WX) (e : Option Expr) (ρ : List Slot) (m : M (Option Int)) : Prop := PO X e (tPO X.K X.mg W ρ m)
def oInt : D → M (Option Int)
  | .int i => pu (some i)
  | _ => no
@[simp] theorem oInt_i (i : Int) : oInt (.int i) = pu (some i) := rfl
def dCut : D → Option Int → Option Int → Option D
  | .list ds, lo, hi => some (.list (cutD ds lo hi))
  | .tuple ds, lo, hi => some (.tuple (cutD ds lo hi))
  | .dict [(.none, .list ds)], lo, hi => some (.list (cutD ds lo hi))
  | .str z, lo, hi => if z.length ≤ 16777216 then some (.str (cutS z lo hi)) else none
  | _, _, _ => none
section
variable {K : PySem.W.Frag} {O : Addr → Prop} {H : Hp}
theorem RepA.cut {ds : List D} {xs : List V} (h : RepA K O H ds xs) (lo hi : Option Int) : RepA K O H (cutD ds lo hi) (cutV xs lo hi) := by
  unfold cutD cutV
  rw [h.length]
  exact RepA.take _ (RepA.drop _ h)
end
section
variable {X : Cx} {W : WX} {e a b : Expr} {ρ : List Slot} {pos p p2 : Pos} {lo hi : Option Expr}
theorem po_mono {t t' : TO} {e : Option Expr} (h : PO X e t) (w : ∀ σ H Q, Fits H → t' σ H Q → t σ H Q) : PO X e t' := ⟨fun pins s σ H Q I q => h.run pins s σ H Q I (w σ H Q (fits_of I) q)⟩
theorem eb_none : EP X W none ρ (pu none) := po_mono po_none fun σ H Q _ ⟨F, G, τ, a, q⟩ => wp_pu.mp q H G a Ke.refl
theorem eb_some {m : M D} (h : EV X W e ρ m) : EP X W (some e) ρ (bd m oInt) := po_mono (po_some h) fun σ H Q _ ⟨F, G, τ, a, q⟩ => by
  refine ⟨F, G, τ, a, wp_of q (fun d τ1 z v H1 G1 a1 k1 r1 => ?_) fun _ _ z => z⟩
  cases d with
  | int i => cases r1; exact ⟨i, rfl, wp_pu.mp (show (pu (some i) τ1).wp _ _ from z) H1 G1 a1 k1⟩
  | none => exact (wp_no.mp z).elim
  | bool b => exact (wp_no.mp z).elim
  | str b => exact (wp_no.mp z).elim
  | list b => exact (wp_no.mp z).elim
  | tuple b => exact (wp_no.mp z).elim
  | dict b => exact (wp_no.mp z).elim
theorem ev_cut {m : M D} {ml mh : M (Option Int)} (he : EV X W e ρ m) (hl : EP X W lo ρ ml) (hh : EP X W hi ρ mh) : EV X W (.Subscript e (.Slice lo hi none p2) pos) ρ (bd m fun x => bd ml fun l => bd mh fun u => li (dCut x l u)) := by
  refine pe_mono (pe_slice (SlR.or sl_list (SlR.or sl_tupA sl_str)) he hl hh) fun σ H Q _ ⟨F, G, τ, at_, q⟩ => ?_
  refine ⟨F, G, τ, at_, wp_of q (fun x τ1 z vx H1 G1 a1 k1 r1 => ?_) fun _ _ z => z⟩
  refine ⟨F, G1, τ1, a1, wp_of z (fun l τ2 z H2 G2 a2 k2 => ?_) fun _ _ z => z.kp k1⟩
  refine ⟨F, G2, τ2, a2, wp_of z (fun u τ3 z H3 G3 a3 k3 => ?_) fun _ _ z => z.kp (k1.trans k2)⟩
  obtain ⟨d, hd, z⟩ := wp_li z
  have kk := (k1.trans k2).trans k3
  have r3 : Rep X.K G3.O H3 x vx := Rep.kp k3.p _ _ (Rep.kp k2.p _ _ r1)
  have hO : ∀ p, H3 p = none → ¬ G3.O p := fun p hp => a3.gd.nopen hp
  unfold dCut at hd
  split at hd
  · cases hd
    obtain ⟨ad, xs, rfl, h1, h3⟩ := rep_lst r3
    refine .inl ⟨ad, xs, rfl, h1, fun p hp => ?_⟩
    exact z _ _ G3 (a3.same (Same.new hp)) (kk.trans (Ke.same (Same.new hp))) (new_lst hO hp (RepA.cut h3 l u))
  · cases hd
    obtain ⟨ad, xs, e, h1, h3⟩ := rep_tup r3
    have r3' := r3
    subst e
    refine .inr (.inl ⟨ad, xs, rfl, h1, fun hw => ?_, fun hw p hp => ?_⟩)
    · refine z _ H3 G3 a3 kk ?_
      have e2 : ∀ {ds : List D}, RepA X.K G3.O H3 ds xs → cutD ds l u = ds := fun {ds} h3 => by
        unfold cutD
        rw [← h3.length, hw.1, hw.2]
        simp [h3.length]
      rw [e2 h3]
      exact r3'
    · exact z _ _ G3 (a3.same (Same.new hp)) (kk.trans (Ke.same (Same.new hp))) (new_tup hO hp (RepA.cut h3 l u))
  · cases hd
    obtain ⟨ad, xs, rfl, h1, h3⟩ := rep_scr r3
    refine .inl ⟨ad, xs, rfl, h1, fun p hp => ?_⟩
    exact z _ _ G3 (a3.same (Same.new hp)) (kk.trans (Ke.same (Same.new hp))) (new_lst hO hp (RepA.cut h3 l u))
  · split at hd
    · rename_i hz
      cases hd
      cases r3
      exact .inr (.inr ⟨_, rfl, by rw [sizeLine_eq]; exact hz, z _ H3 G3 a3 kk rfl⟩)
    · cases hd
  · cases hd
end

/-! ### zip -/
def dZip : D → D → Option (List D)
  | .list ds, .list es => some (List.zipWith (fun a b => .tuple [a, b]) ds es)
  | .tuple ds, .tuple es => some (List.zipWith (fun a b => .tuple [a, b]) ds es)
  | _, _ => none
theorem zip_get {ds es : List D} {i : Nat} {d e : D} (h : ds[i]? = some d) (h' : es[i]? = some e) : (List.zipWith (fun a b => PyData.tuple [a, b]) ds es)[i]? = some (PyData.tuple [d, e]) := by
  rw [List.getElem?_zipWith, h, h']
theorem pair_rep {K : PySem.W.Frag} {O : Addr → Prop} {H : Hp} {T : Addr} {d e : D} {x y : V} (hO : ∀ p, H p = none → ¬ O p) (hT : H T = none) (h : Rep K O H d x) (h' : Rep K O H e y) : Rep K O (upd H T (.tup [x, y])) (.tuple [d, e]) (.ref T) :=
  new_tup hO hT ⟨x, [y], rfl, h, y, [], rfl, h', rfl⟩
theorem itok_zip {K : PySem.W.Frag} {O : Addr → Prop} {H : Hp} {a b : Addr} {xs ys : List V} {ds es : List D} (sq : ∀ O' H', Kp O H O' H' → SqL K H' a xs ∧ SqL K H' b ys) (h : RepA K O H ds xs) (h' : RepA K O H es ys) : ItOk K O H (Itz K a b) (List.zipWith (fun a b => .tuple [a, b]) ds es) where
  go := fun i O' H' k hi => by
    rw [List.length_zipWith] at hi
    have h1 := h.length
    have h2 := h'.length
    exact ⟨xs, ys, xs[i]'(by omega), ys[i]'(by omega), (sq O' H' k).1, (sq O' H' k).2, by simp, by simp⟩
  stop := fun O' H' k => by
    rw [List.length_zipWith]
    have h1 := h.length
    have h2 := h'.length
    exact ⟨xs, ys, (sq O' H' k).1, (sq O' H' k).2, by omega⟩
  yld := fun i O' H' x H'' k hO hi y => by
    obtain ⟨T, u, v, rfl, hT, rfl, f1, f2⟩ := y
    rw [List.length_zipWith] at hi
    have r1 := RepA.kp k _ _ h
    have r2 := RepA.kp k _ _ h'
    obtain ⟨u', e1, e2⟩ := RepA.get (i := i) (d := ds[i]'(by omega)) r1 (by simp)
    obtain ⟨v', e3, e4⟩ := RepA.get (i := i) (d := es[i]'(by omega)) r2 (by simp)
    rw [f1 xs (sq O' H' k).1] at e1
    rw [f2 ys (sq O' H' k).2] at e3
    cases e1
    cases e3
    exact ⟨Same.new hT, _, zip_get (List.getElem?_eq_getElem (by omega)) (List.getElem?_eq_getElem (by omega)), pair_rep hO hT e2 e4⟩
theorem itok_zipT {K : PySem.W.Frag} {O : Addr → Prop} {H : Hp} {a b : Addr} {xs ys : List V} {ds es : List D} (sq : ∀ O' H', Kp O H O' H' → SqT K H' a xs ∧ SqT K H' b ys) (h : RepA K O H ds xs) (h' : RepA K O H es ys) : ItOk K O H (ItzT K a b) (List.zipWith (fun a b => .tuple [a, b]) ds es) where
  go := fun i O' H' k hi => by
    rw [List.length_zipWith] at hi
    have h1 := h.length
    have h2 := h'.length
    exact ⟨xs, ys, xs[i]'(by omega), ys[i]'(by omega), (sq O' H' k).1, (sq O' H' k).2, by simp, by simp⟩
  stop := fun O' H' k => by
    rw [List.length_zipWith]
    have h1 := h.length
    have h2 := h'.length
    exact ⟨xs, ys, (sq O' H' k).1, (sq O' H' k).2, by omega⟩
  yld := fun i O' H' x H'' k hO hi y => by
    obtain ⟨T, u, v, rfl, hT, rfl, f1, f2⟩ := y
    rw [List.length_zipWith] at hi
    have r1 := RepA.kp k _ _ h
    have r2 := RepA.kp k _ _ h'
    obtain ⟨u', e1, e2⟩ := RepA.get (i := i) (d := ds[i]'(by omega)) r1 (by simp)
    obtain ⟨v', e3, e4⟩ := RepA.get (i := i) (d := es[i]'(by omega)) r2 (by simp)
    rw [f1 xs (sq O' H' k).1] at e1
    rw [f2 ys (sq O' H' k).2] at e3
    cases e1
    cases e3
    exact ⟨Same.new hT, _, zip_get (List.getElem?_eq_getElem (by omega)) (List.getElem?_eq_getElem (by omega)), pair_rep hO hT e2 e4⟩
theorem rep_tup' {K : PySem.W.Frag} {O : Addr → Prop} {H : Hp} {ds : List D} {v : V} (h : Rep K O H (.tuple ds) v) : ∃ a xs, v = .ref a ∧ (∀ O' H', Kp O H O' H' → SqT K H' a xs) ∧ RepA K O H ds xs := by
  obtain ⟨a, xs, e, h1, h3⟩ := h
  exact ⟨a, xs, e, fun O' H' k => h1.elim (fun h => SqT.of (k.kp a _ h.1 h.2)) KT.sq, h3⟩
theorem rep_lst' {K : PySem.W.Frag} {O : Addr → Prop} {H : Hp} {ds : List D} {v : V} (h : Rep K O H (.list ds) v) : ∃ a xs, v = .ref a ∧ (∀ O' H', Kp O H O' H' → SqL K H' a xs) ∧ RepA K O H ds xs := by
  obtain ⟨a, xs, e, h1, h2, h3⟩ := h
  exact ⟨a, xs, e, fun O' H' k => SqL.of (k.kp a _ h1 h2), h3⟩
section
variable {X : Cx} {W : WX} {e a b : Expr} {ρ : List Slot} {pos p p2 tpos : Pos} {elts : List Expr} {kk : Nat}
theorem fits_seq {K : PySem.W.Frag} {H : Hp} (f : Fits H) {O : Addr → Prop} {ds : List D} {v : V} (h : Rep K O H (.list ds) v ∨ Rep K O H (.tuple ds) v) : ds.length ≤ sizeLine := by
  rcases h with ⟨a, xs, e, h1, h2, h3⟩ | ⟨a, xs, e, h1, h3⟩
  · rw [← h3.length]; exact (f a).1 xs h1
  · rw [← h3.length]
    exact h1.elim (fun h => (f a).2.1 xs h.1) KT.size
theorem ei_zip {ma mb : M D} (ha : EV X W a ρ ma) (hb : EV X W b ρ mb) (hg : Gl X "zip") (hm : X.mg "zip" = none) (hs : starEach [a, b] X.env = (false, eval a X.env) :: starEach [b] X.env := by rfl) (hs2 : starEach [b] X.env = [(false, eval b X.env)] := by rfl) (hpl : (backTo pos (starEach [b] X.env)).any (·.1) = false := by rfl) :
    EI X W (.Tuple elts kk tpos) (.Call (.Name "zip" p) [a, b] [] pos) ρ (bd ma fun x => bd mb fun y => li (dZip x y)) := by
  refine pi_mono (pi_zipA hg hm (pa_cons ha (pa_cons (pe_fits hb) pa_nil hs2) hs) hs hpl) fun σ H R _ ⟨F, G, τ, at_, q⟩ => ?_
  refine ⟨F, G, τ, at_, wp_of q (fun d τ1 z v H1 G1 a1 k1 r1 => ?_) fun _ _ z => z⟩
  refine ⟨F, G1, τ1, a1, wp_of z (fun d2 τ2 z v2 H2 G2 a2 k2 r2 hf => ?_) fun e τ2 z => z.kp k1⟩
  obtain ⟨ds, e, z9⟩ := wp_li z
  clear z
  have r1' : Rep X.K G2.O H2 d v := Rep.kp k2.p _ _ r1
  unfold dZip at e
  split at e
  · cases e
    have hl := fits_seq hf (.inl r1')
    obtain ⟨p1, xs, rfl, s1, q1⟩ := rep_lst' r1'
    obtain ⟨p2, ys, rfl, s2, q2⟩ := rep_lst' r2
    exact ⟨p1, p2, xs, ys, rfl, .inl ⟨s1 _ _ Kp.refl, s2 _ _ Kp.refl, z9 _ H2 G2 a2 (k1.trans k2) (itok_zip (fun O' H' k => ⟨s1 O' H' k, s2 O' H' k⟩) q1 q2) (by rw [List.length_zipWith]; omega)⟩⟩
  · cases e
    have hl := fits_seq hf (.inr r1')
    obtain ⟨p1, xs, rfl, s1, q1⟩ := rep_tup' r1'
    obtain ⟨p2, ys, rfl, s2, q2⟩ := rep_tup' r2
    exact ⟨p1, p2, xs, ys, rfl, .inr ⟨s1 _ _ Kp.refl, s2 _ _ Kp.refl, z9 _ H2 G2 a2 (k1.trans k2) (itok_zipT (fun O' H' k => ⟨s1 O' H' k, s2 O' H' k⟩) q1 q2) (by rw [List.length_zipWith]; omega)⟩⟩
  · cases e
end

/-! ### in -/
theorem hu65 {k : Nat} {A : Around} (hr : Room k A) : A.units + 65 < cLine := by
  have := hr.un
  omega
def rInA (K : PySem.W.Frag) : R2 := fun x y H Q => rIn K false x y H Q ∨ (rInD K x y H Q ∨ ∃ (c : Nat) (z : Str), x = .str ⟨#[c]⟩ ∧ y = .str z ∧ Q (.bl (decide (c ∈ z.cps.toList))) H)
def rNinA (K : PySem.W.Frag) : R2 := fun x y H Q => rIn K true x y H Q ∨ (rNotInD K x y H Q ∨ ∃ (c : Nat) (z : Str), x = .str ⟨#[c]⟩ ∧ y = .str z ∧ Q (.bl (!decide (c ∈ z.cps.toList))) H)
theorem or_in {X : Cx} (hu : X.A.units + 65 < cLine) : OpR X (compareOp .In) (rInA X.K) := OpR.or op_in_seq (OpR.or (op_inD hu) op_in_sign)
theorem or_nin {X : Cx} (hu : X.A.units + 65 < cLine) : OpR X (compareOp .NotIn) (rNinA X.K) := OpR.or op_notIn_seq (OpR.or (op_notInD hu) op_notIn_sign)
theorem str_one {y : Str} (h : y.length = 1) : y = ⟨#[y.cps.getD 0 0]⟩ := by
  obtain ⟨cps⟩ := y
  have h : cps.size = 1 := h
  have : cps = #[cps.getD 0 0] := by
    apply Array.ext
    · simpa using h
    · intro i h1 h2
      have : i = 0 := by simp at h2; omega
      subst this
      simp [Array.getD, h]
  conv => lhs; rw [this]
theorem in_core {K : PySem.W.Frag} {O : Addr → Prop} {H : Hp} {d y : D} {b : Bool} {vx vy : V} (hx : Rep K O H d vx) (hy : Rep K O H y vy) (e : dIn d y = some b) :
    (∃ p xs, vy = .ref p ∧ (SqL K H p xs ∨ SqT K H p xs) ∧ flatV vx = true ∧ xs.all flatV = true ∧ inV vx xs = b) ∨ (∃ d' ds, Dp K H vx d' ∧ Dp K H vy (.list ds) ∧ SeqAt.shaped d' = true ∧ SeqAt.shaped (.list ds) = true ∧ (ds.any fun z => PyData.eqv z d') = b) ∨
    ∃ (c : Nat) (z : Str), vx = .str ⟨#[c]⟩ ∧ vy = .str z ∧ decide (c ∈ z.cps.toList) = b := by
  cases y with
  | list ds =>
    have e : (if (isF d && ds.all isF) || (SeqAt.shaped d && SeqAt.shaped (.list ds)) then some (ds.any fun z => PyData.eqv z d) else none) = some b := e
    split at e
    · rename_i hc
      cases e
      by_cases hf : (isF d && ds.all isF) = true
      · rw [Bool.and_eq_true] at hf
        obtain ⟨p, xs, rfl, h1, h3⟩ := rep_lst hy
        exact .inl ⟨p, xs, rfl, .inl h1, flat_rep hx hf.1, RepA.flat h3 hf.2, inV_rep hx hf.1 h3 hf.2⟩
      · rw [Bool.or_eq_true] at hc
        have hc := hc.resolve_left hf
        rw [Bool.and_eq_true] at hc
        exact .inr (.inl ⟨d, ds, dp_of hc.1 hx, dp_of hc.2 hy, hc.1, hc.2, rfl⟩)
    · cases e
  | tuple ds =>
    have e : (if isF d && ds.all isF then some (ds.any fun z => PyData.eqv z d) else none) = some b := e
    split at e
    · rename_i hf
      cases e
      rw [Bool.and_eq_true] at hf
      obtain ⟨p, xs, rfl, h1, h3⟩ := rep_tup hy
      exact .inl ⟨p, xs, rfl, .inr h1, flat_rep hx hf.1, RepA.flat h3 hf.2, inV_rep hx hf.1 h3 hf.2⟩
    · cases e
  | str z =>
    cases d with
    | str x =>
      have e : (if x.length = 1 then some (decide (x.cps.getD 0 0 ∈ z.cps.toList)) else none) = some b := e
      split at e
      · rename_i h1
        cases e
        cases hx
        cases hy
        exact .inr (.inr ⟨_, z, congrArg V.str (str_one h1), rfl, rfl⟩)
      · cases e
    | none => cases e
    | bool _ => cases e
    | int _ => cases e
    | list _ => cases e
    | tuple _ => cases e
    | dict _ => cases e
  | none => cases e
  | bool _ => cases e
  | int _ => cases e
  | dict _ => cases e
theorem cd_in {K : PySem.W.Frag} : CmpD K (rInA K) dIn := by
  intro O H x y b vx vy Q hx hy e q
  rcases in_core hx hy e with ⟨p, xs, h1, h2, h3, h4, h5⟩ | ⟨d', ds, h1, h2, h3, h4, h5⟩ | ⟨c, z, h1, h2, h3⟩
  · exact .inl ⟨p, xs, h1, h2, h3, h4, by rw [if_neg Bool.false_ne_true, h5]; exact q⟩
  · exact .inr (.inl ⟨d', ds, h1, h2, h3, h4, by rw [h5]; exact q⟩)
  · exact .inr (.inr ⟨c, z, h1, h2, by rw [h3]; exact q⟩)
theorem cd_nin {K : PySem.W.Frag} : CmpD K (rNinA K) dNin := by
  intro O H x y b vx vy Q hx hy e q
  obtain ⟨b', e', rfl⟩ := Option.map_eq_some_iff.mp (show (dIn x y).map (!·) = some b from e)
  rcases in_core hx hy e' with ⟨p, xs, h1, h2, h3, h4, h5⟩ | ⟨d', ds, h1, h2, h3, h4, h5⟩ | ⟨c, z, h1, h2, h3⟩
  · exact .inl ⟨p, xs, h1, h2, h3, h4, by rw [if_pos rfl, h5]; exact q⟩
  · exact .inr (.inl ⟨d', ds, h1, h2, h3, h4, by rw [h5]; exact q⟩)
  · exact .inr (.inr ⟨c, z, h1, h2, by rw [h3]; exact q⟩)
end DL


set_option maxRecDepth 100000
set_option maxHeartbeats 2000000
namespace DL
open PySem PySem.Spec PyProof.Rows L2 RZ

/-! ### a comprehension within one -/
def relabS (scope sc : Scope) : Scope := { scope with names := scope.names.map fun (n, k) => if (k == .free && sc.kind == .function && sc.names.lookup n == some .cell) then (n, .cell) else (n, k) }
theorem blk_nest {X : Cx} {s : Shared} {H : Hp} {scope0 scope : Scope} {cl : List (Str × Addr)} {C : Addr} {fp : List Addr} {own : List (Str × Nat)} (n : List Str) (sc0 : Scope) (hN : X.N = n) (h0 : X.env.scope = sc0) (h : blkC n (relabS scope0 sc0) scope own = true) :
    BlkOk (X.blk s H scope0 (compEnvC scope0 cl C X.env) fp).N (X.blk s H scope0 (compEnvC scope0 cl C X.env) fp).env.scope scope own := by
  subst hN h0
  exact blkOk_by h
/-! ### the module's own names -/
/-- x stands for the data d -/
def Gc (K : PySem.W.Frag) (mg : Str → Option Value) (x : Str) (d : D) : Prop := ∃ u v, mg x = some u ∧ RelV v u ∧ ∀ O H, Rep K O H d v
theorem gc_int {K : PySem.W.Frag} {mg : Str → Option Value} {x : Str} {i : Int} {t : Tok} (h : mg x = some (.int i t)) : Gc K mg x (.int i) := ⟨_, .int i, h, ⟨_, rfl⟩, fun _ _ => rfl⟩
theorem gc_str {K : PySem.W.Frag} {mg : Str → Option Value} {x z : Str} {t : Tok} (h : mg x = some (.str z t)) : Gc K mg x (.str z) := ⟨_, .str z, h, ⟨_, rfl⟩, fun _ _ => rfl⟩
theorem gc_tup2 {K : PySem.W.Frag} {mg : Str → Option Value} {x y z : Str} {p : Addr} {od : Option Addr} {sl : Array (Option Value)} {t u : Tok} {n : Nat} (h : mg x = some (.ref p)) (hl : K.lookup p = some ⟨.type "tuple", od, .seq #[.str y t, .str z u] n, sl⟩) :
    Gc K mg x (.tuple [.str y, .str z]) := ⟨_, .ref p, h, rfl, fun O H => ⟨p, [.str y, .str z], rfl, .inr (.inr ⟨_, _, n, hl, rfl, rfl, by show 2 ≤ sizeLine; decide, .cons ⟨_, rfl⟩ (.cons ⟨_, rfl⟩ .nil)⟩), _, _, rfl, rfl, _, _, rfl, rfl, rfl⟩⟩
section
variable {X : Cx} {W : WX} {e a b : Expr} {ρ : List Slot} {pos p p2 : Pos} {x : Str} {d : D}
theorem ev_glob (h : Gc X.K X.mg x d) (hg : Gl X x := by rfl) (hd : (x == ("__debug__" : Str)) = false := by decide) : EV X W (.Name x pos) ρ (pu d) := by
  obtain ⟨u, v, h1, h2, h3⟩ := h
  exact ev_c (pe_glob hg h1 h2 hd) h3
/-- {} -/
theorem ev_dnil : EV X W (.Dict [] [] pos) ρ (pu (.dict [])) := by
  refine pe_mono pe_dnewK fun σ H Q _ ⟨F, G, τ, at_, q⟩ => ?_
  intro p hp
  exact wp_pu.mp q _ _ G (at_.same (Same.new hp)) (Ke.same (Same.new hp)) (.inl ⟨p, [], rfl, upd_same, at_.gd.nopen hp, rfl⟩)
end
end DL


set_option maxRecDepth 100000
set_option maxHeartbeats 2000000
namespace DL
open PySem PySem.Spec PyProof.Rows L2 RZ

/-! ### comprehensions and loops that only compute -/
theorem mf_map {α : Type} {t : D → M Bool} {f : D → M D} {c : α → D} {g : α → D} : ∀ {xs : List α}, (∀ x ∈ xs, t (c x) = pu true) → (∀ x ∈ xs, f (c x) = pu (g x)) → mf (xs.map c) t f = pu (xs.map g)
  | [], _, _ => rfl
  | x :: xs, h, h' => by
    have ih := mf_map (xs := xs) (fun y m => h y (List.mem_cons_of_mem _ m)) fun y m => h' y (List.mem_cons_of_mem _ m)
    rw [List.map_cons, mf, h x List.mem_cons_self, bd_pu, if_pos rfl, h' x List.mem_cons_self, bd_pu, ih, bd_pu, List.map_cons]
theorem mf_filter {α : Type} {t : D → M Bool} {f : D → M D} {c : α → D} {p : α → Bool} {g : α → D} : ∀ {xs : List α}, (∀ x ∈ xs, t (c x) = pu (p x)) → (∀ x ∈ xs, p x = true → f (c x) = pu (g x)) → mf (xs.map c) t f = pu ((xs.filter p).map g)
  | [], _, _ => rfl
  | x :: xs, h, h' => by
    have ih := mf_filter (xs := xs) (fun y m => h y (List.mem_cons_of_mem _ m)) fun y m => h' y (List.mem_cons_of_mem _ m)
    rw [List.map_cons, mf, h x List.mem_cons_self, bd_pu]
    cases e : p x with
    | false => rw [if_neg Bool.false_ne_true, ih, List.filter_cons_of_neg (by simp [e])]
    | true => rw [if_pos rfl, h' x List.mem_cons_self e, bd_pu, ih, bd_pu, List.filter_cons_of_pos e, List.map_cons]
theorem fo_map {α S L : Type} {body : S → D → M (Fl S S)} {c : α → D} {G : S → α → S} (I : S → Prop) : ∀ {xs : List α} {s : S}, I s → (∀ s x, x ∈ xs → I s → body s (c x) = pu (.nx (G s x)) ∧ I (G s x)) → fo (L := L) body (xs.map c) s = pu (.nx (xs.foldl G s)) ∧ I (xs.foldl G s)
  | [], s, h, _ => ⟨rfl, h⟩
  | x :: xs, s, h, h' => by
    obtain ⟨e, i⟩ := h' s x List.mem_cons_self h
    have ih := fo_map (L := L) I (xs := xs) i fun s y m => h' s y (List.mem_cons_of_mem _ m)
    refine ⟨?_, ih.2⟩
    rw [List.map_cons, fo, e, bd_pu]
    exact ih.1
theorem fo_mapT {α S L : Type} {body : S → D → M (Fl S S)} {c : α → D} {G : S → α → S} {xs : List α} {s : S} (h : ∀ s x, x ∈ xs → body s (c x) = pu (.nx (G s x))) : fo (L := L) body (xs.map c) s = pu (.nx (xs.foldl G s)) :=
  (fo_map (fun _ => True) trivial fun s x m _ => ⟨h s x m, trivial⟩).1
/-- a comprehension that takes from the tape -/
theorem tri_mf {t : D → M Bool} {f : D → M D} {Q : List D → T → Prop} (P : Nat → D → Prop) (I : Nat → T → Prop) (ds : List D) (ht : ∀ d, t d = pu true) {τ : T} (h0 : I 0 τ) (hs : ∀ i d τ, ds[i]? = some d → I i τ → Tri (f d) τ fun x τ' => P i x ∧ I (i + 1) τ')
    (hd : ∀ (xs : List D) τ', xs.length = ds.length → (∀ i x, xs[i]? = some x → P i x) → I ds.length τ' → Q xs τ') : Tri (mf ds t f) τ Q := by
  have key : ∀ (es : List D) (i : Nat) (acc : List D) (τ : T), ds.drop i = es → i ≤ ds.length → acc.length = i → (∀ j x, acc[j]? = some x → P j x) → I i τ → Tri (mf es t f) τ fun xs τ' => Q (acc ++ xs) τ' := by
    intro es
    induction es with
    | nil =>
      intro i acc τ hdr hi ha hp h
      have : ds.length ≤ i := by
        have := congrArg List.length hdr
        simp at this
        omega
      have e : i = ds.length := by omega
      subst e
      simpa [mf] using hd acc τ ha hp h
    | cons d es ih =>
      intro i acc τ hdr hi ha hp h
      have hlt : i < ds.length := by
        have := congrArg List.length hdr
        simp at this
        omega
      have hdd : ds[i]? = some d := by
        have := congrArg (fun l => l[0]?) hdr
        simpa using this
      have hdr' : ds.drop (i + 1) = es := by
        have := congrArg (List.drop 1) hdr
        simpa [List.drop_drop, Nat.add_comm] using this
      rw [mf, ht, bd_pu, if_pos rfl, tri_bd]
      refine (hs i d τ hdd h).mono fun x τ' ⟨px, ix⟩ => ?_
      rw [tri_bd]
      refine (ih (i + 1) (acc ++ [x]) τ' hdr' hlt (by simp [ha]) (fun j y e => ?_) ix).mono fun r τ2 q => ?_
      · by_cases hj : j < acc.length
        · rw [List.getElem?_append_left hj] at e
          exact hp j y e
        · rw [List.getElem?_append_right (by omega)] at e
          have : j - acc.length = 0 := by
            cases hk : j - acc.length with
            | zero => rfl
            | succ k => rw [hk] at e; simp at e
          rw [this] at e
          simp at e
          subst e
          have : j = i := by omega
          rw [this]; exact px
      · rw [tri_pu]
        simpa [List.append_assoc] using q
  have := key ds 0 [] τ (by simp) (Nat.zero_le _) rfl (by simp) h0
  simpa using this
/-! ### rows of ints -/
abbrev tR (r : List Int) : D := .tuple (r.map .int)
abbrev tB (b : List (List Int)) : D := .tuple (b.map tR)
theorem ints_of {P : Nat → D → Prop} {Z : Int → Prop} : ∀ {xs : List D}, (∀ x ∈ xs, ∃ z : Int, x = .int z ∧ Z z) → ∃ zs : List Int, xs = zs.map .int ∧ ∀ z ∈ zs, Z z
  | [], _ => ⟨[], rfl, by simp⟩
  | x :: xs, h => by
    obtain ⟨z, rfl, hz⟩ := h x List.mem_cons_self
    obtain ⟨zs, rfl, hzs⟩ := ints_of (P := P) fun y m => h y (List.mem_cons_of_mem _ m)
    exact ⟨z :: zs, rfl, fun y m => by
      rcases List.mem_cons.mp m with m | m
      · rw [m]; exact hz
      · exact hzs y m⟩
theorem all_of {α : Type} {c : α → D} {Z : α → Prop} : ∀ {xs : List D}, (∀ x ∈ xs, ∃ z, x = c z ∧ Z z) → ∃ zs : List α, xs = zs.map c ∧ ∀ z ∈ zs, Z z
  | [], _ => ⟨[], rfl, by simp⟩
  | x :: xs, h => by
    obtain ⟨z, rfl, hz⟩ := h x List.mem_cons_self
    obtain ⟨zs, rfl, hzs⟩ := all_of fun y m => h y (List.mem_cons_of_mem _ m)
    exact ⟨z :: zs, rfl, fun y m => by
      rcases List.mem_cons.mp m with m | m
      · rw [m]; exact hz
      · exact hzs y m⟩
theorem mem_of_get {α : Type} {Z : α → Prop} {xs : List α} (h : ∀ (i : Nat) (x : α), xs[i]? = some x → Z x) : ∀ x ∈ xs, Z x := fun x m => by
  obtain ⟨i, hi, e⟩ := List.getElem_of_mem m
  exact h i x (by rw [List.getElem?_eq_getElem hi, e])
@[simp] theorem dSum_map (is : List Int) : dSum (.list (is.map .int)) = some (.int is.sum) := by
  show (asInts (is.map .int)).map _ = _
  rw [asInts_map]
  rfl
theorem dSum_mapf {α : Type} (f : α → Int) (xs : List α) : dSum (.list (xs.map fun x => .int (f x))) = some (.int (xs.map f).sum) := by
  have : xs.map (fun x => PyData.int (f x)) = (xs.map f).map .int := by rw [List.map_map]; rfl
  rw [this, dSum_map]
theorem dAll_mapf {α : Type} (f : α → Bool) (xs : List α) : dAll (.list (xs.map fun x => .bool (f x))) = some (.bool (xs.all f)) := by
  have : xs.map (fun x => PyData.bool (f x)) = (xs.map f).map .bool := by rw [List.map_map]; rfl
  rw [this]
  show (asBools ((xs.map f).map .bool)).map _ = _
  rw [asBools_map]
  simp [List.all_map]
theorem dAll_true {α : Type} (xs : List α) : dAll (.list (xs.map fun _ => .bool true)) = some (.bool true) := by
  rw [dAll_mapf]
  simp
@[simp] theorem dLst_l (ds : List D) : dLst (.list ds) = some ds := rfl
@[simp] theorem dLst_t (ds : List D) : dLst (.tuple ds) = some ds := rfl
@[simp] theorem dTup_l (ds : List D) : dTup (.list ds) = some (.tuple ds) := rfl
@[simp] theorem dTup_t (ds : List D) : dTup (.tuple ds) = some (.tuple ds) := rfl
theorem dAdd_tt {xs ys : List D} (h : xs.length + ys.length ≤ 16777216) : dAdd (.tuple xs) (.tuple ys) = some (.tuple (xs ++ ys)) := if_pos h
theorem dAdd_ll {xs ys : List D} (h : xs.length + ys.length ≤ 16777216) : dAdd (.list xs) (.list ys) = some (.list (xs ++ ys)) := if_pos h
theorem sIx_nat (n d k : Nat) : HT.sIx n d (some (k : Int)) = min k n := by
  unfold HT.sIx
  simp
  omega
theorem sIx_none (n d : Nat) : HT.sIx n d none = d := rfl
theorem cut_from (n : Nat) {xs : List D} : cutD xs (some (n : Int)) none = xs.drop n := by
  unfold cutD
  rw [sIx_nat, sIx_none]
  by_cases h : n ≤ xs.length
  · rw [show min n xs.length = n by omega, ← List.length_drop, List.take_length]
  · rw [show min n xs.length = xs.length by omega]
    simp [List.drop_eq_nil_of_le (show xs.length ≤ n by omega)]
theorem cut_to (n : Nat) {xs : List D} : cutD xs none (some (n : Int)) = xs.take n := by
  unfold cutD
  rw [sIx_nat, sIx_none]
  by_cases h : n ≤ xs.length
  · rw [show min n xs.length = n by omega]
    simp
  · rw [show min n xs.length = xs.length by omega]
    simp [List.take_of_length_le (show xs.length ≤ n by omega)]
theorem eqvAll_ints : ∀ (a b : List Int), PyData.eqvAll (a.map .int) (b.map .int) = decide (a = b)
  | [], [] => rfl
  | [], _ :: _ => rfl
  | _ :: _, [] => rfl
  | x :: a, y :: b => by
    rw [List.map_cons, List.map_cons, PyData.eqvAll, eqvAll_ints a b]
    by_cases h : x = y
    · subst h; simp
    · simp [h]
theorem sh_tR (r : List Int) : Sh 2 (tR r) := sh_intt r
theorem sh_tB (b : List (List Int)) : Sh 3 (tB b) := sh_tup fun d m => by
  obtain ⟨r, _, rfl⟩ := List.mem_map.mp m
  exact sh_tR r
theorem sh_tnil : Sh 1 (.tuple []) := sh_tup (n := 0) (by simp)
theorem dEq_tR (a b : List Int) : dEq (tR a) (tR b) = some (decide (a = b)) := by
  rw [dEq_tt ((sh_tR a).mono (by decide)) ((sh_tR b).mono (by decide)), eqvAll_ints]
theorem dNe_tR (a b : List Int) : dNe (tR a) (tR b) = some (!decide (a = b)) := by
  show (dEq _ _).map _ = _
  rw [dEq_tR]
  rfl
theorem rng_get {n : Nat} {i : Nat} {d : D} (h : ((List.range n).map fun (i : Nat) => (PyData.int i))[i]? = some d) : d = .int i ∧ i < n := by
  rw [List.getElem?_map] at h
  obtain ⟨j, hj, e⟩ := Option.map_eq_some_iff.mp h
  have := List.getElem?_eq_some_iff.mp hj
  obtain ⟨h1, h2⟩ := this
  simp at h1 h2
  subst h2
  exact ⟨e.symm, h1⟩
end DL


set_option maxRecDepth 100000
set_option maxHeartbeats 2000000
namespace DL
open PySem PySem.Spec PyProof.Rows L2 RZ

/-! ### enumerate of tuples -/
set_option maxHeartbeats 1000000 in
theorem enum_meets {v : Value} {ob : Obj} {Pv : Heap → Prop} (B : Begins v ob Pv) :
    Meets (Builtin.«enumerate.__new__» ⟨[.type "enumerate", v], []⟩) (fun _ R s => Pv s.heap ∧ R (.ok (.ret (.ref (s.heap.push ob).objs.size))) { s with heap := (s.heap.push ob).push { cls := .type "enumerate", data := .fields #[.none, .bool false, .ref s.heap.objs.size, rawInt 0, .none, .none] } }) :=
  .of_wp fun pr wo A R st hh => by
    obtain ⟨hp, gg, dd, tt, oo⟩ := st; obtain ⟨c1, c2⟩ := hh
    have hsub := sub_enumerate
    have go : ∀ {A' : Around} {Er Qr : Value → Shared → Prop}, Qr (.ref hp.objs.size) ⟨hp.push ob, gg, dd, tt, oo⟩ → wpAny (model pr wo) A' (pyIter v) Qr Er ⟨hp, gg, dd, tt, oo⟩ := fun z => B.iter pr wo _ _ ⟨hp, gg, dd, tt, oo⟩ _ c1 z
    wp_walk using go
    refine wpAny_stack_any fun stk => wpAny_pure ?_
    split
    · rename_i cl _ _ _ _ _
      cases (cl == Value.type "enumerate") <;> (wp_walk using go; exact ⟨_, rfl, c2⟩)
    · (wp_walk using go; exact ⟨_, rfl, c2⟩)
section
variable {prog : Program} {w : World} {A : Around} {Er : Value → Shared → Prop} {s : Shared}
theorem enum_of {v : Value} {ob : Obj} {Pv : Heap → Prop} {Qr : Value → Shared → Prop} (B : Begins v ob Pv) (c1 : Pv s.heap)
    (h : ∀ h', IsEnum h' (s.heap.objs.size + 1) s.heap.objs.size 0 .none → h'.get? s.heap.objs.size = some ob → (∀ b u, s.heap.get? b = some u → h'.get? b = some u) → Qr (.ref (s.heap.objs.size + 1)) { s with heap := h' }) :
    wpAny (model prog w) A (call (.type "enumerate") [v]) Qr Er s := by
  refine callType_new F.called_enumerate (by decide) (F.typeCall_enumerate_1 _) (F.newCall_enumerate_1 _) (fun obj => F.args_object_init_2 obj _) F.entry_enumerate_new (enum_meets B) ⟨c1, ?_⟩
  have sz : (s.heap.push ob).objs.size = s.heap.objs.size + 1 := Heap.size_push ..
  show _ ∧ _
  rw [sz]
  have en : IsEnum ((s.heap.push ob).push { cls := .type "enumerate", data := .fields #[.none, .bool false, .ref s.heap.objs.size, rawInt 0, .none, .none] }) (s.heap.objs.size + 1) s.heap.objs.size 0 .none := by
    have q := Heap.get?_push_size (s.heap.push ob) (o := { cls := .type "enumerate", data := .fields #[.none, .bool false, .ref s.heap.objs.size, rawInt 0, .none, .none] }) rfl
    rw [sz] at q
    exact q
  exact ⟨⟨_, en, rfl⟩, h _ en (Heap.get?_push_of_some _ (Heap.get?_push_size _ B.free)) fun b u z => Heap.get?_push_of_some _ (Heap.get?_push_of_some _ z)⟩
end
theorem enum_endT {prog : Program} {w : World} {A : Around} {Er : Value → Shared → Prop} {s : Shared} {e it a : Addr} {i : Nat} {k : Int} {its : Array Value} {old : Value} {Qr : Option Value → Shared → Prop} (hh : A.handled = none) (he : IsEnum s.heap e it k old) (hi : s.heap.IsTupleIter it a i) (ha : s.heap.IsTuple a its) (hx : its[i]? = none)
    (hQ : ∀ h', Heap.ExtBut it s.heap h' → Qr none { s with heap := h' }) : wpAny (model prog w) A (pyNext (.ref e)) Qr Er s := by
  have ty : s.TypeIs (.ref e) "enumerate" := ⟨_, he, rfl⟩
  unfold pyNext
  refine wpAny_bind (wpAny_attempt (wpAny_callSpecial?_slot (name := Str.ofString "__next__") ty F.slot_enumerate_next (wpAny_call_entry F.slot_enumerate_next ty F.entry_enumerate_next ?_ (F.args_enumerate_next_1 _))))
  show wpAny _ _ (Sem.bind (field (.ref e) 2) _) _ _ _
  refine wpAny_bind (wpAny_field he rfl (x := .ref it) rfl (wpAny_bind (nextOf_tuple_end (show A.in1.handled = none from hh) hi ha hx fun h' x hk hcl => ?_)))
  obtain ⟨ob, h1, h2⟩ := hcl
  exact wpAny_bind (wpAny_isInstance (T := "StopIteration") (b := true) ⟨ob, h1, h2⟩ isSubtype_stop (wpAny_pure (hQ _ hk)))
/-- the tuple at a, each item in a new pair with its number -/
def IteT (K : PySem.W.Frag) (a : Addr) : It :=
  ⟨fun i H => ∃ (xs : List V) (x : V), SqT K H a xs ∧ xs[i]? = some x, fun i H v H' => ∃ T x, v = .ref T ∧ H T = none ∧ H' = upd H T (.tup [.int (i : Nat), x]) ∧ ∀ xs, SqT K H a xs → xs[i]? = some x, fun i H => ∃ xs : List V, SqT K H a xs ∧ xs.length ≤ i⟩
theorem turn_enumT {P : Program} {w : World} {K : PySem.W.Frag} {elts : List Expr} {kk : Nat} {tpos : Pos} (a e it : Addr) (hei : e ≠ it) (hea : it ≠ a) (hae : e ≠ a) :
    Turn P w K (.Tuple elts kk tpos) (IteT K a) [e, it] e (fun i h => (∃ old, IsEnum h e it ((i : Nat) : Int) old) ∧ h.IsTupleIter it a i) where
  mem := by simp
  obj := fun i h st b hb => by
    obtain ⟨⟨old, he⟩, ⟨u, hu, _, hd⟩⟩ := st
    rcases List.mem_cons.mp hb with z | z
    · exact ⟨_, by rw [z]; exact he, fun v q => by cases q⟩
    · exact ⟨u, by rw [List.mem_singleton.mp z]; exact hu, fun v q => by rw [hd] at q; cases q⟩
  keep := fun i h h' st k => by
    obtain ⟨⟨old, he⟩, hi⟩ := st
    exact ⟨⟨old, k e (by simp) _ he⟩, hi.at fun u q => k it (by simp) u q⟩
  item := by
    intro X hP hw hK hc i pins s σ H E I hf st hg
    subst hP hw hK
    obtain ⟨⟨old, he⟩, hit⟩ := st
    obtain ⟨xs, x, hq, hx⟩ := hg
    obtain ⟨its, rv, tu, _⟩ := I.tuple hq
    obtain ⟨u, hu, ru⟩ := rv.get hx
    have el : e < s.heap.objs.size := Heap.lt_size he
    have il : it < s.heap.objs.size := by obtain ⟨_, q, _⟩ := hit; exact Heap.lt_size q
    have hlt : i < its.toArray.size := by
      have := (List.getElem?_eq_some_iff.mp hu).1
      simpa using this
    refine wpAny_pyNext_enum_itemD (Draws.tuple (show X.A.in1.handled = none from I.ok.hd hc) it a (Ne.symm hea) its.toArray) he ⟨hit, tu⟩ hlt hei (by simp [hei, hae]) fun y h' tk hy ho st' hT _ hk => ?_
    have ey : y = u := by
      have hy' : its[i]? = some y := by simpa using hy
      rw [hu] at hy'
      exact (Option.some.inj hy').symm
    subst ey
    refine ⟨_, rfl, wpAny_letOwnedTupleGo_enum (s := { s with heap := h', toks := tk + 1 }) ho fun h2 he2 sb => ?_⟩
    have hT2 : h2.get? s.heap.objs.size = some { cls := .type "tuple", data := .seq #[.int i tk, y] } := (sb.2 _ (Nat.ne_of_gt el)).trans hT
    have nw : ObjOk X.prog X.w (upd H s.heap.objs.size (.tup [.int (i : Nat), x])) h2 s.heap.objs.size (.tup [.int (i : Nat), x]) := ⟨by show 2 ≤ sizeLine; decide, [.int i tk, y], .cons ⟨_, rfl⟩ (.cons ru .nil), ⟨_, hT2, rfl, _, rfl⟩⟩
    have J : Inv X pins σ (upd H s.heap.objs.size (.tup [.int (i : Nat), x])) { s with heap := h2, toks := tk + 1 } :=
      I.turnedNew (ch := [e, it]) (fun b ob hb q => (sb.2 b (fun z => hb (by simp [z]))).trans (hk b ob (fun z => hb (by simp [z])) (fun z => hb (by simp [z])) q)) hf (Nat.le_refl _) nw
    refine ⟨.ref s.heap.objs.size, _, J, rfl, ⟨_, x, rfl, I.hok.fresh (Nat.le_refl _), rfl, fun ys hy => by rw [I.tuple_inj hy hq]; exact hx⟩, ⟨⟨y, ?_⟩, st'.1.at fun u q => (sb.2 it (Ne.symm hei)).trans q⟩, fun b hb => ?_⟩
    · rw [show ((i + 1 : Nat) : Int) = (i : Int) + 1 by omega]
      exact he2
    · have hb' : b < s.heap.objs.size := by
        rcases List.mem_cons.mp hb with z | z
        · rw [z]; exact el
        · rw [List.mem_singleton.mp z]; exact il
      rw [upd_ne (Nat.ne_of_lt hb')]
      exact (hf b hb).1
  done := by
    intro X hP hw hK hc i pins s σ H E I hf st hg
    subst hP hw hK
    obtain ⟨⟨old, he⟩, hit⟩ := st
    obtain ⟨xs, hq, hx⟩ := hg
    obtain ⟨its, rv, tu, _⟩ := I.tuple hq
    obtain ⟨f0, f1, f2, f3, f4, f5⟩ := hf it (by simp)
    have hl := rv.length
    exact enum_endT (I.ok.hd hc) he hit tu (by simp; omega) fun h' eb => ⟨rfl, I.turned (t' := s.toks) (fun b u hb q => eb b u hb q) f0 f1 f3 f4 f5⟩
  self := fun A i s Q E st h => let ⟨⟨_, he⟩, _⟩ := st; wpAny_pyIter_enum he h
def iEnumA (K : PySem.W.Frag) (ta : TA) : TI := fun σ H R => ta σ H fun vs H1 => ∃ a xs, vs = [.ref a] ∧ ((SqL K H1 a xs ∧ R (Ite K a) H1) ∨ (SqT K H1 a xs ∧ R (IteT K a) H1))
theorem pi_enumA {X : Cx} {e : Expr} {ta : TA} {p pos tpos : Pos} {elts : List Expr} {kk : Nat} (hg : Gl X "enumerate") (hm : X.mg "enumerate" = none) (ha : PA X [e] ta) (hs : starEach [e] X.env = [(false, eval e X.env)] := by rfl) :
    PI X (.Tuple elts kk tpos) (.Call (.Name "enumerate" p) [e] [] pos) (iEnumA X.K ta) := by
  refine ⟨fun pins s σ H R I hw => Call_ (ld_blt I hg hm boot_enumerate (PyProof.Rows.callWith_type1 (thn (ha.run pos pins s σ H _ I hw) fun us s1 ⟨vs, H1, J, r1, q1⟩ => ?_) hs rfl))⟩
  obtain ⟨a, xs, ex, q⟩ := q1
  subst ex
  obtain ⟨u, rfl, ru⟩ := r1.one
  cases ru
  have fp : ∀ b ∈ [s1.heap.objs.size + 1, s1.heap.objs.size], FpOk X pins H1 b := fun b hb => by
    have le : s1.heap.objs.size ≤ b := by
      rcases List.mem_cons.mp hb with z | z
      · rw [z]; exact Nat.le_succ _
      · rw [List.mem_singleton.mp z]; exact Nat.le_refl _
    exact J.fpOk le (J.hok.fresh le)
  rcases q with ⟨hq, q⟩ | ⟨hq, q⟩
  · obtain ⟨its, rv, pl, _⟩ := J.list hq
    refine enum_of (begins_list a its.toArray) pl.isList fun h' he hit hk => wpAny_pyIter_enum he ?_
    exact ⟨s1.heap.objs.size + 1, _, _, _, H1, rfl, J.kept (t' := s1.toks) hk, turn_enum a (s1.heap.objs.size + 1) s1.heap.objs.size, ⟨⟨.none, he⟩, ⟨_, hit, rfl, rfl⟩, Nat.succ_ne_self _⟩, fp, q⟩
  · obtain ⟨its, rv, pl, _⟩ := J.tuple hq
    have la : a < s1.heap.objs.size := by obtain ⟨o1, ho1, _⟩ := id pl; exact Heap.lt_size ho1
    refine enum_of (begins_tuple a its.toArray) pl fun h' he hit hk => wpAny_pyIter_enum he ?_
    exact ⟨s1.heap.objs.size + 1, _, _, _, H1, rfl, J.kept (t' := s1.toks) hk, turn_enumT a (s1.heap.objs.size + 1) s1.heap.objs.size (Nat.succ_ne_self _) (Nat.ne_of_gt la) (Nat.ne_of_gt (Nat.lt_succ_of_lt la)), ⟨⟨.none, he⟩, ⟨_, hit, rfl, rfl⟩⟩, fp, q⟩
/-- number and item -/
def enumD : Nat → List D → List D
  | _, [] => []
  | n, d :: ds => .tuple [.int n, d] :: enumD (n + 1) ds
theorem enumD_get : ∀ {ds : List D} {n i : Nat} {d : D}, ds[i]? = some d → (enumD n ds)[i]? = some (.tuple [.int (n + i : Nat), d])
  | [], _, _, _, h => by simp at h
  | x :: ds, n, 0, d, h => by simp at h; subst h; simp [enumD]
  | x :: ds, n, i + 1, d, h => by
    rw [enumD, List.getElem?_cons_succ, enumD_get (n := n + 1) (by simpa using h)]
    rw [show n + 1 + i = n + (i + 1) by omega]
theorem enumD_len : ∀ {ds : List D} {n : Nat}, (enumD n ds).length = ds.length
  | [], _ => rfl
  | x :: ds, n => by rw [enumD, List.length_cons, enumD_len, List.length_cons]
def dEnum : D → Option (List D)
  | .list ds => some (enumD 0 ds)
  | .tuple ds => some (enumD 0 ds)
  | _ => none
theorem num_rep {K : PySem.W.Frag} {O : Addr → Prop} {H : Hp} {Ta : Addr} {d : D} {x : V} {i : Nat} (hO : ∀ p, H p = none → ¬ O p) (hT : H Ta = none) (h : Rep K O H d x) : Rep K O (upd H Ta (.tup [.int (i : Nat), x])) (.tuple [.int (i : Nat), d]) (.ref Ta) :=
  new_tup hO hT ⟨_, _, rfl, rfl, x, [], rfl, h, rfl⟩
theorem itok_enum {K : PySem.W.Frag} {O : Addr → Prop} {H : Hp} {a : Addr} {xs : List V} {ds : List D} (sq : ∀ O' H', Kp O H O' H' → SqL K H' a xs) (h : RepA K O H ds xs) : ItOk K O H (Ite K a) (enumD 0 ds) where
  go := fun i O' H' k hi => by
    rw [enumD_len] at hi
    have hl := h.length
    exact ⟨xs, xs[i]'(by omega), sq O' H' k, by simp⟩
  stop := fun O' H' k => ⟨xs, sq O' H' k, by rw [enumD_len, h.length]; exact Nat.le_refl _⟩
  yld := fun i O' H' x H'' k hO hi y => by
    obtain ⟨Ta, u, rfl, hT, rfl, f1⟩ := y
    rw [enumD_len] at hi
    obtain ⟨u', e1, e2⟩ := RepA.get (i := i) (d := ds[i]'hi) (RepA.kp k _ _ h) (by simp)
    rw [f1 xs (sq O' H' k)] at e1
    cases e1
    refine ⟨Same.new hT, _, enumD_get (List.getElem?_eq_getElem hi), ?_⟩
    rw [Nat.zero_add]
    exact num_rep hO hT e2
theorem itok_enumT {K : PySem.W.Frag} {O : Addr → Prop} {H : Hp} {a : Addr} {xs : List V} {ds : List D} (sq : ∀ O' H', Kp O H O' H' → SqT K H' a xs) (h : RepA K O H ds xs) : ItOk K O H (IteT K a) (enumD 0 ds) where
  go := fun i O' H' k hi => by
    rw [enumD_len] at hi
    have hl := h.length
    exact ⟨xs, xs[i]'(by omega), sq O' H' k, by simp⟩
  stop := fun O' H' k => ⟨xs, sq O' H' k, by rw [enumD_len, h.length]; exact Nat.le_refl _⟩
  yld := fun i O' H' x H'' k hO hi y => by
    obtain ⟨Ta, u, rfl, hT, rfl, f1⟩ := y
    rw [enumD_len] at hi
    obtain ⟨u', e1, e2⟩ := RepA.get (i := i) (d := ds[i]'hi) (RepA.kp k _ _ h) (by simp)
    rw [f1 xs (sq O' H' k)] at e1
    cases e1
    refine ⟨Same.new hT, _, enumD_get (List.getElem?_eq_getElem hi), ?_⟩
    rw [Nat.zero_add]
    exact num_rep hO hT e2
theorem ei_enum {X : Cx} {W : WX} {e : Expr} {ρ : List Slot} {pos p tpos : Pos} {elts : List Expr} {kk : Nat} {m : M D} (he : EV X W e ρ m) (hg : Gl X "enumerate") (hm : X.mg "enumerate" = none) (hs : starEach [e] X.env = [(false, eval e X.env)] := by rfl) :
    EI X W (.Tuple elts kk tpos) (.Call (.Name "enumerate" p) [e] [] pos) ρ (bd m fun x => li (dEnum x)) := by
  refine pi_mono (pi_enumA hg hm (pa_cons (pe_fits he) pa_nil hs) hs) fun σ H R _ ⟨F, G, τ, at_, q⟩ => ?_
  refine ⟨F, G, τ, at_, wp_of q (fun d τ1 z v H1 G1 a1 k1 r1 hf => ?_) fun _ _ z => z⟩
  obtain ⟨ds, e, z9⟩ := wp_li z
  clear z
  unfold dEnum at e
  split at e
  · cases e
    have hl := fits_seq hf (.inl r1)
    obtain ⟨p1, xs, rfl, s1, q1⟩ := rep_lst' r1
    exact ⟨p1, xs, rfl, .inl ⟨s1 _ _ Kp.refl, z9 _ H1 G1 a1 k1 (itok_enum s1 q1) (by rw [enumD_len]; exact hl)⟩⟩
  · cases e
    have hl := fits_seq hf (.inr r1)
    obtain ⟨p1, xs, rfl, s1, q1⟩ := rep_tup' r1
    exact ⟨p1, xs, rfl, .inr ⟨s1 _ _ Kp.refl, z9 _ H1 G1 a1 k1 (itok_enumT s1 q1) (by rw [enumD_len]; exact hl)⟩⟩
  · cases e
end DL


set_option maxRecDepth 100000
set_option maxHeartbeats 2000000
namespace DL
open PySem PySem.Spec PyProof.Rows L2 RZ HT

/-! ### t[::-1] -/
theorem rev_pick (xs : Array Value) : ∀ k, k ≤ xs.size → (List.range k).filterMap (fun (m : Nat) => xs[(((xs.size : Int) - 1) + (m : Int) * (-1)).toNat]?) = (xs.toList.drop (xs.size - k)).reverse
  | 0, _ => by simp
  | k + 1, h => by
    have e : (((xs.size : Int) - 1) + (k : Int) * (-1)).toNat = xs.size - (k + 1) := by omega
    have hd : xs.toList.drop (xs.size - (k + 1)) = xs[xs.size - (k + 1)]'(by omega) :: xs.toList.drop (xs.size - k) := by
      rw [List.drop_eq_getElem_cons (by simp; omega)]
      rw [show xs.size - (k + 1) + 1 = xs.size - k by omega]
      simp
    rw [List.range_succ, List.filterMap_append, rev_pick xs k (by omega), hd, List.reverse_cons]
    congr 1
    simp only [List.filterMap_cons, List.filterMap_nil, e]
    rw [Array.getElem?_eq_getElem (by omega)]
theorem adjust_rev (n : Nat) : Builtin.Slice.sliceAdjust none none (-1) (n : Int) = ((n : Int) - 1, -1) := by
  unfold Builtin.Slice.sliceAdjust
  simp
theorem places_rev (n : Nat) : Builtin.Slice.slicePlaces ((n : Int) - 1) (-1) (-1) = n := by
  unfold Builtin.Slice.slicePlaces
  have h1 : ¬ ((-1 : Int) > 0) := by omega
  simp only [h1, if_false]
  split <;> simp <;> omega
section
variable {prog : Program} {w : World} {A : Around} {Er : Value → Shared → Prop} {s : Shared}
theorem applied_rev {sl : Addr} {vs : Value} {n : Nat} {Qr : Int × Int × Nat → Shared → Prop} (hs : s.heap.IsSliceOf sl .none .none vs) (ps : IsPart vs (some (-1))) (h : Qr ((n : Int) - 1, -1, n) s) :
    wpAny (model prog w) A (Builtin.Slice.sliceApplied (.ref sl) (pure (n : Int))) Qr Er s := by
  obtain ⟨u, hu, hc, hd⟩ := id hs
  unfold Builtin.Slice.sliceApplied Builtin.Slice.sliceFields
  refine wpAny_bind (wpAny_bind (wpAny_field hu hd (x := .none) rfl (wpAny_bind (wpAny_field hu hd (x := .none) rfl (wpAny_bind (wpAny_field hu hd (x := vs) rfl (wpAny_pure ?_)))))))
  refine wpAny_bind (slicePart_ ps ?_)
  show wpAny _ _ (if ((-1 : Int) == 0) = true then _ else _) _ _ s
  rw [if_neg (show ¬ (((-1 : Int) == 0) = true) by decide)]
  refine wpAny_bind (slicePart_none (wpAny_bind (slicePart_none (wpAny_bind (wpAny_pure ?_)))))
  show wpAny _ _ (match Builtin.Slice.sliceAdjust none none (-1) (n : Int) with | (lo, hi) => pure (lo, (-1 : Int), Builtin.Slice.slicePlaces lo hi (-1))) _ _ s
  rw [adjust_rev]
  show wpAny _ _ (pure ((n : Int) - 1, (-1 : Int), Builtin.Slice.slicePlaces ((n : Int) - 1) (-1) (-1))) _ _ s
  rw [places_rev]
  exact wpAny_pure h
theorem getT_rev {t sl : Addr} {its : Array Value} {vs : Value} {Qr : Value → Shared → Prop} (ht : IsTup s.heap t its) (hs : s.heap.IsSliceOf sl .none .none vs) (ps : IsPart vs (some (-1)))
    (h : Qr (.ref s.heap.objs.size) { s with heap := s.heap.push { cls := .type "tuple", data := .seq its.toList.reverse.toArray } }) (hz : its.size ≤ sizeLine) : wpAny (model prog w) A (getItem (.ref t) (.ref sl)) Qr Er s := by
  have sz : sizeOk (.seq its.toList.reverse.toArray) := by
    show its.toList.reverse.toArray.size ≤ sizeLine
    simpa using hz
  obtain ⟨u, hu, hc, hd⟩ := id hs
  have ty : s.TypeIs (.ref sl) "slice" := ⟨u, hu, hc⟩
  unfold getItem
  (try with_reducible refine wpAny_holding ?_)
  (first | refine wpAny_bind (wpAny_pure ?_) | skip)
  refine wpAny_bind (wpAny_sequenceKey ht.typeIs (by decide) (wpAny_bind (wpAny_callSpecial?_slot (name := Str.ofString "__getitem__") ht.typeIs PyProof.Rows.slot_tuple_getitem (wpAny_call_entry PyProof.Rows.slot_tuple_getitem ht.typeIs entry_tuple_getitem ?_ (args_tuple_getitem _ _)))))
  show wpAny _ _ (Sem.bind (Builtin.Tuple.tupleItemsOf (.ref t)) _) _ _ s
  refine wpAny_bind (tupleItemsOf_ ht (wpAny_bind (wpAny_typeOf ty ?_)))
  rw [if_pos (show _ = true by decide)]
  refine wpAny_bind (applied_rev hs ps ?_)
  have no : ¬ ((((its.size : Int) - 1) == 0 && (-1 : Int) == 1 && its.size == its.size) = true) := by
    intro q
    rw [Bool.and_eq_true, Bool.and_eq_true] at q
    exact absurd q.1.2 (by decide)
  show wpAny _ _ (if (((its.size : Int) - 1) == 0 && (-1 : Int) == 1 && its.size == its.size) = true then _ else _) _ _ s
  rw [if_neg no]
  have pk : ((List.range its.size).filterMap fun (m : Nat) => its[(((its.size : Int) - 1) + (m : Int) * (-1)).toNat]?).toArray = its.toList.reverse.toArray := by
    rw [rev_pick its its.size (Nat.le_refl _)]
    simp
  rw [pk]
  first
    | exact wpAny_bind (m := Builtin.Tuple.tupleExact _) (wpAny_newObj_type (wpAny_pure ⟨_, rfl, wpAny_pure h⟩) sz)
    | exact wpAny_bind (m := Builtin.Tuple.tupleExact _) (wpAny_newObj_type (wpAny_bind (wpAny_pure (wpAny_pure ⟨_, rfl, wpAny_pure h⟩))) sz)
    | exact wpAny_bind (wpAny_bind (m := Builtin.Tuple.tupleExact _) (wpAny_newObj_type (wpAny_pure (wpAny_pure ⟨_, rfl, wpAny_pure h⟩)) sz))
    | exact wpAny_bind (wpAny_bind (m := Builtin.Tuple.tupleExact _) (wpAny_newObj_type (wpAny_pure ⟨_, rfl, wpAny_pure h⟩) sz))
end
def tRevA (K : PySem.W.Frag) (te : TE) : TE := fun σ H Q => te σ H fun x H1 => ∃ a xs, x = .ref a ∧ ((SqL K H1 a xs ∧ ∀ p, H1 p = none → Q (.ref p) (upd H1 p (.lst xs.reverse))) ∨ (SqT K H1 a xs ∧ ∀ p, H1 p = none → Q (.ref p) (upd H1 p (.tup xs.reverse))))
section
variable {X : Cx} {W : WX} {e : Expr} {te : TE} {k : Nat} {p1 p2 p3 pos : Pos} {ρ : List Slot}
theorem pe_revA (he : PE X e te) : PE X (.Subscript e (.Slice none none (some (.UnaryOp .USub (.Constant (.int 1) k p1) p2)) p3) pos) (tRevA X.K te) := by
  refine ⟨fun pins s σ H Q I hw => Subscript_ (thn (he.run pins s σ H _ I hw) fun v s1 ⟨x, H1, I1, r1, a, xs, ex, q⟩ => ?_)⟩
  subst ex
  cases r1
  have hst : PO X (some (.UnaryOp .USub (.Constant (.int 1) k p1) p2)) (tPart (tUn (rU fun i => .int (-i)) (tC (.int 1)))) := po_some (pe_un un_neg pe_int)
  refine wpAny_Slice (thn (po_none.run pins s1 σ H1 (fun o h => o = none ∧ h = H1) I1 ⟨rfl, rfl⟩) fun vl s2 ⟨l, H2, I2, pl, el, e2⟩ => ?_)
  subst el e2
  refine thn (po_none.run pins s2 σ H2 (fun o h => o = none ∧ h = H2) I2 ⟨rfl, rfl⟩) fun vu s3 ⟨u, H3, I3, pu, eu, e3⟩ => ?_
  subst eu e3
  refine thn (hst.run pins s3 σ H3 (fun o h => o = some (-1) ∧ h = H3) I3 ⟨1, rfl, -1, rfl, rfl, rfl⟩) fun vs s4 ⟨o, H4, I4, ps, eo, e4⟩ => ?_
  subst eo e4
  cases pl
  cases pu
  have J : Inv X pins σ H4 { s4 with heap := s4.heap.push { cls := .type "slice", data := .fields #[.none, .none, vs] } } := I4.kept (t' := s4.toks) fun b ob z => Heap.get?_push_of_some _ z
  have isl := Heap.IsSliceOf.new s4.heap .none .none vs
  show wpAny (model X.prog X.w) X.A (subscriptTail e (.Slice none none (some (.UnaryOp .USub (.Constant (.int 1) k p1) p2)) p3) (.ref a) (.ref s4.heap.objs.size)) (L2.EP X pins σ Q) X.xe _
  rcases q with ⟨hx, q⟩ | ⟨hx, q⟩
  · obtain ⟨its, r, ht, hz⟩ := J.list hx
    have hlen := r.length
    refine tail_any (ops := [.ref a, .ref s4.heap.objs.size]) ht.isList.typeIs PySem.slot_list_getitem.lookup (wpAny_getItem_list_slice ht.isList isl .none .none ps (by decide) ?_ (by rw [List.size_toArray]; omega)) (by with_unfolding_all rfl)
    rw [PySem.W.krv_pick]
    exact ⟨.ref _, _, J.laid (t' := s4.toks) (o := .lst xs.reverse) (fun b ob z => Heap.get?_push_of_some _ z) (Nat.le_refl _) ⟨by rw [List.length_reverse]; exact hz, _, 0, r.reverse, Heap.get?_push_size _ rfl⟩, rfl, q _ (J.hok.fresh (Nat.le_refl _))⟩
  · obtain ⟨its, r, ht, hz⟩ := J.tuple hx
    have hlen := r.length
    refine tail_any (ops := [.ref a, .ref s4.heap.objs.size]) ht.typeIs PyProof.Rows.slot_tuple_getitem.lookup (getT_rev ht isl ps ?_ (by rw [List.size_toArray]; omega)) (by with_unfolding_all rfl)
    exact ⟨.ref _, _, J.laid (t' := s4.toks) (o := .tup xs.reverse) (fun b ob z => Heap.get?_push_of_some _ z) (Nat.le_refl _) ⟨by rw [List.length_reverse]; exact hz, _, r.reverse, IsTup.new _ _⟩, rfl, q _ (J.hok.fresh (Nat.le_refl _))⟩
def dRev : D → Option D
  | .list ds => some (.list ds.reverse)
  | .tuple ds => some (.tuple ds.reverse)
  | _ => none
theorem RepA.rev {K : PySem.W.Frag} {O : Addr → Prop} {H : Hp} : ∀ {ds : List D} {xs : List V}, RepA K O H ds xs → RepA K O H ds.reverse xs.reverse
  | [], _, h => by
    have e : _ = _ := h
    subst e
    exact rfl
  | d :: ds, _, ⟨v, r, e, h1, h2⟩ => by
    subst e
    rw [List.reverse_cons, List.reverse_cons]
    exact RepA.append (RepA.rev h2) (RepA.one h1)
theorem ev_rev {m : M D} (he : EV X W e ρ m) : EV X W (.Subscript e (.Slice none none (some (.UnaryOp .USub (.Constant (.int 1) k p1) p2)) p3) pos) ρ (bd m fun x => li (dRev x)) := by
  refine pe_mono (pe_revA he) fun σ H Q _ ⟨F, G, τ, at_, q⟩ => ?_
  refine ⟨F, G, τ, at_, wp_of q (fun d τ1 z v H1 G1 a1 k1 r1 => ?_) fun _ _ z => z⟩
  obtain ⟨d', hd, z⟩ := wp_li z
  have hO : ∀ p, H1 p = none → ¬ G1.O p := fun p hp => a1.gd.nopen hp
  unfold dRev at hd
  split at hd
  · cases hd
    obtain ⟨ad, xs, rfl, h1, h3⟩ := rep_lst r1
    exact ⟨ad, xs, rfl, .inl ⟨h1, fun p hp => z _ _ G1 (a1.same (Same.new hp)) (k1.trans (Ke.same (Same.new hp))) (new_lst hO hp (RepA.rev h3))⟩⟩
  · cases hd
    obtain ⟨ad, xs, rfl, h1, h3⟩ := rep_tup r1
    exact ⟨ad, xs, rfl, .inr ⟨h1, fun p hp => z _ _ G1 (a1.same (Same.new hp)) (k1.trans (Ke.same (Same.new hp))) (new_tup hO hp (RepA.rev h3))⟩⟩
  · cases hd
end
end DL


set_option maxRecDepth 100000
set_option maxHeartbeats 4000000
namespace DL
open PySem PySem.Spec PyProof.Rows L2

/-! ### a tuple some times over, also once, or not at all -/
theorem tmul_same (l : Addr) (its : Array Value) (n : Nat) (dd : Option Addr) (sl : Array (Option Value)) (x : Int) (u : Tok)
    (c0 : (decide (x < -(2 ^ 63)) || decide (x ≥ 2 ^ 63)) = false) (c1 : (its.isEmpty || x == 1) = true) :
    Meets (Builtin.«tuple.__mul__» ⟨[.ref l, .int x u], []⟩) fun _ R s => s.heap.get? l = some { cls := .type "tuple", dict := dd, data := .seq its n, slots := sl } ∧ R (.ok (.ret (Value.ref l))) { s with heap := s.heap, toks := s.toks } :=
  .of_wp fun prog w A R s h => by
    obtain ⟨hp, g, d, tk, os⟩ := s
    obtain ⟨hl, h⟩ := h
    have f1 := AutoSeq1.idx_int
    wp_walk using wpAny_loadPart' hl
    refine wpAny_ite_false (decide_eq_false (by rw [c0]; exact Bool.false_ne_true)) ?_
    wp_walk using wpAny_loadPart' hl
    exact ⟨_, rfl, h⟩
theorem tmul_none (l : Addr) (its : Array Value) (n : Nat) (dd : Option Addr) (sl : Array (Option Value)) (x : Int) (u : Tok)
    (c0 : (decide (x < -(2 ^ 63)) || decide (x ≥ 2 ^ 63)) = false) (c1 : (its.isEmpty || x == 1) = false) (c2 : (decide (x ≤ 0) || its.isEmpty) = true) :
    Meets (Builtin.«tuple.__mul__» ⟨[.ref l, .int x u], []⟩) fun _ R s => s.heap.get? l = some { cls := .type "tuple", dict := dd, data := .seq its n, slots := sl } ∧
      R (.ok (.ret (Value.ref s.heap.objs.size))) { s with heap := s.heap.push { cls := Value.type "tuple", data := Data.seq #[] }, toks := s.toks } :=
  .of_wp fun prog w A R s h => by
    obtain ⟨hp, g, d, tk, os⟩ := s
    obtain ⟨hl, h⟩ := h
    have f1 := AutoSeq1.idx_int
    wp_walk using wpAny_loadPart' hl
    repeat first
      | (refine wpAny_ite_false (decide_eq_false (by rw [c0]; decide)) ?_; wp_walk using wpAny_loadPart' hl)
      | (refine wpAny_ite_false (decide_eq_false (by rw [c1]; decide)) ?_; wp_walk using wpAny_loadPart' hl)
      | (refine wpAny_ite_true (decide_eq_true c2) ?_; wp_walk using wpAny_loadPart' hl)
    exact ⟨_, rfl, h⟩
def rMulT (K : PySem.W.Frag) : R2 := fun x y H Q => ∃ l k xs, x = .ref l ∧ y = .int k ∧ SqT K H l xs ∧ -(2 ^ 63) ≤ k ∧ k ≤ 1000 ∧ xs.length ≤ 1000 ∧
  ((xs = [] ∨ k = 1) → Q (.ref l) H) ∧ (xs ≠ [] → k ≠ 1 → ∀ p, H p = none → Q (.ref p) (upd H p (.tup (List.replicate k.toNat xs).flatten)))
section
variable {X : Cx}
theorem op_mulT : OpR X (binaryOp .Mult) (rMulT X.K) := by
  intro pins s σ H x y v u Q I rx ry h
  obtain ⟨l, k, xs, rfl, rfl, hT, k0, k1, hz, q1, q2⟩ := h
  by_cases big : xs ≠ [] ∧ 2 ≤ k
  · exact op_repT pins s σ H _ _ v u Q I rx ry ⟨l, k, xs, rfl, rfl, hT, big.1, big.2, k1, hz, q2 big.1 (by omega)⟩
  cases rx
  obtain ⟨t, rfl⟩ := ry
  obtain ⟨its, r, ⟨⟨cls, dd, data, sl⟩, ho, hc, n, hd⟩, hs⟩ := I.tuple hT
  simp only at hc hd
  subst hc hd
  have hl := r.length
  have c0 : (decide (k < -(2 ^ 63)) || decide (k ≥ 2 ^ 63)) = false := by
    rw [decide_eq_false (by omega), decide_eq_false (by omega)]
    rfl
  by_cases one : xs = [] ∨ k = 1
  · have c1 : (its.toArray.isEmpty || k == 1) = true := by
      rcases one with z | z
      · subst z
        have : its = [] := List.eq_nil_of_length_eq_zero (by rw [← hl]; rfl)
        subst this
        rfl
      · subst z
        rw [Bool.or_eq_true]
        exact .inr rfl
    refine wpAny_binaryOp_repeat_ref (T := "tuple") (U := "int") (by decide) ⟨_, ho, rfl⟩ (fun s' => typeIs_int s' k t) noFill_tuple_mul F.fills_int_mul F.slot_int_rmul repeat_tuple F.slot_int_index.lookup
      (call_meets F.slot_int_rmul (typeIs_int s k t) F.entry_int_rmul (F.args_int_rmul_2 _ _) (int_rmul_tuple k t l its.toArray n dd sl)
        ⟨ho, rfl, ⟨_, ho, rfl⟩, call_meets F.slot_tuple_mul ⟨_, ho, rfl⟩ F.entry_tuple_mul (F.args_tuple_mul_2 _ _) (tmul_same l its.toArray n dd sl k t c0 c1) ⟨ho, ?_⟩⟩)
    exact ⟨.ref l, H, I, rfl, q1 one⟩
  · have xn : xs ≠ [] := fun z => one (.inl z)
    have kn : k ≠ 1 := fun z => one (.inr z)
    have hn : its ≠ [] := fun z => xn (by rw [z] at hl; exact List.eq_nil_of_length_eq_zero hl)
    have hi : its.toArray.isEmpty = false := by
      cases its with
      | nil => exact absurd rfl hn
      | cons a b => rfl
    have k3 : k ≤ 0 := by
      have : ¬ 2 ≤ k := fun z => big ⟨xn, z⟩
      omega
    have c1 : (its.toArray.isEmpty || k == 1) = false := by
      rw [hi, Bool.false_or]
      exact beq_eq_false_iff_ne.mpr kn
    have c2 : (decide (k ≤ 0) || its.toArray.isEmpty) = true := by
      rw [decide_eq_true k3]
      rfl
    refine wpAny_binaryOp_repeat_ref (T := "tuple") (U := "int") (by decide) ⟨_, ho, rfl⟩ (fun s' => typeIs_int s' k t) noFill_tuple_mul F.fills_int_mul F.slot_int_rmul repeat_tuple F.slot_int_index.lookup
      (call_meets F.slot_int_rmul (typeIs_int s k t) F.entry_int_rmul (F.args_int_rmul_2 _ _) (int_rmul_tuple k t l its.toArray n dd sl)
        ⟨ho, rfl, ⟨_, ho, rfl⟩, call_meets F.slot_tuple_mul ⟨_, ho, rfl⟩ F.entry_tuple_mul (F.args_tuple_mul_2 _ _) (tmul_none l its.toArray n dd sl k t c0 c1 c2) ⟨ho, ?_⟩⟩)
    have e : (List.replicate k.toNat xs).flatten = [] := by
      rw [show k.toNat = 0 by omega]
      rfl
    have q := q2 xn kn s.heap.objs.size (I.hok.fresh (Nat.le_refl _))
    rw [e] at q
    refine ⟨.ref s.heap.objs.size, _, I.laid (t' := s.toks) (o := .tup []) (fun b ob q => Heap.get?_push_of_some _ q) (Nat.le_refl _) ?_, rfl, q⟩
    exact ⟨Nat.zero_le _, [], .nil, IsTup.new _ _⟩
end
def dMulT : D → D → Option D
  | .tuple xs, .int k => if -(2 ^ 63) ≤ k ∧ k ≤ 1000 ∧ xs.length ≤ 1000 then some (.tuple (List.replicate k.toNat xs).flatten) else none
  | _, _ => none
theorem rep_nil (n : Nat) : (List.replicate n ([] : List D)).flatten = [] := by
  induction n with
  | zero => rfl
  | succ n ih => rw [List.replicate_succ, List.flatten_cons, ih]; rfl
theorem od_mulT {K : PySem.W.Frag} : OpD K (rMulT K) dMulT := by
  intro O H x y d vx vy Q hO hx hy hg q
  unfold dMulT at hg
  split at hg
  · split at hg
    · rename_i xs k hz
      cases hg
      cases hy
      have hx' := hx
      obtain ⟨a, as, rfl, h1, h3⟩ := rep_tup hx
      have hl := h3.length
      refine ⟨a, k, as, rfl, rfl, h1, hz.1, hz.2.1, by omega, fun z => ?_, fun _ _ p hp => q _ _ (Same.new hp) (new_tup hO hp (RepA.rep h3 _))⟩
      have e : (List.replicate k.toNat xs).flatten = xs := by
        rcases z with z | z
        · subst z
          have : xs = [] := List.eq_nil_of_length_eq_zero (by rw [← hl]; rfl)
          subst this
          exact rep_nil _
        · subst z
          simp
      rw [e] at q
      exact q _ H (same_refl H) hx'
    · cases hg
  · cases hg
theorem ev_mulT {X : Cx} {W : WX} {a b : Expr} {ρ : List Slot} {pos : Pos} {ma mb : M D} (ha : EV X W a ρ ma) (hb : EV X W b ρ mb) : EV X W (.BinOp a .Mult b pos) ρ (bd ma fun x => bd mb fun y => li (dMulT x y)) := ev_op op_mulT od_mulT ha hb
end DL


set_option maxRecDepth 100000
set_option maxHeartbeats 2000000
namespace DL
open PySem PySem.Spec PyProof.Rows L2

/-! ### new lists by two-place operations -/
def dCat : D → D → Option (List D)
  | .list xs, .list ys => if xs.length + ys.length ≤ 16777216 then some (xs ++ ys) else none
  | _, _ => none
def dRepL : D → D → Option (List D)
  | .list xs, .int k => if -(2 ^ 63) ≤ k ∧ k < 2 ^ 63 ∧ xs.length * k.toNat ≤ 16777216 then some (List.replicate k.toNat xs).flatten else none
  | _, _ => none
theorem dCat_ll {xs ys : List D} (h : xs.length + ys.length ≤ 16777216) : dCat (.list xs) (.list ys) = some (xs ++ ys) := if_pos h
section
variable {X : Cx} {W : WX} {a b : Expr} {ρ : List Slot} {pos : Pos}
/-- an operation that makes a new list -/
def OpO (K : PySem.W.Frag) (r : R2) (g : D → D → Option (List D)) : Prop := ∀ (O : Addr → Prop) (H : Hp) (x y : D) (ds : List D) (vx vy : V) (Q : VK), Rep K O H x vx → Rep K O H y vy → g x y = some ds →
  (∀ l xs, H l = none → RepA K O H ds xs → Q (.ref l) (upd H l (.lst xs))) → r vx vy H Q
theorem eo_op {op : Operator} {r : R2} {g : D → D → Option (List D)} {ma mb : M D} (ho : OpR X (binaryOp op) r) (hd : OpO X.K r g) (ha : EV X W a ρ ma) (hb : EV X W b ρ mb) : EO X W (.BinOp a op b pos) ρ (bd ma fun x => bd mb fun y => li (g x y)) := by
  refine pe_mono (pe_op ho ha hb) fun σ H Q _ h => ?_
  obtain ⟨F, G, τ, at_, q⟩ := h
  refine ⟨F, G, τ, at_, wp_of q (fun x τ1 z vx H1 G1 a1 k1 r1 => ?_) fun e τ1 z => z⟩
  refine ⟨F, G1, τ1, a1, wp_of z (fun y τ2 z2 vy H2 G2 a2 k2 r2 => ?_) fun e τ2 z2 => z2.kp k1⟩
  obtain ⟨ds, e, z2⟩ := wp_li z2
  refine hd G2.O H2 x y ds vx vy Q (Rep.kp k2.p _ _ r1) r2 e fun l xs hl r3 => ?_
  obtain ⟨a3, k3⟩ := a2.open hl (.lst xs)
  exact z2 l xs _ _ a3 ((k1.trans k2).trans k3) upd_same (RepA.kp k3.p _ _ r3) (.inr rfl) (a2.al_ne hl) (none_back (k1.trans k2) hl)
theorem oo_cat {K : PySem.W.Frag} : OpO K rCat dCat := by
  intro O H x y ds vx vy Q hx hy hg q
  unfold dCat at hg
  split at hg
  · split at hg
    · rename_i xs ys hz
      cases hg
      obtain ⟨a, as, rfl, h1, h2, h3⟩ := hx
      obtain ⟨b, bs, rfl, g1, g2, g3⟩ := hy
      exact ⟨a, b, as, bs, rfl, rfl, h1, g1, by rw [sizeLine_eq, h3.length, g3.length]; exact hz, fun p hp => q p _ hp (RepA.append h3 g3)⟩
    · cases hg
  · cases hg
theorem oo_rep {K : PySem.W.Frag} : OpO K rRep dRepL := by
  intro O H x y ds vx vy Q hx hy hg q
  unfold dRepL at hg
  split at hg
  · split at hg
    · rename_i xs k hz
      cases hg
      obtain ⟨a, as, rfl, h1, h2, h3⟩ := hx
      cases hy
      exact ⟨a, _, as, rfl, rfl, h1, hz.1, hz.2.1, by rw [sizeLine_eq, h3.length]; exact hz.2.2, fun p hp => q p _ hp (RepA.rep h3 _)⟩
    · cases hg
  · cases hg
theorem eo_cat {ma mb : M D} (ha : EV X W a ρ ma) (hb : EV X W b ρ mb) : EO X W (.BinOp a .Add b pos) ρ (bd ma fun x => bd mb fun y => li (dCat x y)) := eo_op op_cat oo_cat ha hb
theorem eo_rep {ma mb : M D} (ha : EV X W a ρ ma) (hb : EV X W b ρ mb) : EO X W (.BinOp a .Mult b pos) ρ (bd ma fun x => bd mb fun y => li (dRepL x y)) := eo_op op_rep oo_rep ha hb
/-- x & y, bit by bit -/
def dBand : D → D → Option D
  | .int i, .int j => some (.int (Builtin.bitAnd i j))
  | _, _ => none
theorem od_band {K : PySem.W.Frag} : OpD K (rI0 fun i j => .int (Builtin.bitAnd i j)) dBand := by
  intro O H x y d vx vy Q hO hx hy hg q
  unfold dBand at hg
  split at hg
  · cases hx; cases hy; cases hg
    exact ⟨_, _, rfl, rfl, q _ H (same_refl H) rfl⟩
  · cases hg
theorem ev_band {ma mb : M D} (ha : EV X W a ρ ma) (hb : EV X W b ρ mb) : EV X W (.BinOp a .BitAnd b pos) ρ (bd ma fun x => bd mb fun y => li (dBand x y)) := ev_op op_and od_band ha hb
end
end DL


set_option maxRecDepth 100000
set_option maxHeartbeats 2000000
namespace DL
open PySem PySem.Spec PyProof.Rows L2

/-! ### repr, of data that may hold empty dicts -/
mutual
def okR : D → Bool
  | .none | .bool _ | .int _ | .str _ => true
  | .list xs => okRs xs
  | .tuple xs => okRs xs
  | .dict kvs => kvs.isEmpty
def okRs : List D → Bool
  | [] => true
  | x :: xs => okR x && okRs xs
end
mutual
theorem okR_of : ∀ d : D, PyData.canLay0 d = true → okR d = true
  | .none, _ => by simp only [okR]
  | .bool _, _ => by simp only [okR]
  | .int _, _ => by simp only [okR]
  | .str _, _ => by simp only [okR]
  | .list xs, h => by
    simp only [okR]
    exact okRs_of xs (by simpa [PyData.canLay0] using h)
  | .tuple xs, h => by
    simp only [okR]
    exact okRs_of xs (by simpa [PyData.canLay0] using h)
  | .dict _, h => by simp [PyData.canLay0] at h
theorem okRs_of : ∀ ds : List D, PyData.canLayAll0 ds = true → okRs ds = true
  | [], _ => by simp only [okRs]
  | d :: ds, h => by
    have h' : d.canLay0 = true ∧ PyData.canLayAll0 ds = true := by simpa [PyData.canLayAll0] using h
    simp only [okRs, okR_of d h'.1, okRs_of ds h'.2, Bool.and_self]
end
section
variable {X : Cx} {pins : List (Addr × Obj)} {σ : L2.St} {H : Hp} {s : Shared} {O : Addr → Prop} {prog : Program} {w : World}
/-- an empty dict of the heap -/
theorem dict_nil (I : L2.Inv X pins σ H s) {a : Addr} {xs : List (Key × V)} (e : H a = some (.dK xs)) (hx : xs = []) :
    (a == sysModules) = false ∧ ∃ o es n, s.heap.get? a = some o ∧ o.cls = .type "dict" ∧ o.data = .dict es n ∧ es.toList = [] := by
  subst hx
  obtain ⟨_, hs, vs, rel, o, es, ep, h1, h2, h3, h4, h5, h6⟩ := dk_of I.hok e
  have hv : vs = [] := by
    cases vs with
    | nil => rfl
    | cons v vs => cases rel
  subst hv
  refine ⟨hs, o, es, ep, h1, h2.1, h3, ?_⟩
  have := h5.length
  cases hl : es.toList with
  | nil => rfl
  | cons x l => rw [hl] at h5; cases h5
theorem repK_nil {K : PySem.W.Frag} {kvs : List (D × D)} {xs : List (Key × V)} (h : RepK K O H kvs xs) (e : kvs.isEmpty = true) : xs = [] := by
  cases kvs with
  | nil => exact h
  | cons k r => cases e
mutual
theorem rep_repr (I : L2.Inv X pins σ H s) : ∀ (d : D) (v : V) (u : Value), okR d = true → Rep X.K O H d v → RelV v u → d.showable = true → d.shown.length ≤ sizeLine →
    (∃ as, Reads s.heap u d as) ∧ ∃ bs, ReadAtMost s.heap d.depth bs ∧ ReprK prog w bs s.heap d.depth u d.shown
  | .none, _, _, _, h, r, _, _ => by
    cases h; cases r
    exact ⟨⟨_, Reads.none⟩, [], (fun _ h => nomatch h), by simp only [PyData.shown]; exact .of_is ReprIs.none _ _ _⟩
  | .bool b, _, _, _, h, r, _, _ => by
    cases h; cases r
    exact ⟨⟨_, Reads.bool b⟩, [], (fun _ h => nomatch h), by simp only [PyData.shown]; exact .of_is (ReprIs.bool b) _ _ _⟩
  | .int i, _, _, _, h, r, hs, _ => by
    cases h
    obtain ⟨t, rfl⟩ := r
    exact ⟨⟨_, Reads.int i t⟩, [], (fun _ h => nomatch h), by simp only [PyData.shown]; exact .of_is (ReprIs.int t (by simpa [PyData.showable] using hs)) _ _ _⟩
  | .str x, _, _, _, h, r, _, hz => by
    cases h
    obtain ⟨t, rfl⟩ := r
    exact ⟨⟨_, Reads.str x t⟩, [], (fun _ h => nomatch h), by simp only [PyData.shown]; exact .of_is (ReprIs.str x t (by simpa only [PyData.shown] using hz)) _ _ _⟩
  | .list xs, _, _, ok, h, r, hs, hz => by
    obtain ⟨a, vs, rfl, sq, ra⟩ := rep_lst h
    cases r
    obtain ⟨its, rv, ⟨o, n, ho, hc, _, hd⟩, _⟩ := I.list sq
    have hz' : (listText (PyData.shownAll xs)).length ≤ sizeLine := by simpa only [PyData.shown] using hz
    obtain ⟨⟨as, h4⟩, bs, hb, hk⟩ := rep_reprs I xs vs its (by simpa only [okR] using ok) ra rv (by simpa [PyData.showable] using hs) (fun t ht => Nat.le_trans (listText_mem_le ht) hz')
    have rd : Reads s.heap (.ref a) (.list xs) _ := .list ho hc hd h4
    have hna : a ∉ bs := not_mem_of_deeper rd (by simp only [PyData.depth]; omega) hb
    refine ⟨⟨_, rd⟩, a :: bs, ReadAtMost.cons rd (by simp only [PyData.depth]; omega) hb, ?_⟩
    simp only [PyData.depth, PyData.shown]
    cases its with
    | nil =>
      have h4' : ReadsAll s.heap [] xs _ := h4
      cases h4'
      simp only [PyData.shownAll, listText_nil]
      exact ReprK.listEmpty ho hc hd
    | cons x l => exact ReprK.list ho hc hd hna (by simpa using hk.length_eq) (fun i y e => hk.item i y (by simpa using e))
  | .tuple xs, _, _, ok, h, r, hs, hz => by
    obtain ⟨a, vs, rfl, sq, ra⟩ := rep_tup h
    cases r
    obtain ⟨its, rv, ⟨o, ho, hc, n, hd⟩, _⟩ := I.tuple sq
    have hz' : (tupleText (PyData.shownAll xs)).length ≤ sizeLine := by simpa only [PyData.shown] using hz
    obtain ⟨⟨as, h4⟩, bs, hb, hk⟩ := rep_reprs I xs vs its (by simpa only [okR] using ok) ra rv (by simpa [PyData.showable] using hs) (fun t ht => Nat.le_trans (tupleText_mem_le ht) hz')
    have rd : Reads s.heap (.ref a) (.tuple xs) _ := .tuple ho hc hd h4
    have hna : a ∉ bs := not_mem_of_deeper rd (by simp only [PyData.depth]; omega) hb
    refine ⟨⟨_, rd⟩, a :: bs, ReadAtMost.cons rd (by simp only [PyData.depth]; omega) hb, ?_⟩
    simp only [PyData.depth, PyData.shown]
    exact ReprK.tuple ho hc hd hna hk
  | .dict kvs, _, _, ok, h, r, hs, hz => by
    have ok : kvs.isEmpty = true := by simpa only [okR] using ok
    rcases h with ⟨a, xs, rfl, h1, h2, h3⟩ | ⟨a, ns, rfl, h1, _⟩
    · cases r
      obtain ⟨hsys, o, es, n, e1, e2, e3, e4⟩ := dict_nil I h1 (repK_nil h3 ok)
      have hk : kvs = [] := List.isEmpty_iff.mp ok
      subst hk
      have rd : Reads s.heap (.ref a) (.dict []) _ := .dict (kvs := []) (as := []) (bs := []) e1 e2 e3 (by rw [e4]; exact .nil) (by rw [e4]; exact .nil)
      refine ⟨⟨_, rd⟩, [a], ?_, ?_⟩
      · exact ReadAtMost.cons rd (Nat.zero_le _) (n := 0) (fun _ h => nomatch h)
      · simp only [PyData.depth, PyData.shown, PyData.shownKv, PyData.depthKv]
        exact ReprK.dict e1 e2 e3 hsys (by simp) (by rw [e4]; exact ReprEntriesK.of_two [] [] [] .nil .nil)
    · subst h1
      cases ok
theorem rep_reprs (I : L2.Inv X pins σ H s) : ∀ (ds : List D) (vs : List V) (us : List Value), okRs ds = true → RepA X.K O H ds vs → Vals vs us → PyData.showableAll ds = true → (∀ t ∈ PyData.shownAll ds, t.length ≤ sizeLine) →
    (∃ as, ReadsAll s.heap us ds as) ∧ ∃ bs, ReadAtMost s.heap (PyData.depthAll ds) bs ∧ ReprAllK prog w bs s.heap (PyData.depthAll ds) us (PyData.shownAll ds)
  | [], _, _, _, h, r, _, _ => by
    have e : _ = _ := h
    subst e
    cases r
    exact ⟨⟨_, ReadsAll.nil⟩, [], (fun _ h => nomatch h), by simp only [PyData.shownAll]; exact .nil⟩
  | d :: ds, _, _, ok, ⟨v, vs, e, h1, h2⟩, r, hs, hz => by
    subst e
    cases r with
    | cons r1 r2 =>
      have ok' : okR d = true ∧ okRs ds = true := by simpa [okRs] using ok
      have hs' : d.showable = true ∧ PyData.showableAll ds = true := by simpa [PyData.showableAll] using hs
      obtain ⟨⟨a1, q1⟩, b1, hb1, k1⟩ := rep_repr I d v _ ok'.1 h1 r1 hs'.1 (hz _ (by simp only [PyData.shownAll]; exact List.mem_cons_self ..))
      obtain ⟨⟨a2, q2⟩, b2, hb2, k2⟩ := rep_reprs I ds vs _ ok'.2 h2 r2 hs'.2 (fun t ht => hz t (by simp only [PyData.shownAll]; exact List.mem_cons_of_mem _ ht))
      refine ⟨⟨_, ReadsAll.cons q1 q2⟩, b1 ++ b2, ?_, ?_⟩
      · intro b hm
        simp only [PyData.depthAll]
        rcases List.mem_append.mp hm with hm | hm
        · obtain ⟨d', as', r', hd'⟩ := hb1 b hm
          exact ⟨d', as', r', Nat.le_trans hd' (Nat.le_max_left _ _)⟩
        · obtain ⟨d', as', r', hd'⟩ := hb2 b hm
          exact ⟨d', as', r', Nat.le_trans hd' (Nat.le_max_right _ _)⟩
      · simp only [PyData.depthAll, PyData.shownAll]
        exact .cons ((k1.more fun b hb => List.mem_append_left _ hb).level_le (Nat.le_max_left _ _)) (k2.more_le (fun b hb => List.mem_append_right _ hb) (Nat.le_max_right _ _))
end
/-- the call of its own repr -/
theorem rep_shows (I : L2.Inv X pins σ H s) {d : D} {a : Addr} (ok : okR d = true) (h : Rep X.K O H d (.ref a)) (hs : d.showable = true) (hz : d.shown.length ≤ sizeLine) : ∃ T idr, ShowsBy prog w s.heap a d T idr := by
  cases d with
  | none => cases h
  | bool b => cases h
  | int i => cases h
  | str x => cases h
  | list xs =>
    obtain ⟨_, vs, e, sq, ra⟩ := rep_lst h
    cases e
    obtain ⟨its, rv, ⟨o, n, ho, hc, _, hd⟩, _⟩ := I.list sq
    have hz' : (listText (PyData.shownAll xs)).length ≤ sizeLine := by simpa only [PyData.shown] using hz
    obtain ⟨⟨as, h4⟩, bs, hb, hk⟩ := rep_reprs (prog := prog) (w := w) I xs vs its (by simpa only [okR] using ok) ra rv (by simpa [PyData.showable] using hs) (fun t ht => Nat.le_trans (listText_mem_le ht) hz')
    have rd : Reads s.heap (.ref a) (.list xs) _ := .list ho hc hd h4
    have hna : a ∉ bs := not_mem_of_deeper rd (by simp only [PyData.depth]; omega) hb
    refine ⟨"list", "list.__repr__", F.slot_list_repr.toG, F.slot_list_str, F.slot_list_format, fun s hk0 => ⟨o, hk0 _ _ ho, hc⟩, fun A E s Q hg hu hk0 hQ => ?_⟩
    simp only [PyData.depth] at hu
    simp only [PyData.shown] at hQ
    cases its with
    | nil =>
      have h4' : ReadsAll _ [] xs _ := h4
      cases h4'
      simp only [PyData.shownAll, listText_nil] at hQ
      exact call_list_repr_empty ⟨o, hk0 _ _ ho, hc⟩ (hk0 _ _ ho) hd (hQ s.heap _ _ fun _ _ e => e)
    | cons x l =>
      exact call_list_reprK ho hc hd hna (by simpa using hk.length_eq) (fun i y e => hk.item i y (by simpa using e)) hg (fun b _ => Clear.nil b) hu hk0 hQ hz'
  | tuple xs =>
    obtain ⟨_, vs, e, sq, ra⟩ := rep_tup h
    cases e
    obtain ⟨its, rv, ⟨o, ho, hc, n, hd⟩, _⟩ := I.tuple sq
    have hz' : (tupleText (PyData.shownAll xs)).length ≤ sizeLine := by simpa only [PyData.shown] using hz
    obtain ⟨⟨as, h4⟩, bs, hb, hk⟩ := rep_reprs (prog := prog) (w := w) I xs vs its (by simpa only [okR] using ok) ra rv (by simpa [PyData.showable] using hs) (fun t ht => Nat.le_trans (tupleText_mem_le ht) hz')
    have rd : Reads s.heap (.ref a) (.tuple xs) _ := .tuple ho hc hd h4
    have hna : a ∉ bs := not_mem_of_deeper rd (by simp only [PyData.depth]; omega) hb
    refine ⟨"tuple", "tuple.__repr__", F.slot_tuple_repr, F.slot_tuple_str, F.slot_tuple_format, fun s hk0 => ⟨o, hk0 _ _ ho, hc⟩, fun A E s Q hg hu hk0 hQ => ?_⟩
    simp only [PyData.depth] at hu
    simp only [PyData.shown] at hQ
    exact call_tuple_reprK ho hc hd hna hk hg (fun b _ => Clear.nil b) hu hk0 hQ hz'
  | dict kvs =>
    have ok : kvs.isEmpty = true := by simpa only [okR] using ok
    rcases h with ⟨_, xs, e, h1, h2, h3⟩ | ⟨_, ns, e, h1, _⟩
    · cases e
      obtain ⟨hsys, o, es, n, e1, e2, e3, e4⟩ := dict_nil I h1 (repK_nil h3 ok)
      have hk : kvs = [] := List.isEmpty_iff.mp ok
      subst hk
      have hz' : (dictText []).length ≤ sizeLine := by simpa only [PyData.shown, PyData.shownKv] using hz
      refine ⟨"dict", "dict.__repr__", F.slot_dict_repr, F.slot_dict_str, F.slot_dict_format, fun s hk0 => ⟨o, hk0 _ _ e1, e2⟩, fun A E s Q hg hu hk0 hQ => ?_⟩
      simp only [PyData.depth, PyData.depthKv] at hu
      simp only [PyData.shown, PyData.shownKv] at hQ
      exact call_dict_reprK (as := []) e1 e2 e3 hsys (by simp) (by rw [e4]; exact ReprEntriesK.of_two [] [] [] .nil .nil) hg (fun b _ => Clear.nil b) hu hk0 hQ hz'
    · subst h1
      cases ok
end
def shwOk (d : D) : Bool := okR d && (decide (d.depth ≤ 64) && d.showable) && decide (d.shown.length ≤ 16777216)
def dRepr : D → Option D
  | .none => some (.str "None")
  | .bool b => some (.str (if b then "True" else "False"))
  | .int i => if i.natAbs.log2 < 1920 then some (.str (toString i)) else none
  | .str z => if (reprText z).length ≤ 16777216 then some (.str (reprText z)) else none
  | .list ds => if shwOk (.list ds) then some (.str (PyData.list ds).shown) else none
  | .tuple ds => if shwOk (.tuple ds) then some (.str (PyData.tuple ds).shown) else none
  | .dict ds => if shwOk (.dict ds) then some (.str (PyData.dict ds).shown) else none
def rRepr (K : PySem.W.Frag) : List V → Hp → VK → Prop := fun xs H Q =>
  (xs = [.non] ∧ Q (.str "None") H) ∨ (∃ b, xs = [.bl b] ∧ Q (.str (if b then "True" else "False")) H) ∨ (∃ i : Int, xs = [.int i] ∧ i.natAbs.log2 < 1920 ∧ Q (.str (toString i)) H) ∨
  (∃ z : Str, xs = [.str z] ∧ (reprText z).length ≤ sizeLine ∧ Q (.str (reprText z)) H) ∨ ∃ (O : Addr → Prop) (a : Addr) (d : D), xs = [.ref a] ∧ Rep K O H d (.ref a) ∧ shwOk d = true ∧ Q (.str d.shown) H
theorem cr_repr {X : Cx} (hg : X.A.guards = some []) (hu : X.A.units + 65 < cLine) : CallR X (.builtin "repr") (rRepr X.K) := by
  intro pins s σ H xs us Q I r h
  rcases h with ⟨rfl, q⟩ | ⟨b, rfl, q⟩ | ⟨i, rfl, hz, q⟩ | ⟨z, rfl, hz, q⟩ | ⟨O, a, d, rfl, rp, hs, q⟩
  · obtain ⟨u, rfl, e⟩ := vals1 r
    cases e
    exact PySem.P.repr_of_none ⟨.str _, H, I.tok _, ⟨_, rfl⟩, q⟩
  · obtain ⟨u, rfl, e⟩ := vals1 r
    cases e
    exact PySem.P.repr_of_bool ⟨.str _, H, I.tok _, ⟨_, rfl⟩, q⟩
  · obtain ⟨u, rfl, t, rfl⟩ := vals1 r
    exact PySem.P.repr_of_int hz ⟨.str _, H, I.tok _, ⟨_, rfl⟩, q⟩
  · obtain ⟨u, rfl, t, rfl⟩ := vals1 r
    exact PySem.P.repr_of_str ⟨.str _, H, I.tok _, ⟨_, rfl⟩, q⟩ hz
  · obtain ⟨u, rfl, ru⟩ := vals1 r
    unfold shwOk at hs
    rw [Bool.and_eq_true, Bool.and_eq_true, Bool.and_eq_true, decide_eq_true_eq, decide_eq_true_eq] at hs
    obtain ⟨⟨s1, s2, s3⟩, s4⟩ := hs
    cases ru
    obtain ⟨T, idr, S⟩ := rep_shows (prog := X.prog) (w := X.w) I s1 rp s3 (by rw [sizeLine_eq]; exact s4)
    exact call_repr_slot (by omega) (S.typeIs s fun _ _ e => e) S.slotRepr (S.call X.A.in1 X.xe s _ hg (by show X.A.units + 1 + d.depth < cLine; omega) (fun _ _ e => e) fun h' u tk hk => ⟨_, _, rfl, ⟨.str _, H, I.kept hk, ⟨_, rfl⟩, q⟩⟩)
theorem cl_repr {K : PySem.W.Frag} : CallD K (rRepr K) (g1 dRepr) := by
  intro O H ds d vs Q hO hf h e q
  obtain ⟨d1, v, rfl, rfl, r, e'⟩ := repA1 h e
  clear e
  have e := e'
  clear e'
  unfold dRepr at e
  split at e
  · cases r; cases e
    exact .inl ⟨rfl, q _ H (same_refl H) rfl⟩
  · cases r; cases e
    exact .inr (.inl ⟨_, rfl, q _ H (same_refl H) rfl⟩)
  · cases r
    split at e
    · rename_i hz
      cases e
      exact .inr (.inr (.inl ⟨_, rfl, hz, q _ H (same_refl H) rfl⟩))
    · cases e
  · cases r
    split at e
    · rename_i hz
      cases e
      exact .inr (.inr (.inr (.inl ⟨_, rfl, by rw [sizeLine_eq]; exact hz, q _ H (same_refl H) rfl⟩)))
    · cases e
  · split at e
    · rename_i ds hz
      cases e
      obtain ⟨a, xs, rfl, _⟩ := id r
      exact .inr (.inr (.inr (.inr ⟨O, a, _, rfl, r, hz, q _ H (same_refl H) rfl⟩)))
    · cases e
  · split at e
    · rename_i ds hz
      cases e
      obtain ⟨a, xs, rfl, _⟩ := id r
      exact .inr (.inr (.inr (.inr ⟨O, a, _, rfl, r, hz, q _ H (same_refl H) rfl⟩)))
    · cases e
  · split at e
    · rename_i ds hz
      cases e
      rcases id r with ⟨a, xs, rfl, _⟩ | ⟨a, xs, rfl, _⟩
      · exact .inr (.inr (.inr (.inr ⟨O, a, _, rfl, r, hz, q _ H (same_refl H) rfl⟩)))
      · exact .inr (.inr (.inr (.inr ⟨O, a, _, rfl, r, hz, q _ H (same_refl H) rfl⟩)))
    · cases e
end DL


set_option maxRecDepth 100000
set_option maxHeartbeats 4000000
namespace DL
open PySem PySem.Spec PyProof.Rows L2

/-! ### the law, run by the caller alone -/
/-- a promise at one surrounding -/
structure At1 (P : Program) (w : World) (K : PySem.W.Frag) (mg : Str → Option Value) (bs : Heap) (f : Addr) (fd : FuncData) (ps : List Str) (sp : Sp) : Prop where
  run : ∀ (z : Shared) (H : Hp) (gs : Args) (us : List Value) (vs : List V) (R : VK) (Z : XK), Env0 P w K mg bs callerA [] z H → BindsTo z fd gs (ps.zip us) → Vals vs us → sp vs H R Z →
    codeAny (model P w) callerA (.call (.ref f) gs) (CR CX0 [] P w H z R Z) z
section
variable {P : Program} {w : World} {K : PySem.W.Frag} {mg mb : Str → Option Value} {bs : Heap} {fd : FuncData} {sp : Sp} {k : Nat} {ps : List Str}
theorem at1_of {x qual : Str} {st : Stmt} {f : Addr} {N : List Str} (F : Fun K x qual st f fd) (S : FnScope N ps (defScope st)) (hl : ∀ vs H R Z, sp vs H R Z → vs.length = ps.length) (hr : Room (k + 1) callerA)
    (hb : ∀ (cv : Value) (z : Shared) (H : Hp) (vs : List V) (R : VK) (Z : XK), Room k (callerA.deeper (envOfC qual (defScope st) z.heap.objs.size f cv)) → sp vs H R Z →
      ∃ t, PSs (cxOf CX0 P w K mg bs N qual (defScope st) f cv callerA [] z H Z).nox (defBody st) t ∧ t { nx := fun _ J => R .non J, rt := R } (L2.start N vs) H) : At1 P w K mg bs f fd ps sp := by
  obtain ⟨q1, q2, q3, q4, q5, q6, cv, q8, q9, e, lk, hc⟩ := F.ex
  subst e
  constructor
  intro z H gs us vs R Z en bd1 rv hsp
  have kz := en.mod.kin.keeps fun a o g => (en.bs a o g).1
  have nz := en.mod.nolimit.keeps fun a o g => (en.bs a o g).1
  have kinds : ∀ y ∈ ps.zip us, (defScope st).names.lookup y.1 = some .local ∨ ((defScope st).names.lookup y.1 = some .cell ∧ ((cellsFrom (z.heap.objs.size + 1) (defScope st).names []).lookup y.1).isSome = true) := by
    rintro ⟨n, v⟩ my
    rcases S.par n (List.of_mem_zip my).1 with g | g
    · exact Or.inl g
    · exact Or.inr ⟨g, PySem.W.cellsFrom_some _ _ _ (Or.inl g)⟩
  apply codeAny_call_function hr.depth (kz _ _ lk) rfl S.co S.gen rfl (PySem.W.codeRec_of kz hc)
  apply bd1
  apply wpAny_newFunctionEnv_cells S.kind kinds
  rintro env rfl z1 inn
  refine ⟨nz.keeps inn.toInCall.keep, codeAny_func ?_⟩
  obtain ⟨t, pt, ht⟩ := hb cv z H vs R Z (hr.deeper _) hsp
  have inv : Inv (cxOf CX0 P w K mg bs N qual (defScope st) f cv callerA [] z H Z) [] (L2.start N vs) H z1 := inv_start S hr.hd en (hl _ _ _ _ hsp) rv inn
  refine wpAny_mono (pt.nox.run [] z1 (L2.start N vs) H _ inv ht) ?_ fun _ _ g => g
  intro fl z2 g
  cases fl with
  | next =>
    obtain ⟨σ2, H2, J, g⟩ := g
    exact ⟨V.non, H2, J.os, J.bare, J.base, J.hok, rfl, g⟩
  | ret u =>
    obtain ⟨v, σ2, H2, J, r2, g⟩ := g
    exact ⟨v, H2, J.os, J.bare, J.base, J.hok, r2, g⟩
  | brk => obtain ⟨_, _, _, g⟩ := g; cases g
  | cont => obtain ⟨_, _, _, g⟩ := g; cases g
/-- the law's call -/
theorem law_run1 {fa l : Addr} {x : Str} {z : Shared} {us : List Value} {ns : List Int} (kz : K.In z.heap) (gz : z.heap.Ns mainGlobals mg) (bz : z.heap.Ns builtinsNs mb) (bb : ∀ y : Str, y ≠ "__name__" → mb y = bootBuiltins y) (nz : z.heap.NoLimit) (g0 : z.gens = #[])
    (hl : z.heap.get? l = some { cls := .type "list", data := .seq us.toArray }) (hi : IntsAre us ns) (few : ns.length ≤ sizeLine)
    (F : ∀ b : Heap, K.In b → b.Ns mainGlobals mg → At1 P w K mg b fa fd [x] sp) (hbind : ∀ (y : Shared) (u : Value), BindsTo y fd ⟨[u], []⟩ [(x, u)])
    (hsp : ∀ H : Hp, Only H → SqL K H l (ns.map V.int) → sp [.ref l] H (fun v _ => v = .bl true) fun _ _ _ => False) (hx : ∀ H e z', CX0 [] H z (fun _ _ _ => False) e z' → False) :
    codeAny (model P w) callerA (.call (.ref fa) ⟨[.ref l], []⟩) (fun r z' => r = .ok (.ret (.bool true)) ∧ OldK z.heap z'.heap ∧ z'.os = z.os ∧ AllBare z'.gens) z := by
  have main : ∀ H : Hp, Only H → SqL K H l (ns.map V.int) → HOk P w H z.heap → (∀ a, H a ≠ none → a = l) → (H l ≠ none → K.lookup l = none) →
      codeAny (model P w) callerA (.call (.ref fa) ⟨[.ref l], []⟩) (fun r z' => r = .ok (.ret (.bool true)) ∧ OldK z.heap z'.heap ∧ z'.os = z.os ∧ AllBare z'.gens) z := by
    intro H only isl ok alone notK
    have away : ∀ {a : Addr} {o : Obj} {es : Array DictEntry} {ep : Nat}, z.heap.get? a = some o → o.data = .dict es ep → H a = none := by
      intro a o es ep e d
      apply Classical.byContradiction
      intro n
      have q := alone a n
      subst q
      rw [hl] at e
      cases e
      have bad : Data.seq us.toArray _ = Data.dict es ep := d
      cases bad
    have nsOf : ∀ {a : Addr} {m : Str → Option Value}, z.heap.Ns a m → (hidT z.heap H).Ns a m := by
      rintro a m ⟨o, es, ep, e, d, r⟩
      exact ⟨o, es, ep, hidT_get e (away e d), d, r⟩
    have kB : K.In (hidT z.heap H) := by
      intro a o e
      refine hidT_get (kz a o e) (Classical.byContradiction fun n => ?_)
      have q := alone a n
      subst q
      rw [notK n] at e
      cases e
    obtain ⟨mc, c1, c2⟩ := nz
    have env : Env0 P w K mg (hidT z.heap H) callerA [] z H :=
      { frames := rfl, mod := ⟨kB, nsOf gz, ⟨mb, nsOf bz, bb⟩, mc, nsOf c1, c2⟩, bs := fun a o e => of_hidT e, bsz := Nat.le_of_eq (hidT_size _ _), funs := trivial
        frf := fun a m => absurd (show a ∈ ([] : List Addr) from m) (by simp), hok := ok, bare := .of_eq g0 }
    refine codeAny_mono ((F _ kB (nsOf gz)).run z H ⟨[.ref l], []⟩ [.ref l] [.ref l] _ _ env (hbind z (.ref l)) (.cons rfl .nil) (hsp H only isl)) ?_
    intro r z2 g
    cases r with
    | error e => exact (hx H e z2 g).elim
    | ok fl =>
      cases fl with
      | ret u =>
        obtain ⟨v, H2, os2, bare2, un, ok2, rel, q⟩ := g
        have q : v = .bl true := q
        subst q
        have rel : u = Value.bool true := rel
        subst rel
        refine ⟨rfl, OldK.of_keep fun a o e => ?_, os2, bare2⟩
        cases n : H a with
        | none => exact un.keep a o e n (by intro m; exact absurd (show a ∈ ([] : List Addr) from m) (by simp)) (by simp)
        | some y =>
          rcases only a with m | ⟨ob, xs, m⟩
          · rw [n] at m; cases m
          · obtain ⟨i1, _⟩ := ok a _ m
            obtain ⟨i2, _⟩ := ok2 a _ (un.frzs a ob _ m)
            rw [e] at i1
            cases i1
            exact i2
      | next => exact False.elim g
      | brk => exact False.elim g
      | cont => exact False.elim g
  have rv := vals_ints hi
  have hn := hi.length
  by_cases own : K.lookup l = none
  · have e1 : ∀ a u, (if a = l then some (HO.frz { cls := .type "list", data := .seq us.toArray } (.lst (ns.map V.int))) else none) = some u → a = l ∧ u = HO.frz { cls := .type "list", data := .seq us.toArray } (.lst (ns.map V.int)) := by
      intro a u e
      by_cases h : a = l
      · rw [if_pos h] at e; exact ⟨h, (Option.some.inj e).symm⟩
      · rw [if_neg h] at e; cases e
    refine main (fun a => if a = l then some (.frz { cls := .type "list", data := .seq us.toArray } (.lst (ns.map V.int))) else none) (fun a => ?_) (.inl (.inr ⟨_, if_pos rfl⟩)) (fun a u e => ?_) (fun a n => ?_) fun _ => own
    · by_cases h : a = l
      · exact Or.inr ⟨_, _, if_pos h⟩
      · exact Or.inl (if_neg h)
    · obtain ⟨h1, h2⟩ := e1 a u e
      subst h1 h2
      exact ⟨hl, by rw [List.length_map]; exact few, us, _, rv, hl⟩
    · exact Classical.byContradiction fun h => n (if_neg h)
  · obtain ⟨o, ho⟩ := Option.ne_none_iff_exists'.mp own
    have e := kz l o ho
    rw [hl] at e
    cases e
    exact main (fun _ => none) (fun _ => Or.inl rfl) (.inr ⟨_, us.toArray, _, ho, rfl, rfl, rfl, by rw [List.size_toArray, hn]; exact few, by simpa using rv⟩) (fun a u e => by cases (show (none : Option HO) = some u from e)) (fun a n => absurd rfl n) fun n => absurd rfl n
end
theorem at1_law {P : Program} {w : World} {K : PySem.W.Frag} {mg : Str → Option Value} {bs : Heap} {x qual : Str} {st : Stmt} {f : Addr} {fd : FuncData} {N ps : List Str} {k : Nat} (F : Fun K x qual st f fd) (S : FnScope N ps (defScope st)) (ow : Bool) (l : List Bool) (m : Ty l) (hl : l.length = ps.length) (hr : Room (k + 1) callerA)
    (hb : ∀ (cdv : Value) (s : Shared) (H : Hp) (E : XK), Room k (callerA.deeper (envOfC qual (defScope st) s.heap.objs.size f cdv)) → (callerA.deeper (envOfC qual (defScope st) s.heap.objs.size f cdv)).units + 64 < cLine → (callerA.deeper (envOfC qual (defScope st) s.heap.objs.size f cdv)).units + 65 < cLine →
      AllB l (fun ρ m => ∃ b : M (Fl Unit Empty), m = fe ow b ∧ ES (cxOf CX0 P w K mg bs N qual (defScope st) f cdv callerA [] s H E).nox W0 ow (defBody st) (fun _ => emps N.length) (fun e => e.elim) (ρ ++ emps (N.length - ps.length)) b) m []) :
    At1 P w K mg bs f fd ps (spD K mg ps.length ow (app l m)) := by
  refine at1_of (k := k) F S (fun vs H Q E h => ?_) hr (fun cdv s H vs Q E hr h => ?_)
  · obtain ⟨O, al, τ, as, h, _⟩ := h
    exact h
  · obtain ⟨O, al, τ, as, hn, g, ra, wp⟩ := h
    obtain ⟨b, e, h⟩ := app_cases l (hb cdv s H E hr (by have := hr.un; omega) (by have := hr.un; omega)) wp
    refine ⟨_, h, ⟨H, O, al⟩, gh0 O al, τ, ⟨g, ?_⟩, ?_⟩
    · rw [List.nil_append]
      exact start_ok ra (by rw [hn])
    · rw [e] at wp
      refine Rs.wp_mono (fe_wp wp) (fun f τ' z => ?_) fun _ _ z => z.elim
      cases f with
      | rt d => exact z
      | nx s =>
        obtain ⟨z1, z2⟩ := z
        subst z1
        exact fun σ' H' G' a' _ => z2 _ H' G' a'.gd rfl
      | bk l => exact z.elim
      | ct l => exact z.elim
theorem law_walk1 {l : PySem.W.OpenLaw} {n : Nat} {q : Program} {loose : List Str} {XP : (Str → Option Value) → Heap → Prop} {YP : World → Heap → Prop} {d : DefRec} {K : Params → PySem.W.Frag} {x : Str} {m : Ty [false]}
    (hm : ∀ ns : List Int, ns.length ≤ n → ∃ τ', m (scr ns) [] = .ok (.bool true) τ')
    (hn : l.most = some n) (hn2 : n ≤ sizeLine) (hdf : d.params.defaults = [])
    (hY : ∀ (w : World) (h : Heap), YP w h → (K w.params).In h)
    (F : ∀ (w : World) (mg : Str → Option Value) (fa : Addr) (h : Heap), (K w.params).In h → h.Ns mainGlobals mg → mg d.name = some (.ref fa) →
      ∃ fd : FuncData, (∀ (s : Shared) (u : Value), BindsTo s fd ⟨[u], []⟩ [(x, u)]) ∧
        ∀ base : Heap, (K w.params).In base → base.Ns mainGlobals mg → At1 l.prog w (K w.params) mg base fa fd [x] (spD (K w.params) mg 1 false (app [false] m))) :
    PySem.W.WalkO q loose XP YP l.row.toRowW d [] (fun f vs => PySem.call f vs) := by
  apply Att.attach_call hn hdf
  intro w z0 z1 mg mb fa o pm cd dc a vs ns G Y i1 i2 i3 hmg i4 i5 hlen hg
  have kz := hY w _ Y
  obtain ⟨fd, hb, hF⟩ := F w mg fa _ kz G.T.g hmg
  exact law_run1 kz G.T.g G.T.b G.T.builtins G.T.nolimit hg i4 i5 (Nat.le_trans hlen hn2) hF hb (fun H hO hS => law_sp hm [.ref a] H _ _ ⟨a, ns, rfl, hlen, hO, hS, fun _ => rfl⟩) fun _ _ _ g => g
end DL


set_option maxRecDepth 100000
set_option maxHeartbeats 2000000
namespace DL
open PySem PySem.Spec PyProof.Rows L2

/-! ### max, min, sorted of a list of ints -/
def maxL : Int → List Int → Int
  | m, [] => m
  | m, x :: l => maxL (if x > m then x else m) l
def minL : Int → List Int → Int
  | m, [] => m
  | m, x :: l => minL (if x < m then x else m) l
theorem maxL_ge : ∀ (l : List Int) (m : Int), m ≤ maxL m l ∧ ∀ x ∈ l, x ≤ maxL m l
  | [], m => ⟨Int.le_refl _, by simp⟩
  | x :: l, m => by
    obtain ⟨h1, h2⟩ := maxL_ge l (if x > m then x else m)
    have h3 : m ≤ (if x > m then x else m) ∧ x ≤ (if x > m then x else m) := by split <;> omega
    refine ⟨Int.le_trans h3.1 h1, fun y my => ?_⟩
    rcases List.mem_cons.mp my with rfl | my
    · exact Int.le_trans h3.2 h1
    · exact h2 y my
theorem minL_le : ∀ (l : List Int) (m : Int), minL m l ≤ m ∧ ∀ x ∈ l, minL m l ≤ x
  | [], m => ⟨Int.le_refl _, by simp⟩
  | x :: l, m => by
    obtain ⟨h1, h2⟩ := minL_le l (if x < m then x else m)
    have h3 : (if x < m then x else m) ≤ m ∧ (if x < m then x else m) ≤ x := by split <;> omega
    refine ⟨Int.le_trans h1 h3.1, fun y my => ?_⟩
    rcases List.mem_cons.mp my with rfl | my
    · exact Int.le_trans h1 h3.2
    · exact h2 y my
theorem maxL_mem : ∀ (l : List Int) (m : Int), maxL m l = m ∨ maxL m l ∈ l
  | [], m => .inl rfl
  | x :: l, m => by
    rcases maxL_mem l (if x > m then x else m) with h | h
    · show maxL _ l = m ∨ maxL _ l ∈ x :: l
      rw [h]
      split
      · exact .inr List.mem_cons_self
      · exact .inl rfl
    · exact .inr (List.mem_cons_of_mem _ h)
theorem minL_mem : ∀ (l : List Int) (m : Int), minL m l = m ∨ minL m l ∈ l
  | [], m => .inl rfl
  | x :: l, m => by
    rcases minL_mem l (if x < m then x else m) with h | h
    · show minL _ l = m ∨ minL _ l ∈ x :: l
      rw [h]
      split
      · exact .inr List.mem_cons_self
      · exact .inl rfl
    · exact .inr (List.mem_cons_of_mem _ h)
def dMax1 : D → Option D
  | .list ds => match asInts ds with
    | some (n :: ns) => some (.int (maxL n ns))
    | _ => none
  | _ => none
def dMin1 : D → Option D
  | .list ds => match asInts ds with
    | some (n :: ns) => some (.int (minL n ns))
    | _ => none
  | _ => none
section
variable {K : PySem.W.Frag}
theorem cl_max1 : CallD K (rMax K) (g1 dMax1) := by
  intro O H ds d vs Q hO hf h e q
  obtain ⟨d1, v, rfl, rfl, r, e⟩ := repA1 h e
  unfold dMax1 at e
  split at e
  · split at e
    · rename_i es n ns e1
      cases e
      have e2 := asInts_eq e1
      subst e2
      obtain ⟨a, xs, rfl, h1, h3⟩ := rep_lst r
      have e3 := RepA.ints h3
      subst e3
      refine ⟨a, n :: ns, rfl, h1, by simp, fun m m1 m2 => ?_⟩
      obtain ⟨g1, g2⟩ := maxL_ge ns n
      have : m = maxL n ns := by
        have a1 : m ≤ maxL n ns := by
          rcases List.mem_cons.mp m1 with rfl | m1
          · exact g1
          · exact g2 m m1
        have a2 : maxL n ns ≤ m := m2 _ (by
          rcases maxL_mem ns n with h | h
          · rw [h]; exact List.mem_cons_self
          · exact List.mem_cons_of_mem _ h)
        omega
      subst this
      exact q _ H (same_refl H) rfl
    · cases e
  · cases e
theorem cl_min1 : CallD K (rMin K) (g1 dMin1) := by
  intro O H ds d vs Q hO hf h e q
  obtain ⟨d1, v, rfl, rfl, r, e⟩ := repA1 h e
  unfold dMin1 at e
  split at e
  · split at e
    · rename_i es n ns e1
      cases e
      have e2 := asInts_eq e1
      subst e2
      obtain ⟨a, xs, rfl, h1, h3⟩ := rep_lst r
      have e3 := RepA.ints h3
      subst e3
      refine ⟨a, n :: ns, rfl, h1, by simp, fun m m1 m2 => ?_⟩
      obtain ⟨g1, g2⟩ := minL_le ns n
      have : m = minL n ns := by
        have a1 : minL n ns ≤ m := by
          rcases List.mem_cons.mp m1 with rfl | m1
          · exact g1
          · exact g2 m m1
        have a2 : m ≤ minL n ns := m2 _ (by
          rcases minL_mem ns n with h | h
          · rw [h]; exact List.mem_cons_self
          · exact List.mem_cons_of_mem _ h)
        omega
      subst this
      exact q _ H (same_refl H) rfl
    · cases e
  · cases e
end
/-- in rising order -/
def insL (x : Int) : List Int → List Int
  | [] => [x]
  | y :: l => if x ≤ y then x :: y :: l else y :: insL x l
def srtL (l : List Int) : List Int := l.foldr insL []
theorem insL_perm (x : Int) : ∀ l : List Int, (insL x l).Perm (x :: l)
  | [] => List.Perm.refl _
  | y :: l => by
    unfold insL
    split
    · exact List.Perm.refl _
    · exact ((insL_perm x l).cons y).trans (List.Perm.swap x y l)
theorem insL_srt {x : Int} : ∀ {l : List Int}, l.Pairwise (· ≤ ·) → (insL x l).Pairwise (· ≤ ·)
  | [], _ => by simp [insL]
  | y :: l, h => by
    obtain ⟨h1, h2⟩ := List.pairwise_cons.mp h
    unfold insL
    split
    · rename_i c
      refine List.pairwise_cons.mpr ⟨fun z mz => ?_, h⟩
      rcases List.mem_cons.mp mz with rfl | mz
      · exact c
      · exact Int.le_trans c (h1 z mz)
    · rename_i c
      refine List.pairwise_cons.mpr ⟨fun z mz => ?_, insL_srt h2⟩
      have := (insL_perm x l).mem_iff.mp mz
      rcases List.mem_cons.mp this with rfl | mz
      · omega
      · exact h1 z mz
theorem srtL_perm : ∀ l : List Int, (srtL l).Perm l
  | [] => List.Perm.refl _
  | x :: l => (insL_perm x (srtL l)).trans ((srtL_perm l).cons x)
theorem srtL_srt : ∀ l : List Int, (srtL l).Pairwise (· ≤ ·)
  | [] => List.Pairwise.nil
  | x :: l => insL_srt (srtL_srt l)
theorem srt_uniq : ∀ {a b : List Int}, a.Perm b → a.Pairwise (· ≤ ·) → b.Pairwise (· ≤ ·) → a = b
  | [], b, p, _, _ => by
    have := p.length_eq
    cases b with
    | nil => rfl
    | cons => simp at this
  | x :: a, [], p, _, _ => by
    have := p.length_eq
    simp at this
  | x :: a, y :: b, p, ha, hb => by
    obtain ⟨a1, a2⟩ := List.pairwise_cons.mp ha
    obtain ⟨b1, b2⟩ := List.pairwise_cons.mp hb
    have e1 : y ≤ x := by
      have := p.mem_iff.mp (List.mem_cons_self (a := x) (l := a))
      rcases List.mem_cons.mp this with h | h
      · omega
      · exact b1 x h
    have e2 : x ≤ y := by
      have := p.mem_iff.mpr (List.mem_cons_self (a := y) (l := b))
      rcases List.mem_cons.mp this with h | h
      · omega
      · exact a1 y h
    have e : x = y := by omega
    subst e
    rw [srt_uniq (List.Perm.cons_inv p) a2 b2]
/-- each once, in rising order -/
def insS (x : Int) : List Int → List Int
  | [] => [x]
  | y :: l => if x < y then x :: y :: l else if x = y then y :: l else y :: insS x l
def srtS (l : List Int) : List Int := l.foldr insS []
theorem insS_mem {x : Int} : ∀ {l : List Int} {k : Int}, k ∈ insS x l ↔ k = x ∨ k ∈ l
  | [], k => by simp [insS]
  | y :: l, k => by
    unfold insS
    split
    · simp
    · split
      · rename_i h; subst h; simp
      · rw [List.mem_cons, insS_mem, List.mem_cons]
        constructor
        · rintro (h | h | h)
          · exact .inr (.inl h)
          · exact .inl h
          · exact .inr (.inr h)
        · rintro (h | h | h)
          · exact .inr (.inl h)
          · exact .inl h
          · exact .inr (.inr h)
theorem insS_srt {x : Int} : ∀ {l : List Int}, l.Pairwise (· < ·) → (insS x l).Pairwise (· < ·)
  | [], _ => by simp [insS]
  | y :: l, h => by
    obtain ⟨h1, h2⟩ := List.pairwise_cons.mp h
    unfold insS
    split
    · rename_i c
      refine List.pairwise_cons.mpr ⟨fun z mz => ?_, h⟩
      rcases List.mem_cons.mp mz with rfl | mz
      · exact c
      · exact Int.lt_trans c (h1 z mz)
    · split
      · exact h
      · refine List.pairwise_cons.mpr ⟨fun z mz => ?_, insS_srt h2⟩
        rcases insS_mem.mp mz with rfl | mz
        · omega
        · exact h1 z mz
theorem srtS_mem {k : Int} : ∀ {l : List Int}, k ∈ srtS l ↔ k ∈ l
  | [] => by simp [srtS]
  | x :: l => by
    show k ∈ insS x (srtS l) ↔ _
    rw [insS_mem, srtS_mem, List.mem_cons]
theorem srtS_srt : ∀ l : List Int, (srtS l).Pairwise (· < ·)
  | [] => List.Pairwise.nil
  | x :: l => insS_srt (srtS_srt l)
theorem lt_uniq : ∀ {a b : List Int}, (∀ k, k ∈ a ↔ k ∈ b) → a.Pairwise (· < ·) → b.Pairwise (· < ·) → a = b
  | [], [], _, _, _ => rfl
  | [], y :: b, h, _, _ => absurd ((h y).mpr List.mem_cons_self) (by simp)
  | x :: a, [], h, _, _ => absurd ((h x).mp List.mem_cons_self) (by simp)
  | x :: a, y :: b, h, ha, hb => by
    obtain ⟨a1, a2⟩ := List.pairwise_cons.mp ha
    obtain ⟨b1, b2⟩ := List.pairwise_cons.mp hb
    have e1 : y ≤ x := by
      rcases List.mem_cons.mp ((h x).mp List.mem_cons_self) with q | q
      · omega
      · have := b1 x q; omega
    have e2 : x ≤ y := by
      rcases List.mem_cons.mp ((h y).mpr List.mem_cons_self) with q | q
      · omega
      · have := a1 y q; omega
    have e : x = y := by omega
    subst e
    congr 1
    refine lt_uniq (fun k => ?_) a2 b2
    have hk := h k
    rw [List.mem_cons, List.mem_cons] at hk
    constructor
    · intro m
      rcases hk.mp (.inr m) with q | q
      · subst q; exact absurd (a1 _ m) (by omega)
      · exact q
    · intro m
      rcases hk.mpr (.inr m) with q | q
      · subst q; exact absurd (b1 _ m) (by omega)
      · exact q
def dSort : D → Option (List D)
  | .list ds => (asInts ds).map fun ns => (srtL ns).map .int
  | _ => none
theorem cl_sort {K : PySem.W.Frag} : CallO K (rSortedI K) (g1 dSort) := by
  intro O H ds d vs Q hf h e q
  obtain ⟨d1, v, rfl, rfl, r, e⟩ := repA1 h e
  unfold dSort at e
  split at e
  · obtain ⟨ns, e1, rfl⟩ := Option.map_eq_some_iff.mp e
    have e2 := asInts_eq e1
    subst e2
    obtain ⟨a, xs, rfl, h1, h3⟩ := rep_lst r
    have e3 := RepA.ints h3
    subst e3
    refine ⟨a, ns, rfl, h1, fun ns' p hp hs hn => ?_⟩
    have e4 : ns' = srtL ns := srt_uniq (hp.trans (srtL_perm ns).symm) hs (srtL_srt ns)
    subst e4
    exact q p _ hn (RepA.of_ints _)
  · cases e
/-! ### xs.extend(e), xs a list of the def's own -/
section
variable {X : Cx} {W : WX} {e b c v : Expr} {ρ : List Slot} {pos p p2 apos cpos : Pos} {x : Str} {i n : Nat} {ds : List D} {ow : Bool} {rest : List Stmt} {S L S1 : Type} {eS : S → List Slot} {eL : L → List Slot} {eS1 : S1 → List Slot}
theorem es_ext {m : M D} {k : List D → M (Fl S L)} (hs : ρ[i]? = some (.own ds)) (he : EV X W e ρ m) (hr : ∀ es, ES X W ow rest eS eL (ρ.set i (.own (ds ++ es))) (k es)) (hN : X.N[i]? = some x := by rfl) (hv : Vis X.env.scope x := by first | exact Or.inl rfl | exact Or.inr (Or.inl rfl) | exact Or.inr (Or.inr rfl))
    (hd : (x == ("__debug__" : Str)) = false := by decide) (hcd : (x == ("__classdict__" : Str)) = false := by decide)
    (hbase : attributeBase (.Name x p) "extend" X.env (eval (.Name x p) X.env) = eval (.Name x p) X.env := by rfl)
    (hfew : ((backTo cpos (starEach [e] X.env)).all (fun x => !x.1) && (backToKw cpos (keywordEach [] X.env)).all (fun x => x.1.isSome)
      && decide ([e].length + ([] : List Keyword).length + (if ([] : List Keyword).isEmpty then 0 else 1) < 30)) = true := by rfl)
    (hline : (apos.endLine == cpos.line) = true := by rfl) (hst : starEach [e] X.env = [(false, eval e X.env)] := by rfl) (hsw : swapsWith (.Call (.Attribute (.Name x p) "extend" apos) [e] [] cpos) none pos.line X.env = pure false := by rfl) :
    ES X W ow (.Expr (.Call (.Attribute (.Name x p) "extend" apos) [e] [] cpos) pos :: rest) eS eL ρ (bd m fun d => bd (toL d) fun es => bd (ck (decide (ds.length + es.length ≤ 16777216))) fun _ => k es) := by
  refine pss_mono (pss_cons (ps_expr (pe_bm PySem.F.plainAttrs_list PySem.F.slot_list_extend PySem.F.type_list_extend mt_extend (pe_var hN hv hd hcd) (pa_cons he pa_nil hst) hbase hfew hline hst) hsw) (es_ex hr)) fun N σ H _ ⟨F, G, τ, a, q⟩ => ?_
  obtain ⟨o, h1, e2, xs, q1, q2⟩ := a.sl.sl i _ hs
  obtain ⟨p1, p2, p3⟩ := a.sl.ops i _ hs rfl
  refine ⟨.ref (G.ow i), by rw [h1, e2], .inl ⟨rfl, xs, SqL.of q1⟩, F, G, τ, a, wp_of q (fun d τ1 z v H1 G1 a1 k1 r1 => ?_) fun _ _ z => z.ex⟩
  cases d with
  | list es =>
    have z : (bd (ck (decide (ds.length + es.length ≤ 16777216))) (fun _ => k es) τ1).wp _ _ := z
    obtain ⟨hz, z⟩ := wp_ck (wp_bd.mp z)
    have hz := of_decide_eq_true hz
    obtain ⟨b, zs, rfl, g1, g2, g3⟩ := r1
    have hH : H1 (G.ow i) = some (.lst xs) := k1.ks _ _ q1 p2
    have ra := RepA.kp k1.p _ _ q2
    have eo : G1.ow = G.ow := k1.ow
    obtain ⟨a2, k2⟩ := a1.putOwn hs (RepA.append ra g3)
    rw [eo] at a2 k2
    exact ⟨G.ow i, b, xs, zs, rfl, rfl, hH, g1, by rw [q2.length, g3.length, sizeLine_eq]; exact hz, es, F, G1, τ1, a2, Rs.wp_mono z (fun f τ' z => FlP.kp (k1.p.trans k2) z) fun _ _ z => z⟩
  | none => exact (wp_no.mp (wp_bd.mp z)).elim
  | bool _ => exact (wp_no.mp (wp_bd.mp z)).elim
  | int _ => exact (wp_no.mp (wp_bd.mp z)).elim
  | str _ => exact (wp_no.mp (wp_bd.mp z)).elim
  | tuple _ => exact (wp_no.mp (wp_bd.mp z)).elim
  | dict _ => exact (wp_no.mp (wp_bd.mp z)).elim
end
end DL


set_option maxRecDepth 100000
set_option maxHeartbeats 4000000
namespace DL
open PySem PySem.Spec PyProof.Rows L2

/-! ### methods of one argument that only tell -/
def MetD (K : PySem.W.Frag) (r : V → List V → Hp → VK → Prop) (g : D → D → Option D) : Prop := ∀ (O : Addr → Prop) (H : Hp) (x y d : D) (vx vy : V) (Q : VK), (∀ p, H p = none → ¬ O p) → Rep K O H x vx → Rep K O H y vy → g x y = some d →
  (∀ v H', Same H H' → Rep K O H' d v → Q v H') → r vx [vy] H Q
section
variable {X : Cx} {W : WX} {o e : Expr} {ρ : List Slot} {apos cpos : Pos} {name : Str} {T id : String}
/-- a list's method -/
theorem ev_lmet {r : V → List V → Hp → VK → Prop} {g : D → D → Option D} {mo me : M D} (slot : PySem.Slot "list" name id) (hty : typeOf (.builtin id) = pure (.type "method_descriptor")) (hm : MtR X id r) (hd : MetD X.K r g) (ho : EV X W o ρ mo) (he : EV X W e ρ me)
    (hbase : attributeBase o name X.env (eval o X.env) = eval o X.env := by rfl)
    (hfew : ((backTo cpos (starEach [e] X.env)).all (fun x => !x.1) && (backToKw cpos (keywordEach [] X.env)).all (fun x => x.1.isSome)
      && decide ([e].length + ([] : List Keyword).length + (if ([] : List Keyword).isEmpty then 0 else 1) < 30)) = true := by rfl)
    (hline : (apos.endLine == cpos.line) = true := by rfl) (hs : starEach [e] X.env = (false, eval e X.env) :: starEach [] X.env := by rfl) (hplain : (backTo cpos (starEach [] X.env)).any (·.1) = false := by rfl) :
    EV X W (.Call (.Attribute o name apos) [e] [] cpos) ρ (bd mo fun x => bd (toL x) fun xs => bd me fun y => li (g (.list xs) y)) := by
  refine pe_mono (pe_bm PySem.F.plainAttrs_list slot hty hm ho (pa_cons he pa_nil hs) hbase hfew hline hs hplain) fun σ H Q _ h => ?_
  obtain ⟨F, G, τ, at_, q⟩ := h
  refine ⟨F, G, τ, at_, wp_of q (fun d τ1 z vx H1 G1 a1 k1 r1 => ?_) fun e τ1 z => z⟩
  cases d with
  | list xs =>
    have z : (bd me (fun y => li (g (.list xs) y)) τ1).wp _ _ := z
    obtain ⟨a, vs, rfl, h1, h2, h3⟩ := r1
    refine ⟨.inl ⟨rfl, vs, SqL.of h1⟩, F, G1, τ1, a1, wp_of z (fun y τ2 z2 vy H2 G2 a2 k2 r2 => ?_) fun e τ2 z2 => z2.kp k1⟩
    obtain ⟨d, e, z2⟩ := wp_li z2
    exact hd G2.O H2 (.list xs) y d (.ref a) vy Q (fun p hp => a2.gd.nopen hp) (Rep.kp k2.p (.list xs) _ ⟨a, vs, rfl, h1, h2, h3⟩) r2 e fun v H3 s3 r3 => z2 v H3 G2 (a2.same s3) ((k1.trans k2).trans (Ke.same s3)) r3
  | none => exact (wp_no.mp (wp_bd.mp z)).elim
  | bool _ => exact (wp_no.mp (wp_bd.mp z)).elim
  | int _ => exact (wp_no.mp (wp_bd.mp z)).elim
  | str _ => exact (wp_no.mp (wp_bd.mp z)).elim
  | tuple _ => exact (wp_no.mp (wp_bd.mp z)).elim
  | dict _ => exact (wp_no.mp (wp_bd.mp z)).elim
/-- the first place of a whole number -/
def dIndex : D → D → Option D
  | .list ds, .int i => match asInts ds with
    | some is => if i ∈ is then some (.int (is.idxOf i : Nat)) else none
    | none => none
  | _, _ => none
theorem md_index {K : PySem.W.Frag} : MetD K (rIndex K) dIndex := by
  intro O H x y d vx vy Q hO hx hy hg q
  unfold dIndex at hg
  split at hg
  · split at hg
    · rename_i i _ is e1
      split at hg
      · rename_i hm
        cases hg
        have e2 := asInts_eq e1
        subst e2
        obtain ⟨a, xs, rfl, h1, h3⟩ := rep_lst hx
        have e3 := RepA.ints h3
        subst e3
        cases hy
        have hlt : is.idxOf i < is.length := List.idxOf_lt_length_of_mem hm
        refine ⟨a, is.map V.int, .int i, is.idxOf i, .int i, rfl, rfl, h1, rfl, ?_, ?_, by simp [eqV], fun m z' hm' hz => ?_, q _ H (same_refl H) rfl⟩
        · rw [List.all_eq_true]
          intro v mv
          obtain ⟨j, _, rfl⟩ := List.mem_map.mp mv
          rfl
        · rw [List.getElem?_map, List.getElem?_eq_getElem hlt, List.getElem_idxOf hlt]
          rfl
        · rw [List.getElem?_map] at hz
          obtain ⟨j, hj, rfl⟩ := Option.map_eq_some_iff.mp hz
          have hml : m < is.length := (List.getElem?_eq_some_iff.mp hj).1
          have hne := List.not_of_lt_findIdx (p := (· == i)) (xs := is) (i := m) hm'
          rw [(List.getElem?_eq_some_iff.mp hj).2] at hne
          simpa [eqV] using hne
      · cases hg
    · cases hg
  · cases hg
theorem ev_index {mo me : M D} (ho : EV X W o ρ mo) (he : EV X W e ρ me)
    (hbase : attributeBase o "index" X.env (eval o X.env) = eval o X.env := by rfl)
    (hfew : ((backTo cpos (starEach [e] X.env)).all (fun x => !x.1) && (backToKw cpos (keywordEach [] X.env)).all (fun x => x.1.isSome)
      && decide ([e].length + ([] : List Keyword).length + (if ([] : List Keyword).isEmpty then 0 else 1) < 30)) = true := by rfl)
    (hline : (apos.endLine == cpos.line) = true := by rfl) (hs : starEach [e] X.env = (false, eval e X.env) :: starEach [] X.env := by rfl) (hplain : (backTo cpos (starEach [] X.env)).any (·.1) = false := by rfl) :
    EV X W (.Call (.Attribute o "index" apos) [e] [] cpos) ρ (bd mo fun x => bd (toL x) fun xs => bd me fun y => li (dIndex (.list xs) y)) :=
  ev_lmet PySem.F.slot_list_index PySem.F.type_list_index mt_index md_index ho he hbase hfew hline hs hplain
end
end DL


set_option maxRecDepth 100000
set_option maxHeartbeats 4000000
/-! mirrors of defs that many laws reach, as gen.py prints them -/
namespace Q
open DL PySem PySem.Spec PyProof.Rows L2
noncomputable section
-- divisor
def m_divisor_b1  : D × D → M Bool := fun (s5 : D × D) => bd (pu s5.2) fun d6 => bd (pu (PyData.int 0)) fun d7 => li (dGt d6 d7)
def m_divisor_b2  : D × D → M (Fl (D × D) (D × D)) := fun (s5 : D × D) => bd (pu s5.2) fun d10 => bd (bd (pu s5.1) fun d8 => bd (pu s5.2) fun d9 => li (dMod d8 d9)) fun d11 => pu (.nx (d10, d11))
def m_divisor (a_one : D) (a_other : D) : M D := fe false (bd (bd (pu a_one) fun d2 => li (g1 dAbs [d2])) fun d1 => bd (bd (pu a_other) fun d4 => li (g1 dAbs [d4])) fun d3 => sq (wh m_divisor_b1 m_divisor_b2 (d1, d3)) fun s5 : D × D => bd (pu s5.1) fun d12 => pu (.rt d12))
-- lowest
def m_lowest (a_a : D) (a_b : D) : M D := fe false (bd (bd (pu a_a) fun d2 => bd (pu a_b) fun d3 => m_divisor d2 d3) fun d1 => bd (bd (bd (pu a_a) fun d4 => bd (pu d1) fun d5 => li (dDiv d4 d5)) fun d8 => bd (bd (pu a_b) fun d6 => bd (pu d1) fun d7 => li (dDiv d6 d7)) fun d9 => pu (PyData.tuple [d8, d9])) fun d10 => pu (.rt d10))
-- plus
def m_plus (a_one : D) (a_other : D) : M D := fe false (bd (bd (bd (bd (bd (pu a_one) fun d1 => bd (pu (PyData.int 0)) fun d2 => li (dIdx d1 d2)) fun d5 => bd (bd (pu a_other) fun d3 => bd (pu (PyData.int 1)) fun d4 => li (dIdx d3 d4)) fun d6 => li (dMul d5 d6)) fun d13 => bd (bd (bd (pu a_other) fun d7 => bd (pu (PyData.int 0)) fun d8 => li (dIdx d7 d8)) fun d11 => bd (bd (pu a_one) fun d9 => bd (pu (PyData.int 1)) fun d10 => li (dIdx d9 d10)) fun d12 => li (dMul d11 d12)) fun d14 => li (dAdd d13 d14)) fun d21 => bd (bd (bd (pu a_one) fun d15 => bd (pu (PyData.int 1)) fun d16 => li (dIdx d15 d16)) fun d19 => bd (bd (pu a_other) fun d17 => bd (pu (PyData.int 1)) fun d18 => li (dIdx d17 d18)) fun d20 => li (dMul d19 d20)) fun d22 => m_lowest d21 d22) fun d23 => pu (.rt d23))
-- times
def m_times (a_one : D) (a_other : D) : M D := fe false (bd (bd (bd (bd (pu a_one) fun d1 => bd (pu (PyData.int 0)) fun d2 => li (dIdx d1 d2)) fun d5 => bd (bd (pu a_other) fun d3 => bd (pu (PyData.int 0)) fun d4 => li (dIdx d3 d4)) fun d6 => li (dMul d5 d6)) fun d13 => bd (bd (bd (pu a_one) fun d7 => bd (pu (PyData.int 1)) fun d8 => li (dIdx d7 d8)) fun d11 => bd (bd (pu a_other) fun d9 => bd (pu (PyData.int 1)) fun d10 => li (dIdx d9 d10)) fun d12 => li (dMul d11 d12)) fun d14 => m_lowest d13 d14) fun d15 => pu (.rt d15))
-- is_less
def m_is_less (a_one : D) (a_other : D) : M D := fe false (bd (bd (bd (bd (pu a_one) fun d1 => bd (pu (PyData.int 0)) fun d2 => li (dIdx d1 d2)) fun d5 => bd (bd (pu a_other) fun d3 => bd (pu (PyData.int 1)) fun d4 => li (dIdx d3 d4)) fun d6 => li (dMul d5 d6)) fun d13 => bd (bd (bd (pu a_other) fun d7 => bd (pu (PyData.int 0)) fun d8 => li (dIdx d7 d8)) fun d11 => bd (bd (pu a_one) fun d9 => bd (pu (PyData.int 1)) fun d10 => li (dIdx d9 d10)) fun d12 => li (dMul d11 d12)) fun d14 => li ((dLt d13 d14).map PyData.bool)) fun d15 => pu (.rt d15))
-- _law_b_mixed
def m__law_b_mixed (a_cell : D) (a_at : D) : M D := fe false (bd (bd (pu a_cell) fun d3 => bd (bd (pu (PyData.int 10)) fun d1 => bd (pu (PyData.int 18)) fun d2 => li (dPow d1 d2)) fun d4 => li (dGe d3 d4)) fun k5 => if k5 then (bd (pu a_cell) fun d6 => pu (.rt d6)) else (bd (bd (bd (bd (bd (bd (pu a_cell) fun d8 => bd (pu (PyData.int 2147483549)) fun d9 => li (dMod d8 d9)) fun d10 => bd (pu (PyData.int 50021)) fun d11 => li (dMul d10 d11)) fun d14 => bd (bd (pu a_at) fun d12 => bd (pu (PyData.int 7993)) fun d13 => li (dMul d12 d13)) fun d15 => li (dAdd d14 d15)) fun d16 => bd (pu (PyData.int 419)) fun d17 => li (dAdd d16 d17)) fun d18 => bd (pu (PyData.int 2147483543)) fun d19 => li (dMod d18 d19)) fun d7 => bd (bd (bd (bd (bd (pu d7) fun d21 => bd (pu d7) fun d22 => li (dMul d21 d22)) fun d25 => bd (bd (pu (PyData.int 613)) fun d23 => bd (pu a_at) fun d24 => li (dMul d23 d24)) fun d26 => li (dAdd d25 d26)) fun d27 => bd (pu (PyData.int 101)) fun d28 => li (dAdd d27 d28)) fun d29 => bd (pu (PyData.int 2147483497)) fun d30 => li (dMod d29 d30)) fun d20 => bd (bd (bd (bd (bd (pu d20) fun d32 => bd (pu d20) fun d33 => li (dMul d32 d33)) fun d36 => bd (bd (pu (PyData.int 877)) fun d34 => bd (pu d7) fun d35 => li (dMul d34 d35)) fun d37 => li (dAdd d36 d37)) fun d38 => bd (pu a_at) fun d39 => li (dAdd d38 d39)) fun d40 => bd (pu (PyData.int 2147483489)) fun d41 => li (dMod d40 d41)) fun d31 => bd (bd (bd (pu d20) fun d42 => bd (pu (PyData.int 2147483489)) fun d43 => li (dMul d42 d43)) fun d44 => bd (pu d31) fun d45 => li (dAdd d44 d45)) fun d46 => pu (.rt d46)))
-- _law_b_take
def m__law_b_take (a_tape : Nat) (a_many : D) : M D := fe false (sq (bd (bd (bd (pu (PyData.int 2)) fun d1 => bd (mget a_tape) fun l2 => li (dIdx (PyData.list l2) d1)) fun d3 => bd (pu a_many) fun d4 => li (dLt d3 d4)) fun k5 => if k5 then (bd (bd (pu (PyData.int 1)) fun d8 => bd (mget a_tape) fun l9 => li (dIdx (PyData.list l9) d8)) fun d7 => bd (bd (bd (pu (PyData.int 17)) fun d11 => bd (pu d7) fun d12 => li (dMul d11 d12)) fun d13 => bd (pu (PyData.int 5)) fun d14 => li (dAdd d13 d14)) fun d10 => sq (bd (bd (pu d7) fun d18 => bd (bd (bd (pu (PyData.int 0)) fun d15 => bd (mget a_tape) fun l16 => li (dIdx (PyData.list l16) d15)) fun d17 => li (g1 dLen [d17])) fun d19 => li (dLt d18 d19)) fun k20 => if k20 then (bd (bd (bd (pu (PyData.int 0)) fun d23 => bd (mget a_tape) fun l24 => li (dIdx (PyData.list l24) d23)) fun d25 => bd (pu d7) fun d26 => li (dIdx d25 d26)) fun d22 => pu (.nx d22)) else (sq (bd (bd (bd (pu (PyData.int 0)) fun d27 => bd (mget a_tape) fun l28 => li (dIdx (PyData.list l28) d27)) fun d30 => bd (bd (pu []) fun l29 => pu (PyData.list l29)) fun d31 => li (dNe d30 d31)) fun k32 => if k32 then (bd (bd (bd (bd (bd (pu (PyData.int 0)) fun d35 => bd (mget a_tape) fun l36 => li (dIdx (PyData.list l36) d35)) fun d44 => bd (bd (bd (pu d7) fun d37 => bd (pu (PyData.int 11)) fun d38 => li (dMul d37 d38)) fun d42 => bd (bd (bd (pu (PyData.int 0)) fun d39 => bd (mget a_tape) fun l40 => li (dIdx (PyData.list l40) d39)) fun d41 => li (g1 dLen [d41])) fun d43 => li (dMod d42 d43)) fun d45 => li (dIdx d44 d45)) fun d46 => bd (pu (PyData.int 1000033)) fun d47 => li (dMod d46 d47)) fun d50 => bd (bd (pu d7) fun d48 => bd (pu (PyData.int 1000081)) fun d49 => li (dMul d48 d49)) fun d51 => li (dAdd d50 d51)) fun d34 => pu (.nx d34)) else (pu (.nx d10))) fun s33 : D => pu (.nx s33))) fun s21 : D => bd (bd (pu d7) fun d52 => bd (pu (PyData.int 1)) fun d53 => li (dAdd d52 d53)) fun d54 => bd (pu (PyData.int 1)) fun d55 => bd (mget a_tape) fun l56 => bd (li (setD l56 d55 d54)) fun l57 => bd (mput a_tape l57) fun _ => bd (bd (pu s21) fun d58 => bd (pu d7) fun d59 => m__law_b_mixed d58 d59) fun d60 => bd (pu (PyData.int 2)) fun d61 => bd (mget a_tape) fun l62 => bd (li (setD l62 d61 d60)) fun l63 => bd (mput a_tape l63) fun _ => pu (.nx ())) else (pu (.nx ()))) fun s6 : Unit => bd (bd (bd (pu (PyData.int 2)) fun d65 => bd (mget a_tape) fun l66 => li (dIdx (PyData.list l66) d65)) fun d67 => bd (pu a_many) fun d68 => li (dMod d67 d68)) fun d64 => bd (bd (bd (pu (PyData.int 2)) fun d69 => bd (mget a_tape) fun l70 => li (dIdx (PyData.list l70) d69)) fun d71 => bd (pu a_many) fun d72 => li (dDiv d71 d72)) fun d73 => bd (pu (PyData.int 2)) fun d74 => bd (mget a_tape) fun l75 => bd (li (setD l75 d74 d73)) fun l76 => bd (mput a_tape l76) fun _ => bd (pu d64) fun d77 => pu (.rt d77))
-- is_whole
def m_is_whole (a_thing : D) : M D := fe false (bd (bd (bd (pu a_thing) fun d1 => pu (PyData.bool (isI "int" d1))) fun d5 => bd (tb d5) fun k6 => if k6 then (bd (bd (pu a_thing) fun d2 => pu (PyData.bool (isI "bool" d2))) fun d3 => bd (tb d3) fun k4 => pu (PyData.bool (!k4))) else pu (PyData.bool false)) fun d7 => pu (.rt d7))
-- is_row
def m_is_row (a_columns : D) (a_thing : D) : M D := fe false (bd (bd (bd (bd (bd (pu a_thing) fun d1 => pu (PyData.bool (isI "tuple" d1))) fun d2 => li (dTru d2)) fun k3 => pu (!k3)) fun k7 => if k7 then pu true else (bd (bd (pu a_thing) fun d4 => li (g1 dLen [d4])) fun d5 => bd (pu a_columns) fun d6 => li (dNe d5 d6))) fun k8 => if k8 then (bd (pu (PyData.bool false)) fun d9 => pu (.rt d9)) else (bd (bd (bd (bd (bd (pu a_thing) fun d10 => li (dLst d10)) fun l12 => mf l12 (fun d13 => bd (li (u1 d13)) (fun _ => pu true)) (fun d13 => bd (li (u1 d13)) (x1 fun d11 => bd (bd (pu d11) fun d14 => m_is_whole d14) fun d20 => bd (tb d20) fun k21 => if k21 then (bd (bd (pu (PyData.int 9)) fun d15 => li (dNeg d15)) fun d16 => bd (pu d11) fun d17 => bd (li (dLe d16 d17)) fun k19 => if k19 then bd (pu (PyData.int 9)) fun d18 => li ((dLe d17 d18).map PyData.bool) else pu (PyData.bool false)) else pu (PyData.bool false)))) fun l22 => pu (PyData.list l22)) fun d23 => li (g1 dAll [d23])) fun d24 => pu (.rt d24)))
-- columns_of
def m_columns_of (a_board : D) : M D := fe false (bd (bd (pu a_board) fun d1 => bd (pu (PyData.tuple [])) fun d2 => li (dEq d1 d2)) fun k3 => if k3 then (bd (pu (PyData.int 0)) fun d4 => pu (.rt d4)) else (bd (bd (bd (pu a_board) fun d5 => bd (pu (PyData.int 0)) fun d6 => li (dIdx d5 d6)) fun d7 => li (g1 dLen [d7])) fun d8 => pu (.rt d8)))
-- is_board
def m_is_board (a_thing : D) : M D := fe false (bd (bd (bd (bd (bd (pu a_thing) fun d1 => pu (PyData.bool (isI "tuple" d1))) fun d2 => li (dTru d2)) fun k3 => pu (!k3)) fun k17 => if k17 then pu true else (bd (bd (bd (pu a_thing) fun d4 => li (g1 dLen [d4])) fun d5 => bd (pu (PyData.int 8)) fun d6 => li (dGt d5 d6)) fun k16 => if k16 then pu true else (bd (bd (bd (bd (bd (bd (pu a_thing) fun d7 => li (dLst d7)) fun l9 => mf l9 (fun d10 => bd (li (u1 d10)) (fun _ => pu true)) (fun d10 => bd (li (u1 d10)) (x1 fun d8 => bd (pu d8) fun d11 => pu (PyData.bool (isI "tuple" d11))))) fun l12 => pu (PyData.list l12)) fun d13 => li (g1 dAll [d13])) fun d14 => li (dTru d14)) fun k15 => pu (!k15)))) fun k18 => if k18 then (bd (pu (PyData.bool false)) fun d19 => pu (.rt d19)) else (bd (bd (pu a_thing) fun d21 => m_columns_of d21) fun d20 => bd (bd (bd (pu d20) fun d22 => bd (pu (PyData.int 10)) fun d23 => li ((dLe d22 d23).map PyData.bool)) fun d32 => bd (tb d32) fun k33 => if k33 then (bd (bd (bd (bd (pu a_thing) fun d24 => li (dLst d24)) fun l26 => mf l26 (fun d27 => bd (li (u1 d27)) (fun _ => pu true)) (fun d27 => bd (li (u1 d27)) (x1 fun d25 => bd (pu d20) fun d28 => bd (pu d25) fun d29 => m_is_row d28 d29))) fun l30 => pu (PyData.list l30)) fun d31 => li (g1 dAll [d31])) else pu (PyData.bool false)) fun d34 => pu (.rt d34)))
-- need_board
def m_need_board (a_thing : D) : M D := fe false (bd (bd (bd (bd (pu a_thing) fun d1 => m_is_board d1) fun d2 => li (dTru d2)) fun k3 => pu (!k3)) fun k4 => if k4 then no else (pu (.nx ())))
-- need_signs
def m_need_signs (a_board : D) (a_begun : D) : M D := fe false (bd (bd (bd (bd (bd (pu a_begun) fun d1 => pu (PyData.bool (isI "tuple" d1))) fun d2 => li (dTru d2)) fun k3 => pu (!k3)) fun k8 => if k8 then pu true else (bd (bd (pu a_begun) fun d4 => li (g1 dLen [d4])) fun d6 => bd (bd (pu a_board) fun d5 => m_columns_of d5) fun d7 => li (dGt d6 d7))) fun k9 => if k9 then no else (bd (bd (bd (bd (bd (bd (bd (pu a_begun) fun d10 => li (dLst d10)) fun l12 => mf l12 (fun d13 => bd (li (u1 d13)) (fun _ => pu true)) (fun d13 => bd (li (u1 d13)) (x1 fun d11 => bd (bd (pu d11) fun d14 => m_is_whole d14) fun d20 => bd (tb d20) fun k21 => if k21 then (bd (pu d11) fun d18 => bd (bd (pu (PyData.int 1)) fun d16 => bd (bd (pu (PyData.int 1)) fun d15 => li (dNeg d15)) fun d17 => pu (PyData.tuple [d16, d17])) fun d19 => li ((dIn d18 d19).map PyData.bool)) else pu (PyData.bool false)))) fun l22 => pu (PyData.list l22)) fun d23 => li (g1 dAll [d23])) fun d24 => li (dTru d24)) fun k25 => pu (!k25)) fun k26 => if k26 then no else (pu (.nx ()))))
-- begun_sum
def m_begun_sum (a_row : D) (a_begun : D) : M D := fe false (bd (bd (bd (bd (bd (pu a_row) fun d1 => bd (pu a_begun) fun d2 => li (dZip d1 d2)) fun l5 => mf l5 (fun d6 => bd (li ((uN 2) d6)) (fun _ => pu true)) (fun d6 => bd (li ((uN 2) d6)) (x2 fun d3 d4 => bd (pu d3) fun d7 => bd (pu d4) fun d8 => li (dMul d7 d8)))) fun l9 => pu (PyData.list l9)) fun d10 => li (g1 dSum [d10])) fun d11 => pu (.rt d11))
-- row_squares
def m_row_squares (a_row : D) (a_begun : D) : M D := fe false (bd (bd (pu a_row) fun d2 => bd (pu a_begun) fun d3 => m_begun_sum d2 d3) fun d1 => bd (bd (bd (pu d1) fun d4 => bd (pu d1) fun d5 => li (dMul d4 d5)) fun d18 => bd (bd (bd (bd (bd (bd (pu a_row) fun d6 => bd (bd (bd (pu a_begun) fun d7 => li (g1 dLen [d7])) oInt) fun o8 => bd (pu none) fun o9 => li (dCut d6 o8 o9)) fun d10 => li (dLst d10)) fun l12 => mf l12 (fun d13 => bd (li (u1 d13)) (fun _ => pu true)) (fun d13 => bd (li (u1 d13)) (x1 fun d11 => bd (pu d11) fun d14 => bd (pu d11) fun d15 => li (dMul d14 d15)))) fun l16 => pu (PyData.list l16)) fun d17 => li (g1 dSum [d17])) fun d19 => li (dAdd d18 d19)) fun d20 => pu (.rt d20))
-- squares_in
def m_squares_in (a_board : D) (a_begun : D) : M D := fe false (bd (bd (bd (bd (bd (pu a_board) fun d1 => li (dLst d1)) fun l3 => mf l3 (fun d4 => bd (li (u1 d4)) (fun _ => pu true)) (fun d4 => bd (li (u1 d4)) (x1 fun d2 => bd (pu d2) fun d5 => bd (pu a_begun) fun d6 => m_row_squares d5 d6))) fun l7 => pu (PyData.list l7)) fun d8 => li (g1 dSum [d8])) fun d9 => pu (.rt d9))
-- squares
def m_squares (a_board : D) (a_begun : D) : M D := fe false (bd (bd (pu a_board) fun d1 => m_need_board d1) fun _ => bd (bd (pu a_board) fun d2 => bd (pu a_begun) fun d3 => m_need_signs d2 d3) fun _ => bd (bd (pu a_board) fun d4 => bd (pu a_begun) fun d5 => m_squares_in d4 d5) fun d6 => pu (.rt d6))
-- _law_b_whole
def m__law_b_whole (a_thing : D) : M D := fe false (bd (bd (bd (pu a_thing) fun d1 => pu (PyData.bool (isI "int" d1))) fun d5 => bd (tb d5) fun k6 => if k6 then (bd (bd (pu a_thing) fun d2 => pu (PyData.bool (isI "bool" d2))) fun d3 => bd (tb d3) fun k4 => pu (PyData.bool (!k4))) else pu (PyData.bool false)) fun d7 => pu (.rt d7))
-- _law_b_number
def m__law_b_number (a_tape : Nat) (a_kind : D) : M D := fe false (bd (bd (pu a_kind) fun d1 => bd (pu (PyData.int 0)) fun d2 => li (dEq d1 d2)) fun k3 => if k3 then (bd (bd (bd (pu (PyData.int 19)) fun d4 => m__law_b_take a_tape d4) fun d5 => bd (pu (PyData.int 9)) fun d6 => li (dSub d5 d6)) fun d7 => pu (.rt d7)) else (bd (bd (pu a_kind) fun d8 => bd (pu (PyData.int 1)) fun d9 => li (dEq d8 d9)) fun k10 => if k10 then (bd (bd (bd (pu (PyData.int 3)) fun d11 => m__law_b_take a_tape d11) fun d12 => bd (pu (PyData.int 1)) fun d13 => li (dSub d12 d13)) fun d14 => pu (.rt d14)) else (bd (bd (pu a_kind) fun d15 => bd (pu (PyData.int 2)) fun d16 => li (dEq d15 d16)) fun k17 => if k17 then (bd (bd (pu (PyData.int 9)) fun d21 => bd (bd (pu (PyData.int 18)) fun d19 => bd (bd (pu (PyData.int 2)) fun d18 => m__law_b_take a_tape d18) fun d20 => li (dMul d19 d20)) fun d22 => li (dSub d21 d22)) fun d23 => pu (.rt d23)) else (bd (bd (bd (bd (pu (PyData.int 19)) fun d24 => m__law_b_take a_tape d24) fun d25 => bd (pu (PyData.int 9)) fun d26 => li (dSub d25 d26)) fun d31 => bd (bd (bd (bd (pu (PyData.int 3)) fun d27 => m__law_b_take a_tape d27) fun d28 => bd (pu (PyData.int 0)) fun d29 => li ((dEq d28 d29).map PyData.bool)) fun d30 => li (g1 dInt [d30])) fun d32 => li (dMul d31 d32)) fun d33 => pu (.rt d33)))))
-- _law_b_board
def m__law_b_board (a_tape : Nat) (a_rows : D) (a_columns : D) : M D := fe false (bd (bd (bd (pu a_rows) fun d2 => bd (pu (PyData.int 1)) fun d3 => li (dAdd d2 d3)) fun d4 => m__law_b_take a_tape d4) fun d1 => bd (bd (bd (pu a_columns) fun d6 => bd (pu (PyData.int 1)) fun d7 => li (dAdd d6 d7)) fun d8 => m__law_b_take a_tape d8) fun d5 => bd (bd (pu (PyData.int 4)) fun d10 => m__law_b_take a_tape d10) fun d9 => bd (bd (bd (bd (bd (pu d1) fun d11 => li (dRng1 d11)) fun l13 => mf l13 (fun d14 => bd (li (u1 d14)) (fun _ => pu true)) (fun d14 => bd (li (u1 d14)) (x1 fun d12 => bd (bd (bd (bd (pu d5) fun d15 => li (dRng1 d15)) fun l17 => mf l17 (fun d18 => bd (li (u1 d18)) (fun _ => pu true)) (fun d18 => bd (li (u1 d18)) (x1 fun d16 => bd (pu d9) fun d19 => m__law_b_number a_tape d19))) fun l20 => pu (PyData.list l20)) fun d21 => li (g1 dTup [d21])))) fun l22 => pu (PyData.list l22)) fun d23 => li (g1 dTup [d23])) fun d24 => pu (.rt d24))
-- _law_b_wide
def m__law_b_wide (a_board : D) : M D := fe false (bd (bd (bd (bd (pu a_board) fun d2 => bd (bd (pu (PyData.tuple [])) fun d1 => pu (PyData.tuple [d1])) fun d3 => li (dAdd d2 d3)) fun d4 => bd (pu (PyData.int 0)) fun d5 => li (dIdx d4 d5)) fun d6 => li (g1 dLen [d6])) fun d7 => pu (.rt d7))
-- _law_b_signs
def m__law_b_signs (a_tape : Nat) (a_wide : D) : M D := fe false (bd (bd (bd (bd (bd (pu a_wide) fun d1 => li (dRng1 d1)) fun l3 => mf l3 (fun d4 => bd (li (u1 d4)) (fun _ => pu true)) (fun d4 => bd (li (u1 d4)) (x1 fun d2 => bd (pu (PyData.int 1)) fun d8 => bd (bd (pu (PyData.int 2)) fun d6 => bd (bd (pu (PyData.int 2)) fun d5 => m__law_b_take a_tape d5) fun d7 => li (dMul d6 d7)) fun d9 => li (dSub d8 d9)))) fun l10 => pu (PyData.list l10)) fun d11 => li (g1 dTup [d11])) fun d12 => pu (.rt d12))
-- _law_b_row_sum
def m__law_b_row_sum_b1  : D → D → M (Fl D D) := fun (s4 : D) d14 => bd (li ((uN 2) d14)) (x2 fun d5 d6 => bd (bd (pu s4) fun d10 => bd (bd (pu d5) fun d8 => bd (pu d6) fun d9 => li (dMul d8 d9)) fun d11 => li (dAdd d10 d11)) fun d7 => pu (.nx d7))
def m__law_b_row_sum (a_row : D) (a_signs : D) : M D := fe false (bd (pu (PyData.int 0)) fun d1 => sq (bd (bd (pu a_row) fun d2 => bd (pu a_signs) fun d3 => li (dZip d2 d3)) fun l13 => fo m__law_b_row_sum_b1 l13 d1) fun s4 : D => bd (pu s4) fun d12 => pu (.rt d12))
-- _law_b_squares
def m__law_b_squares_b1  : D → D → M (Fl D D) := fun (s18 : D) d26 => bd (li (u1 d26)) (x1 fun d19 => bd (bd (pu s18) fun d23 => bd (bd (pu d19) fun d21 => bd (pu d19) fun d22 => li (dMul d21 d22)) fun d24 => li (dAdd d23 d24)) fun d20 => pu (.nx d20))
def m__law_b_squares_b2 (a_begun : D) : D → D → M (Fl D D) := fun (s3 : D) d29 => bd (li (u1 d29)) (x1 fun d4 => bd (bd (pu d4) fun d6 => bd (pu a_begun) fun d7 => m__law_b_row_sum d6 d7) fun d5 => bd (bd (pu s3) fun d11 => bd (bd (pu d5) fun d9 => bd (pu d5) fun d10 => li (dMul d9 d10)) fun d12 => li (dAdd d11 d12)) fun d8 => sq (bd (bd (bd (pu d4) fun d13 => bd (bd (bd (pu a_begun) fun d14 => li (g1 dLen [d14])) oInt) fun o15 => bd (pu none) fun o16 => li (dCut d13 o15 o16)) fun d17 => li (dLst d17)) fun l25 => fo m__law_b_squares_b1 l25 d8) fun s18 : D => pu (.nx s18))
def m__law_b_squares (a_board : D) (a_begun : D) : M D := fe false (bd (pu (PyData.int 0)) fun d1 => sq (bd (bd (pu a_board) fun d2 => li (dLst d2)) fun l28 => fo (m__law_b_squares_b2 a_begun) l28 d1) fun s3 : D => bd (pu s3) fun d27 => pu (.rt d27))
-- _law_acell
def m__law_acell (a_script : D) (a_k : D) : M D := fe false (bd (bd (pu a_k) fun d2 => bd (bd (pu a_script) fun d1 => li (g1 dLen [d1])) fun d3 => li (dLt d2 d3)) fun k4 => if k4 then (bd (bd (pu a_script) fun d5 => bd (pu a_k) fun d6 => li (dIdx d5 d6)) fun d7 => pu (.rt d7)) else (bd (pu (PyData.int 0)) fun d8 => pu (.rt d8)))
-- _law_atape
def m__law_atape_b1 (d13 : D) (a_k : D) : D × D → D → M (Fl (D × D) (D × D)) := fun (s43 : D × D) d68 => bd (li (u1 d68)) (x1 fun d44 => bd (bd (bd (pu s43.1) fun d46 => bd (pu d13) fun d47 => li (dMul d46 d47)) fun d48 => bd (pu s43.2) fun d49 => li (dAdd d48 d49)) fun d45 => bd (bd (bd (bd (bd (bd (pu s43.2) fun d51 => bd (pu s43.2) fun d52 => li (dMul d51 d52)) fun d55 => bd (bd (pu a_k) fun d53 => bd (pu (PyData.int 3)) fun d54 => li (dAdd d53 d54)) fun d56 => li (dMul d55 d56)) fun d59 => bd (bd (pu (PyData.int 40692)) fun d57 => bd (pu a_k) fun d58 => li (dMul d57 d58)) fun d60 => li (dAdd d59 d60)) fun d61 => bd (pu d44) fun d62 => li (dAdd d61 d62)) fun d63 => bd (pu d13) fun d64 => li (dMod d63 d64)) fun d50 => pu (.nx (d45, d50)))
def m__law_atape (a_script : D) (a_k : D) : M D := fe true (bd (bd (pu a_script) fun d2 => bd (pu a_k) fun d3 => m__law_acell d2 d3) fun d1 => bd (bd (bd (pu d1) fun d4 => bd (pu (PyData.int 2)) fun d5 => li (dMod d4 d5)) fun d6 => bd (pu (PyData.int 0)) fun d7 => li (dEq d6 d7)) fun k8 => if k8 then (bd (bd (bd (pu d1) fun d9 => bd (pu (PyData.int 2)) fun d10 => li (dDiv d9 d10)) fun d11 => pu [d11]) fun l12 => pu (.rt (PyData.list l12))) else (bd (bd (bd (bd (pu (PyData.int 2305843009213693951)) fun d14 => bd (pu (PyData.int 2147483647)) fun d15 => bd (pu (PyData.int 2305843009213693921)) fun d16 => pu [d14, d15, d16]) fun l17 => pu (PyData.list l17)) fun d20 => bd (bd (pu a_k) fun d18 => bd (pu (PyData.int 3)) fun d19 => li (dMod d18 d19)) fun d21 => li (dIdx d20 d21)) fun d13 => bd (pu (PyData.int 0)) fun d22 => bd (bd (bd (bd (bd (bd (bd (bd (pu d1) fun d24 => bd (pu d13) fun d25 => li (dMod d24 d25)) fun d28 => bd (bd (pu (PyData.int 7919)) fun d26 => bd (pu a_k) fun d27 => li (dMul d26 d27)) fun d29 => li (dAdd d28 d29)) fun d30 => bd (pu (PyData.int 1)) fun d31 => li (dAdd d30 d31)) fun d32 => bd (pu (PyData.int 5)) fun d33 => li (dPow d32 d33)) fun d36 => bd (bd (pu (PyData.int 69621)) fun d34 => bd (pu a_k) fun d35 => li (dMul d34 d35)) fun d37 => li (dAdd d36 d37)) fun d38 => bd (pu (PyData.int 11)) fun d39 => li (dAdd d38 d39)) fun d40 => bd (pu d13) fun d41 => li (dMod d40 d41)) fun d23 => sq (bd (bd (pu (PyData.int 18)) fun d42 => li (dRng1 d42)) fun l67 => fo (m__law_atape_b1 d13 a_k) l67 (d22, d23)) fun s43 : D × D => bd (bd (pu s43.1) fun d65 => pu [d65]) fun l66 => pu (.rt (PyData.list l66))))
-- _law_adigit
def m__law_adigit (a_tape : Nat) (a_many : D) : M D := fe false (bd (bd (bd (pu (PyData.int 0)) fun d2 => bd (mget a_tape) fun l3 => li (dIdx (PyData.list l3) d2)) fun d4 => bd (pu a_many) fun d5 => li (dMod d4 d5)) fun d1 => bd (bd (bd (pu (PyData.int 0)) fun d6 => bd (mget a_tape) fun l7 => li (dIdx (PyData.list l7) d6)) fun d8 => bd (pu a_many) fun d9 => li (dDiv d8 d9)) fun d10 => bd (pu (PyData.int 0)) fun d11 => bd (mget a_tape) fun l12 => bd (li (setD l12 d11 d10)) fun l13 => bd (mput a_tape l13) fun _ => bd (pu d1) fun d14 => pu (.rt d14))
-- sum_of
def m_sum_of_b1  : D → D → M (Fl D D) := fun (s5 : D) d12 => bd (li (u1 d12)) (x1 fun d6 => bd (bd (pu s5) fun d8 => bd (pu d6) fun d9 => m_plus d8 d9) fun d7 => pu (.nx d7))
def m_sum_of (a_some : D) : M D := fe false (bd (bd (pu (PyData.int 0)) fun d2 => bd (pu (PyData.int 1)) fun d3 => pu (PyData.tuple [d2, d3])) fun d1 => sq (bd (bd (pu a_some) fun d4 => li (dLst d4)) fun l11 => fo m_sum_of_b1 l11 d1) fun s5 : D => bd (pu s5) fun d10 => pu (.rt d10))
-- need_bound
def m_need_bound (a_bound : D) : M D := fe false (bd (bd (bd (bd (bd (pu a_bound) fun d1 => m_is_whole d1) fun d2 => li (dTru d2)) fun k3 => pu (!k3)) fun k9 => if k9 then pu true else (bd (bd (pu (PyData.int 1)) fun d4 => bd (pu a_bound) fun d5 => bd (li (dLe d4 d5)) fun k7 => if k7 then bd (pu (PyData.int 99)) fun d6 => li (dLe d5 d6) else pu false) fun k8 => pu (!k8))) fun k10 => if k10 then no else (pu (.nx ())))
-- power
def m_power_b1  : D → D → M (Fl D D) := fun (s3 : D) d10 => bd (li (u1 d10)) (x1 fun d4 => bd (bd (pu s3) fun d6 => bd (pu s3) fun d7 => li (dAdd d6 d7)) fun d5 => pu (.nx d5))
def m_power (a_number : D) : M D := fe false (bd (pu (PyData.int 1)) fun d1 => sq (bd (bd (pu a_number) fun d2 => li (dRng1 d2)) fun l9 => fo m_power_b1 l9 d1) fun s3 : D => bd (pu s3) fun d8 => pu (.rt d8))
-- both_ways
def m_both_ways (a_number : D) : M D := fe false (bd (bd (bd (pu a_number) fun d2 => li (g1 dAbs [d2])) fun d3 => m_power d3) fun d1 => bd (bd (bd (bd (pu d1) fun d4 => bd (pu d1) fun d5 => li (dMul d4 d5)) fun d6 => bd (pu (PyData.int 1)) fun d7 => li (dAdd d6 d7)) fun d8 => bd (pu d1) fun d9 => pu (PyData.tuple [d8, d9])) fun d10 => pu (.rt d10))
-- row_weight
def m_row_weight_b1  : D × D → D → M (Fl (D × D) (D × D)) := fun (s12 : D × D) d30 => bd (li (u1 d30)) (x1 fun d13 => bd (bd (pu d13) fun d14 => m_both_ways d14) fun d15 => bd (li ((uN 2) d15)) (x2 fun d16 d17 => bd (bd (pu s12.1) fun d19 => bd (pu d16) fun d20 => li (dMul d19 d20)) fun d18 => bd (bd (bd (pu s12.2) fun d22 => bd (pu d17) fun d23 => li (dMul d22 d23)) fun d24 => bd (pu (PyData.int 2)) fun d25 => li (dMul d24 d25)) fun d21 => pu (.nx (d18, d21))))
def m_row_weight (a_row : D) (a_begun : D) : M D := fe false (bd (bd (bd (pu a_row) fun d1 => bd (pu a_begun) fun d2 => m_begun_sum d1 d2) fun d3 => m_both_ways d3) fun d4 => bd (li ((uN 2) d4)) (x2 fun d5 d6 => sq (bd (bd (bd (pu a_row) fun d7 => bd (bd (bd (pu a_begun) fun d8 => li (g1 dLen [d8])) oInt) fun o9 => bd (pu none) fun o10 => li (dCut d7 o9 o10)) fun d11 => li (dLst d11)) fun l29 => fo m_row_weight_b1 l29 (d5, d6)) fun s12 : D × D => bd (bd (pu s12.1) fun d26 => bd (pu s12.2) fun d27 => m_lowest d26 d27) fun d28 => pu (.rt d28)))
-- weight_in
def m_weight_in (a_board : D) (a_begun : D) : M D := fe false (bd (bd (bd (bd (bd (pu a_board) fun d1 => li (dLst d1)) fun l3 => mf l3 (fun d4 => bd (li (u1 d4)) (fun _ => pu true)) (fun d4 => bd (li (u1 d4)) (x1 fun d2 => bd (pu d2) fun d5 => bd (pu a_begun) fun d6 => m_row_weight d5 d6))) fun l7 => pu (PyData.list l7)) fun d8 => m_sum_of d8) fun d9 => pu (.rt d9))
-- signs_by_weight
def m_signs_by_weight_b1 (a_board : D) : D → D → M (Fl D D) := fun (s5 : D) d29 => bd (li (u1 d29)) (x1 fun d6 => bd (bd (pu s5) fun d9 => bd (bd (pu (PyData.int 1)) fun d8 => pu (PyData.tuple [d8])) fun d10 => li (dAdd d9 d10)) fun d7 => bd (bd (pu s5) fun d14 => bd (bd (bd (pu (PyData.int 1)) fun d12 => li (dNeg d12)) fun d13 => pu (PyData.tuple [d13])) fun d15 => li (dAdd d14 d15)) fun d11 => sq (bd (bd (bd (bd (pu a_board) fun d16 => bd (pu d11) fun d17 => m_weight_in d16 d17) fun d20 => bd (bd (pu a_board) fun d18 => bd (pu d7) fun d19 => m_weight_in d18 d19) fun d21 => m_is_less d20 d21) fun d22 => li (dTru d22)) fun k23 => if k23 then (bd (pu d11) fun d25 => pu (.nx d25)) else (bd (pu d7) fun d26 => pu (.nx d26))) fun s24 : D => pu (.nx s24))
def m_signs_by_weight (a_board : D) : M D := fe false (bd (bd (pu a_board) fun d1 => m_need_board d1) fun _ => bd (pu (PyData.tuple [])) fun d2 => sq (bd (bd (bd (pu a_board) fun d3 => m_columns_of d3) fun d4 => li (dRng1 d4)) fun l28 => fo (m_signs_by_weight_b1 a_board) l28 d2) fun s5 : D => bd (pu s5) fun d27 => pu (.rt d27))
-- is_safe_by
def m_is_safe_by (a_blind : D) (a_bound : D) : M D := fe false (bd (bd (pu a_blind) fun d4 => bd (bd (bd (pu a_bound) fun d1 => m_power d1) fun d2 => bd (pu (PyData.int 1)) fun d3 => pu (PyData.tuple [d2, d3])) fun d5 => m_is_less d4 d5) fun d6 => pu (.rt d6))
-- is_safe
def m_is_safe (a_board : D) (a_bound : D) : M D := fe false (bd (bd (pu a_board) fun d1 => m_need_board d1) fun _ => bd (bd (pu a_bound) fun d2 => m_need_bound d2) fun _ => bd (bd (bd (pu a_board) fun d3 => bd (pu (PyData.tuple [])) fun d4 => m_weight_in d3 d4) fun d5 => bd (pu a_bound) fun d6 => m_is_safe_by d5 d6) fun d7 => pu (.rt d7))
-- least_safe
def m_least_safe_b1 (d2 : D) : D → M Bool := fun (s6 : D) => bd (bd (bd (pu d2) fun d7 => bd (pu s6) fun d8 => m_is_safe_by d7 d8) fun d9 => li (dTru d9)) fun k10 => pu (!k10)
def m_least_safe_b2  : D → M (Fl D D) := fun (s6 : D) => bd (bd (pu s6) fun d12 => bd (pu (PyData.int 1)) fun d13 => li (dAdd d12 d13)) fun d11 => pu (.nx d11)
def m_least_safe (a_board : D) : M D := fe false (bd (bd (pu a_board) fun d1 => m_need_board d1) fun _ => bd (bd (pu a_board) fun d3 => bd (pu (PyData.tuple [])) fun d4 => m_weight_in d3 d4) fun d2 => bd (pu (PyData.int 1)) fun d5 => sq (wh (m_least_safe_b1 d2) m_least_safe_b2 d5) fun s6 : D => bd (pu s6) fun d14 => pu (.rt d14))
-- _law_b_low
def m__law_b_low_b1  : D × D → M Bool := fun (s4 : D × D) => bd (pu s4.2) fun d5 => bd (pu (PyData.int 0)) fun d6 => li (dGt d5 d6)
def m__law_b_low_b2  : D × D → M (Fl (D × D) (D × D)) := fun (s4 : D × D) => bd (pu s4.2) fun d9 => bd (bd (pu s4.1) fun d7 => bd (pu s4.2) fun d8 => li (dMod d7 d8)) fun d10 => pu (.nx (d9, d10))
def m__law_b_low (a_top : D) (a_below : D) : M D := fe false (bd (bd (pu a_top) fun d2 => li (g1 dAbs [d2])) fun d1 => bd (pu a_below) fun d3 => sq (wh m__law_b_low_b1 m__law_b_low_b2 (d1, d3)) fun s4 : D × D => bd (bd (bd (pu a_top) fun d11 => bd (pu s4.1) fun d12 => li (dDiv d11 d12)) fun d15 => bd (bd (pu a_below) fun d13 => bd (pu s4.1) fun d14 => li (dDiv d13 d14)) fun d16 => pu (PyData.tuple [d15, d16])) fun d17 => pu (.rt d17))
-- _law_b_sum
def m__law_b_sum_b1  : D × D → D → M (Fl (D × D) (D × D)) := fun (s4 : D × D) d24 => bd (li ((uN 2) d24)) (x2 fun d5 d6 => bd (bd (bd (bd (pu s4.1) fun d7 => bd (pu d6) fun d8 => li (dMul d7 d8)) fun d11 => bd (bd (pu d5) fun d9 => bd (pu s4.2) fun d10 => li (dMul d9 d10)) fun d12 => li (dAdd d11 d12)) fun d15 => bd (bd (pu s4.2) fun d13 => bd (pu d6) fun d14 => li (dMul d13 d14)) fun d16 => m__law_b_low d15 d16) fun d17 => bd (li ((uN 2) d17)) (x2 fun d18 d19 => pu (.nx (d18, d19))))
def m__law_b_sum (a_some : D) : M D := fe false (bd (pu (PyData.int 0)) fun d1 => bd (pu (PyData.int 1)) fun d2 => sq (bd (bd (pu a_some) fun d3 => li (dLst d3)) fun l23 => fo m__law_b_sum_b1 l23 (d1, d2)) fun s4 : D × D => bd (bd (pu s4.1) fun d20 => bd (pu s4.2) fun d21 => pu (PyData.tuple [d20, d21])) fun d22 => pu (.rt d22))
-- _law_b_two
def m__law_b_two_b1  : D → D → M (Fl D D) := fun (s3 : D) d10 => bd (li (u1 d10)) (x1 fun d4 => bd (bd (pu s3) fun d6 => bd (pu (PyData.int 2)) fun d7 => li (dMul d6 d7)) fun d5 => pu (.nx d5))
def m__law_b_two (a_size : D) : M D := fe false (bd (pu (PyData.int 1)) fun d1 => sq (bd (bd (pu a_size) fun d2 => li (dRng1 d2)) fun l9 => fo m__law_b_two_b1 l9 d1) fun s3 : D => bd (pu s3) fun d8 => pu (.rt d8))
-- _law_b_both
def m__law_b_both (a_number : D) : M D := fe false (bd (bd (bd (pu a_number) fun d2 => li (g1 dAbs [d2])) fun d3 => m__law_b_two d3) fun d1 => bd (bd (bd (bd (pu d1) fun d4 => bd (pu d1) fun d5 => li (dMul d4 d5)) fun d6 => bd (pu (PyData.int 1)) fun d7 => li (dAdd d6 d7)) fun d8 => bd (pu d1) fun d9 => pu (PyData.tuple [d8, d9])) fun d10 => pu (.rt d10))
-- _law_b_weight
def m__law_b_weight_b1  : D × D → D → M (Fl (D × D) (D × D)) := fun (s18 : D × D) d40 => bd (li (u1 d40)) (x1 fun d19 => bd (bd (pu d19) fun d20 => m__law_b_both d20) fun d21 => bd (li ((uN 2) d21)) (x2 fun d22 d23 => bd (bd (pu s18.1) fun d25 => bd (pu d22) fun d26 => li (dMul d25 d26)) fun d24 => bd (bd (bd (pu s18.2) fun d28 => bd (pu d23) fun d29 => li (dMul d28 d29)) fun d30 => bd (pu (PyData.int 2)) fun d31 => li (dMul d30 d31)) fun d27 => pu (.nx (d24, d27))))
def m__law_b_weight_b2 (a_begun : D) : D → D → M (Fl D D) := fun (s5 : D) d43 => bd (li (u1 d43)) (x1 fun d6 => bd (bd (bd (pu d6) fun d7 => bd (pu a_begun) fun d8 => m__law_b_row_sum d7 d8) fun d9 => m__law_b_both d9) fun d10 => bd (li ((uN 2) d10)) (x2 fun d11 d12 => sq (bd (bd (bd (pu d6) fun d13 => bd (bd (bd (pu a_begun) fun d14 => li (g1 dLen [d14])) oInt) fun o15 => bd (pu none) fun o16 => li (dCut d13 o15 o16)) fun d17 => li (dLst d17)) fun l39 => fo m__law_b_weight_b1 l39 (d11, d12)) fun s18 : D × D => bd (bd (bd (bd (pu s5) fun d35 => bd (bd (pu s18.1) fun d33 => bd (pu s18.2) fun d34 => pu (PyData.tuple [d33, d34])) fun d36 => pu [d35, d36]) fun l37 => pu (PyData.list l37)) fun d38 => m__law_b_sum d38) fun d32 => pu (.nx d32)))
def m__law_b_weight (a_board : D) (a_begun : D) : M D := fe false (bd (bd (pu (PyData.int 0)) fun d2 => bd (pu (PyData.int 1)) fun d3 => pu (PyData.tuple [d2, d3])) fun d1 => sq (bd (bd (pu a_board) fun d4 => li (dLst d4)) fun l42 => fo (m__law_b_weight_b2 a_begun) l42 d1) fun s5 : D => bd (pu s5) fun d41 => pu (.rt d41))
-- _law_b_less
def m__law_b_less (a_one : D) (a_other : D) : M D := fe false (bd (bd (bd (bd (pu a_one) fun d1 => bd (pu (PyData.int 0)) fun d2 => li (dIdx d1 d2)) fun d5 => bd (bd (pu a_other) fun d3 => bd (pu (PyData.int 1)) fun d4 => li (dIdx d3 d4)) fun d6 => li (dMul d5 d6)) fun d13 => bd (bd (bd (pu a_other) fun d7 => bd (pu (PyData.int 0)) fun d8 => li (dIdx d7 d8)) fun d11 => bd (bd (pu a_one) fun d9 => bd (pu (PyData.int 1)) fun d10 => li (dIdx d9 d10)) fun d12 => li (dMul d11 d12)) fun d14 => li ((dLt d13 d14).map PyData.bool)) fun d15 => pu (.rt d15))
-- what_is_left
def m_what_is_left (a_one : D) : M D := fe false (bd (bd (bd (bd (pu a_one) fun d1 => bd (pu (PyData.int 1)) fun d2 => li (dIdx d1 d2)) fun d5 => bd (bd (pu a_one) fun d3 => bd (pu (PyData.int 0)) fun d4 => li (dIdx d3 d4)) fun d6 => li (dSub d5 d6)) fun d9 => bd (bd (pu a_one) fun d7 => bd (pu (PyData.int 1)) fun d8 => li (dIdx d7 d8)) fun d10 => m_lowest d9 d10) fun d11 => pu (.rt d11))
-- product_of
def m_product_of_b1  : D → D → M (Fl D D) := fun (s5 : D) d12 => bd (li (u1 d12)) (x1 fun d6 => bd (bd (pu s5) fun d8 => bd (pu d6) fun d9 => m_times d8 d9) fun d7 => pu (.nx d7))
def m_product_of (a_some : D) : M D := fe false (bd (bd (pu (PyData.int 1)) fun d2 => bd (pu (PyData.int 1)) fun d3 => pu (PyData.tuple [d2, d3])) fun d1 => sq (bd (bd (pu a_some) fun d4 => li (dLst d4)) fun l11 => fo m_product_of_b1 l11 d1) fun s5 : D => bd (pu s5) fun d10 => pu (.rt d10))
-- is_below
def m_is_below (a_thing : D) (a_many : D) : M D := fe false (bd (bd (bd (pu a_thing) fun d1 => m_is_whole d1) fun d6 => bd (tb d6) fun k7 => if k7 then (bd (pu (PyData.int 0)) fun d2 => bd (pu a_thing) fun d3 => bd (li (dLe d2 d3)) fun k5 => if k5 then bd (pu a_many) fun d4 => li ((dLt d3 d4).map PyData.bool) else pu (PyData.bool false)) else pu (PyData.bool false)) fun d8 => pu (.rt d8))
-- are_ways
def m_are_ways (a_thing : D) : M D := fe false (bd (bd (bd (bd (bd (pu a_thing) fun d1 => pu (PyData.bool (isI "tuple" d1))) fun d2 => li (dTru d2)) fun k3 => pu (!k3)) fun k7 => if k7 then pu true else (bd (bd (pu a_thing) fun d4 => li (g1 dLen [d4])) fun d5 => bd (pu (PyData.int 10)) fun d6 => li (dGt d5 d6))) fun k8 => if k8 then (bd (pu (PyData.bool false)) fun d9 => pu (.rt d9)) else (bd (bd (bd (bd (bd (pu a_thing) fun d10 => li (dLst d10)) fun l12 => mf l12 (fun d13 => bd (li (u1 d13)) (fun _ => pu true)) (fun d13 => bd (li (u1 d13)) (x1 fun d11 => bd (bd (pu d11) fun d14 => m_is_whole d14) fun d19 => bd (tb d19) fun k20 => if k20 then (bd (pu (PyData.int 1)) fun d15 => bd (pu d11) fun d16 => bd (li (dLe d15 d16)) fun k18 => if k18 then bd (pu (PyData.int 4)) fun d17 => li ((dLe d16 d17).map PyData.bool) else pu (PyData.bool false)) else pu (PyData.bool false)))) fun l21 => pu (PyData.list l21)) fun d22 => li (g1 dAll [d22])) fun d23 => pu (.rt d23)))
-- do_rise
def m_do_rise (a_row : D) : M D := fe false (bd (bd (bd (bd (bd (bd (bd (pu a_row) fun d1 => li (g1 dLen [d1])) fun d2 => bd (pu (PyData.int 1)) fun d3 => li (dSub d2 d3)) fun d4 => li (dRng1 d4)) fun l6 => mf l6 (fun d7 => bd (li (u1 d7)) (fun _ => pu true)) (fun d7 => bd (li (u1 d7)) (x1 fun d5 => bd (bd (pu a_row) fun d8 => bd (pu d5) fun d9 => li (dIdx d8 d9)) fun d14 => bd (bd (pu a_row) fun d12 => bd (bd (pu d5) fun d10 => bd (pu (PyData.int 1)) fun d11 => li (dAdd d10 d11)) fun d13 => li (dIdx d12 d13)) fun d15 => li ((dLt d14 d15).map PyData.bool)))) fun l16 => pu (PyData.list l16)) fun d17 => li (g1 dAll [d17])) fun d18 => pu (.rt d18))
-- are_some
def m_are_some (a_many : D) (a_thing : D) : M D := fe false (bd (bd (bd (pu a_thing) fun d1 => pu (PyData.bool (isI "tuple" d1))) fun d13 => bd (tb d13) fun k14 => if k14 then (bd (bd (bd (bd (bd (pu a_thing) fun d2 => li (dLst d2)) fun l4 => mf l4 (fun d5 => bd (li (u1 d5)) (fun _ => pu true)) (fun d5 => bd (li (u1 d5)) (x1 fun d3 => bd (pu d3) fun d6 => bd (pu a_many) fun d7 => m_is_below d6 d7))) fun l8 => pu (PyData.list l8)) fun d9 => li (g1 dAll [d9])) fun d11 => bd (tb d11) fun k12 => if k12 then (bd (pu a_thing) fun d10 => m_do_rise d10) else pu (PyData.bool false)) else pu (PyData.bool false)) fun d15 => pu (.rt d15))
-- is_part
def m_is_part (a_ways : D) (a_thing : D) : M D := fe false (bd (bd (bd (bd (bd (pu a_thing) fun d1 => pu (PyData.bool (isI "tuple" d1))) fun d2 => li (dTru d2)) fun k3 => pu (!k3)) fun k15 => if k15 then pu true else (bd (bd (bd (pu a_thing) fun d4 => li (g1 dLen [d4])) fun d5 => bd (pu (PyData.int 2)) fun d6 => li (dNe d5 d6)) fun k14 => if k14 then pu true else (bd (bd (bd (bd (pu a_thing) fun d7 => bd (pu (PyData.int 0)) fun d8 => li (dIdx d7 d8)) fun d10 => bd (bd (pu a_ways) fun d9 => li (g1 dLen [d9])) fun d11 => m_is_below d10 d11) fun d12 => li (dTru d12)) fun k13 => pu (!k13)))) fun k16 => if k16 then (bd (pu (PyData.bool false)) fun d17 => pu (.rt d17)) else (bd (bd (bd (pu a_ways) fun d20 => bd (bd (pu a_thing) fun d18 => bd (pu (PyData.int 0)) fun d19 => li (dIdx d18 d19)) fun d21 => li (dIdx d20 d21)) fun d24 => bd (bd (pu a_thing) fun d22 => bd (pu (PyData.int 1)) fun d23 => li (dIdx d22 d23)) fun d25 => m_are_some d24 d25) fun d26 => pu (.rt d26)))
-- is_wish
def m_is_wish (a_ways : D) (a_thing : D) : M D := fe false (bd (bd (bd (bd (bd (pu a_thing) fun d1 => pu (PyData.bool (isI "tuple" d1))) fun d2 => li (dTru d2)) fun k3 => pu (!k3)) fun k18 => if k18 then pu true else (bd (bd (bd (pu a_thing) fun d4 => li (g1 dLen [d4])) fun d5 => bd (pu (PyData.int 3)) fun d6 => li (dNe d5 d6)) fun k17 => if k17 then pu true else (bd (bd (bd (bd (bd (pu a_thing) fun d7 => bd (pu (PyData.int 0)) fun d8 => li (dIdx d7 d8)) fun d9 => pu (PyData.bool (isI "str" d9))) fun d10 => li (dTru d10)) fun k11 => pu (!k11)) fun k16 => if k16 then pu true else (bd (bd (pu a_thing) fun d12 => bd (pu (PyData.int 0)) fun d13 => li (dIdx d12 d13)) fun d14 => bd (pu (PyData.tuple [.str "all", .str "some"])) fun d15 => li (dNin d14 d15))))) fun k19 => if k19 then (bd (pu (PyData.bool false)) fun d20 => pu (.rt d20)) else (bd (bd (bd (bd (bd (bd (pu a_thing) fun d21 => bd (pu (PyData.int 1)) fun d22 => li (dIdx d21 d22)) fun d25 => bd (bd (pu (PyData.int 99)) fun d23 => bd (pu (PyData.int 1)) fun d24 => li (dAdd d23 d24)) fun d26 => m_is_below d25 d26) fun d27 => li (dTru d27)) fun k28 => pu (!k28)) fun k34 => if k34 then pu true else (bd (bd (bd (bd (pu a_thing) fun d29 => bd (pu (PyData.int 2)) fun d30 => li (dIdx d29 d30)) fun d31 => pu (PyData.bool (isI "tuple" d31))) fun d32 => li (dTru d32)) fun k33 => pu (!k33))) fun k35 => if k35 then (bd (pu (PyData.bool false)) fun d36 => pu (.rt d36)) else (bd (bd (bd (bd (bd (bd (bd (pu a_thing) fun d37 => bd (pu (PyData.int 2)) fun d38 => li (dIdx d37 d38)) fun d39 => li (dLst d39)) fun l41 => mf l41 (fun d42 => bd (li (u1 d42)) (fun _ => pu true)) (fun d42 => bd (li (u1 d42)) (x1 fun d40 => bd (pu a_ways) fun d43 => bd (pu d40) fun d44 => m_is_part d43 d44))) fun l45 => pu (PyData.list l45)) fun d46 => li (g1 dAll [d46])) fun d57 => bd (tb d57) fun k58 => if k58 then (bd (bd (bd (bd (bd (pu a_thing) fun d47 => bd (pu (PyData.int 2)) fun d48 => li (dIdx d47 d48)) fun d49 => li (dLst d49)) fun l51 => mf l51 (fun d52 => bd (li (u1 d52)) (fun _ => pu true)) (fun d52 => bd (li (u1 d52)) (x1 fun d50 => bd (pu d50) fun d53 => bd (pu (PyData.int 0)) fun d54 => li (dIdx d53 d54)))) fun l55 => pu (PyData.list l55)) fun d56 => m_do_rise d56) else pu (PyData.bool false)) fun d59 => pu (.rt d59))))
-- is_sheet
def m_is_sheet (a_thing : D) : M D := fe false (bd (bd (bd (bd (bd (pu a_thing) fun d1 => pu (PyData.bool (isI "tuple" d1))) fun d2 => li (dTru d2)) fun k3 => pu (!k3)) fun k13 => if k13 then pu true else (bd (bd (bd (pu a_thing) fun d4 => li (g1 dLen [d4])) fun d5 => bd (pu (PyData.int 2)) fun d6 => li (dNe d5 d6)) fun k12 => if k12 then pu true else (bd (bd (bd (bd (pu a_thing) fun d7 => bd (pu (PyData.int 0)) fun d8 => li (dIdx d7 d8)) fun d9 => m_are_ways d9) fun d10 => li (dTru d10)) fun k11 => pu (!k11)))) fun k14 => if k14 then (bd (pu (PyData.bool false)) fun d15 => pu (.rt d15)) else (bd (bd (bd (bd (bd (bd (pu a_thing) fun d16 => bd (pu (PyData.int 1)) fun d17 => li (dIdx d16 d17)) fun d18 => pu (PyData.bool (isI "tuple" d18))) fun d19 => li (dTru d19)) fun k20 => pu (!k20)) fun k26 => if k26 then pu true else (bd (bd (bd (pu a_thing) fun d21 => bd (pu (PyData.int 1)) fun d22 => li (dIdx d21 d22)) fun d23 => li (g1 dLen [d23])) fun d24 => bd (pu (PyData.int 16)) fun d25 => li (dGt d24 d25))) fun k27 => if k27 then (bd (pu (PyData.bool false)) fun d28 => pu (.rt d28)) else (bd (bd (bd (bd (bd (bd (pu a_thing) fun d29 => bd (pu (PyData.int 1)) fun d30 => li (dIdx d29 d30)) fun d31 => li (dLst d31)) fun l33 => mf l33 (fun d34 => bd (li (u1 d34)) (fun _ => pu true)) (fun d34 => bd (li (u1 d34)) (x1 fun d32 => bd (bd (pu a_thing) fun d35 => bd (pu (PyData.int 0)) fun d36 => li (dIdx d35 d36)) fun d37 => bd (pu d32) fun d38 => m_is_wish d37 d38))) fun l39 => pu (PyData.list l39)) fun d40 => li (g1 dAll [d40])) fun d41 => pu (.rt d41))))
-- need_sheet
def m_need_sheet (a_thing : D) : M D := fe false (bd (bd (bd (bd (pu a_thing) fun d1 => m_is_sheet d1) fun d2 => li (dTru d2)) fun k3 => pu (!k3)) fun k4 => if k4 then no else (pu (.nx ())))
-- is_begun_in
def m_is_begun_in (a_ways : D) (a_thing : D) : M D := fe false (bd (bd (bd (bd (bd (pu a_thing) fun d1 => pu (PyData.bool (isI "tuple" d1))) fun d2 => li (dTru d2)) fun k3 => pu (!k3)) fun k8 => if k8 then pu true else (bd (bd (pu a_thing) fun d4 => li (g1 dLen [d4])) fun d6 => bd (bd (pu a_ways) fun d5 => li (g1 dLen [d5])) fun d7 => li (dGt d6 d7))) fun k9 => if k9 then (bd (pu (PyData.bool false)) fun d10 => pu (.rt d10)) else (bd (bd (bd (bd (bd (pu a_thing) fun d11 => li (dEnum d11)) fun l14 => mf l14 (fun d15 => bd (li ((uN 2) d15)) (fun _ => pu true)) (fun d15 => bd (li ((uN 2) d15)) (x2 fun d12 d13 => bd (pu d13) fun d18 => bd (bd (pu a_ways) fun d16 => bd (pu d12) fun d17 => li (dIdx d16 d17)) fun d19 => m_is_below d18 d19))) fun l20 => pu (PyData.list l20)) fun d21 => li (g1 dAll [d21])) fun d22 => pu (.rt d22)))
-- is_begun
def m_is_begun (a_sheet : D) (a_thing : D) : M D := fe false (bd (bd (pu a_sheet) fun d1 => m_need_sheet d1) fun _ => bd (bd (bd (pu a_sheet) fun d2 => bd (pu (PyData.int 0)) fun d3 => li (dIdx d2 d3)) fun d4 => bd (pu a_thing) fun d5 => m_is_begun_in d4 d5) fun d6 => pu (.rt d6))
-- need_begun
def m_need_begun (a_sheet : D) (a_begun : D) : M D := fe false (bd (bd (bd (bd (pu a_sheet) fun d1 => bd (pu a_begun) fun d2 => m_is_begun d1 d2) fun d3 => li (dTru d3)) fun k4 => pu (!k4)) fun k5 => if k5 then no else (pu (.nx ())))
-- need_number
def m_need_number (a_sheet : D) (a_number : D) : M D := fe false (bd (bd (bd (bd (pu a_number) fun d4 => bd (bd (bd (pu a_sheet) fun d1 => bd (pu (PyData.int 1)) fun d2 => li (dIdx d1 d2)) fun d3 => li (g1 dLen [d3])) fun d5 => m_is_below d4 d5) fun d6 => li (dTru d6)) fun k7 => pu (!k7)) fun k8 => if k8 then no else (pu (.nx ())))
-- met_mean
def m_met_mean (a_ways : D) (a_part : D) (a_begun : D) : M D := fe false (bd (pu a_part) fun d1 => bd (li ((uN 2) d1)) (x2 fun d2 d3 => bd (bd (pu d2) fun d5 => bd (bd (pu a_begun) fun d4 => li (g1 dLen [d4])) fun d6 => li (dLt d5 d6)) fun k7 => if k7 then (bd (bd (bd (bd (bd (pu a_begun) fun d8 => bd (pu d2) fun d9 => li (dIdx d8 d9)) fun d10 => bd (pu d3) fun d11 => li ((dIn d10 d11).map PyData.bool)) fun d12 => li (g1 dInt [d12])) fun d13 => bd (pu (PyData.int 1)) fun d14 => pu (PyData.tuple [d13, d14])) fun d15 => pu (.rt d15)) else (bd (bd (bd (pu d3) fun d16 => li (g1 dLen [d16])) fun d19 => bd (bd (pu a_ways) fun d17 => bd (pu d2) fun d18 => li (dIdx d17 d18)) fun d20 => m_lowest d19 d20) fun d21 => pu (.rt d21))))
-- kept_mean_in
def m_kept_mean_in (a_ways : D) (a_wish : D) (a_begun : D) : M D := fe false (bd (bd (bd (bd (pu a_wish) fun d2 => bd (pu (PyData.int 2)) fun d3 => li (dIdx d2 d3)) fun d4 => li (dLst d4)) fun l6 => mf l6 (fun d7 => bd (li (u1 d7)) (fun _ => pu true)) (fun d7 => bd (li (u1 d7)) (x1 fun d5 => bd (pu a_ways) fun d8 => bd (pu d5) fun d9 => bd (pu a_begun) fun d10 => m_met_mean d8 d9 d10))) fun l11 => bd (bd (bd (pu a_wish) fun d12 => bd (pu (PyData.int 0)) fun d13 => li (dIdx d12 d13)) fun d14 => bd (pu (PyData.str "all")) fun d15 => li (dEq d14 d15)) fun k16 => if k16 then (bd (bd (pu (PyData.list l11)) fun d17 => m_product_of d17) fun d18 => pu (.rt d18)) else (bd (bd (bd (bd (bd (bd (pu (PyData.list l11)) fun d19 => li (dLst d19)) fun l21 => mf l21 (fun d22 => bd (li (u1 d22)) (fun _ => pu true)) (fun d22 => bd (li (u1 d22)) (x1 fun d20 => bd (pu d20) fun d23 => m_what_is_left d23))) fun l24 => pu (PyData.list l24)) fun d25 => m_product_of d25) fun d26 => m_what_is_left d26) fun d27 => pu (.rt d27)))
-- mean_in
def m_mean_in (a_sheet : D) (a_begun : D) : M D := fe false (bd (bd (bd (bd (bd (bd (pu a_sheet) fun d1 => bd (pu (PyData.int 1)) fun d2 => li (dIdx d1 d2)) fun d3 => li (dLst d3)) fun l5 => mf l5 (fun d6 => bd (li (u1 d6)) (fun _ => pu true)) (fun d6 => bd (li (u1 d6)) (x1 fun d4 => bd (bd (bd (pu d4) fun d7 => bd (pu (PyData.int 1)) fun d8 => li (dIdx d7 d8)) fun d9 => bd (pu (PyData.int 1)) fun d10 => pu (PyData.tuple [d9, d10])) fun d16 => bd (bd (bd (pu a_sheet) fun d11 => bd (pu (PyData.int 0)) fun d12 => li (dIdx d11 d12)) fun d13 => bd (pu d4) fun d14 => bd (pu a_begun) fun d15 => m_kept_mean_in d13 d14 d15) fun d17 => m_times d16 d17))) fun l18 => pu (PyData.list l18)) fun d19 => m_sum_of d19) fun d20 => pu (.rt d20))
-- mean
def m_mean (a_sheet : D) (a_begun : D) : M D := fe false (bd (bd (pu a_sheet) fun d1 => bd (pu a_begun) fun d2 => m_need_begun d1 d2) fun _ => bd (bd (pu a_sheet) fun d3 => bd (pu a_begun) fun d4 => m_mean_in d3 d4) fun d5 => pu (.rt d5))
-- kept_mean
def m_kept_mean (a_sheet : D) (a_number : D) (a_begun : D) : M D := fe false (bd (bd (pu a_sheet) fun d1 => bd (pu a_begun) fun d2 => m_need_begun d1 d2) fun _ => bd (bd (pu a_sheet) fun d3 => bd (pu a_number) fun d4 => m_need_number d3 d4) fun _ => bd (bd (bd (pu a_sheet) fun d5 => bd (pu (PyData.int 0)) fun d6 => li (dIdx d5 d6)) fun d11 => bd (bd (bd (pu a_sheet) fun d7 => bd (pu (PyData.int 1)) fun d8 => li (dIdx d7 d8)) fun d9 => bd (pu a_number) fun d10 => li (dIdx d9 d10)) fun d12 => bd (pu a_begun) fun d13 => m_kept_mean_in d11 d12 d13) fun d14 => pu (.rt d14))
-- _law_b_few
def m__law_b_few (a_tape : Nat) (a_many : D) : M D := fe false (bd (bd (bd (bd (bd (pu (PyData.int 2)) fun d2 => bd (pu (PyData.int 4)) fun d3 => bd (pu (PyData.int 8)) fun d4 => bd (pu (PyData.int 16)) fun d5 => pu [d2, d3, d4, d5]) fun l6 => pu (PyData.list l6)) fun d9 => bd (bd (pu a_many) fun d7 => bd (pu (PyData.int 1)) fun d8 => li (dSub d7 d8)) fun d10 => li (dIdx d9 d10)) fun d11 => m__law_b_take a_tape d11) fun d1 => bd (bd (bd (bd (bd (pu a_many) fun d12 => li (dRng1 d12)) fun l14 => mf l14 (fun d15 => bd (li (u1 d15)) (x1 fun d13 => bd (bd (bd (pu d1) fun d23 => bd (bd (bd (bd (pu (PyData.int 1)) fun d16 => bd (pu (PyData.int 2)) fun d17 => bd (pu (PyData.int 4)) fun d18 => bd (pu (PyData.int 8)) fun d19 => pu [d16, d17, d18, d19]) fun l20 => pu (PyData.list l20)) fun d21 => bd (pu d13) fun d22 => li (dIdx d21 d22)) fun d24 => li (dDiv d23 d24)) fun d25 => bd (pu (PyData.int 2)) fun d26 => li (dMod d25 d26)) fun d27 => bd (pu (PyData.int 1)) fun d28 => li (dEq d27 d28))) (fun d15 => bd (li (u1 d15)) (x1 fun d13 => pu d13))) fun l29 => pu (PyData.list l29)) fun d30 => li (g1 dTup [d30])) fun d31 => pu (.rt d31))
-- _law_b_wish
def m__law_b_wish (a_tape : Nat) (a_ways : D) : M D := fe false (bd (bd (bd (bd (pu (PyData.str "all")) fun d2 => bd (pu (PyData.str "some")) fun d3 => pu [d2, d3]) fun l4 => pu (PyData.list l4)) fun d6 => bd (bd (pu (PyData.int 2)) fun d5 => m__law_b_take a_tape d5) fun d7 => li (dIdx d6 d7)) fun d1 => bd (bd (bd (bd (pu (PyData.int 0)) fun d11 => bd (pu (PyData.int 1)) fun d12 => bd (pu (PyData.int 99)) fun d13 => bd (bd (pu (PyData.int 10)) fun d9 => m__law_b_take a_tape d9) fun d14 => bd (bd (pu (PyData.int 100)) fun d10 => m__law_b_take a_tape d10) fun d15 => pu [d11, d12, d13, d14, d15]) fun l16 => pu (PyData.list l16)) fun d18 => bd (bd (pu (PyData.int 5)) fun d17 => m__law_b_take a_tape d17) fun d19 => li (dIdx d18 d19)) fun d8 => bd (bd (pu (PyData.int 1)) fun d22 => bd (bd (pu (PyData.int 4)) fun d21 => m__law_b_take a_tape d21) fun d23 => li (dAdd d22 d23)) fun d20 => bd (bd (bd (bd (pu a_ways) fun d25 => li (g1 dLen [d25])) fun d26 => li (dRng1 d26)) fun l28 => mf l28 (fun d29 => bd (li (u1 d29)) (x1 fun d27 => bd (bd (pu d20) fun d30 => m__law_b_take a_tape d30) fun d31 => bd (pu (PyData.int 0)) fun d32 => li (dEq d31 d32))) (fun d29 => bd (li (u1 d29)) (x1 fun d27 => pu d27))) fun l33 => bd (bd (pu d1) fun d45 => bd (pu d8) fun d46 => bd (bd (bd (bd (bd (pu (PyData.list l33)) fun d34 => li (dLst d34)) fun l36 => mf l36 (fun d37 => bd (li (u1 d37)) (fun _ => pu true)) (fun d37 => bd (li (u1 d37)) (x1 fun d35 => bd (pu d35) fun d41 => bd (bd (bd (pu a_ways) fun d38 => bd (pu d35) fun d39 => li (dIdx d38 d39)) fun d40 => m__law_b_few a_tape d40) fun d42 => pu (PyData.tuple [d41, d42])))) fun l43 => pu (PyData.list l43)) fun d44 => li (g1 dTup [d44])) fun d47 => pu (PyData.tuple [d45, d46, d47])) fun d48 => pu (.rt d48))
-- _law_b_sheet
def m__law_b_sheet (a_tape : Nat) (a_places : D) (a_wishes : D) : M D := fe false (bd (bd (bd (pu a_places) fun d2 => bd (pu (PyData.int 1)) fun d3 => li (dAdd d2 d3)) fun d4 => m__law_b_take a_tape d4) fun d1 => bd (bd (pu (PyData.int 7)) fun d6 => m__law_b_take a_tape d6) fun d5 => bd (bd (bd (bd (pu (PyData.int 1)) fun d8 => bd (pu d5) fun d9 => li (dAdd d8 d9)) fun d10 => pu (PyData.tuple [d10])) fun d11 => bd (pu d1) fun d12 => li (dMulT d11 d12)) fun d7 => sq (bd (bd (pu d5) fun d13 => bd (pu (PyData.int 3)) fun d14 => li (dGt d13 d14)) fun k15 => if k15 then (bd (bd (bd (bd (bd (pu d1) fun d18 => li (dRng1 d18)) fun l20 => mf l20 (fun d21 => bd (li (u1 d21)) (fun _ => pu true)) (fun d21 => bd (li (u1 d21)) (x1 fun d19 => bd (pu (PyData.int 1)) fun d23 => bd (bd (pu (PyData.int 4)) fun d22 => m__law_b_take a_tape d22) fun d24 => li (dAdd d23 d24)))) fun l25 => pu (PyData.list l25)) fun d26 => li (g1 dTup [d26])) fun d17 => pu (.nx d17)) else (pu (.nx d7))) fun s16 : D => bd (bd (pu s16) fun d37 => bd (bd (bd (bd (bd (bd (bd (pu a_wishes) fun d27 => bd (pu (PyData.int 1)) fun d28 => li (dAdd d27 d28)) fun d29 => m__law_b_take a_tape d29) fun d30 => li (dRng1 d30)) fun l32 => mf l32 (fun d33 => bd (li (u1 d33)) (fun _ => pu true)) (fun d33 => bd (li (u1 d33)) (x1 fun d31 => bd (pu s16) fun d34 => m__law_b_wish a_tape d34))) fun l35 => pu (PyData.list l35)) fun d36 => li (g1 dTup [d36])) fun d38 => pu (PyData.tuple [d37, d38])) fun d39 => pu (.rt d39))
-- _law_b_choosing
def m__law_b_choosing (a_tape : Nat) (a_ways : D) : M D := fe false (bd (bd (bd (bd (bd (pu a_ways) fun d1 => li (dLst d1)) fun l3 => mf l3 (fun d4 => bd (li (u1 d4)) (fun _ => pu true)) (fun d4 => bd (li (u1 d4)) (x1 fun d2 => bd (pu d2) fun d5 => m__law_b_take a_tape d5))) fun l6 => pu (PyData.list l6)) fun d7 => li (g1 dTup [d7])) fun d8 => pu (.rt d8))
-- _law_b_is_fraction
def m__law_b_is_fraction (a_thing : D) : M D := fe false (bd (bd (bd (bd (bd (pu a_thing) fun d1 => pu (PyData.bool (isI "tuple" d1))) fun d2 => li (dTru d2)) fun k3 => pu (!k3)) fun k19 => if k19 then pu true else (bd (bd (bd (pu a_thing) fun d4 => li (g1 dLen [d4])) fun d5 => bd (pu (PyData.int 2)) fun d6 => li (dNe d5 d6)) fun k18 => if k18 then pu true else (bd (bd (bd (bd (bd (pu a_thing) fun d7 => bd (pu (PyData.int 0)) fun d8 => li (dIdx d7 d8)) fun d9 => m__law_b_whole d9) fun d10 => li (dTru d10)) fun k11 => pu (!k11)) fun k17 => if k17 then pu true else (bd (bd (bd (bd (pu a_thing) fun d12 => bd (pu (PyData.int 1)) fun d13 => li (dIdx d12 d13)) fun d14 => m__law_b_whole d14) fun d15 => li (dTru d15)) fun k16 => pu (!k16))))) fun k20 => if k20 then (bd (pu (PyData.bool false)) fun d21 => pu (.rt d21)) else (bd (bd (bd (bd (pu a_thing) fun d22 => bd (pu (PyData.int 1)) fun d23 => li (dIdx d22 d23)) fun d24 => bd (pu (PyData.int 0)) fun d25 => li ((dGt d24 d25).map PyData.bool)) fun d34 => bd (tb d34) fun k35 => if k35 then (bd (bd (bd (pu a_thing) fun d26 => bd (pu (PyData.int 0)) fun d27 => li (dIdx d26 d27)) fun d30 => bd (bd (pu a_thing) fun d28 => bd (pu (PyData.int 1)) fun d29 => li (dIdx d28 d29)) fun d31 => m__law_b_low d30 d31) fun d32 => bd (pu a_thing) fun d33 => li ((dEq d32 d33).map PyData.bool)) else pu (PyData.bool false)) fun d36 => pu (.rt d36)))
-- _law_b_kept_mean
def m__law_b_kept_mean_b1 (a_ways : D) (a_begun : D) (a_wish : D) : D × D → D → M (Fl (D × D) (D × D)) := fun (s6 : D × D) d60 => bd (li ((uN 2) d60)) (x2 fun d7 d8 => bd (bd (pu d8) fun d10 => li (g1 dLen [d10])) fun d9 => bd (bd (pu a_ways) fun d12 => bd (pu d7) fun d13 => li (dIdx d12 d13)) fun d11 => sq (bd (bd (pu d7) fun d15 => bd (bd (pu a_begun) fun d14 => li (g1 dLen [d14])) fun d16 => li (dLt d15 d16)) fun k17 => if k17 then (bd (bd (bd (bd (pu a_begun) fun d20 => bd (pu d7) fun d21 => li (dIdx d20 d21)) fun d22 => bd (pu d8) fun d23 => li ((dIn d22 d23).map PyData.bool)) fun d24 => li (g1 dInt [d24])) fun d19 => bd (pu (PyData.int 1)) fun d25 => pu (.nx (d19, d25))) else (pu (.nx (d9, d11)))) fun s18 : D × D => bd (bd (pu s6.1) fun d39 => bd (bd (bd (bd (bd (pu s18.2) fun d27 => bd (pu s18.1) fun d28 => li (dSub d27 d28)) fun d29 => bd (pu s18.1) fun d30 => pu [d29, d30]) fun l31 => pu (PyData.list l31)) fun d37 => bd (bd (bd (bd (pu a_wish) fun d32 => bd (pu (PyData.int 0)) fun d33 => li (dIdx d32 d33)) fun d34 => bd (pu (PyData.str "all")) fun d35 => li ((dEq d34 d35).map PyData.bool)) fun d36 => li (g1 dInt [d36])) fun d38 => li (dIdx d37 d38)) fun d40 => li (dMul d39 d40)) fun d26 => bd (bd (pu s6.2) fun d42 => bd (pu s18.2) fun d43 => li (dMul d42 d43)) fun d41 => pu (.nx (d26, d41)))
def m__law_b_kept_mean (a_ways : D) (a_wish : D) (a_begun : D) : M D := fe false (bd (pu (PyData.int 1)) fun d1 => bd (pu (PyData.int 1)) fun d2 => sq (bd (bd (bd (pu a_wish) fun d3 => bd (pu (PyData.int 2)) fun d4 => li (dIdx d3 d4)) fun d5 => li (dLst d5)) fun l59 => fo (m__law_b_kept_mean_b1 a_ways a_begun a_wish) l59 (d1, d2)) fun s6 : D × D => bd (bd (bd (bd (bd (bd (pu s6.2) fun d44 => bd (pu s6.1) fun d45 => li (dSub d44 d45)) fun d46 => bd (pu s6.1) fun d47 => pu [d46, d47]) fun l48 => pu (PyData.list l48)) fun d54 => bd (bd (bd (bd (pu a_wish) fun d49 => bd (pu (PyData.int 0)) fun d50 => li (dIdx d49 d50)) fun d51 => bd (pu (PyData.str "all")) fun d52 => li ((dEq d51 d52).map PyData.bool)) fun d53 => li (g1 dInt [d53])) fun d55 => li (dIdx d54 d55)) fun d56 => bd (pu s6.2) fun d57 => m__law_b_low d56 d57) fun d58 => pu (.rt d58))
-- _law_b_mean
def m__law_b_mean_b1 (a_sheet : D) (a_begun : D) : List D → D → M (Fl (List D) (List D)) := fun (s6 : List D) d26 => bd (li (u1 d26)) (x1 fun d7 => bd (bd (bd (pu a_sheet) fun d8 => bd (pu (PyData.int 0)) fun d9 => li (dIdx d8 d9)) fun d10 => bd (pu d7) fun d11 => bd (pu a_begun) fun d12 => m__law_b_kept_mean d10 d11 d12) fun d13 => bd (li ((uN 2) d13)) (x2 fun d14 d15 => bd (bd (bd (bd (pu d7) fun d16 => bd (pu (PyData.int 1)) fun d17 => li (dIdx d16 d17)) fun d18 => bd (pu d14) fun d19 => li (dMul d18 d19)) fun d20 => bd (pu d15) fun d21 => pu (PyData.tuple [d20, d21])) fun d22 => bd (ck (decide (s6.length < 16777216))) fun _ => pu (.nx (s6 ++ [d22]))))
def m__law_b_mean (a_sheet : D) (a_begun : D) : M D := fe false (bd (pu []) fun l2 => sq (bd (bd (bd (pu a_sheet) fun d3 => bd (pu (PyData.int 1)) fun d4 => li (dIdx d3 d4)) fun d5 => li (dLst d5)) fun l25 => fo (m__law_b_mean_b1 a_sheet a_begun) l25 l2) fun s6 : List D => bd (bd (pu (PyData.list s6)) fun d23 => m__law_b_sum d23) fun d24 => pu (.rt d24))
-- is_choosing_in
def m_is_choosing_in (a_ways : D) (a_thing : D) : M D := fe false (bd (bd (bd (pu a_ways) fun d1 => bd (pu a_thing) fun d2 => m_is_begun_in d1 d2) fun d7 => bd (tb d7) fun k8 => if k8 then (bd (bd (pu a_thing) fun d3 => li (g1 dLen [d3])) fun d5 => bd (bd (pu a_ways) fun d4 => li (g1 dLen [d4])) fun d6 => li ((dEq d5 d6).map PyData.bool)) else pu (PyData.bool false)) fun d9 => pu (.rt d9))
-- is_choosing
def m_is_choosing (a_sheet : D) (a_thing : D) : M D := fe false (bd (bd (pu a_sheet) fun d1 => m_need_sheet d1) fun _ => bd (bd (bd (pu a_sheet) fun d2 => bd (pu (PyData.int 0)) fun d3 => li (dIdx d2 d3)) fun d4 => bd (pu a_thing) fun d5 => m_is_choosing_in d4 d5) fun d6 => pu (.rt d6))
-- need_choosing
def m_need_choosing (a_sheet : D) (a_choosing : D) : M D := fe false (bd (bd (bd (bd (pu a_sheet) fun d1 => bd (pu a_choosing) fun d2 => m_is_choosing d1 d2) fun d3 => li (dTru d3)) fun k4 => pu (!k4)) fun k5 => if k5 then no else (pu (.nx ())))
-- is_kept_in
def m_is_kept_in (a_wish : D) (a_choosing : D) : M D := fe false (bd (bd (bd (bd (pu a_wish) fun d2 => bd (pu (PyData.int 2)) fun d3 => li (dIdx d2 d3)) fun d4 => li (dLst d4)) fun l7 => mf l7 (fun d8 => bd (li ((uN 2) d8)) (fun _ => pu true)) (fun d8 => bd (li ((uN 2) d8)) (x2 fun d5 d6 => bd (bd (pu a_choosing) fun d9 => bd (pu d5) fun d10 => li (dIdx d9 d10)) fun d11 => bd (pu d6) fun d12 => li ((dIn d11 d12).map PyData.bool)))) fun l13 => bd (bd (bd (pu a_wish) fun d14 => bd (pu (PyData.int 0)) fun d15 => li (dIdx d14 d15)) fun d16 => bd (pu (PyData.str "all")) fun d17 => li (dEq d16 d17)) fun k18 => if k18 then (bd (bd (pu (PyData.list l13)) fun d19 => li (g1 dAll [d19])) fun d20 => pu (.rt d20)) else (bd (bd (pu (PyData.list l13)) fun d21 => li (g1 dAny [d21])) fun d22 => pu (.rt d22)))
-- is_kept
def m_is_kept (a_sheet : D) (a_number : D) (a_choosing : D) : M D := fe false (bd (bd (pu a_sheet) fun d1 => bd (pu a_choosing) fun d2 => m_need_choosing d1 d2) fun _ => bd (bd (pu a_sheet) fun d3 => bd (pu a_number) fun d4 => m_need_number d3 d4) fun _ => bd (bd (bd (bd (pu a_sheet) fun d5 => bd (pu (PyData.int 1)) fun d6 => li (dIdx d5 d6)) fun d7 => bd (pu a_number) fun d8 => li (dIdx d7 d8)) fun d9 => bd (pu a_choosing) fun d10 => m_is_kept_in d9 d10) fun d11 => pu (.rt d11))
-- worth_in
def m_worth_in (a_sheet : D) (a_choosing : D) : M D := fe false (bd (bd (bd (bd (bd (bd (pu a_sheet) fun d1 => bd (pu (PyData.int 1)) fun d2 => li (dIdx d1 d2)) fun d3 => li (dLst d3)) fun l5 => mf l5 (fun d6 => bd (li (u1 d6)) (x1 fun d4 => bd (bd (pu d4) fun d7 => bd (pu a_choosing) fun d8 => m_is_kept_in d7 d8) fun d9 => li (dTru d9))) (fun d6 => bd (li (u1 d6)) (x1 fun d4 => bd (pu d4) fun d10 => bd (pu (PyData.int 1)) fun d11 => li (dIdx d10 d11)))) fun l12 => pu (PyData.list l12)) fun d13 => li (g1 dSum [d13])) fun d14 => pu (.rt d14))
-- worth
def m_worth (a_sheet : D) (a_choosing : D) : M D := fe false (bd (bd (pu a_sheet) fun d1 => bd (pu a_choosing) fun d2 => m_need_choosing d1 d2) fun _ => bd (bd (pu a_sheet) fun d3 => bd (pu a_choosing) fun d4 => m_worth_in d3 d4) fun d5 => pu (.rt d5))
-- _law_b_middle
def m__law_b_middle (a_some : D) : M D := fe false (bd (bd (pu a_some) fun d1 => m__law_b_sum d1) fun d2 => bd (li ((uN 2) d2)) (x2 fun d3 d4 => bd (bd (pu d3) fun d8 => bd (bd (pu d4) fun d6 => bd (bd (pu a_some) fun d5 => li (g1 dLen [d5])) fun d7 => li (dMul d6 d7)) fun d9 => m__law_b_low d8 d9) fun d10 => pu (.rt d10)))
-- means_in
def m_means_in (a_sheet : D) (a_choosing : D) : M D := fe false (bd (bd (bd (bd (bd (bd (pu a_choosing) fun d1 => li (g1 dLen [d1])) fun d2 => bd (pu (PyData.int 1)) fun d3 => li (dAdd d2 d3)) fun d4 => li (dRng1 d4)) fun l6 => mf l6 (fun d7 => bd (li (u1 d7)) (fun _ => pu true)) (fun d7 => bd (li (u1 d7)) (x1 fun d5 => bd (pu a_sheet) fun d11 => bd (bd (pu a_choosing) fun d8 => bd (pu none) fun o9 => bd (bd (pu d5) oInt) fun o10 => li (dCut d8 o9 o10)) fun d12 => m_mean_in d11 d12))) fun l13 => pu (PyData.list l13)) fun d14 => pu (.rt d14))
-- means_of
def m_means_of (a_sheet : D) (a_choosing : D) : M D := fe false (bd (bd (pu a_sheet) fun d1 => bd (pu a_choosing) fun d2 => m_need_choosing d1 d2) fun _ => bd (bd (pu a_sheet) fun d3 => bd (pu a_choosing) fun d4 => m_means_in d3 d4) fun d5 => pu (.rt d5))
-- never_falls
def m_never_falls (a_sheet : D) (a_choosing : D) : M D := fe false (bd (bd (pu a_sheet) fun d2 => bd (pu a_choosing) fun d3 => m_means_of d2 d3) fun d1 => bd (bd (bd (bd (bd (bd (bd (pu a_choosing) fun d4 => li (g1 dLen [d4])) fun d5 => li (dRng1 d5)) fun l7 => mf l7 (fun d8 => bd (li (u1 d8)) (fun _ => pu true)) (fun d8 => bd (li (u1 d8)) (x1 fun d6 => bd (bd (pu d1) fun d11 => bd (bd (pu d6) fun d9 => bd (pu (PyData.int 1)) fun d10 => li (dAdd d9 d10)) fun d12 => li (dIdx d11 d12)) fun d15 => bd (bd (pu d1) fun d13 => bd (pu d6) fun d14 => li (dIdx d13 d14)) fun d16 => m_is_less d15 d16))) fun l17 => pu (PyData.list l17)) fun d18 => li (g1 dAny [d18])) fun d19 => bd (tb d19) fun k20 => pu (PyData.bool (!k20))) fun d21 => pu (.rt d21))
-- _law_b_some
def m__law_b_some (a_tape : Nat) (a_row : D) : M D := fe false (bd (bd (pu a_row) fun d3 => bd (bd (bd (pu a_row) fun d1 => li (g1 dLen [d1])) fun d2 => m__law_b_take a_tape d2) fun d4 => li (dIdx d3 d4)) fun d5 => pu (.rt d5))
-- _law_b_sixteen
def m__law_b_sixteen (a_tape : Nat) (a_sheet : D) : M D := fe false (bd (bd (bd (pu (PyData.int 8)) fun d1 => m__law_b_take a_tape d1) fun d2 => bd (pu (PyData.int 0)) fun d3 => li (dGt d2 d3)) fun k4 => if k4 then (bd (pu a_sheet) fun d5 => pu (.rt d5)) else (bd (pu a_sheet) fun d6 => bd (li ((uN 2) d6)) (x2 fun d7 d8 => bd (bd (pu d7) fun d21 => bd (bd (pu d8) fun d19 => bd (bd (bd (bd (bd (bd (pu (PyData.int 16)) fun d10 => bd (bd (pu d8) fun d9 => li (g1 dLen [d9])) fun d11 => li (dSub d10 d11)) fun d12 => li (dRng1 d12)) fun l14 => mf l14 (fun d15 => bd (li (u1 d15)) (fun _ => pu true)) (fun d15 => bd (li (u1 d15)) (x1 fun d13 => bd (pu d7) fun d16 => m__law_b_wish a_tape d16))) fun l17 => pu (PyData.list l17)) fun d18 => li (g1 dTup [d18])) fun d20 => li (dAdd d19 d20)) fun d22 => pu (PyData.tuple [d21, d22])) fun d23 => pu (.rt d23))))
-- best_way
def m_best_way_b1 (a_found : D) : D → D → M (Fl D D) := fun (s3 : D) d16 => bd (li ((uN 2) d16)) (x2 fun d4 d5 => sq (bd (bd (bd (bd (pu a_found) fun d6 => bd (pu s3) fun d7 => li (dIdx d6 d7)) fun d8 => bd (pu d5) fun d9 => m_is_less d8 d9) fun d10 => li (dTru d10)) fun k11 => if k11 then (bd (pu d4) fun d13 => pu (.nx d13)) else (pu (.nx s3))) fun s12 : D => pu (.nx s12))
def m_best_way (a_found : D) : M D := fe false (bd (pu (PyData.int 0)) fun d1 => sq (bd (bd (pu a_found) fun d2 => li (dEnum d2)) fun l15 => fo (m_best_way_b1 a_found) l15 d1) fun s3 : D => bd (pu s3) fun d14 => pu (.rt d14))
-- ways_on
def m_ways_on (a_sheet : D) (a_begun : D) : M D := fe false (bd (bd (bd (bd (bd (bd (pu a_sheet) fun d1 => bd (pu (PyData.int 0)) fun d2 => li (dIdx d1 d2)) fun d4 => bd (bd (pu a_begun) fun d3 => li (g1 dLen [d3])) fun d5 => li (dIdx d4 d5)) fun d6 => li (dRng1 d6)) fun l8 => mf l8 (fun d9 => bd (li (u1 d9)) (fun _ => pu true)) (fun d9 => bd (li (u1 d9)) (x1 fun d7 => bd (pu a_sheet) fun d13 => bd (bd (pu a_begun) fun d11 => bd (bd (pu d7) fun d10 => pu (PyData.tuple [d10])) fun d12 => li (dAdd d11 d12)) fun d14 => m_mean_in d13 d14))) fun l15 => pu (PyData.list l15)) fun d16 => pu (.rt d16))
-- chosen
def m_chosen_b1 (a_sheet : D) : D → M Bool := fun (s3 : D) => bd (bd (pu s3) fun d4 => li (g1 dLen [d4])) fun d8 => bd (bd (bd (pu a_sheet) fun d5 => bd (pu (PyData.int 0)) fun d6 => li (dIdx d5 d6)) fun d7 => li (g1 dLen [d7])) fun d9 => li (dLt d8 d9)
def m_chosen_b2 (a_sheet : D) : D → M (Fl D D) := fun (s3 : D) => bd (bd (pu s3) fun d15 => bd (bd (bd (bd (pu a_sheet) fun d11 => bd (pu s3) fun d12 => m_ways_on d11 d12) fun d13 => m_best_way d13) fun d14 => pu (PyData.tuple [d14])) fun d16 => li (dAdd d15 d16)) fun d10 => pu (.nx d10)
def m_chosen (a_sheet : D) : M D := fe false (bd (bd (pu a_sheet) fun d1 => m_need_sheet d1) fun _ => bd (pu (PyData.tuple [])) fun d2 => sq (wh (m_chosen_b1 a_sheet) (m_chosen_b2 a_sheet) d2) fun s3 : D => bd (pu s3) fun d17 => pu (.rt d17))
-- with_way
def m_with_way (a_choosing : D) (a_place : D) (a_way : D) : M D := fe false (bd (bd (bd (bd (pu a_choosing) fun d1 => bd (pu none) fun o2 => bd (bd (pu a_place) oInt) fun o3 => li (dCut d1 o2 o3)) fun d5 => bd (bd (pu a_way) fun d4 => pu (PyData.tuple [d4])) fun d6 => li (dAdd d5 d6)) fun d12 => bd (bd (pu a_choosing) fun d7 => bd (bd (bd (pu a_place) fun d8 => bd (pu (PyData.int 1)) fun d9 => li (dAdd d8 d9)) oInt) fun o10 => bd (pu none) fun o11 => li (dCut d7 o10 o11)) fun d13 => li (dAdd d12 d13)) fun d14 => pu (.rt d14))
-- best_there
def m_best_there_b1 (a_sheet : D) (a_choosing : D) (a_place : D) : D × D → D → M (Fl (D × D) (D × D)) := fun (s14 : D × D) d32 => bd (li (u1 d32)) (x1 fun d15 => bd (bd (pu a_sheet) fun d20 => bd (bd (pu a_choosing) fun d17 => bd (pu a_place) fun d18 => bd (pu d15) fun d19 => m_with_way d17 d18 d19) fun d21 => m_worth_in d20 d21) fun d16 => sq (bd (bd (pu d16) fun d22 => bd (pu s14.2) fun d23 => li (dGt d22 d23)) fun k24 => if k24 then (bd (pu d15) fun d26 => bd (pu d16) fun d27 => pu (.nx (d26, d27))) else (pu (.nx (s14.1, s14.2)))) fun s25 : D × D => pu (.nx (s25.1, s25.2)))
def m_best_there (a_sheet : D) (a_choosing : D) (a_place : D) : M D := fe false (bd (pu (PyData.int 0)) fun d1 => bd (bd (pu a_sheet) fun d6 => bd (bd (pu a_choosing) fun d3 => bd (pu a_place) fun d4 => bd (pu (PyData.int 0)) fun d5 => m_with_way d3 d4 d5) fun d7 => m_worth_in d6 d7) fun d2 => sq (bd (bd (pu (PyData.int 1)) fun d12 => bd (bd (bd (pu a_sheet) fun d8 => bd (pu (PyData.int 0)) fun d9 => li (dIdx d8 d9)) fun d10 => bd (pu a_place) fun d11 => li (dIdx d10 d11)) fun d13 => li (dRng2 d12 d13)) fun l31 => fo (m_best_there_b1 a_sheet a_choosing a_place) l31 (d1, d2)) fun s14 : D × D => bd (bd (pu s14.1) fun d28 => bd (pu s14.2) fun d29 => pu (PyData.tuple [d28, d29])) fun d30 => pu (.rt d30))
-- next_choosing
def m_next_choosing_b1 (a_sheet : D) (a_choosing : D) (d1 : D) : Unit → D → M (Fl Unit Unit) := fun (s6 : Unit) d23 => bd (li (u1 d23)) (x1 fun d7 => bd (bd (pu a_sheet) fun d8 => bd (pu a_choosing) fun d9 => bd (pu d7) fun d10 => m_best_there d8 d9 d10) fun d11 => bd (li ((uN 2) d11)) (x2 fun d12 d13 => bd (bd (pu d13) fun d14 => bd (pu d1) fun d15 => li (dGt d14 d15)) fun k16 => if k16 then (bd (bd (pu a_choosing) fun d17 => bd (pu d7) fun d18 => bd (pu d12) fun d19 => m_with_way d17 d18 d19) fun d20 => pu (.rt d20)) else (pu (.nx ()))))
def m_next_choosing (a_sheet : D) (a_choosing : D) : M D := fe false (bd (bd (pu a_sheet) fun d2 => bd (pu a_choosing) fun d3 => m_worth_in d2 d3) fun d1 => sq (bd (bd (bd (pu a_choosing) fun d4 => li (g1 dLen [d4])) fun d5 => li (dRng1 d5)) fun l22 => fo (m_next_choosing_b1 a_sheet a_choosing d1) l22 ()) fun s6 : Unit => bd (pu PyData.none) fun d21 => pu (.rt d21))
-- is_settled
def m_is_settled (a_sheet : D) (a_choosing : D) : M D := fe false (bd (bd (pu a_sheet) fun d1 => bd (pu a_choosing) fun d2 => m_need_choosing d1 d2) fun _ => bd (bd (bd (pu a_sheet) fun d3 => bd (pu a_choosing) fun d4 => m_next_choosing d3 d4) fun d5 => bd (pu PyData.none) fun d6 => li ((dIs d5 d6).map PyData.bool)) fun d7 => pu (.rt d7))
-- settle
def m_settle_b1  : D × D → M Bool := fun (s6 : D × D) => bd (pu s6.2) fun d7 => bd (pu PyData.none) fun d8 => li (dNis d7 d8)
def m_settle_b2 (a_sheet : D) : D × D → M (Fl (D × D) (D × D)) := fun (s6 : D × D) => bd (pu s6.2) fun d9 => bd (bd (pu a_sheet) fun d11 => bd (pu d9) fun d12 => m_next_choosing d11 d12) fun d10 => pu (.nx (d9, d10))
def m_settle (a_sheet : D) (a_choosing : D) : M D := fe false (bd (bd (pu a_sheet) fun d1 => bd (pu a_choosing) fun d2 => m_need_choosing d1 d2) fun _ => bd (bd (pu a_sheet) fun d4 => bd (pu a_choosing) fun d5 => m_next_choosing d4 d5) fun d3 => sq (wh m_settle_b1 (m_settle_b2 a_sheet) (a_choosing, d3)) fun s6 : D × D => bd (pu s6.1) fun d13 => pu (.rt d13))
end
end Q


set_option maxRecDepth 100000
set_option maxHeartbeats 4000000
/-! mirrors of defs that many laws reach, as gen.py prints them -/
namespace Q
open DL PySem PySem.Spec PyProof.Rows L2
noncomputable section
-- _law_b_kept
def m__law_b_kept (a_wish : D) (a_choosing : D) : M D := fe false (bd (bd (bd (bd (pu a_wish) fun d2 => bd (pu (PyData.int 2)) fun d3 => li (dIdx d2 d3)) fun d4 => li (dLst d4)) fun l7 => mf l7 (fun d8 => bd (li ((uN 2) d8)) (x2 fun d5 d6 => bd (bd (pu a_choosing) fun d9 => bd (pu d5) fun d10 => li (dIdx d9 d10)) fun d11 => bd (pu d6) fun d12 => li (dIn d11 d12))) (fun d8 => bd (li ((uN 2) d8)) (x2 fun d5 d6 => pu d5))) fun l13 => bd (bd (bd (bd (pu a_wish) fun d14 => bd (pu (PyData.int 0)) fun d15 => li (dIdx d14 d15)) fun d16 => bd (pu (PyData.str "all")) fun d17 => li (dEq d16 d17)) fun k27 => if k27 then (bd (bd (pu (PyData.list l13)) fun d18 => li (g1 dLen [d18])) fun d22 => bd (bd (bd (pu a_wish) fun d19 => bd (pu (PyData.int 2)) fun d20 => li (dIdx d19 d20)) fun d21 => li (g1 dLen [d21])) fun d23 => li ((dEq d22 d23).map PyData.bool)) else (bd (pu (PyData.list l13)) fun d25 => bd (bd (pu []) fun l24 => pu (PyData.list l24)) fun d26 => li ((dNe d25 d26).map PyData.bool))) fun d28 => pu (.rt d28))
-- _law_b_worth
def m__law_b_worth_b1 (a_choosing : D) : D → D → M (Fl D D) := fun (s5 : D) d19 => bd (li (u1 d19)) (x1 fun d6 => sq (bd (bd (bd (pu d6) fun d7 => bd (pu a_choosing) fun d8 => m__law_b_kept d7 d8) fun d9 => li (dTru d9)) fun k10 => if k10 then (bd (bd (pu s5) fun d15 => bd (bd (pu d6) fun d13 => bd (pu (PyData.int 1)) fun d14 => li (dIdx d13 d14)) fun d16 => li (dAdd d15 d16)) fun d12 => pu (.nx d12)) else (pu (.nx s5))) fun s11 : D => pu (.nx s11))
def m__law_b_worth (a_sheet : D) (a_choosing : D) : M D := fe false (bd (pu (PyData.int 0)) fun d1 => sq (bd (bd (bd (pu a_sheet) fun d2 => bd (pu (PyData.int 1)) fun d3 => li (dIdx d2 d3)) fun d4 => li (dLst d4)) fun l18 => fo (m__law_b_worth_b1 a_choosing) l18 d1) fun s5 : D => bd (pu s5) fun d17 => pu (.rt d17))
-- _law_b_all_choosings
def m__law_b_all_choosings_b1 (d6 : D) : List D → D → M (Fl (List D) (List D)) := fun (s10 : List D) d24 => bd (li (u1 d24)) (x1 fun d11 => bd (bd (bd (bd (pu d6) fun d12 => li (dRng1 d12)) fun l14 => mf l14 (fun d15 => bd (li (u1 d15)) (fun _ => pu true)) (fun d15 => bd (li (u1 d15)) (x1 fun d13 => bd (pu d11) fun d17 => bd (bd (pu d13) fun d16 => pu (PyData.tuple [d16])) fun d18 => li (dAdd d17 d18)))) fun l19 => pu (PyData.list l19)) fun d20 => bd (toL d20) fun l21 => bd (ck (decide (s10.length + l21.length ≤ 16777216))) fun _ => pu (.nx (s10 ++ l21)))
def m__law_b_all_choosings_b2  : D → D → M (Fl D D) := fun (s5 : D) d27 => bd (li (u1 d27)) (x1 fun d6 => bd (pu []) fun l8 => sq (bd (bd (pu s5) fun d9 => li (dLst d9)) fun l23 => fo (m__law_b_all_choosings_b1 d6) l23 l8) fun s10 : List D => bd (pu (PyData.list s10)) fun d22 => pu (.nx d22))
def m__law_b_all_choosings (a_ways : D) : M D := fe false (bd (bd (bd (pu (PyData.tuple [])) fun d2 => pu [d2]) fun l3 => pu (PyData.list l3)) fun d1 => sq (bd (bd (pu a_ways) fun d4 => li (dLst d4)) fun l26 => fo m__law_b_all_choosings_b2 l26 d1) fun s5 : D => bd (pu s5) fun d25 => pu (.rt d25))
-- all_choosings
def m_all_choosings_b1 (d6 : D) : List D → D → M (Fl (List D) (List D)) := fun (s10 : List D) d24 => bd (li (u1 d24)) (x1 fun d11 => bd (bd (bd (bd (pu d6) fun d12 => li (dRng1 d12)) fun l14 => mf l14 (fun d15 => bd (li (u1 d15)) (fun _ => pu true)) (fun d15 => bd (li (u1 d15)) (x1 fun d13 => bd (pu d11) fun d17 => bd (bd (pu d13) fun d16 => pu (PyData.tuple [d16])) fun d18 => li (dAdd d17 d18)))) fun l19 => pu (PyData.list l19)) fun d20 => bd (toL d20) fun l21 => bd (ck (decide (s10.length + l21.length ≤ 16777216))) fun _ => pu (.nx (s10 ++ l21)))
def m_all_choosings_b2  : D → D → M (Fl D D) := fun (s5 : D) d27 => bd (li (u1 d27)) (x1 fun d6 => bd (pu []) fun l8 => sq (bd (bd (pu s5) fun d9 => li (dLst d9)) fun l23 => fo (m_all_choosings_b1 d6) l23 l8) fun s10 : List D => bd (pu (PyData.list s10)) fun d22 => pu (.nx d22))
def m_all_choosings (a_ways : D) : M D := fe false (bd (bd (bd (pu (PyData.tuple [])) fun d2 => pu [d2]) fun l3 => pu (PyData.list l3)) fun d1 => sq (bd (bd (pu a_ways) fun d4 => li (dLst d4)) fun l26 => fo m_all_choosings_b2 l26 d1) fun s5 : D => bd (pu s5) fun d25 => pu (.rt d25))
-- need_few
def m_need_few_b1  : D → D → M (Fl D D) := fun (s6 : D) d15 => bd (li (u1 d15)) (x1 fun d7 => bd (bd (pu s6) fun d9 => bd (pu d7) fun d10 => li (dMul d9 d10)) fun d8 => pu (.nx d8))
def m_need_few (a_sheet : D) : M D := fe false (bd (bd (pu a_sheet) fun d1 => m_need_sheet d1) fun _ => bd (pu (PyData.int 1)) fun d2 => sq (bd (bd (bd (pu a_sheet) fun d3 => bd (pu (PyData.int 0)) fun d4 => li (dIdx d3 d4)) fun d5 => li (dLst d5)) fun l14 => fo m_need_few_b1 l14 d2) fun s6 : D => bd (bd (pu s6) fun d11 => bd (pu (PyData.int 1024)) fun d12 => li (dGt d11 d12)) fun k13 => if k13 then no else (pu (.nx ())))
-- worths_in
def m_worths_in (a_sheet : D) : M D := fe false (bd (bd (bd (bd (bd (bd (pu a_sheet) fun d1 => bd (pu (PyData.int 0)) fun d2 => li (dIdx d1 d2)) fun d3 => m_all_choosings d3) fun d4 => li (dLst d4)) fun l6 => mf l6 (fun d7 => bd (li (u1 d7)) (fun _ => pu true)) (fun d7 => bd (li (u1 d7)) (x1 fun d5 => bd (bd (pu a_sheet) fun d8 => bd (pu d5) fun d9 => m_worth_in d8 d9) fun d10 => bd (pu d5) fun d11 => pu (PyData.tuple [d10, d11])))) fun l12 => pu (PyData.list l12)) fun d13 => pu (.rt d13))
-- is_from_to
def m_is_from_to (a_thing : D) (a_low : D) (a_high : D) : M D := fe false (bd (bd (bd (pu a_thing) fun d1 => pu (PyData.bool (isI "int" d1))) fun d11 => bd (tb d11) fun k12 => if k12 then (bd (bd (bd (pu a_thing) fun d2 => pu (PyData.bool (isI "bool" d2))) fun d3 => bd (tb d3) fun k4 => pu (PyData.bool (!k4))) fun d9 => bd (tb d9) fun k10 => if k10 then (bd (pu a_low) fun d5 => bd (pu a_thing) fun d6 => bd (li (dLe d5 d6)) fun k8 => if k8 then bd (pu a_high) fun d7 => li ((dLe d6 d7).map PyData.bool) else pu (PyData.bool false)) else pu (PyData.bool false)) else pu (PyData.bool false)) fun d13 => pu (.rt d13))
-- is_set_of
def m_is_set_of (a_n : D) (a_thing : D) : M D := fe false (bd (bd (bd (bd (bd (pu a_thing) fun d1 => pu (PyData.bool (isI "tuple" d1))) fun d2 => li (dTru d2)) fun k3 => pu (!k3)) fun k6 => if k6 then pu true else (bd (pu a_thing) fun d4 => bd (pu (PyData.tuple [])) fun d5 => li (dEq d4 d5))) fun k7 => if k7 then (bd (pu (PyData.bool false)) fun d8 => pu (.rt d8)) else (bd (bd (bd (bd (bd (bd (bd (pu a_thing) fun d9 => li (dLst d9)) fun l11 => mf l11 (fun d12 => bd (li (u1 d12)) (fun _ => pu true)) (fun d12 => bd (li (u1 d12)) (x1 fun d10 => bd (pu d10) fun d15 => bd (pu (PyData.int 0)) fun d16 => bd (bd (pu a_n) fun d13 => bd (pu (PyData.int 1)) fun d14 => li (dSub d13 d14)) fun d17 => m_is_from_to d15 d16 d17))) fun l18 => pu (PyData.list l18)) fun d19 => li (g1 dAll [d19])) fun d20 => li (dTru d20)) fun k21 => pu (!k21)) fun k22 => if k22 then (bd (pu (PyData.bool false)) fun d23 => pu (.rt d23)) else (bd (bd (bd (bd (bd (pu (PyData.int 1)) fun d25 => bd (bd (pu a_thing) fun d24 => li (g1 dLen [d24])) fun d26 => li (dRng2 d25 d26)) fun l28 => mf l28 (fun d29 => bd (li (u1 d29)) (fun _ => pu true)) (fun d29 => bd (li (u1 d29)) (x1 fun d27 => bd (bd (pu a_thing) fun d32 => bd (bd (pu d27) fun d30 => bd (pu (PyData.int 1)) fun d31 => li (dSub d30 d31)) fun d33 => li (dIdx d32 d33)) fun d36 => bd (bd (pu a_thing) fun d34 => bd (pu d27) fun d35 => li (dIdx d34 d35)) fun d37 => li ((dLt d36 d37).map PyData.bool)))) fun l38 => pu (PyData.list l38)) fun d39 => li (g1 dAll [d39])) fun d40 => pu (.rt d40))))
-- is_book
def m_is_book (a_thing : D) : M D := fe false (bd (bd (bd (bd (bd (pu a_thing) fun d1 => pu (PyData.bool (isI "tuple" d1))) fun d2 => li (dTru d2)) fun k3 => pu (!k3)) fun k15 => if k15 then pu true else (bd (bd (bd (pu a_thing) fun d4 => li (g1 dLen [d4])) fun d5 => bd (pu (PyData.int 2)) fun d6 => li (dNe d5 d6)) fun k14 => if k14 then pu true else (bd (bd (bd (bd (pu a_thing) fun d7 => bd (pu (PyData.int 0)) fun d8 => li (dIdx d7 d8)) fun d9 => bd (pu (PyData.int 1)) fun d10 => bd (pu (PyData.int 10)) fun d11 => m_is_from_to d9 d10 d11) fun d12 => li (dTru d12)) fun k13 => pu (!k13)))) fun k16 => if k16 then (bd (pu (PyData.bool false)) fun d17 => pu (.rt d17)) else (bd (pu a_thing) fun d18 => bd (li ((uN 2) d18)) (x2 fun d19 d20 => bd (bd (bd (bd (bd (pu d20) fun d21 => pu (PyData.bool (isI "tuple" d21))) fun d22 => li (dTru d22)) fun k23 => pu (!k23)) fun k27 => if k27 then pu true else (bd (bd (pu d20) fun d24 => li (g1 dLen [d24])) fun d25 => bd (pu (PyData.int 16)) fun d26 => li (dGt d25 d26))) fun k28 => if k28 then (bd (pu (PyData.bool false)) fun d29 => pu (.rt d29)) else (bd (bd (bd (bd (bd (pu d20) fun d30 => li (dLst d30)) fun l32 => mf l32 (fun d33 => bd (li (u1 d33)) (fun _ => pu true)) (fun d33 => bd (li (u1 d33)) (x1 fun d31 => bd (pu d19) fun d34 => bd (pu d31) fun d35 => m_is_set_of d34 d35))) fun l36 => pu (PyData.list l36)) fun d37 => li (g1 dAll [d37])) fun d38 => pu (.rt d38)))))
-- need_book
def m_need_book (a_book : D) : M D := fe false (bd (bd (bd (bd (pu a_book) fun d1 => m_is_book d1) fun d2 => li (dTru d2)) fun k3 => pu (!k3)) fun k4 => if k4 then no else (pu (.nx ())))
-- need_draws
def m_need_draws (a_book : D) (a_draws : D) : M D := fe false (bd (bd (bd (bd (bd (pu a_draws) fun d1 => pu (PyData.bool (isI "tuple" d1))) fun d2 => li (dTru d2)) fun k3 => pu (!k3)) fun k7 => if k7 then pu true else (bd (bd (pu a_draws) fun d4 => li (g1 dLen [d4])) fun d5 => bd (pu (PyData.int 99)) fun d6 => li (dGt d5 d6))) fun k8 => if k8 then no else (bd (bd (bd (bd (bd (bd (bd (pu a_draws) fun d9 => li (dLst d9)) fun l11 => mf l11 (fun d12 => bd (li (u1 d12)) (fun _ => pu true)) (fun d12 => bd (li (u1 d12)) (x1 fun d10 => bd (pu d10) fun d17 => bd (pu (PyData.int 0)) fun d18 => bd (bd (bd (pu a_book) fun d13 => bd (pu (PyData.int 0)) fun d14 => li (dIdx d13 d14)) fun d15 => bd (pu (PyData.int 1)) fun d16 => li (dSub d15 d16)) fun d19 => m_is_from_to d17 d18 d19))) fun l20 => pu (PyData.list l20)) fun d21 => li (g1 dAll [d21])) fun d22 => li (dTru d22)) fun k23 => pu (!k23)) fun k24 => if k24 then no else (pu (.nx ()))))
-- missed
def m_missed (a_book : D) (a_draws : D) : M D := fe false (bd (bd (bd (bd (bd (pu a_book) fun d1 => bd (pu (PyData.int 1)) fun d2 => li (dIdx d1 d2)) fun d3 => li (dLst d3)) fun l5 => mf l5 (fun d6 => bd (li (u1 d6)) (x1 fun d4 => bd (bd (bd (bd (bd (pu d4) fun d7 => li (dLst d7)) fun l9 => mf l9 (fun d10 => bd (li (u1 d10)) (fun _ => pu true)) (fun d10 => bd (li (u1 d10)) (x1 fun d8 => bd (pu d8) fun d11 => bd (pu a_draws) fun d12 => li ((dNin d11 d12).map PyData.bool)))) fun l13 => pu (PyData.list l13)) fun d14 => li (g1 dAll [d14])) fun d15 => li (dTru d15))) (fun d6 => bd (li (u1 d6)) (x1 fun d4 => pu d4))) fun l16 => pu (PyData.list l16)) fun d17 => pu (.rt d17))
-- _law_alow
def m__law_alow_b1  : D × D → M Bool := fun (s3 : D × D) => bd (pu s3.2) fun d4 => bd (pu (PyData.int 0)) fun d5 => li (dGt d4 d5)
def m__law_alow_b2  : D × D → M (Fl (D × D) (D × D)) := fun (s3 : D × D) => bd (pu s3.2) fun d8 => bd (bd (pu s3.1) fun d6 => bd (pu s3.2) fun d7 => li (dMod d6 d7)) fun d9 => pu (.nx (d8, d9))
def m__law_alow (a_a : D) (a_b : D) : M D := fe false (bd (pu a_a) fun d1 => bd (pu a_b) fun d2 => sq (wh m__law_alow_b1 m__law_alow_b2 (d1, d2)) fun s3 : D × D => bd (bd (bd (pu a_a) fun d10 => bd (pu s3.1) fun d11 => li (dDiv d10 d11)) fun d14 => bd (bd (pu a_b) fun d12 => bd (pu s3.1) fun d13 => li (dDiv d12 d13)) fun d15 => pu (PyData.tuple [d14, d15])) fun d16 => pu (.rt d16))
-- _law_aplus
def m__law_aplus (a_one : D) (a_other : D) : M D := fe false (bd (bd (bd (bd (pu a_one) fun d2 => bd (pu (PyData.int 0)) fun d3 => li (dIdx d2 d3)) fun d6 => bd (bd (pu a_other) fun d4 => bd (pu (PyData.int 1)) fun d5 => li (dIdx d4 d5)) fun d7 => li (dMul d6 d7)) fun d14 => bd (bd (bd (pu a_other) fun d8 => bd (pu (PyData.int 0)) fun d9 => li (dIdx d8 d9)) fun d12 => bd (bd (pu a_one) fun d10 => bd (pu (PyData.int 1)) fun d11 => li (dIdx d10 d11)) fun d13 => li (dMul d12 d13)) fun d15 => li (dAdd d14 d15)) fun d1 => bd (bd (bd (pu a_one) fun d17 => bd (pu (PyData.int 1)) fun d18 => li (dIdx d17 d18)) fun d21 => bd (bd (pu a_other) fun d19 => bd (pu (PyData.int 1)) fun d20 => li (dIdx d19 d20)) fun d22 => li (dMul d21 d22)) fun d16 => bd (bd (pu d1) fun d23 => bd (pu (PyData.int 0)) fun d24 => li (dLt d23 d24)) fun k25 => if k25 then (bd (bd (bd (pu (PyData.int 0)) fun d26 => bd (pu d1) fun d27 => li (dSub d26 d27)) fun d28 => bd (pu d16) fun d29 => m__law_alow d28 d29) fun d30 => bd (li ((uN 2) d30)) (x2 fun d31 d32 => bd (bd (bd (pu (PyData.int 0)) fun d33 => bd (pu d31) fun d34 => li (dSub d33 d34)) fun d35 => bd (pu d32) fun d36 => pu (PyData.tuple [d35, d36])) fun d37 => pu (.rt d37))) else (bd (bd (pu d1) fun d38 => bd (pu d16) fun d39 => m__law_alow d38 d39) fun d40 => pu (.rt d40)))
-- _law_abook
def m__law_abook_b1 (d1 : D) (a_tape : Nat) (d5 : D) : List D → D → M (Fl (List D) (List D)) := fun (s13 : List D) d40 => bd (li (u1 d40)) (x1 fun d14 => bd (bd (bd (pu d1) fun d16 => li (dRng1 d16)) fun l18 => mf l18 (fun d19 => bd (li (u1 d19)) (x1 fun d17 => bd (bd (pu (PyData.int 5)) fun d20 => m__law_adigit a_tape d20) fun d21 => bd (pu d5) fun d22 => li (dLt d21 d22))) (fun d19 => bd (li (u1 d19)) (x1 fun d17 => pu d17))) fun l23 => sq (bd (bd (pu (PyData.list l23)) fun d25 => bd (bd (pu []) fun l24 => pu (PyData.list l24)) fun d26 => li (dEq d25 d26)) fun k27 => if k27 then (bd (bd (bd (bd (pu d1) fun d30 => m__law_adigit a_tape d30) fun d31 => pu [d31]) fun l32 => pu (PyData.list l32)) fun d29 => pu (.nx d29)) else (pu (.nx (PyData.list l23)))) fun s28 : D => bd (bd (pu s28) fun d33 => li (g1 dTup [d33])) fun d34 => bd (ck (decide (s13.length < 16777216))) fun _ => pu (.nx (s13 ++ [d34])))
def m__law_abook (a_tape : Nat) : M D := fe false (bd (bd (pu (PyData.int 1)) fun d3 => bd (bd (pu (PyData.int 10)) fun d2 => m__law_adigit a_tape d2) fun d4 => li (dAdd d3 d4)) fun d1 => bd (bd (pu (PyData.int 1)) fun d7 => bd (bd (pu (PyData.int 4)) fun d6 => m__law_adigit a_tape d6) fun d8 => li (dAdd d7 d8)) fun d5 => bd (pu []) fun l10 => sq (bd (bd (bd (pu (PyData.int 17)) fun d11 => m__law_adigit a_tape d11) fun d12 => li (dRng1 d12)) fun l39 => fo (m__law_abook_b1 d1 a_tape d5) l39 l10) fun s13 : List D => bd (bd (pu d1) fun d36 => bd (bd (pu (PyData.list s13)) fun d35 => li (g1 dTup [d35])) fun d37 => pu (PyData.tuple [d36, d37])) fun d38 => pu (.rt d38))
-- _law_amissed
def m__law_amissed (a_book : D) (a_draws : D) : M D := fe false (bd (bd (bd (bd (bd (pu a_book) fun d1 => bd (pu (PyData.int 1)) fun d2 => li (dIdx d1 d2)) fun d3 => li (dLst d3)) fun l5 => mf l5 (fun d6 => bd (li (u1 d6)) (x1 fun d4 => bd (bd (bd (bd (pu d4) fun d7 => li (dLst d7)) fun l9 => mf l9 (fun d10 => bd (li (u1 d10)) (x1 fun d8 => bd (pu d8) fun d11 => bd (pu a_draws) fun d12 => li (dIn d11 d12))) (fun d10 => bd (li (u1 d10)) (x1 fun d8 => pu d8))) fun l13 => pu (PyData.list l13)) fun d15 => bd (bd (pu []) fun l14 => pu (PyData.list l14)) fun d16 => li (dEq d15 d16))) (fun d6 => bd (li (u1 d6)) (x1 fun d4 => pu d4))) fun l17 => pu (PyData.list l17)) fun d18 => pu (.rt d18))
end
end Q


set_option maxRecDepth 100000
set_option maxHeartbeats 4000000
namespace Q
open DL PySem PySem.Spec PyProof.Rows L2

/-! fractions -/
abbrev fr (a b : Int) : D := .tuple [.int a, .int b]
theorem gcd_loop {L : Type} : ∀ (y x : Nat), wh (L := L) m_divisor_b1 m_divisor_b2 (.int x, .int y) = pu (.nx (.int (Nat.gcd y x), .int 0)) := by
  intro y
  induction y using Nat.strongRecOn with
  | ind y ih =>
    intro x
    rw [wh_unf, wst]
    by_cases h : y = 0
    · subst h
      simp [m_divisor_b1]
    · have h1 : (0 : Int) < y := by omega
      have h2 : x % y < y := Nat.mod_lt _ (by omega)
      have e : ((x : Int) % (y : Int)) = ((x % y : Nat) : Int) := by simp
      have z : wst (L := L) m_divisor_b1 m_divisor_b2 (wh m_divisor_b1 m_divisor_b2) (.int x, .int y) = wh m_divisor_b1 m_divisor_b2 (.int y, .int ((x % y : Nat) : Int)) := by
        rw [wst]
        simp only [m_divisor_b1, m_divisor_b2, bd_pu, dGt_i, li_some, h1, decide_true, if_true, dMod_i h1, e]
      show wst (L := L) m_divisor_b1 m_divisor_b2 (wh m_divisor_b1 m_divisor_b2) (.int x, .int y) = _
      rw [z, ih _ h2]
      have : Nat.gcd y x = Nat.gcd (x % y) y := Nat.gcd_rec y x
      rw [this]
theorem abs_eq (i : Int) : (if i < 0 then -i else i) = (i.natAbs : Int) := by split <;> omega
theorem divisor_ok (a b : Int) : m_divisor (.int a) (.int b) = pu (.int (Int.gcd a b)) := by
  unfold m_divisor
  simp only [bd_pu, g1, dAbs, li_some, abs_eq, gcd_loop, sq_nx, fe_rt]
  rw [Nat.gcd_comm]
  rfl
/-- in lowest terms -/
def lowF (a b : Int) : D := fr (a / Int.gcd a b) (b / Int.gcd a b)
theorem gcd_pos {a b : Int} (h : b ≠ 0) : (0 : Int) < Int.gcd a b := by
  have := Int.gcd_pos_of_ne_zero_right a h
  omega
theorem gcd_log {a b : Int} {k : Nat} [s : SmI b k] (h : b ≠ 0) (hk : k < 9000) : (Int.gcd a b : Int).natAbs.log2 < 9000 := by
  have h1 : (Int.gcd a b) ≤ b.natAbs := Nat.le_of_dvd (by omega) (Int.gcd_dvd_natAbs_right a b)
  have h2 := s.h
  by_cases z : Int.gcd a b = 0
  · simp [z]
  · have := (Nat.log2_lt (k := k) z).mpr (by omega)
    simp
    omega
theorem lowest_ok (a b : Int) {k : Nat} [s : SmI b k] (h : b ≠ 0) (hk : k < 9000) : m_lowest (.int a) (.int b) = pu (lowF a b) := by
  unfold m_lowest
  simp only [bd_pu, divisor_ok, dDiv_i (gcd_pos h) (gcd_log h hk), li_some, fe_rt]
  rfl
theorem plus_ok (a b c d : Int) {k1 k2 k3 k4 : Nat} [SmI a k1] [SmI b k2] [SmI c k3] [SmI d k4] (hb : b ≠ 0) (hd : d ≠ 0) (h1 : k1 + k4 < 9000) (h2 : k3 + k2 < 9000) (h3 : k2 + k4 < 9000) : m_plus (fr a b) (fr c d) = pu (lowF (a * d + c * b) (b * d)) := by
  unfold m_plus
  simp only [bd_pu, dIdx_t0, dIdx_t1, li_some, dMul_i (mulOk a d (by omega)), dMul_i (mulOk c b (by omega)), dMul_i (mulOk b d (by omega)), dAdd_i, lowest_ok _ _ (Int.mul_ne_zero hb hd) h3, fe_rt]
theorem times_ok (a b c d : Int) {k1 k2 k3 k4 : Nat} [SmI a k1] [SmI b k2] [SmI c k3] [SmI d k4] (hb : b ≠ 0) (hd : d ≠ 0) (h1 : k1 + k3 < 9000) (h3 : k2 + k4 < 9000) : m_times (fr a b) (fr c d) = pu (lowF (a * c) (b * d)) := by
  unfold m_times
  simp only [bd_pu, dIdx_t0, dIdx_t1, li_some, dMul_i (mulOk a c (by omega)), dMul_i (mulOk b d (by omega)), lowest_ok _ _ (Int.mul_ne_zero hb hd) h3, fe_rt]
theorem is_less_ok (a b c d : Int) {k1 k2 k3 k4 : Nat} [SmI a k1] [SmI b k2] [SmI c k3] [SmI d k4] (h1 : k1 + k4 < 9000) (h2 : k3 + k2 < 9000) : m_is_less (fr a b) (fr c d) = pu (.bool (decide (a * d < c * b))) := by
  unfold m_is_less
  simp only [bd_pu, dIdx_t0, dIdx_t1, li_some, dMul_i (mulOk a d (by omega)), dMul_i (mulOk c b (by omega)), dLt_i, Option.map_some, fe_rt]
/-! what a fraction in lowest terms is -/
structure Low (p q : Int) : Prop where
  pos : 0 < q
  co : Int.gcd p q = 1
theorem low_low {a b : Int} (h : 0 < b) : Low (a / Int.gcd a b) (b / Int.gcd a b) := by
  have g : 0 < Int.gcd a b := by have := gcd_pos (a := a) (b := b) (by omega); omega
  refine ⟨?_, ?_⟩
  · have : (Int.gcd a b : Int) ∣ b := Int.gcd_dvd_right a b
    exact Int.ediv_pos_of_pos_of_dvd h (by omega) this
  · have := Int.gcd_ediv_gcd_ediv_gcd (i := a) (j := b) g
    exact this
theorem low_self {p q : Int} (h : Low p q) : lowF p q = fr p q := by
  unfold lowF
  rw [h.co]
  simp
theorem low_cross {a b : Int} (h : 0 < b) : a / Int.gcd a b * b = a * (b / Int.gcd a b) := by
  have g := gcd_pos (a := a) (b := b) (by omega)
  obtain ⟨x, hx⟩ := Int.gcd_dvd_left a b
  obtain ⟨y, hy⟩ := Int.gcd_dvd_right a b
  have e1 : a / Int.gcd a b = x := by
    conv => lhs; lhs; rw [hx]
    exact Int.mul_ediv_cancel_left x (by omega)
  have e2 : b / Int.gcd a b = y := by
    conv => lhs; lhs; rw [hy]
    exact Int.mul_ediv_cancel_left y (by omega)
  rw [e1, e2]
  conv => lhs; rhs; rw [hy]
  conv => rhs; lhs; rw [hx]
  rw [Int.mul_comm x, Int.mul_assoc, Int.mul_comm y x, Int.mul_assoc]
end Q


set_option maxRecDepth 100000
set_option maxHeartbeats 4000000
namespace Q
open DL PySem PySem.Spec PyProof.Rows L2

/-! fractions that are one number -/
theorem low_uniq {p q r s : Int} (h : Low p q) (h' : Low r s) (e : p * s = r * q) : p = r ∧ q = s := by
  have h1 : q.natAbs ∣ s.natAbs := by
    have d : q.natAbs ∣ p.natAbs * s.natAbs := by
      rw [← Int.natAbs_mul, e, Int.natAbs_mul]
      exact Nat.dvd_mul_left _ _
    have c : Nat.Coprime q.natAbs p.natAbs := by
      have := h.co
      rw [Nat.coprime_comm]
      exact this
    exact Nat.Coprime.dvd_of_dvd_mul_left c d
  have h2 : s.natAbs ∣ q.natAbs := by
    have d : s.natAbs ∣ r.natAbs * q.natAbs := by
      rw [← Int.natAbs_mul, ← e, Int.natAbs_mul]
      exact Nat.dvd_mul_left _ _
    have c : Nat.Coprime s.natAbs r.natAbs := by
      have := h'.co
      rw [Nat.coprime_comm]
      exact this
    exact Nat.Coprime.dvd_of_dvd_mul_left c d
  have h3 := Nat.dvd_antisymm h1 h2
  have q0 := h.pos
  have s0 := h'.pos
  have h4 : q = s := by omega
  subst h4
  exact ⟨Int.eq_of_mul_eq_mul_right (by omega) e, rfl⟩
theorem low_eq {a b c d : Int} (hb : 0 < b) (hd : 0 < d) (h : a * d = c * b) : lowF a b = lowF c d := by
  have l1 := low_low (a := a) hb
  have l2 := low_low (a := c) hd
  have c1 := low_cross (a := a) hb
  have c2 := low_cross (a := c) hd
  have e : (a / Int.gcd a b) * (d / Int.gcd c d) = (c / Int.gcd c d) * (b / Int.gcd a b) := by
    generalize a / (Int.gcd a b : Int) = p at *
    generalize b / (Int.gcd a b : Int) = q at *
    generalize c / (Int.gcd c d : Int) = r at *
    generalize d / (Int.gcd c d : Int) = s at *
    have hbd : b * d ≠ 0 := Int.mul_ne_zero (by omega) (by omega)
    refine Int.eq_of_mul_eq_mul_right hbd ?_
    calc p * s * (b * d) = (p * b) * (s * d) := by ac_rfl
      _ = (a * q) * (s * d) := by rw [c1]
      _ = (a * d) * (q * s) := by ac_rfl
      _ = (c * b) * (q * s) := by rw [h]
      _ = (c * s) * (b * q) := by ac_rfl
      _ = (r * d) * (b * q) := by rw [c2]
      _ = r * q * (b * d) := by ac_rfl
  obtain ⟨e1, e2⟩ := low_uniq l1 l2 e
  unfold lowF
  rw [e1, e2]
end Q


/-! rationals: sizes -/
namespace Q
class SmQ (q : Rat) (k : outParam Nat) : Prop where
  n : q.num.natAbs < 2 ^ k
  d : q.den < 2 ^ k
theorem SmQ.mono {q : Rat} {k l : Nat} (s : SmQ q k) (h : k ≤ l) : SmQ q l :=
  ⟨Nat.lt_of_lt_of_le s.n (Nat.pow_le_pow_right (by decide) h), Nat.lt_of_lt_of_le s.d (Nat.pow_le_pow_right (by decide) h)⟩
theorem smq_div {a b : Int} {k : Nat} (hb : 0 < b) (h1 : a.natAbs < 2 ^ k) (h2 : b.natAbs < 2 ^ k) : SmQ ((a : Rat) / (b : Rat)) k := by
  rw [← Rat.divInt_eq_div]
  constructor
  · rw [Rat.num_divInt, Int.sign_eq_one_of_pos hb, Int.one_mul]
    refine Nat.lt_of_le_of_lt ?_ h1
    rw [Int.natAbs_ediv_of_dvd (Int.gcd_dvd_right b a)]
    exact Nat.div_le_self _ _
  · rw [Rat.den_divInt, if_neg (by omega)]
    exact Nat.lt_of_le_of_lt (Nat.div_le_self _ _) h2
theorem smq_int {i : Int} {k : Nat} (hk : 0 < k) (h : i.natAbs < 2 ^ k) : SmQ (i : Rat) k := ⟨by simpa using h, by
  have : (2 : Nat) ^ 1 ≤ 2 ^ k := Nat.pow_le_pow_right (by decide) hk
  show (1 : Nat) < _
  omega⟩
theorem rat_nd (q : Rat) : q = (q.num : Rat) / ((q.den : Int) : Rat) := by
  rw [← Rat.divInt_eq_div, Rat.num_divInt_den]
instance smq_add (q r : Rat) (a b : Nat) [x : SmQ q a] [y : SmQ r b] : SmQ (q + r) (a + b + 1) := by
  rw [Rat.add_def', Rat.mkRat_eq_div, ← Rat.intCast_natCast]
  have hd : 0 < q.den * r.den := Nat.mul_pos q.den_pos r.den_pos
  have h1 : (q.num * r.den).natAbs < 2 ^ (a + b) := by
    rw [Int.natAbs_mul, Nat.pow_add]
    exact Nat.mul_lt_mul'' x.n y.d
  have h2 : (r.num * q.den).natAbs < 2 ^ (a + b) := by
    rw [Int.natAbs_mul, Nat.pow_add, Nat.mul_comm]
    exact Nat.mul_lt_mul'' x.d y.n
  have h3 : q.den * r.den < 2 ^ (a + b) := by
    rw [Nat.pow_add]
    exact Nat.mul_lt_mul'' x.d y.d
  refine smq_div (by omega) ?_ ?_
  · rw [Nat.pow_succ]
    omega
  · rw [Nat.pow_succ]
    omega
instance smq_mul (q r : Rat) (a b : Nat) [x : SmQ q a] [y : SmQ r b] : SmQ (q * r) (a + b) := by
  rw [Rat.mul_def', Rat.mkRat_eq_div, ← Rat.intCast_natCast]
  have hd : 0 < q.den * r.den := Nat.mul_pos q.den_pos r.den_pos
  refine smq_div (by omega) ?_ ?_
  · rw [Int.natAbs_mul, Nat.pow_add]
    exact Nat.mul_lt_mul'' x.n y.n
  · rw [Nat.pow_add]
    exact Nat.mul_lt_mul'' x.d y.d
instance smq_neg (q : Rat) (a : Nat) [x : SmQ q a] : SmQ (-q) a := ⟨by simpa using x.n, by simpa using x.d⟩
instance smq_zero : SmQ 0 1 := ⟨by decide, by decide⟩
instance smq_one : SmQ 1 1 := ⟨by decide, by decide⟩
instance smq_sub (q r : Rat) (a b : Nat) [x : SmQ q a] [y : SmQ r b] : SmQ (q - r) (a + b + 1) := by
  rw [Rat.sub_eq_add_neg]
  infer_instance
def qsum : List Rat → Rat
  | [] => 0
  | q :: l => q + qsum l
def qprod : List Rat → Rat
  | [] => 1
  | q :: l => q * qprod l
theorem smq_sum {k : Nat} : ∀ {l : List Rat}, (∀ q ∈ l, SmQ q k) → SmQ (qsum l) ((k + 1) * l.length + 1)
  | [], _ => smq_zero.mono (by simp)
  | q :: l, h => by
    have h1 := h q List.mem_cons_self
    have h2 := smq_sum fun r m => h r (List.mem_cons_of_mem _ m)
    exact (smq_add q (qsum l) _ _).mono (by rw [List.length_cons, Nat.mul_succ]; omega)
theorem smq_prod {k : Nat} : ∀ {l : List Rat}, (∀ q ∈ l, SmQ q k) → SmQ (qprod l) (k * l.length + 1)
  | [], _ => smq_one.mono (by simp)
  | q :: l, h => by
    have h1 := h q List.mem_cons_self
    have h2 := smq_prod fun r m => h r (List.mem_cons_of_mem _ m)
    exact (smq_mul q (qprod l) _ _).mono (by rw [List.length_cons, Nat.mul_succ]; omega)
theorem qsum_foldl : ∀ (l : List Rat) (z : Rat), l.foldl (· + ·) z = z + qsum l
  | [], z => by simp [qsum, Rat.add_zero]
  | q :: l, z => by rw [List.foldl_cons, qsum_foldl l, qsum, Rat.add_assoc]
theorem qprod_foldl : ∀ (l : List Rat) (z : Rat), l.foldl (· * ·) z = z * qprod l
  | [], z => by simp [qprod]
  | q :: l, z => by rw [List.foldl_cons, qprod_foldl l, qprod, Rat.mul_assoc]
theorem qsum_append (a b : List Rat) : qsum (a ++ b) = qsum a + qsum b := by
  induction a with
  | nil => simp [qsum, Rat.zero_add]
  | cons q a ih => rw [List.cons_append, qsum, ih, qsum, Rat.add_assoc]
theorem qprod_append (a b : List Rat) : qprod (a ++ b) = qprod a * qprod b := by
  induction a with
  | nil => simp [qprod]
  | cons q a ih => rw [List.cons_append, qprod, ih, qprod, Rat.mul_assoc]
theorem qsum_nonneg : ∀ {l : List Rat}, (∀ q ∈ l, 0 ≤ q) → 0 ≤ qsum l
  | [], _ => by simp [qsum]
  | q :: l, h => Rat.add_nonneg (h q List.mem_cons_self) (qsum_nonneg fun r m => h r (List.mem_cons_of_mem _ m))
theorem qsum_mul (c : Rat) : ∀ (l : List Rat), c * qsum l = qsum (l.map (c * ·))
  | [] => by simp [qsum]
  | q :: l => by rw [qsum, Rat.mul_add, qsum_mul c l, List.map_cons, qsum]
theorem qsum_const {α : Type} (c : Rat) : ∀ (l : List α), qsum (l.map fun _ => c) = l.length * c
  | [] => by simp [qsum]
  | q :: l => by
    rw [List.map_cons, qsum, qsum_const c l, List.length_cons]
    grind
theorem qsum_add {α : Type} (f g : α → Rat) : ∀ (l : List α), qsum (l.map fun x => f x + g x) = qsum (l.map f) + qsum (l.map g)
  | [] => by simp [qsum, Rat.zero_add]
  | q :: l => by
    simp only [List.map_cons, qsum, qsum_add f g l]
    grind
theorem qsum_le {α : Type} (f g : α → Rat) : ∀ (l : List α), (∀ x ∈ l, f x ≤ g x) → qsum (l.map f) ≤ qsum (l.map g)
  | [], _ => Rat.le_refl
  | q :: l, h => by
    simp only [List.map_cons, qsum]
    have h1 := h q List.mem_cons_self
    have h2 := qsum_le f g l fun x m => h x (List.mem_cons_of_mem _ m)
    grind
/-- the fraction of two whole numbers -/
theorem div_eq_div {a b c d : Rat} (hb : b ≠ 0) (hd : d ≠ 0) (h : a * d = c * b) : a / b = c / d := by grind
end Q


set_option maxRecDepth 100000
set_option maxHeartbeats 4000000
namespace Q
open DL PySem PySem.Spec PyProof.Rows L2 RZ

/-! fractions as rationals -/
def fq (q : Rat) : D := fr q.num q.den
theorem fq_low {a b : Int} (h : 0 < b) : lowF a b = fq ((a : Rat) / (b : Rat)) := by
  rw [← Rat.divInt_eq_div]
  unfold lowF fq
  rw [Rat.num_divInt, Rat.den_divInt, if_neg (by omega), Int.sign_eq_one_of_pos h, Int.one_mul, Int.gcd_comm b a]
  have e : ((b.natAbs / Int.gcd a b : Nat) : Int) = b / (Int.gcd a b : Int) := by
    rw [Int.natCast_ediv]
    congr 1
    omega
  rw [e]
theorem fq_inj {q r : Rat} (h : fq q = fq r) : q = r := by
  unfold fq fr at h
  simp at h
  exact Rat.ext h.1 (by omega)
theorem fq_int (i : Int) : fq (i : Rat) = fr i 1 := by simp [fq]
theorem fq_zero : fq 0 = fr 0 1 := rfl
theorem fq_one : fq 1 = fr 1 1 := rfl
theorem smi_num (q : Rat) {k : Nat} [s : SmQ q k] : SmI q.num k := ⟨s.n⟩
theorem smi_den (q : Rat) {k : Nat} [s : SmQ q k] : SmI (q.den : Int) k := ⟨by simpa using s.d⟩
theorem den_pos (q : Rat) : (0 : Int) < q.den := by have := q.den_pos; omega
theorem plus_q (q r : Rat) {a b : Nat} [x : SmQ q a] [y : SmQ r b] (h : a + b < 9000) : m_plus (fq q) (fq r) = pu (fq (q + r)) := by
  have := smi_num q
  have := smi_num r
  have := smi_den q
  have := smi_den r
  have h1 := den_pos q
  have h2 := den_pos r
  unfold fq
  rw [plus_ok q.num q.den r.num r.den (by omega) (by omega) (by omega) (by omega) (by omega), fq_low (Int.mul_pos h1 h2), Rat.add_def', Rat.mkRat_eq_div]
  rfl
theorem times_q (q r : Rat) {a b : Nat} [x : SmQ q a] [y : SmQ r b] (h : a + b < 9000) : m_times (fq q) (fq r) = pu (fq (q * r)) := by
  have := smi_num q
  have := smi_num r
  have := smi_den q
  have := smi_den r
  have h1 := den_pos q
  have h2 := den_pos r
  unfold fq
  rw [times_ok q.num q.den r.num r.den (by omega) (by omega) (by omega) (by omega), fq_low (Int.mul_pos h1 h2), Rat.mul_def', Rat.mkRat_eq_div]
  rfl
theorem less_q (q r : Rat) {a b : Nat} [x : SmQ q a] [y : SmQ r b] (h : a + b < 9000) : m_is_less (fq q) (fq r) = pu (.bool (decide (q < r))) := by
  have := smi_num q
  have := smi_num r
  have := smi_den q
  have := smi_den r
  unfold fq
  rw [is_less_ok q.num q.den r.num r.den (by omega) (by omega)]
  simp only [Rat.lt_iff]
theorem lowest_q (a b : Int) {k : Nat} [s : SmI b k] (h : 0 < b) (hk : k < 9000) : m_lowest (.int a) (.int b) = pu (fq ((a : Rat) / (b : Rat))) := by
  rw [lowest_ok a b (by omega) hk, fq_low h]
theorem sum_loop {L : Type} {k : Nat} : ∀ (l : List Rat) (z : Rat) (m : Nat), SmQ z m → (∀ q ∈ l, SmQ q k) → m + (k + 1) * l.length < 8000 → fo (L := L) m_sum_of_b1 (l.map fq) (fq z) = pu (.nx (fq (l.foldl (· + ·) z)))
  | [], z, m, _, _, _ => rfl
  | q :: l, z, m, hz, hl, hm => by
    have h1 := hl q List.mem_cons_self
    have e : m + (k + 1) * (l.length + 1) = m + k + 1 + (k + 1) * l.length := by rw [Nat.mul_succ]; omega
    rw [List.length_cons, e] at hm
    have : m_sum_of_b1 (fq z) (fq q) = pu (.nx (fq (z + q))) := by
      unfold m_sum_of_b1
      simp only [u1, li_some, bd_pu, x1, plus_q z q (by omega : m + k < 9000)]
    rw [List.map_cons, fo, this, bd_pu]
    exact sum_loop l (z + q) (m + k + 1) (smq_add z q m k) (fun r hr => hl r (List.mem_cons_of_mem _ hr)) (by omega)
theorem sum_of_q {k : Nat} {l : List Rat} (h : ∀ q ∈ l, SmQ q k) (hk : (k + 1) * l.length < 7000) : m_sum_of (.list (l.map fq)) = pu (fq (qsum l)) := by
  have q := sum_loop (L := Empty) l 0 1 smq_zero h (by omega)
  rw [qsum_foldl, Rat.zero_add] at q
  unfold m_sum_of
  simp only [bd_pu, dLst_l, li_some]
  rw [show (PyData.tuple [.int 0, .int 1]) = fq 0 from rfl, q]
  simp only [sq_nx, bd_pu, fe_rt]
theorem prod_loop {L : Type} {k : Nat} : ∀ (l : List Rat) (z : Rat) (m : Nat), SmQ z m → (∀ q ∈ l, SmQ q k) → m + k * l.length < 8000 → fo (L := L) m_product_of_b1 (l.map fq) (fq z) = pu (.nx (fq (l.foldl (· * ·) z)))
  | [], z, m, _, _, _ => rfl
  | q :: l, z, m, hz, hl, hm => by
    have h1 := hl q List.mem_cons_self
    have e : m + k * (l.length + 1) = m + k + k * l.length := by rw [Nat.mul_succ]; omega
    rw [List.length_cons, e] at hm
    have : m_product_of_b1 (fq z) (fq q) = pu (.nx (fq (z * q))) := by
      unfold m_product_of_b1
      simp only [u1, li_some, bd_pu, x1, times_q z q (by omega : m + k < 9000)]
    rw [List.map_cons, fo, this, bd_pu]
    exact prod_loop l (z * q) (m + k) (smq_mul z q m k) (fun r hr => hl r (List.mem_cons_of_mem _ hr)) (by omega)
theorem product_of_q {k : Nat} {l : List Rat} (h : ∀ q ∈ l, SmQ q k) (hk : k * l.length < 7000) : m_product_of (.list (l.map fq)) = pu (fq (qprod l)) := by
  have q := prod_loop (L := Empty) l 1 1 smq_one h (by omega)
  rw [qprod_foldl, Rat.one_mul] at q
  unfold m_product_of
  simp only [bd_pu, dLst_l, li_some]
  rw [show (PyData.tuple [.int 1, .int 1]) = fq 1 from rfl, q]
  simp only [sq_nx, bd_pu, fe_rt]
theorem left_q (q : Rat) {k : Nat} [x : SmQ q k] (h : k < 9000) : m_what_is_left (fq q) = pu (fq (1 - q)) := by
  have := smi_den q
  have h1 := den_pos q
  unfold m_what_is_left fq
  simp only [bd_pu, dIdx_t0, dIdx_t1, li_some, dSub_i, lowest_q (q.den - q.num) q.den h1 h, fe_rt]
  have e : ((q.den : Int) - q.num : Int) / ((q.den : Int) : Rat) = (1 - q : Rat) := by
    have h2 : ((q.den : Int) : Rat) ≠ 0 := by
      rw [Ne, Rat.intCast_eq_zero_iff]
      omega
    have h3 := rat_nd q
    rw [Rat.intCast_sub]
    grind
  rw [← e]
  rfl
/-! the law's own -/
theorem law_low_ok (a b : Int) {k : Nat} [s : SmI b k] (h : 0 < b) (hk : k < 9000) : m__law_b_low (.int a) (.int b) = pu (fq ((a : Rat) / (b : Rat))) := by
  have hb : b ≠ 0 := by omega
  have e : (b : Int) = (b.natAbs : Int) := by omega
  rw [← fq_low h]
  unfold m__law_b_low
  have z : wh (L := Empty) m__law_b_low_b1 m__law_b_low_b2 (.int a.natAbs, .int b) = pu (.nx (.int (Int.gcd a b), .int 0)) := by
    conv => lhs; rw [e]
    have q := gcd_loop (L := Empty) b.natAbs a.natAbs
    rw [Nat.gcd_comm] at q
    exact q
  simp only [bd_pu, g1, dAbs, li_some, abs_eq, z, sq_nx, dDiv_i (gcd_pos hb) (gcd_log hb hk), fe_rt]
  rfl
theorem sh_fq (q : Rat) : Sh 2 (fq q) := sh_intt [q.num, q.den]
theorem dEq_fq (q r : Rat) : dEq (fq q) (fq r) = some (decide (q = r)) := by
  show dEq (tR [q.num, q.den]) (tR [r.num, r.den]) = _
  rw [dEq_tR]
  congr 1
  apply decide_eq_decide.mpr
  constructor
  · intro h
    simp at h
    exact Rat.ext h.1 (by omega)
  · intro h; rw [h]
theorem dNe_fq (q r : Rat) : dNe (fq q) (fq r) = some (!decide (q = r)) := by
  unfold dNe
  rw [dEq_fq]
  rfl
theorem low_fq (q : Rat) {k : Nat} [x : SmQ q k] (hk : k < 9000) : m__law_b_low (.int q.num) (.int q.den) = pu (fq q) := by
  have := smi_den q
  rw [law_low_ok q.num q.den (den_pos q) hk]
  congr 2
  exact (rat_nd q).symm
theorem law_whole_ok (i : Int) : m__law_b_whole (.int i) = pu (.bool true) := by
  unfold m__law_b_whole
  simp
theorem is_frac_q (q : Rat) {k : Nat} [x : SmQ q k] (hk : k < 9000) : m__law_b_is_fraction (fq q) = pu (.bool true) := by
  have h1 := dEq_fq q q
  have h2 := low_fq q hk
  have n : dNe (.int ((2 : Nat) : Int)) (.int 2) = some false := by rfl
  unfold fq at h1 h2 ⊢
  unfold m__law_b_is_fraction
  simp [g1, n, den_pos q, q.den_pos, h2, h1, law_whole_ok]
theorem law_less_q (q r : Rat) {a b : Nat} [x : SmQ q a] [y : SmQ r b] (h : a + b < 9000) : m__law_b_less (fq q) (fq r) = pu (.bool (decide (q < r))) := by
  have := smi_num q
  have := smi_num r
  have := smi_den q
  have := smi_den r
  unfold fq m__law_b_less
  simp only [bd_pu, dIdx_t0, dIdx_t1, li_some, dMul_i (mulOk q.num (r.den : Int) (by omega)), dMul_i (mulOk r.num (q.den : Int) (by omega)), dLt_i, Option.map_some, fe_rt, Rat.lt_iff]
theorem law_sum_loop {L : Type} {k : Nat} : ∀ (l : List (Int × Int)) (z : Rat) (m : Nat), SmQ z m → (∀ p ∈ l, SmI p.1 k ∧ SmI p.2 k ∧ 0 < p.2) → m + (k + 1) * l.length < 8000 →
    fo (L := L) m__law_b_sum_b1 (l.map fun p => fr p.1 p.2) (.int z.num, .int z.den) = pu (.nx (.int ((l.map fun p => (p.1 : Rat) / (p.2 : Rat)).foldl (· + ·) z).num, .int ((l.map fun p => (p.1 : Rat) / (p.2 : Rat)).foldl (· + ·) z).den))
  | [], z, m, _, _, _ => rfl
  | p :: l, z, m, hz, hl, hm => by
    obtain ⟨h1, h2, h3⟩ := hl p List.mem_cons_self
    have e : m + (k + 1) * (l.length + 1) = m + k + 1 + (k + 1) * l.length := by rw [Nat.mul_succ]; omega
    rw [List.length_cons, e] at hm
    have := smi_num z
    have := smi_den z
    have zp := den_pos z
    have hz0 : ((z.den : Int) : Rat) ≠ 0 := by rw [Ne, Rat.intCast_eq_zero_iff]; omega
    have hp0 : ((p.2 : Int) : Rat) ≠ 0 := by rw [Ne, Rat.intCast_eq_zero_iff]; omega
    have eq : ((z.num * p.2 + p.1 * z.den : Int) : Rat) / (((z.den : Int) * p.2 : Int) : Rat) = z + (p.1 : Rat) / (p.2 : Rat) := by
      rw [Rat.intCast_add, Rat.intCast_mul, Rat.intCast_mul, Rat.intCast_mul]
      have := rat_nd z
      grind
    have : m__law_b_sum_b1 (.int z.num, .int z.den) (fr p.1 p.2) = pu (.nx (.int (z + (p.1 : Rat) / (p.2 : Rat)).num, .int (z + (p.1 : Rat) / (p.2 : Rat)).den)) := by
      unfold m__law_b_sum_b1
      simp only [uN, List.length_cons, List.length_nil, if_true, li_some, bd_pu, x2, dMul_i (mulOk z.num p.2 (by omega)), dMul_i (mulOk p.1 (z.den : Int) (by omega)), dMul_i (mulOk (z.den : Int) p.2 (by omega)), dAdd_i,
        law_low_ok _ ((z.den : Int) * p.2) (Int.mul_pos zp h3) (by omega), eq]
      simp [fq, x2]
    rw [List.map_cons, fo, this, bd_pu]
    have sq1 : SmQ ((p.1 : Rat) / (p.2 : Rat)) k := smq_div h3 h1.h h2.h
    exact law_sum_loop l (z + (p.1 : Rat) / (p.2 : Rat)) (m + k + 1) (smq_add z _ m k) (fun r hr => hl r (List.mem_cons_of_mem _ hr)) (by omega)
theorem law_sum_q {k : Nat} {l : List (Int × Int)} (h : ∀ p ∈ l, SmI p.1 k ∧ SmI p.2 k ∧ 0 < p.2) (hk : (k + 1) * l.length < 7000) : m__law_b_sum (.list (l.map fun p => fr p.1 p.2)) = pu (fq (qsum (l.map fun p => (p.1 : Rat) / (p.2 : Rat)))) := by
  have q := law_sum_loop (L := Empty) l 0 1 smq_zero h (by omega)
  rw [qsum_foldl, Rat.zero_add] at q
  unfold m__law_b_sum
  simp only [bd_pu, dLst_l, li_some]
  have q2 : fo (L := Empty) m__law_b_sum_b1 (l.map fun p => fr p.1 p.2) (.int 0, .int 1) = _ := q
  rw [q2]
  simp only [sq_nx, bd_pu, fe_rt]
  rfl
end Q


set_option maxRecDepth 100000
set_option maxHeartbeats 4000000
namespace Q
open DL PySem PySem.Spec PyProof.Rows L2

/-! the tape of the b-laws: how many have been taken (at most k) -/
def TB (ns : List Int) (k : Nat) (τ : T) : Prop := ∃ (a : Nat) (v : Int), τ = [[scr ns, .int a, .int v]] ∧ a ≤ k
theorem TB.mono {ns : List Int} {k k' : Nat} {τ : T} (h : TB ns k τ) (l : k ≤ k') : TB ns k' τ := let ⟨a, v, e, q⟩ := h; ⟨a, v, e, Nat.le_trans q l⟩
theorem mixedB_ok (c : Int) (a : Nat) (h : a < 2 ^ 64) : ∃ r : Int, m__law_b_mixed (.int c) (.int a) = pu (.int r) := by
  have sa : SmI (a : Int) 64 := smNat h
  unfold m__law_b_mixed
  by_cases hc : (10 : Int) ^ Int.toNat 18 ≤ c
  · refine ⟨c, ?_⟩
    simp (disch := decide) only [dPow_i, hc, bd_pu, li_some, dGe_i, decide_true, if_true, fe_rt]
  · simp (disch := first | exact mulOk _ _ | decide) only [dPow_i, hc, dMod_i, dMul_i, dAdd_i, bd_pu, li_some, fe_rt, dGe_i, decide_false, if_neg, Bool.false_eq_true, if_false]
    exact ⟨_, rfl⟩
theorem takeB {ns : List Int} {k : Nat} {τ : T} {m : Int} (h : TB ns k τ) (hk : k < 2 ^ 63) (hm : 0 < m) (hm' : m.natAbs.log2 < 9000) (hns : ns.length ≤ 63) : Tri (m__law_b_take 0 (.int m)) τ fun d τ' => ∃ r : Int, d = .int r ∧ 0 ≤ r ∧ r < m ∧ TB ns (k + 1) τ' := by
  obtain ⟨a, v, rfl, ha⟩ := h
  have sa : SmI (a : Int) 63 := smNat (by omega)
  have fin : ∀ v' : Int, ∃ r : Int, PyData.int (v' % m) = .int r ∧ 0 ≤ r ∧ r < m := fun v' => ⟨_, rfl, Int.emod_nonneg _ (by omega), Int.emod_lt_of_pos _ hm⟩
  unfold m__law_b_take
  simp only [tri_fe, tri_sq, tri_bd, tri_pu, tri_mget0, dIdx_l2, li_some, dLt_i, tri_ite, decide_eq_true_eq]
  by_cases hv : v < m
  · rw [if_pos hv]
    simp (disch := first | exact mulOk _ _ | decide) only [tri_sq, tri_bd, tri_pu, tri_mget0, dIdx_l0, dIdx_l1, dIdx_l2, li_some, dLt_i, tri_ite, dMul_i, dAdd_i, g1, dLen_s, decide_eq_true_eq]
    have len0 : (0 : Int) < ns.length ∨ ns = [] := by
      cases ns with
      | nil => exact .inr rfl
      | cons x l => exact .inl (by simp)
    by_cases h1 : (a : Int) < ns.length
    · rw [if_pos h1]
      obtain ⟨c, hc⟩ : ∃ c, ns[a]? = some c := ⟨ns[a]'(by omega), List.getElem?_eq_getElem (by omega)⟩
      obtain ⟨r, hr⟩ := mixedB_ok c a (by omega)
      simp only [dIdx_s hc, li_some, tri_pu, sqk_nx, tri_bd, tri_mget0, tri_mput0, dAdd_i, setD1, setD2, hr, dIdx_l2, dMod_i hm, dDiv_i hm hm', feQ_rt]
      obtain ⟨q, e, g1, g2⟩ := fin r
      exact ⟨by simp, by simp, by simp, q, e, g1, g2, a + 1, _, rfl, by omega⟩
    · rw [if_neg h1]
      rcases len0 with h2 | h2
      · obtain ⟨c, hc⟩ : ∃ c, ns[((a : Int) * 11 % ns.length).toNat]? = some c := ⟨ns[((a : Int) * 11 % ns.length).toNat]'(by
          have := Int.emod_lt_of_pos ((a : Int) * 11) h2
          have := Int.emod_nonneg ((a : Int) * 11) (b := ns.length) (by omega)
          omega), List.getElem?_eq_getElem _⟩
        have hc' : dIdx (scr ns) (.int ((a : Int) * 11 % ns.length)) = some (.int c) := by
          have e : ((a : Int) * 11 % ns.length) = ((((a : Int) * 11 % ns.length).toNat : Nat) : Int) := by
            have := Int.emod_nonneg ((a : Int) * 11) (b := ns.length) (by omega)
            omega
          rw [e]
          exact dIdx_s hc
        obtain ⟨r, hr⟩ := mixedB_ok (c % 1000033 + a * 1000081) a (by omega)
        have ne : dNe (scr ns) (.list []) = some true := by
          cases ns with
          | nil => simp at h2
          | cons x l => exact dNe_scr_nil _
        simp (disch := first | exact mulOk _ _ | decide | assumption) only [ne, if_true, dMod_i, dMul_i, hc', li_some, tri_pu, sqk_nx, tri_bd, tri_mget0, tri_mput0, dAdd_i, setD1, setD2, hr, dIdx_l0, dLen_s, g1, dIdx_l2, dMod_i hm, dDiv_i hm hm', feQ_rt]
        obtain ⟨q, e, g1, g2⟩ := fin r
        exact ⟨by simp, by simp, by simp, q, e, g1, g2, a + 1, _, rfl, by omega⟩
      · subst h2
        obtain ⟨r, hr⟩ := mixedB_ok (17 * a + 5) a (by omega)
        have ne : dNe (scr []) (.list []) = some false := by rfl
        simp (disch := first | exact mulOk _ _ | decide | assumption) only [ne, Bool.false_eq_true, if_false, dMod_i, dMul_i, li_some, tri_pu, sqk_nx, tri_bd, tri_mget0, tri_mput0, dAdd_i, setD1, setD2, hr, dIdx_l0, dLen_s, g1, dIdx_l2, dMod_i hm, dDiv_i hm hm', feQ_rt]
        obtain ⟨q, e, g1, g2⟩ := fin r
        exact ⟨by simp, by simp, by simp, q, e, g1, g2, a + 1, _, rfl, by omega⟩
  · rw [if_neg hv]
    simp only [tri_pu, sqk_nx, tri_bd, tri_mget0, dIdx_l2, li_some, dMod_i hm, dDiv_i hm hm', setD2, tri_mput0, feQ_rt]
    refine ⟨by simp, ?_⟩
    obtain ⟨r, e, h1, h2⟩ := fin v
    exact ⟨r, e, h1, h2, a, _, rfl, by omega⟩
end Q


set_option maxRecDepth 100000
set_option maxHeartbeats 4000000
namespace Q
open DL PySem PySem.Spec PyProof.Rows L2 RZ

/-! boards and signs -/
def dot (r s : List Int) : Int := (List.zipWith (· * ·) r s).sum
def sqs (r : List Int) : Int := (r.map fun x => x * x).sum
/-- a row's squares, s begun -/
def rsq (r s : List Int) : Int := dot r s * dot r s + sqs (r.drop s.length)
def bsq (b : List (List Int)) (s : List Int) : Int := (b.map fun r => rsq r s).sum
/-- a board of wide columns -/
structure Bd (b : List (List Int)) (w : Nat) : Prop where
  len : b.length ≤ 8
  wide : w ≤ 10
  row : ∀ r ∈ b, r.length = w
  num : ∀ r ∈ b, ∀ x ∈ r, -9 ≤ x ∧ x ≤ 9
  nil : b = [] → w = 0
structure Sg (s : List Int) : Prop where
  one : ∀ x ∈ s, x = 1 ∨ x = -1
theorem is_whole_ok (i : Int) : m_is_whole (.int i) = pu (.bool true) := by
  unfold m_is_whole
  simp
theorem whole_ok (i : Int) : m__law_b_whole (.int i) = pu (.bool true) := by
  unfold m__law_b_whole
  simp
theorem is_row_ok {r : List Int} {w : Nat} (hr : r.length = w) (hn : ∀ x ∈ r, -9 ≤ x ∧ x ≤ 9) : m_is_row (.int w) (tR r) = pu (.bool true) := by
  unfold m_is_row
  simp only [bd_pu, isI_tt, dTru_b, li_some, Bool.not_true, Bool.false_eq_true, if_false, g1, dLen_t, List.length_map, hr, dNe_i, decide_true, dLst_t]
  rw [mf_map (c := PyData.int) (g := fun _ => .bool true) (fun x _ => rfl) fun x m => by
    have h := hn x m
    simp [u1, x1, is_whole_ok, h.1, h.2]]
  simp only [bd_pu, dAll_true, li_some, fe_rt]
theorem dEq_tB_nil (b : List (List Int)) : dEq (tB b) (.tuple []) = some (decide (b = [])) := by
  rw [dEq_tt ((sh_tB b).mono (by decide)) (sh_tnil.mono (by decide))]
  cases b with
  | nil => rfl
  | cons r b => simp [PyData.eqvAll]
theorem columns_ok {b : List (List Int)} {w : Nat} (h : Bd b w) : m_columns_of (tB b) = pu (.int w) := by
  unfold m_columns_of
  simp only [bd_pu, dEq_tB_nil, li_some, decide_eq_true_eq]
  cases b with
  | nil => simp [h.nil rfl]
  | cons r b =>
    have e := h.row r List.mem_cons_self
    simp [g1, e, DL.tB, DL.tR]
theorem is_board_ok {b : List (List Int)} {w : Nat} (h : Bd b w) : m_is_board (tB b) = pu (.bool true) := by
  have h1 := h.len
  have h2 := h.wide
  have n8 : ¬ (8 : Int) < (b.length : Int) := by omega
  have n10 : (w : Int) ≤ 10 := by omega
  unfold m_is_board
  simp only [bd_pu, isI_tt, dTru_b, li_some, Bool.not_true, Bool.false_eq_true, if_false, g1, dLen_t, List.length_map, dGt_i, dLst_t, n8, decide_false]
  rw [mf_map (c := tR) (g := fun _ => .bool true) (fun x _ => rfl) fun x m => by simp [u1, x1]]
  simp only [bd_pu, dAll_true, li_some, dTru_b, Bool.not_true, Bool.false_eq_true, if_false, columns_ok h, dLe_i, n10, decide_true, Option.map_some, tb_bool, if_true]
  rw [mf_map (c := tR) (g := fun _ => .bool true) (fun x _ => rfl) fun x m => by
    show m_is_row (.int w) (tR x) = _
    exact is_row_ok (h.row x m) (h.num x m)]
  simp only [bd_pu, dAll_true, li_some, fe_rt]
theorem need_board_ok {b : List (List Int)} {w : Nat} (h : Bd b w) : m_need_board (tB b) = pu .none := by
  unfold m_need_board
  simp [is_board_ok h]
theorem need_signs_ok {b : List (List Int)} {w : Nat} (h : Bd b w) {s : List Int} (hs : Sg s) (hl : s.length ≤ w) : m_need_signs (tB b) (tR s) = pu .none := by
  have n : ¬ (w : Int) < (s.length : Int) := by omega
  unfold m_need_signs
  simp only [bd_pu, isI_tt, dTru_b, li_some, Bool.not_true, Bool.false_eq_true, if_false, g1, dLen_t, List.length_map, dGt_i, columns_ok h, n, decide_false, dLst_t]
  rw [mf_map (c := PyData.int) (g := fun _ => .bool true) (fun x _ => rfl) fun x m => by
    have e : dIn (.int x) (.tuple [.int 1, .int (-1)]) = some true := by
      rcases hs.one x m with rfl | rfl <;> rfl
    simp [u1, x1, is_whole_ok, e]]
  simp only [bd_pu, dAll_true, li_some, dTru_b, Bool.not_true, Bool.false_eq_true, if_false, fe_nx]
/-! sums -/
theorem dot_bound {r s : List Int} (hr : ∀ x ∈ r, -9 ≤ x ∧ x ≤ 9) (hs : Sg s) : (dot r s).natAbs ≤ 9 * r.length := by
  unfold dot
  induction r generalizing s with
  | nil => simp
  | cons x r ih =>
    cases s with
    | nil => simp
    | cons y s =>
      have h1 := hr x List.mem_cons_self
      have h2 := hs.one y List.mem_cons_self
      have h3 := ih (s := s) (fun z m => hr z (List.mem_cons_of_mem _ m)) ⟨fun z m => hs.one z (List.mem_cons_of_mem _ m)⟩
      rw [List.zipWith_cons_cons, List.sum_cons, List.length_cons]
      have h4 : (x * y).natAbs ≤ 9 := by
        rcases h2 with rfl | rfl <;> omega
      omega
theorem zip_map (r s : List Int) : List.zipWith (fun a b => PyData.tuple [a, b]) (r.map .int) (s.map .int) = (r.zip s).map fun p => PyData.tuple [.int p.1, .int p.2] := by
  rw [List.zip, List.map_zipWith, List.zipWith_map]
theorem dot_zip (r s : List Int) : ((r.zip s).map fun p => p.1 * p.2).sum = dot r s := by
  unfold dot
  rw [List.zip, List.map_zipWith]
theorem mulsm {x y : Int} (hx : -9 ≤ x ∧ x ≤ 9) (hy : y = 1 ∨ y = -1) : dMul (.int x) (.int y) = some (.int (x * y)) := by
  have : SmI x 4 := smOf (by omega) (by omega)
  have : SmI y 4 := smOf (by omega) (by omega)
  exact dMul_i (mulOk x y)
theorem sqsm {x : Int} (hx : x.natAbs < 2 ^ 1000) : dMul (.int x) (.int x) = some (.int (x * x)) := by
  have : SmI x 1000 := ⟨hx⟩
  exact dMul_i (mulOk x x)
theorem begun_sum_ok {r s : List Int} (hr : ∀ x ∈ r, -9 ≤ x ∧ x ≤ 9) (hs : Sg s) : m_begun_sum (tR r) (tR s) = pu (.int (dot r s)) := by
  unfold m_begun_sum
  simp only [bd_pu, dZip, li_some, zip_map]
  rw [mf_map (c := fun p : Int × Int => PyData.tuple [.int p.1, .int p.2]) (g := fun p => .int (p.1 * p.2)) (fun x _ => rfl) fun p m => by
    have h1 := hr p.1 (List.of_mem_zip m).1
    have h2 := hs.one p.2 (List.of_mem_zip m).2
    simp [uN, x2, mulsm h1 h2]]
  simp only [bd_pu, g1, dSum_mapf (fun p : Int × Int => p.1 * p.2), li_some, fe_rt, dot_zip]
theorem small_dot {r s : List Int} (hr : ∀ x ∈ r, -9 ≤ x ∧ x ≤ 9) (hs : Sg s) (hl : r.length ≤ 10) : (dot r s).natAbs < 2 ^ 1000 := by
  have h := dot_bound hr hs
  have : (2 : Nat) ^ 10 ≤ 2 ^ 1000 := Nat.pow_le_pow_right (by decide) (by decide)
  omega
theorem small_num {x : Int} (hx : -9 ≤ x ∧ x ≤ 9) : x.natAbs < 2 ^ 1000 := by
  have : (2 : Nat) ^ 10 ≤ 2 ^ 1000 := Nat.pow_le_pow_right (by decide) (by decide)
  omega
theorem row_squares_ok {r s : List Int} (hr : ∀ x ∈ r, -9 ≤ x ∧ x ≤ 9) (hs : Sg s) (hl : r.length ≤ 10) : m_row_squares (tR r) (tR s) = pu (.int (rsq r s)) := by
  unfold m_row_squares
  simp only [bd_pu, begun_sum_ok hr hs, sqsm (small_dot hr hs hl), li_some, g1, dLen_t, List.length_map, oInt_i, dCut, cut_from, ← List.map_drop, dLst_t]
  rw [mf_map (c := PyData.int) (g := fun x => .int (x * x)) (fun x _ => rfl) fun x m => by
    have h := small_num (hr x (List.mem_of_mem_drop m))
    simp [u1, x1, sqsm h]]
  simp only [bd_pu, dSum_mapf (fun x : Int => x * x), li_some, dAdd_i, fe_rt]
  rfl
theorem squares_in_ok {b : List (List Int)} {w : Nat} (h : Bd b w) {s : List Int} (hs : Sg s) : m_squares_in (tB b) (tR s) = pu (.int (bsq b s)) := by
  unfold m_squares_in
  simp only [bd_pu, dLst_t, li_some]
  rw [mf_map (c := tR) (g := fun r => .int (rsq r s)) (fun x _ => rfl) fun r m => by
    show m_row_squares (tR r) (tR s) = _
    exact row_squares_ok (h.num r m) hs (by rw [h.row r m]; exact h.wide)]
  simp only [bd_pu, g1, dSum_mapf (fun r => rsq r s), li_some, fe_rt]
  rfl
theorem squares_ok {b : List (List Int)} {w : Nat} (h : Bd b w) {s : List Int} (hs : Sg s) (hl : s.length ≤ w) : m_squares (tB b) (tR s) = pu (.int (bsq b s)) := by
  unfold m_squares
  simp only [bd_pu, need_board_ok h, need_signs_ok h hs hl, squares_in_ok h hs, fe_rt]
/-! the law's own -/
def accF {α : Type} (f : α → Int) : D → α → D
  | .int t, x => .int (t + f x)
  | s, _ => s
theorem foldl_sum {α : Type} (f : α → Int) : ∀ (xs : List α) (z : Int), xs.foldl (accF f) (PyData.int z) = .int (z + (xs.map f).sum)
  | [], z => by simp
  | x :: xs, z => by
    rw [List.foldl_cons]
    show xs.foldl _ (PyData.int (z + f x)) = _
    rw [foldl_sum f xs (z + f x), List.map_cons, List.sum_cons]
    congr 1
    omega
/-- a loop that adds -/
theorem fo_sum {α L : Type} {body : D → D → M (Fl D D)} {c : α → D} {f : α → Int} {xs : List α} {z : Int} (h : ∀ (t : Int), ∀ x ∈ xs, body (.int t) (c x) = pu (.nx (.int (t + f x)))) : fo (L := L) body (xs.map c) (.int z) = pu (.nx (.int (z + (xs.map f).sum))) := by
  have q := fo_map (L := L) (body := body) (c := c) (G := accF f) (fun s => ∃ t : Int, s = .int t) (xs := xs) (s := .int z) ⟨z, rfl⟩ fun s x m ⟨t, e⟩ => by
    subst e
    exact ⟨h t x m, _, rfl⟩
  rw [foldl_sum] at q
  exact q.1
theorem row_sum_ok {r s : List Int} (hr : ∀ x ∈ r, -9 ≤ x ∧ x ≤ 9) (hs : Sg s) : m__law_b_row_sum (tR r) (tR s) = pu (.int (dot r s)) := by
  unfold m__law_b_row_sum
  simp only [bd_pu, dZip, li_some, zip_map]
  rw [fo_sum (f := fun p : Int × Int => p.1 * p.2) fun t p m => by
    have h1 := hr p.1 (List.of_mem_zip m).1
    have h2 := hs.one p.2 (List.of_mem_zip m).2
    unfold m__law_b_row_sum_b1
    simp [uN, x2, mulsm h1 h2]]
  simp only [sq_nx, bd_pu, fe_rt, dot_zip, Int.zero_add]
theorem law_squares_ok {b : List (List Int)} {w : Nat} (h : Bd b w) {s : List Int} (hs : Sg s) : m__law_b_squares (tB b) (tR s) = pu (.int (bsq b s)) := by
  unfold m__law_b_squares
  simp only [bd_pu, dLst_t, li_some]
  rw [fo_sum (f := fun r => rsq r s) fun t r m => by
    have hr := h.num r m
    have hl : r.length ≤ 10 := by rw [h.row r m]; exact h.wide
    unfold m__law_b_squares_b2
    simp only [u1, li_some, bd_pu, x1, row_sum_ok hr hs, sqsm (small_dot hr hs hl), dAdd_i, g1, dLen_t, List.length_map, oInt_i, dCut, cut_from, ← List.map_drop, dLst_t]
    rw [fo_sum (f := fun x : Int => x * x) fun u x m => by
      have h := small_num (hr x (List.mem_of_mem_drop m))
      unfold m__law_b_squares_b1
      simp [u1, x1, sqsm h]]
    simp only [sq_nx]
    rw [Int.add_assoc]
    rfl]
  simp only [sq_nx, bd_pu, fe_rt, Int.zero_add]
  rfl
theorem wide_ok {b : List (List Int)} {w : Nat} (h : Bd b w) : m__law_b_wide (tB b) = pu (.int w) := by
  have h1 := h.len
  unfold m__law_b_wide
  simp only [bd_pu]
  rw [dAdd_tt (by simp; omega)]
  cases b with
  | nil => simp [g1, h.nil rfl]
  | cons r b =>
    have e := h.row r List.mem_cons_self
    simp [g1, e, DL.tB, DL.tR]
/-! drawn ones -/
theorem number_ok {ns : List Int} {k : Nat} {τ : T} {kind : Int} (h : TB ns k τ) (hk : k < 2 ^ 60) (hns : ns.length ≤ 63) : Tri (m__law_b_number 0 (.int kind)) τ fun d τ' => ∃ r : Int, d = .int r ∧ (-9 ≤ r ∧ r ≤ 9) ∧ TB ns (k + 2) τ' := by
  unfold m__law_b_number
  simp only [tri_fe, tri_bd, tri_pu, dEq_i, li_some, tri_ite, decide_eq_true_eq]
  split
  · refine (takeB h (by omega) (by decide) (by decide +kernel) hns).mono ?_
    rintro _ τ1 ⟨r, rfl, h0, h1, t1⟩
    simp only [dSub_i, li_some, tri_pu, feQ_rt]
    exact ⟨_, rfl, by omega, t1.mono (by omega)⟩
  · split
    · refine (takeB h (by omega) (by decide) (by decide +kernel) hns).mono ?_
      rintro _ τ1 ⟨r, rfl, h0, h1, t1⟩
      simp only [dSub_i, li_some, tri_pu, feQ_rt]
      exact ⟨_, rfl, by omega, t1.mono (by omega)⟩
    · split
      · refine (takeB h (by omega) (by decide) (by decide +kernel) hns).mono ?_
        rintro _ τ1 ⟨r, rfl, h0, h1, t1⟩
        have : SmI r 4 := smOf (by omega) (by omega)
        simp only [dMul_i (mulOk 18 r), dSub_i, li_some, tri_pu, feQ_rt]
        exact ⟨_, rfl, by omega, t1.mono (by omega)⟩
      · refine (takeB h (by omega) (by decide) (by decide +kernel) hns).mono ?_
        rintro _ τ1 ⟨r, rfl, h0, h1, t1⟩
        simp only [dSub_i, li_some, tri_pu]
        refine (takeB t1 (by omega) (by decide) (by decide +kernel) hns).mono ?_
        rintro _ τ2 ⟨u, rfl, u0, u1, t2⟩
        have : SmI (r - 9) 5 := smOf (by omega) (by omega)
        simp only [dEq_i, Option.map_some, li_some, tri_pu, g1, dInt]
        by_cases hu : u = 0
        · simp only [hu, decide_true, if_true, dMul_i (mulOk (r - 9) 1), li_some, tri_pu, feQ_rt]
          exact ⟨_, rfl, by omega, t2⟩
        · simp only [hu, decide_false, Bool.false_eq_true, if_false, dMul_i (mulOk (r - 9) 0), li_some, tri_pu, feQ_rt]
          exact ⟨_, rfl, by omega, t2⟩
theorem rng_len (n : Nat) : ((List.range n).map fun (i : Nat) => (PyData.int i)).length = n := by simp
theorem board_ok {ns : List Int} {k : Nat} {τ : T} {rows cols : Nat} (h : TB ns k τ) (hk : k < 2 ^ 50) (hns : ns.length ≤ 63) (h8 : rows ≤ 8) (h10 : cols ≤ 10) : Tri (m__law_b_board 0 (.int rows) (.int cols)) τ fun d τ' => ∃ (b : List (List Int)) (w : Nat), d = tB b ∧ Bd b w ∧ b.length ≤ rows ∧ w ≤ cols ∧ TB ns (k + 1000) τ' := by
  unfold m__law_b_board
  simp only [tri_fe, tri_bd, tri_pu, dAdd_i, li_some]
  refine (takeB h (by omega) (by omega) (Nat.lt_of_le_of_lt (log2_int (k := 63) (by omega) (by omega)) (by decide)) hns).mono ?_
  rintro _ τ1 ⟨many, rfl, m0, m1, t1⟩
  refine (takeB t1 (by omega) (by omega) (Nat.lt_of_le_of_lt (log2_int (k := 63) (by omega) (by omega)) (by decide)) hns).mono ?_
  rintro _ τ2 ⟨wide, rfl, w0, w1, t2⟩
  refine (takeB t2 (by omega) (by decide) (by decide +kernel) hns).mono ?_
  rintro _ τ3 ⟨kind, rfl, k0, k1, t3⟩
  simp only [dRng1_n (n := many) (by omega) (by omega), dRng1_n (n := wide) (by omega) (by omega), li_some, tri_pu]
  refine tri_mf (fun _ d => ∃ r : List Int, d = tR r ∧ r.length = wide.toNat ∧ ∀ x ∈ r, -9 ≤ x ∧ x ≤ 9) (fun i τ => TB ns (k + 3 + 20 * i) τ) _ (fun d => rfl) (by simpa using t3) ?_ ?_
  · intro i d τ4 hd t4
    obtain ⟨rfl, hi⟩ := rng_get hd
    simp only [u1, li_some, bd_pu, x1, tri_bd, g1, dRng1_n (n := wide) (by omega) (by omega), tri_pu]
    refine tri_mf (fun _ d => ∃ z : Int, d = .int z ∧ (-9 ≤ z ∧ z ≤ 9)) (fun j τ => TB ns (k + 3 + 20 * i + 2 * j) τ) _ (fun d => rfl) (by simpa using t4) ?_ ?_
    · intro j d τ5 hd t5
      obtain ⟨rfl, hj⟩ := rng_get hd
      refine (number_ok t5 (by omega) hns).mono ?_
      rintro _ τ6 ⟨r, rfl, hr, t6⟩
      exact ⟨⟨r, rfl, hr⟩, t6.mono (by omega)⟩
    · intro xs τ5 hl hp t5
      rw [rng_len] at hl t5
      obtain ⟨zs, rfl, hz⟩ := all_of (mem_of_get hp)
      simp only [tri_pu, tri_bd, dTup_l, li_some]
      exact ⟨⟨zs, rfl, by simpa using hl, hz⟩, t5.mono (by omega)⟩
  · intro xs τ4 hl hp t4
    rw [rng_len] at hl t4
    obtain ⟨b, rfl, hb⟩ := all_of (c := tR) (Z := fun r => r.length = wide.toNat ∧ ∀ x ∈ r, -9 ≤ x ∧ x ≤ 9) (mem_of_get hp)
    simp only [tri_pu, tri_bd, g1, dTup_l, li_some, feQ_rt]
    have hl : b.length = many.toNat := by simpa using hl
    by_cases hz : b = []
    · subst hz
      exact ⟨[], 0, rfl, ⟨by simp, by omega, by simp, by simp, fun _ => rfl⟩, by simp, by omega, t4.mono (by omega)⟩
    · exact ⟨b, wide.toNat, rfl, ⟨by omega, by omega, fun r m => (hb r m).1, fun r m => (hb r m).2, fun z => absurd z hz⟩, by omega, by omega, t4.mono (by omega)⟩
theorem signs_ok {ns : List Int} {k : Nat} {τ : T} {w : Nat} (h : TB ns k τ) (hk : k < 2 ^ 50) (hns : ns.length ≤ 63) (hw : w ≤ 10) : Tri (m__law_b_signs 0 (.int w)) τ fun d τ' => ∃ s : List Int, d = tR s ∧ Sg s ∧ s.length = w ∧ TB ns (k + 10) τ' := by
  unfold m__law_b_signs
  simp only [tri_fe, tri_bd, tri_pu, dRng1_n (n := (w : Int)) (by omega) (by omega), li_some, Int.toNat_natCast]
  refine tri_mf (fun _ d => ∃ z : Int, d = .int z ∧ (z = 1 ∨ z = -1)) (fun j τ => TB ns (k + j) τ) _ (fun d => rfl) (by simpa using h) ?_ ?_
  · intro j d τ5 hd t5
    obtain ⟨rfl, hj⟩ := rng_get hd
    simp only [u1, li_some, bd_pu, x1, tri_bd]
    refine (takeB t5 (by omega) (by decide) (by decide +kernel) hns).mono ?_
    rintro _ τ6 ⟨r, rfl, r0, r1, t6⟩
    have : SmI r 4 := smOf (by omega) (by omega)
    simp only [dMul_i (mulOk 2 r), dSub_i, li_some, tri_pu]
    exact ⟨⟨_, rfl, by omega⟩, t6⟩
  · intro xs τ5 hl hp t5
    rw [rng_len] at hl t5
    obtain ⟨zs, rfl, hz⟩ := all_of (mem_of_get hp)
    simp only [tri_pu, tri_bd, g1, dTup_l, li_some, feQ_rt]
    exact ⟨zs, rfl, ⟨hz⟩, by simpa using hl, t5.mono (by omega)⟩
end Q


set_option maxRecDepth 100000
set_option maxHeartbeats 4000000
namespace Q
open DL PySem PySem.Spec PyProof.Rows L2 RZ

/-! sheets -/
structure Wi where
  k : Bool
  w : Nat
  ps : List (Nat × List Nat)
def cI (n : Nat) : D := .int n
def tN (l : List Nat) : D := .tuple (l.map cI)
def tP (p : Nat × List Nat) : D := .tuple [cI p.1, tN p.2]
def tK (k : Bool) : D := .str (if k then "all" else "some")
def tW (w : Wi) : D := .tuple [tK w.k, cI w.w, .tuple (w.ps.map tP)]
def tS (ways : List Nat) (ws : List Wi) : D := .tuple [tN ways, .tuple (ws.map tW)]
structure OkP (ways : List Nat) (p : Nat × List Nat) : Prop where
  lt : p.1 < ways.length
  be : ∀ x ∈ p.2, x < ways.getD p.1 0
  up : p.2.Pairwise (· < ·)
structure OkW (ways : List Nat) (w : Wi) : Prop where
  le : w.w ≤ 99
  ps : ∀ p ∈ w.ps, OkP ways p
  up : (w.ps.map Prod.fst).Pairwise (· < ·)
structure OkWays (ways : List Nat) : Prop where
  len : ways.length ≤ 10
  lo : ∀ n ∈ ways, 1 ≤ n
  hi : ∀ n ∈ ways, n ≤ 4
structure OkS (ways : List Nat) (ws : List Wi) : Prop where
  wy : OkWays ways
  len : ws.length ≤ 16
  ok : ∀ w ∈ ws, OkW ways w
structure OkB (ways begun : List Nat) : Prop where
  len : begun.length ≤ ways.length
  be : ∀ i, i < begun.length → begun.getD i 0 < ways.getD i 0
theorem dIdx_tm {α : Type} {f : α → D} {l : List α} {i : Nat} {x : α} (h : l[i]? = some x) : dIdx (.tuple (l.map f)) (.int i) = some (f x) := dIdx_t (by simp [h])
theorem dIdx_lm {α : Type} {f : α → D} {l : List α} {i : Nat} {x : α} (h : l[i]? = some x) : dIdx (.list (l.map f)) (.int i) = some (f x) := dIdx_l (by simp [h])
theorem get_D {l : List Nat} {i : Nat} (h : i < l.length) : l[i]? = some (l.getD i 0) := by
  rw [List.getElem?_eq_getElem h, List.getD_eq_getElem?_getD, List.getElem?_eq_getElem h]
  rfl
theorem dIdx_tN {l : List Nat} {i : Nat} (h : i < l.length) : dIdx (tN l) (cI i) = some (cI (l.getD i 0)) := dIdx_tm (get_D h)
theorem dLen_tN (l : List Nat) : dLen (tN l) = some (cI l.length) := by simp [tN, cI]
theorem dLen_ws (ws : List Wi) : dLen (.tuple (ws.map tW)) = some (cI ws.length) := by simp [cI]
theorem is_below_ok {a b : Nat} (h : a < b) : m_is_below (cI a) (cI b) = pu (.bool true) := by
  unfold m_is_below cI
  have h1 : (0 : Int) ≤ a := by omega
  have h2 : (a : Int) < b := by omega
  simp only [bd_pu, is_whole_ok, tb_bool, if_true, dLe_i, dLt_i, li_some, h1, h2, decide_true, Option.map_some, fe_rt]
theorem are_ways_ok {ways : List Nat} (h : OkWays ways) : m_are_ways (tN ways) = pu (.bool true) := by
  have n : ¬ (10 : Int) < (ways.length : Int) := by have := h.len; omega
  unfold m_are_ways
  simp only [bd_pu, tN, isI_tt, dTru_b, li_some, Bool.not_true, Bool.false_eq_true, if_false, g1, dLen_t, List.length_map, dGt_i, n, decide_false, dLst_t]
  rw [mf_map (c := cI) (g := fun _ => .bool true) (fun x _ => rfl) fun x m => by
    have h1 : (1 : Int) ≤ x := by have := h.lo x m; omega
    have h2 : (x : Int) ≤ 4 := by have := h.hi x m; omega
    simp [u1, x1, cI, is_whole_ok, h1, h2]]
  simp only [bd_pu, dAll_true, li_some, fe_rt]
theorem do_rise_ok {l : List Nat} {d : D} (hd : d = tN l ∨ d = .list (l.map cI)) (hl : l.length ≤ 1000) (h : l.Pairwise (· < ·)) : m_do_rise d = pu (.bool true) := by
  have e1 : g1 dLen [d] = some (.int l.length) := by rcases hd with rfl | rfl <;> simp [g1, tN]
  have e2 : ∀ i : Nat, i < l.length → dIdx d (.int i) = some (cI (l.getD i 0)) := fun i hi => by
    rcases hd with rfl | rfl
    · exact dIdx_tN hi
    · exact dIdx_lm (get_D hi)
  have n1 : ((l.length : Int) - 1) ≤ 16777216 := by omega
  have n2 : -(2 ^ 62) ≤ ((l.length : Int) - 1) := by omega
  unfold m_do_rise
  simp only [bd_pu, e1, li_some, dSub_i, dRng1_n n1 n2]
  rw [mf_map (c := fun i : Nat => PyData.int i) (g := fun _ => .bool true) (fun x _ => rfl) fun i m => by
    have hi : i < ((l.length : Int) - 1).toNat := by simpa using m
    have e3 : ((i : Int) + 1) = ((i + 1 : Nat) : Int) := by omega
    have hlt : l.getD i 0 < l.getD (i + 1) 0 := by
      have a1 : i < l.length := by omega
      have a2 : i + 1 < l.length := by omega
      have := List.pairwise_iff_getElem.mp h i (i + 1) a1 a2 (by omega)
      simp only [List.getD_eq_getElem?_getD, List.getElem?_eq_getElem a1, List.getElem?_eq_getElem a2, Option.getD_some]
      exact this
    have hlt' : ((l.getD i 0 : Nat) : Int) < ((l.getD (i + 1) 0 : Nat) : Int) := by omega
    simp only [u1, li_some, bd_pu, x1, e2 i (by omega), dAdd_i, e3, e2 (i + 1) (by omega), cI, dLt_i, hlt', decide_true, Option.map_some]]
  simp only [bd_pu, g1, dAll_true, li_some, fe_rt]
theorem len_rise : ∀ {l : List Nat} {n : Nat}, l.Pairwise (· < ·) → (∀ x ∈ l, x < n) → l.length ≤ n := by
  intro l n h hn
  have key : ∀ (l : List Nat) (m : Nat), l.Pairwise (· < ·) → (∀ x ∈ l, m ≤ x) → (∀ x ∈ l, x < n) → l.length + m ≤ max n m := by
    intro l
    induction l with
    | nil => intro m _ _ _; simp; omega
    | cons x l ih =>
      intro m h1 h2 h3
      have p := List.pairwise_cons.mp h1
      have a := h2 x List.mem_cons_self
      have b := h3 x List.mem_cons_self
      have := ih (x + 1) p.2 (fun y my => by have := p.1 y my; omega) fun y my => h3 y (List.mem_cons_of_mem _ my)
      rw [List.length_cons]
      omega
  have := key l 0 h (fun x _ => Nat.zero_le x) hn
  omega
theorem are_some_ok {n : Nat} {l : List Nat} (hn : n ≤ 1000) (h : ∀ x ∈ l, x < n) (hp : l.Pairwise (· < ·)) : m_are_some (cI n) (tN l) = pu (.bool true) := by
  have hl := len_rise hp h
  unfold m_are_some
  simp only [bd_pu, do_rise_ok (.inl rfl) (by omega : l.length ≤ 1000) hp]
  simp only [tN, isI_tt, tb_bool, bd_pu, if_true, dLst_t, li_some]
  rw [mf_map (c := cI) (g := fun _ => .bool true) (fun x _ => rfl) fun x m => by
    show m_is_below (cI x) (cI n) = _
    exact is_below_ok (h x m)]
  simp only [bd_pu, g1, dAll_true, li_some, tb_bool, if_true, fe_rt]
theorem is_part_ok {ways : List Nat} (h : OkWays ways) {p : Nat × List Nat} (hp : OkP ways p) : m_is_part (tN ways) (tP p) = pu (.bool true) := by
  have e2 : dNe (.int ((2 : Nat) : Int)) (.int 2) = some false := rfl
  have hi : ways.getD p.1 0 ≤ 1000 := by
    have := h.hi _ (List.mem_of_getElem? (get_D hp.lt))
    omega
  unfold m_is_part
  simp only [bd_pu, tP, isI_tt, dTru_b, li_some, Bool.not_true, Bool.false_eq_true, if_false, dLen_tN, g1, dLen_t, List.length_cons, List.length_nil, e2, dIdx_t0, dIdx_t1]
  simp only [bd_pu, li_some, is_below_ok hp.lt, dTru_b, Bool.not_true, Bool.false_eq_true, if_false, dIdx_tN hp.lt, are_some_ok hi hp.be hp.up, fe_rt, e2, Nat.zero_add, Nat.reduceAdd]
theorem is_wish_ok {ways : List Nat} (h : OkWays ways) {w : Wi} (hw : OkW ways w) : m_is_wish (tN ways) (tW w) = pu (.bool true) := by
  have e3 : dNe (.int ((3 : Nat) : Int)) (.int 3) = some false := rfl
  have ek : dNin (tK w.k) (.tuple [.str "all", .str "some"]) = some false := by cases w.k <;> rfl
  have es : isI "str" (tK w.k) = true := rfl
  have eb : m_is_below (cI w.w) (.int (99 + 1)) = pu (.bool true) := is_below_ok (b := 100) (by have := hw.le; omega)
  have hl : w.ps.length ≤ 1000 := by
    have h1 := len_rise hw.up (n := ways.length) fun x m => by
      obtain ⟨p, mp, rfl⟩ := List.mem_map.mp m
      exact (hw.ps p mp).lt
    have h2 := h.len
    rw [List.length_map] at h1
    omega
  have ed : (.list (w.ps.map fun p => cI p.1) : D) = .list ((w.ps.map Prod.fst).map cI) := by rw [List.map_map]; rfl
  unfold m_is_wish
  simp only [bd_pu, tW, isI_tt, dTru_b, li_some, Bool.not_true, Bool.false_eq_true, if_false, g1, dLen_t, List.length_cons, List.length_nil, e3, dIdx_t0, dIdx_t1, dIdx_t2, Nat.zero_add, Nat.reduceAdd, es, ek, dAdd_i, eb, dLst_t]
  rw [mf_map (c := tP) (g := fun _ => .bool true) (fun x _ => rfl) fun p m => by
    show m_is_part (tN ways) (tP p) = _
    exact is_part_ok h (hw.ps p m)]
  simp only [bd_pu, dAll_true, li_some, tb_bool, if_true]
  rw [mf_map (c := tP) (g := fun p => cI p.1) (fun x _ => rfl) fun p m => by simp [u1, x1, tP]]
  simp only [bd_pu, ed, do_rise_ok (.inr rfl) (by rw [List.length_map]; exact hl) hw.up, fe_rt]
theorem is_sheet_ok {ways : List Nat} {ws : List Wi} (h : OkS ways ws) : m_is_sheet (tS ways ws) = pu (.bool true) := by
  have e2 : dNe (.int ((2 : Nat) : Int)) (.int 2) = some false := rfl
  have n : ¬ (16 : Int) < (ws.length : Int) := by have := h.len; omega
  unfold m_is_sheet
  simp only [bd_pu, tS, isI_tt, dTru_b, li_some, Bool.not_true, Bool.false_eq_true, if_false, g1, dLen_t, List.length_cons, List.length_nil, List.length_map, e2, dIdx_t0, dIdx_t1, Nat.zero_add, Nat.reduceAdd, are_ways_ok h.wy, dGt_i, n, decide_false, dLst_t]
  rw [mf_map (c := tW) (g := fun _ => .bool true) (fun x _ => rfl) fun w m => by
    simp only [u1, li_some, bd_pu, x1, is_wish_ok h.wy (h.ok w m)]]
  simp only [bd_pu, dAll_true, li_some, fe_rt]
theorem need_sheet_ok {ways : List Nat} {ws : List Wi} (h : OkS ways ws) : m_need_sheet (tS ways ws) = pu .none := by
  unfold m_need_sheet
  simp only [bd_pu, is_sheet_ok h, li_some, dTru_b, Bool.not_true, Bool.false_eq_true, if_false, fe_nx]
theorem enumD_map {α : Type} (f : α → D) : ∀ (l : List α) (n : Nat), enumD n (l.map f) = (l.zipIdx n).map fun p => .tuple [cI p.2, f p.1]
  | [], _ => rfl
  | x :: l, n => by
    rw [List.map_cons, enumD, enumD_map f l (n + 1), List.zipIdx_cons, List.map_cons]
    rfl
theorem dEnum_t {α : Type} (f : α → D) (l : List α) : dEnum (.tuple (l.map f)) = some (l.zipIdx.map fun p => .tuple [cI p.2, f p.1]) := congrArg some (enumD_map f l 0)
theorem dEnum_l {α : Type} (f : α → D) (l : List α) : dEnum (.list (l.map f)) = some (l.zipIdx.map fun p => .tuple [cI p.2, f p.1]) := congrArg some (enumD_map f l 0)
theorem get_zipIdx {α : Type} {l : List α} {p : α × Nat} (h : p ∈ l.zipIdx) : l[p.2]? = some p.1 := List.mk_mem_zipIdx_iff_getElem?.mp h
theorem is_begun_in_ok {ways begun : List Nat} (h : OkB ways begun) : m_is_begun_in (tN ways) (tN begun) = pu (.bool true) := by
  have n : ¬ (ways.length : Int) < (begun.length : Int) := by have := h.len; omega
  have et : isI "tuple" (tN begun) = true := rfl
  unfold m_is_begun_in
  simp only [bd_pu, et, dTru_b, li_some, Bool.not_true, Bool.false_eq_true, if_false, g1, dLen_tN, cI, dGt_i, n, decide_false]
  rw [show dEnum (tN begun) = _ from dEnum_t cI begun]
  simp only [li_some, bd_pu]
  rw [mf_map (c := fun p : Nat × Nat => PyData.tuple [cI p.2, cI p.1]) (g := fun _ => .bool true) (fun x _ => rfl) fun p m => by
    have g := get_zipIdx m
    have hi : p.2 < begun.length := (List.getElem?_eq_some_iff.mp g).1
    have e : begun.getD p.2 0 = p.1 := by rw [List.getD_eq_getElem?_getD, g]; rfl
    have b := h.be p.2 hi
    rw [e] at b
    simp only [uN, List.length_cons, List.length_nil, if_true, Nat.zero_add, Nat.reduceAdd, li_some, bd_pu, x2, dIdx_tN (Nat.lt_of_lt_of_le hi h.len), is_below_ok b]]
  simp only [bd_pu, g1, dAll_true, li_some, fe_rt]
theorem dIdx_S0 (ways : List Nat) (ws : List Wi) : dIdx (tS ways ws) (.int 0) = some (tN ways) := dIdx_t0 _ _
theorem dIdx_S1 (ways : List Nat) (ws : List Wi) : dIdx (tS ways ws) (.int 1) = some (.tuple (ws.map tW)) := dIdx_t1 _ _ _
theorem is_begun_ok {ways begun : List Nat} {ws : List Wi} (h : OkS ways ws) (hb : OkB ways begun) : m_is_begun (tS ways ws) (tN begun) = pu (.bool true) := by
  unfold m_is_begun
  simp only [bd_pu, need_sheet_ok h, dIdx_S0, li_some, is_begun_in_ok hb, fe_rt]
theorem need_begun_ok {ways begun : List Nat} {ws : List Wi} (h : OkS ways ws) (hb : OkB ways begun) : m_need_begun (tS ways ws) (tN begun) = pu .none := by
  unfold m_need_begun
  simp only [bd_pu, is_begun_ok h hb, li_some, dTru_b, Bool.not_true, Bool.false_eq_true, if_false, fe_nx]
theorem need_number_ok {ways : List Nat} {ws : List Wi} {i : Nat} (h : i < ws.length) : m_need_number (tS ways ws) (cI i) = pu .none := by
  unfold m_need_number
  simp only [bd_pu, dIdx_S1, li_some, g1, dLen_ws, is_below_ok h, dTru_b, Bool.not_true, Bool.false_eq_true, if_false, fe_nx]
/-! means -/
def mm (ways begun : List Nat) (p : Nat × List Nat) : Rat := if p.1 < begun.length then (if begun.getD p.1 0 ∈ p.2 then 1 else 0) else ((p.2.length : Int) : Rat) / ((ways.getD p.1 0 : Int) : Rat)
theorem dIn_tN (x : Nat) (l : List Nat) : dIn (cI x) (tN l) = some (decide (x ∈ l)) := by
  have h : (l.map cI).all isF = true := by
    rw [List.all_eq_true]
    intro d m
    obtain ⟨y, _, rfl⟩ := List.mem_map.mp m
    rfl
  show (if isF (cI x) && (l.map cI).all isF then some ((l.map cI).any fun z => PyData.eqv z (cI x)) else none) = _
  rw [h, if_pos (by rfl)]
  congr 1
  induction l with
  | nil => rfl
  | cons y l ih =>
    have h' : (l.map cI).all isF = true := by
      rw [List.map_cons, List.all_cons, Bool.and_eq_true] at h
      exact h.2
    rw [List.map_cons, List.any_cons, ih h']
    show ((((y : Nat) : Int) == ((x : Nat) : Int)) || decide (x ∈ l)) = _
    by_cases e : x = y
    · subst e
      simp
    · have : ¬ ((y : Int) = (x : Int)) := by omega
      simp [e, this, beq_eq_false_iff_ne.mpr this]
theorem ways_hi {ways : List Nat} (h : OkWays ways) {i : Nat} (hi : i < ways.length) : 1 ≤ ways.getD i 0 ∧ ways.getD i 0 ≤ 4 :=
  ⟨h.lo _ (List.mem_of_getElem? (get_D hi)), h.hi _ (List.mem_of_getElem? (get_D hi))⟩
theorem part_len {ways : List Nat} {p : Nat × List Nat} (hp : OkP ways p) : p.2.length ≤ ways.getD p.1 0 := len_rise hp.up hp.be
theorem smq_mm {ways : List Nat} (begun : List Nat) (h : OkWays ways) {p : Nat × List Nat} (hp : OkP ways p) : SmQ (mm ways begun p) 4 := by
  unfold mm
  have hw := ways_hi h hp.lt
  have hl := part_len hp
  split
  · split
    · exact smq_one.mono (by decide)
    · exact smq_zero.mono (by decide)
  · exact smq_div (by omega) (by omega) (by omega)
theorem met_mean_ok {ways : List Nat} (begun : List Nat) (h : OkWays ways) {p : Nat × List Nat} (hp : OkP ways p) : m_met_mean (tN ways) (tP p) (tN begun) = pu (fq (mm ways begun p)) := by
  have hw := ways_hi h hp.lt
  have hl := part_len hp
  unfold m_met_mean mm
  simp only [bd_pu, tP, uN, List.length_cons, List.length_nil, if_true, Nat.zero_add, Nat.reduceAdd, li_some, x2, g1, dLen_tN, cI, dLt_i]
  by_cases c : p.1 < begun.length
  · have c' : (p.1 : Int) < (begun.length : Int) := by omega
    rw [if_pos c, decide_eq_true c', if_pos rfl]
    simp only [show dIdx (tN begun) (.int p.1) = _ from dIdx_tN c, li_some, bd_pu, dIn_tN, Option.map_some, g1, dInt, fe_rt]
    by_cases m : begun.getD p.1 0 ∈ p.2
    · rw [decide_eq_true m, if_pos m]
      rfl
    · rw [decide_eq_false m, if_neg m]
      rfl
  · have c' : ¬ (p.1 : Int) < (begun.length : Int) := by omega
    rw [if_neg c, decide_eq_false c', if_neg Bool.false_ne_true]
    have : SmI ((ways.getD p.1 0 : Nat) : Int) 4 := smNat (by omega)
    simp only [show dIdx (tN ways) (.int p.1) = _ from dIdx_tN hp.lt, li_some, bd_pu, cI, lowest_q (p.2.length : Int) (ways.getD p.1 0 : Int) (by omega) (by decide), fe_rt]
def km (ways begun : List Nat) (w : Wi) : Rat := if w.k then qprod (w.ps.map (mm ways begun)) else 1 - qprod (w.ps.map fun p => 1 - mm ways begun p)
theorem ps_len {ways : List Nat} (h : OkWays ways) {w : Wi} (hw : OkW ways w) : w.ps.length ≤ 10 := by
  have h1 := len_rise hw.up (n := ways.length) fun x m => by
    obtain ⟨p, mp, rfl⟩ := List.mem_map.mp m
    exact (hw.ps p mp).lt
  have h2 := h.len
  rw [List.length_map] at h1
  omega
theorem smq_mms {ways : List Nat} (begun : List Nat) (h : OkWays ways) {w : Wi} (hw : OkW ways w) : ∀ q ∈ w.ps.map (mm ways begun), SmQ q 4 := fun q m => by
  obtain ⟨p, mp, rfl⟩ := List.mem_map.mp m
  exact smq_mm begun h (hw.ps p mp)
theorem smq_lft {ways : List Nat} (begun : List Nat) (h : OkWays ways) {w : Wi} (hw : OkW ways w) : ∀ q ∈ w.ps.map fun p => 1 - mm ways begun p, SmQ q 6 := fun q m => by
  obtain ⟨p, mp, rfl⟩ := List.mem_map.mp m
  have := smq_mm begun h (hw.ps p mp)
  exact smq_sub 1 (mm ways begun p) 1 4
theorem smq_km {ways : List Nat} (begun : List Nat) (h : OkWays ways) {w : Wi} (hw : OkW ways w) : SmQ (km ways begun w) 64 := by
  have hl := ps_len h hw
  unfold km
  split
  · exact (smq_prod (smq_mms begun h hw)).mono (by rw [List.length_map]; omega)
  · have := smq_prod (smq_lft begun h hw)
    exact (smq_sub 1 _ 1 _).mono (by rw [List.length_map]; omega)
theorem dEq_tK (k : Bool) : dEq (tK k) (.str "all") = some k := by cases k <;> rfl
theorem kept_mean_in_ok {ways : List Nat} (begun : List Nat) (h : OkWays ways) {w : Wi} (hw : OkW ways w) : m_kept_mean_in (tN ways) (tW w) (tN begun) = pu (fq (km ways begun w)) := by
  have hl := ps_len h hw
  have p1 := product_of_q (smq_mms begun h hw) (by rw [List.length_map]; omega)
  have p2 := product_of_q (smq_lft begun h hw) (by rw [List.length_map]; omega)
  have e1 : dIdx (tW w) (.int 2) = some (.tuple (w.ps.map tP)) := dIdx_t2 _ _ _ _
  have e0 : dIdx (tW w) (.int 0) = some (tK w.k) := dIdx_t0 _ _
  unfold m_kept_mean_in km
  simp only [bd_pu, e1, li_some, dLst_t]
  rw [mf_map (c := tP) (g := fun p => fq (mm ways begun p)) (fun x _ => rfl) fun p m => by
    simp only [u1, li_some, bd_pu, x1, met_mean_ok begun h (hw.ps p m)]]
  simp only [bd_pu, e0, li_some, dEq_tK]
  cases w.k with
  | true =>
    rw [List.map_map] at p1
    simp only [if_true]
    rw [show m_product_of (.list (w.ps.map fun p => fq (mm ways begun p))) = _ from p1]
    simp only [bd_pu, fe_rt]
  | false =>
    rw [List.map_map] at p2
    simp only [Bool.false_eq_true, if_false, dLst_l, li_some, bd_pu]
    rw [mf_map (c := fun p => fq (mm ways begun p)) (g := fun p => fq (1 - mm ways begun p)) (fun x _ => rfl) fun p m => by
      have := smq_mm begun h (hw.ps p m)
      simp only [u1, li_some, bd_pu, x1, left_q (mm ways begun p) (by decide)]]
    simp only [bd_pu]
    rw [show m_product_of (.list (w.ps.map fun p => fq (1 - mm ways begun p))) = _ from p2]
    have := smq_prod (smq_lft begun h hw)
    simp only [bd_pu, left_q (qprod (w.ps.map fun p => 1 - mm ways begun p)) (by rw [List.length_map]; omega), fe_rt]
def mn (ways begun : List Nat) (ws : List Wi) : Rat := qsum (ws.map fun w => ((w.w : Int) : Rat) * km ways begun w)
theorem smq_w {ways : List Nat} {w : Wi} (hw : OkW ways w) : SmQ ((w.w : Int) : Rat) 7 := smq_int (by decide) (by have := hw.le; omega)
theorem smq_wks {ways : List Nat} (begun : List Nat) {ws : List Wi} (h : OkS ways ws) : ∀ q ∈ ws.map (fun w => ((w.w : Int) : Rat) * km ways begun w), SmQ q 71 := fun q m => by
  obtain ⟨w, mw, rfl⟩ := List.mem_map.mp m
  have := smq_w (h.ok w mw)
  have := smq_km begun h.wy (h.ok w mw)
  exact smq_mul ((w.w : Int) : Rat) (km ways begun w) 7 64
theorem smq_mn {ways : List Nat} (begun : List Nat) {ws : List Wi} (h : OkS ways ws) : SmQ (mn ways begun ws) 1200 := (smq_sum (smq_wks begun h)).mono (by have := h.len; rw [List.length_map]; omega)
theorem mean_in_ok {ways : List Nat} (begun : List Nat) {ws : List Wi} (h : OkS ways ws) : m_mean_in (tS ways ws) (tN begun) = pu (fq (mn ways begun ws)) := by
  have hl := h.len
  have p1 := sum_of_q (smq_wks begun h) (by rw [List.length_map]; omega)
  rw [List.map_map] at p1
  unfold m_mean_in
  simp only [bd_pu, dIdx_S1, dIdx_S0, li_some, dLst_t]
  rw [mf_map (c := tW) (g := fun w => fq (((w.w : Int) : Rat) * km ways begun w)) (fun x _ => rfl) fun w m => by
    have := smq_w (h.ok w m)
    have := smq_km begun h.wy (h.ok w m)
    have e : (PyData.tuple [cI w.w, .int 1]) = fq ((w.w : Int) : Rat) := (fq_int _).symm
    have e1 : dIdx (tW w) (.int 1) = some (cI w.w) := dIdx_t1 _ _ _
    simp only [u1, li_some, bd_pu, x1, e1, kept_mean_in_ok begun h.wy (h.ok w m), e, times_q ((w.w : Int) : Rat) (km ways begun w) (by decide)]]
  simp only [bd_pu]
  rw [show m_sum_of (.list (ws.map fun w => fq (((w.w : Int) : Rat) * km ways begun w))) = _ from p1]
  simp only [bd_pu, fe_rt]
  rfl
theorem mean_ok {ways begun : List Nat} {ws : List Wi} (h : OkS ways ws) (hb : OkB ways begun) : m_mean (tS ways ws) (tN begun) = pu (fq (mn ways begun ws)) := by
  unfold m_mean
  simp only [bd_pu, need_begun_ok h hb, mean_in_ok begun h, fe_rt]
theorem kept_mean_ok {ways begun : List Nat} {ws : List Wi} (h : OkS ways ws) (hb : OkB ways begun) {i : Nat} {w : Wi} (hi : ws[i]? = some w) : m_kept_mean (tS ways ws) (cI i) (tN begun) = pu (fq (km ways begun w)) := by
  have e : dIdx (.tuple (ws.map tW)) (cI i) = some (tW w) := dIdx_tm hi
  unfold m_kept_mean
  simp only [bd_pu, need_begun_ok h hb, need_number_ok (ways := ways) (List.getElem?_eq_some_iff.mp hi).1, dIdx_S0, dIdx_S1, li_some, e, kept_mean_in_ok begun h.wy (h.ok w (List.mem_of_getElem? hi)), fe_rt]
end Q


set_option maxRecDepth 100000
set_option maxHeartbeats 4000000
namespace Q
open DL PySem PySem.Spec PyProof.Rows L2 RZ

theorem _root_.DL.SmI.mono {i : Int} {k l : Nat} (s : SmI i k) (h : k ≤ l) : SmI i l := ⟨Nat.lt_of_lt_of_le s.h (Nat.pow_le_pow_right (by decide) h)⟩
/-! numbers from 0 on -/
theorem dLt_c (a b : Nat) : dLt (cI a) (cI b) = some (decide (a < b)) := by
  unfold cI
  rw [dLt_i]
  congr 1
  exact decide_eq_decide.mpr (by omega)
theorem dGt_c (a b : Nat) : dGt (cI a) (cI b) = some (decide (b < a)) := by
  unfold cI
  rw [dGt_i]
  congr 1
  exact decide_eq_decide.mpr (by omega)
theorem dLe_c (a b : Nat) : dLe (cI a) (cI b) = some (decide (a ≤ b)) := by
  unfold cI
  rw [dLe_i]
  congr 1
  exact decide_eq_decide.mpr (by omega)
theorem dGe_c (a b : Nat) : dGe (cI a) (cI b) = some (decide (b ≤ a)) := by
  unfold cI
  rw [dGe_i]
  congr 1
  exact decide_eq_decide.mpr (by omega)
theorem dEq_c (a b : Nat) : dEq (cI a) (cI b) = some (decide (a = b)) := by
  unfold cI
  rw [dEq_i]
  congr 1
  exact decide_eq_decide.mpr (by omega)
theorem dNe_c (a b : Nat) : dNe (cI a) (cI b) = some (!decide (a = b)) := by
  unfold dNe
  rw [dEq_c]
  rfl
theorem dAdd_c (a b : Nat) : dAdd (cI a) (cI b) = some (cI (a + b)) := by
  unfold cI
  rw [dAdd_i, Int.natCast_add]
theorem dMod_c (a b : Nat) (h : 0 < b) : dMod (cI a) (cI b) = some (cI (a % b)) := by
  unfold cI
  rw [dMod_i (by omega)]
  rfl
theorem dMul_c {a b : Nat} {m n : Nat} (ha : a < 2 ^ m) (hb : b < 2 ^ n) (h : m + n < 1000000) : dMul (cI a) (cI b) = some (cI (a * b)) := by
  have s1 : SmI (a : Int) m := smNat ha
  have s2 : SmI (b : Int) n := smNat hb
  unfold cI
  rw [dMul_i (mulOk _ _ h), Int.natCast_mul]
theorem dSub_c {a b : Nat} (h : b ≤ a) : dSub (cI a) (cI b) = some (cI (a - b)) := by
  unfold cI
  rw [dSub_i]
  congr 2
  omega
/-! the laws' own means, by products -/
def hitp (begun : List Nat) (p : Nat × List Nat) : Nat := if p.1 < begun.length then (if begun.getD p.1 0 ∈ p.2 then 1 else 0) else p.2.length
def allp (ways begun : List Nat) (p : Nat × List Nat) : Nat := if p.1 < begun.length then 1 else ways.getD p.1 0
def ktp (k : Bool) (ways begun : List Nat) (p : Nat × List Nat) : Nat := if k then hitp begun p else allp ways begun p - hitp begun p
def nprod : List Nat → Nat
  | [] => 1
  | n :: l => n * nprod l
theorem hit_le {ways : List Nat} (begun : List Nat) {p : Nat × List Nat} (hp : OkP ways p) : hitp begun p ≤ allp ways begun p := by
  have := part_len hp
  unfold hitp allp
  split
  · split <;> omega
  · exact this
theorem all_bd {ways : List Nat} (begun : List Nat) (h : OkWays ways) {p : Nat × List Nat} (hp : OkP ways p) : 1 ≤ allp ways begun p ∧ allp ways begun p ≤ 4 := by
  have := ways_hi h hp.lt
  unfold allp
  split <;> omega
theorem mm_div (ways begun : List Nat) (p : Nat × List Nat) : mm ways begun p = ((hitp begun p : Int) : Rat) / ((allp ways begun p : Int) : Rat) := by
  unfold mm hitp allp
  split
  · split
    · show (1 : Rat) = (1 : Rat) / (1 : Rat)
      grind
    · show (0 : Rat) = (0 : Rat) / (1 : Rat)
      grind
  · rfl
theorem nprod_bd : ∀ {l : List Nat}, (∀ x ∈ l, x ≤ 4) → nprod l ≤ 4 ^ l.length
  | [], _ => by simp [nprod]
  | n :: l, h => by
    have h1 := h n List.mem_cons_self
    have h2 := nprod_bd fun x m => h x (List.mem_cons_of_mem _ m)
    rw [nprod, List.length_cons, Nat.pow_succ, Nat.mul_comm]
    exact Nat.mul_le_mul h2 h1
theorem nprod_pos : ∀ {l : List Nat}, (∀ x ∈ l, 1 ≤ x) → 1 ≤ nprod l
  | [], _ => by simp [nprod]
  | n :: l, h => by
    have h1 := h n List.mem_cons_self
    have h2 := nprod_pos fun x m => h x (List.mem_cons_of_mem _ m)
    rw [nprod]
    exact Nat.mul_pos h1 h2
theorem qprod_div {α : Type} (f g : α → Nat) : ∀ (l : List α), (∀ x ∈ l, 1 ≤ g x) → qprod (l.map fun x => ((f x : Int) : Rat) / ((g x : Int) : Rat)) = ((nprod (l.map f) : Int) : Rat) / ((nprod (l.map g) : Int) : Rat)
  | [], _ => by
    show (1 : Rat) = (1 : Rat) / (1 : Rat)
    grind
  | x :: l, h => by
    have h1 := h x List.mem_cons_self
    have ih := qprod_div f g l fun y m => h y (List.mem_cons_of_mem _ m)
    have h2 : 1 ≤ nprod (l.map g) := nprod_pos fun y m => by
      obtain ⟨z, mz, rfl⟩ := List.mem_map.mp m
      exact h z (List.mem_cons_of_mem _ mz)
    have a1 : ((g x : Int) : Rat) ≠ 0 := by rw [Ne, Rat.intCast_eq_zero_iff]; omega
    have a2 : ((nprod (l.map g) : Int) : Rat) ≠ 0 := by rw [Ne, Rat.intCast_eq_zero_iff]; omega
    simp only [List.map_cons, qprod, nprod, ih, Int.natCast_mul, Rat.intCast_mul]
    grind
theorem km_div {ways : List Nat} (begun : List Nat) (h : OkWays ways) {w : Wi} (hw : OkW ways w) :
    km ways begun w = if w.k then ((nprod (w.ps.map (ktp w.k ways begun)) : Int) : Rat) / ((nprod (w.ps.map (allp ways begun)) : Int) : Rat)
      else (((nprod (w.ps.map (allp ways begun)) : Int) - (nprod (w.ps.map (ktp w.k ways begun)) : Int) : Int) : Rat) / ((nprod (w.ps.map (allp ways begun)) : Int) : Rat) := by
  have hg : ∀ p ∈ w.ps, 1 ≤ allp ways begun p := fun p m => (all_bd begun h (hw.ps p m)).1
  have hP : 1 ≤ nprod (w.ps.map (allp ways begun)) := nprod_pos fun y m => by
    obtain ⟨z, mz, rfl⟩ := List.mem_map.mp m
    exact hg z mz
  have a2 : ((nprod (w.ps.map (allp ways begun)) : Int) : Rat) ≠ 0 := by rw [Ne, Rat.intCast_eq_zero_iff]; omega
  unfold km
  cases w.k with
  | true =>
    simp only [if_true]
    rw [show w.ps.map (mm ways begun) = w.ps.map fun p => ((hitp begun p : Int) : Rat) / ((allp ways begun p : Int) : Rat) from List.map_congr_left fun p _ => mm_div ways begun p]
    exact qprod_div _ _ _ hg
  | false =>
    simp only [Bool.false_eq_true, if_false]
    have e : w.ps.map (fun p => 1 - mm ways begun p) = w.ps.map fun p => ((ktp false ways begun p : Int) : Rat) / ((allp ways begun p : Int) : Rat) := List.map_congr_left fun p m => by
      have h1 := hg p m
      have h2 := hit_le begun (hw.ps p m)
      have a1 : ((allp ways begun p : Int) : Rat) ≠ 0 := by rw [Ne, Rat.intCast_eq_zero_iff]; omega
      have e2 : ((ktp false ways begun p : Nat) : Int) = (allp ways begun p : Int) - (hitp begun p : Int) := by
        unfold ktp
        simp only [Bool.false_eq_true, if_false]
        omega
      rw [mm_div, e2, Rat.intCast_sub]
      grind
    rw [e, qprod_div _ _ _ hg, Rat.intCast_sub]
    grind
theorem dInt_b (b : Bool) : dInt (.bool b) = some (.int (if b then 1 else 0)) := by cases b <;> rfl
theorem kept_step {ways begun : List Nat} (h : OkWays ways) {w : Wi} (d : D) (hd : dIdx d (.int 0) = some (tK w.k)) {p : Nat × List Nat} (hp : OkP ways p) {t b n : Nat} (ht : t < 2 ^ n) (hb : b < 2 ^ n) (hn : n < 900) :
    m__law_b_kept_mean_b1 (tN ways) (tN begun) d (cI t, cI b) (tP p) = pu (.nx (cI (t * ktp w.k ways begun p), cI (b * allp ways begun p))) := by
  have hl := part_len hp
  have hw := ways_hi h hp.lt
  have a1 := all_bd begun h hp
  have a2 := hit_le begun hp
  have a3 : ktp w.k ways begun p < 2 ^ 3 := by unfold ktp; split <;> omega
  have key : ∀ (u v : Nat), u = hitp begun p → v = allp ways begun p → (bd (bd (pu (cI t)) fun d39 => bd (bd (bd (bd (bd (pu (cI v)) fun d27 => bd (pu (cI u)) fun d28 => li (dSub d27 d28)) fun d29 => bd (pu (cI u)) fun d30 => pu [d29, d30]) fun l31 => pu (PyData.list l31)) fun d37 => bd (bd (bd (bd (pu d) fun d32 => bd (pu (PyData.int 0)) fun d33 => li (dIdx d32 d33)) fun d34 => bd (pu (PyData.str "all")) fun d35 => li ((dEq d34 d35).map PyData.bool)) fun d36 => li (g1 dInt [d36])) fun d38 => li (dIdx d37 d38)) fun d40 => li (dMul d39 d40)) fun d26 => bd (bd (pu (cI b)) fun d42 => bd (pu (cI v)) fun d43 => li (dMul d42 d43)) fun d41 => (pu (.nx (d26, d41)) : M (Fl (D × D) (D × D)))) = pu (.nx (cI (t * ktp w.k ways begun p), cI (b * v))) := by
    intro u v hu hv
    have e1 : dIdx (.list [cI (v - u), cI u]) (.int (if w.k then 1 else 0)) = some (cI (ktp w.k ways begun p)) := by
      unfold ktp
      cases w.k with
      | true => simp only [if_true]; rw [dIdx_l1, hu]
      | false => simp only [Bool.false_eq_true, if_false]; rw [dIdx_l0, hu, hv]
    simp only [bd_pu, dSub_c (show u ≤ v by omega), li_some, hd, dEq_tK, Option.map_some, g1, dInt_b, e1, dMul_c ht a3 (by omega), dMul_c hb (show v < 2 ^ 3 by omega) (by omega)]
  unfold m__law_b_kept_mean_b1
  simp only [tP, uN, List.length_cons, List.length_nil, if_true, Nat.zero_add, Nat.reduceAdd, li_some, bd_pu, x2, g1, dLen_tN, dIdx_tN hp.lt, dLt_c]
  by_cases c : p.1 < begun.length
  · have e1 := key (hitp begun p) 1 rfl (by unfold allp; rw [if_pos c])
    have e2 : PyData.int (if decide (begun.getD p.1 0 ∈ p.2) then 1 else 0) = cI (hitp begun p) := by
      unfold hitp cI
      rw [if_pos c]
      by_cases q : begun.getD p.1 0 ∈ p.2 <;> simp only [q, decide_true, decide_false, if_true, if_false, Bool.false_eq_true] <;> rfl
    have e3 : allp ways begun p = 1 := by unfold allp; rw [if_pos c]
    rw [decide_eq_true c, if_pos rfl, e3]
    simp only [dIdx_tN c, li_some, bd_pu, dIn_tN, Option.map_some, g1, dInt_b, sq_nx]
    rw [e2]
    simp only [bd_pu, li_some, g1] at e1 ⊢
    exact e1
  · have e1 := key p.2.length (ways.getD p.1 0) (by unfold hitp; rw [if_neg c]) (by unfold allp; rw [if_neg c])
    have e3 : allp ways begun p = ways.getD p.1 0 := by unfold allp; rw [if_neg c]
    rw [decide_eq_false c, if_neg Bool.false_ne_true, e3]
    simp only [sq_nx]
    simp only [bd_pu, li_some, g1] at e1 ⊢
    exact e1
theorem kept_loop {L : Type} {ways begun : List Nat} (h : OkWays ways) {w : Wi} (d : D) (hd : dIdx d (.int 0) = some (tK w.k)) : ∀ (ps : List (Nat × List Nat)) (t b n : Nat), (∀ p ∈ ps, OkP ways p) → t < 2 ^ n → b < 2 ^ n → n + 3 * ps.length < 900 →
    fo (L := L) (m__law_b_kept_mean_b1 (tN ways) (tN begun) d) (ps.map tP) (cI t, cI b) = pu (.nx (cI (t * nprod (ps.map (ktp w.k ways begun))), cI (b * nprod (ps.map (allp ways begun)))))
  | [], t, b, n, _, _, _, _ => by simp [fo, nprod]
  | p :: ps, t, b, n, ho, ht, hb, hn => by
    have hp := ho p List.mem_cons_self
    have a1 := all_bd begun h hp
    have a2 := hit_le begun hp
    have a3 : ktp w.k ways begun p ≤ 4 := by unfold ktp; split <;> omega
    rw [List.length_cons] at hn
    rw [List.map_cons, fo, kept_step h d hd hp ht hb (by omega), bd_pu]
    have g : ∀ {x y : Nat}, x < 2 ^ n → y ≤ 4 → x * y < 2 ^ (n + 3) := fun {x y} hx hy => by
      rw [Nat.pow_add]
      have : x * y ≤ x * 4 := Nat.mul_le_mul_left x hy
      omega
    have ih := kept_loop (L := L) (begun := begun) h d hd ps (t * ktp w.k ways begun p) (b * allp ways begun p) (n + 3) (fun q m => ho q (List.mem_cons_of_mem _ m)) (g ht a3) (g hb a1.2) (by omega)
    show fo (L := L) _ _ _ = _
    rw [ih, List.map_cons, List.map_cons, nprod, nprod, Nat.mul_assoc, Nat.mul_assoc]
theorem law_kept_mean_ok {ways : List Nat} (begun : List Nat) (h : OkWays ways) {w : Wi} (hw : OkW ways w) : m__law_b_kept_mean (tN ways) (tW w) (tN begun) = pu (fq (km ways begun w)) := by
  have hl := ps_len h hw
  have e2 : dIdx (tW w) (.int 2) = some (.tuple (w.ps.map tP)) := dIdx_t2 _ _ _ _
  have e0 : dIdx (tW w) (.int 0) = some (tK w.k) := dIdx_t0 _ _
  have lo := kept_loop (L := Empty) (begun := begun) h (tW w) e0 w.ps 1 1 1 hw.ps (by decide) (by decide) (by omega)
  rw [Nat.one_mul, Nat.one_mul] at lo
  have hP : 1 ≤ nprod (w.ps.map (allp ways begun)) := nprod_pos fun y m => by
    obtain ⟨z, mz, rfl⟩ := List.mem_map.mp m
    exact (all_bd begun h (hw.ps z mz)).1
  have hB : nprod (w.ps.map (allp ways begun)) < 2 ^ 30 := by
    have := nprod_bd (l := w.ps.map (allp ways begun)) fun y m => by
      obtain ⟨z, mz, rfl⟩ := List.mem_map.mp m
      exact (all_bd begun h (hw.ps z mz)).2
    rw [List.length_map] at this
    have h2 : 4 ^ w.ps.length ≤ 4 ^ 10 := Nat.pow_le_pow_right (by decide) hl
    omega
  have kd := km_div begun h hw
  unfold m__law_b_kept_mean
  simp only [bd_pu, e2, li_some, dLst_t]
  rw [show (PyData.int 1, PyData.int 1) = (cI 1, cI 1) from rfl, lo]
  generalize nprod (w.ps.map (ktp w.k ways begun)) = t at *
  generalize nprod (w.ps.map (allp ways begun)) = b at *
  have s1 : SmI (b : Int) 30 := smNat hB
  simp only [sq_nx, bd_pu, cI, dSub_i, li_some, e0, dEq_tK, Option.map_some, g1, dInt_b]
  cases hk : w.k with
  | true =>
    rw [hk] at kd
    simp only [if_true] at kd ⊢
    rw [dIdx_l1]
    simp only [li_some, bd_pu, law_low_ok (t : Int) (b : Int) (by omega) (by decide), fe_rt, kd]
  | false =>
    rw [hk] at kd
    simp only [Bool.false_eq_true, if_false] at kd ⊢
    rw [dIdx_l0]
    simp only [li_some, bd_pu, law_low_ok ((b : Int) - (t : Int)) (b : Int) (by omega) (by decide), fe_rt, kd]
theorem law_mean_ok {ways : List Nat} (begun : List Nat) {ws : List Wi} (h : OkS ways ws) : m__law_b_mean (tS ways ws) (tN begun) = pu (fq (mn ways begun ws)) := by
  have hl := h.len
  have key : ∀ (vs : List Wi) (acc : List D), (∀ w ∈ vs, w ∈ ws) → acc.length + vs.length ≤ 100 → fo (L := Empty) (m__law_b_mean_b1 (tS ways ws) (tN begun)) (vs.map tW) acc = pu (.nx (acc ++ vs.map fun w => fr ((w.w : Int) * (km ways begun w).num) (km ways begun w).den)) := by
    intro vs
    induction vs with
    | nil => intro acc _ _; simp [fo]
    | cons w vs ih =>
      intro acc hm ha
      rw [List.length_cons] at ha
      have mw := hm w List.mem_cons_self
      have ow := h.ok w mw
      have s1 := smq_km begun h.wy ow
      have s2 : SmI ((w.w : Nat) : Int) 7 := smNat (by have := ow.le; omega)
      have s3 := smi_num (km ways begun w)
      have e1 : dIdx (tW w) (.int 1) = some (cI w.w) := dIdx_t1 _ _ _
      have ck1 : decide (acc.length < 16777216) = true := decide_eq_true (by omega)
      have st : m__law_b_mean_b1 (tS ways ws) (tN begun) acc (tW w) = pu (.nx (acc ++ [fr ((w.w : Int) * (km ways begun w).num) (km ways begun w).den])) := by
        unfold m__law_b_mean_b1
        simp only [u1, li_some, bd_pu, x1, dIdx_S0, law_kept_mean_ok begun h.wy ow]
        simp only [fq, uN, List.length_cons, List.length_nil, if_true, Nat.zero_add, Nat.reduceAdd, li_some, bd_pu, x2, e1, cI, dMul_i (mulOk (w.w : Int) (km ways begun w).num (by omega)), ck1, ck_true]
      rw [List.map_cons, fo, st, bd_pu]
      show fo _ _ _ = _
      rw [ih _ (fun v m => hm v (List.mem_cons_of_mem _ m)) (by simp; omega), List.map_cons, List.append_assoc]
      rfl
  have q := key ws [] (fun w m => m) (by simp; omega)
  rw [List.nil_append] at q
  have s := law_sum_q (k := 80) (l := ws.map fun w => ((w.w : Int) * (km ways begun w).num, ((km ways begun w).den : Int))) (fun p m => by
    obtain ⟨w, mw, rfl⟩ := List.mem_map.mp m
    have ow := h.ok w mw
    have s1 := smq_km begun h.wy ow
    have s2 : SmI ((w.w : Nat) : Int) 7 := smNat (by have := ow.le; omega)
    have s3 := smi_num (km ways begun w)
    have s4 := smi_den (km ways begun w)
    refine ⟨?_, ?_, den_pos _⟩
    · exact (inferInstance : SmI ((w.w : Int) * (km ways begun w).num) (7 + 64)).mono (by decide)
    · exact s4.mono (by decide)) (by rw [List.length_map]; omega)
  rw [List.map_map, List.map_map] at s
  unfold m__law_b_mean
  simp only [bd_pu, dIdx_S1, li_some, dLst_t, q, sq_nx]
  rw [show m__law_b_sum (.list (ws.map fun w => fr ((w.w : Int) * (km ways begun w).num) (km ways begun w).den)) = _ from s]
  simp only [bd_pu, fe_rt]
  congr 3
  refine List.map_congr_left fun w m => ?_
  show (((w.w : Int) * (km ways begun w).num : Int) : Rat) / (((km ways begun w).den : Int) : Rat) = _
  rw [Rat.intCast_mul]
  have h2 := rat_nd (km ways begun w)
  have h3 : (((km ways begun w).den : Int) : Rat) ≠ 0 := by rw [Ne, Rat.intCast_eq_zero_iff]; have := den_pos (km ways begun w); omega
  grind
end Q


set_option maxRecDepth 100000
set_option maxHeartbeats 4000000
namespace Q
open DL PySem PySem.Spec PyProof.Rows L2 RZ

/-! comprehensions that take -/
theorem tri_mff {t : D → M Bool} {f : D → M D} {Q : List D → T → Prop} (I : Nat → T → Prop) (ds : List D) (hf : ∀ d ∈ ds, f d = pu d) {τ : T} (h0 : I 0 τ)
    (hs : ∀ i d τ, ds[i]? = some d → I i τ → Tri (t d) τ fun _ τ' => I (i + 1) τ') (hd : ∀ xs τ', xs.Sublist ds → I ds.length τ' → Q xs τ') : Tri (mf ds t f) τ Q := by
  induction ds generalizing τ I Q with
  | nil => simpa [mf] using hd [] τ List.Sublist.slnil h0
  | cons d ds ih =>
    have h1 := hs 0 d τ rfl h0
    rw [mf, tri_bd]
    refine h1.mono fun b τ' i1 => ?_
    have go : ∀ {Q' : List D → T → Prop}, (∀ xs τ', xs.Sublist ds → I (ds.length + 1) τ' → Q' xs τ') → Tri (mf ds t f) τ' Q' := fun hq =>
      ih (fun i => I (i + 1)) (fun e m => hf e (List.mem_cons_of_mem _ m)) i1 (fun i e τ2 he hi => hs (i + 1) e τ2 (by simpa using he) hi) hq
    cases b with
    | false => exact go fun xs τ2 s hi => hd xs τ2 (s.cons d) hi
    | true =>
      rw [if_pos rfl, hf d List.mem_cons_self, bd_pu, tri_bd]
      refine go fun xs τ2 s hi => ?_
      rw [tri_pu]
      exact hd (d :: xs) τ2 (s.cons₂ d) hi
theorem tri_mfR {α β : Type} {c : α → D} (c' : β → D) {t : D → M Bool} {f : D → M D} {Q : List D → T → Prop} (P : α → β → Prop) (I : Nat → T → Prop) (xs : List α) (ht : ∀ d, t d = pu true) {τ : T} (h0 : I 0 τ)
    (hs : ∀ i x τ, xs[i]? = some x → I i τ → Tri (f (c x)) τ fun d τ' => (∃ y, d = c' y ∧ P x y) ∧ I (i + 1) τ')
    (hd : ∀ (ys : List β) τ', ys.length = xs.length → (∀ (i : Nat) (x : α) (y : β), xs[i]? = some x → ys[i]? = some y → P x y) → I xs.length τ' → Q (ys.map c') τ') : Tri (mf (xs.map c) t f) τ Q := by
  induction xs generalizing τ I Q with
  | nil => simpa [mf] using hd [] τ rfl (by simp) h0
  | cons x xs ih =>
    rw [List.map_cons, mf, ht, bd_pu, if_pos rfl, tri_bd]
    refine (hs 0 x τ rfl h0).mono ?_
    rintro _ τ1 ⟨⟨y, rfl, py⟩, i1⟩
    rw [tri_bd]
    refine ih (fun i => I (i + 1)) i1 (fun i e τ2 he hi => hs (i + 1) e τ2 (by simpa using he) hi) fun ys τ2 hl hp hi => ?_
    rw [tri_pu]
    refine hd (y :: ys) τ2 (by simp [hl]) (fun i x' y' hx hy => ?_) hi
    cases i with
    | zero =>
      simp at hx hy
      subst hx hy
      exact py
    | succ i => exact hp i x' y' (by simpa using hx) (by simpa using hy)
/-! what the laws draw -/
theorem takeN {ns : List Int} {k : Nat} {τ : T} {m : Nat} (h : TB ns k τ) (hk : k < 2 ^ 63) (hm : 0 < m) (hm' : m < 2 ^ 63) (hns : ns.length ≤ 63) : Tri (m__law_b_take 0 (.int m)) τ fun d τ' => ∃ r : Nat, d = cI r ∧ r < m ∧ TB ns (k + 1) τ' := by
  refine (takeB (m := (m : Int)) h hk (by omega) (Nat.lt_of_le_of_lt (log2_int (k := 63) (by omega) (by omega)) (by decide)) hns).mono ?_
  rintro _ τ1 ⟨r, rfl, r0, r1, t1⟩
  refine ⟨r.toNat, ?_, by omega, t1⟩
  unfold cI
  rw [show ((r.toNat : Nat) : Int) = r by omega]
theorem rng_cI (n : Nat) (h : n ≤ 16777216) : dRng1 (cI n) = some ((List.range n).map cI) := by
  unfold cI
  rw [dRng1_n (n := (n : Int)) (by omega) (by omega), Int.toNat_natCast]
theorem few_ok {ns : List Int} {k : Nat} {τ : T} {n : Nat} (h : TB ns k τ) (hk : k < 2 ^ 60) (hns : ns.length ≤ 63) (h1 : 1 ≤ n) (h4 : n ≤ 4) : Tri (m__law_b_few 0 (cI n)) τ fun d τ' => ∃ l : List Nat, d = tN l ∧ (∀ x ∈ l, x < n) ∧ l.Pairwise (· < ·) ∧ TB ns (k + 1) τ' := by
  have e1 : ∃ m : Nat, dIdx (.list [.int 2, .int 4, .int 8, .int 16]) (.int ((n : Int) - 1)) = some (.int m) ∧ 0 < m ∧ m < 2 ^ 63 := by
    have : n = 1 ∨ n = 2 ∨ n = 3 ∨ n = 4 := by omega
    rcases this with rfl | rfl | rfl | rfl
    · exact ⟨2, rfl, by decide, by decide⟩
    · exact ⟨4, rfl, by decide, by decide⟩
    · exact ⟨8, rfl, by decide, by decide⟩
    · exact ⟨16, rfl, by decide, by decide⟩
  obtain ⟨m, e1, m0, m1⟩ := e1
  have e2 : ∀ i : Nat, i < 4 → dIdx (.list [.int 1, .int 2, .int 4, .int 8]) (cI i) = some (.int ((2 ^ i : Nat) : Int)) := fun i hi => by
    have : i = 0 ∨ i = 1 ∨ i = 2 ∨ i = 3 := by omega
    rcases this with rfl | rfl | rfl | rfl <;> rfl
  unfold m__law_b_few
  simp only [tri_fe, tri_bd, tri_pu]
  simp only [show dSub (cI n) (.int 1) = some (.int ((n : Int) - 1)) from rfl, li_some, tri_pu, e1]
  refine (takeN h (by omega) m0 m1 hns).mono ?_
  rintro _ τ1 ⟨r, rfl, r1, t1⟩
  simp only [rng_cI n (by omega), li_some, tri_pu]
  rw [mf_filter (c := cI) (p := fun i => decide ((r : Int) / ((2 ^ i : Nat) : Int) % 2 = 1)) (g := cI) (fun i mi => by
    have hi : i < 4 := by have := List.mem_range.mp mi; omega
    have p0 : 0 < 2 ^ i := Nat.pow_pos (by decide)
    have p1 : 2 ^ i ≤ 2 ^ 4 := Nat.pow_le_pow_right (by decide) (by omega)
    have p2 : (0 : Int) < ((2 ^ i : Nat) : Int) := by omega
    simp only [u1, li_some, bd_pu, x1, e2 i hi, show dDiv (cI r) (.int ((2 ^ i : Nat) : Int)) = _ from dDiv_i p2 (Nat.lt_of_le_of_lt (log2_int (k := 63) (by omega) (by omega)) (by decide)), dMod_i (show (0 : Int) < 2 by decide), dEq_i]) fun i mi _ => by simp only [u1, li_some, bd_pu, x1]]
  simp only [tri_pu, tri_bd, g1, dTup_l, li_some, feQ_rt]
  refine ⟨_, rfl, fun x m => List.mem_range.mp (List.mem_filter.mp m).1, ?_, t1⟩
  exact List.Pairwise.sublist List.filter_sublist List.pairwise_lt_range
theorem wish_ok {ns : List Int} {k : Nat} {τ : T} {ways : List Nat} (hw : OkWays ways) (h : TB ns k τ) (hk : k < 2 ^ 55) (hns : ns.length ≤ 63) : Tri (m__law_b_wish 0 (tN ways)) τ fun d τ' => ∃ w, d = tW w ∧ OkW ways w ∧ TB ns (k + 30) τ' := by
  have hl := hw.len
  unfold m__law_b_wish
  simp only [tri_fe, tri_bd, tri_pu]
  refine (takeN (m := 2) h (by omega) (by decide) (by decide) hns).mono ?_
  rintro _ τ1 ⟨r1, rfl, h1, t1⟩
  have e1 : dIdx (.list [.str "all", .str "some"]) (cI r1) = some (tK (decide (r1 = 0))) := by
    have : r1 = 0 ∨ r1 = 1 := by omega
    rcases this with rfl | rfl <;> rfl
  simp only [e1, li_some, tri_pu]
  generalize decide (r1 = 0) = kd
  refine (takeN (m := 10) t1 (by omega) (by decide) (by decide) hns).mono ?_
  rintro _ τ2 ⟨r2, rfl, h2, t2⟩
  refine (takeN (m := 100) t2 (by omega) (by decide) (by decide) hns).mono ?_
  rintro _ τ3 ⟨r3, rfl, h3, t3⟩
  refine (takeN (m := 5) t3 (by omega) (by decide) (by decide) hns).mono ?_
  rintro _ τ4 ⟨r4, rfl, h4, t4⟩
  obtain ⟨wt, e2, hwt⟩ : ∃ wt : Nat, dIdx (.list [.int 0, .int 1, .int 99, cI r2, cI r3]) (cI r4) = some (cI wt) ∧ wt ≤ 99 := by
    have : r4 = 0 ∨ r4 = 1 ∨ r4 = 2 ∨ r4 = 3 ∨ r4 = 4 := by omega
    rcases this with rfl | rfl | rfl | rfl | rfl
    · exact ⟨0, rfl, by decide⟩
    · exact ⟨1, rfl, by decide⟩
    · exact ⟨99, rfl, by decide⟩
    · exact ⟨r2, rfl, by omega⟩
    · exact ⟨r3, rfl, by omega⟩
  simp only [e2, li_some, tri_pu]
  refine (takeN (m := 4) t4 (by omega) (by decide) (by decide) hns).mono ?_
  rintro _ τ5 ⟨r5, rfl, h5, t5⟩
  have e3 : dAdd (.int 1) (cI r5) = some (.int ((1 + r5 : Nat) : Int)) := by
    rw [Int.natCast_add]
    rfl
  simp only [e3, li_some, tri_pu, g1, dLen_tN, rng_cI ways.length (by omega)]
  refine tri_mff (fun i τ => TB ns (k + 5 + i) τ) _ (fun d m => by
    obtain ⟨x, _, rfl⟩ := List.mem_map.mp m
    rfl) t5 ?_ ?_
  · intro i d τ6 hd t6
    have hi : i < ways.length := by
      have := (List.getElem?_eq_some_iff.mp hd).1
      simpa using this
    simp only [u1, li_some, bd_pu, x1, tri_bd]
    refine (takeN (m := 1 + r5) t6 (by omega) (by omega) (by omega) hns).mono ?_
    rintro _ τ7 ⟨r, rfl, _, t7⟩
    simp only [cI, dEq_i, li_some, tri_pu]
    exact t7
  · intro xs τ6 hs t6
    rw [List.length_map, List.length_range] at t6
    obtain ⟨pl, hsub, rfl⟩ := List.sublist_map_iff.mp hs
    have hpw : pl.Pairwise (· < ·) := List.Pairwise.sublist hsub List.pairwise_lt_range
    have hlt : ∀ x ∈ pl, x < ways.length := fun x m => List.mem_range.mp (hsub.subset m)
    have hlen : pl.length ≤ 10 := by
      have := len_rise hpw hlt
      omega
    simp only [dLst_l, li_some, tri_pu, tri_bd]
    refine tri_mfR tP (fun x p => p.1 = x ∧ OkP ways p) (fun i τ => TB ns (k + 15 + i) τ) pl (fun d => rfl) (t6.mono (by omega)) ?_ ?_
    · intro i x τ7 hx t7
      have hi : i < pl.length := (List.getElem?_eq_some_iff.mp hx).1
      have hx' := hlt x (List.mem_of_getElem? hx)
      have hh := ways_hi hw hx'
      simp only [u1, li_some, bd_pu, x1, dIdx_tN hx', tri_bd]
      refine (few_ok t7 (by omega) hns hh.1 hh.2).mono ?_
      rintro _ τ8 ⟨l, rfl, l1, l2, t8⟩
      rw [tri_pu]
      exact ⟨⟨(x, l), rfl, rfl, ⟨hx', l1, l2⟩⟩, t8⟩
    · intro ys τ7 hyl hy t7
      simp only [tri_pu, tri_bd, g1, dTup_l, li_some, feQ_rt]
      have ey : ys.map Prod.fst = pl := by
        refine List.ext_getElem? fun i => ?_
        rw [List.getElem?_map]
        cases hq : pl[i]? with
        | none =>
          have : ys.length ≤ i := by
            have := List.getElem?_eq_none_iff.mp hq
            omega
          rw [List.getElem?_eq_none this]
          rfl
        | some x =>
          have hi : i < ys.length := by
            have := (List.getElem?_eq_some_iff.mp hq).1
            omega
          have := (hy i x _ hq (List.getElem?_eq_getElem hi)).1
          rw [List.getElem?_eq_getElem hi, Option.map_some, this]
      refine ⟨⟨kd, wt, ys⟩, rfl, ⟨hwt, fun p m => ?_, by rw [ey]; exact hpw⟩, t7.mono (by omega)⟩
      obtain ⟨i, hi, rfl⟩ := List.getElem_of_mem m
      have hi' : i < ys.length := hi
      exact (hy i _ _ (List.getElem?_eq_getElem (by omega)) (List.getElem?_eq_getElem hi)).2
theorem sheet_ok {ns : List Int} {k : Nat} {τ : T} {pl wl : Nat} (h : TB ns k τ) (hk : k < 2 ^ 50) (hns : ns.length ≤ 63) (hp : pl ≤ 10) (hw : wl ≤ 16) : Tri (m__law_b_sheet 0 (cI pl) (cI wl)) τ fun d τ' => ∃ ways ws, d = tS ways ws ∧ OkS ways ws ∧ ways.length ≤ pl ∧ ws.length ≤ wl ∧ TB ns (k + 1000) τ' := by
  have a1 : ∀ n : Nat, dAdd (cI n) (.int 1) = some (.int ((n + 1 : Nat) : Int)) := fun n => rfl
  have a2 : ∀ n : Nat, dAdd (.int 1) (cI n) = some (cI (1 + n)) := fun n => by
    unfold cI
    rw [Int.natCast_add]
    rfl
  unfold m__law_b_sheet
  simp only [tri_fe, tri_bd, tri_pu, a1, li_some]
  refine (takeN h (by omega) (by omega) (by omega) hns).mono ?_
  rintro _ τ1 ⟨n, rfl, n1, t1⟩
  refine (takeN (m := 7) t1 (by omega) (by decide) (by decide) hns).mono ?_
  rintro _ τ2 ⟨al, rfl, al1, t2⟩
  have e3 : dMulT (.tuple [cI (1 + al)]) (cI n) = some (tN (List.replicate n (1 + al))) := by
    show (if -(2 ^ 63) ≤ (n : Int) ∧ (n : Int) ≤ 1000 ∧ [cI (1 + al)].length ≤ 1000 then some (PyData.tuple (List.replicate (n : Int).toNat [cI (1 + al)]).flatten) else none) = _
    rw [if_pos ⟨by omega, by omega, by simp⟩, Int.toNat_natCast]
    unfold tN
    congr 2
    generalize 1 + al = z
    induction n with
    | zero => rfl
    | succ n ih =>
      rw [List.replicate_succ, List.flatten_cons, ih (by omega), List.replicate_succ, List.map_cons]
      rfl
  simp only [a2, li_some, tri_pu, e3, tri_sq, tri_bd, tri_ite]
  have fin : ∀ (ways : List Nat) (τ3 : T), OkWays ways → ways.length = n → TB ns (k + 100) τ3 → Tri (bd (bd (pu (tN ways)) fun d37 => bd (bd (bd (bd (bd (bd (bd (pu (cI wl)) fun d27 => bd (pu (PyData.int 1)) fun d28 => li (dAdd d27 d28)) fun d29 => m__law_b_take 0 d29) fun d30 => li (dRng1 d30)) fun l32 => mf l32 (fun d33 => bd (li (u1 d33)) (fun _ => pu true)) (fun d33 => bd (li (u1 d33)) (x1 fun d31 => bd (pu (tN ways)) fun d34 => m__law_b_wish 0 d34))) fun l35 => pu (PyData.list l35)) fun d36 => li (g1 dTup [d36])) fun d38 => pu (PyData.tuple [d37, d38])) fun d39 => pu (Fl.rt d39 : Fl Unit Empty)) τ3 (feQ false fun d τ' => ∃ ways ws, d = tS ways ws ∧ OkS ways ws ∧ ways.length ≤ pl ∧ ws.length ≤ wl ∧ TB ns (k + 1000) τ') := by
    intro ways τ3 ow wl1 t3
    simp only [tri_bd, tri_pu, a1, li_some]
    refine (takeN t3 (by omega) (by omega) (by omega) hns).mono ?_
    rintro _ τ4 ⟨m, rfl, m1, t4⟩
    simp only [rng_cI m (by omega), li_some, tri_pu]
    refine tri_mfR (c := cI) tW (fun _ w => OkW ways w) (fun i τ => TB ns (k + 101 + 30 * i) τ) (List.range m) (fun d => rfl) t4 ?_ ?_
    · intro i x τ5 hx t5
      have hi : i < m := by
        have := (List.getElem?_eq_some_iff.mp hx).1
        simpa using this
      refine (wish_ok ow t5 (by omega) hns).mono ?_
      rintro _ τ6 ⟨w, rfl, w1, t6⟩
      exact ⟨⟨w, rfl, w1⟩, t6.mono (by omega)⟩
    · intro ws τ5 hl hy t5
      rw [List.length_range] at hl t5
      simp only [tri_pu, tri_bd, g1, dTup_l, li_some, feQ_rt]
      refine ⟨ways, ws, rfl, ⟨ow, by omega, fun w mw => ?_⟩, by omega, by omega, t5.mono (by omega)⟩
      obtain ⟨i, hi, rfl⟩ := List.getElem_of_mem mw
      exact hy i _ _ (List.getElem?_eq_getElem (by rw [List.length_range]; omega)) (List.getElem?_eq_getElem hi)
  by_cases g : (3 : Int) < (al : Int)
  · simp only [cI, dGt_i, li_some, decide_eq_true g, tri_pu, if_true, tri_bd]
    simp only [show dRng1 (.int n) = _ from rng_cI n (by omega), li_some, tri_pu]
    refine tri_mfR (c := cI) cI (fun _ y => 1 ≤ y ∧ y ≤ 4) (fun i τ => TB ns (k + 2 + i) τ) (List.range n) (fun d => rfl) t2 ?_ ?_
    · intro i x τ3 hx t3
      have hi : i < n := by
        have := (List.getElem?_eq_some_iff.mp hx).1
        simpa using this
      simp only [u1, li_some, bd_pu, x1, tri_bd]
      refine (takeN (m := 4) t3 (by omega) (by decide) (by decide) hns).mono ?_
      rintro _ τ4 ⟨r, rfl, r1, t4⟩
      simp only [a2, li_some, tri_pu]
      exact ⟨⟨1 + r, rfl, by omega, by omega⟩, t4⟩
    · intro ys τ3 hl hy t3
      rw [List.length_range] at hl t3
      simp only [tri_pu, tri_bd, g1, dTup_l, li_some, sqk_nx]
      have hm : ∀ y ∈ ys, 1 ≤ y ∧ y ≤ 4 := fun y m => by
        obtain ⟨i, hi, rfl⟩ := List.getElem_of_mem m
        exact hy i _ _ (List.getElem?_eq_getElem (by rw [List.length_range]; omega)) (List.getElem?_eq_getElem hi)
      have := fin ys τ3 ⟨by omega, fun y m => (hm y m).1, fun y m => (hm y m).2⟩ hl (t3.mono (by omega))
      simp only [tri_bd, tri_pu, g1, dTup_l, li_some] at this ⊢
      exact this
  · simp only [cI, dGt_i, li_some, decide_eq_false g, tri_pu, Bool.false_eq_true, if_false, sqk_nx]
    have := fin (List.replicate n (1 + al)) τ2 ⟨by rw [List.length_replicate]; omega, fun y m => by have := (List.mem_replicate.mp m).2; omega, fun y m => by have := (List.mem_replicate.mp m).2; omega⟩ (by simp) (t2.mono (by omega))
    simp only [tri_bd, tri_pu, g1, dTup_l, li_some] at this ⊢
    exact this
theorem choosing_ok {ns : List Int} {k : Nat} {τ : T} {ways : List Nat} (hw : OkWays ways) (h : TB ns k τ) (hk : k < 2 ^ 60) (hns : ns.length ≤ 63) : Tri (m__law_b_choosing 0 (tN ways)) τ fun d τ' => ∃ c : List Nat, d = tN c ∧ OkB ways c ∧ c.length = ways.length ∧ TB ns (k + 10) τ' := by
  have hl := hw.len
  unfold m__law_b_choosing
  simp only [tri_fe, tri_bd, tri_pu, tN, dLst_t, li_some]
  refine tri_mfR (c := cI) cI (fun x y => y < x) (fun i τ => TB ns (k + i) τ) ways (fun d => rfl) h ?_ ?_
  · intro i x τ1 hx t1
    have hi : i < ways.length := (List.getElem?_eq_some_iff.mp hx).1
    have h1 := hw.lo x (List.mem_of_getElem? hx)
    have h2 := hw.hi x (List.mem_of_getElem? hx)
    simp only [u1, li_some, bd_pu, x1]
    refine (takeN t1 (by omega) h1 (by omega) hns).mono ?_
    rintro _ τ2 ⟨r, rfl, r1, t2⟩
    exact ⟨⟨r, rfl, r1⟩, t2⟩
  · intro ys τ1 hyl hy t1
    simp only [tri_pu, tri_bd, g1, dTup_l, li_some, feQ_rt]
    refine ⟨ys, rfl, ⟨by omega, fun i hi => ?_⟩, hyl, t1.mono (by omega)⟩
    exact hy i _ _ (get_D (by omega)) (get_D hi)
end Q


set_option maxRecDepth 100000
set_option maxHeartbeats 4000000
namespace Q
open DL PySem PySem.Spec PyProof.Rows L2 RZ

/-! one sign more -/
theorem sg_snoc {s : List Int} (h : Sg s) {z : Int} (hz : z = 1 ∨ z = -1) : Sg (s ++ [z]) := ⟨fun x m => by
  rcases List.mem_append.mp m with m | m
  · exact h.one x m
  · rw [List.mem_singleton.mp m]; exact hz⟩
theorem dot_snoc : ∀ (r s : List Int) (z : Int), dot r (s ++ [z]) = dot r s + (r.drop s.length).headD 0 * z
  | [], s, z => by simp [dot]
  | x :: r, [], z => by simp [dot]
  | x :: r, y :: s, z => by
    have ih := dot_snoc r s z
    unfold dot at ih ⊢
    rw [List.cons_append, List.zipWith_cons_cons, List.sum_cons, ih, List.zipWith_cons_cons, List.sum_cons, List.length_cons, List.drop_succ_cons]
    omega
theorem rsq_two (r s : List Int) (h : s.length < r.length) : rsq r (s ++ [1]) + rsq r (s ++ [-1]) = 2 * rsq r s := by
  unfold rsq
  rw [dot_snoc, dot_snoc, List.length_append, List.length_append]
  have hd : r.drop s.length = r[s.length] :: r.drop (s.length + 1) := List.drop_eq_getElem_cons h
  have e : sqs (r.drop s.length) = r[s.length] * r[s.length] + sqs (r.drop (s.length + 1)) := by
    unfold sqs
    rw [hd, List.map_cons, List.sum_cons]
  rw [e, hd]
  simp only [List.headD_cons, List.length_singleton]
  generalize r[s.length] = x
  generalize dot r s = d
  generalize sqs (r.drop (s.length + 1)) = t
  have h1 : (d + x * 1) * (d + x * 1) = d * d + x * x + 2 * (d * x) := by
    rw [Int.mul_one, Int.add_mul, Int.mul_add, Int.mul_add, Int.mul_comm x d]; omega
  have h2 : (d + x * -1) * (d + x * -1) = d * d + x * x - 2 * (d * x) := by
    rw [Int.mul_neg, Int.mul_one, Int.add_mul, Int.mul_add, Int.mul_add, Int.neg_mul, Int.mul_neg, Int.neg_mul, Int.mul_neg, Int.mul_comm x d]; omega
  omega
theorem bsq_two {b : List (List Int)} {w : Nat} (h : ∀ r ∈ b, r.length = w) (s : List Int) (hs : s.length < w) : bsq b (s ++ [1]) + bsq b (s ++ [-1]) = 2 * bsq b s := by
  unfold bsq
  induction b with
  | nil => simp
  | cons r b ih =>
    have h1 := rsq_two r s (by rw [h r List.mem_cons_self]; exact hs)
    have h2 := ih fun r m => h r (List.mem_cons_of_mem _ m)
    simp only [List.map_cons, List.sum_cons]
    omega
theorem dAdd_one (s : List Int) (z : Int) (h : s.length ≤ 10) : dAdd (tR s) (.tuple [.int z]) = some (tR (s ++ [z])) := by
  rw [dAdd_tt (by simp; omega)]
  simp [DL.tR]
theorem ite3 {b c : Bool} {P R : Prop} (hP : P) (hR : R) : (if b = true then if c = true then P else R else if false = true then P else R) := by
  cases b <;> cases c <;> simp [hP, hR]
end Q


set_option maxRecDepth 100000
set_option maxHeartbeats 4000000
namespace Q
open DL PySem PySem.Spec PyProof.Rows L2 RZ

/-! sheets: comparing, cutting -/
theorem dEq_self {d : D} (h : Sh 64 d) : dEq d d = some true := by
  have e : SeqAt.shaped d = true := h.shaped
  have r : PyData.eqv d d = true := SeqAt.eqv_refl d h.1
  have f : (if SeqAt.shaped d && SeqAt.shaped d then some (PyData.eqv d d) else emE d d) = some true := by rw [e, r]; rfl
  cases d with
  | str s => show some (s == s) = _; simp
  | none => exact f
  | bool b => exact f
  | int i => exact f
  | list ds => exact f
  | tuple ds => exact f
  | dict kv => exact absurd h.1 (by simp [PyData.canLay0])
theorem dNe_self {d : D} (h : Sh 64 d) : dNe d d = some false := by
  unfold dNe
  rw [dEq_self h]
  rfl
theorem sh_cI (n : Nat) : Sh 1 (cI n) := sh_int n
theorem sh_tN (l : List Nat) : Sh 2 (tN l) := sh_tup fun d m => by
  obtain ⟨i, _, rfl⟩ := List.mem_map.mp m
  exact sh_cI i
theorem sh_tK (k : Bool) : Sh 1 (tK k) := by
  cases k
  · exact ⟨by decide +kernel, by simp [tK, PyData.depth]⟩
  · exact ⟨by decide +kernel, by simp [tK, PyData.depth]⟩
theorem sh_two {n : Nat} {a b : D} (ha : Sh n a) (hb : Sh n b) : ∀ d ∈ [a, b], Sh n d := fun d m => by
  simp at m
  rcases m with rfl | rfl
  · exact ha
  · exact hb
theorem sh_three {n : Nat} {a b c : D} (ha : Sh n a) (hb : Sh n b) (hc : Sh n c) : ∀ d ∈ [a, b, c], Sh n d := fun d m => by
  simp at m
  rcases m with rfl | rfl | rfl
  · exact ha
  · exact hb
  · exact hc
theorem sh_tP (p : Nat × List Nat) : Sh 3 (tP p) := sh_tup (sh_two ((sh_cI p.1).mono (by decide)) (sh_tN p.2))
theorem sh_tW (w : Wi) : Sh 5 (tW w) := sh_tup (sh_three ((sh_tK w.k).mono (by decide)) ((sh_cI w.w).mono (by decide)) (sh_tup fun d m => by
  obtain ⟨p, _, rfl⟩ := List.mem_map.mp m
  exact sh_tP p))
theorem sh_ws (ws : List Wi) : Sh 6 (.tuple (ws.map tW)) := sh_tup fun d m => by
  obtain ⟨w, _, rfl⟩ := List.mem_map.mp m
  exact sh_tW w
theorem sh_tS (ways : List Nat) (ws : List Wi) : Sh 7 (tS ways ws) := sh_tup (sh_two ((sh_tN ways).mono (by decide)) (sh_ws ws))
theorem dEq_nil {α : Type} {f : α → D} {l : List α} (h : Sh 64 (.tuple (l.map f))) : dEq (.tuple (l.map f)) (.tuple []) = some (decide (l = [])) := by
  rw [dEq_tt h (sh_tnil.mono (by decide))]
  cases l with
  | nil => rfl
  | cons x l => simp [PyData.eqvAll]
theorem dNe_nil {α : Type} {f : α → D} {l : List α} (h : Sh 64 (.tuple (l.map f))) : dNe (.tuple (l.map f)) (.tuple []) = some (!decide (l = [])) := by
  unfold dNe
  rw [dEq_nil h]
  rfl
theorem dNe_ws (ws : List Wi) : dNe (.tuple (ws.map tW)) (.tuple []) = some (!decide (ws = [])) := dNe_nil ((sh_ws ws).mono (by decide))
theorem dEq_ws (ws : List Wi) : dEq (.tuple (ws.map tW)) (.tuple []) = some (decide (ws = [])) := dEq_nil ((sh_ws ws).mono (by decide))
theorem cut_tN (l : List Nat) (n : Nat) : dCut (tN l) none (some (n : Int)) = some (tN (l.take n)) := by
  show some (PyData.tuple (cutD _ _ _)) = _
  rw [cut_to, ← List.map_take]
  rfl
theorem cut_tNf (l : List Nat) (n : Nat) : dCut (tN l) (some (n : Int)) none = some (tN (l.drop n)) := by
  show some (PyData.tuple (cutD _ _ _)) = _
  rw [cut_from, ← List.map_drop]
  rfl
theorem okB_take {ways c : List Nat} (h : OkB ways c) (n : Nat) : OkB ways (c.take n) := by
  refine ⟨?_, fun i hi => ?_⟩
  · rw [List.length_take]; have := h.len; omega
  · rw [List.length_take] at hi
    have e : (c.take n).getD i 0 = c.getD i 0 := by
      rw [List.getD_eq_getElem?_getD, List.getD_eq_getElem?_getD, List.getElem?_take_of_lt (by omega)]
    rw [e]
    exact h.be i (by omega)
theorem okB_nil (ways : List Nat) : OkB ways [] := ⟨by simp, fun i hi => by simp at hi⟩
theorem okB_snoc {ways b : List Nat} (h : OkB ways b) {x : Nat} (hl : b.length < ways.length) (hx : x < ways.getD b.length 0) : OkB ways (b ++ [x]) := by
  refine ⟨by simp; omega, fun i hi => ?_⟩
  rw [List.length_append, List.length_singleton] at hi
  by_cases c : i < b.length
  · have e : (b ++ [x]).getD i 0 = b.getD i 0 := by
      rw [List.getD_eq_getElem?_getD, List.getD_eq_getElem?_getD, List.getElem?_append_left c]
    rw [e]
    exact h.be i c
  · have : i = b.length := by omega
    subst this
    have e : (b ++ [x]).getD b.length 0 = x := by simp [List.getD_eq_getElem?_getD]
    rw [e]
    exact hx
theorem okB_len {ways b : List Nat} (h : OkB ways b) (hw : OkWays ways) : b.length ≤ 10 := Nat.le_trans h.len hw.len
theorem dAdd_tN {a b : List Nat} (h : a.length + b.length ≤ 1000) : dAdd (tN a) (tN b) = some (tN (a ++ b)) := by
  unfold tN
  rw [dAdd_tt (by simp; omega), ← List.map_append]
theorem dAdd_tN1 {a : List Nat} {x : Nat} (h : a.length ≤ 100) : dAdd (tN a) (.tuple [cI x]) = some (tN (a ++ [x])) := dAdd_tN (b := [x]) (by simp; omega)
/-- lists of data that are compared one by one -/
theorem eqvAll_map {α β : Type} {f : α → D} {g : β → D} {p : α → β → Bool} (h : ∀ a b, PyData.eqv (f a) (g b) = p a b) : ∀ (xs : List α) (ys : List β), PyData.eqvAll (xs.map f) (ys.map g) = (decide (xs.length = ys.length) && (List.zipWith p xs ys).all id)
  | [], [] => rfl
  | [], _ :: _ => rfl
  | _ :: _, [] => rfl
  | x :: xs, y :: ys => by
    rw [List.map_cons, List.map_cons, PyData.eqvAll, h, eqvAll_map h xs ys, List.zipWith_cons_cons, List.all_cons]
    simp [Bool.and_left_comm]
theorem dEq_tN (a b : List Nat) : dEq (tN a) (tN b) = some (decide (a = b)) := by
  have e : ∀ l : List Nat, tN l = tR (l.map fun n : Nat => (n : Int)) := fun l => by
    unfold tN DL.tR
    rw [List.map_map]
    rfl
  rw [e, e, dEq_tR]
  congr 1
  apply decide_eq_decide.mpr
  constructor
  · intro h
    have := congrArg (List.map Int.toNat) h
    simpa [List.map_map, Function.comp_def] using this
  · intro h; rw [h]
theorem dNe_tN (a b : List Nat) : dNe (tN a) (tN b) = some (!decide (a = b)) := by
  unfold dNe
  rw [dEq_tN]
  rfl
theorem is_frac_km {ways : List Nat} (begun : List Nat) (h : OkWays ways) {w : Wi} (hw : OkW ways w) : m__law_b_is_fraction (fq (km ways begun w)) = pu (.bool true) := by
  have := smq_km begun h hw
  exact is_frac_q _ (by decide)
theorem is_frac_mn {ways : List Nat} (begun : List Nat) {ws : List Wi} (h : OkS ways ws) : m__law_b_is_fraction (fq (mn ways begun ws)) = pu (.bool true) := by
  have := smq_mn begun h
  exact is_frac_q _ (by decide)
theorem dNe_fq_self (q : Rat) : dNe (fq q) (fq q) = some false := by rw [dNe_fq, decide_eq_true rfl]; rfl
theorem dEq_fq_self (q : Rat) : dEq (fq q) (fq q) = some true := by rw [dEq_fq, decide_eq_true rfl]
/-! loops over encoded states -/
theorem fo_enc {σ α S L : Type} {body : S → D → M (Fl S S)} {enc : σ → S} {c : α → D} {G : σ → α → σ} (I : σ → Prop) : ∀ {xs : List α} {s : σ}, I s → (∀ s x, x ∈ xs → I s → body (enc s) (c x) = pu (.nx (enc (G s x))) ∧ I (G s x)) → fo (L := L) body (xs.map c) (enc s) = pu (.nx (enc (xs.foldl G s))) ∧ I (xs.foldl G s)
  | [], s, h, _ => ⟨rfl, h⟩
  | x :: xs, s, h, h' => by
    obtain ⟨e, i⟩ := h' s x List.mem_cons_self h
    have ih := fo_enc (L := L) (body := body) (enc := enc) (c := c) (G := G) I (xs := xs) i fun s y m => h' s y (List.mem_cons_of_mem _ m)
    refine ⟨?_, ih.2⟩
    rw [List.map_cons, fo, e, bd_pu]
    exact ih.1
/-! the best way -/
def bstep (f : Nat → Rat) (b w : Nat) : Nat := if f b < f w then w else b
def bestW (f : Nat → Rat) (n : Nat) : Nat := (List.range n).foldl (bstep f) 0
theorem bstep_lt {f : Nat → Rat} {b w n : Nat} (hb : b < n) (hw : w < n) : bstep f b w < n := by
  unfold bstep
  split <;> assumption
theorem bestW_lt {f : Nat → Rat} {n : Nat} (h : 0 < n) : bestW f n < n := by
  unfold bestW
  have key : ∀ (l : List Nat) (b : Nat), b < n → (∀ x ∈ l, x < n) → l.foldl (bstep f) b < n := by
    intro l
    induction l with
    | nil => intro b hb _; exact hb
    | cons x l ih =>
      intro b hb hl
      exact ih _ (bstep_lt hb (hl x List.mem_cons_self)) fun y m => hl y (List.mem_cons_of_mem _ m)
  exact key _ 0 h fun x m => List.mem_range.mp m
/-- the best way is no worse than each -/
theorem bestW_ge {f : Nat → Rat} {n : Nat} {i : Nat} (hi : i < n) : f i ≤ f (bestW f n) := by
  unfold bestW
  have key : ∀ (l : List Nat) (b : Nat), f b ≤ f (l.foldl (bstep f) b) ∧ ∀ x ∈ l, f x ≤ f (l.foldl (bstep f) b) := by
    intro l
    induction l with
    | nil => intro b; exact ⟨Rat.le_refl, by simp⟩
    | cons x l ih =>
      intro b
      obtain ⟨h1, h2⟩ := ih (bstep f b x)
      have hb : f b ≤ f (bstep f b x) ∧ f x ≤ f (bstep f b x) := by
        unfold bstep
        split
        · rename_i c; exact ⟨Rat.le_of_lt c, Rat.le_refl⟩
        · rename_i c; exact ⟨Rat.le_refl, Rat.not_lt.mp c⟩
      rw [List.foldl_cons]
      refine ⟨Rat.le_trans hb.1 h1, fun y m => ?_⟩
      rcases List.mem_cons.mp m with rfl | m
      · exact Rat.le_trans hb.2 h1
      · exact h2 y m
  exact (key _ 0).2 i (List.mem_range.mpr hi)
theorem zip_range {n : Nat} {p : Nat × Nat} (h : p ∈ (List.range n).zipIdx) : p.1 = p.2 ∧ p.1 < n := by
  have g := get_zipIdx h
  have hi := (List.getElem?_eq_some_iff.mp g)
  obtain ⟨h1, h2⟩ := hi
  rw [List.length_range] at h1
  rw [List.getElem_range] at h2
  omega
theorem best_way_ok {f : Nat → Rat} {n k : Nat} (hn : 0 < n) (hf : ∀ i, i < n → SmQ (f i) k) (hk : k < 4000) : m_best_way (.list ((List.range n).map fun w => fq (f w))) = pu (cI (bestW f n)) := by
  have q := fo_enc (L := Empty) (body := m_best_way_b1 (.list ((List.range n).map fun w => fq (f w)))) (enc := cI) (c := fun p : Nat × Nat => PyData.tuple [cI p.2, fq (f p.1)]) (G := fun b p => bstep f b p.1) (fun b => b < n) (xs := (List.range n).zipIdx) (s := 0) hn fun b p m hb => by
    obtain ⟨h1, h2⟩ := zip_range m
    have s1 := hf b hb
    have s2 := hf p.1 h2
    have e1 : dIdx (.list ((List.range n).map fun w => fq (f w))) (cI b) = some (fq (f b)) := dIdx_lm (by rw [List.getElem?_range hb])
    refine ⟨?_, bstep_lt hb h2⟩
    unfold m_best_way_b1 bstep
    simp -implicitDefEqProofs only [uN, List.length_cons, List.length_nil, if_true, Nat.zero_add, Nat.reduceAdd, li_some, bd_pu, x2, e1, less_q (f b) (f p.1) (by omega), dTru_b]
    by_cases c : f b < f p.1
    · rw [decide_eq_true c, if_pos rfl, if_pos c, sq_nx, h1]
    · rw [decide_eq_false c, if_neg Bool.false_ne_true, if_neg c, sq_nx]
  have e0 : List.foldl (fun b (p : Nat × Nat) => bstep f b p.1) 0 (List.range n).zipIdx = bestW f n := by
    unfold bestW
    conv => rhs; rw [← List.zipIdx_map_fst 0 (List.range n)]
    rw [List.foldl_map]
  rw [e0] at q
  unfold m_best_way
  rw [bd_pu]
  simp only [bd_pu, dEnum_l, li_some]
  rw [show (PyData.int 0) = cI 0 from rfl, q.1]
  simp only [sq_nx, bd_pu, fe_rt]
theorem ways_on_ok {ways b : List Nat} {ws : List Wi} (h : OkS ways ws) (hb : b.length < ways.length) : m_ways_on (tS ways ws) (tN b) = pu (.list ((List.range (ways.getD b.length 0)).map fun w => fq (mn ways (b ++ [w]) ws))) := by
  have hw := ways_hi h.wy hb
  have hl := h.wy.len
  unfold m_ways_on
  simp only [bd_pu, dIdx_S0, li_some, g1, dLen_tN, dIdx_tN hb, rng_cI (ways.getD b.length 0) (by omega)]
  rw [mf_map (c := cI) (g := fun w => fq (mn ways (b ++ [w]) ws)) (fun x _ => rfl) fun w m => by
    simp only [u1, li_some, bd_pu, x1, dAdd_tN1 (a := b) (x := w) (by omega), mean_in_ok (b ++ [w]) h]]
  simp only [bd_pu, fe_rt]
/-- one way on, the best -/
def bestOn (ways : List Nat) (ws : List Wi) (b : List Nat) : List Nat := b ++ [bestW (fun w => mn ways (b ++ [w]) ws) (ways.getD b.length 0)]
def bestN (ways : List Nat) (ws : List Wi) : Nat → List Nat → List Nat
  | 0, b => b
  | n + 1, b => bestN ways ws n (bestOn ways ws b)
theorem bestOn_ok {ways b : List Nat} {ws : List Wi} (h : OkWays ways) (hb : OkB ways b) (hl : b.length < ways.length) : OkB ways (bestOn ways ws b) := okB_snoc hb hl (bestW_lt (by have := ways_hi h hl; omega))
theorem bestOn_len (ways : List Nat) (ws : List Wi) (b : List Nat) : (bestOn ways ws b).length = b.length + 1 := by unfold bestOn; simp
theorem bestN_ok {ways : List Nat} {ws : List Wi} (h : OkWays ways) : ∀ (n : Nat) (b : List Nat), OkB ways b → b.length + n ≤ ways.length → OkB ways (bestN ways ws n b) ∧ (bestN ways ws n b).length = b.length + n
  | 0, b, hb, _ => ⟨hb, rfl⟩
  | n + 1, b, hb, hl => by
    obtain ⟨h1, h2⟩ := bestN_ok h n (bestOn ways ws b) (bestOn_ok h hb (by omega)) (by rw [bestOn_len]; omega)
    refine ⟨h1, ?_⟩
    show (bestN ways ws n (bestOn ways ws b)).length = _
    rw [h2, bestOn_len]
    omega
/-- the choosing told -/
def chs (ways : List Nat) (ws : List Wi) : List Nat := bestN ways ws ways.length []
theorem chs_ok {ways : List Nat} {ws : List Wi} (h : OkWays ways) : OkB ways (chs ways ws) ∧ (chs ways ws).length = ways.length := by
  have := bestN_ok (ws := ws) h ways.length [] (okB_nil ways) (by simp)
  rw [List.length_nil, Nat.zero_add] at this
  exact this
theorem chosen_loop {L : Type} {ways : List Nat} {ws : List Wi} (h : OkS ways ws) : ∀ (n : Nat) (b : List Nat), b.length + n = ways.length → wh (L := L) (m_chosen_b1 (tS ways ws)) (m_chosen_b2 (tS ways ws)) (tN b) = pu (.nx (tN (bestN ways ws n b)))
  | 0, b, hl => by
    have n : ¬ (b.length : Int) < (ways.length : Int) := by omega
    rw [wh_unf, wst]
    unfold m_chosen_b1
    simp only [bd_pu, g1, dLen_tN, li_some, dIdx_S0, cI, dLt_i, n, decide_false, Bool.false_eq_true, if_false]
    rfl
  | n + 1, b, hl => by
    have c : (b.length : Int) < (ways.length : Int) := by omega
    have hb : b.length < ways.length := by omega
    have hw := ways_hi h.wy hb
    have hl2 := h.wy.len
    have ih := chosen_loop (L := L) h n (bestOn ways ws b) (by rw [bestOn_len]; omega)
    have st : m_chosen_b2 (tS ways ws) (tN b) = pu (.nx (tN (bestOn ways ws b))) := by
      unfold m_chosen_b2
      simp only [bd_pu, ways_on_ok h hb, best_way_ok (f := fun w => mn ways (b ++ [w]) ws) (n := ways.getD b.length 0) (by omega) (fun i _ => smq_mn _ h) (by decide), dAdd_tN1 (a := b) (by omega), li_some]
      rfl
    have ct : m_chosen_b1 (tS ways ws) (tN b) = pu true := by
      unfold m_chosen_b1
      simp only [bd_pu, g1, dLen_tN, li_some, dIdx_S0, cI, dLt_i, c, decide_true]
    rw [wh_unf, wst, ct, bd_pu, if_pos rfl, st, bd_pu]
    exact ih
theorem chosen_ok {ways : List Nat} {ws : List Wi} (h : OkS ways ws) : m_chosen (tS ways ws) = pu (tN (chs ways ws)) := by
  have q := chosen_loop (L := Empty) h ways.length [] (by simp)
  unfold m_chosen
  simp only [bd_pu, need_sheet_ok h]
  rw [show (PyData.tuple []) = tN [] from rfl, q]
  simp only [sq_nx, bd_pu, fe_rt]
  rfl
/-! choosings -/
structure OkC (ways c : List Nat) : Prop extends OkB ways c where
  eq : c.length = ways.length
theorem is_choosing_in_ok {ways c : List Nat} (h : OkC ways c) : m_is_choosing_in (tN ways) (tN c) = pu (.bool true) := by
  unfold m_is_choosing_in
  simp -implicitDefEqProofs only [bd_pu, is_begun_in_ok h.toOkB, tb_bool, if_true, g1, dLen_tN, li_some, cI, dEq_i, h.eq, decide_true, Option.map_some, fe_rt]
theorem is_choosing_ok {ways c : List Nat} {ws : List Wi} (h : OkS ways ws) (hc : OkC ways c) : m_is_choosing (tS ways ws) (tN c) = pu (.bool true) := by
  unfold m_is_choosing
  simp -implicitDefEqProofs only [bd_pu, need_sheet_ok h, dIdx_S0, li_some, is_choosing_in_ok hc, fe_rt]
theorem need_choosing_ok {ways c : List Nat} {ws : List Wi} (h : OkS ways ws) (hc : OkC ways c) : m_need_choosing (tS ways ws) (tN c) = pu .none := by
  unfold m_need_choosing
  simp -implicitDefEqProofs only [bd_pu, is_choosing_ok h hc, li_some, dTru_b, Bool.not_true, Bool.false_eq_true, if_false, fe_nx]
def metp (c : List Nat) (p : Nat × List Nat) : Bool := decide (c.getD p.1 0 ∈ p.2)
def kept (c : List Nat) (w : Wi) : Bool := if w.k then w.ps.all (metp c) else w.ps.any (metp c)
def wo (c : List Nat) (ws : List Wi) : Nat := ((ws.filter (kept c)).map Wi.w).sum
theorem dAny_mapf {α : Type} (f : α → Bool) (xs : List α) : dAny (.list (xs.map fun x => .bool (f x))) = some (.bool (xs.any f)) := by
  have : xs.map (fun x => PyData.bool (f x)) = (xs.map f).map .bool := by rw [List.map_map]; rfl
  rw [this]
  show (asBools ((xs.map f).map .bool)).map _ = _
  rw [asBools_map]
  simp [List.any_map]
theorem sumN_cast : ∀ (l : List Nat), (l.map fun n : Nat => (n : Int)).sum = ((l.sum : Nat) : Int)
  | [] => rfl
  | x :: l => by rw [List.map_cons, List.sum_cons, sumN_cast l, List.sum_cons, Int.natCast_add]
theorem dSum_cI {α : Type} (f : α → Nat) (xs : List α) : dSum (.list (xs.map fun x => cI (f x))) = some (cI (xs.map f).sum) := by
  have := dSum_mapf (fun x => ((f x : Nat) : Int)) xs
  unfold cI
  rw [this, ← sumN_cast, List.map_map]
  rfl
theorem is_kept_in_ok {ways c : List Nat} (hc : OkC ways c) {w : Wi} (hw : OkW ways w) : m_is_kept_in (tW w) (tN c) = pu (.bool (kept c w)) := by
  have e2 : dIdx (tW w) (.int 2) = some (.tuple (w.ps.map tP)) := dIdx_t2 _ _ _ _
  have e0 : dIdx (tW w) (.int 0) = some (tK w.k) := dIdx_t0 _ _
  unfold m_is_kept_in kept
  simp -implicitDefEqProofs only [bd_pu, e2, li_some, dLst_t]
  rw [mf_map (c := tP) (g := fun p => .bool (metp c p)) (fun x _ => rfl) fun p m => by
    have hl : p.1 < c.length := by rw [hc.eq]; exact (hw.ps p m).lt
    simp only [tP, uN, List.length_cons, List.length_nil, if_true, Nat.zero_add, Nat.reduceAdd, li_some, bd_pu, x2, dIdx_tN hl, dIn_tN, Option.map_some]
    rfl]
  simp -implicitDefEqProofs only [bd_pu, e0, li_some, dEq_tK, g1, dAll_mapf, dAny_mapf]
  cases w.k <;> simp only [Bool.false_eq_true, if_true, if_false, fe_rt]
theorem worth_in_ok {ways c : List Nat} {ws : List Wi} (h : OkS ways ws) (hc : OkC ways c) : m_worth_in (tS ways ws) (tN c) = pu (cI (wo c ws)) := by
  unfold m_worth_in
  simp -implicitDefEqProofs only [bd_pu, dIdx_S1, li_some, dLst_t]
  rw [mf_filter (c := tW) (p := kept c) (g := fun w => cI w.w) (fun w m => by
    simp -implicitDefEqProofs only [u1, li_some, bd_pu, x1, is_kept_in_ok hc (h.ok w m), dTru_b]) fun w m _ => by
    have e1 : dIdx (tW w) (.int 1) = some (cI w.w) := dIdx_t1 _ _ _
    simp -implicitDefEqProofs only [u1, li_some, bd_pu, x1, e1]]
  simp -implicitDefEqProofs only [bd_pu, g1, dSum_cI, li_some, fe_rt]
  rfl
theorem worth_ok {ways c : List Nat} {ws : List Wi} (h : OkS ways ws) (hc : OkC ways c) : m_worth (tS ways ws) (tN c) = pu (cI (wo c ws)) := by
  unfold m_worth
  simp -implicitDefEqProofs only [bd_pu, need_choosing_ok h hc, worth_in_ok h hc, fe_rt]
theorem is_kept_ok {ways c : List Nat} {ws : List Wi} (h : OkS ways ws) (hc : OkC ways c) {i : Nat} {w : Wi} (hi : ws[i]? = some w) : m_is_kept (tS ways ws) (cI i) (tN c) = pu (.bool (kept c w)) := by
  have e : dIdx (.tuple (ws.map tW)) (cI i) = some (tW w) := dIdx_tm hi
  unfold m_is_kept
  simp -implicitDefEqProofs only [bd_pu, need_choosing_ok h hc, need_number_ok (ways := ways) (List.getElem?_eq_some_iff.mp hi).1, dIdx_S1, li_some, e, is_kept_in_ok hc (h.ok w (List.mem_of_getElem? hi)), fe_rt]
/-! means along a choosing -/
theorem means_in_ok {ways c : List Nat} {ws : List Wi} (h : OkS ways ws) (hl : c.length ≤ 1000) : m_means_in (tS ways ws) (tN c) = pu (.list ((List.range (c.length + 1)).map fun n => fq (mn ways (c.take n) ws))) := by
  have a1 : dAdd (cI c.length) (.int 1) = some (cI (c.length + 1)) := by unfold cI; rw [dAdd_i]; rfl
  unfold m_means_in
  simp -implicitDefEqProofs only [bd_pu, g1, dLen_tN, li_some, a1, rng_cI (c.length + 1) (by omega)]
  rw [mf_map (c := cI) (g := fun n => fq (mn ways (c.take n) ws)) (fun x _ => rfl) fun n m => by
    simp -implicitDefEqProofs only [u1, li_some, bd_pu, x1, cI, oInt_i, cut_tN, mean_in_ok _ h]]
  simp -implicitDefEqProofs only [bd_pu, fe_rt]
theorem means_of_ok {ways c : List Nat} {ws : List Wi} (h : OkS ways ws) (hc : OkC ways c) : m_means_of (tS ways ws) (tN c) = pu (.list ((List.range (c.length + 1)).map fun n => fq (mn ways (c.take n) ws))) := by
  unfold m_means_of
  simp -implicitDefEqProofs only [bd_pu, need_choosing_ok h hc, means_in_ok h (show c.length ≤ 1000 by have := okB_len hc.toOkB h.wy; omega), fe_rt]
def fallsB (ways c : List Nat) (ws : List Wi) : Bool := (List.range c.length).any fun i => decide (mn ways (c.take (i + 1)) ws < mn ways (c.take i) ws)
theorem never_falls_ok {ways c : List Nat} {ws : List Wi} (h : OkS ways ws) (hc : OkC ways c) : m_never_falls (tS ways ws) (tN c) = pu (.bool (!fallsB ways c ws)) := by
  have hl := okB_len hc.toOkB h.wy
  unfold m_never_falls
  simp -implicitDefEqProofs only [bd_pu, means_of_ok h hc, g1, dLen_tN, li_some, rng_cI c.length (by omega)]
  rw [mf_map (c := cI) (g := fun i => .bool (decide (mn ways (c.take (i + 1)) ws < mn ways (c.take i) ws))) (fun x _ => rfl) fun i m => by
    have hi := List.mem_range.mp m
    have a1 : dAdd (cI i) (.int 1) = some (cI (i + 1)) := by unfold cI; rw [dAdd_i]; rfl
    have e1 : dIdx (.list ((List.range (c.length + 1)).map fun n => fq (mn ways (c.take n) ws))) (cI (i + 1)) = some (fq (mn ways (c.take (i + 1)) ws)) := dIdx_lm (by rw [List.getElem?_range (by omega)])
    have e2 : dIdx (.list ((List.range (c.length + 1)).map fun n => fq (mn ways (c.take n) ws))) (cI i) = some (fq (mn ways (c.take i) ws)) := dIdx_lm (by rw [List.getElem?_range (by omega)])
    have s1 := smq_mn (c.take (i + 1)) h
    have s2 := smq_mn (c.take i) h
    simp -implicitDefEqProofs only [u1, li_some, bd_pu, x1, a1, e1, e2, less_q (mn ways (c.take (i + 1)) ws) (mn ways (c.take i) ws) (by decide)]]
  simp -implicitDefEqProofs only [bd_pu, dAny_mapf, li_some, tb_bool, fe_rt]
  rfl
theorem law_less_mn {ways a b : List Nat} {ws : List Wi} (h : OkS ways ws) : m__law_b_less (fq (mn ways a ws)) (fq (mn ways b ws)) = pu (.bool (decide (mn ways a ws < mn ways b ws))) := by
  have s1 := smq_mn a h
  have s2 := smq_mn b h
  exact law_less_q _ _ (by decide)
theorem some_ok {ns : List Int} {k : Nat} {τ : T} {α : Type} {f : α → D} {l : List α} {d : D} (hd : d = .list (l.map f) ∨ d = .tuple (l.map f)) (h : TB ns k τ) (hk : k < 2 ^ 63) (h0 : 0 < l.length) (h1 : l.length < 2 ^ 63) (hns : ns.length ≤ 63) : Tri (m__law_b_some 0 d) τ fun d τ' => ∃ x ∈ l, d = f x ∧ TB ns (k + 1) τ' := by
  have e1 : g1 dLen [d] = some (.int (l.length : Nat)) := by rcases hd with rfl | rfl <;> simp [g1]
  have e2 : ∀ i : Nat, (hi : i < l.length) → dIdx d (cI i) = some (f l[i]) := fun i hi => by
    rcases hd with rfl | rfl
    · exact dIdx_lm (List.getElem?_eq_getElem hi)
    · exact dIdx_tm (List.getElem?_eq_getElem hi)
  unfold m__law_b_some
  simp only [tri_fe, tri_bd, tri_pu, e1, li_some]
  refine (takeN h hk h0 h1 hns).mono ?_
  rintro _ τ1 ⟨r, rfl, r1, t1⟩
  simp only [e2 r r1, li_some, tri_pu, feQ_rt]
  exact ⟨l[r], List.getElem_mem r1, rfl, t1⟩
theorem sixteen_ok {ns : List Int} {k : Nat} {τ : T} {ways : List Nat} {ws : List Wi} (ok : OkS ways ws) (h : TB ns k τ) (hk : k < 2 ^ 50) (hns : ns.length ≤ 63) : Tri (m__law_b_sixteen 0 (tS ways ws)) τ fun d τ' => ∃ ws', d = tS ways ws' ∧ OkS ways ws' ∧ (ws' = ws ∨ ws'.length = 16) ∧ TB ns (k + 600) τ' := by
  have hl := ok.len
  unfold m__law_b_sixteen
  simp only [tri_fe, tri_bd, tri_pu]
  refine (takeN (m := 8) h (by omega) (by decide) (by decide) hns).mono ?_
  rintro _ τ1 ⟨r, rfl, r1, t1⟩
  simp only [cI, dGt_i, li_some, tri_pu, tri_ite]
  by_cases c : (0 : Int) < (r : Int)
  · rw [decide_eq_true c, if_pos rfl]
    simp only [tri_bd, tri_pu, feQ_rt]
    exact ⟨ws, rfl, ok, .inl rfl, t1.mono (by omega)⟩
  · rw [decide_eq_false c, if_neg Bool.false_ne_true]
    have e1 : dSub (.int 16) (.int (ws.length : Nat)) = some (cI (16 - ws.length)) := by
      rw [dSub_i]
      unfold cI
      congr 2
      omega
    simp only [tri_bd, tri_pu, tS, uN, List.length_cons, List.length_nil, if_true, Nat.zero_add, Nat.reduceAdd, li_some, x2, g1, dLen_t, List.length_map, e1, rng_cI (16 - ws.length) (by omega)]
    refine tri_mfR (c := cI) tW (fun _ w => OkW ways w) (fun i τ => TB ns (k + 1 + 30 * i) τ) (List.range (16 - ws.length)) (fun d => rfl) (t1.mono (by omega)) ?_ ?_
    · intro i x τ5 hx t5
      have hi : i < 16 - ws.length := by
        have := (List.getElem?_eq_some_iff.mp hx).1
        simpa using this
      simp -implicitDefEqProofs only [u1, li_some, bd_pu, x1]
      refine (wish_ok ok.wy t5 (by omega) hns).mono ?_
      rintro _ τ6 ⟨w, rfl, w1, t6⟩
      exact ⟨⟨w, rfl, w1⟩, t6.mono (by omega)⟩
    · intro vs τ5 hvl hy t5
      rw [List.length_range] at hvl t5
      have e2 : dAdd (.tuple (ws.map tW)) (.tuple (vs.map tW)) = some (.tuple ((ws ++ vs).map tW)) := by
        rw [dAdd_tt (by simp; omega), ← List.map_append]
      simp only [tri_pu, tri_bd, g1, dTup_l, li_some, e2, feQ_rt]
      refine ⟨ws ++ vs, rfl, ⟨ok.wy, by simp; omega, fun w mw => ?_⟩, .inr (by simp; omega), t5.mono (by omega)⟩
      rcases List.mem_append.mp mw with mw | mw
      · exact ok.ok w mw
      · obtain ⟨i, hi, rfl⟩ := List.getElem_of_mem mw
        exact hy i _ _ (List.getElem?_eq_getElem (by rw [List.length_range]; omega)) (List.getElem?_eq_getElem hi)
end Q


set_option maxRecDepth 100000
set_option maxHeartbeats 4000000
namespace Q
open DL PySem PySem.Spec PyProof.Rows L2 RZ

/-! means: one way on, at the end -/
def qs (m : Nat) (f : Nat → Rat) : Rat := qsum ((List.range m).map f)
theorem qs_zero (f : Nat → Rat) : qs 0 f = 0 := rfl
theorem qs_succ (m : Nat) (f : Nat → Rat) : qs (m + 1) f = qs m f + f m := by
  unfold qs
  rw [List.range_succ, List.map_append, qsum_append]
  simp only [List.map_cons, List.map_nil, qsum]
  grind
theorem qs_congr {m : Nat} {f g : Nat → Rat} (h : ∀ i, i < m → f i = g i) : qs m f = qs m g := by
  unfold qs
  rw [List.map_congr_left fun i mi => h i (List.mem_range.mp mi)]
theorem qs_add (m : Nat) (f g : Nat → Rat) : qs m (fun x => f x + g x) = qs m f + qs m g := qsum_add f g _
theorem qs_mul (m : Nat) (c : Rat) (f : Nat → Rat) : qs m (fun x => c * f x) = c * qs m f := by
  unfold qs
  rw [qsum_mul, List.map_map]
  rfl
theorem qs_const (m : Nat) (c : Rat) : qs m (fun _ => c) = m * c := by
  unfold qs
  rw [qsum_const, List.length_range]
theorem qs_sub (m : Nat) (f g : Nat → Rat) : qs m (fun x => f x - g x) = qs m f - qs m g := by
  have := qs_add m (fun x => f x - g x) g
  have e : qs m (fun x => f x - g x + g x) = qs m f := qs_congr fun i _ => by grind
  rw [e] at this
  grind
theorem qs_one (m y : Nat) : qs m (fun x => if x = y then 1 else 0) = if y < m then 1 else 0 := by
  induction m with
  | zero => simp [qs_zero]
  | succ m ih =>
    rw [qs_succ, ih]
    by_cases h1 : y < m
    · rw [if_pos h1, if_neg (by omega), if_pos (by omega)]
      grind
    · by_cases h2 : m = y
      · rw [if_neg h1, if_pos h2, if_pos (by omega)]
        grind
      · rw [if_neg h1, if_neg h2, if_neg (by omega)]
        grind
theorem qs_count {m : Nat} : ∀ {l : List Nat}, l.Pairwise (· < ·) → (∀ x ∈ l, x < m) → qs m (fun x => if x ∈ l then 1 else 0) = (l.length : Rat)
  | [], _, _ => by
    simp only [List.not_mem_nil, if_false, List.length_nil]
    rw [qs_const]
    grind
  | y :: l, h, hm => by
    obtain ⟨h1, h2⟩ := List.pairwise_cons.mp h
    have ih := qs_count h2 fun x mx => hm x (List.mem_cons_of_mem _ mx)
    have e : qs m (fun x => if x ∈ y :: l then 1 else 0) = qs m (fun x => (if x = y then 1 else 0) + if x ∈ l then 1 else 0) := qs_congr fun i _ => by
      by_cases c : i = y
      · subst c
        have : i ∉ l := fun mi => absurd (h1 i mi) (Nat.lt_irrefl _)
        simp [this]
        grind
      · simp only [List.mem_cons, c, false_or, if_false]
        grind
    rw [e, qs_add, ih, qs_one, if_pos (hm y List.mem_cons_self), List.length_cons]
    grind
theorem mm_ne {ways b : List Nat} {p : Nat × List Nat} (x : Nat) (h : p.1 ≠ b.length) : mm ways (b ++ [x]) p = mm ways b p := by
  unfold mm
  by_cases c : p.1 < b.length
  · have e : (b ++ [x]).getD p.1 0 = b.getD p.1 0 := by
      rw [List.getD_eq_getElem?_getD, List.getD_eq_getElem?_getD, List.getElem?_append_left c]
    rw [if_pos c, if_pos (by simp; omega), e]
  · rw [if_neg c, if_neg (by simp; omega)]
theorem mm_at {ways b : List Nat} {p : Nat × List Nat} (x : Nat) (h : p.1 = b.length) : mm ways (b ++ [x]) p = if x ∈ p.2 then 1 else 0 := by
  unfold mm
  have e : (b ++ [x]).getD p.1 0 = x := by rw [h]; simp [List.getD_eq_getElem?_getD]
  rw [if_pos (by simp; omega), e]
theorem mm_on {ways b : List Nat} (hw : OkWays ways) {p : Nat × List Nat} (hp : OkP ways p) (h : p.1 = b.length) : qs (ways.getD b.length 0) (fun x => mm ways (b ++ [x]) p) = (ways.getD b.length 0 : Nat) * mm ways b p := by
  have h1 := ways_hi hw hp.lt
  rw [h] at h1
  rw [qs_congr fun x _ => mm_at x h, qs_count hp.up (by rw [← h]; exact hp.be)]
  unfold mm
  rw [if_neg (by omega), h]
  have : ((ways.getD b.length 0 : Int) : Rat) ≠ 0 := by rw [Ne, Rat.intCast_eq_zero_iff]; omega
  have e : ((ways.getD b.length 0 : Nat) : Rat) = ((ways.getD b.length 0 : Int) : Rat) := (Rat.intCast_natCast _).symm
  have e2 : ((p.2.length : Nat) : Rat) = ((p.2.length : Int) : Rat) := (Rat.intCast_natCast _).symm
  rw [e, e2]
  grind
theorem prod_on {m j : Nat} {g : Nat → Nat × List Nat → Rat} {f : Nat × List Nat → Rat} : ∀ {ps : List (Nat × List Nat)}, (ps.map Prod.fst).Pairwise (· < ·) → (∀ p ∈ ps, ∀ x, p.1 ≠ j → g x p = f p) → (∀ p ∈ ps, p.1 = j → qs m (fun x => g x p) = m * f p) →
    qs m (fun x => qprod (ps.map (g x))) = m * qprod (ps.map f)
  | [], _, _, _ => by simp only [List.map_nil, qprod]; exact qs_const m 1
  | p :: ps, hp, h1, h2 => by
    rw [List.map_cons] at hp
    obtain ⟨a1, a2⟩ := List.pairwise_cons.mp hp
    simp only [List.map_cons, qprod]
    by_cases c : p.1 = j
    · have e : ∀ x, qprod (ps.map (g x)) = qprod (ps.map f) := fun x => by
        congr 1
        refine List.map_congr_left fun q mq => h1 q (List.mem_cons_of_mem _ mq) x ?_
        have := a1 q.1 (List.mem_map.mpr ⟨q, mq, rfl⟩)
        omega
      rw [qs_congr fun x _ => by rw [e x, Rat.mul_comm], qs_mul, h2 p List.mem_cons_self c]
      grind
    · have ih := prod_on a2 (fun q mq => h1 q (List.mem_cons_of_mem _ mq)) fun q mq => h2 q (List.mem_cons_of_mem _ mq)
      rw [qs_congr fun x _ => by rw [h1 p List.mem_cons_self x c], qs_mul, ih]
      grind
theorem km_on {ways b : List Nat} (hw : OkWays ways) {w : Wi} (ow : OkW ways w) : qs (ways.getD b.length 0) (fun x => km ways (b ++ [x]) w) = (ways.getD b.length 0 : Nat) * km ways b w := by
  unfold km
  cases w.k with
  | true =>
    simp only [if_true]
    exact prod_on ow.up (fun p _ x c => mm_ne x c) fun p m c => mm_on hw (ow.ps p m) c
  | false =>
    simp only [Bool.false_eq_true, if_false]
    have := prod_on (m := ways.getD b.length 0) (j := b.length) (g := fun x p => 1 - mm ways (b ++ [x]) p) (f := fun p => 1 - mm ways b p) ow.up (fun p _ x c => by rw [mm_ne x c]) fun p m c => by
      rw [qs_sub, qs_const, mm_on hw (ow.ps p m) c]
      grind
    rw [qs_sub, qs_const, this]
    grind
theorem mn_on {ways b : List Nat} {ws : List Wi} (h : OkS ways ws) : qs (ways.getD b.length 0) (fun x => mn ways (b ++ [x]) ws) = (ways.getD b.length 0 : Nat) * mn ways b ws := by
  have key : ∀ vs : List Wi, (∀ w ∈ vs, OkW ways w) → qs (ways.getD b.length 0) (fun x => mn ways (b ++ [x]) vs) = (ways.getD b.length 0 : Nat) * mn ways b vs := by
    intro vs
    induction vs with
    | nil => intro _; unfold mn; simp only [List.map_nil, qsum]; exact qs_const _ 0
    | cons w vs ih =>
      intro hv
      have i := ih fun v m => hv v (List.mem_cons_of_mem _ m)
      unfold mn at i ⊢
      simp only [List.map_cons, qsum]
      rw [qs_add, qs_mul, km_on h.wy (hv w List.mem_cons_self), i]
      grind
  exact key ws h.ok
theorem qs_le {m : Nat} {f g : Nat → Rat} (h : ∀ i, i < m → f i ≤ g i) : qs m f ≤ qs m g := qsum_le f g _ fun i mi => h i (List.mem_range.mp mi)
theorem qs_lt {c : Rat} {f : Nat → Rat} : ∀ {m : Nat}, 0 < m → (∀ i, i < m → f i < c) → qs m f < m * c
  | 0, h, _ => absurd h (Nat.lt_irrefl _)
  | m + 1, _, hf => by
    have h1 := hf m (by omega)
    rw [qs_succ]
    by_cases z : m = 0
    · subst z
      rw [qs_zero]
      grind
    · have ih := qs_lt (c := c) (f := f) (m := m) (by omega) fun i hi => hf i (by omega)
      grind
/-- some way is no worse than the mean -/
theorem some_ge {ways b : List Nat} {ws : List Wi} (h : OkS ways ws) (hb : b.length < ways.length) : ∃ x, x < ways.getD b.length 0 ∧ ¬ mn ways (b ++ [x]) ws < mn ways b ws := by
  have hw := ways_hi h.wy hb
  apply Classical.byContradiction
  intro n
  have all : ∀ x, x < ways.getD b.length 0 → mn ways (b ++ [x]) ws < mn ways b ws := fun x hx => Classical.byContradiction fun c => n ⟨x, hx, c⟩
  have h1 := qs_lt (m := ways.getD b.length 0) (by omega) all
  rw [mn_on h] at h1
  exact Rat.lt_irrefl h1
/-- the best way is no worse than the mean -/
theorem bestOn_ge {ways b : List Nat} {ws : List Wi} (h : OkS ways ws) (hb : b.length < ways.length) : mn ways b ws ≤ mn ways (bestOn ways ws b) ws := by
  obtain ⟨x, hx, hn⟩ := some_ge h hb
  have := bestW_ge (f := fun w => mn ways (b ++ [w]) ws) hx
  exact Rat.le_trans (Rat.not_lt.mp hn) this
/-! at the end: the worth -/
theorem prod_ind {α : Type} (t : α → Bool) : ∀ (l : List α), qprod (l.map fun x => if t x = true then (1 : Rat) else 0) = if l.all t = true then 1 else 0
  | [] => rfl
  | x :: l => by
    rw [List.map_cons, qprod, prod_ind t l, List.all_cons]
    cases t x <;> simp
theorem km_full {ways c : List Nat} (hc : OkC ways c) {w : Wi} (ow : OkW ways w) : km ways c w = if kept c w = true then 1 else 0 := by
  have e : ∀ p ∈ w.ps, mm ways c p = if metp c p = true then 1 else 0 := fun p m => by
    have := (ow.ps p m).lt
    unfold mm metp
    rw [if_pos (by rw [hc.eq]; exact this)]
    simp
  unfold km kept
  cases w.k with
  | true =>
    simp only [if_true]
    rw [List.map_congr_left e, prod_ind]
  | false =>
    simp only [Bool.false_eq_true, if_false]
    have e2 : w.ps.map (fun p => 1 - mm ways c p) = w.ps.map fun p => if (!metp c p) = true then (1 : Rat) else 0 := List.map_congr_left fun p m => by
      rw [e p m]
      cases metp c p <;> simp <;> grind
    rw [e2, prod_ind]
    have e3 : w.ps.any (metp c) = !w.ps.all fun p => !metp c p := by simp [List.any_eq_not_all_not]
    rw [e3]
    cases w.ps.all fun p => !metp c p <;> simp <;> grind
theorem mn_full {ways c : List Nat} {ws : List Wi} (h : OkS ways ws) (hc : OkC ways c) : mn ways c ws = (wo c ws : Nat) := by
  have key : ∀ vs : List Wi, (∀ w ∈ vs, OkW ways w) → mn ways c vs = (wo c vs : Nat) := by
    intro vs
    induction vs with
    | nil => intro _; rfl
    | cons w vs ih =>
      intro hv
      have i := ih fun v m => hv v (List.mem_cons_of_mem _ m)
      have e : mn ways c (w :: vs) = ((w.w : Int) : Rat) * km ways c w + mn ways c vs := rfl
      rw [e, i, km_full hc (hv w List.mem_cons_self)]
      unfold wo
      by_cases k : kept c w = true
      · rw [List.filter_cons_of_pos k, List.map_cons, List.sum_cons, if_pos k, Rat.natCast_add, Rat.intCast_natCast]
        grind
      · rw [List.filter_cons_of_neg k, if_neg k]
        grind
  exact key ws h.ok
end Q


set_option maxRecDepth 100000
set_option maxHeartbeats 1000000
namespace Q
open DL PySem PySem.Spec PyProof.Rows L2 RZ

/-! repr: texts that are not too long -/
structure Sn (n : Nat) (d : D) : Prop where
  sw : d.showable = true
  le : d.shown.length ≤ n
theorem Sn.mono {n m : Nat} {d : D} (h : Sn n d) (l : n ≤ m) : Sn m d := ⟨h.sw, Nat.le_trans h.le l⟩
theorem piled_le {n : Nat} : ∀ {ts : List Str}, (∀ t ∈ ts, t.length ≤ n) → piled ts ≤ ts.length * (n + 2)
  | [], _ => by simp [piled]
  | t :: ts, h => by
    have h1 := h t List.mem_cons_self
    have h2 := piled_le fun x m => h x (List.mem_cons_of_mem _ m)
    rw [piled_cons, List.length_cons, Nat.succ_mul]
    omega
theorem textFrom_le {n : Nat} : ∀ (ts : List Str) (k : Nat) (acc : Str), (∀ t ∈ ts, t.length ≤ n) → (textFrom k acc ts).length ≤ acc.length + ts.length * (n + 2)
  | [], k, acc, _ => by show acc.length ≤ _; omega
  | t :: ts, k, acc, h => by
    have h1 := h t List.mem_cons_self
    have h2 := textFrom_le ts (k + 1) (acc ++ (if k > 0 then ", " else "" : String) ++ t) fun x m => h x (List.mem_cons_of_mem _ m)
    have e : (acc ++ (if k > 0 then ", " else "" : String) ++ t).length ≤ acc.length + 2 + t.length := by
      rw [strLen_append, strLen_append]
      have : ((if k > 0 then ", " else "" : String) : Str).length ≤ 2 := by split <;> decide
      omega
    rw [List.length_cons, Nat.succ_mul]
    show (textFrom (k + 1) (acc ++ (if k > 0 then ", " else "" : String) ++ t) ts).length ≤ _
    omega
theorem sn_all {n : Nat} : ∀ {ds : List D}, (∀ d ∈ ds, Sn n d) → PyData.showableAll ds = true ∧ (PyData.shownAll ds).length = ds.length ∧ ∀ t ∈ PyData.shownAll ds, t.length ≤ n
  | [], _ => ⟨rfl, rfl, by simp [PyData.shownAll]⟩
  | d :: ds, h => by
    have h1 := h d List.mem_cons_self
    obtain ⟨a, b, c⟩ := sn_all fun x m => h x (List.mem_cons_of_mem _ m)
    refine ⟨by rw [PyData.showableAll, h1.sw, a]; rfl, by rw [PyData.shownAll, List.length_cons, b, List.length_cons], fun t m => ?_⟩
    rw [PyData.shownAll] at m
    rcases List.mem_cons.mp m with rfl | m
    · exact h1.le
    · exact c t m
theorem sn_list {n m : Nat} {ds : List D} (h : ∀ d ∈ ds, Sn n d) (hm : ds.length ≤ m) : Sn (m * (n + 2) + 3) (.list ds) := by
  obtain ⟨a, b, c⟩ := sn_all h
  refine ⟨by rw [PyData.showable]; exact a, ?_⟩
  rw [PyData.shown]
  unfold listText
  rw [strLen_append]
  have h1 := textFrom_le (PyData.shownAll ds) 0 "[" c
  have h2 : ds.length * (n + 2) ≤ m * (n + 2) := Nat.mul_le_mul_right _ hm
  have e1 : (("[" : String) : Str).length = 1 := rfl
  have e2 : (("]" : String) : Str).length = 1 := rfl
  rw [b] at h1
  omega
theorem sn_tup {n m : Nat} {ds : List D} (h : ∀ d ∈ ds, Sn n d) (hm : ds.length ≤ m) : Sn (m * (n + 2) + 3) (.tuple ds) := by
  obtain ⟨a, b, c⟩ := sn_all h
  refine ⟨by rw [PyData.showable]; exact a, ?_⟩
  rw [PyData.shown]
  unfold tupleText
  rw [strLen_append, strLen_append]
  have h1 := piled_le c
  have h2 : ds.length * (n + 2) ≤ m * (n + 2) := Nat.mul_le_mul_right _ hm
  have e1 : (("(" : String) : Str).length = 1 := rfl
  have e2 : ((if ((PyData.shownAll ds).length == 1) = true then ",)" else ")" : String) : Str).length ≤ 2 := by split <;> decide
  rw [b] at h1
  by_cases z : PyData.shownAll ds = []
  · rw [z]
    have : (Str.join ", " []).length = 0 := rfl
    have e3 : ((if (([] : List Str).length == 1) = true then ",)" else ")" : String) : Str).length = 1 := rfl
    omega
  · have := join_length_add (PyData.shownAll ds) z
    omega
theorem sn_int {i : Int} (h : i.natAbs.log2 < 1920) : Sn 1921 (.int i) := ⟨by simpa [PyData.showable] using h, int_text_len_1921 h⟩
theorem sn_cI {n : Nat} (h : n < 1000) : Sn 4 (cI n) := by
  refine ⟨?_, ?_⟩
  · have : (n : Int).natAbs.log2 ≤ 9 := log2_le (by omega)
    unfold cI
    rw [PyData.showable]
    exact decide_eq_true (by omega)
  · have := int_text_length_le10 (a := (n : Int)) (k := 3) (by decide) (by omega)
    show (Str.ofString (toString (n : Int))).length ≤ 4
    rw [PySem.ofString_length]
    exact this
theorem sn_bool (b : Bool) : Sn 5 (.bool b) := by cases b <;> exact ⟨rfl, by decide⟩
theorem sn_none : Sn 4 .none := ⟨rfl, by decide⟩
theorem shw_of {n : Nat} {d : D} (h : Sh 64 d) (s : Sn n d) (hn : n ≤ 16777216) : shwOk d = true := by
  unfold shwOk
  rw [okR_of d h.1, s.sw, decide_eq_true (Nat.le_trans s.le hn), decide_eq_true h.2]
  rfl
theorem dRepr_t {n : Nat} {ds : List D} (h : Sh 64 (.tuple ds)) (s : Sn n (.tuple ds)) (hn : n ≤ 16777216) : dRepr (.tuple ds) = some (.str (PyData.tuple ds).shown) := if_pos (shw_of h s hn)
theorem dRepr_l {n : Nat} {ds : List D} (h : Sh 64 (.list ds)) (s : Sn n (.list ds)) (hn : n ≤ 16777216) : dRepr (.list ds) = some (.str (PyData.list ds).shown) := if_pos (shw_of h s hn)
theorem dNe_str_self (s : Str) : dNe (.str s) (.str s) = some false := by
  show (some (s == s)).map _ = _
  simp
theorem dEq_str_self (s : Str) : dEq (.str s) (.str s) = some true := by
  show some (s == s) = _
  simp
theorem sn_tN {l : List Nat} (h : ∀ x ∈ l, x < 1000) (hl : l.length ≤ 10) : Sn 63 (tN l) := sn_tup (n := 4) (m := 10) (fun d m => by
  obtain ⟨i, mi, rfl⟩ := List.mem_map.mp m
  exact sn_cI (h i mi)) (by rw [List.length_map]; exact hl)
theorem sn_tK (k : Bool) : Sn 6 (tK k) := by cases k <;> exact ⟨rfl, by decide +kernel⟩
theorem sn_tP {ways : List Nat} (h : OkWays ways) {p : Nat × List Nat} (hp : OkP ways p) : Sn 133 (tP p) := by
  have h1 := hp.lt
  have h2 := h.len
  have h3 := ways_hi h hp.lt
  have h4 := part_len hp
  refine sn_tup (n := 63) (m := 2) (fun d m => ?_) (by simp)
  simp at m
  rcases m with rfl | rfl
  · exact (sn_cI (by omega)).mono (by decide)
  · exact sn_tN (fun x mx => by have := hp.be x mx; omega) (by omega)
theorem sn_tW {ways : List Nat} (h : OkWays ways) {w : Wi} (hw : OkW ways w) : Sn 4068 (tW w) := by
  have hl := ps_len h hw
  refine sn_tup (n := 1353) (m := 3) (fun d m => ?_) (by simp)
  simp at m
  rcases m with rfl | rfl | rfl
  · exact (sn_tK w.k).mono (by decide)
  · exact (sn_cI (by have := hw.le; omega)).mono (by decide)
  · exact sn_tup (n := 133) (m := 10) (fun d m => by
      obtain ⟨p, mp, rfl⟩ := List.mem_map.mp m
      exact sn_tP h (hw.ps p mp)) (by rw [List.length_map]; exact hl)
theorem sn_tS {ways : List Nat} {ws : List Wi} (h : OkS ways ws) : Sn 131000 (tS ways ws) := by
  have h1 : Sn 65123 (.tuple (ws.map tW)) := sn_tup (n := 4068) (m := 16) (fun d m => by
    obtain ⟨w, mw, rfl⟩ := List.mem_map.mp m
    exact sn_tW h.wy (h.ok w mw)) (by rw [List.length_map]; exact h.len)
  refine (sn_tup (n := 65123) (m := 2) (fun d m => ?_) (by simp)).mono (by decide)
  simp at m
  rcases m with rfl | rfl
  · exact (sn_tN (fun x mx => by have := h.wy.hi x mx; omega) h.wy.len).mono (by decide)
  · exact h1
theorem dRepr_S {ways : List Nat} {ws : List Wi} (h : OkS ways ws) : dRepr (tS ways ws) = some (.str (tS ways ws).shown) := dRepr_t ((sh_tS ways ws).mono (by decide)) (sn_tS h) (by decide)
end Q


set_option maxRecDepth 100000
set_option maxHeartbeats 1000000
namespace Q
open DL PySem PySem.Spec PyProof.Rows L2 RZ

/-! the laws' own worths -/
theorem len_filter_all {α : Type} (p : α → Bool) : ∀ (l : List α), decide ((l.filter p).length = l.length) = l.all p
  | [] => rfl
  | x :: l => by
    rw [List.all_cons]
    cases e : p x with
    | true =>
      rw [List.filter_cons_of_pos e, List.length_cons, List.length_cons, Bool.true_and, ← len_filter_all p l]
      exact decide_eq_decide.mpr (by omega)
    | false =>
      rw [List.filter_cons_of_neg (by simp [e]), Bool.false_and, List.length_cons]
      have := List.length_filter_le p l
      exact decide_eq_false (by omega)
theorem dNe_lnil {α : Type} (f : α → Nat) (l : List α) : dNe (.list (l.map fun x => cI (f x))) (.list []) = some (!decide (l = [])) := by
  have h1 : Sh 2 (.list (l.map fun x => cI (f x))) := sh_list fun d m => by
    obtain ⟨n, _, rfl⟩ := List.mem_map.mp m
    exact sh_cI _
  have h2 : Sh 2 (.list []) := sh_list fun d m => by cases m
  unfold dNe
  rw [dEq_ll (h1.mono (by decide)) (h2.mono (by decide))]
  cases l with
  | nil => rfl
  | cons x l => simp [PyData.eqvAll]
theorem filter_nil_any {α : Type} (p : α → Bool) (l : List α) : (!decide (l.filter p = [])) = l.any p := by
  cases e : l.any p with
  | false =>
    rw [decide_eq_true (List.filter_eq_nil_iff.mpr fun a m => by
      have := List.any_eq_false.mp e a m
      exact this)]
    rfl
  | true =>
    obtain ⟨x, m, h⟩ := List.any_eq_true.mp e
    rw [decide_eq_false fun z => by
      have := List.filter_eq_nil_iff.mp z x m
      exact this h]
    rfl
theorem law_kept_ok {ways c : List Nat} (hc : OkC ways c) {w : Wi} (hw : OkW ways w) : m__law_b_kept (tW w) (tN c) = pu (.bool (kept c w)) := by
  have e2 : dIdx (tW w) (.int 2) = some (.tuple (w.ps.map tP)) := dIdx_t2 _ _ _ _
  have e0 : dIdx (tW w) (.int 0) = some (tK w.k) := dIdx_t0 _ _
  have e3 : dLen (.list ((w.ps.filter (metp c)).map fun p => cI p.1)) = some (cI (w.ps.filter (metp c)).length) := by simp [cI]
  have e4 : dLen (.tuple (w.ps.map tP)) = some (cI w.ps.length) := by simp [cI]
  unfold m__law_b_kept kept
  simp -implicitDefEqProofs only [bd_pu, e2, li_some, dLst_t]
  rw [mf_filter (c := tP) (p := metp c) (g := fun p => cI p.1) (fun p m => by
    have hl : p.1 < c.length := by rw [hc.eq]; exact (hw.ps p m).lt
    simp -implicitDefEqProofs only [tP, uN, List.length_cons, List.length_nil, if_true, Nat.zero_add, Nat.reduceAdd, li_some, bd_pu, x2, dIdx_tN hl, dIn_tN]
    rfl) fun p m _ => by
    simp -implicitDefEqProofs only [tP, uN, List.length_cons, List.length_nil, if_true, Nat.zero_add, Nat.reduceAdd, li_some, bd_pu, x2]]
  simp -implicitDefEqProofs only [bd_pu, e0, li_some, dEq_tK]
  cases w.k with
  | true => simp -implicitDefEqProofs only [if_true, e3, e4, g1, li_some, bd_pu, dEq_c, Option.map_some, len_filter_all, fe_rt]
  | false => simp -implicitDefEqProofs only [Bool.false_eq_true, if_false, bd_pu, dNe_lnil, filter_nil_any, Option.map_some, li_some, fe_rt]
theorem dNe_bb (a b : Bool) : dNe (.bool a) (.bool b) = some (!decide (a = b)) := by cases a <;> cases b <;> rfl
theorem law_worth_ok {ways c : List Nat} {ws : List Wi} (h : OkS ways ws) (hc : OkC ways c) : m__law_b_worth (Q.tS ways ws) (tN c) = pu (cI (wo c ws)) := by
  have q := fo_enc (L := Empty) (body := m__law_b_worth_b1 (tN c)) (enc := cI) (c := tW) (G := fun t w => if kept c w then t + w.w else t) (fun _ => True) (xs := ws) (s := 0) trivial fun t w m _ => by
    have e1 : dIdx (tW w) (.int 1) = some (cI w.w) := dIdx_t1 _ _ _
    refine ⟨?_, trivial⟩
    unfold m__law_b_worth_b1
    simp -implicitDefEqProofs only [u1, li_some, bd_pu, x1, law_kept_ok hc (h.ok w m), dTru_b]
    cases kept c w with
    | true => simp -implicitDefEqProofs only [if_true, bd_pu, e1, li_some, dAdd_c, sq_nx]
    | false => simp -implicitDefEqProofs only [Bool.false_eq_true, if_false, sq_nx]
  have e : ∀ (l : List Wi) (t : Nat), l.foldl (fun t w => if kept c w = true then t + w.w else t) t = t + wo c l := by
    intro l
    induction l with
    | nil => intro t; rfl
    | cons w l ih =>
      intro t
      rw [List.foldl_cons, ih]
      unfold wo
      by_cases k : kept c w = true
      · rw [if_pos k, List.filter_cons_of_pos k, List.map_cons, List.sum_cons]; omega
      · rw [if_neg k, List.filter_cons_of_neg k]
  rw [e, Nat.zero_add] at q
  unfold m__law_b_worth
  simp -implicitDefEqProofs only [bd_pu, dIdx_S1, li_some, dLst_t]
  rw [show (PyData.int 0) = cI 0 from rfl, q.1]
  simp -implicitDefEqProofs only [sq_nx, bd_pu, fe_rt]
theorem asInts_cI : ∀ l : List Nat, asInts (l.map cI) = some (l.map fun n : Nat => (n : Int))
  | [] => rfl
  | x :: l => by
    show (asInts (l.map cI)).map _ = _
    rw [asInts_cI l]
    rfl
/-! the greatest of numbers from 0 on -/
def topN (f : Nat → Nat) (n : Nat) : Nat := (List.range n).foldl (fun b w => if f b < f w then w else b) 0
theorem top_key (f : Nat → Nat) : ∀ (n : Nat), (topN f n < n ∨ n = 0 ∧ topN f n = 0) ∧ (∀ i, i < n → f i ≤ f (topN f n)) ∧ ∀ i, i < topN f n → f i < f (topN f n)
  | 0 => ⟨.inr ⟨rfl, rfl⟩, fun i h => absurd h (Nat.not_lt_zero i), fun i h => absurd h (Nat.not_lt_zero i)⟩
  | n + 1 => by
    obtain ⟨h1, h2, h3⟩ := top_key f n
    have e : topN f (n + 1) = if f (topN f n) < f n then n else topN f n := by
      unfold topN
      rw [List.range_succ, List.foldl_append]
      rfl
    rw [e]
    by_cases c : f (topN f n) < f n
    · rw [if_pos c]
      refine ⟨.inl (by omega), fun i hi => ?_, fun i hi => ?_⟩
      · by_cases q : i = n
        · subst q; exact Nat.le_refl _
        · have := h2 i (by omega); omega
      · have := h2 i (by omega); omega
    · rw [if_neg c]
      refine ⟨.inl (by omega), fun i hi => ?_, h3⟩
      by_cases q : i = n
      · subst q; omega
      · exact h2 i (by omega)
theorem maxL_c (f : Nat → Nat) {n : Nat} (h : 0 < n) : dMax1 (.list ((List.range n).map fun w => cI (f w))) = some (cI (f (topN f n))) := by
  obtain ⟨h1, h2, h3⟩ := top_key f n
  have e : (List.range n).map (fun w => cI (f w)) = ((List.range n).map f).map cI := by rw [List.map_map]; rfl
  show (match asInts ((List.range n).map fun w => cI (f w)) with
    | some (n :: ns) => some (PyData.int (maxL n ns))
    | _ => none) = _
  rw [e, asInts_cI]
  obtain ⟨m, rfl⟩ : ∃ m, n = m + 1 := ⟨n - 1, by omega⟩
  rw [List.range_succ_eq_map, List.map_cons, List.map_cons]
  show some (PyData.int (maxL _ _)) = some (.int _)
  congr 2
  obtain ⟨g1, g2⟩ := maxL_ge (((List.range m).map Nat.succ).map f |>.map fun n : Nat => (n : Int)) (f 0 : Int)
  have g3 := maxL_mem (((List.range m).map Nat.succ).map f |>.map fun n : Nat => (n : Int)) (f 0 : Int)
  have le : maxL (f 0 : Int) (((List.range m).map Nat.succ).map f |>.map fun n : Nat => (n : Int)) ≤ (f (topN f (m + 1)) : Int) := by
    rcases g3 with g3 | g3
    · rw [g3]; have := h2 0 (by omega); omega
    · obtain ⟨y, my, ey⟩ := List.mem_map.mp g3
      obtain ⟨x, mx, ex⟩ := List.mem_map.mp my
      obtain ⟨w, mw, ew⟩ := List.mem_map.mp mx
      have hw := List.mem_range.mp mw
      have := h2 x (by omega)
      omega
  have ge : (f (topN f (m + 1)) : Int) ≤ maxL (f 0 : Int) (((List.range m).map Nat.succ).map f |>.map fun n : Nat => (n : Int)) := by
    by_cases z : topN f (m + 1) = 0
    · rw [z]; exact g1
    · refine g2 _ (List.mem_map.mpr ⟨_, List.mem_map.mpr ⟨topN f (m + 1), List.mem_map.mpr ⟨topN f (m + 1) - 1, List.mem_range.mpr (by omega), by omega⟩, rfl⟩, rfl⟩)
  omega
theorem index_c (f : Nat → Nat) {n : Nat} (h : 0 < n) : dIndex (.list ((List.range n).map fun w => cI (f w))) (cI (f (topN f n))) = some (cI (topN f n)) := by
  obtain ⟨h1, h2, h3⟩ := top_key f n
  have e : (List.range n).map (fun w => cI (f w)) = ((List.range n).map f).map cI := by rw [List.map_map]; rfl
  show (match asInts ((List.range n).map fun w => cI (f w)) with
    | some is => if ((f (topN f n) : Nat) : Int) ∈ is then some (PyData.int (is.idxOf ((f (topN f n) : Nat) : Int) : Nat)) else none
    | none => none) = _
  rw [e, asInts_cI]
  have hl : topN f n < n := by omega
  have mem : ((f (topN f n) : Nat) : Int) ∈ ((List.range n).map f).map fun n : Nat => (n : Int) := List.mem_map.mpr ⟨_, List.mem_map.mpr ⟨topN f n, List.mem_range.mpr hl, rfl⟩, rfl⟩
  show (if _ ∈ _ then _ else _) = _
  rw [if_pos mem]
  show some (PyData.int _) = some (.int _)
  congr 2
  have key : ((List.range n).map f).map (fun n : Nat => (n : Int)) = (List.range n).map fun w => ((f w : Nat) : Int) := by rw [List.map_map]; rfl
  rw [key]
  have : ((List.range n).map fun w => ((f w : Nat) : Int)).idxOf ((f (topN f n) : Nat) : Int) = topN f n := by
    unfold List.idxOf
    rw [List.findIdx_eq (by simpa using hl)]
    refine ⟨by simp, fun j hj => ?_⟩
    have := h3 j hj
    simp
    omega
  rw [this]
end Q


set_option maxRecDepth 100000
set_option maxHeartbeats 1000000
namespace Q
open DL PySem PySem.Spec PyProof.Rows L2 RZ

/-! all choosings -/
def exts : List Nat → List Nat → List (List Nat)
  | [], b => [b]
  | m :: r, b => (List.range m).flatMap fun w => exts r (b ++ [w])
def stepA (fs : List (List Nat)) (m : Nat) : List (List Nat) := fs.flatMap fun b => (List.range m).map fun w => b ++ [w]
def allC (ways : List Nat) : List (List Nat) := ways.foldl stepA [[]]
theorem allC_exts : ∀ (ways : List Nat) (fs : List (List Nat)), ways.foldl stepA fs = fs.flatMap (exts ways)
  | [], fs => by
    induction fs with
    | nil => rfl
    | cons b fs ih =>
      rw [List.flatMap_cons, ← ih]
      rfl
  | m :: r, fs => by
    rw [List.foldl_cons, allC_exts r]
    unfold stepA
    rw [List.flatMap_assoc]
    congr 1
    funext b
    rw [List.flatMap_map]
    rfl
theorem allC_eq (ways : List Nat) : allC ways = exts ways [] := by
  unfold allC
  rw [allC_exts]
  simp
theorem exts_mem : ∀ {r b c : List Nat}, c ∈ exts r b → c.take b.length = b ∧ c.length = b.length + r.length ∧ ∀ i, i < r.length → c.getD (b.length + i) 0 < r.getD i 0
  | [], b, c, h => by
    have e := List.mem_singleton.mp h
    subst e
    exact ⟨List.take_length, by simp, fun i hi => by simp at hi⟩
  | m :: r, b, c, h => by
    obtain ⟨w, mw, h⟩ := List.mem_flatMap.mp h
    have hw := List.mem_range.mp mw
    obtain ⟨h1, h2, h3⟩ := exts_mem h
    rw [List.length_append, List.length_singleton] at h1 h2 h3
    have hl : b.length < c.length := by omega
    have e1 : c.take b.length = b := by
      have := congrArg (List.take b.length) h1
      rw [List.take_take, Nat.min_eq_left (by omega)] at this
      rw [this]
      simp
    have e2 : c.getD b.length 0 = w := by
      have := congrArg (fun l => l.getD b.length 0) h1
      simp only [List.getD_eq_getElem?_getD] at this
      rw [List.getElem?_take_of_lt (by omega)] at this
      rw [List.getD_eq_getElem?_getD, this]
      simp
    refine ⟨e1, by rw [h2, List.length_cons]; omega, fun i hi => ?_⟩
    cases i with
    | zero => rw [Nat.add_zero, e2]; exact hw
    | succ i =>
      have := h3 i (by simpa using hi)
      rw [show b.length + (i + 1) = b.length + 1 + i by omega]
      simpa using this
theorem okC_exts {ways b c : List Nat} (hb : OkB ways b) (h : c ∈ exts (ways.drop b.length) b) : OkC ways c := by
  obtain ⟨h1, h2, h3⟩ := exts_mem h
  have hl := hb.len
  rw [List.length_drop] at h2 h3
  refine ⟨⟨by omega, fun i hi => ?_⟩, by omega⟩
  by_cases c1 : i < b.length
  · have e : c.getD i 0 = b.getD i 0 := by
      have := congrArg (fun l => l.getD i 0) h1
      simp only [List.getD_eq_getElem?_getD] at this
      rw [List.getElem?_take_of_lt c1] at this
      rw [List.getD_eq_getElem?_getD, this, ← List.getD_eq_getElem?_getD]
    rw [e]
    exact hb.be i c1
  · have := h3 (i - b.length) (by omega)
    rw [show b.length + (i - b.length) = i by omega] at this
    have e : (ways.drop b.length).getD (i - b.length) 0 = ways.getD i 0 := by
      rw [List.getD_eq_getElem?_getD, List.getElem?_drop, show b.length + (i - b.length) = i by omega, ← List.getD_eq_getElem?_getD]
    rw [e] at this
    exact this
theorem flat_one {α : Type} (L : List α) (x : Nat) : ∀ (m : Nat), (List.range m).flatMap (fun w => if w = x then L else []) = if x < m then L else []
  | 0 => by simp
  | m + 1 => by
    rw [List.range_succ, List.flatMap_append, flat_one L x m]
    simp only [List.flatMap_cons, List.flatMap_nil, List.append_nil]
    by_cases c : m = x
    · subst c; simp
    · by_cases d : x < m
      · rw [if_pos d, if_neg c, if_pos (by omega), List.append_nil]
      · rw [if_neg d, if_neg c, if_neg (by omega), List.append_nil]
theorem filter_exts : ∀ (t r b : List Nat), t.length ≤ r.length → (∀ i, i < t.length → t.getD i 0 < r.getD i 0) → (exts r b).filter (fun c => decide (c.take (b.length + t.length) = b ++ t)) = exts (r.drop t.length) (b ++ t)
  | [], r, b, _, _ => by
    simp only [List.length_nil, Nat.add_zero, List.append_nil, List.drop_zero]
    refine List.filter_eq_self.mpr fun c m => ?_
    exact decide_eq_true (exts_mem m).1
  | x :: t, [], b, h, _ => by simp at h
  | x :: t, m :: r, b, h, hx => by
    have h0 := hx 0 (by simp)
    have h0 : x < m := by simpa using h0
    have ih := filter_exts t r (b ++ [x]) (by simpa using h) fun i hi => by
      have := hx (i + 1) (by simpa using hi)
      simpa using this
    have e1 : (exts (m :: r) b).filter (fun c => decide (c.take (b.length + (x :: t).length) = b ++ x :: t)) = (List.range m).flatMap fun w => (exts r (b ++ [w])).filter fun c => decide (c.take (b.length + (x :: t).length) = b ++ x :: t) := by
      show ((List.range m).flatMap fun w => exts r (b ++ [w])).filter _ = _
      rw [List.filter_flatMap]
    have e2 : ∀ w, (exts r (b ++ [w])).filter (fun c => decide (c.take (b.length + (x :: t).length) = b ++ x :: t)) = if w = x then exts (r.drop t.length) (b ++ x :: t) else [] := by
      intro w
      by_cases c : w = x
      · subst c
        rw [if_pos rfl]
        have e3 : b.length + (w :: t).length = (b ++ [w]).length + t.length := by simp; omega
        have e4 : b ++ w :: t = (b ++ [w]) ++ t := by simp
        rw [e3, e4]
        exact ih
      · rw [if_neg c]
        refine List.filter_eq_nil_iff.mpr fun d md hd => c ?_
        have hd := of_decide_eq_true hd
        obtain ⟨g1, _, _⟩ := exts_mem md
        have g2 := congrArg (List.take (b.length + 1)) hd
        rw [List.take_take, Nat.min_eq_left (by simp)] at g2
        rw [List.length_append, List.length_singleton] at g1
        rw [g1] at g2
        have e5 : (b ++ x :: t).take (b.length + 1) = b ++ [x] := by
          rw [show b ++ x :: t = (b ++ [x]) ++ t by simp, List.take_append_of_le_length (by simp)]
          exact List.take_of_length_le (by simp)
        rw [e5] at g2
        simpa using g2
    rw [e1]
    conv => lhs; arg 1; ext w; rw [e2 w]
    rw [flat_one, if_pos h0]
    rfl
theorem filter_allC {ways b : List Nat} (hb : OkB ways b) : (allC ways).filter (fun c => decide (c.take b.length = b)) = exts (ways.drop b.length) b := by
  have := filter_exts b ways [] hb.len hb.be
  rw [allC_eq]
  simpa using this
/-! their mean -/
def cnt : List Nat → Nat
  | [] => 1
  | m :: r => m * cnt r
theorem qsum_flat {α β : Type} (f : β → Rat) (g : α → List β) : ∀ l : List α, qsum ((l.flatMap g).map f) = qsum (l.map fun x => qsum ((g x).map f))
  | [] => rfl
  | x :: l => by rw [List.flatMap_cons, List.map_append, qsum_append, qsum_flat f g l, List.map_cons, qsum]
theorem cnt_exts : ∀ (r b : List Nat), (exts r b).length = cnt r
  | [], b => rfl
  | m :: r, b => by
    show ((List.range m).flatMap fun w => exts r (b ++ [w])).length = m * cnt r
    rw [List.length_flatMap]
    simp only [cnt_exts r]
    rw [List.map_const', List.length_range, List.sum_replicate_nat]
theorem cnt_pos {r : List Nat} (h : ∀ n ∈ r, 1 ≤ n) : 1 ≤ cnt r := by
  induction r with
  | nil => exact Nat.le_refl 1
  | cons m r ih =>
    have h1 := h m List.mem_cons_self
    have h2 := ih fun n mn => h n (List.mem_cons_of_mem _ mn)
    exact Nat.mul_pos h1 h2
theorem cnt_le {r : List Nat} (h : ∀ n ∈ r, n ≤ 4) : cnt r ≤ 4 ^ r.length := by
  induction r with
  | nil => exact Nat.le_refl 1
  | cons m r ih =>
    have h1 := h m List.mem_cons_self
    have h2 := ih fun n mn => h n (List.mem_cons_of_mem _ mn)
    rw [List.length_cons, Nat.pow_succ, Nat.mul_comm (4 ^ r.length)]
    exact Nat.mul_le_mul h1 h2
/-- a mean that is that of those one way on -/
theorem mean_exts {ways : List Nat} {F : List Nat → Rat} {G : List Nat → Rat} (hf : ∀ c, OkC ways c → F c = G c) (ho : ∀ b, OkB ways b → b.length < ways.length → qs (ways.getD b.length 0) (fun x => F (b ++ [x])) = (ways.getD b.length 0 : Nat) * F b) :
    ∀ (r b : List Nat), OkB ways b → ways.drop b.length = r → qsum ((exts r b).map G) = (cnt r : Nat) * F b
  | [], b, hb, hd => by
    have hl : b.length = ways.length := by
      have := congrArg List.length hd
      have := hb.len
      simp at *
      omega
    show qsum [G b] = ((1 : Nat) : Rat) * F b
    rw [← hf b ⟨hb, hl⟩]
    simp only [qsum]
    grind
  | m :: r, b, hb, hd => by
    have hl : b.length < ways.length := by
      have := congrArg List.length hd
      simp at this
      omega
    have hn : ways.getD b.length 0 = m := by
      have := congrArg (fun l => l[0]?) hd
      simp at this
      rw [List.getD_eq_getElem?_getD, this]
      rfl
    have hd' : ways.drop (b.length + 1) = r := by
      have := congrArg (List.drop 1) hd
      simpa [List.drop_drop, Nat.add_comm] using this
    show qsum (((List.range m).flatMap fun w => exts r (b ++ [w])).map G) = ((m * cnt r : Nat) : Rat) * F b
    rw [qsum_flat]
    have e : (List.range m).map (fun x => qsum ((exts r (b ++ [x])).map G)) = (List.range m).map fun x => ((cnt r : Nat) : Rat) * F (b ++ [x]) := List.map_congr_left fun x mx => by
      have hx := List.mem_range.mp mx
      exact mean_exts hf ho r (b ++ [x]) (okB_snoc hb hl (by omega)) (by rw [List.length_append, List.length_singleton]; exact hd')
    rw [e]
    have e2 := qs_mul m ((cnt r : Nat) : Rat) fun x => F (b ++ [x])
    unfold qs at e2
    rw [e2]
    have e3 := ho b hb hl
    rw [hn] at e3
    unfold qs at e3
    rw [e3, Rat.natCast_mul]
    grind
theorem mean_all {ways b : List Nat} {ws : List Wi} (h : OkS ways ws) (hb : OkB ways b) : qsum ((exts (ways.drop b.length) b).map fun c => ((wo c ws : Nat) : Rat)) = (cnt (ways.drop b.length) : Nat) * mn ways b ws :=
  mean_exts (F := fun b => mn ways b ws) (fun c hc => mn_full h hc) (fun b _ _ => mn_on h) _ b hb rfl
theorem kept_all {ways b : List Nat} {w : Wi} (h : OkWays ways) (hw : OkW ways w) (hb : OkB ways b) : qsum ((exts (ways.drop b.length) b).map fun c => if kept c w = true then (1 : Rat) else 0) = (cnt (ways.drop b.length) : Nat) * km ways b w :=
  mean_exts (F := fun b => km ways b w) (fun c hc => km_full hc hw) (fun b _ _ => km_on h hw) _ b hb rfl
theorem qsum_nat {α : Type} (f : α → Nat) : ∀ l : List α, qsum (l.map fun x => ((f x : Nat) : Rat)) = (((l.map f).sum : Nat) : Rat)
  | [] => rfl
  | x :: l => by rw [List.map_cons, qsum, qsum_nat f l, List.map_cons, List.sum_cons, Rat.natCast_add]
theorem qsum_ind {α : Type} (p : α → Bool) : ∀ l : List α, qsum (l.map fun x => if p x = true then (1 : Rat) else 0) = (((l.filter p).length : Nat) : Rat)
  | [] => rfl
  | x :: l => by
    rw [List.map_cons, qsum, qsum_ind p l]
    cases e : p x with
    | true => rw [List.filter_cons_of_pos e, List.length_cons, if_pos rfl, Rat.natCast_add]; grind
    | false => rw [List.filter_cons_of_neg (by simp [e]), if_neg Bool.false_ne_true]; grind
theorem okC_allC {ways c : List Nat} (h : c ∈ allC ways) : OkC ways c := by
  rw [allC_eq] at h
  exact okC_exts (okB_nil ways) (by simpa using h)
theorem allC_len {ways : List Nat} : (allC ways).length = cnt ways := by rw [allC_eq, cnt_exts]
/-! the defs that tell them -/
theorem inner_all {L : Type} {body : List D → D → M (Fl (List D) (List D))} {m : Nat} (h : ∀ (acc : List D) (b : List Nat), b.length ≤ 10 → acc.length + m ≤ 16777216 → body acc (tN b) = pu (.nx (acc ++ (List.range m).map fun w => tN (b ++ [w])))) : ∀ (fs : List (List Nat)) (acc : List D), (∀ b ∈ fs, b.length ≤ 10) → acc.length + m * fs.length ≤ 16777216 →
    fo (L := L) body (fs.map tN) acc = pu (.nx (acc ++ (fs.flatMap fun b => (List.range m).map fun w => b ++ [w]).map tN))
  | [], acc, _, _ => by simp [fo]
  | b :: fs, acc, hb, hl => by
    rw [List.length_cons, Nat.mul_succ] at hl
    rw [List.map_cons, fo, h acc b (hb b List.mem_cons_self) (by omega), bd_pu]
    show fo _ _ _ = _
    rw [inner_all h fs _ (fun x mx => hb x (List.mem_cons_of_mem _ mx)) (by simp; omega), List.flatMap_cons, List.map_append, List.map_map, List.append_assoc]
    rfl
theorem outer_all {L : Type} {body : D → D → M (Fl D D)} (h : ∀ (fs : List (List Nat)) (m : Nat), m ≤ 4 → (∀ b ∈ fs, b.length ≤ 10) → fs.length * 4 ≤ 16777216 → body (.list (fs.map tN)) (cI m) = pu (.nx (.list ((stepA fs m).map tN)))) : ∀ (ws : List Nat) (fs : List (List Nat)) (n : Nat), (∀ m ∈ ws, m ≤ 4) → (∀ b ∈ fs, b.length = n) → n + ws.length ≤ 10 → fs.length ≤ 4 ^ n →
    fo (L := L) body (ws.map cI) (.list (fs.map tN)) = pu (.nx (.list ((ws.foldl stepA fs).map tN)))
  | [], fs, n, _, _, _, _ => rfl
  | m :: ws, fs, n, hm, hb, hn, hl => by
    rw [List.length_cons] at hn
    have h4 : (4 : Nat) ^ n ≤ 4 ^ 9 := Nat.pow_le_pow_right (by decide) (by omega)
    have hm1 := hm m List.mem_cons_self
    rw [List.map_cons, fo, h fs m hm1 (fun b mb => by rw [hb b mb]; omega) (by omega), bd_pu]
    show fo _ _ _ = _
    refine outer_all h ws (stepA fs m) (n + 1) (fun x mx => hm x (List.mem_cons_of_mem _ mx)) (fun b mb => ?_) (by omega) ?_
    · obtain ⟨c, mc, mb⟩ := List.mem_flatMap.mp mb
      obtain ⟨w, _, rfl⟩ := List.mem_map.mp mb
      simp [hb c mc]
    · unfold stepA
      rw [List.length_flatMap]
      simp only [List.length_map, List.length_range]
      rw [List.map_const', List.sum_replicate_nat, Nat.pow_succ]
      exact Nat.mul_le_mul hl hm1
theorem law_all_ok {ways : List Nat} (h : OkWays ways) : m__law_b_all_choosings (tN ways) = pu (.list ((allC ways).map tN)) := by
  have q := outer_all (L := Empty) (body := m__law_b_all_choosings_b2) (fun fs m hm hb hl => by
    have i := inner_all (L := D) (body := m__law_b_all_choosings_b1 (cI m)) (m := m) (fun acc b hb hl => by
      have ck1 : decide (acc.length + ((List.range m).map fun w => tN (b ++ [w])).length ≤ 16777216) = true := decide_eq_true (by simp; omega)
      unfold m__law_b_all_choosings_b1
      simp -implicitDefEqProofs only [u1, li_some, bd_pu, x1, rng_cI m (by omega)]
      rw [mf_map (c := cI) (g := fun w => tN (b ++ [w])) (fun x _ => rfl) fun w mw => by
        simp -implicitDefEqProofs only [u1, li_some, bd_pu, x1, dAdd_tN1 (a := b) (x := w) (by omega)]]
      simp -implicitDefEqProofs only [bd_pu, toL, ck1, ck_true]) fs [] hb (by
      have := Nat.mul_le_mul_right fs.length hm
      simp only [List.length_nil, Nat.zero_add]
      omega)
    unfold m__law_b_all_choosings_b2
    simp -implicitDefEqProofs only [u1, li_some, bd_pu, x1, dLst_l, i, sq_nx, List.nil_append]
    rfl) ways [[]] 0 h.hi (by simp) (by have := h.len; omega) (by simp)
  unfold m__law_b_all_choosings
  simp -implicitDefEqProofs only [bd_pu, li_some, tN, dLst_t]
  rw [show (PyData.list [.tuple []]) = .list ([[]].map tN) from rfl, q]
  simp -implicitDefEqProofs only [sq_nx, bd_pu, fe_rt]
  rfl
end Q


set_option maxRecDepth 100000
set_option maxHeartbeats 2000000
namespace DL
open PySem PySem.Spec PyProof.Rows L2
open PySem.W (alike alikeAll dataLt AlikeAll maxD minD)

/-! ### max, min, sorted and < of alike data -/
def noN : D → Bool
  | .none => false
  | _ => true
def alkB (ds : List D) : Bool := ds.all fun x => noN x && ds.all fun y => alike x y
def cmpOk (ds : List D) : Bool := alkB ds && SeqAt.shaped (.list ds)
theorem alkB_all {ds : List D} (h : alkB ds = true) : AlikeAll ds := by
  unfold alkB at h
  rw [List.all_eq_true] at h
  refine ⟨fun x mx y my => ?_, fun x mx e => ?_⟩
  · have := h x mx
    rw [Bool.and_eq_true, List.all_eq_true] at this
    exact this.2 y my
  · have := h x mx
    rw [Bool.and_eq_true] at this
    subst e
    exact absurd this.1 Bool.false_ne_true
def dMaxT : D → Option D
  | .list (d :: ds) => if cmpOk (d :: ds) then some (maxD d ds) else none
  | _ => none
def dMinT : D → Option D
  | .list (d :: ds) => if cmpOk (d :: ds) then some (minD d ds) else none
  | _ => none
theorem maxD_mem (x : D) (xs : List D) : maxD x xs ∈ x :: xs := by
  unfold maxD
  induction xs generalizing x with
  | nil => exact List.mem_cons_self
  | cons y r ih =>
    rw [List.foldl_cons]
    rcases List.mem_cons.mp (ih (if dataLt x y = true then y else x)) with h | h
    · rw [h]
      split
      · exact List.mem_cons_of_mem _ List.mem_cons_self
      · exact List.mem_cons_self
    · exact List.mem_cons_of_mem _ (List.mem_cons_of_mem _ h)
theorem minD_mem (x : D) (xs : List D) : minD x xs ∈ x :: xs := by
  unfold minD
  induction xs generalizing x with
  | nil => exact List.mem_cons_self
  | cons y r ih =>
    rw [List.foldl_cons]
    rcases List.mem_cons.mp (ih (if dataLt y x = true then y else x)) with h | h
    · rw [h]
      split
      · exact List.mem_cons_of_mem _ List.mem_cons_self
      · exact List.mem_cons_self
    · exact List.mem_cons_of_mem _ (List.mem_cons_of_mem _ h)
def rBestT (K : PySem.W.Frag) (best : D → List D → D) : List V → Hp → VK → Prop := fun vs H Q => ∃ (a : Addr) (ys : List V) (x : D) (xs : List D), vs = [V.ref a] ∧ SqL K H a ys ∧ Dp K H (.ref a) (.list (x :: xs)) ∧ AlikeAll (x :: xs) ∧ PyData.depthAll (x :: xs) < 64 ∧
  ∀ (i : Nat) (v : V), ys[i]? = some v → (x :: xs)[i]? = some (best x xs) → Q v H
theorem isList_one {s : Shared} {l : Addr} {a b : Array Value} (h : s.heap.IsList l a) (k : s.heap.IsList l b) : a = b := by
  obtain ⟨o, e1, e2, n, e3⟩ := h
  obtain ⟨o', f1, f2, n', f3⟩ := k
  rw [e1] at f1
  cases f1
  rw [e3] at f3
  cases f3
  rfl
section
variable {X : Cx}
theorem dpL_reads {pins : List (Addr × Obj)} {σ : List (Option V)} {H : Hp} {s : Shared} (I : L2.Inv X pins σ H s) {a : Addr} {ds : List D} {its : Array Value} (dp : Dp X.K H (.ref a) (.list ds)) (hl : s.heap.IsList a its) :
    ∃ as, ReadsAll s.heap its.toList ds as := by
  obtain ⟨as, rd⟩ := Dp.reads I (.list ds) (.ref a) (.ref a) dp rfl
  cases rd with
  | @list l o vs n _ as₁ h1 h2 h3 h4 =>
    have e : vs = its := isList_one ⟨_, h1, h2, _, h3⟩ hl
    subst e
    exact ⟨_, h4⟩
theorem getD_some {xs : List D} {i : Nat} {d : D} (h : xs.getD i .none = d) (hi : i < xs.length) : xs[i]? = some d := by
  subst h
  rw [List.getD_eq_getElem?_getD, List.getElem?_eq_getElem hi]
  rfl
theorem cr_maxT (hc : X.calm = true) (hu : X.A.units + 64 < cLine) : CallR X (.builtin "max") (rBestT X.K maxD) := by
  intro pins s σ H vs us Q I r h
  obtain ⟨a, ys, x, xs, rfl, hs, dp, hal, hd, q⟩ := h
  obtain ⟨its, rv, hl, _⟩ := I.list hs
  rw [Vals.ref1 r]
  obtain ⟨as, rd⟩ := dpL_reads I dp hl.isList
  refine PySem.W.max_list_data (I.ok.hd hc) hl.isList rd hal (by omega) fun i v h' tk bs hi hR hk => ?_
  have hi' : its[i]? = some v := by rw [← hi]; simp
  obtain ⟨bs', r1, il, mi, _⟩ := PySem.W.readsAll_atA rd i v hi
  have e := PySem.W.alike_unique _ _ v _ _ (hal.1 _ mi _ (maxD_mem x xs)) (PySem.W.reads_keeps hk r1) hR
  have ei := getD_some e il
  have hy : i < ys.length := by
    rw [rv.length]
    obtain ⟨lt, _⟩ := List.getElem?_eq_some_iff.mp hi'
    exact lt
  obtain ⟨u, hu1, hu2⟩ := Vals.get rv (List.getElem?_eq_getElem hy)
  rw [hi'] at hu1
  cases hu1
  exact ⟨ys[i], H, I.kept hk, hu2, q i _ (List.getElem?_eq_getElem hy) ei⟩
theorem cr_minT (hc : X.calm = true) (hu : X.A.units + 64 < cLine) : CallR X (.builtin "min") (rBestT X.K minD) := by
  intro pins s σ H vs us Q I r h
  obtain ⟨a, ys, x, xs, rfl, hs, dp, hal, hd, q⟩ := h
  obtain ⟨its, rv, hl, _⟩ := I.list hs
  rw [Vals.ref1 r]
  obtain ⟨as, rd⟩ := dpL_reads I dp hl.isList
  refine PySem.W.min_list_data (I.ok.hd hc) hl.isList rd hal (by omega) fun i v h' tk bs hi hR hk => ?_
  have hi' : its[i]? = some v := by rw [← hi]; simp
  obtain ⟨bs', r1, il, mi, _⟩ := PySem.W.readsAll_atA rd i v hi
  have e := PySem.W.alike_unique _ _ v _ _ (hal.1 _ mi _ (minD_mem x xs)) (PySem.W.reads_keeps hk r1) hR
  have ei := getD_some e il
  have hy : i < ys.length := by
    rw [rv.length]
    obtain ⟨lt, _⟩ := List.getElem?_eq_some_iff.mp hi'
    exact lt
  obtain ⟨u, hu1, hu2⟩ := Vals.get rv (List.getElem?_eq_getElem hy)
  rw [hi'] at hu1
  cases hu1
  exact ⟨ys[i], H, I.kept hk, hu2, q i _ (List.getElem?_eq_getElem hy) ei⟩
end
theorem depthAll_of {ds : List D} (h : SeqAt.shaped (.list ds) = true) : PyData.depthAll ds < 64 := by
  have := SeqAt.depth_of_shaped h
  have e : (PyData.list ds).depth = PyData.depthAll ds + 1 := by first | rfl | simp [PyData.depth] | (simp [PyData.depth]; omega)
  omega
theorem cl_maxT {K : PySem.W.Frag} : CallD K (rBestT K maxD) (g1 dMaxT) := by
  intro O H ds d vs Q hO hf h e q
  obtain ⟨d1, v, rfl, rfl, r, e⟩ := repA1 h e
  unfold dMaxT at e
  split at e
  · rename_i x xs _
    split at e
    · rename_i ok
      cases e
      unfold cmpOk at ok
      rw [Bool.and_eq_true] at ok
      have dp := dp_of ok.2 r
      obtain ⟨a, ys, rfl, h1, h3⟩ := rep_lst r
      refine ⟨a, ys, x, xs, rfl, h1, dp, alkB_all ok.1, depthAll_of ok.2, fun i v hv hd => ?_⟩
      obtain ⟨v', e1, rp⟩ := RepA.get h3 hd
      rw [hv] at e1
      cases e1
      exact q v H (same_refl H) rp
    · cases e
  · cases e
theorem cl_minT {K : PySem.W.Frag} : CallD K (rBestT K minD) (g1 dMinT) := by
  intro O H ds d vs Q hO hf h e q
  obtain ⟨d1, v, rfl, rfl, r, e⟩ := repA1 h e
  unfold dMinT at e
  split at e
  · rename_i x xs _
    split at e
    · rename_i ok
      cases e
      unfold cmpOk at ok
      rw [Bool.and_eq_true] at ok
      have dp := dp_of ok.2 r
      obtain ⟨a, ys, rfl, h1, h3⟩ := rep_lst r
      refine ⟨a, ys, x, xs, rfl, h1, dp, alkB_all ok.1, depthAll_of ok.2, fun i v hv hd => ?_⟩
      obtain ⟨v', e1, rp⟩ := RepA.get h3 hd
      rw [hv] at e1
      cases e1
      exact q v H (same_refl H) rp
    · cases e
  · cases e
/-! ### sorted -/
def tupB : D → Bool
  | .tuple (_ :: _) => true
  | _ => false
def rSortT (K : PySem.W.Frag) : List V → Hp → VK → Prop := fun vs H Q => ∃ (a : Addr) (ys : List V) (ds : List D), vs = [V.ref a] ∧ SqL K H a ys ∧ ys.length = ds.length ∧ Dp K H (.ref a) (.list ds) ∧ AlikeAll ds ∧ PyData.depthAll ds < 60 ∧ (∀ d ∈ ds, ∃ x r, d = .tuple (x :: r)) ∧
  ∀ (zs : List (V × D)) (p : Addr), zs = (ys.zip ds).mergeSort (fun x y => !dataLt y.2 x.2) → H p = none → Q (.ref p) (upd H p (.lst (zs.map Prod.fst)))
theorem depth_mem {d : D} : ∀ {ds : List D}, d ∈ ds → d.depth ≤ PyData.depthAll ds
  | x :: ds, m => by
    rcases List.mem_cons.mp m with rfl | m
    · exact Nat.le_max_left _ _
    · exact Nat.le_trans (depth_mem m) (Nat.le_max_right _ _)
theorem each_vals : ∀ {ys : List V} {us : List Value} {ds : List D}, Vals ys us → ys.length = ds.length → PySem.W.EachIs (fun u (z : V × D) => RelV z.1 u) us (ys.zip ds)
  | [], _, [], .nil, _ => .nil
  | [], _, _ :: _, _, h => by cases h
  | _ :: _, _, [], _, h => by cases h
  | y :: ys, _, d :: ds, .cons r t, h => .cons r (each_vals t (by simpa using h))
theorem vals_each : ∀ {us : List Value} {zs : List (V × D)}, PySem.W.EachIs (fun u (z : V × D) => RelV z.1 u) us zs → Vals (zs.map Prod.fst) us
  | _, _, .nil => .nil
  | _, _, .cons r t => .cons r (vals_each t)
theorem each_reads {h : Heap} : ∀ {us : List Value} {ys : List V} {ds : List D} {as : List Addr}, ReadsAll h us ds as → ys.length = ds.length → PySem.W.EachIs (fun u (z : V × D) => ∃ as, Reads h u z.2 as) us (ys.zip ds)
  | _, [], [], _, .nil, _ => .nil
  | _, [], _ :: _, _, _, h => by cases h
  | _, _ :: _, [], _, _, h => by cases h
  | _, y :: ys, d :: ds, _, .cons r t, h => .cons ⟨_, r⟩ (each_reads t (by simpa using h))
theorem cr_sortT {X : Cx} (hu : X.A.units + 64 < cLine) : CallR X (.builtin "sorted") (rSortT X.K) := by
  intro pins s σ H vs us Q I r h
  obtain ⟨a, ys, ds, rfl, hs, hlen, dp, hal, hd, ht, q⟩ := h
  obtain ⟨its, rv, hl, hz⟩ := I.list hs
  rw [Vals.ref1 r]
  obtain ⟨as, rd⟩ := dpL_reads I dp hl.isList
  have rd' : ReadsAll s.heap its ds as := by simpa using rd
  have em : (ys.zip ds).map Prod.snd = ds := List.map_snd_zip (by omega)
  refine PySem.W.sorted_data (enc := Prod.snd) hl.isList (each_vals rv hlen) (each_reads rd' hlen) (by rw [em]; exact hal.1) (.inl (by rw [em]; exact ht)) (by rw [List.length_zip]; omega) (fun b mb => ?_) fun out ho hE => ?_
  · have : b.2 ∈ ds := by rw [← em]; exact List.mem_map.mpr ⟨b, mb, rfl⟩
    have := depth_mem this
    omega
  · obtain ⟨ep, he'⟩ := PyProof.Rows.sortedAll_at s.heap its (List.toArray out)
    have hlen : (((ys.zip ds).mergeSort (fun x y => !dataLt y.2 x.2)).map Prod.fst).length ≤ sizeLine := by
      rw [List.length_map, List.length_mergeSort, List.length_zip]
      omega
    exact ⟨.ref _, upd H (s.heap.objs.size + 1) (.lst (((ys.zip ds).mergeSort (fun x y => !dataLt y.2 x.2)).map Prod.fst)), I.laid (t' := s.toks) (fun _ _ => PyProof.Rows.sortedAll_old) (Nat.le_succ _) ⟨hlen, out, ep, vals_each hE, by simpa using he'⟩, rfl, q _ _ rfl (I.hok.fresh (Nat.le_succ _))⟩
theorem repA_zip {K : PySem.W.Frag} {O : Addr → Prop} {H : Hp} : ∀ {zs : List (V × D)}, (∀ z ∈ zs, Rep K O H z.2 z.1) → RepA K O H (zs.map Prod.snd) (zs.map Prod.fst)
  | [], _ => rfl
  | z :: zs, h => ⟨z.1, zs.map Prod.fst, rfl, h z List.mem_cons_self, repA_zip fun y m => h y (List.mem_cons_of_mem _ m)⟩
theorem zip_repA {K : PySem.W.Frag} {O : Addr → Prop} {H : Hp} : ∀ {ds : List D} {ys : List V}, RepA K O H ds ys → ∀ z ∈ ys.zip ds, Rep K O H z.2 z.1
  | [], _, h, z, m => by
    have e : _ = _ := h
    subst e
    simp at m
  | d :: ds, _, ⟨v, r, e, h1, h2⟩, z, m => by
    subst e
    rcases List.mem_cons.mp (by simpa using m) with rfl | m
    · exact h1
    · exact zip_repA h2 z m
def dSortT : D → Option (List D)
  | .list ds => if alkB ds && (SeqAt.shaped (.list ds) && (decide (PyData.depthAll ds < 60) && ds.all tupB)) then some (ds.mergeSort fun x y => !dataLt y x) else none
  | _ => none
theorem tupB_all {ds : List D} (h : ds.all tupB = true) : ∀ d ∈ ds, ∃ x r, d = PyData.tuple (x :: r) := by
  intro d m
  have := List.all_eq_true.mp h d m
  unfold tupB at this
  split at this
  · exact ⟨_, _, rfl⟩
  · exact absurd this Bool.false_ne_true
theorem cl_sortT {K : PySem.W.Frag} : CallO K (rSortT K) (g1 dSortT) := by
  intro O H ds d vs Q hf h e q
  obtain ⟨d1, v, rfl, rfl, r, e⟩ := repA1 h e
  unfold dSortT at e
  split at e
  · rename_i xs _
    split at e
    · rename_i ok
      cases e
      rw [Bool.and_eq_true, Bool.and_eq_true, Bool.and_eq_true, decide_eq_true_eq] at ok
      obtain ⟨o1, o2, o3, o4⟩ := ok
      have dp := dp_of o2 r
      obtain ⟨a, ys, rfl, h1, h3⟩ := rep_lst r
      have hl := h3.length
      refine ⟨a, ys, xs, rfl, h1, hl, dp, alkB_all o1, o3, tupB_all o4, fun zs p hz hn => ?_⟩
      refine q p _ hn ?_
      have e1 : zs.map Prod.snd = xs.mergeSort fun x y => !dataLt y x := by
        rw [hz, List.map_mergeSort (s := fun x y => !dataLt y x) (fun _ _ _ _ => rfl), List.map_snd_zip (by omega)]
      rw [← e1]
      refine repA_zip fun z m => zip_repA h3 z ?_
      rw [hz] at m
      exact (List.mergeSort_perm _ _).mem_iff.mp m
    · cases e
  · cases e
/-! ### < -/
def dLtT : D → D → Option Bool
  | .tuple xs, .tuple ys => if alike (.tuple xs) (.tuple ys) && (SeqAt.shaped (.tuple xs) && SeqAt.shaped (.tuple ys)) then some (dataLt (.tuple xs) (.tuple ys)) else none
  | _, _ => none
def rLtT (K : PySem.W.Frag) : R2 := fun x y H Q => ∃ (a b : Addr) (xs ys : List D), x = .ref a ∧ y = .ref b ∧ Dp K H (.ref a) (.tuple xs) ∧ Dp K H (.ref b) (.tuple ys) ∧ alike (.tuple xs) (.tuple ys) = true ∧ (PyData.tuple xs).depth ≤ 64 ∧ Q (.bl (dataLt (.tuple xs) (.tuple ys))) H
theorem op_ltT {X : Cx} (hu : X.A.units + 64 < cLine) : OpR X (compareOp .Lt) (rLtT X.K) := by
  intro pins s σ H x y v u Q I rx ry h
  obtain ⟨a, b, xs, ys, rfl, rfl, ha, hb, hal, hd, q⟩ := h
  obtain ⟨as, r1⟩ := Dp.reads I _ _ _ ha rx
  obtain ⟨bs, r2⟩ := Dp.reads I _ _ _ hb ry
  cases rx
  cases ry
  have R := PySem.W.rcLt_alike (.tuple xs) (.tuple ys) X.A s (.ref a) (.ref b) as bs r1 r2 hal (by simp) (by
    have := Nat.min_le_left (PyData.tuple xs).depth (PyData.tuple ys).depth
    omega)
  have z : wpAny (model X.prog X.w) X.A (compareOp .Lt (.ref a) (.ref b)) (L2.EP X pins σ Q) X.xe s := R X.prog X.w X.xe (L2.EP X pins σ Q) ⟨.bl _, H, I, rfl, q⟩
  exact z
theorem cd_ltT {K : PySem.W.Frag} : CmpD K (rLtT K) dLtT := by
  intro O H x y b vx vy Q hx hy hg q
  unfold dLtT at hg
  split at hg
  · split at hg
    · rename_i ok
      cases hg
      rw [Bool.and_eq_true, Bool.and_eq_true] at ok
      obtain ⟨o1, o2, o3⟩ := ok
      have d1 := dp_of o2 hx
      have d2 := dp_of o3 hy
      obtain ⟨a, us, rfl, _⟩ := rep_tup hx
      obtain ⟨c, ws, rfl, _⟩ := rep_tup hy
      exact ⟨a, c, _, _, rfl, rfl, d1, d2, o1, SeqAt.depth_of_shaped o2, q⟩
    · cases hg
  · cases hg
/-! ### sum of a tuple of ints -/
def dSumT : D → Option D
  | .tuple ds => (asInts ds).map fun is => .int is.sum
  | _ => none
theorem cl_sumT {K : PySem.W.Frag} : CallD K (rSumT K) (g1 dSumT) := by
  intro O H ds d vs Q hO hf h e q
  obtain ⟨d1, v, rfl, rfl, r, e⟩ := repA1 h e
  unfold dSumT at e
  split at e
  · obtain ⟨is, e1, rfl⟩ := Option.map_eq_some_iff.mp e
    have e2 := asInts_eq e1
    subst e2
    obtain ⟨a, xs, rfl, h1, h3⟩ := rep_tup r
    have e3 := RepA.ints h3
    subst e3
    exact ⟨a, is, rfl, h1, q _ H (same_refl H) rfl⟩
  · cases e
end DL


set_option maxRecDepth 100000
set_option maxHeartbeats 2000000
namespace DL
open PySem PySem.Spec PyProof.Rows L2

/-! ### xs.remove(k), xs a list of ints of the def's own -/
def dRem (ds : List D) : D → Option (List D)
  | .int k => match asInts ds with
    | some ns => if k ∈ ns then some ((ns.erase k).map .int) else none
    | none => none
  | _ => none
theorem erase_at {k : Int} : ∀ {ns : List Int}, k ∈ ns → ∃ j, ns[j]? = some k ∧ (∀ m : Nat, m < j → ns[m]? ≠ some k) ∧ ns.eraseIdx j = ns.erase k
  | [], h => by cases h
  | x :: ns, h => by
    by_cases c : x = k
    · subst c
      exact ⟨0, rfl, fun m hm => absurd hm (Nat.not_lt_zero _), by simp⟩
    · have h' : k ∈ ns := by
        rcases List.mem_cons.mp h with e | e
        · exact absurd e.symm c
        · exact e
      obtain ⟨j, a, b, e⟩ := erase_at h'
      refine ⟨j + 1, by simpa using a, fun m hm => ?_, ?_⟩
      · cases m with
        | zero =>
          intro e
          exact c (by simpa using e)
        | succ m => simpa using b m (by omega)
      · rw [List.eraseIdx_cons_succ, e, List.erase_cons_tail (by simpa using c)]
section
variable {X : Cx} {W : WX} {e b c v : Expr} {ρ : List Slot} {pos p p2 apos cpos : Pos} {x : Str} {i n : Nat} {ds : List D} {ow : Bool} {rest : List Stmt} {S L S1 : Type} {eS : S → List Slot} {eL : L → List Slot} {eS1 : S1 → List Slot}
theorem es_rem {m : M D} {k : List D → M (Fl S L)} (hs : ρ[i]? = some (.own ds)) (he : EV X W e ρ m) (hr : ∀ es, ES X W ow rest eS eL (ρ.set i (.own es)) (k es)) (hN : X.N[i]? = some x := by rfl) (hv : Vis X.env.scope x := by first | exact Or.inl rfl | exact Or.inr (Or.inl rfl) | exact Or.inr (Or.inr rfl))
    (hd : (x == ("__debug__" : Str)) = false := by decide) (hcd : (x == ("__classdict__" : Str)) = false := by decide)
    (hbase : attributeBase (.Name x p) "remove" X.env (eval (.Name x p) X.env) = eval (.Name x p) X.env := by rfl)
    (hfew : ((backTo cpos (starEach [e] X.env)).all (fun x => !x.1) && (backToKw cpos (keywordEach [] X.env)).all (fun x => x.1.isSome)
      && decide ([e].length + ([] : List Keyword).length + (if ([] : List Keyword).isEmpty then 0 else 1) < 30)) = true := by rfl)
    (hline : (apos.endLine == cpos.line) = true := by rfl) (hst : starEach [e] X.env = [(false, eval e X.env)] := by rfl) (hsw : swapsWith (.Call (.Attribute (.Name x p) "remove" apos) [e] [] cpos) none pos.line X.env = pure false := by rfl) :
    ES X W ow (.Expr (.Call (.Attribute (.Name x p) "remove" apos) [e] [] cpos) pos :: rest) eS eL ρ (bd m fun d => bd (li (dRem ds d)) fun es => k es) := by
  refine pss_mono (pss_cons (ps_expr (pe_bm PySem.F.plainAttrs_list PySem.F.slot_list_remove PySem.F.type_list_remove mt_remove (pe_var hN hv hd hcd) (pa_cons he pa_nil hst) hbase hfew hline hst) hsw) (es_ex hr)) fun N σ H _ ⟨F, G, τ, a, q⟩ => ?_
  obtain ⟨o, h1, e2, xs, q1, q2⟩ := a.sl.sl i _ hs
  obtain ⟨p1, p2, p3⟩ := a.sl.ops i _ hs rfl
  refine ⟨.ref (G.ow i), by rw [h1, e2], .inl ⟨rfl, xs, SqL.of q1⟩, F, G, τ, a, wp_of q (fun d τ1 z0 v H1 G1 a1 k1 r1 => ?_) fun _ _ z => z.ex⟩
  obtain ⟨es, hu, z⟩ := wp_li (wp_bd.mp z0)
  clear z0
  unfold dRem at hu
  split at hu
  · rename_i kk
    split at hu
    · rename_i ns e3
      split at hu
      · rename_i hm
        cases hu
        cases r1
        have e4 := asInts_eq e3
        subst e4
        have hH : H1 (G.ow i) = some (.lst xs) := k1.ks _ _ q1 p2
        have ra := RepA.kp k1.p _ _ q2
        have e5 := RepA.ints ra
        subst e5
        obtain ⟨j, j1, j2, j3⟩ := erase_at hm
        have eo : G1.ow = G.ow := k1.ow
        obtain ⟨a2, k2⟩ := a1.putOwn hs (RepA.of_ints (ns.erase kk))
        rw [eo] at a2 k2
        refine ⟨G.ow i, ns, kk, j, rfl, rfl, hH, j1, j2, (ns.erase kk).map .int, F, G1, τ1, ?_, ?_⟩
        · rw [j3]; exact a2
        · rw [j3]; exact Rs.wp_mono z (fun f τ' z => FlP.kp (k1.p.trans k2) z) fun _ _ z => z
      · cases hu
    · cases hu
  · cases hu
end
/-! ### a name that a loop gives first -/
def oS : Option D → Slot
  | none => .emp
  | some d => .val d
def cso {α : Type} (o : Option D) (f : D → M α) : M α :=
  match o with
  | none => no
  | some d => f d
section
variable {X : Cx} {W : WX} {rest : List Stmt} {ow : Bool} {S L : Type} {eS : S → List Slot} {eL : L → List Slot}
theorem es_cso {r : Option D → List Slot} {o : Option D} {f : D → M (Fl S L)} (h : ∀ d, ES X W ow rest eS eL (r (some d)) (f d)) : ES X W ow rest eS eL (r o) (cso o f) := by
  cases o with
  | none => exact es_no
  | some d => exact h d
end
end DL


set_option maxRecDepth 100000
set_option maxHeartbeats 4000000
namespace DL
open PySem PySem.Spec PyProof.Rows L2

/-! ### tuple(range(n)) -/
section
variable {X : Cx} {W : WX} {a : Expr} {ρ : List Slot} {pos p p2 q : Pos}
def dTupRg : D → Option D
  | .int n => if 0 ≤ n ∧ n ≤ 16777216 then some (.tuple (((List.range n.toNat).map fun i : Nat => (i : Int)).map .int)) else none
  | _ => none
theorem ev_tuprg1 {m : M D} (ha : EV X W a ρ m) (hc : X.calm = true) (hg : Gl X "tuple") (hm : X.mg "tuple" = none) (hg2 : Gl X "range") (hm2 : X.mg "range" = none) (na : starEach [a] X.env = (false, eval a X.env) :: starEach [] X.env := by rfl)
    (na2 : starEach [.Call (.Name "range" p2) [a] [] q] X.env = (false, eval (.Call (.Name "range" p2) [a] [] q) X.env) :: starEach [] X.env := by rfl) :
    EV X W (.Call (.Name "tuple" p) [.Call (.Name "range" p2) [a] [] q] [] pos) ρ (bd m fun d => li (dTupRg d)) := by
  refine pe_mono (pe_tupRg hc hg hm (prg_1 hg2 hm2 ha na) na2) fun σ H Q _ h => ?_
  obtain ⟨F, G, τ, at_, z⟩ := h
  refine ⟨F, G, τ, at_, wp_of z (fun d τ1 z0 v H1 G1 a1 k1 r1 => ?_) fun _ _ z => z⟩
  obtain ⟨d', e, zz⟩ := wp_li z0
  clear z0
  unfold dTupRg at e
  split at e
  · rename_i n
    split at e
    · rename_i hz
      cases e
      cases r1
      refine ⟨n, rfl, RgOk.of_le (by omega) hz.2 (by omega) hz.1, fun q hq => ?_⟩
      have s : Same H1 (upd H1 q (.tup (rgV 0 n))) := Same.new hq
      have er : rgV 0 n = ((List.range n.toNat).map fun i : Nat => (i : Int)).map V.int := by
        unfold rgV
        rw [List.map_map, Int.sub_zero]
        refine List.map_congr_left fun i _ => ?_
        show V.int (0 + (i : Int)) = V.int (i : Int)
        rw [Int.zero_add]
      exact zz _ _ G1 (a1.same s) (k1.trans (Ke.same s)) ⟨q, rgV 0 n, rfl, .inl ⟨upd_same, a1.gd.nopen hq⟩, by rw [er]; exact RepA.of_ints _⟩
    · cases e
  · cases e
end
end DL


set_option maxRecDepth 100000
set_option maxHeartbeats 4000000
/-! mirrors of defs that many laws reach, as gen.py prints them -/
namespace Q
open DL PySem PySem.Spec PyProof.Rows L2
noncomputable section
-- _law_b_cut
def m__law_b_cut_b1 (s6 : D × D × D) : List D → D → M (Fl (List D) (List D)) := fun (s27 : List D) d51 => bd (li ((uN 3) d51)) (x3 fun d28 d29 d30 => bd (bd (pu d28) fun d42 => bd (pu d29) fun d43 => bd (bd (bd (bd (bd (pu d30) fun d31 => li (dLst d31)) fun l33 => mf l33 (fun d34 => bd (li (u1 d34)) (x1 fun d32 => bd (bd (pu d32) fun d35 => bd (pu (PyData.int 0)) fun d36 => li (dIdx d35 d36)) fun d38 => bd (bd (pu s6.2.1) fun d37 => li (g1 dLen [d37])) fun d39 => li (dLt d38 d39))) (fun d34 => bd (li (u1 d34)) (x1 fun d32 => pu d32))) fun l40 => pu (PyData.list l40)) fun d41 => li (g1 dTup [d41])) fun d44 => pu (PyData.tuple [d42, d43, d44])) fun d45 => bd (ck (decide (s27.length < 16777216))) fun _ => pu (.nx (s27 ++ [d45])))
def m__law_b_cut_b2  : D × D × D → D → M (Fl (D × D × D) (D × D × D)) := fun (s6 : D × D × D) d53 => bd (li (u1 d53)) (x1 fun d7 => sq (bd (bd (bd (pu s6.2.2) fun d8 => bd (pu d7) fun d9 => li (dMul d8 d9)) fun d10 => bd (pu s6.1) fun d11 => li (dLe d10 d11)) fun k12 => if k12 then (bd (bd (pu s6.2.2) fun d15 => bd (pu d7) fun d16 => li (dMul d15 d16)) fun d14 => bd (bd (pu s6.2.1) fun d19 => bd (bd (pu d7) fun d18 => pu (PyData.tuple [d18])) fun d20 => li (dAdd d19 d20)) fun d17 => pu (.nx (s6.1, d17, d14))) else (bd (pu (PyData.int 0)) fun d21 => pu (.nx (d21, s6.2.1, s6.2.2)))) fun s13 : D × D × D => pu (.nx (s13.1, s13.2.1, s13.2.2)))
def m__law_b_cut (a_sheet : D) (a_bound : D) : M D := fe false (bd (pu (PyData.tuple [])) fun d1 => bd (pu (PyData.int 1)) fun d2 => sq (bd (bd (bd (pu a_sheet) fun d3 => bd (pu (PyData.int 0)) fun d4 => li (dIdx d3 d4)) fun d5 => li (dLst d5)) fun l52 => fo m__law_b_cut_b2 l52 (a_bound, d1, d2)) fun s6 : D × D × D => bd (pu []) fun l23 => sq (bd (bd (bd (pu a_sheet) fun d24 => bd (pu (PyData.int 1)) fun d25 => li (dIdx d24 d25)) fun d26 => li (dLst d26)) fun l50 => fo (m__law_b_cut_b1 s6) l50 l23) fun s27 : List D => bd (bd (pu s6.2.1) fun d47 => bd (bd (pu (PyData.list s27)) fun d46 => li (g1 dTup [d46])) fun d48 => pu (PyData.tuple [d47, d48])) fun d49 => pu (.rt d49))
-- most
def m_most (a_sheet : D) : M D := fe false (bd (bd (pu a_sheet) fun d1 => m_need_few d1) fun _ => bd (bd (bd (pu a_sheet) fun d2 => m_worths_in d2) fun d3 => li (g1 dMaxT [d3])) fun d4 => pu (.rt d4))
-- least
def m_least (a_sheet : D) : M D := fe false (bd (bd (pu a_sheet) fun d1 => m_need_few d1) fun _ => bd (bd (bd (pu a_sheet) fun d2 => m_worths_in d2) fun d3 => li (g1 dMinT [d3])) fun d4 => pu (.rt d4))
-- _law_b_is_choosing
def m__law_b_is_choosing (a_ways : D) (a_thing : D) : M D := fe false (bd (bd (bd (bd (bd (pu a_thing) fun d1 => pu (PyData.bool (isI "tuple" d1))) fun d2 => li (dTru d2)) fun k3 => pu (!k3)) fun k18 => if k18 then pu true else (bd (bd (bd (pu a_thing) fun d4 => li (g1 dLen [d4])) fun d6 => bd (bd (pu a_ways) fun d5 => li (g1 dLen [d5])) fun d7 => li (dNe d6 d7)) fun k17 => if k17 then pu true else (bd (bd (bd (bd (bd (bd (pu a_thing) fun d8 => li (dLst d8)) fun l10 => mf l10 (fun d11 => bd (li (u1 d11)) (fun _ => pu true)) (fun d11 => bd (li (u1 d11)) (x1 fun d9 => bd (pu d9) fun d12 => m__law_b_whole d12))) fun l13 => pu (PyData.list l13)) fun d14 => li (g1 dAll [d14])) fun d15 => li (dTru d15)) fun k16 => pu (!k16)))) fun k19 => if k19 then (bd (pu (PyData.bool false)) fun d20 => pu (.rt d20)) else (bd (bd (bd (bd (bd (bd (pu a_ways) fun d21 => li (g1 dLen [d21])) fun d22 => li (dRng1 d22)) fun l24 => mf l24 (fun d25 => bd (li (u1 d25)) (fun _ => pu true)) (fun d25 => bd (li (u1 d25)) (x1 fun d23 => bd (pu (PyData.int 0)) fun d30 => bd (bd (pu a_thing) fun d26 => bd (pu d23) fun d27 => li (dIdx d26 d27)) fun d31 => bd (li (dLe d30 d31)) fun k33 => if k33 then bd (bd (pu a_ways) fun d28 => bd (pu d23) fun d29 => li (dIdx d28 d29)) fun d32 => li ((dLt d31 d32).map PyData.bool) else pu (PyData.bool false)))) fun l34 => pu (PyData.list l34)) fun d35 => li (g1 dAll [d35])) fun d36 => pu (.rt d36)))
-- is_tie
def m_is_tie (a_n : D) (a_thing : D) : M D := fe false (bd (bd (bd (bd (bd (pu a_thing) fun d1 => pu (PyData.bool (isI "tuple" d1))) fun d2 => li (dTru d2)) fun k3 => pu (!k3)) fun k7 => if k7 then pu true else (bd (bd (pu a_thing) fun d4 => li (g1 dLen [d4])) fun d5 => bd (pu (PyData.int 3)) fun d6 => li (dNe d5 d6))) fun k8 => if k8 then (bd (pu (PyData.bool false)) fun d9 => pu (.rt d9)) else (bd (pu a_thing) fun d10 => bd (li ((uN 3) d10)) (x3 fun d11 d12 d13 => bd (bd (bd (bd (bd (pu d11) fun d16 => bd (pu (PyData.int 0)) fun d17 => bd (bd (pu a_n) fun d14 => bd (pu (PyData.int 1)) fun d15 => li (dSub d14 d15)) fun d18 => m_is_from_to d16 d17 d18) fun d19 => li (dTru d19)) fun k20 => pu (!k20)) fun k28 => if k28 then pu true else (bd (bd (bd (pu d12) fun d23 => bd (pu (PyData.int 0)) fun d24 => bd (bd (pu a_n) fun d21 => bd (pu (PyData.int 1)) fun d22 => li (dSub d21 d22)) fun d25 => m_is_from_to d23 d24 d25) fun d26 => li (dTru d26)) fun k27 => pu (!k27))) fun k29 => if k29 then (bd (pu (PyData.bool false)) fun d30 => pu (.rt d30)) else (bd (bd (bd (pu d11) fun d31 => bd (pu d12) fun d32 => li ((dLt d31 d32).map PyData.bool)) fun d36 => bd (tb d36) fun k37 => if k37 then (bd (pu d13) fun d33 => bd (pu (PyData.int 1)) fun d34 => bd (pu (PyData.int 99)) fun d35 => m_is_from_to d33 d34 d35) else pu (PyData.bool false)) fun d38 => pu (.rt d38)))))
-- is_web
def m_is_web (a_thing : D) : M D := fe false (bd (bd (bd (bd (bd (pu a_thing) fun d1 => pu (PyData.bool (isI "tuple" d1))) fun d2 => li (dTru d2)) fun k3 => pu (!k3)) fun k15 => if k15 then pu true else (bd (bd (bd (pu a_thing) fun d4 => li (g1 dLen [d4])) fun d5 => bd (pu (PyData.int 2)) fun d6 => li (dNe d5 d6)) fun k14 => if k14 then pu true else (bd (bd (bd (bd (pu a_thing) fun d7 => bd (pu (PyData.int 0)) fun d8 => li (dIdx d7 d8)) fun d9 => bd (pu (PyData.int 0)) fun d10 => bd (pu (PyData.int 10)) fun d11 => m_is_from_to d9 d10 d11) fun d12 => li (dTru d12)) fun k13 => pu (!k13)))) fun k16 => if k16 then (bd (pu (PyData.bool false)) fun d17 => pu (.rt d17)) else (bd (pu a_thing) fun d18 => bd (li ((uN 2) d18)) (x2 fun d19 d20 => bd (bd (bd (bd (bd (pu d20) fun d21 => pu (PyData.bool (isI "tuple" d21))) fun d22 => li (dTru d22)) fun k23 => pu (!k23)) fun k34 => if k34 then pu true else (bd (bd (bd (bd (bd (bd (pu d20) fun d24 => li (dLst d24)) fun l26 => mf l26 (fun d27 => bd (li (u1 d27)) (fun _ => pu true)) (fun d27 => bd (li (u1 d27)) (x1 fun d25 => bd (pu d19) fun d28 => bd (pu d25) fun d29 => m_is_tie d28 d29))) fun l30 => pu (PyData.list l30)) fun d31 => li (g1 dAll [d31])) fun d32 => li (dTru d32)) fun k33 => pu (!k33))) fun k35 => if k35 then (bd (pu (PyData.bool false)) fun d36 => pu (.rt d36)) else (bd (bd (bd (bd (bd (pu (PyData.int 1)) fun d38 => bd (bd (pu d20) fun d37 => li (g1 dLen [d37])) fun d39 => li (dRng2 d38 d39)) fun l41 => mf l41 (fun d42 => bd (li (u1 d42)) (fun _ => pu true)) (fun d42 => bd (li (u1 d42)) (x1 fun d40 => bd (bd (bd (pu d20) fun d45 => bd (bd (pu d40) fun d43 => bd (pu (PyData.int 1)) fun d44 => li (dSub d43 d44)) fun d46 => li (dIdx d45 d46)) fun d47 => bd (pu none) fun o48 => bd (bd (pu (PyData.int 2)) oInt) fun o49 => li (dCut d47 o48 o49)) fun d55 => bd (bd (bd (pu d20) fun d50 => bd (pu d40) fun d51 => li (dIdx d50 d51)) fun d52 => bd (pu none) fun o53 => bd (bd (pu (PyData.int 2)) oInt) fun o54 => li (dCut d52 o53 o54)) fun d56 => li ((dLtT d55 d56).map PyData.bool)))) fun l57 => pu (PyData.list l57)) fun d58 => li (g1 dAll [d58])) fun d59 => pu (.rt d59)))))
-- need_web
def m_need_web (a_web : D) : M D := fe false (bd (bd (bd (bd (pu a_web) fun d1 => m_is_web d1) fun d2 => li (dTru d2)) fun k3 => pu (!k3)) fun k4 => if k4 then no else (pu (.nx ())))
-- _law_aweb
def m__law_aweb_b1 (a_tape : Nat) (d5 : D) (d15 : D) (d9 : D) : List D → D → M (Fl (List D) (List D)) := fun (s17 : List D) d41 => bd (li (u1 d41)) (x1 fun d18 => sq (bd (bd (bd (pu (PyData.int 6)) fun d19 => m__law_adigit a_tape d19) fun d20 => bd (pu d5) fun d21 => li (dLt d20 d21)) fun k22 => if k22 then (bd (bd (pu d18) fun d36 => bd (pu d15) fun d37 => bd (bd (bd (bd (pu (PyData.int 1)) fun d30 => bd (bd (pu (PyData.int 99)) fun d25 => bd (bd (pu (PyData.int 3)) fun d24 => m__law_adigit a_tape d24) fun d26 => li (dSub d25 d26)) fun d31 => bd (bd (pu (PyData.int 1)) fun d28 => bd (bd (pu (PyData.int 99)) fun d27 => m__law_adigit a_tape d27) fun d29 => li (dAdd d28 d29)) fun d32 => pu [d30, d31, d32]) fun l33 => pu (PyData.list l33)) fun d34 => bd (pu d9) fun d35 => li (dIdx d34 d35)) fun d38 => pu (PyData.tuple [d36, d37, d38])) fun d39 => bd (ck (decide (s17.length < 16777216))) fun _ => pu (.nx (s17 ++ [d39]))) else (pu (.nx s17))) fun s23 : List D => pu (.nx s23))
def m__law_aweb_b2 (a_tape : Nat) (d5 : D) (d9 : D) : List D → D → M (Fl (List D) (List D)) := fun (s14 : List D) d49 => bd (li (u1 d49)) (x1 fun d15 => sq (bd (bd (pu d15) fun d16 => li (dRng1 d16)) fun l40 => fo (m__law_aweb_b1 a_tape d5 d15 d9) l40 s14) fun s17 : List D => pu (.nx s17))
def m__law_aweb (a_tape : Nat) (a_bound : D) : M D := fe false (bd (bd (bd (pu a_bound) fun d2 => bd (pu (PyData.int 1)) fun d3 => li (dAdd d2 d3)) fun d4 => m__law_adigit a_tape d4) fun d1 => bd (bd (pu (PyData.int 1)) fun d7 => bd (bd (pu (PyData.int 6)) fun d6 => m__law_adigit a_tape d6) fun d8 => li (dAdd d7 d8)) fun d5 => bd (bd (pu (PyData.int 3)) fun d10 => m__law_adigit a_tape d10) fun d9 => bd (pu []) fun l12 => sq (bd (bd (pu d1) fun d13 => li (dRng1 d13)) fun l48 => fo (m__law_aweb_b2 a_tape d5 d9) l48 l12) fun s14 : List D => bd (bd (pu d1) fun d45 => bd (bd (bd (bd (pu (PyData.list s14)) fun d42 => li (g1 dSortT [d42])) fun l43 => pu (PyData.list l43)) fun d44 => li (g1 dTup [d44])) fun d46 => pu (PyData.tuple [d45, d46])) fun d47 => pu (.rt d47))
-- _law_e_mixed
def m__law_e_mixed (a_cell : D) (a_place : D) : M D := fe false (bd (bd (pu a_cell) fun d3 => bd (bd (pu (PyData.int 10)) fun d1 => bd (pu (PyData.int 18)) fun d2 => li (dPow d1 d2)) fun d4 => li (dGe d3 d4)) fun k5 => if k5 then (bd (pu a_cell) fun d6 => pu (.rt d6)) else (bd (bd (bd (bd (bd (bd (pu a_cell) fun d8 => bd (pu (PyData.int 2147483269)) fun d9 => li (dMod d8 d9)) fun d10 => bd (pu (PyData.int 50021)) fun d11 => li (dMul d10 d11)) fun d14 => bd (bd (pu a_place) fun d12 => bd (pu (PyData.int 30011)) fun d13 => li (dMul d12 d13)) fun d15 => li (dAdd d14 d15)) fun d16 => bd (pu (PyData.int 41)) fun d17 => li (dAdd d16 d17)) fun d18 => bd (pu (PyData.int 2147483249)) fun d19 => li (dMod d18 d19)) fun d7 => bd (bd (bd (bd (bd (bd (pu d7) fun d21 => bd (pu d7) fun d22 => li (dMul d21 d22)) fun d27 => bd (bd (bd (pu (PyData.int 733)) fun d23 => bd (pu a_place) fun d24 => li (dMul d23 d24)) fun d25 => bd (pu a_place) fun d26 => li (dMul d25 d26)) fun d28 => li (dAdd d27 d28)) fun d31 => bd (bd (pu (PyData.int 9)) fun d29 => bd (pu d7) fun d30 => li (dMul d29 d30)) fun d32 => li (dAdd d31 d32)) fun d33 => bd (pu (PyData.int 1)) fun d34 => li (dAdd d33 d34)) fun d35 => bd (pu (PyData.int 2147483237)) fun d36 => li (dMod d35 d36)) fun d20 => bd (bd (bd (bd (bd (pu d20) fun d38 => bd (pu d20) fun d39 => li (dMul d38 d39)) fun d42 => bd (bd (pu (PyData.int 389)) fun d40 => bd (pu d7) fun d41 => li (dMul d40 d41)) fun d43 => li (dAdd d42 d43)) fun d46 => bd (bd (pu (PyData.int 17)) fun d44 => bd (pu a_place) fun d45 => li (dMul d44 d45)) fun d47 => li (dAdd d46 d47)) fun d48 => bd (pu (PyData.int 2147483179)) fun d49 => li (dMod d48 d49)) fun d37 => bd (bd (bd (pu d37) fun d50 => bd (pu (PyData.int 2147483237)) fun d51 => li (dMul d50 d51)) fun d52 => bd (pu d20) fun d53 => li (dAdd d52 d53)) fun d54 => pu (.rt d54)))
-- _law_e_lot
def m__law_e_lot (a_urn : Nat) (a_many : D) : M D := fe false (sq (bd (bd (bd (pu (PyData.int 2)) fun d1 => bd (mget a_urn) fun l2 => li (dIdx (PyData.list l2) d1)) fun d3 => bd (pu a_many) fun d4 => li (dLt d3 d4)) fun k5 => if k5 then (bd (bd (pu (PyData.int 1)) fun d8 => bd (mget a_urn) fun l9 => li (dIdx (PyData.list l9) d8)) fun d7 => bd (bd (bd (pu (PyData.int 17)) fun d11 => bd (pu d7) fun d12 => li (dMul d11 d12)) fun d13 => bd (pu (PyData.int 6)) fun d14 => li (dAdd d13 d14)) fun d10 => sq (bd (bd (pu d7) fun d18 => bd (bd (bd (pu (PyData.int 0)) fun d15 => bd (mget a_urn) fun l16 => li (dIdx (PyData.list l16) d15)) fun d17 => li (g1 dLen [d17])) fun d19 => li (dLt d18 d19)) fun k20 => if k20 then (bd (bd (bd (pu (PyData.int 0)) fun d23 => bd (mget a_urn) fun l24 => li (dIdx (PyData.list l24) d23)) fun d25 => bd (pu d7) fun d26 => li (dIdx d25 d26)) fun d22 => pu (.nx d22)) else (sq (bd (bd (bd (bd (pu (PyData.int 0)) fun d27 => bd (mget a_urn) fun l28 => li (dIdx (PyData.list l28) d27)) fun d29 => li (g1 dLen [d29])) fun d30 => bd (pu (PyData.int 0)) fun d31 => li (dGt d30 d31)) fun k32 => if k32 then (bd (bd (bd (bd (bd (pu (PyData.int 0)) fun d35 => bd (mget a_urn) fun l36 => li (dIdx (PyData.list l36) d35)) fun d46 => bd (bd (bd (bd (pu (PyData.int 7)) fun d37 => bd (pu d7) fun d38 => li (dMul d37 d38)) fun d39 => bd (pu (PyData.int 3)) fun d40 => li (dAdd d39 d40)) fun d44 => bd (bd (bd (pu (PyData.int 0)) fun d41 => bd (mget a_urn) fun l42 => li (dIdx (PyData.list l42) d41)) fun d43 => li (g1 dLen [d43])) fun d45 => li (dMod d44 d45)) fun d47 => li (dIdx d46 d47)) fun d48 => bd (pu (PyData.int 777777743)) fun d49 => li (dMod d48 d49)) fun d52 => bd (bd (pu d7) fun d50 => bd (pu (PyData.int 7000003)) fun d51 => li (dMul d50 d51)) fun d53 => li (dAdd d52 d53)) fun d34 => pu (.nx d34)) else (pu (.nx d10))) fun s33 : D => pu (.nx s33))) fun s21 : D => bd (bd (pu d7) fun d54 => bd (pu (PyData.int 1)) fun d55 => li (dAdd d54 d55)) fun d56 => bd (pu (PyData.int 1)) fun d57 => bd (mget a_urn) fun l58 => bd (li (setD l58 d57 d56)) fun l59 => bd (mput a_urn l59) fun _ => bd (bd (pu s21) fun d60 => bd (pu d7) fun d61 => m__law_e_mixed d60 d61) fun d62 => bd (pu (PyData.int 2)) fun d63 => bd (mget a_urn) fun l64 => bd (li (setD l64 d63 d62)) fun l65 => bd (mput a_urn l65) fun _ => pu (.nx ())) else (pu (.nx ()))) fun s6 : Unit => bd (bd (bd (pu (PyData.int 2)) fun d67 => bd (mget a_urn) fun l68 => li (dIdx (PyData.list l68) d67)) fun d69 => bd (pu a_many) fun d70 => li (dMod d69 d70)) fun d66 => bd (bd (bd (pu (PyData.int 2)) fun d71 => bd (mget a_urn) fun l72 => li (dIdx (PyData.list l72) d71)) fun d73 => bd (pu a_many) fun d74 => li (dDiv d73 d74)) fun d75 => bd (pu (PyData.int 2)) fun d76 => bd (mget a_urn) fun l77 => bd (li (setD l77 d76 d75)) fun l78 => bd (mput a_urn l78) fun _ => bd (pu d66) fun d79 => pu (.rt d79))
-- _law_e_ways
def m__law_e_ways (a_urn : Nat) (a_places : D) : M D := fe false (bd (bd (pu (PyData.int 3)) fun d2 => m__law_e_lot a_urn d2) fun d1 => bd (bd (bd (pu a_places) fun d4 => bd (pu (PyData.int 1)) fun d5 => li (dAdd d4 d5)) fun d6 => m__law_e_lot a_urn d6) fun d3 => bd (bd (pu d1) fun d7 => bd (pu (PyData.int 0)) fun d8 => li (dEq d7 d8)) fun k9 => if k9 then (bd (bd (bd (pu (PyData.int 2)) fun d10 => pu (PyData.tuple [d10])) fun d11 => bd (pu d3) fun d12 => li (dMulT d11 d12)) fun d13 => pu (.rt d13)) else (bd (bd (bd (bd (bd (pu d3) fun d14 => li (dRng1 d14)) fun l16 => mf l16 (fun d17 => bd (li (u1 d17)) (fun _ => pu true)) (fun d17 => bd (li (u1 d17)) (x1 fun d15 => bd (bd (bd (bd (pu (PyData.int 1)) fun d19 => bd (bd (pu (PyData.int 4)) fun d18 => m__law_e_lot a_urn d18) fun d20 => li (dAdd d19 d20)) fun d24 => bd (bd (pu (PyData.int 3)) fun d22 => bd (bd (pu (PyData.int 2)) fun d21 => m__law_e_lot a_urn d21) fun d23 => li (dAdd d22 d23)) fun d25 => pu [d24, d25]) fun l26 => pu (PyData.list l26)) fun d29 => bd (bd (pu d1) fun d27 => bd (pu (PyData.int 1)) fun d28 => li (dSub d27 d28)) fun d30 => li (dIdx d29 d30)))) fun l31 => pu (PyData.list l31)) fun d32 => li (g1 dTup [d32])) fun d33 => pu (.rt d33)))
-- _law_e_some
def m__law_e_some (a_urn : Nat) (a_many : D) : M D := fe false (bd (bd (pu (PyData.int 6)) fun d2 => m__law_e_lot a_urn d2) fun d1 => bd (bd (pu d1) fun d3 => bd (pu (PyData.int 0)) fun d4 => li (dEq d3 d4)) fun k5 => if k5 then (bd (pu (PyData.tuple [])) fun d6 => pu (.rt d6)) else (bd (bd (pu d1) fun d7 => bd (pu (PyData.int 1)) fun d8 => li (dEq d7 d8)) fun k9 => if k9 then (bd (bd (pu a_many) fun d10 => li (dTupRg d10)) fun d11 => pu (.rt d11)) else (bd (bd (pu d1) fun d12 => bd (pu (PyData.int 2)) fun d13 => li (dEq d12 d13)) fun k14 => if k14 then (bd (bd (bd (pu a_many) fun d15 => m__law_e_lot a_urn d15) fun d16 => pu (PyData.tuple [d16])) fun d17 => pu (.rt d17)) else (bd (bd (bd (bd (bd (pu a_many) fun d18 => li (dRng1 d18)) fun l20 => mf l20 (fun d21 => bd (li (u1 d21)) (x1 fun d19 => bd (bd (pu (PyData.int 2)) fun d22 => m__law_e_lot a_urn d22) fun d23 => bd (pu (PyData.int 0)) fun d24 => li (dEq d23 d24))) (fun d21 => bd (li (u1 d21)) (x1 fun d19 => pu d19))) fun l25 => pu (PyData.list l25)) fun d26 => li (g1 dTup [d26])) fun d27 => pu (.rt d27)))))
-- _law_e_wish
def m__law_e_wish (a_urn : Nat) (a_ways : D) (a_parts : D) : M D := fe false (bd (bd (bd (bd (pu (PyData.str "all")) fun d2 => bd (pu (PyData.str "some")) fun d3 => pu [d2, d3]) fun l4 => pu (PyData.list l4)) fun d6 => bd (bd (pu (PyData.int 2)) fun d5 => m__law_e_lot a_urn d5) fun d7 => li (dIdx d6 d7)) fun d1 => bd (bd (pu (PyData.int 4)) fun d9 => m__law_e_lot a_urn d9) fun d8 => bd (bd (bd (bd (pu (PyData.int 99)) fun d16 => bd (bd (pu (PyData.int 100)) fun d11 => m__law_e_lot a_urn d11) fun d17 => bd (bd (pu (PyData.int 1)) fun d13 => bd (bd (pu (PyData.int 9)) fun d12 => m__law_e_lot a_urn d12) fun d14 => li (dAdd d13 d14)) fun d18 => bd (bd (pu (PyData.int 3)) fun d15 => m__law_e_lot a_urn d15) fun d19 => pu [d16, d17, d18, d19]) fun l20 => pu (PyData.list l20)) fun d21 => bd (pu d8) fun d22 => li (dIdx d21 d22)) fun d10 => bd (bd (pu (PyData.int 1)) fun d25 => bd (bd (pu (PyData.int 4)) fun d24 => m__law_e_lot a_urn d24) fun d26 => li (dAdd d25 d26)) fun d23 => bd (bd (bd (bd (bd (bd (pu a_ways) fun d28 => li (g1 dLen [d28])) fun d29 => li (dRng1 d29)) fun l31 => mf l31 (fun d32 => bd (li (u1 d32)) (x1 fun d30 => bd (bd (pu d23) fun d33 => m__law_e_lot a_urn d33) fun d34 => bd (pu (PyData.int 0)) fun d35 => li (dEq d34 d35))) (fun d32 => bd (li (u1 d32)) (x1 fun d30 => pu d30))) fun l36 => pu (PyData.list l36)) fun d37 => bd (pu none) fun o38 => bd (bd (pu a_parts) oInt) fun o39 => li (dCut d37 o38 o39)) fun d27 => bd (bd (pu d1) fun d51 => bd (pu d10) fun d52 => bd (bd (bd (bd (bd (pu d27) fun d40 => li (dLst d40)) fun l42 => mf l42 (fun d43 => bd (li (u1 d43)) (fun _ => pu true)) (fun d43 => bd (li (u1 d43)) (x1 fun d41 => bd (pu d41) fun d47 => bd (bd (bd (pu a_ways) fun d44 => bd (pu d41) fun d45 => li (dIdx d44 d45)) fun d46 => m__law_e_some a_urn d46) fun d48 => pu (PyData.tuple [d47, d48])))) fun l49 => pu (PyData.list l49)) fun d50 => li (g1 dTup [d50])) fun d53 => pu (PyData.tuple [d51, d52, d53])) fun d54 => pu (.rt d54))
-- _law_e_worth
def m__law_e_worth_b1 (a_choosing : D) : D → D → M (Fl D D) := fun (s5 : D) d38 => bd (li ((uN 3) d38)) (x3 fun d6 d7 d8 => bd (bd (bd (pu d8) fun d10 => li (dLst d10)) fun l13 => mf l13 (fun d14 => bd (li ((uN 2) d14)) (fun _ => pu true)) (fun d14 => bd (li ((uN 2) d14)) (x2 fun d11 d12 => bd (bd (pu a_choosing) fun d15 => bd (pu d11) fun d16 => li (dIdx d15 d16)) fun d17 => bd (pu d12) fun d18 => li ((dIn d17 d18).map PyData.bool)))) fun l19 => sq (bd (bd (bd (bd (pu d6) fun d20 => bd (pu (PyData.str "all")) fun d21 => li (dEq d20 d21)) fun k24 => if k24 then (bd (pu (PyData.bool false)) fun d22 => bd (pu (PyData.list l19)) fun d23 => li (dNin d22 d23)) else pu false) fun k30 => if k30 then pu true else (bd (bd (pu d6) fun d25 => bd (pu (PyData.str "some")) fun d26 => li (dEq d25 d26)) fun k29 => if k29 then (bd (pu (PyData.bool true)) fun d27 => bd (pu (PyData.list l19)) fun d28 => li (dIn d27 d28)) else pu false)) fun k31 => if k31 then (bd (bd (pu s5) fun d34 => bd (pu d7) fun d35 => li (dAdd d34 d35)) fun d33 => pu (.nx d33)) else (pu (.nx s5))) fun s32 : D => pu (.nx s32))
def m__law_e_worth (a_sheet : D) (a_choosing : D) : M D := fe false (bd (pu (PyData.int 0)) fun d1 => sq (bd (bd (bd (pu a_sheet) fun d2 => bd (pu (PyData.int 1)) fun d3 => li (dIdx d2 d3)) fun d4 => li (dLst d4)) fun l37 => fo (m__law_e_worth_b1 a_choosing) l37 d1) fun s5 : D => bd (pu s5) fun d36 => pu (.rt d36))
-- _law_e_low
def m__law_e_low_b1  : D × D → M Bool := fun (s3 : D × D) => bd (pu s3.2) fun d4 => bd (pu (PyData.int 0)) fun d5 => li (dNe d4 d5)
def m__law_e_low_b2  : D × D → M (Fl (D × D) (D × D)) := fun (s3 : D × D) => bd (pu s3.2) fun d8 => bd (bd (pu s3.1) fun d6 => bd (pu s3.2) fun d7 => li (dMod d6 d7)) fun d9 => pu (.nx (d8, d9))
def m__law_e_low (a_top : D) (a_bottom : D) : M D := fe false (bd (pu a_top) fun d1 => bd (pu a_bottom) fun d2 => sq (wh m__law_e_low_b1 m__law_e_low_b2 (d1, d2)) fun s3 : D × D => bd (bd (bd (pu a_top) fun d10 => bd (pu s3.1) fun d11 => li (dDiv d10 d11)) fun d14 => bd (bd (pu a_bottom) fun d12 => bd (pu s3.1) fun d13 => li (dDiv d12 d13)) fun d15 => pu (PyData.tuple [d14, d15])) fun d16 => pu (.rt d16))
-- _law_e_whole
def m__law_e_whole (a_number : D) : M D := fe false (bd (bd (bd (pu a_number) fun d1 => pu (PyData.bool (isI "int" d1))) fun d5 => bd (tb d5) fun k6 => if k6 then (bd (bd (pu a_number) fun d2 => pu (PyData.bool (isI "bool" d2))) fun d3 => bd (tb d3) fun k4 => pu (PyData.bool (!k4))) else pu (PyData.bool false)) fun d7 => pu (.rt d7))
-- is_family
def m_is_family (a_ways : D) (a_thing : D) : M D := fe false (bd (bd (bd (pu (PyData.int 1)) fun d2 => bd (bd (pu a_thing) fun d1 => li (g1 dLen [d1])) fun d3 => bd (li (dLe d2 d3)) fun k5 => if k5 then bd (pu (PyData.int 4096)) fun d4 => li (dLe d3 d4) else pu false) fun k6 => pu (!k6)) fun k7 => if k7 then (bd (pu (PyData.bool false)) fun d8 => pu (.rt d8)) else (bd (bd (bd (bd (bd (pu a_thing) fun d9 => li (dLst d9)) fun l11 => mf l11 (fun d12 => bd (li (u1 d12)) (fun _ => pu true)) (fun d12 => bd (li (u1 d12)) (x1 fun d10 => bd (pu a_ways) fun d13 => bd (pu d10) fun d14 => m_is_choosing_in d13 d14))) fun l15 => pu (PyData.list l15)) fun d16 => li (g1 dAll [d16])) fun d17 => pu (.rt d17)))
-- need_family
def m_need_family (a_sheet : D) (a_family : D) : M D := fe false (bd (bd (pu a_sheet) fun d1 => m_need_sheet d1) fun _ => bd (bd (bd (bd (bd (pu a_sheet) fun d2 => bd (pu (PyData.int 0)) fun d3 => li (dIdx d2 d3)) fun d4 => bd (pu a_family) fun d5 => m_is_family d4 d5) fun d6 => li (dTru d6)) fun k7 => pu (!k7)) fun k8 => if k8 then no else (pu (.nx ())))
-- family_mean
def m_family_mean (a_sheet : D) (a_family : D) : M D := fe false (bd (bd (pu a_sheet) fun d1 => bd (pu a_family) fun d2 => m_need_family d1 d2) fun _ => bd (bd (bd (bd (bd (bd (pu a_family) fun d3 => li (dLst d3)) fun l5 => mf l5 (fun d6 => bd (li (u1 d6)) (fun _ => pu true)) (fun d6 => bd (li (u1 d6)) (x1 fun d4 => bd (pu a_sheet) fun d7 => bd (pu d4) fun d8 => m_worth_in d7 d8))) fun l9 => pu (PyData.list l9)) fun d10 => li (g1 dSum [d10])) fun d12 => bd (bd (pu a_family) fun d11 => li (g1 dLen [d11])) fun d13 => m_lowest d12 d13) fun d14 => pu (.rt d14))
-- best_of
def m_best_of_b1 (a_sheet : D) : D × D → D → M (Fl (D × D) (D × D)) := fun (s10 : D × D) d23 => bd (li (u1 d23)) (x1 fun d11 => bd (bd (pu a_sheet) fun d13 => bd (pu d11) fun d14 => m_worth_in d13 d14) fun d12 => sq (bd (bd (pu d12) fun d15 => bd (pu s10.2) fun d16 => li (dGt d15 d16)) fun k17 => if k17 then (bd (pu d11) fun d19 => bd (pu d12) fun d20 => pu (.nx (d19, d20))) else (pu (.nx (s10.1, s10.2)))) fun s18 : D × D => pu (.nx (s18.1, s18.2)))
def m_best_of (a_sheet : D) (a_family : D) : M D := fe false (bd (bd (pu a_sheet) fun d1 => bd (pu a_family) fun d2 => m_need_family d1 d2) fun _ => bd (bd (pu a_family) fun d4 => bd (pu (PyData.int 0)) fun d5 => li (dIdx d4 d5)) fun d3 => bd (bd (pu a_sheet) fun d7 => bd (pu d3) fun d8 => m_worth_in d7 d8) fun d6 => sq (bd (bd (pu a_family) fun d9 => li (dLst d9)) fun l22 => fo (m_best_of_b1 a_sheet) l22 (d3, d6)) fun s10 : D × D => bd (pu s10.1) fun d21 => pu (.rt d21))
-- are_numbers
def m_are_numbers_b1  : Unit → D → M (Fl Unit Unit) := fun (s11 : Unit) d32 => bd (li (u1 d32)) (x1 fun d12 => bd (bd (bd (bd (bd (pu d12) fun d13 => pu (PyData.bool (isI "int" d13))) fun d14 => li (dTru d14)) fun k15 => pu (!k15)) fun k24 => if k24 then pu true else (bd (bd (bd (pu d12) fun d16 => pu (PyData.bool (isI "bool" d16))) fun d17 => li (dTru d17)) fun k23 => if k23 then pu true else (bd (bd (pu (PyData.int 0)) fun d18 => bd (pu d12) fun d19 => bd (li (dLe d18 d19)) fun k21 => if k21 then bd (pu (PyData.int 99)) fun d20 => li (dLe d19 d20) else pu false) fun k22 => pu (!k22)))) fun k25 => if k25 then (bd (pu (PyData.bool false)) fun d26 => pu (.rt d26)) else (pu (.nx ())))
def m_are_numbers (a_many : D) (a_thing : D) : M D := fe false (bd (bd (bd (bd (bd (pu a_thing) fun d1 => pu (PyData.bool (isI "tuple" d1))) fun d2 => li (dTru d2)) fun k3 => pu (!k3)) fun k7 => if k7 then pu true else (bd (bd (pu a_thing) fun d4 => li (g1 dLen [d4])) fun d5 => bd (pu a_many) fun d6 => li (dNe d5 d6))) fun k8 => if k8 then (bd (pu (PyData.bool false)) fun d9 => pu (.rt d9)) else (sq (bd (bd (pu a_thing) fun d10 => li (dLst d10)) fun l31 => fo m_are_numbers_b1 l31 ()) fun s11 : Unit => bd (bd (bd (pu a_thing) fun d27 => li (g1 dSum [d27])) fun d28 => bd (pu (PyData.int 0)) fun d29 => li ((dGt d28 d29).map PyData.bool)) fun d30 => pu (.rt d30)))
-- are_shares
def m_are_shares (a_sheet : D) (a_thing : D) : M D := fe false (bd (bd (pu a_sheet) fun d1 => m_need_sheet d1) fun _ => bd (bd (pu a_sheet) fun d3 => bd (pu (PyData.int 0)) fun d4 => li (dIdx d3 d4)) fun d2 => bd (bd (bd (bd (bd (pu a_thing) fun d5 => pu (PyData.bool (isI "tuple" d5))) fun d6 => li (dTru d6)) fun k7 => pu (!k7)) fun k12 => if k12 then pu true else (bd (bd (pu a_thing) fun d8 => li (g1 dLen [d8])) fun d10 => bd (bd (pu d2) fun d9 => li (g1 dLen [d9])) fun d11 => li (dNe d10 d11))) fun k13 => if k13 then (bd (pu (PyData.bool false)) fun d14 => pu (.rt d14)) else (bd (bd (bd (bd (bd (pu d2) fun d15 => bd (pu a_thing) fun d16 => li (dZip d15 d16)) fun l19 => mf l19 (fun d20 => bd (li ((uN 2) d20)) (fun _ => pu true)) (fun d20 => bd (li ((uN 2) d20)) (x2 fun d17 d18 => bd (pu d17) fun d21 => bd (pu d18) fun d22 => m_are_numbers d21 d22))) fun l23 => pu (PyData.list l23)) fun d24 => li (g1 dAll [d24])) fun d25 => pu (.rt d25)))
-- need_shares
def m_need_shares (a_sheet : D) (a_shares : D) : M D := fe false (bd (bd (bd (bd (pu a_sheet) fun d1 => bd (pu a_shares) fun d2 => m_are_shares d1 d2) fun d3 => li (dTru d3)) fun k4 => pu (!k4)) fun k5 => if k5 then no else (pu (.nx ())))
-- kept_by
def m_kept_by_b1 (a_shares : D) (d2 : D) : D × D → D → M (Fl (D × D) (D × D)) := fun (s8 : D × D) d50 => bd (li ((uN 2) d50)) (x2 fun d9 d10 => bd (bd (bd (pu a_shares) fun d12 => bd (pu d9) fun d13 => li (dIdx d12 d13)) fun d14 => li (g1 dSum [d14])) fun d11 => bd (bd (bd (bd (bd (pu d10) fun d16 => li (dLst d16)) fun l18 => mf l18 (fun d19 => bd (li (u1 d19)) (fun _ => pu true)) (fun d19 => bd (li (u1 d19)) (x1 fun d17 => bd (bd (pu a_shares) fun d20 => bd (pu d9) fun d21 => li (dIdx d20 d21)) fun d22 => bd (pu d17) fun d23 => li (dIdx d22 d23)))) fun l24 => pu (PyData.list l24)) fun d25 => li (g1 dSum [d25])) fun d15 => sq (bd (bd (pu d2) fun d26 => bd (pu (PyData.str "some")) fun d27 => li (dEq d26 d27)) fun k28 => if k28 then (bd (bd (pu d11) fun d31 => bd (pu d15) fun d32 => li (dSub d31 d32)) fun d30 => pu (.nx d30)) else (pu (.nx d15))) fun s29 : D => bd (bd (pu s8.1) fun d34 => bd (pu s29) fun d35 => li (dMul d34 d35)) fun d33 => bd (bd (pu s8.2) fun d37 => bd (pu d11) fun d38 => li (dMul d37 d38)) fun d36 => pu (.nx (d33, d36)))
def m_kept_by (a_wish : D) (a_shares : D) : M D := fe false (bd (pu a_wish) fun d1 => bd (li ((uN 3) d1)) (x3 fun d2 d3 d4 => bd (pu (PyData.int 1)) fun d5 => bd (pu (PyData.int 1)) fun d6 => sq (bd (bd (pu d4) fun d7 => li (dLst d7)) fun l49 => fo (m_kept_by_b1 a_shares d2) l49 (d5, d6)) fun s8 : D × D => sq (bd (bd (pu d2) fun d39 => bd (pu (PyData.str "some")) fun d40 => li (dEq d39 d40)) fun k41 => if k41 then (bd (bd (pu s8.2) fun d44 => bd (pu s8.1) fun d45 => li (dSub d44 d45)) fun d43 => pu (.nx d43)) else (pu (.nx s8.1))) fun s42 : D => bd (bd (pu s42) fun d46 => bd (pu s8.2) fun d47 => pu (PyData.tuple [d46, d47])) fun d48 => pu (.rt d48)))
-- mean_in_shares
def m_mean_in_shares_b1 (a_shares : D) : D → D → M (Fl D D) := fun (s7 : D) d25 => bd (li (u1 d25)) (x1 fun d8 => bd (bd (pu d8) fun d9 => bd (pu a_shares) fun d10 => m_kept_by d9 d10) fun d11 => bd (li ((uN 2) d11)) (x2 fun d12 d13 => bd (bd (pu s7) fun d21 => bd (bd (bd (bd (pu d8) fun d15 => bd (pu (PyData.int 1)) fun d16 => li (dIdx d15 d16)) fun d17 => bd (pu d12) fun d18 => li (dMul d17 d18)) fun d19 => bd (pu d13) fun d20 => m_lowest d19 d20) fun d22 => m_plus d21 d22) fun d14 => pu (.nx d14)))
def m_mean_in_shares (a_sheet : D) (a_shares : D) : M D := fe false (bd (bd (pu (PyData.int 0)) fun d2 => bd (pu (PyData.int 1)) fun d3 => pu (PyData.tuple [d2, d3])) fun d1 => sq (bd (bd (bd (pu a_sheet) fun d4 => bd (pu (PyData.int 1)) fun d5 => li (dIdx d4 d5)) fun d6 => li (dLst d6)) fun l24 => fo (m_mean_in_shares_b1 a_shares) l24 d1) fun s7 : D => bd (pu s7) fun d23 => pu (.rt d23))
-- mean_by
def m_mean_by (a_sheet : D) (a_shares : D) : M D := fe false (bd (bd (pu a_sheet) fun d1 => bd (pu a_shares) fun d2 => m_need_shares d1 d2) fun _ => bd (bd (pu a_sheet) fun d3 => bd (pu a_shares) fun d4 => m_mean_in_shares d3 d4) fun d5 => pu (.rt d5))
-- with_alone
def m_with_alone (a_sheet : D) (a_shares : D) (a_place : D) (a_way : D) : M D := fe false (bd (bd (bd (bd (bd (bd (bd (pu a_sheet) fun d2 => bd (pu (PyData.int 0)) fun d3 => li (dIdx d2 d3)) fun d4 => bd (pu a_place) fun d5 => li (dIdx d4 d5)) fun d6 => li (dRng1 d6)) fun l8 => mf l8 (fun d9 => bd (li (u1 d9)) (fun _ => pu true)) (fun d9 => bd (li (u1 d9)) (x1 fun d7 => bd (bd (pu d7) fun d10 => bd (pu a_way) fun d11 => li ((dEq d10 d11).map PyData.bool)) fun d12 => li (g1 dInt [d12])))) fun l13 => pu (PyData.list l13)) fun d14 => li (g1 dTup [d14])) fun d1 => bd (bd (bd (bd (pu a_shares) fun d15 => bd (pu none) fun o16 => bd (bd (pu a_place) oInt) fun o17 => li (dCut d15 o16 o17)) fun d19 => bd (bd (pu d1) fun d18 => pu (PyData.tuple [d18])) fun d20 => li (dAdd d19 d20)) fun d26 => bd (bd (pu a_shares) fun d21 => bd (bd (bd (pu a_place) fun d22 => bd (pu (PyData.int 1)) fun d23 => li (dAdd d22 d23)) oInt) fun o24 => bd (pu none) fun o25 => li (dCut d21 o24 o25)) fun d27 => li (dAdd d26 d27)) fun d28 => pu (.rt d28))
-- ways_by
def m_ways_by (a_sheet : D) (a_shares : D) (a_place : D) : M D := fe false (bd (bd (pu a_sheet) fun d1 => bd (pu a_shares) fun d2 => m_need_shares d1 d2) fun _ => bd (bd (bd (bd (bd (pu a_place) fun d3 => pu (PyData.bool (isI "int" d3))) fun d4 => li (dTru d4)) fun k5 => pu (!k5)) fun k17 => if k17 then pu true else (bd (bd (bd (pu a_place) fun d6 => pu (PyData.bool (isI "bool" d6))) fun d7 => li (dTru d7)) fun k16 => if k16 then pu true else (bd (bd (pu (PyData.int 0)) fun d11 => bd (pu a_place) fun d12 => bd (li (dLe d11 d12)) fun k14 => if k14 then bd (bd (bd (pu a_sheet) fun d8 => bd (pu (PyData.int 0)) fun d9 => li (dIdx d8 d9)) fun d10 => li (g1 dLen [d10])) fun d13 => li (dLt d12 d13) else pu false) fun k15 => pu (!k15)))) fun k18 => if k18 then no else (bd (bd (bd (bd (bd (bd (pu a_sheet) fun d19 => bd (pu (PyData.int 0)) fun d20 => li (dIdx d19 d20)) fun d21 => bd (pu a_place) fun d22 => li (dIdx d21 d22)) fun d23 => li (dRng1 d23)) fun l25 => mf l25 (fun d26 => bd (li (u1 d26)) (fun _ => pu true)) (fun d26 => bd (li (u1 d26)) (x1 fun d24 => bd (pu a_sheet) fun d31 => bd (bd (pu a_sheet) fun d27 => bd (pu a_shares) fun d28 => bd (pu a_place) fun d29 => bd (pu d24) fun d30 => m_with_alone d27 d28 d29 d30) fun d32 => m_mean_in_shares d31 d32))) fun l33 => pu (PyData.list l33)) fun d34 => pu (.rt d34)))
-- rounded
def m_rounded_b1 (s9 : D × List D) (d10 : D) (a_sheet : D) : D → D → M (Fl D D) := fun (s17 : D) d58 => bd (li (u1 d58)) (x1 fun d18 => sq (bd (bd (bd (bd (pu s9.1) fun d19 => bd (pu d10) fun d20 => li (dIdx d19 d20)) fun d21 => bd (pu d18) fun d22 => li (dIdx d21 d22)) fun d23 => bd (pu (PyData.int 0)) fun d24 => li (dGt d23 d24)) fun k25 => if k25 then (bd (bd (pu a_sheet) fun d32 => bd (bd (pu a_sheet) fun d28 => bd (pu s9.1) fun d29 => bd (pu d10) fun d30 => bd (pu d18) fun d31 => m_with_alone d28 d29 d30 d31) fun d33 => m_mean_in_shares d32 d33) fun d27 => sq (bd (bd (bd (pu s17) fun d34 => bd (pu PyData.none) fun d35 => li (dIs d34 d35)) fun k41 => if k41 then pu true else (bd (bd (bd (pu s17) fun d36 => bd (pu (PyData.int 0)) fun d37 => li (dIdx d36 d37)) fun d38 => bd (pu d27) fun d39 => m_is_less d38 d39) fun d40 => li (dTru d40))) fun k42 => if k42 then (bd (bd (pu d27) fun d45 => bd (pu d18) fun d46 => pu (PyData.tuple [d45, d46])) fun d44 => pu (.nx d44)) else (pu (.nx s17))) fun s43 : D => pu (.nx s43)) else (pu (.nx s17))) fun s26 : D => pu (.nx s26))
def m_rounded_b2 (a_sheet : D) : D × List D → D → M (Fl (D × List D) (D × List D)) := fun (s9 : D × List D) d62 => bd (li (u1 d62)) (x1 fun d10 => bd (pu PyData.none) fun d11 => sq (bd (bd (bd (bd (pu a_sheet) fun d12 => bd (pu (PyData.int 0)) fun d13 => li (dIdx d12 d13)) fun d14 => bd (pu d10) fun d15 => li (dIdx d14 d15)) fun d16 => li (dRng1 d16)) fun l57 => fo (m_rounded_b1 s9 d10 a_sheet) l57 d11) fun s17 : D => bd (bd (pu s17) fun d47 => bd (pu (PyData.int 1)) fun d48 => li (dIdx d47 d48)) fun d49 => bd (ck (decide (s9.2.length < 16777216))) fun _ => bd (bd (pu a_sheet) fun d53 => bd (pu s9.1) fun d54 => bd (pu d10) fun d55 => bd (bd (pu s17) fun d51 => bd (pu (PyData.int 1)) fun d52 => li (dIdx d51 d52)) fun d56 => m_with_alone d53 d54 d55 d56) fun d50 => pu (.nx (d50, (s9.2 ++ [d49]))))
def m_rounded (a_sheet : D) (a_shares : D) : M D := fe false (bd (bd (pu a_sheet) fun d1 => bd (pu a_shares) fun d2 => m_need_shares d1 d2) fun _ => bd (pu []) fun l4 => sq (bd (bd (bd (bd (pu a_sheet) fun d5 => bd (pu (PyData.int 0)) fun d6 => li (dIdx d5 d6)) fun d7 => li (g1 dLen [d7])) fun d8 => li (dRng1 d8)) fun l61 => fo (m_rounded_b2 a_sheet) l61 (a_shares, l4)) fun s9 : D × List D => bd (bd (pu (PyData.list s9.2)) fun d59 => li (g1 dTup [d59])) fun d60 => pu (.rt d60))
-- _law_ashares
def m__law_ashares_b1 (a_tape : Nat) (d1 : D) : List D → D → M (Fl (List D) (List D)) := fun (s13 : List D) d49 => bd (li (u1 d49)) (x1 fun d14 => bd (bd (pu (PyData.int 3)) fun d16 => m__law_adigit a_tape d16) fun d15 => bd (bd (bd (bd (pu (PyData.int 1)) fun d22 => bd (pu d15) fun d23 => bd (bd (pu (PyData.int 100)) fun d17 => m__law_adigit a_tape d17) fun d24 => bd (bd (pu (PyData.int 99)) fun d20 => bd (bd (pu (PyData.int 1)) fun d18 => bd (pu d15) fun d19 => li (g2 dMin2 [d18, d19])) fun d21 => li (dMul d20 d21)) fun d25 => pu [d22, d23, d24, d25]) fun l26 => pu (PyData.list l26)) fun d27 => bd (pu d1) fun d28 => li (dIdx d27 d28)) fun d29 => bd (ck (decide (s13.length < 16777216))) fun _ => pu (.nx (s13 ++ [d29])))
def m__law_ashares_b2 (a_tape : Nat) (d1 : D) : List D → D → M (Fl (List D) (List D)) := fun (s8 : List D) d53 => bd (li (u1 d53)) (x1 fun d9 => bd (pu []) fun l11 => sq (bd (bd (pu d9) fun d12 => li (dRng1 d12)) fun l48 => fo (m__law_ashares_b1 a_tape d1) l48 l11) fun s13 : List D => sq (bd (bd (bd (pu (PyData.list s13)) fun d30 => li (g1 dSum [d30])) fun d31 => bd (pu (PyData.int 0)) fun d32 => li (dEq d31 d32)) fun k33 => if k33 then (bd (bd (bd (bd (pu (PyData.int 1)) fun d35 => bd (pu (PyData.int 99)) fun d36 => bd (pu (PyData.int 7)) fun d37 => pu [d35, d36, d37]) fun l38 => pu (PyData.list l38)) fun d40 => bd (bd (pu (PyData.int 3)) fun d39 => m__law_adigit a_tape d39) fun d41 => li (dIdx d40 d41)) fun d43 => bd (bd (pu d9) fun d42 => m__law_adigit a_tape d42) fun d44 => bd (li (setD s13 d44 d43)) fun l45 => pu (.nx (PyData.list l45))) else (pu (.nx (PyData.list s13)))) fun s34 : D => bd (bd (pu s34) fun d46 => li (g1 dTup [d46])) fun d47 => bd (ck (decide (s8.length < 16777216))) fun _ => pu (.nx (s8 ++ [d47])))
def m__law_ashares (a_tape : Nat) (a_sheet : D) : M D := fe false (bd (bd (pu (PyData.int 4)) fun d2 => m__law_adigit a_tape d2) fun d1 => bd (pu []) fun l4 => sq (bd (bd (bd (pu a_sheet) fun d5 => bd (pu (PyData.int 0)) fun d6 => li (dIdx d5 d6)) fun d7 => li (dLst d7)) fun l52 => fo (m__law_ashares_b2 a_tape d1) l52 l4) fun s8 : List D => bd (bd (pu (PyData.list s8)) fun d50 => li (g1 dTup [d50])) fun d51 => pu (.rt d51))
-- _law_aalone
def m__law_aalone (a_sheet : D) (a_shares : D) (a_place : D) (a_way : D) : M D := fe false (bd (bd (bd (bd (bd (bd (bd (pu a_sheet) fun d2 => bd (pu (PyData.int 0)) fun d3 => li (dIdx d2 d3)) fun d4 => bd (pu a_place) fun d5 => li (dIdx d4 d5)) fun d6 => li (dRng1 d6)) fun l8 => mf l8 (fun d9 => bd (li (u1 d9)) (fun _ => pu true)) (fun d9 => bd (li (u1 d9)) (x1 fun d7 => bd (bd (pu d7) fun d10 => bd (pu a_way) fun d11 => li ((dEq d10 d11).map PyData.bool)) fun d12 => li (g1 dInt [d12])))) fun l13 => pu (PyData.list l13)) fun d14 => li (g1 dTup [d14])) fun d1 => bd (bd (bd (bd (pu a_shares) fun d15 => bd (pu none) fun o16 => bd (bd (pu a_place) oInt) fun o17 => li (dCut d15 o16 o17)) fun d19 => bd (bd (pu d1) fun d18 => pu (PyData.tuple [d18])) fun d20 => li (dAdd d19 d20)) fun d26 => bd (bd (pu a_shares) fun d21 => bd (bd (bd (pu a_place) fun d22 => bd (pu (PyData.int 1)) fun d23 => li (dAdd d22 d23)) oInt) fun o24 => bd (pu none) fun o25 => li (dCut d21 o24 o25)) fun d27 => li (dAdd d26 d27)) fun d28 => pu (.rt d28))
-- _law_ano_more
def m__law_ano_more (a_one : D) (a_other : D) : M D := fe false (bd (bd (bd (bd (pu a_one) fun d1 => bd (pu (PyData.int 0)) fun d2 => li (dIdx d1 d2)) fun d5 => bd (bd (pu a_other) fun d3 => bd (pu (PyData.int 1)) fun d4 => li (dIdx d3 d4)) fun d6 => li (dMul d5 d6)) fun d13 => bd (bd (bd (pu a_other) fun d7 => bd (pu (PyData.int 0)) fun d8 => li (dIdx d7 d8)) fun d11 => bd (bd (pu a_one) fun d9 => bd (pu (PyData.int 1)) fun d10 => li (dIdx d9 d10)) fun d12 => li (dMul d11 d12)) fun d14 => li ((dLe d13 d14).map PyData.bool)) fun d15 => pu (.rt d15))
-- _law_asheet
def m__law_asheet_b1 (a_tape : Nat) (d34 : D) (s16 : List D × D) : List D → D → M (Fl (List D) (List D)) := fun (s64 : List D) d91 => bd (li (u1 d91)) (x1 fun d65 => sq (bd (bd (bd (pu (PyData.int 5)) fun d66 => m__law_adigit a_tape d66) fun d67 => bd (pu d34) fun d68 => li (dLt d67 d68)) fun k69 => if k69 then (bd (bd (pu d65) fun d82 => bd (bd (bd (bd (bd (bd (pu (PyData.list s16.1)) fun d71 => bd (pu d65) fun d72 => li (dIdx d71 d72)) fun d73 => li (dRng1 d73)) fun l75 => mf l75 (fun d76 => bd (li (u1 d76)) (x1 fun d74 => bd (bd (pu (PyData.int 2)) fun d77 => m__law_adigit a_tape d77) fun d78 => bd (pu (PyData.int 1)) fun d79 => li (dEq d78 d79))) (fun d76 => bd (li (u1 d76)) (x1 fun d74 => pu d74))) fun l80 => pu (PyData.list l80)) fun d81 => li (g1 dTup [d81])) fun d83 => pu (PyData.tuple [d82, d83])) fun d84 => bd (ck (decide (s64.length < 16777216))) fun _ => pu (.nx (s64 ++ [d84]))) else (pu (.nx s64))) fun s70 : List D => pu (.nx s70))
def m__law_asheet_b2 (a_tape : Nat) (s16 : List D × D) (d34 : D) : List D → D → M (Fl (List D) (List D)) := fun (s42 : List D) d98 => bd (li (u1 d98)) (x1 fun d43 => bd (bd (bd (bd (pu (PyData.str "all")) fun d45 => bd (pu (PyData.str "some")) fun d46 => pu [d45, d46]) fun l47 => pu (PyData.list l47)) fun d49 => bd (bd (pu (PyData.int 2)) fun d48 => m__law_adigit a_tape d48) fun d50 => li (dIdx d49 d50)) fun d44 => bd (bd (bd (bd (pu (PyData.int 99)) fun d53 => bd (pu (PyData.int 1)) fun d54 => bd (bd (pu (PyData.int 100)) fun d52 => m__law_adigit a_tape d52) fun d55 => pu [d53, d54, d55]) fun l56 => pu (PyData.list l56)) fun d58 => bd (bd (pu (PyData.int 3)) fun d57 => m__law_adigit a_tape d57) fun d59 => li (dIdx d58 d59)) fun d51 => bd (pu []) fun l61 => sq (bd (bd (bd (pu (PyData.list s16.1)) fun d62 => li (g1 dLen [d62])) fun d63 => li (dRng1 d63)) fun l90 => fo (m__law_asheet_b1 a_tape d34 s16) l90 l61) fun s64 : List D => bd (bd (pu d44) fun d86 => bd (pu d51) fun d87 => bd (bd (pu (PyData.list s64)) fun d85 => li (g1 dTup [d85])) fun d88 => pu (PyData.tuple [d86, d87, d88])) fun d89 => bd (ck (decide (s42.length < 16777216))) fun _ => pu (.nx (s42 ++ [d89])))
def m__law_asheet_b3 (a_bound : D) : List D × D → D → M (Fl (List D × D) (List D × D)) := fun (s16 : List D × D) d100 => bd (li (u1 d100)) (x1 fun d17 => sq (bd (bd (bd (pu s16.2) fun d20 => bd (bd (pu (PyData.list s16.1)) fun d18 => bd (pu d17) fun d19 => li (dIdx d18 d19)) fun d21 => li (dMul d20 d21)) fun d22 => bd (pu a_bound) fun d23 => li (dGt d22 d23)) fun k24 => if k24 then (bd (pu (PyData.int 1)) fun d26 => bd (pu d17) fun d27 => bd (li (setD s16.1 d27 d26)) fun l28 => pu (.nx l28)) else (pu (.nx s16.1))) fun s25 : List D => bd (bd (bd (pu s16.2) fun d32 => bd (bd (pu (PyData.list s25)) fun d30 => bd (pu d17) fun d31 => li (dIdx d30 d31)) fun d33 => li (dMul d32 d33)) nl) fun d29 => pu (.nx (s25, d29)))
def m__law_asheet (a_tape : Nat) (a_places : D) (a_bound : D) : M D := fe false (bd (bd (bd (bd (bd (pu a_places) fun d2 => bd (pu (PyData.int 1)) fun d3 => li (dAdd d2 d3)) fun d4 => m__law_adigit a_tape d4) fun d5 => li (dRng1 d5)) fun l7 => mf l7 (fun d8 => bd (li (u1 d8)) (fun _ => pu true)) (fun d8 => bd (li (u1 d8)) (x1 fun d6 => bd (pu (PyData.int 1)) fun d10 => bd (bd (pu (PyData.int 4)) fun d9 => m__law_adigit a_tape d9) fun d11 => li (dAdd d10 d11)))) fun l12 => bd (pu (PyData.int 1)) fun d13 => sq (bd (bd (bd (bd (pu (PyData.list l12)) fun d14 => li (g1 dLen [d14])) nl) fun d15 => li (dRng1 d15)) fun l99 => fo (m__law_asheet_b3 a_bound) l99 (l12, d13)) fun s16 : List D × D => bd (bd (pu (PyData.int 1)) fun d36 => bd (bd (pu (PyData.int 4)) fun d35 => m__law_adigit a_tape d35) fun d37 => li (dAdd d36 d37)) fun d34 => bd (pu []) fun l39 => sq (bd (bd (bd (pu (PyData.int 9)) fun d40 => m__law_adigit a_tape d40) fun d41 => li (dRng1 d41)) fun l97 => fo (m__law_asheet_b2 a_tape s16 d34) l97 l39) fun s42 : List D => bd (bd (bd (pu (PyData.list s16.1)) fun d92 => li (g1 dTup [d92])) fun d94 => bd (bd (pu (PyData.list s42)) fun d93 => li (g1 dTup [d93])) fun d95 => pu (PyData.tuple [d94, d95])) fun d96 => pu (.rt d96))
-- _law_aall
def m__law_aall_b1 (d6 : D) : D → D → M (Fl D D) := fun (s10 : D) d25 => bd (li (u1 d25)) (x1 fun d11 => bd (bd (pu s10) fun d21 => bd (bd (bd (bd (pu d6) fun d13 => li (dRng1 d13)) fun l15 => mf l15 (fun d16 => bd (li (u1 d16)) (fun _ => pu true)) (fun d16 => bd (li (u1 d16)) (x1 fun d14 => bd (pu d11) fun d18 => bd (bd (pu d14) fun d17 => pu (PyData.tuple [d17])) fun d19 => li (dAdd d18 d19)))) fun l20 => pu (PyData.list l20)) fun d22 => li (dAdd d21 d22)) fun d12 => pu (.nx d12))
def m__law_aall_b2  : D → D → M (Fl D D) := fun (s5 : D) d28 => bd (li (u1 d28)) (x1 fun d6 => bd (bd (pu []) fun l8 => pu (PyData.list l8)) fun d7 => sq (bd (bd (pu s5) fun d9 => li (dLst d9)) fun l24 => fo (m__law_aall_b1 d6) l24 d7) fun s10 : D => bd (pu s10) fun d23 => pu (.nx d23))
def m__law_aall (a_ways : D) : M D := fe false (bd (bd (bd (pu (PyData.tuple [])) fun d2 => pu [d2]) fun l3 => pu (PyData.list l3)) fun d1 => sq (bd (bd (pu a_ways) fun d4 => li (dLst d4)) fun l27 => fo m__law_aall_b2 l27 d1) fun s5 : D => bd (pu s5) fun d26 => pu (.rt d26))
-- _law_aworth
def m__law_aworth_b1 (a_choosing : D) : D → D → M (Fl D D) := fun (s5 : D) d38 => bd (li ((uN 3) d38)) (x3 fun d6 d7 d8 => bd (bd (bd (pu d8) fun d10 => li (dLst d10)) fun l13 => mf l13 (fun d14 => bd (li ((uN 2) d14)) (fun _ => pu true)) (fun d14 => bd (li ((uN 2) d14)) (x2 fun d11 d12 => bd (bd (pu a_choosing) fun d15 => bd (pu d11) fun d16 => li (dIdx d15 d16)) fun d17 => bd (pu d12) fun d18 => li ((dIn d17 d18).map PyData.bool)))) fun l19 => sq (bd (bd (bd (bd (pu d6) fun d20 => bd (pu (PyData.str "all")) fun d21 => li (dEq d20 d21)) fun k24 => if k24 then (bd (pu (PyData.bool false)) fun d22 => bd (pu (PyData.list l19)) fun d23 => li (dNin d22 d23)) else pu false) fun k30 => if k30 then pu true else (bd (bd (pu d6) fun d25 => bd (pu (PyData.str "some")) fun d26 => li (dEq d25 d26)) fun k29 => if k29 then (bd (pu (PyData.bool true)) fun d27 => bd (pu (PyData.list l19)) fun d28 => li (dIn d27 d28)) else pu false)) fun k31 => if k31 then (bd (bd (pu s5) fun d34 => bd (pu d7) fun d35 => li (dAdd d34 d35)) fun d33 => pu (.nx d33)) else (pu (.nx s5))) fun s32 : D => pu (.nx s32))
def m__law_aworth (a_sheet : D) (a_choosing : D) : M D := fe false (bd (pu (PyData.int 0)) fun d1 => sq (bd (bd (bd (pu a_sheet) fun d2 => bd (pu (PyData.int 1)) fun d3 => li (dIdx d2 d3)) fun d4 => li (dLst d4)) fun l37 => fo (m__law_aworth_b1 a_choosing) l37 d1) fun s5 : D => bd (pu s5) fun d36 => pu (.rt d36))
-- _law_amean_by
def m__law_amean_by_b1 (a_shares : D) (d8 : D) : D → D → M (Fl D D) := fun (s12 : D) d38 => bd (li (u1 d38)) (x1 fun d13 => bd (bd (pu s12) fun d21 => bd (bd (bd (pu a_shares) fun d15 => bd (pu d13) fun d16 => li (dIdx d15 d16)) fun d19 => bd (bd (pu d8) fun d17 => bd (pu d13) fun d18 => li (dIdx d17 d18)) fun d20 => li (dIdx d19 d20)) fun d22 => li (dMul d21 d22)) fun d14 => pu (.nx d14))
def m__law_amean_by_b2 (a_shares : D) (a_sheet : D) : D × D → D → M (Fl (D × D) (D × D)) := fun (s7 : D × D) d43 => bd (li (u1 d43)) (x1 fun d8 => bd (pu (PyData.int 1)) fun d9 => sq (bd (bd (bd (pu d8) fun d10 => li (g1 dLen [d10])) fun d11 => li (dRng1 d11)) fun l37 => fo (m__law_amean_by_b1 a_shares d8) l37 d9) fun s12 : D => sq (bd (bd (pu s12) fun d23 => bd (pu (PyData.int 0)) fun d24 => li (dGt d23 d24)) fun k25 => if k25 then (bd (bd (pu s7.1) fun d32 => bd (bd (pu s12) fun d30 => bd (bd (pu a_sheet) fun d28 => bd (pu d8) fun d29 => m__law_aworth d28 d29) fun d31 => li (dMul d30 d31)) fun d33 => li (dAdd d32 d33)) fun d27 => bd (bd (pu s7.2) fun d35 => bd (pu s12) fun d36 => li (dAdd d35 d36)) fun d34 => pu (.nx (d27, d34))) else (pu (.nx (s7.1, s7.2)))) fun s26 : D × D => pu (.nx (s26.1, s26.2)))
def m__law_amean_by (a_sheet : D) (a_shares : D) : M D := fe false (bd (pu (PyData.int 0)) fun d1 => bd (pu (PyData.int 0)) fun d2 => sq (bd (bd (bd (bd (pu a_sheet) fun d3 => bd (pu (PyData.int 0)) fun d4 => li (dIdx d3 d4)) fun d5 => m__law_aall d5) fun d6 => li (dLst d6)) fun l42 => fo (m__law_amean_by_b2 a_shares a_sheet) l42 (d1, d2)) fun s7 : D × D => bd (bd (pu s7.1) fun d39 => bd (pu s7.2) fun d40 => m__law_alow d39 d40) fun d41 => pu (.rt d41))
end
end Q


set_option maxRecDepth 100000
set_option maxHeartbeats 1000000
namespace Q
open DL PySem PySem.Spec PyProof.Rows L2 RZ
open PySem.W (alike alikeAll dataLt maxD minD)

/-! the most and the least -/
theorem all_ok {ways : List Nat} (h : OkWays ways) : m_all_choosings (tN ways) = pu (.list ((allC ways).map tN)) := by
  have q := outer_all (L := Empty) (body := m_all_choosings_b2) (fun fs m hm hb hl => by
    have i := inner_all (L := D) (body := m_all_choosings_b1 (cI m)) (m := m) (fun acc b hb hl => by
      have ck1 : decide (acc.length + ((List.range m).map fun w => tN (b ++ [w])).length ≤ 16777216) = true := decide_eq_true (by simp; omega)
      unfold m_all_choosings_b1
      simp -implicitDefEqProofs only [u1, li_some, bd_pu, x1, rng_cI m (by omega)]
      rw [mf_map (c := cI) (g := fun w => tN (b ++ [w])) (fun x _ => rfl) fun w mw => by
        simp -implicitDefEqProofs only [u1, li_some, bd_pu, x1, dAdd_tN1 (a := b) (x := w) (by omega)]]
      simp -implicitDefEqProofs only [bd_pu, toL, ck1, ck_true]) fs [] hb (by
      have := Nat.mul_le_mul_right fs.length hm
      simp only [List.length_nil, Nat.zero_add]
      omega)
    unfold m_all_choosings_b2
    simp -implicitDefEqProofs only [u1, li_some, bd_pu, x1, dLst_l, i, sq_nx, List.nil_append]
    rfl) ways [[]] 0 h.hi (by simp) (by have := h.len; omega) (by simp)
  unfold m_all_choosings
  simp -implicitDefEqProofs only [bd_pu, li_some, tN, dLst_t]
  rw [show (PyData.list [.tuple []]) = .list ([[]].map tN) from rfl, q]
  simp -implicitDefEqProofs only [sq_nx, bd_pu, fe_rt]
  rfl
def wc (ws : List Wi) (c : List Nat) : D := .tuple [cI (wo c ws), tN c]
theorem worths_ok {ways : List Nat} {ws : List Wi} (h : OkS ways ws) : m_worths_in (tS ways ws) = pu (.list ((allC ways).map (wc ws))) := by
  unfold m_worths_in
  simp -implicitDefEqProofs only [bd_pu, dIdx_S0, li_some, all_ok h.wy, dLst_l]
  rw [mf_map (c := tN) (g := wc ws) (fun x _ => rfl) fun c mc => by
    simp -implicitDefEqProofs only [u1, li_some, bd_pu, x1, worth_in_ok h (okC_allC mc), wc]]
  simp -implicitDefEqProofs only [bd_pu, fe_rt]
theorem alikeN (a b : List Nat) : alikeAll (a.map cI) (b.map cI) = true := by
  induction a generalizing b with
  | nil => cases b <;> rfl
  | cons x a ih =>
    cases b with
    | nil => rfl
    | cons y b =>
      show alikeAll (cI x :: a.map cI) (cI y :: b.map cI) = true
      rw [alikeAll, ih b]
      rfl
theorem alike_tN (a b : List Nat) : alike (tN a) (tN b) = true := by
  show alike (.tuple _) (.tuple _) = true
  rw [alike]
  exact alikeN a b
theorem alike_wc (ws : List Wi) (a b : List Nat) : alike (wc ws a) (wc ws b) = true := by
  show alike (.tuple [cI (wo a ws), tN a]) (.tuple [cI (wo b ws), tN b]) = true
  rw [alike, alikeAll, alikeAll, alike_tN]
  rfl
theorem sh_wc (ws : List Wi) (c : List Nat) : Sh 3 (wc ws c) := sh_tup (sh_two ((sh_cI _).mono (by decide)) (sh_tN c))
theorem cmp_wc (ws : List Wi) (l : List (List Nat)) : cmpOk (l.map (wc ws)) = true := by
  have s : Sh 4 (.list (l.map (wc ws))) := sh_list fun d m => by
    obtain ⟨c, _, rfl⟩ := List.mem_map.mp m
    exact sh_wc ws c
  unfold cmpOk alkB
  rw [s.shaped, Bool.and_true, List.all_eq_true]
  intro x mx
  obtain ⟨a, _, rfl⟩ := List.mem_map.mp mx
  rw [Bool.and_eq_true, List.all_eq_true]
  refine ⟨rfl, fun y my => ?_⟩
  obtain ⟨b, _, rfl⟩ := List.mem_map.mp my
  exact alike_wc ws a b
theorem eqv_c (a b : Nat) : PyData.eqv (cI a) (cI b) = decide (a = b) := by
  have := dEq_c a b
  show ((a : Int) == (b : Int)) = _
  by_cases e : a = b
  · subst e
    rw [decide_eq_true rfl]
    exact beq_iff_eq.mpr rfl
  · rw [decide_eq_false e]
    exact beq_eq_false_iff_ne.mpr (by omega)
theorem lt_wc (ws : List Wi) (a b : List Nat) : (dataLt (wc ws a) (wc ws b) = true → wo a ws ≤ wo b ws) ∧ (dataLt (wc ws a) (wc ws b) = false → wo b ws ≤ wo a ws) := by
  show (dataLt (.tuple [cI (wo a ws), tN a]) (.tuple [cI (wo b ws), tN b]) = true → _) ∧ (dataLt (.tuple [cI (wo a ws), tN a]) (.tuple [cI (wo b ws), tN b]) = false → _)
  rw [PySem.W.dataLt_pair rfl (alike_tN a b), eqv_c]
  by_cases e : wo a ws = wo b ws
  · exact ⟨fun _ => by omega, fun _ => by omega⟩
  · rw [decide_eq_false e, if_neg Bool.false_ne_true]
    show (dataLt (.int _) (.int _) = true → _) ∧ (dataLt (.int _) (.int _) = false → _)
    rw [PySem.W.dataLt_int]
    refine ⟨fun h => ?_, fun h => ?_⟩
    · have := of_decide_eq_true h
      omega
    · have := of_decide_eq_false h
      omega
theorem maxD_wc (ws : List Wi) : ∀ (l : List (List Nat)) (a : List Nat), ∃ c, maxD (wc ws a) (l.map (wc ws)) = wc ws c ∧ c ∈ a :: l ∧ ∀ x ∈ a :: l, wo x ws ≤ wo c ws
  | [], a => ⟨a, rfl, List.mem_cons_self, fun x m => by
    rcases List.mem_cons.mp m with rfl | m
    · exact Nat.le_refl _
    · cases m⟩
  | b :: l, a => by
    have hl := lt_wc ws a b
    cases e : dataLt (wc ws a) (wc ws b) with
    | true =>
      obtain ⟨c, h1, h2, h3⟩ := maxD_wc ws l b
      refine ⟨c, ?_, List.mem_cons_of_mem _ h2, fun x m => ?_⟩
      · rw [← h1]
        unfold maxD
        rw [List.map_cons, List.foldl_cons, e, if_pos rfl]
      · rcases List.mem_cons.mp m with rfl | m
        · exact Nat.le_trans (hl.1 e) (h3 b List.mem_cons_self)
        · exact h3 x m
    | false =>
      obtain ⟨c, h1, h2, h3⟩ := maxD_wc ws l a
      refine ⟨c, ?_, ?_, fun x m => ?_⟩
      · rw [← h1]
        unfold maxD
        rw [List.map_cons, List.foldl_cons, e, if_neg Bool.false_ne_true]
      · rcases List.mem_cons.mp h2 with rfl | h2
        · exact List.mem_cons_self
        · exact List.mem_cons_of_mem _ (List.mem_cons_of_mem _ h2)
      · rcases List.mem_cons.mp m with rfl | m
        · exact h3 x List.mem_cons_self
        · rcases List.mem_cons.mp m with rfl | m
          · exact Nat.le_trans (hl.2 e) (h3 a List.mem_cons_self)
          · exact h3 x (List.mem_cons_of_mem _ m)
theorem minD_wc (ws : List Wi) : ∀ (l : List (List Nat)) (a : List Nat), ∃ c, minD (wc ws a) (l.map (wc ws)) = wc ws c ∧ c ∈ a :: l ∧ ∀ x ∈ a :: l, wo c ws ≤ wo x ws
  | [], a => ⟨a, rfl, List.mem_cons_self, fun x m => by
    rcases List.mem_cons.mp m with rfl | m
    · exact Nat.le_refl _
    · cases m⟩
  | b :: l, a => by
    have hl := lt_wc ws b a
    cases e : dataLt (wc ws b) (wc ws a) with
    | true =>
      obtain ⟨c, h1, h2, h3⟩ := minD_wc ws l b
      refine ⟨c, ?_, List.mem_cons_of_mem _ h2, fun x m => ?_⟩
      · rw [← h1]
        unfold minD
        rw [List.map_cons, List.foldl_cons, e, if_pos rfl]
      · rcases List.mem_cons.mp m with rfl | m
        · exact Nat.le_trans (h3 b List.mem_cons_self) (hl.1 e)
        · exact h3 x m
    | false =>
      obtain ⟨c, h1, h2, h3⟩ := minD_wc ws l a
      refine ⟨c, ?_, ?_, fun x m => ?_⟩
      · rw [← h1]
        unfold minD
        rw [List.map_cons, List.foldl_cons, e, if_neg Bool.false_ne_true]
      · rcases List.mem_cons.mp h2 with rfl | h2
        · exact List.mem_cons_self
        · exact List.mem_cons_of_mem _ (List.mem_cons_of_mem _ h2)
      · rcases List.mem_cons.mp m with rfl | m
        · exact h3 x List.mem_cons_self
        · rcases List.mem_cons.mp m with rfl | m
          · exact Nat.le_trans (h3 a List.mem_cons_self) (hl.2 e)
          · exact h3 x (List.mem_cons_of_mem _ m)
theorem cnt_mul : ∀ (l : List Nat) (a : Nat), l.foldl (· * ·) a = a * cnt l
  | [], a => (Nat.mul_one a).symm
  | m :: l, a => by
    rw [List.foldl_cons, cnt_mul l]
    show a * m * cnt l = a * (m * cnt l)
    rw [Nat.mul_assoc]
theorem need_few_ok {ways : List Nat} {ws : List Wi} (h : OkS ways ws) (hc : cnt ways ≤ 1024) : m_need_few (tS ways ws) = pu .none := by
  have q : ∀ (l : List Nat) (a n : Nat), (∀ m ∈ l, m ≤ 4) → a < 2 ^ n → n + 3 * l.length ≤ 60 → fo (L := Empty) m_need_few_b1 (l.map cI) (cI a) = pu (.nx (cI (l.foldl (· * ·) a))) := by
    intro l
    induction l with
    | nil => intro a n _ _ _; rfl
    | cons m l ih =>
      intro a n hm ha hn
      rw [List.length_cons] at hn
      have m4 := hm m List.mem_cons_self
      have e := dMul_c (a := a) (b := m) (m := n) (n := 3) ha (by omega) (by omega)
      rw [List.map_cons, fo]
      have b1 : m_need_few_b1 (cI a) (cI m) = pu (.nx (cI (a * m))) := by
        unfold m_need_few_b1
        simp -implicitDefEqProofs only [u1, li_some, bd_pu, x1, e]
      rw [b1, bd_pu]
      show fo _ _ _ = _
      refine ih (a * m) (n + 3) (fun x mx => hm x (List.mem_cons_of_mem _ mx)) ?_ (by omega)
      rw [Nat.pow_add]
      exact Nat.mul_lt_mul_of_lt_of_le ha (by omega) (by decide)
  have := h.wy.len
  have q1 := q ways 1 1 h.wy.hi (by decide) (by omega)
  rw [cnt_mul, Nat.one_mul] at q1
  have e1 : dGt (cI (cnt ways)) (.int 1024) = some false := by
    rw [show (PyData.int 1024) = cI 1024 from rfl, dGt_c, decide_eq_false (by omega)]
  unfold m_need_few
  simp -implicitDefEqProofs only [bd_pu, need_sheet_ok h, dIdx_S0, li_some, tN, dLst_t]
  rw [show (PyData.int 1) = cI 1 from rfl, q1]
  simp -implicitDefEqProofs only [sq_nx, bd_pu, e1, li_some, Bool.false_eq_true, if_false, fe_nx]
theorem allC_ne {ways : List Nat} (h : OkWays ways) : ∃ a l, allC ways = a :: l := by
  have : 1 ≤ cnt ways := cnt_pos h.lo
  rw [← allC_len] at this
  match allC ways, this with
  | [], h => exact absurd h (by simp)
  | a :: l, _ => exact ⟨a, l, rfl⟩
theorem most_ok {ways : List Nat} {ws : List Wi} (h : OkS ways ws) (hc : cnt ways ≤ 1024) : ∃ c, m_most (tS ways ws) = pu (wc ws c) ∧ c ∈ allC ways ∧ ∀ x ∈ allC ways, wo x ws ≤ wo c ws := by
  obtain ⟨a, l, e⟩ := allC_ne h.wy
  obtain ⟨c, h1, h2, h3⟩ := maxD_wc ws l a
  refine ⟨c, ?_, by rw [e]; exact h2, fun x m => h3 x (by rw [← e]; exact m)⟩
  have e1 : dMaxT (.list ((allC ways).map (wc ws))) = some (wc ws c) := by
    rw [e, List.map_cons]
    show (if cmpOk ((a :: l).map (wc ws)) then some (maxD (wc ws a) (l.map (wc ws))) else none) = _
    rw [cmp_wc, if_pos rfl, h1]
  unfold m_most
  simp -implicitDefEqProofs only [bd_pu, need_few_ok h hc, worths_ok h, g1, e1, li_some, fe_rt]
theorem least_ok {ways : List Nat} {ws : List Wi} (h : OkS ways ws) (hc : cnt ways ≤ 1024) : ∃ c, m_least (tS ways ws) = pu (wc ws c) ∧ c ∈ allC ways ∧ ∀ x ∈ allC ways, wo c ws ≤ wo x ws := by
  obtain ⟨a, l, e⟩ := allC_ne h.wy
  obtain ⟨c, h1, h2, h3⟩ := minD_wc ws l a
  refine ⟨c, ?_, by rw [e]; exact h2, fun x m => h3 x (by rw [← e]; exact m)⟩
  have e1 : dMinT (.list ((allC ways).map (wc ws))) = some (wc ws c) := by
    rw [e, List.map_cons]
    show (if cmpOk ((a :: l).map (wc ws)) then some (minD (wc ws a) (l.map (wc ws))) else none) = _
    rw [cmp_wc, if_pos rfl, h1]
  unfold m_least
  simp -implicitDefEqProofs only [bd_pu, need_few_ok h hc, worths_ok h, g1, e1, li_some, fe_rt]
/-! a sheet cut to few choosings -/
theorem cut_step {B : Nat} {ways : List Nat} (h : OkWays ways) (hB : 1 ≤ B) (hB2 : B ≤ 2000) : ∀ (l p : List Nat) (b : Nat) (k : Nat), (∃ s, ways = s ++ l ∧ ((b = B ∧ p = s) ∨ (b = 0 ∧ ∃ t, s = p ++ t))) → cnt p ≤ B → 1 ≤ cnt p →
    ∃ b' p' t, fo (L := Empty) m__law_b_cut_b2 (l.map cI) (cI b, tN p, cI (cnt p)) = pu (.nx (b', tN p', cI (cnt p'))) ∧ ways = p' ++ t ∧ cnt p' ≤ B
  | [], p, b, k, ⟨s, e, hs⟩, h1, h2 => by
    rw [List.append_nil] at e
    rcases hs with ⟨rfl, rfl⟩ | ⟨rfl, t, rfl⟩
    · exact ⟨cI b, p, [], rfl, by rw [e, List.append_nil], h1⟩
    · exact ⟨cI 0, p, t, rfl, e, h1⟩
  | m :: l, p, b, k, ⟨s, e, hs⟩, h1, h2 => by
    have mm : m ∈ ways := by rw [e]; simp
    have m1 := h.lo m mm
    have m4 := h.hi m mm
    have hp10 : p.length ≤ 10 := by
      have := h.len
      rw [e, List.length_append] at this
      rcases hs with ⟨_, rfl⟩ | ⟨_, t, rfl⟩
      · omega
      · rw [List.length_append] at this; omega
    have e1 := dMul_c (a := cnt p) (b := m) (m := 20) (n := 3) (by omega) (by omega) (by decide)
    have e2 : dAdd (tN p) (.tuple [cI m]) = some (tN (p ++ [m])) := dAdd_tN1 (by omega)
    have e3 : cnt (p ++ [m]) = cnt p * m := by
      have := cnt_mul (p ++ [m]) 1
      rw [List.foldl_append, cnt_mul p 1, Nat.one_mul, List.foldl_cons, List.foldl_nil, Nat.one_mul] at this
      exact this.symm
    have hm : 1 ≤ cnt p * m := Nat.mul_pos h2 m1
    rw [List.map_cons, fo]
    by_cases c : cnt p * m ≤ b
    · have hb : b = B ∧ p = s := by
        rcases hs with h | ⟨h, _⟩
        · exact h
        · omega
      obtain ⟨rfl, rfl⟩ := hb
      have b1 : m__law_b_cut_b2 (cI b, tN p, cI (cnt p)) (cI m) = pu (.nx (cI b, tN (p ++ [m]), cI (cnt (p ++ [m])))) := by
        unfold m__law_b_cut_b2
        simp -implicitDefEqProofs only [u1, li_some, bd_pu, x1, e1, dLe_c, decide_eq_true c, if_true, e2, sq_nx, e3]
      rw [b1, bd_pu]
      show ∃ b' p' t, fo _ _ _ = _ ∧ _
      exact cut_step h hB hB2 l (p ++ [m]) b k ⟨p ++ [m], by rw [e, List.append_assoc]; rfl, .inl ⟨rfl, rfl⟩⟩ (by omega) (by omega)
    · have b1 : m__law_b_cut_b2 (cI b, tN p, cI (cnt p)) (cI m) = pu (.nx (cI 0, tN p, cI (cnt p))) := by
        unfold m__law_b_cut_b2
        simp -implicitDefEqProofs only [u1, li_some, bd_pu, x1, e1, dLe_c, decide_eq_false c, Bool.false_eq_true, if_false, sq_nx]
        rfl
      rw [b1, bd_pu]
      show ∃ b' p' t, fo _ _ _ = _ ∧ _
      refine cut_step h hB hB2 l p 0 k ⟨s ++ [m], by rw [e, List.append_assoc]; rfl, .inr ⟨rfl, ?_⟩⟩ h1 h2
      rcases hs with ⟨_, rfl⟩ | ⟨_, t, rfl⟩
      · exact ⟨[m], rfl⟩
      · exact ⟨t ++ [m], by rw [List.append_assoc]⟩
def cutW (n : Nat) (w : Wi) : Wi := ⟨w.k, w.w, w.ps.filter fun p => decide (p.1 < n)⟩
theorem okW_cut {ways t : List Nat} {w : Wi} (h : OkW (ways ++ t) w) : OkW ways (cutW ways.length w) :=
  ⟨h.le, fun p m => by
    obtain ⟨m1, m2⟩ := List.mem_filter.mp m
    have hp := h.ps p m1
    have lt : p.1 < ways.length := of_decide_eq_true m2
    refine ⟨lt, fun x mx => ?_, hp.up⟩
    have := hp.be x mx
    rw [List.getD_eq_getElem?_getD, List.getElem?_append_left lt, ← List.getD_eq_getElem?_getD] at this
    exact this, List.Pairwise.sublist (List.Sublist.map _ List.filter_sublist) h.up⟩
theorem cut_ok {ways : List Nat} {ws : List Wi} (h : OkS ways ws) {B : Nat} (hB : 1 ≤ B) (hB2 : B ≤ 2000) : ∃ ways' ws', m__law_b_cut (tS ways ws) (cI B) = pu (tS ways' ws') ∧ OkS ways' ws' ∧ cnt ways' ≤ B ∧ ws'.length = ws.length ∧ ways'.length ≤ ways.length := by
  obtain ⟨b', p, t, q1, e, hp⟩ := cut_step h.wy hB hB2 ways [] B 0 ⟨[], rfl, .inl ⟨rfl, rfl⟩⟩ hB (Nat.le_refl 1)
  have n10 : p.length ≤ 10 := by
    have := h.wy.len
    rw [e, List.length_append] at this
    omega
  have q2 : ∀ (l : List Wi) (acc : List D), (∀ w ∈ l, OkW ways w) → acc.length + l.length ≤ 100 → fo (L := Empty) (m__law_b_cut_b1 (b', tN p, cI (cnt p))) (l.map tW) acc = pu (.nx (acc ++ l.map fun w => tW (cutW p.length w))) := by
    intro l
    induction l with
    | nil => intro acc _ _; rw [List.map_nil, List.map_nil, List.append_nil]; rfl
    | cons w l ih =>
      intro acc ok ha
      rw [List.length_cons] at ha
      rw [List.map_cons, fo]
      have b1 : m__law_b_cut_b1 (b', tN p, cI (cnt p)) acc (tW w) = pu (.nx (acc ++ [tW (cutW p.length w)])) := by
        have c1 : decide (acc.length < 16777216) = true := decide_eq_true (by omega)
        unfold m__law_b_cut_b1
        simp -implicitDefEqProofs only [tW, uN, List.length_cons, List.length_nil, if_true, Nat.zero_add, Nat.reduceAdd, li_some, bd_pu, x3, dLst_t]
        rw [mf_filter (c := tP) (p := fun q => decide (q.1 < p.length)) (g := tP) (fun q m => by
          have e0 : dIdx (tP q) (.int 0) = some (cI q.1) := dIdx_t0 _ _
          simp -implicitDefEqProofs only [u1, li_some, bd_pu, x1, e0, g1, dLen_tN, dLt_c]) fun q m _ => by
          simp -implicitDefEqProofs only [u1, li_some, bd_pu, x1]]
        simp -implicitDefEqProofs only [bd_pu, g1, dTup_l, li_some, c1, ck_true, cutW]
      rw [b1, bd_pu]
      show fo _ _ _ = _
      rw [ih _ (fun x m => ok x (List.mem_cons_of_mem _ m)) (by simp; omega), List.map_cons, List.append_assoc]
      rfl
  have q3 := q2 ws [] h.ok (by have := h.len; simp; omega)
  have ok' : OkS p (ws.map (cutW p.length)) := by
    refine ⟨⟨by omega, fun n m => h.wy.lo n (by rw [e]; exact List.mem_append_left _ m), fun n m => h.wy.hi n (by rw [e]; exact List.mem_append_left _ m)⟩, by rw [List.length_map]; exact h.len, fun w m => ?_⟩
    obtain ⟨w0, m0, rfl⟩ := List.mem_map.mp m
    have := h.ok w0 m0
    rw [e] at this
    exact okW_cut this
  refine ⟨p, ws.map (cutW p.length), ?_, ok', hp, by rw [List.length_map], by rw [e, List.length_append]; omega⟩
  unfold m__law_b_cut
  simp -implicitDefEqProofs only [bd_pu, dIdx_S0, dIdx_S1, li_some, dLst_t]
  rw [show dLst (tN ways) = some (ways.map cI) from rfl, li_some, bd_pu]
  rw [show ((cI B, PyData.tuple [], PyData.int 1) : D × D × D) = (cI B, tN [], cI (cnt [])) from rfl, q1]
  simp -implicitDefEqProofs only [sq_nx, bd_pu, q3, g1, dTup_l, li_some, fe_rt, List.nil_append]
  show pu (PyData.tuple [tN p, .tuple _]) = pu (PyData.tuple [tN p, .tuple _])
  rw [List.map_map]
  rfl
end Q


set_option maxRecDepth 100000
set_option maxHeartbeats 1000000
namespace Q
open DL PySem PySem.Spec PyProof.Rows L2 RZ

/-! ### shares -/
theorem tyN_dict (kvs : List (D × D)) : tyN (.dict kvs) = "list" ∨ tyN (.dict kvs) = "dict" := by
  unfold tyN
  split <;> first | exact .inl rfl | exact .inr rfl | (rename_i h; cases h) | simp_all
@[simp] theorem isI_dt (kvs : List (D × D)) : isI "tuple" (.dict kvs) = false := by
  unfold isI
  rcases tyN_dict kvs with e | e <;> rw [e] <;> rfl
@[simp] theorem isI_di (kvs : List (D × D)) : isI "int" (.dict kvs) = false := by
  unfold isI
  rcases tyN_dict kvs with e | e <;> rw [e] <;> rfl
@[simp] theorem isI_db (kvs : List (D × D)) : isI "bool" (.dict kvs) = false := by
  unfold isI
  rcases tyN_dict kvs with e | e <;> rw [e] <;> rfl
@[simp] theorem isI_ti (xs : List D) : isI "int" (.tuple xs) = false := rfl
@[simp] theorem isI_li (xs : List D) : isI "int" (.list xs) = false := rfl
@[simp] theorem isI_si (x : Str) : isI "int" (.str x) = false := rfl
@[simp] theorem isI_ni : isI "int" .none = false := rfl
@[simp] theorem isI_tb (xs : List D) : isI "bool" (.tuple xs) = false := rfl
@[simp] theorem isI_lb (xs : List D) : isI "bool" (.list xs) = false := rfl
@[simp] theorem isI_sb (x : Str) : isI "bool" (.str x) = false := rfl
@[simp] theorem isI_nb : isI "bool" .none = false := rfl
@[simp] theorem isI_lt (xs : List D) : isI "tuple" (.list xs) = false := rfl
@[simp] theorem isI_it (i : Int) : isI "tuple" (.int i) = false := rfl
@[simp] theorem isI_bt (i : Bool) : isI "tuple" (.bool i) = false := rfl
@[simp] theorem isI_st (x : Str) : isI "tuple" (.str x) = false := rfl
@[simp] theorem isI_nt : isI "tuple" .none = false := rfl
theorem isI_i_cases {d : D} (h : isI "int" d = true) (h2 : isI "bool" d = false) : ∃ i, d = .int i := by
  cases d with
  | int i => exact ⟨i, rfl⟩
  | bool b => cases h2
  | _ => simp at h
theorem isI_t_cases (d : D) : (∃ xs, d = .tuple xs) ∨ isI "tuple" d = false := by
  cases d with
  | tuple xs => exact .inl ⟨xs, rfl⟩
  | _ => exact .inr (by simp)
/-- a loop that leaves at the first thing that is none -/
theorem fo_leave {L : Type} {body : Unit → D → M (Fl Unit Unit)} {p : D → Bool} {r : D} : ∀ {xs : List D}, (∀ x ∈ xs, body () x = pu (if p x = true then .nx () else .rt r)) → fo (L := L) body xs () = pu (if xs.all p = true then .nx () else .rt r)
  | [], _ => rfl
  | x :: xs, h => by
    have ih := fo_leave (L := L) (p := p) (r := r) fun y m => h y (List.mem_cons_of_mem _ m)
    rw [fo, h x List.mem_cons_self, bd_pu, List.all_cons]
    cases p x with
    | true => simpa using ih
    | false => rfl
def shareB : D → Bool
  | .int i => decide (0 ≤ i ∧ i ≤ 99)
  | _ => false
theorem asInts_all : ∀ {xs : List D}, xs.all shareB = true → ∃ is : List Int, xs = is.map .int ∧ ∀ i ∈ is, 0 ≤ i ∧ i ≤ 99
  | [], _ => ⟨[], rfl, by simp⟩
  | x :: xs, h => by
    rw [List.all_cons, Bool.and_eq_true] at h
    obtain ⟨is, e, hi⟩ := asInts_all h.2
    cases x with
    | int i =>
      refine ⟨i :: is, by rw [List.map_cons, ← e], fun j m => ?_⟩
      rcases List.mem_cons.mp m with rfl | m
      · exact of_decide_eq_true h.1
      · exact hi j m
    | _ => exact absurd h.1 (by simp [shareB])
def sumD (xs : List D) : Int := ((asInts xs).getD []).sum
def numsB (many : Int) : D → Bool
  | .tuple xs => decide ((xs.length : Int) = many) && (xs.all shareB && decide (0 < sumD xs))
  | _ => false
theorem are_numbers_b1_any (x : D) : m_are_numbers_b1 () x = pu (if shareB x = true then .nx () else .rt (.bool false)) := by
  unfold m_are_numbers_b1
  cases x with
  | int i =>
    by_cases h0 : 0 ≤ i
    · by_cases h1 : i ≤ 99
      · simp [u1, x1, shareB, h0, h1]
      · simp [u1, x1, shareB, h0, h1]
    · simp [u1, x1, shareB, h0]
  | bool b => simp [u1, x1, shareB]
  | _ => simp [u1, x1, shareB]
theorem are_numbers_any (many : Int) (d : D) : m_are_numbers (.int many) d = pu (.bool (numsB many d)) := by
  unfold m_are_numbers
  rcases isI_t_cases d with ⟨xs, rfl⟩ | h
  · by_cases hl : (xs.length : Int) = many
    · simp only [bd_pu, isI_tt, dTru_b, li_some, Bool.not_true, Bool.false_eq_true, if_false, g1, dLen_t, dNe_i, decide_eq_true hl, dLst_t]
      rw [fo_leave fun x _ => are_numbers_b1_any x]
      by_cases ha : xs.all shareB = true
      · obtain ⟨is, rfl, hi⟩ := asInts_all ha
        simp only [ha, if_true, bd_pu, sq_nx, dSum, asInts_map, Option.map_some, li_some, dGt_i, numsB, sumD, Option.getD_some, decide_eq_true hl, Bool.true_and, fe_rt]
      · rw [if_neg ha]
        have ha' : xs.all shareB = false := by simpa using ha
        simp only [bd_pu, sq_rt, numsB, ha', Bool.false_and, Bool.and_false, fe_rt]
    · simp [hl, g1, numsB]
  · have e : numsB many d = false := by
      cases d with
      | tuple xs => cases h
      | _ => rfl
    simp [h, e]
/-- shares of so many ways -/
def sharesB (ways : List Nat) : D → Bool
  | .tuple xs => decide (xs.length = ways.length) && (ways.zip xs).all fun p => numsB p.1 p.2
  | _ => false
theorem zipD {ways : List Nat} {xs : List D} : List.zipWith (fun a b => PyData.tuple [a, b]) (ways.map cI) xs = (ways.zip xs).map fun p => PyData.tuple [cI p.1, p.2] := by
  induction ways generalizing xs with
  | nil => simp
  | cons w ways ih =>
    cases xs with
    | nil => simp
    | cons x xs => simp [ih]
theorem are_shares_any {ways : List Nat} {ws : List Wi} (h : OkS ways ws) (d : D) : m_are_shares (tS ways ws) d = pu (.bool (sharesB ways d)) := by
  unfold m_are_shares
  simp only [bd_pu, need_sheet_ok h, dIdx_S0, li_some]
  rcases isI_t_cases d with ⟨xs, rfl⟩ | hd
  · by_cases hl : xs.length = ways.length
    · have e : dNe (.int (xs.length : Int)) (cI ways.length) = some false := by
        unfold cI
        rw [dNe_i, hl, decide_eq_true rfl]
        rfl
      have z : dZip (tN ways) (.tuple xs) = some ((ways.zip xs).map fun p => PyData.tuple [cI p.1, p.2]) := by
        show some (List.zipWith _ _ _) = _
        rw [zipD]
      simp only [isI_tt, dTru_b, li_some, bd_pu, Bool.not_true, Bool.false_eq_true, if_false, g1, dLen_t, dLen_tN, e, z]
      rw [mf_map (c := fun p : Nat × D => PyData.tuple [cI p.1, p.2]) (g := fun p => .bool (numsB p.1 p.2)) (fun p _ => rfl) fun p _ => by
        simp only [uN, List.length_cons, List.length_nil, if_true, Nat.zero_add, Nat.reduceAdd, li_some, bd_pu, x2]
        exact are_numbers_any _ _]
      simp only [bd_pu, g1, dAll_mapf, li_some, fe_rt, sharesB, decide_eq_true hl, Bool.true_and]
    · have e : dNe (.int (xs.length : Int)) (cI ways.length) = some true := by
        unfold cI
        rw [dNe_i, decide_eq_false (by omega)]
        rfl
      simp [g1, dLen_tN, e, sharesB, hl]
  · have e : sharesB ways d = false := by
      cases d with
      | tuple xs => cases hd
      | _ => rfl
    simp [hd, e]
def tSh (ss : List (List Nat)) : D := .tuple (ss.map tN)
structure OkSh (ways : List Nat) (ss : List (List Nat)) : Prop where
  len : ss.length = ways.length
  row : ∀ i, i < ways.length → (ss.getD i []).length = ways.getD i 0
  hi : ∀ r ∈ ss, ∀ x ∈ r, x ≤ 99
  pos : ∀ r ∈ ss, 0 < r.sum
theorem asInts_tN (l : List Nat) : asInts (l.map cI) = some (l.map fun n : Nat => (n : Int)) := by
  show asInts (l.map fun n : Nat => PyData.int (n : Int)) = _
  rw [show (l.map fun n : Nat => PyData.int (n : Int)) = (l.map fun n : Nat => (n : Int)).map .int by rw [List.map_map]; rfl, asInts_map]
theorem dSum_tN (l : List Nat) : dSum (tN l) = some (cI l.sum) := by
  show (asInts (l.map cI)).map _ = _
  rw [asInts_tN, Option.map_some, sumN_cast]
  rfl
theorem numsB_ok {r : List Nat} (h1 : ∀ x ∈ r, x ≤ 99) (h2 : 0 < r.sum) : numsB r.length (tN r) = true := by
  have a : (r.map cI).all shareB = true := List.all_eq_true.mpr fun x m => by
    obtain ⟨n, mn, rfl⟩ := List.mem_map.mp m
    have := h1 n mn
    exact decide_eq_true (by omega)
  have b : sumD (r.map cI) = (r.sum : Nat) := by unfold sumD; rw [asInts_tN, Option.getD_some, sumN_cast]
  show (decide (((r.map cI).length : Int) = (r.length : Int)) && ((r.map cI).all shareB && decide (0 < sumD (r.map cI)))) = true
  rw [a, b, decide_eq_true (by simp), decide_eq_true (by omega)]
  rfl
theorem getD_of {α : Type} {l : List α} {i : Nat} {x d : α} (h : l[i]? = some x) : l.getD i d = x := by rw [List.getD_eq_getElem?_getD, h]; rfl
theorem zip_get2 {α β : Type} {a : List α} {b : List β} {p : α × β} (m : p ∈ a.zip b) : ∃ i : Nat, a[i]? = some p.1 ∧ b[i]? = some p.2 := by
  obtain ⟨i, h⟩ := List.mem_iff_getElem?.mp m
  have := List.getElem?_zip_eq_some.mp h
  exact ⟨i, this.1, this.2⟩
theorem sharesB_ok {ways : List Nat} {ss : List (List Nat)} (h : OkSh ways ss) : sharesB ways (tSh ss) = true := by
  show (decide ((ss.map tN).length = ways.length) && (ways.zip (ss.map tN)).all fun p => numsB p.1 p.2) = true
  rw [decide_eq_true (by rw [List.length_map, h.len]), Bool.true_and]
  refine List.all_eq_true.mpr fun p m => ?_
  obtain ⟨i, h1, h2⟩ := zip_get2 m
  rw [List.getElem?_map] at h2
  obtain ⟨r, h3, h4⟩ := Option.map_eq_some_iff.mp h2
  have hr := List.mem_of_getElem? h3
  have hi := (List.getElem?_eq_some_iff.mp h1).1
  have e := h.row i hi
  rw [getD_of h3, getD_of h1] at e
  rw [← h4, ← e]
  exact numsB_ok (h.hi r hr) (h.pos r hr)
theorem need_shares_ok {ways : List Nat} {ws : List Wi} {ss : List (List Nat)} (h : OkS ways ws) (hs : OkSh ways ss) : m_need_shares (tS ways ws) (tSh ss) = pu .none := by
  unfold m_need_shares
  simp [are_shares_any h, sharesB_ok hs]

/-! ### the mean by shares -/
def rowS (ss : List (List Nat)) (i : Nat) : List Nat := ss.getD i []
def hitS (r : List Nat) (l : List Nat) : Nat := (l.map fun x => r.getD x 0).sum
def ms (ss : List (List Nat)) (p : Nat × List Nat) : Rat := ((hitS (rowS ss p.1) p.2 : Nat) : Rat) / (((rowS ss p.1).sum : Nat) : Rat)
def ks (ss : List (List Nat)) (w : Wi) : Rat := if w.k then qprod (w.ps.map (ms ss)) else 1 - qprod (w.ps.map fun p => 1 - ms ss p)
def mns (ss : List (List Nat)) (ws : List Wi) : Rat := qsum (ws.map fun w => ((w.w : Int) : Rat) * ks ss w)
theorem row_mem {ways : List Nat} {ss : List (List Nat)} (h : OkSh ways ss) {i : Nat} (hi : i < ways.length) : rowS ss i ∈ ss ∧ ss[i]? = some (rowS ss i) := by
  have : i < ss.length := by rw [h.len]; exact hi
  have e : ss[i]? = some (rowS ss i) := by
    unfold rowS
    rw [List.getD_eq_getElem?_getD, List.getElem?_eq_getElem this]
    rfl
  exact ⟨List.mem_of_getElem? e, e⟩
theorem sum_le99 : ∀ {r : List Nat}, (∀ x ∈ r, x ≤ 99) → r.sum ≤ 99 * r.length
  | [], _ => by simp
  | x :: r, h => by
    have h1 := h x List.mem_cons_self
    have h2 := sum_le99 fun y m => h y (List.mem_cons_of_mem _ m)
    rw [List.sum_cons, List.length_cons]
    omega
theorem row_bd {ways : List Nat} {ss : List (List Nat)} (hw : OkWays ways) (h : OkSh ways ss) {i : Nat} (hi : i < ways.length) : 0 < (rowS ss i).sum ∧ (rowS ss i).sum < 512 := by
  obtain ⟨m, e⟩ := row_mem h hi
  have h1 := sum_le99 (h.hi _ m)
  have h2 := h.row i hi
  have h3 := ways_hi hw hi
  refine ⟨h.pos _ m, ?_⟩
  show (ss.getD i []).sum < 512
  unfold rowS at h1
  omega
/-- what is hit is a part of all -/
theorem hit_le_sum : ∀ {r l : List Nat}, l.Pairwise (· < ·) → (∀ x ∈ l, x < r.length) → hitS r l ≤ r.sum := by
  intro r l up lt
  have key : ∀ (r l : List Nat) (k : Nat), l.Pairwise (· < ·) → (∀ x ∈ l, k ≤ x ∧ x < k + r.length) → (l.map fun x => r.getD (x - k) 0).sum ≤ r.sum := by
    intro r
    induction r with
    | nil =>
      intro l k _ h
      cases l with
      | nil => simp
      | cons x l => have := h x List.mem_cons_self; simp at this; omega
    | cons y r ih =>
      intro l k up h
      cases l with
      | nil => simp
      | cons x l =>
        obtain ⟨u1, u2⟩ := List.pairwise_cons.mp up
        have hx := h x List.mem_cons_self
        rw [List.length_cons] at hx
        by_cases e : x = k
        · subst e
          have := ih l (x + 1) u2 fun z m => by
            have a := u1 z m
            have b := h z (List.mem_cons_of_mem _ m)
            rw [List.length_cons] at b
            omega
          have e2 : (l.map fun z => (y :: r).getD (z - x) 0) = l.map fun z => r.getD (z - (x + 1)) 0 := List.map_congr_left fun z m => by
            have a := u1 z m
            rw [show z - x = (z - (x + 1)) + 1 by omega]
            simp
          have e3 : (y :: r).getD (x - x) 0 = y := by simp
          rw [List.map_cons, List.sum_cons, e2, List.sum_cons, e3]
          omega
        · have := ih (x :: l) (k + 1) up fun z m => by
            have b := h z m
            rw [List.length_cons] at b
            rcases List.mem_cons.mp m with rfl | m'
            · omega
            · have a := u1 z m'
              omega
          have e2 : ((x :: l).map fun z => (y :: r).getD (z - k) 0) = (x :: l).map fun z => r.getD (z - (k + 1)) 0 := List.map_congr_left fun z m => by
            have b : k < z := by
              rcases List.mem_cons.mp m with rfl | m'
              · omega
              · have a := u1 z m'
                omega
            rw [show z - k = (z - (k + 1)) + 1 by omega]
            simp
          rw [e2, List.sum_cons]
          omega
  have := key r l 0 up fun x m => by have := lt x m; omega
  simpa [hitS] using this
theorem part_hit {ways : List Nat} {ss : List (List Nat)} (h : OkSh ways ss) {p : Nat × List Nat} (hp : OkP ways p) : hitS (rowS ss p.1) p.2 ≤ (rowS ss p.1).sum := by
  refine hit_le_sum hp.up fun x m => ?_
  show x < (ss.getD p.1 []).length
  rw [h.row _ hp.lt]
  exact hp.be x m
/-- what the loop gathers -/
def kh (k : Bool) (ss : List (List Nat)) (p : Nat × List Nat) : Nat := if k then hitS (rowS ss p.1) p.2 else (rowS ss p.1).sum - hitS (rowS ss p.1) p.2
def ka (ss : List (List Nat)) (p : Nat × List Nat) : Nat := (rowS ss p.1).sum
theorem dEq_some_K (k : Bool) : dEq (tK k) (.str "some") = some (!k) := by cases k <;> rfl
theorem kept_by_step {ways : List Nat} {ss : List (List Nat)} (hw : OkWays ways) (h : OkSh ways ss) (k : Bool) {p : Nat × List Nat} (hp : OkP ways p) {t b n : Nat} (ht : t < 2 ^ n) (hb : b < 2 ^ n) (hn : n < 900) :
    m_kept_by_b1 (tSh ss) (tK k) (cI t, cI b) (tP p) = pu (.nx (cI (t * kh k ss p), cI (b * ka ss p))) := by
  have hr := row_bd hw h hp.lt
  have hh := part_hit h hp
  have e1 : dIdx (tSh ss) (cI p.1) = some (tN (rowS ss p.1)) := dIdx_tm (row_mem h hp.lt).2
  have hk : kh k ss p < 2 ^ 9 := by unfold kh; split <;> omega
  have ha : ka ss p < 2 ^ 9 := by unfold ka; omega
  have c1 : ∀ x ∈ p.2, dIdx (tN (rowS ss p.1)) (cI x) = some (cI ((rowS ss p.1).getD x 0)) := fun x m => dIdx_tN (by
    show x < (ss.getD p.1 []).length
    rw [h.row _ hp.lt]
    exact hp.be x m)
  have e2 : dSum (.list (p.2.map fun x => cI ((rowS ss p.1).getD x 0))) = some (cI (hitS (rowS ss p.1) p.2)) := dSum_cI _ _
  unfold m_kept_by_b1
  simp only [tP, uN, List.length_cons, List.length_nil, if_true, Nat.zero_add, Nat.reduceAdd, li_some, bd_pu, x2, e1, g1, dSum_tN]
  simp only [tN, dLst_t, li_some, bd_pu]
  rw [mf_map (c := cI) (g := fun x => cI ((rowS ss p.1).getD x 0)) (fun x _ => rfl) fun x m => by
    simp only [u1, li_some, bd_pu, x1]
    exact congrArg li (c1 x m)]
  simp only [bd_pu, e2, li_some, dEq_some_K]
  cases k with
  | true =>
    simp only [Bool.not_true, Bool.false_eq_true, if_false, sq_nx, bd_pu]
    rw [show hitS (rowS ss p.1) p.2 = kh true ss p from rfl, show (rowS ss p.1).sum = ka ss p from rfl]
    simp only [dMul_c ht hk (by omega), dMul_c hb ha (by omega), li_some, bd_pu]
  | false =>
    simp only [Bool.not_false, if_true, sq_nx, bd_pu, dSub_c hh, li_some]
    rw [show (rowS ss p.1).sum - hitS (rowS ss p.1) p.2 = kh false ss p from rfl, show (rowS ss p.1).sum = ka ss p from rfl]
    simp only [dMul_c ht hk (by omega), dMul_c hb ha (by omega), li_some, bd_pu]
theorem kept_by_loop {L : Type} {ways : List Nat} {ss : List (List Nat)} (hw : OkWays ways) (h : OkSh ways ss) (k : Bool) : ∀ (ps : List (Nat × List Nat)) (t b n : Nat), (∀ p ∈ ps, OkP ways p) → t < 2 ^ n → b < 2 ^ n → n + 9 * ps.length < 900 →
    fo (L := L) (m_kept_by_b1 (tSh ss) (tK k)) (ps.map tP) (cI t, cI b) = pu (.nx (cI (t * nprod (ps.map (kh k ss))), cI (b * nprod (ps.map (ka ss)))))
  | [], t, b, n, _, _, _, _ => by simp [fo, nprod]
  | p :: ps, t, b, n, ho, ht, hb, hn => by
    have hp := ho p List.mem_cons_self
    have hr := row_bd hw h hp.lt
    have hk : kh k ss p < 512 := by unfold kh; have := part_hit h hp; split <;> omega
    have ha : ka ss p < 512 := hr.2
    rw [List.length_cons] at hn
    have g : ∀ {x y : Nat}, x < 2 ^ n → y < 512 → x * y < 2 ^ (n + 9) := fun {x y} hx hy => by
      rw [Nat.pow_add]
      have : x * y ≤ x * 512 := Nat.mul_le_mul_left x (by omega)
      omega
    rw [List.map_cons, fo, kept_by_step hw h k hp ht hb (by omega), bd_pu]
    have ih := kept_by_loop (L := L) hw h k ps (t * kh k ss p) (b * ka ss p) (n + 9) (fun q m => ho q (List.mem_cons_of_mem _ m)) (g ht hk) (g hb ha) (by omega)
    show fo (L := L) _ _ _ = _
    rw [ih, List.map_cons, List.map_cons, nprod, nprod, Nat.mul_assoc, Nat.mul_assoc]
def topS (ss : List (List Nat)) (w : Wi) : Nat := if w.k then nprod (w.ps.map (kh true ss)) else nprod (w.ps.map (ka ss)) - nprod (w.ps.map (kh false ss))
def belS (ss : List (List Nat)) (w : Wi) : Nat := nprod (w.ps.map (ka ss))
theorem nprod_mono {α : Type} {f g : α → Nat} : ∀ {l : List α}, (∀ x ∈ l, f x ≤ g x) → nprod (l.map f) ≤ nprod (l.map g)
  | [], _ => Nat.le_refl _
  | x :: l, h => by
    have h1 := h x List.mem_cons_self
    have h2 := nprod_mono fun y m => h y (List.mem_cons_of_mem _ m)
    rw [List.map_cons, List.map_cons, nprod, nprod]
    exact Nat.mul_le_mul h1 h2
theorem nprod_lt512 {α : Type} {f : α → Nat} : ∀ {l : List α}, (∀ x ∈ l, f x < 512) → nprod (l.map f) < 2 ^ (9 * l.length + 1)
  | [], _ => by simp [nprod]
  | x :: l, h => by
    have h1 := h x List.mem_cons_self
    have h2 := nprod_lt512 fun y m => h y (List.mem_cons_of_mem _ m)
    rw [List.map_cons, nprod, List.length_cons, show 9 * (l.length + 1) + 1 = 9 + (9 * l.length + 1) by omega, Nat.pow_add]
    have : f x * nprod (l.map f) ≤ 512 * nprod (l.map f) := Nat.mul_le_mul_right _ (by omega)
    omega
section
variable {ways : List Nat} {ss : List (List Nat)}
theorem ka_bd (hw : OkWays ways) (h : OkSh ways ss) {w : Wi} (ow : OkW ways w) : ∀ p ∈ w.ps, 1 ≤ ka ss p ∧ ka ss p < 512 ∧ kh true ss p ≤ ka ss p ∧ kh false ss p ≤ ka ss p := fun p m => by
  have hr := row_bd hw h (ow.ps p m).lt
  have hh := part_hit h (ow.ps p m)
  refine ⟨hr.1, hr.2, hh, Nat.sub_le _ _⟩
theorem bel_bd (hw : OkWays ways) (h : OkSh ways ss) {w : Wi} (ow : OkW ways w) : 1 ≤ belS ss w ∧ belS ss w < 2 ^ 91 ∧ topS ss w ≤ belS ss w := by
  have hk := ka_bd hw h ow
  have hl := ps_len hw ow
  refine ⟨nprod_pos fun y m => ?_, ?_, ?_⟩
  · obtain ⟨z, mz, rfl⟩ := List.mem_map.mp m
    exact (hk z mz).1
  · exact Nat.lt_of_lt_of_le (nprod_lt512 fun x m => (hk x m).2.1) (Nat.pow_le_pow_right (by decide) (by omega))
  · unfold topS belS
    split
    · exact nprod_mono fun p m => (hk p m).2.2.1
    · exact Nat.sub_le _ _
theorem kept_by_ok (hw : OkWays ways) (h : OkSh ways ss) {w : Wi} (ow : OkW ways w) : m_kept_by (tW w) (tSh ss) = pu (.tuple [cI (topS ss w), cI (belS ss w)]) := by
  have hl := ps_len hw ow
  have hk := ka_bd hw h ow
  have lo := kept_by_loop (L := Empty) hw h w.k w.ps 1 1 1 ow.ps (by decide) (by decide) (by omega)
  rw [Nat.one_mul, Nat.one_mul] at lo
  unfold m_kept_by
  simp only [bd_pu, tW, uN, List.length_cons, List.length_nil, if_true, Nat.zero_add, Nat.reduceAdd, li_some, x3, dLst_t]
  rw [show (PyData.int 1, PyData.int 1) = (cI 1, cI 1) from rfl, lo]
  simp only [sq_nx, bd_pu, dEq_some_K, li_some]
  cases e : w.k with
  | true =>
    simp only [Bool.not_true, Bool.false_eq_true, if_false, sq_nx, bd_pu, fe_rt]
    unfold topS belS
    rw [e, if_pos rfl]
  | false =>
    have hm : nprod (w.ps.map (kh false ss)) ≤ nprod (w.ps.map (ka ss)) := nprod_mono fun p m => (hk p m).2.2.2
    simp only [Bool.not_false, if_true, sq_nx, bd_pu, dSub_c hm, li_some, fe_rt]
    unfold topS belS
    rw [e, if_neg Bool.false_ne_true]
theorem q_left {a b : Rat} (h : b ≠ 0) : 1 - a / b = (b - a) / b := by grind
theorem q_mul_div (a b c : Rat) : a * (b / c) = a * b / c := by grind
theorem ks_div (hw : OkWays ways) (h : OkSh ways ss) {w : Wi} (ow : OkW ways w) : ks ss w = ((topS ss w : Nat) : Rat) / ((belS ss w : Nat) : Rat) := by
  have hk := ka_bd hw h ow
  have hb := (bel_bd hw h ow).1
  have b2 : ((belS ss w : Int) : Rat) ≠ 0 := by rw [Ne, Rat.intCast_eq_zero_iff]; omega
  unfold ks topS
  cases e : w.k with
  | true =>
    simp only [if_true]
    have := qprod_div (kh true ss) (ka ss) w.ps fun p m => (hk p m).1
    rw [show w.ps.map (ms ss) = w.ps.map fun p => ((kh true ss p : Int) : Rat) / ((ka ss p : Int) : Rat) from List.map_congr_left fun p _ => by
      unfold ms kh ka
      rw [if_pos rfl, Rat.intCast_natCast, Rat.intCast_natCast], this, Rat.intCast_natCast, Rat.intCast_natCast]
    rfl
  | false =>
    simp only [Bool.false_eq_true, if_false]
    have := qprod_div (kh false ss) (ka ss) w.ps fun p m => (hk p m).1
    have hm : nprod (w.ps.map (kh false ss)) ≤ nprod (w.ps.map (ka ss)) := nprod_mono fun p m => (hk p m).2.2.2
    rw [show w.ps.map (fun p => 1 - ms ss p) = w.ps.map fun p => ((kh false ss p : Int) : Rat) / ((ka ss p : Int) : Rat) from List.map_congr_left fun p m => by
      have h1 := (hk p m).1
      have h3 := (hk p m).2.2.1
      have a1 : ((ka ss p : Nat) : Rat) ≠ 0 := by rw [← Rat.intCast_natCast, Ne, Rat.intCast_eq_zero_iff]; omega
      have e2 : ((kh false ss p : Nat) : Int) = (ka ss p : Int) - (hitS (rowS ss p.1) p.2 : Int) := by
        unfold kh at h3 ⊢
        unfold ka at h3 ⊢
        simp only [Bool.false_eq_true, if_false, if_true] at h3 ⊢
        omega
      rw [e2, Rat.intCast_sub, Rat.intCast_natCast, Rat.intCast_natCast]
      unfold ms
      rw [show (rowS ss p.1).sum = ka ss p from rfl, q_left a1], this]
    have e3 : ((nprod (w.ps.map (ka ss)) - nprod (w.ps.map (kh false ss)) : Nat) : Rat) = ((nprod (w.ps.map (ka ss)) : Int) : Rat) - ((nprod (w.ps.map (kh false ss)) : Int) : Rat) := by
      rw [← Rat.intCast_natCast, ← Rat.intCast_sub]
      congr 1
      omega
    rw [e3]
    unfold belS at b2 ⊢
    rw [← Rat.intCast_natCast (nprod (w.ps.map (ka ss))), q_left b2]
theorem smq_ks (hw : OkWays ways) (h : OkSh ways ss) {w : Wi} (ow : OkW ways w) : SmQ (ks ss w) 92 := by
  have b := bel_bd hw h ow
  rw [ks_div hw h ow, ← Rat.intCast_natCast, ← Rat.intCast_natCast]
  refine smq_div (by omega) ?_ ?_
  · rw [Int.natAbs_natCast]; omega
  · rw [Int.natAbs_natCast]; omega
theorem smq_wks2 (hw : OkWays ways) (h : OkSh ways ss) {ws : List Wi} (ho : ∀ w ∈ ws, OkW ways w) : ∀ q ∈ ws.map (fun w => ((w.w : Int) : Rat) * ks ss w), SmQ q 99 := fun q m => by
  obtain ⟨w, mw, rfl⟩ := List.mem_map.mp m
  have a := smq_w (ho w mw)
  have b := smq_ks hw h (ho w mw)
  exact (inferInstance : SmQ (((w.w : Int) : Rat) * ks ss w) (7 + 92))
theorem smq_mns (h : OkSh ways ss) {ws : List Wi} (hs : OkS ways ws) : SmQ (mns ss ws) 1700 := (smq_sum (smq_wks2 hs.wy h hs.ok)).mono (by have := hs.len; rw [List.length_map]; omega)
theorem mean_in_shares_ok (h : OkSh ways ss) {ws : List Wi} (hs : OkS ways ws) : m_mean_in_shares (tS ways ws) (tSh ss) = pu (fq (mns ss ws)) := by
  have key : ∀ (vs : List Wi) (z : Rat) (m : Nat), SmQ z m → (∀ w ∈ vs, OkW ways w) → m + 100 * vs.length < 8000 → fo (L := Empty) (m_mean_in_shares_b1 (tSh ss)) (vs.map tW) (fq z) = pu (.nx (fq (z + qsum (vs.map fun w => ((w.w : Int) : Rat) * ks ss w)))) := by
    intro vs
    induction vs with
    | nil =>
      intro z m _ _ _
      have : z + qsum ([].map fun w : Wi => ((w.w : Int) : Rat) * ks ss w) = z := by
        simp only [List.map_nil, qsum]
        exact Rat.add_zero z
      rw [this]
      rfl
    | cons w vs ih =>
      intro z m hz hv hm
      rw [List.length_cons] at hm
      have ow := hv w List.mem_cons_self
      have b := bel_bd hs.wy h ow
      have a1 := smq_wks2 hs.wy h (ws := [w]) (fun v m => by rw [List.mem_singleton.mp m]; exact ow) _ (List.mem_map.mpr ⟨w, List.mem_singleton.mpr rfl, rfl⟩)
      have s1 : SmI ((belS ss w : Nat) : Int) 91 := smNat b.2.1
      have s2 : SmI ((topS ss w : Nat) : Int) 91 := smNat (by omega)
      have s3 : SmI ((w.w : Nat) : Int) 7 := smNat (by have := ow.le; omega)
      have e1 : dIdx (tW w) (.int 1) = some (cI w.w) := dIdx_t1 _ _ _
      have e2 : (((w.w : Int) * (topS ss w : Int) : Int) : Rat) / (((belS ss w : Nat) : Int) : Rat) = ((w.w : Int) : Rat) * ks ss w := by
        rw [ks_div hs.wy h ow, Rat.intCast_mul, Rat.intCast_natCast (topS ss w), Rat.intCast_natCast (belS ss w), q_mul_div]
      have q1 : m_lowest (.int ((w.w : Int) * (topS ss w : Int))) (.int ((belS ss w : Nat) : Int)) = pu (fq (((w.w : Int) : Rat) * ks ss w)) := by
        rw [lowest_q ((w.w : Int) * (topS ss w : Int)) ((belS ss w : Nat) : Int) (by omega) (by decide), e2]
      have q2 : m_plus (fq z) (fq (((w.w : Int) : Rat) * ks ss w)) = pu (fq (z + ((w.w : Int) : Rat) * ks ss w)) := plus_q z _ (x := hz) (y := a1) (by omega)
      have q3 : dMul (cI w.w) (cI (topS ss w)) = some (.int ((w.w : Int) * (topS ss w : Int))) := dMul_i (mulOk (w.w : Int) (topS ss w : Int))
      have q4 : uN 2 (PyData.tuple [cI (topS ss w), cI (belS ss w)]) = some [cI (topS ss w), cI (belS ss w)] := rfl
      have st : m_mean_in_shares_b1 (tSh ss) (fq z) (tW w) = pu (.nx (fq (z + ((w.w : Int) : Rat) * ks ss w))) := by
        unfold m_mean_in_shares_b1
        simp -implicitDefEqProofs only [u1, li_some, bd_pu, x1, kept_by_ok hs.wy h ow, q4, x2, e1, q3]
        rw [show cI (belS ss w) = PyData.int ((belS ss w : Nat) : Int) from rfl, q1]
        simp -implicitDefEqProofs only [bd_pu, q2]
      rw [List.map_cons, fo, st, bd_pu]
      show fo _ _ _ = _
      rw [ih (z + ((w.w : Int) : Rat) * ks ss w) (m + 100) ((inferInstance : SmQ (z + ((w.w : Int) : Rat) * ks ss w) (m + 99 + 1)).mono (by omega)) (fun v mv => hv v (List.mem_cons_of_mem _ mv)) (by omega), List.map_cons, qsum]
      rw [Rat.add_assoc]
  have q := key ws 0 1 (by exact smq_zero) hs.ok (by have := hs.len; omega)
  unfold m_mean_in_shares
  simp only [bd_pu, dIdx_S1, li_some, dLst_t]
  rw [show PyData.tuple [.int 0, .int 1] = fq 0 from rfl, q]
  simp only [sq_nx, bd_pu, fe_rt]
  have : (0 : Rat) + qsum (ws.map fun w => ((w.w : Int) : Rat) * ks ss w) = mns ss ws := by
    unfold mns
    exact Rat.zero_add _
  rw [this]
theorem mean_by_ok (h : OkSh ways ss) {ws : List Wi} (hs : OkS ways ws) : m_mean_by (tS ways ws) (tSh ss) = pu (fq (mns ss ws)) := by
  unfold m_mean_by
  simp only [bd_pu, need_shares_ok hs h, mean_in_shares_ok h hs, fe_rt]
end
end Q


set_option maxRecDepth 100000
set_option maxHeartbeats 1000000
namespace Q
open DL PySem PySem.Spec PyProof.Rows L2 RZ

/-! ### one way alone -/
def un (m w : Nat) : List Nat := (List.range m).map fun o => if o = w then 1 else 0
theorem un_len (m w : Nat) : (un m w).length = m := by unfold un; simp
theorem un_getD (m w x : Nat) : (un m w).getD x 0 = if x < m ∧ x = w then 1 else 0 := by
  unfold un
  rw [List.getD_eq_getElem?_getD, List.getElem?_map]
  by_cases h : x < m
  · rw [List.getElem?_range h]
    simp [h]
  · rw [List.getElem?_eq_none (by simp; omega)]
    simp [h]
theorem un_sum : ∀ (m w : Nat), (un m w).sum = if w < m then 1 else 0
  | 0, w => by simp [un]
  | m + 1, w => by
    have ih := un_sum m w
    unfold un at ih ⊢
    rw [List.range_succ, List.map_append, List.sum_append, ih]
    by_cases a : w < m
    · have : ¬ m = w := by omega
      simp [a, this, show w < m + 1 by omega]
    · by_cases b : m = w
      · subst b; simp
      · have : ¬ w < m + 1 := by omega
        simp [a, b, this]
theorem un_le (m w : Nat) : ∀ x ∈ un m w, x ≤ 99 := fun x h => by
  obtain ⟨o, _, rfl⟩ := List.mem_map.mp h
  split <;> omega
theorem tSh_len (ss : List (List Nat)) : (ss.map tN).length = ss.length := by simp
theorem cut_to_sh (ss : List (List Nat)) (n : Nat) : dCut (tSh ss) none (some (n : Int)) = some (tSh (ss.take n)) := by
  show (some (PyData.tuple (cutD _ _ _))) = _
  rw [cut_to, tSh, List.map_take]
theorem cut_from_sh (ss : List (List Nat)) (n : Nat) : dCut (tSh ss) (some (n : Int)) none = some (tSh (ss.drop n)) := by
  show (some (PyData.tuple (cutD _ _ _))) = _
  rw [cut_from, tSh, List.map_drop]
theorem add_sh {a b : List (List Nat)} (h : a.length + b.length ≤ 1000) : dAdd (tSh a) (tSh b) = some (tSh (a ++ b)) := by
  unfold tSh
  rw [dAdd_tt (by simp; omega), List.map_append]
theorem set_cut {α : Type} (l : List α) (i : Nat) (x : α) (h : i < l.length) : l.take i ++ [x] ++ l.drop (i + 1) = l.set i x := by
  rw [List.set_eq_take_append_cons_drop, if_pos h]
  simp
section
variable {ways : List Nat} {ss : List (List Nat)}
theorem un_data (m w : Nat) : (List.range m).map (fun o => PyData.int (if decide (o = w) then 1 else 0)) = (un m w).map cI := by
  unfold un
  rw [List.map_map]
  refine List.map_congr_left fun o _ => ?_
  show PyData.int _ = cI _
  by_cases h : o = w <;> simp [h, cI]
theorem alone_mf {body : D → M D} (m w : Nat) (h : ∀ o, o < m → body (cI o) = pu (.int (if decide (o = w) then 1 else 0))) : mf ((List.range m).map cI) (fun d => bd (li (u1 d)) fun _ => pu true) body = pu ((un m w).map cI) := by
  rw [mf_map (c := cI) (g := fun o => PyData.int (if decide (o = w) then 1 else 0)) (fun x _ => rfl) fun o mo => h o (List.mem_range.mp mo), un_data]
theorem with_alone_ok (hw : OkWays ways) {ws : List Wi} (hl : ss.length = ways.length) {i w : Nat} (hi : i < ways.length) : m_with_alone (tS ways ws) (tSh ss) (cI i) (cI w) = pu (tSh (ss.set i (un (ways.getD i 0) w))) := by
  have h4 := ways_hi hw hi
  have h10 := hw.len
  have e1 : dRng1 (cI (ways.getD i 0)) = some ((List.range (ways.getD i 0)).map cI) := rng_cI _ (by omega)
  have c1 : dCut (tSh ss) none (some (i : Int)) = some (tSh (ss.take i)) := cut_to_sh ss i
  have c2 : dCut (tSh ss) (some ((i : Int) + 1)) none = some (tSh (ss.drop (i + 1))) := cut_from_sh ss (i + 1)
  unfold m_with_alone
  simp only [bd_pu, dIdx_S0, li_some, dIdx_tN hi, e1]
  rw [alone_mf (ways.getD i 0) w fun o ho => by
    simp only [u1, li_some, bd_pu, x1, dEq_c, Option.map_some, g1, dInt_b]]
  simp only [bd_pu, g1, dTup_l, li_some]
  rw [show oInt (cI i) = pu (some (i : Int)) from rfl]
  simp only [bd_pu, c1, li_some, cI, dAdd_i, oInt_i, c2]
  rw [show PyData.tuple [PyData.tuple ((un (ways.getD i 0) w).map cI)] = tSh [un (ways.getD i 0) w] from rfl, add_sh (by simp; omega)]
  simp only [li_some, bd_pu]
  rw [add_sh (by simp; omega), set_cut _ _ _ (by omega)]
  simp only [li_some, bd_pu, fe_rt]
theorem law_alone_ok (hw : OkWays ways) {ws : List Wi} (hl : ss.length = ways.length) {i w : Nat} (hi : i < ways.length) : m__law_aalone (tS ways ws) (tSh ss) (cI i) (cI w) = pu (tSh (ss.set i (un (ways.getD i 0) w))) :=
  with_alone_ok hw hl hi
theorem rowS_set (i j : Nat) (r : List Nat) (hi : i < ss.length) : rowS (ss.set i r) j = if j = i then r else rowS ss j := by
  unfold rowS
  rw [List.getD_eq_getElem?_getD, List.getD_eq_getElem?_getD]
  by_cases h : j = i
  · subst h
    rw [List.getElem?_set_self hi, if_pos rfl]
    rfl
  · rw [List.getElem?_set_ne (Ne.symm h), if_neg h]
theorem okSh_set (h : OkSh ways ss) {i w : Nat} (hi : i < ways.length) (hw : w < ways.getD i 0) : OkSh ways (ss.set i (un (ways.getD i 0) w)) := by
  have hl : i < ss.length := by rw [h.len]; exact hi
  refine ⟨by rw [List.length_set, h.len], fun j hj => ?_, fun r m x mx => ?_, fun r m => ?_⟩
  · show (rowS (ss.set i _) j).length = _
    rw [rowS_set i j _ hl]
    split
    · rename_i e; rw [un_len, e]
    · exact h.row j hj
  · rcases List.mem_or_eq_of_mem_set m with m | rfl
    · exact h.hi r m x mx
    · exact un_le _ _ x mx
  · rcases List.mem_or_eq_of_mem_set m with m | rfl
    · exact h.pos r m
    · rw [un_sum, if_pos hw]; exact Nat.one_pos
end

/-! ### a mean is that of the means with each way alone -/
/-- by the numbers of a row -/
def qw (r : List Nat) (f : Nat → Rat) : Rat := qs r.length fun x => ((r.getD x 0 : Nat) : Rat) * f x
theorem qw_congr {r : List Nat} {f g : Nat → Rat} (h : ∀ x, x < r.length → f x = g x) : qw r f = qw r g := qs_congr fun x hx => by rw [h x hx]
theorem qw_add (r : List Nat) (f g : Nat → Rat) : qw r (fun x => f x + g x) = qw r f + qw r g := by
  unfold qw
  rw [← qs_add]
  exact qs_congr fun x _ => by grind
theorem qw_mul (r : List Nat) (c : Rat) (f : Nat → Rat) : qw r (fun x => c * f x) = c * qw r f := by
  unfold qw
  rw [← qs_mul]
  exact qs_congr fun x _ => by grind
theorem qw_one : ∀ (r : List Nat), qw r (fun _ => 1) = ((r.sum : Nat) : Rat) := by
  have key : ∀ (n : Nat) (r : List Nat), r.length = n → qs n (fun x => ((r.getD x 0 : Nat) : Rat)) = ((r.sum : Nat) : Rat) := by
    intro n
    induction n with
    | zero => intro r h; rw [List.length_eq_zero_iff.mp h]; rfl
    | succ n ih =>
      intro r h
      have e : r = r.take n ++ [r.getD n 0] := by
        have : n < r.length := by omega
        rw [List.getD_eq_getElem?_getD, List.getElem?_eq_getElem this]
        conv => lhs; rw [← List.take_append_drop n r, List.drop_eq_getElem_cons this, List.drop_eq_nil_of_le (by omega)]
        rfl
      have i := ih (r.take n) (by simp; omega)
      rw [qs_succ, show r.sum = (r.take n).sum + r.getD n 0 by conv => lhs; rw [e, List.sum_append, List.sum_singleton], Rat.natCast_add, ← i]
      congr 1
      exact qs_congr fun x hx => by
        rw [List.getD_eq_getElem?_getD, List.getD_eq_getElem?_getD, List.getElem?_take_of_lt hx]
  intro r
  unfold qw
  rw [← key r.length r rfl]
  exact qs_congr fun x _ => by grind
theorem qw_const (r : List Nat) (c : Rat) : qw r (fun _ => c) = ((r.sum : Nat) : Rat) * c := by
  rw [← qw_one, qw_congr (g := fun x => c * 1) fun x _ => by grind, qw_mul]
  grind
theorem qw_sub (r : List Nat) (f g : Nat → Rat) : qw r (fun x => f x - g x) = qw r f - qw r g := by
  rw [qw_congr (g := fun x => f x + (-1) * g x) fun x _ => by grind, qw_add, qw_mul]
  grind
theorem qw_ind (r : List Nat) (y : Nat) (h : y < r.length) : qw r (fun x => if x = y then 1 else 0) = ((r.getD y 0 : Nat) : Rat) := by
  unfold qw
  rw [qs_congr (g := fun x => ((r.getD y 0 : Nat) : Rat) * if x = y then 1 else 0) fun x _ => by
    by_cases e : x = y
    · subst e; rfl
    · simp only [e, if_false]; grind, qs_mul, qs_one, if_pos h]
  grind
theorem qw_hit (r : List Nat) : ∀ {l : List Nat}, l.Pairwise (· < ·) → (∀ x ∈ l, x < r.length) → qw r (fun x => if x ∈ l then 1 else 0) = ((hitS r l : Nat) : Rat)
  | [], _, _ => by
    simp only [List.not_mem_nil, if_false]
    rw [qw_const]
    unfold hitS
    simp only [List.map_nil, List.sum_nil]
    show _ = (0 : Rat)
    grind
  | y :: l, up, lt => by
    obtain ⟨u1, u2⟩ := List.pairwise_cons.mp up
    have ih := qw_hit r u2 fun x m => lt x (List.mem_cons_of_mem _ m)
    have hy : ¬ y ∈ l := fun m => by have := u1 y m; omega
    rw [qw_congr (g := fun x => (if x = y then 1 else 0) + if x ∈ l then 1 else 0) fun x _ => by
      by_cases e : x = y
      · subst e
        simp only [List.mem_cons, true_or, if_true, hy, if_false]
        grind
      · simp only [List.mem_cons, e, false_or, if_false]
        grind, qw_add, qw_ind r y (lt y List.mem_cons_self), ih]
    unfold hitS
    rw [List.map_cons, List.sum_cons, Rat.natCast_add]
theorem prod_onW {r : List Nat} {j : Nat} {g : Nat → Nat × List Nat → Rat} {f : Nat × List Nat → Rat} : ∀ {ps : List (Nat × List Nat)}, (ps.map Prod.fst).Pairwise (· < ·) → (∀ p ∈ ps, ∀ x, p.1 ≠ j → g x p = f p) → (∀ p ∈ ps, p.1 = j → qw r (fun x => g x p) = ((r.sum : Nat) : Rat) * f p) →
    qw r (fun x => qprod (ps.map (g x))) = ((r.sum : Nat) : Rat) * qprod (ps.map f)
  | [], _, _, _ => by simp only [List.map_nil, qprod]; exact qw_const r 1
  | p :: ps, hp, h1, h2 => by
    rw [List.map_cons] at hp
    obtain ⟨a1, a2⟩ := List.pairwise_cons.mp hp
    simp only [List.map_cons, qprod]
    by_cases c : p.1 = j
    · have e : ∀ x, qprod (ps.map (g x)) = qprod (ps.map f) := fun x => by
        congr 1
        refine List.map_congr_left fun q mq => h1 q (List.mem_cons_of_mem _ mq) x ?_
        have := a1 q.1 (List.mem_map.mpr ⟨q, mq, rfl⟩)
        omega
      rw [qw_congr fun x _ => by rw [e x, Rat.mul_comm], qw_mul, h2 p List.mem_cons_self c]
      grind
    · have ih := prod_onW a2 (fun q mq => h1 q (List.mem_cons_of_mem _ mq)) fun q mq => h2 q (List.mem_cons_of_mem _ mq)
      rw [qw_congr fun x _ => by rw [h1 p List.mem_cons_self x c], qw_mul, ih]
      grind
section
variable {ways : List Nat} {ss : List (List Nat)}
theorem ms_ne {i : Nat} (r : List Nat) (hi : i < ss.length) {p : Nat × List Nat} (h : p.1 ≠ i) : ms (ss.set i r) p = ms ss p := by
  unfold ms
  rw [rowS_set i _ r hi, if_neg h]
theorem hit_un {m w : Nat} {l : List Nat} (up : l.Pairwise (· < ·)) (lt : ∀ x ∈ l, x < m) : hitS (un m w) l = if w ∈ l then 1 else 0 := by
  unfold hitS
  induction l with
  | nil => rfl
  | cons y l ih =>
    obtain ⟨u1, u2⟩ := List.pairwise_cons.mp up
    have i := ih u2 fun x m => lt x (List.mem_cons_of_mem _ m)
    have hy := lt y List.mem_cons_self
    rw [List.map_cons, List.sum_cons, i, un_getD]
    by_cases e : y = w
    · subst e
      have : ¬ y ∈ l := fun m => by have := u1 y m; omega
      simp [hy, this]
    · have e' : ¬ w = y := fun z => e z.symm
      simp [e, e']
theorem ms_at {i m w : Nat} (hi : i < ss.length) {p : Nat × List Nat} (h : p.1 = i) (up : p.2.Pairwise (· < ·)) (lt : ∀ x ∈ p.2, x < m) : ms (ss.set i (un m w)) p = if w ∈ p.2 then 1 else 0 := by
  unfold ms
  rw [rowS_set i _ _ hi, if_pos h, hit_un up lt, un_sum]
  by_cases a : w ∈ p.2
  · have := lt w a
    simp only [a, this, if_true]
    show (1 : Rat) / (1 : Rat) = 1
    grind
  · simp only [a, if_false]
    show (0 : Rat) / _ = 0
    grind
theorem ms_on (h : OkSh ways ss) {i : Nat} (hi : i < ways.length) {p : Nat × List Nat} (hp : OkP ways p) (e : p.1 = i) : qw (rowS ss i) (fun x => ms (ss.set i (un (ways.getD i 0) x)) p) = (((rowS ss i).sum : Nat) : Rat) * ms ss p := by
  have hl : i < ss.length := by rw [h.len]; exact hi
  have hr : (rowS ss i).length = ways.getD i 0 := h.row i hi
  have hb : ∀ x ∈ p.2, x < ways.getD i 0 := fun x m => by rw [← e]; exact hp.be x m
  rw [qw_congr fun x _ => ms_at hl e hp.up hb, qw_hit _ hp.up (by rw [hr]; exact hb)]
  unfold ms
  rw [e]
  have := h.pos _ (row_mem h hi).1
  have : (((rowS ss i).sum : Nat) : Rat) ≠ 0 := by rw [← Rat.intCast_natCast, Ne, Rat.intCast_eq_zero_iff]; omega
  grind
theorem ks_on (h : OkSh ways ss) {i : Nat} (hi : i < ways.length) {w : Wi} (ow : OkW ways w) : qw (rowS ss i) (fun x => ks (ss.set i (un (ways.getD i 0) x)) w) = (((rowS ss i).sum : Nat) : Rat) * ks ss w := by
  have hl : i < ss.length := by rw [h.len]; exact hi
  unfold ks
  cases w.k with
  | true =>
    simp only [if_true]
    exact prod_onW ow.up (fun p _ x c => ms_ne _ hl c) fun p m c => ms_on h hi (ow.ps p m) c
  | false =>
    simp only [Bool.false_eq_true, if_false]
    have := prod_onW (r := rowS ss i) (j := i) (g := fun x p => 1 - ms (ss.set i (un (ways.getD i 0) x)) p) (f := fun p => 1 - ms ss p) ow.up (fun p _ x c => by rw [ms_ne _ hl c]) fun p m c => by
      rw [qw_sub, qw_const, ms_on h hi (ow.ps p m) c]
      grind
    rw [qw_sub, qw_const, this]
    grind
theorem mns_on (h : OkSh ways ss) {i : Nat} (hi : i < ways.length) {ws : List Wi} (hv : ∀ w ∈ ws, OkW ways w) : qw (rowS ss i) (fun x => mns (ss.set i (un (ways.getD i 0) x)) ws) = (((rowS ss i).sum : Nat) : Rat) * mns ss ws := by
  induction ws with
  | nil =>
    unfold mns
    simp only [List.map_nil, qsum]
    exact qw_const _ 0
  | cons w ws ih =>
    have i2 := ih fun v m => hv v (List.mem_cons_of_mem _ m)
    unfold mns at i2 ⊢
    simp only [List.map_cons, qsum]
    rw [qw_add, qw_mul, ks_on h hi (hv w List.mem_cons_self), i2]
    grind
/-! all ways alone -/
theorem ks_full {c : List Nat} (hl : ss.length = ways.length) (hc : OkC ways c) (hr : ∀ i, i < ways.length → rowS ss i = un (ways.getD i 0) (c.getD i 0)) {w : Wi} (ow : OkW ways w) : ks ss w = if kept c w = true then 1 else 0 := by
  have e : ∀ p ∈ w.ps, ms ss p = if metp c p = true then 1 else 0 := fun p m => by
    have hp := ow.ps p m
    have hi := hp.lt
    have := ms_at (ss := ss) (i := p.1) (m := ways.getD p.1 0) (w := c.getD p.1 0) (by omega) rfl hp.up hp.be
    have e2 : ss.set p.1 (un (ways.getD p.1 0) (c.getD p.1 0)) = ss := by
      rw [← hr p.1 hi]
      unfold rowS
      have : p.1 < ss.length := by omega
      rw [List.getD_eq_getElem?_getD, List.getElem?_eq_getElem this]
      simp
    rw [e2] at this
    rw [this]
    unfold metp
    simp
  unfold ks kept
  cases w.k with
  | true =>
    simp only [if_true]
    rw [List.map_congr_left e, prod_ind]
  | false =>
    simp only [Bool.false_eq_true, if_false]
    have e2 : w.ps.map (fun p => 1 - ms ss p) = w.ps.map fun p => if (!metp c p) = true then (1 : Rat) else 0 := List.map_congr_left fun p m => by
      rw [e p m]
      cases metp c p <;> simp <;> grind
    rw [e2, prod_ind]
    have e3 : w.ps.any (metp c) = !w.ps.all fun p => !metp c p := by simp [List.any_eq_not_all_not]
    rw [e3]
    cases w.ps.all fun p => !metp c p <;> simp <;> grind
theorem mns_full {c : List Nat} (hl : ss.length = ways.length) (hc : OkC ways c) (hr : ∀ i, i < ways.length → rowS ss i = un (ways.getD i 0) (c.getD i 0)) {ws : List Wi} (hv : ∀ w ∈ ws, OkW ways w) : mns ss ws = (wo c ws : Nat) := by
  induction ws with
  | nil => rfl
  | cons w vs ih =>
    have i := ih fun v m => hv v (List.mem_cons_of_mem _ m)
    have e : mns ss (w :: vs) = ((w.w : Int) : Rat) * ks ss w + mns ss vs := rfl
    rw [e, i, ks_full hl hc hr (hv w List.mem_cons_self)]
    unfold wo
    by_cases k : kept c w = true
    · rw [List.filter_cons_of_pos k, List.map_cons, List.sum_cons, if_pos k, Rat.natCast_add, Rat.intCast_natCast]
      grind
    · rw [List.filter_cons_of_neg k, if_neg k]
      grind
end
end Q


set_option maxRecDepth 100000
set_option maxHeartbeats 1000000
namespace Q
open DL PySem PySem.Spec PyProof.Rows L2 RZ

/-! what settles -/
def wiW (c : List Nat) (p w : Nat) : List Nat := c.take p ++ [w] ++ c.drop (p + 1)
theorem wiW_ok {ways c : List Nat} (hc : OkC ways c) {p w : Nat} (hp : p < ways.length) (hw : w < ways.getD p 0) : OkC ways (wiW c p w) := by
  have hl := hc.eq
  have lt : (c.take p).length = p := by rw [List.length_take]; omega
  unfold wiW
  refine ⟨⟨by simp; omega, fun j hj => ?_⟩, by simp; omega⟩
  have hj : j < c.length := by simp at hj; omega
  have hb := hc.be j hj
  rw [List.getD_eq_getElem?_getD]
  by_cases j1 : j < p
  · rw [List.append_assoc, List.getElem?_append_left (by omega), List.getElem?_take_of_lt j1, ← List.getD_eq_getElem?_getD]
    exact hb
  · by_cases j2 : j = p
    · subst j2
      rw [List.append_assoc, List.getElem?_append_right (by omega), lt]
      simpa using hw
    · rw [List.getElem?_append_right (by simp; omega)]
      have e9 : j - (c.take p ++ [w]).length = j - (p + 1) := by simp; omega
      rw [e9, List.getElem?_drop, show p + 1 + (j - (p + 1)) = j by omega, ← List.getD_eq_getElem?_getD]
      exact hb
theorem with_way_ok {c : List Nat} {p w : Nat} (hl : c.length ≤ 10) : m_with_way (tN c) (cI p) (cI w) = pu (tN (wiW c p w)) := by
  have e1 : oInt (cI p) = pu (some (p : Int)) := rfl
  have e2 : dAdd (cI p) (.int 1) = some (cI (p + 1)) := dAdd_c p 1
  have e3 : oInt (cI (p + 1)) = pu (some ((p + 1 : Nat) : Int)) := rfl
  have e4 : dAdd (tN (c.take p ++ [w])) (tN (c.drop (p + 1))) = some (tN (wiW c p w)) := dAdd_tN (by simp; omega)
  unfold m_with_way
  simp -implicitDefEqProofs only [bd_pu, e1, cut_tN, li_some, dAdd_tN1 (a := c.take p) (x := w) (by simp; omega), e2, e3, cut_tNf, e4, fe_rt]
/-- what a way of a place is worth -/
def wp (ws : List Wi) (c : List Nat) (p w : Nat) : Nat := wo (wiW c p w) ws
theorem top_range (f : Nat → Nat) (m : Nat) : (List.range' 1 m).foldl (fun b w => if f b < f w then w else b) 0 = topN f (m + 1) := by
  unfold topN
  rw [List.range_succ_eq_map, List.foldl_cons]
  have : (if f 0 < f 0 then 0 else 0) = 0 := by simp
  rw [this, List.range'_eq_map_range]
  congr 1
  refine List.map_congr_left fun x _ => ?_
  omega
theorem dRng2_c {a b : Nat} (h : a ≤ b) (hb : b ≤ 16777216) : dRng2 (cI a) (cI b) = some ((List.range' a (b - a)).map cI) := by
  have c1 : -(2 ^ 61) ≤ (a : Int) := by omega
  have c2 : (a : Int) < 2 ^ 61 := by omega
  have c3 : -(2 ^ 61) ≤ (b : Int) := by omega
  have c4 : (b : Int) < 2 ^ 61 := by omega
  have c5 : (b : Int) - (a : Int) ≤ 16777216 := by omega
  unfold cI dRng2
  simp only [c1, c2, c3, c4, c5, and_self, if_true]
  rw [show ((b : Int) - (a : Int)).toNat = b - a by omega, List.range'_eq_map_range, List.map_map]
  congr 1
theorem best_there_ok {ways c : List Nat} {ws : List Wi} (h : OkS ways ws) (hc : OkC ways c) {p : Nat} (hp : p < ways.length) : m_best_there (tS ways ws) (tN c) (cI p) = pu (.tuple [cI (topN (wp ws c p) (ways.getD p 0)), cI (wp ws c p (topN (wp ws c p) (ways.getD p 0)))]) := by
  have hl := okB_len hc.toOkB h.wy
  have hw := ways_hi h.wy hp
  obtain ⟨m, hm⟩ : ∃ m, ways.getD p 0 = m + 1 := ⟨ways.getD p 0 - 1, by omega⟩
  have q := fo_enc (L := Empty) (body := m_best_there_b1 (tS ways ws) (tN c) (cI p)) (enc := fun b : Nat => (cI b, cI (wp ws c p b))) (c := cI) (G := fun b w => if wp ws c p b < wp ws c p w then w else b) (fun _ => True) (xs := List.range' 1 m) (s := 0) trivial fun b w mw _ => by
    have hw2 := List.mem_range'_1.mp mw
    have ok := wiW_ok hc hp (w := w) (by omega)
    refine ⟨?_, trivial⟩
    unfold m_best_there_b1
    simp -implicitDefEqProofs only [u1, li_some, bd_pu, x1, with_way_ok hl, worth_in_ok h ok, dGt_c]
    show sq (if decide (wp ws c p b < wp ws c p w) = true then _ else _) _ = _
    by_cases cc : wp ws c p b < wp ws c p w
    · rw [decide_eq_true cc, if_pos rfl, sq_nx]
      simp only [if_pos cc]
      rfl
    · rw [decide_eq_false cc, if_neg Bool.false_ne_true, sq_nx]
      simp only [if_neg cc]
  rw [top_range, ← hm] at q
  have e1 : dRng2 (.int 1) (cI (ways.getD p 0)) = some ((List.range' 1 m).map cI) := by
    have := dRng2_c (a := 1) (b := ways.getD p 0) (by omega) (by omega)
    rw [show ways.getD p 0 - 1 = m by omega] at this
    exact this
  have ok0 := wiW_ok hc hp (w := 0) (by omega)
  have e0 : m_with_way (tN c) (cI p) (.int 0) = pu (tN (wiW c p 0)) := with_way_ok (w := 0) hl
  unfold m_best_there
  simp -implicitDefEqProofs only [bd_pu, e0, worth_in_ok h ok0, dIdx_S0, li_some, dIdx_tN hp, e1]
  rw [show (PyData.int 0, cI (wo (wiW c p 0) ws)) = (cI 0, cI (wp ws c p 0)) from rfl, q.1]
  simp -implicitDefEqProofs only [sq_nx, bd_pu, fe_rt]
/-- the next choosing from place p on -/
def nextF (ways : List Nat) (ws : List Wi) (c : List Nat) : List Nat → Option (List Nat)
  | [] => none
  | p :: r => if wo c ws < wp ws c p (topN (wp ws c p) (ways.getD p 0)) then some (wiW c p (topN (wp ws c p) (ways.getD p 0))) else nextF ways ws c r
def nextC (ways : List Nat) (ws : List Wi) (c : List Nat) : Option (List Nat) := nextF ways ws c (List.range c.length)
def enO : Option (List Nat) → D
  | none => .none
  | some c => tN c
def enF : Option (List Nat) → Fl Unit Empty
  | none => .nx ()
  | some c => .rt (tN c)
theorem next_loop {ways c : List Nat} {ws : List Wi} {body : Unit → D → M (Fl Unit Unit)} (h : ∀ p, p < ways.length → body () (cI p) = if wo c ws < wp ws c p (topN (wp ws c p) (ways.getD p 0)) then pu (.rt (tN (wiW c p (topN (wp ws c p) (ways.getD p 0))))) else pu (.nx ())) : ∀ (ps : List Nat), (∀ p ∈ ps, p < ways.length) → fo (L := Empty) body (ps.map cI) () = pu (enF (nextF ways ws c ps))
  | [], _ => rfl
  | p :: r, hp => by
    have st := h p (hp p List.mem_cons_self)
    rw [List.map_cons, fo, st]
    unfold nextF
    by_cases cc : wo c ws < wp ws c p (topN (wp ws c p) (ways.getD p 0))
    · rw [if_pos cc, if_pos cc, bd_pu]
      rfl
    · rw [if_neg cc, if_neg cc, bd_pu]
      exact next_loop h r fun q m => hp q (List.mem_cons_of_mem _ m)
theorem next_choosing_ok {ways c : List Nat} {ws : List Wi} (h : OkS ways ws) (hc : OkC ways c) : m_next_choosing (tS ways ws) (tN c) = pu (enO (nextC ways ws c)) := by
  have hl := okB_len hc.toOkB h.wy
  have q := next_loop (ways := ways) (c := c) (ws := ws) (body := m_next_choosing_b1 (tS ways ws) (tN c) (cI (wo c ws))) (fun p hp => by
    unfold m_next_choosing_b1
    simp -implicitDefEqProofs only [u1, li_some, bd_pu, x1, best_there_ok h hc hp, uN, List.length_cons, List.length_nil, if_true, Nat.zero_add, Nat.reduceAdd, x2, dGt_c, with_way_ok hl]
    by_cases cc : wo c ws < wp ws c p (topN (wp ws c p) (ways.getD p 0))
    · rw [decide_eq_true cc, if_pos rfl, if_pos cc]
    · rw [decide_eq_false cc, if_neg Bool.false_ne_true, if_neg cc]) (List.range c.length) fun p m => by rw [← hc.eq]; exact List.mem_range.mp m
  unfold m_next_choosing
  simp -implicitDefEqProofs only [bd_pu, worth_in_ok h hc, g1, dLen_tN, li_some, rng_cI c.length (by omega)]
  rw [q]
  unfold nextC
  cases nextF ways ws c (List.range c.length) <;> rfl
theorem nextF_ok {ways c : List Nat} {ws : List Wi} (h : OkS ways ws) (hc : OkC ways c) : ∀ (ps : List Nat), (∀ p ∈ ps, p < ways.length) → ∀ d, nextF ways ws c ps = some d → OkC ways d ∧ wo c ws < wo d ws
  | [], _, d, e => by cases e
  | p :: r, hp, d, e => by
    have hp1 := hp p List.mem_cons_self
    have hw := ways_hi h.wy hp1
    unfold nextF at e
    by_cases cc : wo c ws < wp ws c p (topN (wp ws c p) (ways.getD p 0))
    · rw [if_pos cc] at e
      cases e
      obtain ⟨t1, _, _⟩ := top_key (wp ws c p) (ways.getD p 0)
      exact ⟨wiW_ok hc hp1 (by omega), cc⟩
    · rw [if_neg cc] at e
      exact nextF_ok h hc r (fun q m => hp q (List.mem_cons_of_mem _ m)) d e
theorem nextC_ok {ways c d : List Nat} {ws : List Wi} (h : OkS ways ws) (hc : OkC ways c) (e : nextC ways ws c = some d) : OkC ways d ∧ wo c ws < wo d ws :=
  nextF_ok h hc _ (fun p m => by rw [← hc.eq]; exact List.mem_range.mp m) d e
theorem wo_le {ways : List Nat} {ws : List Wi} (h : OkS ways ws) (c : List Nat) : wo c ws ≤ 1584 := by
  have key : ∀ l : List Wi, (∀ w ∈ l, OkW ways w) → wo c l ≤ 99 * l.length := by
    intro l
    induction l with
    | nil => intro _; simp [wo]
    | cons w l ih =>
      intro hl
      have i := ih fun v m => hl v (List.mem_cons_of_mem _ m)
      have hw := (hl w List.mem_cons_self).le
      unfold wo at i ⊢
      rw [List.length_cons]
      by_cases k : kept c w = true
      · rw [List.filter_cons_of_pos k, List.map_cons, List.sum_cons]; omega
      · rw [List.filter_cons_of_neg k]; omega
  have := key ws h.ok
  have := h.len
  omega
/-- what settles from a choosing, in so many steps at most -/
def setN (ways : List Nat) (ws : List Wi) : Nat → List Nat → List Nat
  | 0, c => c
  | n + 1, c => match nextC ways ws c with
    | none => c
    | some d => setN ways ws n d
def stl (ways : List Nat) (ws : List Wi) (c : List Nat) : List Nat := setN ways ws (1600 - wo c ws) c
theorem setN_more {ways : List Nat} {ws : List Wi} (h : OkS ways ws) : ∀ (n m : Nat) (c : List Nat), OkC ways c → 1600 - wo c ws ≤ n → 1600 - wo c ws ≤ m → setN ways ws n c = setN ways ws m c
  | 0, m, c, hc, h1, _ => by have := wo_le h c; omega
  | n + 1, 0, c, hc, _, h2 => by have := wo_le h c; omega
  | n + 1, m + 1, c, hc, h1, h2 => by
    unfold setN
    cases e : nextC ways ws c with
    | none => rfl
    | some d =>
      obtain ⟨od, lt⟩ := nextC_ok h hc e
      exact setN_more h n m d od (by omega) (by omega)
theorem stl_none {ways c : List Nat} {ws : List Wi} (h : OkS ways ws) (e : nextC ways ws c = none) : stl ways ws c = c := by
  have := wo_le h c
  unfold stl
  obtain ⟨n, hn⟩ : ∃ n, 1600 - wo c ws = n + 1 := ⟨1600 - wo c ws - 1, by omega⟩
  rw [hn, setN, e]
theorem stl_some {ways c d : List Nat} {ws : List Wi} (h : OkS ways ws) (hc : OkC ways c) (e : nextC ways ws c = some d) : stl ways ws c = stl ways ws d := by
  have := wo_le h c
  obtain ⟨od, lt⟩ := nextC_ok h hc e
  unfold stl
  obtain ⟨n, hn⟩ : ∃ n, 1600 - wo c ws = n + 1 := ⟨1600 - wo c ws - 1, by omega⟩
  rw [hn, setN, e]
  exact setN_more h n _ d od (by omega) (Nat.le_refl _)
theorem stl_ok {ways : List Nat} {ws : List Wi} (h : OkS ways ws) : ∀ (n : Nat) (c : List Nat), OkC ways c → 1600 - wo c ws ≤ n → OkC ways (stl ways ws c) ∧ wo c ws ≤ wo (stl ways ws c) ws ∧ nextC ways ws (stl ways ws c) = none ∧ (stl ways ws c = c ↔ nextC ways ws c = none)
  | 0, c, hc, h1 => by have := wo_le h c; omega
  | n + 1, c, hc, h1 => by
    cases e : nextC ways ws c with
    | none =>
      rw [stl_none h e]
      exact ⟨hc, Nat.le_refl _, e, ⟨fun _ => rfl, fun _ => rfl⟩⟩
    | some d =>
      obtain ⟨od, lt⟩ := nextC_ok h hc e
      obtain ⟨i1, i2, i3, i4⟩ := stl_ok h n d od (by omega)
      rw [stl_some h hc e]
      refine ⟨i1, by omega, i3, ⟨fun z => ?_, fun z => by cases z⟩⟩
      rw [z] at i2
      omega
theorem settle_loop {L : Type} {ways : List Nat} {ws : List Wi} (h : OkS ways ws) {test : D × D → M Bool} {body : D × D → M (Fl (D × D) (D × D))} (ht : ∀ x o, test (x, enO o) = pu (!o.isNone)) (hb : ∀ x d, OkC ways d → body (x, tN d) = pu (.nx (tN d, enO (nextC ways ws d)))) : ∀ (n : Nat) (c : List Nat), OkC ways c → 1600 - wo c ws ≤ n → ∃ x, wh (L := L) test body (tN c, enO (nextC ways ws c)) = pu (.nx (tN (stl ways ws c), x))
  | 0, c, hc, h1 => by have := wo_le h c; omega
  | n + 1, c, hc, h1 => by
    cases e : nextC ways ws c with
    | none =>
      refine ⟨.none, ?_⟩
      rw [stl_none h e, wh_unf, wst, ht]
      rfl
    | some d =>
      obtain ⟨od, lt⟩ := nextC_ok h hc e
      obtain ⟨x, ih⟩ := settle_loop h ht hb n d od (by omega)
      refine ⟨x, ?_⟩
      have st := hb (tN c) d od
      rw [stl_some h hc e, wh_unf, wst, ht, bd_pu, if_pos (show (!(some d : Option (List Nat)).isNone) = true from rfl), show enO (some d) = tN d from rfl, st, bd_pu]
      exact ih
theorem dNis_enO (o : Option (List Nat)) : dNis (enO o) .none = some (!o.isNone) := by cases o <;> rfl
theorem dIs_enO (o : Option (List Nat)) : dIs (enO o) .none = some o.isNone := by cases o <;> rfl
theorem settle_ok {ways c : List Nat} {ws : List Wi} (h : OkS ways ws) (hc : OkC ways c) : m_settle (tS ways ws) (tN c) = pu (tN (stl ways ws c)) := by
  obtain ⟨x, q⟩ := settle_loop (L := Empty) h (test := m_settle_b1) (body := m_settle_b2 (tS ways ws)) (fun x o => by
    unfold m_settle_b1
    simp -implicitDefEqProofs only [bd_pu, dNis_enO, li_some]) (fun x d od => by
    unfold m_settle_b2
    simp -implicitDefEqProofs only [bd_pu, next_choosing_ok h od]) _ c hc (Nat.le_refl _)
  unfold m_settle
  simp -implicitDefEqProofs only [bd_pu, need_choosing_ok h hc, next_choosing_ok h hc, q, sq_nx, fe_rt]
theorem is_settled_ok {ways c : List Nat} {ws : List Wi} (h : OkS ways ws) (hc : OkC ways c) : m_is_settled (tS ways ws) (tN c) = pu (.bool (nextC ways ws c).isNone) := by
  unfold m_is_settled
  simp -implicitDefEqProofs only [bd_pu, need_choosing_ok h hc, next_choosing_ok h hc, dIs_enO, Option.map_some, li_some, fe_rt]
end Q


set_option maxRecDepth 100000
set_option maxHeartbeats 4000000
namespace Q
open DL PySem PySem.Spec PyProof.Rows L2 RZ

/-! the tape of the a-laws: list n by reference, one number in it -/
def TA (n : Nat) (τ : T) : Prop := ∃ v : Int, τ[n]? = some [.int v]
theorem acell_ok (ns : List Int) (k : Nat) : ∃ c : Int, m__law_acell (scr ns) (.int k) = pu (.int c) := by
  unfold m__law_acell
  by_cases h : (k : Int) < ns.length
  · obtain ⟨c, hc⟩ : ∃ c, ns[k]? = some c := ⟨ns[k]'(by omega), List.getElem?_eq_getElem (by omega)⟩
    refine ⟨c, ?_⟩
    simp only [bd_pu, g1, dLen_s, li_some, dLt_i, decide_eq_true h, if_true, dIdx_s hc, fe_rt]
  · refine ⟨0, ?_⟩
    simp only [bd_pu, g1, dLen_s, li_some, dLt_i, decide_eq_false h, Bool.false_eq_true, if_false, fe_rt]
theorem atape_b1_ok {p k : Int} (hp : 0 < p) (hp' : p < 2 ^ 61) (hk : 0 ≤ k) (hk' : k < 64) (j : Nat) (hj : j < 18) {a b : Int} (ha : 0 ≤ a ∧ a < 2 ^ (64 + 64 * j)) (hb : 0 ≤ b ∧ b < 2 ^ 61) :
    ∃ a' b' : Int, m__law_atape_b1 (.int p) (.int k) (.int a, .int b) (.int j) = pu (.nx (.int a', .int b')) ∧ (0 ≤ a' ∧ a' < 2 ^ (64 + 64 * (j + 1))) ∧ (0 ≤ b' ∧ b' < 2 ^ 61) := by
  have sa : SmI a (64 + 64 * j) := smOf (by have := Nat.one_le_two_pow (n := 64 + 64 * j); omega) (by exact_mod_cast ha.2)
  have sp : SmI p 61 := smOf (by omega) (by simpa using hp')
  have sb : SmI b 61 := smOf (by omega) (by simpa using hb.2)
  have sk : SmI k 6 := smOf (by omega) (by simpa using hk')
  refine ⟨a * p + b, (b * b * (k + 3) + 40692 * k + j) % p, ?_, ⟨?_, ?_⟩, ⟨Int.emod_nonneg _ (by omega), Int.lt_trans (Int.emod_lt_of_pos _ hp) hp'⟩⟩
  · unfold m__law_atape_b1
    simp only [u1, li_some, bd_pu, x1, dMul_i (mulOk a p (by omega)), dMul_i (mulOk b b), dAdd_i, dMul_i (mulOk (b * b) (k + 3)), dMul_i (mulOk 40692 k), dMod_i hp]
  · have := Int.mul_nonneg ha.1 (Int.le_of_lt hp)
    omega
  · have e : (2 : Int) ^ (64 + 64 * (j + 1)) = 2 ^ (64 + 64 * j) * 2 ^ 64 := by rw [← Int.pow_add]; congr 1
    have h1 : a * p ≤ 2 ^ (64 + 64 * j) * 2 ^ 61 := Int.mul_le_mul (Int.le_of_lt ha.2) (Int.le_of_lt hp') (Int.le_of_lt hp) (Int.le_of_lt (Int.pow_pos (by decide)))
    have h2 : (0 : Int) < 2 ^ (64 + 64 * j) := Int.pow_pos (by decide)
    rw [e]
    generalize (2 : Int) ^ (64 + 64 * j) = z at *
    generalize a * p = y at *
    omega
theorem atape_loop {L : Type} {p k : Int} (hp : 0 < p) (hp' : p < 2 ^ 61) (hk : 0 ≤ k) (hk' : k < 64) : ∀ (n j : Nat) (a b : Int), j + n ≤ 18 → (0 ≤ a ∧ a < 2 ^ (64 + 64 * j)) → (0 ≤ b ∧ b < 2 ^ 61) →
    ∃ a' b' : Int, fo (L := L) (m__law_atape_b1 (.int p) (.int k)) ((List.range' j n).map fun (i : Nat) => .int i) (.int a, .int b) = pu (.nx (.int a', .int b'))
  | 0, j, a, b, _, _, _ => ⟨a, b, rfl⟩
  | n + 1, j, a, b, hj, ha, hb => by
    obtain ⟨a1, b1, e, h1, h2⟩ := atape_b1_ok hp hp' hk hk' j (by omega) ha hb
    obtain ⟨a2, b2, e2⟩ := atape_loop (L := L) hp hp' hk hk' n (j + 1) a1 b1 (by omega) h1 h2
    refine ⟨a2, b2, ?_⟩
    rw [List.range'_succ, List.map_cons, fo, e, bd_pu]
    exact e2
theorem atape_ok (ns : List Int) (k : Nat) (hk : k < 64) : ∃ v : Int, m__law_atape (scr ns) (.int k) = pu (.list [.int v]) := by
  obtain ⟨c, hc⟩ := acell_ok ns k
  have ex : ∀ {m : M D}, (∃ v : Int, m = pu (.list [.int v])) ↔ ∃ v : Int, m = pu (.list [.int v]) := Iff.rfl
  by_cases h : c % 2 = 0
  · refine ⟨c / 2, ?_⟩
    unfold m__law_atape
    simp only [bd_pu, hc, dMod_i (show (0 : Int) < 2 by decide), li_some, dEq_i, decide_eq_true h, if_true, dDiv_i (show (0 : Int) < 2 by decide) (by decide +kernel), fe_rt]
  · obtain ⟨p, ep, p0, p1⟩ : ∃ p : Int, dIdx (.list [.int 2305843009213693951, .int 2147483647, .int 2305843009213693921]) (.int ((k : Int) % 3)) = some (.int p) ∧ 0 < p ∧ p < 2 ^ 61 := by
      have : (k : Int) % 3 = 0 ∨ (k : Int) % 3 = 1 ∨ (k : Int) % 3 = 2 := by omega
      rcases this with e | e | e
      · rw [e]; exact ⟨_, dIdx_l0 _ _, by decide, by decide⟩
      · rw [e]; exact ⟨_, dIdx_l1 _ _ _, by decide, by decide⟩
      · rw [e]; exact ⟨_, dIdx_l2 _ _ _ _, by decide, by decide⟩
    have sk : SmI (k : Int) 6 := smNat (by omega)
    have m0 := Int.emod_nonneg c (b := p) (by omega)
    have m1 := Int.emod_lt_of_pos c p0
    have pw : 0 ≤ (5 : Int) ∧ (5 : Int) ≤ 1000000 ∧ (c % p + 7919 * (k : Int) + 1).natAbs < 2 ^ 64 := by
      refine ⟨by decide, by decide, ?_⟩
      have : (2 : Int) ^ 61 = 2305843009213693952 := by decide
      have : (2 : Nat) ^ 64 = 18446744073709551616 := by decide
      omega
    obtain ⟨a2, b2, e2⟩ := atape_loop (L := Empty) p0 p1 (by omega : 0 ≤ (k : Int)) (by omega) 18 0 0 (((c % p + 7919 * (k : Int) + 1) ^ Int.toNat 5 + 69621 * k + 11) % p) (by decide) ⟨by decide, by decide⟩ ⟨Int.emod_nonneg _ (by omega), Int.lt_trans (Int.emod_lt_of_pos _ p0) p1⟩
    refine ⟨a2, ?_⟩
    have er : List.range (Int.toNat 18) = List.range' 0 18 := List.range_eq_range'
    unfold m__law_atape
    simp -implicitDefEqProofs only [bd_pu, hc, dMod_i (show (0 : Int) < 2 by decide), dMod_i (show (0 : Int) < 3 by decide), dMod_i p0, li_some, dEq_i, decide_eq_false h, Bool.false_eq_true, if_false, ep, dMul_i (mulOk 7919 (k : Int)), dMul_i (mulOk 69621 (k : Int)), dAdd_i, dPow_i pw, dRng1_n (n := 18) (by decide) (by decide), er, e2, sq_nx, fe_rt]
theorem digitA {n : Nat} {τ : T} {m : Int} (h : TA n τ) (hm : 0 < m) (hm' : m.natAbs.log2 < 9000) : Tri (m__law_adigit n (.int m)) τ fun d τ' => ∃ r : Int, d = .int r ∧ 0 ≤ r ∧ r < m ∧ TA n τ' ∧ τ'.length = τ.length := by
  obtain ⟨v, e⟩ := h
  have hn : n < τ.length := (List.getElem?_eq_some_iff.mp e).1
  unfold m__law_adigit
  simp only [tri_fe, tri_bd, tri_pu, tri_mget, tri_mput]
  refine ⟨_, e, ?_⟩
  simp only [dIdx_l0, li_some, tri_pu, dMod_i hm]
  refine ⟨_, e, ?_⟩
  simp only [dIdx_l0, li_some, tri_pu, dDiv_i hm hm']
  refine ⟨_, e, ?_⟩
  simp only [setD0, li_some, tri_pu, feQ_rt]
  exact ⟨by simp, _, rfl, Int.emod_nonneg _ (by omega), Int.emod_lt_of_pos _ hm, ⟨_, List.getElem?_set_self hn⟩, by simp⟩
end Q


set_option maxRecDepth 100000
set_option maxHeartbeats 1000000
namespace Q
open DL PySem PySem.Spec PyProof.Rows L2 RZ

/-! the a-laws: numbers drawn, fractions -/
theorem digitN {n : Nat} {τ : T} {m : Nat} (h : TA n τ) (hm : 0 < m) (hm' : m < 2 ^ 63) : Tri (m__law_adigit n (cI m)) τ fun d τ' => ∃ r : Nat, d = cI r ∧ r < m ∧ TA n τ' ∧ τ'.length = τ.length := by
  refine (digitA (m := (m : Int)) h (by omega) (Nat.lt_of_le_of_lt (log2_int (k := 63) (by omega) (by omega)) (by decide))).mono ?_
  rintro _ τ1 ⟨r, rfl, r0, r1, t1, l1⟩
  refine ⟨r.toNat, ?_, by omega, t1, l1⟩
  unfold cI
  rw [show ((r.toNat : Nat) : Int) = r by omega]
theorem alow_loop {L : Type} : ∀ (y x : Nat), wh (L := L) m__law_alow_b1 m__law_alow_b2 (.int x, .int y) = pu (.nx (.int (Nat.gcd y x), .int 0)) := gcd_loop
theorem alow_q (a b : Int) {k : Nat} [s : SmI b k] (ha : 0 ≤ a) (h : 0 < b) (hk : k < 9000) : m__law_alow (.int a) (.int b) = pu (fq ((a : Rat) / (b : Rat))) := by
  have hb : b ≠ 0 := by omega
  have e : (b : Int) = (b.natAbs : Int) := by omega
  have ea : (a : Int) = (a.natAbs : Int) := by omega
  rw [← fq_low h]
  have z : wh (L := Empty) m__law_alow_b1 m__law_alow_b2 (.int a, .int b) = pu (.nx (.int (Int.gcd a b), .int 0)) := by
    conv => lhs; rw [e, ea]
    have q := alow_loop (L := Empty) b.natAbs a.natAbs
    rw [Nat.gcd_comm] at q
    exact q
  unfold m__law_alow
  simp -implicitDefEqProofs only [bd_pu, z, sq_nx, dDiv_i (gcd_pos hb) (gcd_log hb hk), li_some, fe_rt]
  rfl
theorem aplus_q (q r : Rat) {a b : Nat} [x : SmQ q a] [y : SmQ r b] (h : a + b < 9000) : m__law_aplus (fq q) (fq r) = pu (fq (q + r)) := by
  have := smi_num q
  have := smi_num r
  have := smi_den q
  have := smi_den r
  have h1 := den_pos q
  have h2 := den_pos r
  have hp := Int.mul_pos h1 h2
  have val : ((q.num * r.den + r.num * q.den : Int) : Rat) / (((q.den : Int) * (r.den : Int) : Int) : Rat) = q + r := by
    have z1 : ((q.den : Int) : Rat) ≠ 0 := by rw [Ne, Rat.intCast_eq_zero_iff]; omega
    have z2 : ((r.den : Int) : Rat) ≠ 0 := by rw [Ne, Rat.intCast_eq_zero_iff]; omega
    rw [Rat.intCast_add, Rat.intCast_mul, Rat.intCast_mul, Rat.intCast_mul]
    have := rat_nd q
    have := rat_nd r
    grind
  unfold m__law_aplus fq
  simp -implicitDefEqProofs only [bd_pu, dIdx_t0, dIdx_t1, li_some, dMul_i (mulOk q.num (r.den : Int) (by omega)), dMul_i (mulOk r.num (q.den : Int) (by omega)), dMul_i (mulOk (q.den : Int) (r.den : Int) (by omega)), dAdd_i, dLt_i]
  by_cases c : q.num * r.den + r.num * q.den < 0
  · rw [decide_eq_true c, if_pos rfl]
    have e0 : ((0 - (q.num * r.den + r.num * q.den) : Int) : Rat) / (((q.den : Int) * (r.den : Int) : Int) : Rat) = -(q + r) := by
      rw [← val, Rat.intCast_sub]
      have e1 : ((0 : Int) : Rat) = 0 := rfl
      rw [e1]
      grind
    have en : (-(q + r)).num = -(q + r).num := by simp
    have ed : (-(q + r)).den = (q + r).den := by simp
    simp -implicitDefEqProofs only [dSub_i, li_some, bd_pu, alow_q (0 - (q.num * r.den + r.num * q.den)) ((q.den : Int) * (r.den : Int)) (by omega) hp (by omega), e0]
    simp -implicitDefEqProofs only [fq, uN, List.length_cons, List.length_nil, if_true, Nat.zero_add, Nat.reduceAdd, li_some, bd_pu, x2, dSub_i, fe_rt, en, ed, Int.zero_sub, Int.neg_neg]
  · rw [decide_eq_false c, if_neg Bool.false_ne_true]
    simp -implicitDefEqProofs only [alow_q (q.num * r.den + r.num * q.den) ((q.den : Int) * (r.den : Int)) (by omega) hp (by omega), val, bd_pu, fe_rt]
    rfl
/-! books -/
structure OkBk (n : Nat) (ss : List (List Nat)) : Prop where
  lo : 1 ≤ n
  hi : n ≤ 10
  len : ss.length ≤ 16
  ne : ∀ s ∈ ss, s ≠ []
  lt : ∀ s ∈ ss, ∀ x ∈ s, x < n
  up : ∀ s ∈ ss, s.Pairwise (· < ·)
def tBk (n : Nat) (ss : List (List Nat)) : D := .tuple [cI n, .tuple (ss.map tN)]
theorem from_to_ok {a x b : Nat} (h1 : a ≤ x) (h2 : x ≤ b) : m_is_from_to (cI x) (cI a) (cI b) = pu (.bool true) := by
  unfold m_is_from_to
  simp -implicitDefEqProofs only [bd_pu, cI, isI_ii, tb_bool, if_true, isI_bi, Bool.not_false, dLe_i, li_some, decide_eq_true (show (a : Int) ≤ (x : Int) by omega), decide_eq_true (show (x : Int) ≤ (b : Int) by omega), Option.map_some, fe_rt]
theorem set_of_ok {n : Nat} {s : List Nat} (hn : 1 ≤ n) (hn2 : n ≤ 1000) (ne : s ≠ []) (lt : ∀ x ∈ s, x < n) (up : s.Pairwise (· < ·)) : m_is_set_of (cI n) (tN s) = pu (.bool true) := by
  have hl := len_rise up lt
  have e0 : dEq (tN s) (.tuple []) = some false := by rw [show dEq (tN s) (.tuple []) = _ from dEq_nil ((sh_tN s).mono (by decide)), decide_eq_false ne]
  have e1 : dSub (cI n) (.int 1) = some (cI (n - 1)) := dSub_c (b := 1) hn
  have e2 : isI "tuple" (tN s) = true := rfl
  have e3 : dRng2 (.int 1) (cI s.length) = some ((List.range' 1 (s.length - 1)).map cI) := by
    have : 1 ≤ s.length := by cases s with | nil => exact absurd rfl ne | cons => simp
    exact dRng2_c (a := 1) this (by omega)
  unfold m_is_set_of
  simp -implicitDefEqProofs only [bd_pu, e2, dTru_b, li_some, Bool.not_true, Bool.false_eq_true, if_false, e0, show dLst (tN s) = some (s.map cI) from rfl, e1]
  rw [mf_map (c := cI) (g := fun _ => .bool true) (fun x _ => rfl) fun x m => by
    have := lt x m
    simp -implicitDefEqProofs only [u1, li_some, bd_pu, x1, show m_is_from_to (cI x) (.int 0) (cI (n - 1)) = _ from from_to_ok (a := 0) (Nat.zero_le x) (by omega)]]
  simp -implicitDefEqProofs only [bd_pu, g1, dAll_true, li_some, dTru_b, Bool.not_true, Bool.false_eq_true, if_false, dLen_tN, e3]
  rw [mf_map (c := cI) (g := fun _ => .bool true) (fun x _ => rfl) fun i m => by
    have hi := List.mem_range'_1.mp m
    have a1 : i - 1 < s.length := by omega
    have a2 : i < s.length := by omega
    have e4 : dSub (cI i) (.int 1) = some (cI (i - 1)) := dSub_c (b := 1) (by omega)
    have hlt : s.getD (i - 1) 0 < s.getD i 0 := by
      have := List.pairwise_iff_getElem.mp up (i - 1) i a1 a2 (by omega)
      simp only [List.getD_eq_getElem?_getD, List.getElem?_eq_getElem a1, List.getElem?_eq_getElem a2, Option.getD_some]
      exact this
    simp -implicitDefEqProofs only [u1, li_some, bd_pu, x1, e4, dIdx_tN a1, dIdx_tN a2, dLt_c, decide_eq_true hlt, Option.map_some]]
  simp -implicitDefEqProofs only [bd_pu, dAll_true, li_some, fe_rt]
theorem need_book_ok {n : Nat} {ss : List (List Nat)} (h : OkBk n ss) : m_need_book (tBk n ss) = pu .none := by
  have e2 : dNe (.int ((2 : Nat) : Int)) (.int 2) = some false := rfl
  have n16 : ¬ (16 : Int) < (ss.length : Int) := by have := h.len; omega
  have ft : m_is_from_to (cI n) (.int 1) (.int 10) = pu (.bool true) := from_to_ok (a := 1) (b := 10) h.lo h.hi
  have h10 := h.hi
  unfold m_need_book m_is_book
  simp -implicitDefEqProofs only [bd_pu, tBk, isI_tt, dTru_b, li_some, Bool.not_true, Bool.false_eq_true, if_false, g1, dLen_t, List.length_cons, List.length_nil, Nat.zero_add, Nat.reduceAdd, e2, dIdx_t0, ft, uN, if_true, x2, List.length_map, dGt_i, n16, decide_false, dLst_t]
  rw [mf_map (c := tN) (g := fun _ => .bool true) (fun x _ => rfl) fun s m => by
    simp -implicitDefEqProofs only [u1, li_some, bd_pu, x1, set_of_ok h.lo (by omega) (h.ne s m) (h.lt s m) (h.up s m)]]
  simp -implicitDefEqProofs only [bd_pu, dAll_true, li_some, dTru_b, Bool.not_true, Bool.false_eq_true, if_false, fe_rt, fe_nx]
theorem need_draws_ok {n : Nat} {ss : List (List Nat)} (h : OkBk n ss) {ds : List Nat} (hd : ∀ x ∈ ds, x < n) (hl : ds.length ≤ 99) : m_need_draws (tBk n ss) (tN ds) = pu .none := by
  have n99 : ¬ (99 : Int) < (ds.length : Int) := by omega
  have e1 : dSub (cI n) (.int 1) = some (cI (n - 1)) := dSub_c (b := 1) h.lo
  have h1 := h.lo
  have e2 : isI "tuple" (tN ds) = true := rfl
  have e0 : dIdx (tBk n ss) (.int 0) = some (cI n) := dIdx_t0 _ _
  have e3 : dGt (cI ds.length) (.int 99) = some false := by
    have := dGt_c ds.length 99
    rw [decide_eq_false (by omega)] at this
    exact this
  unfold m_need_draws
  simp -implicitDefEqProofs only [bd_pu, e2, dTru_b, li_some, Bool.not_true, Bool.false_eq_true, if_false, g1, dLen_tN, e3, show dLst (tN ds) = some (ds.map cI) from rfl]
  rw [mf_map (c := cI) (g := fun _ => .bool true) (fun x _ => rfl) fun x m => by
    have := hd x m
    simp -implicitDefEqProofs only [u1, li_some, bd_pu, x1, e0, e1, show m_is_from_to (cI x) (.int 0) (cI (n - 1)) = _ from from_to_ok (a := 0) (Nat.zero_le x) (by omega)]]
  simp -implicitDefEqProofs only [bd_pu, dAll_true, li_some, dTru_b, Bool.not_true, Bool.false_eq_true, if_false, fe_nx]
/-- the sets that draws miss -/
def missF (ss : List (List Nat)) (ds : List Nat) : List (List Nat) := ss.filter fun s => s.all fun x => !decide (x ∈ ds)
theorem dNin_tN (x : Nat) (l : List Nat) : dNin (cI x) (tN l) = some (!decide (x ∈ l)) := by
  unfold dNin
  rw [dIn_tN]
  rfl
theorem missed_ok (n : Nat) (ss : List (List Nat)) (ds : List Nat) : m_missed (tBk n ss) (tN ds) = pu (.list ((missF ss ds).map tN)) := by
  have e1 : dIdx (tBk n ss) (.int 1) = some (.tuple (ss.map tN)) := dIdx_t1 _ _ _
  unfold m_missed
  simp -implicitDefEqProofs only [bd_pu, e1, li_some, dLst_t]
  rw [mf_filter (c := tN) (p := fun s => s.all fun x => !decide (x ∈ ds)) (g := tN) (fun s m => by
    simp -implicitDefEqProofs only [u1, li_some, bd_pu, x1, show dLst (tN s) = some (s.map cI) from rfl]
    rw [mf_map (c := cI) (g := fun x => .bool (!decide (x ∈ ds))) (fun x _ => rfl) fun x m => by
      simp -implicitDefEqProofs only [u1, li_some, bd_pu, x1, dNin_tN, Option.map_some]]
    simp -implicitDefEqProofs only [bd_pu, g1, dAll_mapf, li_some, dTru_b]) fun s m _ => by simp -implicitDefEqProofs only [u1, li_some, bd_pu, x1]]
  simp -implicitDefEqProofs only [bd_pu, fe_rt]
  rfl
theorem dEq_lc (l : List Nat) : dEq (.list (l.map cI)) (.list []) = some (decide (l = [])) := by
  have h1 : Sh 2 (.list (l.map cI)) := sh_list fun d m => by
    obtain ⟨n, _, rfl⟩ := List.mem_map.mp m
    exact sh_cI n
  have h2 : Sh 2 (.list []) := sh_list fun d m => by cases m
  rw [dEq_ll (h1.mono (by decide)) (h2.mono (by decide))]
  cases l with
  | nil => rfl
  | cons x l => simp [PyData.eqvAll]
theorem law_missed_ok (n : Nat) (ss : List (List Nat)) (ds : List Nat) : m__law_amissed (tBk n ss) (tN ds) = pu (.list ((missF ss ds).map tN)) := by
  have e1 : dIdx (tBk n ss) (.int 1) = some (.tuple (ss.map tN)) := dIdx_t1 _ _ _
  have e2 : ∀ s : List Nat, decide ((s.filter fun x => decide (x ∈ ds)) = []) = s.all fun x => !decide (x ∈ ds) := by
    intro s
    induction s with
    | nil => rfl
    | cons x s ih =>
      rw [List.all_cons, ← ih]
      by_cases c : x ∈ ds <;> simp [c]
  unfold m__law_amissed
  simp -implicitDefEqProofs only [bd_pu, e1, li_some, dLst_t]
  rw [mf_filter (c := tN) (p := fun s => s.all fun x => !decide (x ∈ ds)) (g := tN) (fun s m => by
    simp -implicitDefEqProofs only [u1, li_some, bd_pu, x1, show dLst (tN s) = some (s.map cI) from rfl]
    rw [mf_filter (c := cI) (p := fun x => decide (x ∈ ds)) (g := cI) (fun x m => by
      simp -implicitDefEqProofs only [u1, li_some, bd_pu, x1, dIn_tN]) fun x m _ => by simp -implicitDefEqProofs only [u1, li_some, bd_pu, x1]]
    simp -implicitDefEqProofs only [bd_pu, dEq_lc, e2]
    rfl) fun s m _ => by simp -implicitDefEqProofs only [u1, li_some, bd_pu, x1]]
  simp -implicitDefEqProofs only [bd_pu, fe_rt]
  rfl
/-- a drawn book -/
theorem tri_mffP {t : D → M Bool} {f : D → M D} {Q : List D → T → Prop} (I : T → Prop) (ds : List D) (hf : ∀ d ∈ ds, f d = pu d) {τ : T} (h0 : I τ)
    (hs : ∀ d ∈ ds, ∀ τ, I τ → Tri (t d) τ fun _ τ' => I τ') (hd : ∀ xs τ', xs.Sublist ds → I τ' → Q xs τ') : Tri (mf ds t f) τ Q :=
  tri_mff (fun _ => I) ds hf h0 (fun i d τ e h => hs d (List.mem_of_getElem? e) τ h) hd
theorem book_ok {p : Nat} {τ : T} (h : TA p τ) : Tri (m__law_abook p) τ fun d τ' => ∃ n ss, d = tBk n ss ∧ OkBk n ss ∧ TA p τ' ∧ τ'.length = τ.length := by
  have a1 : ∀ r, dAdd (.int 1) (cI r) = some (cI (1 + r)) := fun r => dAdd_c 1 r
  unfold m__law_abook
  simp -implicitDefEqProofs only [tri_fe, tri_bd, tri_pu]
  refine (digitN (m := 10) h (by decide) (by decide)).mono ?_
  rintro _ τ1 ⟨r1, rfl, h1, t1, l1⟩
  simp -implicitDefEqProofs only [a1, li_some, tri_pu]
  refine (digitN (m := 4) t1 (by decide) (by decide)).mono ?_
  rintro _ τ2 ⟨r2, rfl, h2, t2, l2⟩
  simp -implicitDefEqProofs only [a1, li_some, tri_pu, tri_sq, tri_bd]
  refine (digitN (m := 17) t2 (by decide) (by decide)).mono ?_
  rintro _ τ3 ⟨r3, rfl, h3, t3, l3⟩
  simp -implicitDefEqProofs only [rng_cI r3 (by omega), li_some, tri_pu]
  refine tri_fo (fun i s τ => ∃ ss : List (List Nat), s = ss.map tN ∧ ss.length = i ∧ (∀ s ∈ ss, s ≠ [] ∧ (∀ x ∈ s, x < 1 + r1) ∧ s.Pairwise (· < ·)) ∧ TA p τ ∧ τ.length = τ3.length) _ ⟨[], rfl, rfl, by simp, t3, rfl⟩ ?_ ?_
  · rintro i d s τ4 hd ⟨ss, rfl, hi, hss, t4, l4⟩
    have hlt : i < r3 := by
      have := (List.getElem?_eq_some_iff.mp hd).1
      simpa using this
    have ck1 : decide ((ss.map tN).length < 16777216) = true := decide_eq_true (by simp; omega)
    unfold m__law_abook_b1
    simp -implicitDefEqProofs only [u1, li_some, bd_pu, x1, tri_bd, tri_pu, rng_cI (1 + r1) (by omega)]
    refine tri_mffP (fun τ => TA p τ ∧ τ.length = τ4.length) _ (fun d m => by
      obtain ⟨x, _, rfl⟩ := List.mem_map.mp m
      rfl) ⟨t4, rfl⟩ ?_ ?_
    · rintro d m τ5 ⟨t5, l5⟩
      simp -implicitDefEqProofs only [u1, li_some, bd_pu, x1, tri_bd]
      refine (digitN (m := 5) t5 (by decide) (by decide)).mono ?_
      rintro _ τ6 ⟨r, rfl, _, t6, l6⟩
      simp -implicitDefEqProofs only [tri_pu, dLt_c, li_some]
      exact ⟨t6, by omega⟩
    · rintro xs τ5 hs ⟨t5, l5⟩
      obtain ⟨pl, hsub, rfl⟩ := List.sublist_map_iff.mp hs
      have hpw : pl.Pairwise (· < ·) := List.Pairwise.sublist hsub List.pairwise_lt_range
      have hpl : ∀ x ∈ pl, x < 1 + r1 := fun x m => List.mem_range.mp (hsub.subset m)
      rw [tri_sq]
      refine Tri.mono (Q := fun (f : Fl D (List D)) τ' => ∃ s : List Nat, f = .nx (.list (s.map cI)) ∧ (s ≠ [] ∧ (∀ x ∈ s, x < 1 + r1) ∧ s.Pairwise (· < ·)) ∧ TA p τ' ∧ τ'.length = τ5.length) ?_ ?_
      · simp -implicitDefEqProofs only [tri_bd, tri_pu, dEq_lc, li_some, tri_ite]
        by_cases c : pl = []
        · rw [decide_eq_true c, if_pos rfl]
          refine (digitN t5 (by omega) (by omega)).mono ?_
          rintro _ τ6 ⟨r, rfl, hr, t6, l6⟩
          exact ⟨[r], rfl, ⟨by simp, by simpa using hr, by simp⟩, t6, l6⟩
        · rw [decide_eq_false c, if_neg Bool.false_ne_true]
          exact ⟨pl, rfl, ⟨c, hpl, hpw⟩, t5, trivial⟩
      · rintro _ τ6 ⟨s, rfl, hs6, t6, l6⟩
        simp -implicitDefEqProofs only [sqk_nx, tri_bd, tri_pu, g1, dTup_l, li_some, ck1, tri_ck, true_and]
        refine ⟨ss ++ [s], by simp [tN], by simp [hi], fun x m => ?_, t6, by omega⟩
        rcases List.mem_append.mp m with m | m
        · exact hss x m
        · rw [List.mem_singleton.mp m]; exact hs6
  · rintro s τ4 ⟨ss, rfl, hi, hss, t4, l4⟩
    rw [List.length_map, List.length_range] at hi
    simp -implicitDefEqProofs only [sqk_nx, tri_bd, tri_pu, g1, dTup_l, li_some, feQ_rt]
    exact ⟨1 + r1, ss, rfl, ⟨by omega, by omega, by omega, fun s m => (hss s m).1, fun s m => (hss s m).2.1, fun s m => (hss s m).2.2⟩, t4, by omega⟩
end Q


set_option maxRecDepth 100000
set_option maxHeartbeats 1000000
namespace Q
open DL PySem PySem.Spec PyProof.Rows L2 RZ

/-! ### rounding -/
section
variable {ways : List Nat} {ss : List (List Nat)}
/-- the mean with a way of place i alone -/
def fS (ws : List Wi) (ways : List Nat) (ss : List (List Nat)) (i w : Nat) : Rat := mns (ss.set i (un (ways.getD i 0) w)) ws
/-- the best so far -/
def stB (f : Nat → Rat) (r : List Nat) (b : Option Nat) (w : Nat) : Option Nat :=
  if 0 < r.getD w 0 then (match b with
    | none => some w
    | some v => if f v < f w then some w else some v) else b
def bsB (f : Nat → Rat) (r : List Nat) (n : Nat) : Option Nat := (List.range n).foldl (stB f r) none
theorem bsB_succ (f : Nat → Rat) (r : List Nat) (n : Nat) : bsB f r (n + 1) = stB f r (bsB f r n) n := by
  unfold bsB
  rw [List.range_succ, List.foldl_append]
  rfl
theorem bsB_key (f : Nat → Rat) (r : List Nat) : ∀ n : Nat, (∀ v, bsB f r n = some v → v < n ∧ 0 < r.getD v 0 ∧ ∀ w, w < n → 0 < r.getD w 0 → f w ≤ f v) ∧ (bsB f r n = none → ∀ w, w < n → r.getD w 0 = 0)
  | 0 => ⟨fun v h => by simp [bsB] at h, fun _ w hw => by omega⟩
  | n + 1 => by
    obtain ⟨a, b⟩ := bsB_key f r n
    rw [bsB_succ]
    unfold stB
    by_cases hp : 0 < r.getD n 0
    · rw [if_pos hp]
      cases e : bsB f r n with
      | none =>
        have b := b e
        refine ⟨fun v h => ?_, fun h => by simp at h⟩
        cases h
        refine ⟨by omega, hp, fun w hw hpw => ?_⟩
        by_cases c : w = n
        · subst c; exact Rat.le_refl
        · have := b w (by omega); omega
      | some u =>
        obtain ⟨u1, u2, u3⟩ := a u e
        by_cases c : f u < f n
        · simp only [c, if_true]
          refine ⟨fun v h => ?_, fun h => by simp at h⟩
          cases h
          refine ⟨by omega, hp, fun w hw hpw => ?_⟩
          by_cases d : w = n
          · subst d; exact Rat.le_refl
          · exact Rat.le_trans (u3 w (by omega) hpw) (Rat.le_of_lt c)
        · simp only [c, if_false]
          refine ⟨fun v h => ?_, fun h => by simp at h⟩
          cases h
          refine ⟨by omega, u2, fun w hw hpw => ?_⟩
          by_cases d : w = n
          · subst d; exact Rat.not_lt.mp c
          · exact u3 w (by omega) hpw
    · rw [if_neg hp]
      refine ⟨fun v h => ?_, fun h w hw => ?_⟩
      · obtain ⟨u1, u2, u3⟩ := a v h
        refine ⟨by omega, u2, fun w hw hpw => ?_⟩
        by_cases d : w = n
        · subst d; exact absurd hpw hp
        · exact u3 w (by omega) hpw
      · by_cases d : w = n
        · subst d; omega
        · exact b h w (by omega)
theorem sum_zero : ∀ {r : List Nat}, (∀ w, w < r.length → r.getD w 0 = 0) → r.sum = 0
  | [], _ => rfl
  | x :: r, h => by
    have h1 := h 0 (by simp)
    have h2 := sum_zero (r := r) fun w hw => by have := h (w + 1) (by simp; omega); simpa using this
    rw [List.sum_cons, h2]
    simpa using h1
theorem bsB_some (f : Nat → Rat) {r : List Nat} (h : 0 < r.sum) : ∃ v, bsB f r r.length = some v ∧ v < r.length ∧ 0 < r.getD v 0 ∧ ∀ w, w < r.length → 0 < r.getD w 0 → f w ≤ f v := by
  obtain ⟨a, b⟩ := bsB_key f r r.length
  cases e : bsB f r r.length with
  | none => have := sum_zero (b e); omega
  | some v => exact ⟨v, rfl, a v e⟩
def bsW (f : Nat → Rat) (r : List Nat) : Nat := (bsB f r r.length).getD 0
/-- the best way is no less than the mean -/
theorem qw_le {r : List Nat} {f : Nat → Rat} {c : Rat} (h : ∀ w, w < r.length → 0 < r.getD w 0 → f w ≤ c) : qw r f ≤ ((r.sum : Nat) : Rat) * c := by
  rw [← qw_const]
  unfold qw
  refine qs_le fun x hx => ?_
  by_cases e : 0 < r.getD x 0
  · have h1 := h x hx e
    have h2 : (0 : Rat) ≤ ((r.getD x 0 : Nat) : Rat) := by
      rw [← Rat.intCast_natCast]
      exact_mod_cast Rat.intCast_le_intCast.mpr (show (0 : Int) ≤ (r.getD x 0 : Int) by omega)
    exact Rat.mul_le_mul_of_nonneg_left h1 h2
  · have : r.getD x 0 = 0 := by omega
    rw [this]
    show (0 : Rat) * _ ≤ (0 : Rat) * _
    rw [Rat.zero_mul, Rat.zero_mul]
    exact Rat.le_refl
theorem best_ge (h : OkSh ways ss) {i : Nat} (hi : i < ways.length) {ws : List Wi} (hv : ∀ w ∈ ws, OkW ways w) : mns ss ws ≤ fS ws ways ss i (bsW (fS ws ways ss i) (rowS ss i)) := by
  have hp := h.pos _ (row_mem h hi).1
  obtain ⟨v, e, _, _, hm⟩ := bsB_some (fS ws ways ss i) hp
  have e2 : bsW (fS ws ways ss i) (rowS ss i) = v := by unfold bsW; rw [e]; rfl
  rw [e2]
  have h1 := qw_le (f := fS ws ways ss i) hm
  have h2 := mns_on h hi hv
  unfold fS at h1 ⊢
  rw [h2] at h1
  have : (0 : Rat) < (((rowS ss i).sum : Nat) : Rat) := by
    rw [← Rat.intCast_natCast]
    exact_mod_cast Rat.intCast_lt_intCast.mpr (show (0 : Int) < ((rowS ss i).sum : Int) by omega)
  exact Rat.le_of_mul_le_mul_left h1 this
/-- place by place -/
def rdS (ws : List Wi) (ways : List Nat) (p : List (List Nat) × List Nat) (i : Nat) : List (List Nat) × List Nat :=
  (p.1.set i (un (ways.getD i 0) (bsW (fS ws ways p.1 i) (rowS p.1 i))), p.2 ++ [bsW (fS ws ways p.1 i) (rowS p.1 i)])
def rdN (ws : List Wi) (ways : List Nat) (ss : List (List Nat)) (n : Nat) : List (List Nat) × List Nat := (List.range n).foldl (rdS ws ways) (ss, [])
theorem rdN_succ (ws : List Wi) (ways : List Nat) (ss : List (List Nat)) (n : Nat) : rdN ws ways ss (n + 1) = rdS ws ways (rdN ws ways ss n) n := by
  unfold rdN
  rw [List.range_succ, List.foldl_append]
  rfl
theorem bsW_ok (h : OkSh ways ss) {i : Nat} (hi : i < ways.length) (f : Nat → Rat) : bsB f (rowS ss i) (ways.getD i 0) = some (bsW f (rowS ss i)) ∧ bsW f (rowS ss i) < ways.getD i 0 ∧ 0 < (rowS ss i).getD (bsW f (rowS ss i)) 0 := by
  have hr : (rowS ss i).length = ways.getD i 0 := h.row i hi
  obtain ⟨v, e, h1, h2, _⟩ := bsB_some f (h.pos _ (row_mem h hi).1)
  have e2 : bsW f (rowS ss i) = v := by unfold bsW; rw [e]; rfl
  rw [e2, ← hr]
  exact ⟨e, h1, h2⟩
structure RdOk (ways : List Nat) (ss : List (List Nat)) (n : Nat) (p : List (List Nat) × List Nat) : Prop where
  sh : OkSh ways p.1
  len : p.2.length = n
  b : OkB ways p.2
  un : ∀ i, i < n → rowS p.1 i = un (ways.getD i 0) (p.2.getD i 0)
  rest : ∀ i, n ≤ i → rowS p.1 i = rowS ss i
theorem rdN_ok (h : OkSh ways ss) (ws : List Wi) : ∀ n : Nat, n ≤ ways.length → RdOk ways ss n (rdN ws ways ss n)
  | 0, _ => ⟨h, rfl, okB_nil ways, fun i hi => by omega, fun i _ => rfl⟩
  | n + 1, hn => by
    have ih := rdN_ok h ws n (by omega)
    rw [rdN_succ]
    generalize rdN ws ways ss n = p at *
    obtain ⟨ss', f⟩ := p
    have hl : n < ss'.length := by have := ih.sh.len; dsimp only at this; omega
    obtain ⟨_, b1, _⟩ := bsW_ok ih.sh (by omega : n < ways.length) (fS ws ways ss' n)
    have lf : f.length = n := ih.len
    unfold rdS
    refine ⟨okSh_set ih.sh (by omega) b1, by simp [lf], ?_, fun i hi => ?_, fun i hi => ?_⟩
    · have := okB_snoc (b := f) ih.b (by omega) (x := bsW (fS ws ways ss' n) (rowS ss' n)) (by rw [lf]; exact b1)
      exact this
    · show rowS (ss'.set n _) i = _
      rw [rowS_set n i _ hl]
      by_cases e : i = n
      · subst e
        rw [if_pos rfl]
        congr 1
        show _ = (f ++ [_]).getD i 0
        rw [List.getD_eq_getElem?_getD, List.getElem?_append_right (by omega), lf]
        simp
      · rw [if_neg e]
        have := ih.un i (by omega)
        rw [this]
        congr 1
        show f.getD i 0 = (f ++ [_]).getD i 0
        rw [List.getD_eq_getElem?_getD, List.getD_eq_getElem?_getD, List.getElem?_append_left (by omega)]
    · show rowS (ss'.set n _) i = _
      rw [rowS_set n i _ hl, if_neg (by omega)]
      exact ih.rest i (by omega)
def rnd (ws : List Wi) (ways : List Nat) (ss : List (List Nat)) : List Nat := (rdN ws ways ss ways.length).2
theorem rnd_ok (h : OkSh ways ss) (ws : List Wi) : OkC ways (rnd ws ways ss) := by
  have := rdN_ok h ws ways.length (Nat.le_refl _)
  exact ⟨this.b, this.len⟩
theorem rnd_worth (h : OkSh ways ss) {ws : List Wi} (hv : ∀ w ∈ ws, OkW ways w) : mns (rdN ws ways ss ways.length).1 ws = (wo (rnd ws ways ss) ws : Nat) := by
  have := rdN_ok h ws ways.length (Nat.le_refl _)
  exact mns_full this.sh.len (rnd_ok h ws) this.un hv
theorem rdN_le (h : OkSh ways ss) {ws : List Wi} (hv : ∀ w ∈ ws, OkW ways w) : ∀ n : Nat, n ≤ ways.length → mns ss ws ≤ mns (rdN ws ways ss n).1 ws
  | 0, _ => Rat.le_refl
  | n + 1, hn => by
    have ih := rdN_le h hv n (by omega)
    have ok := rdN_ok h ws n (by omega)
    rw [rdN_succ]
    exact Rat.le_trans ih (best_ge ok.sh (by omega) hv)
/-! what the program tells -/
def encB (f : Nat → Rat) : Option Nat → D
  | none => .none
  | some v => .tuple [fq (f v), cI v]
theorem rounded_b1_ok (h : OkSh ways ss) {ws : List Wi} (hs : OkS ways ws) {l : List D} {i : Nat} (hi : i < ways.length) (b : Option Nat) (hb : ∀ v, b = some v → v < ways.getD i 0) {w : Nat} (hw : w < ways.getD i 0) :
    m_rounded_b1 (tSh ss, l) (cI i) (tS ways ws) (encB (fS ws ways ss i) b) (cI w) = pu (.nx (encB (fS ws ways ss i) (stB (fS ws ways ss i) (rowS ss i) b w))) := by
  have e1 : dIdx (tSh ss) (cI i) = some (tN (rowS ss i)) := dIdx_tm (row_mem h hi).2
  have hr : (rowS ss i).length = ways.getD i 0 := h.row i hi
  have e2 : dIdx (tN (rowS ss i)) (cI w) = some (cI ((rowS ss i).getD w 0)) := dIdx_tN (by rw [hr]; exact hw)
  have e3 : dGt (cI ((rowS ss i).getD w 0)) (.int 0) = some (decide (0 < (rowS ss i).getD w 0)) := dGt_c _ 0
  have a1 := with_alone_ok (ws := ws) hs.wy h.len hi (w := w)
  have m1 := mean_in_shares_ok (okSh_set h hi hw) hs
  unfold m_rounded_b1
  simp only [u1, li_some, bd_pu, x1, e1, e2, e3]
  by_cases hp : 0 < (rowS ss i).getD w 0
  · have s1 := smq_mns (okSh_set h hi hw) hs
    rw [decide_eq_true hp, if_pos rfl, a1]
    simp only [bd_pu, m1]
    unfold stB
    rw [if_pos hp]
    cases b with
    | none =>
      simp only [encB, dIs, li_some, bd_pu, if_true, sq_nx]
      rfl
    | some v =>
      have s2 := smq_mns (okSh_set h hi (hb v rfl)) hs
      have l1 := less_q (mns (ss.set i (un (ways.getD i 0) v)) ws) (mns (ss.set i (un (ways.getD i 0) w)) ws) (by decide)
      have n1 : dIs (PyData.tuple [fq (fS ws ways ss i v), cI v]) .none = some false := rfl
      have i0 : dIdx (PyData.tuple [fq (fS ws ways ss i v), cI v]) (.int 0) = some (fq (mns (ss.set i (un (ways.getD i 0) v)) ws)) := dIdx_t0 _ _
      simp only [encB, n1, i0, li_some, bd_pu, Bool.false_eq_true, if_false, l1, dTru_b]
      by_cases c : fS ws ways ss i v < fS ws ways ss i w
      · have c' : mns (ss.set i (un (ways.getD i 0) v)) ws < mns (ss.set i (un (ways.getD i 0) w)) ws := c
        rw [decide_eq_true c', if_pos rfl, if_pos c]
        rfl
      · have c' : ¬ mns (ss.set i (un (ways.getD i 0) v)) ws < mns (ss.set i (un (ways.getD i 0) w)) ws := c
        rw [decide_eq_false c', if_neg Bool.false_ne_true, if_neg c]
        rfl
  · rw [decide_eq_false hp, if_neg Bool.false_ne_true]
    unfold stB
    rw [if_neg hp]
    rfl
/-- a fold over ways -/
theorem best_loop {L : Type} {body : D → D → M (Fl D D)} {f : Nat → Rat} {r : List Nat} {m : Nat} (hb : ∀ (b : Option Nat) (w : Nat), (∀ v, b = some v → v < m) → w < m → body (encB f b) (cI w) = pu (.nx (encB f (stB f r b w)))) :
    fo (L := L) body ((List.range m).map cI) PyData.none = pu (.nx (encB f (bsB f r m))) := by
  have := fo_enc (L := L) (body := body) (enc := encB f) (c := cI) (G := stB f r) (fun b => ∀ v, b = some v → v < m) (xs := List.range m) (s := none) (fun v h => by cases h) fun b w mw hv => by
    have hw := List.mem_range.mp mw
    refine ⟨hb b w hv hw, fun v e => ?_⟩
    unfold stB at e
    split at e
    · split at e
      · cases e; exact hw
      · split at e
        · cases e; exact hw
        · cases e; exact hv _ rfl
    · exact hv v e
  exact this.1
theorem rounded_b2_ok (h : OkSh ways ss) {ws : List Wi} (hs : OkS ways ws) {f : List Nat} (hf : f.length ≤ 100) {i : Nat} (hi : i < ways.length) :
    m_rounded_b2 (tS ways ws) (tSh ss, f.map cI) (cI i) = pu (.nx (tSh (rdS ws ways (ss, f) i).1, (rdS ws ways (ss, f) i).2.map cI)) := by
  obtain ⟨e1, e2, e3⟩ := bsW_ok h hi (fS ws ways ss i)
  have h4 := ways_hi hs.wy hi
  have ck1 : decide ((f.map cI).length < 16777216) = true := decide_eq_true (by rw [List.length_map]; omega)
  have lo := best_loop (L := D × List D) (body := m_rounded_b1 (tSh ss, f.map cI) (cI i) (tS ways ws)) (f := fS ws ways ss i) (r := rowS ss i) (m := ways.getD i 0) fun b w hb hw => rounded_b1_ok h hs hi b hb hw
  rw [e1] at lo
  have i1 : dIdx (encB (fS ws ways ss i) (some (bsW (fS ws ways ss i) (rowS ss i)))) (.int 1) = some (cI (bsW (fS ws ways ss i) (rowS ss i))) := dIdx_t1 _ _ _
  unfold m_rounded_b2
  simp only [u1, li_some, bd_pu, x1, dIdx_S0, dIdx_tN hi, rng_cI _ (by omega : ways.getD i 0 ≤ 16777216), lo, sq_nx, i1, ck1, ck_true]
  rw [with_alone_ok hs.wy h.len hi]
  simp only [bd_pu]
  unfold rdS
  rw [List.map_append]
  rfl
theorem rounded_ok (h : OkSh ways ss) {ws : List Wi} (hs : OkS ways ws) : m_rounded (tS ways ws) (tSh ss) = pu (tN (rnd ws ways ss)) := by
  have hl := hs.wy.len
  have key : ∀ n k : Nat, k + n = ways.length → fo (L := Empty) (m_rounded_b2 (tS ways ws)) ((List.range' k n).map cI) (tSh (rdN ws ways ss k).1, (rdN ws ways ss k).2.map cI) = pu (.nx (tSh (rdN ws ways ss (k + n)).1, (rdN ws ways ss (k + n)).2.map cI)) := by
    intro n
    induction n with
    | zero => intro k _; rfl
    | succ n ih =>
      intro k hk
      have ok := rdN_ok h ws k (by omega)
      have st := rounded_b2_ok ok.sh hs (f := (rdN ws ways ss k).2) (by rw [ok.len]; omega) (by omega : k < ways.length)
      have ih := ih (k + 1) (by omega)
      rw [rdN_succ, show k + 1 + n = k + (n + 1) by omega] at ih
      rw [List.range'_succ, List.map_cons, fo, st, bd_pu]
      exact ih
  have q := key ways.length 0 (by omega)
  rw [← List.range_eq_range', Nat.zero_add] at q
  unfold m_rounded
  simp only [bd_pu, need_shares_ok hs h, dIdx_S0, li_some, g1, dLen_tN, rng_cI _ (by omega : ways.length ≤ 16777216)]
  rw [show (tSh ss, ([] : List D)) = (tSh (rdN ws ways ss 0).1, (rdN ws ways ss 0).2.map cI) from rfl, q]
  simp only [sq_nx, bd_pu, g1, dTup_l, li_some, fe_rt]
  rfl
theorem ways_by_ok (h : OkSh ways ss) {ws : List Wi} (hs : OkS ways ws) {i : Nat} (hi : i < ways.length) : m_ways_by (tS ways ws) (tSh ss) (cI i) = pu (.list ((List.range (ways.getD i 0)).map fun w => fq (fS ws ways ss i w))) := by
  have h4 := ways_hi hs.wy hi
  have c1 : isI "int" (cI i) = true := rfl
  have c2 : isI "bool" (cI i) = false := rfl
  have c3 : dLe (.int 0) (cI i) = some true := by rw [show PyData.int 0 = cI 0 from rfl, dLe_c, decide_eq_true (by omega)]
  have c4 : dLt (cI i) (cI ways.length) = some true := by rw [dLt_c, decide_eq_true hi]
  unfold m_ways_by
  simp only [bd_pu, need_shares_ok hs h, c1, c2, dTru_b, li_some, Bool.not_true, Bool.false_eq_true, if_false, c3, if_true, dIdx_S0, g1, dLen_tN, c4, dIdx_tN hi, rng_cI _ (by omega : ways.getD i 0 ≤ 16777216)]
  rw [mf_map (c := cI) (g := fun w => fq (fS ws ways ss i w)) (fun x _ => rfl) fun w mw => by
    have hw := List.mem_range.mp mw
    simp only [u1, li_some, bd_pu, x1, with_alone_ok hs.wy h.len hi, mean_in_shares_ok (okSh_set h hi hw) hs]
    rfl]
  simp only [bd_pu, fe_rt]
end

/-! ### shares drawn -/
theorem setD_N {l : List Nat} {i v : Nat} (h : i < l.length) : setD (l.map cI) (cI i) (cI v) = some ((l.set i v).map cI) := by
  have e : ixN (l.map cI).length (i : Int) = some i := by
    unfold ixN
    rw [if_pos (by omega), if_pos (by rw [List.length_map]; omega), Int.toNat_natCast]
  show (ixN (l.map cI).length (i : Int)).map _ = _
  rw [e, List.map_set]
  rfl
theorem set_le {l : List Nat} {i v : Nat} (h : ∀ x ∈ l, x ≤ 99) (hv : v ≤ 99) : ∀ x ∈ l.set i v, x ≤ 99 := fun x m => by
  rcases List.mem_or_eq_of_mem_set m with m | rfl
  · exact h x m
  · exact hv
theorem set_pos : ∀ {l : List Nat} {i v : Nat}, i < l.length → 0 < v → 0 < (l.set i v).sum
  | x :: l, 0, v, _, hv => by simp; omega
  | x :: l, i + 1, v, h, hv => by
    have := set_pos (l := l) (i := i) (v := v) (by simpa using h) hv
    simp
    omega
theorem min2_c (a b : Nat) : dMin2 (cI a) (cI b) = some (cI (min a b)) := by
  show some (PyData.int _) = _
  unfold cI
  congr 2
  split <;> omega
theorem ashares_ok {p : Nat} {τ : T} (h : TA p τ) {ways : List Nat} (hw : OkWays ways) {d : D} (hd : dIdx d (.int 0) = some (tN ways)) : Tri (m__law_ashares p d) τ fun e τ' => ∃ ss, e = tSh ss ∧ OkSh ways ss ∧ TA p τ' ∧ τ'.length = τ.length := by
  have h10 := hw.len
  unfold m__law_ashares
  simp -implicitDefEqProofs only [tri_fe, tri_bd, tri_pu, hd, li_some]
  refine (digitN (m := 4) h (by decide) (by decide)).mono ?_
  rintro _ τ1 ⟨kd, rfl, h1, t1, l1⟩
  simp -implicitDefEqProofs only [hd, li_some, tri_pu, tri_sq, tri_bd]
  simp -implicitDefEqProofs only [tN, dLst_t, li_some, tri_pu]
  refine tri_fo (fun i s τ => ∃ ss : List (List Nat), s = ss.map tN ∧ ss.length = i ∧ (∀ j, j < i → (ss.getD j []).length = ways.getD j 0) ∧ (∀ r ∈ ss, ∀ x ∈ r, x ≤ 99) ∧ (∀ r ∈ ss, 0 < r.sum) ∧ TA p τ ∧ τ.length = τ1.length) _ ⟨[], rfl, rfl, fun j hj => by omega, by simp, by simp, t1, rfl⟩ ?_ ?_
  · rintro i d s τ2 hdd ⟨ss, rfl, hi, hrow, hhi, hpos, t2, l2⟩
    have hlt : i < ways.length := by
      have := (List.getElem?_eq_some_iff.mp hdd).1
      simpa using this
    have ed : d = cI (ways.getD i 0) := by
      rw [List.getElem?_map, get_D hlt] at hdd
      exact (Option.some.inj hdd).symm
    subst ed
    have h4 := ways_hi hw hlt
    have ck1 : decide ((ss.map tN).length < 16777216) = true := decide_eq_true (by simp; omega)
    unfold m__law_ashares_b2
    simp -implicitDefEqProofs only [u1, li_some, bd_pu, x1, tri_bd, tri_pu, rng_cI _ (by omega : ways.getD i 0 ≤ 16777216), tri_sq]
    refine tri_fo (fun j s τ => ∃ r : List Nat, s = r.map cI ∧ r.length = j ∧ (∀ x ∈ r, x ≤ 99) ∧ TA p τ ∧ τ.length = τ1.length) _ ⟨[], rfl, rfl, by simp, t2, l2⟩ ?_ ?_
    · rintro j d s τ3 hd3 ⟨r, rfl, hj, hr, t3, l3⟩
      have hjl : j < ways.getD i 0 := by
        have := (List.getElem?_eq_some_iff.mp hd3).1
        simpa using this
      have ck2 : decide ((r.map cI).length < 16777216) = true := decide_eq_true (by simp; omega)
      unfold m__law_ashares_b1
      simp -implicitDefEqProofs only [u1, li_some, bd_pu, x1, tri_bd, tri_pu]
      refine (digitN (m := 3) t3 (by decide) (by decide)).mono ?_
      rintro _ τ4 ⟨few, rfl, hf, t4, l4⟩
      refine (digitN (m := 100) t4 (by decide) (by decide)).mono ?_
      rintro _ τ5 ⟨dg, rfl, hg, t5, l5⟩
      have e5 : g2 dMin2 [.int 1, cI few] = some (cI (min 1 few)) := min2_c 1 few
      have e6 : dMul (.int 99) (cI (min 1 few)) = some (cI (99 * min 1 few)) := dMul_c (a := 99) (m := 7) (n := 2) (by decide) (by omega) (by decide)
      obtain ⟨v, ev, hv⟩ : ∃ v, dIdx (.list [.int 1, cI few, cI dg, cI (99 * min 1 few)]) (cI kd) = some (cI v) ∧ v ≤ 99 := by
        have : kd = 0 ∨ kd = 1 ∨ kd = 2 ∨ kd = 3 := by omega
        rcases this with rfl | rfl | rfl | rfl
        · exact ⟨1, rfl, by omega⟩
        · exact ⟨few, rfl, by omega⟩
        · exact ⟨dg, rfl, by omega⟩
        · exact ⟨99 * min 1 few, rfl, by omega⟩
      simp -implicitDefEqProofs only [e5, e6, li_some, tri_pu, ev, ck2, tri_ck, true_and]
      refine ⟨r ++ [v], by simp, by simp [hj], fun x m => ?_, t5, by omega⟩
      rcases List.mem_append.mp m with m | m
      · exact hr x m
      · rw [List.mem_singleton.mp m]; exact hv
    · rintro s τ3 ⟨r, rfl, hj, hr, t3, l3⟩
      rw [List.length_map, List.length_range] at hj
      have es : dSum (.list (r.map cI)) = some (cI r.sum) := dSum_tN r
      have e0 : dEq (cI r.sum) (.int 0) = some (decide (r.sum = 0)) := dEq_c _ 0
      simp -implicitDefEqProofs only [sqk_nx]
      rw [tri_sq]
      refine Tri.mono (Q := fun (f : Fl D (List D)) τ' => ∃ r : List Nat, f = .nx (.list (r.map cI)) ∧ r.length = ways.getD i 0 ∧ (∀ x ∈ r, x ≤ 99) ∧ 0 < r.sum ∧ TA p τ' ∧ τ'.length = τ1.length) ?_ ?_
      · simp -implicitDefEqProofs only [tri_bd, tri_pu, g1, es, e0, li_some, tri_ite]
        by_cases c : r.sum = 0
        · rw [decide_eq_true c, if_pos rfl]
          refine (digitN (m := 3) t3 (by decide) (by decide)).mono ?_
          rintro _ τ4 ⟨k3, rfl, hk3, t4, l4⟩
          obtain ⟨v, ev, v1, v2⟩ : ∃ v, dIdx (.list [.int 1, .int 99, .int 7]) (cI k3) = some (cI v) ∧ v ≤ 99 ∧ 0 < v := by
            have : k3 = 0 ∨ k3 = 1 ∨ k3 = 2 := by omega
            rcases this with rfl | rfl | rfl
            · exact ⟨1, rfl, by omega, by omega⟩
            · exact ⟨99, rfl, by omega, by omega⟩
            · exact ⟨7, rfl, by omega, by omega⟩
          simp -implicitDefEqProofs only [ev, li_some, tri_pu]
          refine (digitN t4 (by omega) (by omega)).mono ?_
          rintro _ τ5 ⟨q, rfl, hq, t5, l5⟩
          simp -implicitDefEqProofs only [setD_N (show q < r.length by omega), li_some, tri_pu]
          exact ⟨r.set q v, rfl, by rw [List.length_set, hj], set_le hr v1, set_pos (by omega) v2, t5, by omega⟩
        · rw [decide_eq_false c, if_neg Bool.false_ne_true]
          exact ⟨r, rfl, hj, hr, by omega, t3, l3⟩
      · rintro _ τ4 ⟨r, rfl, hj, hr, hps, t4, l4⟩
        simp -implicitDefEqProofs only [sqk_nx, tri_bd, tri_pu, g1, dTup_l, li_some, ck1, tri_ck, true_and]
        refine ⟨ss ++ [r], by simp [tN], by simp [hi], fun j hjj => ?_, fun x m => ?_, fun x m => ?_, t4, by omega⟩
        · by_cases e : j < i
          · have := hrow j e
            rw [List.getD_eq_getElem?_getD] at this ⊢
            rw [List.getElem?_append_left (by omega)]
            exact this
          · have : j = i := by omega
            subst this
            rw [List.getD_eq_getElem?_getD, List.getElem?_append_right (by omega), hi]
            simpa using hj
        · rcases List.mem_append.mp m with m | m
          · exact hhi x m
          · rw [List.mem_singleton.mp m]; exact hr
        · rcases List.mem_append.mp m with m | m
          · exact hpos x m
          · rw [List.mem_singleton.mp m]; exact hps
  · rintro s τ2 ⟨ss, rfl, hi, hrow, hhi, hpos, t2, l2⟩
    rw [List.length_map] at hi
    simp -implicitDefEqProofs only [sqk_nx, tri_bd, tri_pu, g1, dTup_l, li_some, feQ_rt]
    exact ⟨ss, rfl, ⟨hi, fun j hj => hrow j (by rw [List.length_map]; exact hj), hhi, hpos⟩, t2, by omega⟩
end Q


set_option maxRecDepth 100000
set_option maxHeartbeats 1000000
namespace Q
open DL PySem PySem.Spec PyProof.Rows L2 RZ

/-! ### sheets of the a-laws, drawn (printed by awish.py but for the last) -/
theorem asheet_part {p : Nat} {ways : List Nat} (hw : OkWays ways) (z : D) {often i : Nat} (ho : often ≤ 10) (hi : i < ways.length) {L : Nat} {ps : List (Nat × List Nat)} (ok : ∀ q ∈ ps, OkP ways q) (up : (ps.map Prod.fst).Pairwise (· < ·)) (lt : ∀ q ∈ ps, q.1 < i) (hl : ps.length ≤ i) {τ : T} (t : TA p τ) (hL : τ.length = L) :
    Tri (m__law_asheet_b1 p (cI often) (ways.map cI, z) (ps.map tP) (cI i)) τ fun f τ' => ∃ ps : List (Nat × List Nat), f = .nx (ps.map tP) ∧ (∀ q ∈ ps, OkP ways q) ∧ (ps.map Prod.fst).Pairwise (· < ·) ∧ (∀ q ∈ ps, q.1 < i + 1) ∧ ps.length ≤ i + 1 ∧ TA p τ' ∧ τ'.length = L := by
  have h10 := hw.len
  have h4 := ways_hi hw hi
  have ew : dIdx (.list (ways.map cI)) (cI i) = some (cI (ways.getD i 0)) := by first | exact dIdx_lm (get_D hi) | exact dIdx_tN hi
  have ck1 : decide ((ps.map tP).length < 16777216) = true := decide_eq_true (by rw [List.length_map]; omega)
  unfold m__law_asheet_b1
  simp -implicitDefEqProofs only [u1, li_some, bd_pu, x1]
  rw [tri_sq]
  refine Tri.mono (Q := fun (f : Fl (List D) (List D)) τ' => ∃ ps : List (Nat × List Nat), f = .nx (ps.map tP) ∧ (∀ q ∈ ps, OkP ways q) ∧ (ps.map Prod.fst).Pairwise (· < ·) ∧ (∀ q ∈ ps, q.1 < i + 1) ∧ ps.length ≤ i + 1 ∧ TA p τ' ∧ τ'.length = L) ?_ ?_
  · simp -implicitDefEqProofs only [tri_bd]
    refine (digitN (m := 5) t (by decide) (by decide)).mono ?_
    rintro _ τ1 ⟨r, rfl, hr, t1, l1⟩
    simp -implicitDefEqProofs only [tri_pu, dLt_c, li_some, tri_ite]
    by_cases c : r < often
    · rw [decide_eq_true c, if_pos rfl]
      simp -implicitDefEqProofs only [tri_bd, tri_pu, ew, li_some, rng_cI _ (by omega : ways.getD i 0 ≤ 16777216)]
      refine tri_mffP (fun τ => TA p τ ∧ τ.length = L) _ (fun d m => by
        obtain ⟨x, _, rfl⟩ := List.mem_map.mp m
        rfl) ⟨t1, by omega⟩ ?_ ?_
      · rintro d m τ2 ⟨t2, l2⟩
        simp -implicitDefEqProofs only [u1, li_some, bd_pu, x1, tri_bd]
        refine (digitN (m := 2) t2 (by decide) (by decide)).mono ?_
        rintro _ τ3 ⟨q, rfl, _, t3, l3⟩
        have e1 : dEq (cI q) (.int 1) = some (decide (q = 1)) := dEq_c q 1
        simp -implicitDefEqProofs only [tri_pu, e1, li_some]
        exact ⟨t3, by omega⟩
      · rintro xs τ2 hs ⟨t2, l2⟩
        obtain ⟨pl, hsub, rfl⟩ := List.sublist_map_iff.mp hs
        have hpw : pl.Pairwise (· < ·) := List.Pairwise.sublist hsub List.pairwise_lt_range
        have hpl : ∀ x ∈ pl, x < ways.getD i 0 := fun x m => List.mem_range.mp (hsub.subset m)
        simp -implicitDefEqProofs only [tri_pu, g1, dTup_l, li_some, ck1, tri_ck, true_and]
        refine ⟨ps ++ [(i, pl)], by simp [tP, tN], fun q m => ?_, ?_, fun q m => ?_, by simp; omega, t2, l2⟩
        · rcases List.mem_append.mp m with m | m
          · exact ok q m
          · rw [List.mem_singleton.mp m]; exact ⟨hi, hpl, hpw⟩
        · rw [List.map_append, List.pairwise_append]
          refine ⟨up, by simp, fun a ma b mb => ?_⟩
          obtain ⟨q, mq, rfl⟩ := List.mem_map.mp ma
          have := lt q mq
          simp at mb
          omega
        · rcases List.mem_append.mp m with m | m
          · have := lt q m; omega
          · rw [List.mem_singleton.mp m]; show i < i + 1; omega
    · rw [decide_eq_false c, if_neg Bool.false_ne_true]
      exact ⟨ps, rfl, ok, up, fun q m => by have := lt q m; omega, by omega, t1, by omega⟩
  · rintro _ τ1 ⟨ps, rfl, h1, h2, h3, h4, h5, h6⟩
    simp -implicitDefEqProofs only [sqk_nx, tri_pu]
    exact ⟨ps, rfl, h1, h2, h3, h4, h5, h6⟩
theorem asheet_wish {p : Nat} {ways : List Nat} (hw : OkWays ways) (z : D) {often : Nat} (ho : often ≤ 10) {k : D} {ws : List Wi} (ok : ∀ w ∈ ws, OkW ways w) (hl : ws.length ≤ 100) {τ : T} (t : TA p τ) {L : Nat} (hL : τ.length = L) :
    Tri (m__law_asheet_b2 p (ways.map cI, z) (cI often) (ws.map tW) k) τ fun f τ' => ∃ w, f = .nx ((ws ++ [w]).map tW) ∧ OkW ways w ∧ TA p τ' ∧ τ'.length = L := by
  have h10 := hw.len
  have elen : g1 dLen [(.list (ways.map cI))] = some (cI ways.length) := by first | exact dLen_tN ways | (show some (PyData.int _) = _; simp [cI])
  have ck1 : decide ((ws.map tW).length < 16777216) = true := decide_eq_true (by rw [List.length_map]; omega)
  unfold m__law_asheet_b2
  simp -implicitDefEqProofs only [u1, li_some, bd_pu, x1, tri_bd, tri_pu]
  refine (digitN (m := 2) t (by decide) (by decide)).mono ?_
  rintro _ τ1 ⟨r1, rfl, h1, t1, l1⟩
  have e1 : dIdx (.list [.str "all", .str "some"]) (cI r1) = some (tK (decide (r1 = 0))) := by
    have : r1 = 0 ∨ r1 = 1 := by omega
    rcases this with rfl | rfl <;> rfl
  simp -implicitDefEqProofs only [e1, li_some, tri_pu]
  generalize decide (r1 = 0) = kd
  refine (digitN (m := 100) t1 (by decide) (by decide)).mono ?_
  rintro _ τ2 ⟨r2, rfl, h2, t2, l2⟩
  refine (digitN (m := 3) t2 (by decide) (by decide)).mono ?_
  rintro _ τ3 ⟨r3, rfl, h3, t3, l3⟩
  obtain ⟨wt, e2, hwt⟩ : ∃ wt : Nat, dIdx (.list [.int 99, .int 1, cI r2]) (cI r3) = some (cI wt) ∧ wt ≤ 99 := by
    have : r3 = 0 ∨ r3 = 1 ∨ r3 = 2 := by omega
    rcases this with rfl | rfl | rfl
    · exact ⟨99, rfl, by decide⟩
    · exact ⟨1, rfl, by decide⟩
    · exact ⟨r2, rfl, by omega⟩
  simp -implicitDefEqProofs only [e2, li_some, tri_pu, elen, rng_cI _ (by omega : ways.length ≤ 16777216), tri_sq, bd_pu]
  refine tri_fo (fun i s τ => ∃ ps : List (Nat × List Nat), s = ps.map tP ∧ (∀ q ∈ ps, OkP ways q) ∧ (ps.map Prod.fst).Pairwise (· < ·) ∧ (∀ q ∈ ps, q.1 < i) ∧ ps.length ≤ i ∧ TA p τ ∧ τ.length = L) _ ⟨[], rfl, by simp, by simp, by simp, by simp, t3, by omega⟩ ?_ ?_
  · rintro i d s τ4 hd ⟨ps, rfl, g1, g2, g3, g4, t4, l4⟩
    have hi : i < ways.length := by
      have := (List.getElem?_eq_some_iff.mp hd).1
      simpa using this
    rw [List.getElem?_map, List.getElem?_range hi] at hd
    cases hd
    refine (asheet_part hw z ho hi g1 g2 g3 g4 t4 l4).mono ?_
    rintro _ τ5 ⟨ps, rfl, g⟩
    exact ⟨ps, rfl, g⟩
  · rintro s τ4 ⟨ps, rfl, g1, g2, g3, g4, t4, l4⟩
    simp -implicitDefEqProofs only [sqk_nx, tri_bd, tri_pu, DL.g1, dTup_l, li_some, ck1, tri_ck, true_and]
    exact ⟨⟨kd, wt, ps⟩, by simp [tW], ⟨hwt, g1, g2⟩, t4, l4⟩

theorem ways_drawn {p n : Nat} {τ : T} (h : TA p τ) {Q : List D → T → Prop} (hQ : ∀ (ways : List Nat) τ', ways.length = n → (∀ x ∈ ways, 1 ≤ x ∧ x ≤ 4) → TA p τ' → τ'.length = τ.length → Q (ways.map cI) τ') (hn : n ≤ 10) :
    Tri (mf ((List.range n).map cI) (fun d => bd (li (u1 d)) fun _ => pu true) (fun d => bd (li (u1 d)) (x1 fun _ => bd (pu (PyData.int 1)) fun d15 => bd (bd (pu (PyData.int 4)) fun d14 => m__law_adigit p d14) fun d16 => li (dAdd d15 d16)))) τ Q := by
  refine tri_mfR (c := cI) cI (fun _ x => 1 ≤ x ∧ x ≤ 4) (fun _ τ' => TA p τ' ∧ τ'.length = τ.length) (List.range n) (fun d => rfl) ⟨h, rfl⟩ ?_ ?_
  · rintro i x τ1 hx ⟨t1, l1⟩
    simp -implicitDefEqProofs only [u1, li_some, bd_pu, x1, tri_bd]
    refine (digitN (m := 4) t1 (by decide) (by decide)).mono ?_
    rintro _ τ2 ⟨r, rfl, hr, t2, l2⟩
    have e : dAdd (.int 1) (cI r) = some (cI (1 + r)) := dAdd_c 1 r
    simp -implicitDefEqProofs only [e, li_some, tri_pu]
    exact ⟨⟨1 + r, rfl, by omega, by omega⟩, t2, by omega⟩
  · rintro ys τ1 hl hp ⟨t1, l1⟩
    rw [List.length_range] at hl
    refine hQ ys τ1 hl (fun x m => ?_) t1 l1
    obtain ⟨i, hi⟩ := List.mem_iff_getElem?.mp m
    have : i < n := by have := (List.getElem?_eq_some_iff.mp hi).1; omega
    exact hp i i x (List.getElem?_range this) hi
/-- cut to so many choosings -/
theorem asheet_cut {B : Nat} (hB : 1 ≤ B) (hB2 : B ≤ 2000) : ∀ (n i : Nat) (ways : List Nat) (many : Nat), ways.length ≤ 10 → (∀ x ∈ ways, 1 ≤ x ∧ x ≤ 4) → i + n = ways.length → many = cnt (ways.take i) → many ≤ B →
    ∃ ways' : List Nat, fo (L := Empty) (m__law_asheet_b3 (cI B)) ((List.range' i n).map cI) (ways.map cI, cI many) = pu (.nx (ways'.map cI, cI (cnt ways'))) ∧ ways'.length = ways.length ∧ (∀ x ∈ ways', 1 ≤ x ∧ x ≤ 4) ∧ cnt ways' ≤ B
  | 0, i, ways, many, _, h4, hi, hm, hb => by
    have : ways.take i = ways := List.take_of_length_le (by omega)
    rw [this] at hm
    exact ⟨ways, by rw [hm]; rfl, rfl, h4, by omega⟩
  | n + 1, i, ways, many, h10, h4, hi, hm, hb => by
    have hlt : i < ways.length := by omega
    have hx := h4 _ (List.mem_of_getElem? (get_D hlt))
    have e1 : dIdx (.list (ways.map cI)) (cI i) = some (cI (ways.getD i 0)) := dIdx_lm (get_D hlt)
    have m1 : dMul (cI many) (cI (ways.getD i 0)) = some (cI (many * ways.getD i 0)) := dMul_c (m := 11) (n := 3) (by omega) (by omega) (by decide)
    have ct : ∀ (l : List Nat), i < l.length → cnt (l.take (i + 1)) = cnt (l.take i) * l.getD i 0 := fun l hl => by
      have : l.take (i + 1) = l.take i ++ [l.getD i 0] := by
        rw [List.take_succ, get_D hl]
        rfl
      rw [this]
      have key : ∀ (a : List Nat) (x : Nat), cnt (a ++ [x]) = cnt a * x := by
        intro a x
        induction a with
        | nil => simp [cnt]
        | cons y a ih => rw [List.cons_append, cnt, cnt, ih, Nat.mul_assoc]
      exact key _ _
    rw [List.range'_succ, List.map_cons, fo]
    by_cases c : B < many * ways.getD i 0
    · have e2 : dIdx (.list ((ways.set i 1).map cI)) (cI i) = some (cI 1) := dIdx_lm (by rw [List.getElem?_set_self hlt])
      have m2 : dMul (cI many) (cI 1) = some (cI (many * 1)) := dMul_c (m := 11) (n := 3) (by omega) (by omega) (by decide)
      have st : m__law_asheet_b3 (cI B) (ways.map cI, cI many) (cI i) = pu (.nx ((ways.set i 1).map cI, cI (many * 1))) := by
        unfold m__law_asheet_b3
        simp -implicitDefEqProofs only [u1, li_some, bd_pu, x1, e1, m1, dGt_c]
        rw [decide_eq_true c, if_pos rfl, show setD (ways.map cI) (cI i) (.int 1) = _ from setD_N (v := 1) hlt]
        simp -implicitDefEqProofs only [li_some, bd_pu, sq_nx, e2, m2]
        rfl
      obtain ⟨w', a1, a2, a3, a4⟩ := asheet_cut hB hB2 n (i + 1) (ways.set i 1) (many * 1) (by simpa using h10) (fun x m => by
        rcases List.mem_or_eq_of_mem_set m with m | rfl
        · exact h4 x m
        · omega) (by simp; omega) (by
          rw [ct _ (by simpa using hlt), List.take_set_of_le (by omega), ← hm, List.getD_eq_getElem?_getD, List.getElem?_set_self hlt]
          rfl) (by omega)
      rw [st, bd_pu]
      exact ⟨w', a1, by simpa using a2, a3, a4⟩
    · have st : m__law_asheet_b3 (cI B) (ways.map cI, cI many) (cI i) = pu (.nx (ways.map cI, cI (many * ways.getD i 0))) := by
        unfold m__law_asheet_b3
        simp -implicitDefEqProofs only [u1, li_some, bd_pu, x1, e1, m1, dGt_c]
        rw [decide_eq_false c, if_neg Bool.false_ne_true]
        simp -implicitDefEqProofs only [li_some, bd_pu, sq_nx, e1, m1]
        rfl
      obtain ⟨w', a1, a2, a3, a4⟩ := asheet_cut hB hB2 n (i + 1) ways (many * ways.getD i 0) h10 h4 (by omega) (by rw [ct _ hlt, ← hm]) (by omega)
      rw [st, bd_pu]
      exact ⟨w', a1, a2, a3, a4⟩
theorem asheet_ok {p : Nat} {τ : T} (h : TA p τ) {P B : Nat} (hP : P ≤ 10) (hB : 1 ≤ B) (hB2 : B ≤ 2000) : Tri (m__law_asheet p (cI P) (cI B)) τ fun d τ' => ∃ ways ws, d = tS ways ws ∧ OkS ways ws ∧ ways.length ≤ P ∧ cnt ways ≤ B ∧ ws.length ≤ 8 ∧ TA p τ' ∧ τ'.length = τ.length := by
  have a1 : dAdd (cI P) (.int 1) = some (cI (P + 1)) := dAdd_c P 1
  have a2 : ∀ r, dAdd (.int 1) (cI r) = some (cI (1 + r)) := fun r => dAdd_c 1 r
  unfold m__law_asheet
  simp -implicitDefEqProofs only [tri_fe, tri_bd, tri_pu, a1, li_some]
  refine (digitN (m := P + 1) h (by omega) (by omega)).mono ?_
  rintro _ τ1 ⟨n, rfl, h1, t1, l1⟩
  simp -implicitDefEqProofs only [rng_cI n (by omega), li_some, tri_pu]
  refine ways_drawn t1 ?_ (by omega)
  intro ways τ2 hl h4 t2 l2
  have el : dLen (.list (ways.map cI)) = some (cI ways.length) := by show some (PyData.int _) = _; simp [cI]
  obtain ⟨w', e', b1, b2, b3⟩ := asheet_cut hB hB2 ways.length 0 ways 1 (by omega) h4 (by omega) rfl hB
  rw [← List.range_eq_range'] at e'
  have hw : OkWays w' := ⟨by omega, fun x m => (b2 x m).1, fun x m => (b2 x m).2⟩
  have nlc : nl (cI ways.length) = pu (cI ways.length) := rfl
  simp -implicitDefEqProofs only [g1, bd_pu, el, li_some, nlc, rng_cI _ (by omega : ways.length ≤ 16777216), tri_sq]
  rw [show (ways.map cI, PyData.int 1) = (ways.map cI, cI 1) from rfl, e', tri_pu]
  simp -implicitDefEqProofs only [sqk_nx, tri_bd, tri_pu]
  refine (digitN (m := 4) t2 (by decide) (by decide)).mono ?_
  rintro _ τ3 ⟨r3, rfl, h3, t3, l3⟩
  simp -implicitDefEqProofs only [show dAdd (.int 1) (cI r3) = some (cI (1 + r3)) from dAdd_c 1 r3, li_some, tri_pu, tri_bd, tri_sq]
  refine (digitN (m := 9) t3 (by decide) (by decide)).mono ?_
  rintro _ τ4 ⟨r4, rfl, h4', t4, l4⟩
  simp -implicitDefEqProofs only [rng_cI r4 (by omega), li_some, tri_pu]
  refine tri_fo (fun i s τ' => ∃ ws : List Wi, s = ws.map tW ∧ ws.length = i ∧ (∀ w ∈ ws, OkW w' w) ∧ TA p τ' ∧ τ'.length = τ.length) _ ⟨[], rfl, rfl, by simp, t4, by omega⟩ ?_ ?_
  · rintro i d s τ5 hd ⟨ws, rfl, hi, ok, t5, l5⟩
    have hlt : i < r4 := by
      have := (List.getElem?_eq_some_iff.mp hd).1
      simpa using this
    refine (asheet_wish hw (cI (cnt w')) (often := 1 + r3) (by omega) ok (by omega) t5 l5).mono ?_
    rintro _ τ6 ⟨w, rfl, ow, t6, l6⟩
    refine ⟨ws ++ [w], rfl, by simp [hi], fun v m => ?_, t6, l6⟩
    rcases List.mem_append.mp m with m | m
    · exact ok v m
    · rw [List.mem_singleton.mp m]; exact ow
  · rintro s τ5 ⟨ws, rfl, hi, ok, t5, l5⟩
    rw [List.length_map, List.length_range] at hi
    simp -implicitDefEqProofs only [sqk_nx, tri_bd, tri_pu, g1, dTup_l, li_some, feQ_rt]
    exact ⟨w', ws, rfl, ⟨hw, by omega, ok⟩, by omega, b3, by omega, t5, l5⟩
end Q


set_option maxRecDepth 100000
set_option maxHeartbeats 1000000
namespace Q
open DL PySem PySem.Spec PyProof.Rows L2 RZ

/-! ### fractions compared, shown -/
theorem ano_more_q (q r : Rat) {a b : Nat} [x : SmQ q a] [y : SmQ r b] (h : a + b < 9000) : m__law_ano_more (fq q) (fq r) = pu (.bool (decide (q ≤ r))) := by
  have := smi_num q
  have := smi_num r
  have := smi_den q
  have := smi_den r
  unfold fq m__law_ano_more
  simp only [bd_pu, dIdx_t0, dIdx_t1, li_some, dMul_i (mulOk q.num (r.den : Int) (by omega)), dMul_i (mulOk r.num (q.den : Int) (by omega)), dLe_i, Option.map_some, fe_rt, Rat.le_iff]
theorem sn_fq {q : Rat} {k : Nat} (x : SmQ q k) (h : k ≤ 1900) : Sn 3849 (fq q) := by
  have h1 := (smi_num q).log
  have h2 := (smi_den q).log
  exact sn_tup (n := 1921) (m := 2) (fun d m => by
    rcases List.mem_cons.mp m with rfl | m
    · exact sn_int (by omega)
    · rw [List.mem_singleton.mp m]; exact sn_int (by omega)) (by simp)
theorem repr_fq {q : Rat} {k : Nat} (x : SmQ q k) (h : k ≤ 1900) : dRepr (fq q) = some (.str (fq q).shown) := dRepr_t ((sh_fq q).mono (by decide)) (sn_fq x h) (by decide)
theorem sh_fql (l : List Rat) : Sh 3 (.list (l.map fq)) := sh_list fun d m => by
  obtain ⟨q, _, rfl⟩ := List.mem_map.mp m
  exact sh_fq q
theorem repr_fql {l : List Rat} {k : Nat} (x : ∀ q ∈ l, SmQ q k) (h : k ≤ 1900) (hl : l.length ≤ 100) : dRepr (.list (l.map fq)) = some (.str (PyData.list (l.map fq)).shown) :=
  dRepr_l ((sh_fql l).mono (by decide)) (sn_list (n := 3849) (m := 100) (fun d m => by
    obtain ⟨q, mq, rfl⟩ := List.mem_map.mp m
    exact sn_fq (x q mq) h) (by rw [List.length_map]; exact hl)) (by decide)
theorem fq_nat (n : Nat) : fq ((n : Nat) : Rat) = .tuple [cI n, .int 1] := by rw [← Rat.intCast_natCast, fq_int]; rfl
theorem nat_nn (n : Nat) : (0 : Rat) ≤ ((n : Nat) : Rat) := by
  rw [← Rat.intCast_natCast]
  exact_mod_cast Rat.intCast_le_intCast.mpr (show (0 : Int) ≤ (n : Int) by omega)
theorem qsum_nn : ∀ {l : List Rat}, (∀ q ∈ l, 0 ≤ q) → 0 ≤ qsum l
  | [], _ => Rat.le_refl
  | q :: l, h => by
    rw [qsum]
    have h1 := h q List.mem_cons_self
    have h2 := qsum_nn fun r m => h r (List.mem_cons_of_mem _ m)
    exact Rat.add_nonneg h1 h2
theorem ks_nn {ways : List Nat} {ss : List (List Nat)} (hw : OkWays ways) (h : OkSh ways ss) {w : Wi} (ow : OkW ways w) : 0 ≤ ks ss w := by
  rw [ks_div hw h ow]
  have h1 := (bel_bd hw h ow).1
  have h2 : (0 : Rat) < ((belS ss w : Nat) : Rat) := by
    rw [← Rat.intCast_natCast]
    exact_mod_cast Rat.intCast_lt_intCast.mpr (show (0 : Int) < (belS ss w : Int) by omega)
  have h3 := nat_nn (topS ss w)
  generalize ((belS ss w : Nat) : Rat) = b at *
  generalize ((topS ss w : Nat) : Rat) = a at *
  refine Rat.le_of_mul_le_mul_left (c := b) ?_ h2
  have e : b * (a / b) = a := by
    have : b ≠ 0 := fun e => by rw [e] at h2; exact absurd h2 (Rat.lt_irrefl)
    grind
  rw [e, Rat.mul_zero]
  exact h3
theorem mns_nn {ways : List Nat} {ss : List (List Nat)} (hw : OkWays ways) (h : OkSh ways ss) {ws : List Wi} (hv : ∀ w ∈ ws, OkW ways w) : 0 ≤ mns ss ws := by
  refine qsum_nn fun q m => ?_
  obtain ⟨w, mw, rfl⟩ := List.mem_map.mp m
  refine Rat.mul_nonneg ?_ (ks_nn hw h (hv w mw))
  rw [Rat.intCast_natCast]
  exact nat_nn _
/-- a fold over ways, however the best so far is written -/
theorem best_loopE {L : Type} {body : D → D → M (Fl D D)} {f : Nat → Rat} {r : List Nat} {m : Nat} (enc : Option Nat → D) (hb : ∀ (b : Option Nat) (w : Nat), (∀ v, b = some v → v < m) → w < m → body (enc b) (cI w) = pu (.nx (enc (stB f r b w)))) :
    fo (L := L) body ((List.range m).map cI) (enc none) = pu (.nx (enc (bsB f r m))) := by
  have := fo_enc (L := L) (body := body) (enc := enc) (c := cI) (G := stB f r) (fun b => ∀ v, b = some v → v < m) (xs := List.range m) (s := none) (fun v h => by cases h) fun b w mw hv => by
    have hw := List.mem_range.mp mw
    refine ⟨hb b w hv hw, fun v e => ?_⟩
    unfold stB at e
    split at e
    · split at e
      · cases e; exact hw
      · split at e
        · cases e; exact hw
        · cases e; exact hv _ rfl
    · exact hv v e
  exact this.1
theorem zip_rows {g : Nat → D} {r : List Nat} : List.zipWith (fun a b => PyData.tuple [a, b]) (r.map cI) ((List.range r.length).map g) = (List.range r.length).map fun w => PyData.tuple [cI (r.getD w 0), g w] := by
  refine List.ext_getElem? fun i => ?_
  by_cases h : i < r.length
  · rw [List.getElem?_zipWith, List.getElem?_map, List.getElem?_map, List.getElem?_map, List.getElem?_range h, get_D h]
    rfl
  · rw [List.getElem?_eq_none (by simp; omega), List.getElem?_eq_none (by simp; omega)]
end Q


set_option maxRecDepth 100000
set_option maxHeartbeats 1000000
namespace Q
open DL PySem PySem.Spec PyProof.Rows L2 RZ

/-! ### data of any kind, that repr tells -/
structure Gx (n k : Nat) (d : D) : Prop where
  ok : okR d = true
  dp : d.depth ≤ k
  sn : Sn n d
theorem Gx.mono {n m k l : Nat} {d : D} (h : Gx n k d) (a : n ≤ m) (b : k ≤ l) : Gx m l d := ⟨h.ok, Nat.le_trans h.dp b, h.sn.mono a⟩
theorem gx_none : Gx 1921 1 .none := ⟨rfl, by simp [PyData.depth], sn_none.mono (by decide)⟩
theorem gx_bool (b : Bool) : Gx 1921 1 (.bool b) := ⟨rfl, by simp [PyData.depth], (sn_bool b).mono (by decide)⟩
theorem gx_int {i : Int} (h : i.natAbs.log2 < 1920) : Gx 1921 1 (.int i) := ⟨rfl, by simp [PyData.depth], sn_int h⟩
theorem gx_cI {n : Nat} (h : n < 2 ^ 100) : Gx 1921 1 (cI n) := gx_int (by
  rw [Int.natAbs_natCast]
  have := log2_le (n := n) (k := 99) h
  omega)
theorem gx_str {x : Str} (h : (reprText x).length ≤ 1921) : Gx 1921 1 (.str x) := ⟨rfl, by simp [PyData.depth], ⟨rfl, by simpa only [PyData.shown] using h⟩⟩
theorem gx_dnil : Gx 1921 1 (.dict []) := ⟨rfl, by simp [PyData.depth, PyData.depthKv], ⟨rfl, by decide +kernel⟩⟩
theorem okRs_all : ∀ {ds : List D}, (∀ d ∈ ds, okR d = true) → okRs ds = true
  | [], _ => by simp only [okRs]
  | d :: ds, h => by simp only [okRs, h d List.mem_cons_self, okRs_all fun e m => h e (List.mem_cons_of_mem _ m), Bool.and_self]
theorem depthAll_le {k : Nat} : ∀ {ds : List D}, (∀ d ∈ ds, d.depth ≤ k) → PyData.depthAll ds ≤ k
  | [], _ => by simp [PyData.depthAll]
  | d :: ds, h => by
    have h1 := h d List.mem_cons_self
    have h2 := depthAll_le fun e m => h e (List.mem_cons_of_mem _ m)
    simp only [PyData.depthAll]
    omega
theorem gx_tup {n k m : Nat} {ds : List D} (h : ∀ d ∈ ds, Gx n k d) (hm : ds.length ≤ m) : Gx (m * (n + 2) + 3) (k + 1) (.tuple ds) :=
  ⟨by simp only [okR]; exact okRs_all fun d m => (h d m).ok, by simp only [PyData.depth]; have := depthAll_le fun d m => (h d m).dp; omega, sn_tup (fun d m => (h d m).sn) hm⟩
theorem gx_list {n k m : Nat} {ds : List D} (h : ∀ d ∈ ds, Gx n k d) (hm : ds.length ≤ m) : Gx (m * (n + 2) + 3) (k + 1) (.list ds) :=
  ⟨by simp only [okR]; exact okRs_all fun d m => (h d m).ok, by simp only [PyData.depth]; have := depthAll_le fun d m => (h d m).dp; omega, sn_list (fun d m => (h d m).sn) hm⟩
theorem gx_repr {n k : Nat} {d : D} (h : Gx n k d) (hn : n ≤ 16777216 := by decide) (hk : k ≤ 64 := by decide) : ∃ s, dRepr d = some (.str s) := by
  have w : shwOk d = true := by
    unfold shwOk
    rw [h.ok, h.sn.sw, decide_eq_true (Nat.le_trans h.sn.le hn), decide_eq_true (Nat.le_trans h.dp hk)]
    rfl
  cases d with
  | none => exact ⟨_, rfl⟩
  | bool b => exact ⟨_, rfl⟩
  | int i =>
    have : i.natAbs.log2 < 1920 := by simpa [PyData.showable] using h.sn.sw
    exact ⟨_, if_pos this⟩
  | str x =>
    have := h.sn.le
    simp only [PyData.shown] at this
    exact ⟨_, if_pos (Nat.le_trans this hn)⟩
  | list ds => exact ⟨_, if_pos w⟩
  | tuple ds => exact ⟨_, if_pos w⟩
  | dict ds => exact ⟨_, if_pos w⟩
/-- all of a list are such -/
def Gs (n k : Nat) (ds : List D) : Prop := ∀ d ∈ ds, Gx n k d
theorem gs_nil {n k : Nat} : Gs n k [] := fun d m => by cases m
theorem gs_cons {n k : Nat} {d : D} {ds : List D} (h : Gx n k d) (h' : Gs n k ds) : Gs n k (d :: ds) := fun e m => by
  rcases List.mem_cons.mp m with rfl | m
  · exact h
  · exact h' e m
theorem gs_app {n k : Nat} {as bs : List D} (h : Gs n k as) (h' : Gs n k bs) : Gs n k (as ++ bs) := fun e m => by
  rcases List.mem_append.mp m with m | m
  · exact h e m
  · exact h' e m
theorem Gs.mono {n m k l : Nat} {ds : List D} (h : Gs n k ds) (a : n ≤ m) (b : k ≤ l) : Gs m l ds := fun d md => (h d md).mono a b
theorem Gs.take {n k : Nat} {ds : List D} (h : Gs n k ds) (i : Nat) : Gs n k (ds.take i) := fun d m => h d (List.mem_of_mem_take m)
theorem Gs.drop {n k : Nat} {ds : List D} (h : Gs n k ds) (i : Nat) : Gs n k (ds.drop i) := fun d m => h d (List.mem_of_mem_drop m)
theorem Gs.tup {n k : Nat} {ds : List D} (h : Gs n k ds) {m : Nat} (hm : ds.length ≤ m) : Gx (m * (n + 2) + 3) (k + 1) (.tuple ds) := gx_tup h hm
theorem Gs.list {n k : Nat} {ds : List D} (h : Gs n k ds) {m : Nat} (hm : ds.length ≤ m) : Gx (m * (n + 2) + 3) (k + 1) (.list ds) := gx_list h hm
theorem gs_cIs {l : List Nat} (h : ∀ x ∈ l, x < 2 ^ 100) : Gs 1921 1 (l.map cI) := fun d m => by
  obtain ⟨x, mx, rfl⟩ := List.mem_map.mp m
  exact gx_cI (h x mx)
theorem gs_nils {n k m : Nat} : Gx (m * (n + 2) + 3) (k + 1) (.tuple []) := gx_tup (ds := []) (fun d m => by cases m) (Nat.zero_le _)
theorem mf_D {t : D → M Bool} {f : D → M D} {g : D → D} : ∀ {xs : List D}, (∀ x ∈ xs, t x = pu true) → (∀ x ∈ xs, f x = pu (g x)) → mf xs t f = pu (xs.map g)
  | [], _, _ => rfl
  | x :: xs, h, h' => by
    have ih := mf_D (xs := xs) (fun y m => h y (List.mem_cons_of_mem _ m)) fun y m => h' y (List.mem_cons_of_mem _ m)
    rw [mf, h x List.mem_cons_self, bd_pu, if_pos rfl, h' x List.mem_cons_self, bd_pu, ih, bd_pu, List.map_cons]
/-! cuts of tuples -/
theorem cut_t (xs : List D) (n : Nat) : dCut (.tuple xs) none (some (n : Int)) = some (.tuple (xs.take n)) := by
  show (some (PyData.tuple (cutD _ _ _))) = _
  rw [cut_to]
theorem cut_tf (xs : List D) (n : Nat) : dCut (.tuple xs) (some (n : Int)) none = some (.tuple (xs.drop n)) := by
  show (some (PyData.tuple (cutD _ _ _))) = _
  rw [cut_from]
end Q


set_option maxRecDepth 100000
set_option maxHeartbeats 4000000
namespace Q
open DL PySem PySem.Spec PyProof.Rows L2 RZ

/-! the tape of the e-laws -/
theorem mixedE_ok (c : Int) (a : Nat) (h : a < 2 ^ 64) : ∃ r : Int, m__law_e_mixed (.int c) (.int a) = pu (.int r) := by
  have sa : SmI (a : Int) 64 := smNat h
  unfold m__law_e_mixed
  by_cases hc : (10 : Int) ^ Int.toNat 18 ≤ c
  · refine ⟨c, ?_⟩
    simp (disch := decide) only [dPow_i, hc, bd_pu, li_some, dGe_i, decide_true, if_true, fe_rt]
  · simp -implicitDefEqProofs (maxSteps := 2000000) (disch := first | exact mulOk _ _ | decide) only [dPow_i, hc, dMod_i, dMul_i, dAdd_i, bd_pu, li_some, fe_rt, dGe_i, decide_false, if_neg, Bool.false_eq_true, if_false]
    exact ⟨_, rfl⟩
theorem lotE {ns : List Int} {k : Nat} {τ : T} {m : Int} (h : TB ns k τ) (hk : k < 2 ^ 63) (hm : 0 < m) (hm' : m.natAbs.log2 < 9000) (hns : ns.length ≤ 63) : Tri (m__law_e_lot 0 (.int m)) τ fun d τ' => ∃ r : Int, d = .int r ∧ 0 ≤ r ∧ r < m ∧ TB ns (k + 1) τ' := by
  obtain ⟨a, v, rfl, ha⟩ := h
  have sa : SmI (a : Int) 63 := smNat (by omega)
  have fin : ∀ v' : Int, ∃ r : Int, PyData.int (v' % m) = .int r ∧ 0 ≤ r ∧ r < m := fun v' => ⟨_, rfl, Int.emod_nonneg _ (by omega), Int.emod_lt_of_pos _ hm⟩
  unfold m__law_e_lot
  simp -implicitDefEqProofs only [tri_fe, tri_sq, tri_bd, tri_pu, tri_mget0, dIdx_l2, li_some, dLt_i, tri_ite, decide_eq_true_eq]
  by_cases hv : v < m
  · rw [if_pos hv]
    simp -implicitDefEqProofs (maxSteps := 2000000) (disch := first | exact mulOk _ _ | decide) only [tri_sq, tri_bd, tri_pu, tri_mget0, dIdx_l0, dIdx_l1, dIdx_l2, li_some, dLt_i, tri_ite, dMul_i, dAdd_i, g1, dLen_s, decide_eq_true_eq]
    have len0 : (0 : Int) < ns.length ∨ ns = [] := by
      cases ns with
      | nil => exact .inr rfl
      | cons x l => exact .inl (by simp)
    by_cases h1 : (a : Int) < ns.length
    · rw [if_pos h1]
      obtain ⟨c, hc⟩ : ∃ c, ns[a]? = some c := ⟨ns[a]'(by omega), List.getElem?_eq_getElem (by omega)⟩
      obtain ⟨r, hr⟩ := mixedE_ok c a (by omega)
      simp -implicitDefEqProofs only [dIdx_s hc, li_some, tri_pu, sqk_nx, tri_bd, tri_mget0, tri_mput0, dAdd_i, setD1, setD2, hr, dIdx_l2, dMod_i hm, dDiv_i hm hm', feQ_rt]
      obtain ⟨q, e, g1, g2⟩ := fin r
      exact ⟨by simp, by simp, by simp, q, e, g1, g2, a + 1, _, rfl, by omega⟩
    · rw [if_neg h1]
      rcases len0 with h2 | h2
      · obtain ⟨c, hc⟩ : ∃ c, ns[((7 * (a : Int) + 3) % ns.length).toNat]? = some c := ⟨ns[((7 * (a : Int) + 3) % ns.length).toNat]'(by
          have := Int.emod_lt_of_pos (7 * (a : Int) + 3) h2
          have := Int.emod_nonneg (7 * (a : Int) + 3) (b := ns.length) (by omega)
          omega), List.getElem?_eq_getElem _⟩
        have hc' : dIdx (scr ns) (.int ((7 * (a : Int) + 3) % ns.length)) = some (.int c) := by
          have e : ((7 * (a : Int) + 3) % ns.length) = ((((7 * (a : Int) + 3) % ns.length).toNat : Nat) : Int) := by
            have := Int.emod_nonneg (7 * (a : Int) + 3) (b := ns.length) (by omega)
            omega
          rw [e]
          exact dIdx_s hc
        obtain ⟨r, hr⟩ := mixedE_ok (c % 777777743 + a * 7000003) a (by omega)
        have ne : dNe (scr ns) (.list []) = some true := by
          cases ns with
          | nil => simp at h2
          | cons x l => exact dNe_scr_nil _
        simp -implicitDefEqProofs (maxSteps := 2000000) (disch := first | exact mulOk _ _ | decide | assumption) only [dGt_i, h2, decide_true, if_true, dMod_i, dMul_i, hc', li_some, tri_pu, sqk_nx, tri_bd, tri_mget0, tri_mput0, dAdd_i, setD1, setD2, hr, dIdx_l0, dLen_s, g1, dIdx_l2, dMod_i hm, dDiv_i hm hm', feQ_rt]
        obtain ⟨q, e, g1, g2⟩ := fin r
        exact ⟨by simp, by simp, by simp, q, e, g1, g2, a + 1, _, rfl, by omega⟩
      · subst h2
        obtain ⟨r, hr⟩ := mixedE_ok (17 * a + 6) a (by omega)
        have ne : dNe (scr []) (.list []) = some false := by rfl
        simp -implicitDefEqProofs (maxSteps := 2000000) (disch := first | exact mulOk _ _ | decide | assumption) only [dGt_i, show ((([] : List Int).length : Nat) : Int) = 0 from rfl, Int.lt_irrefl, decide_false, Bool.false_eq_true, if_false, dMod_i, dMul_i, li_some, tri_pu, sqk_nx, tri_bd, tri_mget0, tri_mput0, dAdd_i, setD1, setD2, hr, dIdx_l0, dLen_s, g1, dIdx_l2, dMod_i hm, dDiv_i hm hm', feQ_rt]
        obtain ⟨q, e, g1, g2⟩ := fin r
        exact ⟨by simp, by simp, by simp, q, e, g1, g2, a + 1, _, rfl, by omega⟩
  · rw [if_neg hv]
    simp -implicitDefEqProofs only [tri_pu, sqk_nx, tri_bd, tri_mget0, dIdx_l2, li_some, dMod_i hm, dDiv_i hm hm', setD2, tri_mput0, feQ_rt]
    refine ⟨by simp, ?_⟩
    obtain ⟨r, e, h1, h2⟩ := fin v
    exact ⟨r, e, h1, h2, a, _, rfl, by omega⟩
theorem lotN {ns : List Int} {k : Nat} {τ : T} {m : Nat} (h : TB ns k τ) (hk : k < 2 ^ 63) (hm : 0 < m) (hm' : m < 2 ^ 63) (hns : ns.length ≤ 63) : Tri (m__law_e_lot 0 (.int m)) τ fun d τ' => ∃ r : Nat, d = cI r ∧ r < m ∧ TB ns (k + 1) τ' := by
  refine (lotE (m := (m : Int)) h hk (by omega) (Nat.lt_of_le_of_lt (log2_int (k := 63) (by omega) (by omega)) (by decide)) hns).mono ?_
  rintro _ τ1 ⟨r, rfl, r0, r1, t1⟩
  refine ⟨r.toNat, ?_, by omega, t1⟩
  unfold cI
  rw [show ((r.toNat : Nat) : Int) = r by omega]
theorem tuprg_c {n : Nat} (h : n ≤ 100) : dTupRg (cI n) = some (tN (List.range n)) := by
  show (if (0 : Int) ≤ (n : Int) ∧ (n : Int) ≤ 16777216 then some (PyData.tuple (((List.range (n : Int).toNat).map fun i : Nat => (i : Int)).map .int)) else none) = _
  rw [if_pos ⟨by omega, by omega⟩, Int.toNat_natCast, List.map_map]
  rfl
theorem some_okE {ns : List Int} {k : Nat} {τ : T} {n : Nat} (h : TB ns k τ) (hk : k < 2 ^ 60) (hns : ns.length ≤ 63) (h1 : 1 ≤ n) (h4 : n ≤ 4) : Tri (m__law_e_some 0 (cI n)) τ fun d τ' => ∃ l : List Nat, d = tN l ∧ (∀ x ∈ l, x < n) ∧ l.Pairwise (· < ·) ∧ TB ns (k + 10) τ' := by
  unfold m__law_e_some
  simp -implicitDefEqProofs only [tri_fe, tri_bd, tri_pu]
  refine (lotN (m := 6) h (by omega) (by decide) (by decide) hns).mono ?_
  rintro _ τ1 ⟨r, rfl, r1, t1⟩
  have d0 : dEq (cI r) (.int 0) = some (decide (r = 0)) := dEq_c r 0
  have d1 : dEq (cI r) (.int 1) = some (decide (r = 1)) := dEq_c r 1
  have d2 : dEq (cI r) (.int 2) = some (decide (r = 2)) := dEq_c r 2
  simp -implicitDefEqProofs only [d0, d1, d2, li_some, tri_pu, tri_ite, tri_bd, decide_eq_true_eq]
  by_cases c0 : r = 0
  · rw [if_pos c0, feQ_rt]
    exact ⟨[], rfl, by simp, List.Pairwise.nil, t1.mono (by omega)⟩
  · rw [if_neg c0]
    by_cases c1 : r = 1
    · rw [if_pos c1, tuprg_c (by omega)]
      simp -implicitDefEqProofs only [li_some, tri_pu, feQ_rt]
      exact ⟨List.range n, rfl, fun x m => List.mem_range.mp m, List.pairwise_lt_range, t1.mono (by omega)⟩
    · rw [if_neg c1]
      by_cases c2 : r = 2
      · rw [if_pos c2]
        refine (lotN t1 (by omega) (by omega) (by omega) hns).mono ?_
        rintro _ τ2 ⟨x, rfl, x1, t2⟩
        simp -implicitDefEqProofs only [feQ_rt]
        exact ⟨[x], rfl, by simpa using x1, by simp, t2.mono (by omega)⟩
      · rw [if_neg c2, rng_cI n (by omega)]
        simp -implicitDefEqProofs only [li_some, tri_pu, tri_bd]
        refine tri_mff (fun i τ => TB ns (k + 1 + i) τ) _ (fun d m => by
          obtain ⟨x, _, rfl⟩ := List.mem_map.mp m
          rfl) t1 ?_ ?_
        · intro i d τ6 hd t6
          have hi : i < n := by
            have := (List.getElem?_eq_some_iff.mp hd).1
            simpa using this
          simp -implicitDefEqProofs only [u1, li_some, bd_pu, x1, tri_bd]
          refine (lotN (m := 2) t6 (by omega) (by omega) (by omega) hns).mono ?_
          rintro _ τ7 ⟨r, rfl, _, t7⟩
          simp -implicitDefEqProofs only [cI, dEq_i, li_some, tri_pu]
          exact t7
        · intro xs τ6 hs t6
          rw [List.length_map, List.length_range] at t6
          obtain ⟨pl, hsub, rfl⟩ := List.sublist_map_iff.mp hs
          simp -implicitDefEqProofs only [tri_pu, tri_bd, g1, dTup_l, li_some, feQ_rt]
          exact ⟨pl, rfl, fun x m => List.mem_range.mp (hsub.subset m), List.Pairwise.sublist hsub List.pairwise_lt_range, t6.mono (by omega)⟩
theorem cut_lN (l : List Nat) (n : Nat) : dCut (.list (l.map cI)) none (some (n : Int)) = some (.list ((l.take n).map cI)) := by
  show some (PyData.list (cutD _ _ _)) = _
  rw [cut_to, ← List.map_take]
theorem wish_okE {ns : List Int} {k : Nat} {τ : T} {ways : List Nat} (hw : OkWays ways) (h : TB ns k τ) (hk : k < 2 ^ 55) (hns : ns.length ≤ 63) : Tri (m__law_e_wish 0 (tN ways) (.int 10)) τ fun d τ' => ∃ w, d = tW w ∧ OkW ways w ∧ TB ns (k + 130) τ' := by
  have hl := hw.len
  unfold m__law_e_wish
  simp -implicitDefEqProofs only [tri_fe, tri_bd, tri_pu]
  refine (lotN (m := 2) h (by omega) (by decide) (by decide) hns).mono ?_
  rintro _ τ1 ⟨r1, rfl, h1, t1⟩
  have e1 : dIdx (.list [.str "all", .str "some"]) (cI r1) = some (tK (decide (r1 = 0))) := by
    have : r1 = 0 ∨ r1 = 1 := by omega
    rcases this with rfl | rfl <;> rfl
  simp -implicitDefEqProofs only [e1, li_some, tri_pu]
  generalize decide (r1 = 0) = kd
  refine (lotN (m := 4) t1 (by omega) (by decide) (by decide) hns).mono ?_
  rintro _ τ2 ⟨r2, rfl, h2, t2⟩
  refine (lotN (m := 100) t2 (by omega) (by decide) (by decide) hns).mono ?_
  rintro _ τ3 ⟨r3, rfl, h3, t3⟩
  refine (lotN (m := 9) t3 (by omega) (by decide) (by decide) hns).mono ?_
  rintro _ τ4 ⟨r4, rfl, h4, t4⟩
  have a4 : ∀ r, dAdd (.int 1) (cI r) = some (cI (1 + r)) := fun r => dAdd_c 1 r
  simp -implicitDefEqProofs only [a4, li_some, tri_pu]
  refine (lotN (m := 3) t4 (by omega) (by decide) (by decide) hns).mono ?_
  rintro _ τ5 ⟨r5, rfl, h5, t5⟩
  obtain ⟨wt, e2, hwt⟩ : ∃ wt : Nat, dIdx (.list [.int 99, cI r3, cI (1 + r4), cI r5]) (cI r2) = some (cI wt) ∧ wt ≤ 99 := by
    have : r2 = 0 ∨ r2 = 1 ∨ r2 = 2 ∨ r2 = 3 := by omega
    rcases this with rfl | rfl | rfl | rfl
    · exact ⟨99, rfl, by decide⟩
    · exact ⟨r3, rfl, by omega⟩
    · exact ⟨1 + r4, rfl, by omega⟩
    · exact ⟨r5, rfl, by omega⟩
  simp -implicitDefEqProofs only [e2, li_some, tri_pu]
  refine (lotN (m := 4) t5 (by omega) (by decide) (by decide) hns).mono ?_
  rintro _ τ6 ⟨r6, rfl, h6, t6⟩
  simp -implicitDefEqProofs only [a4, li_some, tri_pu, g1, dLen_tN, rng_cI ways.length (by omega)]
  refine tri_mff (fun i τ => TB ns (k + 6 + i) τ) _ (fun d m => by
    obtain ⟨x, _, rfl⟩ := List.mem_map.mp m
    rfl) t6 ?_ ?_
  · intro i d τ7 hd t7
    have hi : i < ways.length := by
      have := (List.getElem?_eq_some_iff.mp hd).1
      simpa using this
    simp -implicitDefEqProofs only [u1, li_some, bd_pu, x1, tri_bd]
    refine (lotN (m := 1 + r6) t7 (by omega) (by omega) (by omega) hns).mono ?_
    rintro _ τ8 ⟨r, rfl, _, t8⟩
    simp -implicitDefEqProofs only [cI, dEq_i, li_some, tri_pu]
    exact t8
  · intro xs τ7 hs t7
    rw [List.length_map, List.length_range] at t7
    obtain ⟨pl, hsub, rfl⟩ := List.sublist_map_iff.mp hs
    have hpw : pl.Pairwise (· < ·) := List.Pairwise.sublist hsub List.pairwise_lt_range
    have hlt : ∀ x ∈ pl, x < ways.length := fun x m => List.mem_range.mp (hsub.subset m)
    have hlen : pl.length ≤ 10 := by
      have := len_rise hpw hlt
      omega
    have ec : dCut (.list (pl.map cI)) none (some 10) = some (.list (pl.map cI)) := by
      have := cut_lN pl 10
      rw [List.take_of_length_le hlen] at this
      exact this
    simp -implicitDefEqProofs only [tri_pu, tri_bd, oInt_i, ec, dLst_l, li_some]
    refine tri_mfR tP (fun x p => p.1 = x ∧ OkP ways p) (fun i τ => TB ns (k + 16 + 10 * i) τ) pl (fun d => rfl) (t7.mono (by omega)) ?_ ?_
    · intro i x τ8 hx t8
      have hi : i < pl.length := (List.getElem?_eq_some_iff.mp hx).1
      have hx' := hlt x (List.mem_of_getElem? hx)
      have hh := ways_hi hw hx'
      simp -implicitDefEqProofs only [u1, li_some, bd_pu, x1, dIdx_tN hx', tri_bd, tri_pu]
      refine (some_okE t8 (by omega) hns hh.1 hh.2).mono ?_
      rintro _ τ9 ⟨l, rfl, l1, l2, t9⟩
      exact ⟨⟨(x, l), rfl, rfl, ⟨hx', l1, l2⟩⟩, t9.mono (by omega)⟩
    · intro ys τ8 hyl hy t8
      simp -implicitDefEqProofs only [tri_pu, tri_bd, g1, dTup_l, li_some, feQ_rt]
      have ey : ys.map Prod.fst = pl := by
        refine List.ext_getElem? fun i => ?_
        rw [List.getElem?_map]
        cases hq : pl[i]? with
        | none =>
          have : ys.length ≤ i := by
            have := List.getElem?_eq_none_iff.mp hq
            omega
          rw [List.getElem?_eq_none this]
          rfl
        | some x =>
          have hi : i < ys.length := by
            have := (List.getElem?_eq_some_iff.mp hq).1
            omega
          have := (hy i x _ hq (List.getElem?_eq_getElem hi)).1
          rw [List.getElem?_eq_getElem hi, Option.map_some, this]
      refine ⟨⟨kd, wt, ys⟩, rfl, ⟨hwt, fun p m => ?_, by rw [ey]; exact hpw⟩, t8.mono (by omega)⟩
      obtain ⟨i, hi, rfl⟩ := List.getElem_of_mem m
      have hi' : i < ys.length := hi
      exact (hy i _ _ (List.getElem?_eq_getElem (by omega)) (List.getElem?_eq_getElem hi)).2
theorem mulT_c (x : Nat) {n : Nat} (hn : n ≤ 1000) : dMulT (.tuple [cI x]) (cI n) = some (tN (List.replicate n x)) := by
  show (if -(2 ^ 63) ≤ (n : Int) ∧ (n : Int) ≤ 1000 ∧ [cI x].length ≤ 1000 then some (PyData.tuple (List.replicate (n : Int).toNat [cI x]).flatten) else none) = _
  rw [if_pos ⟨by omega, by omega, by simp⟩, Int.toNat_natCast]
  unfold tN
  congr 2
  clear hn
  induction n with
  | zero => rfl
  | succ n ih =>
    rw [List.replicate_succ, List.flatten_cons, ih, List.replicate_succ, List.map_cons]
    rfl
theorem ways_okE {ns : List Int} {k : Nat} {τ : T} {B : Nat} (hB : B ≤ 10) (h : TB ns k τ) (hk : k < 2 ^ 55) (hns : ns.length ≤ 63) : Tri (m__law_e_ways 0 (cI B)) τ fun d τ' => ∃ ways, d = tN ways ∧ OkWays ways ∧ ways.length ≤ B ∧ TB ns (k + 30) τ' := by
  have a1 : dAdd (cI B) (.int 1) = some (.int ((B + 1 : Nat) : Int)) := dAdd_c B 1
  have a4 : ∀ r, dAdd (.int 1) (cI r) = some (cI (1 + r)) := fun r => dAdd_c 1 r
  have a3 : ∀ r, dAdd (.int 3) (cI r) = some (cI (3 + r)) := fun r => dAdd_c 3 r
  unfold m__law_e_ways
  simp -implicitDefEqProofs only [tri_fe, tri_bd, tri_pu]
  refine (lotN (m := 3) h (by omega) (by decide) (by decide) hns).mono ?_
  rintro _ τ1 ⟨kd, rfl, k1, t1⟩
  simp -implicitDefEqProofs only [a1, li_some, tri_pu]
  refine (lotN t1 (by omega) (by omega) (by omega) hns).mono ?_
  rintro _ τ2 ⟨n, rfl, n1, t2⟩
  have d0 : dEq (cI kd) (.int 0) = some (decide (kd = 0)) := dEq_c kd 0
  simp -implicitDefEqProofs only [d0, li_some, tri_pu, tri_ite, tri_bd, decide_eq_true_eq]
  by_cases c0 : kd = 0
  · have e3 : dMulT (.tuple [.int 2]) (cI n) = some (tN (List.replicate n 2)) := mulT_c 2 (by omega)
    rw [if_pos c0, e3]
    simp -implicitDefEqProofs only [li_some, tri_pu, feQ_rt]
    exact ⟨_, rfl, ⟨by rw [List.length_replicate]; omega, fun y m => by have := (List.mem_replicate.mp m).2; omega, fun y m => by have := (List.mem_replicate.mp m).2; omega⟩, by rw [List.length_replicate]; omega, t2.mono (by omega)⟩
  · rw [if_neg c0, rng_cI n (by omega)]
    simp -implicitDefEqProofs only [li_some, tri_pu, tri_bd]
    refine tri_mfR (c := cI) cI (fun _ y => 1 ≤ y ∧ y ≤ 4) (fun i τ => TB ns (k + 2 + 2 * i) τ) (List.range n) (fun d => rfl) t2 ?_ ?_
    · intro i x τ3 hx t3
      have hi : i < n := by
        have := (List.getElem?_eq_some_iff.mp hx).1
        simpa using this
      have s1 : dSub (cI kd) (.int 1) = some (cI (kd - 1)) := dSub_c (b := 1) (by omega)
      simp -implicitDefEqProofs only [u1, li_some, bd_pu, x1, tri_bd, tri_pu]
      refine (lotN (m := 4) t3 (by omega) (by decide) (by decide) hns).mono ?_
      rintro _ τ4 ⟨r, rfl, r1, t4⟩
      simp -implicitDefEqProofs only [a4, li_some, tri_pu]
      refine (lotN (m := 2) t4 (by omega) (by decide) (by decide) hns).mono ?_
      rintro _ τ5 ⟨r', rfl, r1', t5⟩
      obtain ⟨y, ey, y1, y2⟩ : ∃ y, dIdx (.list [cI (1 + r), cI (3 + r')]) (cI (kd - 1)) = some (cI y) ∧ 1 ≤ y ∧ y ≤ 4 := by
        have : kd - 1 = 0 ∨ kd - 1 = 1 := by omega
        rcases this with q | q
        · rw [q]; exact ⟨1 + r, rfl, by omega, by omega⟩
        · rw [q]; exact ⟨3 + r', rfl, by omega, by omega⟩
      simp -implicitDefEqProofs only [a3, s1, ey, li_some, tri_pu]
      exact ⟨⟨y, rfl, y1, y2⟩, t5.mono (by omega)⟩
    · intro ys τ3 hl hy t3
      rw [List.length_range] at hl t3
      have hm : ∀ y ∈ ys, 1 ≤ y ∧ y ≤ 4 := fun y m => by
        obtain ⟨i, hi, rfl⟩ := List.getElem_of_mem m
        exact hy i _ _ (List.getElem?_eq_getElem (by rw [List.length_range]; omega)) (List.getElem?_eq_getElem hi)
      simp -implicitDefEqProofs only [tri_pu, tri_bd, g1, dTup_l, li_some, feQ_rt]
      exact ⟨ys, rfl, ⟨by omega, fun y m => (hm y m).1, fun y m => (hm y m).2⟩, by omega, t3.mono (by omega)⟩
end Q


set_option maxRecDepth 100000
set_option maxHeartbeats 1000000
namespace Q
open DL PySem PySem.Spec PyProof.Rows L2 RZ

/-! families -/
theorem elow_loop {L : Type} : ∀ (y x : Nat), wh (L := L) m__law_e_low_b1 m__law_e_low_b2 (cI x, cI y) = pu (.nx (cI (Nat.gcd y x), cI 0)) := by
  intro y
  induction y using Nat.strongRecOn with
  | ind y ih =>
    intro x
    have t : m__law_e_low_b1 (cI x, cI y) = pu (!decide (y = 0)) := by
      have e : dNe (cI y) (.int 0) = some (!decide (y = 0)) := dNe_c y 0
      unfold m__law_e_low_b1
      simp -implicitDefEqProofs only [bd_pu, e, li_some]
    rw [wh_unf, wst, t, bd_pu]
    by_cases h : y = 0
    · subst h
      rw [decide_eq_true rfl, if_neg (by decide), Nat.gcd_zero_left]
    · have h2 : x % y < y := Nat.mod_lt _ (by omega)
      have b : m__law_e_low_b2 (cI x, cI y) = pu (.nx (cI y, cI (x % y))) := by
        unfold m__law_e_low_b2
        simp -implicitDefEqProofs only [bd_pu, dMod_c x y (by omega), li_some]
      rw [decide_eq_false h, if_pos (by rfl), b, bd_pu]
      show wh _ _ _ = _
      rw [ih _ h2 y, ← Nat.gcd_rec]
theorem elow_q (a b : Nat) {k : Nat} [s : SmI (b : Int) k] (h : 0 < b) (hk : k < 9000) : m__law_e_low (cI a) (cI b) = pu (fq (((a : Nat) : Rat) / ((b : Nat) : Rat))) := by
  have hb : (b : Int) ≠ 0 := by omega
  have q : wh (L := Empty) m__law_e_low_b1 m__law_e_low_b2 (cI a, cI b) = pu (.nx (.int (Int.gcd (a : Int) (b : Int)), cI 0)) := by
    rw [elow_loop b a, Nat.gcd_comm]
    rfl
  have e : fq (((a : Nat) : Rat) / ((b : Nat) : Rat)) = lowF (a : Int) (b : Int) := by
    rw [fq_low (by omega), Rat.intCast_natCast, Rat.intCast_natCast]
  unfold m__law_e_low
  simp -implicitDefEqProofs only [bd_pu, q, sq_nx]
  unfold cI
  simp -implicitDefEqProofs only [dDiv_i (gcd_pos (a := (a : Int)) hb) (gcd_log (a := (a : Int)) hb hk), li_some, bd_pu, fe_rt]
  rw [e]
  rfl
theorem dIn_true {α : Type} (f : α → Bool) (l : List α) : dIn (.bool true) (.list (l.map fun x => .bool (f x))) = some (l.any f) := by
  have a : (l.map fun x => PyData.bool (f x)).all isF = true := by
    rw [List.all_eq_true]
    intro d m
    obtain ⟨_, _, rfl⟩ := List.mem_map.mp m
    rfl
  show (if (isF (.bool true) && (l.map fun x => PyData.bool (f x)).all isF) || _ then some ((l.map fun x => PyData.bool (f x)).any fun z => PyData.eqv z (.bool true)) else none) = _
  rw [a]
  show some _ = some _
  congr 1
  rw [List.any_map]
  congr 1
  funext x
  show PyData.eqv (.bool (f x)) (.bool true) = f x
  cases f x <;> rfl
theorem dNin_false {α : Type} (f : α → Bool) (l : List α) : dNin (.bool false) (.list (l.map fun x => .bool (f x))) = some (l.all f) := by
  have a : (l.map fun x => PyData.bool (f x)).all isF = true := by
    rw [List.all_eq_true]
    intro d m
    obtain ⟨_, _, rfl⟩ := List.mem_map.mp m
    rfl
  show (if (isF (.bool false) && (l.map fun x => PyData.bool (f x)).all isF) || _ then some ((l.map fun x => PyData.bool (f x)).any fun z => PyData.eqv z (.bool false)) else none).map (!·) = _
  rw [a]
  show some _ = some _
  congr 1
  rw [List.any_map]
  have : ((fun z => PyData.eqv z (.bool false)) ∘ fun x => PyData.bool (f x)) = fun x => !f x := by
    funext x
    show PyData.eqv (.bool (f x)) (.bool false) = !f x
    cases f x <;> rfl
  rw [this, List.any_eq_not_all_not]
  simp
theorem eworth_ok {ways c : List Nat} {ws : List Wi} (h : OkS ways ws) (hc : OkC ways c) : m__law_e_worth (tS ways ws) (tN c) = pu (cI (wo c ws)) := by
  have q := fo_enc (L := Empty) (body := m__law_e_worth_b1 (tN c)) (enc := cI) (c := tW) (G := fun t w => if kept c w then t + w.w else t) (fun _ => True) (xs := ws) (s := 0) trivial fun t w m _ => by
    have ow := h.ok w m
    have u : uN 3 (tW w) = some [tK w.k, cI w.w, .tuple (w.ps.map tP)] := rfl
    have k1 : dEq (tK w.k) (.str "all") = some w.k := by cases w.k <;> rfl
    have k2 : dEq (tK w.k) (.str "some") = some (!w.k) := by cases w.k <;> rfl
    refine ⟨?_, trivial⟩
    unfold m__law_e_worth_b1
    simp -implicitDefEqProofs only [u, li_some, bd_pu, x3, dLst_t]
    rw [mf_map (c := tP) (g := fun p => .bool (metp c p)) (fun p _ => rfl) fun p mp => by
      have op := ow.ps p mp
      have u2 : uN 2 (tP p) = some [cI p.1, tN p.2] := rfl
      have hl : p.1 < c.length := by rw [hc.eq]; exact op.lt
      simp -implicitDefEqProofs only [u2, li_some, bd_pu, x2, dIdx_tN hl, dIn_tN, Option.map_some]
      rfl]
    simp -implicitDefEqProofs only [bd_pu, k1, k2, li_some, dNin_false, dIn_true]
    unfold kept
    cases hk : w.k with
    | true =>
      simp -implicitDefEqProofs only [if_true, bd_pu]
      cases w.ps.all (metp c) with
      | true => simp -implicitDefEqProofs only [if_true, bd_pu, dAdd_c, li_some, sq_nx]
      | false => simp -implicitDefEqProofs only [Bool.not_true, Bool.false_eq_true, if_false, bd_pu, sq_nx]
    | false =>
      simp -implicitDefEqProofs only [Bool.false_eq_true, if_false, Bool.not_false, if_true, bd_pu]
      cases w.ps.any (metp c) with
      | true => simp -implicitDefEqProofs only [if_true, bd_pu, dAdd_c, li_some, sq_nx]
      | false => simp -implicitDefEqProofs only [Bool.false_eq_true, if_false, bd_pu, sq_nx]
  have e : ∀ (l : List Wi) (t : Nat), l.foldl (fun t w => if kept c w = true then t + w.w else t) t = t + wo c l := by
    intro l
    induction l with
    | nil => intro t; rfl
    | cons w l ih =>
      intro t
      rw [List.foldl_cons, ih]
      unfold wo
      by_cases k : kept c w = true
      · rw [if_pos k, List.filter_cons_of_pos k, List.map_cons, List.sum_cons]; omega
      · rw [if_neg k, List.filter_cons_of_neg k]
  rw [e, Nat.zero_add] at q
  unfold m__law_e_worth
  simp -implicitDefEqProofs only [bd_pu, dIdx_S1, li_some, dLst_t]
  rw [show (PyData.int 0) = cI 0 from rfl, q.1]
  simp -implicitDefEqProofs only [sq_nx, bd_pu, fe_rt]
structure OkF (ways : List Nat) (f : List (List Nat)) : Prop where
  lo : 1 ≤ f.length
  hi : f.length ≤ 4096
  ok : ∀ c ∈ f, OkC ways c
theorem dLen_lt (f : List (List Nat)) : dLen (.list (f.map tN)) = some (cI f.length) := by rw [dLen_l, List.length_map]; rfl
theorem is_family_ok {ways : List Nat} {f : List (List Nat)} (h : OkF ways f) : m_is_family (tN ways) (.list (f.map tN)) = pu (.bool true) := by
  have l1 : dLe (.int 1) (cI f.length) = some true := by rw [show (PyData.int 1) = cI 1 from rfl, dLe_c, decide_eq_true h.lo]
  have l2 : dLe (cI f.length) (.int 4096) = some true := by rw [show (PyData.int 4096) = cI 4096 from rfl, dLe_c, decide_eq_true h.hi]
  unfold m_is_family
  simp -implicitDefEqProofs only [bd_pu, g1, dLen_lt, li_some, l1, if_true, l2, Bool.not_true, Bool.false_eq_true, if_false, dLst_l, u1, x1]
  rw [mf_map (c := tN) (g := fun _ => .bool true) (fun _ _ => rfl) fun c m => is_choosing_in_ok (h.ok c m)]
  simp -implicitDefEqProofs only [bd_pu, dAll_true, li_some, fe_rt]
theorem need_family_ok {ways : List Nat} {ws : List Wi} (hs : OkS ways ws) {f : List (List Nat)} (h : OkF ways f) : m_need_family (tS ways ws) (.list (f.map tN)) = pu .none := by
  unfold m_need_family
  simp -implicitDefEqProofs only [bd_pu, need_sheet_ok hs, dIdx_S0, li_some, is_family_ok h, dTru_b, Bool.not_true, Bool.false_eq_true, if_false, fe_nx]
def fmean (ws : List Wi) (f : List (List Nat)) : Rat := (((f.map fun c => wo c ws).sum : Nat) : Rat) / ((f.length : Nat) : Rat)
theorem family_mean_ok {ways : List Nat} {ws : List Wi} (hs : OkS ways ws) {f : List (List Nat)} (h : OkF ways f) : m_family_mean (tS ways ws) (.list (f.map tN)) = pu (fq (fmean ws f)) := by
  have hl := h.lo
  have hh := h.hi
  have s : SmI (f.length : Int) 20 := smNat (by omega)
  have e := lowest_q (((f.map fun c => wo c ws).sum : Nat) : Int) (f.length : Int) (by omega) (by decide)
  rw [Rat.intCast_natCast, Rat.intCast_natCast] at e
  have e' : m_lowest (cI (f.map fun c => wo c ws).sum) (cI f.length) = pu (fq (fmean ws f)) := e
  unfold m_family_mean
  simp -implicitDefEqProofs only [bd_pu, need_family_ok hs h, dLst_l, li_some, u1, x1]
  rw [mf_map (c := tN) (g := fun c => cI (wo c ws)) (fun _ _ => rfl) fun c m => worth_in_ok hs (h.ok c m)]
  simp -implicitDefEqProofs only [bd_pu, g1, dSum_cI, li_some, dLen_lt, e', fe_rt]
/-- the first that is worth most -/
def fat (f : List (List Nat)) (i : Nat) : List Nat := f.getD i []
def ftop (ws : List Wi) (f : List (List Nat)) : Nat := topN (fun i => wo (fat f i) ws) f.length
theorem map_fat {β : Type} (g : List Nat → β) (f : List (List Nat)) : f.map g = (List.range f.length).map fun i => g (fat f i) := by
  refine List.ext_getElem? fun i => ?_
  rw [List.getElem?_map, List.getElem?_map]
  by_cases h : i < f.length
  · rw [List.getElem?_range h, List.getElem?_eq_getElem h]
    show some (g f[i]) = some (g (f.getD i []))
    rw [List.getD_eq_getElem?_getD, List.getElem?_eq_getElem h]
    rfl
  · rw [List.getElem?_eq_none (by omega), List.getElem?_eq_none (by rw [List.length_range]; omega)]
    rfl
theorem fat_mem {f : List (List Nat)} {i : Nat} (h : i < f.length) : fat f i ∈ f := by
  unfold fat
  rw [List.getD_eq_getElem?_getD, List.getElem?_eq_getElem h]
  exact List.getElem_mem h
theorem best_of_ok {ways : List Nat} {ws : List Wi} (hs : OkS ways ws) {f : List (List Nat)} (h : OkF ways f) : m_best_of (tS ways ws) (.list (f.map tN)) = pu (tN (fat f (ftop ws f))) := by
  have q := fo_enc (L := Empty) (body := m_best_of_b1 (tS ways ws)) (enc := fun i => ((tN (fat f i), cI (wo (fat f i) ws)) : D × D)) (c := fun i => tN (fat f i)) (G := fun b w => if wo (fat f b) ws < wo (fat f w) ws then w else b) (fun _ => True) (xs := List.range f.length) (s := 0) trivial fun b w mw _ => by
    refine ⟨?_, trivial⟩
    have hw := List.mem_range.mp mw
    unfold m_best_of_b1
    simp -implicitDefEqProofs only [u1, li_some, bd_pu, x1, worth_in_ok hs (h.ok _ (fat_mem hw)), dGt_c]
    by_cases c : wo (fat f b) ws < wo (fat f w) ws
    · rw [decide_eq_true c, if_pos rfl, if_pos c, sq_nx]
    · rw [decide_eq_false c, if_neg Bool.false_ne_true, if_neg c, sq_nx]
  have hl := h.lo
  have i0 : dIdx (.list (f.map tN)) (.int 0) = some (tN (fat f 0)) := by
    have g : f[0]? = some (fat f 0) := by
      unfold fat
      rw [List.getD_eq_getElem?_getD, List.getElem?_eq_getElem (by omega)]
      rfl
    exact dIdx_lm (i := 0) g
  unfold m_best_of
  simp -implicitDefEqProofs only [bd_pu, need_family_ok hs h, i0, li_some, worth_in_ok hs (h.ok _ (fat_mem (show 0 < f.length by omega))), dLst_l]
  rw [map_fat tN f, q.1]
  simp -implicitDefEqProofs only [sq_nx, bd_pu, fe_rt]
  rfl
end Q


set_option maxRecDepth 100000
set_option maxHeartbeats 1000000
namespace Q
open DL PySem PySem.Spec PyProof.Rows L2 RZ

/-! ### data of any kind, nowhere wider than 59 -/
mutual
def wdB : D → Bool
  | .list ds => decide (ds.length < 60) && wdBs ds
  | .tuple ds => decide (ds.length < 60) && wdBs ds
  | _ => true
def wdBs : List D → Bool
  | [] => true
  | d :: ds => wdB d && wdBs ds
end
theorem wdBs_all : ∀ {ds : List D}, wdBs ds = true ↔ ∀ d ∈ ds, wdB d = true
  | [] => by simp [wdBs]
  | d :: ds => by
    simp only [wdBs, Bool.and_eq_true, wdBs_all (ds := ds), List.mem_cons, forall_eq_or_imp]
theorem wdB_t {ds : List D} (h : wdB (.tuple ds) = true) : ds.length < 60 ∧ ∀ d ∈ ds, wdB d = true := by
  simp only [wdB, Bool.and_eq_true, decide_eq_true_eq] at h
  exact ⟨h.1, wdBs_all.mp h.2⟩
structure Gy (n k : Nat) (d : D) : Prop where
  gx : Gx n k d
  wd : wdB d = true
theorem Gy.mono {n m k l : Nat} {d : D} (h : Gy n k d) (a : n ≤ m) (b : k ≤ l) : Gy m l d := ⟨h.gx.mono a b, h.wd⟩
theorem gy_none : Gy 1921 1 .none := ⟨gx_none, by simp only [wdB]⟩
theorem gy_bool (b : Bool) : Gy 1921 1 (.bool b) := ⟨gx_bool b, by simp only [wdB]⟩
theorem gy_int {i : Int} (h : i.natAbs.log2 < 1920) : Gy 1921 1 (.int i) := ⟨gx_int h, by simp only [wdB]⟩
theorem gy_cI {n : Nat} (h : n < 2 ^ 100) : Gy 1921 1 (cI n) := ⟨gx_cI h, by simp only [cI, wdB]⟩
theorem gy_str {x : Str} (h : (reprText x).length ≤ 1921) : Gy 1921 1 (.str x) := ⟨gx_str h, by simp only [wdB]⟩
theorem gy_dnil : Gy 1921 1 (.dict []) := ⟨gx_dnil, by simp only [wdB]⟩
def Hs (n k : Nat) (ds : List D) : Prop := ∀ d ∈ ds, Gy n k d
theorem Hs.gs {n k : Nat} {ds : List D} (h : Hs n k ds) : Gs n k ds := fun d m => (h d m).gx
theorem hs_nil {n k : Nat} : Hs n k [] := fun d m => by cases m
theorem hs_cons {n k : Nat} {d : D} {ds : List D} (h : Gy n k d) (h' : Hs n k ds) : Hs n k (d :: ds) := fun e m => by
  rcases List.mem_cons.mp m with rfl | m
  · exact h
  · exact h' e m
theorem hs_app {n k : Nat} {as bs : List D} (h : Hs n k as) (h' : Hs n k bs) : Hs n k (as ++ bs) := fun e m => by
  rcases List.mem_append.mp m with m | m
  · exact h e m
  · exact h' e m
theorem Hs.mono {n m k l : Nat} {ds : List D} (h : Hs n k ds) (a : n ≤ m) (b : k ≤ l) : Hs m l ds := fun d md => (h d md).mono a b
theorem Hs.take {n k : Nat} {ds : List D} (h : Hs n k ds) (i : Nat) : Hs n k (ds.take i) := fun d m => h d (List.mem_of_mem_take m)
theorem Hs.drop {n k : Nat} {ds : List D} (h : Hs n k ds) (i : Nat) : Hs n k (ds.drop i) := fun d m => h d (List.mem_of_mem_drop m)
theorem Hs.tup {n k : Nat} {ds : List D} (h : Hs n k ds) {m : Nat} (hm : ds.length ≤ m) (h60 : m < 60 := by decide) : Gy (m * (n + 2) + 3) (k + 1) (.tuple ds) :=
  ⟨h.gs.tup hm, by simp only [wdB, Bool.and_eq_true, decide_eq_true_eq]; exact ⟨by omega, wdBs_all.mpr fun d m => (h d m).wd⟩⟩
theorem Hs.list {n k : Nat} {ds : List D} (h : Hs n k ds) {m : Nat} (hm : ds.length ≤ m) (h60 : m < 60 := by decide) : Gy (m * (n + 2) + 3) (k + 1) (.list ds) :=
  ⟨h.gs.list hm, by simp only [wdB, Bool.and_eq_true, decide_eq_true_eq]; exact ⟨by omega, wdBs_all.mpr fun d m => (h d m).wd⟩⟩
theorem hs_cIs {l : List Nat} (h : ∀ x ∈ l, x < 2 ^ 100) : Hs 1921 1 (l.map cI) := fun d m => by
  obtain ⟨x, mx, rfl⟩ := List.mem_map.mp m
  exact gy_cI (h x mx)

/-! ### what is asked of things of any kind -/
/-- a whole number from .. to -/
def ftB (lo hi : Int) : D → Bool
  | .int i => decide (lo ≤ i) && decide (i ≤ hi)
  | _ => false
theorem is_from_to_any (lo hi : Int) (d : D) : m_is_from_to d (.int lo) (.int hi) = pu (.bool (ftB lo hi d)) := by
  unfold m_is_from_to
  cases d with
  | int i => by_cases h : lo ≤ i <;> simp [ftB, h]
  | bool b => simp [ftB]
  | _ => simp [ftB]
theorem is_whole_any (d : D) : m_is_whole d = pu (.bool (isI "int" d && !isI "bool" d)) := by
  unfold m_is_whole
  cases d with
  | int i => simp
  | bool b => simp
  | _ => simp
theorem asInts_ft {lo hi : Int} : ∀ {xs : List D}, xs.all (ftB lo hi) = true → ∃ is : List Int, xs = is.map .int ∧ ∀ i ∈ is, lo ≤ i ∧ i ≤ hi
  | [], _ => ⟨[], rfl, by simp⟩
  | x :: xs, h => by
    rw [List.all_cons, Bool.and_eq_true] at h
    obtain ⟨is, e, hi'⟩ := asInts_ft h.2
    cases x with
    | int i =>
      have := h.1
      simp only [ftB, Bool.and_eq_true, decide_eq_true_eq] at this
      refine ⟨i :: is, by rw [List.map_cons, ← e], fun j m => ?_⟩
      rcases List.mem_cons.mp m with rfl | m
      · exact this
      · exact hi' j m
    | _ => exact absurd h.1 (by simp [ftB])
def intB : D → Bool
  | .int _ => true
  | _ => false
theorem asInts_intB : ∀ {xs : List D}, xs.all intB = true → ∃ is : List Int, xs = is.map .int
  | [], _ => ⟨[], rfl⟩
  | x :: xs, h => by
    rw [List.all_cons, Bool.and_eq_true] at h
    obtain ⟨is, e⟩ := asInts_intB h.2
    cases x with
    | int i => exact ⟨i :: is, by rw [List.map_cons, ← e]⟩
    | _ => exact absurd h.1 (by simp [intB])
def riseB (is : List Int) : Bool := decide (is.Pairwise (· < ·))
theorem rise_adj {is : List Int} : is.Pairwise (· < ·) ↔ ∀ k, k + 1 < is.length → is.getD k 0 < is.getD (k + 1) 0 := by
  constructor
  · intro h k hk
    have := List.pairwise_iff_getElem.mp h k (k + 1) (by omega) hk (by omega)
    simp only [List.getD_eq_getElem?_getD, List.getElem?_eq_getElem hk, List.getElem?_eq_getElem (show k < is.length by omega), Option.getD_some]
    exact this
  · intro h
    have key : ∀ n k, k + n + 1 < is.length → is.getD k 0 < is.getD (k + n + 1) 0 := by
      intro n
      induction n with
      | zero => intro k hk; exact h k hk
      | succ n ih =>
        intro k hk
        have a := ih k (by omega)
        have b := h (k + n + 1) (by omega)
        rw [show k + (n + 1) + 1 = k + n + 1 + 1 by omega]
        omega
    refine List.pairwise_iff_getElem.mpr fun i j hi hj hij => ?_
    have := key (j - i - 1) i (by omega)
    rw [show i + (j - i - 1) + 1 = j by omega] at this
    simpa only [List.getD_eq_getElem?_getD, List.getElem?_eq_getElem hi, List.getElem?_eq_getElem hj, Option.getD_some] using this
theorem rise_all1 (is : List Int) : ((List.range' 1 (is.length - 1)).all fun k => decide (is.getD (k - 1) 0 < is.getD k 0)) = riseB is := by
  unfold riseB
  rw [Bool.eq_iff_iff, List.all_eq_true, decide_eq_true_iff, rise_adj]
  constructor
  · intro h k hk
    have := h (k + 1) (List.mem_range'_1.mpr ⟨by omega, by omega⟩)
    simpa using this
  · intro h k m
    have hk := List.mem_range'_1.mp m
    have := h (k - 1) (by omega)
    rw [show k - 1 + 1 = k by omega] at this
    simpa using this
theorem rise_all0 (is : List Int) : ((List.range (is.length - 1)).all fun k => decide (is.getD k 0 < is.getD (k + 1) 0)) = riseB is := by
  unfold riseB
  rw [Bool.eq_iff_iff, List.all_eq_true, decide_eq_true_iff, rise_adj]
  constructor
  · intro h k hk
    have := h k (List.mem_range.mpr (by omega))
    simpa using this
  · intro h k m
    have hk := List.mem_range.mp m
    have := h k (by omega)
    simpa using this
theorem dIdx_ti {is : List Int} {i : Nat} (h : i < is.length) : dIdx (.tuple (is.map .int)) (.int (i : Int)) = some (.int (is.getD i 0)) := dIdx_tm (f := PyData.int) (by rw [List.getD_eq_getElem?_getD, List.getElem?_eq_getElem h]; rfl)
theorem dEq_tnil (xs : List D) : dEq (.tuple xs) (.tuple []) = some xs.isEmpty := by
  have e : PyData.eqv (.tuple xs) (.tuple []) = xs.isEmpty := by cases xs <;> simp [PyData.eqv, PyData.eqvAll]
  show (if SeqAt.shaped (.tuple xs) && SeqAt.shaped (.tuple []) then some (PyData.eqv (.tuple xs) (.tuple [])) else some xs.isEmpty) = _
  rw [e]
  split <;> rfl
theorem srtS_self : ∀ {l : List Int}, l.Pairwise (· < ·) → srtS l = l := by
  intro l h
  have ext : ∀ {a b : List Int}, a.Pairwise (· < ·) → b.Pairwise (· < ·) → (∀ x, x ∈ a ↔ x ∈ b) → a = b := by
    intro a
    induction a with
    | nil =>
      intro b _ _ m
      cases b with
      | nil => rfl
      | cons y b => exact absurd ((m y).mpr List.mem_cons_self) (by simp)
    | cons x a ih =>
      intro b ha hb m
      cases b with
      | nil => exact absurd ((m x).mp List.mem_cons_self) (by simp)
      | cons y b =>
        obtain ⟨ha1, ha2⟩ := List.pairwise_cons.mp ha
        obtain ⟨hb1, hb2⟩ := List.pairwise_cons.mp hb
        have e : x = y := by
          rcases List.mem_cons.mp ((m x).mp List.mem_cons_self) with e | m1
          · exact e
          · rcases List.mem_cons.mp ((m y).mpr List.mem_cons_self) with e | m2
            · exact e.symm
            · have := hb1 x m1
              have := ha1 y m2
              omega
        subst e
        rw [ih ha2 hb2 fun z => ?_]
        constructor
        · intro mz
          rcases List.mem_cons.mp ((m z).mp (List.mem_cons_of_mem _ mz)) with rfl | q
          · exact absurd (ha1 z mz) (by omega)
          · exact q
        · intro mz
          rcases List.mem_cons.mp ((m z).mpr (List.mem_cons_of_mem _ mz)) with rfl | q
          · exact absurd (hb1 z mz) (by omega)
          · exact q
  exact ext (srtS_srt l) h fun x => srtS_mem
theorem srtS_eq (l : List Int) : decide (l = srtS l) = riseB l := by
  unfold riseB
  apply decide_eq_decide.mpr
  constructor
  · intro h
    rw [h]
    exact srtS_srt l
  · intro h
    exact (srtS_self h).symm
theorem dEq_li (a b : List Int) : dEq (.list (a.map .int)) (.list (b.map .int)) = some (decide (a = b)) := by
  have sh : ∀ l : List Int, Sh 64 (.list (l.map .int)) := fun l => (sh_list (n := 1) fun d m => by
    obtain ⟨i, _, rfl⟩ := List.mem_map.mp m
    exact sh_int i).mono (by decide)
  rw [dEq_ll (sh a) (sh b)]
  congr 1
  rw [Bool.eq_iff_iff, decide_eq_true_iff]
  clear sh
  induction a generalizing b with
  | nil => cases b <;> simp [PyData.eqvAll]
  | cons x a ih =>
    cases b with
    | nil => simp [PyData.eqvAll]
    | cons y b =>
      have e : PyData.eqv (.int x) (.int y) = decide (x = y) := by
        simp only [PyData.eqv]
        by_cases h : x = y <;> simp [h]
      simp only [List.map_cons, PyData.eqvAll, e, Bool.and_eq_true, decide_eq_true_eq, ih b, List.cons.injEq]
theorem dIn_falseB (f : D → Bool) (l : List D) : dIn (.bool false) (.list (l.map fun x => .bool (f x))) = some (!l.all f) := by
  have := dNin_false f l
  unfold dNin at this
  cases h : dIn (.bool false) (.list (l.map fun x => PyData.bool (f x))) with
  | none => rw [h] at this; cases this
  | some b =>
    rw [h] at this
    have := Option.some.inj this
    rw [← this]
    simp

/-! ### books of any kind -/
def setB (n : Int) : D → Bool
  | .tuple xs => !xs.isEmpty && (xs.all (ftB 0 (n - 1)) && riseB ((asInts xs).getD []))
  | _ => false
theorem setB_else {n : Int} {d : D} (h : isI "tuple" d = false) : setB n d = false := by
  cases d with
  | tuple xs => cases h
  | _ => rfl
theorem is_set_of_any (n : Int) {d : D} (hw : wdB d = true) : m_is_set_of (.int n) d = pu (.bool (setB n d)) := by
  unfold m_is_set_of
  rcases isI_t_cases d with ⟨xs, rfl⟩ | hd
  · obtain ⟨hl, _⟩ := wdB_t hw
    by_cases he : xs = []
    · subst he
      simp -implicitDefEqProofs only [bd_pu, isI_tt, dTru_b, li_some, Bool.not_true, Bool.false_eq_true, if_false, dEq_tnil, List.isEmpty_nil, if_true, fe_rt]
      rfl
    · have ie : xs.isEmpty = false := by cases xs with | nil => exact absurd rfl he | cons => rfl
      have pos : 1 ≤ xs.length := by cases xs with | nil => exact absurd rfl he | cons => simp
      simp -implicitDefEqProofs only [bd_pu, isI_tt, dTru_b, li_some, Bool.not_true, Bool.false_eq_true, if_false, dEq_tnil, ie, dLst_t, dSub_i, g1]
      rw [mf_D (t := fun d => bd (li (u1 d)) fun _ => pu true) (g := fun x => .bool (ftB 0 (n - 1) x)) (fun x _ => rfl) fun x _ => by
        simp -implicitDefEqProofs only [u1, li_some, bd_pu, x1, is_from_to_any]]
      simp -implicitDefEqProofs only [bd_pu, dAll_mapf, li_some, dTru_b, setB, ie, Bool.not_false, Bool.true_and]
      by_cases ha : xs.all (ftB 0 (n - 1)) = true
      · obtain ⟨is, rfl, hi⟩ := asInts_ft ha
        rw [List.length_map] at hl pos
        have e3 : dRng2 (.int 1) (.int ((is.length : Nat) : Int)) = some ((List.range' 1 (is.length - 1)).map cI) := dRng2_c (a := 1) pos (by omega)
        simp -implicitDefEqProofs only [ha, Bool.not_true, Bool.false_eq_true, if_false, dLen_t, List.length_map, li_some, bd_pu, e3, Bool.true_and, asInts_map, Option.getD_some]
        rw [mf_map (c := cI) (g := fun k => .bool (decide (is.getD (k - 1) 0 < is.getD k 0))) (fun x _ => rfl) fun k m => by
          have hk := List.mem_range'_1.mp m
          have e4 : dSub (cI k) (.int 1) = some (cI (k - 1)) := dSub_c (b := 1) (by omega)
          have a1 : dIdx (.tuple (is.map .int)) (cI (k - 1)) = some (.int (is.getD (k - 1) 0)) := dIdx_ti (by omega)
          have a2 : dIdx (.tuple (is.map .int)) (cI k) = some (.int (is.getD k 0)) := dIdx_ti (by omega)
          simp -implicitDefEqProofs only [u1, li_some, bd_pu, x1, e4, a1, a2, dLt_i, Option.map_some]]
        simp -implicitDefEqProofs only [bd_pu, dAll_mapf, li_some, rise_all1, fe_rt]
      · have ha' : xs.all (ftB 0 (n - 1)) = false := by simpa using ha
        simp -implicitDefEqProofs only [ha', Bool.not_false, if_true, Bool.false_and, fe_rt, bd_pu]
  · simp -implicitDefEqProofs only [bd_pu, hd, dTru_b, li_some, Bool.not_false, if_true, setB_else hd, fe_rt]
def bookB : D → Bool
  | .tuple [.int n, .tuple ss] => ftB 1 10 (.int n) && (decide (ss.length ≤ 16) && ss.all (setB n))
  | _ => false
/-- what a pair is -/
theorem bookB_ft {a b : D} (h : ftB 1 10 a = false) : bookB (.tuple [a, b]) = false := by
  cases a with
  | int n =>
    cases b with
    | tuple ss => simp only [bookB, h, Bool.false_and]
    | _ => rfl
  | _ => rfl
theorem is_book_any {d : D} (hw : wdB d = true) : m_is_book d = pu (.bool (bookB d)) := by
  unfold m_is_book
  rcases isI_t_cases d with ⟨xs, rfl⟩ | hd
  · match xs, hw with
    | [], _ => rfl
    | [x], _ =>
      have e : dNe (.int (([x] : List D).length : Nat)) (.int 2) = some true := rfl
      have e' : bookB (.tuple [x]) = false := by cases x <;> rfl
      simp -implicitDefEqProofs only [bd_pu, isI_tt, dTru_b, li_some, Bool.not_true, Bool.false_eq_true, if_false, g1, dLen_t, e, if_true, fe_rt, e']
    | x :: y :: z :: xs, _ =>
      have e : dNe (.int ((x :: y :: z :: xs).length : Nat)) (.int 2) = some true := by
        rw [dNe_i, decide_eq_false (by simp; omega)]
        rfl
      simp -implicitDefEqProofs only [bd_pu, isI_tt, dTru_b, li_some, Bool.not_true, Bool.false_eq_true, if_false, g1, dLen_t, e, if_true, fe_rt]
      cases x with
      | int n => cases y <;> rfl
      | _ => rfl
    | [a, b], hw =>
      have e2 : dNe (.int ((2 : Nat) : Int)) (.int 2) = some false := rfl
      simp -implicitDefEqProofs only [bd_pu, isI_tt, dTru_b, li_some, Bool.not_true, Bool.false_eq_true, if_false, g1, dLen_t, List.length_cons, List.length_nil, Nat.zero_add, Nat.reduceAdd, e2, dIdx_t0, is_from_to_any]
      by_cases hf : ftB 1 10 a = true
      · cases a with
        | int n =>
          simp -implicitDefEqProofs only [hf, Bool.not_true, Bool.false_eq_true, if_false, bd_pu, uN, List.length_cons, List.length_nil, Nat.zero_add, Nat.reduceAdd, if_true, li_some, x2]
          rcases isI_t_cases b with ⟨ss, rfl⟩ | hb
          · have hws := (wdB_t hw).2 (.tuple ss) (by simp)
            by_cases hl : ss.length ≤ 16
            · simp -implicitDefEqProofs only [isI_tt, dTru_b, li_some, bd_pu, Bool.not_true, Bool.false_eq_true, if_false, dLen_t, dGt_i, decide_eq_false (show ¬ (16 : Int) < (ss.length : Nat) by omega), dLst_t]
              rw [mf_D (t := fun d => bd (li (u1 d)) fun _ => pu true) (g := fun x => .bool (setB n x)) (fun x _ => rfl) fun x mx => by
                simp -implicitDefEqProofs only [u1, li_some, bd_pu, x1, is_set_of_any n ((wdB_t hws).2 x mx)]]
              simp -implicitDefEqProofs only [bd_pu, dAll_mapf, li_some, fe_rt, bookB, hf, decide_eq_true hl, Bool.true_and]
            · simp -implicitDefEqProofs only [isI_tt, dTru_b, li_some, bd_pu, Bool.not_true, Bool.false_eq_true, if_false, dLen_t, dGt_i, decide_eq_true (show (16 : Int) < (ss.length : Nat) by omega), if_true, fe_rt, bookB, decide_eq_false hl, Bool.false_and, Bool.and_false]
          · simp -implicitDefEqProofs only [hb, dTru_b, li_some, bd_pu, Bool.not_false, if_true, fe_rt]
            cases b with
            | tuple ss => cases hb
            | _ => rfl
        | _ => exact absurd hf (by simp [ftB])
      · have hf' : ftB 1 10 a = false := by simpa using hf
        simp -implicitDefEqProofs only [hf', Bool.not_false, if_true, bd_pu, fe_rt, bookB_ft hf']
  · have e : bookB d = false := by
      cases d with
      | tuple xs => cases hd
      | _ => rfl
    simp -implicitDefEqProofs only [bd_pu, hd, dTru_b, li_some, Bool.not_false, if_true, fe_rt, e]
end Q


set_option maxRecDepth 100000
set_option maxHeartbeats 1000000
namespace Q
open DL PySem PySem.Spec PyProof.Rows L2 RZ

/-! ### boards of any kind -/
def isTB : D → Bool
  | .tuple _ => true
  | _ => false
theorem isI_isTB (d : D) : isI "tuple" d = isTB d := by
  cases d with
  | tuple xs => rfl
  | _ => simp [isTB]
theorem law_whole_any (d : D) : m__law_b_whole d = pu (.bool (intB d)) := by
  unfold m__law_b_whole
  cases d with
  | int i => simp [intB]
  | bool b => simp [intB]
  | _ => simp [intB]
theorem is_whole_any' (d : D) : m_is_whole d = pu (.bool (intB d)) := by
  unfold m_is_whole
  cases d with
  | int i => simp [intB]
  | bool b => simp [intB]
  | _ => simp [intB]
theorem num_any (x : D) : (bd (tb (.bool (intB x))) fun k21 => if k21 then (bd (pu (PyData.int (-9))) fun d16 => bd (pu x) fun d17 => bd (li (dLe d16 d17)) fun k19 => if k19 then bd (pu (PyData.int 9)) fun d18 => li ((dLe d17 d18).map PyData.bool) else pu (PyData.bool false)) else pu (PyData.bool false)) = pu (.bool (ftB (-9) 9 x)) := by
  cases x with
  | int i => by_cases h : -9 ≤ i <;> simp [ftB, intB, h]
  | _ => simp [ftB, intB]
def rowB (cols : Int) : D → Bool
  | .tuple xs => decide ((xs.length : Int) = cols) && xs.all (ftB (-9) 9)
  | _ => false
theorem is_row_any (cols : Int) (d : D) : m_is_row (.int cols) d = pu (.bool (rowB cols d)) := by
  unfold m_is_row
  rcases isI_t_cases d with ⟨xs, rfl⟩ | hd
  · by_cases hl : (xs.length : Int) = cols
    · simp -implicitDefEqProofs only [bd_pu, isI_tt, dTru_b, li_some, Bool.not_true, Bool.false_eq_true, if_false, g1, dLen_t, dNe_i, decide_eq_true hl, dLst_t]
      rw [mf_D (t := fun d => bd (li (u1 d)) fun _ => pu true) (g := fun x => .bool (ftB (-9) 9 x)) (fun x _ => rfl) fun x _ => by
        have := num_any x
        simp -implicitDefEqProofs only [bd_pu] at this
        simp -implicitDefEqProofs only [u1, li_some, bd_pu, x1, is_whole_any', dNeg_i]
        exact this]
      simp -implicitDefEqProofs only [bd_pu, dAll_mapf, li_some, fe_rt, rowB, decide_eq_true hl, Bool.true_and]
    · simp -implicitDefEqProofs only [bd_pu, isI_tt, dTru_b, li_some, Bool.not_true, Bool.false_eq_true, if_false, g1, dLen_t, dNe_i, decide_eq_false hl, Bool.not_false, if_true, fe_rt, rowB, Bool.false_and]
  · have e : rowB cols d = false := by
      cases d with
      | tuple xs => cases hd
      | _ => rfl
    simp -implicitDefEqProofs only [bd_pu, hd, dTru_b, li_some, Bool.not_false, if_true, fe_rt, e]
def colsT : List D → Nat
  | .tuple r :: _ => r.length
  | _ => 0
def boardB : D → Bool
  | .tuple rs => decide (rs.length ≤ 8) && (rs.all isTB && (decide (colsT rs ≤ 10) && rs.all (rowB (colsT rs))))
  | _ => false
theorem boardB_else {d : D} (h : isI "tuple" d = false) : boardB d = false := by
  cases d with
  | tuple xs => cases h
  | _ => rfl
theorem columns_any {rs : List D} (h : rs.all isTB = true) : m_columns_of (.tuple rs) = pu (.int (colsT rs)) := by
  unfold m_columns_of
  cases rs with
  | nil => rfl
  | cons r rs =>
    rw [List.all_cons, Bool.and_eq_true] at h
    cases r with
    | tuple xs =>
      simp -implicitDefEqProofs only [bd_pu, dEq_tnil, List.isEmpty_cons, li_some, Bool.false_eq_true, if_false, dIdx_t0, g1, dLen_t, fe_rt]
      rfl
    | _ => exact absurd h.1 (by simp [isTB])
theorem is_board_any (d : D) : m_is_board d = pu (.bool (boardB d)) := by
  unfold m_is_board
  rcases isI_t_cases d with ⟨rs, rfl⟩ | hd
  · by_cases hl : rs.length ≤ 8
    · simp -implicitDefEqProofs only [bd_pu, isI_tt, dTru_b, li_some, Bool.not_true, Bool.false_eq_true, if_false, g1, dLen_t, dGt_i, decide_eq_false (show ¬ (8 : Int) < (rs.length : Nat) by omega), dLst_t]
      rw [mf_D (t := fun d => bd (li (u1 d)) fun _ => pu true) (g := fun x => .bool (isTB x)) (fun x _ => rfl) fun x _ => by
        simp -implicitDefEqProofs only [u1, li_some, bd_pu, x1, isI_isTB]]
      simp -implicitDefEqProofs only [bd_pu, dAll_mapf, li_some, dTru_b, boardB, decide_eq_true hl, Bool.true_and]
      by_cases ht : rs.all isTB = true
      · simp -implicitDefEqProofs only [ht, Bool.not_true, Bool.false_eq_true, if_false, columns_any ht, bd_pu, dLe_i, Option.map_some, li_some, tb_bool, Bool.true_and]
        by_cases hc : colsT rs ≤ 10
        · simp -implicitDefEqProofs only [decide_eq_true (show ((colsT rs : Nat) : Int) ≤ 10 by omega), decide_eq_true hc, if_true, Bool.true_and]
          rw [mf_D (t := fun d => bd (li (u1 d)) fun _ => pu true) (g := fun x => .bool (rowB (colsT rs) x)) (fun x _ => rfl) fun x _ => by
            simp -implicitDefEqProofs only [u1, li_some, bd_pu, x1, is_row_any]]
          simp -implicitDefEqProofs only [bd_pu, dAll_mapf, li_some, fe_rt]
        · simp -implicitDefEqProofs only [decide_eq_false (show ¬ ((colsT rs : Nat) : Int) ≤ 10 by omega), decide_eq_false hc, Bool.false_eq_true, if_false, Bool.false_and, fe_rt, bd_pu]
      · have ht' : rs.all isTB = false := by simpa using ht
        simp -implicitDefEqProofs only [ht', Bool.not_false, if_true, Bool.false_and, fe_rt, bd_pu]
    · simp -implicitDefEqProofs only [bd_pu, isI_tt, dTru_b, li_some, Bool.not_true, Bool.false_eq_true, if_false, g1, dLen_t, dGt_i, decide_eq_true (show (8 : Int) < (rs.length : Nat) by omega), if_true, fe_rt, boardB, decide_eq_false hl, Bool.false_and]
  · simp -implicitDefEqProofs only [bd_pu, hd, dTru_b, li_some, Bool.not_false, if_true, fe_rt, boardB_else hd]
end Q


set_option maxRecDepth 100000
set_option maxHeartbeats 4000000
namespace K13
open Q DL PySem PySem.Spec PyProof.Rows L2 RZ
/-! what the defs compute -/
noncomputable section
def m__law_b_is_b1 (a_thing : D) : Unit → D → M (Fl Unit Unit) := fun (s11 : Unit) d49 => bd (li (u1 d49)) (x1 fun d12 => bd (bd (bd (bd (bd (pu d12) fun d13 => pu (PyData.bool (isI "tuple" d13))) fun d14 => li (dTru d14)) fun k15 => pu (!k15)) fun k26 => if k26 then pu true else (bd (bd (bd (pu d12) fun d16 => li (g1 dLen [d16])) fun d17 => bd (pu (PyData.int 10)) fun d18 => li (dGt d17 d18)) fun k25 => if k25 then pu true else (bd (bd (pu d12) fun d19 => li (g1 dLen [d19])) fun d23 => bd (bd (bd (pu a_thing) fun d20 => bd (pu (PyData.int 0)) fun d21 => li (dIdx d20 d21)) fun d22 => li (g1 dLen [d22])) fun d24 => li (dNe d23 d24)))) fun k27 => if k27 then (bd (pu (PyData.bool false)) fun d28 => pu (.rt d28)) else (bd (bd (bd (bd (bd (bd (bd (pu d12) fun d29 => li (dLst d29)) fun l31 => mf l31 (fun d32 => bd (li (u1 d32)) (fun _ => pu true)) (fun d32 => bd (li (u1 d32)) (x1 fun d30 => bd (bd (pu d30) fun d33 => m__law_b_whole d33) fun d39 => bd (tb d39) fun k40 => if k40 then (bd (bd (pu (PyData.int 9)) fun d34 => li (dNeg d34)) fun d35 => bd (pu d30) fun d36 => bd (li (dLe d35 d36)) fun k38 => if k38 then bd (pu (PyData.int 9)) fun d37 => li ((dLe d36 d37).map PyData.bool) else pu (PyData.bool false)) else pu (PyData.bool false)))) fun l41 => pu (PyData.list l41)) fun d42 => li (g1 dAll [d42])) fun d43 => li (dTru d43)) fun k44 => pu (!k44)) fun k45 => if k45 then (bd (pu (PyData.bool false)) fun d46 => pu (.rt d46)) else (pu (.nx ()))))
def m__law_b_is (a_thing : D) : M D := fe false (bd (bd (bd (bd (bd (pu a_thing) fun d1 => pu (PyData.bool (isI "tuple" d1))) fun d2 => li (dTru d2)) fun k3 => pu (!k3)) fun k7 => if k7 then pu true else (bd (bd (pu a_thing) fun d4 => li (g1 dLen [d4])) fun d5 => bd (pu (PyData.int 8)) fun d6 => li (dGt d5 d6))) fun k8 => if k8 then (bd (pu (PyData.bool false)) fun d9 => pu (.rt d9)) else (sq (bd (bd (pu a_thing) fun d10 => li (dLst d10)) fun l48 => fo (m__law_b_is_b1 a_thing) l48 ()) fun s11 : Unit => bd (pu (PyData.bool true)) fun d47 => pu (.rt d47)))
def m__law_b_shifted (a_tape : Nat) (a_board : D) : M D := fe false (bd (bd (bd (bd (pu a_board) fun d1 => li (g1 dLen [d1])) fun d2 => bd (pu (PyData.int 2)) fun d3 => li (dLt d2 d3)) fun k8 => if k8 then pu true else (bd (bd (pu a_board) fun d4 => bd (pu (PyData.int 0)) fun d5 => li (dIdx d4 d5)) fun d6 => bd (pu (PyData.tuple [])) fun d7 => li (dEq d6 d7))) fun k9 => if k9 then (bd (bd (pu []) fun l10 => pu (PyData.list l10)) fun d11 => pu (.rt d11)) else (bd (bd (bd (pu a_board) fun d13 => li (g1 dLen [d13])) fun d14 => m__law_b_take a_tape d14) fun d12 => bd (bd (bd (bd (pu d12) fun d16 => bd (pu (PyData.int 1)) fun d17 => li (dAdd d16 d17)) fun d22 => bd (bd (bd (bd (pu a_board) fun d18 => li (g1 dLen [d18])) fun d19 => bd (pu (PyData.int 1)) fun d20 => li (dSub d19 d20)) fun d21 => m__law_b_take a_tape d21) fun d23 => li (dAdd d22 d23)) fun d25 => bd (bd (pu a_board) fun d24 => li (g1 dLen [d24])) fun d26 => li (dMod d25 d26)) fun d15 => bd (bd (pu a_board) fun d28 => li (g1 dLst [d28])) fun l29 => bd (bd (bd (bd (pu (PyData.list l29)) fun d30 => bd (pu d15) fun d31 => li (dIdx d30 d31)) fun d37 => bd (bd (bd (pu (PyData.list l29)) fun d32 => bd (pu d12) fun d33 => li (dIdx d32 d33)) fun d34 => bd (pu none) fun o35 => bd (bd (pu (PyData.int 1)) oInt) fun o36 => li (dCut d34 o35 o36)) fun d38 => li (dAdd d37 d38)) nl) fun d39 => bd (pu d15) fun d40 => bd (li (setD l29 d40 d39)) fun l41 => bd (bd (bd (bd (pu (PyData.list l41)) fun d42 => bd (pu d12) fun d43 => li (dIdx d42 d43)) fun d44 => bd (bd (pu (PyData.int 1)) oInt) fun o45 => bd (pu none) fun o46 => li (dCut d44 o45 o46)) nl) fun d47 => bd (pu d12) fun d48 => bd (li (setD l41 d48 d47)) fun l49 => bd (bd (bd (bd (pu (PyData.list l49)) fun d50 => li (g1 dTup [d50])) fun d51 => pu [d51]) fun l52 => pu (PyData.list l52)) fun d53 => pu (.rt d53)))
def m__law_b_bent_b1 (d121 : D) (d124 : D) : D → D → M (Fl D D) := fun (s179 : D) d244 => bd (li (u1 d244)) (x1 fun d180 => bd (bd (pu s179) fun d209 => bd (bd (bd (bd (bd (bd (pu d121) fun d182 => bd (pu none) fun o183 => bd (bd (pu d124) oInt) fun o184 => li (dCut d182 o183 o184)) fun d186 => bd (bd (pu d180) fun d185 => pu (PyData.tuple [d185])) fun d187 => li (dAdd d186 d187)) fun d193 => bd (bd (pu d121) fun d188 => bd (bd (bd (pu d124) fun d189 => bd (pu (PyData.int 1)) fun d190 => li (dAdd d189 d190)) oInt) fun o191 => bd (pu none) fun o192 => li (dCut d188 o191 o192)) fun d194 => li (dAdd d193 d194)) fun d206 => bd (bd (bd (bd (pu d121) fun d195 => bd (pu none) fun o196 => bd (bd (pu d124) oInt) fun o197 => li (dCut d195 o196 o197)) fun d199 => bd (bd (pu d180) fun d198 => pu (PyData.tuple [d198])) fun d200 => li (dAdd d199 d200)) fun d204 => bd (bd (pu d121) fun d201 => bd (bd (pu d124) oInt) fun o202 => bd (pu none) fun o203 => li (dCut d201 o202 o203)) fun d205 => li (dAdd d204 d205)) fun d207 => pu [d206, d207]) fun l208 => pu (PyData.list l208)) fun d210 => li (dAdd d209 d210)) fun d181 => pu (.nx d181))
def m__law_b_bent_b2 (a_board : D) (a_tape : Nat) (d1 : D) : D → D → M (Fl D D) := fun (s116 : D) d247 => bd (li (u1 d247)) (x1 fun d117 => bd (bd (bd (pu a_board) fun d119 => li (g1 dLen [d119])) fun d120 => m__law_b_take a_tape d120) fun d118 => bd (bd (pu a_board) fun d122 => bd (pu d118) fun d123 => li (dIdx d122 d123)) fun d121 => bd (bd (bd (bd (pu d121) fun d125 => li (g1 dLen [d125])) fun d126 => bd (pu (PyData.int 1)) fun d127 => li (dAdd d126 d127)) fun d128 => m__law_b_take a_tape d128) fun d124 => bd (bd (bd (bd (pu d121) fun d131 => bd (bd (pu (PyData.int 0)) fun d130 => pu (PyData.tuple [d130])) fun d132 => li (dAdd d131 d132)) fun d141 => bd (bd (pu d121) fun d133 => bd (bd (pu (PyData.int 1)) oInt) fun o134 => bd (pu none) fun o135 => li (dCut d133 o134 o135)) fun d142 => bd (bd (bd (pu d121) fun d136 => li (g1 dLst [d136])) fun l137 => pu (PyData.list l137)) fun d143 => bd (pu PyData.none) fun d144 => bd (pu (PyData.str "")) fun d145 => bd (pu (PyData.str "0")) fun d146 => bd (pu (PyData.int 0)) fun d147 => bd (pu (PyData.dict [])) fun d148 => bd (pu (PyData.tuple [])) fun d149 => bd (bd (pu d121) fun d138 => bd (pu d121) fun d139 => li (dAdd d138 d139)) fun d150 => bd (bd (pu d121) fun d140 => pu (PyData.tuple [d140])) fun d151 => pu [d141, d142, d143, d144, d145, d146, d147, d148, d149, d150, d151]) fun l152 => pu (PyData.list l152)) fun d129 => sq (bd (bd (bd (bd (pu (PyData.int 10)) fun d163 => bd (bd (pu (PyData.int 10)) fun d153 => li (dNeg d153)) fun d164 => bd (bd (pu (PyData.int 10)) fun d154 => bd (pu d1) fun d155 => li (dAdd d154 d155)) fun d165 => bd (bd (bd (pu (PyData.int 10)) fun d156 => li (dNeg d156)) fun d157 => bd (pu d1) fun d158 => li (dSub d157 d158)) fun d166 => bd (pu (PyData.bool true)) fun d167 => bd (pu (PyData.bool false)) fun d168 => bd (pu PyData.none) fun d169 => bd (pu (PyData.str "1")) fun d170 => bd (bd (pu (PyData.int 1)) fun d159 => pu (PyData.tuple [d159])) fun d171 => bd (bd (bd (pu (PyData.int 1)) fun d160 => pu [d160]) fun l161 => pu (PyData.list l161)) fun d172 => bd (pu (PyData.dict [])) fun d173 => bd (pu (PyData.str "")) fun d174 => bd (pu (PyData.int 9)) fun d175 => bd (bd (pu (PyData.int 9)) fun d162 => li (dNeg d162)) fun d176 => pu [d163, d164, d165, d166, d167, d168, d169, d170, d171, d172, d173, d174, d175, d176]) fun l177 => pu (PyData.list l177)) fun d178 => li (dLst d178)) fun l243 => fo (m__law_b_bent_b1 d121 d124) l243 d129) fun s179 : D => bd (bd (pu s116) fun d230 => bd (bd (bd (bd (pu s179) fun d212 => li (dLst d212)) fun l214 => mf l214 (fun d215 => bd (li (u1 d215)) (fun _ => pu true)) (fun d215 => bd (li (u1 d215)) (x1 fun d213 => bd (bd (bd (pu a_board) fun d216 => bd (pu none) fun o217 => bd (bd (pu d118) oInt) fun o218 => li (dCut d216 o217 o218)) fun d220 => bd (bd (pu d213) fun d219 => pu (PyData.tuple [d219])) fun d221 => li (dAdd d220 d221)) fun d227 => bd (bd (pu a_board) fun d222 => bd (bd (bd (pu d118) fun d223 => bd (pu (PyData.int 1)) fun d224 => li (dAdd d223 d224)) oInt) fun o225 => bd (pu none) fun o226 => li (dCut d222 o225 o226)) fun d228 => li (dAdd d227 d228)))) fun l229 => pu (PyData.list l229)) fun d231 => li (dCat d230 d231)) fun l232 => bd (bd (bd (bd (bd (pu a_board) fun d233 => li (dLst d233)) fun l235 => mf l235 (fun d236 => bd (li (u1 d236)) (fun _ => pu true)) (fun d236 => bd (li (u1 d236)) (x1 fun d234 => bd (pu d234) fun d237 => bd (pu none) fun o238 => bd (bd (pu d124) oInt) fun o239 => li (dCut d237 o238 o239)))) fun l240 => pu (PyData.list l240)) fun d241 => li (g1 dTup [d241])) fun d242 => bd (ck (decide (l232.length < 16777216))) fun _ => pu (.nx (PyData.list (l232 ++ [d242]))))
def m__law_b_bent (a_tape : Nat) (a_board : D) : M D := fe false (bd (bd (bd (pu (PyData.int 10)) fun d2 => bd (pu (PyData.int 20)) fun d3 => li (dPow d2 d3)) fun d4 => m__law_b_take a_tape d4) fun d1 => bd (bd (bd (bd (bd (pu a_board) fun d6 => li (g1 dLst [d6])) fun l7 => pu (PyData.list l7)) fun d22 => bd (pu PyData.none) fun d23 => bd (pu (PyData.str "")) fun d24 => bd (pu (PyData.str "1")) fun d25 => bd (pu (PyData.dict [])) fun d26 => bd (pu (PyData.int 0)) fun d27 => bd (pu (PyData.bool true)) fun d28 => bd (bd (pu []) fun l8 => pu (PyData.list l8)) fun d29 => bd (bd (pu a_board) fun d9 => pu (PyData.tuple [d9])) fun d30 => bd (bd (pu a_board) fun d12 => bd (bd (bd (pu (PyData.int 0)) fun d10 => pu (PyData.tuple [d10])) fun d11 => pu (PyData.tuple [d11])) fun d13 => li (dAdd d12 d13)) fun d31 => bd (bd (pu a_board) fun d15 => bd (bd (pu (PyData.tuple [])) fun d14 => pu (PyData.tuple [d14])) fun d16 => li (dAdd d15 d16)) fun d32 => bd (bd (bd (pu a_board) fun d17 => bd (pu a_board) fun d18 => li (dAdd d17 d18)) fun d19 => bd (pu none) fun o20 => bd (bd (pu (PyData.int 9)) oInt) fun o21 => li (dCut d19 o20 o21)) fun d33 => pu [d22, d23, d24, d25, d26, d27, d28, d29, d30, d31, d32, d33]) fun l34 => pu (PyData.list l34)) fun d5 => bd (bd (pu d5) fun d65 => bd (bd (bd (bd (bd (pu (PyData.int 0)) fun d36 => bd (pu (PyData.int 0)) fun d37 => pu (PyData.tuple [d36, d37])) fun d42 => bd (bd (pu (PyData.int 0)) fun d38 => pu (PyData.tuple [d38])) fun d43 => bd (bd (pu (PyData.int 0)) fun d39 => bd (pu (PyData.int 0)) fun d40 => bd (pu (PyData.int 0)) fun d41 => pu (PyData.tuple [d39, d40, d41])) fun d44 => pu (PyData.tuple [d42, d43, d44])) fun d60 => bd (bd (bd (pu (PyData.int 1)) fun d45 => bd (pu (PyData.int 2)) fun d46 => bd (pu (PyData.int 3)) fun d47 => pu (PyData.tuple [d45, d46, d47])) fun d51 => bd (bd (pu (PyData.int 4)) fun d48 => pu (PyData.tuple [d48])) fun d52 => bd (bd (pu (PyData.int 5)) fun d49 => bd (pu (PyData.int 6)) fun d50 => pu (PyData.tuple [d49, d50])) fun d53 => pu (PyData.tuple [d51, d52, d53])) fun d61 => bd (bd (pu (PyData.tuple [])) fun d55 => bd (bd (pu (PyData.int 0)) fun d54 => pu (PyData.tuple [d54])) fun d56 => pu (PyData.tuple [d55, d56])) fun d62 => bd (bd (bd (pu (PyData.int 0)) fun d57 => pu (PyData.tuple [d57])) fun d58 => bd (pu (PyData.tuple [])) fun d59 => pu (PyData.tuple [d58, d59])) fun d63 => pu [d60, d61, d62, d63]) fun l64 => pu (PyData.list l64)) fun d66 => li (dAdd d65 d66)) fun d35 => bd (bd (pu d35) fun d69 => bd (bd (pu a_board) fun d68 => m__law_b_shifted a_tape d68) fun d70 => li (dAdd d69 d70)) fun d67 => bd (bd (pu d67) fun d108 => bd (bd (bd (bd (pu a_board) fun d76 => bd (bd (bd (bd (pu (PyData.int 0)) fun d72 => pu (PyData.tuple [d72])) fun d73 => bd (pu (PyData.int 10)) fun d74 => li (dMulT d73 d74)) fun d75 => pu (PyData.tuple [d75])) fun d77 => li (dAdd d76 d77)) fun d101 => bd (bd (bd (bd (pu (PyData.int 0)) fun d78 => pu (PyData.tuple [d78])) fun d79 => bd (pu (PyData.int 11)) fun d80 => li (dMulT d79 d80)) fun d81 => pu (PyData.tuple [d81])) fun d102 => bd (bd (bd (bd (bd (pu (PyData.int 9)) fun d82 => pu (PyData.tuple [d82])) fun d83 => bd (pu (PyData.int 10)) fun d84 => li (dMulT d83 d84)) fun d85 => pu (PyData.tuple [d85])) fun d86 => bd (pu (PyData.int 8)) fun d87 => li (dMulT d86 d87)) fun d103 => bd (bd (bd (bd (bd (bd (pu (PyData.int 9)) fun d88 => li (dNeg d88)) fun d89 => pu (PyData.tuple [d89])) fun d90 => bd (pu (PyData.int 10)) fun d91 => li (dMulT d90 d91)) fun d92 => pu (PyData.tuple [d92])) fun d93 => bd (pu (PyData.int 9)) fun d94 => li (dMulT d93 d94)) fun d104 => bd (bd (bd (pu (PyData.tuple [])) fun d95 => pu (PyData.tuple [d95])) fun d96 => bd (pu (PyData.int 8)) fun d97 => li (dMulT d96 d97)) fun d105 => bd (bd (bd (pu (PyData.tuple [])) fun d98 => pu (PyData.tuple [d98])) fun d99 => bd (pu (PyData.int 9)) fun d100 => li (dMulT d99 d100)) fun d106 => pu [d101, d102, d103, d104, d105, d106]) fun l107 => pu (PyData.list l107)) fun d109 => li (dAdd d108 d109)) fun d71 => sq (bd (bd (bd (pu (PyData.int 2)) fun d113 => bd (bd (bd (pu a_board) fun d110 => bd (pu (PyData.tuple [])) fun d111 => li ((dNe d110 d111).map PyData.bool)) fun d112 => li (g1 dInt [d112])) fun d114 => li (dMul d113 d114)) fun d115 => li (dRng1 d115)) fun l246 => fo (m__law_b_bent_b2 a_board a_tape d1) l246 d71) fun s116 : D => bd (pu s116) fun d245 => pu (.rt d245))
def m_law_b1  : Unit → D → M (Fl Unit Unit) := fun (s29 : Unit) d49 => bd (li (u1 d49)) (x1 fun d30 => bd (bd (pu d30) fun d32 => li (g1 dRepr [d32])) fun d31 => bd (bd (pu d30) fun d34 => m_is_board d34) fun d33 => bd (bd (bd (bd (bd (pu d33) fun d35 => pu (PyData.bool (isI "bool" d35))) fun d36 => li (dTru d36)) fun k37 => pu (!k37)) fun k45 => if k45 then pu true else (bd (bd (pu d33) fun d39 => bd (bd (pu d30) fun d38 => m__law_b_is d38) fun d40 => li (dNe d39 d40)) fun k44 => if k44 then pu true else (bd (bd (pu d30) fun d41 => li (g1 dRepr [d41])) fun d42 => bd (pu d31) fun d43 => li (dNe d42 d43)))) fun k46 => if k46 then (bd (pu (PyData.bool false)) fun d47 => pu (.rt d47)) else (pu (.nx ())))
def m_law_b2 (n5 : Nat) (a_script : D) : Unit → D → M (Fl Unit Unit) := fun (s8 : Unit) d52 => bd (li (u1 d52)) (x1 fun d9 => bd (bd (bd (pu d9) fun d10 => bd (pu (PyData.int 1)) fun d11 => li (dGt d10 d11)) fun k17 => if k17 then (bd (bd (pu (PyData.int 1)) fun d12 => bd (mget n5) fun l13 => li (dIdx (PyData.list l13) d12)) fun d15 => bd (bd (pu a_script) fun d14 => li (g1 dLen [d14])) fun d16 => li (dGe d15 d16)) else pu false) fun k18 => if k18 then (pu (.bk ())) else (bd (bd (pu (PyData.int 8)) fun d20 => bd (pu (PyData.int 10)) fun d21 => m__law_b_board n5 d20 d21) fun d19 => bd (bd (bd (pu d19) fun d22 => m_is_board d22) fun d23 => bd (pu (PyData.bool true)) fun d24 => li (dNis d23 d24)) fun k25 => if k25 then (bd (pu (PyData.bool false)) fun d26 => pu (.rt d26)) else (sq (bd (bd (bd (pu d19) fun d27 => m__law_b_bent n5 d27) fun d28 => li (dLst d28)) fun l48 => fo m_law_b1 l48 ()) fun s29 : Unit => pu (.nx ()))))
def m_law (a_script : D) : M D := fe false (bd (bd (pu a_script) fun d2 => bd (pu (PyData.int 0)) fun d3 => bd (pu (PyData.int 0)) fun d4 => pu [d2, d3, d4]) fun l6 => bd (mnew l6) fun n5 => sq (bd (bd (pu (PyData.int 4)) fun d7 => li (dRng1 d7)) fun l51 => fo (m_law_b2 n5 a_script) l51 ()) fun s8 : Unit => bd (pu (PyData.bool true)) fun d50 => pu (.rt d50))
end
end K13


set_option maxRecDepth 100000
set_option maxHeartbeats 2000000
namespace K13
open Q DL PySem PySem.Spec PyProof.Rows L2 RZ

theorem num_any2 (x : D) : (bd (pu x) fun d30 => bd (bd (pu d30) fun d33 => m__law_b_whole d33) fun d39 => bd (tb d39) fun k40 => if k40 then (bd (bd (pu (PyData.int 9)) fun d34 => li (dNeg d34)) fun d35 => bd (pu d30) fun d36 => bd (li (dLe d35 d36)) fun k38 => if k38 then bd (pu (PyData.int 9)) fun d37 => li ((dLe d36 d37).map PyData.bool) else pu (PyData.bool false)) else pu (PyData.bool false)) = pu (.bool (ftB (-9) 9 x)) := by
  have := num_any x
  simp -implicitDefEqProofs only [bd_pu] at this
  simp -implicitDefEqProofs only [li_some, bd_pu, law_whole_any, dNeg_i]
  exact this
def okRow (n : Nat) : D → Bool
  | .tuple xs => decide (xs.length ≤ 10) && (decide (xs.length = n) && xs.all (ftB (-9) 9))
  | _ => false
theorem is_b1_any {r0 : List D} {rs : List D} (d : D) : m__law_b_is_b1 (.tuple (.tuple r0 :: rs)) () d = pu (if okRow r0.length d = true then .nx () else .rt (.bool false)) := by
  unfold m__law_b_is_b1
  simp -implicitDefEqProofs only [u1, li_some, bd_pu, x1]
  rcases isI_t_cases d with ⟨xs, rfl⟩ | hd
  · by_cases h10 : xs.length ≤ 10
    · by_cases hl : xs.length = r0.length
      · simp -implicitDefEqProofs only [isI_tt, dTru_b, li_some, bd_pu, Bool.not_true, Bool.false_eq_true, if_false, DL.g1, dLen_t, dGt_i, decide_eq_false (show ¬ (10 : Int) < (xs.length : Nat) by omega), dIdx_t0, dNe_i, decide_eq_true (show ((xs.length : Nat) : Int) = (r0.length : Nat) by omega), dLst_t]
        rw [mf_D (t := fun d => pu true) (g := fun x => .bool (ftB (-9) 9 x)) (fun x _ => rfl) fun x _ => by
          have := num_any2 x
          simp -implicitDefEqProofs only [bd_pu] at this
          exact this]
        simp -implicitDefEqProofs only [bd_pu, dAll_mapf, li_some, dTru_b, okRow, decide_eq_true h10, decide_eq_true hl, Bool.true_and]
        cases xs.all (ftB (-9) 9) with
        | true => rfl
        | false => rfl
      · simp -implicitDefEqProofs only [isI_tt, dTru_b, li_some, bd_pu, Bool.not_true, Bool.false_eq_true, if_false, DL.g1, dLen_t, dGt_i, decide_eq_false (show ¬ (10 : Int) < (xs.length : Nat) by omega), dIdx_t0, dNe_i, decide_eq_false (show ¬ ((xs.length : Nat) : Int) = (r0.length : Nat) by omega), Bool.not_false, if_true, okRow, decide_eq_false hl, Bool.false_and, Bool.and_false]
    · simp -implicitDefEqProofs only [isI_tt, dTru_b, li_some, bd_pu, Bool.not_true, Bool.false_eq_true, if_false, DL.g1, dLen_t, dGt_i, decide_eq_true (show (10 : Int) < (xs.length : Nat) by omega), if_true, okRow, decide_eq_false h10, Bool.false_and]
  · have e : okRow r0.length d = false := by
      cases d with
      | tuple xs => cases hd
      | _ => rfl
    simp -implicitDefEqProofs only [hd, dTru_b, li_some, bd_pu, Bool.not_false, if_true, e, Bool.false_eq_true, if_false]
theorem rows_eq {r0 : List D} {rs : List D} : (PyData.tuple r0 :: rs).all (okRow r0.length) = ((PyData.tuple r0 :: rs).all isTB && (decide (r0.length ≤ 10) && (PyData.tuple r0 :: rs).all (rowB (r0.length : Nat)))) := by
  rw [Bool.eq_iff_iff]
  simp only [Bool.and_eq_true, List.all_eq_true, decide_eq_true_eq]
  constructor
  · intro h
    refine ⟨fun d m => ?_, ?_, fun d m => ?_⟩
    · have := h d m
      cases d with
      | tuple xs => rfl
      | _ => exact absurd this (by simp [okRow])
    · have := h _ List.mem_cons_self
      simp only [okRow, Bool.and_eq_true, decide_eq_true_eq] at this
      exact this.1
    · have := h d m
      cases d with
      | tuple xs =>
        simp only [okRow, rowB, Bool.and_eq_true, decide_eq_true_eq] at this ⊢
        exact ⟨by omega, this.2.2⟩
      | _ => exact absurd this (by simp [okRow])
  · rintro ⟨h1, h2, h3⟩ d m
    have := h3 d m
    cases d with
    | tuple xs =>
      simp only [okRow, rowB, Bool.and_eq_true, decide_eq_true_eq] at this ⊢
      exact ⟨by omega, by omega, this.2⟩
    | _ => exact absurd this (by simp [rowB])
theorem law_is_any (d : D) : m__law_b_is d = pu (.bool (boardB d)) := by
  unfold m__law_b_is
  rcases isI_t_cases d with ⟨rs, rfl⟩ | hd
  · by_cases hl : rs.length ≤ 8
    · simp -implicitDefEqProofs only [bd_pu, isI_tt, dTru_b, li_some, Bool.not_true, Bool.false_eq_true, if_false, DL.g1, dLen_t, dGt_i, decide_eq_false (show ¬ (8 : Int) < (rs.length : Nat) by omega), dLst_t]
      cases rs with
      | nil => rfl
      | cons r0 rs =>
        rcases isI_t_cases r0 with ⟨xs, rfl⟩ | h0
        · rw [fo_leave (p := okRow xs.length) (r := .bool false) fun x mx => is_b1_any x, rows_eq]
          have e : boardB (.tuple (.tuple xs :: rs)) = ((PyData.tuple xs :: rs).all isTB && (decide (xs.length ≤ 10) && (PyData.tuple xs :: rs).all (rowB (xs.length : Nat)))) := by
            show (decide ((PyData.tuple xs :: rs).length ≤ 8) && _) = _
            rw [decide_eq_true hl]
            rfl
          rw [e]
          cases ((PyData.tuple xs :: rs).all isTB && (decide (xs.length ≤ 10) && (PyData.tuple xs :: rs).all (rowB (xs.length : Nat)))) with
          | true => simp -implicitDefEqProofs only [if_true, sq_nx, bd_pu, fe_rt]
          | false => simp -implicitDefEqProofs only [Bool.false_eq_true, if_false, sq_rt, fe_rt]
        · have e : m__law_b_is_b1 (.tuple (r0 :: rs)) () r0 = pu (.rt (.bool false)) := by
            unfold m__law_b_is_b1
            simp -implicitDefEqProofs only [u1, li_some, bd_pu, x1, h0, dTru_b, Bool.not_false, if_true]
          have e2 : boardB (.tuple (r0 :: rs)) = false := by
            have : isTB r0 = false := by rw [← isI_isTB]; exact h0
            simp only [boardB, List.all_cons, this, Bool.false_and, Bool.and_false]
          rw [fo, e, bd_pu, e2]
          simp -implicitDefEqProofs only [sq_rt, fe_rt]
    · simp -implicitDefEqProofs only [bd_pu, isI_tt, dTru_b, li_some, Bool.not_true, Bool.false_eq_true, if_false, DL.g1, dLen_t, dGt_i, decide_eq_true (show (8 : Int) < (rs.length : Nat) by omega), if_true, fe_rt, boardB, decide_eq_false hl, Bool.false_and]
  · simp -implicitDefEqProofs only [bd_pu, hd, dTru_b, li_some, Bool.not_false, if_true, fe_rt, boardB_else hd]
theorem thing_ok {d : D} (g : Gx 2000000 6 d) : m_law_b1 () d = pu (.nx ()) := by
  obtain ⟨s, es⟩ := gx_repr g
  unfold m_law_b1
  simp -implicitDefEqProofs only [u1, li_some, bd_pu, x1, DL.g1, es, is_board_any, isI_bb, dTru_b, Bool.not_true, Bool.false_eq_true, if_false, law_is_any, dNe_bb, decide_true, dNe_str_self]
/-! the things -/
theorem setD_i {l : List D} {i : Nat} {x : D} (h : i < l.length) : setD l (.int (i : Int)) x = some (l.set i x) := by
  have e : ixN l.length (i : Int) = some i := by
    unfold ixN
    simp
    omega
  unfold setD
  simp only [e]
  rfl
theorem noL_tR (r : List Int) : nl (tR r) = pu (tR r) := by
  have key : ∀ r : List Int, noLs (r.map PyData.int) = true := fun r => by
    induction r with
    | nil => simp only [List.map_nil, noLs]
    | cons x r ih => simp only [List.map_cons, noLs, noL, ih, Bool.and_self]
  have e : noL (tR r) = true := by
    show noL (.tuple (r.map PyData.int)) = true
    simp only [noL, key]
  unfold nl
  rw [e]
  rfl
theorem len_tB (b : List (List Int)) : dLen (tB b) = some (.int (b.length : Nat)) := by
  show some (PyData.int ((b.map tR).length : Nat)) = _
  rw [List.length_map]
theorem log2_lt9 {x : Int} (h : -9 ≤ x ∧ x ≤ 9) : x.natAbs.log2 < 1920 := by
  have := log2_le (n := x.natAbs) (k := 99) (by omega)
  omega
theorem gs_ints {r : List Int} (h : ∀ x ∈ r, -9 ≤ x ∧ x ≤ 9) : Gs 3000 2 (r.map .int) := fun d m => by
  obtain ⟨x, mx, rfl⟩ := List.mem_map.mp m
  have := h x mx
  exact (gx_int (log2_lt9 this)).mono (by decide) (by decide)
theorem gx_tR {r : List Int} (h : ∀ x ∈ r, -9 ≤ x ∧ x ≤ 9) (hl : r.length ≤ 22) : Gx 70000 3 (tR r) := ((gs_ints h).tup (m := 22) (by rw [List.length_map]; exact hl)).mono (by decide) (by decide)
theorem gx_bd {l : List D} (h : Gs 70000 4 l) (hl : l.length ≤ 17) : Gx 1200000 5 (.tuple l) := (h.tup (m := 17) hl).mono (by decide) (by decide)
section
variable {ns : List Int} {b : List (List Int)} {w : Nat}
theorem gs_rows (hb : Bd b w) : Gs 70000 3 (b.map tR) := fun d m => by
  obtain ⟨r, mr, rfl⟩ := List.mem_map.mp m
  exact gx_tR (hb.num r mr) (by rw [hb.row r mr]; have := hb.wide; omega)
theorem row_at (i : Nat) (h : i < b.length) : b.getD i [] ∈ b ∧ b[i]? = some (b.getD i []) := by
  rw [List.getD_eq_getElem?_getD, List.getElem?_eq_getElem h]
  exact ⟨List.getElem_mem h, rfl⟩
theorem shifted_ok {k : Nat} {τ : T} (h : TB ns k τ) (hk : k < 2 ^ 50) (hns : ns.length ≤ 63) (hb : Bd b w) : Tri (m__law_b_shifted 0 (tB b)) τ fun d τ' => ∃ L, d = .list L ∧ L.length ≤ 1 ∧ Gs 2000000 6 L ∧ TB ns (k + 2) τ' := by
  have h8 := hb.len
  have h10 := hb.wide
  unfold m__law_b_shifted
  simp -implicitDefEqProofs only [tri_fe, tri_bd, tri_pu, DL.g1, len_tB, li_some, dLt_i]
  by_cases c : (b.length : Int) < 2
  · simp -implicitDefEqProofs only [decide_eq_true c, if_true, tri_bd, tri_pu, feQ_rt]
    exact ⟨[], rfl, by simp, gs_nil, h.mono (by omega)⟩
  · have i0 : dIdx (tB b) (.int 0) = some (tR (b.getD 0 [])) := dIdx_tm (i := 0) (row_at 0 (by omega)).2
    have e0 : dEq (tR (b.getD 0 [])) (.tuple []) = some ((b.getD 0 []).map PyData.int).isEmpty := dEq_tnil _
    simp -implicitDefEqProofs only [decide_eq_false c, Bool.false_eq_true, if_false, tri_bd, tri_pu, i0, li_some, e0]
    by_cases z : ((b.getD 0 []).map PyData.int).isEmpty = true
    · simp -implicitDefEqProofs only [z, if_true, tri_bd, tri_pu, feQ_rt]
      exact ⟨[], rfl, by simp, gs_nil, h.mono (by omega)⟩
    · have z' : ((b.getD 0 []).map PyData.int).isEmpty = false := by simpa using z
      simp -implicitDefEqProofs only [z', Bool.false_eq_true, if_false, tri_bd, tri_pu, li_some, dSub_i, len_tB]
      refine (takeB (m := (b.length : Nat)) h (by omega) (by omega) (Nat.lt_of_le_of_lt (log2_int (k := 63) (by omega) (by omega)) (by decide)) hns).mono ?_
      rintro _ τ1 ⟨a, rfl, a0, a1, t1⟩
      simp -implicitDefEqProofs only [dAdd_i, li_some, tri_pu]
      refine (takeB (m := (b.length : Nat) - 1) t1 (by omega) (by omega) (Nat.lt_of_le_of_lt (log2_int (k := 63) (by omega) (by omega)) (by decide)) hns).mono ?_
      rintro _ τ2 ⟨s, rfl, s0, s1, t2⟩
      have md : dMod (.int (a + 1 + s)) (.int (b.length : Nat)) = some (.int ((a + 1 + s) % (b.length : Nat))) := dMod_i (by omega)
      obtain ⟨to, eto, hto⟩ : ∃ to : Nat, (a + 1 + s) % (b.length : Int) = (to : Int) ∧ to < b.length := by
        have h1 := Int.emod_nonneg (a + 1 + s) (show (b.length : Int) ≠ 0 by omega)
        have h2 := Int.emod_lt_of_pos (a + 1 + s) (show (0 : Int) < (b.length : Int) by omega)
        exact ⟨((a + 1 + s) % (b.length : Int)).toNat, by omega, by omega⟩
      obtain ⟨at_, rfl⟩ : ∃ n : Nat, a = (n : Int) := ⟨a.toNat, by omega⟩
      have hat : at_ < b.length := by omega
      have l0 : dLst (tB b) = some (b.map tR) := rfl
      have i1 : dIdx (.list (b.map tR)) (.int (to : Int)) = some (tR (b.getD to [])) := dIdx_lm (row_at to hto).2
      have i2 : dIdx (.list (b.map tR)) (.int (at_ : Int)) = some (tR (b.getD at_ [])) := dIdx_lm (row_at at_ hat).2
      have c1 : dCut (tR (b.getD at_ [])) none (some 1) = some (tR ((b.getD at_ []).take 1)) := by
        show some (PyData.tuple (DL.cutD ((b.getD at_ []).map PyData.int) none (some ((1 : Nat) : Int)))) = _
        rw [cut_to, ← List.map_take]
      have l1 : (b.getD to []).length = w := hb.row _ (row_at to hto).1
      have l2 : (b.getD at_ []).length = w := hb.row _ (row_at at_ hat).1
      have a1' : dAdd (tR (b.getD to [])) (tR ((b.getD at_ []).take 1)) = some (tR (b.getD to [] ++ (b.getD at_ []).take 1)) := by
        show dAdd (.tuple ((b.getD to []).map PyData.int)) (.tuple (((b.getD at_ []).take 1).map PyData.int)) = _
        rw [dAdd_tt (by rw [List.length_map, List.length_map, List.length_take]; omega), ← List.map_append]
      have st1 : setD (b.map tR) (.int (to : Int)) (tR (b.getD to [] ++ (b.getD at_ []).take 1)) = some ((b.set to (b.getD to [] ++ (b.getD at_ []).take 1)).map tR) := by rw [setD_i (by simpa using hto), List.map_set]
      generalize hB2 : b.set to (b.getD to [] ++ (b.getD at_ []).take 1) = b2 at *
      have lb2 : b2.length = b.length := by rw [← hB2]; simp
      have hr2 : ∀ r ∈ b2, r.length ≤ 20 ∧ ∀ x ∈ r, -9 ≤ x ∧ x ≤ 9 := fun r m => by
        rw [← hB2] at m
        rcases List.mem_or_eq_of_mem_set m with m | rfl
        · exact ⟨by rw [hb.row r m]; omega, hb.num r m⟩
        · refine ⟨by rw [List.length_append, List.length_take]; omega, fun x mx => ?_⟩
          rcases List.mem_append.mp mx with mx | mx
          · exact hb.num _ (row_at to hto).1 x mx
          · exact hb.num _ (row_at at_ hat).1 x (List.mem_of_mem_take mx)
      have hat2 : at_ < b2.length := by omega
      have i3 : dIdx (.list (b2.map tR)) (.int (at_ : Int)) = some (tR (b2.getD at_ [])) := dIdx_lm (row_at at_ hat2).2
      have c2 : dCut (tR (b2.getD at_ [])) (some 1) none = some (tR ((b2.getD at_ []).drop 1)) := by
        show some (PyData.tuple (DL.cutD ((b2.getD at_ []).map PyData.int) (some ((1 : Nat) : Int)) none)) = _
        rw [cut_from, ← List.map_drop]
      have st2 : setD (b2.map tR) (.int (at_ : Int)) (tR ((b2.getD at_ []).drop 1)) = some ((b2.set at_ ((b2.getD at_ []).drop 1)).map tR) := by rw [setD_i (by simpa using hat2), List.map_set]
      simp -implicitDefEqProofs only [dAdd_i, li_some, tri_pu, md, eto, tri_bd, l0, i1, i2, oInt_i, c1, a1', noL_tR, st1, i3, c2, st2, dTup_l, feQ_rt]
      refine ⟨_, rfl, by simp, gs_cons ((gx_bd (fun d m => ?_) (by simp; omega)).mono (by decide) (by decide)) gs_nil, t2.mono (by omega)⟩
      obtain ⟨r, mr, rfl⟩ := List.mem_map.mp m
      rcases List.mem_or_eq_of_mem_set mr with mr | rfl
      · exact (gx_tR (hr2 r mr).2 (by have := (hr2 r mr).1; omega)).mono (by decide) (by decide)
      · have := hr2 _ (row_at at_ hat2).1
        exact (gx_tR (fun x mx => this.2 x (List.mem_of_mem_drop mx)) (by rw [List.length_drop]; omega)).mono (by decide) (by decide)
theorem odds_loop {r : List Int} (hr : ∀ x ∈ r, -9 ≤ x ∧ x ≤ 9) (hl : r.length ≤ 10) {here : Nat} (hh : here ≤ 10) : ∀ (os acc : List D), Gs 3000 2 os → acc.length + 2 * os.length ≤ 1000 → Gs 70000 4 acc →
    ∃ l, fo (L := D) (m__law_b_bent_b1 (tR r) (.int (here : Nat))) os (.list acc) = pu (.nx (.list l)) ∧ Gs 70000 4 l ∧ l.length = acc.length + 2 * os.length
  | [], acc, _, _, g => ⟨acc, rfl, g, rfl⟩
  | o :: os, acc, go, hn, g => by
    rw [List.length_cons] at hn
    have rg := gs_ints hr
    have q1 : dCut (tR r) none (some ((here : Nat) : Int)) = some (.tuple ((r.map .int).take here)) := cut_t (r.map .int) here
    have q2 : dCut (tR r) (some ((here : Nat) : Int)) none = some (.tuple ((r.map .int).drop here)) := cut_tf (r.map .int) here
    have q3 : dCut (tR r) (some (((here : Nat) : Int) + 1)) none = some (.tuple ((r.map .int).drop (here + 1))) := cut_tf (r.map .int) (here + 1)
    have q4 : dAdd (.tuple ((r.map .int).take here)) (.tuple [o]) = some (.tuple ((r.map .int).take here ++ [o])) := dAdd_tt (by simp; omega)
    have q5 : dAdd (.tuple ((r.map .int).take here ++ [o])) (.tuple ((r.map .int).drop here)) = some (.tuple ((r.map .int).take here ++ [o] ++ (r.map .int).drop here)) := dAdd_tt (by simp; omega)
    have q6 : dAdd (.tuple ((r.map .int).take here ++ [o])) (.tuple ((r.map .int).drop (here + 1))) = some (.tuple ((r.map .int).take here ++ [o] ++ (r.map .int).drop (here + 1))) := dAdd_tt (by simp; omega)
    have q7 : dAdd (.list acc) (.list [.tuple ((r.map .int).take here ++ [o] ++ (r.map .int).drop (here + 1)), .tuple ((r.map .int).take here ++ [o] ++ (r.map .int).drop here)]) = some (.list (acc ++ [.tuple ((r.map .int).take here ++ [o] ++ (r.map .int).drop (here + 1)), .tuple ((r.map .int).take here ++ [o] ++ (r.map .int).drop here)])) := dAdd_ll (by simp; omega)
    have g2 : ∀ l : List D, Gs 3000 2 l → l.length ≤ 22 → Gx 70000 4 (.tuple l) := fun l gl hl => (gl.tup (m := 22) hl).mono (by decide) (by decide)
    have st : m__law_b_bent_b1 (tR r) (.int (here : Nat)) (.list acc) o = pu (.nx (.list (acc ++ [.tuple ((r.map .int).take here ++ [o] ++ (r.map .int).drop (here + 1)), .tuple ((r.map .int).take here ++ [o] ++ (r.map .int).drop here)]))) := by
      unfold m__law_b_bent_b1
      simp -implicitDefEqProofs only [u1, li_some, bd_pu, x1, oInt_i, dAdd_i, q1, q2, q3, q4, q5, q6, q7]
    have g3 := gs_app (gs_app (rg.take here) (gs_cons (go o List.mem_cons_self) gs_nil)) (rg.drop (here + 1))
    have g4 := gs_app (gs_app (rg.take here) (gs_cons (go o List.mem_cons_self) gs_nil)) (rg.drop here)
    obtain ⟨l, e, gl, ll⟩ := odds_loop hr hl hh os (acc ++ [.tuple ((r.map .int).take here ++ [o] ++ (r.map .int).drop (here + 1)), .tuple ((r.map .int).take here ++ [o] ++ (r.map .int).drop here)]) (fun d m => go d (List.mem_cons_of_mem _ m)) (by simp; omega)
      (gs_app g (gs_cons (g2 _ g3 (by simp; omega)) (gs_cons (g2 _ g4 (by simp; omega)) gs_nil)))
    rw [fo, st, bd_pu]
    exact ⟨l, e, gl, by rw [ll]; simp; omega⟩
theorem bent_turn (hb : Bd b w) (ne : b ≠ []) {far : Int} (hf0 : 0 ≤ far) (hf : far < 10 ^ 20) {F : List D} (gF : Gs 2000000 6 F) (lF : F.length ≤ 500) (x : D) {k : Nat} {τ : T} (h : TB ns k τ) (hk : k < 2 ^ 50) (hns : ns.length ≤ 63) :
    Tri (m__law_b_bent_b2 (tB b) 0 (.int far) (.list F) x) τ fun f τ' => ∃ l, f = .nx (.list l) ∧ Gs 2000000 6 l ∧ l.length ≤ F.length + 50 ∧ TB ns (k + 2) τ' := by
  have h8 := hb.len
  have h10 := hb.wide
  have hpos : 0 < b.length := List.length_pos_iff.mpr ne
  unfold m__law_b_bent_b2
  simp -implicitDefEqProofs only [u1, li_some, bd_pu, x1, DL.g1, len_tB, tri_bd]
  refine (takeB (m := (b.length : Nat)) h (by omega) (by omega) (Nat.lt_of_le_of_lt (log2_int (k := 63) (by omega) (by omega)) (by decide)) hns).mono ?_
  rintro _ τ1 ⟨a, rfl, a0, a1, t1⟩
  obtain ⟨at_, rfl⟩ : ∃ n : Nat, a = (n : Int) := ⟨a.toNat, by omega⟩
  have hat : at_ < b.length := by omega
  have i1 : dIdx (tB b) (.int (at_ : Int)) = some (tR (b.getD at_ [])) := dIdx_tm (row_at at_ hat).2
  obtain ⟨mr, _⟩ := row_at at_ hat
  have rl : (b.getD at_ []).length = w := hb.row _ mr
  have rn := hb.num _ mr
  generalize b.getD at_ [] = r at *
  have lr : dLen (tR r) = some (.int (w : Nat)) := by
    show some (PyData.int ((r.map PyData.int).length : Nat)) = _
    rw [List.length_map, rl]
  simp -implicitDefEqProofs only [i1, li_some, tri_pu, lr, dAdd_i]
  refine (takeB (m := (w : Nat) + 1) t1 (by omega) (by omega) (Nat.lt_of_le_of_lt (log2_int (k := 63) (by omega) (by omega)) (by decide)) hns).mono ?_
  rintro _ τ2 ⟨hr, rfl, r0, r1, t2⟩
  obtain ⟨here, rfl⟩ : ∃ n : Nat, hr = (n : Int) := ⟨hr.toNat, by omega⟩
  have hh : here ≤ 10 := by omega
  have rg := gs_ints rn
  have i_ : ∀ {i : Int}, i.natAbs < 2 ^ 100 → Gx 3000 2 (.int i) := fun hi => (gx_int (by have := log2_le (k := 99) hi; omega)).mono (by decide) (by decide)
  have no : Gx 3000 2 .none := gx_none.mono (by decide) (by decide)
  have bo : ∀ b, Gx 3000 2 (.bool b) := fun b => (gx_bool b).mono (by decide) (by decide)
  have st : ∀ {x : Str}, (reprText x).length ≤ 1921 → Gx 3000 2 (.str x) := fun hx => (gx_str hx).mono (by decide) (by decide)
  have di : Gx 3000 2 (.dict []) := gx_dnil.mono (by decide) (by decide)
  have t1' : Gx 3000 2 (.tuple [.int 1]) := ((gs_cons (gx_int (i := 1) (by decide +kernel)) gs_nil).tup (m := 1) (by simp)).mono (by decide) (by decide)
  have l1' : Gx 3000 2 (.list [.int 1]) := ((gs_cons (gx_int (i := 1) (by decide +kernel)) gs_nil).list (m := 1) (by simp)).mono (by decide) (by decide)
  have up : ∀ {d : D}, Gx 3000 2 d → Gx 70000 4 d := fun g => g.mono (by decide) (by decide)
  have g2 : ∀ l : List D, Gs 3000 2 l → l.length ≤ 22 → Gx 70000 4 (.tuple l) := fun l gl hl => (gl.tup (m := 22) hl).mono (by decide) (by decide)
  have odds : Gs 3000 2 [.int 10, .int (-10), .int (10 + far), .int (-10 - far), .bool true, .bool false, .none, .str "1", .tuple [.int 1], .list [.int 1], .dict [], .str "", .int 9, .int (-9)] :=
    gs_cons (i_ (by omega)) <| gs_cons (i_ (by omega)) <| gs_cons (i_ (by omega)) <| gs_cons (i_ (by omega)) <| gs_cons (bo _) <| gs_cons (bo _) <| gs_cons no <| gs_cons (st (by decide +kernel)) <| gs_cons t1' <| gs_cons l1' <| gs_cons di <| gs_cons (st (by decide +kernel)) <| gs_cons (i_ (by omega)) <| gs_cons (i_ (by omega)) gs_nil
  have a1 : dAdd (tR r) (.tuple [.int 0]) = some (.tuple (r.map .int ++ [.int 0])) := dAdd_tt (by rw [List.length_map]; simp; omega)
  have a2 : dCut (tR r) (some 1) none = some (.tuple ((r.map .int).drop 1)) := cut_tf (r.map .int) 1
  have a3 : dLst (tR r) = some (r.map .int) := rfl
  have a4 : dAdd (tR r) (tR r) = some (.tuple (r.map .int ++ r.map .int)) := dAdd_tt (by simp; omega)
  have bg : Gs 70000 4 [.tuple (r.map .int ++ [.int 0]), .tuple ((r.map .int).drop 1), .list (r.map .int), .none, .str "", .str "0", .int 0, .dict [], .tuple [], .tuple (r.map .int ++ r.map .int), .tuple [tR r]] :=
    gs_cons (g2 _ (gs_app rg (gs_cons (i_ (by omega)) gs_nil)) (by simp; omega)) <| gs_cons (g2 _ (rg.drop 1) (by simp; omega)) <| gs_cons ((rg.list (m := 22) (by simp; omega)).mono (by decide) (by decide)) <| gs_cons (up no) <| gs_cons (up (st (by decide +kernel))) <| gs_cons (up (st (by decide +kernel))) <|
    gs_cons (up (i_ (by omega))) <| gs_cons (up di) <| gs_cons (g2 _ gs_nil (by simp)) <| gs_cons (g2 _ (gs_app rg rg) (by simp; omega)) <| gs_cons (((gs_cons (n := 60000) (k := 3) (((gs_ints rn).tup (m := 10) (by simp; omega)).mono (by decide) (by decide)) gs_nil).tup (m := 1) (by simp)).mono (by decide) (by decide)) gs_nil
  obtain ⟨l, e, gl, ll⟩ := odds_loop rn (by omega) hh _ _ odds (by simp) bg
  simp -implicitDefEqProofs only [tri_sq, tri_bd, tri_pu, a1, li_some, oInt_i, a2, a3, a4, dNeg_i, dAdd_i, dSub_i, dLst_l, e, sqk_nx]
  have p1 : dCut (tB b) none (some (at_ : Int)) = some (.tuple ((b.map tR).take at_)) := cut_t (b.map tR) at_
  have p2 : dCut (tB b) (some ((at_ : Int) + 1)) none = some (.tuple ((b.map tR).drop (at_ + 1))) := cut_tf (b.map tR) (at_ + 1)
  have p3 : ∀ o : D, dAdd (.tuple ((b.map tR).take at_)) (.tuple [o]) = some (.tuple ((b.map tR).take at_ ++ [o])) := fun o => dAdd_tt (by simp; omega)
  have p4 : ∀ o : D, dAdd (.tuple ((b.map tR).take at_ ++ [o])) (.tuple ((b.map tR).drop (at_ + 1))) = some (.tuple ((b.map tR).take at_ ++ [o] ++ (b.map tR).drop (at_ + 1))) := fun o => dAdd_tt (by simp; omega)
  have m1 : mf l (fun d => pu true) (fun d => pu (PyData.tuple ((b.map tR).take at_ ++ [d] ++ (b.map tR).drop (at_ + 1)))) = pu (l.map fun d => PyData.tuple ((b.map tR).take at_ ++ [d] ++ (b.map tR).drop (at_ + 1))) := mf_D (fun _ _ => rfl) fun _ _ => rfl
  have gr : Gs 70000 4 (b.map tR) := (gs_rows hb).mono (by decide) (by decide)
  have gm : Gs 2000000 6 (l.map fun d => PyData.tuple ((b.map tR).take at_ ++ [d] ++ (b.map tR).drop (at_ + 1))) := fun d m => by
    obtain ⟨o, mo, rfl⟩ := List.mem_map.mp m
    exact (gx_bd (gs_app (gs_app (gr.take at_) (gs_cons (gl o mo) gs_nil)) (gr.drop (at_ + 1))) (by simp; omega)).mono (by decide) (by decide)
  have ll2 : l.length = 39 := by rw [ll]; rfl
  have ct : dCat (.list F) (.list (l.map fun d => PyData.tuple ((b.map tR).take at_ ++ [d] ++ (b.map tR).drop (at_ + 1)))) = some (F ++ l.map fun d => PyData.tuple ((b.map tR).take at_ ++ [d] ++ (b.map tR).drop (at_ + 1))) := dCat_ll (by simp; omega)
  have lB : dLst (tB b) = some (b.map tR) := rfl
  have m2 : mf (b.map tR) (fun d => pu true) (fun d => li (dCut d none (some (here : Int)))) = pu (b.map fun r => tR (r.take here)) := mf_map (c := tR) (g := fun r => tR (r.take here)) (fun _ _ => rfl) fun r _ => by
    rw [show dCut (tR r) none (some ((here : Nat) : Int)) = some (.tuple ((r.map .int).take here)) from cut_t (r.map .int) here, ← List.map_take]
    rfl
  have g9 : Gx 2000000 6 (.tuple (b.map fun r => tR (r.take here))) := (gx_bd (fun d m => by
    obtain ⟨q, mq, rfl⟩ := List.mem_map.mp m
    exact (gx_tR (fun x mx => hb.num q mq x (List.mem_of_mem_take mx)) (by rw [List.length_take, hb.row q mq]; omega)).mono (by decide) (by decide)) (by simp; omega)).mono (by decide) (by decide)
  have ck : ∀ z : List D, z.length < 10000 → decide (z.length < 16777216) = true := fun z hz => decide_eq_true (by omega)
  simp -implicitDefEqProofs only [p1, p2, li_some, p3, p4, bd_pu, u1, x1, oInt_i, dAdd_i]
  rw [m1]
  simp -implicitDefEqProofs only [tri_bd, tri_pu, ct, li_some, lB]
  rw [m2]
  simp -implicitDefEqProofs only [tri_bd, tri_pu, dTup_l, li_some, ck (F ++ l.map fun d => PyData.tuple ((b.map tR).take at_ ++ [d] ++ (b.map tR).drop (at_ + 1))) (by simp; omega), tri_ck, true_and]
  exact ⟨_, rfl, gs_app (gs_app gF gm) (gs_cons g9 gs_nil), by simp; omega, t2.mono (by omega)⟩
theorem rep_t (x : D) (k : Nat) {n m : Nat} (gx : Gx n m x) (hk : k ≤ 20) : dMulT (.tuple [x]) (.int (k : Nat)) = some (.tuple (List.replicate k [x]).flatten) ∧ Gs n m (List.replicate k [x]).flatten ∧ (List.replicate k [x]).flatten.length = k := by
  have key : Gs n m (List.replicate k [x]).flatten ∧ (List.replicate k [x]).flatten.length = k := by
    clear hk
    induction k with
    | zero => exact ⟨gs_nil, rfl⟩
    | succ k ih => rw [List.replicate_succ, List.flatten_cons]; exact ⟨gs_app (gs_cons gx gs_nil) ih.1, by rw [List.length_append, ih.2]; simp; omega⟩
  refine ⟨?_, key⟩
  show (if -(2 ^ 63) ≤ ((k : Nat) : Int) ∧ ((k : Nat) : Int) ≤ 1000 ∧ [x].length ≤ 1000 then some (PyData.tuple (List.replicate ((k : Nat) : Int).toNat [x]).flatten) else none) = _
  rw [if_pos ⟨by omega, by omega, by simp⟩, Int.toNat_natCast]
theorem bent_ok (hb : Bd b w) {k : Nat} {τ : T} (h : TB ns k τ) (hk : k < 2 ^ 48) (hns : ns.length ≤ 63) :
    Tri (m__law_b_bent 0 (tB b)) τ fun d τ' => ∃ L, d = .list L ∧ Gs 2000000 6 L ∧ TB ns (k + 20) τ' := by
  have h8 := hb.len
  have h10 := hb.wide
  have p20 : (10 : Int) ^ Int.toNat 20 = 100000000000000000000 := by decide +kernel
  have pw : dPow (.int 10) (.int 20) = some (.int 100000000000000000000) := by rw [dPow_i ⟨by decide, by decide, by decide⟩, p20]
  have i_ : ∀ {i : Int}, i.natAbs < 2 ^ 100 → Gx 3000 2 (.int i) := fun hi => (gx_int (by have := log2_le (k := 99) hi; omega)).mono (by decide) (by decide)
  have no : Gx 3000 2 .none := gx_none.mono (by decide) (by decide)
  have bo : ∀ b, Gx 3000 2 (.bool b) := fun b => (gx_bool b).mono (by decide) (by decide)
  have st : ∀ {x : Str}, (reprText x).length ≤ 1921 → Gx 3000 2 (.str x) := fun hx => (gx_str hx).mono (by decide) (by decide)
  have di : Gx 3000 2 (.dict []) := gx_dnil.mono (by decide) (by decide)
  have up : ∀ {d : D}, Gx 3000 2 d → Gx 2000000 6 d := fun g => g.mono (by decide) (by decide)
  have bd6 : ∀ {d : D}, Gx 1200000 5 d → Gx 2000000 6 d := fun g => g.mono (by decide) (by decide)
  have g2 : ∀ l : List D, Gs 3000 2 l → l.length ≤ 22 → Gx 70000 4 (.tuple l) := fun l gl hl => (gl.tup (m := 22) hl).mono (by decide) (by decide)
  have gr : Gs 70000 4 (b.map tR) := (gs_rows hb).mono (by decide) (by decide)
  have t0 : Gx 70000 4 (.tuple [.int 0]) := g2 _ (gs_cons (i_ (by omega)) gs_nil) (by simp)
  have te : Gx 70000 4 (.tuple []) := g2 _ gs_nil (by simp)
  have a1 : dAdd (tB b) (.tuple [.tuple [.int 0]]) = some (.tuple (b.map tR ++ [.tuple [.int 0]])) := dAdd_tt (by simp; omega)
  have a2 : dAdd (tB b) (.tuple [.tuple []]) = some (.tuple (b.map tR ++ [.tuple []])) := dAdd_tt (by simp; omega)
  have a3 : dAdd (tB b) (tB b) = some (.tuple (b.map tR ++ b.map tR)) := dAdd_tt (by simp; omega)
  have c1 : dCut (.tuple (b.map tR ++ b.map tR)) none (some 9) = some (.tuple ((b.map tR ++ b.map tR).take 9)) := cut_t _ 9
  have lB : dLst (tB b) = some (b.map tR) := rfl
  obtain ⟨m10, g10, n10⟩ := rep_t (.int 0) 10 (i_ (by omega)) (by decide)
  obtain ⟨m11, g11, n11⟩ := rep_t (.int 0) 11 (i_ (by omega)) (by decide)
  obtain ⟨m9, g9, n9⟩ := rep_t (.int 9) 10 (i_ (by omega)) (by decide)
  obtain ⟨mn, gn, nn⟩ := rep_t (.int (-9)) 10 (i_ (by omega)) (by decide)
  have r10 := g2 _ g10 (by omega)
  have r11 := g2 _ g11 (by omega)
  have r9 := g2 _ g9 (by omega)
  have rn := g2 _ gn (by omega)
  generalize hz10 : (List.replicate 10 [PyData.int 0]).flatten = z10 at *
  generalize hz11 : (List.replicate 11 [PyData.int 0]).flatten = z11 at *
  generalize hz9 : (List.replicate 10 [PyData.int 9]).flatten = z9 at *
  generalize hzn : (List.replicate 10 [PyData.int (-9)]).flatten = zn at *
  obtain ⟨mA, gA, nA⟩ := rep_t (.tuple z9) 8 r9 (by decide)
  obtain ⟨mB, gB, nB⟩ := rep_t (.tuple zn) 9 rn (by decide)
  obtain ⟨mC, gC, nC⟩ := rep_t (.tuple []) 8 te (by decide)
  obtain ⟨mD, gD, nD⟩ := rep_t (.tuple []) 9 te (by decide)
  generalize hzA : (List.replicate 8 [PyData.tuple z9]).flatten = zA at *
  generalize hzB : (List.replicate 9 [PyData.tuple zn]).flatten = zB at *
  generalize hzC : (List.replicate 8 [PyData.tuple []]).flatten = zC at *
  generalize hzD : (List.replicate 9 [PyData.tuple []]).flatten = zD at *
  have a4 : dAdd (tB b) (.tuple [.tuple z10]) = some (.tuple (b.map tR ++ [.tuple z10])) := dAdd_tt (by simp; omega)
  have f1 : Gs 2000000 6 [.list (b.map tR), .none, .str "", .str "1", .dict [], .int 0, .bool true, .list [], .tuple [tB b], .tuple (b.map tR ++ [.tuple [.int 0]]), .tuple (b.map tR ++ [.tuple []]), .tuple ((b.map tR ++ b.map tR).take 9)] :=
    gs_cons ((gr.list (m := 17) (by simp; omega)).mono (by decide) (by decide)) <| gs_cons (up no) <| gs_cons (up (st (by decide +kernel))) <| gs_cons (up (st (by decide +kernel))) <| gs_cons (up di) <| gs_cons (up (i_ (by omega))) <| gs_cons (up (bo _)) <|
    gs_cons (((gs_nil (n := 1) (k := 1)).list (m := 0) (by simp)).mono (by decide) (by decide)) <| gs_cons (((gs_cons (gx_bd gr (by simp; omega)) gs_nil).tup (m := 1) (by simp)).mono (by decide) (by decide)) <|
    gs_cons (bd6 (gx_bd (gs_app gr (gs_cons t0 gs_nil)) (by simp; omega))) <| gs_cons (bd6 (gx_bd (gs_app gr (gs_cons te gs_nil)) (by simp; omega))) <| gs_cons (bd6 (gx_bd ((gs_app gr gr).take 9) (by rw [List.length_take]; omega))) gs_nil
  have ti : ∀ l : List Int, (∀ x ∈ l, -9 ≤ x ∧ x ≤ 9) → l.length ≤ 22 → Gx 70000 4 (tR l) := fun l hl hn => (gx_tR hl hn).mono (by decide) (by decide)
  have f2 : Gs 2000000 6 [.tuple [tR [0, 0], tR [0], tR [0, 0, 0]], .tuple [tR [1, 2, 3], tR [4], tR [5, 6]], .tuple [tR [], tR [0]], .tuple [tR [0], tR []]] :=
    gs_cons (bd6 (gx_bd (gs_cons (ti _ (by decide) (by decide)) <| gs_cons (ti _ (by decide) (by decide)) <| gs_cons (ti _ (by decide) (by decide)) gs_nil) (by simp))) <|
    gs_cons (bd6 (gx_bd (gs_cons (ti _ (by decide) (by decide)) <| gs_cons (ti _ (by decide) (by decide)) <| gs_cons (ti _ (by decide) (by decide)) gs_nil) (by simp))) <|
    gs_cons (bd6 (gx_bd (gs_cons (ti _ (by decide) (by decide)) <| gs_cons (ti _ (by decide) (by decide)) gs_nil) (by simp))) <|
    gs_cons (bd6 (gx_bd (gs_cons (ti _ (by decide) (by decide)) <| gs_cons (ti _ (by decide) (by decide)) gs_nil) (by simp))) gs_nil
  have f3 : Gs 2000000 6 [.tuple (b.map tR ++ [.tuple z10]), .tuple [.tuple z11], .tuple zA, .tuple zB, .tuple zC, .tuple zD] :=
    gs_cons (bd6 (gx_bd (gs_app gr (gs_cons r10 gs_nil)) (by simp; omega))) <| gs_cons (bd6 (gx_bd (gs_cons r11 gs_nil) (by simp))) <| gs_cons (bd6 (gx_bd gA (by omega))) <| gs_cons (bd6 (gx_bd gB (by omega))) <| gs_cons (bd6 (gx_bd gC (by omega))) <| gs_cons (bd6 (gx_bd gD (by omega))) gs_nil
  have f2' : ([.tuple [.tuple [.int 0, .int 0], .tuple [.int 0], .tuple [.int 0, .int 0, .int 0]], .tuple [.tuple [.int 1, .int 2, .int 3], .tuple [.int 4], .tuple [.int 5, .int 6]], .tuple [.tuple [], .tuple [.int 0]], .tuple [.tuple [.int 0], .tuple []]] : List D) = [.tuple [tR [0, 0], tR [0], tR [0, 0, 0]], .tuple [tR [1, 2, 3], tR [4], tR [5, 6]], .tuple [tR [], tR [0]], .tuple [tR [0], tR []]] := rfl
  unfold m__law_b_bent
  simp -implicitDefEqProofs only [tri_fe, tri_bd, tri_pu, pw, li_some]
  refine (takeB (m := 100000000000000000000) h (by omega) (by omega) (by decide +kernel) hns).mono ?_
  rintro _ τ1 ⟨far, rfl, far0, far1, t1⟩
  simp -implicitDefEqProofs only [tri_bd, tri_pu, DL.g1, lB, li_some, a1, a2, a3, oInt_i, c1, f2']
  generalize hF1 : ([.list (b.map tR), .none, .str "", .str "1", .dict [], .int 0, .bool true, .list [], .tuple [tB b], .tuple (b.map tR ++ [.tuple [.int 0]]), .tuple (b.map tR ++ [.tuple []]), .tuple ((b.map tR ++ b.map tR).take 9)] : List D) = F1 at *
  have l1 : F1.length = 12 := by rw [← hF1]; rfl
  generalize hF2 : ([.tuple [tR [0, 0], tR [0], tR [0, 0, 0]], .tuple [tR [1, 2, 3], tR [4], tR [5, 6]], .tuple [tR [], tR [0]], .tuple [tR [0], tR []]] : List D) = F2 at *
  have l2 : F2.length = 4 := by rw [← hF2]; rfl
  have d1 : dAdd (.list F1) (.list F2) = some (.list (F1 ++ F2)) := dAdd_ll (by omega)
  simp -implicitDefEqProofs only [d1, li_some, tri_pu]
  refine (shifted_ok t1 (by omega) hns hb).mono ?_
  rintro _ τ2 ⟨F3, rfl, l3, f4, t2⟩
  have d2 : dAdd (.list (F1 ++ F2)) (.list F3) = some (.list (F1 ++ F2 ++ F3)) := dAdd_ll (by simp; omega)
  have m10' : dMulT (.tuple [.int 0]) (.int 10) = some (.tuple z10) := m10
  have m11' : dMulT (.tuple [.int 0]) (.int 11) = some (.tuple z11) := m11
  have m9' : dMulT (.tuple [.int 9]) (.int 10) = some (.tuple z9) := m9
  have mn' : dMulT (.tuple [.int (-9)]) (.int 10) = some (.tuple zn) := mn
  have mA' : dMulT (.tuple [.tuple z9]) (.int 8) = some (.tuple zA) := mA
  have mB' : dMulT (.tuple [.tuple zn]) (.int 9) = some (.tuple zB) := mB
  have mC' : dMulT (.tuple [.tuple []]) (.int 8) = some (.tuple zC) := mC
  have mD' : dMulT (.tuple [.tuple []]) (.int 9) = some (.tuple zD) := mD
  have en : dNe (tB b) (.tuple []) = some (!decide (b = [])) := by
    unfold dNe
    rw [dEq_tB_nil]
    rfl
  simp -implicitDefEqProofs only [d2, li_some, tri_pu, tri_bd, m10', a4, m11', m9', mA', dNeg_i, mn', mB', mC', mD', en, Option.map_some, tri_sq]
  generalize hF4 : ([.tuple (b.map tR ++ [.tuple z10]), .tuple [.tuple z11], .tuple zA, .tuple zB, .tuple zC, .tuple zD] : List D) = F4 at *
  have l4 : F4.length = 6 := by rw [← hF4]; rfl
  have d3 : dAdd (.list (F1 ++ F2 ++ F3)) (.list F4) = some (.list (F1 ++ F2 ++ F3 ++ F4)) := dAdd_ll (by simp; omega)
  have gF := gs_app (gs_app (gs_app f1 f2) f4) f3
  have lF : (F1 ++ F2 ++ F3 ++ F4).length ≤ 23 := by simp; omega
  simp -implicitDefEqProofs only [d3, li_some, tri_pu]
  generalize F1 ++ F2 ++ F3 ++ F4 = F at *
  by_cases ne : b = []
  · rw [decide_eq_true ne]
    have e1 : dInt (.bool (!true)) = some (.int 0) := rfl
    have e2 : dMul (.int 2) (.int 0) = some (.int 0) := dMul_i (by decide)
    have e3 : dRng1 (.int 0) = some [] := rfl
    simp -implicitDefEqProofs only [e1, li_some, tri_pu, e2, e3]
    show Tri (fo _ [] (PyData.list F)) τ2 _
    simp -implicitDefEqProofs only [fo, tri_pu, sqk_nx, tri_bd, feQ_rt]
    exact ⟨F, rfl, gF, t2.mono (by omega)⟩
  · rw [decide_eq_false ne]
    have e1 : dInt (.bool (!false)) = some (.int 1) := rfl
    have e2 : dMul (.int 2) (.int 1) = some (.int 2) := dMul_i (by decide)
    have e3 : dRng1 (.int 2) = some ((List.range 2).map fun i : Nat => PyData.int i) := dRng1_n (by decide) (by decide)
    simp -implicitDefEqProofs only [e1, li_some, tri_pu, e2, e3]
    refine tri_fo (fun i s τ => ∃ l, s = .list l ∧ Gs 2000000 6 l ∧ l.length ≤ 23 + 50 * i ∧ TB ns (k + 10 + 2 * i) τ) _ ⟨F, rfl, gF, by omega, t2.mono (by omega)⟩ ?_ ?_
    · rintro j d s τ3 hj ⟨l, rfl, gl, ll, t3⟩
      have hj2 : j < 2 := by
        have := (List.getElem?_eq_some_iff.mp hj).1
        simpa using this
      refine (bent_turn hb ne far0 (by omega) gl (by omega) d t3 (by omega) hns).mono ?_
      rintro _ τ4 ⟨l2, rfl, gl2, ll2, t4⟩
      exact ⟨l2, rfl, gl2, by omega, t4.mono (by omega)⟩
    · rintro s τ3 ⟨l, rfl, gl, ll, t3⟩
      simp -implicitDefEqProofs only [sqk_nx, tri_bd, tri_pu, feQ_rt]
      exact ⟨l, rfl, gl, t3.mono (by simp)⟩
end
theorem fo_pu {L : Type} {body : Unit → D → M (Fl Unit Unit)} : ∀ {xs : List D}, (∀ x ∈ xs, body () x = pu (.nx ())) → fo (L := L) body xs () = pu (.nx ())
  | [], _ => rfl
  | x :: xs, h => by
    rw [fo, h x List.mem_cons_self, bd_pu]
    exact fo_pu fun y m => h y (List.mem_cons_of_mem _ m)
theorem round2 {ns : List Int} (hns : ns.length ≤ 63) (i : Nat) (hi : i < 4) {k : Nat} {τ : T} (hk : k < 2 ^ 40) (h : TB ns k τ) : Tri (m_law_b2 0 (scr ns) () (.int i)) τ fun f τ' => (f = .bk () ∨ f = .nx ()) ∧ TB ns (k + 2000) τ' := by
  unfold m_law_b2
  have h0 := h
  obtain ⟨a, v, rfl, ha⟩ := h
  simp only [u1, li_some, bd_pu, x1, tri_bd, tri_pu, dGt_i, tri_ite, tri_mget0, dIdx_l1, g1, dLen_s, dGe_i]
  have ite3 : ∀ {b c : Bool} {P R : Prop}, P → R → (if b = true then if c = true then P else R else if false = true then P else R) := by
    intro b c P R hP hR
    cases b <;> cases c <;> simp [hP, hR]
  refine ite3 ⟨.inl trivial, h0.mono (by omega)⟩ ?_
  refine (board_ok (rows := 8) (cols := 10) h0 (by omega) hns (by decide) (by decide)).mono ?_
  rintro _ τ1 ⟨b, w, rfl, hb, _, _, t1⟩
  have nis : dNis (.bool true) (.bool true) = some false := rfl
  simp only [is_board_ok hb, tri_pu, nis, li_some, Bool.false_eq_true, if_false, tri_sq, tri_bd]
  refine (bent_ok hb t1 (by omega) hns).mono ?_
  rintro _ τ2 ⟨L, rfl, gL, t2⟩
  have lo : fo (L := Unit) m_law_b1 L () = pu (.nx ()) := fo_pu fun d m => thing_ok (gL d m)
  simp only [dLst_l, li_some, tri_pu, lo, sqk_nx]
  exact ⟨.inr trivial, t2.mono (by omega)⟩
theorem law_true (ns : List Int) (hns : ns.length ≤ 63) : ∃ τ', m_law (scr ns) [] = .ok (.bool true) τ' := by
  have : Tri (m_law (scr ns)) [] fun d _ => d = .bool true := by
    unfold m_law
    simp (disch := decide) only [tri_fe, tri_bd, tri_pu, tri_mnew, tri_sq, dRng1_n, li_some, List.length_nil, List.nil_append]
    refine ⟨by simp, ?_⟩
    refine tri_fo (fun j s τ => TB ns (2000 * j) τ) _ ⟨0, 0, rfl, by omega⟩ ?_ ?_
    · rintro j d s τ hj ht
      obtain ⟨rfl, hj2⟩ := rng_get hj
      have hj2 : j < 4 := hj2
      refine (round2 hns j hj2 (by omega) ht).mono ?_
      rintro f τ' ⟨h | h, t⟩
      · subst h
        simp only [sqk_nx, tri_bd, tri_pu, feQ_rt]
      · subst h
        exact t.mono (by omega)
    · intro s τ _
      simp only [sqk_nx, tri_bd, tri_pu, feQ_rt]
  obtain ⟨a, τ', e, rfl⟩ := this
  exact ⟨τ', e⟩
end K13


set_option maxRecDepth 100000
set_option maxHeartbeats 4000000
namespace K13
open Q DL PySem PySem.Spec PyProof.Rows L2 RZ
/-! the text by places -/
def top (i : Nat) : Stmt := PySem.Challenge.pw_meanchoice_k13_boards_of_anything.main.body.getD i (.Pass ⟨0, 0, 0, 0⟩)
abbrev s_is_whole : Stmt := top 1
abbrev s_is_row : Stmt := top 6
abbrev s_columns_of : Stmt := top 7
abbrev s_is_board : Stmt := top 8
abbrev s__law_b_mixed : Stmt := top 10
abbrev s__law_b_take : Stmt := top 11
abbrev s__law_b_whole : Stmt := top 13
abbrev s__law_b_number : Stmt := top 14
abbrev s__law_b_board : Stmt := top 15
abbrev s__law_b_is : Stmt := top 18
abbrev s__law_b_shifted : Stmt := top 19
abbrev s__law_b_bent : Stmt := top 20
abbrev s_law : Stmt := top 21
structure Txt (K : PySem.W.Frag) (mg : Str → Option Value) : Prop where
  d_is_whole : Dc K mg "is_whole" s_is_whole ["thing"]
  d_is_row : Dc K mg "is_row" s_is_row ["columns", "thing"]
  d_columns_of : Dc K mg "columns_of" s_columns_of ["board"]
  d_is_board : Dc K mg "is_board" s_is_board ["thing"]
  d__law_b_mixed : Dc K mg "_law_b_mixed" s__law_b_mixed ["cell", "at"]
  d__law_b_take : Dc K mg "_law_b_take" s__law_b_take ["tape", "many"]
  d__law_b_whole : Dc K mg "_law_b_whole" s__law_b_whole ["thing"]
  d__law_b_number : Dc K mg "_law_b_number" s__law_b_number ["tape", "kind"]
  d__law_b_board : Dc K mg "_law_b_board" s__law_b_board ["tape", "rows", "columns"]
  d__law_b_is : Dc K mg "_law_b_is" s__law_b_is ["thing"]
  d__law_b_shifted : Dc K mg "_law_b_shifted" s__law_b_shifted ["tape", "board"]
  d__law_b_bent : Dc K mg "_law_b_bent" s__law_b_bent ["tape", "board"]
  d_law : Dc K mg "law" s_law ["script"]
  b_all : mg "all" = none
  b_bool : mg "bool" = none
  b_int : mg "int" = none
  b_isinstance : mg "isinstance" = none
  b_len : mg "len" = none
  b_list : mg "list" = none
  b_range : mg "range" = none
  b_repr : mg "repr" = none
  b_tuple : mg "tuple" = none
  c_MOST_COLUMNS : Gc K mg "MOST_COLUMNS" (.int 10)
  c_MOST_NUMBER : Gc K mg "MOST_NUMBER" (.int 9)
  c_MOST_ROWS : Gc K mg "MOST_ROWS" (.int 8)
section
variable {P : Program} {w : World} {K : PySem.W.Frag} {mg : Str → Option Value} {base : Heap}
abbrev n_is_whole : List Str := ["thing"]
theorem sc_is_whole : FnScope ["thing"] ["thing"] (defScope s_is_whole) := ⟨rfl, rfl, rfl, by decide +kernel, rfl, by decide +kernel, by decide +kernel⟩
theorem ok_is_whole (T : Txt K mg) : Df P w K mg base 1 "is_whole" 1 false (app [false] m_is_whole) :=
  have S := sc_is_whole
  fn_df T.d_is_whole sc_is_whole false [false] m_is_whole rfl fun f cdv A outer s H E hr hu => fun a_thing => by
    refine ⟨_, ?e, (es_ret (ev_and (ev_isi (n := "int") (ev_var (i := 0) rfl) (by rfl) T.b_isinstance (by rfl) T.b_int (by decide +kernel) (by decide +kernel)) (ev_one (ev_not (ev_isi (n := "bool") (ev_var (i := 0) rfl) (by rfl) T.b_isinstance (by rfl) T.b_bool (by decide +kernel) (by decide +kernel))))))⟩
    case e => rfl
abbrev n_is_row : List Str := ["columns", "thing", "number"]
theorem sc_is_row : FnScope ["columns", "thing", "number"] ["columns", "thing"] (defScope s_is_row) := ⟨rfl, rfl, rfl, by decide +kernel, rfl, by decide +kernel, by decide +kernel⟩
theorem ok_is_row (T : Txt K mg) : Df P w K mg base 2 "is_row" 2 false (app [false, false] m_is_row) :=
  have S := sc_is_row
  fn_df T.d_is_row sc_is_row false [false, false] m_is_row rfl fun f cdv A outer s H E hr hu => fun a_columns a_thing => by
    refine ⟨_, ?e, (es_ifx (et_of_ew (ew_or (et_not (et_truth (ev_isi (n := "tuple") (ev_var (i := 1) rfl) (by rfl) T.b_isinstance (by rfl) T.b_tuple (by decide +kernel) (by decide +kernel)))) (ew_or1 (et_cmp (or_ne hu) cd_ne (ev_callB cr_len cl_len (by rfl) T.b_len (by decide +kernel) (el_cons (ev_var (i := 1) rfl) el_nil)) (ev_var (i := 0) rfl) (nomark _))))) (es_ret ev_bl) (es_ret (ev_callB (cr_all rfl) cl_all (by rfl) T.b_all (by decide +kernel) (el_cons (ev_frz (eo_lc (own := [("number", 2)]) rfl S.nd (ei_val (ev_var (i := 1) rfl)) (blkOk_by (by show blkC n_is_row (defScope s_is_row) _ _ = true; decide +kernel)) (tgok_name (i := 2)) (fun _ _ _ _ _ => (pg_name (i := 2) S.nd rfl (by first | exact Or.inl rfl | exact Or.inr rfl))) (fun _ _ _ _ _ _ => pts_yes) (fun xs _ _ _ _ _ => ev_x1 (fun d11 => (ev_and (ev_df (ok_is_whole T) hr (ea_d (ev_var (i := 2) rfl) ea_nil)) (ev_one (ev_chain op_le op_le cd_le cd_le (ev_neg (ev_glob T.c_MOST_NUMBER)) (ev_var (i := 2) rfl) (ev_glob T.c_MOST_NUMBER))))) xs))) el_nil))))⟩
    case e => rfl
abbrev n_columns_of : List Str := ["board"]
theorem sc_columns_of : FnScope ["board"] ["board"] (defScope s_columns_of) := ⟨rfl, rfl, rfl, by decide +kernel, rfl, by decide +kernel, by decide +kernel⟩
theorem ok_columns_of (T : Txt K mg) : Df P w K mg base 1 "columns_of" 1 false (app [false] m_columns_of) :=
  have S := sc_columns_of
  fn_df T.d_columns_of sc_columns_of false [false] m_columns_of rfl fun f cdv A outer s H E hr hu => fun a_board => by
    refine ⟨_, ?e, (es_ifx (et_cmp (or_eq hu) cd_eq (ev_var (i := 0) rfl) (ev_tup el_nil) (nomark _)) (es_ret ev_int) (es_ret (ev_callB cr_len cl_len (by rfl) T.b_len (by decide +kernel) (el_cons (ev_idx (ev_var (i := 0) rfl) ev_int) el_nil))))⟩
    case e => rfl
abbrev n_is_board : List Str := ["thing", "row", "columns"]
theorem sc_is_board : FnScope ["thing", "row", "columns"] ["thing"] (defScope s_is_board) := ⟨rfl, rfl, rfl, by decide +kernel, rfl, by decide +kernel, by decide +kernel⟩
theorem ok_is_board (T : Txt K mg) : Df P w K mg base 3 "is_board" 1 false (app [false] m_is_board) :=
  have S := sc_is_board
  fn_df T.d_is_board sc_is_board false [false] m_is_board rfl fun f cdv A outer s H E hr hu => fun a_thing => by
    refine ⟨_, ?e, (es_ifx (et_of_ew (ew_or (et_not (et_truth (ev_isi (n := "tuple") (ev_var (i := 0) rfl) (by rfl) T.b_isinstance (by rfl) T.b_tuple (by decide +kernel) (by decide +kernel)))) (ew_or (et_cmp op_gt cd_gt (ev_callB cr_len cl_len (by rfl) T.b_len (by decide +kernel) (el_cons (ev_var (i := 0) rfl) el_nil)) (ev_glob T.c_MOST_ROWS) (nomark _)) (ew_or1 (et_not (et_truth (ev_callB (cr_all rfl) cl_all (by rfl) T.b_all (by decide +kernel) (el_cons (ev_frz (eo_lc (own := [("row", 1)]) rfl S.nd (ei_val (ev_var (i := 0) rfl)) (blkOk_by (by show blkC n_is_board (defScope s_is_board) _ _ = true; decide +kernel)) (tgok_name (i := 1)) (fun _ _ _ _ _ => (pg_name (i := 1) S.nd rfl (by first | exact Or.inl rfl | exact Or.inr rfl))) (fun _ _ _ _ _ _ => pts_yes) (fun xs _ _ _ _ _ => ev_x1 (fun d8 => (ev_isi (n := "tuple") (ev_var (i := 1) rfl) (by rfl) T.b_isinstance (by rfl) T.b_tuple (by decide +kernel) (by decide +kernel))) xs))) el_nil)))))))) (es_ret ev_bl) (es_set 2 S.nd (ev_df (ok_columns_of T) hr (ea_d (ev_var (i := 0) rfl) ea_nil)) (fun d20 => (es_ret (ev_and (ev_cmp op_le cd_le (ev_var (i := 2) rfl) (ev_glob T.c_MOST_COLUMNS) (nomark _)) (ev_one (ev_callB (cr_all rfl) cl_all (by rfl) T.b_all (by decide +kernel) (el_cons (ev_frz (eo_lc (own := [("row", 1)]) rfl S.nd (ei_val (ev_var (i := 0) rfl)) (blkOk_by (by show blkC n_is_board (defScope s_is_board) _ _ = true; decide +kernel)) (tgok_name (i := 1)) (fun _ _ _ _ _ => (pg_name (i := 1) S.nd rfl (by first | exact Or.inl rfl | exact Or.inr rfl))) (fun _ _ _ _ _ _ => pts_yes) (fun xs _ _ _ _ _ => ev_x1 (fun d25 => (ev_df (ok_is_row T) hr (ea_d (ev_var (i := 2) rfl) (ea_d (ev_var (i := 1) rfl) ea_nil)))) xs))) el_nil))))))))⟩
    case e => rfl
abbrev n__law_b_mixed : List Str := ["cell", "at", "one", "two", "three"]
theorem sc__law_b_mixed : FnScope ["cell", "at", "one", "two", "three"] ["cell", "at"] (defScope s__law_b_mixed) := ⟨rfl, rfl, rfl, by decide +kernel, rfl, by decide +kernel, by decide +kernel⟩
theorem ok__law_b_mixed (T : Txt K mg) : Df P w K mg base 1 "_law_b_mixed" 2 false (app [false, false] m__law_b_mixed) :=
  have S := sc__law_b_mixed
  fn_df T.d__law_b_mixed sc__law_b_mixed false [false, false] m__law_b_mixed rfl fun f cdv A outer s H E hr hu => fun a_cell a_at => by
    refine ⟨_, ?e, (es_ifx (et_cmp op_ge cd_ge (ev_var (i := 0) rfl) (ev_pow ev_int ev_int) (nomark _)) (es_ret (ev_var (i := 0) rfl)) (es_set 2 S.nd (ev_mod (ev_add (ev_add (ev_mul (ev_mod (ev_var (i := 0) rfl) ev_int) ev_int) (ev_mul (ev_var (i := 1) rfl) ev_int)) ev_int) ev_int) (fun d7 => (es_set 3 S.nd (ev_mod (ev_add (ev_add (ev_mul (ev_var (i := 2) rfl) (ev_var (i := 2) rfl)) (ev_mul ev_int (ev_var (i := 1) rfl))) ev_int) ev_int) (fun d20 => (es_set 4 S.nd (ev_mod (ev_add (ev_add (ev_mul (ev_var (i := 3) rfl) (ev_var (i := 3) rfl)) (ev_mul ev_int (ev_var (i := 2) rfl))) (ev_var (i := 1) rfl)) ev_int) (fun d31 => (es_ret (ev_add (ev_mul (ev_var (i := 3) rfl) ev_int) (ev_var (i := 4) rfl))))))))))⟩
    case e => rfl
abbrev n__law_b_take : List Str := ["tape", "many", "at", "cell", "found"]
theorem sc__law_b_take : FnScope ["tape", "many", "at", "cell", "found"] ["tape", "many"] (defScope s__law_b_take) := ⟨rfl, rfl, rfl, by decide +kernel, rfl, by decide +kernel, by decide +kernel⟩
theorem ok__law_b_take (T : Txt K mg) : Df P w K mg base 2 "_law_b_take" 2 false (app [true, false] m__law_b_take) :=
  have S := sc__law_b_take
  fn_df T.d__law_b_take sc__law_b_take false [true, false] m__law_b_take rfl fun f cdv A outer s H E hr hu => fun a_tape a_many => by
    refine ⟨_, ?e, (es_if (S1 := Unit) (eS1 := fun s6 : Unit => [.mu a_tape, .val a_many, .emp, .emp, .emp]) (et_cmp op_lt cd_lt (ev_mui (i := 0) rfl ev_int) (ev_var (i := 1) rfl) (nomark _)) (es_set 2 S.nd (ev_mui (i := 0) rfl ev_int) (fun d7 => (es_set 3 S.nd (ev_add (ev_mul ev_int (ev_var (i := 2) rfl)) ev_int) (fun d10 => (es_if (S1 := D) (eS1 := fun s21 : D => [.mu a_tape, .val a_many, .val d7, .val s21, .emp]) (et_cmp op_lt cd_lt (ev_var (i := 2) rfl) (ev_callB cr_len cl_len (by rfl) T.b_len (by decide +kernel) (el_cons (ev_mui (i := 0) rfl ev_int) el_nil)) (nomark _)) (es_set 3 S.nd (ev_idx (ev_mui (i := 0) rfl ev_int) (ev_var (i := 2) rfl)) (fun d22 => (es_nil (s := d22) ⟨rfl, rfl, rfl, rfl, trivial, trivial⟩))) (es_if (S1 := D) (eS1 := fun s33 : D => [.mu a_tape, .val a_many, .val d7, .val s33, .emp]) (et_cmp (or_ne hu) cd_ne (ev_mui (i := 0) rfl ev_int) (ev_frz (eo_lst el_nil)) (nomark _)) (es_set 3 S.nd (ev_add (ev_mod (ev_idx (ev_mui (i := 0) rfl ev_int) (ev_mod (ev_mul (ev_var (i := 2) rfl) ev_int) (ev_callB cr_len cl_len (by rfl) T.b_len (by decide +kernel) (el_cons (ev_mui (i := 0) rfl ev_int) el_nil)))) ev_int) (ev_mul (ev_var (i := 2) rfl) ev_int)) (fun d34 => (es_nil (s := d34) ⟨rfl, rfl, rfl, rfl, trivial, trivial⟩))) (es_nil (s := d10) ⟨rfl, rfl, rfl, rfl, trivial, trivial⟩) (fun s33 => (es_nil (s := s33) ⟨rfl, rfl, rfl, rfl, trivial, trivial⟩))) (fun s21 => (es_mset (i := 0) rfl (ev_add (ev_var (i := 2) rfl) ev_int) ev_int (es_mset (i := 0) rfl (ev_df (ok__law_b_mixed T) hr (ea_d (ev_var (i := 3) rfl) (ea_d (ev_var (i := 2) rfl) ea_nil))) ev_int (es_nil (s := ()) ⟨rfl, rfl, trivial, trivial, trivial, trivial⟩))))))))) (es_nil (s := ()) ⟨rfl, rfl, trivial, trivial, trivial, trivial⟩) (fun s6 => (es_set 4 S.nd (ev_mod (ev_mui (i := 0) rfl ev_int) (ev_var (i := 1) rfl)) (fun d64 => (es_mset (i := 0) rfl (ev_div (ev_mui (i := 0) rfl ev_int) (ev_var (i := 1) rfl)) ev_int (es_ret (ev_var (i := 4) rfl)))))))⟩
    case e => rfl
abbrev n__law_b_whole : List Str := ["thing"]
theorem sc__law_b_whole : FnScope ["thing"] ["thing"] (defScope s__law_b_whole) := ⟨rfl, rfl, rfl, by decide +kernel, rfl, by decide +kernel, by decide +kernel⟩
theorem ok__law_b_whole (T : Txt K mg) : Df P w K mg base 1 "_law_b_whole" 1 false (app [false] m__law_b_whole) :=
  have S := sc__law_b_whole
  fn_df T.d__law_b_whole sc__law_b_whole false [false] m__law_b_whole rfl fun f cdv A outer s H E hr hu => fun a_thing => by
    refine ⟨_, ?e, (es_ret (ev_and (ev_isi (n := "int") (ev_var (i := 0) rfl) (by rfl) T.b_isinstance (by rfl) T.b_int (by decide +kernel) (by decide +kernel)) (ev_one (ev_not (ev_isi (n := "bool") (ev_var (i := 0) rfl) (by rfl) T.b_isinstance (by rfl) T.b_bool (by decide +kernel) (by decide +kernel))))))⟩
    case e => rfl
abbrev n__law_b_number : List Str := ["tape", "kind"]
theorem sc__law_b_number : FnScope ["tape", "kind"] ["tape", "kind"] (defScope s__law_b_number) := ⟨rfl, rfl, rfl, by decide +kernel, rfl, by decide +kernel, by decide +kernel⟩
theorem ok__law_b_number (T : Txt K mg) : Df P w K mg base 3 "_law_b_number" 2 false (app [true, false] m__law_b_number) :=
  have S := sc__law_b_number
  fn_df T.d__law_b_number sc__law_b_number false [true, false] m__law_b_number rfl fun f cdv A outer s H E hr hu => fun a_tape a_kind => by
    refine ⟨_, ?e, (es_ifx (et_cmp (or_eq hu) cd_eq (ev_var (i := 1) rfl) ev_int (nomark _)) (es_ret (ev_sub (ev_df (ok__law_b_take T) hr (ea_mu (i := 0) rfl (ea_d ev_int ea_nil))) ev_int)) (es_ifx (et_cmp (or_eq hu) cd_eq (ev_var (i := 1) rfl) ev_int (nomark _)) (es_ret (ev_sub (ev_df (ok__law_b_take T) hr (ea_mu (i := 0) rfl (ea_d ev_int ea_nil))) ev_int)) (es_ifx (et_cmp (or_eq hu) cd_eq (ev_var (i := 1) rfl) ev_int (nomark _)) (es_ret (ev_sub ev_int (ev_mul ev_int (ev_df (ok__law_b_take T) hr (ea_mu (i := 0) rfl (ea_d ev_int ea_nil)))))) (es_ret (ev_mul (ev_sub (ev_df (ok__law_b_take T) hr (ea_mu (i := 0) rfl (ea_d ev_int ea_nil))) ev_int) (ev_callT cr_int cl_int (by rfl) T.b_int (by decide +kernel) (el_cons (ev_cmp (or_eq hu) cd_eq (ev_df (ok__law_b_take T) hr (ea_mu (i := 0) rfl (ea_d ev_int ea_nil))) ev_int (nomark _)) el_nil)))))))⟩
    case e => rfl
abbrev n__law_b_board : List Str := ["tape", "rows", "columns", "many", "wide", "kind", "row", "column"]
theorem sc__law_b_board : FnScope ["tape", "rows", "columns", "many", "wide", "kind", "row", "column"] ["tape", "rows", "columns"] (defScope s__law_b_board) := ⟨rfl, rfl, rfl, by decide +kernel, rfl, by decide +kernel, by decide +kernel⟩
theorem ok__law_b_board (T : Txt K mg) : Df P w K mg base 4 "_law_b_board" 3 false (app [true, false, false] m__law_b_board) :=
  have S := sc__law_b_board
  fn_df T.d__law_b_board sc__law_b_board false [true, false, false] m__law_b_board rfl fun f cdv A outer s H E hr hu => fun a_tape a_rows a_columns => by
    refine ⟨_, ?e, (es_set 3 S.nd (ev_df (ok__law_b_take T) hr (ea_mu (i := 0) rfl (ea_d (ev_add (ev_var (i := 1) rfl) ev_int) ea_nil))) (fun d1 => (es_set 4 S.nd (ev_df (ok__law_b_take T) hr (ea_mu (i := 0) rfl (ea_d (ev_add (ev_var (i := 2) rfl) ev_int) ea_nil))) (fun d5 => (es_set 5 S.nd (ev_df (ok__law_b_take T) hr (ea_mu (i := 0) rfl (ea_d ev_int ea_nil))) (fun d9 => (es_ret (ev_callT call_tuple_of cl_tup (by rfl) T.b_tuple (by decide +kernel) (el_cons (ev_frz (eo_lc (own := [("row", 6)]) rfl S.nd (ei_range1 (ev_var (i := 3) rfl) (by rfl) T.b_range) (blkOk_by (by show blkC n__law_b_board (defScope s__law_b_board) _ _ = true; decide +kernel)) (tgok_name (i := 6)) (fun _ _ _ _ _ => (pg_name (i := 6) S.nd rfl (by first | exact Or.inl rfl | exact Or.inr rfl))) (fun _ _ _ _ _ _ => pts_yes) (fun xs _ _ _ _ _ => ev_x1 (fun d12 => (ev_callT call_tuple_of cl_tup (by rfl) T.b_tuple (by decide +kernel) (el_cons (ev_frz (eo_lc (own := [("column", 7)]) rfl S.nd (ei_range1 (ev_var (i := 4) rfl) (by rfl) T.b_range) (blk_nest n__law_b_board (defScope s__law_b_board) rfl rfl (by decide +kernel)) (tgok_name (i := 7)) (fun _ _ _ _ _ => (pg_name (i := 7) S.nd rfl (by first | exact Or.inl rfl | exact Or.inr rfl))) (fun _ _ _ _ _ _ => pts_yes) (fun xs _ _ _ _ _ => ev_x1 (fun d16 => (ev_df (ok__law_b_number T) hr (ea_mu (i := 0) rfl (ea_d (ev_var (i := 5) rfl) ea_nil)))) xs))) el_nil))) xs))) el_nil)))))))))⟩
    case e => rfl
abbrev n__law_b_is : List Str := ["thing", "row", "number"]
theorem sc__law_b_is : FnScope ["thing", "row", "number"] ["thing"] (defScope s__law_b_is) := ⟨rfl, rfl, rfl, by decide +kernel, rfl, by decide +kernel, by decide +kernel⟩
theorem ok__law_b_is (T : Txt K mg) : Df P w K mg base 2 "_law_b_is" 1 false (app [false] m__law_b_is) :=
  have S := sc__law_b_is
  fn_df T.d__law_b_is sc__law_b_is false [false] m__law_b_is rfl fun f cdv A outer s H E hr hu => fun a_thing => by
    refine ⟨_, ?e, (es_ifx (et_of_ew (ew_or (et_not (et_truth (ev_isi (n := "tuple") (ev_var (i := 0) rfl) (by rfl) T.b_isinstance (by rfl) T.b_tuple (by decide +kernel) (by decide +kernel)))) (ew_or1 (et_cmp op_gt cd_gt (ev_callB cr_len cl_len (by rfl) T.b_len (by decide +kernel) (el_cons (ev_var (i := 0) rfl) el_nil)) ev_int (nomark _))))) (es_ret ev_bl) (es_for (S1 := Unit) (eS1 := fun s11 : Unit => [.val a_thing, .emp, .emp]) PassesOwn.never rfl () (ei_val (ev_var (i := 0) rfl)) ⟨(pg_name (i := 1) S.nd rfl (by first | exact Or.inl rfl | exact Or.inr rfl)), (tgok_name (i := 1))⟩ (fun s11 => es_x1 fun d12 => (es_ifx (et_of_ew (ew_or (et_not (et_truth (ev_isi (n := "tuple") (ev_var (i := 1) rfl) (by rfl) T.b_isinstance (by rfl) T.b_tuple (by decide +kernel) (by decide +kernel)))) (ew_or (et_cmp op_gt cd_gt (ev_callB cr_len cl_len (by rfl) T.b_len (by decide +kernel) (el_cons (ev_var (i := 1) rfl) el_nil)) ev_int (nomark _)) (ew_or1 (et_cmp (or_ne hu) cd_ne (ev_callB cr_len cl_len (by rfl) T.b_len (by decide +kernel) (el_cons (ev_var (i := 1) rfl) el_nil)) (ev_callB cr_len cl_len (by rfl) T.b_len (by decide +kernel) (el_cons (ev_idx (ev_var (i := 0) rfl) ev_int) el_nil)) (nomark _)))))) (es_ret ev_bl) (es_ifx (et_not (et_truth (ev_callB (cr_all rfl) cl_all (by rfl) T.b_all (by decide +kernel) (el_cons (ev_frz (eo_lc (own := [("number", 2)]) rfl S.nd (ei_val (ev_var (i := 1) rfl)) (blkOk_by (by show blkC n__law_b_is (defScope s__law_b_is) _ _ = true; decide +kernel)) (tgok_name (i := 2)) (fun _ _ _ _ _ => (pg_name (i := 2) S.nd rfl (by first | exact Or.inl rfl | exact Or.inr rfl))) (fun _ _ _ _ _ _ => pts_yes) (fun xs _ _ _ _ _ => ev_x1 (fun d30 => (ev_and (ev_df (ok__law_b_whole T) hr (ea_d (ev_var (i := 2) rfl) ea_nil)) (ev_one (ev_chain op_le op_le cd_le cd_le (ev_neg ev_int) (ev_var (i := 2) rfl) ev_int)))) xs))) el_nil)))) (es_ret ev_bl) (es_nil (s := ()) ⟨rfl, trivial, trivial, trivial⟩)))) (fun s11 => (es_ret ev_bl)) ⟨rfl, trivial, trivial, trivial⟩))⟩
    case e => rfl
abbrev n__law_b_shifted : List Str := ["tape", "board", "at", "to", "rows"]
theorem sc__law_b_shifted : FnScope ["tape", "board", "at", "to", "rows"] ["tape", "board"] (defScope s__law_b_shifted) := ⟨rfl, rfl, rfl, by decide +kernel, rfl, by decide +kernel, by decide +kernel⟩
theorem ok__law_b_shifted (T : Txt K mg) : Df P w K mg base 3 "_law_b_shifted" 2 false (app [true, false] m__law_b_shifted) :=
  have S := sc__law_b_shifted
  fn_df T.d__law_b_shifted sc__law_b_shifted false [true, false] m__law_b_shifted rfl fun f cdv A outer s H E hr hu => fun a_tape a_board => by
    refine ⟨_, ?e, (es_ifx (et_of_ew (ew_or (et_cmp op_lt cd_lt (ev_callB cr_len cl_len (by rfl) T.b_len (by decide +kernel) (el_cons (ev_var (i := 1) rfl) el_nil)) ev_int (nomark _)) (ew_or1 (et_cmp (or_eq hu) cd_eq (ev_idx (ev_var (i := 1) rfl) ev_int) (ev_tup el_nil) (nomark _))))) (es_ret (ev_frz (eo_lst el_nil))) (es_set 2 S.nd (ev_df (ok__law_b_take T) hr (ea_mu (i := 0) rfl (ea_d (ev_callB cr_len cl_len (by rfl) T.b_len (by decide +kernel) (el_cons (ev_var (i := 1) rfl) el_nil)) ea_nil))) (fun d12 => (es_set 3 S.nd (ev_mod (ev_add (ev_add (ev_var (i := 2) rfl) ev_int) (ev_df (ok__law_b_take T) hr (ea_mu (i := 0) rfl (ea_d (ev_sub (ev_callB cr_len cl_len (by rfl) T.b_len (by decide +kernel) (el_cons (ev_var (i := 1) rfl) el_nil)) ev_int) ea_nil)))) (ev_callB cr_len cl_len (by rfl) T.b_len (by decide +kernel) (el_cons (ev_var (i := 1) rfl) el_nil))) (fun d15 => (es_own 4 S.nd (eo_callT call_list_of cl_lst (by rfl) T.b_list (by decide +kernel) (el_cons (ev_var (i := 1) rfl) el_nil)) (fun l29 => (es_oset (i := 4) rfl (ev_bor (i := 4) rfl (ev_add (ev_idx (ev_var (i := 4) rfl) (ev_var (i := 3) rfl)) (ev_cut (ev_idx (ev_var (i := 4) rfl) (ev_var (i := 2) rfl)) eb_none (eb_some ev_int)))) (ev_var (i := 3) rfl) (fun l41 => (es_oset (i := 4) rfl (ev_bor (i := 4) rfl (ev_cut (ev_idx (ev_var (i := 4) rfl) (ev_var (i := 2) rfl)) (eb_some ev_int) eb_none)) (ev_var (i := 2) rfl) (fun l49 => (es_wk (ρ' := [.mu a_tape, .val a_board, .val d12, .val d15, .val (PyData.list l49)]) ⟨rfl, rfl, rfl, rfl, rfl, trivial⟩ (es_ret (ev_frz (eo_lst (el_cons (ev_callT call_tuple_of cl_tup (by rfl) T.b_tuple (by decide +kernel) (el_cons (ev_var (i := 4) rfl) el_nil)) el_nil))))))))))))))))⟩
    case e => rfl
abbrev n__law_b_bent : List Str := ["tape", "board", "far", "found", "turn", "at", "row", "here", "odds", "odd", "line"]
theorem sc__law_b_bent : FnScope ["tape", "board", "far", "found", "turn", "at", "row", "here", "odds", "odd", "line"] ["tape", "board"] (defScope s__law_b_bent) := ⟨rfl, rfl, rfl, by decide +kernel, rfl, by decide +kernel, by decide +kernel⟩
theorem ok__law_b_bent (T : Txt K mg) : Df P w K mg base 4 "_law_b_bent" 2 false (app [true, false] m__law_b_bent) :=
  have S := sc__law_b_bent
  fn_df T.d__law_b_bent sc__law_b_bent false [true, false] m__law_b_bent rfl fun f cdv A outer s H E hr hu => fun a_tape a_board => by
    refine ⟨_, ?e, (es_set 2 S.nd (ev_df (ok__law_b_take T) hr (ea_mu (i := 0) rfl (ea_d (ev_pow ev_int ev_int) ea_nil))) (fun d1 => (es_set 3 S.nd (ev_frz (eo_lst (el_cons (ev_frz (eo_callT call_list_of cl_lst (by rfl) T.b_list (by decide +kernel) (el_cons (ev_var (i := 1) rfl) el_nil))) (el_cons ev_non (el_cons ev_str (el_cons ev_str (el_cons ev_dnil (el_cons ev_int (el_cons ev_bl (el_cons (ev_frz (eo_lst el_nil)) (el_cons (ev_tup (el_cons (ev_var (i := 1) rfl) el_nil)) (el_cons (ev_add (ev_var (i := 1) rfl) (ev_tup (el_cons (ev_tup (el_cons ev_int el_nil)) el_nil))) (el_cons (ev_add (ev_var (i := 1) rfl) (ev_tup (el_cons (ev_tup el_nil) el_nil))) (el_cons (ev_cut (ev_add (ev_var (i := 1) rfl) (ev_var (i := 1) rfl)) eb_none (eb_some ev_int)) el_nil)))))))))))))) (fun d5 => (es_set 3 S.nd (ev_add (ev_var (i := 3) rfl) (ev_frz (eo_lst (el_cons (ev_tup (el_cons (ev_tup (el_cons ev_int (el_cons ev_int el_nil))) (el_cons (ev_tup (el_cons ev_int el_nil)) (el_cons (ev_tup (el_cons ev_int (el_cons ev_int (el_cons ev_int el_nil)))) el_nil)))) (el_cons (ev_tup (el_cons (ev_tup (el_cons ev_int (el_cons ev_int (el_cons ev_int el_nil)))) (el_cons (ev_tup (el_cons ev_int el_nil)) (el_cons (ev_tup (el_cons ev_int (el_cons ev_int el_nil))) el_nil)))) (el_cons (ev_tup (el_cons (ev_tup el_nil) (el_cons (ev_tup (el_cons ev_int el_nil)) el_nil))) (el_cons (ev_tup (el_cons (ev_tup (el_cons ev_int el_nil)) (el_cons (ev_tup el_nil) el_nil))) el_nil))))))) (fun d35 => (es_set 3 S.nd (ev_add (ev_var (i := 3) rfl) (ev_df (ok__law_b_shifted T) hr (ea_mu (i := 0) rfl (ea_d (ev_var (i := 1) rfl) ea_nil)))) (fun d67 => (es_set 3 S.nd (ev_add (ev_var (i := 3) rfl) (ev_frz (eo_lst (el_cons (ev_add (ev_var (i := 1) rfl) (ev_tup (el_cons (ev_mulT (ev_tup (el_cons ev_int el_nil)) ev_int) el_nil))) (el_cons (ev_tup (el_cons (ev_mulT (ev_tup (el_cons ev_int el_nil)) ev_int) el_nil)) (el_cons (ev_mulT (ev_tup (el_cons (ev_mulT (ev_tup (el_cons ev_int el_nil)) ev_int) el_nil)) ev_int) (el_cons (ev_mulT (ev_tup (el_cons (ev_mulT (ev_tup (el_cons (ev_neg ev_int) el_nil)) ev_int) el_nil)) ev_int) (el_cons (ev_mulT (ev_tup (el_cons (ev_tup el_nil) el_nil)) ev_int) (el_cons (ev_mulT (ev_tup (el_cons (ev_tup el_nil) el_nil)) ev_int) el_nil))))))))) (fun d71 => (es_for (S1 := D) (eS1 := fun s116 : D => [.mu a_tape, .val a_board, .val d1, .val s116, .emp, .emp, .emp, .emp, .emp, .emp, .emp]) PassesOwn.never rfl d71 (ei_range1 (ev_mul ev_int (ev_callT cr_int cl_int (by rfl) T.b_int (by decide +kernel) (el_cons (ev_cmp (or_ne hu) cd_ne (ev_var (i := 1) rfl) (ev_tup el_nil) (nomark _)) el_nil))) (by rfl) T.b_range) ⟨(pg_name (i := 4) S.nd rfl (by first | exact Or.inl rfl | exact Or.inr rfl)), (tgok_name (i := 4))⟩ (fun s116 => es_x1 fun d117 => (es_set 5 S.nd (ev_df (ok__law_b_take T) hr (ea_mu (i := 0) rfl (ea_d (ev_callB cr_len cl_len (by rfl) T.b_len (by decide +kernel) (el_cons (ev_var (i := 1) rfl) el_nil)) ea_nil))) (fun d118 => (es_set 6 S.nd (ev_idx (ev_var (i := 1) rfl) (ev_var (i := 5) rfl)) (fun d121 => (es_set 7 S.nd (ev_df (ok__law_b_take T) hr (ea_mu (i := 0) rfl (ea_d (ev_add (ev_callB cr_len cl_len (by rfl) T.b_len (by decide +kernel) (el_cons (ev_var (i := 6) rfl) el_nil)) ev_int) ea_nil))) (fun d124 => (es_set 8 S.nd (ev_frz (eo_lst (el_cons (ev_add (ev_var (i := 6) rfl) (ev_tup (el_cons ev_int el_nil))) (el_cons (ev_cut (ev_var (i := 6) rfl) (eb_some ev_int) eb_none) (el_cons (ev_frz (eo_callT call_list_of cl_lst (by rfl) T.b_list (by decide +kernel) (el_cons (ev_var (i := 6) rfl) el_nil))) (el_cons ev_non (el_cons ev_str (el_cons ev_str (el_cons ev_int (el_cons ev_dnil (el_cons (ev_tup el_nil) (el_cons (ev_add (ev_var (i := 6) rfl) (ev_var (i := 6) rfl)) (el_cons (ev_tup (el_cons (ev_var (i := 6) rfl) el_nil)) el_nil))))))))))))) (fun d129 => (es_for (S1 := D) (eS1 := fun s179 : D => [.mu a_tape, .val a_board, .val d1, .val s116, .val d117, .val d118, .val d121, .val d124, .val s179, .emp, .emp]) PassesOwn.never rfl d129 (ei_val (ev_frz (eo_lst (el_cons ev_int (el_cons (ev_neg ev_int) (el_cons (ev_add ev_int (ev_var (i := 2) rfl)) (el_cons (ev_sub (ev_neg ev_int) (ev_var (i := 2) rfl)) (el_cons ev_bl (el_cons ev_bl (el_cons ev_non (el_cons ev_str (el_cons (ev_tup (el_cons ev_int el_nil)) (el_cons (ev_frz (eo_lst (el_cons ev_int el_nil))) (el_cons ev_dnil (el_cons ev_str (el_cons ev_int (el_cons (ev_neg ev_int) el_nil))))))))))))))))) ⟨(pg_name (i := 9) S.nd rfl (by first | exact Or.inl rfl | exact Or.inr rfl)), (tgok_name (i := 9))⟩ (fun s179 => es_x1 fun d180 => (es_set 8 S.nd (ev_add (ev_var (i := 8) rfl) (ev_frz (eo_lst (el_cons (ev_add (ev_add (ev_cut (ev_var (i := 6) rfl) eb_none (eb_some (ev_var (i := 7) rfl))) (ev_tup (el_cons (ev_var (i := 9) rfl) el_nil))) (ev_cut (ev_var (i := 6) rfl) (eb_some (ev_add (ev_var (i := 7) rfl) ev_int)) eb_none)) (el_cons (ev_add (ev_add (ev_cut (ev_var (i := 6) rfl) eb_none (eb_some (ev_var (i := 7) rfl))) (ev_tup (el_cons (ev_var (i := 9) rfl) el_nil))) (ev_cut (ev_var (i := 6) rfl) (eb_some (ev_var (i := 7) rfl)) eb_none)) el_nil))))) (fun d181 => (es_nil (s := d181) ⟨rfl, rfl, rfl, rfl, rfl, rfl, rfl, rfl, rfl, trivial, trivial, trivial⟩)))) (fun s179 => (es_own 3 S.nd (eo_cat (ev_var (i := 3) rfl) (ev_frz (eo_lc (own := [("odd", 9)]) rfl S.nd (ei_val (ev_var (i := 8) rfl)) (blkOk_by (by show blkC n__law_b_bent (defScope s__law_b_bent) _ _ = true; decide +kernel)) (tgok_name (i := 9)) (fun _ _ _ _ _ => (pg_name (i := 9) S.nd rfl (by first | exact Or.inl rfl | exact Or.inr rfl))) (fun _ _ _ _ _ _ => pts_yes) (fun xs _ _ _ _ _ => ev_x1 (fun d213 => (ev_add (ev_add (ev_cut (ev_var (i := 1) rfl) eb_none (eb_some (ev_var (i := 5) rfl))) (ev_tup (el_cons (ev_var (i := 9) rfl) el_nil))) (ev_cut (ev_var (i := 1) rfl) (eb_some (ev_add (ev_var (i := 5) rfl) ev_int)) eb_none))) xs)))) (fun l232 => (es_app (i := 3) rfl (ev_callT call_tuple_of cl_tup (by rfl) T.b_tuple (by decide +kernel) (el_cons (ev_frz (eo_lc (own := [("line", 10)]) rfl S.nd (ei_val (ev_var (i := 1) rfl)) (blkOk_by (by show blkC n__law_b_bent (defScope s__law_b_bent) _ _ = true; decide +kernel)) (tgok_name (i := 10)) (fun _ _ _ _ _ => (pg_name (i := 10) S.nd rfl (by first | exact Or.inl rfl | exact Or.inr rfl))) (fun _ _ _ _ _ _ => pts_yes) (fun xs _ _ _ _ _ => ev_x1 (fun d234 => (ev_cut (ev_var (i := 10) rfl) eb_none (eb_some (ev_var (i := 7) rfl)))) xs))) el_nil)) (fun d242 => (es_nil (s := (PyData.list (l232 ++ [d242]))) ⟨rfl, rfl, rfl, rfl, trivial, trivial, trivial, trivial, trivial, trivial, trivial, trivial⟩)))))) ⟨rfl, rfl, rfl, rfl, rfl, rfl, rfl, rfl, rfl, trivial, trivial, trivial⟩)))))))))) (fun s116 => (es_ret (ev_var (i := 3) rfl))) ⟨rfl, rfl, rfl, rfl, trivial, trivial, trivial, trivial, trivial, trivial, trivial, trivial⟩)))))))))))⟩
    case e => rfl
abbrev n_law : List Str := ["script", "tape", "k", "board", "thing", "kept", "found"]
theorem sc_law : FnScope ["script", "tape", "k", "board", "thing", "kept", "found"] ["script"] (defScope s_law) := ⟨rfl, rfl, rfl, by decide +kernel, rfl, by decide +kernel, by decide +kernel⟩
theorem ok_law (T : Txt K mg) {f : Addr} {fd : FuncData} (F : Fun K "law" "law" s_law f fd) : At1 P w K mg base f fd ["script"] (spD K mg 1 false (app [false] m_law)) :=
  have S := sc_law
  at1_law (k := 4) F sc_law false [false] m_law rfl ⟨rfl, by decide, by decide⟩ fun cdv s H E hr hu hw => fun a_script => by
    refine ⟨_, ?e, (es_newmu 1 S.nd (eo_lst (el_cons (ev_var (i := 0) rfl) (el_cons ev_int (el_cons ev_int el_nil)))) (fun n5 => (es_for (S1 := Unit) (eS1 := fun s8 : Unit => [.val a_script, .mu n5, .emp, .emp, .emp, .emp, .emp]) PassesOwn.never rfl () (ei_range1 ev_int (by rfl) T.b_range) ⟨(pg_name (i := 2) S.nd rfl (by first | exact Or.inl rfl | exact Or.inr rfl)), (tgok_name (i := 2))⟩ (fun s8 => es_x1 fun d9 => (es_ifx (et_of_ew (ew_and (et_cmp op_gt cd_gt (ev_var (i := 2) rfl) ev_int (nomark _)) (ew_and1 (et_cmp op_ge cd_ge (ev_mui (i := 1) rfl ev_int) (ev_callB cr_len cl_len (by rfl) T.b_len (by decide +kernel) (el_cons (ev_var (i := 0) rfl) el_nil)) (nomark _))))) (es_break (l := ()) ⟨rfl, rfl, trivial, trivial, trivial, trivial, trivial, trivial⟩) (es_set 3 S.nd (ev_df (ok__law_b_board T) hr (ea_mu (i := 1) rfl (ea_d ev_int (ea_d ev_int ea_nil)))) (fun d19 => (es_ifx (et_cmp or_nis cd_nis (ev_df (ok_is_board T) hr (ea_d (ev_var (i := 3) rfl) ea_nil)) ev_bl (nomark _)) (es_ret ev_bl) (es_for (S1 := Unit) (eS1 := fun s29 : Unit => [.val a_script, .mu n5, .val d9, .val d19, .emp, .emp, .emp]) PassesOwn.never rfl () (ei_val (ev_df (ok__law_b_bent T) hr (ea_mu (i := 1) rfl (ea_d (ev_var (i := 3) rfl) ea_nil)))) ⟨(pg_name (i := 4) S.nd rfl (by first | exact Or.inl rfl | exact Or.inr rfl)), (tgok_name (i := 4))⟩ (fun s29 => es_x1 fun d30 => (es_set 5 S.nd (ev_callB (cr_repr rfl (hu65 hr)) cl_repr (by rfl) T.b_repr (by decide +kernel) (el_cons (ev_var (i := 4) rfl) el_nil)) (fun d31 => (es_set 6 S.nd (ev_df (ok_is_board T) hr (ea_d (ev_var (i := 4) rfl) ea_nil)) (fun d33 => (es_ifx (et_of_ew (ew_or (et_not (et_truth (ev_isi (n := "bool") (ev_var (i := 6) rfl) (by rfl) T.b_isinstance (by rfl) T.b_bool (by decide +kernel) (by decide +kernel)))) (ew_or (et_cmp (or_ne hu) cd_ne (ev_var (i := 6) rfl) (ev_df (ok__law_b_is T) hr (ea_d (ev_var (i := 4) rfl) ea_nil)) (nomark _)) (ew_or1 (et_cmp (or_ne hu) cd_ne (ev_callB (cr_repr rfl (hu65 hr)) cl_repr (by rfl) T.b_repr (by decide +kernel) (el_cons (ev_var (i := 4) rfl) el_nil)) (ev_var (i := 5) rfl) (nomark _)))))) (es_ret ev_bl) (es_nil (s := ()) ⟨rfl, rfl, rfl, rfl, trivial, trivial, trivial, trivial⟩))))))) (fun s29 => (es_nil (s := ()) ⟨rfl, rfl, trivial, trivial, trivial, trivial, trivial, trivial⟩)) ⟨rfl, rfl, rfl, rfl, trivial, trivial, trivial, trivial⟩)))))) (fun s8 => (es_ret ev_bl)) ⟨rfl, rfl, trivial, trivial, trivial, trivial, trivial, trivial⟩)))⟩
    case e => rfl
end
theorem all_mk {l : PySem.W.OpenLaw} {w : World} {K : PySem.W.Frag} {h : Heap} {mg : Str → Option Value} {fa f0 f1 f2 f3 f4 f5 f6 f7 f8 f9 f10 f11 f12 : Addr} (X : K.In h) (G : h.Ns mainGlobals mg) (hfa : mg "law" = some (.ref fa))
    {od0 an0 : Option Addr} {sl0 : Array (Option Value)} {oc0 kV0 dc0 pm0 cd0 ct0 : Value}
    {od1 an1 : Option Addr} {sl1 : Array (Option Value)} {oc1 kV1 dc1 pm1 cd1 ct1 : Value}
    {od2 an2 : Option Addr} {sl2 : Array (Option Value)} {oc2 kV2 dc2 pm2 cd2 ct2 : Value}
    {od3 an3 : Option Addr} {sl3 : Array (Option Value)} {oc3 kV3 dc3 pm3 cd3 ct3 : Value}
    {od4 an4 : Option Addr} {sl4 : Array (Option Value)} {oc4 kV4 dc4 pm4 cd4 ct4 : Value}
    {od5 an5 : Option Addr} {sl5 : Array (Option Value)} {oc5 kV5 dc5 pm5 cd5 ct5 : Value}
    {od6 an6 : Option Addr} {sl6 : Array (Option Value)} {oc6 kV6 dc6 pm6 cd6 ct6 : Value}
    {od7 an7 : Option Addr} {sl7 : Array (Option Value)} {oc7 kV7 dc7 pm7 cd7 ct7 : Value}
    {od8 an8 : Option Addr} {sl8 : Array (Option Value)} {oc8 kV8 dc8 pm8 cd8 ct8 : Value}
    {od9 an9 : Option Addr} {sl9 : Array (Option Value)} {oc9 kV9 dc9 pm9 cd9 ct9 : Value}
    {od10 an10 : Option Addr} {sl10 : Array (Option Value)} {oc10 kV10 dc10 pm10 cd10 ct10 : Value}
    {od11 an11 : Option Addr} {sl11 : Array (Option Value)} {oc11 kV11 dc11 pm11 cd11 ct11 : Value}
    {od12 an12 : Option Addr} {sl12 : Array (Option Value)} {oc12 kV12 dc12 pm12 cd12 ct12 : Value}
    {ty0 : Tok}
    {ty1 : Tok}
    {ty2 : Tok}
    (a0 : PySem.W.nsIn K mainGlobals "is_whole" = some (some (.ref f0))) (l0 : K.lookup f0 = some ⟨oc0, od0, .func (PySem.W.fnOf "is_whole" "is_whole" (defArgs s_is_whole) (defBody s_is_whole) (defScope s_is_whole) .none kV0 dc0 pm0 an0 cd0 ct0), sl0⟩) (c0 : PySem.W.codeIn K cd0 "is_whole" = true) (k0 : PySem.W.keepIn K (.ref f0) = true)
    (a1 : PySem.W.nsIn K mainGlobals "is_row" = some (some (.ref f1))) (l1 : K.lookup f1 = some ⟨oc1, od1, .func (PySem.W.fnOf "is_row" "is_row" (defArgs s_is_row) (defBody s_is_row) (defScope s_is_row) .none kV1 dc1 pm1 an1 cd1 ct1), sl1⟩) (c1 : PySem.W.codeIn K cd1 "is_row" = true) (k1 : PySem.W.keepIn K (.ref f1) = true)
    (a2 : PySem.W.nsIn K mainGlobals "columns_of" = some (some (.ref f2))) (l2 : K.lookup f2 = some ⟨oc2, od2, .func (PySem.W.fnOf "columns_of" "columns_of" (defArgs s_columns_of) (defBody s_columns_of) (defScope s_columns_of) .none kV2 dc2 pm2 an2 cd2 ct2), sl2⟩) (c2 : PySem.W.codeIn K cd2 "columns_of" = true) (k2 : PySem.W.keepIn K (.ref f2) = true)
    (a3 : PySem.W.nsIn K mainGlobals "is_board" = some (some (.ref f3))) (l3 : K.lookup f3 = some ⟨oc3, od3, .func (PySem.W.fnOf "is_board" "is_board" (defArgs s_is_board) (defBody s_is_board) (defScope s_is_board) .none kV3 dc3 pm3 an3 cd3 ct3), sl3⟩) (c3 : PySem.W.codeIn K cd3 "is_board" = true) (k3 : PySem.W.keepIn K (.ref f3) = true)
    (a4 : PySem.W.nsIn K mainGlobals "_law_b_mixed" = some (some (.ref f4))) (l4 : K.lookup f4 = some ⟨oc4, od4, .func (PySem.W.fnOf "_law_b_mixed" "_law_b_mixed" (defArgs s__law_b_mixed) (defBody s__law_b_mixed) (defScope s__law_b_mixed) .none kV4 dc4 pm4 an4 cd4 ct4), sl4⟩) (c4 : PySem.W.codeIn K cd4 "_law_b_mixed" = true) (k4 : PySem.W.keepIn K (.ref f4) = true)
    (a5 : PySem.W.nsIn K mainGlobals "_law_b_take" = some (some (.ref f5))) (l5 : K.lookup f5 = some ⟨oc5, od5, .func (PySem.W.fnOf "_law_b_take" "_law_b_take" (defArgs s__law_b_take) (defBody s__law_b_take) (defScope s__law_b_take) .none kV5 dc5 pm5 an5 cd5 ct5), sl5⟩) (c5 : PySem.W.codeIn K cd5 "_law_b_take" = true) (k5 : PySem.W.keepIn K (.ref f5) = true)
    (a6 : PySem.W.nsIn K mainGlobals "_law_b_whole" = some (some (.ref f6))) (l6 : K.lookup f6 = some ⟨oc6, od6, .func (PySem.W.fnOf "_law_b_whole" "_law_b_whole" (defArgs s__law_b_whole) (defBody s__law_b_whole) (defScope s__law_b_whole) .none kV6 dc6 pm6 an6 cd6 ct6), sl6⟩) (c6 : PySem.W.codeIn K cd6 "_law_b_whole" = true) (k6 : PySem.W.keepIn K (.ref f6) = true)
    (a7 : PySem.W.nsIn K mainGlobals "_law_b_number" = some (some (.ref f7))) (l7 : K.lookup f7 = some ⟨oc7, od7, .func (PySem.W.fnOf "_law_b_number" "_law_b_number" (defArgs s__law_b_number) (defBody s__law_b_number) (defScope s__law_b_number) .none kV7 dc7 pm7 an7 cd7 ct7), sl7⟩) (c7 : PySem.W.codeIn K cd7 "_law_b_number" = true) (k7 : PySem.W.keepIn K (.ref f7) = true)
    (a8 : PySem.W.nsIn K mainGlobals "_law_b_board" = some (some (.ref f8))) (l8 : K.lookup f8 = some ⟨oc8, od8, .func (PySem.W.fnOf "_law_b_board" "_law_b_board" (defArgs s__law_b_board) (defBody s__law_b_board) (defScope s__law_b_board) .none kV8 dc8 pm8 an8 cd8 ct8), sl8⟩) (c8 : PySem.W.codeIn K cd8 "_law_b_board" = true) (k8 : PySem.W.keepIn K (.ref f8) = true)
    (a9 : PySem.W.nsIn K mainGlobals "_law_b_is" = some (some (.ref f9))) (l9 : K.lookup f9 = some ⟨oc9, od9, .func (PySem.W.fnOf "_law_b_is" "_law_b_is" (defArgs s__law_b_is) (defBody s__law_b_is) (defScope s__law_b_is) .none kV9 dc9 pm9 an9 cd9 ct9), sl9⟩) (c9 : PySem.W.codeIn K cd9 "_law_b_is" = true) (k9 : PySem.W.keepIn K (.ref f9) = true)
    (a10 : PySem.W.nsIn K mainGlobals "_law_b_shifted" = some (some (.ref f10))) (l10 : K.lookup f10 = some ⟨oc10, od10, .func (PySem.W.fnOf "_law_b_shifted" "_law_b_shifted" (defArgs s__law_b_shifted) (defBody s__law_b_shifted) (defScope s__law_b_shifted) .none kV10 dc10 pm10 an10 cd10 ct10), sl10⟩) (c10 : PySem.W.codeIn K cd10 "_law_b_shifted" = true) (k10 : PySem.W.keepIn K (.ref f10) = true)
    (a11 : PySem.W.nsIn K mainGlobals "_law_b_bent" = some (some (.ref f11))) (l11 : K.lookup f11 = some ⟨oc11, od11, .func (PySem.W.fnOf "_law_b_bent" "_law_b_bent" (defArgs s__law_b_bent) (defBody s__law_b_bent) (defScope s__law_b_bent) .none kV11 dc11 pm11 an11 cd11 ct11), sl11⟩) (c11 : PySem.W.codeIn K cd11 "_law_b_bent" = true) (k11 : PySem.W.keepIn K (.ref f11) = true)
    (a12 : PySem.W.nsIn K mainGlobals "law" = some (some (.ref f12))) (l12 : K.lookup f12 = some ⟨oc12, od12, .func (PySem.W.fnOf "law" "law" (defArgs s_law) (defBody s_law) (defScope s_law) .none kV12 dc12 pm12 an12 cd12 ct12), sl12⟩) (c12 : PySem.W.codeIn K cd12 "law" = true) (k12 : PySem.W.keepIn K (.ref f12) = true)
    (z0 : PySem.W.nsIn K mainGlobals "all" = some none)
    (z1 : PySem.W.nsIn K mainGlobals "bool" = some none)
    (z2 : PySem.W.nsIn K mainGlobals "int" = some none)
    (z3 : PySem.W.nsIn K mainGlobals "isinstance" = some none)
    (z4 : PySem.W.nsIn K mainGlobals "len" = some none)
    (z5 : PySem.W.nsIn K mainGlobals "list" = some none)
    (z6 : PySem.W.nsIn K mainGlobals "range" = some none)
    (z7 : PySem.W.nsIn K mainGlobals "repr" = some none)
    (z8 : PySem.W.nsIn K mainGlobals "tuple" = some none)
    (y0 : PySem.W.nsIn K mainGlobals "MOST_COLUMNS" = some (some (.int 10 ty0)))
    (y1 : PySem.W.nsIn K mainGlobals "MOST_NUMBER" = some (some (.int 9 ty1)))
    (y2 : PySem.W.nsIn K mainGlobals "MOST_ROWS" = some (some (.int 8 ty2))) :
    ∃ fd : FuncData, (∀ (s : Shared) (v : Value), BindsTo s fd ⟨[v], []⟩ [("script", v)]) ∧ ∀ base : Heap, K.In base → base.Ns mainGlobals mg → At1 l.prog w K mg base fa fd ["script"] (spD K mg 1 false (app [false] m_law)) := by
  have e := hfa.symm.trans (PySem.W.mg_of X G a12)
  cases e
  have F0 := fun_mk (st := s_is_whole) l0 c0 k0
  have F1 := fun_mk (st := s_is_row) l1 c1 k1
  have F2 := fun_mk (st := s_columns_of) l2 c2 k2
  have F3 := fun_mk (st := s_is_board) l3 c3 k3
  have F4 := fun_mk (st := s__law_b_mixed) l4 c4 k4
  have F5 := fun_mk (st := s__law_b_take) l5 c5 k5
  have F6 := fun_mk (st := s__law_b_whole) l6 c6 k6
  have F7 := fun_mk (st := s__law_b_number) l7 c7 k7
  have F8 := fun_mk (st := s__law_b_board) l8 c8 k8
  have F9 := fun_mk (st := s__law_b_is) l9 c9 k9
  have F10 := fun_mk (st := s__law_b_shifted) l10 c10 k10
  have F11 := fun_mk (st := s__law_b_bent) l11 c11 k11
  have F12 := fun_mk (st := s_law) l12 c12 k12
  have T : Txt K mg := ⟨⟨⟨_, _, F0, PySem.W.mg_of X G a0, F0.binds (ps := ["thing"]) fun _ _ _ _ _ _ us hl => match us, hl with | [_], _ => rfl⟩⟩,
    ⟨⟨_, _, F1, PySem.W.mg_of X G a1, F1.binds (ps := ["columns", "thing"]) fun _ _ _ _ _ _ us hl => match us, hl with | [_, _], _ => rfl⟩⟩,
    ⟨⟨_, _, F2, PySem.W.mg_of X G a2, F2.binds (ps := ["board"]) fun _ _ _ _ _ _ us hl => match us, hl with | [_], _ => rfl⟩⟩,
    ⟨⟨_, _, F3, PySem.W.mg_of X G a3, F3.binds (ps := ["thing"]) fun _ _ _ _ _ _ us hl => match us, hl with | [_], _ => rfl⟩⟩,
    ⟨⟨_, _, F4, PySem.W.mg_of X G a4, F4.binds (ps := ["cell", "at"]) fun _ _ _ _ _ _ us hl => match us, hl with | [_, _], _ => rfl⟩⟩,
    ⟨⟨_, _, F5, PySem.W.mg_of X G a5, F5.binds (ps := ["tape", "many"]) fun _ _ _ _ _ _ us hl => match us, hl with | [_, _], _ => rfl⟩⟩,
    ⟨⟨_, _, F6, PySem.W.mg_of X G a6, F6.binds (ps := ["thing"]) fun _ _ _ _ _ _ us hl => match us, hl with | [_], _ => rfl⟩⟩,
    ⟨⟨_, _, F7, PySem.W.mg_of X G a7, F7.binds (ps := ["tape", "kind"]) fun _ _ _ _ _ _ us hl => match us, hl with | [_, _], _ => rfl⟩⟩,
    ⟨⟨_, _, F8, PySem.W.mg_of X G a8, F8.binds (ps := ["tape", "rows", "columns"]) fun _ _ _ _ _ _ us hl => match us, hl with | [_, _, _], _ => rfl⟩⟩,
    ⟨⟨_, _, F9, PySem.W.mg_of X G a9, F9.binds (ps := ["thing"]) fun _ _ _ _ _ _ us hl => match us, hl with | [_], _ => rfl⟩⟩,
    ⟨⟨_, _, F10, PySem.W.mg_of X G a10, F10.binds (ps := ["tape", "board"]) fun _ _ _ _ _ _ us hl => match us, hl with | [_, _], _ => rfl⟩⟩,
    ⟨⟨_, _, F11, PySem.W.mg_of X G a11, F11.binds (ps := ["tape", "board"]) fun _ _ _ _ _ _ us hl => match us, hl with | [_, _], _ => rfl⟩⟩,
    ⟨⟨_, _, F12, PySem.W.mg_of X G a12, F12.binds (ps := ["script"]) fun _ _ _ _ _ _ us hl => match us, hl with | [_], _ => rfl⟩⟩,
    PySem.W.mg_none_of X G z0,
    PySem.W.mg_none_of X G z1,
    PySem.W.mg_none_of X G z2,
    PySem.W.mg_none_of X G z3,
    PySem.W.mg_none_of X G z4,
    PySem.W.mg_none_of X G z5,
    PySem.W.mg_none_of X G z6,
    PySem.W.mg_none_of X G z7,
    PySem.W.mg_none_of X G z8,
    gc_int (PySem.W.mg_of X G y0),
    gc_int (PySem.W.mg_of X G y1),
    gc_int (PySem.W.mg_of X G y2)⟩
  refine ⟨PySem.W.fnOf "law" "law" (defArgs s_law) (defBody s_law) (defScope s_law) .none kV12 dc12 pm12 an12 cd12 ct12, fun s v => .of_eq rfl, fun base _ _ => ?_⟩
  exact ok_law T F12
end K13


open PySem PySem.W PyProof.Rows
set_option maxRecDepth 100000 in
set_option maxHeartbeats 0 in
theorem PySem.Challenge.cw_meanchoice_k13_boards_of_anything_holds : PySem.Challenge.rw_meanchoice_k13_boards_of_anything.Holds := by
  w_on; o_law; k_head; (case hw => w_witness2)
  k_fill
  refine DL.law_walk1 (l := PySem.Challenge.rw_meanchoice_k13_boards_of_anything) (n := 63) (x := "script") K13.law_true rfl (by decide) rfl (fun w h Y => PySem.W.kIn_of Y) ?F
  case F =>
    intro w mg fa h KX G hmg
    refine' K13.all_mk KX G hmg ?a0 ?l0 ?c0 ?k0 ?a1 ?l1 ?c1 ?k1 ?a2 ?l2 ?c2 ?k2 ?a3 ?l3 ?c3 ?k3 ?a4 ?l4 ?c4 ?k4 ?a5 ?l5 ?c5 ?k5 ?a6 ?l6 ?c6 ?k6 ?a7 ?l7 ?c7 ?k7 ?a8 ?l8 ?c8 ?k8 ?a9 ?l9 ?c9 ?k9 ?a10 ?l10 ?c10 ?k10 ?a11 ?l11 ?c11 ?k11 ?a12 ?l12 ?c12 ?k12 ?z0 ?z1 ?z2 ?z3 ?z4 ?z5 ?z6 ?z7 ?z8 ?y0 ?y1 ?y2
    (case a0 => k_is)
    (case l0 => k_is)
    (case c0 => k_is)
    (case k0 => k_is)
    (case a1 => k_is)
    (case l1 => k_is)
    (case c1 => k_is)
    (case k1 => k_is)
    (case a2 => k_is)
    (case l2 => k_is)
    (case c2 => k_is)
    (case k2 => k_is)
    (case a3 => k_is)
    (case l3 => k_is)
    (case c3 => k_is)
    (case k3 => k_is)
    (case a4 => k_is)
    (case l4 => k_is)
    (case c4 => k_is)
    (case k4 => k_is)
    (case a5 => k_is)
    (case l5 => k_is)
    (case c5 => k_is)
    (case k5 => k_is)
    (case a6 => k_is)
    (case l6 => k_is)
    (case c6 => k_is)
    (case k6 => k_is)
    (case a7 => k_is)
    (case l7 => k_is)
    (case c7 => k_is)
    (case k7 => k_is)
    (case a8 => k_is)
    (case l8 => k_is)
    (case c8 => k_is)
    (case k8 => k_is)
    (case a9 => k_is)
    (case l9 => k_is)
    (case c9 => k_is)
    (case k9 => k_is)
    (case a10 => k_is)
    (case l10 => k_is)
    (case c10 => k_is)
    (case k10 => k_is)
    (case a11 => k_is)
    (case l11 => k_is)
    (case c11 => k_is)
    (case k11 => k_is)
    (case a12 => k_is)
    (case l12 => k_is)
    (case c12 => k_is)
    (case k12 => k_is)
    (case z0 => k_is)
    (case z1 => k_is)
    (case z2 => k_is)
    (case z3 => k_is)
    (case z4 => k_is)
    (case z5 => k_is)
    (case z6 => k_is)
    (case z7 => k_is)
    (case z8 => k_is)
    (case y0 => k_is)
    (case y1 => k_is)
    (case y2 => k_is)
#print axioms PySem.Challenge.cw_meanchoice_k13_boards_of_anything_holds

