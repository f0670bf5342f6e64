import PyProof.Rows.All
import Wide.All
import OpenK.AllK
import Wide.FinOn
import HandS.ForMost
import HandS.ForExc
import HandS.Wide
import HandS.Style
import HandS.IsInst
import HandS.CallLocal
import HandS.Comp
import HandS.StrMore
import HandS.TupAny
import KE.KExcSuper
import KE.KSuper
import HandS.ExcInit
import KE.KExcIs
import HandS.ExcOwn
import HandS.ExcField
import HandS.ExcIs
import HandS.Dict
import HandS.WordsExc
import HandS.EndBits
import PyProof.StrLawsIn
import HandS.Text
import PySem.Challenge.RW_burnish_k85_packed_values_read_back
set_option Elab.async false
set_option linter.all false
set_option maxRecDepth 100000
set_option maxHeartbeats 4000000
/-! Mi: plain data and a store of cells in the place of the abstract heap; a mirror (a plain Lean function) for each construct, and the rule that the construct does what its mirror says. -/
namespace Mi
open PySem PySem.Spec PyProof.Rows L2

/-! ### data -/
inductive D where
  | non | bl (b : Bool) | int (i : Int) | str (x : Str) | tup (ds : List D) | ref (k : Nat) | ty (n : String) | fn (x : Str) | frl (ds : List D) | exn (a C dd : Nat) (f : Str) (d : D)
inductive C where
  | lst (ds : List D) | dic (kvs : List (Key × D))
abbrev S := List C
abbrev Ev := List (Option D)
inductive R (α : Type) where
  | ok (a : α) (s : S) | exc (c f : Str) (d : D) (s : S) | bad
def R.bind {α β : Type} (r : R α) (g : α → S → R β) : R β := match r with
  | .ok a s => g a s
  | .exc c f d s => .exc c f d s
  | .bad => .bad
def R.sat {α : Type} (r : R α) (ok : α → S → Prop) (ex : Str → Str → D → S → Prop) : Prop := match r with
  | .ok a s => ok a s
  | .exc c f d s => ex c f d s
  | .bad => False
theorem R.sat.imp {α : Type} {r : R α} {ok ok' : α → S → Prop} {ex ex' : Str → Str → D → S → Prop} (h : r.sat ok ex) (k : ∀ a s, ok a s → ok' a s) (e : ∀ c f d s, ex c f d s → ex' c f d s) : r.sat ok' ex' := by
  cases r with
  | ok a s => exact k _ _ h
  | exc c f d s => exact e _ _ _ _ h
  | bad => exact h
theorem R.sat.bind {α β : Type} {r : R α} {g : α → S → R β} {ok : β → S → Prop} {ex : Str → Str → D → S → Prop} (h : (r.bind g).sat ok ex) : r.sat (fun a s => (g a s).sat ok ex) ex := by
  cases r with
  | ok a s => exact h
  | exc c f d s => exact h
  | bad => exact h

abbrev M := Ev → S → R D

/-! ### how data stands in the heap -/
section
variable (K : PySem.W.Frag) (mg : Str → Option Value)
/-- a list that only is read: the script -/
def Fz (H : Hp) (a : Addr) (xs : List V) : Prop := (∃ o, H a = some (.frz o (.lst xs))) ∨
  ∃ (o : Obj) (its : Array Value) (n : Nat), K.lookup a = some o ∧ o.cls = .type "list" ∧ o.dict = none ∧ o.data = .seq its n ∧ its.size ≤ sizeLine ∧ Vals xs its.toList
mutual
inductive RV (μ : List Addr) (H : Hp) : D → V → Prop
  | non : RV μ H .non .non
  | bl (b : Bool) : RV μ H (.bl b) (.bl b)
  | int (i : Int) : RV μ H (.int i) (.int i)
  | str (x : Str) : RV μ H (.str x) (.str x)
  | ty (n : String) : RV μ H (.ty n) (.ty n)
  | fn {x : Str} {a : Addr} (h : mg x = some (.ref a)) : RV μ H (.fn x) (.ref a)
  | ref {k : Nat} {a : Addr} (h : μ[k]? = some a) : RV μ H (.ref k) (.ref a)
  | tup {ds : List D} {p : Addr} {vs : List V} (h : SqT K H p vs) (r : RVs μ H ds vs) : RV μ H (.tup ds) (.ref p)
  | frl {ds : List D} {p : Addr} {vs : List V} (h : Fz K H p vs) (r : RVs μ H ds vs) : RV μ H (.frl ds) (.ref p)
  | exn {a C dd : Addr} {f : Str} {d : D} {v : V} (h : H dd = some (.xd [(f, v)])) (n : dd ∉ μ) (r : RV μ H d v) : RV μ H (.exn a C dd f d) (.ref a)
inductive RVs (μ : List Addr) (H : Hp) : List D → List V → Prop
  | nil : RVs μ H [] []
  | cons {d : D} {v : V} {ds : List D} {vs : List V} (h : RV μ H d v) (r : RVs μ H ds vs) : RVs μ H (d :: ds) (v :: vs)
end
/-- behind: the cells stand where they stood, the tuples stand, and so does what is no cell -/
structure Fw (μ : List Addr) (H : Hp) (μ' : List Addr) (H' : Hp) : Prop where
  map : ∀ (k : Nat) (a : Addr), μ[k]? = some a → μ'[k]? = some a
  tup : ∀ (p : Addr) (xs : List V), SqT K H p xs → SqT K H' p xs
  frz : ∀ (p : Addr) (xs : List V), Fz K H p xs → Fz K H' p xs
  keep : ∀ (p : Addr) (o : HO), H p = some o → p ∉ μ → H' p = some o ∧ p ∉ μ'
def COk (μ : List Addr) (H : Hp) (a : Addr) : C → Prop
  | .lst ds => ∃ vs, H a = some (.lst vs) ∧ RVs K mg μ H ds vs
  | .dic kvs => ∃ kws : List (Key × V), H a = some (.dK kws) ∧ kvs.map (·.1) = kws.map (·.1) ∧ RVs K mg μ H (kvs.map (·.2)) (kws.map (·.2))
structure Rel (μ : List Addr) (s : S) (H : Hp) : Prop where
  len : μ.length = s.length
  nd : μ.Nodup
  cell : ∀ (k : Nat) (c : C) (a : Addr), s[k]? = some c → μ[k]? = some a → COk K mg μ H a c
structure REnv (μ : List Addr) (H : Hp) (ε : Ev) (σ : L2.St) : Prop where
  len : ε.length = σ.length
  get : ∀ (i : Nat) (d : D), ε[i]? = some (some d) → ∃ v, σ[i]? = some (some v) ∧ RV K mg μ H d v
def Ex (E : XK) (μ : List Addr) (H : Hp) (c f : Str) (d : D) (s : S) : Prop :=
  ∀ (μ' : List Addr) (H' : Hp) (C dd : Addr) (v : V), Fw K μ H μ' H' → Rel K mg μ' s H' → mg c = some (.ref C) → H' dd = some (.xd [(f, v)]) → RV K mg μ' H' d v → E (.ref C) (some dd) H'
def PO (E : XK) (μ : List Addr) (H : Hp) (r : R D) (Q : VK) : Prop :=
  r.sat (fun d s' => ∀ (μ' : List Addr) (H' : Hp) (v : V), Fw K μ H μ' H' → Rel K mg μ' s' H' → RV K mg μ' H' d v → Q v H') (Ex K mg E μ H)
def PL (E : XK) (μ : List Addr) (H : Hp) (r : R (List D)) (Q : List V → Hp → Prop) : Prop :=
  r.sat (fun ds s' => ∀ (μ' : List Addr) (H' : Hp) (vs : List V), Fw K μ H μ' H' → Rel K mg μ' s' H' → RVs K mg μ' H' ds vs → Q vs H') (Ex K mg E μ H)
def PB (E : XK) (μ : List Addr) (H : Hp) (r : R D) (Q : Bool → Hp → Prop) : Prop :=
  r.sat (fun d s' => ∃ b, d = .bl b ∧ ∀ (μ' : List Addr) (H' : Hp), Fw K μ H μ' H' → Rel K mg μ' s' H' → Q b H') (Ex K mg E μ H)
def tM (E : XK) (m : M) : TE := fun σ H Q => ∃ ε s μ, REnv K mg μ H ε σ ∧ Rel K mg μ s H ∧ PO K mg E μ H (m ε s) Q
def tL (E : XK) (m : Ev → S → R (List D)) : TA := fun σ H Q => ∃ ε s μ, REnv K mg μ H ε σ ∧ Rel K mg μ s H ∧ PL K mg E μ H (m ε s) Q
def tT (E : XK) (m : M) : TT := fun σ H Q => ∃ ε s μ, REnv K mg μ H ε σ ∧ Rel K mg μ s H ∧ PB K mg E μ H (m ε s) Q
end

section
variable {K : PySem.W.Frag} {mg : Str → Option Value} {μ μ' μ'' : List Addr} {H H' H'' : Hp} {d x y : D} {v w : V} {ds : List D} {vs : List V} {E : XK} {s s' : S} {ε : Ev} {σ : L2.St}
theorem Fw.refl : Fw K μ H μ H := ⟨fun _ _ h => h, fun _ _ h => h, fun _ _ h => h, fun _ _ h n => ⟨h, n⟩⟩
theorem Fw.trans (a : Fw K μ H μ' H') (b : Fw K μ' H' μ'' H'') : Fw K μ H μ'' H'' := ⟨fun k a' h => b.map k a' (a.map k a' h), fun p xs h => b.tup p xs (a.tup p xs h), fun p xs h => b.frz p xs (a.frz p xs h), fun p o h n => b.keep p o (a.keep p o h n).1 (a.keep p o h n).2⟩
mutual
theorem RV.mono (hm : ∀ (k : Nat) (a : Addr), μ[k]? = some a → μ'[k]? = some a) (ht : ∀ (p : Addr) (xs : List V), SqT K H p xs → SqT K H' p xs) (hz : ∀ (p : Addr) (xs : List V), Fz K H p xs → Fz K H' p xs) (hx : ∀ (p : Addr) (fs : List (Str × V)), H p = some (.xd fs) → p ∉ μ → H' p = some (.xd fs) ∧ p ∉ μ') : ∀ {d : D} {v : V}, RV K mg μ H d v → RV K mg μ' H' d v
  | _, _, .non => .non
  | _, _, .bl b => .bl b
  | _, _, .int i => .int i
  | _, _, .str x => .str x
  | _, _, .ty n => .ty n
  | _, _, .fn h => .fn h
  | _, _, .ref h => .ref (hm _ _ h)
  | _, _, .tup h r => .tup (ht _ _ h) (RVs.mono hm ht hz hx r)
  | _, _, .frl h r => .frl (hz _ _ h) (RVs.mono hm ht hz hx r)
  | _, _, .exn h n r => .exn (hx _ _ h n).1 (hx _ _ h n).2 (RV.mono hm ht hz hx r)
theorem RVs.mono (hm : ∀ (k : Nat) (a : Addr), μ[k]? = some a → μ'[k]? = some a) (ht : ∀ (p : Addr) (xs : List V), SqT K H p xs → SqT K H' p xs) (hz : ∀ (p : Addr) (xs : List V), Fz K H p xs → Fz K H' p xs) (hx : ∀ (p : Addr) (fs : List (Str × V)), H p = some (.xd fs) → p ∉ μ → H' p = some (.xd fs) ∧ p ∉ μ') : ∀ {ds : List D} {vs : List V}, RVs K mg μ H ds vs → RVs K mg μ' H' ds vs
  | _, _, .nil => .nil
  | _, _, .cons h r => .cons (RV.mono hm ht hz hx h) (RVs.mono hm ht hz hx r)
end
theorem RV.fw (h : RV K mg μ H d v) (f : Fw K μ H μ' H') : RV K mg μ' H' d v := h.mono f.map f.tup f.frz fun p fs e n => f.keep p _ e n
theorem RVs.fw (h : RVs K mg μ H ds vs) (f : Fw K μ H μ' H') : RVs K mg μ' H' ds vs := h.mono f.map f.tup f.frz fun p fs e n => f.keep p _ e n
theorem REnv.mono (h : REnv K mg μ H ε σ) (hm : ∀ (k : Nat) (a : Addr), μ[k]? = some a → μ'[k]? = some a) (ht : ∀ (p : Addr) (xs : List V), SqT K H p xs → SqT K H' p xs) (hz : ∀ (p : Addr) (xs : List V), Fz K H p xs → Fz K H' p xs) (hx : ∀ (p : Addr) (fs : List (Str × V)), H p = some (.xd fs) → p ∉ μ → H' p = some (.xd fs) ∧ p ∉ μ') : REnv K mg μ' H' ε σ := ⟨h.len, fun i d e => by
  obtain ⟨v, h1, h2⟩ := h.get i d e
  exact ⟨v, h1, h2.mono hm ht hz hx⟩⟩
theorem RVs.length : ∀ {ds : List D} {vs : List V}, RVs K mg μ H ds vs → ds.length = vs.length
  | _, _, .nil => rfl
  | _, _, .cons _ r => by rw [List.length_cons, List.length_cons, RVs.length r]
theorem RVs.get : ∀ {ds : List D} {vs : List V} {i : Nat} {d : D}, RVs K mg μ H ds vs → ds[i]? = some d → ∃ v, vs[i]? = some v ∧ RV K mg μ H d v
  | _, _, _, _, .nil, e => by simp at e
  | _, _, 0, _, .cons h _, e => by simp at e; subst e; exact ⟨_, rfl, h⟩
  | _, _, i + 1, d, .cons _ r, e => by
    obtain ⟨v, h1, h2⟩ := RVs.get (i := i) (d := d) r (by simpa using e)
    exact ⟨v, by simpa using h1, h2⟩
theorem RVs.append : ∀ {ds es : List D} {vs ws : List V}, RVs K mg μ H ds vs → RVs K mg μ H es ws → RVs K mg μ H (ds ++ es) (vs ++ ws)
  | _, _, _, _, .nil, h => h
  | _, _, _, _, .cons h r, q => .cons h (RVs.append r q)
theorem RVs.set {x : D} {u : V} (h : RV K mg μ H x u) : ∀ {ds : List D} {vs : List V} (i : Nat), RVs K mg μ H ds vs → RVs K mg μ H (ds.set i x) (vs.set i u)
  | _, _, _, .nil => .nil
  | _, _, 0, .cons _ r => .cons h r
  | _, _, i + 1, .cons q r => .cons q (RVs.set h i r)
theorem RVs.take : ∀ {ds : List D} {vs : List V} (n : Nat), RVs K mg μ H ds vs → RVs K mg μ H (ds.take n) (vs.take n)
  | _, _, 0, _ => .nil
  | _, _, _ + 1, .nil => .nil
  | _, _, n + 1, .cons h r => .cons h (RVs.take n r)
theorem RVs.drop : ∀ {ds : List D} {vs : List V} (n : Nat), RVs K mg μ H ds vs → RVs K mg μ H (ds.drop n) (vs.drop n)
  | _, _, 0, r => r
  | _, _, _ + 1, .nil => .nil
  | _, _, n + 1, .cons _ r => RVs.drop n r
theorem RVs.ints : ∀ (ns : List Int), RVs K mg μ H (ns.map D.int) (ns.map V.int)
  | [] => .nil
  | n :: ns => .cons (.int n) (RVs.ints ns)
theorem REnv.fw (h : REnv K mg μ H ε σ) (f : Fw K μ H μ' H') : REnv K mg μ' H' ε σ := ⟨h.len, fun i d e => by
  obtain ⟨v, h1, h2⟩ := h.get i d e
  exact ⟨v, h1, h2.fw f⟩⟩
theorem REnv.set (h : REnv K mg μ H ε σ) (i : Nat) (r : RV K mg μ H d v) : REnv K mg μ H (ε.set i (some d)) (σ.set i (some v)) := ⟨by rw [List.length_set, List.length_set, h.len], fun j e he => by
  by_cases hij : i = j
  · subst hij
    by_cases hl : i < ε.length
    · rw [List.getElem?_set_self hl] at he
      cases he
      exact ⟨v, List.getElem?_set_self (by rw [← h.len]; exact hl), r⟩
    · rw [List.getElem?_eq_none (by simpa using hl)] at he
      cases he
  · rw [List.getElem?_set_ne hij] at he ⊢
    exact h.get j e he⟩
theorem REnv.forget (h : REnv K mg μ H ε σ) (i : Nat) (o : Option V) : REnv K mg μ H (ε.set i none) (σ.set i o) := ⟨by rw [List.length_set, List.length_set, h.len], fun j e he => by
  by_cases hij : i = j
  · subst hij
    by_cases hl : i < ε.length
    · rw [List.getElem?_set_self hl] at he
      cases he
    · rw [List.getElem?_eq_none (by simpa using hl)] at he
      cases he
  · rw [List.getElem?_set_ne hij] at he ⊢
    exact h.get j e he⟩
theorem Ex.fw {c f : Str} (h : Ex K mg E μ H c f d s) (g : Fw K μ H μ' H') : Ex K mg E μ' H' c f d s := fun μ2 H2 C dd v f2 => h μ2 H2 C dd v (g.trans f2)
theorem PO.fw {r : R D} {Q : VK} (h : PO K mg E μ H r Q) (g : Fw K μ H μ' H') : PO K mg E μ' H' r Q :=
  h.imp (fun _ _ k μ2 H2 v f2 => k μ2 H2 v (g.trans f2)) fun _ _ _ _ k => k.fw g
theorem PL.fw {r : R (List D)} {Q : List V → Hp → Prop} (h : PL K mg E μ H r Q) (g : Fw K μ H μ' H') : PL K mg E μ' H' r Q :=
  h.imp (fun _ _ k μ2 H2 v f2 => k μ2 H2 v (g.trans f2)) fun _ _ _ _ k => k.fw g
theorem PB.fw {r : R D} {Q : Bool → Hp → Prop} (h : PB K mg E μ H r Q) (g : Fw K μ H μ' H') : PB K mg E μ' H' r Q :=
  h.imp (fun _ _ ⟨b, e, k⟩ => ⟨b, e, fun μ2 H2 f2 => k μ2 H2 (g.trans f2)⟩) fun _ _ _ _ k => k.fw g
/-- a value that comes at once -/
theorem PO.ok {Q : VK} (h : PO K mg E μ H (.ok d s) Q) (hr : Rel K mg μ s H) (r : RV K mg μ H d v) : Q v H := h μ H v Fw.refl hr r
/-- one after another -/
theorem PO.seq {α : Type} {r : R D} {g : D → S → R α} {ok : α → S → Prop} {Q' : VK} (h : (r.bind g).sat ok (Ex K mg E μ H))
    (k : ∀ (d : D) (s1 : S) (μ1 : List Addr) (H1 : Hp) (v : V), Fw K μ H μ1 H1 → Rel K mg μ1 s1 H1 → RV K mg μ1 H1 d v → (g d s1).sat ok (Ex K mg E μ H) → Q' v H1) : PO K mg E μ H r Q' :=
  h.bind.imp (fun d s1 q μ1 H1 v f1 r1 rv => k d s1 μ1 H1 v f1 r1 rv q) fun _ _ _ _ q => q
theorem PL.seq {α : Type} {r : R (List D)} {g : List D → S → R α} {ok : α → S → Prop} {Q' : List V → Hp → Prop} (h : (r.bind g).sat ok (Ex K mg E μ H))
    (k : ∀ (d : List D) (s1 : S) (μ1 : List Addr) (H1 : Hp) (v : List V), Fw K μ H μ1 H1 → Rel K mg μ1 s1 H1 → RVs K mg μ1 H1 d v → (g d s1).sat ok (Ex K mg E μ H) → Q' v H1) : PL K mg E μ H r Q' :=
  h.bind.imp (fun d s1 q μ1 H1 v f1 r1 rv => k d s1 μ1 H1 v f1 r1 rv q) fun _ _ _ _ q => q

/-! ### the store grows, a cell is written -/
theorem sqT_new {q : Addr} {o : HO} {p : Addr} {xs : List V} (hq : H q = none) (h : SqT K H p xs) : SqT K (upd H q o) p xs := by
  rcases h with (h | ⟨u, h⟩) | h
  · exact .inl (.inl (by rw [upd_ne (ne_of_none h hq)]; exact h))
  · exact .inl (.inr ⟨u, by rw [upd_ne (ne_of_none h hq)]; exact h⟩)
  · exact .inr h
theorem sqL_new {q : Addr} {o : HO} {p : Addr} {xs : List V} (hq : H q = none) (h : SqL K H p xs) : SqL K (upd H q o) p xs := by
  rcases h with (h | ⟨u, h⟩) | h
  · exact .inl (.inl (by rw [upd_ne (ne_of_none h hq)]; exact h))
  · exact .inl (.inr ⟨u, by rw [upd_ne (ne_of_none h hq)]; exact h⟩)
  · exact .inr h
theorem sqT_wr {q : Addr} {ys : List V} {o : HO} {p : Addr} {xs : List V} (hq : H q = some (.lst ys)) (h : SqT K H p xs) : SqT K (upd H q o) p xs := by
  rcases h with (h | ⟨u, h⟩) | h
  · exact .inl (.inl (by rw [upd_ne (ne_of h hq (by intro z; cases z))]; exact h))
  · exact .inl (.inr ⟨u, by rw [upd_ne (ne_of h hq (by intro z; cases z))]; exact h⟩)
  · exact .inr h
theorem Fz.seq {a : Addr} {xs : List V} (h : Fz K H a xs) : SqL K H a xs := by
  rcases h with h | h
  · exact .inl (.inr h)
  · exact .inr h
theorem Fz.new {a q : Addr} {o : HO} {xs : List V} (hq : H q = none) (h : Fz K H a xs) : Fz K (upd H q o) a xs := by
  rcases h with ⟨u, h⟩ | h
  · exact .inl ⟨u, by rw [upd_ne (ne_of_none h hq)]; exact h⟩
  · exact .inr h
theorem Fz.wr {a q : Addr} {o : HO} {xs ys : List V} (hq : H q = some (.lst ys)) (h : Fz K H a xs) : Fz K (upd H q o) a xs := by
  rcases h with ⟨u, h⟩ | h
  · exact .inl ⟨u, by rw [upd_ne (ne_of h hq (by intro z; cases z))]; exact h⟩
  · exact .inr h
theorem xd_wr {q : Addr} {ys : List V} {o : HO} (hq : H q = some (.lst ys)) (p : Addr) (fs : List (Str × V)) (h : H p = some (.xd fs)) (n : p ∉ μ) : (upd H q o) p = some (.xd fs) ∧ p ∉ μ := ⟨by rw [upd_ne (ne_of h hq (by intro z; cases z))]; exact h, n⟩
theorem xd_ad {q : Addr} {ys : List V} (hq : H q = some (.lst ys)) (p : Addr) (fs : List (Str × V)) (h : H p = some (.xd fs)) (n : p ∉ μ) : H p = some (.xd fs) ∧ p ∉ μ ++ [q] := ⟨h, fun z => (List.mem_append.mp z).elim n fun z => ne_of h hq (by intro z; cases z) (List.mem_singleton.mp z)⟩
theorem Fw.new {q : Addr} {o : HO} (hq : H q = none) : Fw K μ H (μ ++ [q]) (upd H q o) :=
  ⟨fun k a h => by rw [List.getElem?_append_left (List.getElem?_eq_some_iff.mp h).1]; exact h, fun _ _ h => sqT_new hq h, fun _ _ h => h.new hq, fun p u h n => ⟨by rw [upd_ne (ne_of_none h hq)]; exact h, fun z => (List.mem_append.mp z).elim n fun z => ne_of_none h hq (List.mem_singleton.mp z)⟩⟩
theorem Fw.new0 {q : Addr} {o : HO} (hq : H q = none) : Fw K μ H μ (upd H q o) := ⟨fun _ _ h => h, fun _ _ h => sqT_new hq h, fun _ _ h => h.new hq, fun p u h n => ⟨by rw [upd_ne (ne_of_none h hq)]; exact h, n⟩⟩
theorem Fw.wr {q : Addr} {ys : List V} {o : HO} (hq : H q = some (.lst ys)) (hm : q ∈ μ) : Fw K μ H μ (upd H q o) := ⟨fun _ _ h => h, fun _ _ h => sqT_wr hq h, fun _ _ h => h.wr hq, fun p u h n => ⟨by rw [upd_ne (show p ≠ q from fun z => n (by rw [z]; exact hm))]; exact h, n⟩⟩
theorem COk.new {a q : Addr} {o : HO} {c : C} {μ' : List Addr} (h : COk K mg μ H a c) (hq : H q = none) (f : Fw K μ H μ' (upd H q o)) : COk K mg μ' (upd H q o) a c := by
  cases c with
  | lst ds =>
    obtain ⟨vs, h1, h2⟩ := h
    exact ⟨vs, by rw [upd_ne (ne_of_none h1 hq)]; exact h1, h2.fw f⟩
  | dic kvs =>
    obtain ⟨kws, h1, h3, h2⟩ := h
    exact ⟨kws, by rw [upd_ne (ne_of_none h1 hq)]; exact h1, h3, h2.fw f⟩
theorem COk.there {a : Addr} {c : C} (h : COk K mg μ H a c) : ∃ o, H a = some o := by
  cases c with
  | lst ds =>
    obtain ⟨vs, h1, h2⟩ := h
    exact ⟨_, h1⟩
  | dic kvs =>
    obtain ⟨kws, h1, h3, h2⟩ := h
    exact ⟨_, h1⟩
/-- what is laid is no cell of ours -/
theorem Rel.new0 {q : Addr} {o : HO} (r : Rel K mg μ s H) (hq : H q = none) : Rel K mg μ s (upd H q o) :=
  ⟨r.len, r.nd, fun k c a h1 h2 => (r.cell k c a h1 h2).new hq (Fw.new0 hq)⟩
/-- a new cell -/
theorem Rel.isC (r : Rel K mg μ s H) {a : Addr} (h : a ∈ μ) : ∃ o, H a = some o := by
  obtain ⟨k, hk⟩ := List.mem_iff_getElem?.mp h
  have hl := (List.getElem?_eq_some_iff.mp hk).1
  rw [r.len] at hl
  exact (r.cell k _ a (List.getElem?_eq_getElem hl) hk).there
theorem Rel.notC (r : Rel K mg μ s H) {a : Addr} (h : H a = none) : a ∉ μ := fun z => by
  obtain ⟨o, e⟩ := r.isC z
  rw [h] at e
  cases e
theorem cellsPush {q a : Addr} {c e : C} (hl : μ.length = s.length) {i : Nat} (h1 : (s ++ [c])[i]? = some e) (h2 : (μ ++ [q])[i]? = some a) : (s[i]? = some e ∧ μ[i]? = some a) ∨ (a = q ∧ e = c) := by
  by_cases hi : i < s.length
  · rw [List.getElem?_append_left (by rw [hl]; exact hi)] at h2
    rw [List.getElem?_append_left hi] at h1
    exact .inl ⟨h1, h2⟩
  · have hz := (List.getElem?_eq_some_iff.mp h1).1
    rw [List.length_append, List.length_singleton] at hz
    have e1 : i = s.length := by omega
    subst e1
    rw [List.getElem?_append_right (by rw [hl]; exact Nat.le_refl _), hl, Nat.sub_self] at h2
    rw [List.getElem?_append_right (Nat.le_refl _), Nat.sub_self] at h1
    simp at h1 h2
    exact .inr ⟨h2.symm, h1.symm⟩
theorem ndPush {q : Addr} (n : μ.Nodup) (h : q ∉ μ) : (μ ++ [q]).Nodup := List.nodup_append.mpr ⟨n, (by simp), fun a ha b hb e => h (by rw [List.mem_singleton.mp hb] at e; rw [← e]; exact ha)⟩
/-- a new cell -/
theorem Rel.push {q : Addr} {o : HO} {c : C} (r : Rel K mg μ s H) (hq : H q = none) (hc : COk K mg (μ ++ [q]) (upd H q o) q c) : Rel K mg (μ ++ [q]) (s ++ [c]) (upd H q o) := by
  have f : Fw K μ H (μ ++ [q]) (upd H q o) := Fw.new hq
  refine ⟨by rw [List.length_append, List.length_append, r.len]; rfl, ndPush r.nd (r.notC hq), fun i c' a h1 h2 => ?_⟩
  rcases cellsPush r.len h1 h2 with ⟨a1, a2⟩ | ⟨rfl, rfl⟩
  · exact (r.cell i c' a a1 a2).new hq f
  · exact hc
/-- a list's cell is written -/
theorem Rel.write {q : Addr} {k : Nat} {ds es : List D} {ws : List V} (r : Rel K mg μ s H) (hk : μ[k]? = some q) (hs : s[k]? = some (.lst ds)) (he : RVs K mg μ H es ws) : Fw K μ H μ (upd H q (.lst ws)) ∧ Rel K mg μ (s.set k (.lst es)) (upd H q (.lst ws)) := by
  obtain ⟨vs, hq, _⟩ := r.cell k _ q hs hk
  have f : Fw K μ H μ (upd H q (.lst ws)) := Fw.wr hq (List.mem_of_getElem? hk)
  have hlt := (List.getElem?_eq_some_iff.mp hs).1
  refine ⟨f, by rw [List.length_set]; exact r.len, r.nd, fun i c a h1 h2 => ?_⟩
  · by_cases hi : k = i
    · subst hi
      rw [List.getElem?_set_self hlt] at h1
      cases h1
      rw [hk] at h2; cases h2
      exact ⟨ws, upd_same, he.fw f⟩
    · rw [List.getElem?_set_ne hi] at h1
      have ne : a ≠ q := fun z => by
        subst z
        obtain ⟨l1, g1⟩ := List.getElem?_eq_some_iff.mp hk
        obtain ⟨l2, g2⟩ := List.getElem?_eq_some_iff.mp h2
        exact hi ((List.getElem_inj r.nd).mp (g1.trans g2.symm))
      have g := r.cell i c a h1 h2
      cases c with
      | lst ds' =>
        obtain ⟨vs', g1, g2⟩ := g
        exact ⟨vs', by rw [upd_ne ne]; exact g1, g2.fw f⟩
      | dic kvs =>
        obtain ⟨kws, g1, g3, g2⟩ := g
        exact ⟨kws, by rw [upd_ne ne]; exact g1, g3, g2.fw f⟩
/-- a list that is no cell is written -/
theorem Rel.off {q : Addr} {vs ws : List V} (r : Rel K mg μ s H) (hq : H q = some (.lst vs)) (nq : q ∉ μ) : Rel K mg μ s (upd H q (.lst ws)) := by
  refine ⟨r.len, r.nd, fun k c a h1 h2 => ?_⟩
  have ne : a ≠ q := fun z => nq (by rw [← z]; exact List.mem_of_getElem? h2)
  have g := r.cell k c a h1 h2
  cases c with
  | lst ds' =>
    obtain ⟨vs', g1, g2⟩ := g
    exact ⟨vs', by rw [upd_ne ne]; exact g1, g2.mono (fun _ _ h => h) (fun _ _ h => sqT_wr hq h) (fun _ _ h => h.wr hq) (xd_wr hq)⟩
  | dic kvs =>
    obtain ⟨kws, g1, g3, g2⟩ := g
    exact ⟨kws, by rw [upd_ne ne]; exact g1, g3, g2.mono (fun _ _ h => h) (fun _ _ h => sqT_wr hq h) (fun _ _ h => h.wr hq) (xd_wr hq)⟩
theorem Fw.off {q : Addr} {vs ws : List V} (f : Fw K μ H μ' H') (hn : H q = none) (hq : H' q = some (.lst vs)) : Fw K μ H μ' (upd H' q (.lst ws)) :=
  ⟨f.map, fun p xs h => sqT_wr hq (f.tup p xs h), fun p xs h => (f.frz p xs h).wr hq, fun p o h n => ⟨by rw [upd_ne (ne_of_none h hn)]; exact (f.keep p o h n).1, (f.keep p o h n).2⟩⟩
/-- .. and becomes a cell -/
theorem Rel.adopt {q : Addr} {vs : List V} (r : Rel K mg μ s H) (hq : H q = some (.lst vs)) (nq : q ∉ μ) (rv : RVs K mg μ H ds vs) : Rel K mg (μ ++ [q]) (s ++ [C.lst ds]) H := by
  have hm : ∀ (k : Nat) (a : Addr), μ[k]? = some a → (μ ++ [q])[k]? = some a := fun k a h => by rw [List.getElem?_append_left (List.getElem?_eq_some_iff.mp h).1]; exact h
  refine ⟨by rw [List.length_append, List.length_append, r.len]; rfl, ndPush r.nd nq, fun i c' a h1 h2 => ?_⟩
  rcases cellsPush r.len h1 h2 with ⟨a1, a2⟩ | ⟨rfl, rfl⟩
  · have g := r.cell i c' a a1 a2
    cases c' with
    | lst ds' =>
      obtain ⟨vs', g1, g2⟩ := g
      exact ⟨vs', g1, g2.mono hm (fun _ _ h => h) (fun _ _ h => h) (xd_ad hq)⟩
    | dic kvs =>
      obtain ⟨kws, g1, g3, g2⟩ := g
      exact ⟨kws, g1, g3, g2.mono hm (fun _ _ h => h) (fun _ _ h => h) (xd_ad hq)⟩
  · exact ⟨vs, hq, rv.mono hm (fun _ _ h => h) (fun _ _ h => h) (xd_ad hq)⟩
theorem Fw.adopt {q : Addr} (f : Fw K μ H μ' H') (hn : H q = none) : Fw K μ H (μ' ++ [q]) H' :=
  ⟨fun k a h => by rw [List.getElem?_append_left (List.getElem?_eq_some_iff.mp (f.map k a h)).1]; exact f.map k a h, f.tup, f.frz, fun p o h n => ⟨(f.keep p o h n).1, fun z => (List.mem_append.mp z).elim (f.keep p o h n).2 fun z => ne_of_none h hn (List.mem_singleton.mp z)⟩⟩
theorem Rel.list {q : Addr} {k : Nat} {ds : List D} (r : Rel K mg μ s H) (hk : μ[k]? = some q) (hs : s[k]? = some (.lst ds)) : ∃ vs, H q = some (.lst vs) ∧ RVs K mg μ H ds vs := r.cell k _ q hs hk
theorem RV.ref_inv {k : Nat} (h : RV K mg μ H (.ref k) v) : ∃ a, v = .ref a ∧ μ[k]? = some a := by
  cases h with
  | ref h => exact ⟨_, rfl, h⟩
theorem RV.tup_inv (h : RV K mg μ H (.tup ds) v) : ∃ p vs, v = .ref p ∧ SqT K H p vs ∧ RVs K mg μ H ds vs := by
  cases h with
  | tup h r => exact ⟨_, _, rfl, h, r⟩
end
end Mi
namespace Mi
open PySem PySem.Spec PyProof.Rows L2

theorem PEto {X : Cx} {e : Expr} {t t' : TE} (h : PE X e t) (k : ∀ σ H Q, t' σ H Q → t σ H Q) : PE X e t' := ⟨fun pins s σ H Q I hw => h.run pins s σ H Q I (k σ H Q hw)⟩
theorem PTto {X : Cx} {e : Expr} {t t' : TT} (h : PT X e t) (k : ∀ σ H Q, t' σ H Q → t σ H Q) : PT X e t' := ⟨fun pins s σ H Q I hw => h.run pins s σ H Q I (k σ H Q hw)⟩
theorem PWto {X : Cx} {e : Expr} {t t' : TT} (h : PW X e t) (k : ∀ σ H Q, t' σ H Q → t σ H Q) : PW X e t' := ⟨fun wh pins s σ H Q I hw => h.run wh pins s σ H Q I (k σ H Q hw)⟩
theorem PAto {X : Cx} {e : List Expr} {t t' : TA} (h : PA X e t) (k : ∀ σ H Q, t' σ H Q → t σ H Q) : PA X e t' := ⟨fun pos pins s σ H Q I hw => h.run pos pins s σ H Q I (k σ H Q hw)⟩
abbrev DE (X : Cx) (E : XK) (e : Expr) (m : M) : Prop := PE X e (tM X.K X.mg E m)
abbrev DA (X : Cx) (E : XK) (es : List Expr) (m : Ev → S → R (List D)) : Prop := PA X es (tL X.K X.mg E m)
abbrev DT (X : Cx) (E : XK) (e : Expr) (m : M) : Prop := PT X e (tT X.K X.mg E m)
abbrev DW (X : Cx) (E : XK) (e : Expr) (m : M) : Prop := PW X e (tT X.K X.mg E m)

/-! ### names and constants -/
def mVar (i : Nat) : M := fun ε s => match ε[i]? with
  | some (some d) => .ok d s
  | _ => .bad
def mC (d : D) : M := fun _ s => .ok d s
section
variable {X : Cx} {E : XK} {pos : Pos} {e a b c : Expr} {m ma mb mc : M}
theorem d_var (i : Nat) {x : Str} (hN : X.N[i]? = some x := by rfl) (hv : Vis X.env.scope x := by first | exact Or.inl rfl | exact Or.inr (Or.inl rfl) | exact Or.inr (Or.inr rfl)) (hd : (x == ("__debug__" : Str)) = false := by decide)
    (hcd : (x == ("__classdict__" : Str)) = false := by decide) : DE X E (.Name x pos) (mVar i) := PEto (pv i hN hv hd hcd) fun σ H Q ⟨ε, s, μ, he, hr, h⟩ => by
  cases q : ε[i]? with
  | none =>
    simp only [mVar, q] at h
    exact h.elim
  | some o =>
    cases o with
    | none =>
      simp only [mVar, q] at h
      exact h.elim
    | some d =>
      simp only [mVar, q] at h
      obtain ⟨v, hv, r⟩ := he.get i d q
      exact ⟨v, hv, h.ok hr r⟩
theorem d_c {v : V} {d : D} (h : PE X e (tC v)) (r : ∀ μ H, RV X.K X.mg μ H d v) : DE X E e (mC d) := PEto h fun σ H Q ⟨ε, s, μ, he, hr, h⟩ => PO.ok h hr (r μ H)
theorem d_int {i : Int} {j : Nat} : DE X E (.Constant (.int i) j pos) (mC (.int i)) := d_c pe_int fun _ _ => .int i
theorem d_bl {i : Bool} {j : Nat} : DE X E (.Constant (.bool i) j pos) (mC (.bl i)) := d_c pe_bl fun _ _ => .bl i
theorem d_non {j : Nat} : DE X E (.Constant .none j pos) (mC .non) := d_c pe_non fun _ _ => .non
theorem d_str {x : Str} {j : Nat} : DE X E (.Constant (.str x) j pos) (mC (.str x)) := d_c pe_str fun _ _ => .str x
theorem d_glob {x : Str} {v : V} {u : Value} {d : D} (hm : X.mg x = some u) (r : RelV v u) (k : ∀ μ H, RV X.K X.mg μ H d v) (hg : Gl X x := by rfl) (hd : (x == ("__debug__" : Str)) = false := by decide) : DE X E (.Name x pos) (mC d) := d_c (pe_glob hg hm r hd) k
theorem d_gint {x : Str} {i : Int} {t : Tok} (hm : X.mg x = some (.int i t)) (hg : Gl X x := by rfl) (hd : (x == ("__debug__" : Str)) = false := by decide) : DE X E (.Name x pos) (mC (.int i)) := d_glob (v := .int i) hm ⟨t, rfl⟩ (fun _ _ => .int i) hg hd
theorem d_gstr {x y : Str} {t : Tok} (hm : X.mg x = some (.str y t)) (hg : Gl X x := by rfl) (hd : (x == ("__debug__" : Str)) = false := by decide) : DE X E (.Name x pos) (mC (.str y)) := d_glob (v := .str y) hm ⟨t, rfl⟩ (fun _ _ => .str y) hg hd
theorem d_gfn {x : Str} {f : Addr} (hm : X.mg x = some (.ref f)) (hg : Gl X x := by rfl) (hd : (x == ("__debug__" : Str)) = false := by decide) : DE X E (.Name x pos) (mC (.fn x)) := d_glob (v := .ref f) hm rfl (fun _ _ => .fn hm) hg hd
theorem d_bty {x : Str} {n : String} (hm : X.mg x = none) (hv : bootBuiltins x = some (.type n)) (hg : Gl X x := by rfl) (hn : x ≠ "__name__" := by decide) (hd : (x == ("__debug__" : Str)) = false := by decide) : DE X E (.Name x pos) (mC (.ty n)) :=
  d_c (pe_bltn (v := .ty n) hg hm hv rfl hn hd) fun _ _ => .ty n

/-! ### operators -/
def OpS (K : PySem.W.Frag) (mg : Str → Option Value) (r : R2) (op : D → D → S → R D) : Prop := ∀ (E : XK) (μ : List Addr) (H : Hp) (s : S) (x y : D) (vx vy : V) (Q : VK), Rel K mg μ s H → RV K mg μ H x vx → RV K mg μ H y vy → PO K mg E μ H (op x y s) Q → r vx vy H Q
def mOp (op : D → D → S → R D) (ma mb : M) : M := fun ε s => (ma ε s).bind fun x s1 => (mb ε s1).bind fun y s2 => op x y s2
theorem two {r : R2} {op : D → D → S → R D} (ho : OpS X.K X.mg r op) {σ : L2.St} {H : Hp} {Q : VK} (h : tM X.K X.mg E (mOp op ma mb) σ H Q) : tOp r (tM X.K X.mg E ma) (tM X.K X.mg E mb) σ H Q := by
  obtain ⟨ε, s, μ, he, hr, h⟩ := h
  refine ⟨ε, s, μ, he, hr, PO.seq h fun x s1 μ1 H1 v f1 r1 rv q => ?_⟩
  refine ⟨ε, s1, μ1, he.fw f1, r1, PO.seq (PO.fw (r := (mb ε s1).bind fun y s2 => op x y s2) q f1) fun y s2 μ2 H2 w f2 r2 rw' q2 => ?_⟩
  exact ho E μ2 H2 s2 x y v w Q r2 (rv.fw f2) rw' (PO.fw (r := op x y s2) q2 f2)
theorem d_op {o : Operator} {r : R2} {op : D → D → S → R D} (hr : OpR X (binaryOp o) r) (ho : OpS X.K X.mg r op) (ha : DE X E a ma) (hb : DE X E b mb) : DE X E (.BinOp a o b pos) (mOp op ma mb) := PEto (pe_op hr ha hb) fun _ _ _ h => two ho h
theorem d_cmp {o : CmpOp} {r : R2} {op : D → D → S → R D} (hr : OpR X (compareOp o) r) (ho : OpS X.K X.mg r op) (ha : DE X E a ma) (hb : DE X E b mb) (hm : behindInMarks o b = false := by first | exact nomark _ | rfl) : DE X E (.Compare a [o] [b] pos) (mOp op ma mb) :=
  PEto (pe_cmpR hr ha hb hm) fun _ _ _ h => two ho h
theorem d_ix {r : R2} {op : D → D → S → R D} (hr : IxR X r) (ho : OpS X.K X.mg r op) (ha : DE X E a ma) (hb : DE X E b mb) (hp : PlainIx b := by intro _ _; rfl) : DE X E (.Subscript a b pos) (mOp op ma mb) := PEto (pe_ix hr ha hb hp) fun _ _ _ h => two ho h
theorem PB.of {K : PySem.W.Frag} {mg : Str → Option Value} {μ : List Addr} {H : Hp} {r : R D} {Q : Bool → Hp → Prop} (h : PB K mg E μ H r Q) : PO K mg E μ H r (fun x H' => ∃ k, x = .bl k ∧ Q k H') := h.imp (fun d s ⟨b, e, k⟩ μ' H' v f r rv => by
  subst e
  cases rv
  exact ⟨b, rfl, k μ' H' f r⟩) fun _ _ _ _ k => k
/-- a test made of a value -/
theorem tT_M {K : PySem.W.Frag} {mg : Str → Option Value} {σ : L2.St} {H : Hp} {Q : Bool → Hp → Prop} (h : tT K mg E m σ H Q) : tM K mg E m σ H (fun x H' => ∃ k, x = .bl k ∧ Q k H') := by
  obtain ⟨ε, s, μ, he, hr, h⟩ := h
  exact ⟨ε, s, μ, he, hr, PB.of h⟩
theorem t_cmp {o : CmpOp} {r : R2} {op : D → D → S → R D} (hr : OpR X (compareOp o) r) (ho : OpS X.K X.mg r op) (ha : DE X E a ma) (hb : DE X E b mb) (hm : behindInMarks o b = false := by first | exact nomark _ | rfl) : DT X E (.Compare a [o] [b] pos) (mOp op ma mb) :=
  PTto (pt_cmpR hr ha hb hm) fun _ _ _ h => two ho (tT_M h)
theorem t_val (he : DE X E e m) (hw : ∀ whole, isTrue e X.env whole = (do let v ← whole; standAt e.pos; holding [v] (truthy v)) := by intro _; rfl) : DT X E e m := PTto (pt_val he hw) fun _ _ _ h => tT_M h
/-- a < b < c -/
def chK (op' : D → D → S → R D) (mc : M) (ε : Ev) (y : D) : D → S → R D
  | .bl true, s3 => (mc ε s3).bind fun w s4 => op' y w s4
  | .bl false, s3 => .ok (.bl false) s3
  | _, _ => .bad
def mChain (op op' : D → D → S → R D) (ma mb mc : M) : M := fun ε s => (ma ε s).bind fun x s1 => (mb ε s1).bind fun y s2 => (op x y s2).bind fun z s3 => chK op' mc ε y z s3
theorem chain {r r' : R2} {op op' : D → D → S → R D} (ho : OpS X.K X.mg r op) (ho' : OpS X.K X.mg r' op') {σ : L2.St} {H : Hp} {Q : VK} (h : tM X.K X.mg E (mChain op op' ma mb mc) σ H Q) : tChain r r' (tM X.K X.mg E ma) (tM X.K X.mg E mb) (tM X.K X.mg E mc) σ H Q := by
  obtain ⟨ε, s, μ, he, hr, h⟩ := h
  refine ⟨ε, s, μ, he, hr, PO.seq h fun x s1 μ1 H1 v f1 r1 rv q => ?_⟩
  refine ⟨ε, s1, μ1, he.fw f1, r1, PO.seq (PO.fw (r := (mb ε s1).bind _) q f1) fun y s2 μ2 H2 w f2 r2 rw' q2 => ?_⟩
  refine ho E μ2 H2 s2 x y v w _ r2 (rv.fw f2) rw' (PO.seq (PO.fw (r := (op x y s2).bind _) q2 f2) fun z s3 μ3 H3 u f3 r3 ru q3 => ?_)
  have q3 := PO.fw (r := chK op' mc ε y z s3) q3 f3
  cases ru with
  | bl k =>
    refine ⟨k, rfl, ?_⟩
    cases k with
    | true =>
      rw [if_pos rfl]
      refine ⟨ε, s3, μ3, ((he.fw f1).fw f2).fw f3, r3, PO.seq q3 fun w' s4 μ4 H4 u' f4 r4 ru' q4 => ?_⟩
      exact ho' E μ4 H4 s4 y w' w u' Q r4 ((rw'.fw f3).fw f4) ru' (PO.fw (r := op' y w' s4) q4 f4)
    | false =>
      rw [if_neg Bool.false_ne_true]
      exact PO.ok q3 r3 (.bl false)
  | _ => exact q3.elim
theorem d_chain {o o' : CmpOp} {r r' : R2} {op op' : D → D → S → R D} (hr : OpR X (compareOp o) r) (ho : OpS X.K X.mg r op) (hr' : OpR X (compareOp o') r') (ho' : OpS X.K X.mg r' op') (ha : DE X E a ma) (hb : DE X E b mb) (hc : DE X E c mc)
    (hm : lastMarks [o, o'] [b, c] = false := by with_unfolding_all rfl) : DE X E (.Compare a [o, o'] [b, c] pos) (mChain op op' ma mb mc) := PEto (pe_chain hr hr' ha hb hc hm) fun _ _ _ h => chain ho ho' h
theorem t_chain {o o' : CmpOp} {r r' : R2} {op op' : D → D → S → R D} (hr : OpR X (compareOp o) r) (ho : OpS X.K X.mg r op) (hr' : OpR X (compareOp o') r') (ho' : OpS X.K X.mg r' op') (ha : DE X E a ma) (hb : DE X E b mb) (hc : DE X E c mc)
    (hm : lastMarks [o, o'] [b, c] = false := by with_unfolding_all rfl) : DT X E (.Compare a [o, o'] [b, c] pos) (mChain op op' ma mb mc) := PTto (pt_chain hr hr' ha hb hc hm) fun _ _ _ h => chain ho ho' (tT_M h)

/-! ### and, or, not, if else -/
def mAnd (ma mb : M) : M := fun ε s => (ma ε s).bind fun x s1 => match x with
  | .bl true => mb ε s1
  | .bl false => .ok (.bl false) s1
  | _ => .bad
def mOr (ma mb : M) : M := fun ε s => (ma ε s).bind fun x s1 => match x with
  | .bl false => mb ε s1
  | .bl true => .ok (.bl true) s1
  | _ => .bad
def mNot (ma : M) : M := fun ε s => (ma ε s).bind fun x s1 => match x with
  | .bl b => .ok (.bl (!b)) s1
  | _ => .bad
def mIf (mc ma mb : M) : M := fun ε s => (mc ε s).bind fun x s1 => match x with
  | .bl true => ma ε s1
  | .bl false => mb ε s1
  | _ => .bad
variable {rest : List Expr}
theorem PB.seq {K : PySem.W.Frag} {mg : Str → Option Value} {μ : List Addr} {H : Hp} {α : Type} {r : R D} {g : D → S → R α} {ok : α → S → Prop} {Q' : Bool → Hp → Prop} (h : (r.bind g).sat ok (Ex K mg E μ H)) (hb : ∀ d s1, (g d s1).sat ok (Ex K mg E μ H) → ∃ b, d = .bl b)
    (k : ∀ (b : Bool) (s1 : S) (μ1 : List Addr) (H1 : Hp), Fw K μ H μ1 H1 → Rel K mg μ1 s1 H1 → (g (.bl b) s1).sat ok (Ex K mg E μ H) → Q' b H1) : PB K mg E μ H r Q' :=
  h.bind.imp (fun d s1 q => by
    obtain ⟨b, rfl⟩ := hb d s1 q
    exact ⟨b, rfl, fun μ1 H1 f1 r1 => k b s1 μ1 H1 f1 r1 q⟩) fun _ _ _ _ q => q
theorem t_and1 (ha : DT X E a ma) : DW X E (.BoolOp .And [a] pos) ma := PWto (pw_and1 ha) fun _ _ _ h => h
theorem t_or1 (ha : DT X E a ma) : DW X E (.BoolOp .Or [a] pos) ma := PWto (pw_or1 ha) fun _ _ _ h => h
theorem t_and (ha : DT X E a ma) (hb : DW X E (.BoolOp .And (b :: rest) pos) mb) : DW X E (.BoolOp .And (a :: b :: rest) pos) (mAnd ma mb) := PWto (pw_and ha hb) fun σ H Q ⟨ε, s, μ, he, hr, h⟩ => by
  refine ⟨ε, s, μ, he, hr, PB.seq h (fun d s1 q => ?_) fun b s1 μ1 H1 f1 r1 q => ?_⟩
  · cases d with
    | bl b => exact ⟨b, rfl⟩
    | _ => exact q.elim
  · cases b with
    | true =>
      rw [if_pos rfl]
      exact ⟨ε, s1, μ1, he.fw f1, r1, PB.fw (r := mb ε s1) q f1⟩
    | false =>
      rw [if_neg Bool.false_ne_true]
      obtain ⟨b, e, q⟩ := (show PB X.K X.mg E μ H (.ok (.bl false) s1) Q from q)
      cases e
      exact q μ1 H1 f1 r1
theorem t_or (ha : DT X E a ma) (hb : DW X E (.BoolOp .Or (b :: rest) pos) mb) : DW X E (.BoolOp .Or (a :: b :: rest) pos) (mOr ma mb) := PWto (pw_or ha hb) fun σ H Q ⟨ε, s, μ, he, hr, h⟩ => by
  refine ⟨ε, s, μ, he, hr, PB.seq h (fun d s1 q => ?_) fun b s1 μ1 H1 f1 r1 q => ?_⟩
  · cases d with
    | bl b => exact ⟨b, rfl⟩
    | _ => exact q.elim
  · cases b with
    | true =>
      rw [if_pos rfl]
      obtain ⟨b, e, q⟩ := (show PB X.K X.mg E μ H (.ok (.bl true) s1) Q from q)
      cases e
      exact q μ1 H1 f1 r1
    | false =>
      rw [if_neg Bool.false_ne_true]
      exact ⟨ε, s1, μ1, he.fw f1, r1, PB.fw (r := mb ε s1) q f1⟩
theorem t_w (h : DW X E e m) : DT X E e m := PTto h.pt fun _ _ _ h => h
theorem t_not (ha : DT X E a ma) : DT X E (.UnaryOp .Not a pos) (mNot ma) := PTto (pt_not ha) fun σ H Q ⟨ε, s, μ, he, hr, h⟩ => by
  refine ⟨ε, s, μ, he, hr, PB.seq h (fun d s1 q => ?_) fun b s1 μ1 H1 f1 r1 q => ?_⟩
  · cases d with
    | bl b => exact ⟨b, rfl⟩
    | _ => exact q.elim
  · obtain ⟨b', e, q⟩ := (show PB X.K X.mg E μ H (.ok (.bl (!b)) s1) Q from q)
    cases e
    exact q μ1 H1 f1 r1
theorem d_if (hc : DT X E c mc) (ha : DE X E a ma) (hb : DE X E b mb) : DE X E (.IfExp c a b pos) (mIf mc ma mb) := PEto (pe_ifExp hc ha hb) fun σ H Q ⟨ε, s, μ, he, hr, h⟩ => by
  refine ⟨ε, s, μ, he, hr, PB.seq h (fun d s1 q => ?_) fun b s1 μ1 H1 f1 r1 q => ?_⟩
  · cases d with
    | bl b => exact ⟨b, rfl⟩
    | _ => exact q.elim
  · cases b with
    | true =>
      rw [if_pos rfl]
      exact ⟨ε, s1, μ1, he.fw f1, r1, PO.fw (r := ma ε s1) q f1⟩
    | false =>
      rw [if_neg Bool.false_ne_true]
      exact ⟨ε, s1, μ1, he.fw f1, r1, PO.fw (r := mb ε s1) q f1⟩
/-- as values: all but the last a bool -/
theorem d_one {op : BoolOp} (h : DE X E a ma) : DE X E (.BoolOp op [a] pos) ma := PEto (pe_one h) fun _ _ _ h => h
theorem d_and (ha : DE X E a ma) (hb : DE X E (.BoolOp .And (b :: rest) pos) mb) : DE X E (.BoolOp .And (a :: b :: rest) pos) (mAnd ma mb) := PEto (pe_and ha hb) fun σ H Q ⟨ε, s, μ, he, hr, h⟩ => by
  refine ⟨ε, s, μ, he, hr, PO.seq h fun d s1 μ1 H1 v f1 r1 rv q => ?_⟩
  cases rv with
  | bl b =>
    refine ⟨b, rfl, ?_⟩
    cases b with
    | true =>
      rw [if_pos rfl]
      exact ⟨ε, s1, μ1, he.fw f1, r1, PO.fw (r := mb ε s1) q f1⟩
    | false =>
      rw [if_neg Bool.false_ne_true]
      exact (show PO X.K X.mg E μ H (.ok (.bl false) s1) Q from q) μ1 H1 _ f1 r1 (.bl false)
  | _ => exact q.elim
theorem d_or (ha : DE X E a ma) (hb : DE X E (.BoolOp .Or (b :: rest) pos) mb) : DE X E (.BoolOp .Or (a :: b :: rest) pos) (mOr ma mb) := PEto (pe_or ha hb) fun σ H Q ⟨ε, s, μ, he, hr, h⟩ => by
  refine ⟨ε, s, μ, he, hr, PO.seq h fun d s1 μ1 H1 v f1 r1 rv q => ?_⟩
  cases rv with
  | bl b =>
    refine ⟨b, rfl, ?_⟩
    cases b with
    | false =>
      rw [if_neg Bool.false_ne_true]
      exact ⟨ε, s1, μ1, he.fw f1, r1, PO.fw (r := mb ε s1) q f1⟩
    | true =>
      rw [if_pos rfl]
      exact (show PO X.K X.mg E μ H (.ok (.bl true) s1) Q from q) μ1 H1 _ f1 r1 (.bl true)
  | _ => exact q.elim
theorem d_not (ha : DE X E a ma) : DE X E (.UnaryOp .Not a pos) (mNot ma) := PEto (pe_not ha) fun σ H Q ⟨ε, s, μ, he, hr, h⟩ => by
  refine ⟨ε, s, μ, he, hr, PO.seq h fun d s1 μ1 H1 v f1 r1 rv q => ?_⟩
  cases rv with
  | bl b => exact ⟨b, rfl, (show PO X.K X.mg E μ H (.ok (.bl (!b)) s1) Q from q) μ1 H1 _ f1 r1 (.bl _)⟩
  | _ => exact q.elim
def mNeg (ma : M) : M := fun ε s => (ma ε s).bind fun x s1 => match x with
  | .int i => .ok (.int (-i)) s1
  | _ => .bad
theorem d_neg (ha : DE X E a ma) : DE X E (.UnaryOp .USub a pos) (mNeg ma) := PEto (pe_un un_neg ha) fun σ H Q ⟨ε, s, μ, he, hr, h⟩ => by
  refine ⟨ε, s, μ, he, hr, PO.seq h fun d s1 μ1 H1 v f1 r1 rv q => ?_⟩
  cases rv with
  | int i => exact ⟨i, rfl, (show PO X.K X.mg E μ H (.ok (.int (-i)) s1) Q from q) μ1 H1 _ f1 r1 (.int _)⟩
  | _ => exact q.elim

/-! ### argument lists and displays -/
def mNil : Ev → S → R (List D) := fun _ s => .ok [] s
def mCons (m : M) (r : Ev → S → R (List D)) : Ev → S → R (List D) := fun ε s => (m ε s).bind fun x s1 => (r ε s1).bind fun xs s2 => .ok (x :: xs) s2
variable {es : List Expr} {ms : Ev → S → R (List D)}
theorem a_nil : DA X E [] mNil := PAto pa_nil fun σ H Q ⟨ε, s, μ, he, hr, h⟩ => h μ H [] Fw.refl hr .nil
theorem a_cons (ha : DE X E e m) (hs : DA X E es ms) (hst : starEach (e :: es) X.env = (false, eval e X.env) :: starEach es X.env := by rfl) : DA X E (e :: es) (mCons m ms) := PAto (pa_cons ha hs hst) fun σ H Q ⟨ε, s, μ, he, hr, h⟩ => by
  refine ⟨ε, s, μ, he, hr, PO.seq h fun x s1 μ1 H1 v f1 r1 rv q => ?_⟩
  refine ⟨ε, s1, μ1, he.fw f1, r1, PL.seq (PL.fw (r := (ms ε s1).bind fun xs s2 => .ok (x :: xs) s2) q f1) fun xs s2 μ2 H2 vs f2 r2 rvs q2 => ?_⟩
  exact (show PL X.K X.mg E μ1 H1 (.ok (x :: xs) s2) Q from q2) μ2 H2 (v :: vs) f2 r2 (.cons (rv.fw f2) rvs)
def mLst (ms : Ev → S → R (List D)) : M := fun ε s => (ms ε s).bind fun ds s1 => if ds.length ≤ sizeLine then .ok (.ref s1.length) (s1 ++ [C.lst ds]) else .bad
def mTup (ms : Ev → S → R (List D)) : M := fun ε s => (ms ε s).bind fun ds s1 => if ds.length ≤ sizeLine then .ok (.tup ds) s1 else .bad
end

section
variable {K : PySem.W.Frag} {mg : Str → Option Value} {μ : List Addr} {H : Hp} {s : S} {E : XK} {Q : VK} {ds : List D} {vs : List V}
/-- a new list's cell -/
theorem PO.list (h : PO K mg E μ H (.ok (.ref s.length) (s ++ [C.lst ds])) Q) (hr : Rel K mg μ s H) (r : RVs K mg μ H ds vs) {p : Addr} (hp : H p = none) : Q (.ref p) (upd H p (.lst vs)) := by
  have f : Fw K μ H (μ ++ [p]) (upd H p (.lst vs)) := Fw.new hp
  refine h (μ ++ [p]) _ (.ref p) f (hr.push hp ⟨vs, upd_same, r.fw f⟩) (.ref ?_)
  rw [List.getElem?_append_right (by rw [hr.len]; exact Nat.le_refl _), hr.len, Nat.sub_self]
  rfl
theorem PO.tuple (h : PO K mg E μ H (.ok (.tup ds) s) Q) (hr : Rel K mg μ s H) (r : RVs K mg μ H ds vs) {p : Addr} (hp : H p = none) : Q (.ref p) (upd H p (.tup vs)) := by
  have f : Fw K μ H μ (upd H p (.tup vs)) := Fw.new0 hp
  exact h μ _ (.ref p) f (hr.new0 hp) (.tup (SqT.of upd_same) (r.fw f))
theorem PO.ite {c : Prop} [Decidable c] {r : R D} (h : PO K mg E μ H (if c then r else .bad) Q) : c ∧ PO K mg E μ H r Q := by
  by_cases q : c
  · rw [if_pos q] at h
    exact ⟨q, h⟩
  · rw [if_neg q] at h
    exact h.elim
end
section
variable {X : Cx} {E : XK} {pos : Pos} {e a b c : Expr} {m ma mb mc : M} {es : List Expr} {ms : Ev → S → R (List D)}
theorem d_lst (h : DA X E es ms) : DE X E (.List es pos) (mLst ms) := PEto (pe_lst h) fun σ H Q ⟨ε, s, μ, he, hr, h⟩ => by
  refine ⟨ε, s, μ, he, hr, PL.seq h fun ds s1 μ1 H1 vs f1 r1 rvs q => ?_⟩
  obtain ⟨hl, q⟩ := PO.ite (PO.fw (r := if ds.length ≤ sizeLine then .ok (.ref s1.length) (s1 ++ [C.lst ds]) else .bad) q f1)
  exact ⟨by rw [← rvs.length]; exact hl, fun p hp => PO.list q r1 rvs hp⟩
theorem d_tup {x1 : Nat} (h : DA X E es ms) : DE X E (.Tuple es x1 pos) (mTup ms) := PEto (pe_tup h) fun σ H Q ⟨ε, s, μ, he, hr, h⟩ => by
  refine ⟨ε, s, μ, he, hr, PL.seq h fun ds s1 μ1 H1 vs f1 r1 rvs q => ?_⟩
  obtain ⟨hl, q⟩ := PO.ite (PO.fw (r := if ds.length ≤ sizeLine then .ok (.tup ds) s1 else .bad) q f1)
  exact ⟨by rw [← rvs.length]; exact hl, fun p hp => PO.tuple q r1 rvs hp⟩

/-! ### calls -/
/-- a def's promise: it does what F does -/
def spF (K : PySem.W.Frag) (mg : Str → Option Value) (n : Nat) (F : List D → S → R D) : Sp := fun vs H Q E => vs.length = n ∧ ∃ ds s μ, RVs K mg μ H ds vs ∧ Rel K mg μ s H ∧ PO K mg E μ H (F ds s) Q
def mCall (F : List D → S → R D) (ms : Ev → S → R (List D)) : M := fun ε s => (ms ε s).bind fun ds s1 => F ds s1
theorem call_sp {n : Nat} {F : List D → S → R D} (hl : ∀ ε s ds s1, ms ε s = .ok ds s1 → ds.length = n) {σ : L2.St} {H : Hp} {Q : VK} (h : tM X.K X.mg E (mCall F ms) σ H Q) : tCall (spF X.K X.mg n F) [] E (tL X.K X.mg E ms) σ H Q := by
  obtain ⟨ε, s, μ, he, hr, h⟩ := h
  have h' : PL X.K X.mg E μ H (ms ε s) fun vs H1 => spF X.K X.mg n F (vs ++ []) H1 Q E := by
    cases e : ms ε s with
    | ok ds s1 =>
      intro μ1 H1 vs f1 r1 rvs
      have q : PO X.K X.mg E μ H (F ds s1) Q := by
        have h1 : PO X.K X.mg E μ H ((ms ε s).bind fun ds s1 => F ds s1) Q := h
        rw [e] at h1
        exact h1
      rw [List.append_nil]
      exact ⟨by rw [← rvs.length]; exact hl ε s ds s1 e, ds, s1, μ1, rvs, r1, PO.fw q f1⟩
    | exc c f d s1 =>
      have h1 : PO X.K X.mg E μ H ((ms ε s).bind fun ds s1 => F ds s1) Q := h
      rw [e] at h1
      exact h1
    | bad =>
      have h1 : PO X.K X.mg E μ H ((ms ε s).bind fun ds s1 => F ds s1) Q := h
      rw [e] at h1
      exact h1.elim
  exact ⟨ε, s, μ, he, hr, h'⟩
theorem len_nil {ε : Ev} {s s1 : S} {ds : List D} (h : mNil ε s = .ok ds s1) : ds.length = 0 := by
  cases h
  rfl
theorem len_cons {m : M} {ms : Ev → S → R (List D)} {n : Nat} (hl : ∀ ε s ds s1, ms ε s = .ok ds s1 → ds.length = n) : ∀ ε s ds s1, mCons m ms ε s = .ok ds s1 → ds.length = n + 1 := fun ε s ds s1 h => by
  unfold mCons at h
  cases e : m ε s with
  | ok x s2 =>
    rw [e] at h
    have h : ((ms ε s2).bind fun xs s2 => R.ok (x :: xs) s2) = R.ok ds s1 := h
    cases e2 : ms ε s2 with
    | ok xs s3 =>
      rw [e2] at h
      cases h
      rw [List.length_cons, hl ε s2 xs _ e2]
    | exc c f d s3 =>
      rw [e2] at h
      cases h
    | bad =>
      rw [e2] at h
      cases h
  | exc c f d s3 =>
    rw [e] at h
    cases h
  | bad =>
    rw [e] at h
    cases h
variable {CX : CXT} {k n : Nat} {f : Addr} {fd : FuncData} {ps : List Str} {x : Str} {p : Pos} {F : List D → S → R D}
theorem d_call (G : FnOk X.prog X.w X.K X.mg X.base CX k f fd ps (spF X.K X.mg n F)) (hr : Room k X.A) (hm : X.mg x = some (.ref f)) (hk : PySem.W.keepIn X.K (.ref f) = true) (hb : Binds X.K fd ps []) (hx : Passes CX X E)
    (ha : DA X E (e :: es) ms) (hl : ∀ ε s ds s1, ms ε s = .ok ds s1 → ds.length = n) (hg : Gl X x := by rfl) (hdb : (x == ("__debug__" : Str)) = false := by decide) (he : starEach (e :: es) X.env = (false, eval e X.env) :: starEach es X.env := by rfl) (hpl : (backTo pos (starEach es X.env)).any (·.1) = false := by rfl) :
    DE X E (.Call (.Name x p) (e :: es) [] pos) (mCall F ms) := PEto (pe_call G hr hg hm hk hb .nil hx ha hdb he hpl) fun σ H Q h => call_sp hl h
theorem d_call0 (G : FnOk X.prog X.w X.K X.mg X.base CX k f fd ps (spF X.K X.mg 0 F)) (hr : Room k X.A) (hm : X.mg x = some (.ref f)) (hk : PySem.W.keepIn X.K (.ref f) = true) (hb : Binds X.K fd ps []) (hx : Passes CX X E)
    (hg : Gl X x := by rfl) (hdb : (x == ("__debug__" : Str)) = false := by decide) : DE X E (.Call (.Name x p) [] [] pos) (mCall F mNil) := PEto (pe_call0 G hr hg hm hk hb .nil hx hdb) fun σ H Q h => by
  obtain ⟨ε, s, μ, he, hr, h⟩ := h
  exact ⟨rfl, [], s, μ, .nil, hr, h⟩
/-- a call of a built-in by its values -/
def CaS (K : PySem.W.Frag) (mg : Str → Option Value) (r : List V → Hp → VK → Prop) (f : List D → S → R D) : Prop := ∀ (E : XK) (μ : List Addr) (H : Hp) (s : S) (xs : List D) (vs : List V) (Q : VK), Rel K mg μ s H → RVs K mg μ H xs vs → PO K mg E μ H (f xs s) Q → r vs H Q
theorem callB {r : List V → Hp → VK → Prop} {g : List D → S → R D} (hc : CaS X.K X.mg r g) {σ : L2.St} {H : Hp} {Q : VK} (h : tM X.K X.mg E (mCall g ms) σ H Q) : tCB r (tL X.K X.mg E ms) σ H Q := by
  obtain ⟨ε, s, μ, he, hr, h⟩ := h
  exact ⟨ε, s, μ, he, hr, PL.seq h fun ds s1 μ1 H1 vs f1 r1 rvs q => hc E μ1 H1 s1 ds vs Q r1 rvs (PO.fw (r := g ds s1) q f1)⟩
theorem d_callB {id : String} {r : List V → Hp → VK → Prop} {g : List D → S → R D} (hc : CallR X (.builtin id) r) (hs : CaS X.K X.mg r g) (hm : X.mg x = none) (hv : bootBuiltins x = some (.builtin id)) (ha : DA X E (e :: es) ms) (hg : Gl X x := by rfl) (hn : x ≠ "__name__" := by decide) (hdb : (x == ("__debug__" : Str)) = false := by decide)
    (he : starEach (e :: es) X.env = (false, eval e X.env) :: starEach es X.env := by rfl) (hpl : (backTo pos (starEach es X.env)).any (·.1) = false := by rfl) : DE X E (.Call (.Name x p) (e :: es) [] pos) (mCall g ms) :=
  PEto (pe_callB hc hg hm hv ha hn hdb he hpl) fun σ H Q h => callB hs h
theorem d_callTy {id : String} {r : List V → Hp → VK → Prop} {g : List D → S → R D} (hc : CallR X (.type id) r) (hs : CaS X.K X.mg r g) (hm : X.mg x = none) (hv : bootBuiltins x = some (.type id)) (ha : DA X E (e :: es) ms) (hg : Gl X x := by rfl) (hn : x ≠ "__name__" := by decide) (hdb : (x == ("__debug__" : Str)) = false := by decide)
    (he : starEach (e :: es) X.env = (false, eval e X.env) :: starEach es X.env := by rfl) (hpl : (backTo pos (starEach es X.env)).any (·.1) = false := by rfl) : DE X E (.Call (.Name x p) (e :: es) [] pos) (mCall g ms) :=
  PEto (pe_callTy hc hg hm hv ha hn hdb he hpl) fun σ H Q h => callB hs h
end
end Mi
namespace Mi
open PySem PySem.Spec PyProof.Rows L2

/-! ### statements -/
inductive O where
  | nx (ε : Ev) (s : S) | rt (d : D) (s : S) | bk (ε : Ev) (s : S) | ct (ε : Ev) (s : S) | ex (c f : Str) (d : D) (s : S) | bad
abbrev B := Ev → S → O
def R.to {α : Type} (r : R α) (g : α → S → O) : O := match r with
  | .ok a s => g a s
  | .exc c f d s => .ex c f d s
  | .bad => .bad
def O.bind (o : O) (g : B) : O := match o with
  | .nx ε s => g ε s
  | .rt d s => .rt d s
  | .bk ε s => .bk ε s
  | .ct ε s => .ct ε s
  | .ex c f d s => .ex c f d s
  | .bad => .bad
section
variable (K : PySem.W.Frag) (mg : Str → Option Value)
def SO (E : XK) (μ : List Addr) (H : Hp) (o : O) (D : Ends) : Prop := match o with
  | .nx ε s => ∀ (μ' : List Addr) (H' : Hp) (σ' : L2.St), Fw K μ H μ' H' → Rel K mg μ' s H' → REnv K mg μ' H' ε σ' → D.nx σ' H'
  | .bk ε s => ∀ (μ' : List Addr) (H' : Hp) (σ' : L2.St), Fw K μ H μ' H' → Rel K mg μ' s H' → REnv K mg μ' H' ε σ' → D.bk σ' H'
  | .ct ε s => ∀ (μ' : List Addr) (H' : Hp) (σ' : L2.St), Fw K μ H μ' H' → Rel K mg μ' s H' → REnv K mg μ' H' ε σ' → D.ct σ' H'
  | .rt d s => ∀ (μ' : List Addr) (H' : Hp) (v : V), Fw K μ H μ' H' → Rel K mg μ' s H' → RV K mg μ' H' d v → D.rt v H'
  | .ex c f d s => Ex K mg E μ H c f d s
  | .bad => False
def tS (E : XK) (b : B) : TS := fun D σ H => ∃ ε s μ, REnv K mg μ H ε σ ∧ Rel K mg μ s H ∧ SO K mg E μ H (b ε s) D
end
theorem PSto {X : Cx} {e : Stmt} {t t' : TS} (h : PS X e t) (k : ∀ D σ H, t' D σ H → t D σ H) : PS X e t' := ⟨fun pins s σ H D I hw => h.run pins s σ H D I (k D σ H hw)⟩
theorem PSsto {X : Cx} {e : List Stmt} {t t' : TS} (h : PSs X e t) (k : ∀ D σ H, t' D σ H → t D σ H) : PSs X e t' := ⟨fun pins s σ H D I hw => h.run pins s σ H D I (k D σ H hw)⟩
abbrev DS (X : Cx) (E : XK) (st : Stmt) (b : B) : Prop := PS X st (tS X.K X.mg E b)
abbrev DB (X : Cx) (E : XK) (st : List Stmt) (b : B) : Prop := PSs X st (tS X.K X.mg E b)

section
variable {K : PySem.W.Frag} {mg : Str → Option Value} {μ μ' : List Addr} {H H' : Hp} {E : XK} {o : O} {D : Ends}
theorem SO.fw (h : SO K mg E μ H o D) (f : Fw K μ H μ' H') : SO K mg E μ' H' o D := by
  cases o with
  | nx ε s => exact fun μ2 H2 σ2 f2 => h μ2 H2 σ2 (f.trans f2)
  | bk ε s => exact fun μ2 H2 σ2 f2 => h μ2 H2 σ2 (f.trans f2)
  | ct ε s => exact fun μ2 H2 σ2 f2 => h μ2 H2 σ2 (f.trans f2)
  | rt d s => exact fun μ2 H2 v f2 => h μ2 H2 v (f.trans f2)
  | ex c n d s => exact Ex.fw h f
  | bad => exact h
theorem SO.imp {D' : Ends} (h : SO K mg E μ H o D) (h1 : ∀ σ H, D.nx σ H → D'.nx σ H) (h2 : ∀ v H, D.rt v H → D'.rt v H) (h3 : ∀ σ H, D.bk σ H → D'.bk σ H) (h4 : ∀ σ H, D.ct σ H → D'.ct σ H) : SO K mg E μ H o D' := by
  cases o with
  | nx ε s => exact fun μ2 H2 σ2 f2 r e => h1 _ _ (h μ2 H2 σ2 f2 r e)
  | bk ε s => exact fun μ2 H2 σ2 f2 r e => h3 _ _ (h μ2 H2 σ2 f2 r e)
  | ct ε s => exact fun μ2 H2 σ2 f2 r e => h4 _ _ (h μ2 H2 σ2 f2 r e)
  | rt d s => exact fun μ2 H2 v f2 r e => h2 _ _ (h μ2 H2 v f2 r e)
  | ex c n d s => exact h
  | bad => exact h
/-- an expression, then the rest -/
theorem SO.to {g : Mi.D → S → O} {Q : VK} {r : R Mi.D} (h : SO K mg E μ H (r.to g) D)
    (k : ∀ (d : Mi.D) (s1 : S) (μ1 : List Addr) (H1 : Hp) (v : V), Fw K μ H μ1 H1 → Rel K mg μ1 s1 H1 → RV K mg μ1 H1 d v → SO K mg E μ1 H1 (g d s1) D → Q v H1) : PO K mg E μ H r Q := by
  cases r with
  | ok d s1 => exact fun μ1 H1 v f1 r1 rv => k d s1 μ1 H1 v f1 r1 rv (SO.fw (o := g d s1) h f1)
  | exc c n d s1 => exact h
  | bad => exact h.elim
theorem SO.toB {g : Mi.D → S → O} {Q : Bool → Hp → Prop} {r : R Mi.D} (h : SO K mg E μ H (r.to g) D) (hb : ∀ d s1, SO K mg E μ H (g d s1) D → ∃ b, d = .bl b)
    (k : ∀ (b : Bool) (s1 : S) (μ1 : List Addr) (H1 : Hp), Fw K μ H μ1 H1 → Rel K mg μ1 s1 H1 → SO K mg E μ1 H1 (g (.bl b) s1) D → Q b H1) : PB K mg E μ H r Q := by
  cases r with
  | ok d s1 =>
    obtain ⟨b, rfl⟩ := hb d s1 h
    exact ⟨b, rfl, fun μ1 H1 f1 r1 => k b s1 μ1 H1 f1 r1 (SO.fw (o := g (.bl b) s1) h f1)⟩
  | exc c n d s1 => exact h
  | bad => exact h.elim
end

def bNil : B := fun ε s => .nx ε s
def bSeq (b : B) (r : B) : B := fun ε s => (b ε s).bind r
def sExpr (m : M) : B := fun ε s => (m ε s).to fun _ s1 => .nx ε s1
def sRet (m : M) : B := fun ε s => (m ε s).to fun d s1 => .rt d s1
def sRetN : B := fun _ s => .rt .non s
def sSet (i : Nat) (m : M) : B := fun ε s => (m ε s).to fun d s1 => .nx (ε.set i (some d)) s1
def ifK (a b : B) (ε : Ev) : D → S → O
  | .bl true, s => a ε s
  | .bl false, s => b ε s
  | _, _ => .bad
def sIf (m : M) (a b : B) : B := fun ε s => (m ε s).to (ifK a b ε)
def sBreak : B := fun ε s => .bk ε s
def sCont : B := fun ε s => .ct ε s
section
variable {X : Cx} {E : XK} {pos : Pos} {e c : Expr} {m mc : M} {st : Stmt} {sts : List Stmt} {b r : B}
theorem b_nil : DB X E [] bNil := PSsto pss_nil fun D σ H ⟨ε, s, μ, he, hr, h⟩ => h μ H σ Fw.refl hr he
theorem b_cons (h1 : DS X E st b) (h2 : DB X E sts r) : DB X E (st :: sts) (bSeq b r) := PSsto (pss_cons h1 h2) fun D σ H ⟨ε, s, μ, he, hr, h⟩ => by
  refine ⟨ε, s, μ, he, hr, ?_⟩
  have h : SO X.K X.mg E μ H ((b ε s).bind r) D := h
  cases q : b ε s with
  | nx ε1 s1 =>
    rw [q] at h
    exact fun μ1 H1 σ1 f1 r1 e1 => ⟨ε1, s1, μ1, e1, r1, SO.fw (o := r ε1 s1) h f1⟩
  | bk ε1 s1 =>
    rw [q] at h
    exact h
  | ct ε1 s1 =>
    rw [q] at h
    exact h
  | rt d s1 =>
    rw [q] at h
    exact h
  | ex c n d s1 =>
    rw [q] at h
    exact h
  | bad =>
    rw [q] at h
    exact h.elim
theorem b_one (h1 : DS X E st b) : DB X E [st] b := PSsto (pss_one h1) fun D σ H h => h
theorem s_pass : DS X E (.Pass pos) bNil := PSto ps_pass fun D σ H ⟨ε, s, μ, he, hr, h⟩ => h μ H σ Fw.refl hr he
theorem s_break : DS X E (.Break pos) sBreak := PSto ps_break fun D σ H ⟨ε, s, μ, he, hr, h⟩ => h μ H σ Fw.refl hr he
theorem s_cont : DS X E (.Continue pos) sCont := PSto ps_continue fun D σ H ⟨ε, s, μ, he, hr, h⟩ => h μ H σ Fw.refl hr he
theorem s_doc {x : Str} {j : Nat} {pos' : Pos} : DS X E (.Expr (.Constant (.str x) j pos) pos') bNil := PSto ps_doc fun D σ H ⟨ε, s, μ, he, hr, h⟩ => h μ H σ Fw.refl hr he
theorem s_expr (he : DE X E e m) (hs : swapsWith e none pos.line X.env = pure false := by rfl) : DS X E (.Expr e pos) (sExpr m) := PSto (ps_expr he hs) fun D σ H ⟨ε, s, μ, he, hr, h⟩ =>
  ⟨ε, s, μ, he, hr, SO.to (r := m ε s) h fun d s1 μ1 H1 v f1 r1 rv q => q μ1 H1 σ Fw.refl r1 (he.fw f1)⟩
theorem s_ret (he : DE X E e m) : DS X E (.Return (some e) pos) (sRet m) := PSto (ps_ret he) fun D σ H ⟨ε, s, μ, he, hr, h⟩ =>
  ⟨ε, s, μ, he, hr, SO.to (r := m ε s) h fun d s1 μ1 H1 v f1 r1 rv q => q μ1 H1 v Fw.refl r1 rv⟩
theorem s_retN : DS X E (.Return none pos) sRetN := PSto ps_retN fun D σ H ⟨ε, s, μ, he, hr, h⟩ => h μ H .non Fw.refl hr .non
theorem s_set (i : Nat) {x : Str} {pos' : Pos} (hN : X.N.Nodup) (he : DE X E e m) (hi : X.N[i]? = some x := by rfl) (hx : Loc X.env.scope x := by first | exact Or.inl rfl | exact Or.inr rfl) (hs : swapsWith e (some (.Name x pos')) pos.line X.env = pure false := by rfl) (hf : X.fn x = true ∨ X.env.scope.names.lookup x = some .local := by first | exact .inl rfl | exact .inr rfl) :
    DS X E (.Assign [.Name x pos'] e pos) (sSet i m) := PSto (ps_set hN hi hx he hs hf) fun D σ H ⟨ε, s, μ, he, hr, h⟩ =>
  ⟨ε, s, μ, he, hr, SO.to (r := m ε s) h fun d s1 μ1 H1 v f1 r1 rv q => q μ1 H1 _ Fw.refl r1 ((he.fw f1).set i rv)⟩
theorem s_if {as bs : List Stmt} {a b : B} (hc : DT X E c mc) (ha : DB X E as a) (hb : DB X E bs b) : DS X E (.If c as bs pos) (sIf mc a b) := PSto (ps_if hc ha hb) fun D σ H ⟨ε, s, μ, he, hr, h⟩ => by
  refine ⟨ε, s, μ, he, hr, SO.toB (r := mc ε s) h (fun d s1 q => ?_) fun k s1 μ1 H1 f1 r1 q => ?_⟩
  · cases d with
    | bl b => exact ⟨b, rfl⟩
    | _ => exact q.elim
  · cases k with
    | true =>
      rw [if_pos rfl]
      exact ⟨ε, s1, μ1, he.fw f1, r1, q⟩
    | false =>
      rw [if_neg Bool.false_ne_true]
      exact ⟨ε, s1, μ1, he.fw f1, r1, q⟩
end

/-! ### what is walked -/
/-- the items, and the cell that must stand as it is while they are walked -/
abbrev Walked := List D × Option (Nat × C)
def Gd : Option (Nat × C) → S → Prop
  | none, _ => True
  | some (k, c), s => s[k]? = some c
section
variable (K : PySem.W.Frag) (mg : Str → Option Value)
/-- what J yields, from (μ1, H1) on -/
def ItS (J : It) (μ1 : List Addr) (H1 : Hp) (w : Walked) : Prop := ∀ (i : Nat) (μ : List Addr) (s : S) (H : Hp), Fw K μ1 H1 μ H → Rel K mg μ s H → Gd w.2 s →
  (w.1[i]? = none → J.stop i H) ∧ ∀ d, w.1[i]? = some d → J.go i H ∧ ∀ x H', J.yld i H x H' → H' = H ∧ RV K mg μ H d x
def tI (E : XK) (mi : Ev → S → R Walked) : TI := fun σ H P => ∃ ε s μ, REnv K mg μ H ε σ ∧ Rel K mg μ s H ∧
  (mi ε s).sat (fun w s' => ∀ (μ' : List Addr) (H' : Hp) (J : It), Fw K μ H μ' H' → Rel K mg μ' s' H' → Gd w.2 s' → ItS K mg J μ' H' w → P J H') (Ex K mg E μ H)
end
abbrev DI (X : Cx) (E : XK) (tg iter : Expr) (mi : Ev → S → R Walked) : Prop := PI X tg iter (tI X.K X.mg E mi)
theorem PIto {X : Cx} {tg e : Expr} {t t' : TI} (h : PI X tg e t) (k : ∀ σ H P, t' σ H P → t σ H P) : PI X tg e t' := ⟨fun pins s σ H P I hw => h.run pins s σ H P I (k σ H P hw)⟩
/-- a list, a tuple, a text -/
def iAny (K : PySem.W.Frag) (tl : TE) : TI := fun σ H P => tl σ H fun x H1 => (∃ a, x = .ref a ∧ (∃ xs, SqL K H1 a xs) ∧ P (Itl K a) H1) ∨ (∃ a, x = .ref a ∧ (∃ xs, SqT K H1 a xs) ∧ P (Itt K a) H1) ∨ ∃ y, x = .str y ∧ P (Its y) H1
theorem pi_any {X : Cx} {tg e : Expr} {te : TE} (he : PE X e te) : PI X tg e (iAny X.K te) := by
  refine ⟨fun pins s σ H P I h => ?_⟩
  refine thn (he.run pins s σ H _ I h) fun v s1 ⟨y, H1, I1, r1, q⟩ => ?_
  rcases q with ⟨a, rfl, ⟨xs, hq⟩, q⟩ | ⟨a, rfl, ⟨xs, hq⟩, q⟩ | ⟨x, rfl, q⟩
  · cases r1
    obtain ⟨its, rv, p, hz⟩ := I1.list hq
    refine wpAny_pyIter_list p.isList ?_
    refine ⟨s1.heap.objs.size, [s1.heap.objs.size], _, _, H1, rfl, I1.kept (t' := s1.toks) fun b o e => Heap.get?_push_of_some _ e, turn_list a _, ⟨_, Heap.get?_push_size _ rfl, rfl, rfl⟩, fun b hb => ?_, q⟩
    have e : b = s1.heap.objs.size := by simpa using hb
    subst e
    exact I1.fpOk (Nat.le_refl _) (I1.hok.fresh (Nat.le_refl _))
  · cases r1
    obtain ⟨its, rv, p, hz⟩ := I1.tuple hq
    refine wpAny_pyIter_tuple (show s1.heap.IsTuple a its.toArray from p) ?_
    refine ⟨s1.heap.objs.size, [s1.heap.objs.size], _, _, H1, rfl, I1.kept (t' := s1.toks) fun b o e => Heap.get?_push_of_some _ e, turn_tuple a _, ⟨_, Heap.get?_push_size _ rfl, rfl, rfl⟩, fun b hb => ?_, q⟩
    have e : b = s1.heap.objs.size := by simpa using hb
    subst e
    exact I1.fpOk (Nat.le_refl _) (I1.hok.fresh (Nat.le_refl _))
  · obtain ⟨t, rfl⟩ := r1
    cases ha : x.cps.all (· < 128)
    · exact wpAny_pyIter_wide ha (pi_one (tk := s1.toks) I1 _ (turn_str _ x t "str_iterator" (.inr rfl)) ⟨_, Heap.get?_push_size _ rfl, rfl, rfl⟩ q)
    · exact wpAny_pyIter_ascii ha (pi_one (tk := s1.toks) I1 _ (turn_str _ x t "str_ascii_iterator" (.inl rfl)) ⟨_, Heap.get?_push_size _ rfl, rfl, rfl⟩ q)
def cellK (k : Nat) : Option C → S → R Walked
  | some (.lst ds), s => .ok (ds, some (k, .lst ds)) s
  | _, _ => .bad
def itemsK : D → S → R Walked
  | .ref k, s => cellK k s[k]? s
  | .tup ds, s => .ok (ds, none) s
  | .frl ds, s => .ok (ds, none) s
  | .str x, s => .ok (x.cps.toList.map fun c => .str ⟨#[c]⟩, none) s
  | _, _ => .bad
def iSeq (m : M) : Ev → S → R Walked := fun ε s => (m ε s).bind itemsK
section
variable {K : PySem.W.Frag} {mg : Str → Option Value}
theorem itS_list {a : Addr} {μ1 : List Addr} {H1 : Hp} {ds : List D} {k : Nat} (hk : μ1[k]? = some a) : ItS K mg (Itl K a) μ1 H1 (ds, some (k, .lst ds)) := fun i μ s H f r g => by
  have g : s[k]? = some (.lst ds) := g
  obtain ⟨vs, hv, rv⟩ := r.cell k _ a g (f.map k a hk)
  have hq : SqL K H a vs := SqL.of hv
  refine ⟨fun h => ⟨vs, hq, ?_⟩, fun d h => ?_⟩
  · rw [← rv.length]
    exact List.getElem?_eq_none_iff.mp h
  · obtain ⟨v, h1, h2⟩ := rv.get h
    exact ⟨⟨vs, v, hq, h1⟩, fun x H' ⟨e, y⟩ => ⟨e, by
      have := y vs hq
      rw [h1] at this
      cases this
      exact h2⟩⟩
theorem itS_frl {a : Addr} {μ1 : List Addr} {H1 : Hp} {ds : List D} {vs : List V} (hq : Fz K H1 a vs) (rv : RVs K mg μ1 H1 ds vs) : ItS K mg (Itl K a) μ1 H1 (ds, none) := fun i μ s H f r g => by
  have hq : SqL K H a vs := (f.frz a vs hq).seq
  have rv := rv.fw f
  refine ⟨fun h => ⟨vs, hq, ?_⟩, fun d h => ?_⟩
  · rw [← rv.length]
    exact List.getElem?_eq_none_iff.mp h
  · obtain ⟨v, h1, h2⟩ := rv.get h
    exact ⟨⟨vs, v, hq, h1⟩, fun x H' ⟨e, y⟩ => ⟨e, by
      have := y vs hq
      rw [h1] at this
      cases this
      exact h2⟩⟩
theorem itS_tup {a : Addr} {μ1 : List Addr} {H1 : Hp} {ds : List D} {vs : List V} (hq : SqT K H1 a vs) (rv : RVs K mg μ1 H1 ds vs) : ItS K mg (Itt K a) μ1 H1 (ds, none) := fun i μ s H f r g => by
  have hq := f.tup a vs hq
  have rv := rv.fw f
  refine ⟨fun h => ⟨vs, hq, ?_⟩, fun d h => ?_⟩
  · rw [← rv.length]
    exact List.getElem?_eq_none_iff.mp h
  · obtain ⟨v, h1, h2⟩ := rv.get h
    exact ⟨⟨vs, v, hq, h1⟩, fun x H' ⟨e, y⟩ => ⟨e, by
      have := y vs hq
      rw [h1] at this
      cases this
      exact h2⟩⟩
theorem itS_str {x : Str} {μ1 : List Addr} {H1 : Hp} : ItS K mg (Its x) μ1 H1 (x.cps.toList.map fun c => .str ⟨#[c]⟩, none) := fun i μ s H f r g => by
  refine ⟨fun h => ?_, fun d h => ?_⟩
  · have h : i ≥ _ := List.getElem?_eq_none_iff.mp h
    rw [List.length_map, Array.length_toList] at h
    exact h
  · have h : (x.cps.toList.map fun c => D.str ⟨#[c]⟩)[i]? = some d := h
    rw [List.getElem?_map] at h
    cases e : x.cps.toList[i]? with
    | none =>
      rw [e] at h
      cases h
    | some c =>
      rw [e] at h
      cases h
      have e' : x.cps[i]? = some c := by simpa using e
      refine ⟨(Array.getElem?_eq_some_iff.mp e').1, fun v H' ⟨e1, c', e2, e3⟩ => ⟨e1, ?_⟩⟩
      rw [e'] at e2
      cases e2
      rw [e3]
      exact .str _
end
section
variable {X : Cx} {E : XK} {pos : Pos} {e c : Expr} {m mc : M} {tg : Expr}
theorem sat_fw {α : Type} {K : PySem.W.Frag} {mg : Str → Option Value} {μ μ' : List Addr} {H H' : Hp} {r : R Walked} {P : It → Hp → Prop} (h : r.sat (fun w s' => ∀ (μ' : List Addr) (H' : Hp) (J : It), Fw K μ H μ' H' → Rel K mg μ' s' H' → Gd w.2 s' → ItS K mg J μ' H' w → P J H') (Ex K mg E μ H)) (f : Fw K μ H μ' H') :
    r.sat (fun w s' => ∀ (μ2 : List Addr) (H2 : Hp) (J : It), Fw K μ' H' μ2 H2 → Rel K mg μ2 s' H2 → Gd w.2 s' → ItS K mg J μ2 H2 w → P J H2) (Ex K mg E μ' H') := h.imp (fun _ _ k μ2 H2 J f2 => k μ2 H2 J (f.trans f2)) fun _ _ _ _ k => k.fw f
theorem i_seq (he : DE X E e m) : DI X E tg e (iSeq m) := PIto (pi_any he) fun σ H P ⟨ε, s, μ, hε, hr, h⟩ => by
  refine ⟨ε, s, μ, hε, hr, PO.seq h fun d s1 μ1 H1 v f1 r1 rv q => ?_⟩
  have q := sat_fw (α := Unit) (r := itemsK d s1) q f1
  cases rv with
  | @ref k a hk =>
    have q := (show (cellK k s1[k]? s1).sat _ _ from q)
    cases g : s1[k]? with
    | none =>
      rw [g] at q
      exact q.elim
    | some c =>
      cases c with
      | lst ds =>
        rw [g] at q
        obtain ⟨vs, hv, _⟩ := r1.cell k _ a g hk
        exact .inl ⟨a, rfl, ⟨vs, SqL.of hv⟩, q μ1 H1 _ Fw.refl r1 g (itS_list hk)⟩
      | dic kvs =>
        rw [g] at q
        exact q.elim
  | frl hq rs => exact .inl ⟨_, rfl, ⟨_, hq.seq⟩, q μ1 H1 _ Fw.refl r1 trivial (itS_frl hq rs)⟩
  | tup hq rs => exact .inr (.inl ⟨_, rfl, ⟨_, hq⟩, q μ1 H1 _ Fw.refl r1 trivial (itS_tup hq rs)⟩)
  | str x => exact .inr (.inr ⟨x, rfl, q μ1 H1 _ Fw.refl r1 trivial itS_str⟩)
  | _ => exact q.elim
end

/-! ### ranges, of any size -/
def rngL : Int → Nat → List D
  | _, 0 => []
  | lo, n + 1 => .int lo :: rngL (lo + 1) n
theorem rngL_get : ∀ (lo : Int) (n i : Nat), (rngL lo n)[i]? = if i < n then some (.int (lo + i)) else none
  | lo, 0, i => by simp [rngL]
  | lo, n + 1, 0 => by simp [rngL]
  | lo, n + 1, i + 1 => by
    show (rngL (lo + 1) n)[i]? = _
    rw [rngL_get (lo + 1) n i]
    by_cases h : i < n
    · rw [if_pos h, if_pos (by omega)]
      congr 2
      push_cast
      omega
    · rw [if_neg h, if_neg (by omega)]
theorem rngL_length : ∀ (lo : Int) (n : Nat), (rngL lo n).length = n
  | _, 0 => rfl
  | lo, n + 1 => by
    show (rngL (lo + 1) n).length + 1 = n + 1
    rw [rngL_length]
theorem itS_rng {K : PySem.W.Frag} {mg : Str → Option Value} {lo : Int} {n : Nat} {μ1 : List Addr} {H1 : Hp} : ItS K mg (Itr lo n) μ1 H1 (rngL lo n, none) := fun i μ s H f r g => by
  refine ⟨fun h => ?_, fun d h => ?_⟩
  · have h : i ≥ _ := List.getElem?_eq_none_iff.mp h
    rw [rngL_length] at h
    exact h
  · have h : (rngL lo n)[i]? = some d := h
    rw [rngL_get] at h
    by_cases hi : i < n
    · rw [if_pos hi] at h
      cases h
      exact ⟨hi, fun x H' ⟨e1, e2⟩ => ⟨e1, by rw [e2]; exact .int _⟩⟩
    · rw [if_neg hi] at h
      cases h
end Mi
namespace Mi
open PySem PySem.Spec PyProof.Rows L2

/-! ### range(n), range(a, b) of any size -/
theorem turn_long {P : Program} {w : World} {K : PySem.W.Frag} {tg : Expr} (it : Addr) (lo : Int) (n : Nat) : Turn P w K tg (Itr lo n) [it] it (fun i h => IsLongIter h it (lo + (i : Nat) * 1) ((n : Int) - (i : Nat)) 1) where
  mem := by simp
  obj := fun i h st b hb => by
    have e : b = it := by simpa using hb
    subst e
    exact ⟨_, st, fun v z => by
      have z' : Data.fields _ = Data.cell v := z
      cases z'⟩
  keep := fun i h h' st k => k it (by simp) _ st
  item := by
    intro X hP hw hK hc i pins s σ H E I hf st hg
    subst hP hw hK
    obtain ⟨f0, f1, f2, f3, f4, f5⟩ := hf it (by simp)
    have W := Walks.longrange (prog := X.prog) (w := X.w) (I.ok.hd hc) it lo 1 n
    refine W.item i s _ _ hg st fun v h' tk hv st' kk => ?_
    obtain ⟨t, rfl⟩ := hv
    have I1 : Inv X pins σ H { s with heap := h', toks := tk } := I.turned (fun b o hb e => kk b o (by simpa using hb) e) f0 f1 f3 f4 f5
    refine ⟨_, rfl, go_of (s := { s with heap := h', toks := tk }) (n := "longrange_iterator") st' rfl rfl (by decide) ⟨.int (lo + i), H, I1, ⟨t, ?_⟩, ⟨rfl, rfl⟩, st', fun b hb => (hf b hb).1⟩⟩
    rw [Int.mul_one]
  done := by
    intro X hP hw hK hc i pins s σ H E I hf st hg
    subst hP hw hK
    obtain ⟨f0, f1, f2, f3, f4, f5⟩ := hf it (by simp)
    exact wpAny_pyNext_long_end (I.ok.hd hc) st (by have : n ≤ i := hg; omega) fun h' eb => ⟨rfl, I.turned (t' := s.toks) (fun b o hb e => eb b o hb e) f0 f1 f3 f4 f5⟩
  self := fun _ _ _ _ _ st h => wpAny_pyIter_longiter st h
section
variable {X : Cx} {tg : Expr}
theorem range_any {pins : List (Addr × Obj)} {σ : L2.St} {H : Hp} {s : Shared} {R : It → Hp → Prop} {E : Value → Shared → Prop} {lo hi : Int} {t u v : Tok} {tk : Nat} (I : Inv X pins σ H s)
    (q : R (Itr lo (hi - lo).toNat) H) : wpAny (model X.prog X.w) X.A (pyIter (.ref s.heap.objs.size)) (PIE X pins σ tg R) E { s with heap := s.heap.push { cls := .type "range", data := .fields #[.int lo t, .int hi u, .int 1 v] }, toks := tk } := by
  have I1 : Inv X pins σ H { s with heap := s.heap.push { cls := .type "range", data := .fields #[.int lo t, .int hi u, .int 1 v] }, toks := tk } := I.kept fun b o e => Heap.get?_push_of_some _ e
  have e1 : lo + ((0 : Nat) : Int) * 1 = lo := by simp
  have e2 : (((hi - lo).toNat : Nat) : Int) - ((0 : Nat) : Int) = Builtin.Range.rangeSize lo hi 1 := by rw [rangeSize_one]; split <;> omega
  have fin : ∀ b ∈ [(s.heap.push { cls := .type "range", data := .fields #[.int lo t, .int hi u, .int 1 v] }).objs.size], FpOk X pins H b := fun b hb => by
    have e : b = (s.heap.push { cls := .type "range", data := .fields #[.int lo t, .int hi u, .int 1 v] }).objs.size := by simpa using hb
    subst e
    exact I1.fpOk (Nat.le_refl _) (I1.hok.fresh (Nat.le_refl _))
  cases hs : Builtin.Range.small lo hi 1 with
  | true =>
    refine wpAny_pyIter_range (IsRange.new ..) hs ?_
    refine ⟨(s.heap.push { cls := .type "range", data := .fields #[.int lo t, .int hi u, .int 1 v] }).objs.size, [(s.heap.push { cls := .type "range", data := .fields #[.int lo t, .int hi u, .int 1 v] }).objs.size], _, _, H, rfl,
      I1.kept (t' := tk) fun b o e => Heap.get?_push_of_some _ e, turn_range _ lo (hi - lo).toNat, ?_, fin, q⟩
    show IsRangeIter _ _ (lo + ((0 : Nat) : Int) * 1) ((((hi - lo).toNat : Nat) : Int) - ((0 : Nat) : Int)) 1
    rw [e1, e2]
    exact Heap.get?_push_size _ rfl
  | false =>
    refine wpAny_pyIter_longrange (IsRange.new ..) hs ?_
    refine ⟨(s.heap.push { cls := .type "range", data := .fields #[.int lo t, .int hi u, .int 1 v] }).objs.size, [(s.heap.push { cls := .type "range", data := .fields #[.int lo t, .int hi u, .int 1 v] }).objs.size], _, _, H, rfl,
      I1.kept (t' := tk) fun b o e => Heap.get?_push_of_some _ e, turn_long _ lo (hi - lo).toNat, ?_, fin, q⟩
    show IsLongIter _ _ (lo + ((0 : Nat) : Int) * 1) ((((hi - lo).toNat : Nat) : Int) - ((0 : Nat) : Int)) 1
    rw [e1, e2]
    exact Heap.get?_push_size _ rfl
def iR1 (ta : TA) : TI := fun σ H R => ta σ H fun vs H1 => ∃ j : Int, vs = [.int j] ∧ R (Itr 0 j.toNat) H1
def iR2 (ta : TA) : TI := fun σ H R => ta σ H fun vs H1 => ∃ i j : Int, vs = [.int i, .int j] ∧ R (Itr i (j - i).toNat) H1
theorem pi_r1 {a : Expr} {ta : TA} {p pos : Pos} (hg : Gl X "range") (hm : X.mg "range" = none) (ha : PA X [a] ta) (hs : starEach [a] X.env = [(false, eval a X.env)] := by rfl) : PI X tg (.Call (.Name "range" p) [a] [] pos) (iR1 ta) := by
  refine ⟨fun pins s σ H R I h => ?_⟩
  refine Call_ (ld_blt I hg hm boot_range (PyProof.Rows.callWith_type1 (thn (ha.run pos pins s σ H _ I h) fun us s1 ⟨vs, H1, I1, r1, q1⟩ => ?_) hs rfl))
  obtain ⟨j, e, q⟩ := q1
  subst e
  cases r1 with
  | cons r rr =>
    cases rr
    obtain ⟨t, rfl⟩ := r
    exact call_range_1 (range_any I1 (by simpa using q))
theorem pi_r2 {a b : Expr} {ta : TA} {p pos : Pos} (hg : Gl X "range") (hm : X.mg "range" = none) (ha : PA X [a, b] ta) (hs : starEach [a, b] X.env = [(false, eval a X.env), (false, eval b X.env)] := by rfl) (hs2 : starEach [b] X.env = [(false, eval b X.env)] := by rfl) :
    PI X tg (.Call (.Name "range" p) [a, b] [] pos) (iR2 ta) := by
  refine ⟨fun pins s σ H R I h => ?_⟩
  refine Call_ (ld_blt I hg hm boot_range (PyProof.Rows.callWith_type1 (thn (ha.run pos pins s σ H _ I h) fun us s1 ⟨vs, H1, I1, r1, q1⟩ => ?_) (by rw [hs, hs2]) (by rw [hs2]; rfl)))
  obtain ⟨i, j, e, q⟩ := q1
  subst e
  cases r1 with
  | cons r rr =>
    cases rr with
    | cons r' rr =>
      cases rr
      obtain ⟨t, rfl⟩ := r
      obtain ⟨t', rfl⟩ := r'
      exact call_range_2 (range_any I1 q)
def rngK1 : List D → S → R Walked
  | [.int j], s => .ok (rngL 0 j.toNat, none) s
  | _, _ => .bad
def rngK2 : List D → S → R Walked
  | [.int i, .int j], s => .ok (rngL i (j - i).toNat, none) s
  | _, _ => .bad
def iRng1 (ms : Ev → S → R (List D)) : Ev → S → R Walked := fun ε s => (ms ε s).bind rngK1
def iRng2 (ms : Ev → S → R (List D)) : Ev → S → R Walked := fun ε s => (ms ε s).bind rngK2
variable {E : XK} {pos : Pos} {ms : Ev → S → R (List D)}
theorem i_rng1 {a : Expr} {p pos : Pos} (hm : X.mg "range" = none) (ha : DA X E [a] ms) (hg : Gl X "range" := by rfl) (hs : starEach [a] X.env = [(false, eval a X.env)] := by rfl) : DI X E tg (.Call (.Name "range" p) [a] [] pos) (iRng1 ms) :=
  PIto (pi_r1 hg hm ha hs) fun σ H P ⟨ε, s, μ, hε, hr, h⟩ => by
  refine ⟨ε, s, μ, hε, hr, PL.seq h fun ds s1 μ1 H1 vs f1 r1 rvs q => ?_⟩
  have q := sat_fw (α := Unit) (r := rngK1 ds s1) q f1
  cases rvs with
  | nil => exact q.elim
  | cons r rs =>
    cases rs with
    | nil =>
      cases r with
      | int j => exact ⟨j, rfl, q μ1 H1 _ Fw.refl r1 trivial itS_rng⟩
      | _ => exact q.elim
    | cons _ _ => cases r <;> exact q.elim
theorem i_rng2 {a b : Expr} {p pos : Pos} (hm : X.mg "range" = none) (ha : DA X E [a, b] ms) (hg : Gl X "range" := by rfl) (hs : starEach [a, b] X.env = [(false, eval a X.env), (false, eval b X.env)] := by rfl) (hs2 : starEach [b] X.env = [(false, eval b X.env)] := by rfl) : DI X E tg (.Call (.Name "range" p) [a, b] [] pos) (iRng2 ms) :=
  PIto (pi_r2 hg hm ha hs hs2) fun σ H P ⟨ε, s, μ, hε, hr, h⟩ => by
  refine ⟨ε, s, μ, hε, hr, PL.seq h fun ds s1 μ1 H1 vs f1 r1 rvs q => ?_⟩
  have q := sat_fw (α := Unit) (r := rngK2 ds s1) q f1
  cases rvs with
  | nil => exact q.elim
  | cons r rs =>
    cases rs with
    | nil => cases r <;> exact q.elim
    | cons r' rs' =>
      cases rs' with
      | nil =>
        cases r with
        | int i =>
          cases r' with
          | int j => exact ⟨i, j, rfl, q μ1 H1 _ Fw.refl r1 trivial itS_rng⟩
          | _ => exact q.elim
        | _ => exact q.elim
      | cons _ _ => cases r <;> first | exact q.elim | (cases r' <;> exact q.elim)

/-! ### targets -/
abbrev Tg := D → Ev → Option Ev
def tG (K : PySem.W.Frag) (mg : Str → Option Value) (t : Tg) : TG := fun v σ H Q => ∃ (d : D) (ε : Ev) (s : S) (μ : List Addr), RV K mg μ H d v ∧ REnv K mg μ H ε σ ∧ Rel K mg μ s H ∧ ∃ ε', t d ε = some ε' ∧ ∀ σ', REnv K mg μ H ε' σ' → Q σ' H
abbrev DG (X : Cx) (e : Expr) (t : Tg) : Prop := PG X e (tG X.K X.mg t)
theorem PGto {X : Cx} {e : Expr} {t t' : TG} (h : PG X e t) (k : ∀ v σ H Q, t' v σ H Q → t v σ H Q) : PG X e t' := ⟨fun pins s σ H v u Q I r hw => h.run pins s σ H v u Q I r (k v σ H Q hw)⟩
def gN (i : Nat) : Tg := fun d ε => some (ε.set i (some d))
theorem g_name (i : Nat) {x : Str} (hN : X.N.Nodup) (hi : X.N[i]? = some x := by rfl) (hx : Loc X.env.scope x := by first | exact Or.inl rfl | exact Or.inr rfl) (hf : X.fn x = true ∨ X.env.scope.names.lookup x = some .local := by first | exact .inl rfl | exact .inr rfl) : DG X (.Name x pos) (gN i) :=
  PGto (pg_name hN hi hx hf) fun v σ H Q ⟨d, ε, s, μ, rv, he, hr, ε', e1, k⟩ => by
  cases e1
  exact k _ (he.set i rv)
/-- (a, b, ..) = a tuple: the targets one after another -/
abbrev Tgs := List D → Ev → Option Ev
def gsNil : Tgs := fun ds ε => match ds with
  | [] => some ε
  | _ => none
def gsCons (t : Tg) (u : Tgs) : Tgs := fun ds ε => match ds with
  | d :: r => (t d ε).bind (u r)
  | [] => none
def tGs (K : PySem.W.Frag) (mg : Str → Option Value) (t : Tgs) : TGs := fun vs σ H Q => ∃ (ds : List D) (ε : Ev) (s : S) (μ : List Addr), RVs K mg μ H ds vs ∧ REnv K mg μ H ε σ ∧ Rel K mg μ s H ∧ ∃ ε', t ds ε = some ε' ∧ ∀ σ', REnv K mg μ H ε' σ' → Q σ' H
abbrev DGs (X : Cx) (es : List Expr) (t : Tgs) : Prop := PGs X es (tGs X.K X.mg t)
theorem PGsto {X : Cx} {e : List Expr} {t t' : TGs} (h : PGs X e t) (k : ∀ v σ H Q, t' v σ H Q → t v σ H Q) : PGs X e t' := ⟨fun pins s σ H v u Q I r hw => h.run pins s σ H v u Q I r (k v σ H Q hw)⟩
theorem gs_nil : DGs X [] gsNil := PGsto pgs_nil fun vs σ H Q ⟨ds, ε, s, μ, rv, he, hr, ε', e1, k⟩ => by
  cases rv with
  | nil =>
    cases e1
    exact ⟨rfl, k _ he⟩
  | cons _ _ => cases e1
theorem gs_cons {e : Expr} {es : List Expr} {t : Tg} {u : Tgs} (h1 : DG X e t) (h2 : DGs X es u) (hs : (assignEach (e :: es) X.env).map (·.2) = assign e X.env :: (assignEach es X.env).map (·.2) := by rfl) : DGs X (e :: es) (gsCons t u) :=
  PGsto (pgs_cons h1 h2 hs) fun vs σ H Q ⟨ds, ε, s, μ, rv, he, hr, ε', e1, k⟩ => by
  cases rv with
  | nil => cases e1
  | @cons d v ds vs r rs =>
    have e1 : (t d ε).bind (u ds) = some ε' := e1
    cases q : t d ε with
    | none =>
      rw [q] at e1
      cases e1
    | some ε1 =>
      rw [q] at e1
      exact ⟨v, vs, rfl, d, ε, s, μ, r, he, hr, ε1, q, fun σ1 he1 => ⟨ds, ε1, s, μ, rs, he1, hr, ε', e1, k⟩⟩
def gTp (n : Nat) (u : Tgs) : Tg := fun d ε => match d with
  | .tup ds => if ds.length = n then u ds ε else none
  | _ => none
theorem g_tup {es : List Expr} {k n : Nat} {u : Tgs} (hc : X.calm = true) (h : DGs X es u) (hn : (assignEach es X.env).length = n := by rfl) (hst : (assignEach es X.env).findIdx? (·.1) = none := by rfl) : DG X (.Tuple es k pos) (gTp n u) :=
  PGto (pg_tup hc h hn hst) fun v σ H Q ⟨d, ε, s, μ, rv, he, hr, ε', e1, kk⟩ => by
  cases rv with
  | @tup ds p vs hq rs =>
    have e1 : (if ds.length = n then u ds ε else none) = some ε' := e1
    by_cases hl : ds.length = n
    · rw [if_pos hl] at e1
      exact ⟨p, vs, rfl, hq, by rw [← rs.length]; exact hl, ds, ε, s, μ, rs, he, hr, ε', e1, kk⟩
    · rw [if_neg hl] at e1
      cases e1
  | _ => cases e1
/-- target = value, any target of these -/
def sTg (m : M) (t : Tg) : B := fun ε s => (m ε s).to fun d s1 => match t d ε with
  | some ε' => .nx ε' s1
  | none => .bad
theorem s_tg {tg e : Expr} {m : M} {t : Tg} (he : DE X E e m) (hg : DG X tg t) (hs : swapsWithSole [tg] e pos.line X.env = pure false := by rfl) (hw : swappedStores [tg] e X.env = pure none := by rfl)
    (h1 : (assignEach [tg] X.env).map (·.2) = [assign tg X.env] := by rfl) : DS X E (.Assign [tg] e pos) (sTg m t) := PSto (ps_asg he hg hs hw h1) fun D σ H ⟨ε, s, μ, hε, hr, h⟩ =>
  ⟨ε, s, μ, hε, hr, SO.to (r := m ε s) h fun d s1 μ1 H1 v f1 r1 rv q => by
    cases e1 : t d ε with
    | none =>
      rw [e1] at q
      exact q.elim
    | some ε' =>
      rw [e1] at q
      exact ⟨d, ε, s1, μ1, rv, hε.fw f1, r1, ε', e1, fun σ' h' => q μ1 H1 σ' Fw.refl r1 h'⟩⟩

/-! ### for -/
open Classical in
noncomputable def loop (g : Option (Nat × C)) (t : Tg) (b : B) : List D → B
  | [], ε, s => if Gd g s then .nx ε s else .bad
  | d :: ds, ε, s => if Gd g s then (match t d ε with
      | none => .bad
      | some ε1 => match b ε1 s with
        | .nx ε2 s2 => loop g t b ds ε2 s2
        | .ct ε2 s2 => loop g t b ds ε2 s2
        | .bk ε2 s2 => .nx ε2 s2
        | .rt d s2 => .rt d s2
        | .ex c f d s2 => .ex c f d s2
        | .bad => .bad) else .bad
noncomputable def sFor (mi : Ev → S → R Walked) (t : Tg) (b : B) : B := fun ε s => (mi ε s).to fun w s1 => loop w.2 t b w.1 ε s1
theorem SO.ite {K : PySem.W.Frag} {mg : Str → Option Value} {μ : List Addr} {H : Hp} {D : Ends} {c : Prop} [Decidable c] {o : O} (h : SO K mg E μ H (if c then o else .bad) D) : c ∧ SO K mg E μ H o D := by
  by_cases q : c
  · rw [if_pos q] at h
    exact ⟨q, h⟩
  · rw [if_neg q] at h
    exact h.elim
open Classical in
theorem s_for {tg iter : Expr} {body : List Stmt} {mi : Ev → S → R Walked} {t : Tg} {b : B} (hp : PassesOwn (model X.prog X.w) X.A X.env X.xe) (hc : X.calm = true) (hi : DI X E tg iter mi) (hg : DG X tg t) (hb : DB X E body b)
    (hs : ∀ x, foldedSetIterable iter X.env x = pure x := by intro _; rfl) : DS X E (.For tg iter body [] pos) (sFor mi t b) := PSto (ps_for hp hc hi hg hb hs) fun D σ H ⟨ε, s, μ, hε, hr, h⟩ => by
  refine ⟨ε, s, μ, hε, hr, ?_⟩
  have h : SO X.K X.mg E μ H ((mi ε s).to fun w s1 => loop w.2 t b w.1 ε s1) D := h
  cases q : mi ε s with
  | exc c f d s1 =>
    rw [q] at h
    exact h
  | bad =>
    rw [q] at h
    exact h.elim
  | ok w s1 =>
    rw [q] at h
    intro μ1 H1 J f1 r1 g1 hJ
    have h1 : SO X.K X.mg E μ1 H1 (loop w.2 t b w.1 ε s1) D := SO.fw (o := loop w.2 t b w.1 ε s1) h f1
    refine ⟨fun i m σ H => m = w.1.length - i ∧ i ≤ w.1.length ∧ ∃ ε s μ, Fw X.K μ1 H1 μ H ∧ REnv X.K X.mg μ H ε σ ∧ Rel X.K X.mg μ s H ∧ SO X.K X.mg E μ H (loop w.2 t b (w.1.drop i) ε s) D, ⟨w.1.length, by simp, Nat.zero_le _, ε, s1, μ1, Fw.refl, hε.fw f1, r1, h1⟩, ?_⟩
    rintro i m σ2 H2 ⟨rfl, hi, ε2, s2, μ2, f2, e2, r2, h2⟩
    by_cases hlt : i < w.1.length
    · have ed : w.1.drop i = w.1[i] :: w.1.drop (i + 1) := List.drop_eq_getElem_cons hlt
      rw [ed] at h2
      obtain ⟨hg2, h2⟩ := SO.ite h2
      have it := (hJ i μ2 s2 H2 f2 r2 hg2).2 w.1[i] (List.getElem?_eq_getElem hlt)
      refine .inr ⟨it.1, fun σ' H' => ∃ m', m' < w.1.length - i ∧ m' = w.1.length - (i + 1) ∧ i + 1 ≤ w.1.length ∧ ∃ ε s μ, Fw X.K μ1 H1 μ H' ∧ REnv X.K X.mg μ H' ε σ' ∧ Rel X.K X.mg μ s H' ∧ SO X.K X.mg E μ H' (loop w.2 t b (w.1.drop (i + 1)) ε s) D, fun σ' H' ⟨m', a, c⟩ => ⟨m', a, c⟩, fun x H' y => ?_⟩
      obtain ⟨rfl, rx⟩ := it.2 x H' y
      cases e1 : t w.1[i] ε2 with
      | none =>
        rw [e1] at h2
        exact h2.elim
      | some ε3 =>
        rw [e1] at h2
        refine ⟨w.1[i], ε2, s2, μ2, rx, e2, r2, ε3, e1, fun σ3 e3 => ⟨ε3, s2, μ2, e3, r2, ?_⟩⟩
        have h3 := h2
        have again : ∀ {ε' : Ev} {s' : S}, SO X.K X.mg E μ2 H' (loop w.2 t b (w.1.drop (i + 1)) ε' s') D → ∀ (μ' : List Addr) (H'' : Hp) (σ' : L2.St), Fw X.K μ2 H' μ' H'' → Rel X.K X.mg μ' s' H'' → REnv X.K X.mg μ' H'' ε' σ' →
            ∃ m', m' < w.1.length - i ∧ m' = w.1.length - (i + 1) ∧ i + 1 ≤ w.1.length ∧ ∃ ε s μ, Fw X.K μ1 H1 μ H'' ∧ REnv X.K X.mg μ H'' ε σ' ∧ Rel X.K X.mg μ s H'' ∧ SO X.K X.mg E μ H'' (loop w.2 t b (w.1.drop (i + 1)) ε s) D :=
          fun {ε' s'} hh μ' H'' σ' f r e => ⟨_, by omega, rfl, hlt, ε', s', μ', f2.trans f, e, r, SO.fw (o := loop w.2 t b (w.1.drop (i + 1)) ε' s') hh f⟩
        cases e4 : b ε3 s2 with
        | nx ε4 s4 =>
          simp only [e4] at h3
          exact again h3
        | ct ε4 s4 =>
          simp only [e4] at h3
          exact again h3
        | bk ε4 s4 =>
          simp only [e4] at h3
          exact h3
        | rt d s4 =>
          simp only [e4] at h3
          exact h3
        | ex c f d s4 =>
          simp only [e4] at h3
          exact h3
        | bad =>
          simp only [e4] at h3
          exact h3.elim
    · have e : i = w.1.length := by omega
      subst e
      rw [List.drop_length] at h2
      obtain ⟨hg2, h2⟩ := SO.ite h2
      exact .inl ⟨(hJ _ μ2 s2 H2 f2 r2 hg2).1 (List.getElem?_eq_none (Nat.le_refl _)), h2 μ2 H2 σ2 Fw.refl r2 e2⟩

/-! ### while, so many turns at most -/
def whileK (c : M) (b : B) : Nat → B
  | 0, _, _ => .bad
  | n + 1, ε, s => (c ε s).to fun x s1 => match x with
    | .bl true => (match b ε s1 with
      | .nx ε2 s2 => whileK c b n ε2 s2
      | .ct ε2 s2 => whileK c b n ε2 s2
      | .bk ε2 s2 => .nx ε2 s2
      | .rt d s2 => .rt d s2
      | .ex c f d s2 => .ex c f d s2
      | .bad => .bad)
    | .bl false => .nx ε s1
    | _ => .bad
theorem s_while (n : Nat) {c : Expr} {body : List Stmt} {m : M} {b : B} (hp : PassesOwn (model X.prog X.w) X.A X.env X.xe) (hc : DT X E c m) (hb : DB X E body b) : DS X E (.While c body [] pos) (whileK m b n) := PSto (ps_while hp hc hb) fun D σ H ⟨ε, s, μ, hε, hr, h⟩ => by
  refine ⟨fun n σ H => ∃ ε s μ, REnv X.K X.mg μ H ε σ ∧ Rel X.K X.mg μ s H ∧ SO X.K X.mg E μ H (whileK m b n ε s) D, ⟨n, ε, s, μ, hε, hr, h⟩, ?_⟩
  rintro n σ1 H1 ⟨ε1, s1, μ1, e1, r1, h1⟩
  cases n with
  | zero => exact h1.elim
  | succ n =>
    refine ⟨ε1, s1, μ1, e1, r1, SO.toB (r := m ε1 s1) h1 (fun d s2 q => ?_) fun k s2 μ2 H2 f2 r2 q => ?_⟩
    · cases d with
      | bl k => exact ⟨k, rfl⟩
      | _ => exact q.elim
    · cases k with
      | false =>
        rw [if_neg Bool.false_ne_true]
        exact q μ2 H2 σ1 Fw.refl r2 (e1.fw f2)
      | true =>
        rw [if_pos rfl]
        refine ⟨fun σ' H' => ∃ ε s μ, REnv X.K X.mg μ H' ε σ' ∧ Rel X.K X.mg μ s H' ∧ SO X.K X.mg E μ H' (whileK m b n ε s) D, fun σ' H' z => ⟨n, Nat.lt_succ_self n, z⟩, ε1, s2, μ2, e1.fw f2, r2, ?_⟩
        have again : ∀ {ε' : Ev} {s' : S}, SO X.K X.mg E μ2 H2 (whileK m b n ε' s') D → ∀ (μ' : List Addr) (H'' : Hp) (σ' : L2.St), Fw X.K μ2 H2 μ' H'' → Rel X.K X.mg μ' s' H'' → REnv X.K X.mg μ' H'' ε' σ' →
            ∃ ε s μ, REnv X.K X.mg μ H'' ε σ' ∧ Rel X.K X.mg μ s H'' ∧ SO X.K X.mg E μ H'' (whileK m b n ε s) D := fun {ε' s'} hh μ' H'' σ' f r e => ⟨ε', s', μ', e, r, SO.fw (o := whileK m b n ε' s') hh f⟩
        have h3 := q
        cases e4 : b ε1 s2 with
        | nx ε4 s4 =>
          simp only [e4] at h3
          exact again h3
        | ct ε4 s4 =>
          simp only [e4] at h3
          exact again h3
        | bk ε4 s4 =>
          simp only [e4] at h3
          exact h3
        | rt d s4 =>
          simp only [e4] at h3
          exact h3
        | ex c f d s4 =>
          simp only [e4] at h3
          exact h3
        | bad =>
          simp only [e4] at h3
          exact h3.elim
end
end Mi
namespace Mi
open PySem PySem.Spec PyProof.Rows L2

/-! ### [e for x in ..], [e for x in .. if c]: x in slot i -/
def yesM : M := fun _ s => .ok (.bl true) s
open Classical in
noncomputable def lcL (g : Option (Nat × C)) (i : Nat) (c m : M) (ε : Ev) : List D → List D → S → R (List D)
  | [], acc, s => if Gd g s then .ok acc s else .bad
  | d :: ds, acc, s => if Gd g s then (match c ((ε.set i none).set i (some d)) s with
      | .ok (.bl true) s1 => (match m ((ε.set i none).set i (some d)) s1 with
        | .ok y s2 => if acc.length < sizeLine then lcL g i c m ε ds (acc ++ [y]) s2 else .bad
        | _ => .bad)
      | .ok (.bl false) s1 => lcL g i c m ε ds acc s1
      | _ => .bad) else .bad
noncomputable def mLc (mi : Ev → S → R Walked) (i : Nat) (c m : M) : M := fun ε s => (mi ε s).bind fun w s1 => (lcL w.2 i c m ε w.1 [] s1).bind fun ys s2 => .ok (.ref s2.length) (s2 ++ [C.lst ys])
theorem sat_ite {α : Type} {c : Prop} [Decidable c] {r : R α} {ok : α → S → Prop} {ex : Str → Str → D → S → Prop} (h : (if c then r else .bad).sat ok ex) : c ∧ r.sat ok ex := by
  by_cases q : c
  · rw [if_pos q] at h
    exact ⟨q, h⟩
  · rw [if_neg q] at h
    exact h.elim
open Classical in
theorem lcL_exc (g : Option (Nat × C)) (i : Nat) (c m : M) (ε : Ev) : ∀ (ds acc : List D) (s : S) (c' f' : Str) (d' : D) (s' : S), lcL g i c m ε ds acc s ≠ .exc c' f' d' s'
  | [], acc, s, c', f', d', s', h => by
    unfold lcL at h
    split at h <;> cases h
  | d :: ds, acc, s, c', f', d', s', h => by
    unfold lcL at h
    split at h
    · split at h
      · split at h
        · split at h
          · exact lcL_exc g i c m ε ds _ _ _ _ _ _ h
          · cases h
        · cases h
      · exact lcL_exc g i c m ε ds _ _ _ _ _ _ h
      · cases h
    · cases h
section
variable {X : Cx} {E : XK} {pos : Pos}
theorem wipe_set (σ : L2.St) (i : Nat) (v : Option V) : wipe ((wipe σ [i]).set i v) [i] = wipe σ [i] := by
  show ((σ.set i none).set i v).set i none = σ.set i none
  rw [List.set_set, List.set_set]
open Classical in
theorem lc_all {K : PySem.W.Frag} {mg : Str → Option Value} {mi : Ev → S → R Walked} {i : Nat} {c m : M} {tt : TT} (htt : ∀ σ H Q, tT K mg E0 c σ H Q → tt σ H Q) {σ : L2.St} {H : Hp} {Q : VK} (h : tM K mg E (mLc mi i c m) σ H Q) : tLc (tI K mg E mi) (gName i) tt (tM K mg E0 m) [i] σ H Q := by
  obtain ⟨ε, s, μ, hε, hr, h⟩ := h
  refine ⟨ε, s, μ, hε, hr, h.bind.imp (fun w s1 q => ?_) fun _ _ _ _ k => k⟩
  intro μ1 H1 J f1 r1 g1 hJ Dl hD
  have f2 : Fw K μ1 H1 μ1 (upd H1 Dl (.lst [])) := Fw.new0 hD
  have nD : Dl ∉ μ1 := r1.notC hD
  have q1 : (lcL w.2 i c m ε w.1 [] s1).sat (fun ys s2 => PO K mg E μ1 H1 (.ok (.ref s2.length) (s2 ++ [C.lst ys])) Q) (fun _ _ _ _ => False) := by
    have q0 : ((lcL w.2 i c m ε w.1 [] s1).bind fun ys s2 => R.ok (D.ref s2.length) (s2 ++ [C.lst ys])).sat _ _ := q
    cases e : lcL w.2 i c m ε w.1 [] s1 with
    | ok ys s2 =>
      rw [e] at q0
      exact PO.fw (r := .ok (.ref s2.length) (s2 ++ [C.lst ys])) q0 f1
    | exc c' f' d' s2 => exact absurd e (lcL_exc _ _ _ _ _ _ _ _ _ _ _ _)
    | bad =>
      rw [e] at q0
      exact q0.elim
  refine ⟨fun j n H => n = w.1.length - j ∧ j ≤ w.1.length ∧ ∃ s μ acc vacc, Fw K μ1 H1 μ H ∧ Rel K mg μ s H ∧ Dl ∉ μ ∧ H Dl = some (.lst vacc) ∧ RVs K mg μ H acc vacc ∧ (lcL w.2 i c m ε (w.1.drop j) acc s).sat (fun ys s2 => PO K mg E μ1 H1 (.ok (.ref s2.length) (s2 ++ [C.lst ys])) Q) (fun _ _ _ _ => False),
    ⟨w.1.length, by simp, Nat.zero_le _, s1, μ1, [], [], f2, r1.new0 hD, nD, upd_same, .nil, q1⟩, ?_⟩
  rintro j n H2 ⟨rfl, hj, s2, μ2, acc, vacc, g2, r2, n2, hd2, ra, q2⟩
  have hε2 : REnv K mg μ2 H2 ε σ := (hε.fw f1).fw g2
  by_cases hlt : j < w.1.length
  · have ed : w.1.drop j = w.1[j] :: w.1.drop (j + 1) := List.drop_eq_getElem_cons hlt
    rw [ed] at q2
    obtain ⟨hg2, q2⟩ := sat_ite q2
    have it := (hJ j μ2 s2 H2 g2 r2 hg2).2 w.1[j] (List.getElem?_eq_getElem hlt)
    refine .inr ⟨it.1, fun H' => ∃ m', m' < w.1.length - j ∧ m' = w.1.length - (j + 1) ∧ j + 1 ≤ w.1.length ∧ ∃ s μ acc vacc, Fw K μ1 H1 μ H' ∧ Rel K mg μ s H' ∧ Dl ∉ μ ∧ H' Dl = some (.lst vacc) ∧ RVs K mg μ H' acc vacc ∧ (lcL w.2 i c m ε (w.1.drop (j + 1)) acc s).sat (fun ys s2 => PO K mg E μ1 H1 (.ok (.ref s2.length) (s2 ++ [C.lst ys])) Q) (fun _ _ _ _ => False), fun H' ⟨m', a, z⟩ => ⟨m', a, z⟩, fun x H' y => ?_⟩
    obtain ⟨rfl, rx⟩ := it.2 x H' y
    refine ⟨wipe_set σ i _, htt _ _ _ ?_⟩
    have he3 : REnv K mg μ2 H' ((ε.set i none).set i (some w.1[j])) ((wipe σ [i]).set i (some x)) := (hε2.forget i none).set i rx
    refine ⟨_, s2, μ2, he3, r2, ?_⟩
    cases ec : c ((ε.set i none).set i (some w.1[j])) s2 with
    | exc _ _ _ _ =>
      rw [ec] at q2
      exact q2.elim
    | bad =>
      rw [ec] at q2
      exact q2.elim
    | ok d s3 =>
      rw [ec] at q2
      cases d with
      | bl b =>
        refine ⟨b, rfl, fun μ3 H3 f3 r3 => ?_⟩
        obtain ⟨hd3, n3⟩ := f3.keep Dl _ hd2 n2
        cases b with
        | false =>
          rw [if_neg Bool.false_ne_true]
          exact ⟨_, by omega, rfl, hlt, s3, μ3, acc, vacc, g2.trans f3, r3, n3, hd3, ra.fw f3, q2⟩
        | true =>
          rw [if_pos rfl]
          refine ⟨_, s3, μ3, he3.fw f3, r3, ?_⟩
          have q3 : (match m ((ε.set i none).set i (some w.1[j])) s3 with
            | .ok y s2 => if acc.length < sizeLine then lcL w.2 i c m ε (w.1.drop (j + 1)) (acc ++ [y]) s2 else .bad
            | _ => .bad).sat (fun ys s2 => PO K mg E μ1 H1 (.ok (.ref s2.length) (s2 ++ [C.lst ys])) Q) (fun _ _ _ _ => False) := q2
          cases em : m ((ε.set i none).set i (some w.1[j])) s3 with
          | exc _ _ _ _ =>
            rw [em] at q3
            exact q3.elim
          | bad =>
            rw [em] at q3
            exact q3.elim
          | ok y s4 =>
            rw [em] at q3
            obtain ⟨hz, q4⟩ := sat_ite q3
            intro μ4 H4 v f4 r4 rv
            obtain ⟨hd4, n4⟩ := f4.keep Dl _ hd3 n3
            have ra4 := (ra.fw f3).fw f4
            refine ⟨vacc, hd4, by rw [← ra4.length]; exact hz, _, by omega, rfl, hlt, s4, μ4, acc ++ [y], vacc ++ [v], ((g2.trans f3).trans f4).off hD hd4, r4.off hd4 n4, n4, upd_same, ?_, q4⟩
            exact (ra4.append (.cons rv .nil)).mono (fun _ _ h => h) (fun _ _ h => sqT_wr hd4 h) (fun _ _ h => h.wr hd4) (xd_wr hd4)
      | _ => exact q2.elim
  · have e : j = w.1.length := by omega
    subst e
    rw [List.drop_length] at q2
    obtain ⟨hg2, q2⟩ := sat_ite q2
    refine .inl ⟨(hJ _ μ2 s2 H2 g2 r2 hg2).1 (List.getElem?_eq_none (Nat.le_refl _)), ?_⟩
    exact q2 (μ2 ++ [Dl]) H2 (.ref Dl) (g2.adopt hD) (r2.adopt hd2 n2 ra) (.ref (by rw [List.getElem?_append_right (by rw [r2.len]; exact Nat.le_refl _), r2.len, Nat.sub_self] <;> rfl))
/-- as a value; as the value of a name -/
theorem d_lc {elt iter : Expr} {scope : Scope} {x : Str} {px : Pos} {i : Nat} {mi : Ev → S → R Walked} {m : M} (hc : X.calm = true) (hN : X.N.Nodup) (hi : DI X E (.Name x px) iter mi) (ok : blkC X.N X.env.scope scope [(x, i)] = true)
    (hg : ∀ (s : Shared) (H : Hp) (C : Addr) (cl : List (Str × Addr)) (fp : List Addr), PG (X.blk s H scope (compEnvC scope cl C X.env) fp) (.Name x px) (gName i))
    (he : ∀ (s : Shared) (H : Hp) (C : Addr) (cl : List (Str × Addr)) (fp : List Addr), DE (X.blk s H scope (compEnvC scope cl C X.env) fp) E0 elt m) (hs : ∀ x, foldedSetIterable iter X.env x = pure x := by intro _; rfl) :
    DE X E (.ListComp elt [⟨.Name x px, iter, [], 0⟩] scope pos) (mLc mi i yesM m) :=
  PEto (pe_lc (own := [(x, i)]) hc hN hi (blkOk_by ok) hg (fun _ _ _ _ _ => pts_nil) he hs) fun σ H Q h => lc_all (tt := tYes) (fun σ H Q ⟨ε, s, μ, _, hr, k⟩ => by
    obtain ⟨b, e, k⟩ := (show PB X.K X.mg E0 μ H (.ok (.bl true) s) Q from k)
    cases e
    exact k μ H Fw.refl hr) h
theorem d_lcIf {elt c iter : Expr} {scope : Scope} {x : Str} {px : Pos} {i : Nat} {mi : Ev → S → R Walked} {m mc : M} (hc : X.calm = true) (hN : X.N.Nodup) (hi : DI X E (.Name x px) iter mi) (ok : blkC X.N X.env.scope scope [(x, i)] = true)
    (hg : ∀ (s : Shared) (H : Hp) (C : Addr) (cl : List (Str × Addr)) (fp : List Addr), PG (X.blk s H scope (compEnvC scope cl C X.env) fp) (.Name x px) (gName i))
    (ht : ∀ (s : Shared) (H : Hp) (C : Addr) (cl : List (Str × Addr)) (fp : List Addr), DT (X.blk s H scope (compEnvC scope cl C X.env) fp) E0 c mc)
    (he : ∀ (s : Shared) (H : Hp) (C : Addr) (cl : List (Str × Addr)) (fp : List Addr), DE (X.blk s H scope (compEnvC scope cl C X.env) fp) E0 elt m) (hs : ∀ x, foldedSetIterable iter X.env x = pure x := by intro _; rfl) :
    DE X E (.ListComp elt [⟨.Name x px, iter, [c], 0⟩] scope pos) (mLc mi i mc m) :=
  PEto (pe_lc (own := [(x, i)]) hc hN hi (blkOk_by ok) hg (fun s H C cl fp => pts_one (ht s H C cl fp)) he hs) fun σ H Q h => lc_all (fun σ H Q k => k) h
theorem s_lc {elt iter : Expr} {scope : Scope} {x y : Str} {px py spos : Pos} {i j : Nat} {mi : Ev → S → R Walked} {m : M} (hc : X.calm = true) (hN : X.N.Nodup) (hi : DI X E (.Name x px) iter mi) (ok : blkC X.N X.env.scope scope [(x, i)] = true)
    (hg : ∀ (s : Shared) (H : Hp) (C : Addr) (cl : List (Str × Addr)) (fp : List Addr), PG (X.blk s H scope (compEnvC scope cl C X.env) fp) (.Name x px) (gName i))
    (he : ∀ (s : Shared) (H : Hp) (C : Addr) (cl : List (Str × Addr)) (fp : List Addr), DE (X.blk s H scope (compEnvC scope cl C X.env) fp) E0 elt m) (hy : X.N[j]? = some y) (hyl : X.env.scope.names.lookup y = some .local)
    (hsw : swapsWith (.ListComp elt [⟨.Name x px, iter, [], 0⟩] scope pos) (some (.Name y py)) spos.line X.env = pure true) (hs : ∀ x, foldedSetIterable iter X.env x = pure x := by intro _; rfl) :
    DS X E (.Assign [.Name y py] (.ListComp elt [⟨.Name x px, iter, [], 0⟩] scope pos) spos) (sSet j (mLc mi i yesM m)) :=
  PSto (ps_setLc (own := [(x, i)]) hc hN hy hyl hsw hi (blkOk_by ok) hg (fun _ _ _ _ _ => pts_nil) he hs) fun D σ H ⟨ε, s, μ, hε, hr, h⟩ => by
  refine lc_all (tt := tYes) (E := E) (c := yesM) (m := m) (mi := mi) (fun σ H Q ⟨ε, s, μ, _, hr, k⟩ => by
    obtain ⟨b, e, k⟩ := (show PB X.K X.mg E0 μ H (.ok (.bl true) s) Q from k)
    cases e
    exact k μ H Fw.refl hr) ⟨ε, s, μ, hε, hr, SO.to (r := mLc mi i yesM m ε s) h fun d s1 μ1 H1 v f1 r1 rv q => q μ1 H1 _ Fw.refl r1 ((hε.fw f1).set j rv)⟩
end
end Mi
namespace Mi
open PySem PySem.Spec PyProof.Rows L2

section
variable {K : PySem.W.Frag} {mg : Str → Option Value} {μ : List Addr} {H : Hp} {s : S} {E : XK} {Q : VK}
theorem Rel.at {k : Nat} {c : C} {a : Addr} (r : Rel K mg μ s H) (hs : s[k]? = some c) (hk : μ[k]? = some a) : COk K mg μ H a c := r.cell k c a hs hk
theorem PO.same {d : D} {v : V} (h : PO K mg E μ H (.ok d s) Q) (r : Rel K mg μ s H) (rv : RV K mg μ H d v) : Q v H := h μ H v Fw.refl r rv
theorem Rel.wrote {k : Nat} {a : Addr} {ds es : List D} {ws : List V} {d : D} {v : V} (h : PO K mg E μ H (.ok d (s.set k (.lst es))) Q) (r : Rel K mg μ s H) (hs : s[k]? = some (.lst ds)) (hk : μ[k]? = some a) (re : RVs K mg μ H es ws) (rv : RV K mg μ H d v) : Q v (upd H a (.lst ws)) := by
  obtain ⟨f, r'⟩ := r.write hk hs re
  exact h μ _ v f r' (rv.fw f)
end

/-! ### numbers -/
def oAdd : D → D → S → R D
  | .int i, .int j, s => .ok (.int (i + j)) s
  | .str x, .str y, s => if x.length + y.length ≤ sizeLine then .ok (.str (x ++ y)) s else .bad
  | .ref k, .ref l, s => match s[k]?, s[l]? with
    | some (.lst ds), some (.lst es) => if ds.length + es.length ≤ sizeLine then .ok (.ref s.length) (s ++ [C.lst (ds ++ es)]) else .bad
    | _, _ => .bad
  | _, _, _ => .bad
def rAdd : R2 := fun x y H Q => rI0 (fun i j => .int (i + j)) x y H Q ∨ (∃ i j, x = .str i ∧ y = .str j ∧ i.length + j.length ≤ sizeLine ∧ Q (.str (i ++ j)) H) ∨ rCat x y H Q
theorem or_add {X : Cx} : OpR X (binaryOp .Add) rAdd := OpR.or op_add (OpR.or op_add_str op_cat)
theorem os_add {K : PySem.W.Frag} {mg : Str → Option Value} : OpS K mg rAdd oAdd := fun E μ H s x y vx vy Q hr rx ry h => by
  cases rx with
  | int i =>
    cases ry with
    | int j => exact .inl ⟨i, j, rfl, rfl, PO.same h hr (.int _)⟩
    | _ => exact h.elim
  | str i =>
    cases ry with
    | str j =>
      obtain ⟨hl, h⟩ := PO.ite h
      exact .inr (.inl ⟨i, j, rfl, rfl, hl, PO.same h hr (.str _)⟩)
    | _ => exact h.elim
  | @ref k a hk =>
    cases ry with
    | @ref l b hl =>
      have h : PO K mg E μ H (match s[k]?, s[l]? with
        | some (.lst ds), some (.lst es) => if ds.length + es.length ≤ sizeLine then .ok (.ref s.length) (s ++ [C.lst (ds ++ es)]) else .bad
        | _, _ => .bad) Q := h
      split at h
      · rename_i ds es e1 e2
        obtain ⟨hz, h⟩ := PO.ite h
        obtain ⟨vs, h1, r1⟩ := hr.at e1 hk
        obtain ⟨ws, h2, r2⟩ := hr.at e2 hl
        exact .inr (.inr ⟨a, b, vs, ws, rfl, rfl, h1, h2, by rw [← r1.length, ← r2.length]; exact hz, fun p hp => PO.list h hr (r1.append r2) hp⟩)
      · exact h.elim
    | _ => exact h.elim
  | _ => exact h.elim
def oI (f : Int → Int → D) : D → D → S → R D
  | .int i, .int j, s => .ok (f i j) s
  | _, _, _ => .bad
open Classical in
noncomputable def oIC (c : Int → Int → Prop) (f : Int → Int → D) : D → D → S → R D
  | .int i, .int j, s => if c i j then .ok (f i j) s else .bad
  | _, _, _ => .bad
theorem os_I {K : PySem.W.Frag} {mg : Str → Option Value} {f : Int → Int → D} {g : Int → Int → V} (hf : ∀ i j μ H, RV K mg μ H (f i j) (g i j)) : OpS K mg (rI0 g) (oI f) := fun E μ H s x y vx vy Q hr rx ry h => by
  cases rx with
  | int i =>
    cases ry with
    | int j => exact ⟨i, j, rfl, rfl, PO.same h hr (hf i j μ H)⟩
    | _ => exact h.elim
  | _ => exact h.elim
open Classical in
theorem os_IC {K : PySem.W.Frag} {mg : Str → Option Value} {c : Int → Int → Prop} {f : Int → Int → D} {g : Int → Int → V} (hf : ∀ i j μ H, RV K mg μ H (f i j) (g i j)) : OpS K mg (rI c g) (oIC c f) := fun E μ H s x y vx vy Q hr rx ry h => by
  cases rx with
  | int i =>
    cases ry with
    | int j =>
      obtain ⟨hc, h⟩ := PO.ite h
      exact ⟨i, j, rfl, rfl, hc, PO.same h hr (hf i j μ H)⟩
    | _ => exact h.elim
  | _ => exact h.elim
def oSub : D → D → S → R D := oI fun i j => .int (i - j)
noncomputable def oMul : D → D → S → R D := oIC CMulW fun i j => .int (i * j)
noncomputable def oFdiv : D → D → S → R D := oIC CDivW fun i j => .int (i / j)
noncomputable def oMod : D → D → S → R D := oIC (fun _ j => 0 < j) fun i j => .int (i % j)
noncomputable def oPow : D → D → S → R D := oIC CPow fun i j => .int (i ^ j.toNat)
def oLt : D → D → S → R D := oI fun i j => .bl (decide (i < j))
def oLe : D → D → S → R D := oI fun i j => .bl (decide (i ≤ j))
def oGt : D → D → S → R D := oI fun i j => .bl (decide (j < i))
def oGe : D → D → S → R D := oI fun i j => .bl (decide (j ≤ i))

/-! ### == and != of data at any depth -/
def allPy (f : D → Option PyData) : List D → Option (List PyData)
  | [] => some []
  | d :: ds => match f d, allPy f ds with
    | some p, some ps => some (p :: ps)
    | _, _ => none
def cellPy (f : D → Option PyData) : Option C → Option PyData
  | some (.lst ds) => (allPy f ds).map .list
  | _ => none
def toPy (s : S) : Nat → D → Option PyData
  | 0, _ => none
  | n + 1, d => match d with
    | .non => some .none
    | .bl b => some (.bool b)
    | .int i => some (.int i)
    | .str x => some (.str x)
    | .tup ds => (allPy (toPy s n) ds).map .tuple
    | .frl ds => (allPy (toPy s n) ds).map .list
    | .ref k => cellPy (toPy s n) s[k]?
    | _ => none
theorem allPy_dp {K : PySem.W.Frag} {mg : Str → Option Value} {μ : List Addr} {H : Hp} {f : D → Option PyData} (hf : ∀ d v p, RV K mg μ H d v → f d = some p → Dp K H v p) : ∀ (ds : List D) (vs : List V) (ps : List PyData), RVs K mg μ H ds vs → allPy f ds = some ps → DpAll K H vs ps
  | [], _, ps, .nil, e => by
    cases e
    exact .nil
  | d :: ds, _, ps, .cons r rs, e => by
    unfold allPy at e
    split at e
    · rename_i p qs e1 e2
      cases e
      exact .cons (hf _ _ _ r e1) (allPy_dp hf ds _ qs rs e2)
    · cases e
theorem toPy_dp {K : PySem.W.Frag} {mg : Str → Option Value} {μ : List Addr} {H : Hp} {s : S} (hr : Rel K mg μ s H) : ∀ (n : Nat) (d : D) (v : V) (p : PyData), RV K mg μ H d v → toPy s n d = some p → Dp K H v p
  | 0, _, _, _, _, e => by cases e
  | n + 1, d, v, p, r, e => by
    have ih := toPy_dp hr n
    cases r with
    | non => cases e; exact .non
    | bl b => cases e; exact .bl b
    | int i => cases e; exact .int i
    | str x => cases e; exact .str x
    | ty n => cases e
    | fn h => cases e
    | exn _ _ _ => cases e
    | @tup ds q vs hq rs =>
      obtain ⟨ps, e1, rfl⟩ := Option.map_eq_some_iff.mp (show (allPy (toPy s n) ds).map PyData.tuple = some p from e)
      exact .tup hq (allPy_dp ih ds vs ps rs e1)
    | @frl ds q vs hq rs =>
      obtain ⟨ps, e1, rfl⟩ := Option.map_eq_some_iff.mp (show (allPy (toPy s n) ds).map PyData.list = some p from e)
      exact .lst hq.seq (allPy_dp ih ds vs ps rs e1)
    | @ref k a hk =>
      have e : cellPy (toPy s n) s[k]? = some p := e
      cases g : s[k]? with
      | none =>
        rw [g] at e
        cases e
      | some c =>
        rw [g] at e
        cases c with
        | dic kvs => cases e
        | lst ds =>
          obtain ⟨ps, e1, rfl⟩ := Option.map_eq_some_iff.mp (show (allPy (toPy s n) ds).map PyData.list = some p from e)
          obtain ⟨vs, hv, rs⟩ := hr.at g hk
          exact .lst (SqL.of hv) (allPy_dp ih ds vs ps rs e1)
def eqPy (x y : D) (s : S) : Option Bool := match toPy s 66 x, toPy s 66 y with
  | some p, some q => if SeqAt.shaped p = true ∧ SeqAt.shaped q = true then some (PyData.eqv p q) else none
  | _, _ => none
def oEq (x y : D) (s : S) : R D := match eqPy x y s with
  | some b => .ok (.bl b) s
  | none => .bad
def oNe (x y : D) (s : S) : R D := match eqPy x y s with
  | some b => .ok (.bl (!b)) s
  | none => .bad
theorem eqPy_dp {K : PySem.W.Frag} {mg : Str → Option Value} {μ : List Addr} {H : Hp} {s : S} {x y : D} {vx vy : V} {b : Bool} (hr : Rel K mg μ s H) (rx : RV K mg μ H x vx) (ry : RV K mg μ H y vy) (h : eqPy x y s = some b) :
    ∃ d e, Dp K H vx d ∧ Dp K H vy e ∧ SeqAt.shaped d = true ∧ SeqAt.shaped e = true ∧ PyData.eqv d e = b := by
  unfold eqPy at h
  split at h
  · rename_i p q e1 e2
    split at h
    · rename_i hs
      cases h
      exact ⟨p, q, toPy_dp hr _ _ _ _ rx e1, toPy_dp hr _ _ _ _ ry e2, hs.1, hs.2, rfl⟩
    · cases h
  · cases h
theorem os_eq {K : PySem.W.Frag} {mg : Str → Option Value} : OpS K mg (rEqD K) oEq := fun E μ H s x y vx vy Q hr rx ry h => by
  unfold oEq at h
  split at h
  · rename_i b e
    obtain ⟨p, q, h1, h2, h3, h4, rfl⟩ := eqPy_dp hr rx ry e
    exact ⟨p, q, h1, h2, h3, h4, PO.same h hr (.bl _)⟩
  · exact h.elim
theorem os_ne {K : PySem.W.Frag} {mg : Str → Option Value} : OpS K mg (rNeD K) oNe := fun E μ H s x y vx vy Q hr rx ry h => by
  unfold oNe at h
  split at h
  · rename_i b e
    obtain ⟨p, q, h1, h2, h3, h4, rfl⟩ := eqPy_dp hr rx ry e
    exact ⟨p, q, h1, h2, h3, h4, PO.same h hr (.bl _)⟩
  · exact h.elim

/-! ### is None, is False, is True -/
def isN : D → Bool
  | .non => true
  | _ => false
def isB (b : Bool) : D → Bool
  | .bl c => c == b
  | _ => false
def oIs : D → D → S → R D
  | x, .non, s => .ok (.bl (isN x)) s
  | x, .bl b, s => .ok (.bl (isB b x)) s
  | _, _, _ => .bad
def oIsNot : D → D → S → R D
  | x, .non, s => .ok (.bl (!isN x)) s
  | x, .bl b, s => .ok (.bl (!isB b x)) s
  | _, _, _ => .bad
def vIsB (b : Bool) : V → Bool
  | .bl c => c == b
  | _ => false
theorem is_bool_gen {M : Model} {A : Around} {E : Value → Shared → Prop} {s : Shared} {Q : Value → Shared → Prop} {x : V} {v : Value} {b : Bool} (r : RelV x v) (h : Q (.bool (v == .bool b)) s) : wpAny M A (compareOp .Is v (.bool b)) Q E s := by
  cases x with
  | int _ => obtain ⟨t, rfl⟩ := r; exact wpAny_pure h
  | str _ => obtain ⟨t, rfl⟩ := r; exact wpAny_pure h
  | byt _ => obtain ⟨t, rfl⟩ := r; exact wpAny_pure h
  | flt _ => obtain ⟨t, rfl⟩ := r; exact wpAny_pure h
  | _ => cases r; exact wpAny_pure h
theorem isnot_bool_gen {M : Model} {A : Around} {E : Value → Shared → Prop} {s : Shared} {Q : Value → Shared → Prop} {x : V} {v : Value} {b : Bool} (r : RelV x v) (h : Q (.bool (!(v == .bool b))) s) : wpAny M A (compareOp .IsNot v (.bool b)) Q E s := by
  cases x with
  | int _ => obtain ⟨t, rfl⟩ := r; exact wpAny_pure h
  | str _ => obtain ⟨t, rfl⟩ := r; exact wpAny_pure h
  | byt _ => obtain ⟨t, rfl⟩ := r; exact wpAny_pure h
  | flt _ => obtain ⟨t, rfl⟩ := r; exact wpAny_pure h
  | _ => cases r; exact wpAny_pure h
theorem relV_bool {x : V} {v : Value} {b : Bool} (r : RelV x v) : (v == Value.bool b) = vIsB b x := by
  cases x with
  | non => cases r; rfl
  | bl c =>
    cases r
    show (Value.bool c == Value.bool b) = (c == b)
    cases c <;> cases b <;> rfl
  | int _ => obtain ⟨t, rfl⟩ := r; rfl
  | str _ => obtain ⟨t, rfl⟩ := r; rfl
  | byt _ => obtain ⟨t, rfl⟩ := r; rfl
  | flt _ => obtain ⟨t, rfl⟩ := r; rfl
  | ref _ => cases r; rfl
  | ty _ => cases r; rfl
def rIs : R2 := fun x y H Q => (y = .non ∧ Q (.bl (decide (x = .non))) H) ∨ ∃ b, y = .bl b ∧ Q (.bl (vIsB b x)) H
def rIsNot : R2 := fun x y H Q => (y = .non ∧ Q (.bl (!decide (x = .non))) H) ∨ ∃ b, y = .bl b ∧ Q (.bl (!vIsB b x)) H
theorem or_is {X : Cx} : OpR X (compareOp .Is) rIs := OpR.or op_isN fun pins s σ H x y v u Q I rx ry h => by
  obtain ⟨b, rfl, q⟩ := h
  cases (show u = Value.bool b from ry)
  exact is_bool_gen rx (fin_bl I q (relV_bool rx).symm)
theorem or_isNot {X : Cx} : OpR X (compareOp .IsNot) rIsNot := OpR.or op_notN fun pins s σ H x y v u Q I rx ry h => by
  obtain ⟨b, rfl, q⟩ := h
  cases (show u = Value.bool b from ry)
  exact isnot_bool_gen rx (fin_bl I q (by rw [relV_bool rx]))
theorem isN_v {K : PySem.W.Frag} {mg : Str → Option Value} {μ : List Addr} {H : Hp} {d : D} {v : V} (r : RV K mg μ H d v) : decide (v = .non) = isN d := by
  cases r <;> rfl
theorem isB_v {K : PySem.W.Frag} {mg : Str → Option Value} {μ : List Addr} {H : Hp} {d : D} {v : V} {b : Bool} (r : RV K mg μ H d v) : vIsB b v = isB b d := by
  cases r <;> rfl
theorem os_is {K : PySem.W.Frag} {mg : Str → Option Value} : OpS K mg rIs oIs := fun E μ H s x y vx vy Q hr rx ry h => by
  cases ry with
  | non => exact .inl ⟨rfl, by rw [isN_v rx]; exact PO.same h hr (.bl _)⟩
  | bl b => exact .inr ⟨b, rfl, by rw [isB_v rx]; exact PO.same h hr (.bl _)⟩
  | _ => cases rx <;> exact h.elim
theorem os_isNot {K : PySem.W.Frag} {mg : Str → Option Value} : OpS K mg rIsNot oIsNot := fun E μ H s x y vx vy Q hr rx ry h => by
  cases ry with
  | non => exact .inl ⟨rfl, by rw [isN_v rx]; exact PO.same h hr (.bl _)⟩
  | bl b => exact .inr ⟨b, rfl, by rw [isB_v rx]; exact PO.same h hr (.bl _)⟩
  | _ => cases rx <;> exact h.elim

/-! ### in, not in: a sign, a text in a text; an item in a list, a tuple of flat values -/
def inStr (i j : Str) : Bool := !(Builtin.Str.occurrences j i 0 j.length 1).isEmpty
def oInS : D → D → S → R D
  | .str i, .str j, s => .ok (.bl (inStr i j)) s
  | _, _, _ => .bad
def oNotInS : D → D → S → R D
  | .str i, .str j, s => .ok (.bl (!inStr i j)) s
  | _, _, _ => .bad
theorem os_inS {K : PySem.W.Frag} {mg : Str → Option Value} : OpS K mg (fun x y H Q => ∃ i j, x = .str i ∧ y = .str j ∧ Q (.bl (!(Builtin.Str.occurrences j i 0 j.length 1).isEmpty)) H) oInS := fun E μ H s x y vx vy Q hr rx ry h => by
  cases rx with
  | str i =>
    cases ry with
    | str j => exact ⟨i, j, rfl, rfl, PO.same h hr (.bl _)⟩
    | _ => exact h.elim
  | _ => exact h.elim
theorem os_notInS {K : PySem.W.Frag} {mg : Str → Option Value} : OpS K mg (fun x y H Q => ∃ i j, x = .str i ∧ y = .str j ∧ Q (.bl (!(!(Builtin.Str.occurrences j i 0 j.length 1).isEmpty))) H) oNotInS := fun E μ H s x y vx vy Q hr rx ry h => by
  cases rx with
  | str i =>
    cases ry with
    | str j => exact ⟨i, j, rfl, rfl, PO.same h hr (.bl _)⟩
    | _ => exact h.elim
  | _ => exact h.elim

/-! ### a[i], a[lo:hi], a[i] = v -/
def getD : Option D → S → R D
  | some d, s => .ok d s
  | none, _ => .bad
def ixCell (i : Int) : Option C → S → R D
  | some (.lst ds), s => getD (atI ds i) s
  | _, _ => .bad
def oIx : D → D → S → R D
  | .ref k, .int i, s => ixCell i s[k]? s
  | .tup ds, .int i, s => getD (atI ds i) s
  | .frl ds, .int i, s => getD (atI ds i) s
  | .str x, .int i, s => if x.length ≤ sizeLine then (match atI x.cps.toList i with
    | some c => .ok (.str ⟨#[c]⟩) s
    | none => .bad) else .bad
  | _, _, _ => .bad
theorem atI_rv {K : PySem.W.Frag} {mg : Str → Option Value} {μ : List Addr} {H : Hp} {ds : List D} {vs : List V} {i : Int} {d : D} (rs : RVs K mg μ H ds vs) (h : atI ds i = some d) : ∃ v, atI vs i = some v ∧ RV K mg μ H d v := by
  unfold atI at h ⊢
  rw [← rs.length]
  cases e : ixN ds.length i with
  | none =>
    rw [e] at h
    cases h
  | some j =>
    rw [e] at h
    exact rs.get h
theorem os_ix {K : PySem.W.Frag} {mg : Str → Option Value} : OpS K mg (rIx K) oIx := fun E μ H s x y vx vy Q hr rx ry h => by
  cases ry with
  | int i =>
    cases rx with
    | @ref k a hk =>
      have h : PO K mg E μ H (ixCell i s[k]? s) Q := h
      cases g : s[k]? with
      | none =>
        rw [g] at h
        exact h.elim
      | some c =>
        rw [g] at h
        cases c with
        | dic kvs => exact h.elim
        | lst ds =>
          have h : PO K mg E μ H (getD (atI ds i) s) Q := h
          cases e : atI ds i with
          | none =>
            rw [e] at h
            exact h.elim
          | some d =>
            rw [e] at h
            obtain ⟨vs, hv, rs⟩ := hr.at g hk
            obtain ⟨v, h1, h2⟩ := atI_rv rs e
            exact .inl ⟨a, vs, i, v, rfl, rfl, SqL.of hv, h1, PO.same h hr h2⟩
    | @tup ds p vs hq rs =>
      have h : PO K mg E μ H (getD (atI ds i) s) Q := h
      cases e : atI ds i with
      | none =>
        rw [e] at h
        exact h.elim
      | some d =>
        rw [e] at h
        obtain ⟨v, h1, h2⟩ := atI_rv rs e
        exact .inr (.inl ⟨p, vs, i, v, rfl, rfl, hq, h1, PO.same h hr h2⟩)
    | @frl ds p vs hq rs =>
      have h : PO K mg E μ H (getD (atI ds i) s) Q := h
      cases e : atI ds i with
      | none =>
        rw [e] at h
        exact h.elim
      | some d =>
        rw [e] at h
        obtain ⟨v, h1, h2⟩ := atI_rv rs e
        exact .inl ⟨p, vs, i, v, rfl, rfl, hq.seq, h1, PO.same h hr h2⟩
    | str x =>
      obtain ⟨hz, h⟩ := PO.ite (show PO K mg E μ H (if x.length ≤ sizeLine then (match atI x.cps.toList i with
        | some c => .ok (.str ⟨#[c]⟩) s
        | none => .bad) else .bad) Q from h)
      cases e : atI x.cps.toList i with
      | none =>
        rw [e] at h
        exact h.elim
      | some c =>
        rw [e] at h
        exact .inr (.inr ⟨x, i, c, rfl, rfl, hz, e, PO.same h hr (.str _)⟩)
    | _ => exact h.elim
  | _ => cases rx <;> exact h.elim
/-- an optional part of a slice -/
abbrev MO := Ev → S → R (Option Int)
def pNo : MO := fun _ s => .ok none s
def pAt (m : M) : MO := fun ε s => (m ε s).bind fun d s1 => match d with
  | .int i => .ok (some i) s1
  | _ => .bad
def tO (K : PySem.W.Frag) (mg : Str → Option Value) (E : XK) (m : MO) : TO := fun σ H Q => ∃ ε s μ, REnv K mg μ H ε σ ∧ Rel K mg μ s H ∧
  (m ε s).sat (fun o s' => ∀ (μ' : List Addr) (H' : Hp), Fw K μ H μ' H' → Rel K mg μ' s' H' → Q o H') (Ex K mg E μ H)
abbrev DO (X : Cx) (E : XK) (e : Option Expr) (m : MO) : Prop := L2.PO X e (tO X.K X.mg E m)
end Mi
namespace Mi
open PySem PySem.Spec PyProof.Rows L2

/-! ### slices -/
def cutD (xs : List D) (lo hi : Option Int) : List D := (xs.drop (HT.sIx xs.length 0 lo)).take (HT.sIx xs.length xs.length hi - HT.sIx xs.length 0 lo)
def slCell (lo hi : Option Int) : Option C → S → R D
  | some (.lst ds), s => .ok (.ref s.length) (s ++ [C.lst (cutD ds lo hi)])
  | _, _ => .bad
def oSl : D → Option Int → Option Int → S → R D
  | .ref k, lo, hi, s => slCell lo hi s[k]? s
  | .frl ds, lo, hi, s => .ok (.ref s.length) (s ++ [C.lst (cutD ds lo hi)])
  | .tup ds, lo, hi, s => .ok (.tup (cutD ds lo hi)) s
  | .str x, lo, hi, s => if x.length ≤ sizeLine then .ok (.str (cutS x lo hi)) s else .bad
  | _, _, _, _ => .bad
def mSl (m : M) (a b : MO) : M := fun ε s => (m ε s).bind fun x s1 => (a ε s1).bind fun lo s2 => (b ε s2).bind fun hi s3 => oSl x lo hi s3
def rSlAny (K : PySem.W.Frag) : V → Option Int → Option Int → Hp → VK → Prop := fun x lo hi H Q => rSlL K x lo hi H Q ∨ rSlA K x lo hi H Q ∨ rSlS x lo hi H Q
section
variable {X : Cx} {E : XK} {pos : Pos} {e a b c : Expr} {m ma mb mc : M} {es : List Expr} {ms : Ev → S → R (List D)}
theorem sl_any : SlR X (rSlAny X.K) := SlR.or sl_list (SlR.or sl_tupA sl_str)
theorem p_no : DO X E none pNo := by
  refine ⟨fun pins s σ H Q I h => po_none.run pins s σ H Q I ?_⟩
  obtain ⟨ε, s, μ, he, hr, h⟩ := h
  exact h μ H Fw.refl hr
theorem p_at (h : DE X E e m) : DO X E (some e) (pAt m) := by
  refine ⟨fun pins s σ H Q I hq => (po_some h).run pins s σ H Q I ?_⟩
  obtain ⟨ε, s, μ, he, hr, hq⟩ := hq
  refine ⟨ε, s, μ, he, hr, PO.seq (g := fun d s1 => match d with
    | .int i => R.ok (some i) s1
    | _ => .bad) hq fun d s1 μ1 H1 v f1 r1 rv q => ?_⟩
  cases rv with
  | int i => exact ⟨i, rfl, q μ1 H1 f1 r1⟩
  | _ => exact q.elim
theorem cut_rv {K : PySem.W.Frag} {mg : Str → Option Value} {μ : List Addr} {H : Hp} {ds : List D} {vs : List V} (rs : RVs K mg μ H ds vs) (lo hi : Option Int) : RVs K mg μ H (cutD ds lo hi) (cutV vs lo hi) := by
  unfold cutD cutV
  rw [rs.length]
  exact (rs.drop _).take _
theorem satO_fw {K : PySem.W.Frag} {mg : Str → Option Value} {μ μ' : List Addr} {H H' : Hp} {r : R (Option Int)} {Q : Option Int → Hp → Prop} (h : r.sat (fun o s' => ∀ (μ' : List Addr) (H' : Hp), Fw K μ H μ' H' → Rel K mg μ' s' H' → Q o H') (Ex K mg E μ H)) (f : Fw K μ H μ' H') :
    r.sat (fun o s' => ∀ (μ2 : List Addr) (H2 : Hp), Fw K μ' H' μ2 H2 → Rel K mg μ2 s' H2 → Q o H2) (Ex K mg E μ' H') := h.imp (fun _ _ k μ2 H2 f2 => k μ2 H2 (f.trans f2)) fun _ _ _ _ k => k.fw f
theorem seqO {α : Type} {K : PySem.W.Frag} {mg : Str → Option Value} {μ : List Addr} {H : Hp} {r : R (Option Int)} {g : Option Int → S → R α} {ok : α → S → Prop} {Q' : Option Int → Hp → Prop} (h : (r.bind g).sat ok (Ex K mg E μ H))
    (k : ∀ (d : Option Int) (s1 : S) (μ1 : List Addr) (H1 : Hp), Fw K μ H μ1 H1 → Rel K mg μ1 s1 H1 → (g d s1).sat ok (Ex K mg E μ H) → Q' d H1) : r.sat (fun o s' => ∀ (μ' : List Addr) (H' : Hp), Fw K μ H μ' H' → Rel K mg μ' s' H' → Q' o H') (Ex K mg E μ H) :=
  h.bind.imp (fun d s1 q μ1 H1 f1 r1 => k d s1 μ1 H1 f1 r1 q) fun _ _ _ _ q => q
theorem d_sl {lo hi : Option Expr} {p2 : Pos} {mlo mhi : MO} (he : DE X E e m) (hl : DO X E lo mlo) (hh : DO X E hi mhi) : DE X E (.Subscript e (.Slice lo hi none p2) pos) (mSl m mlo mhi) := PEto (pe_slice sl_any he hl hh) fun σ H Q ⟨ε, s, μ, hε, hr, h⟩ => by
  refine ⟨ε, s, μ, hε, hr, PO.seq h fun x s1 μ1 H1 v f1 r1 rv q => ?_⟩
  have q := PO.fw (r := (mlo ε s1).bind fun lo s2 => (mhi ε s2).bind fun hi s3 => oSl x lo hi s3) q f1
  refine ⟨ε, s1, μ1, hε.fw f1, r1, seqO q fun l s2 μ2 H2 f2 r2 q2 => ?_⟩
  have q2 := PO.fw (r := (mhi ε s2).bind fun hi s3 => oSl x l hi s3) q2 f2
  refine ⟨ε, s2, μ2, (hε.fw f1).fw f2, r2, seqO q2 fun u s3 μ3 H3 f3 r3 q3 => ?_⟩
  have q3 := PO.fw (r := oSl x l u s3) q3 f3
  have rv := (rv.fw f2).fw f3
  cases rv with
  | @ref k a hk =>
    have q3 : PO X.K X.mg E μ3 H3 (slCell l u s3[k]? s3) Q := q3
    cases g : s3[k]? with
    | none =>
      rw [g] at q3
      exact q3.elim
    | some c =>
      rw [g] at q3
      cases c with
      | dic kvs => exact q3.elim
      | lst ds =>
        obtain ⟨vs, hv, rs⟩ := r3.at g hk
        exact .inl ⟨a, vs, rfl, SqL.of hv, fun p hp => PO.list q3 r3 (cut_rv rs l u) hp⟩
  | @frl ds p vs hq rs => exact .inl ⟨p, vs, rfl, hq.seq, fun p hp => PO.list q3 r3 (cut_rv rs l u) hp⟩
  | @tup ds p vs hq rs =>
    have q3 : PO X.K X.mg E μ3 H3 (.ok (.tup (cutD ds l u)) s3) Q := q3
    refine .inr (.inl ⟨p, vs, rfl, hq, fun ⟨e1, e2⟩ => PO.same q3 r3 (.tup hq ?_), fun _ p' hp => PO.tuple q3 r3 (cut_rv rs l u) hp⟩)
    have z := cut_rv rs l u
    unfold cutV at z
    rw [e1, e2, List.drop_zero, Nat.sub_zero, List.take_length] at z
    exact z
  | str x =>
    obtain ⟨hz, q3⟩ := PO.ite (show PO X.K X.mg E μ3 H3 (if x.length ≤ sizeLine then .ok (.str (cutS x l u)) s3 else .bad) Q from q3)
    exact .inr (.inr ⟨x, rfl, hz, PO.same q3 r3 (.str _)⟩)
  | _ => exact q3.elim

/-! ### methods of built-in types -/
def MtS (K : PySem.W.Frag) (mg : Str → Option Value) (r : V → List V → Hp → VK → Prop) (f : D → List D → S → R D) : Prop := ∀ (E : XK) (μ : List Addr) (H : Hp) (s : S) (x : D) (xs : List D) (v : V) (vs : List V) (Q : VK), Rel K mg μ s H → RV K mg μ H x v → RVs K mg μ H xs vs → PO K mg E μ H (f x xs s) Q → r v vs H Q
def TyS (K : PySem.W.Frag) (mg : Str → Option Value) (T : String) (chk : D → S → Bool) : Prop := ∀ (μ : List Addr) (H : Hp) (s : S) (x : D) (v : V), Rel K mg μ s H → RV K mg μ H x v → chk x s = true → tyV K T v H
def mMeth (chk : D → S → Bool) (f : D → List D → S → R D) (mo : M) (ms : Ev → S → R (List D)) : M := fun ε s => (mo ε s).bind fun x s1 => if chk x s1 = true then (ms ε s1).bind fun xs s2 => f x xs s2 else .bad
theorem d_meth {T id : String} {name : Str} {apos : Pos} {r : V → List V → Hp → VK → Prop} {f : D → List D → S → R D} {chk : D → S → Bool} {o : Expr} {mo : M} (ht : TyS X.K X.mg T chk) (hf : MtS X.K X.mg r f) (pa : PlainAttrs T) (slot : Slot T name id) (hty : typeOf (.builtin id) = pure (.type "method_descriptor")) (hm : MtR X id r) (ho : DE X E o mo) (ha : DA X E (e :: es) ms)
    (hbase : attributeBase o name X.env (eval o X.env) = eval o X.env := by rfl)
    (hfew : ((backTo pos (starEach (e :: es) X.env)).all (fun x => !x.1) && (backToKw pos (keywordEach [] X.env)).all (fun x => x.1.isSome)
      && decide ((e :: es).length + ([] : List Keyword).length + (if ([] : List Keyword).isEmpty then 0 else 1) < 30)) = true := by rfl)
    (hline : (apos.endLine == pos.line) = true := by rfl) (hs : starEach (e :: es) X.env = (false, eval e X.env) :: starEach es X.env := by rfl) (hplain : (backTo pos (starEach es X.env)).any (·.1) = false := by rfl) :
    DE X E (.Call (.Attribute o name apos) (e :: es) [] pos) (mMeth chk f mo ms) := PEto (pe_bm pa slot hty hm ho ha hbase hfew hline hs hplain) fun σ H Q ⟨ε, s, μ, hε, hr, h⟩ => by
  refine ⟨ε, s, μ, hε, hr, PO.seq h fun x s1 μ1 H1 v f1 r1 rv q => ?_⟩
  obtain ⟨hc, q⟩ := PO.ite (PO.fw (r := if chk x s1 = true then (ms ε s1).bind fun xs s2 => f x xs s2 else .bad) q f1)
  refine ⟨ht μ1 H1 s1 x v r1 rv hc, ε, s1, μ1, hε.fw f1, r1, PL.seq q fun xs s2 μ2 H2 vs f2 r2 rvs q2 => ?_⟩
  exact hf E μ2 H2 s2 x xs v vs Q r2 (rv.fw f2) rvs (PO.fw (r := f x xs s2) q2 f2)
def mMeth0 (chk : D → S → Bool) (f : D → List D → S → R D) (mo : M) : M := fun ε s => (mo ε s).bind fun x s1 => if chk x s1 = true then f x [] s1 else .bad
theorem d_meth0 {T id : String} {name : Str} {apos : Pos} {r : V → List V → Hp → VK → Prop} {f : D → List D → S → R D} {chk : D → S → Bool} {o : Expr} {mo : M} (ht : TyS X.K X.mg T chk) (hf : MtS X.K X.mg r f) (pa : PlainAttrs T) (slot : Slot T name id) (hty : typeOf (.builtin id) = pure (.type "method_descriptor")) (hm : MtR X id r) (ho : DE X E o mo)
    (hbase : attributeBase o name X.env (eval o X.env) = eval o X.env := by rfl) (hline : (apos.endLine == pos.line) = true := by rfl) : DE X E (.Call (.Attribute o name apos) [] [] pos) (mMeth0 chk f mo) := PEto (pe_bm0 pa slot hty hm ho hbase hline) fun σ H Q ⟨ε, s, μ, hε, hr, h⟩ => by
  refine ⟨ε, s, μ, hε, hr, PO.seq h fun x s1 μ1 H1 v f1 r1 rv q => ?_⟩
  obtain ⟨hc, q⟩ := PO.ite (PO.fw (r := if chk x s1 = true then f x [] s1 else .bad) q f1)
  exact ⟨ht μ1 H1 s1 x v r1 rv hc, hf E μ1 H1 s1 x [] v [] Q r1 rv .nil q⟩
def isLst : D → S → Bool
  | .ref k, s => match s[k]? with
    | some (.lst _) => true
    | _ => false
  | _, _ => false
def isStr : D → S → Bool
  | .str _, _ => true
  | _, _ => false
theorem ty_lst {K : PySem.W.Frag} {mg : Str → Option Value} : TyS K mg "list" isLst := fun μ H s x v hr rv h => by
  cases rv with
  | @ref k a hk =>
    have h : (match s[k]? with
      | some (.lst _) => true
      | _ => false) = true := h
    split at h
    · rename_i ds e
      obtain ⟨vs, hv, _⟩ := hr.at e hk
      exact .inl ⟨rfl, vs, SqL.of hv⟩
    · cases h
  | _ => cases h
theorem ty_str {K : PySem.W.Frag} {mg : Str → Option Value} : TyS K mg "str" isStr := fun μ H s x v hr rv h => by
  cases rv with
  | str x => rfl
  | _ => cases h
/-- xs.append(e) -/
def appCell (k : Nat) (d : D) : Option C → S → R D
  | some (.lst ds), s => if ds.length < sizeLine then .ok .non (s.set k (.lst (ds ++ [d]))) else .bad
  | _, _ => .bad
def oApp : D → List D → S → R D
  | .ref k, [d], s => appCell k d s[k]? s
  | _, _, _ => .bad
theorem ms_app {K : PySem.W.Frag} {mg : Str → Option Value} : MtS K mg rAppend oApp := fun E μ H s x xs v vs Q hr rv rs h => by
  cases rv with
  | @ref k a hk =>
    cases rs with
    | nil => exact h.elim
    | @cons d w _ _ rw' rs' =>
      cases rs' with
      | cons _ _ => exact h.elim
      | nil =>
        have h : PO K mg E μ H (appCell k d s[k]? s) Q := h
        cases g : s[k]? with
        | none =>
          rw [g] at h
          exact h.elim
        | some c =>
          rw [g] at h
          cases c with
          | dic kvs => exact h.elim
          | lst ds =>
            obtain ⟨hz, h⟩ := PO.ite (show PO K mg E μ H (if ds.length < sizeLine then .ok .non (s.set k (.lst (ds ++ [d]))) else .bad) Q from h)
            obtain ⟨us, hv, ru⟩ := hr.at g hk
            exact ⟨a, us, w, rfl, rfl, hv, by rw [← ru.length]; exact hz, hr.wrote h g hk (ru.append (.cons rw' .nil)) .non⟩
  | _ => cases rs <;> exact h.elim
theorem d_append {apos : Pos} {o : Expr} {mo : M} (ho : DE X E o mo) (ha : DA X E [e] ms) (hbase : attributeBase o "append" X.env (eval o X.env) = eval o X.env := by rfl)
    (hfew : ((backTo pos (starEach [e] X.env)).all (fun x => !x.1) && (backToKw pos (keywordEach [] X.env)).all (fun x => x.1.isSome)
      && decide (([e] : List Expr).length + ([] : List Keyword).length + (if ([] : List Keyword).isEmpty then 0 else 1) < 30)) = true := by rfl)
    (hline : (apos.endLine == pos.line) = true := by rfl) (hs : starEach [e] X.env = (false, eval e X.env) :: starEach [] X.env := by rfl) (hplain : (backTo pos (starEach [] X.env)).any (·.1) = false := by rfl) : DE X E (.Call (.Attribute o "append" apos) [e] [] pos) (mMeth isLst oApp mo ms) :=
  d_meth ty_lst ms_app PySem.F.plainAttrs_list PySem.F.slot_list_append PySem.F.type_list_append mt_append ho ha hbase hfew hline hs hplain
/-- sep.join(a list of texts) -/
def strsOf : List D → Option (List Str)
  | [] => some []
  | .str x :: ds => (strsOf ds).map (x :: ·)
  | _ => none
theorem strsOf_rv {K : PySem.W.Frag} {mg : Str → Option Value} {μ : List Addr} {H : Hp} : ∀ {ds : List D} {vs : List V} {ys : List Str}, RVs K mg μ H ds vs → strsOf ds = some ys → vs = ys.map V.str
  | [], _, _, .nil, e => by
    cases e
    rfl
  | d :: ds, _, ys, .cons r rs, e => by
    cases r with
    | str x =>
      obtain ⟨zs, e1, rfl⟩ := Option.map_eq_some_iff.mp (show (strsOf ds).map (x :: ·) = some ys from e)
      rw [strsOf_rv rs e1]
      rfl
    | _ => cases e
def joinK (a : Str) : Option (List Str) → S → R D
  | some ys, s => if (ys.map (·.length)).sum + ys.length * a.length ≤ 16777216 then .ok (.str (Txt.join a ys)) s else .bad
  | none, _ => .bad
def oJoin : D → List D → S → R D
  | .str a, [.ref k], s => match s[k]? with
    | some (.lst ds) => joinK a (strsOf ds) s
    | _ => .bad
  | _, _, _ => .bad
theorem ms_join {K : PySem.W.Frag} {mg : Str → Option Value} : MtS K mg (fun x xs H Q => ∃ a p, ∃ ys : List Str, x = .str a ∧ xs = [.ref p] ∧ (SqL K H p (ys.map V.str) ∨ SqT K H p (ys.map V.str)) ∧
    (ys.map (·.length)).sum + ys.length * a.length ≤ 16777216 ∧ Q (.str (Txt.join a ys)) H) oJoin := fun E μ H s x xs v vs Q hr rv rs h => by
  cases rv with
  | str a =>
    cases rs with
    | nil => exact h.elim
    | cons r rs' =>
      cases rs' with
      | cons _ _ => cases r <;> exact h.elim
      | nil =>
        cases r with
        | @ref k p hk =>
          have h : PO K mg E μ H (match s[k]? with
            | some (.lst ds) => joinK a (strsOf ds) s
            | _ => .bad) Q := h
          split at h
          · rename_i ds g
            obtain ⟨us, hv, ru⟩ := hr.at g hk
            cases e : strsOf ds with
            | none =>
              rw [e] at h
              exact h.elim
            | some ys =>
              rw [e] at h
              obtain ⟨hz, h⟩ := PO.ite (show PO K mg E μ H (if (ys.map (·.length)).sum + ys.length * a.length ≤ 16777216 then .ok (.str (Txt.join a ys)) s else .bad) Q from h)
              refine ⟨a, p, ys, rfl, rfl, .inl (SqL.of ?_), hz, PO.same h hr (.str _)⟩
              rw [← strsOf_rv ru e]
              exact hv
          · exact h.elim
        | _ => exact h.elim
  | _ => cases rs <;> exact h.elim
theorem d_join {apos : Pos} {o : Expr} {mo : M} (ho : DE X E o mo) (ha : DA X E [e] ms) (hbase : attributeBase o "join" X.env (eval o X.env) = eval o X.env := by rfl)
    (hfew : ((backTo pos (starEach [e] X.env)).all (fun x => !x.1) && (backToKw pos (keywordEach [] X.env)).all (fun x => x.1.isSome)
      && decide (([e] : List Expr).length + ([] : List Keyword).length + (if ([] : List Keyword).isEmpty then 0 else 1) < 30)) = true := by rfl)
    (hline : (apos.endLine == pos.line) = true := by rfl) (hs : starEach [e] X.env = (false, eval e X.env) :: starEach [] X.env := by rfl) (hplain : (backTo pos (starEach [] X.env)).any (·.1) = false := by rfl) : DE X E (.Call (.Attribute o "join" apos) [e] [] pos) (mMeth isStr oJoin mo ms) :=
  d_meth ty_str ms_join PySem.F.plainAttrs_str PySem.F.slot_str_join PySem.F.type_str_join mt_join ho ha hbase hfew hline hs hplain

/-! ### o[i] = e -/
def setCell (k : Nat) (i : Int) (d : D) : Option C → S → Option S
  | some (.lst ds), s => (ixN ds.length i).map fun j => s.set k (.lst (ds.set j d))
  | _, _ => none
def setAt (o i d : D) (s : S) : Option S := match o, i with
  | .ref k, .int i => setCell k i d s[k]? s
  | _, _ => none
def sSub (me mo mi : M) : B := fun ε s => (me ε s).to fun d s1 => (mo ε s1).to fun o s2 => (mi ε s2).to fun i s3 => match setAt o i d s3 with
  | some s4 => .nx ε s4
  | none => .bad
theorem s_sub {o i : Expr} {p2 : Pos} {me mo mi : M} (he : DE X E e me) (ho : DE X E o mo) (hi : DE X E i mi) (ha : ∀ v, assign (.Subscript o i p2) X.env v = (do
      let ov ← holding [v] (eval o X.env)
      let iv ← holding [v, ov] (eval i X.env)
      standAt p2
      holding [v, ov, iv] (setItem ov iv v)
      release [v, ov, iv] []) := by intro _; rfl) (hs : swapsWithSole [.Subscript o i p2] e pos.line X.env = pure false := by rfl) (hw : swappedStores [.Subscript o i p2] e X.env = pure none := by rfl)
    (h1 : (assignEach [.Subscript o i p2] X.env).map (·.2) = [assign (.Subscript o i p2) X.env] := by rfl) : DS X E (.Assign [.Subscript o i p2] e pos) (sSub me mo mi) := PSto (ps_asg he (pg_sub ho hi set_list ha) hs hw h1) fun D' σ H ⟨ε, s, μ, hε, hr, h⟩ => by
  refine ⟨ε, s, μ, hε, hr, SO.to (r := me ε s) h fun d s1 μ1 H1 v f1 r1 rv q => ?_⟩
  refine ⟨ε, s1, μ1, hε.fw f1, r1, SO.to (r := mo ε s1) q fun ob s2 μ2 H2 w f2 r2 rw' q2 => ?_⟩
  refine ⟨ε, s2, μ2, (hε.fw f1).fw f2, r2, SO.to (r := mi ε s2) q2 fun ix s3 μ3 H3 u f3 r3 ru q3 => ?_⟩
  cases e4 : setAt ob ix d s3 with
  | none =>
    rw [e4] at q3
    exact q3.elim
  | some s4 =>
    rw [e4] at q3
    have ro := rw'.fw f3
    have rd := (rv.fw f2).fw f3
    cases ro with
    | @ref k a hk =>
      cases ru with
      | int i =>
        have e4 : setCell k i d s3[k]? s3 = some s4 := e4
        cases g : s3[k]? with
        | none =>
          rw [g] at e4
          cases e4
        | some c =>
          rw [g] at e4
          cases c with
          | dic kvs => cases e4
          | lst ds =>
            obtain ⟨j, ej, rfl⟩ := Option.map_eq_some_iff.mp (show (ixN ds.length i).map (fun j => s3.set k (.lst (ds.set j d))) = some s4 from e4)
            obtain ⟨us, hv, rs⟩ := r3.at g hk
            obtain ⟨f4, r4⟩ := r3.write hk g (rs.set rd j)
            exact ⟨a, us, i, j, rfl, rfl, hv, by rw [← rs.length]; exact ej, q3 μ3 _ σ f4 r4 ((((hε.fw f1).fw f2).fw f3).fw f4)⟩
      | _ => cases e4
    | _ => cases e4

/-! ### x op= e -/
def sAug (op : D → D → S → R D) (i : Nat) (m : M) : B := fun ε s => (mVar i ε s).to fun x _ => (m ε s).to fun y s1 => (op x y s1).to fun z s2 => .nx (ε.set i (some z)) s2
theorem s_aug (i : Nat) {x : Str} {o : Operator} {r : R2} {op : D → D → S → R D} {p2 : Pos} (hr : OpR X (inplaceOp o) r) (hop : OpS X.K X.mg r op) (hN : X.N.Nodup) (he : DE X E e m) (hi : X.N[i]? = some x := by rfl) (hx : Loc X.env.scope x := by first | exact Or.inl rfl | exact Or.inr rfl) (hf : X.fn x = true ∨ X.env.scope.names.lookup x = some .local := by first | exact .inl rfl | exact .inr rfl) :
    DS X E (.AugAssign (.Name x p2) o e pos) (sAug op i m) := PSto (ps_aug hN hi hx he (fun pins s σ H x y v u Q I rx ry h => hr pins s σ H x y v u Q I rx ry h) hf) fun D' σ H ⟨ε, s, μ, hε, hr, h⟩ => by
  have h : SO X.K X.mg E μ H ((mVar i ε s).to fun x _ => (m ε s).to fun y s1 => (op x y s1).to fun z s2 => .nx (ε.set i (some z)) s2) D' := h
  cases q : ε[i]? with
  | none =>
    simp only [mVar, q] at h
    exact h.elim
  | some o =>
    cases o with
    | none =>
      simp only [mVar, q] at h
      exact h.elim
    | some d =>
      simp only [mVar, q] at h
      have h : SO X.K X.mg E μ H ((m ε s).to fun y s1 => (op d y s1).to fun z s2 => .nx (ε.set i (some z)) s2) D' := h
      obtain ⟨v, hv, rv⟩ := hε.get i d q
      refine ⟨v, hv, ε, s, μ, hε, hr, SO.to (r := m ε s) h fun y s1 μ1 H1 w f1 r1 rw' q1 => ?_⟩
      refine hop E μ1 H1 s1 d y v w _ r1 (rv.fw f1) rw' (SO.to (r := op d y s1) q1 fun z s2 μ2 H2 u f2 r2 ru q2 => ?_)
      exact q2 μ2 H2 _ Fw.refl r2 (((hε.fw f1).fw f2).set i ru)
def oIadd : D → D → S → R D
  | .int i, .int j, s => .ok (.int (i + j)) s
  | .str x, .str y, s => if x.length + y.length ≤ sizeLine then .ok (.str (x ++ y)) s else .bad
  | _, _, _ => .bad
def rIadd : R2 := fun x y H Q => rI0 (fun i j => .int (i + j)) x y H Q ∨ (∃ i j, x = .str i ∧ y = .str j ∧ i.length + j.length ≤ sizeLine ∧ Q (.str (i ++ j)) H)
theorem or_iadd : OpR X (inplaceOp .Add) rIadd := OpR.or iop_add iop_add_str
theorem os_iadd {K : PySem.W.Frag} {mg : Str → Option Value} : OpS K mg rIadd oIadd := fun E μ H s x y vx vy Q hr rx ry h => by
  cases rx with
  | int i =>
    cases ry with
    | int j => exact .inl ⟨i, j, rfl, rfl, PO.same h hr (.int _)⟩
    | _ => exact h.elim
  | str i =>
    cases ry with
    | str j =>
      obtain ⟨hl, h⟩ := PO.ite h
      exact .inr ⟨i, j, rfl, rfl, hl, PO.same h hr (.str _)⟩
    | _ => exact h.elim
  | _ => exact h.elim
theorem s_iadd (i : Nat) {x : Str} {p2 : Pos} (hN : X.N.Nodup) (he : DE X E e m) (hi : X.N[i]? = some x := by rfl) (hx : Loc X.env.scope x := by first | exact Or.inl rfl | exact Or.inr rfl) (hf : X.fn x = true ∨ X.env.scope.names.lookup x = some .local := by first | exact .inl rfl | exact .inr rfl) :
    DS X E (.AugAssign (.Name x p2) .Add e pos) (sAug oIadd i m) := s_aug i or_iadd os_iadd hN he hi hx hf

/-! ### built-ins -/
def cLen : List D → S → R D
  | [.ref k], s => match s[k]? with
    | some (.lst ds) => .ok (.int ds.length) s
    | _ => .bad
  | [.tup ds], s => .ok (.int ds.length) s
  | [.frl ds], s => .ok (.int ds.length) s
  | [.str x], s => if x.length ≤ sizeLine then .ok (.int x.length) s else .bad
  | _, _ => .bad
theorem cs_len {K : PySem.W.Frag} {mg : Str → Option Value} : CaS K mg (fun xs H Q => ∃ x n, xs = [x] ∧ LenV K x H n ∧ Q (.int n) H) cLen := fun E μ H s xs vs Q hr rs h => by
  cases rs with
  | nil => exact h.elim
  | cons r rs' =>
    cases rs' with
    | cons _ _ => cases r <;> exact h.elim
    | nil =>
      cases r with
      | @ref k a hk =>
        have h : PO K mg E μ H (match s[k]? with
          | some (.lst ds) => .ok (.int ds.length) s
          | _ => .bad) Q := h
        split at h
        · rename_i ds g
          obtain ⟨us, hv, ru⟩ := hr.at g hk
          exact ⟨_, ds.length, rfl, .inl ⟨us, SqL.of hv, ru.length⟩, PO.same h hr (.int _)⟩
        · exact h.elim
      | @tup ds p us hq ru => exact ⟨_, ds.length, rfl, .inr ⟨us, hq, ru.length⟩, PO.same h hr (.int _)⟩
      | @frl ds p us hq ru => exact ⟨_, ds.length, rfl, .inl ⟨us, hq.seq, ru.length⟩, PO.same h hr (.int _)⟩
      | str x =>
        obtain ⟨hz, h⟩ := PO.ite (show PO K mg E μ H (if x.length ≤ sizeLine then .ok (.int x.length) s else .bad) Q from h)
        exact ⟨_, x.length, rfl, ⟨hz, rfl⟩, PO.same h hr (.int _)⟩
      | _ => exact h.elim
def c1I (f : Int → D) : List D → S → R D
  | [.int i], s => .ok (f i) s
  | _, _ => .bad
theorem rvs1 {K : PySem.W.Frag} {mg : Str → Option Value} {μ : List Addr} {H : Hp} {s : S} {Q : VK} {f : Int → D} {xs : List D} {vs : List V} (rs : RVs K mg μ H xs vs) (h : PO K mg E μ H (c1I f xs s) Q) : ∃ i, xs = [.int i] ∧ vs = [.int i] ∧ PO K mg E μ H (.ok (f i) s) Q := by
  cases rs with
  | nil => exact h.elim
  | cons r rs' =>
    cases rs' with
    | cons _ _ => cases r <;> exact h.elim
    | nil =>
      cases r with
      | int i => exact ⟨i, rfl, rfl, h⟩
      | _ => exact h.elim
def cAbs : List D → S → R D := c1I fun i => .int (if i < 0 then -i else i)
theorem cs_abs {K : PySem.W.Frag} {mg : Str → Option Value} : CaS K mg (fun xs H Q => ∃ i, xs = [.int i] ∧ Q (.int (if i < 0 then -i else i)) H) cAbs := fun E μ H s xs vs Q hr rs h => by
  obtain ⟨i, _, rfl, h⟩ := rvs1 rs h
  exact ⟨i, rfl, PO.same h hr (.int _)⟩
def cInt : List D → S → R D := c1I fun i => .int i
theorem cs_int {K : PySem.W.Frag} {mg : Str → Option Value} : CaS K mg (fun xs H Q => (∃ i, xs = [.int i] ∧ Q (.int i) H) ∨ ∃ k, xs = [.bl k] ∧ Q (.int (if k then 1 else 0)) H) cInt := fun E μ H s xs vs Q hr rs h => by
  obtain ⟨i, _, rfl, h⟩ := rvs1 rs h
  exact .inl ⟨i, rfl, PO.same h hr (.int _)⟩
def cOrd : List D → S → R D
  | [.str x], s => if x.length = 1 then .ok (.int (x.cps.getD 0 0 : Nat)) s else .bad
  | _, _ => .bad
theorem cs_ord {K : PySem.W.Frag} {mg : Str → Option Value} : CaS K mg (fun xs H Q => ∃ x, xs = [.str x] ∧ x.length = 1 ∧ Q (.int (x.cps.getD 0 0 : Nat)) H) cOrd := fun E μ H s xs vs Q hr rs h => by
  cases rs with
  | nil => exact h.elim
  | cons r rs' =>
    cases rs' with
    | cons _ _ => cases r <;> exact h.elim
    | nil =>
      cases r with
      | str x =>
        obtain ⟨hz, h⟩ := PO.ite (show PO K mg E μ H (if x.length = 1 then .ok (.int (x.cps.getD 0 0 : Nat)) s else .bad) Q from h)
        exact ⟨x, rfl, hz, PO.same h hr (.int _)⟩
      | _ => exact h.elim
def c2I (f : Int → Int → D) : List D → S → R D
  | [.int i, .int j], s => .ok (f i j) s
  | _, _ => .bad
theorem rvs2 {K : PySem.W.Frag} {mg : Str → Option Value} {μ : List Addr} {H : Hp} {s : S} {Q : VK} {f : Int → Int → D} {xs : List D} {vs : List V} (rs : RVs K mg μ H xs vs) (h : PO K mg E μ H (c2I f xs s) Q) : ∃ i j, vs = [.int i, .int j] ∧ PO K mg E μ H (.ok (f i j) s) Q := by
  cases rs with
  | nil => exact h.elim
  | cons r rs' =>
    cases rs' with
    | nil => cases r <;> exact h.elim
    | cons r' rs'' =>
      cases rs'' with
      | cons _ _ => cases r <;> cases r' <;> exact h.elim
      | nil =>
        cases r with
        | int i =>
          cases r' with
          | int j => exact ⟨i, j, rfl, h⟩
          | _ => exact h.elim
        | _ => cases r' <;> exact h.elim
def cMax2 : List D → S → R D := c2I fun i j => .int (if j > i then j else i)
def cMin2 : List D → S → R D := c2I fun i j => .int (if j < i then j else i)
theorem cs_max2 {K : PySem.W.Frag} {mg : Str → Option Value} : CaS K mg (fun xs H Q => ∃ i j, xs = [.int i, .int j] ∧ Q (.int (if j > i then j else i)) H) cMax2 := fun E μ H s xs vs Q hr rs h => by
  obtain ⟨i, j, rfl, h⟩ := rvs2 rs h
  exact ⟨i, j, rfl, PO.same h hr (.int _)⟩
theorem cs_min2 {K : PySem.W.Frag} {mg : Str → Option Value} : CaS K mg (fun xs H Q => ∃ i j, xs = [.int i, .int j] ∧ Q (.int (if j < i then j else i)) H) cMin2 := fun E μ H s xs vs Q hr rs h => by
  obtain ⟨i, j, rfl, h⟩ := rvs2 rs h
  exact ⟨i, j, rfl, PO.same h hr (.int _)⟩
def cTuple : List D → S → R D
  | [.ref k], s => match s[k]? with
    | some (.lst ds) => .ok (.tup ds) s
    | _ => .bad
  | [.frl ds], s => .ok (.tup ds) s
  | [.tup ds], s => .ok (.tup ds) s
  | _, _ => .bad
theorem cs_tuple {K : PySem.W.Frag} {mg : Str → Option Value} : CaS K mg (fun xs H Q => ∃ p ys, xs = [.ref p] ∧ ((SqL K H p ys ∧ ∀ l, H l = none → Q (.ref l) (upd H l (.tup ys))) ∨ (SqT K H p ys ∧ Q (.ref p) H))) cTuple := fun E μ H s xs vs Q hr rs h => by
  cases rs with
  | nil => exact h.elim
  | cons r rs' =>
    cases rs' with
    | cons _ _ => cases r <;> exact h.elim
    | nil =>
      cases r with
      | @ref k a hk =>
        have h : PO K mg E μ H (match s[k]? with
          | some (.lst ds) => .ok (.tup ds) s
          | _ => .bad) Q := h
        split at h
        · rename_i ds g
          obtain ⟨us, hv, ru⟩ := hr.at g hk
          exact ⟨a, us, rfl, .inl ⟨SqL.of hv, fun l hl => PO.tuple h hr ru hl⟩⟩
        · exact h.elim
      | @tup ds p us hq ru => exact ⟨p, us, rfl, .inr ⟨hq, PO.same h hr (.tup hq ru)⟩⟩
      | @frl ds p us hq ru => exact ⟨p, us, rfl, .inl ⟨hq.seq, fun l hl => PO.tuple h hr ru hl⟩⟩
      | _ => exact h.elim
def cList : List D → S → R D
  | [.ref k], s => match s[k]? with
    | some (.lst ds) => .ok (.ref s.length) (s ++ [C.lst ds])
    | _ => .bad
  | [.frl ds], s => .ok (.ref s.length) (s ++ [C.lst ds])
  | [.tup ds], s => .ok (.ref s.length) (s ++ [C.lst ds])
  | _, _ => .bad
theorem cs_list {K : PySem.W.Frag} {mg : Str → Option Value} : CaS K mg (fun xs H Q => ∃ p ys, xs = [.ref p] ∧ (SqL K H p ys ∨ SqT K H p ys) ∧ ∀ l, H l = none → Q (.ref l) (upd H l (.lst ys))) cList := fun E μ H s xs vs Q hr rs h => by
  cases rs with
  | nil => exact h.elim
  | cons r rs' =>
    cases rs' with
    | cons _ _ => cases r <;> exact h.elim
    | nil =>
      cases r with
      | @ref k a hk =>
        have h : PO K mg E μ H (match s[k]? with
          | some (.lst ds) => .ok (.ref s.length) (s ++ [C.lst ds])
          | _ => .bad) Q := h
        split at h
        · rename_i ds g
          obtain ⟨us, hv, ru⟩ := hr.at g hk
          exact ⟨a, us, rfl, .inl (SqL.of hv), fun l hl => PO.list h hr ru hl⟩
        · exact h.elim
      | @tup ds p us hq ru => exact ⟨p, us, rfl, .inr hq, fun l hl => PO.list h hr ru hl⟩
      | @frl ds p us hq ru => exact ⟨p, us, rfl, .inl hq.seq, fun l hl => PO.list h hr ru hl⟩
      | _ => exact h.elim
def cStr : List D → S → R D
  | [.int i], s => if i.natAbs.log2 < 1920 then .ok (.str (Str.ofString (toString i))) s else .bad
  | _, _ => .bad

/-! ### isinstance(x, T), T built-in -/
def tyName : D → S → Option String
  | .non, _ => some "NoneType"
  | .bl _, _ => some "bool"
  | .int _, _ => some "int"
  | .str _, _ => some "str"
  | .tup _, _ => some "tuple"
  | .frl _, _ => some "list"
  | .ref k, s => match s[k]? with
    | some (.lst _) => some "list"
    | some (.dic _) => some "dict"
    | none => none
  | _, _ => none
def kitO (t : Option String) (n : String) : Option Bool := match t with
  | some t => kitB t n
  | none => none
def cIsi : List D → S → R D
  | [x, .ty n], s => match kitO (tyName x s) n with
    | some b => .ok (.bl b) s
    | none => .bad
  | _, _ => .bad
theorem tyName_rv {K : PySem.W.Frag} {mg : Str → Option Value} {μ : List Addr} {H : Hp} {s : S} {x : D} {v : V} {t : String} (hr : Rel K mg μ s H) (r : RV K mg μ H x v) (h : tyName x s = some t) : TyX K H v (.type t) := by
  cases r with
  | non => cases h; exact .base .non
  | bl b => cases h; exact .base (.bl b)
  | int i => cases h; exact .base (.int i)
  | str x => cases h; exact .base (.str x)
  | ty n => cases h
  | fn h' => cases h
  | exn _ _ _ => cases h
  | @tup ds p us hq ru =>
    cases h
    rcases hq with (hq | ⟨o, hq⟩) | ⟨o, _, _, hq, hc, _⟩
    · exact .base (.tup hq)
    · exact .fTuple hq
    · exact .kTuple hq hc
  | @frl ds p us hq ru =>
    cases h
    rcases hq with ⟨o, hq⟩ | ⟨o, _, _, hq, hc, _⟩
    · exact .base (.frz hq)
    · exact .kList hq hc
  | @ref k a hk =>
    have h : (match s[k]? with
      | some (.lst _) => some "list"
      | some (.dic _) => some "dict"
      | none => none) = some t := h
    split at h
    · rename_i ds g
      cases h
      obtain ⟨us, hv, _⟩ := hr.at g hk
      exact .base (.lst hv)
    · rename_i kvs g
      cases h
      obtain ⟨us, hv, _⟩ := hr.at g hk
      exact .base (.dK hv)
    · cases h
theorem cs_isi {K : PySem.W.Frag} {mg : Str → Option Value} : CaS K mg (rIsi K) cIsi := fun E μ H s xs vs Q hr rs h => by
  cases rs with
  | nil => exact h.elim
  | @cons x v _ _ r rs' =>
    cases rs' with
    | nil => exact h.elim
    | cons r' rs'' =>
      cases rs'' with
      | cons _ _ => cases r' <;> exact h.elim
      | nil =>
        cases r' with
        | ty n =>
          have h : PO K mg E μ H (match kitO (tyName x s) n with
            | some b => .ok (.bl b) s
            | none => .bad) Q := h
          cases e : tyName x s with
          | none =>
            rw [e] at h
            exact h.elim
          | some t =>
            rw [e] at h
            cases e2 : kitB t n with
            | none =>
              simp only [kitO, e2] at h
              exact h.elim
            | some b =>
              simp only [kitO, e2] at h
              exact ⟨v, .ty n, .type t, .type n, b, rfl, .ty n, tyName_rv hr r e, kit_ty e2, PO.same h hr (.bl b)⟩
        | _ => exact h.elim
end
end Mi
/-! Mi: an own error over own errors over ValueError, whose __init__ says super().__init__(at); self.at = at -/
namespace Mi
open PySem PySem.Spec PyProof.Rows L2
namespace ErrX
open PySem.W PySem.Calls PySem.HandSPX
def iA (p1 p2 : Pos) : Arguments := { posonlyargs := [], args := [{ arg := "self", annotation := none, pos := p1 }, { arg := "at", annotation := none, pos := p2 }], vararg := none, kwonlyargs := [], kw_defaults := [], kwarg := none, defaults := [] }
def iB (q1 q2 q3 q4 q5 r1 r2 r3 r4 : Pos) : List Stmt := [.Expr (.Call (.Attribute (.Call (.Name "super" q1) [] [] q2) "__init__" q3) [.Name "at" q4] [] q5) q5, .Assign [.Attribute (.Name "self" r1) "at" r2] (.Name "at" r3) r4]
def iS : Scope := { kind := .function, names := [(PySem.Str.ofString "self", .local), (PySem.Str.ofString "at", .local), (PySem.Str.ofString "__class__", .free), (PySem.Str.ofString "super", .globalImplicit)], isGenerator := false, isCoroutine := false, more := [] }
/-- what the written part says of the class at C, and of its __init__, at fI -/
structure Txt (P : Program) (K : Frag) (mg : Str → Option Value) (C fI : Addr) : Prop where
  cls : ∃ nm q N bs bm sn sub ab col dd k0 k1 k2 k3 k5, K.lookup C = some (excClassObj nm q C N bs bm true sn sub ab col dd k0 k1 k2 k3 k5 "ValueError.__new__") ∧ refsVE bm = true ∧ alongIn K "__init__" bm = some (some (.builtin "ValueError.__init__"))
  sa : findIn K (.ref C) "__setattr__" = some (some (.builtin "object.__setattr__"))
  noN : findIn K (.ref C) "at" = some none
  iC : findIn K (.ref C) "__init__" = some (some (.ref fI))
  tC : typeIn K (.ref fI) = some (.type "function")
  kC : keepIn K (.ref C) = true
  exC : subIn K (.ref C) (.type "BaseException") = some true
  veC : subIn K (.ref C) (.type "ValueError") = some true
  tyC : typeIn K (.ref C) = some (.type "type")
  noS : mg "super" = none
  ops : nsIn K cStatics "thirdparty.any" = some none
  fn : ∃ (oc kV doc pm : Value) (od : Option Addr) (an : Option Addr) (cda : Addr) (ct : Value) (osl : Array (Option Value)) (p1 p2 q1 q2 q3 q4 q5 r1 r2 r3 r4 : Pos) (cc : Addr) (qual : Str),
    K.lookup fI = some ⟨oc, od, .func (ksFn "__init__" qual (iA p1 p2) (iB q1 q2 q3 q4 q5 r1 r2 r3 r4) iS .none kV doc pm an (.ref cda) ct cc), osl⟩ ∧ codeIn K (.ref cda) qual = true ∧
    (∃ cl cld csl, K.lookup cc = some ⟨cl, cld, .cell (some (.ref C)), csl⟩) ∧ ∃ ccl cdd vs ccs file tf, K.lookup cda = some ⟨ccl, cdd, .fields vs, ccs⟩ ∧ vs[2]? = some (.str file tf) ∧ ((P.main.file : Str) == file) = true ∧ (q3.endLine == q5.line) = true
  top : (P.main.scope.names.lookup ("super" : Str)).isSome = false
theorem dropOwn (C : Addr) (l : List Value) : ((Value.ref C :: l).dropWhile (· != .ref C)).drop 1 = l := by
  simp [List.dropWhile_cons]
theorem one_size (v : Value) : [v].length ≤ sizeLine := by
  rw [sizeLine_eq]
  exact (by decide : 1 ≤ 16777216)
/-- what __init__ leaves of a fresh exception at x -/
structure InitEnd (h h' : Heap) (x C dx t1 : Addr) (v : Value) : Prop where
  keep : ∀ b o, b ≠ x → h.get? b = some o → h'.get? b = some o
  obj : h'.get? x = some { cls := .ref C, dict := some dx, data := .fields #[.ref t1, .none, .none, .none, .bool false, .none] }
  dbig : h.objs.size ≤ dx
  dne : dx ≠ x
  ns : h'.Ns1 dx (fun y => if y = "at" then some v else none)
section
variable {prog : Program} {w : World} {A : Around} {E : Value → Shared → Prop} {R : Result → Shared → Prop} {s : Shared} {K : Frag} {mg : Str → Option Value} {C fI : Addr}
theorem kept_but {K : Frag} {h h' : Heap} {x : Addr} (X : K.In h) (hx : K.lookup x = none) (k : ∀ b o, b ≠ x → h.get? b = some o → h'.get? b = some o) : K.In h' := fun a o e =>
  k a o (fun z => by rw [z, hx] at e; cases e) (X a o e)
theorem mw_call {K : Frag} {u e t0 C : Addr} {rest : List Value} {Q : Value → Shared → Prop} {h : Heap} {g : Array GenState} {d : Drawn} {t : Nat} {os : OsState} {nm q : Str} {N : Addr} {bs bm : List Value} {hdct : Bool} {sn : List Str} {sub : List Value} {ab : Bool} {col : Option Bool} {dd : Option Addr} {k0 k1 k2 k3 k5 : Option Value}
    (hC : h.get? C = some (excClassObj nm q C N bs bm hdct sn sub ab col dd k0 k1 k2 k3 k5 "ValueError.__new__")) (he : h.get? e = some (excO C t0)) (hu : h.get? u = some (kxs_mw "ValueError.__init__" e)) (hrest : rest.length ≤ sizeLine)
    (hq : ∀ h' t1, (∀ b o, b ≠ e → h.get? b = some o → h'.get? b = some o) → h'.get? e = some (excO C t1) → Q .none ⟨h', g, d, t, os⟩) :
    wpAny (model prog w) A (call (.ref u) rest) Q E ⟨h, g, d, t, os⟩ := by
  refine wpAny_call (codeAny_of_tree ?_)
  show wpAny _ A.in1 (callAny (.ref u) ⟨rest, []⟩) _ _ _
  simp only [callAny]
  refine wpAny_bind (wpAny_load hu ?_)
  simp only [kxs_mw, show (Value.type "method-wrapper" == Value.type "method" || Value.type "method-wrapper" == Value.type "builtin_function_or_method" || Value.type "method-wrapper" == Value.type "method-wrapper") = true by decide, if_true]
  refine KFB.if_so (by decide) ?_
  refine wpAny_bind (check_bound_init F.excBase_ValueError.toExcCallFacts hC he rfl ?_)
  refine wpAny_bind (wpAny_pure (wpAny_pure ?_))
  refine ⟨plainId_quiet F.excBase_ValueError.init.plain _, codeAny_builtin F.excBase_ValueError.initEntry ?_⟩
  exact exc_init_tree (cls := .ref C) (t0 := t0) (dv := none) (c2 := .none) (c3 := .none) (b4 := .bool false) he hrest fun h' k e' t' => hq h' _ k e'

theorem ldE {M : Model} {s : Shared} {env : Env} {m : Str → Option Value} {x : Str} {pos : Pos} {v : Value} {Q : Value → Shared → Prop} {A : Around} {E : Value → Shared → Prop} (hn : s.heap.Ns env.locals m) (hv : m x = some v) (h : Q v s)
    (hk : env.scope.kind = .function) (hl : env.kindOf x = some .local) (hd : (x == ("__debug__" : Str)) = false := by decide) : wpAny M A (eval (.Name x pos) env) Q E s := wpAny_Name (wpAny_loadName_local hk hl hn hv h) hd
theorem eval_super {q1 q2 q3 q4 q5 : Pos} (h : (q3.endLine == q5.line) = true) (env : Env) : eval (.Call (.Attribute (.Call (.Name "super" q1) [] [] q2) "__init__" q3) [.Name "at" q4] [] q5) env = (do
      let ov ← attributeBase (.Call (.Name "super" q1) [] [] q2) "__init__" env (eval (.Call (.Name "super" q1) [] [] q2) env)
      standAt q3.atName
      let (f, first) ← holding [ov] (getMethod ov "__init__" (do return (← importBound (.Call (.Name "super" q1) [] [] q2) env).getD true))
      callWith q5 f first (backTo q5 (starEach [.Name "at" q4] env)) []) := by
  show (do
    let ov ← attributeBase (.Call (.Name "super" q1) [] [] q2) "__init__" env (eval (.Call (.Name "super" q1) [] [] q2) env)
    standAt q3.atName
    methodCall (.Call (.Name "super" q1) [] [] q2) "__init__" q3 q5 env ov (1 + 0) (backTo q5 (starEach [.Name "at" q4] env)) (backToKw q5 (keywordEach [] env))) = _
  unfold methodCall methodCallPos
  rw [h, Bool.or_true, if_pos rfl]
  rfl
theorem iS_cell : ∀ x ∈ iS.names, x.2 ≠ .cell := by decide +kernel
theorem iS_loc {a v : Value} : ∀ y ∈ ([("self", a), ("at", v)] : List (Str × Value)), iS.names.lookup y.1 = some .local := fun y hy => by
  rcases List.mem_cons.mp hy with rfl | hy
  · rfl
  · rcases List.mem_cons.mp hy with rfl | hy
    · rfl
    · cases hy
theorem err_init (T : Txt prog K mg C fI) {x t0 : Addr} {v : Value} {mb : Str → Option Value} (X : K.In s.heap) (hlim : s.heap.NoLimit) (hg : s.heap.Ns mainGlobals mg) (hb : s.heap.Ns builtinsNs mb) (hbs : mb "super" = some (.type "super"))
    (hx : s.heap.get? x = some (excO C t0)) (hnx : K.lookup x = none) (hroom : A.depth < recursionLimit)
    (hq : ∀ h' tk dx t1, InitEnd s.heap h' x C dx t1 v → R (.ok (.ret .none)) { s with heap := h', toks := tk }) :
    codeAny (model prog w) A (.call (.ref fI) ⟨[.ref x, v], []⟩) R s := by
  obtain ⟨oc, kV, doc, pm, od, an, cda, ct, osl, p1, p2, q1, q2, q3, q4, q5, r1, r2, r3, r4, cc, qual, ho, hcd, ⟨cl, cld, csl, hcell⟩, ccl, cdd, vs, ccs, file, tf, hcode, hvs, hfile, hline⟩ := T.fn
  obtain ⟨nm, q, N, bs, bm, sn, sub, ab, col, dd, k0, k1, k2, k3, k5, hC, hbm, hal⟩ := T.cls
  have hcl : clsIn K C = some { name := nm, bases := bs, mro := .ref C :: bm, ns := N, qualname := q, hasDict := true, slotNames := sn, subclasses := sub, abstract := ab, collection := col, hasDel := false } := by unfold clsIn; rw [hC] <;> rfl
  have hmro : mroIn K C (.ref C) = some true := by
    unfold mroIn
    rw [hcl, Option.bind_some]
    show (if (List.isEmpty (Value.ref C :: bm)) = true then _ else _) = _
    rw [if_neg (show ¬ (List.isEmpty (Value.ref C :: bm) = true) from Bool.false_ne_true)]
    simp
  refine ks_codeAny_call_defAt (body := iB q1 q2 q3 q4 q5 r1 r2 r3 r4) (binds := [("self", .ref x), ("at", v)]) hroom (X _ _ ho) rfl hlim (codeRec_of X hcd) rfl (BindsTo.of_eq (by first | rfl | with_unfolding_all rfl)) iS_cell iS_loc (fun h₁ hn k => ?_) rfl rfl rfl
  obtain ⟨hp, g, dr, tk, os⟩ := s
  generalize hL : hp.objs.size = L at hn
  have X₁ : K.In h₁ := X.keeps k
  have hx₁ := k _ _ hx
  have xC : x ≠ C := fun z => by
    rw [z, hC] at hnx
    cases hnx
  have hself : (fun x_1 => List.lookup x_1 [(("self" : Str), Value.ref x), (("at" : Str), v)].reverse) "self" = some (.ref x) := by first | rfl | with_unfolding_all rfl
  have hat : (fun x_1 => List.lookup x_1 [(("self" : Str), Value.ref x), (("at" : Str), v)].reverse) "at" = some v := by first | rfl | with_unfolding_all rfl
  have IA : InstAt h₁ x (excO C t0) C none := ⟨hx₁, rfl, rfl, trivial⟩
  have isV : Looks (model prog w) h₁ (isInstance (.ref x) (.type "ValueError")) true := IA.type.andThen (looks_subIn X₁ T.veC)
  refine ks_wpAt_execs_cons (ks_wpAt_Expr_any (ks_wpAt_MethodCall ?_ (eval_super hline _)))
  refine ks_wpAt_super_base (f := fI) (cc := cda) (ar := { arg := "self", annotation := none, pos := p1 }) (vs := vs) (file := file) (tf := tf) rfl rfl (by decide +kernel) rfl (k _ _ (X _ _ ho)) rfl rfl rfl (X₁ _ _ hcode) rfl hvs hfile T.top ?_
  refine ks_loadName_global rfl rfl (loadGlobal_builtin (hg.keeps k) T.noS (hb.keeps k) hbs ⟨rfl, ?_⟩)
  refine wpAny_loadName_free rfl rfl rfl ⟨_, X₁ _ _ hcell, rfl⟩ ?_
  refine wpAny_loadName_local rfl rfl hn hself ?_
  refine ks_wpAny_isType_cls (X₁ _ _ hC) rfl ⟨rfl, ?_⟩
  refine ks_wpAny_call_super (X₁ _ _ hC) rfl hx₁ rfl (fun c z => by cases z) (looks_mroIn X₁ hmro) (fun h2 e2 k2 => ?_)
  have X₂ : K.In h2 := X₁.keeps k2
  refine kxs_getMethod kxs_ValueError e2 (looks_opaque X₂ T.ops) (l₀ := .ref C :: bm) (l := bm) (fun A Q E s kk q => wpAny_bind ((looks_clsIn X₂ hcl) A _ E s kk (wpAny_pure q))) (dropOwn C bm) X₂ hal (isV.keeps k2) xC (by decide +kernel) ?_
  have k3 : ∀ b o, h2.get? b = some o → (h2.push (kxs_mw "ValueError.__init__" x)).get? b = some o := fun b o e => Heap.get?_push_of_some _ e
  have hx3 := k3 _ _ (k2 _ _ hx₁)
  have hC3 := (X₂.keeps k3) _ _ hC
  have hu3 : (h2.push (kxs_mw "ValueError.__init__" x)).get? h2.objs.size = some (kxs_mw "ValueError.__init__" x) := by heap_get
  have hn3 := (hn.keeps k2).keeps k3
  have keep3 : ∀ b o, h₁.get? b = some o → (h2.push (kxs_mw "ValueError.__init__" x)).get? b = some o := fun b o e => k3 b o (k2 b o e)
  generalize h2.objs.size = u at hu3
  generalize h2.push (kxs_mw "ValueError.__init__" x) = h3 at *
  refine kxs_callWith (i := "ValueError.__init__") (x := x) (by rfl) (evalArgs_plain ?_)
  refine spliced_cons (ldE hn3 hat ?_ rfl rfl)
  refine spliced_nil ⟨hu3, ?_⟩
  show wpAny _ _ (call (.ref u) [v]) _ _ _
  refine mw_call (K := K) hC3 hx3 hu3 (one_size v) (fun h4 t1 k4 hx4 => ?_)
  have Lx : L ≠ x := by
    rw [← hL]
    exact Nat.ne_of_gt (Heap.lt_size (show hp.get? x = some _ from hx))
  have hn4 : h4.Ns L (fun x_1 => List.lookup x_1 [(("self" : Str), Value.ref x), (("at" : Str), v)].reverse) := hn3.at fun o e => k4 _ _ Lx e
  have X₄ : K.In h4 := kept_but (X₁.keeps keep3) hnx k4
  refine ks_wpAt_execs_cons (ks_wpAt_Assign_Attr (wpAt_of_wpAny ?_))
  refine ldE hn4 hat (ldE hn4 hself ?_ rfl rfl) rfl rfl
  refine set_plain X₄ (ox := excO C t1) (od := none) ⟨hx4, rfl, rfl, trivial⟩ T.sa ?_
  refine exc_osa X₄ hx4 hcl (show refsVE (.ref C :: bm) = true from hbm) rfl T.noN (fun h5 tk5 dx k5 dn dne hx5 hn5 => ?_)
  refine wpAt_of_wpAny (wpAny_execs_nil ?_)
  refine hq h5 tk5 dx t1 ⟨fun b o hb e => k5 b o hb (k4 b o hb (keep3 b o (k b o e))), hx5, ?_, dne, hn5⟩
  show hp.objs.size ≤ dx
  rw [hL]
  exact Nat.le_of_lt (Nat.lt_of_lt_of_le hn4.lt dn)
/-- a made error -/
structure Made (h h' : Heap) (e C d : Addr) (v : Value) : Prop where
  keep : ∀ b o, h.get? b = some o → h'.get? b = some o
  new : h.objs.size ≤ e
  obj : ∃ oe vs, h'.get? e = some oe ∧ oe.cls = .ref C ∧ oe.dict = some d ∧ oe.data = .fields vs ∧ vs[1]? = some .none
  dbig : h.objs.size ≤ d
  dne : d ≠ e
  ns : h'.Ns1 d (fun y => if y = "at" then some v else none)
theorem err_made (T : Txt prog K mg C fI) {v : Value} {mb : Str → Option Value} (X : K.In s.heap) (hlim : s.heap.NoLimit) (hg : s.heap.Ns mainGlobals mg) (hb : s.heap.Ns builtinsNs mb) (hbs : mb "super" = some (.type "super")) (hroom : A.depth + 1 < recursionLimit)
    (hq : ∀ h' tk e d, Made s.heap h' e C d v → R (.ok (.ret (.ref e))) { s with heap := h', toks := tk }) :
    codeAny (model prog w) A (.call (.ref C) ⟨[v], []⟩) R s := by
  obtain ⟨nm, q, N, bs, bm, sn, sub, ab, col, dd, k0, k1, k2, k3, k5, hC, hbm, hal⟩ := T.cls
  obtain ⟨hp, g, dr, tk, os⟩ := s
  have k : ∀ b o, hp.get? b = some o → ((hp.push (kdv_tup [v])).push (excO C hp.objs.size)).get? b = some o := fun b o e => Heap.get?_push_of_some _ (Heap.get?_push_of_some _ e)
  have hget : ((hp.push (kdv_tup [v])).push (excO C hp.objs.size)).get? (hp.objs.size + 1) = some (excO C hp.objs.size) := by heap_get
  have hnx : K.lookup (hp.objs.size + 1) = none := by
    cases e : K.lookup (hp.objs.size + 1) with
    | none => rfl
    | some o =>
      have z : hp.get? (hp.objs.size + 1) = some o := X _ _ e
      exact absurd (Nat.lt_of_succ_lt (Heap.lt_size z)) (Nat.lt_irrefl _)
  refine call_own F.excBase_ValueError (fun X => refsVE_contains X bm hbm) (X _ _ hC) (looks_findIn X T.iC) (fun self => bind_fn X self T.tC) (one_size v) ?_
  refine err_init (s := ⟨(hp.push (kdv_tup [v])).push (excO C hp.objs.size), g, dr, tk, os⟩) T (X.keeps k) (hlim.keeps k) (hg.keeps k) (hb.keeps k) hbs hget hnx ?_ fun h' tk' dx t1 ⟨k', hx, dn, dne, hns⟩ => ?_
  · show A.depth + 1 < recursionLimit
    exact hroom
  · have old : ∀ b o, hp.get? b = some o → h'.get? b = some o := fun b o e => k' b o (Nat.ne_of_lt (Nat.lt_succ_of_lt (Heap.lt_size e))) (k b o e)
    have z : hp.objs.size + 1 + 1 ≤ dx := by
      first
        | (simpa only [Heap.size_push] using dn)
        | exact dn
        | (have q := dn; rw [Heap.size_push, Heap.size_push] at q; exact q)
    exact ⟨rfl, hq h' tk' (hp.objs.size + 1) dx ⟨old, Nat.le_succ _, ⟨_, _, hx, rfl, rfl, rfl, rfl⟩, Nat.le_trans (Nat.le_trans (Nat.le_succ _) (Nat.le_succ _)) z, dne, hns⟩⟩
end
end ErrX
theorem relO_at {v : V} {v' : Value} (r : RelV v v') (f : Str) : RelO (List.lookup f [(("at" : Str), v)]) (if f = "at" then some v' else none) := by
  by_cases hw : f = "at"
  · subst hw
    rw [if_pos rfl]
    have q : List.lookup ("at" : Str) [(("at" : Str), v)] = some v := by simp [List.lookup]
    rw [q]
    exact r
  · rw [if_neg hw]
    have qw : (f == ("at" : Str)) = false := by simpa using hw
    have q2 : List.lookup f [(("at" : Str), v)] = none := by simp [List.lookup, qw]
    rw [q2]
    trivial
section
variable {X : Cx} {C fI : Addr} {cn : Str}
/-- Err(e) -/
def tMkErr (C : Addr) (ta : TA) : L2.St → Hp → XK → Prop := fun σ H Q => ta σ H fun vs H1 => ∃ v, vs = [v] ∧ ∀ d, H1 d = none → Q (.ref C) (some d) (upd H1 d (.xd [(("at" : Str), v)]))
theorem pmk_err {a : Expr} {ta : TA} {p pos : Pos} {k : Nat} (T : ErrX.Txt X.prog X.K X.mg C fI) (hr : Room k X.A) (ha : PA X [a] ta) (hm : X.mg cn = some (.ref C)) (hg : Gl X cn := by rfl) (hdb : (cn == ("__debug__" : Str)) = false := by decide)
    (he : starEach (a :: []) X.env = (false, eval a X.env) :: starEach [] X.env := by rfl) (hpl : (backTo pos (starEach [] X.env)).any (·.1) = false := by rfl) :
    PMk X (.Call (.Name cn p) [a] [] pos) (tMkErr C ta) := by
  intro pins s σ H Q I h
  refine wpAny_Call_Name_kw (ld_glob I hg hm ?_ hdb)
  refine PySem.W.callWith_K (h₀ := X.base) I.ok.mod.kin T.kC (thn (ha.run pos pins s σ H _ I h) fun us s1 hh => ?_) he hpl
  obtain ⟨vs, H1, I1, r1, v, ev, q1⟩ := hh
  subst ev
  refine ⟨I1.kIn, ?_⟩
  cases r1 with
  | cons rv rn =>
    rename_i v' us'
    cases rn
    show wpAny _ _ (call (.ref C) [v']) _ _ _
    have hlim := I1.nolimit
    obtain ⟨mb, h1, h2⟩ := I1.mod.blt
    have hbk := I1.bk
    have hgl := I1.mod.glob.keeps I1.bk
    have hbl := h1.keeps I1.bk
    obtain ⟨hp, g, dr, tk, os⟩ := s1
    refine wpAny_call (ErrX.err_made T I1.kIn hlim hgl hbl ((h2 "super" (by decide)).trans (by first | boot_by_name | rfl | kernel_rfl)) (by have := hr.dp; omega) fun h' tk' e d M => ?_)
    show MkP X pins σ Q (.ref e) ⟨h', g, dr, tk', os⟩
    obtain ⟨oe, fv, hoe, hc, hd, hdat, h1⟩ := M.obj
    have hns := M.ns
    obtain ⟨G', g1, g2⟩ := restrict h' fun b => decide (b ≠ e)
    have gk : ∀ b, b ≠ e → G'.get? b = h'.get? b := fun b hb => g1 b (decide_eq_true hb)
    have ge : G'.get? e = none := g2 e (by simp)
    have old : ∀ b o, hp.get? b = some o → G'.get? b = some o := fun b o q => (gk b (Nat.ne_of_lt (Nat.lt_of_lt_of_le (Heap.lt_size q) M.new))).trans (M.keep b o q)
    have ob : ObjOk X.prog X.w (upd H1 d (.xd [(("at" : Str), v)])) G' d (.xd [(("at" : Str), v)]) :=
      ⟨_, hns.at (fun o q => (gk d M.dne).trans q), fun f => relO_at rv f⟩
    have J : Inv X pins σ (upd H1 d (.xd [(("at" : Str), v)])) ⟨G', g, dr, tk', os⟩ := I1.laid (t' := tk') old M.dbig ob
    refine ⟨e, oe, fv, ⟨G', g, dr, tk', os⟩, _, .ref C, some d, rfl, J, fun b o q => ?_, ge, hoe, ⟨hc, hd⟩, hdat, h1, ?_, rfl, I1.bare, raises_own T.exC T.tyC, q1 d (I1.hok.fresh M.dbig)⟩
    · by_cases hb : b = e
      · have q' : G'.get? b = some o := q
        rw [hb, ge] at q'; cases q'
      · exact (gk b hb).symm.trans q
    · rw [upd_ne (Ne.symm M.dne)]
      exact I1.hok.fresh M.new
/-- raise Err(e) -/
def sRaise (cn : Str) (m : M) : B := fun ε s => (m ε s).to fun d s1 => .ex cn "at" d s1
theorem s_raise {E : XK} {a : Expr} {m : M} {p pos pos2 : Pos} {k : Nat} (T : ErrX.Txt X.prog X.K X.mg C fI) (hc : X.calm = true) (hr : Room k X.A) (tk : Takes X (fun cls d _ H => E cls d H)) (ha : DE X E a m) (hm : X.mg cn = some (.ref C)) (hg : Gl X cn := by rfl) (hdb : (cn == ("__debug__" : Str)) = false := by decide)
    (he : starEach (a :: []) X.env = (false, eval a X.env) :: starEach [] X.env := by rfl) (hpl : (backTo pos (starEach [] X.env)).any (·.1) = false := by rfl) :
    DS X E (.Raise (some (.Call (.Name cn p) [a] [] pos)) none pos2) (sRaise cn m) := PSto (ps_raise hc tk (pmk_err T hr (a_cons ha a_nil he) hm hg hdb he hpl)) fun D σ H ⟨ε, s, μ, hε, hr, h⟩ => by
  refine ⟨ε, s, μ, hε, hr, ?_⟩
  have h : SO X.K X.mg E μ H ((m ε s).to fun d s1 => .ex cn "at" d s1) D := h
  show PL X.K X.mg E μ H ((m ε s).bind fun x s1 => R.ok [x] s1) _
  cases e : m ε s with
  | ok d s1 =>
    rw [e] at h
    intro μ1 H1 vs f1 r1 rvs
    cases rvs with
    | @cons _ v0 _ _ rv rs =>
      cases rs
      refine ⟨_, rfl, fun dx hdx => ?_⟩
      have h : Ex X.K X.mg E μ H cn "at" d s1 := h
      have f2 : Fw X.K μ1 H1 μ1 (upd H1 dx (.xd [(("at" : Str), v0)])) := Fw.new0 hdx
      exact h μ1 _ C dx _ (f1.trans f2) (r1.new0 hdx) hm upd_same (rv.fw f2)
  | exc c f d s1 =>
    rw [e] at h
    exact h
  | bad =>
    rw [e] at h
    exact h.elim
end
end Mi
namespace Mi
open PySem PySem.Spec PyProof.Rows L2

/-! ### what a call may let out, by the slots -/
def tMs (K : PySem.W.Frag) (mg : Str → Option Value) (E : L2.St → XK) (m : M) : TE := fun σ H Q => ∃ ε s μ, REnv K mg μ H ε σ ∧ Rel K mg μ s H ∧ PO K mg (E σ) μ H (m ε s) Q
abbrev DEs (X : Cx) (E : L2.St → XK) (e : Expr) (m : M) : Prop := PE X e (tMs X.K X.mg E m)
theorem PL.noE {K : PySem.W.Frag} {mg : Str → Option Value} {E E' : XK} {μ : List Addr} {H : Hp} {r : R (List D)} {Q : List V → Hp → Prop} (hn : ∀ c f d s, r ≠ .exc c f d s) (h : PL K mg E μ H r Q) : PL K mg E' μ H r Q := by
  cases r with
  | ok ds s => exact h
  | exc c f d s => exact absurd rfl (hn c f d s)
  | bad => exact h
section
variable {X : Cx} {pos p : Pos} {e : Expr} {es : List Expr} {m : M} {ms : Ev → S → R (List D)} {x : Str} {k n : Nat} {W : WX}
/-- the defs that a slot may hold, each with its promise -/
def Fam (X : Cx) (k n : Nat) (G : Str → Option (List D → S → R D)) : Prop := ∀ y F a, G y = some F → X.mg y = some (.ref a) → ∃ fd ps, FnOk X.prog X.w X.K X.mg X.base (L2.CX X.prog X.w) k a fd ps (spF X.K X.mg n F) ∧ PySem.W.keepIn X.K (.ref a) = true ∧ Binds X.K fd ps []
def mCallL (G : Str → Option (List D → S → R D)) (i : Nat) (ms : Ev → S → R (List D)) : M := fun ε s => match ε[i]? with
  | some (some (.fn y)) => (match G y with
    | some F => (ms ε s).bind fun ds s1 => F ds s1
    | none => .bad)
  | _ => .bad
theorem d_callL {G : Str → Option (List D → S → R D)} {i : Nat} (hG : Fam X k n G) (hr : Room k X.A) (tk : Takes X W) (ha : DA X E0 (e :: es) ms) (hl : ∀ ε s ds s1, ms ε s = .ok ds s1 → ds.length = n) (hne : ∀ ε s c f d s1, ms ε s ≠ .exc c f d s1)
    (hN : X.N[i]? = some x := by rfl) (hv : Vis X.env.scope x := by first | exact Or.inl rfl | exact Or.inr (Or.inl rfl) | exact Or.inr (Or.inr rfl)) (hdb : (x == ("__debug__" : Str)) = false := by decide) (hcd : (x == ("__classdict__" : Str)) = false := by decide)
    (he : starEach (e :: es) X.env = (false, eval e X.env) :: starEach es X.env := by rfl) (hpl : (backTo pos (starEach es X.env)).any (·.1) = false := by rfl) : DEs X (WE W) (.Call (.Name x p) (e :: es) [] pos) (mCallL G i ms) := by
  refine ⟨fun pins s σ H Q I h => ?_⟩
  obtain ⟨ε, st, μ, hε, hrl, h⟩ := h
  unfold mCallL at h
  cases q : ε[i]? with
  | none =>
    simp only [q] at h
    exact h.elim
  | some o =>
    cases o with
    | none =>
      simp only [q] at h
      exact h.elim
    | some d =>
      cases d with
      | fn y =>
        simp only [q] at h
        cases qG : G y with
        | none =>
          simp only [qG] at h
          exact h.elim
        | some F =>
          simp only [qG] at h
          obtain ⟨v, hv1, rv⟩ := hε.get i _ q
          cases rv with
          | @fn _ a hm =>
            obtain ⟨fd, ps, FO, hk, hb⟩ := hG y F a qG hm
            have hs : σ[i]? = some (some (V.ref a)) := hv1
            have hce : tCall (spF X.K X.mg n F) [] (WE W σ) (tL X.K X.mg E0 ms) σ H Q := by
              have h' : PL X.K X.mg (WE W σ) μ H (ms ε st) fun vs H1 => spF X.K X.mg n F (vs ++ []) H1 Q (WE W σ) := by
                have h0 : PO X.K X.mg (WE W σ) μ H ((ms ε st).bind fun ds s1 => F ds s1) Q := h
                cases e1 : ms ε st with
                | ok ds s1 =>
                  intro μ1 H1 vs f1 r1 rvs
                  rw [e1] at h0
                  have h1 : PO X.K X.mg (WE W σ) μ H (F ds s1) Q := h0
                  rw [List.append_nil]
                  exact ⟨by rw [← rvs.length]; exact hl ε st ds s1 e1, ds, s1, μ1, rvs, r1, PO.fw h1 f1⟩
                | exc c f d s1 => exact absurd e1 (hne ε st c f d s1)
                | bad =>
                  rw [e1] at h0
                  exact h0.elim
              exact ⟨ε, st, μ, hε, hrl, PL.noE (fun c f d s1 => hne ε st c f d s1) h'⟩
            refine wpAny_Call_Name_kw (thn ((pe_var (pos := p) hN hv hdb hcd).run pins s σ H (fun v H1 => v = .ref a ∧ H1 = H) I ⟨.ref a, hs, rfl, rfl⟩) fun u s1 ⟨v, H1, I1, r1, q1⟩ => ?_)
            obtain ⟨rfl, rfl⟩ := q1
            cases r1
            refine PySem.W.callWith_K (h₀ := X.base) I.ok.mod.kin hk (thn (ha.run pos pins s1 σ _ _ I1 hce) fun us s2 ⟨vs, H2, I2, r, q⟩ => ⟨I2.kIn, ?_⟩) he hpl
            have q : spF X.K X.mg n F (vs ++ []) H2 Q (WE W σ) := q
            rw [List.append_nil] at q
            exact run_fnS FO hr hb (passAt tk σ) I2 r q
      | _ =>
        simp only [q] at h
        exact h.elim
/-- a call of a def that may let out an error, its arguments none -/
theorem d_callS {F : List D → S → R D} {f : Addr} {fd : FuncData} {ps : List Str} (FO : FnOk X.prog X.w X.K X.mg X.base (L2.CX X.prog X.w) k f fd ps (spF X.K X.mg n F)) (hr : Room k X.A) (hm : X.mg x = some (.ref f)) (hk : PySem.W.keepIn X.K (.ref f) = true) (hb : Binds X.K fd ps []) (tk : Takes X W) (ha : DA X E0 (e :: es) ms)
    (hl : ∀ ε s ds s1, ms ε s = .ok ds s1 → ds.length = n) (hne : ∀ ε s c f d s1, ms ε s ≠ .exc c f d s1) (hg : Gl X x := by rfl) (hdb : (x == ("__debug__" : Str)) = false := by decide)
    (he : starEach (e :: es) X.env = (false, eval e X.env) :: starEach es X.env := by rfl) (hpl : (backTo pos (starEach es X.env)).any (·.1) = false := by rfl) : DEs X (WE W) (.Call (.Name x p) (e :: es) [] pos) (mCall F ms) :=
  PEto (pe_callS FO hr hg hm hk hb (fun σ => passAt tk σ) ha hdb he hpl) fun σ H Q h => by
    obtain ⟨ε, st, μ, hε, hrl, h0⟩ := h
    refine ⟨ε, st, μ, hε, hrl, ?_⟩
    have h0 : PO X.K X.mg (WE W σ) μ H ((ms ε st).bind fun ds s1 => F ds s1) Q := h0
    cases e1 : ms ε st with
    | ok ds s1 =>
      intro μ1 H1 vs f1 r1 rvs
      rw [e1] at h0
      have h1 : PO X.K X.mg (WE W σ) μ H (F ds s1) Q := h0
      exact ⟨by rw [← rvs.length]; exact hl ε st ds s1 e1, ds, s1, μ1, rvs, r1, PO.fw h1 f1⟩
    | exc c f d s1 => exact absurd e1 (hne ε st c f d s1)
    | bad =>
      rw [e1] at h0
      exact h0.elim
end

/-! ### try: e | x = e | return e, except C as n: suite -/
def wipeO (i : Nat) : O → O
  | .nx ε s => .nx (ε.set i none) s
  | .bk ε s => .bk (ε.set i none) s
  | .ct ε s => .ct (ε.set i none) s
  | .rt d s => .rt d s
  | _ => .bad
/-- m the expression, fin what is done with its value; su: what the suite does with an error (its class, its field) -/
def sTry (i : Nat) (m : M) (fin : D → B) (su : Str → Str → D → B) : B := fun ε s => match m ε s with
  | .ok d s1 => fin d ε s1
  | .exc c f d s1 => wipeO i (su c f d ε s1)
  | .bad => .bad
theorem takesF {X : Cx} : Takes X (fun _ _ _ _ => False) := fun _ _ x => by
  obtain ⟨_, _, _, _, _, _, _, _, _, _, _, _, _, _, _, _, z⟩ := x
  exact z.elim
theorem Rel.notX {K : PySem.W.Frag} {mg : Str → Option Value} {μ : List Addr} {H : Hp} {s : S} (r : Rel K mg μ s H) {dd : Addr} {fs : List (Str × V)} (h : H dd = some (.xd fs)) : dd ∉ μ := fun z => by
  obtain ⟨k, hk⟩ := List.mem_iff_getElem?.mp z
  have hl := (List.getElem?_eq_some_iff.mp hk).1
  rw [r.len] at hl
  have g := r.cell k _ dd (List.getElem?_eq_getElem hl) hk
  cases e : s[k] with
  | lst ds =>
    rw [e] at g
    obtain ⟨vs, h1, _⟩ := g
    rw [h] at h1
    cases h1
  | dic kvs =>
    rw [e] at g
    obtain ⟨vs, h1, _⟩ := g
    rw [h] at h1
    cases h1
section
variable {X : Cx} {E : XK} {x n : Str} {c : Value} {i : Nat} {suite : List Stmt} {b₀ : Stmt} {np pos pos' : Pos} {m : M} {suM : Addr → Value → Option Addr → B} {su : Str → Str → D → B} {fin : D → B}
/-- what the suite's mirror says, whatever the error's addresses -/
def Su (X : Cx) (c : Value) (i : Nat) (suM : Addr → Value → Option Addr → B) (su : Str → Str → D → B) : Prop := ∀ (cn f : Str) (d : D) (ε : Ev) (s : S), su cn f d ε s ≠ .bad → ∀ C, X.mg cn = some (.ref C) →
  PySem.W.exmOne X.K (.ref C) c = some true ∧ ∀ a dd : Addr, suM a (.ref C) (some dd) (ε.set i (some (.exn a C dd f d))) s = su cn f d ε s
theorem try_exc (hS : Su X c i suM su) {D' : Ends} {σ : L2.St} {H : Hp} {ε : Ev} {s1 : S} {μ : List Addr} {cn f : Str} {d : D} (hε : REnv X.K X.mg μ H ε σ) (h : SO X.K X.mg E μ H (wipeO i (su cn f d ε s1)) D') :
    Ex X.K X.mg (WE (wAs X.K c i (fun a cls d => tS X.K X.mg E0 (suM a cls d)) (fun _ _ _ _ => False) D') σ) μ H cn f d s1 := by
  intro μ1 H1 C dd v f1 r1 hm hd rv
  have nb : su cn f d ε s1 ≠ .bad := fun z => by
    rw [z] at h
    exact h.elim
  obtain ⟨hx, he⟩ := hS cn f d ε s1 nb C hm
  refine ⟨true, hx, fun _ a ha => ?_, fun z => by cases z⟩
  refine ⟨ε.set i (some (.exn a C dd f d)), s1, μ1, (hε.fw f1).set i (.exn hd (r1.notX hd) rv), r1, ?_⟩
  rw [he a dd]
  have h2 := SO.fw h f1
  cases e : su cn f d ε s1 with
  | nx ε2 s2 =>
    rw [e] at h2
    exact fun μ2 H2 σ2 f2 r2 e2 => h2 μ2 H2 _ f2 r2 (e2.forget i none)
  | bk ε2 s2 =>
    rw [e] at h2
    exact fun μ2 H2 σ2 f2 r2 e2 => h2 μ2 H2 _ f2 r2 (e2.forget i none)
  | ct ε2 s2 =>
    rw [e] at h2
    exact fun μ2 H2 σ2 f2 r2 e2 => h2 μ2 H2 _ f2 r2 (e2.forget i none)
  | rt d2 s2 =>
    rw [e] at h2
    exact h2
  | ex _ _ _ _ =>
    rw [e] at h2
    exact h2.elim
  | bad =>
    rw [e] at h2
    exact h2.elim
theorem try_sat {D' : Ends} {σ : L2.St} {H : Hp} {ε : Ev} {s : S} {μ : List Addr} {Q : VK} (hS : Su X c i suM su) (hε : REnv X.K X.mg μ H ε σ) (h : SO X.K X.mg E μ H (sTry i m fin su ε s) D')
    (hk : ∀ (d : D) (s1 : S) (μ1 : List Addr) (H1 : Hp) (v : V), Fw X.K μ H μ1 H1 → Rel X.K X.mg μ1 s1 H1 → RV X.K X.mg μ1 H1 d v → SO X.K X.mg E μ1 H1 (fin d ε s1) D' → Q v H1) :
    PO X.K X.mg (WE (wAs X.K c i (fun a cls d => tS X.K X.mg E0 (suM a cls d)) (fun _ _ _ _ => False) D') σ) μ H (m ε s) Q := by
  unfold sTry at h
  cases e : m ε s with
  | ok d s1 =>
    rw [e] at h
    exact fun μ1 H1 v f1 r1 rv => hk d s1 μ1 H1 v f1 r1 rv (SO.fw (o := fin d ε s1) h f1)
  | exc cn f d s1 =>
    rw [e] at h
    exact try_exc hS hε h
  | bad =>
    rw [e] at h
    exact h.elim
variable {e : Expr} {pos1 : Pos}
theorem s_tryE (hs : X.stack = X.env :: X.outer) (hf : X.env.frame = some X.env.locals) (hN : X.N.Nodup) (hi : X.N[i]? = some n) (hln : X.env.kindOf n = some .local) (hc : Names X x c)
    (he : ∀ (W : WX) (pn : List (Addr × Obj)) (xe : Value → Shared → Prop), Takes (X.tr pn xe) W → PassesOwn (model X.prog X.w) X.A X.env xe → DEs (X.tr pn xe) (WE W) e m)
    (hsu : ∀ (a : Addr) (oe : Obj) (cls : Value) (d : Option Addr) (pn : List (Addr × Obj)), Zc cls d oe → (∃ vs, oe.data = .fields vs) → DB (X.suite a ((a, oe) :: pn)) E0 (b₀ :: suite) (suM a cls d))
    (hS : Su X c i suM su) (hsw : swapsWith e none pos1.line X.env = pure false := by rfl) : DS X E (.Try [.Expr e pos1] [.ExceptHandler (some (.Name x np)) (some n) (b₀ :: suite) pos'] [] [] pos) (sTry i m (fun _ ε s => .nx ε s) su) :=
  PSto (ps_try_as (tb := fun W => tDrop (tMs X.K X.mg (WE W) m)) (ts := fun a cls d => tS X.K X.mg E0 (suM a cls d)) (Wout := fun _ _ _ _ => False) hs hf hN hi hln hc takesF (fun W pn xe tk po => pss_one (ps_expr (he W pn xe tk po) hsw)) hsu)
    fun D σ H ⟨ε, s, μ, hε, hr, h⟩ => ⟨ε, s, μ, hε, hr, try_sat hS hε h fun d s1 μ1 H1 v f1 r1 rv q => q μ1 H1 σ Fw.refl r1 (hε.fw f1)⟩
theorem s_trySet (j : Nat) {y : Str} {pos2 : Pos} (hs : X.stack = X.env :: X.outer) (hf : X.env.frame = some X.env.locals) (hN : X.N.Nodup) (hi : X.N[i]? = some n) (hln : X.env.kindOf n = some .local) (hc : Names X x c)
    (he : ∀ (W : WX) (pn : List (Addr × Obj)) (xe : Value → Shared → Prop), Takes (X.tr pn xe) W → PassesOwn (model X.prog X.w) X.A X.env xe → DEs (X.tr pn xe) (WE W) e m)
    (hsu : ∀ (a : Addr) (oe : Obj) (cls : Value) (d : Option Addr) (pn : List (Addr × Obj)), Zc cls d oe → (∃ vs, oe.data = .fields vs) → DB (X.suite a ((a, oe) :: pn)) E0 (b₀ :: suite) (suM a cls d))
    (hS : Su X c i suM su) (hj : X.N[j]? = some y := by rfl) (hx : Loc X.env.scope y := by first | exact Or.inl rfl | exact Or.inr rfl) (hsw : swapsWith e (some (.Name y pos2)) pos1.line X.env = pure false := by rfl) (hfn : X.fn y = true ∨ X.env.scope.names.lookup y = some .local := by first | exact .inl rfl | exact .inr rfl) :
    DS X E (.Try [.Assign [.Name y pos2] e pos1] [.ExceptHandler (some (.Name x np)) (some n) (b₀ :: suite) pos'] [] [] pos) (sTry i m (fun d ε s => .nx (ε.set j (some d)) s) su) :=
  PSto (ps_try_as (tb := fun W => tAsg (tMs X.K X.mg (WE W) m) (gName j)) (ts := fun a cls d => tS X.K X.mg E0 (suM a cls d)) (Wout := fun _ _ _ _ => False) hs hf hN hi hln hc takesF (fun W pn xe tk po => pss_one (ps_set (X := X.tr pn xe) hN hj hx (he W pn xe tk po) hsw hfn)) hsu)
    fun D σ H ⟨ε, s, μ, hε, hr, h⟩ => ⟨ε, s, μ, hε, hr, try_sat hS hε h fun d s1 μ1 H1 v f1 r1 rv q => q μ1 H1 _ Fw.refl r1 ((hε.fw f1).set j rv)⟩
theorem s_tryRet (hs : X.stack = X.env :: X.outer) (hf : X.env.frame = some X.env.locals) (hN : X.N.Nodup) (hi : X.N[i]? = some n) (hln : X.env.kindOf n = some .local) (hc : Names X x c)
    (he : ∀ (W : WX) (pn : List (Addr × Obj)) (xe : Value → Shared → Prop), Takes (X.tr pn xe) W → PassesOwn (model X.prog X.w) X.A X.env xe → DEs (X.tr pn xe) (WE W) e m)
    (hsu : ∀ (a : Addr) (oe : Obj) (cls : Value) (d : Option Addr) (pn : List (Addr × Obj)), Zc cls d oe → (∃ vs, oe.data = .fields vs) → DB (X.suite a ((a, oe) :: pn)) E0 (b₀ :: suite) (suM a cls d))
    (hS : Su X c i suM su) : DS X E (.Try [.Return (some e) pos1] [.ExceptHandler (some (.Name x np)) (some n) (b₀ :: suite) pos'] [] [] pos) (sTry i m (fun d _ s => .rt d s) su) :=
  PSto (ps_try_as (tb := fun W => tRet (tMs X.K X.mg (WE W) m)) (ts := fun a cls d => tS X.K X.mg E0 (suM a cls d)) (Wout := fun _ _ _ _ => False) hs hf hN hi hln hc takesF (fun W pn xe tk po => pss_one (ps_ret (he W pn xe tk po))) hsu)
    fun D σ H ⟨ε, s, μ, hε, hr, h⟩ => ⟨ε, s, μ, hε, hr, try_sat hS hε h fun d s1 μ1 H1 v f1 r1 rv q => q μ1 H1 v Fw.refl r1 rv⟩
end

/-! ### in the suite: e.at, isinstance(e, T) -/
open Classical in
noncomputable def mAtK (a : Addr) (cls : Value) (dd : Option Addr) (C₀ : Addr) : D → S → R D
  | .exn a' C dd' f d, s => if a' = a ∧ cls = .ref C ∧ dd = some dd' ∧ C = C₀ ∧ f = "at" then .ok d s else .bad
  | _, _ => .bad
noncomputable def mAt (a : Addr) (cls : Value) (dd : Option Addr) (C₀ : Addr) (m : M) : M := fun ε s => (m ε s).bind (mAtK a cls dd C₀)
section
variable {X : Cx} {E : XK} {a C₀ : Addr} {oe : Obj} {cls : Value} {d : Option Addr} {pn : List (Addr × Obj)} {e : Expr} {m : M} {pos : Pos}
open Classical in
theorem d_at (T : XfC X.K C₀) (hno : PySem.W.findIn X.K (.ref C₀) "at" = some none) (hz : Zc cls d oe) (hf : ∃ vs, oe.data = .fields vs) (he : DE (X.suite a ((a, oe) :: pn)) E e m) (hb : attributeBase e "at" X.env (eval e X.env) = eval e X.env := by rfl) :
    DE (X.suite a ((a, oe) :: pn)) E (.Attribute e "at" pos) (mAt a cls d C₀ m) := PEto (pe_xf T hno hz hf he hb) fun σ H Q ⟨ε, s, μ, hε, hr, h⟩ => by
  refine ⟨ε, s, μ, hε, hr, PO.seq h fun x s1 μ1 H1 v f1 r1 rv q => ?_⟩
  have q := PO.fw (r := mAtK a cls d C₀ x s1) q f1
  cases rv with
  | exn h1 h2 h3 =>
    obtain ⟨⟨rfl, hc, hd, rfl, rfl⟩, q2⟩ := PO.ite q
    exact ⟨rfl, hc, _, _, _, hd, h1, by simp [List.lookup], PO.same q2 r1 h3⟩
  | _ => exact q.elim
open Classical in
/-- isinstance(e, T): ans tells, T by T -/
noncomputable def cIsE (a : Addr) (cls : Value) (dd : Option Addr) (C₀ : Addr) (ans : D → Option Bool) : List D → S → R D
  | [.exn a' C dd' _ _, t], s => if a' = a ∧ cls = .ref C ∧ dd = some dd' ∧ C = C₀ then (match ans t with
    | some b => .ok (.bl b) s
    | none => .bad) else .bad
  | _, _ => .bad
/-- what the class at C₀ must say, so that isinstance asks its instances rightly -/
structure IsC (K : PySem.W.Frag) (C : Addr) : Prop where
  hc : (PySem.W.clsIn K C).isSome = true
  hg : PySem.W.findIn K (.ref C) "__getattribute__" = some (some (.builtin "BaseException.__getattribute__"))
  hk : PySem.W.findIn K (.ref C) "__getattr__" = some none
  hs : PySem.W.subIn K (.ref C) (.type "BaseException") = some true
  ha : PySem.W.findIn K (.ref C) "__class__" = some (some (.builtin "object.__class__"))
  hn : PySem.W.specialIn K (.builtin "object.__class__") "__get__" = some (some (.builtin "getset_descriptor.__get__"))
  ht : PySem.W.takesIn K (.builtin "object.__class__") = some true
  hm : PySem.W.mroIn K C (.type "object") = some true
def rIsD (K : PySem.W.Frag) (C a : Addr) (cls : Value) (d : Option Addr) : List V → Hp → VK → Prop := fun xs H Q => ∃ (c : V) (cv : Value) (b : Bool) (dd : Addr) (fs : List (Str × V)), xs = [.ref a, c] ∧ cls = .ref C ∧ d = some dd ∧ H dd = some (.xd fs) ∧ (∀ u, RelV c u → u = cv) ∧ PySem.W.kitOne K (.ref C) cv = some b ∧ Q (.bl b) H
theorem call_isD (C : IsC X.K C₀) (hz : Zc cls d oe) (hf : ∃ vs, oe.data = .fields vs) : CallR (X.suite a ((a, oe) :: pn)) (.builtin "isinstance") (rIsD X.K C₀ a cls d) := by
  intro pins s σ H xs us Q I r h
  obtain ⟨c, cv, b, dd, fs, rfl, rfl, rfl, hdd, hcv, e, q⟩ := h
  cases r with
  | cons rx rr =>
    cases rr with
    | cons rt rr =>
      cases rr
      cases rx
      have ec := hcv _ rt
      subst ec
      obtain ⟨hget, _⟩ := I.pin (a, oe) (List.mem_append.mpr (.inl List.mem_cons_self))
      obtain ⟨vs, hv⟩ := hf
      have hx : ObjOk X.prog X.w H s.heap dd (.xd fs) := I.hok dd _ hdd
      obtain ⟨mA, hns, hr⟩ := hx
      obtain ⟨od, ho, hl⟩ := lookIn_ns hns
      have J : PySem.W.InstAt s.heap a oe C₀ (some od) := ⟨hget, hz.1, by unfold PySem.W.notCls; rw [hv] <;> rfl, by rw [hz.2]; exact ho⟩
      exact PySem.W.kia_one (PySem.W.kitx_exc C.hc C.hg C.hk C.hs C.ha C.hn C.ht C.hm) I.kIn J e (fun z => nomatch z) fun tk => ⟨.bl b, H, I.kept (t' := tk) fun _ _ z => z, rfl, q⟩
open Classical in
theorem cs_isE {K : PySem.W.Frag} {mg : Str → Option Value} {ans : D → Option Bool} (hans : ∀ t b, ans t = some b → ∃ cv, (∀ μ H v, RV K mg μ H t v → ∀ u, RelV v u → u = cv) ∧ PySem.W.kitOne K (.ref C₀) cv = some b) : CaS K mg (rIsD K C₀ a cls d) (cIsE a cls d C₀ ans) := fun E μ H s xs vs Q hr rs h => by
  cases rs with
  | nil => exact h.elim
  | @cons x v _ _ r rs' =>
    cases rs' with
    | nil => cases r <;> exact h.elim
    | @cons y v2 _ _ r' rs'' =>
      cases rs'' with
      | cons _ _ => cases r <;> exact h.elim
      | nil =>
        cases r with
        | exn h1 h2 h3 =>
          obtain ⟨⟨rfl, hc, hd, rfl⟩, q⟩ := PO.ite (show PO K mg E μ H (if _ ∧ cls = .ref _ ∧ d = some _ ∧ _ = C₀ then (match ans y with
            | some b => .ok (.bl b) s
            | none => .bad) else .bad) Q from h)
          split at q
          · rename_i b eb
            obtain ⟨cv, e1, e2⟩ := hans y b eb
            exact ⟨v2, cv, b, _, _, rfl, hc, hd, h1, fun u ru => e1 μ H v2 r' u ru, e2, PO.same q hr (.bl b)⟩
          · exact q.elim
        | _ => exact h.elim
end
end Mi
namespace Mi
open PySem PySem.Spec PyProof.Rows L2

/-! ### {'k': 1} -/
def mDic1 (k : Str) (i : Int) : M := fun _ s => .ok (.ref s.length) (s ++ [C.dic [(Sum.inr k, .int i)]])
theorem upd_upd {H : Hp} {p : Addr} {a b : HO} : upd (upd H p a) p b = upd H p b := by
  funext q
  by_cases h : q = p
  · rw [h, upd_same, upd_same]
  · rw [upd_ne h, upd_ne h, upd_ne h]
section
variable {X : Cx} {E : XK} {pos p1 p2 : Pos}
theorem d_dict1 {k : Str} {i : Int} {j1 j2 : Nat} : DE X E (.Dict [some (.Constant (.str k) j1 p1)] [.Constant (.int i) j2 p2] pos) (mDic1 k i) :=
  PEto (pe_disp (pps_cons pe_str pe_int pps_nil) rfl rfl (fun z => by cases z) (show 1 ≤ 15 by decide)) fun σ H Q ⟨ε, s, μ, hε, hr, h⟩ => by
    intro p hp
    refine ⟨upd_same, [(Sum.inr k, .int i)], rfl, (show 1 ≤ 15 by decide), ?_⟩
    rw [upd_upd]
    have f : Fw X.K μ H (μ ++ [p]) (upd H p (.dK (mergeK [] [(Sum.inr k, V.int i)]))) := Fw.new hp
    refine (show PO X.K X.mg E μ H (.ok (.ref s.length) (s ++ [C.dic [(Sum.inr k, .int i)]])) Q from h) (μ ++ [p]) _ (.ref p) f (hr.push hp ⟨_, upd_same, rfl, .cons (.int i) .nil⟩) (.ref ?_)
    rw [List.getElem?_append_right (by rw [hr.len]; exact Nat.le_refl _), hr.len, Nat.sub_self]
    rfl

/-! ### a, b, c = x, y, z -/
def par3K (i j l : Nat) (ε : Ev) : List D → S → O
  | [u, v, w], s => .nx (((ε.set i (some u)).set j (some v)).set l (some w)) s
  | _, _ => .bad
def sPar3 (i j l : Nat) (ms : Ev → S → R (List D)) : B := fun ε s => (ms ε s).to (par3K i j l ε)
theorem SO.toL {K : PySem.W.Frag} {mg : Str → Option Value} {E : XK} {μ : List Addr} {H : Hp} {D' : Ends} {g : List D → S → O} {Q : List V → Hp → Prop} {r : R (List D)} (h : SO K mg E μ H (r.to g) D')
    (k : ∀ (d : List D) (s1 : S) (μ1 : List Addr) (H1 : Hp) (v : List V), Fw K μ H μ1 H1 → Rel K mg μ1 s1 H1 → RVs K mg μ1 H1 d v → SO K mg E μ1 H1 (g d s1) D' → Q v H1) : PL K mg E μ H r Q := by
  cases r with
  | ok d s1 => exact fun μ1 H1 v f1 r1 rv => k d s1 μ1 H1 v f1 r1 rv (SO.fw (o := g d s1) h f1)
  | exc c n d s1 => exact h
  | bad => exact h.elim
theorem s_par3 (i j l : Nat) {x y z : Str} {a b c : Expr} {ms : Ev → S → R (List D)} {px py pz pt pos : Pos} {kt k2 pt2} (hc : X.calm = true) (hN : X.N.Nodup) (ha : DA X E [a, b, c] ms) (hi : X.N[i]? = some x := by rfl) (hj : X.N[j]? = some y := by rfl) (hl : X.N[l]? = some z := by rfl) (hij : i ≠ j := by decide) (hil : i ≠ l := by decide) (hjl : j ≠ l := by decide)
    (hx : X.env.scope.names.lookup x = some .local := by rfl) (hy : X.env.scope.names.lookup y = some .local := by rfl) (hz : X.env.scope.names.lookup z = some .local := by rfl)
    (hw : swappedStores [.Tuple [.Name x px, .Name y py, .Name z pz] kt pt] (.Tuple [a, b, c] k2 pt2) X.env = pure (some [x, y, z]) := by rfl)
    (hs : swapsWithSole [.Tuple [.Name x px, .Name y py, .Name z pz] kt pt] (.Tuple [a, b, c] k2 pt2) pos.line X.env = pure false := by rfl) :
    DS X E (.Assign [.Tuple [.Name x px, .Name y py, .Name z pz] kt pt] (.Tuple [a, b, c] k2 pt2) pos) (sPar3 i j l ms) := PSto (ps_par3 hc hN hi hj hl hij hil hjl hx hy hz ha hw hs) fun D σ H ⟨ε, s, μ, hε, hr, h⟩ => by
  refine ⟨ε, s, μ, hε, hr, SO.toL (g := par3K i j l ε) h fun ds s1 μ1 H1 vs f1 r1 rvs q => ?_⟩
  cases rvs with
  | nil => exact q.elim
  | cons ra rvs =>
    cases rvs with
    | nil => exact q.elim
    | cons rb rvs =>
      cases rvs with
      | nil => exact q.elim
      | cons rc rvs =>
        cases rvs with
        | cons _ _ => exact q.elim
        | nil => exact ⟨_, _, _, rfl, q μ1 H1 _ Fw.refl r1 ((((hε.fw f1).set i ra).set j rb).set l rc)⟩

/-! ### a, b = x, y -/
def par2K (i j : Nat) (ε : Ev) : List D → S → O
  | [u, v], s => .nx ((ε.set i (some u)).set j (some v)) s
  | _, _ => .bad
def sPar2 (i j : Nat) (ms : Ev → S → R (List D)) : B := fun ε s => (ms ε s).to (par2K i j ε)
theorem s_par2 (i j : Nat) {x y : Str} {a b : Expr} {ms : Ev → S → R (List D)} {px py pt pos : Pos} {kt k2 pt2} (hc : X.calm = true) (hN : X.N.Nodup) (ha : DA X E [a, b] ms) (hi : X.N[i]? = some x := by rfl) (hj : X.N[j]? = some y := by rfl) (hij : i ≠ j := by decide)
    (hx : X.env.scope.names.lookup x = some .local := by rfl) (hy : X.env.scope.names.lookup y = some .local := by rfl)
    (hw : swappedStores [.Tuple [.Name x px, .Name y py] kt pt] (.Tuple [a, b] k2 pt2) X.env = pure (some [x, y]) := by rfl)
    (hs : swapsWithSole [.Tuple [.Name x px, .Name y py] kt pt] (.Tuple [a, b] k2 pt2) pos.line X.env = pure false := by rfl) :
    DS X E (.Assign [.Tuple [.Name x px, .Name y py] kt pt] (.Tuple [a, b] k2 pt2) pos) (sPar2 i j ms) := PSto (ps_par hc hN hi hj hij hx hy ha hw hs) fun D σ H ⟨ε, s, μ, hε, hr, h⟩ => by
  refine ⟨ε, s, μ, hε, hr, SO.toL (g := par2K i j ε) h fun ds s1 μ1 H1 vs f1 r1 rvs q => ?_⟩
  cases rvs with
  | nil => exact q.elim
  | cons ra rvs =>
    cases rvs with
    | nil => exact q.elim
    | cons rb rvs =>
      cases rvs with
      | cons _ _ => exact q.elim
      | nil => exact ⟨_, _, rfl, q μ1 H1 _ Fw.refl r1 (((hε.fw f1).set i ra).set j rb)⟩
end
end Mi
namespace Mi
open PySem PySem.Spec PyProof.Rows L2

/-! ### short words for the built-ins -/
section
variable {X : Cx} {E : XK} {pos p : Pos} {e : Expr} {es : List Expr} {ms : Ev → S → R (List D)}
theorem d_len (hm : X.mg "len" = none) (ha : DA X E [e] ms) (hg : Gl X "len" := by rfl) (he : starEach [e] X.env = (false, eval e X.env) :: starEach [] X.env := by rfl) (hpl : (backTo pos (starEach [] X.env)).any (·.1) = false := by rfl) : DE X E (.Call (.Name "len" p) [e] [] pos) (mCall cLen ms) :=
  d_callB call_len cs_len hm (by boot_by_name) ha hg (by decide) (by decide) he hpl
theorem d_abs (hm : X.mg "abs" = none) (ha : DA X E [e] ms) (hg : Gl X "abs" := by rfl) (he : starEach [e] X.env = (false, eval e X.env) :: starEach [] X.env := by rfl) (hpl : (backTo pos (starEach [] X.env)).any (·.1) = false := by rfl) : DE X E (.Call (.Name "abs" p) [e] [] pos) (mCall cAbs ms) :=
  d_callB call_abs cs_abs hm (by boot_by_name) ha hg (by decide) (by decide) he hpl
theorem d_ord (hm : X.mg "ord" = none) (ha : DA X E [e] ms) (hg : Gl X "ord" := by rfl) (he : starEach [e] X.env = (false, eval e X.env) :: starEach [] X.env := by rfl) (hpl : (backTo pos (starEach [] X.env)).any (·.1) = false := by rfl) : DE X E (.Call (.Name "ord" p) [e] [] pos) (mCall cOrd ms) :=
  d_callB call_ord cs_ord hm (by boot_by_name) ha hg (by decide) (by decide) he hpl
theorem d_int1 (hm : X.mg "int" = none) (ha : DA X E [e] ms) (hg : Gl X "int" := by rfl) (he : starEach [e] X.env = (false, eval e X.env) :: starEach [] X.env := by rfl) (hpl : (backTo pos (starEach [] X.env)).any (·.1) = false := by rfl) : DE X E (.Call (.Name "int" p) [e] [] pos) (mCall cInt ms) :=
  d_callTy call_int1 cs_int hm (by boot_by_name) ha hg (by decide) (by decide) he hpl
theorem d_tuple1 (hm : X.mg "tuple" = none) (ha : DA X E [e] ms) (hg : Gl X "tuple" := by rfl) (he : starEach [e] X.env = (false, eval e X.env) :: starEach [] X.env := by rfl) (hpl : (backTo pos (starEach [] X.env)).any (·.1) = false := by rfl) : DE X E (.Call (.Name "tuple" p) [e] [] pos) (mCall cTuple ms) :=
  d_callTy call_tuple_of cs_tuple hm (by boot_by_name) ha hg (by decide) (by decide) he hpl
theorem d_list1 (hm : X.mg "list" = none) (ha : DA X E [e] ms) (hg : Gl X "list" := by rfl) (he : starEach [e] X.env = (false, eval e X.env) :: starEach [] X.env := by rfl) (hpl : (backTo pos (starEach [] X.env)).any (·.1) = false := by rfl) : DE X E (.Call (.Name "list" p) [e] [] pos) (mCall cList ms) :=
  d_callTy call_list_of cs_list hm (by boot_by_name) ha hg (by decide) (by decide) he hpl
variable {f : Expr}
theorem d_max2 (hc : X.calm = true) (hm : X.mg "max" = none) (ha : DA X E [e, f] ms) (hg : Gl X "max" := by rfl) (he : starEach [e, f] X.env = (false, eval e X.env) :: starEach [f] X.env := by rfl) (hpl : (backTo pos (starEach [f] X.env)).any (·.1) = false := by rfl) : DE X E (.Call (.Name "max" p) [e, f] [] pos) (mCall cMax2 ms) :=
  d_callB (call_max2 hc) cs_max2 hm (by boot_by_name) ha hg (by decide) (by decide) he hpl
theorem d_min2 (hc : X.calm = true) (hm : X.mg "min" = none) (ha : DA X E [e, f] ms) (hg : Gl X "min" := by rfl) (he : starEach [e, f] X.env = (false, eval e X.env) :: starEach [f] X.env := by rfl) (hpl : (backTo pos (starEach [f] X.env)).any (·.1) = false := by rfl) : DE X E (.Call (.Name "min" p) [e, f] [] pos) (mCall cMin2 ms) :=
  d_callB (call_min2 hc) cs_min2 hm (by boot_by_name) ha hg (by decide) (by decide) he hpl
theorem d_isi (hm : X.mg "isinstance" = none) (ha : DA X E [e, f] ms) (hg : Gl X "isinstance" := by rfl) (he : starEach [e, f] X.env = (false, eval e X.env) :: starEach [f] X.env := by rfl) (hpl : (backTo pos (starEach [f] X.env)).any (·.1) = false := by rfl) : DE X E (.Call (.Name "isinstance" p) [e, f] [] pos) (mCall cIsi ms) :=
  d_callB call_isi cs_isi hm (by boot_by_name) ha hg (by decide) (by decide) he hpl
/-! ### short words for the operators -/
variable {a b : Expr} {ma mb : M}
theorem d_add (ha : DE X E a ma) (hb : DE X E b mb) : DE X E (.BinOp a .Add b pos) (mOp oAdd ma mb) := d_op or_add os_add ha hb
theorem d_sub (ha : DE X E a ma) (hb : DE X E b mb) : DE X E (.BinOp a .Sub b pos) (mOp oSub ma mb) := d_op op_sub (os_I fun _ _ _ _ => .int _) ha hb
theorem d_mul (ha : DE X E a ma) (hb : DE X E b mb) : DE X E (.BinOp a .Mult b pos) (mOp oMul ma mb) := d_op op_mulW (os_IC fun _ _ _ _ => .int _) ha hb
theorem d_fdiv (ha : DE X E a ma) (hb : DE X E b mb) : DE X E (.BinOp a .FloorDiv b pos) (mOp oFdiv ma mb) := d_op op_fdivW (os_IC fun _ _ _ _ => .int _) ha hb
theorem d_mod (ha : DE X E a ma) (hb : DE X E b mb) : DE X E (.BinOp a .Mod b pos) (mOp oMod ma mb) := d_op op_mod (os_IC fun _ _ _ _ => .int _) ha hb
theorem d_pow (ha : DE X E a ma) (hb : DE X E b mb) : DE X E (.BinOp a .Pow b pos) (mOp oPow ma mb) := d_op op_pow (os_IC fun _ _ _ _ => .int _) ha hb
theorem os_lt {K : PySem.W.Frag} {mg : Str → Option Value} : OpS K mg (rI0 fun i j => .bl (decide (i < j))) oLt := os_I fun _ _ _ _ => .bl _
theorem os_le {K : PySem.W.Frag} {mg : Str → Option Value} : OpS K mg (rI0 fun i j => .bl (decide (i ≤ j))) oLe := os_I fun _ _ _ _ => .bl _
theorem os_gt {K : PySem.W.Frag} {mg : Str → Option Value} : OpS K mg (rI0 fun i j => .bl (decide (j < i))) oGt := os_I fun _ _ _ _ => .bl _
theorem os_ge {K : PySem.W.Frag} {mg : Str → Option Value} : OpS K mg (rI0 fun i j => .bl (decide (j ≤ i))) oGe := os_I fun _ _ _ _ => .bl _
theorem d_idx (ha : DE X E a ma) (hb : DE X E b mb) (hp : PlainIx b := by intro _ _; rfl) : DE X E (.Subscript a b pos) (mOp oIx ma mb) := d_ix ix_seq os_ix ha hb hp
end

/-! ### a def by its mirror -/
/-- the def's mirror: its slots at the entry, then the body -/
def runO : O → R D
  | .rt d s => .ok d s
  | .nx _ s => .ok .non s
  | .ex c f d s => .exc c f d s
  | _ => .bad
def runF (n N : Nat) (b : B) : List D → S → R D := fun ds s => if ds.length = n then runO (b (ds.map some ++ List.replicate (N - n) none) s) else .bad
/-- the global name x is a def that does what F does -/
def Cal (P : Program) (w : World) (K : PySem.W.Frag) (mg : Str → Option Value) (base : Heap) (k n : Nat) (x : Str) (F : List D → S → R D) : Prop :=
  ∃ f fd ps, mg x = some (.ref f) ∧ FnOk P w K mg base (L2.CX P w) k f fd ps (spF K mg n F) ∧ PySem.W.keepIn K (.ref f) = true ∧ Binds K fd ps []
/-- the text's def stands behind the top -/
structure DefAt (K : PySem.W.Frag) (mg : Str → Option Value) (x : Str) (st : Stmt) (ps : List Str) : Prop where
  ex : ∃ f fd, mg x = some (.ref f) ∧ Fun K x x st f fd ∧ Binds K fd ps []
section
variable {P : Program} {w : World} {K : PySem.W.Frag} {mg : Str → Option Value} {base : Heap} {k n : Nat} {x : Str}
theorem Cal.mono {j : Nat} {F : List D → S → R D} (c : Cal P w K mg base j n x F) (h : j ≤ k) : Cal P w K mg base k n x F := by
  obtain ⟨f, fd, ps, hm, G, hk, hb⟩ := c
  exact ⟨f, fd, ps, hm, G.mono h, hk, hb⟩
theorem start_rel {μ : List Addr} {H : Hp} {ds : List D} {vs : List V} {N : List Str} (r : RVs K mg μ H ds vs) : REnv K mg μ H (ds.map some ++ List.replicate (N.length - ds.length) none) (L2.start N vs) := by
  unfold L2.start
  rw [← r.length]
  refine ⟨by rw [List.length_append, List.length_append, List.length_map, List.length_map, r.length, List.length_replicate, List.length_replicate], fun i d e => ?_⟩
  by_cases hi : i < ds.length
  · rw [List.getElem?_append_left (by rw [List.length_map]; exact hi), List.getElem?_map] at e
    cases q : ds[i]? with
    | none =>
      rw [q] at e
      cases e
    | some d' =>
      rw [q] at e
      cases e
      obtain ⟨v, hv, rv⟩ := r.get q
      refine ⟨v, ?_, rv⟩
      rw [List.getElem?_append_left (by rw [List.length_map, ← r.length]; exact hi), List.getElem?_map, hv]
      rfl
  · rw [List.getElem?_append_right (by rw [List.length_map]; omega)] at e
    obtain ⟨_, e2⟩ := List.getElem?_eq_some_iff.mp e
    rw [List.getElem_replicate] at e2
    cases e2
theorem fnok_of {st : Stmt} {N ps : List Str} {B : Mi.B} {f : Addr} {fd : FuncData} (F : Fun K x x st f fd) (S : FnScope N ps (defScope st)) (hn : ps.length = n)
    (hbody : ∀ (f : Addr) (cdv : Value) (A : Around) (outer : List Env) (s : Shared) (H : Hp) (E : XK), Room k (A.deeper (envOfC x (defScope st) s.heap.objs.size f cdv)) →
      DB (cxOf (L2.CX P w) P w K mg base N x (defScope st) f cdv A outer s H E) E (defBody st) B) : FnOk P w K mg base (L2.CX P w) (k + 1) f fd ps (spF K mg n (runF n N.length B)) := by
  refine F.okX S (fun vs H Q E h => by rw [h.1, hn]) (fun cdv A outer s H vs Q E hr h => ⟨_, hbody f cdv A outer s H E hr, ?_⟩)
  obtain ⟨hl, ds, s, μ, rvs, rel, h⟩ := h
  refine ⟨_, s, μ, start_rel rvs, rel, ?_⟩
  obtain ⟨hc, h⟩ := PO.ite (show PO K mg E μ H (if ds.length = n then runO (B (ds.map some ++ List.replicate (N.length - n) none) s) else .bad) Q from h)
  rw [hc]
  cases e : B (ds.map some ++ List.replicate (N.length - n) none) s with
  | nx ε s1 =>
    rw [e] at h
    exact fun μ1 H1 σ1 f1 r1 e1 => (show PO K mg E μ H (.ok .non s1) Q from h) μ1 H1 .non f1 r1 .non
  | rt d s1 =>
    rw [e] at h
    exact h
  | bk ε s1 =>
    rw [e] at h
    exact h.elim
  | ct ε s1 =>
    rw [e] at h
    exact h.elim
  | ex c f d s1 =>
    rw [e] at h
    exact h
  | bad =>
    rw [e] at h
    exact h.elim
theorem cal_of {st : Stmt} {N ps : List Str} {B : Mi.B} (D : DefAt K mg x st ps) (S : FnScope N ps (defScope st)) (hn : ps.length = n)
    (hbody : ∀ (f : Addr) (cdv : Value) (A : Around) (outer : List Env) (s : Shared) (H : Hp) (E : XK), Room k (A.deeper (envOfC x (defScope st) s.heap.objs.size f cdv)) →
      DB (cxOf (L2.CX P w) P w K mg base N x (defScope st) f cdv A outer s H E) E (defBody st) B) : Cal P w K mg base (k + 1) n x (runF n N.length B) := by
  obtain ⟨f, fd, hm, F, hb⟩ := D.ex
  exact ⟨f, fd, ps, hm, fnok_of F S hn hbody, F.kp, hb⟩
theorem b_bad {X : Cx} {E : XK} {sts : List Stmt} : DB X E sts (fun _ _ => .bad) := ⟨fun pins s σ H D I ⟨_, _, _, _, _, h⟩ => h.elim⟩
/-- at no level -/
theorem cal_bad {st : Stmt} {N ps : List Str} (D : DefAt K mg x st ps) (S : FnScope N ps (defScope st)) (hn : ps.length = n) : Cal P w K mg base (k + 1) n x (runF n N.length fun _ _ => .bad) := cal_of D S hn fun _ _ _ _ _ _ _ _ => b_bad
end
section
variable {X : Cx} {E : XK} {k n : Nat} {x : Str} {F : List D → S → R D} {pos p : Pos} {e : Expr} {es : List Expr} {ms : Ev → S → R (List D)}
theorem len0 : ∀ (ε : Ev) (s : S) (ds : List D) (s1 : S), mNil ε s = .ok ds s1 → ds.length = 0 := fun _ _ _ _ h => len_nil h
/-- f(e, ..) -/
theorem d_cal (c : Cal X.prog X.w X.K X.mg X.base k n x F) (hr : Room k X.A) (hx : Passes (L2.CX X.prog X.w) X E) (ha : DA X E (e :: es) ms) (hl : ∀ ε s ds s1, ms ε s = .ok ds s1 → ds.length = n) (hg : Gl X x := by rfl) (hdb : (x == ("__debug__" : Str)) = false := by decide)
    (he : starEach (e :: es) X.env = (false, eval e X.env) :: starEach es X.env := by rfl) (hpl : (backTo pos (starEach es X.env)).any (·.1) = false := by rfl) : DE X E (.Call (.Name x p) (e :: es) [] pos) (mCall F ms) := by
  obtain ⟨f, fd, ps, hm, G, hk, hb⟩ := c
  exact d_call G hr hm hk hb hx ha hl hg hdb he hpl
theorem d_cal0 (c : Cal X.prog X.w X.K X.mg X.base k 0 x F) (hr : Room k X.A) (hx : Passes (L2.CX X.prog X.w) X E) (hg : Gl X x := by rfl) (hdb : (x == ("__debug__" : Str)) = false := by decide) : DE X E (.Call (.Name x p) [] [] pos) (mCall F mNil) := by
  obtain ⟨f, fd, ps, hm, G, hk, hb⟩ := c
  exact d_call0 G hr hm hk hb hx hg hdb
end
section
variable {P : Program} {w : World} {K : PySem.W.Frag} {mg : Str → Option Value} {base : Heap} {N : List Str} {x : Str} {sc : Scope} {f : Addr} {cdv : Value} {A : Around} {outer : List Env} {s : Shared} {H : Hp} {E : XK}
theorem takesC : Takes (cxOf (L2.CX P w) P w K mg base N x sc f cdv A outer s H E) (fun cls d _ H => E cls d H) := takes_of rfl rfl rfl rfl
theorem passC : Passes (L2.CX P w) (cxOf (L2.CX P w) P w K mg base N x sc f cdv A outer s H E) E := passes_call takesC fun _ _ _ _ h => h
theorem ownC : PassesOwn (model P w) (cxOf (L2.CX P w) P w K mg base N x sc f cdv A outer s H E).A (cxOf (L2.CX P w) P w K mg base N x sc f cdv A outer s H E).env (cxOf (L2.CX P w) P w K mg base N x sc f cdv A outer s H E).xe := passes_of rfl
end

/-! ### short words for the text's names -/
section
variable {X : Cx} {E : XK} {pos : Pos}
theorem d_gint' {x : Str} {i : Int} (hm : ∃ t, X.mg x = some (.int i t)) (hg : Gl X x := by rfl) (hd : (x == ("__debug__" : Str)) = false := by decide) : DE X E (.Name x pos) (mC (.int i)) := by
  obtain ⟨t, hm⟩ := hm
  exact d_gint hm hg hd
theorem d_gstr' {x y : Str} (hm : ∃ t, X.mg x = some (.str y t)) (hg : Gl X x := by rfl) (hd : (x == ("__debug__" : Str)) = false := by decide) : DE X E (.Name x pos) (mC (.str y)) := by
  obtain ⟨t, hm⟩ := hm
  exact d_gstr hm hg hd
theorem d_gfn' {x : Str} (hm : ∃ f, X.mg x = some (.ref f)) (hg : Gl X x := by rfl) (hd : (x == ("__debug__" : Str)) = false := by decide) : DE X E (.Name x pos) (mC (.fn x)) := by
  obtain ⟨f, hm⟩ := hm
  exact d_gfn hm hg hd
/-- the class named cn raises as ErrX tells -/
def Rs (P : Program) (K : PySem.W.Frag) (mg : Str → Option Value) (cn : Str) : Prop := ∃ C fI, mg cn = some (.ref C) ∧ ErrX.Txt P K mg C fI
theorem s_raise' {cn : Str} {a : Expr} {m : M} {p pos2 : Pos} {k : Nat} (T : Rs X.prog X.K X.mg cn) (hc : X.calm = true) (hr : Room k X.A) (tk : Takes X (fun cls d _ H => E cls d H)) (ha : DE X E a m) (hg : Gl X cn := by rfl) (hdb : (cn == ("__debug__" : Str)) = false := by decide)
    (he : starEach (a :: []) X.env = (false, eval a X.env) :: starEach [] X.env := by rfl) (hpl : (backTo pos (starEach [] X.env)).any (·.1) = false := by rfl) :
    DS X E (.Raise (some (.Call (.Name cn p) [a] [] pos)) none pos2) (sRaise cn m) := by
  obtain ⟨C, fI, hm, T⟩ := T
  exact s_raise T hc hr tk ha hm hg hdb he hpl
end
theorem bt_int : bootBuiltins "int" = some (.type "int") := by boot_by_name
theorem bt_str : bootBuiltins "str" = some (.type "str") := by boot_by_name
theorem bt_tuple : bootBuiltins "tuple" = some (.type "tuple") := by boot_by_name
theorem bt_list : bootBuiltins "list" = some (.type "list") := by boot_by_name
theorem bt_dict : bootBuiltins "dict" = some (.type "dict") := by boot_by_name
theorem bt_bool : bootBuiltins "bool" = some (.type "bool") := by boot_by_name
theorem bt_ValueError : bootBuiltins "ValueError" = some (.type "ValueError") := by boot_by_name
theorem len_1 {m : M} : ∀ (ε : Ev) (s : S) (ds : List D) (s1 : S), mCons m mNil ε s = .ok ds s1 → ds.length = 1 := len_cons len0
theorem len_2 {m m2 : M} : ∀ (ε : Ev) (s : S) (ds : List D) (s1 : S), mCons m (mCons m2 mNil) ε s = .ok ds s1 → ds.length = 2 := len_cons len_1
theorem len_3 {m m2 m3 : M} : ∀ (ε : Ev) (s : S) (ds : List D) (s1 : S), mCons m (mCons m2 (mCons m3 mNil)) ε s = .ok ds s1 → ds.length = 3 := len_cons len_2
theorem len_4 {m m2 m3 m4 : M} : ∀ (ε : Ev) (s : S) (ds : List D) (s1 : S), mCons m (mCons m2 (mCons m3 (mCons m4 mNil))) ε s = .ok ds s1 → ds.length = 4 := len_cons len_3
theorem len_5 {m m2 m3 m4 m5 : M} : ∀ (ε : Ev) (s : S) (ds : List D) (s1 : S), mCons m (mCons m2 (mCons m3 (mCons m4 (mCons m5 mNil)))) ε s = .ok ds s1 → ds.length = 5 := len_cons len_4
/-- turns that a while may have -/
def wf : Nat := 20000000
/-- the def stands in the written part -/
def DefIs (K : PySem.W.Frag) (x : Str) (st : Stmt) : Prop := ∃ (f : Addr) (oc : Value) (od an : Option Addr) (sl : Array (Option Value)) (kV doc pm cd ct : Value), PySem.W.nsIn K mainGlobals x = some (some (.ref f)) ∧
  K.lookup f = some ⟨oc, od, .func (PySem.W.fnOf x x (defArgs st) (defBody st) (defScope st) .none kV doc pm an cd ct), sl⟩ ∧ PySem.W.codeIn K cd x = true ∧ PySem.W.keepIn K (.ref f) = true
theorem defIs {K : PySem.W.Frag} {x : Str} {st : Stmt} {f : Addr} {oc : Value} {od an : Option Addr} {sl : Array (Option Value)} {kV doc pm cd ct : Value} (a : PySem.W.nsIn K mainGlobals x = some (some (.ref f)))
    (l : K.lookup f = some ⟨oc, od, .func (PySem.W.fnOf x x (defArgs st) (defBody st) (defScope st) .none kV doc pm an cd ct), sl⟩) (c : PySem.W.codeIn K cd x = true) (k : PySem.W.keepIn K (.ref f) = true) : DefIs K x st := ⟨_, _, _, _, _, _, _, _, _, _, a, l, c, k⟩
theorem DefIs.at {K : PySem.W.Frag} {x : Str} {st : Stmt} {mg : Str → Option Value} {h : Heap} {ps : List Str} (D : DefIs K x st) (X : K.In h) (G : h.Ns mainGlobals mg)
    (hb : ∀ (kV doc pm : Value) (an : Option Addr) (cdv ct : Value) (us : List Value), us.length = ps.length → bindArgs (PySem.W.fnOf x x (defArgs st) (defBody st) (defScope st) .none kV doc pm an cdv ct) ⟨us, []⟩ = pure (ps.zip us)) : DefAt K mg x st ps := by
  obtain ⟨f, oc, od, an, sl, kV, doc, pm, cd, ct, a, l, c, k⟩ := D
  have F := fun_mk (st := st) l c k
  exact ⟨f, _, PySem.W.mg_of X G a, F, F.binds hb⟩
/-- the law's def, called with the script -/
theorem law_at {P : Program} {w : World} {K : PySem.W.Frag} {mg : Str → Option Value} {h : Heap} {x : Str} {F : List D → S → R D} {k : Nat} {y : Str} {st : Stmt} (D : DefIs K x st) (X : K.In h) (G : h.Ns mainGlobals mg)
    (hb : ∀ (kV doc pm : Value) (an : Option Addr) (cdv ct : Value) (s : Shared) (u : Value), BindsTo s (PySem.W.fnOf x x (defArgs st) (defBody st) (defScope st) .none kV doc pm an cdv ct) ⟨[u], []⟩ [(y, u)])
    (hF : ∀ (f : Addr) (fd : FuncData), mg x = some (.ref f) → Fun K x x st f fd → ∀ base : Heap, K.In base → base.Ns mainGlobals mg → FnOk P w K mg base (L2.CX P w) k f fd [y] (spF K mg 1 F)) :
    ∀ fa, mg x = some (.ref fa) → ∃ fd : FuncData, (∀ (s : Shared) (u : Value), BindsTo s fd ⟨[u], []⟩ [(y, u)]) ∧ ∀ base : Heap, K.In base → base.Ns mainGlobals mg → FnOk P w K mg base (L2.CX P w) k fa fd [y] (spF K mg 1 F) := fun fa hfa => by
  obtain ⟨f, oc, od, an, sl, kV, doc, pm, cd, ct, a, l, c, kk⟩ := D
  have hm := PySem.W.mg_of X G a
  have e := hfa.symm.trans hm
  cases e
  exact ⟨_, hb kV doc pm an cd ct, hF _ _ hm (fun_mk (st := st) l c kk)⟩

/-! ### the end: the law -/
theorem end_of {l : PySem.W.OpenLaw} {n k : Nat} {q : Program} {loose : List Str} {XP : (Str → Option Value) → Heap → Prop} {YP : World → Heap → Prop} {d : DefRec} {K : Params → PySem.W.Frag} {x : Str} {F : List D → S → R D}
    (hn : l.most = some n) (hn2 : n ≤ sizeLine) (hdf : d.params.defaults = []) (hr : Room k callerA) (hY : ∀ (w : World) (h : Heap), YP w h → (K w.params).In h)
    (hF : ∀ (w : World) (mg : Str → Option Value) (h : Heap), (K w.params).In h → h.Ns mainGlobals mg → ∀ fa, mg d.name = some (.ref fa) →
      ∃ fd : FuncData, (∀ (s : Shared) (u : Value), BindsTo s fd ⟨[u], []⟩ [(x, u)]) ∧ ∀ base : Heap, (K w.params).In base → base.Ns mainGlobals mg → FnOk l.prog w (K w.params) mg base (L2.CX l.prog w) k fa fd [x] (spF (K w.params) mg 1 F))
    (hM : ∀ ns : List Int, ns.length ≤ n → (∀ z ∈ ns, Builtin.Int.intBits z ≤ 1048576) → ∃ s, F [.frl (ns.map D.int)] [] = .ok (.bl true) s) :
    PySem.W.WalkO q loose XP YP l.row.toRowW d [] (fun f vs => PySem.call f vs) := by
  refine Att.attach_callB hn hdf fun w s₀ s₁ mg mb fa o pm cd doc a vs ns G Y ho hd hcd hmg hobj hints hlen hbits hg => ?_
  have KX := hY w _ Y
  obtain ⟨fd, hb, hFF⟩ := hF w mg _ KX G.T.g fa hmg
  refine law_call KX G.T.g G.T.b G.T.builtins G.T.nolimit hg hobj hints (Nat.le_trans hlen hn2) hr hFF hb (fun H hO hS => ?_) fun H e s' z => ?_
  · obtain ⟨s2, e2⟩ := hM ns hlen hbits
    have hz : Fz (K w.params) H a (ns.map V.int) := by
      rcases hS with (h | ⟨u, h⟩) | h
      · rcases hO a with z | ⟨o', xs, z⟩
        · rw [z] at h
          cases h
        · rw [z] at h
          cases h
      · exact .inl ⟨u, h⟩
      · exact .inr h
    refine ⟨rfl, [.frl (ns.map D.int)], [], [], .cons (.frl hz (RVs.ints ns)) .nil, ⟨rfl, List.nodup_nil, fun k c a h => by simp at h⟩, ?_⟩
    rw [e2]
    intro μ1 H1 v f1 r1 rv
    cases rv
    rfl
  · obtain ⟨_, _, _, _, _, _, _, _, _, _, _, _, z⟩ := z
    exact z.elim
end Mi
namespace Mi
open PySem PySem.Spec PyProof.Rows L2

/-! ### the error cn (over bn, over ValueError) in an except suite -/
structure ErrS (K : PySem.W.Frag) (mg : Str → Option Value) (cn bn : Str) (C CB : Addr) : Prop where
  mC : mg cn = some (.ref C)
  mB : mg bn = some (.ref CB)
  is : IsC K C
  xf : XfC K C
  no : PySem.W.findIn K (.ref C) "at" = some none
  ex : PySem.W.exmOne K (.ref C) (.ref CB) = some true
  ex0 : PySem.W.exmOne K (.ref C) (.ref C) = some true
  kv : PySem.W.kitOne K (.ref C) (.type "ValueError") = some true
  kb : PySem.W.kitOne K (.ref C) (.ref CB) = some true
  nI : mg "isinstance" = none
  nV : mg "ValueError" = none
def ansE (cn bn : Str) : D → Option Bool
  | .ty n => if n = "ValueError" then some true else none
  | .fn x => if x = cn ∨ x = bn then some true else none
  | _ => none
section
variable {X : Cx} {E : XK} {a C CB : Addr} {oe : Obj} {cls : Value} {d : Option Addr} {pn : List (Addr × Obj)} {e f : Expr} {m : M} {pos p : Pos} {cn bn : Str} {ms : Ev → S → R (List D)}
theorem ansE_ok {K : PySem.W.Frag} {mg : Str → Option Value} (T : ErrS K mg cn bn C CB) : ∀ t b, ansE cn bn t = some b → ∃ cv, (∀ μ H v, RV K mg μ H t v → ∀ u, RelV v u → u = cv) ∧ PySem.W.kitOne K (.ref C) cv = some b := fun t b h => by
  cases t with
  | ty n =>
    have h : (if n = "ValueError" then some true else none) = some b := h
    by_cases hn : n = "ValueError"
    · rw [if_pos hn] at h
      cases h
      subst hn
      exact ⟨.type "ValueError", fun μ H v r u ru => by
        cases r
        exact ru, T.kv⟩
    · rw [if_neg hn] at h
      cases h
  | fn x =>
    have h : (if x = cn ∨ x = bn then some true else none) = some b := h
    by_cases hx : x = cn ∨ x = bn
    · rw [if_pos hx] at h
      cases h
      rcases hx with rfl | rfl
      · exact ⟨.ref C, fun μ H v r u ru => by
          cases r with
          | fn hm =>
            rw [T.mC] at hm
            cases hm
            exact ru, by
          show (if (Value.ref C == Value.ref C) = true then some true else _) = some true
          rw [if_pos (beq_self_eq_true _)]⟩
      · exact ⟨.ref CB, fun μ H v r u ru => by
          cases r with
          | fn hm =>
            rw [T.mB] at hm
            cases hm
            exact ru, T.kb⟩
    · rw [if_neg hx] at h
      cases h
  | _ => cases h
theorem d_isE (T : ErrS X.K X.mg cn bn C CB) (hz : Zc cls d oe) (hf : ∃ vs, oe.data = .fields vs) (ha : DA (X.suite a ((a, oe) :: pn)) E [e, f] ms) (hg : Gl X "isinstance" := by rfl) (he : starEach [e, f] X.env = (false, eval e X.env) :: starEach [f] X.env := by rfl) (hpl : (backTo pos (starEach [f] X.env)).any (·.1) = false := by rfl) :
    DE (X.suite a ((a, oe) :: pn)) E (.Call (.Name "isinstance" p) [e, f] [] pos) (mCall (cIsE a cls d C (ansE cn bn)) ms) :=
  d_callB (X := X.suite a ((a, oe) :: pn)) (call_isD T.is hz hf) (cs_isE (ansE_ok T)) T.nI (by boot_by_name) ha hg (by decide) (by decide) he hpl
theorem d_ate (T : ErrS X.K X.mg cn bn C CB) (hz : Zc cls d oe) (hf : ∃ vs, oe.data = .fields vs) (he : DE (X.suite a ((a, oe) :: pn)) E e m) (hb : attributeBase e "at" X.env (eval e X.env) = eval e X.env := by rfl) :
    DE (X.suite a ((a, oe) :: pn)) E (.Attribute e "at" pos) (mAt a cls d C m) := d_at T.xf T.no hz hf he hb
end
/-- the error itself, as the suite sees it -/
theorem cIsE_ok {a C dd : Addr} {cn bn f : Str} {d t : D} {s : S} (h : ansE cn bn t = some true) : cIsE a (.ref C) (some dd) C (ansE cn bn) [.exn a C dd f d, t] s = .ok (.bl true) s := by
  simp [cIsE, h]
theorem mAtK_ok {a C dd : Addr} {d : D} {s : S} : mAtK a (.ref C) (some dd) C (.exn a C dd "at" d) s = .ok d s := by
  simp [mAtK]
theorem mVar_set {ε : Ev} {i : Nat} {d : D} {s : S} (h : i < ε.length) : mVar i (ε.set i (some d)) s = .ok d s := by
  unfold mVar
  rw [List.getElem?_set_self h]
theorem names_of {X : Cx} {x : Str} {C : Addr} (hm : X.mg x = some (.ref C)) (hg : Gl X x := by rfl) (hd : (x == ("__debug__" : Str)) = false := by decide) : Names X x (.ref C) := ⟨hg, hd, .inl hm⟩
theorem ne_nil (ε : Ev) (s : S) (c f : Str) (d : D) (s1 : S) : mNil ε s ≠ .exc c f d s1 := fun h => by cases h
theorem ne_var {i : Nat} {ms : Ev → S → R (List D)} (hn : ∀ ε s c f d s1, ms ε s ≠ .exc c f d s1) (ε : Ev) (s : S) (c f : Str) (d : D) (s1 : S) : mCons (mVar i) ms ε s ≠ .exc c f d s1 := fun h => by
  unfold mCons at h
  cases q : ε[i]? with
  | none =>
    simp only [mVar, q, R.bind] at h
    cases h
  | some o =>
    cases o with
    | none =>
      simp only [mVar, q, R.bind] at h
      cases h
    | some x =>
      simp only [mVar, q, R.bind] at h
      cases e : ms ε s with
      | ok ds s2 =>
        rw [e] at h
        cases h
      | exc c' f' d' s2 => exact hn ε s c' f' d' s2 e
      | bad =>
        rw [e] at h
        cases h
/-- one of two defs -/
theorem fam2 {X : Cx} {k n : Nat} {x y : Str} {F G : List D → S → R D} {T : Str → Option (List D → S → R D)} (hT : ∀ z H, T z = some H → (z = x ∧ H = F) ∨ (z = y ∧ H = G)) (c1 : Cal X.prog X.w X.K X.mg X.base k n x F) (c2 : Cal X.prog X.w X.K X.mg X.base k n y G) : Fam X k n T := fun z H a e hm => by
  rcases hT z H e with ⟨rfl, rfl⟩ | ⟨rfl, rfl⟩
  · obtain ⟨f, fd, ps, hm', FO, hk, hb⟩ := c1
    rw [hm] at hm'
    cases hm'
    exact ⟨fd, ps, FO, hk, hb⟩
  · obtain ⟨f, fd, ps, hm', FO, hk, hb⟩ := c2
    rw [hm] at hm'
    cases hm'
    exact ⟨fd, ps, FO, hk, hb⟩
end Mi
namespace Mi
open PySem PySem.Spec PyProof.Rows L2

/-! ### what the head shows of an error class -/
section
variable {P : Program} {K : PySem.W.Frag} {mg : Str → Option Value} {h : Heap} {cn bn : Str}
theorem along_of {C : Addr} {nm q : Str} {N : Addr} {bs bm : List Value} {sn : List Str} {sub : List Value} {ab : Bool} {col : Option Bool} {dd : Option Addr} {k0 k1 k2 k3 k5 : Option Value}
    (xC : K.lookup C = some (excClassObj nm q C N bs bm true sn sub ab col dd k0 k1 k2 k3 k5 "ValueError.__new__")) (al : PySem.W.ks_superIn K C C "__init__" = some (some (.builtin "ValueError.__init__"))) : PySem.W.alongIn K "__init__" bm = some (some (.builtin "ValueError.__init__")) := by
  have hcl : PySem.W.clsIn K C = some { name := nm, bases := bs, mro := .ref C :: bm, ns := N, qualname := q, hasDict := true, slotNames := sn, subclasses := sub, abstract := ab, collection := col, hasDel := false } := by unfold PySem.W.clsIn; rw [xC] <;> rfl
  unfold PySem.W.ks_superIn at al
  rw [hcl, Option.bind_some] at al
  have e : ((Value.ref C :: bm).dropWhile (· != .ref C)).drop 1 = bm := ErrX.dropOwn C bm
  have al : PySem.W.alongIn K "__init__" (((Value.ref C :: bm).dropWhile (· != .ref C)).drop 1) = some (some (.builtin "ValueError.__init__")) := al
  rw [e] at al
  exact al
theorem rs_mk (X : K.In h) (G : h.Ns mainGlobals mg) {C fI cc cda : Addr} {nm q qual file : Str} {N : Addr} {bs bm : List Value} {sn : List Str} {sub : List Value} {ab : Bool} {col : Option Bool} {dd : Option Addr} {k0 k1 k2 k3 k5 : Option Value}
    {oc kV doc pm ct cl ccl : Value} {od an cld cdd : Option Addr} {osl csl ccs : Array (Option Value)} {vs : Array Value} {tf : Tok} {p1 p2 q1 q2 q3 q4 q5 r1 r2 r3 r4 : Pos}
    (aC : PySem.W.nsIn K mainGlobals cn = some (some (.ref C)))
    (xC : K.lookup C = some (excClassObj nm q C N bs bm true sn sub ab col dd k0 k1 k2 k3 k5 "ValueError.__new__")) (hb : HandSPX.refsVE bm = true) (al : PySem.W.ks_superIn K C C "__init__" = some (some (.builtin "ValueError.__init__")))
    (sa : PySem.W.findIn K (.ref C) "__setattr__" = some (some (.builtin "object.__setattr__"))) (no : PySem.W.findIn K (.ref C) "at" = some none) (iC : PySem.W.findIn K (.ref C) "__init__" = some (some (.ref fI))) (tC : PySem.W.typeIn K (.ref fI) = some (.type "function"))
    (kC : PySem.W.keepIn K (.ref C) = true) (exC : PySem.W.subIn K (.ref C) (.type "BaseException") = some true) (veC : PySem.W.subIn K (.ref C) (.type "ValueError") = some true) (tyC : PySem.W.typeIn K (.ref C) = some (.type "type"))
    (nS : PySem.W.nsIn K mainGlobals "super" = some none) (ops : PySem.W.nsIn K cStatics "thirdparty.any" = some none)
    (lI : K.lookup fI = some ⟨oc, od, .func (PySem.W.ksFn "__init__" qual (ErrX.iA p1 p2) (ErrX.iB q1 q2 q3 q4 q5 r1 r2 r3 r4) ErrX.iS .none kV doc pm an (.ref cda) ct cc), osl⟩) (cI : PySem.W.codeIn K (.ref cda) qual = true)
    (lc : K.lookup cc = some ⟨cl, cld, .cell (some (.ref C)), csl⟩) (ld : K.lookup cda = some ⟨ccl, cdd, .fields vs, ccs⟩) (hvs : vs[2]? = some (.str file tf)) (hf : ((P.main.file : Str) == file) = true) (hl : (q3.endLine == q5.line) = true) (top : (P.main.scope.names.lookup ("super" : Str)).isSome = false) : Rs P K mg cn :=
  ⟨C, fI, PySem.W.mg_of X G aC, ⟨⟨nm, q, N, bs, bm, sn, sub, ab, col, dd, k0, k1, k2, k3, k5, xC, hb, along_of xC al⟩, sa, no, iC, tC, kC, exC, veC, tyC, PySem.W.mg_none_of X G nS, ops,
    ⟨oc, kV, doc, pm, od, an, cda, ct, osl, p1, p2, q1, q2, q3, q4, q5, r1, r2, r3, r4, cc, qual, lI, cI, ⟨cl, cld, csl, lc⟩, ccl, cdd, vs, ccs, file, tf, ld, hvs, hf, hl⟩, top⟩⟩
theorem errS_mk (X : K.In h) (G : h.Ns mainGlobals mg) {C CB : Addr} (aC : PySem.W.nsIn K mainGlobals cn = some (some (.ref C))) (aB : PySem.W.nsIn K mainGlobals bn = some (some (.ref CB)))
    (hc : PySem.W.isClsIn K C = true) (hg : PySem.W.findIn K (.ref C) "__getattribute__" = some (some (.builtin "BaseException.__getattribute__"))) (hk : PySem.W.findIn K (.ref C) "__getattr__" = some none)
    (hs : PySem.W.subIn K (.ref C) (.type "BaseException") = some true) (ha : PySem.W.findIn K (.ref C) "__class__" = some (some (.builtin "object.__class__"))) (hn : PySem.W.specialIn K (.builtin "object.__class__") "__get__" = some (some (.builtin "getset_descriptor.__get__")))
    (ht : PySem.W.takesIn K (.builtin "object.__class__") = some true) (hm : PySem.W.mroIn K C (.type "object") = some true) (hd : PySem.W.hasDictIn K C = true) (no : PySem.W.findIn K (.ref C) "at" = some none)
    (tyC : PySem.W.typeIn K (.ref C) = some (.type "type")) (sCC : PySem.W.subIn K (.ref C) (.ref C) = some true)
    (sB : PySem.W.subIn K (.ref CB) (.type "BaseException") = some true) (hdB : PySem.W.hasDictIn K CB = true) (tyB : PySem.W.typeIn K (.ref CB) = some (.type "type")) (sCB : PySem.W.subIn K (.ref C) (.ref CB) = some true)
    (kv : PySem.W.kitOne K (.ref C) (.type "ValueError") = some true) (kb : PySem.W.kitOne K (.ref C) (.ref CB) = some true) (nI : PySem.W.nsIn K mainGlobals "isinstance" = some none) (nV : PySem.W.nsIn K mainGlobals "ValueError" = some none) : ErrS K mg cn bn C CB :=
  ⟨PySem.W.mg_of X G aC, PySem.W.mg_of X G aB, ⟨hc, hg, hk, hs, ha, hn, ht, hm⟩, ⟨hg, hk, hs, hd⟩, no, PySem.W.exm_ref sB hdB tyB sCB, PySem.W.exm_ref hs hd tyC sCC, kv, kb, PySem.W.mg_none_of X G nI, PySem.W.mg_none_of X G nV⟩
end
end Mi
namespace Mi
open PySem PySem.Spec PyProof.Rows L2

/-! ### reckoning with mirrors -/
@[simp] theorem rbind_ok {α β : Type} (a : α) (s : S) (g : α → S → R β) : (R.ok a s).bind g = g a s := rfl
@[simp] theorem rbind_exc {α β : Type} (c f : Str) (d : D) (s : S) (g : α → S → R β) : (R.exc c f d s : R α).bind g = .exc c f d s := rfl
@[simp] theorem rbind_bad {α β : Type} (g : α → S → R β) : (R.bad : R α).bind g = .bad := rfl
@[simp] theorem rto_ok {α : Type} (a : α) (s : S) (g : α → S → O) : (R.ok a s).to g = g a s := rfl
@[simp] theorem rto_exc {α : Type} (c f : Str) (d : D) (s : S) (g : α → S → O) : (R.exc c f d s : R α).to g = .ex c f d s := rfl
@[simp] theorem obind_nx (ε : Ev) (s : S) (g : B) : (O.nx ε s).bind g = g ε s := rfl
@[simp] theorem obind_rt (d : D) (s : S) (g : B) : (O.rt d s).bind g = .rt d s := rfl
@[simp] theorem obind_bk (ε : Ev) (s : S) (g : B) : (O.bk ε s).bind g = .bk ε s := rfl
@[simp] theorem obind_ct (ε : Ev) (s : S) (g : B) : (O.ct ε s).bind g = .ct ε s := rfl
@[simp] theorem obind_ex (c f : Str) (d : D) (s : S) (g : B) : (O.ex c f d s).bind g = .ex c f d s := rfl
@[simp] theorem runO_rt (d : D) (s : S) : runO (.rt d s) = .ok d s := rfl
@[simp] theorem runO_nx (ε : Ev) (s : S) : runO (.nx ε s) = .ok .non s := rfl
@[simp] theorem runO_ex (c f : Str) (d : D) (s : S) : runO (.ex c f d s) = .exc c f d s := rfl
@[simp] theorem ifK_t (a b : B) (ε : Ev) (s : S) : ifK a b ε (.bl true) s = a ε s := rfl
@[simp] theorem ifK_f (a b : B) (ε : Ev) (s : S) : ifK a b ε (.bl false) s = b ε s := rfl
section
variable {ma mb mc m mo mi me : M} {ms : Ev → S → R (List D)} {ε : Ev} {s : S} {op op' : D → D → S → R D} {a b r : B} {i j l : Nat} {d : D} {F : List D → S → R D}
@[simp] theorem e_var : mVar i ε s = (match ε[i]? with | some (some d) => .ok d s | _ => .bad) := rfl
@[simp] theorem e_c : mC d ε s = .ok d s := rfl
@[simp] theorem e_nil : mNil ε s = .ok [] s := rfl
@[simp] theorem e_cons : mCons m ms ε s = (m ε s).bind fun x s1 => (ms ε s1).bind fun xs s2 => .ok (x :: xs) s2 := rfl
@[simp] theorem e_op : mOp op ma mb ε s = (ma ε s).bind fun x s1 => (mb ε s1).bind fun y s2 => op x y s2 := rfl
@[simp] theorem e_expr : sExpr m ε s = (m ε s).to fun _ s1 => .nx ε s1 := rfl
@[simp] theorem e_set : sSet i m ε s = (m ε s).to fun d s1 => .nx (ε.set i (some d)) s1 := rfl
@[simp] theorem e_ret : sRet m ε s = (m ε s).to fun d s1 => .rt d s1 := rfl
@[simp] theorem e_retN : sRetN ε s = .rt .non s := rfl
@[simp] theorem e_seq : bSeq b r ε s = (b ε s).bind r := rfl
@[simp] theorem e_bnil : bNil ε s = .nx ε s := rfl
@[simp] theorem e_sif : sIf m a b ε s = (m ε s).to (ifK a b ε) := rfl
@[simp] theorem e_not : mNot ma ε s = (ma ε s).bind fun x s1 => (match x with | .bl b => .ok (.bl (!b)) s1 | _ => .bad) := rfl
@[simp] theorem e_and : mAnd ma mb ε s = (ma ε s).bind fun x s1 => (match x with | .bl true => mb ε s1 | .bl false => .ok (.bl false) s1 | _ => .bad) := rfl
@[simp] theorem e_or : mOr ma mb ε s = (ma ε s).bind fun x s1 => (match x with | .bl false => mb ε s1 | .bl true => .ok (.bl true) s1 | _ => .bad) := rfl
@[simp] theorem e_if : mIf mc ma mb ε s = (mc ε s).bind fun x s1 => (match x with | .bl true => ma ε s1 | .bl false => mb ε s1 | _ => .bad) := rfl
@[simp] theorem e_neg : mNeg ma ε s = (ma ε s).bind fun x s1 => (match x with | .int i => .ok (.int (-i)) s1 | _ => .bad) := rfl
@[simp] theorem e_chain : mChain op op' ma mb mc ε s = (ma ε s).bind fun x s1 => (mb ε s1).bind fun y s2 => (op x y s2).bind fun z s3 => chK op' mc ε y z s3 := rfl
@[simp] theorem e_chKt {y : D} : chK op' mc ε y (.bl true) s = (mc ε s).bind fun w s4 => op' y w s4 := rfl
@[simp] theorem e_chKf {y : D} : chK op' mc ε y (.bl false) s = .ok (.bl false) s := rfl
@[simp] theorem e_call : mCall F ms ε s = (ms ε s).bind fun ds s1 => F ds s1 := rfl
@[simp] theorem e_lst : mLst ms ε s = (ms ε s).bind fun ds s1 => if ds.length ≤ sizeLine then .ok (.ref s1.length) (s1 ++ [C.lst ds]) else .bad := rfl
@[simp] theorem e_tup : mTup ms ε s = (ms ε s).bind fun ds s1 => if ds.length ≤ sizeLine then .ok (.tup ds) s1 else .bad := rfl
@[simp] theorem e_meth {chk : D → S → Bool} {f : D → List D → S → R D} : mMeth chk f mo ms ε s = (mo ε s).bind fun x s1 => if chk x s1 = true then (ms ε s1).bind fun xs s2 => f x xs s2 else .bad := rfl
@[simp] theorem e_raise {cn : Str} : sRaise cn m ε s = (m ε s).to fun d s1 => .ex cn "at" d s1 := rfl
@[simp] theorem e_for {mi : Ev → S → R Walked} {t : Tg} : sFor mi t b ε s = (mi ε s).to fun w s1 => loop w.2 t b w.1 ε s1 := rfl
@[simp] theorem e_iseq : iSeq m ε s = (m ε s).bind itemsK := rfl
@[simp] theorem e_it_tup {ds : List D} : itemsK (.tup ds) s = .ok (ds, none) s := rfl
@[simp] theorem e_it_frl {ds : List D} : itemsK (.frl ds) s = .ok (ds, none) s := rfl
@[simp] theorem e_it_str {x : Str} : itemsK (.str x) s = .ok (x.cps.toList.map fun c => .str ⟨#[c]⟩, none) s := rfl
@[simp] theorem e_rng1 : iRng1 ms ε s = (ms ε s).bind rngK1 := rfl
@[simp] theorem e_rngK1 {j : Int} : rngK1 [.int j] s = .ok (rngL 0 j.toNat, none) s := rfl
@[simp] theorem e_rng2 : iRng2 ms ε s = (ms ε s).bind rngK2 := rfl
@[simp] theorem e_rngK2 {i j : Int} : rngK2 [.int i, .int j] s = .ok (rngL i (j - i).toNat, none) s := rfl
@[simp] theorem e_aug : sAug op i m ε s = (mVar i ε s).to fun x _ => (m ε s).to fun y s1 => (op x y s1).to fun z s2 => .nx (ε.set i (some z)) s2 := rfl
@[simp] theorem e_break : sBreak ε s = .bk ε s := rfl
@[simp] theorem e_cont : sCont ε s = .ct ε s := rfl
@[simp] theorem e_par3 : sPar3 i j l ms ε s = (ms ε s).to (par3K i j l ε) := rfl
@[simp] theorem e_par3K {u v w : D} : par3K i j l ε [u, v, w] s = .nx (((ε.set i (some u)).set j (some v)).set l (some w)) s := rfl
@[simp] theorem e_par2 : sPar2 i j ms ε s = (ms ε s).to (par2K i j ε) := rfl
@[simp] theorem e_par2K {u v : D} : par2K i j ε [u, v] s = .nx ((ε.set i (some u)).set j (some v)) s := rfl
@[simp] theorem e_tg {t : Tg} : sTg m t ε s = (m ε s).to fun d s1 => (match t d ε with | some ε' => .nx ε' s1 | none => .bad) := rfl
@[simp] theorem e_gN : gN i d ε = some (ε.set i (some d)) := rfl
@[simp] theorem e_sub : sSub me mo mi ε s = (me ε s).to fun d s1 => (mo ε s1).to fun o s2 => (mi ε s2).to fun i s3 => (match setAt o i d s3 with | some s4 => .nx ε s4 | none => .bad) := rfl
@[simp] theorem e_sl {a b : MO} : mSl m a b ε s = (m ε s).bind fun x s1 => (a ε s1).bind fun lo s2 => (b ε s2).bind fun hi s3 => oSl x lo hi s3 := rfl
@[simp] theorem e_pNo : pNo ε s = .ok none s := rfl
@[simp] theorem e_pAt : pAt m ε s = (m ε s).bind fun d s1 => (match d with | .int i => .ok (some i) s1 | _ => .bad) := rfl
end
theorem runF_eq {n N : Nat} {b : B} {ds : List D} {s : S} (h : ds.length = n) : runF n N b ds s = runO (b (ds.map some ++ List.replicate (N - n) none) s) := if_pos h
/-- a slot -/
theorem mVar_ok {ε : Ev} {i : Nat} {d : D} {s : S} (h : ε[i]? = some (some d)) : mVar i ε s = .ok d s := by
  unfold mVar
  rw [h]

/-! ### == -/
theorem toPy_int {s : S} {n : Nat} {i : Int} : toPy s (n + 1) (.int i) = some (.int i) := rfl
@[simp] theorem oEq_int {s : S} (i j : Int) : oEq (.int i) (.int j) s = .ok (.bl (decide (i = j))) s := by
  have e : eqPy (.int i) (.int j) s = some (PyData.eqv (.int i) (.int j)) := rfl
  unfold oEq
  rw [e]
  have h : PyData.eqv (.int i) (.int j) = decide (i = j) := by
    show (i == j) = decide (i = j)
    exact (Bool.beq_eq_decide_eq i j)
  simp only [h]
@[simp] theorem oNe_int {s : S} (i j : Int) : oNe (.int i) (.int j) s = .ok (.bl (!decide (i = j))) s := by
  have e : eqPy (.int i) (.int j) s = some (PyData.eqv (.int i) (.int j)) := rfl
  unfold oNe
  rw [e]
  have h : PyData.eqv (.int i) (.int j) = decide (i = j) := by
    show (i == j) = decide (i = j)
    exact (Bool.beq_eq_decide_eq i j)
  simp only [h]
theorem oEq_bl {s : S} (i j : Bool) : oEq (.bl i) (.bl j) s = .ok (.bl (i == j)) s := rfl
theorem allPy_ints {f : D → Option PyData} (hf : ∀ i, f (.int i) = some (.int i)) : ∀ l : List Int, allPy f (l.map D.int) = some (l.map PyData.int)
  | [] => rfl
  | i :: l => by
    show (match f (.int i), allPy f (l.map D.int) with
    | some p, some ps => some (p :: ps)
    | _, _ => none) = _
    rw [hf, allPy_ints hf l]
    rfl
theorem lay_ints : ∀ l : List Int, PyData.canLayAll0 (l.map PyData.int) = true
  | [] => by simp [PyData.canLayAll0]
  | i :: l => by simp [PyData.canLayAll0, PyData.canLay0, lay_ints l]
theorem depth_ints : ∀ l : List Int, PyData.depthAll (l.map PyData.int) = 0
  | [] => by simp [PyData.depthAll]
  | i :: l => by simp [PyData.depthAll, PyData.depth, depth_ints l]
theorem eqv_ints : ∀ l m : List Int, PyData.eqvAll (l.map PyData.int) (m.map PyData.int) = decide (l = m)
  | [], [] => by simp [PyData.eqvAll]
  | [], j :: m => by simp [PyData.eqvAll]
  | i :: l, [] => by simp [PyData.eqvAll]
  | i :: l, j :: m => by
    simp only [List.map_cons, PyData.eqvAll, PyData.eqv, eqv_ints l m]
    rw [Bool.beq_eq_decide_eq, ← Bool.decide_and]
    congr 1
    simp
theorem toPy_lst {s : S} {n k : Nat} {l : List Int} (h : s[k]? = some (C.lst (l.map D.int))) : toPy s (n + 2) (.ref k) = some (.list (l.map PyData.int)) := by
  show cellPy (toPy s (n + 1)) s[k]? = _
  rw [h]
  show (allPy (toPy s (n + 1)) (l.map D.int)).map PyData.list = _
  rw [allPy_ints fun i => toPy_int]
  rfl
theorem shaped_ints (l : List Int) : SeqAt.shaped (.list (l.map PyData.int)) = true := by
  simp [SeqAt.shaped, PyData.canLay0, lay_ints, PyData.depth, depth_ints]
theorem eqPy_lst {s : S} {k j : Nat} {l m : List Int} (h : s[k]? = some (C.lst (l.map D.int))) (g : s[j]? = some (C.lst (m.map D.int))) : eqPy (.ref k) (.ref j) s = some (decide (l = m)) := by
  unfold eqPy
  rw [toPy_lst (n := 64) h, toPy_lst (n := 64) g]
  simp only [shaped_ints, and_self, if_true]
  congr 1
  show PyData.eqvAll _ _ = _
  exact eqv_ints l m
theorem oEq_lst {s : S} {k j : Nat} {l m : List Int} (h : s[k]? = some (C.lst (l.map D.int))) (g : s[j]? = some (C.lst (m.map D.int))) : oEq (.ref k) (.ref j) s = .ok (.bl (decide (l = m))) s := by
  unfold oEq
  rw [eqPy_lst h g]
theorem oNe_lst {s : S} {k j : Nat} {l m : List Int} (h : s[k]? = some (C.lst (l.map D.int))) (g : s[j]? = some (C.lst (m.map D.int))) : oNe (.ref k) (.ref j) s = .ok (.bl (!decide (l = m))) s := by
  unfold oNe
  rw [eqPy_lst h g]

/-! ### numbers -/
@[simp] theorem oSub_int (i j : Int) (s : S) : oSub (.int i) (.int j) s = .ok (.int (i - j)) s := rfl
@[simp] theorem oAdd_int (i j : Int) (s : S) : oAdd (.int i) (.int j) s = .ok (.int (i + j)) s := rfl
@[simp] theorem oIadd_int (i j : Int) (s : S) : oIadd (.int i) (.int j) s = .ok (.int (i + j)) s := rfl
@[simp] theorem oLt_int (i j : Int) (s : S) : oLt (.int i) (.int j) s = .ok (.bl (decide (i < j))) s := rfl
@[simp] theorem oLe_int (i j : Int) (s : S) : oLe (.int i) (.int j) s = .ok (.bl (decide (i ≤ j))) s := rfl
@[simp] theorem oGt_int (i j : Int) (s : S) : oGt (.int i) (.int j) s = .ok (.bl (decide (j < i))) s := rfl
@[simp] theorem oGe_int (i j : Int) (s : S) : oGe (.int i) (.int j) s = .ok (.bl (decide (j ≤ i))) s := rfl
theorem oMul_int {i j : Int} {s : S} (h : CMulW i j) : oMul (.int i) (.int j) s = .ok (.int (i * j)) s := if_pos h
theorem oFdiv_int {i j : Int} {s : S} (h : CDivW i j) : oFdiv (.int i) (.int j) s = .ok (.int (i / j)) s := if_pos h
theorem oMod_int {i j : Int} {s : S} (h : 0 < j) : oMod (.int i) (.int j) s = .ok (.int (i % j)) s := if_pos h
theorem oPow_int {i j : Int} {s : S} (h : CPow i j) : oPow (.int i) (.int j) s = .ok (.int (i ^ j.toNat)) s := if_pos h

/-! ### lists -/
theorem oAdd_str {x y : Str} {s : S} (h : x.length + y.length ≤ sizeLine) : oAdd (.str x) (.str y) s = .ok (.str (x ++ y)) s := by
  show (if x.length + y.length ≤ sizeLine then R.ok (D.str (x ++ y)) s else R.bad) = _
  rw [if_pos h]
theorem oIadd_str {x y : Str} {s : S} (h : x.length + y.length ≤ sizeLine) : oIadd (.str x) (.str y) s = .ok (.str (x ++ y)) s := by
  show (if x.length + y.length ≤ sizeLine then R.ok (D.str (x ++ y)) s else R.bad) = _
  rw [if_pos h]
theorem oAdd_lst {j k : Nat} {ds es : List D} {s : S} (hj : s[j]? = some (C.lst ds)) (hk : s[k]? = some (C.lst es)) (h : ds.length + es.length ≤ sizeLine) : oAdd (.ref j) (.ref k) s = .ok (.ref s.length) (s ++ [C.lst (ds ++ es)]) := by
  show (match s[j]?, s[k]? with
    | some (.lst ds), some (.lst es) => if ds.length + es.length ≤ sizeLine then R.ok (D.ref s.length) (s ++ [C.lst (ds ++ es)]) else R.bad
    | _, _ => R.bad) = _
  rw [hj, hk]
  exact if_pos h
theorem oApp_ok {k : Nat} {ds : List D} {d : D} {s : S} (h : s[k]? = some (C.lst ds)) (hz : ds.length < sizeLine) : oApp (.ref k) [d] s = .ok .non (s.set k (.lst (ds ++ [d]))) := by
  show appCell k d s[k]? s = _
  rw [h]
  exact if_pos hz
theorem isLst_ok {k : Nat} {ds : List D} {s : S} (h : s[k]? = some (C.lst ds)) : isLst (.ref k) s = true := by
  show (match s[k]? with | some (.lst _) => true | _ => false) = true
  rw [h]
theorem cLen_lst {k : Nat} {ds : List D} {s : S} (h : s[k]? = some (C.lst ds)) : cLen [.ref k] s = .ok (.int ds.length) s := by
  show (match s[k]? with | some (.lst ds) => R.ok (D.int ds.length) s | _ => R.bad) = _
  rw [h]
@[simp] theorem cLen_tup (ds : List D) (s : S) : cLen [.tup ds] s = .ok (.int ds.length) s := rfl
theorem oIx_lst {k : Nat} {ds : List D} {s : S} {i : Int} {d : D} (h : s[k]? = some (C.lst ds)) (hd : atI ds i = some d) : oIx (.ref k) (.int i) s = .ok d s := by
  show ixCell i s[k]? s = _
  rw [h]
  show getD (atI ds i) s = _
  rw [hd]
  rfl
theorem oIx_tup {ds : List D} {s : S} {i : Int} {d : D} (hd : atI ds i = some d) : oIx (.tup ds) (.int i) s = .ok d s := by
  show getD (atI ds i) s = _
  rw [hd]
  rfl
theorem atI_nat {α : Type} {xs : List α} {i : Nat} : atI xs (i : Int) = xs[i]? := by
  unfold atI ixN
  rw [if_pos (by omega)]
  by_cases h : i < xs.length
  · rw [if_pos (by omega)]
    simp
  · rw [if_neg (by omega)]
    simp
    omega
theorem set_get {s : S} {k j : Nat} {c : C} : (s.set k c)[j]? = if k = j then (if j < s.length then some c else none) else s[j]? := by
  by_cases h : k = j
  · subst h
    rw [if_pos rfl]
    by_cases g : k < s.length
    · rw [if_pos g, List.getElem?_set_self g]
    · rw [if_neg g, List.getElem?_eq_none (by simpa using g)]
  · rw [if_neg h, List.getElem?_set_ne h]
theorem app_get {s t : S} {j : Nat} (h : j < s.length) : (s ++ t)[j]? = s[j]? := List.getElem?_append_left h
theorem app_last {s : S} {c : C} : (s ++ [c])[s.length]? = some c := by
  rw [List.getElem?_append_right (Nat.le_refl _), Nat.sub_self]
  rfl
theorem lt_of_get {s : S} {k : Nat} {c : C} (h : s[k]? = some c) : k < s.length := (List.getElem?_eq_some_iff.mp h).1

/-! ### while, for -/
theorem while_t {c : M} {b : B} {n : Nat} {ε : Ev} {s s1 : S} (h : c ε s = .ok (.bl true) s1) : whileK c b (n + 1) ε s = (match b ε s1 with
      | .nx ε2 s2 => whileK c b n ε2 s2
      | .ct ε2 s2 => whileK c b n ε2 s2
      | .bk ε2 s2 => .nx ε2 s2
      | .rt d s2 => .rt d s2
      | .ex c f d s2 => .ex c f d s2
      | .bad => .bad) := by
  show (c ε s).to _ = _
  rw [h]
  rfl
theorem while_f {c : M} {b : B} {n : Nat} {ε : Ev} {s s1 : S} (h : c ε s = .ok (.bl false) s1) : whileK c b (n + 1) ε s = .nx ε s1 := by
  show (c ε s).to _ = _
  rw [h]
  rfl
theorem while_nx {c : M} {b : B} {n : Nat} {ε ε2 : Ev} {s s1 s2 : S} (h : c ε s = .ok (.bl true) s1) (hb : b ε s1 = .nx ε2 s2) : whileK c b (n + 1) ε s = whileK c b n ε2 s2 := by
  rw [while_t h, hb]
open Classical in
theorem loop_nil {g : Option (Nat × C)} {t : Tg} {b : B} {ε : Ev} {s : S} (h : Gd g s) : loop g t b [] ε s = .nx ε s := if_pos h
open Classical in
theorem loop_cons {g : Option (Nat × C)} {t : Tg} {b : B} {d : D} {ds : List D} {ε ε1 : Ev} {s : S} (h : Gd g s) (ht : t d ε = some ε1) : loop g t b (d :: ds) ε s = (match b ε1 s with
        | .nx ε2 s2 => loop g t b ds ε2 s2
        | .ct ε2 s2 => loop g t b ds ε2 s2
        | .bk ε2 s2 => .nx ε2 s2
        | .rt d s2 => .rt d s2
        | .ex c f d s2 => .ex c f d s2
        | .bad => .bad) := by
  show (if Gd g s then (match t d ε with
      | none => .bad
      | some ε1 => match b ε1 s with
        | .nx ε2 s2 => loop g t b ds ε2 s2
        | .ct ε2 s2 => loop g t b ds ε2 s2
        | .bk ε2 s2 => .nx ε2 s2
        | .rt d s2 => .rt d s2
        | .ex c f d s2 => .ex c f d s2
        | .bad => .bad) else .bad : O) = _
  rw [if_pos h, ht]
theorem gN_eq (i : Nat) (d : D) (ε : Ev) : gN i d ε = some (ε.set i (some d)) := rfl

/-! ### text -/
theorem inStr_one (x : Str) (c : Nat) : inStr ⟨#[c]⟩ x = decide (c ∈ x.cps.toList) := PySem.StrLaws.found_one x c
/-! ### isinstance, is -/
section
@[simp] theorem kit_bool_int : kitB "bool" "int" = some true := by decide +kernel
@[simp] theorem kit_bool_str : kitB "bool" "str" = some false := by decide +kernel
@[simp] theorem kit_bool_tuple : kitB "bool" "tuple" = some false := by decide +kernel
@[simp] theorem kit_bool_bool : kitB "bool" "bool" = some true := by decide +kernel
@[simp] theorem kit_bool_list : kitB "bool" "list" = some false := by decide +kernel
@[simp] theorem kit_bool_dict : kitB "bool" "dict" = some false := by decide +kernel
@[simp] theorem kit_int_int : kitB "int" "int" = some true := by decide +kernel
@[simp] theorem kit_int_str : kitB "int" "str" = some false := by decide +kernel
@[simp] theorem kit_int_tuple : kitB "int" "tuple" = some false := by decide +kernel
@[simp] theorem kit_int_bool : kitB "int" "bool" = some false := by decide +kernel
@[simp] theorem kit_int_list : kitB "int" "list" = some false := by decide +kernel
@[simp] theorem kit_int_dict : kitB "int" "dict" = some false := by decide +kernel
@[simp] theorem kit_str_int : kitB "str" "int" = some false := by decide +kernel
@[simp] theorem kit_str_str : kitB "str" "str" = some true := by decide +kernel
@[simp] theorem kit_str_tuple : kitB "str" "tuple" = some false := by decide +kernel
@[simp] theorem kit_str_bool : kitB "str" "bool" = some false := by decide +kernel
@[simp] theorem kit_str_list : kitB "str" "list" = some false := by decide +kernel
@[simp] theorem kit_str_dict : kitB "str" "dict" = some false := by decide +kernel
@[simp] theorem kit_tuple_int : kitB "tuple" "int" = some false := by decide +kernel
@[simp] theorem kit_tuple_str : kitB "tuple" "str" = some false := by decide +kernel
@[simp] theorem kit_tuple_tuple : kitB "tuple" "tuple" = some true := by decide +kernel
@[simp] theorem kit_tuple_bool : kitB "tuple" "bool" = some false := by decide +kernel
@[simp] theorem kit_tuple_list : kitB "tuple" "list" = some false := by decide +kernel
@[simp] theorem kit_tuple_dict : kitB "tuple" "dict" = some false := by decide +kernel
@[simp] theorem kit_list_int : kitB "list" "int" = some false := by decide +kernel
@[simp] theorem kit_list_str : kitB "list" "str" = some false := by decide +kernel
@[simp] theorem kit_list_tuple : kitB "list" "tuple" = some false := by decide +kernel
@[simp] theorem kit_list_bool : kitB "list" "bool" = some false := by decide +kernel
@[simp] theorem kit_list_list : kitB "list" "list" = some true := by decide +kernel
@[simp] theorem kit_list_dict : kitB "list" "dict" = some false := by decide +kernel
@[simp] theorem kit_dict_int : kitB "dict" "int" = some false := by decide +kernel
@[simp] theorem kit_dict_str : kitB "dict" "str" = some false := by decide +kernel
@[simp] theorem kit_dict_tuple : kitB "dict" "tuple" = some false := by decide +kernel
@[simp] theorem kit_dict_bool : kitB "dict" "bool" = some false := by decide +kernel
@[simp] theorem kit_dict_list : kitB "dict" "list" = some false := by decide +kernel
@[simp] theorem kit_dict_dict : kitB "dict" "dict" = some true := by decide +kernel
@[simp] theorem kit_NoneType_int : kitB "NoneType" "int" = some false := by decide +kernel
@[simp] theorem kit_NoneType_str : kitB "NoneType" "str" = some false := by decide +kernel
@[simp] theorem kit_NoneType_tuple : kitB "NoneType" "tuple" = some false := by decide +kernel
@[simp] theorem kit_NoneType_bool : kitB "NoneType" "bool" = some false := by decide +kernel
@[simp] theorem kit_NoneType_list : kitB "NoneType" "list" = some false := by decide +kernel
@[simp] theorem kit_NoneType_dict : kitB "NoneType" "dict" = some false := by decide +kernel
end
theorem isi_of {x : D} {s : S} {n t : String} {b : Bool} (h : tyName x s = some t) (k : kitB t n = some b) : cIsi [x, .ty n] s = .ok (.bl b) s := by
  show (match kitO (tyName x s) n with | some b => R.ok (D.bl b) s | none => R.bad) = _
  rw [h]
  show (match kitB t n with | some b => R.ok (D.bl b) s | none => R.bad) = _
  rw [k]
@[simp] theorem oIs_non (x : D) (s : S) : oIs x .non s = .ok (.bl (isN x)) s := by cases x <;> rfl
@[simp] theorem oIs_bl (x : D) (b : Bool) (s : S) : oIs x (.bl b) s = .ok (.bl (isB b x)) s := by cases x <;> rfl
@[simp] theorem oIsNot_non (x : D) (s : S) : oIsNot x .non s = .ok (.bl (!isN x)) s := by cases x <;> rfl
end Mi
namespace Mi
namespace G85
open PySem PySem.Spec PyProof.Rows L2
/-! ### the text by places -/
def top (i : Nat) : Stmt := PySem.Challenge.pw_burnish_k85_packed_values_read_back.main.body.getD i (.Pass ⟨0, 0, 0, 0⟩)
abbrev st_is_sign : Stmt := top 6
theorem sc_is_sign : FnScope ["code"] ["code"] (defScope st_is_sign) := ⟨rfl, rfl, rfl, by decide +kernel, rfl, by decide +kernel, by decide +kernel⟩
abbrev st_add_size : Stmt := top 7
theorem sc_add_size : FnScope ["out", "n"] ["out", "n"] (defScope st_add_size) := ⟨rfl, rfl, rfl, by decide +kernel, rfl, by decide +kernel, by decide +kernel⟩
abbrev st_add_text : Stmt := top 8
theorem sc_add_text : FnScope ["out", "text", "sign"] ["out", "text"] (defScope st_add_text) := ⟨rfl, rfl, rfl, by decide +kernel, rfl, by decide +kernel, by decide +kernel⟩
abbrev st_add_value : Stmt := top 9
theorem sc_add_value : FnScope ["out", "value", "depth", "part"] ["out", "value", "depth"] (defScope st_add_value) := ⟨rfl, rfl, rfl, by decide +kernel, rfl, by decide +kernel, by decide +kernel⟩
abbrev st_pack : Stmt := top 10
theorem sc_pack : FnScope ["value", "out"] ["value"] (defScope st_pack) := ⟨rfl, rfl, rfl, by decide +kernel, rfl, by decide +kernel, by decide +kernel⟩
abbrev st_byte_at : Stmt := top 11
theorem sc_byte_at : FnScope ["data", "at"] ["data", "at"] (defScope st_byte_at) := ⟨rfl, rfl, rfl, by decide +kernel, rfl, by decide +kernel, by decide +kernel⟩
abbrev st_read_size : Stmt := top 12
theorem sc_read_size : FnScope ["data", "at", "first", "n", "unit"] ["data", "at"] (defScope st_read_size) := ⟨rfl, rfl, rfl, by decide +kernel, rfl, by decide +kernel, by decide +kernel⟩
abbrev st_read_text : Stmt := top 13
theorem sc_read_text : FnScope ["data", "at", "many", "text", "_"] ["data", "at"] (defScope st_read_text) := ⟨rfl, rfl, rfl, by decide +kernel, rfl, by decide +kernel, by decide +kernel⟩
abbrev st_read_parts : Stmt := top 14
theorem sc_read_parts : FnScope ["data", "at", "depth", "many", "parts", "_", "part"] ["data", "at", "depth"] (defScope st_read_parts) := ⟨rfl, rfl, rfl, by decide +kernel, rfl, by decide +kernel, by decide +kernel⟩
abbrev st_read_plain : Stmt := top 15
theorem sc_read_plain : FnScope ["data", "at", "depth", "code", "n"] ["data", "at", "depth"] (defScope st_read_plain) := ⟨rfl, rfl, rfl, by decide +kernel, rfl, by decide +kernel, by decide +kernel⟩
abbrev st_unpack : Stmt := top 16
theorem sc_unpack : FnScope ["data", "value", "at"] ["data"] (defScope st_unpack) := ⟨rfl, rfl, rfl, by decide +kernel, rfl, by decide +kernel, by decide +kernel⟩
abbrev st__law_draw : Stmt := top 18
theorem sc__law_draw : FnScope ["_law_script", "_law_seed", "_law_cell"] ["_law_script"] (defScope st__law_draw) := ⟨rfl, rfl, rfl, by decide +kernel, rfl, by decide +kernel, by decide +kernel⟩
abbrev st__law_take : Stmt := top 19
theorem sc__law_take : FnScope ["_law_draw_here", "_law_many", "_law_found"] ["_law_draw_here", "_law_many"] (defScope st__law_take) := ⟨rfl, rfl, rfl, by decide +kernel, rfl, by decide +kernel, by decide +kernel⟩
abbrev st__law_signs : Stmt := top 20
theorem sc__law_signs : FnScope ["_law_signs_here"] [] (defScope st__law_signs) := ⟨rfl, rfl, rfl, by decide +kernel, rfl, by decide +kernel, by decide +kernel⟩
abbrev st__law_text : Stmt := top 21
theorem sc__law_text : FnScope ["_law_draw_here", "_law_signs_here", "_law_size_here", "_law_first", "_law_step", "_law_k"] ["_law_draw_here"] (defScope st__law_text) := ⟨rfl, rfl, rfl, by decide +kernel, rfl, by decide +kernel, by decide +kernel⟩
abbrev st__law_number : Stmt := top 22
theorem sc__law_number : FnScope ["_law_draw_here", "_law_choice", "_law_number_here"] ["_law_draw_here"] (defScope st__law_number) := ⟨rfl, rfl, rfl, by decide +kernel, rfl, by decide +kernel, by decide +kernel⟩
abbrev st__law_value : Stmt := top 23
theorem sc__law_value : FnScope ["_law_draw_here", "_law_depth", "_law_choice", "_law_k"] ["_law_draw_here", "_law_depth"] (defScope st__law_value) := ⟨rfl, rfl, rfl, by decide +kernel, rfl, by decide +kernel, by decide +kernel⟩
abbrev st__law_size : Stmt := top 24
theorem sc__law_size : FnScope ["_law_number_here", "_law_row"] ["_law_number_here"] (defScope st__law_size) := ⟨rfl, rfl, rfl, by decide +kernel, rfl, by decide +kernel, by decide +kernel⟩
abbrev st__law_packed : Stmt := top 25
theorem sc__law_packed : FnScope ["_law_value_here", "_law_depth", "_law_row", "_law_sign_here", "_law_part", "_law_more"] ["_law_value_here", "_law_depth"] (defScope st__law_packed) := ⟨rfl, rfl, rfl, by decide +kernel, rfl, by decide +kernel, by decide +kernel⟩
abbrev st__law_alike : Stmt := top 26
theorem sc__law_alike : FnScope ["_law_actual", "_law_due", "_law_k"] ["_law_actual", "_law_due"] (defScope st__law_alike) := ⟨rfl, rfl, rfl, by decide +kernel, rfl, by decide +kernel, by decide +kernel⟩
abbrev st__law_read_size : Stmt := top 27
theorem sc__law_read_size : FnScope ["_law_data", "_law_at", "_law_first", "_law_number_here", "_law_unit"] ["_law_data", "_law_at"] (defScope st__law_read_size) := ⟨rfl, rfl, rfl, by decide +kernel, rfl, by decide +kernel, by decide +kernel⟩
abbrev st__law_sign : Stmt := top 28
theorem sc__law_sign : FnScope ["_law_code"] ["_law_code"] (defScope st__law_sign) := ⟨rfl, rfl, rfl, by decide +kernel, rfl, by decide +kernel, by decide +kernel⟩
abbrev st__law_read_text : Stmt := top 29
theorem sc__law_read_text : FnScope ["_law_data", "_law_at", "_law_many", "_law_text_here", "_law_sign_here"] ["_law_data", "_law_at", "_law_many"] (defScope st__law_read_text) := ⟨rfl, rfl, rfl, by decide +kernel, rfl, by decide +kernel, by decide +kernel⟩
abbrev st__law_read : Stmt := top 30
theorem sc__law_read : FnScope ["_law_data", "_law_at", "_law_depth", "_law_code", "_law_size_here", "_law_parts", "_law_many", "_law_part"] ["_law_data", "_law_at", "_law_depth"] (defScope st__law_read) := ⟨rfl, rfl, rfl, by decide +kernel, rfl, by decide +kernel, by decide +kernel⟩
abbrev st__law_error : Stmt := top 31
theorem sc__law_error : FnScope ["_law_call", "_law_argument", "e"] ["_law_call", "_law_argument"] (defScope st__law_error) := ⟨rfl, rfl, rfl, by decide +kernel, rfl, by decide +kernel, by decide +kernel⟩
abbrev st__law_bent : Stmt := top 32
theorem sc__law_bent : FnScope ["_law_draw_here", "_law_row", "_law_at", "_law_choice", "_law_k"] ["_law_draw_here", "_law_row"] (defScope st__law_bent) := ⟨rfl, rfl, rfl, by decide +kernel, rfl, by decide +kernel, by decide +kernel⟩
abbrev st__law_unpacks : Stmt := top 33
theorem sc__law_unpacks : FnScope ["_law_data", "_law_due", "_law_given", "_law_actual"] ["_law_data"] (defScope st__law_unpacks) := ⟨rfl, rfl, rfl, by decide +kernel, rfl, by decide +kernel, by decide +kernel⟩
abbrev st_law : Stmt := top 34
theorem sc_law : FnScope ["_law_script", "_law_draw_here", "_law_value_here", "_law_choice", "_law_odd", "_law_around", "_law_k", "_law_due"] ["_law_script"] (defScope st_law) := ⟨rfl, rfl, rfl, by decide +kernel, rfl, by decide +kernel, by decide +kernel⟩
def s_PRINTED : Str := (" !\"#$ &'()*+,-./0123456789:;<=>?@ABCDEFGHIJKLMNOPQRSTUVWXYZ[\\]^_`abcdefghijklmnopqrstuvwxyz{|}~" : Str)
/-! ### what the walk asks of the written part -/
structure Tx (P : Program) (K : PySem.W.Frag) (mg : Str → Option Value) : Prop where
  n_abs : mg "abs" = none
  n_bool : mg "bool" = none
  n_int : mg "int" = none
  n_isinstance : mg "isinstance" = none
  n_len : mg "len" = none
  n_list : mg "list" = none
  n_max : mg "max" = none
  n_min : mg "min" = none
  n_ord : mg "ord" = none
  n_range : mg "range" = none
  n_str : mg "str" = none
  n_tuple : mg "tuple" = none
  g_DEEPEST : ∃ t, mg "DEEPEST" = some (.int 60 t)
  g_PRINTED : ∃ t, mg "PRINTED" = some (.str s_PRINTED t)
  f_PackError : ∃ f, mg "PackError" = some (.ref f)
  r_PackError : Rs P K mg "PackError"
  f_pack : ∃ f, mg "pack" = some (.ref f)
  f_unpack : ∃ f, mg "unpack" = some (.ref f)
section
variable {P : Program} {w : World} {K : PySem.W.Frag} {mg : Str → Option Value} {base : Heap} {k : Nat}
noncomputable def B_is_sign : B :=
  (sRet (mOr (mOp oEq (mVar 0) (mC (.int 10))) (mAnd (mChain oLe oLe (mC (.int 32)) (mVar 0) (mC (.int 126))) (mOp oNe (mVar 0) (mC (.int 37))))))
noncomputable def F_is_sign : List D → S → R D := runF 1 1 B_is_sign
theorem cal_is_sign (T : Tx P K mg) (D_is_sign : DefAt K mg "is_sign" st_is_sign ["code"])  : Cal P w K mg base (k + 1) 1 "is_sign" F_is_sign := cal_of D_is_sign sc_is_sign rfl fun f cdv A outer s H E hr =>
  (b_one (s_ret (d_or (d_cmp (op_eqD hr.units) os_eq (d_var 0) d_int) (d_one (d_and (d_chain op_le os_le op_le os_le d_int (d_var 0) d_int) (d_one (d_cmp (op_neD hr.units) os_ne (d_var 0) d_int)))))))
noncomputable def T_add_size1  : M :=
  (mOp oGe (mVar 1) (mC (.int 128)))
noncomputable def W_add_size1  : B :=
  (bSeq (sExpr (mMeth isLst oApp (mVar 0) (mCons (mOp oAdd (mOp oMod (mVar 1) (mC (.int 128))) (mC (.int 128))) mNil)))
  (sSet 1 (mOp oFdiv (mVar 1) (mC (.int 128)))))
noncomputable def B_add_size : B :=
  (bSeq (whileK T_add_size1 W_add_size1 wf)
  (sExpr (mMeth isLst oApp (mVar 0) (mCons (mVar 1) mNil))))
noncomputable def F_add_size : List D → S → R D := runF 2 2 B_add_size
theorem cal_add_size (T : Tx P K mg) (D_add_size : DefAt K mg "add_size" st_add_size ["out", "n"])  : Cal P w K mg base (k + 1) 2 "add_size" F_add_size := cal_of D_add_size sc_add_size rfl fun f cdv A outer s H E hr =>
  (b_cons (s_while wf ownC (t_cmp op_ge os_ge (d_var 1) d_int)
  (b_cons (s_expr (d_append (d_var 0) (a_cons (d_add (d_mod (d_var 1) d_int) d_int) a_nil)))
  (b_one (s_set 1 sc_add_size.nd (d_fdiv (d_var 1) d_int)))))
  (b_one (s_expr (d_append (d_var 0) (a_cons (d_var 1) a_nil)))))
noncomputable def W_add_text1  : B :=
  (bSeq (sIf (mNot (mCall F_is_sign (mCons (mCall cOrd (mCons (mVar 2) mNil)) mNil)))
  (sRaise ("PackError" : Str) (mNeg (mC (.int 1))))
  bNil)
  (sExpr (mMeth isLst oApp (mVar 0) (mCons (mCall cOrd (mCons (mVar 2) mNil)) mNil))))
noncomputable def B_add_text : B :=
  (bSeq (sExpr (mMeth isLst oApp (mVar 0) (mCons (mC (.int 5)) mNil)))
  (bSeq (sExpr (mCall F_add_size (mCons (mVar 0) (mCons (mCall cLen (mCons (mVar 1) mNil)) mNil))))
  (sFor (iSeq (mVar 1)) (gN 2) W_add_text1)))
noncomputable def F_add_text : List D → S → R D := runF 2 3 B_add_text
theorem cal_add_text (T : Tx P K mg) (D_add_text : DefAt K mg "add_text" st_add_text ["out", "text"]) (c_is_sign : Cal P w K mg base k 1 "is_sign" F_is_sign) (c_add_size : Cal P w K mg base k 2 "add_size" F_add_size) : Cal P w K mg base (k + 1) 2 "add_text" F_add_text := cal_of D_add_text sc_add_text rfl fun f cdv A outer s H E hr =>
  (b_cons (s_expr (d_append (d_var 0) (a_cons d_int a_nil)))
  (b_cons (s_expr (d_cal c_add_size hr passC (a_cons (d_var 0) (a_cons (d_len T.n_len (a_cons (d_var 1) a_nil)) a_nil)) len_2))
  (b_one (s_for ownC rfl (i_seq (d_var 1)) (g_name 2 sc_add_text.nd)
  (b_cons (s_if (t_not (t_val (d_cal c_is_sign hr passC (a_cons (d_ord T.n_ord (a_cons (d_var 2) a_nil)) a_nil) len_1)))
  (b_one (s_raise' T.r_PackError rfl hr takesC (d_neg d_int)))
  b_nil)
  (b_one (s_expr (d_append (d_var 0) (a_cons (d_ord T.n_ord (a_cons (d_var 2) a_nil)) a_nil)))))))))
noncomputable def W_add_value1 (F_add_value : List D → S → R D) : B :=
  (sExpr (mCall F_add_value (mCons (mVar 0) (mCons (mVar 3) (mCons (mOp oAdd (mVar 2) (mC (.int 1))) mNil)))))
noncomputable def B_add_value (F_add_value : List D → S → R D) : B :=
  (sIf (mOp oIs (mVar 1) (mC .non))
  (sExpr (mMeth isLst oApp (mVar 0) (mCons (mC (.int 0)) mNil)))
  (sIf (mOp oIs (mVar 1) (mC (.bl false)))
  (sExpr (mMeth isLst oApp (mVar 0) (mCons (mC (.int 1)) mNil)))
  (sIf (mOp oIs (mVar 1) (mC (.bl true)))
  (sExpr (mMeth isLst oApp (mVar 0) (mCons (mC (.int 2)) mNil)))
  (sIf (mCall cIsi (mCons (mVar 1) (mCons (mC (.ty "int")) mNil)))
  (bSeq (sExpr (mMeth isLst oApp (mVar 0) (mCons (mIf (mOp oGe (mVar 1) (mC (.int 0))) (mC (.int 3)) (mC (.int 4))) mNil)))
  (sExpr (mCall F_add_size (mCons (mVar 0) (mCons (mIf (mOp oGe (mVar 1) (mC (.int 0))) (mVar 1) (mOp oSub (mNeg (mC (.int 1))) (mVar 1))) mNil)))))
  (sIf (mCall cIsi (mCons (mVar 1) (mCons (mC (.ty "str")) mNil)))
  (sExpr (mCall F_add_text (mCons (mVar 0) (mCons (mVar 1) mNil))))
  (sIf (mAnd (mCall cIsi (mCons (mVar 1) (mCons (mC (.ty "tuple")) mNil))) (mOp oLt (mVar 2) (mC (.int 60))))
  (bSeq (sExpr (mMeth isLst oApp (mVar 0) (mCons (mC (.int 6)) mNil)))
  (bSeq (sExpr (mCall F_add_size (mCons (mVar 0) (mCons (mCall cLen (mCons (mVar 1) mNil)) mNil))))
  (sFor (iSeq (mVar 1)) (gN 3) (W_add_value1 F_add_value))))
  (sRaise ("PackError" : Str) (mNeg (mC (.int 1))))))))))
noncomputable def F_add_value : Nat → List D → S → R D
  | 0 => runF 3 4 (fun _ _ => .bad)
  | j + 1 => runF 3 4 (B_add_value (F_add_value j))
theorem cal_add_value (T : Tx P K mg) (D_add_value : DefAt K mg "add_value" st_add_value ["out", "value", "depth"]) (c_add_size : Cal P w K mg base k 2 "add_size" F_add_size) (c_add_text : Cal P w K mg base k 2 "add_text" F_add_text) : ∀ j, Cal P w K mg base (k + 1 + 1 * j) 3 "add_value" (F_add_value j)
  | 0 => cal_bad D_add_value sc_add_value rfl
  | j + 1 => by
    have c_add_value : Cal P w K mg base (k + 1 + 1 * j) 3 "add_value" (F_add_value j) := cal_add_value T D_add_value c_add_size c_add_text j
    have c_add_size := c_add_size.mono (show k ≤ k + 1 + 1 * j by omega)
    have c_add_text := c_add_text.mono (show k ≤ k + 1 + 1 * j by omega)
    exact cal_of D_add_value sc_add_value rfl fun f cdv A outer s H E hr =>
  (b_one (s_if (t_cmp or_is os_is (d_var 1) d_non)
  (b_one (s_expr (d_append (d_var 0) (a_cons d_int a_nil))))
  (b_one (s_if (t_cmp or_is os_is (d_var 1) d_bl)
  (b_one (s_expr (d_append (d_var 0) (a_cons d_int a_nil))))
  (b_one (s_if (t_cmp or_is os_is (d_var 1) d_bl)
  (b_one (s_expr (d_append (d_var 0) (a_cons d_int a_nil))))
  (b_one (s_if (t_val (d_isi T.n_isinstance (a_cons (d_var 1) (a_cons (d_bty T.n_int bt_int) a_nil))))
  (b_cons (s_expr (d_append (d_var 0) (a_cons (d_if (t_cmp op_ge os_ge (d_var 1) d_int) d_int d_int) a_nil)))
  (b_one (s_expr (d_cal c_add_size hr passC (a_cons (d_var 0) (a_cons (d_if (t_cmp op_ge os_ge (d_var 1) d_int) (d_var 1) (d_sub (d_neg d_int) (d_var 1))) a_nil)) len_2))))
  (b_one (s_if (t_val (d_isi T.n_isinstance (a_cons (d_var 1) (a_cons (d_bty T.n_str bt_str) a_nil))))
  (b_one (s_expr (d_cal c_add_text hr passC (a_cons (d_var 0) (a_cons (d_var 1) a_nil)) len_2)))
  (b_one (s_if (t_w (t_and (t_val (d_isi T.n_isinstance (a_cons (d_var 1) (a_cons (d_bty T.n_tuple bt_tuple) a_nil)))) (t_and1 (t_cmp op_lt os_lt (d_var 2) (d_gint' T.g_DEEPEST)))))
  (b_cons (s_expr (d_append (d_var 0) (a_cons d_int a_nil)))
  (b_cons (s_expr (d_cal c_add_size hr passC (a_cons (d_var 0) (a_cons (d_len T.n_len (a_cons (d_var 1) a_nil)) a_nil)) len_2))
  (b_one (s_for ownC rfl (i_seq (d_var 1)) (g_name 3 sc_add_value.nd)
  (b_one (s_expr (d_cal c_add_value hr passC (a_cons (d_var 0) (a_cons (d_var 3) (a_cons (d_add (d_var 2) d_int) a_nil))) len_3)))))))
  (b_one (s_raise' T.r_PackError rfl hr takesC (d_neg d_int)))))))))))))))
noncomputable def B_pack : B :=
  (bSeq (sSet 1 (mLst mNil))
  (bSeq (sExpr (mCall (F_add_value 64) (mCons (mVar 1) (mCons (mVar 0) (mCons (mC (.int 0)) mNil)))))
  (sRet (mVar 1))))
noncomputable def F_pack : List D → S → R D := runF 1 2 B_pack
theorem cal_pack (T : Tx P K mg) (D_pack : DefAt K mg "pack" st_pack ["value"]) (c_add_value : Cal P w K mg base k 3 "add_value" (F_add_value 64)) : Cal P w K mg base (k + 1) 1 "pack" F_pack := cal_of D_pack sc_pack rfl fun f cdv A outer s H E hr =>
  (b_cons (s_set 1 sc_pack.nd (d_lst a_nil))
  (b_cons (s_expr (d_cal c_add_value hr passC (a_cons (d_var 1) (a_cons (d_var 0) (a_cons d_int a_nil))) len_3))
  (b_one (s_ret (d_var 1)))))
noncomputable def B_byte_at : B :=
  (bSeq (sIf (mOp oGe (mVar 1) (mCall cLen (mCons (mVar 0) mNil)))
  (sRaise ("PackError" : Str) (mCall cLen (mCons (mVar 0) mNil)))
  bNil)
  (sRet (mOp oIx (mVar 0) (mVar 1))))
noncomputable def F_byte_at : List D → S → R D := runF 2 2 B_byte_at
theorem cal_byte_at (T : Tx P K mg) (D_byte_at : DefAt K mg "byte_at" st_byte_at ["data", "at"])  : Cal P w K mg base (k + 1) 2 "byte_at" F_byte_at := cal_of D_byte_at sc_byte_at rfl fun f cdv A outer s H E hr =>
  (b_cons (s_if (t_cmp op_ge os_ge (d_var 1) (d_len T.n_len (a_cons (d_var 0) a_nil)))
  (b_one (s_raise' T.r_PackError rfl hr takesC (d_len T.n_len (a_cons (d_var 0) a_nil))))
  b_nil)
  (b_one (s_ret (d_idx (d_var 0) (d_var 1)))))
noncomputable def T_read_size1  : M :=
  (mOp oGe (mCall F_byte_at (mCons (mVar 0) (mCons (mVar 1) mNil))) (mC (.int 128)))
noncomputable def W_read_size1  : B :=
  (bSeq (sAug oIadd 3 (mOp oMul (mOp oSub (mOp oIx (mVar 0) (mVar 1)) (mC (.int 128))) (mVar 4)))
  (bSeq (sSet 4 (mOp oMul (mVar 4) (mC (.int 128))))
  (sAug oIadd 1 (mC (.int 1)))))
noncomputable def B_read_size : B :=
  (bSeq (sPar3 2 3 4 (mCons (mVar 1) (mCons (mC (.int 0)) (mCons (mC (.int 1)) mNil))))
  (bSeq (whileK T_read_size1 W_read_size1 wf)
  (bSeq (sIf (mAnd (mOp oEq (mOp oIx (mVar 0) (mVar 1)) (mC (.int 0))) (mOp oGt (mVar 1) (mVar 2)))
  (sRaise ("PackError" : Str) (mVar 1))
  bNil)
  (sRet (mTup (mCons (mOp oAdd (mVar 3) (mOp oMul (mOp oIx (mVar 0) (mVar 1)) (mVar 4))) (mCons (mOp oAdd (mVar 1) (mC (.int 1))) mNil)))))))
noncomputable def F_read_size : List D → S → R D := runF 2 5 B_read_size
theorem cal_read_size (T : Tx P K mg) (D_read_size : DefAt K mg "read_size" st_read_size ["data", "at"]) (c_byte_at : Cal P w K mg base k 2 "byte_at" F_byte_at) : Cal P w K mg base (k + 1) 2 "read_size" F_read_size := cal_of D_read_size sc_read_size rfl fun f cdv A outer s H E hr =>
  (b_cons (s_par3 2 3 4 rfl sc_read_size.nd (a_cons (d_var 1) (a_cons d_int (a_cons d_int a_nil))))
  (b_cons (s_while wf ownC (t_cmp op_ge os_ge (d_cal c_byte_at hr passC (a_cons (d_var 0) (a_cons (d_var 1) a_nil)) len_2) d_int)
  (b_cons (s_iadd 3 sc_read_size.nd (d_mul (d_sub (d_idx (d_var 0) (d_var 1)) d_int) (d_var 4)))
  (b_cons (s_set 4 sc_read_size.nd (d_mul (d_var 4) d_int))
  (b_one (s_iadd 1 sc_read_size.nd d_int)))))
  (b_cons (s_if (t_w (t_and (t_cmp (op_eqD hr.units) os_eq (d_idx (d_var 0) (d_var 1)) d_int) (t_and1 (t_cmp op_gt os_gt (d_var 1) (d_var 2)))))
  (b_one (s_raise' T.r_PackError rfl hr takesC (d_var 1)))
  b_nil)
  (b_one (s_ret (d_tup (a_cons (d_add (d_var 3) (d_mul (d_idx (d_var 0) (d_var 1)) (d_var 4))) (a_cons (d_add (d_var 1) d_int) a_nil))))))))
noncomputable def W_read_text1  : B :=
  (bSeq (sIf (mNot (mCall F_is_sign (mCons (mCall F_byte_at (mCons (mVar 0) (mCons (mVar 1) mNil))) mNil)))
  (sRaise ("PackError" : Str) (mVar 1))
  bNil)
  (bSeq (sAug oIadd 3 (mIf (mOp oEq (mOp oIx (mVar 0) (mVar 1)) (mC (.int 10))) (mC (.str ("\n" : Str))) (mOp oIx (mC (.str s_PRINTED)) (mOp oSub (mOp oIx (mVar 0) (mVar 1)) (mC (.int 32))))))
  (sAug oIadd 1 (mC (.int 1)))))
noncomputable def B_read_text : B :=
  (bSeq (sTg (mCall F_read_size (mCons (mVar 0) (mCons (mVar 1) mNil))) (gTp 2 (gsCons (gN 2) (gsCons (gN 1) gsNil))))
  (bSeq (sSet 3 (mC (.str ("" : Str))))
  (bSeq (sFor (iRng1 (mCons (mVar 2) mNil)) (gN 4) W_read_text1)
  (sRet (mTup (mCons (mVar 3) (mCons (mVar 1) mNil)))))))
noncomputable def F_read_text : List D → S → R D := runF 2 5 B_read_text
theorem cal_read_text (T : Tx P K mg) (D_read_text : DefAt K mg "read_text" st_read_text ["data", "at"]) (c_is_sign : Cal P w K mg base k 1 "is_sign" F_is_sign) (c_byte_at : Cal P w K mg base k 2 "byte_at" F_byte_at) (c_read_size : Cal P w K mg base k 2 "read_size" F_read_size) : Cal P w K mg base (k + 1) 2 "read_text" F_read_text := cal_of D_read_text sc_read_text rfl fun f cdv A outer s H E hr =>
  (b_cons (s_tg (d_cal c_read_size hr passC (a_cons (d_var 0) (a_cons (d_var 1) a_nil)) len_2) (g_tup rfl (gs_cons (g_name 2 sc_read_text.nd) (gs_cons (g_name 1 sc_read_text.nd) gs_nil))))
  (b_cons (s_set 3 sc_read_text.nd d_str)
  (b_cons (s_for ownC rfl (i_rng1 T.n_range (a_cons (d_var 2) a_nil)) (g_name 4 sc_read_text.nd)
  (b_cons (s_if (t_not (t_val (d_cal c_is_sign hr passC (a_cons (d_cal c_byte_at hr passC (a_cons (d_var 0) (a_cons (d_var 1) a_nil)) len_2) a_nil) len_1)))
  (b_one (s_raise' T.r_PackError rfl hr takesC (d_var 1)))
  b_nil)
  (b_cons (s_iadd 3 sc_read_text.nd (d_if (t_cmp (op_eqD hr.units) os_eq (d_idx (d_var 0) (d_var 1)) d_int) d_str (d_idx (d_gstr' T.g_PRINTED) (d_sub (d_idx (d_var 0) (d_var 1)) d_int))))
  (b_one (s_iadd 1 sc_read_text.nd d_int)))))
  (b_one (s_ret (d_tup (a_cons (d_var 3) (a_cons (d_var 1) a_nil))))))))
noncomputable def B_read_plain (F_read_parts : List D → S → R D) : B :=
  (bSeq (sSet 3 (mCall F_byte_at (mCons (mVar 0) (mCons (mVar 1) mNil))))
  (bSeq (sIf (mOp oGt (mVar 3) (mC (.int 6)))
  (sRaise ("PackError" : Str) (mVar 1))
  bNil)
  (bSeq (sAug oIadd 1 (mC (.int 1)))
  (bSeq (sIf (mOp oLt (mVar 3) (mC (.int 3)))
  (sRet (mTup (mCons (mOp oIx (mTup (mCons (mC .non) (mCons (mC (.bl false)) (mCons (mC (.bl true)) mNil)))) (mVar 3)) (mCons (mVar 1) mNil))))
  bNil)
  (bSeq (sIf (mOp oEq (mVar 3) (mC (.int 5)))
  (sRet (mCall F_read_text (mCons (mVar 0) (mCons (mVar 1) mNil))))
  bNil)
  (bSeq (sIf (mOp oEq (mVar 3) (mC (.int 6)))
  (sRet (mCall F_read_parts (mCons (mVar 0) (mCons (mVar 1) (mCons (mVar 2) mNil)))))
  bNil)
  (bSeq (sTg (mCall F_read_size (mCons (mVar 0) (mCons (mVar 1) mNil))) (gTp 2 (gsCons (gN 4) (gsCons (gN 1) gsNil))))
  (sRet (mTup (mCons (mIf (mOp oEq (mVar 3) (mC (.int 3))) (mVar 4) (mOp oSub (mNeg (mC (.int 1))) (mVar 4))) (mCons (mVar 1) mNil)))))))))))
noncomputable def W_read_parts1 (F_read_plain : List D → S → R D) : B :=
  (bSeq (sTg (mCall F_read_plain (mCons (mVar 0) (mCons (mVar 1) (mCons (mOp oAdd (mVar 2) (mC (.int 1))) mNil)))) (gTp 2 (gsCons (gN 6) (gsCons (gN 1) gsNil))))
  (sExpr (mMeth isLst oApp (mVar 4) (mCons (mVar 6) mNil))))
noncomputable def B_read_parts (F_read_plain : List D → S → R D) : B :=
  (bSeq (sIf (mOp oGe (mVar 2) (mC (.int 60)))
  (sRaise ("PackError" : Str) (mOp oSub (mVar 1) (mC (.int 1))))
  bNil)
  (bSeq (sTg (mCall F_read_size (mCons (mVar 0) (mCons (mVar 1) mNil))) (gTp 2 (gsCons (gN 3) (gsCons (gN 1) gsNil))))
  (bSeq (sSet 4 (mLst mNil))
  (bSeq (sFor (iRng1 (mCons (mVar 3) mNil)) (gN 5) (W_read_parts1 F_read_plain))
  (sRet (mTup (mCons (mCall cTuple (mCons (mVar 4) mNil)) (mCons (mVar 1) mNil))))))))
noncomputable def F_read_plain : Nat → List D → S → R D
  | 0 => runF 3 5 (fun _ _ => .bad)
  | j + 1 => runF 3 5 (B_read_plain (runF 3 7 (B_read_parts (F_read_plain j))))
theorem cal_read_plain (T : Tx P K mg) (D_read_plain : DefAt K mg "read_plain" st_read_plain ["data", "at", "depth"]) (D_read_parts : DefAt K mg "read_parts" st_read_parts ["data", "at", "depth"]) (c_read_size : Cal P w K mg base k 2 "read_size" F_read_size) (c_read_text : Cal P w K mg base k 2 "read_text" F_read_text) (c_byte_at : Cal P w K mg base k 2 "byte_at" F_byte_at) : ∀ j, Cal P w K mg base (k + 1 + 2 * j) 3 "read_plain" (F_read_plain j)
  | 0 => cal_bad D_read_plain sc_read_plain rfl
  | j + 1 => by
    have c_read_plain : Cal P w K mg base (k + 1 + 2 * j) 3 "read_plain" (F_read_plain j) := cal_read_plain T D_read_plain D_read_parts c_read_size c_read_text c_byte_at j
    have c_read_size := c_read_size.mono (show k ≤ k + 1 + 2 * j by omega)
    have c_read_text := c_read_text.mono (show k ≤ k + 1 + 2 * j by omega)
    have c_byte_at := c_byte_at.mono (show k ≤ k + 1 + 2 * j by omega)
    have c_read_parts : Cal P w K mg base (k + 1 + 2 * j + 1) 3 "read_parts" (runF 3 7 (B_read_parts (F_read_plain j))) := cal_of D_read_parts sc_read_parts rfl fun f cdv A outer s H E hr =>
  (b_cons (s_if (t_cmp op_ge os_ge (d_var 2) (d_gint' T.g_DEEPEST))
  (b_one (s_raise' T.r_PackError rfl hr takesC (d_sub (d_var 1) d_int)))
  b_nil)
  (b_cons (s_tg (d_cal c_read_size hr passC (a_cons (d_var 0) (a_cons (d_var 1) a_nil)) len_2) (g_tup rfl (gs_cons (g_name 3 sc_read_parts.nd) (gs_cons (g_name 1 sc_read_parts.nd) gs_nil))))
  (b_cons (s_set 4 sc_read_parts.nd (d_lst a_nil))
  (b_cons (s_for ownC rfl (i_rng1 T.n_range (a_cons (d_var 3) a_nil)) (g_name 5 sc_read_parts.nd)
  (b_cons (s_tg (d_cal c_read_plain hr passC (a_cons (d_var 0) (a_cons (d_var 1) (a_cons (d_add (d_var 2) d_int) a_nil))) len_3) (g_tup rfl (gs_cons (g_name 6 sc_read_parts.nd) (gs_cons (g_name 1 sc_read_parts.nd) gs_nil))))
  (b_one (s_expr (d_append (d_var 4) (a_cons (d_var 6) a_nil))))))
  (b_one (s_ret (d_tup (a_cons (d_tuple1 T.n_tuple (a_cons (d_var 4) a_nil)) (a_cons (d_var 1) a_nil)))))))))
    have c_read_size := c_read_size.mono (Nat.le_succ _)
    have c_read_text := c_read_text.mono (Nat.le_succ _)
    have c_byte_at := c_byte_at.mono (Nat.le_succ _)
    exact cal_of D_read_plain sc_read_plain rfl fun f cdv A outer s H E hr =>
  (b_cons (s_set 3 sc_read_plain.nd (d_cal c_byte_at hr passC (a_cons (d_var 0) (a_cons (d_var 1) a_nil)) len_2))
  (b_cons (s_if (t_cmp op_gt os_gt (d_var 3) d_int)
  (b_one (s_raise' T.r_PackError rfl hr takesC (d_var 1)))
  b_nil)
  (b_cons (s_iadd 1 sc_read_plain.nd d_int)
  (b_cons (s_if (t_cmp op_lt os_lt (d_var 3) d_int)
  (b_one (s_ret (d_tup (a_cons (d_idx (d_tup (a_cons d_non (a_cons d_bl (a_cons d_bl a_nil)))) (d_var 3)) (a_cons (d_var 1) a_nil)))))
  b_nil)
  (b_cons (s_if (t_cmp (op_eqD hr.units) os_eq (d_var 3) d_int)
  (b_one (s_ret (d_cal c_read_text hr passC (a_cons (d_var 0) (a_cons (d_var 1) a_nil)) len_2)))
  b_nil)
  (b_cons (s_if (t_cmp (op_eqD hr.units) os_eq (d_var 3) d_int)
  (b_one (s_ret (d_cal c_read_parts hr passC (a_cons (d_var 0) (a_cons (d_var 1) (a_cons (d_var 2) a_nil))) len_3)))
  b_nil)
  (b_cons (s_tg (d_cal c_read_size hr passC (a_cons (d_var 0) (a_cons (d_var 1) a_nil)) len_2) (g_tup rfl (gs_cons (g_name 4 sc_read_plain.nd) (gs_cons (g_name 1 sc_read_plain.nd) gs_nil))))
  (b_one (s_ret (d_tup (a_cons (d_if (t_cmp (op_eqD hr.units) os_eq (d_var 3) d_int) (d_var 4) (d_sub (d_neg d_int) (d_var 4))) (a_cons (d_var 1) a_nil))))))))))))
noncomputable def B_unpack : B :=
  (bSeq (sTg (mCall (F_read_plain 64) (mCons (mVar 0) (mCons (mC (.int 0)) (mCons (mC (.int 0)) mNil)))) (gTp 2 (gsCons (gN 1) (gsCons (gN 2) gsNil))))
  (bSeq (sIf (mOp oLt (mVar 2) (mCall cLen (mCons (mVar 0) mNil)))
  (sRaise ("PackError" : Str) (mVar 2))
  bNil)
  (sRet (mVar 1))))
noncomputable def F_unpack : List D → S → R D := runF 1 3 B_unpack
theorem cal_unpack (T : Tx P K mg) (D_unpack : DefAt K mg "unpack" st_unpack ["data"]) (c_read_plain : Cal P w K mg base k 3 "read_plain" (F_read_plain 64)) : Cal P w K mg base (k + 1) 1 "unpack" F_unpack := cal_of D_unpack sc_unpack rfl fun f cdv A outer s H E hr =>
  (b_cons (s_tg (d_cal c_read_plain hr passC (a_cons (d_var 0) (a_cons d_int (a_cons d_int a_nil))) len_3) (g_tup rfl (gs_cons (g_name 1 sc_unpack.nd) (gs_cons (g_name 2 sc_unpack.nd) gs_nil))))
  (b_cons (s_if (t_cmp op_lt os_lt (d_var 2) (d_len T.n_len (a_cons (d_var 0) a_nil)))
  (b_one (s_raise' T.r_PackError rfl hr takesC (d_var 2)))
  b_nil)
  (b_one (s_ret (d_var 1)))))
noncomputable def W__law_draw1  : B :=
  (sSet 1 (mOp oMod (mCall cInt (mCons (mOp oAdd (mOp oAdd (mOp oMul (mVar 1) (mC (.int 48271))) (mOp oMod (mCall cAbs (mCons (mCall cInt (mCons (mVar 2) mNil)) mNil)) (mC (.int 65521)))) (mC (.int 1))) mNil)) (mC (.int 2147483647))))
noncomputable def B__law_draw : B :=
  (bSeq (sSet 1 (mC (.int 7)))
  (bSeq (sFor (iSeq (mVar 0)) (gN 2) W__law_draw1)
  (sRet (mLst (mCons (mLc (iSeq (mVar 0)) 2 yesM (mCall cAbs (mCons (mCall cInt (mCons (mVar 2) mNil)) mNil))) (mCons (mNeg (mC (.int 1))) (mCons (mC (.int 0)) (mCons (mVar 1) mNil))))))))
noncomputable def F__law_draw : List D → S → R D := runF 1 3 B__law_draw
theorem cal__law_draw (T : Tx P K mg) (D__law_draw : DefAt K mg "_law_draw" st__law_draw ["_law_script"])  : Cal P w K mg base (k + 1) 1 "_law_draw" F__law_draw := cal_of D__law_draw sc__law_draw rfl fun f cdv A outer s H E hr =>
  (b_cons (s_set 1 sc__law_draw.nd d_int)
  (b_cons (s_for ownC rfl (i_seq (d_var 0)) (g_name 2 sc__law_draw.nd)
  (b_one (s_set 1 sc__law_draw.nd (d_mod (d_int1 T.n_int (a_cons (d_add (d_add (d_mul (d_var 1) d_int) (d_mod (d_abs T.n_abs (a_cons (d_int1 T.n_int (a_cons (d_var 2) a_nil)) a_nil)) d_int)) d_int) a_nil)) d_int))))
  (b_one (s_ret (d_lst (a_cons (d_lc (i := 2) rfl sc__law_draw.nd (i_seq (d_var 0)) (show blkC ["_law_script", "_law_seed", "_law_cell"] (defScope st__law_draw) _ [("_law_cell", 2)] = true from by decide +kernel) (fun _ _ _ _ _ => pg_name (i := 2) sc__law_draw.nd rfl (Or.inl rfl)) (fun _ _ _ _ _ => (d_abs T.n_abs (a_cons (d_int1 T.n_int (a_cons (d_var 2) a_nil)) a_nil)))) (a_cons (d_neg d_int) (a_cons d_int (a_cons (d_var 1) a_nil)))))))))
noncomputable def B__law_take : B :=
  (bSeq (sIf (mOp oEq (mOp oIx (mVar 0) (mC (.int 2))) (mC (.int 0)))
  (bSeq (sSub (mOp oAdd (mOp oIx (mVar 0) (mC (.int 1))) (mC (.int 1))) (mVar 0) (mC (.int 1)))
  (bSeq (sIf (mOp oLt (mOp oIx (mVar 0) (mC (.int 1))) (mCall cLen (mCons (mOp oIx (mVar 0) (mC (.int 0))) mNil)))
  (sSub (mOp oIx (mOp oIx (mVar 0) (mC (.int 0))) (mOp oIx (mVar 0) (mC (.int 1)))) (mVar 0) (mC (.int 2)))
  bNil)
  (sIf (mOp oEq (mOp oIx (mVar 0) (mC (.int 2))) (mC (.int 0)))
  (bSeq (sSub (mOp oMod (mCall cInt (mCons (mOp oAdd (mOp oMul (mOp oIx (mVar 0) (mC (.int 3))) (mC (.int 48271))) (mC (.int 11))) mNil)) (mC (.int 2147483647))) (mVar 0) (mC (.int 3)))
  (sSub (mOp oIx (mVar 0) (mC (.int 3))) (mVar 0) (mC (.int 2))))
  bNil)))
  bNil)
  (bSeq (sSet 2 (mOp oMod (mCall cInt (mCons (mOp oIx (mVar 0) (mC (.int 2))) mNil)) (mVar 1)))
  (bSeq (sSub (mOp oFdiv (mOp oIx (mVar 0) (mC (.int 2))) (mVar 1)) (mVar 0) (mC (.int 2)))
  (sRet (mVar 2)))))
noncomputable def F__law_take : List D → S → R D := runF 2 3 B__law_take
theorem cal__law_take (T : Tx P K mg) (D__law_take : DefAt K mg "_law_take" st__law_take ["_law_draw_here", "_law_many"])  : Cal P w K mg base (k + 1) 2 "_law_take" F__law_take := cal_of D__law_take sc__law_take rfl fun f cdv A outer s H E hr =>
  (b_cons (s_if (t_cmp (op_eqD hr.units) os_eq (d_idx (d_var 0) d_int) d_int)
  (b_cons (s_sub (d_add (d_idx (d_var 0) d_int) d_int) (d_var 0) d_int)
  (b_cons (s_if (t_cmp op_lt os_lt (d_idx (d_var 0) d_int) (d_len T.n_len (a_cons (d_idx (d_var 0) d_int) a_nil)))
  (b_one (s_sub (d_idx (d_idx (d_var 0) d_int) (d_idx (d_var 0) d_int)) (d_var 0) d_int))
  b_nil)
  (b_one (s_if (t_cmp (op_eqD hr.units) os_eq (d_idx (d_var 0) d_int) d_int)
  (b_cons (s_sub (d_mod (d_int1 T.n_int (a_cons (d_add (d_mul (d_idx (d_var 0) d_int) d_int) d_int) a_nil)) d_int) (d_var 0) d_int)
  (b_one (s_sub (d_idx (d_var 0) d_int) (d_var 0) d_int)))
  b_nil))))
  b_nil)
  (b_cons (s_set 2 sc__law_take.nd (d_mod (d_int1 T.n_int (a_cons (d_idx (d_var 0) d_int) a_nil)) (d_var 1)))
  (b_cons (s_sub (d_fdiv (d_idx (d_var 0) d_int) (d_var 1)) (d_var 0) d_int)
  (b_one (s_ret (d_var 2))))))
noncomputable def B__law_signs : B :=
  (bSeq (sSet 0 (mC (.str (" !\"#$&'()*+,-./0123456789:;<=>?@ABCDEFGHIJKLMNOPQRSTUVWXYZ[\\]^_`" : Str))))
  (sRet (mOp oAdd (mVar 0) (mC (.str ("abcdefghijklmnopqrstuvwxyz{|}~\n" : Str))))))
noncomputable def F__law_signs : List D → S → R D := runF 0 1 B__law_signs
theorem cal__law_signs (T : Tx P K mg) (D__law_signs : DefAt K mg "_law_signs" st__law_signs [])  : Cal P w K mg base (k + 1) 0 "_law_signs" F__law_signs := cal_of D__law_signs sc__law_signs rfl fun f cdv A outer s H E hr =>
  (b_cons (s_set 0 sc__law_signs.nd d_str)
  (b_one (s_ret (d_add (d_var 0) d_str))))
noncomputable def B__law_text : B :=
  (bSeq (sSet 1 (mCall F__law_signs mNil))
  (bSeq (sSet 2 (mOp oIx (mLst (mCons (mC (.int 0)) (mCons (mC (.int 1)) (mCons (mC (.int 3)) (mCons (mC (.int 8)) (mCons (mC (.int 90)) mNil)))))) (mCall F__law_take (mCons (mVar 0) (mCons (mC (.int 5)) mNil)))))
  (bSeq (sSet 3 (mCall F__law_take (mCons (mVar 0) (mCons (mC (.int 95)) mNil))))
  (bSeq (sSet 4 (mCall F__law_take (mCons (mVar 0) (mCons (mC (.int 95)) mNil))))
  (sRet (mMeth isStr oJoin (mC (.str ("" : Str))) (mCons (mLc (iRng1 (mCons (mVar 2) mNil)) 5 yesM (mOp oIx (mVar 1) (mOp oMod (mOp oAdd (mVar 3) (mOp oMul (mVar 5) (mVar 4))) (mC (.int 95))))) mNil)))))))
noncomputable def F__law_text : List D → S → R D := runF 1 6 B__law_text
theorem cal__law_text (T : Tx P K mg) (D__law_text : DefAt K mg "_law_text" st__law_text ["_law_draw_here"]) (c__law_take : Cal P w K mg base k 2 "_law_take" F__law_take) (c__law_signs : Cal P w K mg base k 0 "_law_signs" F__law_signs) : Cal P w K mg base (k + 1) 1 "_law_text" F__law_text := cal_of D__law_text sc__law_text rfl fun f cdv A outer s H E hr =>
  (b_cons (s_set 1 sc__law_text.nd (d_cal0 c__law_signs hr passC))
  (b_cons (s_set 2 sc__law_text.nd (d_idx (d_lst (a_cons d_int (a_cons d_int (a_cons d_int (a_cons d_int (a_cons d_int a_nil)))))) (d_cal c__law_take hr passC (a_cons (d_var 0) (a_cons d_int a_nil)) len_2)))
  (b_cons (s_set 3 sc__law_text.nd (d_cal c__law_take hr passC (a_cons (d_var 0) (a_cons d_int a_nil)) len_2))
  (b_cons (s_set 4 sc__law_text.nd (d_cal c__law_take hr passC (a_cons (d_var 0) (a_cons d_int a_nil)) len_2))
  (b_one (s_ret (d_join d_str (a_cons (d_lc (i := 5) rfl sc__law_text.nd (i_rng1 T.n_range (a_cons (d_var 2) a_nil)) (show blkC ["_law_draw_here", "_law_signs_here", "_law_size_here", "_law_first", "_law_step", "_law_k"] (defScope st__law_text) _ [("_law_k", 5)] = true from by decide +kernel) (fun _ _ _ _ _ => pg_name (i := 5) sc__law_text.nd rfl (Or.inl rfl)) (fun _ _ _ _ _ => (d_idx (d_var 1) (d_mod (d_add (d_var 3) (d_mul (d_var 5) (d_var 4))) d_int)))) a_nil))))))))
noncomputable def B__law_number : B :=
  (bSeq (sSet 1 (mCall F__law_take (mCons (mVar 0) (mCons (mC (.int 4)) mNil))))
  (bSeq (sIf (mOp oEq (mVar 1) (mC (.int 0)))
  (sRet (mOp oIx (mLst (mCons (mC (.int 0)) (mCons (mC (.int 1)) (mCons (mNeg (mC (.int 1))) (mCons (mC (.int 127)) (mCons (mC (.int 128)) (mCons (mNeg (mC (.int 128))) (mCons (mNeg (mC (.int 129))) (mCons (mC (.int 255)) (mCons (mC (.int 16383)) (mCons (mC (.int 16384)) mNil))))))))))) (mCall F__law_take (mCons (mVar 0) (mCons (mC (.int 10)) mNil)))))
  bNil)
  (bSeq (sIf (mOp oEq (mVar 1) (mC (.int 1)))
  (sRet (mOp oSub (mCall F__law_take (mCons (mVar 0) (mCons (mC (.int 300)) mNil))) (mC (.int 150))))
  bNil)
  (bSeq (sSet 2 (mCall F__law_take (mCons (mVar 0) (mCons (mOp oPow (mC (.int 2)) (mC (.int 61))) mNil))))
  (bSeq (sIf (mOp oEq (mVar 1) (mC (.int 2)))
  (sRet (mVar 2))
  bNil)
  (sRet (mOp oSub (mNeg (mC (.int 1))) (mOp oMul (mOp oMul (mVar 2) (mVar 2)) (mVar 2)))))))))
noncomputable def F__law_number : List D → S → R D := runF 1 3 B__law_number
theorem cal__law_number (T : Tx P K mg) (D__law_number : DefAt K mg "_law_number" st__law_number ["_law_draw_here"]) (c__law_take : Cal P w K mg base k 2 "_law_take" F__law_take) : Cal P w K mg base (k + 1) 1 "_law_number" F__law_number := cal_of D__law_number sc__law_number rfl fun f cdv A outer s H E hr =>
  (b_cons (s_set 1 sc__law_number.nd (d_cal c__law_take hr passC (a_cons (d_var 0) (a_cons d_int a_nil)) len_2))
  (b_cons (s_if (t_cmp (op_eqD hr.units) os_eq (d_var 1) d_int)
  (b_one (s_ret (d_idx (d_lst (a_cons d_int (a_cons d_int (a_cons (d_neg d_int) (a_cons d_int (a_cons d_int (a_cons (d_neg d_int) (a_cons (d_neg d_int) (a_cons d_int (a_cons d_int (a_cons d_int a_nil))))))))))) (d_cal c__law_take hr passC (a_cons (d_var 0) (a_cons d_int a_nil)) len_2))))
  b_nil)
  (b_cons (s_if (t_cmp (op_eqD hr.units) os_eq (d_var 1) d_int)
  (b_one (s_ret (d_sub (d_cal c__law_take hr passC (a_cons (d_var 0) (a_cons d_int a_nil)) len_2) d_int)))
  b_nil)
  (b_cons (s_set 2 sc__law_number.nd (d_cal c__law_take hr passC (a_cons (d_var 0) (a_cons (d_pow d_int d_int) a_nil)) len_2))
  (b_cons (s_if (t_cmp (op_eqD hr.units) os_eq (d_var 1) d_int)
  (b_one (s_ret (d_var 2)))
  b_nil)
  (b_one (s_ret (d_sub (d_neg d_int) (d_mul (d_mul (d_var 2) (d_var 2)) (d_var 2))))))))))
noncomputable def B__law_value (F__law_value : List D → S → R D) : B :=
  (bSeq (sSet 2 (mCall F__law_take (mCons (mVar 0) (mCons (mC (.int 9)) mNil))))
  (bSeq (sIf (mOp oLt (mVar 2) (mC (.int 3)))
  (sRet (mOp oIx (mLst (mCons (mC .non) (mCons (mC (.bl true)) (mCons (mC (.bl false)) mNil)))) (mVar 2)))
  bNil)
  (bSeq (sIf (mOp oLt (mVar 2) (mC (.int 5)))
  (sRet (mCall F__law_number (mCons (mVar 0) mNil)))
  bNil)
  (bSeq (sIf (mOr (mOp oEq (mVar 2) (mC (.int 5))) (mOp oEq (mVar 1) (mC (.int 0))))
  (sRet (mCall F__law_text (mCons (mVar 0) mNil)))
  bNil)
  (sRet (mCall cTuple (mCons (mLc (iRng1 (mCons (mCall F__law_take (mCons (mVar 0) (mCons (mC (.int 6)) mNil))) mNil)) 3 yesM (mCall F__law_value (mCons (mVar 0) (mCons (mOp oSub (mVar 1) (mC (.int 1))) mNil)))) mNil)))))))
noncomputable def F__law_value : Nat → List D → S → R D
  | 0 => runF 2 4 (fun _ _ => .bad)
  | j + 1 => runF 2 4 (B__law_value (F__law_value j))
theorem cal__law_value (T : Tx P K mg) (D__law_value : DefAt K mg "_law_value" st__law_value ["_law_draw_here", "_law_depth"]) (c__law_take : Cal P w K mg base k 2 "_law_take" F__law_take) (c__law_text : Cal P w K mg base k 1 "_law_text" F__law_text) (c__law_number : Cal P w K mg base k 1 "_law_number" F__law_number) : ∀ j, Cal P w K mg base (k + 1 + 1 * j) 2 "_law_value" (F__law_value j)
  | 0 => cal_bad D__law_value sc__law_value rfl
  | j + 1 => by
    have c__law_value : Cal P w K mg base (k + 1 + 1 * j) 2 "_law_value" (F__law_value j) := cal__law_value T D__law_value c__law_take c__law_text c__law_number j
    have c__law_take := c__law_take.mono (show k ≤ k + 1 + 1 * j by omega)
    have c__law_text := c__law_text.mono (show k ≤ k + 1 + 1 * j by omega)
    have c__law_number := c__law_number.mono (show k ≤ k + 1 + 1 * j by omega)
    exact cal_of D__law_value sc__law_value rfl fun f cdv A outer s H E hr =>
  (b_cons (s_set 2 sc__law_value.nd (d_cal c__law_take hr passC (a_cons (d_var 0) (a_cons d_int a_nil)) len_2))
  (b_cons (s_if (t_cmp op_lt os_lt (d_var 2) d_int)
  (b_one (s_ret (d_idx (d_lst (a_cons d_non (a_cons d_bl (a_cons d_bl a_nil)))) (d_var 2))))
  b_nil)
  (b_cons (s_if (t_cmp op_lt os_lt (d_var 2) d_int)
  (b_one (s_ret (d_cal c__law_number hr passC (a_cons (d_var 0) a_nil) len_1)))
  b_nil)
  (b_cons (s_if (t_w (t_or (t_cmp (op_eqD hr.units) os_eq (d_var 2) d_int) (t_or1 (t_cmp (op_eqD hr.units) os_eq (d_var 1) d_int))))
  (b_one (s_ret (d_cal c__law_text hr passC (a_cons (d_var 0) a_nil) len_1)))
  b_nil)
  (b_one (s_ret (d_tuple1 T.n_tuple (a_cons (d_lc (i := 3) rfl sc__law_value.nd (i_rng1 T.n_range (a_cons (d_cal c__law_take hr passC (a_cons (d_var 0) (a_cons d_int a_nil)) len_2) a_nil)) (show blkC ["_law_draw_here", "_law_depth", "_law_choice", "_law_k"] (defScope st__law_value) _ [("_law_k", 3)] = true from by decide +kernel) (fun _ _ _ _ _ => pg_name (i := 3) sc__law_value.nd rfl (Or.inl rfl)) (fun _ _ _ _ _ => (d_cal c__law_value hr passL (a_cons (d_var 0) (a_cons (d_sub (d_var 1) d_int) a_nil)) len_2))) a_nil))))))))
noncomputable def T__law_size1  : M :=
  (mOp oGe (mVar 0) (mC (.int 128)))
noncomputable def W__law_size1  : B :=
  (bSeq (sExpr (mMeth isLst oApp (mVar 1) (mCons (mOp oAdd (mOp oMod (mCall cInt (mCons (mVar 0) mNil)) (mC (.int 128))) (mC (.int 128))) mNil)))
  (sSet 0 (mOp oFdiv (mVar 0) (mC (.int 128)))))
noncomputable def B__law_size : B :=
  (bSeq (sSet 1 (mLst mNil))
  (bSeq (whileK T__law_size1 W__law_size1 wf)
  (bSeq (sExpr (mMeth isLst oApp (mVar 1) (mCons (mCall cInt (mCons (mVar 0) mNil)) mNil)))
  (sRet (mVar 1)))))
noncomputable def F__law_size : List D → S → R D := runF 1 2 B__law_size
theorem cal__law_size (T : Tx P K mg) (D__law_size : DefAt K mg "_law_size" st__law_size ["_law_number_here"])  : Cal P w K mg base (k + 1) 1 "_law_size" F__law_size := cal_of D__law_size sc__law_size rfl fun f cdv A outer s H E hr =>
  (b_cons (s_set 1 sc__law_size.nd (d_lst a_nil))
  (b_cons (s_while wf ownC (t_cmp op_ge os_ge (d_var 0) d_int)
  (b_cons (s_expr (d_append (d_var 1) (a_cons (d_add (d_mod (d_int1 T.n_int (a_cons (d_var 0) a_nil)) d_int) d_int) a_nil)))
  (b_one (s_set 0 sc__law_size.nd (d_fdiv (d_var 0) d_int)))))
  (b_cons (s_expr (d_append (d_var 1) (a_cons (d_int1 T.n_int (a_cons (d_var 0) a_nil)) a_nil)))
  (b_one (s_ret (d_var 1))))))
noncomputable def W__law_packed1 (F__law_packed : List D → S → R D) : B :=
  (bSeq (sSet 5 (mCall F__law_packed (mCons (mVar 4) (mCons (mOp oAdd (mVar 1) (mC (.int 1))) mNil))))
  (bSeq (sIf (mOp oIs (mVar 5) (mC .non))
  (sRet (mC .non))
  bNil)
  (sSet 2 (mOp oAdd (mVar 2) (mVar 5)))))
noncomputable def W__law_packed2 (F__law_packed : List D → S → R D) : B :=
  (bSeq (sIf (mOp oNotInS (mVar 3) (mCall F__law_signs mNil))
  (sRet (mC .non))
  bNil)
  (sExpr (mMeth isLst oApp (mVar 2) (mCons (mCall cOrd (mCons (mVar 3) mNil)) mNil))))
noncomputable def B__law_packed (F__law_packed : List D → S → R D) : B :=
  (bSeq (sIf (mOp oIs (mVar 0) (mC .non))
  (sRet (mLst (mCons (mC (.int 0)) mNil)))
  bNil)
  (bSeq (sIf (mCall cIsi (mCons (mVar 0) (mCons (mC (.ty "bool")) mNil)))
  (sRet (mIf (mVar 0) (mLst (mCons (mC (.int 2)) mNil)) (mLst (mCons (mC (.int 1)) mNil))))
  bNil)
  (bSeq (sIf (mCall cIsi (mCons (mVar 0) (mCons (mC (.ty "int")) mNil)))
  (sRet (mIf (mOp oGe (mVar 0) (mC (.int 0))) (mOp oAdd (mLst (mCons (mC (.int 3)) mNil)) (mCall F__law_size (mCons (mVar 0) mNil))) (mOp oAdd (mLst (mCons (mC (.int 4)) mNil)) (mCall F__law_size (mCons (mOp oSub (mNeg (mC (.int 1))) (mVar 0)) mNil)))))
  bNil)
  (bSeq (sIf (mCall cIsi (mCons (mVar 0) (mCons (mC (.ty "str")) mNil)))
  (bSeq (sSet 2 (mOp oAdd (mLst (mCons (mC (.int 5)) mNil)) (mCall F__law_size (mCons (mCall cLen (mCons (mVar 0) mNil)) mNil))))
  (bSeq (sFor (iSeq (mVar 0)) (gN 3) (W__law_packed2 F__law_packed))
  (sRet (mVar 2))))
  bNil)
  (bSeq (sIf (mOr (mNot (mCall cIsi (mCons (mVar 0) (mCons (mC (.ty "tuple")) mNil)))) (mOp oEq (mVar 1) (mC (.int 60))))
  (sRet (mC .non))
  bNil)
  (bSeq (sSet 2 (mOp oAdd (mLst (mCons (mC (.int 6)) mNil)) (mCall F__law_size (mCons (mCall cLen (mCons (mVar 0) mNil)) mNil))))
  (bSeq (sFor (iSeq (mVar 0)) (gN 4) (W__law_packed1 F__law_packed))
  (sRet (mVar 2)))))))))
noncomputable def F__law_packed : Nat → List D → S → R D
  | 0 => runF 2 6 (fun _ _ => .bad)
  | j + 1 => runF 2 6 (B__law_packed (F__law_packed j))
theorem cal__law_packed (T : Tx P K mg) (D__law_packed : DefAt K mg "_law_packed" st__law_packed ["_law_value_here", "_law_depth"]) (c__law_size : Cal P w K mg base k 1 "_law_size" F__law_size) (c__law_signs : Cal P w K mg base k 0 "_law_signs" F__law_signs) : ∀ j, Cal P w K mg base (k + 1 + 1 * j) 2 "_law_packed" (F__law_packed j)
  | 0 => cal_bad D__law_packed sc__law_packed rfl
  | j + 1 => by
    have c__law_packed : Cal P w K mg base (k + 1 + 1 * j) 2 "_law_packed" (F__law_packed j) := cal__law_packed T D__law_packed c__law_size c__law_signs j
    have c__law_size := c__law_size.mono (show k ≤ k + 1 + 1 * j by omega)
    have c__law_signs := c__law_signs.mono (show k ≤ k + 1 + 1 * j by omega)
    exact cal_of D__law_packed sc__law_packed rfl fun f cdv A outer s H E hr =>
  (b_cons (s_if (t_cmp or_is os_is (d_var 0) d_non)
  (b_one (s_ret (d_lst (a_cons d_int a_nil))))
  b_nil)
  (b_cons (s_if (t_val (d_isi T.n_isinstance (a_cons (d_var 0) (a_cons (d_bty T.n_bool bt_bool) a_nil))))
  (b_one (s_ret (d_if (t_val (d_var 0)) (d_lst (a_cons d_int a_nil)) (d_lst (a_cons d_int a_nil)))))
  b_nil)
  (b_cons (s_if (t_val (d_isi T.n_isinstance (a_cons (d_var 0) (a_cons (d_bty T.n_int bt_int) a_nil))))
  (b_one (s_ret (d_if (t_cmp op_ge os_ge (d_var 0) d_int) (d_add (d_lst (a_cons d_int a_nil)) (d_cal c__law_size hr passC (a_cons (d_var 0) a_nil) len_1)) (d_add (d_lst (a_cons d_int a_nil)) (d_cal c__law_size hr passC (a_cons (d_sub (d_neg d_int) (d_var 0)) a_nil) len_1)))))
  b_nil)
  (b_cons (s_if (t_val (d_isi T.n_isinstance (a_cons (d_var 0) (a_cons (d_bty T.n_str bt_str) a_nil))))
  (b_cons (s_set 2 sc__law_packed.nd (d_add (d_lst (a_cons d_int a_nil)) (d_cal c__law_size hr passC (a_cons (d_len T.n_len (a_cons (d_var 0) a_nil)) a_nil) len_1)))
  (b_cons (s_for ownC rfl (i_seq (d_var 0)) (g_name 3 sc__law_packed.nd)
  (b_cons (s_if (t_cmp op_notin_str os_notInS (d_var 3) (d_cal0 c__law_signs hr passC))
  (b_one (s_ret d_non))
  b_nil)
  (b_one (s_expr (d_append (d_var 2) (a_cons (d_ord T.n_ord (a_cons (d_var 3) a_nil)) a_nil))))))
  (b_one (s_ret (d_var 2)))))
  b_nil)
  (b_cons (s_if (t_w (t_or (t_not (t_val (d_isi T.n_isinstance (a_cons (d_var 0) (a_cons (d_bty T.n_tuple bt_tuple) a_nil))))) (t_or1 (t_cmp (op_eqD hr.units) os_eq (d_var 1) d_int))))
  (b_one (s_ret d_non))
  b_nil)
  (b_cons (s_set 2 sc__law_packed.nd (d_add (d_lst (a_cons d_int a_nil)) (d_cal c__law_size hr passC (a_cons (d_len T.n_len (a_cons (d_var 0) a_nil)) a_nil) len_1)))
  (b_cons (s_for ownC rfl (i_seq (d_var 0)) (g_name 4 sc__law_packed.nd)
  (b_cons (s_set 5 sc__law_packed.nd (d_cal c__law_packed hr passC (a_cons (d_var 4) (a_cons (d_add (d_var 1) d_int) a_nil)) len_2))
  (b_cons (s_if (t_cmp or_is os_is (d_var 5) d_non)
  (b_one (s_ret d_non))
  b_nil)
  (b_one (s_set 2 sc__law_packed.nd (d_add (d_var 2) (d_var 5)))))))
  (b_one (s_ret (d_var 2))))))))))
noncomputable def W__law_alike1 (F__law_alike : List D → S → R D) : B :=
  (sIf (mNot (mCall F__law_alike (mCons (mOp oIx (mVar 0) (mVar 2)) (mCons (mOp oIx (mVar 1) (mVar 2)) mNil))))
  (sRet (mC (.bl false)))
  bNil)
noncomputable def B__law_alike (F__law_alike : List D → S → R D) : B :=
  (bSeq (sIf (mOp oIs (mVar 1) (mC .non))
  (sRet (mOp oIs (mVar 0) (mC .non)))
  bNil)
  (bSeq (sIf (mCall cIsi (mCons (mVar 1) (mCons (mC (.ty "bool")) mNil)))
  (sRet (mAnd (mCall cIsi (mCons (mVar 0) (mCons (mC (.ty "bool")) mNil))) (mOp oEq (mVar 0) (mVar 1))))
  bNil)
  (bSeq (sIf (mCall cIsi (mCons (mVar 1) (mCons (mC (.ty "int")) mNil)))
  (sRet (mAnd (mCall cIsi (mCons (mVar 0) (mCons (mC (.ty "int")) mNil))) (mAnd (mNot (mCall cIsi (mCons (mVar 0) (mCons (mC (.ty "bool")) mNil)))) (mOp oEq (mVar 0) (mVar 1)))))
  bNil)
  (bSeq (sIf (mCall cIsi (mCons (mVar 1) (mCons (mC (.ty "str")) mNil)))
  (sRet (mAnd (mCall cIsi (mCons (mVar 0) (mCons (mC (.ty "str")) mNil))) (mOp oEq (mVar 0) (mVar 1))))
  bNil)
  (bSeq (sIf (mOr (mNot (mCall cIsi (mCons (mVar 0) (mCons (mC (.ty "tuple")) mNil)))) (mOp oNe (mCall cLen (mCons (mVar 0) mNil)) (mCall cLen (mCons (mVar 1) mNil))))
  (sRet (mC (.bl false)))
  bNil)
  (bSeq (sFor (iRng1 (mCons (mCall cLen (mCons (mVar 1) mNil)) mNil)) (gN 2) (W__law_alike1 F__law_alike))
  (sRet (mC (.bl true)))))))))
noncomputable def F__law_alike : Nat → List D → S → R D
  | 0 => runF 2 3 (fun _ _ => .bad)
  | j + 1 => runF 2 3 (B__law_alike (F__law_alike j))
theorem cal__law_alike (T : Tx P K mg) (D__law_alike : DefAt K mg "_law_alike" st__law_alike ["_law_actual", "_law_due"])  : ∀ j, Cal P w K mg base (k + 1 + 1 * j) 2 "_law_alike" (F__law_alike j)
  | 0 => cal_bad D__law_alike sc__law_alike rfl
  | j + 1 => by
    have c__law_alike : Cal P w K mg base (k + 1 + 1 * j) 2 "_law_alike" (F__law_alike j) := cal__law_alike T D__law_alike  j
    exact cal_of D__law_alike sc__law_alike rfl fun f cdv A outer s H E hr =>
  (b_cons (s_if (t_cmp or_is os_is (d_var 1) d_non)
  (b_one (s_ret (d_cmp or_is os_is (d_var 0) d_non)))
  b_nil)
  (b_cons (s_if (t_val (d_isi T.n_isinstance (a_cons (d_var 1) (a_cons (d_bty T.n_bool bt_bool) a_nil))))
  (b_one (s_ret (d_and (d_isi T.n_isinstance (a_cons (d_var 0) (a_cons (d_bty T.n_bool bt_bool) a_nil))) (d_one (d_cmp (op_eqD hr.units) os_eq (d_var 0) (d_var 1))))))
  b_nil)
  (b_cons (s_if (t_val (d_isi T.n_isinstance (a_cons (d_var 1) (a_cons (d_bty T.n_int bt_int) a_nil))))
  (b_one (s_ret (d_and (d_isi T.n_isinstance (a_cons (d_var 0) (a_cons (d_bty T.n_int bt_int) a_nil))) (d_and (d_not (d_isi T.n_isinstance (a_cons (d_var 0) (a_cons (d_bty T.n_bool bt_bool) a_nil)))) (d_one (d_cmp (op_eqD hr.units) os_eq (d_var 0) (d_var 1)))))))
  b_nil)
  (b_cons (s_if (t_val (d_isi T.n_isinstance (a_cons (d_var 1) (a_cons (d_bty T.n_str bt_str) a_nil))))
  (b_one (s_ret (d_and (d_isi T.n_isinstance (a_cons (d_var 0) (a_cons (d_bty T.n_str bt_str) a_nil))) (d_one (d_cmp (op_eqD hr.units) os_eq (d_var 0) (d_var 1))))))
  b_nil)
  (b_cons (s_if (t_w (t_or (t_not (t_val (d_isi T.n_isinstance (a_cons (d_var 0) (a_cons (d_bty T.n_tuple bt_tuple) a_nil))))) (t_or1 (t_cmp (op_neD hr.units) os_ne (d_len T.n_len (a_cons (d_var 0) a_nil)) (d_len T.n_len (a_cons (d_var 1) a_nil))))))
  (b_one (s_ret d_bl))
  b_nil)
  (b_cons (s_for ownC rfl (i_rng1 T.n_range (a_cons (d_len T.n_len (a_cons (d_var 1) a_nil)) a_nil)) (g_name 2 sc__law_alike.nd)
  (b_one (s_if (t_not (t_val (d_cal c__law_alike hr passC (a_cons (d_idx (d_var 0) (d_var 2)) (a_cons (d_idx (d_var 1) (d_var 2)) a_nil)) len_2)))
  (b_one (s_ret d_bl))
  b_nil)))
  (b_one (s_ret d_bl))))))))
noncomputable def T__law_read_size1  : M :=
  (mAnd (mOp oLt (mVar 1) (mCall cLen (mCons (mVar 0) mNil))) (mOp oGe (mOp oIx (mVar 0) (mVar 1)) (mC (.int 128))))
noncomputable def W__law_read_size1  : B :=
  (bSeq (sSet 3 (mOp oAdd (mVar 3) (mOp oMul (mOp oSub (mOp oIx (mVar 0) (mVar 1)) (mC (.int 128))) (mVar 4))))
  (bSeq (sSet 4 (mOp oMul (mVar 4) (mC (.int 128))))
  (sSet 1 (mOp oAdd (mVar 1) (mC (.int 1))))))
noncomputable def B__law_read_size : B :=
  (bSeq (sSet 2 (mVar 1))
  (bSeq (sSet 3 (mC (.int 0)))
  (bSeq (sSet 4 (mC (.int 1)))
  (bSeq (whileK T__law_read_size1 W__law_read_size1 wf)
  (bSeq (sIf (mOp oEq (mVar 1) (mCall cLen (mCons (mVar 0) mNil)))
  (sRet (mTup (mCons (mC (.bl false)) (mCons (mVar 1) mNil))))
  bNil)
  (bSeq (sIf (mAnd (mOp oEq (mOp oIx (mVar 0) (mVar 1)) (mC (.int 0))) (mOp oGt (mVar 1) (mVar 2)))
  (sRet (mTup (mCons (mC (.bl false)) (mCons (mVar 1) mNil))))
  bNil)
  (sRet (mTup (mCons (mC (.bl true)) (mCons (mOp oAdd (mVar 3) (mOp oMul (mOp oIx (mVar 0) (mVar 1)) (mVar 4))) (mCons (mOp oAdd (mVar 1) (mC (.int 1))) mNil)))))))))))
noncomputable def F__law_read_size : List D → S → R D := runF 2 5 B__law_read_size
theorem cal__law_read_size (T : Tx P K mg) (D__law_read_size : DefAt K mg "_law_read_size" st__law_read_size ["_law_data", "_law_at"])  : Cal P w K mg base (k + 1) 2 "_law_read_size" F__law_read_size := cal_of D__law_read_size sc__law_read_size rfl fun f cdv A outer s H E hr =>
  (b_cons (s_set 2 sc__law_read_size.nd (d_var 1))
  (b_cons (s_set 3 sc__law_read_size.nd d_int)
  (b_cons (s_set 4 sc__law_read_size.nd d_int)
  (b_cons (s_while wf ownC (t_w (t_and (t_cmp op_lt os_lt (d_var 1) (d_len T.n_len (a_cons (d_var 0) a_nil))) (t_and1 (t_cmp op_ge os_ge (d_idx (d_var 0) (d_var 1)) d_int))))
  (b_cons (s_set 3 sc__law_read_size.nd (d_add (d_var 3) (d_mul (d_sub (d_idx (d_var 0) (d_var 1)) d_int) (d_var 4))))
  (b_cons (s_set 4 sc__law_read_size.nd (d_mul (d_var 4) d_int))
  (b_one (s_set 1 sc__law_read_size.nd (d_add (d_var 1) d_int))))))
  (b_cons (s_if (t_cmp (op_eqD hr.units) os_eq (d_var 1) (d_len T.n_len (a_cons (d_var 0) a_nil)))
  (b_one (s_ret (d_tup (a_cons d_bl (a_cons (d_var 1) a_nil)))))
  b_nil)
  (b_cons (s_if (t_w (t_and (t_cmp (op_eqD hr.units) os_eq (d_idx (d_var 0) (d_var 1)) d_int) (t_and1 (t_cmp op_gt os_gt (d_var 1) (d_var 2)))))
  (b_one (s_ret (d_tup (a_cons d_bl (a_cons (d_var 1) a_nil)))))
  b_nil)
  (b_one (s_ret (d_tup (a_cons d_bl (a_cons (d_add (d_var 3) (d_mul (d_idx (d_var 0) (d_var 1)) (d_var 4))) (a_cons (d_add (d_var 1) d_int) a_nil))))))))))))
noncomputable def B__law_sign : B :=
  (bSeq (sIf (mOp oEq (mVar 0) (mC (.int 10)))
  (sRet (mC (.str ("\n" : Str))))
  bNil)
  (bSeq (sIf (mOr (mOp oLt (mVar 0) (mC (.int 32))) (mOr (mOp oGt (mVar 0) (mC (.int 126))) (mOp oEq (mVar 0) (mC (.int 37)))))
  (sRet (mC (.str ("" : Str))))
  bNil)
  (sRet (mOp oIx (mCall F__law_signs mNil) (mIf (mOp oLt (mVar 0) (mC (.int 37))) (mOp oSub (mVar 0) (mC (.int 32))) (mOp oSub (mVar 0) (mC (.int 33))))))))
noncomputable def F__law_sign : List D → S → R D := runF 1 1 B__law_sign
theorem cal__law_sign (T : Tx P K mg) (D__law_sign : DefAt K mg "_law_sign" st__law_sign ["_law_code"]) (c__law_signs : Cal P w K mg base k 0 "_law_signs" F__law_signs) : Cal P w K mg base (k + 1) 1 "_law_sign" F__law_sign := cal_of D__law_sign sc__law_sign rfl fun f cdv A outer s H E hr =>
  (b_cons (s_if (t_cmp (op_eqD hr.units) os_eq (d_var 0) d_int)
  (b_one (s_ret d_str))
  b_nil)
  (b_cons (s_if (t_w (t_or (t_cmp op_lt os_lt (d_var 0) d_int) (t_or (t_cmp op_gt os_gt (d_var 0) d_int) (t_or1 (t_cmp (op_eqD hr.units) os_eq (d_var 0) d_int)))))
  (b_one (s_ret d_str))
  b_nil)
  (b_one (s_ret (d_idx (d_cal0 c__law_signs hr passC) (d_if (t_cmp op_lt os_lt (d_var 0) d_int) (d_sub (d_var 0) d_int) (d_sub (d_var 0) d_int)))))))
noncomputable def T__law_read_text1  : M :=
  (mAnd (mOp oGt (mVar 2) (mC (.int 0))) (mOp oLt (mVar 1) (mCall cLen (mCons (mVar 0) mNil))))
noncomputable def W__law_read_text1  : B :=
  (bSeq (sSet 4 (mCall F__law_sign (mCons (mOp oIx (mVar 0) (mVar 1)) mNil)))
  (bSeq (sIf (mOp oEq (mVar 4) (mC (.str ("" : Str))))
  (sRet (mTup (mCons (mC (.bl false)) (mCons (mVar 1) mNil))))
  bNil)
  (bSeq (sSet 3 (mOp oAdd (mVar 3) (mVar 4)))
  (bSeq (sSet 1 (mOp oAdd (mVar 1) (mC (.int 1))))
  (sSet 2 (mOp oSub (mVar 2) (mC (.int 1))))))))
noncomputable def B__law_read_text : B :=
  (bSeq (sSet 3 (mC (.str ("" : Str))))
  (bSeq (whileK T__law_read_text1 W__law_read_text1 wf)
  (bSeq (sIf (mOp oGt (mVar 2) (mC (.int 0)))
  (sRet (mTup (mCons (mC (.bl false)) (mCons (mVar 1) mNil))))
  bNil)
  (sRet (mTup (mCons (mC (.bl true)) (mCons (mVar 3) (mCons (mVar 1) mNil))))))))
noncomputable def F__law_read_text : List D → S → R D := runF 3 5 B__law_read_text
theorem cal__law_read_text (T : Tx P K mg) (D__law_read_text : DefAt K mg "_law_read_text" st__law_read_text ["_law_data", "_law_at", "_law_many"]) (c__law_sign : Cal P w K mg base k 1 "_law_sign" F__law_sign) : Cal P w K mg base (k + 1) 3 "_law_read_text" F__law_read_text := cal_of D__law_read_text sc__law_read_text rfl fun f cdv A outer s H E hr =>
  (b_cons (s_set 3 sc__law_read_text.nd d_str)
  (b_cons (s_while wf ownC (t_w (t_and (t_cmp op_gt os_gt (d_var 2) d_int) (t_and1 (t_cmp op_lt os_lt (d_var 1) (d_len T.n_len (a_cons (d_var 0) a_nil))))))
  (b_cons (s_set 4 sc__law_read_text.nd (d_cal c__law_sign hr passC (a_cons (d_idx (d_var 0) (d_var 1)) a_nil) len_1))
  (b_cons (s_if (t_cmp (op_eqD hr.units) os_eq (d_var 4) d_str)
  (b_one (s_ret (d_tup (a_cons d_bl (a_cons (d_var 1) a_nil)))))
  b_nil)
  (b_cons (s_set 3 sc__law_read_text.nd (d_add (d_var 3) (d_var 4)))
  (b_cons (s_set 1 sc__law_read_text.nd (d_add (d_var 1) d_int))
  (b_one (s_set 2 sc__law_read_text.nd (d_sub (d_var 2) d_int))))))))
  (b_cons (s_if (t_cmp op_gt os_gt (d_var 2) d_int)
  (b_one (s_ret (d_tup (a_cons d_bl (a_cons (d_var 1) a_nil)))))
  b_nil)
  (b_one (s_ret (d_tup (a_cons d_bl (a_cons (d_var 3) (a_cons (d_var 1) a_nil)))))))))
noncomputable def T__law_read1 (F__law_read : List D → S → R D) : M :=
  (mOp oGt (mVar 6) (mC (.int 0)))
noncomputable def W__law_read1 (F__law_read : List D → S → R D) : B :=
  (bSeq (sSet 7 (mCall F__law_read (mCons (mVar 0) (mCons (mVar 1) (mCons (mOp oAdd (mVar 2) (mC (.int 1))) mNil)))))
  (bSeq (sIf (mNot (mOp oIx (mVar 7) (mC (.int 0))))
  (sRet (mVar 7))
  bNil)
  (bSeq (sExpr (mMeth isLst oApp (mVar 5) (mCons (mOp oIx (mVar 7) (mC (.int 1))) mNil)))
  (bSeq (sSet 1 (mOp oIx (mVar 7) (mC (.int 2))))
  (sSet 6 (mOp oSub (mVar 6) (mC (.int 1))))))))
noncomputable def B__law_read (F__law_read : List D → S → R D) : B :=
  (bSeq (sIf (mOr (mOp oGe (mVar 1) (mCall cLen (mCons (mVar 0) mNil))) (mOp oGt (mOp oIx (mVar 0) (mVar 1)) (mC (.int 6))))
  (sRet (mTup (mCons (mC (.bl false)) (mCons (mCall cMin2 (mCons (mVar 1) (mCons (mCall cLen (mCons (mVar 0) mNil)) mNil))) mNil))))
  bNil)
  (bSeq (sSet 3 (mOp oIx (mVar 0) (mVar 1)))
  (bSeq (sIf (mOp oLt (mVar 3) (mC (.int 3)))
  (sRet (mTup (mCons (mC (.bl true)) (mCons (mOp oIx (mLst (mCons (mC .non) (mCons (mC (.bl false)) (mCons (mC (.bl true)) mNil)))) (mVar 3)) (mCons (mOp oAdd (mVar 1) (mC (.int 1))) mNil)))))
  bNil)
  (bSeq (sIf (mAnd (mOp oEq (mVar 3) (mC (.int 6))) (mOp oEq (mVar 2) (mC (.int 60))))
  (sRet (mTup (mCons (mC (.bl false)) (mCons (mVar 1) mNil))))
  bNil)
  (bSeq (sSet 4 (mCall F__law_read_size (mCons (mVar 0) (mCons (mOp oAdd (mVar 1) (mC (.int 1))) mNil))))
  (bSeq (sIf (mNot (mOp oIx (mVar 4) (mC (.int 0))))
  (sRet (mVar 4))
  bNil)
  (bSeq (sIf (mOr (mOp oEq (mVar 3) (mC (.int 3))) (mOp oEq (mVar 3) (mC (.int 4))))
  (sRet (mTup (mCons (mC (.bl true)) (mCons (mIf (mOp oEq (mVar 3) (mC (.int 3))) (mOp oIx (mVar 4) (mC (.int 1))) (mOp oSub (mNeg (mC (.int 1))) (mOp oIx (mVar 4) (mC (.int 1))))) (mCons (mOp oIx (mVar 4) (mC (.int 2))) mNil)))))
  bNil)
  (bSeq (sIf (mOp oEq (mVar 3) (mC (.int 5)))
  (sRet (mCall F__law_read_text (mCons (mVar 0) (mCons (mOp oIx (mVar 4) (mC (.int 2))) (mCons (mOp oIx (mVar 4) (mC (.int 1))) mNil)))))
  bNil)
  (bSeq (sSet 5 (mLst mNil))
  (bSeq (sSet 1 (mOp oIx (mVar 4) (mC (.int 2))))
  (bSeq (sSet 6 (mOp oIx (mVar 4) (mC (.int 1))))
  (bSeq (whileK (T__law_read1 F__law_read) (W__law_read1 F__law_read) wf)
  (sRet (mTup (mCons (mC (.bl true)) (mCons (mCall cTuple (mCons (mVar 5) mNil)) (mCons (mVar 1) mNil)))))))))))))))))
noncomputable def F__law_read : Nat → List D → S → R D
  | 0 => runF 3 8 (fun _ _ => .bad)
  | j + 1 => runF 3 8 (B__law_read (F__law_read j))
theorem cal__law_read (T : Tx P K mg) (D__law_read : DefAt K mg "_law_read" st__law_read ["_law_data", "_law_at", "_law_depth"]) (c__law_read_text : Cal P w K mg base k 3 "_law_read_text" F__law_read_text) (c__law_read_size : Cal P w K mg base k 2 "_law_read_size" F__law_read_size) : ∀ j, Cal P w K mg base (k + 1 + 1 * j) 3 "_law_read" (F__law_read j)
  | 0 => cal_bad D__law_read sc__law_read rfl
  | j + 1 => by
    have c__law_read : Cal P w K mg base (k + 1 + 1 * j) 3 "_law_read" (F__law_read j) := cal__law_read T D__law_read c__law_read_text c__law_read_size j
    have c__law_read_text := c__law_read_text.mono (show k ≤ k + 1 + 1 * j by omega)
    have c__law_read_size := c__law_read_size.mono (show k ≤ k + 1 + 1 * j by omega)
    exact cal_of D__law_read sc__law_read rfl fun f cdv A outer s H E hr =>
  (b_cons (s_if (t_w (t_or (t_cmp op_ge os_ge (d_var 1) (d_len T.n_len (a_cons (d_var 0) a_nil))) (t_or1 (t_cmp op_gt os_gt (d_idx (d_var 0) (d_var 1)) d_int))))
  (b_one (s_ret (d_tup (a_cons d_bl (a_cons (d_min2 rfl T.n_min (a_cons (d_var 1) (a_cons (d_len T.n_len (a_cons (d_var 0) a_nil)) a_nil))) a_nil)))))
  b_nil)
  (b_cons (s_set 3 sc__law_read.nd (d_idx (d_var 0) (d_var 1)))
  (b_cons (s_if (t_cmp op_lt os_lt (d_var 3) d_int)
  (b_one (s_ret (d_tup (a_cons d_bl (a_cons (d_idx (d_lst (a_cons d_non (a_cons d_bl (a_cons d_bl a_nil)))) (d_var 3)) (a_cons (d_add (d_var 1) d_int) a_nil))))))
  b_nil)
  (b_cons (s_if (t_w (t_and (t_cmp (op_eqD hr.units) os_eq (d_var 3) d_int) (t_and1 (t_cmp (op_eqD hr.units) os_eq (d_var 2) d_int))))
  (b_one (s_ret (d_tup (a_cons d_bl (a_cons (d_var 1) a_nil)))))
  b_nil)
  (b_cons (s_set 4 sc__law_read.nd (d_cal c__law_read_size hr passC (a_cons (d_var 0) (a_cons (d_add (d_var 1) d_int) a_nil)) len_2))
  (b_cons (s_if (t_not (t_val (d_idx (d_var 4) d_int)))
  (b_one (s_ret (d_var 4)))
  b_nil)
  (b_cons (s_if (t_w (t_or (t_cmp (op_eqD hr.units) os_eq (d_var 3) d_int) (t_or1 (t_cmp (op_eqD hr.units) os_eq (d_var 3) d_int))))
  (b_one (s_ret (d_tup (a_cons d_bl (a_cons (d_if (t_cmp (op_eqD hr.units) os_eq (d_var 3) d_int) (d_idx (d_var 4) d_int) (d_sub (d_neg d_int) (d_idx (d_var 4) d_int))) (a_cons (d_idx (d_var 4) d_int) a_nil))))))
  b_nil)
  (b_cons (s_if (t_cmp (op_eqD hr.units) os_eq (d_var 3) d_int)
  (b_one (s_ret (d_cal c__law_read_text hr passC (a_cons (d_var 0) (a_cons (d_idx (d_var 4) d_int) (a_cons (d_idx (d_var 4) d_int) a_nil))) len_3)))
  b_nil)
  (b_cons (s_set 5 sc__law_read.nd (d_lst a_nil))
  (b_cons (s_set 1 sc__law_read.nd (d_idx (d_var 4) d_int))
  (b_cons (s_set 6 sc__law_read.nd (d_idx (d_var 4) d_int))
  (b_cons (s_while wf ownC (t_cmp op_gt os_gt (d_var 6) d_int)
  (b_cons (s_set 7 sc__law_read.nd (d_cal c__law_read hr passC (a_cons (d_var 0) (a_cons (d_var 1) (a_cons (d_add (d_var 2) d_int) a_nil))) len_3))
  (b_cons (s_if (t_not (t_val (d_idx (d_var 7) d_int)))
  (b_one (s_ret (d_var 7)))
  b_nil)
  (b_cons (s_expr (d_append (d_var 5) (a_cons (d_idx (d_var 7) d_int) a_nil)))
  (b_cons (s_set 1 sc__law_read.nd (d_idx (d_var 7) d_int))
  (b_one (s_set 6 sc__law_read.nd (d_sub (d_var 6) d_int))))))))
  (b_one (s_ret (d_tup (a_cons d_bl (a_cons (d_tuple1 T.n_tuple (a_cons (d_var 5) a_nil)) (a_cons (d_var 1) a_nil))))))))))))))))))
open Classical in
noncomputable def su_err : Str → Str → D → B := fun cn f d ε s => if cn = "PackError" ∧ f = "at" ∧ 2 < ε.length then .rt (.ref s.length) (s ++ [C.lst [.str "pack", d]]) else .bad
open Classical in
noncomputable def G_err : Str → Option (List D → S → R D) := fun y => if y = "pack" then some F_pack else if y = "unpack" then some F_unpack else none
theorem G_err_is (z : Str) (H : List D → S → R D) (h : G_err z = some H) : (z = "pack" ∧ H = F_pack) ∨ (z = "unpack" ∧ H = F_unpack) := by
  unfold G_err at h
  by_cases h1 : z = "pack"
  · rw [if_pos h1] at h
    cases h
    exact .inl ⟨h1, rfl⟩
  · rw [if_neg h1] at h
    by_cases h2 : z = "unpack"
    · rw [if_pos h2] at h
      cases h
      exact .inr ⟨h2, rfl⟩
    · rw [if_neg h2] at h
      cases h
noncomputable def B__law_error : B := bSeq (sTry 2 (mCallL G_err 0 (mCons (mVar 1) mNil)) (fun _ ε s => .nx ε s) su_err) (sRet (mLst mNil))
noncomputable def F__law_error : List D → S → R D := runF 2 3 B__law_error
noncomputable def suM_err (C : Addr) (a : Addr) (cls : Value) (d : Option Addr) : B :=
  bSeq (sIf (mAnd (mCall (cIsE a cls d C (ansE "PackError" "BurnishError")) (mCons (mVar 2) (mCons (mC (.fn "PackError")) mNil))) (mCall (cIsE a cls d C (ansE "PackError" "BurnishError")) (mCons (mVar 2) (mCons (mC (.ty "ValueError")) mNil))))
    (sRet (mLst (mCons (mC (.str "pack")) (mCons (mAt a cls d C (mVar 2)) mNil)))) bNil) (sRet (mLst (mCons (mC (.str "other")) mNil)))
theorem su_ok {X : Cx} {C CB : Addr} (T : ErrS X.K X.mg "PackError" "BurnishError" C CB) : Su X (.ref CB) 2 (suM_err C) su_err := fun cn f d ε s hb C' hm => by
  unfold su_err at hb ⊢
  split at hb
  · rename_i h
    obtain ⟨rfl, rfl, hl⟩ := h
    rw [T.mC] at hm
    cases hm
    refine ⟨T.ex, fun a dd => ?_⟩
    rw [if_pos ⟨rfl, rfl, hl⟩]
    have e1 : (cIsE a (.ref C) (some dd) C (ansE "PackError" "BurnishError")) [.exn a C dd "at" d, .fn "PackError"] s = .ok (.bl true) s := cIsE_ok (by simp [ansE])
    have e2 : (cIsE a (.ref C) (some dd) C (ansE "PackError" "BurnishError")) [.exn a C dd "at" d, .ty "ValueError"] s = .ok (.bl true) s := cIsE_ok (by simp [ansE])
    simp only [suM_err, bSeq, sIf, mAnd, mCall, mCons, mNil, mC, mVar_set hl, R.bind, R.to, e1, e2, ifK, sRet, mLst, mAt, mAtK_ok, O.bind]
    rfl
  · exact absurd rfl hb
theorem cal__law_error (T : Tx P K mg) {C CB : Addr} (S : ErrS K mg "PackError" "BurnishError" C CB) (D__law_error : DefAt K mg "_law_error" st__law_error ["_law_call", "_law_argument"]) (c_pack : Cal P w K mg base k 1 "pack" F_pack) (c_unpack : Cal P w K mg base k 1 "unpack" F_unpack) :
    Cal P w K mg base (k + 1) 2 "_law_error" F__law_error := cal_of D__law_error sc__law_error rfl fun f cdv A outer s H E hr =>
  (b_cons (s_tryE rfl rfl sc__law_error.nd rfl rfl (names_of S.mB)
    (fun W pn xe tk po => d_callL (fam2 G_err_is c_pack c_unpack) hr tk (a_cons (d_var 1) a_nil) len_1 (ne_var ne_nil))
    (fun a oe cls d pn hz hf => (b_cons (s_if (t_w (t_and (t_val (d_isE S hz hf (a_cons (d_var 2) (a_cons (d_gfn' T.f_PackError) a_nil)))) (t_and1 (t_val (d_isE S hz hf (a_cons (d_var 2) (a_cons (d_bty S.nV bt_ValueError) a_nil)))))))
      (b_one (s_ret (d_lst (a_cons d_str (a_cons (d_ate S hz hf (d_var 2)) a_nil))))) b_nil) (b_one (s_ret (d_lst (a_cons d_str a_nil))))))
    (su_ok S))
  (b_one (s_ret (d_lst a_nil))))
noncomputable def B__law_bent : B :=
  (bSeq (sSet 1 (mCall cList (mCons (mVar 1) mNil)))
  (bSeq (sSet 2 (mCall F__law_take (mCons (mVar 0) (mCons (mCall cMax2 (mCons (mC (.int 1)) (mCons (mCall cLen (mCons (mVar 1) mNil)) mNil))) mNil))))
  (bSeq (sSet 3 (mCall F__law_take (mCons (mVar 0) (mCons (mC (.int 7)) mNil))))
  (bSeq (sIf (mAnd (mOp oEq (mVar 3) (mC (.int 1))) (mOp oGt (mCall cLen (mCons (mVar 1) mNil)) (mC (.int 0))))
  (sSub (mCall F__law_take (mCons (mVar 0) (mCons (mC (.int 256)) mNil))) (mVar 1) (mVar 2))
  bNil)
  (bSeq (sIf (mAnd (mOp oEq (mVar 3) (mC (.int 2))) (mOp oGt (mCall cLen (mCons (mVar 1) mNil)) (mC (.int 0))))
  (sSub (mOp oIx (mLst (mCons (mC (.int 0)) (mCons (mC (.int 6)) (mCons (mC (.int 7)) (mCons (mC (.int 128)) (mCons (mC (.int 37)) (mCons (mC (.int 9)) (mCons (mC (.int 10)) mNil)))))))) (mCall F__law_take (mCons (mVar 0) (mCons (mC (.int 7)) mNil)))) (mVar 1) (mVar 2))
  bNil)
  (bSeq (sIf (mOp oEq (mVar 3) (mC (.int 3)))
  (sSet 1 (mOp oAdd (mOp oAdd (mSl (mVar 1) pNo (pAt (mVar 2))) (mLst (mCons (mCall F__law_take (mCons (mVar 0) (mCons (mC (.int 256)) mNil))) mNil))) (mSl (mVar 1) (pAt (mVar 2)) pNo)))
  bNil)
  (bSeq (sIf (mOp oEq (mVar 3) (mC (.int 4)))
  (sSet 1 (mOp oAdd (mSl (mVar 1) pNo (pAt (mVar 2))) (mSl (mVar 1) (pAt (mOp oAdd (mVar 2) (mC (.int 1)))) pNo)))
  bNil)
  (bSeq (sIf (mOp oEq (mVar 3) (mC (.int 5)))
  (sSet 1 (mSl (mVar 1) pNo (pAt (mVar 2))))
  bNil)
  (bSeq (sIf (mOp oEq (mVar 3) (mC (.int 6)))
  (sSet 1 (mLc (iRng1 (mCons (mCall F__law_take (mCons (mVar 0) (mCons (mC (.int 13)) mNil))) mNil)) 4 yesM (mOp oIx (mLst (mCons (mCall F__law_take (mCons (mVar 0) (mCons (mC (.int 256)) mNil))) (mCons (mCall F__law_take (mCons (mVar 0) (mCons (mC (.int 8)) mNil))) mNil))) (mCall F__law_take (mCons (mVar 0) (mCons (mC (.int 2)) mNil))))))
  bNil)
  (sRet (mVar 1)))))))))))
noncomputable def F__law_bent : List D → S → R D := runF 2 5 B__law_bent
theorem cal__law_bent (T : Tx P K mg) (D__law_bent : DefAt K mg "_law_bent" st__law_bent ["_law_draw_here", "_law_row"]) (c__law_take : Cal P w K mg base k 2 "_law_take" F__law_take) : Cal P w K mg base (k + 1) 2 "_law_bent" F__law_bent := cal_of D__law_bent sc__law_bent rfl fun f cdv A outer s H E hr =>
  (b_cons (s_set 1 sc__law_bent.nd (d_list1 T.n_list (a_cons (d_var 1) a_nil)))
  (b_cons (s_set 2 sc__law_bent.nd (d_cal c__law_take hr passC (a_cons (d_var 0) (a_cons (d_max2 rfl T.n_max (a_cons d_int (a_cons (d_len T.n_len (a_cons (d_var 1) a_nil)) a_nil))) a_nil)) len_2))
  (b_cons (s_set 3 sc__law_bent.nd (d_cal c__law_take hr passC (a_cons (d_var 0) (a_cons d_int a_nil)) len_2))
  (b_cons (s_if (t_w (t_and (t_cmp (op_eqD hr.units) os_eq (d_var 3) d_int) (t_and1 (t_cmp op_gt os_gt (d_len T.n_len (a_cons (d_var 1) a_nil)) d_int))))
  (b_one (s_sub (d_cal c__law_take hr passC (a_cons (d_var 0) (a_cons d_int a_nil)) len_2) (d_var 1) (d_var 2)))
  b_nil)
  (b_cons (s_if (t_w (t_and (t_cmp (op_eqD hr.units) os_eq (d_var 3) d_int) (t_and1 (t_cmp op_gt os_gt (d_len T.n_len (a_cons (d_var 1) a_nil)) d_int))))
  (b_one (s_sub (d_idx (d_lst (a_cons d_int (a_cons d_int (a_cons d_int (a_cons d_int (a_cons d_int (a_cons d_int (a_cons d_int a_nil)))))))) (d_cal c__law_take hr passC (a_cons (d_var 0) (a_cons d_int a_nil)) len_2)) (d_var 1) (d_var 2)))
  b_nil)
  (b_cons (s_if (t_cmp (op_eqD hr.units) os_eq (d_var 3) d_int)
  (b_one (s_set 1 sc__law_bent.nd (d_add (d_add (d_sl (d_var 1) p_no (p_at (d_var 2))) (d_lst (a_cons (d_cal c__law_take hr passC (a_cons (d_var 0) (a_cons d_int a_nil)) len_2) a_nil))) (d_sl (d_var 1) (p_at (d_var 2)) p_no))))
  b_nil)
  (b_cons (s_if (t_cmp (op_eqD hr.units) os_eq (d_var 3) d_int)
  (b_one (s_set 1 sc__law_bent.nd (d_add (d_sl (d_var 1) p_no (p_at (d_var 2))) (d_sl (d_var 1) (p_at (d_add (d_var 2) d_int)) p_no))))
  b_nil)
  (b_cons (s_if (t_cmp (op_eqD hr.units) os_eq (d_var 3) d_int)
  (b_one (s_set 1 sc__law_bent.nd (d_sl (d_var 1) p_no (p_at (d_var 2)))))
  b_nil)
  (b_cons (s_if (t_cmp (op_eqD hr.units) os_eq (d_var 3) d_int)
  (b_one (s_lc (i := 4) (j := 1) rfl sc__law_bent.nd (i_rng1 T.n_range (a_cons (d_cal c__law_take hr passC (a_cons (d_var 0) (a_cons d_int a_nil)) len_2) a_nil)) (show blkC ["_law_draw_here", "_law_row", "_law_at", "_law_choice", "_law_k"] (defScope st__law_bent) _ [("_law_k", 4)] = true from by decide +kernel) (fun _ _ _ _ _ => pg_name (i := 4) sc__law_bent.nd rfl (Or.inl rfl)) (fun _ _ _ _ _ => (d_idx (d_lst (a_cons (d_cal c__law_take hr passL (a_cons (d_var 0) (a_cons d_int a_nil)) len_2) (a_cons (d_cal c__law_take hr passL (a_cons (d_var 0) (a_cons d_int a_nil)) len_2) a_nil))) (d_cal c__law_take hr passL (a_cons (d_var 0) (a_cons d_int a_nil)) len_2))) rfl rfl rfl))
  b_nil)
  (b_one (s_ret (d_var 1))))))))))))
noncomputable def B__law_unpacks : B :=
  (bSeq (sSet 1 (mCall (F__law_read 64) (mCons (mVar 0) (mCons (mC (.int 0)) (mCons (mC (.int 0)) mNil)))))
  (bSeq (sIf (mAnd (mOp oIx (mVar 1) (mC (.int 0))) (mOp oLt (mOp oIx (mVar 1) (mC (.int 2))) (mCall cLen (mCons (mVar 0) mNil))))
  (sSet 1 (mTup (mCons (mC (.bl false)) (mCons (mOp oIx (mVar 1) (mC (.int 2))) mNil))))
  bNil)
  (bSeq (sSet 2 (mCall cList (mCons (mVar 0) mNil)))
  (bSeq (sIf (mNot (mOp oIx (mVar 1) (mC (.int 0))))
  (sRet (mAnd (mOp oEq (mCall F__law_error (mCons (mC (.fn ("unpack" : Str))) (mCons (mVar 2) mNil))) (mLst (mCons (mC (.str ("pack" : Str))) (mCons (mOp oIx (mVar 1) (mC (.int 1))) mNil)))) (mOp oEq (mVar 2) (mVar 0))))
  bNil)
  (bSeq (sSet 3 (mCall F_unpack (mCons (mVar 2) mNil)))
  (sRet (mAnd (mCall (F__law_alike 70) (mCons (mVar 3) (mCons (mOp oIx (mVar 1) (mC (.int 1))) mNil))) (mAnd (mOp oEq (mVar 2) (mVar 0)) (mOp oEq (mCall F_pack (mCons (mVar 3) mNil)) (mVar 0))))))))))
noncomputable def F__law_unpacks : List D → S → R D := runF 1 4 B__law_unpacks
theorem cal__law_unpacks (T : Tx P K mg) (D__law_unpacks : DefAt K mg "_law_unpacks" st__law_unpacks ["_law_data"]) (c_pack : Cal P w K mg base k 1 "pack" F_pack) (c__law_alike : Cal P w K mg base k 2 "_law_alike" (F__law_alike 70)) (c_unpack : Cal P w K mg base k 1 "unpack" F_unpack) (c__law_error : Cal P w K mg base k 2 "_law_error" F__law_error) (c__law_read : Cal P w K mg base k 3 "_law_read" (F__law_read 64)) : Cal P w K mg base (k + 1) 1 "_law_unpacks" F__law_unpacks := cal_of D__law_unpacks sc__law_unpacks rfl fun f cdv A outer s H E hr =>
  (b_cons (s_set 1 sc__law_unpacks.nd (d_cal c__law_read hr passC (a_cons (d_var 0) (a_cons d_int (a_cons d_int a_nil))) len_3))
  (b_cons (s_if (t_w (t_and (t_val (d_idx (d_var 1) d_int)) (t_and1 (t_cmp op_lt os_lt (d_idx (d_var 1) d_int) (d_len T.n_len (a_cons (d_var 0) a_nil))))))
  (b_one (s_set 1 sc__law_unpacks.nd (d_tup (a_cons d_bl (a_cons (d_idx (d_var 1) d_int) a_nil)))))
  b_nil)
  (b_cons (s_set 2 sc__law_unpacks.nd (d_list1 T.n_list (a_cons (d_var 0) a_nil)))
  (b_cons (s_if (t_not (t_val (d_idx (d_var 1) d_int)))
  (b_one (s_ret (d_and (d_cmp (op_eqD hr.units) os_eq (d_cal c__law_error hr passC (a_cons (d_gfn' T.f_unpack) (a_cons (d_var 2) a_nil)) len_2) (d_lst (a_cons d_str (a_cons (d_idx (d_var 1) d_int) a_nil)))) (d_one (d_cmp (op_eqD hr.units) os_eq (d_var 2) (d_var 0))))))
  b_nil)
  (b_cons (s_set 3 sc__law_unpacks.nd (d_cal c_unpack hr passC (a_cons (d_var 2) a_nil) len_1))
  (b_one (s_ret (d_and (d_cal c__law_alike hr passC (a_cons (d_var 3) (a_cons (d_idx (d_var 1) d_int) a_nil)) len_2) (d_and (d_cmp (op_eqD hr.units) os_eq (d_var 2) (d_var 0)) (d_one (d_cmp (op_eqD hr.units) os_eq (d_cal c_pack hr passC (a_cons (d_var 3) a_nil) len_1) (d_var 0))))))))))))
noncomputable def W_law1  : B :=
  (sIf (mNot (mCall F__law_unpacks (mCons (mCall F__law_bent (mCons (mVar 1) (mCons (mVar 7) mNil))) mNil)))
  (sRet (mC (.bl false)))
  bNil)
noncomputable def W_law2  : B :=
  (sSet 2 (mIf (mOp oGt (mCall F__law_take (mCons (mVar 1) (mCons (mC (.int 3)) mNil))) (mC (.int 0))) (mTup (mCons (mVar 2) mNil)) (mTup (mCons (mVar 6) (mCons (mVar 2) mNil)))))
noncomputable def B_law : B :=
  (bSeq (sSet 1 (mCall F__law_draw (mCons (mVar 0) mNil)))
  (bSeq (sSet 2 (mCall (F__law_value 6) (mCons (mVar 1) (mCons (mC (.int 4)) mNil))))
  (bSeq (sSet 3 (mCall F__law_take (mCons (mVar 1) (mCons (mC (.int 12)) mNil))))
  (bSeq (sIf (mOp oLt (mVar 3) (mC (.int 3)))
  (bSeq (sSet 4 (mOp oIx (mLst (mCons (mLst (mCons (mC (.int 1)) mNil)) (mCons (mDic1 ("a" : Str) 1) (mCons (mC (.str ("a\tb" : Str))) mNil)))) (mVar 3)))
  (sSet 2 (mIf (mOp oEq (mCall F__law_take (mCons (mVar 1) (mCons (mC (.int 2)) mNil))) (mC (.int 0))) (mTup (mCons (mVar 4) (mCons (mVar 2) mNil))) (mVar 4))))
  bNil)
  (bSeq (sSet 5 (mC (.int 0)))
  (bSeq (sIf (mOp oEq (mCall F__law_take (mCons (mVar 1) (mCons (mC (.int 2)) mNil))) (mC (.int 1)))
  (sSet 5 (mOp oIx (mLst (mCons (mC (.int 1)) (mCons (mC (.int 5)) (mCons (mC (.int 55)) (mCons (mC (.int 56)) (mCons (mC (.int 57)) (mCons (mC (.int 58)) (mCons (mC (.int 59)) (mCons (mC (.int 60)) (mCons (mC (.int 61)) mNil)))))))))) (mCall F__law_take (mCons (mVar 1) (mCons (mC (.int 9)) mNil)))))
  bNil)
  (bSeq (sFor (iRng1 (mCons (mVar 5) mNil)) (gN 6) W_law2)
  (bSeq (sSet 7 (mCall (F__law_packed 64) (mCons (mVar 2) (mCons (mC (.int 0)) mNil))))
  (bSeq (sIf (mOp oIs (mVar 7) (mC .non))
  (sRet (mOp oEq (mCall F__law_error (mCons (mC (.fn ("pack" : Str))) (mCons (mVar 2) mNil))) (mLst (mCons (mC (.str ("pack" : Str))) (mCons (mNeg (mC (.int 1))) mNil)))))
  bNil)
  (bSeq (sIf (mOr (mOp oNe (mCall F_pack (mCons (mVar 2) mNil)) (mVar 7)) (mNot (mCall F__law_unpacks (mCons (mVar 7) mNil))))
  (sRet (mC (.bl false)))
  bNil)
  (bSeq (sFor (iRng1 (mCons (mC (.int 3)) mNil)) (gN 6) W_law1)
  (sRet (mC (.bl true))))))))))))))
noncomputable def F_law : List D → S → R D := runF 1 8 B_law
theorem ok_law {f : Addr} {fd : FuncData} (T : Tx P K mg) (D : Fun K "law" "law" st_law f fd) (c__law_unpacks : Cal P w K mg base k 1 "_law_unpacks" F__law_unpacks) (c__law_bent : Cal P w K mg base k 2 "_law_bent" F__law_bent) (c_pack : Cal P w K mg base k 1 "pack" F_pack) (c__law_error : Cal P w K mg base k 2 "_law_error" F__law_error) (c__law_packed : Cal P w K mg base k 2 "_law_packed" (F__law_packed 64)) (c__law_take : Cal P w K mg base k 2 "_law_take" F__law_take) (c__law_value : Cal P w K mg base k 2 "_law_value" (F__law_value 6)) (c__law_draw : Cal P w K mg base k 1 "_law_draw" F__law_draw) : FnOk P w K mg base (L2.CX P w) (k + 1) f fd ["_law_script"] (spF K mg 1 F_law) := fnok_of D sc_law rfl fun f cdv A outer s H E hr =>
  (b_cons (s_set 1 sc_law.nd (d_cal c__law_draw hr passC (a_cons (d_var 0) a_nil) len_1))
  (b_cons (s_set 2 sc_law.nd (d_cal c__law_value hr passC (a_cons (d_var 1) (a_cons d_int a_nil)) len_2))
  (b_cons (s_set 3 sc_law.nd (d_cal c__law_take hr passC (a_cons (d_var 1) (a_cons d_int a_nil)) len_2))
  (b_cons (s_if (t_cmp op_lt os_lt (d_var 3) d_int)
  (b_cons (s_set 4 sc_law.nd (d_idx (d_lst (a_cons (d_lst (a_cons d_int a_nil)) (a_cons d_dict1 (a_cons d_str a_nil)))) (d_var 3)))
  (b_one (s_set 2 sc_law.nd (d_if (t_cmp (op_eqD hr.units) os_eq (d_cal c__law_take hr passC (a_cons (d_var 1) (a_cons d_int a_nil)) len_2) d_int) (d_tup (a_cons (d_var 4) (a_cons (d_var 2) a_nil))) (d_var 4)))))
  b_nil)
  (b_cons (s_set 5 sc_law.nd d_int)
  (b_cons (s_if (t_cmp (op_eqD hr.units) os_eq (d_cal c__law_take hr passC (a_cons (d_var 1) (a_cons d_int a_nil)) len_2) d_int)
  (b_one (s_set 5 sc_law.nd (d_idx (d_lst (a_cons d_int (a_cons d_int (a_cons d_int (a_cons d_int (a_cons d_int (a_cons d_int (a_cons d_int (a_cons d_int (a_cons d_int a_nil)))))))))) (d_cal c__law_take hr passC (a_cons (d_var 1) (a_cons d_int a_nil)) len_2))))
  b_nil)
  (b_cons (s_for ownC rfl (i_rng1 T.n_range (a_cons (d_var 5) a_nil)) (g_name 6 sc_law.nd)
  (b_one (s_set 2 sc_law.nd (d_if (t_cmp op_gt os_gt (d_cal c__law_take hr passC (a_cons (d_var 1) (a_cons d_int a_nil)) len_2) d_int) (d_tup (a_cons (d_var 2) a_nil)) (d_tup (a_cons (d_var 6) (a_cons (d_var 2) a_nil)))))))
  (b_cons (s_set 7 sc_law.nd (d_cal c__law_packed hr passC (a_cons (d_var 2) (a_cons d_int a_nil)) len_2))
  (b_cons (s_if (t_cmp or_is os_is (d_var 7) d_non)
  (b_one (s_ret (d_cmp (op_eqD hr.units) os_eq (d_cal c__law_error hr passC (a_cons (d_gfn' T.f_pack) (a_cons (d_var 2) a_nil)) len_2) (d_lst (a_cons d_str (a_cons (d_neg d_int) a_nil))))))
  b_nil)
  (b_cons (s_if (t_w (t_or (t_cmp (op_neD hr.units) os_ne (d_cal c_pack hr passC (a_cons (d_var 2) a_nil) len_1) (d_var 7)) (t_or1 (t_not (t_val (d_cal c__law_unpacks hr passC (a_cons (d_var 7) a_nil) len_1))))))
  (b_one (s_ret d_bl))
  b_nil)
  (b_cons (s_for ownC rfl (i_rng1 T.n_range (a_cons d_int a_nil)) (g_name 6 sc_law.nd)
  (b_one (s_if (t_not (t_val (d_cal c__law_unpacks hr passC (a_cons (d_cal c__law_bent hr passC (a_cons (d_var 1) (a_cons (d_var 7) a_nil)) len_2) a_nil) len_1)))
  (b_one (s_ret d_bl))
  b_nil)))
  (b_one (s_ret d_bl)))))))))))))
end
/-! ### the top, and the end -/
theorem top_ok {P : Program} {w : World} {K : PySem.W.Frag} {h : Heap} {mg : Str → Option Value} (X : K.In h) (G : h.Ns mainGlobals mg)
    (D_is_sign : DefIs K "is_sign" st_is_sign)
    (D_add_size : DefIs K "add_size" st_add_size)
    (D_add_text : DefIs K "add_text" st_add_text)
    (D_add_value : DefIs K "add_value" st_add_value)
    (D_pack : DefIs K "pack" st_pack)
    (D_byte_at : DefIs K "byte_at" st_byte_at)
    (D_read_size : DefIs K "read_size" st_read_size)
    (D_read_text : DefIs K "read_text" st_read_text)
    (D_read_parts : DefIs K "read_parts" st_read_parts)
    (D_read_plain : DefIs K "read_plain" st_read_plain)
    (D_unpack : DefIs K "unpack" st_unpack)
    (D__law_draw : DefIs K "_law_draw" st__law_draw)
    (D__law_take : DefIs K "_law_take" st__law_take)
    (D__law_signs : DefIs K "_law_signs" st__law_signs)
    (D__law_text : DefIs K "_law_text" st__law_text)
    (D__law_number : DefIs K "_law_number" st__law_number)
    (D__law_value : DefIs K "_law_value" st__law_value)
    (D__law_size : DefIs K "_law_size" st__law_size)
    (D__law_packed : DefIs K "_law_packed" st__law_packed)
    (D__law_alike : DefIs K "_law_alike" st__law_alike)
    (D__law_read_size : DefIs K "_law_read_size" st__law_read_size)
    (D__law_sign : DefIs K "_law_sign" st__law_sign)
    (D__law_read_text : DefIs K "_law_read_text" st__law_read_text)
    (D__law_read : DefIs K "_law_read" st__law_read)
    (D__law_error : DefIs K "_law_error" st__law_error)
    (D__law_bent : DefIs K "_law_bent" st__law_bent)
    (D__law_unpacks : DefIs K "_law_unpacks" st__law_unpacks)
    (D_law : DefIs K "law" st_law)
    (n_abs : PySem.W.nsIn K mainGlobals "abs" = some none)
    (n_bool : PySem.W.nsIn K mainGlobals "bool" = some none)
    (n_int : PySem.W.nsIn K mainGlobals "int" = some none)
    (n_isinstance : PySem.W.nsIn K mainGlobals "isinstance" = some none)
    (n_len : PySem.W.nsIn K mainGlobals "len" = some none)
    (n_list : PySem.W.nsIn K mainGlobals "list" = some none)
    (n_max : PySem.W.nsIn K mainGlobals "max" = some none)
    (n_min : PySem.W.nsIn K mainGlobals "min" = some none)
    (n_ord : PySem.W.nsIn K mainGlobals "ord" = some none)
    (n_range : PySem.W.nsIn K mainGlobals "range" = some none)
    (n_str : PySem.W.nsIn K mainGlobals "str" = some none)
    (n_tuple : PySem.W.nsIn K mainGlobals "tuple" = some none)
    {t_DEEPEST : Tok} (g_DEEPEST : PySem.W.nsIn K mainGlobals "DEEPEST" = some (some (.int 60 t_DEEPEST)))
    {t_PRINTED : Tok} (g_PRINTED : PySem.W.nsIn K mainGlobals "PRINTED" = some (some (.str s_PRINTED t_PRINTED)))
    (r_PackError : Rs P K mg "PackError")
    {C CB : Addr} (S : ErrS K mg "PackError" "BurnishError" C CB) :
    ∀ fa, mg "law" = some (.ref fa) → ∃ fd : FuncData, (∀ (s : Shared) (u : Value), BindsTo s fd ⟨[u], []⟩ [("_law_script", u)]) ∧ ∀ base : Heap, K.In base → base.Ns mainGlobals mg → FnOk P w K mg base (L2.CX P w) 136 fa fd ["_law_script"] (spF K mg 1 F_law) := by
  refine law_at D_law X G (fun _ _ _ _ _ _ _ _ => .of_eq rfl) fun f fd hm F base _ _ => ?_
  have A_is_sign : DefAt K mg "is_sign" st_is_sign ["code"] := D_is_sign.at X G (fun _ _ _ _ _ _ us hl => match us, hl with | [_], _ => rfl)
  have A_add_size : DefAt K mg "add_size" st_add_size ["out", "n"] := D_add_size.at X G (fun _ _ _ _ _ _ us hl => match us, hl with | [_, _], _ => rfl)
  have A_add_text : DefAt K mg "add_text" st_add_text ["out", "text"] := D_add_text.at X G (fun _ _ _ _ _ _ us hl => match us, hl with | [_, _], _ => rfl)
  have A_add_value : DefAt K mg "add_value" st_add_value ["out", "value", "depth"] := D_add_value.at X G (fun _ _ _ _ _ _ us hl => match us, hl with | [_, _, _], _ => rfl)
  have A_pack : DefAt K mg "pack" st_pack ["value"] := D_pack.at X G (fun _ _ _ _ _ _ us hl => match us, hl with | [_], _ => rfl)
  have A_byte_at : DefAt K mg "byte_at" st_byte_at ["data", "at"] := D_byte_at.at X G (fun _ _ _ _ _ _ us hl => match us, hl with | [_, _], _ => rfl)
  have A_read_size : DefAt K mg "read_size" st_read_size ["data", "at"] := D_read_size.at X G (fun _ _ _ _ _ _ us hl => match us, hl with | [_, _], _ => rfl)
  have A_read_text : DefAt K mg "read_text" st_read_text ["data", "at"] := D_read_text.at X G (fun _ _ _ _ _ _ us hl => match us, hl with | [_, _], _ => rfl)
  have A_read_parts : DefAt K mg "read_parts" st_read_parts ["data", "at", "depth"] := D_read_parts.at X G (fun _ _ _ _ _ _ us hl => match us, hl with | [_, _, _], _ => rfl)
  have A_read_plain : DefAt K mg "read_plain" st_read_plain ["data", "at", "depth"] := D_read_plain.at X G (fun _ _ _ _ _ _ us hl => match us, hl with | [_, _, _], _ => rfl)
  have A_unpack : DefAt K mg "unpack" st_unpack ["data"] := D_unpack.at X G (fun _ _ _ _ _ _ us hl => match us, hl with | [_], _ => rfl)
  have A__law_draw : DefAt K mg "_law_draw" st__law_draw ["_law_script"] := D__law_draw.at X G (fun _ _ _ _ _ _ us hl => match us, hl with | [_], _ => rfl)
  have A__law_take : DefAt K mg "_law_take" st__law_take ["_law_draw_here", "_law_many"] := D__law_take.at X G (fun _ _ _ _ _ _ us hl => match us, hl with | [_, _], _ => rfl)
  have A__law_signs : DefAt K mg "_law_signs" st__law_signs [] := D__law_signs.at X G (fun _ _ _ _ _ _ us hl => match us, hl with | [], _ => rfl)
  have A__law_text : DefAt K mg "_law_text" st__law_text ["_law_draw_here"] := D__law_text.at X G (fun _ _ _ _ _ _ us hl => match us, hl with | [_], _ => rfl)
  have A__law_number : DefAt K mg "_law_number" st__law_number ["_law_draw_here"] := D__law_number.at X G (fun _ _ _ _ _ _ us hl => match us, hl with | [_], _ => rfl)
  have A__law_value : DefAt K mg "_law_value" st__law_value ["_law_draw_here", "_law_depth"] := D__law_value.at X G (fun _ _ _ _ _ _ us hl => match us, hl with | [_, _], _ => rfl)
  have A__law_size : DefAt K mg "_law_size" st__law_size ["_law_number_here"] := D__law_size.at X G (fun _ _ _ _ _ _ us hl => match us, hl with | [_], _ => rfl)
  have A__law_packed : DefAt K mg "_law_packed" st__law_packed ["_law_value_here", "_law_depth"] := D__law_packed.at X G (fun _ _ _ _ _ _ us hl => match us, hl with | [_, _], _ => rfl)
  have A__law_alike : DefAt K mg "_law_alike" st__law_alike ["_law_actual", "_law_due"] := D__law_alike.at X G (fun _ _ _ _ _ _ us hl => match us, hl with | [_, _], _ => rfl)
  have A__law_read_size : DefAt K mg "_law_read_size" st__law_read_size ["_law_data", "_law_at"] := D__law_read_size.at X G (fun _ _ _ _ _ _ us hl => match us, hl with | [_, _], _ => rfl)
  have A__law_sign : DefAt K mg "_law_sign" st__law_sign ["_law_code"] := D__law_sign.at X G (fun _ _ _ _ _ _ us hl => match us, hl with | [_], _ => rfl)
  have A__law_read_text : DefAt K mg "_law_read_text" st__law_read_text ["_law_data", "_law_at", "_law_many"] := D__law_read_text.at X G (fun _ _ _ _ _ _ us hl => match us, hl with | [_, _, _], _ => rfl)
  have A__law_read : DefAt K mg "_law_read" st__law_read ["_law_data", "_law_at", "_law_depth"] := D__law_read.at X G (fun _ _ _ _ _ _ us hl => match us, hl with | [_, _, _], _ => rfl)
  have A__law_error : DefAt K mg "_law_error" st__law_error ["_law_call", "_law_argument"] := D__law_error.at X G (fun _ _ _ _ _ _ us hl => match us, hl with | [_, _], _ => rfl)
  have A__law_bent : DefAt K mg "_law_bent" st__law_bent ["_law_draw_here", "_law_row"] := D__law_bent.at X G (fun _ _ _ _ _ _ us hl => match us, hl with | [_, _], _ => rfl)
  have A__law_unpacks : DefAt K mg "_law_unpacks" st__law_unpacks ["_law_data"] := D__law_unpacks.at X G (fun _ _ _ _ _ _ us hl => match us, hl with | [_], _ => rfl)
  have T : Tx P K mg := {
    n_abs := PySem.W.mg_none_of X G n_abs,
    n_bool := PySem.W.mg_none_of X G n_bool,
    n_int := PySem.W.mg_none_of X G n_int,
    n_isinstance := PySem.W.mg_none_of X G n_isinstance,
    n_len := PySem.W.mg_none_of X G n_len,
    n_list := PySem.W.mg_none_of X G n_list,
    n_max := PySem.W.mg_none_of X G n_max,
    n_min := PySem.W.mg_none_of X G n_min,
    n_ord := PySem.W.mg_none_of X G n_ord,
    n_range := PySem.W.mg_none_of X G n_range,
    n_str := PySem.W.mg_none_of X G n_str,
    n_tuple := PySem.W.mg_none_of X G n_tuple,
    g_DEEPEST := ⟨t_DEEPEST, PySem.W.mg_of X G g_DEEPEST⟩,
    g_PRINTED := ⟨t_PRINTED, PySem.W.mg_of X G g_PRINTED⟩,
    f_PackError := let ⟨C, _, hm, _⟩ := r_PackError; ⟨C, hm⟩,
    r_PackError := r_PackError,
    f_pack := let ⟨f, _, hm, _⟩ := A_pack.ex; ⟨f, hm⟩,
    f_unpack := let ⟨f, _, hm, _⟩ := A_unpack.ex; ⟨f, hm⟩ }
  have Q_is_sign : Cal P w K mg base 1 1 "is_sign" F_is_sign := cal_is_sign (k := 0) T  A_is_sign 
  have Q_add_size : Cal P w K mg base 1 2 "add_size" F_add_size := cal_add_size (k := 0) T  A_add_size 
  have Q_add_text : Cal P w K mg base 2 2 "add_text" F_add_text := cal_add_text (k := 1) T  A_add_text (Q_is_sign.mono (by decide)) (Q_add_size.mono (by decide))
  have Q_add_value : Cal P w K mg base 67 3 "add_value" (F_add_value 64) := cal_add_value (k := 2) T A_add_value (Q_add_size.mono (by decide)) (Q_add_text.mono (by decide)) 64
  have Q_pack : Cal P w K mg base 68 1 "pack" F_pack := cal_pack (k := 67) T  A_pack (Q_add_value.mono (by decide))
  have Q_byte_at : Cal P w K mg base 1 2 "byte_at" F_byte_at := cal_byte_at (k := 0) T  A_byte_at 
  have Q_read_size : Cal P w K mg base 2 2 "read_size" F_read_size := cal_read_size (k := 1) T  A_read_size (Q_byte_at.mono (by decide))
  have Q_read_text : Cal P w K mg base 3 2 "read_text" F_read_text := cal_read_text (k := 2) T  A_read_text (Q_is_sign.mono (by decide)) (Q_byte_at.mono (by decide)) (Q_read_size.mono (by decide))
  have Q_read_plain : Cal P w K mg base 132 3 "read_plain" (F_read_plain 64) := cal_read_plain (k := 3) T A_read_plain A_read_parts (Q_read_size.mono (by decide)) (Q_read_text.mono (by decide)) (Q_byte_at.mono (by decide)) 64
  have Q_unpack : Cal P w K mg base 133 1 "unpack" F_unpack := cal_unpack (k := 132) T  A_unpack (Q_read_plain.mono (by decide))
  have Q__law_draw : Cal P w K mg base 1 1 "_law_draw" F__law_draw := cal__law_draw (k := 0) T  A__law_draw 
  have Q__law_take : Cal P w K mg base 1 2 "_law_take" F__law_take := cal__law_take (k := 0) T  A__law_take 
  have Q__law_signs : Cal P w K mg base 1 0 "_law_signs" F__law_signs := cal__law_signs (k := 0) T  A__law_signs 
  have Q__law_text : Cal P w K mg base 2 1 "_law_text" F__law_text := cal__law_text (k := 1) T  A__law_text (Q__law_take.mono (by decide)) (Q__law_signs.mono (by decide))
  have Q__law_number : Cal P w K mg base 2 1 "_law_number" F__law_number := cal__law_number (k := 1) T  A__law_number (Q__law_take.mono (by decide))
  have Q__law_value : Cal P w K mg base 9 2 "_law_value" (F__law_value 6) := cal__law_value (k := 2) T A__law_value (Q__law_take.mono (by decide)) (Q__law_text.mono (by decide)) (Q__law_number.mono (by decide)) 6
  have Q__law_size : Cal P w K mg base 1 1 "_law_size" F__law_size := cal__law_size (k := 0) T  A__law_size 
  have Q__law_packed : Cal P w K mg base 66 2 "_law_packed" (F__law_packed 64) := cal__law_packed (k := 1) T A__law_packed (Q__law_size.mono (by decide)) (Q__law_signs.mono (by decide)) 64
  have Q__law_alike : Cal P w K mg base 71 2 "_law_alike" (F__law_alike 70) := cal__law_alike (k := 0) T A__law_alike  70
  have Q__law_read_size : Cal P w K mg base 1 2 "_law_read_size" F__law_read_size := cal__law_read_size (k := 0) T  A__law_read_size 
  have Q__law_sign : Cal P w K mg base 2 1 "_law_sign" F__law_sign := cal__law_sign (k := 1) T  A__law_sign (Q__law_signs.mono (by decide))
  have Q__law_read_text : Cal P w K mg base 3 3 "_law_read_text" F__law_read_text := cal__law_read_text (k := 2) T  A__law_read_text (Q__law_sign.mono (by decide))
  have Q__law_read : Cal P w K mg base 68 3 "_law_read" (F__law_read 64) := cal__law_read (k := 3) T A__law_read (Q__law_read_text.mono (by decide)) (Q__law_read_size.mono (by decide)) 64
  have Q__law_error : Cal P w K mg base 134 2 "_law_error" F__law_error := cal__law_error (k := 133) T S A__law_error (Q_pack.mono (by decide)) (Q_unpack.mono (by decide))
  have Q__law_bent : Cal P w K mg base 2 2 "_law_bent" F__law_bent := cal__law_bent (k := 1) T  A__law_bent (Q__law_take.mono (by decide))
  have Q__law_unpacks : Cal P w K mg base 135 1 "_law_unpacks" F__law_unpacks := cal__law_unpacks (k := 134) T  A__law_unpacks (Q_pack.mono (by decide)) (Q__law_alike.mono (by decide)) (Q_unpack.mono (by decide)) (Q__law_error.mono (by decide)) (Q__law_read.mono (by decide))
  exact ok_law (k := 135) T F (Q__law_unpacks.mono (by decide)) (Q__law_bent.mono (by decide)) (Q_pack.mono (by decide)) (Q__law_error.mono (by decide)) (Q__law_packed.mono (by decide)) (Q__law_take.mono (by decide)) (Q__law_value.mono (by decide)) (Q__law_draw.mono (by decide))
end G85
end Mi
namespace Mi
namespace G85
open PySem PySem.Spec PyProof.Rows L2

def isSign (c : Int) : Bool := decide (c = 10) || (decide (32 ≤ c) && decide (c ≤ 126) && !decide (c = 37))
theorem is_sign_ok (c : Int) (s : S) : F_is_sign [.int c] s = .ok (.bl (isSign c)) s := by
  by_cases h1 : c = 10 <;> by_cases h2 : 32 ≤ c <;> by_cases h3 : c ≤ 126 <;> by_cases h4 : c = 37 <;>
    simp [F_is_sign, runF, B_is_sign, mChain, chK, isSign, h1, h2, h3, h4]

/-! ### sizes -/
def sz (n : Nat) : List Int := if n < 128 then [(n : Int)] else ((n % 128 + 128 : Nat) : Int) :: sz (n / 128)
termination_by n
decreasing_by omega
theorem sz_lt {n : Nat} (h : n < 128) : sz n = [(n : Int)] := by
  rw [sz, if_pos h]
theorem sz_ge {n : Nat} (h : ¬ n < 128) : sz n = ((n % 128 + 128 : Nat) : Int) :: sz (n / 128) := by
  rw [sz, if_neg h]
theorem sz_pos (n : Nat) : 1 ≤ (sz n).length := by
  by_cases h : n < 128
  · rw [sz_lt h]
    exact Nat.le_refl 1
  · rw [sz_ge h, List.length_cons]
    omega
theorem sz_len : ∀ (f n : Nat), n < 128 ^ (f + 1) → (sz n).length ≤ f + 1
  | 0, n, h => by
    rw [sz_lt (by simpa using h)]
    exact Nat.le_refl 1
  | f + 1, n, h => by
    by_cases g : n < 128
    · rw [sz_lt g, List.length_singleton]
      omega
    · rw [sz_ge g, List.length_cons]
      have := sz_len f (n / 128) (Nat.div_lt_of_lt_mul (by rw [Nat.pow_succ] at h; omega))
      omega
theorem cdiv128 (i : Int) : CDivW i 128 := by
  refine ⟨by decide, ?_⟩
  show Nat.log2 128 < 9000
  decide
theorem set_self {s : S} {k : Nat} {c : C} (hs : s[k]? = some c) : s.set k c = s := by
  apply List.ext_getElem?
  intro j
  rw [set_get]
  split
  · rename_i e
    subst e
    rw [if_pos (lt_of_get hs), hs]
  · rfl
theorem set_at {s : S} {k : Nat} {c c' : C} (hs : s[k]? = some c') : (s.set k c)[k]? = some c := by
  rw [set_get, if_pos rfl, if_pos (lt_of_get hs)]
theorem add_size_loop (k n : Nat) : ∀ (fuel : Nat) (row : List Int) (s : S), (sz n).length ≤ fuel + 1 → s[k]? = some (C.lst (row.map D.int)) → row.length + (sz n).length ≤ sizeLine →
    ∃ m : Nat, ∃ row' : List Int, m < 128 ∧ row' ++ [(m : Int)] = row ++ sz n ∧
    whileK T_add_size1 W_add_size1 (fuel + 1) [some (.ref k), some (.int n)] s = .nx [some (.ref k), some (.int m)] (s.set k (.lst (row'.map D.int))) := by
  induction n using Nat.strongRecOn with
  | ind n ih =>
    intro fuel row s hf hs hz
    by_cases h : n < 128
    · refine ⟨n, row, h, by rw [sz_lt h], ?_⟩
      rw [set_self hs]
      refine while_f ?_
      have h : ¬ (128 : Int) ≤ n := by omega
      simp [T_add_size1, h]
    · rw [sz_ge h, List.length_cons] at hf hz
      have hp := sz_pos (n / 128)
      obtain ⟨g, rfl⟩ : ∃ g, fuel = g + 1 := ⟨fuel - 1, by omega⟩
      have ha := oApp_ok (d := .int ((n : Int) % 128 + 128)) hs (by rw [List.length_map]; omega)
      have hs' : (s.set k (C.lst (row.map D.int ++ [.int ((n : Int) % 128 + 128)])))[k]? = some (C.lst ((row ++ [(n : Int) % 128 + 128]).map D.int)) := by
        rw [set_at hs, List.map_append]
        rfl
      obtain ⟨m, row', hm, e, hw⟩ := ih (n / 128) (by omega) g (row ++ [(n : Int) % 128 + 128]) _ (by omega) hs' (by rw [List.length_append, List.length_singleton]; omega)
      refine ⟨m, row', hm, ?_, ?_⟩
      · rw [e, sz_ge h, List.append_assoc]
        rfl
      · have h' : (128 : Int) ≤ n := by omega
        refine (while_nx (s1 := s) (s2 := s.set k (C.lst (row.map D.int ++ [.int ((n : Int) % 128 + 128)]))) (ε2 := [some (.ref k), some (.int ((n : Int) / 128))]) ?_ ?_).trans ?_
        · simp [T_add_size1, h']
        · simp [W_add_size1, oMod_int, isLst_ok hs, ha, oFdiv_int (cdiv128 _)]
        · have ed : (n : Int) / 128 = ((n / 128 : Nat) : Int) := by omega
          rw [ed, hw, List.set_set]
theorem sizeL : sizeLine = 16777216 := sizeLine_eq
theorem add_size_ok {k n : Nat} {row : List Int} {s : S} (hs : s[k]? = some (C.lst (row.map D.int))) (hz : row.length + (sz n).length ≤ sizeLine) :
    F_add_size [.ref k, .int n] s = .ok .non (s.set k (.lst ((row ++ sz n).map D.int))) := by
  have hw' : wf - 1 + 1 = wf := by unfold wf; rfl
  obtain ⟨m, row', hm, e, hw⟩ := add_size_loop k n (wf - 1) row s (by rw [hw']; rw [sizeL] at hz; unfold wf; omega) hs hz
  rw [hw'] at hw
  have hl : row'.length + 1 = row.length + (sz n).length := by
    have := congrArg List.length e
    rw [List.length_append, List.length_append, List.length_singleton] at this
    exact this
  have hs' : (s.set k (C.lst (row'.map D.int)))[k]? = some (C.lst (row'.map D.int)) := set_at hs
  have ha := oApp_ok (d := .int (m : Int)) hs' (by rw [List.length_map]; omega)
  unfold F_add_size
  rw [runF_eq (n := 2) rfl]
  show runO (B_add_size [some (.ref k), some (.int n)] s) = _
  simp [B_add_size, hw, isLst_ok hs', ha, ← e]
/-! ### text -/
def strOf (cs : List Nat) : Str := ⟨cs.toArray⟩
def codes (x : Str) : List Int := x.cps.toList.map fun (c : Nat) => (c : Int)
theorem cOrd_one (c : Nat) (s : S) : cOrd [.str ⟨#[c]⟩] s = .ok (.int c) s := by
  show (if (Str.length ⟨#[c]⟩) = 1 then R.ok (D.int (((#[c] : Array Nat).getD 0 0 : Nat) : Int)) s else R.bad) = _
  rfl
theorem add_text_loop (k : Nat) (x : D) : ∀ (cs : List Nat) (o : Option D) (row : List Int) (s : S), s[k]? = some (C.lst (row.map D.int)) → row.length + cs.length ≤ sizeLine →
    if (cs.all fun (c : Nat) => isSign c) = true then
      ∃ o', loop none (gN 2) W_add_text1 (cs.map fun c => D.str ⟨#[c]⟩) [some (.ref k), some x, o] s = .nx [some (.ref k), some x, o'] (s.set k (.lst ((row ++ cs.map fun (c : Nat) => (c : Int)).map D.int)))
    else ∃ s', loop none (gN 2) W_add_text1 (cs.map fun c => D.str ⟨#[c]⟩) [some (.ref k), some x, o] s = .ex "PackError" "at" (.int (-1)) s'
  | [], o, row, s, hs, hz => by
    rw [if_pos (show (([] : List Nat).all fun (c : Nat) => isSign c) = true from rfl)]
    refine ⟨o, (loop_nil (g := none) trivial).trans ?_⟩
    rw [List.map_nil, List.append_nil, set_self hs]
  | c :: cs, o, row, s, hs, hz => by
    rw [List.map_cons, loop_cons (g := none) trivial (gN_eq _ _ _)]
    by_cases hc : isSign (c : Int) = true
    · have ha := oApp_ok (d := .int (c : Int)) hs (by rw [List.length_map]; rw [List.length_cons] at hz; omega)
      have hb : W_add_text1 ([some (.ref k), some x, o].set 2 (some (.str ⟨#[c]⟩))) s = .nx [some (.ref k), some x, some (.str ⟨#[c]⟩)] (s.set k (C.lst ((row ++ [(c : Int)]).map D.int))) := by
        simp [W_add_text1, cOrd_one, is_sign_ok, hc, isLst_ok hs, ha]
      rw [hb]
      have ih := add_text_loop k x cs (some (.str ⟨#[c]⟩)) (row ++ [(c : Int)]) (s.set k (C.lst ((row ++ [(c : Int)]).map D.int))) (set_at hs) (by rw [List.length_append, List.length_singleton]; rw [List.length_cons] at hz; omega)
      simp only [List.all_cons, hc, Bool.true_and]
      split
      · rename_i h
        rw [if_pos h] at ih
        obtain ⟨o', e⟩ := ih
        refine ⟨o', e.trans ?_⟩
        rw [List.set_set, List.append_assoc]
        rfl
      · rename_i h
        rw [if_neg h] at ih
        exact ih
    · have hb : W_add_text1 ([some (.ref k), some x, o].set 2 (some (.str ⟨#[c]⟩))) s = .ex "PackError" "at" (.int (-1)) s := by
        simp [W_add_text1, cOrd_one, is_sign_ok, hc]
      rw [hb]
      have hf : ((c :: cs).all fun (c : Nat) => isSign c) = false := by simp [hc]
      rw [hf, if_neg Bool.false_ne_true]
      exact ⟨s, rfl⟩
theorem add_text_ok {k : Nat} {x : Str} {row : List Int} {s : S} (hs : s[k]? = some (C.lst (row.map D.int))) (hz : row.length + (1 + (sz x.length).length + x.length) ≤ sizeLine) :
    if (x.cps.toList.all fun (c : Nat) => isSign c) = true then F_add_text [.ref k, .str x] s = .ok .non (s.set k (.lst ((row ++ 5 :: (sz x.length ++ codes x)).map D.int)))
    else ∃ s', F_add_text [.ref k, .str x] s = .exc "PackError" "at" (.int (-1)) s' := by
  have hxl : x.cps.toList.length = x.length := by simp [Str.length]
  have hp := sz_pos x.length
  have ha := oApp_ok (d := .int 5) hs (by rw [List.length_map]; omega)
  have hs1 : (s.set k (C.lst (row.map D.int ++ [D.int 5])))[k]? = some (C.lst ((row ++ [5]).map D.int)) := by
    rw [set_at hs, List.map_append]
    rfl
  have hA := add_size_ok (n := x.length) hs1 (by rw [List.length_append, List.length_singleton]; omega)
  have hL : cLen [.str x] (s.set k (C.lst (row.map D.int ++ [D.int 5]))) = .ok (.int x.length) (s.set k (C.lst (row.map D.int ++ [D.int 5]))) := if_pos (by omega)
  rw [List.set_set] at hA
  have hs2 : (s.set k (C.lst (((row ++ [5]) ++ sz x.length).map D.int)))[k]? = some (C.lst (((row ++ [5]) ++ sz x.length).map D.int)) := set_at hs
  have hB := add_text_loop k (.str x) x.cps.toList none _ _ hs2 (by rw [hxl]; simp only [List.length_append, List.length_singleton]; omega)
  have e0 : F_add_text [.ref k, .str x] s = runO (B_add_text [some (.ref k), some (.str x), none] s) := by
    unfold F_add_text
    rw [runF_eq (n := 2) rfl]
    rfl
  split
  · rename_i h
    rw [if_pos h] at hB
    obtain ⟨o', e⟩ := hB
    rw [e0]
    simp only [B_add_text, e_seq, e_expr, e_meth, e_var, e_cons, e_nil, e_c, e_call, e_for, e_iseq, List.getElem?_cons_zero, List.getElem?_cons_succ, rbind_ok, rto_ok, isLst_ok hs, ha, if_true, hL, hA, e_it_str, obind_nx, e, runO_nx]
    rw [List.set_set]
    simp [codes]
  · rename_i h
    rw [if_neg h] at hB
    obtain ⟨s', e⟩ := hB
    refine ⟨s', ?_⟩
    rw [e0]
    simp only [B_add_text, e_seq, e_expr, e_meth, e_var, e_cons, e_nil, e_c, e_call, e_for, e_iseq, List.getElem?_cons_zero, List.getElem?_cons_succ, rbind_ok, rto_ok, isLst_ok hs, ha, if_true, hL, hA, e_it_str, obind_nx, e, runO_ex]

/-! ### values -/
mutual
/-- the packed value, at a depth -/
def pk : Nat → D → Option (List Int)
  | _, .non => some [0]
  | _, .bl b => some (if b then [2] else [1])
  | _, .int i => some (if 0 ≤ i then 3 :: sz i.toNat else 4 :: sz (-1 - i).toNat)
  | _, .str x => if (x.cps.toList.all fun (c : Nat) => isSign c) = true then some (5 :: (sz x.length ++ codes x)) else none
  | d, .tup ds => if d < 60 then (pkAll (d + 1) ds).map fun r => 6 :: (sz ds.length ++ r) else none
  | _, _ => none
def pkAll : Nat → List D → Option (List Int)
  | _, [] => some []
  | d, x :: xs => match pk d x, pkAll d xs with
    | some a, some b => some (a ++ b)
    | _, _ => none
end
mutual
/-- how much it may be -/
def bt : D → Nat
  | .int i => 1 + (if 0 ≤ i then (sz i.toNat).length else (sz (-1 - i).toNat).length)
  | .str x => 1 + (sz x.length).length + x.length
  | .tup ds => 1 + (sz ds.length).length + btAll ds
  | _ => 1
def btAll : List D → Nat
  | [] => 0
  | x :: xs => bt x + btAll xs
end
mutual
/-- plain data, or a cell that stands -/
def Vd (s : S) : D → Prop
  | .non | .bl _ | .int _ | .str _ => True
  | .tup ds => VdAll s ds
  | .ref r => ∃ c, s[r]? = some c
  | _ => False
def VdAll (s : S) : List D → Prop
  | [] => True
  | x :: xs => Vd s x ∧ VdAll s xs
end
mutual
theorem Vd.mono {s t : S} (h : ∀ (r : Nat) (c : C), s[r]? = some c → ∃ c' : C, t[r]? = some c') : ∀ v : D, Vd s v → Vd t v
  | .non, _ => trivial
  | .bl _, _ => trivial
  | .int _, _ => trivial
  | .str _, _ => trivial
  | .tup ds, hv => VdAll.mono h ds hv
  | .ref r, ⟨c, hc⟩ => h r c hc
  | .ty _, hv => hv.elim
  | .fn _, hv => hv.elim
  | .frl _, hv => hv.elim
  | .exn _ _ _ _ _, hv => hv.elim
theorem VdAll.mono {s t : S} (h : ∀ (r : Nat) (c : C), s[r]? = some c → ∃ c' : C, t[r]? = some c') : ∀ vs : List D, VdAll s vs → VdAll t vs
  | [], _ => trivial
  | x :: xs, hv => ⟨Vd.mono h x hv.1, VdAll.mono h xs hv.2⟩
end
mutual
theorem pk_len : ∀ (v : D) (d : Nat) (r : List Int), pk d v = some r → r.length = bt v
  | .non, d, r, h => by simp [pk] at h; subst h; simp [bt]
  | .bl b, d, r, h => by simp [pk] at h; subst h; cases b <;> simp [bt]
  | .int i, d, r, h => by
    simp [pk] at h
    subst h
    by_cases c : 0 ≤ i <;> simp [bt, c] <;> omega
  | .str x, d, r, h => by
    simp only [pk] at h
    split at h
    · cases h
      simp [bt, codes, Str.length]
      omega
    · cases h
  | .tup ds, d, r, h => by
    simp only [pk] at h
    split at h
    · obtain ⟨q, hq, rfl⟩ := Option.map_eq_some_iff.mp h
      have := pkAll_len ds (d + 1) q hq
      simp [bt]
      omega
    · cases h
  | .ref _, _, _, h => by simp [pk] at h
  | .ty _, _, _, h => by simp [pk] at h
  | .fn _, _, _, h => by simp [pk] at h
  | .frl _, _, _, h => by simp [pk] at h
  | .exn _ _ _ _ _, _, _, h => by simp [pk] at h
theorem pkAll_len : ∀ (vs : List D) (d : Nat) (r : List Int), pkAll d vs = some r → r.length = btAll vs
  | [], d, r, h => by simp [pkAll] at h; subst h; simp [btAll]
  | x :: xs, d, r, h => by
    simp only [pkAll] at h
    split at h
    · rename_i a b ha hb
      cases h
      have h1 := pk_len x d a ha
      have h2 := pkAll_len xs d b hb
      simp [btAll]
      omega
    · cases h
end
end G85
end Mi
namespace Mi
namespace G85
open PySem PySem.Spec PyProof.Rows L2

def PkOk (r : R D) (k : Nat) (row : List Int) (s : S) : Option (List Int) → Prop
  | some b => r = .ok .non (s.set k (.lst ((row ++ b).map D.int)))
  | none => ∃ s', r = .exc "PackError" "at" (.int (-1)) s'
theorem vd_set {s : S} {k : Nat} {c c' : C} (h : s[k]? = some c') : ∀ (r : Nat) (e : C), s[r]? = some e → ∃ e' : C, (s.set k c)[r]? = some e' := fun r e he => by
  rw [set_get]
  split
  · rw [if_pos (by rename_i z; subst z; exact lt_of_get h)]
    exact ⟨_, rfl⟩
  · exact ⟨e, he⟩
theorem add_parts (F : List D → S → R D) (d k : Nat) (v : D) (ih : ∀ (v : D) (row : List Int) (s : S), Vd s v → s[k]? = some (C.lst (row.map D.int)) → row.length + bt v ≤ sizeLine → PkOk (F [.ref k, v, .int ((d + 1 : Nat) : Int)] s) k row s (pk (d + 1) v)) :
    ∀ (ds : List D) (o : Option D) (row : List Int) (s : S), VdAll s ds → s[k]? = some (C.lst (row.map D.int)) → row.length + btAll ds ≤ sizeLine →
    match pkAll (d + 1) ds with
    | some b => ∃ o', loop none (gN 3) (W_add_value1 F) ds [some (.ref k), some v, some (.int (d : Int)), o] s = .nx [some (.ref k), some v, some (.int (d : Int)), o'] (s.set k (.lst ((row ++ b).map D.int)))
    | none => ∃ s', loop none (gN 3) (W_add_value1 F) ds [some (.ref k), some v, some (.int (d : Int)), o] s = .ex "PackError" "at" (.int (-1)) s'
  | [], o, row, s, hv, hs, hz => by
    simp only [pkAll]
    refine ⟨o, (loop_nil (g := none) trivial).trans ?_⟩
    rw [List.append_nil, set_self hs]
  | x :: xs, o, row, s, hv, hs, hz => by
    rw [loop_cons (g := none) trivial (gN_eq _ _ _)]
    simp only [btAll] at hz
    have h1 := ih x row s hv.1 hs (by omega)
    have ed : ((d : Int) + 1) = ((d + 1 : Nat) : Int) := by omega
    simp only [pkAll]
    cases e : pk (d + 1) x with
    | none =>
      rw [e] at h1
      obtain ⟨s', h1⟩ := h1
      have hb : W_add_value1 F ([some (.ref k), some v, some (.int (d : Int)), o].set 3 (some x)) s = .ex "PackError" "at" (.int (-1)) s' := by
        simp only [List.set_cons_succ, List.set_cons_zero]
        simp only [W_add_value1, e_expr, e_call, e_cons, e_nil, e_var, e_op, e_c, List.getElem?_cons_zero, List.getElem?_cons_succ, rbind_ok, rto_exc, oAdd_int, ed, h1]
      rw [hb]
      exact ⟨s', rfl⟩
    | some a =>
      rw [e] at h1
      have h1 : F [.ref k, x, .int ((d + 1 : Nat) : Int)] s = .ok .non (s.set k (.lst ((row ++ a).map D.int))) := h1
      have hb : W_add_value1 F ([some (.ref k), some v, some (.int (d : Int)), o].set 3 (some x)) s = .nx [some (.ref k), some v, some (.int (d : Int)), some x] (s.set k (.lst ((row ++ a).map D.int))) := by
        simp only [List.set_cons_succ, List.set_cons_zero]
        simp only [W_add_value1, e_expr, e_call, e_cons, e_nil, e_var, e_op, e_c, List.getElem?_cons_zero, List.getElem?_cons_succ, rbind_ok, rto_ok, oAdd_int, ed, h1]
      rw [hb]
      have hl := pk_len x (d + 1) a e
      have h2 := add_parts F d k v ih xs (some x) (row ++ a) (s.set k (.lst ((row ++ a).map D.int))) (VdAll.mono (vd_set hs) xs hv.2) (set_at hs) (by rw [List.length_append]; omega)
      cases e2 : pkAll (d + 1) xs with
      | none =>
        rw [e2] at h2
        exact h2
      | some b =>
        rw [e2] at h2
        obtain ⟨o', h2⟩ := h2
        refine ⟨o', h2.trans ?_⟩
        rw [List.set_set, List.append_assoc]
theorem tyN_ref {r : Nat} {s : S} (h : ∃ c, s[r]? = some c) : ∃ t, tyName (.ref r) s = some t ∧ (t = "list" ∨ t = "dict") := by
  obtain ⟨c, h⟩ := h
  cases c with
  | lst ds => exact ⟨"list", by show (match s[r]? with | some (.lst _) => some "list" | some (.dic _) => some "dict" | none => none) = _; rw [h], .inl rfl⟩
  | dic kvs => exact ⟨"dict", by show (match s[r]? with | some (.lst _) => some "list" | some (.dic _) => some "dict" | none => none) = _; rw [h], .inr rfl⟩
theorem add_value_ok : ∀ (j : Nat) (v : D) (d k : Nat) (row : List Int) (s : S), 1 ≤ j → 61 ≤ j + d → d ≤ 60 → Vd s v → s[k]? = some (C.lst (row.map D.int)) → row.length + bt v ≤ sizeLine →
    PkOk (F_add_value j [.ref k, v, .int (d : Int)] s) k row s (pk d v)
  | 0, _, _, _, _, _, h, _, _, _, _, _ => absurd h (by omega)
  | j + 1, v, d, k, row, s, hj, hjd, hd, hv, hs, hz => by
    have e0 : F_add_value (j + 1) [.ref k, v, .int (d : Int)] s = runO (B_add_value (F_add_value j) [some (.ref k), some v, some (.int (d : Int)), none] s) := by
      show runF 3 4 _ _ _ = _
      rw [runF_eq (n := 3) rfl]
      rfl
    have app : ∀ (i : Int), row.length < sizeLine → oApp (.ref k) [.int i] s = .ok .non (s.set k (.lst ((row ++ [i]).map D.int))) := fun i hr => by
      rw [oApp_ok hs (by rw [List.length_map]; exact hr), List.map_append]
      rfl
    have one : 1 ≤ bt v := by cases v <;> simp [bt] <;> omega
    rw [e0]
    cases v with
    | non => simp [B_add_value, isN, isLst_ok hs, app 0 (by omega), PkOk, pk]
    | bl b =>
      cases b with
      | false => simp [B_add_value, isN, isB, isLst_ok hs, app 1 (by omega), PkOk, pk]
      | true => simp [B_add_value, isN, isB, isLst_ok hs, app 2 (by omega), PkOk, pk]
    | int i =>
      have ht : ∀ s : S, cIsi [.int i, .ty "int"] s = .ok (.bl true) s := fun s => isi_of rfl (by simp)
      simp only [bt] at hz
      by_cases h : 0 ≤ i
      · rw [if_pos h] at hz
        have hA := add_size_ok (k := k) (n := i.toNat) (row := row ++ [3]) (s := s.set k (.lst ((row ++ [3]).map D.int))) (set_at hs) (by rw [List.length_append, List.length_singleton]; omega)
        rw [Int.toNat_of_nonneg h, List.set_set] at hA
        simp only [B_add_value, e_sif, e_op, e_var, e_c, List.getElem?_cons_zero, List.getElem?_cons_succ, rbind_ok, rto_ok, oIs_non, oIs_bl, isN, isB, ifK_f, e_call, e_cons, e_nil, ht, ifK_t, e_seq, e_expr, e_meth, isLst_ok hs, if_true, e_if, oGe_int, h, decide_true, app 3 (by omega), obind_nx, hA, runO_nx, PkOk, pk, List.append_assoc, List.singleton_append]
      · rw [if_neg h] at hz
        have hA := add_size_ok (k := k) (n := (-1 - i).toNat) (row := row ++ [4]) (s := s.set k (.lst ((row ++ [4]).map D.int))) (set_at hs) (by rw [List.length_append, List.length_singleton]; omega)
        rw [Int.toNat_of_nonneg (by omega), List.set_set] at hA
        simp only [B_add_value, e_sif, e_op, e_var, e_c, List.getElem?_cons_zero, List.getElem?_cons_succ, rbind_ok, rto_ok, oIs_non, oIs_bl, isN, isB, ifK_f, e_call, e_cons, e_nil, ht, ifK_t, e_seq, e_expr, e_meth, isLst_ok hs, if_true, e_if, e_neg, oSub_int, oGe_int, h, decide_false, app 4 (by omega), obind_nx, hA, runO_nx, PkOk, pk, List.append_assoc, List.singleton_append, if_false]
    | str x =>
      have h1 : ∀ s : S, cIsi [.str x, .ty "int"] s = .ok (.bl false) s := fun s => isi_of (t := "str") rfl (by simp)
      have h2 : ∀ s : S, cIsi [.str x, .ty "str"] s = .ok (.bl true) s := fun s => isi_of (t := "str") rfl (by simp)
      simp only [bt] at hz
      have hT := add_text_ok (x := x) hs (by omega)
      simp only [B_add_value, e_sif, e_op, e_var, e_c, List.getElem?_cons_zero, List.getElem?_cons_succ, rbind_ok, rto_ok, oIs_non, oIs_bl, isN, isB, ifK_f, e_call, e_cons, e_nil, h1, h2, ifK_t, e_expr, pk]
      split at hT
      · rename_i h
        rw [if_pos h, hT]
        rfl
      · rename_i h
        obtain ⟨s', hT⟩ := hT
        rw [if_neg h, hT]
        exact ⟨s', rfl⟩
    | tup ds =>
      have h1 : ∀ s : S, cIsi [.tup ds, .ty "int"] s = .ok (.bl false) s := fun s => isi_of (t := "tuple") rfl (by simp)
      have h2 : ∀ s : S, cIsi [.tup ds, .ty "str"] s = .ok (.bl false) s := fun s => isi_of (t := "tuple") rfl (by simp)
      have h3 : ∀ s : S, cIsi [.tup ds, .ty "tuple"] s = .ok (.bl true) s := fun s => isi_of (t := "tuple") rfl (by simp)
      by_cases hlt : d < 60
      · have hlt' : (d : Int) < 60 := by omega
        simp only [bt] at hz
        have hA := add_size_ok (k := k) (n := ds.length) (row := row ++ [6]) (s := s.set k (.lst ((row ++ [6]).map D.int))) (set_at hs) (by rw [List.length_append, List.length_singleton]; omega)
        rw [List.set_set] at hA
        have hP := add_parts (F_add_value j) d k (.tup ds) (fun v row s hv hs hz => add_value_ok j v (d + 1) k row s (by omega) (by omega) (by omega) hv hs hz) ds none ((row ++ [6]) ++ sz ds.length) (s.set k (.lst (((row ++ [6]) ++ sz ds.length).map D.int))) (VdAll.mono (vd_set hs) ds hv) (set_at hs) (by simp only [List.length_append, List.length_singleton]; omega)
        simp only [B_add_value, e_sif, e_op, e_var, e_c, List.getElem?_cons_zero, List.getElem?_cons_succ, rbind_ok, rto_ok, oIs_non, oIs_bl, isN, isB, ifK_f, e_call, e_cons, e_nil, h1, h2, h3, ifK_t, e_seq, e_expr, e_and, oLt_int, hlt', decide_true, e_meth, isLst_ok hs, if_true, app 6 (by omega), obind_nx, cLen_tup, hA, e_for, e_iseq, e_it_tup, pk, if_pos hlt]
        cases e : pkAll (d + 1) ds with
        | none =>
          rw [e] at hP
          obtain ⟨s', hP⟩ := hP
          rw [hP]
          exact ⟨s', rfl⟩
        | some b =>
          rw [e] at hP
          obtain ⟨o', hP⟩ := hP
          rw [hP]
          show R.ok D.non _ = _
          rw [List.set_set]
          simp
      · have hlt' : ¬ (d : Int) < 60 := by omega
        simp only [B_add_value, e_sif, e_op, e_var, e_c, List.getElem?_cons_zero, List.getElem?_cons_succ, rbind_ok, rto_ok, oIs_non, oIs_bl, isN, isB, ifK_f, e_call, e_cons, e_nil, h1, h2, h3, e_and, oLt_int, hlt', decide_false, e_raise, e_neg, runO_ex, pk, if_neg hlt]
        exact ⟨s, rfl⟩
    | ref r =>
      obtain ⟨t, ht, hc⟩ := tyN_ref hv
      have h1 : ∀ n, n = "int" ∨ n = "str" ∨ n = "tuple" → cIsi [.ref r, .ty n] s = .ok (.bl false) s := fun n hn => isi_of ht (by rcases hc with rfl | rfl <;> rcases hn with rfl | rfl | rfl <;> simp)
      simp only [B_add_value, e_sif, e_op, e_var, e_c, List.getElem?_cons_zero, List.getElem?_cons_succ, rbind_ok, rto_ok, oIs_non, oIs_bl, isN, isB, ifK_f, e_call, e_cons, e_nil, h1 "int" (by simp), h1 "str" (by simp), h1 "tuple" (by simp), e_and, e_raise, e_neg, runO_ex, pk]
      exact ⟨s, rfl⟩
    | _ => exact hv.elim
theorem pack_ok {v : D} {s : S} (hv : Vd s v) (hz : bt v ≤ sizeLine) : match pk 0 v with
    | some b => F_pack [v] s = .ok (.ref s.length) (s ++ [.lst (b.map D.int)])
    | none => ∃ s', F_pack [v] s = .exc "PackError" "at" (.int (-1)) s' := by
  have hs : (s ++ [C.lst []])[s.length]? = some (C.lst (([] : List Int).map D.int)) := app_last
  have h := add_value_ok 64 v 0 s.length [] (s ++ [C.lst []]) (by omega) (by omega) (by omega) (Vd.mono (fun r c e => ⟨c, by rw [app_get (lt_of_get e)]; exact e⟩) v hv) hs (by simpa using hz)
  have e0 : F_pack [v] s = runO (B_pack [some v, none] s) := by
    unfold F_pack
    rw [runF_eq (n := 1) rfl]
    rfl
  have z : (0 : Nat) ≤ sizeLine := Nat.zero_le _
  rw [e0]
  cases e : pk 0 v with
  | none =>
    rw [e] at h
    obtain ⟨s', h⟩ := h
    have h : F_add_value 64 [.ref s.length, v, .int 0] (s ++ [C.lst []]) = .exc "PackError" "at" (.int (-1)) s' := h
    refine ⟨s', ?_⟩
    simp [B_pack, h]
  | some b =>
    rw [e] at h
    have h : F_add_value 64 [.ref s.length, v, .int 0] (s ++ [C.lst []]) = .ok .non ((s ++ [C.lst []]).set s.length (.lst (([] ++ b).map D.int))) := h
    simp [B_pack, h]
end G85
end Mi
namespace Mi
namespace G85
open PySem PySem.Spec PyProof.Rows L2

/-- the cells of s stand as they are -/
def Pre (s t : S) : Prop := ∀ (r : Nat) (c : C), s[r]? = some c → t[r]? = some c
theorem Pre.refl {s : S} : Pre s s := fun _ _ h => h
theorem Pre.trans {s t u : S} (a : Pre s t) (b : Pre t u) : Pre s u := fun r c h => b r c (a r c h)
theorem Pre.app {s t : S} : Pre s (s ++ t) := fun r c h => by rw [app_get (lt_of_get h)]; exact h
theorem Pre.set {s t : S} {k : Nat} {c : C} (h : Pre s t) (hk : s.length ≤ k) : Pre s (t.set k c) := fun r e he => by
  rw [set_get, if_neg (show ¬ k = r from fun z => by have := lt_of_get he; omega)]
  exact h r e he
theorem Pre.len {s t : S} (h : Pre s t) : s.length ≤ t.length := by
  by_cases z : s.length = 0
  · omega
  · have hl : s.length - 1 < s.length := by omega
    have := lt_of_get (h (s.length - 1) _ (List.getElem?_eq_getElem hl))
    omega
theorem vd_pre {s t : S} (h : Pre s t) (v : D) (hv : Vd s v) : Vd t v := Vd.mono (fun r c e => ⟨c, h r c e⟩) v hv
theorem vds_pre {s t : S} (h : Pre s t) (v : List D) (hv : VdAll s v) : VdAll t v := VdAll.mono (fun r c e => ⟨c, h r c e⟩) v hv
theorem set_last {s : S} {c c' : C} : (s ++ [c]).set s.length c' = s ++ [c'] := by simp
@[simp] theorem cInt_int (i : Int) (s : S) : cInt [.int i] s = .ok (.int i) s := rfl

theorem law_size_loop (k n : Nat) : ∀ (fuel : Nat) (row : List Int) (s : S), (sz n).length ≤ fuel + 1 → s[k]? = some (C.lst (row.map D.int)) → row.length + (sz n).length ≤ sizeLine →
    ∃ m : Nat, ∃ row' : List Int, m < 128 ∧ row' ++ [(m : Int)] = row ++ sz n ∧
    whileK T__law_size1 W__law_size1 (fuel + 1) [some (.int n), some (.ref k)] s = .nx [some (.int m), some (.ref k)] (s.set k (.lst (row'.map D.int))) := by
  induction n using Nat.strongRecOn with
  | ind n ih =>
    intro fuel row s hf hs hz
    by_cases h : n < 128
    · refine ⟨n, row, h, by rw [sz_lt h], ?_⟩
      rw [set_self hs]
      refine while_f ?_
      have h : ¬ (128 : Int) ≤ n := by omega
      simp [T__law_size1, h]
    · rw [sz_ge h, List.length_cons] at hf hz
      have hp := sz_pos (n / 128)
      obtain ⟨g, rfl⟩ : ∃ g, fuel = g + 1 := ⟨fuel - 1, by omega⟩
      have ha := oApp_ok (d := .int ((n : Int) % 128 + 128)) hs (by rw [List.length_map]; omega)
      have hs' : (s.set k (C.lst (row.map D.int ++ [.int ((n : Int) % 128 + 128)])))[k]? = some (C.lst ((row ++ [(n : Int) % 128 + 128]).map D.int)) := by
        rw [set_at hs, List.map_append]
        rfl
      obtain ⟨m, row', hm, e, hw⟩ := ih (n / 128) (by omega) g (row ++ [(n : Int) % 128 + 128]) _ (by omega) hs' (by rw [List.length_append, List.length_singleton]; omega)
      refine ⟨m, row', hm, ?_, ?_⟩
      · rw [e, sz_ge h, List.append_assoc]
        rfl
      · have h' : (128 : Int) ≤ n := by omega
        refine (while_nx (s1 := s) (s2 := s.set k (C.lst (row.map D.int ++ [.int ((n : Int) % 128 + 128)]))) (ε2 := [some (.int ((n : Int) / 128)), some (.ref k)]) ?_ ?_).trans ?_
        · simp [T__law_size1, h']
        · simp [W__law_size1, oMod_int, isLst_ok hs, ha, oFdiv_int (cdiv128 _)]
        · have ed : (n : Int) / 128 = ((n / 128 : Nat) : Int) := by omega
          rw [ed, hw, List.set_set]
theorem law_size_ok {n : Nat} {s : S} (hz : (sz n).length ≤ sizeLine) : F__law_size [.int n] s = .ok (.ref s.length) (s ++ [.lst ((sz n).map D.int)]) := by
  have hs : (s ++ [C.lst []])[s.length]? = some (C.lst (([] : List Int).map D.int)) := app_last
  have hw' : wf - 1 + 1 = wf := by unfold wf; rfl
  obtain ⟨m, row', hm, e, hw⟩ := law_size_loop s.length n (wf - 1) [] (s ++ [C.lst []]) (by rw [hw']; rw [sizeL] at hz; unfold wf; omega) hs (by simpa using hz)
  rw [hw'] at hw
  have hl : row'.length + 1 = (sz n).length := by
    have := congrArg List.length e
    rw [List.length_append, List.length_append, List.length_singleton, List.length_nil] at this
    omega
  rw [set_last] at hw
  have hs2 : (s ++ [C.lst (row'.map D.int)])[s.length]? = some (C.lst (row'.map D.int)) := app_last
  have ha := oApp_ok (d := .int (m : Int)) hs2 (by rw [List.length_map]; omega)
  have e0 : F__law_size [.int n] s = runO (B__law_size [some (.int n), none] s) := by
    unfold F__law_size
    rw [runF_eq (n := 1) rfl]
    rfl
  have e1 : (sz n).map D.int = row'.map D.int ++ [.int (m : Int)] := by
    rw [show sz n = row' ++ [(m : Int)] by rw [e]; rfl, List.map_append]
    rfl
  rw [e0]
  have z : (0 : Nat) ≤ sizeLine := Nat.zero_le _
  simp [B__law_size, hw, isLst_ok hs2, ha, e1]
def SIGNS : Str := (" !\"#$&'()*+,-./0123456789:;<=>?@ABCDEFGHIJKLMNOPQRSTUVWXYZ[\\]^_`" : Str) ++ ("abcdefghijklmnopqrstuvwxyz{|}~\n" : Str)
theorem SIGNS_eq : SIGNS.cps.toList = ((List.range 95).map (· + 32)).filter (· ≠ 37) ++ [10] := by decide +kernel
theorem signs_ok (s : S) : F__law_signs [] s = .ok (.str SIGNS) s := by
  have e0 : F__law_signs [] s = runO (B__law_signs [none] s) := by
    unfold F__law_signs
    rw [runF_eq (n := 0) rfl]
    rfl
  have hl : (" !\"#$&'()*+,-./0123456789:;<=>?@ABCDEFGHIJKLMNOPQRSTUVWXYZ[\\]^_`" : Str).length + ("abcdefghijklmnopqrstuvwxyz{|}~\n" : Str).length ≤ sizeLine := by
    rw [sizeL]
    decide +kernel
  have h : oAdd (.str (" !\"#$&'()*+,-./0123456789:;<=>?@ABCDEFGHIJKLMNOPQRSTUVWXYZ[\\]^_`" : Str)) (.str ("abcdefghijklmnopqrstuvwxyz{|}~\n" : Str)) s = .ok (.str SIGNS) s := oAdd_str hl
  rw [e0]
  simp [B__law_signs, h]
theorem mem_signs (c : Nat) : decide (c ∈ SIGNS.cps.toList) = isSign (c : Int) := by
  rw [SIGNS_eq]
  have : (c ∈ ((List.range 95).map (· + 32)).filter (· ≠ 37) ++ [10]) ↔ (c = 10 ∨ (32 ≤ c ∧ c ≤ 126 ∧ c ≠ 37)) := by
    simp only [List.mem_append, List.mem_filter, List.mem_map, List.mem_range, List.mem_singleton, decide_eq_true_eq]
    constructor
    · rintro (⟨⟨a, ha, rfl⟩, h⟩ | h)
      · exact .inr ⟨by omega, by omega, by simpa using h⟩
      · exact .inl h
    · rintro (h | ⟨h1, h2, h3⟩)
      · exact .inr h
      · exact .inl ⟨⟨c - 32, by omega, by omega⟩, by simpa using h3⟩
  rw [decide_eq_decide.mpr this]
  unfold isSign
  by_cases h1 : c = 10
  · subst h1
    rfl
  · by_cases h2 : 32 ≤ c <;> by_cases h3 : c ≤ 126 <;> by_cases h4 : c = 37 <;> simp [h1, h2, h3, h4] <;> omega
theorem notin_sign (c : Nat) (s : S) : oNotInS (.str ⟨#[c]⟩) (.str SIGNS) s = .ok (.bl (!isSign (c : Int))) s := by
  show R.ok (D.bl (!inStr ⟨#[c]⟩ SIGNS)) s = _
  rw [inStr_one, mem_signs]
/-! ### the law's own writer -/
/-- None, or a list of its own -/
def PdOk (r : R D) (s : S) : Option (List Int) → Prop
  | some b => ∃ k s', r = .ok (.ref k) s' ∧ Pre s s' ∧ s'[k]? = some (.lst (b.map D.int)) ∧ s.length ≤ k
  | none => ∃ s', r = .ok .non s' ∧ Pre s s'
theorem packed_text (F : List D → S → R D) (x : D) (d : D) (k : Nat) (s0 : S) (hk : s0.length ≤ k) : ∀ (cs : List Nat) (o : Option D) (row : List Int) (s : S), Pre s0 s → s[k]? = some (C.lst (row.map D.int)) → row.length + cs.length ≤ sizeLine →
    ∃ s', Pre s0 s' ∧ if (cs.all fun (c : Nat) => isSign c) = true then
      ∃ o', loop none (gN 3) (W__law_packed2 F) (cs.map fun c => D.str ⟨#[c]⟩) [some x, some d, some (.ref k), o, none, none] s = .nx [some x, some d, some (.ref k), o', none, none] s' ∧ s'[k]? = some (.lst ((row ++ cs.map fun (c : Nat) => (c : Int)).map D.int))
    else loop none (gN 3) (W__law_packed2 F) (cs.map fun c => D.str ⟨#[c]⟩) [some x, some d, some (.ref k), o, none, none] s = .rt .non s'
  | [], o, row, s, hp, hs, hz => by
    refine ⟨s, hp, ?_⟩
    rw [if_pos (show (([] : List Nat).all fun (c : Nat) => isSign c) = true from rfl)]
    refine ⟨o, loop_nil (g := none) trivial, ?_⟩
    rw [List.map_nil, List.append_nil, hs]
  | c :: cs, o, row, s, hp, hs, hz => by
    rw [List.map_cons, loop_cons (g := none) trivial (gN_eq _ _ _)]
    rw [List.length_cons] at hz
    by_cases hc : isSign (c : Int) = true
    · have ha := oApp_ok (d := .int (c : Int)) hs (by rw [List.length_map]; omega)
      have hb : W__law_packed2 F ([some x, some d, some (.ref k), o, none, none].set 3 (some (.str ⟨#[c]⟩))) s = .nx [some x, some d, some (.ref k), some (.str ⟨#[c]⟩), none, none] (s.set k (C.lst ((row ++ [(c : Int)]).map D.int))) := by
        simp [W__law_packed2, cOrd_one, signs_ok, notin_sign, hc, isLst_ok hs, ha]
      rw [hb]
      obtain ⟨s', h1, h2⟩ := packed_text F x d k s0 hk cs (some (.str ⟨#[c]⟩)) (row ++ [(c : Int)]) (s.set k (C.lst ((row ++ [(c : Int)]).map D.int))) (hp.set hk) (set_at hs) (by rw [List.length_append, List.length_singleton]; omega)
      refine ⟨s', h1, ?_⟩
      simp only [List.all_cons, hc, Bool.true_and]
      rw [List.append_assoc] at h2
      exact h2
    · have hb : W__law_packed2 F ([some x, some d, some (.ref k), o, none, none].set 3 (some (.str ⟨#[c]⟩))) s = .rt .non s := by
        simp [W__law_packed2, signs_ok, notin_sign, hc]
      rw [hb]
      have hf : ((c :: cs).all fun (c : Nat) => isSign c) = false := by simp [hc]
      refine ⟨s, hp, ?_⟩
      rw [hf, if_neg Bool.false_ne_true]
theorem packed_parts (F : List D → S → R D) (d : Nat) (v : D) (s0 : S) (ih : ∀ (v : D) (s : S), Vd s v → bt v ≤ sizeLine → PdOk (F [v, .int ((d + 1 : Nat) : Int)] s) s (pk (d + 1) v)) :
    ∀ (ds : List D) (o1 o2 : Option D) (k : Nat) (row : List Int) (s : S), Pre s0 s → VdAll s ds → s[k]? = some (C.lst (row.map D.int)) → s0.length ≤ k → row.length + btAll ds ≤ sizeLine →
    match pkAll (d + 1) ds with
    | some b => ∃ o1' o2' k' s', loop none (gN 4) (W__law_packed1 F) ds [some v, some (.int (d : Int)), some (.ref k), none, o1, o2] s = .nx [some v, some (.int (d : Int)), some (.ref k'), none, o1', o2'] s' ∧ Pre s0 s' ∧ s'[k']? = some (.lst ((row ++ b).map D.int)) ∧ s0.length ≤ k'
    | none => ∃ s', loop none (gN 4) (W__law_packed1 F) ds [some v, some (.int (d : Int)), some (.ref k), none, o1, o2] s = .rt .non s' ∧ Pre s0 s'
  | [], o1, o2, k, row, s, hp, hv, hs, hk, hz => by
    simp only [pkAll]
    refine ⟨o1, o2, k, s, loop_nil (g := none) trivial, hp, ?_, hk⟩
    rw [List.append_nil, hs]
  | x :: xs, o1, o2, k, row, s, hp, hv, hs, hk, hz => by
    rw [loop_cons (g := none) trivial (gN_eq _ _ _)]
    simp only [btAll] at hz
    have h1 := ih x s hv.1 (by omega)
    have ed : ((d : Int) + 1) = ((d + 1 : Nat) : Int) := by omega
    simp only [pkAll]
    cases e : pk (d + 1) x with
    | none =>
      rw [e] at h1
      obtain ⟨s', h1, hp'⟩ := h1
      have hb : W__law_packed1 F ([some v, some (.int (d : Int)), some (.ref k), none, o1, o2].set 4 (some x)) s = .rt .non s' := by
        simp only [List.set_cons_succ, List.set_cons_zero]
        simp only [W__law_packed1, e_seq, e_set, e_sif, e_call, e_cons, e_nil, e_var, e_op, e_c, List.getElem?_cons_zero, List.getElem?_cons_succ, rbind_ok, rto_ok, oAdd_int, ed, h1, obind_nx, List.set_cons_succ, List.set_cons_zero, oIs_non, isN, ifK_t, e_ret, obind_rt]
      rw [hb]
      exact ⟨s', rfl, hp.trans hp'⟩
    | some a =>
      rw [e] at h1
      obtain ⟨k1, s1, h1, hp', hs1, hk1⟩ := h1
      have hl := pk_len x (d + 1) a e
      have hA := oAdd_lst (hp' _ _ hs) hs1 (by rw [List.length_map, List.length_map]; omega)
      have hb : W__law_packed1 F ([some v, some (.int (d : Int)), some (.ref k), none, o1, o2].set 4 (some x)) s = .nx [some v, some (.int (d : Int)), some (.ref s1.length), none, some x, some (.ref k1)] (s1 ++ [C.lst ((row ++ a).map D.int)]) := by
        simp only [List.set_cons_succ, List.set_cons_zero]
        simp only [W__law_packed1, e_seq, e_set, e_sif, e_call, e_cons, e_nil, e_var, e_op, e_c, List.getElem?_cons_zero, List.getElem?_cons_succ, rbind_ok, rto_ok, oAdd_int, ed, h1, obind_nx, List.set_cons_succ, List.set_cons_zero, oIs_non, isN, ifK_f, e_bnil, hA, List.map_append]
      rw [hb]
      have q : Pre s (s1 ++ [C.lst ((row ++ a).map D.int)]) := hp'.trans Pre.app
      have h2 := packed_parts F d v s0 ih xs (some x) (some (.ref k1)) s1.length (row ++ a) (s1 ++ [C.lst ((row ++ a).map D.int)]) (hp.trans q) (vds_pre q xs hv.2) app_last (by have := hp.len; have := hp'.len; omega) (by rw [List.length_append]; omega)
      cases e2 : pkAll (d + 1) xs with
      | none =>
        rw [e2] at h2
        exact h2
      | some b =>
        rw [e2] at h2
        obtain ⟨o1', o2', k', s', h2, h3, h4, h5⟩ := h2
        refine ⟨o1', o2', k', s', h2, h3, ?_, h5⟩
        rw [← List.append_assoc, h4]
theorem law_packed_ok : ∀ (j : Nat) (v : D) (d : Nat) (s : S), 1 ≤ j → 61 ≤ j + d → d ≤ 60 → Vd s v → bt v ≤ sizeLine → PdOk (F__law_packed j [v, .int (d : Int)] s) s (pk d v)
  | 0, _, _, _, h, _, _, _, _ => absurd h (by omega)
  | j + 1, v, d, s, hj, hjd, hd, hv, hz => by
    have e0 : F__law_packed (j + 1) [v, .int (d : Int)] s = runO (B__law_packed (F__law_packed j) [some v, some (.int (d : Int)), none, none, none, none] s) := by
      show runF 2 6 _ _ _ = _
      rw [runF_eq (n := 2) rfl]
      rfl
    have one : 1 ≤ sizeLine := by rw [sizeL]; omega
    rw [e0]
    cases v with
    | non =>
      simp only [pk]
      exact ⟨s.length, s ++ [C.lst [.int 0]], by simp [B__law_packed, isN, one], Pre.app, app_last, Nat.le_refl _⟩
    | bl b =>
      have h1 : ∀ s : S, cIsi [.bl b, .ty "bool"] s = .ok (.bl true) s := fun s => isi_of (t := "bool") rfl (by simp)
      cases b with
      | false =>
        simp only [pk]
        exact ⟨s.length, s ++ [C.lst [.int 1]], by simp [B__law_packed, isN, h1, one], Pre.app, app_last, Nat.le_refl _⟩
      | true =>
        simp only [pk]
        exact ⟨s.length, s ++ [C.lst [.int 2]], by simp [B__law_packed, isN, h1, one], Pre.app, app_last, Nat.le_refl _⟩
    | int i =>
      have h1 : ∀ s : S, cIsi [.int i, .ty "bool"] s = .ok (.bl false) s := fun s => isi_of (t := "int") rfl (by simp)
      have h2 : ∀ s : S, cIsi [.int i, .ty "int"] s = .ok (.bl true) s := fun s => isi_of (t := "int") rfl (by simp)
      simp only [bt] at hz
      by_cases h : 0 ≤ i
      · rw [if_pos h] at hz
        have hS := law_size_ok (n := i.toNat) (s := s ++ [C.lst [.int 3]]) (by omega)
        rw [Int.toNat_of_nonneg h] at hS
        have hA := oAdd_lst (s := (s ++ [C.lst [.int 3]]) ++ [C.lst ((sz i.toNat).map D.int)]) (j := s.length) (k := (s ++ [C.lst [.int 3]]).length) (ds := [.int 3]) (es := (sz i.toNat).map D.int) (by rw [app_get (by simp)]; exact app_last) app_last (by rw [List.length_map, List.length_singleton]; omega)
        simp only [B__law_packed, e_seq, e_sif, e_op, e_var, e_c, List.getElem?_cons_zero, List.getElem?_cons_succ, rbind_ok, rto_ok, oIs_non, isN, ifK_f, ifK_t, e_bnil, obind_nx, e_call, e_cons, e_nil, h1, h2, e_ret, e_if, oGe_int, h, decide_true, e_lst, List.length_singleton, one, if_true, hS, hA, obind_rt, runO_rt, pk]
        refine ⟨_, _, rfl, (Pre.app.trans Pre.app).trans Pre.app, app_last, ?_⟩
        simp
      · rw [if_neg h] at hz
        have hS := law_size_ok (n := (-1 - i).toNat) (s := s ++ [C.lst [.int 4]]) (by omega)
        rw [Int.toNat_of_nonneg (by omega)] at hS
        have hA := oAdd_lst (s := (s ++ [C.lst [.int 4]]) ++ [C.lst ((sz (-1 - i).toNat).map D.int)]) (j := s.length) (k := (s ++ [C.lst [.int 4]]).length) (ds := [.int 4]) (es := (sz (-1 - i).toNat).map D.int) (by rw [app_get (by simp)]; exact app_last) app_last (by rw [List.length_map, List.length_singleton]; omega)
        simp only [B__law_packed, e_seq, e_sif, e_op, e_var, e_c, List.getElem?_cons_zero, List.getElem?_cons_succ, rbind_ok, rto_ok, oIs_non, isN, ifK_f, ifK_t, e_bnil, obind_nx, e_call, e_cons, e_nil, h1, h2, e_ret, e_if, e_neg, oSub_int, oGe_int, h, decide_false, e_lst, List.length_singleton, one, if_true, if_false, hS, hA, obind_rt, runO_rt, pk]
        refine ⟨_, _, rfl, (Pre.app.trans Pre.app).trans Pre.app, app_last, ?_⟩
        simp
    | str x =>
      have h1 : ∀ s : S, cIsi [.str x, .ty "bool"] s = .ok (.bl false) s := fun s => isi_of (t := "str") rfl (by simp)
      have h2 : ∀ s : S, cIsi [.str x, .ty "int"] s = .ok (.bl false) s := fun s => isi_of (t := "str") rfl (by simp)
      have h3 : ∀ s : S, cIsi [.str x, .ty "str"] s = .ok (.bl true) s := fun s => isi_of (t := "str") rfl (by simp)
      simp only [bt] at hz
      have hxl : x.cps.toList.length = x.length := by simp [Str.length]
      have hL : ∀ s : S, cLen [.str x] s = .ok (.int x.length) s := fun s => if_pos (by omega)
      have hS := law_size_ok (n := x.length) (s := s ++ [C.lst [.int 5]]) (by omega)
      have hA := oAdd_lst (s := (s ++ [C.lst [.int 5]]) ++ [C.lst ((sz x.length).map D.int)]) (j := s.length) (k := (s ++ [C.lst [.int 5]]).length) (ds := [.int 5]) (es := (sz x.length).map D.int) (by rw [app_get (by simp)]; exact app_last) app_last (by rw [List.length_map, List.length_singleton]; omega)
      have hT := packed_text (F__law_packed j) (.str x) (.int (d : Int)) ((s ++ [C.lst [.int 5]]) ++ [C.lst ((sz x.length).map D.int)]).length s (by simp) x.cps.toList none (5 :: sz x.length) (((s ++ [C.lst [.int 5]]) ++ [C.lst ((sz x.length).map D.int)]) ++ [C.lst ([.int 5] ++ (sz x.length).map D.int)]) ((Pre.app.trans Pre.app).trans Pre.app) app_last (by rw [List.length_cons, hxl]; omega)
      obtain ⟨s', hp, hT⟩ := hT
      simp only [B__law_packed, e_seq, e_sif, e_op, e_var, e_c, List.getElem?_cons_zero, List.getElem?_cons_succ, rbind_ok, rto_ok, oIs_non, isN, ifK_f, ifK_t, e_bnil, obind_nx, e_call, e_cons, e_nil, h1, h2, h3, e_set, e_lst, List.length_singleton, one, if_true, hL, hS, hA, List.set_cons_succ, List.set_cons_zero, e_for, e_iseq, e_it_str, pk]
      split at hT
      · rename_i h
        obtain ⟨o', hT, hg⟩ := hT
        rw [hT, if_pos h]
        refine ⟨_, _, rfl, hp, ?_, by simp⟩
        rw [hg]
        rfl
      · rename_i h
        rw [hT, if_neg h]
        exact ⟨s', rfl, hp⟩
    | tup ds =>
      have h1 : ∀ s : S, cIsi [.tup ds, .ty "bool"] s = .ok (.bl false) s := fun s => isi_of (t := "tuple") rfl (by simp)
      have h2 : ∀ s : S, cIsi [.tup ds, .ty "int"] s = .ok (.bl false) s := fun s => isi_of (t := "tuple") rfl (by simp)
      have h3 : ∀ s : S, cIsi [.tup ds, .ty "str"] s = .ok (.bl false) s := fun s => isi_of (t := "tuple") rfl (by simp)
      have h4 : ∀ s : S, cIsi [.tup ds, .ty "tuple"] s = .ok (.bl true) s := fun s => isi_of (t := "tuple") rfl (by simp)
      by_cases hlt : d < 60
      · have hne : ¬ (d : Int) = 60 := by omega
        simp only [bt] at hz
        have hS := law_size_ok (n := ds.length) (s := s ++ [C.lst [.int 6]]) (by omega)
        have hA := oAdd_lst (s := (s ++ [C.lst [.int 6]]) ++ [C.lst ((sz ds.length).map D.int)]) (j := s.length) (k := (s ++ [C.lst [.int 6]]).length) (ds := [.int 6]) (es := (sz ds.length).map D.int) (by rw [app_get (by simp)]; exact app_last) app_last (by rw [List.length_map, List.length_singleton]; omega)
        have q : Pre s (((s ++ [C.lst [.int 6]]) ++ [C.lst ((sz ds.length).map D.int)]) ++ [C.lst ([.int 6] ++ (sz ds.length).map D.int)]) := (Pre.app.trans Pre.app).trans Pre.app
        have hP := packed_parts (F__law_packed j) d (.tup ds) s (fun v s hv hz => law_packed_ok j v (d + 1) s (by omega) (by omega) (by omega) hv hz) ds none none ((s ++ [C.lst [.int 6]]) ++ [C.lst ((sz ds.length).map D.int)]).length (6 :: sz ds.length) (((s ++ [C.lst [.int 6]]) ++ [C.lst ((sz ds.length).map D.int)]) ++ [C.lst ([.int 6] ++ (sz ds.length).map D.int)]) q (vds_pre q ds hv) app_last (by simp) (by rw [List.length_cons]; omega)
        simp only [B__law_packed, e_seq, e_sif, e_op, e_var, e_c, List.getElem?_cons_zero, List.getElem?_cons_succ, rbind_ok, rto_ok, oIs_non, isN, ifK_f, ifK_t, e_bnil, obind_nx, e_call, e_cons, e_nil, h1, h2, h3, h4, e_or, e_not, Bool.not_true, oEq_int, hne, decide_false, e_set, e_lst, List.length_singleton, one, if_true, cLen_tup, hS, hA, List.set_cons_succ, List.set_cons_zero, e_for, e_iseq, e_it_tup, pk, if_pos hlt]
        cases e : pkAll (d + 1) ds with
        | none =>
          rw [e] at hP
          obtain ⟨s', hP, hp⟩ := hP
          rw [hP]
          exact ⟨s', rfl, hp⟩
        | some b =>
          rw [e] at hP
          obtain ⟨o1', o2', k', s', hP, h5, h6, h7⟩ := hP
          rw [hP]
          exact ⟨k', s', rfl, h5, h6, h7⟩
      · have he : (d : Int) = 60 := by omega
        simp only [B__law_packed, e_seq, e_sif, e_op, e_var, e_c, List.getElem?_cons_zero, List.getElem?_cons_succ, rbind_ok, rto_ok, oIs_non, isN, ifK_f, ifK_t, e_bnil, obind_nx, e_call, e_cons, e_nil, h1, h2, h3, h4, e_or, e_not, Bool.not_true, oEq_int, he, decide_true, e_ret, obind_rt, runO_rt, pk, if_neg hlt]
        exact ⟨s, rfl, Pre.refl⟩
    | ref r =>
      obtain ⟨t, ht, hc⟩ := tyN_ref hv
      have h1 : ∀ n, n = "bool" ∨ n = "int" ∨ n = "str" ∨ n = "tuple" → cIsi [.ref r, .ty n] s = .ok (.bl false) s := fun n hn => isi_of ht (by rcases hc with rfl | rfl <;> rcases hn with rfl | rfl | rfl | rfl <;> simp)
      simp only [B__law_packed, e_seq, e_sif, e_op, e_var, e_c, List.getElem?_cons_zero, List.getElem?_cons_succ, rbind_ok, rto_ok, oIs_non, isN, ifK_f, ifK_t, e_bnil, obind_nx, e_call, e_cons, e_nil, h1 "bool" (by simp), h1 "int" (by simp), h1 "str" (by simp), h1 "tuple" (by simp), e_or, e_not, Bool.not_false, e_ret, obind_rt, runO_rt, pk]
      exact ⟨s, rfl, Pre.refl⟩
    | _ => exact hv.elim
end G85
end Mi
namespace Mi
namespace G85
open PySem PySem.Spec PyProof.Rows L2

/-! ### reading, in plain words -/
inductive RS where
  | ok (n : Int) (u : Nat) | err (o : Nat)
def rs (fst : Bool) : List Int → RS
  | [] => .err 0
  | x :: xs => if 128 ≤ x then (match rs false xs with
      | .ok n u => .ok ((x - 128) + 128 * n) (u + 1)
      | .err o => .err (o + 1)) else if x = 0 ∧ fst = false then .err 0 else .ok x 1
inductive RT where
  | ok (cs : List Nat) | err (o : Nat)
def rt : Nat → List Int → RT
  | 0, _ => .ok []
  | _ + 1, [] => .err 0
  | m + 1, x :: xs => if isSign x = true then (match rt m xs with
      | .ok cs => .ok (x.toNat :: cs)
      | .err o => .err (o + 1)) else .err 0
inductive RP where
  | ok (v : D) (u : Nat) | err (o : Nat)
inductive RPs where
  | ok (vs : List D) (u : Nat) | err (o : Nat)
def rps (f : List Int → RP) : Nat → List Int → RPs
  | 0, _ => .ok [] 0
  | m + 1, xs => match f xs with
    | .err o => .err o
    | .ok v u => match rps f m (xs.drop u) with
      | .ok vs w => .ok (v :: vs) (u + w)
      | .err o => .err (u + o)
def small (c : Int) : D := if c = 0 then .non else if c = 1 then .bl false else .bl true
def rp : Nat → Nat → List Int → RP
  | 0, _, _ => .err 0
  | _ + 1, _, [] => .err 0
  | j + 1, d, c :: xs => if 6 < c then .err 0 else if c < 3 then .ok (small c) 1 else if c = 6 ∧ 60 ≤ d then .err 0 else match rs true xs with
    | .err o => .err (o + 1)
    | .ok n u => if c = 3 then .ok (.int n) (1 + u) else if c = 4 then .ok (.int (-1 - n)) (1 + u) else if c = 5 then (match rt n.toNat (xs.drop u) with
        | .ok cs => .ok (.str ⟨cs.toArray⟩) (1 + u + cs.length)
        | .err o => .err (1 + u + o)) else match rps (rp j (d + 1)) n.toNat (xs.drop u) with
        | .ok vs w => .ok (.tup vs) (1 + u + w)
        | .err o => .err (1 + u + o)
/-- the data: bytes, not too many -/
structure Dt (l : List Int) : Prop where
  len : l.length ≤ 120000
  byte : ∀ x ∈ l, 0 ≤ x ∧ x < 256
theorem pow_small (j : Nat) : ((128 : Int) ^ j).natAbs < 2 ^ (7 * j + 1) := by
  have e : ((128 : Int) ^ j) = ((128 ^ j : Nat) : Int) := by simp
  rw [e, Int.natAbs_natCast]
  have e2 : (128 : Nat) ^ j = 2 ^ (7 * j) := by
    rw [Nat.pow_mul]
  rw [e2]
  exact Nat.pow_lt_pow_right (by decide) (by omega)
theorem cm {a : Int} {j : Nat} (ha : a.natAbs < 256) (hj : j ≤ 120001) : CMulW a ((128 : Int) ^ j) := wide_mul (a := 8) (b := 7 * j + 1) (by simpa using ha) (pow_small j) (by decide) (by omega) (by omega)
theorem cm' {j : Nat} (hj : j ≤ 120001) : CMulW ((128 : Int) ^ j) 128 := wide_mul (a := 7 * j + 1) (b := 8) (pow_small j) (by decide) (by omega) (by decide) (by omega)

section
variable {l : List Int} {k : Nat} {s : S}
theorem ix_ok (hs : s[k]? = some (C.lst (l.map D.int))) {a : Nat} {x : Int} (hx : l[a]? = some x) : oIx (.ref k) (.int (a : Int)) s = .ok (.int x) s :=
  oIx_lst hs (by rw [atI_nat, List.getElem?_map, hx]; rfl)
theorem len_ok (hs : s[k]? = some (C.lst (l.map D.int))) : cLen [.ref k] s = .ok (.int l.length) s := by
  rw [cLen_lst hs, List.length_map]
theorem byte_at_some (hs : s[k]? = some (C.lst (l.map D.int))) {a : Nat} {x : Int} (hx : l[a]? = some x) : F_byte_at [.ref k, .int (a : Int)] s = .ok (.int x) s := by
  have hl := (List.getElem?_eq_some_iff.mp hx).1
  have h : ¬ (l.length : Int) ≤ (a : Int) := by omega
  have e0 : F_byte_at [.ref k, .int (a : Int)] s = runO (B_byte_at [some (.ref k), some (.int (a : Int))] s) := by
    unfold F_byte_at
    rw [runF_eq (n := 2) rfl]
    rfl
  rw [e0]
  simp only [B_byte_at, e_seq, e_sif, e_op, e_var, e_call, e_cons, e_nil, List.getElem?_cons_zero, List.getElem?_cons_succ, rbind_ok, rto_ok, len_ok hs, oGe_int, h, decide_false, ifK_f, e_bnil, obind_nx, e_ret, ix_ok hs hx, runO_rt]
theorem byte_at_none (hs : s[k]? = some (C.lst (l.map D.int))) {a : Nat} (ha : l.length ≤ a) : F_byte_at [.ref k, .int (a : Int)] s = .exc "PackError" "at" (.int (l.length : Int)) s := by
  have h : (l.length : Int) ≤ (a : Int) := by omega
  have e0 : F_byte_at [.ref k, .int (a : Int)] s = runO (B_byte_at [some (.ref k), some (.int (a : Int))] s) := by
    unfold F_byte_at
    rw [runF_eq (n := 2) rfl]
    rfl
  rw [e0]
  simp only [B_byte_at, e_seq, e_sif, e_op, e_var, e_call, e_cons, e_nil, List.getElem?_cons_zero, List.getElem?_cons_succ, rbind_ok, rto_ok, len_ok hs, oGe_int, h, decide_true, ifK_t, e_raise, obind_ex, runO_ex]
theorem drop_head {a : Nat} {x : Int} {xs : List Int} (e : l.drop a = x :: xs) : l[a]? = some x ∧ l.drop (a + 1) = xs ∧ a < l.length := by
  have h1 : (l.drop a)[0]? = some x := by rw [e]; rfl
  rw [List.getElem?_drop] at h1
  have h2 : l.drop (a + 1) = xs := by
    rw [← List.drop_drop, e]
    rfl
  exact ⟨by simpa using h1, h2, (List.getElem?_eq_some_iff.mp (by simpa using h1)).1⟩
theorem drop_nil {a : Nat} (e : l.drop a = []) : l.length ≤ a := by
  have := congrArg List.length e
  rw [List.length_drop, List.length_nil] at this
  omega
noncomputable def restS : B := (bSeq (sIf (mAnd (mOp oEq (mOp oIx (mVar 0) (mVar 1)) (mC (.int 0))) (mOp oGt (mVar 1) (mVar 2)))
  (sRaise ("PackError" : Str) (mVar 1))
  bNil)
  (sRet (mTup (mCons (mOp oAdd (mVar 3) (mOp oMul (mOp oIx (mVar 0) (mVar 1)) (mVar 4))) (mCons (mOp oAdd (mVar 1) (mC (.int 1))) mNil)))))
theorem two_le : (2 : Nat) ≤ sizeLine := by rw [sizeL]; omega
theorem read_size_loop (D0 : Dt l) (hs : s[k]? = some (C.lst (l.map D.int))) (first : Nat) : ∀ (xs : List Int) (a fuel j : Nat) (n : Int), l.drop a = xs → a ≤ l.length → first ≤ a → j ≤ a → xs.length ≤ fuel →
    (whileK T_read_size1 W_read_size1 (fuel + 1) [some (.ref k), some (.int (a : Int)), some (.int (first : Int)), some (.int n), some (.int (128 ^ j))] s).bind restS
    = match rs (decide (a = first)) xs with
      | .ok m u => .rt (.tup [.int (n + m * 128 ^ j), .int ((a + u : Nat) : Int)]) s
      | .err o => .ex "PackError" "at" (.int ((a + o : Nat) : Int)) s
  | [], a, fuel, j, n, e, ha, hf, hj, hl => by
    have hb := drop_nil e
    have hc : T_read_size1 [some (.ref k), some (.int (a : Int)), some (.int (first : Int)), some (.int n), some (.int (128 ^ j))] s = .exc "PackError" "at" (.int (l.length : Int)) s := by
      simp only [T_read_size1, e_op, e_call, e_cons, e_nil, e_var, List.getElem?_cons_zero, List.getElem?_cons_succ, rbind_ok, byte_at_none hs hb, rbind_exc]
    have hw : whileK T_read_size1 W_read_size1 (fuel + 1) [some (.ref k), some (.int (a : Int)), some (.int (first : Int)), some (.int n), some (.int (128 ^ j))] s = .ex "PackError" "at" (.int (l.length : Int)) s := by
      show (T_read_size1 _ s).to _ = _
      rw [hc]
      rfl
    rw [hw]
    have : a = l.length := by omega
    subst this
    rfl
  | x :: xs, a, fuel, j, n, e, ha, hf, hj, hl => by
    obtain ⟨hx, hd, hlt⟩ := drop_head e
    obtain ⟨g, rfl⟩ : ∃ g, fuel = g + 1 := ⟨fuel - 1, by rw [List.length_cons] at hl; omega⟩
    have hbx := D0.byte x (List.mem_of_getElem? hx)
    have hz := D0.len
    by_cases h : 128 ≤ x
    · have hm := oMul_int (s := s) (cm (a := x - 128) (j := j) (by omega) (by omega))
      have hm2 := oMul_int (s := s) (cm' (j := j) (by omega))
      have hc : T_read_size1 [some (.ref k), some (.int (a : Int)), some (.int (first : Int)), some (.int n), some (.int (128 ^ j))] s = .ok (.bl true) s := by
        simp only [T_read_size1, e_op, e_call, e_cons, e_nil, e_var, e_c, List.getElem?_cons_zero, List.getElem?_cons_succ, rbind_ok, byte_at_some hs hx, oGe_int, h, decide_true]
      have hb : W_read_size1 [some (.ref k), some (.int (a : Int)), some (.int (first : Int)), some (.int n), some (.int (128 ^ j))] s = .nx [some (.ref k), some (.int ((a + 1 : Nat) : Int)), some (.int (first : Int)), some (.int (n + (x - 128) * 128 ^ j)), some (.int (128 ^ (j + 1)))] s := by
        have ea : ((a + 1 : Nat) : Int) = (a : Int) + 1 := by omega
        simp only [W_read_size1, e_seq, e_aug, e_set, e_op, e_var, e_c, List.getElem?_cons_zero, List.getElem?_cons_succ, rbind_ok, rto_ok, ix_ok hs hx, oSub_int, hm, oIadd_int, obind_nx, List.set_cons_succ, List.set_cons_zero, hm2, ea, Int.pow_succ]
      rw [while_nx hc hb, read_size_loop D0 hs first xs (a + 1) g (j + 1) _ hd (by omega) (by omega) (by omega) (by rw [List.length_cons] at hl; omega)]
      have hne : decide (a + 1 = first) = false := decide_eq_false (by omega)
      rw [hne]
      conv => rhs; unfold rs
      rw [if_pos h]
      cases rs false xs with
      | ok m u =>
        show O.rt (.tup [.int (n + (x - 128) * 128 ^ j + m * 128 ^ (j + 1)), .int ((a + 1 + u : Nat) : Int)]) s = O.rt (.tup [.int (n + (x - 128 + 128 * m) * 128 ^ j), .int ((a + (u + 1) : Nat) : Int)]) s
        have e1 : n + (x - 128) * 128 ^ j + m * 128 ^ (j + 1) = n + (x - 128 + 128 * m) * 128 ^ j := by
          rw [Int.pow_succ]
          grind
        rw [e1, show a + 1 + u = a + (u + 1) by omega]
      | err o =>
        show O.ex _ _ (.int ((a + 1 + o : Nat) : Int)) s = O.ex _ _ (.int ((a + (o + 1) : Nat) : Int)) s
        rw [show a + 1 + o = a + (o + 1) by omega]
    · have hc : T_read_size1 [some (.ref k), some (.int (a : Int)), some (.int (first : Int)), some (.int n), some (.int (128 ^ j))] s = .ok (.bl false) s := by
        simp only [T_read_size1, e_op, e_call, e_cons, e_nil, e_var, e_c, List.getElem?_cons_zero, List.getElem?_cons_succ, rbind_ok, byte_at_some hs hx, oGe_int, h, decide_false]
      have hm := oMul_int (s := s) (cm (a := x) (j := j) (by omega) (by omega))
      rw [while_f hc]
      unfold rs
      rw [if_neg h]
      by_cases h0 : x = 0
      · subst h0
        by_cases h1 : a = first
        · have hg : ¬ (first : Int) < (a : Int) := by omega
          rw [if_neg (by simp [h1])]
          simp only [obind_nx, restS, e_seq, e_sif, e_and, e_op, e_var, e_c, List.getElem?_cons_zero, List.getElem?_cons_succ, rbind_ok, rto_ok, ix_ok hs hx, oEq_int, decide_true, oGt_int, hg, decide_false, ifK_f, e_bnil, e_ret, e_tup, e_cons, e_nil, hm, oAdd_int, List.length_cons, List.length_nil, Nat.zero_add, Nat.reduceAdd, two_le, if_true]
          rfl
        · have hg : (first : Int) < (a : Int) := by omega
          rw [if_pos (by simp [h1])]
          simp only [obind_nx, restS, e_seq, e_sif, e_and, e_op, e_var, e_c, List.getElem?_cons_zero, List.getElem?_cons_succ, rbind_ok, rto_ok, ix_ok hs hx, oEq_int, decide_true, oGt_int, hg, ifK_t, e_raise, obind_ex]
          rfl
      · rw [if_neg (fun z => h0 z.1)]
        simp only [obind_nx, restS, e_seq, e_sif, e_and, e_op, e_var, e_c, List.getElem?_cons_zero, List.getElem?_cons_succ, rbind_ok, rto_ok, ix_ok hs hx, oEq_int, h0, decide_false, ifK_f, e_bnil, e_ret, e_tup, e_cons, e_nil, hm, oAdd_int, List.length_cons, List.length_nil, Nat.zero_add, Nat.reduceAdd, two_le, if_true]
        rfl
theorem read_size_ok (D0 : Dt l) (hs : s[k]? = some (C.lst (l.map D.int))) {a : Nat} (ha : a ≤ l.length) : F_read_size [.ref k, .int (a : Int)] s = match rs true (l.drop a) with
      | .ok m u => .ok (.tup [.int m, .int ((a + u : Nat) : Int)]) s
      | .err o => .exc "PackError" "at" (.int ((a + o : Nat) : Int)) s := by
  have e0 : F_read_size [.ref k, .int (a : Int)] s = runO (B_read_size [some (.ref k), some (.int (a : Int)), none, none, none] s) := by
    unfold F_read_size
    rw [runF_eq (n := 2) rfl]
    rfl
  have hz := D0.len
  have hw' : wf - 1 + 1 = wf := by unfold wf; rfl
  have h := read_size_loop D0 hs a (l.drop a) a (wf - 1) 0 0 rfl ha (Nat.le_refl _) (Nat.zero_le _) (by rw [List.length_drop]; unfold wf; omega)
  rw [hw', decide_eq_true rfl] at h
  rw [e0]
  have e1 : B_read_size [some (.ref k), some (.int (a : Int)), none, none, none] s = (whileK T_read_size1 W_read_size1 wf [some (.ref k), some (.int (a : Int)), some (.int (a : Int)), some (.int 0), some (.int (128 ^ 0))] s).bind restS := by
    rw [show B_read_size = bSeq (sPar3 2 3 4 (mCons (mVar 1) (mCons (mC (.int 0)) (mCons (mC (.int 1)) mNil)))) (bSeq (whileK T_read_size1 W_read_size1 wf) restS) from rfl]
    simp only [e_seq, e_par3, e_cons, e_nil, e_var, e_c, List.getElem?_cons_zero, List.getElem?_cons_succ, rbind_ok, rto_ok, e_par3K, List.set_cons_succ, List.set_cons_zero, obind_nx]
    rfl
  rw [e1, h]
  cases rs true (l.drop a) with
  | ok m u =>
    show R.ok (D.tup [.int (0 + m * 128 ^ 0), .int ((a + u : Nat) : Int)]) s = R.ok (D.tup [.int m, .int ((a + u : Nat) : Int)]) s
    rw [Int.pow_zero, Int.mul_one, Int.zero_add]
  | err o => rfl
end
end G85
end Mi
namespace Mi
namespace G85
open PySem PySem.Spec PyProof.Rows L2

theorem e_gTp2 {i j : Nat} {x y : D} {ε : Ev} : gTp 2 (gsCons (gN i) (gsCons (gN j) gsNil)) (.tup [x, y]) ε = some ((ε.set i (some x)).set j (some y)) := rfl
theorem str_app (cs : List Nat) (c : Nat) : (⟨cs.toArray⟩ : Str) ++ (⟨#[c]⟩ : Str) = ⟨(cs ++ [c]).toArray⟩ := by
  show (⟨cs.toArray ++ #[c]⟩ : Str) = _
  congr 1
  simp
theorem PRINTED_eq : s_PRINTED.cps.toList = ((List.range 95).map (· + 32)).set 5 32 := by decide +kernel
theorem PRINTED_len : s_PRINTED.length ≤ sizeLine := by
  rw [sizeL]
  decide +kernel
theorem isSign_of {x : Int} (h : isSign x = true) : x = 10 ∨ (32 ≤ x ∧ x ≤ 126 ∧ x ≠ 37) := by
  unfold isSign at h
  by_cases h1 : x = 10
  · exact .inl h1
  · right
    simp [h1] at h
    omega
theorem printed_at {x : Int} (h : isSign x = true) (h1 : ¬ x = 10) (s : S) : oIx (.str s_PRINTED) (.int (x - 32)) s = .ok (.str ⟨#[x.toNat]⟩) s := by
  rcases isSign_of h with h2 | ⟨h2, h3, h4⟩
  · exact absurd h2 h1
  · have e : atI s_PRINTED.cps.toList (x - 32) = some x.toNat := by
      have : x - 32 = (((x - 32).toNat : Nat) : Int) := by omega
      rw [this, atI_nat, PRINTED_eq, List.getElem?_set_ne (by omega), List.getElem?_map, List.getElem?_range (by omega)]
      show some ((x - 32).toNat + 32) = some x.toNat
      congr 1
      omega
    show (if s_PRINTED.length ≤ sizeLine then (match atI s_PRINTED.cps.toList (x - 32) with
      | some c => R.ok (D.str ⟨#[c]⟩) s
      | none => R.bad) else R.bad) = _
    rw [if_pos PRINTED_len, e]
section
variable {l : List Int} {k : Nat} {s : S}
theorem read_text_loop (D0 : Dt l) (hs : s[k]? = some (C.lst (l.map D.int))) (M : Option D) : ∀ (m : Nat) (lo : Int) (xs : List Int) (a : Nat) (cs : List Nat) (o : Option D), l.drop a = xs → a ≤ l.length → cs.length ≤ a →
    match rt m xs with
    | .ok ds => ∃ o', loop none (gN 4) W_read_text1 (rngL lo m) [some (.ref k), some (.int (a : Int)), M, some (.str ⟨cs.toArray⟩), o] s = .nx [some (.ref k), some (.int ((a + ds.length : Nat) : Int)), M, some (.str ⟨(cs ++ ds).toArray⟩), o'] s
    | .err e => loop none (gN 4) W_read_text1 (rngL lo m) [some (.ref k), some (.int (a : Int)), M, some (.str ⟨cs.toArray⟩), o] s = .ex "PackError" "at" (.int ((a + e : Nat) : Int)) s
  | 0, lo, xs, a, cs, o, e, ha, hc => by
    refine ⟨o, (loop_nil (g := none) trivial).trans ?_⟩
    rw [List.append_nil]
    rfl
  | m + 1, lo, [], a, cs, o, e, ha, hc => by
    have hb := drop_nil e
    have hl : a = l.length := by omega
    show loop none (gN 4) W_read_text1 (rngL lo (m + 1)) _ s = _
    rw [show rngL lo (m + 1) = .int lo :: rngL (lo + 1) m from rfl, loop_cons (g := none) trivial (gN_eq _ _ _)]
    have hw : W_read_text1 ([some (.ref k), some (.int (a : Int)), M, some (.str ⟨cs.toArray⟩), o].set 4 (some (.int lo))) s = .ex "PackError" "at" (.int (l.length : Int)) s := by
      simp only [List.set_cons_succ, List.set_cons_zero, W_read_text1, e_seq, e_sif, e_not, e_call, e_cons, e_nil, e_var, List.getElem?_cons_zero, List.getElem?_cons_succ, rbind_ok, byte_at_none hs hb, rbind_exc, rto_exc, obind_ex]
    rw [hw, hl]
    rfl
  | m + 1, lo, x :: xs, a, cs, o, e, ha, hc => by
    obtain ⟨hx, hd, hlt⟩ := drop_head e
    have hbx := D0.byte x (List.mem_of_getElem? hx)
    have hz := D0.len
    rw [show rngL lo (m + 1) = .int lo :: rngL (lo + 1) m from rfl]
    simp only [rt]
    by_cases h : isSign x = true
    · rw [if_pos h]
      have hch : (mIf (mOp oEq (mOp oIx (mVar 0) (mVar 1)) (mC (.int 10))) (mC (.str ("\n" : Str))) (mOp oIx (mC (.str s_PRINTED)) (mOp oSub (mOp oIx (mVar 0) (mVar 1)) (mC (.int 32))))) [some (.ref k), some (.int (a : Int)), M, some (.str ⟨cs.toArray⟩), some (.int lo)] s = .ok (.str ⟨#[x.toNat]⟩) s := by
        by_cases h1 : x = 10
        · subst h1
          simp only [e_if, e_op, e_var, e_c, List.getElem?_cons_zero, List.getElem?_cons_succ, rbind_ok, ix_ok hs hx, oEq_int, decide_true]
          rfl
        · simp only [e_if, e_op, e_var, e_c, List.getElem?_cons_zero, List.getElem?_cons_succ, rbind_ok, ix_ok hs hx, oEq_int, h1, decide_false, oSub_int, printed_at h h1]
      have hp : oIadd (.str ⟨cs.toArray⟩) (.str ⟨#[x.toNat]⟩) s = .ok (.str ⟨(cs ++ [x.toNat]).toArray⟩) s := by
        rw [oIadd_str (by show cs.toArray.size + 1 ≤ sizeLine; rw [sizeL]; simp; omega), str_app]
      have hw : W_read_text1 ([some (.ref k), some (.int (a : Int)), M, some (.str ⟨cs.toArray⟩), o].set 4 (some (.int lo))) s = .nx [some (.ref k), some (.int ((a + 1 : Nat) : Int)), M, some (.str ⟨(cs ++ [x.toNat]).toArray⟩), some (.int lo)] s := by
        have ea : ((a + 1 : Nat) : Int) = (a : Int) + 1 := by omega
        rw [show W_read_text1 = (bSeq (sIf (mNot (mCall F_is_sign (mCons (mCall F_byte_at (mCons (mVar 0) (mCons (mVar 1) mNil))) mNil))) (sRaise ("PackError" : Str) (mVar 1)) bNil)
          (bSeq (sAug oIadd 3 (mIf (mOp oEq (mOp oIx (mVar 0) (mVar 1)) (mC (.int 10))) (mC (.str ("\n" : Str))) (mOp oIx (mC (.str s_PRINTED)) (mOp oSub (mOp oIx (mVar 0) (mVar 1)) (mC (.int 32)))))) (sAug oIadd 1 (mC (.int 1))))) from rfl]
        generalize (mIf (mOp oEq (mOp oIx (mVar 0) (mVar 1)) (mC (.int 10))) (mC (.str ("\n" : Str))) (mOp oIx (mC (.str s_PRINTED)) (mOp oSub (mOp oIx (mVar 0) (mVar 1)) (mC (.int 32))))) = ch at hch
        simp only [List.set_cons_succ, List.set_cons_zero, e_seq, e_sif, e_not, e_call, e_cons, e_nil, e_var, e_c, List.getElem?_cons_zero, List.getElem?_cons_succ, rbind_ok, rto_ok, byte_at_some hs hx, is_sign_ok, h, Bool.not_true, ifK_f, e_bnil, obind_nx, e_aug, hch, hp, oIadd_int, ea]
      rw [loop_cons (g := none) trivial (gN_eq _ _ _), hw]
      have ih := read_text_loop D0 hs M m (lo + 1) xs (a + 1) (cs ++ [x.toNat]) (some (.int lo)) hd (by omega) (by rw [List.length_append, List.length_singleton]; omega)
      cases e2 : rt m xs with
      | ok ds =>
        rw [e2] at ih
        obtain ⟨o', ih⟩ := ih
        refine ⟨o', ih.trans ?_⟩
        rw [List.append_assoc, List.length_cons, show a + 1 + ds.length = a + (ds.length + 1) by omega]
        rfl
      | err q =>
        rw [e2] at ih
        refine ih.trans ?_
        rw [show a + 1 + q = a + (q + 1) by omega]
    · rw [if_neg h]
      have hw : W_read_text1 ([some (.ref k), some (.int (a : Int)), M, some (.str ⟨cs.toArray⟩), o].set 4 (some (.int lo))) s = .ex "PackError" "at" (.int (a : Int)) s := by
        simp only [List.set_cons_succ, List.set_cons_zero, W_read_text1, e_seq, e_sif, e_not, e_call, e_cons, e_nil, e_var, List.getElem?_cons_zero, List.getElem?_cons_succ, rbind_ok, rto_ok, byte_at_some hs hx, is_sign_ok, h, Bool.not_false, ifK_t, e_raise, obind_ex]
      show loop none (gN 4) W_read_text1 _ _ s = _
      rw [loop_cons (g := none) trivial (gN_eq _ _ _), hw]
      rfl
theorem rs_used : ∀ (xs : List Int) (f : Bool) (m : Int) (u : Nat), rs f xs = .ok m u → 1 ≤ u ∧ u ≤ xs.length
  | [], f, m, u, h => by cases h
  | x :: xs, f, m, u, h => by
    unfold rs at h
    split at h
    · split at h
      · rename_i n w e
        cases h
        have := rs_used xs false n w e
        rw [List.length_cons]
        omega
      · cases h
    · split at h
      · cases h
      · cases h
        rw [List.length_cons]
        omega
theorem rs_err : ∀ (xs : List Int) (f : Bool) (o : Nat), rs f xs = .err o → o ≤ xs.length
  | [], f, o, h => by cases h; exact Nat.le_refl _
  | x :: xs, f, o, h => by
    unfold rs at h
    split at h
    · split at h
      · cases h
      · rename_i o' e
        cases h
        have := rs_err xs false o' e
        rw [List.length_cons]
        omega
    · split at h
      · cases h
        omega
      · cases h
theorem read_text_ok (D0 : Dt l) (hs : s[k]? = some (C.lst (l.map D.int))) {a : Nat} (ha : a ≤ l.length) : F_read_text [.ref k, .int (a : Int)] s = match rs true (l.drop a) with
      | .err o => .exc "PackError" "at" (.int ((a + o : Nat) : Int)) s
      | .ok m u => match rt m.toNat (l.drop (a + u)) with
        | .ok cs => .ok (.tup [.str ⟨cs.toArray⟩, .int ((a + u + cs.length : Nat) : Int)]) s
        | .err o => .exc "PackError" "at" (.int ((a + u + o : Nat) : Int)) s := by
  have e0 : F_read_text [.ref k, .int (a : Int)] s = runO (B_read_text [some (.ref k), some (.int (a : Int)), none, none, none] s) := by
    unfold F_read_text
    rw [runF_eq (n := 2) rfl]
    rfl
  have hS := read_size_ok D0 hs ha
  rw [e0]
  cases e : rs true (l.drop a) with
  | err o =>
    rw [e] at hS
    have hS : F_read_size [.ref k, .int (a : Int)] s = .exc "PackError" "at" (.int ((a + o : Nat) : Int)) s := hS
    simp only [B_read_text, e_seq, e_tg, e_call, e_cons, e_nil, e_var, List.getElem?_cons_zero, List.getElem?_cons_succ, rbind_ok, hS, rto_exc, obind_ex, runO_ex]
  | ok m u =>
    rw [e] at hS
    have hS : F_read_size [.ref k, .int (a : Int)] s = .ok (.tup [.int m, .int ((a + u : Nat) : Int)]) s := hS
    have hu := rs_used _ _ _ _ e
    rw [List.length_drop] at hu
    have hL := read_text_loop D0 hs (some (.int m)) m.toNat 0 (l.drop (a + u)) (a + u) [] none rfl (by omega) (Nat.zero_le _)
    have es : ("" : Str) = ⟨([] : List Nat).toArray⟩ := by decide +kernel
    simp only [B_read_text, e_seq, e_tg, e_set, e_c, e_call, e_cons, e_nil, e_var, List.getElem?_cons_zero, List.getElem?_cons_succ, rbind_ok, rto_ok, hS, e_gTp2, List.set_cons_succ, List.set_cons_zero, obind_nx, e_for, e_rng1, e_rngK1, es]
    cases e2 : rt m.toNat (l.drop (a + u)) with
    | ok cs =>
      rw [e2] at hL
      obtain ⟨o', hL⟩ := hL
      rw [hL]
      simp only [obind_nx, e_ret, e_tup, e_cons, e_nil, e_var, List.getElem?_cons_zero, List.getElem?_cons_succ, rbind_ok, List.length_cons, List.length_nil, Nat.zero_add, Nat.reduceAdd, two_le, if_true, rto_ok, runO_rt, List.nil_append]
    | err o =>
      rw [e2] at hL
      rw [hL]
      rfl
end
end G85
end Mi
namespace Mi
namespace G85
open PySem PySem.Spec PyProof.Rows L2

theorem rt_used : ∀ (m : Nat) (xs : List Int) (cs : List Nat), rt m xs = .ok cs → cs.length ≤ xs.length
  | 0, xs, cs, h => by
    cases h
    exact Nat.zero_le _
  | m + 1, [], cs, h => by cases h
  | m + 1, x :: xs, cs, h => by
    unfold rt at h
    split at h
    · split at h
      · rename_i cs' e
        cases h
        have := rt_used m xs cs' e
        rw [List.length_cons, List.length_cons]
        omega
      · cases h
    · cases h
theorem rps_used {f : List Int → RP} (hf : ∀ xs v u, f xs = .ok v u → 1 ≤ u ∧ u ≤ xs.length) : ∀ (m : Nat) (xs : List Int) (vs : List D) (w : Nat), rps f m xs = .ok vs w → vs.length ≤ w ∧ w ≤ xs.length
  | 0, xs, vs, w, h => by
    cases h
    exact ⟨Nat.le_refl _, Nat.zero_le _⟩
  | m + 1, xs, vs, w, h => by
    unfold rps at h
    split at h
    · cases h
    · rename_i v u e
      split at h
      · rename_i vs' w' e2
        cases h
        have h1 := hf _ _ _ e
        have h2 := rps_used hf m _ _ _ e2
        rw [List.length_drop] at h2
        rw [List.length_cons]
        omega
      · cases h
theorem rp_used : ∀ (j d : Nat) (xs : List Int) (v : D) (u : Nat), rp j d xs = .ok v u → 1 ≤ u ∧ u ≤ xs.length
  | 0, d, xs, v, u, h => by cases h
  | j + 1, d, [], v, u, h => by cases h
  | j + 1, d, c :: xs, v, u, h => by
    simp only [rp] at h
    split at h
    · cases h
    · split at h
      · cases h
        rw [List.length_cons]
        omega
      · split at h
        · cases h
        · split at h
          · cases h
          · rename_i n w e
            have h1 := rs_used _ _ _ _ e
            split at h
            · cases h
              rw [List.length_cons]
              omega
            · split at h
              · cases h
                rw [List.length_cons]
                omega
              · split at h
                · split at h
                  · rename_i cs e2
                    cases h
                    have h2 := rt_used _ _ _ e2
                    rw [List.length_drop] at h2
                    rw [List.length_cons]
                    omega
                  · cases h
                · split at h
                  · rename_i vs w2 e2
                    cases h
                    have h2 := rps_used (fun xs v u => rp_used j (d + 1) xs v u) _ _ _ _ e2
                    rw [List.length_drop] at h2
                    rw [List.length_cons]
                    omega
                  · cases h
def RdOk (r : R D) (s : S) (a : Nat) : RP → Prop
  | .ok v u => ∃ s', r = .ok (.tup [v, .int ((a + u : Nat) : Int)]) s' ∧ Pre s s'
  | .err o => ∃ s', r = .exc "PackError" "at" (.int ((a + o : Nat) : Int)) s' ∧ Pre s s'
theorem cTuple_lst {p : Nat} {ds : List D} {s : S} (h : s[p]? = some (C.lst ds)) : cTuple [.ref p] s = .ok (.tup ds) s := by
  show (match s[p]? with | some (.lst ds) => R.ok (D.tup ds) s | _ => R.bad) = _
  rw [h]
section
variable {l : List Int} {k : Nat}
theorem read_parts_loop (D0 : Dt l) (F : List D → S → R D) (f : List Int → RP) (hu : ∀ xs v u, f xs = .ok v u → 1 ≤ u ∧ u ≤ xs.length) (d : Nat) (M : Option D) (s0 : S) (p : Nat) (hp : s0.length ≤ p)
    (ih : ∀ (a : Nat) (s : S), s[k]? = some (C.lst (l.map D.int)) → a ≤ l.length → RdOk (F [.ref k, .int (a : Int), .int ((d + 1 : Nat) : Int)] s) s a (f (l.drop a))) :
    ∀ (m : Nat) (lo : Int) (a : Nat) (vs : List D) (o5 o6 : Option D) (s : S), s[k]? = some (C.lst (l.map D.int)) → k ≠ p → Pre s0 s → s[p]? = some (C.lst vs) → a ≤ l.length → vs.length ≤ a →
    match rps f m (l.drop a) with
    | .ok ws w => ∃ o5' o6' s', loop none (gN 5) (W_read_parts1 F) (rngL lo m) [some (.ref k), some (.int (a : Int)), some (.int (d : Int)), M, some (.ref p), o5, o6] s = .nx [some (.ref k), some (.int ((a + w : Nat) : Int)), some (.int (d : Int)), M, some (.ref p), o5', o6'] s' ∧ Pre s0 s' ∧ s'[p]? = some (C.lst (vs ++ ws))
    | .err o => ∃ s', loop none (gN 5) (W_read_parts1 F) (rngL lo m) [some (.ref k), some (.int (a : Int)), some (.int (d : Int)), M, some (.ref p), o5, o6] s = .ex "PackError" "at" (.int ((a + o : Nat) : Int)) s' ∧ Pre s0 s'
  | 0, lo, a, vs, o5, o6, s, hs, hkp, hpr, hv, ha, hl => by
    refine ⟨o5, o6, s, loop_nil (g := none) trivial, hpr, ?_⟩
    rw [List.append_nil]
    exact hv
  | m + 1, lo, a, vs, o5, o6, s, hs, hkp, hpr, hv, ha, hl => by
    rw [show rngL lo (m + 1) = .int lo :: rngL (lo + 1) m from rfl, loop_cons (g := none) trivial (gN_eq _ _ _)]
    have h1 := ih a s hs ha
    have ed : ((d : Int) + 1) = ((d + 1 : Nat) : Int) := by omega
    simp only [rps]
    cases e : f (l.drop a) with
    | err o =>
      rw [e] at h1
      obtain ⟨s', h1, hp'⟩ := h1
      have hw : W_read_parts1 F ([some (.ref k), some (.int (a : Int)), some (.int (d : Int)), M, some (.ref p), o5, o6].set 5 (some (.int lo))) s = .ex "PackError" "at" (.int ((a + o : Nat) : Int)) s' := by
        simp only [List.set_cons_succ, List.set_cons_zero]
        simp only [W_read_parts1, e_seq, e_tg, e_call, e_cons, e_nil, e_var, e_op, e_c, List.getElem?_cons_zero, List.getElem?_cons_succ, rbind_ok, rto_exc, oAdd_int, ed, h1, obind_ex]
      rw [hw]
      exact ⟨s', rfl, hpr.trans hp'⟩
    | ok v u =>
      rw [e] at h1
      obtain ⟨s', h1, hp'⟩ := h1
      have hu1 := hu _ _ _ e
      rw [List.length_drop] at hu1
      have hz := D0.len
      have hv' := hp' _ _ hv
      have hap := oApp_ok (d := v) hv' (by rw [sizeL]; omega)
      have hw : W_read_parts1 F ([some (.ref k), some (.int (a : Int)), some (.int (d : Int)), M, some (.ref p), o5, o6].set 5 (some (.int lo))) s = .nx [some (.ref k), some (.int ((a + u : Nat) : Int)), some (.int (d : Int)), M, some (.ref p), some (.int lo), some v] (s'.set p (C.lst (vs ++ [v]))) := by
        simp only [List.set_cons_succ, List.set_cons_zero]
        simp only [W_read_parts1, e_seq, e_tg, e_call, e_cons, e_nil, e_var, e_op, e_c, List.getElem?_cons_zero, List.getElem?_cons_succ, rbind_ok, rto_ok, oAdd_int, ed, h1, e_gTp2, List.set_cons_succ, List.set_cons_zero, obind_nx, e_expr, e_meth, isLst_ok hv', if_true, hap]
      rw [hw]
      have hs2 : (s'.set p (C.lst (vs ++ [v])))[k]? = some (C.lst (l.map D.int)) := by
        rw [set_get, if_neg (Ne.symm hkp)]
        exact hp' _ _ hs
      have h2 := read_parts_loop D0 F f hu d M s0 p hp ih m (lo + 1) (a + u) (vs ++ [v]) (some (.int lo)) (some v) (s'.set p (C.lst (vs ++ [v]))) hs2 hkp ((hpr.trans hp').set hp) (set_at hv') (by omega) (by rw [List.length_append, List.length_singleton]; omega)
      simp only [List.drop_drop]
      cases e2 : rps f m (l.drop (a + u)) with
      | err o =>
        rw [e2] at h2
        obtain ⟨s2, h2, h3⟩ := h2
        refine ⟨s2, ?_, h3⟩
        rw [h2, Nat.add_assoc]
      | ok ws w =>
        rw [e2] at h2
        obtain ⟨o5', o6', s2, h2, h3, h4⟩ := h2
        refine ⟨o5', o6', s2, ?_, h3, ?_⟩
        · rw [h2, Nat.add_assoc]
        · rw [h4, List.append_assoc]
          rfl
theorem read_plain_ok (D0 : Dt l) : ∀ (j d a : Nat) (s : S), 1 ≤ j → 61 ≤ j + d → s[k]? = some (C.lst (l.map D.int)) → a ≤ l.length → RdOk (F_read_plain j [.ref k, .int (a : Int), .int (d : Int)] s) s a (rp j d (l.drop a))
  | 0, _, _, _, h, _, _, _ => absurd h (by omega)
  | j + 1, d, a, s, hj, hjd, hs, ha => by
    have e0 : F_read_plain (j + 1) [.ref k, .int (a : Int), .int (d : Int)] s = runO (B_read_plain (runF 3 7 (B_read_parts (F_read_plain j))) [some (.ref k), some (.int (a : Int)), some (.int (d : Int)), none, none] s) := by
      show runF 3 5 _ _ _ = _
      rw [runF_eq (n := 3) rfl]
      rfl
    rw [e0]
    cases hxs : l.drop a with
    | nil =>
      have hb := drop_nil hxs
      obtain rfl : a = l.length := by omega
      refine ⟨s, ?_, Pre.refl⟩
      simp only [B_read_plain, e_seq, e_set, e_call, e_cons, e_nil, e_var, List.getElem?_cons_zero, List.getElem?_cons_succ, rbind_ok, byte_at_none hs hb, rto_exc, obind_ex, runO_ex, Nat.add_zero]
    | cons c xs =>
      obtain ⟨hx, hd, hlt⟩ := drop_head hxs
      have hbx := D0.byte c (List.mem_of_getElem? hx)
      have hz := D0.len
      have ea : (a : Int) + 1 = ((a + 1 : Nat) : Int) := by omega
      simp only [rp]
      by_cases h6 : 6 < c
      · rw [if_pos h6]
        refine ⟨s, ?_, Pre.refl⟩
        simp only [B_read_plain, e_seq, e_set, e_sif, e_op, e_c, e_call, e_cons, e_nil, e_var, List.getElem?_cons_zero, List.getElem?_cons_succ, rbind_ok, byte_at_some hs hx, rto_ok, obind_nx, List.set_cons_succ, List.set_cons_zero, oGt_int, h6, decide_true, ifK_t, e_raise, obind_ex, runO_ex, Nat.add_zero]
      · rw [if_neg h6]
        by_cases h3 : c < 3
        · rw [if_pos h3]
          refine ⟨s, ?_, Pre.refl⟩
          have hix : oIx (.tup [.non, .bl false, .bl true]) (.int c) s = .ok (small c) s := by
            have : c = 0 ∨ c = 1 ∨ c = 2 := by omega
            rcases this with rfl | rfl | rfl <;> rfl
          have th : 3 ≤ sizeLine := by rw [sizeL]; omega
          simp only [B_read_plain, e_seq, e_set, e_sif, e_op, e_c, e_call, e_cons, e_nil, e_var, List.getElem?_cons_zero, List.getElem?_cons_succ, rbind_ok, byte_at_some hs hx, rto_ok, obind_nx, List.set_cons_succ, List.set_cons_zero, oGt_int, h6, decide_false, ifK_f, e_bnil, e_aug, oIadd_int, oLt_int, h3, decide_true, ifK_t, e_ret, e_tup, List.length_cons, List.length_nil, Nat.zero_add, Nat.reduceAdd, th, if_true, hix, two_le, obind_rt, runO_rt, ea]
        · rw [if_neg h3]
          have hS := read_size_ok D0 hs (a := a + 1) (by omega)
          rw [hd] at hS
          have hcc : c = 3 ∨ c = 4 ∨ c = 5 ∨ c = 6 := by omega
          rcases hcc with rfl | rfl | rfl | rfl
          · -- 3
            rw [if_neg (by omega)]
            cases e : rs true xs with
            | err o =>
              rw [e] at hS
              have hS : F_read_size [.ref k, .int ((a + 1 : Nat) : Int)] s = .exc "PackError" "at" (.int ((a + 1 + o : Nat) : Int)) s := hS
              refine ⟨s, ?_, Pre.refl⟩
              simp only [B_read_plain, e_seq, e_set, e_sif, e_op, e_c, e_call, e_cons, e_nil, e_var, List.getElem?_cons_zero, List.getElem?_cons_succ, rbind_ok, byte_at_some hs hx, rto_ok, obind_nx, List.set_cons_succ, List.set_cons_zero, oGt_int, h6, decide_false, ifK_f, e_bnil, e_aug, oIadd_int, oLt_int, h3, ea, oEq_int, e_tg, hS, rto_exc, obind_ex, runO_ex, Nat.add_comm o 1, Nat.add_assoc, show ((3 : Int) = 5) = False from by simp, show ((3 : Int) = 6) = False from by simp]
            | ok n u =>
              rw [e] at hS
              have hS : F_read_size [.ref k, .int ((a + 1 : Nat) : Int)] s = .ok (.tup [.int n, .int ((a + 1 + u : Nat) : Int)]) s := hS
              refine ⟨s, ?_, Pre.refl⟩
              simp only [B_read_plain, e_seq, e_set, e_sif, e_op, e_c, e_call, e_cons, e_nil, e_var, List.getElem?_cons_zero, List.getElem?_cons_succ, rbind_ok, byte_at_some hs hx, rto_ok, obind_nx, List.set_cons_succ, List.set_cons_zero, oGt_int, h6, decide_false, ifK_f, e_bnil, e_aug, oIadd_int, oLt_int, h3, ea, oEq_int, e_tg, hS, e_gTp2, e_ret, e_tup, e_if, decide_true, List.length_cons, List.length_nil, Nat.zero_add, Nat.reduceAdd, two_le, if_true, runO_rt, Nat.add_assoc, show ((3 : Int) = 5) = False from by simp, show ((3 : Int) = 6) = False from by simp]
          · -- 4
            rw [if_neg (by omega)]
            cases e : rs true xs with
            | err o =>
              rw [e] at hS
              have hS : F_read_size [.ref k, .int ((a + 1 : Nat) : Int)] s = .exc "PackError" "at" (.int ((a + 1 + o : Nat) : Int)) s := hS
              refine ⟨s, ?_, Pre.refl⟩
              simp only [B_read_plain, e_seq, e_set, e_sif, e_op, e_c, e_call, e_cons, e_nil, e_var, List.getElem?_cons_zero, List.getElem?_cons_succ, rbind_ok, byte_at_some hs hx, rto_ok, obind_nx, List.set_cons_succ, List.set_cons_zero, oGt_int, h6, decide_false, ifK_f, e_bnil, e_aug, oIadd_int, oLt_int, h3, ea, oEq_int, e_tg, hS, rto_exc, obind_ex, runO_ex, Nat.add_comm o 1, Nat.add_assoc, show ((4 : Int) = 5) = False from by simp, show ((4 : Int) = 6) = False from by simp]
            | ok n u =>
              rw [e] at hS
              have hS : F_read_size [.ref k, .int ((a + 1 : Nat) : Int)] s = .ok (.tup [.int n, .int ((a + 1 + u : Nat) : Int)]) s := hS
              dsimp only
              rw [if_neg (by omega), if_pos rfl]
              refine ⟨s, ?_, Pre.refl⟩
              simp only [B_read_plain, e_seq, e_set, e_sif, e_op, e_c, e_call, e_cons, e_nil, e_var, List.getElem?_cons_zero, List.getElem?_cons_succ, rbind_ok, byte_at_some hs hx, rto_ok, obind_nx, List.set_cons_succ, List.set_cons_zero, oGt_int, h6, decide_false, ifK_f, e_bnil, e_aug, oIadd_int, oLt_int, h3, ea, oEq_int, e_tg, hS, e_gTp2, e_ret, e_tup, e_if, e_neg, oSub_int, List.length_cons, List.length_nil, Nat.zero_add, Nat.reduceAdd, two_le, if_true, runO_rt, Nat.add_assoc, show ((4 : Int) = 5) = False from by simp, show ((4 : Int) = 6) = False from by simp, show ((4 : Int) = 3) = False from by simp]
          · -- 5
            rw [if_neg (by omega)]
            have hT := read_text_ok D0 hs (a := a + 1) (by omega)
            rw [hd] at hT
            cases e : rs true xs with
            | err o =>
              rw [e] at hT
              have hT : F_read_text [.ref k, .int ((a + 1 : Nat) : Int)] s = .exc "PackError" "at" (.int ((a + 1 + o : Nat) : Int)) s := hT
              refine ⟨s, ?_, Pre.refl⟩
              simp only [B_read_plain, e_seq, e_set, e_sif, e_op, e_c, e_call, e_cons, e_nil, e_var, List.getElem?_cons_zero, List.getElem?_cons_succ, rbind_ok, byte_at_some hs hx, rto_ok, obind_nx, List.set_cons_succ, List.set_cons_zero, oGt_int, h6, decide_false, decide_true, ifK_f, ifK_t, e_bnil, e_aug, oIadd_int, oLt_int, h3, ea, oEq_int, e_ret, hT, rto_exc, obind_ex, runO_ex, Nat.add_comm o 1, Nat.add_assoc]
            | ok n u =>
              rw [e] at hT
              have hdd : l.drop (a + 1 + u) = xs.drop u := by rw [← hd, List.drop_drop]
              simp only [hdd] at hT
              dsimp only
              rw [if_neg (by omega), if_neg (by omega), if_pos rfl]
              cases e2 : rt n.toNat (xs.drop u) with
              | ok cs =>
                simp only [e2] at hT
                refine ⟨s, ?_, Pre.refl⟩
                simp only [B_read_plain, e_seq, e_set, e_sif, e_op, e_c, e_call, e_cons, e_nil, e_var, List.getElem?_cons_zero, List.getElem?_cons_succ, rbind_ok, byte_at_some hs hx, rto_ok, obind_nx, List.set_cons_succ, List.set_cons_zero, oGt_int, h6, decide_false, decide_true, ifK_f, ifK_t, e_bnil, e_aug, oIadd_int, oLt_int, h3, ea, oEq_int, e_ret, hT, obind_rt, runO_rt, Nat.add_assoc]
              | err o =>
                simp only [e2] at hT
                refine ⟨s, ?_, Pre.refl⟩
                simp only [B_read_plain, e_seq, e_set, e_sif, e_op, e_c, e_call, e_cons, e_nil, e_var, List.getElem?_cons_zero, List.getElem?_cons_succ, rbind_ok, byte_at_some hs hx, rto_ok, obind_nx, List.set_cons_succ, List.set_cons_zero, oGt_int, h6, decide_false, decide_true, ifK_f, ifK_t, e_bnil, e_aug, oIadd_int, oLt_int, h3, ea, oEq_int, e_ret, hT, rto_exc, obind_ex, runO_ex, Nat.add_assoc]
          · -- 6
            have e1 : runF 3 7 (B_read_parts (F_read_plain j)) [.ref k, .int ((a + 1 : Nat) : Int), .int (d : Int)] s = runO (B_read_parts (F_read_plain j) [some (.ref k), some (.int ((a + 1 : Nat) : Int)), some (.int (d : Int)), none, none, none, none] s) := by
              rw [runF_eq (n := 3) rfl]
              rfl
            have tail : ∀ r : R D, runF 3 7 (B_read_parts (F_read_plain j)) [.ref k, .int ((a + 1 : Nat) : Int), .int (d : Int)] s = r → runO (B_read_plain (runF 3 7 (B_read_parts (F_read_plain j))) [some (.ref k), some (.int (a : Int)), some (.int (d : Int)), none, none] s) = runO (((r.to fun d s1 => O.rt d s1)).bind (bSeq (sTg (mCall F_read_size (mCons (mVar 0) (mCons (mVar 1) mNil))) (gTp 2 (gsCons (gN 4) (gsCons (gN 1) gsNil))))
                (sRet (mTup (mCons (mIf (mOp oEq (mVar 3) (mC (.int 3))) (mVar 4) (mOp oSub (mNeg (mC (.int 1))) (mVar 4))) (mCons (mVar 1) mNil)))))) := fun r hr => by
              simp only [B_read_plain, e_seq, e_set, e_sif, e_op, e_c, e_call, e_cons, e_nil, e_var, List.getElem?_cons_zero, List.getElem?_cons_succ, rbind_ok, byte_at_some hs hx, rto_ok, obind_nx, List.set_cons_succ, List.set_cons_zero, oGt_int, h6, decide_false, decide_true, ifK_f, ifK_t, e_bnil, e_aug, oIadd_int, oLt_int, h3, ea, oEq_int, e_ret, hr, show ((6 : Int) = 5) = False from by simp]
            by_cases h60 : 60 ≤ d
            · rw [if_pos ⟨rfl, h60⟩]
              refine ⟨s, ?_, Pre.refl⟩
              have hge : (60 : Int) ≤ (d : Int) := by omega
              have hr : runF 3 7 (B_read_parts (F_read_plain j)) [.ref k, .int ((a + 1 : Nat) : Int), .int (d : Int)] s = .exc "PackError" "at" (.int (a : Int)) s := by
                rw [e1]
                have es : ((a + 1 : Nat) : Int) - 1 = (a : Int) := by omega
                simp only [B_read_parts, e_seq, e_sif, e_op, e_var, e_c, List.getElem?_cons_zero, List.getElem?_cons_succ, rbind_ok, rto_ok, oGe_int, hge, decide_true, ifK_t, e_raise, oSub_int, es, obind_ex, runO_ex]
              rw [tail _ hr]
              rfl
            · rw [if_neg (fun z => h60 z.2)]
              have hge : ¬ (60 : Int) ≤ (d : Int) := by omega
              cases e : rs true xs with
              | err o =>
                rw [e] at hS
                have hS : F_read_size [.ref k, .int ((a + 1 : Nat) : Int)] s = .exc "PackError" "at" (.int ((a + 1 + o : Nat) : Int)) s := hS
                refine ⟨s, ?_, Pre.refl⟩
                have hr : runF 3 7 (B_read_parts (F_read_plain j)) [.ref k, .int ((a + 1 : Nat) : Int), .int (d : Int)] s = .exc "PackError" "at" (.int ((a + 1 + o : Nat) : Int)) s := by
                  rw [e1]
                  simp only [B_read_parts, e_seq, e_sif, e_op, e_var, e_c, List.getElem?_cons_zero, List.getElem?_cons_succ, rbind_ok, rto_ok, oGe_int, hge, decide_false, ifK_f, e_bnil, obind_nx, e_tg, e_call, e_cons, e_nil, hS, rto_exc, obind_ex, runO_ex]
                rw [tail _ hr, show a + (o + 1) = a + 1 + o by omega]
                rfl
              | ok n u =>
                rw [e] at hS
                have hS : F_read_size [.ref k, .int ((a + 1 : Nat) : Int)] s = .ok (.tup [.int n, .int ((a + 1 + u : Nat) : Int)]) s := hS
                have hu := rs_used _ _ _ _ e
                have hxl : xs.length = l.length - (a + 1) := by rw [← hd, List.length_drop]
                have hdd : l.drop (a + 1 + u) = xs.drop u := by rw [← hd, List.drop_drop]
                dsimp only
                rw [if_neg (by omega), if_neg (by omega), if_neg (by omega)]
                have hL := read_parts_loop D0 (F_read_plain j) (rp j (d + 1)) (fun xs v u => rp_used j (d + 1) xs v u) d (some (.int n)) s s.length (Nat.le_refl _)
                  (fun a s hs ha => read_plain_ok D0 j (d + 1) a s (by omega) (by omega) hs ha) n.toNat 0 (a + 1 + u) [] none none (s ++ [C.lst []]) (Pre.app _ _ hs) (Nat.ne_of_lt (lt_of_get hs)) Pre.app app_last (by omega) (Nat.zero_le _)
                rw [hdd] at hL
                have z : (0 : Nat) ≤ sizeLine := Nat.zero_le _
                cases e2 : rps (rp j (d + 1)) n.toNat (xs.drop u) with
                | err o =>
                  simp only [e2] at hL
                  obtain ⟨s', hL, hp⟩ := hL
                  have hr : runF 3 7 (B_read_parts (F_read_plain j)) [.ref k, .int ((a + 1 : Nat) : Int), .int (d : Int)] s = .exc "PackError" "at" (.int ((a + 1 + u + o : Nat) : Int)) s' := by
                    rw [e1]
                    simp only [B_read_parts, e_seq, e_sif, e_op, e_var, e_c, List.getElem?_cons_zero, List.getElem?_cons_succ, rbind_ok, rto_ok, oGe_int, hge, decide_false, ifK_f, e_bnil, obind_nx, e_tg, e_call, e_cons, e_nil, hS, e_gTp2, List.set_cons_succ, List.set_cons_zero, e_set, e_lst, List.length_nil, z, if_true, e_for, e_rng1, e_rngK1, hL, obind_ex, runO_ex]
                  refine ⟨s', ?_, hp⟩
                  rw [tail _ hr, show a + (1 + u + o) = a + 1 + u + o by omega]
                  rfl
                | ok vs w =>
                  simp only [e2] at hL
                  obtain ⟨o5, o6, s', hL, hp, hg⟩ := hL
                  have hr : runF 3 7 (B_read_parts (F_read_plain j)) [.ref k, .int ((a + 1 : Nat) : Int), .int (d : Int)] s = .ok (.tup [.tup vs, .int ((a + 1 + u + w : Nat) : Int)]) s' := by
                    rw [e1]
                    simp only [B_read_parts, e_seq, e_sif, e_op, e_var, e_c, List.getElem?_cons_zero, List.getElem?_cons_succ, rbind_ok, rto_ok, oGe_int, hge, decide_false, ifK_f, e_bnil, obind_nx, e_tg, e_call, e_cons, e_nil, hS, e_gTp2, List.set_cons_succ, List.set_cons_zero, e_set, e_lst, List.length_nil, z, if_true, e_for, e_rng1, e_rngK1, hL, e_ret, e_tup, cTuple_lst hg, List.length_cons, Nat.zero_add, Nat.reduceAdd, two_le, runO_rt, List.nil_append]
                  refine ⟨s', ?_, hp⟩
                  rw [tail _ hr, show a + (1 + u + w) = a + 1 + u + w by omega]
                  rfl
/-- the whole list is one value -/
def rd (l : List Int) : RP := match rp 64 0 l with
  | .ok v u => if u < l.length then .err u else .ok v u
  | .err o => .err o
theorem unpack_ok (D0 : Dt l) {s : S} (hs : s[k]? = some (C.lst (l.map D.int))) : match rd l with
    | .ok v _ => ∃ s', F_unpack [.ref k] s = .ok v s' ∧ Pre s s'
    | .err o => ∃ s', F_unpack [.ref k] s = .exc "PackError" "at" (.int (o : Int)) s' ∧ Pre s s' := by
  have h := read_plain_ok (k := k) D0 64 0 0 s (by omega) (by omega) hs (Nat.zero_le _)
  have e0 : F_unpack [.ref k] s = runO (B_unpack [some (.ref k), none, none] s) := by
    unfold F_unpack
    rw [runF_eq (n := 1) rfl]
    rfl
  rw [List.drop_zero] at h
  unfold rd
  cases e : rp 64 0 l with
  | err o =>
    rw [e] at h
    obtain ⟨s', h, hp⟩ := h
    have h : F_read_plain 64 [.ref k, .int 0, .int 0] s = .exc "PackError" "at" (.int ((0 + o : Nat) : Int)) s' := h
    rw [Nat.zero_add] at h
    refine ⟨s', ?_, hp⟩
    rw [e0]
    simp only [B_unpack, e_seq, e_tg, e_call, e_cons, e_nil, e_var, e_c, List.getElem?_cons_zero, List.getElem?_cons_succ, rbind_ok, h, rto_exc, obind_ex, runO_ex]
  | ok v u =>
    rw [e] at h
    obtain ⟨s', h, hp⟩ := h
    have h : F_read_plain 64 [.ref k, .int 0, .int 0] s = .ok (.tup [v, .int ((0 + u : Nat) : Int)]) s' := h
    rw [Nat.zero_add] at h
    have hs' := hp _ _ hs
    by_cases hu : u < l.length
    · have hu' : (u : Int) < (l.length : Int) := by omega
      simp only [if_pos hu]
      refine ⟨s', ?_, hp⟩
      rw [e0]
      simp only [B_unpack, e_seq, e_tg, e_call, e_cons, e_nil, e_var, e_c, e_sif, e_op, List.getElem?_cons_zero, List.getElem?_cons_succ, rbind_ok, h, rto_ok, e_gTp2, List.set_cons_succ, List.set_cons_zero, obind_nx, len_ok hs', oLt_int, hu', decide_true, ifK_t, e_raise, obind_ex, runO_ex]
    · have hu' : ¬ (u : Int) < (l.length : Int) := by omega
      simp only [if_neg hu]
      refine ⟨s', ?_, hp⟩
      rw [e0]
      simp only [B_unpack, e_seq, e_tg, e_call, e_cons, e_nil, e_var, e_c, e_sif, e_op, List.getElem?_cons_zero, List.getElem?_cons_succ, rbind_ok, h, rto_ok, e_gTp2, List.set_cons_succ, List.set_cons_zero, obind_nx, len_ok hs', oLt_int, hu', decide_false, ifK_f, e_bnil, e_ret, runO_rt]
end
end G85
end Mi
namespace Mi
namespace G85
open PySem PySem.Spec PyProof.Rows L2

theorem oEq_str {x y : Str} {s : S} (hx : x.cps.all (· < 0x110000) = true) (hy : y.cps.all (· < 0x110000) = true) : oEq (.str x) (.str y) s = .ok (.bl (x == y)) s := by
  have h1 : SeqAt.shaped (.str x) = true := by
    simp only [SeqAt.shaped, PyData.canLay0, PyData.depth]
    show (x.cps.all (· < 0x110000) && _) = true
    rw [hx]
    rfl
  have h2 : SeqAt.shaped (.str y) = true := by
    simp only [SeqAt.shaped, PyData.canLay0, PyData.depth]
    show (y.cps.all (· < 0x110000) && _) = true
    rw [hy]
    rfl
  have e : eqPy (.str x) (.str y) s = some (x == y) := by
    show (if SeqAt.shaped (.str x) = true ∧ SeqAt.shaped (.str y) = true then some (PyData.eqv (.str x) (.str y)) else none) = _
    rw [if_pos ⟨h1, h2⟩]
    rfl
  unfold oEq
  rw [e]
theorem rs_nonneg : ∀ (xs : List Int) (f : Bool) (n : Int) (u : Nat), (∀ x ∈ xs, 0 ≤ x ∧ x < 256) → rs f xs = .ok n u → 0 ≤ n
  | [], f, n, u, hb, h => by cases h
  | x :: xs, f, n, u, hb, h => by
    unfold rs at h
    have hx := hb x (List.mem_cons_self ..)
    split at h
    · split at h
      · rename_i m w e
        cases h
        have := rs_nonneg xs false m w (fun y hy => hb y (List.mem_cons_of_mem _ hy)) e
        omega
      · cases h
    · split at h
      · cases h
      · cases h
        exact hx.1
noncomputable def restL : B := (bSeq (sIf (mOp oEq (mVar 1) (mCall cLen (mCons (mVar 0) mNil)))
  (sRet (mTup (mCons (mC (.bl false)) (mCons (mVar 1) mNil))))
  bNil)
  (bSeq (sIf (mAnd (mOp oEq (mOp oIx (mVar 0) (mVar 1)) (mC (.int 0))) (mOp oGt (mVar 1) (mVar 2)))
  (sRet (mTup (mCons (mC (.bl false)) (mCons (mVar 1) mNil))))
  bNil)
  (sRet (mTup (mCons (mC (.bl true)) (mCons (mOp oAdd (mVar 3) (mOp oMul (mOp oIx (mVar 0) (mVar 1)) (mVar 4))) (mCons (mOp oAdd (mVar 1) (mC (.int 1))) mNil)))))))
section
variable {l : List Int} {k : Nat} {s : S}
theorem three_le : (3 : Nat) ≤ sizeLine := by rw [sizeL]; omega
theorem law_size_r (D0 : Dt l) (hs : s[k]? = some (C.lst (l.map D.int))) (first : Nat) : ∀ (xs : List Int) (a fuel j : Nat) (n : Int), l.drop a = xs → a ≤ l.length → first ≤ a → j ≤ a → xs.length ≤ fuel →
    (whileK T__law_read_size1 W__law_read_size1 (fuel + 1) [some (.ref k), some (.int (a : Int)), some (.int (first : Int)), some (.int n), some (.int (128 ^ j))] s).bind restL
    = match rs (decide (a = first)) xs with
      | .ok m u => .rt (.tup [.bl true, .int (n + m * 128 ^ j), .int ((a + u : Nat) : Int)]) s
      | .err o => .rt (.tup [.bl false, .int ((a + o : Nat) : Int)]) s
  | [], a, fuel, j, n, e, ha, hf, hj, hl => by
    have hb := drop_nil e
    obtain rfl : a = l.length := by omega
    have hlt : ¬ (l.length : Int) < (l.length : Int) := by omega
    have hc : T__law_read_size1 [some (.ref k), some (.int (l.length : Int)), some (.int (first : Int)), some (.int n), some (.int (128 ^ j))] s = .ok (.bl false) s := by
      simp only [T__law_read_size1, e_and, e_op, e_call, e_cons, e_nil, e_var, List.getElem?_cons_zero, List.getElem?_cons_succ, rbind_ok, len_ok hs, oLt_int, hlt, decide_false]
    rw [while_f hc]
    simp only [obind_nx, restL, e_seq, e_sif, e_op, e_var, e_call, e_cons, e_nil, List.getElem?_cons_zero, List.getElem?_cons_succ, rbind_ok, rto_ok, len_ok hs, oEq_int, decide_true, ifK_t, e_ret, e_tup, e_c, List.length_cons, List.length_nil, Nat.zero_add, Nat.reduceAdd, two_le, if_true, obind_rt]
    rfl
  | x :: xs, a, fuel, j, n, e, ha, hf, hj, hl => by
    obtain ⟨hx, hd, hlt⟩ := drop_head e
    obtain ⟨g, rfl⟩ : ∃ g, fuel = g + 1 := ⟨fuel - 1, by rw [List.length_cons] at hl; omega⟩
    have hbx := D0.byte x (List.mem_of_getElem? hx)
    have hz := D0.len
    have hlt' : (a : Int) < (l.length : Int) := by omega
    have hne' : ¬ (a : Int) = (l.length : Int) := by omega
    by_cases h : 128 ≤ x
    · have hm := oMul_int (s := s) (cm (a := x - 128) (j := j) (by omega) (by omega))
      have hm2 := oMul_int (s := s) (cm' (j := j) (by omega))
      have hc : T__law_read_size1 [some (.ref k), some (.int (a : Int)), some (.int (first : Int)), some (.int n), some (.int (128 ^ j))] s = .ok (.bl true) s := by
        simp only [T__law_read_size1, e_and, e_op, e_call, e_cons, e_nil, e_var, e_c, List.getElem?_cons_zero, List.getElem?_cons_succ, rbind_ok, len_ok hs, oLt_int, hlt', decide_true, ix_ok hs hx, oGe_int, h]
      have hb : W__law_read_size1 [some (.ref k), some (.int (a : Int)), some (.int (first : Int)), some (.int n), some (.int (128 ^ j))] s = .nx [some (.ref k), some (.int ((a + 1 : Nat) : Int)), some (.int (first : Int)), some (.int (n + (x - 128) * 128 ^ j)), some (.int (128 ^ (j + 1)))] s := by
        have ea : ((a + 1 : Nat) : Int) = (a : Int) + 1 := by omega
        simp only [W__law_read_size1, e_seq, e_set, e_op, e_var, e_c, List.getElem?_cons_zero, List.getElem?_cons_succ, rbind_ok, rto_ok, ix_ok hs hx, oSub_int, hm, oAdd_int, obind_nx, List.set_cons_succ, List.set_cons_zero, hm2, ea, Int.pow_succ]
      rw [while_nx hc hb, law_size_r D0 hs first xs (a + 1) g (j + 1) _ hd (by omega) (by omega) (by omega) (by rw [List.length_cons] at hl; omega)]
      have hne : decide (a + 1 = first) = false := decide_eq_false (by omega)
      rw [hne]
      conv => rhs; unfold rs
      rw [if_pos h]
      cases rs false xs with
      | ok m u =>
        show O.rt (.tup [.bl true, .int (n + (x - 128) * 128 ^ j + m * 128 ^ (j + 1)), .int ((a + 1 + u : Nat) : Int)]) s = O.rt (.tup [.bl true, .int (n + (x - 128 + 128 * m) * 128 ^ j), .int ((a + (u + 1) : Nat) : Int)]) s
        have e1 : n + (x - 128) * 128 ^ j + m * 128 ^ (j + 1) = n + (x - 128 + 128 * m) * 128 ^ j := by
          rw [Int.pow_succ]
          grind
        rw [e1, show a + 1 + u = a + (u + 1) by omega]
      | err o =>
        show O.rt (.tup [.bl false, .int ((a + 1 + o : Nat) : Int)]) s = O.rt (.tup [.bl false, .int ((a + (o + 1) : Nat) : Int)]) s
        rw [show a + 1 + o = a + (o + 1) by omega]
    · have hc : T__law_read_size1 [some (.ref k), some (.int (a : Int)), some (.int (first : Int)), some (.int n), some (.int (128 ^ j))] s = .ok (.bl false) s := by
        simp only [T__law_read_size1, e_and, e_op, e_call, e_cons, e_nil, e_var, e_c, List.getElem?_cons_zero, List.getElem?_cons_succ, rbind_ok, len_ok hs, oLt_int, hlt', decide_true, ix_ok hs hx, oGe_int, h, decide_false]
      have hm := oMul_int (s := s) (cm (a := x) (j := j) (by omega) (by omega))
      rw [while_f hc]
      unfold rs
      rw [if_neg h]
      by_cases h0 : x = 0
      · subst h0
        by_cases h1 : a = first
        · have hg : ¬ (first : Int) < (a : Int) := by omega
          rw [if_neg (by simp [h1])]
          simp only [obind_nx, restL, e_seq, e_sif, e_and, e_op, e_var, e_c, e_call, e_cons, e_nil, List.getElem?_cons_zero, List.getElem?_cons_succ, rbind_ok, rto_ok, len_ok hs, ix_ok hs hx, oEq_int, hne', decide_true, oGt_int, hg, decide_false, ifK_f, e_bnil, e_ret, e_tup, hm, oAdd_int, List.length_cons, List.length_nil, Nat.zero_add, Nat.reduceAdd, three_le, if_true]
          rfl
        · have hg : (first : Int) < (a : Int) := by omega
          rw [if_pos (by simp [h1])]
          simp only [obind_nx, restL, e_seq, e_sif, e_and, e_op, e_var, e_c, e_call, e_cons, e_nil, List.getElem?_cons_zero, List.getElem?_cons_succ, rbind_ok, rto_ok, len_ok hs, ix_ok hs hx, oEq_int, hne', decide_false, ifK_f, e_bnil, decide_true, oGt_int, hg, ifK_t, e_ret, e_tup, List.length_cons, List.length_nil, Nat.zero_add, Nat.reduceAdd, two_le, if_true, obind_rt]
          rfl
      · rw [if_neg (fun z => h0 z.1)]
        simp only [obind_nx, restL, e_seq, e_sif, e_and, e_op, e_var, e_c, e_call, e_cons, e_nil, List.getElem?_cons_zero, List.getElem?_cons_succ, rbind_ok, rto_ok, len_ok hs, ix_ok hs hx, oEq_int, hne', h0, decide_false, ifK_f, e_bnil, e_ret, e_tup, hm, oAdd_int, List.length_cons, List.length_nil, Nat.zero_add, Nat.reduceAdd, three_le, if_true]
        rfl
theorem law_read_size_ok (D0 : Dt l) (hs : s[k]? = some (C.lst (l.map D.int))) {a : Nat} (ha : a ≤ l.length) : F__law_read_size [.ref k, .int (a : Int)] s = match rs true (l.drop a) with
      | .ok m u => .ok (.tup [.bl true, .int m, .int ((a + u : Nat) : Int)]) s
      | .err o => .ok (.tup [.bl false, .int ((a + o : Nat) : Int)]) s := by
  have e0 : F__law_read_size [.ref k, .int (a : Int)] s = runO (B__law_read_size [some (.ref k), some (.int (a : Int)), none, none, none] s) := by
    unfold F__law_read_size
    rw [runF_eq (n := 2) rfl]
    rfl
  have hz := D0.len
  have hw' : wf - 1 + 1 = wf := by unfold wf; rfl
  have h := law_size_r D0 hs a (l.drop a) a (wf - 1) 0 0 rfl ha (Nat.le_refl _) (Nat.zero_le _) (by rw [List.length_drop]; unfold wf; omega)
  rw [hw', decide_eq_true rfl] at h
  rw [e0]
  have e1 : B__law_read_size [some (.ref k), some (.int (a : Int)), none, none, none] s = (whileK T__law_read_size1 W__law_read_size1 wf [some (.ref k), some (.int (a : Int)), some (.int (a : Int)), some (.int 0), some (.int (128 ^ 0))] s).bind restL := by
    rw [show B__law_read_size = bSeq (sSet 2 (mVar 1)) (bSeq (sSet 3 (mC (.int 0))) (bSeq (sSet 4 (mC (.int 1))) (bSeq (whileK T__law_read_size1 W__law_read_size1 wf) restL))) from rfl]
    simp only [e_seq, e_set, e_var, e_c, List.getElem?_cons_zero, List.getElem?_cons_succ, rto_ok, List.set_cons_succ, List.set_cons_zero, obind_nx]
    rfl
  rw [e1, h]
  cases rs true (l.drop a) with
  | ok m u =>
    show R.ok (D.tup [.bl true, .int (0 + m * 128 ^ 0), .int ((a + u : Nat) : Int)]) s = R.ok (D.tup [.bl true, .int m, .int ((a + u : Nat) : Int)]) s
    rw [Int.pow_zero, Int.mul_one, Int.zero_add]
  | err o => rfl
theorem SIGNS_at : ∀ c < 127, 32 ≤ c → c ≠ 37 → SIGNS.cps.toList[if c < 37 then c - 32 else c - 33]? = some c := by
  rw [SIGNS_eq]
  decide +kernel
theorem SIGNS_len : SIGNS.length ≤ sizeLine := by
  rw [sizeL]
  decide +kernel
theorem law_sign_ok {x : Int} (h0 : 0 ≤ x) (s : S) : F__law_sign [.int x] s = .ok (.str (if isSign x = true then ⟨#[x.toNat]⟩ else "")) s := by
  have e0 : F__law_sign [.int x] s = runO (B__law_sign [some (.int x)] s) := by
    unfold F__law_sign
    rw [runF_eq (n := 1) rfl]
    rfl
  rw [e0]
  by_cases h1 : x = 10
  · subst h1
    simp only [B__law_sign, e_seq, e_sif, e_op, e_var, e_c, List.getElem?_cons_zero, rbind_ok, rto_ok, oEq_int, decide_true, ifK_t, e_ret, obind_rt, runO_rt]
    rfl
  · by_cases h2 : x < 32
    · have hn : isSign x = false := by
        cases q : isSign x
        · rfl
        · rcases isSign_of q with h | h <;> omega
      simp only [B__law_sign, e_seq, e_sif, e_op, e_var, e_c, List.getElem?_cons_zero, rbind_ok, rto_ok, oEq_int, h1, decide_false, ifK_f, e_bnil, obind_nx, e_or, oLt_int, h2, decide_true, ifK_t, e_ret, obind_rt, runO_rt, hn, Bool.false_eq_true, if_false]
    · by_cases h3 : 126 < x
      · have hn : isSign x = false := by
          cases q : isSign x
          · rfl
          · rcases isSign_of q with h | h <;> omega
        simp only [B__law_sign, e_seq, e_sif, e_op, e_var, e_c, List.getElem?_cons_zero, rbind_ok, rto_ok, oEq_int, h1, decide_false, ifK_f, e_bnil, obind_nx, e_or, oLt_int, h2, oGt_int, h3, decide_true, ifK_t, e_ret, obind_rt, runO_rt, hn, Bool.false_eq_true, if_false]
      · by_cases h4 : x = 37
        · subst h4
          simp only [B__law_sign, e_seq, e_sif, e_op, e_var, e_c, List.getElem?_cons_zero, rbind_ok, rto_ok, oEq_int, h1, decide_false, ifK_f, e_bnil, obind_nx, e_or, oLt_int, h2, oGt_int, h3, decide_true, ifK_t, e_ret, obind_rt, runO_rt]
          rfl
        · have hn : isSign x = true := by
            simp [isSign, h1, h4]
            omega
          have hix : ∀ i : Int, i = (if x < 37 then x - 32 else x - 33) → oIx (.str SIGNS) (.int i) s = .ok (.str ⟨#[x.toNat]⟩) s := fun i hi => by
            have e := SIGNS_at x.toNat (by omega) (by omega) (by omega)
            have hi2 : i = (((if x.toNat < 37 then x.toNat - 32 else x.toNat - 33) : Nat) : Int) := by
              rw [hi]
              split <;> split <;> omega
            show (if SIGNS.length ≤ sizeLine then (match atI SIGNS.cps.toList i with
              | some c => R.ok (D.str ⟨#[c]⟩) s
              | none => R.bad) else R.bad) = _
            rw [if_pos SIGNS_len, hi2, atI_nat, e]
          by_cases h5 : x < 37
          · simp only [B__law_sign, e_seq, e_sif, e_op, e_var, e_c, List.getElem?_cons_zero, rbind_ok, rto_ok, oEq_int, h1, decide_false, ifK_f, e_bnil, obind_nx, e_or, oLt_int, h2, oGt_int, h3, h4, e_ret, e_call, e_nil, signs_ok, e_if, h5, decide_true, oSub_int, hix (x - 32) (by rw [if_pos h5]), runO_rt, hn, if_true]
          · simp only [B__law_sign, e_seq, e_sif, e_op, e_var, e_c, List.getElem?_cons_zero, rbind_ok, rto_ok, oEq_int, h1, decide_false, ifK_f, e_bnil, obind_nx, e_or, oLt_int, h2, oGt_int, h3, h4, e_ret, e_call, e_nil, signs_ok, e_if, h5, oSub_int, hix (x - 33) (by rw [if_neg h5]), runO_rt, hn, if_true]
noncomputable def restT : B := (bSeq (sIf (mOp oGt (mVar 2) (mC (.int 0)))
  (sRet (mTup (mCons (mC (.bl false)) (mCons (mVar 1) mNil))))
  bNil)
  (sRet (mTup (mCons (mC (.bl true)) (mCons (mVar 3) (mCons (mVar 1) mNil))))))
theorem law_text_r (D0 : Dt l) (hs : s[k]? = some (C.lst (l.map D.int))) : ∀ (xs : List Int) (a fuel m : Nat) (cs : List Nat) (o : Option D), l.drop a = xs → a ≤ l.length → cs.length ≤ a → xs.length ≤ fuel →
    (whileK T__law_read_text1 W__law_read_text1 (fuel + 1) [some (.ref k), some (.int (a : Int)), some (.int (m : Int)), some (.str ⟨cs.toArray⟩), o] s).bind restT
    = match rt m xs with
      | .ok ds => .rt (.tup [.bl true, .str ⟨(cs ++ ds).toArray⟩, .int ((a + ds.length : Nat) : Int)]) s
      | .err q => .rt (.tup [.bl false, .int ((a + q : Nat) : Int)]) s
  | xs, a, fuel, 0, cs, o, e, ha, hc, hl => by
    have hc : T__law_read_text1 [some (.ref k), some (.int (a : Int)), some (.int ((0 : Nat) : Int)), some (.str ⟨cs.toArray⟩), o] s = .ok (.bl false) s := by
      have : ¬ (0 : Int) < ((0 : Nat) : Int) := by omega
      simp only [T__law_read_text1, e_and, e_op, e_var, e_c, List.getElem?_cons_zero, List.getElem?_cons_succ, rbind_ok, oGt_int, this, decide_false]
    rw [while_f hc]
    have : ¬ (0 : Int) < ((0 : Nat) : Int) := by omega
    simp only [obind_nx, restT, e_seq, e_sif, e_op, e_var, e_c, List.getElem?_cons_zero, List.getElem?_cons_succ, rbind_ok, rto_ok, oGt_int, this, decide_false, ifK_f, e_bnil, e_ret, e_tup, e_cons, e_nil, List.length_cons, List.length_nil, Nat.zero_add, Nat.reduceAdd, three_le, if_true, rt, List.append_nil, Nat.add_zero]
  | [], a, fuel, m + 1, cs, o, e, ha, hc, hl => by
    have hb := drop_nil e
    obtain rfl : a = l.length := by omega
    have h1 : (0 : Int) < ((m + 1 : Nat) : Int) := by omega
    have h2 : ¬ (l.length : Int) < (l.length : Int) := by omega
    have hc : T__law_read_text1 [some (.ref k), some (.int (l.length : Int)), some (.int ((m + 1 : Nat) : Int)), some (.str ⟨cs.toArray⟩), o] s = .ok (.bl false) s := by
      simp only [T__law_read_text1, e_and, e_op, e_var, e_c, e_call, e_cons, e_nil, List.getElem?_cons_zero, List.getElem?_cons_succ, rbind_ok, oGt_int, h1, decide_true, len_ok hs, oLt_int, h2, decide_false]
    rw [while_f hc]
    simp only [obind_nx, restT, e_seq, e_sif, e_op, e_var, e_c, List.getElem?_cons_zero, List.getElem?_cons_succ, rbind_ok, rto_ok, oGt_int, h1, decide_true, ifK_t, e_ret, e_tup, e_cons, e_nil, List.length_cons, List.length_nil, Nat.zero_add, Nat.reduceAdd, two_le, if_true, obind_rt, rt, Nat.add_zero]
  | x :: xs, a, fuel, m + 1, cs, o, e, ha, hc, hl => by
    obtain ⟨hx, hd, hlt⟩ := drop_head e
    obtain ⟨g, rfl⟩ : ∃ g, fuel = g + 1 := ⟨fuel - 1, by rw [List.length_cons] at hl; omega⟩
    have hbx := D0.byte x (List.mem_of_getElem? hx)
    have hz := D0.len
    have h1 : (0 : Int) < ((m + 1 : Nat) : Int) := by omega
    have h2 : (a : Int) < (l.length : Int) := by omega
    have hcc : T__law_read_text1 [some (.ref k), some (.int (a : Int)), some (.int ((m + 1 : Nat) : Int)), some (.str ⟨cs.toArray⟩), o] s = .ok (.bl true) s := by
      simp only [T__law_read_text1, e_and, e_op, e_var, e_c, e_call, e_cons, e_nil, List.getElem?_cons_zero, List.getElem?_cons_succ, rbind_ok, oGt_int, h1, decide_true, len_ok hs, oLt_int, h2]
    have hls := law_sign_ok hbx.1 s
    have emp : ("" : Str).cps.all (· < 0x110000) = true := by decide +kernel
    simp only [rt]
    by_cases h : isSign x = true
    · rw [if_pos h]
      rw [if_pos h] at hls
      have hxn : x.toNat < 0x110000 := by omega
      have hq : oEq (.str ⟨#[x.toNat]⟩) (.str "") s = .ok (.bl false) s := by
        rw [oEq_str (by simp; omega) emp]
        have : ((⟨#[x.toNat]⟩ : Str) == ("" : Str)) = false := by
          rw [beq_eq_false_iff_ne]
          intro z
          have := congrArg (fun y : Str => y.cps.size) z
          have e0 : ("" : Str).cps.size = 0 := by decide +kernel
          simp only [e0] at this
          cases this
        rw [this]
      have hp : oAdd (.str ⟨cs.toArray⟩) (.str ⟨#[x.toNat]⟩) s = .ok (.str ⟨(cs ++ [x.toNat]).toArray⟩) s := by
        rw [oAdd_str (by show cs.toArray.size + 1 ≤ sizeLine; rw [sizeL]; simp; omega), str_app]
      have ea : (a : Int) + 1 = ((a + 1 : Nat) : Int) := by omega
      have em : ((m + 1 : Nat) : Int) - 1 = (m : Int) := by omega
      have hw : W__law_read_text1 [some (.ref k), some (.int (a : Int)), some (.int ((m + 1 : Nat) : Int)), some (.str ⟨cs.toArray⟩), o] s = .nx [some (.ref k), some (.int ((a + 1 : Nat) : Int)), some (.int (m : Int)), some (.str ⟨(cs ++ [x.toNat]).toArray⟩), some (.str ⟨#[x.toNat]⟩)] s := by
        simp only [W__law_read_text1, e_seq, e_set, e_sif, e_op, e_var, e_c, e_call, e_cons, e_nil, List.getElem?_cons_zero, List.getElem?_cons_succ, rbind_ok, rto_ok, ix_ok hs hx, hls, List.set_cons_succ, List.set_cons_zero, obind_nx, hq, ifK_f, e_bnil, hp, oAdd_int, oSub_int, ea, em]
      rw [while_nx hcc hw, law_text_r D0 hs xs (a + 1) g m (cs ++ [x.toNat]) _ hd (by omega) (by rw [List.length_append, List.length_singleton]; omega) (by rw [List.length_cons] at hl; omega)]
      cases rt m xs with
      | ok ds =>
        show O.rt (.tup [.bl true, .str ⟨(cs ++ [x.toNat] ++ ds).toArray⟩, .int ((a + 1 + ds.length : Nat) : Int)]) s = O.rt (.tup [.bl true, .str ⟨(cs ++ (x.toNat :: ds)).toArray⟩, .int ((a + (x.toNat :: ds).length : Nat) : Int)]) s
        rw [List.append_assoc, List.length_cons, show a + 1 + ds.length = a + (ds.length + 1) by omega]
        rfl
      | err q =>
        show O.rt (.tup [.bl false, .int ((a + 1 + q : Nat) : Int)]) s = O.rt (.tup [.bl false, .int ((a + (q + 1) : Nat) : Int)]) s
        rw [show a + 1 + q = a + (q + 1) by omega]
    · rw [if_neg h]
      rw [if_neg h] at hls
      have hq : oEq (.str "") (.str "") s = .ok (.bl true) s := by
        rw [oEq_str emp emp, beq_self_eq_true]
      have hw : W__law_read_text1 [some (.ref k), some (.int (a : Int)), some (.int ((m + 1 : Nat) : Int)), some (.str ⟨cs.toArray⟩), o] s = .rt (.tup [.bl false, .int (a : Int)]) s := by
        simp only [W__law_read_text1, e_seq, e_set, e_sif, e_op, e_var, e_c, e_call, e_cons, e_nil, List.getElem?_cons_zero, List.getElem?_cons_succ, rbind_ok, rto_ok, ix_ok hs hx, hls, List.set_cons_succ, List.set_cons_zero, obind_nx, hq, ifK_t, e_ret, e_tup, List.length_cons, List.length_nil, Nat.zero_add, Nat.reduceAdd, two_le, if_true, obind_rt]
      rw [while_t hcc, hw]
      rfl
theorem law_read_text_ok (D0 : Dt l) (hs : s[k]? = some (C.lst (l.map D.int))) {a m : Nat} (ha : a ≤ l.length) : F__law_read_text [.ref k, .int (a : Int), .int (m : Int)] s = match rt m (l.drop a) with
      | .ok ds => .ok (.tup [.bl true, .str ⟨ds.toArray⟩, .int ((a + ds.length : Nat) : Int)]) s
      | .err q => .ok (.tup [.bl false, .int ((a + q : Nat) : Int)]) s := by
  have e0 : F__law_read_text [.ref k, .int (a : Int), .int (m : Int)] s = runO (B__law_read_text [some (.ref k), some (.int (a : Int)), some (.int (m : Int)), none, none] s) := by
    unfold F__law_read_text
    rw [runF_eq (n := 3) rfl]
    rfl
  have hz := D0.len
  have hw' : wf - 1 + 1 = wf := by unfold wf; rfl
  have es : ("" : Str) = ⟨([] : List Nat).toArray⟩ := by decide +kernel
  have h := law_text_r D0 hs (l.drop a) a (wf - 1) m [] none rfl ha (Nat.zero_le _) (by rw [List.length_drop]; unfold wf; omega)
  rw [hw'] at h
  rw [e0]
  have e1 : B__law_read_text [some (.ref k), some (.int (a : Int)), some (.int (m : Int)), none, none] s = (whileK T__law_read_text1 W__law_read_text1 wf [some (.ref k), some (.int (a : Int)), some (.int (m : Int)), some (.str ⟨([] : List Nat).toArray⟩), none] s).bind restT := by
    rw [show B__law_read_text = bSeq (sSet 3 (mC (.str ("" : Str)))) (bSeq (whileK T__law_read_text1 W__law_read_text1 wf) restT) from rfl]
    simp only [e_seq, e_set, e_c, rto_ok, List.set_cons_succ, List.set_cons_zero, obind_nx, es]
  rw [e1, h]
  cases rt m (l.drop a) <;> rfl
end
end G85
end Mi
namespace Mi
namespace G85
open PySem PySem.Spec PyProof.Rows L2

def LdV (a : Nat) : RP → D
  | .ok v u => .tup [.bl true, v, .int ((a + u : Nat) : Int)]
  | .err o => .tup [.bl false, .int ((a + o : Nat) : Int)]
def LdOk (r : R D) (s : S) (a : Nat) (p : RP) : Prop := ∃ s', r = .ok (LdV a p) s' ∧ Pre s s'
@[simp] theorem ix3_0 (x y z : D) (s : S) : oIx (.tup [x, y, z]) (.int 0) s = .ok x s := rfl
@[simp] theorem ix3_1 (x y z : D) (s : S) : oIx (.tup [x, y, z]) (.int 1) s = .ok y s := rfl
@[simp] theorem ix3_2 (x y z : D) (s : S) : oIx (.tup [x, y, z]) (.int 2) s = .ok z s := rfl
@[simp] theorem ix2_0 (x y : D) (s : S) : oIx (.tup [x, y]) (.int 0) s = .ok x s := rfl
@[simp] theorem ix2_1 (x y : D) (s : S) : oIx (.tup [x, y]) (.int 1) s = .ok y s := rfl
section
variable {l : List Int} {k : Nat}
noncomputable def restR : B := (sRet (mTup (mCons (mC (.bl true)) (mCons (mCall cTuple (mCons (mVar 5) mNil)) (mCons (mVar 1) mNil)))))
theorem law_parts_r (D0 : Dt l) (F : List D → S → R D) (f : List Int → RP) (hu : ∀ xs v u, f xs = .ok v u → 1 ≤ u ∧ u ≤ xs.length) (d : Nat) (c sz : Option D) (s0 : S) (p : Nat) (hp : s0.length ≤ p)
    (ih : ∀ (a : Nat) (s : S), s[k]? = some (C.lst (l.map D.int)) → a ≤ l.length → LdOk (F [.ref k, .int (a : Int), .int ((d + 1 : Nat) : Int)] s) s a (f (l.drop a))) :
    ∀ (fuel m a : Nat) (vs : List D) (o : Option D) (s : S), l.length - a ≤ fuel → s[k]? = some (C.lst (l.map D.int)) → k ≠ p → Pre s0 s → s[p]? = some (C.lst vs) → a ≤ l.length → vs.length ≤ a →
    ∃ s', Pre s0 s' ∧ (whileK (T__law_read1 F) (W__law_read1 F) (fuel + 1) [some (.ref k), some (.int (a : Int)), some (.int (d : Int)), c, sz, some (.ref p), some (.int (m : Int)), o] s).bind restR
      = match rps f m (l.drop a) with
        | .ok ws w => .rt (.tup [.bl true, .tup (vs ++ ws), .int ((a + w : Nat) : Int)]) s'
        | .err q => .rt (.tup [.bl false, .int ((a + q : Nat) : Int)]) s' := by
  intro fuel
  induction fuel with
  | zero =>
    intro m a vs o s hf hs hkp hpr hv ha hl
    have hz := D0.len
    obtain rfl : a = l.length := by omega
    cases m with
    | zero =>
      refine ⟨s, hpr, ?_⟩
      have hn : ¬ (0 : Int) < ((0 : Nat) : Int) := by omega
      have hc : T__law_read1 F [some (.ref k), some (.int (l.length : Int)), some (.int (d : Int)), c, sz, some (.ref p), some (.int ((0 : Nat) : Int)), o] s = .ok (.bl false) s := by
        simp only [T__law_read1, e_op, e_var, e_c, List.getElem?_cons_zero, List.getElem?_cons_succ, rbind_ok, oGt_int, hn, decide_false]
      rw [while_f hc]
      simp only [obind_nx, restR, e_ret, e_tup, e_cons, e_nil, e_c, e_var, e_call, List.getElem?_cons_zero, List.getElem?_cons_succ, rbind_ok, cTuple_lst hv, List.length_cons, List.length_nil, Nat.zero_add, Nat.reduceAdd, three_le, if_true, rto_ok, rps, List.append_nil, Nat.add_zero]
    | succ m =>
      have hp1 : (0 : Int) < ((m + 1 : Nat) : Int) := by omega
      have hc : T__law_read1 F [some (.ref k), some (.int (l.length : Int)), some (.int (d : Int)), c, sz, some (.ref p), some (.int ((m + 1 : Nat) : Int)), o] s = .ok (.bl true) s := by
        simp only [T__law_read1, e_op, e_var, e_c, List.getElem?_cons_zero, List.getElem?_cons_succ, rbind_ok, oGt_int, hp1, decide_true]
      have h1 := ih l.length s hs ha
      have ed : ((d : Int) + 1) = ((d + 1 : Nat) : Int) := by omega
      simp only [rps]
      cases e : f (l.drop l.length) with
      | ok v u =>
        have := hu _ _ _ e
        rw [List.length_drop] at this
        omega
      | err q =>
        rw [e] at h1
        obtain ⟨s', h1, hp'⟩ := h1
        have h1 : F [.ref k, .int (l.length : Int), .int ((d + 1 : Nat) : Int)] s = .ok (.tup [.bl false, .int ((l.length + q : Nat) : Int)]) s' := h1
        refine ⟨s', hpr.trans hp', ?_⟩
        have hw : W__law_read1 F [some (.ref k), some (.int (l.length : Int)), some (.int (d : Int)), c, sz, some (.ref p), some (.int ((m + 1 : Nat) : Int)), o] s = .rt (.tup [.bl false, .int ((l.length + q : Nat) : Int)]) s' := by
          simp only [W__law_read1, e_seq, e_set, e_sif, e_not, e_op, e_var, e_c, e_call, e_cons, e_nil, List.getElem?_cons_zero, List.getElem?_cons_succ, rbind_ok, rto_ok, oAdd_int, ed, h1, List.set_cons_succ, List.set_cons_zero, obind_nx, ix2_0, Bool.not_false, ifK_t, e_ret, obind_rt]
        rw [while_t hc, hw]
        rfl
  | succ fuel ihf =>
    intro m a vs o s hf hs hkp hpr hv ha hl
    have hz := D0.len
    cases m with
    | zero =>
      refine ⟨s, hpr, ?_⟩
      have hn : ¬ (0 : Int) < ((0 : Nat) : Int) := by omega
      have hc : T__law_read1 F [some (.ref k), some (.int (a : Int)), some (.int (d : Int)), c, sz, some (.ref p), some (.int ((0 : Nat) : Int)), o] s = .ok (.bl false) s := by
        simp only [T__law_read1, e_op, e_var, e_c, List.getElem?_cons_zero, List.getElem?_cons_succ, rbind_ok, oGt_int, hn, decide_false]
      rw [while_f hc]
      simp only [obind_nx, restR, e_ret, e_tup, e_cons, e_nil, e_c, e_var, e_call, List.getElem?_cons_zero, List.getElem?_cons_succ, rbind_ok, cTuple_lst hv, List.length_cons, List.length_nil, Nat.zero_add, Nat.reduceAdd, three_le, if_true, rto_ok, rps, List.append_nil, Nat.add_zero]
    | succ m =>
      have hp1 : (0 : Int) < ((m + 1 : Nat) : Int) := by omega
      have hc : T__law_read1 F [some (.ref k), some (.int (a : Int)), some (.int (d : Int)), c, sz, some (.ref p), some (.int ((m + 1 : Nat) : Int)), o] s = .ok (.bl true) s := by
        simp only [T__law_read1, e_op, e_var, e_c, List.getElem?_cons_zero, List.getElem?_cons_succ, rbind_ok, oGt_int, hp1, decide_true]
      have h1 := ih a s hs ha
      have ed : ((d : Int) + 1) = ((d + 1 : Nat) : Int) := by omega
      simp only [rps]
      cases e : f (l.drop a) with
      | err q =>
        rw [e] at h1
        obtain ⟨s', h1, hp'⟩ := h1
        have h1 : F [.ref k, .int (a : Int), .int ((d + 1 : Nat) : Int)] s = .ok (.tup [.bl false, .int ((a + q : Nat) : Int)]) s' := h1
        refine ⟨s', hpr.trans hp', ?_⟩
        have hw : W__law_read1 F [some (.ref k), some (.int (a : Int)), some (.int (d : Int)), c, sz, some (.ref p), some (.int ((m + 1 : Nat) : Int)), o] s = .rt (.tup [.bl false, .int ((a + q : Nat) : Int)]) s' := by
          simp only [W__law_read1, e_seq, e_set, e_sif, e_not, e_op, e_var, e_c, e_call, e_cons, e_nil, List.getElem?_cons_zero, List.getElem?_cons_succ, rbind_ok, rto_ok, oAdd_int, ed, h1, List.set_cons_succ, List.set_cons_zero, obind_nx, ix2_0, Bool.not_false, ifK_t, e_ret, obind_rt]
        rw [while_t hc, hw]
        rfl
      | ok v u =>
        rw [e] at h1
        obtain ⟨s', h1, hp'⟩ := h1
        have h1 : F [.ref k, .int (a : Int), .int ((d + 1 : Nat) : Int)] s = .ok (.tup [.bl true, v, .int ((a + u : Nat) : Int)]) s' := h1
        have hu1 := hu _ _ _ e
        rw [List.length_drop] at hu1
        have hv' := hp' _ _ hv
        have hap := oApp_ok (d := v) hv' (by rw [sizeL]; omega)
        have em : ((m + 1 : Nat) : Int) - 1 = (m : Int) := by omega
        have hw : W__law_read1 F [some (.ref k), some (.int (a : Int)), some (.int (d : Int)), c, sz, some (.ref p), some (.int ((m + 1 : Nat) : Int)), o] s = .nx [some (.ref k), some (.int ((a + u : Nat) : Int)), some (.int (d : Int)), c, sz, some (.ref p), some (.int (m : Int)), some (.tup [.bl true, v, .int ((a + u : Nat) : Int)])] (s'.set p (C.lst (vs ++ [v]))) := by
          simp only [W__law_read1, e_seq, e_set, e_sif, e_not, e_op, e_var, e_c, e_call, e_cons, e_nil, List.getElem?_cons_zero, List.getElem?_cons_succ, rbind_ok, rto_ok, oAdd_int, ed, h1, List.set_cons_succ, List.set_cons_zero, obind_nx, ix3_0, ix3_1, ix3_2, Bool.not_true, ifK_f, e_bnil, e_expr, e_meth, isLst_ok hv', if_true, hap, oSub_int, em]
        have hs2 : (s'.set p (C.lst (vs ++ [v])))[k]? = some (C.lst (l.map D.int)) := by
          rw [set_get, if_neg (Ne.symm hkp)]
          exact hp' _ _ hs
        obtain ⟨s2, h3, h4⟩ := ihf m (a + u) (vs ++ [v]) (some (.tup [.bl true, v, .int ((a + u : Nat) : Int)])) (s'.set p (C.lst (vs ++ [v]))) (by omega) hs2 hkp ((hpr.trans hp').set hp) (set_at hv') (by omega) (by rw [List.length_append, List.length_singleton]; omega)
        refine ⟨s2, h3, ?_⟩
        rw [while_nx hc hw, h4]
        simp only [List.drop_drop]
        cases rps f m (l.drop (a + u)) with
        | ok ws w =>
          show O.rt (.tup [.bl true, .tup (vs ++ [v] ++ ws), .int ((a + u + w : Nat) : Int)]) s2 = O.rt (.tup [.bl true, .tup (vs ++ (v :: ws)), .int ((a + (u + w) : Nat) : Int)]) s2
          rw [List.append_assoc, Nat.add_assoc]
          rfl
        | err q =>
          show O.rt (.tup [.bl false, .int ((a + u + q : Nat) : Int)]) s2 = O.rt (.tup [.bl false, .int ((a + (u + q) : Nat) : Int)]) s2
          rw [Nat.add_assoc]
theorem law_read_ok (D0 : Dt l) : ∀ (j d a : Nat) (s : S), 1 ≤ j → 61 ≤ j + d → d ≤ 60 → s[k]? = some (C.lst (l.map D.int)) → a ≤ l.length → LdOk (F__law_read j [.ref k, .int (a : Int), .int (d : Int)] s) s a (rp j d (l.drop a))
  | 0, _, _, _, h, _, _, _, _ => absurd h (by omega)
  | j + 1, d, a, s, hj, hjd, hdm, hs, ha => by
    have e0 : F__law_read (j + 1) [.ref k, .int (a : Int), .int (d : Int)] s = runO (B__law_read (F__law_read j) [some (.ref k), some (.int (a : Int)), some (.int (d : Int)), none, none, none, none, none] s) := by
      show runF 3 8 _ _ _ = _
      rw [runF_eq (n := 3) rfl]
      rfl
    rw [e0]
    cases hxs : l.drop a with
    | nil =>
      have hb := drop_nil hxs
      obtain rfl : a = l.length := by omega
      refine ⟨s, ?_, Pre.refl⟩
      have hge : (l.length : Int) ≤ (l.length : Int) := Int.le_refl _
      have hmin : cMin2 [.int (l.length : Int), .int (l.length : Int)] s = .ok (.int (l.length : Int)) s := by
        show R.ok (D.int (if (l.length : Int) < (l.length : Int) then _ else _)) s = _
        rw [if_neg (Int.lt_irrefl _)]
      simp only [B__law_read, e_seq, e_sif, e_or, e_op, e_c, e_call, e_cons, e_nil, e_var, List.getElem?_cons_zero, List.getElem?_cons_succ, rbind_ok, rto_ok, len_ok hs, oGe_int, hge, decide_true, ifK_t, e_ret, e_tup, hmin, List.length_cons, List.length_nil, Nat.zero_add, Nat.reduceAdd, two_le, if_true, obind_rt, runO_rt]
      rfl
    | cons c xs =>
      obtain ⟨hx, hd, hlt⟩ := drop_head hxs
      have hbx := D0.byte c (List.mem_of_getElem? hx)
      have hz := D0.len
      have ea : (a : Int) + 1 = ((a + 1 : Nat) : Int) := by omega
      have hnge : ¬ (l.length : Int) ≤ (a : Int) := by omega
      simp only [rp]
      by_cases h6 : 6 < c
      · rw [if_pos h6]
        refine ⟨s, ?_, Pre.refl⟩
        have hmin : cMin2 [.int (a : Int), .int (l.length : Int)] s = .ok (.int (a : Int)) s := by
          show R.ok (D.int (if (l.length : Int) < (a : Int) then _ else _)) s = _
          rw [if_neg (by omega)]
        simp only [B__law_read, e_seq, e_sif, e_or, e_op, e_c, e_call, e_cons, e_nil, e_var, List.getElem?_cons_zero, List.getElem?_cons_succ, rbind_ok, rto_ok, len_ok hs, oGe_int, hnge, decide_false, ix_ok hs hx, oGt_int, h6, decide_true, ifK_t, e_ret, e_tup, hmin, List.length_cons, List.length_nil, Nat.zero_add, Nat.reduceAdd, two_le, if_true, obind_rt, runO_rt]
        rfl
      · rw [if_neg h6]
        by_cases h3 : c < 3
        · rw [if_pos h3]
          have hix : oIx (.ref s.length) (.int c) (s ++ [C.lst [.non, .bl false, .bl true]]) = .ok (small c) (s ++ [C.lst [.non, .bl false, .bl true]]) := by
            have : c = 0 ∨ c = 1 ∨ c = 2 := by omega
            rcases this with rfl | rfl | rfl <;> exact oIx_lst app_last rfl
          refine ⟨s ++ [C.lst [.non, .bl false, .bl true]], ?_, Pre.app⟩
          simp only [B__law_read, e_seq, e_sif, e_or, e_op, e_c, e_call, e_cons, e_nil, e_var, List.getElem?_cons_zero, List.getElem?_cons_succ, rbind_ok, rto_ok, len_ok hs, oGe_int, hnge, decide_false, ix_ok hs hx, oGt_int, h6, ifK_f, e_bnil, obind_nx, e_set, List.set_cons_succ, List.set_cons_zero, oLt_int, h3, decide_true, ifK_t, e_ret, e_tup, e_lst, List.length_cons, List.length_nil, Nat.zero_add, Nat.reduceAdd, three_le, if_true, hix, oAdd_int, ea, obind_rt, runO_rt]
          rfl
        · rw [if_neg h3]
          by_cases h60 : c = 6 ∧ 60 ≤ d
          · rw [if_pos h60]
            obtain ⟨rfl, hd60⟩ := h60
            have hde : (d : Int) = 60 := by omega
            refine ⟨s, ?_, Pre.refl⟩
            simp only [B__law_read, e_seq, e_sif, e_or, e_and, e_op, e_c, e_call, e_cons, e_nil, e_var, List.getElem?_cons_zero, List.getElem?_cons_succ, rbind_ok, rto_ok, len_ok hs, oGe_int, hnge, decide_false, ix_ok hs hx, oGt_int, h6, ifK_f, e_bnil, obind_nx, e_set, List.set_cons_succ, List.set_cons_zero, oLt_int, h3, oEq_int, hde, decide_true, ifK_t, e_ret, e_tup, List.length_cons, List.length_nil, Nat.zero_add, Nat.reduceAdd, two_le, if_true, obind_rt, runO_rt]
            rfl
          · rw [if_neg h60]
            have h60' : ∀ t : S, (mAnd (mOp oEq (mVar 3) (mC (.int 6))) (mOp oEq (mVar 2) (mC (.int 60)))) [some (.ref k), some (.int (a : Int)), some (.int (d : Int)), some (.int c), none, none, none, none] t = .ok (.bl false) t := fun t => by
              by_cases hc6 : c = 6
              · have hde : ¬ (d : Int) = 60 := fun z => h60 ⟨hc6, by omega⟩
                simp only [e_and, e_op, e_var, e_c, List.getElem?_cons_zero, List.getElem?_cons_succ, rbind_ok, oEq_int, hc6, decide_true, hde, decide_false]
              · simp only [e_and, e_op, e_var, e_c, List.getElem?_cons_zero, List.getElem?_cons_succ, rbind_ok, oEq_int, hc6, decide_false]
            have hS := law_read_size_ok D0 hs (a := a + 1) (by omega)
            rw [hd] at hS
            generalize hg : (mAnd (mOp oEq (mVar 3) (mC (.int 6))) (mOp oEq (mVar 2) (mC (.int 60)))) = G at h60'
            have eB : B__law_read (F__law_read j) = (bSeq (sIf (mOr (mOp oGe (mVar 1) (mCall cLen (mCons (mVar 0) mNil))) (mOp oGt (mOp oIx (mVar 0) (mVar 1)) (mC (.int 6))))
                (sRet (mTup (mCons (mC (.bl false)) (mCons (mCall cMin2 (mCons (mVar 1) (mCons (mCall cLen (mCons (mVar 0) mNil)) mNil))) mNil))))
                bNil)
                (bSeq (sSet 3 (mOp oIx (mVar 0) (mVar 1)))
                (bSeq (sIf (mOp oLt (mVar 3) (mC (.int 3)))
                (sRet (mTup (mCons (mC (.bl true)) (mCons (mOp oIx (mLst (mCons (mC .non) (mCons (mC (.bl false)) (mCons (mC (.bl true)) mNil)))) (mVar 3)) (mCons (mOp oAdd (mVar 1) (mC (.int 1))) mNil)))))
                bNil)
                (bSeq (sIf G
                (sRet (mTup (mCons (mC (.bl false)) (mCons (mVar 1) mNil))))
                bNil)
                (bSeq (sSet 4 (mCall F__law_read_size (mCons (mVar 0) (mCons (mOp oAdd (mVar 1) (mC (.int 1))) mNil))))
                (bSeq (sIf (mNot (mOp oIx (mVar 4) (mC (.int 0))))
                (sRet (mVar 4))
                bNil)
                (bSeq (sIf (mOr (mOp oEq (mVar 3) (mC (.int 3))) (mOp oEq (mVar 3) (mC (.int 4))))
                (sRet (mTup (mCons (mC (.bl true)) (mCons (mIf (mOp oEq (mVar 3) (mC (.int 3))) (mOp oIx (mVar 4) (mC (.int 1))) (mOp oSub (mNeg (mC (.int 1))) (mOp oIx (mVar 4) (mC (.int 1))))) (mCons (mOp oIx (mVar 4) (mC (.int 2))) mNil)))))
                bNil)
                (bSeq (sIf (mOp oEq (mVar 3) (mC (.int 5)))
                (sRet (mCall F__law_read_text (mCons (mVar 0) (mCons (mOp oIx (mVar 4) (mC (.int 2))) (mCons (mOp oIx (mVar 4) (mC (.int 1))) mNil)))))
                bNil)
                (bSeq (sSet 5 (mLst mNil))
                (bSeq (sSet 1 (mOp oIx (mVar 4) (mC (.int 2))))
                (bSeq (sSet 6 (mOp oIx (mVar 4) (mC (.int 1))))
                (bSeq (whileK (T__law_read1 (F__law_read j)) (W__law_read1 (F__law_read j)) wf)
                restR)))))))))))) := by rw [← hg]; rfl
            rw [eB]
            cases e : rs true xs with
            | err o =>
              rw [e] at hS
              have hS : F__law_read_size [.ref k, .int ((a + 1 : Nat) : Int)] s = .ok (.tup [.bl false, .int ((a + 1 + o : Nat) : Int)]) s := hS
              refine ⟨s, ?_, Pre.refl⟩
              simp only [e_seq, e_sif, e_or, e_not, e_op, e_c, e_call, e_cons, e_nil, e_var, List.getElem?_cons_zero, List.getElem?_cons_succ, rbind_ok, rto_ok, len_ok hs, oGe_int, hnge, decide_false, ix_ok hs hx, oGt_int, h6, ifK_f, e_bnil, obind_nx, e_set, List.set_cons_succ, List.set_cons_zero, oLt_int, h3, h60', oAdd_int, ea, hS, ix2_0, Bool.not_false, ifK_t, e_ret, obind_rt, runO_rt, LdV, Nat.add_comm o 1, Nat.add_assoc]
            | ok n u =>
              rw [e] at hS
              have hS : F__law_read_size [.ref k, .int ((a + 1 : Nat) : Int)] s = .ok (.tup [.bl true, .int n, .int ((a + 1 + u : Nat) : Int)]) s := hS
              have hu := rs_used _ _ _ _ e
              have hnn := rs_nonneg xs true n u (fun x hx => D0.byte x (List.mem_of_mem_drop (by rw [hd]; exact hx))) e
              have hxl : xs.length = l.length - (a + 1) := by rw [← hd, List.length_drop]
              have hdd : l.drop (a + 1 + u) = xs.drop u := by rw [← hd, List.drop_drop]
              have hcc : c = 3 ∨ c = 4 ∨ c = 5 ∨ c = 6 := by omega
              dsimp only
              rcases hcc with rfl | rfl | rfl | rfl
              · rw [if_pos rfl]
                refine ⟨s, ?_, Pre.refl⟩
                simp only [e_seq, e_sif, e_or, e_not, e_if, e_op, e_c, e_call, e_cons, e_nil, e_var, List.getElem?_cons_zero, List.getElem?_cons_succ, rbind_ok, rto_ok, len_ok hs, oGe_int, hnge, decide_false, ix_ok hs hx, oGt_int, h6, ifK_f, e_bnil, obind_nx, e_set, List.set_cons_succ, List.set_cons_zero, oLt_int, h3, h60', oAdd_int, ea, hS, ix3_0, ix3_1, ix3_2, Bool.not_true, oEq_int, decide_true, ifK_t, e_ret, e_tup, List.length_cons, List.length_nil, Nat.zero_add, Nat.reduceAdd, three_le, if_true, obind_rt, runO_rt, LdV, Nat.add_assoc]
              · rw [if_neg (by omega), if_pos rfl]
                refine ⟨s, ?_, Pre.refl⟩
                simp only [e_seq, e_sif, e_or, e_not, e_if, e_neg, oSub_int, e_op, e_c, e_call, e_cons, e_nil, e_var, List.getElem?_cons_zero, List.getElem?_cons_succ, rbind_ok, rto_ok, len_ok hs, oGe_int, hnge, decide_false, ix_ok hs hx, oGt_int, h6, ifK_f, e_bnil, obind_nx, e_set, List.set_cons_succ, List.set_cons_zero, oLt_int, h3, h60', oAdd_int, ea, hS, ix3_0, ix3_1, ix3_2, Bool.not_true, oEq_int, decide_true, ifK_t, e_ret, e_tup, List.length_cons, List.length_nil, Nat.zero_add, Nat.reduceAdd, three_le, if_true, obind_rt, runO_rt, LdV, Nat.add_assoc, show ((4 : Int) = 3) = False from by simp]
              · rw [if_neg (by omega), if_neg (by omega), if_pos rfl]
                have hT := law_read_text_ok D0 hs (a := a + 1 + u) (m := n.toNat) (by omega)
                rw [Int.toNat_of_nonneg hnn, hdd] at hT
                refine ⟨s, ?_, Pre.refl⟩
                have hsimp : ∀ r, F__law_read_text [.ref k, .int ((a + 1 + u : Nat) : Int), .int n] s = .ok r s → runO ((bSeq (sIf (mOr (mOp oGe (mVar 1) (mCall cLen (mCons (mVar 0) mNil))) (mOp oGt (mOp oIx (mVar 0) (mVar 1)) (mC (.int 6))))
                    (sRet (mTup (mCons (mC (.bl false)) (mCons (mCall cMin2 (mCons (mVar 1) (mCons (mCall cLen (mCons (mVar 0) mNil)) mNil))) mNil))))
                    bNil)
                    (bSeq (sSet 3 (mOp oIx (mVar 0) (mVar 1)))
                    (bSeq (sIf (mOp oLt (mVar 3) (mC (.int 3)))
                    (sRet (mTup (mCons (mC (.bl true)) (mCons (mOp oIx (mLst (mCons (mC .non) (mCons (mC (.bl false)) (mCons (mC (.bl true)) mNil)))) (mVar 3)) (mCons (mOp oAdd (mVar 1) (mC (.int 1))) mNil)))))
                    bNil)
                    (bSeq (sIf G
                    (sRet (mTup (mCons (mC (.bl false)) (mCons (mVar 1) mNil))))
                    bNil)
                    (bSeq (sSet 4 (mCall F__law_read_size (mCons (mVar 0) (mCons (mOp oAdd (mVar 1) (mC (.int 1))) mNil))))
                    (bSeq (sIf (mNot (mOp oIx (mVar 4) (mC (.int 0))))
                    (sRet (mVar 4))
                    bNil)
                    (bSeq (sIf (mOr (mOp oEq (mVar 3) (mC (.int 3))) (mOp oEq (mVar 3) (mC (.int 4))))
                    (sRet (mTup (mCons (mC (.bl true)) (mCons (mIf (mOp oEq (mVar 3) (mC (.int 3))) (mOp oIx (mVar 4) (mC (.int 1))) (mOp oSub (mNeg (mC (.int 1))) (mOp oIx (mVar 4) (mC (.int 1))))) (mCons (mOp oIx (mVar 4) (mC (.int 2))) mNil)))))
                    bNil)
                    (bSeq (sIf (mOp oEq (mVar 3) (mC (.int 5)))
                    (sRet (mCall F__law_read_text (mCons (mVar 0) (mCons (mOp oIx (mVar 4) (mC (.int 2))) (mCons (mOp oIx (mVar 4) (mC (.int 1))) mNil)))))
                    bNil)
                    (bSeq (sSet 5 (mLst mNil))
                    (bSeq (sSet 1 (mOp oIx (mVar 4) (mC (.int 2))))
                    (bSeq (sSet 6 (mOp oIx (mVar 4) (mC (.int 1))))
                    (bSeq (whileK (T__law_read1 (F__law_read j)) (W__law_read1 (F__law_read j)) wf)
                    restR)))))))))))) [some (.ref k), some (.int (a : Int)), some (.int (d : Int)), none, none, none, none, none] s) = .ok r s := fun r hr => by
                  simp only [e_seq, e_sif, e_or, e_not, e_op, e_c, e_call, e_cons, e_nil, e_var, List.getElem?_cons_zero, List.getElem?_cons_succ, rbind_ok, rto_ok, len_ok hs, oGe_int, hnge, decide_false, ix_ok hs hx, oGt_int, h6, ifK_f, e_bnil, obind_nx, e_set, List.set_cons_succ, List.set_cons_zero, oLt_int, h3, h60', oAdd_int, ea, hS, ix3_0, ix3_1, ix3_2, Bool.not_true, oEq_int, decide_true, ifK_t, e_ret, hr, obind_rt, runO_rt, show ((5 : Int) = 3) = False from by simp, show ((5 : Int) = 4) = False from by simp]
                cases e2 : rt n.toNat (xs.drop u) with
                | ok ds =>
                  rw [e2] at hT
                  rw [hsimp _ hT]
                  simp only [LdV, Nat.add_assoc]
                | err q =>
                  rw [e2] at hT
                  rw [hsimp _ hT]
                  simp only [LdV, Nat.add_assoc]
              · rw [if_neg (by omega), if_neg (by omega), if_neg (by omega)]
                have hw' : wf - 1 + 1 = wf := by unfold wf; rfl
                have z : (0 : Nat) ≤ sizeLine := Nat.zero_le _
                obtain ⟨s', hp, hL⟩ := law_parts_r D0 (F__law_read j) (rp j (d + 1)) (fun xs v u => rp_used j (d + 1) xs v u) d (some (.int 6)) (some (.tup [.bl true, .int n, .int ((a + 1 + u : Nat) : Int)])) s s.length (Nat.le_refl _)
                  (fun a s hs ha => law_read_ok D0 j (d + 1) a s (by have := h60; omega) (by omega) (by have := h60; omega) hs ha) (wf - 1) n.toNat (a + 1 + u) [] none (s ++ [C.lst []]) (by unfold wf; omega) (Pre.app _ _ hs) (Nat.ne_of_lt (lt_of_get hs)) Pre.app app_last (by omega) (Nat.zero_le _)
                rw [hw', Int.toNat_of_nonneg hnn, hdd] at hL
                refine ⟨s', ?_, hp⟩
                simp only [e_seq, e_sif, e_or, e_not, e_op, e_c, e_call, e_cons, e_nil, e_var, List.getElem?_cons_zero, List.getElem?_cons_succ, rbind_ok, rto_ok, len_ok hs, oGe_int, hnge, decide_false, ix_ok hs hx, oGt_int, h6, ifK_f, e_bnil, obind_nx, e_set, List.set_cons_succ, List.set_cons_zero, oLt_int, h3, h60', oAdd_int, ea, hS, ix3_0, ix3_1, ix3_2, Bool.not_true, oEq_int, e_lst, List.length_nil, z, if_true, show ((6 : Int) = 3) = False from by simp, show ((6 : Int) = 4) = False from by simp, show ((6 : Int) = 5) = False from by simp]
                rw [hL]
                cases rps (rp j (d + 1)) n.toNat (xs.drop u) with
                | ok vs w => simp only [runO_rt, LdV, List.nil_append, Nat.add_assoc]
                | err q => simp only [runO_rt, LdV, Nat.add_assoc]
end
end G85
end Mi
namespace Mi
namespace G85
open PySem PySem.Spec PyProof.Rows L2

/-! ### what is read packs to what was read -/
abbrev By (xs : List Int) : Prop := ∀ x ∈ xs, 0 ≤ x ∧ x < 256
theorem rs_sz : ∀ (xs : List Int) (f : Bool) (n : Int) (u : Nat), By xs → rs f xs = .ok n u → sz n.toNat = xs.take u ∧ 0 ≤ n ∧ (f = false → 1 ≤ n)
  | [], f, n, u, hb, h => by cases h
  | x :: xs, f, n, u, hb, h => by
    unfold rs at h
    have hx := hb x (List.mem_cons_self ..)
    split at h
    · rename_i hge
      split at h
      · rename_i m w e
        cases h
        obtain ⟨h1, h2, h3⟩ := rs_sz xs false m w (fun y hy => hb y (List.mem_cons_of_mem _ hy)) e
        have h4 := h3 rfl
        refine ⟨?_, by omega, fun _ => by omega⟩
        have hn : ¬ (x - 128 + 128 * m).toNat < 128 := by omega
        rw [sz_ge hn, List.take_succ_cons, ← h1]
        have e1 : (((x - 128 + 128 * m).toNat % 128 + 128 : Nat) : Int) = x := by omega
        have e2 : (x - 128 + 128 * m).toNat / 128 = m.toNat := by omega
        rw [e1, e2]
      · cases h
    · rename_i hlt
      split at h
      · cases h
      · rename_i hz
        cases h
        refine ⟨?_, hx.1, fun hf => ?_⟩
        · rw [sz_lt (by omega), Int.toNat_of_nonneg hx.1]
          rfl
        · have : ¬ x = 0 := fun z => hz ⟨z, hf⟩
          omega
theorem rt_codes : ∀ (m : Nat) (xs : List Int) (cs : List Nat), By xs → rt m xs = .ok cs → cs.length = m ∧ (cs.all fun (c : Nat) => isSign c) = true ∧ (cs.map fun (c : Nat) => (c : Int)) = xs.take m
  | 0, xs, cs, hb, h => by
    cases h
    exact ⟨rfl, rfl, rfl⟩
  | m + 1, [], cs, hb, h => by cases h
  | m + 1, x :: xs, cs, hb, h => by
    unfold rt at h
    have hx := hb x (List.mem_cons_self ..)
    split at h
    · rename_i hs
      split at h
      · rename_i cs' e
        cases h
        obtain ⟨h1, h2, h3⟩ := rt_codes m xs cs' (fun y hy => hb y (List.mem_cons_of_mem _ hy)) e
        have ex : ((x.toNat : Nat) : Int) = x := Int.toNat_of_nonneg hx.1
        refine ⟨by rw [List.length_cons, h1], ?_, ?_⟩
        · rw [List.all_cons, h2, ex, hs]
          rfl
        · rw [List.map_cons, h3, ex]
          rfl
      · cases h
    · cases h
theorem by_drop {xs : List Int} (h : By xs) (u : Nat) : By (xs.drop u) := fun x hx => h x (List.mem_of_mem_drop hx)
theorem rps_pk {f : List Int → RP} {d : Nat} (hf : ∀ xs v u, By xs → f xs = .ok v u → pk d v = some (xs.take u)) : ∀ (m : Nat) (xs : List Int) (vs : List D) (w : Nat), By xs → rps f m xs = .ok vs w → vs.length = m ∧ pkAll d vs = some (xs.take w)
  | 0, xs, vs, w, hb, h => by
    cases h
    exact ⟨rfl, rfl⟩
  | m + 1, xs, vs, w, hb, h => by
    unfold rps at h
    split at h
    · cases h
    · rename_i v u e
      split at h
      · rename_i vs' w' e2
        cases h
        have h1 := hf _ _ _ hb e
        obtain ⟨h2, h3⟩ := rps_pk hf m _ _ _ (by_drop hb u) e2
        refine ⟨by rw [List.length_cons, h2], ?_⟩
        simp only [pkAll, h1, h3, List.take_add]
      · cases h
theorem rp_pk : ∀ (j d : Nat) (xs : List Int) (v : D) (u : Nat), By xs → rp j d xs = .ok v u → pk d v = some (xs.take u)
  | 0, d, xs, v, u, hb, h => by cases h
  | j + 1, d, [], v, u, hb, h => by cases h
  | j + 1, d, c :: xs, v, u, hb, h => by
    have hx := hb c (List.mem_cons_self ..)
    have hb' : By xs := fun y hy => hb y (List.mem_cons_of_mem _ hy)
    simp only [rp] at h
    split at h
    · cases h
    · split at h
      · cases h
        have : c = 0 ∨ c = 1 ∨ c = 2 := by omega
        rcases this with rfl | rfl | rfl <;> rfl
      · split at h
        · cases h
        · rename_i h6 h3 h60
          split at h
          · cases h
          · rename_i n w e
            obtain ⟨h1, h2, _⟩ := rs_sz _ _ _ _ hb' e
            split at h
            · rename_i hc
              cases h
              subst hc
              simp only [pk, if_pos h2, h1]
              rw [Nat.add_comm 1 w, List.take_succ_cons]
            · split at h
              · rename_i hc
                cases h
                subst hc
                have hneg : ¬ 0 ≤ -1 - n := by omega
                simp only [pk, if_neg hneg, show -1 - (-1 - n) = n by omega, h1]
                rw [Nat.add_comm 1 w, List.take_succ_cons]
              · split at h
                · rename_i hc
                  split at h
                  · rename_i cs e2
                    cases h
                    subst hc
                    obtain ⟨g1, g2, g3⟩ := rt_codes _ _ _ (by_drop hb' w) e2
                    simp only [pk]
                    rw [if_pos (by simpa using g2)]
                    have el : (⟨cs.toArray⟩ : Str).length = n.toNat := by
                      show cs.toArray.size = _
                      simpa using g1
                    have ec : codes ⟨cs.toArray⟩ = (xs.drop w).take n.toNat := by
                      show (cs.toArray.toList.map fun (c : Nat) => (c : Int)) = _
                      simpa using g3
                    rw [el, ec, h1, ← List.take_add, show 1 + w + cs.length = w + n.toNat + 1 by omega, List.take_succ_cons]
                  · cases h
                · split at h
                  · rename_i hc5 vs w2 e2
                    cases h
                    have hc : c = 6 := by omega
                    subst hc
                    obtain ⟨g1, g2⟩ := rps_pk (fun xs v u => rp_pk j (d + 1) xs v u) _ _ _ _ (by_drop hb' w) e2
                    have hd : d < 60 := by
                      by_cases q : 60 ≤ d
                      · exact absurd ⟨rfl, q⟩ h60
                      · omega
                    simp only [pk, if_pos hd, g2, Option.map_some]
                    rw [g1, h1, ← List.take_add, show 1 + w + w2 = w + w2 + 1 by omega, List.take_succ_cons]
                  · cases h
/-! ### alike -/
theorem pk_parts : ∀ (d : Nat) (ds : List D) (b : List Int), pkAll d ds = some b → ∀ x ∈ ds, ∃ c, pk d x = some c
  | d, [], b, h, x, hx => absurd hx (by simp)
  | d, y :: ys, b, h, x, hx => by
    simp only [pkAll] at h
    split at h
    · rename_i a c ha hc
      rcases List.mem_cons.mp hx with rfl | hx
      · exact ⟨a, ha⟩
      · exact pk_parts d ys c hc x hx
    · cases h
theorem alike_loop (F : List D → S → R D) (ds : List D) (s : S) (hF : ∀ x ∈ ds, F [x, x] s = .ok (.bl true) s) : ∀ (m i : Nat) (o : Option D), i + m = ds.length →
    ∃ o', loop none (gN 2) (W__law_alike1 F) (rngL (i : Int) m) [some (.tup ds), some (.tup ds), o] s = .nx [some (.tup ds), some (.tup ds), o'] s
  | 0, i, o, h => ⟨o, loop_nil (g := none) trivial⟩
  | m + 1, i, o, h => by
    have hi : i < ds.length := by omega
    have hg : ds[i]? = some ds[i] := List.getElem?_eq_getElem hi
    have hx : oIx (.tup ds) (.int (i : Int)) s = .ok ds[i] s := oIx_tup (by rw [atI_nat, hg])
    have ei : (i : Int) + 1 = ((i + 1 : Nat) : Int) := by omega
    rw [show rngL (i : Int) (m + 1) = .int (i : Int) :: rngL ((i : Int) + 1) m from rfl, loop_cons (g := none) trivial (gN_eq _ _ _)]
    have hw : W__law_alike1 F ([some (.tup ds), some (.tup ds), o].set 2 (some (.int (i : Int)))) s = .nx [some (.tup ds), some (.tup ds), some (.int (i : Int))] s := by
      simp only [List.set_cons_succ, List.set_cons_zero, W__law_alike1, e_sif, e_not, e_call, e_cons, e_nil, e_op, e_var, List.getElem?_cons_zero, List.getElem?_cons_succ, rbind_ok, hx, hF _ (List.getElem_mem hi), Bool.not_true, rto_ok, ifK_f, e_bnil]
    rw [hw, ei]
    exact alike_loop F ds s hF m (i + 1) (some (.int (i : Int))) (by omega)
theorem sign_small {x : Str} (h : (x.cps.toList.all fun (c : Nat) => isSign c) = true) : x.cps.all (· < 0x110000) = true := by
  rw [Array.all_eq_true']
  intro c hc
  have := List.all_eq_true.mp h c (by simpa using hc)
  have := isSign_of this
  simp
  omega
theorem alike_ok : ∀ (j d : Nat) (v : D) (b : List Int) (s : S), 1 ≤ j → 61 ≤ j + d → pk d v = some b → F__law_alike j [v, v] s = .ok (.bl true) s
  | 0, _, _, _, _, h, _, _ => absurd h (by omega)
  | j + 1, d, v, b, s, hj, hjd, hp => by
    have e0 : F__law_alike (j + 1) [v, v] s = runO (B__law_alike (F__law_alike j) [some v, some v, none] s) := by
      show runF 2 3 _ _ _ = _
      rw [runF_eq (n := 2) rfl]
      rfl
    rw [e0]
    cases v with
    | non => simp [B__law_alike, isN]
    | bl q =>
      have h1 : cIsi [.bl q, .ty "bool"] s = .ok (.bl true) s := isi_of rfl (by simp)
      simp only [B__law_alike, e_seq, e_sif, e_op, e_var, e_c, List.getElem?_cons_zero, List.getElem?_cons_succ, rbind_ok, rto_ok, oIs_non, isN, ifK_f, e_bnil, obind_nx, e_call, e_cons, e_nil, h1, ifK_t, e_ret, e_and, oEq_bl, beq_self_eq_true, obind_rt, runO_rt]
    | int i =>
      have h1 : cIsi [.int i, .ty "bool"] s = .ok (.bl false) s := isi_of (t := "int") rfl (by simp)
      have h2 : cIsi [.int i, .ty "int"] s = .ok (.bl true) s := isi_of (t := "int") rfl (by simp)
      simp only [B__law_alike, e_seq, e_sif, e_op, e_var, e_c, List.getElem?_cons_zero, List.getElem?_cons_succ, rbind_ok, rto_ok, oIs_non, isN, ifK_f, e_bnil, obind_nx, e_call, e_cons, e_nil, h1, h2, ifK_t, e_ret, e_and, e_not, Bool.not_false, oEq_int, decide_true, obind_rt, runO_rt]
    | str x =>
      have h1 : cIsi [.str x, .ty "bool"] s = .ok (.bl false) s := isi_of (t := "str") rfl (by simp)
      have h2 : cIsi [.str x, .ty "int"] s = .ok (.bl false) s := isi_of (t := "str") rfl (by simp)
      have h3 : cIsi [.str x, .ty "str"] s = .ok (.bl true) s := isi_of (t := "str") rfl (by simp)
      have hx : x.cps.all (· < 0x110000) = true := by
        simp only [pk] at hp
        split at hp
        · rename_i h
          exact sign_small h
        · cases hp
      have hq : oEq (.str x) (.str x) s = .ok (.bl true) s := by rw [oEq_str hx hx, beq_self_eq_true]
      simp only [B__law_alike, e_seq, e_sif, e_op, e_var, e_c, List.getElem?_cons_zero, List.getElem?_cons_succ, rbind_ok, rto_ok, oIs_non, isN, ifK_f, e_bnil, obind_nx, e_call, e_cons, e_nil, h1, h2, h3, ifK_t, e_ret, e_and, hq, obind_rt, runO_rt]
    | tup ds =>
      have h1 : cIsi [.tup ds, .ty "bool"] s = .ok (.bl false) s := isi_of (t := "tuple") rfl (by simp)
      have h2 : cIsi [.tup ds, .ty "int"] s = .ok (.bl false) s := isi_of (t := "tuple") rfl (by simp)
      have h3 : cIsi [.tup ds, .ty "str"] s = .ok (.bl false) s := isi_of (t := "tuple") rfl (by simp)
      have h4 : cIsi [.tup ds, .ty "tuple"] s = .ok (.bl true) s := isi_of (t := "tuple") rfl (by simp)
      have hpd : d < 60 ∧ ∃ c, pkAll (d + 1) ds = some c := by
        simp only [pk] at hp
        split at hp
        · rename_i h
          obtain ⟨c, hc, _⟩ := Option.map_eq_some_iff.mp hp
          exact ⟨h, c, hc⟩
        · cases hp
      obtain ⟨hd, c, hc⟩ := hpd
      obtain ⟨o', hL⟩ := alike_loop (F__law_alike j) ds s (fun x hx => by
        obtain ⟨b, hb⟩ := pk_parts (d + 1) ds c hc x hx
        exact alike_ok j (d + 1) x b s (by omega) (by omega) hb) ds.length 0 none (Nat.zero_add _)
      have hL : loop none (gN 2) (W__law_alike1 (F__law_alike j)) (rngL 0 ds.length) [some (.tup ds), some (.tup ds), none] s = .nx [some (.tup ds), some (.tup ds), o'] s := hL
      simp only [B__law_alike, e_seq, e_sif, e_op, e_var, e_c, List.getElem?_cons_zero, List.getElem?_cons_succ, rbind_ok, rto_ok, oIs_non, isN, ifK_f, e_bnil, obind_nx, e_call, e_cons, e_nil, h1, h2, h3, h4, e_or, e_not, Bool.not_true, cLen_tup, oNe_int, decide_true, e_for, e_rng1, e_rngK1, Int.toNat_natCast, hL, e_ret, runO_rt]
    | _ => simp [pk] at hp
mutual
theorem vd_of_pk {s : S} : ∀ {v : D} {d : Nat} {b : List Int}, pk d v = some b → Vd s v
  | .non, _, _, _ => trivial
  | .bl _, _, _, _ => trivial
  | .int _, _, _, _ => trivial
  | .str _, _, _, _ => trivial
  | .tup ds, d, b, h => by
    simp only [pk] at h
    split at h
    · obtain ⟨c, hc, _⟩ := Option.map_eq_some_iff.mp h
      exact vds_of_pk hc
    · cases h
  | .ref _, _, _, h => by simp [pk] at h
  | .ty _, _, _, h => by simp [pk] at h
  | .fn _, _, _, h => by simp [pk] at h
  | .frl _, _, _, h => by simp [pk] at h
  | .exn _ _ _ _ _, _, _, h => by simp [pk] at h
theorem vds_of_pk {s : S} : ∀ {vs : List D} {d : Nat} {b : List Int}, pkAll d vs = some b → VdAll s vs
  | [], _, _, _ => trivial
  | x :: xs, d, b, h => by
    simp only [pkAll] at h
    split at h
    · rename_i a c ha hc
      exact ⟨vd_of_pk ha, vds_of_pk hc⟩
    · cases h
end
/-! ### the error -/
theorem law_error_ok {y : Str} {F : List D → S → R D} (hG : G_err y = some F) {v x : D} {s s' : S} (h : F [v] s = .exc "PackError" "at" x s') :
    F__law_error [.fn y, v] s = .ok (.ref s'.length) (s' ++ [C.lst [.str "pack", x]]) := by
  have e0 : F__law_error [.fn y, v] s = runO (B__law_error [some (.fn y), some v, none] s) := by
    unfold F__law_error
    rw [runF_eq (n := 2) rfl]
    rfl
  have hm : mCallL G_err 0 (mCons (mVar 1) mNil) [some (.fn y), some v, none] s = .exc "PackError" "at" x s' := by
    show (match G_err y with
      | some F => ((mCons (mVar 1) mNil) [some (.fn y), some v, none] s).bind fun ds s1 => F ds s1
      | none => R.bad) = _
    rw [hG]
    simp only [e_cons, e_nil, e_var, List.getElem?_cons_zero, List.getElem?_cons_succ, rbind_ok, h]
  have ht : sTry 2 (mCallL G_err 0 (mCons (mVar 1) mNil)) (fun _ ε s => .nx ε s) su_err [some (.fn y), some v, none] s = .rt (.ref s'.length) (s' ++ [C.lst [.str "pack", x]]) := by
    unfold sTry
    rw [hm]
    show wipeO 2 (su_err _ _ _ _ _) = _
    unfold su_err
    rw [if_pos ⟨rfl, rfl, show 2 < 3 by decide⟩]
    rfl
  rw [e0]
  show runO ((sTry 2 _ _ _ _ _).bind _) = _
  rw [ht]
  rfl
theorem oEq_err {s : S} {i j : Nat} {x y : Int} (hi : s[i]? = some (C.lst [.str "pack", .int x])) (hj : s[j]? = some (C.lst [.str "pack", .int y])) : oEq (.ref i) (.ref j) s = .ok (.bl (decide (x = y))) s := by
  have hp : ∀ (k : Nat) (z : Int), s[k]? = some (C.lst [.str "pack", .int z]) → toPy s 66 (.ref k) = some (.list [.str "pack", .int z]) := fun k z hk => by
    show cellPy (toPy s 65) s[k]? = _
    rw [hk]
    rfl
  have hsh : ∀ z : Int, SeqAt.shaped (.list [.str "pack", .int z]) = true := fun z => by
    have : ("pack" : Str).cps.all (· < 0x110000) = true := by decide +kernel
    simp only [SeqAt.shaped, PyData.canLay0, PyData.canLayAll0, PyData.depth, PyData.depthAll]
    show ((("pack" : Str).cps.all (· < 0x110000) && _) && _) = true
    rw [this]
    rfl
  unfold oEq eqPy
  rw [hp i x hi, hp j y hj]
  dsimp only
  rw [if_pos ⟨hsh x, hsh y⟩]
  dsimp only
  congr 2
  simp [PyData.eqv, PyData.eqvAll]
  exact Bool.beq_eq_decide_eq x y
theorem G_pack : G_err "pack" = some F_pack := by
  unfold G_err
  rw [if_pos rfl]
theorem G_unpack : G_err "unpack" = some F_unpack := by
  unfold G_err
  rw [if_neg (by decide +kernel), if_pos rfl]
section
variable {l : List Int} {k : Nat}
theorem cList_lst {p : Nat} {ds : List D} {s : S} (h : s[p]? = some (C.lst ds)) : cList [.ref p] s = .ok (.ref s.length) (s ++ [C.lst ds]) := by
  show (match s[p]? with | some (.lst ds) => R.ok (D.ref s.length) (s ++ [C.lst ds]) | _ => R.bad) = _
  rw [h]
theorem unpacks_ok (D0 : Dt l) {s : S} (hs : s[k]? = some (C.lst (l.map D.int))) : ∃ s', F__law_unpacks [.ref k] s = .ok (.bl true) s' ∧ Pre s s' := by
  have e0 : F__law_unpacks [.ref k] s = runO (B__law_unpacks [some (.ref k), none, none, none] s) := by
    unfold F__law_unpacks
    rw [runF_eq (n := 1) rfl]
    rfl
  obtain ⟨s1, hR, p1⟩ := law_read_ok (k := k) D0 64 0 0 s (by omega) (by omega) (by omega) hs (Nat.zero_le _)
  rw [List.drop_zero] at hR
  have hR : F__law_read 64 [.ref k, .int 0, .int 0] s = .ok (LdV 0 (rp 64 0 l)) s1 := hR
  have hs1 := p1 _ _ hs
  have hU := unpack_ok (k := s1.length) D0 (s := s1 ++ [C.lst (l.map D.int)]) app_last
  have p2 : Pre s1 (s1 ++ [C.lst (l.map D.int)]) := Pre.app
  have hs2 := p2 _ _ hs1
  -- what the law says of it: an error at o, or a value
  have bad : ∀ (o : Nat) (t : S), F_unpack [.ref s1.length] (s1 ++ [C.lst (l.map D.int)]) = .exc "PackError" "at" (.int (o : Int)) t → Pre (s1 ++ [C.lst (l.map D.int)]) t →
      ∃ s', (mAnd (mOp oEq (mCall F__law_error (mCons (mC (.fn ("unpack" : Str))) (mCons (mVar 2) mNil))) (mLst (mCons (mC (.str ("pack" : Str))) (mCons (mOp oIx (mVar 1) (mC (.int 1))) mNil)))) (mOp oEq (mVar 2) (mVar 0))) [some (.ref k), some (.tup [.bl false, .int (o : Int)]), some (.ref s1.length), none] (s1 ++ [C.lst (l.map D.int)]) = .ok (.bl true) s' ∧ Pre s s' := fun o t ht hpt => by
    have hE := law_error_ok G_unpack ht
    have ha : (((t ++ [C.lst [.str "pack", .int (o : Int)]]) ++ [C.lst [.str "pack", .int (o : Int)]]))[t.length]? = some (C.lst [.str "pack", .int (o : Int)]) := by rw [app_get (by simp)]; exact app_last
    have hb : (((t ++ [C.lst [.str "pack", .int (o : Int)]]) ++ [C.lst [.str "pack", .int (o : Int)]]))[(t ++ [C.lst [.str "pack", .int (o : Int)]]).length]? = some (C.lst [.str "pack", .int (o : Int)]) := app_last
    have hq := oEq_err ha hb
    have p3 : Pre (s1 ++ [C.lst (l.map D.int)]) ((t ++ [C.lst [.str "pack", .int (o : Int)]]) ++ [C.lst [.str "pack", .int (o : Int)]]) := (hpt.trans Pre.app).trans Pre.app
    have hq2 := oEq_lst (p3 _ _ app_last) (p3 _ _ hs2)
    refine ⟨_, ?_, (p1.trans p2).trans p3⟩
    simp only [e_and, e_op, e_call, e_cons, e_nil, e_c, e_var, List.getElem?_cons_zero, List.getElem?_cons_succ, rbind_ok, hE, ix2_1, e_lst, List.length_cons, List.length_nil, Nat.zero_add, Nat.reduceAdd, two_le, if_true, hq, hq2, decide_true]
  have eB : B__law_unpacks = (bSeq (sSet 1 (mCall (F__law_read 64) (mCons (mVar 0) (mCons (mC (.int 0)) (mCons (mC (.int 0)) mNil)))))
    (bSeq (sIf (mAnd (mOp oIx (mVar 1) (mC (.int 0))) (mOp oLt (mOp oIx (mVar 1) (mC (.int 2))) (mCall cLen (mCons (mVar 0) mNil))))
    (sSet 1 (mTup (mCons (mC (.bl false)) (mCons (mOp oIx (mVar 1) (mC (.int 2))) mNil))))
    bNil)
    (bSeq (sSet 2 (mCall cList (mCons (mVar 0) mNil)))
    (bSeq (sIf (mNot (mOp oIx (mVar 1) (mC (.int 0))))
    (sRet (mAnd (mOp oEq (mCall F__law_error (mCons (mC (.fn ("unpack" : Str))) (mCons (mVar 2) mNil))) (mLst (mCons (mC (.str ("pack" : Str))) (mCons (mOp oIx (mVar 1) (mC (.int 1))) mNil)))) (mOp oEq (mVar 2) (mVar 0))))
    bNil)
    (bSeq (sSet 3 (mCall F_unpack (mCons (mVar 2) mNil)))
    (sRet (mAnd (mCall (F__law_alike 70) (mCons (mVar 3) (mCons (mOp oIx (mVar 1) (mC (.int 1))) mNil))) (mAnd (mOp oEq (mVar 2) (mVar 0)) (mOp oEq (mCall F_pack (mCons (mVar 3) mNil)) (mVar 0)))))))))) := rfl
  generalize hE : (mAnd (mOp oEq (mCall F__law_error (mCons (mC (.fn ("unpack" : Str))) (mCons (mVar 2) mNil))) (mLst (mCons (mC (.str ("pack" : Str))) (mCons (mOp oIx (mVar 1) (mC (.int 1))) mNil)))) (mOp oEq (mVar 2) (mVar 0))) = ER at bad eB
  rw [e0, eB]
  unfold rd at hU
  cases e : rp 64 0 l with
  | err o =>
    rw [e] at hR
    simp only [e] at hU
    have hR : F__law_read 64 [.ref k, .int 0, .int 0] s = .ok (.tup [.bl false, .int ((0 + o : Nat) : Int)]) s1 := hR
    rw [Nat.zero_add] at hR
    obtain ⟨t, ht, hpt⟩ := hU
    obtain ⟨s', hs', hp'⟩ := bad o t ht hpt
    refine ⟨s', ?_, hp'⟩
    simp only [e_seq, e_set, e_sif, e_and, e_not, e_op, e_call, e_cons, e_nil, e_var, e_c, List.getElem?_cons_zero, List.getElem?_cons_succ, rbind_ok, rto_ok, hR, List.set_cons_succ, List.set_cons_zero, obind_nx, ix2_0, ifK_f, e_bnil, cList_lst hs1, Bool.not_false, ifK_t, e_ret, hs', obind_rt, runO_rt]
  | ok v u =>
    rw [e] at hR
    simp only [e] at hU
    have hR : F__law_read 64 [.ref k, .int 0, .int 0] s = .ok (.tup [.bl true, v, .int ((0 + u : Nat) : Int)]) s1 := hR
    rw [Nat.zero_add] at hR
    by_cases hu : u < l.length
    · have hu' : (u : Int) < (l.length : Int) := by omega
      simp only [if_pos hu] at hU
      obtain ⟨t, ht, hpt⟩ := hU
      obtain ⟨s', hs', hp'⟩ := bad u t ht hpt
      refine ⟨s', ?_, hp'⟩
      simp only [e_seq, e_set, e_sif, e_and, e_not, e_op, e_call, e_cons, e_nil, e_var, e_c, List.getElem?_cons_zero, List.getElem?_cons_succ, rbind_ok, rto_ok, hR, List.set_cons_succ, List.set_cons_zero, obind_nx, ix3_0, ix3_2, len_ok hs1, oLt_int, hu', decide_true, ifK_t, e_tup, List.length_cons, List.length_nil, Nat.zero_add, Nat.reduceAdd, two_le, if_true, ix2_0, cList_lst hs1, Bool.not_false, e_ret, hs', obind_rt, runO_rt]
    · have hu' : ¬ (u : Int) < (l.length : Int) := by omega
      simp only [if_neg hu] at hU
      obtain ⟨t, ht, hpt⟩ := hU
      have hul := (rp_used 64 0 l v u e).2
      obtain rfl : u = l.length := by omega
      have hpk := rp_pk 64 0 l v l.length D0.byte e
      rw [List.take_length] at hpk
      have hbt := pk_len v 0 l hpk
      have hz := D0.len
      have hA := alike_ok 70 0 v l t (by omega) (by omega) hpk
      have hst := hpt _ _ app_last
      have hkt := hpt _ _ hs2
      have hq := oEq_lst hst hkt
      have hvd : Vd t v := vd_of_pk hpk
      have hP := pack_ok hvd (by rw [← hbt, sizeL]; omega)
      rw [hpk] at hP
      have hP : F_pack [v] t = .ok (.ref t.length) (t ++ [.lst (l.map D.int)]) := hP
      have hq2 := oEq_lst (app_last (s := t) (c := C.lst (l.map D.int))) ((Pre.app (s := t) (t := [C.lst (l.map D.int)])) _ _ hkt)
      refine ⟨t ++ [.lst (l.map D.int)], ?_, ((p1.trans p2).trans hpt).trans Pre.app⟩
      simp only [e_seq, e_set, e_sif, e_and, e_not, e_op, e_call, e_cons, e_nil, e_var, e_c, List.getElem?_cons_zero, List.getElem?_cons_succ, rbind_ok, rto_ok, hR, List.set_cons_succ, List.set_cons_zero, obind_nx, ix3_0, ix3_1, ix3_2, len_ok hs1, oLt_int, hu', decide_false, ifK_f, e_bnil, cList_lst hs1, Bool.not_true, ht, e_ret, hA, hq, decide_true, hP, hq2, runO_rt]
end
end G85
end Mi
namespace Mi
namespace G85
open PySem PySem.Spec PyProof.Rows L2

/-! ### comprehensions -/
open Classical in
theorem lc_nil {g : Option (Nat × C)} {i : Nat} {c m : M} {ε : Ev} {acc : List D} {s : S} (h : Gd g s) : lcL g i c m ε [] acc s = .ok acc s := if_pos h
open Classical in
theorem lc_cons {g : Option (Nat × C)} {i : Nat} {m : M} {ε : Ev} {d y : D} {ds acc : List D} {s s2 : S} (h : Gd g s) (hm : m ((ε.set i none).set i (some d)) s = .ok y s2) (hz : acc.length < sizeLine) : lcL g i yesM m ε (d :: ds) acc s = lcL g i yesM m ε ds (acc ++ [y]) s2 := by
  show (if Gd g s then (match m ((ε.set i none).set i (some d)) s with
        | .ok y s2 => if acc.length < sizeLine then lcL g i yesM m ε ds (acc ++ [y]) s2 else .bad
        | _ => .bad) else .bad : R (List D)) = _
  rw [if_pos h, hm]
  exact if_pos hz
@[simp] theorem e_lc {mi : Ev → S → R Walked} {i : Nat} {c m : M} {ε : Ev} {s : S} : mLc mi i c m ε s = (mi ε s).bind fun w s1 => (lcL w.2 i c m ε w.1 [] s1).bind fun ys s2 => .ok (.ref s2.length) (s2 ++ [C.lst ys]) := rfl

/-! ### the draw -/
structure DrawOk (a b : Nat) (s : S) : Prop where
  ex : ∃ (cells : List Int) (i v seed : Int), s[a]? = some (C.lst [.ref b, .int i, .int v, .int seed]) ∧ s[b]? = some (C.lst (cells.map D.int)) ∧ a ≠ b ∧ (∀ x ∈ cells, 0 ≤ x) ∧ -1 ≤ i ∧ 0 ≤ v ∧ 0 ≤ seed ∧ seed < 2147483647
structure Dw (a b : Nat) (s t : S) : Prop where
  keep : ∀ (r : Nat) (c : C), r ≠ a → s[r]? = some c → t[r]? = some c
  ok : DrawOk a b t
theorem Dw.trans {a b : Nat} {s t u : S} (x : Dw a b s t) (y : Dw a b t u) : Dw a b s u := ⟨fun r c h e => y.keep r c h (x.keep r c h e), y.ok⟩
theorem DrawOk.pre {a b : Nat} {s t : S} (h : DrawOk a b s) (p : Pre s t) : DrawOk a b t := by
  obtain ⟨cells, i, v, seed, h1, h2, h3⟩ := h.ex
  exact ⟨cells, i, v, seed, p _ _ h1, p _ _ h2, h3⟩
theorem Dw.pre {a b : Nat} {s t u : S} (x : Dw a b s t) (p : Pre t u) : Dw a b s u := ⟨fun r c h e => p r c (x.keep r c h e), x.ok.pre p⟩
theorem Dw.of {a b : Nat} {s t : S} (h : DrawOk a b s) (p : Pre s t) : Dw a b s t := ⟨fun r c _ e => p r c e, h.pre p⟩
theorem DrawOk.lt {a b : Nat} {s : S} (h : DrawOk a b s) : a < s.length := by
  obtain ⟨cells, i, v, seed, h1, _⟩ := h.ex
  exact lt_of_get h1
section
variable {a : Nat} {s : S} {w x y z d : D}
theorem q0 (h : s[a]? = some (C.lst [w, x, y, z])) : oIx (.ref a) (.int 0) s = .ok w s := oIx_lst h rfl
theorem q1 (h : s[a]? = some (C.lst [w, x, y, z])) : oIx (.ref a) (.int 1) s = .ok x s := oIx_lst h rfl
theorem q2 (h : s[a]? = some (C.lst [w, x, y, z])) : oIx (.ref a) (.int 2) s = .ok y s := oIx_lst h rfl
theorem q3 (h : s[a]? = some (C.lst [w, x, y, z])) : oIx (.ref a) (.int 3) s = .ok z s := oIx_lst h rfl
theorem setAt_of {k : Nat} {ds : List D} {i : Int} {j : Nat} (h : s[k]? = some (C.lst ds)) (hj : ixN ds.length i = some j) : setAt (.ref k) (.int i) d s = some (s.set k (C.lst (ds.set j d))) := by
  show setCell k i d s[k]? s = _
  rw [h]
  show (ixN ds.length i).map _ = _
  rw [hj]
  rfl
theorem p1 (h : s[a]? = some (C.lst [w, x, y, z])) : setAt (.ref a) (.int 1) d s = some (s.set a (C.lst [w, d, y, z])) := setAt_of (i := 1) (j := 1) h rfl
theorem p2 (h : s[a]? = some (C.lst [w, x, y, z])) : setAt (.ref a) (.int 2) d s = some (s.set a (C.lst [w, x, d, z])) := setAt_of (i := 2) (j := 2) h rfl
theorem p3 (h : s[a]? = some (C.lst [w, x, y, z])) : setAt (.ref a) (.int 3) d s = some (s.set a (C.lst [w, x, y, d])) := setAt_of (i := 3) (j := 3) h rfl
end
theorem cm48 {i : Int} (h0 : 0 ≤ i) (h1 : i < 2147483647) : CMulW i 48271 := wide_mul (a := 31) (b := 16) (by omega) (by decide) (by decide) (by decide) (by decide)
theorem cdv {i m : Int} (h0 : 0 < m) (h1 : m < 2 ^ 64) : CDivW i m := wide_div (b := 64) h0 (by omega) (by decide) (by decide)
theorem dw_set {a b : Nat} {s : S} {cells : List Int} {i v seed : Int} {c : C} (ha : s[a]? = some c) (hb : s[b]? = some (C.lst (cells.map D.int))) (hab : a ≠ b) (hc : ∀ x ∈ cells, 0 ≤ x) (hi : -1 ≤ i) (hv : 0 ≤ v) (h0 : 0 ≤ seed) (h1 : seed < 2147483647) :
    Dw a b s (s.set a (C.lst [.ref b, .int i, .int v, .int seed])) :=
  ⟨fun r c hr e => by rw [set_get, if_neg (Ne.symm hr)]; exact e, ⟨cells, i, v, seed, set_at ha, by rw [set_get, if_neg hab]; exact hb, hab, hc, hi, hv, h0, h1⟩⟩
noncomputable def restK : B := (bSeq (sSet 2 (mOp oMod (mCall cInt (mCons (mOp oIx (mVar 0) (mC (.int 2))) mNil)) (mVar 1)))
  (bSeq (sSub (mOp oFdiv (mOp oIx (mVar 0) (mC (.int 2))) (mVar 1)) (mVar 0) (mC (.int 2)))
  (sRet (mVar 2))))
theorem take_rest {a b : Nat} {s : S} {cells : List Int} {i v seed m : Int} {o : Option D} (ha : s[a]? = some (C.lst [.ref b, .int i, .int v, .int seed])) (hb : s[b]? = some (C.lst (cells.map D.int))) (hab : a ≠ b) (hc : ∀ x ∈ cells, 0 ≤ x) (hi : -1 ≤ i) (hv : 0 ≤ v) (h0 : 0 ≤ seed) (h1 : seed < 2147483647) (hm : 0 < m) (hm2 : m < 2 ^ 64) :
    restK [some (.ref a), some (.int m), o] s = .rt (.int (v % m)) (s.set a (C.lst [.ref b, .int i, .int (v / m), .int seed])) := by
  simp only [restK, e_seq, e_set, e_op, e_call, e_cons, e_nil, e_var, e_c, List.getElem?_cons_zero, List.getElem?_cons_succ, rbind_ok, rto_ok, q2 ha, cInt_int, oMod_int hm, List.set_cons_succ, List.set_cons_zero, obind_nx, e_sub, oFdiv_int (cdv hm hm2), p2 ha, e_ret]
theorem take_ok {a b : Nat} {s : S} (h : DrawOk a b s) {m : Int} (hm : 0 < m) (hm2 : m < 2 ^ 64) : ∃ f s', F__law_take [.ref a, .int m] s = .ok (.int f) s' ∧ 0 ≤ f ∧ f < m ∧ Dw a b s s' := by
  obtain ⟨cells, i, v, seed, ha, hb, hab, hc, hi, hv, h0, h1⟩ := h.ex
  have e0 : F__law_take [.ref a, .int m] s = runO (B__law_take [some (.ref a), some (.int m), none] s) := by
    unfold F__law_take
    rw [runF_eq (n := 2) rfl]
    rfl
  have eB : B__law_take = bSeq (sIf (mOp oEq (mOp oIx (mVar 0) (mC (.int 2))) (mC (.int 0)))
    (bSeq (sSub (mOp oAdd (mOp oIx (mVar 0) (mC (.int 1))) (mC (.int 1))) (mVar 0) (mC (.int 1)))
    (bSeq (sIf (mOp oLt (mOp oIx (mVar 0) (mC (.int 1))) (mCall cLen (mCons (mOp oIx (mVar 0) (mC (.int 0))) mNil)))
    (sSub (mOp oIx (mOp oIx (mVar 0) (mC (.int 0))) (mOp oIx (mVar 0) (mC (.int 1)))) (mVar 0) (mC (.int 2)))
    bNil)
    (sIf (mOp oEq (mOp oIx (mVar 0) (mC (.int 2))) (mC (.int 0)))
    (bSeq (sSub (mOp oMod (mCall cInt (mCons (mOp oAdd (mOp oMul (mOp oIx (mVar 0) (mC (.int 3))) (mC (.int 48271))) (mC (.int 11))) mNil)) (mC (.int 2147483647))) (mVar 0) (mC (.int 3)))
    (sSub (mOp oIx (mVar 0) (mC (.int 3))) (mVar 0) (mC (.int 2))))
    bNil)))
    bNil) restK := rfl
  have fin : ∀ (t : S) (i' v' seed' : Int), t[a]? = some (C.lst [.ref b, .int i', .int v', .int seed']) → t[b]? = some (C.lst (cells.map D.int)) → (∀ (r : Nat) (c : C), r ≠ a → s[r]? = some c → t[r]? = some c) → -1 ≤ i' → 0 ≤ v' → 0 ≤ seed' → seed' < 2147483647 →
      ∃ f s', runO (restK [some (.ref a), some (.int m), none] t) = .ok (.int f) s' ∧ 0 ≤ f ∧ f < m ∧ Dw a b s s' := fun t i' v' seed' ta tb tk t1 t2 t3 t4 => by
    refine ⟨v' % m, _, by rw [take_rest ta tb hab hc t1 t2 t3 t4 hm hm2]; rfl, Int.emod_nonneg _ (by omega), Int.emod_lt_of_pos _ hm, ?_⟩
    have hd := dw_set (i := i') (v := v' / m) (seed := seed') ta tb hab hc t1 (Int.ediv_nonneg t2 (by omega)) t3 t4
    exact ⟨fun r c hr e => hd.keep r c hr (tk r c hr e), hd.ok⟩
  rw [e0, eB]
  by_cases hv0 : v = 0
  · subst hv0
    have ha1 : (s.set a (C.lst [.ref b, .int (i + 1), .int 0, .int seed]))[a]? = some (C.lst [.ref b, .int (i + 1), .int 0, .int seed]) := set_at ha
    have hb1 : (s.set a (C.lst [.ref b, .int (i + 1), .int 0, .int seed]))[b]? = some (C.lst (cells.map D.int)) := by rw [set_get, if_neg hab]; exact hb
    have hn0 : 0 ≤ (seed * 48271 + 11) % 2147483647 := Int.emod_nonneg _ (by decide)
    have hn1 : (seed * 48271 + 11) % 2147483647 < 2147483647 := Int.emod_lt_of_pos _ (by decide)
    have tail : ∀ (i' : Int), -1 ≤ i' → (sIf (mOp oEq (mOp oIx (mVar 0) (mC (.int 2))) (mC (.int 0)))
        (bSeq (sSub (mOp oMod (mCall cInt (mCons (mOp oAdd (mOp oMul (mOp oIx (mVar 0) (mC (.int 3))) (mC (.int 48271))) (mC (.int 11))) mNil)) (mC (.int 2147483647))) (mVar 0) (mC (.int 3)))
        (sSub (mOp oIx (mVar 0) (mC (.int 3))) (mVar 0) (mC (.int 2))))
        bNil) [some (.ref a), some (.int m), none] (s.set a (C.lst [.ref b, .int i', .int 0, .int seed])) = .nx [some (.ref a), some (.int m), none] (s.set a (C.lst [.ref b, .int i', .int ((seed * 48271 + 11) % 2147483647), .int ((seed * 48271 + 11) % 2147483647)])) := fun i' hi' => by
      have hx : (s.set a (C.lst [.ref b, .int i', .int 0, .int seed]))[a]? = some (C.lst [.ref b, .int i', .int 0, .int seed]) := set_at ha
      have hy : (s.set a (C.lst [.ref b, .int i', .int 0, .int ((seed * 48271 + 11) % 2147483647)]))[a]? = some (C.lst [.ref b, .int i', .int 0, .int ((seed * 48271 + 11) % 2147483647)]) := set_at ha
      simp only [e_sif, e_op, e_var, e_c, List.getElem?_cons_zero, List.getElem?_cons_succ, rbind_ok, rto_ok, q2 hx, oEq_int, decide_true, ifK_t, e_seq, e_sub, e_call, e_cons, e_nil, q3 hx, oMul_int (cm48 h0 h1), oAdd_int, cInt_int, oMod_int (show (0 : Int) < 2147483647 by decide), p3 hx, obind_nx, List.set_set, q3 hy, p2 hy]
    by_cases hl : i + 1 < (cells.length : Int)
    · have hnat : i + 1 = (((i + 1).toNat : Nat) : Int) := by omega
      have hlt : (i + 1).toNat < cells.length := by omega
      have hcl : cells[(i + 1).toNat]? = some cells[(i + 1).toNat] := List.getElem?_eq_getElem hlt
      have hcn := hc _ (List.getElem_mem hlt)
      generalize hw : cells[(i + 1).toNat] = cw at hcl hcn
      have hix : oIx (.ref b) (.int (i + 1)) (s.set a (C.lst [.ref b, .int (i + 1), .int 0, .int seed])) = .ok (.int cw) (s.set a (C.lst [.ref b, .int (i + 1), .int 0, .int seed])) := by
        rw [hnat, ← hnat]
        exact oIx_lst hb1 (by rw [hnat, atI_nat, List.getElem?_map, hcl]; rfl)
      have hL : cLen [.ref b] (s.set a (C.lst [.ref b, .int (i + 1), .int 0, .int seed])) = .ok (.int (cells.length : Int)) (s.set a (C.lst [.ref b, .int (i + 1), .int 0, .int seed])) := by rw [cLen_lst hb1, List.length_map]
      by_cases hc0 : cw = 0
      · subst hc0
        have ht := tail (i + 1) (by omega)
        obtain ⟨f, s', e, r⟩ := fin (s.set a (C.lst [.ref b, .int (i + 1), .int ((seed * 48271 + 11) % 2147483647), .int ((seed * 48271 + 11) % 2147483647)])) _ _ _ (set_at ha) (by rw [set_get, if_neg hab]; exact hb) (fun r c hr e => by rw [set_get, if_neg (Ne.symm hr)]; exact e) (by omega) hn0 hn0 hn1
        refine ⟨f, s', ?_, r⟩
        rw [← e]
        simp only [e_seq]
        rw [e_sif]
        generalize hT : (sIf (mOp oEq (mOp oIx (mVar 0) (mC (.int 2))) (mC (.int 0)))
          (bSeq (sSub (mOp oMod (mCall cInt (mCons (mOp oAdd (mOp oMul (mOp oIx (mVar 0) (mC (.int 3))) (mC (.int 48271))) (mC (.int 11))) mNil)) (mC (.int 2147483647))) (mVar 0) (mC (.int 3)))
          (sSub (mOp oIx (mVar 0) (mC (.int 3))) (mVar 0) (mC (.int 2))))
          bNil) = T at ht
        simp only [e_sif, e_op, e_var, e_c, List.getElem?_cons_zero, List.getElem?_cons_succ, rbind_ok, rto_ok, q2 ha, oEq_int, decide_true, ifK_t, e_seq, e_sub, e_call, e_cons, e_nil, q1 ha, oAdd_int, p1 ha, obind_nx, q1 ha1, q0 ha1, hL, oLt_int, hl, hix, p2 ha1, List.set_set, ht]
      · obtain ⟨f, s', e, r⟩ := fin (s.set a (C.lst [.ref b, .int (i + 1), .int cw, .int seed])) _ _ _ (set_at ha) (by rw [set_get, if_neg hab]; exact hb) (fun r c hr e => by rw [set_get, if_neg (Ne.symm hr)]; exact e) (by omega) hcn h0 h1
        have hx : (s.set a (C.lst [.ref b, .int (i + 1), .int cw, .int seed]))[a]? = some (C.lst [.ref b, .int (i + 1), .int cw, .int seed]) := set_at ha
        refine ⟨f, s', ?_, r⟩
        rw [← e]
        simp only [e_sif, e_op, e_var, e_c, List.getElem?_cons_zero, List.getElem?_cons_succ, rbind_ok, rto_ok, q2 ha, oEq_int, decide_true, ifK_t, e_seq, e_sub, e_call, e_cons, e_nil, q1 ha, oAdd_int, p1 ha, obind_nx, q1 ha1, q0 ha1, hL, oLt_int, hl, hix, p2 ha1, List.set_set, q2 hx, hc0, decide_false, ifK_f, e_bnil]
    · have hL : cLen [.ref b] (s.set a (C.lst [.ref b, .int (i + 1), .int 0, .int seed])) = .ok (.int (cells.length : Int)) (s.set a (C.lst [.ref b, .int (i + 1), .int 0, .int seed])) := by rw [cLen_lst hb1, List.length_map]
      have ht := tail (i + 1) (by omega)
      obtain ⟨f, s', e, r⟩ := fin (s.set a (C.lst [.ref b, .int (i + 1), .int ((seed * 48271 + 11) % 2147483647), .int ((seed * 48271 + 11) % 2147483647)])) _ _ _ (set_at ha) (by rw [set_get, if_neg hab]; exact hb) (fun r c hr e => by rw [set_get, if_neg (Ne.symm hr)]; exact e) (by omega) hn0 hn0 hn1
      refine ⟨f, s', ?_, r⟩
      rw [← e]
      simp only [e_seq]
      rw [e_sif]
      generalize hT : (sIf (mOp oEq (mOp oIx (mVar 0) (mC (.int 2))) (mC (.int 0)))
        (bSeq (sSub (mOp oMod (mCall cInt (mCons (mOp oAdd (mOp oMul (mOp oIx (mVar 0) (mC (.int 3))) (mC (.int 48271))) (mC (.int 11))) mNil)) (mC (.int 2147483647))) (mVar 0) (mC (.int 3)))
        (sSub (mOp oIx (mVar 0) (mC (.int 3))) (mVar 0) (mC (.int 2))))
        bNil) = T at ht
      simp only [e_sif, e_op, e_var, e_c, List.getElem?_cons_zero, List.getElem?_cons_succ, rbind_ok, rto_ok, q2 ha, oEq_int, decide_true, ifK_t, e_seq, e_sub, e_call, e_cons, e_nil, q1 ha, oAdd_int, p1 ha, obind_nx, q1 ha1, q0 ha1, hL, oLt_int, hl, decide_false, ifK_f, e_bnil, ht]
  · obtain ⟨f, s', e, r⟩ := fin s i v seed ha hb (fun r c _ e => e) hi hv h0 h1
    refine ⟨f, s', ?_, r⟩
    rw [← e]
    simp only [e_sif, e_op, e_var, e_c, List.getElem?_cons_zero, List.getElem?_cons_succ, rbind_ok, rto_ok, q2 ha, oEq_int, hv0, decide_false, ifK_f, e_seq, e_bnil, obind_nx]
end G85
end Mi
namespace Mi
namespace G85
open PySem PySem.Spec PyProof.Rows L2

theorem join_len (ys : List Str) (h : ∀ y ∈ ys, y.length = 1) : (Txt.join ("" : Str) ys).length = ys.length := by
  have e : ∀ ys : List Str, (∀ y ∈ ys, y.length = 1) → (Str.join ("" : Str) ys).length = ys.length := fun ys => by
    induction ys with
    | nil =>
      intro _
      rfl
    | cons y ys ih =>
      intro h
      have hy := h y (List.mem_cons_self ..)
      cases ys with
      | nil => exact hy
      | cons z zs =>
        have := ih fun q hq => h q (List.mem_cons_of_mem _ hq)
        show (y ++ ("" : Str) ++ Str.join ("" : Str) (z :: zs)).length = _
        have l1 : ∀ p q : Str, (p ++ q).length = p.length + q.length := fun p q => by
          show (p.cps ++ q.cps).size = _
          rw [Array.size_append]
          rfl
        have e0 : ("" : Str).length = 0 := by decide +kernel
        rw [l1, l1, this, hy, e0]
        simp only [List.length_cons]
        omega
  exact (congrArg Str.length (TL.join_eq _ _)).trans (e ys h)
def Lb : Nat → Nat
  | 0 => 92
  | n + 1 => 2 + 5 * Lb n
structure VOk (v : D) (n : Nat) : Prop where
  vd : ∀ s, Vd s v
  bt : bt v ≤ n
theorem str_of_one (cs : List Nat) : ∃ ys : List Str, strsOf (cs.map fun c => D.str ⟨#[c]⟩) = some ys ∧ ys.length = cs.length ∧ ∀ y ∈ ys, y.length = 1 := by
  induction cs with
  | nil => exact ⟨[], rfl, rfl, fun y h => by cases h⟩
  | cons c cs ih =>
    obtain ⟨ys, h1, h2, h3⟩ := ih
    refine ⟨⟨#[c]⟩ :: ys, ?_, by rw [List.length_cons, List.length_cons, h2], fun y hy => ?_⟩
    · show (strsOf (cs.map fun c => D.str ⟨#[c]⟩)).map _ = _
      rw [h1]
      rfl
    · rcases List.mem_cons.mp hy with rfl | hy
      · rfl
      · exact h3 y hy
theorem cm95 {i j : Int} (h0 : 0 ≤ i) (h1 : i < 2 ^ 20) (h2 : 0 ≤ j) (h3 : j < 2 ^ 20) : CMulW i j := wide_mul (a := 20) (b := 20) (by omega) (by omega) (by decide) (by decide) (by decide)
theorem SIGNS_get {i : Int} (h0 : 0 ≤ i) (h1 : i < 95) (s : S) : ∃ c, oIx (.str SIGNS) (.int i) s = .ok (.str ⟨#[c]⟩) s := by
  have hl : SIGNS.cps.toList.length = 95 := by
    rw [SIGNS_eq]
    decide +kernel
  have hi : i.toNat < SIGNS.cps.toList.length := by omega
  refine ⟨SIGNS.cps.toList[i.toNat], ?_⟩
  have e : atI SIGNS.cps.toList i = some SIGNS.cps.toList[i.toNat] := by
    have ei : i = ((i.toNat : Nat) : Int) := by omega
    have e1 : atI SIGNS.cps.toList ((i.toNat : Nat) : Int) = some SIGNS.cps.toList[i.toNat] := by
      rw [atI_nat]
      exact List.getElem?_eq_getElem hi
    rw [← ei] at e1
    exact e1
  show (if SIGNS.length ≤ sizeLine then (match atI SIGNS.cps.toList i with
    | some c => R.ok (D.str ⟨#[c]⟩) s
    | none => R.bad) else R.bad) = _
  rw [if_pos SIGNS_len, e]
theorem text_loop (f st : Int) (hf0 : 0 ≤ f) (hf1 : f < 95) (hs0 : 0 ≤ st) (hs1 : st < 95) (x0 x2 : D) (s : S) : ∀ (m i : Nat) (cs : List Nat), i + m ≤ 90 → cs.length = i →
    ∃ ds : List Nat, ds.length = i + m ∧ lcL none 5 yesM (mOp oIx (mVar 1) (mOp oMod (mOp oAdd (mVar 3) (mOp oMul (mVar 5) (mVar 4))) (mC (.int 95)))) [some x0, some (.str SIGNS), some x2, some (.int f), some (.int st), none] (rngL (i : Int) m) (cs.map fun c => D.str ⟨#[c]⟩) s = .ok (ds.map fun c => D.str ⟨#[c]⟩) s
  | 0, i, cs, h, hc => ⟨cs, hc, lc_nil (g := none) trivial⟩
  | m + 1, i, cs, h, hc => by
    have hr0 : 0 ≤ (f + (i : Int) * st) % 95 := Int.emod_nonneg _ (by decide)
    have hr1 : (f + (i : Int) * st) % 95 < 95 := Int.emod_lt_of_pos _ (by decide)
    obtain ⟨c, hcx⟩ := SIGNS_get hr0 hr1 s
    rw [show rngL (i : Int) (m + 1) = .int (i : Int) :: rngL ((i : Int) + 1) m from rfl]
    have hm : (mOp oIx (mVar 1) (mOp oMod (mOp oAdd (mVar 3) (mOp oMul (mVar 5) (mVar 4))) (mC (.int 95)))) (([some x0, some (.str SIGNS), some x2, some (.int f), some (.int st), none].set 5 none).set 5 (some (.int (i : Int)))) s = .ok (.str ⟨#[c]⟩) s := by
      simp only [List.set_cons_succ, List.set_cons_zero, e_op, e_var, e_c, List.getElem?_cons_zero, List.getElem?_cons_succ, rbind_ok, oMul_int (cm95 (i := (i : Int)) (j := st) (by omega) (by omega) hs0 (by omega)), oAdd_int, oMod_int (show (0 : Int) < 95 by decide), hcx]
    rw [lc_cons (g := none) trivial hm (by rw [List.length_map, hc, sizeL]; omega)]
    obtain ⟨ds, h1, h2⟩ := text_loop f st hf0 hf1 hs0 hs1 x0 x2 s m (i + 1) (cs ++ [c]) (by omega) (by rw [List.length_append, List.length_singleton, hc])
    refine ⟨ds, by omega, ?_⟩
    rw [List.map_append] at h2
    exact h2
theorem pick {xs : List D} {s : S} {i : Int} (h0 : 0 ≤ i) (h1 : i < xs.length) {k : Nat} (h : s[k]? = some (C.lst xs)) : ∃ x, x ∈ xs ∧ oIx (.ref k) (.int i) s = .ok x s := by
  have hi : i.toNat < xs.length := by omega
  refine ⟨xs[i.toNat], List.getElem_mem hi, oIx_lst h ?_⟩
  have ei : i = ((i.toNat : Nat) : Int) := by omega
  have e1 : atI xs ((i.toNat : Nat) : Int) = some xs[i.toNat] := by
    rw [atI_nat]
    exact List.getElem?_eq_getElem hi
  rw [← ei] at e1
  exact e1
theorem draw_text {a b : Nat} {s : S} (h : DrawOk a b s) : ∃ x s', F__law_text [.ref a] s = .ok (.str x) s' ∧ Dw a b s s' ∧ x.length ≤ 90 := by
  have e0 : F__law_text [.ref a] s = runO (B__law_text [some (.ref a), none, none, none, none, none] s) := by
    unfold F__law_text
    rw [runF_eq (n := 1) rfl]
    rfl
  have five : (5 : Nat) ≤ sizeLine := by rw [sizeL]; omega
  have pa : Pre s (s ++ [C.lst [.int 0, .int 1, .int 3, .int 8, .int 90]]) := Pre.app
  obtain ⟨n, s1, e1, n0, n1, w1⟩ := take_ok (h.pre pa) (m := 5) (by decide) (by decide)
  have hL := w1.keep s.length _ (by have := h.lt; omega) app_last
  obtain ⟨x, hx, ex⟩ := pick n0 (by simpa using n1) hL
  obtain ⟨f, s2, e2, f0, f1, w2⟩ := take_ok w1.ok (m := 95) (by decide) (by decide)
  obtain ⟨st, s3, e3, t0, t1, w3⟩ := take_ok w2.ok (m := 95) (by decide) (by decide)
  have wall : Dw a b s s3 := ((Dw.of h pa).trans w1).trans (w2.trans w3)
  obtain ⟨n, hxn, hn⟩ : ∃ n : Nat, x = .int (n : Int) ∧ n ≤ 90 := by
    simp at hx
    rcases hx with rfl | rfl | rfl | rfl | rfl
    · exact ⟨0, rfl, by omega⟩
    · exact ⟨1, rfl, by omega⟩
    · exact ⟨3, rfl, by omega⟩
    · exact ⟨8, rfl, by omega⟩
    · exact ⟨90, rfl, by omega⟩
  subst hxn
  obtain ⟨ds, hd1, hd2⟩ := text_loop f st f0 f1 t0 t1 (.ref a) (.int (n : Int)) s3 n 0 [] (by omega) rfl
  have hd2 : lcL none 5 yesM (mOp oIx (mVar 1) (mOp oMod (mOp oAdd (mVar 3) (mOp oMul (mVar 5) (mVar 4))) (mC (.int 95)))) [some (.ref a), some (.str SIGNS), some (.int (n : Int)), some (.int f), some (.int st), none] (rngL 0 n) [] s3 = .ok (ds.map fun c => D.str ⟨#[c]⟩) s3 := hd2
  obtain ⟨ys, y1, y2, y3⟩ := str_of_one ds
  have hj : oJoin (.str ("" : Str)) [.ref s3.length] (s3 ++ [C.lst (ds.map fun c => D.str ⟨#[c]⟩)]) = .ok (.str (Txt.join ("" : Str) ys)) (s3 ++ [C.lst (ds.map fun c => D.str ⟨#[c]⟩)]) := by
    show (match (s3 ++ [C.lst (ds.map fun c => D.str ⟨#[c]⟩)])[s3.length]? with
      | some (.lst zs) => joinK ("" : Str) (strsOf zs) (s3 ++ [C.lst (ds.map fun c => D.str ⟨#[c]⟩)])
      | _ => R.bad) = _
    rw [app_last]
    dsimp only
    rw [y1]
    have e0 : ("" : Str).length = 0 := by decide +kernel
    have hs : (ys.map (·.length)).sum = ys.length := by
      have : ∀ ys : List Str, (∀ y ∈ ys, y.length = 1) → (ys.map (·.length)).sum = ys.length := fun ys => by
        induction ys with
        | nil => intro _; rfl
        | cons y ys ih =>
          intro h
          rw [List.map_cons, List.sum_cons, ih fun q hq => h q (List.mem_cons_of_mem _ hq), h y (List.mem_cons_self ..), List.length_cons]
          omega
      exact this ys y3
    exact if_pos (by rw [hs, e0]; omega)
  refine ⟨Txt.join ("" : Str) ys, s3 ++ [C.lst (ds.map fun c => D.str ⟨#[c]⟩)], ?_, wall.pre Pre.app, by rw [join_len ys y3]; omega⟩
  rw [e0]
  simp only [B__law_text, e_seq, e_set, e_call, e_nil, signs_ok, rto_ok, List.set_cons_succ, List.set_cons_zero, obind_nx, e_op, e_lst, e_cons, e_c, e_var, rbind_ok, List.length_cons, List.length_nil, Nat.zero_add, Nat.reduceAdd, five, if_true, List.getElem?_cons_zero, List.getElem?_cons_succ, e1, ex, e2, e3, e_ret, e_meth, e_lc, e_rng1, e_rngK1, Int.toNat_natCast, hd2, hj, show ∀ t : S, isStr (.str ("" : Str)) t = true from fun _ => rfl, runO_rt]
theorem draw_number {a b : Nat} {s : S} (h : DrawOk a b s) : ∃ x s', F__law_number [.ref a] s = .ok (.int x) s' ∧ Dw a b s s' ∧ bt (.int x) ≤ 92 := by
  have e0 : F__law_number [.ref a] s = runO (B__law_number [some (.ref a), none, none] s) := by
    unfold F__law_number
    rw [runF_eq (n := 1) rfl]
    rfl
  obtain ⟨c, s1, e1, c0, c1, w1⟩ := take_ok h (m := 4) (by decide) (by decide)
  have btB : ∀ x : Int, -(128 ^ 27) < x → x < 128 ^ 27 → bt (.int x) ≤ 92 := fun x h1 h2 => by
    simp only [bt]
    split
    · have := sz_len 26 x.toNat (by omega)
      omega
    · have := sz_len 26 (-1 - x).toNat (by omega)
      omega
  rw [e0]
  by_cases h0 : c = 0
  · subst h0
    have ten : (10 : Nat) ≤ sizeLine := by rw [sizeL]; omega
    have pa : Pre s1 (s1 ++ [C.lst [.int 0, .int 1, .int (-1), .int 127, .int 128, .int (-128), .int (-129), .int 255, .int 16383, .int 16384]]) := Pre.app
    obtain ⟨n, s2, e2, n0, n1, w2⟩ := take_ok (w1.ok.pre pa) (m := 10) (by decide) (by decide)
    have hL := w2.keep s1.length _ (by have := w1.ok.lt; omega) app_last
    obtain ⟨x, hx, ex⟩ := pick n0 (by simpa using n1) hL
    obtain ⟨i, rfl, hi⟩ : ∃ i : Int, x = .int i ∧ bt (.int i) ≤ 92 := by
      simp at hx
      rcases hx with rfl | rfl | rfl | rfl | rfl | rfl | rfl | rfl | rfl | rfl <;> exact ⟨_, rfl, btB _ (by decide) (by decide)⟩
    refine ⟨i, s2, ?_, w1.trans ((Dw.of w1.ok pa).trans w2), hi⟩
    simp only [B__law_number, e_seq, e_set, e_sif, e_call, e_cons, e_nil, e_op, e_var, e_c, e_neg, List.getElem?_cons_zero, List.getElem?_cons_succ, rbind_ok, rto_ok, e1, List.set_cons_succ, List.set_cons_zero, obind_nx, oEq_int, decide_true, ifK_t, e_ret, e_lst, List.length_cons, List.length_nil, Nat.zero_add, Nat.reduceAdd, ten, if_true, e2, ex, obind_rt, runO_rt]
  · by_cases h1 : c = 1
    · subst h1
      obtain ⟨n, s2, e2, n0, n1, w2⟩ := take_ok w1.ok (m := 300) (by decide) (by decide)
      refine ⟨n - 150, s2, ?_, w1.trans w2, btB _ (by omega) (by omega)⟩
      simp only [B__law_number, e_seq, e_set, e_sif, e_call, e_cons, e_nil, e_op, e_var, e_c, List.getElem?_cons_zero, List.getElem?_cons_succ, rbind_ok, rto_ok, e1, List.set_cons_succ, List.set_cons_zero, obind_nx, oEq_int, show ((1 : Int) = 0) = False from by simp, decide_false, decide_true, ifK_f, e_bnil, ifK_t, e_ret, e2, oSub_int, obind_rt, runO_rt]
    · have hp : oPow (.int 2) (.int 61) s1 = .ok (.int (2 ^ 61)) s1 := oPow_int (s := s1) (i := 2) (j := 61) ⟨by decide, by decide, by decide⟩
      obtain ⟨n, s2, e2, n0, n1, w2⟩ := take_ok w1.ok (m := 2 ^ 61) (by decide) (by decide)
      by_cases h2 : c = 2
      · subst h2
        refine ⟨n, s2, ?_, w1.trans w2, btB _ (by omega) (by omega)⟩
        simp only [B__law_number, e_seq, e_set, e_sif, e_call, e_cons, e_nil, e_op, e_var, e_c, List.getElem?_cons_zero, List.getElem?_cons_succ, rbind_ok, rto_ok, e1, List.set_cons_succ, List.set_cons_zero, obind_nx, oEq_int, h0, h1, show ((2 : Int) = 0) = False from by simp, show ((2 : Int) = 1) = False from by simp, decide_false, decide_true, ifK_f, e_bnil, ifK_t, e_ret, hp, e2, obind_rt, runO_rt]
      · have m1 : CMulW n n := wide_mul (a := 61) (b := 61) (by omega) (by omega) (by decide) (by decide) (by decide)
        have hnn : n * n < 2 ^ 122 := by
          have : n * n ≤ (2 ^ 61 - 1) * (2 ^ 61 - 1) := Int.mul_le_mul (by omega) (by omega) n0 (by decide)
          omega
        have hn0 : 0 ≤ n * n := Int.mul_nonneg n0 n0
        have m2 : CMulW (n * n) n := wide_mul (a := 122) (b := 61) (by omega) (by omega) (by decide) (by decide) (by decide)
        have h3 : n * n * n < 2 ^ 183 := by
          have : n * n * n ≤ (2 ^ 122 - 1) * (2 ^ 61 - 1) := Int.mul_le_mul (by omega) (by omega) n0 (by decide)
          omega
        have h30 : 0 ≤ n * n * n := Int.mul_nonneg hn0 n0
        refine ⟨-1 - n * n * n, s2, ?_, w1.trans w2, btB _ (by omega) (by omega)⟩
        simp only [B__law_number, e_seq, e_set, e_sif, e_call, e_cons, e_nil, e_op, e_var, e_c, e_neg, List.getElem?_cons_zero, List.getElem?_cons_succ, rbind_ok, rto_ok, e1, List.set_cons_succ, List.set_cons_zero, obind_nx, oEq_int, h0, h1, h2, decide_false, ifK_f, e_bnil, e_ret, hp, e2, oMul_int m1, oMul_int m2, oSub_int, runO_rt]
theorem Lb_ge : ∀ n, 92 ≤ Lb n
  | 0 => Nat.le_refl _
  | n + 1 => by
    have := Lb_ge n
    show 92 ≤ 2 + 5 * Lb n
    omega
theorem value_loop (F : List D → S → R D) (a b n : Nat) (x0 x2 : D) (hF : ∀ s, DrawOk a b s → ∃ v s', F [.ref a, .int (n : Int)] s = .ok v s' ∧ Dw a b s s' ∧ VOk v (Lb n)) : ∀ (m : Nat) (lo : Int) (acc : List D) (s : S), acc.length + m ≤ 5 → DrawOk a b s → (∀ s, VdAll s acc) → btAll acc ≤ acc.length * Lb n →
    ∃ vs s', lcL none 3 yesM (mCall F (mCons (mVar 0) (mCons (mOp oSub (mVar 1) (mC (.int 1))) mNil))) [some (.ref a), some (.int ((n + 1 : Nat) : Int)), some x2, none] (rngL lo m) acc s = .ok vs s' ∧ Dw a b s s' ∧ (∀ s, VdAll s vs) ∧ vs.length ≤ 5 ∧ btAll vs ≤ 5 * Lb n
  | 0, lo, acc, s, hl, hd, hv, hb => ⟨acc, s, lc_nil (g := none) trivial, ⟨fun r c _ e => e, hd⟩, hv, by omega, Nat.le_trans hb (Nat.mul_le_mul_right _ (by omega))⟩
  | m + 1, lo, acc, s, hl, hd, hv, hb => by
    obtain ⟨v, s1, e1, w1, hvo⟩ := hF s hd
    have en : ((n + 1 : Nat) : Int) - 1 = (n : Int) := by omega
    rw [show rngL lo (m + 1) = .int lo :: rngL (lo + 1) m from rfl]
    have hm : (mCall F (mCons (mVar 0) (mCons (mOp oSub (mVar 1) (mC (.int 1))) mNil))) (([some (.ref a), some (.int ((n + 1 : Nat) : Int)), some x2, none].set 3 none).set 3 (some (.int lo))) s = .ok v s1 := by
      simp only [List.set_cons_succ, List.set_cons_zero, e_call, e_cons, e_nil, e_op, e_var, e_c, List.getElem?_cons_zero, List.getElem?_cons_succ, rbind_ok, oSub_int, en, e1]
    rw [lc_cons (g := none) trivial hm (by rw [sizeL]; omega)]
    have va : ∀ (s : S) (xs : List D) (x : D), VdAll s xs → Vd s x → VdAll s (xs ++ [x]) := fun s xs x h1 h2 => by
      induction xs with
      | nil => exact ⟨h2, trivial⟩
      | cons y ys ih => exact ⟨h1.1, ih h1.2⟩
    have ba : ∀ (xs : List D) (x : D), btAll (xs ++ [x]) = btAll xs + bt x := fun xs x => by
      induction xs with
      | nil => simp [btAll]
      | cons y ys ih => simp [btAll, ih]; omega
    obtain ⟨vs, s', e2, w2, r⟩ := value_loop F a b n x0 x2 hF m (lo + 1) (acc ++ [v]) s1 (by rw [List.length_append, List.length_singleton]; omega) w1.ok (fun s => va s acc v (hv s) (hvo.vd s)) (by
      rw [ba, List.length_append, List.length_singleton, Nat.add_mul, Nat.one_mul]
      have := hvo.bt
      omega)
    exact ⟨vs, s', e2, w1.trans w2, r⟩
theorem draw_value : ∀ (j n a b : Nat) (s : S), n < j → DrawOk a b s → ∃ v s', F__law_value j [.ref a, .int (n : Int)] s = .ok v s' ∧ Dw a b s s' ∧ VOk v (Lb n)
  | 0, n, a, b, s, h, _ => absurd h (by omega)
  | j + 1, n, a, b, s, hj, h => by
    have e0 : F__law_value (j + 1) [.ref a, .int (n : Int)] s = runO (B__law_value (F__law_value j) [some (.ref a), some (.int (n : Int)), none, none] s) := by
      show runF 2 4 _ _ _ = _
      rw [runF_eq (n := 2) rfl]
      rfl
    have hLb := Lb_ge n
    obtain ⟨c, s1, e1, c0, c1, w1⟩ := take_ok h (m := 9) (by decide) (by decide)
    rw [e0]
    by_cases h3 : c < 3
    · have three : (3 : Nat) ≤ sizeLine := by rw [sizeL]; omega
      obtain ⟨x, hx, ex⟩ := pick (xs := [.non, .bl true, .bl false]) c0 (by simpa using h3) (app_last (s := s1) (c := C.lst [.non, .bl true, .bl false]))
      refine ⟨x, s1 ++ [C.lst [.non, .bl true, .bl false]], ?_, w1.pre Pre.app, ?_⟩
      · simp only [B__law_value, e_seq, e_set, e_sif, e_call, e_cons, e_nil, e_op, e_var, e_c, List.getElem?_cons_zero, List.getElem?_cons_succ, rbind_ok, rto_ok, e1, List.set_cons_succ, List.set_cons_zero, obind_nx, oLt_int, h3, decide_true, ifK_t, e_ret, e_lst, List.length_cons, List.length_nil, Nat.zero_add, Nat.reduceAdd, three, if_true, ex, obind_rt, runO_rt]
      · simp at hx
        rcases hx with rfl | rfl | rfl <;> exact ⟨fun s => trivial, by simp [bt]; omega⟩
    · by_cases h5 : c < 5
      · obtain ⟨x, s2, e2, w2, hb⟩ := draw_number w1.ok
        refine ⟨.int x, s2, ?_, w1.trans w2, ⟨fun s => trivial, by omega⟩⟩
        simp only [B__law_value, e_seq, e_set, e_sif, e_call, e_cons, e_nil, e_op, e_var, e_c, List.getElem?_cons_zero, List.getElem?_cons_succ, rbind_ok, rto_ok, e1, List.set_cons_succ, List.set_cons_zero, obind_nx, oLt_int, h3, h5, decide_false, decide_true, ifK_f, e_bnil, ifK_t, e_ret, e2, obind_rt, runO_rt]
      · by_cases ht : c = 5 ∨ n = 0
        · obtain ⟨x, s2, e2, w2, hb⟩ := draw_text w1.ok
          refine ⟨.str x, s2, ?_, w1.trans w2, ⟨fun s => trivial, ?_⟩⟩
          · by_cases hc : c = 5
            · simp only [B__law_value, e_seq, e_set, e_sif, e_or, e_call, e_cons, e_nil, e_op, e_var, e_c, List.getElem?_cons_zero, List.getElem?_cons_succ, rbind_ok, rto_ok, e1, List.set_cons_succ, List.set_cons_zero, obind_nx, oLt_int, h3, h5, decide_false, oEq_int, hc, decide_true, ifK_f, e_bnil, ifK_t, e_ret, e2, obind_rt, runO_rt, show ((5 : Int) < 3) = False from by simp, show ((5 : Int) < 5) = False from by simp]
            · have hn : n = 0 := ht.resolve_left hc
              subst hn
              simp only [B__law_value, e_seq, e_set, e_sif, e_or, e_call, e_cons, e_nil, e_op, e_var, e_c, List.getElem?_cons_zero, List.getElem?_cons_succ, rbind_ok, rto_ok, e1, List.set_cons_succ, List.set_cons_zero, obind_nx, oLt_int, h3, h5, decide_false, oEq_int, hc, show (((0 : Nat) : Int) = 0) = True from by simp, decide_true, ifK_f, e_bnil, ifK_t, e_ret, e2, obind_rt, runO_rt]
          · simp only [bt]
            have := sz_len 0 x.length (by omega)
            omega
        · have hc : ¬ c = 5 := fun z => ht (.inl z)
          have hn : ¬ n = 0 := fun z => ht (.inr z)
          obtain ⟨p, rfl⟩ : ∃ p, n = p + 1 := ⟨n - 1, by omega⟩
          have hn' : ¬ ((p + 1 : Nat) : Int) = 0 := by omega
          obtain ⟨m, s2, e2, m0, m1, w2⟩ := take_ok w1.ok (m := 6) (by decide) (by decide)
          obtain ⟨vs, s3, e3, w3, v1, v2, v3⟩ := value_loop (F__law_value j) a b p (.ref a) (.int c) (fun s hs => draw_value j p a b s (by omega) hs) m.toNat 0 [] s2 (by simp; omega) w2.ok (fun s => trivial) (by simp [btAll])
          have hT := cTuple_lst (app_last (s := s3) (c := C.lst vs))
          refine ⟨.tup vs, s3 ++ [C.lst vs], ?_, (w1.trans (w2.trans w3)).pre Pre.app, ⟨fun s => v1 s, ?_⟩⟩
          · simp only [B__law_value, e_seq, e_set, e_sif, e_or, e_call, e_cons, e_nil, e_op, e_var, e_c, List.getElem?_cons_zero, List.getElem?_cons_succ, rbind_ok, rto_ok, e1, List.set_cons_succ, List.set_cons_zero, obind_nx, oLt_int, h3, h5, decide_false, oEq_int, hc, hn', ifK_f, e_bnil, e_ret, e_lc, e_rng1, e2, e_rngK1]
            rw [e3]
            simp only [rbind_ok, hT, rto_ok, runO_rt]
          · simp only [bt]
            have := sz_len 0 vs.length (by omega)
            show 1 + (sz vs.length).length + btAll vs ≤ 2 + 5 * Lb p
            omega
end G85
end Mi
namespace Mi
namespace G85
open PySem PySem.Spec PyProof.Rows L2

theorem DrawOk.put {a b : Nat} {s : S} {k : Nat} {c : C} (h : DrawOk a b s) (ha : k ≠ a) (hb : k ≠ b) : DrawOk a b (s.set k c) := by
  obtain ⟨cells, i, v, seed, h1, h2, h3⟩ := h.ex
  exact ⟨cells, i, v, seed, by rw [set_get, if_neg ha]; exact h1, by rw [set_get, if_neg hb]; exact h2, h3⟩
theorem DrawOk.ltb {a b : Nat} {s : S} (h : DrawOk a b s) : b < s.length := by
  obtain ⟨cells, i, v, seed, h1, h2, h3⟩ := h.ex
  exact lt_of_get h2
theorem Dw.put {a b : Nat} {s t : S} {k : Nat} {c : C} (h : Dw a b s t) (hs : DrawOk a b s) (hk : s.length ≤ k) : Dw a b s (t.set k c) := by
  have h1 := hs.lt
  have h2 := hs.ltb
  exact ⟨fun r e hr he => by
    rw [set_get, if_neg (show ¬ k = r from fun z => by have := lt_of_get he; omega)]
    exact h.keep r e hr he, h.ok.put (by omega) (by omega)⟩
theorem sl_ok {k : Nat} {l : List Int} {s : S} (hs : s[k]? = some (C.lst (l.map D.int))) (lo hi : Option Int) : ∃ l' : List Int, oSl (.ref k) lo hi s = .ok (.ref s.length) (s ++ [C.lst (l'.map D.int)]) ∧ l'.length ≤ l.length ∧ ∀ x ∈ l', x ∈ l := by
  refine ⟨(l.drop (HT.sIx l.length 0 lo)).take (HT.sIx l.length l.length hi - HT.sIx l.length 0 lo), ?_, ?_, fun x hx => List.mem_of_mem_drop (List.mem_of_mem_take hx)⟩
  · show slCell lo hi s[k]? s = _
    rw [hs]
    show R.ok (D.ref s.length) (s ++ [C.lst (cutD (l.map D.int) lo hi)]) = _
    unfold cutD
    rw [List.length_map, List.map_take, List.map_drop]
  · rw [List.length_take, List.length_drop]
    omega
theorem ixN_nat {n : Nat} {i : Int} (h0 : 0 ≤ i) (h1 : i < n) : ixN n i = some i.toNat := by
  unfold ixN
  rw [if_pos h0, if_pos h1]
theorem bent_loop {a b : Nat} (s0 : S) (x1 x2 x3 : D) : ∀ (m : Nat) (lo : Int) (acc : List Int) (s : S), acc.length + m ≤ 13 → DrawOk a b s → Dw a b s0 s → (∀ x ∈ acc, 0 ≤ x ∧ x < 256) →
    ∃ (l : List Int) (s' : S), lcL none 4 yesM (mOp oIx (mLst (mCons (mCall F__law_take (mCons (mVar 0) (mCons (mC (.int 256)) mNil))) (mCons (mCall F__law_take (mCons (mVar 0) (mCons (mC (.int 8)) mNil))) mNil))) (mCall F__law_take (mCons (mVar 0) (mCons (mC (.int 2)) mNil)))) [some (.ref a), some x1, some x2, some x3, none] (rngL lo m) (acc.map D.int) s = .ok (l.map D.int) s' ∧ Dw a b s0 s' ∧ l.length ≤ 13 ∧ ∀ x ∈ l, 0 ≤ x ∧ x < 256
  | 0, lo, acc, s, hl, hd, hw, hb => ⟨acc, s, lc_nil (g := none) trivial, hw, by omega, hb⟩
  | m + 1, lo, acc, s, hl, hd, hw, hb => by
    obtain ⟨p, s1, e1, p0, p1', w1⟩ := take_ok hd (m := 256) (by decide) (by decide)
    obtain ⟨q, s2, e2, q0, q1', w2⟩ := take_ok w1.ok (m := 8) (by decide) (by decide)
    have pa : Pre s2 (s2 ++ [C.lst [.int p, .int q]]) := Pre.app
    obtain ⟨r, s3, e3, r0, r1, w3⟩ := take_ok (w2.ok.pre pa) (m := 2) (by decide) (by decide)
    have hL := w3.keep s2.length _ (by have := w2.ok.lt; omega) app_last
    obtain ⟨x, hx, ex⟩ := pick r0 (by simpa using r1) hL
    obtain ⟨y, rfl, hy⟩ : ∃ y : Int, x = .int y ∧ 0 ≤ y ∧ y < 256 := by
      simp at hx
      rcases hx with rfl | rfl
      · exact ⟨p, rfl, p0, p1'⟩
      · exact ⟨q, rfl, q0, by omega⟩
    rw [show rngL lo (m + 1) = .int lo :: rngL (lo + 1) m from rfl]
    have hm : (mOp oIx (mLst (mCons (mCall F__law_take (mCons (mVar 0) (mCons (mC (.int 256)) mNil))) (mCons (mCall F__law_take (mCons (mVar 0) (mCons (mC (.int 8)) mNil))) mNil))) (mCall F__law_take (mCons (mVar 0) (mCons (mC (.int 2)) mNil)))) (([some (.ref a), some x1, some x2, some x3, none].set 4 none).set 4 (some (.int lo))) s = .ok (.int y) s3 := by
      simp only [List.set_cons_succ, List.set_cons_zero, e_op, e_lst, e_call, e_cons, e_nil, e_var, e_c, List.getElem?_cons_zero, rbind_ok, e1, e2, List.length_cons, List.length_nil, Nat.zero_add, Nat.reduceAdd, two_le, if_true, e3, ex]
    rw [lc_cons (g := none) trivial hm (by rw [List.length_map, sizeL]; omega)]
    have wt : Dw a b s s3 := w1.trans ((w2.pre pa).trans w3)
    obtain ⟨l, s', h1, h2, h3, h4⟩ := bent_loop s0 x1 x2 x3 m (lo + 1) (acc ++ [y]) s3 (by rw [List.length_append, List.length_singleton]; omega) wt.ok (hw.trans wt) (fun x hx => by
      rcases List.mem_append.mp hx with hx | hx
      · exact hb x hx
      · rw [List.mem_singleton.mp hx]
        exact hy)
    refine ⟨l, s', ?_, h2, h3, h4⟩
    rw [List.map_append] at h1
    exact h1
/-- the row, as it is bent: its cell, what it holds -/
structure Row (a b : Nat) (s0 : S) (s : S) (k : Nat) (l : List Int) : Prop where
  dw : Dw a b s0 s
  cell : s[k]? = some (C.lst (l.map D.int))
  new : s0.length ≤ k
  len : l.length ≤ 120000
  byte : ∀ x ∈ l, 0 ≤ x ∧ x < 256
theorem bent_ok {a b k : Nat} {l : List Int} {s : S} (h : DrawOk a b s) (hs : s[k]? = some (C.lst (l.map D.int))) (D0 : Dt l) (hl : l.length ≤ 59000) : ∃ k' l' s', F__law_bent [.ref a, .ref k] s = .ok (.ref k') s' ∧ Dw a b s s' ∧ s'[k']? = some (C.lst (l'.map D.int)) ∧ Dt l' := by
  have e0 : F__law_bent [.ref a, .ref k] s = runO (B__law_bent [some (.ref a), some (.ref k), none, none, none] s) := by
    unfold F__law_bent
    rw [runF_eq (n := 2) rfl]
    rfl
  have pa : Pre s (s ++ [C.lst (l.map D.int)]) := Pre.app
  have hmx : ∀ t : S, t[s.length]? = some (C.lst (l.map D.int)) → ∃ mx : Int, 0 < mx ∧ mx < 2 ^ 64 ∧ (0 < l.length → mx ≤ l.length) ∧ cMax2 [.int 1, .int (l.length : Int)] t = .ok (.int mx) t := fun t ht => by
    refine ⟨if (l.length : Int) > 1 then (l.length : Int) else 1, ?_, ?_, ?_, rfl⟩
    · split <;> omega
    · split <;> omega
    · intro hp
      split <;> omega
  obtain ⟨mx, m0, m1, m2, emx⟩ := hmx _ (app_last (s := s) (c := C.lst (l.map D.int)))
  obtain ⟨t, s1, e1, t0, t1, w1⟩ := take_ok (h.pre pa) m0 m1
  obtain ⟨c, s2, e2, c0, c1, w2⟩ := take_ok w1.ok (m := 7) (by decide) (by decide)
  have hla := h.lt
  have hk2 : s2[s.length]? = some (C.lst (l.map D.int)) := w2.keep _ _ (by omega) (w1.keep _ _ (by omega) app_last)
  have W : Dw a b s s2 := (Dw.of h pa).trans (w1.trans w2)
  have R2 : Row a b s s2 s.length l := ⟨W, hk2, Nat.le_refl _, D0.len, D0.byte⟩
  have eB : B__law_bent [some (.ref a), some (.ref k), none, none, none] s = (bSeq (sIf (mAnd (mOp oEq (mVar 3) (mC (.int 1))) (mOp oGt (mCall cLen (mCons (mVar 1) mNil)) (mC (.int 0))))
      (sSub (mCall F__law_take (mCons (mVar 0) (mCons (mC (.int 256)) mNil))) (mVar 1) (mVar 2))
      bNil)
      (bSeq (sIf (mAnd (mOp oEq (mVar 3) (mC (.int 2))) (mOp oGt (mCall cLen (mCons (mVar 1) mNil)) (mC (.int 0))))
      (sSub (mOp oIx (mLst (mCons (mC (.int 0)) (mCons (mC (.int 6)) (mCons (mC (.int 7)) (mCons (mC (.int 128)) (mCons (mC (.int 37)) (mCons (mC (.int 9)) (mCons (mC (.int 10)) mNil)))))))) (mCall F__law_take (mCons (mVar 0) (mCons (mC (.int 7)) mNil)))) (mVar 1) (mVar 2))
      bNil)
      (bSeq (sIf (mOp oEq (mVar 3) (mC (.int 3)))
      (sSet 1 (mOp oAdd (mOp oAdd (mSl (mVar 1) pNo (pAt (mVar 2))) (mLst (mCons (mCall F__law_take (mCons (mVar 0) (mCons (mC (.int 256)) mNil))) mNil))) (mSl (mVar 1) (pAt (mVar 2)) pNo)))
      bNil)
      (bSeq (sIf (mOp oEq (mVar 3) (mC (.int 4)))
      (sSet 1 (mOp oAdd (mSl (mVar 1) pNo (pAt (mVar 2))) (mSl (mVar 1) (pAt (mOp oAdd (mVar 2) (mC (.int 1)))) pNo)))
      bNil)
      (bSeq (sIf (mOp oEq (mVar 3) (mC (.int 5)))
      (sSet 1 (mSl (mVar 1) pNo (pAt (mVar 2))))
      bNil)
      (bSeq (sIf (mOp oEq (mVar 3) (mC (.int 6)))
      (sSet 1 (mLc (iRng1 (mCons (mCall F__law_take (mCons (mVar 0) (mCons (mC (.int 13)) mNil))) mNil)) 4 yesM (mOp oIx (mLst (mCons (mCall F__law_take (mCons (mVar 0) (mCons (mC (.int 256)) mNil))) (mCons (mCall F__law_take (mCons (mVar 0) (mCons (mC (.int 8)) mNil))) mNil))) (mCall F__law_take (mCons (mVar 0) (mCons (mC (.int 2)) mNil))))))
      bNil)
      (sRet (mVar 1)))))))) [some (.ref a), some (.ref s.length), some (.int t), some (.int c), none] s2 := by
    rw [B__law_bent]
    simp only [e_seq (b := sSet 1 (mCall cList (mCons (mVar 1) mNil))), e_seq (b := sSet 2 _), e_seq (b := sSet 3 _), e_set, e_call, e_cons, e_nil, e_var, e_c, List.getElem?_cons_zero, List.getElem?_cons_succ, rbind_ok, rto_ok, cList_lst hs, List.set_cons_succ, List.set_cons_zero, obind_nx, len_ok (app_last (s := s) (c := C.lst (l.map D.int))), emx, e1, e2]
  rw [e0, eB]
  -- one step: the choice is not this one
  have no : ∀ (n : Int) (b : B) (ρ : D) (s : S), ¬ c = n → (sIf (mOp oEq (mVar 3) (mC (.int n))) b bNil) [some (.ref a), some ρ, some (.int t), some (.int c), none] s = .nx [some (.ref a), some ρ, some (.int t), some (.int c), none] s := fun n b ρ s hn => by
    simp only [e_sif, e_op, e_var, e_c, List.getElem?_cons_zero, List.getElem?_cons_succ, rbind_ok, rto_ok, oEq_int, hn, decide_false, ifK_f, e_bnil]
  have no2 : ∀ (n : Int) (b : B) (m : M) (ρ : D) (s : S), ¬ c = n → (sIf (mAnd (mOp oEq (mVar 3) (mC (.int n))) m) b bNil) [some (.ref a), some ρ, some (.int t), some (.int c), none] s = .nx [some (.ref a), some ρ, some (.int t), some (.int c), none] s := fun n b m ρ s hn => by
    simp only [e_sif, e_and, e_op, e_var, e_c, List.getElem?_cons_zero, List.getElem?_cons_succ, rbind_ok, rto_ok, oEq_int, hn, decide_false, ifK_f, e_bnil]
  have yes : ∀ (n : Int) (b : B) (ρ : D) (s : S), c = n → (sIf (mOp oEq (mVar 3) (mC (.int n))) b bNil) [some (.ref a), some ρ, some (.int t), some (.int c), none] s = b [some (.ref a), some ρ, some (.int t), some (.int c), none] s := fun n b ρ s hn => by
    simp only [e_sif, e_op, e_var, e_c, List.getElem?_cons_zero, List.getElem?_cons_succ, rbind_ok, rto_ok, oEq_int, hn, decide_true, ifK_t]
  have fin : ∀ (k' : Nat) (l' : List Int) (s' : S), Row a b s s' k' l' → ∃ k'' l'' s'', runO ((sRet (mVar 1)) [some (.ref a), some (.ref k'), some (.int t), some (.int c), none] s') = .ok (.ref k'') s'' ∧ Dw a b s s'' ∧ s''[k'']? = some (C.lst (l''.map D.int)) ∧ Dt l'' := fun k' l' s' r =>
    ⟨k', l', s', by simp only [e_ret, e_var, List.getElem?_cons_zero, List.getElem?_cons_succ, rto_ok, runO_rt], r.dw, r.cell, ⟨r.len, r.byte⟩⟩
  have hcs : c = 0 ∨ c = 1 ∨ c = 2 ∨ c = 3 ∨ c = 4 ∨ c = 5 ∨ c = 6 := by omega
  -- writing at t
  have put : ∀ (x : Int) (s3 : S), 0 < l.length → 0 ≤ x → x < 256 → Dw a b s s3 → s3[s.length]? = some (C.lst (l.map D.int)) → setAt (.ref s.length) (.int t) (.int x) s3 = some (s3.set s.length (C.lst ((l.set t.toNat x).map D.int))) ∧ Row a b s (s3.set s.length (C.lst ((l.set t.toNat x).map D.int))) s.length (l.set t.toNat x) := fun x s3 hp x0 x1 w3 h3 => by
    have htl : t < (l.length : Int) := by have := m2 hp; omega
    refine ⟨?_, ?_⟩
    · rw [setAt_of h3 (ixN_nat t0 (by rw [List.length_map]; exact htl)), List.map_set]
    · refine ⟨w3.put h (Nat.le_refl _), set_at h3, Nat.le_refl _, by rw [List.length_set]; exact D0.len, fun y hy => ?_⟩
      rcases List.mem_or_eq_of_mem_set hy with hy | hy
      · exact D0.byte y hy
      · rw [hy]
        exact ⟨x0, x1⟩
  rcases hcs with hc | hc | hc | hc | hc | hc | hc
  · rw [e_seq, no2 1 _ _ _ _ (by omega), obind_nx, e_seq, no2 2 _ _ _ _ (by omega), obind_nx, e_seq, no 3 _ _ _ (by omega), obind_nx, e_seq, no 4 _ _ _ (by omega), obind_nx, e_seq, no 5 _ _ _ (by omega), obind_nx, e_seq, no 6 _ _ _ (by omega), obind_nx]
    exact fin _ _ _ R2
  · by_cases hp : 0 < l.length
    · obtain ⟨x, s3, e3, x0, x1, w3⟩ := take_ok W.ok (m := 256) (by decide) (by decide)
      have h3 := w3.keep _ _ (by omega) hk2
      obtain ⟨hset, hrow⟩ := put x s3 hp x0 x1 (W.trans w3) h3
      have hp' : (0 : Int) < (l.length : Int) := by omega
      have st : (sIf (mAnd (mOp oEq (mVar 3) (mC (.int 1))) (mOp oGt (mCall cLen (mCons (mVar 1) mNil)) (mC (.int 0))))
          (sSub (mCall F__law_take (mCons (mVar 0) (mCons (mC (.int 256)) mNil))) (mVar 1) (mVar 2)) bNil) [some (.ref a), some (.ref s.length), some (.int t), some (.int c), none] s2 = .nx [some (.ref a), some (.ref s.length), some (.int t), some (.int c), none] (s3.set s.length (C.lst ((l.set t.toNat x).map D.int))) := by
        simp only [e_sif, e_and, e_op, e_var, e_c, e_call, e_cons, e_nil, List.getElem?_cons_zero, List.getElem?_cons_succ, rbind_ok, rto_ok, oEq_int, hc, decide_true, len_ok hk2, oGt_int, hp', ifK_t, e_sub, e3, hset]
      rw [e_seq, st, obind_nx, e_seq, no2 2 _ _ _ _ (by omega), obind_nx, e_seq, no 3 _ _ _ (by omega), obind_nx, e_seq, no 4 _ _ _ (by omega), obind_nx, e_seq, no 5 _ _ _ (by omega), obind_nx, e_seq, no 6 _ _ _ (by omega), obind_nx]
      exact fin _ _ _ hrow
    · have hp' : ¬ (0 : Int) < (l.length : Int) := by omega
      have st : (sIf (mAnd (mOp oEq (mVar 3) (mC (.int 1))) (mOp oGt (mCall cLen (mCons (mVar 1) mNil)) (mC (.int 0))))
          (sSub (mCall F__law_take (mCons (mVar 0) (mCons (mC (.int 256)) mNil))) (mVar 1) (mVar 2)) bNil) [some (.ref a), some (.ref s.length), some (.int t), some (.int c), none] s2 = .nx [some (.ref a), some (.ref s.length), some (.int t), some (.int c), none] s2 := by
        simp only [e_sif, e_and, e_op, e_var, e_c, e_call, e_cons, e_nil, List.getElem?_cons_zero, List.getElem?_cons_succ, rbind_ok, rto_ok, oEq_int, hc, decide_true, len_ok hk2, oGt_int, hp', decide_false, ifK_f, e_bnil]
      rw [e_seq, st, obind_nx, e_seq, no2 2 _ _ _ _ (by omega), obind_nx, e_seq, no 3 _ _ _ (by omega), obind_nx, e_seq, no 4 _ _ _ (by omega), obind_nx, e_seq, no 5 _ _ _ (by omega), obind_nx, e_seq, no 6 _ _ _ (by omega), obind_nx]
      exact fin _ _ _ R2
  · by_cases hp : 0 < l.length
    · have seven : (7 : Nat) ≤ sizeLine := by rw [sizeL]; omega
      have pb : Pre s2 (s2 ++ [C.lst [.int 0, .int 6, .int 7, .int 128, .int 37, .int 9, .int 10]]) := Pre.app
      obtain ⟨r, s3, e3, r0, r1, w3⟩ := take_ok (W.ok.pre pb) (m := 7) (by decide) (by decide)
      have hL := w3.keep s2.length _ (by have := W.ok.lt; omega) app_last
      obtain ⟨x, hx, ex⟩ := pick r0 (by simpa using r1) hL
      obtain ⟨y, rfl, y0, y1⟩ : ∃ y : Int, x = .int y ∧ 0 ≤ y ∧ y < 256 := by
        simp at hx
        rcases hx with rfl | rfl | rfl | rfl | rfl | rfl | rfl <;> exact ⟨_, rfl, by decide, by decide⟩
      have h3 := w3.keep _ _ (by omega) (pb _ _ hk2)
      obtain ⟨hset, hrow⟩ := put y s3 hp y0 y1 ((W.pre pb).trans w3) h3
      have hp' : (0 : Int) < (l.length : Int) := by omega
      have st : (sIf (mAnd (mOp oEq (mVar 3) (mC (.int 2))) (mOp oGt (mCall cLen (mCons (mVar 1) mNil)) (mC (.int 0))))
          (sSub (mOp oIx (mLst (mCons (mC (.int 0)) (mCons (mC (.int 6)) (mCons (mC (.int 7)) (mCons (mC (.int 128)) (mCons (mC (.int 37)) (mCons (mC (.int 9)) (mCons (mC (.int 10)) mNil)))))))) (mCall F__law_take (mCons (mVar 0) (mCons (mC (.int 7)) mNil)))) (mVar 1) (mVar 2)) bNil) [some (.ref a), some (.ref s.length), some (.int t), some (.int c), none] s2 = .nx [some (.ref a), some (.ref s.length), some (.int t), some (.int c), none] (s3.set s.length (C.lst ((l.set t.toNat y).map D.int))) := by
        simp only [e_sif, e_and, e_op, e_var, e_c, e_call, e_cons, e_nil, List.getElem?_cons_zero, List.getElem?_cons_succ, rbind_ok, rto_ok, oEq_int, hc, decide_true, len_ok hk2, oGt_int, hp', ifK_t, e_sub, e_lst, List.length_cons, List.length_nil, Nat.zero_add, Nat.reduceAdd, seven, if_true, e3, ex, hset]
      rw [e_seq, no2 1 _ _ _ _ (by omega), obind_nx, e_seq, st, obind_nx, e_seq, no 3 _ _ _ (by omega), obind_nx, e_seq, no 4 _ _ _ (by omega), obind_nx, e_seq, no 5 _ _ _ (by omega), obind_nx, e_seq, no 6 _ _ _ (by omega), obind_nx]
      exact fin _ _ _ hrow
    · have hp' : ¬ (0 : Int) < (l.length : Int) := by omega
      have st : (sIf (mAnd (mOp oEq (mVar 3) (mC (.int 2))) (mOp oGt (mCall cLen (mCons (mVar 1) mNil)) (mC (.int 0))))
          (sSub (mOp oIx (mLst (mCons (mC (.int 0)) (mCons (mC (.int 6)) (mCons (mC (.int 7)) (mCons (mC (.int 128)) (mCons (mC (.int 37)) (mCons (mC (.int 9)) (mCons (mC (.int 10)) mNil)))))))) (mCall F__law_take (mCons (mVar 0) (mCons (mC (.int 7)) mNil)))) (mVar 1) (mVar 2)) bNil) [some (.ref a), some (.ref s.length), some (.int t), some (.int c), none] s2 = .nx [some (.ref a), some (.ref s.length), some (.int t), some (.int c), none] s2 := by
        simp only [e_sif, e_and, e_op, e_var, e_c, e_call, e_cons, e_nil, List.getElem?_cons_zero, List.getElem?_cons_succ, rbind_ok, rto_ok, oEq_int, hc, decide_true, len_ok hk2, oGt_int, hp', decide_false, ifK_f, e_bnil]
      rw [e_seq, no2 1 _ _ _ _ (by omega), obind_nx, e_seq, st, obind_nx, e_seq, no 3 _ _ _ (by omega), obind_nx, e_seq, no 4 _ _ _ (by omega), obind_nx, e_seq, no 5 _ _ _ (by omega), obind_nx, e_seq, no 6 _ _ _ (by omega), obind_nx]
      exact fin _ _ _ R2
  · -- 3: one more
    obtain ⟨l1, h1, n1, b1⟩ := sl_ok hk2 none (some t)
    have pb : Pre s2 (s2 ++ [C.lst (l1.map D.int)]) := Pre.app
    obtain ⟨x, s3, e3, x0, x1, w3⟩ := take_ok (W.ok.pre pb) (m := 256) (by decide) (by decide)
    have hla2 := W.ok.lt
    have g1 : s3[s2.length]? = some (C.lst (l1.map D.int)) := w3.keep _ _ (by omega) app_last
    have pc : Pre s3 (s3 ++ [C.lst [.int x]]) := Pre.app
    have one : (1 : Nat) ≤ sizeLine := by rw [sizeL]; omega
    have hA := oAdd_lst (es := [.int x]) (pc _ _ g1) (app_last (s := s3) (c := C.lst [.int x])) (by rw [List.length_map, sizeL]; simp; omega)
    have pd : Pre (s3 ++ [C.lst [.int x]]) ((s3 ++ [C.lst [.int x]]) ++ [C.lst (l1.map D.int ++ [.int x])]) := Pre.app
    have hk3 := pd _ _ (pc _ _ (w3.keep _ _ (by omega) (pb _ _ hk2)))
    obtain ⟨l2, h2, n2, b2⟩ := sl_ok hk3 (some t) none
    have hA2 := oAdd_lst (j := (s3 ++ [C.lst [.int x]]).length) (ds := l1.map D.int ++ [.int x]) (es := l2.map D.int) ((Pre.app (t := [C.lst (l2.map D.int)])) _ _ (app_last (s := s3 ++ [C.lst [.int x]]) (c := C.lst (l1.map D.int ++ [.int x])))) (app_last (s := (s3 ++ [C.lst [.int x]]) ++ [C.lst (l1.map D.int ++ [.int x])]) (c := C.lst (l2.map D.int))) (by simp only [List.length_append, List.length_map, List.length_singleton]; rw [sizeL]; omega)
    have st := yes 3 (sSet 1 (mOp oAdd (mOp oAdd (mSl (mVar 1) pNo (pAt (mVar 2))) (mLst (mCons (mCall F__law_take (mCons (mVar 0) (mCons (mC (.int 256)) mNil))) mNil))) (mSl (mVar 1) (pAt (mVar 2)) pNo))) (.ref s.length) s2 hc
    simp only [e_set, e_op, e_sl, e_pNo, e_pAt, e_lst, e_call, e_cons, e_nil, e_var, e_c, List.getElem?_cons_zero, List.getElem?_cons_succ, rbind_ok, h1, e3, List.length_cons, List.length_nil, Nat.zero_add, one, if_true, hA, h2, hA2, rto_ok, List.set_cons_succ, List.set_cons_zero] at st
    rw [e_seq, no2 1 _ _ _ _ (by omega), obind_nx, e_seq, no2 2 _ _ _ _ (by omega), obind_nx, e_seq, st, obind_nx, e_seq, no 4 _ _ _ (by omega), obind_nx, e_seq, no 5 _ _ _ (by omega), obind_nx, e_seq, no 6 _ _ _ (by omega), obind_nx]
    refine fin _ (l1 ++ [x] ++ l2) _ ⟨((((W.pre pb).trans w3).pre pc).pre pd).pre (Pre.app.trans Pre.app), ?_, ?_, ?_, ?_⟩
    · rw [List.map_append, List.map_append]
      exact app_last
    · have := W.ok.lt
      have l1' : s.length < s2.length := lt_of_get hk2
      have l3 : s2.length < s3.length := lt_of_get g1
      simp only [List.length_append, List.length_singleton]
      omega
    · simp only [List.length_append, List.length_singleton]
      omega
    · intro y hy
      rcases List.mem_append.mp hy with hy | hy
      · rcases List.mem_append.mp hy with hy | hy
        · exact D0.byte y (b1 y hy)
        · rw [List.mem_singleton.mp hy]
          exact ⟨x0, x1⟩
      · exact D0.byte y (b2 y hy)
  · -- 4: one less
    obtain ⟨l1, h1, n1, b1⟩ := sl_ok hk2 none (some t)
    have pb : Pre s2 (s2 ++ [C.lst (l1.map D.int)]) := Pre.app
    obtain ⟨l2, h2, n2, b2⟩ := sl_ok (pb _ _ hk2) (some (t + 1)) none
    have hA2 := oAdd_lst (j := s2.length) (ds := l1.map D.int) (es := l2.map D.int) ((Pre.app (t := [C.lst (l2.map D.int)])) _ _ (app_last (s := s2) (c := C.lst (l1.map D.int)))) (app_last (s := s2 ++ [C.lst (l1.map D.int)]) (c := C.lst (l2.map D.int))) (by simp only [List.length_map]; rw [sizeL]; omega)
    have st := yes 4 (sSet 1 (mOp oAdd (mSl (mVar 1) pNo (pAt (mVar 2))) (mSl (mVar 1) (pAt (mOp oAdd (mVar 2) (mC (.int 1)))) pNo))) (.ref s.length) s2 hc
    simp only [e_set, e_op, e_sl, e_pNo, e_pAt, e_var, e_c, List.getElem?_cons_zero, List.getElem?_cons_succ, rbind_ok, h1, oAdd_int, h2, hA2, rto_ok, List.set_cons_succ, List.set_cons_zero] at st
    rw [e_seq, no2 1 _ _ _ _ (by omega), obind_nx, e_seq, no2 2 _ _ _ _ (by omega), obind_nx, e_seq, no 3 _ _ _ (by omega), obind_nx, e_seq, st, obind_nx, e_seq, no 5 _ _ _ (by omega), obind_nx, e_seq, no 6 _ _ _ (by omega), obind_nx]
    refine fin _ (l1 ++ l2) _ ⟨(W.pre pb).pre (Pre.app.trans Pre.app), ?_, ?_, ?_, ?_⟩
    · rw [List.map_append]
      exact app_last
    · have l1' : s.length < s2.length := lt_of_get hk2
      simp only [List.length_append, List.length_singleton]
      omega
    · simp only [List.length_append]
      omega
    · intro y hy
      rcases List.mem_append.mp hy with hy | hy
      · exact D0.byte y (b1 y hy)
      · exact D0.byte y (b2 y hy)
  · -- 5: cut
    obtain ⟨l1, h1, n1, b1⟩ := sl_ok hk2 none (some t)
    have st := yes 5 (sSet 1 (mSl (mVar 1) pNo (pAt (mVar 2)))) (.ref s.length) s2 hc
    simp only [e_set, e_sl, e_pNo, e_pAt, e_var, e_c, List.getElem?_cons_zero, List.getElem?_cons_succ, rbind_ok, h1, rto_ok, List.set_cons_succ, List.set_cons_zero] at st
    rw [e_seq, no2 1 _ _ _ _ (by omega), obind_nx, e_seq, no2 2 _ _ _ _ (by omega), obind_nx, e_seq, no 3 _ _ _ (by omega), obind_nx, e_seq, no 4 _ _ _ (by omega), obind_nx, e_seq, st, obind_nx, e_seq, no 6 _ _ _ (by omega), obind_nx]
    refine fin _ l1 _ ⟨W.pre Pre.app, app_last, Nat.le_of_lt (lt_of_get hk2), by omega, fun y hy => D0.byte y (b1 y hy)⟩
  · -- 6: anew
    obtain ⟨m, s3, e3, m0', m1', w3⟩ := take_ok W.ok (m := 13) (by decide) (by decide)
    obtain ⟨l1, s4, h4, w4, n4, b4⟩ := bent_loop s (.ref s.length) (.int t) (.int c) m.toNat 0 [] s3 (by simp; omega) w3.ok (W.trans w3) (fun x hx => by cases hx)
    have h4 : lcL none 4 yesM (mOp oIx (mLst (mCons (mCall F__law_take (mCons (mVar 0) (mCons (mC (.int 256)) mNil))) (mCons (mCall F__law_take (mCons (mVar 0) (mCons (mC (.int 8)) mNil))) mNil))) (mCall F__law_take (mCons (mVar 0) (mCons (mC (.int 2)) mNil)))) [some (.ref a), some (.ref s.length), some (.int t), some (.int c), none] (rngL 0 m.toNat) [] s3 = .ok (l1.map D.int) s4 := h4
    have st := yes 6 (sSet 1 (mLc (iRng1 (mCons (mCall F__law_take (mCons (mVar 0) (mCons (mC (.int 13)) mNil))) mNil)) 4 yesM (mOp oIx (mLst (mCons (mCall F__law_take (mCons (mVar 0) (mCons (mC (.int 256)) mNil))) (mCons (mCall F__law_take (mCons (mVar 0) (mCons (mC (.int 8)) mNil))) mNil))) (mCall F__law_take (mCons (mVar 0) (mCons (mC (.int 2)) mNil)))))) (.ref s.length) s2 hc
    have st2 : (sSet 1 (mLc (iRng1 (mCons (mCall F__law_take (mCons (mVar 0) (mCons (mC (.int 13)) mNil))) mNil)) 4 yesM (mOp oIx (mLst (mCons (mCall F__law_take (mCons (mVar 0) (mCons (mC (.int 256)) mNil))) (mCons (mCall F__law_take (mCons (mVar 0) (mCons (mC (.int 8)) mNil))) mNil))) (mCall F__law_take (mCons (mVar 0) (mCons (mC (.int 2)) mNil)))))) [some (.ref a), some (.ref s.length), some (.int t), some (.int c), none] s2 = .nx [some (.ref a), some (.ref s4.length), some (.int t), some (.int c), none] (s4 ++ [C.lst (l1.map D.int)]) := by
      simp only [e_set, e_lc, e_rng1, e_call, e_cons, e_nil, e_var, e_c, List.getElem?_cons_zero, List.getElem?_cons_succ, rbind_ok, e3, e_rngK1]
      rw [h4]
      simp only [rbind_ok, rto_ok, List.set_cons_succ, List.set_cons_zero]
    rw [e_seq, no2 1 _ _ _ _ (by omega), obind_nx, e_seq, no2 2 _ _ _ _ (by omega), obind_nx, e_seq, no 3 _ _ _ (by omega), obind_nx, e_seq, no 4 _ _ _ (by omega), obind_nx, e_seq, no 5 _ _ _ (by omega), obind_nx, e_seq, st, st2, obind_nx]
    have hlen : s.length ≤ s4.length := by
      by_cases z : s.length = 0
      · omega
      · by_cases y : s.length - 1 = a
        · by_cases y2 : s.length - 1 = b
          · have := w4.ok.lt
            omega
          · have := w4.ok.lt
            omega
        · have := lt_of_get (w4.keep (s.length - 1) _ y (List.getElem?_eq_getElem (by omega)))
          omega
    exact fin _ l1 _ ⟨w4.pre Pre.app, app_last, hlen, by omega, b4⟩
end G85
end Mi
namespace Mi
namespace G85
open PySem PySem.Spec PyProof.Rows L2

theorem cAbs_int (i : Int) (s : S) : cAbs [.int i] s = .ok (.int (if i < 0 then -i else i)) s := rfl
theorem draw_seed (fr : D) (s : S) : ∀ (ns : List Int) (seed : Int) (o : Option D), 0 ≤ seed → seed < 2147483647 →
    ∃ seed' o', 0 ≤ seed' ∧ seed' < 2147483647 ∧ loop none (gN 2) W__law_draw1 (ns.map D.int) [some fr, some (.int seed), o] s = .nx [some fr, some (.int seed'), o'] s
  | [], seed, o, h0, h1 => ⟨seed, o, h0, h1, loop_nil (g := none) trivial⟩
  | n :: ns, seed, o, h0, h1 => by
    rw [List.map_cons, loop_cons (g := none) trivial (gN_eq _ _ _)]
    have hw : W__law_draw1 ([some fr, some (.int seed), o].set 2 (some (.int n))) s = .nx [some fr, some (.int ((seed * 48271 + (if n < 0 then -n else n) % 65521 + 1) % 2147483647)), some (.int n)] s := by
      simp only [List.set_cons_succ, List.set_cons_zero, W__law_draw1, e_set, e_op, e_call, e_cons, e_nil, e_var, e_c, List.getElem?_cons_zero, List.getElem?_cons_succ, rbind_ok, rto_ok, oMul_int (cm48 h0 h1), cInt_int, cAbs_int, oMod_int (show (0 : Int) < 65521 by decide), oAdd_int, oMod_int (show (0 : Int) < 2147483647 by decide)]
    rw [hw]
    exact draw_seed fr s ns _ _ (Int.emod_nonneg _ (by decide)) (Int.emod_lt_of_pos _ (by decide))
theorem draw_abs (x0 x1 : D) (s : S) : ∀ (ns : List Int) (acc : List Int), acc.length + ns.length ≤ 63 → (∀ x ∈ acc, 0 ≤ x) →
    ∃ cs : List Int, (∀ x ∈ cs, 0 ≤ x) ∧ lcL none 2 yesM (mCall cAbs (mCons (mCall cInt (mCons (mVar 2) mNil)) mNil)) [some x0, some x1, none] (ns.map D.int) (acc.map D.int) s = .ok (cs.map D.int) s
  | [], acc, hl, hb => ⟨acc, hb, lc_nil (g := none) trivial⟩
  | n :: ns, acc, hl, hb => by
    have hm : (mCall cAbs (mCons (mCall cInt (mCons (mVar 2) mNil)) mNil)) (([some x0, some x1, none].set 2 none).set 2 (some (.int n))) s = .ok (.int (if n < 0 then -n else n)) s := by
      simp only [List.set_cons_succ, List.set_cons_zero, e_call, e_cons, e_nil, e_var, List.getElem?_cons_zero, List.getElem?_cons_succ, rbind_ok, cInt_int, cAbs_int]
    rw [List.length_cons] at hl
    rw [List.map_cons, lc_cons (g := none) trivial hm (by rw [List.length_map, sizeL]; omega)]
    obtain ⟨cs, h1, h2⟩ := draw_abs x0 x1 s ns (acc ++ [if n < 0 then -n else n]) (by rw [List.length_append, List.length_singleton]; omega) (fun x hx => by
      rcases List.mem_append.mp hx with hx | hx
      · exact hb x hx
      · rw [List.mem_singleton.mp hx]
        split <;> omega)
    refine ⟨cs, h1, ?_⟩
    rw [List.map_append] at h2
    exact h2
theorem lc_forget {g : Option (Nat × C)} {i : Nat} {c m : M} {ε ε' : Ev} (h : ∀ d, (ε.set i none).set i (some d) = (ε'.set i none).set i (some d)) : ∀ (ds acc : List D) (s : S), lcL g i c m ε ds acc s = lcL g i c m ε' ds acc s
  | [], acc, s => rfl
  | d :: ds, acc, s => by
    unfold lcL
    rw [h d]
    split
    · split
      · split
        · split
          · exact lc_forget h ds _ _
          · rfl
        · rfl
      · exact lc_forget h ds _ _
      · rfl
    · rfl
theorem draw_ok (ns : List Int) (hn : ns.length ≤ 63) : ∃ s, F__law_draw [.frl (ns.map D.int)] [] = .ok (.ref 1) s ∧ DrawOk 1 0 s := by
  have e0 : F__law_draw [.frl (ns.map D.int)] [] = runO (B__law_draw [some (.frl (ns.map D.int)), none, none] []) := by
    unfold F__law_draw
    rw [runF_eq (n := 1) rfl]
    rfl
  obtain ⟨seed, o, h0, h1, hs⟩ := draw_seed (.frl (ns.map D.int)) [] ns 7 none (by decide) (by decide)
  obtain ⟨cs, c0, hc⟩ := draw_abs (.frl (ns.map D.int)) (.int seed) [] ns [] (by simpa using hn) (fun x hx => by cases hx)
  have hc : lcL none 2 yesM (mCall cAbs (mCons (mCall cInt (mCons (mVar 2) mNil)) mNil)) [some (.frl (ns.map D.int)), some (.int seed), o] (ns.map D.int) [] [] = .ok (cs.map D.int) [] := by
    rw [← hc]
    exact lc_forget (ε := [some (.frl (ns.map D.int)), some (.int seed), o]) (ε' := [some (.frl (ns.map D.int)), some (.int seed), none]) (fun d => rfl) _ _ _
  have four : (4 : Nat) ≤ sizeLine := by rw [sizeL]; omega
  refine ⟨[C.lst (cs.map D.int), C.lst [.ref 0, .int (-1), .int 0, .int seed]], ?_, ⟨cs, -1, 0, seed, rfl, rfl, by decide, c0, by decide, by decide, h0, h1⟩⟩
  rw [e0]
  simp only [B__law_draw, e_seq, e_set, e_c, rto_ok, List.set_cons_succ, List.set_cons_zero, obind_nx, e_for, e_iseq, e_var, List.getElem?_cons_zero, List.getElem?_cons_succ, rbind_ok, e_it_frl]
  rw [hs]
  simp only [obind_nx, e_ret, e_lst, e_cons, e_nil, e_c, e_neg, e_lc, e_iseq, e_var, List.getElem?_cons_zero, List.getElem?_cons_succ, rbind_ok, e_it_frl]
  rw [hc]
  simp only [rbind_ok, List.length_nil, List.length_cons, Nat.zero_add, Nat.reduceAdd, four, if_true, rto_ok, runO_rt, List.nil_append, List.cons_append]

/-! ### the bytes -/
theorem sz_by (n : Nat) : By (sz n) := by
  induction n using Nat.strongRecOn with
  | ind n ih =>
    intro x hx
    by_cases h : n < 128
    · rw [sz_lt h] at hx
      rw [List.mem_singleton.mp hx]
      omega
    · rw [sz_ge h] at hx
      rcases List.mem_cons.mp hx with rfl | hx
      · omega
      · exact ih (n / 128) (by omega) x hx
theorem by_app {xs ys : List Int} (h1 : By xs) (h2 : By ys) : By (xs ++ ys) := fun x hx => (List.mem_append.mp hx).elim (h1 x) (h2 x)
theorem by_cons {c : Int} {xs : List Int} (h0 : 0 ≤ c) (h1 : c < 256) (h : By xs) : By (c :: xs) := fun x hx => by
  rcases List.mem_cons.mp hx with rfl | hx
  · exact ⟨h0, h1⟩
  · exact h x hx
mutual
theorem pk_by : ∀ (v : D) (d : Nat) (r : List Int), pk d v = some r → By r
  | .non, d, r, h => by
    simp [pk] at h
    subst h
    exact by_cons (by decide) (by decide) fun x hx => by cases hx
  | .bl b, d, r, h => by
    simp [pk] at h
    subst h
    cases b <;> exact by_cons (by decide) (by decide) fun x hx => by cases hx
  | .int i, d, r, h => by
    simp [pk] at h
    subst h
    split
    · exact by_cons (by decide) (by decide) (sz_by _)
    · exact by_cons (by decide) (by decide) (sz_by _)
  | .str x, d, r, h => by
    simp only [pk] at h
    split at h
    · rename_i hs
      cases h
      refine by_cons (by decide) (by decide) (by_app (sz_by _) fun y hy => ?_)
      obtain ⟨c, hc, rfl⟩ := List.mem_map.mp hy
      have := isSign_of (List.all_eq_true.mp hs c hc)
      omega
    · cases h
  | .tup ds, d, r, h => by
    simp only [pk] at h
    split at h
    · obtain ⟨q, hq, rfl⟩ := Option.map_eq_some_iff.mp h
      exact by_cons (by decide) (by decide) (by_app (sz_by _) (pkAll_by ds (d + 1) q hq))
    · cases h
  | .ref _, _, _, h => by simp [pk] at h
  | .ty _, _, _, h => by simp [pk] at h
  | .fn _, _, _, h => by simp [pk] at h
  | .frl _, _, _, h => by simp [pk] at h
  | .exn _ _ _ _ _, _, _, h => by simp [pk] at h
theorem pkAll_by : ∀ (vs : List D) (d : Nat) (r : List Int), pkAll d vs = some r → By r
  | [], d, r, h => by
    simp [pkAll] at h
    subst h
    exact fun x hx => by cases hx
  | x :: xs, d, r, h => by
    simp only [pkAll] at h
    split at h
    · rename_i a b ha hb
      cases h
      exact by_app (pk_by x d a ha) (pkAll_by xs d b hb)
    · cases h
end
/-! ### the law -/
theorem around_loop {a b : Nat} (x0 x3 x4 x5 : Option D) (s0 : S) : ∀ (m : Nat) (lo : Nat) (v : D) (n : Nat) (o : Option D) (s : S), DrawOk a b s → lo + m ≤ 61 → Vd s v → bt v ≤ n →
    ∃ v' o' s', loop none (gN 6) W_law2 (rngL (lo : Int) m) [x0, some (.ref a), some v, x3, x4, x5, o, none] s = .nx [x0, some (.ref a), some v', x3, x4, x5, o', none] s' ∧ Dw a b s s' ∧ Vd s' v' ∧ bt v' ≤ n + 4 * m
  | 0, lo, v, n, o, s, hd, hl, hv, hb => ⟨v, o, s, loop_nil (g := none) trivial, ⟨fun r c _ e => e, hd⟩, hv, by omega⟩
  | m + 1, lo, v, n, o, s, hd, hl, hv, hb => by
    obtain ⟨c, s1, e1, c0, c1, w1⟩ := take_ok hd (m := 3) (by decide) (by decide)
    have one : (1 : Nat) ≤ sizeLine := by rw [sizeL]; omega
    have z1 : (sz 1).length = 1 := by rw [sz_lt (by omega)]; rfl
    have z2 : (sz 2).length = 1 := by rw [sz_lt (by omega)]; rfl
    have zl : (sz lo).length = 1 := by rw [sz_lt (by omega)]; rfl
    have hvs : ∀ t : S, Dw a b s t → Vd t v := fun t w => Vd.mono (fun r e he => by
      by_cases hr : r = a
      · obtain ⟨cells, i, v, seed, h1, _⟩ := w.ok.ex
        subst hr
        exact ⟨_, h1⟩
      · exact ⟨e, w.keep r e hr he⟩) v hv
    rw [show rngL (lo : Int) (m + 1) = .int (lo : Int) :: rngL ((lo : Int) + 1) m from rfl, loop_cons (g := none) trivial (gN_eq _ _ _), show (lo : Int) + 1 = ((lo + 1 : Nat) : Int) by omega]
    by_cases hc : 0 < c
    · have hw : W_law2 ([x0, some (.ref a), some v, x3, x4, x5, o, none].set 6 (some (.int (lo : Int)))) s = .nx [x0, some (.ref a), some (.tup [v]), x3, x4, x5, some (.int (lo : Int)), none] s1 := by
        simp only [List.set_cons_succ, List.set_cons_zero, W_law2, e_set, e_if, e_op, e_call, e_cons, e_nil, e_var, e_c, List.getElem?_cons_zero, List.getElem?_cons_succ, rbind_ok, rto_ok, e1, oGt_int, hc, decide_true, e_tup, List.length_cons, List.length_nil, Nat.zero_add, one, if_true]
      rw [hw]
      have hvt := hvs s1 w1
      obtain ⟨v', o', s', h1, h2, h3, h4⟩ := around_loop x0 x3 x4 x5 s0 m (lo + 1) (.tup [v]) (n + 4) (some (.int (lo : Int))) s1 w1.ok (by omega) ⟨hvt, trivial⟩ (by simp [bt, btAll, z1]; omega)
      exact ⟨v', o', s', h1, w1.trans h2, h3, by omega⟩
    · have hw : W_law2 ([x0, some (.ref a), some v, x3, x4, x5, o, none].set 6 (some (.int (lo : Int)))) s = .nx [x0, some (.ref a), some (.tup [.int (lo : Int), v]), x3, x4, x5, some (.int (lo : Int)), none] s1 := by
        simp only [List.set_cons_succ, List.set_cons_zero, W_law2, e_set, e_if, e_op, e_call, e_cons, e_nil, e_var, e_c, List.getElem?_cons_zero, List.getElem?_cons_succ, rbind_ok, rto_ok, e1, oGt_int, hc, decide_false, e_tup, List.length_cons, List.length_nil, Nat.zero_add, Nat.reduceAdd, two_le, if_true]
      rw [hw]
      have hvt := hvs s1 w1
      obtain ⟨v', o', s', h1, h2, h3, h4⟩ := around_loop x0 x3 x4 x5 s0 m (lo + 1) (.tup [.int (lo : Int), v]) (n + 4) (some (.int (lo : Int))) s1 w1.ok (by omega) ⟨trivial, hvt, trivial⟩ (by simp [bt, btAll, z2, zl]; omega)
      exact ⟨v', o', s', h1, w1.trans h2, h3, by omega⟩
theorem bents_loop {a b k : Nat} {l : List Int} (D0 : Dt l) (hl : l.length ≤ 59000) (hka : k ≠ a) (x0 x2 x3 x4 x5 : Option D) : ∀ (m : Nat) (lo : Int) (o : Option D) (s : S), DrawOk a b s → s[k]? = some (C.lst (l.map D.int)) →
    ∃ o' s', loop none (gN 6) W_law1 (rngL lo m) [x0, some (.ref a), x2, x3, x4, x5, o, some (.ref k)] s = .nx [x0, some (.ref a), x2, x3, x4, x5, o', some (.ref k)] s'
  | 0, lo, o, s, hd, hs => ⟨o, s, loop_nil (g := none) trivial⟩
  | m + 1, lo, o, s, hd, hs => by
    obtain ⟨k', l', s1, e1, w1, h1, D1⟩ := bent_ok hd hs D0 hl
    obtain ⟨s2, e2, p2⟩ := unpacks_ok D1 h1
    rw [show rngL lo (m + 1) = .int lo :: rngL (lo + 1) m from rfl, loop_cons (g := none) trivial (gN_eq _ _ _)]
    have hw : W_law1 ([x0, some (.ref a), x2, x3, x4, x5, o, some (.ref k)].set 6 (some (.int lo))) s = .nx [x0, some (.ref a), x2, x3, x4, x5, some (.int lo), some (.ref k)] s2 := by
      simp only [List.set_cons_succ, List.set_cons_zero, W_law1, e_sif, e_not, e_call, e_cons, e_nil, e_var, List.getElem?_cons_zero, List.getElem?_cons_succ, rbind_ok, rto_ok, e1, e2, Bool.not_true, ifK_f, e_bnil]
    rw [hw]
    exact bents_loop D0 hl hka x0 x2 x3 x4 x5 m (lo + 1) (some (.int lo)) s2 (w1.ok.pre p2) (p2 _ _ (w1.keep _ _ hka hs))
noncomputable def tailL : B := (bSeq (sSet 7 (mCall (F__law_packed 64) (mCons (mVar 2) (mCons (mC (.int 0)) mNil))))
  (bSeq (sIf (mOp oIs (mVar 7) (mC .non))
  (sRet (mOp oEq (mCall F__law_error (mCons (mC (.fn ("pack" : Str))) (mCons (mVar 2) mNil))) (mLst (mCons (mC (.str ("pack" : Str))) (mCons (mNeg (mC (.int 1))) mNil)))))
  bNil)
  (bSeq (sIf (mOr (mOp oNe (mCall F_pack (mCons (mVar 2) mNil)) (mVar 7)) (mNot (mCall F__law_unpacks (mCons (mVar 7) mNil))))
  (sRet (mC (.bl false)))
  bNil)
  (bSeq (sFor (iRng1 (mCons (mC (.int 3)) mNil)) (gN 6) W_law1)
  (sRet (mC (.bl true)))))))
theorem tail_ok {a b : Nat} {v : D} {s : S} {x0 x3 x4 x5 x6 : Option D} (hd : DrawOk a b s) (hv : Vd s v) (hb : bt v ≤ 59000) : ∃ s', tailL [x0, some (.ref a), some v, x3, x4, x5, x6, none] s = .rt (.bl true) s' := by
  have hz : bt v ≤ sizeLine := by rw [sizeL]; omega
  have hp := law_packed_ok 64 v 0 s (by omega) (by omega) (by omega) hv hz
  cases e : pk 0 v with
  | none =>
    rw [e] at hp
    obtain ⟨s1, e1, p1⟩ := hp
    have e1 : F__law_packed 64 [v, .int 0] s = .ok .non s1 := e1
    have hP := pack_ok (s := s1) (vd_pre p1 v hv) hz
    rw [e] at hP
    obtain ⟨s2, e2⟩ := hP
    have hE := law_error_ok G_pack e2
    have hq := oEq_err (s := (s2 ++ [C.lst [.str "pack", .int (-1)]]) ++ [C.lst [.str "pack", .int (-1)]]) (i := s2.length) (j := (s2 ++ [C.lst [.str "pack", .int (-1)]]).length) (x := -1) (y := -1) (by rw [app_get (by simp)]; exact app_last) app_last
    refine ⟨(s2 ++ [C.lst [.str "pack", .int (-1)]]) ++ [C.lst [.str "pack", .int (-1)]], ?_⟩
    simp only [tailL, e_seq, e_set, e_call, e_cons, e_nil, e_var, e_c, List.getElem?_cons_zero, List.getElem?_cons_succ, rbind_ok, rto_ok, e1, List.set_cons_succ, List.set_cons_zero, obind_nx, e_sif, e_op, oIs_non, isN, ifK_t, e_ret, hE, e_lst, e_neg, List.length_cons, List.length_nil, Nat.zero_add, Nat.reduceAdd, two_le, if_true, hq, decide_true, obind_rt]
  | some l =>
    rw [e] at hp
    obtain ⟨k, s1, e1, p1, h1, hk⟩ := hp
    have e1 : F__law_packed 64 [v, .int 0] s = .ok (.ref k) s1 := e1
    have hlen := pk_len v 0 l e
    have D0 : Dt l := ⟨by omega, pk_by v 0 l e⟩
    have hP := pack_ok (s := s1) (vd_pre p1 v hv) hz
    rw [e] at hP
    have hP : F_pack [v] s1 = .ok (.ref s1.length) (s1 ++ [.lst (l.map D.int)]) := hP
    have h2 := (Pre.app (t := [C.lst (l.map D.int)])) _ _ h1
    have hq := oNe_lst (app_last (s := s1) (c := C.lst (l.map D.int))) h2
    obtain ⟨s2, e2, p2⟩ := unpacks_ok D0 h2
    have hd2 : DrawOk a b s2 := (hd.pre p1).pre (Pre.app.trans p2)
    have hka : k ≠ a := by have := hd.lt; omega
    obtain ⟨o', s3, e3⟩ := bents_loop D0 (by omega) hka x0 (some v) x3 x4 x5 3 0 x6 s2 hd2 (p2 _ _ h2)
    refine ⟨s3, ?_⟩
    simp only [tailL, e_seq, e_set, e_call, e_cons, e_nil, e_var, e_c, List.getElem?_cons_zero, List.getElem?_cons_succ, rbind_ok, rto_ok, e1, List.set_cons_succ, List.set_cons_zero, obind_nx, e_sif, e_op, oIs_non, isN, ifK_f, e_bnil, e_or, e_not, hP, hq, decide_true, Bool.not_true, e2, e_for, e_rng1, e_rngK1, show (3 : Int).toNat = 3 from rfl, e3, e_ret]
noncomputable def midL : B := (bSeq (sSet 5 (mC (.int 0)))
  (bSeq (sIf (mOp oEq (mCall F__law_take (mCons (mVar 1) (mCons (mC (.int 2)) mNil))) (mC (.int 1)))
  (sSet 5 (mOp oIx (mLst (mCons (mC (.int 1)) (mCons (mC (.int 5)) (mCons (mC (.int 55)) (mCons (mC (.int 56)) (mCons (mC (.int 57)) (mCons (mC (.int 58)) (mCons (mC (.int 59)) (mCons (mC (.int 60)) (mCons (mC (.int 61)) mNil)))))))))) (mCall F__law_take (mCons (mVar 1) (mCons (mC (.int 9)) mNil)))))
  bNil)
  (bSeq (sFor (iRng1 (mCons (mVar 5) mNil)) (gN 6) W_law2)
  tailL)))
theorem vd_dw {a b : Nat} {s t : S} (w : Dw a b s t) {v : D} (h : Vd s v) : Vd t v := Vd.mono (fun r e he => by
  by_cases hr : r = a
  · obtain ⟨cells, i, v, seed, h1, _⟩ := w.ok.ex
    subst hr
    exact ⟨_, h1⟩
  · exact ⟨e, w.keep r e hr he⟩) v h
theorem mid_ok {a b : Nat} {v : D} {s : S} {x0 x3 x4 : Option D} (hd : DrawOk a b s) (hv : Vd s v) (hb : bt v ≤ 58000) : ∃ s', midL [x0, some (.ref a), some v, x3, x4, none, none, none] s = .rt (.bl true) s' := by
  obtain ⟨c, s1, e1, c0, c1, w1⟩ := take_ok hd (m := 2) (by decide) (by decide)
  by_cases hc : c = 1
  · subst hc
    have nine : (9 : Nat) ≤ sizeLine := by rw [sizeL]; omega
    have pa : Pre s1 (s1 ++ [C.lst [.int 1, .int 5, .int 55, .int 56, .int 57, .int 58, .int 59, .int 60, .int 61]]) := Pre.app
    obtain ⟨r, s2, e2, r0, r1, w2⟩ := take_ok (w1.ok.pre pa) (m := 9) (by decide) (by decide)
    have hL := w2.keep s1.length _ (by have := w1.ok.lt; omega) app_last
    obtain ⟨x, hx, ex⟩ := pick r0 (by simpa using r1) hL
    obtain ⟨n, rfl, hn⟩ : ∃ n : Nat, x = .int (n : Int) ∧ n ≤ 61 := by
      simp at hx
      rcases hx with rfl | rfl | rfl | rfl | rfl | rfl | rfl | rfl | rfl
      · exact ⟨1, rfl, by omega⟩
      · exact ⟨5, rfl, by omega⟩
      · exact ⟨55, rfl, by omega⟩
      · exact ⟨56, rfl, by omega⟩
      · exact ⟨57, rfl, by omega⟩
      · exact ⟨58, rfl, by omega⟩
      · exact ⟨59, rfl, by omega⟩
      · exact ⟨60, rfl, by omega⟩
      · exact ⟨61, rfl, by omega⟩
    have W := (w1.pre pa).trans w2
    obtain ⟨v', o', s3, e3, w3, hv3, hb3⟩ := around_loop x0 x3 x4 (some (.int (n : Int))) s n 0 v 58000 none s2 W.ok (by omega) (vd_dw W hv) hb
    have e3 : loop none (gN 6) W_law2 (rngL 0 n) [x0, some (.ref a), some v, x3, x4, some (.int (n : Int)), none, none] s2 = .nx [x0, some (.ref a), some v', x3, x4, some (.int (n : Int)), o', none] s3 := e3
    obtain ⟨s4, e4⟩ := tail_ok (x0 := x0) (x3 := x3) (x4 := x4) (x5 := some (.int (n : Int))) (x6 := o') w3.ok hv3 (by omega)
    refine ⟨s4, ?_⟩
    simp only [midL, e_seq, e_set, e_call, e_cons, e_nil, e_var, e_c, List.getElem?_cons_zero, List.getElem?_cons_succ, rbind_ok, rto_ok, List.set_cons_succ, List.set_cons_zero, obind_nx, e_sif, e_op, e1, oEq_int, decide_true, ifK_t, e_lst, List.length_cons, List.length_nil, Nat.zero_add, Nat.reduceAdd, nine, if_true, e2, ex, e_for, e_rng1, e_rngK1, Int.toNat_natCast, e3, e4]
  · obtain ⟨s4, e4⟩ := tail_ok (x0 := x0) (x3 := x3) (x4 := x4) (x5 := some (.int 0)) (x6 := none) w1.ok (vd_dw w1 hv) (by omega)
    refine ⟨s4, ?_⟩
    simp only [midL, e_seq, e_set, e_call, e_cons, e_nil, e_var, e_c, List.getElem?_cons_zero, List.getElem?_cons_succ, rbind_ok, rto_ok, List.set_cons_succ, List.set_cons_zero, obind_nx, e_sif, e_op, e1, oEq_int, hc, decide_false, ifK_f, e_bnil, e_for, e_rng1, e_rngK1, show (0 : Int).toNat = 0 from rfl]
    rw [show rngL (0 : Int) 0 = [] from rfl, loop_nil (g := none) trivial, obind_nx, e4]
theorem law_ok (ns : List Int) (hn : ns.length ≤ 63) : ∃ s, F_law [.frl (ns.map D.int)] [] = .ok (.bl true) s := by
  have e0 : F_law [.frl (ns.map D.int)] [] = runO (B_law [some (.frl (ns.map D.int)), none, none, none, none, none, none, none] []) := by
    unfold F_law
    rw [runF_eq (n := 1) rfl]
    rfl
  obtain ⟨s1, e1, d1⟩ := draw_ok ns hn
  obtain ⟨v, s2, e2, w2, hv2⟩ := draw_value 6 4 1 0 s1 (by omega) d1
  have e2 : F__law_value 6 [.ref 1, .int 4] s1 = .ok v s2 := e2
  have hb2 : bt v ≤ 57812 := hv2.bt
  obtain ⟨c, s3, e3, c0, c1, w3⟩ := take_ok w2.ok (m := 12) (by decide) (by decide)
  have eB : B_law = bSeq (sSet 1 (mCall F__law_draw (mCons (mVar 0) mNil)))
    (bSeq (sSet 2 (mCall (F__law_value 6) (mCons (mVar 1) (mCons (mC (.int 4)) mNil))))
    (bSeq (sSet 3 (mCall F__law_take (mCons (mVar 1) (mCons (mC (.int 12)) mNil))))
    (bSeq (sIf (mOp oLt (mVar 3) (mC (.int 3)))
    (bSeq (sSet 4 (mOp oIx (mLst (mCons (mLst (mCons (mC (.int 1)) mNil)) (mCons (mDic1 ("a" : Str) 1) (mCons (mC (.str ("a\tb" : Str))) mNil)))) (mVar 3)))
    (sSet 2 (mIf (mOp oEq (mCall F__law_take (mCons (mVar 1) (mCons (mC (.int 2)) mNil))) (mC (.int 0))) (mTup (mCons (mVar 4) (mCons (mVar 2) mNil))) (mVar 4))))
    bNil) midL))) := rfl
  rw [e0, eB]
  by_cases hc : c < 3
  · have one : (1 : Nat) ≤ sizeLine := by rw [sizeL]; omega
    have three : (3 : Nat) ≤ sizeLine := by rw [sizeL]; omega
    have pa : Pre s3 (((s3 ++ [C.lst [.int 1]]) ++ [C.dic [(Sum.inr "a", .int 1)]]) ++ [C.lst [.ref s3.length, .ref (s3 ++ [C.lst [.int 1]]).length, .str "a\tb"]]) := (Pre.app.trans Pre.app).trans Pre.app
    obtain ⟨x, hx, ex⟩ := pick (xs := [.ref s3.length, .ref (s3 ++ [C.lst [.int 1]]).length, .str "a\tb"]) c0 (by simpa using hc) (app_last (s := (s3 ++ [C.lst [.int 1]]) ++ [C.dic [(Sum.inr "a", .int 1)]]) (c := C.lst [.ref s3.length, .ref (s3 ++ [C.lst [.int 1]]).length, .str "a\tb"]))
    have hxd : Vd (((s3 ++ [C.lst [.int 1]]) ++ [C.dic [(Sum.inr "a", .int 1)]]) ++ [C.lst [.ref s3.length, .ref (s3 ++ [C.lst [.int 1]]).length, .str "a\tb"]]) x ∧ bt x ≤ 10 := by
      simp only [List.mem_cons, List.mem_nil_iff, or_false] at hx
      rcases hx with rfl | rfl | rfl
      · refine ⟨⟨C.lst [.int 1], ?_⟩, by simp [bt]⟩
        rw [app_get (by simp), app_get (by simp)]
        exact app_last
      · refine ⟨⟨C.dic [(Sum.inr "a", .int 1)], ?_⟩, by simp [bt]⟩
        rw [app_get (by simp)]
        exact app_last
      · refine ⟨trivial, ?_⟩
        have hl3 : ("a\tb" : Str).length = 3 := by decide +kernel
        simp only [bt, hl3]
        have := sz_len 0 3 (by decide)
        omega
    obtain ⟨r, s5, e5, r0, r1, w5⟩ := take_ok (w3.ok.pre pa) (m := 2) (by decide) (by decide)
    have hx5 := vd_dw w5 hxd.1
    have z2 : (sz 2).length = 1 := by rw [sz_lt (by omega)]; rfl
    by_cases hr : r = 0
    · subst hr
      obtain ⟨s6, e6⟩ := mid_ok (x0 := some (.frl (ns.map D.int))) (x3 := some (.int c)) (x4 := some x) (v := .tup [x, v]) w5.ok ⟨hx5, hv2.vd _, trivial⟩ (by simp [bt, btAll, z2]; omega)
      refine ⟨s6, ?_⟩
      simp only [e_seq, e_set, e_call, e_cons, e_nil, e_var, e_c, List.getElem?_cons_zero, List.getElem?_cons_succ, rbind_ok, rto_ok, e1, e2, e3, List.set_cons_succ, List.set_cons_zero, obind_nx, e_sif, e_op, oLt_int, hc, decide_true, ifK_t, e_lst, mDic1, List.length_cons, List.length_nil, Nat.zero_add, Nat.reduceAdd, one, three, if_true, ex, e_if, e5, oEq_int, e_tup, two_le, e6, runO_rt]
    · obtain ⟨s6, e6⟩ := mid_ok (x0 := some (.frl (ns.map D.int))) (x3 := some (.int c)) (x4 := some x) (v := x) w5.ok hx5 (by omega)
      refine ⟨s6, ?_⟩
      simp only [e_seq, e_set, e_call, e_cons, e_nil, e_var, e_c, List.getElem?_cons_zero, List.getElem?_cons_succ, rbind_ok, rto_ok, e1, e2, e3, List.set_cons_succ, List.set_cons_zero, obind_nx, e_sif, e_op, oLt_int, hc, decide_true, ifK_t, e_lst, mDic1, List.length_cons, List.length_nil, Nat.zero_add, Nat.reduceAdd, one, three, if_true, ex, e_if, e5, oEq_int, hr, decide_false, e6, runO_rt]
  · obtain ⟨s6, e6⟩ := mid_ok (x0 := some (.frl (ns.map D.int))) (x3 := some (.int c)) (x4 := none) (v := v) w3.ok (hv2.vd _) (by omega)
    refine ⟨s6, ?_⟩
    simp only [e_seq, e_set, e_call, e_cons, e_nil, e_var, e_c, List.getElem?_cons_zero, List.getElem?_cons_succ, rbind_ok, rto_ok, e1, e2, e3, List.set_cons_succ, List.set_cons_zero, obind_nx, e_sif, e_op, oLt_int, hc, decide_false, ifK_f, e_bnil, e6, runO_rt]
end G85
end Mi
open PySem PySem.W PyProof.Rows
set_option maxRecDepth 100000 in
set_option maxHeartbeats 0 in
theorem PySem.Challenge.cw_burnish_k85_packed_values_read_back_holds : PySem.Challenge.rw_burnish_k85_packed_values_read_back.Holds := by
  w_on; o_law; k_head; (case hw => w_witness2)
  k_fill
  refine Mi.end_of (l := PySem.Challenge.rw_burnish_k85_packed_values_read_back) (n := 63) (k := 136) (x := "_law_script") (F := Mi.G85.F_law) rfl (by decide) rfl ⟨rfl, by decide, by decide⟩ (fun w h Y => PySem.W.kIn_of Y) ?Ftop ?Math
  case Math => exact fun ns hn _ => Mi.G85.law_ok ns hn
  case Ftop =>
    intro w mg h X G
    refine' Mi.G85.top_ok X G ?D_is_sign ?D_add_size ?D_add_text ?D_add_value ?D_pack ?D_byte_at ?D_read_size ?D_read_text ?D_read_parts ?D_read_plain ?D_unpack ?D__law_draw ?D__law_take ?D__law_signs ?D__law_text ?D__law_number ?D__law_value ?D__law_size ?D__law_packed ?D__law_alike ?D__law_read_size ?D__law_sign ?D__law_read_text ?D__law_read ?D__law_error ?D__law_bent ?D__law_unpacks ?D_law ?n_abs ?n_bool ?n_int ?n_isinstance ?n_len ?n_list ?n_max ?n_min ?n_ord ?n_range ?n_str ?n_tuple ?g_DEEPEST ?g_PRINTED ?r_PackError ?S
    (case D_is_sign => refine' Mi.defIs ?a ?l ?c ?k; (case a => k_is); (case l => k_is); (case c => k_is); (case k => k_is))
    (case D_add_size => refine' Mi.defIs ?a ?l ?c ?k; (case a => k_is); (case l => k_is); (case c => k_is); (case k => k_is))
    (case D_add_text => refine' Mi.defIs ?a ?l ?c ?k; (case a => k_is); (case l => k_is); (case c => k_is); (case k => k_is))
    (case D_add_value => refine' Mi.defIs ?a ?l ?c ?k; (case a => k_is); (case l => k_is); (case c => k_is); (case k => k_is))
    (case D_pack => refine' Mi.defIs ?a ?l ?c ?k; (case a => k_is); (case l => k_is); (case c => k_is); (case k => k_is))
    (case D_byte_at => refine' Mi.defIs ?a ?l ?c ?k; (case a => k_is); (case l => k_is); (case c => k_is); (case k => k_is))
    (case D_read_size => refine' Mi.defIs ?a ?l ?c ?k; (case a => k_is); (case l => k_is); (case c => k_is); (case k => k_is))
    (case D_read_text => refine' Mi.defIs ?a ?l ?c ?k; (case a => k_is); (case l => k_is); (case c => k_is); (case k => k_is))
    (case D_read_parts => refine' Mi.defIs ?a ?l ?c ?k; (case a => k_is); (case l => k_is); (case c => k_is); (case k => k_is))
    (case D_read_plain => refine' Mi.defIs ?a ?l ?c ?k; (case a => k_is); (case l => k_is); (case c => k_is); (case k => k_is))
    (case D_unpack => refine' Mi.defIs ?a ?l ?c ?k; (case a => k_is); (case l => k_is); (case c => k_is); (case k => k_is))
    (case D__law_draw => refine' Mi.defIs ?a ?l ?c ?k; (case a => k_is); (case l => k_is); (case c => k_is); (case k => k_is))
    (case D__law_take => refine' Mi.defIs ?a ?l ?c ?k; (case a => k_is); (case l => k_is); (case c => k_is); (case k => k_is))
    (case D__law_signs => refine' Mi.defIs ?a ?l ?c ?k; (case a => k_is); (case l => k_is); (case c => k_is); (case k => k_is))
    (case D__law_text => refine' Mi.defIs ?a ?l ?c ?k; (case a => k_is); (case l => k_is); (case c => k_is); (case k => k_is))
    (case D__law_number => refine' Mi.defIs ?a ?l ?c ?k; (case a => k_is); (case l => k_is); (case c => k_is); (case k => k_is))
    (case D__law_value => refine' Mi.defIs ?a ?l ?c ?k; (case a => k_is); (case l => k_is); (case c => k_is); (case k => k_is))
    (case D__law_size => refine' Mi.defIs ?a ?l ?c ?k; (case a => k_is); (case l => k_is); (case c => k_is); (case k => k_is))
    (case D__law_packed => refine' Mi.defIs ?a ?l ?c ?k; (case a => k_is); (case l => k_is); (case c => k_is); (case k => k_is))
    (case D__law_alike => refine' Mi.defIs ?a ?l ?c ?k; (case a => k_is); (case l => k_is); (case c => k_is); (case k => k_is))
    (case D__law_read_size => refine' Mi.defIs ?a ?l ?c ?k; (case a => k_is); (case l => k_is); (case c => k_is); (case k => k_is))
    (case D__law_sign => refine' Mi.defIs ?a ?l ?c ?k; (case a => k_is); (case l => k_is); (case c => k_is); (case k => k_is))
    (case D__law_read_text => refine' Mi.defIs ?a ?l ?c ?k; (case a => k_is); (case l => k_is); (case c => k_is); (case k => k_is))
    (case D__law_read => refine' Mi.defIs ?a ?l ?c ?k; (case a => k_is); (case l => k_is); (case c => k_is); (case k => k_is))
    (case D__law_error => refine' Mi.defIs ?a ?l ?c ?k; (case a => k_is); (case l => k_is); (case c => k_is); (case k => k_is))
    (case D__law_bent => refine' Mi.defIs ?a ?l ?c ?k; (case a => k_is); (case l => k_is); (case c => k_is); (case k => k_is))
    (case D__law_unpacks => refine' Mi.defIs ?a ?l ?c ?k; (case a => k_is); (case l => k_is); (case c => k_is); (case k => k_is))
    (case D_law => refine' Mi.defIs ?a ?l ?c ?k; (case a => k_is); (case l => k_is); (case c => k_is); (case k => k_is))
    (case n_abs => k_is)
    (case n_bool => k_is)
    (case n_int => k_is)
    (case n_isinstance => k_is)
    (case n_len => k_is)
    (case n_list => k_is)
    (case n_max => k_is)
    (case n_min => k_is)
    (case n_ord => k_is)
    (case n_range => k_is)
    (case n_str => k_is)
    (case n_tuple => k_is)
    (case g_DEEPEST => k_is)
    (case g_PRINTED => k_is)
    (case r_PackError => refine' Mi.rs_mk X G ?z_aC ?z_xC ?z_hb ?z_al ?z_sa ?z_no ?z_iC ?z_tC ?z_kC ?z_exC ?z_veC ?z_tyC ?z_nS ?z_ops ?z_lI ?z_cI ?z_lc ?z_ld ?z_hvs ?z_hf ?z_hl ?z_tp; (case z_aC => k_is); (case z_xC => k_is); (case z_hb => decide +kernel); (case z_al => ks_is); (case z_sa => k_is); (case z_no => k_is); (case z_iC => k_is); (case z_tC => k_is); (case z_kC => k_is); (case z_exC => k_is); (case z_veC => k_is); (case z_tyC => k_is); (case z_nS => k_is); (case z_ops => k_is); (case z_lI => k_is); (case z_cI => k_is); (case z_lc => k_is); (case z_ld => k_is); (case z_hvs => rfl); (case z_hf => decide +kernel); (case z_hl => decide +kernel); (case z_tp => decide +kernel))
    (case S => refine' Mi.errS_mk X G ?z_aC ?z_aB ?z_hc ?z_hg ?z_hk ?z_hs ?z_ha ?z_hn ?z_ht ?z_hm ?z_hd ?z_no ?z_tyC ?z_sCC ?z_sB ?z_hdB ?z_tyB ?z_sCB ?z_kv ?z_kb ?z_nI ?z_nV; (case z_aC => first | k_is | rfl | decide +kernel); (case z_aB => first | k_is | rfl | decide +kernel); (case z_hc => first | k_is | rfl | decide +kernel); (case z_hg => first | k_is | rfl | decide +kernel); (case z_hk => first | k_is | rfl | decide +kernel); (case z_hs => first | k_is | rfl | decide +kernel); (case z_ha => first | k_is | rfl | decide +kernel); (case z_hn => first | k_is | rfl | decide +kernel); (case z_ht => first | k_is | rfl | decide +kernel); (case z_hm => first | k_is | rfl | decide +kernel); (case z_hd => first | k_is | rfl | decide +kernel); (case z_no => first | k_is | rfl | decide +kernel); (case z_tyC => first | k_is | rfl | decide +kernel); (case z_sCC => first | k_is | rfl | decide +kernel); (case z_sB => first | k_is | rfl | decide +kernel); (case z_hdB => first | k_is | rfl | decide +kernel); (case z_tyB => first | k_is | rfl | decide +kernel); (case z_sCB => first | k_is | rfl | decide +kernel); (case z_kv => first | k_is | rfl | decide +kernel); (case z_kb => first | k_is | rfl | decide +kernel); (case z_nI => first | k_is | rfl | decide +kernel); (case z_nV => first | k_is | rfl | decide +kernel))
