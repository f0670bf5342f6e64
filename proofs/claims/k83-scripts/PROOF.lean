import PyProof.Rows.All
import Wide.All
import OpenK.AllK
import Wide.FinOn
import HandS.ForMost
import HandS.ForExc
import HandS.Wide
import HandS.Style
import HandS.IsInst
import HandS.CallLocal
import HandS.Comp
import HandS.StrMore
import HandS.TupAny
import KE.KExcSuper
import KE.KSuper
import HandS.ExcInit
import KE.KExcIs
import HandS.ExcOwn
import HandS.ExcField
import HandS.ExcIs
import HandS.Dict
import HandS.WordsExc
import HandS.EndBits
import HandS.FStr
import HandS.RaiseMore
import HandS.List
import HandS.Text
import HandS.FltList
import PyProof.StrLawsIn
import KE.OsScanText
import HandS.Codes
import PySem.Challenge.RW_burnish_k83_scripts_read_back
set_option Elab.async false
set_option linter.all false
set_option maxRecDepth 100000
set_option maxHeartbeats 4000000
/-! Mi: plain data and a store of cells in the place of the abstract heap; a mirror (a plain Lean function) for each construct, and the rule that the construct does what its mirror says. -/
namespace Mi
open PySem PySem.Spec PyProof.Rows L2

/-! ### data -/
inductive D where
  | non | bl (b : Bool) | int (i : Int) | str (x : Str) | tup (ds : List D) | ref (k : Nat) | ty (n : String) | fn (x : Str) | frl (ds : List D) | exn (a C dd : Nat) (f : Str) (d : D)
inductive C where
  | lst (ds : List D) | dic (kvs : List (Key × D)) | ins (cn : Str) (fs : List (Str × D))
abbrev S := List C
abbrev Ev := List (Option D)
inductive R (α : Type) where
  | ok (a : α) (s : S) | exc (c f : Str) (d : D) (s : S) | bad
def R.bind {α β : Type} (r : R α) (g : α → S → R β) : R β := match r with
  | .ok a s => g a s
  | .exc c f d s => .exc c f d s
  | .bad => .bad
def R.sat {α : Type} (r : R α) (ok : α → S → Prop) (ex : Str → Str → D → S → Prop) : Prop := match r with
  | .ok a s => ok a s
  | .exc c f d s => ex c f d s
  | .bad => False
theorem R.sat.imp {α : Type} {r : R α} {ok ok' : α → S → Prop} {ex ex' : Str → Str → D → S → Prop} (h : r.sat ok ex) (k : ∀ a s, ok a s → ok' a s) (e : ∀ c f d s, ex c f d s → ex' c f d s) : r.sat ok' ex' := by
  cases r with
  | ok a s => exact k _ _ h
  | exc c f d s => exact e _ _ _ _ h
  | bad => exact h
theorem R.sat.bind {α β : Type} {r : R α} {g : α → S → R β} {ok : β → S → Prop} {ex : Str → Str → D → S → Prop} (h : (r.bind g).sat ok ex) : r.sat (fun a s => (g a s).sat ok ex) ex := by
  cases r with
  | ok a s => exact h
  | exc c f d s => exact h
  | bad => exact h

abbrev M := Ev → S → R D

/-! ### how data stands in the heap -/
section
variable (K : PySem.W.Frag) (mg : Str → Option Value)
/-- a list that only is read: the script -/
def Fz (H : Hp) (a : Addr) (xs : List V) : Prop := (∃ o, H a = some (.frz o (.lst xs))) ∨
  ∃ (o : Obj) (its : Array Value) (n : Nat), K.lookup a = some o ∧ o.cls = .type "list" ∧ o.dict = none ∧ o.data = .seq its n ∧ its.size ≤ sizeLine ∧ Vals xs its.toList
mutual
inductive RV (μ : List Addr) (H : Hp) : D → V → Prop
  | non : RV μ H .non .non
  | bl (b : Bool) : RV μ H (.bl b) (.bl b)
  | int (i : Int) : RV μ H (.int i) (.int i)
  | str (x : Str) : RV μ H (.str x) (.str x)
  | ty (n : String) : RV μ H (.ty n) (.ty n)
  | fn {x : Str} {a : Addr} (h : mg x = some (.ref a)) : RV μ H (.fn x) (.ref a)
  | ref {k : Nat} {a : Addr} (h : μ[k]? = some a) : RV μ H (.ref k) (.ref a)
  | tup {ds : List D} {p : Addr} {vs : List V} (h : SqT K H p vs) (r : RVs μ H ds vs) : RV μ H (.tup ds) (.ref p)
  | frl {ds : List D} {p : Addr} {vs : List V} (h : Fz K H p vs) (r : RVs μ H ds vs) : RV μ H (.frl ds) (.ref p)
  | exn {a C dd : Addr} {f : Str} {d : D} {v : V} (h : H dd = some (.xd [(f, v)])) (n : dd ∉ μ) (r : RV μ H d v) : RV μ H (.exn a C dd f d) (.ref a)
inductive RVs (μ : List Addr) (H : Hp) : List D → List V → Prop
  | nil : RVs μ H [] []
  | cons {d : D} {v : V} {ds : List D} {vs : List V} (h : RV μ H d v) (r : RVs μ H ds vs) : RVs μ H (d :: ds) (v :: vs)
end
/-- behind: the cells stand where they stood, the tuples stand, and so does what is no cell -/
structure Fw (μ : List Addr) (H : Hp) (μ' : List Addr) (H' : Hp) : Prop where
  map : ∀ (k : Nat) (a : Addr), μ[k]? = some a → μ'[k]? = some a
  tup : ∀ (p : Addr) (xs : List V), SqT K H p xs → SqT K H' p xs
  frz : ∀ (p : Addr) (xs : List V), Fz K H p xs → Fz K H' p xs
  keep : ∀ (p : Addr) (o : HO), H p = some o → p ∉ μ → H' p = some o ∧ p ∉ μ'
def COk (μ : List Addr) (H : Hp) (a : Addr) : C → Prop
  | .lst ds => ∃ vs, H a = some (.lst vs) ∧ RVs K mg μ H ds vs
  | .dic kvs => ∃ kws : List (Key × V), H a = some (.dK kws) ∧ kvs.map (·.1) = kws.map (·.1) ∧ RVs K mg μ H (kvs.map (·.2)) (kws.map (·.2))
  | .ins cn fs => ∃ (Ca dx : Addr) (gs : List (Str × V)), mg cn = some (.ref Ca) ∧ H a = some (.ins Ca dx gs) ∧ fs.map (·.1) = gs.map (·.1) ∧ RVs K mg μ H (fs.map (·.2)) (gs.map (·.2))
structure Rel (μ : List Addr) (s : S) (H : Hp) : Prop where
  len : μ.length = s.length
  nd : μ.Nodup
  cell : ∀ (k : Nat) (c : C) (a : Addr), s[k]? = some c → μ[k]? = some a → COk K mg μ H a c
structure REnv (μ : List Addr) (H : Hp) (ε : Ev) (σ : L2.St) : Prop where
  len : ε.length = σ.length
  get : ∀ (i : Nat) (d : D), ε[i]? = some (some d) → ∃ v, σ[i]? = some (some v) ∧ RV K mg μ H d v
def Ex (E : XK) (μ : List Addr) (H : Hp) (c f : Str) (d : D) (s : S) : Prop :=
  ∀ (μ' : List Addr) (H' : Hp) (C dd : Addr) (v : V), Fw K μ H μ' H' → Rel K mg μ' s H' → mg c = some (.ref C) → H' dd = some (.xd [(f, v)]) → RV K mg μ' H' d v → E (.ref C) (some dd) H'
def PO (E : XK) (μ : List Addr) (H : Hp) (r : R D) (Q : VK) : Prop :=
  r.sat (fun d s' => ∀ (μ' : List Addr) (H' : Hp) (v : V), Fw K μ H μ' H' → Rel K mg μ' s' H' → RV K mg μ' H' d v → Q v H') (Ex K mg E μ H)
def PL (E : XK) (μ : List Addr) (H : Hp) (r : R (List D)) (Q : List V → Hp → Prop) : Prop :=
  r.sat (fun ds s' => ∀ (μ' : List Addr) (H' : Hp) (vs : List V), Fw K μ H μ' H' → Rel K mg μ' s' H' → RVs K mg μ' H' ds vs → Q vs H') (Ex K mg E μ H)
def PB (E : XK) (μ : List Addr) (H : Hp) (r : R D) (Q : Bool → Hp → Prop) : Prop :=
  r.sat (fun d s' => ∃ b, d = .bl b ∧ ∀ (μ' : List Addr) (H' : Hp), Fw K μ H μ' H' → Rel K mg μ' s' H' → Q b H') (Ex K mg E μ H)
def tM (E : XK) (m : M) : TE := fun σ H Q => ∃ ε s μ, REnv K mg μ H ε σ ∧ Rel K mg μ s H ∧ PO K mg E μ H (m ε s) Q
def tL (E : XK) (m : Ev → S → R (List D)) : TA := fun σ H Q => ∃ ε s μ, REnv K mg μ H ε σ ∧ Rel K mg μ s H ∧ PL K mg E μ H (m ε s) Q
def tT (E : XK) (m : M) : TT := fun σ H Q => ∃ ε s μ, REnv K mg μ H ε σ ∧ Rel K mg μ s H ∧ PB K mg E μ H (m ε s) Q
end

section
variable {K : PySem.W.Frag} {mg : Str → Option Value} {μ μ' μ'' : List Addr} {H H' H'' : Hp} {d x y : D} {v w : V} {ds : List D} {vs : List V} {E : XK} {s s' : S} {ε : Ev} {σ : L2.St}
theorem Fw.refl : Fw K μ H μ H := ⟨fun _ _ h => h, fun _ _ h => h, fun _ _ h => h, fun _ _ h n => ⟨h, n⟩⟩
theorem Fw.trans (a : Fw K μ H μ' H') (b : Fw K μ' H' μ'' H'') : Fw K μ H μ'' H'' := ⟨fun k a' h => b.map k a' (a.map k a' h), fun p xs h => b.tup p xs (a.tup p xs h), fun p xs h => b.frz p xs (a.frz p xs h), fun p o h n => b.keep p o (a.keep p o h n).1 (a.keep p o h n).2⟩
mutual
theorem RV.mono (hm : ∀ (k : Nat) (a : Addr), μ[k]? = some a → μ'[k]? = some a) (ht : ∀ (p : Addr) (xs : List V), SqT K H p xs → SqT K H' p xs) (hz : ∀ (p : Addr) (xs : List V), Fz K H p xs → Fz K H' p xs) (hx : ∀ (p : Addr) (fs : List (Str × V)), H p = some (.xd fs) → p ∉ μ → H' p = some (.xd fs) ∧ p ∉ μ') : ∀ {d : D} {v : V}, RV K mg μ H d v → RV K mg μ' H' d v
  | _, _, .non => .non
  | _, _, .bl b => .bl b
  | _, _, .int i => .int i
  | _, _, .str x => .str x
  | _, _, .ty n => .ty n
  | _, _, .fn h => .fn h
  | _, _, .ref h => .ref (hm _ _ h)
  | _, _, .tup h r => .tup (ht _ _ h) (RVs.mono hm ht hz hx r)
  | _, _, .frl h r => .frl (hz _ _ h) (RVs.mono hm ht hz hx r)
  | _, _, .exn h n r => .exn (hx _ _ h n).1 (hx _ _ h n).2 (RV.mono hm ht hz hx r)
theorem RVs.mono (hm : ∀ (k : Nat) (a : Addr), μ[k]? = some a → μ'[k]? = some a) (ht : ∀ (p : Addr) (xs : List V), SqT K H p xs → SqT K H' p xs) (hz : ∀ (p : Addr) (xs : List V), Fz K H p xs → Fz K H' p xs) (hx : ∀ (p : Addr) (fs : List (Str × V)), H p = some (.xd fs) → p ∉ μ → H' p = some (.xd fs) ∧ p ∉ μ') : ∀ {ds : List D} {vs : List V}, RVs K mg μ H ds vs → RVs K mg μ' H' ds vs
  | _, _, .nil => .nil
  | _, _, .cons h r => .cons (RV.mono hm ht hz hx h) (RVs.mono hm ht hz hx r)
end
theorem RV.fw (h : RV K mg μ H d v) (f : Fw K μ H μ' H') : RV K mg μ' H' d v := h.mono f.map f.tup f.frz fun p fs e n => f.keep p _ e n
theorem RVs.fw (h : RVs K mg μ H ds vs) (f : Fw K μ H μ' H') : RVs K mg μ' H' ds vs := h.mono f.map f.tup f.frz fun p fs e n => f.keep p _ e n
theorem REnv.mono (h : REnv K mg μ H ε σ) (hm : ∀ (k : Nat) (a : Addr), μ[k]? = some a → μ'[k]? = some a) (ht : ∀ (p : Addr) (xs : List V), SqT K H p xs → SqT K H' p xs) (hz : ∀ (p : Addr) (xs : List V), Fz K H p xs → Fz K H' p xs) (hx : ∀ (p : Addr) (fs : List (Str × V)), H p = some (.xd fs) → p ∉ μ → H' p = some (.xd fs) ∧ p ∉ μ') : REnv K mg μ' H' ε σ := ⟨h.len, fun i d e => by
  obtain ⟨v, h1, h2⟩ := h.get i d e
  exact ⟨v, h1, h2.mono hm ht hz hx⟩⟩
theorem RVs.length : ∀ {ds : List D} {vs : List V}, RVs K mg μ H ds vs → ds.length = vs.length
  | _, _, .nil => rfl
  | _, _, .cons _ r => by rw [List.length_cons, List.length_cons, RVs.length r]
theorem RVs.get : ∀ {ds : List D} {vs : List V} {i : Nat} {d : D}, RVs K mg μ H ds vs → ds[i]? = some d → ∃ v, vs[i]? = some v ∧ RV K mg μ H d v
  | _, _, _, _, .nil, e => by simp at e
  | _, _, 0, _, .cons h _, e => by simp at e; subst e; exact ⟨_, rfl, h⟩
  | _, _, i + 1, d, .cons _ r, e => by
    obtain ⟨v, h1, h2⟩ := RVs.get (i := i) (d := d) r (by simpa using e)
    exact ⟨v, by simpa using h1, h2⟩
theorem RVs.append : ∀ {ds es : List D} {vs ws : List V}, RVs K mg μ H ds vs → RVs K mg μ H es ws → RVs K mg μ H (ds ++ es) (vs ++ ws)
  | _, _, _, _, .nil, h => h
  | _, _, _, _, .cons h r, q => .cons h (RVs.append r q)
theorem RVs.set {x : D} {u : V} (h : RV K mg μ H x u) : ∀ {ds : List D} {vs : List V} (i : Nat), RVs K mg μ H ds vs → RVs K mg μ H (ds.set i x) (vs.set i u)
  | _, _, _, .nil => .nil
  | _, _, 0, .cons _ r => .cons h r
  | _, _, i + 1, .cons q r => .cons q (RVs.set h i r)
theorem RVs.take : ∀ {ds : List D} {vs : List V} (n : Nat), RVs K mg μ H ds vs → RVs K mg μ H (ds.take n) (vs.take n)
  | _, _, 0, _ => .nil
  | _, _, _ + 1, .nil => .nil
  | _, _, n + 1, .cons h r => .cons h (RVs.take n r)
theorem RVs.drop : ∀ {ds : List D} {vs : List V} (n : Nat), RVs K mg μ H ds vs → RVs K mg μ H (ds.drop n) (vs.drop n)
  | _, _, 0, r => r
  | _, _, _ + 1, .nil => .nil
  | _, _, n + 1, .cons _ r => RVs.drop n r
theorem RVs.ints : ∀ (ns : List Int), RVs K mg μ H (ns.map D.int) (ns.map V.int)
  | [] => .nil
  | n :: ns => .cons (.int n) (RVs.ints ns)
theorem REnv.fw (h : REnv K mg μ H ε σ) (f : Fw K μ H μ' H') : REnv K mg μ' H' ε σ := ⟨h.len, fun i d e => by
  obtain ⟨v, h1, h2⟩ := h.get i d e
  exact ⟨v, h1, h2.fw f⟩⟩
theorem REnv.set (h : REnv K mg μ H ε σ) (i : Nat) (r : RV K mg μ H d v) : REnv K mg μ H (ε.set i (some d)) (σ.set i (some v)) := ⟨by rw [List.length_set, List.length_set, h.len], fun j e he => by
  by_cases hij : i = j
  · subst hij
    by_cases hl : i < ε.length
    · rw [List.getElem?_set_self hl] at he
      cases he
      exact ⟨v, List.getElem?_set_self (by rw [← h.len]; exact hl), r⟩
    · rw [List.getElem?_eq_none (by simpa using hl)] at he
      cases he
  · rw [List.getElem?_set_ne hij] at he ⊢
    exact h.get j e he⟩
theorem REnv.forget (h : REnv K mg μ H ε σ) (i : Nat) (o : Option V) : REnv K mg μ H (ε.set i none) (σ.set i o) := ⟨by rw [List.length_set, List.length_set, h.len], fun j e he => by
  by_cases hij : i = j
  · subst hij
    by_cases hl : i < ε.length
    · rw [List.getElem?_set_self hl] at he
      cases he
    · rw [List.getElem?_eq_none (by simpa using hl)] at he
      cases he
  · rw [List.getElem?_set_ne hij] at he ⊢
    exact h.get j e he⟩
theorem Ex.fw {c f : Str} (h : Ex K mg E μ H c f d s) (g : Fw K μ H μ' H') : Ex K mg E μ' H' c f d s := fun μ2 H2 C dd v f2 => h μ2 H2 C dd v (g.trans f2)
theorem PO.fw {r : R D} {Q : VK} (h : PO K mg E μ H r Q) (g : Fw K μ H μ' H') : PO K mg E μ' H' r Q :=
  h.imp (fun _ _ k μ2 H2 v f2 => k μ2 H2 v (g.trans f2)) fun _ _ _ _ k => k.fw g
theorem PL.fw {r : R (List D)} {Q : List V → Hp → Prop} (h : PL K mg E μ H r Q) (g : Fw K μ H μ' H') : PL K mg E μ' H' r Q :=
  h.imp (fun _ _ k μ2 H2 v f2 => k μ2 H2 v (g.trans f2)) fun _ _ _ _ k => k.fw g
theorem PB.fw {r : R D} {Q : Bool → Hp → Prop} (h : PB K mg E μ H r Q) (g : Fw K μ H μ' H') : PB K mg E μ' H' r Q :=
  h.imp (fun _ _ ⟨b, e, k⟩ => ⟨b, e, fun μ2 H2 f2 => k μ2 H2 (g.trans f2)⟩) fun _ _ _ _ k => k.fw g
/-- a value that comes at once -/
theorem PO.ok {Q : VK} (h : PO K mg E μ H (.ok d s) Q) (hr : Rel K mg μ s H) (r : RV K mg μ H d v) : Q v H := h μ H v Fw.refl hr r
/-- one after another -/
theorem PO.seq {α : Type} {r : R D} {g : D → S → R α} {ok : α → S → Prop} {Q' : VK} (h : (r.bind g).sat ok (Ex K mg E μ H))
    (k : ∀ (d : D) (s1 : S) (μ1 : List Addr) (H1 : Hp) (v : V), Fw K μ H μ1 H1 → Rel K mg μ1 s1 H1 → RV K mg μ1 H1 d v → (g d s1).sat ok (Ex K mg E μ H) → Q' v H1) : PO K mg E μ H r Q' :=
  h.bind.imp (fun d s1 q μ1 H1 v f1 r1 rv => k d s1 μ1 H1 v f1 r1 rv q) fun _ _ _ _ q => q
theorem PL.seq {α : Type} {r : R (List D)} {g : List D → S → R α} {ok : α → S → Prop} {Q' : List V → Hp → Prop} (h : (r.bind g).sat ok (Ex K mg E μ H))
    (k : ∀ (d : List D) (s1 : S) (μ1 : List Addr) (H1 : Hp) (v : List V), Fw K μ H μ1 H1 → Rel K mg μ1 s1 H1 → RVs K mg μ1 H1 d v → (g d s1).sat ok (Ex K mg E μ H) → Q' v H1) : PL K mg E μ H r Q' :=
  h.bind.imp (fun d s1 q μ1 H1 v f1 r1 rv => k d s1 μ1 H1 v f1 r1 rv q) fun _ _ _ _ q => q

/-! ### the store grows, a cell is written -/
theorem sqT_new {q : Addr} {o : HO} {p : Addr} {xs : List V} (hq : H q = none) (h : SqT K H p xs) : SqT K (upd H q o) p xs := by
  rcases h with (h | ⟨u, h⟩) | h
  · exact .inl (.inl (by rw [upd_ne (ne_of_none h hq)]; exact h))
  · exact .inl (.inr ⟨u, by rw [upd_ne (ne_of_none h hq)]; exact h⟩)
  · exact .inr h
theorem sqL_new {q : Addr} {o : HO} {p : Addr} {xs : List V} (hq : H q = none) (h : SqL K H p xs) : SqL K (upd H q o) p xs := by
  rcases h with (h | ⟨u, h⟩) | h
  · exact .inl (.inl (by rw [upd_ne (ne_of_none h hq)]; exact h))
  · exact .inl (.inr ⟨u, by rw [upd_ne (ne_of_none h hq)]; exact h⟩)
  · exact .inr h
/-- what a cell may be -/
def Mu : HO → Prop
  | .lst _ => True
  | .dK _ => True
  | .ins _ _ _ => True
  | _ => False
theorem Mu.ne_tup {u : HO} {xs : List V} (m : Mu u) : HO.tup xs ≠ u := fun z => by rw [← z] at m; exact m
theorem Mu.ne_frz {u v : HO} {o : Obj} (m : Mu u) : HO.frz o v ≠ u := fun z => by rw [← z] at m; exact m
theorem Mu.ne_xd {u : HO} {fs : List (Str × V)} (m : Mu u) : HO.xd fs ≠ u := fun z => by rw [← z] at m; exact m
theorem sqT_wr {q : Addr} {u0 : HO} {o : HO} {p : Addr} {xs : List V} (hq : H q = some u0) (h : SqT K H p xs) (m : Mu u0 := by exact True.intro) : SqT K (upd H q o) p xs := by
  rcases h with (h | ⟨u, h⟩) | h
  · exact .inl (.inl (by rw [upd_ne (ne_of h hq m.ne_tup)]; exact h))
  · exact .inl (.inr ⟨u, by rw [upd_ne (ne_of h hq m.ne_frz)]; exact h⟩)
  · exact .inr h
theorem Fz.seq {a : Addr} {xs : List V} (h : Fz K H a xs) : SqL K H a xs := by
  rcases h with h | h
  · exact .inl (.inr h)
  · exact .inr h
theorem Fz.new {a q : Addr} {o : HO} {xs : List V} (hq : H q = none) (h : Fz K H a xs) : Fz K (upd H q o) a xs := by
  rcases h with ⟨u, h⟩ | h
  · exact .inl ⟨u, by rw [upd_ne (ne_of_none h hq)]; exact h⟩
  · exact .inr h
theorem Fz.wr {a q : Addr} {o : HO} {xs : List V} {u0 : HO} (h : Fz K H a xs) (hq : H q = some u0) (m : Mu u0 := by exact True.intro) : Fz K (upd H q o) a xs := by
  rcases h with ⟨u, h⟩ | h
  · exact .inl ⟨u, by rw [upd_ne (ne_of h hq m.ne_frz)]; exact h⟩
  · exact .inr h
theorem xd_wr {q : Addr} {u0 : HO} {o : HO} (hq : H q = some u0) (m : Mu u0 := by exact True.intro) (p : Addr) (fs : List (Str × V)) (h : H p = some (.xd fs)) (n : p ∉ μ) : (upd H q o) p = some (.xd fs) ∧ p ∉ μ := ⟨by rw [upd_ne (ne_of h hq m.ne_xd)]; exact h, n⟩
theorem xd_ad {q : Addr} {u0 : HO} (hq : H q = some u0) (m : Mu u0 := by exact True.intro) (p : Addr) (fs : List (Str × V)) (h : H p = some (.xd fs)) (n : p ∉ μ) : H p = some (.xd fs) ∧ p ∉ μ ++ [q] := ⟨h, fun z => (List.mem_append.mp z).elim n fun z => ne_of h hq m.ne_xd (List.mem_singleton.mp z)⟩
theorem Fw.new {q : Addr} {o : HO} (hq : H q = none) : Fw K μ H (μ ++ [q]) (upd H q o) :=
  ⟨fun k a h => by rw [List.getElem?_append_left (List.getElem?_eq_some_iff.mp h).1]; exact h, fun _ _ h => sqT_new hq h, fun _ _ h => h.new hq, fun p u h n => ⟨by rw [upd_ne (ne_of_none h hq)]; exact h, fun z => (List.mem_append.mp z).elim n fun z => ne_of_none h hq (List.mem_singleton.mp z)⟩⟩
theorem Fw.new0 {q : Addr} {o : HO} (hq : H q = none) : Fw K μ H μ (upd H q o) := ⟨fun _ _ h => h, fun _ _ h => sqT_new hq h, fun _ _ h => h.new hq, fun p u h n => ⟨by rw [upd_ne (ne_of_none h hq)]; exact h, n⟩⟩
theorem Fw.wr {q : Addr} {u0 : HO} {o : HO} (hq : H q = some u0) (hm : q ∈ μ) (m : Mu u0 := by exact True.intro) : Fw K μ H μ (upd H q o) := ⟨fun _ _ h => h, fun _ _ h => sqT_wr hq h m, fun _ _ h => h.wr hq m, fun p u h n => ⟨by rw [upd_ne (show p ≠ q from fun z => n (by rw [z]; exact hm))]; exact h, n⟩⟩
/-- a cell is told of by what stands at it, and by how its data stand -/
theorem COk.mono {a : Addr} {c : C} (h : COk K mg μ H a c) (e : H' a = H a) (f : ∀ ds vs, RVs K mg μ H ds vs → RVs K mg μ' H' ds vs) : COk K mg μ' H' a c := by
  cases c with
  | lst ds =>
    obtain ⟨vs, h1, h2⟩ := h
    exact ⟨vs, e.trans h1, f _ _ h2⟩
  | dic kvs =>
    obtain ⟨kws, h1, h3, h2⟩ := h
    exact ⟨kws, e.trans h1, h3, f _ _ h2⟩
  | ins cn fs =>
    obtain ⟨Ca, dx, gs, h0, h1, h3, h2⟩ := h
    exact ⟨Ca, dx, gs, h0, e.trans h1, h3, f _ _ h2⟩
theorem COk.there {a : Addr} {c : C} (h : COk K mg μ H a c) : ∃ o, H a = some o ∧ Mu o := by
  cases c with
  | lst ds =>
    obtain ⟨vs, h1, h2⟩ := h
    exact ⟨_, h1, True.intro⟩
  | dic kvs =>
    obtain ⟨kws, h1, h3, h2⟩ := h
    exact ⟨_, h1, True.intro⟩
  | ins cn fs =>
    obtain ⟨Ca, dx, gs, h0, h1, h3, h2⟩ := h
    exact ⟨_, h1, True.intro⟩
theorem COk.new {a q : Addr} {o : HO} {c : C} {μ' : List Addr} (h : COk K mg μ H a c) (hq : H q = none) (f : Fw K μ H μ' (upd H q o)) : COk K mg μ' (upd H q o) a c := by
  obtain ⟨u, h1, _⟩ := h.there
  exact h.mono (upd_ne (ne_of_none h1 hq)) fun _ _ r => r.fw f
/-- what is laid is no cell of ours -/
theorem Rel.new0 {q : Addr} {o : HO} (r : Rel K mg μ s H) (hq : H q = none) : Rel K mg μ s (upd H q o) :=
  ⟨r.len, r.nd, fun k c a h1 h2 => (r.cell k c a h1 h2).new hq (Fw.new0 hq)⟩
/-- a new cell -/
theorem Rel.isC (r : Rel K mg μ s H) {a : Addr} (h : a ∈ μ) : ∃ o, H a = some o ∧ Mu o := by
  obtain ⟨k, hk⟩ := List.mem_iff_getElem?.mp h
  have hl := (List.getElem?_eq_some_iff.mp hk).1
  rw [r.len] at hl
  exact (r.cell k _ a (List.getElem?_eq_getElem hl) hk).there
theorem Rel.notC (r : Rel K mg μ s H) {a : Addr} (h : H a = none) : a ∉ μ := fun z => by
  obtain ⟨o, e, _⟩ := r.isC z
  rw [h] at e
  cases e
theorem cellsPush {q a : Addr} {c e : C} (hl : μ.length = s.length) {i : Nat} (h1 : (s ++ [c])[i]? = some e) (h2 : (μ ++ [q])[i]? = some a) : (s[i]? = some e ∧ μ[i]? = some a) ∨ (a = q ∧ e = c) := by
  by_cases hi : i < s.length
  · rw [List.getElem?_append_left (by rw [hl]; exact hi)] at h2
    rw [List.getElem?_append_left hi] at h1
    exact .inl ⟨h1, h2⟩
  · have hz := (List.getElem?_eq_some_iff.mp h1).1
    rw [List.length_append, List.length_singleton] at hz
    have e1 : i = s.length := by omega
    subst e1
    rw [List.getElem?_append_right (by rw [hl]; exact Nat.le_refl _), hl, Nat.sub_self] at h2
    rw [List.getElem?_append_right (Nat.le_refl _), Nat.sub_self] at h1
    simp at h1 h2
    exact .inr ⟨h2.symm, h1.symm⟩
theorem ndPush {q : Addr} (n : μ.Nodup) (h : q ∉ μ) : (μ ++ [q]).Nodup := List.nodup_append.mpr ⟨n, (by simp), fun a ha b hb e => h (by rw [List.mem_singleton.mp hb] at e; rw [← e]; exact ha)⟩
/-- a new cell -/
theorem Rel.push {q : Addr} {o : HO} {c : C} (r : Rel K mg μ s H) (hq : H q = none) (hc : COk K mg (μ ++ [q]) (upd H q o) q c) : Rel K mg (μ ++ [q]) (s ++ [c]) (upd H q o) := by
  have f : Fw K μ H (μ ++ [q]) (upd H q o) := Fw.new hq
  refine ⟨by rw [List.length_append, List.length_append, r.len]; rfl, ndPush r.nd (r.notC hq), fun i c' a h1 h2 => ?_⟩
  rcases cellsPush r.len h1 h2 with ⟨a1, a2⟩ | ⟨rfl, rfl⟩
  · exact (r.cell i c' a a1 a2).new hq f
  · exact hc
/-- a cell is written -/
theorem Rel.writeC {q : Addr} {k : Nat} {c c2 : C} {o : HO} (r : Rel K mg μ s H) (hk : μ[k]? = some q) (hs : s[k]? = some c) (hc : Fw K μ H μ (upd H q o) → COk K mg μ (upd H q o) q c2) : Fw K μ H μ (upd H q o) ∧ Rel K mg μ (s.set k c2) (upd H q o) := by
  obtain ⟨u0, hq, m⟩ := (r.cell k _ q hs hk).there
  have f : Fw K μ H μ (upd H q o) := Fw.wr hq (List.mem_of_getElem? hk) m
  have hlt := (List.getElem?_eq_some_iff.mp hs).1
  refine ⟨f, by rw [List.length_set]; exact r.len, r.nd, fun i c a h1 h2 => ?_⟩
  · by_cases hi : k = i
    · subst hi
      rw [List.getElem?_set_self hlt] at h1
      cases h1
      rw [hk] at h2; cases h2
      exact hc f
    · rw [List.getElem?_set_ne hi] at h1
      have ne : a ≠ q := fun z => by
        subst z
        obtain ⟨l1, g1⟩ := List.getElem?_eq_some_iff.mp hk
        obtain ⟨l2, g2⟩ := List.getElem?_eq_some_iff.mp h2
        exact hi ((List.getElem_inj r.nd).mp (g1.trans g2.symm))
      exact (r.cell i c a h1 h2).mono (upd_ne ne) fun _ _ g => g.fw f
/-- a list's cell is written -/
theorem Rel.write {q : Addr} {k : Nat} {ds es : List D} {ws : List V} (r : Rel K mg μ s H) (hk : μ[k]? = some q) (hs : s[k]? = some (.lst ds)) (he : RVs K mg μ H es ws) : Fw K μ H μ (upd H q (.lst ws)) ∧ Rel K mg μ (s.set k (.lst es)) (upd H q (.lst ws)) :=
  r.writeC hk hs fun f => ⟨ws, upd_same, he.fw f⟩
/-- a list that is no cell is written -/
theorem Rel.off {q : Addr} {vs ws : List V} (r : Rel K mg μ s H) (hq : H q = some (.lst vs)) (nq : q ∉ μ) : Rel K mg μ s (upd H q (.lst ws)) := by
  refine ⟨r.len, r.nd, fun k c a h1 h2 => ?_⟩
  have ne : a ≠ q := fun z => nq (by rw [← z]; exact List.mem_of_getElem? h2)
  exact (r.cell k c a h1 h2).mono (upd_ne ne) fun _ _ g2 => g2.mono (fun _ _ h => h) (fun _ _ h => sqT_wr hq h) (fun _ _ h => h.wr hq) (xd_wr hq)
theorem Fw.off {q : Addr} {vs ws : List V} (f : Fw K μ H μ' H') (hn : H q = none) (hq : H' q = some (.lst vs)) : Fw K μ H μ' (upd H' q (.lst ws)) :=
  ⟨f.map, fun p xs h => sqT_wr hq (f.tup p xs h), fun p xs h => (f.frz p xs h).wr hq, fun p o h n => ⟨by rw [upd_ne (ne_of_none h hn)]; exact (f.keep p o h n).1, (f.keep p o h n).2⟩⟩
/-- .. and becomes a cell -/
theorem Rel.adopt {q : Addr} {vs : List V} (r : Rel K mg μ s H) (hq : H q = some (.lst vs)) (nq : q ∉ μ) (rv : RVs K mg μ H ds vs) : Rel K mg (μ ++ [q]) (s ++ [C.lst ds]) H := by
  have hm : ∀ (k : Nat) (a : Addr), μ[k]? = some a → (μ ++ [q])[k]? = some a := fun k a h => by rw [List.getElem?_append_left (List.getElem?_eq_some_iff.mp h).1]; exact h
  refine ⟨by rw [List.length_append, List.length_append, r.len]; rfl, ndPush r.nd nq, fun i c' a h1 h2 => ?_⟩
  rcases cellsPush r.len h1 h2 with ⟨a1, a2⟩ | ⟨rfl, rfl⟩
  · exact (r.cell i c' a a1 a2).mono rfl fun _ _ g2 => g2.mono hm (fun _ _ h => h) (fun _ _ h => h) (xd_ad hq)
  · exact ⟨vs, hq, rv.mono hm (fun _ _ h => h) (fun _ _ h => h) (xd_ad hq)⟩
theorem Fw.adopt {q : Addr} (f : Fw K μ H μ' H') (hn : H q = none) : Fw K μ H (μ' ++ [q]) H' :=
  ⟨fun k a h => by rw [List.getElem?_append_left (List.getElem?_eq_some_iff.mp (f.map k a h)).1]; exact f.map k a h, f.tup, f.frz, fun p o h n => ⟨(f.keep p o h n).1, fun z => (List.mem_append.mp z).elim (f.keep p o h n).2 fun z => ne_of_none h hn (List.mem_singleton.mp z)⟩⟩
theorem Rel.list {q : Addr} {k : Nat} {ds : List D} (r : Rel K mg μ s H) (hk : μ[k]? = some q) (hs : s[k]? = some (.lst ds)) : ∃ vs, H q = some (.lst vs) ∧ RVs K mg μ H ds vs := r.cell k _ q hs hk
theorem RV.ref_inv {k : Nat} (h : RV K mg μ H (.ref k) v) : ∃ a, v = .ref a ∧ μ[k]? = some a := by
  cases h with
  | ref h => exact ⟨_, rfl, h⟩
theorem RV.tup_inv (h : RV K mg μ H (.tup ds) v) : ∃ p vs, v = .ref p ∧ SqT K H p vs ∧ RVs K mg μ H ds vs := by
  cases h with
  | tup h r => exact ⟨_, _, rfl, h, r⟩
end
end Mi

namespace Mi
open PySem PySem.Spec PyProof.Rows L2

theorem PEto {X : Cx} {e : Expr} {t t' : TE} (h : PE X e t) (k : ∀ σ H Q, t' σ H Q → t σ H Q) : PE X e t' := ⟨fun pins s σ H Q I hw => h.run pins s σ H Q I (k σ H Q hw)⟩
theorem PTto {X : Cx} {e : Expr} {t t' : TT} (h : PT X e t) (k : ∀ σ H Q, t' σ H Q → t σ H Q) : PT X e t' := ⟨fun pins s σ H Q I hw => h.run pins s σ H Q I (k σ H Q hw)⟩
theorem PWto {X : Cx} {e : Expr} {t t' : TT} (h : PW X e t) (k : ∀ σ H Q, t' σ H Q → t σ H Q) : PW X e t' := ⟨fun wh pins s σ H Q I hw => h.run wh pins s σ H Q I (k σ H Q hw)⟩
theorem PAto {X : Cx} {e : List Expr} {t t' : TA} (h : PA X e t) (k : ∀ σ H Q, t' σ H Q → t σ H Q) : PA X e t' := ⟨fun pos pins s σ H Q I hw => h.run pos pins s σ H Q I (k σ H Q hw)⟩
abbrev DE (X : Cx) (E : XK) (e : Expr) (m : M) : Prop := PE X e (tM X.K X.mg E m)
abbrev DA (X : Cx) (E : XK) (es : List Expr) (m : Ev → S → R (List D)) : Prop := PA X es (tL X.K X.mg E m)
abbrev DT (X : Cx) (E : XK) (e : Expr) (m : M) : Prop := PT X e (tT X.K X.mg E m)
abbrev DW (X : Cx) (E : XK) (e : Expr) (m : M) : Prop := PW X e (tT X.K X.mg E m)

/-! ### names and constants -/
def mVar (i : Nat) : M := fun ε s => match ε[i]? with
  | some (some d) => .ok d s
  | _ => .bad
def mC (d : D) : M := fun _ s => .ok d s
section
variable {X : Cx} {E : XK} {pos : Pos} {e a b c : Expr} {m ma mb mc : M}
theorem d_var (i : Nat) {x : Str} (hN : X.N[i]? = some x := by rfl) (hv : Vis X.env.scope x := by first | exact Or.inl rfl | exact Or.inr (Or.inl rfl) | exact Or.inr (Or.inr rfl)) (hd : (x == ("__debug__" : Str)) = false := by decide)
    (hcd : (x == ("__classdict__" : Str)) = false := by decide) : DE X E (.Name x pos) (mVar i) := PEto (pv i hN hv hd hcd) fun σ H Q ⟨ε, s, μ, he, hr, h⟩ => by
  cases q : ε[i]? with
  | none =>
    simp only [mVar, q] at h
    exact h.elim
  | some o =>
    cases o with
    | none =>
      simp only [mVar, q] at h
      exact h.elim
    | some d =>
      simp only [mVar, q] at h
      obtain ⟨v, hv, r⟩ := he.get i d q
      exact ⟨v, hv, h.ok hr r⟩
theorem d_c {v : V} {d : D} (h : PE X e (tC v)) (r : ∀ μ H, RV X.K X.mg μ H d v) : DE X E e (mC d) := PEto h fun σ H Q ⟨ε, s, μ, he, hr, h⟩ => PO.ok h hr (r μ H)
theorem d_int {i : Int} {j : Nat} : DE X E (.Constant (.int i) j pos) (mC (.int i)) := d_c pe_int fun _ _ => .int i
theorem d_bl {i : Bool} {j : Nat} : DE X E (.Constant (.bool i) j pos) (mC (.bl i)) := d_c pe_bl fun _ _ => .bl i
theorem d_non {j : Nat} : DE X E (.Constant .none j pos) (mC .non) := d_c pe_non fun _ _ => .non
theorem d_str {x : Str} {j : Nat} : DE X E (.Constant (.str x) j pos) (mC (.str x)) := d_c pe_str fun _ _ => .str x
theorem d_glob {x : Str} {v : V} {u : Value} {d : D} (hm : X.mg x = some u) (r : RelV v u) (k : ∀ μ H, RV X.K X.mg μ H d v) (hg : Gl X x := by rfl) (hd : (x == ("__debug__" : Str)) = false := by decide) : DE X E (.Name x pos) (mC d) := d_c (pe_glob hg hm r hd) k
theorem d_gint {x : Str} {i : Int} {t : Tok} (hm : X.mg x = some (.int i t)) (hg : Gl X x := by rfl) (hd : (x == ("__debug__" : Str)) = false := by decide) : DE X E (.Name x pos) (mC (.int i)) := d_glob (v := .int i) hm ⟨t, rfl⟩ (fun _ _ => .int i) hg hd
theorem d_gstr {x y : Str} {t : Tok} (hm : X.mg x = some (.str y t)) (hg : Gl X x := by rfl) (hd : (x == ("__debug__" : Str)) = false := by decide) : DE X E (.Name x pos) (mC (.str y)) := d_glob (v := .str y) hm ⟨t, rfl⟩ (fun _ _ => .str y) hg hd
theorem d_gfn {x : Str} {f : Addr} (hm : X.mg x = some (.ref f)) (hg : Gl X x := by rfl) (hd : (x == ("__debug__" : Str)) = false := by decide) : DE X E (.Name x pos) (mC (.fn x)) := d_glob (v := .ref f) hm rfl (fun _ _ => .fn hm) hg hd
theorem d_bty {x : Str} {n : String} (hm : X.mg x = none) (hv : bootBuiltins x = some (.type n)) (hg : Gl X x := by rfl) (hn : x ≠ "__name__" := by decide) (hd : (x == ("__debug__" : Str)) = false := by decide) : DE X E (.Name x pos) (mC (.ty n)) :=
  d_c (pe_bltn (v := .ty n) hg hm hv rfl hn hd) fun _ _ => .ty n

/-! ### operators -/
def OpS (K : PySem.W.Frag) (mg : Str → Option Value) (r : R2) (op : D → D → S → R D) : Prop := ∀ (E : XK) (μ : List Addr) (H : Hp) (s : S) (x y : D) (vx vy : V) (Q : VK), Rel K mg μ s H → RV K mg μ H x vx → RV K mg μ H y vy → PO K mg E μ H (op x y s) Q → r vx vy H Q
def mOp (op : D → D → S → R D) (ma mb : M) : M := fun ε s => (ma ε s).bind fun x s1 => (mb ε s1).bind fun y s2 => op x y s2
theorem two {r : R2} {op : D → D → S → R D} (ho : OpS X.K X.mg r op) {σ : L2.St} {H : Hp} {Q : VK} (h : tM X.K X.mg E (mOp op ma mb) σ H Q) : tOp r (tM X.K X.mg E ma) (tM X.K X.mg E mb) σ H Q := by
  obtain ⟨ε, s, μ, he, hr, h⟩ := h
  refine ⟨ε, s, μ, he, hr, PO.seq h fun x s1 μ1 H1 v f1 r1 rv q => ?_⟩
  refine ⟨ε, s1, μ1, he.fw f1, r1, PO.seq (PO.fw (r := (mb ε s1).bind fun y s2 => op x y s2) q f1) fun y s2 μ2 H2 w f2 r2 rw' q2 => ?_⟩
  exact ho E μ2 H2 s2 x y v w Q r2 (rv.fw f2) rw' (PO.fw (r := op x y s2) q2 f2)
theorem d_op {o : Operator} {r : R2} {op : D → D → S → R D} (hr : OpR X (binaryOp o) r) (ho : OpS X.K X.mg r op) (ha : DE X E a ma) (hb : DE X E b mb) : DE X E (.BinOp a o b pos) (mOp op ma mb) := PEto (pe_op hr ha hb) fun _ _ _ h => two ho h
theorem d_cmp {o : CmpOp} {r : R2} {op : D → D → S → R D} (hr : OpR X (compareOp o) r) (ho : OpS X.K X.mg r op) (ha : DE X E a ma) (hb : DE X E b mb) (hm : behindInMarks o b = false := by first | exact nomark _ | rfl) : DE X E (.Compare a [o] [b] pos) (mOp op ma mb) :=
  PEto (pe_cmpR hr ha hb hm) fun _ _ _ h => two ho h
theorem d_ix {r : R2} {op : D → D → S → R D} (hr : IxR X r) (ho : OpS X.K X.mg r op) (ha : DE X E a ma) (hb : DE X E b mb) (hp : PlainIx b := by intro _ _; rfl) : DE X E (.Subscript a b pos) (mOp op ma mb) := PEto (pe_ix hr ha hb hp) fun _ _ _ h => two ho h
theorem PB.of {K : PySem.W.Frag} {mg : Str → Option Value} {μ : List Addr} {H : Hp} {r : R D} {Q : Bool → Hp → Prop} (h : PB K mg E μ H r Q) : PO K mg E μ H r (fun x H' => ∃ k, x = .bl k ∧ Q k H') := h.imp (fun d s ⟨b, e, k⟩ μ' H' v f r rv => by
  subst e
  cases rv
  exact ⟨b, rfl, k μ' H' f r⟩) fun _ _ _ _ k => k
/-- a test made of a value -/
theorem tT_M {K : PySem.W.Frag} {mg : Str → Option Value} {σ : L2.St} {H : Hp} {Q : Bool → Hp → Prop} (h : tT K mg E m σ H Q) : tM K mg E m σ H (fun x H' => ∃ k, x = .bl k ∧ Q k H') := by
  obtain ⟨ε, s, μ, he, hr, h⟩ := h
  exact ⟨ε, s, μ, he, hr, PB.of h⟩
theorem t_cmp {o : CmpOp} {r : R2} {op : D → D → S → R D} (hr : OpR X (compareOp o) r) (ho : OpS X.K X.mg r op) (ha : DE X E a ma) (hb : DE X E b mb) (hm : behindInMarks o b = false := by first | exact nomark _ | rfl) : DT X E (.Compare a [o] [b] pos) (mOp op ma mb) :=
  PTto (pt_cmpR hr ha hb hm) fun _ _ _ h => two ho (tT_M h)
theorem t_val (he : DE X E e m) (hw : ∀ whole, isTrue e X.env whole = (do let v ← whole; standAt e.pos; holding [v] (truthy v)) := by intro _; rfl) : DT X E e m := PTto (pt_val he hw) fun _ _ _ h => tT_M h
/-- a < b < c -/
def chK (op' : D → D → S → R D) (mc : M) (ε : Ev) (y : D) : D → S → R D
  | .bl true, s3 => (mc ε s3).bind fun w s4 => op' y w s4
  | .bl false, s3 => .ok (.bl false) s3
  | _, _ => .bad
def mChain (op op' : D → D → S → R D) (ma mb mc : M) : M := fun ε s => (ma ε s).bind fun x s1 => (mb ε s1).bind fun y s2 => (op x y s2).bind fun z s3 => chK op' mc ε y z s3
theorem chain {r r' : R2} {op op' : D → D → S → R D} (ho : OpS X.K X.mg r op) (ho' : OpS X.K X.mg r' op') {σ : L2.St} {H : Hp} {Q : VK} (h : tM X.K X.mg E (mChain op op' ma mb mc) σ H Q) : tChain r r' (tM X.K X.mg E ma) (tM X.K X.mg E mb) (tM X.K X.mg E mc) σ H Q := by
  obtain ⟨ε, s, μ, he, hr, h⟩ := h
  refine ⟨ε, s, μ, he, hr, PO.seq h fun x s1 μ1 H1 v f1 r1 rv q => ?_⟩
  refine ⟨ε, s1, μ1, he.fw f1, r1, PO.seq (PO.fw (r := (mb ε s1).bind _) q f1) fun y s2 μ2 H2 w f2 r2 rw' q2 => ?_⟩
  refine ho E μ2 H2 s2 x y v w _ r2 (rv.fw f2) rw' (PO.seq (PO.fw (r := (op x y s2).bind _) q2 f2) fun z s3 μ3 H3 u f3 r3 ru q3 => ?_)
  have q3 := PO.fw (r := chK op' mc ε y z s3) q3 f3
  cases ru with
  | bl k =>
    refine ⟨k, rfl, ?_⟩
    cases k with
    | true =>
      rw [if_pos rfl]
      refine ⟨ε, s3, μ3, ((he.fw f1).fw f2).fw f3, r3, PO.seq q3 fun w' s4 μ4 H4 u' f4 r4 ru' q4 => ?_⟩
      exact ho' E μ4 H4 s4 y w' w u' Q r4 ((rw'.fw f3).fw f4) ru' (PO.fw (r := op' y w' s4) q4 f4)
    | false =>
      rw [if_neg Bool.false_ne_true]
      exact PO.ok q3 r3 (.bl false)
  | _ => exact q3.elim
theorem d_chain {o o' : CmpOp} {r r' : R2} {op op' : D → D → S → R D} (hr : OpR X (compareOp o) r) (ho : OpS X.K X.mg r op) (hr' : OpR X (compareOp o') r') (ho' : OpS X.K X.mg r' op') (ha : DE X E a ma) (hb : DE X E b mb) (hc : DE X E c mc)
    (hm : lastMarks [o, o'] [b, c] = false := by with_unfolding_all rfl) : DE X E (.Compare a [o, o'] [b, c] pos) (mChain op op' ma mb mc) := PEto (pe_chain hr hr' ha hb hc hm) fun _ _ _ h => chain ho ho' h
theorem t_chain {o o' : CmpOp} {r r' : R2} {op op' : D → D → S → R D} (hr : OpR X (compareOp o) r) (ho : OpS X.K X.mg r op) (hr' : OpR X (compareOp o') r') (ho' : OpS X.K X.mg r' op') (ha : DE X E a ma) (hb : DE X E b mb) (hc : DE X E c mc)
    (hm : lastMarks [o, o'] [b, c] = false := by with_unfolding_all rfl) : DT X E (.Compare a [o, o'] [b, c] pos) (mChain op op' ma mb mc) := PTto (pt_chain hr hr' ha hb hc hm) fun _ _ _ h => chain ho ho' (tT_M h)

/-! ### and, or, not, if else -/
def mAnd (ma mb : M) : M := fun ε s => (ma ε s).bind fun x s1 => match x with
  | .bl true => mb ε s1
  | .bl false => .ok (.bl false) s1
  | _ => .bad
def mOr (ma mb : M) : M := fun ε s => (ma ε s).bind fun x s1 => match x with
  | .bl false => mb ε s1
  | .bl true => .ok (.bl true) s1
  | _ => .bad
def mNot (ma : M) : M := fun ε s => (ma ε s).bind fun x s1 => match x with
  | .bl b => .ok (.bl (!b)) s1
  | _ => .bad
def mIf (mc ma mb : M) : M := fun ε s => (mc ε s).bind fun x s1 => match x with
  | .bl true => ma ε s1
  | .bl false => mb ε s1
  | _ => .bad
variable {rest : List Expr}
theorem PB.seq {K : PySem.W.Frag} {mg : Str → Option Value} {μ : List Addr} {H : Hp} {α : Type} {r : R D} {g : D → S → R α} {ok : α → S → Prop} {Q' : Bool → Hp → Prop} (h : (r.bind g).sat ok (Ex K mg E μ H)) (hb : ∀ d s1, (g d s1).sat ok (Ex K mg E μ H) → ∃ b, d = .bl b)
    (k : ∀ (b : Bool) (s1 : S) (μ1 : List Addr) (H1 : Hp), Fw K μ H μ1 H1 → Rel K mg μ1 s1 H1 → (g (.bl b) s1).sat ok (Ex K mg E μ H) → Q' b H1) : PB K mg E μ H r Q' :=
  h.bind.imp (fun d s1 q => by
    obtain ⟨b, rfl⟩ := hb d s1 q
    exact ⟨b, rfl, fun μ1 H1 f1 r1 => k b s1 μ1 H1 f1 r1 q⟩) fun _ _ _ _ q => q
theorem t_and1 (ha : DT X E a ma) : DW X E (.BoolOp .And [a] pos) ma := PWto (pw_and1 ha) fun _ _ _ h => h
theorem t_or1 (ha : DT X E a ma) : DW X E (.BoolOp .Or [a] pos) ma := PWto (pw_or1 ha) fun _ _ _ h => h
theorem t_and (ha : DT X E a ma) (hb : DW X E (.BoolOp .And (b :: rest) pos) mb) : DW X E (.BoolOp .And (a :: b :: rest) pos) (mAnd ma mb) := PWto (pw_and ha hb) fun σ H Q ⟨ε, s, μ, he, hr, h⟩ => by
  refine ⟨ε, s, μ, he, hr, PB.seq h (fun d s1 q => ?_) fun b s1 μ1 H1 f1 r1 q => ?_⟩
  · cases d with
    | bl b => exact ⟨b, rfl⟩
    | _ => exact q.elim
  · cases b with
    | true =>
      rw [if_pos rfl]
      exact ⟨ε, s1, μ1, he.fw f1, r1, PB.fw (r := mb ε s1) q f1⟩
    | false =>
      rw [if_neg Bool.false_ne_true]
      obtain ⟨b, e, q⟩ := (show PB X.K X.mg E μ H (.ok (.bl false) s1) Q from q)
      cases e
      exact q μ1 H1 f1 r1
theorem t_or (ha : DT X E a ma) (hb : DW X E (.BoolOp .Or (b :: rest) pos) mb) : DW X E (.BoolOp .Or (a :: b :: rest) pos) (mOr ma mb) := PWto (pw_or ha hb) fun σ H Q ⟨ε, s, μ, he, hr, h⟩ => by
  refine ⟨ε, s, μ, he, hr, PB.seq h (fun d s1 q => ?_) fun b s1 μ1 H1 f1 r1 q => ?_⟩
  · cases d with
    | bl b => exact ⟨b, rfl⟩
    | _ => exact q.elim
  · cases b with
    | true =>
      rw [if_pos rfl]
      obtain ⟨b, e, q⟩ := (show PB X.K X.mg E μ H (.ok (.bl true) s1) Q from q)
      cases e
      exact q μ1 H1 f1 r1
    | false =>
      rw [if_neg Bool.false_ne_true]
      exact ⟨ε, s1, μ1, he.fw f1, r1, PB.fw (r := mb ε s1) q f1⟩
theorem t_w (h : DW X E e m) : DT X E e m := PTto h.pt fun _ _ _ h => h
theorem t_not (ha : DT X E a ma) : DT X E (.UnaryOp .Not a pos) (mNot ma) := PTto (pt_not ha) fun σ H Q ⟨ε, s, μ, he, hr, h⟩ => by
  refine ⟨ε, s, μ, he, hr, PB.seq h (fun d s1 q => ?_) fun b s1 μ1 H1 f1 r1 q => ?_⟩
  · cases d with
    | bl b => exact ⟨b, rfl⟩
    | _ => exact q.elim
  · obtain ⟨b', e, q⟩ := (show PB X.K X.mg E μ H (.ok (.bl (!b)) s1) Q from q)
    cases e
    exact q μ1 H1 f1 r1
theorem d_if (hc : DT X E c mc) (ha : DE X E a ma) (hb : DE X E b mb) : DE X E (.IfExp c a b pos) (mIf mc ma mb) := PEto (pe_ifExp hc ha hb) fun σ H Q ⟨ε, s, μ, he, hr, h⟩ => by
  refine ⟨ε, s, μ, he, hr, PB.seq h (fun d s1 q => ?_) fun b s1 μ1 H1 f1 r1 q => ?_⟩
  · cases d with
    | bl b => exact ⟨b, rfl⟩
    | _ => exact q.elim
  · cases b with
    | true =>
      rw [if_pos rfl]
      exact ⟨ε, s1, μ1, he.fw f1, r1, PO.fw (r := ma ε s1) q f1⟩
    | false =>
      rw [if_neg Bool.false_ne_true]
      exact ⟨ε, s1, μ1, he.fw f1, r1, PO.fw (r := mb ε s1) q f1⟩
/-- as values: all but the last a bool -/
theorem d_one {op : BoolOp} (h : DE X E a ma) : DE X E (.BoolOp op [a] pos) ma := PEto (pe_one h) fun _ _ _ h => h
theorem d_and (ha : DE X E a ma) (hb : DE X E (.BoolOp .And (b :: rest) pos) mb) : DE X E (.BoolOp .And (a :: b :: rest) pos) (mAnd ma mb) := PEto (pe_and ha hb) fun σ H Q ⟨ε, s, μ, he, hr, h⟩ => by
  refine ⟨ε, s, μ, he, hr, PO.seq h fun d s1 μ1 H1 v f1 r1 rv q => ?_⟩
  cases rv with
  | bl b =>
    refine ⟨b, rfl, ?_⟩
    cases b with
    | true =>
      rw [if_pos rfl]
      exact ⟨ε, s1, μ1, he.fw f1, r1, PO.fw (r := mb ε s1) q f1⟩
    | false =>
      rw [if_neg Bool.false_ne_true]
      exact (show PO X.K X.mg E μ H (.ok (.bl false) s1) Q from q) μ1 H1 _ f1 r1 (.bl false)
  | _ => exact q.elim
theorem d_or (ha : DE X E a ma) (hb : DE X E (.BoolOp .Or (b :: rest) pos) mb) : DE X E (.BoolOp .Or (a :: b :: rest) pos) (mOr ma mb) := PEto (pe_or ha hb) fun σ H Q ⟨ε, s, μ, he, hr, h⟩ => by
  refine ⟨ε, s, μ, he, hr, PO.seq h fun d s1 μ1 H1 v f1 r1 rv q => ?_⟩
  cases rv with
  | bl b =>
    refine ⟨b, rfl, ?_⟩
    cases b with
    | false =>
      rw [if_neg Bool.false_ne_true]
      exact ⟨ε, s1, μ1, he.fw f1, r1, PO.fw (r := mb ε s1) q f1⟩
    | true =>
      rw [if_pos rfl]
      exact (show PO X.K X.mg E μ H (.ok (.bl true) s1) Q from q) μ1 H1 _ f1 r1 (.bl true)
  | _ => exact q.elim
theorem d_not (ha : DE X E a ma) : DE X E (.UnaryOp .Not a pos) (mNot ma) := PEto (pe_not ha) fun σ H Q ⟨ε, s, μ, he, hr, h⟩ => by
  refine ⟨ε, s, μ, he, hr, PO.seq h fun d s1 μ1 H1 v f1 r1 rv q => ?_⟩
  cases rv with
  | bl b => exact ⟨b, rfl, (show PO X.K X.mg E μ H (.ok (.bl (!b)) s1) Q from q) μ1 H1 _ f1 r1 (.bl _)⟩
  | _ => exact q.elim
def mNeg (ma : M) : M := fun ε s => (ma ε s).bind fun x s1 => match x with
  | .int i => .ok (.int (-i)) s1
  | _ => .bad
theorem d_neg (ha : DE X E a ma) : DE X E (.UnaryOp .USub a pos) (mNeg ma) := PEto (pe_un un_neg ha) fun σ H Q ⟨ε, s, μ, he, hr, h⟩ => by
  refine ⟨ε, s, μ, he, hr, PO.seq h fun d s1 μ1 H1 v f1 r1 rv q => ?_⟩
  cases rv with
  | int i => exact ⟨i, rfl, (show PO X.K X.mg E μ H (.ok (.int (-i)) s1) Q from q) μ1 H1 _ f1 r1 (.int _)⟩
  | _ => exact q.elim

/-! ### argument lists and displays -/
def mNil : Ev → S → R (List D) := fun _ s => .ok [] s
def mCons (m : M) (r : Ev → S → R (List D)) : Ev → S → R (List D) := fun ε s => (m ε s).bind fun x s1 => (r ε s1).bind fun xs s2 => .ok (x :: xs) s2
variable {es : List Expr} {ms : Ev → S → R (List D)}
theorem a_nil : DA X E [] mNil := PAto pa_nil fun σ H Q ⟨ε, s, μ, he, hr, h⟩ => h μ H [] Fw.refl hr .nil
theorem a_cons (ha : DE X E e m) (hs : DA X E es ms) (hst : starEach (e :: es) X.env = (false, eval e X.env) :: starEach es X.env := by rfl) : DA X E (e :: es) (mCons m ms) := PAto (pa_cons ha hs hst) fun σ H Q ⟨ε, s, μ, he, hr, h⟩ => by
  refine ⟨ε, s, μ, he, hr, PO.seq h fun x s1 μ1 H1 v f1 r1 rv q => ?_⟩
  refine ⟨ε, s1, μ1, he.fw f1, r1, PL.seq (PL.fw (r := (ms ε s1).bind fun xs s2 => .ok (x :: xs) s2) q f1) fun xs s2 μ2 H2 vs f2 r2 rvs q2 => ?_⟩
  exact (show PL X.K X.mg E μ1 H1 (.ok (x :: xs) s2) Q from q2) μ2 H2 (v :: vs) f2 r2 (.cons (rv.fw f2) rvs)
def mLst (ms : Ev → S → R (List D)) : M := fun ε s => (ms ε s).bind fun ds s1 => if ds.length ≤ sizeLine then .ok (.ref s1.length) (s1 ++ [C.lst ds]) else .bad
def mTup (ms : Ev → S → R (List D)) : M := fun ε s => (ms ε s).bind fun ds s1 => if ds.length ≤ sizeLine then .ok (.tup ds) s1 else .bad
end

section
variable {K : PySem.W.Frag} {mg : Str → Option Value} {μ : List Addr} {H : Hp} {s : S} {E : XK} {Q : VK} {ds : List D} {vs : List V}
/-- a new list's cell -/
theorem PO.list (h : PO K mg E μ H (.ok (.ref s.length) (s ++ [C.lst ds])) Q) (hr : Rel K mg μ s H) (r : RVs K mg μ H ds vs) {p : Addr} (hp : H p = none) : Q (.ref p) (upd H p (.lst vs)) := by
  have f : Fw K μ H (μ ++ [p]) (upd H p (.lst vs)) := Fw.new hp
  refine h (μ ++ [p]) _ (.ref p) f (hr.push hp ⟨vs, upd_same, r.fw f⟩) (.ref ?_)
  rw [List.getElem?_append_right (by rw [hr.len]; exact Nat.le_refl _), hr.len, Nat.sub_self]
  rfl
theorem PO.tuple (h : PO K mg E μ H (.ok (.tup ds) s) Q) (hr : Rel K mg μ s H) (r : RVs K mg μ H ds vs) {p : Addr} (hp : H p = none) : Q (.ref p) (upd H p (.tup vs)) := by
  have f : Fw K μ H μ (upd H p (.tup vs)) := Fw.new0 hp
  exact h μ _ (.ref p) f (hr.new0 hp) (.tup (SqT.of upd_same) (r.fw f))
theorem PO.ite {c : Prop} [Decidable c] {r : R D} (h : PO K mg E μ H (if c then r else .bad) Q) : c ∧ PO K mg E μ H r Q := by
  by_cases q : c
  · rw [if_pos q] at h
    exact ⟨q, h⟩
  · rw [if_neg q] at h
    exact h.elim
end
section
variable {X : Cx} {E : XK} {pos : Pos} {e a b c : Expr} {m ma mb mc : M} {es : List Expr} {ms : Ev → S → R (List D)}
theorem d_lst (h : DA X E es ms) : DE X E (.List es pos) (mLst ms) := PEto (pe_lst h) fun σ H Q ⟨ε, s, μ, he, hr, h⟩ => by
  refine ⟨ε, s, μ, he, hr, PL.seq h fun ds s1 μ1 H1 vs f1 r1 rvs q => ?_⟩
  obtain ⟨hl, q⟩ := PO.ite (PO.fw (r := if ds.length ≤ sizeLine then .ok (.ref s1.length) (s1 ++ [C.lst ds]) else .bad) q f1)
  exact ⟨by rw [← rvs.length]; exact hl, fun p hp => PO.list q r1 rvs hp⟩
theorem d_tup {x1 : Nat} (h : DA X E es ms) : DE X E (.Tuple es x1 pos) (mTup ms) := PEto (pe_tup h) fun σ H Q ⟨ε, s, μ, he, hr, h⟩ => by
  refine ⟨ε, s, μ, he, hr, PL.seq h fun ds s1 μ1 H1 vs f1 r1 rvs q => ?_⟩
  obtain ⟨hl, q⟩ := PO.ite (PO.fw (r := if ds.length ≤ sizeLine then .ok (.tup ds) s1 else .bad) q f1)
  exact ⟨by rw [← rvs.length]; exact hl, fun p hp => PO.tuple q r1 rvs hp⟩

/-! ### calls -/
/-- a def's promise: it does what F does -/
def spF (K : PySem.W.Frag) (mg : Str → Option Value) (n : Nat) (F : List D → S → R D) : Sp := fun vs H Q E => vs.length = n ∧ ∃ ds s μ, RVs K mg μ H ds vs ∧ Rel K mg μ s H ∧ PO K mg E μ H (F ds s) Q
def mCall (F : List D → S → R D) (ms : Ev → S → R (List D)) : M := fun ε s => (ms ε s).bind fun ds s1 => F ds s1
theorem call_sp {n : Nat} {F : List D → S → R D} (hl : ∀ ε s ds s1, ms ε s = .ok ds s1 → ds.length = n) {σ : L2.St} {H : Hp} {Q : VK} (h : tM X.K X.mg E (mCall F ms) σ H Q) : tCall (spF X.K X.mg n F) [] E (tL X.K X.mg E ms) σ H Q := by
  obtain ⟨ε, s, μ, he, hr, h⟩ := h
  have h' : PL X.K X.mg E μ H (ms ε s) fun vs H1 => spF X.K X.mg n F (vs ++ []) H1 Q E := by
    cases e : ms ε s with
    | ok ds s1 =>
      intro μ1 H1 vs f1 r1 rvs
      have q : PO X.K X.mg E μ H (F ds s1) Q := by
        have h1 : PO X.K X.mg E μ H ((ms ε s).bind fun ds s1 => F ds s1) Q := h
        rw [e] at h1
        exact h1
      rw [List.append_nil]
      exact ⟨by rw [← rvs.length]; exact hl ε s ds s1 e, ds, s1, μ1, rvs, r1, PO.fw q f1⟩
    | exc c f d s1 =>
      have h1 : PO X.K X.mg E μ H ((ms ε s).bind fun ds s1 => F ds s1) Q := h
      rw [e] at h1
      exact h1
    | bad =>
      have h1 : PO X.K X.mg E μ H ((ms ε s).bind fun ds s1 => F ds s1) Q := h
      rw [e] at h1
      exact h1.elim
  exact ⟨ε, s, μ, he, hr, h'⟩
theorem len_nil {ε : Ev} {s s1 : S} {ds : List D} (h : mNil ε s = .ok ds s1) : ds.length = 0 := by
  cases h
  rfl
theorem len_cons {m : M} {ms : Ev → S → R (List D)} {n : Nat} (hl : ∀ ε s ds s1, ms ε s = .ok ds s1 → ds.length = n) : ∀ ε s ds s1, mCons m ms ε s = .ok ds s1 → ds.length = n + 1 := fun ε s ds s1 h => by
  unfold mCons at h
  cases e : m ε s with
  | ok x s2 =>
    rw [e] at h
    have h : ((ms ε s2).bind fun xs s2 => R.ok (x :: xs) s2) = R.ok ds s1 := h
    cases e2 : ms ε s2 with
    | ok xs s3 =>
      rw [e2] at h
      cases h
      rw [List.length_cons, hl ε s2 xs _ e2]
    | exc c f d s3 =>
      rw [e2] at h
      cases h
    | bad =>
      rw [e2] at h
      cases h
  | exc c f d s3 =>
    rw [e] at h
    cases h
  | bad =>
    rw [e] at h
    cases h
variable {CX : CXT} {k n : Nat} {f : Addr} {fd : FuncData} {ps : List Str} {x : Str} {p : Pos} {F : List D → S → R D}
theorem d_call (G : FnOk X.prog X.w X.K X.mg X.base CX k f fd ps (spF X.K X.mg n F)) (hr : Room k X.A) (hm : X.mg x = some (.ref f)) (hk : PySem.W.keepIn X.K (.ref f) = true) (hb : Binds X.K fd ps []) (hx : Passes CX X E)
    (ha : DA X E (e :: es) ms) (hl : ∀ ε s ds s1, ms ε s = .ok ds s1 → ds.length = n) (hg : Gl X x := by rfl) (hdb : (x == ("__debug__" : Str)) = false := by decide) (he : starEach (e :: es) X.env = (false, eval e X.env) :: starEach es X.env := by rfl) (hpl : (backTo pos (starEach es X.env)).any (·.1) = false := by rfl) :
    DE X E (.Call (.Name x p) (e :: es) [] pos) (mCall F ms) := PEto (pe_call G hr hg hm hk hb .nil hx ha hdb he hpl) fun σ H Q h => call_sp hl h
theorem d_call0 (G : FnOk X.prog X.w X.K X.mg X.base CX k f fd ps (spF X.K X.mg 0 F)) (hr : Room k X.A) (hm : X.mg x = some (.ref f)) (hk : PySem.W.keepIn X.K (.ref f) = true) (hb : Binds X.K fd ps []) (hx : Passes CX X E)
    (hg : Gl X x := by rfl) (hdb : (x == ("__debug__" : Str)) = false := by decide) : DE X E (.Call (.Name x p) [] [] pos) (mCall F mNil) := PEto (pe_call0 G hr hg hm hk hb .nil hx hdb) fun σ H Q h => by
  obtain ⟨ε, s, μ, he, hr, h⟩ := h
  exact ⟨rfl, [], s, μ, .nil, hr, h⟩
/-- a call of a built-in by its values -/
def CaS (K : PySem.W.Frag) (mg : Str → Option Value) (r : List V → Hp → VK → Prop) (f : List D → S → R D) : Prop := ∀ (E : XK) (μ : List Addr) (H : Hp) (s : S) (xs : List D) (vs : List V) (Q : VK), Rel K mg μ s H → RVs K mg μ H xs vs → PO K mg E μ H (f xs s) Q → r vs H Q
theorem callB {r : List V → Hp → VK → Prop} {g : List D → S → R D} (hc : CaS X.K X.mg r g) {σ : L2.St} {H : Hp} {Q : VK} (h : tM X.K X.mg E (mCall g ms) σ H Q) : tCB r (tL X.K X.mg E ms) σ H Q := by
  obtain ⟨ε, s, μ, he, hr, h⟩ := h
  exact ⟨ε, s, μ, he, hr, PL.seq h fun ds s1 μ1 H1 vs f1 r1 rvs q => hc E μ1 H1 s1 ds vs Q r1 rvs (PO.fw (r := g ds s1) q f1)⟩
theorem d_callB {id : String} {r : List V → Hp → VK → Prop} {g : List D → S → R D} (hc : CallR X (.builtin id) r) (hs : CaS X.K X.mg r g) (hm : X.mg x = none) (hv : bootBuiltins x = some (.builtin id)) (ha : DA X E (e :: es) ms) (hg : Gl X x := by rfl) (hn : x ≠ "__name__" := by decide) (hdb : (x == ("__debug__" : Str)) = false := by decide)
    (he : starEach (e :: es) X.env = (false, eval e X.env) :: starEach es X.env := by rfl) (hpl : (backTo pos (starEach es X.env)).any (·.1) = false := by rfl) : DE X E (.Call (.Name x p) (e :: es) [] pos) (mCall g ms) :=
  PEto (pe_callB hc hg hm hv ha hn hdb he hpl) fun σ H Q h => callB hs h
theorem d_callTy {id : String} {r : List V → Hp → VK → Prop} {g : List D → S → R D} (hc : CallR X (.type id) r) (hs : CaS X.K X.mg r g) (hm : X.mg x = none) (hv : bootBuiltins x = some (.type id)) (ha : DA X E (e :: es) ms) (hg : Gl X x := by rfl) (hn : x ≠ "__name__" := by decide) (hdb : (x == ("__debug__" : Str)) = false := by decide)
    (he : starEach (e :: es) X.env = (false, eval e X.env) :: starEach es X.env := by rfl) (hpl : (backTo pos (starEach es X.env)).any (·.1) = false := by rfl) : DE X E (.Call (.Name x p) (e :: es) [] pos) (mCall g ms) :=
  PEto (pe_callTy hc hg hm hv ha hn hdb he hpl) fun σ H Q h => callB hs h
end
end Mi

namespace Mi
open PySem PySem.Spec PyProof.Rows L2

/-! ### statements -/
inductive O where
  | nx (ε : Ev) (s : S) | rt (d : D) (s : S) | bk (ε : Ev) (s : S) | ct (ε : Ev) (s : S) | ex (c f : Str) (d : D) (s : S) | bad
abbrev B := Ev → S → O
def R.to {α : Type} (r : R α) (g : α → S → O) : O := match r with
  | .ok a s => g a s
  | .exc c f d s => .ex c f d s
  | .bad => .bad
def O.bind (o : O) (g : B) : O := match o with
  | .nx ε s => g ε s
  | .rt d s => .rt d s
  | .bk ε s => .bk ε s
  | .ct ε s => .ct ε s
  | .ex c f d s => .ex c f d s
  | .bad => .bad
section
variable (K : PySem.W.Frag) (mg : Str → Option Value)
def SO (E : XK) (μ : List Addr) (H : Hp) (o : O) (D : Ends) : Prop := match o with
  | .nx ε s => ∀ (μ' : List Addr) (H' : Hp) (σ' : L2.St), Fw K μ H μ' H' → Rel K mg μ' s H' → REnv K mg μ' H' ε σ' → D.nx σ' H'
  | .bk ε s => ∀ (μ' : List Addr) (H' : Hp) (σ' : L2.St), Fw K μ H μ' H' → Rel K mg μ' s H' → REnv K mg μ' H' ε σ' → D.bk σ' H'
  | .ct ε s => ∀ (μ' : List Addr) (H' : Hp) (σ' : L2.St), Fw K μ H μ' H' → Rel K mg μ' s H' → REnv K mg μ' H' ε σ' → D.ct σ' H'
  | .rt d s => ∀ (μ' : List Addr) (H' : Hp) (v : V), Fw K μ H μ' H' → Rel K mg μ' s H' → RV K mg μ' H' d v → D.rt v H'
  | .ex c f d s => Ex K mg E μ H c f d s
  | .bad => False
def tS (E : XK) (b : B) : TS := fun D σ H => ∃ ε s μ, REnv K mg μ H ε σ ∧ Rel K mg μ s H ∧ SO K mg E μ H (b ε s) D
end
theorem PSto {X : Cx} {e : Stmt} {t t' : TS} (h : PS X e t) (k : ∀ D σ H, t' D σ H → t D σ H) : PS X e t' := ⟨fun pins s σ H D I hw => h.run pins s σ H D I (k D σ H hw)⟩
theorem PSsto {X : Cx} {e : List Stmt} {t t' : TS} (h : PSs X e t) (k : ∀ D σ H, t' D σ H → t D σ H) : PSs X e t' := ⟨fun pins s σ H D I hw => h.run pins s σ H D I (k D σ H hw)⟩
abbrev DS (X : Cx) (E : XK) (st : Stmt) (b : B) : Prop := PS X st (tS X.K X.mg E b)
abbrev DB (X : Cx) (E : XK) (st : List Stmt) (b : B) : Prop := PSs X st (tS X.K X.mg E b)

section
variable {K : PySem.W.Frag} {mg : Str → Option Value} {μ μ' : List Addr} {H H' : Hp} {E : XK} {o : O} {D : Ends}
theorem SO.fw (h : SO K mg E μ H o D) (f : Fw K μ H μ' H') : SO K mg E μ' H' o D := by
  cases o with
  | nx ε s => exact fun μ2 H2 σ2 f2 => h μ2 H2 σ2 (f.trans f2)
  | bk ε s => exact fun μ2 H2 σ2 f2 => h μ2 H2 σ2 (f.trans f2)
  | ct ε s => exact fun μ2 H2 σ2 f2 => h μ2 H2 σ2 (f.trans f2)
  | rt d s => exact fun μ2 H2 v f2 => h μ2 H2 v (f.trans f2)
  | ex c n d s => exact Ex.fw h f
  | bad => exact h
theorem SO.imp {D' : Ends} (h : SO K mg E μ H o D) (h1 : ∀ σ H, D.nx σ H → D'.nx σ H) (h2 : ∀ v H, D.rt v H → D'.rt v H) (h3 : ∀ σ H, D.bk σ H → D'.bk σ H) (h4 : ∀ σ H, D.ct σ H → D'.ct σ H) : SO K mg E μ H o D' := by
  cases o with
  | nx ε s => exact fun μ2 H2 σ2 f2 r e => h1 _ _ (h μ2 H2 σ2 f2 r e)
  | bk ε s => exact fun μ2 H2 σ2 f2 r e => h3 _ _ (h μ2 H2 σ2 f2 r e)
  | ct ε s => exact fun μ2 H2 σ2 f2 r e => h4 _ _ (h μ2 H2 σ2 f2 r e)
  | rt d s => exact fun μ2 H2 v f2 r e => h2 _ _ (h μ2 H2 v f2 r e)
  | ex c n d s => exact h
  | bad => exact h
/-- an expression, then the rest -/
theorem SO.to {g : Mi.D → S → O} {Q : VK} {r : R Mi.D} (h : SO K mg E μ H (r.to g) D)
    (k : ∀ (d : Mi.D) (s1 : S) (μ1 : List Addr) (H1 : Hp) (v : V), Fw K μ H μ1 H1 → Rel K mg μ1 s1 H1 → RV K mg μ1 H1 d v → SO K mg E μ1 H1 (g d s1) D → Q v H1) : PO K mg E μ H r Q := by
  cases r with
  | ok d s1 => exact fun μ1 H1 v f1 r1 rv => k d s1 μ1 H1 v f1 r1 rv (SO.fw (o := g d s1) h f1)
  | exc c n d s1 => exact h
  | bad => exact h.elim
theorem SO.toB {g : Mi.D → S → O} {Q : Bool → Hp → Prop} {r : R Mi.D} (h : SO K mg E μ H (r.to g) D) (hb : ∀ d s1, SO K mg E μ H (g d s1) D → ∃ b, d = .bl b)
    (k : ∀ (b : Bool) (s1 : S) (μ1 : List Addr) (H1 : Hp), Fw K μ H μ1 H1 → Rel K mg μ1 s1 H1 → SO K mg E μ1 H1 (g (.bl b) s1) D → Q b H1) : PB K mg E μ H r Q := by
  cases r with
  | ok d s1 =>
    obtain ⟨b, rfl⟩ := hb d s1 h
    exact ⟨b, rfl, fun μ1 H1 f1 r1 => k b s1 μ1 H1 f1 r1 (SO.fw (o := g (.bl b) s1) h f1)⟩
  | exc c n d s1 => exact h
  | bad => exact h.elim
end

def bNil : B := fun ε s => .nx ε s
def bSeq (b : B) (r : B) : B := fun ε s => (b ε s).bind r
def sExpr (m : M) : B := fun ε s => (m ε s).to fun _ s1 => .nx ε s1
def sRet (m : M) : B := fun ε s => (m ε s).to fun d s1 => .rt d s1
def sRetN : B := fun _ s => .rt .non s
def sSet (i : Nat) (m : M) : B := fun ε s => (m ε s).to fun d s1 => .nx (ε.set i (some d)) s1
def ifK (a b : B) (ε : Ev) : D → S → O
  | .bl true, s => a ε s
  | .bl false, s => b ε s
  | _, _ => .bad
def sIf (m : M) (a b : B) : B := fun ε s => (m ε s).to (ifK a b ε)
def sBreak : B := fun ε s => .bk ε s
def sCont : B := fun ε s => .ct ε s
section
variable {X : Cx} {E : XK} {pos : Pos} {e c : Expr} {m mc : M} {st : Stmt} {sts : List Stmt} {b r : B}
theorem b_nil : DB X E [] bNil := PSsto pss_nil fun D σ H ⟨ε, s, μ, he, hr, h⟩ => h μ H σ Fw.refl hr he
theorem b_cons (h1 : DS X E st b) (h2 : DB X E sts r) : DB X E (st :: sts) (bSeq b r) := PSsto (pss_cons h1 h2) fun D σ H ⟨ε, s, μ, he, hr, h⟩ => by
  refine ⟨ε, s, μ, he, hr, ?_⟩
  have h : SO X.K X.mg E μ H ((b ε s).bind r) D := h
  cases q : b ε s with
  | nx ε1 s1 =>
    rw [q] at h
    exact fun μ1 H1 σ1 f1 r1 e1 => ⟨ε1, s1, μ1, e1, r1, SO.fw (o := r ε1 s1) h f1⟩
  | bk ε1 s1 =>
    rw [q] at h
    exact h
  | ct ε1 s1 =>
    rw [q] at h
    exact h
  | rt d s1 =>
    rw [q] at h
    exact h
  | ex c n d s1 =>
    rw [q] at h
    exact h
  | bad =>
    rw [q] at h
    exact h.elim
theorem b_one (h1 : DS X E st b) : DB X E [st] b := PSsto (pss_one h1) fun D σ H h => h
theorem s_pass : DS X E (.Pass pos) bNil := PSto ps_pass fun D σ H ⟨ε, s, μ, he, hr, h⟩ => h μ H σ Fw.refl hr he
theorem s_break : DS X E (.Break pos) sBreak := PSto ps_break fun D σ H ⟨ε, s, μ, he, hr, h⟩ => h μ H σ Fw.refl hr he
theorem s_cont : DS X E (.Continue pos) sCont := PSto ps_continue fun D σ H ⟨ε, s, μ, he, hr, h⟩ => h μ H σ Fw.refl hr he
theorem s_doc {x : Str} {j : Nat} {pos' : Pos} : DS X E (.Expr (.Constant (.str x) j pos) pos') bNil := PSto ps_doc fun D σ H ⟨ε, s, μ, he, hr, h⟩ => h μ H σ Fw.refl hr he
theorem s_expr (he : DE X E e m) (hs : swapsWith e none pos.line X.env = pure false := by rfl) : DS X E (.Expr e pos) (sExpr m) := PSto (ps_expr he hs) fun D σ H ⟨ε, s, μ, he, hr, h⟩ =>
  ⟨ε, s, μ, he, hr, SO.to (r := m ε s) h fun d s1 μ1 H1 v f1 r1 rv q => q μ1 H1 σ Fw.refl r1 (he.fw f1)⟩
theorem s_ret (he : DE X E e m) : DS X E (.Return (some e) pos) (sRet m) := PSto (ps_ret he) fun D σ H ⟨ε, s, μ, he, hr, h⟩ =>
  ⟨ε, s, μ, he, hr, SO.to (r := m ε s) h fun d s1 μ1 H1 v f1 r1 rv q => q μ1 H1 v Fw.refl r1 rv⟩
theorem s_retN : DS X E (.Return none pos) sRetN := PSto ps_retN fun D σ H ⟨ε, s, μ, he, hr, h⟩ => h μ H .non Fw.refl hr .non
theorem s_set (i : Nat) {x : Str} {pos' : Pos} (hN : X.N.Nodup) (he : DE X E e m) (hi : X.N[i]? = some x := by rfl) (hx : Loc X.env.scope x := by first | exact Or.inl rfl | exact Or.inr rfl) (hs : swapsWith e (some (.Name x pos')) pos.line X.env = pure false := by rfl) (hf : X.fn x = true ∨ X.env.scope.names.lookup x = some .local := by first | exact .inl rfl | exact .inr rfl) :
    DS X E (.Assign [.Name x pos'] e pos) (sSet i m) := PSto (ps_set hN hi hx he hs hf) fun D σ H ⟨ε, s, μ, he, hr, h⟩ =>
  ⟨ε, s, μ, he, hr, SO.to (r := m ε s) h fun d s1 μ1 H1 v f1 r1 rv q => q μ1 H1 _ Fw.refl r1 ((he.fw f1).set i rv)⟩
theorem s_if {as bs : List Stmt} {a b : B} (hc : DT X E c mc) (ha : DB X E as a) (hb : DB X E bs b) : DS X E (.If c as bs pos) (sIf mc a b) := PSto (ps_if hc ha hb) fun D σ H ⟨ε, s, μ, he, hr, h⟩ => by
  refine ⟨ε, s, μ, he, hr, SO.toB (r := mc ε s) h (fun d s1 q => ?_) fun k s1 μ1 H1 f1 r1 q => ?_⟩
  · cases d with
    | bl b => exact ⟨b, rfl⟩
    | _ => exact q.elim
  · cases k with
    | true =>
      rw [if_pos rfl]
      exact ⟨ε, s1, μ1, he.fw f1, r1, q⟩
    | false =>
      rw [if_neg Bool.false_ne_true]
      exact ⟨ε, s1, μ1, he.fw f1, r1, q⟩
end

/-! ### what is walked -/
/-- the items, and the cell that must stand as it is while they are walked -/
abbrev Walked := List D × Option (Nat × C)
def Gd : Option (Nat × C) → S → Prop
  | none, _ => True
  | some (k, c), s => s[k]? = some c
section
variable (K : PySem.W.Frag) (mg : Str → Option Value)
/-- what J yields, from (μ1, H1) on -/
def ItS (J : It) (μ1 : List Addr) (H1 : Hp) (w : Walked) : Prop := ∀ (i : Nat) (μ : List Addr) (s : S) (H : Hp), Fw K μ1 H1 μ H → Rel K mg μ s H → Gd w.2 s →
  (w.1[i]? = none → J.stop i H) ∧ ∀ d, w.1[i]? = some d → J.go i H ∧ ∀ x H', J.yld i H x H' → H' = H ∧ RV K mg μ H d x
def tI (E : XK) (mi : Ev → S → R Walked) : TI := fun σ H P => ∃ ε s μ, REnv K mg μ H ε σ ∧ Rel K mg μ s H ∧
  (mi ε s).sat (fun w s' => ∀ (μ' : List Addr) (H' : Hp) (J : It), Fw K μ H μ' H' → Rel K mg μ' s' H' → Gd w.2 s' → ItS K mg J μ' H' w → P J H') (Ex K mg E μ H)
end
abbrev DI (X : Cx) (E : XK) (tg iter : Expr) (mi : Ev → S → R Walked) : Prop := PI X tg iter (tI X.K X.mg E mi)
theorem PIto {X : Cx} {tg e : Expr} {t t' : TI} (h : PI X tg e t) (k : ∀ σ H P, t' σ H P → t σ H P) : PI X tg e t' := ⟨fun pins s σ H P I hw => h.run pins s σ H P I (k σ H P hw)⟩
/-- a list, a tuple, a text -/
def iAny (K : PySem.W.Frag) (tl : TE) : TI := fun σ H P => tl σ H fun x H1 => (∃ a, x = .ref a ∧ (∃ xs, SqL K H1 a xs) ∧ P (Itl K a) H1) ∨ (∃ a, x = .ref a ∧ (∃ xs, SqT K H1 a xs) ∧ P (Itt K a) H1) ∨ ∃ y, x = .str y ∧ P (Its y) H1
theorem pi_any {X : Cx} {tg e : Expr} {te : TE} (he : PE X e te) : PI X tg e (iAny X.K te) := by
  refine ⟨fun pins s σ H P I h => ?_⟩
  refine thn (he.run pins s σ H _ I h) fun v s1 ⟨y, H1, I1, r1, q⟩ => ?_
  rcases q with ⟨a, rfl, ⟨xs, hq⟩, q⟩ | ⟨a, rfl, ⟨xs, hq⟩, q⟩ | ⟨x, rfl, q⟩
  · cases r1
    obtain ⟨its, rv, p, hz⟩ := I1.list hq
    refine wpAny_pyIter_list p.isList ?_
    refine ⟨s1.heap.objs.size, [s1.heap.objs.size], _, _, H1, rfl, I1.kept (t' := s1.toks) fun b o e => Heap.get?_push_of_some _ e, turn_list a _, ⟨_, Heap.get?_push_size _ rfl, rfl, rfl⟩, fun b hb => ?_, q⟩
    have e : b = s1.heap.objs.size := by simpa using hb
    subst e
    exact I1.fpOk (Nat.le_refl _) (I1.hok.fresh (Nat.le_refl _))
  · cases r1
    obtain ⟨its, rv, p, hz⟩ := I1.tuple hq
    refine wpAny_pyIter_tuple (show s1.heap.IsTuple a its.toArray from p) ?_
    refine ⟨s1.heap.objs.size, [s1.heap.objs.size], _, _, H1, rfl, I1.kept (t' := s1.toks) fun b o e => Heap.get?_push_of_some _ e, turn_tuple a _, ⟨_, Heap.get?_push_size _ rfl, rfl, rfl⟩, fun b hb => ?_, q⟩
    have e : b = s1.heap.objs.size := by simpa using hb
    subst e
    exact I1.fpOk (Nat.le_refl _) (I1.hok.fresh (Nat.le_refl _))
  · obtain ⟨t, rfl⟩ := r1
    cases ha : x.cps.all (· < 128)
    · exact wpAny_pyIter_wide ha (pi_one (tk := s1.toks) I1 _ (turn_str _ x t "str_iterator" (.inr rfl)) ⟨_, Heap.get?_push_size _ rfl, rfl, rfl⟩ q)
    · exact wpAny_pyIter_ascii ha (pi_one (tk := s1.toks) I1 _ (turn_str _ x t "str_ascii_iterator" (.inl rfl)) ⟨_, Heap.get?_push_size _ rfl, rfl, rfl⟩ q)
def cellK (k : Nat) : Option C → S → R Walked
  | some (.lst ds), s => .ok (ds, some (k, .lst ds)) s
  | _, _ => .bad
def itemsK : D → S → R Walked
  | .ref k, s => cellK k s[k]? s
  | .tup ds, s => .ok (ds, none) s
  | .frl ds, s => .ok (ds, none) s
  | .str x, s => .ok (x.cps.toList.map fun c => .str ⟨#[c]⟩, none) s
  | _, _ => .bad
def iSeq (m : M) : Ev → S → R Walked := fun ε s => (m ε s).bind itemsK
section
variable {K : PySem.W.Frag} {mg : Str → Option Value}
theorem itS_list {a : Addr} {μ1 : List Addr} {H1 : Hp} {ds : List D} {k : Nat} (hk : μ1[k]? = some a) : ItS K mg (Itl K a) μ1 H1 (ds, some (k, .lst ds)) := fun i μ s H f r g => by
  have g : s[k]? = some (.lst ds) := g
  obtain ⟨vs, hv, rv⟩ := r.cell k _ a g (f.map k a hk)
  have hq : SqL K H a vs := SqL.of hv
  refine ⟨fun h => ⟨vs, hq, ?_⟩, fun d h => ?_⟩
  · rw [← rv.length]
    exact List.getElem?_eq_none_iff.mp h
  · obtain ⟨v, h1, h2⟩ := rv.get h
    exact ⟨⟨vs, v, hq, h1⟩, fun x H' ⟨e, y⟩ => ⟨e, by
      have := y vs hq
      rw [h1] at this
      cases this
      exact h2⟩⟩
theorem itS_frl {a : Addr} {μ1 : List Addr} {H1 : Hp} {ds : List D} {vs : List V} (hq : Fz K H1 a vs) (rv : RVs K mg μ1 H1 ds vs) : ItS K mg (Itl K a) μ1 H1 (ds, none) := fun i μ s H f r g => by
  have hq : SqL K H a vs := (f.frz a vs hq).seq
  have rv := rv.fw f
  refine ⟨fun h => ⟨vs, hq, ?_⟩, fun d h => ?_⟩
  · rw [← rv.length]
    exact List.getElem?_eq_none_iff.mp h
  · obtain ⟨v, h1, h2⟩ := rv.get h
    exact ⟨⟨vs, v, hq, h1⟩, fun x H' ⟨e, y⟩ => ⟨e, by
      have := y vs hq
      rw [h1] at this
      cases this
      exact h2⟩⟩
theorem itS_tup {a : Addr} {μ1 : List Addr} {H1 : Hp} {ds : List D} {vs : List V} (hq : SqT K H1 a vs) (rv : RVs K mg μ1 H1 ds vs) : ItS K mg (Itt K a) μ1 H1 (ds, none) := fun i μ s H f r g => by
  have hq := f.tup a vs hq
  have rv := rv.fw f
  refine ⟨fun h => ⟨vs, hq, ?_⟩, fun d h => ?_⟩
  · rw [← rv.length]
    exact List.getElem?_eq_none_iff.mp h
  · obtain ⟨v, h1, h2⟩ := rv.get h
    exact ⟨⟨vs, v, hq, h1⟩, fun x H' ⟨e, y⟩ => ⟨e, by
      have := y vs hq
      rw [h1] at this
      cases this
      exact h2⟩⟩
theorem itS_str {x : Str} {μ1 : List Addr} {H1 : Hp} : ItS K mg (Its x) μ1 H1 (x.cps.toList.map fun c => .str ⟨#[c]⟩, none) := fun i μ s H f r g => by
  refine ⟨fun h => ?_, fun d h => ?_⟩
  · have h : i ≥ _ := List.getElem?_eq_none_iff.mp h
    rw [List.length_map, Array.length_toList] at h
    exact h
  · have h : (x.cps.toList.map fun c => D.str ⟨#[c]⟩)[i]? = some d := h
    rw [List.getElem?_map] at h
    cases e : x.cps.toList[i]? with
    | none =>
      rw [e] at h
      cases h
    | some c =>
      rw [e] at h
      cases h
      have e' : x.cps[i]? = some c := by simpa using e
      refine ⟨(Array.getElem?_eq_some_iff.mp e').1, fun v H' ⟨e1, c', e2, e3⟩ => ⟨e1, ?_⟩⟩
      rw [e'] at e2
      cases e2
      rw [e3]
      exact .str _
end
section
variable {X : Cx} {E : XK} {pos : Pos} {e c : Expr} {m mc : M} {tg : Expr}
theorem sat_fw {α : Type} {K : PySem.W.Frag} {mg : Str → Option Value} {μ μ' : List Addr} {H H' : Hp} {r : R Walked} {P : It → Hp → Prop} (h : r.sat (fun w s' => ∀ (μ' : List Addr) (H' : Hp) (J : It), Fw K μ H μ' H' → Rel K mg μ' s' H' → Gd w.2 s' → ItS K mg J μ' H' w → P J H') (Ex K mg E μ H)) (f : Fw K μ H μ' H') :
    r.sat (fun w s' => ∀ (μ2 : List Addr) (H2 : Hp) (J : It), Fw K μ' H' μ2 H2 → Rel K mg μ2 s' H2 → Gd w.2 s' → ItS K mg J μ2 H2 w → P J H2) (Ex K mg E μ' H') := h.imp (fun _ _ k μ2 H2 J f2 => k μ2 H2 J (f.trans f2)) fun _ _ _ _ k => k.fw f
theorem i_seq (he : DE X E e m) : DI X E tg e (iSeq m) := PIto (pi_any he) fun σ H P ⟨ε, s, μ, hε, hr, h⟩ => by
  refine ⟨ε, s, μ, hε, hr, PO.seq h fun d s1 μ1 H1 v f1 r1 rv q => ?_⟩
  have q := sat_fw (α := Unit) (r := itemsK d s1) q f1
  cases rv with
  | @ref k a hk =>
    have q := (show (cellK k s1[k]? s1).sat _ _ from q)
    cases g : s1[k]? with
    | none =>
      rw [g] at q
      exact q.elim
    | some c =>
      cases c with
      | lst ds =>
        rw [g] at q
        obtain ⟨vs, hv, _⟩ := r1.cell k _ a g hk
        exact .inl ⟨a, rfl, ⟨vs, SqL.of hv⟩, q μ1 H1 _ Fw.refl r1 g (itS_list hk)⟩
      | dic kvs =>
        rw [g] at q
        exact q.elim
      | ins _ _ =>
        rw [g] at q
        exact q.elim
  | frl hq rs => exact .inl ⟨_, rfl, ⟨_, hq.seq⟩, q μ1 H1 _ Fw.refl r1 trivial (itS_frl hq rs)⟩
  | tup hq rs => exact .inr (.inl ⟨_, rfl, ⟨_, hq⟩, q μ1 H1 _ Fw.refl r1 trivial (itS_tup hq rs)⟩)
  | str x => exact .inr (.inr ⟨x, rfl, q μ1 H1 _ Fw.refl r1 trivial itS_str⟩)
  | _ => exact q.elim
end

/-! ### ranges, of any size -/
def rngL : Int → Nat → List D
  | _, 0 => []
  | lo, n + 1 => .int lo :: rngL (lo + 1) n
theorem rngL_get : ∀ (lo : Int) (n i : Nat), (rngL lo n)[i]? = if i < n then some (.int (lo + i)) else none
  | lo, 0, i => by simp [rngL]
  | lo, n + 1, 0 => by simp [rngL]
  | lo, n + 1, i + 1 => by
    show (rngL (lo + 1) n)[i]? = _
    rw [rngL_get (lo + 1) n i]
    by_cases h : i < n
    · rw [if_pos h, if_pos (by omega)]
      congr 2
      push_cast
      omega
    · rw [if_neg h, if_neg (by omega)]
theorem rngL_length : ∀ (lo : Int) (n : Nat), (rngL lo n).length = n
  | _, 0 => rfl
  | lo, n + 1 => by
    show (rngL (lo + 1) n).length + 1 = n + 1
    rw [rngL_length]
theorem itS_rng {K : PySem.W.Frag} {mg : Str → Option Value} {lo : Int} {n : Nat} {μ1 : List Addr} {H1 : Hp} : ItS K mg (Itr lo n) μ1 H1 (rngL lo n, none) := fun i μ s H f r g => by
  refine ⟨fun h => ?_, fun d h => ?_⟩
  · have h : i ≥ _ := List.getElem?_eq_none_iff.mp h
    rw [rngL_length] at h
    exact h
  · have h : (rngL lo n)[i]? = some d := h
    rw [rngL_get] at h
    by_cases hi : i < n
    · rw [if_pos hi] at h
      cases h
      exact ⟨hi, fun x H' ⟨e1, e2⟩ => ⟨e1, by rw [e2]; exact .int _⟩⟩
    · rw [if_neg hi] at h
      cases h
end Mi

namespace Mi
open PySem PySem.Spec PyProof.Rows L2

/-! ### range(n), range(a, b) of any size -/
theorem turn_long {P : Program} {w : World} {K : PySem.W.Frag} {tg : Expr} (it : Addr) (lo : Int) (n : Nat) : Turn P w K tg (Itr lo n) [it] it (fun i h => IsLongIter h it (lo + (i : Nat) * 1) ((n : Int) - (i : Nat)) 1) where
  mem := by simp
  obj := fun i h st b hb => by
    have e : b = it := by simpa using hb
    subst e
    exact ⟨_, st, fun v z => by
      have z' : Data.fields _ = Data.cell v := z
      cases z'⟩
  keep := fun i h h' st k => k it (by simp) _ st
  item := by
    intro X hP hw hK hc i pins s σ H E I hf st hg
    subst hP hw hK
    obtain ⟨f0, f1, f2, f3, f4, f5⟩ := hf it (by simp)
    have W := Walks.longrange (prog := X.prog) (w := X.w) (I.ok.hd hc) it lo 1 n
    refine W.item i s _ _ hg st fun v h' tk hv st' kk => ?_
    obtain ⟨t, rfl⟩ := hv
    have I1 : Inv X pins σ H { s with heap := h', toks := tk } := I.turned (fun b o hb e => kk b o (by simpa using hb) e) f0 f1 f3 f4 f5
    refine ⟨_, rfl, go_of (s := { s with heap := h', toks := tk }) (n := "longrange_iterator") st' rfl rfl (by decide) ⟨.int (lo + i), H, I1, ⟨t, ?_⟩, ⟨rfl, rfl⟩, st', fun b hb => (hf b hb).1⟩⟩
    rw [Int.mul_one]
  done := by
    intro X hP hw hK hc i pins s σ H E I hf st hg
    subst hP hw hK
    obtain ⟨f0, f1, f2, f3, f4, f5⟩ := hf it (by simp)
    exact wpAny_pyNext_long_end (I.ok.hd hc) st (by have : n ≤ i := hg; omega) fun h' eb => ⟨rfl, I.turned (t' := s.toks) (fun b o hb e => eb b o hb e) f0 f1 f3 f4 f5⟩
  self := fun _ _ _ _ _ st h => wpAny_pyIter_longiter st h
section
variable {X : Cx} {tg : Expr}
theorem range_any {pins : List (Addr × Obj)} {σ : L2.St} {H : Hp} {s : Shared} {R : It → Hp → Prop} {E : Value → Shared → Prop} {lo hi : Int} {t u v : Tok} {tk : Nat} (I : Inv X pins σ H s)
    (q : R (Itr lo (hi - lo).toNat) H) : wpAny (model X.prog X.w) X.A (pyIter (.ref s.heap.objs.size)) (PIE X pins σ tg R) E { s with heap := s.heap.push { cls := .type "range", data := .fields #[.int lo t, .int hi u, .int 1 v] }, toks := tk } := by
  have I1 : Inv X pins σ H { s with heap := s.heap.push { cls := .type "range", data := .fields #[.int lo t, .int hi u, .int 1 v] }, toks := tk } := I.kept fun b o e => Heap.get?_push_of_some _ e
  have e1 : lo + ((0 : Nat) : Int) * 1 = lo := by simp
  have e2 : (((hi - lo).toNat : Nat) : Int) - ((0 : Nat) : Int) = Builtin.Range.rangeSize lo hi 1 := by rw [rangeSize_one]; split <;> omega
  have fin : ∀ b ∈ [(s.heap.push { cls := .type "range", data := .fields #[.int lo t, .int hi u, .int 1 v] }).objs.size], FpOk X pins H b := fun b hb => by
    have e : b = (s.heap.push { cls := .type "range", data := .fields #[.int lo t, .int hi u, .int 1 v] }).objs.size := by simpa using hb
    subst e
    exact I1.fpOk (Nat.le_refl _) (I1.hok.fresh (Nat.le_refl _))
  cases hs : Builtin.Range.small lo hi 1 with
  | true =>
    refine wpAny_pyIter_range (IsRange.new ..) hs ?_
    refine ⟨(s.heap.push { cls := .type "range", data := .fields #[.int lo t, .int hi u, .int 1 v] }).objs.size, [(s.heap.push { cls := .type "range", data := .fields #[.int lo t, .int hi u, .int 1 v] }).objs.size], _, _, H, rfl,
      I1.kept (t' := tk) fun b o e => Heap.get?_push_of_some _ e, turn_range _ lo (hi - lo).toNat, ?_, fin, q⟩
    show IsRangeIter _ _ (lo + ((0 : Nat) : Int) * 1) ((((hi - lo).toNat : Nat) : Int) - ((0 : Nat) : Int)) 1
    rw [e1, e2]
    exact Heap.get?_push_size _ rfl
  | false =>
    refine wpAny_pyIter_longrange (IsRange.new ..) hs ?_
    refine ⟨(s.heap.push { cls := .type "range", data := .fields #[.int lo t, .int hi u, .int 1 v] }).objs.size, [(s.heap.push { cls := .type "range", data := .fields #[.int lo t, .int hi u, .int 1 v] }).objs.size], _, _, H, rfl,
      I1.kept (t' := tk) fun b o e => Heap.get?_push_of_some _ e, turn_long _ lo (hi - lo).toNat, ?_, fin, q⟩
    show IsLongIter _ _ (lo + ((0 : Nat) : Int) * 1) ((((hi - lo).toNat : Nat) : Int) - ((0 : Nat) : Int)) 1
    rw [e1, e2]
    exact Heap.get?_push_size _ rfl
def iR1 (ta : TA) : TI := fun σ H R => ta σ H fun vs H1 => ∃ j : Int, vs = [.int j] ∧ R (Itr 0 j.toNat) H1
def iR2 (ta : TA) : TI := fun σ H R => ta σ H fun vs H1 => ∃ i j : Int, vs = [.int i, .int j] ∧ R (Itr i (j - i).toNat) H1
theorem pi_r1 {a : Expr} {ta : TA} {p pos : Pos} (hg : Gl X "range") (hm : X.mg "range" = none) (ha : PA X [a] ta) (hs : starEach [a] X.env = [(false, eval a X.env)] := by rfl) : PI X tg (.Call (.Name "range" p) [a] [] pos) (iR1 ta) := by
  refine ⟨fun pins s σ H R I h => ?_⟩
  refine Call_ (ld_blt I hg hm boot_range (PyProof.Rows.callWith_type1 (thn (ha.run pos pins s σ H _ I h) fun us s1 ⟨vs, H1, I1, r1, q1⟩ => ?_) hs rfl))
  obtain ⟨j, e, q⟩ := q1
  subst e
  cases r1 with
  | cons r rr =>
    cases rr
    obtain ⟨t, rfl⟩ := r
    exact call_range_1 (range_any I1 (by simpa using q))
theorem pi_r2 {a b : Expr} {ta : TA} {p pos : Pos} (hg : Gl X "range") (hm : X.mg "range" = none) (ha : PA X [a, b] ta) (hs : starEach [a, b] X.env = [(false, eval a X.env), (false, eval b X.env)] := by rfl) (hs2 : starEach [b] X.env = [(false, eval b X.env)] := by rfl) :
    PI X tg (.Call (.Name "range" p) [a, b] [] pos) (iR2 ta) := by
  refine ⟨fun pins s σ H R I h => ?_⟩
  refine Call_ (ld_blt I hg hm boot_range (PyProof.Rows.callWith_type1 (thn (ha.run pos pins s σ H _ I h) fun us s1 ⟨vs, H1, I1, r1, q1⟩ => ?_) (by rw [hs, hs2]) (by rw [hs2]; rfl)))
  obtain ⟨i, j, e, q⟩ := q1
  subst e
  cases r1 with
  | cons r rr =>
    cases rr with
    | cons r' rr =>
      cases rr
      obtain ⟨t, rfl⟩ := r
      obtain ⟨t', rfl⟩ := r'
      exact call_range_2 (range_any I1 q)
def rngK1 : List D → S → R Walked
  | [.int j], s => .ok (rngL 0 j.toNat, none) s
  | _, _ => .bad
def rngK2 : List D → S → R Walked
  | [.int i, .int j], s => .ok (rngL i (j - i).toNat, none) s
  | _, _ => .bad
def iRng1 (ms : Ev → S → R (List D)) : Ev → S → R Walked := fun ε s => (ms ε s).bind rngK1
def iRng2 (ms : Ev → S → R (List D)) : Ev → S → R Walked := fun ε s => (ms ε s).bind rngK2
variable {E : XK} {pos : Pos} {ms : Ev → S → R (List D)}
theorem i_rng1 {a : Expr} {p pos : Pos} (hm : X.mg "range" = none) (ha : DA X E [a] ms) (hg : Gl X "range" := by rfl) (hs : starEach [a] X.env = [(false, eval a X.env)] := by rfl) : DI X E tg (.Call (.Name "range" p) [a] [] pos) (iRng1 ms) :=
  PIto (pi_r1 hg hm ha hs) fun σ H P ⟨ε, s, μ, hε, hr, h⟩ => by
  refine ⟨ε, s, μ, hε, hr, PL.seq h fun ds s1 μ1 H1 vs f1 r1 rvs q => ?_⟩
  have q := sat_fw (α := Unit) (r := rngK1 ds s1) q f1
  cases rvs with
  | nil => exact q.elim
  | cons r rs =>
    cases rs with
    | nil =>
      cases r with
      | int j => exact ⟨j, rfl, q μ1 H1 _ Fw.refl r1 trivial itS_rng⟩
      | _ => exact q.elim
    | cons _ _ => cases r <;> exact q.elim
theorem i_rng2 {a b : Expr} {p pos : Pos} (hm : X.mg "range" = none) (ha : DA X E [a, b] ms) (hg : Gl X "range" := by rfl) (hs : starEach [a, b] X.env = [(false, eval a X.env), (false, eval b X.env)] := by rfl) (hs2 : starEach [b] X.env = [(false, eval b X.env)] := by rfl) : DI X E tg (.Call (.Name "range" p) [a, b] [] pos) (iRng2 ms) :=
  PIto (pi_r2 hg hm ha hs hs2) fun σ H P ⟨ε, s, μ, hε, hr, h⟩ => by
  refine ⟨ε, s, μ, hε, hr, PL.seq h fun ds s1 μ1 H1 vs f1 r1 rvs q => ?_⟩
  have q := sat_fw (α := Unit) (r := rngK2 ds s1) q f1
  cases rvs with
  | nil => exact q.elim
  | cons r rs =>
    cases rs with
    | nil => cases r <;> exact q.elim
    | cons r' rs' =>
      cases rs' with
      | nil =>
        cases r with
        | int i =>
          cases r' with
          | int j => exact ⟨i, j, rfl, q μ1 H1 _ Fw.refl r1 trivial itS_rng⟩
          | _ => exact q.elim
        | _ => exact q.elim
      | cons _ _ => cases r <;> first | exact q.elim | (cases r' <;> exact q.elim)

/-! ### targets -/
abbrev Tg := D → Ev → Option Ev
def tG (K : PySem.W.Frag) (mg : Str → Option Value) (t : Tg) : TG := fun v σ H Q => ∃ (d : D) (ε : Ev) (s : S) (μ : List Addr), RV K mg μ H d v ∧ REnv K mg μ H ε σ ∧ Rel K mg μ s H ∧ ∃ ε', t d ε = some ε' ∧ ∀ σ', REnv K mg μ H ε' σ' → Q σ' H
abbrev DG (X : Cx) (e : Expr) (t : Tg) : Prop := PG X e (tG X.K X.mg t)
theorem PGto {X : Cx} {e : Expr} {t t' : TG} (h : PG X e t) (k : ∀ v σ H Q, t' v σ H Q → t v σ H Q) : PG X e t' := ⟨fun pins s σ H v u Q I r hw => h.run pins s σ H v u Q I r (k v σ H Q hw)⟩
def gN (i : Nat) : Tg := fun d ε => some (ε.set i (some d))
theorem g_name (i : Nat) {x : Str} (hN : X.N.Nodup) (hi : X.N[i]? = some x := by rfl) (hx : Loc X.env.scope x := by first | exact Or.inl rfl | exact Or.inr rfl) (hf : X.fn x = true ∨ X.env.scope.names.lookup x = some .local := by first | exact .inl rfl | exact .inr rfl) : DG X (.Name x pos) (gN i) :=
  PGto (pg_name hN hi hx hf) fun v σ H Q ⟨d, ε, s, μ, rv, he, hr, ε', e1, k⟩ => by
  cases e1
  exact k _ (he.set i rv)
/-- (a, b, ..) = a tuple: the targets one after another -/
abbrev Tgs := List D → Ev → Option Ev
def gsNil : Tgs := fun ds ε => match ds with
  | [] => some ε
  | _ => none
def gsCons (t : Tg) (u : Tgs) : Tgs := fun ds ε => match ds with
  | d :: r => (t d ε).bind (u r)
  | [] => none
def tGs (K : PySem.W.Frag) (mg : Str → Option Value) (t : Tgs) : TGs := fun vs σ H Q => ∃ (ds : List D) (ε : Ev) (s : S) (μ : List Addr), RVs K mg μ H ds vs ∧ REnv K mg μ H ε σ ∧ Rel K mg μ s H ∧ ∃ ε', t ds ε = some ε' ∧ ∀ σ', REnv K mg μ H ε' σ' → Q σ' H
abbrev DGs (X : Cx) (es : List Expr) (t : Tgs) : Prop := PGs X es (tGs X.K X.mg t)
theorem PGsto {X : Cx} {e : List Expr} {t t' : TGs} (h : PGs X e t) (k : ∀ v σ H Q, t' v σ H Q → t v σ H Q) : PGs X e t' := ⟨fun pins s σ H v u Q I r hw => h.run pins s σ H v u Q I r (k v σ H Q hw)⟩
theorem gs_nil : DGs X [] gsNil := PGsto pgs_nil fun vs σ H Q ⟨ds, ε, s, μ, rv, he, hr, ε', e1, k⟩ => by
  cases rv with
  | nil =>
    cases e1
    exact ⟨rfl, k _ he⟩
  | cons _ _ => cases e1
theorem gs_cons {e : Expr} {es : List Expr} {t : Tg} {u : Tgs} (h1 : DG X e t) (h2 : DGs X es u) (hs : (assignEach (e :: es) X.env).map (·.2) = assign e X.env :: (assignEach es X.env).map (·.2) := by rfl) : DGs X (e :: es) (gsCons t u) :=
  PGsto (pgs_cons h1 h2 hs) fun vs σ H Q ⟨ds, ε, s, μ, rv, he, hr, ε', e1, k⟩ => by
  cases rv with
  | nil => cases e1
  | @cons d v ds vs r rs =>
    have e1 : (t d ε).bind (u ds) = some ε' := e1
    cases q : t d ε with
    | none =>
      rw [q] at e1
      cases e1
    | some ε1 =>
      rw [q] at e1
      exact ⟨v, vs, rfl, d, ε, s, μ, r, he, hr, ε1, q, fun σ1 he1 => ⟨ds, ε1, s, μ, rs, he1, hr, ε', e1, k⟩⟩
def gTp (n : Nat) (u : Tgs) : Tg := fun d ε => match d with
  | .tup ds => if ds.length = n then u ds ε else none
  | _ => none
theorem g_tup {es : List Expr} {k n : Nat} {u : Tgs} (hc : X.calm = true) (h : DGs X es u) (hn : (assignEach es X.env).length = n := by rfl) (hst : (assignEach es X.env).findIdx? (·.1) = none := by rfl) : DG X (.Tuple es k pos) (gTp n u) :=
  PGto (pg_tup hc h hn hst) fun v σ H Q ⟨d, ε, s, μ, rv, he, hr, ε', e1, kk⟩ => by
  cases rv with
  | @tup ds p vs hq rs =>
    have e1 : (if ds.length = n then u ds ε else none) = some ε' := e1
    by_cases hl : ds.length = n
    · rw [if_pos hl] at e1
      exact ⟨p, vs, rfl, hq, by rw [← rs.length]; exact hl, ds, ε, s, μ, rs, he, hr, ε', e1, kk⟩
    · rw [if_neg hl] at e1
      cases e1
  | _ => cases e1
/-- target = value, any target of these -/
def sTg (m : M) (t : Tg) : B := fun ε s => (m ε s).to fun d s1 => match t d ε with
  | some ε' => .nx ε' s1
  | none => .bad
theorem s_tg {tg e : Expr} {m : M} {t : Tg} (he : DE X E e m) (hg : DG X tg t) (hs : swapsWithSole [tg] e pos.line X.env = pure false := by rfl) (hw : swappedStores [tg] e X.env = pure none := by rfl)
    (h1 : (assignEach [tg] X.env).map (·.2) = [assign tg X.env] := by rfl) : DS X E (.Assign [tg] e pos) (sTg m t) := PSto (ps_asg he hg hs hw h1) fun D σ H ⟨ε, s, μ, hε, hr, h⟩ =>
  ⟨ε, s, μ, hε, hr, SO.to (r := m ε s) h fun d s1 μ1 H1 v f1 r1 rv q => by
    cases e1 : t d ε with
    | none =>
      rw [e1] at q
      exact q.elim
    | some ε' =>
      rw [e1] at q
      exact ⟨d, ε, s1, μ1, rv, hε.fw f1, r1, ε', e1, fun σ' h' => q μ1 H1 σ' Fw.refl r1 h'⟩⟩

/-! ### for -/
open Classical in
noncomputable def loop (g : Option (Nat × C)) (t : Tg) (b : B) : List D → B
  | [], ε, s => if Gd g s then .nx ε s else .bad
  | d :: ds, ε, s => if Gd g s then (match t d ε with
      | none => .bad
      | some ε1 => match b ε1 s with
        | .nx ε2 s2 => loop g t b ds ε2 s2
        | .ct ε2 s2 => loop g t b ds ε2 s2
        | .bk ε2 s2 => .nx ε2 s2
        | .rt d s2 => .rt d s2
        | .ex c f d s2 => .ex c f d s2
        | .bad => .bad) else .bad
noncomputable def sFor (mi : Ev → S → R Walked) (t : Tg) (b : B) : B := fun ε s => (mi ε s).to fun w s1 => loop w.2 t b w.1 ε s1
theorem SO.ite {K : PySem.W.Frag} {mg : Str → Option Value} {μ : List Addr} {H : Hp} {D : Ends} {c : Prop} [Decidable c] {o : O} (h : SO K mg E μ H (if c then o else .bad) D) : c ∧ SO K mg E μ H o D := by
  by_cases q : c
  · rw [if_pos q] at h
    exact ⟨q, h⟩
  · rw [if_neg q] at h
    exact h.elim
open Classical in
theorem s_for {tg iter : Expr} {body : List Stmt} {mi : Ev → S → R Walked} {t : Tg} {b : B} (hp : PassesOwn (model X.prog X.w) X.A X.env X.xe) (hc : X.calm = true) (hi : DI X E tg iter mi) (hg : DG X tg t) (hb : DB X E body b)
    (hs : ∀ x, foldedSetIterable iter X.env x = pure x := by intro _; rfl) : DS X E (.For tg iter body [] pos) (sFor mi t b) := PSto (ps_for hp hc hi hg hb hs) fun D σ H ⟨ε, s, μ, hε, hr, h⟩ => by
  refine ⟨ε, s, μ, hε, hr, ?_⟩
  have h : SO X.K X.mg E μ H ((mi ε s).to fun w s1 => loop w.2 t b w.1 ε s1) D := h
  cases q : mi ε s with
  | exc c f d s1 =>
    rw [q] at h
    exact h
  | bad =>
    rw [q] at h
    exact h.elim
  | ok w s1 =>
    rw [q] at h
    intro μ1 H1 J f1 r1 g1 hJ
    have h1 : SO X.K X.mg E μ1 H1 (loop w.2 t b w.1 ε s1) D := SO.fw (o := loop w.2 t b w.1 ε s1) h f1
    refine ⟨fun i m σ H => m = w.1.length - i ∧ i ≤ w.1.length ∧ ∃ ε s μ, Fw X.K μ1 H1 μ H ∧ REnv X.K X.mg μ H ε σ ∧ Rel X.K X.mg μ s H ∧ SO X.K X.mg E μ H (loop w.2 t b (w.1.drop i) ε s) D, ⟨w.1.length, by simp, Nat.zero_le _, ε, s1, μ1, Fw.refl, hε.fw f1, r1, h1⟩, ?_⟩
    rintro i m σ2 H2 ⟨rfl, hi, ε2, s2, μ2, f2, e2, r2, h2⟩
    by_cases hlt : i < w.1.length
    · have ed : w.1.drop i = w.1[i] :: w.1.drop (i + 1) := List.drop_eq_getElem_cons hlt
      rw [ed] at h2
      obtain ⟨hg2, h2⟩ := SO.ite h2
      have it := (hJ i μ2 s2 H2 f2 r2 hg2).2 w.1[i] (List.getElem?_eq_getElem hlt)
      refine .inr ⟨it.1, fun σ' H' => ∃ m', m' < w.1.length - i ∧ m' = w.1.length - (i + 1) ∧ i + 1 ≤ w.1.length ∧ ∃ ε s μ, Fw X.K μ1 H1 μ H' ∧ REnv X.K X.mg μ H' ε σ' ∧ Rel X.K X.mg μ s H' ∧ SO X.K X.mg E μ H' (loop w.2 t b (w.1.drop (i + 1)) ε s) D, fun σ' H' ⟨m', a, c⟩ => ⟨m', a, c⟩, fun x H' y => ?_⟩
      obtain ⟨rfl, rx⟩ := it.2 x H' y
      cases e1 : t w.1[i] ε2 with
      | none =>
        rw [e1] at h2
        exact h2.elim
      | some ε3 =>
        rw [e1] at h2
        refine ⟨w.1[i], ε2, s2, μ2, rx, e2, r2, ε3, e1, fun σ3 e3 => ⟨ε3, s2, μ2, e3, r2, ?_⟩⟩
        have h3 := h2
        have again : ∀ {ε' : Ev} {s' : S}, SO X.K X.mg E μ2 H' (loop w.2 t b (w.1.drop (i + 1)) ε' s') D → ∀ (μ' : List Addr) (H'' : Hp) (σ' : L2.St), Fw X.K μ2 H' μ' H'' → Rel X.K X.mg μ' s' H'' → REnv X.K X.mg μ' H'' ε' σ' →
            ∃ m', m' < w.1.length - i ∧ m' = w.1.length - (i + 1) ∧ i + 1 ≤ w.1.length ∧ ∃ ε s μ, Fw X.K μ1 H1 μ H'' ∧ REnv X.K X.mg μ H'' ε σ' ∧ Rel X.K X.mg μ s H'' ∧ SO X.K X.mg E μ H'' (loop w.2 t b (w.1.drop (i + 1)) ε s) D :=
          fun {ε' s'} hh μ' H'' σ' f r e => ⟨_, by omega, rfl, hlt, ε', s', μ', f2.trans f, e, r, SO.fw (o := loop w.2 t b (w.1.drop (i + 1)) ε' s') hh f⟩
        cases e4 : b ε3 s2 with
        | nx ε4 s4 =>
          simp only [e4] at h3
          exact again h3
        | ct ε4 s4 =>
          simp only [e4] at h3
          exact again h3
        | bk ε4 s4 =>
          simp only [e4] at h3
          exact h3
        | rt d s4 =>
          simp only [e4] at h3
          exact h3
        | ex c f d s4 =>
          simp only [e4] at h3
          exact h3
        | bad =>
          simp only [e4] at h3
          exact h3.elim
    · have e : i = w.1.length := by omega
      subst e
      rw [List.drop_length] at h2
      obtain ⟨hg2, h2⟩ := SO.ite h2
      exact .inl ⟨(hJ _ μ2 s2 H2 f2 r2 hg2).1 (List.getElem?_eq_none (Nat.le_refl _)), h2 μ2 H2 σ2 Fw.refl r2 e2⟩

/-! ### while, so many turns at most -/
def whileK (c : M) (b : B) : Nat → B
  | 0, _, _ => .bad
  | n + 1, ε, s => (c ε s).to fun x s1 => match x with
    | .bl true => (match b ε s1 with
      | .nx ε2 s2 => whileK c b n ε2 s2
      | .ct ε2 s2 => whileK c b n ε2 s2
      | .bk ε2 s2 => .nx ε2 s2
      | .rt d s2 => .rt d s2
      | .ex c f d s2 => .ex c f d s2
      | .bad => .bad)
    | .bl false => .nx ε s1
    | _ => .bad
theorem s_while (n : Nat) {c : Expr} {body : List Stmt} {m : M} {b : B} (hp : PassesOwn (model X.prog X.w) X.A X.env X.xe) (hc : DT X E c m) (hb : DB X E body b) : DS X E (.While c body [] pos) (whileK m b n) := PSto (ps_while hp hc hb) fun D σ H ⟨ε, s, μ, hε, hr, h⟩ => by
  refine ⟨fun n σ H => ∃ ε s μ, REnv X.K X.mg μ H ε σ ∧ Rel X.K X.mg μ s H ∧ SO X.K X.mg E μ H (whileK m b n ε s) D, ⟨n, ε, s, μ, hε, hr, h⟩, ?_⟩
  rintro n σ1 H1 ⟨ε1, s1, μ1, e1, r1, h1⟩
  cases n with
  | zero => exact h1.elim
  | succ n =>
    refine ⟨ε1, s1, μ1, e1, r1, SO.toB (r := m ε1 s1) h1 (fun d s2 q => ?_) fun k s2 μ2 H2 f2 r2 q => ?_⟩
    · cases d with
      | bl k => exact ⟨k, rfl⟩
      | _ => exact q.elim
    · cases k with
      | false =>
        rw [if_neg Bool.false_ne_true]
        exact q μ2 H2 σ1 Fw.refl r2 (e1.fw f2)
      | true =>
        rw [if_pos rfl]
        refine ⟨fun σ' H' => ∃ ε s μ, REnv X.K X.mg μ H' ε σ' ∧ Rel X.K X.mg μ s H' ∧ SO X.K X.mg E μ H' (whileK m b n ε s) D, fun σ' H' z => ⟨n, Nat.lt_succ_self n, z⟩, ε1, s2, μ2, e1.fw f2, r2, ?_⟩
        have again : ∀ {ε' : Ev} {s' : S}, SO X.K X.mg E μ2 H2 (whileK m b n ε' s') D → ∀ (μ' : List Addr) (H'' : Hp) (σ' : L2.St), Fw X.K μ2 H2 μ' H'' → Rel X.K X.mg μ' s' H'' → REnv X.K X.mg μ' H'' ε' σ' →
            ∃ ε s μ, REnv X.K X.mg μ H'' ε σ' ∧ Rel X.K X.mg μ s H'' ∧ SO X.K X.mg E μ H'' (whileK m b n ε s) D := fun {ε' s'} hh μ' H'' σ' f r e => ⟨ε', s', μ', e, r, SO.fw (o := whileK m b n ε' s') hh f⟩
        have h3 := q
        cases e4 : b ε1 s2 with
        | nx ε4 s4 =>
          simp only [e4] at h3
          exact again h3
        | ct ε4 s4 =>
          simp only [e4] at h3
          exact again h3
        | bk ε4 s4 =>
          simp only [e4] at h3
          exact h3
        | rt d s4 =>
          simp only [e4] at h3
          exact h3
        | ex c f d s4 =>
          simp only [e4] at h3
          exact h3
        | bad =>
          simp only [e4] at h3
          exact h3.elim
end
end Mi

namespace Mi
open PySem PySem.Spec PyProof.Rows L2

/-! ### [e for x in ..], [e for x in .. if c]: x in slot i -/
def yesM : M := fun _ s => .ok (.bl true) s
open Classical in
noncomputable def lcL (g : Option (Nat × C)) (i : Nat) (c m : M) (ε : Ev) : List D → List D → S → R (List D)
  | [], acc, s => if Gd g s then .ok acc s else .bad
  | d :: ds, acc, s => if Gd g s then (match c ((ε.set i none).set i (some d)) s with
      | .ok (.bl true) s1 => (match m ((ε.set i none).set i (some d)) s1 with
        | .ok y s2 => if acc.length < sizeLine then lcL g i c m ε ds (acc ++ [y]) s2 else .bad
        | _ => .bad)
      | .ok (.bl false) s1 => lcL g i c m ε ds acc s1
      | _ => .bad) else .bad
noncomputable def mLc (mi : Ev → S → R Walked) (i : Nat) (c m : M) : M := fun ε s => (mi ε s).bind fun w s1 => (lcL w.2 i c m ε w.1 [] s1).bind fun ys s2 => .ok (.ref s2.length) (s2 ++ [C.lst ys])
theorem sat_ite {α : Type} {c : Prop} [Decidable c] {r : R α} {ok : α → S → Prop} {ex : Str → Str → D → S → Prop} (h : (if c then r else .bad).sat ok ex) : c ∧ r.sat ok ex := by
  by_cases q : c
  · rw [if_pos q] at h
    exact ⟨q, h⟩
  · rw [if_neg q] at h
    exact h.elim
open Classical in
theorem lcL_exc (g : Option (Nat × C)) (i : Nat) (c m : M) (ε : Ev) : ∀ (ds acc : List D) (s : S) (c' f' : Str) (d' : D) (s' : S), lcL g i c m ε ds acc s ≠ .exc c' f' d' s'
  | [], acc, s, c', f', d', s', h => by
    unfold lcL at h
    split at h <;> cases h
  | d :: ds, acc, s, c', f', d', s', h => by
    unfold lcL at h
    split at h
    · split at h
      · split at h
        · split at h
          · exact lcL_exc g i c m ε ds _ _ _ _ _ _ h
          · cases h
        · cases h
      · exact lcL_exc g i c m ε ds _ _ _ _ _ _ h
      · cases h
    · cases h
section
variable {X : Cx} {E : XK} {pos : Pos}
theorem wipe_set (σ : L2.St) (i : Nat) (v : Option V) : wipe ((wipe σ [i]).set i v) [i] = wipe σ [i] := by
  show ((σ.set i none).set i v).set i none = σ.set i none
  rw [List.set_set, List.set_set]
open Classical in
theorem lc_all {K : PySem.W.Frag} {mg : Str → Option Value} {mi : Ev → S → R Walked} {i : Nat} {c m : M} {tt : TT} (htt : ∀ σ H Q, tT K mg E0 c σ H Q → tt σ H Q) {σ : L2.St} {H : Hp} {Q : VK} (h : tM K mg E (mLc mi i c m) σ H Q) : tLc (tI K mg E mi) (gName i) tt (tM K mg E0 m) [i] σ H Q := by
  obtain ⟨ε, s, μ, hε, hr, h⟩ := h
  refine ⟨ε, s, μ, hε, hr, h.bind.imp (fun w s1 q => ?_) fun _ _ _ _ k => k⟩
  intro μ1 H1 J f1 r1 g1 hJ Dl hD
  have f2 : Fw K μ1 H1 μ1 (upd H1 Dl (.lst [])) := Fw.new0 hD
  have nD : Dl ∉ μ1 := r1.notC hD
  have q1 : (lcL w.2 i c m ε w.1 [] s1).sat (fun ys s2 => PO K mg E μ1 H1 (.ok (.ref s2.length) (s2 ++ [C.lst ys])) Q) (fun _ _ _ _ => False) := by
    have q0 : ((lcL w.2 i c m ε w.1 [] s1).bind fun ys s2 => R.ok (D.ref s2.length) (s2 ++ [C.lst ys])).sat _ _ := q
    cases e : lcL w.2 i c m ε w.1 [] s1 with
    | ok ys s2 =>
      rw [e] at q0
      exact PO.fw (r := .ok (.ref s2.length) (s2 ++ [C.lst ys])) q0 f1
    | exc c' f' d' s2 => exact absurd e (lcL_exc _ _ _ _ _ _ _ _ _ _ _ _)
    | bad =>
      rw [e] at q0
      exact q0.elim
  refine ⟨fun j n H => n = w.1.length - j ∧ j ≤ w.1.length ∧ ∃ s μ acc vacc, Fw K μ1 H1 μ H ∧ Rel K mg μ s H ∧ Dl ∉ μ ∧ H Dl = some (.lst vacc) ∧ RVs K mg μ H acc vacc ∧ (lcL w.2 i c m ε (w.1.drop j) acc s).sat (fun ys s2 => PO K mg E μ1 H1 (.ok (.ref s2.length) (s2 ++ [C.lst ys])) Q) (fun _ _ _ _ => False),
    ⟨w.1.length, by simp, Nat.zero_le _, s1, μ1, [], [], f2, r1.new0 hD, nD, upd_same, .nil, q1⟩, ?_⟩
  rintro j n H2 ⟨rfl, hj, s2, μ2, acc, vacc, g2, r2, n2, hd2, ra, q2⟩
  have hε2 : REnv K mg μ2 H2 ε σ := (hε.fw f1).fw g2
  by_cases hlt : j < w.1.length
  · have ed : w.1.drop j = w.1[j] :: w.1.drop (j + 1) := List.drop_eq_getElem_cons hlt
    rw [ed] at q2
    obtain ⟨hg2, q2⟩ := sat_ite q2
    have it := (hJ j μ2 s2 H2 g2 r2 hg2).2 w.1[j] (List.getElem?_eq_getElem hlt)
    refine .inr ⟨it.1, fun H' => ∃ m', m' < w.1.length - j ∧ m' = w.1.length - (j + 1) ∧ j + 1 ≤ w.1.length ∧ ∃ s μ acc vacc, Fw K μ1 H1 μ H' ∧ Rel K mg μ s H' ∧ Dl ∉ μ ∧ H' Dl = some (.lst vacc) ∧ RVs K mg μ H' acc vacc ∧ (lcL w.2 i c m ε (w.1.drop (j + 1)) acc s).sat (fun ys s2 => PO K mg E μ1 H1 (.ok (.ref s2.length) (s2 ++ [C.lst ys])) Q) (fun _ _ _ _ => False), fun H' ⟨m', a, z⟩ => ⟨m', a, z⟩, fun x H' y => ?_⟩
    obtain ⟨rfl, rx⟩ := it.2 x H' y
    refine ⟨wipe_set σ i _, htt _ _ _ ?_⟩
    have he3 : REnv K mg μ2 H' ((ε.set i none).set i (some w.1[j])) ((wipe σ [i]).set i (some x)) := (hε2.forget i none).set i rx
    refine ⟨_, s2, μ2, he3, r2, ?_⟩
    cases ec : c ((ε.set i none).set i (some w.1[j])) s2 with
    | exc _ _ _ _ =>
      rw [ec] at q2
      exact q2.elim
    | bad =>
      rw [ec] at q2
      exact q2.elim
    | ok d s3 =>
      rw [ec] at q2
      cases d with
      | bl b =>
        refine ⟨b, rfl, fun μ3 H3 f3 r3 => ?_⟩
        obtain ⟨hd3, n3⟩ := f3.keep Dl _ hd2 n2
        cases b with
        | false =>
          rw [if_neg Bool.false_ne_true]
          exact ⟨_, by omega, rfl, hlt, s3, μ3, acc, vacc, g2.trans f3, r3, n3, hd3, ra.fw f3, q2⟩
        | true =>
          rw [if_pos rfl]
          refine ⟨_, s3, μ3, he3.fw f3, r3, ?_⟩
          have q3 : (match m ((ε.set i none).set i (some w.1[j])) s3 with
            | .ok y s2 => if acc.length < sizeLine then lcL w.2 i c m ε (w.1.drop (j + 1)) (acc ++ [y]) s2 else .bad
            | _ => .bad).sat (fun ys s2 => PO K mg E μ1 H1 (.ok (.ref s2.length) (s2 ++ [C.lst ys])) Q) (fun _ _ _ _ => False) := q2
          cases em : m ((ε.set i none).set i (some w.1[j])) s3 with
          | exc _ _ _ _ =>
            rw [em] at q3
            exact q3.elim
          | bad =>
            rw [em] at q3
            exact q3.elim
          | ok y s4 =>
            rw [em] at q3
            obtain ⟨hz, q4⟩ := sat_ite q3
            intro μ4 H4 v f4 r4 rv
            obtain ⟨hd4, n4⟩ := f4.keep Dl _ hd3 n3
            have ra4 := (ra.fw f3).fw f4
            refine ⟨vacc, hd4, by rw [← ra4.length]; exact hz, _, by omega, rfl, hlt, s4, μ4, acc ++ [y], vacc ++ [v], ((g2.trans f3).trans f4).off hD hd4, r4.off hd4 n4, n4, upd_same, ?_, q4⟩
            exact (ra4.append (.cons rv .nil)).mono (fun _ _ h => h) (fun _ _ h => sqT_wr hd4 h) (fun _ _ h => h.wr hd4) (xd_wr hd4)
      | _ => exact q2.elim
  · have e : j = w.1.length := by omega
    subst e
    rw [List.drop_length] at q2
    obtain ⟨hg2, q2⟩ := sat_ite q2
    refine .inl ⟨(hJ _ μ2 s2 H2 g2 r2 hg2).1 (List.getElem?_eq_none (Nat.le_refl _)), ?_⟩
    exact q2 (μ2 ++ [Dl]) H2 (.ref Dl) (g2.adopt hD) (r2.adopt hd2 n2 ra) (.ref (by rw [List.getElem?_append_right (by rw [r2.len]; exact Nat.le_refl _), r2.len, Nat.sub_self] <;> rfl))
/-- as a value; as the value of a name -/
theorem d_lc {elt iter : Expr} {scope : Scope} {x : Str} {px : Pos} {i : Nat} {mi : Ev → S → R Walked} {m : M} (hc : X.calm = true) (hN : X.N.Nodup) (hi : DI X E (.Name x px) iter mi) (ok : blkC X.N X.env.scope scope [(x, i)] = true)
    (hg : ∀ (s : Shared) (H : Hp) (C : Addr) (cl : List (Str × Addr)) (fp : List Addr), PG (X.blk s H scope (compEnvC scope cl C X.env) fp) (.Name x px) (gName i))
    (he : ∀ (s : Shared) (H : Hp) (C : Addr) (cl : List (Str × Addr)) (fp : List Addr), DE (X.blk s H scope (compEnvC scope cl C X.env) fp) E0 elt m) (hs : ∀ x, foldedSetIterable iter X.env x = pure x := by intro _; rfl) :
    DE X E (.ListComp elt [⟨.Name x px, iter, [], 0⟩] scope pos) (mLc mi i yesM m) :=
  PEto (pe_lc (own := [(x, i)]) hc hN hi (blkOk_by ok) hg (fun _ _ _ _ _ => pts_nil) he hs) fun σ H Q h => lc_all (tt := tYes) (fun σ H Q ⟨ε, s, μ, _, hr, k⟩ => by
    obtain ⟨b, e, k⟩ := (show PB X.K X.mg E0 μ H (.ok (.bl true) s) Q from k)
    cases e
    exact k μ H Fw.refl hr) h
theorem d_lcIf {elt c iter : Expr} {scope : Scope} {x : Str} {px : Pos} {i : Nat} {mi : Ev → S → R Walked} {m mc : M} (hc : X.calm = true) (hN : X.N.Nodup) (hi : DI X E (.Name x px) iter mi) (ok : blkC X.N X.env.scope scope [(x, i)] = true)
    (hg : ∀ (s : Shared) (H : Hp) (C : Addr) (cl : List (Str × Addr)) (fp : List Addr), PG (X.blk s H scope (compEnvC scope cl C X.env) fp) (.Name x px) (gName i))
    (ht : ∀ (s : Shared) (H : Hp) (C : Addr) (cl : List (Str × Addr)) (fp : List Addr), DT (X.blk s H scope (compEnvC scope cl C X.env) fp) E0 c mc)
    (he : ∀ (s : Shared) (H : Hp) (C : Addr) (cl : List (Str × Addr)) (fp : List Addr), DE (X.blk s H scope (compEnvC scope cl C X.env) fp) E0 elt m) (hs : ∀ x, foldedSetIterable iter X.env x = pure x := by intro _; rfl) :
    DE X E (.ListComp elt [⟨.Name x px, iter, [c], 0⟩] scope pos) (mLc mi i mc m) :=
  PEto (pe_lc (own := [(x, i)]) hc hN hi (blkOk_by ok) hg (fun s H C cl fp => pts_one (ht s H C cl fp)) he hs) fun σ H Q h => lc_all (fun σ H Q k => k) h
theorem s_lc {elt iter : Expr} {scope : Scope} {x y : Str} {px py spos : Pos} {i j : Nat} {mi : Ev → S → R Walked} {m : M} (hc : X.calm = true) (hN : X.N.Nodup) (hi : DI X E (.Name x px) iter mi) (ok : blkC X.N X.env.scope scope [(x, i)] = true)
    (hg : ∀ (s : Shared) (H : Hp) (C : Addr) (cl : List (Str × Addr)) (fp : List Addr), PG (X.blk s H scope (compEnvC scope cl C X.env) fp) (.Name x px) (gName i))
    (he : ∀ (s : Shared) (H : Hp) (C : Addr) (cl : List (Str × Addr)) (fp : List Addr), DE (X.blk s H scope (compEnvC scope cl C X.env) fp) E0 elt m) (hy : X.N[j]? = some y) (hyl : X.env.scope.names.lookup y = some .local)
    (hsw : swapsWith (.ListComp elt [⟨.Name x px, iter, [], 0⟩] scope pos) (some (.Name y py)) spos.line X.env = pure true) (hs : ∀ x, foldedSetIterable iter X.env x = pure x := by intro _; rfl) :
    DS X E (.Assign [.Name y py] (.ListComp elt [⟨.Name x px, iter, [], 0⟩] scope pos) spos) (sSet j (mLc mi i yesM m)) :=
  PSto (ps_setLc (own := [(x, i)]) hc hN hy hyl hsw hi (blkOk_by ok) hg (fun _ _ _ _ _ => pts_nil) he hs) fun D σ H ⟨ε, s, μ, hε, hr, h⟩ => by
  refine lc_all (tt := tYes) (E := E) (c := yesM) (m := m) (mi := mi) (fun σ H Q ⟨ε, s, μ, _, hr, k⟩ => by
    obtain ⟨b, e, k⟩ := (show PB X.K X.mg E0 μ H (.ok (.bl true) s) Q from k)
    cases e
    exact k μ H Fw.refl hr) ⟨ε, s, μ, hε, hr, SO.to (r := mLc mi i yesM m ε s) h fun d s1 μ1 H1 v f1 r1 rv q => q μ1 H1 _ Fw.refl r1 ((hε.fw f1).set j rv)⟩
end
end Mi

namespace Mi
open PySem PySem.Spec PyProof.Rows L2

section
variable {K : PySem.W.Frag} {mg : Str → Option Value} {μ : List Addr} {H : Hp} {s : S} {E : XK} {Q : VK}
theorem Rel.at {k : Nat} {c : C} {a : Addr} (r : Rel K mg μ s H) (hs : s[k]? = some c) (hk : μ[k]? = some a) : COk K mg μ H a c := r.cell k c a hs hk
theorem PO.same {d : D} {v : V} (h : PO K mg E μ H (.ok d s) Q) (r : Rel K mg μ s H) (rv : RV K mg μ H d v) : Q v H := h μ H v Fw.refl r rv
theorem Rel.wrote {k : Nat} {a : Addr} {ds es : List D} {ws : List V} {d : D} {v : V} (h : PO K mg E μ H (.ok d (s.set k (.lst es))) Q) (r : Rel K mg μ s H) (hs : s[k]? = some (.lst ds)) (hk : μ[k]? = some a) (re : RVs K mg μ H es ws) (rv : RV K mg μ H d v) : Q v (upd H a (.lst ws)) := by
  obtain ⟨f, r'⟩ := r.write hk hs re
  exact h μ _ v f r' (rv.fw f)
end

/-! ### numbers -/
def oAdd : D → D → S → R D
  | .int i, .int j, s => .ok (.int (i + j)) s
  | .str x, .str y, s => if x.length + y.length ≤ sizeLine then .ok (.str (x ++ y)) s else .bad
  | .ref k, .ref l, s => match s[k]?, s[l]? with
    | some (.lst ds), some (.lst es) => if ds.length + es.length ≤ sizeLine then .ok (.ref s.length) (s ++ [C.lst (ds ++ es)]) else .bad
    | _, _ => .bad
  | _, _, _ => .bad
def rAdd : R2 := fun x y H Q => rI0 (fun i j => .int (i + j)) x y H Q ∨ (∃ i j, x = .str i ∧ y = .str j ∧ i.length + j.length ≤ sizeLine ∧ Q (.str (i ++ j)) H) ∨ rCat x y H Q
theorem or_add {X : Cx} : OpR X (binaryOp .Add) rAdd := OpR.or op_add (OpR.or op_add_str op_cat)
theorem os_add {K : PySem.W.Frag} {mg : Str → Option Value} : OpS K mg rAdd oAdd := fun E μ H s x y vx vy Q hr rx ry h => by
  cases rx with
  | int i =>
    cases ry with
    | int j => exact .inl ⟨i, j, rfl, rfl, PO.same h hr (.int _)⟩
    | _ => exact h.elim
  | str i =>
    cases ry with
    | str j =>
      obtain ⟨hl, h⟩ := PO.ite h
      exact .inr (.inl ⟨i, j, rfl, rfl, hl, PO.same h hr (.str _)⟩)
    | _ => exact h.elim
  | @ref k a hk =>
    cases ry with
    | @ref l b hl =>
      have h : PO K mg E μ H (match s[k]?, s[l]? with
        | some (.lst ds), some (.lst es) => if ds.length + es.length ≤ sizeLine then .ok (.ref s.length) (s ++ [C.lst (ds ++ es)]) else .bad
        | _, _ => .bad) Q := h
      split at h
      · rename_i ds es e1 e2
        obtain ⟨hz, h⟩ := PO.ite h
        obtain ⟨vs, h1, r1⟩ := hr.at e1 hk
        obtain ⟨ws, h2, r2⟩ := hr.at e2 hl
        exact .inr (.inr ⟨a, b, vs, ws, rfl, rfl, h1, h2, by rw [← r1.length, ← r2.length]; exact hz, fun p hp => PO.list h hr (r1.append r2) hp⟩)
      · exact h.elim
    | _ => exact h.elim
  | _ => exact h.elim
def oI (f : Int → Int → D) : D → D → S → R D
  | .int i, .int j, s => .ok (f i j) s
  | _, _, _ => .bad
open Classical in
noncomputable def oIC (c : Int → Int → Prop) (f : Int → Int → D) : D → D → S → R D
  | .int i, .int j, s => if c i j then .ok (f i j) s else .bad
  | _, _, _ => .bad
theorem os_I {K : PySem.W.Frag} {mg : Str → Option Value} {f : Int → Int → D} {g : Int → Int → V} (hf : ∀ i j μ H, RV K mg μ H (f i j) (g i j)) : OpS K mg (rI0 g) (oI f) := fun E μ H s x y vx vy Q hr rx ry h => by
  cases rx with
  | int i =>
    cases ry with
    | int j => exact ⟨i, j, rfl, rfl, PO.same h hr (hf i j μ H)⟩
    | _ => exact h.elim
  | _ => exact h.elim
open Classical in
theorem os_IC {K : PySem.W.Frag} {mg : Str → Option Value} {c : Int → Int → Prop} {f : Int → Int → D} {g : Int → Int → V} (hf : ∀ i j μ H, RV K mg μ H (f i j) (g i j)) : OpS K mg (rI c g) (oIC c f) := fun E μ H s x y vx vy Q hr rx ry h => by
  cases rx with
  | int i =>
    cases ry with
    | int j =>
      obtain ⟨hc, h⟩ := PO.ite h
      exact ⟨i, j, rfl, rfl, hc, PO.same h hr (hf i j μ H)⟩
    | _ => exact h.elim
  | _ => exact h.elim
def oSub : D → D → S → R D := oI fun i j => .int (i - j)
noncomputable def oMul : D → D → S → R D := oIC CMulW fun i j => .int (i * j)
noncomputable def oFdiv : D → D → S → R D := oIC CDivW fun i j => .int (i / j)
noncomputable def oMod : D → D → S → R D := oIC (fun _ j => 0 < j) fun i j => .int (i % j)
noncomputable def oPow : D → D → S → R D := oIC CPow fun i j => .int (i ^ j.toNat)
def oLt : D → D → S → R D := oI fun i j => .bl (decide (i < j))
def oLe : D → D → S → R D := oI fun i j => .bl (decide (i ≤ j))
def oGt : D → D → S → R D := oI fun i j => .bl (decide (j < i))
def oGe : D → D → S → R D := oI fun i j => .bl (decide (j ≤ i))

/-! ### == and != of data at any depth -/
def allPy (f : D → Option PyData) : List D → Option (List PyData)
  | [] => some []
  | d :: ds => match f d, allPy f ds with
    | some p, some ps => some (p :: ps)
    | _, _ => none
def cellPy (f : D → Option PyData) : Option C → Option PyData
  | some (.lst ds) => (allPy f ds).map .list
  | _ => none
def toPy (s : S) : Nat → D → Option PyData
  | 0, _ => none
  | n + 1, d => match d with
    | .non => some .none
    | .bl b => some (.bool b)
    | .int i => some (.int i)
    | .str x => some (.str x)
    | .tup ds => (allPy (toPy s n) ds).map .tuple
    | .frl ds => (allPy (toPy s n) ds).map .list
    | .ref k => cellPy (toPy s n) s[k]?
    | _ => none
theorem allPy_dp {K : PySem.W.Frag} {mg : Str → Option Value} {μ : List Addr} {H : Hp} {f : D → Option PyData} (hf : ∀ d v p, RV K mg μ H d v → f d = some p → Dp K H v p) : ∀ (ds : List D) (vs : List V) (ps : List PyData), RVs K mg μ H ds vs → allPy f ds = some ps → DpAll K H vs ps
  | [], _, ps, .nil, e => by
    cases e
    exact .nil
  | d :: ds, _, ps, .cons r rs, e => by
    unfold allPy at e
    split at e
    · rename_i p qs e1 e2
      cases e
      exact .cons (hf _ _ _ r e1) (allPy_dp hf ds _ qs rs e2)
    · cases e
theorem toPy_dp {K : PySem.W.Frag} {mg : Str → Option Value} {μ : List Addr} {H : Hp} {s : S} (hr : Rel K mg μ s H) : ∀ (n : Nat) (d : D) (v : V) (p : PyData), RV K mg μ H d v → toPy s n d = some p → Dp K H v p
  | 0, _, _, _, _, e => by cases e
  | n + 1, d, v, p, r, e => by
    have ih := toPy_dp hr n
    cases r with
    | non => cases e; exact .non
    | bl b => cases e; exact .bl b
    | int i => cases e; exact .int i
    | str x => cases e; exact .str x
    | ty n => cases e
    | fn h => cases e
    | exn _ _ _ => cases e
    | @tup ds q vs hq rs =>
      obtain ⟨ps, e1, rfl⟩ := Option.map_eq_some_iff.mp (show (allPy (toPy s n) ds).map PyData.tuple = some p from e)
      exact .tup hq (allPy_dp ih ds vs ps rs e1)
    | @frl ds q vs hq rs =>
      obtain ⟨ps, e1, rfl⟩ := Option.map_eq_some_iff.mp (show (allPy (toPy s n) ds).map PyData.list = some p from e)
      exact .lst hq.seq (allPy_dp ih ds vs ps rs e1)
    | @ref k a hk =>
      have e : cellPy (toPy s n) s[k]? = some p := e
      cases g : s[k]? with
      | none =>
        rw [g] at e
        cases e
      | some c =>
        rw [g] at e
        cases c with
        | dic kvs => cases e
        | ins _ _ => cases e
        | lst ds =>
          obtain ⟨ps, e1, rfl⟩ := Option.map_eq_some_iff.mp (show (allPy (toPy s n) ds).map PyData.list = some p from e)
          obtain ⟨vs, hv, rs⟩ := hr.at g hk
          exact .lst (SqL.of hv) (allPy_dp ih ds vs ps rs e1)
def eqPy (x y : D) (s : S) : Option Bool := match toPy s 66 x, toPy s 66 y with
  | some p, some q => if SeqAt.shaped p = true ∧ SeqAt.shaped q = true then some (PyData.eqv p q) else none
  | _, _ => none
def oEq (x y : D) (s : S) : R D := match eqPy x y s with
  | some b => .ok (.bl b) s
  | none => .bad
def oNe (x y : D) (s : S) : R D := match eqPy x y s with
  | some b => .ok (.bl (!b)) s
  | none => .bad
theorem eqPy_dp {K : PySem.W.Frag} {mg : Str → Option Value} {μ : List Addr} {H : Hp} {s : S} {x y : D} {vx vy : V} {b : Bool} (hr : Rel K mg μ s H) (rx : RV K mg μ H x vx) (ry : RV K mg μ H y vy) (h : eqPy x y s = some b) :
    ∃ d e, Dp K H vx d ∧ Dp K H vy e ∧ SeqAt.shaped d = true ∧ SeqAt.shaped e = true ∧ PyData.eqv d e = b := by
  unfold eqPy at h
  split at h
  · rename_i p q e1 e2
    split at h
    · rename_i hs
      cases h
      exact ⟨p, q, toPy_dp hr _ _ _ _ rx e1, toPy_dp hr _ _ _ _ ry e2, hs.1, hs.2, rfl⟩
    · cases h
  · cases h
theorem os_eq {K : PySem.W.Frag} {mg : Str → Option Value} : OpS K mg (rEqD K) oEq := fun E μ H s x y vx vy Q hr rx ry h => by
  unfold oEq at h
  split at h
  · rename_i b e
    obtain ⟨p, q, h1, h2, h3, h4, rfl⟩ := eqPy_dp hr rx ry e
    exact ⟨p, q, h1, h2, h3, h4, PO.same h hr (.bl _)⟩
  · exact h.elim
theorem os_ne {K : PySem.W.Frag} {mg : Str → Option Value} : OpS K mg (rNeD K) oNe := fun E μ H s x y vx vy Q hr rx ry h => by
  unfold oNe at h
  split at h
  · rename_i b e
    obtain ⟨p, q, h1, h2, h3, h4, rfl⟩ := eqPy_dp hr rx ry e
    exact ⟨p, q, h1, h2, h3, h4, PO.same h hr (.bl _)⟩
  · exact h.elim

/-! ### is None, is False, is True -/
def isN : D → Bool
  | .non => true
  | _ => false
def isB (b : Bool) : D → Bool
  | .bl c => c == b
  | _ => false
def oIs : D → D → S → R D
  | x, .non, s => .ok (.bl (isN x)) s
  | x, .bl b, s => .ok (.bl (isB b x)) s
  | _, _, _ => .bad
def oIsNot : D → D → S → R D
  | x, .non, s => .ok (.bl (!isN x)) s
  | x, .bl b, s => .ok (.bl (!isB b x)) s
  | _, _, _ => .bad
def vIsB (b : Bool) : V → Bool
  | .bl c => c == b
  | _ => false
theorem is_bool_gen {M : Model} {A : Around} {E : Value → Shared → Prop} {s : Shared} {Q : Value → Shared → Prop} {x : V} {v : Value} {b : Bool} (r : RelV x v) (h : Q (.bool (v == .bool b)) s) : wpAny M A (compareOp .Is v (.bool b)) Q E s := by
  cases x with
  | int _ => obtain ⟨t, rfl⟩ := r; exact wpAny_pure h
  | str _ => obtain ⟨t, rfl⟩ := r; exact wpAny_pure h
  | byt _ => obtain ⟨t, rfl⟩ := r; exact wpAny_pure h
  | flt _ => obtain ⟨t, rfl⟩ := r; exact wpAny_pure h
  | _ => cases r; exact wpAny_pure h
theorem isnot_bool_gen {M : Model} {A : Around} {E : Value → Shared → Prop} {s : Shared} {Q : Value → Shared → Prop} {x : V} {v : Value} {b : Bool} (r : RelV x v) (h : Q (.bool (!(v == .bool b))) s) : wpAny M A (compareOp .IsNot v (.bool b)) Q E s := by
  cases x with
  | int _ => obtain ⟨t, rfl⟩ := r; exact wpAny_pure h
  | str _ => obtain ⟨t, rfl⟩ := r; exact wpAny_pure h
  | byt _ => obtain ⟨t, rfl⟩ := r; exact wpAny_pure h
  | flt _ => obtain ⟨t, rfl⟩ := r; exact wpAny_pure h
  | _ => cases r; exact wpAny_pure h
theorem relV_bool {x : V} {v : Value} {b : Bool} (r : RelV x v) : (v == Value.bool b) = vIsB b x := by
  cases x with
  | non => cases r; rfl
  | bl c =>
    cases r
    show (Value.bool c == Value.bool b) = (c == b)
    cases c <;> cases b <;> rfl
  | int _ => obtain ⟨t, rfl⟩ := r; rfl
  | str _ => obtain ⟨t, rfl⟩ := r; rfl
  | byt _ => obtain ⟨t, rfl⟩ := r; rfl
  | flt _ => obtain ⟨t, rfl⟩ := r; rfl
  | ref _ => cases r; rfl
  | ty _ => cases r; rfl
def rIs : R2 := fun x y H Q => (y = .non ∧ Q (.bl (decide (x = .non))) H) ∨ ∃ b, y = .bl b ∧ Q (.bl (vIsB b x)) H
def rIsNot : R2 := fun x y H Q => (y = .non ∧ Q (.bl (!decide (x = .non))) H) ∨ ∃ b, y = .bl b ∧ Q (.bl (!vIsB b x)) H
theorem or_is {X : Cx} : OpR X (compareOp .Is) rIs := OpR.or op_isN fun pins s σ H x y v u Q I rx ry h => by
  obtain ⟨b, rfl, q⟩ := h
  cases (show u = Value.bool b from ry)
  exact is_bool_gen rx (fin_bl I q (relV_bool rx).symm)
theorem or_isNot {X : Cx} : OpR X (compareOp .IsNot) rIsNot := OpR.or op_notN fun pins s σ H x y v u Q I rx ry h => by
  obtain ⟨b, rfl, q⟩ := h
  cases (show u = Value.bool b from ry)
  exact isnot_bool_gen rx (fin_bl I q (by rw [relV_bool rx]))
theorem isN_v {K : PySem.W.Frag} {mg : Str → Option Value} {μ : List Addr} {H : Hp} {d : D} {v : V} (r : RV K mg μ H d v) : decide (v = .non) = isN d := by
  cases r <;> rfl
theorem isB_v {K : PySem.W.Frag} {mg : Str → Option Value} {μ : List Addr} {H : Hp} {d : D} {v : V} {b : Bool} (r : RV K mg μ H d v) : vIsB b v = isB b d := by
  cases r <;> rfl
theorem os_is {K : PySem.W.Frag} {mg : Str → Option Value} : OpS K mg rIs oIs := fun E μ H s x y vx vy Q hr rx ry h => by
  cases ry with
  | non => exact .inl ⟨rfl, by rw [isN_v rx]; exact PO.same h hr (.bl _)⟩
  | bl b => exact .inr ⟨b, rfl, by rw [isB_v rx]; exact PO.same h hr (.bl _)⟩
  | _ => cases rx <;> exact h.elim
theorem os_isNot {K : PySem.W.Frag} {mg : Str → Option Value} : OpS K mg rIsNot oIsNot := fun E μ H s x y vx vy Q hr rx ry h => by
  cases ry with
  | non => exact .inl ⟨rfl, by rw [isN_v rx]; exact PO.same h hr (.bl _)⟩
  | bl b => exact .inr ⟨b, rfl, by rw [isB_v rx]; exact PO.same h hr (.bl _)⟩
  | _ => cases rx <;> exact h.elim

/-! ### in, not in: a sign, a text in a text; an item in a list, a tuple of flat values -/
def inStr (i j : Str) : Bool := !(Builtin.Str.occurrences j i 0 j.length 1).isEmpty
def oInS : D → D → S → R D
  | .str i, .str j, s => .ok (.bl (inStr i j)) s
  | _, _, _ => .bad
def oNotInS : D → D → S → R D
  | .str i, .str j, s => .ok (.bl (!inStr i j)) s
  | _, _, _ => .bad
theorem os_inS {K : PySem.W.Frag} {mg : Str → Option Value} : OpS K mg (fun x y H Q => ∃ i j, x = .str i ∧ y = .str j ∧ Q (.bl (!(Builtin.Str.occurrences j i 0 j.length 1).isEmpty)) H) oInS := fun E μ H s x y vx vy Q hr rx ry h => by
  cases rx with
  | str i =>
    cases ry with
    | str j => exact ⟨i, j, rfl, rfl, PO.same h hr (.bl _)⟩
    | _ => exact h.elim
  | _ => exact h.elim
theorem os_notInS {K : PySem.W.Frag} {mg : Str → Option Value} : OpS K mg (fun x y H Q => ∃ i j, x = .str i ∧ y = .str j ∧ Q (.bl (!(!(Builtin.Str.occurrences j i 0 j.length 1).isEmpty))) H) oNotInS := fun E μ H s x y vx vy Q hr rx ry h => by
  cases rx with
  | str i =>
    cases ry with
    | str j => exact ⟨i, j, rfl, rfl, PO.same h hr (.bl _)⟩
    | _ => exact h.elim
  | _ => exact h.elim

/-! ### a[i], a[lo:hi], a[i] = v -/
def getD : Option D → S → R D
  | some d, s => .ok d s
  | none, _ => .bad
def ixCell (i : Int) : Option C → S → R D
  | some (.lst ds), s => getD (atI ds i) s
  | _, _ => .bad
def oIx : D → D → S → R D
  | .ref k, .int i, s => ixCell i s[k]? s
  | .tup ds, .int i, s => getD (atI ds i) s
  | .frl ds, .int i, s => getD (atI ds i) s
  | .str x, .int i, s => if x.length ≤ sizeLine then (match atI x.cps.toList i with
    | some c => .ok (.str ⟨#[c]⟩) s
    | none => .bad) else .bad
  | _, _, _ => .bad
theorem atI_rv {K : PySem.W.Frag} {mg : Str → Option Value} {μ : List Addr} {H : Hp} {ds : List D} {vs : List V} {i : Int} {d : D} (rs : RVs K mg μ H ds vs) (h : atI ds i = some d) : ∃ v, atI vs i = some v ∧ RV K mg μ H d v := by
  unfold atI at h ⊢
  rw [← rs.length]
  cases e : ixN ds.length i with
  | none =>
    rw [e] at h
    cases h
  | some j =>
    rw [e] at h
    exact rs.get h
theorem os_ix {K : PySem.W.Frag} {mg : Str → Option Value} : OpS K mg (rIx K) oIx := fun E μ H s x y vx vy Q hr rx ry h => by
  cases ry with
  | int i =>
    cases rx with
    | @ref k a hk =>
      have h : PO K mg E μ H (ixCell i s[k]? s) Q := h
      cases g : s[k]? with
      | none =>
        rw [g] at h
        exact h.elim
      | some c =>
        rw [g] at h
        cases c with
        | dic kvs => exact h.elim
        | ins _ _ => exact h.elim
        | lst ds =>
          have h : PO K mg E μ H (getD (atI ds i) s) Q := h
          cases e : atI ds i with
          | none =>
            rw [e] at h
            exact h.elim
          | some d =>
            rw [e] at h
            obtain ⟨vs, hv, rs⟩ := hr.at g hk
            obtain ⟨v, h1, h2⟩ := atI_rv rs e
            exact .inl ⟨a, vs, i, v, rfl, rfl, SqL.of hv, h1, PO.same h hr h2⟩
    | @tup ds p vs hq rs =>
      have h : PO K mg E μ H (getD (atI ds i) s) Q := h
      cases e : atI ds i with
      | none =>
        rw [e] at h
        exact h.elim
      | some d =>
        rw [e] at h
        obtain ⟨v, h1, h2⟩ := atI_rv rs e
        exact .inr (.inl ⟨p, vs, i, v, rfl, rfl, hq, h1, PO.same h hr h2⟩)
    | @frl ds p vs hq rs =>
      have h : PO K mg E μ H (getD (atI ds i) s) Q := h
      cases e : atI ds i with
      | none =>
        rw [e] at h
        exact h.elim
      | some d =>
        rw [e] at h
        obtain ⟨v, h1, h2⟩ := atI_rv rs e
        exact .inl ⟨p, vs, i, v, rfl, rfl, hq.seq, h1, PO.same h hr h2⟩
    | str x =>
      obtain ⟨hz, h⟩ := PO.ite (show PO K mg E μ H (if x.length ≤ sizeLine then (match atI x.cps.toList i with
        | some c => .ok (.str ⟨#[c]⟩) s
        | none => .bad) else .bad) Q from h)
      cases e : atI x.cps.toList i with
      | none =>
        rw [e] at h
        exact h.elim
      | some c =>
        rw [e] at h
        exact .inr (.inr ⟨x, i, c, rfl, rfl, hz, e, PO.same h hr (.str _)⟩)
    | _ => exact h.elim
  | _ => cases rx <;> exact h.elim
/-- an optional part of a slice -/
abbrev MO := Ev → S → R (Option Int)
def pNo : MO := fun _ s => .ok none s
def pAt (m : M) : MO := fun ε s => (m ε s).bind fun d s1 => match d with
  | .int i => .ok (some i) s1
  | _ => .bad
def tO (K : PySem.W.Frag) (mg : Str → Option Value) (E : XK) (m : MO) : TO := fun σ H Q => ∃ ε s μ, REnv K mg μ H ε σ ∧ Rel K mg μ s H ∧
  (m ε s).sat (fun o s' => ∀ (μ' : List Addr) (H' : Hp), Fw K μ H μ' H' → Rel K mg μ' s' H' → Q o H') (Ex K mg E μ H)
abbrev DO (X : Cx) (E : XK) (e : Option Expr) (m : MO) : Prop := L2.PO X e (tO X.K X.mg E m)
end Mi

namespace Mi
open PySem PySem.Spec PyProof.Rows L2

/-! ### slices -/
def cutD (xs : List D) (lo hi : Option Int) : List D := (xs.drop (HT.sIx xs.length 0 lo)).take (HT.sIx xs.length xs.length hi - HT.sIx xs.length 0 lo)
def slCell (lo hi : Option Int) : Option C → S → R D
  | some (.lst ds), s => .ok (.ref s.length) (s ++ [C.lst (cutD ds lo hi)])
  | _, _ => .bad
def oSl : D → Option Int → Option Int → S → R D
  | .ref k, lo, hi, s => slCell lo hi s[k]? s
  | .frl ds, lo, hi, s => .ok (.ref s.length) (s ++ [C.lst (cutD ds lo hi)])
  | .tup ds, lo, hi, s => .ok (.tup (cutD ds lo hi)) s
  | .str x, lo, hi, s => if x.length ≤ sizeLine then .ok (.str (cutS x lo hi)) s else .bad
  | _, _, _, _ => .bad
def mSl (m : M) (a b : MO) : M := fun ε s => (m ε s).bind fun x s1 => (a ε s1).bind fun lo s2 => (b ε s2).bind fun hi s3 => oSl x lo hi s3
def rSlAny (K : PySem.W.Frag) : V → Option Int → Option Int → Hp → VK → Prop := fun x lo hi H Q => rSlL K x lo hi H Q ∨ rSlA K x lo hi H Q ∨ rSlS x lo hi H Q
section
variable {X : Cx} {E : XK} {pos : Pos} {e a b c : Expr} {m ma mb mc : M} {es : List Expr} {ms : Ev → S → R (List D)}
theorem sl_any : SlR X (rSlAny X.K) := SlR.or sl_list (SlR.or sl_tupA sl_str)
theorem p_no : DO X E none pNo := by
  refine ⟨fun pins s σ H Q I h => po_none.run pins s σ H Q I ?_⟩
  obtain ⟨ε, s, μ, he, hr, h⟩ := h
  exact h μ H Fw.refl hr
theorem p_at (h : DE X E e m) : DO X E (some e) (pAt m) := by
  refine ⟨fun pins s σ H Q I hq => (po_some h).run pins s σ H Q I ?_⟩
  obtain ⟨ε, s, μ, he, hr, hq⟩ := hq
  refine ⟨ε, s, μ, he, hr, PO.seq (g := fun d s1 => match d with
    | .int i => R.ok (some i) s1
    | _ => .bad) hq fun d s1 μ1 H1 v f1 r1 rv q => ?_⟩
  cases rv with
  | int i => exact ⟨i, rfl, q μ1 H1 f1 r1⟩
  | _ => exact q.elim
theorem cut_rv {K : PySem.W.Frag} {mg : Str → Option Value} {μ : List Addr} {H : Hp} {ds : List D} {vs : List V} (rs : RVs K mg μ H ds vs) (lo hi : Option Int) : RVs K mg μ H (cutD ds lo hi) (cutV vs lo hi) := by
  unfold cutD cutV
  rw [rs.length]
  exact (rs.drop _).take _
theorem satO_fw {K : PySem.W.Frag} {mg : Str → Option Value} {μ μ' : List Addr} {H H' : Hp} {r : R (Option Int)} {Q : Option Int → Hp → Prop} (h : r.sat (fun o s' => ∀ (μ' : List Addr) (H' : Hp), Fw K μ H μ' H' → Rel K mg μ' s' H' → Q o H') (Ex K mg E μ H)) (f : Fw K μ H μ' H') :
    r.sat (fun o s' => ∀ (μ2 : List Addr) (H2 : Hp), Fw K μ' H' μ2 H2 → Rel K mg μ2 s' H2 → Q o H2) (Ex K mg E μ' H') := h.imp (fun _ _ k μ2 H2 f2 => k μ2 H2 (f.trans f2)) fun _ _ _ _ k => k.fw f
theorem seqO {α : Type} {K : PySem.W.Frag} {mg : Str → Option Value} {μ : List Addr} {H : Hp} {r : R (Option Int)} {g : Option Int → S → R α} {ok : α → S → Prop} {Q' : Option Int → Hp → Prop} (h : (r.bind g).sat ok (Ex K mg E μ H))
    (k : ∀ (d : Option Int) (s1 : S) (μ1 : List Addr) (H1 : Hp), Fw K μ H μ1 H1 → Rel K mg μ1 s1 H1 → (g d s1).sat ok (Ex K mg E μ H) → Q' d H1) : r.sat (fun o s' => ∀ (μ' : List Addr) (H' : Hp), Fw K μ H μ' H' → Rel K mg μ' s' H' → Q' o H') (Ex K mg E μ H) :=
  h.bind.imp (fun d s1 q μ1 H1 f1 r1 => k d s1 μ1 H1 f1 r1 q) fun _ _ _ _ q => q
theorem d_sl {lo hi : Option Expr} {p2 : Pos} {mlo mhi : MO} (he : DE X E e m) (hl : DO X E lo mlo) (hh : DO X E hi mhi) : DE X E (.Subscript e (.Slice lo hi none p2) pos) (mSl m mlo mhi) := PEto (pe_slice sl_any he hl hh) fun σ H Q ⟨ε, s, μ, hε, hr, h⟩ => by
  refine ⟨ε, s, μ, hε, hr, PO.seq h fun x s1 μ1 H1 v f1 r1 rv q => ?_⟩
  have q := PO.fw (r := (mlo ε s1).bind fun lo s2 => (mhi ε s2).bind fun hi s3 => oSl x lo hi s3) q f1
  refine ⟨ε, s1, μ1, hε.fw f1, r1, seqO q fun l s2 μ2 H2 f2 r2 q2 => ?_⟩
  have q2 := PO.fw (r := (mhi ε s2).bind fun hi s3 => oSl x l hi s3) q2 f2
  refine ⟨ε, s2, μ2, (hε.fw f1).fw f2, r2, seqO q2 fun u s3 μ3 H3 f3 r3 q3 => ?_⟩
  have q3 := PO.fw (r := oSl x l u s3) q3 f3
  have rv := (rv.fw f2).fw f3
  cases rv with
  | @ref k a hk =>
    have q3 : PO X.K X.mg E μ3 H3 (slCell l u s3[k]? s3) Q := q3
    cases g : s3[k]? with
    | none =>
      rw [g] at q3
      exact q3.elim
    | some c =>
      rw [g] at q3
      cases c with
      | dic kvs => exact q3.elim
      | ins _ _ => exact q3.elim
      | lst ds =>
        obtain ⟨vs, hv, rs⟩ := r3.at g hk
        exact .inl ⟨a, vs, rfl, SqL.of hv, fun p hp => PO.list q3 r3 (cut_rv rs l u) hp⟩
  | @frl ds p vs hq rs => exact .inl ⟨p, vs, rfl, hq.seq, fun p hp => PO.list q3 r3 (cut_rv rs l u) hp⟩
  | @tup ds p vs hq rs =>
    have q3 : PO X.K X.mg E μ3 H3 (.ok (.tup (cutD ds l u)) s3) Q := q3
    refine .inr (.inl ⟨p, vs, rfl, hq, fun ⟨e1, e2⟩ => PO.same q3 r3 (.tup hq ?_), fun _ p' hp => PO.tuple q3 r3 (cut_rv rs l u) hp⟩)
    have z := cut_rv rs l u
    unfold cutV at z
    rw [e1, e2, List.drop_zero, Nat.sub_zero, List.take_length] at z
    exact z
  | str x =>
    obtain ⟨hz, q3⟩ := PO.ite (show PO X.K X.mg E μ3 H3 (if x.length ≤ sizeLine then .ok (.str (cutS x l u)) s3 else .bad) Q from q3)
    exact .inr (.inr ⟨x, rfl, hz, PO.same q3 r3 (.str _)⟩)
  | _ => exact q3.elim

/-! ### methods of built-in types -/
def MtS (K : PySem.W.Frag) (mg : Str → Option Value) (r : V → List V → Hp → VK → Prop) (f : D → List D → S → R D) : Prop := ∀ (E : XK) (μ : List Addr) (H : Hp) (s : S) (x : D) (xs : List D) (v : V) (vs : List V) (Q : VK), Rel K mg μ s H → RV K mg μ H x v → RVs K mg μ H xs vs → PO K mg E μ H (f x xs s) Q → r v vs H Q
def TyS (K : PySem.W.Frag) (mg : Str → Option Value) (T : String) (chk : D → S → Bool) : Prop := ∀ (μ : List Addr) (H : Hp) (s : S) (x : D) (v : V), Rel K mg μ s H → RV K mg μ H x v → chk x s = true → tyV K T v H
def mMeth (chk : D → S → Bool) (f : D → List D → S → R D) (mo : M) (ms : Ev → S → R (List D)) : M := fun ε s => (mo ε s).bind fun x s1 => if chk x s1 = true then (ms ε s1).bind fun xs s2 => f x xs s2 else .bad
theorem d_meth {T id : String} {name : Str} {apos : Pos} {r : V → List V → Hp → VK → Prop} {f : D → List D → S → R D} {chk : D → S → Bool} {o : Expr} {mo : M} (ht : TyS X.K X.mg T chk) (hf : MtS X.K X.mg r f) (pa : PlainAttrs T) (slot : Slot T name id) (hty : typeOf (.builtin id) = pure (.type "method_descriptor")) (hm : MtR X id r) (ho : DE X E o mo) (ha : DA X E (e :: es) ms)
    (hbase : attributeBase o name X.env (eval o X.env) = eval o X.env := by rfl)
    (hfew : ((backTo pos (starEach (e :: es) X.env)).all (fun x => !x.1) && (backToKw pos (keywordEach [] X.env)).all (fun x => x.1.isSome)
      && decide ((e :: es).length + ([] : List Keyword).length + (if ([] : List Keyword).isEmpty then 0 else 1) < 30)) = true := by rfl)
    (hline : (apos.endLine == pos.line) = true := by rfl) (hs : starEach (e :: es) X.env = (false, eval e X.env) :: starEach es X.env := by rfl) (hplain : (backTo pos (starEach es X.env)).any (·.1) = false := by rfl) :
    DE X E (.Call (.Attribute o name apos) (e :: es) [] pos) (mMeth chk f mo ms) := PEto (pe_bm pa slot hty hm ho ha hbase hfew hline hs hplain) fun σ H Q ⟨ε, s, μ, hε, hr, h⟩ => by
  refine ⟨ε, s, μ, hε, hr, PO.seq h fun x s1 μ1 H1 v f1 r1 rv q => ?_⟩
  obtain ⟨hc, q⟩ := PO.ite (PO.fw (r := if chk x s1 = true then (ms ε s1).bind fun xs s2 => f x xs s2 else .bad) q f1)
  refine ⟨ht μ1 H1 s1 x v r1 rv hc, ε, s1, μ1, hε.fw f1, r1, PL.seq q fun xs s2 μ2 H2 vs f2 r2 rvs q2 => ?_⟩
  exact hf E μ2 H2 s2 x xs v vs Q r2 (rv.fw f2) rvs (PO.fw (r := f x xs s2) q2 f2)
def mMeth0 (chk : D → S → Bool) (f : D → List D → S → R D) (mo : M) : M := fun ε s => (mo ε s).bind fun x s1 => if chk x s1 = true then f x [] s1 else .bad
theorem d_meth0 {T id : String} {name : Str} {apos : Pos} {r : V → List V → Hp → VK → Prop} {f : D → List D → S → R D} {chk : D → S → Bool} {o : Expr} {mo : M} (ht : TyS X.K X.mg T chk) (hf : MtS X.K X.mg r f) (pa : PlainAttrs T) (slot : Slot T name id) (hty : typeOf (.builtin id) = pure (.type "method_descriptor")) (hm : MtR X id r) (ho : DE X E o mo)
    (hbase : attributeBase o name X.env (eval o X.env) = eval o X.env := by rfl) (hline : (apos.endLine == pos.line) = true := by rfl) : DE X E (.Call (.Attribute o name apos) [] [] pos) (mMeth0 chk f mo) := PEto (pe_bm0 pa slot hty hm ho hbase hline) fun σ H Q ⟨ε, s, μ, hε, hr, h⟩ => by
  refine ⟨ε, s, μ, hε, hr, PO.seq h fun x s1 μ1 H1 v f1 r1 rv q => ?_⟩
  obtain ⟨hc, q⟩ := PO.ite (PO.fw (r := if chk x s1 = true then f x [] s1 else .bad) q f1)
  exact ⟨ht μ1 H1 s1 x v r1 rv hc, hf E μ1 H1 s1 x [] v [] Q r1 rv .nil q⟩
def isLst : D → S → Bool
  | .ref k, s => match s[k]? with
    | some (.lst _) => true
    | _ => false
  | _, _ => false
def isStr : D → S → Bool
  | .str _, _ => true
  | _, _ => false
theorem ty_lst {K : PySem.W.Frag} {mg : Str → Option Value} : TyS K mg "list" isLst := fun μ H s x v hr rv h => by
  cases rv with
  | @ref k a hk =>
    have h : (match s[k]? with
      | some (.lst _) => true
      | _ => false) = true := h
    split at h
    · rename_i ds e
      obtain ⟨vs, hv, _⟩ := hr.at e hk
      exact .inl ⟨rfl, vs, SqL.of hv⟩
    · cases h
  | _ => cases h
theorem ty_str {K : PySem.W.Frag} {mg : Str → Option Value} : TyS K mg "str" isStr := fun μ H s x v hr rv h => by
  cases rv with
  | str x => rfl
  | _ => cases h
/-- xs.append(e) -/
def appCell (k : Nat) (d : D) : Option C → S → R D
  | some (.lst ds), s => if ds.length < sizeLine then .ok .non (s.set k (.lst (ds ++ [d]))) else .bad
  | _, _ => .bad
def oApp : D → List D → S → R D
  | .ref k, [d], s => appCell k d s[k]? s
  | _, _, _ => .bad
theorem ms_app {K : PySem.W.Frag} {mg : Str → Option Value} : MtS K mg rAppend oApp := fun E μ H s x xs v vs Q hr rv rs h => by
  cases rv with
  | @ref k a hk =>
    cases rs with
    | nil => exact h.elim
    | @cons d w _ _ rw' rs' =>
      cases rs' with
      | cons _ _ => exact h.elim
      | nil =>
        have h : PO K mg E μ H (appCell k d s[k]? s) Q := h
        cases g : s[k]? with
        | none =>
          rw [g] at h
          exact h.elim
        | some c =>
          rw [g] at h
          cases c with
          | dic kvs => exact h.elim
          | ins _ _ => exact h.elim
          | lst ds =>
            obtain ⟨hz, h⟩ := PO.ite (show PO K mg E μ H (if ds.length < sizeLine then .ok .non (s.set k (.lst (ds ++ [d]))) else .bad) Q from h)
            obtain ⟨us, hv, ru⟩ := hr.at g hk
            exact ⟨a, us, w, rfl, rfl, hv, by rw [← ru.length]; exact hz, hr.wrote h g hk (ru.append (.cons rw' .nil)) .non⟩
  | _ => cases rs <;> exact h.elim
theorem d_append {apos : Pos} {o : Expr} {mo : M} (ho : DE X E o mo) (ha : DA X E [e] ms) (hbase : attributeBase o "append" X.env (eval o X.env) = eval o X.env := by rfl)
    (hfew : ((backTo pos (starEach [e] X.env)).all (fun x => !x.1) && (backToKw pos (keywordEach [] X.env)).all (fun x => x.1.isSome)
      && decide (([e] : List Expr).length + ([] : List Keyword).length + (if ([] : List Keyword).isEmpty then 0 else 1) < 30)) = true := by rfl)
    (hline : (apos.endLine == pos.line) = true := by rfl) (hs : starEach [e] X.env = (false, eval e X.env) :: starEach [] X.env := by rfl) (hplain : (backTo pos (starEach [] X.env)).any (·.1) = false := by rfl) : DE X E (.Call (.Attribute o "append" apos) [e] [] pos) (mMeth isLst oApp mo ms) :=
  d_meth ty_lst ms_app PySem.F.plainAttrs_list PySem.F.slot_list_append PySem.F.type_list_append mt_append ho ha hbase hfew hline hs hplain
/-- sep.join(a list of texts) -/
def strsOf : List D → Option (List Str)
  | [] => some []
  | .str x :: ds => (strsOf ds).map (x :: ·)
  | _ => none
theorem strsOf_rv {K : PySem.W.Frag} {mg : Str → Option Value} {μ : List Addr} {H : Hp} : ∀ {ds : List D} {vs : List V} {ys : List Str}, RVs K mg μ H ds vs → strsOf ds = some ys → vs = ys.map V.str
  | [], _, _, .nil, e => by
    cases e
    rfl
  | d :: ds, _, ys, .cons r rs, e => by
    cases r with
    | str x =>
      obtain ⟨zs, e1, rfl⟩ := Option.map_eq_some_iff.mp (show (strsOf ds).map (x :: ·) = some ys from e)
      rw [strsOf_rv rs e1]
      rfl
    | _ => cases e
def joinK (a : Str) : Option (List Str) → S → R D
  | some ys, s => if (ys.map (·.length)).sum + ys.length * a.length ≤ 16777216 then .ok (.str (Txt.join a ys)) s else .bad
  | none, _ => .bad
def oJoin : D → List D → S → R D
  | .str a, [.ref k], s => match s[k]? with
    | some (.lst ds) => joinK a (strsOf ds) s
    | _ => .bad
  | _, _, _ => .bad
theorem ms_join {K : PySem.W.Frag} {mg : Str → Option Value} : MtS K mg (fun x xs H Q => ∃ a p, ∃ ys : List Str, x = .str a ∧ xs = [.ref p] ∧ (SqL K H p (ys.map V.str) ∨ SqT K H p (ys.map V.str)) ∧
    (ys.map (·.length)).sum + ys.length * a.length ≤ 16777216 ∧ Q (.str (Txt.join a ys)) H) oJoin := fun E μ H s x xs v vs Q hr rv rs h => by
  cases rv with
  | str a =>
    cases rs with
    | nil => exact h.elim
    | cons r rs' =>
      cases rs' with
      | cons _ _ => cases r <;> exact h.elim
      | nil =>
        cases r with
        | @ref k p hk =>
          have h : PO K mg E μ H (match s[k]? with
            | some (.lst ds) => joinK a (strsOf ds) s
            | _ => .bad) Q := h
          split at h
          · rename_i ds g
            obtain ⟨us, hv, ru⟩ := hr.at g hk
            cases e : strsOf ds with
            | none =>
              rw [e] at h
              exact h.elim
            | some ys =>
              rw [e] at h
              obtain ⟨hz, h⟩ := PO.ite (show PO K mg E μ H (if (ys.map (·.length)).sum + ys.length * a.length ≤ 16777216 then .ok (.str (Txt.join a ys)) s else .bad) Q from h)
              refine ⟨a, p, ys, rfl, rfl, .inl (SqL.of ?_), hz, PO.same h hr (.str _)⟩
              rw [← strsOf_rv ru e]
              exact hv
          · exact h.elim
        | _ => exact h.elim
  | _ => cases rs <;> exact h.elim
theorem d_join {apos : Pos} {o : Expr} {mo : M} (ho : DE X E o mo) (ha : DA X E [e] ms) (hbase : attributeBase o "join" X.env (eval o X.env) = eval o X.env := by rfl)
    (hfew : ((backTo pos (starEach [e] X.env)).all (fun x => !x.1) && (backToKw pos (keywordEach [] X.env)).all (fun x => x.1.isSome)
      && decide (([e] : List Expr).length + ([] : List Keyword).length + (if ([] : List Keyword).isEmpty then 0 else 1) < 30)) = true := by rfl)
    (hline : (apos.endLine == pos.line) = true := by rfl) (hs : starEach [e] X.env = (false, eval e X.env) :: starEach [] X.env := by rfl) (hplain : (backTo pos (starEach [] X.env)).any (·.1) = false := by rfl) : DE X E (.Call (.Attribute o "join" apos) [e] [] pos) (mMeth isStr oJoin mo ms) :=
  d_meth ty_str ms_join PySem.F.plainAttrs_str PySem.F.slot_str_join PySem.F.type_str_join mt_join ho ha hbase hfew hline hs hplain

/-! ### o[i] = e -/
def setCell (k : Nat) (i : Int) (d : D) : Option C → S → Option S
  | some (.lst ds), s => (ixN ds.length i).map fun j => s.set k (.lst (ds.set j d))
  | _, _ => none
def setAt (o i d : D) (s : S) : Option S := match o, i with
  | .ref k, .int i => setCell k i d s[k]? s
  | _, _ => none
def sSub (me mo mi : M) : B := fun ε s => (me ε s).to fun d s1 => (mo ε s1).to fun o s2 => (mi ε s2).to fun i s3 => match setAt o i d s3 with
  | some s4 => .nx ε s4
  | none => .bad
theorem s_sub {o i : Expr} {p2 : Pos} {me mo mi : M} (he : DE X E e me) (ho : DE X E o mo) (hi : DE X E i mi) (ha : ∀ v, assign (.Subscript o i p2) X.env v = (do
      let ov ← holding [v] (eval o X.env)
      let iv ← holding [v, ov] (eval i X.env)
      standAt p2
      holding [v, ov, iv] (setItem ov iv v)
      release [v, ov, iv] []) := by intro _; rfl) (hs : swapsWithSole [.Subscript o i p2] e pos.line X.env = pure false := by rfl) (hw : swappedStores [.Subscript o i p2] e X.env = pure none := by rfl)
    (h1 : (assignEach [.Subscript o i p2] X.env).map (·.2) = [assign (.Subscript o i p2) X.env] := by rfl) : DS X E (.Assign [.Subscript o i p2] e pos) (sSub me mo mi) := PSto (ps_asg he (pg_sub ho hi set_list ha) hs hw h1) fun D' σ H ⟨ε, s, μ, hε, hr, h⟩ => by
  refine ⟨ε, s, μ, hε, hr, SO.to (r := me ε s) h fun d s1 μ1 H1 v f1 r1 rv q => ?_⟩
  refine ⟨ε, s1, μ1, hε.fw f1, r1, SO.to (r := mo ε s1) q fun ob s2 μ2 H2 w f2 r2 rw' q2 => ?_⟩
  refine ⟨ε, s2, μ2, (hε.fw f1).fw f2, r2, SO.to (r := mi ε s2) q2 fun ix s3 μ3 H3 u f3 r3 ru q3 => ?_⟩
  cases e4 : setAt ob ix d s3 with
  | none =>
    rw [e4] at q3
    exact q3.elim
  | some s4 =>
    rw [e4] at q3
    have ro := rw'.fw f3
    have rd := (rv.fw f2).fw f3
    cases ro with
    | @ref k a hk =>
      cases ru with
      | int i =>
        have e4 : setCell k i d s3[k]? s3 = some s4 := e4
        cases g : s3[k]? with
        | none =>
          rw [g] at e4
          cases e4
        | some c =>
          rw [g] at e4
          cases c with
          | dic kvs => cases e4
          | ins _ _ => cases e4
          | lst ds =>
            obtain ⟨j, ej, rfl⟩ := Option.map_eq_some_iff.mp (show (ixN ds.length i).map (fun j => s3.set k (.lst (ds.set j d))) = some s4 from e4)
            obtain ⟨us, hv, rs⟩ := r3.at g hk
            obtain ⟨f4, r4⟩ := r3.write hk g (rs.set rd j)
            exact ⟨a, us, i, j, rfl, rfl, hv, by rw [← rs.length]; exact ej, q3 μ3 _ σ f4 r4 ((((hε.fw f1).fw f2).fw f3).fw f4)⟩
      | _ => cases e4
    | _ => cases e4

/-! ### x op= e -/
def sAug (op : D → D → S → R D) (i : Nat) (m : M) : B := fun ε s => (mVar i ε s).to fun x _ => (m ε s).to fun y s1 => (op x y s1).to fun z s2 => .nx (ε.set i (some z)) s2
theorem s_aug (i : Nat) {x : Str} {o : Operator} {r : R2} {op : D → D → S → R D} {p2 : Pos} (hr : OpR X (inplaceOp o) r) (hop : OpS X.K X.mg r op) (hN : X.N.Nodup) (he : DE X E e m) (hi : X.N[i]? = some x := by rfl) (hx : Loc X.env.scope x := by first | exact Or.inl rfl | exact Or.inr rfl) (hf : X.fn x = true ∨ X.env.scope.names.lookup x = some .local := by first | exact .inl rfl | exact .inr rfl) :
    DS X E (.AugAssign (.Name x p2) o e pos) (sAug op i m) := PSto (ps_aug hN hi hx he (fun pins s σ H x y v u Q I rx ry h => hr pins s σ H x y v u Q I rx ry h) hf) fun D' σ H ⟨ε, s, μ, hε, hr, h⟩ => by
  have h : SO X.K X.mg E μ H ((mVar i ε s).to fun x _ => (m ε s).to fun y s1 => (op x y s1).to fun z s2 => .nx (ε.set i (some z)) s2) D' := h
  cases q : ε[i]? with
  | none =>
    simp only [mVar, q] at h
    exact h.elim
  | some o =>
    cases o with
    | none =>
      simp only [mVar, q] at h
      exact h.elim
    | some d =>
      simp only [mVar, q] at h
      have h : SO X.K X.mg E μ H ((m ε s).to fun y s1 => (op d y s1).to fun z s2 => .nx (ε.set i (some z)) s2) D' := h
      obtain ⟨v, hv, rv⟩ := hε.get i d q
      refine ⟨v, hv, ε, s, μ, hε, hr, SO.to (r := m ε s) h fun y s1 μ1 H1 w f1 r1 rw' q1 => ?_⟩
      refine hop E μ1 H1 s1 d y v w _ r1 (rv.fw f1) rw' (SO.to (r := op d y s1) q1 fun z s2 μ2 H2 u f2 r2 ru q2 => ?_)
      exact q2 μ2 H2 _ Fw.refl r2 (((hε.fw f1).fw f2).set i ru)
def oIadd : D → D → S → R D
  | .int i, .int j, s => .ok (.int (i + j)) s
  | .str x, .str y, s => if x.length + y.length ≤ sizeLine then .ok (.str (x ++ y)) s else .bad
  | _, _, _ => .bad
def rIadd : R2 := fun x y H Q => rI0 (fun i j => .int (i + j)) x y H Q ∨ (∃ i j, x = .str i ∧ y = .str j ∧ i.length + j.length ≤ sizeLine ∧ Q (.str (i ++ j)) H)
theorem or_iadd : OpR X (inplaceOp .Add) rIadd := OpR.or iop_add iop_add_str
theorem os_iadd {K : PySem.W.Frag} {mg : Str → Option Value} : OpS K mg rIadd oIadd := fun E μ H s x y vx vy Q hr rx ry h => by
  cases rx with
  | int i =>
    cases ry with
    | int j => exact .inl ⟨i, j, rfl, rfl, PO.same h hr (.int _)⟩
    | _ => exact h.elim
  | str i =>
    cases ry with
    | str j =>
      obtain ⟨hl, h⟩ := PO.ite h
      exact .inr ⟨i, j, rfl, rfl, hl, PO.same h hr (.str _)⟩
    | _ => exact h.elim
  | _ => exact h.elim
theorem s_iadd (i : Nat) {x : Str} {p2 : Pos} (hN : X.N.Nodup) (he : DE X E e m) (hi : X.N[i]? = some x := by rfl) (hx : Loc X.env.scope x := by first | exact Or.inl rfl | exact Or.inr rfl) (hf : X.fn x = true ∨ X.env.scope.names.lookup x = some .local := by first | exact .inl rfl | exact .inr rfl) :
    DS X E (.AugAssign (.Name x p2) .Add e pos) (sAug oIadd i m) := s_aug i or_iadd os_iadd hN he hi hx hf

/-! ### built-ins -/
def cLen : List D → S → R D
  | [.ref k], s => match s[k]? with
    | some (.lst ds) => .ok (.int ds.length) s
    | _ => .bad
  | [.tup ds], s => .ok (.int ds.length) s
  | [.frl ds], s => .ok (.int ds.length) s
  | [.str x], s => if x.length ≤ sizeLine then .ok (.int x.length) s else .bad
  | _, _ => .bad
theorem cs_len {K : PySem.W.Frag} {mg : Str → Option Value} : CaS K mg (fun xs H Q => ∃ x n, xs = [x] ∧ LenV K x H n ∧ Q (.int n) H) cLen := fun E μ H s xs vs Q hr rs h => by
  cases rs with
  | nil => exact h.elim
  | cons r rs' =>
    cases rs' with
    | cons _ _ => cases r <;> exact h.elim
    | nil =>
      cases r with
      | @ref k a hk =>
        have h : PO K mg E μ H (match s[k]? with
          | some (.lst ds) => .ok (.int ds.length) s
          | _ => .bad) Q := h
        split at h
        · rename_i ds g
          obtain ⟨us, hv, ru⟩ := hr.at g hk
          exact ⟨_, ds.length, rfl, .inl ⟨us, SqL.of hv, ru.length⟩, PO.same h hr (.int _)⟩
        · exact h.elim
      | @tup ds p us hq ru => exact ⟨_, ds.length, rfl, .inr ⟨us, hq, ru.length⟩, PO.same h hr (.int _)⟩
      | @frl ds p us hq ru => exact ⟨_, ds.length, rfl, .inl ⟨us, hq.seq, ru.length⟩, PO.same h hr (.int _)⟩
      | str x =>
        obtain ⟨hz, h⟩ := PO.ite (show PO K mg E μ H (if x.length ≤ sizeLine then .ok (.int x.length) s else .bad) Q from h)
        exact ⟨_, x.length, rfl, ⟨hz, rfl⟩, PO.same h hr (.int _)⟩
      | _ => exact h.elim
def c1I (f : Int → D) : List D → S → R D
  | [.int i], s => .ok (f i) s
  | _, _ => .bad
theorem rvs1 {K : PySem.W.Frag} {mg : Str → Option Value} {μ : List Addr} {H : Hp} {s : S} {Q : VK} {f : Int → D} {xs : List D} {vs : List V} (rs : RVs K mg μ H xs vs) (h : PO K mg E μ H (c1I f xs s) Q) : ∃ i, xs = [.int i] ∧ vs = [.int i] ∧ PO K mg E μ H (.ok (f i) s) Q := by
  cases rs with
  | nil => exact h.elim
  | cons r rs' =>
    cases rs' with
    | cons _ _ => cases r <;> exact h.elim
    | nil =>
      cases r with
      | int i => exact ⟨i, rfl, rfl, h⟩
      | _ => exact h.elim
def cAbs : List D → S → R D := c1I fun i => .int (if i < 0 then -i else i)
theorem cs_abs {K : PySem.W.Frag} {mg : Str → Option Value} : CaS K mg (fun xs H Q => ∃ i, xs = [.int i] ∧ Q (.int (if i < 0 then -i else i)) H) cAbs := fun E μ H s xs vs Q hr rs h => by
  obtain ⟨i, _, rfl, h⟩ := rvs1 rs h
  exact ⟨i, rfl, PO.same h hr (.int _)⟩
def cInt : List D → S → R D := c1I fun i => .int i
theorem cs_int {K : PySem.W.Frag} {mg : Str → Option Value} : CaS K mg (fun xs H Q => (∃ i, xs = [.int i] ∧ Q (.int i) H) ∨ ∃ k, xs = [.bl k] ∧ Q (.int (if k then 1 else 0)) H) cInt := fun E μ H s xs vs Q hr rs h => by
  obtain ⟨i, _, rfl, h⟩ := rvs1 rs h
  exact .inl ⟨i, rfl, PO.same h hr (.int _)⟩
def cOrd : List D → S → R D
  | [.str x], s => if x.length = 1 then .ok (.int (x.cps.getD 0 0 : Nat)) s else .bad
  | _, _ => .bad
theorem cs_ord {K : PySem.W.Frag} {mg : Str → Option Value} : CaS K mg (fun xs H Q => ∃ x, xs = [.str x] ∧ x.length = 1 ∧ Q (.int (x.cps.getD 0 0 : Nat)) H) cOrd := fun E μ H s xs vs Q hr rs h => by
  cases rs with
  | nil => exact h.elim
  | cons r rs' =>
    cases rs' with
    | cons _ _ => cases r <;> exact h.elim
    | nil =>
      cases r with
      | str x =>
        obtain ⟨hz, h⟩ := PO.ite (show PO K mg E μ H (if x.length = 1 then .ok (.int (x.cps.getD 0 0 : Nat)) s else .bad) Q from h)
        exact ⟨x, rfl, hz, PO.same h hr (.int _)⟩
      | _ => exact h.elim
def c2I (f : Int → Int → D) : List D → S → R D
  | [.int i, .int j], s => .ok (f i j) s
  | _, _ => .bad
theorem rvs2 {K : PySem.W.Frag} {mg : Str → Option Value} {μ : List Addr} {H : Hp} {s : S} {Q : VK} {f : Int → Int → D} {xs : List D} {vs : List V} (rs : RVs K mg μ H xs vs) (h : PO K mg E μ H (c2I f xs s) Q) : ∃ i j, vs = [.int i, .int j] ∧ PO K mg E μ H (.ok (f i j) s) Q := by
  cases rs with
  | nil => exact h.elim
  | cons r rs' =>
    cases rs' with
    | nil => cases r <;> exact h.elim
    | cons r' rs'' =>
      cases rs'' with
      | cons _ _ => cases r <;> cases r' <;> exact h.elim
      | nil =>
        cases r with
        | int i =>
          cases r' with
          | int j => exact ⟨i, j, rfl, h⟩
          | _ => exact h.elim
        | _ => cases r' <;> exact h.elim
def cMax2 : List D → S → R D := c2I fun i j => .int (if j > i then j else i)
def cMin2 : List D → S → R D := c2I fun i j => .int (if j < i then j else i)
theorem cs_max2 {K : PySem.W.Frag} {mg : Str → Option Value} : CaS K mg (fun xs H Q => ∃ i j, xs = [.int i, .int j] ∧ Q (.int (if j > i then j else i)) H) cMax2 := fun E μ H s xs vs Q hr rs h => by
  obtain ⟨i, j, rfl, h⟩ := rvs2 rs h
  exact ⟨i, j, rfl, PO.same h hr (.int _)⟩
theorem cs_min2 {K : PySem.W.Frag} {mg : Str → Option Value} : CaS K mg (fun xs H Q => ∃ i j, xs = [.int i, .int j] ∧ Q (.int (if j < i then j else i)) H) cMin2 := fun E μ H s xs vs Q hr rs h => by
  obtain ⟨i, j, rfl, h⟩ := rvs2 rs h
  exact ⟨i, j, rfl, PO.same h hr (.int _)⟩
def cTuple : List D → S → R D
  | [.ref k], s => match s[k]? with
    | some (.lst ds) => .ok (.tup ds) s
    | _ => .bad
  | [.frl ds], s => .ok (.tup ds) s
  | [.tup ds], s => .ok (.tup ds) s
  | _, _ => .bad
theorem cs_tuple {K : PySem.W.Frag} {mg : Str → Option Value} : CaS K mg (fun xs H Q => ∃ p ys, xs = [.ref p] ∧ ((SqL K H p ys ∧ ∀ l, H l = none → Q (.ref l) (upd H l (.tup ys))) ∨ (SqT K H p ys ∧ Q (.ref p) H))) cTuple := fun E μ H s xs vs Q hr rs h => by
  cases rs with
  | nil => exact h.elim
  | cons r rs' =>
    cases rs' with
    | cons _ _ => cases r <;> exact h.elim
    | nil =>
      cases r with
      | @ref k a hk =>
        have h : PO K mg E μ H (match s[k]? with
          | some (.lst ds) => .ok (.tup ds) s
          | _ => .bad) Q := h
        split at h
        · rename_i ds g
          obtain ⟨us, hv, ru⟩ := hr.at g hk
          exact ⟨a, us, rfl, .inl ⟨SqL.of hv, fun l hl => PO.tuple h hr ru hl⟩⟩
        · exact h.elim
      | @tup ds p us hq ru => exact ⟨p, us, rfl, .inr ⟨hq, PO.same h hr (.tup hq ru)⟩⟩
      | @frl ds p us hq ru => exact ⟨p, us, rfl, .inl ⟨hq.seq, fun l hl => PO.tuple h hr ru hl⟩⟩
      | _ => exact h.elim
def cList : List D → S → R D
  | [.ref k], s => match s[k]? with
    | some (.lst ds) => .ok (.ref s.length) (s ++ [C.lst ds])
    | _ => .bad
  | [.frl ds], s => .ok (.ref s.length) (s ++ [C.lst ds])
  | [.tup ds], s => .ok (.ref s.length) (s ++ [C.lst ds])
  | _, _ => .bad
theorem cs_list {K : PySem.W.Frag} {mg : Str → Option Value} : CaS K mg (fun xs H Q => ∃ p ys, xs = [.ref p] ∧ (SqL K H p ys ∨ SqT K H p ys) ∧ ∀ l, H l = none → Q (.ref l) (upd H l (.lst ys))) cList := fun E μ H s xs vs Q hr rs h => by
  cases rs with
  | nil => exact h.elim
  | cons r rs' =>
    cases rs' with
    | cons _ _ => cases r <;> exact h.elim
    | nil =>
      cases r with
      | @ref k a hk =>
        have h : PO K mg E μ H (match s[k]? with
          | some (.lst ds) => .ok (.ref s.length) (s ++ [C.lst ds])
          | _ => .bad) Q := h
        split at h
        · rename_i ds g
          obtain ⟨us, hv, ru⟩ := hr.at g hk
          exact ⟨a, us, rfl, .inl (SqL.of hv), fun l hl => PO.list h hr ru hl⟩
        · exact h.elim
      | @tup ds p us hq ru => exact ⟨p, us, rfl, .inr hq, fun l hl => PO.list h hr ru hl⟩
      | @frl ds p us hq ru => exact ⟨p, us, rfl, .inl hq.seq, fun l hl => PO.list h hr ru hl⟩
      | _ => exact h.elim
def cStr : List D → S → R D
  | [.int i], s => if i.natAbs.log2 < 1920 then .ok (.str (Str.ofString (toString i))) s else .bad
  | _, _ => .bad

/-! ### isinstance(x, T), T built-in -/
def tyName : D → S → Option String
  | .non, _ => some "NoneType"
  | .bl _, _ => some "bool"
  | .int _, _ => some "int"
  | .str _, _ => some "str"
  | .tup _, _ => some "tuple"
  | .frl _, _ => some "list"
  | .ref k, s => match s[k]? with
    | some (.lst _) => some "list"
    | some (.dic _) => some "dict"
    | _ => none
  | _, _ => none
def kitO (t : Option String) (n : String) : Option Bool := match t with
  | some t => kitB t n
  | none => none
def cIsi : List D → S → R D
  | [x, .ty n], s => match kitO (tyName x s) n with
    | some b => .ok (.bl b) s
    | none => .bad
  | _, _ => .bad
theorem tyName_rv {K : PySem.W.Frag} {mg : Str → Option Value} {μ : List Addr} {H : Hp} {s : S} {x : D} {v : V} {t : String} (hr : Rel K mg μ s H) (r : RV K mg μ H x v) (h : tyName x s = some t) : TyX K H v (.type t) := by
  cases r with
  | non => cases h; exact .base .non
  | bl b => cases h; exact .base (.bl b)
  | int i => cases h; exact .base (.int i)
  | str x => cases h; exact .base (.str x)
  | ty n => cases h
  | fn h' => cases h
  | exn _ _ _ => cases h
  | @tup ds p us hq ru =>
    cases h
    rcases hq with (hq | ⟨o, hq⟩) | ⟨o, _, _, hq, hc, _⟩
    · exact .base (.tup hq)
    · exact .fTuple hq
    · exact .kTuple hq hc
  | @frl ds p us hq ru =>
    cases h
    rcases hq with ⟨o, hq⟩ | ⟨o, _, _, hq, hc, _⟩
    · exact .base (.frz hq)
    · exact .kList hq hc
  | @ref k a hk =>
    have h : (match s[k]? with
      | some (.lst _) => some "list"
      | some (.dic _) => some "dict"
      | _ => none) = some t := h
    split at h
    · rename_i ds g
      cases h
      obtain ⟨us, hv, _⟩ := hr.at g hk
      exact .base (.lst hv)
    · rename_i kvs g
      cases h
      obtain ⟨us, hv, _⟩ := hr.at g hk
      exact .base (.dK hv)
    · cases h
theorem cs_isi {K : PySem.W.Frag} {mg : Str → Option Value} : CaS K mg (rIsi K) cIsi := fun E μ H s xs vs Q hr rs h => by
  cases rs with
  | nil => exact h.elim
  | @cons x v _ _ r rs' =>
    cases rs' with
    | nil => exact h.elim
    | cons r' rs'' =>
      cases rs'' with
      | cons _ _ => cases r' <;> exact h.elim
      | nil =>
        cases r' with
        | ty n =>
          have h : PO K mg E μ H (match kitO (tyName x s) n with
            | some b => .ok (.bl b) s
            | none => .bad) Q := h
          cases e : tyName x s with
          | none =>
            rw [e] at h
            exact h.elim
          | some t =>
            rw [e] at h
            cases e2 : kitB t n with
            | none =>
              simp only [kitO, e2] at h
              exact h.elim
            | some b =>
              simp only [kitO, e2] at h
              exact ⟨v, .ty n, .type t, .type n, b, rfl, .ty n, tyName_rv hr r e, kit_ty e2, PO.same h hr (.bl b)⟩
        | _ => exact h.elim
end
end Mi

/-! Mi: an own error over own errors over ValueError, whose __init__ says super().__init__(at); self.at = at -/
namespace Mi
open PySem PySem.Spec PyProof.Rows L2
namespace ErrX
open PySem.W PySem.Calls PySem.HandSPX
def iA (p1 p2 : Pos) : Arguments := { posonlyargs := [], args := [{ arg := "self", annotation := none, pos := p1 }, { arg := "at", annotation := none, pos := p2 }], vararg := none, kwonlyargs := [], kw_defaults := [], kwarg := none, defaults := [] }
def iB (q1 q2 q3 q4 q5 r1 r2 r3 r4 : Pos) : List Stmt := [.Expr (.Call (.Attribute (.Call (.Name "super" q1) [] [] q2) "__init__" q3) [.Name "at" q4] [] q5) q5, .Assign [.Attribute (.Name "self" r1) "at" r2] (.Name "at" r3) r4]
def iS : Scope := { kind := .function, names := [(PySem.Str.ofString "self", .local), (PySem.Str.ofString "at", .local), (PySem.Str.ofString "__class__", .free), (PySem.Str.ofString "super", .globalImplicit)], isGenerator := false, isCoroutine := false, more := [] }
/-- what the written part says of the class at C, and of its __init__, at fI -/
structure Txt (P : Program) (K : Frag) (mg : Str → Option Value) (C fI : Addr) : Prop where
  cls : ∃ nm q N bs bm sn sub ab col dd k0 k1 k2 k3 k5, K.lookup C = some (excClassObj nm q C N bs bm true sn sub ab col dd k0 k1 k2 k3 k5 "ValueError.__new__") ∧ refsVE bm = true ∧ alongIn K "__init__" bm = some (some (.builtin "ValueError.__init__"))
  sa : findIn K (.ref C) "__setattr__" = some (some (.builtin "object.__setattr__"))
  noN : findIn K (.ref C) "at" = some none
  iC : findIn K (.ref C) "__init__" = some (some (.ref fI))
  tC : typeIn K (.ref fI) = some (.type "function")
  kC : keepIn K (.ref C) = true
  exC : subIn K (.ref C) (.type "BaseException") = some true
  veC : subIn K (.ref C) (.type "ValueError") = some true
  tyC : typeIn K (.ref C) = some (.type "type")
  noS : mg "super" = none
  ops : nsIn K cStatics "thirdparty.any" = some none
  fn : ∃ (oc kV doc pm : Value) (od : Option Addr) (an : Option Addr) (cda : Addr) (ct : Value) (osl : Array (Option Value)) (p1 p2 q1 q2 q3 q4 q5 r1 r2 r3 r4 : Pos) (cc : Addr) (qual : Str),
    K.lookup fI = some ⟨oc, od, .func (ksFn "__init__" qual (iA p1 p2) (iB q1 q2 q3 q4 q5 r1 r2 r3 r4) iS .none kV doc pm an (.ref cda) ct cc), osl⟩ ∧ codeIn K (.ref cda) qual = true ∧
    (∃ cl cld csl, K.lookup cc = some ⟨cl, cld, .cell (some (.ref C)), csl⟩) ∧ ∃ ccl cdd vs ccs file tf, K.lookup cda = some ⟨ccl, cdd, .fields vs, ccs⟩ ∧ vs[2]? = some (.str file tf) ∧ ((P.main.file : Str) == file) = true ∧ (q3.endLine == q5.line) = true
  top : (P.main.scope.names.lookup ("super" : Str)).isSome = false
theorem dropOwn (C : Addr) (l : List Value) : ((Value.ref C :: l).dropWhile (· != .ref C)).drop 1 = l := by
  simp [List.dropWhile_cons]
theorem one_size (v : Value) : [v].length ≤ sizeLine := by
  rw [sizeLine_eq]
  exact (by decide : 1 ≤ 16777216)
/-- what __init__ leaves of a fresh exception at x -/
structure InitEnd (h h' : Heap) (x C dx t1 : Addr) (v : Value) : Prop where
  keep : ∀ b o, b ≠ x → h.get? b = some o → h'.get? b = some o
  obj : h'.get? x = some { cls := .ref C, dict := some dx, data := .fields #[.ref t1, .none, .none, .none, .bool false, .none] }
  dbig : h.objs.size ≤ dx
  dne : dx ≠ x
  ns : h'.Ns1 dx (fun y => if y = "at" then some v else none)
section
variable {prog : Program} {w : World} {A : Around} {E : Value → Shared → Prop} {R : Result → Shared → Prop} {s : Shared} {K : Frag} {mg : Str → Option Value} {C fI : Addr}
theorem kept_but {K : Frag} {h h' : Heap} {x : Addr} (X : K.In h) (hx : K.lookup x = none) (k : ∀ b o, b ≠ x → h.get? b = some o → h'.get? b = some o) : K.In h' := fun a o e =>
  k a o (fun z => by rw [z, hx] at e; cases e) (X a o e)
theorem mw_call {K : Frag} {u e t0 C : Addr} {rest : List Value} {Q : Value → Shared → Prop} {h : Heap} {g : Array GenState} {d : Drawn} {t : Nat} {os : OsState} {nm q : Str} {N : Addr} {bs bm : List Value} {hdct : Bool} {sn : List Str} {sub : List Value} {ab : Bool} {col : Option Bool} {dd : Option Addr} {k0 k1 k2 k3 k5 : Option Value}
    (hC : h.get? C = some (excClassObj nm q C N bs bm hdct sn sub ab col dd k0 k1 k2 k3 k5 "ValueError.__new__")) (he : h.get? e = some (excO C t0)) (hu : h.get? u = some (kxs_mw "ValueError.__init__" e)) (hrest : rest.length ≤ sizeLine)
    (hq : ∀ h' t1, (∀ b o, b ≠ e → h.get? b = some o → h'.get? b = some o) → h'.get? e = some (excO C t1) → Q .none ⟨h', g, d, t, os⟩) :
    wpAny (model prog w) A (call (.ref u) rest) Q E ⟨h, g, d, t, os⟩ := by
  refine wpAny_call (codeAny_of_tree ?_)
  show wpAny _ A.in1 (callAny (.ref u) ⟨rest, []⟩) _ _ _
  simp only [callAny]
  refine wpAny_bind (wpAny_load hu ?_)
  simp only [kxs_mw, show (Value.type "method-wrapper" == Value.type "method" || Value.type "method-wrapper" == Value.type "builtin_function_or_method" || Value.type "method-wrapper" == Value.type "method-wrapper") = true by decide, if_true]
  refine KFB.if_so (by decide) ?_
  refine wpAny_bind (check_bound_init F.excBase_ValueError.toExcCallFacts hC he rfl ?_)
  refine wpAny_bind (wpAny_pure (wpAny_pure ?_))
  refine ⟨plainId_quiet F.excBase_ValueError.init.plain _, codeAny_builtin F.excBase_ValueError.initEntry ?_⟩
  exact exc_init_tree (cls := .ref C) (t0 := t0) (dv := none) (c2 := .none) (c3 := .none) (b4 := .bool false) he hrest fun h' k e' t' => hq h' _ k e'

theorem ldE {M : Model} {s : Shared} {env : Env} {m : Str → Option Value} {x : Str} {pos : Pos} {v : Value} {Q : Value → Shared → Prop} {A : Around} {E : Value → Shared → Prop} (hn : s.heap.Ns env.locals m) (hv : m x = some v) (h : Q v s)
    (hk : env.scope.kind = .function) (hl : env.kindOf x = some .local) (hd : (x == ("__debug__" : Str)) = false := by decide) : wpAny M A (eval (.Name x pos) env) Q E s := wpAny_Name (wpAny_loadName_local hk hl hn hv h) hd
theorem eval_super {q1 q2 q3 q4 q5 : Pos} (h : (q3.endLine == q5.line) = true) (env : Env) : eval (.Call (.Attribute (.Call (.Name "super" q1) [] [] q2) "__init__" q3) [.Name "at" q4] [] q5) env = (do
      let ov ← attributeBase (.Call (.Name "super" q1) [] [] q2) "__init__" env (eval (.Call (.Name "super" q1) [] [] q2) env)
      standAt q3.atName
      let (f, first) ← holding [ov] (getMethod ov "__init__" (do return (← importBound (.Call (.Name "super" q1) [] [] q2) env).getD true))
      callWith q5 f first (backTo q5 (starEach [.Name "at" q4] env)) []) := by
  show (do
    let ov ← attributeBase (.Call (.Name "super" q1) [] [] q2) "__init__" env (eval (.Call (.Name "super" q1) [] [] q2) env)
    standAt q3.atName
    methodCall (.Call (.Name "super" q1) [] [] q2) "__init__" q3 q5 env ov (1 + 0) (backTo q5 (starEach [.Name "at" q4] env)) (backToKw q5 (keywordEach [] env))) = _
  unfold methodCall methodCallPos
  rw [h, Bool.or_true, if_pos rfl]
  rfl
theorem iS_cell : ∀ x ∈ iS.names, x.2 ≠ .cell := by decide +kernel
theorem iS_loc {a v : Value} : ∀ y ∈ ([("self", a), ("at", v)] : List (Str × Value)), iS.names.lookup y.1 = some .local := fun y hy => by
  rcases List.mem_cons.mp hy with rfl | hy
  · rfl
  · rcases List.mem_cons.mp hy with rfl | hy
    · rfl
    · cases hy
theorem err_init (T : Txt prog K mg C fI) {x t0 : Addr} {v : Value} {mb : Str → Option Value} (X : K.In s.heap) (hlim : s.heap.NoLimit) (hg : s.heap.Ns mainGlobals mg) (hb : s.heap.Ns builtinsNs mb) (hbs : mb "super" = some (.type "super"))
    (hx : s.heap.get? x = some (excO C t0)) (hnx : K.lookup x = none) (hroom : A.depth < recursionLimit)
    (hq : ∀ h' tk dx t1, InitEnd s.heap h' x C dx t1 v → R (.ok (.ret .none)) { s with heap := h', toks := tk }) :
    codeAny (model prog w) A (.call (.ref fI) ⟨[.ref x, v], []⟩) R s := by
  obtain ⟨oc, kV, doc, pm, od, an, cda, ct, osl, p1, p2, q1, q2, q3, q4, q5, r1, r2, r3, r4, cc, qual, ho, hcd, ⟨cl, cld, csl, hcell⟩, ccl, cdd, vs, ccs, file, tf, hcode, hvs, hfile, hline⟩ := T.fn
  obtain ⟨nm, q, N, bs, bm, sn, sub, ab, col, dd, k0, k1, k2, k3, k5, hC, hbm, hal⟩ := T.cls
  have hcl : clsIn K C = some { name := nm, bases := bs, mro := .ref C :: bm, ns := N, qualname := q, hasDict := true, slotNames := sn, subclasses := sub, abstract := ab, collection := col, hasDel := false } := by unfold clsIn; rw [hC] <;> rfl
  have hmro : mroIn K C (.ref C) = some true := by
    unfold mroIn
    rw [hcl, Option.bind_some]
    show (if (List.isEmpty (Value.ref C :: bm)) = true then _ else _) = _
    rw [if_neg (show ¬ (List.isEmpty (Value.ref C :: bm) = true) from Bool.false_ne_true)]
    simp
  refine ks_codeAny_call_defAt (body := iB q1 q2 q3 q4 q5 r1 r2 r3 r4) (binds := [("self", .ref x), ("at", v)]) hroom (X _ _ ho) rfl hlim (codeRec_of X hcd) rfl (BindsTo.of_eq (by first | rfl | with_unfolding_all rfl)) iS_cell iS_loc (fun h₁ hn k => ?_) rfl rfl rfl
  obtain ⟨hp, g, dr, tk, os⟩ := s
  generalize hL : hp.objs.size = L at hn
  have X₁ : K.In h₁ := X.keeps k
  have hx₁ := k _ _ hx
  have xC : x ≠ C := fun z => by
    rw [z, hC] at hnx
    cases hnx
  have hself : (fun x_1 => List.lookup x_1 [(("self" : Str), Value.ref x), (("at" : Str), v)].reverse) "self" = some (.ref x) := by first | rfl | with_unfolding_all rfl
  have hat : (fun x_1 => List.lookup x_1 [(("self" : Str), Value.ref x), (("at" : Str), v)].reverse) "at" = some v := by first | rfl | with_unfolding_all rfl
  have IA : InstAt h₁ x (excO C t0) C none := ⟨hx₁, rfl, rfl, trivial⟩
  have isV : Looks (model prog w) h₁ (isInstance (.ref x) (.type "ValueError")) true := IA.type.andThen (looks_subIn X₁ T.veC)
  refine ks_wpAt_execs_cons (ks_wpAt_Expr_any (ks_wpAt_MethodCall ?_ (eval_super hline _)))
  refine ks_wpAt_super_base (f := fI) (cc := cda) (ar := { arg := "self", annotation := none, pos := p1 }) (vs := vs) (file := file) (tf := tf) rfl rfl (by decide +kernel) rfl (k _ _ (X _ _ ho)) rfl rfl rfl (X₁ _ _ hcode) rfl hvs hfile T.top ?_
  refine ks_loadName_global rfl rfl (loadGlobal_builtin (hg.keeps k) T.noS (hb.keeps k) hbs ⟨rfl, ?_⟩)
  refine wpAny_loadName_free rfl rfl rfl ⟨_, X₁ _ _ hcell, rfl⟩ ?_
  refine wpAny_loadName_local rfl rfl hn hself ?_
  refine ks_wpAny_isType_cls (X₁ _ _ hC) rfl ⟨rfl, ?_⟩
  refine ks_wpAny_call_super (X₁ _ _ hC) rfl hx₁ rfl (fun c z => by cases z) (looks_mroIn X₁ hmro) (fun h2 e2 k2 => ?_)
  have X₂ : K.In h2 := X₁.keeps k2
  refine kxs_getMethod kxs_ValueError e2 (looks_opaque X₂ T.ops) (l₀ := .ref C :: bm) (l := bm) (fun A Q E s kk q => wpAny_bind ((looks_clsIn X₂ hcl) A _ E s kk (wpAny_pure q))) (dropOwn C bm) X₂ hal (isV.keeps k2) xC (by decide +kernel) ?_
  have k3 : ∀ b o, h2.get? b = some o → (h2.push (kxs_mw "ValueError.__init__" x)).get? b = some o := fun b o e => Heap.get?_push_of_some _ e
  have hx3 := k3 _ _ (k2 _ _ hx₁)
  have hC3 := (X₂.keeps k3) _ _ hC
  have hu3 : (h2.push (kxs_mw "ValueError.__init__" x)).get? h2.objs.size = some (kxs_mw "ValueError.__init__" x) := by heap_get
  have hn3 := (hn.keeps k2).keeps k3
  have keep3 : ∀ b o, h₁.get? b = some o → (h2.push (kxs_mw "ValueError.__init__" x)).get? b = some o := fun b o e => k3 b o (k2 b o e)
  generalize h2.objs.size = u at hu3
  generalize h2.push (kxs_mw "ValueError.__init__" x) = h3 at *
  refine kxs_callWith (i := "ValueError.__init__") (x := x) (by rfl) (evalArgs_plain ?_)
  refine spliced_cons (ldE hn3 hat ?_ rfl rfl)
  refine spliced_nil ⟨hu3, ?_⟩
  show wpAny _ _ (call (.ref u) [v]) _ _ _
  refine mw_call (K := K) hC3 hx3 hu3 (one_size v) (fun h4 t1 k4 hx4 => ?_)
  have Lx : L ≠ x := by
    rw [← hL]
    exact Nat.ne_of_gt (Heap.lt_size (show hp.get? x = some _ from hx))
  have hn4 : h4.Ns L (fun x_1 => List.lookup x_1 [(("self" : Str), Value.ref x), (("at" : Str), v)].reverse) := hn3.at fun o e => k4 _ _ Lx e
  have X₄ : K.In h4 := kept_but (X₁.keeps keep3) hnx k4
  refine ks_wpAt_execs_cons (ks_wpAt_Assign_Attr (wpAt_of_wpAny ?_))
  refine ldE hn4 hat (ldE hn4 hself ?_ rfl rfl) rfl rfl
  refine set_plain X₄ (ox := excO C t1) (od := none) ⟨hx4, rfl, rfl, trivial⟩ T.sa ?_
  refine exc_osa X₄ hx4 hcl (show refsVE (.ref C :: bm) = true from hbm) rfl T.noN (fun h5 tk5 dx k5 dn dne hx5 hn5 => ?_)
  refine wpAt_of_wpAny (wpAny_execs_nil ?_)
  refine hq h5 tk5 dx t1 ⟨fun b o hb e => k5 b o hb (k4 b o hb (keep3 b o (k b o e))), hx5, ?_, dne, hn5⟩
  show hp.objs.size ≤ dx
  rw [hL]
  exact Nat.le_of_lt (Nat.lt_of_lt_of_le hn4.lt dn)
/-- a made error -/
structure Made (h h' : Heap) (e C d : Addr) (v : Value) : Prop where
  keep : ∀ b o, h.get? b = some o → h'.get? b = some o
  new : h.objs.size ≤ e
  obj : ∃ oe vs, h'.get? e = some oe ∧ oe.cls = .ref C ∧ oe.dict = some d ∧ oe.data = .fields vs ∧ vs[1]? = some .none
  dbig : h.objs.size ≤ d
  dne : d ≠ e
  ns : h'.Ns1 d (fun y => if y = "at" then some v else none)
theorem err_made (T : Txt prog K mg C fI) {v : Value} {mb : Str → Option Value} (X : K.In s.heap) (hlim : s.heap.NoLimit) (hg : s.heap.Ns mainGlobals mg) (hb : s.heap.Ns builtinsNs mb) (hbs : mb "super" = some (.type "super")) (hroom : A.depth + 1 < recursionLimit)
    (hq : ∀ h' tk e d, Made s.heap h' e C d v → R (.ok (.ret (.ref e))) { s with heap := h', toks := tk }) :
    codeAny (model prog w) A (.call (.ref C) ⟨[v], []⟩) R s := by
  obtain ⟨nm, q, N, bs, bm, sn, sub, ab, col, dd, k0, k1, k2, k3, k5, hC, hbm, hal⟩ := T.cls
  obtain ⟨hp, g, dr, tk, os⟩ := s
  have k : ∀ b o, hp.get? b = some o → ((hp.push (kdv_tup [v])).push (excO C hp.objs.size)).get? b = some o := fun b o e => Heap.get?_push_of_some _ (Heap.get?_push_of_some _ e)
  have hget : ((hp.push (kdv_tup [v])).push (excO C hp.objs.size)).get? (hp.objs.size + 1) = some (excO C hp.objs.size) := by heap_get
  have hnx : K.lookup (hp.objs.size + 1) = none := by
    cases e : K.lookup (hp.objs.size + 1) with
    | none => rfl
    | some o =>
      have z : hp.get? (hp.objs.size + 1) = some o := X _ _ e
      exact absurd (Nat.lt_of_succ_lt (Heap.lt_size z)) (Nat.lt_irrefl _)
  refine call_own F.excBase_ValueError (fun X => refsVE_contains X bm hbm) (X _ _ hC) (looks_findIn X T.iC) (fun self => bind_fn X self T.tC) (one_size v) ?_
  refine err_init (s := ⟨(hp.push (kdv_tup [v])).push (excO C hp.objs.size), g, dr, tk, os⟩) T (X.keeps k) (hlim.keeps k) (hg.keeps k) (hb.keeps k) hbs hget hnx ?_ fun h' tk' dx t1 ⟨k', hx, dn, dne, hns⟩ => ?_
  · show A.depth + 1 < recursionLimit
    exact hroom
  · have old : ∀ b o, hp.get? b = some o → h'.get? b = some o := fun b o e => k' b o (Nat.ne_of_lt (Nat.lt_succ_of_lt (Heap.lt_size e))) (k b o e)
    have z : hp.objs.size + 1 + 1 ≤ dx := by
      first
        | (simpa only [Heap.size_push] using dn)
        | exact dn
        | (have q := dn; rw [Heap.size_push, Heap.size_push] at q; exact q)
    exact ⟨rfl, hq h' tk' (hp.objs.size + 1) dx ⟨old, Nat.le_succ _, ⟨_, _, hx, rfl, rfl, rfl, rfl⟩, Nat.le_trans (Nat.le_trans (Nat.le_succ _) (Nat.le_succ _)) z, dne, hns⟩⟩
end
end ErrX
theorem relO_at {v : V} {v' : Value} (r : RelV v v') (f : Str) : RelO (List.lookup f [(("at" : Str), v)]) (if f = "at" then some v' else none) := by
  by_cases hw : f = "at"
  · subst hw
    rw [if_pos rfl]
    have q : List.lookup ("at" : Str) [(("at" : Str), v)] = some v := by simp [List.lookup]
    rw [q]
    exact r
  · rw [if_neg hw]
    have qw : (f == ("at" : Str)) = false := by simpa using hw
    have q2 : List.lookup f [(("at" : Str), v)] = none := by simp [List.lookup, qw]
    rw [q2]
    trivial
section
variable {X : Cx} {C fI : Addr} {cn : Str}
/-- Err(e) -/
def tMkErr (C : Addr) (ta : TA) : L2.St → Hp → XK → Prop := fun σ H Q => ta σ H fun vs H1 => ∃ v, vs = [v] ∧ ∀ d, H1 d = none → Q (.ref C) (some d) (upd H1 d (.xd [(("at" : Str), v)]))
theorem pmk_err {a : Expr} {ta : TA} {p pos : Pos} {k : Nat} (T : ErrX.Txt X.prog X.K X.mg C fI) (hr : Room k X.A) (ha : PA X [a] ta) (hm : X.mg cn = some (.ref C)) (hg : Gl X cn := by rfl) (hdb : (cn == ("__debug__" : Str)) = false := by decide)
    (he : starEach (a :: []) X.env = (false, eval a X.env) :: starEach [] X.env := by rfl) (hpl : (backTo pos (starEach [] X.env)).any (·.1) = false := by rfl) :
    PMk X (.Call (.Name cn p) [a] [] pos) (tMkErr C ta) := by
  intro pins s σ H Q I h
  refine wpAny_Call_Name_kw (ld_glob I hg hm ?_ hdb)
  refine PySem.W.callWith_K (h₀ := X.base) I.ok.mod.kin T.kC (thn (ha.run pos pins s σ H _ I h) fun us s1 hh => ?_) he hpl
  obtain ⟨vs, H1, I1, r1, v, ev, q1⟩ := hh
  subst ev
  refine ⟨I1.kIn, ?_⟩
  cases r1 with
  | cons rv rn =>
    rename_i v' us'
    cases rn
    show wpAny _ _ (call (.ref C) [v']) _ _ _
    have hlim := I1.nolimit
    obtain ⟨mb, h1, h2⟩ := I1.mod.blt
    have hbk := I1.bk
    have hgl := I1.mod.glob.keeps I1.bk
    have hbl := h1.keeps I1.bk
    obtain ⟨hp, g, dr, tk, os⟩ := s1
    refine wpAny_call (ErrX.err_made T I1.kIn hlim hgl hbl ((h2 "super" (by decide)).trans (by first | boot_by_name | rfl | kernel_rfl)) (by have := hr.dp; omega) fun h' tk' e d M => ?_)
    show MkP X pins σ Q (.ref e) ⟨h', g, dr, tk', os⟩
    obtain ⟨oe, fv, hoe, hc, hd, hdat, h1⟩ := M.obj
    have hns := M.ns
    obtain ⟨G', g1, g2⟩ := restrict h' fun b => decide (b ≠ e)
    have gk : ∀ b, b ≠ e → G'.get? b = h'.get? b := fun b hb => g1 b (decide_eq_true hb)
    have ge : G'.get? e = none := g2 e (by simp)
    have old : ∀ b o, hp.get? b = some o → G'.get? b = some o := fun b o q => (gk b (Nat.ne_of_lt (Nat.lt_of_lt_of_le (Heap.lt_size q) M.new))).trans (M.keep b o q)
    have ob : ObjOk X.prog X.w (upd H1 d (.xd [(("at" : Str), v)])) G' d (.xd [(("at" : Str), v)]) :=
      ⟨_, hns.at (fun o q => (gk d M.dne).trans q), fun f => relO_at rv f⟩
    have J : Inv X pins σ (upd H1 d (.xd [(("at" : Str), v)])) ⟨G', g, dr, tk', os⟩ := I1.laid (t' := tk') old M.dbig ob
    refine ⟨e, oe, fv, ⟨G', g, dr, tk', os⟩, _, .ref C, some d, rfl, J, fun b o q => ?_, ge, hoe, ⟨hc, hd⟩, hdat, h1, ?_, rfl, I1.bare, raises_own T.exC T.tyC, q1 d (I1.hok.fresh M.dbig)⟩
    · by_cases hb : b = e
      · have q' : G'.get? b = some o := q
        rw [hb, ge] at q'; cases q'
      · exact (gk b hb).symm.trans q
    · rw [upd_ne (Ne.symm M.dne)]
      exact I1.hok.fresh M.new
/-- raise Err(e) -/
def sRaise (cn : Str) (m : M) : B := fun ε s => (m ε s).to fun d s1 => .ex cn "at" d s1
theorem s_raise {E : XK} {a : Expr} {m : M} {p pos pos2 : Pos} {k : Nat} (T : ErrX.Txt X.prog X.K X.mg C fI) (hc : X.calm = true) (hr : Room k X.A) (tk : Takes X (fun cls d _ H => E cls d H)) (ha : DE X E a m) (hm : X.mg cn = some (.ref C)) (hg : Gl X cn := by rfl) (hdb : (cn == ("__debug__" : Str)) = false := by decide)
    (he : starEach (a :: []) X.env = (false, eval a X.env) :: starEach [] X.env := by rfl) (hpl : (backTo pos (starEach [] X.env)).any (·.1) = false := by rfl) :
    DS X E (.Raise (some (.Call (.Name cn p) [a] [] pos)) none pos2) (sRaise cn m) := PSto (ps_raise hc tk (pmk_err T hr (a_cons ha a_nil he) hm hg hdb he hpl)) fun D σ H ⟨ε, s, μ, hε, hr, h⟩ => by
  refine ⟨ε, s, μ, hε, hr, ?_⟩
  have h : SO X.K X.mg E μ H ((m ε s).to fun d s1 => .ex cn "at" d s1) D := h
  show PL X.K X.mg E μ H ((m ε s).bind fun x s1 => R.ok [x] s1) _
  cases e : m ε s with
  | ok d s1 =>
    rw [e] at h
    intro μ1 H1 vs f1 r1 rvs
    cases rvs with
    | @cons _ v0 _ _ rv rs =>
      cases rs
      refine ⟨_, rfl, fun dx hdx => ?_⟩
      have h : Ex X.K X.mg E μ H cn "at" d s1 := h
      have f2 : Fw X.K μ1 H1 μ1 (upd H1 dx (.xd [(("at" : Str), v0)])) := Fw.new0 hdx
      exact h μ1 _ C dx _ (f1.trans f2) (r1.new0 hdx) hm upd_same (rv.fw f2)
  | exc c f d s1 =>
    rw [e] at h
    exact h
  | bad =>
    rw [e] at h
    exact h.elim
end
end Mi

namespace Mi
open PySem PySem.Spec PyProof.Rows L2

/-! ### what a call may let out, by the slots -/
def tMs (K : PySem.W.Frag) (mg : Str → Option Value) (E : L2.St → XK) (m : M) : TE := fun σ H Q => ∃ ε s μ, REnv K mg μ H ε σ ∧ Rel K mg μ s H ∧ PO K mg (E σ) μ H (m ε s) Q
abbrev DEs (X : Cx) (E : L2.St → XK) (e : Expr) (m : M) : Prop := PE X e (tMs X.K X.mg E m)
theorem PL.noE {K : PySem.W.Frag} {mg : Str → Option Value} {E E' : XK} {μ : List Addr} {H : Hp} {r : R (List D)} {Q : List V → Hp → Prop} (hn : ∀ c f d s, r ≠ .exc c f d s) (h : PL K mg E μ H r Q) : PL K mg E' μ H r Q := by
  cases r with
  | ok ds s => exact h
  | exc c f d s => exact absurd rfl (hn c f d s)
  | bad => exact h
section
variable {X : Cx} {pos p : Pos} {e : Expr} {es : List Expr} {m : M} {ms : Ev → S → R (List D)} {x : Str} {k n : Nat} {W : WX}
/-- the defs that a slot may hold, each with its promise -/
def Fam (X : Cx) (k n : Nat) (G : Str → Option (List D → S → R D)) : Prop := ∀ y F a, G y = some F → X.mg y = some (.ref a) → ∃ fd ps, FnOk X.prog X.w X.K X.mg X.base (L2.CX X.prog X.w) k a fd ps (spF X.K X.mg n F) ∧ PySem.W.keepIn X.K (.ref a) = true ∧ Binds X.K fd ps []
def mCallL (G : Str → Option (List D → S → R D)) (i : Nat) (ms : Ev → S → R (List D)) : M := fun ε s => match ε[i]? with
  | some (some (.fn y)) => (match G y with
    | some F => (ms ε s).bind fun ds s1 => F ds s1
    | none => .bad)
  | _ => .bad
theorem d_callL {G : Str → Option (List D → S → R D)} {i : Nat} (hG : Fam X k n G) (hr : Room k X.A) (tk : Takes X W) (ha : DA X E0 (e :: es) ms) (hl : ∀ ε s ds s1, ms ε s = .ok ds s1 → ds.length = n) (hne : ∀ ε s c f d s1, ms ε s ≠ .exc c f d s1)
    (hN : X.N[i]? = some x := by rfl) (hv : Vis X.env.scope x := by first | exact Or.inl rfl | exact Or.inr (Or.inl rfl) | exact Or.inr (Or.inr rfl)) (hdb : (x == ("__debug__" : Str)) = false := by decide) (hcd : (x == ("__classdict__" : Str)) = false := by decide)
    (he : starEach (e :: es) X.env = (false, eval e X.env) :: starEach es X.env := by rfl) (hpl : (backTo pos (starEach es X.env)).any (·.1) = false := by rfl) : DEs X (WE W) (.Call (.Name x p) (e :: es) [] pos) (mCallL G i ms) := by
  refine ⟨fun pins s σ H Q I h => ?_⟩
  obtain ⟨ε, st, μ, hε, hrl, h⟩ := h
  unfold mCallL at h
  cases q : ε[i]? with
  | none =>
    simp only [q] at h
    exact h.elim
  | some o =>
    cases o with
    | none =>
      simp only [q] at h
      exact h.elim
    | some d =>
      cases d with
      | fn y =>
        simp only [q] at h
        cases qG : G y with
        | none =>
          simp only [qG] at h
          exact h.elim
        | some F =>
          simp only [qG] at h
          obtain ⟨v, hv1, rv⟩ := hε.get i _ q
          cases rv with
          | @fn _ a hm =>
            obtain ⟨fd, ps, FO, hk, hb⟩ := hG y F a qG hm
            have hs : σ[i]? = some (some (V.ref a)) := hv1
            have hce : tCall (spF X.K X.mg n F) [] (WE W σ) (tL X.K X.mg E0 ms) σ H Q := by
              have h' : PL X.K X.mg (WE W σ) μ H (ms ε st) fun vs H1 => spF X.K X.mg n F (vs ++ []) H1 Q (WE W σ) := by
                have h0 : PO X.K X.mg (WE W σ) μ H ((ms ε st).bind fun ds s1 => F ds s1) Q := h
                cases e1 : ms ε st with
                | ok ds s1 =>
                  intro μ1 H1 vs f1 r1 rvs
                  rw [e1] at h0
                  have h1 : PO X.K X.mg (WE W σ) μ H (F ds s1) Q := h0
                  rw [List.append_nil]
                  exact ⟨by rw [← rvs.length]; exact hl ε st ds s1 e1, ds, s1, μ1, rvs, r1, PO.fw h1 f1⟩
                | exc c f d s1 => exact absurd e1 (hne ε st c f d s1)
                | bad =>
                  rw [e1] at h0
                  exact h0.elim
              exact ⟨ε, st, μ, hε, hrl, PL.noE (fun c f d s1 => hne ε st c f d s1) h'⟩
            refine wpAny_Call_Name_kw (thn ((pe_var (pos := p) hN hv hdb hcd).run pins s σ H (fun v H1 => v = .ref a ∧ H1 = H) I ⟨.ref a, hs, rfl, rfl⟩) fun u s1 ⟨v, H1, I1, r1, q1⟩ => ?_)
            obtain ⟨rfl, rfl⟩ := q1
            cases r1
            refine PySem.W.callWith_K (h₀ := X.base) I.ok.mod.kin hk (thn (ha.run pos pins s1 σ _ _ I1 hce) fun us s2 ⟨vs, H2, I2, r, q⟩ => ⟨I2.kIn, ?_⟩) he hpl
            have q : spF X.K X.mg n F (vs ++ []) H2 Q (WE W σ) := q
            rw [List.append_nil] at q
            exact run_fnS FO hr hb (passAt tk σ) I2 r q
      | _ =>
        simp only [q] at h
        exact h.elim
/-- a call of a def that may let out an error, its arguments none -/
theorem d_callS {F : List D → S → R D} {f : Addr} {fd : FuncData} {ps : List Str} (FO : FnOk X.prog X.w X.K X.mg X.base (L2.CX X.prog X.w) k f fd ps (spF X.K X.mg n F)) (hr : Room k X.A) (hm : X.mg x = some (.ref f)) (hk : PySem.W.keepIn X.K (.ref f) = true) (hb : Binds X.K fd ps []) (tk : Takes X W) (ha : DA X E0 (e :: es) ms)
    (hl : ∀ ε s ds s1, ms ε s = .ok ds s1 → ds.length = n) (hne : ∀ ε s c f d s1, ms ε s ≠ .exc c f d s1) (hg : Gl X x := by rfl) (hdb : (x == ("__debug__" : Str)) = false := by decide)
    (he : starEach (e :: es) X.env = (false, eval e X.env) :: starEach es X.env := by rfl) (hpl : (backTo pos (starEach es X.env)).any (·.1) = false := by rfl) : DEs X (WE W) (.Call (.Name x p) (e :: es) [] pos) (mCall F ms) :=
  PEto (pe_callS FO hr hg hm hk hb (fun σ => passAt tk σ) ha hdb he hpl) fun σ H Q h => by
    obtain ⟨ε, st, μ, hε, hrl, h0⟩ := h
    refine ⟨ε, st, μ, hε, hrl, ?_⟩
    have h0 : PO X.K X.mg (WE W σ) μ H ((ms ε st).bind fun ds s1 => F ds s1) Q := h0
    cases e1 : ms ε st with
    | ok ds s1 =>
      intro μ1 H1 vs f1 r1 rvs
      rw [e1] at h0
      have h1 : PO X.K X.mg (WE W σ) μ H (F ds s1) Q := h0
      exact ⟨by rw [← rvs.length]; exact hl ε st ds s1 e1, ds, s1, μ1, rvs, r1, PO.fw h1 f1⟩
    | exc c f d s1 => exact absurd e1 (hne ε st c f d s1)
    | bad =>
      rw [e1] at h0
      exact h0.elim
end

/-! ### try: e | x = e | return e, except C as n: suite -/
def wipeO (i : Nat) : O → O
  | .nx ε s => .nx (ε.set i none) s
  | .bk ε s => .bk (ε.set i none) s
  | .ct ε s => .ct (ε.set i none) s
  | .rt d s => .rt d s
  | _ => .bad
/-- m the expression, fin what is done with its value; su: what the suite does with an error (its class, its field) -/
def sTry (i : Nat) (m : M) (fin : D → B) (su : Str → Str → D → B) : B := fun ε s => match m ε s with
  | .ok d s1 => fin d ε s1
  | .exc c f d s1 => wipeO i (su c f d ε s1)
  | .bad => .bad
theorem takesF {X : Cx} : Takes X (fun _ _ _ _ => False) := fun _ _ x => by
  obtain ⟨_, _, _, _, _, _, _, _, _, _, _, _, _, _, _, _, z⟩ := x
  exact z.elim
theorem Rel.notX {K : PySem.W.Frag} {mg : Str → Option Value} {μ : List Addr} {H : Hp} {s : S} (r : Rel K mg μ s H) {dd : Addr} {fs : List (Str × V)} (h : H dd = some (.xd fs)) : dd ∉ μ := fun z => by
  obtain ⟨o, e, m⟩ := r.isC z
  rw [h] at e
  cases e
  exact m
section
variable {X : Cx} {E : XK} {x n : Str} {c : Value} {i : Nat} {suite : List Stmt} {b₀ : Stmt} {np pos pos' : Pos} {m : M} {suM : Addr → Value → Option Addr → B} {su : Str → Str → D → B} {fin : D → B}
/-- what the suite's mirror says, whatever the error's addresses -/
def Su (X : Cx) (c : Value) (i : Nat) (suM : Addr → Value → Option Addr → B) (su : Str → Str → D → B) : Prop := ∀ (cn f : Str) (d : D) (ε : Ev) (s : S), su cn f d ε s ≠ .bad → ∀ C, X.mg cn = some (.ref C) →
  PySem.W.exmOne X.K (.ref C) c = some true ∧ ∀ a dd : Addr, suM a (.ref C) (some dd) (ε.set i (some (.exn a C dd f d))) s = su cn f d ε s
theorem try_exc (hS : Su X c i suM su) {D' : Ends} {σ : L2.St} {H : Hp} {ε : Ev} {s1 : S} {μ : List Addr} {cn f : Str} {d : D} (hε : REnv X.K X.mg μ H ε σ) (h : SO X.K X.mg E μ H (wipeO i (su cn f d ε s1)) D') :
    Ex X.K X.mg (WE (wAs X.K c i (fun a cls d => tS X.K X.mg E0 (suM a cls d)) (fun _ _ _ _ => False) D') σ) μ H cn f d s1 := by
  intro μ1 H1 C dd v f1 r1 hm hd rv
  have nb : su cn f d ε s1 ≠ .bad := fun z => by
    rw [z] at h
    exact h.elim
  obtain ⟨hx, he⟩ := hS cn f d ε s1 nb C hm
  refine ⟨true, hx, fun _ a ha => ?_, fun z => by cases z⟩
  refine ⟨ε.set i (some (.exn a C dd f d)), s1, μ1, (hε.fw f1).set i (.exn hd (r1.notX hd) rv), r1, ?_⟩
  rw [he a dd]
  have h2 := SO.fw h f1
  cases e : su cn f d ε s1 with
  | nx ε2 s2 =>
    rw [e] at h2
    exact fun μ2 H2 σ2 f2 r2 e2 => h2 μ2 H2 _ f2 r2 (e2.forget i none)
  | bk ε2 s2 =>
    rw [e] at h2
    exact fun μ2 H2 σ2 f2 r2 e2 => h2 μ2 H2 _ f2 r2 (e2.forget i none)
  | ct ε2 s2 =>
    rw [e] at h2
    exact fun μ2 H2 σ2 f2 r2 e2 => h2 μ2 H2 _ f2 r2 (e2.forget i none)
  | rt d2 s2 =>
    rw [e] at h2
    exact h2
  | ex _ _ _ _ =>
    rw [e] at h2
    exact h2.elim
  | bad =>
    rw [e] at h2
    exact h2.elim
theorem try_sat {D' : Ends} {σ : L2.St} {H : Hp} {ε : Ev} {s : S} {μ : List Addr} {Q : VK} (hS : Su X c i suM su) (hε : REnv X.K X.mg μ H ε σ) (h : SO X.K X.mg E μ H (sTry i m fin su ε s) D')
    (hk : ∀ (d : D) (s1 : S) (μ1 : List Addr) (H1 : Hp) (v : V), Fw X.K μ H μ1 H1 → Rel X.K X.mg μ1 s1 H1 → RV X.K X.mg μ1 H1 d v → SO X.K X.mg E μ1 H1 (fin d ε s1) D' → Q v H1) :
    PO X.K X.mg (WE (wAs X.K c i (fun a cls d => tS X.K X.mg E0 (suM a cls d)) (fun _ _ _ _ => False) D') σ) μ H (m ε s) Q := by
  unfold sTry at h
  cases e : m ε s with
  | ok d s1 =>
    rw [e] at h
    exact fun μ1 H1 v f1 r1 rv => hk d s1 μ1 H1 v f1 r1 rv (SO.fw (o := fin d ε s1) h f1)
  | exc cn f d s1 =>
    rw [e] at h
    exact try_exc hS hε h
  | bad =>
    rw [e] at h
    exact h.elim
variable {e : Expr} {pos1 : Pos}
theorem s_tryE (hs : X.stack = X.env :: X.outer) (hf : X.env.frame = some X.env.locals) (hN : X.N.Nodup) (hi : X.N[i]? = some n) (hln : X.env.kindOf n = some .local) (hc : Names X x c)
    (he : ∀ (W : WX) (pn : List (Addr × Obj)) (xe : Value → Shared → Prop), Takes (X.tr pn xe) W → PassesOwn (model X.prog X.w) X.A X.env xe → DEs (X.tr pn xe) (WE W) e m)
    (hsu : ∀ (a : Addr) (oe : Obj) (cls : Value) (d : Option Addr) (pn : List (Addr × Obj)), Zc cls d oe → (∃ vs, oe.data = .fields vs) → DB (X.suite a ((a, oe) :: pn)) E0 (b₀ :: suite) (suM a cls d))
    (hS : Su X c i suM su) (hsw : swapsWith e none pos1.line X.env = pure false := by rfl) : DS X E (.Try [.Expr e pos1] [.ExceptHandler (some (.Name x np)) (some n) (b₀ :: suite) pos'] [] [] pos) (sTry i m (fun _ ε s => .nx ε s) su) :=
  PSto (ps_try_as (tb := fun W => tDrop (tMs X.K X.mg (WE W) m)) (ts := fun a cls d => tS X.K X.mg E0 (suM a cls d)) (Wout := fun _ _ _ _ => False) hs hf hN hi hln hc takesF (fun W pn xe tk po => pss_one (ps_expr (he W pn xe tk po) hsw)) hsu)
    fun D σ H ⟨ε, s, μ, hε, hr, h⟩ => ⟨ε, s, μ, hε, hr, try_sat hS hε h fun d s1 μ1 H1 v f1 r1 rv q => q μ1 H1 σ Fw.refl r1 (hε.fw f1)⟩
theorem s_trySet (j : Nat) {y : Str} {pos2 : Pos} (hs : X.stack = X.env :: X.outer) (hf : X.env.frame = some X.env.locals) (hN : X.N.Nodup) (hi : X.N[i]? = some n) (hln : X.env.kindOf n = some .local) (hc : Names X x c)
    (he : ∀ (W : WX) (pn : List (Addr × Obj)) (xe : Value → Shared → Prop), Takes (X.tr pn xe) W → PassesOwn (model X.prog X.w) X.A X.env xe → DEs (X.tr pn xe) (WE W) e m)
    (hsu : ∀ (a : Addr) (oe : Obj) (cls : Value) (d : Option Addr) (pn : List (Addr × Obj)), Zc cls d oe → (∃ vs, oe.data = .fields vs) → DB (X.suite a ((a, oe) :: pn)) E0 (b₀ :: suite) (suM a cls d))
    (hS : Su X c i suM su) (hj : X.N[j]? = some y := by rfl) (hx : Loc X.env.scope y := by first | exact Or.inl rfl | exact Or.inr rfl) (hsw : swapsWith e (some (.Name y pos2)) pos1.line X.env = pure false := by rfl) (hfn : X.fn y = true ∨ X.env.scope.names.lookup y = some .local := by first | exact .inl rfl | exact .inr rfl) :
    DS X E (.Try [.Assign [.Name y pos2] e pos1] [.ExceptHandler (some (.Name x np)) (some n) (b₀ :: suite) pos'] [] [] pos) (sTry i m (fun d ε s => .nx (ε.set j (some d)) s) su) :=
  PSto (ps_try_as (tb := fun W => tAsg (tMs X.K X.mg (WE W) m) (gName j)) (ts := fun a cls d => tS X.K X.mg E0 (suM a cls d)) (Wout := fun _ _ _ _ => False) hs hf hN hi hln hc takesF (fun W pn xe tk po => pss_one (ps_set (X := X.tr pn xe) hN hj hx (he W pn xe tk po) hsw hfn)) hsu)
    fun D σ H ⟨ε, s, μ, hε, hr, h⟩ => ⟨ε, s, μ, hε, hr, try_sat hS hε h fun d s1 μ1 H1 v f1 r1 rv q => q μ1 H1 _ Fw.refl r1 ((hε.fw f1).set j rv)⟩
theorem s_tryRet (hs : X.stack = X.env :: X.outer) (hf : X.env.frame = some X.env.locals) (hN : X.N.Nodup) (hi : X.N[i]? = some n) (hln : X.env.kindOf n = some .local) (hc : Names X x c)
    (he : ∀ (W : WX) (pn : List (Addr × Obj)) (xe : Value → Shared → Prop), Takes (X.tr pn xe) W → PassesOwn (model X.prog X.w) X.A X.env xe → DEs (X.tr pn xe) (WE W) e m)
    (hsu : ∀ (a : Addr) (oe : Obj) (cls : Value) (d : Option Addr) (pn : List (Addr × Obj)), Zc cls d oe → (∃ vs, oe.data = .fields vs) → DB (X.suite a ((a, oe) :: pn)) E0 (b₀ :: suite) (suM a cls d))
    (hS : Su X c i suM su) : DS X E (.Try [.Return (some e) pos1] [.ExceptHandler (some (.Name x np)) (some n) (b₀ :: suite) pos'] [] [] pos) (sTry i m (fun d _ s => .rt d s) su) :=
  PSto (ps_try_as (tb := fun W => tRet (tMs X.K X.mg (WE W) m)) (ts := fun a cls d => tS X.K X.mg E0 (suM a cls d)) (Wout := fun _ _ _ _ => False) hs hf hN hi hln hc takesF (fun W pn xe tk po => pss_one (ps_ret (he W pn xe tk po))) hsu)
    fun D σ H ⟨ε, s, μ, hε, hr, h⟩ => ⟨ε, s, μ, hε, hr, try_sat hS hε h fun d s1 μ1 H1 v f1 r1 rv q => q μ1 H1 v Fw.refl r1 rv⟩
end

/-! ### in the suite: e.at, isinstance(e, T) -/
open Classical in
noncomputable def mAtK (a : Addr) (cls : Value) (dd : Option Addr) (C₀ : Addr) : D → S → R D
  | .exn a' C dd' f d, s => if a' = a ∧ cls = .ref C ∧ dd = some dd' ∧ C = C₀ ∧ f = "at" then .ok d s else .bad
  | _, _ => .bad
noncomputable def mAt (a : Addr) (cls : Value) (dd : Option Addr) (C₀ : Addr) (m : M) : M := fun ε s => (m ε s).bind (mAtK a cls dd C₀)
section
variable {X : Cx} {E : XK} {a C₀ : Addr} {oe : Obj} {cls : Value} {d : Option Addr} {pn : List (Addr × Obj)} {e : Expr} {m : M} {pos : Pos}
open Classical in
theorem d_at (T : XfC X.K C₀) (hno : PySem.W.findIn X.K (.ref C₀) "at" = some none) (hz : Zc cls d oe) (hf : ∃ vs, oe.data = .fields vs) (he : DE (X.suite a ((a, oe) :: pn)) E e m) (hb : attributeBase e "at" X.env (eval e X.env) = eval e X.env := by rfl) :
    DE (X.suite a ((a, oe) :: pn)) E (.Attribute e "at" pos) (mAt a cls d C₀ m) := PEto (pe_xf T hno hz hf he hb) fun σ H Q ⟨ε, s, μ, hε, hr, h⟩ => by
  refine ⟨ε, s, μ, hε, hr, PO.seq h fun x s1 μ1 H1 v f1 r1 rv q => ?_⟩
  have q := PO.fw (r := mAtK a cls d C₀ x s1) q f1
  cases rv with
  | exn h1 h2 h3 =>
    obtain ⟨⟨rfl, hc, hd, rfl, rfl⟩, q2⟩ := PO.ite q
    exact ⟨rfl, hc, _, _, _, hd, h1, by simp [List.lookup], PO.same q2 r1 h3⟩
  | _ => exact q.elim
open Classical in
/-- isinstance(e, T): ans tells, T by T -/
noncomputable def cIsE (a : Addr) (cls : Value) (dd : Option Addr) (C₀ : Addr) (ans : D → Option Bool) : List D → S → R D
  | [.exn a' C dd' _ _, t], s => if a' = a ∧ cls = .ref C ∧ dd = some dd' ∧ C = C₀ then (match ans t with
    | some b => .ok (.bl b) s
    | none => .bad) else .bad
  | _, _ => .bad
/-- what the class at C₀ must say, so that isinstance asks its instances rightly -/
structure IsC (K : PySem.W.Frag) (C : Addr) : Prop where
  hc : (PySem.W.clsIn K C).isSome = true
  hg : PySem.W.findIn K (.ref C) "__getattribute__" = some (some (.builtin "BaseException.__getattribute__"))
  hk : PySem.W.findIn K (.ref C) "__getattr__" = some none
  hs : PySem.W.subIn K (.ref C) (.type "BaseException") = some true
  ha : PySem.W.findIn K (.ref C) "__class__" = some (some (.builtin "object.__class__"))
  hn : PySem.W.specialIn K (.builtin "object.__class__") "__get__" = some (some (.builtin "getset_descriptor.__get__"))
  ht : PySem.W.takesIn K (.builtin "object.__class__") = some true
  hm : PySem.W.mroIn K C (.type "object") = some true
def rIsD (K : PySem.W.Frag) (C a : Addr) (cls : Value) (d : Option Addr) : List V → Hp → VK → Prop := fun xs H Q => ∃ (c : V) (cv : Value) (b : Bool) (dd : Addr) (fs : List (Str × V)), xs = [.ref a, c] ∧ cls = .ref C ∧ d = some dd ∧ H dd = some (.xd fs) ∧ (∀ u, RelV c u → u = cv) ∧ PySem.W.kitOne K (.ref C) cv = some b ∧ Q (.bl b) H
theorem call_isD (C : IsC X.K C₀) (hz : Zc cls d oe) (hf : ∃ vs, oe.data = .fields vs) : CallR (X.suite a ((a, oe) :: pn)) (.builtin "isinstance") (rIsD X.K C₀ a cls d) := by
  intro pins s σ H xs us Q I r h
  obtain ⟨c, cv, b, dd, fs, rfl, rfl, rfl, hdd, hcv, e, q⟩ := h
  cases r with
  | cons rx rr =>
    cases rr with
    | cons rt rr =>
      cases rr
      cases rx
      have ec := hcv _ rt
      subst ec
      obtain ⟨hget, _⟩ := I.pin (a, oe) (List.mem_append.mpr (.inl List.mem_cons_self))
      obtain ⟨vs, hv⟩ := hf
      have hx : ObjOk X.prog X.w H s.heap dd (.xd fs) := I.hok dd _ hdd
      obtain ⟨mA, hns, hr⟩ := hx
      obtain ⟨od, ho, hl⟩ := lookIn_ns hns
      have J : PySem.W.InstAt s.heap a oe C₀ (some od) := ⟨hget, hz.1, by unfold PySem.W.notCls; rw [hv] <;> rfl, by rw [hz.2]; exact ho⟩
      exact PySem.W.kia_one (PySem.W.kitx_exc C.hc C.hg C.hk C.hs C.ha C.hn C.ht C.hm) I.kIn J e (fun z => nomatch z) fun tk => ⟨.bl b, H, I.kept (t' := tk) fun _ _ z => z, rfl, q⟩
open Classical in
theorem cs_isE {K : PySem.W.Frag} {mg : Str → Option Value} {ans : D → Option Bool} (hans : ∀ t b, ans t = some b → ∃ cv, (∀ μ H v, RV K mg μ H t v → ∀ u, RelV v u → u = cv) ∧ PySem.W.kitOne K (.ref C₀) cv = some b) : CaS K mg (rIsD K C₀ a cls d) (cIsE a cls d C₀ ans) := fun E μ H s xs vs Q hr rs h => by
  cases rs with
  | nil => exact h.elim
  | @cons x v _ _ r rs' =>
    cases rs' with
    | nil => cases r <;> exact h.elim
    | @cons y v2 _ _ r' rs'' =>
      cases rs'' with
      | cons _ _ => cases r <;> exact h.elim
      | nil =>
        cases r with
        | exn h1 h2 h3 =>
          obtain ⟨⟨rfl, hc, hd, rfl⟩, q⟩ := PO.ite (show PO K mg E μ H (if _ ∧ cls = .ref _ ∧ d = some _ ∧ _ = C₀ then (match ans y with
            | some b => .ok (.bl b) s
            | none => .bad) else .bad) Q from h)
          split at q
          · rename_i b eb
            obtain ⟨cv, e1, e2⟩ := hans y b eb
            exact ⟨v2, cv, b, _, _, rfl, hc, hd, h1, fun u ru => e1 μ H v2 r' u ru, e2, PO.same q hr (.bl b)⟩
          · exact q.elim
        | _ => exact h.elim
end
end Mi

namespace Mi
open PySem PySem.Spec PyProof.Rows L2

/-! ### {'k': 1} -/
def mDic1 (k : Str) (i : Int) : M := fun _ s => .ok (.ref s.length) (s ++ [C.dic [(Sum.inr k, .int i)]])
theorem upd_upd {H : Hp} {p : Addr} {a b : HO} : upd (upd H p a) p b = upd H p b := by
  funext q
  by_cases h : q = p
  · rw [h, upd_same, upd_same]
  · rw [upd_ne h, upd_ne h, upd_ne h]
section
variable {X : Cx} {E : XK} {pos p1 p2 : Pos}
theorem d_dict1 {k : Str} {i : Int} {j1 j2 : Nat} : DE X E (.Dict [some (.Constant (.str k) j1 p1)] [.Constant (.int i) j2 p2] pos) (mDic1 k i) :=
  PEto (pe_disp (pps_cons pe_str pe_int pps_nil) rfl rfl (fun z => by cases z) (show 1 ≤ 15 by decide)) fun σ H Q ⟨ε, s, μ, hε, hr, h⟩ => by
    intro p hp
    refine ⟨upd_same, [(Sum.inr k, .int i)], rfl, (show 1 ≤ 15 by decide), ?_⟩
    rw [upd_upd]
    have f : Fw X.K μ H (μ ++ [p]) (upd H p (.dK (mergeK [] [(Sum.inr k, V.int i)]))) := Fw.new hp
    refine (show PO X.K X.mg E μ H (.ok (.ref s.length) (s ++ [C.dic [(Sum.inr k, .int i)]])) Q from h) (μ ++ [p]) _ (.ref p) f (hr.push hp ⟨_, upd_same, rfl, .cons (.int i) .nil⟩) (.ref ?_)
    rw [List.getElem?_append_right (by rw [hr.len]; exact Nat.le_refl _), hr.len, Nat.sub_self]
    rfl

/-! ### a, b, c = x, y, z -/
def par3K (i j l : Nat) (ε : Ev) : List D → S → O
  | [u, v, w], s => .nx (((ε.set i (some u)).set j (some v)).set l (some w)) s
  | _, _ => .bad
def sPar3 (i j l : Nat) (ms : Ev → S → R (List D)) : B := fun ε s => (ms ε s).to (par3K i j l ε)
theorem SO.toL {K : PySem.W.Frag} {mg : Str → Option Value} {E : XK} {μ : List Addr} {H : Hp} {D' : Ends} {g : List D → S → O} {Q : List V → Hp → Prop} {r : R (List D)} (h : SO K mg E μ H (r.to g) D')
    (k : ∀ (d : List D) (s1 : S) (μ1 : List Addr) (H1 : Hp) (v : List V), Fw K μ H μ1 H1 → Rel K mg μ1 s1 H1 → RVs K mg μ1 H1 d v → SO K mg E μ1 H1 (g d s1) D' → Q v H1) : PL K mg E μ H r Q := by
  cases r with
  | ok d s1 => exact fun μ1 H1 v f1 r1 rv => k d s1 μ1 H1 v f1 r1 rv (SO.fw (o := g d s1) h f1)
  | exc c n d s1 => exact h
  | bad => exact h.elim
theorem s_par3 (i j l : Nat) {x y z : Str} {a b c : Expr} {ms : Ev → S → R (List D)} {px py pz pt pos : Pos} {kt k2 pt2} (hc : X.calm = true) (hN : X.N.Nodup) (ha : DA X E [a, b, c] ms) (hi : X.N[i]? = some x := by rfl) (hj : X.N[j]? = some y := by rfl) (hl : X.N[l]? = some z := by rfl) (hij : i ≠ j := by decide) (hil : i ≠ l := by decide) (hjl : j ≠ l := by decide)
    (hx : X.env.scope.names.lookup x = some .local := by rfl) (hy : X.env.scope.names.lookup y = some .local := by rfl) (hz : X.env.scope.names.lookup z = some .local := by rfl)
    (hw : swappedStores [.Tuple [.Name x px, .Name y py, .Name z pz] kt pt] (.Tuple [a, b, c] k2 pt2) X.env = pure (some [x, y, z]) := by rfl)
    (hs : swapsWithSole [.Tuple [.Name x px, .Name y py, .Name z pz] kt pt] (.Tuple [a, b, c] k2 pt2) pos.line X.env = pure false := by rfl) :
    DS X E (.Assign [.Tuple [.Name x px, .Name y py, .Name z pz] kt pt] (.Tuple [a, b, c] k2 pt2) pos) (sPar3 i j l ms) := PSto (ps_par3 hc hN hi hj hl hij hil hjl hx hy hz ha hw hs) fun D σ H ⟨ε, s, μ, hε, hr, h⟩ => by
  refine ⟨ε, s, μ, hε, hr, SO.toL (g := par3K i j l ε) h fun ds s1 μ1 H1 vs f1 r1 rvs q => ?_⟩
  cases rvs with
  | nil => exact q.elim
  | cons ra rvs =>
    cases rvs with
    | nil => exact q.elim
    | cons rb rvs =>
      cases rvs with
      | nil => exact q.elim
      | cons rc rvs =>
        cases rvs with
        | cons _ _ => exact q.elim
        | nil => exact ⟨_, _, _, rfl, q μ1 H1 _ Fw.refl r1 ((((hε.fw f1).set i ra).set j rb).set l rc)⟩

/-! ### a, b = x, y -/
def par2K (i j : Nat) (ε : Ev) : List D → S → O
  | [u, v], s => .nx ((ε.set i (some u)).set j (some v)) s
  | _, _ => .bad
def sPar2 (i j : Nat) (ms : Ev → S → R (List D)) : B := fun ε s => (ms ε s).to (par2K i j ε)
theorem s_par2 (i j : Nat) {x y : Str} {a b : Expr} {ms : Ev → S → R (List D)} {px py pt pos : Pos} {kt k2 pt2} (hc : X.calm = true) (hN : X.N.Nodup) (ha : DA X E [a, b] ms) (hi : X.N[i]? = some x := by rfl) (hj : X.N[j]? = some y := by rfl) (hij : i ≠ j := by decide)
    (hx : X.env.scope.names.lookup x = some .local := by rfl) (hy : X.env.scope.names.lookup y = some .local := by rfl)
    (hw : swappedStores [.Tuple [.Name x px, .Name y py] kt pt] (.Tuple [a, b] k2 pt2) X.env = pure (some [x, y]) := by rfl)
    (hs : swapsWithSole [.Tuple [.Name x px, .Name y py] kt pt] (.Tuple [a, b] k2 pt2) pos.line X.env = pure false := by rfl) :
    DS X E (.Assign [.Tuple [.Name x px, .Name y py] kt pt] (.Tuple [a, b] k2 pt2) pos) (sPar2 i j ms) := PSto (ps_par hc hN hi hj hij hx hy ha hw hs) fun D σ H ⟨ε, s, μ, hε, hr, h⟩ => by
  refine ⟨ε, s, μ, hε, hr, SO.toL (g := par2K i j ε) h fun ds s1 μ1 H1 vs f1 r1 rvs q => ?_⟩
  cases rvs with
  | nil => exact q.elim
  | cons ra rvs =>
    cases rvs with
    | nil => exact q.elim
    | cons rb rvs =>
      cases rvs with
      | cons _ _ => exact q.elim
      | nil => exact ⟨_, _, rfl, q μ1 H1 _ Fw.refl r1 (((hε.fw f1).set i ra).set j rb)⟩
end
end Mi

namespace Mi
open PySem PySem.Spec PyProof.Rows L2

/-! ### short words for the built-ins -/
section
variable {X : Cx} {E : XK} {pos p : Pos} {e : Expr} {es : List Expr} {ms : Ev → S → R (List D)}
theorem d_len (hm : X.mg "len" = none) (ha : DA X E [e] ms) (hg : Gl X "len" := by rfl) (he : starEach [e] X.env = (false, eval e X.env) :: starEach [] X.env := by rfl) (hpl : (backTo pos (starEach [] X.env)).any (·.1) = false := by rfl) : DE X E (.Call (.Name "len" p) [e] [] pos) (mCall cLen ms) :=
  d_callB call_len cs_len hm (by boot_by_name) ha hg (by decide) (by decide) he hpl
theorem d_abs (hm : X.mg "abs" = none) (ha : DA X E [e] ms) (hg : Gl X "abs" := by rfl) (he : starEach [e] X.env = (false, eval e X.env) :: starEach [] X.env := by rfl) (hpl : (backTo pos (starEach [] X.env)).any (·.1) = false := by rfl) : DE X E (.Call (.Name "abs" p) [e] [] pos) (mCall cAbs ms) :=
  d_callB call_abs cs_abs hm (by boot_by_name) ha hg (by decide) (by decide) he hpl
theorem d_ord (hm : X.mg "ord" = none) (ha : DA X E [e] ms) (hg : Gl X "ord" := by rfl) (he : starEach [e] X.env = (false, eval e X.env) :: starEach [] X.env := by rfl) (hpl : (backTo pos (starEach [] X.env)).any (·.1) = false := by rfl) : DE X E (.Call (.Name "ord" p) [e] [] pos) (mCall cOrd ms) :=
  d_callB call_ord cs_ord hm (by boot_by_name) ha hg (by decide) (by decide) he hpl
theorem d_int1 (hm : X.mg "int" = none) (ha : DA X E [e] ms) (hg : Gl X "int" := by rfl) (he : starEach [e] X.env = (false, eval e X.env) :: starEach [] X.env := by rfl) (hpl : (backTo pos (starEach [] X.env)).any (·.1) = false := by rfl) : DE X E (.Call (.Name "int" p) [e] [] pos) (mCall cInt ms) :=
  d_callTy call_int1 cs_int hm (by boot_by_name) ha hg (by decide) (by decide) he hpl
theorem d_tuple1 (hm : X.mg "tuple" = none) (ha : DA X E [e] ms) (hg : Gl X "tuple" := by rfl) (he : starEach [e] X.env = (false, eval e X.env) :: starEach [] X.env := by rfl) (hpl : (backTo pos (starEach [] X.env)).any (·.1) = false := by rfl) : DE X E (.Call (.Name "tuple" p) [e] [] pos) (mCall cTuple ms) :=
  d_callTy call_tuple_of cs_tuple hm (by boot_by_name) ha hg (by decide) (by decide) he hpl
theorem d_list1 (hm : X.mg "list" = none) (ha : DA X E [e] ms) (hg : Gl X "list" := by rfl) (he : starEach [e] X.env = (false, eval e X.env) :: starEach [] X.env := by rfl) (hpl : (backTo pos (starEach [] X.env)).any (·.1) = false := by rfl) : DE X E (.Call (.Name "list" p) [e] [] pos) (mCall cList ms) :=
  d_callTy call_list_of cs_list hm (by boot_by_name) ha hg (by decide) (by decide) he hpl
variable {f : Expr}
theorem d_max2 (hc : X.calm = true) (hm : X.mg "max" = none) (ha : DA X E [e, f] ms) (hg : Gl X "max" := by rfl) (he : starEach [e, f] X.env = (false, eval e X.env) :: starEach [f] X.env := by rfl) (hpl : (backTo pos (starEach [f] X.env)).any (·.1) = false := by rfl) : DE X E (.Call (.Name "max" p) [e, f] [] pos) (mCall cMax2 ms) :=
  d_callB (call_max2 hc) cs_max2 hm (by boot_by_name) ha hg (by decide) (by decide) he hpl
theorem d_min2 (hc : X.calm = true) (hm : X.mg "min" = none) (ha : DA X E [e, f] ms) (hg : Gl X "min" := by rfl) (he : starEach [e, f] X.env = (false, eval e X.env) :: starEach [f] X.env := by rfl) (hpl : (backTo pos (starEach [f] X.env)).any (·.1) = false := by rfl) : DE X E (.Call (.Name "min" p) [e, f] [] pos) (mCall cMin2 ms) :=
  d_callB (call_min2 hc) cs_min2 hm (by boot_by_name) ha hg (by decide) (by decide) he hpl
theorem d_isi (hm : X.mg "isinstance" = none) (ha : DA X E [e, f] ms) (hg : Gl X "isinstance" := by rfl) (he : starEach [e, f] X.env = (false, eval e X.env) :: starEach [f] X.env := by rfl) (hpl : (backTo pos (starEach [f] X.env)).any (·.1) = false := by rfl) : DE X E (.Call (.Name "isinstance" p) [e, f] [] pos) (mCall cIsi ms) :=
  d_callB call_isi cs_isi hm (by boot_by_name) ha hg (by decide) (by decide) he hpl
/-! ### short words for the operators -/
variable {a b : Expr} {ma mb : M}
theorem d_add (ha : DE X E a ma) (hb : DE X E b mb) : DE X E (.BinOp a .Add b pos) (mOp oAdd ma mb) := d_op or_add os_add ha hb
theorem d_sub (ha : DE X E a ma) (hb : DE X E b mb) : DE X E (.BinOp a .Sub b pos) (mOp oSub ma mb) := d_op op_sub (os_I fun _ _ _ _ => .int _) ha hb
theorem d_mul (ha : DE X E a ma) (hb : DE X E b mb) : DE X E (.BinOp a .Mult b pos) (mOp oMul ma mb) := d_op op_mulW (os_IC fun _ _ _ _ => .int _) ha hb
theorem d_fdiv (ha : DE X E a ma) (hb : DE X E b mb) : DE X E (.BinOp a .FloorDiv b pos) (mOp oFdiv ma mb) := d_op op_fdivW (os_IC fun _ _ _ _ => .int _) ha hb
theorem d_mod (ha : DE X E a ma) (hb : DE X E b mb) : DE X E (.BinOp a .Mod b pos) (mOp oMod ma mb) := d_op op_mod (os_IC fun _ _ _ _ => .int _) ha hb
theorem d_pow (ha : DE X E a ma) (hb : DE X E b mb) : DE X E (.BinOp a .Pow b pos) (mOp oPow ma mb) := d_op op_pow (os_IC fun _ _ _ _ => .int _) ha hb
theorem os_lt {K : PySem.W.Frag} {mg : Str → Option Value} : OpS K mg (rI0 fun i j => .bl (decide (i < j))) oLt := os_I fun _ _ _ _ => .bl _
theorem os_le {K : PySem.W.Frag} {mg : Str → Option Value} : OpS K mg (rI0 fun i j => .bl (decide (i ≤ j))) oLe := os_I fun _ _ _ _ => .bl _
theorem os_gt {K : PySem.W.Frag} {mg : Str → Option Value} : OpS K mg (rI0 fun i j => .bl (decide (j < i))) oGt := os_I fun _ _ _ _ => .bl _
theorem os_ge {K : PySem.W.Frag} {mg : Str → Option Value} : OpS K mg (rI0 fun i j => .bl (decide (j ≤ i))) oGe := os_I fun _ _ _ _ => .bl _
theorem d_idx (ha : DE X E a ma) (hb : DE X E b mb) (hp : PlainIx b := by intro _ _; rfl) : DE X E (.Subscript a b pos) (mOp oIx ma mb) := d_ix ix_seq os_ix ha hb hp
end

/-! ### a def by its mirror -/
/-- the def's mirror: its slots at the entry, then the body -/
def runO : O → R D
  | .rt d s => .ok d s
  | .nx _ s => .ok .non s
  | .ex c f d s => .exc c f d s
  | _ => .bad
def runF (n N : Nat) (b : B) : List D → S → R D := fun ds s => if ds.length = n then runO (b (ds.map some ++ List.replicate (N - n) none) s) else .bad
/-- the global name x is a def that does what F does -/
def Cal (P : Program) (w : World) (K : PySem.W.Frag) (mg : Str → Option Value) (base : Heap) (k n : Nat) (x : Str) (F : List D → S → R D) : Prop :=
  ∃ f fd ps, mg x = some (.ref f) ∧ FnOk P w K mg base (L2.CX P w) k f fd ps (spF K mg n F) ∧ PySem.W.keepIn K (.ref f) = true ∧ Binds K fd ps []
/-- the text's def stands behind the top -/
structure DefAt (K : PySem.W.Frag) (mg : Str → Option Value) (x : Str) (st : Stmt) (ps : List Str) : Prop where
  ex : ∃ f fd, mg x = some (.ref f) ∧ Fun K x x st f fd ∧ Binds K fd ps []
section
variable {P : Program} {w : World} {K : PySem.W.Frag} {mg : Str → Option Value} {base : Heap} {k n : Nat} {x : Str}
theorem Cal.mono {j : Nat} {F : List D → S → R D} (c : Cal P w K mg base j n x F) (h : j ≤ k) : Cal P w K mg base k n x F := by
  obtain ⟨f, fd, ps, hm, G, hk, hb⟩ := c
  exact ⟨f, fd, ps, hm, G.mono h, hk, hb⟩
theorem start_rel {μ : List Addr} {H : Hp} {ds : List D} {vs : List V} {N : List Str} (r : RVs K mg μ H ds vs) : REnv K mg μ H (ds.map some ++ List.replicate (N.length - ds.length) none) (L2.start N vs) := by
  unfold L2.start
  rw [← r.length]
  refine ⟨by rw [List.length_append, List.length_append, List.length_map, List.length_map, r.length, List.length_replicate, List.length_replicate], fun i d e => ?_⟩
  by_cases hi : i < ds.length
  · rw [List.getElem?_append_left (by rw [List.length_map]; exact hi), List.getElem?_map] at e
    cases q : ds[i]? with
    | none =>
      rw [q] at e
      cases e
    | some d' =>
      rw [q] at e
      cases e
      obtain ⟨v, hv, rv⟩ := r.get q
      refine ⟨v, ?_, rv⟩
      rw [List.getElem?_append_left (by rw [List.length_map, ← r.length]; exact hi), List.getElem?_map, hv]
      rfl
  · rw [List.getElem?_append_right (by rw [List.length_map]; omega)] at e
    obtain ⟨_, e2⟩ := List.getElem?_eq_some_iff.mp e
    rw [List.getElem_replicate] at e2
    cases e2
theorem fnok_of {qn : Str} {st : Stmt} {N ps : List Str} {B : Mi.B} {f : Addr} {fd : FuncData} (F : Fun K x qn st f fd) (S : FnScope N ps (defScope st)) (hn : ps.length = n)
    (hbody : ∀ (f : Addr) (cdv : Value) (A : Around) (outer : List Env) (s : Shared) (H : Hp) (E : XK), Room k (A.deeper (envOfC qn (defScope st) s.heap.objs.size f cdv)) →
      DB (cxOf (L2.CX P w) P w K mg base N qn (defScope st) f cdv A outer s H E) E (defBody st) B) : FnOk P w K mg base (L2.CX P w) (k + 1) f fd ps (spF K mg n (runF n N.length B)) := by
  refine F.okX S (fun vs H Q E h => by rw [h.1, hn]) (fun cdv A outer s H vs Q E hr h => ⟨_, hbody f cdv A outer s H E hr, ?_⟩)
  obtain ⟨hl, ds, s, μ, rvs, rel, h⟩ := h
  refine ⟨_, s, μ, start_rel rvs, rel, ?_⟩
  obtain ⟨hc, h⟩ := PO.ite (show PO K mg E μ H (if ds.length = n then runO (B (ds.map some ++ List.replicate (N.length - n) none) s) else .bad) Q from h)
  rw [hc]
  cases e : B (ds.map some ++ List.replicate (N.length - n) none) s with
  | nx ε s1 =>
    rw [e] at h
    exact fun μ1 H1 σ1 f1 r1 e1 => (show PO K mg E μ H (.ok .non s1) Q from h) μ1 H1 .non f1 r1 .non
  | rt d s1 =>
    rw [e] at h
    exact h
  | bk ε s1 =>
    rw [e] at h
    exact h.elim
  | ct ε s1 =>
    rw [e] at h
    exact h.elim
  | ex c f d s1 =>
    rw [e] at h
    exact h
  | bad =>
    rw [e] at h
    exact h.elim
theorem cal_of {st : Stmt} {N ps : List Str} {B : Mi.B} (D : DefAt K mg x st ps) (S : FnScope N ps (defScope st)) (hn : ps.length = n)
    (hbody : ∀ (f : Addr) (cdv : Value) (A : Around) (outer : List Env) (s : Shared) (H : Hp) (E : XK), Room k (A.deeper (envOfC x (defScope st) s.heap.objs.size f cdv)) →
      DB (cxOf (L2.CX P w) P w K mg base N x (defScope st) f cdv A outer s H E) E (defBody st) B) : Cal P w K mg base (k + 1) n x (runF n N.length B) := by
  obtain ⟨f, fd, hm, F, hb⟩ := D.ex
  exact ⟨f, fd, ps, hm, fnok_of F S hn hbody, F.kp, hb⟩
theorem b_bad {X : Cx} {E : XK} {sts : List Stmt} : DB X E sts (fun _ _ => .bad) := ⟨fun pins s σ H D I ⟨_, _, _, _, _, h⟩ => h.elim⟩
/-- at no level -/
theorem cal_bad {st : Stmt} {N ps : List Str} (D : DefAt K mg x st ps) (S : FnScope N ps (defScope st)) (hn : ps.length = n) : Cal P w K mg base (k + 1) n x (runF n N.length fun _ _ => .bad) := cal_of D S hn fun _ _ _ _ _ _ _ _ => b_bad
end
section
variable {X : Cx} {E : XK} {k n : Nat} {x : Str} {F : List D → S → R D} {pos p : Pos} {e : Expr} {es : List Expr} {ms : Ev → S → R (List D)}
theorem len0 : ∀ (ε : Ev) (s : S) (ds : List D) (s1 : S), mNil ε s = .ok ds s1 → ds.length = 0 := fun _ _ _ _ h => len_nil h
/-- f(e, ..) -/
theorem d_cal (c : Cal X.prog X.w X.K X.mg X.base k n x F) (hr : Room k X.A) (hx : Passes (L2.CX X.prog X.w) X E) (ha : DA X E (e :: es) ms) (hl : ∀ ε s ds s1, ms ε s = .ok ds s1 → ds.length = n) (hg : Gl X x := by rfl) (hdb : (x == ("__debug__" : Str)) = false := by decide)
    (he : starEach (e :: es) X.env = (false, eval e X.env) :: starEach es X.env := by rfl) (hpl : (backTo pos (starEach es X.env)).any (·.1) = false := by rfl) : DE X E (.Call (.Name x p) (e :: es) [] pos) (mCall F ms) := by
  obtain ⟨f, fd, ps, hm, G, hk, hb⟩ := c
  exact d_call G hr hm hk hb hx ha hl hg hdb he hpl
theorem d_cal0 (c : Cal X.prog X.w X.K X.mg X.base k 0 x F) (hr : Room k X.A) (hx : Passes (L2.CX X.prog X.w) X E) (hg : Gl X x := by rfl) (hdb : (x == ("__debug__" : Str)) = false := by decide) : DE X E (.Call (.Name x p) [] [] pos) (mCall F mNil) := by
  obtain ⟨f, fd, ps, hm, G, hk, hb⟩ := c
  exact d_call0 G hr hm hk hb hx hg hdb
end
section
variable {P : Program} {w : World} {K : PySem.W.Frag} {mg : Str → Option Value} {base : Heap} {N : List Str} {x : Str} {sc : Scope} {f : Addr} {cdv : Value} {A : Around} {outer : List Env} {s : Shared} {H : Hp} {E : XK}
theorem takesC : Takes (cxOf (L2.CX P w) P w K mg base N x sc f cdv A outer s H E) (fun cls d _ H => E cls d H) := takes_of rfl rfl rfl rfl
theorem passC : Passes (L2.CX P w) (cxOf (L2.CX P w) P w K mg base N x sc f cdv A outer s H E) E := passes_call takesC fun _ _ _ _ h => h
theorem ownC : PassesOwn (model P w) (cxOf (L2.CX P w) P w K mg base N x sc f cdv A outer s H E).A (cxOf (L2.CX P w) P w K mg base N x sc f cdv A outer s H E).env (cxOf (L2.CX P w) P w K mg base N x sc f cdv A outer s H E).xe := passes_of rfl
end

/-! ### short words for the text's names -/
section
variable {X : Cx} {E : XK} {pos : Pos}
theorem d_gint' {x : Str} {i : Int} (hm : ∃ t, X.mg x = some (.int i t)) (hg : Gl X x := by rfl) (hd : (x == ("__debug__" : Str)) = false := by decide) : DE X E (.Name x pos) (mC (.int i)) := by
  obtain ⟨t, hm⟩ := hm
  exact d_gint hm hg hd
theorem d_gstr' {x y : Str} (hm : ∃ t, X.mg x = some (.str y t)) (hg : Gl X x := by rfl) (hd : (x == ("__debug__" : Str)) = false := by decide) : DE X E (.Name x pos) (mC (.str y)) := by
  obtain ⟨t, hm⟩ := hm
  exact d_gstr hm hg hd
theorem d_gfn' {x : Str} (hm : ∃ f, X.mg x = some (.ref f)) (hg : Gl X x := by rfl) (hd : (x == ("__debug__" : Str)) = false := by decide) : DE X E (.Name x pos) (mC (.fn x)) := by
  obtain ⟨f, hm⟩ := hm
  exact d_gfn hm hg hd
/-- the class named cn raises as ErrX tells -/
def Rs (P : Program) (K : PySem.W.Frag) (mg : Str → Option Value) (cn : Str) : Prop := ∃ C fI, mg cn = some (.ref C) ∧ ErrX.Txt P K mg C fI
theorem s_raise' {cn : Str} {a : Expr} {m : M} {p pos2 : Pos} {k : Nat} (T : Rs X.prog X.K X.mg cn) (hc : X.calm = true) (hr : Room k X.A) (tk : Takes X (fun cls d _ H => E cls d H)) (ha : DE X E a m) (hg : Gl X cn := by rfl) (hdb : (cn == ("__debug__" : Str)) = false := by decide)
    (he : starEach (a :: []) X.env = (false, eval a X.env) :: starEach [] X.env := by rfl) (hpl : (backTo pos (starEach [] X.env)).any (·.1) = false := by rfl) :
    DS X E (.Raise (some (.Call (.Name cn p) [a] [] pos)) none pos2) (sRaise cn m) := by
  obtain ⟨C, fI, hm, T⟩ := T
  exact s_raise T hc hr tk ha hm hg hdb he hpl
end
theorem bt_int : bootBuiltins "int" = some (.type "int") := by boot_by_name
theorem bt_str : bootBuiltins "str" = some (.type "str") := by boot_by_name
theorem bt_tuple : bootBuiltins "tuple" = some (.type "tuple") := by boot_by_name
theorem bt_list : bootBuiltins "list" = some (.type "list") := by boot_by_name
theorem bt_dict : bootBuiltins "dict" = some (.type "dict") := by boot_by_name
theorem bt_bool : bootBuiltins "bool" = some (.type "bool") := by boot_by_name
theorem bt_ValueError : bootBuiltins "ValueError" = some (.type "ValueError") := by boot_by_name
theorem len_1 {m : M} : ∀ (ε : Ev) (s : S) (ds : List D) (s1 : S), mCons m mNil ε s = .ok ds s1 → ds.length = 1 := len_cons len0
theorem len_2 {m m2 : M} : ∀ (ε : Ev) (s : S) (ds : List D) (s1 : S), mCons m (mCons m2 mNil) ε s = .ok ds s1 → ds.length = 2 := len_cons len_1
theorem len_3 {m m2 m3 : M} : ∀ (ε : Ev) (s : S) (ds : List D) (s1 : S), mCons m (mCons m2 (mCons m3 mNil)) ε s = .ok ds s1 → ds.length = 3 := len_cons len_2
theorem len_4 {m m2 m3 m4 : M} : ∀ (ε : Ev) (s : S) (ds : List D) (s1 : S), mCons m (mCons m2 (mCons m3 (mCons m4 mNil))) ε s = .ok ds s1 → ds.length = 4 := len_cons len_3
theorem len_5 {m m2 m3 m4 m5 : M} : ∀ (ε : Ev) (s : S) (ds : List D) (s1 : S), mCons m (mCons m2 (mCons m3 (mCons m4 (mCons m5 mNil)))) ε s = .ok ds s1 → ds.length = 5 := len_cons len_4
/-- turns that a while may have -/
def wf : Nat := 20000000
/-- the def stands in the written part -/
def DefIs (K : PySem.W.Frag) (x : Str) (st : Stmt) : Prop := ∃ (f : Addr) (oc : Value) (od an : Option Addr) (sl : Array (Option Value)) (kV doc pm cd ct : Value), PySem.W.nsIn K mainGlobals x = some (some (.ref f)) ∧
  K.lookup f = some ⟨oc, od, .func (PySem.W.fnOf x x (defArgs st) (defBody st) (defScope st) .none kV doc pm an cd ct), sl⟩ ∧ PySem.W.codeIn K cd x = true ∧ PySem.W.keepIn K (.ref f) = true
theorem defIs {K : PySem.W.Frag} {x : Str} {st : Stmt} {f : Addr} {oc : Value} {od an : Option Addr} {sl : Array (Option Value)} {kV doc pm cd ct : Value} (a : PySem.W.nsIn K mainGlobals x = some (some (.ref f)))
    (l : K.lookup f = some ⟨oc, od, .func (PySem.W.fnOf x x (defArgs st) (defBody st) (defScope st) .none kV doc pm an cd ct), sl⟩) (c : PySem.W.codeIn K cd x = true) (k : PySem.W.keepIn K (.ref f) = true) : DefIs K x st := ⟨_, _, _, _, _, _, _, _, _, _, a, l, c, k⟩
theorem DefIs.at {K : PySem.W.Frag} {x : Str} {st : Stmt} {mg : Str → Option Value} {h : Heap} {ps : List Str} (D : DefIs K x st) (X : K.In h) (G : h.Ns mainGlobals mg)
    (hb : ∀ (kV doc pm : Value) (an : Option Addr) (cdv ct : Value) (us : List Value), us.length = ps.length → bindArgs (PySem.W.fnOf x x (defArgs st) (defBody st) (defScope st) .none kV doc pm an cdv ct) ⟨us, []⟩ = pure (ps.zip us)) : DefAt K mg x st ps := by
  obtain ⟨f, oc, od, an, sl, kV, doc, pm, cd, ct, a, l, c, k⟩ := D
  have F := fun_mk (st := st) l c k
  exact ⟨f, _, PySem.W.mg_of X G a, F, F.binds hb⟩
/-- the law's def, called with the script -/
theorem law_at {P : Program} {w : World} {K : PySem.W.Frag} {mg : Str → Option Value} {h : Heap} {x : Str} {F : List D → S → R D} {k : Nat} {y : Str} {st : Stmt} (D : DefIs K x st) (X : K.In h) (G : h.Ns mainGlobals mg)
    (hb : ∀ (kV doc pm : Value) (an : Option Addr) (cdv ct : Value) (s : Shared) (u : Value), BindsTo s (PySem.W.fnOf x x (defArgs st) (defBody st) (defScope st) .none kV doc pm an cdv ct) ⟨[u], []⟩ [(y, u)])
    (hF : ∀ (f : Addr) (fd : FuncData), mg x = some (.ref f) → Fun K x x st f fd → ∀ base : Heap, K.In base → base.Ns mainGlobals mg → FnOk P w K mg base (L2.CX P w) k f fd [y] (spF K mg 1 F)) :
    ∀ fa, mg x = some (.ref fa) → ∃ fd : FuncData, (∀ (s : Shared) (u : Value), BindsTo s fd ⟨[u], []⟩ [(y, u)]) ∧ ∀ base : Heap, K.In base → base.Ns mainGlobals mg → FnOk P w K mg base (L2.CX P w) k fa fd [y] (spF K mg 1 F) := fun fa hfa => by
  obtain ⟨f, oc, od, an, sl, kV, doc, pm, cd, ct, a, l, c, kk⟩ := D
  have hm := PySem.W.mg_of X G a
  have e := hfa.symm.trans hm
  cases e
  exact ⟨_, hb kV doc pm an cd ct, hF _ _ hm (fun_mk (st := st) l c kk)⟩

/-! ### the end: the law -/
theorem end_of {l : PySem.W.OpenLaw} {n k : Nat} {q : Program} {loose : List Str} {XP : (Str → Option Value) → Heap → Prop} {YP : World → Heap → Prop} {d : DefRec} {K : Params → PySem.W.Frag} {x : Str} {F : List D → S → R D}
    (hn : l.most = some n) (hn2 : n ≤ sizeLine) (hdf : d.params.defaults = []) (hr : Room k callerA) (hY : ∀ (w : World) (h : Heap), YP w h → (K w.params).In h)
    (hF : ∀ (w : World) (mg : Str → Option Value) (h : Heap), (K w.params).In h → h.Ns mainGlobals mg → ∀ fa, mg d.name = some (.ref fa) →
      ∃ fd : FuncData, (∀ (s : Shared) (u : Value), BindsTo s fd ⟨[u], []⟩ [(x, u)]) ∧ ∀ base : Heap, (K w.params).In base → base.Ns mainGlobals mg → FnOk l.prog w (K w.params) mg base (L2.CX l.prog w) k fa fd [x] (spF (K w.params) mg 1 F))
    (hM : ∀ ns : List Int, ns.length ≤ n → (∀ z ∈ ns, Builtin.Int.intBits z ≤ 1048576) → ∃ s, F [.frl (ns.map D.int)] [] = .ok (.bl true) s) :
    PySem.W.WalkO q loose XP YP l.row.toRowW d [] (fun f vs => PySem.call f vs) := by
  refine Att.attach_callB hn hdf fun w s₀ s₁ mg mb fa o pm cd doc a vs ns G Y ho hd hcd hmg hobj hints hlen hbits hg => ?_
  have KX := hY w _ Y
  obtain ⟨fd, hb, hFF⟩ := hF w mg _ KX G.T.g fa hmg
  refine law_call KX G.T.g G.T.b G.T.builtins G.T.nolimit hg hobj hints (Nat.le_trans hlen hn2) hr hFF hb (fun H hO hS => ?_) fun H e s' z => ?_
  · obtain ⟨s2, e2⟩ := hM ns hlen hbits
    have hz : Fz (K w.params) H a (ns.map V.int) := by
      rcases hS with (h | ⟨u, h⟩) | h
      · rcases hO a with z | ⟨o', xs, z⟩
        · rw [z] at h
          cases h
        · rw [z] at h
          cases h
      · exact .inl ⟨u, h⟩
      · exact .inr h
    refine ⟨rfl, [.frl (ns.map D.int)], [], [], .cons (.frl hz (RVs.ints ns)) .nil, ⟨rfl, List.nodup_nil, fun k c a h => by simp at h⟩, ?_⟩
    rw [e2]
    intro μ1 H1 v f1 r1 rv
    cases rv
    rfl
  · obtain ⟨_, _, _, _, _, _, _, _, _, _, _, _, z⟩ := z
    exact z.elim
end Mi

namespace Mi
open PySem PySem.Spec PyProof.Rows L2

/-! ### the error cn (over bn, over ValueError) in an except suite -/
structure ErrS (K : PySem.W.Frag) (mg : Str → Option Value) (cn bn : Str) (C CB : Addr) : Prop where
  mC : mg cn = some (.ref C)
  mB : mg bn = some (.ref CB)
  is : IsC K C
  xf : XfC K C
  no : PySem.W.findIn K (.ref C) "at" = some none
  ex : PySem.W.exmOne K (.ref C) (.ref CB) = some true
  ex0 : PySem.W.exmOne K (.ref C) (.ref C) = some true
  kv : PySem.W.kitOne K (.ref C) (.type "ValueError") = some true
  kb : PySem.W.kitOne K (.ref C) (.ref CB) = some true
  nI : mg "isinstance" = none
  nV : mg "ValueError" = none
def ansE (cn bn : Str) : D → Option Bool
  | .ty n => if n = "ValueError" then some true else none
  | .fn x => if x = cn ∨ x = bn then some true else none
  | _ => none
section
variable {X : Cx} {E : XK} {a C CB : Addr} {oe : Obj} {cls : Value} {d : Option Addr} {pn : List (Addr × Obj)} {e f : Expr} {m : M} {pos p : Pos} {cn bn : Str} {ms : Ev → S → R (List D)}
theorem ansE_ok {K : PySem.W.Frag} {mg : Str → Option Value} (T : ErrS K mg cn bn C CB) : ∀ t b, ansE cn bn t = some b → ∃ cv, (∀ μ H v, RV K mg μ H t v → ∀ u, RelV v u → u = cv) ∧ PySem.W.kitOne K (.ref C) cv = some b := fun t b h => by
  cases t with
  | ty n =>
    have h : (if n = "ValueError" then some true else none) = some b := h
    by_cases hn : n = "ValueError"
    · rw [if_pos hn] at h
      cases h
      subst hn
      exact ⟨.type "ValueError", fun μ H v r u ru => by
        cases r
        exact ru, T.kv⟩
    · rw [if_neg hn] at h
      cases h
  | fn x =>
    have h : (if x = cn ∨ x = bn then some true else none) = some b := h
    by_cases hx : x = cn ∨ x = bn
    · rw [if_pos hx] at h
      cases h
      rcases hx with rfl | rfl
      · exact ⟨.ref C, fun μ H v r u ru => by
          cases r with
          | fn hm =>
            rw [T.mC] at hm
            cases hm
            exact ru, by
          show (if (Value.ref C == Value.ref C) = true then some true else _) = some true
          rw [if_pos (beq_self_eq_true _)]⟩
      · exact ⟨.ref CB, fun μ H v r u ru => by
          cases r with
          | fn hm =>
            rw [T.mB] at hm
            cases hm
            exact ru, T.kb⟩
    · rw [if_neg hx] at h
      cases h
  | _ => cases h
theorem d_isE (T : ErrS X.K X.mg cn bn C CB) (hz : Zc cls d oe) (hf : ∃ vs, oe.data = .fields vs) (ha : DA (X.suite a ((a, oe) :: pn)) E [e, f] ms) (hg : Gl X "isinstance" := by rfl) (he : starEach [e, f] X.env = (false, eval e X.env) :: starEach [f] X.env := by rfl) (hpl : (backTo pos (starEach [f] X.env)).any (·.1) = false := by rfl) :
    DE (X.suite a ((a, oe) :: pn)) E (.Call (.Name "isinstance" p) [e, f] [] pos) (mCall (cIsE a cls d C (ansE cn bn)) ms) :=
  d_callB (X := X.suite a ((a, oe) :: pn)) (call_isD T.is hz hf) (cs_isE (ansE_ok T)) T.nI (by boot_by_name) ha hg (by decide) (by decide) he hpl
theorem d_ate (T : ErrS X.K X.mg cn bn C CB) (hz : Zc cls d oe) (hf : ∃ vs, oe.data = .fields vs) (he : DE (X.suite a ((a, oe) :: pn)) E e m) (hb : attributeBase e "at" X.env (eval e X.env) = eval e X.env := by rfl) :
    DE (X.suite a ((a, oe) :: pn)) E (.Attribute e "at" pos) (mAt a cls d C m) := d_at T.xf T.no hz hf he hb
end
/-- the error itself, as the suite sees it -/
theorem cIsE_ok {a C dd : Addr} {cn bn f : Str} {d t : D} {s : S} (h : ansE cn bn t = some true) : cIsE a (.ref C) (some dd) C (ansE cn bn) [.exn a C dd f d, t] s = .ok (.bl true) s := by
  simp [cIsE, h]
theorem mAtK_ok {a C dd : Addr} {d : D} {s : S} : mAtK a (.ref C) (some dd) C (.exn a C dd "at" d) s = .ok d s := by
  simp [mAtK]
theorem mVar_set {ε : Ev} {i : Nat} {d : D} {s : S} (h : i < ε.length) : mVar i (ε.set i (some d)) s = .ok d s := by
  unfold mVar
  rw [List.getElem?_set_self h]
theorem names_of {X : Cx} {x : Str} {C : Addr} (hm : X.mg x = some (.ref C)) (hg : Gl X x := by rfl) (hd : (x == ("__debug__" : Str)) = false := by decide) : Names X x (.ref C) := ⟨hg, hd, .inl hm⟩
theorem ne_nil (ε : Ev) (s : S) (c f : Str) (d : D) (s1 : S) : mNil ε s ≠ .exc c f d s1 := fun h => by cases h
theorem ne_var {i : Nat} {ms : Ev → S → R (List D)} (hn : ∀ ε s c f d s1, ms ε s ≠ .exc c f d s1) (ε : Ev) (s : S) (c f : Str) (d : D) (s1 : S) : mCons (mVar i) ms ε s ≠ .exc c f d s1 := fun h => by
  unfold mCons at h
  cases q : ε[i]? with
  | none =>
    simp only [mVar, q, R.bind] at h
    cases h
  | some o =>
    cases o with
    | none =>
      simp only [mVar, q, R.bind] at h
      cases h
    | some x =>
      simp only [mVar, q, R.bind] at h
      cases e : ms ε s with
      | ok ds s2 =>
        rw [e] at h
        cases h
      | exc c' f' d' s2 => exact hn ε s c' f' d' s2 e
      | bad =>
        rw [e] at h
        cases h
/-- one of two defs -/
theorem fam2 {X : Cx} {k n : Nat} {x y : Str} {F G : List D → S → R D} {T : Str → Option (List D → S → R D)} (hT : ∀ z H, T z = some H → (z = x ∧ H = F) ∨ (z = y ∧ H = G)) (c1 : Cal X.prog X.w X.K X.mg X.base k n x F) (c2 : Cal X.prog X.w X.K X.mg X.base k n y G) : Fam X k n T := fun z H a e hm => by
  rcases hT z H e with ⟨rfl, rfl⟩ | ⟨rfl, rfl⟩
  · obtain ⟨f, fd, ps, hm', FO, hk, hb⟩ := c1
    rw [hm] at hm'
    cases hm'
    exact ⟨fd, ps, FO, hk, hb⟩
  · obtain ⟨f, fd, ps, hm', FO, hk, hb⟩ := c2
    rw [hm] at hm'
    cases hm'
    exact ⟨fd, ps, FO, hk, hb⟩
end Mi

namespace Mi
open PySem PySem.Spec PyProof.Rows L2

/-! ### instances of own classes: a cell with the class's name and the fields -/
/-- the field f of the class cn stands in the instance alone -/
def FldOk (K : PySem.W.Frag) (mg : Str → Option Value) (cn f : Str) : Prop := ∃ Ca, mg cn = some (.ref Ca) ∧ Cls K Ca ∧ NoAttr K Ca f
/-- fields by name, in the order of the class's writing -/
def putD (f : Str) (v : D) : List (Str × D) → List (Str × D)
  | [] => [(f, v)]
  | (g, x) :: r => if g = f then (g, v) :: r else (g, x) :: putD f v r
section
variable {K : PySem.W.Frag} {mg : Str → Option Value} {μ μ' : List Addr} {H H' : Hp} {s : S}
theorem look_rv {f : Str} {d : D} : ∀ {fs : List (Str × D)} {gs : List (Str × V)}, fs.map (·.1) = gs.map (·.1) → RVs K mg μ H (fs.map (·.2)) (gs.map (·.2)) → fs.lookup f = some d → ∃ v, gs.lookup f = some v ∧ RV K mg μ H d v
  | [], _, _, _, e => by cases e
  | _ :: _, [], e, _, _ => by cases e
  | (a, x) :: fs, (b, y) :: gs, e, .cons r rs, h => by
    obtain ⟨e1, e2⟩ := List.cons.inj e
    have e1 : a = b := e1
    subst e1
    rw [List.lookup_cons] at h ⊢
    show ∃ v, (match f == a with
      | true => some y
      | false => gs.lookup f) = some v ∧ RV K mg μ H d v
    cases q : f == a with
    | true =>
      rw [q] at h
      cases h
      exact ⟨y, rfl, r⟩
    | false =>
      rw [q] at h
      exact look_rv e2 rs h
theorem look_none {f : Str} : ∀ {fs : List (Str × D)} {gs : List (Str × V)}, fs.map (·.1) = gs.map (·.1) → fs.lookup f = none → gs.lookup f = none
  | [], [], _, _ => rfl
  | [], _ :: _, e, _ => by cases e
  | _ :: _, [], e, _ => by cases e
  | (a, x) :: fs, (b, y) :: gs, e, h => by
    obtain ⟨e1, e2⟩ := List.cons.inj e
    have e1 : a = b := e1
    subst e1
    rw [List.lookup_cons] at h ⊢
    cases q : f == a with
    | true =>
      rw [q] at h
      cases h
    | false =>
      rw [q] at h
      exact look_none e2 h
theorem put_names {f : Str} {d : D} {v : V} : ∀ {fs : List (Str × D)} {gs : List (Str × V)}, fs.map (·.1) = gs.map (·.1) → (putD f d fs).map (·.1) = (putF f v gs).map (·.1)
  | [], [], _ => rfl
  | [], _ :: _, e => by cases e
  | _ :: _, [], e => by cases e
  | (a, x) :: fs, (b, y) :: gs, e => by
    obtain ⟨e1, e2⟩ := List.cons.inj e
    have e1 : a = b := e1
    subst e1
    unfold putD putF
    by_cases h : a = f
    · rw [if_pos h, if_pos h]
      exact congrArg (a :: ·) e2
    · rw [if_neg h, if_neg h]
      exact congrArg (a :: ·) (put_names e2)
theorem put_rv {f : Str} {d : D} {v : V} (r0 : RV K mg μ H d v) : ∀ {fs : List (Str × D)} {gs : List (Str × V)}, fs.map (·.1) = gs.map (·.1) → RVs K mg μ H (fs.map (·.2)) (gs.map (·.2)) → RVs K mg μ H ((putD f d fs).map (·.2)) ((putF f v gs).map (·.2))
  | [], [], _, _ => .cons r0 .nil
  | [], _ :: _, e, _ => by cases e
  | _ :: _, [], e, _ => by cases e
  | (a, x) :: fs, (b, y) :: gs, e, .cons r rs => by
    obtain ⟨e1, e2⟩ := List.cons.inj e
    have e1 : a = b := e1
    subst e1
    unfold putD putF
    by_cases h : a = f
    · rw [if_pos h, if_pos h]
      exact .cons r0 rs
    · rw [if_neg h, if_neg h]
      exact .cons r (put_rv r0 e2 rs)
/-- an instance's cell -/
def insK (cn : Str) (x : D) (s : S) : Option (Nat × List (Str × D)) := match x with
  | .ref k => (match s[k]? with
    | some (.ins c fs) => if c = cn then some (k, fs) else none
    | _ => none)
  | _ => none
theorem insK_rv {cn : Str} {x : D} {v : V} {k : Nat} {fs : List (Str × D)} (r : Rel K mg μ s H) (rx : RV K mg μ H x v) (h : insK cn x s = some (k, fs)) :
    ∃ (a Ca dx : Addr) (gs : List (Str × V)), v = .ref a ∧ μ[k]? = some a ∧ s[k]? = some (.ins cn fs) ∧ mg cn = some (.ref Ca) ∧ H a = some (.ins Ca dx gs) ∧ fs.map (·.1) = gs.map (·.1) ∧ RVs K mg μ H (fs.map (·.2)) (gs.map (·.2)) := by
  cases rx with
  | @ref j a hk =>
    have h : (match s[j]? with
      | some (.ins c fs) => if c = cn then some (j, fs) else none
      | _ => none) = some (k, fs) := h
    split at h
    · rename_i c gs0 q
      by_cases hc : c = cn
      · rw [if_pos hc] at h
        cases h
        subst hc
        obtain ⟨Ca, dx, gs, h1, h2, h3, h4⟩ := r.cell k _ a q hk
        exact ⟨a, Ca, dx, gs, rfl, hk, q, h1, h2, h3, h4⟩
      · rw [if_neg hc] at h
        cases h
    · cases h
  | _ => cases h
end

/-- e.f -/
def getO : Option D → S → R D
  | some d, s => .ok d s
  | none, _ => .bad
def oFld (cn f : Str) (x : D) (s : S) : R D := match insK cn x s with
  | some (_, fs) => getO (fs.lookup f) s
  | none => .bad
def mFld (cn f : Str) (m : M) : M := fun ε s => (m ε s).bind (oFld cn f)
theorem names_len {fs : List (Str × D)} {gs : List (Str × V)} (h : fs.map (·.1) = gs.map (·.1)) : fs.length = gs.length := by
  have := congrArg List.length h
  rwa [List.length_map, List.length_map] at this
theorem oFld_noexc {cn f c' f' : Str} {d' x : D} {s s' : S} (e : oFld cn f x s = .exc c' f' d' s') : False := by
  unfold oFld at e
  split at e
  · rename_i fs _
    cases h2 : fs.lookup f with
    | none =>
      rw [h2] at e
      cases e
    | some d =>
      rw [h2] at e
      cases e
  · cases e
section
variable {X : Cx} {E : XK} {pos pos' : Pos} {e o value : Expr} {m mo mv : M} {cn f : Str}
theorem fld_of {μ : List Addr} {H : Hp} {s : S} {x d : D} {v : V} (c : FldOk X.K X.mg cn f) (r : Rel X.K X.mg μ s H) (rx : RV X.K X.mg μ H x v) {s2 : S} (e : oFld cn f x s = .ok d s2) :
    s2 = s ∧ ∃ a Ca dx gs w, X.mg cn = some (.ref Ca) ∧ v = .ref a ∧ H a = some (.ins Ca dx gs) ∧ Cls X.K Ca ∧ NoAttr X.K Ca f ∧ gs.lookup f = some w ∧ RV X.K X.mg μ H d w := by
  unfold oFld at e
  cases q : insK cn x s with
  | none =>
    rw [q] at e
    cases e
  | some kf =>
    obtain ⟨k, fs⟩ := kf
    rw [q] at e
    have e : getO (fs.lookup f) s = .ok d s2 := e
    obtain ⟨a, Ca', dx, gs, rfl, hk, hs, hm', ha, en, rs⟩ := insK_rv r rx q
    obtain ⟨Ca, hm, hc, hn⟩ := c
    have e1 := hm.symm.trans hm'
    cases e1
    cases e2 : fs.lookup f with
    | none =>
      rw [e2] at e
      cases e
    | some d =>
      rw [e2] at e
      cases e
      obtain ⟨w, hw, rw'⟩ := look_rv en rs e2
      exact ⟨rfl, a, _, dx, gs, w, hm, rfl, ha, hc, hn, hw, rw'⟩
theorem d_fld (c : FldOk X.K X.mg cn f) (he : DE X E e m) (hb : attributeBase e f X.env (eval e X.env) = eval e X.env := by rfl) : DE X E (.Attribute e f pos) (mFld cn f m) := PEto (pe_fld he hb) fun σ H Q ⟨ε, s, μ, hε, hr, h⟩ => by
  refine ⟨ε, s, μ, hε, hr, PO.seq h fun x s1 μ1 H1 v f1 r1 rv q => ?_⟩
  have q0 := PO.fw (r := oFld cn f x s1) q f1
  clear q
  cases e : oFld cn f x s1 with
  | ok d s2 =>
    rw [e] at q0
    obtain ⟨es, a, Ca, dx, gs, w, _, ev, ha, hc, hn, hw, rw'⟩ := fld_of c r1 rv e
    subst es
    exact ⟨a, Ca, dx, gs, w, ev, ha, hc, hn, hw, PO.ok q0 r1 rw'⟩
  | exc c' f' d' s' =>
    exact (oFld_noexc e).elim
  | bad =>
    rw [e] at q0
    exact q0.elim

/-- o.f = e -/
def putAt (cn f : Str) (o d : D) (s : S) : Option S := match insK cn o s with
  | some (k, fs) => if fs.length < 1000 then some (s.set k (.ins cn (putD f d fs))) else none
  | none => none
def putO (cn f : Str) (o d : D) (ε : Ev) (s : S) : O := match putAt cn f o d s with
  | some s3 => .nx ε s3
  | none => .bad
def sFldM (cn f : Str) (mv mo : M) : B := fun ε s => (mv ε s).to fun d s1 => (mo ε s1).to fun o s2 => putO cn f o d ε s2
theorem put_of {μ : List Addr} {H : Hp} {s s3 : S} {x d : D} {v w : V} (r : Rel X.K X.mg μ s H) (rx : RV X.K X.mg μ H x v) (rd : RV X.K X.mg μ H d w) (c : FldOk X.K X.mg cn f) (e : putAt cn f x d s = some s3) :
    ∃ a Ca dx gs, X.mg cn = some (.ref Ca) ∧ v = .ref a ∧ H a = some (.ins Ca dx gs) ∧ Cls X.K Ca ∧ NoAttr X.K Ca f ∧ gs.length < 1000 ∧ Fw X.K μ H μ (upd H a (.ins Ca dx (putF f w gs))) ∧ Rel X.K X.mg μ s3 (upd H a (.ins Ca dx (putF f w gs))) := by
  unfold putAt at e
  cases q : insK cn x s with
  | none =>
    rw [q] at e
    cases e
  | some kf =>
    obtain ⟨k, fs⟩ := kf
    rw [q] at e
    have e : (if fs.length < 1000 then some (s.set k (.ins cn (putD f d fs))) else none) = some s3 := e
    by_cases hl : fs.length < 1000
    · rw [if_pos hl] at e
      cases e
      obtain ⟨a, Ca', dx, gs, rfl, hk, hs, hm', ha, en, rs⟩ := insK_rv r rx q
      obtain ⟨Ca, hm, hc, hn⟩ := c
      have e1 := hm.symm.trans hm'
      cases e1
      obtain ⟨f1, r1⟩ := r.writeC (c2 := .ins cn (putD f d fs)) (o := .ins Ca' dx (putF f w gs)) hk hs fun f1 => ⟨Ca', dx, putF f w gs, hm, upd_same, put_names en, (put_rv rd en rs).fw f1⟩
      exact ⟨a, _, dx, gs, hm, rfl, ha, hc, hn, by rw [← names_len en]; exact hl, f1, r1⟩
    · rw [if_neg hl] at e
      cases e
theorem put_so {μ : List Addr} {H : Hp} {s : S} {x d : D} {v w : V} {ε : Ev} {σ : L2.St} {D' : Ends} (r : Rel X.K X.mg μ s H) (hε : REnv X.K X.mg μ H ε σ) (rx : RV X.K X.mg μ H x v) (rd : RV X.K X.mg μ H d w) (c : FldOk X.K X.mg cn f) (h : SO X.K X.mg E μ H (putO cn f x d ε s) D') :
    ∃ a Ca dx gs, X.mg cn = some (.ref Ca) ∧ v = .ref a ∧ H a = some (.ins Ca dx gs) ∧ Cls X.K Ca ∧ NoAttr X.K Ca f ∧ gs.length < 1000 ∧ D'.nx σ (upd H a (.ins Ca dx (putF f w gs))) := by
  unfold putO at h
  cases e4 : putAt cn f x d s with
  | none =>
    rw [e4] at h
    exact h.elim
  | some s3 =>
    rw [e4] at h
    obtain ⟨a, Ca, dx, gs, hm, e1, ha, hc, hn, hl, f3, r3⟩ := put_of r rx rd c e4
    exact ⟨a, Ca, dx, gs, hm, e1, ha, hc, hn, hl, h μ _ σ f3 r3 (hε.fw f3)⟩
theorem s_fld (c : FldOk X.K X.mg cn f) (hv : DE X E value mv) (ho : DE X E o mo) (hs : swapsWith value (some (.Attribute o f pos')) pos.line X.env = pure false := by rfl) : DS X E (.Assign [.Attribute o f pos'] value pos) (sFldM cn f mv mo) := PSto (ps_fld ho hv hs) fun D' σ H ⟨ε, s, μ, hε, hr, h⟩ => by
  refine ⟨ε, s, μ, hε, hr, SO.to (r := mv ε s) h fun d s1 μ1 H1 v f1 r1 rv q => ?_⟩
  refine ⟨ε, s1, μ1, hε.fw f1, r1, SO.to (r := mo ε s1) q fun ob s2 μ2 H2 w f2 r2 rw' q2 => ?_⟩
  obtain ⟨a, Ca, dx, gs, _, z⟩ := put_so r2 ((hε.fw f1).fw f2) rw' (rv.fw f2) c q2
  exact ⟨a, Ca, dx, gs, z⟩
/-- o.f += e, ints -/
def addPut (cn f : Str) (o x y : D) (ε : Ev) (s : S) : O := match x, y with
  | .int i, .int j => putO cn f o (.int (i + j)) ε s
  | _, _ => .bad
def sFldAdd (cn f : Str) (mo mv : M) : B := fun ε s => (mo ε s).to fun o s1 => (oFld cn f o s1).to fun x s2 => (mv ε s2).to fun y s3 => addPut cn f o x y ε s3
theorem s_fldAdd (c : FldOk X.K X.mg cn f) (ho : DE X E o mo) (hv : DE X E value mv) {tpos : Pos} : DS X E (.AugAssign (.Attribute o f tpos) .Add value pos) (sFldAdd cn f mo mv) := PSto (ps_fldaug ho hv in_add) fun D' σ H ⟨ε, s, μ, hε, hr, h⟩ => by
  refine ⟨ε, s, μ, hε, hr, SO.to (r := mo ε s) h fun ob s1 μ1 H1 v f1 r1 rv q => ?_⟩
  cases e : oFld cn f ob s1 with
  | ok x s2 =>
    rw [e] at q
    obtain ⟨es, a, Ca, dx, gs, w, hm, ev, ha, hc, hn, hw, rw'⟩ := fld_of c r1 rv e
    subst es
    refine ⟨a, Ca, dx, gs, w, ev, ha, hc, hn, hw, ε, s2, μ1, hε.fw f1, r1, SO.to (r := mv ε s2) q fun y s3 μ3 H3 u f3 r3 ru q3 => ?_⟩
    unfold addPut at q3
    cases rw' with
    | int i =>
      cases ru with
      | int j =>
        refine ⟨i, j, rfl, rfl, ?_⟩
        obtain ⟨a', Ca', dx', gs', hm', e1, ha', hc', hn', hl', q4⟩ := put_so r3 ((hε.fw f1).fw f3) (rv.fw f3) (.int (i + j)) c q3
        rw [ev] at e1
        cases e1
        have e2 := hm.symm.trans hm'
        cases e2
        exact ⟨dx', gs', ha', hl', q4⟩
      | _ => exact q3.elim
    | _ => cases ru <;> exact q3.elim
  | exc c' f' d' s' =>
    exact (oFld_noexc e).elim
  | bad =>
    rw [e] at q
    exact q.elim
end
end Mi

namespace Mi
open PySem PySem.Spec PyProof.Rows L2

/-! ### methods, and how instances are made -/
theorem PL.seqE {K : PySem.W.Frag} {mg : Str → Option Value} {E : XK} {μ : List Addr} {H : Hp} {α : Type} {r : R (List D)} {g : List D → S → R α} {ok : α → S → Prop} {Q' : List V → Hp → Prop} (h : (r.bind g).sat ok (Ex K mg E μ H))
    (k : ∀ (d : List D) (s1 : S) (μ1 : List Addr) (H1 : Hp) (v : List V), r = .ok d s1 → Fw K μ H μ1 H1 → Rel K mg μ1 s1 H1 → RVs K mg μ1 H1 d v → (g d s1).sat ok (Ex K mg E μ H) → Q' v H1) : PL K mg E μ H r Q' := by
  cases r with
  | ok d s1 => exact fun μ1 H1 v f1 r1 rv => k d s1 μ1 H1 v rfl f1 r1 rv h
  | exc c n d s1 => exact h
  | bad => exact h.elim
/-- the method m of the class cn does what F does -/
def CalM (P : Program) (w : World) (K : PySem.W.Frag) (mg : Str → Option Value) (base : Heap) (k n : Nat) (cn m : Str) (F : List D → S → R D) : Prop :=
  ∃ Ca f fd ps, mg cn = some (.ref Ca) ∧ Cls K Ca ∧ Meth K Ca m f ∧ FnOk P w K mg base (L2.CX P w) k f fd ps (spF K mg n F) ∧ Binds K fd ps []
theorem CalM.mono {P : Program} {w : World} {K : PySem.W.Frag} {mg : Str → Option Value} {base : Heap} {k n j : Nat} {cn m : Str} {F : List D → S → R D} (c : CalM P w K mg base j n cn m F) (h : j ≤ k) : CalM P w K mg base k n cn m F := by
  obtain ⟨Ca, f, fd, ps, hm, hc, hM, G, hb⟩ := c
  exact ⟨Ca, f, fd, ps, hm, hc, hM, G.mono h, hb⟩
/-- the class cn is made by what F does -/
def CalI (P : Program) (w : World) (K : PySem.W.Frag) (mg : Str → Option Value) (base : Heap) (k n : Nat) (cn : Str) (F : List D → S → R D) : Prop :=
  ∃ Ca f fd ps, mg cn = some (.ref Ca) ∧ Mk K Ca f ∧ FnOk P w K mg base (L2.CX P w) k f fd ps (spF K mg n F) ∧ Binds K fd ps []
theorem CalI.mono {P : Program} {w : World} {K : PySem.W.Frag} {mg : Str → Option Value} {base : Heap} {k n j : Nat} {cn : Str} {F : List D → S → R D} (c : CalI P w K mg base j n cn F) (h : j ≤ k) : CalI P w K mg base k n cn F := by
  obtain ⟨Ca, f, fd, ps, hm, hM, G, hb⟩ := c
  exact ⟨Ca, f, fd, ps, hm, hM, G.mono h, hb⟩
/-- the instance has no field of the method's name -/
def hasM (cn m : Str) (x : D) (s : S) : Bool := match insK cn x s with
  | some (_, fs) => (fs.lookup m).isNone
  | none => false
def mMethO (cn m : Str) (F : List D → S → R D) (mo : M) (ms : Ev → S → R (List D)) : M := fun ε s => (mo ε s).bind fun x s1 => if hasM cn m x s1 = true then (ms ε s1).bind fun ds s2 => F (x :: ds) s2 else .bad
def mMethO0 (cn m : Str) (F : List D → S → R D) (mo : M) : M := fun ε s => (mo ε s).bind fun x s1 => if hasM cn m x s1 = true then F [x] s1 else .bad
def madeK (n : Nat) : R D → R D
  | .ok .non s => .ok (.ref n) s
  | .ok _ _ => .bad
  | .exc c f d s => .exc c f d s
  | .bad => .bad
def mMake (cn : Str) (F : List D → S → R D) (ms : Ev → S → R (List D)) : M := fun ε s => (ms ε s).bind fun ds s1 => madeK s1.length (F (.ref s1.length :: ds) (s1 ++ [C.ins cn []]))
section
variable {X : Cx} {E : XK} {pos p apos : Pos} {e o : Expr} {es : List Expr} {mo : M} {ms : Ev → S → R (List D)} {cn m : Str} {k n : Nat} {F : List D → S → R D}
theorem hasM_of {μ : List Addr} {H : Hp} {s : S} {x : D} {v : V} {Ca : Addr} (r : Rel X.K X.mg μ s H) (rx : RV X.K X.mg μ H x v) (hm : X.mg cn = some (.ref Ca)) (h : hasM cn m x s = true) : ∃ a dx gs, v = .ref a ∧ H a = some (.ins Ca dx gs) ∧ gs.lookup m = none := by
  unfold hasM at h
  cases q : insK cn x s with
  | none =>
    rw [q] at h
    cases h
  | some kf =>
    obtain ⟨k, fs⟩ := kf
    rw [q] at h
    obtain ⟨a, Ca', dx, gs, rfl, hk, hs, hm', ha, en, rs⟩ := insK_rv r rx q
    have e1 := hm.symm.trans hm'
    cases e1
    exact ⟨a, dx, gs, rfl, ha, look_none en (Option.isNone_iff_eq_none.mp h)⟩
/-- o.m(e, ..) -/
theorem d_mcal {pl : Sem Bool} (c : CalM X.prog X.w X.K X.mg X.base k (n + 1) cn m F) (hr : Room k X.A) (hx : Passes (L2.CX X.prog X.w) X E) (ho : DE X E o mo) (ha : DA X E (e :: es) ms) (hl : ∀ ε s ds s1, ms ε s = .ok ds s1 → ds.length = n)
    (hst : starEach (e :: es) X.env = (false, eval e X.env) :: starEach es X.env := by rfl) (hpl : (backTo pos (starEach es X.env)).any (·.1) = false := by rfl)
    (ht : eval (.Call (.Attribute o m apos) (e :: es) [] pos) X.env = (do
      let ov ← eval o X.env
      standAt apos.atName
      let (f, first) ← holding [ov] (getMethod ov m pl)
      callWith pos f first (backTo pos (starEach (e :: es) X.env)) (backToKw pos (keywordEach [] X.env))) := by rfl) : DE X E (.Call (.Attribute o m apos) (e :: es) [] pos) (mMethO cn m F mo ms) := by
  obtain ⟨Ca, f, fd, ps, hm, hc, hM, G, hb⟩ := c
  refine PEto (pe_meth (pl := pl) ho hc hM G hr hb .nil hx ha hst hpl ht) fun σ H Q ⟨ε, s, μ, hε, hr, h⟩ => ?_
  refine ⟨ε, s, μ, hε, hr, PO.seq h fun x s1 μ1 H1 v f1 r1 rv q => ?_⟩
  obtain ⟨hc, q⟩ := PO.ite (PO.fw (r := if hasM cn m x s1 = true then (ms ε s1).bind fun ds s2 => F (x :: ds) s2 else .bad) q f1)
  obtain ⟨a, dx, gs, ev, ha, hn⟩ := hasM_of r1 rv hm hc
  refine ⟨a, dx, gs, ev, ha, hn, ε, s1, μ1, hε.fw f1, r1, PL.seqE q fun ds s2 μ2 H2 vs e2 f2 r2 rvs q2 => ?_⟩
  rw [List.append_nil]
  exact ⟨by rw [List.length_cons, ← rvs.length, hl ε s1 ds s2 e2], x :: ds, s2, μ2, .cons (rv.fw f2) rvs, r2, PO.fw (r := F (x :: ds) s2) q2 f2⟩
/-- o.m() -/
theorem d_mcal0 {pl : Sem Bool} (c : CalM X.prog X.w X.K X.mg X.base k 1 cn m F) (hr : Room k X.A) (hx : Passes (L2.CX X.prog X.w) X E) (ho : DE X E o mo)
    (ht : eval (.Call (.Attribute o m apos) [] [] pos) X.env = (do
      let ov ← eval o X.env
      standAt apos.atName
      let (f, first) ← holding [ov] (getMethod ov m pl)
      callWith pos f first (backTo pos (starEach [] X.env)) (backToKw pos (keywordEach [] X.env))) := by rfl) : DE X E (.Call (.Attribute o m apos) [] [] pos) (mMethO0 cn m F mo) := by
  obtain ⟨Ca, f, fd, ps, hm, hc, hM, G, hb⟩ := c
  refine PEto (pe_meth0 (pl := pl) ho hc hM G hr hb .nil hx ht) fun σ H Q ⟨ε, s, μ, hε, hr, h⟩ => ?_
  refine ⟨ε, s, μ, hε, hr, PO.seq h fun x s1 μ1 H1 v f1 r1 rv q => ?_⟩
  obtain ⟨hc, q⟩ := PO.ite (PO.fw (r := if hasM cn m x s1 = true then F [x] s1 else .bad) q f1)
  obtain ⟨a, dx, gs, ev, ha, hn⟩ := hasM_of r1 rv hm hc
  exact ⟨a, dx, gs, ev, ha, hn, rfl, [x], s1, μ1, .cons rv .nil, r1, q⟩
/-- C(e, ..) -/
theorem d_make (c : CalI X.prog X.w X.K X.mg X.base k (n + 1) cn F) (hr : Room (k + 1) X.A) (hx : Passes (L2.CX X.prog X.w) X E) (ha : DA X E (e :: es) ms) (hl : ∀ ε s ds s1, ms ε s = .ok ds s1 → ds.length = n) (hg : Gl X cn := by rfl) (hdb : (cn == ("__debug__" : Str)) = false := by decide)
    (he : starEach (e :: es) X.env = (false, eval e X.env) :: starEach es X.env := by rfl) (hpl : (backTo pos (starEach es X.env)).any (·.1) = false := by rfl) : DE X E (.Call (.Name cn p) (e :: es) [] pos) (mMake cn F ms) := by
  obtain ⟨Ca, f, fd, ps, hm, hM, G, hb⟩ := c
  refine PEto (pe_make hM G hr hg hm hb .nil hx ha hdb he hpl) fun σ H Q ⟨ε, s, μ, hε, hr, h⟩ => ?_
  refine ⟨ε, s, μ, hε, hr, PL.seqE h fun ds s1 μ1 H1 vs e1 f1 r1 rvs q => ?_⟩
  have q : PO X.K X.mg E μ1 H1 (madeK s1.length (F (.ref s1.length :: ds) (s1 ++ [C.ins cn []]))) Q := PO.fw q f1
  intro x dx hx hdx ne
  have hx2 : (upd H1 dx (.own x)) x = none := by rw [upd_ne (fun z => ne z.symm)]; exact hx
  have f2 : Fw X.K μ1 H1 μ1 (upd H1 dx (.own x)) := Fw.new0 hdx
  have r2 := r1.new0 (o := .own x) hdx
  have f3 : Fw X.K μ1 (upd H1 dx (.own x)) (μ1 ++ [x]) (upd (upd H1 dx (.own x)) x (.ins Ca dx [])) := Fw.new hx2
  have r3 := r2.push (c := C.ins cn []) hx2 ⟨Ca, dx, [], hm, upd_same, rfl, .nil⟩
  have hr : RV X.K X.mg (μ1 ++ [x]) (upd (upd H1 dx (.own x)) x (.ins Ca dx [])) (.ref s1.length) (.ref x) := .ref (by
    rw [List.getElem?_append_right (by rw [r1.len]; exact Nat.le_refl _), r1.len, Nat.sub_self]
    rfl)
  rw [List.append_nil]
  refine ⟨by rw [List.length_cons, ← rvs.length, hl ε s ds s1 e1], _, _, _, .cons hr ((rvs.fw f2).fw f3), r3, ?_⟩
  have q := PO.fw q (f2.trans f3)
  cases e : F (.ref s1.length :: ds) (s1 ++ [C.ins cn []]) with
  | ok d s2 =>
    rw [e] at q
    cases d with
    | non =>
      intro μ4 H4 v f4 r4 rv4
      cases rv4
      refine ⟨rfl, (show PO X.K X.mg E _ _ (.ok (.ref s1.length) s2) Q from q) μ4 H4 _ f4 r4 (hr.fw f4)⟩
    | _ => exact q.elim
  | exc c f d s2 =>
    rw [e] at q
    exact q
  | bad =>
    rw [e] at q
    exact q.elim
end

/-! ### a method by its mirror -/
/-- the text's method stands behind the top -/
structure MethAt (K : PySem.W.Frag) (mg : Str → Option Value) (cn m qn : Str) (st : Stmt) (ps : List Str) : Prop where
  ex : ∃ Ca f fd, mg cn = some (.ref Ca) ∧ Cls K Ca ∧ Meth K Ca m f ∧ Fun K m qn st f fd ∧ Binds K fd ps []
structure InitAt (K : PySem.W.Frag) (mg : Str → Option Value) (cn qn : Str) (st : Stmt) (ps : List Str) : Prop where
  ex : ∃ Ca f fd, mg cn = some (.ref Ca) ∧ Mk K Ca f ∧ Fun K "__init__" qn st f fd ∧ Binds K fd ps []
section
variable {P : Program} {w : World} {K : PySem.W.Frag} {mg : Str → Option Value} {base : Heap} {k n : Nat} {cn m qn : Str}
theorem calM_of {st : Stmt} {N ps : List Str} {B : Mi.B} (D : MethAt K mg cn m qn st ps) (S : FnScope N ps (defScope st)) (hn : ps.length = n)
    (hbody : ∀ (f : Addr) (cdv : Value) (A : Around) (outer : List Env) (s : Shared) (H : Hp) (E : XK), Room k (A.deeper (envOfC qn (defScope st) s.heap.objs.size f cdv)) →
      DB (cxOf (L2.CX P w) P w K mg base N qn (defScope st) f cdv A outer s H E) E (defBody st) B) : CalM P w K mg base (k + 1) n cn m (runF n N.length B) := by
  obtain ⟨Ca, f, fd, hm, hc, hM, F, hb⟩ := D.ex
  exact ⟨Ca, f, fd, ps, hm, hc, hM, fnok_of F S hn hbody, hb⟩
theorem calM_bad {st : Stmt} {N ps : List Str} (D : MethAt K mg cn m qn st ps) (S : FnScope N ps (defScope st)) (hn : ps.length = n) : CalM P w K mg base (k + 1) n cn m (runF n N.length fun _ _ => .bad) := calM_of D S hn fun _ _ _ _ _ _ _ _ => b_bad
theorem calI_of {st : Stmt} {N ps : List Str} {B : Mi.B} (D : InitAt K mg cn qn st ps) (S : FnScope N ps (defScope st)) (hn : ps.length = n)
    (hbody : ∀ (f : Addr) (cdv : Value) (A : Around) (outer : List Env) (s : Shared) (H : Hp) (E : XK), Room k (A.deeper (envOfC qn (defScope st) s.heap.objs.size f cdv)) →
      DB (cxOf (L2.CX P w) P w K mg base N qn (defScope st) f cdv A outer s H E) E (defBody st) B) : CalI P w K mg base (k + 1) n cn (runF n N.length B) := by
  obtain ⟨Ca, f, fd, hm, hM, F, hb⟩ := D.ex
  exact ⟨Ca, f, fd, ps, hm, hM, fnok_of F S hn hbody, hb⟩
end
end Mi

namespace Mi
open PySem PySem.Spec PyProof.Rows L2

/-! ### f-strings -/
def fmtK : D → S → R D
  | .str y, s => if y.length ≤ sizeLine then .ok (.str y) s else .bad
  | .int i, s => if i.natAbs.log2 < 1920 then .ok (.str (Str.ofString (toString i))) s else .bad
  | _, _ => .bad
def mFmt (m : M) : M := fun ε s => (m ε s).bind fmtK
def jK (acc : Str) (r : Str → S → R D) : D → S → R D
  | .str y, s => if (acc ++ y).length ≤ sizeLine then r (acc ++ y) s else .bad
  | _, _ => .bad
def joinM : List M → Str → Ev → S → R D
  | [], acc, _, s => .ok (.str acc) s
  | m :: ms, acc, ε, s => (m ε s).bind (jK acc fun a s1 => joinM ms a ε s1)
def mJoined (ms : List M) : M := fun ε s => joinM ms Str.empty ε s
section
variable {X : Cx} {E : XK} {pos : Pos} {e : Expr} {m : M} {es : List Expr} {ms : List M}
theorem d_fmt (he : DE X E e m) : DE X E (.FormattedValue e (-1) none pos) (mFmt m) := PEto (pe_fmt he) fun σ H Q ⟨ε, s, μ, hε, hr, h⟩ => by
  refine ⟨ε, s, μ, hε, hr, PO.seq h fun x s1 μ1 H1 v f1 r1 rv q => ?_⟩
  have q := PO.fw (r := fmtK x s1) q f1
  cases rv with
  | str y =>
    obtain ⟨hl, q⟩ := PO.ite (show PO X.K X.mg E μ1 H1 (if y.length ≤ sizeLine then .ok (.str y) s1 else .bad) Q from q)
    exact .inl ⟨y, rfl, hl, PO.same q r1 (.str _)⟩
  | int i =>
    obtain ⟨hl, q⟩ := PO.ite (show PO X.K X.mg E μ1 H1 (if i.natAbs.log2 < 1920 then .ok (.str (Str.ofString (toString i))) s1 else .bad) Q from q)
    exact .inr ⟨i, rfl, hl, PO.same q r1 (.str _)⟩
  | _ => exact q.elim
inductive DJ (X : Cx) (E : XK) : List Expr → List M → Prop where
  | nil : DJ X E [] []
  | cons {e : Expr} {m : M} {es : List Expr} {ms : List M} (h : DE X E e m) (r : DJ X E es ms) : DJ X E (e :: es) (m :: ms)
theorem DJ.pj (h : DJ X E es ms) : PJ X es (ms.map fun m => tM X.K X.mg E m) := by
  induction h with
  | nil => exact .nil
  | cons h r ih => exact .cons h ih
theorem joins_of {σ : L2.St} {Q : VK} : ∀ {ms : List M} {acc : Str} {ε : Ev} {s : S} {μ : List Addr} {H : Hp}, REnv X.K X.mg μ H ε σ → Rel X.K X.mg μ s H → PO X.K X.mg E μ H (joinM ms acc ε s) Q →
    tJs (ms.map fun m => tM X.K X.mg E m) acc σ H fun out H1 => Q (.str out) H1
  | [], acc, ε, s, μ, H, hε, hr, h => PO.same h hr (.str _)
  | m :: ms, acc, ε, s, μ, H, hε, hr, h => by
    refine ⟨ε, s, μ, hε, hr, PO.seq h fun x s1 μ1 H1 v f1 r1 rv q => ?_⟩
    have q := PO.fw (r := jK acc (fun a s1 => joinM ms a ε s1) x s1) q f1
    cases rv with
    | str y =>
      obtain ⟨hl, q⟩ := PO.ite (show PO X.K X.mg E μ1 H1 (if (acc ++ y).length ≤ sizeLine then joinM ms (acc ++ y) ε s1 else .bad) Q from q)
      exact ⟨y, rfl, hl, joins_of (hε.fw f1) r1 q⟩
    | _ => exact q.elim
theorem d_joined {e1 e2 : Expr} (h : DJ X E (e1 :: e2 :: es) ms) : DE X E (.JoinedStr (e1 :: e2 :: es) pos) (mJoined ms) := PEto (pe_joined h.pj) fun σ H Q ⟨ε, s, μ, hε, hr, h⟩ => joins_of hε hr h
theorem d_joined1 (h : DE X E e m) : DE X E (.JoinedStr [e] pos) m := pe_joined1 h
end

/-! ### texts in order -/
def strLt (i j : Str) : Bool := decide (i.cps.toList < j.cps.toList)
def oCmpT (f : Int → Int → Bool) (g : Str → Str → Bool) : D → D → S → R D
  | .int i, .int j, s => .ok (.bl (f i j)) s
  | .str i, .str j, s => .ok (.bl (g i j)) s
  | _, _, _ => .bad
def rCmpT (f : Int → Int → Bool) (g : Str → Str → Bool) : R2 := fun x y H Q => rI0 (fun i j => .bl (f i j)) x y H Q ∨ ∃ i j, x = .str i ∧ y = .str j ∧ Q (.bl (g i j)) H
theorem os_cmpT {K : PySem.W.Frag} {mg : Str → Option Value} {f : Int → Int → Bool} {g : Str → Str → Bool} : OpS K mg (rCmpT f g) (oCmpT f g) := fun E μ H s x y vx vy Q hr rx ry h => by
  cases rx with
  | int i =>
    cases ry with
    | int j => exact .inl ⟨i, j, rfl, rfl, PO.same h hr (.bl _)⟩
    | _ => exact h.elim
  | str i =>
    cases ry with
    | str j => exact .inr ⟨i, j, rfl, rfl, PO.same h hr (.bl _)⟩
    | _ => exact h.elim
  | _ => exact h.elim
def oLeT := oCmpT (fun i j => decide (i ≤ j)) (fun i j => !strLt j i)
theorem or_leT {X : Cx} : OpR X (compareOp .LtE) (rCmpT (fun i j => decide (i ≤ j)) (fun i j => !strLt j i)) := OpR.or op_le op_le_str

/-! ### x in a list, a tuple of flat values, or a text in a text -/
def flatD : D → Bool
  | .non => true
  | .bl _ => true
  | .int _ => true
  | .str _ => true
  | _ => false
def eqFD : D → D → Bool
  | .non, .non => true
  | .bl a, .bl b => a == b
  | .bl a, .int b => (if a then 1 else 0) == b
  | .int a, .bl b => a == (if b then 1 else 0)
  | .int a, .int b => a == b
  | .str a, .str b => a == b
  | _, _ => false
def inD (x : D) (ds : List D) : Bool := ds.any fun y => eqFD y x
def inSeqK (neg : Bool) (x : D) (ds : List D) (s : S) : R D := if flatD x = true ∧ ds.all flatD = true then .ok (.bl (if neg then !inD x ds else inD x ds)) s else .bad
def inCellK (neg : Bool) (x : D) : Option C → S → R D
  | some (.lst ds), s => inSeqK neg x ds s
  | _, _ => .bad
def oIn (neg : Bool) : D → D → S → R D
  | x, .ref k, s => inCellK neg x s[k]? s
  | x, .tup ds, s => inSeqK neg x ds s
  | x, .frl ds, s => inSeqK neg x ds s
  | .str i, .str j, s => .ok (.bl (if neg then !inStr i j else inStr i j)) s
  | _, _, _ => .bad
section
variable {K : PySem.W.Frag} {mg : Str → Option Value} {μ : List Addr} {H : Hp} {s : S}
theorem flat_rv {d : D} {v : V} (r : RV K mg μ H d v) (h : flatD d = true) : flatV v = true := by
  cases r <;> first | rfl | cases h
theorem eqF_rv {d e : D} {v w : V} (r : RV K mg μ H d v) (q : RV K mg μ H e w) (h : flatD d = true) (h' : flatD e = true) : eqV v w = eqFD d e := by
  cases r <;> first | (cases h; done) | (cases q <;> first | (cases h'; done) | rfl)
theorem all_rv : ∀ {ds : List D} {vs : List V}, RVs K mg μ H ds vs → ds.all flatD = true → vs.all flatV = true
  | _, _, .nil, _ => rfl
  | _, _, .cons r rs, h => by
    rw [List.all_cons, Bool.and_eq_true] at h ⊢
    exact ⟨flat_rv r h.1, all_rv rs h.2⟩
theorem in_rv {x : D} {v : V} (rx : RV K mg μ H x v) (fx : flatD x = true) : ∀ {ds : List D} {vs : List V}, RVs K mg μ H ds vs → ds.all flatD = true → inV v vs = inD x ds
  | _, _, .nil, _ => rfl
  | _, _, .cons r rs, h => by
    rw [List.all_cons, Bool.and_eq_true] at h
    unfold inV inD
    rw [List.any_cons, List.any_cons, eqF_rv r rx h.1 fx]
    exact congrArg _ (in_rv rx fx rs h.2)
theorem in_seq {E : XK} {Q : VK} {neg : Bool} {x : D} {v : V} {ds : List D} {vs : List V} (hr : Rel K mg μ s H) (rx : RV K mg μ H x v) (rs : RVs K mg μ H ds vs) (h : PO K mg E μ H (inSeqK neg x ds s) Q) :
    flatV v = true ∧ vs.all flatV = true ∧ Q (.bl (if neg then !inV v vs else inV v vs)) H := by
  obtain ⟨hc, h⟩ := PO.ite (show PO K mg E μ H (if flatD x = true ∧ ds.all flatD = true then .ok (.bl (if neg then !inD x ds else inD x ds)) s else .bad) Q from h)
  refine ⟨flat_rv rx hc.1, all_rv rs hc.2, ?_⟩
  rw [in_rv rx hc.1 rs hc.2]
  exact PO.same h hr (.bl _)
def rInAny (K : PySem.W.Frag) (neg : Bool) : R2 := fun x y H Q => rIn K neg x y H Q ∨ ∃ i j, x = .str i ∧ y = .str j ∧ Q (.bl (if neg then !(!(Builtin.Str.occurrences j i 0 j.length 1).isEmpty) else !(Builtin.Str.occurrences j i 0 j.length 1).isEmpty)) H
theorem os_in {neg : Bool} : OpS K mg (rInAny K neg) (oIn neg) := fun E μ H s x y vx vy Q hr rx ry h => by
  cases ry with
  | @ref k a hk =>
    have h : PO K mg E μ H (inCellK neg x s[k]? s) Q := by
      cases x <;> exact h
    cases g : s[k]? with
    | none =>
      rw [g] at h
      exact h.elim
    | some c =>
      rw [g] at h
      cases c with
      | dic kvs => exact h.elim
      | ins _ _ => exact h.elim
      | lst ds =>
        obtain ⟨vs, hv, rs⟩ := hr.at g hk
        obtain ⟨h1, h2, h3⟩ := in_seq hr rx rs h
        exact .inl ⟨a, vs, rfl, .inl (SqL.of hv), h1, h2, h3⟩
  | @tup ds p vs hq rs =>
    have h : PO K mg E μ H (inSeqK neg x ds s) Q := by
      cases x <;> exact h
    obtain ⟨h1, h2, h3⟩ := in_seq hr rx rs h
    exact .inl ⟨p, vs, rfl, .inr hq, h1, h2, h3⟩
  | @frl ds p vs hq rs =>
    have h : PO K mg E μ H (inSeqK neg x ds s) Q := by
      cases x <;> exact h
    obtain ⟨h1, h2, h3⟩ := in_seq hr rx rs h
    exact .inl ⟨p, vs, rfl, .inl hq.seq, h1, h2, h3⟩
  | str j =>
    cases rx with
    | str i => exact .inr ⟨i, j, rfl, rfl, PO.same h hr (.bl _)⟩
    | _ => exact h.elim
  | _ => cases rx <;> exact h.elim
end
theorem or_in {X : Cx} : OpR X (compareOp .In) (rInAny X.K false) := OpR.or op_in_seq op_in_str
theorem or_notIn {X : Cx} : OpR X (compareOp .NotIn) (rInAny X.K true) := OpR.or op_notIn_seq op_notIn_str

/-! ### str(x), int(x), max(xs), x.isdigit() -/
def cStr2 : List D → S → R D
  | [.int i], s => if i.natAbs.log2 < 1920 then .ok (.str (Str.ofString (toString i))) s else .bad
  | [.str x], s => .ok (.str x) s
  | _, _ => .bad
theorem cs_str2 {K : PySem.W.Frag} {mg : Str → Option Value} : CaS K mg (fun xs H Q => (∃ i, xs = [.int i] ∧ i.natAbs.log2 < 1920 ∧ Q (.str (toString i)) H) ∨ ∃ a, xs = [.str a] ∧ Q (.str a) H) cStr2 := fun E μ H s xs vs Q hr rs h => by
  cases rs with
  | nil => exact h.elim
  | cons r rs' =>
    cases rs' with
    | cons _ _ => cases r <;> exact h.elim
    | nil =>
      cases r with
      | int i =>
        obtain ⟨hl, h⟩ := PO.ite (show PO K mg E μ H (if i.natAbs.log2 < 1920 then .ok (.str (Str.ofString (toString i))) s else .bad) Q from h)
        exact .inl ⟨i, rfl, hl, PO.same h hr (.str _)⟩
      | str x => exact .inr ⟨x, rfl, PO.same h hr (.str _)⟩
      | _ => exact h.elim
def intK (x : Str) (s : S) : Option Int → R D
  | some n => if x.length ≤ 640 then .ok (.int n) s else .bad
  | none => .bad
def cInt2 : List D → S → R D
  | [.int i], s => .ok (.int i) s
  | [.str x], s => intK x s (PySem.intText? x)
  | _, _ => .bad
theorem cs_int2 {K : PySem.W.Frag} {mg : Str → Option Value} : CaS K mg (fun xs H Q => ((∃ i, xs = [.int i] ∧ Q (.int i) H) ∨ ∃ k, xs = [.bl k] ∧ Q (.int (if k then 1 else 0)) H) ∨ ∃ a n, xs = [.str a] ∧ PySem.intText? a = some n ∧ a.length ≤ 640 ∧ Q (.int n) H) cInt2 := fun E μ H s xs vs Q hr rs h => by
  cases rs with
  | nil => exact h.elim
  | cons r rs' =>
    cases rs' with
    | cons _ _ => cases r <;> exact h.elim
    | nil =>
      cases r with
      | int i => exact .inl (.inl ⟨i, rfl, PO.same h hr (.int _)⟩)
      | str x =>
        have h : PO K mg E μ H (intK x s (PySem.intText? x)) Q := h
        cases e : PySem.intText? x with
        | none =>
          rw [e] at h
          exact h.elim
        | some n =>
          rw [e] at h
          obtain ⟨hl, h⟩ := PO.ite (show PO K mg E μ H (if x.length ≤ 640 then .ok (.int n) s else .bad) Q from h)
          exact .inr ⟨x, n, rfl, e, hl, PO.same h hr (.int _)⟩
      | _ => exact h.elim
def oIsdigit : D → List D → S → R D
  | .str x, [], s => .ok (.bl (Txt.isdigit x)) s
  | _, _, _ => .bad
theorem ms_isdigit {K : PySem.W.Frag} {mg : Str → Option Value} : MtS K mg (fun x xs H Q => ∃ a, x = .str a ∧ xs = [] ∧ True ∧ Q (.bl (Txt.isdigit a)) H) oIsdigit := fun E μ H s x xs v vs Q hr rv rs h => by
  cases rv with
  | str x =>
    cases rs with
    | nil => exact ⟨x, rfl, rfl, trivial, PO.same h hr (.bl _)⟩
    | cons _ _ => exact h.elim
  | _ => cases rs <;> exact h.elim
section
variable {X : Cx} {E : XK} {pos p apos : Pos} {e o : Expr} {ms : Ev → S → R (List D)} {mo : M}
theorem d_str1 (hm : X.mg "str" = none) (ha : DA X E [e] ms) (hg : Gl X "str" := by rfl) (he : starEach [e] X.env = (false, eval e X.env) :: starEach [] X.env := by rfl) (hpl : (backTo pos (starEach [] X.env)).any (·.1) = false := by rfl) : DE X E (.Call (.Name "str" p) [e] [] pos) (mCall cStr2 ms) :=
  d_callTy (CallR.or call_str_int SkE.call_str_str) cs_str2 hm (by boot_by_name) ha hg (by decide) (by decide) he hpl
theorem d_int2 (hm : X.mg "int" = none) (ha : DA X E [e] ms) (hg : Gl X "int" := by rfl) (he : starEach [e] X.env = (false, eval e X.env) :: starEach [] X.env := by rfl) (hpl : (backTo pos (starEach [] X.env)).any (·.1) = false := by rfl) : DE X E (.Call (.Name "int" p) [e] [] pos) (mCall cInt2 ms) :=
  d_callTy (CallR.or call_int1 call_int_str) cs_int2 hm (by boot_by_name) ha hg (by decide) (by decide) he hpl
theorem d_isdigit (ho : DE X E o mo) (hbase : attributeBase o "isdigit" X.env (eval o X.env) = eval o X.env := by rfl) (hline : (apos.endLine == pos.line) = true := by rfl) : DE X E (.Call (.Attribute o "isdigit" apos) [] [] pos) (mMeth0 isStr oIsdigit mo) :=
  d_meth0 ty_str ms_isdigit PySem.F.plainAttrs_str PySem.F.slot_str_isdigit PySem.F.type_str_isdigit mt_isdigit ho hbase hline
end

/-! ### max(xs), a list of ints -/
def intsOf : List D → Option (List Int)
  | [] => some []
  | .int x :: ds => (intsOf ds).map (x :: ·)
  | _ => none
theorem intsOf_rv {K : PySem.W.Frag} {mg : Str → Option Value} {μ : List Addr} {H : Hp} : ∀ {ds : List D} {vs : List V} {ys : List Int}, RVs K mg μ H ds vs → intsOf ds = some ys → vs = ys.map V.int
  | [], _, _, .nil, e => by
    cases e
    rfl
  | d :: ds, _, ys, .cons r rs, e => by
    cases r with
    | int x =>
      obtain ⟨zs, e1, rfl⟩ := Option.map_eq_some_iff.mp (show (intsOf ds).map (x :: ·) = some ys from e)
      rw [intsOf_rv rs e1]
      rfl
    | _ => cases e
def maxI : List Int → Int
  | [] => 0
  | [x] => x
  | x :: y :: r => if x < maxI (y :: r) then maxI (y :: r) else x
theorem maxI_mem : ∀ {ns : List Int}, ns ≠ [] → maxI ns ∈ ns
  | [], h => (h rfl).elim
  | [x], _ => List.mem_singleton.mpr rfl
  | x :: y :: r, _ => by
    unfold maxI
    by_cases h : x < maxI (y :: r)
    · rw [if_pos h]
      exact List.mem_cons_of_mem _ (maxI_mem (List.cons_ne_nil _ _))
    · rw [if_neg h]
      exact List.mem_cons_self
theorem maxI_le : ∀ {ns : List Int} {z : Int}, z ∈ ns → z ≤ maxI ns
  | [], _, h => by cases h
  | [x], z, h => by
    rw [List.mem_singleton.mp h]
    exact Int.le_refl _
  | x :: y :: r, z, h => by
    unfold maxI
    have ih : ∀ {z : Int}, z ∈ y :: r → z ≤ maxI (y :: r) := maxI_le
    rcases List.mem_cons.mp h with rfl | h
    · by_cases h1 : z < maxI (y :: r)
      · rw [if_pos h1]
        omega
      · rw [if_neg h1]
        exact Int.le_refl _
    · have := ih h
      by_cases h1 : x < maxI (y :: r)
      · rw [if_pos h1]
        exact this
      · rw [if_neg h1]
        omega
def maxK (s : S) : Option (List Int) → R D
  | some (x :: ns) => .ok (.int (maxI (x :: ns))) s
  | _ => .bad
def cMaxL : List D → S → R D
  | [.ref k], s => (match s[k]? with
    | some (.lst ds) => maxK s (intsOf ds)
    | _ => .bad)
  | _, _ => .bad
theorem cs_maxL {K : PySem.W.Frag} {mg : Str → Option Value} : CaS K mg (rMax K) cMaxL := fun E μ H s xs vs Q hr rs h => by
  cases rs with
  | nil => exact h.elim
  | cons r rs' =>
    cases rs' with
    | cons _ _ => cases r <;> exact h.elim
    | nil =>
      cases r with
      | @ref k a hk =>
        have h : PO K mg E μ H (match s[k]? with
          | some (.lst ds) => maxK s (intsOf ds)
          | _ => .bad) Q := h
        split at h
        · rename_i ds g
          obtain ⟨us, hv, ru⟩ := hr.at g hk
          cases e : intsOf ds with
          | none =>
            rw [e] at h
            exact h.elim
          | some ns =>
            rw [e] at h
            have e2 := intsOf_rv ru e
            subst e2
            cases ns with
            | nil => exact h.elim
            | cons x ns =>
              refine ⟨a, x :: ns, rfl, SqL.of hv, Nat.succ_pos _, fun m h1 h2 => ?_⟩
              have e3 : m = maxI (x :: ns) := Int.le_antisymm (maxI_le h1) (h2 _ (maxI_mem (List.cons_ne_nil _ _)))
              rw [e3]
              exact PO.same h hr (.int _)
        · exact h.elim
      | _ => exact h.elim
theorem d_maxL {X : Cx} {E : XK} {pos p : Pos} {e : Expr} {ms : Ev → S → R (List D)} (hc : X.calm = true) (hm : X.mg "max" = none) (ha : DA X E [e] ms) (hg : Gl X "max" := by rfl) (he : starEach [e] X.env = (false, eval e X.env) :: starEach [] X.env := by rfl) (hpl : (backTo pos (starEach [] X.env)).any (·.1) = false := by rfl) : DE X E (.Call (.Name "max" p) [e] [] pos) (mCall cMaxL ms) :=
  d_callB (cr_max hc) cs_maxL hm (by boot_by_name) ha hg (by decide) (by decide) he hpl

/-! ### a tuple of texts that stands at a global name -/
def GTup (K : PySem.W.Frag) (mg : Str → Option Value) (x : Str) (xs : List Str) : Prop := ∃ (p : Addr) (o : Obj) (its : Array Value) (n : Nat), mg x = some (.ref p) ∧ K.lookup p = some o ∧ o.cls = .type "tuple" ∧ o.data = .seq its n ∧ its.size ≤ sizeLine ∧ Vals (xs.map V.str) its.toList
theorem RVs.strs {K : PySem.W.Frag} {mg : Str → Option Value} {μ : List Addr} {H : Hp} : ∀ xs : List Str, RVs K mg μ H (xs.map D.str) (xs.map V.str)
  | [] => .nil
  | x :: xs => .cons (.str x) (RVs.strs xs)
theorem d_gtup {X : Cx} {E : XK} {pos : Pos} {x : Str} {xs : List Str} (h : GTup X.K X.mg x xs) (hg : Gl X x := by rfl) (hd : (x == ("__debug__" : Str)) = false := by decide) : DE X E (.Name x pos) (mC (.tup (xs.map D.str))) := by
  obtain ⟨p, o, its, n, hm, hk, hc, hs, hz, hv⟩ := h
  exact d_glob (v := .ref p) hm rfl (fun μ H => .tup (.inr ⟨o, its, n, hk, hc, hs, hz, hv⟩) (RVs.strs xs)) hg hd
end Mi

namespace Mi
open PySem PySem.Spec PyProof.Rows L2

/-! ### a def called in a try -/
section
variable {X : Cx} {k n : Nat} {x : Str} {F : List D → S → R D} {pos p : Pos} {e : Expr} {es : List Expr} {ms : Ev → S → R (List D)} {W : WX}
theorem d_calS (c : Cal X.prog X.w X.K X.mg X.base k n x F) (hr : Room k X.A) (tk : Takes X W) (ha : DA X E0 (e :: es) ms) (hl : ∀ ε s ds s1, ms ε s = .ok ds s1 → ds.length = n) (hne : ∀ ε s c f d s1, ms ε s ≠ .exc c f d s1) (hg : Gl X x := by rfl) (hdb : (x == ("__debug__" : Str)) = false := by decide)
    (he : starEach (e :: es) X.env = (false, eval e X.env) :: starEach es X.env := by rfl) (hpl : (backTo pos (starEach es X.env)).any (·.1) = false := by rfl) : DEs X (WE W) (.Call (.Name x p) (e :: es) [] pos) (mCall F ms) := by
  obtain ⟨f, fd, ps, hm, FO, hk, hb⟩ := c
  exact d_callS FO hr hm hk hb tk ha hl hne hg hdb he hpl
end

/-! ### a suite's mirror, with the error's slot and without -/
section
variable {i : Nat} {x : D}
def SameM (i : Nat) (x : D) (m m' : M) : Prop := ∀ (ε : Ev) (s : S), i < ε.length → m (ε.set i (some x)) s = m' ε s
def SameL (i : Nat) (x : D) (m m' : Ev → S → R (List D)) : Prop := ∀ (ε : Ev) (s : S), i < ε.length → m (ε.set i (some x)) s = m' ε s
def SameB (i : Nat) (x : D) (m m' : B) : Prop := ∀ (ε : Ev) (s : S), i < ε.length → m (ε.set i (some x)) s = m' ε s
variable {m m' a a' b b' : M} {l l' : Ev → S → R (List D)}
theorem same_c {d : D} : SameM i x (mC d) (mC d) := fun _ _ _ => rfl
theorem same_var {j : Nat} (h : i ≠ j) : SameM i x (mVar j) (mVar j) := fun ε s _ => by
  unfold mVar
  rw [List.getElem?_set_ne h]
theorem bind_congr {α β : Type} {r r' : R α} {g g' : α → S → R β} (h : r = r') (k : ∀ a s, g a s = g' a s) : r.bind g = r'.bind g' := by
  subst h
  cases r with
  | ok a s => exact k a s
  | exc _ _ _ _ => rfl
  | bad => rfl
theorem same_and (ha : SameM i x a a') (hb : SameM i x b b') : SameM i x (mAnd a b) (mAnd a' b') := fun ε s h => bind_congr (ha ε s h) fun d s1 => by
  cases d with
  | bl q =>
    cases q
    · rfl
    · exact hb ε s1 h
  | _ => rfl
theorem same_or (ha : SameM i x a a') (hb : SameM i x b b') : SameM i x (mOr a b) (mOr a' b') := fun ε s h => bind_congr (ha ε s h) fun d s1 => by
  cases d with
  | bl q =>
    cases q
    · exact hb ε s1 h
    · rfl
  | _ => rfl
theorem same_not (ha : SameM i x a a') : SameM i x (mNot a) (mNot a') := fun ε s h => bind_congr (ha ε s h) fun d s1 => rfl
theorem same_op {op : D → D → S → R D} (ha : SameM i x a a') (hb : SameM i x b b') : SameM i x (mOp op a b) (mOp op a' b') := fun ε s h => bind_congr (ha ε s h) fun d s1 => bind_congr (hb ε s1 h) fun _ _ => rfl
theorem same_nil : SameL i x mNil mNil := fun _ _ _ => rfl
theorem same_cons (ha : SameM i x a a') (hl : SameL i x l l') : SameL i x (mCons a l) (mCons a' l') := fun ε s h => bind_congr (ha ε s h) fun d s1 => bind_congr (hl ε s1 h) fun _ _ => rfl
theorem same_lst (hl : SameL i x l l') : SameM i x (mLst l) (mLst l') := fun ε s h => bind_congr (hl ε s h) fun _ _ => rfl
theorem same_tup (hl : SameL i x l l') : SameM i x (mTup l) (mTup l') := fun ε s h => bind_congr (hl ε s h) fun _ _ => rfl
theorem same_ret (ha : SameM i x a a') : SameB i x (sRet a) (sRet a') := fun ε s h => by
  show (a (ε.set i (some x)) s).to _ = (a' ε s).to _
  rw [ha ε s h]
theorem same_at {A C dd : Addr} {d : D} : SameM i (.exn A C dd "at" d) (mAt A (.ref C) (some dd) C (mVar i)) (mC d) := fun ε s h => by
  unfold mAt
  rw [mVar_set h]
  exact mAtK_ok
theorem same_isE {A C dd : Addr} {cn bn f : Str} {d t : D} (ht : ansE cn bn t = some true) : SameM i (.exn A C dd f d) (mCall (cIsE A (.ref C) (some dd) C (ansE cn bn)) (mCons (mVar i) (mCons (mC t) mNil))) (mC (.bl true)) := fun ε s h => by
  show (mCons (mVar i) (mCons (mC t) mNil) (ε.set i (some _)) s).bind _ = _
  unfold mCons
  rw [mVar_set h]
  exact cIsE_ok (f := f) (d := d) ht
end
open Classical in
/-- the suite by a mirror without the error's addresses -/
noncomputable def suOf (cn : Str) (i : Nat) (b : D → B) : Str → Str → D → B := fun c f d ε s => if c = cn ∧ f = "at" ∧ i < ε.length then b d ε s else .bad
theorem su_of {X : Cx} {C CB : Addr} {cn bn : Str} {i : Nat} {suM : Addr → Addr → Value → Option Addr → B} {b : D → B} (T : ErrS X.K X.mg cn bn C CB) (h : ∀ (a dd : Addr) (d : D), SameB i (.exn a C dd "at" d) (suM C a (.ref C) (some dd)) (b d)) : Su X (.ref CB) i (suM C) (suOf cn i b) := fun c f d ε s hb C' hm => by
  unfold suOf at hb ⊢
  split at hb
  · rename_i h1
    obtain ⟨rfl, rfl, hl⟩ := h1
    rw [T.mC] at hm
    cases hm
    refine ⟨T.ex, fun a dd => ?_⟩
    rw [if_pos ⟨rfl, rfl, hl⟩]
    exact h a dd d ε s hl
  · exact absurd rfl hb
theorem ansE_c {cn bn : Str} : ansE cn bn (.fn cn) = some true := by
  unfold ansE
  exact if_pos (.inl rfl)
theorem ansE_v {cn bn : Str} : ansE cn bn (.ty "ValueError") = some true := by
  unfold ansE
  exact if_pos rfl
end Mi

namespace Mi
open PySem PySem.Spec PyProof.Rows L2

/-! ### what the head shows of an error class -/
section
variable {P : Program} {K : PySem.W.Frag} {mg : Str → Option Value} {h : Heap} {cn bn : Str}
theorem along_of {C : Addr} {nm q : Str} {N : Addr} {bs bm : List Value} {sn : List Str} {sub : List Value} {ab : Bool} {col : Option Bool} {dd : Option Addr} {k0 k1 k2 k3 k5 : Option Value}
    (xC : K.lookup C = some (excClassObj nm q C N bs bm true sn sub ab col dd k0 k1 k2 k3 k5 "ValueError.__new__")) (al : PySem.W.ks_superIn K C C "__init__" = some (some (.builtin "ValueError.__init__"))) : PySem.W.alongIn K "__init__" bm = some (some (.builtin "ValueError.__init__")) := by
  have hcl : PySem.W.clsIn K C = some { name := nm, bases := bs, mro := .ref C :: bm, ns := N, qualname := q, hasDict := true, slotNames := sn, subclasses := sub, abstract := ab, collection := col, hasDel := false } := by unfold PySem.W.clsIn; rw [xC] <;> rfl
  unfold PySem.W.ks_superIn at al
  rw [hcl, Option.bind_some] at al
  have e : ((Value.ref C :: bm).dropWhile (· != .ref C)).drop 1 = bm := ErrX.dropOwn C bm
  have al : PySem.W.alongIn K "__init__" (((Value.ref C :: bm).dropWhile (· != .ref C)).drop 1) = some (some (.builtin "ValueError.__init__")) := al
  rw [e] at al
  exact al
theorem rs_mk (X : K.In h) (G : h.Ns mainGlobals mg) {C fI cc cda : Addr} {nm q qual file : Str} {N : Addr} {bs bm : List Value} {sn : List Str} {sub : List Value} {ab : Bool} {col : Option Bool} {dd : Option Addr} {k0 k1 k2 k3 k5 : Option Value}
    {oc kV doc pm ct cl ccl : Value} {od an cld cdd : Option Addr} {osl csl ccs : Array (Option Value)} {vs : Array Value} {tf : Tok} {p1 p2 q1 q2 q3 q4 q5 r1 r2 r3 r4 : Pos}
    (aC : PySem.W.nsIn K mainGlobals cn = some (some (.ref C)))
    (xC : K.lookup C = some (excClassObj nm q C N bs bm true sn sub ab col dd k0 k1 k2 k3 k5 "ValueError.__new__")) (hb : HandSPX.refsVE bm = true) (al : PySem.W.ks_superIn K C C "__init__" = some (some (.builtin "ValueError.__init__")))
    (sa : PySem.W.findIn K (.ref C) "__setattr__" = some (some (.builtin "object.__setattr__"))) (no : PySem.W.findIn K (.ref C) "at" = some none) (iC : PySem.W.findIn K (.ref C) "__init__" = some (some (.ref fI))) (tC : PySem.W.typeIn K (.ref fI) = some (.type "function"))
    (kC : PySem.W.keepIn K (.ref C) = true) (exC : PySem.W.subIn K (.ref C) (.type "BaseException") = some true) (veC : PySem.W.subIn K (.ref C) (.type "ValueError") = some true) (tyC : PySem.W.typeIn K (.ref C) = some (.type "type"))
    (nS : PySem.W.nsIn K mainGlobals "super" = some none) (ops : PySem.W.nsIn K cStatics "thirdparty.any" = some none)
    (lI : K.lookup fI = some ⟨oc, od, .func (PySem.W.ksFn "__init__" qual (ErrX.iA p1 p2) (ErrX.iB q1 q2 q3 q4 q5 r1 r2 r3 r4) ErrX.iS .none kV doc pm an (.ref cda) ct cc), osl⟩) (cI : PySem.W.codeIn K (.ref cda) qual = true)
    (lc : K.lookup cc = some ⟨cl, cld, .cell (some (.ref C)), csl⟩) (ld : K.lookup cda = some ⟨ccl, cdd, .fields vs, ccs⟩) (hvs : vs[2]? = some (.str file tf)) (hf : ((P.main.file : Str) == file) = true) (hl : (q3.endLine == q5.line) = true) (top : (P.main.scope.names.lookup ("super" : Str)).isSome = false) : Rs P K mg cn :=
  ⟨C, fI, PySem.W.mg_of X G aC, ⟨⟨nm, q, N, bs, bm, sn, sub, ab, col, dd, k0, k1, k2, k3, k5, xC, hb, along_of xC al⟩, sa, no, iC, tC, kC, exC, veC, tyC, PySem.W.mg_none_of X G nS, ops,
    ⟨oc, kV, doc, pm, od, an, cda, ct, osl, p1, p2, q1, q2, q3, q4, q5, r1, r2, r3, r4, cc, qual, lI, cI, ⟨cl, cld, csl, lc⟩, ccl, cdd, vs, ccs, file, tf, ld, hvs, hf, hl⟩, top⟩⟩
theorem errS_mk (X : K.In h) (G : h.Ns mainGlobals mg) {C CB : Addr} (aC : PySem.W.nsIn K mainGlobals cn = some (some (.ref C))) (aB : PySem.W.nsIn K mainGlobals bn = some (some (.ref CB)))
    (hc : PySem.W.isClsIn K C = true) (hg : PySem.W.findIn K (.ref C) "__getattribute__" = some (some (.builtin "BaseException.__getattribute__"))) (hk : PySem.W.findIn K (.ref C) "__getattr__" = some none)
    (hs : PySem.W.subIn K (.ref C) (.type "BaseException") = some true) (ha : PySem.W.findIn K (.ref C) "__class__" = some (some (.builtin "object.__class__"))) (hn : PySem.W.specialIn K (.builtin "object.__class__") "__get__" = some (some (.builtin "getset_descriptor.__get__")))
    (ht : PySem.W.takesIn K (.builtin "object.__class__") = some true) (hm : PySem.W.mroIn K C (.type "object") = some true) (hd : PySem.W.hasDictIn K C = true) (no : PySem.W.findIn K (.ref C) "at" = some none)
    (tyC : PySem.W.typeIn K (.ref C) = some (.type "type")) (sCC : PySem.W.subIn K (.ref C) (.ref C) = some true)
    (sB : PySem.W.subIn K (.ref CB) (.type "BaseException") = some true) (hdB : PySem.W.hasDictIn K CB = true) (tyB : PySem.W.typeIn K (.ref CB) = some (.type "type")) (sCB : PySem.W.subIn K (.ref C) (.ref CB) = some true)
    (kv : PySem.W.kitOne K (.ref C) (.type "ValueError") = some true) (kb : PySem.W.kitOne K (.ref C) (.ref CB) = some true) (nI : PySem.W.nsIn K mainGlobals "isinstance" = some none) (nV : PySem.W.nsIn K mainGlobals "ValueError" = some none) : ErrS K mg cn bn C CB :=
  ⟨PySem.W.mg_of X G aC, PySem.W.mg_of X G aB, ⟨hc, hg, hk, hs, ha, hn, ht, hm⟩, ⟨hg, hk, hs, hd⟩, no, PySem.W.exm_ref sB hdB tyB sCB, PySem.W.exm_ref hs hd tyC sCC, kv, kb, PySem.W.mg_none_of X G nI, PySem.W.mg_none_of X G nV⟩
end
end Mi

namespace Mi
open PySem PySem.Spec PyProof.Rows L2

/-! ### own classes with instances: what the head shows -/
/-- the class is made at a level below -/
def CalI1 (P : Program) (w : World) (K : PySem.W.Frag) (mg : Str → Option Value) (base : Heap) (k n : Nat) (cn : Str) (F : List D → S → R D) : Prop := ∃ j, j + 1 ≤ k ∧ CalI P w K mg base j n cn F
section
variable {P : Program} {w : World} {K : PySem.W.Frag} {mg : Str → Option Value} {base : Heap} {k n : Nat} {cn m qn : Str} {F : List D → S → R D}
theorem CalI1.mono {j : Nat} (c : CalI1 P w K mg base j n cn F) (h : j ≤ k) : CalI1 P w K mg base k n cn F := by
  obtain ⟨i, hi, c⟩ := c
  exact ⟨i, Nat.le_trans hi h, c⟩
theorem calI1_of {st : Stmt} {N ps : List Str} {B : Mi.B} (D : InitAt K mg cn qn st ps) (S : FnScope N ps (defScope st)) (hn : ps.length = n)
    (hbody : ∀ (f : Addr) (cdv : Value) (A : Around) (outer : List Env) (s : Shared) (H : Hp) (E : XK), Room k (A.deeper (envOfC qn (defScope st) s.heap.objs.size f cdv)) →
      DB (cxOf (L2.CX P w) P w K mg base N qn (defScope st) f cdv A outer s H E) E (defBody st) B) : CalI1 P w K mg base (k + 2) n cn (runF n N.length B) := ⟨k + 1, Nat.le_refl _, calI_of D S hn hbody⟩
end
section
variable {X : Cx} {E : XK} {pos p : Pos} {e : Expr} {es : List Expr} {ms : Ev → S → R (List D)} {cn : Str} {k n : Nat} {F : List D → S → R D}
theorem d_make1 (c : CalI1 X.prog X.w X.K X.mg X.base k (n + 1) cn F) (hr : Room k X.A) (hx : Passes (L2.CX X.prog X.w) X E) (ha : DA X E (e :: es) ms) (hl : ∀ ε s ds s1, ms ε s = .ok ds s1 → ds.length = n) (hg : Gl X cn := by rfl) (hdb : (cn == ("__debug__" : Str)) = false := by decide)
    (he : starEach (e :: es) X.env = (false, eval e X.env) :: starEach es X.env := by rfl) (hpl : (backTo pos (starEach es X.env)).any (·.1) = false := by rfl) : DE X E (.Call (.Name cn p) (e :: es) [] pos) (mMake cn F ms) := by
  obtain ⟨j, hj, c⟩ := c
  exact d_make c (hr.mono hj) hx ha hl hg hdb he hpl
end
section
variable {X : Cx} {E : XK} {pos : Pos}
theorem s_lcIf {elt iter c : Expr} {scope : Scope} {x y : Str} {px py spos : Pos} {i j : Nat} {mi : Ev → S → R Walked} {m mc : M} (hc : X.calm = true) (hN : X.N.Nodup) (hi : DI X E (.Name x px) iter mi) (ok : blkC X.N X.env.scope scope [(x, i)] = true)
    (hg : ∀ (s : Shared) (H : Hp) (C : Addr) (cl : List (Str × Addr)) (fp : List Addr), PG (X.blk s H scope (compEnvC scope cl C X.env) fp) (.Name x px) (gName i))
    (ht : ∀ (s : Shared) (H : Hp) (C : Addr) (cl : List (Str × Addr)) (fp : List Addr), DT (X.blk s H scope (compEnvC scope cl C X.env) fp) E0 c mc)
    (he : ∀ (s : Shared) (H : Hp) (C : Addr) (cl : List (Str × Addr)) (fp : List Addr), DE (X.blk s H scope (compEnvC scope cl C X.env) fp) E0 elt m) (hy : X.N[j]? = some y) (hyl : X.env.scope.names.lookup y = some .local)
    (hsw : swapsWith (.ListComp elt [⟨.Name x px, iter, [c], 0⟩] scope pos) (some (.Name y py)) spos.line X.env = pure true) (hs : ∀ x, foldedSetIterable iter X.env x = pure x := by intro _; rfl) :
    DS X E (.Assign [.Name y py] (.ListComp elt [⟨.Name x px, iter, [c], 0⟩] scope pos) spos) (sSet j (mLc mi i mc m)) :=
  PSto (ps_setLc (own := [(x, i)]) hc hN hy hyl hsw hi (blkOk_by ok) hg (fun s H C cl fp => pts_one (ht s H C cl fp)) he hs) fun D σ H ⟨ε, s, μ, hε, hr, h⟩ =>
    lc_all (tt := tT X.K X.mg E0 mc) (E := E) (c := mc) (m := m) (mi := mi) (fun σ H Q k => k) ⟨ε, s, μ, hε, hr, SO.to (r := mLc mi i mc m ε s) h fun d s1 μ1 H1 v f1 r1 rv q => q μ1 H1 _ Fw.refl r1 ((hε.fw f1).set j rv)⟩
end
/-- the class stands in the written part -/
structure ClsIs (K : PySem.W.Frag) (cn : Str) (C : Addr) : Prop where
  a : PySem.W.nsIn K mainGlobals cn = some (some (.ref C))
  pg : PySem.W.plainGet K C Str.empty = true
  hd : PySem.W.hasDictIn K C = true
  po : PySem.W.plainOver K C = true
  sa : PySem.W.findIn K (.ref C) "__setattr__" = some (some (.builtin "object.__setattr__"))
  mkk : PySem.W.makesIn K C = true
  kp : PySem.W.keepIn K (.ref C) = true
theorem clsIs {K : PySem.W.Frag} {cn : Str} {C : Addr} (a : PySem.W.nsIn K mainGlobals cn = some (some (.ref C))) (pg : PySem.W.plainGet K C Str.empty = true) (hd : PySem.W.hasDictIn K C = true) (po : PySem.W.plainOver K C = true)
    (sa : PySem.W.findIn K (.ref C) "__setattr__" = some (some (.builtin "object.__setattr__"))) (mk : PySem.W.makesIn K C = true) (kp : PySem.W.keepIn K (.ref C) = true) : ∃ C, ClsIs K cn C := ⟨C, a, pg, hd, po, sa, mk, kp⟩
theorem ClsIs.cls {K : PySem.W.Frag} {cn : Str} {C : Addr} (c : ClsIs K cn C) : Cls K C := ⟨c.pg, c.hd, c.po, c.sa⟩
/-- a field's name, which the class has not -/
def FldIs (K : PySem.W.Frag) (cn f : Str) : Prop := ∃ C, PySem.W.nsIn K mainGlobals cn = some (some (.ref C)) ∧ PySem.W.findIn K (.ref C) f = some none
theorem fldIs {K : PySem.W.Frag} {cn f : Str} {C : Addr} (a : PySem.W.nsIn K mainGlobals cn = some (some (.ref C))) (n : PySem.W.findIn K (.ref C) f = some none) : FldIs K cn f := ⟨C, a, n⟩
theorem FldIs.at {K : PySem.W.Frag} {cn f : Str} {C : Addr} {mg : Str → Option Value} {h : Heap} (F : FldIs K cn f) (c : ClsIs K cn C) (X : K.In h) (G : h.Ns mainGlobals mg) : FldOk K mg cn f := by
  obtain ⟨C', a, n⟩ := F
  have e := a.symm.trans c.a
  cases e
  exact ⟨_, PySem.W.mg_of X G a, c.cls, n⟩
/-- a method of the class -/
def MethIs (K : PySem.W.Frag) (cn m qn : Str) (st : Stmt) : Prop := ∃ (C f : Addr) (oc : Value) (od an : Option Addr) (sl : Array (Option Value)) (kV doc pm cd ct : Value), PySem.W.nsIn K mainGlobals cn = some (some (.ref C)) ∧ PySem.W.findIn K (.ref C) m = some (some (.ref f)) ∧ PySem.W.isFn K (.ref f) = true ∧
  K.lookup f = some ⟨oc, od, .func (PySem.W.fnOf m qn (defArgs st) (defBody st) (defScope st) .none kV doc pm an cd ct), sl⟩ ∧ PySem.W.codeIn K cd qn = true ∧ PySem.W.keepIn K (.ref f) = true
theorem methIs {K : PySem.W.Frag} {cn m qn : Str} {st : Stmt} {C f : Addr} {oc : Value} {od an : Option Addr} {sl : Array (Option Value)} {kV doc pm cd ct : Value} (a : PySem.W.nsIn K mainGlobals cn = some (some (.ref C))) (b : PySem.W.findIn K (.ref C) m = some (some (.ref f))) (i : PySem.W.isFn K (.ref f) = true)
    (l : K.lookup f = some ⟨oc, od, .func (PySem.W.fnOf m qn (defArgs st) (defBody st) (defScope st) .none kV doc pm an cd ct), sl⟩) (c : PySem.W.codeIn K cd qn = true) (k : PySem.W.keepIn K (.ref f) = true) : MethIs K cn m qn st := ⟨_, _, _, _, _, _, _, _, _, _, _, a, b, i, l, c, k⟩
section
variable {K : PySem.W.Frag} {cn m qn : Str} {C : Addr} {st : Stmt} {mg : Str → Option Value} {h : Heap} {ps : List Str}
theorem MethIs.at (D : MethIs K cn m qn st) (c : ClsIs K cn C) (X : K.In h) (G : h.Ns mainGlobals mg)
    (hb : ∀ (kV doc pm : Value) (an : Option Addr) (cdv ct : Value) (us : List Value), us.length = ps.length → bindArgs (PySem.W.fnOf m qn (defArgs st) (defBody st) (defScope st) .none kV doc pm an cdv ct) ⟨us, []⟩ = pure (ps.zip us)) : MethAt K mg cn m qn st ps := by
  obtain ⟨C', f, oc, od, an, sl, kV, doc, pm, cd, ct, a, b, i, l, cc, k⟩ := D
  have e := a.symm.trans c.a
  cases e
  have F := fun_mk (st := st) l cc k
  exact ⟨_, f, _, PySem.W.mg_of X G a, c.cls, ⟨b, i, k⟩, F, F.binds hb⟩
theorem MethIs.init (D : MethIs K cn "__init__" qn st) (c : ClsIs K cn C) (X : K.In h) (G : h.Ns mainGlobals mg)
    (hb : ∀ (kV doc pm : Value) (an : Option Addr) (cdv ct : Value) (us : List Value), us.length = ps.length → bindArgs (PySem.W.fnOf "__init__" qn (defArgs st) (defBody st) (defScope st) .none kV doc pm an cdv ct) ⟨us, []⟩ = pure (ps.zip us)) : InitAt K mg cn qn st ps := by
  obtain ⟨C', f, oc, od, an, sl, kV, doc, pm, cd, ct, a, b, i, l, cc, k⟩ := D
  have e := a.symm.trans c.a
  cases e
  have F := fun_mk (st := st) l cc k
  exact ⟨_, f, _, PySem.W.mg_of X G a, ⟨c.mkk, b, i, c.kp⟩, F, F.binds hb⟩
/-- a tuple of texts at a global name -/
def GTupIs (K : PySem.W.Frag) (x : Str) (xs : List Str) : Prop := ∃ (p : Addr) (o : Obj) (its : Array Value) (n : Nat), PySem.W.nsIn K mainGlobals x = some (some (.ref p)) ∧ K.lookup p = some o ∧ o.cls = .type "tuple" ∧ o.data = .seq its n ∧ its.size ≤ sizeLine ∧ Vals (xs.map V.str) its.toList
theorem gtupIs {x : Str} {xs : List Str} {p : Addr} {od : Option Addr} {sl : Array (Option Value)} {its : Array Value} {n : Nat} (a : PySem.W.nsIn K mainGlobals x = some (some (.ref p))) (l : K.lookup p = some ⟨.type "tuple", od, .seq its n, sl⟩) (z : its.size ≤ sizeLine) (v : Vals (xs.map V.str) its.toList) : GTupIs K x xs := ⟨p, _, its, n, a, l, rfl, rfl, z, v⟩
theorem GTupIs.at {x : Str} {xs : List Str} (g : GTupIs K x xs) (X : K.In h) (G : h.Ns mainGlobals mg) : GTup K mg x xs := by
  obtain ⟨p, o, its, n, a, l, c, d, z, v⟩ := g
  exact ⟨p, o, its, n, PySem.W.mg_of X G a, l, c, d, z, v⟩
end
end Mi

namespace Mi
open PySem PySem.Spec PyProof.Rows L2

/-! ### reckoning with mirrors -/
@[simp] theorem rbind_ok {α β : Type} (a : α) (s : S) (g : α → S → R β) : (R.ok a s).bind g = g a s := rfl
@[simp] theorem rbind_exc {α β : Type} (c f : Str) (d : D) (s : S) (g : α → S → R β) : (R.exc c f d s : R α).bind g = .exc c f d s := rfl
@[simp] theorem rbind_bad {α β : Type} (g : α → S → R β) : (R.bad : R α).bind g = .bad := rfl
@[simp] theorem rto_ok {α : Type} (a : α) (s : S) (g : α → S → O) : (R.ok a s).to g = g a s := rfl
@[simp] theorem rto_exc {α : Type} (c f : Str) (d : D) (s : S) (g : α → S → O) : (R.exc c f d s : R α).to g = .ex c f d s := rfl
@[simp] theorem obind_nx (ε : Ev) (s : S) (g : B) : (O.nx ε s).bind g = g ε s := rfl
@[simp] theorem obind_rt (d : D) (s : S) (g : B) : (O.rt d s).bind g = .rt d s := rfl
@[simp] theorem obind_bk (ε : Ev) (s : S) (g : B) : (O.bk ε s).bind g = .bk ε s := rfl
@[simp] theorem obind_ct (ε : Ev) (s : S) (g : B) : (O.ct ε s).bind g = .ct ε s := rfl
@[simp] theorem obind_ex (c f : Str) (d : D) (s : S) (g : B) : (O.ex c f d s).bind g = .ex c f d s := rfl
@[simp] theorem runO_rt (d : D) (s : S) : runO (.rt d s) = .ok d s := rfl
@[simp] theorem runO_nx (ε : Ev) (s : S) : runO (.nx ε s) = .ok .non s := rfl
@[simp] theorem runO_ex (c f : Str) (d : D) (s : S) : runO (.ex c f d s) = .exc c f d s := rfl
@[simp] theorem ifK_t (a b : B) (ε : Ev) (s : S) : ifK a b ε (.bl true) s = a ε s := rfl
@[simp] theorem ifK_f (a b : B) (ε : Ev) (s : S) : ifK a b ε (.bl false) s = b ε s := rfl
section
variable {ma mb mc m mo mi me : M} {ms : Ev → S → R (List D)} {ε : Ev} {s : S} {op op' : D → D → S → R D} {a b r : B} {i j l : Nat} {d : D} {F : List D → S → R D}
@[simp] theorem e_var : mVar i ε s = (match ε[i]? with | some (some d) => .ok d s | _ => .bad) := rfl
@[simp] theorem e_c : mC d ε s = .ok d s := rfl
@[simp] theorem e_nil : mNil ε s = .ok [] s := rfl
@[simp] theorem e_cons : mCons m ms ε s = (m ε s).bind fun x s1 => (ms ε s1).bind fun xs s2 => .ok (x :: xs) s2 := rfl
@[simp] theorem e_op : mOp op ma mb ε s = (ma ε s).bind fun x s1 => (mb ε s1).bind fun y s2 => op x y s2 := rfl
@[simp] theorem e_expr : sExpr m ε s = (m ε s).to fun _ s1 => .nx ε s1 := rfl
@[simp] theorem e_set : sSet i m ε s = (m ε s).to fun d s1 => .nx (ε.set i (some d)) s1 := rfl
@[simp] theorem e_ret : sRet m ε s = (m ε s).to fun d s1 => .rt d s1 := rfl
@[simp] theorem e_retN : sRetN ε s = .rt .non s := rfl
@[simp] theorem e_seq : bSeq b r ε s = (b ε s).bind r := rfl
@[simp] theorem e_bnil : bNil ε s = .nx ε s := rfl
@[simp] theorem e_sif : sIf m a b ε s = (m ε s).to (ifK a b ε) := rfl
@[simp] theorem e_not : mNot ma ε s = (ma ε s).bind fun x s1 => (match x with | .bl b => .ok (.bl (!b)) s1 | _ => .bad) := rfl
@[simp] theorem e_and : mAnd ma mb ε s = (ma ε s).bind fun x s1 => (match x with | .bl true => mb ε s1 | .bl false => .ok (.bl false) s1 | _ => .bad) := rfl
@[simp] theorem e_or : mOr ma mb ε s = (ma ε s).bind fun x s1 => (match x with | .bl false => mb ε s1 | .bl true => .ok (.bl true) s1 | _ => .bad) := rfl
@[simp] theorem e_if : mIf mc ma mb ε s = (mc ε s).bind fun x s1 => (match x with | .bl true => ma ε s1 | .bl false => mb ε s1 | _ => .bad) := rfl
@[simp] theorem e_neg : mNeg ma ε s = (ma ε s).bind fun x s1 => (match x with | .int i => .ok (.int (-i)) s1 | _ => .bad) := rfl
@[simp] theorem e_chain : mChain op op' ma mb mc ε s = (ma ε s).bind fun x s1 => (mb ε s1).bind fun y s2 => (op x y s2).bind fun z s3 => chK op' mc ε y z s3 := rfl
@[simp] theorem e_chKt {y : D} : chK op' mc ε y (.bl true) s = (mc ε s).bind fun w s4 => op' y w s4 := rfl
@[simp] theorem e_chKf {y : D} : chK op' mc ε y (.bl false) s = .ok (.bl false) s := rfl
@[simp] theorem e_call : mCall F ms ε s = (ms ε s).bind fun ds s1 => F ds s1 := rfl
@[simp] theorem e_lst : mLst ms ε s = (ms ε s).bind fun ds s1 => if ds.length ≤ sizeLine then .ok (.ref s1.length) (s1 ++ [C.lst ds]) else .bad := rfl
@[simp] theorem e_tup : mTup ms ε s = (ms ε s).bind fun ds s1 => if ds.length ≤ sizeLine then .ok (.tup ds) s1 else .bad := rfl
@[simp] theorem e_meth {chk : D → S → Bool} {f : D → List D → S → R D} : mMeth chk f mo ms ε s = (mo ε s).bind fun x s1 => if chk x s1 = true then (ms ε s1).bind fun xs s2 => f x xs s2 else .bad := rfl
@[simp] theorem e_raise {cn : Str} : sRaise cn m ε s = (m ε s).to fun d s1 => .ex cn "at" d s1 := rfl
@[simp] theorem e_for {mi : Ev → S → R Walked} {t : Tg} : sFor mi t b ε s = (mi ε s).to fun w s1 => loop w.2 t b w.1 ε s1 := rfl
@[simp] theorem e_iseq : iSeq m ε s = (m ε s).bind itemsK := rfl
@[simp] theorem e_it_tup {ds : List D} : itemsK (.tup ds) s = .ok (ds, none) s := rfl
@[simp] theorem e_it_frl {ds : List D} : itemsK (.frl ds) s = .ok (ds, none) s := rfl
@[simp] theorem e_it_str {x : Str} : itemsK (.str x) s = .ok (x.cps.toList.map fun c => .str ⟨#[c]⟩, none) s := rfl
@[simp] theorem e_rng1 : iRng1 ms ε s = (ms ε s).bind rngK1 := rfl
@[simp] theorem e_rngK1 {j : Int} : rngK1 [.int j] s = .ok (rngL 0 j.toNat, none) s := rfl
@[simp] theorem e_rng2 : iRng2 ms ε s = (ms ε s).bind rngK2 := rfl
@[simp] theorem e_rngK2 {i j : Int} : rngK2 [.int i, .int j] s = .ok (rngL i (j - i).toNat, none) s := rfl
@[simp] theorem e_aug : sAug op i m ε s = (mVar i ε s).to fun x _ => (m ε s).to fun y s1 => (op x y s1).to fun z s2 => .nx (ε.set i (some z)) s2 := rfl
@[simp] theorem e_break : sBreak ε s = .bk ε s := rfl
@[simp] theorem e_cont : sCont ε s = .ct ε s := rfl
@[simp] theorem e_par3 : sPar3 i j l ms ε s = (ms ε s).to (par3K i j l ε) := rfl
@[simp] theorem e_par3K {u v w : D} : par3K i j l ε [u, v, w] s = .nx (((ε.set i (some u)).set j (some v)).set l (some w)) s := rfl
@[simp] theorem e_par2 : sPar2 i j ms ε s = (ms ε s).to (par2K i j ε) := rfl
@[simp] theorem e_par2K {u v : D} : par2K i j ε [u, v] s = .nx ((ε.set i (some u)).set j (some v)) s := rfl
@[simp] theorem e_tg {t : Tg} : sTg m t ε s = (m ε s).to fun d s1 => (match t d ε with | some ε' => .nx ε' s1 | none => .bad) := rfl
@[simp] theorem e_gN : gN i d ε = some (ε.set i (some d)) := rfl
@[simp] theorem e_sub : sSub me mo mi ε s = (me ε s).to fun d s1 => (mo ε s1).to fun o s2 => (mi ε s2).to fun i s3 => (match setAt o i d s3 with | some s4 => .nx ε s4 | none => .bad) := rfl
@[simp] theorem e_sl {a b : MO} : mSl m a b ε s = (m ε s).bind fun x s1 => (a ε s1).bind fun lo s2 => (b ε s2).bind fun hi s3 => oSl x lo hi s3 := rfl
@[simp] theorem e_pNo : pNo ε s = .ok none s := rfl
@[simp] theorem e_pAt : pAt m ε s = (m ε s).bind fun d s1 => (match d with | .int i => .ok (some i) s1 | _ => .bad) := rfl
end
theorem runF_eq {n N : Nat} {b : B} {ds : List D} {s : S} (h : ds.length = n) : runF n N b ds s = runO (b (ds.map some ++ List.replicate (N - n) none) s) := if_pos h
/-- a slot -/
theorem mVar_ok {ε : Ev} {i : Nat} {d : D} {s : S} (h : ε[i]? = some (some d)) : mVar i ε s = .ok d s := by
  unfold mVar
  rw [h]

/-! ### == -/
theorem toPy_int {s : S} {n : Nat} {i : Int} : toPy s (n + 1) (.int i) = some (.int i) := rfl
@[simp] theorem oEq_int {s : S} (i j : Int) : oEq (.int i) (.int j) s = .ok (.bl (decide (i = j))) s := by
  have e : eqPy (.int i) (.int j) s = some (PyData.eqv (.int i) (.int j)) := rfl
  unfold oEq
  rw [e]
  have h : PyData.eqv (.int i) (.int j) = decide (i = j) := by
    show (i == j) = decide (i = j)
    exact (Bool.beq_eq_decide_eq i j)
  simp only [h]
@[simp] theorem oNe_int {s : S} (i j : Int) : oNe (.int i) (.int j) s = .ok (.bl (!decide (i = j))) s := by
  have e : eqPy (.int i) (.int j) s = some (PyData.eqv (.int i) (.int j)) := rfl
  unfold oNe
  rw [e]
  have h : PyData.eqv (.int i) (.int j) = decide (i = j) := by
    show (i == j) = decide (i = j)
    exact (Bool.beq_eq_decide_eq i j)
  simp only [h]
theorem oEq_bl {s : S} (i j : Bool) : oEq (.bl i) (.bl j) s = .ok (.bl (i == j)) s := rfl
theorem allPy_ints {f : D → Option PyData} (hf : ∀ i, f (.int i) = some (.int i)) : ∀ l : List Int, allPy f (l.map D.int) = some (l.map PyData.int)
  | [] => rfl
  | i :: l => by
    show (match f (.int i), allPy f (l.map D.int) with
    | some p, some ps => some (p :: ps)
    | _, _ => none) = _
    rw [hf, allPy_ints hf l]
    rfl
theorem lay_ints : ∀ l : List Int, PyData.canLayAll0 (l.map PyData.int) = true
  | [] => by simp [PyData.canLayAll0]
  | i :: l => by simp [PyData.canLayAll0, PyData.canLay0, lay_ints l]
theorem depth_ints : ∀ l : List Int, PyData.depthAll (l.map PyData.int) = 0
  | [] => by simp [PyData.depthAll]
  | i :: l => by simp [PyData.depthAll, PyData.depth, depth_ints l]
theorem eqv_ints : ∀ l m : List Int, PyData.eqvAll (l.map PyData.int) (m.map PyData.int) = decide (l = m)
  | [], [] => by simp [PyData.eqvAll]
  | [], j :: m => by simp [PyData.eqvAll]
  | i :: l, [] => by simp [PyData.eqvAll]
  | i :: l, j :: m => by
    simp only [List.map_cons, PyData.eqvAll, PyData.eqv, eqv_ints l m]
    rw [Bool.beq_eq_decide_eq, ← Bool.decide_and]
    congr 1
    simp
theorem toPy_lst {s : S} {n k : Nat} {l : List Int} (h : s[k]? = some (C.lst (l.map D.int))) : toPy s (n + 2) (.ref k) = some (.list (l.map PyData.int)) := by
  show cellPy (toPy s (n + 1)) s[k]? = _
  rw [h]
  show (allPy (toPy s (n + 1)) (l.map D.int)).map PyData.list = _
  rw [allPy_ints fun i => toPy_int]
  rfl
theorem shaped_ints (l : List Int) : SeqAt.shaped (.list (l.map PyData.int)) = true := by
  simp [SeqAt.shaped, PyData.canLay0, lay_ints, PyData.depth, depth_ints]
theorem eqPy_lst {s : S} {k j : Nat} {l m : List Int} (h : s[k]? = some (C.lst (l.map D.int))) (g : s[j]? = some (C.lst (m.map D.int))) : eqPy (.ref k) (.ref j) s = some (decide (l = m)) := by
  unfold eqPy
  rw [toPy_lst (n := 64) h, toPy_lst (n := 64) g]
  simp only [shaped_ints, and_self, if_true]
  congr 1
  show PyData.eqvAll _ _ = _
  exact eqv_ints l m
theorem oEq_lst {s : S} {k j : Nat} {l m : List Int} (h : s[k]? = some (C.lst (l.map D.int))) (g : s[j]? = some (C.lst (m.map D.int))) : oEq (.ref k) (.ref j) s = .ok (.bl (decide (l = m))) s := by
  unfold oEq
  rw [eqPy_lst h g]
theorem oNe_lst {s : S} {k j : Nat} {l m : List Int} (h : s[k]? = some (C.lst (l.map D.int))) (g : s[j]? = some (C.lst (m.map D.int))) : oNe (.ref k) (.ref j) s = .ok (.bl (!decide (l = m))) s := by
  unfold oNe
  rw [eqPy_lst h g]

/-! ### numbers -/
@[simp] theorem oSub_int (i j : Int) (s : S) : oSub (.int i) (.int j) s = .ok (.int (i - j)) s := rfl
@[simp] theorem oAdd_int (i j : Int) (s : S) : oAdd (.int i) (.int j) s = .ok (.int (i + j)) s := rfl
@[simp] theorem oIadd_int (i j : Int) (s : S) : oIadd (.int i) (.int j) s = .ok (.int (i + j)) s := rfl
@[simp] theorem oLt_int (i j : Int) (s : S) : oLt (.int i) (.int j) s = .ok (.bl (decide (i < j))) s := rfl
@[simp] theorem oLe_int (i j : Int) (s : S) : oLe (.int i) (.int j) s = .ok (.bl (decide (i ≤ j))) s := rfl
@[simp] theorem oGt_int (i j : Int) (s : S) : oGt (.int i) (.int j) s = .ok (.bl (decide (j < i))) s := rfl
@[simp] theorem oGe_int (i j : Int) (s : S) : oGe (.int i) (.int j) s = .ok (.bl (decide (j ≤ i))) s := rfl
theorem oMul_int {i j : Int} {s : S} (h : CMulW i j) : oMul (.int i) (.int j) s = .ok (.int (i * j)) s := if_pos h
theorem oFdiv_int {i j : Int} {s : S} (h : CDivW i j) : oFdiv (.int i) (.int j) s = .ok (.int (i / j)) s := if_pos h
theorem oMod_int {i j : Int} {s : S} (h : 0 < j) : oMod (.int i) (.int j) s = .ok (.int (i % j)) s := if_pos h
theorem oPow_int {i j : Int} {s : S} (h : CPow i j) : oPow (.int i) (.int j) s = .ok (.int (i ^ j.toNat)) s := if_pos h

/-! ### lists -/
theorem oAdd_str {x y : Str} {s : S} (h : x.length + y.length ≤ sizeLine) : oAdd (.str x) (.str y) s = .ok (.str (x ++ y)) s := by
  show (if x.length + y.length ≤ sizeLine then R.ok (D.str (x ++ y)) s else R.bad) = _
  rw [if_pos h]
theorem oIadd_str {x y : Str} {s : S} (h : x.length + y.length ≤ sizeLine) : oIadd (.str x) (.str y) s = .ok (.str (x ++ y)) s := by
  show (if x.length + y.length ≤ sizeLine then R.ok (D.str (x ++ y)) s else R.bad) = _
  rw [if_pos h]
theorem oAdd_lst {j k : Nat} {ds es : List D} {s : S} (hj : s[j]? = some (C.lst ds)) (hk : s[k]? = some (C.lst es)) (h : ds.length + es.length ≤ sizeLine) : oAdd (.ref j) (.ref k) s = .ok (.ref s.length) (s ++ [C.lst (ds ++ es)]) := by
  show (match s[j]?, s[k]? with
    | some (.lst ds), some (.lst es) => if ds.length + es.length ≤ sizeLine then R.ok (D.ref s.length) (s ++ [C.lst (ds ++ es)]) else R.bad
    | _, _ => R.bad) = _
  rw [hj, hk]
  exact if_pos h
theorem oApp_ok {k : Nat} {ds : List D} {d : D} {s : S} (h : s[k]? = some (C.lst ds)) (hz : ds.length < sizeLine) : oApp (.ref k) [d] s = .ok .non (s.set k (.lst (ds ++ [d]))) := by
  show appCell k d s[k]? s = _
  rw [h]
  exact if_pos hz
theorem isLst_ok {k : Nat} {ds : List D} {s : S} (h : s[k]? = some (C.lst ds)) : isLst (.ref k) s = true := by
  show (match s[k]? with | some (.lst _) => true | _ => false) = true
  rw [h]
theorem cLen_lst {k : Nat} {ds : List D} {s : S} (h : s[k]? = some (C.lst ds)) : cLen [.ref k] s = .ok (.int ds.length) s := by
  show (match s[k]? with | some (.lst ds) => R.ok (D.int ds.length) s | _ => R.bad) = _
  rw [h]
@[simp] theorem cLen_tup (ds : List D) (s : S) : cLen [.tup ds] s = .ok (.int ds.length) s := rfl
theorem oIx_lst {k : Nat} {ds : List D} {s : S} {i : Int} {d : D} (h : s[k]? = some (C.lst ds)) (hd : atI ds i = some d) : oIx (.ref k) (.int i) s = .ok d s := by
  show ixCell i s[k]? s = _
  rw [h]
  show getD (atI ds i) s = _
  rw [hd]
  rfl
theorem oIx_tup {ds : List D} {s : S} {i : Int} {d : D} (hd : atI ds i = some d) : oIx (.tup ds) (.int i) s = .ok d s := by
  show getD (atI ds i) s = _
  rw [hd]
  rfl
theorem atI_nat {α : Type} {xs : List α} {i : Nat} : atI xs (i : Int) = xs[i]? := by
  unfold atI ixN
  rw [if_pos (by omega)]
  by_cases h : i < xs.length
  · rw [if_pos (by omega)]
    simp
  · rw [if_neg (by omega)]
    simp
    omega
theorem set_get {s : S} {k j : Nat} {c : C} : (s.set k c)[j]? = if k = j then (if j < s.length then some c else none) else s[j]? := by
  by_cases h : k = j
  · subst h
    rw [if_pos rfl]
    by_cases g : k < s.length
    · rw [if_pos g, List.getElem?_set_self g]
    · rw [if_neg g, List.getElem?_eq_none (by simpa using g)]
  · rw [if_neg h, List.getElem?_set_ne h]
theorem app_get {s t : S} {j : Nat} (h : j < s.length) : (s ++ t)[j]? = s[j]? := List.getElem?_append_left h
theorem app_last {s : S} {c : C} : (s ++ [c])[s.length]? = some c := by
  rw [List.getElem?_append_right (Nat.le_refl _), Nat.sub_self]
  rfl
theorem lt_of_get {s : S} {k : Nat} {c : C} (h : s[k]? = some c) : k < s.length := (List.getElem?_eq_some_iff.mp h).1

/-! ### while, for -/
theorem while_t {c : M} {b : B} {n : Nat} {ε : Ev} {s s1 : S} (h : c ε s = .ok (.bl true) s1) : whileK c b (n + 1) ε s = (match b ε s1 with
      | .nx ε2 s2 => whileK c b n ε2 s2
      | .ct ε2 s2 => whileK c b n ε2 s2
      | .bk ε2 s2 => .nx ε2 s2
      | .rt d s2 => .rt d s2
      | .ex c f d s2 => .ex c f d s2
      | .bad => .bad) := by
  show (c ε s).to _ = _
  rw [h]
  rfl
theorem while_f {c : M} {b : B} {n : Nat} {ε : Ev} {s s1 : S} (h : c ε s = .ok (.bl false) s1) : whileK c b (n + 1) ε s = .nx ε s1 := by
  show (c ε s).to _ = _
  rw [h]
  rfl
theorem while_nx {c : M} {b : B} {n : Nat} {ε ε2 : Ev} {s s1 s2 : S} (h : c ε s = .ok (.bl true) s1) (hb : b ε s1 = .nx ε2 s2) : whileK c b (n + 1) ε s = whileK c b n ε2 s2 := by
  rw [while_t h, hb]
open Classical in
theorem loop_nil {g : Option (Nat × C)} {t : Tg} {b : B} {ε : Ev} {s : S} (h : Gd g s) : loop g t b [] ε s = .nx ε s := if_pos h
open Classical in
theorem loop_cons {g : Option (Nat × C)} {t : Tg} {b : B} {d : D} {ds : List D} {ε ε1 : Ev} {s : S} (h : Gd g s) (ht : t d ε = some ε1) : loop g t b (d :: ds) ε s = (match b ε1 s with
        | .nx ε2 s2 => loop g t b ds ε2 s2
        | .ct ε2 s2 => loop g t b ds ε2 s2
        | .bk ε2 s2 => .nx ε2 s2
        | .rt d s2 => .rt d s2
        | .ex c f d s2 => .ex c f d s2
        | .bad => .bad) := by
  show (if Gd g s then (match t d ε with
      | none => .bad
      | some ε1 => match b ε1 s with
        | .nx ε2 s2 => loop g t b ds ε2 s2
        | .ct ε2 s2 => loop g t b ds ε2 s2
        | .bk ε2 s2 => .nx ε2 s2
        | .rt d s2 => .rt d s2
        | .ex c f d s2 => .ex c f d s2
        | .bad => .bad) else .bad : O) = _
  rw [if_pos h, ht]
theorem gN_eq (i : Nat) (d : D) (ε : Ev) : gN i d ε = some (ε.set i (some d)) := rfl

/-! ### text -/
theorem inStr_one (x : Str) (c : Nat) : inStr ⟨#[c]⟩ x = decide (c ∈ x.cps.toList) := PySem.StrLaws.found_one x c
/-! ### isinstance, is -/
section
@[simp] theorem kit_bool_int : kitB "bool" "int" = some true := by decide +kernel
@[simp] theorem kit_bool_str : kitB "bool" "str" = some false := by decide +kernel
@[simp] theorem kit_bool_tuple : kitB "bool" "tuple" = some false := by decide +kernel
@[simp] theorem kit_bool_bool : kitB "bool" "bool" = some true := by decide +kernel
@[simp] theorem kit_bool_list : kitB "bool" "list" = some false := by decide +kernel
@[simp] theorem kit_bool_dict : kitB "bool" "dict" = some false := by decide +kernel
@[simp] theorem kit_int_int : kitB "int" "int" = some true := by decide +kernel
@[simp] theorem kit_int_str : kitB "int" "str" = some false := by decide +kernel
@[simp] theorem kit_int_tuple : kitB "int" "tuple" = some false := by decide +kernel
@[simp] theorem kit_int_bool : kitB "int" "bool" = some false := by decide +kernel
@[simp] theorem kit_int_list : kitB "int" "list" = some false := by decide +kernel
@[simp] theorem kit_int_dict : kitB "int" "dict" = some false := by decide +kernel
@[simp] theorem kit_str_int : kitB "str" "int" = some false := by decide +kernel
@[simp] theorem kit_str_str : kitB "str" "str" = some true := by decide +kernel
@[simp] theorem kit_str_tuple : kitB "str" "tuple" = some false := by decide +kernel
@[simp] theorem kit_str_bool : kitB "str" "bool" = some false := by decide +kernel
@[simp] theorem kit_str_list : kitB "str" "list" = some false := by decide +kernel
@[simp] theorem kit_str_dict : kitB "str" "dict" = some false := by decide +kernel
@[simp] theorem kit_tuple_int : kitB "tuple" "int" = some false := by decide +kernel
@[simp] theorem kit_tuple_str : kitB "tuple" "str" = some false := by decide +kernel
@[simp] theorem kit_tuple_tuple : kitB "tuple" "tuple" = some true := by decide +kernel
@[simp] theorem kit_tuple_bool : kitB "tuple" "bool" = some false := by decide +kernel
@[simp] theorem kit_tuple_list : kitB "tuple" "list" = some false := by decide +kernel
@[simp] theorem kit_tuple_dict : kitB "tuple" "dict" = some false := by decide +kernel
@[simp] theorem kit_list_int : kitB "list" "int" = some false := by decide +kernel
@[simp] theorem kit_list_str : kitB "list" "str" = some false := by decide +kernel
@[simp] theorem kit_list_tuple : kitB "list" "tuple" = some false := by decide +kernel
@[simp] theorem kit_list_bool : kitB "list" "bool" = some false := by decide +kernel
@[simp] theorem kit_list_list : kitB "list" "list" = some true := by decide +kernel
@[simp] theorem kit_list_dict : kitB "list" "dict" = some false := by decide +kernel
@[simp] theorem kit_dict_int : kitB "dict" "int" = some false := by decide +kernel
@[simp] theorem kit_dict_str : kitB "dict" "str" = some false := by decide +kernel
@[simp] theorem kit_dict_tuple : kitB "dict" "tuple" = some false := by decide +kernel
@[simp] theorem kit_dict_bool : kitB "dict" "bool" = some false := by decide +kernel
@[simp] theorem kit_dict_list : kitB "dict" "list" = some false := by decide +kernel
@[simp] theorem kit_dict_dict : kitB "dict" "dict" = some true := by decide +kernel
@[simp] theorem kit_NoneType_int : kitB "NoneType" "int" = some false := by decide +kernel
@[simp] theorem kit_NoneType_str : kitB "NoneType" "str" = some false := by decide +kernel
@[simp] theorem kit_NoneType_tuple : kitB "NoneType" "tuple" = some false := by decide +kernel
@[simp] theorem kit_NoneType_bool : kitB "NoneType" "bool" = some false := by decide +kernel
@[simp] theorem kit_NoneType_list : kitB "NoneType" "list" = some false := by decide +kernel
@[simp] theorem kit_NoneType_dict : kitB "NoneType" "dict" = some false := by decide +kernel
end
theorem isi_of {x : D} {s : S} {n t : String} {b : Bool} (h : tyName x s = some t) (k : kitB t n = some b) : cIsi [x, .ty n] s = .ok (.bl b) s := by
  show (match kitO (tyName x s) n with | some b => R.ok (D.bl b) s | none => R.bad) = _
  rw [h]
  show (match kitB t n with | some b => R.ok (D.bl b) s | none => R.bad) = _
  rw [k]
@[simp] theorem oIs_non (x : D) (s : S) : oIs x .non s = .ok (.bl (isN x)) s := by cases x <;> rfl
@[simp] theorem oIs_bl (x : D) (b : Bool) (s : S) : oIs x (.bl b) s = .ok (.bl (isB b x)) s := by cases x <;> rfl
@[simp] theorem oIsNot_non (x : D) (s : S) : oIsNot x .non s = .ok (.bl (!isN x)) s := by cases x <;> rfl
end Mi

namespace Mi
open PySem PySem.Spec PyProof.Rows L2

/-! ### more to reckon with: stores, lists, texts -/
theorem set_self {s : S} {k : Nat} {c : C} (hs : s[k]? = some c) : s.set k c = s := by
  apply List.ext_getElem?
  intro j
  rw [set_get]
  split
  · rename_i e
    subst e
    rw [if_pos (lt_of_get hs), hs]
  · rfl
theorem set_at {s : S} {k : Nat} {c c' : C} (hs : s[k]? = some c') : (s.set k c)[k]? = some c := by
  rw [set_get, if_pos rfl, if_pos (lt_of_get hs)]
theorem sizeL : sizeLine = 16777216 := sizeLine_eq
def strOf (cs : List Nat) : Str := ⟨cs.toArray⟩
def codes (x : Str) : List Int := x.cps.toList.map fun (c : Nat) => (c : Int)
def Pre (s t : S) : Prop := ∀ (r : Nat) (c : C), s[r]? = some c → t[r]? = some c
theorem Pre.refl {s : S} : Pre s s := fun _ _ h => h
theorem Pre.trans {s t u : S} (a : Pre s t) (b : Pre t u) : Pre s u := fun r c h => b r c (a r c h)
theorem Pre.app {s t : S} : Pre s (s ++ t) := fun r c h => by rw [app_get (lt_of_get h)]; exact h
theorem Pre.set {s t : S} {k : Nat} {c : C} (h : Pre s t) (hk : s.length ≤ k) : Pre s (t.set k c) := fun r e he => by
  rw [set_get, if_neg (show ¬ k = r from fun z => by have := lt_of_get he; omega)]
  exact h r e he
theorem Pre.len {s t : S} (h : Pre s t) : s.length ≤ t.length := by
  by_cases z : s.length = 0
  · omega
  · have hl : s.length - 1 < s.length := by omega
    have := lt_of_get (h (s.length - 1) _ (List.getElem?_eq_getElem hl))
    omega
theorem set_last {s : S} {c c' : C} : (s ++ [c]).set s.length c' = s ++ [c'] := by simp
@[simp] theorem ix3_0 (x y z : D) (s : S) : oIx (.tup [x, y, z]) (.int 0) s = .ok x s := rfl
@[simp] theorem ix3_1 (x y z : D) (s : S) : oIx (.tup [x, y, z]) (.int 1) s = .ok y s := rfl
@[simp] theorem ix3_2 (x y z : D) (s : S) : oIx (.tup [x, y, z]) (.int 2) s = .ok z s := rfl
@[simp] theorem ix2_0 (x y : D) (s : S) : oIx (.tup [x, y]) (.int 0) s = .ok x s := rfl
@[simp] theorem ix2_1 (x y : D) (s : S) : oIx (.tup [x, y]) (.int 1) s = .ok y s := rfl
theorem str_app (cs : List Nat) (c : Nat) : (⟨cs.toArray⟩ : Str) ++ (⟨#[c]⟩ : Str) = ⟨(cs ++ [c]).toArray⟩ := by
  show (⟨cs.toArray ++ #[c]⟩ : Str) = _
  congr 1
  simp
theorem cTuple_lst {p : Nat} {ds : List D} {s : S} (h : s[p]? = some (C.lst ds)) : cTuple [.ref p] s = .ok (.tup ds) s := by
  show (match s[p]? with | some (.lst ds) => R.ok (D.tup ds) s | _ => R.bad) = _
  rw [h]
theorem oEq_str {x y : Str} {s : S} (hx : x.cps.all (· < 0x110000) = true) (hy : y.cps.all (· < 0x110000) = true) : oEq (.str x) (.str y) s = .ok (.bl (x == y)) s := by
  have h1 : SeqAt.shaped (.str x) = true := by
    simp only [SeqAt.shaped, PyData.canLay0, PyData.depth]
    show (x.cps.all (· < 0x110000) && _) = true
    rw [hx]
    rfl
  have h2 : SeqAt.shaped (.str y) = true := by
    simp only [SeqAt.shaped, PyData.canLay0, PyData.depth]
    show (y.cps.all (· < 0x110000) && _) = true
    rw [hy]
    rfl
  have e : eqPy (.str x) (.str y) s = some (x == y) := by
    show (if SeqAt.shaped (.str x) = true ∧ SeqAt.shaped (.str y) = true then some (PyData.eqv (.str x) (.str y)) else none) = _
    rw [if_pos ⟨h1, h2⟩]
    rfl
  unfold oEq
  rw [e]
open Classical in
theorem lc_nil {g : Option (Nat × C)} {i : Nat} {c m : M} {ε : Ev} {acc : List D} {s : S} (h : Gd g s) : lcL g i c m ε [] acc s = .ok acc s := if_pos h
open Classical in
theorem lc_cons {g : Option (Nat × C)} {i : Nat} {m : M} {ε : Ev} {d y : D} {ds acc : List D} {s s2 : S} (h : Gd g s) (hm : m ((ε.set i none).set i (some d)) s = .ok y s2) (hz : acc.length < sizeLine) : lcL g i yesM m ε (d :: ds) acc s = lcL g i yesM m ε ds (acc ++ [y]) s2 := by
  show (if Gd g s then (match m ((ε.set i none).set i (some d)) s with
        | .ok y s2 => if acc.length < sizeLine then lcL g i yesM m ε ds (acc ++ [y]) s2 else .bad
        | _ => .bad) else .bad : R (List D)) = _
  rw [if_pos h, hm]
  exact if_pos hz
@[simp] theorem e_lc {mi : Ev → S → R Walked} {i : Nat} {c m : M} {ε : Ev} {s : S} : mLc mi i c m ε s = (mi ε s).bind fun w s1 => (lcL w.2 i c m ε w.1 [] s1).bind fun ys s2 => .ok (.ref s2.length) (s2 ++ [C.lst ys]) := rfl
theorem setAt_of {k : Nat} {ds : List D} {i : Int} {j : Nat} (h : s[k]? = some (C.lst ds)) (hj : ixN ds.length i = some j) : setAt (.ref k) (.int i) d s = some (s.set k (C.lst (ds.set j d))) := by
  show setCell k i d s[k]? s = _
  rw [h]
  show (ixN ds.length i).map _ = _
  rw [hj]
  rfl
theorem cm48 {i : Int} (h0 : 0 ≤ i) (h1 : i < 2147483647) : CMulW i 48271 := wide_mul (a := 31) (b := 16) (by omega) (by decide) (by decide) (by decide) (by decide)
theorem cdv {i m : Int} (h0 : 0 < m) (h1 : m < 2 ^ 64) : CDivW i m := wide_div (b := 64) h0 (by omega) (by decide) (by decide)
theorem join_len (ys : List Str) (h : ∀ y ∈ ys, y.length = 1) : (Txt.join ("" : Str) ys).length = ys.length := by
  have e : ∀ ys : List Str, (∀ y ∈ ys, y.length = 1) → (Str.join ("" : Str) ys).length = ys.length := fun ys => by
    induction ys with
    | nil =>
      intro _
      rfl
    | cons y ys ih =>
      intro h
      have hy := h y (List.mem_cons_self ..)
      cases ys with
      | nil => exact hy
      | cons z zs =>
        have := ih fun q hq => h q (List.mem_cons_of_mem _ hq)
        show (y ++ ("" : Str) ++ Str.join ("" : Str) (z :: zs)).length = _
        have l1 : ∀ p q : Str, (p ++ q).length = p.length + q.length := fun p q => by
          show (p.cps ++ q.cps).size = _
          rw [Array.size_append]
          rfl
        have e0 : ("" : Str).length = 0 := by decide +kernel
        rw [l1, l1, this, hy, e0]
        simp only [List.length_cons]
        omega
  exact (congrArg Str.length (TL.join_eq _ _)).trans (e ys h)
theorem pick {xs : List D} {s : S} {i : Int} (h0 : 0 ≤ i) (h1 : i < xs.length) {k : Nat} (h : s[k]? = some (C.lst xs)) : ∃ x, x ∈ xs ∧ oIx (.ref k) (.int i) s = .ok x s := by
  have hi : i.toNat < xs.length := by omega
  refine ⟨xs[i.toNat], List.getElem_mem hi, oIx_lst h ?_⟩
  have ei : i = ((i.toNat : Nat) : Int) := by omega
  have e1 : atI xs ((i.toNat : Nat) : Int) = some xs[i.toNat] := by
    rw [atI_nat]
    exact List.getElem?_eq_getElem hi
  rw [← ei] at e1
  exact e1
theorem ixN_nat {n : Nat} {i : Int} (h0 : 0 ≤ i) (h1 : i < n) : ixN n i = some i.toNat := by
  unfold ixN
  rw [if_pos h0, if_pos h1]
theorem cAbs_int (i : Int) (s : S) : cAbs [.int i] s = .ok (.int (if i < 0 then -i else i)) s := rfl
theorem lc_forget {g : Option (Nat × C)} {i : Nat} {c m : M} {ε ε' : Ev} (h : ∀ d, (ε.set i none).set i (some d) = (ε'.set i none).set i (some d)) : ∀ (ds acc : List D) (s : S), lcL g i c m ε ds acc s = lcL g i c m ε' ds acc s
  | [], acc, s => rfl
  | d :: ds, acc, s => by
    unfold lcL
    rw [h d]
    split
    · split
      · split
        · split
          · exact lc_forget h ds _ _
          · rfl
        · rfl
      · exact lc_forget h ds _ _
      · rfl
    · rfl
@[simp] theorem cInt2_int (i : Int) (s : S) : cInt2 [.int i] s = .ok (.int i) s := rfl
@[simp] theorem oLeT_int (i j : Int) (s : S) : oLeT (.int i) (.int j) s = .ok (.bl (decide (i ≤ j))) s := rfl
theorem oLeT_str (x y : Str) (s : S) : oLeT (.str x) (.str y) s = .ok (.bl (!strLt y x)) s := rfl
end Mi

namespace Mi
namespace G83
open PySem PySem.Spec PyProof.Rows L2
/-! ### the text by places -/
def top (i : Nat) : Stmt := PySem.Challenge.pw_burnish_k83_scripts_read_back.main.body.getD i (.Pass ⟨0, 0, 0, 0⟩)
abbrev st_show_item : Stmt := top 8
theorem sc_show_item : FnScope ["item"] ["item"] (defScope st_show_item) := ⟨rfl, rfl, rfl, by decide +kernel, rfl, by decide +kernel, by decide +kernel⟩
abbrev st_show_script : Stmt := top 9
theorem sc_show_script : FnScope ["script", "item"] ["script"] (defScope st_show_script) := ⟨rfl, rfl, rfl, by decide +kernel, rfl, by decide +kernel, by decide +kernel⟩
abbrev st_is_word_sign : Stmt := top 10
theorem sc_is_word_sign : FnScope ["sign"] ["sign"] (defScope st_is_word_sign) := ⟨rfl, rfl, rfl, by decide +kernel, rfl, by decide +kernel, by decide +kernel⟩
abbrev st_script_tokens : Stmt := top 11
theorem sc_script_tokens : FnScope ["text", "tokens", "at", "first"] ["text"] (defScope st_script_tokens) := ⟨rfl, rfl, rfl, by decide +kernel, rfl, by decide +kernel, by decide +kernel⟩
abbrev st_ScriptReader___init__ : Stmt := L2.inClass (top 12) 0
theorem sc_ScriptReader___init__ : FnScope ["self", "text"] ["self", "text"] (defScope st_ScriptReader___init__) := ⟨rfl, rfl, rfl, by decide +kernel, rfl, by decide +kernel, by decide +kernel⟩
abbrev st_ScriptReader_here : Stmt := L2.inClass (top 12) 1
theorem sc_ScriptReader_here : FnScope ["self"] ["self"] (defScope st_ScriptReader_here) := ⟨rfl, rfl, rfl, by decide +kernel, rfl, by decide +kernel, by decide +kernel⟩
abbrev st_ScriptReader_offset : Stmt := L2.inClass (top 12) 2
theorem sc_ScriptReader_offset : FnScope ["self"] ["self"] (defScope st_ScriptReader_offset) := ⟨rfl, rfl, rfl, by decide +kernel, rfl, by decide +kernel, by decide +kernel⟩
abbrev st_ScriptReader_accept : Stmt := L2.inClass (top 12) 3
theorem sc_ScriptReader_accept : FnScope ["self", "allowed", "token"] ["self", "allowed"] (defScope st_ScriptReader_accept) := ⟨rfl, rfl, rfl, by decide +kernel, rfl, by decide +kernel, by decide +kernel⟩
abbrev st_ScriptReader_read_number : Stmt := L2.inClass (top 12) 4
theorem sc_ScriptReader_read_number : FnScope ["self", "low", "high", "token", "fits"] ["self", "low", "high"] (defScope st_ScriptReader_read_number) := ⟨rfl, rfl, rfl, by decide +kernel, rfl, by decide +kernel, by decide +kernel⟩
abbrev st_ScriptReader_read_items : Stmt := L2.inClass (top 12) 5
theorem sc_ScriptReader_read_items : FnScope ["self", "depth", "found"] ["self", "depth"] (defScope st_ScriptReader_read_items) := ⟨rfl, rfl, rfl, by decide +kernel, rfl, by decide +kernel, by decide +kernel⟩
abbrev st_ScriptReader_read_group : Stmt := L2.inClass (top 12) 6
theorem sc_ScriptReader_read_group : FnScope ["self", "depth", "found"] ["self", "depth"] (defScope st_ScriptReader_read_group) := ⟨rfl, rfl, rfl, by decide +kernel, rfl, by decide +kernel, by decide +kernel⟩
abbrev st_ScriptReader_read_item : Stmt := L2.inClass (top 12) 7
theorem sc_ScriptReader_read_item : FnScope ["self", "depth", "word", "times", "token", "name"] ["self", "depth"] (defScope st_ScriptReader_read_item) := ⟨rfl, rfl, rfl, by decide +kernel, rfl, by decide +kernel, by decide +kernel⟩
abbrev st_read_script : Stmt := top 13
theorem sc_read_script : FnScope ["text", "reader", "script"] ["text"] (defScope st_read_script) := ⟨rfl, rfl, rfl, by decide +kernel, rfl, by decide +kernel, by decide +kernel⟩
abbrev st__law_draw : Stmt := top 15
theorem sc__law_draw : FnScope ["_law_script", "_law_seed", "_law_cell"] ["_law_script"] (defScope st__law_draw) := ⟨rfl, rfl, rfl, by decide +kernel, rfl, by decide +kernel, by decide +kernel⟩
abbrev st__law_take : Stmt := top 16
theorem sc__law_take : FnScope ["_law_draw_here", "_law_many", "_law_found"] ["_law_draw_here", "_law_many"] (defScope st__law_take) := ⟨rfl, rfl, rfl, by decide +kernel, rfl, by decide +kernel, by decide +kernel⟩
abbrev st__law_words : Stmt := top 17
theorem sc__law_words : FnScope ["_law_words_here"] [] (defScope st__law_words) := ⟨rfl, rfl, rfl, by decide +kernel, rfl, by decide +kernel, by decide +kernel⟩
abbrev st__law_name : Stmt := top 18
theorem sc__law_name : FnScope ["_law_draw_here", "_law_signs", "_law_size", "_law_name_here", "_law_k"] ["_law_draw_here"] (defScope st__law_name) := ⟨rfl, rfl, rfl, by decide +kernel, rfl, by decide +kernel, by decide +kernel⟩
abbrev st__law_items : Stmt := top 19
theorem sc__law_items : FnScope ["_law_draw_here", "_law_depth_here", "_law_found", "_law_k", "_law_choice", "_law_word", "_law_amount"] ["_law_draw_here", "_law_depth_here"] (defScope st__law_items) := ⟨rfl, rfl, rfl, by decide +kernel, rfl, by decide +kernel, by decide +kernel⟩
abbrev st__law_show : Stmt := top 20
theorem sc__law_show : FnScope ["_law_items_here", "_law_text", "_law_item"] ["_law_items_here"] (defScope st__law_show) := ⟨rfl, rfl, rfl, by decide +kernel, rfl, by decide +kernel, by decide +kernel⟩
abbrev st__law_depth : Stmt := top 21
theorem sc__law_depth : FnScope ["_law_items_here", "_law_item"] ["_law_items_here"] (defScope st__law_depth) := ⟨rfl, rfl, rfl, by decide +kernel, rfl, by decide +kernel, by decide +kernel⟩
abbrev st__law_tokens : Stmt := top 22
theorem sc__law_tokens : FnScope ["_law_text", "_law_signs", "_law_tokens_here", "_law_word", "_law_k", "_law_sign"] ["_law_text"] (defScope st__law_tokens) := ⟨rfl, rfl, rfl, by decide +kernel, rfl, by decide +kernel, by decide +kernel⟩
abbrev st__law_number : Stmt := top 23
theorem sc__law_number : FnScope ["_law_token", "_law_low", "_law_high", "_law_sign", "_law_number_here"] ["_law_token", "_law_low", "_law_high"] (defScope st__law_number) := ⟨rfl, rfl, rfl, by decide +kernel, rfl, by decide +kernel, by decide +kernel⟩
abbrev st__law_read_item : Stmt := top 24
theorem sc__law_read_item : FnScope ["_law_tokens_here", "_law_at", "_law_depth_here", "_law_word", "_law_token", "_law_what", "_law_inner", "_law_amount"] ["_law_tokens_here", "_law_at", "_law_depth_here"] (defScope st__law_read_item) := ⟨rfl, rfl, rfl, by decide +kernel, rfl, by decide +kernel, by decide +kernel⟩
abbrev st__law_read_items : Stmt := top 25
theorem sc__law_read_items : FnScope ["_law_tokens_here", "_law_at", "_law_depth_here", "_law_found", "_law_k", "_law_item"] ["_law_tokens_here", "_law_at", "_law_depth_here"] (defScope st__law_read_items) := ⟨rfl, rfl, rfl, by decide +kernel, rfl, by decide +kernel, by decide +kernel⟩
abbrev st__law_due : Stmt := top 26
theorem sc__law_due : FnScope ["_law_text", "_law_tokens_here", "_law_found"] ["_law_text"] (defScope st__law_due) := ⟨rfl, rfl, rfl, by decide +kernel, rfl, by decide +kernel, by decide +kernel⟩
abbrev st__law_reads : Stmt := top 27
theorem sc__law_reads : FnScope ["_law_text", "_law_due_here", "_law_actual", "e"] ["_law_text"] (defScope st__law_reads) := ⟨rfl, rfl, rfl, by decide +kernel, rfl, by decide +kernel, by decide +kernel⟩
abbrev st__law_bent : Stmt := top 28
theorem sc__law_bent : FnScope ["_law_draw_here", "_law_text", "_law_at", "_law_sign", "_law_choice", "_law_tokens_here", "_law_token", "_law_size", "_law_other"] ["_law_draw_here", "_law_text"] (defScope st__law_bent) := ⟨rfl, rfl, rfl, by decide +kernel, rfl, by decide +kernel, by decide +kernel⟩
abbrev st__law_deep_ones : Stmt := top 29
theorem sc__law_deep_ones : FnScope ["_law_draw_here", "_law_items_here", "_law_k", "_law_text", "_law_deeper", "_law_tokens_here", "_law_braces", "e"] ["_law_draw_here", "_law_items_here"] (defScope st__law_deep_ones) := ⟨rfl, rfl, rfl, by decide +kernel, rfl, by decide +kernel, by decide +kernel⟩
abbrev st_law : Stmt := top 30
theorem sc_law : FnScope ["_law_script", "_law_draw_here", "_law_items_here", "_law_k", "_law_text", "_law_wide", "_law_token"] ["_law_script"] (defScope st_law) := ⟨rfl, rfl, rfl, by decide +kernel, rfl, by decide +kernel, by decide +kernel⟩
def gs_PASSES : List Str := [("arguments" : Str), ("close" : Str), ("combine" : Str), ("constants" : Str), ("dead_stores" : Str), ("deadcode" : Str), ("drop" : Str), ("drop_kills" : Str), ("forward_loads" : Str), ("globals_pass" : Str), ("hoist" : Str), ("inline" : Str), ("merge" : Str), ("numbering" : Str), ("peel" : Str), ("plain" : Str), ("promote" : Str), ("rotate" : Str), ("sinking" : Str), ("split" : Str), ("strength" : Str), ("tails" : Str), ("thread" : Str), ("tidy" : Str), ("unroll" : Str), ("unswitch" : Str)]
/-! ### what the walk asks of the written part -/
structure Tx (P : Program) (K : PySem.W.Frag) (mg : Str → Option Value) : Prop where
  n_ValueError : mg "ValueError" = none
  n_abs : mg "abs" = none
  n_int : mg "int" = none
  n_isinstance : mg "isinstance" = none
  n_len : mg "len" = none
  n_max : mg "max" = none
  n_range : mg "range" = none
  n_str : mg "str" = none
  n_tuple : mg "tuple" = none
  g_DEEPEST : ∃ t, mg "DEEPEST" = some (.int 8 t)
  g_MOST_AMOUNT : ∃ t, mg "MOST_AMOUNT" = some (.int 10000 t)
  g_MOST_TIMES : ∃ t, mg "MOST_TIMES" = some (.int 100 t)
  g_PASSES : GTup K mg "PASSES" gs_PASSES
  f_ScriptError : ∃ f, mg "ScriptError" = some (.ref f)
  r_ScriptError : Rs P K mg "ScriptError"
  fld_ScriptReader_at : FldOk K mg "ScriptReader" "at"
  fld_ScriptReader_last : FldOk K mg "ScriptReader" "last"
  fld_ScriptReader_tokens : FldOk K mg "ScriptReader" "tokens"
section
variable {P : Program} {w : World} {K : PySem.W.Frag} {mg : Str → Option Value} {base : Heap} {k : Nat}
noncomputable def B_show_script (F_show_item : List D → S → R D) : B :=
  (sRet (mMeth isStr oJoin (mC (.str ("; " : Str))) (mCons (mLc (iSeq (mVar 0)) 1 yesM (mCall F_show_item (mCons (mVar 1) mNil))) mNil)))
noncomputable def B_show_item (F_show_script : List D → S → R D) : B :=
  (bSeq (sIf (mOp oEq (mOp oIx (mVar 0) (mC (.int 0))) (mC (.str ("pass" : Str))))
  (sRet (mIf (mOp oEq (mOp oIx (mVar 0) (mC (.int 2))) (mNeg (mC (.int 1)))) (mOp oIx (mVar 0) (mC (.int 1))) (mJoined [(mFmt (mOp oIx (mVar 0) (mC (.int 1)))), (mC (.str (" " : Str))), (mFmt (mOp oIx (mVar 0) (mC (.int 2))))])))
  bNil)
  (sRet (mOp oAdd (mOp oAdd (mOp oAdd (mJoined [(mFmt (mOp oIx (mVar 0) (mC (.int 0)))), (mC (.str (" " : Str))), (mFmt (mOp oIx (mVar 0) (mC (.int 1)))), (mC (.str (" " : Str)))]) (mC (.str ("{" : Str)))) (mCall F_show_script (mCons (mOp oIx (mVar 0) (mC (.int 2))) mNil))) (mC (.str ("}" : Str))))))
noncomputable def F_show_script : Nat → List D → S → R D
  | 0 => runF 1 2 (fun _ _ => .bad)
  | j + 1 => runF 1 2 (B_show_script (runF 1 1 (B_show_item (F_show_script j))))
theorem cal_show_script (T : Tx P K mg) (D_show_script : DefAt K mg "show_script" st_show_script ["script"]) (D_show_item : DefAt K mg "show_item" st_show_item ["item"])  : ∀ j, Cal P w K mg base (k + 1 + 2 * j) 1 "show_script" (F_show_script j)
  | 0 => cal_bad D_show_script sc_show_script rfl
  | j + 1 => by
    have c_show_script : Cal P w K mg base (k + 1 + 2 * j) 1 "show_script" (F_show_script j) := cal_show_script T D_show_script D_show_item  j
    have c_show_item : Cal P w K mg base (k + 1 + 2 * j + 1) 1 "show_item" (runF 1 1 (B_show_item (F_show_script j))) := cal_of D_show_item sc_show_item rfl fun f cdv A outer s H E hr =>
  (b_cons (s_if (t_cmp (op_eqD hr.units) os_eq (d_idx (d_var 0) d_int) d_str)
  (b_one (s_ret (d_if (t_cmp (op_eqD hr.units) os_eq (d_idx (d_var 0) d_int) (d_neg d_int)) (d_idx (d_var 0) d_int) (d_joined (.cons (d_fmt (d_idx (d_var 0) d_int)) (.cons d_str (.cons (d_fmt (d_idx (d_var 0) d_int)) .nil)))))))
  b_nil)
  (b_one (s_ret (d_add (d_add (d_add (d_joined (.cons (d_fmt (d_idx (d_var 0) d_int)) (.cons d_str (.cons (d_fmt (d_idx (d_var 0) d_int)) (.cons d_str .nil))))) d_str) (d_cal c_show_script hr passC (a_cons (d_idx (d_var 0) d_int) a_nil) len_1)) d_str))))
    have c_show_script := c_show_script.mono (Nat.le_succ _)
    exact cal_of D_show_script sc_show_script rfl fun f cdv A outer s H E hr =>
  (b_one (s_ret (d_join d_str (a_cons (d_lc (i := 1) rfl sc_show_script.nd (i_seq (d_var 0)) (show blkC ["script", "item"] (defScope st_show_script) _ [("item", 1)] = true from by decide +kernel) (fun _ _ _ _ _ => pg_name (i := 1) sc_show_script.nd rfl (Or.inl rfl)) (fun _ _ _ _ _ => (d_cal c_show_item hr passL (a_cons (d_var 1) a_nil) len_1))) a_nil))))
noncomputable def B_is_word_sign : B :=
  (sRet (mOr (mChain oLeT oLeT (mC (.str ("a" : Str))) (mVar 0) (mC (.str ("z" : Str)))) (mOr (mChain oLeT oLeT (mC (.str ("0" : Str))) (mVar 0) (mC (.str ("9" : Str)))) (mOp oEq (mVar 0) (mC (.str ("_" : Str)))))))
noncomputable def F_is_word_sign : List D → S → R D := runF 1 1 B_is_word_sign
theorem cal_is_word_sign (T : Tx P K mg) (D_is_word_sign : DefAt K mg "is_word_sign" st_is_word_sign ["sign"])  : Cal P w K mg base (k + 1) 1 "is_word_sign" F_is_word_sign := cal_of D_is_word_sign sc_is_word_sign rfl fun f cdv A outer s H E hr =>
  (b_one (s_ret (d_or (d_chain or_leT os_cmpT or_leT os_cmpT d_str (d_var 0) d_str) (d_or (d_chain or_leT os_cmpT or_leT os_cmpT d_str (d_var 0) d_str) (d_one (d_cmp (op_eqD hr.units) os_eq (d_var 0) d_str))))))
noncomputable def T_script_tokens1  : M :=
  (mAnd (mOp oLt (mVar 2) (mCall cLen (mCons (mVar 0) mNil))) (mCall F_is_word_sign (mCons (mOp oIx (mVar 0) (mVar 2)) mNil)))
noncomputable def W_script_tokens1  : B :=
  (sAug oIadd 2 (mC (.int 1)))
noncomputable def T_script_tokens2  : M :=
  (mOp oLt (mVar 2) (mCall cLen (mCons (mVar 0) mNil)))
noncomputable def W_script_tokens2  : B :=
  (bSeq (sSet 3 (mVar 2))
  (bSeq (whileK T_script_tokens1 W_script_tokens1 wf)
  (bSeq (sIf (mOp oEq (mVar 2) (mVar 3))
  (sAug oIadd 2 (mC (.int 1)))
  bNil)
  (sIf (mOp (oIn true) (mSl (mVar 0) (pAt (mVar 3)) (pAt (mVar 2))) (mTup (mCons (mC (.str (" " : Str))) (mCons (mC (.str ("\n" : Str))) mNil))))
  (sExpr (mMeth isLst oApp (mVar 1) (mCons (mTup (mCons (mSl (mVar 0) (pAt (mVar 3)) (pAt (mVar 2))) (mCons (mVar 3) mNil))) mNil)))
  bNil))))
noncomputable def B_script_tokens : B :=
  (bSeq (sSet 1 (mLst mNil))
  (bSeq (sSet 2 (mC (.int 0)))
  (bSeq (whileK T_script_tokens2 W_script_tokens2 wf)
  (sRet (mVar 1)))))
noncomputable def F_script_tokens : List D → S → R D := runF 1 4 B_script_tokens
theorem cal_script_tokens (T : Tx P K mg) (D_script_tokens : DefAt K mg "script_tokens" st_script_tokens ["text"]) (c_is_word_sign : Cal P w K mg base k 1 "is_word_sign" F_is_word_sign) : Cal P w K mg base (k + 1) 1 "script_tokens" F_script_tokens := cal_of D_script_tokens sc_script_tokens rfl fun f cdv A outer s H E hr =>
  (b_cons (s_set 1 sc_script_tokens.nd (d_lst a_nil))
  (b_cons (s_set 2 sc_script_tokens.nd d_int)
  (b_cons (s_while wf ownC (t_cmp op_lt os_lt (d_var 2) (d_len T.n_len (a_cons (d_var 0) a_nil)))
  (b_cons (s_set 3 sc_script_tokens.nd (d_var 2))
  (b_cons (s_while wf ownC (t_w (t_and (t_cmp op_lt os_lt (d_var 2) (d_len T.n_len (a_cons (d_var 0) a_nil))) (t_and1 (t_val (d_cal c_is_word_sign hr passC (a_cons (d_idx (d_var 0) (d_var 2)) a_nil) len_1)))))
  (b_one (s_iadd 2 sc_script_tokens.nd d_int)))
  (b_cons (s_if (t_cmp (op_eqD hr.units) os_eq (d_var 2) (d_var 3))
  (b_one (s_iadd 2 sc_script_tokens.nd d_int))
  b_nil)
  (b_one (s_if (t_cmp or_notIn os_in (d_sl (d_var 0) (p_at (d_var 3)) (p_at (d_var 2))) (d_tup (a_cons d_str (a_cons d_str a_nil))))
  (b_one (s_expr (d_append (d_var 1) (a_cons (d_tup (a_cons (d_sl (d_var 0) (p_at (d_var 3)) (p_at (d_var 2))) (a_cons (d_var 3) a_nil))) a_nil))))
  b_nil))))))
  (b_one (s_ret (d_var 1))))))
noncomputable def B_ScriptReader___init__ : B :=
  (bSeq (sFldM "ScriptReader" "tokens" (mCall F_script_tokens (mCons (mVar 1) mNil)) (mVar 0))
  (bSeq (sFldM "ScriptReader" "last" (mCall cLen (mCons (mVar 1) mNil)) (mVar 0))
  (sFldM "ScriptReader" "at" (mC (.int 0)) (mVar 0))))
noncomputable def F_ScriptReader___init__ : List D → S → R D := runF 2 2 B_ScriptReader___init__
theorem cal_ScriptReader___init__ (T : Tx P K mg) (D_ScriptReader___init__ : InitAt K mg "ScriptReader" "ScriptReader.__init__" st_ScriptReader___init__ ["self", "text"]) (c_script_tokens : Cal P w K mg base k 1 "script_tokens" F_script_tokens) : CalI1 P w K mg base (k + 2) 2 "ScriptReader" F_ScriptReader___init__ := calI1_of D_ScriptReader___init__ sc_ScriptReader___init__ rfl fun f cdv A outer s H E hr =>
  (b_cons (s_fld T.fld_ScriptReader_tokens (d_cal c_script_tokens hr passC (a_cons (d_var 1) a_nil) len_1) (d_var 0))
  (b_cons (s_fld T.fld_ScriptReader_last (d_len T.n_len (a_cons (d_var 1) a_nil)) (d_var 0))
  (b_one (s_fld T.fld_ScriptReader_at d_int (d_var 0)))))
noncomputable def B_ScriptReader_here : B :=
  (bSeq (sIf (mOp oLt (mFld "ScriptReader" "at" (mVar 0)) (mCall cLen (mCons (mFld "ScriptReader" "tokens" (mVar 0)) mNil)))
  (sRet (mOp oIx (mOp oIx (mFld "ScriptReader" "tokens" (mVar 0)) (mFld "ScriptReader" "at" (mVar 0))) (mC (.int 0))))
  bNil)
  (sRet (mC (.str ("" : Str)))))
noncomputable def F_ScriptReader_here : List D → S → R D := runF 1 1 B_ScriptReader_here
theorem cal_ScriptReader_here (T : Tx P K mg) (D_ScriptReader_here : MethAt K mg "ScriptReader" "here" "ScriptReader.here" st_ScriptReader_here ["self"])  : CalM P w K mg base (k + 1) 1 "ScriptReader" "here" F_ScriptReader_here := calM_of D_ScriptReader_here sc_ScriptReader_here rfl fun f cdv A outer s H E hr =>
  (b_cons (s_if (t_cmp op_lt os_lt (d_fld T.fld_ScriptReader_at (d_var 0)) (d_len T.n_len (a_cons (d_fld T.fld_ScriptReader_tokens (d_var 0)) a_nil)))
  (b_one (s_ret (d_idx (d_idx (d_fld T.fld_ScriptReader_tokens (d_var 0)) (d_fld T.fld_ScriptReader_at (d_var 0))) d_int)))
  b_nil)
  (b_one (s_ret d_str)))
noncomputable def B_ScriptReader_offset : B :=
  (bSeq (sIf (mOp oLt (mFld "ScriptReader" "at" (mVar 0)) (mCall cLen (mCons (mFld "ScriptReader" "tokens" (mVar 0)) mNil)))
  (sRet (mOp oIx (mOp oIx (mFld "ScriptReader" "tokens" (mVar 0)) (mFld "ScriptReader" "at" (mVar 0))) (mC (.int 1))))
  bNil)
  (sRet (mFld "ScriptReader" "last" (mVar 0))))
noncomputable def F_ScriptReader_offset : List D → S → R D := runF 1 1 B_ScriptReader_offset
theorem cal_ScriptReader_offset (T : Tx P K mg) (D_ScriptReader_offset : MethAt K mg "ScriptReader" "offset" "ScriptReader.offset" st_ScriptReader_offset ["self"])  : CalM P w K mg base (k + 1) 1 "ScriptReader" "offset" F_ScriptReader_offset := calM_of D_ScriptReader_offset sc_ScriptReader_offset rfl fun f cdv A outer s H E hr =>
  (b_cons (s_if (t_cmp op_lt os_lt (d_fld T.fld_ScriptReader_at (d_var 0)) (d_len T.n_len (a_cons (d_fld T.fld_ScriptReader_tokens (d_var 0)) a_nil)))
  (b_one (s_ret (d_idx (d_idx (d_fld T.fld_ScriptReader_tokens (d_var 0)) (d_fld T.fld_ScriptReader_at (d_var 0))) d_int)))
  b_nil)
  (b_one (s_ret (d_fld T.fld_ScriptReader_last (d_var 0)))))
noncomputable def B_ScriptReader_accept : B :=
  (bSeq (sIf (mNot (mVar 1))
  (sRaise ("ScriptError" : Str) (mMethO0 "ScriptReader" "offset" F_ScriptReader_offset (mVar 0)))
  bNil)
  (bSeq (sSet 2 (mMethO0 "ScriptReader" "here" F_ScriptReader_here (mVar 0)))
  (bSeq (sFldAdd "ScriptReader" "at" (mVar 0) (mC (.int 1)))
  (sRet (mVar 2)))))
noncomputable def F_ScriptReader_accept : List D → S → R D := runF 2 3 B_ScriptReader_accept
theorem cal_ScriptReader_accept (T : Tx P K mg) (D_ScriptReader_accept : MethAt K mg "ScriptReader" "accept" "ScriptReader.accept" st_ScriptReader_accept ["self", "allowed"]) (c_ScriptReader_here : CalM P w K mg base k 1 "ScriptReader" "here" F_ScriptReader_here) (c_ScriptReader_offset : CalM P w K mg base k 1 "ScriptReader" "offset" F_ScriptReader_offset) : CalM P w K mg base (k + 1) 2 "ScriptReader" "accept" F_ScriptReader_accept := calM_of D_ScriptReader_accept sc_ScriptReader_accept rfl fun f cdv A outer s H E hr =>
  (b_cons (s_if (t_not (t_val (d_var 1)))
  (b_one (s_raise' T.r_ScriptError rfl hr takesC (d_mcal0 c_ScriptReader_offset hr passC (d_var 0))))
  b_nil)
  (b_cons (s_set 2 sc_ScriptReader_accept.nd (d_mcal0 c_ScriptReader_here hr passC (d_var 0)))
  (b_cons (s_fldAdd T.fld_ScriptReader_at (d_var 0) d_int)
  (b_one (s_ret (d_var 2))))))
noncomputable def B_ScriptReader_read_number : B :=
  (bSeq (sSet 3 (mMethO0 "ScriptReader" "here" F_ScriptReader_here (mVar 0)))
  (bSeq (sSet 4 (mAnd (mMeth0 isStr oIsdigit (mVar 3)) (mAnd (mOp oLeT (mCall cLen (mCons (mVar 3) mNil)) (mC (.int 5))) (mOr (mOp oEq (mVar 3) (mC (.str ("0" : Str)))) (mOp oNe (mOp oIx (mVar 3) (mC (.int 0))) (mC (.str ("0" : Str))))))))
  (sRet (mCall cInt2 (mCons (mMethO "ScriptReader" "accept" F_ScriptReader_accept (mVar 0) (mCons (mAnd (mVar 4) (mChain oLeT oLeT (mVar 1) (mCall cInt2 (mCons (mVar 3) mNil)) (mVar 2))) mNil)) mNil)))))
noncomputable def F_ScriptReader_read_number : List D → S → R D := runF 3 5 B_ScriptReader_read_number
theorem cal_ScriptReader_read_number (T : Tx P K mg) (D_ScriptReader_read_number : MethAt K mg "ScriptReader" "read_number" "ScriptReader.read_number" st_ScriptReader_read_number ["self", "low", "high"]) (c_ScriptReader_accept : CalM P w K mg base k 2 "ScriptReader" "accept" F_ScriptReader_accept) (c_ScriptReader_here : CalM P w K mg base k 1 "ScriptReader" "here" F_ScriptReader_here) : CalM P w K mg base (k + 1) 3 "ScriptReader" "read_number" F_ScriptReader_read_number := calM_of D_ScriptReader_read_number sc_ScriptReader_read_number rfl fun f cdv A outer s H E hr =>
  (b_cons (s_set 3 sc_ScriptReader_read_number.nd (d_mcal0 c_ScriptReader_here hr passC (d_var 0)))
  (b_cons (s_set 4 sc_ScriptReader_read_number.nd (d_and (d_isdigit (d_var 3)) (d_and (d_cmp or_leT os_cmpT (d_len T.n_len (a_cons (d_var 3) a_nil)) d_int) (d_one (d_or (d_cmp (op_eqD hr.units) os_eq (d_var 3) d_str) (d_one (d_cmp (op_neD hr.units) os_ne (d_idx (d_var 3) d_int) d_str)))))))
  (b_one (s_ret (d_int2 T.n_int (a_cons (d_mcal c_ScriptReader_accept hr passC (d_var 0) (a_cons (d_and (d_var 4) (d_one (d_chain or_leT os_cmpT or_leT os_cmpT (d_var 1) (d_int2 T.n_int (a_cons (d_var 3) a_nil)) (d_var 2)))) a_nil) len_1) a_nil))))))
noncomputable def T_ScriptReader_read_items1 (F_ScriptReader_read_item : List D → S → R D) : M :=
  (mOp oEq (mMethO0 "ScriptReader" "here" F_ScriptReader_here (mVar 0)) (mC (.str (";" : Str))))
noncomputable def W_ScriptReader_read_items1 (F_ScriptReader_read_item : List D → S → R D) : B :=
  (bSeq (sExpr (mMethO "ScriptReader" "accept" F_ScriptReader_accept (mVar 0) (mCons (mC (.bl true)) mNil)))
  (sExpr (mMeth isLst oApp (mVar 2) (mCons (mMethO "ScriptReader" "read_item" F_ScriptReader_read_item (mVar 0) (mCons (mVar 1) mNil)) mNil))))
noncomputable def B_ScriptReader_read_items (F_ScriptReader_read_item : List D → S → R D) : B :=
  (bSeq (sSet 2 (mLst (mCons (mMethO "ScriptReader" "read_item" F_ScriptReader_read_item (mVar 0) (mCons (mVar 1) mNil)) mNil)))
  (bSeq (whileK (T_ScriptReader_read_items1 F_ScriptReader_read_item) (W_ScriptReader_read_items1 F_ScriptReader_read_item) wf)
  (sRet (mCall cTuple (mCons (mVar 2) mNil)))))
noncomputable def B_ScriptReader_read_item (F_ScriptReader_read_group : List D → S → R D) : B :=
  (bSeq (sSet 2 (mMethO0 "ScriptReader" "here" F_ScriptReader_here (mVar 0)))
  (bSeq (sIf (mOp oEq (mVar 2) (mC (.str ("until" : Str))))
  (bSeq (sExpr (mMethO "ScriptReader" "accept" F_ScriptReader_accept (mVar 0) (mCons (mC (.bl true)) mNil)))
  (bSeq (sSet 3 (mMethO "ScriptReader" "read_number" F_ScriptReader_read_number (mVar 0) (mCons (mC (.int 1)) (mCons (mC (.int 100)) mNil))))
  (sRet (mTup (mCons (mC (.str ("until" : Str))) (mCons (mVar 3) (mCons (mMethO "ScriptReader" "read_group" F_ScriptReader_read_group (mVar 0) (mCons (mVar 1) mNil)) mNil)))))))
  bNil)
  (bSeq (sIf (mOp oEq (mVar 2) (mC (.str ("on" : Str))))
  (bSeq (sExpr (mMethO "ScriptReader" "accept" F_ScriptReader_accept (mVar 0) (mCons (mC (.bl true)) mNil)))
  (bSeq (sSet 4 (mMethO0 "ScriptReader" "here" F_ScriptReader_here (mVar 0)))
  (bSeq (sSet 5 (mMethO "ScriptReader" "accept" F_ScriptReader_accept (mVar 0) (mCons (mAnd (mChain oLeT oLeT (mC (.str ("a" : Str))) (mSl (mVar 4) pNo (pAt (mC (.int 1)))) (mC (.str ("z" : Str)))) (mOp oLeT (mCall cLen (mCons (mVar 4) mNil)) (mC (.int 20)))) mNil)))
  (sRet (mTup (mCons (mC (.str ("on" : Str))) (mCons (mVar 5) (mCons (mMethO "ScriptReader" "read_group" F_ScriptReader_read_group (mVar 0) (mCons (mVar 1) mNil)) mNil))))))))
  bNil)
  (bSeq (sExpr (mMethO "ScriptReader" "accept" F_ScriptReader_accept (mVar 0) (mCons (mOp (oIn false) (mVar 2) (mC (.tup (List.map D.str gs_PASSES)))) mNil)))
  (bSeq (sIf (mMeth0 isStr oIsdigit (mSl (mMethO0 "ScriptReader" "here" F_ScriptReader_here (mVar 0)) pNo (pAt (mC (.int 1)))))
  (sRet (mTup (mCons (mC (.str ("pass" : Str))) (mCons (mVar 2) (mCons (mMethO "ScriptReader" "read_number" F_ScriptReader_read_number (mVar 0) (mCons (mC (.int 0)) (mCons (mC (.int 10000)) mNil))) mNil)))))
  bNil)
  (sRet (mTup (mCons (mC (.str ("pass" : Str))) (mCons (mVar 2) (mCons (mNeg (mC (.int 1))) mNil))))))))))
noncomputable def B_ScriptReader_read_group (F_ScriptReader_read_items : List D → S → R D) : B :=
  (bSeq (sExpr (mMethO "ScriptReader" "accept" F_ScriptReader_accept (mVar 0) (mCons (mAnd (mOp oEq (mMethO0 "ScriptReader" "here" F_ScriptReader_here (mVar 0)) (mC (.str ("{" : Str)))) (mOp oLt (mVar 1) (mC (.int 8)))) mNil)))
  (bSeq (sSet 2 (mMethO "ScriptReader" "read_items" F_ScriptReader_read_items (mVar 0) (mCons (mOp oAdd (mVar 1) (mC (.int 1))) mNil)))
  (bSeq (sExpr (mMethO "ScriptReader" "accept" F_ScriptReader_accept (mVar 0) (mCons (mOp oEq (mMethO0 "ScriptReader" "here" F_ScriptReader_here (mVar 0)) (mC (.str ("}" : Str)))) mNil)))
  (sRet (mVar 2)))))
noncomputable def F_ScriptReader_read_items : Nat → List D → S → R D
  | 0 => runF 2 3 (fun _ _ => .bad)
  | j + 1 => runF 2 3 (B_ScriptReader_read_items (runF 2 6 (B_ScriptReader_read_item (runF 2 3 (B_ScriptReader_read_group (F_ScriptReader_read_items j))))))
theorem cal_ScriptReader_read_items (T : Tx P K mg) (D_ScriptReader_read_items : MethAt K mg "ScriptReader" "read_items" "ScriptReader.read_items" st_ScriptReader_read_items ["self", "depth"]) (D_ScriptReader_read_item : MethAt K mg "ScriptReader" "read_item" "ScriptReader.read_item" st_ScriptReader_read_item ["self", "depth"]) (D_ScriptReader_read_group : MethAt K mg "ScriptReader" "read_group" "ScriptReader.read_group" st_ScriptReader_read_group ["self", "depth"]) (c_ScriptReader_here : CalM P w K mg base k 1 "ScriptReader" "here" F_ScriptReader_here) (c_ScriptReader_accept : CalM P w K mg base k 2 "ScriptReader" "accept" F_ScriptReader_accept) (c_ScriptReader_read_number : CalM P w K mg base k 3 "ScriptReader" "read_number" F_ScriptReader_read_number) : ∀ j, CalM P w K mg base (k + 1 + 3 * j) 2 "ScriptReader" "read_items" (F_ScriptReader_read_items j)
  | 0 => calM_bad D_ScriptReader_read_items sc_ScriptReader_read_items rfl
  | j + 1 => by
    have c_ScriptReader_read_items : CalM P w K mg base (k + 1 + 3 * j) 2 "ScriptReader" "read_items" (F_ScriptReader_read_items j) := cal_ScriptReader_read_items T D_ScriptReader_read_items D_ScriptReader_read_item D_ScriptReader_read_group c_ScriptReader_here c_ScriptReader_accept c_ScriptReader_read_number j
    have c_ScriptReader_here := c_ScriptReader_here.mono (show k ≤ k + 1 + 3 * j by omega)
    have c_ScriptReader_accept := c_ScriptReader_accept.mono (show k ≤ k + 1 + 3 * j by omega)
    have c_ScriptReader_read_number := c_ScriptReader_read_number.mono (show k ≤ k + 1 + 3 * j by omega)
    have c_ScriptReader_read_group : CalM P w K mg base (k + 1 + 3 * j + 1) 2 "ScriptReader" "read_group" (runF 2 3 (B_ScriptReader_read_group (F_ScriptReader_read_items j))) := calM_of D_ScriptReader_read_group sc_ScriptReader_read_group rfl fun f cdv A outer s H E hr =>
  (b_cons (s_expr (d_mcal c_ScriptReader_accept hr passC (d_var 0) (a_cons (d_and (d_cmp (op_eqD hr.units) os_eq (d_mcal0 c_ScriptReader_here hr passC (d_var 0)) d_str) (d_one (d_cmp op_lt os_lt (d_var 1) (d_gint' T.g_DEEPEST)))) a_nil) len_1))
  (b_cons (s_set 2 sc_ScriptReader_read_group.nd (d_mcal c_ScriptReader_read_items hr passC (d_var 0) (a_cons (d_add (d_var 1) d_int) a_nil) len_1))
  (b_cons (s_expr (d_mcal c_ScriptReader_accept hr passC (d_var 0) (a_cons (d_cmp (op_eqD hr.units) os_eq (d_mcal0 c_ScriptReader_here hr passC (d_var 0)) d_str) a_nil) len_1))
  (b_one (s_ret (d_var 2))))))
    have c_ScriptReader_here := c_ScriptReader_here.mono (Nat.le_succ _)
    have c_ScriptReader_accept := c_ScriptReader_accept.mono (Nat.le_succ _)
    have c_ScriptReader_read_number := c_ScriptReader_read_number.mono (Nat.le_succ _)
    have c_ScriptReader_read_items := c_ScriptReader_read_items.mono (Nat.le_succ _)
    have c_ScriptReader_read_item : CalM P w K mg base (k + 1 + 3 * j + 2) 2 "ScriptReader" "read_item" (runF 2 6 (B_ScriptReader_read_item (runF 2 3 (B_ScriptReader_read_group (F_ScriptReader_read_items j))))) := calM_of D_ScriptReader_read_item sc_ScriptReader_read_item rfl fun f cdv A outer s H E hr =>
  (b_cons (s_set 2 sc_ScriptReader_read_item.nd (d_mcal0 c_ScriptReader_here hr passC (d_var 0)))
  (b_cons (s_if (t_cmp (op_eqD hr.units) os_eq (d_var 2) d_str)
  (b_cons (s_expr (d_mcal c_ScriptReader_accept hr passC (d_var 0) (a_cons d_bl a_nil) len_1))
  (b_cons (s_set 3 sc_ScriptReader_read_item.nd (d_mcal c_ScriptReader_read_number hr passC (d_var 0) (a_cons d_int (a_cons (d_gint' T.g_MOST_TIMES) a_nil)) len_2))
  (b_one (s_ret (d_tup (a_cons d_str (a_cons (d_var 3) (a_cons (d_mcal c_ScriptReader_read_group hr passC (d_var 0) (a_cons (d_var 1) a_nil) len_1) a_nil))))))))
  b_nil)
  (b_cons (s_if (t_cmp (op_eqD hr.units) os_eq (d_var 2) d_str)
  (b_cons (s_expr (d_mcal c_ScriptReader_accept hr passC (d_var 0) (a_cons d_bl a_nil) len_1))
  (b_cons (s_set 4 sc_ScriptReader_read_item.nd (d_mcal0 c_ScriptReader_here hr passC (d_var 0)))
  (b_cons (s_set 5 sc_ScriptReader_read_item.nd (d_mcal c_ScriptReader_accept hr passC (d_var 0) (a_cons (d_and (d_chain or_leT os_cmpT or_leT os_cmpT d_str (d_sl (d_var 4) p_no (p_at d_int)) d_str) (d_one (d_cmp or_leT os_cmpT (d_len T.n_len (a_cons (d_var 4) a_nil)) d_int))) a_nil) len_1))
  (b_one (s_ret (d_tup (a_cons d_str (a_cons (d_var 5) (a_cons (d_mcal c_ScriptReader_read_group hr passC (d_var 0) (a_cons (d_var 1) a_nil) len_1) a_nil)))))))))
  b_nil)
  (b_cons (s_expr (d_mcal c_ScriptReader_accept hr passC (d_var 0) (a_cons (d_cmp or_in os_in (d_var 2) (d_gtup T.g_PASSES)) a_nil) len_1))
  (b_cons (s_if (t_val (d_isdigit (d_sl (d_mcal0 c_ScriptReader_here hr passC (d_var 0)) p_no (p_at d_int))))
  (b_one (s_ret (d_tup (a_cons d_str (a_cons (d_var 2) (a_cons (d_mcal c_ScriptReader_read_number hr passC (d_var 0) (a_cons d_int (a_cons (d_gint' T.g_MOST_AMOUNT) a_nil)) len_2) a_nil))))))
  b_nil)
  (b_one (s_ret (d_tup (a_cons d_str (a_cons (d_var 2) (a_cons (d_neg d_int) a_nil)))))))))))
    have c_ScriptReader_here := c_ScriptReader_here.mono (Nat.le_succ _)
    have c_ScriptReader_accept := c_ScriptReader_accept.mono (Nat.le_succ _)
    have c_ScriptReader_read_number := c_ScriptReader_read_number.mono (Nat.le_succ _)
    have c_ScriptReader_read_items := c_ScriptReader_read_items.mono (Nat.le_succ _)
    have c_ScriptReader_read_group := c_ScriptReader_read_group.mono (Nat.le_succ _)
    exact calM_of D_ScriptReader_read_items sc_ScriptReader_read_items rfl fun f cdv A outer s H E hr =>
  (b_cons (s_set 2 sc_ScriptReader_read_items.nd (d_lst (a_cons (d_mcal c_ScriptReader_read_item hr passC (d_var 0) (a_cons (d_var 1) a_nil) len_1) a_nil)))
  (b_cons (s_while wf ownC (t_cmp (op_eqD hr.units) os_eq (d_mcal0 c_ScriptReader_here hr passC (d_var 0)) d_str)
  (b_cons (s_expr (d_mcal c_ScriptReader_accept hr passC (d_var 0) (a_cons d_bl a_nil) len_1))
  (b_one (s_expr (d_append (d_var 2) (a_cons (d_mcal c_ScriptReader_read_item hr passC (d_var 0) (a_cons (d_var 1) a_nil) len_1) a_nil))))))
  (b_one (s_ret (d_tuple1 T.n_tuple (a_cons (d_var 2) a_nil))))))
noncomputable def B_read_script : B :=
  (bSeq (sSet 1 (mMake "ScriptReader" F_ScriptReader___init__ (mCons (mVar 0) mNil)))
  (bSeq (sIf (mOp oEq (mMethO0 "ScriptReader" "here" F_ScriptReader_here (mVar 1)) (mC (.str ("" : Str))))
  (sRet (mTup mNil))
  bNil)
  (bSeq (sSet 2 (mMethO "ScriptReader" "read_items" (F_ScriptReader_read_items 12) (mVar 1) (mCons (mC (.int 0)) mNil)))
  (bSeq (sExpr (mMethO "ScriptReader" "accept" F_ScriptReader_accept (mVar 1) (mCons (mOp oEq (mMethO0 "ScriptReader" "here" F_ScriptReader_here (mVar 1)) (mC (.str ("" : Str)))) mNil)))
  (sRet (mVar 2))))))
noncomputable def F_read_script : List D → S → R D := runF 1 3 B_read_script
theorem cal_read_script (T : Tx P K mg) (D_read_script : DefAt K mg "read_script" st_read_script ["text"]) (c_ScriptReader_accept : CalM P w K mg base k 2 "ScriptReader" "accept" F_ScriptReader_accept) (c_ScriptReader_here : CalM P w K mg base k 1 "ScriptReader" "here" F_ScriptReader_here) (c_ScriptReader_read_items : CalM P w K mg base k 2 "ScriptReader" "read_items" (F_ScriptReader_read_items 12)) (c_ScriptReader___init__ : CalI1 P w K mg base k 2 "ScriptReader" F_ScriptReader___init__) : Cal P w K mg base (k + 1) 1 "read_script" F_read_script := cal_of D_read_script sc_read_script rfl fun f cdv A outer s H E hr =>
  (b_cons (s_set 1 sc_read_script.nd (d_make1 c_ScriptReader___init__ hr passC (a_cons (d_var 0) a_nil) len_1))
  (b_cons (s_if (t_cmp (op_eqD hr.units) os_eq (d_mcal0 c_ScriptReader_here hr passC (d_var 1)) d_str)
  (b_one (s_ret (d_tup a_nil)))
  b_nil)
  (b_cons (s_set 2 sc_read_script.nd (d_mcal c_ScriptReader_read_items hr passC (d_var 1) (a_cons d_int a_nil) len_1))
  (b_cons (s_expr (d_mcal c_ScriptReader_accept hr passC (d_var 1) (a_cons (d_cmp (op_eqD hr.units) os_eq (d_mcal0 c_ScriptReader_here hr passC (d_var 1)) d_str) a_nil) len_1))
  (b_one (s_ret (d_var 2)))))))
noncomputable def W__law_draw1  : B :=
  (sSet 1 (mOp oMod (mCall cInt2 (mCons (mOp oAdd (mOp oAdd (mOp oMul (mVar 1) (mC (.int 48271))) (mOp oMod (mCall cAbs (mCons (mCall cInt2 (mCons (mVar 2) mNil)) mNil)) (mC (.int 65521)))) (mC (.int 1))) mNil)) (mC (.int 2147483647))))
noncomputable def B__law_draw : B :=
  (bSeq (sSet 1 (mC (.int 7)))
  (bSeq (sFor (iSeq (mVar 0)) (gN 2) W__law_draw1)
  (sRet (mLst (mCons (mLc (iSeq (mVar 0)) 2 yesM (mCall cAbs (mCons (mCall cInt2 (mCons (mVar 2) mNil)) mNil))) (mCons (mNeg (mC (.int 1))) (mCons (mC (.int 0)) (mCons (mVar 1) mNil))))))))
noncomputable def F__law_draw : List D → S → R D := runF 1 3 B__law_draw
theorem cal__law_draw (T : Tx P K mg) (D__law_draw : DefAt K mg "_law_draw" st__law_draw ["_law_script"])  : Cal P w K mg base (k + 1) 1 "_law_draw" F__law_draw := cal_of D__law_draw sc__law_draw rfl fun f cdv A outer s H E hr =>
  (b_cons (s_set 1 sc__law_draw.nd d_int)
  (b_cons (s_for ownC rfl (i_seq (d_var 0)) (g_name 2 sc__law_draw.nd)
  (b_one (s_set 1 sc__law_draw.nd (d_mod (d_int2 T.n_int (a_cons (d_add (d_add (d_mul (d_var 1) d_int) (d_mod (d_abs T.n_abs (a_cons (d_int2 T.n_int (a_cons (d_var 2) a_nil)) a_nil)) d_int)) d_int) a_nil)) d_int))))
  (b_one (s_ret (d_lst (a_cons (d_lc (i := 2) rfl sc__law_draw.nd (i_seq (d_var 0)) (show blkC ["_law_script", "_law_seed", "_law_cell"] (defScope st__law_draw) _ [("_law_cell", 2)] = true from by decide +kernel) (fun _ _ _ _ _ => pg_name (i := 2) sc__law_draw.nd rfl (Or.inl rfl)) (fun _ _ _ _ _ => (d_abs T.n_abs (a_cons (d_int2 T.n_int (a_cons (d_var 2) a_nil)) a_nil)))) (a_cons (d_neg d_int) (a_cons d_int (a_cons (d_var 1) a_nil)))))))))
noncomputable def B__law_take : B :=
  (bSeq (sIf (mOp oEq (mOp oIx (mVar 0) (mC (.int 2))) (mC (.int 0)))
  (bSeq (sSub (mOp oAdd (mOp oIx (mVar 0) (mC (.int 1))) (mC (.int 1))) (mVar 0) (mC (.int 1)))
  (bSeq (sIf (mOp oLt (mOp oIx (mVar 0) (mC (.int 1))) (mCall cLen (mCons (mOp oIx (mVar 0) (mC (.int 0))) mNil)))
  (sSub (mOp oIx (mOp oIx (mVar 0) (mC (.int 0))) (mOp oIx (mVar 0) (mC (.int 1)))) (mVar 0) (mC (.int 2)))
  bNil)
  (sIf (mOp oEq (mOp oIx (mVar 0) (mC (.int 2))) (mC (.int 0)))
  (bSeq (sSub (mOp oMod (mCall cInt2 (mCons (mOp oAdd (mOp oMul (mOp oIx (mVar 0) (mC (.int 3))) (mC (.int 48271))) (mC (.int 11))) mNil)) (mC (.int 2147483647))) (mVar 0) (mC (.int 3)))
  (sSub (mOp oIx (mVar 0) (mC (.int 3))) (mVar 0) (mC (.int 2))))
  bNil)))
  bNil)
  (bSeq (sSet 2 (mOp oMod (mCall cInt2 (mCons (mOp oIx (mVar 0) (mC (.int 2))) mNil)) (mVar 1)))
  (bSeq (sSub (mOp oFdiv (mOp oIx (mVar 0) (mC (.int 2))) (mVar 1)) (mVar 0) (mC (.int 2)))
  (sRet (mVar 2)))))
noncomputable def F__law_take : List D → S → R D := runF 2 3 B__law_take
theorem cal__law_take (T : Tx P K mg) (D__law_take : DefAt K mg "_law_take" st__law_take ["_law_draw_here", "_law_many"])  : Cal P w K mg base (k + 1) 2 "_law_take" F__law_take := cal_of D__law_take sc__law_take rfl fun f cdv A outer s H E hr =>
  (b_cons (s_if (t_cmp (op_eqD hr.units) os_eq (d_idx (d_var 0) d_int) d_int)
  (b_cons (s_sub (d_add (d_idx (d_var 0) d_int) d_int) (d_var 0) d_int)
  (b_cons (s_if (t_cmp op_lt os_lt (d_idx (d_var 0) d_int) (d_len T.n_len (a_cons (d_idx (d_var 0) d_int) a_nil)))
  (b_one (s_sub (d_idx (d_idx (d_var 0) d_int) (d_idx (d_var 0) d_int)) (d_var 0) d_int))
  b_nil)
  (b_one (s_if (t_cmp (op_eqD hr.units) os_eq (d_idx (d_var 0) d_int) d_int)
  (b_cons (s_sub (d_mod (d_int2 T.n_int (a_cons (d_add (d_mul (d_idx (d_var 0) d_int) d_int) d_int) a_nil)) d_int) (d_var 0) d_int)
  (b_one (s_sub (d_idx (d_var 0) d_int) (d_var 0) d_int)))
  b_nil))))
  b_nil)
  (b_cons (s_set 2 sc__law_take.nd (d_mod (d_int2 T.n_int (a_cons (d_idx (d_var 0) d_int) a_nil)) (d_var 1)))
  (b_cons (s_sub (d_fdiv (d_idx (d_var 0) d_int) (d_var 1)) (d_var 0) d_int)
  (b_one (s_ret (d_var 2))))))
noncomputable def B__law_words : B :=
  (bSeq (sSet 0 (mLst (mCons (mC (.str ("arguments" : Str))) (mCons (mC (.str ("close" : Str))) (mCons (mC (.str ("combine" : Str))) (mCons (mC (.str ("constants" : Str))) (mCons (mC (.str ("dead_stores" : Str))) (mCons (mC (.str ("deadcode" : Str))) (mCons (mC (.str ("drop" : Str))) (mCons (mC (.str ("drop_kills" : Str))) mNil))))))))))
  (bSeq (sSet 0 (mOp oAdd (mVar 0) (mLst (mCons (mC (.str ("forward_loads" : Str))) (mCons (mC (.str ("globals_pass" : Str))) (mCons (mC (.str ("hoist" : Str))) (mCons (mC (.str ("inline" : Str))) (mCons (mC (.str ("merge" : Str))) (mCons (mC (.str ("numbering" : Str))) (mCons (mC (.str ("peel" : Str))) (mCons (mC (.str ("plain" : Str))) mNil)))))))))))
  (bSeq (sSet 0 (mOp oAdd (mVar 0) (mLst (mCons (mC (.str ("promote" : Str))) (mCons (mC (.str ("rotate" : Str))) (mCons (mC (.str ("sinking" : Str))) (mCons (mC (.str ("split" : Str))) (mCons (mC (.str ("strength" : Str))) (mCons (mC (.str ("tails" : Str))) (mCons (mC (.str ("thread" : Str))) (mCons (mC (.str ("tidy" : Str))) (mCons (mC (.str ("unroll" : Str))) mNil))))))))))))
  (sRet (mOp oAdd (mVar 0) (mLst (mCons (mC (.str ("unswitch" : Str))) mNil)))))))
noncomputable def F__law_words : List D → S → R D := runF 0 1 B__law_words
theorem cal__law_words (T : Tx P K mg) (D__law_words : DefAt K mg "_law_words" st__law_words [])  : Cal P w K mg base (k + 1) 0 "_law_words" F__law_words := cal_of D__law_words sc__law_words rfl fun f cdv A outer s H E hr =>
  (b_cons (s_set 0 sc__law_words.nd (d_lst (a_cons d_str (a_cons d_str (a_cons d_str (a_cons d_str (a_cons d_str (a_cons d_str (a_cons d_str (a_cons d_str a_nil))))))))))
  (b_cons (s_set 0 sc__law_words.nd (d_add (d_var 0) (d_lst (a_cons d_str (a_cons d_str (a_cons d_str (a_cons d_str (a_cons d_str (a_cons d_str (a_cons d_str (a_cons d_str a_nil)))))))))))
  (b_cons (s_set 0 sc__law_words.nd (d_add (d_var 0) (d_lst (a_cons d_str (a_cons d_str (a_cons d_str (a_cons d_str (a_cons d_str (a_cons d_str (a_cons d_str (a_cons d_str (a_cons d_str a_nil))))))))))))
  (b_one (s_ret (d_add (d_var 0) (d_lst (a_cons d_str a_nil))))))))
noncomputable def W__law_name1  : B :=
  (sSet 3 (mOp oAdd (mVar 3) (mOp oIx (mVar 1) (mCall F__law_take (mCons (mVar 0) (mCons (mC (.int 37)) mNil))))))
noncomputable def B__law_name : B :=
  (bSeq (sSet 1 (mC (.str ("abcdefghijklmnopqrstuvwxyz0123456789_" : Str))))
  (bSeq (sSet 2 (mOp oIx (mLst (mCons (mC (.int 1)) (mCons (mC (.int 2)) (mCons (mC (.int 5)) (mCons (mC (.int 19)) (mCons (mC (.int 20)) mNil)))))) (mCall F__law_take (mCons (mVar 0) (mCons (mC (.int 5)) mNil)))))
  (bSeq (sSet 3 (mOp oIx (mVar 1) (mCall F__law_take (mCons (mVar 0) (mCons (mC (.int 26)) mNil)))))
  (bSeq (sFor (iRng1 (mCons (mOp oSub (mVar 2) (mC (.int 1))) mNil)) (gN 4) W__law_name1)
  (sRet (mVar 3))))))
noncomputable def F__law_name : List D → S → R D := runF 1 5 B__law_name
theorem cal__law_name (T : Tx P K mg) (D__law_name : DefAt K mg "_law_name" st__law_name ["_law_draw_here"]) (c__law_take : Cal P w K mg base k 2 "_law_take" F__law_take) : Cal P w K mg base (k + 1) 1 "_law_name" F__law_name := cal_of D__law_name sc__law_name rfl fun f cdv A outer s H E hr =>
  (b_cons (s_set 1 sc__law_name.nd d_str)
  (b_cons (s_set 2 sc__law_name.nd (d_idx (d_lst (a_cons d_int (a_cons d_int (a_cons d_int (a_cons d_int (a_cons d_int a_nil)))))) (d_cal c__law_take hr passC (a_cons (d_var 0) (a_cons d_int a_nil)) len_2)))
  (b_cons (s_set 3 sc__law_name.nd (d_idx (d_var 1) (d_cal c__law_take hr passC (a_cons (d_var 0) (a_cons d_int a_nil)) len_2)))
  (b_cons (s_for ownC rfl (i_rng1 T.n_range (a_cons (d_sub (d_var 2) d_int) a_nil)) (g_name 4 sc__law_name.nd)
  (b_one (s_set 3 sc__law_name.nd (d_add (d_var 3) (d_idx (d_var 1) (d_cal c__law_take hr passC (a_cons (d_var 0) (a_cons d_int a_nil)) len_2))))))
  (b_one (s_ret (d_var 3)))))))
noncomputable def W__law_items1 (F__law_items : List D → S → R D) : B :=
  (bSeq (sSet 4 (mCall F__law_take (mCons (mVar 0) (mCons (mC (.int 6)) mNil))))
  (sIf (mOr (mOp oEq (mVar 1) (mC (.int 0))) (mOp oLt (mVar 4) (mC (.int 4))))
  (bSeq (sSet 5 (mOp oIx (mCall F__law_words mNil) (mCall F__law_take (mCons (mVar 0) (mCons (mC (.int 26)) mNil)))))
  (bSeq (sSet 6 (mOp oIx (mLst (mCons (mNeg (mC (.int 1))) (mCons (mC (.int 0)) (mCons (mC (.int 10000)) (mCons (mCall F__law_take (mCons (mVar 0) (mCons (mC (.int 10001)) mNil))) mNil))))) (mCall F__law_take (mCons (mVar 0) (mCons (mC (.int 4)) mNil)))))
  (sExpr (mMeth isLst oApp (mVar 2) (mCons (mTup (mCons (mC (.str ("pass" : Str))) (mCons (mVar 5) (mCons (mVar 6) mNil)))) mNil)))))
  (sIf (mOp oEq (mVar 4) (mC (.int 4)))
  (sExpr (mMeth isLst oApp (mVar 2) (mCons (mTup (mCons (mC (.str ("until" : Str))) (mCons (mOp oIx (mLst (mCons (mC (.int 1)) (mCons (mC (.int 100)) (mCons (mOp oAdd (mC (.int 1)) (mCall F__law_take (mCons (mVar 0) (mCons (mC (.int 100)) mNil)))) mNil)))) (mCall F__law_take (mCons (mVar 0) (mCons (mC (.int 3)) mNil)))) (mCons (mCall F__law_items (mCons (mVar 0) (mCons (mOp oSub (mVar 1) (mC (.int 1))) mNil))) mNil)))) mNil)))
  (sExpr (mMeth isLst oApp (mVar 2) (mCons (mTup (mCons (mC (.str ("on" : Str))) (mCons (mCall F__law_name (mCons (mVar 0) mNil)) (mCons (mCall F__law_items (mCons (mVar 0) (mCons (mOp oSub (mVar 1) (mC (.int 1))) mNil))) mNil)))) mNil))))))
noncomputable def B__law_items (F__law_items : List D → S → R D) : B :=
  (bSeq (sSet 2 (mLst mNil))
  (bSeq (sFor (iRng1 (mCons (mOp oAdd (mC (.int 1)) (mCall F__law_take (mCons (mVar 0) (mCons (mC (.int 3)) mNil)))) mNil)) (gN 3) (W__law_items1 F__law_items))
  (sRet (mCall cTuple (mCons (mVar 2) mNil)))))
noncomputable def F__law_items : Nat → List D → S → R D
  | 0 => runF 2 7 (fun _ _ => .bad)
  | j + 1 => runF 2 7 (B__law_items (F__law_items j))
theorem cal__law_items (T : Tx P K mg) (D__law_items : DefAt K mg "_law_items" st__law_items ["_law_draw_here", "_law_depth_here"]) (c__law_take : Cal P w K mg base k 2 "_law_take" F__law_take) (c__law_words : Cal P w K mg base k 0 "_law_words" F__law_words) (c__law_name : Cal P w K mg base k 1 "_law_name" F__law_name) : ∀ j, Cal P w K mg base (k + 1 + 1 * j) 2 "_law_items" (F__law_items j)
  | 0 => cal_bad D__law_items sc__law_items rfl
  | j + 1 => by
    have c__law_items : Cal P w K mg base (k + 1 + 1 * j) 2 "_law_items" (F__law_items j) := cal__law_items T D__law_items c__law_take c__law_words c__law_name j
    have c__law_take := c__law_take.mono (show k ≤ k + 1 + 1 * j by omega)
    have c__law_words := c__law_words.mono (show k ≤ k + 1 + 1 * j by omega)
    have c__law_name := c__law_name.mono (show k ≤ k + 1 + 1 * j by omega)
    exact cal_of D__law_items sc__law_items rfl fun f cdv A outer s H E hr =>
  (b_cons (s_set 2 sc__law_items.nd (d_lst a_nil))
  (b_cons (s_for ownC rfl (i_rng1 T.n_range (a_cons (d_add d_int (d_cal c__law_take hr passC (a_cons (d_var 0) (a_cons d_int a_nil)) len_2)) a_nil)) (g_name 3 sc__law_items.nd)
  (b_cons (s_set 4 sc__law_items.nd (d_cal c__law_take hr passC (a_cons (d_var 0) (a_cons d_int a_nil)) len_2))
  (b_one (s_if (t_w (t_or (t_cmp (op_eqD hr.units) os_eq (d_var 1) d_int) (t_or1 (t_cmp op_lt os_lt (d_var 4) d_int))))
  (b_cons (s_set 5 sc__law_items.nd (d_idx (d_cal0 c__law_words hr passC) (d_cal c__law_take hr passC (a_cons (d_var 0) (a_cons d_int a_nil)) len_2)))
  (b_cons (s_set 6 sc__law_items.nd (d_idx (d_lst (a_cons (d_neg d_int) (a_cons d_int (a_cons d_int (a_cons (d_cal c__law_take hr passC (a_cons (d_var 0) (a_cons d_int a_nil)) len_2) a_nil))))) (d_cal c__law_take hr passC (a_cons (d_var 0) (a_cons d_int a_nil)) len_2)))
  (b_one (s_expr (d_append (d_var 2) (a_cons (d_tup (a_cons d_str (a_cons (d_var 5) (a_cons (d_var 6) a_nil)))) a_nil))))))
  (b_one (s_if (t_cmp (op_eqD hr.units) os_eq (d_var 4) d_int)
  (b_one (s_expr (d_append (d_var 2) (a_cons (d_tup (a_cons d_str (a_cons (d_idx (d_lst (a_cons d_int (a_cons d_int (a_cons (d_add d_int (d_cal c__law_take hr passC (a_cons (d_var 0) (a_cons d_int a_nil)) len_2)) a_nil)))) (d_cal c__law_take hr passC (a_cons (d_var 0) (a_cons d_int a_nil)) len_2)) (a_cons (d_cal c__law_items hr passC (a_cons (d_var 0) (a_cons (d_sub (d_var 1) d_int) a_nil)) len_2) a_nil)))) a_nil))))
  (b_one (s_expr (d_append (d_var 2) (a_cons (d_tup (a_cons d_str (a_cons (d_cal c__law_name hr passC (a_cons (d_var 0) a_nil) len_1) (a_cons (d_cal c__law_items hr passC (a_cons (d_var 0) (a_cons (d_sub (d_var 1) d_int) a_nil)) len_2) a_nil)))) a_nil))))))))))
  (b_one (s_ret (d_tuple1 T.n_tuple (a_cons (d_var 2) a_nil))))))
noncomputable def W__law_show1 (F__law_show : List D → S → R D) : B :=
  (bSeq (sIf (mOp oNe (mVar 1) (mC (.str ("" : Str))))
  (sSet 1 (mOp oAdd (mVar 1) (mC (.str ("; " : Str)))))
  bNil)
  (sIf (mOp oEq (mOp oIx (mVar 2) (mC (.int 0))) (mC (.str ("pass" : Str))))
  (bSeq (sSet 1 (mOp oAdd (mVar 1) (mOp oIx (mVar 2) (mC (.int 1)))))
  (sIf (mOp oNe (mOp oIx (mVar 2) (mC (.int 2))) (mNeg (mC (.int 1))))
  (sSet 1 (mOp oAdd (mOp oAdd (mVar 1) (mC (.str (" " : Str)))) (mCall cStr2 (mCons (mOp oIx (mVar 2) (mC (.int 2))) mNil))))
  bNil))
  (sSet 1 (mOp oAdd (mOp oAdd (mOp oAdd (mOp oAdd (mOp oAdd (mOp oAdd (mVar 1) (mOp oIx (mVar 2) (mC (.int 0)))) (mC (.str (" " : Str)))) (mCall cStr2 (mCons (mOp oIx (mVar 2) (mC (.int 1))) mNil))) (mC (.str (" {" : Str)))) (mCall F__law_show (mCons (mOp oIx (mVar 2) (mC (.int 2))) mNil))) (mC (.str ("}" : Str)))))))
noncomputable def B__law_show (F__law_show : List D → S → R D) : B :=
  (bSeq (sSet 1 (mC (.str ("" : Str))))
  (bSeq (sFor (iSeq (mVar 0)) (gN 2) (W__law_show1 F__law_show))
  (sRet (mVar 1))))
noncomputable def F__law_show : Nat → List D → S → R D
  | 0 => runF 1 3 (fun _ _ => .bad)
  | j + 1 => runF 1 3 (B__law_show (F__law_show j))
theorem cal__law_show (T : Tx P K mg) (D__law_show : DefAt K mg "_law_show" st__law_show ["_law_items_here"])  : ∀ j, Cal P w K mg base (k + 1 + 1 * j) 1 "_law_show" (F__law_show j)
  | 0 => cal_bad D__law_show sc__law_show rfl
  | j + 1 => by
    have c__law_show : Cal P w K mg base (k + 1 + 1 * j) 1 "_law_show" (F__law_show j) := cal__law_show T D__law_show  j
    exact cal_of D__law_show sc__law_show rfl fun f cdv A outer s H E hr =>
  (b_cons (s_set 1 sc__law_show.nd d_str)
  (b_cons (s_for ownC rfl (i_seq (d_var 0)) (g_name 2 sc__law_show.nd)
  (b_cons (s_if (t_cmp (op_neD hr.units) os_ne (d_var 1) d_str)
  (b_one (s_set 1 sc__law_show.nd (d_add (d_var 1) d_str)))
  b_nil)
  (b_one (s_if (t_cmp (op_eqD hr.units) os_eq (d_idx (d_var 2) d_int) d_str)
  (b_cons (s_set 1 sc__law_show.nd (d_add (d_var 1) (d_idx (d_var 2) d_int)))
  (b_one (s_if (t_cmp (op_neD hr.units) os_ne (d_idx (d_var 2) d_int) (d_neg d_int))
  (b_one (s_set 1 sc__law_show.nd (d_add (d_add (d_var 1) d_str) (d_str1 T.n_str (a_cons (d_idx (d_var 2) d_int) a_nil)))))
  b_nil)))
  (b_one (s_set 1 sc__law_show.nd (d_add (d_add (d_add (d_add (d_add (d_add (d_var 1) (d_idx (d_var 2) d_int)) d_str) (d_str1 T.n_str (a_cons (d_idx (d_var 2) d_int) a_nil))) d_str) (d_cal c__law_show hr passC (a_cons (d_idx (d_var 2) d_int) a_nil) len_1)) d_str)))))))
  (b_one (s_ret (d_var 1)))))
noncomputable def B__law_depth (F__law_depth : List D → S → R D) : B :=
  (sRet (mCall cMaxL (mCons (mOp oAdd (mLst (mCons (mC (.int 0)) mNil)) (mLc (iSeq (mVar 0)) 1 (mOp oNe (mOp oIx (mVar 1) (mC (.int 0))) (mC (.str ("pass" : Str)))) (mOp oAdd (mC (.int 1)) (mCall F__law_depth (mCons (mOp oIx (mVar 1) (mC (.int 2))) mNil))))) mNil)))
noncomputable def F__law_depth : Nat → List D → S → R D
  | 0 => runF 1 2 (fun _ _ => .bad)
  | j + 1 => runF 1 2 (B__law_depth (F__law_depth j))
theorem cal__law_depth (T : Tx P K mg) (D__law_depth : DefAt K mg "_law_depth" st__law_depth ["_law_items_here"])  : ∀ j, Cal P w K mg base (k + 1 + 1 * j) 1 "_law_depth" (F__law_depth j)
  | 0 => cal_bad D__law_depth sc__law_depth rfl
  | j + 1 => by
    have c__law_depth : Cal P w K mg base (k + 1 + 1 * j) 1 "_law_depth" (F__law_depth j) := cal__law_depth T D__law_depth  j
    exact cal_of D__law_depth sc__law_depth rfl fun f cdv A outer s H E hr =>
  (b_one (s_ret (d_maxL rfl T.n_max (a_cons (d_add (d_lst (a_cons d_int a_nil)) (d_lcIf (i := 1) rfl sc__law_depth.nd (i_seq (d_var 0)) (show blkC ["_law_items_here", "_law_item"] (defScope st__law_depth) _ [("_law_item", 1)] = true from by decide +kernel) (fun _ _ _ _ _ => pg_name (i := 1) sc__law_depth.nd rfl (Or.inl rfl)) (fun _ _ _ _ _ => (t_cmp (op_neD hr.units) os_ne (d_idx (d_var 1) d_int) d_str)) (fun _ _ _ _ _ => (d_add d_int (d_cal c__law_depth hr passL (a_cons (d_idx (d_var 1) d_int) a_nil) len_1))))) a_nil))))
noncomputable def W__law_tokens1  : B :=
  (bSeq (sSet 5 (mIf (mOp oLt (mVar 4) (mCall cLen (mCons (mVar 0) mNil))) (mOp oIx (mVar 0) (mVar 4)) (mC (.str (" " : Str)))))
  (sIf (mOp (oIn false) (mVar 5) (mVar 1))
  (sSet 3 (mOp oAdd (mVar 3) (mVar 5)))
  (bSeq (sIf (mOp oNe (mVar 3) (mC (.str ("" : Str))))
  (sExpr (mMeth isLst oApp (mVar 2) (mCons (mTup (mCons (mVar 3) (mCons (mOp oSub (mVar 4) (mCall cLen (mCons (mVar 3) mNil))) mNil))) mNil)))
  bNil)
  (bSeq (sSet 3 (mC (.str ("" : Str))))
  (sIf (mAnd (mOp oNe (mVar 5) (mC (.str (" " : Str)))) (mOp oNe (mVar 5) (mC (.str ("\n" : Str)))))
  (sExpr (mMeth isLst oApp (mVar 2) (mCons (mTup (mCons (mVar 5) (mCons (mVar 4) mNil))) mNil)))
  bNil)))))
noncomputable def B__law_tokens : B :=
  (bSeq (sSet 1 (mC (.str ("abcdefghijklmnopqrstuvwxyz0123456789_" : Str))))
  (bSeq (sSet 2 (mLst mNil))
  (bSeq (sSet 3 (mC (.str ("" : Str))))
  (bSeq (sFor (iRng1 (mCons (mOp oAdd (mCall cLen (mCons (mVar 0) mNil)) (mC (.int 1))) mNil)) (gN 4) W__law_tokens1)
  (bSeq (sExpr (mMeth isLst oApp (mVar 2) (mCons (mTup (mCons (mC (.str ("" : Str))) (mCons (mCall cLen (mCons (mVar 0) mNil)) mNil))) mNil)))
  (sRet (mVar 2)))))))
noncomputable def F__law_tokens : List D → S → R D := runF 1 6 B__law_tokens
theorem cal__law_tokens (T : Tx P K mg) (D__law_tokens : DefAt K mg "_law_tokens" st__law_tokens ["_law_text"])  : Cal P w K mg base (k + 1) 1 "_law_tokens" F__law_tokens := cal_of D__law_tokens sc__law_tokens rfl fun f cdv A outer s H E hr =>
  (b_cons (s_set 1 sc__law_tokens.nd d_str)
  (b_cons (s_set 2 sc__law_tokens.nd (d_lst a_nil))
  (b_cons (s_set 3 sc__law_tokens.nd d_str)
  (b_cons (s_for ownC rfl (i_rng1 T.n_range (a_cons (d_add (d_len T.n_len (a_cons (d_var 0) a_nil)) d_int) a_nil)) (g_name 4 sc__law_tokens.nd)
  (b_cons (s_set 5 sc__law_tokens.nd (d_if (t_cmp op_lt os_lt (d_var 4) (d_len T.n_len (a_cons (d_var 0) a_nil))) (d_idx (d_var 0) (d_var 4)) d_str))
  (b_one (s_if (t_cmp or_in os_in (d_var 5) (d_var 1))
  (b_one (s_set 3 sc__law_tokens.nd (d_add (d_var 3) (d_var 5))))
  (b_cons (s_if (t_cmp (op_neD hr.units) os_ne (d_var 3) d_str)
  (b_one (s_expr (d_append (d_var 2) (a_cons (d_tup (a_cons (d_var 3) (a_cons (d_sub (d_var 4) (d_len T.n_len (a_cons (d_var 3) a_nil))) a_nil))) a_nil))))
  b_nil)
  (b_cons (s_set 3 sc__law_tokens.nd d_str)
  (b_one (s_if (t_w (t_and (t_cmp (op_neD hr.units) os_ne (d_var 5) d_str) (t_and1 (t_cmp (op_neD hr.units) os_ne (d_var 5) d_str))))
  (b_one (s_expr (d_append (d_var 2) (a_cons (d_tup (a_cons (d_var 5) (a_cons (d_var 4) a_nil))) a_nil))))
  b_nil))))))))
  (b_cons (s_expr (d_append (d_var 2) (a_cons (d_tup (a_cons d_str (a_cons (d_len T.n_len (a_cons (d_var 0) a_nil)) a_nil))) a_nil)))
  (b_one (s_ret (d_var 2))))))))
noncomputable def W__law_number1  : B :=
  (sIf (mOp (oIn true) (mVar 3) (mC (.str ("0123456789" : Str))))
  (sRet (mNeg (mC (.int 1))))
  bNil)
noncomputable def B__law_number : B :=
  (bSeq (sIf (mOr (mOp oEq (mVar 0) (mC (.str ("" : Str)))) (mOr (mOp oGt (mCall cLen (mCons (mVar 0) mNil)) (mC (.int 5))) (mAnd (mOp oGt (mCall cLen (mCons (mVar 0) mNil)) (mC (.int 1))) (mOp oEq (mOp oIx (mVar 0) (mC (.int 0))) (mC (.str ("0" : Str)))))))
  (sRet (mNeg (mC (.int 1))))
  bNil)
  (bSeq (sFor (iSeq (mVar 0)) (gN 3) W__law_number1)
  (bSeq (sSet 4 (mCall cInt2 (mCons (mVar 0) mNil)))
  (sRet (mIf (mChain oLeT oLeT (mVar 1) (mVar 4) (mVar 2)) (mVar 4) (mNeg (mC (.int 1))))))))
noncomputable def F__law_number : List D → S → R D := runF 3 5 B__law_number
theorem cal__law_number (T : Tx P K mg) (D__law_number : DefAt K mg "_law_number" st__law_number ["_law_token", "_law_low", "_law_high"])  : Cal P w K mg base (k + 1) 3 "_law_number" F__law_number := cal_of D__law_number sc__law_number rfl fun f cdv A outer s H E hr =>
  (b_cons (s_if (t_w (t_or (t_cmp (op_eqD hr.units) os_eq (d_var 0) d_str) (t_or (t_cmp op_gt os_gt (d_len T.n_len (a_cons (d_var 0) a_nil)) d_int) (t_or1 (t_w (t_and (t_cmp op_gt os_gt (d_len T.n_len (a_cons (d_var 0) a_nil)) d_int) (t_and1 (t_cmp (op_eqD hr.units) os_eq (d_idx (d_var 0) d_int) d_str))))))))
  (b_one (s_ret (d_neg d_int)))
  b_nil)
  (b_cons (s_for ownC rfl (i_seq (d_var 0)) (g_name 3 sc__law_number.nd)
  (b_one (s_if (t_cmp or_notIn os_in (d_var 3) d_str)
  (b_one (s_ret (d_neg d_int)))
  b_nil)))
  (b_cons (s_set 4 sc__law_number.nd (d_int2 T.n_int (a_cons (d_var 0) a_nil)))
  (b_one (s_ret (d_if (t_chain or_leT os_cmpT or_leT os_cmpT (d_var 1) (d_var 4) (d_var 2)) (d_var 4) (d_neg d_int)))))))
noncomputable def W__law_read_items1 (F__law_read_item : List D → S → R D) : B :=
  (bSeq (sSet 5 (mCall F__law_read_item (mCons (mVar 0) (mCons (mVar 1) (mCons (mVar 2) mNil)))))
  (bSeq (sIf (mNot (mOp oIx (mVar 5) (mC (.int 0))))
  (sRet (mVar 5))
  bNil)
  (bSeq (sExpr (mMeth isLst oApp (mVar 3) (mCons (mOp oIx (mVar 5) (mC (.int 1))) mNil)))
  (bSeq (sSet 1 (mOp oIx (mVar 5) (mC (.int 2))))
  (bSeq (sIf (mOp oNe (mOp oIx (mOp oIx (mVar 0) (mVar 1)) (mC (.int 0))) (mC (.str (";" : Str))))
  sBreak
  bNil)
  (sSet 1 (mOp oAdd (mVar 1) (mC (.int 1)))))))))
noncomputable def B__law_read_items (F__law_read_item : List D → S → R D) : B :=
  (bSeq (sSet 3 (mLst mNil))
  (bSeq (sFor (iRng1 (mCons (mCall cLen (mCons (mVar 0) mNil)) mNil)) (gN 4) (W__law_read_items1 F__law_read_item))
  (sRet (mTup (mCons (mC (.bl true)) (mCons (mCall cTuple (mCons (mVar 3) mNil)) (mCons (mVar 1) mNil)))))))
noncomputable def B__law_read_item (F__law_read_items : List D → S → R D) : B :=
  (bSeq (sSet 3 (mOp oIx (mOp oIx (mVar 0) (mVar 1)) (mC (.int 0))))
  (bSeq (sIf (mOr (mOp oEq (mVar 3) (mC (.str ("until" : Str)))) (mOp oEq (mVar 3) (mC (.str ("on" : Str)))))
  (bSeq (sSet 4 (mOp oIx (mOp oIx (mVar 0) (mOp oAdd (mVar 1) (mC (.int 1)))) (mC (.int 0))))
  (bSeq (sSet 5 (mVar 4))
  (bSeq (sIf (mOp oEq (mVar 3) (mC (.str ("until" : Str))))
  (bSeq (sSet 5 (mCall F__law_number (mCons (mVar 4) (mCons (mC (.int 1)) (mCons (mC (.int 100)) mNil)))))
  (sIf (mOp oEq (mVar 5) (mNeg (mC (.int 1))))
  (sRet (mTup (mCons (mC (.bl false)) (mCons (mOp oAdd (mVar 1) (mC (.int 1))) mNil))))
  bNil))
  (sIf (mOr (mOp oEq (mVar 4) (mC (.str ("" : Str)))) (mOr (mOp (oIn true) (mOp oIx (mVar 4) (mC (.int 0))) (mC (.str ("abcdefghijklmnopqrstuvwxyz" : Str)))) (mOp oGt (mCall cLen (mCons (mVar 4) mNil)) (mC (.int 20)))))
  (sRet (mTup (mCons (mC (.bl false)) (mCons (mOp oAdd (mVar 1) (mC (.int 1))) mNil))))
  bNil))
  (bSeq (sIf (mOr (mOp oNe (mOp oIx (mOp oIx (mVar 0) (mOp oAdd (mVar 1) (mC (.int 2)))) (mC (.int 0))) (mC (.str ("{" : Str)))) (mOp oEq (mVar 2) (mC (.int 8))))
  (sRet (mTup (mCons (mC (.bl false)) (mCons (mOp oAdd (mVar 1) (mC (.int 2))) mNil))))
  bNil)
  (bSeq (sSet 6 (mCall F__law_read_items (mCons (mVar 0) (mCons (mOp oAdd (mVar 1) (mC (.int 3))) (mCons (mOp oAdd (mVar 2) (mC (.int 1))) mNil)))))
  (bSeq (sIf (mNot (mOp oIx (mVar 6) (mC (.int 0))))
  (sRet (mVar 6))
  bNil)
  (bSeq (sIf (mOp oNe (mOp oIx (mOp oIx (mVar 0) (mOp oIx (mVar 6) (mC (.int 2)))) (mC (.int 0))) (mC (.str ("}" : Str))))
  (sRet (mTup (mCons (mC (.bl false)) (mCons (mOp oIx (mVar 6) (mC (.int 2))) mNil))))
  bNil)
  (sRet (mTup (mCons (mC (.bl true)) (mCons (mTup (mCons (mVar 3) (mCons (mVar 5) (mCons (mOp oIx (mVar 6) (mC (.int 1))) mNil)))) (mCons (mOp oAdd (mOp oIx (mVar 6) (mC (.int 2))) (mC (.int 1))) mNil))))))))))))
  bNil)
  (bSeq (sIf (mOp (oIn true) (mVar 3) (mCall F__law_words mNil))
  (sRet (mTup (mCons (mC (.bl false)) (mCons (mVar 1) mNil))))
  bNil)
  (bSeq (sSet 4 (mOp oIx (mOp oIx (mVar 0) (mOp oAdd (mVar 1) (mC (.int 1)))) (mC (.int 0))))
  (bSeq (sIf (mAnd (mOp oNe (mVar 4) (mC (.str ("" : Str)))) (mOp (oIn false) (mOp oIx (mVar 4) (mC (.int 0))) (mC (.str ("0123456789" : Str)))))
  (bSeq (sSet 7 (mCall F__law_number (mCons (mVar 4) (mCons (mC (.int 0)) (mCons (mC (.int 10000)) mNil)))))
  (bSeq (sIf (mOp oEq (mVar 7) (mNeg (mC (.int 1))))
  (sRet (mTup (mCons (mC (.bl false)) (mCons (mOp oAdd (mVar 1) (mC (.int 1))) mNil))))
  bNil)
  (sRet (mTup (mCons (mC (.bl true)) (mCons (mTup (mCons (mC (.str ("pass" : Str))) (mCons (mVar 3) (mCons (mVar 7) mNil)))) (mCons (mOp oAdd (mVar 1) (mC (.int 2))) mNil)))))))
  bNil)
  (sRet (mTup (mCons (mC (.bl true)) (mCons (mTup (mCons (mC (.str ("pass" : Str))) (mCons (mVar 3) (mCons (mNeg (mC (.int 1))) mNil)))) (mCons (mOp oAdd (mVar 1) (mC (.int 1))) mNil))))))))))
noncomputable def F__law_read_items : Nat → List D → S → R D
  | 0 => runF 3 6 (fun _ _ => .bad)
  | j + 1 => runF 3 6 (B__law_read_items (runF 3 8 (B__law_read_item (F__law_read_items j))))
theorem cal__law_read_items (T : Tx P K mg) (D__law_read_items : DefAt K mg "_law_read_items" st__law_read_items ["_law_tokens_here", "_law_at", "_law_depth_here"]) (D__law_read_item : DefAt K mg "_law_read_item" st__law_read_item ["_law_tokens_here", "_law_at", "_law_depth_here"]) (c__law_number : Cal P w K mg base k 3 "_law_number" F__law_number) (c__law_words : Cal P w K mg base k 0 "_law_words" F__law_words) : ∀ j, Cal P w K mg base (k + 1 + 2 * j) 3 "_law_read_items" (F__law_read_items j)
  | 0 => cal_bad D__law_read_items sc__law_read_items rfl
  | j + 1 => by
    have c__law_read_items : Cal P w K mg base (k + 1 + 2 * j) 3 "_law_read_items" (F__law_read_items j) := cal__law_read_items T D__law_read_items D__law_read_item c__law_number c__law_words j
    have c__law_number := c__law_number.mono (show k ≤ k + 1 + 2 * j by omega)
    have c__law_words := c__law_words.mono (show k ≤ k + 1 + 2 * j by omega)
    have c__law_read_item : Cal P w K mg base (k + 1 + 2 * j + 1) 3 "_law_read_item" (runF 3 8 (B__law_read_item (F__law_read_items j))) := cal_of D__law_read_item sc__law_read_item rfl fun f cdv A outer s H E hr =>
  (b_cons (s_set 3 sc__law_read_item.nd (d_idx (d_idx (d_var 0) (d_var 1)) d_int))
  (b_cons (s_if (t_w (t_or (t_cmp (op_eqD hr.units) os_eq (d_var 3) d_str) (t_or1 (t_cmp (op_eqD hr.units) os_eq (d_var 3) d_str))))
  (b_cons (s_set 4 sc__law_read_item.nd (d_idx (d_idx (d_var 0) (d_add (d_var 1) d_int)) d_int))
  (b_cons (s_set 5 sc__law_read_item.nd (d_var 4))
  (b_cons (s_if (t_cmp (op_eqD hr.units) os_eq (d_var 3) d_str)
  (b_cons (s_set 5 sc__law_read_item.nd (d_cal c__law_number hr passC (a_cons (d_var 4) (a_cons d_int (a_cons d_int a_nil))) len_3))
  (b_one (s_if (t_cmp (op_eqD hr.units) os_eq (d_var 5) (d_neg d_int))
  (b_one (s_ret (d_tup (a_cons d_bl (a_cons (d_add (d_var 1) d_int) a_nil)))))
  b_nil)))
  (b_one (s_if (t_w (t_or (t_cmp (op_eqD hr.units) os_eq (d_var 4) d_str) (t_or (t_cmp or_notIn os_in (d_idx (d_var 4) d_int) d_str) (t_or1 (t_cmp op_gt os_gt (d_len T.n_len (a_cons (d_var 4) a_nil)) d_int)))))
  (b_one (s_ret (d_tup (a_cons d_bl (a_cons (d_add (d_var 1) d_int) a_nil)))))
  b_nil)))
  (b_cons (s_if (t_w (t_or (t_cmp (op_neD hr.units) os_ne (d_idx (d_idx (d_var 0) (d_add (d_var 1) d_int)) d_int) d_str) (t_or1 (t_cmp (op_eqD hr.units) os_eq (d_var 2) d_int))))
  (b_one (s_ret (d_tup (a_cons d_bl (a_cons (d_add (d_var 1) d_int) a_nil)))))
  b_nil)
  (b_cons (s_set 6 sc__law_read_item.nd (d_cal c__law_read_items hr passC (a_cons (d_var 0) (a_cons (d_add (d_var 1) d_int) (a_cons (d_add (d_var 2) d_int) a_nil))) len_3))
  (b_cons (s_if (t_not (t_val (d_idx (d_var 6) d_int)))
  (b_one (s_ret (d_var 6)))
  b_nil)
  (b_cons (s_if (t_cmp (op_neD hr.units) os_ne (d_idx (d_idx (d_var 0) (d_idx (d_var 6) d_int)) d_int) d_str)
  (b_one (s_ret (d_tup (a_cons d_bl (a_cons (d_idx (d_var 6) d_int) a_nil)))))
  b_nil)
  (b_one (s_ret (d_tup (a_cons d_bl (a_cons (d_tup (a_cons (d_var 3) (a_cons (d_var 5) (a_cons (d_idx (d_var 6) d_int) a_nil)))) (a_cons (d_add (d_idx (d_var 6) d_int) d_int) a_nil)))))))))))))
  b_nil)
  (b_cons (s_if (t_cmp or_notIn os_in (d_var 3) (d_cal0 c__law_words hr passC))
  (b_one (s_ret (d_tup (a_cons d_bl (a_cons (d_var 1) a_nil)))))
  b_nil)
  (b_cons (s_set 4 sc__law_read_item.nd (d_idx (d_idx (d_var 0) (d_add (d_var 1) d_int)) d_int))
  (b_cons (s_if (t_w (t_and (t_cmp (op_neD hr.units) os_ne (d_var 4) d_str) (t_and1 (t_cmp or_in os_in (d_idx (d_var 4) d_int) d_str))))
  (b_cons (s_set 7 sc__law_read_item.nd (d_cal c__law_number hr passC (a_cons (d_var 4) (a_cons d_int (a_cons d_int a_nil))) len_3))
  (b_cons (s_if (t_cmp (op_eqD hr.units) os_eq (d_var 7) (d_neg d_int))
  (b_one (s_ret (d_tup (a_cons d_bl (a_cons (d_add (d_var 1) d_int) a_nil)))))
  b_nil)
  (b_one (s_ret (d_tup (a_cons d_bl (a_cons (d_tup (a_cons d_str (a_cons (d_var 3) (a_cons (d_var 7) a_nil)))) (a_cons (d_add (d_var 1) d_int) a_nil))))))))
  b_nil)
  (b_one (s_ret (d_tup (a_cons d_bl (a_cons (d_tup (a_cons d_str (a_cons (d_var 3) (a_cons (d_neg d_int) a_nil)))) (a_cons (d_add (d_var 1) d_int) a_nil)))))))))))
    have c__law_number := c__law_number.mono (Nat.le_succ _)
    have c__law_words := c__law_words.mono (Nat.le_succ _)
    have c__law_read_items := c__law_read_items.mono (Nat.le_succ _)
    exact cal_of D__law_read_items sc__law_read_items rfl fun f cdv A outer s H E hr =>
  (b_cons (s_set 3 sc__law_read_items.nd (d_lst a_nil))
  (b_cons (s_for ownC rfl (i_rng1 T.n_range (a_cons (d_len T.n_len (a_cons (d_var 0) a_nil)) a_nil)) (g_name 4 sc__law_read_items.nd)
  (b_cons (s_set 5 sc__law_read_items.nd (d_cal c__law_read_item hr passC (a_cons (d_var 0) (a_cons (d_var 1) (a_cons (d_var 2) a_nil))) len_3))
  (b_cons (s_if (t_not (t_val (d_idx (d_var 5) d_int)))
  (b_one (s_ret (d_var 5)))
  b_nil)
  (b_cons (s_expr (d_append (d_var 3) (a_cons (d_idx (d_var 5) d_int) a_nil)))
  (b_cons (s_set 1 sc__law_read_items.nd (d_idx (d_var 5) d_int))
  (b_cons (s_if (t_cmp (op_neD hr.units) os_ne (d_idx (d_idx (d_var 0) (d_var 1)) d_int) d_str)
  (b_one s_break)
  b_nil)
  (b_one (s_set 1 sc__law_read_items.nd (d_add (d_var 1) d_int)))))))))
  (b_one (s_ret (d_tup (a_cons d_bl (a_cons (d_tuple1 T.n_tuple (a_cons (d_var 3) a_nil)) (a_cons (d_var 1) a_nil))))))))
noncomputable def B__law_due : B :=
  (bSeq (sSet 1 (mCall F__law_tokens (mCons (mVar 0) mNil)))
  (bSeq (sIf (mOp oEq (mCall cLen (mCons (mVar 1) mNil)) (mC (.int 1)))
  (sRet (mTup (mCons (mC (.bl true)) (mCons (mTup mNil) mNil))))
  bNil)
  (bSeq (sSet 2 (mCall (F__law_read_items 12) (mCons (mVar 1) (mCons (mC (.int 0)) (mCons (mC (.int 0)) mNil)))))
  (bSeq (sIf (mAnd (mOp oIx (mVar 2) (mC (.int 0))) (mOp oNe (mOp oIx (mOp oIx (mVar 1) (mOp oIx (mVar 2) (mC (.int 2)))) (mC (.int 0))) (mC (.str ("" : Str)))))
  (sSet 2 (mTup (mCons (mC (.bl false)) (mCons (mOp oIx (mVar 2) (mC (.int 2))) mNil))))
  bNil)
  (bSeq (sIf (mNot (mOp oIx (mVar 2) (mC (.int 0))))
  (sRet (mTup (mCons (mC (.bl false)) (mCons (mOp oIx (mOp oIx (mVar 1) (mOp oIx (mVar 2) (mC (.int 1)))) (mC (.int 1))) mNil))))
  bNil)
  (sRet (mVar 2)))))))
noncomputable def F__law_due : List D → S → R D := runF 1 3 B__law_due
theorem cal__law_due (T : Tx P K mg) (D__law_due : DefAt K mg "_law_due" st__law_due ["_law_text"]) (c__law_read_items : Cal P w K mg base k 3 "_law_read_items" (F__law_read_items 12)) (c__law_tokens : Cal P w K mg base k 1 "_law_tokens" F__law_tokens) : Cal P w K mg base (k + 1) 1 "_law_due" F__law_due := cal_of D__law_due sc__law_due rfl fun f cdv A outer s H E hr =>
  (b_cons (s_set 1 sc__law_due.nd (d_cal c__law_tokens hr passC (a_cons (d_var 0) a_nil) len_1))
  (b_cons (s_if (t_cmp (op_eqD hr.units) os_eq (d_len T.n_len (a_cons (d_var 1) a_nil)) d_int)
  (b_one (s_ret (d_tup (a_cons d_bl (a_cons (d_tup a_nil) a_nil)))))
  b_nil)
  (b_cons (s_set 2 sc__law_due.nd (d_cal c__law_read_items hr passC (a_cons (d_var 1) (a_cons d_int (a_cons d_int a_nil))) len_3))
  (b_cons (s_if (t_w (t_and (t_val (d_idx (d_var 2) d_int)) (t_and1 (t_cmp (op_neD hr.units) os_ne (d_idx (d_idx (d_var 1) (d_idx (d_var 2) d_int)) d_int) d_str))))
  (b_one (s_set 2 sc__law_due.nd (d_tup (a_cons d_bl (a_cons (d_idx (d_var 2) d_int) a_nil)))))
  b_nil)
  (b_cons (s_if (t_not (t_val (d_idx (d_var 2) d_int)))
  (b_one (s_ret (d_tup (a_cons d_bl (a_cons (d_idx (d_idx (d_var 1) (d_idx (d_var 2) d_int)) d_int) a_nil)))))
  b_nil)
  (b_one (s_ret (d_var 2))))))))
noncomputable def suM__law_reads (C a : Addr) (cls : Value) (d : Option Addr) : B :=
  (sRet (mAnd (mNot (mOp oIx (mVar 1) (mC (.int 0)))) (mAnd (mCall (cIsE a cls d C (ansE "ScriptError" "BurnishError")) (mCons (mVar 3) (mCons (mC (.fn ("ScriptError" : Str))) mNil))) (mAnd (mCall (cIsE a cls d C (ansE "ScriptError" "BurnishError")) (mCons (mVar 3) (mCons (mC (.ty "ValueError")) mNil))) (mOp oEq (mAt a cls d C (mVar 3)) (mOp oIx (mVar 1) (mC (.int 1))))))))
noncomputable def suB__law_reads (d : D) : B :=
  (sRet (mAnd (mNot (mOp oIx (mVar 1) (mC (.int 0)))) (mAnd (mC (.bl true)) (mAnd (mC (.bl true)) (mOp oEq (mC d) (mOp oIx (mVar 1) (mC (.int 1))))))))
theorem same__law_reads {C a dd : Addr} {d : D} : SameB 3 (.exn a C dd "at" d) (suM__law_reads C a (.ref C) (some dd)) (suB__law_reads d) := by
  unfold suM__law_reads suB__law_reads
  repeat first | exact same_c | exact same_var (by decide) | exact same_at | exact same_isE ansE_c | exact same_isE ansE_v | exact same_nil | refine same_ret ?_ | refine same_and ?_ ?_ | refine same_or ?_ ?_ | refine same_not ?_ | refine same_op ?_ ?_ | refine same_cons ?_ ?_ | refine same_lst ?_ | refine same_tup ?_
noncomputable def B__law_reads : B :=
  (bSeq (sSet 1 (mCall F__law_due (mCons (mVar 0) mNil)))
  (bSeq (sTry 3 (mCall F_read_script (mCons (mVar 0) mNil)) (fun d ε s => .nx (ε.set 2 (some d)) s) (suOf "ScriptError" 3 suB__law_reads))
  (sRet (mAnd (mOp oIx (mVar 1) (mC (.int 0))) (mOp oEq (mVar 2) (mOp oIx (mVar 1) (mC (.int 1))))))))
noncomputable def F__law_reads : List D → S → R D := runF 1 4 B__law_reads
theorem cal__law_reads (T : Tx P K mg) (D__law_reads : DefAt K mg "_law_reads" st__law_reads ["_law_text"]) {C CB : Addr} (S : ErrS K mg "ScriptError" "BurnishError" C CB) (c_read_script : Cal P w K mg base k 1 "read_script" F_read_script) (c__law_due : Cal P w K mg base k 1 "_law_due" F__law_due) : Cal P w K mg base (k + 1) 1 "_law_reads" F__law_reads := cal_of D__law_reads sc__law_reads rfl fun f cdv A outer s H E hr =>
  (b_cons (s_set 1 sc__law_reads.nd (d_cal c__law_due hr passC (a_cons (d_var 0) a_nil) len_1))
  (b_cons (s_trySet 2 rfl rfl sc__law_reads.nd rfl rfl (names_of S.mB)
  (fun W pn xe tk po => d_calS c_read_script hr tk (a_cons (d_var 0) a_nil) len_1 (ne_var ne_nil))
  (fun a oe cls d pn hz hf => b_one (s_ret (d_and (d_not (d_idx (d_var 1) d_int)) (d_and (d_isE S hz hf (a_cons (d_var 3) (a_cons (d_gfn' T.f_ScriptError) a_nil))) (d_and (d_isE S hz hf (a_cons (d_var 3) (a_cons (d_bty T.n_ValueError bt_ValueError) a_nil))) (d_one (d_cmp (op_eqD hr.units) os_eq (d_ate S hz hf (d_var 3)) (d_idx (d_var 1) d_int))))))))
  (su_of (suM := suM__law_reads) S fun a dd d => same__law_reads))
  (b_one (s_ret (d_and (d_idx (d_var 1) d_int) (d_one (d_cmp (op_eqD hr.units) os_eq (d_var 2) (d_idx (d_var 1) d_int))))))))
noncomputable def B__law_bent : B :=
  (bSeq (sSet 2 (mCall F__law_take (mCons (mVar 0) (mCons (mOp oAdd (mCall cLen (mCons (mVar 1) mNil)) (mC (.int 1))) mNil))))
  (bSeq (sSet 3 (mOp oIx (mC (.str (" ;{}0a9_\n!z-" : Str))) (mCall F__law_take (mCons (mVar 0) (mCons (mC (.int 12)) mNil)))))
  (bSeq (sSet 4 (mCall F__law_take (mCons (mVar 0) (mCons (mC (.int 6)) mNil))))
  (bSeq (sIf (mOp oEq (mVar 4) (mC (.int 0)))
  (sRet (mOp oAdd (mOp oAdd (mSl (mVar 1) pNo (pAt (mVar 2))) (mVar 3)) (mSl (mVar 1) (pAt (mVar 2)) pNo)))
  bNil)
  (bSeq (sIf (mOp oEq (mVar 4) (mC (.int 1)))
  (sRet (mOp oAdd (mOp oAdd (mSl (mVar 1) pNo (pAt (mVar 2))) (mVar 3)) (mSl (mVar 1) (pAt (mOp oAdd (mVar 2) (mC (.int 1)))) pNo)))
  bNil)
  (bSeq (sIf (mOp oEq (mVar 4) (mC (.int 2)))
  (sRet (mOp oAdd (mSl (mVar 1) pNo (pAt (mVar 2))) (mSl (mVar 1) (pAt (mOp oAdd (mVar 2) (mC (.int 1)))) pNo)))
  bNil)
  (bSeq (sIf (mOp oEq (mVar 4) (mC (.int 3)))
  (sRet (mSl (mVar 1) pNo (pAt (mVar 2))))
  bNil)
  (bSeq (sSet 5 (mCall F__law_tokens (mCons (mVar 1) mNil)))
  (bSeq (sSet 6 (mOp oIx (mVar 5) (mCall F__law_take (mCons (mVar 0) (mCons (mCall cLen (mCons (mVar 5) mNil)) mNil)))))
  (bSeq (sSet 7 (mCall cLen (mCons (mOp oIx (mVar 6) (mC (.int 0))) mNil)))
  (bSeq (sIf (mOp oEq (mVar 4) (mC (.int 4)))
  (sRet (mOp oAdd (mOp oAdd (mOp oAdd (mSl (mVar 1) pNo (pAt (mOp oAdd (mOp oIx (mVar 6) (mC (.int 1))) (mVar 7)))) (mC (.str (" " : Str)))) (mOp oIx (mVar 6) (mC (.int 0)))) (mSl (mVar 1) (pAt (mOp oAdd (mOp oIx (mVar 6) (mC (.int 1))) (mVar 7))) pNo)))
  bNil)
  (bSeq (sSet 8 (mLst (mCons (mC (.str ("tidy" : Str))) (mCons (mC (.str ("tidy 10001" : Str))) (mCons (mC (.str ("inline 007" : Str))) (mCons (mC (.str ("on" : Str))) (mCons (mC (.str ("until 0" : Str))) (mCons (mC (.str ("until 101 {tidy}" : Str))) (mCons (mC (.str (";" : Str))) (mCons (mC (.str ("on 9a {tidy}" : Str))) (mCons (mC (.str ("tidyx" : Str))) mNil)))))))))))
  (sRet (mOp oAdd (mOp oAdd (mSl (mVar 1) pNo (pAt (mOp oIx (mVar 6) (mC (.int 1))))) (mOp oIx (mVar 8) (mCall F__law_take (mCons (mVar 0) (mCons (mC (.int 9)) mNil))))) (mSl (mVar 1) (pAt (mOp oAdd (mOp oIx (mVar 6) (mC (.int 1))) (mVar 7))) pNo)))))))))))))))
noncomputable def F__law_bent : List D → S → R D := runF 2 9 B__law_bent
theorem cal__law_bent (T : Tx P K mg) (D__law_bent : DefAt K mg "_law_bent" st__law_bent ["_law_draw_here", "_law_text"]) (c__law_take : Cal P w K mg base k 2 "_law_take" F__law_take) (c__law_tokens : Cal P w K mg base k 1 "_law_tokens" F__law_tokens) : Cal P w K mg base (k + 1) 2 "_law_bent" F__law_bent := cal_of D__law_bent sc__law_bent rfl fun f cdv A outer s H E hr =>
  (b_cons (s_set 2 sc__law_bent.nd (d_cal c__law_take hr passC (a_cons (d_var 0) (a_cons (d_add (d_len T.n_len (a_cons (d_var 1) a_nil)) d_int) a_nil)) len_2))
  (b_cons (s_set 3 sc__law_bent.nd (d_idx d_str (d_cal c__law_take hr passC (a_cons (d_var 0) (a_cons d_int a_nil)) len_2)))
  (b_cons (s_set 4 sc__law_bent.nd (d_cal c__law_take hr passC (a_cons (d_var 0) (a_cons d_int a_nil)) len_2))
  (b_cons (s_if (t_cmp (op_eqD hr.units) os_eq (d_var 4) d_int)
  (b_one (s_ret (d_add (d_add (d_sl (d_var 1) p_no (p_at (d_var 2))) (d_var 3)) (d_sl (d_var 1) (p_at (d_var 2)) p_no))))
  b_nil)
  (b_cons (s_if (t_cmp (op_eqD hr.units) os_eq (d_var 4) d_int)
  (b_one (s_ret (d_add (d_add (d_sl (d_var 1) p_no (p_at (d_var 2))) (d_var 3)) (d_sl (d_var 1) (p_at (d_add (d_var 2) d_int)) p_no))))
  b_nil)
  (b_cons (s_if (t_cmp (op_eqD hr.units) os_eq (d_var 4) d_int)
  (b_one (s_ret (d_add (d_sl (d_var 1) p_no (p_at (d_var 2))) (d_sl (d_var 1) (p_at (d_add (d_var 2) d_int)) p_no))))
  b_nil)
  (b_cons (s_if (t_cmp (op_eqD hr.units) os_eq (d_var 4) d_int)
  (b_one (s_ret (d_sl (d_var 1) p_no (p_at (d_var 2)))))
  b_nil)
  (b_cons (s_set 5 sc__law_bent.nd (d_cal c__law_tokens hr passC (a_cons (d_var 1) a_nil) len_1))
  (b_cons (s_set 6 sc__law_bent.nd (d_idx (d_var 5) (d_cal c__law_take hr passC (a_cons (d_var 0) (a_cons (d_len T.n_len (a_cons (d_var 5) a_nil)) a_nil)) len_2)))
  (b_cons (s_set 7 sc__law_bent.nd (d_len T.n_len (a_cons (d_idx (d_var 6) d_int) a_nil)))
  (b_cons (s_if (t_cmp (op_eqD hr.units) os_eq (d_var 4) d_int)
  (b_one (s_ret (d_add (d_add (d_add (d_sl (d_var 1) p_no (p_at (d_add (d_idx (d_var 6) d_int) (d_var 7)))) d_str) (d_idx (d_var 6) d_int)) (d_sl (d_var 1) (p_at (d_add (d_idx (d_var 6) d_int) (d_var 7))) p_no))))
  b_nil)
  (b_cons (s_set 8 sc__law_bent.nd (d_lst (a_cons d_str (a_cons d_str (a_cons d_str (a_cons d_str (a_cons d_str (a_cons d_str (a_cons d_str (a_cons d_str (a_cons d_str a_nil)))))))))))
  (b_one (s_ret (d_add (d_add (d_sl (d_var 1) p_no (p_at (d_idx (d_var 6) d_int))) (d_idx (d_var 8) (d_cal c__law_take hr passC (a_cons (d_var 0) (a_cons d_int a_nil)) len_2))) (d_sl (d_var 1) (p_at (d_add (d_idx (d_var 6) d_int) (d_var 7))) p_no))))))))))))))))
noncomputable def suM__law_deep_ones (C a : Addr) (cls : Value) (d : Option Addr) : B :=
  (sRet (mAnd (mCall (cIsE a cls d C (ansE "ScriptError" "BurnishError")) (mCons (mVar 7) (mCons (mC (.fn ("ScriptError" : Str))) mNil))) (mOp (oIn false) (mAt a cls d C (mVar 7)) (mLst (mCons (mOp oIx (mOp oIx (mVar 5) (mOp oSub (mOp oIx (mVar 6) (mC (.int 8))) (mC (.int 2)))) (mC (.int 1))) (mCons (mOp oIx (mOp oIx (mVar 5) (mOp oIx (mVar 6) (mC (.int 8)))) (mC (.int 1))) mNil))))))
noncomputable def suB__law_deep_ones (d : D) : B :=
  (sRet (mAnd (mC (.bl true)) (mOp (oIn false) (mC d) (mLst (mCons (mOp oIx (mOp oIx (mVar 5) (mOp oSub (mOp oIx (mVar 6) (mC (.int 8))) (mC (.int 2)))) (mC (.int 1))) (mCons (mOp oIx (mOp oIx (mVar 5) (mOp oIx (mVar 6) (mC (.int 8)))) (mC (.int 1))) mNil))))))
theorem same__law_deep_ones {C a dd : Addr} {d : D} : SameB 7 (.exn a C dd "at" d) (suM__law_deep_ones C a (.ref C) (some dd)) (suB__law_deep_ones d) := by
  unfold suM__law_deep_ones suB__law_deep_ones
  repeat first | exact same_c | exact same_var (by decide) | exact same_at | exact same_isE ansE_c | exact same_isE ansE_v | exact same_nil | refine same_ret ?_ | refine same_and ?_ ?_ | refine same_or ?_ ?_ | refine same_not ?_ | refine same_op ?_ ?_ | refine same_cons ?_ ?_ | refine same_lst ?_ | refine same_tup ?_
noncomputable def W__law_deep_ones1  : B :=
  (sSet 1 (mIf (mOp oEq (mCall F__law_take (mCons (mVar 0) (mCons (mC (.int 2)) mNil))) (mC (.int 0))) (mTup (mCons (mTup (mCons (mC (.str ("until" : Str))) (mCons (mOp oAdd (mC (.int 1)) (mVar 2)) (mCons (mVar 1) mNil)))) mNil)) (mTup (mCons (mTup (mCons (mC (.str ("on" : Str))) (mCons (mC (.str ("f" : Str))) (mCons (mVar 1) mNil)))) mNil))))
noncomputable def B__law_deep_ones : B :=
  (bSeq (sIf (mOp oEq (mVar 1) (mTup mNil))
  (sRet (mC (.bl true)))
  bNil)
  (bSeq (sFor (iRng1 (mCons (mOp oSub (mC (.int 8)) (mCall (F__law_depth 12) (mCons (mVar 1) mNil))) mNil)) (gN 2) W__law_deep_ones1)
  (bSeq (sSet 3 (mCall (F__law_show 12) (mCons (mVar 1) mNil)))
  (bSeq (sIf (mOr (mOp oNe (mCall (F_show_script 12) (mCons (mVar 1) mNil)) (mVar 3)) (mNot (mCall F__law_reads (mCons (mVar 3) mNil))))
  (sRet (mC (.bl false)))
  bNil)
  (bSeq (sSet 4 (mOp oAdd (mOp oAdd (mC (.str ("on g {" : Str))) (mVar 3)) (mC (.str ("}" : Str)))))
  (bSeq (sSet 5 (mCall F__law_tokens (mCons (mVar 4) mNil)))
  (bSeq (sSet 6 (mLc (iRng1 (mCons (mCall cLen (mCons (mVar 5) mNil)) mNil)) 2 (mOp oEq (mOp oIx (mOp oIx (mVar 5) (mVar 2)) (mC (.int 0))) (mC (.str ("{" : Str)))) (mVar 2)))
  (bSeq (sIf (mOp oNe (mCall cLen (mCons (mVar 6) mNil)) (mC (.int 9)))
  (sRet (mC (.bl true)))
  bNil)
  (bSeq (sTry 7 (mCall F_read_script (mCons (mVar 4) mNil)) (fun _ ε s => .nx ε s) (suOf "ScriptError" 7 suB__law_deep_ones))
  (sRet (mC (.bl false))))))))))))
noncomputable def F__law_deep_ones : List D → S → R D := runF 2 8 B__law_deep_ones
theorem cal__law_deep_ones (T : Tx P K mg) (D__law_deep_ones : DefAt K mg "_law_deep_ones" st__law_deep_ones ["_law_draw_here", "_law_items_here"]) {C CB : Addr} (S : ErrS K mg "ScriptError" "BurnishError" C CB) (c_read_script : Cal P w K mg base k 1 "read_script" F_read_script) (c__law_tokens : Cal P w K mg base k 1 "_law_tokens" F__law_tokens) (c__law_reads : Cal P w K mg base k 1 "_law_reads" F__law_reads) (c_show_script : Cal P w K mg base k 1 "show_script" (F_show_script 12)) (c__law_show : Cal P w K mg base k 1 "_law_show" (F__law_show 12)) (c__law_depth : Cal P w K mg base k 1 "_law_depth" (F__law_depth 12)) (c__law_take : Cal P w K mg base k 2 "_law_take" F__law_take) : Cal P w K mg base (k + 1) 2 "_law_deep_ones" F__law_deep_ones := cal_of D__law_deep_ones sc__law_deep_ones rfl fun f cdv A outer s H E hr =>
  (b_cons (s_if (t_cmp (op_eqD hr.units) os_eq (d_var 1) (d_tup a_nil))
  (b_one (s_ret d_bl))
  b_nil)
  (b_cons (s_for ownC rfl (i_rng1 T.n_range (a_cons (d_sub d_int (d_cal c__law_depth hr passC (a_cons (d_var 1) a_nil) len_1)) a_nil)) (g_name 2 sc__law_deep_ones.nd)
  (b_one (s_set 1 sc__law_deep_ones.nd (d_if (t_cmp (op_eqD hr.units) os_eq (d_cal c__law_take hr passC (a_cons (d_var 0) (a_cons d_int a_nil)) len_2) d_int) (d_tup (a_cons (d_tup (a_cons d_str (a_cons (d_add d_int (d_var 2)) (a_cons (d_var 1) a_nil)))) a_nil)) (d_tup (a_cons (d_tup (a_cons d_str (a_cons d_str (a_cons (d_var 1) a_nil)))) a_nil))))))
  (b_cons (s_set 3 sc__law_deep_ones.nd (d_cal c__law_show hr passC (a_cons (d_var 1) a_nil) len_1))
  (b_cons (s_if (t_w (t_or (t_cmp (op_neD hr.units) os_ne (d_cal c_show_script hr passC (a_cons (d_var 1) a_nil) len_1) (d_var 3)) (t_or1 (t_not (t_val (d_cal c__law_reads hr passC (a_cons (d_var 3) a_nil) len_1))))))
  (b_one (s_ret d_bl))
  b_nil)
  (b_cons (s_set 4 sc__law_deep_ones.nd (d_add (d_add d_str (d_var 3)) d_str))
  (b_cons (s_set 5 sc__law_deep_ones.nd (d_cal c__law_tokens hr passC (a_cons (d_var 4) a_nil) len_1))
  (b_cons (s_lcIf (i := 2) (j := 6) rfl sc__law_deep_ones.nd (i_rng1 T.n_range (a_cons (d_len T.n_len (a_cons (d_var 5) a_nil)) a_nil)) (show blkC ["_law_draw_here", "_law_items_here", "_law_k", "_law_text", "_law_deeper", "_law_tokens_here", "_law_braces", "e"] (defScope st__law_deep_ones) _ [("_law_k", 2)] = true from by decide +kernel) (fun _ _ _ _ _ => pg_name (i := 2) sc__law_deep_ones.nd rfl (Or.inl rfl)) (fun _ _ _ _ _ => (t_cmp (op_eqD hr.units) os_eq (d_idx (d_idx (d_var 5) (d_var 2)) d_int) d_str)) (fun _ _ _ _ _ => (d_var 2)) rfl rfl rfl)
  (b_cons (s_if (t_cmp (op_neD hr.units) os_ne (d_len T.n_len (a_cons (d_var 6) a_nil)) d_int)
  (b_one (s_ret d_bl))
  b_nil)
  (b_cons (s_tryE rfl rfl sc__law_deep_ones.nd rfl rfl (names_of S.mB)
  (fun W pn xe tk po => d_calS c_read_script hr tk (a_cons (d_var 4) a_nil) len_1 (ne_var ne_nil))
  (fun a oe cls d pn hz hf => b_one (s_ret (d_and (d_isE S hz hf (a_cons (d_var 7) (a_cons (d_gfn' T.f_ScriptError) a_nil))) (d_one (d_cmp or_in os_in (d_ate S hz hf (d_var 7)) (d_lst (a_cons (d_idx (d_idx (d_var 5) (d_sub (d_idx (d_var 6) d_int) d_int)) d_int) (a_cons (d_idx (d_idx (d_var 5) (d_idx (d_var 6) d_int)) d_int) a_nil))))))))
  (su_of (suM := suM__law_deep_ones) S fun a dd d => same__law_deep_ones))
  (b_one (s_ret d_bl)))))))))))
noncomputable def W_law1  : B :=
  (sIf (mNot (mCall F__law_reads (mCons (mCall F__law_bent (mCons (mVar 1) (mCons (mVar 4) mNil))) mNil)))
  (sRet (mC (.bl false)))
  bNil)
noncomputable def W_law2  : B :=
  (sSet 5 (mOp oAdd (mOp oAdd (mVar 5) (mOp oIx (mLst (mCons (mC (.str (" " : Str))) (mCons (mC (.str ("\n" : Str))) (mCons (mC (.str ("  \n " : Str))) mNil)))) (mCall F__law_take (mCons (mVar 1) (mCons (mC (.int 3)) mNil))))) (mOp oIx (mVar 6) (mC (.int 0)))))
noncomputable def W_law3  : B :=
  (sSet 2 (mIf (mOp oEq (mCall F__law_take (mCons (mVar 1) (mCons (mC (.int 2)) mNil))) (mC (.int 0))) (mTup (mCons (mTup (mCons (mC (.str ("until" : Str))) (mCons (mOp oAdd (mC (.int 1)) (mVar 3)) (mCons (mVar 2) mNil)))) mNil)) (mTup (mCons (mTup (mCons (mC (.str ("on" : Str))) (mCons (mC (.str ("f" : Str))) (mCons (mVar 2) mNil)))) (mCons (mTup (mCons (mC (.str ("pass" : Str))) (mCons (mC (.str ("drop" : Str))) (mCons (mVar 3) mNil)))) mNil)))))
noncomputable def B_law : B :=
  (bSeq (sSet 1 (mCall F__law_draw (mCons (mVar 0) mNil)))
  (bSeq (sIf (mOp oNe (mC (.tup (List.map D.str gs_PASSES))) (mCall cTuple (mCons (mCall F__law_words mNil) mNil)))
  (sRet (mC (.bl false)))
  bNil)
  (bSeq (sSet 2 (mIf (mOp oGt (mCall F__law_take (mCons (mVar 1) (mCons (mC (.int 12)) mNil))) (mC (.int 0))) (mCall (F__law_items 6) (mCons (mVar 1) (mCons (mCall F__law_take (mCons (mVar 1) (mCons (mC (.int 4)) mNil))) mNil))) (mTup mNil)))
  (bSeq (sIf (mAnd (mOp oEq (mCall F__law_take (mCons (mVar 1) (mCons (mC (.int 3)) mNil))) (mC (.int 0))) (mOp oNe (mVar 2) (mTup mNil)))
  (sFor (iRng1 (mCons (mOp oIx (mLst (mCons (mC (.int 1)) (mCons (mC (.int 2)) (mCons (mC (.int 3)) (mCons (mC (.int 3)) mNil))))) (mCall F__law_take (mCons (mVar 1) (mCons (mC (.int 4)) mNil)))) mNil)) (gN 3) W_law3)
  bNil)
  (bSeq (sSet 4 (mCall (F__law_show 12) (mCons (mVar 2) mNil)))
  (bSeq (sIf (mOr (mOp oNe (mCall (F_show_script 12) (mCons (mVar 2) mNil)) (mVar 4)) (mNot (mCall F__law_reads (mCons (mVar 4) mNil))))
  (sRet (mC (.bl false)))
  bNil)
  (bSeq (sSet 5 (mC (.str ("" : Str))))
  (bSeq (sFor (iSeq (mCall F__law_tokens (mCons (mVar 4) mNil))) (gN 6) W_law2)
  (bSeq (sIf (mNot (mCall F__law_reads (mCons (mVar 5) mNil)))
  (sRet (mC (.bl false)))
  bNil)
  (bSeq (sFor (iRng1 (mCons (mC (.int 4)) mNil)) (gN 3) W_law1)
  (sRet (mCall F__law_deep_ones (mCons (mVar 1) (mCons (mVar 2) mNil))))))))))))))
noncomputable def F_law : List D → S → R D := runF 1 7 B_law
theorem ok_law {f : Addr} {fd : FuncData} (T : Tx P K mg) (D : Fun K "law" "law" st_law f fd) (c__law_deep_ones : Cal P w K mg base k 2 "_law_deep_ones" F__law_deep_ones) (c__law_reads : Cal P w K mg base k 1 "_law_reads" F__law_reads) (c__law_bent : Cal P w K mg base k 2 "_law_bent" F__law_bent) (c__law_tokens : Cal P w K mg base k 1 "_law_tokens" F__law_tokens) (c__law_take : Cal P w K mg base k 2 "_law_take" F__law_take) (c_show_script : Cal P w K mg base k 1 "show_script" (F_show_script 12)) (c__law_show : Cal P w K mg base k 1 "_law_show" (F__law_show 12)) (c__law_items : Cal P w K mg base k 2 "_law_items" (F__law_items 6)) (c__law_words : Cal P w K mg base k 0 "_law_words" F__law_words) (c__law_draw : Cal P w K mg base k 1 "_law_draw" F__law_draw) : FnOk P w K mg base (L2.CX P w) (k + 1) f fd ["_law_script"] (spF K mg 1 F_law) := fnok_of D sc_law rfl fun f cdv A outer s H E hr =>
  (b_cons (s_set 1 sc_law.nd (d_cal c__law_draw hr passC (a_cons (d_var 0) a_nil) len_1))
  (b_cons (s_if (t_cmp (op_neD hr.units) os_ne (d_gtup T.g_PASSES) (d_tuple1 T.n_tuple (a_cons (d_cal0 c__law_words hr passC) a_nil)))
  (b_one (s_ret d_bl))
  b_nil)
  (b_cons (s_set 2 sc_law.nd (d_if (t_cmp op_gt os_gt (d_cal c__law_take hr passC (a_cons (d_var 1) (a_cons d_int a_nil)) len_2) d_int) (d_cal c__law_items hr passC (a_cons (d_var 1) (a_cons (d_cal c__law_take hr passC (a_cons (d_var 1) (a_cons d_int a_nil)) len_2) a_nil)) len_2) (d_tup a_nil)))
  (b_cons (s_if (t_w (t_and (t_cmp (op_eqD hr.units) os_eq (d_cal c__law_take hr passC (a_cons (d_var 1) (a_cons d_int a_nil)) len_2) d_int) (t_and1 (t_cmp (op_neD hr.units) os_ne (d_var 2) (d_tup a_nil)))))
  (b_one (s_for ownC rfl (i_rng1 T.n_range (a_cons (d_idx (d_lst (a_cons d_int (a_cons d_int (a_cons d_int (a_cons d_int a_nil))))) (d_cal c__law_take hr passC (a_cons (d_var 1) (a_cons d_int a_nil)) len_2)) a_nil)) (g_name 3 sc_law.nd)
  (b_one (s_set 2 sc_law.nd (d_if (t_cmp (op_eqD hr.units) os_eq (d_cal c__law_take hr passC (a_cons (d_var 1) (a_cons d_int a_nil)) len_2) d_int) (d_tup (a_cons (d_tup (a_cons d_str (a_cons (d_add d_int (d_var 3)) (a_cons (d_var 2) a_nil)))) a_nil)) (d_tup (a_cons (d_tup (a_cons d_str (a_cons d_str (a_cons (d_var 2) a_nil)))) (a_cons (d_tup (a_cons d_str (a_cons d_str (a_cons (d_var 3) a_nil)))) a_nil))))))))
  b_nil)
  (b_cons (s_set 4 sc_law.nd (d_cal c__law_show hr passC (a_cons (d_var 2) a_nil) len_1))
  (b_cons (s_if (t_w (t_or (t_cmp (op_neD hr.units) os_ne (d_cal c_show_script hr passC (a_cons (d_var 2) a_nil) len_1) (d_var 4)) (t_or1 (t_not (t_val (d_cal c__law_reads hr passC (a_cons (d_var 4) a_nil) len_1))))))
  (b_one (s_ret d_bl))
  b_nil)
  (b_cons (s_set 5 sc_law.nd d_str)
  (b_cons (s_for ownC rfl (i_seq (d_cal c__law_tokens hr passC (a_cons (d_var 4) a_nil) len_1)) (g_name 6 sc_law.nd)
  (b_one (s_set 5 sc_law.nd (d_add (d_add (d_var 5) (d_idx (d_lst (a_cons d_str (a_cons d_str (a_cons d_str a_nil)))) (d_cal c__law_take hr passC (a_cons (d_var 1) (a_cons d_int a_nil)) len_2))) (d_idx (d_var 6) d_int)))))
  (b_cons (s_if (t_not (t_val (d_cal c__law_reads hr passC (a_cons (d_var 5) a_nil) len_1)))
  (b_one (s_ret d_bl))
  b_nil)
  (b_cons (s_for ownC rfl (i_rng1 T.n_range (a_cons d_int a_nil)) (g_name 3 sc_law.nd)
  (b_one (s_if (t_not (t_val (d_cal c__law_reads hr passC (a_cons (d_cal c__law_bent hr passC (a_cons (d_var 1) (a_cons (d_var 4) a_nil)) len_2) a_nil) len_1)))
  (b_one (s_ret d_bl))
  b_nil)))
  (b_one (s_ret (d_cal c__law_deep_ones hr passC (a_cons (d_var 1) (a_cons (d_var 2) a_nil)) len_2)))))))))))))
end
/-! ### the top, and the end -/
theorem top_ok {P : Program} {w : World} {K : PySem.W.Frag} {h : Heap} {mg : Str → Option Value} (X : K.In h) (G : h.Ns mainGlobals mg)
    (D_show_item : DefIs K "show_item" st_show_item)
    (D_show_script : DefIs K "show_script" st_show_script)
    (D_is_word_sign : DefIs K "is_word_sign" st_is_word_sign)
    (D_script_tokens : DefIs K "script_tokens" st_script_tokens)
    (D_ScriptReader___init__ : MethIs K "ScriptReader" "__init__" "ScriptReader.__init__" st_ScriptReader___init__)
    (D_ScriptReader_here : MethIs K "ScriptReader" "here" "ScriptReader.here" st_ScriptReader_here)
    (D_ScriptReader_offset : MethIs K "ScriptReader" "offset" "ScriptReader.offset" st_ScriptReader_offset)
    (D_ScriptReader_accept : MethIs K "ScriptReader" "accept" "ScriptReader.accept" st_ScriptReader_accept)
    (D_ScriptReader_read_number : MethIs K "ScriptReader" "read_number" "ScriptReader.read_number" st_ScriptReader_read_number)
    (D_ScriptReader_read_items : MethIs K "ScriptReader" "read_items" "ScriptReader.read_items" st_ScriptReader_read_items)
    (D_ScriptReader_read_group : MethIs K "ScriptReader" "read_group" "ScriptReader.read_group" st_ScriptReader_read_group)
    (D_ScriptReader_read_item : MethIs K "ScriptReader" "read_item" "ScriptReader.read_item" st_ScriptReader_read_item)
    (D_read_script : DefIs K "read_script" st_read_script)
    (D__law_draw : DefIs K "_law_draw" st__law_draw)
    (D__law_take : DefIs K "_law_take" st__law_take)
    (D__law_words : DefIs K "_law_words" st__law_words)
    (D__law_name : DefIs K "_law_name" st__law_name)
    (D__law_items : DefIs K "_law_items" st__law_items)
    (D__law_show : DefIs K "_law_show" st__law_show)
    (D__law_depth : DefIs K "_law_depth" st__law_depth)
    (D__law_tokens : DefIs K "_law_tokens" st__law_tokens)
    (D__law_number : DefIs K "_law_number" st__law_number)
    (D__law_read_item : DefIs K "_law_read_item" st__law_read_item)
    (D__law_read_items : DefIs K "_law_read_items" st__law_read_items)
    (D__law_due : DefIs K "_law_due" st__law_due)
    (D__law_reads : DefIs K "_law_reads" st__law_reads)
    (D__law_bent : DefIs K "_law_bent" st__law_bent)
    (D__law_deep_ones : DefIs K "_law_deep_ones" st__law_deep_ones)
    (D_law : DefIs K "law" st_law)
    (K_ScriptReader : ∃ C, ClsIs K "ScriptReader" C)
    (fld_ScriptReader_at : FldIs K "ScriptReader" "at")
    (fld_ScriptReader_last : FldIs K "ScriptReader" "last")
    (fld_ScriptReader_tokens : FldIs K "ScriptReader" "tokens")
    (n_ValueError : PySem.W.nsIn K mainGlobals "ValueError" = some none)
    (n_abs : PySem.W.nsIn K mainGlobals "abs" = some none)
    (n_int : PySem.W.nsIn K mainGlobals "int" = some none)
    (n_isinstance : PySem.W.nsIn K mainGlobals "isinstance" = some none)
    (n_len : PySem.W.nsIn K mainGlobals "len" = some none)
    (n_max : PySem.W.nsIn K mainGlobals "max" = some none)
    (n_range : PySem.W.nsIn K mainGlobals "range" = some none)
    (n_str : PySem.W.nsIn K mainGlobals "str" = some none)
    (n_tuple : PySem.W.nsIn K mainGlobals "tuple" = some none)
    {t_DEEPEST : Tok} (g_DEEPEST : PySem.W.nsIn K mainGlobals "DEEPEST" = some (some (.int 8 t_DEEPEST)))
    {t_MOST_AMOUNT : Tok} (g_MOST_AMOUNT : PySem.W.nsIn K mainGlobals "MOST_AMOUNT" = some (some (.int 10000 t_MOST_AMOUNT)))
    {t_MOST_TIMES : Tok} (g_MOST_TIMES : PySem.W.nsIn K mainGlobals "MOST_TIMES" = some (some (.int 100 t_MOST_TIMES)))
    (g_PASSES : GTupIs K "PASSES" gs_PASSES)
    (r_ScriptError : Rs P K mg "ScriptError")
    {C CB : Addr} (S : ErrS K mg "ScriptError" "BurnishError" C CB) :
    ∀ fa, mg "law" = some (.ref fa) → ∃ fd : FuncData, (∀ (s : Shared) (u : Value), BindsTo s fd ⟨[u], []⟩ [("_law_script", u)]) ∧ ∀ base : Heap, K.In base → base.Ns mainGlobals mg → FnOk P w K mg base (L2.CX P w) 44 fa fd ["_law_script"] (spF K mg 1 F_law) := by
  refine law_at D_law X G (fun _ _ _ _ _ _ _ _ => .of_eq rfl) fun f fd hm F base _ _ => ?_
  obtain ⟨KA_ScriptReader, K_ScriptReader⟩ := K_ScriptReader
  have A_show_item : DefAt K mg "show_item" st_show_item ["item"] := D_show_item.at X G (fun _ _ _ _ _ _ us hl => match us, hl with | [_], _ => rfl)
  have A_show_script : DefAt K mg "show_script" st_show_script ["script"] := D_show_script.at X G (fun _ _ _ _ _ _ us hl => match us, hl with | [_], _ => rfl)
  have A_is_word_sign : DefAt K mg "is_word_sign" st_is_word_sign ["sign"] := D_is_word_sign.at X G (fun _ _ _ _ _ _ us hl => match us, hl with | [_], _ => rfl)
  have A_script_tokens : DefAt K mg "script_tokens" st_script_tokens ["text"] := D_script_tokens.at X G (fun _ _ _ _ _ _ us hl => match us, hl with | [_], _ => rfl)
  have A_ScriptReader___init__ : InitAt K mg "ScriptReader" "ScriptReader.__init__" st_ScriptReader___init__ ["self", "text"] := D_ScriptReader___init__.init K_ScriptReader X G (fun _ _ _ _ _ _ us hl => match us, hl with | [_, _], _ => rfl)
  have A_ScriptReader_here : MethAt K mg "ScriptReader" "here" "ScriptReader.here" st_ScriptReader_here ["self"] := D_ScriptReader_here.at K_ScriptReader X G (fun _ _ _ _ _ _ us hl => match us, hl with | [_], _ => rfl)
  have A_ScriptReader_offset : MethAt K mg "ScriptReader" "offset" "ScriptReader.offset" st_ScriptReader_offset ["self"] := D_ScriptReader_offset.at K_ScriptReader X G (fun _ _ _ _ _ _ us hl => match us, hl with | [_], _ => rfl)
  have A_ScriptReader_accept : MethAt K mg "ScriptReader" "accept" "ScriptReader.accept" st_ScriptReader_accept ["self", "allowed"] := D_ScriptReader_accept.at K_ScriptReader X G (fun _ _ _ _ _ _ us hl => match us, hl with | [_, _], _ => rfl)
  have A_ScriptReader_read_number : MethAt K mg "ScriptReader" "read_number" "ScriptReader.read_number" st_ScriptReader_read_number ["self", "low", "high"] := D_ScriptReader_read_number.at K_ScriptReader X G (fun _ _ _ _ _ _ us hl => match us, hl with | [_, _, _], _ => rfl)
  have A_ScriptReader_read_items : MethAt K mg "ScriptReader" "read_items" "ScriptReader.read_items" st_ScriptReader_read_items ["self", "depth"] := D_ScriptReader_read_items.at K_ScriptReader X G (fun _ _ _ _ _ _ us hl => match us, hl with | [_, _], _ => rfl)
  have A_ScriptReader_read_group : MethAt K mg "ScriptReader" "read_group" "ScriptReader.read_group" st_ScriptReader_read_group ["self", "depth"] := D_ScriptReader_read_group.at K_ScriptReader X G (fun _ _ _ _ _ _ us hl => match us, hl with | [_, _], _ => rfl)
  have A_ScriptReader_read_item : MethAt K mg "ScriptReader" "read_item" "ScriptReader.read_item" st_ScriptReader_read_item ["self", "depth"] := D_ScriptReader_read_item.at K_ScriptReader X G (fun _ _ _ _ _ _ us hl => match us, hl with | [_, _], _ => rfl)
  have A_read_script : DefAt K mg "read_script" st_read_script ["text"] := D_read_script.at X G (fun _ _ _ _ _ _ us hl => match us, hl with | [_], _ => rfl)
  have A__law_draw : DefAt K mg "_law_draw" st__law_draw ["_law_script"] := D__law_draw.at X G (fun _ _ _ _ _ _ us hl => match us, hl with | [_], _ => rfl)
  have A__law_take : DefAt K mg "_law_take" st__law_take ["_law_draw_here", "_law_many"] := D__law_take.at X G (fun _ _ _ _ _ _ us hl => match us, hl with | [_, _], _ => rfl)
  have A__law_words : DefAt K mg "_law_words" st__law_words [] := D__law_words.at X G (fun _ _ _ _ _ _ us hl => match us, hl with | [], _ => rfl)
  have A__law_name : DefAt K mg "_law_name" st__law_name ["_law_draw_here"] := D__law_name.at X G (fun _ _ _ _ _ _ us hl => match us, hl with | [_], _ => rfl)
  have A__law_items : DefAt K mg "_law_items" st__law_items ["_law_draw_here", "_law_depth_here"] := D__law_items.at X G (fun _ _ _ _ _ _ us hl => match us, hl with | [_, _], _ => rfl)
  have A__law_show : DefAt K mg "_law_show" st__law_show ["_law_items_here"] := D__law_show.at X G (fun _ _ _ _ _ _ us hl => match us, hl with | [_], _ => rfl)
  have A__law_depth : DefAt K mg "_law_depth" st__law_depth ["_law_items_here"] := D__law_depth.at X G (fun _ _ _ _ _ _ us hl => match us, hl with | [_], _ => rfl)
  have A__law_tokens : DefAt K mg "_law_tokens" st__law_tokens ["_law_text"] := D__law_tokens.at X G (fun _ _ _ _ _ _ us hl => match us, hl with | [_], _ => rfl)
  have A__law_number : DefAt K mg "_law_number" st__law_number ["_law_token", "_law_low", "_law_high"] := D__law_number.at X G (fun _ _ _ _ _ _ us hl => match us, hl with | [_, _, _], _ => rfl)
  have A__law_read_item : DefAt K mg "_law_read_item" st__law_read_item ["_law_tokens_here", "_law_at", "_law_depth_here"] := D__law_read_item.at X G (fun _ _ _ _ _ _ us hl => match us, hl with | [_, _, _], _ => rfl)
  have A__law_read_items : DefAt K mg "_law_read_items" st__law_read_items ["_law_tokens_here", "_law_at", "_law_depth_here"] := D__law_read_items.at X G (fun _ _ _ _ _ _ us hl => match us, hl with | [_, _, _], _ => rfl)
  have A__law_due : DefAt K mg "_law_due" st__law_due ["_law_text"] := D__law_due.at X G (fun _ _ _ _ _ _ us hl => match us, hl with | [_], _ => rfl)
  have A__law_reads : DefAt K mg "_law_reads" st__law_reads ["_law_text"] := D__law_reads.at X G (fun _ _ _ _ _ _ us hl => match us, hl with | [_], _ => rfl)
  have A__law_bent : DefAt K mg "_law_bent" st__law_bent ["_law_draw_here", "_law_text"] := D__law_bent.at X G (fun _ _ _ _ _ _ us hl => match us, hl with | [_, _], _ => rfl)
  have A__law_deep_ones : DefAt K mg "_law_deep_ones" st__law_deep_ones ["_law_draw_here", "_law_items_here"] := D__law_deep_ones.at X G (fun _ _ _ _ _ _ us hl => match us, hl with | [_, _], _ => rfl)
  have T : Tx P K mg := {
    n_ValueError := PySem.W.mg_none_of X G n_ValueError,
    n_abs := PySem.W.mg_none_of X G n_abs,
    n_int := PySem.W.mg_none_of X G n_int,
    n_isinstance := PySem.W.mg_none_of X G n_isinstance,
    n_len := PySem.W.mg_none_of X G n_len,
    n_max := PySem.W.mg_none_of X G n_max,
    n_range := PySem.W.mg_none_of X G n_range,
    n_str := PySem.W.mg_none_of X G n_str,
    n_tuple := PySem.W.mg_none_of X G n_tuple,
    g_DEEPEST := ⟨t_DEEPEST, PySem.W.mg_of X G g_DEEPEST⟩,
    g_MOST_AMOUNT := ⟨t_MOST_AMOUNT, PySem.W.mg_of X G g_MOST_AMOUNT⟩,
    g_MOST_TIMES := ⟨t_MOST_TIMES, PySem.W.mg_of X G g_MOST_TIMES⟩,
    g_PASSES := g_PASSES.at X G,
    f_ScriptError := let ⟨C, _, hm, _⟩ := r_ScriptError; ⟨C, hm⟩,
    r_ScriptError := r_ScriptError,
    fld_ScriptReader_at := fld_ScriptReader_at.at K_ScriptReader X G,
    fld_ScriptReader_last := fld_ScriptReader_last.at K_ScriptReader X G,
    fld_ScriptReader_tokens := fld_ScriptReader_tokens.at K_ScriptReader X G }
  have Q_show_script : Cal P w K mg base 25 1 "show_script" (F_show_script 12) := cal_show_script (k := 0) T A_show_script A_show_item  12
  have Q_is_word_sign : Cal P w K mg base 1 1 "is_word_sign" F_is_word_sign := cal_is_word_sign (k := 0) T  A_is_word_sign 
  have Q_script_tokens : Cal P w K mg base 2 1 "script_tokens" F_script_tokens := cal_script_tokens (k := 1) T  A_script_tokens (Q_is_word_sign.mono (by decide))
  have Q_ScriptReader___init__ : CalI1 P w K mg base 4 2 "ScriptReader" F_ScriptReader___init__ := cal_ScriptReader___init__ (k := 2) T  A_ScriptReader___init__ (Q_script_tokens.mono (by decide))
  have Q_ScriptReader_here : CalM P w K mg base 1 1 "ScriptReader" "here" F_ScriptReader_here := cal_ScriptReader_here (k := 0) T  A_ScriptReader_here 
  have Q_ScriptReader_offset : CalM P w K mg base 1 1 "ScriptReader" "offset" F_ScriptReader_offset := cal_ScriptReader_offset (k := 0) T  A_ScriptReader_offset 
  have Q_ScriptReader_accept : CalM P w K mg base 2 2 "ScriptReader" "accept" F_ScriptReader_accept := cal_ScriptReader_accept (k := 1) T  A_ScriptReader_accept (Q_ScriptReader_here.mono (by decide)) (Q_ScriptReader_offset.mono (by decide))
  have Q_ScriptReader_read_number : CalM P w K mg base 3 3 "ScriptReader" "read_number" F_ScriptReader_read_number := cal_ScriptReader_read_number (k := 2) T  A_ScriptReader_read_number (Q_ScriptReader_accept.mono (by decide)) (Q_ScriptReader_here.mono (by decide))
  have Q_ScriptReader_read_items : CalM P w K mg base 40 2 "ScriptReader" "read_items" (F_ScriptReader_read_items 12) := cal_ScriptReader_read_items (k := 3) T A_ScriptReader_read_items A_ScriptReader_read_item A_ScriptReader_read_group (Q_ScriptReader_here.mono (by decide)) (Q_ScriptReader_accept.mono (by decide)) (Q_ScriptReader_read_number.mono (by decide)) 12
  have Q_read_script : Cal P w K mg base 41 1 "read_script" F_read_script := cal_read_script (k := 40) T  A_read_script (Q_ScriptReader_accept.mono (by decide)) (Q_ScriptReader_here.mono (by decide)) (Q_ScriptReader_read_items.mono (by decide)) (Q_ScriptReader___init__.mono (by decide))
  have Q__law_draw : Cal P w K mg base 1 1 "_law_draw" F__law_draw := cal__law_draw (k := 0) T  A__law_draw 
  have Q__law_take : Cal P w K mg base 1 2 "_law_take" F__law_take := cal__law_take (k := 0) T  A__law_take 
  have Q__law_words : Cal P w K mg base 1 0 "_law_words" F__law_words := cal__law_words (k := 0) T  A__law_words 
  have Q__law_name : Cal P w K mg base 2 1 "_law_name" F__law_name := cal__law_name (k := 1) T  A__law_name (Q__law_take.mono (by decide))
  have Q__law_items : Cal P w K mg base 9 2 "_law_items" (F__law_items 6) := cal__law_items (k := 2) T A__law_items (Q__law_take.mono (by decide)) (Q__law_words.mono (by decide)) (Q__law_name.mono (by decide)) 6
  have Q__law_show : Cal P w K mg base 13 1 "_law_show" (F__law_show 12) := cal__law_show (k := 0) T A__law_show  12
  have Q__law_depth : Cal P w K mg base 13 1 "_law_depth" (F__law_depth 12) := cal__law_depth (k := 0) T A__law_depth  12
  have Q__law_tokens : Cal P w K mg base 1 1 "_law_tokens" F__law_tokens := cal__law_tokens (k := 0) T  A__law_tokens 
  have Q__law_number : Cal P w K mg base 1 3 "_law_number" F__law_number := cal__law_number (k := 0) T  A__law_number 
  have Q__law_read_items : Cal P w K mg base 26 3 "_law_read_items" (F__law_read_items 12) := cal__law_read_items (k := 1) T A__law_read_items A__law_read_item (Q__law_number.mono (by decide)) (Q__law_words.mono (by decide)) 12
  have Q__law_due : Cal P w K mg base 27 1 "_law_due" F__law_due := cal__law_due (k := 26) T  A__law_due (Q__law_read_items.mono (by decide)) (Q__law_tokens.mono (by decide))
  have Q__law_reads : Cal P w K mg base 42 1 "_law_reads" F__law_reads := cal__law_reads (k := 41) T  A__law_reads S (Q_read_script.mono (by decide)) (Q__law_due.mono (by decide))
  have Q__law_bent : Cal P w K mg base 2 2 "_law_bent" F__law_bent := cal__law_bent (k := 1) T  A__law_bent (Q__law_take.mono (by decide)) (Q__law_tokens.mono (by decide))
  have Q__law_deep_ones : Cal P w K mg base 43 2 "_law_deep_ones" F__law_deep_ones := cal__law_deep_ones (k := 42) T  A__law_deep_ones S (Q_read_script.mono (by decide)) (Q__law_tokens.mono (by decide)) (Q__law_reads.mono (by decide)) (Q_show_script.mono (by decide)) (Q__law_show.mono (by decide)) (Q__law_depth.mono (by decide)) (Q__law_take.mono (by decide))
  exact ok_law (k := 43) T F (Q__law_deep_ones.mono (by decide)) (Q__law_reads.mono (by decide)) (Q__law_bent.mono (by decide)) (Q__law_tokens.mono (by decide)) (Q__law_take.mono (by decide)) (Q_show_script.mono (by decide)) (Q__law_show.mono (by decide)) (Q__law_items.mono (by decide)) (Q__law_words.mono (by decide)) (Q__law_draw.mono (by decide))
end G83
end Mi

namespace Mi
namespace G83
open PySem PySem.Spec PyProof.Rows L2

/-! ### the draw -/
structure DrawOk (a b : Nat) (s : S) : Prop where
  ex : ∃ (cells : List Int) (i v seed : Int), s[a]? = some (C.lst [.ref b, .int i, .int v, .int seed]) ∧ s[b]? = some (C.lst (cells.map D.int)) ∧ a ≠ b ∧ (∀ x ∈ cells, 0 ≤ x) ∧ -1 ≤ i ∧ 0 ≤ v ∧ 0 ≤ seed ∧ seed < 2147483647
structure Dw (a b : Nat) (s t : S) : Prop where
  keep : ∀ (r : Nat) (c : C), r ≠ a → s[r]? = some c → t[r]? = some c
  ok : DrawOk a b t
theorem Dw.trans {a b : Nat} {s t u : S} (x : Dw a b s t) (y : Dw a b t u) : Dw a b s u := ⟨fun r c h e => y.keep r c h (x.keep r c h e), y.ok⟩
theorem DrawOk.pre {a b : Nat} {s t : S} (h : DrawOk a b s) (p : Pre s t) : DrawOk a b t := by
  obtain ⟨cells, i, v, seed, h1, h2, h3⟩ := h.ex
  exact ⟨cells, i, v, seed, p _ _ h1, p _ _ h2, h3⟩
theorem Dw.pre {a b : Nat} {s t u : S} (x : Dw a b s t) (p : Pre t u) : Dw a b s u := ⟨fun r c h e => p r c (x.keep r c h e), x.ok.pre p⟩
theorem Dw.of {a b : Nat} {s t : S} (h : DrawOk a b s) (p : Pre s t) : Dw a b s t := ⟨fun r c _ e => p r c e, h.pre p⟩
theorem DrawOk.lt {a b : Nat} {s : S} (h : DrawOk a b s) : a < s.length := by
  obtain ⟨cells, i, v, seed, h1, _⟩ := h.ex
  exact lt_of_get h1
section
variable {a : Nat} {s : S} {w x y z d : D}
theorem q0 (h : s[a]? = some (C.lst [w, x, y, z])) : oIx (.ref a) (.int 0) s = .ok w s := oIx_lst h rfl
theorem q1 (h : s[a]? = some (C.lst [w, x, y, z])) : oIx (.ref a) (.int 1) s = .ok x s := oIx_lst h rfl
theorem q2 (h : s[a]? = some (C.lst [w, x, y, z])) : oIx (.ref a) (.int 2) s = .ok y s := oIx_lst h rfl
theorem q3 (h : s[a]? = some (C.lst [w, x, y, z])) : oIx (.ref a) (.int 3) s = .ok z s := oIx_lst h rfl
theorem p1 (h : s[a]? = some (C.lst [w, x, y, z])) : setAt (.ref a) (.int 1) d s = some (s.set a (C.lst [w, d, y, z])) := setAt_of (i := 1) (j := 1) h rfl
theorem p2 (h : s[a]? = some (C.lst [w, x, y, z])) : setAt (.ref a) (.int 2) d s = some (s.set a (C.lst [w, x, d, z])) := setAt_of (i := 2) (j := 2) h rfl
theorem p3 (h : s[a]? = some (C.lst [w, x, y, z])) : setAt (.ref a) (.int 3) d s = some (s.set a (C.lst [w, x, y, d])) := setAt_of (i := 3) (j := 3) h rfl
end
theorem dw_set {a b : Nat} {s : S} {cells : List Int} {i v seed : Int} {c : C} (ha : s[a]? = some c) (hb : s[b]? = some (C.lst (cells.map D.int))) (hab : a ≠ b) (hc : ∀ x ∈ cells, 0 ≤ x) (hi : -1 ≤ i) (hv : 0 ≤ v) (h0 : 0 ≤ seed) (h1 : seed < 2147483647) :
    Dw a b s (s.set a (C.lst [.ref b, .int i, .int v, .int seed])) :=
  ⟨fun r c hr e => by rw [set_get, if_neg (Ne.symm hr)]; exact e, ⟨cells, i, v, seed, set_at ha, by rw [set_get, if_neg hab]; exact hb, hab, hc, hi, hv, h0, h1⟩⟩
noncomputable def restK : B := (bSeq (sSet 2 (mOp oMod (mCall cInt2 (mCons (mOp oIx (mVar 0) (mC (.int 2))) mNil)) (mVar 1)))
  (bSeq (sSub (mOp oFdiv (mOp oIx (mVar 0) (mC (.int 2))) (mVar 1)) (mVar 0) (mC (.int 2)))
  (sRet (mVar 2))))
theorem take_rest {a b : Nat} {s : S} {cells : List Int} {i v seed m : Int} {o : Option D} (ha : s[a]? = some (C.lst [.ref b, .int i, .int v, .int seed])) (hb : s[b]? = some (C.lst (cells.map D.int))) (hab : a ≠ b) (hc : ∀ x ∈ cells, 0 ≤ x) (hi : -1 ≤ i) (hv : 0 ≤ v) (h0 : 0 ≤ seed) (h1 : seed < 2147483647) (hm : 0 < m) (hm2 : m < 2 ^ 64) :
    restK [some (.ref a), some (.int m), o] s = .rt (.int (v % m)) (s.set a (C.lst [.ref b, .int i, .int (v / m), .int seed])) := by
  simp only [restK, e_seq, e_set, e_op, e_call, e_cons, e_nil, e_var, e_c, List.getElem?_cons_zero, List.getElem?_cons_succ, rbind_ok, rto_ok, q2 ha, cInt2_int, oMod_int hm, List.set_cons_succ, List.set_cons_zero, obind_nx, e_sub, oFdiv_int (cdv hm hm2), p2 ha, e_ret]
theorem take_ok {a b : Nat} {s : S} (h : DrawOk a b s) {m : Int} (hm : 0 < m) (hm2 : m < 2 ^ 64) : ∃ f s', F__law_take [.ref a, .int m] s = .ok (.int f) s' ∧ 0 ≤ f ∧ f < m ∧ Dw a b s s' := by
  obtain ⟨cells, i, v, seed, ha, hb, hab, hc, hi, hv, h0, h1⟩ := h.ex
  have e0 : F__law_take [.ref a, .int m] s = runO (B__law_take [some (.ref a), some (.int m), none] s) := by
    unfold F__law_take
    rw [runF_eq (n := 2) rfl]
    rfl
  have eB : B__law_take = bSeq (sIf (mOp oEq (mOp oIx (mVar 0) (mC (.int 2))) (mC (.int 0)))
    (bSeq (sSub (mOp oAdd (mOp oIx (mVar 0) (mC (.int 1))) (mC (.int 1))) (mVar 0) (mC (.int 1)))
    (bSeq (sIf (mOp oLt (mOp oIx (mVar 0) (mC (.int 1))) (mCall cLen (mCons (mOp oIx (mVar 0) (mC (.int 0))) mNil)))
    (sSub (mOp oIx (mOp oIx (mVar 0) (mC (.int 0))) (mOp oIx (mVar 0) (mC (.int 1)))) (mVar 0) (mC (.int 2)))
    bNil)
    (sIf (mOp oEq (mOp oIx (mVar 0) (mC (.int 2))) (mC (.int 0)))
    (bSeq (sSub (mOp oMod (mCall cInt2 (mCons (mOp oAdd (mOp oMul (mOp oIx (mVar 0) (mC (.int 3))) (mC (.int 48271))) (mC (.int 11))) mNil)) (mC (.int 2147483647))) (mVar 0) (mC (.int 3)))
    (sSub (mOp oIx (mVar 0) (mC (.int 3))) (mVar 0) (mC (.int 2))))
    bNil)))
    bNil) restK := rfl
  have fin : ∀ (t : S) (i' v' seed' : Int), t[a]? = some (C.lst [.ref b, .int i', .int v', .int seed']) → t[b]? = some (C.lst (cells.map D.int)) → (∀ (r : Nat) (c : C), r ≠ a → s[r]? = some c → t[r]? = some c) → -1 ≤ i' → 0 ≤ v' → 0 ≤ seed' → seed' < 2147483647 →
      ∃ f s', runO (restK [some (.ref a), some (.int m), none] t) = .ok (.int f) s' ∧ 0 ≤ f ∧ f < m ∧ Dw a b s s' := fun t i' v' seed' ta tb tk t1 t2 t3 t4 => by
    refine ⟨v' % m, _, by rw [take_rest ta tb hab hc t1 t2 t3 t4 hm hm2]; rfl, Int.emod_nonneg _ (by omega), Int.emod_lt_of_pos _ hm, ?_⟩
    have hd := dw_set (i := i') (v := v' / m) (seed := seed') ta tb hab hc t1 (Int.ediv_nonneg t2 (by omega)) t3 t4
    exact ⟨fun r c hr e => hd.keep r c hr (tk r c hr e), hd.ok⟩
  rw [e0, eB]
  by_cases hv0 : v = 0
  · subst hv0
    have ha1 : (s.set a (C.lst [.ref b, .int (i + 1), .int 0, .int seed]))[a]? = some (C.lst [.ref b, .int (i + 1), .int 0, .int seed]) := set_at ha
    have hb1 : (s.set a (C.lst [.ref b, .int (i + 1), .int 0, .int seed]))[b]? = some (C.lst (cells.map D.int)) := by rw [set_get, if_neg hab]; exact hb
    have hn0 : 0 ≤ (seed * 48271 + 11) % 2147483647 := Int.emod_nonneg _ (by decide)
    have hn1 : (seed * 48271 + 11) % 2147483647 < 2147483647 := Int.emod_lt_of_pos _ (by decide)
    have tail : ∀ (i' : Int), -1 ≤ i' → (sIf (mOp oEq (mOp oIx (mVar 0) (mC (.int 2))) (mC (.int 0)))
        (bSeq (sSub (mOp oMod (mCall cInt2 (mCons (mOp oAdd (mOp oMul (mOp oIx (mVar 0) (mC (.int 3))) (mC (.int 48271))) (mC (.int 11))) mNil)) (mC (.int 2147483647))) (mVar 0) (mC (.int 3)))
        (sSub (mOp oIx (mVar 0) (mC (.int 3))) (mVar 0) (mC (.int 2))))
        bNil) [some (.ref a), some (.int m), none] (s.set a (C.lst [.ref b, .int i', .int 0, .int seed])) = .nx [some (.ref a), some (.int m), none] (s.set a (C.lst [.ref b, .int i', .int ((seed * 48271 + 11) % 2147483647), .int ((seed * 48271 + 11) % 2147483647)])) := fun i' hi' => by
      have hx : (s.set a (C.lst [.ref b, .int i', .int 0, .int seed]))[a]? = some (C.lst [.ref b, .int i', .int 0, .int seed]) := set_at ha
      have hy : (s.set a (C.lst [.ref b, .int i', .int 0, .int ((seed * 48271 + 11) % 2147483647)]))[a]? = some (C.lst [.ref b, .int i', .int 0, .int ((seed * 48271 + 11) % 2147483647)]) := set_at ha
      simp only [e_sif, e_op, e_var, e_c, List.getElem?_cons_zero, List.getElem?_cons_succ, rbind_ok, rto_ok, q2 hx, oEq_int, decide_true, ifK_t, e_seq, e_sub, e_call, e_cons, e_nil, q3 hx, oMul_int (cm48 h0 h1), oAdd_int, cInt2_int, oMod_int (show (0 : Int) < 2147483647 by decide), p3 hx, obind_nx, List.set_set, q3 hy, p2 hy]
    by_cases hl : i + 1 < (cells.length : Int)
    · have hnat : i + 1 = (((i + 1).toNat : Nat) : Int) := by omega
      have hlt : (i + 1).toNat < cells.length := by omega
      have hcl : cells[(i + 1).toNat]? = some cells[(i + 1).toNat] := List.getElem?_eq_getElem hlt
      have hcn := hc _ (List.getElem_mem hlt)
      generalize hw : cells[(i + 1).toNat] = cw at hcl hcn
      have hix : oIx (.ref b) (.int (i + 1)) (s.set a (C.lst [.ref b, .int (i + 1), .int 0, .int seed])) = .ok (.int cw) (s.set a (C.lst [.ref b, .int (i + 1), .int 0, .int seed])) := by
        rw [hnat, ← hnat]
        exact oIx_lst hb1 (by rw [hnat, atI_nat, List.getElem?_map, hcl]; rfl)
      have hL : cLen [.ref b] (s.set a (C.lst [.ref b, .int (i + 1), .int 0, .int seed])) = .ok (.int (cells.length : Int)) (s.set a (C.lst [.ref b, .int (i + 1), .int 0, .int seed])) := by rw [cLen_lst hb1, List.length_map]
      by_cases hc0 : cw = 0
      · subst hc0
        have ht := tail (i + 1) (by omega)
        obtain ⟨f, s', e, r⟩ := fin (s.set a (C.lst [.ref b, .int (i + 1), .int ((seed * 48271 + 11) % 2147483647), .int ((seed * 48271 + 11) % 2147483647)])) _ _ _ (set_at ha) (by rw [set_get, if_neg hab]; exact hb) (fun r c hr e => by rw [set_get, if_neg (Ne.symm hr)]; exact e) (by omega) hn0 hn0 hn1
        refine ⟨f, s', ?_, r⟩
        rw [← e]
        simp only [e_seq]
        rw [e_sif]
        generalize hT : (sIf (mOp oEq (mOp oIx (mVar 0) (mC (.int 2))) (mC (.int 0)))
          (bSeq (sSub (mOp oMod (mCall cInt2 (mCons (mOp oAdd (mOp oMul (mOp oIx (mVar 0) (mC (.int 3))) (mC (.int 48271))) (mC (.int 11))) mNil)) (mC (.int 2147483647))) (mVar 0) (mC (.int 3)))
          (sSub (mOp oIx (mVar 0) (mC (.int 3))) (mVar 0) (mC (.int 2))))
          bNil) = T at ht
        simp only [e_sif, e_op, e_var, e_c, List.getElem?_cons_zero, List.getElem?_cons_succ, rbind_ok, rto_ok, q2 ha, oEq_int, decide_true, ifK_t, e_seq, e_sub, e_call, e_cons, e_nil, q1 ha, oAdd_int, p1 ha, obind_nx, q1 ha1, q0 ha1, hL, oLt_int, hl, hix, p2 ha1, List.set_set, ht]
      · obtain ⟨f, s', e, r⟩ := fin (s.set a (C.lst [.ref b, .int (i + 1), .int cw, .int seed])) _ _ _ (set_at ha) (by rw [set_get, if_neg hab]; exact hb) (fun r c hr e => by rw [set_get, if_neg (Ne.symm hr)]; exact e) (by omega) hcn h0 h1
        have hx : (s.set a (C.lst [.ref b, .int (i + 1), .int cw, .int seed]))[a]? = some (C.lst [.ref b, .int (i + 1), .int cw, .int seed]) := set_at ha
        refine ⟨f, s', ?_, r⟩
        rw [← e]
        simp only [e_sif, e_op, e_var, e_c, List.getElem?_cons_zero, List.getElem?_cons_succ, rbind_ok, rto_ok, q2 ha, oEq_int, decide_true, ifK_t, e_seq, e_sub, e_call, e_cons, e_nil, q1 ha, oAdd_int, p1 ha, obind_nx, q1 ha1, q0 ha1, hL, oLt_int, hl, hix, p2 ha1, List.set_set, q2 hx, hc0, decide_false, ifK_f, e_bnil]
    · have hL : cLen [.ref b] (s.set a (C.lst [.ref b, .int (i + 1), .int 0, .int seed])) = .ok (.int (cells.length : Int)) (s.set a (C.lst [.ref b, .int (i + 1), .int 0, .int seed])) := by rw [cLen_lst hb1, List.length_map]
      have ht := tail (i + 1) (by omega)
      obtain ⟨f, s', e, r⟩ := fin (s.set a (C.lst [.ref b, .int (i + 1), .int ((seed * 48271 + 11) % 2147483647), .int ((seed * 48271 + 11) % 2147483647)])) _ _ _ (set_at ha) (by rw [set_get, if_neg hab]; exact hb) (fun r c hr e => by rw [set_get, if_neg (Ne.symm hr)]; exact e) (by omega) hn0 hn0 hn1
      refine ⟨f, s', ?_, r⟩
      rw [← e]
      simp only [e_seq]
      rw [e_sif]
      generalize hT : (sIf (mOp oEq (mOp oIx (mVar 0) (mC (.int 2))) (mC (.int 0)))
        (bSeq (sSub (mOp oMod (mCall cInt2 (mCons (mOp oAdd (mOp oMul (mOp oIx (mVar 0) (mC (.int 3))) (mC (.int 48271))) (mC (.int 11))) mNil)) (mC (.int 2147483647))) (mVar 0) (mC (.int 3)))
        (sSub (mOp oIx (mVar 0) (mC (.int 3))) (mVar 0) (mC (.int 2))))
        bNil) = T at ht
      simp only [e_sif, e_op, e_var, e_c, List.getElem?_cons_zero, List.getElem?_cons_succ, rbind_ok, rto_ok, q2 ha, oEq_int, decide_true, ifK_t, e_seq, e_sub, e_call, e_cons, e_nil, q1 ha, oAdd_int, p1 ha, obind_nx, q1 ha1, q0 ha1, hL, oLt_int, hl, decide_false, ifK_f, e_bnil, ht]
  · obtain ⟨f, s', e, r⟩ := fin s i v seed ha hb (fun r c _ e => e) hi hv h0 h1
    refine ⟨f, s', ?_, r⟩
    rw [← e]
    simp only [e_sif, e_op, e_var, e_c, List.getElem?_cons_zero, List.getElem?_cons_succ, rbind_ok, rto_ok, q2 ha, oEq_int, hv0, decide_false, ifK_f, e_seq, e_bnil, obind_nx]
theorem DrawOk.put {a b : Nat} {s : S} {k : Nat} {c : C} (h : DrawOk a b s) (ha : k ≠ a) (hb : k ≠ b) : DrawOk a b (s.set k c) := by
  obtain ⟨cells, i, v, seed, h1, h2, h3⟩ := h.ex
  exact ⟨cells, i, v, seed, by rw [set_get, if_neg ha]; exact h1, by rw [set_get, if_neg hb]; exact h2, h3⟩
theorem DrawOk.ltb {a b : Nat} {s : S} (h : DrawOk a b s) : b < s.length := by
  obtain ⟨cells, i, v, seed, h1, h2, h3⟩ := h.ex
  exact lt_of_get h2
theorem Dw.put {a b : Nat} {s t : S} {k : Nat} {c : C} (h : Dw a b s t) (hs : DrawOk a b s) (hk : s.length ≤ k) : Dw a b s (t.set k c) := by
  have h1 := hs.lt
  have h2 := hs.ltb
  exact ⟨fun r e hr he => by
    rw [set_get, if_neg (show ¬ k = r from fun z => by have := lt_of_get he; omega)]
    exact h.keep r e hr he, h.ok.put (by omega) (by omega)⟩
theorem draw_seed (fr : D) (s : S) : ∀ (ns : List Int) (seed : Int) (o : Option D), 0 ≤ seed → seed < 2147483647 →
    ∃ seed' o', 0 ≤ seed' ∧ seed' < 2147483647 ∧ loop none (gN 2) W__law_draw1 (ns.map D.int) [some fr, some (.int seed), o] s = .nx [some fr, some (.int seed'), o'] s
  | [], seed, o, h0, h1 => ⟨seed, o, h0, h1, loop_nil (g := none) trivial⟩
  | n :: ns, seed, o, h0, h1 => by
    rw [List.map_cons, loop_cons (g := none) trivial (gN_eq _ _ _)]
    have hw : W__law_draw1 ([some fr, some (.int seed), o].set 2 (some (.int n))) s = .nx [some fr, some (.int ((seed * 48271 + (if n < 0 then -n else n) % 65521 + 1) % 2147483647)), some (.int n)] s := by
      simp only [List.set_cons_succ, List.set_cons_zero, W__law_draw1, e_set, e_op, e_call, e_cons, e_nil, e_var, e_c, List.getElem?_cons_zero, List.getElem?_cons_succ, rbind_ok, rto_ok, oMul_int (cm48 h0 h1), cInt2_int, cAbs_int, oMod_int (show (0 : Int) < 65521 by decide), oAdd_int, oMod_int (show (0 : Int) < 2147483647 by decide)]
    rw [hw]
    exact draw_seed fr s ns _ _ (Int.emod_nonneg _ (by decide)) (Int.emod_lt_of_pos _ (by decide))
theorem draw_abs (x0 x1 : D) (s : S) : ∀ (ns : List Int) (acc : List Int), acc.length + ns.length ≤ 63 → (∀ x ∈ acc, 0 ≤ x) →
    ∃ cs : List Int, (∀ x ∈ cs, 0 ≤ x) ∧ lcL none 2 yesM (mCall cAbs (mCons (mCall cInt2 (mCons (mVar 2) mNil)) mNil)) [some x0, some x1, none] (ns.map D.int) (acc.map D.int) s = .ok (cs.map D.int) s
  | [], acc, hl, hb => ⟨acc, hb, lc_nil (g := none) trivial⟩
  | n :: ns, acc, hl, hb => by
    have hm : (mCall cAbs (mCons (mCall cInt2 (mCons (mVar 2) mNil)) mNil)) (([some x0, some x1, none].set 2 none).set 2 (some (.int n))) s = .ok (.int (if n < 0 then -n else n)) s := by
      simp only [List.set_cons_succ, List.set_cons_zero, e_call, e_cons, e_nil, e_var, List.getElem?_cons_zero, List.getElem?_cons_succ, rbind_ok, cInt2_int, cAbs_int]
    rw [List.length_cons] at hl
    rw [List.map_cons, lc_cons (g := none) trivial hm (by rw [List.length_map, sizeL]; omega)]
    obtain ⟨cs, h1, h2⟩ := draw_abs x0 x1 s ns (acc ++ [if n < 0 then -n else n]) (by rw [List.length_append, List.length_singleton]; omega) (fun x hx => by
      rcases List.mem_append.mp hx with hx | hx
      · exact hb x hx
      · rw [List.mem_singleton.mp hx]
        split <;> omega)
    refine ⟨cs, h1, ?_⟩
    rw [List.map_append] at h2
    exact h2
theorem draw_ok (ns : List Int) (hn : ns.length ≤ 63) : ∃ s, F__law_draw [.frl (ns.map D.int)] [] = .ok (.ref 1) s ∧ DrawOk 1 0 s := by
  have e0 : F__law_draw [.frl (ns.map D.int)] [] = runO (B__law_draw [some (.frl (ns.map D.int)), none, none] []) := by
    unfold F__law_draw
    rw [runF_eq (n := 1) rfl]
    rfl
  obtain ⟨seed, o, h0, h1, hs⟩ := draw_seed (.frl (ns.map D.int)) [] ns 7 none (by decide) (by decide)
  obtain ⟨cs, c0, hc⟩ := draw_abs (.frl (ns.map D.int)) (.int seed) [] ns [] (by simpa using hn) (fun x hx => by cases hx)
  have hc : lcL none 2 yesM (mCall cAbs (mCons (mCall cInt2 (mCons (mVar 2) mNil)) mNil)) [some (.frl (ns.map D.int)), some (.int seed), o] (ns.map D.int) [] [] = .ok (cs.map D.int) [] := by
    rw [← hc]
    exact lc_forget (ε := [some (.frl (ns.map D.int)), some (.int seed), o]) (ε' := [some (.frl (ns.map D.int)), some (.int seed), none]) (fun d => rfl) _ _ _
  have four : (4 : Nat) ≤ sizeLine := by rw [sizeL]; omega
  refine ⟨[C.lst (cs.map D.int), C.lst [.ref 0, .int (-1), .int 0, .int seed]], ?_, ⟨cs, -1, 0, seed, rfl, rfl, by decide, c0, by decide, by decide, h0, h1⟩⟩
  rw [e0]
  simp only [B__law_draw, e_seq, e_set, e_c, rto_ok, List.set_cons_succ, List.set_cons_zero, obind_nx, e_for, e_iseq, e_var, List.getElem?_cons_zero, List.getElem?_cons_succ, rbind_ok, e_it_frl]
  rw [hs]
  simp only [obind_nx, e_ret, e_lst, e_cons, e_nil, e_c, e_neg, e_lc, e_iseq, e_var, List.getElem?_cons_zero, List.getElem?_cons_succ, rbind_ok, e_it_frl]
  rw [hc]
  simp only [rbind_ok, List.length_nil, List.length_cons, Nat.zero_add, Nat.reduceAdd, four, if_true, rto_ok, runO_rt, List.nil_append, List.cons_append]
end G83
end Mi

namespace Mi
namespace G83
open PySem PySem.Spec PyProof.Rows L2

/-! ### the words -/
theorem small_le {n : Nat} (h : n ≤ 100000) : n ≤ sizeLine := by
  rw [sizeL]
  omega
def strsM : List Str → Ev → S → R (List D)
  | [] => mNil
  | x :: xs => mCons (mC (.str x)) (strsM xs)
theorem strsM_ok (ε : Ev) (s : S) : ∀ xs : List Str, strsM xs ε s = .ok (xs.map D.str) s
  | [] => rfl
  | x :: xs => by
    show ((R.ok (D.str x) s).bind fun x s1 => (strsM xs ε s1).bind fun xs s2 => .ok (x :: xs) s2) = _
    rw [rbind_ok, strsM_ok ε s xs]
    rfl
theorem lst_strs {ε : Ev} {s : S} {xs : List Str} (h : xs.length ≤ 100) : mLst (strsM xs) ε s = .ok (.ref s.length) (s ++ [C.lst (xs.map D.str)]) := by
  rw [e_lst, strsM_ok, rbind_ok, if_pos (by rw [List.length_map]; exact small_le (by omega))]
theorem add_strs {s : S} {k : Nat} {xs ys : List Str} (h : s[k]? = some (C.lst (xs.map D.str))) (hx : xs.length ≤ 100) (hy : ys.length ≤ 100) :
    mOp oAdd (mVar 0) (mLst (strsM ys)) [some (.ref k)] s = .ok (.ref (s.length + 1)) (s ++ [C.lst (ys.map D.str)] ++ [C.lst ((xs ++ ys).map D.str)]) := by
  rw [e_op, mVar_ok (d := .ref k) rfl, rbind_ok, lst_strs hy, rbind_ok, oAdd_lst (ds := xs.map D.str) (es := ys.map D.str) (by rw [app_get (lt_of_get h)]; exact h) app_last (by rw [List.length_map, List.length_map]; exact small_le (by omega))]
  rw [List.length_append, List.map_append]
  rfl
theorem add_strs' {s : S} {k : Nat} {xs ys : List Str} (h : s[k]? = some (C.lst (xs.map D.str))) (hx : xs.length ≤ 50) (hy : ys.length ≤ 50) :
    ∃ j t, mOp oAdd (mVar 0) (mLst (strsM ys)) [some (.ref k)] s = .ok (.ref j) t ∧ Pre s t ∧ t[j]? = some (C.lst ((xs ++ ys).map D.str)) := by
  refine ⟨_, _, add_strs h (by omega) (by omega), Pre.app.trans Pre.app, ?_⟩
  have := app_last (s := s ++ [C.lst (ys.map D.str)]) (c := C.lst ((xs ++ ys).map D.str))
  rw [List.length_append] at this
  exact this
theorem adds_ok (s : S) (a b c d : List Str) (ha : a.length ≤ 10) (hb : b.length ≤ 10) (hc : c.length ≤ 10) (hd : d.length ≤ 10) :
    ∃ k t, runO ((bSeq (sSet 0 (mLst (strsM a))) (bSeq (sSet 0 (mOp oAdd (mVar 0) (mLst (strsM b)))) (bSeq (sSet 0 (mOp oAdd (mVar 0) (mLst (strsM c)))) (sRet (mOp oAdd (mVar 0) (mLst (strsM d))))))) [none] s) = .ok (.ref k) t ∧ Pre s t ∧ t[k]? = some (C.lst ((((a ++ b) ++ c) ++ d).map D.str)) := by
  rw [e_seq, e_set, lst_strs (by omega), rto_ok, obind_nx, List.set_cons_zero]
  have h1 := app_last (s := s) (c := C.lst (a.map D.str))
  have p1 : Pre s (s ++ [C.lst (a.map D.str)]) := Pre.app
  obtain ⟨j2, t2, e2, p2, h2⟩ := add_strs' (ys := b) h1 (by omega) (by omega)
  rw [e_seq, e_set, e2, rto_ok, obind_nx, List.set_cons_zero]
  obtain ⟨j3, t3, e3, p3, h3⟩ := add_strs' (ys := c) h2 (by rw [List.length_append]; omega) (by omega)
  rw [e_seq, e_set, e3, rto_ok, obind_nx, List.set_cons_zero]
  obtain ⟨j4, t4, e4, p4, h4⟩ := add_strs' (ys := d) h3 (by rw [List.length_append, List.length_append]; omega) (by omega)
  rw [e_ret, e4, rto_ok, runO_rt]
  exact ⟨j4, t4, rfl, ((p1.trans p2).trans p3).trans p4, h4⟩
def w1 : List Str := ["arguments", "close", "combine", "constants", "dead_stores", "deadcode", "drop", "drop_kills"]
def w2 : List Str := ["forward_loads", "globals_pass", "hoist", "inline", "merge", "numbering", "peel", "plain"]
def w3 : List Str := ["promote", "rotate", "sinking", "split", "strength", "tails", "thread", "tidy", "unroll"]
def w4 : List Str := ["unswitch"]
theorem words_ok (s : S) : ∃ k t, F__law_words [] s = .ok (.ref k) t ∧ Pre s t ∧ t[k]? = some (C.lst (gs_PASSES.map D.str)) := by
  have e0 : F__law_words [] s = runO (B__law_words [none] s) := by
    unfold F__law_words
    rw [runF_eq (n := 0) rfl]
    rfl
  have eB : B__law_words = (bSeq (sSet 0 (mLst (strsM w1))) (bSeq (sSet 0 (mOp oAdd (mVar 0) (mLst (strsM w2)))) (bSeq (sSet 0 (mOp oAdd (mVar 0) (mLst (strsM w3)))) (sRet (mOp oAdd (mVar 0) (mLst (strsM w4))))))) := rfl
  obtain ⟨k, t, e, p, h⟩ := adds_ok s w1 w2 w3 w4 (by decide) (by decide) (by decide) (by decide)
  exact ⟨k, t, by rw [e0, eB]; exact e, p, h⟩
theorem passes_same (s : S) : oNe (.tup (gs_PASSES.map D.str)) (.tup (gs_PASSES.map D.str)) s = .ok (.bl false) s := by
  have e : toPy s 66 (.tup (gs_PASSES.map D.str)) = some (.tuple (gs_PASSES.map PyData.str)) := rfl
  unfold oNe eqPy
  rw [e]
  have h1 : SeqAt.shaped (.tuple (gs_PASSES.map PyData.str)) = true := by decide +kernel
  have h2 : PyData.eqv (.tuple (gs_PASSES.map PyData.str)) (.tuple (gs_PASSES.map PyData.str)) = true := by decide +kernel
  simp only [h1, and_self, if_true, h2]
  rfl
end G83
end Mi

namespace Mi
namespace G83
open PySem PySem.Spec PyProof.Rows L2

/-! ### signs -/
theorem strOf_eq (a b : List Nat) : (strOf a == strOf b) = decide (a = b) := by
  have h : (strOf a == strOf b) = true ↔ a = b := by
    constructor
    · intro h
      have h := eq_of_beq h
      have h : (strOf a).cps.toList = (strOf b).cps.toList := by rw [h]
      exact h
    · rintro rfl
      exact beq_self_eq_true _
  by_cases e : a = b
  · rw [decide_eq_true e]
    exact h.mpr e
  · rw [decide_eq_false e]
    cases q : strOf a == strOf b with
    | false => rfl
    | true => exact (e (h.mp q)).elim
theorem oNe_of {x y : D} {b : Bool} {s : S} (h : oEq x y s = .ok (.bl b) s) : oNe x y s = .ok (.bl (!b)) s := by
  unfold oEq at h
  unfold oNe
  cases e : eqPy x y s with
  | none =>
    rw [e] at h
    cases h
  | some c =>
    rw [e] at h
    cases h
    rfl
/-- signs that texts have here -/
def Asc (cs : List Nat) : Prop := ∀ c ∈ cs, c < 128
theorem asc_all {cs : List Nat} (h : Asc cs) : (strOf cs).cps.all (· < 0x110000) = true := by
  have : cs.toArray.all (· < 0x110000) = true := by
    rw [List.all_toArray, List.all_eq_true]
    intro c hc
    have := h c hc
    simp
    omega
  exact this
theorem oEq_s {a b : List Nat} (ha : Asc a) (hb : Asc b) (s : S) : oEq (.str (strOf a)) (.str (strOf b)) s = .ok (.bl (decide (a = b))) s := by
  rw [oEq_str (asc_all ha) (asc_all hb), strOf_eq]
theorem oNe_s {a b : List Nat} (ha : Asc a) (hb : Asc b) (s : S) : oNe (.str (strOf a)) (.str (strOf b)) s = .ok (.bl (!decide (a = b))) s := oNe_of (oEq_s ha hb s)
def isW (c : Nat) : Bool := (decide (97 ≤ c) && decide (c ≤ 122)) || ((decide (48 ≤ c) && decide (c ≤ 57)) || decide (c = 95))
theorem ltOne (a b : Nat) : strLt (strOf [a]) (strOf [b]) = decide (a < b) := by
  have e : ([a] < [b]) ↔ a < b := by
    constructor
    · intro h
      cases h with
      | rel h => exact h
      | cons h => cases h
    · exact fun h => .rel h
  show decide ([a] < [b]) = _
  by_cases h : a < b
  · rw [decide_eq_true h, decide_eq_true (e.mpr h)]
  · rw [decide_eq_false h, decide_eq_false (fun z => h (e.mp z))]
theorem asc1 {c : Nat} (h : c < 128) : Asc [c] := fun d hd => by
  rw [List.mem_singleton.mp hd]
  exact h
theorem asc0 : Asc [] := fun _ h => by cases h
theorem asc_app {a b : List Nat} (ha : Asc a) (hb : Asc b) : Asc (a ++ b) := fun c h => (List.mem_append.mp h).elim (ha c) (hb c)
theorem leT_s (a b : Nat) (s : S) : oLeT (.str (strOf [a])) (.str (strOf [b])) s = .ok (.bl (decide (a ≤ b))) s := by
  rw [oLeT_str, ltOne]
  congr 2
  by_cases h : b < a
  · rw [decide_eq_true h, decide_eq_false (by omega)]
    rfl
  · rw [decide_eq_false h, decide_eq_true (by omega)]
    rfl
theorem word_sign_ok {c : Nat} (h : c < 128) (s : S) : F_is_word_sign [.str (strOf [c])] s = .ok (.bl (isW c)) s := by
  have e0 : F_is_word_sign [.str (strOf [c])] s = runO (B_is_word_sign [some (.str (strOf [c]))] s) := by
    unfold F_is_word_sign
    rw [runF_eq (n := 1) rfl]
    rfl
  have eB : B_is_word_sign = sRet (mOr (mChain oLeT oLeT (mC (.str (strOf [97]))) (mVar 0) (mC (.str (strOf [122])))) (mOr (mChain oLeT oLeT (mC (.str (strOf [48]))) (mVar 0) (mC (.str (strOf [57])))) (mOp oEq (mVar 0) (mC (.str (strOf [95])))))) := rfl
  rw [e0, eB]
  have ee : oEq (.str (strOf [c])) (.str (strOf [95])) s = .ok (.bl (decide (c = 95))) s := by
    rw [oEq_s (asc1 h) (asc1 (by decide))]
    congr 2
    simp
  unfold isW
  by_cases h1 : 97 ≤ c <;> by_cases h2 : c ≤ 122 <;> by_cases h3 : 48 ≤ c <;> by_cases h4 : c ≤ 57 <;>
    simp only [e_ret, e_or, e_chain, e_c, e_var, e_op, List.getElem?_cons_zero, rbind_ok, rto_ok, leT_s, h1, h2, h3, h4, decide_true, decide_false, e_chKt, e_chKf, ee, runO_rt, Bool.true_and, Bool.false_and, Bool.and_true, Bool.and_false, Bool.true_or, Bool.false_or]
/-- the law's signs -/
def WSs : Str := "abcdefghijklmnopqrstuvwxyz0123456789_"
theorem WS_in {c : Nat} (h : c < 128) (s : S) : oIn false (.str (strOf [c])) (.str WSs) s = .ok (.bl (isW c)) s := by
  have e : oIn false (.str (strOf [c])) (.str WSs) s = .ok (.bl (inStr ⟨#[c]⟩ WSs)) s := rfl
  rw [e, inStr_one]
  have : ∀ c < 128, decide (c ∈ WSs.cps.toList) = isW c := by decide +kernel
  rw [this c h]
end G83
end Mi

namespace Mi
namespace G83
open PySem PySem.Spec PyProof.Rows L2

/-! ### tokens -/
abbrev Tok' := List Nat × Nat
def blank (c : Nat) : Bool := decide (c = 32) || decide (c = 10)
def flush (w : List Nat) (k : Nat) : List Tok' := if w = [] then [] else [(w, k - w.length)]
def one (c k : Nat) : List Tok' := if blank c = true then [] else [([c], k)]
def lt : List Nat → Nat → List Nat → List Tok'
  | w, k, [] => flush w k
  | w, k, c :: cs => if isW c = true then lt (w ++ [c]) (k + 1) cs else flush w k ++ one c k ++ lt [] (k + 1) cs
def tokD (t : Tok') : D := .tup [.str (strOf t.1), .int t.2]
theorem str_len (w : List Nat) : (strOf w).length = w.length := by
  unfold strOf Str.length
  simp
theorem cLen_s {w : List Nat} (h : w.length ≤ 5000000) (s : S) : cLen [.str (strOf w)] s = .ok (.int w.length) s := by
  show (if (strOf w).length ≤ sizeLine then R.ok (D.int ((strOf w).length : Nat)) s else R.bad) = _
  rw [str_len, if_pos (by rw [sizeL]; omega)]
theorem add_s {w v : List Nat} (h : w.length + v.length ≤ 5000000) (s : S) : oAdd (.str (strOf w)) (.str (strOf v)) s = .ok (.str (strOf (w ++ v))) s := by
  rw [oAdd_str (by rw [str_len, str_len, sizeL]; omega)]
  congr 2
  show (⟨w.toArray ++ v.toArray⟩ : Str) = _
  unfold strOf
  rw [List.append_toArray]
noncomputable def restW : B := (sIf (mOp (oIn false) (mVar 5) (mVar 1))
  (sSet 3 (mOp oAdd (mVar 3) (mVar 5)))
  (bSeq (sIf (mOp oNe (mVar 3) (mC (.str (strOf []))))
  (sExpr (mMeth isLst oApp (mVar 2) (mCons (mTup (mCons (mVar 3) (mCons (mOp oSub (mVar 4) (mCall cLen (mCons (mVar 3) mNil))) mNil))) mNil)))
  bNil)
  (bSeq (sSet 3 (mC (.str (strOf []))))
  (sIf (mAnd (mOp oNe (mVar 5) (mC (.str (strOf [32])))) (mOp oNe (mVar 5) (mC (.str (strOf [10])))))
  (sExpr (mMeth isLst oApp (mVar 2) (mCons (mTup (mCons (mVar 5) (mCons (mVar 4) mNil))) mNil)))
  bNil))))
theorem two_le : (2 : Nat) ≤ sizeLine := small_le (by decide)
section
variable {r k c : Nat} {w : List Nat} {acc : List Tok'} {s : S} {x0 : Option D}
theorem app_tok {t : Tok'} (hs : s[r]? = some (C.lst (acc.map tokD))) (hz : acc.length ≤ 5000000) : oApp (.ref r) [tokD t] s = .ok .non (s.set r (C.lst ((acc ++ [t]).map tokD))) := by
  rw [oApp_ok hs (by rw [List.length_map, sizeL]; omega), List.map_append]
  rfl
theorem tok_rest (hc : c < 128) (hw : Asc w) (hwk : w.length ≤ k) (hk : k ≤ 1000000) (hs : s[r]? = some (C.lst (acc.map tokD))) (hz : acc.length ≤ 4000000) :
    restW [x0, some (.str WSs), some (.ref r), some (.str (strOf w)), some (.int (k : Int)), some (.str (strOf [c]))] s =
      .nx [x0, some (.str WSs), some (.ref r), some (.str (strOf (if isW c = true then w ++ [c] else []))), some (.int (k : Int)), some (.str (strOf [c]))] (s.set r (C.lst ((acc ++ (if isW c = true then [] else flush w k ++ one c k)).map tokD))) := by
  unfold restW
  by_cases h : isW c = true
  · rw [if_pos h, if_pos h, List.append_nil, set_self hs]
    simp only [e_sif, e_op, e_var, List.getElem?_cons_zero, List.getElem?_cons_succ, rbind_ok, WS_in hc, h, rto_ok, ifK_t, e_set, add_s (w := w) (v := [c]) (by simp; omega), List.set_cons_succ, List.set_cons_zero]
  · rw [if_neg h, if_neg h]
    have h' : isW c = false := by simpa using h
    have e1 : ∀ (acc : List Tok') (s : S) (v : Option D), s[r]? = some (C.lst (acc.map tokD)) → acc.length ≤ 4500000 → (sIf (mAnd (mOp oNe (mVar 5) (mC (.str (strOf [32])))) (mOp oNe (mVar 5) (mC (.str (strOf [10])))))
        (sExpr (mMeth isLst oApp (mVar 2) (mCons (mTup (mCons (mVar 5) (mCons (mVar 4) mNil))) mNil))) bNil) [x0, some (.str WSs), some (.ref r), v, some (.int (k : Int)), some (.str (strOf [c]))] s =
        .nx [x0, some (.str WSs), some (.ref r), v, some (.int (k : Int)), some (.str (strOf [c]))] (s.set r (C.lst ((acc ++ one c k).map tokD))) := fun acc s v hs hz => by
      have a1 := oNe_s (asc1 hc) (asc1 (show 32 < 128 by decide)) s
      have a2 := oNe_s (asc1 hc) (asc1 (show 10 < 128 by decide)) s
      have a3 := app_tok (t := ([c], k)) hs (by omega)
      have a3 : oApp (.ref r) [.tup [.str (strOf [c]), .int (k : Int)]] s = _ := a3
      unfold one blank
      by_cases h1 : c = 32
      · subst h1
        simp [a1, set_self hs]
      · by_cases h2 : c = 10
        · subst h2
          simp [a1, a2, set_self hs]
        · simp [a1, a2, h1, h2, isLst_ok hs, a3, two_le]
    unfold flush
    by_cases h2 : w = []
    · subst h2
      rw [if_pos rfl, List.nil_append]
      have a1 := oNe_s asc0 asc0 s
      rw [decide_eq_true rfl] at a1
      simp only [e_sif, e_op, e_var, e_c, List.getElem?_cons_zero, List.getElem?_cons_succ, rbind_ok, WS_in hc, h', rto_ok, ifK_f, e_seq, a1, Bool.not_true, e_bnil, obind_nx, e_set, List.set_cons_succ, List.set_cons_zero]
      rw [← e1 acc s (some (.str (strOf []))) hs (by omega)]
      simp only [e_sif, e_op, e_var, e_c, List.getElem?_cons_zero, List.getElem?_cons_succ, rbind_ok, rto_ok]
    · rw [if_neg h2]
      have a1 := oNe_s hw asc0 s
      rw [decide_eq_false h2] at a1
      have a3 := app_tok (t := (w, k - w.length)) hs (by omega)
      have e4 : tokD (w, k - w.length) = .tup [.str (strOf w), .int ((k : Int) - (w.length : Int))] := by
        unfold tokD
        have : (((k - w.length : Nat)) : Int) = (k : Int) - (w.length : Int) := by omega
        rw [← this]
      rw [e4] at a3
      have hs2 : (s.set r (C.lst ((acc ++ [(w, k - w.length)]).map tokD)))[r]? = some (C.lst ((acc ++ [(w, k - w.length)]).map tokD)) := set_at hs
      have e5 := e1 (acc ++ [(w, k - w.length)]) _ (some (.str (strOf []))) hs2 (by rw [List.length_append, List.length_singleton]; omega)
      rw [List.set_set, List.append_assoc] at e5
      rw [← e5]
      simp only [e_sif, e_op, e_var, e_c, List.getElem?_cons_zero, List.getElem?_cons_succ, rbind_ok, WS_in hc, h', rto_ok, ifK_f, ifK_t, e_seq, a1, Bool.not_false, e_expr, e_meth, isLst_ok hs, if_true, e_cons, e_tup, e_call, e_nil, cLen_s (show w.length ≤ 5000000 by omega), oSub_int, List.length_cons, List.length_nil, if_pos two_le, a3, obind_nx, e_set, List.set_cons_succ, List.set_cons_zero]
end
end G83
end Mi

namespace Mi
namespace G83
open PySem PySem.Spec PyProof.Rows L2

/-! ### the law's tokens -/
theorem ix_s {all : List Nat} {k c : Nat} (hz : all.length ≤ 5000000) (h : all[k]? = some c) (s : S) : oIx (.str (strOf all)) (.int (k : Int)) s = .ok (.str (strOf [c])) s := by
  show (if (strOf all).length ≤ sizeLine then (match atI (strOf all).cps.toList (k : Int) with
    | some c => R.ok (D.str ⟨#[c]⟩) s
    | none => R.bad) else R.bad) = _
  rw [if_pos (by rw [str_len, sizeL]; omega), atI_nat]
  show (match all[k]? with
    | some c => R.ok (D.str ⟨#[c]⟩) s
    | none => R.bad) = _
  rw [h]
  rfl
theorem drop_cons {α : Type} {l : List α} {k : Nat} {c : α} {cs : List α} (h : l.drop k = c :: cs) : l[k]? = some c ∧ l.drop (k + 1) = cs ∧ k < l.length := by
  have h1 : k < l.length := by
    apply Classical.byContradiction
    intro z
    rw [List.drop_eq_nil_of_le (by omega)] at h
    cases h
  rw [List.drop_eq_getElem_cons h1] at h
  obtain ⟨e1, e2⟩ := List.cons.inj h
  exact ⟨by rw [List.getElem?_eq_getElem h1, e1], e2, h1⟩
theorem drop_nil {α : Type} {l : List α} {k : Nat} (h : l.drop k = []) : l.length ≤ k := List.drop_eq_nil_iff.mp h
section
variable {all : List Nat} {r : Nat}
theorem tok_body {k c : Nat} {w : List Nat} {acc : List Tok'} {s : S} {o5 : Option D} (hz : all.length ≤ 1000000) (hc : c < 128) (hk : (k < all.length ∧ all[k]? = some c) ∨ (k = all.length ∧ c = 32)) (hw : Asc w) (hwk : w.length ≤ k) (hs : s[r]? = some (C.lst (acc.map tokD))) (ha : acc.length ≤ 4000000) :
    W__law_tokens1 [some (.str (strOf all)), some (.str WSs), some (.ref r), some (.str (strOf w)), some (.int (k : Int)), o5] s =
      .nx [some (.str (strOf all)), some (.str WSs), some (.ref r), some (.str (strOf (if isW c = true then w ++ [c] else []))), some (.int (k : Int)), some (.str (strOf [c]))] (s.set r (C.lst ((acc ++ (if isW c = true then [] else flush w k ++ one c k)).map tokD))) := by
  have eW : W__law_tokens1 = bSeq (sSet 5 (mIf (mOp oLt (mVar 4) (mCall cLen (mCons (mVar 0) mNil))) (mOp oIx (mVar 0) (mVar 4)) (mC (.str (strOf [32]))))) restW := rfl
  have hk' : k ≤ 1000000 := by rcases hk with ⟨h, _⟩ | ⟨h, _⟩ <;> omega
  rw [eW, ← tok_rest (x0 := some (.str (strOf all))) hc hw hwk hk' hs ha]
  rcases hk with ⟨h1, h2⟩ | ⟨h1, h2⟩
  · have h3 : (k : Int) < all.length := by omega
    simp only [e_seq, e_set, e_if, e_op, e_var, List.getElem?_cons_zero, List.getElem?_cons_succ, rbind_ok, e_call, e_cons, e_nil, cLen_s (show all.length ≤ 5000000 by omega), oLt_int, h3, decide_true, ix_s (show all.length ≤ 5000000 by omega) h2, rto_ok, obind_nx, List.set_cons_succ, List.set_cons_zero]
  · subst h2
    have h3 : ¬ (k : Int) < all.length := by omega
    simp only [e_seq, e_set, e_if, e_op, e_var, e_c, List.getElem?_cons_zero, List.getElem?_cons_succ, rbind_ok, e_call, e_cons, e_nil, cLen_s (show all.length ≤ 5000000 by omega), oLt_int, h3, decide_false, rto_ok, obind_nx, List.set_cons_succ, List.set_cons_zero]
theorem flush_len (w : List Nat) (k : Nat) : (flush w k).length ≤ 1 := by
  unfold flush
  split <;> simp
theorem one_len (c k : Nat) : (one c k).length ≤ 1 := by
  unfold one
  split <;> simp
theorem tok_loop (hA : Asc all) (hz : all.length ≤ 1000000) : ∀ (cs : List Nat) (k : Nat) (w : List Nat) (acc : List Tok') (o4 o5 : Option D) (s : S), all.drop k = cs → k ≤ all.length → Asc w → w.length ≤ k → acc.length ≤ 2 * k → s[r]? = some (C.lst (acc.map tokD)) →
    ∃ o4' o5', loop none (gN 4) W__law_tokens1 (rngL (k : Int) (cs.length + 1)) [some (.str (strOf all)), some (.str WSs), some (.ref r), some (.str (strOf w)), o4, o5] s =
      .nx [some (.str (strOf all)), some (.str WSs), some (.ref r), some (.str (strOf [])), o4', o5'] (s.set r (C.lst ((acc ++ lt w k cs).map tokD)))
  | [], k, w, acc, o4, o5, s, hd, hk, hw, hwk, ha, hs => by
    have e := drop_nil hd
    refine ⟨some (.int (k : Int)), some (.str (strOf [32])), ?_⟩
    rw [show rngL (k : Int) (([] : List Nat).length + 1) = [.int (k : Int)] from rfl, loop_cons (g := none) trivial (gN_eq _ _ _)]
    have hb := tok_body (all := all) (r := r) (k := k) (c := 32) (o5 := o5) hz (by decide) (.inr ⟨by omega, rfl⟩) hw hwk hs (by omega)
    rw [show ([some (.str (strOf all)), some (.str WSs), some (.ref r), some (.str (strOf w)), o4, o5] : Ev).set 4 (some (.int (k : Int))) = [some (.str (strOf all)), some (.str WSs), some (.ref r), some (.str (strOf w)), some (.int (k : Int)), o5] from rfl, hb]
    have e1 : one 32 k = [] := rfl
    have e2 : isW 32 = false := by decide
    simp only [e2, if_neg (show ¬ (false = true) by decide), e1, List.append_nil]
    exact loop_nil (g := none) trivial
  | c :: cs, k, w, acc, o4, o5, s, hd, hk, hw, hwk, ha, hs => by
    obtain ⟨h1, h2, h3⟩ := drop_cons hd
    have hc : c < 128 := hA c (List.mem_of_getElem? h1)
    rw [show rngL (k : Int) ((c :: cs).length + 1) = .int (k : Int) :: rngL ((k : Int) + 1) (cs.length + 1) from rfl, loop_cons (g := none) trivial (gN_eq _ _ _)]
    have hb := tok_body (all := all) (r := r) (k := k) (c := c) (o5 := o5) hz hc (.inl ⟨h3, h1⟩) hw hwk hs (by omega)
    rw [show ([some (.str (strOf all)), some (.str WSs), some (.ref r), some (.str (strOf w)), o4, o5] : Ev).set 4 (some (.int (k : Int))) = [some (.str (strOf all)), some (.str WSs), some (.ref r), some (.str (strOf w)), some (.int (k : Int)), o5] from rfl, hb]
    have ek : ((k : Int) + 1) = ((k + 1 : Nat) : Int) := by omega
    rw [ek]
    have f1 := flush_len w k
    have f2 := one_len c k
    have hs2 := set_at (c := C.lst ((acc ++ (if isW c = true then [] else flush w k ++ one c k)).map tokD)) hs
    have hl : (acc ++ (if isW c = true then [] else flush w k ++ one c k)).length ≤ 2 * (k + 1) := by
      rw [List.length_append]
      split
      · rw [List.length_nil]
        omega
      · rw [List.length_append]
        omega
    obtain ⟨p4, p5, e⟩ := tok_loop hA hz cs (k + 1) (if isW c = true then w ++ [c] else []) (acc ++ (if isW c = true then [] else flush w k ++ one c k)) (some (.int (k : Int))) (some (.str (strOf [c]))) _ h2 (by omega)
      (by
        split
        · exact asc_app hw (asc1 hc)
        · exact asc0) (by
        split
        · rw [List.length_append, List.length_singleton]
          omega
        · exact Nat.zero_le _) hl hs2
    refine ⟨p4, p5, e.trans ?_⟩
    rw [List.set_set, List.append_assoc]
    by_cases h : isW c = true
    · simp only [h, if_true, List.nil_append, lt]
    · have h' : isW c = false := by simpa using h
      simp only [h', lt, if_neg (show ¬ (false = true) by decide), List.append_assoc]
theorem law_tokens_ok (hA : Asc all) (hz : all.length ≤ 1000000) (s : S) : F__law_tokens [.str (strOf all)] s = .ok (.ref s.length) (s ++ [C.lst ((lt [] 0 all ++ [([], all.length)]).map tokD)]) := by
  have e0 : F__law_tokens [.str (strOf all)] s = runO (B__law_tokens [some (.str (strOf all)), none, none, none, none, none] s) := by
    unfold F__law_tokens
    rw [runF_eq (n := 1) rfl]
    rfl
  have eB : B__law_tokens = (bSeq (sSet 1 (mC (.str WSs))) (bSeq (sSet 2 (mLst mNil)) (bSeq (sSet 3 (mC (.str (strOf [])))) (bSeq (sFor (iRng1 (mCons (mOp oAdd (mCall cLen (mCons (mVar 0) mNil)) (mC (.int 1))) mNil)) (gN 4) W__law_tokens1)
    (bSeq (sExpr (mMeth isLst oApp (mVar 2) (mCons (mTup (mCons (mC (.str (strOf []))) (mCons (mCall cLen (mCons (mVar 0) mNil)) mNil))) mNil))) (sRet (mVar 2))))))) := rfl
  obtain ⟨p4, p5, e⟩ := tok_loop (r := s.length) hA hz all 0 [] [] none none (s ++ [C.lst []]) rfl (Nat.zero_le _) asc0 (Nat.le_refl _) (Nat.zero_le _) app_last
  have hn : ((all.length : Int) + 1).toNat = all.length + 1 := by omega
  have e : loop none (gN 4) W__law_tokens1 (rngL 0 (all.length + 1)) [some (.str (strOf all)), some (.str WSs), some (.ref s.length), some (.str (strOf [])), none, none] (s ++ [C.lst []]) = _ := e
  have hs1 : (s ++ [C.lst ((([] : List Tok') ++ lt [] 0 all).map tokD)])[s.length]? = some (C.lst ((lt [] 0 all).map tokD)) := app_last
  have hl : ∀ (cs : List Nat) (k : Nat) (w : List Nat), (lt w k cs).length ≤ 2 * cs.length + 1 := by
    intro cs
    induction cs with
    | nil =>
      intro k w
      exact flush_len w k
    | cons c cs ih =>
      intro k w
      unfold lt
      have f1 := flush_len w k
      have f2 := one_len c k
      split
      · have := ih (k + 1) (w ++ [c])
        rw [List.length_cons]
        omega
      · have := ih (k + 1) []
        rw [List.length_append, List.length_append, List.length_cons]
        omega
  have h3 := hl all 0 []
  have ap := app_tok (t := ([], all.length)) hs1 (by omega)
  have ap : oApp (.ref s.length) [.tup [.str (strOf []), .int (all.length : Int)]] _ = _ := ap
  rw [e0, eB]
  rw [List.set_append_right _ _ (Nat.le_refl _), Nat.sub_self] at e ap
  simp only [List.set_cons_zero] at e ap
  simp only [e_seq, e_set, e_c, rto_ok, obind_nx, List.set_cons_succ, List.set_cons_zero, e_lst, e_nil, rbind_ok, List.length_nil, Nat.zero_le, if_true, e_for, e_rng1, e_cons, e_op, e_call, e_var, List.getElem?_cons_zero, List.getElem?_cons_succ, cLen_s (show all.length ≤ 5000000 by omega), oAdd_int, e_rngK1, hn, e, e_expr, e_meth, isLst_ok hs1, e_tup, List.length_cons, if_pos two_le, ap, e_ret, runO_rt]
end
end G83
end Mi

namespace Mi
namespace G83
open PySem PySem.Spec PyProof.Rows L2

/-! ### the program's tokens -/
theorem lt_word : ∀ (w rest v : List Nat) (k : Nat), (∀ c ∈ w, isW c = true) → (∀ c r, rest = c :: r → isW c = false) → lt v k (w ++ rest) = flush (v ++ w) (k + w.length) ++ lt [] (k + w.length) rest
  | [], [], v, k, _, _ => by
    rw [List.append_nil, List.append_nil]
    show flush v k = flush v k ++ flush [] k
    rw [show flush [] k = [] from rfl, List.append_nil]
  | [], c :: r, v, k, _, h => by
    rw [List.append_nil, List.nil_append, List.length_nil, Nat.add_zero]
    have := h c r rfl
    simp only [lt, this, if_neg (show ¬ (false = true) by decide), show flush [] k = [] from rfl, List.nil_append, List.append_assoc]
  | c :: w, rest, v, k, hw, h => by
    have e := lt_word w rest (v ++ [c]) (k + 1) (fun d hd => hw d (List.mem_cons_of_mem _ hd)) h
    rw [List.cons_append]
    simp only [lt, hw c List.mem_cons_self, if_true]
    rw [e, List.append_assoc, List.length_cons, show k + 1 + w.length = k + (w.length + 1) by omega]
    rfl
section
variable {all : List Nat}
theorem word_loop (hA : Asc all) (hz : all.length ≤ 1000000) (x1 x3 : Option D) (s : S) : ∀ (w rest : List Nat) (k fuel : Nat), all.drop k = w ++ rest → k ≤ all.length → (∀ c ∈ w, isW c = true) → (∀ c r, rest = c :: r → isW c = false) → w.length ≤ fuel →
    whileK T_script_tokens1 W_script_tokens1 (fuel + 1) [some (.str (strOf all)), x1, some (.int (k : Int)), x3] s = .nx [some (.str (strOf all)), x1, some (.int ((k + w.length : Nat) : Int)), x3] s
  | [], rest, k, fuel, hd, hk, hw, hr, hf => by
    refine while_f (s1 := s) ?_
    unfold T_script_tokens1
    rw [List.nil_append] at hd
    cases rest with
    | nil =>
      have := drop_nil hd
      have h3 : ¬ (k : Int) < all.length := by omega
      simp only [e_and, e_op, e_var, List.getElem?_cons_zero, List.getElem?_cons_succ, rbind_ok, e_call, e_cons, e_nil, cLen_s (show all.length ≤ 5000000 by omega), oLt_int, h3, decide_false]
    | cons c r =>
      obtain ⟨h1, h2, h3⟩ := drop_cons hd
      have h4 : (k : Int) < all.length := by omega
      have hc : c < 128 := hA c (List.mem_of_getElem? h1)
      simp only [e_and, e_op, e_var, List.getElem?_cons_zero, List.getElem?_cons_succ, rbind_ok, e_call, e_cons, e_nil, cLen_s (show all.length ≤ 5000000 by omega), oLt_int, h4, decide_true, ix_s (show all.length ≤ 5000000 by omega) h1, word_sign_ok hc, hr c r rfl]
  | c :: w, rest, k, fuel, hd, hk, hw, hr, hf => by
    obtain ⟨h1, h2, h3⟩ := drop_cons hd
    have h4 : (k : Int) < all.length := by omega
    have hc : c < 128 := hA c (List.mem_of_getElem? h1)
    obtain ⟨g, rfl⟩ : ∃ g, fuel = g + 1 := ⟨fuel - 1, by rw [List.length_cons] at hf; omega⟩
    refine (while_nx (s1 := s) (s2 := s) (ε2 := [some (.str (strOf all)), x1, some (.int ((k + 1 : Nat) : Int)), x3]) ?_ ?_).trans ?_
    · unfold T_script_tokens1
      simp only [e_and, e_op, e_var, List.getElem?_cons_zero, List.getElem?_cons_succ, rbind_ok, e_call, e_cons, e_nil, cLen_s (show all.length ≤ 5000000 by omega), oLt_int, h4, decide_true, ix_s (show all.length ≤ 5000000 by omega) h1, word_sign_ok hc, hw c List.mem_cons_self]
    · unfold W_script_tokens1
      simp only [e_aug, e_var, e_c, List.getElem?_cons_zero, List.getElem?_cons_succ, rto_ok, oIadd_int, List.set_cons_succ, List.set_cons_zero]
      rfl
    · rw [word_loop hA hz x1 x3 s w rest (k + 1) g h2 (by omega) (fun d hd => hw d (List.mem_cons_of_mem _ hd)) hr (by rw [List.length_cons] at hf; omega), List.length_cons, show k + 1 + w.length = k + (w.length + 1) by omega]
theorem cut_s {a b : Option Int} : cutS (strOf all) a b = strOf ((all.drop (HT.sIx all.length 0 a)).take (HT.sIx all.length all.length b - HT.sIx all.length 0 a)) := by
  unfold cutS
  rw [str_len]
  rfl
theorem sl_o {a b : Option Int} (hz : all.length ≤ 5000000) (s : S) : oSl (.str (strOf all)) a b s = .ok (.str (strOf ((all.drop (HT.sIx all.length 0 a)).take (HT.sIx all.length all.length b - HT.sIx all.length 0 a)))) s := by
  show (if (strOf all).length ≤ sizeLine then R.ok (D.str (cutS (strOf all) a b)) s else R.bad) = _
  rw [if_pos (by rw [str_len, sizeL]; omega), cut_s]
theorem sl_s {k j : Nat} (hk : k ≤ j) (hj : j ≤ all.length) (hz : all.length ≤ 5000000) (s : S) : oSl (.str (strOf all)) (some (k : Int)) (some (j : Int)) s = .ok (.str (strOf ((all.drop k).take (j - k)))) s := by
  rw [sl_o hz, HT.sIx_nat, HT.sIx_nat, Nat.min_eq_left hj, Nat.min_eq_left (by omega)]
/-- text[first:at] in (" ", "\n") -/
theorem in_blank (t : List Nat) (s : S) : oIn true (.str (strOf t)) (.tup [.str (strOf [32]), .str (strOf [10])]) s = .ok (.bl (!(decide ([32] = t) || decide ([10] = t)))) s := by
  show inSeqK true _ _ s = _
  unfold inSeqK
  rw [if_pos ⟨rfl, rfl⟩]
  show R.ok (D.bl (!((strOf [32] == strOf t) || ((strOf [10] == strOf t) || false)))) s = _
  rw [strOf_eq, strOf_eq, Bool.or_false]
noncomputable def restP : B := (sIf (mOp (oIn true) (mSl (mVar 0) (pAt (mVar 3)) (pAt (mVar 2))) (mTup (mCons (mC (.str (strOf [32]))) (mCons (mC (.str (strOf [10]))) mNil))))
  (sExpr (mMeth isLst oApp (mVar 1) (mCons (mTup (mCons (mSl (mVar 0) (pAt (mVar 3)) (pAt (mVar 2))) (mCons (mVar 3) mNil))) mNil)))
  bNil)
variable {r : Nat} {acc : List Tok'} {s : S}
theorem put_tok {k j : Nat} (hk : k ≤ j) (hj : j ≤ all.length) (hz : all.length ≤ 1000000) (hs : s[r]? = some (C.lst (acc.map tokD))) (ha : acc.length ≤ 4000000) :
    restP [some (.str (strOf all)), some (.ref r), some (.int (j : Int)), some (.int (k : Int))] s = .nx [some (.str (strOf all)), some (.ref r), some (.int (j : Int)), some (.int (k : Int))]
      (s.set r (C.lst ((acc ++ (if [32] = (all.drop k).take (j - k) ∨ [10] = (all.drop k).take (j - k) then [] else [((all.drop k).take (j - k), k)])).map tokD))) := by
  unfold restP
  have a3 := app_tok (t := ((all.drop k).take (j - k), k)) hs (by omega)
  have a3 : oApp (.ref r) [.tup [.str (strOf ((all.drop k).take (j - k))), .int (k : Int)]] s = _ := a3
  have hsl := sl_s hk hj (by omega) s
  generalize (all.drop k).take (j - k) = t at a3 hsl
  have hin := in_blank t s
  by_cases h1 : [32] = t
  · rw [if_pos (.inl h1), List.append_nil, set_self hs]
    rw [decide_eq_true h1] at hin
    simp only [e_sif, e_op, e_sl, e_var, List.getElem?_cons_zero, List.getElem?_cons_succ, rbind_ok, e_pAt, hsl, e_tup, e_cons, e_c, e_nil, List.length_cons, List.length_nil, if_pos two_le, hin, Bool.true_or, Bool.not_true, rto_ok, ifK_f, e_bnil]
  · by_cases h2 : [10] = t
    · rw [if_pos (.inr h2), List.append_nil, set_self hs]
      rw [decide_eq_true h2] at hin
      simp only [e_sif, e_op, e_sl, e_var, List.getElem?_cons_zero, List.getElem?_cons_succ, rbind_ok, e_pAt, hsl, e_tup, e_cons, e_c, e_nil, List.length_cons, List.length_nil, if_pos two_le, hin, Bool.or_true, Bool.not_true, rto_ok, ifK_f, e_bnil]
    · rw [if_neg (fun z => z.elim h1 h2)]
      rw [decide_eq_false h1, decide_eq_false h2] at hin
      simp only [e_sif, e_op, e_sl, e_var, List.getElem?_cons_zero, List.getElem?_cons_succ, rbind_ok, e_pAt, hsl, e_tup, e_cons, e_c, e_nil, List.length_cons, List.length_nil, if_pos two_le, hin, Bool.or_false, Bool.not_false, rto_ok, ifK_t, e_expr, e_meth, isLst_ok hs, if_true, a3]
end
end G83
end Mi

namespace Mi
namespace G83
open PySem PySem.Spec PyProof.Rows L2

/-! ### the program's tokens: the walk -/
section
variable {all : List Nat} {r : Nat}
theorem wf_is : wf - 1 + 1 = wf := by
  unfold wf
  rfl
theorem tok_turn {k j : Nat} {w rest : List Nat} {acc : List Tok'} {s : S} {o3 : Option D} (hA : Asc all) (hz : all.length ≤ 1000000) (hd : all.drop k = w ++ rest) (hk : k ≤ all.length) (hw : ∀ c ∈ w, isW c = true) (hr : ∀ c r, rest = c :: r → isW c = false)
    (hj : j = if w = [] then k + 1 else k + w.length) (hl : j ≤ all.length) (hs : s[r]? = some (C.lst (acc.map tokD))) (ha : acc.length ≤ 4000000) :
    W_script_tokens2 [some (.str (strOf all)), some (.ref r), some (.int (k : Int)), o3] s = .nx [some (.str (strOf all)), some (.ref r), some (.int (j : Int)), some (.int (k : Int))]
      (s.set r (C.lst ((acc ++ (if [32] = (all.drop k).take (j - k) ∨ [10] = (all.drop k).take (j - k) then [] else [((all.drop k).take (j - k), k)])).map tokD))) := by
  have eW : W_script_tokens2 = bSeq (sSet 3 (mVar 2)) (bSeq (whileK T_script_tokens1 W_script_tokens1 wf) (bSeq (sIf (mOp oEq (mVar 2) (mVar 3)) (sAug oIadd 2 (mC (.int 1))) bNil) restP)) := rfl
  have hwl : w.length ≤ all.length := by
    have := congrArg List.length hd
    rw [List.length_drop, List.length_append] at this
    omega
  have h1 := word_loop hA hz (some (.ref r)) (some (.int (k : Int))) s w rest k (wf - 1) hd hk hw hr (by unfold wf; omega)
  rw [wf_is] at h1
  have hkj : k ≤ j := by
    rw [hj]
    split <;> omega
  have h2 := put_tok hkj hl hz hs ha
  rw [eW]
  rw [e_seq, e_set, mVar_ok (d := .int (k : Int)) rfl, rto_ok, obind_nx, e_seq]
  rw [show ([some (.str (strOf all)), some (.ref r), some (.int (k : Int)), o3] : Ev).set 3 (some (.int (k : Int))) = [some (.str (strOf all)), some (.ref r), some (.int (k : Int)), some (.int (k : Int))] from rfl, h1, obind_nx, e_seq]
  by_cases e : w = []
  · subst e
    rw [if_pos rfl] at hj
    subst hj
    rw [← h2]
    simp only [e_sif, e_op, e_var, List.getElem?_cons_zero, List.getElem?_cons_succ, rbind_ok, rto_ok, List.length_nil, Nat.add_zero, oEq_int, decide_true, ifK_t, e_aug, e_c, oIadd_int, List.set_cons_succ, List.set_cons_zero, obind_nx]
    rfl
  · rw [if_neg e] at hj
    subst hj
    have h3 : ¬ ((k + w.length : Nat) : Int) = (k : Int) := by
      have : 0 < w.length := List.length_pos_iff.mpr e
      omega
    rw [← h2]
    simp only [e_sif, e_op, e_var, List.getElem?_cons_zero, List.getElem?_cons_succ, rbind_ok, rto_ok, oEq_int, decide_eq_false h3, ifK_f, e_bnil, obind_nx]
theorem tok_walk (hA : Asc all) (hz : all.length ≤ 1000000) : ∀ (n : Nat) (cs : List Nat) (k fuel : Nat) (acc : List Tok') (o3 : Option D) (s : S), cs.length ≤ n → all.drop k = cs → k ≤ all.length → acc.length ≤ k → cs.length ≤ fuel → s[r]? = some (C.lst (acc.map tokD)) →
    ∃ o3', whileK T_script_tokens2 W_script_tokens2 (fuel + 1) [some (.str (strOf all)), some (.ref r), some (.int (k : Int)), o3] s = .nx [some (.str (strOf all)), some (.ref r), some (.int (all.length : Int)), o3'] (s.set r (C.lst ((acc ++ lt [] k cs).map tokD))) := by
  intro n
  induction n with
  | zero =>
    intro cs k fuel acc o3 s hn hd hk ha hf hs
    obtain rfl : cs = [] := List.eq_nil_of_length_eq_zero (by omega)
    have := drop_nil hd
    obtain rfl : k = all.length := by omega
    refine ⟨o3, ?_⟩
    rw [show lt [] all.length [] = [] from rfl, List.append_nil, set_self hs]
    refine while_f ?_
    unfold T_script_tokens2
    have h3 : ¬ (all.length : Int) < all.length := by omega
    simp only [e_op, e_var, List.getElem?_cons_zero, List.getElem?_cons_succ, rbind_ok, e_call, e_cons, e_nil, cLen_s (show all.length ≤ 5000000 by omega), oLt_int, h3, decide_false]
  | succ n ih =>
    intro cs k fuel acc o3 s hn hd hk ha hf hs
    cases cs with
    | nil =>
      exact ih [] k fuel acc o3 s (Nat.zero_le _) hd hk ha hf hs
    | cons c cr =>
      obtain ⟨h1, h2, h3⟩ := drop_cons hd
      obtain ⟨g, rfl⟩ : ∃ g, fuel = g + 1 := ⟨fuel - 1, by rw [List.length_cons] at hf; omega⟩
      have hT : T_script_tokens2 [some (.str (strOf all)), some (.ref r), some (.int (k : Int)), o3] s = .ok (.bl true) s := by
        unfold T_script_tokens2
        have h3 : (k : Int) < all.length := by omega
        simp only [e_op, e_var, List.getElem?_cons_zero, List.getElem?_cons_succ, rbind_ok, e_call, e_cons, e_nil, cLen_s (show all.length ≤ 5000000 by omega), oLt_int, h3, decide_true]
      have hlen : all.length = k + (c :: cr).length := by
        have := congrArg List.length hd
        rw [List.length_drop] at this
        omega
      by_cases hc : isW c = true
      · have hsp : c :: cr = (c :: cr).takeWhile isW ++ (c :: cr).dropWhile isW := (List.takeWhile_append_dropWhile).symm
        have hwp : ∀ d ∈ (c :: cr).takeWhile isW, isW d = true := fun d hd => by
          have := List.all_takeWhile (p := isW) (l := c :: cr)
          rw [List.all_eq_true] at this
          exact this d hd
        have hrp : ∀ d r, (c :: cr).dropWhile isW = d :: r → isW d = false := fun d r e => by
          have := List.head?_dropWhile_not (p := isW) (c :: cr)
          rw [e] at this
          simpa using this
        have hwn : (c :: cr).takeWhile isW ≠ [] := by
          rw [List.takeWhile_cons, if_pos hc]
          exact List.cons_ne_nil _ _
        generalize (c :: cr).takeWhile isW = w at hsp hwp hwn
        generalize (c :: cr).dropWhile isW = rest at hsp hrp
        have hpos : 0 < w.length := List.length_pos_iff.mpr hwn
        have hll := congrArg List.length hsp
        rw [List.length_append] at hll
        have hb := tok_turn (r := r) (j := k + w.length) (o3 := o3) hA hz (hd.trans hsp) hk hwp hrp (by rw [if_neg hwn]) (by omega) hs (by omega)
        have ht : (all.drop k).take (k + w.length - k) = w := by
          rw [hd, hsp, show k + w.length - k = w.length by omega, List.take_left]
        rw [ht] at hb
        have n1 : ¬ ([32] = w ∨ [10] = w) := fun z => by
          rcases z with z | z
          · have := hwp 32 (by rw [← z]; exact List.mem_singleton_self _)
            exact absurd this (by decide)
          · have := hwp 10 (by rw [← z]; exact List.mem_singleton_self _)
            exact absurd this (by decide)
        rw [if_neg n1] at hb
        have hdr : all.drop (k + w.length) = rest := by
          rw [← List.drop_drop, hd, hsp, List.drop_left]
        obtain ⟨p, e⟩ := ih rest (k + w.length) g (acc ++ [(w, k)]) (some (.int (k : Int))) _ (by rw [List.length_cons] at hll hn; omega) hdr (by omega) (by rw [List.length_append, List.length_singleton]; omega) (by rw [List.length_cons] at hll hf; omega) (set_at hs)
        refine ⟨p, (while_nx hT hb).trans (e.trans ?_)⟩
        have el : lt [] k (c :: cr) = (w, k) :: lt [] (k + w.length) rest := by
          rw [hsp, lt_word w rest [] k hwp hrp, List.nil_append]
          unfold flush
          rw [if_neg hwn, show k + w.length - w.length = k by omega]
          rfl
        rw [el, List.set_set, List.append_assoc]
        rfl
      · have hc' : isW c = false := by simpa using hc
        have hb := tok_turn (r := r) (j := k + 1) (o3 := o3) (w := []) (rest := c :: cr) hA hz hd hk (fun d h => by cases h) (fun d r e => by
          cases e
          exact hc') (by rw [if_pos rfl]) (by omega) hs (by omega)
        have ht : (all.drop k).take (k + 1 - k) = [c] := by
          rw [hd, show k + 1 - k = 1 by omega]
          rfl
        rw [ht] at hb
        have e1 : (if [32] = [c] ∨ [10] = [c] then ([] : List Tok') else [([c], k)]) = one c k := by
          unfold one blank
          by_cases h5 : c = 32
          · subst h5
            rfl
          · by_cases h6 : c = 10
            · subst h6
              rfl
            · rw [if_neg (fun z => by
                rcases z with z | z
                · cases z
                  exact h5 rfl
                · cases z
                  exact h6 rfl), if_neg (by simp [h5, h6])]
        rw [e1] at hb
        have f2 := one_len c k
        obtain ⟨p, e⟩ := ih cr (k + 1) g (acc ++ one c k) (some (.int (k : Int))) _ (by rw [List.length_cons] at hn; omega) h2 (by omega) (by rw [List.length_append]; omega) (by rw [List.length_cons] at hf; omega) (set_at hs)
        refine ⟨p, (while_nx hT hb).trans (e.trans ?_)⟩
        have el : lt [] k (c :: cr) = one c k ++ lt [] (k + 1) cr := by
          simp only [lt, hc', if_neg (show ¬ (false = true) by decide), show flush [] k = [] from rfl, List.nil_append]
        rw [el, List.set_set, List.append_assoc]
theorem script_tokens_ok (hA : Asc all) (hz : all.length ≤ 1000000) (s : S) : F_script_tokens [.str (strOf all)] s = .ok (.ref s.length) (s ++ [C.lst ((lt [] 0 all).map tokD)]) := by
  have e0 : F_script_tokens [.str (strOf all)] s = runO (B_script_tokens [some (.str (strOf all)), none, none, none] s) := by
    unfold F_script_tokens
    rw [runF_eq (n := 1) rfl]
    rfl
  obtain ⟨p, e⟩ := tok_walk (r := s.length) hA hz all.length all 0 (wf - 1) [] none (s ++ [C.lst []]) (Nat.le_refl _) rfl (Nat.zero_le _) (Nat.le_refl _) (by unfold wf; omega) app_last
  rw [wf_is, List.set_append_right _ _ (Nat.le_refl _), Nat.sub_self, List.set_cons_zero] at e
  have e : whileK T_script_tokens2 W_script_tokens2 wf [some (.str (strOf all)), some (.ref s.length), some (.int 0), none] (s ++ [C.lst []]) = _ := e
  rw [e0]
  unfold B_script_tokens
  simp only [e_seq, e_set, e_lst, e_nil, rbind_ok, List.length_nil, Nat.zero_le, if_true, rto_ok, obind_nx, List.set_cons_succ, List.set_cons_zero, e_c, e, e_ret, e_var, List.getElem?_cons_zero, List.getElem?_cons_succ, runO_rt, List.nil_append]
end
end G83
end Mi

namespace Mi
namespace G83
open PySem PySem.Spec PyProof.Rows L2

/-! ### the reader's cell -/
def wd (T : List Tok') (p : Nat) : List Nat := (T[p]?.map (·.1)).getD []
def off (T : List Tok') (L p : Nat) : Nat := (T[p]?.map (·.2)).getD L
def rdC (q L p : Nat) : C := .ins "ScriptReader" [("tokens", .ref q), ("last", .int L), ("at", .int p)]
structure Rdr (ρ q L : Nat) (T : List Tok') (p : Nat) (s : S) : Prop where
  c : s[ρ]? = some (rdC q L p)
  t : s[q]? = some (C.lst (T.map tokD))
@[simp] theorem e_fld {cn f : Str} {m : M} {ε : Ev} {s : S} : mFld cn f m ε s = (m ε s).bind (oFld cn f) := rfl
@[simp] theorem e_methO {cn m : Str} {F : List D → S → R D} {mo : M} {ms : Ev → S → R (List D)} {ε : Ev} {s : S} : mMethO cn m F mo ms ε s = (mo ε s).bind fun x s1 => if hasM cn m x s1 = true then (ms ε s1).bind fun ds s2 => F (x :: ds) s2 else .bad := rfl
@[simp] theorem e_methO0 {cn m : Str} {F : List D → S → R D} {mo : M} {ε : Ev} {s : S} : mMethO0 cn m F mo ε s = (mo ε s).bind fun x s1 => if hasM cn m x s1 = true then F [x] s1 else .bad := rfl
@[simp] theorem e_meth0 {chk : D → S → Bool} {f : D → List D → S → R D} {mo : M} {ε : Ev} {s : S} : mMeth0 chk f mo ε s = (mo ε s).bind fun x s1 => if chk x s1 = true then f x [] s1 else .bad := rfl
@[simp] theorem e_fldM {cn f : Str} {mv mo : M} {ε : Ev} {s : S} : sFldM cn f mv mo ε s = (mv ε s).to fun d s1 => (mo ε s1).to fun o s2 => putO cn f o d ε s2 := rfl
@[simp] theorem e_fldAdd {cn f : Str} {mo mv : M} {ε : Ev} {s : S} : sFldAdd cn f mo mv ε s = (mo ε s).to fun o s1 => (oFld cn f o s1).to fun x s2 => (mv ε s2).to fun y s3 => addPut cn f o x y ε s3 := rfl
section
variable {ρ q L p : Nat} {T : List Tok'} {s : S}
theorem insK_ok {cn : Str} {fs : List (Str × D)} (h : s[ρ]? = some (C.ins cn fs)) : insK cn (.ref ρ) s = some (ρ, fs) := by
  show (match s[ρ]? with
    | some (.ins c fs) => if c = cn then some (ρ, fs) else none
    | _ => none) = _
  rw [h]
  exact if_pos rfl
theorem f_at (h : Rdr ρ q L T p s) : oFld "ScriptReader" "at" (.ref ρ) s = .ok (.int p) s := by
  unfold oFld
  rw [insK_ok h.c]
  rfl
theorem f_tokens (h : Rdr ρ q L T p s) : oFld "ScriptReader" "tokens" (.ref ρ) s = .ok (.ref q) s := by
  unfold oFld
  rw [insK_ok h.c]
  rfl
theorem f_last (h : Rdr ρ q L T p s) : oFld "ScriptReader" "last" (.ref ρ) s = .ok (.int L) s := by
  unfold oFld
  rw [insK_ok h.c]
  rfl
theorem has_m {m : Str} (h : Rdr ρ q L T p s) (hm : (List.lookup m [(("tokens" : Str), D.ref q), ("last", .int L), ("at", .int p)]).isNone = true) : hasM "ScriptReader" m (.ref ρ) s = true := by
  unfold hasM
  rw [insK_ok h.c]
  exact hm
theorem tlen (h : Rdr ρ q L T p s) : cLen [.ref q] s = .ok (.int T.length) s := by
  rw [cLen_lst h.t, List.length_map]
theorem tix {i : Nat} {t : Tok'} (h : Rdr ρ q L T p s) (e : T[i]? = some t) : oIx (.ref q) (.int (i : Int)) s = .ok (tokD t) s :=
  oIx_lst h.t (by rw [atI_nat, List.getElem?_map, e]; rfl)
theorem tok0 (t : Tok') (s : S) : oIx (tokD t) (.int 0) s = .ok (.str (strOf t.1)) s := rfl
theorem tok1 (t : Tok') (s : S) : oIx (tokD t) (.int 1) s = .ok (.int t.2) s := rfl
theorem here_ok (h : Rdr ρ q L T p s) : F_ScriptReader_here [.ref ρ] s = .ok (.str (strOf (wd T p))) s := by
  have e0 : F_ScriptReader_here [.ref ρ] s = runO (B_ScriptReader_here [some (.ref ρ)] s) := by
    unfold F_ScriptReader_here
    rw [runF_eq (n := 1) rfl]
    rfl
  rw [e0]
  unfold B_ScriptReader_here wd
  by_cases hp : p < T.length
  · have h3 : (p : Int) < T.length := by omega
    have e := List.getElem?_eq_getElem hp
    have e2 := tix h e
    simp only [e_seq, e_sif, e_op, e_fld, e_var, List.getElem?_cons_zero, rbind_ok, f_at h, f_tokens h, e_call, e_cons, e_nil, tlen h, oLt_int, h3, decide_true, rto_ok, ifK_t, e_ret, e2, e_c, tok0, obind_rt, runO_rt]
    rw [e]
    rfl
  · have h3 : ¬ (p : Int) < T.length := by omega
    rw [List.getElem?_eq_none (by omega)]
    simp only [e_seq, e_sif, e_op, e_fld, e_var, List.getElem?_cons_zero, rbind_ok, f_at h, f_tokens h, e_call, e_cons, e_nil, tlen h, oLt_int, h3, decide_false, rto_ok, ifK_f, e_bnil, obind_nx, e_ret, e_c, runO_rt]
    rfl
theorem offset_ok (h : Rdr ρ q L T p s) : F_ScriptReader_offset [.ref ρ] s = .ok (.int (off T L p)) s := by
  have e0 : F_ScriptReader_offset [.ref ρ] s = runO (B_ScriptReader_offset [some (.ref ρ)] s) := by
    unfold F_ScriptReader_offset
    rw [runF_eq (n := 1) rfl]
    rfl
  rw [e0]
  unfold B_ScriptReader_offset off
  by_cases hp : p < T.length
  · have h3 : (p : Int) < T.length := by omega
    have e := List.getElem?_eq_getElem hp
    have e2 := tix h e
    simp only [e_seq, e_sif, e_op, e_fld, e_var, List.getElem?_cons_zero, rbind_ok, f_at h, f_tokens h, e_call, e_cons, e_nil, tlen h, oLt_int, h3, decide_true, rto_ok, ifK_t, e_ret, e2, e_c, tok1, obind_rt, runO_rt]
    rw [e]
    rfl
  · have h3 : ¬ (p : Int) < T.length := by omega
    rw [List.getElem?_eq_none (by omega)]
    simp only [e_seq, e_sif, e_op, e_fld, e_var, List.getElem?_cons_zero, rbind_ok, f_at h, f_tokens h, e_call, e_cons, e_nil, tlen h, oLt_int, h3, decide_false, rto_ok, ifK_f, e_bnil, obind_nx, e_ret, f_last h, runO_rt]
    rfl
theorem accept_f (h : Rdr ρ q L T p s) : F_ScriptReader_accept [.ref ρ, .bl false] s = .exc "ScriptError" "at" (.int (off T L p)) s := by
  have e0 : F_ScriptReader_accept [.ref ρ, .bl false] s = runO (B_ScriptReader_accept [some (.ref ρ), some (.bl false), none] s) := by
    unfold F_ScriptReader_accept
    rw [runF_eq (n := 2) rfl]
    rfl
  rw [e0]
  unfold B_ScriptReader_accept
  simp only [e_seq, e_sif, e_not, e_var, List.getElem?_cons_zero, List.getElem?_cons_succ, rbind_ok, Bool.not_false, rto_ok, ifK_t, e_raise, e_methO0, has_m h (m := "offset") rfl, if_true, offset_ok h, obind_ex, runO_ex]
theorem put_at (h : Rdr ρ q L T p s) (i : Nat) (ε : Ev) : putO "ScriptReader" "at" (.ref ρ) (.int (i : Int)) ε s = .nx ε (s.set ρ (rdC q L i)) := by
  unfold putO putAt
  rw [insK_ok h.c]
  rfl
theorem accept_t (h : Rdr ρ q L T p s) : F_ScriptReader_accept [.ref ρ, .bl true] s = .ok (.str (strOf (wd T p))) (s.set ρ (rdC q L (p + 1))) := by
  have e0 : F_ScriptReader_accept [.ref ρ, .bl true] s = runO (B_ScriptReader_accept [some (.ref ρ), some (.bl true), none] s) := by
    unfold F_ScriptReader_accept
    rw [runF_eq (n := 2) rfl]
    rfl
  rw [e0]
  have ep : addPut "ScriptReader" "at" (.ref ρ) (.int (p : Int)) (.int 1) [some (.ref ρ), some (.bl true), some (.str (strOf (wd T p)))] s = .nx [some (.ref ρ), some (.bl true), some (.str (strOf (wd T p)))] (s.set ρ (rdC q L (p + 1))) := by
    have := put_at h (p + 1) [some (.ref ρ), some (.bl true), some (.str (strOf (wd T p)))]
    exact this
  unfold B_ScriptReader_accept
  simp only [e_seq, e_sif, e_not, e_var, List.getElem?_cons_zero, List.getElem?_cons_succ, rbind_ok, Bool.not_true, rto_ok, ifK_f, e_bnil, obind_nx, e_set, e_methO0, has_m h (m := "here") rfl, if_true, here_ok h, List.set_cons_succ, List.set_cons_zero, e_fldAdd, f_at h, e_c, ep, e_ret, runO_rt]
theorem Rdr.set (h : Rdr ρ q L T p s) (hq : ρ ≠ q) (i : Nat) : Rdr ρ q L T i (s.set ρ (rdC q L i)) := ⟨set_at h.c, by rw [set_get, if_neg hq]; exact h.t⟩
theorem Rdr.ne (h : Rdr ρ q L T p s) : ρ ≠ q := fun z => by
  have := h.c
  rw [z, h.t] at this
  cases this
end
end G83
end Mi

namespace Mi
namespace G83
open PySem PySem.Spec PyProof.Rows L2

/-! ### numbers -/
def dig (c : Nat) : Bool := decide (48 ≤ c) && decide (c ≤ 57)
theorem isdigit_s {w : List Nat} (h : Asc w) : Txt.isdigit (strOf w) = (decide (w ≠ []) && w.all dig) := by
  have hd : ∀ c, c < 128 → Unicode.isDigit c = dig c := fun c hc => by
    have e := PySem.W.os_isdigit hc
    have e2 : Txt.isdigit ⟨#[c]⟩ = Unicode.isDigit c := by
      show (decide ((1 : Nat) > 0) && (#[c] : Array Nat).all Unicode.isDigit) = _
      simp
    rw [← e2, e]
    rfl
  show (decide ((strOf w).length > 0) && (w.toArray).all Unicode.isDigit) = _
  rw [str_len, List.all_toArray]
  have e1 : w.all Unicode.isDigit = w.all dig := by
    rw [Bool.eq_iff_iff, List.all_eq_true, List.all_eq_true]
    constructor
    · intro z c hc
      rw [← hd c (h c hc)]
      exact z c hc
    · intro z c hc
      rw [hd c (h c hc)]
      exact z c hc
  rw [e1]
  congr 1
  cases w with
  | nil => rfl
  | cons c w => simp
def val (w : List Nat) : Int := ((NumText.digitsVal w : Nat) : Int)
theorem int_s {w : List Nat} (h : w.all dig = true) (hn : w ≠ []) (hl : w.length ≤ 640) (s : S) : cInt2 [.str (strOf w)] s = .ok (.int (val w)) s := by
  show intK (strOf w) s (PySem.intText? (strOf w)) = _
  have e : PySem.intText? (strOf w) = some (val w) := SX.int_S h hn (by omega)
  rw [e]
  exact if_pos (by rw [str_len]; exact hl)
def fitW (w : List Nat) : Bool := (decide (w ≠ []) && w.all dig) && (decide (w.length ≤ 5) && (decide (w = [48]) || !decide (w.head? = some 48)))
def num (w : List Nat) (lo hi : Int) : Option Int := if fitW w = true ∧ lo ≤ val w ∧ val w ≤ hi then some (val w) else none
theorem ix0_s {c : Nat} {w : List Nat} (hl : w.length ≤ 1000000) (s : S) : oIx (.str (strOf (c :: w))) (.int 0) s = .ok (.str (strOf [c])) s :=
  ix_s (all := c :: w) (k := 0) (by rw [List.length_cons]; omega) rfl s
end G83
end Mi

namespace Mi
namespace G83
open PySem PySem.Spec PyProof.Rows L2

/-! ### read_number -/
noncomputable def fitM : M := (mAnd (mMeth0 isStr oIsdigit (mVar 3)) (mAnd (mOp oLeT (mCall cLen (mCons (mVar 3) mNil)) (mC (.int 5))) (mOr (mOp oEq (mVar 3) (mC (.str (strOf [48])))) (mOp oNe (mOp oIx (mVar 3) (mC (.int 0))) (mC (.str (strOf [48])))))))
theorem isdigit_e {w : List Nat} (h : Asc w) (s : S) : oIsdigit (.str (strOf w)) [] s = .ok (.bl (decide (w ≠ []) && w.all dig)) s := by
  show R.ok (D.bl (Txt.isdigit (strOf w))) s = _
  rw [isdigit_s h]
theorem isStr_s (x : Str) (s : S) : isStr (.str x) s = true := rfl
section
variable {x0 x1 x2 x4 : Option D} {w : List Nat} {s : S}
theorem fit_ok (h : Asc w) (hl : w.length ≤ 1000000) : fitM [x0, x1, x2, some (.str (strOf w)), x4] s = .ok (.bl (fitW w)) s := by
  unfold fitM fitW
  cases w with
  | nil =>
    simp only [e_and, e_meth0, e_var, List.getElem?_cons_zero, List.getElem?_cons_succ, rbind_ok, isStr_s, if_true, isdigit_e h]
    rfl
  | cons c w =>
    have h5 : ((c :: w).length : Int) ≤ 5 ↔ (c :: w).length ≤ 5 := by omega
    have a1 := oEq_s h (asc1 (show 48 < 128 by decide)) s
    have a2 := oNe_s (asc1 (h c List.mem_cons_self)) (asc1 (show 48 < 128 by decide)) s
    have e1 : decide ([c] = [48]) = decide ((c :: w).head? = some 48) := by simp
    rw [e1] at a2
    have e2 : decide (c :: w ≠ []) = true := by simp
    cases hd : (c :: w).all dig with
    | false =>
      simp only [e_and, e_meth0, e_var, List.getElem?_cons_zero, List.getElem?_cons_succ, rbind_ok, isStr_s, if_true, isdigit_e h, hd, Bool.and_false, Bool.false_and]
    | true =>
      by_cases h6 : (c :: w).length ≤ 5
      · by_cases h7 : c :: w = [48]
        · have h9 : decide (c :: w = [48]) = true := decide_eq_true h7
          rw [h9] at a1
          simp only [e_and, e_meth0, e_var, List.getElem?_cons_zero, List.getElem?_cons_succ, rbind_ok, isStr_s, if_true, isdigit_e h, hd, e2, Bool.and_true, e_op, e_call, e_cons, e_nil, cLen_s (show (c :: w).length ≤ 5000000 by omega), e_c, oLeT_int, h5.mpr h6, decide_true, e_or, a1, h9, h6, Bool.true_or, Bool.and_self]
        · simp only [e_and, e_meth0, e_var, List.getElem?_cons_zero, List.getElem?_cons_succ, rbind_ok, isStr_s, if_true, isdigit_e h, hd, e2, Bool.and_true, e_op, e_call, e_cons, e_nil, cLen_s (show (c :: w).length ≤ 5000000 by omega), e_c, oLeT_int, h5.mpr h6, decide_true, e_or, a1, h7, h6, decide_false, Bool.false_or, Bool.true_and, ix0_s (show w.length ≤ 1000000 by rw [List.length_cons] at hl; omega), a2]
      · have h8 : ¬ ((c :: w).length : Int) ≤ 5 := fun z => h6 (h5.mp z)
        simp only [e_and, e_meth0, e_var, List.getElem?_cons_zero, List.getElem?_cons_succ, rbind_ok, isStr_s, if_true, isdigit_e h, hd, e2, Bool.and_true, e_op, e_call, e_cons, e_nil, cLen_s (show (c :: w).length ≤ 5000000 by omega), e_c, oLeT_int, h8, decide_false, h6, Bool.false_and, Bool.and_false]
variable {ρ q L p : Nat} {T : List Tok'}
theorem number_ok (h : Rdr ρ q L T p s) (ha : Asc (wd T p)) (hl : (wd T p).length ≤ 1000000) (lo hi : Int) : F_ScriptReader_read_number [.ref ρ, .int lo, .int hi] s = match num (wd T p) lo hi with
    | some n => .ok (.int n) (s.set ρ (rdC q L (p + 1)))
    | none => .exc "ScriptError" "at" (.int (off T L p)) s := by
  have e0 : F_ScriptReader_read_number [.ref ρ, .int lo, .int hi] s = runO (B_ScriptReader_read_number [some (.ref ρ), some (.int lo), some (.int hi), none, none] s) := by
    unfold F_ScriptReader_read_number
    rw [runF_eq (n := 3) rfl]
    rfl
  have eB : B_ScriptReader_read_number = bSeq (sSet 3 (mMethO0 "ScriptReader" "here" F_ScriptReader_here (mVar 0))) (bSeq (sSet 4 fitM)
    (sRet (mCall cInt2 (mCons (mMethO "ScriptReader" "accept" F_ScriptReader_accept (mVar 0) (mCons (mAnd (mVar 4) (mChain oLeT oLeT (mVar 1) (mCall cInt2 (mCons (mVar 3) mNil)) (mVar 2))) mNil)) mNil)))) := rfl
  have hh := here_ok h
  have h1 := has_m h (m := "here") rfl
  have h2 := has_m h (m := "accept") rfl
  have hf := accept_f h
  have ht := accept_t h
  rw [e0, eB]
  generalize wd T p = w at ha hl hh ht
  have hfit := fit_ok (x0 := some (.ref ρ)) (x1 := some (.int lo)) (x2 := some (.int hi)) (x4 := none) (s := s) ha hl
  unfold num
  cases q1 : fitW w with
  | false =>
    rw [q1] at hfit
    rw [if_neg (fun z => by cases z.1)]
    simp only [e_seq, e_set, e_methO0, e_var, List.getElem?_cons_zero, List.getElem?_cons_succ, rbind_ok, h1, if_true, hh, rto_ok, obind_nx, List.set_cons_succ, List.set_cons_zero, hfit, e_ret, e_call, e_cons, e_methO, h2, e_and, e_nil, hf, rbind_exc, rto_exc, runO_ex]
  | true =>
    rw [q1] at hfit
    have hd : w.all dig = true ∧ w ≠ [] ∧ w.length ≤ 5 := by
      unfold fitW at q1
      simp only [Bool.and_eq_true, decide_eq_true_eq] at q1
      exact ⟨q1.1.2, q1.1.1, q1.2.1⟩
    have hi2 := int_s hd.1 hd.2.1 (by omega) s
    have hi3 := int_s hd.1 hd.2.1 (by omega) (s.set ρ (rdC q L (p + 1)))
    by_cases c1 : lo ≤ val w
    · by_cases c2 : val w ≤ hi
      · rw [if_pos ⟨rfl, c1, c2⟩]
        simp only [e_seq, e_set, e_methO0, e_var, List.getElem?_cons_zero, List.getElem?_cons_succ, rbind_ok, h1, if_true, hh, rto_ok, obind_nx, List.set_cons_succ, List.set_cons_zero, hfit, e_ret, e_call, e_cons, e_methO, h2, e_and, e_nil, e_chain, hi2, oLeT_int, c1, c2, decide_true, e_chKt, ht, hi3, runO_rt]
      · rw [if_neg (fun z => c2 z.2.2)]
        simp only [e_seq, e_set, e_methO0, e_var, List.getElem?_cons_zero, List.getElem?_cons_succ, rbind_ok, h1, if_true, hh, rto_ok, obind_nx, List.set_cons_succ, List.set_cons_zero, hfit, e_ret, e_call, e_cons, e_methO, h2, e_and, e_nil, e_chain, hi2, oLeT_int, c1, c2, decide_true, decide_false, e_chKt, hf, rbind_exc, rto_exc, runO_ex]
    · rw [if_neg (fun z => c1 z.2.1)]
      simp only [e_seq, e_set, e_methO0, e_var, List.getElem?_cons_zero, List.getElem?_cons_succ, rbind_ok, h1, if_true, hh, rto_ok, obind_nx, List.set_cons_succ, List.set_cons_zero, hfit, e_ret, e_call, e_cons, e_methO, h2, e_and, e_nil, e_chain, hi2, oLeT_int, c1, decide_false, e_chKf, hf, rbind_exc, rto_exc, runO_ex]
end
end G83
end Mi

namespace Mi
namespace G83
open PySem PySem.Spec PyProof.Rows L2

/-! ### the reader, plainly -/
inductive PR where
  | ok (d : D) (p : Nat) | err (p : Nat)
def PR.map (f : D → D) : PR → PR
  | .ok d p => .ok (f d) p
  | .err p => .err p
def wU : List Nat := [117, 110, 116, 105, 108]
def wO : List Nat := [111, 110]
def inP (w : List Nat) : Bool := inD (.str (strOf w)) (gs_PASSES.map D.str)
def leadD (w : List Nat) : Bool := match w with
  | [] => false
  | c :: _ => dig c
def nameOk (w : List Nat) : Bool := match w with
  | [] => false
  | c :: _ => (decide (97 ≤ c) && decide (c ≤ 122)) && decide (w.length ≤ 20)
section
variable (T : List Tok')
def pGroup (I : Nat → PR) (d p : Nat) : PR := if wd T p = [123] ∧ d < 8 then (match I (p + 1) with
  | .ok v q => if wd T q = [125] then .ok v (q + 1) else .err q
  | .err e => .err e) else .err p
def pItem (G : Nat → PR) (p : Nat) : PR :=
  if wd T p = wU then (match num (wd T (p + 1)) 1 100 with
    | some n => (G (p + 2)).map fun d => .tup [.str "until", .int n, d]
    | none => .err (p + 1))
  else if wd T p = wO then (if nameOk (wd T (p + 1)) = true then (G (p + 2)).map fun d => .tup [.str "on", .str (strOf (wd T (p + 1))), d] else .err (p + 1))
  else if inP (wd T p) = true then (if leadD (wd T (p + 1)) = true then (match num (wd T (p + 1)) 0 10000 with
      | some n => .ok (.tup [.str "pass", .str (strOf (wd T p)), .int n]) (p + 2)
      | none => .err (p + 1))
    else .ok (.tup [.str "pass", .str (strOf (wd T p)), .int (-1)]) (p + 1))
  else .err p
def pLoop (item : Nat → PR) : Nat → List D → Nat → PR
  | 0, _, p => .err p
  | n + 1, acc, p => match item p with
    | .err e => .err e
    | .ok i q => if wd T q = [59] then pLoop item n (acc ++ [i]) (q + 1) else .ok (.tup (acc ++ [i])) q
def pItems : Nat → Nat → Nat → PR
  | 0, _, p => .err p
  | j + 1, d, p => pLoop T (pItem T (pGroup T (pItems j (d + 1)) d)) (T.length + 1) [] p
end
/-- an ok answer is further on, within the tokens -/
def Fwd (T : List Tok') (f : Nat → PR) : Prop := ∀ p d q, f p = .ok d q → p < q ∧ q ≤ T.length
section
variable {T : List Tok'}
theorem wd_in {p : Nat} (h : wd T p ≠ []) : p < T.length := by
  apply Classical.byContradiction
  intro z
  refine h ?_
  unfold wd
  rw [List.getElem?_eq_none (by omega)]
  rfl
theorem num_in {w : List Nat} {lo hi n : Int} (h : num w lo hi = some n) : w ≠ [] := fun z => by
  subst z
  unfold num at h
  rw [if_neg (fun z => by cases z.1)] at h
  cases h
theorem fwd_group {I : Nat → PR} (hI : Fwd T I) (d : Nat) : Fwd T (pGroup T I d) := fun p v q h => by
  unfold pGroup at h
  split at h
  · cases e : I (p + 1) with
    | err _ =>
      rw [e] at h
      cases h
    | ok v' q' =>
      rw [e] at h
      have h : (if wd T q' = [125] then PR.ok v' (q' + 1) else PR.err q') = .ok v q := h
      split at h
      · rename_i hq
        cases h
        have := hI _ _ _ e
        have := wd_in (T := T) (p := q') (by rw [hq]; exact List.cons_ne_nil _ _)
        omega
      · cases h
  · cases h
theorem fwd_item {G : Nat → PR} (hG : Fwd T G) : Fwd T (pItem T G) := fun p v q h => by
  unfold pItem at h
  split at h
  · cases e : num (wd T (p + 1)) 1 100 with
    | none =>
      rw [e] at h
      cases h
    | some n =>
      rw [e] at h
      cases e2 : G (p + 2) with
      | err _ =>
        rw [e2] at h
        cases h
      | ok d' q' =>
        rw [e2] at h
        cases h
        have := hG _ _ _ e2
        omega
  · split at h
    · split at h
      · cases e2 : G (p + 2) with
        | err _ =>
          rw [e2] at h
          cases h
        | ok d' q' =>
          rw [e2] at h
          cases h
          have := hG _ _ _ e2
          omega
      · cases h
    · split at h
      · rename_i hp
        have hw : wd T p ≠ [] := fun z => by
          rw [z] at hp
          exact absurd hp (by decide +kernel)
        have := wd_in hw
        split at h
        · cases e : num (wd T (p + 1)) 0 10000 with
          | none =>
            rw [e] at h
            cases h
          | some n =>
            rw [e] at h
            cases h
            have := wd_in (num_in e)
            omega
        · cases h
          omega
      · cases h
theorem fwd_loop {item : Nat → PR} (hI : Fwd T item) : ∀ (n : Nat) (acc : List D), Fwd T (pLoop T item n acc)
  | 0, acc => fun p v q h => by cases h
  | n + 1, acc => fun p v q h => by
    unfold pLoop at h
    cases e : item p with
    | err _ =>
      rw [e] at h
      cases h
    | ok i q' =>
      rw [e] at h
      have h : (if wd T q' = [59] then pLoop T item n (acc ++ [i]) (q' + 1) else .ok (.tup (acc ++ [i])) q') = .ok v q := h
      have := hI _ _ _ e
      split at h
      · have := fwd_loop hI n _ _ _ _ h
        omega
      · cases h
        omega
theorem fwd_items : ∀ (j d : Nat), Fwd T (pItems T j d)
  | 0, d => fun p v q h => by cases h
  | j + 1, d => fwd_loop (fwd_item (fwd_group (fwd_items j (d + 1)) d)) _ _
end
end G83
end Mi

namespace Mi
namespace G83
open PySem PySem.Spec PyProof.Rows L2

/-! ### the program's methods read so -/
/-- all cells but one are kept -/
def Kp (ρ : Nat) (s t : S) : Prop := ∀ (r : Nat) (c : C), r ≠ ρ → s[r]? = some c → t[r]? = some c
theorem Kp.refl {ρ : Nat} {s : S} : Kp ρ s s := fun _ _ _ h => h
theorem Kp.trans {ρ : Nat} {s t u : S} (a : Kp ρ s t) (b : Kp ρ t u) : Kp ρ s u := fun r c n h => b r c n (a r c n h)
theorem Kp.set {ρ : Nat} {s : S} {c : C} : Kp ρ s (s.set ρ c) := fun r e n h => by
  rw [set_get, if_neg (Ne.symm n)]
  exact h
theorem Kp.app {ρ : Nat} {s t : S} : Kp ρ s (s ++ t) := fun r e n h => by
  rw [app_get (lt_of_get h)]
  exact h
def ROk (r : R D) (s : S) (ρ q L : Nat) (T : List Tok') : PR → Prop
  | .ok d p => ∃ s', r = .ok d s' ∧ Rdr ρ q L T p s' ∧ Kp ρ s s'
  | .err p => ∃ s', r = .exc "ScriptError" "at" (.int (off T L p)) s' ∧ Kp ρ s s'
/-- the words of the tokens -/
structure TOk (T : List Tok') : Prop where
  asc : ∀ p, Asc (wd T p)
  len : ∀ p, (wd T p).length ≤ 1000000
  size : T.length ≤ 4000000
section
variable {ρ q L p : Nat} {T : List Tok'} {s : S}
theorem accept_ok (h : Rdr ρ q L T p s) (b : Bool) : F_ScriptReader_accept [.ref ρ, .bl b] s = if b = true then .ok (.str (strOf (wd T p))) (s.set ρ (rdC q L (p + 1))) else .exc "ScriptError" "at" (.int (off T L p)) s := by
  cases b with
  | true => rw [if_pos rfl, accept_t h]
  | false => rw [if_neg (by decide), accept_f h]
theorem eq_here (hT : TOk T) (h : Rdr ρ q L T p s) {w : List Nat} (hw : Asc w) {x1 x2 : Option D} : mOp oEq (mMethO0 "ScriptReader" "here" F_ScriptReader_here (mVar 0)) (mC (.str (strOf w))) [some (.ref ρ), x1, x2] s = .ok (.bl (decide (wd T p = w))) s := by
  simp only [e_op, e_methO0, e_var, List.getElem?_cons_zero, rbind_ok, has_m h (m := "here") rfl, if_true, here_ok h, e_c, oEq_s (hT.asc p) hw]
theorem group_ok (hT : TOk T) {F : List D → S → R D} {I : Nat → PR} {d : Nat} (hI : d < 8 → ∀ p s, Rdr ρ q L T p s → ROk (F [.ref ρ, .int ((d + 1 : Nat) : Int)] s) s ρ q L T (I p)) (h : Rdr ρ q L T p s) :
    ROk (runF 2 3 (B_ScriptReader_read_group F) [.ref ρ, .int (d : Int)] s) s ρ q L T (pGroup T I d p) := by
  have e0 : runF 2 3 (B_ScriptReader_read_group F) [.ref ρ, .int (d : Int)] s = runO (B_ScriptReader_read_group F [some (.ref ρ), some (.int (d : Int)), none] s) := by
    rw [runF_eq (n := 2) rfl]
    rfl
  have eB : B_ScriptReader_read_group F = bSeq (sExpr (mMethO "ScriptReader" "accept" F_ScriptReader_accept (mVar 0) (mCons (mAnd (mOp oEq (mMethO0 "ScriptReader" "here" F_ScriptReader_here (mVar 0)) (mC (.str (strOf [123])))) (mOp oLt (mVar 1) (mC (.int 8)))) mNil)))
    (bSeq (sSet 2 (mMethO "ScriptReader" "read_items" F (mVar 0) (mCons (mOp oAdd (mVar 1) (mC (.int 1))) mNil)))
    (bSeq (sExpr (mMethO "ScriptReader" "accept" F_ScriptReader_accept (mVar 0) (mCons (mOp oEq (mMethO0 "ScriptReader" "here" F_ScriptReader_here (mVar 0)) (mC (.str (strOf [125])))) mNil)))
    (sRet (mVar 2)))) := rfl
  have b1 := eq_here (x1 := some (.int (d : Int))) (x2 := none) hT h (asc1 (show 123 < 128 by decide))
  have a1 := has_m h (m := "accept") rfl
  have cond : mAnd (mOp oEq (mMethO0 "ScriptReader" "here" F_ScriptReader_here (mVar 0)) (mC (.str (strOf [123])))) (mOp oLt (mVar 1) (mC (.int 8))) [some (.ref ρ), some (.int (d : Int)), none] s = .ok (.bl (decide (wd T p = [123] ∧ d < 8))) s := by
    rw [e_and, b1, rbind_ok]
    by_cases c1 : wd T p = [123]
    · by_cases c2 : d < 8
      · have c3 : (d : Int) < 8 := by omega
        rw [decide_eq_true c1, decide_eq_true ⟨c1, c2⟩]
        simp only [e_op, e_var, List.getElem?_cons_zero, List.getElem?_cons_succ, rbind_ok, e_c, oLt_int, c3, decide_true]
      · have c3 : ¬ (d : Int) < 8 := by omega
        rw [decide_eq_true c1, decide_eq_false (fun z => c2 z.2)]
        simp only [e_op, e_var, List.getElem?_cons_zero, List.getElem?_cons_succ, rbind_ok, e_c, oLt_int, c3, decide_false]
    · rw [decide_eq_false c1, decide_eq_false (fun z => c1 z.1)]
  rw [e0, eB, e_seq, e_expr, e_methO, mVar_ok (d := .ref ρ) rfl, rbind_ok, if_pos a1, e_cons, cond, rbind_ok, e_nil, rbind_ok, rbind_ok, accept_ok h]
  unfold pGroup
  by_cases c : wd T p = [123] ∧ d < 8
  · rw [if_pos c, decide_eq_true c, if_pos rfl, rto_ok, obind_nx]
    have h1 : Rdr ρ q L T (p + 1) (s.set ρ (rdC q L (p + 1))) := h.set h.ne (p + 1)
    have hi := hI c.2 _ _ h1
    have a2 := has_m h1 (m := "read_items") rfl
    rw [e_seq, e_set, e_methO, mVar_ok (d := .ref ρ) rfl, rbind_ok, if_pos a2, e_cons, e_op, mVar_ok (d := .int (d : Int)) rfl, rbind_ok, e_c, rbind_ok, oAdd_int, rbind_ok, e_nil, rbind_ok, rbind_ok, show ((d : Int) + 1) = ((d + 1 : Nat) : Int) by omega]
    cases eI : I (p + 1) with
    | err e =>
      rw [eI] at hi
      obtain ⟨s', e2, k2⟩ := hi
      refine ⟨s', ?_, Kp.set.trans k2⟩
      rw [e2, rto_exc, obind_ex, runO_ex]
    | ok v p2 =>
      rw [eI] at hi
      obtain ⟨s2, e2, h2, k2⟩ := hi
      have b2 := eq_here (x1 := some (.int (d : Int))) (x2 := some v) hT h2 (asc1 (show 125 < 128 by decide))
      have a3 := has_m h2 (m := "accept") rfl
      rw [e2, rto_ok, obind_nx, show ([some (.ref ρ), some (.int (d : Int)), none] : Ev).set 2 (some v) = [some (.ref ρ), some (.int (d : Int)), some v] from rfl, e_seq, e_expr, e_methO, mVar_ok (d := .ref ρ) rfl, rbind_ok, if_pos a3, e_cons, b2, rbind_ok, e_nil, rbind_ok, rbind_ok, accept_ok h2]
      show ROk _ _ _ _ _ _ (if wd T p2 = [125] then PR.ok v (p2 + 1) else PR.err p2)
      by_cases c4 : wd T p2 = [125]
      · rw [if_pos c4, decide_eq_true c4, if_pos rfl, rto_ok, obind_nx, e_ret, mVar_ok (d := v) rfl, rto_ok, runO_rt]
        exact ⟨_, rfl, h2.set h2.ne (p2 + 1), (Kp.set.trans k2).trans Kp.set⟩
      · rw [if_neg c4, decide_eq_false c4, if_neg (by decide), rto_exc, obind_ex, runO_ex]
        exact ⟨_, rfl, Kp.set.trans k2⟩
  · rw [if_neg c, decide_eq_false c, if_neg (by decide), rto_exc, obind_ex, runO_ex]
    exact ⟨_, rfl, Kp.refl⟩
end
end G83
end Mi

namespace Mi
namespace G83
open PySem PySem.Spec PyProof.Rows L2

theorem three_le : (3 : Nat) ≤ sizeLine := small_le (by decide)
section
variable {ρ q L p : Nat} {T : List Tok'} {s : S}
noncomputable def blkU (F : List D → S → R D) : B := (bSeq (sExpr (mMethO "ScriptReader" "accept" F_ScriptReader_accept (mVar 0) (mCons (mC (.bl true)) mNil)))
  (bSeq (sSet 3 (mMethO "ScriptReader" "read_number" F_ScriptReader_read_number (mVar 0) (mCons (mC (.int 1)) (mCons (mC (.int 100)) mNil))))
  (sRet (mTup (mCons (mC (.str ("until" : Str))) (mCons (mVar 3) (mCons (mMethO "ScriptReader" "read_group" F (mVar 0) (mCons (mVar 1) mNil)) mNil)))))))
/-- a block that ends by a value or an error -/
def BOk (o : O) (s : S) (ρ q L : Nat) (T : List Tok') : PR → Prop
  | .ok d p => ∃ s', o = .rt d s' ∧ Rdr ρ q L T p s' ∧ Kp ρ s s'
  | .err p => ∃ s', o = .ex "ScriptError" "at" (.int (off T L p)) s' ∧ Kp ρ s s'
theorem until_ok (hT : TOk T) {F : List D → S → R D} {G : Nat → PR} {d : Nat} (hG : ∀ p s, Rdr ρ q L T p s → ROk (F [.ref ρ, .int (d : Int)] s) s ρ q L T (G p)) (h : Rdr ρ q L T p s) {w : D} :
    BOk (blkU F [some (.ref ρ), some (.int (d : Int)), some w, none, none, none] s) s ρ q L T (match num (wd T (p + 1)) 1 100 with
      | some n => (G (p + 2)).map fun d => .tup [.str "until", .int n, d]
      | none => .err (p + 1)) := by
  unfold blkU
  have h1 : Rdr ρ q L T (p + 1) (s.set ρ (rdC q L (p + 1))) := h.set h.ne (p + 1)
  rw [e_seq, e_expr, e_methO, mVar_ok (d := .ref ρ) rfl, rbind_ok, if_pos (has_m h rfl), e_cons, e_c, rbind_ok, e_nil, rbind_ok, rbind_ok, accept_ok h, if_pos rfl, rto_ok, obind_nx]
  rw [e_seq, e_set, e_methO, mVar_ok (d := .ref ρ) rfl, rbind_ok, if_pos (has_m h1 rfl), e_cons, e_c, rbind_ok, e_cons, e_c, rbind_ok, e_nil, rbind_ok, rbind_ok, rbind_ok, number_ok h1 (hT.asc _) (hT.len _)]
  cases e : num (wd T (p + 1)) 1 100 with
  | none => exact ⟨_, rfl, Kp.set⟩
  | some n =>
    have h2 : Rdr ρ q L T (p + 2) ((s.set ρ (rdC q L (p + 1))).set ρ (rdC q L (p + 1 + 1))) := h1.set h1.ne (p + 2)
    have hg := hG _ _ h2
    show BOk ((O.nx ([some (.ref ρ), some (.int (d : Int)), some w, some (.int n), none, none] : Ev) ((s.set ρ (rdC q L (p + 1))).set ρ (rdC q L (p + 1 + 1)))).bind _) s ρ q L T _
    rw [obind_nx, e_ret, e_tup, e_cons, e_c, rbind_ok, e_cons, mVar_ok (d := .int n) rfl, rbind_ok, e_cons, e_methO, mVar_ok (d := .ref ρ) rfl, rbind_ok, if_pos (has_m h2 rfl), e_cons, mVar_ok (d := .int (d : Int)) rfl, rbind_ok, e_nil, rbind_ok, rbind_ok]
    cases e2 : G (p + 2) with
    | err e3 =>
      rw [e2] at hg
      obtain ⟨s', e4, k4⟩ := hg
      rw [e4]
      exact ⟨s', rfl, (Kp.set.trans Kp.set).trans k4⟩
    | ok v p2 =>
      rw [e2] at hg
      obtain ⟨s', e4, h4, k4⟩ := hg
      rw [e4, rbind_ok, e_nil, rbind_ok, rbind_ok, rbind_ok, rbind_ok, if_pos (show [D.str ("until" : Str), D.int n, v].length ≤ sizeLine from three_le)]
      exact ⟨s', rfl, h4, (Kp.set.trans Kp.set).trans k4⟩
end
end G83
end Mi

namespace Mi
namespace G83
open PySem PySem.Spec PyProof.Rows L2

section
variable {ρ q L p : Nat} {T : List Tok'} {s : S}
noncomputable def nameM : M := (mAnd (mChain oLeT oLeT (mC (.str (strOf [97]))) (mSl (mVar 4) pNo (pAt (mC (.int 1)))) (mC (.str (strOf [122])))) (mOp oLeT (mCall cLen (mCons (mVar 4) mNil)) (mC (.int 20))))
theorem sl1 {w : List Nat} (hl : w.length ≤ 1000000) (s : S) : oSl (.str (strOf w)) none (some 1) s = .ok (.str (strOf (w.take 1))) s := by
  rw [sl_o (by omega), HT.sIx_none, show (1 : Int) = ((1 : Nat) : Int) from rfl, HT.sIx_nat, List.drop_zero, Nat.sub_zero]
  cases w with
  | nil => rfl
  | cons c w => rw [Nat.min_eq_left (by rw [List.length_cons]; omega)]
theorem name_ok {w : List Nat} (ha : Asc w) (hl : w.length ≤ 1000000) {x0 x1 x2 x3 x5 : Option D} : nameM [x0, x1, x2, x3, some (.str (strOf w)), x5] s = .ok (.bl (nameOk w)) s := by
  unfold nameM nameOk
  cases w with
  | nil =>
    have e : oLeT (.str (strOf [97])) (.str (strOf [])) s = .ok (.bl false) s := rfl
    simp only [e_and, e_chain, e_c, rbind_ok, e_sl, e_var, List.getElem?_cons_zero, List.getElem?_cons_succ, e_pNo, e_pAt, sl1 hl, List.take_nil, e, e_chKf]
  | cons c w =>
    have h5 : ((c :: w).length : Int) ≤ 20 ↔ (c :: w).length ≤ 20 := by omega
    have e1 : (c :: w).take 1 = [c] := rfl
    by_cases a1 : 97 ≤ c <;> by_cases a2 : c ≤ 122 <;> by_cases a3 : (c :: w).length ≤ 20 <;>
      simp only [e_and, e_chain, e_c, rbind_ok, e_sl, e_var, List.getElem?_cons_zero, List.getElem?_cons_succ, e_pNo, e_pAt, sl1 hl, e1, leT_s, a1, a2, decide_true, decide_false, e_chKt, e_chKf, e_op, e_call, e_cons, e_nil, cLen_s (show (c :: w).length ≤ 5000000 by omega), oLeT_int, h5, a3, Bool.and_true, Bool.and_false, Bool.false_and, Bool.and_self, Bool.true_and]
noncomputable def blkO (F : List D → S → R D) : B := (bSeq (sExpr (mMethO "ScriptReader" "accept" F_ScriptReader_accept (mVar 0) (mCons (mC (.bl true)) mNil)))
  (bSeq (sSet 4 (mMethO0 "ScriptReader" "here" F_ScriptReader_here (mVar 0)))
  (bSeq (sSet 5 (mMethO "ScriptReader" "accept" F_ScriptReader_accept (mVar 0) (mCons nameM mNil)))
  (sRet (mTup (mCons (mC (.str ("on" : Str))) (mCons (mVar 5) (mCons (mMethO "ScriptReader" "read_group" F (mVar 0) (mCons (mVar 1) mNil)) mNil))))))))
theorem on_ok (hT : TOk T) {F : List D → S → R D} {G : Nat → PR} {d : Nat} (hG : ∀ p s, Rdr ρ q L T p s → ROk (F [.ref ρ, .int (d : Int)] s) s ρ q L T (G p)) (h : Rdr ρ q L T p s) {w : D} :
    BOk (blkO F [some (.ref ρ), some (.int (d : Int)), some w, none, none, none] s) s ρ q L T (if nameOk (wd T (p + 1)) = true then (G (p + 2)).map fun d => .tup [.str "on", .str (strOf (wd T (p + 1))), d] else .err (p + 1)) := by
  unfold blkO
  have h1 : Rdr ρ q L T (p + 1) (s.set ρ (rdC q L (p + 1))) := h.set h.ne (p + 1)
  rw [e_seq, e_expr, e_methO, mVar_ok (d := .ref ρ) rfl, rbind_ok, if_pos (has_m h rfl), e_cons, e_c, rbind_ok, e_nil, rbind_ok, rbind_ok, accept_ok h, if_pos rfl, rto_ok, obind_nx]
  rw [e_seq, e_set, e_methO0, mVar_ok (d := .ref ρ) rfl, rbind_ok, if_pos (has_m h1 rfl), here_ok h1, rto_ok, obind_nx]
  rw [show ([some (.ref ρ), some (.int (d : Int)), some w, none, none, none] : Ev).set 4 (some (.str (strOf (wd T (p + 1))))) = [some (.ref ρ), some (.int (d : Int)), some w, none, some (.str (strOf (wd T (p + 1)))), none] from rfl]
  rw [e_seq, e_set, e_methO, mVar_ok (d := .ref ρ) rfl, rbind_ok, if_pos (has_m h1 rfl), e_cons, name_ok (hT.asc _) (hT.len _), rbind_ok, e_nil, rbind_ok, rbind_ok, accept_ok h1]
  by_cases c : nameOk (wd T (p + 1)) = true
  · rw [if_pos c, if_pos c, rto_ok, obind_nx]
    have h2 : Rdr ρ q L T (p + 2) ((s.set ρ (rdC q L (p + 1))).set ρ (rdC q L (p + 1 + 1))) := h1.set h1.ne (p + 2)
    have hg := hG _ _ h2
    rw [show ([some (.ref ρ), some (.int (d : Int)), some w, none, some (.str (strOf (wd T (p + 1)))), none] : Ev).set 5 (some (.str (strOf (wd T (p + 1))))) = [some (.ref ρ), some (.int (d : Int)), some w, none, some (.str (strOf (wd T (p + 1)))), some (.str (strOf (wd T (p + 1))))] from rfl]
    rw [e_ret, e_tup, e_cons, e_c, rbind_ok, e_cons, mVar_ok (d := .str (strOf (wd T (p + 1)))) rfl, rbind_ok, e_cons, e_methO, mVar_ok (d := .ref ρ) rfl, rbind_ok, if_pos (has_m h2 rfl), e_cons, mVar_ok (d := .int (d : Int)) rfl, rbind_ok, e_nil, rbind_ok, rbind_ok]
    cases e2 : G (p + 2) with
    | err e3 =>
      rw [e2] at hg
      obtain ⟨s', e4, k4⟩ := hg
      rw [e4]
      exact ⟨s', rfl, (Kp.set.trans Kp.set).trans k4⟩
    | ok v p2 =>
      rw [e2] at hg
      obtain ⟨s', e4, h4, k4⟩ := hg
      rw [e4, rbind_ok, e_nil, rbind_ok, rbind_ok, rbind_ok, rbind_ok, if_pos (show [D.str ("on" : Str), D.str (strOf (wd T (p + 1))), v].length ≤ sizeLine from three_le)]
      exact ⟨s', rfl, h4, (Kp.set.trans Kp.set).trans k4⟩
  · rw [if_neg c, if_neg c]
    exact ⟨_, rfl, Kp.set⟩
end
end G83
end Mi

namespace Mi
namespace G83
open PySem PySem.Spec PyProof.Rows L2

section
variable {ρ q L p : Nat} {T : List Tok'} {s : S}
noncomputable def blkP : B := (bSeq (sExpr (mMethO "ScriptReader" "accept" F_ScriptReader_accept (mVar 0) (mCons (mOp (oIn false) (mVar 2) (mC (.tup (List.map D.str gs_PASSES)))) mNil)))
  (bSeq (sIf (mMeth0 isStr oIsdigit (mSl (mMethO0 "ScriptReader" "here" F_ScriptReader_here (mVar 0)) pNo (pAt (mC (.int 1)))))
  (sRet (mTup (mCons (mC (.str ("pass" : Str))) (mCons (mVar 2) (mCons (mMethO "ScriptReader" "read_number" F_ScriptReader_read_number (mVar 0) (mCons (mC (.int 0)) (mCons (mC (.int 10000)) mNil))) mNil)))))
  bNil)
  (sRet (mTup (mCons (mC (.str ("pass" : Str))) (mCons (mVar 2) (mCons (mNeg (mC (.int 1))) mNil)))))))
theorem in_passes (w : List Nat) (s : S) : oIn false (.str (strOf w)) (.tup (gs_PASSES.map D.str)) s = .ok (.bl (inP w)) s := by
  show inSeqK false _ _ s = _
  unfold inSeqK
  rw [if_pos ⟨rfl, by decide +kernel⟩]
  rfl
theorem lead_ok {w : List Nat} (ha : Asc w) : (decide (w.take 1 ≠ []) && (w.take 1).all dig) = leadD w := by
  cases w with
  | nil => rfl
  | cons c w => simp [leadD]
theorem asc_take {w : List Nat} (ha : Asc w) : Asc (w.take 1) := fun c h => ha c (List.mem_of_mem_take h)
theorem pass_ok (hT : TOk T) (h : Rdr ρ q L T p s) {d : Nat} :
    BOk (blkP [some (.ref ρ), some (.int (d : Int)), some (.str (strOf (wd T p))), none, none, none] s) s ρ q L T (if inP (wd T p) = true then (if leadD (wd T (p + 1)) = true then (match num (wd T (p + 1)) 0 10000 with
      | some n => .ok (.tup [.str "pass", .str (strOf (wd T p)), .int n]) (p + 2)
      | none => .err (p + 1))
    else .ok (.tup [.str "pass", .str (strOf (wd T p)), .int (-1)]) (p + 1)) else .err p) := by
  unfold blkP
  have h1 : Rdr ρ q L T (p + 1) (s.set ρ (rdC q L (p + 1))) := h.set h.ne (p + 1)
  rw [e_seq, e_expr, e_methO, mVar_ok (d := .ref ρ) rfl, rbind_ok, if_pos (has_m h rfl), e_cons, e_op, mVar_ok (d := .str (strOf (wd T p))) rfl, rbind_ok, e_c, rbind_ok, in_passes, rbind_ok, e_nil, rbind_ok, rbind_ok, accept_ok h]
  by_cases c : inP (wd T p) = true
  · rw [if_pos c, if_pos c, rto_ok, obind_nx]
    rw [e_seq, e_sif, e_meth0, e_sl, e_methO0, mVar_ok (d := .ref ρ) rfl, rbind_ok, if_pos (has_m h1 rfl), here_ok h1, rbind_ok, e_pNo, rbind_ok, e_pAt, e_c, rbind_ok, rbind_ok, sl1 (hT.len _), rbind_ok, if_pos (isStr_s _ _), isdigit_e (asc_take (hT.asc _)), lead_ok (hT.asc _)]
    by_cases c2 : leadD (wd T (p + 1)) = true
    · rw [c2, if_pos rfl, rto_ok, ifK_t, e_ret, e_tup, e_cons, e_c, rbind_ok, e_cons, mVar_ok (d := .str (strOf (wd T p))) rfl, rbind_ok, e_cons, e_methO, mVar_ok (d := .ref ρ) rfl, rbind_ok, if_pos (has_m h1 rfl), e_cons, e_c, rbind_ok, e_cons, e_c, rbind_ok, e_nil, rbind_ok, rbind_ok, rbind_ok, number_ok h1 (hT.asc _) (hT.len _)]
      cases e : num (wd T (p + 1)) 0 10000 with
      | none => exact ⟨_, rfl, Kp.set⟩
      | some n =>
        refine ⟨(s.set ρ (rdC q L (p + 1))).set ρ (rdC q L (p + 1 + 1)), ?_, h1.set h1.ne (p + 2), Kp.set.trans Kp.set⟩
        show ((((R.ok (D.int n) ((s.set ρ (rdC q L (p + 1))).set ρ (rdC q L (p + 1 + 1)))).bind _).bind _).bind _ |>.bind _ |>.to _ |>.bind _ : O) = _
        simp only [rbind_ok, e_nil, if_pos (show [D.str ("pass" : Str), D.str (strOf (wd T p)), D.int n].length ≤ sizeLine from three_le), rto_ok, obind_rt]
    · have c3 : leadD (wd T (p + 1)) = false := by simpa using c2
      rw [c3, if_neg (by decide), rto_ok, ifK_f, e_bnil, obind_nx, e_ret, e_tup, e_cons, e_c, rbind_ok, e_cons, mVar_ok (d := .str (strOf (wd T p))) rfl, rbind_ok, e_cons, e_neg, e_c, rbind_ok, rbind_ok, e_nil, rbind_ok, rbind_ok, rbind_ok, rbind_ok, if_pos (show [D.str ("pass" : Str), D.str (strOf (wd T p)), D.int (-1)].length ≤ sizeLine from three_le)]
      exact ⟨_, rfl, h1, Kp.set⟩
  · rw [if_neg c, if_neg c]
    exact ⟨_, rfl, Kp.refl⟩
end
end G83
end Mi

namespace Mi
namespace G83
open PySem PySem.Spec PyProof.Rows L2

section
variable {ρ q L p : Nat} {T : List Tok'} {s : S}
theorem BOk.run {o : O} {r : PR} (h : BOk o s ρ q L T r) (g : B) : ROk (runO (o.bind g)) s ρ q L T r := by
  cases r with
  | ok d p =>
    obtain ⟨s', rfl, h1, h2⟩ := h
    exact ⟨s', rfl, h1, h2⟩
  | err p =>
    obtain ⟨s', rfl, h2⟩ := h
    exact ⟨s', rfl, h2⟩
theorem BOk.run0 {o : O} {r : PR} (h : BOk o s ρ q L T r) : ROk (runO o) s ρ q L T r := by
  cases r with
  | ok d p =>
    obtain ⟨s', rfl, h1, h2⟩ := h
    exact ⟨s', rfl, h1, h2⟩
  | err p =>
    obtain ⟨s', rfl, h2⟩ := h
    exact ⟨s', rfl, h2⟩
theorem item_ok (hT : TOk T) {F : List D → S → R D} {G : Nat → PR} {d : Nat} (hG : ∀ p s, Rdr ρ q L T p s → ROk (F [.ref ρ, .int (d : Int)] s) s ρ q L T (G p)) (h : Rdr ρ q L T p s) :
    ROk (runF 2 6 (B_ScriptReader_read_item F) [.ref ρ, .int (d : Int)] s) s ρ q L T (pItem T G p) := by
  have e0 : runF 2 6 (B_ScriptReader_read_item F) [.ref ρ, .int (d : Int)] s = runO (B_ScriptReader_read_item F [some (.ref ρ), some (.int (d : Int)), none, none, none, none] s) := by
    rw [runF_eq (n := 2) rfl]
    rfl
  have eB : B_ScriptReader_read_item F = bSeq (sSet 2 (mMethO0 "ScriptReader" "here" F_ScriptReader_here (mVar 0))) (bSeq (sIf (mOp oEq (mVar 2) (mC (.str (strOf wU)))) (blkU F) bNil) (bSeq (sIf (mOp oEq (mVar 2) (mC (.str (strOf wO)))) (blkO F) bNil) blkP)) := rfl
  have aU : Asc wU := by
    unfold Asc wU
    decide
  have aO : Asc wO := by
    unfold Asc wO
    decide
  rw [e0, eB, e_seq, e_set, e_methO0, mVar_ok (d := .ref ρ) rfl, rbind_ok, if_pos (has_m h rfl), here_ok h, rto_ok, obind_nx]
  rw [show ([some (.ref ρ), some (.int (d : Int)), none, none, none, none] : Ev).set 2 (some (.str (strOf (wd T p)))) = [some (.ref ρ), some (.int (d : Int)), some (.str (strOf (wd T p))), none, none, none] from rfl]
  rw [e_seq, e_sif, e_op, mVar_ok (d := .str (strOf (wd T p))) rfl, rbind_ok, e_c, rbind_ok, oEq_s (hT.asc p) aU, rto_ok]
  unfold pItem
  by_cases c1 : wd T p = wU
  · rw [if_pos c1, decide_eq_true c1, ifK_t]
    exact (until_ok hT hG h).run _
  · rw [if_neg c1, decide_eq_false c1, ifK_f, e_bnil, obind_nx]
    rw [e_seq, e_sif, e_op, mVar_ok (d := .str (strOf (wd T p))) rfl, rbind_ok, e_c, rbind_ok, oEq_s (hT.asc p) aO, rto_ok]
    by_cases c2 : wd T p = wO
    · rw [if_pos c2, decide_eq_true c2, ifK_t]
      exact (on_ok hT hG h).run _
    · rw [if_neg c2, decide_eq_false c2, ifK_f, e_bnil, obind_nx]
      exact (pass_ok hT h).run0
end
end G83
end Mi

namespace Mi
namespace G83
open PySem PySem.Spec PyProof.Rows L2

section
variable {ρ q L : Nat} {T : List Tok'}
def pTail (T : List Tok') (item : Nat → PR) (n : Nat) (acc : List D) (p : Nat) : PR := if wd T p = [59] then pLoop T item n acc (p + 1) else .ok (.tup acc) p
def LOk (o : O) (ε : Ev) (s0 : S) (l ρ q L : Nat) (T : List Tok') : PR → Prop
  | .ok v p => ∃ ds s', v = .tup ds ∧ o = .nx ε s' ∧ s'[l]? = some (C.lst ds) ∧ Rdr ρ q L T p s' ∧ ∀ (r : Nat) (c : C), r ≠ ρ → r ≠ l → s0[r]? = some c → s'[r]? = some c
  | .err p => ∃ s', o = .ex "ScriptError" "at" (.int (off T L p)) s' ∧ ∀ (r : Nat) (c : C), r ≠ ρ → r ≠ l → s0[r]? = some c → s'[r]? = some c
theorem items_loop (hT : TOk T) {F : List D → S → R D} {item : Nat → PR} (hF : Fwd T item) {d : Nat} (hI : ∀ p s, Rdr ρ q L T p s → ROk (F [.ref ρ, .int (d : Int)] s) s ρ q L T (item p)) (l : Nat) (hlρ : l ≠ ρ) (hlq : l ≠ q) :
    ∀ (n fuel : Nat) (acc : List D) (p : Nat) (s : S), n ≤ fuel → T.length - p ≤ n → acc.length + n ≤ 5000000 → Rdr ρ q L T p s → s[l]? = some (C.lst acc) →
    LOk (whileK (T_ScriptReader_read_items1 F) (W_ScriptReader_read_items1 F) (fuel + 1) [some (.ref ρ), some (.int (d : Int)), some (.ref l)] s) [some (.ref ρ), some (.int (d : Int)), some (.ref l)] s l ρ q L T (pTail T item n acc p) := by
  have hsemi : Asc [59] := asc1 (by decide)
  have hstop : ∀ (fuel : Nat) (acc : List D) (p : Nat) (s : S), Rdr ρ q L T p s → s[l]? = some (C.lst acc) → ¬ wd T p = [59] →
      LOk (whileK (T_ScriptReader_read_items1 F) (W_ScriptReader_read_items1 F) (fuel + 1) [some (.ref ρ), some (.int (d : Int)), some (.ref l)] s) [some (.ref ρ), some (.int (d : Int)), some (.ref l)] s l ρ q L T (.ok (.tup acc) p) := fun fuel acc p s h hs hw => by
    have hc : T_ScriptReader_read_items1 F [some (.ref ρ), some (.int (d : Int)), some (.ref l)] s = .ok (.bl false) s := by
      have := eq_here (x1 := some (.int (d : Int))) (x2 := some (.ref l)) hT h hsemi
      rw [decide_eq_false hw] at this
      exact this
    exact ⟨acc, s, rfl, while_f hc, hs, h, fun _ _ _ _ z => z⟩
  intro n
  induction n with
  | zero =>
    intro fuel acc p s hf hn hz h hs
    have hw : ¬ wd T p = [59] := fun z => by
      have := wd_in (T := T) (p := p) (by rw [z]; exact List.cons_ne_nil _ _)
      omega
    unfold pTail
    rw [if_neg hw]
    exact hstop fuel acc p s h hs hw
  | succ n ih =>
    intro fuel acc p s hf hn hz h hs
    unfold pTail
    by_cases hw : wd T p = [59]
    · rw [if_pos hw]
      obtain ⟨g, rfl⟩ : ∃ g, fuel = g + 1 := ⟨fuel - 1, by omega⟩
      have hc : T_ScriptReader_read_items1 F [some (.ref ρ), some (.int (d : Int)), some (.ref l)] s = .ok (.bl true) s := by
        have := eq_here (x1 := some (.int (d : Int))) (x2 := some (.ref l)) hT h hsemi
        rw [decide_eq_true hw] at this
        exact this
      have h1 : Rdr ρ q L T (p + 1) (s.set ρ (rdC q L (p + 1))) := h.set h.ne (p + 1)
      have hs1 : (s.set ρ (rdC q L (p + 1)))[l]? = some (C.lst acc) := by
        rw [set_get, if_neg (Ne.symm hlρ)]
        exact hs
      have hi := hI _ _ h1
      have eW : W_ScriptReader_read_items1 F = bSeq (sExpr (mMethO "ScriptReader" "accept" F_ScriptReader_accept (mVar 0) (mCons (mC (.bl true)) mNil)))
        (sExpr (mMeth isLst oApp (mVar 2) (mCons (mMethO "ScriptReader" "read_item" F (mVar 0) (mCons (mVar 1) mNil)) mNil))) := rfl
      have e1 : W_ScriptReader_read_items1 F [some (.ref ρ), some (.int (d : Int)), some (.ref l)] s = (sExpr (mMeth isLst oApp (mVar 2) (mCons (mMethO "ScriptReader" "read_item" F (mVar 0) (mCons (mVar 1) mNil)) mNil))) [some (.ref ρ), some (.int (d : Int)), some (.ref l)] (s.set ρ (rdC q L (p + 1))) := by
        rw [eW, e_seq, e_expr, e_methO, mVar_ok (d := .ref ρ) rfl, rbind_ok, if_pos (has_m h rfl), e_cons, e_c, rbind_ok, e_nil, rbind_ok, rbind_ok, accept_ok h, if_pos rfl, rto_ok, obind_nx]
      have e1 := e1.trans (by rw [e_expr, e_meth, mVar_ok (d := .ref l) rfl, rbind_ok, if_pos (isLst_ok hs1), e_cons, e_methO, mVar_ok (d := .ref ρ) rfl, rbind_ok, if_pos (has_m h1 rfl), e_cons, mVar_ok (d := .int (d : Int)) rfl, rbind_ok, e_nil, rbind_ok, rbind_ok])
      unfold pLoop
      cases eI : item (p + 1) with
      | err e =>
        rw [eI] at hi
        obtain ⟨s', e2, k2⟩ := hi
        rw [e2] at e1
        refine ⟨s', ?_, fun r c n1 n2 z => k2 r c n1 (by rw [set_get, if_neg (Ne.symm n1)]; exact z)⟩
        rw [while_t hc, e1]
        rfl
      | ok i p2 =>
        rw [eI] at hi
        obtain ⟨s2, e2, h2, k2⟩ := hi
        have hs2 := k2 l _ hlρ hs1
        have ap := oApp_ok (d := i) hs2 (by rw [sizeL]; omega)
        rw [e2, rbind_ok, e_nil, rbind_ok, rbind_ok, ap, rto_ok] at e1
        have h3 : Rdr ρ q L T p2 (s2.set l (C.lst (acc ++ [i]))) := ⟨by rw [set_get, if_neg hlρ]; exact h2.c, by rw [set_get, if_neg hlq]; exact h2.t⟩
        have hfw := hF _ _ _ eI
        have ihh := ih g (acc ++ [i]) p2 _ (by omega) (by omega) (by rw [List.length_append, List.length_singleton]; omega) h3 (set_at hs2)
        rw [while_nx hc e1]
        show LOk _ _ _ _ _ _ _ _ (pTail T item n (acc ++ [i]) p2)
        cases er : pTail T item n (acc ++ [i]) p2 with
        | err e =>
          rw [er] at ihh
          obtain ⟨s', e5, e9⟩ := ihh
          refine ⟨s', e5, fun r c n1 n2 z => e9 r c n1 n2 ?_⟩
          rw [set_get, if_neg (Ne.symm n2)]
          exact k2 r c n1 (by rw [set_get, if_neg (Ne.symm n1)]; exact z)
        | ok v p3 =>
          rw [er] at ihh
          obtain ⟨ds, s', e5, e6, e7, e8, e9⟩ := ihh
          refine ⟨ds, s', e5, e6, e7, e8, fun r c n1 n2 z => e9 r c n1 n2 ?_⟩
          rw [set_get, if_neg (Ne.symm n2)]
          exact k2 r c n1 (by rw [set_get, if_neg (Ne.symm n1)]; exact z)
    · rw [if_neg hw]
      exact hstop fuel acc p s h hs hw
end
end G83
end Mi

namespace Mi
namespace G83
open PySem PySem.Spec PyProof.Rows L2

theorem one_le : (1 : Nat) ≤ sizeLine := small_le (by decide)
theorem cTuple_l {p : Nat} {ds : List D} {s : S} (h : s[p]? = some (C.lst ds)) : cTuple [.ref p] s = .ok (.tup ds) s := cTuple_lst h
section
variable {ρ q L : Nat} {T : List Tok'}
theorem ploop_tail {item : Nat → PR} {n : Nat} {acc : List D} {p : Nat} : pLoop T item (n + 1) acc p = (match item p with
    | .err e => .err e
    | .ok i q => pTail T item n (acc ++ [i]) q) := by
  show (match item p with
    | .err e => PR.err e
    | .ok i q => if wd T q = [59] then pLoop T item n (acc ++ [i]) (q + 1) else .ok (.tup (acc ++ [i])) q) = _
  rfl
theorem items_ok (hT : TOk T) : ∀ (j d p : Nat) (s : S), 9 ≤ j + d → d ≤ 8 → Rdr ρ q L T p s → ROk (F_ScriptReader_read_items j [.ref ρ, .int (d : Int)] s) s ρ q L T (pItems T j d p)
  | 0, d, p, s, h1, h2, _ => by omega
  | j + 1, d, p, s, h2, h3, h => by
    have hG : ∀ p s, Rdr ρ q L T p s → ROk (runF 2 3 (B_ScriptReader_read_group (F_ScriptReader_read_items j)) [.ref ρ, .int (d : Int)] s) s ρ q L T (pGroup T (pItems T j (d + 1)) d p) := fun p s h =>
      group_ok hT (fun hd p s h => items_ok hT j (d + 1) p s (by omega) (by omega) h) h
    have hI : ∀ p s, Rdr ρ q L T p s → ROk (runF 2 6 (B_ScriptReader_read_item (runF 2 3 (B_ScriptReader_read_group (F_ScriptReader_read_items j)))) [.ref ρ, .int (d : Int)] s) s ρ q L T (pItem T (pGroup T (pItems T j (d + 1)) d) p) := fun p s h => item_ok hT hG h
    have hF : Fwd T (pItem T (pGroup T (pItems T j (d + 1)) d)) := fwd_item (fwd_group (fwd_items j (d + 1)) d)
    have e0 : F_ScriptReader_read_items (j + 1) [.ref ρ, .int (d : Int)] s = runO (B_ScriptReader_read_items (runF 2 6 (B_ScriptReader_read_item (runF 2 3 (B_ScriptReader_read_group (F_ScriptReader_read_items j))))) [some (.ref ρ), some (.int (d : Int)), none] s) := by
      show runF 2 3 _ _ _ = _
      rw [runF_eq (n := 2) rfl]
      rfl
    show ROk _ s ρ q L T (pLoop T (pItem T (pGroup T (pItems T j (d + 1)) d)) (T.length + 1) [] p)
    generalize runF 2 6 (B_ScriptReader_read_item (runF 2 3 (B_ScriptReader_read_group (F_ScriptReader_read_items j)))) = F at e0 hI
    generalize pItem T (pGroup T (pItems T j (d + 1)) d) = item at hI hF
    have hi := hI p s h
    rw [e0, ploop_tail]
    unfold B_ScriptReader_read_items
    rw [e_seq, e_set, e_lst, e_cons, e_methO, mVar_ok (d := .ref ρ) rfl, rbind_ok, if_pos (has_m h rfl), e_cons, mVar_ok (d := .int (d : Int)) rfl, rbind_ok, e_nil, rbind_ok, rbind_ok]
    cases eI : item p with
    | err e =>
      rw [eI] at hi
      obtain ⟨s', e2, k2⟩ := hi
      refine ⟨s', ?_, k2⟩
      rw [e2]
      rfl
    | ok i p2 =>
      rw [eI] at hi
      obtain ⟨s2, e2, h2, k2⟩ := hi
      rw [e2, rbind_ok, e_nil, rbind_ok, rbind_ok, if_pos (show [i].length ≤ sizeLine from one_le), rto_ok, obind_nx]
      have hlρ : s2.length ≠ ρ := fun z => by
        have := lt_of_get h2.c
        omega
      have hlq : s2.length ≠ q := fun z => by
        have := lt_of_get h2.t
        omega
      have h3 : Rdr ρ q L T p2 (s2 ++ [C.lst [i]]) := ⟨by rw [app_get (lt_of_get h2.c)]; exact h2.c, by rw [app_get (lt_of_get h2.t)]; exact h2.t⟩
      have hz := hT.size
      have hL := items_loop hT hF hI s2.length hlρ hlq T.length (wf - 1) [i] p2 (s2 ++ [C.lst [i]]) (by unfold wf; omega) (by omega) (by simp; omega) h3 app_last
      rw [wf_is] at hL
      rw [show ([some (.ref ρ), some (.int (d : Int)), none] : Ev).set 2 (some (.ref s2.length)) = [some (.ref ρ), some (.int (d : Int)), some (.ref s2.length)] from rfl, e_seq]
      show ROk _ s ρ q L T (pTail T item T.length [i] p2)
      cases eP : pTail T item T.length [i] p2 with
      | err e =>
        rw [eP] at hL
        obtain ⟨s', e3, h6⟩ := hL
        rw [e3]
        refine ⟨s', rfl, fun r c n1 z => ?_⟩
        have z2 := k2 r c n1 z
        have hr := lt_of_get z2
        exact h6 r c n1 (by omega) (by rw [app_get hr]; exact z2)
      | ok v p3 =>
        rw [eP] at hL
        obtain ⟨ds, s', rfl, e3, h4, h5, h6⟩ := hL
        rw [e3, obind_nx, e_ret, e_call, e_cons, mVar_ok (d := .ref s2.length) rfl, rbind_ok, e_nil, rbind_ok, rbind_ok, cTuple_l h4]
        refine ⟨s', rfl, h5, fun r c n1 z => ?_⟩
        have z2 := k2 r c n1 z
        have hr := lt_of_get z2
        exact h6 r c n1 (by omega) (by rw [app_get hr]; exact z2)
end
end G83
end Mi

namespace Mi
namespace G83
open PySem PySem.Spec PyProof.Rows L2

/-! ### the words of the tokens -/
theorem lt_mem : ∀ (cs w : List Nat) (k : Nat), Asc w → Asc cs → ∀ t ∈ lt w k cs, t.1 ≠ [] ∧ Asc t.1 ∧ t.1.length ≤ w.length + cs.length
  | [], w, k, hw, _, t, ht => by
    unfold lt flush at ht
    split at ht
    · cases ht
    · rename_i n
      obtain rfl := List.mem_singleton.mp ht
      exact ⟨n, hw, by simp⟩
  | c :: cs, w, k, hw, hc, t, ht => by
    have hc1 : c < 128 := hc c List.mem_cons_self
    have hcs : Asc cs := fun d hd => hc d (List.mem_cons_of_mem _ hd)
    unfold lt at ht
    split at ht
    · have := lt_mem cs (w ++ [c]) (k + 1) (asc_app hw (asc1 hc1)) hcs t ht
      refine ⟨this.1, this.2.1, ?_⟩
      have := this.2.2
      rw [List.length_append, List.length_singleton] at this
      rw [List.length_cons]
      omega
    · rcases List.mem_append.mp ht with ht | ht
      · rcases List.mem_append.mp ht with ht | ht
        · unfold flush at ht
          split at ht
          · cases ht
          · rename_i n
            obtain rfl := List.mem_singleton.mp ht
            exact ⟨n, hw, by simp⟩
        · unfold one at ht
          split at ht
          · cases ht
          · obtain rfl := List.mem_singleton.mp ht
            exact ⟨List.cons_ne_nil _ _, asc1 hc1, by simp; omega⟩
      · have := lt_mem cs [] (k + 1) asc0 hcs t ht
        refine ⟨this.1, this.2.1, ?_⟩
        have := this.2.2
        rw [List.length_nil] at this
        rw [List.length_cons]
        omega
theorem lt_len : ∀ (cs : List Nat) (k : Nat) (w : List Nat), (lt w k cs).length ≤ 2 * cs.length + 1 := by
  intro cs
  induction cs with
  | nil =>
    intro k w
    exact flush_len w k
  | cons c cs ih =>
    intro k w
    unfold lt
    have f1 := flush_len w k
    have f2 := one_len c k
    split
    · have := ih (k + 1) (w ++ [c])
      rw [List.length_cons]
      omega
    · have := ih (k + 1) []
      rw [List.length_append, List.length_append, List.length_cons]
      omega
theorem wd_mem {T : List Tok'} {p : Nat} (h : p < T.length) : ∃ t ∈ T, wd T p = t.1 ∧ T[p]? = some t := by
  refine ⟨T[p], List.getElem_mem h, ?_, List.getElem?_eq_getElem h⟩
  unfold wd
  rw [List.getElem?_eq_getElem h]
  rfl
theorem wd_out {T : List Tok'} {p : Nat} (h : T.length ≤ p) : wd T p = [] := by
  unfold wd
  rw [List.getElem?_eq_none h]
  rfl
section
variable {all : List Nat}
theorem tok_ok (hA : Asc all) (hz : all.length ≤ 1000000) : TOk (lt [] 0 all) := by
  refine ⟨fun p => ?_, fun p => ?_, ?_⟩
  · by_cases h : p < (lt [] 0 all).length
    · obtain ⟨t, ht, e, _⟩ := wd_mem h
      rw [e]
      exact (lt_mem all [] 0 asc0 hA t ht).2.1
    · rw [wd_out (by omega)]
      exact asc0
  · by_cases h : p < (lt [] 0 all).length
    · obtain ⟨t, ht, e, _⟩ := wd_mem h
      rw [e]
      have := (lt_mem all [] 0 asc0 hA t ht).2.2
      rw [List.length_nil] at this
      omega
    · rw [wd_out (by omega)]
      exact Nat.zero_le _
  · have := lt_len all 0 []
    omega
theorem wd_nil (hA : Asc all) {p : Nat} : wd (lt [] 0 all) p = [] ↔ (lt [] 0 all).length ≤ p := by
  constructor
  · intro h
    apply Classical.byContradiction
    intro z
    obtain ⟨t, ht, e, _⟩ := wd_mem (T := lt [] 0 all) (p := p) (by omega)
    rw [e] at h
    exact (lt_mem all [] 0 asc0 hA t ht).1 h
  · exact wd_out
/-- what reading a whole text comes to -/
def rS (T : List Tok') : PR := if wd T 0 = [] then .ok (.tup []) 0 else (match pItems T 12 0 0 with
  | .ok d p => if wd T p = [] then .ok d p else .err p
  | .err p => .err p)
def RS (r : R D) (s : S) (T : List Tok') (L : Nat) : PR → Prop
  | .ok d _ => ∃ s', r = .ok d s' ∧ Pre s s'
  | .err p => ∃ s', r = .exc "ScriptError" "at" (.int (off T L p)) s' ∧ Pre s s'
theorem init_ok (hA : Asc all) (hz : all.length ≤ 1000000) (s : S) : ∃ s', F_ScriptReader___init__ [.ref s.length, .str (strOf all)] (s ++ [C.ins "ScriptReader" []]) = .ok .non s' ∧ Rdr s.length (s.length + 1) all.length (lt [] 0 all) 0 s' ∧ Pre s s' := by
  have e0 : F_ScriptReader___init__ [.ref s.length, .str (strOf all)] (s ++ [C.ins "ScriptReader" []]) = runO (B_ScriptReader___init__ [some (.ref s.length), some (.str (strOf all))] (s ++ [C.ins "ScriptReader" []])) := by
    unfold F_ScriptReader___init__
    rw [runF_eq (n := 2) rfl]
    rfl
  have k1 : (s ++ [C.ins "ScriptReader" []] ++ [C.lst ((lt [] 0 all).map tokD)])[s.length]? = some (C.ins "ScriptReader" []) := by
    rw [app_get (by simp)]
    exact app_last
  have p1 : ∀ (t : S) (fs : List (Str × D)) (f : Str) (d : D) (ε : Ev), t[s.length]? = some (C.ins "ScriptReader" fs) → fs.length < 1000 → putO "ScriptReader" f (.ref s.length) d ε t = .nx ε (t.set s.length (C.ins "ScriptReader" (putD f d fs))) := fun t fs f d ε h hl => by
    unfold putO putAt
    rw [insK_ok h]
    show (match (if fs.length < 1000 then some (t.set s.length (.ins "ScriptReader" (putD f d fs))) else none) with
      | some s3 => O.nx ε s3
      | none => .bad) = _
    rw [if_pos hl]
  refine ⟨((s ++ [C.ins "ScriptReader" []] ++ [C.lst ((lt [] 0 all).map tokD)])).set s.length (rdC (s.length + 1) all.length 0), ?_, ⟨set_at k1, ?_⟩, ?_⟩
  · rw [e0]
    unfold B_ScriptReader___init__
    have k2 := set_at (c := C.ins "ScriptReader" (putD "tokens" (.ref (s.length + 1)) [])) k1
    have k3 := set_at (c := C.ins "ScriptReader" (putD "last" (.int all.length) (putD "tokens" (.ref (s.length + 1)) []))) k2
    have e1 := p1 _ _ "tokens" (.ref (s.length + 1)) [some (.ref s.length), some (.str (strOf all))] k1 (by decide)
    have e2 := p1 _ _ "last" (.int all.length) [some (.ref s.length), some (.str (strOf all))] k2 (show (1 : Nat) < 1000 by decide)
    have e3 := p1 _ _ "at" (.int 0) [some (.ref s.length), some (.str (strOf all))] k3 (show (2 : Nat) < 1000 by decide)
    have hl : (s ++ [C.ins "ScriptReader" []]).length = s.length + 1 := by simp
    simp only [e_seq, e_fldM, e_call, e_cons, e_var, List.getElem?_cons_zero, List.getElem?_cons_succ, rbind_ok, e_nil, script_tokens_ok hA hz, rto_ok, hl, e1, obind_nx, cLen_s (show all.length ≤ 5000000 by omega), e2, e_c, e3, runO_nx]
    rw [List.set_set, List.set_set]
    rfl
  · rw [set_get, if_neg (by omega)]
    have : (s ++ [C.ins "ScriptReader" []] ++ [C.lst ((lt [] 0 all).map tokD)])[(s ++ [C.ins "ScriptReader" []]).length]? = some (C.lst ((lt [] 0 all).map tokD)) := app_last
    rw [List.length_append, List.length_singleton] at this
    exact this
  · exact (Pre.app.trans Pre.app).set (Nat.le_refl _)
theorem read_script_ok (hA : Asc all) (hz : all.length ≤ 1000000) (s : S) : RS (F_read_script [.str (strOf all)] s) s (lt [] 0 all) all.length (rS (lt [] 0 all)) := by
  have hT := tok_ok hA hz
  obtain ⟨s1, e1, h1, q1⟩ := init_ok hA hz s
  have e0 : F_read_script [.str (strOf all)] s = runO (B_read_script [some (.str (strOf all)), none, none] s) := by
    unfold F_read_script
    rw [runF_eq (n := 1) rfl]
    rfl
  have eM : mMake "ScriptReader" F_ScriptReader___init__ (mCons (mVar 0) mNil) [some (.str (strOf all)), none, none] s = .ok (.ref s.length) s1 := by
    unfold mMake
    rw [e_cons, mVar_ok (d := .str (strOf all)) rfl, rbind_ok, e_nil, rbind_ok, rbind_ok, e1]
    rfl
  generalize lt [] 0 all = T at hT h1
  generalize all.length = L at h1
  have eH : ∀ (p : Nat) (t : S) (x0 x2 : Option D), Rdr s.length (s.length + 1) L T p t → mOp oEq (mMethO0 "ScriptReader" "here" F_ScriptReader_here (mVar 1)) (mC (.str ("" : Str))) [x0, some (.ref s.length), x2] t = .ok (.bl (decide (wd T p = []))) t := fun p t x0 x2 h => by
    rw [e_op, e_methO0, mVar_ok (d := .ref s.length) rfl, rbind_ok, if_pos (has_m h rfl), here_ok h, rbind_ok, e_c, rbind_ok]
    exact oEq_s (hT.asc p) asc0 t
  rw [e0]
  unfold B_read_script rS
  rw [e_seq, e_set, eM, rto_ok, obind_nx]
  rw [show ([some (.str (strOf all)), none, none] : Ev).set 1 (some (.ref s.length)) = [some (.str (strOf all)), some (.ref s.length), none] from rfl]
  rw [e_seq, e_sif, eH 0 s1 _ _ h1, rto_ok]
  by_cases c : wd T 0 = []
  · rw [if_pos c, decide_eq_true c, ifK_t, e_ret, e_tup, e_nil, rbind_ok, if_pos (show ([] : List D).length ≤ sizeLine from Nat.zero_le _), rto_ok, obind_rt]
    exact ⟨s1, rfl, q1⟩
  · rw [if_neg c, decide_eq_false c, ifK_f, e_bnil, obind_nx]
    rw [e_seq, e_set, e_methO, mVar_ok (d := .ref s.length) rfl, rbind_ok, if_pos (has_m h1 rfl), e_cons, e_c, rbind_ok, e_nil, rbind_ok, rbind_ok]
    have hi := items_ok hT 12 0 0 s1 (by omega) (by omega) h1
    have hi : ROk (F_ScriptReader_read_items 12 [.ref s.length, .int 0] s1) s1 s.length (s.length + 1) L T (pItems T 12 0 0) := hi
    cases eI : pItems T 12 0 0 with
    | err e =>
      rw [eI] at hi
      obtain ⟨s', e2, k2⟩ := hi
      rw [e2]
      refine ⟨s', rfl, fun r c hr => ?_⟩
      have hr2 := lt_of_get hr
      exact k2 r c (by omega) (q1 r c hr)
    | ok v p =>
      rw [eI] at hi
      obtain ⟨s2, e2, h2, k2⟩ := hi
      rw [e2, rto_ok, obind_nx, show ([some (.str (strOf all)), some (.ref s.length), none] : Ev).set 2 (some v) = [some (.str (strOf all)), some (.ref s.length), some v] from rfl]
      rw [e_seq, e_expr, e_methO, mVar_ok (d := .ref s.length) rfl, rbind_ok, if_pos (has_m h2 rfl), e_cons, eH p s2 _ _ h2, rbind_ok, e_nil, rbind_ok, rbind_ok, accept_ok h2]
      show RS _ s T L (if wd T p = [] then PR.ok v p else PR.err p)
      by_cases c2 : wd T p = []
      · rw [if_pos c2, decide_eq_true c2, if_pos rfl, rto_ok, obind_nx, e_ret, mVar_ok (d := v) rfl, rto_ok, runO_rt]
        refine ⟨_, rfl, fun r c hr => ?_⟩
        have hr2 := lt_of_get hr
        rw [set_get, if_neg (by omega)]
        exact k2 r c (by omega) (q1 r c hr)
      · rw [if_neg c2, decide_eq_false c2, if_neg (by decide), rto_exc, obind_ex, runO_ex]
        refine ⟨s2, rfl, fun r c hr => ?_⟩
        have hr2 := lt_of_get hr
        exact k2 r c (by omega) (q1 r c hr)
end
end G83
end Mi

namespace Mi
namespace G83
open PySem PySem.Spec PyProof.Rows L2

/-! ### the law's numbers -/
def DGs : Str := "0123456789"
theorem DG_in {c : Nat} (h : c < 128) (b : Bool) (s : S) : oIn b (.str (strOf [c])) (.str DGs) s = .ok (.bl (if b then !dig c else dig c)) s := by
  have e : oIn b (.str (strOf [c])) (.str DGs) s = .ok (.bl (if b then !inStr ⟨#[c]⟩ DGs else inStr ⟨#[c]⟩ DGs)) s := rfl
  rw [e, inStr_one]
  have : ∀ c < 128, decide (c ∈ DGs.cps.toList) = dig c := by decide +kernel
  rw [this c h]
theorem num_loop (x0 x1 x2 x4 : Option D) (s : S) : ∀ (w : List Nat) (o3 : Option D), Asc w →
    (w.all dig = true ∧ ∃ o3', loop none (gN 3) W__law_number1 (w.map fun c => .str ⟨#[c]⟩) [x0, x1, x2, o3, x4] s = .nx [x0, x1, x2, o3', x4] s) ∨
    (w.all dig = false ∧ loop none (gN 3) W__law_number1 (w.map fun c => .str ⟨#[c]⟩) [x0, x1, x2, o3, x4] s = .rt (.int (-1)) s)
  | [], o3, _ => .inl ⟨rfl, o3, loop_nil (g := none) trivial⟩
  | c :: w, o3, h => by
    have hc : c < 128 := h c List.mem_cons_self
    have hw : Asc w := fun d hd => h d (List.mem_cons_of_mem _ hd)
    have e1 := loop_cons (g := none) (t := gN 3) (b := W__law_number1) (d := .str ⟨#[c]⟩) (ds := w.map fun c => .str ⟨#[c]⟩) (ε := [x0, x1, x2, o3, x4]) (s := s) trivial (gN_eq _ _ _)
    have eW : W__law_number1 ([x0, x1, x2, o3, x4].set 3 (some (.str ⟨#[c]⟩))) s = if dig c = true then .nx [x0, x1, x2, some (.str ⟨#[c]⟩), x4] s else .rt (.int (-1)) s := by
      have : W__law_number1 = sIf (mOp (oIn true) (mVar 3) (mC (.str DGs))) (sRet (mNeg (mC (.int 1)))) bNil := rfl
      rw [this]
      have i1 := DG_in hc true s
      have i1 : oIn true (.str ⟨#[c]⟩) (.str DGs) s = _ := i1
      cases hd : dig c <;> rw [hd] at i1 <;> simp only [List.set_cons_succ, List.set_cons_zero, e_sif, e_op, e_var, List.getElem?_cons_zero, List.getElem?_cons_succ, rbind_ok, e_c, i1, if_true, Bool.not_true, Bool.not_false, rto_ok, ifK_t, ifK_f, e_ret, e_neg, e_bnil, if_neg (show ¬ (false = true) by decide)]
    rw [eW] at e1
    rw [List.map_cons, List.all_cons]
    cases hd : dig c with
    | true =>
      rw [hd, if_pos rfl] at e1
      rw [e1, Bool.true_and]
      exact num_loop x0 x1 x2 x4 s w _ hw
    | false =>
      rw [hd, if_neg (by decide)] at e1
      rw [e1, Bool.false_and]
      exact .inr ⟨rfl, rfl⟩
noncomputable def badM : M := (mOr (mOp oEq (mVar 0) (mC (.str (strOf [])))) (mOr (mOp oGt (mCall cLen (mCons (mVar 0) mNil)) (mC (.int 5))) (mAnd (mOp oGt (mCall cLen (mCons (mVar 0) mNil)) (mC (.int 1))) (mOp oEq (mOp oIx (mVar 0) (mC (.int 0))) (mC (.str (strOf [48])))))))
def badW (w : List Nat) : Bool := decide (w = []) || (decide (5 < w.length) || (decide (1 < w.length) && decide (w.head? = some 48)))
theorem bad_ok {w : List Nat} (h : Asc w) (hl : w.length ≤ 1000000) {x1 x2 x3 x4 : Option D} {s : S} : badM [some (.str (strOf w)), x1, x2, x3, x4] s = .ok (.bl (badW w)) s := by
  unfold badM badW
  cases w with
  | nil =>
    have a1 := oEq_s asc0 asc0 s
    simp only [e_or, e_op, e_var, List.getElem?_cons_zero, rbind_ok, e_c, a1, decide_true, Bool.true_or]
  | cons c w =>
    have h5 : (5 < ((c :: w).length : Int)) ↔ 5 < (c :: w).length := by omega
    have h1 : (1 < ((c :: w).length : Int)) ↔ 1 < (c :: w).length := by omega
    have a0 := oEq_s h asc0 s
    have a2 := oEq_s (asc1 (h c List.mem_cons_self)) (asc1 (show 48 < 128 by decide)) s
    have e1 : decide ([c] = [48]) = decide ((c :: w).head? = some 48) := by simp
    rw [e1] at a2
    have e0 : decide (c :: w = []) = false := by simp
    rw [e0] at a0
    by_cases h6 : 5 < (c :: w).length
    · simp only [e_or, e_op, e_var, List.getElem?_cons_zero, rbind_ok, e_c, a0, e0, e_call, e_cons, e_nil, cLen_s (show (c :: w).length ≤ 5000000 by omega), oGt_int, h5, h6, decide_true, Bool.true_or, Bool.false_or]
    · by_cases h7 : 1 < (c :: w).length
      · simp only [e_or, e_op, e_var, List.getElem?_cons_zero, rbind_ok, e_c, a0, e0, e_call, e_cons, e_nil, cLen_s (show (c :: w).length ≤ 5000000 by omega), oGt_int, h5, h6, decide_false, Bool.false_or, e_and, h1, h7, decide_true, ix0_s (show w.length ≤ 1000000 by rw [List.length_cons] at hl; omega), a2, Bool.true_and]
      · simp only [e_or, e_op, e_var, List.getElem?_cons_zero, rbind_ok, e_c, a0, e0, e_call, e_cons, e_nil, cLen_s (show (c :: w).length ≤ 5000000 by omega), oGt_int, h5, h6, decide_false, Bool.false_or, e_and, h1, h7, Bool.false_and]
theorem fit_bad (w : List Nat) : fitW w = (!badW w && w.all dig) := by
  unfold fitW badW
  cases w with
  | nil => rfl
  | cons c w =>
    cases hd : (c :: w).all dig with
    | false => simp
    | true =>
      rw [Bool.eq_iff_iff]
      simp
      cases w with
      | nil =>
        simp
        exact Classical.em _
      | cons d w => simp
theorem lnum_ok {w : List Nat} (h : Asc w) (hl : w.length ≤ 1000000) (lo hi : Int) (s : S) : F__law_number [.str (strOf w), .int lo, .int hi] s = .ok (.int ((num w lo hi).getD (-1))) s := by
  have e0 : F__law_number [.str (strOf w), .int lo, .int hi] s = runO (B__law_number [some (.str (strOf w)), some (.int lo), some (.int hi), none, none] s) := by
    unfold F__law_number
    rw [runF_eq (n := 3) rfl]
    rfl
  have eB : B__law_number = (bSeq (sIf badM (sRet (mNeg (mC (.int 1)))) bNil)
    (bSeq (sFor (iSeq (mVar 0)) (gN 3) W__law_number1)
    (bSeq (sSet 4 (mCall cInt2 (mCons (mVar 0) mNil)))
    (sRet (mIf (mChain oLeT oLeT (mVar 1) (mVar 4) (mVar 2)) (mVar 4) (mNeg (mC (.int 1)))))))) := rfl
  have eI : itemsK (.str (strOf w)) s = .ok (w.map fun c => .str ⟨#[c]⟩, none) s := rfl
  rw [e0, eB, e_seq, e_sif, bad_ok h hl, rto_ok]
  unfold num
  rw [fit_bad]
  cases hb : badW w with
  | true =>
    rw [ifK_t]
    simp only [e_ret, e_neg, e_c, rbind_ok, rto_ok, obind_rt, runO_rt, Bool.not_true, Bool.false_and, if_neg (show ¬ (false = true ∧ _) from fun z => by cases z.1)]
    rfl
  | false =>
    rw [ifK_f, e_bnil, obind_nx, e_seq, e_for, e_iseq, mVar_ok (d := .str (strOf w)) rfl, rbind_ok, eI, rto_ok, Bool.not_false, Bool.true_and]
    have hw0 : w ≠ [] ∧ w.length ≤ 5 := by
      unfold badW at hb
      simp at hb
      exact ⟨hb.1, hb.2.1⟩
    rcases num_loop (some (.str (strOf w))) (some (.int lo)) (some (.int hi)) none s w none h with ⟨h1, o3, h2⟩ | ⟨h1, h2⟩
    · rw [h2, obind_nx, h1]
      have hi2 := int_s h1 hw0.1 (by omega) s
      by_cases c1 : lo ≤ val w
      · by_cases c2 : val w ≤ hi
        · rw [if_pos ⟨rfl, c1, c2⟩]
          simp only [e_seq, e_set, e_call, e_cons, e_nil, e_var, List.getElem?_cons_zero, List.getElem?_cons_succ, rbind_ok, hi2, rto_ok, obind_nx, List.set_cons_succ, List.set_cons_zero, e_ret, e_if, e_chain, oLeT_int, c1, c2, decide_true, e_chKt, runO_rt, Option.getD_some]
        · rw [if_neg (fun z => c2 z.2.2)]
          simp only [e_seq, e_set, e_call, e_cons, e_nil, e_var, List.getElem?_cons_zero, List.getElem?_cons_succ, rbind_ok, hi2, rto_ok, obind_nx, List.set_cons_succ, List.set_cons_zero, e_ret, e_if, e_chain, oLeT_int, c1, c2, decide_true, decide_false, e_chKt, runO_rt, Option.getD_none, e_neg, e_c]
      · rw [if_neg (fun z => c1 z.2.1)]
        simp only [e_seq, e_set, e_call, e_cons, e_nil, e_var, List.getElem?_cons_zero, List.getElem?_cons_succ, rbind_ok, hi2, rto_ok, obind_nx, List.set_cons_succ, List.set_cons_zero, e_ret, e_if, e_chain, oLeT_int, c1, decide_true, decide_false, e_chKf, runO_rt, Option.getD_none, e_neg, e_c]
    · rw [h2, obind_rt, runO_rt, h1, if_neg (fun z => by cases z.1)]
      rfl
end G83
end Mi

namespace Mi
namespace G83
open PySem PySem.Spec PyProof.Rows L2

/-! ### the law's reader -/
def resD : PR → D
  | .ok d p => .tup [.bl true, d, .int p]
  | .err p => .tup [.bl false, .int p]
def LR (q : Nat) (T : List Tok') (L : Nat) (s : S) : Prop := s[q]? = some (C.lst ((T ++ [([], L)]).map tokD))
theorem LR.pre {q : Nat} {T : List Tok'} {L : Nat} {s t : S} (h : LR q T L s) (p : Pre s t) : LR q T L t := p _ _ h
noncomputable def tw (X : M) : M := mOp oIx (mOp oIx (mVar 0) X) (mC (.int 0))
noncomputable def at1 (n : Int) : M := mOp oAdd (mVar 1) (mC (.int n))
noncomputable def failAt (m : M) : B := sRet (mTup (mCons (mC (.bl false)) (mCons m mNil)))
section
variable {q L p d : Nat} {T : List Tok'} {s : S}
theorem tl_get (hp : p ≤ T.length) : (T ++ [([], L)])[p]? = some (wd T p, off T L p) := by
  unfold wd off
  by_cases h : p < T.length
  · rw [List.getElem?_append_left h, List.getElem?_eq_getElem h]
    rfl
  · obtain rfl : p = T.length := by omega
    rw [List.getElem?_append_right (Nat.le_refl _), Nat.sub_self, List.getElem?_eq_none (Nat.le_refl _)]
    rfl
theorem ixT (h : LR q T L s) (hp : p ≤ T.length) : oIx (.ref q) (.int (p : Int)) s = .ok (tokD (wd T p, off T L p)) s :=
  oIx_lst h (by rw [atI_nat, List.getElem?_map, tl_get hp]; rfl)
theorem tw_ok (h : LR q T L s) {n : Nat} (hp : p + n ≤ T.length) {x2 x3 x4 x5 x6 x7 : Option D} : tw (at1 n) [some (.ref q), some (.int (p : Int)), x2, x3, x4, x5, x6, x7] s = .ok (.str (strOf (wd T (p + n)))) s := by
  unfold tw at1
  have e : (p : Int) + (n : Int) = ((p + n : Nat) : Int) := by omega
  simp only [e_op, e_var, List.getElem?_cons_zero, List.getElem?_cons_succ, rbind_ok, e_c, oAdd_int, e, ixT h hp, tok0]
theorem tw_ok0 (h : LR q T L s) (hp : p ≤ T.length) {x2 x3 x4 x5 x6 x7 : Option D} : tw (mVar 1) [some (.ref q), some (.int (p : Int)), x2, x3, x4, x5, x6, x7] s = .ok (.str (strOf (wd T p))) s := by
  unfold tw
  simp only [e_op, e_var, List.getElem?_cons_zero, List.getElem?_cons_succ, rbind_ok, e_c, ixT h hp, tok0]
theorem fail_ok {m : M} {ε : Ev} {x : D} (h : m ε s = .ok x s) : failAt m ε s = .rt (.tup [.bl false, x]) s := by
  unfold failAt
  rw [e_ret, e_tup, e_cons, e_c, rbind_ok, e_cons, h, rbind_ok, e_nil, rbind_ok, rbind_ok, rbind_ok, if_pos (show [D.bl false, x].length ≤ sizeLine from two_le), rto_ok]
theorem at1_ok {n : Nat} {x0 x2 x3 x4 x5 x6 x7 : Option D} : at1 n [x0, some (.int (p : Int)), x2, x3, x4, x5, x6, x7] s = .ok (.int ((p + n : Nat) : Int)) s := by
  unfold at1
  have e : (p : Int) + (n : Int) = ((p + n : Nat) : Int) := by omega
  simp only [e_op, e_var, List.getElem?_cons_zero, List.getElem?_cons_succ, rbind_ok, e_c, oAdd_int, e]
/-- reads on: the answer is that of the plain reader -/
def LI (F : List D → S → R D) (q L : Nat) (T : List Tok') (d : Nat) (I : Nat → PR) : Prop := ∀ p s, p ≤ T.length → LR q T L s → ∃ s', F [.ref q, .int (p : Int), .int (d : Int)] s = .ok (resD (I p)) s' ∧ Pre s s'
noncomputable def blkR (F : List D → S → R D) : B := (bSeq (sIf (mOr (mOp oNe (tw (at1 2)) (mC (.str (strOf [123])))) (mOp oEq (mVar 2) (mC (.int 8))))
  (failAt (at1 2))
  bNil)
  (bSeq (sSet 6 (mCall F (mCons (mVar 0) (mCons (at1 3) (mCons (mOp oAdd (mVar 2) (mC (.int 1))) mNil)))))
  (bSeq (sIf (mNot (mOp oIx (mVar 6) (mC (.int 0))))
  (sRet (mVar 6))
  bNil)
  (bSeq (sIf (mOp oNe (tw (mOp oIx (mVar 6) (mC (.int 2)))) (mC (.str (strOf [125]))))
  (failAt (mOp oIx (mVar 6) (mC (.int 2))))
  bNil)
  (sRet (mTup (mCons (mC (.bl true)) (mCons (mTup (mCons (mVar 3) (mCons (mVar 5) (mCons (mOp oIx (mVar 6) (mC (.int 1))) mNil)))) (mCons (mOp oAdd (mOp oIx (mVar 6) (mC (.int 2))) (mC (.int 1))) mNil)))))))))
theorem blkR_ok (hT : TOk T) {F : List D → S → R D} {I : Nat → PR} (hd : d ≤ 8) (hI : d < 8 → LI F q L T (d + 1) I) (hF : Fwd T I) (h : LR q T L s) (hp : p + 2 ≤ T.length) {w3 w5 : D} {x4 x7 : Option D} :
    ∃ s', blkR F [some (.ref q), some (.int (p : Int)), some (.int (d : Int)), some w3, x4, some w5, none, x7] s = .rt (resD ((pGroup T I d (p + 2)).map fun v => .tup [w3, w5, v])) s' ∧ Pre s s' := by
  unfold blkR
  have hc : (mOr (mOp oNe (tw (at1 2)) (mC (.str (strOf [123])))) (mOp oEq (mVar 2) (mC (.int 8)))) [some (.ref q), some (.int (p : Int)), some (.int (d : Int)), some w3, x4, some w5, none, x7] s = .ok (.bl (!decide (wd T (p + 2) = [123] ∧ d < 8))) s := by
    have e1 := tw_ok (n := 2) h hp (x2 := some (.int (d : Int))) (x3 := some w3) (x4 := x4) (x5 := some w5) (x6 := none) (x7 := x7)
    have e1 : tw (at1 2) _ _ = _ := e1
    rw [e_or, e_op, e1, rbind_ok, e_c, rbind_ok, oNe_s (hT.asc _) (asc1 (by decide)), rbind_ok]
    by_cases c1 : wd T (p + 2) = [123]
    · by_cases c2 : d < 8
      · have c3 : ¬ (d : Int) = 8 := by omega
        rw [decide_eq_true c1, decide_eq_true ⟨c1, c2⟩]
        simp only [Bool.not_true, e_op, e_var, List.getElem?_cons_zero, List.getElem?_cons_succ, rbind_ok, e_c, oEq_int, c3, decide_false]
      · have c3 : (d : Int) = 8 := by omega
        rw [decide_eq_true c1, decide_eq_false (fun z => c2 z.2)]
        simp only [Bool.not_true, e_op, e_var, List.getElem?_cons_zero, List.getElem?_cons_succ, rbind_ok, e_c, oEq_int, c3, decide_true, Bool.not_false]
    · rw [decide_eq_false c1, decide_eq_false (fun z => c1 z.1), Bool.not_false]
  rw [e_seq, e_sif, hc, rto_ok]
  unfold pGroup
  by_cases c : wd T (p + 2) = [123] ∧ d < 8
  · rw [if_pos c, decide_eq_true c, Bool.not_true, ifK_f, e_bnil, obind_nx]
    have hlt := wd_in (T := T) (p := p + 2) (by rw [c.1]; exact List.cons_ne_nil _ _)
    obtain ⟨s1, e1, q1⟩ := hI c.2 (p + 3) s (by omega) h
    have e2 := at1_ok (p := p) (n := 3) (s := s) (x0 := some (.ref q)) (x2 := some (.int (d : Int))) (x3 := some w3) (x4 := x4) (x5 := some w5) (x6 := none) (x7 := x7)
    have e2 : at1 3 _ _ = _ := e2
    have e3 : (d : Int) + 1 = ((d + 1 : Nat) : Int) := by omega
    rw [e_seq, e_set, e_call, e_cons, mVar_ok (d := .ref q) rfl, rbind_ok, e_cons, e2, rbind_ok, e_cons, e_op, mVar_ok (d := .int (d : Int)) rfl, rbind_ok, e_c, rbind_ok, oAdd_int, e3, rbind_ok, e_nil, rbind_ok, rbind_ok, rbind_ok, rbind_ok, e1, rto_ok, obind_nx]
    show ∃ s', _ = O.rt (resD (PR.map _ (match I (p + 3) with
      | .ok v q => if wd T q = [125] then .ok v (q + 1) else .err q
      | .err e => .err e))) s' ∧ _
    cases eI : I (p + 3) with
    | err e =>
      refine ⟨s1, ?_, q1⟩
      simp only [List.set_cons_succ, List.set_cons_zero, e_seq, e_sif, e_not, e_op, e_var, List.getElem?_cons_zero, List.getElem?_cons_succ, rbind_ok, e_c, resD, ix2_0, Bool.not_false, rto_ok, ifK_t, e_ret, obind_rt, PR.map]
    | ok v p2 =>
      have hf := hF _ _ _ eI
      have h1 := h.pre q1
      refine ⟨s1, ?_, q1⟩
      have e4 : tw (mOp oIx (mVar 6) (mC (.int 2))) [some (.ref q), some (.int (p : Int)), some (.int (d : Int)), some w3, x4, some w5, some (.tup [.bl true, v, .int (p2 : Int)]), x7] s1 = .ok (.str (strOf (wd T p2))) s1 := by
        unfold tw
        simp only [e_op, e_var, List.getElem?_cons_zero, List.getElem?_cons_succ, rbind_ok, e_c, ix3_2, ixT h1 hf.2, tok0]
      have e5 := oNe_s (hT.asc p2) (asc1 (show 125 < 128 by decide)) s1
      rw [show ([some (.ref q), some (.int (p : Int)), some (.int (d : Int)), some w3, x4, some w5, none, x7] : Ev).set 6 (some (resD (PR.ok v p2))) = [some (.ref q), some (.int (p : Int)), some (.int (d : Int)), some w3, x4, some w5, some (.tup [.bl true, v, .int (p2 : Int)]), x7] from rfl]
      have e6 : mOp oIx (mVar 6) (mC (.int 2)) [some (.ref q), some (.int (p : Int)), some (.int (d : Int)), some w3, x4, some w5, some (.tup [.bl true, v, .int (p2 : Int)]), x7] s1 = .ok (.int p2) s1 := rfl
      have e7 : mOp oNe (tw (mOp oIx (mVar 6) (mC (.int 2)))) (mC (.str (strOf [125]))) [some (.ref q), some (.int (p : Int)), some (.int (d : Int)), some w3, x4, some w5, some (.tup [.bl true, v, .int (p2 : Int)]), x7] s1 = .ok (.bl (!decide (wd T p2 = [125]))) s1 := by
        rw [e_op, e4, rbind_ok, e_c, rbind_ok, e5]
      have e8 := fail_ok e6
      have e9 : mNot (mOp oIx (mVar 6) (mC (.int 0))) [some (.ref q), some (.int (p : Int)), some (.int (d : Int)), some w3, x4, some w5, some (.tup [.bl true, v, .int (p2 : Int)]), x7] s1 = .ok (.bl false) s1 := rfl
      rw [e_seq, e_sif, e9, rto_ok, ifK_f, e_bnil, obind_nx, e_seq, e_sif, e7, rto_ok]
      show _ = O.rt (resD (PR.map _ (if wd T p2 = [125] then .ok v (p2 + 1) else .err p2))) s1
      by_cases c4 : wd T p2 = [125]
      · rw [if_pos c4, decide_eq_true c4, Bool.not_true, ifK_f, e_bnil, obind_nx]
        have t3 : (if [w3, w5, v].length ≤ sizeLine then R.ok (D.tup [w3, w5, v]) s1 else .bad) = .ok (D.tup [w3, w5, v]) s1 := if_pos three_le
        simp only [e_ret, e_tup, e_cons, e_c, rbind_ok, e_nil, e_op, e_var, List.getElem?_cons_zero, List.getElem?_cons_succ, ix3_1, ix3_2, oAdd_int, t3]
        rw [if_pos (show ([D.bl true, D.tup [w3, w5, v], D.int ((p2 : Int) + 1)] : List D).length ≤ sizeLine from three_le), rto_ok]
        rfl
      · rw [if_neg c4, decide_eq_false c4, Bool.not_false, ifK_t, e8, obind_rt]
        rfl
  · rw [if_neg c, decide_eq_false c, Bool.not_false, ifK_t]
    have e2 := at1_ok (p := p) (n := 2) (s := s) (x0 := some (.ref q)) (x2 := some (.int (d : Int))) (x3 := some w3) (x4 := x4) (x5 := some w5) (x6 := none) (x7 := x7)
    have e2 : at1 2 _ _ = _ := e2
    rw [fail_ok e2, obind_rt]
    exact ⟨s, rfl, Pre.refl⟩
end
end G83
end Mi

namespace Mi
namespace G83
open PySem PySem.Spec PyProof.Rows L2

section
variable {q L p d : Nat} {T : List Tok'} {s : S}
abbrev Ev8 (q p d : Nat) (x3 x4 x5 x6 x7 : Option D) : Ev := [some (.ref q), some (.int (p : Int)), some (.int (d : Int)), x3, x4, x5, x6, x7]
def LTs : Str := "abcdefghijklmnopqrstuvwxyz"
theorem LT_in {c : Nat} (h : c < 128) (b : Bool) (s : S) : oIn b (.str (strOf [c])) (.str LTs) s = .ok (.bl (if b then !(decide (97 ≤ c) && decide (c ≤ 122)) else (decide (97 ≤ c) && decide (c ≤ 122)))) s := by
  have e : oIn b (.str (strOf [c])) (.str LTs) s = .ok (.bl (if b then !inStr ⟨#[c]⟩ LTs else inStr ⟨#[c]⟩ LTs)) s := rfl
  rw [e, inStr_one]
  have : ∀ c < 128, decide (c ∈ LTs.cps.toList) = (decide (97 ≤ c) && decide (c ≤ 122)) := by decide +kernel
  rw [this c h]
noncomputable def noName : M := mOr (mOp oEq (mVar 4) (mC (.str (strOf [])))) (mOr (mOp (oIn true) (mOp oIx (mVar 4) (mC (.int 0))) (mC (.str LTs))) (mOp oGt (mCall cLen (mCons (mVar 4) mNil)) (mC (.int 20))))
theorem noName_ok {w : List Nat} (ha : Asc w) (hl : w.length ≤ 1000000) {x3 x5 x6 x7 : Option D} : noName (Ev8 q p d x3 (some (.str (strOf w))) x5 x6 x7) s = .ok (.bl (!nameOk w)) s := by
  unfold noName nameOk Ev8
  cases w with
  | nil =>
    have a1 := oEq_s asc0 asc0 s
    simp only [e_or, e_op, e_var, List.getElem?_cons_zero, List.getElem?_cons_succ, rbind_ok, e_c, a1, decide_true, Bool.not_false]
  | cons c w =>
    have a0 := oEq_s ha asc0 s
    have e0 : decide (c :: w = []) = false := by simp
    rw [e0] at a0
    have i1 := LT_in (ha c List.mem_cons_self) true s
    have h5 : (20 < ((c :: w).length : Int)) ↔ ¬ (c :: w).length ≤ 20 := by omega
    cases hb : (decide (97 ≤ c) && decide (c ≤ 122)) <;> rw [hb] at i1 <;> by_cases h6 : (c :: w).length ≤ 20 <;>
      simp only [e_or, e_op, e_var, List.getElem?_cons_zero, List.getElem?_cons_succ, rbind_ok, e_c, a0, ix0_s (show w.length ≤ 1000000 by rw [List.length_cons] at hl; omega), i1, if_true, Bool.not_true, Bool.not_false, e_call, e_cons, e_nil, cLen_s (show (c :: w).length ≤ 5000000 by omega), oGt_int, h5, h6, not_true, not_false_iff, decide_true, decide_false, Bool.true_and, Bool.false_and, hb]
noncomputable def lead4 : M := mAnd (mOp oNe (mVar 4) (mC (.str (strOf [])))) (mOp (oIn false) (mOp oIx (mVar 4) (mC (.int 0))) (mC (.str DGs)))
theorem lead4_ok {w : List Nat} (ha : Asc w) (hl : w.length ≤ 1000000) {x3 x5 x6 x7 : Option D} : lead4 (Ev8 q p d x3 (some (.str (strOf w))) x5 x6 x7) s = .ok (.bl (leadD w)) s := by
  unfold lead4 leadD Ev8
  cases w with
  | nil =>
    have a1 := oNe_s asc0 asc0 s
    simp only [e_and, e_op, e_var, List.getElem?_cons_zero, List.getElem?_cons_succ, rbind_ok, e_c, a1, decide_true, Bool.not_true]
  | cons c w =>
    have a0 := oNe_s ha asc0 s
    have e0 : decide (c :: w = []) = false := by simp
    rw [e0] at a0
    have i1 := DG_in (ha c List.mem_cons_self) false s
    simp only [e_and, e_op, e_var, List.getElem?_cons_zero, List.getElem?_cons_succ, rbind_ok, e_c, a0, Bool.not_false, ix0_s (show w.length ≤ 1000000 by rw [List.length_cons] at hl; omega), i1, if_neg (show ¬ (false = true) by decide)]
noncomputable def blkN : B := (bSeq (sSet 5 (mCall F__law_number (mCons (mVar 4) (mCons (mC (.int 1)) (mCons (mC (.int 100)) mNil)))))
  (sIf (mOp oEq (mVar 5) (mNeg (mC (.int 1))))
  (failAt (at1 1))
  bNil))
noncomputable def blkA : B := sIf noName (failAt (at1 1)) bNil
noncomputable def blkG (F : List D → S → R D) : B := (bSeq (sSet 4 (tw (at1 1)))
  (bSeq (sSet 5 (mVar 4))
  (bSeq (sIf (mOp oEq (mVar 3) (mC (.str (strOf wU)))) blkN blkA) (blkR F))))
theorem num_pos {w : List Nat} {lo hi n : Int} (h : num w lo hi = some n) : lo ≤ n := by
  unfold num at h
  split at h
  · rename_i c
    cases h
    exact c.2.1
  · cases h
theorem aU : Asc wU := by
  unfold Asc wU
  decide
theorem aO : Asc wO := by
  unfold Asc wO
  decide
theorem blkG_u (hT : TOk T) {F : List D → S → R D} {I : Nat → PR} (hd : d ≤ 8) (hI : d < 8 → LI F q L T (d + 1) I) (hF : Fwd T I) (h : LR q T L s) (hw : wd T p = wU) :
    ∃ s', blkG F (Ev8 q p d (some (.str (strOf wU))) none none none none) s = .rt (resD (match num (wd T (p + 1)) 1 100 with
      | some n => (pGroup T I d (p + 2)).map fun v => .tup [.str "until", .int n, v]
      | none => .err (p + 1))) s' ∧ Pre s s' := by
  unfold blkG
  have hlt := wd_in (T := T) (p := p) (by rw [hw]; exact List.cons_ne_nil _ _)
  have e1 := tw_ok (n := 1) (p := p) h hlt (x2 := some (.int (d : Int))) (x3 := some (.str (strOf wU))) (x4 := none) (x5 := none) (x6 := none) (x7 := none)
  have e1 : tw (at1 1) _ _ = _ := e1
  have ec : ∀ (x4 x5 x6 x7 : Option D), mOp oEq (mVar 3) (mC (.str (strOf wU))) (Ev8 q p d (some (.str (strOf wU))) x4 x5 x6 x7) s = .ok (.bl true) s := fun x4 x5 x6 x7 => by
    have := oEq_s aU aU s
    rw [decide_eq_true rfl] at this
    exact this
  have eN : ∀ (x6 x7 : Option D), blkN (Ev8 q p d (some (.str (strOf wU))) (some (.str (strOf (wd T (p + 1))))) (some (.str (strOf (wd T (p + 1))))) x6 x7) s = (match num (wd T (p + 1)) 1 100 with
      | some n => .nx (Ev8 q p d (some (.str (strOf wU))) (some (.str (strOf (wd T (p + 1))))) (some (.int n)) x6 x7) s
      | none => .rt (resD (.err (p + 1))) s) := fun x6 x7 => by
    unfold blkN
    rw [e_seq, e_set, e_call, e_cons, mVar_ok (d := .str (strOf (wd T (p + 1)))) rfl, rbind_ok, e_cons, e_c, rbind_ok, e_cons, e_c, rbind_ok, e_nil, rbind_ok, rbind_ok, rbind_ok, rbind_ok, lnum_ok (hT.asc _) (hT.len _), rto_ok, obind_nx]
    cases en : num (wd T (p + 1)) 1 100 with
    | none =>
      rw [show (Ev8 q p d (some (.str (strOf wU))) (some (.str (strOf (wd T (p + 1))))) (some (.str (strOf (wd T (p + 1))))) x6 x7).set 5 (some (.int ((none : Option Int).getD (-1)))) = Ev8 q p d (some (.str (strOf wU))) (some (.str (strOf (wd T (p + 1))))) (some (.int (-1))) x6 x7 from rfl]
      have e4 : mOp oEq (mVar 5) (mNeg (mC (.int 1))) (Ev8 q p d (some (.str (strOf wU))) (some (.str (strOf (wd T (p + 1))))) (some (.int (-1))) x6 x7) s = .ok (.bl true) s := rfl
      have e5 := at1_ok (p := p) (n := 1) (s := s) (x0 := some (.ref q)) (x2 := some (.int (d : Int))) (x3 := some (.str (strOf wU))) (x4 := some (.str (strOf (wd T (p + 1))))) (x5 := some (.int (-1))) (x6 := x6) (x7 := x7)
      have e5 : at1 1 _ _ = _ := e5
      rw [e_sif, e4, rto_ok, ifK_t, fail_ok e5]
      rfl
    | some n =>
      have hn := num_pos en
      rw [show (Ev8 q p d (some (.str (strOf wU))) (some (.str (strOf (wd T (p + 1))))) (some (.str (strOf (wd T (p + 1))))) x6 x7).set 5 (some (.int ((some n).getD (-1)))) = Ev8 q p d (some (.str (strOf wU))) (some (.str (strOf (wd T (p + 1))))) (some (.int n)) x6 x7 from rfl]
      have e4 : mOp oEq (mVar 5) (mNeg (mC (.int 1))) (Ev8 q p d (some (.str (strOf wU))) (some (.str (strOf (wd T (p + 1))))) (some (.int n)) x6 x7) s = .ok (.bl false) s := by
        have : oEq (.int n) (.int (-1)) s = _ := oEq_int n (-1)
        rw [decide_eq_false (by omega)] at this
        exact this
      rw [e_sif, e4, rto_ok, ifK_f, e_bnil]
  rw [e_seq, e_set]
  show ∃ s', ((tw (at1 1) (Ev8 q p d (some (.str (strOf wU))) none none none none) s).to _ |>.bind _ : O) = _ ∧ _
  rw [e1, rto_ok, obind_nx, show (Ev8 q p d (some (.str (strOf wU))) none none none none).set 4 (some (.str (strOf (wd T (p + 1))))) = Ev8 q p d (some (.str (strOf wU))) (some (.str (strOf (wd T (p + 1))))) none none none from rfl]
  rw [e_seq, e_set, mVar_ok (d := .str (strOf (wd T (p + 1)))) rfl, rto_ok, obind_nx, show (Ev8 q p d (some (.str (strOf wU))) (some (.str (strOf (wd T (p + 1))))) none none none).set 5 (some (.str (strOf (wd T (p + 1))))) = Ev8 q p d (some (.str (strOf wU))) (some (.str (strOf (wd T (p + 1))))) (some (.str (strOf (wd T (p + 1))))) none none from rfl]
  rw [e_seq, e_sif, ec, rto_ok, ifK_t, eN]
  cases en : num (wd T (p + 1)) 1 100 with
  | none => exact ⟨s, rfl, Pre.refl⟩
  | some n =>
    have hlt2 := wd_in (T := T) (p := p + 1) (num_in en)
    show ∃ s', (O.nx (Ev8 q p d (some (.str (strOf wU))) (some (.str (strOf (wd T (p + 1))))) (some (.int n)) none none) s).bind _ = _ ∧ _
    rw [obind_nx]
    exact blkR_ok (x4 := some (.str (strOf (wd T (p + 1))))) (x7 := none) (w3 := .str (strOf wU)) (w5 := .int n) hT hd hI hF h (by omega)
theorem blkG_o (hT : TOk T) {F : List D → S → R D} {I : Nat → PR} (hd : d ≤ 8) (hI : d < 8 → LI F q L T (d + 1) I) (hF : Fwd T I) (h : LR q T L s) (hw : wd T p = wO) :
    ∃ s', blkG F (Ev8 q p d (some (.str (strOf wO))) none none none none) s = .rt (resD (if nameOk (wd T (p + 1)) = true then (pGroup T I d (p + 2)).map fun v => .tup [.str "on", .str (strOf (wd T (p + 1))), v] else .err (p + 1))) s' ∧ Pre s s' := by
  unfold blkG
  have hlt := wd_in (T := T) (p := p) (by rw [hw]; exact List.cons_ne_nil _ _)
  have e1 := tw_ok (n := 1) (p := p) h hlt (x2 := some (.int (d : Int))) (x3 := some (.str (strOf wO))) (x4 := none) (x5 := none) (x6 := none) (x7 := none)
  have e1 : tw (at1 1) _ _ = _ := e1
  have ec : ∀ (x4 x5 x6 x7 : Option D), mOp oEq (mVar 3) (mC (.str (strOf wU))) (Ev8 q p d (some (.str (strOf wO))) x4 x5 x6 x7) s = .ok (.bl false) s := fun x4 x5 x6 x7 => by
    have := oEq_s aO aU s
    rw [decide_eq_false (by decide)] at this
    exact this
  rw [e_seq, e_set]
  show ∃ s', ((tw (at1 1) (Ev8 q p d (some (.str (strOf wO))) none none none none) s).to _ |>.bind _ : O) = _ ∧ _
  rw [e1, rto_ok, obind_nx, show (Ev8 q p d (some (.str (strOf wO))) none none none none).set 4 (some (.str (strOf (wd T (p + 1))))) = Ev8 q p d (some (.str (strOf wO))) (some (.str (strOf (wd T (p + 1))))) none none none from rfl]
  rw [e_seq, e_set, mVar_ok (d := .str (strOf (wd T (p + 1)))) rfl, rto_ok, obind_nx, show (Ev8 q p d (some (.str (strOf wO))) (some (.str (strOf (wd T (p + 1))))) none none none).set 5 (some (.str (strOf (wd T (p + 1))))) = Ev8 q p d (some (.str (strOf wO))) (some (.str (strOf (wd T (p + 1))))) (some (.str (strOf (wd T (p + 1))))) none none from rfl]
  rw [e_seq, e_sif, ec, rto_ok, ifK_f]
  unfold blkA
  rw [e_sif, noName_ok (hT.asc _) (hT.len _), rto_ok]
  cases hn : nameOk (wd T (p + 1)) with
  | false =>
    have e5 := at1_ok (p := p) (n := 1) (s := s) (x0 := some (.ref q)) (x2 := some (.int (d : Int))) (x3 := some (.str (strOf wO))) (x4 := some (.str (strOf (wd T (p + 1))))) (x5 := some (.str (strOf (wd T (p + 1))))) (x6 := none) (x7 := none)
    have e5 : at1 1 _ _ = _ := e5
    rw [Bool.not_false, ifK_t, fail_ok e5, obind_rt, if_neg (by decide)]
    exact ⟨s, rfl, Pre.refl⟩
  | true =>
    have hlt2 := wd_in (T := T) (p := p + 1) (fun z => by rw [z] at hn; cases hn)
    rw [Bool.not_true, ifK_f, e_bnil, obind_nx, if_pos rfl]
    exact blkR_ok (x4 := some (.str (strOf (wd T (p + 1))))) (x7 := none) (w3 := .str (strOf wO)) (w5 := .str (strOf (wd T (p + 1)))) hT hd hI hF h (by omega)
end
end G83
end Mi

namespace Mi
namespace G83
open PySem PySem.Spec PyProof.Rows L2

section
variable {q L p d : Nat} {T : List Tok'} {s : S}
noncomputable def blk7 : B := (bSeq (sSet 7 (mCall F__law_number (mCons (mVar 4) (mCons (mC (.int 0)) (mCons (mC (.int 10000)) mNil)))))
  (bSeq (sIf (mOp oEq (mVar 7) (mNeg (mC (.int 1)))) (failAt (at1 1)) bNil)
  (sRet (mTup (mCons (mC (.bl true)) (mCons (mTup (mCons (mC (.str ("pass" : Str))) (mCons (mVar 3) (mCons (mVar 7) mNil)))) (mCons (at1 2) mNil)))))))
noncomputable def blkL : B := (bSeq (sIf (mOp (oIn true) (mVar 3) (mCall F__law_words mNil)) (failAt (mVar 1)) bNil)
  (bSeq (sSet 4 (tw (at1 1)))
  (bSeq (sIf lead4 blk7 bNil)
  (sRet (mTup (mCons (mC (.bl true)) (mCons (mTup (mCons (mC (.str ("pass" : Str))) (mCons (mVar 3) (mCons (mNeg (mC (.int 1))) mNil)))) (mCons (at1 1) mNil))))))))
theorem in_words {k : Nat} (h : s[k]? = some (C.lst (gs_PASSES.map D.str))) (w : List Nat) : oIn true (.str (strOf w)) (.ref k) s = .ok (.bl (!inP w)) s := by
  show inCellK true _ s[k]? s = _
  rw [h]
  show inSeqK true _ _ s = _
  unfold inSeqK
  rw [if_pos ⟨rfl, by decide +kernel⟩]
  rfl
theorem blkL_ok (hT : TOk T) (h : LR q T L s) (hp : p ≤ T.length) :
    ∃ s', blkL (Ev8 q p d (some (.str (strOf (wd T p)))) none none none none) s = .rt (resD (if inP (wd T p) = true then (if leadD (wd T (p + 1)) = true then (match num (wd T (p + 1)) 0 10000 with
      | some n => .ok (.tup [.str "pass", .str (strOf (wd T p)), .int n]) (p + 2)
      | none => .err (p + 1))
    else .ok (.tup [.str "pass", .str (strOf (wd T p)), .int (-1)]) (p + 1)) else .err p)) s' ∧ Pre s s' := by
  unfold blkL
  obtain ⟨k, t, e1, q1, hk⟩ := words_ok s
  have h1 := h.pre q1
  rw [e_seq, e_sif, e_op, mVar_ok (d := .str (strOf (wd T p))) rfl, rbind_ok, e_call, e_nil, rbind_ok, e1, rbind_ok, in_words hk, rto_ok]
  refine ⟨t, ?_, q1⟩
  cases c : inP (wd T p) with
  | false =>
    have e2 : mVar 1 (Ev8 q p d (some (.str (strOf (wd T p)))) none none none none) t = .ok (.int p) t := rfl
    rw [Bool.not_false, ifK_t, fail_ok e2, obind_rt, if_neg (by decide)]
    rfl
  | true =>
    rw [Bool.not_true, ifK_f, e_bnil, obind_nx, if_pos rfl]
    have hw : wd T p ≠ [] := fun z => by
      rw [z] at c
      exact absurd c (by decide +kernel)
    have hlt := wd_in hw
    have e3 := tw_ok (n := 1) (p := p) h1 hlt (x2 := some (.int (d : Int))) (x3 := some (.str (strOf (wd T p)))) (x4 := none) (x5 := none) (x6 := none) (x7 := none)
    have e3 : tw (at1 1) (Ev8 q p d (some (.str (strOf (wd T p)))) none none none none) t = _ := e3
    rw [e_seq, e_set, e3, rto_ok, obind_nx, show (Ev8 q p d (some (.str (strOf (wd T p)))) none none none none).set 4 (some (.str (strOf (wd T (p + 1))))) = Ev8 q p d (some (.str (strOf (wd T p)))) (some (.str (strOf (wd T (p + 1))))) none none none from rfl]
    rw [e_seq, e_sif, lead4_ok (hT.asc _) (hT.len _), rto_ok]
    cases c2 : leadD (wd T (p + 1)) with
    | true =>
      rw [ifK_t, if_pos rfl]
      unfold blk7
      rw [e_seq, e_set, e_call, e_cons, mVar_ok (d := .str (strOf (wd T (p + 1)))) rfl, rbind_ok, e_cons, e_c, rbind_ok, e_cons, e_c, rbind_ok, e_nil, rbind_ok, rbind_ok, rbind_ok, rbind_ok, lnum_ok (hT.asc _) (hT.len _), rto_ok, obind_nx]
      cases en : num (wd T (p + 1)) 0 10000 with
      | none =>
        rw [show (Ev8 q p d (some (.str (strOf (wd T p)))) (some (.str (strOf (wd T (p + 1))))) none none none).set 7 (some (.int ((none : Option Int).getD (-1)))) = Ev8 q p d (some (.str (strOf (wd T p)))) (some (.str (strOf (wd T (p + 1))))) none none (some (.int (-1))) from rfl]
        have e4 : mOp oEq (mVar 7) (mNeg (mC (.int 1))) (Ev8 q p d (some (.str (strOf (wd T p)))) (some (.str (strOf (wd T (p + 1))))) none none (some (.int (-1)))) t = .ok (.bl true) t := rfl
        have e5 := at1_ok (p := p) (n := 1) (s := t) (x0 := some (.ref q)) (x2 := some (.int (d : Int))) (x3 := some (.str (strOf (wd T p)))) (x4 := some (.str (strOf (wd T (p + 1))))) (x5 := none) (x6 := none) (x7 := some (.int (-1)))
        have e5 : at1 1 _ _ = _ := e5
        rw [e_seq, e_sif, e4, rto_ok, ifK_t, fail_ok e5]
        rfl
      | some n =>
        have hn := num_pos en
        rw [show (Ev8 q p d (some (.str (strOf (wd T p)))) (some (.str (strOf (wd T (p + 1))))) none none none).set 7 (some (.int ((some n).getD (-1)))) = Ev8 q p d (some (.str (strOf (wd T p)))) (some (.str (strOf (wd T (p + 1))))) none none (some (.int n)) from rfl]
        have e4 : mOp oEq (mVar 7) (mNeg (mC (.int 1))) (Ev8 q p d (some (.str (strOf (wd T p)))) (some (.str (strOf (wd T (p + 1))))) none none (some (.int n))) t = .ok (.bl false) t := by
          have : oEq (.int n) (.int (-1)) t = _ := oEq_int n (-1)
          rw [decide_eq_false (by omega)] at this
          exact this
        have e5 := at1_ok (p := p) (n := 2) (s := t) (x0 := some (.ref q)) (x2 := some (.int (d : Int))) (x3 := some (.str (strOf (wd T p)))) (x4 := some (.str (strOf (wd T (p + 1))))) (x5 := none) (x6 := none) (x7 := some (.int n))
        have e5 : at1 2 _ _ = _ := e5
        rw [e_seq, e_sif, e4, rto_ok, ifK_f, e_bnil, obind_nx, e_ret, e_tup, e_cons, e_c, rbind_ok, e_cons, e_tup, e_cons, e_c, rbind_ok, e_cons, mVar_ok (d := .str (strOf (wd T p))) rfl, rbind_ok, e_cons, mVar_ok (d := .int n) rfl, rbind_ok, e_nil, rbind_ok, rbind_ok, rbind_ok, rbind_ok, if_pos (show ([D.str ("pass" : Str), .str (strOf (wd T p)), .int n] : List D).length ≤ sizeLine from three_le), rbind_ok, e_cons, e5, rbind_ok, e_nil, rbind_ok, rbind_ok, rbind_ok, rbind_ok, if_pos (show ([D.bl true, _, .int ((p + 2 : Nat) : Int)] : List D).length ≤ sizeLine from three_le), rto_ok]
        rfl
    | false =>
      rw [ifK_f, e_bnil, obind_nx, if_neg (by decide)]
      have e5 := at1_ok (p := p) (n := 1) (s := t) (x0 := some (.ref q)) (x2 := some (.int (d : Int))) (x3 := some (.str (strOf (wd T p)))) (x4 := some (.str (strOf (wd T (p + 1))))) (x5 := none) (x6 := none) (x7 := none)
      have e5 : at1 1 _ _ = _ := e5
      rw [e_ret, e_tup, e_cons, e_c, rbind_ok, e_cons, e_tup, e_cons, e_c, rbind_ok, e_cons, mVar_ok (d := .str (strOf (wd T p))) rfl, rbind_ok, e_cons, e_neg, e_c, rbind_ok, rbind_ok, e_nil, rbind_ok, rbind_ok, rbind_ok, rbind_ok, if_pos (show ([D.str ("pass" : Str), .str (strOf (wd T p)), .int (-1)] : List D).length ≤ sizeLine from three_le), rbind_ok, e_cons, e5, rbind_ok, e_nil, rbind_ok, rbind_ok, rbind_ok, rbind_ok, if_pos (show ([D.bl true, _, .int ((p + 1 : Nat) : Int)] : List D).length ≤ sizeLine from three_le), rto_ok]
      rfl
theorem litem_ok (hT : TOk T) {F : List D → S → R D} {I : Nat → PR} (hd : d ≤ 8) (hI : d < 8 → LI F q L T (d + 1) I) (hF : Fwd T I) : LI (runF 3 8 (B__law_read_item F)) q L T d (pItem T (pGroup T I d)) := fun p s hp h => by
  have e0 : runF 3 8 (B__law_read_item F) [.ref q, .int (p : Int), .int (d : Int)] s = runO (B__law_read_item F (Ev8 q p d none none none none none) s) := by
    rw [runF_eq (n := 3) rfl]
    rfl
  have eB : B__law_read_item F = bSeq (sSet 3 (tw (mVar 1))) (bSeq (sIf (mOr (mOp oEq (mVar 3) (mC (.str (strOf wU)))) (mOp oEq (mVar 3) (mC (.str (strOf wO))))) (blkG F) bNil) blkL) := rfl
  have e1 := tw_ok0 (p := p) h hp (x2 := some (.int (d : Int))) (x3 := none) (x4 := none) (x5 := none) (x6 := none) (x7 := none)
  have e1 : tw (mVar 1) (Ev8 q p d none none none none none) s = _ := e1
  rw [e0, eB, e_seq, e_set, e1, rto_ok, obind_nx, show (Ev8 q p d none none none none none).set 3 (some (.str (strOf (wd T p)))) = Ev8 q p d (some (.str (strOf (wd T p)))) none none none none from rfl]
  have a1 := oEq_s (hT.asc p) aU s
  have a2 := oEq_s (hT.asc p) aO s
  rw [e_seq, e_sif, e_or, e_op, mVar_ok (d := .str (strOf (wd T p))) rfl, rbind_ok, e_c, rbind_ok, a1, rbind_ok]
  unfold pItem
  by_cases c1 : wd T p = wU
  · obtain ⟨s', e2, q2⟩ := blkG_u (L := L) (p := p) hT hd hI hF h c1
    rw [if_pos c1, decide_eq_true c1]
    refine ⟨s', ?_, q2⟩
    rw [c1]
    show runO (((ifK (blkG F) bNil _ (.bl true) s).bind _ : O)) = _
    rw [ifK_t, e2, obind_rt, runO_rt] <;> rfl
  · rw [if_neg c1, decide_eq_false c1]
    show ∃ s', runO (((mOp oEq (mVar 3) (mC (.str (strOf wO))) _ s).to _ |>.bind _ : O)) = _ ∧ _
    rw [e_op, mVar_ok (d := .str (strOf (wd T p))) rfl, rbind_ok, e_c, rbind_ok, a2, rto_ok]
    by_cases c2 : wd T p = wO
    · obtain ⟨s', e2, q2⟩ := blkG_o (L := L) (p := p) hT hd hI hF h c2
      rw [if_pos c2, decide_eq_true c2, ifK_t]
      refine ⟨s', ?_, q2⟩
      rw [c2, e2, obind_rt, runO_rt]
    · rw [if_neg c2, decide_eq_false c2, ifK_f, e_bnil, obind_nx]
      obtain ⟨s', e2, q2⟩ := blkL_ok (d := d) hT h hp
      refine ⟨s', ?_, q2⟩
      rw [e2, runO_rt] <;> rfl
end
end G83
end Mi

namespace Mi
namespace G83
open PySem PySem.Spec PyProof.Rows L2

/-! ### what is read can be compared -/
inductive Flat : Nat → D → Prop
  | int (n : Nat) (i : Int) : Flat n (.int i)
  | str (n : Nat) {w : List Nat} (h : Asc w) : Flat n (.str (strOf w))
  | tup {n : Nat} {ds : List D} (h : ∀ x ∈ ds, Flat n x) : Flat (n + 1) (.tup ds)
theorem Flat.mono {n : Nat} {d : D} (h : Flat n d) : ∀ {m : Nat}, n ≤ m → Flat m d := by
  induction h with
  | int n i => exact fun _ => .int _ i
  | str n h => exact fun _ => .str _ h
  | tup h ih =>
    intro m hm
    obtain ⟨k, rfl⟩ : ∃ k, m = k + 1 := ⟨m - 1, by omega⟩
    exact .tup fun x hx => ih x hx (by omega)
theorem allPy_of {f : D → Option PyData} {n : Nat} : ∀ (ds : List D), (∀ x ∈ ds, ∃ p, f x = some p ∧ p.canLay0 = true ∧ p.depth ≤ n ∧ PyData.eqv p p = true) → ∃ ps, allPy f ds = some ps ∧ PyData.canLayAll0 ps = true ∧ PyData.depthAll ps ≤ n ∧ PyData.eqvAll ps ps = true
  | [], _ => ⟨[], rfl, by simp [PyData.canLayAll0], by simp [PyData.depthAll], by simp [PyData.eqvAll]⟩
  | d :: ds, h => by
    obtain ⟨p, e, a, b, c⟩ := h d List.mem_cons_self
    obtain ⟨ps, e', a', b', c'⟩ := allPy_of ds fun x hx => h x (List.mem_cons_of_mem _ hx)
    refine ⟨p :: ps, ?_, ?_, ?_, ?_⟩
    · show (match f d, allPy f ds with
        | some p, some ps => some (p :: ps)
        | _, _ => none) = _
      rw [e, e']
    · simp only [PyData.canLayAll0, a, a', Bool.and_self]
    · simp only [PyData.depthAll]
      omega
    · simp only [PyData.eqvAll, c, c', Bool.and_self]
theorem Flat.py {n : Nat} {d : D} (h : Flat n d) (s : S) : ∀ {m : Nat}, n < m → ∃ p, toPy s m d = some p ∧ p.canLay0 = true ∧ p.depth ≤ n ∧ PyData.eqv p p = true := by
  induction h with
  | int n i =>
    intro m hm
    obtain ⟨k, rfl⟩ : ∃ k, m = k + 1 := ⟨m - 1, by omega⟩
    exact ⟨.int i, rfl, by simp [PyData.canLay0], by simp [PyData.depth], by simp [PyData.eqv]⟩
  | @str n w h =>
    intro m hm
    obtain ⟨k, rfl⟩ : ∃ k, m = k + 1 := ⟨m - 1, by omega⟩
    exact ⟨.str (strOf w), rfl, (by simp only [PyData.canLay0]; exact asc_all h), by simp [PyData.depth], by simp [PyData.eqv]⟩
  | @tup n ds h ih =>
    intro m hm
    obtain ⟨k, rfl⟩ : ∃ k, m = k + 1 := ⟨m - 1, by omega⟩
    obtain ⟨ps, e, a, b, c⟩ := allPy_of (f := toPy s k) (n := n) ds fun x hx => ih x hx (by omega)
    refine ⟨.tuple ps, ?_, ?_, ?_, ?_⟩
    · show (allPy (toPy s k) ds).map PyData.tuple = _
      rw [e]
      rfl
    · simp only [PyData.canLay0, a]
    · simp only [PyData.depth]
      omega
    · simp only [PyData.eqv, c]
theorem Flat.eq {n : Nat} {d : D} (h : Flat n d) (hn : n ≤ 64) (s : S) : oEq d d s = .ok (.bl true) s := by
  obtain ⟨p, e, a, b, c⟩ := h.py s (m := 66) (by omega)
  have hs : SeqAt.shaped p = true := by
    unfold SeqAt.shaped
    rw [a, decide_eq_true (by omega)]
    rfl
  unfold oEq eqPy
  rw [e]
  simp only [hs, and_self, if_true, c]
def FlatP (n : Nat) (f : Nat → PR) : Prop := ∀ p d q, f p = .ok d q → Flat n d
section
variable {T : List Tok'}
theorem flat_group {I : Nat → PR} {n d : Nat} (h : FlatP n I) : FlatP n (pGroup T I d) := fun p v q e => by
  unfold pGroup at e
  split at e
  · cases eI : I (p + 1) with
    | err x =>
      rw [eI] at e
      cases e
    | ok v' q' =>
      rw [eI] at e
      have e : (if wd T q' = [125] then PR.ok v' (q' + 1) else .err q') = .ok v q := e
      split at e
      · cases e
        exact h _ _ _ eI
      · cases e
  · cases e
theorem flat3 {n : Nat} {a b c : D} (ha : Flat n a) (hb : Flat n b) (hc : Flat n c) : Flat (n + 1) (.tup [a, b, c]) := .tup fun x hx => by
  simp only [List.mem_cons, List.not_mem_nil, or_false] at hx
  rcases hx with rfl | rfl | rfl
  · exact ha
  · exact hb
  · exact hc
theorem ascS (w : List Nat) (h : w.all (· < 128) = true) : Asc w := fun c hc => by
  rw [List.all_eq_true] at h
  simpa using h c hc
theorem fl_until (n : Nat) : Flat n (.str "until") := Flat.str (w := wU) n aU
theorem fl_on (n : Nat) : Flat n (.str "on") := Flat.str (w := wO) n aO
theorem fl_pass (n : Nat) : Flat n (.str "pass") := Flat.str (w := [112, 97, 115, 115]) n (ascS _ (by decide))
theorem flat_item (hT : TOk T) {G : Nat → PR} {n : Nat} (h : FlatP n G) : FlatP (n + 1) (pItem T G) := fun p v q e => by
  unfold pItem at e
  split at e
  · cases e1 : num (wd T (p + 1)) 1 100 with
    | none =>
      rw [e1] at e
      cases e
    | some k =>
      rw [e1] at e
      cases e2 : G (p + 2) with
      | err _ =>
        rw [e2] at e
        cases e
      | ok d' q' =>
        rw [e2] at e
        cases e
        exact flat3 (fl_until _) (.int _ _) (h _ _ _ e2)
  · split at e
    · split at e
      · cases e2 : G (p + 2) with
        | err _ =>
          rw [e2] at e
          cases e
        | ok d' q' =>
          rw [e2] at e
          cases e
          exact flat3 (fl_on _) (.str _ (hT.asc _)) (h _ _ _ e2)
      · cases e
    · split at e
      · split at e
        · cases e1 : num (wd T (p + 1)) 0 10000 with
          | none =>
            rw [e1] at e
            cases e
          | some k =>
            rw [e1] at e
            cases e
            exact flat3 (fl_pass _) (.str _ (hT.asc _)) (.int _ _)
        · cases e
          exact flat3 (fl_pass _) (.str _ (hT.asc _)) (.int _ _)
      · cases e
theorem flat_loop {item : Nat → PR} {n : Nat} (h : FlatP n item) : ∀ (k : Nat) (acc : List D), (∀ x ∈ acc, Flat n x) → FlatP (n + 1) (pLoop T item k acc)
  | 0, acc, _ => fun p v q e => by cases e
  | k + 1, acc, ha => fun p v q e => by
    unfold pLoop at e
    cases eI : item p with
    | err _ =>
      rw [eI] at e
      cases e
    | ok i q' =>
      rw [eI] at e
      have e : (if wd T q' = [59] then pLoop T item k (acc ++ [i]) (q' + 1) else .ok (.tup (acc ++ [i])) q') = .ok v q := e
      have h2 : ∀ x ∈ acc ++ [i], Flat n x := fun x hx => (List.mem_append.mp hx).elim (ha x) fun hx => by
        rw [List.mem_singleton.mp hx]
        exact h _ _ _ eI
      split at e
      · exact flat_loop h k _ h2 _ _ _ e
      · cases e
        exact .tup h2
theorem flat_items (hT : TOk T) : ∀ (j d : Nat), FlatP (2 * j) (pItems T j d)
  | 0, d => fun p v q e => by cases e
  | j + 1, d => flat_loop (n := 2 * j + 1) (flat_item hT (flat_group (flat_items hT j (d + 1)))) _ _ fun _ h => by cases h
/-! ### where errors lie -/
def ErrP (T : List Tok') (f : Nat → PR) : Prop := ∀ p e, p ≤ T.length → f p = .err e → e ≤ T.length
theorem err_group {I : Nat → PR} {d : Nat} (hF : Fwd T I) (h : ErrP T I) : ErrP T (pGroup T I d) := fun p x hp e => by
  unfold pGroup at e
  split at e
  · rename_i c
    have hlt := wd_in (T := T) (p := p) (by rw [c.1]; exact List.cons_ne_nil _ _)
    cases eI : I (p + 1) with
    | err y =>
      rw [eI] at e
      cases e
      exact h _ _ hlt eI
    | ok v' q' =>
      rw [eI] at e
      have e : (if wd T q' = [125] then PR.ok v' (q' + 1) else .err q') = .err x := e
      split at e
      · cases e
      · cases e
        exact (hF _ _ _ eI).2
  · cases e
    exact hp
theorem err_item {G : Nat → PR} (h : ErrP T G) : ErrP T (pItem T G) := fun p x hp e => by
  unfold pItem at e
  split at e
  · rename_i c
    have hlt := wd_in (T := T) (p := p) (by rw [c]; exact List.cons_ne_nil _ _)
    cases e1 : num (wd T (p + 1)) 1 100 with
    | none =>
      rw [e1] at e
      cases e
      exact hlt
    | some k =>
      have hlt2 := wd_in (T := T) (p := p + 1) (num_in e1)
      rw [e1] at e
      cases e2 : G (p + 2) with
      | err _ =>
        rw [e2] at e
        cases e
        exact h _ _ hlt2 e2
      | ok d' q' =>
        rw [e2] at e
        cases e
  · split at e
    · rename_i c
      have hlt := wd_in (T := T) (p := p) (by rw [c]; exact List.cons_ne_nil _ _)
      split at e
      · rename_i c2
        have hlt2 := wd_in (T := T) (p := p + 1) (fun z => by rw [z] at c2; cases c2)
        cases e2 : G (p + 2) with
        | err _ =>
          rw [e2] at e
          cases e
          exact h _ _ hlt2 e2
        | ok d' q' =>
          rw [e2] at e
          cases e
      · cases e
        exact hlt
    · split at e
      · rename_i c
        have hw : wd T p ≠ [] := fun z => by
          rw [z] at c
          exact absurd c (by decide +kernel)
        have hlt := wd_in hw
        split at e
        · cases e1 : num (wd T (p + 1)) 0 10000 with
          | none =>
            rw [e1] at e
            cases e
            exact hlt
          | some k =>
            rw [e1] at e
            cases e
        · cases e
      · cases e
        exact hp
theorem err_loop {item : Nat → PR} (hF : Fwd T item) (h : ErrP T item) : ∀ (k : Nat) (acc : List D), ErrP T (pLoop T item k acc)
  | 0, acc => fun p x hp e => by
    cases e
    exact hp
  | k + 1, acc => fun p x hp e => by
    unfold pLoop at e
    cases eI : item p with
    | err _ =>
      rw [eI] at e
      cases e
      exact h _ _ hp eI
    | ok i q' =>
      rw [eI] at e
      have e : (if wd T q' = [59] then pLoop T item k (acc ++ [i]) (q' + 1) else .ok (.tup (acc ++ [i])) q') = .err x := e
      split at e
      · rename_i c
        have hlt := wd_in (T := T) (p := q') (by rw [c]; exact List.cons_ne_nil _ _)
        exact err_loop hF h k _ _ _ hlt e
      · cases e
theorem err_items : ∀ (j d : Nat), ErrP T (pItems T j d)
  | 0, d => fun p x hp e => by
    cases e
    exact hp
  | j + 1, d => err_loop (fwd_item (fwd_group (fwd_items j (d + 1)) d)) (err_item (err_group (fwd_items j (d + 1)) (err_items j (d + 1)))) _ _
end
end G83
end Mi

namespace Mi
namespace G83
open PySem PySem.Spec PyProof.Rows L2

section
variable {q L : Nat} {T : List Tok'}
abbrev Ev6 (q p d r : Nat) (o4 o5 : Option D) : Ev := [some (.ref q), some (.int (p : Int)), some (.int (d : Int)), some (.ref r), o4, o5]
def LpOk (o : O) (q d r : Nat) (s : S) : PR → Prop
  | .ok v p => ∃ ds s' o4 o5, v = .tup ds ∧ o = .nx (Ev6 q p d r o4 o5) s' ∧ s'[r]? = some (C.lst ds) ∧ Kp r s s'
  | .err e => ∃ s', o = .rt (resD (.err e)) s' ∧ Kp r s s'
theorem twv {p d r : Nat} {o4 o5 : Option D} {s : S} (h : LR q T L s) (hp : p ≤ T.length) : mOp oIx (mOp oIx (mVar 0) (mVar 1)) (mC (.int 0)) (Ev6 q p d r o4 o5) s = .ok (.str (strOf (wd T p))) s := by
  simp only [e_op, e_var, List.getElem?_cons_zero, List.getElem?_cons_succ, rbind_ok, e_c, ixT h hp, tok0]
theorem litems_loop (hT : TOk T) {F : List D → S → R D} {item : Nat → PR} {d : Nat} (hF : Fwd T item) (hI : LI F q L T d item) (r : Nat) (hr : r ≠ q) :
    ∀ (n : Nat) (acc : List D) (p k : Nat) (o4 o5 : Option D) (s : S), p ≤ T.length → T.length + 1 ≤ n + p → acc.length + n ≤ 5000000 → LR q T L s → s[r]? = some (C.lst acc) →
    LpOk (loop none (gN 4) (W__law_read_items1 F) (rngL (k : Int) n) (Ev6 q p d r o4 o5) s) q d r s (pLoop T item n acc p) := by
  intro n
  induction n with
  | zero =>
    intro acc p k o4 o5 s hp hn _ _ _
    omega
  | succ n ih =>
    intro acc p k o4 o5 s hp hn hz h hs
    have eL : rngL (k : Int) (n + 1) = .int (k : Int) :: rngL ((k + 1 : Nat) : Int) n := by
      show D.int (k : Int) :: rngL ((k : Int) + 1) n = _
      rw [show (k : Int) + 1 = ((k + 1 : Nat) : Int) by omega]
    rw [eL, loop_cons (g := none) trivial (gN_eq _ _ _)]
    rw [show (Ev6 q p d r o4 o5).set 4 (some (.int (k : Int))) = Ev6 q p d r (some (.int (k : Int))) o5 from rfl]
    obtain ⟨s1, e1, q1⟩ := hI p s hp h
    have h1 := h.pre q1
    have eW : W__law_read_items1 F = (bSeq (sSet 5 (mCall F (mCons (mVar 0) (mCons (mVar 1) (mCons (mVar 2) mNil)))))
      (bSeq (sIf (mNot (mOp oIx (mVar 5) (mC (.int 0)))) (sRet (mVar 5)) bNil)
      (bSeq (sExpr (mMeth isLst oApp (mVar 3) (mCons (mOp oIx (mVar 5) (mC (.int 1))) mNil)))
      (bSeq (sSet 1 (mOp oIx (mVar 5) (mC (.int 2))))
      (bSeq (sIf (mOp oNe (mOp oIx (mOp oIx (mVar 0) (mVar 1)) (mC (.int 0))) (mC (.str (strOf [59])))) sBreak bNil)
      (sSet 1 (mOp oAdd (mVar 1) (mC (.int 1))))))))) := rfl
    rw [eW, e_seq, e_set, e_call, e_cons, mVar_ok (d := .ref q) rfl, rbind_ok, e_cons, mVar_ok (d := .int (p : Int)) rfl, rbind_ok, e_cons, mVar_ok (d := .int (d : Int)) rfl, rbind_ok, e_nil, rbind_ok, rbind_ok, rbind_ok, rbind_ok, e1, rto_ok, obind_nx]
    have k1 : Kp r s s1 := fun r' c _ z => q1 r' c z
    unfold pLoop
    cases eI : item p with
    | err e =>
      refine ⟨s1, ?_, k1⟩
      simp only [List.set_cons_succ, List.set_cons_zero, e_seq, e_sif, e_not, e_op, e_var, List.getElem?_cons_zero, List.getElem?_cons_succ, rbind_ok, e_c, resD, ix2_0, Bool.not_false, rto_ok, ifK_t, e_ret, obind_rt]
    | ok v p2 =>
      have hf := hF _ _ _ eI
      have hs1 := q1 _ _ hs
      have ap := oApp_ok (d := v) hs1 (by rw [sizeL]; omega)
      have h2 : LR q T L (s1.set r (C.lst (acc ++ [v]))) := by
        unfold LR
        rw [set_get, if_neg hr]
        exact h1
      have k2 : Kp r s (s1.set r (C.lst (acc ++ [v]))) := k1.trans Kp.set
      rw [show (Ev6 q p d r (some (.int (k : Int))) o5).set 5 (some (resD (PR.ok v p2))) = Ev6 q p d r (some (.int (k : Int))) (some (.tup [.bl true, v, .int (p2 : Int)])) from rfl]
      have e9 : mNot (mOp oIx (mVar 5) (mC (.int 0))) (Ev6 q p d r (some (.int (k : Int))) (some (.tup [.bl true, v, .int (p2 : Int)]))) s1 = .ok (.bl false) s1 := rfl
      rw [e_seq, e_sif, e9, rto_ok, ifK_f, e_bnil, obind_nx, e_seq, e_expr, e_meth, mVar_ok (d := .ref r) rfl, rbind_ok, if_pos (isLst_ok hs1), e_cons, e_op, mVar_ok (d := .tup [.bl true, v, .int (p2 : Int)]) rfl, rbind_ok, e_c, rbind_ok, ix3_1, rbind_ok, e_nil, rbind_ok, rbind_ok, ap, rto_ok, obind_nx]
      rw [e_seq, e_set, e_op, mVar_ok (d := .tup [.bl true, v, .int (p2 : Int)]) rfl, rbind_ok, e_c, rbind_ok, ix3_2, rto_ok, obind_nx]
      rw [show (Ev6 q p d r (some (.int (k : Int))) (some (.tup [.bl true, v, .int (p2 : Int)]))).set 1 (some (.int (p2 : Int))) = Ev6 q p2 d r (some (.int (k : Int))) (some (.tup [.bl true, v, .int (p2 : Int)])) from rfl]
      rw [e_seq, e_sif, e_op, twv h2 hf.2, rbind_ok, e_c, rbind_ok, oNe_s (hT.asc _) (asc1 (by decide)), rto_ok]
      show LpOk _ q d r s (if wd T p2 = [59] then pLoop T item n (acc ++ [v]) (p2 + 1) else .ok (.tup (acc ++ [v])) p2)
      by_cases c : wd T p2 = [59]
      · have hlt := wd_in (T := T) (p := p2) (by rw [c]; exact List.cons_ne_nil _ _)
        rw [if_pos c, decide_eq_true c, Bool.not_true, ifK_f, e_bnil, obind_nx, e_set, e_op, mVar_ok (d := .int (p2 : Int)) rfl, rbind_ok, e_c, rbind_ok, oAdd_int, rto_ok, show (p2 : Int) + 1 = ((p2 + 1 : Nat) : Int) by omega]
        have hh := ih (acc ++ [v]) (p2 + 1) (k + 1) (some (.int (k : Int))) (some (.tup [.bl true, v, .int (p2 : Int)])) _ hlt (by omega) (by rw [List.length_append, List.length_singleton]; omega) h2 (set_at hs1)
        show LpOk (loop none (gN 4) (W__law_read_items1 F) (rngL ((k + 1 : Nat) : Int) n) (Ev6 q (p2 + 1) d r (some (.int (k : Int))) (some (.tup [.bl true, v, .int (p2 : Int)]))) _) q d r s _
        cases er : pLoop T item n (acc ++ [v]) (p2 + 1) with
        | err e =>
          rw [er] at hh
          obtain ⟨s', e5, k5⟩ := hh
          exact ⟨s', e5, k2.trans k5⟩
        | ok w p3 =>
          rw [er] at hh
          obtain ⟨ds, s', a4, a5, e5, e6, e7, e8⟩ := hh
          exact ⟨ds, s', a4, a5, e5, e6, e7, k2.trans e8⟩
      · rw [if_neg c, decide_eq_false c, Bool.not_false, ifK_t]
        exact ⟨acc ++ [v], _, some (.int (k : Int)), some (.tup [.bl true, v, .int (p2 : Int)]), rfl, rfl, set_at hs1, k2⟩
theorem litems_ok (hT : TOk T) : ∀ (j d : Nat), 9 ≤ j + d → d ≤ 8 → LI (F__law_read_items j) q L T d (pItems T j d)
  | 0, d, h1, h2 => by omega
  | j + 1, d, h1, h2 => fun p s hp h => by
    have hI : LI (runF 3 8 (B__law_read_item (F__law_read_items j))) q L T d (pItem T (pGroup T (pItems T j (d + 1)) d)) := litem_ok hT h2 (fun hd => litems_ok hT j (d + 1) (by omega) (by omega)) (fwd_items j (d + 1))
    have hF : Fwd T (pItem T (pGroup T (pItems T j (d + 1)) d)) := fwd_item (fwd_group (fwd_items j (d + 1)) d)
    have e0 : F__law_read_items (j + 1) [.ref q, .int (p : Int), .int (d : Int)] s = runO (B__law_read_items (runF 3 8 (B__law_read_item (F__law_read_items j))) [some (.ref q), some (.int (p : Int)), some (.int (d : Int)), none, none, none] s) := by
      show runF 3 6 _ _ _ = _
      rw [runF_eq (n := 3) rfl]
      rfl
    show ∃ s', _ = R.ok (resD (pLoop T (pItem T (pGroup T (pItems T j (d + 1)) d)) (T.length + 1) [] p)) s' ∧ _
    generalize runF 3 8 (B__law_read_item (F__law_read_items j)) = F at e0 hI
    generalize pItem T (pGroup T (pItems T j (d + 1)) d) = item at hI hF
    rw [e0]
    unfold B__law_read_items
    have hl : s.length ≠ q := fun z => by
      have := lt_of_get h
      omega
    have h1 : LR q T L (s ++ [C.lst []]) := h.pre Pre.app
    have hz := hT.size
    have hlen : cLen [.ref q] (s ++ [C.lst []]) = .ok (.int ((T.length + 1 : Nat) : Int)) (s ++ [C.lst []]) := by
      rw [cLen_lst h1, List.length_map, List.length_append, List.length_singleton]
    have hn : (((T.length + 1 : Nat) : Int)).toNat = T.length + 1 := by omega
    rw [e_seq, e_set, e_lst, e_nil, rbind_ok, if_pos (show ([] : List D).length ≤ sizeLine from Nat.zero_le _), rto_ok, obind_nx]
    rw [show ([some (.ref q), some (.int (p : Int)), some (.int (d : Int)), none, none, none] : Ev).set 3 (some (.ref s.length)) = Ev6 q p d s.length none none from rfl]
    rw [e_seq, e_for, e_rng1, e_cons, e_call, e_cons, mVar_ok (d := .ref q) rfl, rbind_ok, e_nil, rbind_ok, rbind_ok, hlen, rbind_ok, e_nil, rbind_ok, rbind_ok, e_rngK1, hn, rto_ok]
    have hL := litems_loop (L := L) hT hF hI s.length hl (T.length + 1) [] p 0 none none (s ++ [C.lst []]) hp (by omega) (by simp; omega) h1 app_last
    have hL : LpOk (loop none (gN 4) (W__law_read_items1 F) (rngL 0 (T.length + 1)) (Ev6 q p d s.length none none) (s ++ [C.lst []])) q d s.length (s ++ [C.lst []]) _ := hL
    have kp : ∀ t, Kp s.length (s ++ [C.lst []]) t → Pre s t := fun t k r' c z => by
      have := lt_of_get z
      exact k r' c (by omega) (by rw [app_get this]; exact z)
    cases er : pLoop T item (T.length + 1) [] p with
    | err e =>
      rw [er] at hL
      obtain ⟨s', e5, k5⟩ := hL
      refine ⟨s', ?_, kp _ k5⟩
      show runO ((loop none (gN 4) (W__law_read_items1 F) (rngL 0 (T.length + 1)) (Ev6 q p d s.length none none) (s ++ [C.lst []])).bind _) = _
      rw [e5]
      rfl
    | ok w p3 =>
      rw [er] at hL
      obtain ⟨ds, s', a4, a5, rfl, e6, e7, e8⟩ := hL
      refine ⟨s', ?_, kp _ e8⟩
      show runO ((loop none (gN 4) (W__law_read_items1 F) (rngL 0 (T.length + 1)) (Ev6 q p d s.length none none) (s ++ [C.lst []])).bind _) = _
      rw [e6, obind_nx, e_ret, e_tup, e_cons, e_c, rbind_ok, e_cons, e_call, e_cons, mVar_ok (d := .ref s.length) rfl, rbind_ok, e_nil, rbind_ok, rbind_ok, cTuple_l e7, rbind_ok, e_cons, mVar_ok (d := .int (p3 : Int)) rfl, rbind_ok, e_nil, rbind_ok, rbind_ok, rbind_ok, rbind_ok, if_pos (show ([D.bl true, .tup ds, .int (p3 : Int)] : List D).length ≤ sizeLine from three_le), rto_ok, runO_rt]
      rfl
end
end G83
end Mi

namespace Mi
namespace G83
open PySem PySem.Spec PyProof.Rows L2

def dueD (T : List Tok') (L : Nat) : PR → D
  | .ok d p => if T = [] then .tup [.bl true, d] else .tup [.bl true, d, .int p]
  | .err p => .tup [.bl false, .int (off T L p)]
section
variable {all : List Nat}
theorem due_ok (hA : Asc all) (hz : all.length ≤ 1000000) (s : S) : ∃ s', F__law_due [.str (strOf all)] s = .ok (dueD (lt [] 0 all) all.length (rS (lt [] 0 all))) s' ∧ Pre s s' := by
  have hT := tok_ok hA hz
  have hN : wd (lt [] 0 all) 0 = [] ↔ (lt [] 0 all) = [] := by
    rw [wd_nil hA]
    constructor
    · exact fun h => List.eq_nil_of_length_eq_zero (by omega)
    · intro h
      rw [h]
      exact Nat.le_refl _
  have e0 : F__law_due [.str (strOf all)] s = runO (B__law_due [some (.str (strOf all)), none, none] s) := by
    unfold F__law_due
    rw [runF_eq (n := 1) rfl]
    rfl
  have eT := law_tokens_ok hA hz s
  have hq : LR s.length (lt [] 0 all) all.length (s ++ [C.lst ((lt [] 0 all ++ [([], all.length)]).map tokD)]) := app_last
  have hpre : Pre s (s ++ [C.lst ((lt [] 0 all ++ [([], all.length)]).map tokD)]) := Pre.app
  generalize (s ++ [C.lst ((lt [] 0 all ++ [([], all.length)]).map tokD)]) = s1 at eT hq hpre
  generalize lt [] 0 all = T at hT hN hq
  generalize all.length = L at hq
  rw [e0]
  unfold B__law_due
  have hlen : cLen [.ref s.length] s1 = .ok (.int ((T.length + 1 : Nat) : Int)) s1 := by
    rw [cLen_lst hq, List.length_map, List.length_append, List.length_singleton]
  rw [e_seq, e_set, e_call, e_cons, mVar_ok (d := .str (strOf all)) rfl, rbind_ok, e_nil, rbind_ok, rbind_ok, eT, rto_ok, obind_nx]
  rw [show ([some (.str (strOf all)), none, none] : Ev).set 1 (some (.ref s.length)) = [some (.str (strOf all)), some (.ref s.length), none] from rfl]
  rw [e_seq, e_sif, e_op, e_call, e_cons, mVar_ok (d := .ref s.length) rfl, rbind_ok, e_nil, rbind_ok, rbind_ok, hlen, rbind_ok, e_c, rbind_ok, oEq_int, rto_ok]
  by_cases c : T = []
  · subst c
    refine ⟨s1, ?_, hpre⟩
    rw [show decide (((([] : List Tok').length + 1 : Nat) : Int) = 1) = true from rfl, ifK_t]
    have e3 : rS [] = .ok (.tup []) 0 := rfl
    rw [e3]
    simp only [e_ret, e_tup, e_cons, e_c, e_nil, rbind_ok, List.length_nil, Nat.zero_le, if_true]
    rw [if_pos (show ([D.bl true, .tup []] : List D).length ≤ sizeLine from two_le), rto_ok, obind_rt, runO_rt]
    rfl
  · have hl : 0 < T.length := List.length_pos_iff.mpr c
    have hw : ¬ wd T 0 = [] := fun z => c (hN.mp z)
    rw [decide_eq_false (show ¬ ((T.length + 1 : Nat) : Int) = 1 by omega), ifK_f, e_bnil, obind_nx]
    obtain ⟨s2, e2, q2⟩ := litems_ok hT 12 0 (by omega) (by omega) 0 s1 (Nat.zero_le _) hq
    have e2 : F__law_read_items 12 [.ref s.length, .int 0, .int 0] s1 = _ := e2
    have h2 := hq.pre q2
    refine ⟨s2, ?_, hpre.trans q2⟩
    rw [e_seq, e_set, e_call, e_cons, mVar_ok (d := .ref s.length) rfl, rbind_ok, e_cons, e_c, rbind_ok, e_cons, e_c, rbind_ok, e_nil, rbind_ok, rbind_ok, rbind_ok, rbind_ok, e2, rto_ok, obind_nx]
    unfold rS
    rw [if_neg hw]
    have two : ∀ (x : D) (p : Nat), p ≤ T.length → runO ((bSeq (sIf (mNot (mOp oIx (mVar 2) (mC (.int 0))))
        (sRet (mTup (mCons (mC (.bl false)) (mCons (mOp oIx (mOp oIx (mVar 1) (mOp oIx (mVar 2) (mC (.int 1)))) (mC (.int 1))) mNil))))
        bNil) (sRet (mVar 2))) [some x, some (.ref s.length), some (.tup [.bl false, .int (p : Int)])] s2) = .ok (.tup [.bl false, .int (off T L p)]) s2 := fun x p hp => by
      simp only [e_seq, e_sif, e_not, e_op, e_var, List.getElem?_cons_zero, List.getElem?_cons_succ, rbind_ok, e_c, ix2_0, ix2_1, Bool.not_false, rto_ok, ifK_t, e_ret, e_tup, e_cons, e_nil, ixT h2 hp, tok1]
      rw [if_pos (show ([D.bl false, .int (off T L p : Int)] : List D).length ≤ sizeLine from two_le), rto_ok, obind_rt, runO_rt]
    cases eI : pItems T 12 0 0 with
    | err p =>
      have hp := err_items 12 0 0 p (Nat.zero_le _) eI
      have := two (.str (strOf all)) p hp
      rw [show ([some (.str (strOf all)), some (.ref s.length), none] : Ev).set 2 (some (resD (.err p))) = [some (.str (strOf all)), some (.ref s.length), some (.tup [.bl false, .int (p : Int)])] from rfl]
      rw [e_seq, e_sif, e_and, e_op, mVar_ok (d := .tup [.bl false, .int (p : Int)]) rfl, rbind_ok, e_c, rbind_ok, ix2_0, rbind_ok]
      show runO (((R.ok (D.bl false) s2).to (ifK (sSet 2 (mTup (mCons (mC (.bl false)) (mCons (mOp oIx (mVar 2) (mC (.int 2))) mNil)))) bNil _) |>.bind _ : O)) = _
      rw [rto_ok, ifK_f, e_bnil, obind_nx, this]
      rfl
    | ok d p =>
      have hp := (fwd_items 12 0 _ _ _ eI).2
      rw [show ([some (.str (strOf all)), some (.ref s.length), none] : Ev).set 2 (some (resD (.ok d p))) = [some (.str (strOf all)), some (.ref s.length), some (.tup [.bl true, d, .int (p : Int)])] from rfl]
      have ec : (mAnd (mOp oIx (mVar 2) (mC (.int 0))) (mOp oNe (mOp oIx (mOp oIx (mVar 1) (mOp oIx (mVar 2) (mC (.int 2)))) (mC (.int 0))) (mC (.str (strOf []))))) [some (.str (strOf all)), some (.ref s.length), some (.tup [.bl true, d, .int (p : Int)])] s2 = .ok (.bl (!decide (wd T p = []))) s2 := by
        have e5 := oNe_s (hT.asc p) asc0 s2
        simp only [e_and, e_op, e_var, List.getElem?_cons_zero, List.getElem?_cons_succ, rbind_ok, e_c, ix3_0, ix3_2, ixT h2 hp, tok0, e5]
      rw [e_seq, e_sif]
      show runO (((mAnd (mOp oIx (mVar 2) (mC (.int 0))) (mOp oNe (mOp oIx (mOp oIx (mVar 1) (mOp oIx (mVar 2) (mC (.int 2)))) (mC (.int 0))) (mC (.str (strOf []))))) _ _).to _ |>.bind _) = R.ok (dueD T L (if wd T p = [] then .ok d p else .err p)) s2
      rw [ec, rto_ok]
      by_cases c4 : wd T p = []
      · rw [if_pos c4, decide_eq_true c4, Bool.not_true, ifK_f, e_bnil, obind_nx]
        simp only [e_seq, e_sif, e_not, e_op, e_var, List.getElem?_cons_zero, List.getElem?_cons_succ, rbind_ok, e_c, ix3_0, Bool.not_true, rto_ok, ifK_f, e_bnil, obind_nx, e_ret, runO_rt]
        exact congrArg (fun x => R.ok x s2) (if_neg c).symm
      · have := two (.str (strOf all)) p hp
        rw [if_neg c4, decide_eq_false c4, Bool.not_false, ifK_t, e_set, e_tup, e_cons, e_c, rbind_ok, e_cons, e_op, mVar_ok (d := .tup [.bl true, d, .int (p : Int)]) rfl, rbind_ok, e_c, rbind_ok, ix3_2, rbind_ok, e_nil, rbind_ok, rbind_ok, rbind_ok, if_pos (show ([D.bl false, .int (p : Int)] : List D).length ≤ sizeLine from two_le), rto_ok, obind_nx]
        rw [show ([some (.str (strOf all)), some (.ref s.length), some (.tup [.bl true, d, .int (p : Int)])] : Ev).set 2 (some (.tup [.bl false, .int (p : Int)])) = [some (.str (strOf all)), some (.ref s.length), some (.tup [.bl false, .int (p : Int)])] from rfl, this]
        rfl
theorem reads_ok (hA : Asc all) (hz : all.length ≤ 1000000) (s : S) : ∃ s', F__law_reads [.str (strOf all)] s = .ok (.bl true) s' ∧ Pre s s' := by
  have hT := tok_ok hA hz
  have e0 : F__law_reads [.str (strOf all)] s = runO (B__law_reads [some (.str (strOf all)), none, none, none] s) := by
    unfold F__law_reads
    rw [runF_eq (n := 1) rfl]
    rfl
  obtain ⟨s1, e1, q1⟩ := due_ok hA hz s
  have e2 := read_script_ok hA hz s1
  have hf : ∀ d p, rS (lt [] 0 all) = .ok d p → Flat 24 d := fun d p e => by
    unfold rS at e
    split at e
    · cases e
      exact .tup fun x hx => by cases hx
    · cases eI : pItems (lt [] 0 all) 12 0 0 with
      | err _ =>
        rw [eI] at e
        cases e
      | ok v q' =>
        rw [eI] at e
        have e : (if wd (lt [] 0 all) q' = [] then PR.ok v q' else .err q') = .ok d p := e
        split at e
        · cases e
          exact flat_items hT 12 0 _ _ _ eI
        · cases e
  rw [e0]
  unfold B__law_reads
  rw [e_seq, e_set, e_call, e_cons, mVar_ok (d := .str (strOf all)) rfl, rbind_ok, e_nil, rbind_ok, rbind_ok, e1, rto_ok, obind_nx]
  generalize lt [] 0 all = T at e2 hf
  cases er : rS T with
  | ok d p =>
    rw [er] at e2
    obtain ⟨s2, e3, q2⟩ := e2
    refine ⟨s2, ?_, q1.trans q2⟩
    have hd := (hf d p er).eq (by omega) s2
    have hS : sTry 3 (mCall F_read_script (mCons (mVar 0) mNil)) (fun d ε s => .nx (ε.set 2 (some d)) s) (suOf "ScriptError" 3 suB__law_reads) [some (.str (strOf all)), some (dueD T all.length (.ok d p)), none, none] s1 = .nx [some (.str (strOf all)), some (dueD T all.length (.ok d p)), some d, none] s2 := by
      unfold sTry
      rw [e_call, e_cons, mVar_ok (d := .str (strOf all)) rfl, rbind_ok, e_nil, rbind_ok, rbind_ok, e3]
      rfl
    rw [e_seq]
    show runO (((sTry 3 _ _ _ [some (.str (strOf all)), some (dueD T all.length (.ok d p)), none, none] s1).bind _ : O)) = _
    rw [hS, obind_nx]
    have ed : dueD T all.length (.ok d p) = if T = [] then .tup [.bl true, d] else .tup [.bl true, d, .int p] := rfl
    rw [ed]
    by_cases c : T = []
    · rw [if_pos c]
      simp only [e_ret, e_and, e_op, e_var, List.getElem?_cons_zero, List.getElem?_cons_succ, rbind_ok, e_c, ix2_0, ix2_1, hd, rto_ok, runO_rt]
    · rw [if_neg c]
      simp only [e_ret, e_and, e_op, e_var, List.getElem?_cons_zero, List.getElem?_cons_succ, rbind_ok, e_c, ix3_0, ix3_1, hd, rto_ok, runO_rt]
  | err p =>
    rw [er] at e2
    obtain ⟨s2, e3, q2⟩ := e2
    refine ⟨s2, ?_, q1.trans q2⟩
    have hS : sTry 3 (mCall F_read_script (mCons (mVar 0) mNil)) (fun d ε s => .nx (ε.set 2 (some d)) s) (suOf "ScriptError" 3 suB__law_reads) [some (.str (strOf all)), some (dueD T all.length (.err p)), none, none] s1 = .rt (.bl true) s2 := by
      unfold sTry
      rw [e_call, e_cons, mVar_ok (d := .str (strOf all)) rfl, rbind_ok, e_nil, rbind_ok, rbind_ok, e3]
      show wipeO 3 (suOf "ScriptError" 3 suB__law_reads "ScriptError" "at" (.int (off T all.length p)) _ s2) = _
      unfold suOf
      rw [if_pos ⟨rfl, rfl, show 3 < 4 by decide⟩]
      unfold suB__law_reads dueD
      simp only [e_ret, e_and, e_not, e_op, e_var, List.getElem?_cons_zero, List.getElem?_cons_succ, rbind_ok, e_c, ix2_0, ix2_1, Bool.not_false, oEq_int, decide_true, rto_ok]
      rfl
    rw [e_seq]
    show runO (((sTry 3 _ _ _ [some (.str (strOf all)), some (dueD T all.length (.err p)), none, none] s1).bind _ : O)) = _
    rw [hS, obind_rt, runO_rt]
end
end G83
end Mi

namespace Mi
namespace G83
open PySem PySem.Spec PyProof.Rows L2

/-! ### scripts as data -/
/-- until with its times, on with its name -/
inductive Kd where
  | til (n : Nat) | on (x : List Nat)
inductive Its where
  | nil | pass (w : List Nat) (n : Option Nat) (r : Its) | grp (k : Kd) (i r : Its)
def kw : Kd → List Nat
  | .til _ => wU
  | .on _ => wO
def kt : Kd → List Nat
  | .til n => TL.numL n
  | .on x => x
def kd : Kd → D
  | .til n => .int (n : Int)
  | .on x => .str (strOf x)
def am : Option Nat → Int
  | none => -1
  | some n => (n : Int)
def ds : Its → List D
  | .nil => []
  | .pass w n r => .tup [.str "pass", .str (strOf w), .int (am n)] :: ds r
  | .grp k i r => .tup [.str (strOf (kw k)), kd k, .tup (ds i)] :: ds r
def shP (w : List Nat) : Option Nat → List Nat
  | none => w
  | some n => w ++ [32] ++ TL.numL n
def gt (k : Kd) (t : List Nat) : List Nat := kw k ++ [32] ++ kt k ++ [32, 123] ++ t ++ [125]
abbrev sj (ts : List (List Nat)) : List Nat := TL.joinL [59, 32] ts
def its : Its → List (List Nat)
  | .nil => []
  | .pass w n r => shP w n :: its r
  | .grp k i r => gt k (sj (its i)) :: its r
def sh (i : Its) : List Nat := sj (its i)
def kok : Kd → Prop
  | .til n => 1 ≤ n ∧ n ≤ 100
  | .on x => nameOk x = true ∧ Asc x ∧ (∀ c ∈ x, isW c = true)
def ok : Its → Prop
  | .nil => True
  | .pass w n r => (inP w = true ∧ Asc w ∧ (∀ c ∈ w, isW c = true)) ∧ (∀ k, n = some k → k ≤ 10000) ∧ ok r
  | .grp k i r => kok k ∧ i ≠ .nil ∧ ok i ∧ ok r
def dep : Its → Nat
  | .nil => 0
  | .pass _ _ r => dep r
  | .grp _ i r => max (1 + dep i) (dep r)
def cnt : Its → Nat
  | .nil => 0
  | .pass _ _ r => cnt r
  | .grp _ i r => 1 + cnt i + cnt r
def sz : Its → Nat
  | .nil => 0
  | .pass w n r => (shP w n).length + 2 + sz r
  | .grp k i r => (kw k).length + (kt k).length + 6 + sz i + sz r
theorem sj_len : ∀ (ts : List (List Nat)), (sj ts).length ≤ (ts.map fun t => t.length + 2).sum
  | [] => Nat.le_refl _
  | [t] => by simp [TL.joinL]
  | t :: u :: r => by
    have := sj_len (u :: r)
    show (t ++ ([59, 32] ++ sj (u :: r))).length ≤ (t.length + 2) + ((u :: r).map fun t => t.length + 2).sum
    simp only [List.length_append, List.length_cons, List.length_nil] at *
    omega
theorem sz_its : ∀ i : Its, ((its i).map fun t => t.length + 2).sum ≤ sz i
  | .nil => Nat.le_refl _
  | .pass w n r => by
    have := sz_its r
    simp only [its, sz, List.map_cons, List.sum_cons]
    omega
  | .grp k i r => by
    have h1 := sz_its r
    have h2 := sz_its i
    have h3 := sj_len (its i)
    simp only [its, sz, List.map_cons, List.sum_cons, gt, List.length_append, List.length_cons, List.length_nil]
    omega
theorem sh_len (i : Its) : (sh i).length ≤ sz i := Nat.le_trans (sj_len _) (sz_its i)
theorem inP_ne {w : List Nat} (h : inP w = true) : w ≠ [] := fun z => by
  rw [z] at h
  exact absurd h (by decide +kernel)
theorem its_ne : ∀ {i : Its}, ok i → ∀ t ∈ its i, t ≠ []
  | .nil, _, t, h => by cases h
  | .pass w n r, ho, t, h => by
    rcases List.mem_cons.mp h with rfl | h
    · have := inP_ne ho.1.1
      cases n with
      | none => exact this
      | some n => simp [shP]
    · exact its_ne ho.2.2 t h
  | .grp k i r, ho, t, h => by
    rcases List.mem_cons.mp h with rfl | h
    · simp [gt]
    · exact its_ne ho.2.2.2 t h
theorem numL_asc (n : Nat) : Asc (TL.numL n) := fun c h => by
  have := TL.numL_digits n c h
  omega
theorem numL_W (n : Nat) : ∀ c ∈ TL.numL n, isW c = true := fun c h => by
  have := TL.numL_digits n c h
  unfold isW
  simp
  omega
theorem kw_asc (k : Kd) : Asc (kw k) := by
  cases k
  · exact aU
  · exact aO
theorem kt_asc {k : Kd} (h : kok k) : Asc (kt k) := by
  cases k with
  | til n => exact numL_asc n
  | on x => exact h.2.1
theorem sj_asc : ∀ {ts : List (List Nat)}, (∀ t ∈ ts, Asc t) → Asc (sj ts)
  | [], _ => asc0
  | [t], h => h t List.mem_cons_self
  | t :: u :: r, h => asc_app (h t List.mem_cons_self) (asc_app (ascS _ (by decide)) (sj_asc fun v hv => h v (List.mem_cons_of_mem _ hv)))
theorem shP_asc {w : List Nat} (h : Asc w) (n : Option Nat) : Asc (shP w n) := by
  cases n with
  | none => exact h
  | some n => exact asc_app (asc_app h (asc1 (by decide))) (numL_asc n)
theorem its_asc : ∀ {i : Its}, ok i → ∀ t ∈ its i, Asc t
  | .nil, _, t, h => by cases h
  | .pass w n r, ho, t, h => by
    rcases List.mem_cons.mp h with rfl | h
    · exact shP_asc ho.1.2.1 n
    · exact its_asc ho.2.2 t h
  | .grp k i r, ho, t, h => by
    rcases List.mem_cons.mp h with rfl | h
    · exact asc_app (asc_app (asc_app (asc_app (asc_app (kw_asc k) (asc1 (by decide))) (kt_asc ho.1)) (ascS _ (by decide))) (sj_asc (its_asc ho.2.2.1))) (asc1 (by decide))
    · exact its_asc ho.2.2.2 t h
theorem sh_asc {i : Its} (h : ok i) : Asc (sh i) := sj_asc (its_asc h)

/-! ### the law's writer -/
def glue (acc t : List Nat) : List Nat := if acc = [] then t else acc ++ [59, 32] ++ t
theorem glue_ne {acc t : List Nat} (h : t ≠ []) : glue acc t ≠ [] := by
  unfold glue
  split
  · exact h
  · simp
theorem fold_glue : ∀ (ts : List (List Nat)) (acc : List Nat), (∀ t ∈ ts, t ≠ []) → acc ≠ [] → ts.foldl glue acc = (match ts with
    | [] => acc
    | _ => acc ++ [59, 32] ++ sj ts)
  | [], acc, _, _ => rfl
  | t :: ts, acc, h, ha => by
    rw [List.foldl_cons, fold_glue ts (glue acc t) (fun u hu => h u (List.mem_cons_of_mem _ hu)) (glue_ne (h t List.mem_cons_self))]
    unfold glue
    rw [if_neg ha]
    cases ts with
    | nil => rfl
    | cons u r =>
      show acc ++ [59, 32] ++ t ++ [59, 32] ++ sj (u :: r) = acc ++ [59, 32] ++ (t ++ ([59, 32] ++ sj (u :: r)))
      simp only [List.append_assoc]
theorem fold_sj {ts : List (List Nat)} (h : ∀ t ∈ ts, t ≠ []) : ts.foldl glue [] = sj ts := by
  cases ts with
  | nil => rfl
  | cons t ts =>
    rw [List.foldl_cons]
    show ts.foldl glue t = _
    rw [fold_glue ts t (fun u hu => h u (List.mem_cons_of_mem _ hu)) (h t List.mem_cons_self)]
    cases ts with
    | nil => rfl
    | cons u r =>
      show t ++ [59, 32] ++ sj (u :: r) = t ++ ([59, 32] ++ sj (u :: r))
      simp only [List.append_assoc]
theorem log_small {n : Nat} (h : n ≤ 10000) : ((n : Int)).natAbs.log2 < 1920 := by
  show n.log2 < 1920
  by_cases h0 : n = 0
  · subst h0
    decide
  · have := Nat.log2_lt h0 (k := 14) |>.mpr (by omega)
    omega
theorem str_n {n : Nat} (h : n ≤ 10000) (s : S) : cStr2 [.int (n : Int)] s = .ok (.str (strOf (TL.numL n))) s := by
  show (if ((n : Int)).natAbs.log2 < 1920 then R.ok (D.str (Str.ofString (toString (n : Int)))) s else .bad) = _
  rw [if_pos (log_small h), SX.num_S]
  rfl
theorem str_kd {k : Kd} (h : kok k) (s : S) : cStr2 [kd k] s = .ok (.str (strOf (kt k))) s := by
  cases k with
  | til n => exact str_n (by have := h.2; omega) s
  | on x => rfl
section
variable {s : S}
theorem show_sep {acc t : List Nat} (ha : Asc acc) {o2 x0 : Option D} {R2 : B} (hl : acc.length ≤ 1000000) : (bSeq (sIf (mOp oNe (mVar 1) (mC (.str (strOf [])))) (sSet 1 (mOp oAdd (mVar 1) (mC (.str (strOf [59, 32]))))) bNil) R2) [x0, some (.str (strOf acc)), o2] s = R2 [x0, some (.str (strOf (if acc = [] then [] else acc ++ [59, 32]))), o2] s := by
  have e1 := oNe_s ha asc0 s
  by_cases c : acc = []
  · subst c
    rw [decide_eq_true rfl] at e1
    simp only [e_seq, e_sif, e_op, e_var, List.getElem?_cons_zero, List.getElem?_cons_succ, rbind_ok, e_c, e1, Bool.not_true, rto_ok, ifK_f, e_bnil, obind_nx, if_true]
  · rw [decide_eq_false c] at e1
    have e2 := add_s (w := acc) (v := [59, 32]) (by simp; omega) s
    simp only [e_seq, e_sif, e_op, e_var, List.getElem?_cons_zero, List.getElem?_cons_succ, rbind_ok, e_c, e1, Bool.not_false, rto_ok, ifK_t, e_set, e2, obind_nx, List.set_cons_succ, List.set_cons_zero, if_neg c]
noncomputable def showP : B := (bSeq (sSet 1 (mOp oAdd (mVar 1) (mOp oIx (mVar 2) (mC (.int 1)))))
  (sIf (mOp oNe (mOp oIx (mVar 2) (mC (.int 2))) (mNeg (mC (.int 1))))
  (sSet 1 (mOp oAdd (mOp oAdd (mVar 1) (mC (.str (strOf [32])))) (mCall cStr2 (mCons (mOp oIx (mVar 2) (mC (.int 2))) mNil))))
  bNil))
noncomputable def showG (F : List D → S → R D) : B := (sSet 1 (mOp oAdd (mOp oAdd (mOp oAdd (mOp oAdd (mOp oAdd (mOp oAdd (mVar 1) (mOp oIx (mVar 2) (mC (.int 0)))) (mC (.str (strOf [32])))) (mCall cStr2 (mCons (mOp oIx (mVar 2) (mC (.int 1))) mNil))) (mC (.str (strOf [32, 123])))) (mCall F (mCons (mOp oIx (mVar 2) (mC (.int 2))) mNil))) (mC (.str (strOf [125])))))
theorem showP_ok {a w : List Nat} {n : Option Nat} (hn : ∀ k, n = some k → k ≤ 10000) (hl : a.length + w.length ≤ 1000000) {x0 : Option D} : showP [x0, some (.str (strOf a)), some (.tup [.str "pass", .str (strOf w), .int (am n)])] s = .nx [x0, some (.str (strOf (a ++ shP w n))), some (.tup [.str "pass", .str (strOf w), .int (am n)])] s := by
  unfold showP
  have e1 := add_s (w := a) (v := w) (by omega) s
  cases n with
  | none =>
    simp only [e_seq, e_set, e_op, e_var, List.getElem?_cons_zero, List.getElem?_cons_succ, rbind_ok, e_c, ix3_1, e1, rto_ok, obind_nx, List.set_cons_succ, List.set_cons_zero, e_sif, ix3_2, am, e_neg, oNe_int, decide_true, Bool.not_true, ifK_f, e_bnil, shP]
  | some k =>
    have hk := hn k rfl
    have hk5 : (TL.numL k).length ≤ 5 := TL.numL_len (by decide) (by omega)
    have e2 := add_s (w := a ++ w) (v := [32]) (by simp; omega) s
    have e3 := add_s (w := a ++ w ++ [32]) (v := TL.numL k) (by simp; omega) s
    have n1 : ¬ (k : Int) = -1 := by omega
    rw [show a ++ shP w (some k) = a ++ w ++ [32] ++ TL.numL k from by simp [shP]]
    simp only [e_seq, e_set, e_op, e_var, List.getElem?_cons_zero, List.getElem?_cons_succ, rbind_ok, e_c, ix3_1, e1, rto_ok, obind_nx, List.set_cons_succ, List.set_cons_zero, e_sif, ix3_2, am, e_neg, oNe_int, n1, decide_false, Bool.not_false, ifK_t, e2, e_call, e_cons, e_nil, str_n hk, e3]
theorem showG_ok {F : List D → S → R D} {a t : List Nat} {k : Kd} {v : D} (hk : kok k) (hF : F [v] s = .ok (.str (strOf t)) s) (hl : a.length + (kw k).length + (kt k).length + t.length ≤ 1000000) {x0 : Option D} : showG F [x0, some (.str (strOf a)), some (.tup [.str (strOf (kw k)), kd k, v])] s = .nx [x0, some (.str (strOf (a ++ gt k t))), some (.tup [.str (strOf (kw k)), kd k, v])] s := by
  unfold showG
  have e1 := add_s (w := a) (v := kw k) (by omega) s
  have e2 := add_s (w := a ++ kw k) (v := [32]) (by simp; omega) s
  have e3 := add_s (w := a ++ kw k ++ [32]) (v := kt k) (by simp; omega) s
  have e4 := add_s (w := a ++ kw k ++ [32] ++ kt k) (v := [32, 123]) (by simp; omega) s
  have e5 := add_s (w := a ++ kw k ++ [32] ++ kt k ++ [32, 123]) (v := t) (by simp; omega) s
  have e6 := add_s (w := a ++ kw k ++ [32] ++ kt k ++ [32, 123] ++ t) (v := [125]) (by simp; omega) s
  rw [show a ++ gt k t = a ++ kw k ++ [32] ++ kt k ++ [32, 123] ++ t ++ [125] from by simp [gt]]
  simp only [e_set, e_op, e_var, List.getElem?_cons_zero, List.getElem?_cons_succ, rbind_ok, e_c, ix3_0, ix3_1, ix3_2, e1, e2, e_call, e_cons, e_nil, str_kd hk, e3, e4, hF, e5, e6, rto_ok, List.set_cons_succ, List.set_cons_zero]
theorem glue_eq (a t : List Nat) : (if a = [] then [] else a ++ [59, 32]) ++ t = glue a t := by
  unfold glue
  split
  · rfl
  · rfl
theorem glue_len (a t : List Nat) : (glue a t).length ≤ a.length + 2 + t.length := by
  unfold glue
  split
  · omega
  · simp
    omega
theorem pass_ne : decide (([112, 97, 115, 115] : List Nat) = [112, 97, 115, 115]) = true := rfl
theorem kw_pass (k : Kd) : ¬ kw k = [112, 97, 115, 115] := by
  cases k with
  | til n => exact show ¬ wU = [112, 97, 115, 115] by decide
  | on x => exact show ¬ wO = [112, 97, 115, 115] by decide
theorem lshow_turn {F : List D → S → R D} {acc t : List Nat} {x : D} {x0 o2 : Option D} (ha : Asc acc) (hl : acc.length ≤ 500000)
    (h : (∃ w n, x = .tup [.str "pass", .str (strOf w), .int (am n)] ∧ t = shP w n ∧ w.length ≤ 100000 ∧ ∀ k, n = some k → k ≤ 10000) ∨ (∃ k v u, x = .tup [.str (strOf (kw k)), kd k, v] ∧ t = gt k u ∧ kok k ∧ F [v] s = .ok (.str (strOf u)) s ∧ (kw k).length + (kt k).length + u.length ≤ 300000)) :
    W__law_show1 F [x0, some (.str (strOf acc)), some x] s = .nx [x0, some (.str (strOf (glue acc t))), some x] s := by
  have eW : W__law_show1 F = bSeq (sIf (mOp oNe (mVar 1) (mC (.str (strOf [])))) (sSet 1 (mOp oAdd (mVar 1) (mC (.str (strOf [59, 32]))))) bNil) (sIf (mOp oEq (mOp oIx (mVar 2) (mC (.int 0))) (mC (.str (strOf [112, 97, 115, 115])))) showP (showG F)) := rfl
  rw [eW, show_sep (t := t) ha (by omega), ← glue_eq]
  have hl2 : (if acc = [] then [] else acc ++ [59, 32]).length ≤ 500002 := by
    split
    · exact Nat.zero_le _
    · simp
      omega
  generalize (if acc = [] then [] else acc ++ [59, 32]) = a at hl2
  rcases h with ⟨w, n, rfl, rfl, h1, h2⟩ | ⟨k, v, u, rfl, rfl, h1, h2, h3⟩
  · rw [← showP_ok (a := a) (x0 := x0) (s := s) h2 (by omega)]
    have e1 : oEq (.str "pass") (.str (strOf [112, 97, 115, 115])) s = .ok (.bl true) s := by
      have := oEq_s (a := [112, 97, 115, 115]) (ascS _ (by decide)) (ascS _ (by decide)) s (b := [112, 97, 115, 115])
      rw [decide_eq_true rfl] at this
      exact this
    simp only [e_sif, e_op, e_var, List.getElem?_cons_zero, List.getElem?_cons_succ, rbind_ok, e_c, ix3_0, e1, rto_ok, ifK_t]
  · rw [← showG_ok (a := a) (x0 := x0) (s := s) h1 h2 (by omega)]
    have e1 := oEq_s (kw_asc k) (ascS [112, 97, 115, 115] (by decide)) s
    rw [decide_eq_false (kw_pass k)] at e1
    simp only [e_sif, e_op, e_var, List.getElem?_cons_zero, List.getElem?_cons_succ, rbind_ok, e_c, ix3_0, e1, rto_ok, ifK_f]
theorem lshow_loop (F : List D → S → R D) (x0 : Option D) (J : Nat) (hF : ∀ i : Its, ok i → dep i < J → sz i ≤ 100000 → F [.tup (ds i)] s = .ok (.str (strOf (sh i))) s) : ∀ (i : Its) (acc : List Nat) (o2 : Option D), ok i → dep i < J + 1 → Asc acc → acc.length + sz i ≤ 200000 → sz i ≤ 100000 →
    ∃ o2', loop none (gN 2) (W__law_show1 F) (ds i) [x0, some (.str (strOf acc)), o2] s = .nx [x0, some (.str (strOf ((its i).foldl glue acc))), o2'] s
  | .nil, acc, o2, _, _, _, _, _ => ⟨o2, loop_nil (g := none) trivial⟩
  | .pass w n r, acc, o2, ho, hd, ha, hl, hz => by
    simp only [sz] at hl hz
    have hw : w.length ≤ (shP w n).length := by
      cases n with
      | none => exact Nat.le_refl _
      | some n => simp [shP]
    have e1 := lshow_turn (s := s) (F := F) (x0 := x0) (o2 := o2) (acc := acc) ha (by omega) (.inl ⟨w, n, rfl, rfl, by omega, ho.2.1⟩)
    have hg := glue_len acc (shP w n)
    have hga : Asc (glue acc (shP w n)) := by
      rw [← glue_eq]
      refine asc_app ?_ (shP_asc ho.1.2.1 n)
      split
      · exact asc0
      · exact asc_app ha (ascS _ (by decide))
    obtain ⟨o, e⟩ := lshow_loop F x0 J hF r (glue acc (shP w n)) (some (.tup [.str "pass", .str (strOf w), .int (am n)])) ho.2.2 hd hga (by omega) (by omega)
    refine ⟨o, ?_⟩
    show loop none (gN 2) (W__law_show1 F) (.tup [.str "pass", .str (strOf w), .int (am n)] :: ds r) _ _ = _
    rw [loop_cons (g := none) trivial (gN_eq _ _ _)]
    show (match W__law_show1 F [x0, some (.str (strOf acc)), some (.tup [.str "pass", .str (strOf w), .int (am n)])] s with
        | .nx ε2 s2 => loop none (gN 2) (W__law_show1 F) (ds r) ε2 s2
        | .ct ε2 s2 => loop none (gN 2) (W__law_show1 F) (ds r) ε2 s2
        | .bk ε2 s2 => .nx ε2 s2
        | .rt d s2 => .rt d s2
        | .ex c f d s2 => .ex c f d s2
        | .bad => .bad) = _
    rw [e1]
    exact e
  | .grp k i r, acc, o2, ho, hd, ha, hl, hz => by
    simp only [sz] at hl hz
    simp only [dep] at hd
    have hi := sh_len i
    have e1 := lshow_turn (s := s) (F := F) (x0 := x0) (o2 := o2) (acc := acc) ha (by omega) (.inr ⟨k, _, _, rfl, rfl, ho.1, hF i ho.2.2.1 (by omega) (by omega), by omega⟩)
    have hg := glue_len acc (gt k (sh i))
    have hgl : (gt k (sh i)).length = (kw k).length + (kt k).length + (sh i).length + 4 := by
      simp [gt]
      omega
    have hga : Asc (glue acc (gt k (sh i))) := by
      rw [← glue_eq]
      refine asc_app ?_ (its_asc (i := .grp k i r) ho _ List.mem_cons_self)
      split
      · exact asc0
      · exact asc_app ha (ascS _ (by decide))
    obtain ⟨o, e⟩ := lshow_loop F x0 J hF r (glue acc (gt k (sh i))) (some (.tup [.str (strOf (kw k)), kd k, .tup (ds i)])) ho.2.2.2 (by omega) hga (by omega) (by omega)
    refine ⟨o, ?_⟩
    show loop none (gN 2) (W__law_show1 F) (.tup [.str (strOf (kw k)), kd k, .tup (ds i)] :: ds r) _ _ = _
    rw [loop_cons (g := none) trivial (gN_eq _ _ _)]
    show (match W__law_show1 F [x0, some (.str (strOf acc)), some (.tup [.str (strOf (kw k)), kd k, .tup (ds i)])] s with
        | .nx ε2 s2 => loop none (gN 2) (W__law_show1 F) (ds r) ε2 s2
        | .ct ε2 s2 => loop none (gN 2) (W__law_show1 F) (ds r) ε2 s2
        | .bk ε2 s2 => .nx ε2 s2
        | .rt d s2 => .rt d s2
        | .ex c f d s2 => .ex c f d s2
        | .bad => .bad) = _
    rw [e1]
    exact e
theorem lshow_ok : ∀ (j : Nat) (i : Its) (s : S), ok i → dep i < j → sz i ≤ 100000 → F__law_show j [.tup (ds i)] s = .ok (.str (strOf (sh i))) s
  | 0, i, s, _, h, _ => by omega
  | j + 1, i, s, ho, hd, hz => by
    have e0 : F__law_show (j + 1) [.tup (ds i)] s = runO (B__law_show (F__law_show j) [some (.tup (ds i)), none, none] s) := by
      show runF 1 3 _ _ _ = _
      rw [runF_eq (n := 1) rfl]
      rfl
    obtain ⟨o, e⟩ := lshow_loop (s := s) (F__law_show j) (some (.tup (ds i))) j (fun i ho hd hz => lshow_ok j i s ho hd hz) i [] none ho (by omega) asc0 (by simp; omega) hz
    have e : loop none (gN 2) (W__law_show1 (F__law_show j)) (ds i) [some (.tup (ds i)), some (.str ("" : Str)), none] s = _ := e
    rw [e0]
    unfold B__law_show
    simp only [e_seq, e_set, e_c, rto_ok, obind_nx, List.set_cons_succ, List.set_cons_zero, e_for, e_iseq, e_var, List.getElem?_cons_zero, List.getElem?_cons_succ, rbind_ok, e_it_tup, e, e_ret, runO_rt, fold_sj (its_ne ho)]
    rfl
end
end G83
end Mi

namespace Mi
namespace G83
open PySem PySem.Spec PyProof.Rows L2

/-! ### the program's writer -/
theorem fmt_s {w : List Nat} (h : w.length ≤ 1000000) (s : S) : fmtK (.str (strOf w)) s = .ok (.str (strOf w)) s := by
  show (if (strOf w).length ≤ sizeLine then R.ok (D.str (strOf w)) s else .bad) = _
  rw [if_pos (by rw [str_len, sizeL]; omega)]
theorem fmt_n {n : Nat} (h : n ≤ 10000) (s : S) : fmtK (.int (n : Int)) s = .ok (.str (strOf (TL.numL n))) s := str_n h s
theorem fmt_kd {k : Kd} (h : kok k) (hl : (kt k).length ≤ 1000000) (s : S) : fmtK (kd k) s = .ok (.str (strOf (kt k))) s := by
  cases k with
  | til n => exact fmt_n (by have := h.2; omega) s
  | on x => exact fmt_s hl s
@[simp] theorem e_fmt {m : M} {ε : Ev} {s : S} : mFmt m ε s = (m ε s).bind fmtK := rfl
theorem join_nil {acc : Str} {ε : Ev} {s : S} : joinM [] acc ε s = .ok (.str acc) s := rfl
theorem join_cons {m : M} {ms : List M} {acc t : List Nat} {ε : Ev} {s s1 : S} (h : m ε s = .ok (.str (strOf t)) s1) (hl : acc.length + t.length ≤ 1000000) : joinM (m :: ms) (strOf acc) ε s = joinM ms (strOf (acc ++ t)) ε s1 := by
  show (m ε s).bind (jK (strOf acc) fun a s1 => joinM ms a ε s1) = _
  rw [h, rbind_ok]
  have e : strOf acc ++ strOf t = strOf (acc ++ t) := by
    show (⟨acc.toArray ++ t.toArray⟩ : Str) = _
    rw [List.append_toArray]
    rfl
  show (if (strOf acc ++ strOf t).length ≤ sizeLine then joinM ms (strOf acc ++ strOf t) ε s1 else R.bad) = _
  rw [e, if_pos (by rw [str_len, List.length_append, sizeL]; omega)]
section
variable {s : S}
noncomputable def itemP : B := sRet (mIf (mOp oEq (mOp oIx (mVar 0) (mC (.int 2))) (mNeg (mC (.int 1)))) (mOp oIx (mVar 0) (mC (.int 1))) (mJoined [(mFmt (mOp oIx (mVar 0) (mC (.int 1)))), (mC (.str (strOf [32]))), (mFmt (mOp oIx (mVar 0) (mC (.int 2))))]))
noncomputable def itemG (F : List D → S → R D) : B := (sRet (mOp oAdd (mOp oAdd (mOp oAdd (mJoined [(mFmt (mOp oIx (mVar 0) (mC (.int 0)))), (mC (.str (strOf [32]))), (mFmt (mOp oIx (mVar 0) (mC (.int 1)))), (mC (.str (strOf [32])))]) (mC (.str (strOf [123])))) (mCall F (mCons (mOp oIx (mVar 0) (mC (.int 2))) mNil))) (mC (.str (strOf [125])))))
theorem itemP_ok {w : List Nat} {n : Option Nat} (hn : ∀ k, n = some k → k ≤ 10000) (hl : w.length ≤ 100000) : itemP [some (.tup [.str "pass", .str (strOf w), .int (am n)])] s = .rt (.str (strOf (shP w n))) s := by
  unfold itemP
  cases n with
  | none => simp only [e_ret, e_if, e_op, e_var, List.getElem?_cons_zero, rbind_ok, e_c, ix3_1, ix3_2, am, e_neg, oEq_int, decide_true, rto_ok, shP]
  | some k =>
    have hk := hn k rfl
    have hk5 : (TL.numL k).length ≤ 5 := TL.numL_len (by decide) (by omega)
    have n1 : ¬ (k : Int) = -1 := by omega
    have eJ : mJoined [(mFmt (mOp oIx (mVar 0) (mC (.int 1)))), (mC (.str (strOf [32]))), (mFmt (mOp oIx (mVar 0) (mC (.int 2))))] [some (.tup [.str "pass", .str (strOf w), .int (k : Int)])] s = .ok (.str (strOf (w ++ [32] ++ TL.numL k))) s := by
      show joinM _ (strOf []) _ _ = _
      have m1 : mFmt (mOp oIx (mVar 0) (mC (.int 1))) [some (.tup [.str "pass", .str (strOf w), .int (k : Int)])] s = .ok (.str (strOf w)) s := by
        simp only [e_fmt, e_op, e_var, List.getElem?_cons_zero, rbind_ok, e_c, ix3_1, fmt_s (show w.length ≤ 1000000 by omega)]
      have m2 : mFmt (mOp oIx (mVar 0) (mC (.int 2))) [some (.tup [.str "pass", .str (strOf w), .int (k : Int)])] s = .ok (.str (strOf (TL.numL k))) s := by
        simp only [e_fmt, e_op, e_var, List.getElem?_cons_zero, rbind_ok, e_c, ix3_2, fmt_n hk]
      rw [join_cons m1 (by simp; omega), join_cons (t := [32]) rfl (by simp; omega), join_cons m2 (by simp; omega), join_nil]
      rfl
    simp only [e_ret, e_if, e_op, e_var, List.getElem?_cons_zero, rbind_ok, e_c, ix3_1, ix3_2, am, e_neg, oEq_int, n1, decide_false, eJ, rto_ok, shP]
theorem itemG_ok {F : List D → S → R D} {t : List Nat} {k : Kd} {v : D} {s' : S} (hk : kok k) (hF : F [v] s = .ok (.str (strOf t)) s') (hl : (kw k).length + (kt k).length + t.length ≤ 500000) : itemG F [some (.tup [.str (strOf (kw k)), kd k, v])] s = .rt (.str (strOf (gt k t))) s' := by
  unfold itemG
  have eJ : mJoined [(mFmt (mOp oIx (mVar 0) (mC (.int 0)))), (mC (.str (strOf [32]))), (mFmt (mOp oIx (mVar 0) (mC (.int 1)))), (mC (.str (strOf [32])))] [some (.tup [.str (strOf (kw k)), kd k, v])] s = .ok (.str (strOf (kw k ++ [32] ++ kt k ++ [32]))) s := by
    show joinM _ (strOf []) _ _ = _
    have m1 : mFmt (mOp oIx (mVar 0) (mC (.int 0))) [some (.tup [.str (strOf (kw k)), kd k, v])] s = .ok (.str (strOf (kw k))) s := by
      simp only [e_fmt, e_op, e_var, List.getElem?_cons_zero, rbind_ok, e_c, ix3_0, fmt_s (show (kw k).length ≤ 1000000 by omega)]
    have m2 : mFmt (mOp oIx (mVar 0) (mC (.int 1))) [some (.tup [.str (strOf (kw k)), kd k, v])] s = .ok (.str (strOf (kt k))) s := by
      simp only [e_fmt, e_op, e_var, List.getElem?_cons_zero, rbind_ok, e_c, ix3_1, fmt_kd hk (show (kt k).length ≤ 1000000 by omega)]
    rw [join_cons m1 (by simp; omega), join_cons (t := [32]) rfl (by simp; omega), join_cons m2 (by simp; omega), join_cons (t := [32]) rfl (by simp; omega), join_nil]
    rfl
  have e4 := add_s (w := kw k ++ [32] ++ kt k ++ [32]) (v := [123]) (by simp; omega) s
  have e5 := add_s (w := kw k ++ [32] ++ kt k ++ [32] ++ [123]) (v := t) (by simp; omega) s'
  have e6 := add_s (w := kw k ++ [32] ++ kt k ++ [32] ++ [123] ++ t) (v := [125]) (by simp; omega) s'
  rw [show gt k t = kw k ++ [32] ++ kt k ++ [32] ++ [123] ++ t ++ [125] from by simp [gt]]
  simp only [e_ret, e_op, eJ, rbind_ok, e_c, e4, e_call, e_cons, e_var, List.getElem?_cons_zero, ix3_2, e_nil, hF, e5, e6, rto_ok]
theorem item_turn {F : List D → S → R D} {x : D} {t : List Nat}
    (h : (∃ w n, x = .tup [.str "pass", .str (strOf w), .int (am n)] ∧ t = shP w n ∧ w.length ≤ 100000 ∧ ∀ k, n = some k → k ≤ 10000) ∨ (∃ k v u, x = .tup [.str (strOf (kw k)), kd k, v] ∧ t = gt k u ∧ kok k ∧ (∃ s', F [v] s = .ok (.str (strOf u)) s' ∧ Pre s s') ∧ (kw k).length + (kt k).length + u.length ≤ 300000)) :
    ∃ s', runF 1 1 (B_show_item F) [x] s = .ok (.str (strOf t)) s' ∧ Pre s s' := by
  have e0 : runF 1 1 (B_show_item F) [x] s = runO (B_show_item F [some x] s) := by
    rw [runF_eq (n := 1) rfl]
    rfl
  have eB : B_show_item F = bSeq (sIf (mOp oEq (mOp oIx (mVar 0) (mC (.int 0))) (mC (.str (strOf [112, 97, 115, 115])))) itemP bNil) (itemG F) := rfl
  rw [e0, eB]
  rcases h with ⟨w, n, rfl, rfl, h1, h2⟩ | ⟨k, v, u, rfl, rfl, h1, ⟨s', h2, p2⟩, h3⟩
  · have e1 : oEq (.str "pass") (.str (strOf [112, 97, 115, 115])) s = .ok (.bl true) s := by
      have := oEq_s (a := [112, 97, 115, 115]) (ascS _ (by decide)) (ascS _ (by decide)) s (b := [112, 97, 115, 115])
      rw [decide_eq_true rfl] at this
      exact this
    refine ⟨s, ?_, Pre.refl⟩
    simp only [e_seq, e_sif, e_op, e_var, List.getElem?_cons_zero, rbind_ok, e_c, ix3_0, e1, rto_ok, ifK_t, itemP_ok h2 h1, obind_rt, runO_rt]
  · have e1 := oEq_s (kw_asc k) (ascS [112, 97, 115, 115] (by decide)) s
    rw [decide_eq_false (kw_pass k)] at e1
    refine ⟨s', ?_, p2⟩
    simp only [e_seq, e_sif, e_op, e_var, List.getElem?_cons_zero, rbind_ok, e_c, ix3_0, e1, rto_ok, ifK_f, e_bnil, obind_nx, itemG_ok h1 h2 (show (kw k).length + (kt k).length + u.length ≤ 500000 by omega), runO_rt]
end
theorem show_lc (F : List D → S → R D) (x0 : Option D) (J : Nat) (hF : ∀ (i : Its) (s : S), ok i → dep i < J → sz i ≤ 100000 → ∃ s', F [.tup (ds i)] s = .ok (.str (strOf (sh i))) s' ∧ Pre s s') : ∀ (i : Its) (acc : List D) (o : Option D) (s : S), ok i → dep i < J + 1 → acc.length + sz i ≤ 200000 → sz i ≤ 100000 →
    ∃ s', lcL none 1 yesM (mCall (runF 1 1 (B_show_item F)) (mCons (mVar 1) mNil)) [x0, o] (ds i) acc s = .ok (acc ++ ((its i).map strOf).map D.str) s' ∧ Pre s s'
  | .nil, acc, o, s, _, _, _, _ => ⟨s, by rw [show (ds .nil) = [] from rfl, lc_nil (g := none) trivial]; simp [its], Pre.refl⟩
  | .pass w n r, acc, o, s, ho, hd, hl, hz => by
    simp only [sz] at hl hz
    have hw : w.length ≤ (shP w n).length := by
      cases n with
      | none => exact Nat.le_refl _
      | some n => simp [shP]
    obtain ⟨s1, e1, q1⟩ := item_turn (s := s) (F := F) (x := .tup [.str "pass", .str (strOf w), .int (am n)]) (t := shP w n) (.inl ⟨w, n, rfl, rfl, by omega, ho.2.1⟩)
    obtain ⟨s2, e2, q2⟩ := show_lc F x0 J hF r (acc ++ [.str (strOf (shP w n))]) o s1 ho.2.2 hd (by rw [List.length_append, List.length_singleton]; omega) (by omega)
    refine ⟨s2, ?_, q1.trans q2⟩
    have hm : (mCall (runF 1 1 (B_show_item F)) (mCons (mVar 1) mNil)) ((([x0, o] : Ev).set 1 none).set 1 (some (.tup [.str "pass", .str (strOf w), .int (am n)]))) s = .ok (.str (strOf (shP w n))) s1 := by
      simp only [List.set_cons_succ, List.set_cons_zero, e_call, e_cons, e_var, List.getElem?_cons_zero, List.getElem?_cons_succ, rbind_ok, e_nil, e1]
    show lcL none 1 yesM _ _ (.tup [.str "pass", .str (strOf w), .int (am n)] :: ds r) acc s = _
    rw [lc_cons (g := none) trivial hm (by rw [sizeL]; omega), e2]
    simp [its]
  | .grp k i r, acc, o, s, ho, hd, hl, hz => by
    simp only [sz] at hl hz
    simp only [dep] at hd
    have hi := sh_len i
    obtain ⟨s1, e1, q1⟩ := item_turn (s := s) (F := F) (x := .tup [.str (strOf (kw k)), kd k, .tup (ds i)]) (t := gt k (sh i)) (.inr ⟨k, _, _, rfl, rfl, ho.1, hF i s ho.2.2.1 (by omega) (by omega), by omega⟩)
    obtain ⟨s2, e2, q2⟩ := show_lc F x0 J hF r (acc ++ [.str (strOf (gt k (sh i)))]) o s1 ho.2.2.2 (by omega) (by rw [List.length_append, List.length_singleton]; omega) (by omega)
    refine ⟨s2, ?_, q1.trans q2⟩
    have hm : (mCall (runF 1 1 (B_show_item F)) (mCons (mVar 1) mNil)) ((([x0, o] : Ev).set 1 none).set 1 (some (.tup [.str (strOf (kw k)), kd k, .tup (ds i)]))) s = .ok (.str (strOf (gt k (sh i)))) s1 := by
      simp only [List.set_cons_succ, List.set_cons_zero, e_call, e_cons, e_var, List.getElem?_cons_zero, List.getElem?_cons_succ, rbind_ok, e_nil, e1]
    show lcL none 1 yesM _ _ (.tup [.str (strOf (kw k)), kd k, .tup (ds i)] :: ds r) acc s = _
    rw [lc_cons (g := none) trivial hm (by rw [sizeL]; omega), e2]
    simp [its, sh]
theorem strs_of : ∀ ys : List Str, strsOf (ys.map D.str) = some ys
  | [] => rfl
  | y :: ys => by
    show (strsOf (ys.map D.str)).map (y :: ·) = _
    rw [strs_of ys]
    rfl
theorem sum_lens : ∀ ts : List (List Nat), ((ts.map strOf).map (·.length)).sum + (ts.map strOf).length * 2 = (ts.map fun t => t.length + 2).sum
  | [] => rfl
  | t :: ts => by
    have := sum_lens ts
    simp only [List.map_cons, List.sum_cons, List.length_cons, str_len] at *
    omega
theorem show_ok : ∀ (j : Nat) (i : Its) (s : S), ok i → dep i < j → sz i ≤ 100000 → ∃ s', F_show_script j [.tup (ds i)] s = .ok (.str (strOf (sh i))) s' ∧ Pre s s'
  | 0, i, s, _, h, _ => by omega
  | j + 1, i, s, ho, hd, hz => by
    have e0 : F_show_script (j + 1) [.tup (ds i)] s = runO (B_show_script (runF 1 1 (B_show_item (F_show_script j))) [some (.tup (ds i)), none] s) := by
      show runF 1 2 _ _ _ = _
      rw [runF_eq (n := 1) rfl]
      rfl
    obtain ⟨s1, e1, q1⟩ := show_lc (F_show_script j) (some (.tup (ds i))) j (fun i s ho hd hz => show_ok j i s ho hd hz) i [] none s ho (by omega) (by simp; omega) hz
    refine ⟨s1 ++ [C.lst (((its i).map strOf).map D.str)], ?_, q1.trans Pre.app⟩
    rw [e0]
    have hs : ((its i).map fun t => t.length + 2).sum ≤ sz i := sz_its i
    have h2 := sum_lens (its i)
    have eJ : oJoin (.str (strOf [59, 32])) [.ref s1.length] (s1 ++ [C.lst (((its i).map strOf).map D.str)]) = .ok (.str (strOf (sh i))) (s1 ++ [C.lst (((its i).map strOf).map D.str)]) := by
      show (match (s1 ++ [C.lst (((its i).map strOf).map D.str)])[s1.length]? with
        | some (.lst ds) => joinK (strOf [59, 32]) (strsOf ds) _
        | _ => .bad) = _
      rw [app_last]
      show joinK (strOf [59, 32]) (strsOf (((its i).map strOf).map D.str)) _ = _
      rw [strs_of]
      show (if (((its i).map strOf).map (·.length)).sum + ((its i).map strOf).length * (strOf [59, 32]).length ≤ 16777216 then R.ok (D.str (Txt.join (strOf [59, 32]) ((its i).map strOf))) _ else .bad) = _
      rw [if_pos (by rw [str_len]; show _ + _ * 2 ≤ _; omega)]
      congr 2
      exact SX.join_S [59, 32] (its i)
    have eB : B_show_script (runF 1 1 (B_show_item (F_show_script j))) = (sRet (mMeth isStr oJoin (mC (.str (strOf [59, 32]))) (mCons (mLc (iSeq (mVar 0)) 1 yesM (mCall (runF 1 1 (B_show_item (F_show_script j))) (mCons (mVar 1) mNil))) mNil))) := rfl
    rw [eB, e_ret, e_meth, e_c, rbind_ok, if_pos (isStr_s _ _), e_cons, e_lc, e_iseq, mVar_ok (d := .tup (ds i)) rfl, rbind_ok, e_it_tup, rbind_ok, e1, rbind_ok, rbind_ok, e_nil, rbind_ok, rbind_ok]
    rw [List.nil_append, eJ, rto_ok, runO_rt]
end G83
end Mi

namespace Mi
open PySem PySem.Spec PyProof.Rows L2
open Classical in
theorem lc_t {g : Option (Nat × C)} {i : Nat} {c m : M} {ε : Ev} {d y : D} {ds acc : List D} {s s1 s2 : S} (h : Gd g s) (hc : c ((ε.set i none).set i (some d)) s = .ok (.bl true) s1) (hm : m ((ε.set i none).set i (some d)) s1 = .ok y s2) (hz : acc.length < sizeLine) : lcL g i c m ε (d :: ds) acc s = lcL g i c m ε ds (acc ++ [y]) s2 := by
  rw [lcL, if_pos h, hc]
  show (match m ((ε.set i none).set i (some d)) s1 with
        | .ok y s2 => if acc.length < sizeLine then lcL g i c m ε ds (acc ++ [y]) s2 else .bad
        | _ => .bad) = _
  rw [hm]
  exact if_pos hz
open Classical in
theorem lc_f {g : Option (Nat × C)} {i : Nat} {c m : M} {ε : Ev} {d : D} {ds acc : List D} {s s1 : S} (h : Gd g s) (hc : c ((ε.set i none).set i (some d)) s = .ok (.bl false) s1) : lcL g i c m ε (d :: ds) acc s = lcL g i c m ε ds acc s1 := by
  rw [lcL, if_pos h, hc]
open Classical in
theorem lc_0 {g : Option (Nat × C)} {i : Nat} {c m : M} {ε : Ev} {acc : List D} {s : S} (h : Gd g s) : lcL g i c m ε [] acc s = .ok acc s := if_pos h
theorem ints_of : ∀ l : List Int, intsOf (l.map D.int) = some l
  | [] => rfl
  | x :: l => by
    show (intsOf (l.map D.int)).map (x :: ·) = _
    rw [ints_of l]
    rfl
namespace G83
/-! ### how deep -/
def dl : Its → List Int
  | .nil => []
  | .pass _ _ r => dl r
  | .grp _ i r => (1 + (dep i : Int)) :: dl r
theorem dl_len : ∀ i : Its, 6 * (dl i).length ≤ sz i
  | .nil => Nat.le_refl _
  | .pass w n r => by
    have := dl_len r
    simp only [dl, sz]
    omega
  | .grp k i r => by
    have := dl_len r
    simp only [dl, sz, List.length_cons]
    omega
theorem maxI_cons (x y : Int) (r : List Int) : maxI (x :: y :: r) = if x < maxI (y :: r) then maxI (y :: r) else x := rfl
theorem max_dl : ∀ (i : Its) (x : Int), 0 ≤ x → maxI (x :: dl i) = max x (dep i : Int)
  | .nil, x, h => by
    show x = max x ((0 : Nat) : Int)
    omega
  | .pass w n r, x, h => max_dl r x h
  | .grp k i r, x, h => by
    show maxI (x :: (1 + (dep i : Int)) :: dl r) = max x ((max (1 + dep i) (dep r) : Nat) : Int)
    rw [maxI_cons, max_dl r (1 + (dep i : Int)) (by omega)]
    split <;> omega
noncomputable def condD : M := (mOp oNe (mOp oIx (mVar 1) (mC (.int 0))) (mC (.str (strOf [112, 97, 115, 115]))))
theorem depth_lc (F : List D → S → R D) (x0 : Option D) (J : Nat) (hF : ∀ (i : Its) (s : S), dep i < J → sz i ≤ 100000 → ∃ s', F [.tup (ds i)] s = .ok (.int (dep i : Int)) s' ∧ Pre s s') : ∀ (i : Its) (acc : List Int) (o : Option D) (s : S), dep i < J + 1 → acc.length + sz i ≤ 200000 → sz i ≤ 100000 →
    ∃ s', lcL none 1 condD (mOp oAdd (mC (.int 1)) (mCall F (mCons (mOp oIx (mVar 1) (mC (.int 2))) mNil))) [x0, o] (ds i) (acc.map D.int) s = .ok ((acc ++ dl i).map D.int) s' ∧ Pre s s'
  | .nil, acc, o, s, _, _, _ => ⟨s, by rw [show (ds .nil) = [] from rfl, lc_0 (g := none) trivial]; simp [dl], Pre.refl⟩
  | .pass w n r, acc, o, s, hd, hl, hz => by
    simp only [sz] at hl hz
    obtain ⟨s2, e2, q2⟩ := depth_lc F x0 J hF r acc o s hd (by omega) (by omega)
    refine ⟨s2, ?_, q2⟩
    have e1 : oNe (.str "pass") (.str (strOf [112, 97, 115, 115])) s = .ok (.bl false) s := by
      have := oNe_s (a := [112, 97, 115, 115]) (ascS _ (by decide)) (ascS _ (by decide)) s (b := [112, 97, 115, 115])
      rw [decide_eq_true rfl] at this
      exact this
    have hc : condD ((([x0, o] : Ev).set 1 none).set 1 (some (.tup [.str "pass", .str (strOf w), .int (am n)]))) s = .ok (.bl false) s := by
      unfold condD
      simp only [List.set_cons_succ, List.set_cons_zero, e_op, e_var, List.getElem?_cons_zero, List.getElem?_cons_succ, rbind_ok, e_c, ix3_0, e1]
    show lcL none 1 _ _ _ (.tup [.str "pass", .str (strOf w), .int (am n)] :: ds r) _ s = _
    rw [lc_f (g := none) trivial hc, e2]
    rfl
  | .grp k i r, acc, o, s, hd, hl, hz => by
    simp only [sz] at hl hz
    simp only [dep] at hd
    obtain ⟨s1, e1, q1⟩ := hF i s (by omega) (by omega)
    obtain ⟨s2, e2, q2⟩ := depth_lc F x0 J hF r (acc ++ [1 + (dep i : Int)]) o s1 (by omega) (by rw [List.length_append, List.length_singleton]; omega) (by omega)
    refine ⟨s2, ?_, q1.trans q2⟩
    have e3 := oNe_s (kw_asc k) (ascS [112, 97, 115, 115] (by decide)) s
    rw [decide_eq_false (kw_pass k)] at e3
    have hc : condD ((([x0, o] : Ev).set 1 none).set 1 (some (.tup [.str (strOf (kw k)), kd k, .tup (ds i)]))) s = .ok (.bl true) s := by
      unfold condD
      simp only [List.set_cons_succ, List.set_cons_zero, e_op, e_var, List.getElem?_cons_zero, List.getElem?_cons_succ, rbind_ok, e_c, ix3_0, e3, Bool.not_false]
    have hm : (mOp oAdd (mC (.int 1)) (mCall F (mCons (mOp oIx (mVar 1) (mC (.int 2))) mNil))) ((([x0, o] : Ev).set 1 none).set 1 (some (.tup [.str (strOf (kw k)), kd k, .tup (ds i)]))) s = .ok (.int (1 + (dep i : Int))) s1 := by
      simp only [List.set_cons_succ, List.set_cons_zero, e_op, e_call, e_cons, e_var, List.getElem?_cons_zero, List.getElem?_cons_succ, rbind_ok, e_nil, e_c, ix3_2, e1, oAdd_int]
    show lcL none 1 _ _ _ (.tup [.str (strOf (kw k)), kd k, .tup (ds i)] :: ds r) _ s = _
    rw [lc_t (g := none) trivial hc hm (by rw [List.length_map, sizeL]; omega)]
    rw [List.map_append] at e2
    rw [show (acc.map D.int) ++ [D.int (1 + (dep i : Int))] = acc.map D.int ++ [1 + (dep i : Int)].map D.int from rfl, e2]
    simp [dl]
theorem depth_ok : ∀ (j : Nat) (i : Its) (s : S), dep i < j → sz i ≤ 100000 → ∃ s', F__law_depth j [.tup (ds i)] s = .ok (.int (dep i : Int)) s' ∧ Pre s s'
  | 0, i, s, h, _ => by omega
  | j + 1, i, s, hd, hz => by
    have e0 : F__law_depth (j + 1) [.tup (ds i)] s = runO (B__law_depth (F__law_depth j) [some (.tup (ds i)), none] s) := by
      show runF 1 2 _ _ _ = _
      rw [runF_eq (n := 1) rfl]
      rfl
    obtain ⟨s1, e1, q1⟩ := depth_lc (F__law_depth j) (some (.tup (ds i))) j (fun i s hd hz => depth_ok j i s hd hz) i [] none (s ++ [C.lst [.int 0]]) (by omega) (by simp; omega) hz
    have k1 : (s1 ++ [C.lst ((dl i).map D.int)])[s.length]? = some (C.lst [.int 0]) := by
      have := q1 _ _ (app_last (s := s) (c := C.lst [.int 0]))
      rw [app_get (lt_of_get this)]
      exact this
    have k2 : (s1 ++ [C.lst ((dl i).map D.int)])[s1.length]? = some (C.lst ((dl i).map D.int)) := app_last
    have hl := dl_len i
    have e2 := oAdd_lst k1 k2 (by rw [List.length_map, List.length_singleton, sizeL]; omega)
    refine ⟨s1 ++ [C.lst ((dl i).map D.int)] ++ [C.lst ([.int 0] ++ (dl i).map D.int)], ?_, ((Pre.app.trans q1).trans Pre.app).trans Pre.app⟩
    rw [e0]
    have eB : B__law_depth (F__law_depth j) = (sRet (mCall cMaxL (mCons (mOp oAdd (mLst (mCons (mC (.int 0)) mNil)) (mLc (iSeq (mVar 0)) 1 condD (mOp oAdd (mC (.int 1)) (mCall (F__law_depth j) (mCons (mOp oIx (mVar 1) (mC (.int 2))) mNil))))) mNil))) := rfl
    rw [eB, e_ret, e_call, e_cons, e_op, e_lst, e_cons, e_c, rbind_ok, e_nil, rbind_ok, rbind_ok, if_pos (show ([D.int 0] : List D).length ≤ sizeLine from one_le), rbind_ok, e_lc, e_iseq, mVar_ok (d := .tup (ds i)) rfl, rbind_ok, e_it_tup, rbind_ok]
    have e1 : lcL none 1 condD (mOp oAdd (mC (.int 1)) (mCall (F__law_depth j) (mCons (mOp oIx (mVar 1) (mC (.int 2))) mNil))) [some (.tup (ds i)), none] (ds i) [] (s ++ [C.lst [.int 0]]) = .ok ((dl i).map D.int) s1 := e1
    rw [e1, rbind_ok, rbind_ok, e2, rbind_ok, e_nil, rbind_ok, rbind_ok]
    have e3 : cMaxL [.ref (s1 ++ [C.lst ((dl i).map D.int)]).length] (s1 ++ [C.lst ((dl i).map D.int)] ++ [C.lst ([.int 0] ++ (dl i).map D.int)]) = .ok (.int (dep i : Int)) (s1 ++ [C.lst ((dl i).map D.int)] ++ [C.lst ([.int 0] ++ (dl i).map D.int)]) := by
      show (match (s1 ++ [C.lst ((dl i).map D.int)] ++ [C.lst ([.int 0] ++ (dl i).map D.int)])[(s1 ++ [C.lst ((dl i).map D.int)]).length]? with
        | some (.lst ds) => maxK _ (intsOf ds)
        | _ => .bad) = _
      rw [app_last]
      show maxK _ (intsOf ((0 :: dl i).map D.int)) = _
      rw [ints_of]
      show R.ok (D.int (maxI (0 :: dl i))) _ = _
      rw [max_dl i 0 (Int.le_refl _), show max (0 : Int) (dep i : Int) = (dep i : Int) by omega]
    rw [e3, rto_ok, runO_rt]
end G83
end Mi

namespace Mi
namespace G83
open PySem PySem.Spec PyProof.Rows L2

/-! ### draws in expressions -/
noncomputable def takeM (m : Int) : M := mCall F__law_take (mCons (mVar 0) (mCons (mC (.int m)) mNil))
section
variable {a b : Nat}
theorem take_e {s : S} {ε : Ev} {m : Int} (h : DrawOk a b s) (he : ε[0]? = some (some (.ref a))) (hm : 0 < m) (hm2 : m < 2 ^ 64) : ∃ f : Nat, (f : Int) < m ∧ ∃ s', takeM m ε s = .ok (.int (f : Int)) s' ∧ Dw a b s s' := by
  obtain ⟨f, s', e, h0, h1, hd⟩ := take_ok h hm hm2
  refine ⟨f.toNat, by omega, s', ?_, hd⟩
  unfold takeM
  rw [e_call, e_cons, mVar_ok he, rbind_ok, e_cons, e_c, rbind_ok, e_nil, rbind_ok, rbind_ok, rbind_ok, e, show ((f.toNat : Nat) : Int) = f by omega]
/-- one of a written list -/
theorem pick_e {s : S} {ε : Ev} {xs : List D} {ms : Ev → S → R (List D)} {s1 : S} (h : DrawOk a b s) (he : ε[0]? = some (some (.ref a))) (hm : ms ε s = .ok xs s1) (h1 : Dw a b s s1) (hl : 0 < xs.length) (hl2 : xs.length ≤ 100) : ∃ x s', x ∈ xs ∧ mOp oIx (mLst ms) (takeM (xs.length : Int)) ε s = .ok x s' ∧ Dw a b s s' := by
  have e1 : mLst ms ε s = .ok (.ref s1.length) (s1 ++ [C.lst xs]) := by
    rw [e_lst, hm, rbind_ok, if_pos (small_le (by omega))]
  have h2 : Dw a b s (s1 ++ [C.lst xs]) := h1.pre Pre.app
  obtain ⟨f, hf, s3, e3, h3⟩ := take_e (ε := ε) (m := (xs.length : Int)) h2.ok he (by omega) (by omega)
  have hk : s3[s1.length]? = some (C.lst xs) := h3.keep _ _ (fun z => by have := h1.ok.lt; omega) app_last
  obtain ⟨x, hx, e⟩ := pick (s := s3) (i := (f : Int)) (by omega) (by omega) hk
  refine ⟨x, s3, hx, ?_, h2.trans h3⟩
  rw [e_op, e1, rbind_ok, e3, rbind_ok, e]
def WSl : List Nat := WSs.cps.toList
theorem WSs_eq : WSs = strOf WSl := (SX.S_tl WSs).symm
theorem ws_low {k : Nat} (h : k < 26) : ∃ c, WSl[k]? = some c ∧ 97 ≤ c ∧ c ≤ 122 := by
  have : ∀ k < 26, ((WSl[k]?).map fun c => decide (97 ≤ c) && decide (c ≤ 122)) = some true := by decide +kernel
  have := this k h
  cases e : WSl[k]? with
  | none =>
    rw [e] at this
    cases this
  | some c =>
    rw [e] at this
    simp at this
    exact ⟨c, rfl, this⟩
theorem ws_all {k : Nat} (h : k < 37) : ∃ c, WSl[k]? = some c ∧ isW c = true ∧ c < 128 := by
  have : ∀ k < 37, ((WSl[k]?).map fun c => isW c && decide (c < 128)) = some true := by decide +kernel
  have := this k h
  cases e : WSl[k]? with
  | none =>
    rw [e] at this
    cases this
  | some c =>
    rw [e] at this
    simp at this
    exact ⟨c, rfl, this⟩
theorem wsl_len : WSl.length ≤ 5000000 := by
  have : WSl.length = 37 := by decide +kernel
  omega
theorem name_loop : ∀ (n : Nat) (k : Nat) (w : List Nat) (o2 o4 : Option D) (s : S), DrawOk a b s → Asc w → (∀ c ∈ w, isW c = true) → w.length + n ≤ 1000 →
    ∃ v o4' s', v.length = n ∧ Asc v ∧ (∀ c ∈ v, isW c = true) ∧ loop none (gN 4) W__law_name1 (rngL (k : Int) n) [some (.ref a), some (.str (strOf WSl)), o2, some (.str (strOf w)), o4] s = .nx [some (.ref a), some (.str (strOf WSl)), o2, some (.str (strOf (w ++ v))), o4'] s' ∧ Dw a b s s'
  | 0, k, w, o2, o4, s, h, _, _, _ => ⟨[], o4, s, rfl, asc0, fun _ z => (by cases z), by rw [List.append_nil]; exact loop_nil (g := none) trivial, Dw.of h Pre.refl⟩
  | n + 1, k, w, o2, o4, s, h, ha, hw, hl => by
    obtain ⟨f, hf, s1, e1, h1⟩ := take_e (ε := [some (.ref a), some (.str (strOf WSl)), o2, some (.str (strOf w)), some (.int (k : Int))]) (m := 37) h rfl (by decide) (by decide)
    obtain ⟨c, hc, c1, c2⟩ := ws_all (k := f) (by omega)
    obtain ⟨v, o4', s2, v1, v2, v3, e2, h2⟩ := name_loop n (k + 1) (w ++ [c]) o2 (some (.int (k : Int))) s1 h1.ok (asc_app ha (asc1 c2)) (fun d hd => (List.mem_append.mp hd).elim (hw d) fun z => by rw [List.mem_singleton.mp z]; exact c1) (by rw [List.length_append, List.length_singleton]; omega)
    refine ⟨c :: v, o4', s2, by rw [List.length_cons, v1], fun d hd => ?_, fun d hd => ?_, ?_, h1.trans h2⟩
    · rcases List.mem_cons.mp hd with rfl | hd
      · exact c2
      · exact v2 d hd
    · rcases List.mem_cons.mp hd with rfl | hd
      · exact c1
      · exact v3 d hd
    · have eL : rngL (k : Int) (n + 1) = .int (k : Int) :: rngL ((k + 1 : Nat) : Int) n := by
        show D.int (k : Int) :: rngL ((k : Int) + 1) n = _
        rw [show (k : Int) + 1 = ((k + 1 : Nat) : Int) by omega]
      rw [eL, loop_cons (g := none) trivial (gN_eq _ _ _)]
      have eW : W__law_name1 [some (.ref a), some (.str (strOf WSl)), o2, some (.str (strOf w)), some (.int (k : Int))] s = .nx [some (.ref a), some (.str (strOf WSl)), o2, some (.str (strOf (w ++ [c]))), some (.int (k : Int))] s1 := by
        show (sSet 3 (mOp oAdd (mVar 3) (mOp oIx (mVar 1) (takeM 37)))) _ _ = _
        rw [e_set, e_op, mVar_ok (d := .str (strOf w)) rfl, rbind_ok, e_op, mVar_ok (d := .str (strOf WSl)) rfl, rbind_ok, e1, rbind_ok, ix_s wsl_len hc, rbind_ok, add_s (by rw [List.length_singleton]; omega), rto_ok]
        rfl
      show (match W__law_name1 [some (.ref a), some (.str (strOf WSl)), o2, some (.str (strOf w)), some (.int (k : Int))] s with
        | .nx ε2 s2 => loop none (gN 4) W__law_name1 (rngL ((k + 1 : Nat) : Int) n) ε2 s2
        | .ct ε2 s2 => loop none (gN 4) W__law_name1 (rngL ((k + 1 : Nat) : Int) n) ε2 s2
        | .bk ε2 s2 => .nx ε2 s2
        | .rt d s2 => .rt d s2
        | .ex c f d s2 => .ex c f d s2
        | .bad => .bad) = _
      rw [eW]
      show loop none (gN 4) W__law_name1 (rngL ((k + 1 : Nat) : Int) n) [some (.ref a), some (.str (strOf WSl)), o2, some (.str (strOf (w ++ [c]))), some (.int (k : Int))] s1 = _
      rw [e2, List.append_assoc]
      rfl
theorem name_draw {s : S} (h : DrawOk a b s) : ∃ x s', F__law_name [.ref a] s = .ok (.str (strOf x)) s' ∧ kok (.on x) ∧ x.length ≤ 20 ∧ Dw a b s s' := by
  have e0 : F__law_name [.ref a] s = runO (B__law_name [some (.ref a), none, none, none, none] s) := by
    unfold F__law_name
    rw [runF_eq (n := 1) rfl]
    rfl
  have eB : B__law_name = (bSeq (sSet 1 (mC (.str WSs)))
    (bSeq (sSet 2 (mOp oIx (mLst (mCons (mC (.int 1)) (mCons (mC (.int 2)) (mCons (mC (.int 5)) (mCons (mC (.int 19)) (mCons (mC (.int 20)) mNil)))))) (takeM 5)))
    (bSeq (sSet 3 (mOp oIx (mVar 1) (takeM 26)))
    (bSeq (sFor (iRng1 (mCons (mOp oSub (mVar 2) (mC (.int 1))) mNil)) (gN 4) W__law_name1)
    (sRet (mVar 3)))))) := rfl
  obtain ⟨z, s1, hz, e1, h1⟩ := pick_e (ε := [some (.ref a), some (.str (strOf WSl)), none, none, none]) (xs := [.int 1, .int 2, .int 5, .int 19, .int 20]) (ms := (mCons (mC (.int 1)) (mCons (mC (.int 2)) (mCons (mC (.int 5)) (mCons (mC (.int 19)) (mCons (mC (.int 20)) mNil)))))) h rfl rfl (Dw.of h Pre.refl) (by decide) (by decide)
  have e1 : mOp oIx (mLst (mCons (mC (.int 1)) (mCons (mC (.int 2)) (mCons (mC (.int 5)) (mCons (mC (.int 19)) (mCons (mC (.int 20)) mNil)))))) (takeM 5) [some (.ref a), some (.str (strOf WSl)), none, none, none] s = .ok z s1 := e1
  obtain ⟨n, rfl, hn⟩ : ∃ n : Nat, z = .int ((n + 1 : Nat) : Int) ∧ n < 20 := by
    simp only [List.mem_cons, List.not_mem_nil, or_false] at hz
    rcases hz with rfl | rfl | rfl | rfl | rfl
    · exact ⟨0, rfl, by decide⟩
    · exact ⟨1, rfl, by decide⟩
    · exact ⟨4, rfl, by decide⟩
    · exact ⟨18, rfl, by decide⟩
    · exact ⟨19, rfl, by decide⟩
  obtain ⟨f, hf, s2, e2, h2⟩ := take_e (ε := [some (.ref a), some (.str (strOf WSl)), some (.int ((n + 1 : Nat) : Int)), none, none]) (m := 26) h1.ok rfl (by decide) (by decide)
  obtain ⟨c, hc, c1, c2⟩ := ws_low (k := f) (by omega)
  have hcW : isW c = true := by
    unfold isW
    simp
    omega
  obtain ⟨v, o4', s3, v1, v2, v3, e3, h3⟩ := name_loop n 0 [c] (some (.int ((n + 1 : Nat) : Int))) none s2 h2.ok (asc1 (by omega)) (fun d hd => by rw [List.mem_singleton.mp hd]; exact hcW) (by rw [List.length_singleton]; omega)
  have e3 : loop none (gN 4) W__law_name1 (rngL 0 n) [some (.ref a), some (.str (strOf WSl)), some (.int ((n + 1 : Nat) : Int)), some (.str (strOf [c])), none] s2 = _ := e3
  refine ⟨c :: v, s3, ?_, ⟨?_, fun d hd => ?_, fun d hd => ?_⟩, by rw [List.length_cons]; omega, (h1.trans h2).trans h3⟩
  · rw [e0, eB, WSs_eq, e_seq, e_set, e_c, rto_ok, obind_nx]
    rw [show ([some (.ref a), none, none, none, none] : Ev).set 1 (some (.str (strOf WSl))) = [some (.ref a), some (.str (strOf WSl)), none, none, none] from rfl]
    rw [e_seq, e_set, e1, rto_ok, obind_nx]
    rw [show ([some (.ref a), some (.str (strOf WSl)), none, none, none] : Ev).set 2 (some (.int ((n + 1 : Nat) : Int))) = [some (.ref a), some (.str (strOf WSl)), some (.int ((n + 1 : Nat) : Int)), none, none] from rfl]
    rw [e_seq, e_set, e_op, mVar_ok (d := .str (strOf WSl)) rfl, rbind_ok, e2, rbind_ok, ix_s wsl_len hc, rto_ok, obind_nx]
    rw [show ([some (.ref a), some (.str (strOf WSl)), some (.int ((n + 1 : Nat) : Int)), none, none] : Ev).set 3 (some (.str (strOf [c]))) = [some (.ref a), some (.str (strOf WSl)), some (.int ((n + 1 : Nat) : Int)), some (.str (strOf [c])), none] from rfl]
    rw [e_seq, e_for, e_rng1, e_cons, e_op, mVar_ok (d := .int ((n + 1 : Nat) : Int)) rfl, rbind_ok, e_c, rbind_ok, oSub_int, rbind_ok, e_nil, rbind_ok, rbind_ok, e_rngK1, rto_ok]
    rw [show (((n + 1 : Nat) : Int) - 1).toNat = n by omega]
    show runO ((loop none (gN 4) W__law_name1 (rngL 0 n) _ s2).bind _) = _
    rw [e3, obind_nx, e_ret, mVar_ok (d := .str (strOf ([c] ++ v))) rfl, rto_ok, runO_rt]
    rfl
  · show ((decide (97 ≤ c) && decide (c ≤ 122)) && decide ((c :: v).length ≤ 20)) = true
    rw [decide_eq_true c1, decide_eq_true c2, decide_eq_true (by rw [List.length_cons]; omega)]
    rfl
  · rcases List.mem_cons.mp hd with rfl | hd
    · omega
    · exact v2 d hd
  · rcases List.mem_cons.mp hd with rfl | hd
    · exact hcW
    · exact v3 d hd
end
end G83
end Mi

namespace Mi
namespace G83
open PySem PySem.Spec PyProof.Rows L2

/-! ### the items drawn -/
def app : Its → Its → Its
  | .nil, y => y
  | .pass w n r, y => .pass w n (app r y)
  | .grp k i r, y => .grp k i (app r y)
theorem ds_app : ∀ x y : Its, ds (app x y) = ds x ++ ds y
  | .nil, y => rfl
  | .pass w n r, y => congrArg (List.cons _) (ds_app r y)
  | .grp k i r, y => congrArg (List.cons _) (ds_app r y)
theorem ok_app : ∀ {x y : Its}, ok x → ok y → ok (app x y)
  | .nil, y, _, h => h
  | .pass w n r, y, h1, h => ⟨h1.1, h1.2.1, ok_app h1.2.2 h⟩
  | .grp k i r, y, h1, h => ⟨h1.1, h1.2.1, h1.2.2.1, ok_app h1.2.2.2 h⟩
theorem dep_app : ∀ x y : Its, dep (app x y) = max (dep x) (dep y)
  | .nil, y => by
    show dep y = max 0 (dep y)
    omega
  | .pass w n r, y => dep_app r y
  | .grp k i r, y => by
    show max (1 + dep i) (dep (app r y)) = max (max (1 + dep i) (dep r)) (dep y)
    rw [dep_app r y]
    omega
theorem sz_app : ∀ x y : Its, sz (app x y) = sz x + sz y
  | .nil, y => by
    show sz y = 0 + sz y
    omega
  | .pass w n r, y => by
    show _ + sz (app r y) = _ + sz r + sz y
    rw [sz_app r y]
    omega
  | .grp k i r, y => by
    show _ + sz (app r y) = _ + sz r + sz y
    rw [sz_app r y]
    omega
theorem app_ne {x y : Its} (h : y ≠ .nil) : app x y ≠ .nil := by
  cases x with
  | nil => exact h
  | pass w n r => exact fun z => by cases z
  | grp k i r => exact fun z => by cases z
theorem len_ds : ∀ x : Its, (ds x).length ≤ sz x
  | .nil => Nat.le_refl _
  | .pass w n r => by
    have := len_ds r
    simp only [ds, sz, List.length_cons]
    omega
  | .grp k i r => by
    have := len_ds r
    simp only [ds, sz, List.length_cons]
    omega
def Sb : Nat → Nat
  | 0 => 120
  | d + 1 => 3 * (40 + Sb d)
structure PW (w : List Nat) : Prop where
  pi : inP w = true
  pa : Asc w
  pw : ∀ c ∈ w, isW c = true
  pl : w.length ≤ 13
theorem pw_of {x : D} (h : x ∈ gs_PASSES.map D.str) : ∃ w, x = .str (strOf w) ∧ PW w := by
  obtain ⟨y, hy, rfl⟩ := List.mem_map.mp h
  have := (show gs_PASSES.all (fun y => inP y.cps.toList && (y.cps.toList.all (· < 128) && (y.cps.toList.all isW && decide (y.cps.toList.length ≤ 13)))) = true by decide +kernel)
  rw [List.all_eq_true] at this
  have h1 := this y hy
  simp only [Bool.and_eq_true, decide_eq_true_eq] at h1
  obtain ⟨i1, i2, i3, i4⟩ := h1
  refine ⟨y.cps.toList, ?_, i1, ascS _ i2, ?_, i4⟩
  · show D.str y = D.str (SX.S y.cps.toList)
    rw [SX.S_tl]
  · rw [List.all_eq_true] at i3
    exact i3
section
variable {a b : Nat}
abbrev E7 (a d l : Nat) (o3 o4 o5 o6 : Option D) : Ev := [some (.ref a), some (.int (d : Int)), some (.ref l), o3, o4, o5, o6]
/-- one more -/
structure Tn (a b l d : Nat) (s : S) (acc : Its) (o : O) : Prop where
  ex : ∃ x s' o4 o5 o6 o3, o = .nx (E7 a d l o3 o4 o5 o6) s' ∧ s'[l]? = some (C.lst (ds (app acc x))) ∧ ok x ∧ x ≠ .nil ∧ dep x ≤ d ∧ sz x ≤ (if d = 0 then 40 else 40 + Sb (d - 1)) ∧ DrawOk a b s' ∧ ∀ (r : Nat) (c : C), r ≠ a → r ≠ l → s[r]? = some c → s'[r]? = some c
theorem put_one {d l : Nat} {s s1 : S} {acc x : Its} {xd : D} (hl : l ≠ a) (hlb : l ≠ b) (h : DrawOk a b s) (hs : s[l]? = some (C.lst (ds acc))) (hz : sz acc ≤ 100000) (hx : ds x = [xd]) (h1 : Dw a b s s1) :
    oApp (.ref l) [xd] s1 = .ok .non (s1.set l (C.lst (ds (app acc x)))) ∧ (s1.set l (C.lst (ds (app acc x))))[l]? = some (C.lst (ds (app acc x))) ∧ DrawOk a b (s1.set l (C.lst (ds (app acc x)))) ∧ ∀ (r : Nat) (c : C), r ≠ a → r ≠ l → s[r]? = some c → (s1.set l (C.lst (ds (app acc x))))[r]? = some c := by
  have k1 := h1.keep _ _ hl hs
  have hle := len_ds acc
  refine ⟨?_, set_at k1, h1.ok.put hl hlb, fun r c n1 n2 z => ?_⟩
  · rw [oApp_ok k1 (by rw [sizeL]; omega), ds_app, hx]
  · rw [set_get, if_neg (Ne.symm n2)]
    exact h1.keep r c n1 z
noncomputable def turnP : B := (bSeq (sSet 5 (mOp oIx (mCall F__law_words mNil) (takeM 26)))
  (bSeq (sSet 6 (mOp oIx (mLst (mCons (mNeg (mC (.int 1))) (mCons (mC (.int 0)) (mCons (mC (.int 10000)) (mCons (takeM 10001) mNil))))) (takeM 4)))
  (sExpr (mMeth isLst oApp (mVar 2) (mCons (mTup (mCons (mC (.str ("pass" : Str))) (mCons (mVar 5) (mCons (mVar 6) mNil)))) mNil)))))
theorem turnP_ok {d l : Nat} {s s0 : S} {acc : Its} {o3 o4 o5 o6 : Option D} (hl : l ≠ a) (hlb : l ≠ b) (h0 : DrawOk a b s0) (hs : s0[l]? = some (C.lst (ds acc))) (hz : sz acc ≤ 100000) (h : Dw a b s0 s) : Tn a b l d s0 acc (turnP (E7 a d l o3 o4 o5 o6) s) := by
  unfold turnP
  obtain ⟨k, t, e1, q1, hk⟩ := words_ok s
  have h1 : Dw a b s0 t := h.pre q1
  obtain ⟨f, hf, s2, e2, h2⟩ := take_e (ε := E7 a d l o3 o4 o5 o6) (m := 26) h1.ok rfl (by decide) (by decide)
  have hka : k ≠ a := fun z => by
    obtain ⟨cells, i, v, seed, g1, g2, _⟩ := h1.ok.ex
    rw [z, g1] at hk
    have hk := C.lst.inj (Option.some.inj hk)
    have hk := congrArg List.length hk
    rw [show (gs_PASSES.map D.str).length = 26 from by decide +kernel] at hk
    cases hk
  have hk2 := h2.keep _ _ hka hk
  have hlen : (gs_PASSES.map D.str).length = 26 := by decide +kernel
  obtain ⟨x, hx, e3⟩ := pick (s := s2) (i := (f : Int)) (by omega) (by rw [hlen]; omega) hk2
  obtain ⟨w, rfl, pw⟩ := pw_of hx
  have h3 := h1.trans h2
  rw [e_seq, e_set, e_op, e_call, e_nil, rbind_ok, e1, rbind_ok, e2, rbind_ok, e3, rto_ok, obind_nx]
  rw [show (E7 a d l o3 o4 o5 o6).set 5 (some (.str (strOf w))) = E7 a d l o3 o4 (some (.str (strOf w))) o6 from rfl]
  obtain ⟨g, hg, s4, e4, h4⟩ := take_e (ε := E7 a d l o3 o4 (some (.str (strOf w))) o6) (m := 10001) h3.ok rfl (by decide) (by decide)
  have e5 : (mCons (mNeg (mC (.int 1))) (mCons (mC (.int 0)) (mCons (mC (.int 10000)) (mCons (takeM 10001) mNil)))) (E7 a d l o3 o4 (some (.str (strOf w))) o6) s2 = .ok [.int (-1), .int 0, .int 10000, .int (g : Int)] s4 := by
    rw [e_cons, e_neg, e_c, rbind_ok, rbind_ok, e_cons, e_c, rbind_ok, e_cons, e_c, rbind_ok, e_cons, e4, rbind_ok, e_nil, rbind_ok, rbind_ok, rbind_ok, rbind_ok]
  obtain ⟨y, s5, hy, e6, h5⟩ := pick_e (ε := E7 a d l o3 o4 (some (.str (strOf w))) o6) h3.ok rfl e5 h4 (Nat.succ_pos _) (show (4 : Nat) ≤ 100 by decide)
  have e6 : mOp oIx (mLst (mCons (mNeg (mC (.int 1))) (mCons (mC (.int 0)) (mCons (mC (.int 10000)) (mCons (takeM 10001) mNil))))) (takeM 4) (E7 a d l o3 o4 (some (.str (strOf w))) o6) s2 = .ok y s5 := e6
  obtain ⟨n, rfl, hn⟩ : ∃ n : Option Nat, y = .int (am n) ∧ ∀ k, n = some k → k ≤ 10000 := by
    simp only [List.mem_cons, List.not_mem_nil, or_false] at hy
    rcases hy with rfl | rfl | rfl | rfl
    · exact ⟨none, rfl, fun k z => by cases z⟩
    · exact ⟨some 0, rfl, fun k z => by cases z; omega⟩
    · exact ⟨some 10000, rfl, fun k z => by cases z; omega⟩
    · exact ⟨some g, rfl, fun k z => by cases z; omega⟩
  rw [e_seq, e_set, e6, rto_ok, obind_nx]
  rw [show (E7 a d l o3 o4 (some (.str (strOf w))) o6).set 6 (some (.int (am n))) = E7 a d l o3 o4 (some (.str (strOf w))) (some (.int (am n))) from rfl]
  have h6 := h3.trans h5
  obtain ⟨p1, p2, p3, p4⟩ := put_one (x := .pass w n .nil) (d := d) hl hlb h0 hs hz rfl h6
  have hsl := h6.keep _ _ hl hs
  rw [e_expr, e_meth, mVar_ok (d := .ref l) rfl, rbind_ok, if_pos (isLst_ok hsl), e_cons, e_tup, e_cons, e_c, rbind_ok, e_cons, mVar_ok (d := .str (strOf w)) rfl, rbind_ok, e_cons, mVar_ok (d := .int (am n)) rfl, rbind_ok, e_nil, rbind_ok, rbind_ok, rbind_ok, rbind_ok, if_pos (show ([D.str ("pass" : Str), .str (strOf w), .int (am n)] : List D).length ≤ sizeLine from three_le), rbind_ok, e_nil, rbind_ok, rbind_ok, p1, rto_ok]
  refine ⟨.pass w n .nil, _, _, _, _, _, rfl, p2, ⟨⟨pw.pi, pw.pa, pw.pw⟩, hn, trivial⟩, (fun z => by cases z), ?_, ?_, p3, p4⟩
  · show dep Its.nil ≤ d
    exact Nat.zero_le _
  · have : (shP w n).length ≤ 13 + 1 + 5 := by
      cases n with
      | none =>
        have := pw.pl
        show w.length ≤ _
        omega
      | some m =>
        have hm5 : (TL.numL m).length ≤ 5 := TL.numL_len (by decide) (by have := hn m rfl; omega)
        have := pw.pl
        simp only [shP, List.length_append, List.length_singleton]
        omega
    show (shP w n).length + 2 + sz Its.nil ≤ _
    have : sz Its.nil = 0 := rfl
    split <;> omega
/-- items one level deeper -/
def Dn (F : List D → S → R D) (a b d : Nat) : Prop := ∀ s, DrawOk a b s → ∃ i s', F [.ref a, .int (d : Int)] s = .ok (.tup (ds i)) s' ∧ ok i ∧ i ≠ .nil ∧ dep i ≤ d ∧ sz i ≤ Sb d ∧ Dw a b s s'
noncomputable def turnU (F : List D → S → R D) : B := (sExpr (mMeth isLst oApp (mVar 2) (mCons (mTup (mCons (mC (.str ("until" : Str))) (mCons (mOp oIx (mLst (mCons (mC (.int 1)) (mCons (mC (.int 100)) (mCons (mOp oAdd (mC (.int 1)) (takeM 100)) mNil)))) (takeM 3)) (mCons (mCall F (mCons (mVar 0) (mCons (mOp oSub (mVar 1) (mC (.int 1))) mNil))) mNil)))) mNil)))
noncomputable def turnO (F : List D → S → R D) : B := (sExpr (mMeth isLst oApp (mVar 2) (mCons (mTup (mCons (mC (.str ("on" : Str))) (mCons (mCall F__law_name (mCons (mVar 0) mNil)) (mCons (mCall F (mCons (mVar 0) (mCons (mOp oSub (mVar 1) (mC (.int 1))) mNil))) mNil)))) mNil)))
theorem in_items {F : List D → S → R D} {d l : Nat} {s : S} {o3 o4 o5 o6 : Option D} (hF : Dn F a b d) (h : DrawOk a b s) : ∃ i s', mCall F (mCons (mVar 0) (mCons (mOp oSub (mVar 1) (mC (.int 1))) mNil)) (E7 a (d + 1) l o3 o4 o5 o6) s = .ok (.tup (ds i)) s' ∧ ok i ∧ i ≠ .nil ∧ dep i ≤ d ∧ sz i ≤ Sb d ∧ Dw a b s s' := by
  obtain ⟨i, s', e, r⟩ := hF s h
  refine ⟨i, s', ?_, r⟩
  rw [e_call, e_cons, mVar_ok (d := .ref a) rfl, rbind_ok, e_cons, e_op, mVar_ok (d := .int ((d + 1 : Nat) : Int)) rfl, rbind_ok, e_c, rbind_ok, oSub_int, rbind_ok, e_nil, rbind_ok, rbind_ok, rbind_ok, show ((d + 1 : Nat) : Int) - 1 = (d : Int) by omega, e]
theorem turnU_ok {F : List D → S → R D} {d l : Nat} {s s0 : S} {acc : Its} {o3 o4 o5 o6 : Option D} (hF : Dn F a b d) (hl : l ≠ a) (hlb : l ≠ b) (h0 : DrawOk a b s0) (hs : s0[l]? = some (C.lst (ds acc))) (hz : sz acc ≤ 100000) (h : Dw a b s0 s) : Tn a b l (d + 1) s0 acc (turnU F (E7 a (d + 1) l o3 o4 o5 o6) s) := by
  unfold turnU
  obtain ⟨g, hg, s4, e4, h4⟩ := take_e (ε := E7 a (d + 1) l o3 o4 o5 o6) (m := 100) h.ok rfl (by decide) (by decide)
  have e5 : (mCons (mC (.int 1)) (mCons (mC (.int 100)) (mCons (mOp oAdd (mC (.int 1)) (takeM 100)) mNil))) (E7 a (d + 1) l o3 o4 o5 o6) s = .ok [.int 1, .int 100, .int (1 + (g : Int))] s4 := by
    rw [e_cons, e_c, rbind_ok, e_cons, e_c, rbind_ok, e_cons, e_op, e_c, rbind_ok, e4, rbind_ok, oAdd_int, rbind_ok, e_nil, rbind_ok, rbind_ok, rbind_ok]
  obtain ⟨y, s5, hy, e6, h5⟩ := pick_e (ε := E7 a (d + 1) l o3 o4 o5 o6) h.ok rfl e5 h4 (Nat.succ_pos _) (show (3 : Nat) ≤ 100 by decide)
  have e6 : mOp oIx (mLst (mCons (mC (.int 1)) (mCons (mC (.int 100)) (mCons (mOp oAdd (mC (.int 1)) (takeM 100)) mNil)))) (takeM 3) (E7 a (d + 1) l o3 o4 o5 o6) s = .ok y s5 := e6
  obtain ⟨n, rfl, hn⟩ : ∃ n : Nat, y = .int (n : Int) ∧ 1 ≤ n ∧ n ≤ 100 := by
    simp only [List.mem_cons, List.not_mem_nil, or_false] at hy
    rcases hy with rfl | rfl | rfl
    · exact ⟨1, rfl, by omega⟩
    · exact ⟨100, rfl, by omega⟩
    · exact ⟨1 + g, by congr 1, by omega⟩
  have h6 := h.trans h5
  obtain ⟨i, s7, e7, i1, i2, i3, i4, h7⟩ := in_items (l := l) (o3 := o3) (o4 := o4) (o5 := o5) (o6 := o6) hF h6.ok
  have h8 := h6.trans h7
  obtain ⟨p1, p2, p3, p4⟩ := put_one (x := .grp (.til n) i .nil) (d := d) hl hlb h0 hs hz rfl h8
  have hsl := h.keep _ _ hl hs
  rw [e_expr, e_meth, mVar_ok (d := .ref l) rfl, rbind_ok, if_pos (isLst_ok hsl), e_cons, e_tup, e_cons, e_c, rbind_ok, e_cons, e6, rbind_ok, e_cons, e7, rbind_ok, e_nil, rbind_ok, rbind_ok, rbind_ok, rbind_ok, if_pos (show ([D.str ("until" : Str), .int (n : Int), .tup (ds i)] : List D).length ≤ sizeLine from three_le), rbind_ok, e_nil, rbind_ok, rbind_ok]
  have p1 : oApp (.ref l) [.tup [D.str ("until" : Str), .int (n : Int), .tup (ds i)]] s7 = _ := p1
  rw [p1, rto_ok]
  refine ⟨.grp (.til n) i .nil, _, _, _, _, _, rfl, p2, ⟨hn, i2, i1, trivial⟩, (fun z => by cases z), ?_, ?_, p3, p4⟩
  · show max (1 + dep i) (dep Its.nil) ≤ d + 1
    have : dep Its.nil = 0 := rfl
    omega
  · have hm5 : (TL.numL n).length ≤ 3 := TL.numL_len (by decide) (by omega)
    show wU.length + (TL.numL n).length + 6 + sz i + sz Its.nil ≤ _
    have : sz Its.nil = 0 := rfl
    have : wU.length = 5 := rfl
    rw [if_neg (by omega), show d + 1 - 1 = d by omega]
    omega
theorem turnO_ok {F : List D → S → R D} {d l : Nat} {s s0 : S} {acc : Its} {o3 o4 o5 o6 : Option D} (hF : Dn F a b d) (hl : l ≠ a) (hlb : l ≠ b) (h0 : DrawOk a b s0) (hs : s0[l]? = some (C.lst (ds acc))) (hz : sz acc ≤ 100000) (h : Dw a b s0 s) : Tn a b l (d + 1) s0 acc (turnO F (E7 a (d + 1) l o3 o4 o5 o6) s) := by
  unfold turnO
  obtain ⟨x, s5, e6, hx, hx2, h5⟩ := name_draw h.ok
  have h6 := h.trans h5
  obtain ⟨i, s7, e7, i1, i2, i3, i4, h7⟩ := in_items (l := l) (o3 := o3) (o4 := o4) (o5 := o5) (o6 := o6) hF h6.ok
  have h8 := h6.trans h7
  obtain ⟨p1, p2, p3, p4⟩ := put_one (x := .grp (.on x) i .nil) (d := d) hl hlb h0 hs hz rfl h8
  have hsl := h.keep _ _ hl hs
  rw [e_expr, e_meth, mVar_ok (d := .ref l) rfl, rbind_ok, if_pos (isLst_ok hsl), e_cons, e_tup, e_cons, e_c, rbind_ok, e_cons, e_call, e_cons, mVar_ok (d := .ref a) rfl, rbind_ok, e_nil, rbind_ok, rbind_ok, e6, rbind_ok, e_cons, e7, rbind_ok, e_nil, rbind_ok, rbind_ok, rbind_ok, rbind_ok, if_pos (show ([D.str ("on" : Str), .str (strOf x), .tup (ds i)] : List D).length ≤ sizeLine from three_le), rbind_ok, e_nil, rbind_ok, rbind_ok]
  have p1 : oApp (.ref l) [.tup [D.str ("on" : Str), .str (strOf x), .tup (ds i)]] s7 = _ := p1
  rw [p1, rto_ok]
  refine ⟨.grp (.on x) i .nil, _, _, _, _, _, rfl, p2, ⟨hx, i2, i1, trivial⟩, (fun z => by cases z), ?_, ?_, p3, p4⟩
  · show max (1 + dep i) (dep Its.nil) ≤ d + 1
    have : dep Its.nil = 0 := rfl
    omega
  · show wO.length + x.length + 6 + sz i + sz Its.nil ≤ _
    have : sz Its.nil = 0 := rfl
    have : wO.length = 2 := rfl
    rw [if_neg (by omega), show d + 1 - 1 = d by omega]
    omega
theorem items_turn {F : List D → S → R D} {d l : Nat} {s : S} {acc : Its} {o3 o4 o5 o6 : Option D} (hF : ∀ e, d = e + 1 → Dn F a b e) (hl : l ≠ a) (hlb : l ≠ b) (h0 : DrawOk a b s) (hs : s[l]? = some (C.lst (ds acc))) (hz : sz acc ≤ 100000) : Tn a b l d s acc (W__law_items1 F (E7 a d l o3 o4 o5 o6) s) := by
  have eW : W__law_items1 F = (bSeq (sSet 4 (takeM 6)) (sIf (mOr (mOp oEq (mVar 1) (mC (.int 0))) (mOp oLt (mVar 4) (mC (.int 4)))) turnP (sIf (mOp oEq (mVar 4) (mC (.int 4))) (turnU F) (turnO F)))) := rfl
  obtain ⟨f, hf, s1, e1, h1⟩ := take_e (ε := E7 a d l o3 o4 o5 o6) (m := 6) h0 rfl (by decide) (by decide)
  rw [eW, e_seq, e_set, e1, rto_ok, obind_nx]
  rw [show (E7 a d l o3 o4 o5 o6).set 4 (some (.int (f : Int))) = E7 a d l o3 (some (.int (f : Int))) o5 o6 from rfl]
  rw [e_sif]
  have ec : (mOr (mOp oEq (mVar 1) (mC (.int 0))) (mOp oLt (mVar 4) (mC (.int 4)))) (E7 a d l o3 (some (.int (f : Int))) o5 o6) s1 = .ok (.bl (decide (d = 0) || decide (f < 4))) s1 := by
    by_cases c : d = 0
    · subst c
      simp only [e_or, e_op, e_var, List.getElem?_cons_zero, List.getElem?_cons_succ, rbind_ok, e_c, oEq_int]
      rfl
    · have : ¬ (d : Int) = 0 := by omega
      by_cases c2 : f < 4
      · have c3 : (f : Int) < 4 := by omega
        simp only [e_or, e_op, e_var, List.getElem?_cons_zero, List.getElem?_cons_succ, rbind_ok, e_c, oEq_int, this, c, decide_false, Bool.false_or, oLt_int, c2, c3, decide_true]
      · have c3 : ¬ (f : Int) < 4 := by omega
        simp only [e_or, e_op, e_var, List.getElem?_cons_zero, List.getElem?_cons_succ, rbind_ok, e_c, oEq_int, this, c, decide_false, Bool.false_or, oLt_int, c2, c3]
  rw [ec, rto_ok]
  cases hc : (decide (d = 0) || decide (f < 4)) with
  | true => exact turnP_ok hl hlb h0 hs hz h1
  | false =>
    obtain ⟨e, rfl⟩ : ∃ e, d = e + 1 := ⟨d - 1, by
      simp at hc
      omega⟩
    rw [ifK_f, e_sif, e_op, mVar_ok (d := .int (f : Int)) rfl, rbind_ok, e_c, rbind_ok, oEq_int, rto_ok]
    cases decide ((f : Int) = 4) with
    | true => exact turnU_ok (hF e rfl) hl hlb h0 hs hz h1
    | false => exact turnO_ok (hF e rfl) hl hlb h0 hs hz h1
theorem Sb_le {d : Nat} (h : d ≤ 3) : Sb d ≤ 4800 := by
  have : d = 0 ∨ d = 1 ∨ d = 2 ∨ d = 3 := by omega
  rcases this with rfl | rfl | rfl | rfl <;> decide
theorem items_lp {F : List D → S → R D} {d l : Nat} (hd : d ≤ 3) (hF : ∀ e, d = e + 1 → Dn F a b e) (hl : l ≠ a) (hlb : l ≠ b) : ∀ (n k : Nat) (acc : Its) (o3 o4 o5 o6 : Option D) (s : S), n ≤ 3 → DrawOk a b s → s[l]? = some (C.lst (ds acc)) → sz acc + n * 5000 ≤ 50000 → ok acc → dep acc ≤ d →
    ∃ acc' s' o3' o4' o5' o6', loop none (gN 3) (W__law_items1 F) (rngL (k : Int) n) (E7 a d l o3 o4 o5 o6) s = .nx (E7 a d l o3' o4' o5' o6') s' ∧ s'[l]? = some (C.lst (ds acc')) ∧ ok acc' ∧ (1 ≤ n ∨ acc ≠ .nil → acc' ≠ .nil) ∧ dep acc' ≤ d ∧ sz acc' ≤ sz acc + n * (if d = 0 then 40 else 40 + Sb (d - 1)) ∧ DrawOk a b s' ∧ ∀ (r : Nat) (c : C), r ≠ a → r ≠ l → s[r]? = some c → s'[r]? = some c
  | 0, k, acc, o3, o4, o5, o6, s, _, h, hs, hz, ho, hdp => ⟨acc, s, o3, o4, o5, o6, loop_nil (g := none) trivial, hs, ho, fun z => z.elim (fun z => by omega) id, hdp, by omega, h, fun _ _ _ _ z => z⟩
  | n + 1, k, acc, o3, o4, o5, o6, s, hn, h, hs, hz, ho, hdp => by
    obtain ⟨x, s1, q4, q5, q6, q3, e1, x1, x2, x3, x4, x5, x6, x7⟩ := (items_turn (o3 := some (.int (k : Int))) (o4 := o4) (o5 := o5) (o6 := o6) hF hl hlb h hs (by omega)).ex
    have hb : (if d = 0 then 40 else 40 + Sb (d - 1)) ≤ 4840 := by
      split
      · omega
      · have := Sb_le (d := d - 1) (by omega)
        omega
    have eL : rngL (k : Int) (n + 1) = .int (k : Int) :: rngL ((k + 1 : Nat) : Int) n := by
      show D.int (k : Int) :: rngL ((k : Int) + 1) n = _
      rw [show (k : Int) + 1 = ((k + 1 : Nat) : Int) by omega]
    obtain ⟨acc', s', r3, r4, r5, r6, e2, y1, y2, y3, y4, y5, y6, y7⟩ := items_lp hd hF hl hlb n (k + 1) (app acc x) q3 q4 q5 q6 s1 (by omega) x6 x1 (by rw [sz_app]; omega) (ok_app ho x2) (by rw [dep_app]; omega)
    refine ⟨acc', s', r3, r4, r5, r6, ?_, y1, y2, fun _ => y3 (.inr (app_ne x3)), y4, ?_, y6, fun r c n1 n2 z => y7 r c n1 n2 (x7 r c n1 n2 z)⟩
    · rw [eL, loop_cons (g := none) trivial (gN_eq _ _ _)]
      show (match W__law_items1 F (E7 a d l (some (.int (k : Int))) o4 o5 o6) s with
        | .nx ε2 s2 => loop none (gN 3) (W__law_items1 F) (rngL ((k + 1 : Nat) : Int) n) ε2 s2
        | .ct ε2 s2 => loop none (gN 3) (W__law_items1 F) (rngL ((k + 1 : Nat) : Int) n) ε2 s2
        | .bk ε2 s2 => .nx ε2 s2
        | .rt d s2 => .rt d s2
        | .ex c f d s2 => .ex c f d s2
        | .bad => .bad) = _
      rw [e1]
      exact e2
    · rw [sz_app] at y5
      have : (n + 1) * (if d = 0 then 40 else 40 + Sb (d - 1)) = n * (if d = 0 then 40 else 40 + Sb (d - 1)) + (if d = 0 then 40 else 40 + Sb (d - 1)) := by rw [Nat.succ_mul]
      omega
end
end G83
end Mi

namespace Mi
namespace G83
open PySem PySem.Spec PyProof.Rows L2

section
variable {a b : Nat}
theorem items_draw : ∀ (j d : Nat), d < j → d ≤ 3 → Dn (F__law_items j) a b d
  | 0, d, h, _ => by omega
  | j + 1, d, hj, hd => fun s h => by
    have hF : ∀ e, d = e + 1 → Dn (F__law_items j) a b e := fun e he => items_draw j e (by omega) (by omega)
    have e0 : F__law_items (j + 1) [.ref a, .int (d : Int)] s = runO (B__law_items (F__law_items j) [some (.ref a), some (.int (d : Int)), none, none, none, none, none] s) := by
      show runF 2 7 _ _ _ = _
      rw [runF_eq (n := 2) rfl]
      rfl
    have hla := h.lt
    have hlb := h.ltb
    have h1 : Dw a b s (s ++ [C.lst []]) := Dw.of h Pre.app
    obtain ⟨f, hf, s2, e2, h2⟩ := take_e (ε := E7 a d s.length none none none none) (m := 3) h1.ok rfl (by decide) (by decide)
    have hs : s2[s.length]? = some (C.lst (ds .nil)) := h2.keep _ _ (by omega) app_last
    obtain ⟨i, s3, r3, r4, r5, r6, e3, y1, y2, y3, y4, y5, y6, y7⟩ := items_lp hd hF (show s.length ≠ a by omega) (show s.length ≠ b by omega) (1 + f) 0 .nil none none none none s2 (by omega) h2.ok hs (by show 0 + _ ≤ _; omega) trivial (Nat.zero_le _)
    refine ⟨i, s3, ?_, y2, y3 (.inl (by omega)), y4, ?_, ?_, y6⟩
    · rw [e0]
      have eB : B__law_items (F__law_items j) = (bSeq (sSet 2 (mLst mNil)) (bSeq (sFor (iRng1 (mCons (mOp oAdd (mC (.int 1)) (takeM 3)) mNil)) (gN 3) (W__law_items1 (F__law_items j))) (sRet (mCall cTuple (mCons (mVar 2) mNil))))) := rfl
      rw [eB, e_seq, e_set, e_lst, e_nil, rbind_ok, if_pos (show ([] : List D).length ≤ sizeLine from Nat.zero_le _), rto_ok, obind_nx]
      rw [show ([some (.ref a), some (.int (d : Int)), none, none, none, none, none] : Ev).set 2 (some (.ref s.length)) = E7 a d s.length none none none none from rfl]
      rw [e_seq, e_for, e_rng1, e_cons, e_op, e_c, rbind_ok, e2, rbind_ok, oAdd_int, rbind_ok, e_nil, rbind_ok, rbind_ok, e_rngK1, rto_ok, show ((1 : Int) + (f : Int)).toNat = 1 + f by omega]
      have e3 : loop none (gN 3) (W__law_items1 (F__law_items j)) (rngL 0 (1 + f)) (E7 a d s.length none none none none) s2 = _ := e3
      show runO ((loop none (gN 3) (W__law_items1 (F__law_items j)) (rngL 0 (1 + f)) (E7 a d s.length none none none none) s2).bind _) = _
      rw [e3, obind_nx, e_ret, e_call, e_cons, mVar_ok (d := .ref s.length) rfl, rbind_ok, e_nil, rbind_ok, rbind_ok, cTuple_l y1, rto_ok, runO_rt]
    · have hz : sz Its.nil = 0 := rfl
      rw [hz] at y5
      cases d with
      | zero =>
        rw [if_pos rfl] at y5
        show sz i ≤ 120
        omega
      | succ d =>
        rw [if_neg (by omega), show d + 1 - 1 = d by omega] at y5
        show sz i ≤ 3 * (40 + Sb d)
        have : (1 + f) * (40 + Sb d) ≤ 3 * (40 + Sb d) := Nat.mul_le_mul_right _ (by omega)
        omega
    · intro r c hr z
      have hrl := lt_of_get z
      exact y7 r c hr (by omega) (h2.keep r c hr (h1.keep r c hr z))

/-! ### bent texts -/
def Tx' (e : M) (ε : Ev) (s : S) (n : Nat) : Prop := ∃ u, e ε s = .ok (.str (strOf u)) s ∧ Asc u ∧ u.length ≤ n
theorem Tx'.add {e1 e2 : M} {ε : Ev} {s : S} {m n : Nat} (h1 : Tx' e1 ε s m) (h2 : Tx' e2 ε s n) (h : m + n ≤ 5000000) : Tx' (mOp oAdd e1 e2) ε s (m + n) := by
  obtain ⟨u, a1, a2, a3⟩ := h1
  obtain ⟨v, b1, b2, b3⟩ := h2
  exact ⟨u ++ v, by rw [e_op, a1, rbind_ok, b1, rbind_ok, add_s (by omega)], asc_app a2 b2, by rw [List.length_append]; omega⟩
theorem Tx'.c {w : List Nat} {ε : Ev} {s : S} (h : Asc w) : Tx' (mC (.str (strOf w))) ε s w.length := ⟨w, rfl, h, Nat.le_refl _⟩
theorem Tx'.v {w : List Nat} {i : Nat} {ε : Ev} {s : S} (h : ε[i]? = some (some (.str (strOf w)))) (ha : Asc w) : Tx' (mVar i) ε s w.length := ⟨w, mVar_ok h, ha, Nat.le_refl _⟩
theorem sl_any {t : List Nat} (ha : Asc t) (hl : t.length ≤ 5000000) (x y : Option Int) (s : S) : ∃ u, oSl (.str (strOf t)) x y s = .ok (.str (strOf u)) s ∧ Asc u ∧ u.length ≤ t.length := by
  refine ⟨_, sl_o hl s, fun c h => ha c (List.mem_of_mem_drop (List.mem_of_mem_take h)), ?_⟩
  rw [List.length_take, List.length_drop]
  omega
theorem Tx'.to {t : List Nat} {ε : Ev} {s : S} {X : M} {i : Int} {k : Nat} (ht : ε[k]? = some (some (.str (strOf t)))) (ha : Asc t) (hl : t.length ≤ 5000000) (h : X ε s = .ok (.int i) s) : Tx' (mSl (mVar k) pNo (pAt X)) ε s t.length := by
  obtain ⟨u, e, r⟩ := sl_any ha hl none (some i) s
  exact ⟨u, by rw [e_sl, mVar_ok ht, rbind_ok, e_pNo, rbind_ok, e_pAt, h, rbind_ok, rbind_ok, e], r⟩
theorem Tx'.from {t : List Nat} {ε : Ev} {s : S} {X : M} {i : Int} {k : Nat} (ht : ε[k]? = some (some (.str (strOf t)))) (ha : Asc t) (hl : t.length ≤ 5000000) (h : X ε s = .ok (.int i) s) : Tx' (mSl (mVar k) (pAt X) pNo) ε s t.length := by
  obtain ⟨u, e, r⟩ := sl_any ha hl (some i) none s
  exact ⟨u, by rw [e_sl, mVar_ok ht, rbind_ok, e_pAt, h, rbind_ok, rbind_ok, e_pNo, rbind_ok, e], r⟩
def BnOk (o : O) (a b : Nat) (s : S) (n : Nat) : Prop := ∃ u s', o = .rt (.str (strOf u)) s' ∧ Asc u ∧ u.length ≤ n ∧ Dw a b s s'
theorem bn_ret {e : M} {ε : Ev} {s s0 : S} {n m : Nat} (h : Tx' e ε s n) (hm : n ≤ m) (hd : Dw a b s0 s) : BnOk (sRet e ε s) a b s0 m := by
  obtain ⟨u, h1, h2, h3⟩ := h
  exact ⟨u, s, by rw [e_ret, h1, rto_ok], h2, by omega, hd⟩
theorem bn_if {e : M} {c : M} {ε : Ev} {s s0 : S} {n m : Nat} {R2 : B} {bb : Bool} (hc : c ε s = .ok (.bl bb) s) (h : bb = true → Tx' e ε s n) (hm : n ≤ m) (hd : Dw a b s0 s) (hr : bb = false → BnOk (R2 ε s) a b s0 m) : BnOk ((bSeq (sIf c (sRet e) bNil) R2) ε s) a b s0 m := by
  rw [e_seq, e_sif, hc, rto_ok]
  cases bb with
  | true =>
    obtain ⟨u, s', h1, h2⟩ := bn_ret (h rfl) hm hd
    refine ⟨u, s', ?_, h2⟩
    rw [ifK_t, h1, obind_rt]
  | false =>
    rw [ifK_f, e_bnil, obind_nx]
    exact hr rfl
end
end G83
end Mi

namespace Mi
namespace G83
open PySem PySem.Spec PyProof.Rows L2

section
variable {a b : Nat}
def bSigns : List Nat := [32, 59, 123, 125, 48, 97, 57, 95, 10, 33, 122, 45]
abbrev E9 (a : Nat) (t : List Nat) (o2 o3 o4 o5 o6 o7 o8 : Option D) : Ev := [some (.ref a), some (.str (strOf t)), o2, o3, o4, o5, o6, o7, o8]
def oth : List (List Nat) := [[116, 105, 100, 121], [116, 105, 100, 121, 32, 49, 48, 48, 48, 49], [105, 110, 108, 105, 110, 101, 32, 48, 48, 55], [111, 110], [117, 110, 116, 105, 108, 32, 48], [117, 110, 116, 105, 108, 32, 49, 48, 49, 32, 123, 116, 105, 100, 121, 125], [59], [111, 110, 32, 57, 97, 32, 123, 116, 105, 100, 121, 125], [116, 105, 100, 121, 120]]
noncomputable def othM : Ev → S → R (List D) := (mCons (mC (.str ("tidy" : Str))) (mCons (mC (.str ("tidy 10001" : Str))) (mCons (mC (.str ("inline 007" : Str))) (mCons (mC (.str ("on" : Str))) (mCons (mC (.str ("until 0" : Str))) (mCons (mC (.str ("until 101 {tidy}" : Str))) (mCons (mC (.str (";" : Str))) (mCons (mC (.str ("on 9a {tidy}" : Str))) (mCons (mC (.str ("tidyx" : Str))) mNil)))))))))
theorem othM_ok (ε : Ev) (s : S) : othM ε s = .ok (oth.map fun w => .str (strOf w)) s := rfl
noncomputable def szM : M := mOp oAdd (mOp oIx (mVar 6) (mC (.int 1))) (mVar 7)
noncomputable def bentT : B := (bSeq (sSet 5 (mCall F__law_tokens (mCons (mVar 1) mNil)))
  (bSeq (sSet 6 (mOp oIx (mVar 5) (mCall F__law_take (mCons (mVar 0) (mCons (mCall cLen (mCons (mVar 5) mNil)) mNil)))))
  (bSeq (sSet 7 (mCall cLen (mCons (mOp oIx (mVar 6) (mC (.int 0))) mNil)))
  (bSeq (sIf (mOp oEq (mVar 4) (mC (.int 4)))
  (sRet (mOp oAdd (mOp oAdd (mOp oAdd (mSl (mVar 1) pNo (pAt szM)) (mC (.str (strOf [32])))) (mOp oIx (mVar 6) (mC (.int 0)))) (mSl (mVar 1) (pAt szM) pNo)))
  bNil)
  (bSeq (sSet 8 (mLst othM))
  (sRet (mOp oAdd (mOp oAdd (mSl (mVar 1) pNo (pAt (mOp oIx (mVar 6) (mC (.int 1))))) (mOp oIx (mVar 8) (takeM 9))) (mSl (mVar 1) (pAt szM) pNo))))))))
theorem bent_eq : B__law_bent = (bSeq (sSet 2 (mCall F__law_take (mCons (mVar 0) (mCons (mOp oAdd (mCall cLen (mCons (mVar 1) mNil)) (mC (.int 1))) mNil))))
  (bSeq (sSet 3 (mOp oIx (mC (.str (strOf bSigns))) (takeM 12)))
  (bSeq (sSet 4 (takeM 6))
  (bSeq (sIf (mOp oEq (mVar 4) (mC (.int 0)))
  (sRet (mOp oAdd (mOp oAdd (mSl (mVar 1) pNo (pAt (mVar 2))) (mVar 3)) (mSl (mVar 1) (pAt (mVar 2)) pNo)))
  bNil)
  (bSeq (sIf (mOp oEq (mVar 4) (mC (.int 1)))
  (sRet (mOp oAdd (mOp oAdd (mSl (mVar 1) pNo (pAt (mVar 2))) (mVar 3)) (mSl (mVar 1) (pAt (mOp oAdd (mVar 2) (mC (.int 1)))) pNo)))
  bNil)
  (bSeq (sIf (mOp oEq (mVar 4) (mC (.int 2)))
  (sRet (mOp oAdd (mSl (mVar 1) pNo (pAt (mVar 2))) (mSl (mVar 1) (pAt (mOp oAdd (mVar 2) (mC (.int 1)))) pNo)))
  bNil)
  (bSeq (sIf (mOp oEq (mVar 4) (mC (.int 3)))
  (sRet (mSl (mVar 1) pNo (pAt (mVar 2))))
  bNil) bentT))))))) := rfl
theorem oth_mem {x : D} (h : x ∈ oth.map fun w => D.str (strOf w)) : ∃ w, x = .str (strOf w) ∧ Asc w ∧ w.length ≤ 20 := by
  obtain ⟨w, hw, rfl⟩ := List.mem_map.mp h
  have := (show oth.all (fun w => w.all (· < 128) && decide (w.length ≤ 20)) = true by decide)
  rw [List.all_eq_true] at this
  have h1 := this w hw
  simp only [Bool.and_eq_true, decide_eq_true_eq] at h1
  exact ⟨w, rfl, ascS _ h1.1, h1.2⟩
theorem bentT_ok {t : List Nat} (ha : Asc t) (hl : t.length ≤ 100000) {s s0 : S} (h : Dw a b s0 s) {o2 o3 : Option D} {c : Int} : BnOk (bentT (E9 a t o2 o3 (some (.int c)) none none none none) s) a b s0 (3 * t.length + 100) := by
  unfold bentT
  have eT := law_tokens_ok ha (show t.length ≤ 1000000 by omega) s
  have hq : LR s.length (lt [] 0 t) t.length (s ++ [C.lst ((lt [] 0 t ++ [([], t.length)]).map tokD)]) := app_last
  have h1 : Dw a b s0 (s ++ [C.lst ((lt [] 0 t ++ [([], t.length)]).map tokD)]) := h.pre Pre.app
  have hsl := h.ok.lt
  generalize (s ++ [C.lst ((lt [] 0 t ++ [([], t.length)]).map tokD)]) = s1 at eT hq h1
  have hT := tok_ok ha (show t.length ≤ 1000000 by omega)
  have hT2 := lt_len t 0 []
  have hwl : ∀ p, (wd (lt [] 0 t) p).length ≤ t.length := fun p => by
    by_cases hp : p < (lt [] 0 t).length
    · obtain ⟨u, hu, e, _⟩ := wd_mem hp
      rw [e]
      have := (lt_mem t [] 0 asc0 ha u hu).2.2
      rw [List.length_nil] at this
      omega
    · rw [wd_out (by omega)]
      exact Nat.zero_le _
  generalize lt [] 0 t = T at hq hT hT2 hwl
  have hlen : cLen [.ref s.length] s1 = .ok (.int ((T.length + 1 : Nat) : Int)) s1 := by
    rw [cLen_lst hq, List.length_map, List.length_append, List.length_singleton]
  rw [e_seq, e_set, e_call, e_cons, mVar_ok (d := .str (strOf t)) rfl, rbind_ok, e_nil, rbind_ok, rbind_ok, eT, rto_ok, obind_nx]
  rw [show (E9 a t o2 o3 (some (.int c)) none none none none).set 5 (some (.ref s.length)) = E9 a t o2 o3 (some (.int c)) (some (.ref s.length)) none none none from rfl]
  obtain ⟨f, s2, e2, f0, f1, h2⟩ := take_ok h1.ok (m := ((T.length + 1 : Nat) : Int)) (by omega) (by omega)
  obtain ⟨p, rfl, hp⟩ : ∃ p : Nat, f = (p : Int) ∧ p ≤ T.length := ⟨f.toNat, by omega, by omega⟩
  have hq2 : LR s.length T t.length s2 := h2.keep _ _ (by omega) hq
  have h3 := h1.trans h2
  rw [e_seq, e_set, e_op, mVar_ok (d := .ref s.length) rfl, rbind_ok, e_call, e_cons, mVar_ok (d := .ref a) rfl, rbind_ok, e_cons, e_call, e_cons, mVar_ok (d := .ref s.length) rfl, rbind_ok, e_nil, rbind_ok, rbind_ok, hlen, rbind_ok, e_nil, rbind_ok, rbind_ok, rbind_ok, e2, rbind_ok, ixT hq2 hp, rto_ok, obind_nx]
  rw [show (E9 a t o2 o3 (some (.int c)) (some (.ref s.length)) none none none).set 6 (some (tokD (wd T p, off T t.length p))) = E9 a t o2 o3 (some (.int c)) (some (.ref s.length)) (some (tokD (wd T p, off T t.length p))) none none from rfl]
  have hw := hwl p
  have hwa := hT.asc p
  generalize wd T p = w at hw hwa
  generalize off T t.length p = o
  rw [e_seq, e_set, e_call, e_cons, e_op, mVar_ok (d := tokD (w, o)) rfl, rbind_ok, e_c, rbind_ok, tok0, rbind_ok, e_nil, rbind_ok, rbind_ok, cLen_s (show w.length ≤ 5000000 by omega), rto_ok, obind_nx]
  rw [show (E9 a t o2 o3 (some (.int c)) (some (.ref s.length)) (some (tokD (w, o))) none none).set 7 (some (.int (w.length : Int))) = E9 a t o2 o3 (some (.int c)) (some (.ref s.length)) (some (tokD (w, o))) (some (.int (w.length : Int))) none from rfl]
  have eSz : ∀ (x8 : Option D) (u : S), szM (E9 a t o2 o3 (some (.int c)) (some (.ref s.length)) (some (tokD (w, o))) (some (.int (w.length : Int))) x8) u = .ok (.int ((o : Int) + (w.length : Int))) u := fun x8 u => by
    unfold szM
    rw [e_op, e_op, mVar_ok (d := tokD (w, o)) rfl, rbind_ok, e_c, rbind_ok, tok1, rbind_ok, mVar_ok (d := .int (w.length : Int)) rfl, rbind_ok, oAdd_int]
  have eO : ∀ (x8 : Option D) (u : S), (mOp oIx (mVar 6) (mC (.int 1))) (E9 a t o2 o3 (some (.int c)) (some (.ref s.length)) (some (tokD (w, o))) (some (.int (w.length : Int))) x8) u = .ok (.int (o : Int)) u := fun x8 u => by
    rw [e_op, mVar_ok (d := tokD (w, o)) rfl, rbind_ok, e_c, rbind_ok, tok1]
  refine bn_if (n := t.length + 1 + t.length + t.length) (bb := decide (c = 4)) ?_ (fun _ => ?_) (by omega) h3 (fun _ => ?_)
  · rw [e_op, mVar_ok (d := .int c) rfl, rbind_ok, e_c, rbind_ok, oEq_int]
  · have q1 : Tx' (mSl (mVar 1) pNo (pAt szM)) (E9 a t o2 o3 (some (.int c)) (some (.ref s.length)) (some (tokD (w, o))) (some (.int (w.length : Int))) none) s2 t.length := Tx'.to (t := t) rfl ha (by omega) (eSz none s2)
    have q2 : Tx' (mSl (mVar 1) (pAt szM) pNo) (E9 a t o2 o3 (some (.int c)) (some (.ref s.length)) (some (tokD (w, o))) (some (.int (w.length : Int))) none) s2 t.length := Tx'.from (t := t) rfl ha (by omega) (eSz none s2)
    have q3 : Tx' (mOp oIx (mVar 6) (mC (.int 0))) (E9 a t o2 o3 (some (.int c)) (some (.ref s.length)) (some (tokD (w, o))) (some (.int (w.length : Int))) none) s2 t.length := ⟨w, by rw [e_op, mVar_ok (d := tokD (w, o)) rfl, rbind_ok, e_c, rbind_ok, tok0], hwa, hw⟩
    exact Tx'.add (Tx'.add (Tx'.add q1 (Tx'.c (asc1 (by decide))) (by omega)) q3 (by omega)) q2 (by omega)
  · rw [e_seq, e_set, e_lst, othM_ok, rbind_ok, if_pos (show (oth.map fun w => D.str (strOf w)).length ≤ sizeLine from small_le (by decide)), rto_ok, obind_nx]
    rw [show (E9 a t o2 o3 (some (.int c)) (some (.ref s.length)) (some (tokD (w, o))) (some (.int (w.length : Int))) none).set 8 (some (.ref s2.length)) = E9 a t o2 o3 (some (.int c)) (some (.ref s.length)) (some (tokD (w, o))) (some (.int (w.length : Int))) (some (.ref s2.length)) from rfl]
    have h4 : Dw a b s0 (s2 ++ [C.lst (oth.map fun w => D.str (strOf w))]) := h3.pre Pre.app
    obtain ⟨g, hg, s5, e5, h5⟩ := take_e (ε := E9 a t o2 o3 (some (.int c)) (some (.ref s.length)) (some (tokD (w, o))) (some (.int (w.length : Int))) (some (.ref s2.length))) (m := 9) h4.ok rfl (by decide) (by decide)
    have hk : s5[s2.length]? = some (C.lst (oth.map fun w => D.str (strOf w))) := h5.keep _ _ (by have := h3.ok.lt; omega) app_last
    obtain ⟨x, hx, e6⟩ := pick (s := s5) (i := (g : Int)) (by omega) (by rw [show (oth.map fun w => D.str (strOf w)).length = 9 from rfl]; omega) hk
    obtain ⟨v, rfl, hv, hvl⟩ := oth_mem hx
    obtain ⟨u1, c1, c2, c3⟩ := Tx'.to (t := t) (k := 1) (ε := E9 a t o2 o3 (some (.int c)) (some (.ref s.length)) (some (tokD (w, o))) (some (.int (w.length : Int))) (some (.ref s2.length))) rfl ha (by omega) (eO (some (.ref s2.length)) (s2 ++ [C.lst (oth.map fun w => D.str (strOf w))]))
    obtain ⟨u2, d1, d2, d3⟩ := Tx'.from (t := t) (k := 1) (ε := E9 a t o2 o3 (some (.int c)) (some (.ref s.length)) (some (tokD (w, o))) (some (.int (w.length : Int))) (some (.ref s2.length))) rfl ha (by omega) (eSz (some (.ref s2.length)) s5)
    refine ⟨u1 ++ v ++ u2, s5, ?_, asc_app (asc_app c2 hv) d2, by simp only [List.length_append]; omega, h4.trans h5⟩
    rw [e_ret, e_op, e_op, c1, rbind_ok, e_op, mVar_ok (d := .ref s2.length) rfl, rbind_ok, e5, rbind_ok, e6, rbind_ok, add_s (by omega), rbind_ok, d1, rbind_ok, add_s (by rw [List.length_append]; omega), rto_ok]
theorem bent_ok {t : List Nat} (ha : Asc t) (hl : t.length ≤ 100000) {s : S} (h : DrawOk a b s) : ∃ u s', F__law_bent [.ref a, .str (strOf t)] s = .ok (.str (strOf u)) s' ∧ Asc u ∧ u.length ≤ 3 * t.length + 100 ∧ Dw a b s s' := by
  have e0 : F__law_bent [.ref a, .str (strOf t)] s = runO (B__law_bent (E9 a t none none none none none none none) s) := by
    unfold F__law_bent
    rw [runF_eq (n := 2) rfl]
    rfl
  have fin : ∀ o : O, BnOk o a b s (3 * t.length + 100) → ∃ u s', runO o = .ok (.str (strOf u)) s' ∧ Asc u ∧ u.length ≤ 3 * t.length + 100 ∧ Dw a b s s' := fun o z => by
    obtain ⟨u, s', rfl, r⟩ := z
    exact ⟨u, s', rfl, r⟩
  rw [e0, bent_eq]
  refine fin _ ?_
  obtain ⟨f, s1, e1, f0, f1, h1⟩ := take_ok h (m := (t.length : Int) + 1) (by omega) (by omega)
  rw [e_seq, e_set, e_call, e_cons, mVar_ok (d := .ref a) rfl, rbind_ok, e_cons, e_op, e_call, e_cons, mVar_ok (d := .str (strOf t)) rfl, rbind_ok, e_nil, rbind_ok, rbind_ok, cLen_s (show t.length ≤ 5000000 by omega), rbind_ok, e_c, rbind_ok, oAdd_int, rbind_ok, e_nil, rbind_ok, rbind_ok, rbind_ok, e1, rto_ok, obind_nx]
  rw [show (E9 a t none none none none none none none).set 2 (some (.int f)) = E9 a t (some (.int f)) none none none none none none from rfl]
  obtain ⟨g, hg, s2, e2, h2⟩ := take_e (ε := E9 a t (some (.int f)) none none none none none none) (m := 12) h1.ok rfl (by decide) (by decide)
  have hc : g < bSigns.length := by
    show g < 12
    omega
  have hsg : bSigns[g]? = some bSigns[g] := List.getElem?_eq_getElem hc
  have hsa : bSigns[g] < 128 := by
    have : Asc bSigns := ascS _ (by decide)
    exact this _ (List.getElem_mem hc)
  generalize bSigns[g] = c at hsg hsa
  rw [e_seq, e_set, e_op, e_c, rbind_ok, e2, rbind_ok, ix_s (show bSigns.length ≤ 5000000 by decide) hsg, rto_ok, obind_nx]
  rw [show (E9 a t (some (.int f)) none none none none none none).set 3 (some (.str (strOf [c]))) = E9 a t (some (.int f)) (some (.str (strOf [c]))) none none none none none from rfl]
  obtain ⟨j, hj, s3, e3, h3⟩ := take_e (ε := E9 a t (some (.int f)) (some (.str (strOf [c]))) none none none none none) (m := 6) (h1.trans h2).ok rfl (by decide) (by decide)
  rw [e_seq, e_set, e3, rto_ok, obind_nx]
  rw [show (E9 a t (some (.int f)) (some (.str (strOf [c]))) none none none none none).set 4 (some (.int (j : Int))) = E9 a t (some (.int f)) (some (.str (strOf [c]))) (some (.int (j : Int))) none none none none from rfl]
  have h4 : Dw a b s s3 := (h1.trans h2).trans h3
  have q1 : Tx' (mSl (mVar 1) pNo (pAt (mVar 2))) (E9 a t (some (.int f)) (some (.str (strOf [c]))) (some (.int (j : Int))) none none none none) s3 t.length := Tx'.to (t := t) (i := f) rfl ha (by omega) rfl
  have q2 : Tx' (mSl (mVar 1) (pAt (mVar 2)) pNo) (E9 a t (some (.int f)) (some (.str (strOf [c]))) (some (.int (j : Int))) none none none none) s3 t.length := Tx'.from (t := t) (i := f) rfl ha (by omega) rfl
  have q3 : Tx' (mSl (mVar 1) (pAt (mOp oAdd (mVar 2) (mC (.int 1)))) pNo) (E9 a t (some (.int f)) (some (.str (strOf [c]))) (some (.int (j : Int))) none none none none) s3 t.length := Tx'.from (t := t) (i := f + 1) rfl ha (by omega) rfl
  have q4 : Tx' (mVar 3) (E9 a t (some (.int f)) (some (.str (strOf [c]))) (some (.int (j : Int))) none none none none) s3 1 := Tx'.v (w := [c]) rfl (asc1 hsa)
  have ec : ∀ z : Int, mOp oEq (mVar 4) (mC (.int z)) (E9 a t (some (.int f)) (some (.str (strOf [c]))) (some (.int (j : Int))) none none none none) s3 = .ok (.bl (decide ((j : Int) = z))) s3 := fun z => by
    rw [e_op, mVar_ok (d := .int (j : Int)) rfl, rbind_ok, e_c, rbind_ok, oEq_int]
  refine bn_if (n := t.length + 1 + t.length) (ec 0) (fun _ => Tx'.add (Tx'.add q1 q4 (by omega)) q2 (by omega)) (by omega) h4 (fun _ => ?_)
  refine bn_if (n := t.length + 1 + t.length) (ec 1) (fun _ => Tx'.add (Tx'.add q1 q4 (by omega)) q3 (by omega)) (by omega) h4 (fun _ => ?_)
  refine bn_if (n := t.length + t.length) (ec 2) (fun _ => Tx'.add q1 q3 (by omega)) (by omega) h4 (fun _ => ?_)
  refine bn_if (n := t.length) (ec 3) (fun _ => q1) (by omega) h4 (fun _ => ?_)
  exact bentT_ok ha hl h4
end
end G83
end Mi

namespace Mi
namespace G83
open PySem PySem.Spec PyProof.Rows L2

/-! ### the words of a shown script -/
def fl (w : List Nat) : List (List Nat) := if w = [] then [] else [w]
def lw : List Nat → List Nat → List (List Nat)
  | w, [] => fl w
  | w, c :: cs => if isW c = true then lw (w ++ [c]) cs else fl w ++ (if blank c = true then [] else [[c]]) ++ lw [] cs
theorem lw_lt : ∀ (cs w : List Nat) (k : Nat), (lt w k cs).map (·.1) = lw w cs
  | [], w, k => by
    unfold lt lw flush fl
    split <;> rfl
  | c :: cs, w, k => by
    unfold lt lw
    split
    · exact lw_lt cs _ _
    · rw [List.map_append, List.map_append, lw_lt cs [] (k + 1)]
      congr 2
      · unfold flush fl
        split <;> rfl
      · unfold one
        split <;> rfl
def Brk (r : List Nat) : Prop := ∀ c t, r = c :: t → isW c = false
theorem lw_word {w rest : List Nat} (hw : ∀ c ∈ w, isW c = true) (hr : Brk rest) (hn : w ≠ []) : lw [] (w ++ rest) = [w] ++ lw [] rest := by
  have h := congrArg (List.map (·.1)) (lt_word w rest [] 0 hw hr)
  rw [lw_lt, List.map_append, lw_lt, List.nil_append] at h
  rw [h]
  congr 1
  unfold flush
  rw [if_neg hn]
  rfl
theorem lw_blank (r : List Nat) : lw [] (32 :: r) = lw [] r := rfl
theorem lw_sign {c : Nat} (r : List Nat) (h : isW c = false) (hb : blank c = false) : lw [] (c :: r) = [c] :: lw [] r := by
  simp only [lw, h, hb, if_neg (show ¬ (false = true) by decide), fl, if_pos rfl, List.nil_append, List.cons_append]
  simp
def sepT : Its → List Nat → List Nat
  | .nil, _ => []
  | _, t => [59, 32] ++ t
def sepW : Its → List (List Nat) → List (List Nat)
  | .nil, _ => []
  | _, t => [59] :: t
def pwd (w : List Nat) : Option Nat → List (List Nat)
  | none => [w]
  | some k => [w, TL.numL k]
def wds : Its → List (List Nat)
  | .nil => []
  | .pass w n r => pwd w n ++ sepW r (wds r)
  | .grp k i r => [kw k, kt k, [123]] ++ wds i ++ [[125]] ++ sepW r (wds r)
theorem sj_cons (t : List Nat) (r : Its) : sj (t :: its r) = t ++ sepT r (sh r) := by
  cases r with
  | nil => exact (List.append_nil t).symm
  | pass w n r => rfl
  | grp k i r => rfl
theorem sh_pass (w : List Nat) (n : Option Nat) (r : Its) : sh (.pass w n r) = shP w n ++ sepT r (sh r) := sj_cons _ r
theorem sh_grp (k : Kd) (i r : Its) : sh (.grp k i r) = gt k (sh i) ++ sepT r (sh r) := sj_cons _ r
theorem brk_sep (r : Its) (t : List Nat) {rest : List Nat} (h : Brk rest) : Brk (sepT r t ++ rest) := by
  cases r with
  | nil => exact h
  | pass w n r =>
    intro c u e
    cases e
    rfl
  | grp k i r =>
    intro c u e
    cases e
    rfl
theorem brk_c {c : Nat} {t : List Nat} (h : isW c = false) : Brk (c :: t) := fun d u e => by
  cases e
  exact h
theorem kw_W (k : Kd) : ∀ c ∈ kw k, isW c = true := by
  cases k with
  | til n => exact show ∀ c ∈ wU, isW c = true by decide
  | on x => exact show ∀ c ∈ wO, isW c = true by decide
theorem kw_ne (k : Kd) : kw k ≠ [] := by
  cases k with
  | til n => exact show wU ≠ [] by decide
  | on x => exact show wO ≠ [] by decide
theorem kt_W {k : Kd} (h : kok k) : ∀ c ∈ kt k, isW c = true := by
  cases k with
  | til n => exact numL_W n
  | on x => exact h.2.2
theorem nameOk_ne {x : List Nat} (h : nameOk x = true) : x ≠ [] := fun z => by
  rw [z] at h
  cases h
theorem kt_ne {k : Kd} (h : kok k) : kt k ≠ [] := by
  cases k with
  | til n => exact TL.numL_ne n
  | on x => exact nameOk_ne h.1
theorem lw_pass {w : List Nat} {n : Option Nat} {rest : List Nat} (hw : ∀ c ∈ w, isW c = true) (hn : w ≠ []) (hr : Brk rest) : lw [] (shP w n ++ rest) = pwd w n ++ lw [] rest := by
  cases n with
  | none => exact lw_word hw hr hn
  | some k =>
    show lw [] (w ++ [32] ++ TL.numL k ++ rest) = [w, TL.numL k] ++ lw [] rest
    rw [show w ++ [32] ++ TL.numL k ++ rest = w ++ (32 :: (TL.numL k ++ rest)) from by simp, lw_word hw (brk_c rfl) hn, lw_blank, lw_word (numL_W k) hr (TL.numL_ne k)]
    rfl
theorem lw_sh : ∀ (i : Its), ok i → ∀ rest, Brk rest → lw [] (sh i ++ rest) = wds i ++ lw [] rest
  | .nil, _, rest, _ => rfl
  | .pass w n r, ho, rest, hr => by
    rw [sh_pass, List.append_assoc, lw_pass ho.1.2.2 (inP_ne ho.1.1) (brk_sep r _ hr)]
    show _ = pwd w n ++ sepW r (wds r) ++ lw [] rest
    rw [List.append_assoc]
    congr 1
    have ih := lw_sh r ho.2.2 rest hr
    cases r with
    | nil => rfl
    | pass w n r => exact congrArg (List.cons [59]) ih
    | grp k i r => exact congrArg (List.cons [59]) ih
  | .grp k i r, ho, rest, hr => by
    have e : sh (.grp k i r) ++ rest = kw k ++ (32 :: (kt k ++ (32 :: 123 :: (sh i ++ (125 :: (sepT r (sh r) ++ rest)))))) := by
      rw [sh_grp]
      simp [gt]
    rw [e, lw_word (kw_W k) (brk_c rfl) (kw_ne k), lw_blank, lw_word (kt_W ho.1) (brk_c rfl) (kt_ne ho.1), lw_blank, lw_sign _ rfl rfl, lw_sh i ho.2.2.1 _ (brk_c rfl), lw_sign _ rfl rfl]
    have ih := lw_sh r ho.2.2.2 rest hr
    have e2 : lw [] (sepT r (sh r) ++ rest) = sepW r (wds r) ++ lw [] rest := by
      cases r with
      | nil => rfl
      | pass w n r => exact congrArg (List.cons [59]) ih
      | grp k i r => exact congrArg (List.cons [59]) ih
    rw [e2]
    simp [wds]
theorem words_sh {i : Its} (h : ok i) : (lt [] 0 (sh i)).map (·.1) = wds i := by
  have := lw_sh i h [] (fun c t e => by cases e)
  rw [List.append_nil] at this
  rw [lw_lt, this]
  exact List.append_nil _

/-! ### numbers read back -/
theorem numL_head : ∀ (n : Nat), n ≠ 0 → (TL.numL n).head? ≠ some 48 := by
  intro n
  induction n using Nat.strongRecOn with
  | _ n ih =>
    intro h0 h
    by_cases h1 : n < 10
    · rw [TL.numL_lt h1] at h
      have := Option.some.inj h
      omega
    · rw [TL.numL_step (by omega)] at h
      have hn := TL.numL_ne (n / 10)
      cases e : TL.numL (n / 10) with
      | nil => exact hn e
      | cons c r =>
        rw [e] at h
        have := ih (n / 10) (by omega) (by omega)
        rw [e] at this
        exact this h
theorem num_numL {n : Nat} {lo hi : Int} (h : n ≤ 10000) (h1 : lo ≤ n) (h2 : (n : Int) ≤ hi) : num (TL.numL n) lo hi = some (n : Int) := by
  have hv : val (TL.numL n) = (n : Int) := by
    unfold val
    rw [TL.numL_val]
  have hf : fitW (TL.numL n) = true := by
    unfold fitW
    have a1 : decide (TL.numL n ≠ []) = true := decide_eq_true (TL.numL_ne n)
    have a2 : (TL.numL n).all dig = true := by
      rw [List.all_eq_true]
      intro c hc
      have := TL.numL_digits n c hc
      unfold dig
      simp
      omega
    have a3 : decide ((TL.numL n).length ≤ 5) = true := decide_eq_true (TL.numL_len (by decide) (by omega))
    rw [a1, a2, a3]
    by_cases h0 : n = 0
    · subst h0
      rfl
    · rw [decide_eq_false (numL_head n h0)]
      simp
  unfold num
  rw [hv, if_pos ⟨hf, h1, h2⟩]
theorem lead_numL (n : Nat) : leadD (TL.numL n) = true := by
  have h := TL.numL_digits n
  have hn := TL.numL_ne n
  cases e : TL.numL n with
  | nil => exact (hn e).elim
  | cons c r =>
    rw [e] at h
    have := h c List.mem_cons_self
    show dig c = true
    unfold dig
    simp
    omega
theorem inP_U {w : List Nat} (h : inP w = true) : w ≠ wU ∧ w ≠ wO := by
  constructor
  · intro z
    rw [z] at h
    exact absurd h (by decide +kernel)
  · intro z
    rw [z] at h
    exact absurd h (by decide +kernel)
end G83
end Mi

namespace Mi
namespace G83
open PySem PySem.Spec PyProof.Rows L2

/-! ### too deep a script is refused at its ninth brace -/
def lastB : Its → Nat
  | .nil => 0
  | .pass w n r => (pwd w n).length + 1 + lastB r
  | .grp k i r => if cnt i = 0 then 2 else 3 + lastB i
theorem dep_cnt : ∀ i : Its, dep i ≤ cnt i
  | .nil => Nat.le_refl _
  | .pass w n r => dep_cnt r
  | .grp k i r => by
    have h1 := dep_cnt i
    have h2 := dep_cnt r
    show max (1 + dep i) (dep r) ≤ 1 + cnt i + cnt r
    omega
/-- the tokens from p on begin so -/
def Rd (T : List Tok') (p : Nat) (X : List (List Nat)) : Prop := (∀ k w, X[k]? = some w → wd T (p + k) = w) ∧ p + X.length ≤ T.length
theorem Rd.app {T : List Tok'} {p : Nat} {X Y : List (List Nat)} (h : Rd T p (X ++ Y)) : Rd T p X ∧ Rd T (p + X.length) Y := by
  refine ⟨⟨fun k w e => h.1 k w ?_, ?_⟩, ⟨fun k w e => ?_, ?_⟩⟩
  · rw [List.getElem?_append_left (List.getElem?_eq_some_iff.mp e).1]
    exact e
  · have := h.2
    rw [List.length_append] at this
    omega
  · rw [Nat.add_assoc]
    refine h.1 _ w ?_
    rw [List.getElem?_append_right (by omega), show X.length + k - X.length = k by omega]
    exact e
  · have := h.2
    rw [List.length_append] at this
    omega
theorem Rd.hd {T : List Tok'} {p : Nat} {w : List Nat} {X : List (List Nat)} (h : Rd T p (w :: X)) : wd T p = w := h.1 0 w rfl
theorem Rd.tl {T : List Tok'} {p : Nat} {w : List Nat} {X : List (List Nat)} (h : Rd T p (w :: X)) : Rd T (p + 1) X := (Rd.app (X := [w]) h).2
theorem sepW_ne {r : Its} (h : cnt r ≠ 0) (t : List (List Nat)) : sepW r t = [59] :: t := by
  cases r with
  | nil => exact (h rfl).elim
  | pass w n r => rfl
  | grp k i r => rfl
section
variable {T : List Tok'}
theorem loop_ok {item : Nat → PR} {n : Nat} {acc : List D} {p q : Nat} {d : D} (h : item p = .ok d q) (hs : wd T q = [59]) : pLoop T item (n + 1) acc p = pLoop T item n (acc ++ [d]) (q + 1) := by
  show (match item p with
    | .err e => PR.err e
    | .ok i q => if wd T q = [59] then pLoop T item n (acc ++ [i]) (q + 1) else .ok (.tup (acc ++ [i])) q) = _
  rw [h]
  exact if_pos hs
theorem loop_err {item : Nat → PR} {n : Nat} {acc : List D} {p e : Nat} (h : item p = .err e) : pLoop T item (n + 1) acc p = .err e := by
  show (match item p with
    | .err e => PR.err e
    | .ok i q => if wd T q = [59] then pLoop T item n (acc ++ [i]) (q + 1) else .ok (.tup (acc ++ [i])) q) = _
  rw [h]
theorem item_pass {w : List Nat} {n : Option Nat} {X : List (List Nat)} {p : Nat} {G : Nat → PR} (hw : inP w = true) (hn : ∀ k, n = some k → k ≤ 10000) (h : Rd T p (pwd w n ++ [59] :: X)) : ∃ d, pItem T G p = .ok d (p + (pwd w n).length) := by
  have hU := inP_U hw
  unfold pItem
  cases n with
  | none =>
    have h1 : wd T p = w := Rd.hd h
    have h2 : wd T (p + 1) = [59] := Rd.hd (Rd.tl h)
    rw [h1, h2, if_neg hU.1, if_neg hU.2, if_pos hw, if_neg (by decide)]
    exact ⟨_, rfl⟩
  | some k =>
    have h1 : wd T p = w := Rd.hd h
    have h2 : wd T (p + 1) = TL.numL k := Rd.hd (Rd.tl h)
    have hk := hn k rfl
    rw [h1, h2, if_neg hU.1, if_neg hU.2, if_pos hw, if_pos (lead_numL k), num_numL hk (by omega) (by omega)]
    exact ⟨_, rfl⟩
theorem item_grp {k : Kd} {X : List (List Nat)} {p e : Nat} {G : Nat → PR} (hk : kok k) (h : Rd T p ([kw k, kt k] ++ X)) (hG : G (p + 2) = .err e) : pItem T G p = .err e := by
  unfold pItem
  have h1 : wd T p = kw k := Rd.hd h
  have h2 : wd T (p + 1) = kt k := Rd.hd (Rd.tl h)
  cases k with
  | til n =>
    have h1 : wd T p = wU := h1
    have h2 : wd T (p + 1) = TL.numL n := h2
    rw [h1, h2, if_pos rfl, num_numL (by have := hk.2; omega) (by have := hk.1; omega) (by have := hk.2; omega)]
    show (G (p + 2)).map _ = _
    rw [hG]
    rfl
  | on x =>
    have h1 : wd T p = wO := h1
    have h2 : wd T (p + 1) = x := h2
    rw [h1, h2, if_neg (by decide), if_pos rfl, if_pos hk.1, hG]
    rfl
theorem fail_loop : ∀ (i : Its) (d p j n : Nat) (acc : List D), ok i → cnt i = dep i → 1 ≤ dep i → dep i + d = 9 → 8 ≤ j + d → (wds i).length ≤ n → Rd T p (wds i) → pLoop T (pItem T (pGroup T (pItems T j (d + 1)) d)) n acc p = .err (p + lastB i)
  | .nil, d, p, j, n, acc, _, _, h, _, _, _, _ => by
    have : dep Its.nil = 0 := rfl
    omega
  | .pass w m r, d, p, j, n, acc, ho, hc, h1, hd, hj, hn, hR => by
    have hc0 : cnt r ≠ 0 := by
      have e1 : cnt (.pass w m r) = cnt r := rfl
      have e2 : dep (.pass w m r) = dep r := rfl
      omega
    have eW : wds (.pass w m r) = pwd w m ++ [59] :: wds r := by
      show pwd w m ++ sepW r (wds r) = _
      rw [sepW_ne hc0]
    rw [eW] at hn hR
    obtain ⟨x, e1⟩ := item_pass (G := pGroup T (pItems T j (d + 1)) d) ho.1.1 ho.2.1 hR
    have h2 := Rd.hd (Rd.app hR).2
    have h3 := Rd.tl (Rd.app hR).2
    rw [List.length_append, List.length_cons] at hn
    obtain ⟨n', rfl⟩ : ∃ n', n = n' + 1 := ⟨n - 1, by omega⟩
    rw [loop_ok e1 h2]
    have ih := fail_loop r d (p + (pwd w m).length + 1) j n' (acc ++ [x]) ho.2.2 hc h1 hd hj (by omega) h3
    rw [ih]
    show PR.err _ = PR.err (p + ((pwd w m).length + 1 + lastB r))
    congr 1
    omega
  | .grp k i r, d, p, j, n, acc, ho, hc, h1, hd, hj, hn, hR => by
    have hdi := dep_cnt i
    have hdr := dep_cnt r
    have hc' : 1 + cnt i + cnt r = max (1 + dep i) (dep r) := hc
    have hd' : max (1 + dep i) (dep r) + d = 9 := hd
    have hci : cnt i = dep i := by omega
    have eW : wds (.grp k i r) = [kw k, kt k] ++ ([123] :: (wds i ++ ([125] :: sepW r (wds r)))) := by
      simp [wds]
    rw [eW] at hn hR
    obtain ⟨n', rfl⟩ : ∃ n', n = n' + 1 := ⟨n - 1, by
      simp at hn
      omega⟩
    have h3 := (Rd.app hR).2
    have h4 : wd T (p + 2) = [123] := Rd.hd h3
    have h5 : Rd T (p + 3) (wds i) := (Rd.app (Rd.tl h3)).1
    refine loop_err (item_grp ho.1 hR ?_)
    unfold pGroup
    show _ = PR.err (p + (if cnt i = 0 then 2 else 3 + lastB i))
    by_cases h8 : d < 8
    · rw [if_pos ⟨h4, h8⟩, if_neg (by omega)]
      obtain ⟨j', rfl⟩ : ∃ j', j = j' + 1 := ⟨j - 1, by omega⟩
      have ih := fail_loop i (d + 1) (p + 3) j' (T.length + 1) [] ho.2.2.1 hci (by omega) (by omega) (by omega) (by have := h5.2; omega) h5
      show (match pLoop T (pItem T (pGroup T (pItems T j' (d + 1 + 1)) (d + 1))) (T.length + 1) [] (p + 3) with
        | .ok v q => if wd T q = [125] then PR.ok v (q + 1) else .err q
        | .err e => .err e) = _
      rw [ih]
      show PR.err _ = _
      congr 1
      omega
    · rw [if_neg (fun z => h8 z.2), if_pos (by omega)]
/-! ### where the braces are -/
def bi : Nat → List (List Nat) → List Int
  | _, [] => []
  | k, w :: ws => if w = [123] then (k : Int) :: bi (k + 1) ws else bi (k + 1) ws
theorem bi_app : ∀ (a b : List (List Nat)) (k : Nat), bi k (a ++ b) = bi k a ++ bi (k + a.length) b
  | [], b, k => rfl
  | w :: a, b, k => by
    have := bi_app a b (k + 1)
    show (if w = [123] then (k : Int) :: bi (k + 1) (a ++ b) else bi (k + 1) (a ++ b)) = _
    rw [this, List.length_cons, show k + 1 + a.length = k + (a.length + 1) by omega]
    show _ = (if w = [123] then (k : Int) :: bi (k + 1) a else bi (k + 1) a) ++ _
    split <;> rfl
theorem not_brace {w : List Nat} (h : ∀ c ∈ w, isW c = true) : w ≠ [123] := fun z => by
  have := h 123 (by rw [z]; exact List.mem_singleton_self _)
  exact absurd this (by decide)
theorem bi_pwd {w : List Nat} {n : Option Nat} (hw : ∀ c ∈ w, isW c = true) (k : Nat) : bi k (pwd w n) = [] := by
  cases n with
  | none =>
    show (if w = [123] then _ else _) = _
    rw [if_neg (not_brace hw)]
    rfl
  | some m =>
    show (if w = [123] then _ else (if TL.numL m = [123] then _ else _)) = _
    rw [if_neg (not_brace hw), if_neg (not_brace (numL_W m))]
    rfl
theorem bi_sep (r : Its) (k : Nat) (t : List (List Nat)) : bi k (sepW r t) = (if r matches .nil then [] else bi (k + 1) t) := by
  cases r with
  | nil => rfl
  | pass w n r => rfl
  | grp k i r => rfl
theorem bi_sep' (r : Its) (k : Nat) : bi k (sepW r (wds r)) = [] ∨ bi k (sepW r (wds r)) = bi (k + 1) (wds r) := by
  cases r with
  | nil => exact .inl rfl
  | pass w n r => exact .inr rfl
  | grp k i r => exact .inr rfl
theorem bi_grp {k : Kd} {i r : Its} (hk : kok k) (q : Nat) : bi q (wds (.grp k i r)) = ((q + 2 : Nat) : Int) :: (bi (q + 3) (wds i) ++ bi (q + 3 + (wds i).length + 1) (sepW r (wds r))) := by
  have eW : wds (.grp k i r) = kw k :: kt k :: [123] :: (wds i ++ ([125] :: sepW r (wds r))) := by
    simp [wds]
  rw [eW]
  show (if kw k = [123] then _ else (if kt k = [123] then _ else (if ([123] : List Nat) = [123] then _ else _))) = _
  rw [if_neg (not_brace (kw_W k)), if_neg (not_brace (kt_W hk)), if_pos rfl, bi_app]
  rfl
theorem bi_cnt : ∀ (i : Its), ok i → ∀ k, (bi k (wds i)).length = cnt i
  | .nil, _, k => rfl
  | .pass w n r, ho, k => by
    show (bi k (pwd w n ++ sepW r (wds r))).length = cnt r
    rw [bi_app, bi_pwd ho.1.2.2, List.nil_append]
    cases r with
    | nil => rfl
    | pass w' n' r' => exact bi_cnt (.pass w' n' r') ho.2.2 _
    | grp k' i' r' => exact bi_cnt (.grp k' i' r') ho.2.2 _
  | .grp k i r, ho, q => by
    rw [bi_grp ho.1, List.length_cons, List.length_append, bi_cnt i ho.2.2.1]
    have : (bi (q + 3 + (wds i).length + 1) (sepW r (wds r))).length = cnt r := by
      cases r with
      | nil => rfl
      | pass w' n' r' => exact bi_cnt (.pass w' n' r') ho.2.2.2 _
      | grp k' i' r' => exact bi_cnt (.grp k' i' r') ho.2.2.2 _
    rw [this]
    show cnt i + cnt r + 1 = 1 + cnt i + cnt r
    omega
theorem bi_last : ∀ (i : Its), ok i → cnt i = dep i → 1 ≤ dep i → ∀ k, (bi k (wds i)).getLast? = some ((k + lastB i : Nat) : Int)
  | .nil, _, _, h, k => by
    have : dep Its.nil = 0 := rfl
    omega
  | .pass w n r, ho, hc, h1, k => by
    have hc0 : cnt r ≠ 0 := by
      have e1 : cnt (.pass w n r) = cnt r := rfl
      have e2 : dep (.pass w n r) = dep r := rfl
      omega
    show (bi k (pwd w n ++ sepW r (wds r))).getLast? = _
    rw [bi_app, bi_pwd ho.1.2.2, List.nil_append, sepW_ne hc0]
    have ih := bi_last r ho.2.2 hc h1 (k + (pwd w n).length + 1)
    show (bi (k + (pwd w n).length + 1) (wds r)).getLast? = some ((k + ((pwd w n).length + 1 + lastB r) : Nat) : Int)
    rw [ih]
    congr 2
    omega
  | .grp k i r, ho, hc, h1, q => by
    have hdi := dep_cnt i
    have hdr := dep_cnt r
    have hc' : 1 + cnt i + cnt r = max (1 + dep i) (dep r) := hc
    have hci : cnt i = dep i := by omega
    have hcr : cnt r = 0 := by omega
    have hl : (bi (q + 3 + (wds i).length + 1) (sepW r (wds r))).length = cnt r := by
      cases r with
      | nil => rfl
      | pass w' n' r' => exact bi_cnt (.pass w' n' r') ho.2.2.2 _
      | grp k' i' r' => exact bi_cnt (.grp k' i' r') ho.2.2.2 _
    rw [hcr] at hl
    rw [bi_grp ho.1, List.eq_nil_of_length_eq_zero hl, List.append_nil]
    show _ = some ((q + (if cnt i = 0 then 2 else 3 + lastB i) : Nat) : Int)
    by_cases h0 : cnt i = 0
    · have := bi_cnt i ho.2.2.1 (q + 3)
      rw [h0] at this
      rw [if_pos h0, List.eq_nil_of_length_eq_zero this]
      rfl
    · have ih := bi_last i ho.2.2.1 hci (by omega) (q + 3)
      rw [if_neg h0, List.getLast?_cons, ih]
      show some (((q + 3 + lastB i : Nat) : Int)) = _
      congr 2
      omega
end
end G83
end Mi

namespace Mi
namespace G83
open PySem PySem.Spec PyProof.Rows L2

/-! ### the deep ones -/
theorem flat_kd {k : Kd} (h : kok k) (n : Nat) : Flat n (kd k) := by
  cases k with
  | til m => exact .int _ _
  | on x => exact .str _ h.2.1
theorem flat_ds : ∀ (i : Its) (n : Nat), ok i → dep i ≤ n → ∀ x ∈ ds i, Flat (2 * n + 1) x
  | .nil, n, _, _, x, h => by cases h
  | .pass w m r, n, ho, hd, x, h => by
    rcases List.mem_cons.mp h with rfl | h
    · exact flat3 (fl_pass _) (.str _ ho.1.2.1) (.int _ _)
    · exact flat_ds r n ho.2.2 hd x h
  | .grp k i r, n, ho, hd, x, h => by
    have hd : max (1 + dep i) (dep r) ≤ n := hd
    obtain ⟨m, rfl⟩ : ∃ m, n = m + 1 := ⟨n - 1, by omega⟩
    rcases List.mem_cons.mp h with rfl | h
    · refine (flat3 (n := 2 * m + 2) (.str _ (kw_asc k)) (flat_kd ho.1 _) (.tup fun y hy => ?_)).mono (by omega)
      exact (flat_ds i m ho.2.2.1 (by omega) y hy).mono (by omega)
    · exact flat_ds r (m + 1) ho.2.2.2 (by omega) x h
theorem tup_nil {i : Its} (ho : ok i) (hd : dep i ≤ 20) (s : S) : oEq (.tup (ds i)) (.tup []) s = .ok (.bl (decide (ds i = []))) s := by
  have hF : Flat 42 (.tup (ds i)) := .tup (n := 41) fun x hx => flat_ds i 20 ho hd x hx
  obtain ⟨ps, e, a, b, c⟩ := allPy_of (f := toPy s 65) (n := 41) (ds i) fun x hx => (flat_ds i 20 ho hd x hx).py s (by omega)
  have e1 : toPy s 66 (.tup (ds i)) = some (.tuple ps) := by
    show (allPy (toPy s 65) (ds i)).map PyData.tuple = _
    rw [e]
    rfl
  have e2 : toPy s 66 (.tup []) = some (.tuple []) := rfl
  have s1 : SeqAt.shaped (.tuple ps) = true := by
    have dd : PyData.depth (.tuple ps) ≤ 64 := by
      simp only [PyData.depth]
      omega
    unfold SeqAt.shaped
    rw [show PyData.canLay0 (.tuple ps) = true from by simp only [PyData.canLay0, a], decide_eq_true dd]
    rfl
  have s2 : SeqAt.shaped (.tuple []) = true := by
    unfold SeqAt.shaped
    simp [PyData.canLay0, PyData.canLayAll0, PyData.depth, PyData.depthAll]
  unfold oEq eqPy
  rw [e1, e2]
  simp only [s1, s2, and_self, if_true]
  congr 2
  cases hds : ds i with
  | nil =>
    rw [hds] at e
    have e : some ([] : List PyData) = some ps := e
    cases e
    simp [PyData.eqv, PyData.eqvAll]
  | cons x xs =>
    rw [hds] at e
    have e : (match toPy s 65 x, allPy (toPy s 65) xs with
      | some p, some ps => some (p :: ps)
      | _, _ => none) = some ps := e
    cases h1 : toPy s 65 x with
    | none =>
      rw [h1] at e
      cases e
    | some p =>
      cases h2 : allPy (toPy s 65) xs with
      | none =>
        rw [h1, h2] at e
        cases e
      | some qs =>
        rw [h1, h2] at e
        cases e
        simp [PyData.eqv, PyData.eqvAll]
theorem ds_nil {i : Its} : ds i = [] ↔ i = .nil := by
  cases i with
  | nil => simp [ds]
  | pass w n r => simp [ds]
  | grp k i r => simp [ds]
section
variable {a b : Nat}
abbrev E8 (a : Nat) (x : D) (o2 o3 o4 o5 o6 o7 : Option D) : Ev := [some (.ref a), some x, o2, o3, o4, o5, o6, o7]
theorem ok_f : kok (.on [102]) := ⟨by decide, ascS _ (by decide), by decide⟩
theorem ok_g : kok (.on [103]) := ⟨by decide, ascS _ (by decide), by decide⟩
theorem wrap_loop : ∀ (n k : Nat) (i : Its) (o2 o3 o4 o5 o6 o7 : Option D) (s : S), k + n ≤ 50 → ok i → i ≠ .nil → DrawOk a b s →
    ∃ j o2' s', loop none (gN 2) W__law_deep_ones1 (rngL (k : Int) n) (E8 a (.tup (ds i)) o2 o3 o4 o5 o6 o7) s = .nx (E8 a (.tup (ds j)) o2' o3 o4 o5 o6 o7) s' ∧ ok j ∧ j ≠ .nil ∧ dep j = dep i + n ∧ sz j ≤ sz i + n * 20 ∧ Dw a b s s'
  | 0, k, i, o2, o3, o4, o5, o6, o7, s, _, ho, hn, h => ⟨i, o2, s, loop_nil (g := none) trivial, ho, hn, by omega, by omega, Dw.of h Pre.refl⟩
  | n + 1, k, i, o2, o3, o4, o5, o6, o7, s, hk, ho, hn, h => by
    have eL : rngL (k : Int) (n + 1) = .int (k : Int) :: rngL ((k + 1 : Nat) : Int) n := by
      show D.int (k : Int) :: rngL ((k : Int) + 1) n = _
      rw [show (k : Int) + 1 = ((k + 1 : Nat) : Int) by omega]
    obtain ⟨f, hf, s1, e1, h1⟩ := take_e (ε := E8 a (.tup (ds i)) (some (.int (k : Int))) o3 o4 o5 o6 o7) (m := 2) h rfl (by decide) (by decide)
    obtain ⟨x, hx, hdx, hzx, hxn, e2⟩ : ∃ x : Its, ok x ∧ dep x = dep i + 1 ∧ sz x ≤ sz i + 20 ∧ x ≠ .nil ∧ W__law_deep_ones1 (E8 a (.tup (ds i)) (some (.int (k : Int))) o3 o4 o5 o6 o7) s = .nx (E8 a (.tup (ds x)) (some (.int (k : Int))) o3 o4 o5 o6 o7) s1 := by
      have eW : W__law_deep_ones1 = (sSet 1 (mIf (mOp oEq (takeM 2) (mC (.int 0))) (mTup (mCons (mTup (mCons (mC (.str ("until" : Str))) (mCons (mOp oAdd (mC (.int 1)) (mVar 2)) (mCons (mVar 1) mNil)))) mNil)) (mTup (mCons (mTup (mCons (mC (.str ("on" : Str))) (mCons (mC (.str ("f" : Str))) (mCons (mVar 1) mNil)))) mNil)))) := rfl
      have i1 : ∀ y : D, (if ([y] : List D).length ≤ sizeLine then R.ok (D.tup [y]) s1 else .bad) = .ok (D.tup [y]) s1 := fun y => if_pos one_le
      have i3 : ∀ y z w : D, (if ([y, z, w] : List D).length ≤ sizeLine then R.ok (D.tup [y, z, w]) s1 else .bad) = .ok (D.tup [y, z, w]) s1 := fun y z w => if_pos three_le
      have d0 : dep Its.nil = 0 := rfl
      have z0 : sz Its.nil = 0 := rfl
      by_cases c : (f : Int) = 0
      · refine ⟨.grp (.til (1 + k)) i .nil, ⟨⟨by omega, by omega⟩, hn, ho, trivial⟩, ?_, ?_, (fun z => by cases z), ?_⟩
        · show max (1 + dep i) (dep Its.nil) = _
          omega
        · have : (TL.numL (1 + k)).length ≤ 3 := TL.numL_len (by decide) (by omega)
          have : wU.length = 5 := rfl
          show wU.length + (TL.numL (1 + k)).length + 6 + sz i + sz Its.nil ≤ _
          omega
        · rw [eW, e_set, e_if, e_op, e1, rbind_ok, e_c, rbind_ok, oEq_int, decide_eq_true c, rbind_ok]
          simp only [e_tup, e_cons, e_c, e_op, e_var, List.getElem?_cons_zero, List.getElem?_cons_succ, rbind_ok, oAdd_int, e_nil, i3, i1, rto_ok]
          rw [show (1 : Int) + (k : Int) = ((1 + k : Nat) : Int) by omega]
          rfl
      · refine ⟨.grp (.on [102]) i .nil, ⟨ok_f, hn, ho, trivial⟩, ?_, ?_, (fun z => by cases z), ?_⟩
        · show max (1 + dep i) (dep Its.nil) = _
          omega
        · have : wO.length = 2 := rfl
          show wO.length + ([102] : List Nat).length + 6 + sz i + sz Its.nil ≤ _
          rw [List.length_singleton]
          omega
        · rw [eW, e_set, e_if, e_op, e1, rbind_ok, e_c, rbind_ok, oEq_int, decide_eq_false c, rbind_ok]
          simp only [e_tup, e_cons, e_c, e_op, e_var, List.getElem?_cons_zero, List.getElem?_cons_succ, rbind_ok, oAdd_int, e_nil, i3, i1, rto_ok]
          rfl
    obtain ⟨j, o2', s2, e3, j1, j2, j3, j4, h2⟩ := wrap_loop n (k + 1) x (some (.int (k : Int))) o3 o4 o5 o6 o7 s1 (by omega) hx hxn h1.ok
    refine ⟨j, o2', s2, ?_, j1, j2, by omega, by omega, h1.trans h2⟩
    rw [eL, loop_cons (g := none) trivial (gN_eq _ _ _)]
    show (match W__law_deep_ones1 (E8 a (.tup (ds i)) (some (.int (k : Int))) o3 o4 o5 o6 o7) s with
        | .nx ε2 s2 => loop none (gN 2) W__law_deep_ones1 (rngL ((k + 1 : Nat) : Int) n) ε2 s2
        | .ct ε2 s2 => loop none (gN 2) W__law_deep_ones1 (rngL ((k + 1 : Nat) : Int) n) ε2 s2
        | .bk ε2 s2 => .nx ε2 s2
        | .rt d s2 => .rt d s2
        | .ex c f d s2 => .ex c f d s2
        | .bad => .bad) = _
    rw [e2]
    exact e3
/-- the places of the braces, from k on -/
def bw (T : List Tok') : Nat → Nat → List Int
  | _, 0 => []
  | k, n + 1 => if wd T k = [123] then (k : Int) :: bw T (k + 1) n else bw T (k + 1) n
theorem bw_bi {T : List Tok'} : ∀ (X : List (List Nat)) (k : Nat), (T.map (·.1)).drop k = X → k ≤ T.length → bw T k (X.length + 1) = bi k X
  | [], k, h, hk => by
    have : T.length ≤ k := by
      have := List.drop_eq_nil_iff.mp h
      rw [List.length_map] at this
      exact this
    show (if wd T k = [123] then _ else []) = []
    rw [wd_out this, if_neg (by decide)]
  | w :: X, k, h, hk => by
    obtain ⟨h1, h2, h3⟩ := drop_cons h
    rw [List.length_map] at h3
    have hw : wd T k = w := by
      rw [List.getElem?_map] at h1
      unfold wd
      rw [h1]
      rfl
    show (if wd T k = [123] then (k : Int) :: bw T (k + 1) (X.length + 1) else bw T (k + 1) (X.length + 1)) = _
    rw [hw, bw_bi X (k + 1) h2 (by omega)]
    rfl
theorem brace_lc {T : List Tok'} {q L : Nat} (hT : TOk T) {o0 o1 o2 o3 o4 o6 o7 : Option D} {s : S} (h : LR q T L s) : ∀ (n k : Nat) (acc : List D), k + n ≤ T.length + 1 → acc.length + n ≤ 5000000 →
    lcL none 2 (mOp oEq (mOp oIx (mOp oIx (mVar 5) (mVar 2)) (mC (.int 0))) (mC (.str (strOf [123])))) (mVar 2) [o0, o1, o2, o3, o4, some (.ref q), o6, o7] (rngL (k : Int) n) acc s = .ok (acc ++ (bw T k n).map D.int) s
  | 0, k, acc, _, _ => by
    show lcL none 2 _ _ _ [] acc s = _
    rw [lc_0 (g := none) trivial]
    simp [bw]
  | n + 1, k, acc, hk, hz => by
    have eL : rngL (k : Int) (n + 1) = .int (k : Int) :: rngL ((k + 1 : Nat) : Int) n := by
      show D.int (k : Int) :: rngL ((k : Int) + 1) n = _
      rw [show (k : Int) + 1 = ((k + 1 : Nat) : Int) by omega]
    have hc : (mOp oEq (mOp oIx (mOp oIx (mVar 5) (mVar 2)) (mC (.int 0))) (mC (.str (strOf [123])))) ((([o0, o1, o2, o3, o4, some (.ref q), o6, o7] : Ev).set 2 none).set 2 (some (.int (k : Int)))) s = .ok (.bl (decide (wd T k = [123]))) s := by
      have e5 := oEq_s (hT.asc k) (asc1 (show 123 < 128 by decide)) s
      simp only [List.set_cons_succ, List.set_cons_zero, e_op, e_var, List.getElem?_cons_zero, List.getElem?_cons_succ, rbind_ok, e_c, ixT h (show k ≤ T.length by omega), tok0, e5]
    rw [eL]
    show _ = R.ok (acc ++ (if wd T k = [123] then (k : Int) :: bw T (k + 1) n else bw T (k + 1) n).map D.int) s
    by_cases c : wd T k = [123]
    · rw [decide_eq_true c] at hc
      rw [lc_t (g := none) (y := .int (k : Int)) trivial hc rfl (by rw [sizeL]; omega), brace_lc hT h n (k + 1) _ (by omega) (by rw [List.length_append, List.length_singleton]; omega), if_pos c, List.append_assoc]
      rfl
    · rw [decide_eq_false c] at hc
      rw [lc_f (g := none) trivial hc, brace_lc hT h n (k + 1) acc (by omega) (by omega), if_neg c]
end
end G83
end Mi

namespace Mi
namespace G83
open PySem PySem.Spec PyProof.Rows L2

section
variable {a b : Nat}
noncomputable def deepT : B := (bSeq (sSet 6 (mLc (iRng1 (mCons (mCall cLen (mCons (mVar 5) mNil)) mNil)) 2 (mOp oEq (mOp oIx (mOp oIx (mVar 5) (mVar 2)) (mC (.int 0))) (mC (.str (strOf [123])))) (mVar 2)))
  (bSeq (sIf (mOp oNe (mCall cLen (mCons (mVar 6) mNil)) (mC (.int 9)))
  (sRet (mC (.bl true)))
  bNil)
  (bSeq (sTry 7 (mCall F_read_script (mCons (mVar 4) mNil)) (fun _ ε s => .nx ε s) (suOf "ScriptError" 7 suB__law_deep_ones))
  (sRet (mC (.bl false))))))
theorem ix_ints {k : Nat} {l : List Int} {p : Nat} {v : Int} {s : S} (h : s[k]? = some (C.lst (l.map D.int))) (e : l[p]? = some v) : oIx (.ref k) (.int (p : Int)) s = .ok (.int v) s :=
  oIx_lst h (by rw [atI_nat, List.getElem?_map, e]; rfl)
theorem lastB_2 : ∀ j : Its, 1 ≤ cnt j → 2 ≤ lastB j
  | .nil, z => by
    have : cnt Its.nil = 0 := rfl
    omega
  | .pass w n r, z => by
    have := lastB_2 r z
    show 2 ≤ (pwd w n).length + 1 + lastB r
    omega
  | .grp k i r, _ => by
    show 2 ≤ if cnt i = 0 then 2 else 3 + lastB i
    split <;> omega
theorem last8 {l : List Int} {v : Int} (h : l.getLast? = some v) (hl : l.length = 9) : l[8]? = some v := by
  rw [List.getLast?_eq_getElem?, hl] at h
  exact h
theorem deepT_ok {i : Its} (ho : ok i) (hd : dep i = 9) (hz : sz i ≤ 100000) {x : D} {o2 o3 : Option D} {s : S} {q : Nat} (hq : LR q (lt [] 0 (sh i)) (sh i).length s) : ∃ s', deepT (E8 a x o2 o3 (some (.str (strOf (sh i)))) (some (.ref q)) none none) s = .rt (.bl true) s' := by
  have hA := sh_asc ho
  have hL := sh_len i
  have hT := tok_ok hA (show (sh i).length ≤ 1000000 by omega)
  have hW := words_sh ho
  have hTl : (lt [] 0 (sh i)).length = (wds i).length := by rw [← hW, List.length_map]
  have hRd : Rd (lt [] 0 (sh i)) 0 (wds i) := by
    refine ⟨fun k w e => ?_, by omega⟩
    rw [Nat.zero_add]
    unfold wd
    rw [← hW, List.getElem?_map] at e
    rw [e]
    rfl
  have hw0 : wd (lt [] 0 (sh i)) 0 ≠ [] := by
    rw [Ne, wd_nil hA]
    intro z
    have hc := bi_cnt i ho 0
    have hdc := dep_cnt i
    rw [hTl] at z
    rw [List.eq_nil_of_length_eq_zero (show (wds i).length = 0 by omega)] at hc
    have : (bi 0 []).length = 0 := rfl
    omega
  unfold deepT
  have hlen : cLen [.ref q] s = .ok (.int (((lt [] 0 (sh i)).length + 1 : Nat) : Int)) s := by
    rw [cLen_lst hq, List.length_map, List.length_append, List.length_singleton]
  have hlc := brace_lc hT hq (o0 := some (.ref a)) (o1 := some x) (o2 := o2) (o3 := o3) (o4 := some (.str (strOf (sh i)))) (o6 := none) (o7 := none) ((lt [] 0 (sh i)).length + 1) 0 [] (by omega) (by have := hT.size; rw [List.length_nil]; omega)
  have hbw := bw_bi (T := lt [] 0 (sh i)) (wds i) 0 (by rw [hW]; rfl) (Nat.zero_le _)
  rw [← hTl] at hbw
  rw [hbw, List.nil_append] at hlc
  have hlc : lcL none 2 (mOp oEq (mOp oIx (mOp oIx (mVar 5) (mVar 2)) (mC (.int 0))) (mC (.str (strOf [123])))) (mVar 2) (E8 a x o2 o3 (some (.str (strOf (sh i)))) (some (.ref q)) none none) (rngL 0 ((lt [] 0 (sh i)).length + 1)) [] s = _ := hlc
  rw [e_seq, e_set, e_lc, e_rng1, e_cons, e_call, e_cons, mVar_ok (d := .ref q) rfl, rbind_ok, e_nil, rbind_ok, rbind_ok, hlen, rbind_ok, e_nil, rbind_ok, rbind_ok, e_rngK1, rbind_ok]
  rw [show ((((lt [] 0 (sh i)).length + 1 : Nat) : Int)).toNat = (lt [] 0 (sh i)).length + 1 by omega, hlc, rbind_ok, rto_ok, obind_nx]
  rw [show (E8 a x o2 o3 (some (.str (strOf (sh i)))) (some (.ref q)) none none).set 6 (some (.ref s.length)) = E8 a x o2 o3 (some (.str (strOf (sh i)))) (some (.ref q)) (some (.ref s.length)) none from rfl]
  have hb : (s ++ [C.lst ((bi 0 (wds i)).map D.int)])[s.length]? = some (C.lst ((bi 0 (wds i)).map D.int)) := app_last
  have hq1 : LR q (lt [] 0 (sh i)) (sh i).length (s ++ [C.lst ((bi 0 (wds i)).map D.int)]) := hq.pre Pre.app
  generalize s ++ [C.lst ((bi 0 (wds i)).map D.int)] = s1 at hb hq1
  have hbl : cLen [.ref s.length] s1 = .ok (.int (cnt i : Int)) s1 := by
    rw [cLen_lst hb, List.length_map, bi_cnt i ho]
  rw [e_seq, e_sif, e_op, e_call, e_cons, mVar_ok (d := .ref s.length) rfl, rbind_ok, e_nil, rbind_ok, rbind_ok, hbl, rbind_ok, e_c, rbind_ok, oNe_int, rto_ok]
  by_cases c : (cnt i : Int) = 9
  · rw [decide_eq_true c, Bool.not_true, ifK_f, e_bnil, obind_nx]
    have hc : cnt i = dep i := by omega
    have hfail := fail_loop (T := lt [] 0 (sh i)) i 0 0 11 ((lt [] 0 (sh i)).length + 1) [] ho hc (by omega) (by omega) (by omega) (by omega) hRd
    rw [show 0 + lastB i = lastB i from Nat.zero_add _] at hfail
    have hrS : rS (lt [] 0 (sh i)) = .err (lastB i) := by
      unfold rS
      rw [if_neg hw0]
      show (match pLoop (lt [] 0 (sh i)) (pItem (lt [] 0 (sh i)) (pGroup (lt [] 0 (sh i)) (pItems (lt [] 0 (sh i)) 11 (0 + 1)) 0)) ((lt [] 0 (sh i)).length + 1) [] 0 with
        | .ok d p => if wd (lt [] 0 (sh i)) p = [] then PR.ok d p else .err p
        | .err p => .err p) = _
      rw [hfail]
    have h8 := last8 (bi_last i ho hc (by omega) 0) (by rw [bi_cnt i ho]; omega)
    rw [Nat.zero_add] at h8
    have hlast : lastB i ≤ (lt [] 0 (sh i)).length := err_items 12 0 0 (lastB i) (Nat.zero_le _) hfail
    have hl2 : 2 ≤ lastB i := lastB_2 i (by omega)
    have hr := read_script_ok hA (show (sh i).length ≤ 1000000 by omega) s1
    rw [hrS] at hr
    obtain ⟨s2, e2, q2⟩ := hr
    have hq2 := hq1.pre q2
    have hb2 := q2 _ _ hb
    refine ⟨s2 ++ [C.lst [.int (off (lt [] 0 (sh i)) (sh i).length (lastB i - 2)), .int (off (lt [] 0 (sh i)) (sh i).length (lastB i))]], ?_⟩
    · have hS : sTry 7 (mCall F_read_script (mCons (mVar 4) mNil)) (fun _ ε s => .nx ε s) (suOf "ScriptError" 7 suB__law_deep_ones) (E8 a x o2 o3 (some (.str (strOf (sh i)))) (some (.ref q)) (some (.ref s.length)) none) s1 = .rt (.bl true) (s2 ++ [C.lst [.int (off (lt [] 0 (sh i)) (sh i).length (lastB i - 2)), .int (off (lt [] 0 (sh i)) (sh i).length (lastB i))]]) := by
        unfold sTry
        rw [e_call, e_cons, mVar_ok (d := .str (strOf (sh i))) rfl, rbind_ok, e_nil, rbind_ok, rbind_ok, e2]
        show wipeO 7 (suOf "ScriptError" 7 suB__law_deep_ones "ScriptError" "at" (.int (off (lt [] 0 (sh i)) (sh i).length (lastB i))) _ s2) = _
        unfold suOf
        rw [if_pos ⟨rfl, rfl, show 7 < 8 by decide⟩]
        unfold suB__law_deep_ones
        have e3 : oIx (.ref s.length) (.int 8) s2 = .ok (.int (lastB i : Int)) s2 := ix_ints (p := 8) hb2 h8
        have e4 : ((lastB i : Int) - 2) = ((lastB i - 2 : Nat) : Int) := by omega
        have e5 := ixT hq2 (show lastB i - 2 ≤ (lt [] 0 (sh i)).length by omega)
        have e6 := ixT hq2 hlast
        generalize off (lt [] 0 (sh i)) (sh i).length (lastB i) = O1 at e6
        generalize off (lt [] 0 (sh i)) (sh i).length (lastB i - 2) = O2 at e5
        have e7 : oIn false (.int (O1 : Int)) (.ref s2.length) (s2 ++ [C.lst [.int (O2 : Int), .int (O1 : Int)]]) = .ok (.bl true) (s2 ++ [C.lst [.int (O2 : Int), .int (O1 : Int)]]) := by
          show inCellK false _ (s2 ++ [C.lst [.int (O2 : Int), .int (O1 : Int)]])[s2.length]? _ = _
          rw [app_last]
          show inSeqK false _ _ _ = _
          unfold inSeqK
          rw [if_pos ⟨rfl, rfl⟩, if_neg (by decide)]
          show R.ok (D.bl ((O2 : Int) == (O1 : Int) || ((O1 : Int) == (O1 : Int) || false))) _ = _
          rw [beq_self_eq_true (O1 : Int), Bool.true_or, Bool.or_true]
        simp only [e_ret, e_and, e_c, rbind_ok, e_op, e_lst, e_cons, e_var, List.getElem?_cons_zero, List.getElem?_cons_succ, e3, oSub_int, e4, e5, tok1, e6, e_nil]
        rw [if_pos (show ([D.int (O2 : Int), D.int (O1 : Int)] : List D).length ≤ sizeLine from two_le), rbind_ok, e7, rto_ok]
        rfl
      rw [e_seq, hS, obind_rt]
  · rw [decide_eq_false c, Bool.not_false, ifK_t, e_ret, e_c, rto_ok, obind_rt]
    exact ⟨s1, rfl⟩
theorem sh_g (i : Its) : [111, 110, 32, 103, 32, 123] ++ sh i ++ [125] = sh (.grp (.on [103]) i .nil) := by
  rw [sh_grp]
  simp [gt, kw, kt, wO, sepT]
theorem deep_ok {i : Its} (ho : ok i) (hd : dep i ≤ 8) (hz : sz i ≤ 60000) {s : S} (h : DrawOk a b s) : ∃ s', F__law_deep_ones [.ref a, .tup (ds i)] s = .ok (.bl true) s' := by
  have e0 : F__law_deep_ones [.ref a, .tup (ds i)] s = runO (B__law_deep_ones (E8 a (.tup (ds i)) none none none none none none) s) := by
    unfold F__law_deep_ones
    rw [runF_eq (n := 2) rfl]
    rfl
  have eB : B__law_deep_ones = (bSeq (sIf (mOp oEq (mVar 1) (mTup mNil)) (sRet (mC (.bl true))) bNil)
    (bSeq (sFor (iRng1 (mCons (mOp oSub (mC (.int 8)) (mCall (F__law_depth 12) (mCons (mVar 1) mNil))) mNil)) (gN 2) W__law_deep_ones1)
    (bSeq (sSet 3 (mCall (F__law_show 12) (mCons (mVar 1) mNil)))
    (bSeq (sIf (mOr (mOp oNe (mCall (F_show_script 12) (mCons (mVar 1) mNil)) (mVar 3)) (mNot (mCall F__law_reads (mCons (mVar 3) mNil)))) (sRet (mC (.bl false))) bNil)
    (bSeq (sSet 4 (mOp oAdd (mOp oAdd (mC (.str (strOf [111, 110, 32, 103, 32, 123]))) (mVar 3)) (mC (.str (strOf [125])))))
    (bSeq (sSet 5 (mCall F__law_tokens (mCons (mVar 4) mNil))) deepT)))))) := rfl
  rw [e0, eB, e_seq, e_sif, e_op, mVar_ok (d := .tup (ds i)) rfl, rbind_ok, e_tup, e_nil, rbind_ok, if_pos (show ([] : List D).length ≤ sizeLine from Nat.zero_le _), rbind_ok, tup_nil ho (by omega), rto_ok]
  by_cases c : ds i = []
  · rw [decide_eq_true c, ifK_t, e_ret, e_c, rto_ok, obind_rt, runO_rt]
    exact ⟨s, rfl⟩
  · have hn : i ≠ .nil := fun z => c (ds_nil.mpr z)
    rw [decide_eq_false c, ifK_f, e_bnil, obind_nx]
    obtain ⟨s1, e1, q1⟩ := depth_ok 12 i s (by omega) (by omega)
    obtain ⟨j, o2, s2, e2, j1, j2, j3, j4, h2⟩ := wrap_loop (8 - dep i) 0 i none none none none none none s1 (by omega) ho hn (h.pre q1)
    have e2 : loop none (gN 2) W__law_deep_ones1 (rngL 0 (8 - dep i)) (E8 a (.tup (ds i)) none none none none none none) s1 = _ := e2
    rw [e_seq, e_for, e_rng1, e_cons, e_op, e_c, rbind_ok, e_call, e_cons, mVar_ok (d := .tup (ds i)) rfl, rbind_ok, e_nil, rbind_ok, rbind_ok, e1, rbind_ok, oSub_int, rbind_ok, e_nil, rbind_ok, rbind_ok, e_rngK1, rto_ok]
    rw [show ((8 : Int) - (dep i : Int)).toNat = 8 - dep i by omega]
    show ∃ s', runO ((loop none (gN 2) W__law_deep_ones1 (rngL 0 (8 - dep i)) (E8 a (.tup (ds i)) none none none none none none) s1).bind _) = _
    rw [e2, obind_nx]
    have hj8 : dep j = 8 := by omega
    have hjz : sz j ≤ 61000 := by
      have : (8 - dep i) * 20 ≤ 8 * 20 := Nat.mul_le_mul_right _ (by omega)
      omega
    have hL := sh_len j
    have hA := sh_asc j1
    rw [e_seq, e_set, e_call, e_cons, mVar_ok (d := .tup (ds j)) rfl, rbind_ok, e_nil, rbind_ok, rbind_ok, lshow_ok 12 j s2 j1 (by omega) (by omega), rto_ok, obind_nx]
    rw [show (E8 a (.tup (ds j)) o2 none none none none none).set 3 (some (.str (strOf (sh j)))) = E8 a (.tup (ds j)) o2 (some (.str (strOf (sh j)))) none none none none from rfl]
    obtain ⟨s3, e3, q3⟩ := show_ok 12 j s2 j1 (by omega) (by omega)
    obtain ⟨s4, e4, q4⟩ := reads_ok hA (show (sh j).length ≤ 1000000 by omega) s3
    have ec : (mOr (mOp oNe (mCall (F_show_script 12) (mCons (mVar 1) mNil)) (mVar 3)) (mNot (mCall F__law_reads (mCons (mVar 3) mNil)))) (E8 a (.tup (ds j)) o2 (some (.str (strOf (sh j)))) none none none none) s2 = .ok (.bl false) s4 := by
      have e5 := oNe_s hA hA s3
      rw [decide_eq_true rfl] at e5
      simp only [e_or, e_op, e_call, e_cons, e_var, List.getElem?_cons_zero, List.getElem?_cons_succ, rbind_ok, e_nil, e3, e5, Bool.not_true, e_not, e4]
    rw [e_seq, e_sif, ec, rto_ok, ifK_f, e_bnil, obind_nx]
    have a1 := add_s (w := [111, 110, 32, 103, 32, 123]) (v := sh j) (by simp; omega) s4
    have a2 := add_s (w := [111, 110, 32, 103, 32, 123] ++ sh j) (v := [125]) (by simp; omega) s4
    rw [sh_g] at a2
    rw [e_seq, e_set, e_op, e_op, e_c, rbind_ok, mVar_ok (d := .str (strOf (sh j))) rfl, rbind_ok, a1, rbind_ok, e_c, rbind_ok, a2, rto_ok, obind_nx]
    have tok : ok (.grp (.on [103]) j .nil) := ⟨ok_g, j2, j1, trivial⟩
    have tdep : dep (.grp (.on [103]) j .nil) = 9 := by
      show max (1 + dep j) (dep Its.nil) = 9
      have : dep Its.nil = 0 := rfl
      omega
    have tsz : sz (.grp (.on [103]) j .nil) ≤ 100000 := by
      show wO.length + ([103] : List Nat).length + 6 + sz j + sz Its.nil ≤ _
      have : wO.length = 2 := rfl
      have : sz Its.nil = 0 := rfl
      rw [List.length_singleton]
      omega
    generalize Its.grp (.on [103]) j .nil = t at tok tdep tsz
    have tL := sh_len t
    have eT := law_tokens_ok (sh_asc tok) (show (sh t).length ≤ 1000000 by omega) s4
    rw [show (E8 a (.tup (ds j)) o2 (some (.str (strOf (sh j)))) none none none none).set 4 (some (.str (strOf (sh t)))) = E8 a (.tup (ds j)) o2 (some (.str (strOf (sh j)))) (some (.str (strOf (sh t)))) none none none from rfl]
    rw [e_seq, e_set, e_call, e_cons, mVar_ok (d := .str (strOf (sh t))) rfl, rbind_ok, e_nil, rbind_ok, rbind_ok, eT, rto_ok, obind_nx]
    rw [show (E8 a (.tup (ds j)) o2 (some (.str (strOf (sh j)))) (some (.str (strOf (sh t)))) none none none).set 5 (some (.ref s4.length)) = E8 a (.tup (ds j)) o2 (some (.str (strOf (sh j)))) (some (.str (strOf (sh t)))) (some (.ref s4.length)) none none from rfl]
    have hq : LR s4.length (lt [] 0 (sh t)) (sh t).length (s4 ++ [C.lst ((lt [] 0 (sh t) ++ [([], (sh t).length)]).map tokD)]) := app_last
    obtain ⟨s6, e6⟩ := deepT_ok (a := a) (x := .tup (ds j)) (o2 := o2) (o3 := some (.str (strOf (sh j)))) tok tdep tsz hq
    exact ⟨s6, by rw [e6, runO_rt]⟩
end
end G83
end Mi

namespace Mi
namespace G83
open PySem PySem.Spec PyProof.Rows L2

/-! ### the law -/
noncomputable def takeV (i : Nat) (m : Int) : M := mCall F__law_take (mCons (mVar i) (mCons (mC (.int m)) mNil))
section
variable {a b : Nat}
theorem take_v {s : S} {ε : Ev} {m : Int} {i : Nat} (h : DrawOk a b s) (he : ε[i]? = some (some (.ref a))) (hm : 0 < m) (hm2 : m < 2 ^ 64) : ∃ f : Nat, (f : Int) < m ∧ ∃ s', takeV i m ε s = .ok (.int (f : Int)) s' ∧ Dw a b s s' := by
  obtain ⟨f, s', e, h0, h1, hd⟩ := take_ok h hm hm2
  refine ⟨f.toNat, by omega, s', ?_, hd⟩
  unfold takeV
  rw [e_call, e_cons, mVar_ok he, rbind_ok, e_cons, e_c, rbind_ok, e_nil, rbind_ok, rbind_ok, rbind_ok, e, show ((f.toNat : Nat) : Int) = f by omega]
theorem pick_v {s : S} {ε : Ev} {xs : List D} {i : Nat} {ms : Ev → S → R (List D)} {s1 : S} (h : DrawOk a b s) (he : ε[i]? = some (some (.ref a))) (hm : ms ε s = .ok xs s1) (h1 : Dw a b s s1) (hl : 0 < xs.length) (hl2 : xs.length ≤ 100) : ∃ x s', x ∈ xs ∧ mOp oIx (mLst ms) (takeV i (xs.length : Int)) ε s = .ok x s' ∧ Dw a b s s' := by
  have e1 : mLst ms ε s = .ok (.ref s1.length) (s1 ++ [C.lst xs]) := by
    rw [e_lst, hm, rbind_ok, if_pos (small_le (by omega))]
  have h2 : Dw a b s (s1 ++ [C.lst xs]) := h1.pre Pre.app
  obtain ⟨f, hf, s3, e3, h3⟩ := take_v (ε := ε) (i := i) (m := (xs.length : Int)) h2.ok he (by omega) (by omega)
  have hk : s3[s1.length]? = some (C.lst xs) := h3.keep _ _ (fun z => by have := h1.ok.lt; omega) app_last
  obtain ⟨x, hx, e⟩ := pick (s := s3) (i := (f : Int)) (by omega) (by omega) hk
  refine ⟨x, s3, hx, ?_, h2.trans h3⟩
  rw [e_op, e1, rbind_ok, e3, rbind_ok, e]
abbrev EL (x : D) (a : Nat) (o2 o3 o4 o5 o6 : Option D) : Ev := [some x, some (.ref a), o2, o3, o4, o5, o6]
theorem wrap2_loop (x : D) : ∀ (n k : Nat) (i : Its) (o3 o4 o5 o6 : Option D) (s : S), k + n ≤ 50 → ok i → i ≠ .nil → DrawOk a b s →
    ∃ j o3' s', loop none (gN 3) W_law3 (rngL (k : Int) n) (EL x a (some (.tup (ds i))) o3 o4 o5 o6) s = .nx (EL x a (some (.tup (ds j))) o3' o4 o5 o6) s' ∧ ok j ∧ j ≠ .nil ∧ dep j ≤ dep i + n ∧ sz j ≤ sz i + n * 40 ∧ Dw a b s s'
  | 0, k, i, o3, o4, o5, o6, s, _, ho, hn, h => ⟨i, o3, s, loop_nil (g := none) trivial, ho, hn, by omega, by omega, Dw.of h Pre.refl⟩
  | n + 1, k, i, o3, o4, o5, o6, s, hk, ho, hn, h => by
    have eL : rngL (k : Int) (n + 1) = .int (k : Int) :: rngL ((k + 1 : Nat) : Int) n := by
      show D.int (k : Int) :: rngL ((k : Int) + 1) n = _
      rw [show (k : Int) + 1 = ((k + 1 : Nat) : Int) by omega]
    obtain ⟨f, hf, s1, e1, h1⟩ := take_v (ε := EL x a (some (.tup (ds i))) (some (.int (k : Int))) o4 o5 o6) (i := 1) (m := 2) h rfl (by decide) (by decide)
    obtain ⟨y, hy, hdy, hzy, hyn, e2⟩ : ∃ y : Its, ok y ∧ dep y ≤ dep i + 1 ∧ sz y ≤ sz i + 40 ∧ y ≠ .nil ∧ W_law3 (EL x a (some (.tup (ds i))) (some (.int (k : Int))) o4 o5 o6) s = .nx (EL x a (some (.tup (ds y))) (some (.int (k : Int))) o4 o5 o6) s1 := by
      have eW : W_law3 = (sSet 2 (mIf (mOp oEq (takeV 1 2) (mC (.int 0))) (mTup (mCons (mTup (mCons (mC (.str ("until" : Str))) (mCons (mOp oAdd (mC (.int 1)) (mVar 3)) (mCons (mVar 2) mNil)))) mNil)) (mTup (mCons (mTup (mCons (mC (.str ("on" : Str))) (mCons (mC (.str ("f" : Str))) (mCons (mVar 2) mNil)))) (mCons (mTup (mCons (mC (.str ("pass" : Str))) (mCons (mC (.str ("drop" : Str))) (mCons (mVar 3) mNil)))) mNil))))) := rfl
      have i1 : ∀ y : D, (if ([y] : List D).length ≤ sizeLine then R.ok (D.tup [y]) s1 else .bad) = .ok (D.tup [y]) s1 := fun y => if_pos one_le
      have i2 : ∀ y z : D, (if ([y, z] : List D).length ≤ sizeLine then R.ok (D.tup [y, z]) s1 else .bad) = .ok (D.tup [y, z]) s1 := fun y z => if_pos two_le
      have i3 : ∀ y z w : D, (if ([y, z, w] : List D).length ≤ sizeLine then R.ok (D.tup [y, z, w]) s1 else .bad) = .ok (D.tup [y, z, w]) s1 := fun y z w => if_pos three_le
      have d0 : dep Its.nil = 0 := rfl
      have z0 : sz Its.nil = 0 := rfl
      by_cases c : (f : Int) = 0
      · refine ⟨.grp (.til (1 + k)) i .nil, ⟨⟨by omega, by omega⟩, hn, ho, trivial⟩, ?_, ?_, (fun z => by cases z), ?_⟩
        · show max (1 + dep i) (dep Its.nil) ≤ _
          omega
        · have : (TL.numL (1 + k)).length ≤ 3 := TL.numL_len (by decide) (by omega)
          have : wU.length = 5 := rfl
          show wU.length + (TL.numL (1 + k)).length + 6 + sz i + sz Its.nil ≤ _
          omega
        · rw [eW, e_set, e_if, e_op, e1, rbind_ok, e_c, rbind_ok, oEq_int, decide_eq_true c, rbind_ok]
          simp only [e_tup, e_cons, e_c, e_op, e_var, List.getElem?_cons_zero, List.getElem?_cons_succ, rbind_ok, oAdd_int, e_nil, i3, i1, rto_ok]
          rw [show (1 : Int) + (k : Int) = ((1 + k : Nat) : Int) by omega]
          rfl
      · refine ⟨.grp (.on [102]) i (.pass [100, 114, 111, 112] (some k) .nil), ⟨ok_f, hn, ho, ⟨by decide +kernel, ascS _ (by decide), by decide⟩, (fun m e => by cases e; omega), trivial⟩, ?_, ?_, (fun z => by cases z), ?_⟩
        · show max (1 + dep i) (dep Its.nil) ≤ _
          omega
        · have : (TL.numL k).length ≤ 3 := TL.numL_len (by decide) (by omega)
          have : wO.length = 2 := rfl
          show wO.length + ([102] : List Nat).length + 6 + sz i + ((([100, 114, 111, 112] : List Nat) ++ [32] ++ TL.numL k).length + 2 + sz Its.nil) ≤ _
          simp only [List.length_append, List.length_cons, List.length_nil]
          omega
        · rw [eW, e_set, e_if, e_op, e1, rbind_ok, e_c, rbind_ok, oEq_int, decide_eq_false c, rbind_ok]
          simp only [e_tup, e_cons, e_c, e_op, e_var, List.getElem?_cons_zero, List.getElem?_cons_succ, rbind_ok, oAdd_int, e_nil, i3, i2, rto_ok]
          rfl
    obtain ⟨j, o2', s2, e3, j1, j2, j3, j4, h2⟩ := wrap2_loop x n (k + 1) y (some (.int (k : Int))) o4 o5 o6 s1 (by omega) hy hyn h1.ok
    refine ⟨j, o2', s2, ?_, j1, j2, by omega, by omega, h1.trans h2⟩
    rw [eL, loop_cons (g := none) trivial (gN_eq _ _ _)]
    show (match W_law3 (EL x a (some (.tup (ds i))) (some (.int (k : Int))) o4 o5 o6) s with
        | .nx ε2 s2 => loop none (gN 3) W_law3 (rngL ((k + 1 : Nat) : Int) n) ε2 s2
        | .ct ε2 s2 => loop none (gN 3) W_law3 (rngL ((k + 1 : Nat) : Int) n) ε2 s2
        | .bk ε2 s2 => .nx ε2 s2
        | .rt d s2 => .rt d s2
        | .ex c f d s2 => .ex c f d s2
        | .bad => .bad) = _
    rw [e2]
    exact e3
theorem lt_sum : ∀ (cs w : List Nat) (k : Nat), ((lt w k cs).map fun t => t.1.length).sum ≤ w.length + cs.length
  | [], w, k => by
    unfold lt flush
    split <;> simp
  | c :: cs, w, k => by
    unfold lt
    split
    · have := lt_sum cs (w ++ [c]) (k + 1)
      rw [List.length_append, List.length_singleton] at this
      rw [List.length_cons]
      omega
    · have := lt_sum cs [] (k + 1)
      rw [List.map_append, List.map_append, List.sum_append, List.sum_append, List.length_cons]
      have h1 : ((flush w k).map fun t => t.1.length).sum ≤ w.length := by
        unfold flush
        split <;> simp
      have h2 : ((one c k).map fun t => t.1.length).sum ≤ 1 := by
        unfold one
        split <;> simp
      rw [List.length_nil] at this
      omega
theorem wide_turn {x : D} {t : Tok'} {w : List Nat} {o2 o3 o4 : Option D} {s : S} (h : DrawOk a b s) (ha : Asc w) (ht : Asc t.1) (hl : w.length + 4 + t.1.length ≤ 1000000) :
    ∃ v s', W_law2 (EL x a o2 o3 o4 (some (.str (strOf w))) (some (tokD t))) s = .nx (EL x a o2 o3 o4 (some (.str (strOf v))) (some (tokD t))) s' ∧ Asc v ∧ v.length ≤ w.length + 4 + t.1.length ∧ Dw a b s s' := by
  have eW : W_law2 = (sSet 5 (mOp oAdd (mOp oAdd (mVar 5) (mOp oIx (mLst (mCons (mC (.str (strOf [32]))) (mCons (mC (.str (strOf [10]))) (mCons (mC (.str (strOf [32, 32, 10, 32]))) mNil)))) (takeV 1 3))) (mOp oIx (mVar 6) (mC (.int 0))))) := rfl
  obtain ⟨z, s1, hz, e1, h1⟩ := pick_v (ε := EL x a o2 o3 o4 (some (.str (strOf w))) (some (tokD t))) (i := 1) (xs := [.str (strOf [32]), .str (strOf [10]), .str (strOf [32, 32, 10, 32])]) (ms := (mCons (mC (.str (strOf [32]))) (mCons (mC (.str (strOf [10]))) (mCons (mC (.str (strOf [32, 32, 10, 32]))) mNil)))) h rfl rfl (Dw.of h Pre.refl) (by decide) (by decide)
  have e1 : mOp oIx (mLst (mCons (mC (.str (strOf [32]))) (mCons (mC (.str (strOf [10]))) (mCons (mC (.str (strOf [32, 32, 10, 32]))) mNil)))) (takeV 1 3) (EL x a o2 o3 o4 (some (.str (strOf w))) (some (tokD t))) s = .ok z s1 := e1
  obtain ⟨u, rfl, hu, hul⟩ : ∃ u, z = .str (strOf u) ∧ Asc u ∧ u.length ≤ 4 := by
    simp only [List.mem_cons, List.not_mem_nil, or_false] at hz
    rcases hz with rfl | rfl | rfl
    · exact ⟨_, rfl, ascS _ (by decide), by decide⟩
    · exact ⟨_, rfl, ascS _ (by decide), by decide⟩
    · exact ⟨_, rfl, ascS _ (by decide), by decide⟩
  refine ⟨w ++ u ++ t.1, s1, ?_, asc_app (asc_app ha hu) ht, by simp only [List.length_append]; omega, h1⟩
  rw [eW, e_set, e_op, e_op, mVar_ok (d := .str (strOf w)) rfl, rbind_ok, e1, rbind_ok, add_s (by omega), rbind_ok, e_op, mVar_ok (d := tokD t) rfl, rbind_ok, e_c, rbind_ok, tok0, rbind_ok, add_s (by rw [List.length_append]; omega), rto_ok]
  rfl
theorem wide_loop {x : D} {r : Nat} {c : C} (hr : r ≠ a) : ∀ (T : List Tok') (w : List Nat) (o2 o3 o4 o6 : Option D) (s : S), DrawOk a b s → s[r]? = some c → Asc w → (∀ t ∈ T, Asc t.1) → w.length + 4 * T.length + (T.map fun t => t.1.length).sum ≤ 1000000 →
    ∃ v o6' s', loop (some (r, c)) (gN 6) W_law2 (T.map tokD) (EL x a o2 o3 o4 (some (.str (strOf w))) o6) s = .nx (EL x a o2 o3 o4 (some (.str (strOf v))) o6') s' ∧ Asc v ∧ v.length ≤ w.length + 4 * T.length + (T.map fun t => t.1.length).sum ∧ Dw a b s s'
  | [], w, o2, o3, o4, o6, s, h, hc, ha, _, hl => ⟨w, o6, s, loop_nil (g := some (r, c)) hc, ha, by omega, Dw.of h Pre.refl⟩
  | t :: T, w, o2, o3, o4, o6, s, h, hc, ha, ht, hl => by
    rw [List.length_cons, List.map_cons, List.sum_cons] at hl
    obtain ⟨v, s1, e1, v1, v2, h1⟩ := wide_turn (x := x) (t := t) (o2 := o2) (o3 := o3) (o4 := o4) h ha (ht t List.mem_cons_self) (by omega)
    obtain ⟨u, o, s2, e2, u1, u2, h2⟩ := wide_loop (x := x) hr T v o2 o3 o4 (some (tokD t)) s1 h1.ok (h1.keep _ _ hr hc) v1 (fun y hy => ht y (List.mem_cons_of_mem _ hy)) (by omega)
    refine ⟨u, o, s2, ?_, u1, by rw [List.length_cons, List.map_cons, List.sum_cons]; omega, h1.trans h2⟩
    rw [List.map_cons, loop_cons (g := some (r, c)) hc (gN_eq _ _ _)]
    show (match W_law2 (EL x a o2 o3 o4 (some (.str (strOf w))) (some (tokD t))) s with
        | .nx ε2 s2 => loop (some (r, c)) (gN 6) W_law2 (T.map tokD) ε2 s2
        | .ct ε2 s2 => loop (some (r, c)) (gN 6) W_law2 (T.map tokD) ε2 s2
        | .bk ε2 s2 => .nx ε2 s2
        | .rt d s2 => .rt d s2
        | .ex c f d s2 => .ex c f d s2
        | .bad => .bad) = _
    rw [e1]
    exact e2
theorem bent_loop {x : D} {t : List Nat} (ha : Asc t) (hl : t.length ≤ 100000) : ∀ (n k : Nat) (o2 o3 o5 o6 : Option D) (s : S), DrawOk a b s →
    ∃ o3' s', loop none (gN 3) W_law1 (rngL (k : Int) n) (EL x a o2 o3 (some (.str (strOf t))) o5 o6) s = .nx (EL x a o2 o3' (some (.str (strOf t))) o5 o6) s' ∧ Dw a b s s'
  | 0, k, o2, o3, o5, o6, s, h => ⟨o3, s, loop_nil (g := none) trivial, Dw.of h Pre.refl⟩
  | n + 1, k, o2, o3, o5, o6, s, h => by
    have eL : rngL (k : Int) (n + 1) = .int (k : Int) :: rngL ((k + 1 : Nat) : Int) n := by
      show D.int (k : Int) :: rngL ((k : Int) + 1) n = _
      rw [show (k : Int) + 1 = ((k + 1 : Nat) : Int) by omega]
    obtain ⟨u, s1, e1, u1, u2, h1⟩ := bent_ok ha hl h
    obtain ⟨s2, e2, q2⟩ := reads_ok u1 (show u.length ≤ 1000000 by omega) s1
    have h2 := h1.pre q2
    obtain ⟨o, s3, e3, h3⟩ := bent_loop (x := x) ha hl n (k + 1) o2 (some (.int (k : Int))) o5 o6 s2 h2.ok
    refine ⟨o, s3, ?_, h2.trans h3⟩
    rw [eL, loop_cons (g := none) trivial (gN_eq _ _ _)]
    have eW : W_law1 (EL x a o2 (some (.int (k : Int))) (some (.str (strOf t))) o5 o6) s = .nx (EL x a o2 (some (.int (k : Int))) (some (.str (strOf t))) o5 o6) s2 := by
      unfold W_law1
      rw [e_sif, e_not, e_call, e_cons, e_call, e_cons, mVar_ok (d := .ref a) rfl, rbind_ok, e_cons, mVar_ok (d := .str (strOf t)) rfl, rbind_ok, e_nil, rbind_ok, rbind_ok, rbind_ok, e1, rbind_ok, e_nil, rbind_ok, rbind_ok, e2, rbind_ok]
      rfl
    show (match W_law1 (EL x a o2 (some (.int (k : Int))) (some (.str (strOf t))) o5 o6) s with
        | .nx ε2 s2 => loop none (gN 3) W_law1 (rngL ((k + 1 : Nat) : Int) n) ε2 s2
        | .ct ε2 s2 => loop none (gN 3) W_law1 (rngL ((k + 1 : Nat) : Int) n) ε2 s2
        | .bk ε2 s2 => .nx ε2 s2
        | .rt d s2 => .rt d s2
        | .ex c f d s2 => .ex c f d s2
        | .bad => .bad) = _
    rw [eW]
    exact e3
/-- the items of the law -/
noncomputable def itemsM : M := (mIf (mOp oGt (takeV 1 12) (mC (.int 0))) (mCall (F__law_items 6) (mCons (mVar 1) (mCons (takeV 1 4) mNil))) (mTup mNil))
theorem itemsM_ok {x : D} {s : S} (h : DrawOk a b s) : ∃ i s', itemsM (EL x a none none none none none) s = .ok (.tup (ds i)) s' ∧ ok i ∧ dep i ≤ 3 ∧ sz i ≤ 4800 ∧ Dw a b s s' := by
  unfold itemsM
  obtain ⟨f, hf, s1, e1, h1⟩ := take_v (ε := EL x a none none none none none) (i := 1) (m := 12) h rfl (by decide) (by decide)
  rw [e_if, e_op, e1, rbind_ok, e_c, rbind_ok, oGt_int, rbind_ok]
  by_cases c : (0 : Int) < (f : Int)
  · obtain ⟨d, hd, s2, e2, h2⟩ := take_v (ε := EL x a none none none none none) (i := 1) (m := 4) h1.ok rfl (by decide) (by decide)
    obtain ⟨i, s3, e3, i1, i2, i3, i4, h3⟩ := items_draw 6 d (by omega) (by omega) s2 h2.ok
    have := Sb_le (d := d) (by omega)
    refine ⟨i, s3, ?_, i1, by omega, by omega, (h1.trans h2).trans h3⟩
    rw [decide_eq_true c]
    show (mCall (F__law_items 6) (mCons (mVar 1) (mCons (takeV 1 4) mNil))) (EL x a none none none none none) s1 = _
    rw [e_call, e_cons, mVar_ok (d := .ref a) rfl, rbind_ok, e_cons, e2, rbind_ok, e_nil, rbind_ok, rbind_ok, rbind_ok, e3]
  · refine ⟨.nil, s1, ?_, trivial, by decide, by decide, h1⟩
    rw [decide_eq_false c]
    show (mTup mNil) (EL x a none none none none none) s1 = _
    rw [e_tup, e_nil, rbind_ok, if_pos (show ([] : List D).length ≤ sizeLine from Nat.zero_le _)]
    rfl
noncomputable def wrapB : B := (sIf (mAnd (mOp oEq (takeV 1 3) (mC (.int 0))) (mOp oNe (mVar 2) (mTup mNil)))
  (sFor (iRng1 (mCons (mOp oIx (mLst (mCons (mC (.int 1)) (mCons (mC (.int 2)) (mCons (mC (.int 3)) (mCons (mC (.int 3)) mNil))))) (takeV 1 4)) mNil)) (gN 3) W_law3)
  bNil)
theorem wrapB_ok {x : D} {i : Its} {s : S} (h : DrawOk a b s) (ho : ok i) (hd : dep i ≤ 3) (hz : sz i ≤ 4800) : ∃ j o3 s', wrapB (EL x a (some (.tup (ds i))) none none none none) s = .nx (EL x a (some (.tup (ds j))) o3 none none none) s' ∧ ok j ∧ dep j ≤ 6 ∧ sz j ≤ 4920 ∧ Dw a b s s' := by
  unfold wrapB
  obtain ⟨f, hf, s1, e1, h1⟩ := take_v (ε := EL x a (some (.tup (ds i))) none none none none) (i := 1) (m := 3) h rfl (by decide) (by decide)
  have e2 := oNe_of (tup_nil ho (show dep i ≤ 20 by omega) s1)
  have ec : (mAnd (mOp oEq (takeV 1 3) (mC (.int 0))) (mOp oNe (mVar 2) (mTup mNil))) (EL x a (some (.tup (ds i))) none none none none) s = .ok (.bl (decide ((f : Int) = 0) && !decide (ds i = []))) s1 := by
    rw [e_and, e_op, e1, rbind_ok, e_c, rbind_ok, oEq_int, rbind_ok]
    by_cases c : (f : Int) = 0
    · rw [decide_eq_true c]
      show (mOp oNe (mVar 2) (mTup mNil)) (EL x a (some (.tup (ds i))) none none none none) s1 = _
      rw [e_op, mVar_ok (d := .tup (ds i)) rfl, rbind_ok, e_tup, e_nil, rbind_ok, if_pos (show ([] : List D).length ≤ sizeLine from Nat.zero_le _), rbind_ok, e2, Bool.true_and]
    · rw [decide_eq_false c, Bool.false_and]
  rw [e_sif, ec, rto_ok]
  cases hb : (decide ((f : Int) = 0) && !decide (ds i = [])) with
  | false =>
    rw [ifK_f, e_bnil]
    exact ⟨i, none, s1, rfl, ho, by omega, by omega, h1⟩
  | true =>
    have hn : i ≠ .nil := fun z => by
      rw [decide_eq_true (ds_nil.mpr z)] at hb
      simp at hb
    rw [ifK_t]
    obtain ⟨z, s2, hz2, e3, h2⟩ := pick_v (ε := EL x a (some (.tup (ds i))) none none none none) (i := 1) (xs := [.int 1, .int 2, .int 3, .int 3]) (ms := (mCons (mC (.int 1)) (mCons (mC (.int 2)) (mCons (mC (.int 3)) (mCons (mC (.int 3)) mNil))))) h1.ok rfl rfl (Dw.of h1.ok Pre.refl) (by decide) (by decide)
    have e3 : mOp oIx (mLst (mCons (mC (.int 1)) (mCons (mC (.int 2)) (mCons (mC (.int 3)) (mCons (mC (.int 3)) mNil))))) (takeV 1 4) (EL x a (some (.tup (ds i))) none none none none) s1 = .ok z s2 := e3
    obtain ⟨n, rfl, hn3⟩ : ∃ n : Nat, z = .int (n : Int) ∧ n ≤ 3 := by
      simp only [List.mem_cons, List.not_mem_nil, or_false] at hz2
      rcases hz2 with rfl | rfl | rfl | rfl
      · exact ⟨1, rfl, by decide⟩
      · exact ⟨2, rfl, by decide⟩
      · exact ⟨3, rfl, by decide⟩
      · exact ⟨3, rfl, by decide⟩
    obtain ⟨j, o3, s3, e4, j1, j2, j3, j4, h3⟩ := wrap2_loop x n 0 i none none none none s2 (by omega) ho hn (h1.trans h2).ok
    have : n * 40 ≤ 3 * 40 := Nat.mul_le_mul_right _ hn3
    refine ⟨j, o3, s3, ?_, j1, by omega, by omega, (h1.trans h2).trans h3⟩
    rw [e_for, e_rng1, e_cons, e3, rbind_ok, e_nil, rbind_ok, rbind_ok, e_rngK1, rto_ok, show ((n : Int)).toNat = n by omega]
    exact e4
end
theorem law_ok (ns : List Int) (hn : ns.length ≤ 63) : ∃ s, F_law [.frl (ns.map D.int)] [] = .ok (.bl true) s := by
  have e0 : F_law [.frl (ns.map D.int)] [] = runO (B_law [some (.frl (ns.map D.int)), none, none, none, none, none, none] []) := by
    unfold F_law
    rw [runF_eq (n := 1) rfl]
    rfl
  have eB : B_law = (bSeq (sSet 1 (mCall F__law_draw (mCons (mVar 0) mNil)))
    (bSeq (sIf (mOp oNe (mC (.tup (List.map D.str gs_PASSES))) (mCall cTuple (mCons (mCall F__law_words mNil) mNil))) (sRet (mC (.bl false))) bNil)
    (bSeq (sSet 2 itemsM)
    (bSeq wrapB
    (bSeq (sSet 4 (mCall (F__law_show 12) (mCons (mVar 2) mNil)))
    (bSeq (sIf (mOr (mOp oNe (mCall (F_show_script 12) (mCons (mVar 2) mNil)) (mVar 4)) (mNot (mCall F__law_reads (mCons (mVar 4) mNil)))) (sRet (mC (.bl false))) bNil)
    (bSeq (sSet 5 (mC (.str (strOf []))))
    (bSeq (sFor (iSeq (mCall F__law_tokens (mCons (mVar 4) mNil))) (gN 6) W_law2)
    (bSeq (sIf (mNot (mCall F__law_reads (mCons (mVar 5) mNil))) (sRet (mC (.bl false))) bNil)
    (bSeq (sFor (iRng1 (mCons (mC (.int 4)) mNil)) (gN 3) W_law1)
    (sRet (mCall F__law_deep_ones (mCons (mVar 1) (mCons (mVar 2) mNil)))))))))))))) := rfl
  obtain ⟨s1, e1, h1⟩ := draw_ok ns hn
  rw [e0, eB, e_seq, e_set, e_call, e_cons, mVar_ok (d := .frl (ns.map D.int)) rfl, rbind_ok, e_nil, rbind_ok, rbind_ok, e1, rto_ok, obind_nx]
  generalize D.frl (ns.map D.int) = x
  rw [show ([some x, none, none, none, none, none, none] : Ev).set 1 (some (.ref 1)) = EL x 1 none none none none none from rfl]
  obtain ⟨k, s2, e2, q2, hk⟩ := words_ok s1
  have h2 := h1.pre q2
  rw [e_seq, e_sif, e_op, e_c, rbind_ok, e_call, e_cons, e_call, e_nil, rbind_ok, e2, rbind_ok, e_nil, rbind_ok, rbind_ok, cTuple_l hk, rbind_ok, passes_same, rto_ok, ifK_f, e_bnil, obind_nx]
  obtain ⟨i, s3, e3, i1, i2, i3, h3⟩ := itemsM_ok (x := x) h2
  rw [e_seq, e_set, e3, rto_ok, obind_nx, show (EL x 1 none none none none none).set 2 (some (.tup (ds i))) = EL x 1 (some (.tup (ds i))) none none none none from rfl]
  obtain ⟨j, o3, s4, e4, j1, j2, j3, h4⟩ := wrapB_ok (x := x) h3.ok i1 i2 i3
  rw [e_seq, e4, obind_nx]
  have hA := sh_asc j1
  have hL := sh_len j
  rw [e_seq, e_set, e_call, e_cons, mVar_ok (d := .tup (ds j)) rfl, rbind_ok, e_nil, rbind_ok, rbind_ok, lshow_ok 12 j s4 j1 (by omega) (by omega), rto_ok, obind_nx]
  rw [show (EL x 1 (some (.tup (ds j))) o3 none none none).set 4 (some (.str (strOf (sh j)))) = EL x 1 (some (.tup (ds j))) o3 (some (.str (strOf (sh j)))) none none from rfl]
  obtain ⟨s5, e5, q5⟩ := show_ok 12 j s4 j1 (by omega) (by omega)
  obtain ⟨s6, e6, q6⟩ := reads_ok hA (show (sh j).length ≤ 1000000 by omega) s5
  have ec : (mOr (mOp oNe (mCall (F_show_script 12) (mCons (mVar 2) mNil)) (mVar 4)) (mNot (mCall F__law_reads (mCons (mVar 4) mNil)))) (EL x 1 (some (.tup (ds j))) o3 (some (.str (strOf (sh j)))) none none) s4 = .ok (.bl false) s6 := by
    have e5' := oNe_s hA hA s5
    rw [decide_eq_true rfl] at e5'
    simp only [e_or, e_op, e_call, e_cons, e_var, List.getElem?_cons_zero, List.getElem?_cons_succ, rbind_ok, e_nil, e5, e5', Bool.not_true, e_not, e6]
  rw [e_seq, e_sif, ec, rto_ok, ifK_f, e_bnil, obind_nx]
  have h6 := (h4.pre q5).pre q6
  rw [e_seq, e_set, e_c, rto_ok, obind_nx]
  rw [show (EL x 1 (some (.tup (ds j))) o3 (some (.str (strOf (sh j)))) none none).set 5 (some (.str (strOf []))) = EL x 1 (some (.tup (ds j))) o3 (some (.str (strOf (sh j)))) (some (.str (strOf []))) none from rfl]
  have eT := law_tokens_ok hA (show (sh j).length ≤ 1000000 by omega) s6
  have h7 : Dw 1 0 s3 (s6 ++ [C.lst ((lt [] 0 (sh j) ++ [([], (sh j).length)]).map tokD)]) := h6.pre Pre.app
  have hq : (s6 ++ [C.lst ((lt [] 0 (sh j) ++ [([], (sh j).length)]).map tokD)])[s6.length]? = some (C.lst ((lt [] 0 (sh j) ++ [([], (sh j).length)]).map tokD)) := app_last
  have hr : s6.length ≠ 1 := fun z => by
    have := h6.ok.lt
    omega
  generalize s6 ++ [C.lst ((lt [] 0 (sh j) ++ [([], (sh j).length)]).map tokD)] = s7 at eT h7 hq
  have hsum := lt_sum (sh j) [] 0
  have hlen := lt_len (sh j) 0 []
  have hmem : ∀ t ∈ lt [] 0 (sh j) ++ [([], (sh j).length)], Asc t.1 := fun t ht => by
    rcases List.mem_append.mp ht with ht | ht
    · exact (lt_mem (sh j) [] 0 asc0 hA t ht).2.1
    · rw [List.mem_singleton.mp ht]
      exact asc0
  have hb1 : ((lt [] 0 (sh j) ++ [([], (sh j).length)]).map fun (t : Tok') => t.1.length).sum ≤ (sh j).length := by
    rw [List.map_append, List.sum_append]
    simp only [List.map_cons, List.map_nil, List.sum_cons, List.sum_nil, List.length_nil] at *
    omega
  have hb2 : (lt [] 0 (sh j) ++ [([], (sh j).length)]).length ≤ 2 * (sh j).length + 2 := by
    rw [List.length_append, List.length_singleton]
    omega
  obtain ⟨v, o6, s8, e8, v1, v2, h8⟩ := wide_loop (x := x) hr (lt [] 0 (sh j) ++ [([], (sh j).length)]) [] (some (.tup (ds j))) o3 (some (.str (strOf (sh j)))) none s7 h7.ok hq asc0 hmem (by rw [List.length_nil]; omega)
  have eI : itemsK (.ref s6.length) s7 = .ok ((lt [] 0 (sh j) ++ [([], (sh j).length)]).map tokD, some (s6.length, C.lst ((lt [] 0 (sh j) ++ [([], (sh j).length)]).map tokD))) s7 := by
    show cellK s6.length s7[s6.length]? s7 = _
    rw [hq]
    rfl
  rw [e_seq, e_for, e_iseq, e_call, e_cons, mVar_ok (d := .str (strOf (sh j))) rfl, rbind_ok, e_nil, rbind_ok, rbind_ok, eT, rbind_ok, eI, rto_ok]
  show ∃ s, runO ((loop (some (s6.length, C.lst ((lt [] 0 (sh j) ++ [([], (sh j).length)]).map tokD))) (gN 6) W_law2 ((lt [] 0 (sh j) ++ [([], (sh j).length)]).map tokD) _ s7).bind _) = _
  rw [e8, obind_nx]
  rw [List.length_nil] at v2
  obtain ⟨s9, e9, q9⟩ := reads_ok v1 (show v.length ≤ 1000000 by omega) s8
  have h9 := (h7.trans h8).pre q9
  rw [e_seq, e_sif, e_not, e_call, e_cons, mVar_ok (d := .str (strOf v)) rfl, rbind_ok, e_nil, rbind_ok, rbind_ok, e9, rbind_ok]
  show ∃ s, runO ((((R.ok (D.bl false) s9).to (ifK (sRet (mC (.bl false))) bNil _)).bind _ : O)) = _
  rw [rto_ok, ifK_f, e_bnil, obind_nx]
  obtain ⟨o3', s10, e10, h10⟩ := bent_loop (x := x) hA (show (sh j).length ≤ 100000 by omega) 4 0 (some (.tup (ds j))) o3 (some (.str (strOf v))) o6 s9 h9.ok
  have e10 : loop none (gN 3) W_law1 (rngL 0 4) (EL x 1 (some (.tup (ds j))) o3 (some (.str (strOf (sh j)))) (some (.str (strOf v))) o6) s9 = _ := e10
  rw [e_seq, e_for, e_rng1, e_cons, e_c, rbind_ok, e_nil, rbind_ok, rbind_ok, e_rngK1, rto_ok, show ((4 : Int)).toNat = 4 from rfl]
  show ∃ s, runO ((loop none (gN 3) W_law1 (rngL 0 4) (EL x 1 (some (.tup (ds j))) o3 (some (.str (strOf (sh j)))) (some (.str (strOf v))) o6) s9).bind _) = _
  rw [e10, obind_nx]
  obtain ⟨s11, e11⟩ := deep_ok j1 (show dep j ≤ 8 by omega) (show sz j ≤ 60000 by omega) h10.ok
  refine ⟨s11, ?_⟩
  rw [e_ret, e_call, e_cons, mVar_ok (d := .ref 1) rfl, rbind_ok, e_cons, mVar_ok (d := .tup (ds j)) rfl, rbind_ok, e_nil, rbind_ok, rbind_ok, rbind_ok, e11, rto_ok, runO_rt]
end G83
end Mi

open PySem PySem.W PyProof.Rows
set_option maxRecDepth 100000 in
set_option maxHeartbeats 0 in
theorem PySem.Challenge.cw_burnish_k83_scripts_read_back_holds : PySem.Challenge.rw_burnish_k83_scripts_read_back.Holds := by
  w_on; o_law; k_head; (case hw => w_witness2)
  k_fill
  refine Mi.end_of (l := PySem.Challenge.rw_burnish_k83_scripts_read_back) (n := 63) (k := 44) (x := "_law_script") (F := Mi.G83.F_law) rfl (by decide) rfl ⟨rfl, by decide, by decide⟩ (fun w h Y => PySem.W.kIn_of Y) ?Ftop ?Math
  case Math => exact fun ns hn _ => Mi.G83.law_ok ns hn
  case Ftop =>
    intro w mg h X G
    refine' Mi.G83.top_ok X G ?D_show_item ?D_show_script ?D_is_word_sign ?D_script_tokens ?D_ScriptReader___init__ ?D_ScriptReader_here ?D_ScriptReader_offset ?D_ScriptReader_accept ?D_ScriptReader_read_number ?D_ScriptReader_read_items ?D_ScriptReader_read_group ?D_ScriptReader_read_item ?D_read_script ?D__law_draw ?D__law_take ?D__law_words ?D__law_name ?D__law_items ?D__law_show ?D__law_depth ?D__law_tokens ?D__law_number ?D__law_read_item ?D__law_read_items ?D__law_due ?D__law_reads ?D__law_bent ?D__law_deep_ones ?D_law ?K_ScriptReader ?fld_ScriptReader_at ?fld_ScriptReader_last ?fld_ScriptReader_tokens ?n_ValueError ?n_abs ?n_int ?n_isinstance ?n_len ?n_max ?n_range ?n_str ?n_tuple ?g_DEEPEST ?g_MOST_AMOUNT ?g_MOST_TIMES ?g_PASSES ?r_ScriptError ?S
    (case D_show_item => refine' Mi.defIs ?a ?l ?c ?k; (case a => k_is); (case l => k_is); (case c => k_is); (case k => k_is))
    (case D_show_script => refine' Mi.defIs ?a ?l ?c ?k; (case a => k_is); (case l => k_is); (case c => k_is); (case k => k_is))
    (case D_is_word_sign => refine' Mi.defIs ?a ?l ?c ?k; (case a => k_is); (case l => k_is); (case c => k_is); (case k => k_is))
    (case D_script_tokens => refine' Mi.defIs ?a ?l ?c ?k; (case a => k_is); (case l => k_is); (case c => k_is); (case k => k_is))
    (case D_ScriptReader___init__ => refine' Mi.methIs ?a ?b ?i ?l ?c ?k; (case a => k_is); (case b => k_is); (case i => k_is); (case l => k_is); (case c => k_is); (case k => k_is))
    (case D_ScriptReader_here => refine' Mi.methIs ?a ?b ?i ?l ?c ?k; (case a => k_is); (case b => k_is); (case i => k_is); (case l => k_is); (case c => k_is); (case k => k_is))
    (case D_ScriptReader_offset => refine' Mi.methIs ?a ?b ?i ?l ?c ?k; (case a => k_is); (case b => k_is); (case i => k_is); (case l => k_is); (case c => k_is); (case k => k_is))
    (case D_ScriptReader_accept => refine' Mi.methIs ?a ?b ?i ?l ?c ?k; (case a => k_is); (case b => k_is); (case i => k_is); (case l => k_is); (case c => k_is); (case k => k_is))
    (case D_ScriptReader_read_number => refine' Mi.methIs ?a ?b ?i ?l ?c ?k; (case a => k_is); (case b => k_is); (case i => k_is); (case l => k_is); (case c => k_is); (case k => k_is))
    (case D_ScriptReader_read_items => refine' Mi.methIs ?a ?b ?i ?l ?c ?k; (case a => k_is); (case b => k_is); (case i => k_is); (case l => k_is); (case c => k_is); (case k => k_is))
    (case D_ScriptReader_read_group => refine' Mi.methIs ?a ?b ?i ?l ?c ?k; (case a => k_is); (case b => k_is); (case i => k_is); (case l => k_is); (case c => k_is); (case k => k_is))
    (case D_ScriptReader_read_item => refine' Mi.methIs ?a ?b ?i ?l ?c ?k; (case a => k_is); (case b => k_is); (case i => k_is); (case l => k_is); (case c => k_is); (case k => k_is))
    (case D_read_script => refine' Mi.defIs ?a ?l ?c ?k; (case a => k_is); (case l => k_is); (case c => k_is); (case k => k_is))
    (case D__law_draw => refine' Mi.defIs ?a ?l ?c ?k; (case a => k_is); (case l => k_is); (case c => k_is); (case k => k_is))
    (case D__law_take => refine' Mi.defIs ?a ?l ?c ?k; (case a => k_is); (case l => k_is); (case c => k_is); (case k => k_is))
    (case D__law_words => refine' Mi.defIs ?a ?l ?c ?k; (case a => k_is); (case l => k_is); (case c => k_is); (case k => k_is))
    (case D__law_name => refine' Mi.defIs ?a ?l ?c ?k; (case a => k_is); (case l => k_is); (case c => k_is); (case k => k_is))
    (case D__law_items => refine' Mi.defIs ?a ?l ?c ?k; (case a => k_is); (case l => k_is); (case c => k_is); (case k => k_is))
    (case D__law_show => refine' Mi.defIs ?a ?l ?c ?k; (case a => k_is); (case l => k_is); (case c => k_is); (case k => k_is))
    (case D__law_depth => refine' Mi.defIs ?a ?l ?c ?k; (case a => k_is); (case l => k_is); (case c => k_is); (case k => k_is))
    (case D__law_tokens => refine' Mi.defIs ?a ?l ?c ?k; (case a => k_is); (case l => k_is); (case c => k_is); (case k => k_is))
    (case D__law_number => refine' Mi.defIs ?a ?l ?c ?k; (case a => k_is); (case l => k_is); (case c => k_is); (case k => k_is))
    (case D__law_read_item => refine' Mi.defIs ?a ?l ?c ?k; (case a => k_is); (case l => k_is); (case c => k_is); (case k => k_is))
    (case D__law_read_items => refine' Mi.defIs ?a ?l ?c ?k; (case a => k_is); (case l => k_is); (case c => k_is); (case k => k_is))
    (case D__law_due => refine' Mi.defIs ?a ?l ?c ?k; (case a => k_is); (case l => k_is); (case c => k_is); (case k => k_is))
    (case D__law_reads => refine' Mi.defIs ?a ?l ?c ?k; (case a => k_is); (case l => k_is); (case c => k_is); (case k => k_is))
    (case D__law_bent => refine' Mi.defIs ?a ?l ?c ?k; (case a => k_is); (case l => k_is); (case c => k_is); (case k => k_is))
    (case D__law_deep_ones => refine' Mi.defIs ?a ?l ?c ?k; (case a => k_is); (case l => k_is); (case c => k_is); (case k => k_is))
    (case D_law => refine' Mi.defIs ?a ?l ?c ?k; (case a => k_is); (case l => k_is); (case c => k_is); (case k => k_is))
    (case K_ScriptReader => refine' Mi.clsIs ?a ?b ?c ?d ?e ?f ?g; (case a => k_is); (case b => k_is); (case c => k_is); (case d => k_is); (case e => k_is); (case f => k_is); (case g => k_is))
    (case fld_ScriptReader_at => refine' Mi.fldIs ?a ?b; (case a => k_is); (case b => k_is))
    (case fld_ScriptReader_last => refine' Mi.fldIs ?a ?b; (case a => k_is); (case b => k_is))
    (case fld_ScriptReader_tokens => refine' Mi.fldIs ?a ?b; (case a => k_is); (case b => k_is))
    (case n_ValueError => k_is)
    (case n_abs => k_is)
    (case n_int => k_is)
    (case n_isinstance => k_is)
    (case n_len => k_is)
    (case n_max => k_is)
    (case n_range => k_is)
    (case n_str => k_is)
    (case n_tuple => k_is)
    (case g_DEEPEST => k_is)
    (case g_MOST_AMOUNT => k_is)
    (case g_MOST_TIMES => k_is)
    (case g_PASSES => refine' Mi.gtupIs ?a ?l ?zz ?v; (case a => k_is); (case l => k_is); (case zz => decide +kernel); (case v => exact (by repeat first | exact .nil | refine .cons ⟨_, rfl⟩ ?_)))
    (case r_ScriptError => refine' Mi.rs_mk X G ?z_aC ?z_xC ?z_hb ?z_al ?z_sa ?z_no ?z_iC ?z_tC ?z_kC ?z_exC ?z_veC ?z_tyC ?z_nS ?z_ops ?z_lI ?z_cI ?z_lc ?z_ld ?z_hvs ?z_hf ?z_hl ?z_tp; (case z_aC => k_is); (case z_xC => k_is); (case z_hb => decide +kernel); (case z_al => ks_is); (case z_sa => k_is); (case z_no => k_is); (case z_iC => k_is); (case z_tC => k_is); (case z_kC => k_is); (case z_exC => k_is); (case z_veC => k_is); (case z_tyC => k_is); (case z_nS => k_is); (case z_ops => k_is); (case z_lI => k_is); (case z_cI => k_is); (case z_lc => k_is); (case z_ld => k_is); (case z_hvs => rfl); (case z_hf => decide +kernel); (case z_hl => decide +kernel); (case z_tp => decide +kernel))
    (case S => refine' Mi.errS_mk X G ?z_aC ?z_aB ?z_hc ?z_hg ?z_hk ?z_hs ?z_ha ?z_hn ?z_ht ?z_hm ?z_hd ?z_no ?z_tyC ?z_sCC ?z_sB ?z_hdB ?z_tyB ?z_sCB ?z_kv ?z_kb ?z_nI ?z_nV; (case z_aC => first | k_is | rfl | decide +kernel); (case z_aB => first | k_is | rfl | decide +kernel); (case z_hc => first | k_is | rfl | decide +kernel); (case z_hg => first | k_is | rfl | decide +kernel); (case z_hk => first | k_is | rfl | decide +kernel); (case z_hs => first | k_is | rfl | decide +kernel); (case z_ha => first | k_is | rfl | decide +kernel); (case z_hn => first | k_is | rfl | decide +kernel); (case z_ht => first | k_is | rfl | decide +kernel); (case z_hm => first | k_is | rfl | decide +kernel); (case z_hd => first | k_is | rfl | decide +kernel); (case z_no => first | k_is | rfl | decide +kernel); (case z_tyC => first | k_is | rfl | decide +kernel); (case z_sCC => first | k_is | rfl | decide +kernel); (case z_sB => first | k_is | rfl | decide +kernel); (case z_hdB => first | k_is | rfl | decide +kernel); (case z_tyB => first | k_is | rfl | decide +kernel); (case z_sCB => first | k_is | rfl | decide +kernel); (case z_kv => first | k_is | rfl | decide +kernel); (case z_kb => first | k_is | rfl | decide +kernel); (case z_nI => first | k_is | rfl | decide +kernel); (case z_nV => first | k_is | rfl | decide +kernel))

