import PyProof.Rows.All
import Wide.All
import OpenK.AllK
import Wide.FinOn
import HandS.ForMost
import HandS.ForExc
import HandS.TryMany
import HandS.Wide
import HandS.WideBits
import HandS.IsInst
import HandS.TupAny
import HandS.Conv
import HandS.Style
import HandS.TupMul
import HandS.TupLe
import HandS.Iter
import HandS.Zip
import HandS.Rev
import HandS.Dict
import HandS.Defaults
import HandS.Head0
import HandS.Head1
import HandS.Head2
import HandS.HeadEnd
import HandS.HeadHook1
import HandS.HeadHook2
import HandS.HeadHook3
import HandS.HeadHook4
import HandS.Text
import HandS.SortInts
import HandS.RaiseMore
import PySem.Challenge.RW_turnsexact_k02_reals
set_option Elab.async false
set_option linter.all false
set_option maxRecDepth 100000
set_option maxHeartbeats 2000000
namespace Dl
open PySem PySem.Spec PyProof.Rows L2
abbrev D := PyData
/-- what may be written: data never leans on it -/
abbrev Ms := Addr → Prop
/-- a list that is read, its object plain: tracked, locked, or of the written part -/
def SqX (K : PySem.W.Frag) (H : Hp) (a : Addr) (xs : List V) : Prop :=
  Rd H a (.lst xs) ∨ ∃ (its : List Value) (n : Nat), K.lookup a = some { cls := .type "list", data := .seq its.toArray n } ∧ its.length ≤ sizeLine ∧ Vals xs its
theorem SqX.sq {K : PySem.W.Frag} {H : Hp} {a : Addr} {xs : List V} (h : SqX K H a xs) : SqL K H a xs := by
  rcases h with h | ⟨its, n, e, z, r⟩
  · exact .inl h
  · exact .inr ⟨_, its.toArray, n, e, rfl, rfl, rfl, by simpa using z, by simpa using r⟩
theorem SqX.of {K : PySem.W.Frag} {H : Hp} {a : Addr} {xs : List V} (h : H a = some (.lst xs)) : SqX K H a xs := .inl (.inl h)
theorem SqX.at {X : Cx} {pins : List (Addr × Obj)} {σ : L2.St} {H : Hp} {s : Shared} {a : Addr} {xs : List V} (I : Inv X pins σ H s) (h : SqX X.K H a xs) :
    xs.length ≤ sizeLine ∧ ∃ (its : List Value) (n : Nat), Vals xs its ∧ s.heap.get? a = some { cls := .type "list", data := .seq its.toArray n } := by
  rcases h with h | ⟨its, n, e, z, r⟩
  · exact h.ok I.hok
  · exact ⟨by rw [r.length]; exact z, its, n, r, I.kIn a _ e⟩
mutual
inductive R (K : PySem.W.Frag) (H : Hp) (M : Ms) : V → D → Prop
  | non : R K H M .non .none
  | bl (b : Bool) : R K H M (.bl b) (.bool b)
  | int (i : Int) : R K H M (.int i) (.int i)
  | str (x : Str) : R K H M (.str x) (.str x)
  | lst {a : Addr} {xs : List V} {ds : List D} : Rd H a (.lst xs) → ¬ M a → Rs K H M xs ds → R K H M (.ref a) (.list ds)
  | klst {a : Addr} {xs : List V} {ds : List D} : SqX K (fun _ => none) a xs → Rs K H M xs ds → R K H M (.ref a) (.list ds)
  | tup {a : Addr} {xs : List V} {ds : List D} : Rd H a (.tup xs) → ¬ M a → Rs K H M xs ds → R K H M (.ref a) (.tuple ds)
  | ktup {a : Addr} {xs : List V} {ds : List D} : SqT K (fun _ => none) a xs → Rs K H M xs ds → R K H M (.ref a) (.tuple ds)
  | dic {a : Addr} : H a = some (.dK []) → ¬ M a → R K H M (.ref a) (.dict [])
inductive Rs (K : PySem.W.Frag) (H : Hp) (M : Ms) : List V → List D → Prop
  | nil : Rs K H M [] []
  | cons {v : V} {vs : List V} {d : D} {ds : List D} : R K H M v d → Rs K H M vs ds → Rs K H M (v :: vs) (d :: ds)
end
section
variable {K : PySem.W.Frag} {H H' : Hp} {M M' : Ms}
/-- from one heap to another: what is tracked and not of M stands; what is newly of M' was not tracked -/
structure Mv (H : Hp) (M : Ms) (H' : Hp) (M' : Ms) : Prop where
  fr : ∀ b o, H b = some o → ¬ M b → H' b = some o
  ow : ∀ a, M' a → M a ∨ H a = none
theorem Mv.rd (m : Mv H M H' M') {a : Addr} {u : HO} (h : Rd H a u) (n : ¬ M a) : Rd H' a u ∧ ¬ M' a := by
  rcases h with h | ⟨o, h⟩
  · refine ⟨.inl (m.fr _ _ h n), fun z => ?_⟩
    rcases m.ow a z with q | q
    · exact n q
    · rw [h] at q; cases q
  · refine ⟨.inr ⟨o, m.fr _ _ h n⟩, fun z => ?_⟩
    rcases m.ow a z with q | q
    · exact n q
    · rw [h] at q; cases q
theorem SqX.none {a : Addr} {xs : List V} (h : SqX K (fun _ => .none) a xs) : SqX K H a xs := by
  rcases h with (h | ⟨o, h⟩) | h
  · cases h
  · cases h
  · exact .inr h
theorem sqT_none {a : Addr} {xs : List V} (h : SqT K (fun _ => .none) a xs) : SqT K H a xs := by
  rcases h with (h | ⟨o, h⟩) | h
  · cases h
  · cases h
  · exact .inr h
mutual
theorem R.mv (m : Mv H M H' M') : ∀ {v : V} {d : D}, R K H M v d → R K H' M' v d
  | _, _, .non => .non
  | _, _, .bl b => .bl b
  | _, _, .int i => .int i
  | _, _, .str x => .str x
  | _, _, .lst h n r => .lst (m.rd h n).1 (m.rd h n).2 (Rs.mv m r)
  | _, _, .klst h r => .klst h (Rs.mv m r)
  | _, _, .tup h n r => .tup (m.rd h n).1 (m.rd h n).2 (Rs.mv m r)
  | _, _, .ktup h r => .ktup h (Rs.mv m r)
  | _, _, .dic h n => .dic (m.fr _ _ h n) fun z => by
      rcases m.ow _ z with q | q
      · exact n q
      · rw [h] at q; cases q
theorem Rs.mv (m : Mv H M H' M') : ∀ {vs : List V} {ds : List D}, Rs K H M vs ds → Rs K H' M' vs ds
  | _, _, .nil => .nil
  | _, _, .cons r t => .cons (R.mv m r) (Rs.mv m t)
end
mutual
theorem R.dp : ∀ {v : V} {d : D}, R K H M v d → d.canLay0 = true → Dp K H v d
  | _, _, .non, _ => .non
  | _, _, .bl b, _ => .bl b
  | _, _, .int i, _ => .int i
  | _, _, .str x, _ => .str x
  | _, _, .lst h n r, s => .lst (.inl h) (Rs.dp r (by simpa [PyData.canLay0] using s))
  | _, _, .klst h r, s => .lst h.none.sq (Rs.dp r (by simpa [PyData.canLay0] using s))
  | _, _, .tup h n r, s => .tup (.inl h) (Rs.dp r (by simpa [PyData.canLay0] using s))
  | _, _, .ktup h r, s => .tup (sqT_none h) (Rs.dp r (by simpa [PyData.canLay0] using s))
  | _, _, .dic h n, s => by simp [PyData.canLay0] at s
theorem Rs.dp : ∀ {vs : List V} {ds : List D}, Rs K H M vs ds → PyData.canLayAll0 ds = true → DpAll K H vs ds
  | _, _, .nil, _ => .nil
  | _, _, .cons r t, s => by
      simp only [PyData.canLayAll0, Bool.and_eq_true] at s
      exact .cons (R.dp r s.1) (Rs.dp t s.2)
end
theorem Rs.length {vs : List V} {ds : List D} (r : Rs K H M vs ds) : vs.length = ds.length := by
  induction vs generalizing ds with
  | nil => cases r; rfl
  | cons v vs ih => cases r with | cons r t => rw [List.length_cons, List.length_cons, ih t]
theorem Rs.get : ∀ {vs : List V} {ds : List D} {i : Nat} {d : D}, Rs K H M vs ds → ds[i]? = some d → ∃ v, vs[i]? = some v ∧ R K H M v d
  | _, _, _, _, .nil, e => by simp at e
  | _, _, 0, _, .cons r _, e => by simp at e; subst e; exact ⟨_, rfl, r⟩
  | _, _, i + 1, _, .cons _ t, e => by
    obtain ⟨v, h1, h2⟩ := Rs.get t (i := i) (by simpa using e)
    exact ⟨v, by simpa using h1, h2⟩
theorem Rs.get' : ∀ {vs : List V} {ds : List D} {i : Nat} {v : V}, Rs K H M vs ds → vs[i]? = some v → ∃ d, ds[i]? = some d ∧ R K H M v d
  | _, _, _, _, .nil, e => by simp at e
  | _, _, 0, _, .cons r _, e => by simp at e; subst e; exact ⟨_, rfl, r⟩
  | _, _, i + 1, _, .cons _ t, e => by
    obtain ⟨v, h1, h2⟩ := Rs.get' t (i := i) (by simpa using e)
    exact ⟨v, by simpa using h1, h2⟩
theorem Rs.append : ∀ {vs ws : List V} {ds es : List D}, Rs K H M vs ds → Rs K H M ws es → Rs K H M (vs ++ ws) (ds ++ es)
  | _, _, _, _, .nil, r => r
  | _, _, _, _, .cons r t, s => .cons r (Rs.append t s)
theorem Rs.take : ∀ {vs : List V} {ds : List D} (n : Nat), Rs K H M vs ds → Rs K H M (vs.take n) (ds.take n)
  | _, _, 0, _ => .nil
  | _, _, _ + 1, .nil => .nil
  | _, _, n + 1, .cons r t => .cons r (Rs.take n t)
theorem Rs.drop : ∀ {vs : List V} {ds : List D} (n : Nat), Rs K H M vs ds → Rs K H M (vs.drop n) (ds.drop n)
  | _, _, 0, r => r
  | _, _, _ + 1, .nil => .nil
  | _, _, n + 1, .cons _ t => Rs.drop n t
theorem Rs.set {v : V} {d : D} (r : R K H M v d) : ∀ {vs : List V} {ds : List D} (i : Nat), Rs K H M vs ds → Rs K H M (vs.set i v) (ds.set i d)
  | _, _, _, .nil => .nil
  | _, _, 0, .cons _ t => .cons r t
  | _, _, i + 1, .cons q t => .cons q (Rs.set r i t)
theorem Rs.reverse {vs : List V} {ds : List D} (r : Rs K H M vs ds) : Rs K H M vs.reverse ds.reverse := by
  induction vs generalizing ds with
  | nil => cases r; exact .nil
  | cons v vs ih => cases r with | cons r t => rw [List.reverse_cons, List.reverse_cons]; exact (ih t).append (.cons r .nil)
theorem Rs.rep {vs : List V} {ds : List D} (r : Rs K H M vs ds) : ∀ n : Nat, Rs K H M (List.replicate n vs).flatten (List.replicate n ds).flatten
  | 0 => .nil
  | n + 1 => by
    rw [List.replicate_succ, List.replicate_succ, List.flatten_cons, List.flatten_cons]
    exact r.append (Rs.rep r n)
end

/-! ### environments -/
/-- what a slot holds: data; a list of one's own; a list that was handed in to be changed -/
inductive Sl where
  | im (d : D) | ow (ds : List D) | io (ds : List D)
abbrev En := List (Option Sl)
def Sl.ls : Sl → Option (List D)
  | .im _ => none
  | .ow ds => some ds
  | .io ds => some ds
def gs : En → Nat → Option Sl
  | [], _ => none
  | x :: _, 0 => x
  | _ :: r, n + 1 => gs r n
def ss : En → Nat → Option Sl → En
  | [], _, _ => []
  | _ :: r, 0, y => y :: r
  | x :: r, n + 1, y => x :: ss r n y
@[simp] theorem gs_nil (n : Nat) : gs [] n = none := by cases n <;> rfl
@[simp] theorem gs_0 (x : Option Sl) (r : En) : gs (x :: r) 0 = x := rfl
@[simp] theorem gs_s (x : Option Sl) (r : En) (n : Nat) : gs (x :: r) (n + 1) = gs r n := rfl
@[simp] theorem ss_0 (x y : Option Sl) (r : En) : ss (x :: r) 0 y = y :: r := rfl
@[simp] theorem ss_s (x y : Option Sl) (r : En) (n : Nat) : ss (x :: r) (n + 1) y = x :: ss r n y := rfl
theorem ss_len : ∀ (E : En) (n : Nat) (y : Option Sl), (ss E n y).length = E.length
  | [], _, _ => rfl
  | _ :: _, 0, _ => rfl
  | _ :: r, n + 1, y => by show (ss r n y).length + 1 = r.length + 1; rw [ss_len r n y]
theorem gs_ss_same : ∀ {E : En} {n : Nat} {y : Option Sl}, n < E.length → gs (ss E n y) n = y
  | [], _, _, h => absurd h (Nat.not_lt_zero _)
  | _ :: _, 0, _, _ => rfl
  | _ :: r, n + 1, y, h => gs_ss_same (E := r) (Nat.lt_of_succ_lt_succ h)
theorem gs_ss_ne : ∀ {E : En} {n m : Nat} {y : Option Sl}, m ≠ n → gs (ss E n y) m = gs E m
  | [], n, m, _, _ => rfl
  | _ :: _, 0, 0, _, h => absurd rfl h
  | _ :: _, 0, m + 1, _, _ => rfl
  | _ :: _, n + 1, 0, _, _ => rfl
  | _ :: r, n + 1, m + 1, y, h => gs_ss_ne (E := r) fun e => h (by rw [e])
theorem gs_lt : ∀ {E : En} {n : Nat} {x : Sl}, gs E n = some x → n < E.length
  | [], n, x, h => by rw [gs_nil] at h; cases h
  | _ :: _, 0, _, _ => Nat.succ_pos _
  | _ :: r, n + 1, x, h => Nat.succ_lt_succ (gs_lt (E := r) h)

/-- the addresses of the lists that the slots own -/
def Own (E : En) (θ : Nat → Addr) (a : Addr) : Prop := ∃ i x ds, gs E i = some x ∧ x.ls = some ds ∧ a = θ i
def MM (Mo : Ms) (θ : Nat → Addr) (E : En) : Ms := fun a => Mo a ∨ Own E θ a
structure Rel (K : PySem.W.Frag) (Mo : Ms) (θ : Nat → Addr) (E : En) (σ : L2.St) (H : Hp) : Prop where
  im : ∀ i d, gs E i = some (.im d) → ∃ v, σ[i]? = some (some v) ∧ R K H (MM Mo θ E) v d
  ow : ∀ i x ds, gs E i = some x → x.ls = some ds → σ[i]? = some (some (V.ref (θ i))) ∧ ¬ Mo (θ i) ∧ ∃ xs, H (θ i) = some (.lst xs) ∧ Rs K H (MM Mo θ E) xs ds
  inj : ∀ i j x y ds es, gs E i = some x → x.ls = some ds → gs E j = some y → y.ls = some es → θ i = θ j → i = j
  mo : ∀ a, Mo a → ∃ o, H a = some (.lst o)
  len : σ.length = E.length
/-- from one state to a later one -/
structure Tr (θ : Nat → Addr) (E : En) (H : Hp) (θ' : Nat → Addr) (E' : En) (H' : Hp) : Prop where
  fr : ∀ b o, H b = some o → ¬ Own E θ b → H' b = some o
  ow : ∀ a, Own E' θ' a → Own E θ a ∨ H a = none
  fx : ∀ i ds, gs E i = some (.io ds) → θ' i = θ i ∧ ∃ ds', gs E' i = some (.io ds')
section
variable {K : PySem.W.Frag} {Mo : Ms} {θ θ' θ'' : Nat → Addr} {E E' E'' : En} {σ σ' : L2.St} {H H' H'' : Hp}
theorem Tr.refl : Tr θ E H θ E H := ⟨fun _ _ h _ => h, fun _ h => .inl h, fun _ ds h => ⟨rfl, ds, h⟩⟩
theorem Tr.trans (a : Tr θ E H θ' E' H') (b : Tr θ' E' H' θ'' E'' H'') : Tr θ E H θ'' E'' H'' where
  fr := fun x o h n => b.fr x o (a.fr x o h n) fun z => (a.ow x z).elim n fun q => by rw [h] at q; cases q
  ow := fun x h => by
    rcases b.ow x h with q | q
    · exact a.ow x q
    · by_cases n : Own E θ x
      · exact .inl n
      · refine .inr ?_
        cases e : H x with
        | none => rfl
        | some o => rw [a.fr x o e n] at q; cases q
  fx := fun i ds h => by
    obtain ⟨e1, ds1, h1⟩ := a.fx i ds h
    obtain ⟨e2, ds2, h2⟩ := b.fx i ds1 h1
    exact ⟨e2.trans e1, ds2, h2⟩
theorem Rel.own (r : Rel K Mo θ E σ H) {a : Addr} (h : Own E θ a) : ∃ o, H a = some (.lst o) := by
  obtain ⟨i, x, ds, h1, h2, rfl⟩ := h
  obtain ⟨_, _, xs, q, _⟩ := r.ow i x ds h1 h2
  exact ⟨_, q⟩
theorem Rel.mm (r : Rel K Mo θ E σ H) {a : Addr} (h : MM Mo θ E a) : ∃ o, H a = some (.lst o) := h.elim (r.mo a) r.own
theorem Tr.mv (t : Tr θ E H θ' E' H') (r : Rel K Mo θ' E' σ' H') : Mv H (MM Mo θ E) H' (MM Mo θ' E') where
  fr := fun b o h n => t.fr b o h fun z => n (.inr z)
  ow := fun a h => by
    rcases h with h | h
    · exact .inl (.inl h)
    · rcases t.ow a h with q | q
      · exact .inl (.inr q)
      · exact .inr q
/-- only allocation -/
def Ext (H H' : Hp) : Prop := ∀ b o, H b = some o → H' b = some o
theorem Ext.refl : Ext H H := fun _ _ h => h
theorem Ext.trans (a : Ext H H') (b : Ext H' H'') : Ext H H'' := fun x o h => b x o (a x o h)
theorem Ext.upd {p : Addr} {o : HO} (h : H p = none) : Ext H (upd H p o) := fun b x e => by rw [upd_ne (ne_of_none e h)]; exact e
theorem Ext.mv {M : Ms} (e : Ext H H') : Mv H M H' M := ⟨fun b o h _ => e b o h, fun a h => .inl h⟩
theorem Rel.ext (r : Rel K Mo θ E σ H) (e : Ext H H') : Rel K Mo θ E σ H' where
  im := fun i d h => let ⟨v, h1, h2⟩ := r.im i d h; ⟨v, h1, h2.mv e.mv⟩
  ow := fun i x ds h1 h2 => let ⟨a, b, xs, c, q⟩ := r.ow i x ds h1 h2; ⟨a, b, xs, e _ _ c, q.mv e.mv⟩
  inj := r.inj
  mo := fun a h => let ⟨o, q⟩ := r.mo a h; ⟨o, e _ _ q⟩
  len := r.len
theorem Tr.ext (e : Ext H H') : Tr θ E H θ E H' := ⟨fun b o h _ => e b o h, fun _ h => .inl h, fun _ ds h => ⟨rfl, ds, h⟩⟩
end
end Dl

set_option Elab.async false
set_option linter.all false
set_option maxRecDepth 100000
set_option maxHeartbeats 2000000
namespace Dl
open PySem PySem.Spec PyProof.Rows L2
/-! ### outcomes -/
structure Xc where
  cls : Str
  fs : List (Str × D)
inductive Ou (α : Type) where
  | ok (a : α) (E : En) | ex (x : Xc) (E : En) | no
def Ou.bind {α β : Type} : Ou α → (α → En → Ou β) → Ou β
  | .ok a E, k => k a E
  | .ex x E, _ => .ex x E
  | .no, _ => .no
@[simp] theorem Ou.bind_ok {α β : Type} (a : α) (E : En) (k : α → En → Ou β) : (Ou.ok a E).bind k = k a E := rfl
@[simp] theorem Ou.bind_ex {α β : Type} (x : Xc) (E : En) (k : α → En → Ou β) : (Ou.ex x E : Ou α).bind k = .ex x E := rfl
@[simp] theorem Ou.bind_no {α β : Type} (k : α → En → Ou β) : (Ou.no : Ou α).bind k = .no := rfl
def oo {α : Type} : Option α → En → Ou α
  | some d, E => .ok d E
  | none, _ => .no
@[simp] theorem oo_some {α : Type} (d : α) (E : En) : oo (some d) E = .ok d E := rfl
@[simp] theorem oo_none {α : Type} (E : En) : (oo none E : Ou α) = .no := rfl
/-- the context of a reading: the written part, the module's names, what is wished of exceptions -/
structure Ct where
  K : PySem.W.Frag
  mg : Str → Option Value
  W : WX
/-- how an exception lies -/
def XR (K : PySem.W.Frag) (mg : Str → Option Value) (H : Hp) (M : Ms) (x : Xc) (cls : Value) (dx : Option Addr) : Prop :=
  mg x.cls = some cls ∧ ((x.fs = [] ∧ dx = none) ∨ ∃ d fs, dx = some d ∧ H d = some (.xd fs) ∧ Paired (fun (p : Str × V) (q : Str × D) => p.1 = q.1 ∧ R K H M p.2 q.2) fs x.fs)
section
variable {α β γ : Type} {rl : Hp → Ms → α → β → Prop} {c : Ct} {Mo : Ms} {θ : Nat → Addr} {E E1 : En} {σ : L2.St} {H H1 : Hp}
def Co (rl : Hp → Ms → α → β → Prop) (c : Ct) (Mo : Ms) (θ : Nat → Addr) (E : En) (H : Hp) (o : Ou β) (σ : L2.St) (Q : α → Hp → Prop) : Prop :=
  match o with
  | .ok d E' => ∀ v H', Rel c.K Mo θ E' σ H' → Tr θ E H θ E' H' → rl H' (MM Mo θ E') v d → Q v H'
  | .ex x E' => ∀ cls dx H', XR c.K c.mg H' (MM Mo θ E') x cls dx → Rel c.K Mo θ E' σ H' → Tr θ E H θ E' H' → c.W cls dx σ H'
  | .no => False
theorem Co.move {o : Ou β} {Q : α → Hp → Prop} (t : Tr θ E H θ E1 H1) (h : Co rl c Mo θ E H o σ Q) : Co rl c Mo θ E1 H1 o σ Q := by
  cases o with
  | ok d E' => exact fun v H' r t' q => h v H' r (t.trans t') q
  | ex x E' => exact fun cls dx H' xr r t' => h cls dx H' xr r (t.trans t')
  | no => exact h
theorem Co.mono {o : Ou β} {Q Q' : α → Hp → Prop} (h : Co rl c Mo θ E H o σ Q) (i : ∀ v H', Q v H' → Q' v H') : Co rl c Mo θ E H o σ Q' := by
  cases o with
  | ok d E' => exact fun v H' r t' q => i v H' (h v H' r t' q)
  | ex x E' => exact h
  | no => exact h
theorem Co.bind {α' : Type} {rl' : Hp → Ms → α' → γ → Prop} {oa : Ou β} {k : β → En → Ou γ} {Q : α' → Hp → Prop} (h : Co rl' c Mo θ E H (oa.bind k) σ Q) :
    Co rl c Mo θ E H oa σ fun v H1 => ∃ d E1, oa = .ok d E1 ∧ Rel c.K Mo θ E1 σ H1 ∧ Tr θ E H θ E1 H1 ∧ rl H1 (MM Mo θ E1) v d ∧ Co rl' c Mo θ E1 H1 (k d E1) σ Q := by
  cases oa with
  | ok d E1 => exact fun v H1 r t q => ⟨d, E1, rfl, r, t, q, Co.move t h⟩
  | ex x E1 => exact h
  | no => exact h
end
def tG {α β : Type} (rl : Hp → Ms → α → β → Prop) (c : Ct) (f : En → Ou β) (σ : L2.St) (H : Hp) (Q : α → Hp → Prop) : Prop :=
  ∃ Mo θ E, Rel c.K Mo θ E σ H ∧ Co rl c Mo θ E H (f E) σ Q
abbrev Xf := En → Ou D
abbrev Xfs := En → Ou (List D)
abbrev Xb := En → Ou Bool
abbrev RB0 : Hp → Ms → Bool → Bool → Prop := fun _ _ a b => a = b
def tX (c : Ct) (f : Xf) : TE := fun σ H Q => tG (R c.K) c f σ H Q
def tXs (c : Ct) (f : Xfs) : TA := fun σ H Q => tG (Rs c.K) c f σ H Q
def tXb (c : Ct) (f : Xb) : TT := fun σ H Q => tG RB0 c f σ H Q
/-! ### weakening, with what every state knows -/
section
variable {X : Cx}
theorem pe_of {e : Expr} {t t' : TE} (h : PE X e t) (i : ∀ σ H Q, t' σ H Q → t σ H Q) : PE X e t' := ⟨fun pins s σ H Q I q => h.run pins s σ H Q I (i σ H Q q)⟩
theorem pt_of {e : Expr} {t t' : TT} (h : PT X e t) (i : ∀ σ H Q, t' σ H Q → t σ H Q) : PT X e t' := ⟨fun pins s σ H Q I q => h.run pins s σ H Q I (i σ H Q q)⟩
theorem pw_of {e : Expr} {t t' : TT} (h : PW X e t) (i : ∀ σ H Q, t' σ H Q → t σ H Q) : PW X e t' := ⟨fun wh pins s σ H Q I q => h.run wh pins s σ H Q I (i σ H Q q)⟩
theorem pa_of {es : List Expr} {t t' : TA} (h : PA X es t) (i : ∀ σ H Q, t' σ H Q → t σ H Q) : PA X es t' := ⟨fun pos pins s σ H Q I q => h.run pos pins s σ H Q I (i σ H Q q)⟩
theorem ps_of {st : Stmt} {t t' : TS} (h : PS X st t) (i : ∀ Dn σ H, t' Dn σ H → t Dn σ H) : PS X st t' := ⟨fun pins s σ H D I q => h.run pins s σ H D I (i D σ H q)⟩
theorem pss_of {st : List Stmt} {t t' : TS} (h : PSs X st t) (i : ∀ Dn σ H, t' Dn σ H → t Dn σ H) : PSs X st t' := ⟨fun pins s σ H D I q => h.run pins s σ H D I (i D σ H q)⟩
end
/-! ### operands that are only looked at -/
def RB (K : PySem.W.Frag) (H : Hp) (M : Ms) (v : V) (d : D) : Prop := R K H M v d ∨ ∃ a xs ds, v = .ref a ∧ d = .list ds ∧ H a = some (.lst xs) ∧ Rs K H M xs ds
inductive Bo where
  | v (i : Nat) | e (f : Xf)
def tBo (c : Ct) : Bo → TE
  | .v i => tVar i
  | .e f => tX c f
def rdB (E : En) (i : Nat) : Option D := match gs E i with
  | some (.im d) => some d
  | some (.ow ds) => some (.list ds)
  | some (.io ds) => some (.list ds)
  | none => none
def Bo.run : Bo → En → Ou (Option D)
  | .v i, E => match gs E i with
    | some _ => .ok none E
    | none => .no
  | .e f, E => (f E).bind fun d E' => .ok (some d) E'
def Bo.fin : Bo → Option D → En → Option D
  | .v i, _, E => rdB E i
  | .e _, o, _ => o
def BoR (K : PySem.W.Frag) (b : Bo) (σ : L2.St) : Hp → Ms → V → Option D → Prop := fun H M v o => match b with
  | .v i => σ[i]? = some (some v)
  | .e _ => ∃ d, o = some d ∧ R K H M v d
theorem BoR.mv {K : PySem.W.Frag} {b : Bo} {σ : L2.St} {H H' : Hp} {M M' : Ms} {v : V} {o : Option D} (m : Mv H M H' M') (h : BoR K b σ H M v o) : BoR K b σ H' M' v o := by
  cases b with
  | v i => exact h
  | e f => obtain ⟨d, h1, h2⟩ := h; exact ⟨d, h1, h2.mv m⟩
theorem BoR.fin {c : Ct} {b : Bo} {Mo : Ms} {θ : Nat → Addr} {E : En} {σ : L2.St} {H : Hp} {v : V} {o : Option D} {d : D} (r : Rel c.K Mo θ E σ H) (h : BoR c.K b σ H (MM Mo θ E) v o) (e : b.fin o E = some d) : RB c.K H (MM Mo θ E) v d := by
  cases b with
  | e f =>
    obtain ⟨d', h1, h2⟩ := h
    have e' : o = some d := e
    rw [h1] at e'; cases e'
    exact .inl h2
  | v i =>
    have h' : σ[i]? = some (some v) := h
    have e' : rdB E i = some d := e
    unfold rdB at e'
    split at e'
    · rename_i d' g
      obtain ⟨w, h1, h2⟩ := r.im i d' g
      rw [h'] at h1; cases h1; cases e'
      exact .inl h2
    · rename_i ds g
      obtain ⟨h1, _, xs, h2, h3⟩ := r.ow i _ ds g rfl
      rw [h'] at h1; cases h1; cases e'
      exact .inr ⟨_, xs, ds, rfl, rfl, h2, h3⟩
    · rename_i ds g
      obtain ⟨h1, _, xs, h2, h3⟩ := r.ow i _ ds g rfl
      rw [h'] at h1; cases h1; cases e'
      exact .inr ⟨_, xs, ds, rfl, rfl, h2, h3⟩
    · cases e'
theorem tBo_of {c : Ct} {b : Bo} {Mo : Ms} {θ : Nat → Addr} {E : En} {σ : L2.St} {H : Hp} {Q : V → Hp → Prop} (r : Rel c.K Mo θ E σ H) (h : Co (BoR c.K b σ) c Mo θ E H (b.run E) σ Q) : tBo c b σ H Q := by
  cases b with
  | e f =>
    refine ⟨Mo, θ, E, r, ?_⟩
    have h' : Co (BoR c.K (.e f) σ) c Mo θ E H ((f E).bind fun d E' => .ok (some d) E') σ Q := h
    cases e : f E with
    | ok d E' => rw [e] at h'; exact fun v H' r' t q => h' v H' r' t ⟨d, rfl, q⟩
    | ex x E' => rw [e] at h'; exact h'
    | no => rw [e] at h'; exact h'
  | v i =>
    have h' : Co (BoR c.K (.v i) σ) c Mo θ E H (match gs E i with
      | some _ => Ou.ok none E
      | none => .no) σ Q := h
    cases g : gs E i with
    | none => rw [g] at h'; exact h'.elim
    | some x =>
      rw [g] at h'
      have : ∃ v, σ[i]? = some (some v) := by
        cases x with
        | im d => obtain ⟨v, h1, _⟩ := r.im i d g; exact ⟨v, h1⟩
        | ow ds => obtain ⟨h1, _⟩ := r.ow i _ ds g rfl; exact ⟨_, h1⟩
        | io ds => obtain ⟨h1, _⟩ := r.ow i _ ds g rfl; exact ⟨_, h1⟩
      obtain ⟨v, h1⟩ := this
      exact ⟨v, h1, h' v H r Tr.refl h1⟩
/-- what an operator's rule gives, on data -/
def Hg (H : Hp) (M : Ms) : Prop := ∀ a, M a → ∃ o, H a = some (.lst o)
def OpD (K : PySem.W.Frag) (r : R2) (g : D → D → Option D) : Prop :=
  ∀ H M x y dx dy d Q, Hg H M → RB K H M x dx → RB K H M y dy → g dx dy = some d → (∀ v H', Ext H H' → R K H' M v d → Q v H') → r x y H Q
def Op1 (K : PySem.W.Frag) (r : List V → Hp → VK → Prop) (g : D → Option D) : Prop :=
  ∀ H M x dx d Q, Hg H M → RB K H M x dx → g dx = some d → (∀ v H', Ext H H' → R K H' M v d → Q v H') → r [x] H Q
def xOp1 (g : D → Option D) (a : Bo) : Xf := fun E => (a.run E).bind fun x E1 => match a.fin x E1 with
  | some dx => oo (g dx) E1
  | none => .no
def xOp2 (g : D → D → Option D) (a b : Bo) : Xf := fun E => (a.run E).bind fun x E1 => (b.run E1).bind fun y E2 => match a.fin x E2 with
  | some dx => match b.fin y E2 with
    | some dy => oo (g dx dy) E2
    | none => .no
  | none => .no
theorem Rel.hg {K : PySem.W.Frag} {Mo : Ms} {θ : Nat → Addr} {E : En} {σ : L2.St} {H : Hp} (r : Rel K Mo θ E σ H) : Hg H (MM Mo θ E) := fun _ h => r.mm h
/-- an outcome handed on behind an allocation -/
theorem Co.give {c : Ct} {Mo : Ms} {θ : Nat → Addr} {E : En} {σ : L2.St} {H H' : Hp} {d : D} {v : V} {Q : VK} (r : Rel c.K Mo θ E σ H) (h : Co (R c.K) c Mo θ E H (.ok d E) σ Q) (e : Ext H H') (q : R c.K H' (MM Mo θ E) v d) : Q v H' :=
  h v H' (r.ext e) (Tr.ext e) q
theorem t_op2 {c : Ct} {a b : Bo} {r : R2} {g : D → D → Option D} (hd : OpD c.K r g) (σ : L2.St) (H : Hp) (Q : VK) (h : tX c (xOp2 g a b) σ H Q) : tOp r (tBo c a) (tBo c b) σ H Q := by
  obtain ⟨Mo, θ, E, rel, h⟩ := h
  refine tBo_of rel (Co.mono (Co.bind (rl := BoR c.K a σ) h) ?_)
  rintro x H1 ⟨o1, E1, e1, r1, t1, b1, h1⟩
  refine tBo_of r1 (Co.mono (Co.bind (rl := BoR c.K b σ) h1) ?_)
  rintro y H2 ⟨o2, E2, e2, r2, t2, b2, h2⟩
  have b1' := b1.mv (t2.mv r2)
  split at h2
  · rename_i dx fx
    split at h2
    · rename_i dy fy
      cases eg : g dx dy with
      | none => rw [eg] at h2; exact h2.elim
      | some d =>
        rw [eg] at h2
        exact hd H2 _ x y dx dy d _ r2.hg (b1'.fin r2 fx) (b2.fin r2 fy) eg fun v H' e q => Co.give r2 h2 e q
    · exact h2.elim
  · exact h2.elim
theorem t_op1 {c : Ct} {a : Bo} {r : List V → Hp → VK → Prop} {g : D → Option D} (hd : Op1 c.K r g) (σ : L2.St) (H : Hp) (Q : VK) (h : tX c (xOp1 g a) σ H Q) : tCB r (tCons (tBo c a) tNil) σ H Q := by
  obtain ⟨Mo, θ, E, rel, h⟩ := h
  refine tBo_of rel (Co.mono (Co.bind (rl := BoR c.K a σ) h) ?_)
  rintro x H1 ⟨o1, E1, e1, r1, t1, b1, h1⟩
  show r [x] H1 _
  split at h1
  · rename_i dx fx
    cases eg : g dx with
    | none => rw [eg] at h1; exact h1.elim
    | some d =>
      rw [eg] at h1
      exact hd H1 _ x dx d _ r1.hg (b1.fin r1 fx) eg fun v H' e q => Co.give r1 h1 e q
  · exact h1.elim
/-! ### the simple expressions -/
def xC (d : D) : Xf := fun E => .ok d E
/-- a name as data: a list of one's own is given up -/
def xV (i : Nat) : Xf := fun E => match gs E i with
  | some (.im d) => .ok d E
  | some (.ow ds) => .ok (.list ds) (ss E i (some (.im (.list ds))))
  | _ => .no
theorem t_c {c : Ct} {d : D} {v : V} (hv : ∀ H M, R c.K H M v d) (σ : L2.St) (H : Hp) (Q : VK) (h : tX c (xC d) σ H Q) : tC v σ H Q := by
  obtain ⟨Mo, θ, E, rel, h⟩ := h
  exact h v H rel Tr.refl (hv _ _)
section
variable {K : PySem.W.Frag} {Mo : Ms} {θ : Nat → Addr} {E : En} {σ : L2.St} {H : Hp}
theorem own_frz {i : Nat} {ds : List D} (r : Rel K Mo θ E σ H) (g : gs E i = some (.ow ds)) {a : Addr} : Own (ss E i (some (.im (.list ds)))) θ a ↔ Own E θ a ∧ a ≠ θ i := by
  constructor
  · rintro ⟨j, x, es, h1, h2, rfl⟩
    by_cases hj : j = i
    · subst hj
      rw [gs_ss_same (gs_lt g)] at h1
      cases h1; cases h2
    · rw [gs_ss_ne hj] at h1
      exact ⟨⟨j, x, es, h1, h2, rfl⟩, fun e => hj (r.inj j i _ _ _ _ h1 h2 g rfl e)⟩
  · rintro ⟨⟨j, x, es, h1, h2, rfl⟩, h3⟩
    have hj : j ≠ i := fun e => h3 (by rw [e])
    exact ⟨j, x, es, by rw [gs_ss_ne hj]; exact h1, h2, rfl⟩
theorem Rel.frz {i : Nat} {ds : List D} (r : Rel K Mo θ E σ H) (g : gs E i = some (.ow ds)) :
    Rel K Mo θ (ss E i (some (.im (.list ds)))) σ H ∧ Tr θ E H θ (ss E i (some (.im (.list ds)))) H ∧ σ[i]? = some (some (V.ref (θ i))) ∧ R K H (MM Mo θ (ss E i (some (.im (.list ds))))) (.ref (θ i)) (.list ds) := by
  have mv : Mv H (MM Mo θ E) H (MM Mo θ (ss E i (some (.im (.list ds))))) := ⟨fun _ _ h _ => h, fun a h => .inl (h.elim .inl fun z => .inr ((own_frz r g).mp z).1)⟩
  obtain ⟨h1, h2, xs, h3, h4⟩ := r.ow i _ ds g rfl
  have q : R K H (MM Mo θ (ss E i (some (.im (.list ds))))) (.ref (θ i)) (.list ds) := .lst (.inl h3) (fun z => z.elim h2 fun z => ((own_frz r g).mp z).2 rfl) (h4.mv mv)
  refine ⟨⟨fun j d h => ?_, fun j x es a b => ?_, fun j k x y es fs a1 a2 b1 b2 e => ?_, r.mo, by rw [ss_len]; exact r.len⟩, ⟨fun _ _ h _ => h, fun a h => .inl ((own_frz r g).mp h).1, fun j es h => ⟨rfl, es, ?_⟩⟩, h1, q⟩
  · by_cases hj : j = i
    · subst hj
      rw [gs_ss_same (gs_lt g)] at h
      cases h
      exact ⟨_, h1, q⟩
    · rw [gs_ss_ne hj] at h
      obtain ⟨v, a, b⟩ := r.im j d h
      exact ⟨v, a, b.mv mv⟩
  · by_cases hj : j = i
    · subst hj
      rw [gs_ss_same (gs_lt g)] at a
      cases a; cases b
    · rw [gs_ss_ne hj] at a
      obtain ⟨u1, u2, ys, u3, u4⟩ := r.ow j x es a b
      exact ⟨u1, u2, ys, u3, u4.mv mv⟩
  · by_cases hj : j = i
    · subst hj
      rw [gs_ss_same (gs_lt g)] at a1
      cases a1; cases a2
    · by_cases hk : k = i
      · subst hk
        rw [gs_ss_same (gs_lt g)] at b1
        cases b1; cases b2
      · rw [gs_ss_ne hj] at a1
        rw [gs_ss_ne hk] at b1
        exact r.inj j k x y es fs a1 a2 b1 b2 e
  · have hj : j ≠ i := fun e => by rw [e, g] at h; cases h
    rw [gs_ss_ne hj]; exact h
end
theorem t_v {c : Ct} {i : Nat} (σ : L2.St) (H : Hp) (Q : VK) (h : tX c (xV i) σ H Q) : tVar i σ H Q := by
  obtain ⟨Mo, θ, E, rel, h⟩ := h
  unfold xV at h
  split at h
  · rename_i d g
    obtain ⟨v, h1, h2⟩ := rel.im i d g
    exact ⟨v, h1, h v H rel Tr.refl h2⟩
  · rename_i ds g
    obtain ⟨r', t', h1, q⟩ := rel.frz g
    exact ⟨_, h1, h _ H r' t' q⟩
  · exact h.elim
/-! ### lists of expressions -/
def xNil : Xfs := fun E => .ok [] E
def xCons (f : Xf) (r : Xfs) : Xfs := fun E => (f E).bind fun d E1 => (r E1).bind fun ds E2 => .ok (d :: ds) E2
theorem t_nil {c : Ct} (σ : L2.St) (H : Hp) (Q : List V → Hp → Prop) (h : tXs c xNil σ H Q) : tNil σ H Q := by
  obtain ⟨Mo, θ, E, rel, h⟩ := h
  exact h [] H rel Tr.refl .nil
theorem t_cons {c : Ct} {f : Xf} {r : Xfs} (σ : L2.St) (H : Hp) (Q : List V → Hp → Prop) (h : tXs c (xCons f r) σ H Q) : tCons (tX c f) (tXs c r) σ H Q := by
  obtain ⟨Mo, θ, E, rel, h⟩ := h
  refine ⟨Mo, θ, E, rel, Co.mono (Co.bind (rl := R c.K) h) ?_⟩
  rintro x H1 ⟨d, E1, e1, r1, t1, b1, h1⟩
  refine ⟨Mo, θ, E1, r1, Co.mono (Co.bind (rl := Rs c.K) h1) ?_⟩
  rintro xs H2 ⟨ds, E2, e2, r2, t2, b2, h2⟩
  exact h2 (x :: xs) H2 r2 Tr.refl (.cons (b1.mv (t2.mv r2)) b2)
/-- (e, ..) -/
def xTup (fs : Xfs) : Xf := fun E => (fs E).bind fun ds E1 => .ok (.tuple ds) E1
theorem t_tup {c : Ct} {fs : Xfs} {n : Nat} (hn : ∀ E ds E', fs E = .ok ds E' → ds.length ≤ n) (hz : n ≤ sizeLine) (σ : L2.St) (H : Hp) (Q : VK) (h : tX c (xTup fs) σ H Q) : tTup (tXs c fs) σ H Q := by
  obtain ⟨Mo, θ, E, rel, h⟩ := h
  refine ⟨Mo, θ, E, rel, Co.mono (Co.bind (rl := Rs c.K) h) ?_⟩
  rintro xs H1 ⟨ds, E1, e1, r1, t1, b1, h1⟩
  refine ⟨by rw [b1.length]; exact Nat.le_trans (hn _ _ _ e1) hz, fun p hp => ?_⟩
  refine Co.give r1 h1 (Ext.upd hp) ?_
  exact .tup (.inl upd_same) (fun z => by obtain ⟨o, q⟩ := r1.mm z; rw [hp] at q; cases q) (b1.mv (Ext.upd hp).mv)
def xLst (fs : Xfs) : Xf := fun E => (fs E).bind fun ds E1 => .ok (.list ds) E1
theorem t_lst {c : Ct} {fs : Xfs} {n : Nat} (hn : ∀ E ds E', fs E = .ok ds E' → ds.length ≤ n) (hz : n ≤ sizeLine) (σ : L2.St) (H : Hp) (Q : VK) (h : tX c (xLst fs) σ H Q) : tLst (tXs c fs) σ H Q := by
  obtain ⟨Mo, θ, E, rel, h⟩ := h
  refine ⟨Mo, θ, E, rel, Co.mono (Co.bind (rl := Rs c.K) h) ?_⟩
  rintro xs H1 ⟨ds, E1, e1, r1, t1, b1, h1⟩
  refine ⟨by rw [b1.length]; exact Nat.le_trans (hn _ _ _ e1) hz, fun p hp => ?_⟩
  refine Co.give r1 h1 (Ext.upd hp) ?_
  exact .lst (.inl upd_same) (fun z => by obtain ⟨o, q⟩ := r1.mm z; rw [hp] at q; cases q) (b1.mv (Ext.upd hp).mv)
end Dl

set_option Elab.async false
set_option linter.all false
set_option maxRecDepth 100000
set_option maxHeartbeats 2000000
namespace Dl
noncomputable section
open PySem PySem.Spec PyProof.Rows L2
section
variable {K : PySem.W.Frag} {H : Hp} {M : Ms} {x y : V} {X : Cx}
/-! ### what an operand is, by its data -/
theorem RB.int {i : Int} (h : RB K H M x (.int i)) : x = .int i := by
  rcases h with h | ⟨_, _, _, _, e, _⟩
  · cases h; rfl
  · cases e
theorem RB.bl {b : Bool} (h : RB K H M x (.bool b)) : x = .bl b := by
  rcases h with h | ⟨_, _, _, _, e, _⟩
  · cases h; rfl
  · cases e
theorem RB.str {z : Str} (h : RB K H M x (.str z)) : x = .str z := by
  rcases h with h | ⟨_, _, _, _, e, _⟩
  · cases h; rfl
  · cases e
theorem RB.non (h : RB K H M x .none) : x = .non := by
  rcases h with h | ⟨_, _, _, _, e, _⟩
  · cases h; rfl
  · cases e
theorem RB.lst {ds : List D} (h : RB K H M x (.list ds)) : ∃ a xs, x = .ref a ∧ SqX K H a xs ∧ Rs K H M xs ds := by
  rcases h with h | ⟨a, xs, es, e1, e2, h1, h2⟩
  · cases h with
    | lst h n r => exact ⟨_, _, rfl, .inl h, r⟩
    | klst h r => exact ⟨_, _, rfl, h.none, r⟩
  · cases e2; exact ⟨a, xs, e1, SqX.of h1, h2⟩
theorem RB.tup {ds : List D} (h : RB K H M x (.tuple ds)) : ∃ a xs, x = .ref a ∧ SqT K H a xs ∧ R K H M x (.tuple ds) ∧ Rs K H M xs ds := by
  rcases h with h | ⟨_, _, _, _, e, _⟩
  · cases h with
    | tup h n r => exact ⟨_, _, rfl, .inl h, .tup h n r, r⟩
    | ktup h r => exact ⟨_, _, rfl, sqT_none h, .ktup h r, r⟩
  · cases e
theorem RB.dp {d : D} (h : RB K H M x d) (s : SeqAt.shaped d = true) : Dp K H x d := by
  have s' := SeqAt.canLay_of_shaped s
  rcases h with h | ⟨a, xs, es, rfl, rfl, h1, h2⟩
  · exact h.dp s'
  · exact .lst (SqL.of h1) (h2.dp (by simpa [PyData.canLay0] using s'))
/-- a new tuple, a new list -/
theorem new_tup {p : Addr} {xs : List V} {ds : List D} (g : Hg H M) (hp : H p = none) (r : Rs K H M xs ds) : R K (upd H p (.tup xs)) M (.ref p) (.tuple ds) :=
  .tup (.inl upd_same) (fun z => by obtain ⟨o, q⟩ := g _ z; rw [hp] at q; cases q) (r.mv (Ext.upd hp).mv)
theorem new_lst {p : Addr} {xs : List V} {ds : List D} (g : Hg H M) (hp : H p = none) (r : Rs K H M xs ds) : R K (upd H p (.lst xs)) M (.ref p) (.list ds) :=
  .lst (.inl upd_same) (fun z => by obtain ⟨o, q⟩ := g _ z; rw [hp] at q; cases q) (r.mv (Ext.upd hp).mv)
/-! ### arithmetic -/
def rBin (g : Int → Int → Option V) : R2 := fun x y H Q => ∃ i j v, x = .int i ∧ y = .int j ∧ g i j = some v ∧ Q v H
/-- numbers that the kernel does not unfold -/
theorem some_int (n : Int) : ∃ m : Int, m = n := ⟨n, rfl⟩
noncomputable def i63 : Int := Classical.choose (some_int (2 ^ 63))
theorem i63_eq : i63 = 2 ^ 63 := Classical.choose_spec (some_int (2 ^ 63))
noncomputable def i62 : Int := Classical.choose (some_int (2 ^ 62))
theorem i62_eq : i62 = 2 ^ 62 := Classical.choose_spec (some_int (2 ^ 62))
noncomputable def i8 : Int := Classical.choose (some_int 100000000)
theorem i8_eq : i8 = 100000000 := Classical.choose_spec (some_int 100000000)
noncomputable def i6 : Int := Classical.choose (some_int 1000000)
theorem i6_eq : i6 = 1000000 := Classical.choose_spec (some_int 1000000)
noncomputable def i30 : Int := Classical.choose (some_int 1073741824)
theorem i30_eq : i30 = 1073741824 := Classical.choose_spec (some_int 1073741824)
def lim : Nat := 16777216
theorem lim_eq : lim = sizeLine := sizeLine_eq.symm
/-- a list + a list, of any kind that is read -/
def rCatX (K : PySem.W.Frag) : R2 := fun x y H Q => ∃ l b xs zs, x = .ref l ∧ y = .ref b ∧ SqX K H l xs ∧ SqX K H b zs ∧ xs.length + zs.length ≤ sizeLine ∧ ∀ p, H p = none → Q (.ref p) (upd H p (.lst (xs ++ zs)))
theorem op_catX : OpR X (binaryOp .Add) (rCatX X.K) := by
  intro pins s σ H x y v u Q I rx ry h
  obtain ⟨l, b, xs, zs, rfl, rfl, hH, hB, hz, q⟩ := h
  cases rx
  cases ry
  obtain ⟨z, its, n, r, e⟩ := hH.at I
  obtain ⟨z2, its2, n2, r2, e2⟩ := hB.at I
  have l1 := r.length
  have l2 := r2.length
  refine PySem.P.add_list e e2 ?_ (by rw [List.size_toArray, List.size_toArray, ← l1, ← l2]; exact hz)
  rw [show its.toArray ++ its2.toArray = (its ++ its2).toArray by simp]
  exact ⟨.ref _, _, I.lnew (t' := s.toks) (r.append r2) (by rw [List.length_append]; exact hz), rfl, q _ I.fresh⟩
def gAdd : D → D → Option D
  | .int i, .int j => some (.int (i + j))
  | .str a, .str b => if a.length + b.length ≤ lim then some (.str (a ++ b)) else none
  | .tuple a, .tuple b => if a.length + b.length ≤ lim then some (.tuple (a ++ b)) else none
  | .list a, .list b => if a.length + b.length ≤ lim then some (.list (a ++ b)) else none
  | _, _ => none
def rAddD (K : PySem.W.Frag) : R2 := fun x y H Q => (∃ i j, x = .int i ∧ y = .int j ∧ Q (.int (i + j)) H) ∨ (∃ i j, x = .str i ∧ y = .str j ∧ i.length + j.length ≤ sizeLine ∧ Q (.str (i ++ j)) H) ∨ rCatA K x y H Q ∨ rCatX K x y H Q
theorem op_addD : OpR X (binaryOp .Add) (rAddD X.K) := op_add.or (op_add_str.or (op_catA.or op_catX))
theorem d_add : OpD K (rAddD K) gAdd := by
  intro H M x y dx dy d Q g rx ry e q
  unfold gAdd at e
  split at e
  · cases e; exact .inl ⟨_, _, rx.int, ry.int, q _ _ Ext.refl (.int _)⟩
  · split at e
    · rename_i h; cases e; exact .inr (.inl ⟨_, _, rx.str, ry.str, by rw [← lim_eq]; exact h, q _ _ Ext.refl (.str _)⟩)
    · cases e
  · split at e
    · rename_i a b h; cases e
      obtain ⟨p1, xs, rfl, h1, n1, r1⟩ := rx.tup
      obtain ⟨p2, ys, rfl, h2, n2, r2⟩ := ry.tup
      refine .inr (.inr (.inl ⟨p1, p2, xs, ys, rfl, rfl, h1, h2, by rw [r1.length, r2.length, ← lim_eq]; exact h, fun z => ?_, fun z1 z2 => ?_, fun z1 z2 p hp => ?_⟩))
      · subst z
        cases r1
        exact q _ _ Ext.refl n2
      · subst z2
        cases r2
        rw [List.append_nil] at q
        exact q _ _ Ext.refl n1
      · exact q _ _ (Ext.upd hp) (new_tup g hp (r1.append r2))
    · cases e
  · split at e
    · rename_i a b h; cases e
      obtain ⟨p1, xs, rfl, h1, r1⟩ := rx.lst
      obtain ⟨p2, ys, rfl, h2, r2⟩ := ry.lst
      exact .inr (.inr (.inr ⟨p1, p2, xs, ys, rfl, rfl, h1, h2, by rw [r1.length, r2.length, ← lim_eq]; exact h, fun p hp => q _ _ (Ext.upd hp) (new_lst g hp (r1.append r2))⟩))
    · cases e
  · cases e
/-- two whole numbers -/
def gII (g : Int → Int → Option D) : D → D → Option D
  | .int i, .int j => g i j
  | _, _ => none
theorem d_ii {C : Int → Int → Prop} {f : Int → Int → Int} {b : Int → Int → Bool} (hc : ∀ i j, b i j = true → C i j) : OpD K (rI C fun i j => .int (f i j)) (gII fun i j => if b i j = true then some (.int (f i j)) else none) := by
  intro H M x y dx dy d Q g rx ry e q
  unfold gII at e
  split at e
  · dsimp only at e
    split at e
    · rename_i h; cases e; exact ⟨_, _, rx.int, ry.int, hc _ _ h, q _ _ Ext.refl (.int _)⟩
    · cases e
  · cases e
theorem d_ii0 {f : Int → Int → Int} : OpD K (rI0 fun i j => .int (f i j)) (gII fun i j => some (.int (f i j))) := by
  intro H M x y dx dy d Q g rx ry e q
  unfold gII at e
  split at e
  · cases e; exact ⟨_, _, rx.int, ry.int, q _ _ Ext.refl (.int _)⟩
  · cases e
def gMinus : D → D → Option D := gII fun i j => some (.int (i - j))
def mulOk (i j : Int) : Bool := decide (i.natAbs < 2 ^ 63) || decide (j.natAbs < 2 ^ 63) || decide (i.natAbs.log2 + j.natAbs.log2 < 100000000)
theorem mul_okI {i j : Int} (h : mulOk i j = true) : IntMulOk i j := by
  unfold mulOk at h
  rw [Bool.or_eq_true, Bool.or_eq_true, decide_eq_true_eq, decide_eq_true_eq, decide_eq_true_eq] at h
  have e : bitsLine = 134217728 := by decide
  have b : ∀ x : Int, Builtin.Int.intBits x ≤ x.natAbs.log2 + 1 := fun x => by
    unfold Builtin.Int.intBits
    split <;> omega
  rcases h with (h | h) | h
  · exact .of_left (intBits_le_64 (by omega) (by omega))
  · exact .of_right (intBits_le_64 (by omega) (by omega))
  · have h1 := b i
    have h2 := b j
    unfold IntMulOk
    intro z
    rw [Bool.and_eq_true] at z
    have z2 := z.2
    unfold Builtin.Int.intTooBig at z2
    have z3 := of_decide_eq_true z2
    rw [e] at z3
    omega
theorem op_mulD : OpR X (binaryOp .Mult) (rI IntMulOk fun i j => .int (i * j)) := opI fun _ _ _ _ _ _ _ hc q => mul_int q hc
/-- list * int, the list as it is read -/
def rRepX (K : PySem.W.Frag) : R2 := fun x y H Q => ∃ l k xs, x = .ref l ∧ y = .int k ∧ SqX K H l xs ∧ -(2 ^ 63) ≤ k ∧ k < 2 ^ 63 ∧ xs.length * k.toNat ≤ sizeLine ∧
  ∀ p, H p = none → Q (.ref p) (upd H p (.lst (List.replicate k.toNat xs).flatten))
theorem rep_arr (its : List Value) (m : Nat) : List.foldl (fun a b => a ++ b) #[] (List.replicate (if its.toArray.isEmpty = true then 0 else m) its.toArray) = (List.replicate m its).flatten.toArray := by
  have f0 : ∀ k : Nat, List.foldl (fun a b => a ++ b) #[] (List.replicate k its.toArray) = (List.replicate k its).flatten.toArray := fun k => by
    have h := foldl_rep its k []
    rw [List.nil_append] at h
    exact h
  rw [f0]
  cases its with
  | nil => simp
  | cons a r => rw [if_neg (by simp)]
theorem op_repX : OpR X (binaryOp .Mult) (rRepX X.K) := by
  intro pins s σ H x y v u Q I rx ry h
  obtain ⟨l, k, xs, rfl, rfl, hH, h1, h2, hz, q⟩ := h
  cases rx
  obtain ⟨t, rfl⟩ := ry
  obtain ⟨z, its, n, r, e⟩ := hH.at I
  have hl := r.length
  have c1 : its.toArray.size * k.toNat ≤ sizeLine := by rw [List.size_toArray, ← hl]; exact hz
  have c2 : ¬ its.toArray.size * k.toNat > (2 ^ 63 - 1) / 8 := by
    have := line63
    have : (sizeLine : Nat) ≤ (2 ^ 63 - 1) / 8 := by decide
    omega
  have c3 : ¬ (!Builtin.List.listFitsIndex k) = true := by rw [fitsIndex_both h1 h2]; exact Bool.false_ne_true
  have c4 : ¬ Builtin.List.listTooLong (its.toArray.size * k.toNat) = true := by rw [notLongL c1]; exact Bool.false_ne_true
  refine wpAny_binaryOp_repeat_ref (T := "list") (U := "int") (by decide) ⟨_, e, rfl⟩ (fun s' => typeIs_int s' k t) noFill_list_mul PySem.F.fills_int_mul PySem.F.slot_int_rmul repeat_list PySem.F.slot_int_index.lookup
    (call_meets PySem.F.slot_int_rmul (typeIs_int s k t) PySem.F.entry_int_rmul (PySem.F.args_int_rmul_2 _ _) (int___rmul___int_list k t l its.toArray n) ⟨e, rfl, ⟨_, e, rfl⟩, ?_⟩)
  refine call_meets PySem.F.slot_list_mul ⟨_, e, rfl⟩ PySem.F.entry_list_mul (PySem.F.args_list_mul_2 _ _) (AutoListH.list___mul___list_int_3 l its.toArray n k t c3 c2 c4) ⟨e, ?_⟩
  rw [rep_arr]
  exact ⟨.ref _, _, I.lnew (t' := s.toks) (r.rep k.toNat) (by rw [PyProof.Rows.lm_len_rep_flat, Nat.mul_comm]; exact hz), rfl, q _ I.fresh⟩
def gMul : D → D → Option D
  | .int i, .int j => if mulOk i j = true then some (.int (i * j)) else none
  | .list a, .int k => if decide (-i63 ≤ k) && decide (k < i63) && decide (a.length * k.toNat ≤ lim) then some (.list (List.replicate k.toNat a).flatten) else none
  | .tuple a, .int k => if !a.isEmpty && decide (2 ≤ k) && decide (k ≤ 1000) && decide (a.length ≤ 1000) then some (.tuple (List.replicate k.toNat a).flatten) else none
  | _, _ => none
def rMulD (K : PySem.W.Frag) : R2 := fun x y H Q => rI IntMulOk (fun i j => .int (i * j)) x y H Q ∨ rRepX K x y H Q ∨ rRepT K x y H Q
theorem op_mulDD : OpR X (binaryOp .Mult) (rMulD X.K) := op_mulD.or (op_repX.or op_repT)
theorem d_mul : OpD K (rMulD K) gMul := by
  intro H M x y dx dy d Q g rx ry e q
  unfold gMul at e
  split at e
  · split at e
    · rename_i h; cases e; exact .inl ⟨_, _, rx.int, ry.int, mul_okI h, q _ _ Ext.refl (.int _)⟩
    · cases e
  · split at e
    · rename_i a k h; cases e
      simp only [Bool.and_eq_true, decide_eq_true_eq, i63_eq] at h
      obtain ⟨p1, xs, rfl, h1, r1⟩ := rx.lst
      exact .inr (.inl ⟨p1, k, xs, rfl, ry.int, h1, h.1.1, h.1.2, by rw [r1.length, ← lim_eq]; exact h.2, fun p hp => q _ _ (Ext.upd hp) (new_lst g hp (r1.rep _))⟩)
    · cases e
  · split at e
    · rename_i a k h; cases e
      simp only [Bool.and_eq_true, decide_eq_true_eq, Bool.not_eq_true'] at h
      obtain ⟨p1, xs, rfl, h1, n1, r1⟩ := rx.tup
      refine .inr (.inr ⟨p1, k, xs, rfl, ry.int, h1, fun z => ?_, h.1.1.2, h.1.2, by rw [r1.length]; exact h.2, fun p hp => q _ _ (Ext.upd hp) (new_tup g hp (r1.rep _))⟩)
      subst z
      cases r1
      simp at h
    · cases e
  · cases e
def gFdiv : D → D → Option D := gII fun i j => if (decide (0 < j) && decide (j.natAbs.log2 < 9000)) = true then some (.int (i / j)) else none
theorem d_fdiv : OpD K (rI CDivW fun i j => .int (i / j)) gFdiv := d_ii fun i j h => by
  simp only [Bool.and_eq_true, decide_eq_true_eq] at h
  exact h
def gMod : D → D → Option D := gII fun i j => if decide (0 < j) = true then some (.int (i % j)) else none
theorem d_mod : OpD K (rI (fun _ j => 0 < j) fun i j => .int (i % j)) gMod := d_ii fun i j h => of_decide_eq_true h
def gPow : D → D → Option D := gII fun i j => if (decide (0 ≤ j) && decide (j ≤ i6) && decide (i.natAbs < 2 ^ 64)) = true then some (.int (i ^ j.toNat)) else none
theorem d_pow : OpD K (rI CPow fun i j => .int (i ^ j.toNat)) gPow := d_ii fun i j h => by
  simp only [Bool.and_eq_true, decide_eq_true_eq, i6_eq] at h
  exact ⟨h.1.1, h.1.2, h.2⟩
def shlOk (i j : Int) : Bool := decide (0 ≤ j) && decide ((i.natAbs.log2 : Int) + j < i8)
def gShl : D → D → Option D := gII fun i j => if shlOk i j = true then some (.int (i * 2 ^ j.toNat)) else none
theorem d_shl : OpD K (rI CShl fun i j => .int (i * 2 ^ j.toNat)) gShl := d_ii fun i j h => by
  unfold shlOk at h
  simp only [Bool.and_eq_true, decide_eq_true_eq, i8_eq] at h
  have b : Builtin.Int.intBits i ≤ i.natAbs.log2 + 1 := by unfold Builtin.Int.intBits; split <;> omega
  refine ⟨h.1, ?_⟩
  have : (2 : Int) ^ 27 = 134217728 := by decide
  omega
def gShr : D → D → Option D := gII fun i j => if decide (0 ≤ j) = true then some (.int (i / 2 ^ j.toNat)) else none
theorem d_shr : OpD K (rI (fun _ j => 0 ≤ j) fun i j => .int (i / 2 ^ j.toNat)) gShr := d_ii fun i j h => of_decide_eq_true h
def gAnd : D → D → Option D := gII fun i j => some (.int (Builtin.bitAnd i j))
def gOr : D → D → Option D := gII fun i j => some (.int (Builtin.bitOr i j))
def gXor : D → D → Option D := gII fun i j => some (.int (Builtin.bitXor i j))
/-! ### comparisons -/
def gEq (x y : D) : Option D := if (SeqAt.shaped x && SeqAt.shaped y) = true then some (.bool (PyData.eqv x y)) else none
def gNe (x y : D) : Option D := if (SeqAt.shaped x && SeqAt.shaped y) = true then some (.bool (!PyData.eqv x y)) else none
theorem d_eq : OpD K (rEqD K) gEq := by
  intro H M x y dx dy d Q g rx ry e q
  unfold gEq at e
  split at e
  · rename_i h; cases e
    rw [Bool.and_eq_true] at h
    exact ⟨dx, dy, rx.dp h.1, ry.dp h.2, h.1, h.2, q _ _ Ext.refl (.bl _)⟩
  · cases e
theorem d_ne : OpD K (rNeD K) gNe := by
  intro H M x y dx dy d Q g rx ry e q
  unfold gNe at e
  split at e
  · rename_i h; cases e
    rw [Bool.and_eq_true] at h
    exact ⟨dx, dy, rx.dp h.1, ry.dp h.2, h.1, h.2, q _ _ Ext.refl (.bl _)⟩
  · cases e
def gCmp (f : Int → Int → Bool) : D → D → Option D := gII fun i j => some (.bool (f i j))
theorem d_cmp {f : Int → Int → Bool} : OpD K (rI0 fun i j => .bl (f i j)) (gCmp f) := by
  intro H M x y dx dy d Q g rx ry e q
  unfold gCmp gII at e
  split at e
  · cases e; exact ⟨_, _, rx.int, ry.int, q _ _ Ext.refl (.bl _)⟩
  · cases e
def gLt : D → D → Option D := gCmp fun i j => decide (i < j)
def gLe : D → D → Option D := gCmp fun i j => decide (i ≤ j)
def gGt : D → D → Option D := gCmp fun i j => decide (j < i)
def gGe : D → D → Option D := gCmp fun i j => decide (j ≤ i)
/-! ### subscripts -/
def gIdx : D → D → Option D
  | .list xs, .int i => atI xs i
  | .tuple xs, .int i => atI xs i
  | .str z, .int i => if z.length ≤ lim then (atI z.cps.toList i).map fun c => .str ⟨#[c]⟩ else none
  | _, _ => none
theorem atI_rs {xs : List V} {ds : List D} {i : Int} {d : D} (r : Rs K H M xs ds) (h : atI ds i = some d) : ∃ v, atI xs i = some v ∧ R K H M v d := by
  unfold atI at h ⊢
  rw [r.length]
  cases e : ixN ds.length i with
  | none => rw [e] at h; cases h
  | some j =>
    rw [e] at h
    exact r.get h
theorem d_idx : OpD K (rIx K) gIdx := by
  intro H M x y dx dy d Q g rx ry e q
  unfold gIdx at e
  split at e
  · obtain ⟨p1, xs, rfl, h1, r1⟩ := rx.lst
    obtain ⟨v, hv, rv⟩ := atI_rs r1 e
    exact .inl ⟨p1, xs, _, v, rfl, ry.int, h1.sq, hv, q _ _ Ext.refl rv⟩
  · obtain ⟨p1, xs, rfl, h1, n1, r1⟩ := rx.tup
    obtain ⟨v, hv, rv⟩ := atI_rs r1 e
    exact .inr (.inl ⟨p1, xs, _, v, rfl, ry.int, h1, hv, q _ _ Ext.refl rv⟩)
  · split at e
    · rename_i z i hz
      cases ea : atI z.cps.toList i with
      | none => rw [ea] at e; cases e
      | some cp =>
        rw [ea] at e
        cases e
        exact .inr (.inr ⟨z, i, cp, rx.str, ry.int, by rw [← lim_eq]; exact hz, ea, q _ _ Ext.refl (.str _)⟩)
    · cases e
  · cases e
/-! ### membership: flat things -/
def flatD : D → Bool
  | .none | .bool _ | .int _ | .str _ => true
  | _ => false
def eqF (y x : D) : Bool := PyData.eqv y x
end
end
end Dl

set_option Elab.async false
set_option linter.all false
set_option maxRecDepth 100000
set_option maxHeartbeats 2000000
namespace Dl
noncomputable section
open PySem PySem.Spec PyProof.Rows L2
section
variable {K : PySem.W.Frag} {H : Hp} {M : Ms} {x y : V} {X : Cx}
/-! ### in, not in -/
theorem R.flat {d : D} (h : R K H M x d) (f : flatD d = true) : flatV x = true := by
  cases h <;> first | rfl | cases f
theorem R.eqv {d e : D} (h : R K H M x d) (h2 : R K H M y e) (f : flatD d = true) (f2 : flatD e = true) : eqV x y = PyData.eqv d e := by
  cases h <;> cases h2 <;> first | rfl | (cases f; done) | (cases f2; done) | simp [eqV, PyData.eqv]
theorem Rs.flat {xs : List V} {ds : List D} (r : Rs K H M xs ds) (f : ds.all flatD = true) : xs.all flatV = true := by
  induction xs generalizing ds with
  | nil => rfl
  | cons v vs ih =>
    cases r with
    | cons r t =>
      rw [List.all_cons, Bool.and_eq_true] at f ⊢
      exact ⟨r.flat f.1, ih t f.2⟩
theorem Rs.inV {d : D} {xs : List V} {ds : List D} (rx : R K H M x d) (fx : flatD d = true) (r : Rs K H M xs ds) (f : ds.all flatD = true) : inV x xs = ds.any fun e => PyData.eqv e d := by
  unfold L2.inV
  induction xs generalizing ds with
  | nil => cases r; rfl
  | cons v vs ih =>
    cases r with
    | cons r t =>
      rw [List.all_cons, Bool.and_eq_true] at f
      rw [List.any_cons, List.any_cons, r.eqv rx f.1 fx, ih t f.2]
theorem RB.flat {d : D} (h : RB K H M x d) (f : flatD d = true) : R K H M x d := by
  rcases h with h | ⟨_, _, _, _, rfl, _⟩
  · exact h
  · cases f
def isIn (d : D) (ds : List D) : Bool := ds.any fun e => PyData.eqv e d
def subS (a b : Str) : Bool := !(Builtin.Str.occurrences b a 0 b.length 1).isEmpty
def deepOk (d : D) : Bool := d.canLay0 && decide (d.depth ≤ 60)
def gIn : D → D → Option D
  | d, .list es => if flatD d && es.all flatD then some (.bool (isIn d es)) else if deepOk d && PyData.canLayAll0 es then some (.bool (isIn d es)) else none
  | d, .tuple es => if flatD d && es.all flatD then some (.bool (isIn d es)) else if deepOk d && PyData.canLayAll0 es then some (.bool (isIn d es)) else none
  | .str a, .str b => some (.bool (subS a b))
  | _, _ => none
def gNin (x y : D) : Option D := match gIn x y with
  | some (.bool b) => some (.bool (!b))
  | _ => none
/-- in, of data of any depth -/
def rInX (K : PySem.W.Frag) (neg : Bool) : R2 := fun x y H Q => ∃ d ds, Dp K H x d ∧ (Dp K H y (.list ds) ∨ Dp K H y (.tuple ds)) ∧ d.canLay0 = true ∧ d.depth ≤ 60 ∧ PyData.canLayAll0 ds = true ∧ Q (.bl (if neg then !(isIn d ds) else isIn d ds)) H
theorem op_inX (hu : X.A.units + 64 < cLine) : OpR X (compareOp .In) (rInX X.K false) := by
  intro pins s σ H x y v u Q I rx ry h
  obtain ⟨d, ds, hd, he, sd, sp, se, q⟩ := h
  obtain ⟨as, r1⟩ := Dp.reads I d x v hd rx
  rcases he with he | he
  · obtain ⟨bs, r2⟩ := Dp.reads I (.list ds) y u he ry
    exact SeqAt.in_list_reads r2 r1 se sd (by omega) ⟨.bl _, H, I, rfl, q⟩
  · obtain ⟨bs, r2⟩ := Dp.reads I (.tuple ds) y u he ry
    exact SeqAt.in_tuple_reads r2 r1 se sd (by omega) ⟨.bl _, H, I, rfl, q⟩
theorem op_ninX (hu : X.A.units + 64 < cLine) : OpR X (compareOp .NotIn) (rInX X.K true) := by
  intro pins s σ H x y v u Q I rx ry h
  obtain ⟨d, ds, hd, he, sd, sp, se, q⟩ := h
  obtain ⟨as, r1⟩ := Dp.reads I d x v hd rx
  rcases he with he | he
  · obtain ⟨bs, r2⟩ := Dp.reads I (.list ds) y u he ry
    exact SeqAt.notIn_list_reads r2 r1 se sd (by omega) ⟨.bl _, H, I, rfl, q⟩
  · obtain ⟨bs, r2⟩ := Dp.reads I (.tuple ds) y u he ry
    exact SeqAt.notIn_tuple_reads r2 r1 se sd (by omega) ⟨.bl _, H, I, rfl, q⟩
def rInD (K : PySem.W.Frag) : R2 := fun x y H Q => (rIn K false x y H Q ∨ ∃ i j, x = .str i ∧ y = .str j ∧ Q (.bl (!(Builtin.Str.occurrences j i 0 j.length 1).isEmpty)) H) ∨ rInX K false x y H Q
def rNinD (K : PySem.W.Frag) : R2 := fun x y H Q => (rIn K true x y H Q ∨ ∃ i j, x = .str i ∧ y = .str j ∧ Q (.bl (!(!(Builtin.Str.occurrences j i 0 j.length 1).isEmpty))) H) ∨ rInX K true x y H Q
theorem op_inD (hu : X.A.units + 64 < cLine) : OpR X (compareOp .In) (rInD X.K) := (op_in_seq.or op_in_str).or (op_inX hu)
theorem op_ninD (hu : X.A.units + 64 < cLine) : OpR X (compareOp .NotIn) (rNinD X.K) := (op_notIn_seq.or op_notIn_str).or (op_ninX hu)
theorem RB.dpl {d : D} (h : RB K H M x d) (s : d.canLay0 = true) : Dp K H x d := by
  rcases h with h | ⟨a, xs, es, rfl, rfl, h1, h2⟩
  · exact h.dp s
  · exact .lst (SqL.of h1) (h2.dp (by simpa [PyData.canLay0] using s))
theorem in_core {dx dy d : D} (neg : Bool) (rx : RB K H M x dx) (ry : RB K H M y dy) (e : gIn dx dy = some d) {Q : VK} (q : ∀ b, d = .bool b → Q (.bl (if neg then !b else b)) H) :
    (rIn K neg x y H Q ∨ ∃ i j, x = .str i ∧ y = .str j ∧ Q (.bl (if neg then !(!(Builtin.Str.occurrences j i 0 j.length 1).isEmpty) else !(Builtin.Str.occurrences j i 0 j.length 1).isEmpty)) H) ∨ rInX K neg x y H Q := by
  unfold gIn at e
  split at e
  · rename_i es
    split at e
    · rename_i f; cases e
      rw [Bool.and_eq_true] at f
      obtain ⟨p, xs, rfl, h1, r1⟩ := ry.lst
      have rx' := rx.flat f.1
      have := q _ rfl
      refine .inl (.inl ⟨p, xs, rfl, .inl h1.sq, rx'.flat f.1, r1.flat f.2, ?_⟩)
      rw [r1.inV rx' f.1 f.2]
      exact this
    · split at e
      · rename_i f; cases e
        unfold deepOk at f
        simp only [Bool.and_eq_true, decide_eq_true_eq] at f
        exact .inr ⟨dx, es, rx.dpl f.1.1, .inl (ry.dpl (by simpa [PyData.canLay0] using f.2)), f.1.1, f.1.2, f.2, q _ rfl⟩
      · cases e
  · rename_i es
    split at e
    · rename_i f; cases e
      rw [Bool.and_eq_true] at f
      obtain ⟨p, xs, rfl, h1, n1, r1⟩ := ry.tup
      have rx' := rx.flat f.1
      have := q _ rfl
      refine .inl (.inl ⟨p, xs, rfl, .inr h1, rx'.flat f.1, r1.flat f.2, ?_⟩)
      rw [r1.inV rx' f.1 f.2]
      exact this
    · split at e
      · rename_i f; cases e
        unfold deepOk at f
        simp only [Bool.and_eq_true, decide_eq_true_eq] at f
        exact .inr ⟨dx, es, rx.dpl f.1.1, .inr (ry.dpl (by simpa [PyData.canLay0] using f.2)), f.1.1, f.1.2, f.2, q _ rfl⟩
      · cases e
  · cases e
    exact .inl (.inr ⟨_, _, rx.str, ry.str, q _ rfl⟩)
  · cases e
theorem d_in : OpD K (rInD K) gIn := fun H M x y dx dy d Q g rx ry e q => by
  have := in_core (Q := Q) false rx ry e fun b hb => by subst hb; exact q _ _ Ext.refl (.bl _)
  exact this
theorem d_nin : OpD K (rNinD K) gNin := fun H M x y dx dy d Q g rx ry e q => by
  unfold gNin at e
  split at e
  · rename_i b eb; cases e
    have := in_core (Q := Q) true rx ry eb fun b' hb => by cases hb; exact q _ _ Ext.refl (.bl _)
    exact this
  · cases e
/-! ### slices -/
def cutD (ds : List D) (lo hi : Option Int) : List D := (ds.drop (HT.sIx ds.length 0 lo)).take (HT.sIx ds.length ds.length hi - HT.sIx ds.length 0 lo)
theorem Rs.cut {xs : List V} {ds : List D} (r : Rs K H M xs ds) (lo hi : Option Int) : Rs K H M (cutV xs lo hi) (cutD ds lo hi) := by
  unfold cutV cutD
  rw [r.length]
  exact (r.drop _).take _
theorem cutD_whole {ds : List D} {lo hi : Option Int} (h : HT.sIx ds.length 0 lo = 0 ∧ HT.sIx ds.length ds.length hi = ds.length) : cutD ds lo hi = ds := by
  unfold cutD
  rw [h.1, h.2]
  simp
/-- a list's slice, a tuple's, a text's -/
def gSl (lo hi : Option Int) : D → Option D
  | .list ds => some (.list (cutD ds lo hi))
  | .tuple ds => some (.tuple (cutD ds lo hi))
  | .str z => if z.length ≤ lim then some (.str (cutS z lo hi)) else none
  | _ => none
def rSlD (K : PySem.W.Frag) : V → Option Int → Option Int → Hp → VK → Prop := fun x lo hi H Q => rSlL K x lo hi H Q ∨ rSlA K x lo hi H Q ∨ rSlS x lo hi H Q
theorem sl_all : SlR X (rSlD X.K) := sl_list.or (sl_tupA.or sl_str)
theorem d_sl {dx d : D} {lo hi : Option Int} {Q : VK} (g : Hg H M) (rx : RB K H M x dx) (e : gSl lo hi dx = some d) (q : ∀ v H', Ext H H' → R K H' M v d → Q v H') : rSlD K x lo hi H Q := by
  unfold gSl at e
  split at e
  · cases e
    obtain ⟨p, xs, rfl, h1, r1⟩ := rx.lst
    exact .inl ⟨p, xs, rfl, h1.sq, fun p hp => q _ _ (Ext.upd hp) (new_lst g hp (r1.cut lo hi))⟩
  · cases e
    obtain ⟨p, xs, rfl, h1, n1, r1⟩ := rx.tup
    refine .inr (.inl ⟨p, xs, rfl, h1, fun z => ?_, fun _ p hp => q _ _ (Ext.upd hp) (new_tup g hp (r1.cut lo hi))⟩)
    rw [r1.length] at z
    rw [cutD_whole z] at q
    exact q _ _ Ext.refl n1
  · split at e
    · rename_i z hz; cases e
      exact .inr (.inr ⟨z, rx.str, by rw [← lim_eq]; exact hz, q _ _ Ext.refl (.str _)⟩)
    · cases e
  · cases e
end
def xO : Option Xf → En → Ou (Option Int)
  | none, E => .ok none E
  | some f, E => (f E).bind fun d E1 => match d with
    | .int i => .ok (some i) E1
    | _ => .no
def tO (c : Ct) : Option Xf → TO
  | none => tNoPart
  | some f => tPart (tX c f)
def xSl (a : Bo) (lo hi : Option Xf) : Xf := fun E => (a.run E).bind fun x E1 => (xO lo E1).bind fun l E2 => (xO hi E2).bind fun h E3 => match a.fin x E3 with
  | some dx => oo (gSl l h dx) E3
  | none => .no
theorem tO_of {c : Ct} {lo : Option Xf} {Mo : Ms} {θ : Nat → Addr} {E : En} {σ : L2.St} {H : Hp} {Q : Option Int → Hp → Prop} (r : Rel c.K Mo θ E σ H) (h : Co (fun _ _ a b => a = b) c Mo θ E H (xO lo E) σ Q) : tO c lo σ H Q := by
  cases lo with
  | none => exact h none H r Tr.refl rfl
  | some f =>
    have h' : Co (fun _ _ a b => a = b) c Mo θ E H ((f E).bind fun d E1 => match d with
      | .int i => Ou.ok (some i) E1
      | _ => .no) σ Q := h
    refine ⟨Mo, θ, E, r, Co.mono (Co.bind (rl := R c.K) h') ?_⟩
    rintro v H1 ⟨d, E1, e1, r1, t1, q1, h1⟩
    split at h1
    · cases q1
      exact ⟨_, rfl, h1 _ H1 r1 Tr.refl rfl⟩
    · exact h1.elim
theorem t_sl {c : Ct} {a : Bo} {lo hi : Option Xf} (σ : L2.St) (H : Hp) (Q : VK) (h : tX c (xSl a lo hi) σ H Q) : tSl (rSlD c.K) (tBo c a) (tO c lo) (tO c hi) σ H Q := by
  obtain ⟨Mo, θ, E, rel, h⟩ := h
  refine tBo_of rel (Co.mono (Co.bind (rl := BoR c.K a σ) h) ?_)
  rintro x H1 ⟨o1, E1, e1, r1, t1, b1, h1⟩
  refine tO_of r1 (Co.mono (Co.bind (rl := fun _ _ a b => a = b) h1) ?_)
  rintro l H2 ⟨_, E2, e2, r2, t2, rfl, h2⟩
  refine tO_of r2 (Co.mono (Co.bind (rl := fun _ _ a b => a = b) h2) ?_)
  rintro u H3 ⟨_, E3, e3, r3, t3, rfl, h3⟩
  have b1' := (b1.mv (t2.mv r2)).mv (t3.mv r3)
  split at h3
  · rename_i dx fx
    cases eg : gSl l u dx with
    | none => rw [eg] at h3; exact h3.elim
    | some d =>
      rw [eg] at h3
      exact d_sl r3.hg (b1'.fin r3 fx) eg fun v H' e q => Co.give r3 h3 e q
  · exact h3.elim
/-! ### built-ins of one argument -/
section
variable {K : PySem.W.Frag} {H : Hp} {M : Ms} {x y : V} {X : Cx}
def gLen : D → Option D
  | .list ds => some (.int ds.length)
  | .tuple ds => some (.int ds.length)
  | .str z => if z.length ≤ lim then some (.int z.length) else none
  | _ => none
theorem d_len : Op1 K (fun xs H Q => ∃ x n, xs = [x] ∧ LenV K x H n ∧ Q (.int n) H) gLen := by
  intro H M x dx d Q g rx e q
  unfold gLen at e
  split at e
  · cases e
    obtain ⟨p, xs, rfl, h1, r1⟩ := rx.lst
    exact ⟨_, xs.length, rfl, .inl ⟨xs, h1.sq, rfl⟩, by rw [r1.length]; exact q _ _ Ext.refl (.int _)⟩
  · cases e
    obtain ⟨p, xs, rfl, h1, n1, r1⟩ := rx.tup
    exact ⟨_, xs.length, rfl, .inr ⟨xs, h1, rfl⟩, by rw [r1.length]; exact q _ _ Ext.refl (.int _)⟩
  · split at e
    · rename_i z hz; cases e
      exact ⟨_, z.length, rfl, by rw [rx.str]; exact ⟨by rw [← lim_eq]; exact hz, rfl⟩, q _ _ Ext.refl (.int _)⟩
    · cases e
  · cases e
def gInt : D → Option D
  | .int i => some (.int i)
  | .bool b => some (.int (if b then 1 else 0))
  | _ => none
theorem d_int : Op1 K (fun xs H Q => (∃ i, xs = [.int i] ∧ Q (.int i) H) ∨ ∃ k, xs = [.bl k] ∧ Q (.int (if k then 1 else 0)) H) gInt := by
  intro H M x dx d Q g rx e q
  unfold gInt at e
  split at e
  · cases e; exact .inl ⟨_, by rw [rx.int], q _ _ Ext.refl (.int _)⟩
  · cases e; exact .inr ⟨_, by rw [rx.bl], q _ _ Ext.refl (.int _)⟩
  · cases e
def gAbs : D → Option D
  | .int i => some (.int (if i < 0 then -i else i))
  | _ => none
theorem d_abs : Op1 K (fun xs H Q => ∃ i, xs = [.int i] ∧ Q (.int (if i < 0 then -i else i)) H) gAbs := by
  intro H M x dx d Q g rx e q
  unfold gAbs at e
  split at e
  · cases e; exact ⟨_, by rw [rx.int], q _ _ Ext.refl (.int _)⟩
  · cases e
def bls : List D → Option (List Bool)
  | [] => some []
  | .bool b :: r => (bls r).map (b :: ·)
  | _ :: _ => none
def wholes : List D → Option (List Int)
  | [] => some []
  | .int b :: r => (wholes r).map (b :: ·)
  | _ :: _ => none
theorem Rs.bls : ∀ {xs : List V} {ds : List D} {bs : List Bool}, Rs K H M xs ds → bls ds = some bs → xs = bs.map V.bl
  | _, _, _, .nil, e => by cases e; rfl
  | _, _, bs, .cons (d := d) (ds := ds) r t, e => by
    cases r <;> first | (simp [Dl.bls] at e; done) | skip
    rename_i b
    unfold Dl.bls at e
    cases e2 : Dl.bls ds with
    | none => rw [e2] at e; cases e
    | some cs =>
      rw [e2] at e; cases e
      rw [Rs.bls t e2]; rfl
theorem Rs.wholes : ∀ {xs : List V} {ds : List D} {bs : List Int}, Rs K H M xs ds → wholes ds = some bs → xs = bs.map V.int
  | _, _, _, .nil, e => by cases e; rfl
  | _, _, bs, .cons (d := d) (ds := ds) r t, e => by
    cases r <;> first | (simp [Dl.wholes] at e; done) | skip
    rename_i b
    unfold Dl.wholes at e
    cases e2 : Dl.wholes ds with
    | none => rw [e2] at e; cases e
    | some cs =>
      rw [e2] at e; cases e
      rw [Rs.wholes t e2]; rfl
def gAll : D → Option D
  | .list ds => (bls ds).map fun bs => .bool (bs.all id)
  | _ => none
def gAny : D → Option D
  | .list ds => (bls ds).map fun bs => .bool (bs.any id)
  | _ => none
def gSum : D → Option D
  | .list ds => (wholes ds).map fun bs => .int bs.sum
  | _ => none
theorem d_all : Op1 K (rAll K) gAll := by
  intro H M x dx d Q g rx e q
  unfold gAll at e
  split at e
  · rename_i ds
    obtain ⟨p, xs, rfl, h1, r1⟩ := rx.lst
    cases eb : bls ds with
    | none => rw [eb] at e; cases e
    | some bs =>
      rw [eb] at e; cases e
      exact ⟨p, bs, rfl, by rw [← r1.bls eb]; exact h1.sq, q _ _ Ext.refl (.bl _)⟩
  · cases e
theorem d_any : Op1 K (rAny K) gAny := by
  intro H M x dx d Q g rx e q
  unfold gAny at e
  split at e
  · rename_i ds
    obtain ⟨p, xs, rfl, h1, r1⟩ := rx.lst
    cases eb : bls ds with
    | none => rw [eb] at e; cases e
    | some bs =>
      rw [eb] at e; cases e
      exact ⟨p, bs, rfl, by rw [← r1.bls eb]; exact h1.sq, q _ _ Ext.refl (.bl _)⟩
  · cases e
theorem d_sum : Op1 K (rSum K) gSum := by
  intro H M x dx d Q g rx e q
  unfold gSum at e
  split at e
  · rename_i ds
    obtain ⟨p, xs, rfl, h1, r1⟩ := rx.lst
    cases eb : wholes ds with
    | none => rw [eb] at e; cases e
    | some bs =>
      rw [eb] at e; cases e
      exact ⟨p, bs, rfl, by rw [← r1.wholes eb]; exact h1.sq, q _ _ Ext.refl (.int _)⟩
  · cases e
def gToTup : D → Option D
  | .list ds => some (.tuple ds)
  | .tuple ds => some (.tuple ds)
  | _ => none
theorem d_tup : Op1 K (fun xs H Q => ∃ p ys, xs = [.ref p] ∧ ((SqL K H p ys ∧ ∀ l, H l = none → Q (.ref l) (upd H l (.tup ys))) ∨ (SqT K H p ys ∧ Q (.ref p) H))) gToTup := by
  intro H M x dx d Q g rx e q
  unfold gToTup at e
  split at e
  · cases e
    obtain ⟨p, xs, rfl, h1, r1⟩ := rx.lst
    exact ⟨p, xs, rfl, .inl ⟨h1.sq, fun l hl => q _ _ (Ext.upd hl) (new_tup g hl r1)⟩⟩
  · cases e
    obtain ⟨p, xs, rfl, h1, n1, r1⟩ := rx.tup
    exact ⟨p, xs, rfl, .inr ⟨h1, q _ _ Ext.refl n1⟩⟩
  · cases e
def gToLst : D → Option D
  | .list ds => some (.list ds)
  | .tuple ds => some (.list ds)
  | _ => none
theorem d_lst : Op1 K (fun xs H Q => ∃ p ys, xs = [.ref p] ∧ (SqL K H p ys ∨ SqT K H p ys) ∧ ∀ l, H l = none → Q (.ref l) (upd H l (.lst ys))) gToLst := by
  intro H M x dx d Q g rx e q
  unfold gToLst at e
  split at e
  · cases e
    obtain ⟨p, xs, rfl, h1, r1⟩ := rx.lst
    exact ⟨p, xs, rfl, .inl h1.sq, fun l hl => q _ _ (Ext.upd hl) (new_lst g hl r1)⟩
  · cases e
    obtain ⟨p, xs, rfl, h1, n1, r1⟩ := rx.tup
    exact ⟨p, xs, rfl, .inr h1, fun l hl => q _ _ (Ext.upd hl) (new_lst g hl r1)⟩
  · cases e
/-! ### of two -/
def Op2 (K : PySem.W.Frag) (r : List V → Hp → VK → Prop) (g : D → D → Option D) : Prop := OpD K (fun x y => r [x, y]) g
def gMax : D → D → Option D := gII fun i j => some (.int (if j > i then j else i))
def gMin : D → D → Option D := gII fun i j => some (.int (if j < i then j else i))
theorem d_max : Op2 K (fun xs H Q => ∃ i j, xs = [.int i, .int j] ∧ Q (.int (if j > i then j else i)) H) gMax := by
  intro H M x y dx dy d Q g rx ry e q
  unfold gMax gII at e
  split at e
  · cases e; exact ⟨_, _, by rw [rx.int, ry.int], q _ _ Ext.refl (.int _)⟩
  · cases e
theorem d_min : Op2 K (fun xs H Q => ∃ i j, xs = [.int i, .int j] ∧ Q (.int (if j < i then j else i)) H) gMin := by
  intro H M x y dx dy d Q g rx ry e q
  unfold gMin gII at e
  split at e
  · cases e; exact ⟨_, _, by rw [rx.int, ry.int], q _ _ Ext.refl (.int _)⟩
  · cases e
end
theorem t_op2b {c : Ct} {a b : Bo} {r : List V → Hp → VK → Prop} {g : D → D → Option D} (hd : Op2 c.K r g) (σ : L2.St) (H : Hp) (Q : VK) (h : tX c (xOp2 g a b) σ H Q) : tCB r (tCons (tBo c a) (tCons (tBo c b) tNil)) σ H Q :=
  t_op2 (r := fun x y => r [x, y]) hd σ H Q h
/-! ### -x, ~x -/
def gNeg : D → Option D
  | .int i => some (.int (-i))
  | _ => none
def gInv : D → Option D
  | .int i => some (.int (Builtin.bitNot i))
  | _ => none
theorem t_un {c : Ct} {a : Bo} {f : Int → Int} {g : D → Option D} (hg : ∀ d e, g d = some e → ∃ i, d = .int i ∧ e = .int (f i)) (σ : L2.St) (H : Hp) (Q : VK) (h : tX c (xOp1 g a) σ H Q) : tUn (rU fun i => .int (f i)) (tBo c a) σ H Q := by
  have z := t_op1 (r := fun xs H Q => ∃ x, xs = [x] ∧ rU (fun i => .int (f i)) x H Q) (fun H M x dx d Q g' rx e q => by
    obtain ⟨i, rfl, rfl⟩ := hg _ _ e
    exact ⟨_, rfl, i, rx.int, q _ _ Ext.refl (.int _)⟩) σ H Q h
  have mono : ∀ {Q1 Q2 : V → Hp → Prop}, (∀ v H, Q1 v H → Q2 v H) → tBo c a σ H Q1 → tBo c a σ H Q2 := fun {Q1 Q2} i w => by
    cases a with
    | v j => obtain ⟨v, h1, h2⟩ := w; exact ⟨v, h1, i _ _ h2⟩
    | e f' => obtain ⟨Mo, θ, E, r, w⟩ := w; exact ⟨Mo, θ, E, r, Co.mono w fun v H' => i v H'⟩
  exact mono (fun v H' ⟨x, e1, q⟩ => by cases e1; exact q) z
theorem neg_int' : ∀ d e, gNeg d = some e → ∃ i, d = .int i ∧ e = .int (-i) := by
  intro d e h
  unfold gNeg at h
  split at h
  · cases h; exact ⟨_, rfl, rfl⟩
  · cases h
theorem inv_int' : ∀ d e, gInv d = some e → ∃ i, d = .int i ∧ e = .int (Builtin.bitNot i) := by
  intro d e h
  unfold gInv at h
  split at h
  · cases h; exact ⟨_, rfl, rfl⟩
  · cases h
end
end Dl

set_option Elab.async false
set_option linter.all false
set_option maxRecDepth 100000
set_option maxHeartbeats 2000000
namespace Dl
noncomputable section
open PySem PySem.Spec PyProof.Rows L2
/-! ### is None -/
def isNon : D → Bool
  | .none => true
  | _ => false
def gIs : D → D → Option D
  | d, .none => some (.bool (isNon d))
  | _, _ => none
def gIsn : D → D → Option D
  | d, .none => some (.bool (!isNon d))
  | _, _ => none
section
variable {K : PySem.W.Frag} {H : Hp} {M : Ms} {x y : V} {X : Cx}
theorem RB.isNon {d : D} (h : RB K H M x d) : decide (x = .non) = isNon d := by
  rcases h with h | ⟨a, _, _, rfl, rfl, _⟩
  · cases h <;> simp [Dl.isNon]
  · simp [Dl.isNon]
theorem d_is : OpD K (fun x y H Q => y = .non ∧ Q (.bl (decide (x = .non))) H) gIs := by
  intro H M x y dx dy d Q g rx ry e q
  unfold gIs at e
  split at e
  · cases e; exact ⟨ry.non, by rw [rx.isNon]; exact q _ _ Ext.refl (.bl _)⟩
  · cases e
theorem d_isn : OpD K (fun x y H Q => y = .non ∧ Q (.bl (!decide (x = .non))) H) gIsn := by
  intro H M x y dx dy d Q g rx ry e q
  unfold gIsn at e
  split at e
  · cases e; exact ⟨ry.non, by rw [rx.isNon]; exact q _ _ Ext.refl (.bl _)⟩
  · cases e
/-! ### truth -/
def tru : D → Option Bool
  | .none => some false
  | .bool b => some b
  | .int i => some (i != 0)
  | .str y => if y.length ≤ lim then some (y.length != 0) else none
  | .list ds => some (!ds.isEmpty)
  | .tuple ds => some (!ds.isEmpty)
  | _ => none
theorem Rs.emp {xs : List V} {ds : List D} (r : Rs K H M xs ds) : xs.isEmpty = ds.isEmpty := by cases r <;> rfl
theorem RB.tru {d : D} {b : Bool} (h : RB K H M x d) (e : tru d = some b) : TruV K x H b := by
  unfold Dl.tru at e
  split at e
  · cases e; rw [h.non]; exact rfl
  · cases e; rw [h.bl]; exact rfl
  · cases e; rw [h.int]; exact rfl
  · split at e
    · rename_i y hy; cases e; rw [h.str]
      refine ⟨by rw [← lim_eq]; exact hy, ?_⟩
      rw [Bool.eq_iff_iff, bne_iff_ne, bne_iff_ne]; omega
    · cases e
  · cases e
    obtain ⟨a, xs, rfl, h1, r1⟩ := h.lst
    exact .inl ⟨xs, h1.sq, by rw [r1.emp]⟩
  · cases e
    obtain ⟨a, xs, rfl, h1, n1, r1⟩ := h.tup
    exact .inr (.inl ⟨xs, h1, by rw [r1.emp]⟩)
  · cases e
end
def xbT (a : Bo) : Xb := fun E => (a.run E).bind fun x E1 => match a.fin x E1 with
  | some d => oo (tru d) E1
  | none => .no
theorem t_truth {c : Ct} {a : Bo} (σ : L2.St) (H : Hp) (Q : Bool → Hp → Prop) (h : tXb c (xbT a) σ H Q) : tBo c a σ H fun x H' => ∃ k, TruV c.K x H' k ∧ Q k H' := by
  obtain ⟨Mo, θ, E, rel, h⟩ := h
  refine tBo_of rel (Co.mono (Co.bind (rl := BoR c.K a σ) h) ?_)
  rintro x H1 ⟨o1, E1, e1, r1, t1, b1, h1⟩
  split at h1
  · rename_i d fx
    cases et : tru d with
    | none => rw [et] at h1; exact h1.elim
    | some b =>
      rw [et] at h1
      exact ⟨b, (b1.fin r1 fx).tru et, h1 b H1 r1 Tr.refl rfl⟩
  · exact h1.elim
/-- a comparison as a test -/
def xbV (f : Xf) : Xb := fun E => (f E).bind fun d E1 => match d with
  | .bool b => .ok b E1
  | _ => .no
theorem tXb_V {c : Ct} {f : Xf} {σ : L2.St} {H : Hp} {Q : Bool → Hp → Prop} (h : tXb c (xbV f) σ H Q) : tX c f σ H fun x H' => ∃ k, x = .bl k ∧ Q k H' := by
  obtain ⟨Mo, θ, E, rel, h⟩ := h
  refine ⟨Mo, θ, E, rel, Co.mono (Co.bind (rl := R c.K) h) ?_⟩
  rintro x H1 ⟨d, E1, e1, r1, t1, b1, h1⟩
  split at h1
  · cases b1
    exact ⟨_, rfl, h1 _ H1 r1 Tr.refl rfl⟩
  · exact h1.elim
/-! ### and, or, not; if -/
def xAnd (a b : Xf) : Xf := fun E => (a E).bind fun d E1 => match d with
  | .bool true => b E1
  | .bool false => .ok (.bool false) E1
  | _ => .no
def xOr (a b : Xf) : Xf := fun E => (a E).bind fun d E1 => match d with
  | .bool true => .ok (.bool true) E1
  | .bool false => b E1
  | _ => .no
def xNot (a : Xf) : Xf := fun E => (a E).bind fun d E1 => match d with
  | .bool b => .ok (.bool (!b)) E1
  | _ => .no
theorem t_and {c : Ct} {a b : Xf} (σ : L2.St) (H : Hp) (Q : VK) (h : tX c (xAnd a b) σ H Q) : tAndV (tX c a) (tX c b) σ H Q := by
  obtain ⟨Mo, θ, E, rel, h⟩ := h
  refine ⟨Mo, θ, E, rel, Co.mono (Co.bind (rl := R c.K) h) ?_⟩
  rintro x H1 ⟨d, E1, e1, r1, t1, b1, h1⟩
  split at h1
  · cases b1; exact ⟨true, rfl, by rw [if_pos rfl]; exact ⟨Mo, θ, E1, r1, h1⟩⟩
  · cases b1; exact ⟨false, rfl, by rw [if_neg Bool.false_ne_true]; exact h1 _ H1 r1 Tr.refl (.bl _)⟩
  · exact h1.elim
theorem t_or {c : Ct} {a b : Xf} (σ : L2.St) (H : Hp) (Q : VK) (h : tX c (xOr a b) σ H Q) : tOrV (tX c a) (tX c b) σ H Q := by
  obtain ⟨Mo, θ, E, rel, h⟩ := h
  refine ⟨Mo, θ, E, rel, Co.mono (Co.bind (rl := R c.K) h) ?_⟩
  rintro x H1 ⟨d, E1, e1, r1, t1, b1, h1⟩
  split at h1
  · cases b1; exact ⟨true, rfl, by rw [if_pos rfl]; exact h1 _ H1 r1 Tr.refl (.bl _)⟩
  · cases b1; exact ⟨false, rfl, by rw [if_neg Bool.false_ne_true]; exact ⟨Mo, θ, E1, r1, h1⟩⟩
  · exact h1.elim
theorem t_not {c : Ct} {a : Xf} (σ : L2.St) (H : Hp) (Q : VK) (h : tX c (xNot a) σ H Q) : tNotV (tX c a) σ H Q := by
  obtain ⟨Mo, θ, E, rel, h⟩ := h
  refine ⟨Mo, θ, E, rel, Co.mono (Co.bind (rl := R c.K) h) ?_⟩
  rintro x H1 ⟨d, E1, e1, r1, t1, b1, h1⟩
  split at h1
  · cases b1; exact ⟨_, rfl, h1 _ H1 r1 Tr.refl (.bl _)⟩
  · exact h1.elim
def xbAnd (a b : Xb) : Xb := fun E => (a E).bind fun d E1 => match d with
  | true => b E1
  | false => .ok false E1
def xbOr (a b : Xb) : Xb := fun E => (a E).bind fun d E1 => match d with
  | true => .ok true E1
  | false => b E1
def xbNot (a : Xb) : Xb := fun E => (a E).bind fun d E1 => .ok (!d) E1
theorem t_band {c : Ct} {a b : Xb} (σ : L2.St) (H : Hp) (Q : Bool → Hp → Prop) (h : tXb c (xbAnd a b) σ H Q) : tAnd (tXb c a) (tXb c b) σ H Q := by
  obtain ⟨Mo, θ, E, rel, h⟩ := h
  refine ⟨Mo, θ, E, rel, Co.mono (Co.bind (rl := RB0) h) ?_⟩
  rintro x H1 ⟨d, E1, e1, r1, t1, b1, h1⟩
  have b1' : x = d := b1
  subst b1'
  cases x with
  | true => rw [if_pos rfl]; exact ⟨Mo, θ, E1, r1, h1⟩
  | false => rw [if_neg Bool.false_ne_true]; exact h1 _ H1 r1 Tr.refl rfl
theorem t_bor {c : Ct} {a b : Xb} (σ : L2.St) (H : Hp) (Q : Bool → Hp → Prop) (h : tXb c (xbOr a b) σ H Q) : tOr (tXb c a) (tXb c b) σ H Q := by
  obtain ⟨Mo, θ, E, rel, h⟩ := h
  refine ⟨Mo, θ, E, rel, Co.mono (Co.bind (rl := RB0) h) ?_⟩
  rintro x H1 ⟨d, E1, e1, r1, t1, b1, h1⟩
  have b1' : x = d := b1
  subst b1'
  cases x with
  | true => rw [if_pos rfl]; exact h1 _ H1 r1 Tr.refl rfl
  | false => rw [if_neg Bool.false_ne_true]; exact ⟨Mo, θ, E1, r1, h1⟩
theorem t_bnot {c : Ct} {a : Xb} (σ : L2.St) (H : Hp) (Q : Bool → Hp → Prop) (h : tXb c (xbNot a) σ H Q) : tNot (tXb c a) σ H Q := by
  obtain ⟨Mo, θ, E, rel, h⟩ := h
  refine ⟨Mo, θ, E, rel, Co.mono (Co.bind (rl := RB0) h) ?_⟩
  rintro x H1 ⟨d, E1, e1, r1, t1, b1, h1⟩
  have b1' : x = d := b1
  subst b1'
  exact h1 _ H1 r1 Tr.refl rfl
def xIf (t : Xb) (a b : Xf) : Xf := fun E => (t E).bind fun d E1 => match d with
  | true => a E1
  | false => b E1
theorem t_if {c : Ct} {t : Xb} {a b : Xf} (σ : L2.St) (H : Hp) (Q : VK) (h : tX c (xIf t a b) σ H Q) : tIf (tXb c t) (tX c a) (tX c b) σ H Q := by
  obtain ⟨Mo, θ, E, rel, h⟩ := h
  refine ⟨Mo, θ, E, rel, Co.mono (Co.bind (rl := RB0) h) ?_⟩
  rintro x H1 ⟨d, E1, e1, r1, t1, b1, h1⟩
  have b1' : x = d := b1
  subst b1'
  cases x with
  | true => rw [if_pos rfl]; exact ⟨Mo, θ, E1, r1, h1⟩
  | false => rw [if_neg Bool.false_ne_true]; exact ⟨Mo, θ, E1, r1, h1⟩
/-! ### a < b < c -/
def xChn (g g' : D → D → Option D) (a b k : Xf) : Xf := fun E => (a E).bind fun x E1 => (b E1).bind fun y E2 => match g x y with
  | some (.bool true) => (k E2).bind fun z E3 => oo (g' y z) E3
  | some (.bool false) => .ok (.bool false) E2
  | _ => .no
theorem t_chn {c : Ct} {a b k : Xf} {r r' : R2} {g g' : D → D → Option D} (hd : OpD c.K r g) (hd' : OpD c.K r' g') (σ : L2.St) (H : Hp) (Q : VK) (h : tX c (xChn g g' a b k) σ H Q) : tChain r r' (tX c a) (tX c b) (tX c k) σ H Q := by
  obtain ⟨Mo, θ, E, rel, h⟩ := h
  refine ⟨Mo, θ, E, rel, Co.mono (Co.bind (rl := R c.K) h) ?_⟩
  rintro x H1 ⟨dx, E1, e1, r1, t1, b1, h1⟩
  refine ⟨Mo, θ, E1, r1, Co.mono (Co.bind (rl := R c.K) h1) ?_⟩
  rintro y H2 ⟨dy, E2, e2, r2, t2, b2, h2⟩
  have b1' := b1.mv (t2.mv r2)
  split at h2
  · rename_i eg
    refine hd H2 _ x y dx dy _ _ r2.hg (.inl b1') (.inl b2) eg fun v H3 ex q => ?_
    cases q
    refine ⟨true, rfl, ?_⟩
    rw [if_pos rfl]
    have r3 := r2.ext ex
    refine ⟨Mo, θ, E2, r3, Co.mono (Co.bind (rl := R c.K) (Co.move (Tr.ext ex) h2)) ?_⟩
    rintro z H4 ⟨dz, E4, e4, r4, t4, b4, h4⟩
    have b2' := (b2.mv ex.mv).mv (t4.mv r4)
    cases eg' : g' dy dz with
    | none => rw [eg'] at h4; exact h4.elim
    | some d =>
      rw [eg'] at h4
      exact hd' H4 _ y z dy dz d _ r4.hg (.inl b2') (.inl b4) eg' fun v H' e q => Co.give r4 h4 e q
  · rename_i eg
    refine hd H2 _ x y dx dy _ _ r2.hg (.inl b1') (.inl b2) eg fun v H3 ex q => ?_
    cases q
    refine ⟨false, rfl, ?_⟩
    rw [if_neg Bool.false_ne_true]
    exact Co.give r2 h2 ex (.bl _)
  · exact h2.elim
end
end Dl

set_option Elab.async false
set_option linter.all false
set_option maxRecDepth 100000
set_option maxHeartbeats 2000000
namespace Dl
noncomputable section
open PySem PySem.Spec PyProof.Rows L2
/-! ### results that may be a fresh list -/
def ins (Mo : Ms) (p : Addr) : Ms := fun a => Mo a ∨ a = p
def Frs (θ : Nat → Addr) (E : En) (H : Hp) (p : Addr) : Prop := Own E θ p ∨ H p = none
section
variable {K : PySem.W.Frag} {Mo : Ms} {θ θ' : Nat → Addr} {E E' : En} {σ σ' : L2.St} {H H' : Hp} {p : Addr}
theorem Frs.back (t : Tr θ E H θ' E' H') (h : Frs θ' E' H' p) : Frs θ E H p := by
  rcases h with h | h
  · exact t.ow p h
  · by_cases n : Own E θ p
    · exact .inl n
    · refine .inr ?_
      cases e : H p with
      | none => rfl
      | some o => rw [t.fr p o e n] at h; cases h
theorem Rel.less (r : Rel K (ins Mo p) θ E σ H) : Rel K Mo θ E σ H where
  im := fun i d h => let ⟨v, a, b⟩ := r.im i d h; ⟨v, a, b.mv ⟨fun _ _ h _ => h, fun a h => .inl (h.elim (fun z => .inl (.inl z)) .inr)⟩⟩
  ow := fun i x ds a b => let ⟨u1, u2, xs, u3, u4⟩ := r.ow i x ds a b; ⟨u1, fun z => u2 (.inl z), xs, u3, u4.mv ⟨fun _ _ h _ => h, fun a h => .inl (h.elim (fun z => .inl (.inl z)) .inr)⟩⟩
  inj := r.inj
  mo := fun a h => r.mo a (.inl h)
  len := r.len
/-- a fresh list, as data -/
theorem fresh_data (r : Rel K (ins Mo p) θ E σ H) {xs : List V} {ds : List D} (h : H p = some (.lst xs)) (q : Rs K H (MM (ins Mo p) θ E) xs ds) (n : ¬ Mo p) : R K H (MM Mo θ E) (.ref p) (.list ds) := by
  refine .lst (.inl h) (fun z => ?_) (q.mv ⟨fun _ _ h _ => h, fun a h => .inl (h.elim (fun z => .inl (.inl z)) .inr)⟩)
  rcases z with z | ⟨i, x, es, h1, h2, e⟩
  · exact n z
  · obtain ⟨_, h3, _⟩ := r.ow i x es h1 h2
    exact h3 (.inr e.symm)
end
def CoF (c : Ct) (Mo : Ms) (θ : Nat → Addr) (E : En) (H : Hp) (o : Ou Sl) (σ : L2.St) (Q : VK) : Prop :=
  match o with
  | .ok (.im d) E' => ∀ v H', Rel c.K Mo θ E' σ H' → Tr θ E H θ E' H' → R c.K H' (MM Mo θ E') v d → Q v H'
  | .ok (.ow ds) E' => ∀ p xs H', Rel c.K (ins Mo p) θ E' σ H' → Tr θ E H θ E' H' → Frs θ E H p → ¬ Mo p → H' p = some (.lst xs) → Rs c.K H' (MM (ins Mo p) θ E') xs ds → Q (.ref p) H'
  | .ok (.io _) _ => False
  | .ex x E' => ∀ cls dx H', XR c.K c.mg H' (MM Mo θ E') x cls dx → Rel c.K Mo θ E' σ H' → Tr θ E H θ E' H' → c.W cls dx σ H'
  | .no => False
abbrev Xs := En → Ou Sl
def tXF (c : Ct) (f : Xs) : TE := fun σ H Q => ∃ Mo θ E, Rel c.K Mo θ E σ H ∧ CoF c Mo θ E H (f E) σ Q
def xD (f : Xs) : Xf := fun E => (f E).bind fun r E' => match r with
  | .im d => .ok d E'
  | .ow ds => .ok (.list ds) E'
  | .io _ => .no
def xF (f : Xf) : Xs := fun E => (f E).bind fun d E' => .ok (.im d) E'
theorem t_D {c : Ct} {f : Xs} (σ : L2.St) (H : Hp) (Q : VK) (h : tX c (xD f) σ H Q) : tXF c f σ H Q := by
  obtain ⟨Mo, θ, E, rel, h⟩ := h
  refine ⟨Mo, θ, E, rel, ?_⟩
  have h' : Co (R c.K) c Mo θ E H ((f E).bind fun r E' => match r with
    | .im d => Ou.ok d E'
    | .ow ds => Ou.ok (PyData.list ds) E'
    | .io _ => Ou.no) σ Q := h
  cases e : f E with
  | ok r E' =>
    rw [e] at h'
    cases r with
    | im d => exact h'
    | ow ds => exact fun p xs H' r' t _ n hp q => h' _ H' r'.less t (fresh_data r' hp q n)
    | io ds => exact h'
  | ex x E' => rw [e] at h'; exact h'
  | no => rw [e] at h'; exact h'
theorem t_F {c : Ct} {f : Xf} (σ : L2.St) (H : Hp) (Q : VK) (h : tXF c (xF f) σ H Q) : tX c f σ H Q := by
  obtain ⟨Mo, θ, E, rel, h⟩ := h
  refine ⟨Mo, θ, E, rel, ?_⟩
  have h' : CoF c Mo θ E H ((f E).bind fun d E' => .ok (.im d) E') σ Q := h
  cases e : f E with
  | ok d E' => rw [e] at h'; exact h'
  | ex x E' => rw [e] at h'; exact h'
  | no => rw [e] at h'; exact h'
/-- a display -/
def xLstF (fs : Xfs) : Xs := fun E => (fs E).bind fun ds E1 => .ok (.ow ds) E1
theorem ins_mv {Mo : Ms} {θ : Nat → Addr} {E : En} {H : Hp} {p : Addr} {o : HO} (hp : H p = none) : Mv H (MM Mo θ E) (upd H p o) (MM (ins Mo p) θ E) where
  fr := fun b x h _ => Ext.upd hp b x h
  ow := fun a h => by
    rcases h with (h | h) | h
    · exact .inl (.inl h)
    · subst h; exact .inr hp
    · exact .inl (.inr h)
theorem Rel.new {K : PySem.W.Frag} {Mo : Ms} {θ : Nat → Addr} {E : En} {σ : L2.St} {H : Hp} {p : Addr} {xs : List V} (r : Rel K Mo θ E σ H) (hp : H p = none) : Rel K (ins Mo p) θ E σ (upd H p (.lst xs)) where
  im := fun i d h => let ⟨v, a, b⟩ := r.im i d h; ⟨v, a, b.mv (ins_mv hp)⟩
  ow := fun i x ds a b => by
    obtain ⟨u1, u2, ys, u3, u4⟩ := r.ow i x ds a b
    refine ⟨u1, fun z => z.elim u2 fun z => ?_, ys, Ext.upd hp _ _ u3, u4.mv (ins_mv hp)⟩
    rw [z, hp] at u3; cases u3
  inj := r.inj
  mo := fun a h => by
    rcases h with h | h
    · obtain ⟨o, q⟩ := r.mo a h
      exact ⟨o, Ext.upd hp _ _ q⟩
    · subst h; exact ⟨xs, upd_same⟩
  len := r.len
theorem Rel.notMo {K : PySem.W.Frag} {Mo : Ms} {θ : Nat → Addr} {E : En} {σ : L2.St} {H : Hp} {p : Addr} (r : Rel K Mo θ E σ H) (hp : H p = none) : ¬ Mo p := fun z => by obtain ⟨o, q⟩ := r.mo p z; rw [hp] at q; cases q
theorem t_lstF {c : Ct} {fs : Xfs} {n : Nat} (hn : ∀ E ds E', fs E = .ok ds E' → ds.length ≤ n) (hz : n ≤ sizeLine) (σ : L2.St) (H : Hp) (Q : VK) (h : tXF c (xLstF fs) σ H Q) : tLst (tXs c fs) σ H Q := by
  obtain ⟨Mo, θ, E, rel, h⟩ := h
  refine ⟨Mo, θ, E, rel, ?_⟩
  have h' : CoF c Mo θ E H ((fs E).bind fun ds E1 => .ok (.ow ds) E1) σ Q := h
  cases e : fs E with
  | ok ds E' =>
    rw [e] at h'
    intro xs H1 r1 t1 q1
    refine ⟨by rw [q1.length]; exact Nat.le_trans (hn _ _ _ e) hz, fun p hp => ?_⟩
    exact h' p xs _ (r1.new hp) (t1.trans (Tr.ext (Ext.upd hp))) (Frs.back t1 (.inr hp)) (r1.notMo hp) upd_same (q1.mv (ins_mv hp))
  | ex x E' => rw [e] at h'; exact h'
  | no => rw [e] at h'; exact h'
/-- list(x) -/
def xLstOfF (a : Bo) : Xs := fun E => (a.run E).bind fun x E1 => match a.fin x E1 with
  | some (.list ds) => .ok (.ow ds) E1
  | some (.tuple ds) => .ok (.ow ds) E1
  | _ => .no
/-! ### statements -/
inductive Rt where
  | nx (E : En) | rt (r : Sl) (E : En) | bk (E : En) | ct (E : En) | ex (x : Xc) (E : En) | no
abbrev Sf := En → Rt
def CoS (c : Ct) (Mo : Ms) (θ : Nat → Addr) (E : En) (H : Hp) (o : Rt) (Dn : Ends) : Prop :=
  match o with
  | .nx E' => ∀ θ' σ' H', Rel c.K Mo θ' E' σ' H' → Tr θ E H θ' E' H' → Dn.nx σ' H'
  | .rt (.im d) E' => ∀ θ' σ' v H', Rel c.K Mo θ' E' σ' H' → Tr θ E H θ' E' H' → R c.K H' (MM Mo θ' E') v d → Dn.rt v H'
  | .rt (.ow ds) E' => ∀ θ' σ' p xs H', Rel c.K (ins Mo p) θ' E' σ' H' → Tr θ E H θ' E' H' → Frs θ E H p → ¬ Mo p → H' p = some (.lst xs) → Rs c.K H' (MM (ins Mo p) θ' E') xs ds → Dn.rt (.ref p) H'
  | .rt (.io _) _ => False
  | .bk E' => ∀ θ' σ' H', Rel c.K Mo θ' E' σ' H' → Tr θ E H θ' E' H' → Dn.bk σ' H'
  | .ct E' => ∀ θ' σ' H', Rel c.K Mo θ' E' σ' H' → Tr θ E H θ' E' H' → Dn.ct σ' H'
  | .ex x E' => ∀ θ' σ' cls dx H', XR c.K c.mg H' (MM Mo θ' E') x cls dx → Rel c.K Mo θ' E' σ' H' → Tr θ E H θ' E' H' → c.W cls dx σ' H'
  | .no => False
def tS (c : Ct) (f : Sf) : TS := fun Dn σ H => ∃ Mo θ E, Rel c.K Mo θ E σ H ∧ CoS c Mo θ E H (f E) Dn
section
variable {c : Ct} {Mo : Ms} {θ θ1 : Nat → Addr} {E E1 : En} {H H1 : Hp} {Dn Dn' : Ends} {o : Rt}
theorem CoS.move (t : Tr θ E H θ1 E1 H1) (h : CoS c Mo θ E H o Dn) : CoS c Mo θ1 E1 H1 o Dn := by
  cases o with
  | nx E' => exact fun θ' σ' H' r t' => h θ' σ' H' r (t.trans t')
  | rt r E' =>
    cases r with
    | im d => exact fun θ' σ' v H' r t' q => h θ' σ' v H' r (t.trans t') q
    | ow ds => exact fun θ' σ' p xs H' r t' f n a b => h θ' σ' p xs H' r (t.trans t') (f.back t) n a b
    | io ds => exact h
  | bk E' => exact fun θ' σ' H' r t' => h θ' σ' H' r (t.trans t')
  | ct E' => exact fun θ' σ' H' r t' => h θ' σ' H' r (t.trans t')
  | ex x E' => exact fun θ' σ' cls dx H' xr r t' => h θ' σ' cls dx H' xr r (t.trans t')
  | no => exact h
end
def Rt.seq : Rt → Sf → Rt
  | .nx E, b => b E
  | o, _ => o
@[simp] theorem Rt.seq_nx (E : En) (b : Sf) : (Rt.nx E).seq b = b E := rfl
@[simp] theorem Rt.seq_rt (r : Sl) (E : En) (b : Sf) : (Rt.rt r E).seq b = .rt r E := rfl
@[simp] theorem Rt.seq_bk (E : En) (b : Sf) : (Rt.bk E).seq b = .bk E := rfl
@[simp] theorem Rt.seq_ct (E : En) (b : Sf) : (Rt.ct E).seq b = .ct E := rfl
@[simp] theorem Rt.seq_ex (x : Xc) (E : En) (b : Sf) : (Rt.ex x E).seq b = .ex x E := rfl
@[simp] theorem Rt.seq_no (b : Sf) : Rt.no.seq b = .no := rfl
def sSeq (a b : Sf) : Sf := fun E => (a E).seq b
def sNx : Sf := fun E => .nx E
def sBk : Sf := fun E => .bk E
def sCt : Sf := fun E => .ct E
theorem t_seq {c : Ct} {a b : Sf} (Dn : Ends) (σ : L2.St) (H : Hp) (h : tS c (sSeq a b) Dn σ H) : tSeq (tS c a) (tS c b) Dn σ H := by
  obtain ⟨Mo, θ, E, rel, h⟩ := h
  refine ⟨Mo, θ, E, rel, ?_⟩
  have h' : CoS c Mo θ E H ((a E).seq b) Dn := h
  cases e : a E with
  | nx E1 => rw [e] at h'; exact fun θ' σ' H' r t => ⟨Mo, θ', E1, r, CoS.move t h'⟩
  | rt r E' => rw [e] at h'; cases r <;> exact h'
  | bk E' => rw [e] at h'; exact h'
  | ct E' => rw [e] at h'; exact h'
  | ex x E' => rw [e] at h'; exact h'
  | no => rw [e] at h'; exact h'
theorem t_nx {c : Ct} (Dn : Ends) (σ : L2.St) (H : Hp) (h : tS c sNx Dn σ H) : tNext Dn σ H := by
  obtain ⟨Mo, θ, E, rel, h⟩ := h
  exact h θ σ H rel Tr.refl
theorem t_bk {c : Ct} (Dn : Ends) (σ : L2.St) (H : Hp) (h : tS c sBk Dn σ H) : tBreak Dn σ H := by
  obtain ⟨Mo, θ, E, rel, h⟩ := h
  exact h θ σ H rel Tr.refl
theorem t_ct {c : Ct} (Dn : Ends) (σ : L2.St) (H : Hp) (h : tS c sCt Dn σ H) : tCont Dn σ H := by
  obtain ⟨Mo, θ, E, rel, h⟩ := h
  exact h θ σ H rel Tr.refl
/-- from an expression's outcome to a statement's -/
def Ou.st {α : Type} : Ou α → (α → En → Rt) → Rt
  | .ok a E, k => k a E
  | .ex x E, _ => .ex x E
  | .no, _ => .no
@[simp] theorem Ou.st_ok {α : Type} (a : α) (E : En) (k : α → En → Rt) : (Ou.ok a E).st k = k a E := rfl
@[simp] theorem Ou.st_ex {α : Type} (x : Xc) (E : En) (k : α → En → Rt) : (Ou.ex x E : Ou α).st k = .ex x E := rfl
@[simp] theorem Ou.st_no {α : Type} (k : α → En → Rt) : (Ou.no : Ou α).st k = .no := rfl
theorem CoS.ex {c : Ct} {Mo : Ms} {θ : Nat → Addr} {E E' : En} {H : Hp} {x : Xc} {Dn : Ends} (h : CoS c Mo θ E H (.ex x E') Dn) (σ : L2.St) : ∀ cls dx H', XR c.K c.mg H' (MM Mo θ E') x cls dx → Rel c.K Mo θ E' σ H' → Tr θ E H θ E' H' → c.W cls dx σ H' :=
  fun cls dx H' xr r t => h θ σ cls dx H' xr r t
theorem CoS.bind {α β : Type} {rl : Hp → Ms → α → β → Prop} {c : Ct} {Mo : Ms} {θ : Nat → Addr} {E : En} {H : Hp} {σ : L2.St} {Dn : Ends} {oa : Ou β} {k : β → En → Rt} (h : CoS c Mo θ E H (oa.st k) Dn) :
    Co rl c Mo θ E H oa σ fun v H1 => ∃ d E1, oa = .ok d E1 ∧ Rel c.K Mo θ E1 σ H1 ∧ Tr θ E H θ E1 H1 ∧ rl H1 (MM Mo θ E1) v d ∧ CoS c Mo θ E1 H1 (k d E1) Dn := by
  cases oa with
  | ok d E1 => exact fun v H1 r t q => ⟨d, E1, rfl, r, t, q, CoS.move t h⟩
  | ex x E1 => exact h.ex σ
  | no => exact h
def sIf (t : Xb) (a b : Sf) : Sf := fun E => (t E).st fun d E1 => match d with
  | true => a E1
  | false => b E1
theorem t_sif {c : Ct} {t : Xb} {a b : Sf} (Dn : Ends) (σ : L2.St) (H : Hp) (h : tS c (sIf t a b) Dn σ H) : tIfS (tXb c t) (tS c a) (tS c b) Dn σ H := by
  obtain ⟨Mo, θ, E, rel, h⟩ := h
  refine ⟨Mo, θ, E, rel, Co.mono (CoS.bind (rl := RB0) (σ := σ) h) ?_⟩
  rintro x H1 ⟨d, E1, e1, r1, t1, b1, h1⟩
  have b1' : x = d := b1
  subst b1'
  cases x with
  | true => rw [if_pos rfl]; exact ⟨Mo, θ, E1, r1, h1⟩
  | false => rw [if_neg Bool.false_ne_true]; exact ⟨Mo, θ, E1, r1, h1⟩
def sDrop (f : Xf) : Sf := fun E => (f E).st fun _ E1 => .nx E1
theorem t_drop {c : Ct} {f : Xf} (Dn : Ends) (σ : L2.St) (H : Hp) (h : tS c (sDrop f) Dn σ H) : tDrop (tX c f) Dn σ H := by
  obtain ⟨Mo, θ, E, rel, h⟩ := h
  refine ⟨Mo, θ, E, rel, Co.mono (CoS.bind (rl := R c.K) (σ := σ) h) ?_⟩
  rintro x H1 ⟨d, E1, e1, r1, t1, b1, h1⟩
  exact h1 θ σ H1 r1 Tr.refl
/-- from a result that may be fresh -/
theorem CoS.bindF {c : Ct} {Mo : Ms} {θ : Nat → Addr} {E : En} {H : Hp} {σ : L2.St} {Dn : Ends} {oa : Ou Sl} {k : Sl → En → Rt} {Q : VK} (h : CoS c Mo θ E H (oa.st k) Dn)
    (hi : ∀ d E1 v H1, Rel c.K Mo θ E1 σ H1 → Tr θ E H θ E1 H1 → R c.K H1 (MM Mo θ E1) v d → CoS c Mo θ E1 H1 (k (.im d) E1) Dn → Q v H1)
    (hw : ∀ ds E1 p xs H1, Rel c.K (ins Mo p) θ E1 σ H1 → Tr θ E H θ E1 H1 → Frs θ E H p → ¬ Mo p → H1 p = some (.lst xs) → Rs c.K H1 (MM (ins Mo p) θ E1) xs ds → CoS c Mo θ E H (k (.ow ds) E1) Dn → Q (.ref p) H1)
    (hn : ∀ ds E1, k (.io ds) E1 = .no := by intros; rfl) : CoF c Mo θ E H oa σ Q := by
  cases oa with
  | ok r E1 =>
    cases r with
    | im d => exact fun v H1 r t q => hi d E1 v H1 r t q (CoS.move t h)
    | ow ds => exact fun p xs H1 r t f n a b => hw ds E1 p xs H1 r t f n a b h
    | io ds =>
      have h' : CoS c Mo θ E H (k (.io ds) E1) Dn := h
      rw [hn] at h'
      exact h'
  | ex x E1 => exact h.ex σ
  | no => exact h
def sRet (f : Xs) : Sf := fun E => (f E).st fun r E1 => match r with
  | .io _ => .no
  | r => .rt r E1
theorem t_ret {c : Ct} {f : Xs} (Dn : Ends) (σ : L2.St) (H : Hp) (h : tS c (sRet f) Dn σ H) : tRet (tXF c f) Dn σ H := by
  obtain ⟨Mo, θ, E, rel, h⟩ := h
  refine ⟨Mo, θ, E, rel, CoS.bindF (σ := σ) h (fun d E1 v H1 r t q k => ?_) (fun ds E1 p xs H1 r t f n a b k => ?_)⟩
  · exact k θ σ v H1 r Tr.refl q
  · exact k θ σ p xs H1 r t f n a b
end
end Dl

set_option Elab.async false
set_option linter.all false
set_option maxRecDepth 100000
set_option maxHeartbeats 2000000
namespace Dl
noncomputable section
open PySem PySem.Spec PyProof.Rows L2
section
variable {K : PySem.W.Frag} {Mo : Ms} {θ θ' : Nat → Addr} {E E' : En} {σ σ' : L2.St} {H H' : Hp} {p : Addr}
/-! ### a slot is written -/
def noIo (E : En) (i : Nat) : Bool := match gs E i with
  | some (.io _) => false
  | _ => true
theorem noIo_ne {i : Nat} (h : noIo E i = true) : ∀ ds, gs E i ≠ some (.io ds) := fun ds e => by
  unfold noIo at h
  rw [e] at h; cases h
theorem own_ss {i : Nat} {y : Option Sl} (hy : ∀ x, y = some x → x.ls = none) {a : Addr} (h : Own (ss E i y) θ a) : Own E θ a := by
  obtain ⟨j, x, es, h1, h2, rfl⟩ := h
  by_cases hj : j = i
  · subst hj
    by_cases hl : j < E.length
    · rw [gs_ss_same hl] at h1
      rw [hy x h1] at h2; cases h2
    · have := gs_lt h1
      rw [ss_len] at this
      exact absurd this hl
  · rw [gs_ss_ne hj] at h1
    exact ⟨j, x, es, h1, h2, rfl⟩
theorem own_ne {i : Nat} {y : Option Sl} (r : Rel K Mo θ E σ H) {x0 : Sl} {ds0 : List D} (g : gs E i = some x0) (g2 : x0.ls = some ds0) (hy : ∀ x, y = some x → x.ls = none) {a : Addr} (h : Own (ss E i y) θ a) : a ≠ θ i := by
  obtain ⟨j, x, es, h1, h2, rfl⟩ := h
  by_cases hj : j = i
  · subst hj
    rw [gs_ss_same (gs_lt g)] at h1
    rw [hy x h1] at h2; cases h2
  · rw [gs_ss_ne hj] at h1
    exact fun e => hj (r.inj j i _ _ _ _ h1 h2 g g2 e)
theorem own_ss_ne {i : Nat} {y : Option Sl} {a : Addr} (h : Own E θ a) (n : a ≠ θ i) : Own (ss E i y) θ a := by
  obtain ⟨j, x, es, h1, h2, rfl⟩ := h
  have hj : j ≠ i := fun e => n (by rw [e])
  exact ⟨j, x, es, by rw [gs_ss_ne hj]; exact h1, h2, rfl⟩
/-- the environment with a slot forgotten or data in it -/
theorem Rel.put {i : Nat} {y : Option Sl} {v : Option V} (r : Rel K Mo θ E σ H) (hy : ∀ x, y = some x → ∃ d w, x = .im d ∧ v = some w ∧ R K H (MM Mo θ E) w d) (n : ∀ ds, gs E i ≠ some (.io ds)) :
    Rel K Mo θ (ss E i y) (σ.set i v) H ∧ Tr θ E H θ (ss E i y) H := by
  have hy' : ∀ x, y = some x → x.ls = none := fun x e => by obtain ⟨d, w, rfl, _⟩ := hy x e; rfl
  have mv : Mv H (MM Mo θ E) H (MM Mo θ (ss E i y)) := ⟨fun _ _ h _ => h, fun a h => .inl (h.elim .inl fun z => .inr (own_ss hy' z))⟩
  refine ⟨⟨fun j d h => ?_, fun j x es a b => ?_, fun j k x z es fs a1 a2 b1 b2 e => ?_, r.mo, by rw [ss_len, List.length_set]; exact r.len⟩, ⟨fun _ _ h _ => h, fun a h => .inl (own_ss hy' h), fun j es h => ⟨rfl, es, ?_⟩⟩⟩
  · by_cases hj : j = i
    · subst hj
      have hl := gs_lt h
      rw [ss_len] at hl
      rw [gs_ss_same hl] at h
      obtain ⟨d', w, e1, e2, q⟩ := hy _ h
      cases e1
      exact ⟨w, by rw [List.getElem?_set_self (by rw [r.len]; exact hl), e2], q.mv mv⟩
    · rw [gs_ss_ne hj] at h
      obtain ⟨w, a, b⟩ := r.im j d h
      exact ⟨w, by rw [List.getElem?_set_ne (Ne.symm hj)]; exact a, b.mv mv⟩
  · by_cases hj : j = i
    · subst hj
      have hl := gs_lt a
      rw [ss_len] at hl
      rw [gs_ss_same hl] at a
      rw [hy' x a] at b; cases b
    · rw [gs_ss_ne hj] at a
      obtain ⟨u1, u2, ys, u3, u4⟩ := r.ow j x es a b
      exact ⟨by rw [List.getElem?_set_ne (Ne.symm hj)]; exact u1, u2, ys, u3, u4.mv mv⟩
  · have hj : j ≠ i := fun e => by
      subst e
      have hl := gs_lt a1
      rw [ss_len] at hl
      rw [gs_ss_same hl] at a1
      rw [hy' x a1] at a2; cases a2
    have hk : k ≠ i := fun e => by
      subst e
      have hl := gs_lt b1
      rw [ss_len] at hl
      rw [gs_ss_same hl] at b1
      rw [hy' z b1] at b2; cases b2
    rw [gs_ss_ne hj] at a1
    rw [gs_ss_ne hk] at b1
    exact r.inj j k x z es fs a1 a2 b1 b2 e
  · have hj : j ≠ i := fun e => by subst e; exact n _ h
    rw [gs_ss_ne hj]; exact h
theorem Rel.put_im {i : Nat} {v : V} {d : D} (r : Rel K Mo θ E σ H) (q : R K H (MM Mo θ E) v d) (n : ∀ ds, gs E i ≠ some (.io ds)) :
    Rel K Mo θ (ss E i (some (.im d))) (σ.set i (some v)) H ∧ Tr θ E H θ (ss E i (some (.im d))) H :=
  r.put (fun x e => by cases e; exact ⟨d, v, rfl, rfl, q⟩) n
def upθ (θ : Nat → Addr) (i : Nat) (p : Addr) : Nat → Addr := fun j => if j = i then p else θ j
theorem own_put {i : Nat} {ds : List D} {a : Addr} (h : Own (ss E i (some (.ow ds))) (upθ θ i p) a) : Own E θ a ∨ a = p := by
  obtain ⟨j, x, es, h1, h2, rfl⟩ := h
  unfold upθ
  by_cases hj : j = i
  · rw [if_pos hj]; exact .inr rfl
  · rw [gs_ss_ne hj] at h1
    rw [if_neg hj]
    exact .inl ⟨j, x, es, h1, h2, rfl⟩
/-- a fresh list into a slot -/
theorem Rel.put_ow {i : Nat} {xs : List V} {ds : List D} (r : Rel K (ins Mo p) θ E σ H) (np : ¬ Mo p) (hp : H p = some (.lst xs)) (q : Rs K H (MM (ins Mo p) θ E) xs ds) (n : ∀ ds, gs E i ≠ some (.io ds)) (hi : i < E.length) :
    Rel K Mo (upθ θ i p) (ss E i (some (.ow ds))) (σ.set i (some (.ref p))) H ∧
      ∀ {θ0 : Nat → Addr} {E0 : En} {H0 : Hp}, Tr θ0 E0 H0 θ E H → Frs θ0 E0 H0 p → Tr θ0 E0 H0 (upθ θ i p) (ss E i (some (.ow ds))) H := by
  have npo : ¬ Own E θ p := fun ⟨j, x, es, h1, h2, e⟩ => (r.ow j x es h1 h2).2.1 (.inr e.symm)
  have mv : Mv H (MM (ins Mo p) θ E) H (MM Mo (upθ θ i p) (ss E i (some (.ow ds)))) := ⟨fun _ _ h _ => h, fun a h => .inl (by
    rcases h with h | h
    · exact .inl (.inl h)
    · rcases own_put h with h | h
      · exact .inr h
      · exact .inl (.inr h))⟩
  refine ⟨⟨fun j d h => ?_, fun j x es a b => ?_, fun j k x z es fs a1 a2 b1 b2 e => ?_, fun a h => r.mo a (.inl h), by rw [ss_len, List.length_set]; exact r.len⟩, fun t f => ⟨t.fr, fun a h => ?_, fun j es h => ?_⟩⟩
  · have hj : j ≠ i := fun e => by subst e; rw [gs_ss_same hi] at h; cases h
    rw [gs_ss_ne hj] at h
    obtain ⟨w, a, b⟩ := r.im j d h
    exact ⟨w, by rw [List.getElem?_set_ne (Ne.symm hj)]; exact a, b.mv mv⟩
  · by_cases hj : j = i
    · subst hj
      rw [gs_ss_same hi] at a
      cases a; cases b
      have e : upθ θ j p j = p := if_pos rfl
      rw [e]
      exact ⟨by rw [List.getElem?_set_self (by rw [r.len]; exact hi)], np, xs, hp, q.mv mv⟩
    · rw [gs_ss_ne hj] at a
      obtain ⟨u1, u2, ys, u3, u4⟩ := r.ow j x es a b
      have e : upθ θ i p j = θ j := if_neg hj
      rw [e]
      exact ⟨by rw [List.getElem?_set_ne (Ne.symm hj)]; exact u1, fun z => u2 (.inl z), ys, u3, u4.mv mv⟩
  · unfold upθ at e
    by_cases hj : j = i
    · by_cases hk : k = i
      · rw [hj, hk]
      · rw [if_pos hj, if_neg hk] at e
        rw [gs_ss_ne hk] at b1
        exact absurd ⟨k, z, fs, b1, b2, e⟩ npo
    · rw [gs_ss_ne hj] at a1
      by_cases hk : k = i
      · rw [if_neg hj, if_pos hk] at e
        exact absurd ⟨j, x, es, a1, a2, e.symm⟩ npo
      · rw [if_neg hj, if_neg hk] at e
        rw [gs_ss_ne hk] at b1
        exact r.inj j k x z es fs a1 a2 b1 b2 e
  · rcases own_put h with h | h
    · exact t.ow a h
    · subst h; exact f
  · obtain ⟨e1, es', h'⟩ := t.fx j es h
    have hj : j ≠ i := fun e => by subst e; exact n _ h'
    exact ⟨by unfold upθ; rw [if_neg hj]; exact e1, es', by rw [gs_ss_ne hj]; exact h'⟩
end
/-! ### several results at once -/
def inl (Mo : Ms) (ps : List Addr) : Ms := fun a => Mo a ∨ a ∈ ps
inductive Ents (K : PySem.W.Frag) (H : Hp) (M : Ms) : List V → List Sl → List Addr → Prop
  | nil : Ents K H M [] [] []
  | im {v : V} {d : D} {vs : List V} {ss : List Sl} {ps : List Addr} : R K H M v d → Ents K H M vs ss ps → Ents K H M (v :: vs) (.im d :: ss) ps
  | ow {p : Addr} {xs : List V} {ds : List D} {vs : List V} {ss : List Sl} {ps : List Addr} : H p = some (.lst xs) → Rs K H M xs ds → p ∉ ps → Ents K H M vs ss ps → Ents K H M (.ref p :: vs) (.ow ds :: ss) (p :: ps)
theorem Ents.length {K : PySem.W.Frag} {H : Hp} {M : Ms} {vs : List V} {ss : List Sl} {ps : List Addr} (h : Ents K H M vs ss ps) : vs.length = ss.length := by
  induction h with
  | nil => rfl
  | im _ _ ih => rw [List.length_cons, List.length_cons, ih]
  | ow _ _ _ _ ih => rw [List.length_cons, List.length_cons, ih]
abbrev Xss := En → Ou (List Sl)
def xsNil : Xss := fun E => .ok [] E
def xsCons (f : Xs) (r : Xss) : Xss := fun E => (f E).bind fun x E1 => match x with
  | .io _ => .no
  | x => (r E1).bind fun xs E2 => .ok (x :: xs) E2
def CoFs (c : Ct) (Mo : Ms) (θ : Nat → Addr) (E : En) (H : Hp) (o : Ou (List Sl)) (σ : L2.St) (Q : List V → Hp → Prop) : Prop :=
  match o with
  | .ok ss E' => ∀ vs ps H', Rel c.K (inl Mo ps) θ E' σ H' → Tr θ E H θ E' H' → (∀ p ∈ ps, Frs θ E H p ∧ ¬ Mo p) → Ents c.K H' (MM (inl Mo ps) θ E') vs ss ps → Q vs H'
  | .ex x E' => ∀ cls dx H', XR c.K c.mg H' (MM Mo θ E') x cls dx → Rel c.K Mo θ E' σ H' → Tr θ E H θ E' H' → c.W cls dx σ H'
  | .no => False
def tXFs (c : Ct) (f : Xss) : TA := fun σ H Q => ∃ Mo θ E, Rel c.K Mo θ E σ H ∧ CoFs c Mo θ E H (f E) σ Q
section
variable {K : PySem.W.Frag} {Mo Mo' : Ms} {θ θ' : Nat → Addr} {E E' : En} {σ σ' : L2.St} {H H' : Hp} {p : Addr}
theorem Rel.cong (h : ∀ a, Mo a ↔ Mo' a) (r : Rel K Mo θ E σ H) : Rel K Mo' θ E σ H := by
  have e : Mo = Mo' := funext fun a => propext (h a)
  rw [← e]; exact r
theorem inl_nil : ∀ a, inl Mo [] a ↔ Mo a := fun a => ⟨fun h => h.elim id fun z => (by cases z), .inl⟩
theorem inl_cons {ps : List Addr} : inl (ins Mo p) ps = inl Mo (p :: ps) := funext fun a => propext
  ⟨fun h => h.elim (fun z => z.elim .inl fun z => .inr (by rw [z]; exact List.mem_cons_self)) fun z => .inr (List.mem_cons_of_mem _ z),
   fun h => h.elim (fun z => .inl (.inl z)) fun z => (List.mem_cons.mp z).elim (fun z => .inl (.inr z)) .inr⟩
theorem inl_cons' {ps : List Addr} : ins (inl Mo ps) p = inl Mo (p :: ps) := funext fun a => propext
  ⟨fun h => h.elim (fun z => z.elim .inl fun z => .inr (List.mem_cons_of_mem _ z)) fun z => .inr (by rw [z]; exact List.mem_cons_self),
   fun h => h.elim (fun z => .inl (.inl z)) fun z => (List.mem_cons.mp z).elim .inr fun z => .inl (.inr z)⟩
theorem inl_nil' : inl Mo [] = Mo := funext fun a => propext (inl_nil a)
end
theorem t_snil {c : Ct} (σ : L2.St) (H : Hp) (Q : List V → Hp → Prop) (h : tXFs c xsNil σ H Q) : tNil σ H Q := by
  obtain ⟨Mo, θ, E, rel, h⟩ := h
  exact h [] [] H (by rw [inl_nil']; exact rel) Tr.refl (fun p hp => by cases hp) .nil
theorem XR.mv {K : PySem.W.Frag} {mg : Str → Option Value} {H H' : Hp} {M M' : Ms} {x : Xc} {cls : Value} {dx : Option Addr} (h : XR K mg H M x cls dx) (m : Mv H M H' M') (hd : ∀ d fs, H d = some (.xd fs) → H' d = some (.xd fs)) : XR K mg H' M' x cls dx := by
  refine ⟨h.1, ?_⟩
  rcases h.2 with h | ⟨d, fs, h1, h2, h3⟩
  · exact .inl h
  · exact .inr ⟨d, fs, h1, hd _ _ h2, Paired.mapP h3 fun p q z => ⟨z.1, z.2.mv m⟩⟩
theorem XR.less {K : PySem.W.Frag} {mg : Str → Option Value} {H : Hp} {Mo : Ms} {θ : Nat → Addr} {E : En} {p : Addr} {x : Xc} {cls : Value} {dx : Option Addr} (h : XR K mg H (MM (ins Mo p) θ E) x cls dx) : XR K mg H (MM Mo θ E) x cls dx :=
  h.mv ⟨fun _ _ h _ => h, fun a h => .inl (h.elim (fun z => .inl (.inl z)) .inr)⟩ fun _ _ h => h
theorem t_scons {c : Ct} {f : Xs} {r : Xss} (σ : L2.St) (H : Hp) (Q : List V → Hp → Prop) (h : tXFs c (xsCons f r) σ H Q) : tCons (tXF c f) (tXFs c r) σ H Q := by
  obtain ⟨Mo, θ, E, rel, h⟩ := h
  refine ⟨Mo, θ, E, rel, ?_⟩
  have h' : CoFs c Mo θ E H ((f E).bind fun x E1 => match x with
    | .io _ => Ou.no
    | x => (r E1).bind fun xs E2 => Ou.ok (x :: xs) E2) σ Q := h
  cases e : f E with
  | no => rw [e] at h'; exact h'
  | ex x E1 => rw [e] at h'; exact h'
  | ok x E1 =>
    rw [e] at h'
    cases x with
    | io ds => exact h'
    | im d =>
      intro v H1 r1 t1 q1
      refine ⟨Mo, θ, E1, r1, ?_⟩
      have h2 : CoFs c Mo θ E H ((r E1).bind fun xs E2 => Ou.ok (.im d :: xs) E2) σ Q := h'
      cases e2 : r E1 with
      | no => rw [e2] at h2; exact h2
      | ex x E2 => rw [e2] at h2; exact fun cls dx H' xr r' t' => h2 cls dx H' xr r' (t1.trans t')
      | ok xs E2 =>
        rw [e2] at h2
        intro vs ps H2 r2 t2 hp en
        refine h2 (v :: vs) ps H2 r2 (t1.trans t2) (fun p hp' => ⟨(hp p hp').1.back t1, (hp p hp').2⟩) (.im ?_ en)
        -- v is older than the lists at ps
        refine q1.mv ⟨fun b o hb n => t2.fr b o hb fun z => n (.inr z), fun a ha => ?_⟩
        rcases ha with (ha | ha) | ha
        · exact .inl (.inl ha)
        · rcases (hp a ha).1 with z | z
          · exact .inl (.inr z)
          · exact .inr z
        · rcases t2.ow a ha with z | z
          · exact .inl (.inr z)
          · exact .inr z
    | ow ds =>
      intro p xs H1 r1 t1 f1 n1 hp1 q1
      refine ⟨ins Mo p, θ, E1, r1, ?_⟩
      have h2 : CoFs c Mo θ E H ((r E1).bind fun ys E2 => Ou.ok (.ow ds :: ys) E2) σ Q := h'
      cases e2 : r E1 with
      | no => rw [e2] at h2; exact h2
      | ex x E2 => rw [e2] at h2; exact fun cls dx H' xr r' t' => h2 cls dx H' xr.less r'.less (t1.trans t')
      | ok ys E2 =>
        rw [e2] at h2
        intro vs ps H2 r2 t2 hp en
        have npo : ¬ Own E1 θ p := fun ⟨j, x, es, a1, a2, a3⟩ => (r1.ow j x es a1 a2).2.1 (.inr a3.symm)
        rw [inl_cons] at r2 en
        refine h2 (.ref p :: vs) (p :: ps) H2 r2 (t1.trans t2) (fun a ha => ?_) (.ow (t2.fr _ _ hp1 npo) (q1.mv ⟨fun b o hb n => t2.fr b o hb fun z => n (.inr z), fun a ha => ?_⟩) (fun z => (hp p z).2 (.inr rfl)) en)
        · rcases List.mem_cons.mp ha with rfl | ha
          · exact ⟨f1, n1⟩
          · exact ⟨(hp a ha).1.back t1, fun z => (hp a ha).2 (.inl z)⟩
        · rcases ha with (ha | ha) | ha
          · exact .inl (.inl (.inl ha))
          · rcases List.mem_cons.mp ha with rfl | ha
            · exact .inl (.inl (.inr rfl))
            · rcases (hp a ha).1 with z | z
              · exact .inl (.inr z)
              · exact .inr z
          · rcases t2.ow a ha with z | z
            · exact .inl (.inr z)
            · exact .inr z
/-! ### names take results -/
def putS : List Nat → List Sl → En → Option En
  | [], [], E => some E
  | i :: is, x :: xs, E => if noIo E i && decide (i < E.length) then putS is xs (ss E i (some x)) else none
  | _, _, _ => none
theorem Ents.mv {K : PySem.W.Frag} {H : Hp} {M M' : Ms} (m : Mv H M H M') : ∀ {vs : List V} {ss : List Sl} {ps : List Addr}, Ents K H M vs ss ps → Ents K H M' vs ss ps
  | _, _, _, .nil => .nil
  | _, _, _, .im a b => .im (a.mv m) (Ents.mv m b)
  | _, _, _, .ow a b d e => .ow a (b.mv m) d (Ents.mv m e)
def setAll : L2.St → List Nat → List V → L2.St
  | σ, i :: is, v :: vs => setAll (σ.set i (some v)) is vs
  | σ, _, _ => σ
theorem put_all {K : PySem.W.Frag} {H : Hp} {θ0 : Nat → Addr} {E0 : En} {H0 : Hp} {Q : L2.St → Hp → Prop} : ∀ (is : List Nat) {Mo : Ms} {θ : Nat → Addr} {E E2 : En} {σ : L2.St} {vs : List V} {xs : List Sl} {ps : List Addr}, putS is xs E = some E2 →
    Rel K (inl Mo ps) θ E σ H → Tr θ0 E0 H0 θ E H → (∀ p ∈ ps, Frs θ0 E0 H0 p ∧ ¬ Mo p) → Ents K H (MM (inl Mo ps) θ E) vs xs ps →
    (∀ θ' σ', Rel K Mo θ' E2 σ' H → Tr θ0 E0 H0 θ' E2 H → Q σ' H) → Q (setAll σ is vs) H
  | [], Mo, θ, E, E2, σ, vs, xs, ps, e, r, t, hp, en, q => by
    cases en with
    | nil =>
      have e' : some E = some E2 := e
      cases e'
      rw [inl_nil'] at r
      exact q θ σ r t
    | im a b => cases e
    | ow a b d f => cases e
  | i :: is, Mo, θ, E, E2, σ, vs, xs, ps, e, r, t, hp, en, q => by
    cases en with
    | nil => cases e
    | @im v d vs' xs' _ a b =>
      unfold putS at e
      split at e
      · rename_i hc
        rw [Bool.and_eq_true, decide_eq_true_eq] at hc
        obtain ⟨r1, t1⟩ := r.put_im a (noIo_ne hc.1)
        exact put_all is e r1 (t.trans t1) hp (b.mv (t1.mv r1)) q
      · cases e
    | @ow p ys ds vs' xs' ps' a b d f =>
      unfold putS at e
      split at e
      · rename_i hc
        rw [Bool.and_eq_true, decide_eq_true_eq] at hc
        rw [← inl_cons'] at r b f
        have np : ¬ inl Mo ps' p := fun z => z.elim (hp p List.mem_cons_self).2 d
        obtain ⟨r1, t1⟩ := r.put_ow np a b (noIo_ne hc.1) hc.2
        refine put_all is e r1 (t1 t (hp p List.mem_cons_self).1) (fun a ha => hp a (List.mem_cons_of_mem _ ha)) (f.mv ⟨fun _ _ h _ => h, fun a ha => .inl ?_⟩) q
        rcases ha with ha | ha
        · exact .inl (.inl ha)
        · rcases own_put ha with ha | ha
          · exact .inr ha
          · exact .inl (.inr ha)
      · cases e
theorem putS_len : ∀ {is : List Nat} {xs : List Sl} {E E2 : En}, putS is xs E = some E2 → xs.length = is.length
  | [], [], _, _, _ => rfl
  | [], _ :: _, _, _, e => by cases e
  | _ :: _, [], _, _, e => by cases e
  | i :: is, x :: xs, E, E2, e => by
    unfold putS at e
    split at e
    · rw [List.length_cons, List.length_cons, putS_len e]
    · cases e
/-- names = results -/
def sPar (is : List Nat) (fs : Xss) : Sf := fun E => (fs E).st fun xs E1 => match putS is xs E1 with
  | some E2 => .nx E2
  | none => .no
def sSet (i : Nat) (f : Xs) : Sf := sPar [i] (xsCons f xsNil)
theorem t_par {c : Ct} {is : List Nat} {fs : Xss} (Dn : Ends) (σ : L2.St) (H : Hp) (h : tS c (sPar is fs) Dn σ H) : tXFs c fs σ H fun vs H1 => vs.length = is.length ∧ Dn.nx (setAll σ is vs) H1 := by
  obtain ⟨Mo, θ, E, rel, h⟩ := h
  refine ⟨Mo, θ, E, rel, ?_⟩
  have h' : CoS c Mo θ E H ((fs E).st fun xs E1 => match putS is xs E1 with
    | some E2 => Rt.nx E2
    | none => Rt.no) Dn := h
  cases e : fs E with
  | no => rw [e] at h'; exact h'
  | ex x E1 => rw [e] at h'; exact h'.ex σ
  | ok xs E1 =>
    rw [e] at h'
    intro vs ps H1 r1 t1 hp en
    rw [Ou.st_ok] at h'
    cases ep : putS is xs E1 with
    | none => rw [ep] at h'; exact h'.elim
    | some E2 =>
      rw [ep] at h'
      refine ⟨?_, put_all is ep r1 t1 hp en fun θ' σ' r' t' => h' θ' σ' H1 r' t'⟩
      rw [en.length]
      exact putS_len ep
/-- names = a tuple -/
def sUnp (is : List Nat) (f : Xf) : Sf := fun E => (f E).st fun d E1 => match d with
  | .tuple ds => match putS is (ds.map Sl.im) E1 with
    | some E2 => .nx E2
    | none => .no
  | _ => .no
theorem Ents.of_rs {K : PySem.W.Frag} {H : Hp} {M : Ms} : ∀ {vs : List V} {ds : List D}, Rs K H M vs ds → Ents K H M vs (ds.map Sl.im) []
  | _, _, .nil => .nil
  | _, _, .cons r t => .im r (Ents.of_rs t)
theorem R.tupD {K : PySem.W.Frag} {H : Hp} {M : Ms} {v : V} {ds : List D} (h : R K H M v (.tuple ds)) : ∃ a xs, v = .ref a ∧ SqT K H a xs ∧ Rs K H M xs ds := by
  cases h with
  | tup h n r => exact ⟨_, _, rfl, .inl h, r⟩
  | ktup h r => exact ⟨_, _, rfl, sqT_none h, r⟩
theorem t_unp {c : Ct} {is : List Nat} {f : Xf} (Dn : Ends) (σ : L2.St) (H : Hp) (h : tS c (sUnp is f) Dn σ H) : tX c f σ H fun v H1 => ∃ a xs, v = .ref a ∧ SqT c.K H1 a xs ∧ xs.length = is.length ∧ Dn.nx (setAll σ is xs) H1 := by
  obtain ⟨Mo, θ, E, rel, h⟩ := h
  refine ⟨Mo, θ, E, rel, Co.mono (CoS.bind (rl := R c.K) (σ := σ) h) ?_⟩
  rintro v H1 ⟨d, E1, e1, r1, t1, q1, h1⟩
  split at h1
  · rename_i ds
    obtain ⟨a, xs, rfl, hs, rs⟩ := q1.tupD
    cases ep : putS is (ds.map Sl.im) E1 with
    | none => rw [ep] at h1; exact h1.elim
    | some E2 =>
      rw [ep] at h1
      refine ⟨_, _, rfl, hs, by rw [rs.length, ← putS_len ep, List.length_map], ?_⟩
      exact put_all is ep (by rw [inl_nil']; exact r1) (Tr.refl) (fun p hp => by cases hp) (by rw [inl_nil']; exact Ents.of_rs rs) fun θ' σ' r' t' => h1 θ' σ' H1 r' t'
  · exact h1.elim
/-! ### return of a name -/
def sRetV (i : Nat) : Sf := fun E => match gs E i with
  | some (.im d) => .rt (.im d) E
  | some (.ow ds) => .rt (.ow ds) (ss E i none)
  | _ => .no
theorem t_retV {c : Ct} {i : Nat} (Dn : Ends) (σ : L2.St) (H : Hp) (h : tS c (sRetV i) Dn σ H) : tRet (tVar i) Dn σ H := by
  obtain ⟨Mo, θ, E, rel, h⟩ := h
  unfold sRetV at h
  split at h
  · rename_i d g
    obtain ⟨v, h1, h2⟩ := rel.im i d g
    exact ⟨v, h1, h θ σ v H rel Tr.refl h2⟩
  · rename_i ds g
    obtain ⟨h1, h2, xs, h3, h4⟩ := rel.ow i _ ds g rfl
    have nio : ∀ ds, gs E i ≠ some (.io ds) := fun es e => by rw [g] at e; cases e
    have hy : ∀ x, (none : Option Sl) = some x → x.ls = none := fun x e => by cases e
    obtain ⟨r1, t1⟩ := rel.put (i := i) (y := none) (v := some (.ref (θ i))) (fun x e => by cases e) nio
    have mv : Mv H (MM Mo θ E) H (MM (ins Mo (θ i)) θ (ss E i none)) := ⟨fun _ _ h _ => h, fun a ha => .inl (by
      rcases ha with (ha | ha) | ha
      · exact .inl ha
      · exact .inr ⟨i, _, ds, g, rfl, ha⟩
      · exact .inr (own_ss hy ha))⟩
    refine ⟨_, h1, h θ σ (θ i) xs H ⟨fun j d hj => ?_, fun j x es a b => ?_, fun j k x y es fs a1 a2 b1 b2 e => ?_, fun a ha => ?_, by rw [ss_len]; exact rel.len⟩ t1 (.inl ⟨i, _, ds, g, rfl, rfl⟩) h2 h3 (h4.mv mv)⟩
    · have hji : j ≠ i := fun e => by subst e; rw [gs_ss_same (gs_lt g)] at hj; cases hj
      rw [gs_ss_ne hji] at hj
      obtain ⟨v, a, b⟩ := rel.im j d hj
      exact ⟨v, a, b.mv mv⟩
    · have hji : j ≠ i := fun e => by subst e; rw [gs_ss_same (gs_lt g)] at a; cases a
      rw [gs_ss_ne hji] at a
      obtain ⟨u1, u2, ys, u3, u4⟩ := rel.ow j x es a b
      exact ⟨u1, fun z => z.elim u2 fun z => hji (rel.inj j i _ _ _ _ a b g rfl z), ys, u3, u4.mv mv⟩
    · have hji : j ≠ i := fun e => by subst e; rw [gs_ss_same (gs_lt g)] at a1; cases a1
      have hki : k ≠ i := fun e => by subst e; rw [gs_ss_same (gs_lt g)] at b1; cases b1
      rw [gs_ss_ne hji] at a1
      rw [gs_ss_ne hki] at b1
      exact rel.inj j k x y es fs a1 a2 b1 b2 e
    · rcases ha with ha | ha
      · exact rel.mo a ha
      · rw [ha]; exact ⟨xs, h3⟩
  · exact h.elim
/-! ### a list of one's own is changed -/
def setL (E : En) (i : Nat) (ds : List D) : En := match gs E i with
  | some (.ow _) => ss E i (some (.ow ds))
  | some (.io _) => ss E i (some (.io ds))
  | _ => E
def getL (E : En) (i : Nat) : Option (List D) := (gs E i).bind Sl.ls
theorem own_setL {E : En} {θ : Nat → Addr} {i : Nat} {ds : List D} {a : Addr} : Own (setL E i ds) θ a ↔ Own E θ a := by
  unfold setL
  split
  · rename_i es g
    constructor
    · rintro ⟨j, x, fs, h1, h2, rfl⟩
      by_cases hj : j = i
      · subst hj; exact ⟨j, _, es, g, rfl, rfl⟩
      · rw [gs_ss_ne hj] at h1; exact ⟨j, x, fs, h1, h2, rfl⟩
    · rintro ⟨j, x, fs, h1, h2, rfl⟩
      by_cases hj : j = i
      · subst hj; exact ⟨j, _, ds, gs_ss_same (gs_lt g), rfl, rfl⟩
      · exact ⟨j, x, fs, by rw [gs_ss_ne hj]; exact h1, h2, rfl⟩
  · rename_i es g
    constructor
    · rintro ⟨j, x, fs, h1, h2, rfl⟩
      by_cases hj : j = i
      · subst hj; exact ⟨j, _, es, g, rfl, rfl⟩
      · rw [gs_ss_ne hj] at h1; exact ⟨j, x, fs, h1, h2, rfl⟩
    · rintro ⟨j, x, fs, h1, h2, rfl⟩
      by_cases hj : j = i
      · subst hj; exact ⟨j, _, ds, gs_ss_same (gs_lt g), rfl, rfl⟩
      · exact ⟨j, x, fs, by rw [gs_ss_ne hj]; exact h1, h2, rfl⟩
  · exact Iff.rfl
theorem Rel.setL {K : PySem.W.Frag} {Mo : Ms} {θ : Nat → Addr} {E : En} {σ : L2.St} {H : Hp} {i : Nat} {ds es : List D} {xs : List V} (r : Rel K Mo θ E σ H) (g : getL E i = some es) (q : Rs K H (MM Mo θ E) xs ds) :
    Rel K Mo θ (setL E i ds) σ (upd H (θ i) (.lst xs)) ∧ Tr θ E H θ (setL E i ds) (upd H (θ i) (.lst xs)) := by
  obtain ⟨x, gx, lx⟩ : ∃ x, gs E i = some x ∧ x.ls = some es := by
    unfold getL at g
    cases e : gs E i with
    | none => rw [e] at g; cases g
    | some x => rw [e] at g; exact ⟨x, rfl, g⟩
  have own : Own E θ (θ i) := ⟨i, x, es, gx, lx, rfl⟩
  have hM : MM Mo θ (Dl.setL E i ds) = MM Mo θ E := funext fun a => propext ⟨fun h => h.elim .inl fun z => .inr (own_setL.mp z), fun h => h.elim .inl fun z => .inr (own_setL.mpr z)⟩
  have mv : Mv H (MM Mo θ E) (upd H (θ i) (.lst xs)) (MM Mo θ (Dl.setL E i ds)) := by
    rw [hM]
    exact ⟨fun b o h n => by rw [upd_ne (fun e => n (by rw [e]; exact .inr own))]; exact h, fun a h => .inl h⟩
  obtain ⟨_, nmo, ys, hy, _⟩ := r.ow i x es gx lx
  have at_ne : ∀ j, j ≠ i → gs (Dl.setL E i ds) j = gs E j := fun j hj => by
    unfold Dl.setL
    split
    · exact gs_ss_ne hj
    · exact gs_ss_ne hj
    · rfl
  have at_i : ∃ x', gs (Dl.setL E i ds) i = some x' ∧ x'.ls = some ds ∧ ((∃ fs, gs E i = some (.io fs)) → x' = .io ds) := by
    unfold Dl.setL
    rw [gx]
    cases x with
    | im d => cases lx
    | ow fs => exact ⟨_, gs_ss_same (gs_lt gx), rfl, fun ⟨fs, e⟩ => by cases e⟩
    | io fs => exact ⟨_, gs_ss_same (gs_lt gx), rfl, fun _ => rfl⟩
  refine ⟨⟨fun j d h => ?_, fun j y fs a b => ?_, fun j k x1 y1 es1 fs1 a1 a2 b1 b2 e => ?_, fun a h => ?_, ?_⟩, ⟨fun b o h n => ?_, fun a h => .inl (own_setL.mp h), fun j fs h => ⟨rfl, ?_⟩⟩⟩
  · have hj : j ≠ i := fun e => by
      subst e
      obtain ⟨x', e1, e2, _⟩ := at_i
      rw [e1] at h; cases h; cases e2
    rw [at_ne j hj] at h
    obtain ⟨v, a, b⟩ := r.im j d h
    exact ⟨v, a, b.mv mv⟩
  · by_cases hj : j = i
    · subst hj
      obtain ⟨x', e1, e2, _⟩ := at_i
      rw [e1] at a; cases a
      rw [e2] at b; cases b
      exact ⟨(r.ow j x es gx lx).1, nmo, xs, upd_same, q.mv mv⟩
    · rw [at_ne j hj] at a
      obtain ⟨u1, u2, zs, u3, u4⟩ := r.ow j y fs a b
      exact ⟨u1, u2, zs, by rw [upd_ne (fun e => hj (r.inj j i y x fs es a b gx lx e))]; exact u3, u4.mv mv⟩
  · have back : ∀ j y fs, gs (Dl.setL E i ds) j = some y → y.ls = some fs → ∃ y' fs', gs E j = some y' ∧ y'.ls = some fs' := fun j y fs a b => by
      by_cases hj : j = i
      · subst hj; exact ⟨x, es, gx, lx⟩
      · rw [at_ne j hj] at a; exact ⟨y, fs, a, b⟩
    obtain ⟨_, _, c1, c2⟩ := back j x1 es1 a1 a2
    obtain ⟨_, _, d1, d2⟩ := back k y1 fs1 b1 b2
    exact r.inj j k _ _ _ _ c1 c2 d1 d2 e
  · obtain ⟨o, h'⟩ := r.mo a h
    exact ⟨o, by rw [upd_ne (fun e => nmo (by rw [← e]; exact h))]; exact h'⟩
  · unfold Dl.setL
    split
    · rw [ss_len]; exact r.len
    · rw [ss_len]; exact r.len
    · exact r.len
  · rw [upd_ne (fun e => n (by rw [e]; exact own))]; exact h
  · by_cases hj : j = i
    · subst hj
      obtain ⟨x', e1, e2, e3⟩ := at_i
      have := e3 ⟨fs, h⟩
      subst this
      exact ⟨ds, e1⟩
    · exact ⟨fs, by rw [at_ne j hj]; exact h⟩
end
end Dl

set_option Elab.async false
set_option linter.all false
set_option maxRecDepth 100000
set_option maxHeartbeats 2000000
namespace Dl
noncomputable section
open PySem PySem.Spec PyProof.Rows L2
/-! ### xs[i] = e, xs.append(e) -/
def sSetI (i : Nat) (ix e : Xf) : Sf := fun E => (e E).st fun d E1 => match getL E1 i with
  | none => .no
  | some _ => (ix E1).st fun k E2 => match k with
    | .int k => match getL E2 i with
      | some ds => match ixN ds.length k with
        | some j => .nx (setL E2 i (ds.set j d))
        | none => .no
      | none => .no
    | _ => .no
theorem getL_own {K : PySem.W.Frag} {Mo : Ms} {θ : Nat → Addr} {E : En} {σ : L2.St} {H : Hp} {i : Nat} {ds : List D} (r : Rel K Mo θ E σ H) (g : getL E i = some ds) :
    σ[i]? = some (some (V.ref (θ i))) ∧ ∃ xs, H (θ i) = some (.lst xs) ∧ Rs K H (MM Mo θ E) xs ds := by
  unfold getL at g
  cases e : gs E i with
  | none => rw [e] at g; cases g
  | some x =>
    rw [e] at g
    obtain ⟨h1, _, h2⟩ := r.ow i x ds e g
    exact ⟨h1, h2⟩
theorem t_setI {c : Ct} {i : Nat} {ix e : Xf} (Dn : Ends) (σ : L2.St) (H : Hp) (h : tS c (sSetI i ix e) Dn σ H) : tAsg (tX c e) (L2.gSub (tVar i) (tX c ix) rSetL) Dn σ H := by
  obtain ⟨Mo, θ, E, rel, h⟩ := h
  refine ⟨Mo, θ, E, rel, Co.mono (CoS.bind (rl := R c.K) (σ := σ) h) ?_⟩
  rintro v H1 ⟨d, E1, e1, r1, t1, q1, h1⟩
  split at h1
  · exact h1.elim
  · rename_i ds0 g0
    refine ⟨_, (getL_own r1 g0).1, Mo, θ, E1, r1, Co.mono (CoS.bind (rl := R c.K) (σ := σ) h1) ?_⟩
    rintro k H2 ⟨dk, E2, e2, r2, t2, q2, h2⟩
    split at h2
    · split at h2
      · rename_i kk ds g
        split at h2
        · rename_i j hj
          cases q2
          obtain ⟨g1, xs, g2, g3⟩ := getL_own r2 g
          refine ⟨_, xs, _, j, rfl, rfl, g2, by rw [g3.length]; exact hj, ?_⟩
          obtain ⟨r3, t3⟩ := r2.setL g (g3.set (q1.mv (t2.mv r2)) j)
          exact h2 θ σ _ r3 t3
        · exact h2.elim
      · exact h2.elim
    · exact h2.elim
def sApp (i : Nat) (e : Xf) : Sf := fun E => match getL E i with
  | none => .no
  | some _ => (e E).st fun d E1 => match getL E1 i with
    | some ds => if ds.length < lim then .nx (setL E1 i (ds ++ [d])) else .no
    | none => .no
theorem t_app {c : Ct} {i : Nat} {e : Xf} (Dn : Ends) (σ : L2.St) (H : Hp) (h : tS c (sApp i e) Dn σ H) : tDrop (tBM c.K "list" rAppend (tVar i) (tCons (tX c e) tNil)) Dn σ H := by
  obtain ⟨Mo, θ, E, rel, h⟩ := h
  unfold sApp at h
  split at h
  · exact h.elim
  · rename_i ds0 g0
    obtain ⟨a1, xs0, a2, a3⟩ := getL_own rel g0
    refine ⟨_, a1, .inl ⟨rfl, _, SqL.of a2⟩, Mo, θ, E, rel, Co.mono (CoS.bind (rl := R c.K) (σ := σ) h) ?_⟩
    rintro v H1 ⟨d, E1, e1, r1, t1, q1, h1⟩
    split at h1
    · rename_i ds g
      split at h1
      · rename_i hz
        obtain ⟨g1, xs, g2, g3⟩ := getL_own r1 g
        refine ⟨_, xs, v, rfl, rfl, g2, by rw [g3.length, ← lim_eq]; exact hz, ?_⟩
        obtain ⟨r3, t3⟩ := r1.setL g (g3.append (.cons q1 .nil))
        exact h1 θ σ _ r3 t3
      · exact h1.elim
    · exact h1.elim
/-! ### name op= e (data) -/
def sAug (g : D → D → Option D) (i : Nat) (e : Xf) : Sf := fun E => match gs E i with
  | some (.im x) => (e E).st fun y E1 => match g x y with
    | some d => if noIo E1 i then .nx (ss E1 i (some (.im d))) else .no
    | none => .no
  | _ => .no
theorem t_aug {c : Ct} {i : Nat} {e : Xf} {r : R2} {g : D → D → Option D} (hd : OpD c.K r g) (Dn : Ends) (σ : L2.St) (H : Hp) (h : tS c (sAug g i e) Dn σ H) : tAug i (tX c e) r Dn σ H := by
  obtain ⟨Mo, θ, E, rel, h⟩ := h
  unfold sAug at h
  split at h
  · rename_i x gx
    obtain ⟨v, h1, h2⟩ := rel.im i x gx
    refine ⟨v, h1, Mo, θ, E, rel, Co.mono (CoS.bind (rl := R c.K) (σ := σ) h) ?_⟩
    rintro y H1 ⟨d, E1, e1, r1, t1, q1, h1⟩
    split at h1
    · rename_i z ez
      split at h1
      · rename_i hn
        refine hd H1 _ v y x d z _ r1.hg (.inl (h2.mv (t1.mv r1))) (.inl q1) ez fun w H2 ex q => ?_
        have r2 := r1.ext ex
        obtain ⟨r3, t3⟩ := r2.put_im (i := i) q (noIo_ne hn)
        exact h1 θ _ H2 r3 ((Tr.ext ex).trans t3)
      · exact h1.elim
    · exact h1.elim
  · exact h.elim
/-! ### raise -/
def sRaise (x : Str) : Sf := fun E => .ex ⟨x, []⟩ E
theorem t_raise {c : Ct} {x : Str} {v : Value} (hm : c.mg x = some v) (Dn : Ends) (σ : L2.St) (H : Hp) (h : tS c (sRaise x) Dn σ H) : c.W v none σ H := by
  obtain ⟨Mo, θ, E, rel, h⟩ := h
  exact h θ σ v none H ⟨hm, .inl ⟨rfl, rfl⟩⟩ rel Tr.refl
/-! ### what is walked -/
structure ItD (K : PySem.W.Frag) (H : Hp) (M : Ms) (J : It) (ds : List D) : Prop where
  go : ∀ i H' M', Mv H M H' M' → Hg H' M' → i < ds.length → J.go i H' ∧ ∀ x H'', J.yld i H' x H'' → Ext H' H'' ∧ ∃ d, ds[i]? = some d ∧ R K H'' M' x d
  stop : ∀ H' M', Mv H M H' M' → Hg H' M' → J.stop ds.length H'
abbrev Xi := En → Ou (List D)
theorem put_ims {K : PySem.W.Frag} {H : Hp} {Mo : Ms} {θ : Nat → Addr} : ∀ (is : List Nat) {E E2 : En} {σ : L2.St} {vs : List V} {ds : List D}, putS is (ds.map Sl.im) E = some E2 → Rel K Mo θ E σ H → Rs K H (MM Mo θ E) vs ds →
    Rel K Mo θ E2 (setAll σ is vs) H ∧ Tr θ E H θ E2 H
  | [], E, E2, σ, vs, ds, e, r, q => by
    cases q with
    | nil => cases e; exact ⟨r, Tr.refl⟩
    | cons a b => cases e
  | i :: is, E, E2, σ, vs, ds, e, r, q => by
    cases q with
    | nil => cases e
    | @cons v vs d ds a b =>
      have e' : (if noIo E i && decide (i < E.length) then putS is (ds.map Sl.im) (ss E i (some (.im d))) else none) = some E2 := e
      split at e'
      · rename_i hc
        rw [Bool.and_eq_true, decide_eq_true_eq] at hc
        obtain ⟨r1, t1⟩ := r.put_im a (noIo_ne hc.1)
        obtain ⟨r2, t2⟩ := put_ims is e' r1 (b.mv (t1.mv r1))
        exact ⟨r2, t1.trans t2⟩
      · cases e'
def TgD (c : Ct) (is : List Nat) (tg : D → En → Option En) (g : TG) : Prop := ∀ (Mo : Ms) (θ : Nat → Addr) (E E2 : En) (σ : L2.St) (H : Hp) (v : V) (d : D) (Q : L2.St → Hp → Prop), Rel c.K Mo θ E σ H → R c.K H (MM Mo θ E) v d → tg d E = some E2 →
  (∀ vs, Rel c.K Mo θ E2 (setAll σ is vs) H → Tr θ E H θ E2 H → Q (setAll σ is vs) H) → g v σ H Q
def tgN (i : Nat) : D → En → Option En := fun d E => putS [i] [.im d] E
def tgT (is : List Nat) : D → En → Option En := fun d E => match d with
  | .tuple ds => putS is (ds.map Sl.im) E
  | _ => none
theorem tg_n {c : Ct} {i : Nat} : TgD c [i] (tgN i) (gName i) := fun Mo θ E E2 σ H v d Q r q e k => by
  obtain ⟨r1, t1⟩ := put_ims [i] (ds := [d]) (vs := [v]) e r (.cons q .nil)
  exact k [v] r1 t1
theorem tg_t {c : Ct} {is : List Nat} {t : TGs} (ht : ∀ xs σ H Q, xs.length = is.length → Q (setAll σ is xs) H → t xs σ H Q) : TgD c is (tgT is) (L2.gTup c.K is.length t) := fun Mo θ E E2 σ H v d Q r q e k => by
  unfold tgT at e
  split at e
  · obtain ⟨a, xs, rfl, hs, rs⟩ := q.tupD
    have hl := putS_len e
    rw [List.length_map] at hl
    obtain ⟨r1, t1⟩ := put_ims is e r rs
    exact ⟨_, _, rfl, hs, by rw [rs.length, hl], ht _ _ _ _ (by rw [rs.length, hl]) (k _ r1 t1)⟩
  · cases e
def forL (tg : D → En → Option En) (bd : Sf) : List D → En → Rt
  | [], E => .nx E
  | d :: ds, E => match tg d E with
    | none => .no
    | some E1 => match bd E1 with
      | .nx E2 => forL tg bd ds E2
      | .ct E2 => forL tg bd ds E2
      | .bk E2 => .nx E2
      | o => o
def sFor (it : Xi) (tg : D → En → Option En) (bd : Sf) : Sf := fun E => (it E).st fun ds E1 => forL tg bd ds E1
theorem t_for {c : Ct} {it : Xi} {wi : TI} {tg : D → En → Option En} {g : TG} {bd : Sf} (hI : ∀ σ H R, tG (ItD c.K) c it σ H R → wi σ H R) {is : List Nat} (hg : TgD c is tg g) (Dn : Ends) (σ : L2.St) (H : Hp) (h : tS c (sFor it tg bd) Dn σ H) :
    tFor wi g (tS c bd) Dn σ H := by
  obtain ⟨Mo, θ, E, rel, h⟩ := h
  refine hI σ H _ ⟨Mo, θ, E, rel, Co.mono (CoS.bind (rl := ItD c.K) (σ := σ) h) ?_⟩
  rintro J H1 ⟨ds, E1, e1, r1, t1, itd, h1⟩
  refine ⟨fun i m σ' H' => m = ds.length - i ∧ i ≤ ds.length ∧ ∃ θ' E', Rel c.K Mo θ' E' σ' H' ∧ Tr θ E1 H1 θ' E' H' ∧ CoS c Mo θ' E' H' (forL tg bd (ds.drop i) E') Dn,
    ⟨ds.length, by simp, Nat.zero_le _, θ, E1, r1, Tr.refl, h1⟩, ?_⟩
  rintro i m σ' H' ⟨rfl, hi, θ', E', r', t', h'⟩
  have mv := t'.mv r'
  by_cases hlt : i < ds.length
  · obtain ⟨go, yl⟩ := itd.go i H' _ mv r'.hg hlt
    have hd : ds.drop i = ds[i] :: ds.drop (i + 1) := List.drop_eq_getElem_cons hlt
    refine .inr ⟨go, fun σ2 H2 => ∃ θ2 E2, Rel c.K Mo θ2 E2 σ2 H2 ∧ Tr θ E1 H1 θ2 E2 H2 ∧ CoS c Mo θ2 E2 H2 (forL tg bd (ds.drop (i + 1)) E2) Dn, fun σ2 H2 hn => ⟨ds.length - (i + 1), by omega, rfl, hlt, hn⟩, fun x H'' y => ?_⟩
    obtain ⟨ex, d, ed, rx⟩ := yl x H'' y
    have ed' : d = ds[i] := by rw [List.getElem?_eq_getElem hlt] at ed; exact (Option.some.inj ed).symm
    subst ed'
    rw [hd] at h'
    have r2 := r'.ext ex
    have h2 := CoS.move (Tr.ext (θ := θ') (E := E') ex) h'
    have t2 := t'.trans (Tr.ext (θ := θ') (E := E') ex)
    unfold forL at h2
    cases eg : tg ds[i] E' with
    | none => rw [eg] at h2; exact h2.elim
    | some E2 =>
      rw [eg] at h2
      dsimp only at h2
      refine hg Mo θ' E' E2 σ' H'' x ds[i] _ r2 rx eg fun vs3 r3 t3 => ?_
      have h3 := CoS.move t3 h2
      have t3' := t2.trans t3
      refine ⟨Mo, θ', E2, r3, ?_⟩
      cases eb : bd E2 with
      | nx E4 => rw [eb] at h3; exact fun θ4 σ4 H4 r4 t4 => ⟨θ4, E4, r4, t3'.trans t4, CoS.move t4 h3⟩
      | ct E4 => rw [eb] at h3; exact fun θ4 σ4 H4 r4 t4 => ⟨θ4, E4, r4, t3'.trans t4, CoS.move t4 h3⟩
      | bk E4 => rw [eb] at h3; exact h3
      | rt r E4 => rw [eb] at h3; cases r <;> exact h3
      | ex x E4 => rw [eb] at h3; exact h3
      | no => rw [eb] at h3; exact h3
  · have e : i = ds.length := by omega
    subst e
    refine .inl ⟨itd.stop H' _ mv r'.hg, ?_⟩
    rw [List.drop_length] at h'
    exact h' θ' σ' H' r' Tr.refl
/-! ### the sources -/
/-- a text's signs -/
def signsD (z : Str) : List D := z.cps.toList.map fun c => PyData.str ⟨#[c]⟩
/-- a list or a tuple -/
def xiSeq (f : Xf) : Xi := fun E => (f E).bind fun d E1 => match d with
  | .list ds => .ok ds E1
  | .tuple ds => .ok ds E1
  | .str z => .ok (signsD z) E1
  | _ => .no
theorem itd_str {K : PySem.W.Frag} {H : Hp} {M : Ms} {z : Str} : ItD K H M (Its z) (signsD z) where
  go := fun i H' M' m g hi => by
    unfold signsD at hi
    rw [List.length_map, Array.length_toList] at hi
    refine ⟨hi, fun x H'' y => ?_⟩
    obtain ⟨rfl, c, hc, rfl⟩ := y
    refine ⟨Ext.refl, .str ⟨#[c]⟩, ?_, .str _⟩
    unfold signsD
    rw [List.getElem?_map, Array.getElem?_toList, hc]; rfl
  stop := fun H' M' m g => by
    unfold signsD
    rw [List.length_map, Array.length_toList]
    exact Nat.le_refl _
theorem itd_list {K : PySem.W.Frag} {H : Hp} {M : Ms} {a : Addr} {xs : List V} {ds : List D} (h : ∀ H' M', Mv H M H' M' → SqX K H' a xs) (r : Rs K H M xs ds) : ItD K H M (Itl K a) ds where
  go := fun i H' M' m g hi => by
    have hs := (h H' M' m).sq
    have hx : i < xs.length := by rw [r.length]; exact hi
    refine ⟨⟨xs, xs[i], hs, List.getElem?_eq_getElem hx⟩, fun x H'' y => ?_⟩
    obtain ⟨rfl, y⟩ := y
    obtain ⟨d, hd, rd⟩ := (r.mv m).get' (y xs hs)
    exact ⟨Ext.refl, d, hd, rd⟩
  stop := fun H' M' m g => ⟨xs, (h H' M' m).sq, by rw [r.length]; exact Nat.le_refl _⟩
theorem itd_tup {K : PySem.W.Frag} {H : Hp} {M : Ms} {a : Addr} {xs : List V} {ds : List D} (h : ∀ H' M', Mv H M H' M' → SqT K H' a xs) (r : Rs K H M xs ds) : ItD K H M (Itt K a) ds where
  go := fun i H' M' m g hi => by
    have hs := h H' M' m
    have hx : i < xs.length := by rw [r.length]; exact hi
    refine ⟨⟨xs, xs[i], hs, List.getElem?_eq_getElem hx⟩, fun x H'' y => ?_⟩
    obtain ⟨rfl, y⟩ := y
    obtain ⟨d, hd, rd⟩ := (r.mv m).get' (y xs hs)
    exact ⟨Ext.refl, d, hd, rd⟩
  stop := fun H' M' m g => ⟨xs, h H' M' m, by rw [r.length]; exact Nat.le_refl _⟩
theorem R.itl {K : PySem.W.Frag} {H : Hp} {M : Ms} {v : V} {ds : List D} (h : R K H M v (.list ds)) : ∃ a, v = .ref a ∧ (∃ xs, SqL K H a xs) ∧ ItD K H M (Itl K a) ds := by
  cases h with
  | lst h n r => exact ⟨_, rfl, ⟨_, .inl h⟩, itd_list (fun H' M' m => .inl (m.rd h n).1) r⟩
  | klst h r => exact ⟨_, rfl, ⟨_, h.none.sq⟩, itd_list (fun H' M' m => h.none) r⟩
theorem R.itt {K : PySem.W.Frag} {H : Hp} {M : Ms} {v : V} {ds : List D} (h : R K H M v (.tuple ds)) : ∃ a, v = .ref a ∧ (∃ xs, SqT K H a xs) ∧ ItD K H M (Itt K a) ds := by
  cases h with
  | tup h n r => exact ⟨_, rfl, ⟨_, .inl h⟩, itd_tup (fun H' M' m => .inl (m.rd h n).1) r⟩
  | ktup h r => exact ⟨_, rfl, ⟨_, sqT_none h⟩, itd_tup (fun H' M' m => sqT_none h) r⟩
theorem pi_or {X : Cx} {tg it : Expr} {wi wi' : TI} (h : PI X tg it wi) (h' : PI X tg it wi') : PI X tg it (fun σ H R => wi σ H R ∨ wi' σ H R) :=
  ⟨fun pins s σ H R I q => q.elim (h.run pins s σ H R I) (h'.run pins s σ H R I)⟩
theorem pi_of {X : Cx} {tg it : Expr} {wi wi' : TI} (h : PI X tg it wi) (i : ∀ σ H R, wi' σ H R → wi σ H R) : PI X tg it wi' := ⟨fun pins s σ H R I q => h.run pins s σ H R I (i σ H R q)⟩
theorem ti_seq {c : Ct} {f : Xf} (σ : L2.St) (H : Hp) (R : It → Hp → Prop) (h : tG (ItD c.K) c (xiSeq f) σ H R) : iList c.K (tX c f) σ H R ∨ iTup c.K (tX c f) σ H R ∨ iStr (tX c f) σ H R := by
  obtain ⟨Mo, θ, E, rel, h⟩ := h
  have h' : Co (ItD c.K) c Mo θ E H ((f E).bind fun d E1 => match d with
    | .list ds => Ou.ok ds E1
    | .tuple ds => Ou.ok ds E1
    | .str z => Ou.ok (signsD z) E1
    | _ => Ou.no) σ R := h
  cases e : f E with
  | no => rw [e] at h'; exact h'.elim
  | ex x E1 => rw [e] at h'; exact .inl ⟨Mo, θ, E, rel, by rw [e]; exact h'⟩
  | ok d E1 =>
    rw [e, Ou.bind_ok] at h'
    split at h'
    · refine .inl ⟨Mo, θ, E, rel, ?_⟩
      rw [e]
      intro v H1 r1 t1 q
      obtain ⟨a, rfl, hs, itd⟩ := q.itl
      exact ⟨_, rfl, hs, h' _ H1 r1 t1 itd⟩
    · refine .inr (.inl ⟨Mo, θ, E, rel, ?_⟩)
      rw [e]
      intro v H1 r1 t1 q
      obtain ⟨a, rfl, hs, itd⟩ := q.itt
      exact ⟨_, rfl, hs, h' _ H1 r1 t1 itd⟩
    · refine .inr (.inr ⟨Mo, θ, E, rel, ?_⟩)
      rw [e]
      intro v H1 r1 t1 q
      cases q
      exact ⟨_, rfl, h' _ H1 r1 t1 itd_str⟩
    · exact h'.elim
/-- range -/
def rgD (lo : Int) (n : Nat) : List D := (List.range n).map fun (i : Nat) => .int (lo + (i : Int))
theorem rgD_len (lo : Int) (n : Nat) : (rgD lo n).length = n := by unfold rgD; rw [List.length_map, List.length_range]
theorem rgD_get {lo : Int} {n i : Nat} (h : i < n) : (rgD lo n)[i]? = some (.int (lo + (i : Int))) := by
  unfold rgD
  rw [List.getElem?_map, List.getElem?_range h]; rfl
theorem itd_rng {K : PySem.W.Frag} {H : Hp} {M : Ms} {lo : Int} {n : Nat} : ItD K H M (Itr lo n) (rgD lo n) where
  go := fun i H' M' m g hi => by
    rw [rgD_len] at hi
    refine ⟨hi, fun x H'' y => ?_⟩
    obtain ⟨rfl, rfl⟩ := y
    exact ⟨Ext.refl, _, rgD_get hi, .int _⟩
  stop := fun H' M' m g => by rw [rgD_len]; exact Nat.le_refl _
def inRg (i : Int) : Bool := decide (-i62 ≤ i) && decide (i < i62)
def xiRg1 (a : Xf) : Xi := fun E => (a E).bind fun d E1 => match d with
  | .int j => if inRg j then .ok (rgD 0 j.toNat) E1 else .no
  | _ => .no
def xiRg2 (a b : Xf) : Xi := fun E => (a E).bind fun d E1 => (b E1).bind fun e E2 => match d with
  | .int i => match e with
    | .int j => if inRg i && inRg j then .ok (rgD i (j - i).toNat) E2 else .no
    | _ => .no
  | _ => .no
theorem ti_rg1 {c : Ct} {a : Xf} (σ : L2.St) (H : Hp) (R : It → Hp → Prop) (h : tG (ItD c.K) c (xiRg1 a) σ H R) : iRng1 (tCons (tX c a) tNil) σ H R := by
  obtain ⟨Mo, θ, E, rel, h⟩ := h
  refine ⟨Mo, θ, E, rel, Co.mono (Co.bind (rl := Dl.R c.K) h) ?_⟩
  rintro v H1 ⟨d, E1, e1, r1, t1, q1, h1⟩
  split at h1
  · split at h1
    · rename_i j hj
      unfold inRg at hj
      rw [i62_eq] at hj
      rw [Bool.and_eq_true, decide_eq_true_eq, decide_eq_true_eq] at hj
      cases q1
      exact ⟨j, rfl, hj.1, hj.2, h1 _ H1 r1 Tr.refl itd_rng⟩
    · exact h1.elim
  · exact h1.elim
theorem ti_rg2 {c : Ct} {a b : Xf} (σ : L2.St) (H : Hp) (R : It → Hp → Prop) (h : tG (ItD c.K) c (xiRg2 a b) σ H R) : iRng2 (tCons (tX c a) (tCons (tX c b) tNil)) σ H R := by
  obtain ⟨Mo, θ, E, rel, h⟩ := h
  refine ⟨Mo, θ, E, rel, Co.mono (Co.bind (rl := Dl.R c.K) h) ?_⟩
  rintro v H1 ⟨d, E1, e1, r1, t1, q1, h1⟩
  refine ⟨Mo, θ, E1, r1, Co.mono (Co.bind (rl := Dl.R c.K) h1) ?_⟩
  rintro w H2 ⟨e, E2, e2, r2, t2, q2, h2⟩
  cases q1 with
  | int i =>
    cases q2 with
    | int j =>
      dsimp only at h2
      split at h2
      · rename_i hj
        unfold inRg at hj
        simp only [i62_eq, Bool.and_eq_true, decide_eq_true_eq] at hj
        exact ⟨i, j, rfl, ⟨hj.1.1, hj.1.2, hj.2.1, hj.2.2⟩, h2 _ H2 r2 Tr.refl itd_rng⟩
      · exact h2.elim
    | _ => exact h2.elim
  | _ => exact h2.elim
/-! ### while -/
def whL (t : Xb) (bd : Sf) : Nat → En → Rt
  | 0, _ => .no
  | n + 1, E => (t E).st fun b E1 => match b with
    | false => .nx E1
    | true => match bd E1 with
      | .nx E2 => whL t bd n E2
      | .ct E2 => whL t bd n E2
      | .bk E2 => .nx E2
      | o => o
def sWhl (fu : Nat) (t : Xb) (bd : Sf) : Sf := whL t bd fu
theorem t_whl {c : Ct} {fu : Nat} {t : Xb} {bd : Sf} (Dn : Ends) (σ : L2.St) (H : Hp) (h : tS c (sWhl fu t bd) Dn σ H) : tWhile (tXb c t) (tS c bd) Dn σ H := by
  obtain ⟨Mo, θ, E, rel, h⟩ := h
  refine ⟨fun m σ' H' => ∃ θ' E', Rel c.K Mo θ' E' σ' H' ∧ Tr θ E H θ' E' H' ∧ CoS c Mo θ' E' H' (whL t bd m E') Dn, ⟨fu, θ, E, rel, Tr.refl, h⟩, ?_⟩
  rintro m σ' H' ⟨θ', E', r', t', h'⟩
  cases m with
  | zero => exact h'.elim
  | succ n =>
    have h2 : CoS c Mo θ' E' H' ((t E').st fun b E1 => match b with
      | false => Rt.nx E1
      | true => match bd E1 with
        | .nx E2 => whL t bd n E2
        | .ct E2 => whL t bd n E2
        | .bk E2 => Rt.nx E2
        | o => o) Dn := h'
    refine ⟨Mo, θ', E', r', Co.mono (CoS.bind (rl := RB0) (σ := σ') h2) ?_⟩
    rintro x H1 ⟨d, E1, e1, r1, t1, b1, h1⟩
    have b1' : x = d := b1
    subst b1'
    cases x with
    | false => rw [if_neg Bool.false_ne_true]; exact h1 θ' σ' H1 r1 Tr.refl
    | true =>
      rw [if_pos rfl]
      have t1' := t'.trans t1
      refine ⟨fun σ2 H2 => ∃ θ2 E2, Rel c.K Mo θ2 E2 σ2 H2 ∧ Tr θ E H θ2 E2 H2 ∧ CoS c Mo θ2 E2 H2 (whL t bd n E2) Dn, fun σ2 H2 q => ⟨n, Nat.lt_succ_self n, q⟩, Mo, θ', E1, r1, ?_⟩
      dsimp only at h1
      cases eb : bd E1 with
      | nx E4 => rw [eb] at h1; exact fun θ4 σ4 H4 r4 t4 => ⟨θ4, E4, r4, t1'.trans t4, CoS.move t4 h1⟩
      | ct E4 => rw [eb] at h1; exact fun θ4 σ4 H4 r4 t4 => ⟨θ4, E4, r4, t1'.trans t4, CoS.move t4 h1⟩
      | bk E4 => rw [eb] at h1; exact h1
      | rt r E4 => rw [eb] at h1; cases r <;> exact h1
      | ex x E4 => rw [eb] at h1; exact h1
      | no => rw [eb] at h1; exact h1
end
end Dl

set_option Elab.async false
set_option linter.all false
set_option maxRecDepth 100000
set_option maxHeartbeats 2000000
namespace Dl
noncomputable section
open PySem PySem.Spec PyProof.Rows L2
/-! ### comprehensions -/
def wipeE (E : En) : List Nat → En
  | [] => E
  | v :: vs => ss (wipeE E vs) v none
def rstE (E0 : En) (E : En) : List Nat → En
  | [] => E
  | v :: vs => ss (rstE E0 E vs) v (gs E0 v)
def freeS (E : En) (ws : List Nat) : Bool := ws.all fun i => match gs E i with
  | some (.ow _) => false
  | some (.io _) => false
  | _ => true
def lcL (tg : D → En → Option En) (tt : Xb) (elt : Xf) (ws : List Nat) : List D → List D → En → Ou (List D)
  | [], acc, E => if freeS E ws then .ok acc (wipeE E ws) else .no
  | d :: ds, acc, E => if freeS E ws then match tg d (wipeE E ws) with
    | none => .no
    | some E2 => match tt E2 with
      | .ok true E3 => match elt E3 with
        | .ok y E4 => if acc.length < lim then lcL tg tt elt ws ds (acc ++ [y]) E4 else .no
        | _ => .no
      | .ok false E3 => lcL tg tt elt ws ds acc E3
      | _ => .no
    else .no
def xLc (it : Xi) (tg : D → En → Option En) (tt : Xb) (elt : Xf) (ws : List Nat) : Xs := fun E => (it E).bind fun ds E1 =>
  if freeS E1 ws then match lcL tg tt elt ws ds [] E1 with
    | .ok acc E2 => .ok (.ow acc) (rstE E1 E2 ws)
    | _ => .no
  else .no
theorem wipeE_len (E : En) : ∀ ws, (wipeE E ws).length = E.length
  | [] => rfl
  | v :: vs => by unfold wipeE; rw [ss_len, wipeE_len E vs]
theorem rstE_len (E0 E : En) : ∀ ws, (rstE E0 E ws).length = E.length
  | [] => rfl
  | v :: vs => by unfold rstE; rw [ss_len, rstE_len E0 E vs]
theorem gs_wipe {E : En} {j : Nat} : ∀ {ws : List Nat}, gs (wipeE E ws) j = if j ∈ ws then none else gs E j
  | [] => rfl
  | v :: vs => by
    unfold wipeE
    by_cases h : j = v
    · subst h
      rw [if_pos List.mem_cons_self]
      by_cases hl : j < (wipeE E vs).length
      · rw [gs_ss_same hl]
      · cases e : gs (ss (wipeE E vs) j none) j with
        | none => rfl
        | some x => exact absurd (by have := gs_lt e; rw [ss_len] at this; exact this) hl
    · rw [gs_ss_ne h, gs_wipe (ws := vs)]
      by_cases hm : j ∈ vs
      · rw [if_pos hm, if_pos (List.mem_cons_of_mem _ hm)]
      · rw [if_neg hm, if_neg (fun z => (List.mem_cons.mp z).elim h hm)]
theorem gs_rst {E0 E : En} {j : Nat} (hl : E0.length = E.length) : ∀ {ws : List Nat}, gs (rstE E0 E ws) j = if j ∈ ws then gs E0 j else gs E j
  | [] => rfl
  | v :: vs => by
    unfold rstE
    by_cases h : j = v
    · subst h
      rw [if_pos List.mem_cons_self]
      by_cases hj : j < (rstE E0 E vs).length
      · rw [gs_ss_same hj]
      · cases e : gs (ss (rstE E0 E vs) j (gs E0 j)) j with
        | none =>
          cases e2 : gs E0 j with
          | none => rfl
          | some x => exact absurd (by rw [rstE_len, ← hl]; exact gs_lt e2) hj
        | some x => exact absurd (by have := gs_lt e; rw [ss_len] at this; exact this) hj
    · rw [gs_ss_ne h, gs_rst hl (ws := vs)]
      by_cases hm : j ∈ vs
      · rw [if_pos hm, if_pos (List.mem_cons_of_mem _ hm)]
      · rw [if_neg hm, if_neg (fun z => (List.mem_cons.mp z).elim h hm)]
section
variable {K : PySem.W.Frag} {Mo : Ms} {θ : Nat → Addr} {E E0 : En} {σ : L2.St} {H : Hp} {p : Addr}
theorem Rel.wipe (r : Rel K Mo θ E σ H) : ∀ {ws : List Nat}, freeS E ws = true → Rel K Mo θ (wipeE E ws) (L2.wipe σ ws) H ∧ Tr θ E H θ (wipeE E ws) H ∧ (∀ a, Own (wipeE E ws) θ a ↔ Own E θ a)
  | [], _ => ⟨r, Tr.refl, fun a => Iff.rfl⟩
  | v :: vs, h => by
    unfold freeS at h
    rw [List.all_cons, Bool.and_eq_true] at h
    obtain ⟨r1, t1, o1⟩ := Rel.wipe r (ws := vs) h.2
    have hv : ∀ x ds, gs (wipeE E vs) v = some x → x.ls = some ds → False := fun x ds e l => by
      rw [gs_wipe] at e
      split at e
      · cases e
      · have h1 := h.1
        rw [e] at h1
        cases x with
        | im d => cases l
        | ow es => exact Bool.false_ne_true h1
        | io es => exact Bool.false_ne_true h1
    obtain ⟨r2, t2⟩ := r1.put (i := v) (y := none) (v := none) (fun x e => by cases e) (fun ds e => hv _ ds e rfl)
    refine ⟨r2, t1.trans t2, fun a => ⟨fun z => (o1 a).mp (own_ss (fun x e => by cases e) z), fun z => ?_⟩⟩
    obtain ⟨j, x, ds, h1, h2, rfl⟩ := (o1 a).mpr z
    have hj : j ≠ v := fun e => by subst e; exact hv x ds h1 h2
    exact ⟨j, x, ds, by unfold wipeE; rw [gs_ss_ne hj]; exact h1, h2, rfl⟩
/-- a list at an address that data does not lean on is changed -/
theorem Rel.updMo {ys : List V} (r : Rel K (ins Mo p) θ E σ H) : Rel K (ins Mo p) θ E σ (upd H p (.lst ys)) := by
  obtain ⟨o0, h0⟩ := r.mo p (.inr rfl)
  have mv : Mv H (MM (ins Mo p) θ E) (upd H p (.lst ys)) (MM (ins Mo p) θ E) := ⟨fun b o h n => by rw [upd_ne (fun e => n (by rw [e]; exact .inl (.inr rfl)))]; exact h, fun a h => .inl h⟩
  refine ⟨fun i d h => let ⟨v, a, b⟩ := r.im i d h; ⟨v, a, b.mv mv⟩, fun i x ds a b => ?_, r.inj, fun a h => ?_, r.len⟩
  · obtain ⟨u1, u2, xs, u3, u4⟩ := r.ow i x ds a b
    exact ⟨u1, u2, xs, by rw [upd_ne (fun e => u2 (.inr e))]; exact u3, u4.mv mv⟩
  · by_cases e : a = p
    · subst e; exact ⟨ys, upd_same⟩
    · obtain ⟨o, h'⟩ := r.mo a h
      exact ⟨o, by rw [upd_ne e]; exact h'⟩
theorem Rs.updMo {xs ys : List V} {ds : List D} (r : Rel K (ins Mo p) θ E σ H) (q : Rs K H (MM (ins Mo p) θ E) xs ds) : Rs K (upd H p (.lst ys)) (MM (ins Mo p) θ E) xs ds :=
  q.mv ⟨fun b o h n => by rw [upd_ne (fun e => n (by rw [e]; exact .inl (.inr rfl)))]; exact h, fun a h => .inl h⟩
theorem R.updMo {v : V} {ys : List V} {d : D} (r : Rel K (ins Mo p) θ E σ H) (q : R K H (MM (ins Mo p) θ E) v d) : R K (upd H p (.lst ys)) (MM (ins Mo p) θ E) v d :=
  q.mv ⟨fun b o h n => by rw [upd_ne (fun e => n (by rw [e]; exact .inl (.inr rfl)))]; exact h, fun a h => .inl h⟩
/-- the block's own names forgotten, the old ones back -/
theorem Rel.restore {ws : List Nat} (r : Rel K Mo θ E (L2.wipe σ ws) H) (hl : E0.length = E.length) (hf : freeS E0 ws = true) (old : ∀ i ∈ ws, ∀ d, gs E0 i = some (.im d) → ∃ v, σ[i]? = some (some v) ∧ R K H (MM Mo θ E) v d)
    (hw : ∀ i ∈ ws, gs E i = none) : Rel K Mo θ (rstE E0 E ws) σ H ∧ (∀ a, Own (rstE E0 E ws) θ a ↔ Own E θ a) := by
  have fr : ∀ j ∈ ws, ∀ x ds, gs E0 j = some x → x.ls = some ds → False := fun j hj x ds e l => by
    unfold freeS at hf
    have h1 := List.all_eq_true.mp hf j hj
    rw [e] at h1
    cases x with
    | im d => cases l
    | ow es => exact Bool.false_ne_true h1
    | io es => exact Bool.false_ne_true h1
  have own : ∀ a, Own (rstE E0 E ws) θ a ↔ Own E θ a := fun a => by
    constructor
    · rintro ⟨j, x, ds, h1, h2, rfl⟩
      rw [gs_rst hl] at h1
      split at h1
      · rename_i hj; exact (fr j hj x ds h1 h2).elim
      · exact ⟨j, x, ds, h1, h2, rfl⟩
    · rintro ⟨j, x, ds, h1, h2, rfl⟩
      have hj : j ∉ ws := fun z => by rw [hw j z] at h1; cases h1
      exact ⟨j, x, ds, by rw [gs_rst hl, if_neg hj]; exact h1, h2, rfl⟩
  have mv : Mv H (MM Mo θ E) H (MM Mo θ (rstE E0 E ws)) := ⟨fun _ _ h _ => h, fun a h => .inl (h.elim .inl fun z => .inr ((own a).mp z))⟩
  refine ⟨⟨fun j d h => ?_, fun j x ds a b => ?_, fun j k x y es fs a1 a2 b1 b2 e => ?_, r.mo, by rw [rstE_len, ← r.len, wipe_length]⟩, own⟩
  · rw [gs_rst hl] at h
    split at h
    · rename_i hj
      obtain ⟨v, a, b⟩ := old j hj d h
      exact ⟨v, a, b.mv mv⟩
    · rename_i hj
      obtain ⟨v, a, b⟩ := r.im j d h
      rw [wipe_out hj] at a
      exact ⟨v, a, b.mv mv⟩
  · rw [gs_rst hl] at a
    split at a
    · rename_i hj; exact (fr j hj x ds a b).elim
    · rename_i hj
      obtain ⟨u1, u2, xs, u3, u4⟩ := r.ow j x ds a b
      rw [wipe_out hj] at u1
      exact ⟨u1, u2, xs, u3, u4.mv mv⟩
  · have back : ∀ j x es, gs (rstE E0 E ws) j = some x → x.ls = some es → gs E j = some x := fun j x es a b => by
      rw [gs_rst hl] at a
      split at a
      · rename_i hj; exact (fr j hj x es a b).elim
      · exact a
    exact r.inj j k x y es fs (back j x es a1 a2) a2 (back k y fs b1 b2) b2 e
end
theorem wipe_at {τ : L2.St} {j : Nat} : ∀ {l : List Nat}, (L2.wipe τ l)[j]? = if j ∈ l then (if j < τ.length then some none else none) else τ[j]?
  | [] => rfl
  | w :: ws => by
    show ((L2.wipe τ ws).set w none)[j]? = _
    by_cases hw : w = j
    · subst hw
      rw [if_pos List.mem_cons_self]
      by_cases hl : w < τ.length
      · rw [List.getElem?_set_self (by rw [wipe_length]; exact hl), if_pos hl]
      · rw [List.getElem?_eq_none (by rw [List.length_set, wipe_length]; omega), if_neg hl]
    · rw [List.getElem?_set_ne hw, wipe_at (l := ws)]
      by_cases hm : j ∈ ws
      · rw [if_pos hm, if_pos (List.mem_cons_of_mem _ hm)]
      · rw [if_neg hm, if_neg (fun z => (List.mem_cons.mp z).elim (fun e => hw e.symm) hm)]
theorem wipe_setAll {is ws : List Nat} (hs : ∀ i ∈ is, i ∈ ws) : ∀ (σ : L2.St) (vs : List V), L2.wipe (setAll σ is vs) ws = L2.wipe σ ws := by
  have one : ∀ (σ : L2.St) (i : Nat) (v : Option V) (ws : List Nat), i ∈ ws → L2.wipe (σ.set i v) ws = L2.wipe σ ws := fun σ i v ws h => by
    refine List.ext_getElem? fun j => ?_
    by_cases hj : j ∈ ws
    · rw [wipe_at, wipe_at, if_pos hj, if_pos hj, List.length_set]
    · rw [wipe_out hj, wipe_out hj, List.getElem?_set_ne (fun e => hj (by rw [← e]; exact h))]
  intro σ vs
  induction is generalizing σ vs with
  | nil => cases vs <;> rfl
  | cons i is ih =>
    cases vs with
    | nil => rfl
    | cons v vs =>
      show L2.wipe (setAll (σ.set i (some v)) is vs) ws = _
      rw [ih (fun j hj => hs j (List.mem_cons_of_mem _ hj)), one _ _ _ _ (hs i List.mem_cons_self)]
def c0 (c : Ct) : Ct := { c with W := fun _ _ _ _ => False }
theorem t_lc {c : Ct} {it : Xi} {wi : TI} {is ws : List Nat} {tg : D → En → Option En} {g : TG} {tt : Xb} {elt : Xf} (hI : ∀ σ H R, tG (ItD c.K) c it σ H R → wi σ H R) (hg : TgD c is tg g) (hs : ∀ i ∈ is, i ∈ ws)
    (σ : L2.St) (H : Hp) (Q : VK) (h : tXF c (xLc it tg tt elt ws) σ H Q) : tLc wi g (tXb (c0 c) tt) (tX (c0 c) elt) ws σ H Q := by
  obtain ⟨Mo, θ, E, rel, h⟩ := h
  have h0 : CoF c Mo θ E H ((it E).bind fun ds E1 => if freeS E1 ws then match lcL tg tt elt ws ds [] E1 with
    | .ok acc E2 => Ou.ok (.ow acc) (rstE E1 E2 ws)
    | _ => Ou.no
  else Ou.no) σ Q := h
  refine hI σ H _ ⟨Mo, θ, E, rel, ?_⟩
  cases e : it E with
  | no => rw [e] at h0; exact h0
  | ex x E1 => rw [e] at h0; exact h0
  | ok ds E1 =>
    rw [e, Ou.bind_ok] at h0
    intro J H1 r1 t1 itd D hD
    by_cases hf : freeS E1 ws = true
    · rw [if_pos hf] at h0
      cases el : lcL tg tt elt ws ds [] E1 with
      | no => rw [el] at h0; exact h0.elim
      | ex x E2 => rw [el] at h0; exact h0.elim
      | ok acc0 E2 =>
        rw [el] at h0
        refine ⟨fun i m H' => m = ds.length - i ∧ i ≤ ds.length ∧ ∃ E' σ' acc xs, Rel c.K (ins Mo D) θ E' σ' H' ∧ L2.wipe σ' ws = L2.wipe σ ws ∧ Tr θ E1 H1 θ E' H' ∧ H' D = some (.lst xs) ∧ Rs c.K H' (MM (ins Mo D) θ E') xs acc ∧ lcL tg tt elt ws (ds.drop i) acc E' = .ok acc0 E2,
          ⟨ds.length, by simp, Nat.zero_le _, E1, σ, [], [], r1.new hD, rfl, Tr.ext (Ext.upd hD), upd_same, .nil, el⟩, ?_⟩
        rintro i m H' ⟨rfl, hi, E', σ', acc, xs, r', hw', t', hD', q', el'⟩
        have mv1 : Mv H1 (MM Mo θ E1) H' (MM (ins Mo D) θ E') := ⟨fun b o h n => t'.fr b o h fun z => n (.inr z), fun a h => by
          rcases h with (h | h) | h
          · exact .inl (.inl h)
          · rw [h]; exact .inr hD
          · exact (t'.ow a h).imp .inr id⟩
        by_cases hlt : i < ds.length
        · obtain ⟨go, yl⟩ := itd.go i H' _ mv1 r'.hg hlt
          have hd : ds.drop i = ds[i] :: ds.drop (i + 1) := List.drop_eq_getElem_cons hlt
          rw [hd] at el'
          unfold lcL at el'
          by_cases hf' : freeS E' ws = true
          · rw [if_pos hf'] at el'
            obtain ⟨rw1, tw1, ow1⟩ := r'.wipe hf'
            rw [hw'] at rw1
            refine .inr ⟨go, fun H2 => ∃ E'' σ'' acc' ys, Rel c.K (ins Mo D) θ E'' σ'' H2 ∧ L2.wipe σ'' ws = L2.wipe σ ws ∧ Tr θ E1 H1 θ E'' H2 ∧ H2 D = some (.lst ys) ∧ Rs c.K H2 (MM (ins Mo D) θ E'') ys acc' ∧ lcL tg tt elt ws (ds.drop (i + 1)) acc' E'' = .ok acc0 E2,
              fun H2 hn => ⟨ds.length - (i + 1), by omega, rfl, hlt, hn⟩, fun x H'' y => ?_⟩
            obtain ⟨ex, d, ed, rx⟩ := yl x H'' y
            have ed' : d = ds[i] := by rw [List.getElem?_eq_getElem hlt] at ed; exact (Option.some.inj ed).symm
            subst ed'
            have mvw : Mv H'' (MM (ins Mo D) θ E') H'' (MM (ins Mo D) θ (wipeE E' ws)) := ⟨fun _ _ h _ => h, fun a h => .inl (h.elim .inl fun z => .inr ((ow1 a).mp z))⟩
            cases eg : tg ds[i] (wipeE E' ws) with
            | none => rw [eg] at el'; cases el'
            | some E3 =>
              rw [eg] at el'
              dsimp only at el'
              refine hg (ins Mo D) θ (wipeE E' ws) E3 (L2.wipe σ ws) H'' x ds[i] _ (rw1.ext ex) (rx.mv mvw) eg fun vs r3 t3 => ?_
              have hwv : L2.wipe (setAll (L2.wipe σ ws) is vs) ws = L2.wipe (L2.wipe σ ws) ws := wipe_setAll hs _ _
              have hww : L2.wipe (L2.wipe σ ws) ws = L2.wipe σ ws := by
                have h1 : ∀ (τ : L2.St) (l : List Nat) (j : Nat), (L2.wipe τ l)[j]? = if j ∈ l then (if j < τ.length then some none else none) else τ[j]? := fun τ l j => wipe_at
                refine List.ext_getElem? fun j => ?_
                rw [h1, h1, wipe_length]
                split <;> rfl
              refine ⟨hwv.trans hww, ins Mo D, θ, E3, r3, ?_⟩
              have tA : Tr θ E1 H1 θ E3 H'' := (t'.trans ((Tr.ext (θ := θ) (E := E') ex).trans (by
                have := tw1
                exact ⟨fun b o h _ => h, fun a h => .inl ((ow1 a).mp h), this.fx⟩ : Tr θ E' H'' θ (wipeE E' ws) H''))).trans t3
              have qA : Rs c.K H'' (MM (ins Mo D) θ E3) xs acc := ((q'.mv ex.mv).mv mvw).mv (t3.mv r3)
              have hDA : H'' D = some (.lst xs) := ex _ _ hD'
              cases et : tt E3 with
              | no => rw [et] at el'; cases el'
              | ex x E4 => rw [et] at el'; cases el'
              | ok b E4 =>
                rw [et] at el'
                intro b' H4 r4 t4 hb
                have hb' : b' = b := hb
                subst hb'
                have nD4 : ∀ {EE : En} {HH : Hp} {σ0 : L2.St}, Rel c.K (ins Mo D) θ EE σ0 HH → ¬ Own EE θ D := fun {EE HH σ0} r ⟨j, x, es, a1, a2, a3⟩ => (r.ow j x es a1 a2).2.1 (.inr a3.symm)
                have hD4 : H4 D = some (.lst xs) := t4.fr _ _ hDA (nD4 r3)
                have q4 := qA.mv (t4.mv r4)
                cases b' with
                | false =>
                  rw [if_neg Bool.false_ne_true]
                  exact ⟨E4, _, acc, xs, r4, hwv.trans hww, tA.trans t4, hD4, q4, el'⟩
                | true =>
                  rw [if_pos rfl]
                  dsimp only at el'
                  refine ⟨ins Mo D, θ, E4, r4, ?_⟩
                  cases ee : elt E4 with
                  | no => rw [ee] at el'; cases el'
                  | ex x E5 => rw [ee] at el'; cases el'
                  | ok z E5 =>
                    rw [ee] at el'
                    dsimp only at el'
                    intro v H5 r5 t5 qz
                    have hD5 : H5 D = some (.lst xs) := t5.fr _ _ hD4 (nD4 r4)
                    have q5 := q4.mv (t5.mv r5)
                    by_cases hz : acc.length < lim
                    · rw [if_pos hz] at el'
                      refine ⟨xs, hD5, by rw [q5.length, ← lim_eq]; exact hz, E5, _, acc ++ [z], xs ++ [v], r5.updMo, hwv.trans hww, ?_, upd_same, (Rs.updMo r5 q5).append (.cons (R.updMo r5 qz) .nil), el'⟩
                      have tB := (tA.trans t4).trans t5
                      exact ⟨fun b o h n => by rw [upd_ne (ne_of_none h hD)]; exact tB.fr b o h n, tB.ow, tB.fx⟩
                    · rw [if_neg hz] at el'; cases el'
          · rw [if_neg hf'] at el'; cases el'
        · have e' : i = ds.length := by omega
          subst e'
          refine .inl ⟨itd.stop H' _ mv1 r'.hg, ?_⟩
          rw [List.drop_length] at el'
          unfold lcL at el'
          by_cases hf' : freeS E' ws = true
          · rw [if_pos hf'] at el'
            cases el'
            obtain ⟨rw1, tw1, ow1⟩ := r'.wipe hf'
            rw [hw'] at rw1
            have mvw : Mv H' (MM (ins Mo D) θ E') H' (MM (ins Mo D) θ (wipeE E' ws)) := ⟨fun _ _ h _ => h, fun a h => .inl (h.elim .inl fun z => .inr ((ow1 a).mp z))⟩
            have hl : E1.length = (wipeE E' ws).length := by
              rw [← r1.len, ← rw1.len, wipe_length]
            obtain ⟨rr, oo'⟩ := rw1.restore (E0 := E1) hl hf (fun i hi d g => by
              obtain ⟨v, a, b⟩ := r1.im i d g
              exact ⟨v, a, (b.mv mv1).mv mvw⟩) (fun i hi => by rw [gs_wipe, if_pos hi])
            have mvr : Mv H' (MM (ins Mo D) θ E') H' (MM (ins Mo D) θ (rstE E1 (wipeE E' ws) ws)) := ⟨fun _ _ h _ => h, fun a h => .inl (h.elim .inl fun z => .inr ((ow1 a).mp ((oo' a).mp z)))⟩
            refine h0 D xs H' rr (t1.trans ⟨t'.fr, fun a h => t'.ow a ((ow1 a).mp ((oo' a).mp h)), fun j es h => ?_⟩) (Frs.back t1 (.inr hD)) (r1.notMo hD) hD' (q'.mv mvr)
            obtain ⟨_, es', h'⟩ := t'.fx j es h
            have hj : j ∉ ws := fun z => by
              have h1 := List.all_eq_true.mp hf j z
              rw [h] at h1
              exact Bool.false_ne_true h1
            exact ⟨rfl, es', by rw [gs_rst hl, if_neg hj, gs_wipe, if_neg hj]; exact h'⟩
          · rw [if_neg hf'] at el'; cases el'
    · rw [if_neg hf] at h0; exact h0.elim
end
end Dl

set_option Elab.async false
set_option linter.all false
set_option maxRecDepth 100000
set_option maxHeartbeats 2000000
namespace Dl
noncomputable section
open PySem PySem.Spec PyProof.Rows L2
/-! ### what a def is, on data -/
inductive Fo where
  | ok (r : Sl) (io : List (List D)) | ex (x : Xc) (io : List (List D)) | no
abbrev Fn := List Sl → Fo
def en (args : List Sl) : En := args.map some
def fillIo : List Sl → List (List D) → List Sl
  | .io _ :: r, x :: xs => .io x :: fillIo r xs
  | .io ds :: r, [] => .io ds :: fillIo r []
  | .im d :: r, xs => .im d :: fillIo r xs
  | .ow d :: r, xs => .ow d :: fillIo r xs
  | [], _ => []
theorem gs_en (l : List Sl) (j : Nat) : gs (en l) j = l[j]? := by
  induction l generalizing j with
  | nil => cases j <;> rfl
  | cons x r ih => cases j with
    | zero => rfl
    | succ j => exact ih j
def FoP (K : PySem.W.Frag) (mg : Str → Option Value) (Mo : Ms) (θ : Nat → Addr) (args : List Sl) (vs : List V) (H : Hp) (o : Fo) (Q : VK) (Ex : XK) : Prop :=
  match o with
  | .ok (.im d) io => ∀ v H', Rel K Mo θ (en (fillIo args io)) (vs.map some) H' → Tr θ (en args) H θ (en (fillIo args io)) H' → R K H' (MM Mo θ (en (fillIo args io))) v d → Q v H'
  | .ok (.ow ds) io => ∀ p xs H', Rel K (ins Mo p) θ (en (fillIo args io)) (vs.map some) H' → Tr θ (en args) H θ (en (fillIo args io)) H' → Frs θ (en args) H p → ¬ Mo p → H' p = some (.lst xs) → Rs K H' (MM (ins Mo p) θ (en (fillIo args io))) xs ds → Q (.ref p) H'
  | .ok (.io _) _ => False
  | .ex x io => ∀ cls dx H', XR K mg H' (MM Mo θ (en (fillIo args io))) x cls dx → Rel K Mo θ (en (fillIo args io)) (vs.map some) H' → Tr θ (en args) H θ (en (fillIo args io)) H' → Ex cls dx H'
  | .no => False
def noOw (l : List Sl) : Bool := l.all fun x => match x with
  | .ow _ => false
  | _ => true
/-- THE PROMISE of a def that is F on data -/
def spD (K : PySem.W.Frag) (mg : Str → Option Value) (np : Nat) (F : Fn) : Sp := fun vs H Q Ex => ∃ Mo θ args, args.length = np ∧ noOw args = true ∧ Rel K Mo θ (en args) (vs.map some) H ∧ FoP K mg Mo θ args vs H (F args) Q Ex
theorem spD_len {K : PySem.W.Frag} {mg : Str → Option Value} {np : Nat} {F : Fn} {vs : List V} {H : Hp} {Q : VK} {Ex : XK} (h : spD K mg np F vs H Q Ex) : vs.length = np := by
  obtain ⟨Mo, θ, args, h1, _, h2, _⟩ := h
  have := h2.len
  simp only [List.length_map, en] at this
  rw [this, h1]
/-! ### a body as such a function -/
def ioOf : List Sl → En → List (List D)
  | .io _ :: r, some (.io ds) :: E => ds :: ioOf r E
  | .io ds :: r, _ :: E => ds :: ioOf r E
  | .im _ :: r, _ :: E => ioOf r E
  | .ow _ :: r, _ :: E => ioOf r E
  | _, _ => []
def runF (np N : Nat) (body : Sf) : Fn := fun args => match body (en args ++ List.replicate (N - np) none) with
  | .nx E => .ok (.im .none) (ioOf args E)
  | .rt r E => .ok r (ioOf args E)
  | .ex x E => .ex x (ioOf args E)
  | _ => .no
theorem gs_app {l : List Sl} {n j : Nat} : gs (en l ++ List.replicate n none) j = l[j]? := by
  induction l generalizing j with
  | nil =>
    show gs (List.replicate n none) j = none
    induction n generalizing j with
    | zero => cases j <;> rfl
    | succ n ih => cases j with
      | zero => rfl
      | succ j => exact ih (j := j)
  | cons x r ih => cases j with
    | zero => rfl
    | succ j => exact ih (j := j)
/-- the handed lists at the end -/
inductive Fill : List Sl → En → List Sl → Prop
  | nil {E : En} : Fill [] E []
  | im {d : D} {l o : List Sl} {E : En} : Fill l E.tail o → Fill (.im d :: l) E (.im d :: o)
  | ow {d : List D} {l o : List Sl} {E : En} : Fill l E.tail o → Fill (.ow d :: l) E (.ow d :: o)
  | io {d d' : List D} {l o : List Sl} {E : En} : gs E 0 = some (.io d') → Fill l E.tail o → Fill (.io d :: l) E (.io d' :: o)
theorem gs_tail {E : En} {j : Nat} : gs E.tail j = gs E (j + 1) := by cases E <;> simp
theorem ioOf_nil : ∀ l : List Sl, ioOf l [] = []
  | [] => rfl
  | .im _ :: _ => rfl
  | .ow _ :: _ => rfl
  | .io _ :: _ => rfl
theorem fill_of : ∀ (l : List Sl) (E : En), (∀ i ds, l[i]? = some (.io ds) → ∃ ds', gs E i = some (.io ds')) → Fill l E (fillIo l (ioOf l E))
  | [], E, _ => .nil
  | .im d :: l, [], h => by
    have := fill_of l [] (fun i ds e => by have := h (i + 1) ds (by simpa using e); simpa using this)
    rw [ioOf_nil] at this ⊢
    exact .im this
  | .ow d :: l, [], h => by
    have := fill_of l [] (fun i ds e => by have := h (i + 1) ds (by simpa using e); simpa using this)
    rw [ioOf_nil] at this ⊢
    exact .ow this
  | .io d :: l, [], h => by obtain ⟨d', e⟩ := h 0 d rfl; rw [gs_nil] at e; cases e
  | .im d :: l, y :: E, h => .im (fill_of l E (fun i ds e => h (i + 1) ds (by simpa using e)))
  | .ow d :: l, y :: E, h => .ow (fill_of l E (fun i ds e => h (i + 1) ds (by simpa using e)))
  | .io d :: l, y :: E, h => by
    obtain ⟨d', h0⟩ := h 0 d rfl
    have h0' : y = some (.io d') := h0
    subst h0'
    exact .io rfl (fill_of l E (fun i ds e => h (i + 1) ds (by simpa using e)))
theorem Fill.im_at {l o : List Sl} {E : En} (f : Fill l E o) : ∀ {j : Nat} {d : D}, o[j]? = some (.im d) → l[j]? = some (.im d) := by
  induction f with
  | nil => intro j d h; simp at h
  | im _ ih => intro j d h; cases j with
    | zero => exact h
    | succ j => exact ih h
  | ow _ ih => intro j d h; cases j with
    | zero => exact h
    | succ j => exact ih h
  | io _ _ ih => intro j d h; cases j with
    | zero => cases h
    | succ j => exact ih h
theorem Fill.io_at {l o : List Sl} {E : En} (f : Fill l E o) : ∀ {j : Nat} {d : List D}, o[j]? = some (.io d) → gs E j = some (.io d) ∧ ∃ d0, l[j]? = some (.io d0) := by
  induction f with
  | nil => intro j d h; simp at h
  | im _ ih => intro j d h; cases j with
    | zero => cases h
    | succ j => rw [← gs_tail]; exact ih h
  | ow _ ih => intro j d h; cases j with
    | zero => cases h
    | succ j => rw [← gs_tail]; exact ih h
  | @io d d' l o E g _ ih => intro j e h; cases j with
    | zero => cases h; exact ⟨g, d, rfl⟩
    | succ j => rw [← gs_tail]; exact ih h
theorem Fill.ow_at {l o : List Sl} {E : En} (f : Fill l E o) : ∀ {j : Nat} {d : List D}, o[j]? = some (.ow d) → l[j]? = some (.ow d) := by
  induction f with
  | nil => intro j d h; simp at h
  | im _ ih => intro j d h; cases j with
    | zero => cases h
    | succ j => exact ih h
  | ow _ ih => intro j d h; cases j with
    | zero => exact h
    | succ j => exact ih h
  | io _ _ ih => intro j d h; cases j with
    | zero => cases h
    | succ j => exact ih h
theorem Fill.back {l o : List Sl} {E : En} (f : Fill l E o) : ∀ {j : Nat} {d : List D}, l[j]? = some (.io d) → ∃ d', o[j]? = some (.io d') := by
  induction f with
  | nil => intro j d h; simp at h
  | im _ ih => intro j d h; cases j with
    | zero => cases h
    | succ j => exact ih h
  | ow _ ih => intro j d h; cases j with
    | zero => cases h
    | succ j => exact ih h
  | @io d d' l o E _ _ ih => intro j e h; cases j with
    | zero => exact ⟨d', rfl⟩
    | succ j => exact ih h
theorem Fill.len {l o : List Sl} {E : En} (f : Fill l E o) : o.length = l.length := by
  induction f with
  | nil => rfl
  | im _ ih => simp [ih]
  | ow _ ih => simp [ih]
  | io _ _ ih => simp [ih]
theorem noOw_at {l : List Sl} (h : noOw l = true) {j : Nat} {d : List D} (e : l[j]? = some (.ow d)) : False := by
  unfold noOw at h
  exact Bool.false_ne_true (List.all_eq_true.mp h _ (List.mem_of_getElem? e))
section
variable {K : PySem.W.Frag} {Mo Mo' : Ms} {θ θ' : Nat → Addr} {args : List Sl} {n : Nat} {E' : En} {vs : List V} {σ' : L2.St} {H H' : Hp}
theorem own_en {l : List Sl} {θ : Nat → Addr} {a : Addr} (hn : noOw l = true) : Own (en l) θ a ↔ ∃ j ds, l[j]? = some (.io ds) ∧ a = θ j := by
  constructor
  · rintro ⟨j, x, ds, h1, h2, rfl⟩
    rw [gs_en] at h1
    cases x with
    | im d => cases h2
    | ow d => exact (noOw_at hn h1).elim
    | io d => exact ⟨j, d, h1, rfl⟩
  · rintro ⟨j, ds, h1, rfl⟩
    exact ⟨j, _, ds, by rw [gs_en]; exact h1, rfl, rfl⟩
theorem own_app {l : List Sl} {θ : Nat → Addr} {a : Addr} {n : Nat} : Own (en l ++ List.replicate n none) θ a ↔ Own (en l) θ a := by
  constructor <;> rintro ⟨j, x, ds, h1, h2, rfl⟩ <;> exact ⟨j, x, ds, by rw [gs_app] at * <;> rw [gs_en] at * <;> exact h1, h2, rfl⟩
/-- the state a def starts in -/
theorem start_rel (h : Rel K Mo θ (en args) (vs.map some) H) : Rel K Mo θ (en args ++ List.replicate n none) (vs.map some ++ List.replicate n none) H where
  im := fun i d g => by
    rw [gs_app] at g
    obtain ⟨v, a, b⟩ := h.im i d (by rw [gs_en]; exact g)
    have e : MM Mo θ (en args ++ List.replicate n none) = MM Mo θ (en args) := funext fun a => propext ⟨fun h => h.elim .inl fun z => .inr (own_app.mp z), fun h => h.elim .inl fun z => .inr (own_app.mpr z)⟩
    rw [e]
    exact ⟨v, by rw [List.getElem?_append_left (by rw [List.length_map]; exact (by simpa using (List.getElem?_eq_some_iff.mp a).1))]; exact a, b⟩
  ow := fun i x ds g l => by
    rw [gs_app] at g
    obtain ⟨a, b, xs, d, e'⟩ := h.ow i x ds (by rw [gs_en]; exact g) l
    have e : MM Mo θ (en args ++ List.replicate n none) = MM Mo θ (en args) := funext fun a => propext ⟨fun h => h.elim .inl fun z => .inr (own_app.mp z), fun h => h.elim .inl fun z => .inr (own_app.mpr z)⟩
    rw [e]
    exact ⟨by rw [List.getElem?_append_left (by rw [List.length_map]; exact (by simpa using (List.getElem?_eq_some_iff.mp a).1))]; exact a, b, xs, d, e'⟩
  inj := fun i j x y ds es g1 l1 g2 l2 e => by
    rw [gs_app] at g1 g2
    exact h.inj i j x y ds es (by rw [gs_en]; exact g1) l1 (by rw [gs_en]; exact g2) l2 e
  mo := h.mo
  len := by
    have := h.len
    simp only [List.length_append, List.length_map, List.length_replicate, en] at this ⊢
    rw [this]
theorem fin_rel {P : Ms} {outs : List Sl} (hn : noOw args = true) (h : Rel K Mo θ (en args) (vs.map some) H) (t : Tr θ (en args ++ List.replicate n none) H θ' E' H') (r : Rel K (fun a => Mo a ∨ P a) θ' E' σ' H')
    (hP : ∀ a, P a → MM Mo θ (en args) a ∨ H a = none) (ho : outs = fillIo args (ioOf args E')) :
    Rel K (fun a => Mo a ∨ P a) θ (en outs) (vs.map some) H' ∧ Tr θ (en args) H θ (en outs) H' ∧ ∀ a, Own (en outs) θ a → Own E' θ' a := by
  have fx : ∀ i ds, args[i]? = some (.io ds) → θ' i = θ i ∧ ∃ ds', gs E' i = some (.io ds') := fun i ds e => t.fx i ds (by rw [gs_app]; exact e)
  have F : Fill args E' outs := by rw [ho]; exact fill_of args E' (fun i ds e => (fx i ds e).2)
  have hno : noOw outs = true := by
    unfold noOw
    rw [List.all_eq_true]
    intro x hx
    obtain ⟨j, hj⟩ := List.getElem?_of_mem hx
    cases x with
    | ow d => exact (noOw_at hn (F.ow_at hj)).elim
    | im d => rfl
    | io d => rfl
  have own : ∀ a, Own (en outs) θ a → Own E' θ' a ∧ Own (en args) θ a := fun a z => by
    obtain ⟨j, ds, h1, rfl⟩ := (own_en hno).mp z
    obtain ⟨h2, d0, h3⟩ := F.io_at h1
    have e := (fx j d0 h3).1
    exact ⟨⟨j, _, ds, h2, rfl, e.symm⟩, (own_en hn).mpr ⟨j, d0, h3, rfl⟩⟩
  have mv : Mv H (MM Mo θ (en args)) H' (MM (fun a => Mo a ∨ P a) θ (en outs)) := ⟨fun b o hb nn => t.fr b o hb fun z => nn (.inr (own_app.mp z)), fun a z => by
    rcases z with (z | z) | z
    · exact .inl (.inl z)
    · exact hP a z
    · exact .inl (.inr (own a z).2)⟩
  have mv2 : Mv H' (MM (fun a => Mo a ∨ P a) θ' E') H' (MM (fun a => Mo a ∨ P a) θ (en outs)) := ⟨fun _ _ h _ => h, fun a z => .inl (z.elim .inl fun z => .inr (own a z).1)⟩
  refine ⟨⟨fun j d g => ?_, fun j x ds g l => ?_, fun i j x y ds es g1 l1 g2 l2 e => ?_, r.mo, ?_⟩, ⟨fun b o hb nn => t.fr b o hb fun z => nn (own_app.mp z), fun a z => .inl (own a z).2, fun j ds g => ⟨rfl, ?_⟩⟩, fun a z => (own a z).1⟩
  · rw [gs_en] at g
    obtain ⟨v, a, b⟩ := h.im j d (by rw [gs_en]; exact F.im_at g)
    exact ⟨v, a, b.mv mv⟩
  · rw [gs_en] at g
    cases x with
    | im d => cases l
    | ow d => exact (noOw_at hno g).elim
    | io d =>
      cases l
      obtain ⟨g2, d0, g3⟩ := F.io_at g
      obtain ⟨a1, a2, _⟩ := h.ow j _ d0 (by rw [gs_en]; exact g3) rfl
      obtain ⟨b1, b2, xs, b3, b4⟩ := r.ow j _ _ g2 rfl
      have e := (fx j d0 g3).1
      rw [e] at b2 b3
      exact ⟨a1, b2, xs, b3, b4.mv mv2⟩
  · have back : ∀ j x ds, gs (en outs) j = some x → x.ls = some ds → ∃ d0, gs (en args) j = some (.io d0) := fun j x ds g l => by
      rw [gs_en] at g
      cases x with
      | im d => cases l
      | ow d => exact (noOw_at hno g).elim
      | io d => obtain ⟨_, d0, g3⟩ := F.io_at g; exact ⟨d0, by rw [gs_en]; exact g3⟩
    obtain ⟨d1, c1⟩ := back i x ds g1 l1
    obtain ⟨d2, c2⟩ := back j y es g2 l2
    exact h.inj i j _ _ _ _ c1 rfl c2 rfl e
  · have := h.len
    simp only [List.length_map, en] at this ⊢
    rw [this, F.len]
  · rw [gs_en] at g
    obtain ⟨d', e⟩ := F.back g
    exact ⟨d', by rw [gs_en]; exact e⟩
end
/-- THE RULE: a def whose body is the function f -/
theorem fn_D {P : Program} {w : World} {K : PySem.W.Frag} {mg : Str → Option Value} {base : Heap} {x qual : Str} {st : Stmt} {f : Addr} {fd : FuncData} {N ps : List Str} {k np : Nat} {body : Sf} (F : Fun K x qual st f fd) (S : FnScope N ps (defScope st)) (hnp : ps.length = np)
    (hb : ∀ (cdv : Value) (A : Around) (outer : List Env) (s : Shared) (H : Hp) (E : XK), Room k (A.deeper (envOfC qual (defScope st) s.heap.objs.size f cdv)) →
      PSs (cxOf (L2.CX P w) P w K mg base N qual (defScope st) f cdv A outer s H E) (defBody st) (tS ⟨K, mg, fun cls d _ H' => E cls d H'⟩ body)) :
    FnOk P w K mg base (L2.CX P w) (k + 1) f fd ps (spD K mg np (runF np N.length body)) := by
  refine F.okX S (fun vs H Q E h => by rw [spD_len h, hnp]) (fun cdv A outer s H vs Q E hr h => ⟨_, hb cdv A outer s H E hr, ?_⟩)
  have hvl := spD_len h
  obtain ⟨Mo, θ, args, h1, h2, h3, h4⟩ := h
  have hst : L2.start N vs = vs.map some ++ List.replicate (N.length - np) none := by unfold L2.start; rw [hvl]
  rw [hst]
  refine ⟨Mo, θ, en args ++ List.replicate (N.length - np) none, start_rel h3, ?_⟩
  have h4' : FoP K mg Mo θ args vs H (match body (en args ++ List.replicate (N.length - np) none) with
    | .nx E => Fo.ok (.im .none) (ioOf args E)
    | .rt r E => Fo.ok r (ioOf args E)
    | .ex x E => Fo.ex x (ioOf args E)
    | _ => Fo.no) Q E := h4
  have PF : (fun a => Mo a ∨ (fun _ : Addr => False) a) = Mo := funext fun a => propext ⟨fun h => h.elim id False.elim, .inl⟩
  have PI : ∀ p, (fun a => Mo a ∨ (fun a : Addr => a = p) a) = ins Mo p := fun p => rfl
  have plain : ∀ {θ' : Nat → Addr} {E' : En} {σ' : L2.St} {H' : Hp}, Rel K Mo θ' E' σ' H' → Tr θ (en args ++ List.replicate (N.length - np) none) H θ' E' H' →
      Rel K Mo θ (en (fillIo args (ioOf args E'))) (vs.map some) H' ∧ Tr θ (en args) H θ (en (fillIo args (ioOf args E'))) H' ∧ ∀ a, MM Mo θ (en (fillIo args (ioOf args E'))) a → MM Mo θ' E' a := fun {θ' E' σ' H'} r t => by
    rw [← PF] at r
    obtain ⟨a, b, d⟩ := fin_rel (P := fun _ => False) h2 h3 t r (fun a z => z.elim) rfl
    rw [PF] at a
    exact ⟨a, b, fun z h => h.elim .inl fun z' => .inr (d z z')⟩
  show CoS ⟨K, mg, fun cls d _ H' => E cls d H'⟩ Mo θ (en args ++ List.replicate (N.length - np) none) H (body (en args ++ List.replicate (N.length - np) none)) { nx := fun _ H' => Q .non H', rt := Q }
  cases e : body (en args ++ List.replicate (N.length - np) none) with
  | no => rw [e] at h4'; exact h4'
  | bk E' => rw [e] at h4'; exact h4'.elim
  | ct E' => rw [e] at h4'; exact h4'.elim
  | nx E' =>
    rw [e] at h4'
    intro θ' σ' H' r t
    obtain ⟨a, b, d⟩ := plain r t
    exact h4' .non H' a b .non
  | ex x E' =>
    rw [e] at h4'
    intro θ' σ' cls dx H' xr r t
    obtain ⟨a, b, d⟩ := plain r t
    exact h4' cls dx H' (xr.mv ⟨fun _ _ h _ => h, fun z h => .inl (d z h)⟩ fun _ _ h => h) a b
  | rt r0 E' =>
    rw [e] at h4'
    cases r0 with
    | io ds => exact h4'.elim
    | im d0 =>
      intro θ' σ' v H' r t q
      obtain ⟨a, b, d⟩ := plain r t
      exact h4' v H' a b (q.mv ⟨fun _ _ h _ => h, fun z h => .inl (d z h)⟩)
    | ow ds =>
      intro θ' σ' p xs H' r t fr np' hp q
      have hPp : ∀ a, (fun a : Addr => a = p) a → MM Mo θ (en args) a ∨ H a = none := fun a z => by
        have z' : a = p := z
        subst z'
        exact fr.imp (fun z => .inr (own_app.mp z)) id
      obtain ⟨a, b, d⟩ := fin_rel (P := fun a => a = p) h2 h3 t r hPp rfl
      exact h4' p xs H' a b (fr.imp (fun z => own_app.mp z) id) np' hp (q.mv ⟨fun _ _ h _ => h, fun z h => .inl (h.elim .inl fun z' => .inr (d z z'))⟩)
end
end Dl

set_option Elab.async false
set_option linter.all false
set_option maxRecDepth 100000
set_option maxHeartbeats 2000000
namespace Dl
noncomputable section
open PySem PySem.Spec PyProof.Rows L2
/-! ### a call -/
inductive Ar where
  | io (i : Nat) | e (f : Xf)
def arRun : List Ar → En → Ou (List (Option D))
  | [], E => .ok [] E
  | .io i :: r, E => match getL E i with
    | some _ => (arRun r E).bind fun os E1 => .ok (none :: os) E1
    | none => .no
  | .e f :: r, E => (f E).bind fun d E1 => (arRun r E1).bind fun os E2 => .ok (some d :: os) E2
def arFin : List Ar → List (Option D) → En → Option (List Sl)
  | [], _, _ => some []
  | .io i :: r, _ :: os, E => match getL E i with
    | some ds => (arFin r os E).map (Sl.io ds :: ·)
    | none => none
  | .e _ :: r, some d :: os, E => (arFin r os E).map (Sl.im d :: ·)
  | _, _, _ => none
def putA : List Ar → List Sl → En → En
  | .io i :: r, .io ds :: o, E => putA r o (setL E i ds)
  | .e _ :: r, _ :: o, E => putA r o E
  | _, _, E => E
def xCall (F : Fn) (as : List Ar) : Xs := fun E => (arRun as E).bind fun os E1 => match arFin as os E1 with
  | some sl => match F sl with
    | .ok r io => .ok r (putA as (fillIo sl io) E1)
    | .ex x io => .ex x (putA as (fillIo sl io) E1)
    | .no => .no
  | none => .no
def ioIx : List Ar → List Nat
  | [] => []
  | .io i :: r => i :: ioIx r
  | .e _ :: r => ioIx r
def tArs (c : Ct) : List Ar → TA
  | [] => tNil
  | .io i :: r => tCons (tVar i) (tArs c r)
  | .e f :: r => tCons (tX c f) (tArs c r)
/-- values of arguments, while they are reckoned -/
inductive ArR (K : PySem.W.Frag) (σ : L2.St) (H : Hp) (M : Ms) : List Ar → List V → List (Option D) → Prop
  | nil : ArR K σ H M [] [] []
  | io {i : Nat} {v : V} {as : List Ar} {vs : List V} {os : List (Option D)} : σ[i]? = some (some v) → ArR K σ H M as vs os → ArR K σ H M (.io i :: as) (v :: vs) (none :: os)
  | e {f : Xf} {d : D} {v : V} {as : List Ar} {vs : List V} {os : List (Option D)} : R K H M v d → ArR K σ H M as vs os → ArR K σ H M (.e f :: as) (v :: vs) (some d :: os)
theorem ArR.mv {K : PySem.W.Frag} {σ : L2.St} {H H' : Hp} {M M' : Ms} {as : List Ar} {vs : List V} {os : List (Option D)} (m : Mv H M H' M') (h : ArR K σ H M as vs os) : ArR K σ H' M' as vs os := by
  induction h with
  | nil => exact .nil
  | io a _ ih => exact .io a ih
  | e a _ ih => exact .e (a.mv m) ih
theorem tArs_of {c : Ct} : ∀ (as : List Ar) {Mo : Ms} {θ : Nat → Addr} {E : En} {σ : L2.St} {H : Hp} {Q : List V → Hp → Prop}, Rel c.K Mo θ E σ H → Co (fun H M vs os => ArR c.K σ H M as vs os) c Mo θ E H (arRun as E) σ Q → tArs c as σ H Q
  | [], Mo, θ, E, σ, H, Q, r, h => h [] H r Tr.refl .nil
  | .io i :: as, Mo, θ, E, σ, H, Q, r, h => by
    have h' : Co (fun H M vs os => ArR c.K σ H M (.io i :: as) vs os) c Mo θ E H (match getL E i with
      | some _ => (arRun as E).bind fun os E1 => Ou.ok (none :: os) E1
      | none => Ou.no) σ Q := h
    cases g : getL E i with
    | none => rw [g] at h'; exact h'.elim
    | some ds =>
      rw [g] at h'
      have hs := (getL_own r g).1
      refine ⟨_, hs, tArs_of as r (Co.mono (Co.bind (rl := fun H M vs os => ArR c.K σ H M as vs os) h') ?_)⟩
      rintro vs H1 ⟨os, E1, e1, r1, t1, q1, h1⟩
      exact h1 _ H1 r1 Tr.refl (.io hs q1)
  | .e f :: as, Mo, θ, E, σ, H, Q, r, h => by
    have h' : Co (fun H M vs os => ArR c.K σ H M (.e f :: as) vs os) c Mo θ E H ((f E).bind fun d E1 => (arRun as E1).bind fun os E2 => Ou.ok (some d :: os) E2) σ Q := h
    refine ⟨Mo, θ, E, r, Co.mono (Co.bind (rl := R c.K) h') ?_⟩
    rintro v H1 ⟨d, E1, e1, r1, t1, q1, h1⟩
    refine tArs_of as r1 (Co.mono (Co.bind (rl := fun H M vs os => ArR c.K σ H M as vs os) h1) ?_)
    rintro vs H2 ⟨os, E2, e2, r2, t2, q2, h2⟩
    exact h2 _ H2 r2 Tr.refl (.e (q1.mv (t2.mv r2)) q2)
/-- the arguments as the def gets them -/
inductive ArS (K : PySem.W.Frag) (θ : Nat → Addr) (E : En) (H : Hp) (M : Ms) : List Ar → List V → List Sl → Prop
  | nil : ArS K θ E H M [] [] []
  | io {i : Nat} {ds : List D} {as : List Ar} {vs : List V} {sl : List Sl} : getL E i = some ds → ArS K θ E H M as vs sl → ArS K θ E H M (.io i :: as) (.ref (θ i) :: vs) (.io ds :: sl)
  | e {f : Xf} {d : D} {v : V} {as : List Ar} {vs : List V} {sl : List Sl} : R K H M v d → ArS K θ E H M as vs sl → ArS K θ E H M (.e f :: as) (v :: vs) (.im d :: sl)
theorem ArR.fin {K : PySem.W.Frag} {Mo : Ms} {θ : Nat → Addr} {E : En} {σ : L2.St} {H : Hp} (r : Rel K Mo θ E σ H) {as : List Ar} {vs : List V} {os : List (Option D)} (h : ArR K σ H (MM Mo θ E) as vs os) : ∀ {sl : List Sl}, arFin as os E = some sl → ArS K θ E H (MM Mo θ E) as vs sl := by
  induction h with
  | nil => intro sl e; cases e; exact .nil
  | @io i v as vs os a _ ih =>
    intro sl e
    have e' : (match getL E i with
      | some ds => (arFin as os E).map (Sl.io ds :: ·)
      | none => none) = some sl := e
    cases g : getL E i with
    | none => rw [g] at e'; cases e'
    | some ds =>
      rw [g] at e'
      cases g2 : arFin as os E with
      | none => rw [g2] at e'; cases e'
      | some l =>
        rw [g2] at e'; cases e'
        have hs := (getL_own r g).1
        rw [hs] at a; cases a
        exact .io g (ih g2)
  | @e f d v as vs os a _ ih =>
    intro sl e
    have e' : (arFin as os E).map (Sl.im d :: ·) = some sl := e
    cases g2 : arFin as os E with
    | none => rw [g2] at e'; cases e'
    | some l =>
      rw [g2] at e'; cases e'
      exact .e a (ih g2)
section
variable {K : PySem.W.Frag} {Mo : Ms} {θ : Nat → Addr} {E : En} {σ : L2.St} {H H' : Hp} {M : Ms} {as : List Ar} {vs : List V} {sl : List Sl}
theorem ArS.noOw (h : ArS K θ E H M as vs sl) : noOw sl = true := by
  induction h with
  | nil => rfl
  | io _ _ ih => exact ih
  | e _ _ ih => exact ih
theorem ArS.len (h : ArS K θ E H M as vs sl) : sl.length = as.length ∧ vs.length = as.length := by
  induction h with
  | nil => exact ⟨rfl, rfl⟩
  | io _ _ ih => exact ⟨by simp [ih.1], by simp [ih.2]⟩
  | e _ _ ih => exact ⟨by simp [ih.1], by simp [ih.2]⟩
/-- at a place: a list handed on -/
theorem ArS.io_at (h : ArS K θ E H M as vs sl) : ∀ {j : Nat} {ds : List D}, sl[j]? = some (.io ds) → ∃ i, as[j]? = some (.io i) ∧ i ∈ ioIx as ∧ getL E i = some ds ∧ vs[j]? = some (.ref (θ i)) := by
  induction h with
  | nil => intro j ds e; simp at e
  | @io i ds as vs sl g _ ih =>
    intro j es e
    cases j with
    | zero => cases e; exact ⟨i, rfl, List.mem_cons_self, g, rfl⟩
    | succ j => obtain ⟨i', a, b, c, d⟩ := ih e; exact ⟨i', a, List.mem_cons_of_mem _ b, c, d⟩
  | e a _ ih =>
    intro j es e
    cases j with
    | zero => cases e
    | succ j => obtain ⟨i', a, b, c, d⟩ := ih e; exact ⟨i', a, b, c, d⟩
theorem ArS.im_at (h : ArS K θ E H M as vs sl) : ∀ {j : Nat} {d : D}, sl[j]? = some (.im d) → ∃ v, vs[j]? = some v ∧ R K H M v d := by
  induction h with
  | nil => intro j ds e; simp at e
  | io g _ ih =>
    intro j es e
    cases j with
    | zero => cases e
    | succ j => exact ih e
  | @e f d v as vs sl a _ ih =>
    intro j es e
    cases j with
    | zero => cases e; exact ⟨v, rfl, a⟩
    | succ j => exact ih e
theorem ArS.mem (h : ArS K θ E H M as vs sl) {i : Nat} (hi : i ∈ ioIx as) : ∃ (j : Nat) (ds : List D), as[j]? = some (Ar.io i) ∧ sl[j]? = some (Sl.io ds) ∧ getL E i = some ds := by
  induction h with
  | nil => cases hi
  | @io i' ds as vs sl g _ ih =>
    rcases List.mem_cons.mp hi with e | hi
    · subst e; exact ⟨0, ds, rfl, rfl, g⟩
    · obtain ⟨j, es, a, b, c⟩ := ih hi; exact ⟨j + 1, es, a, b, c⟩
  | e a _ ih => obtain ⟨j, es, a, b, c⟩ := ih hi; exact ⟨j + 1, es, a, b, c⟩
end
theorem mem_ix : ∀ {as : List Ar} {j i : Nat}, as[j]? = some (Ar.io i) → i ∈ ioIx as
  | [], j, i, h => by simp at h
  | .io i' :: as, 0, i, h => by cases h; exact List.mem_cons_self
  | .e f :: as, 0, i, h => by cases h
  | .io i' :: as, j + 1, i, h => List.mem_cons_of_mem _ (mem_ix (as := as) (j := j) (by simpa using h))
  | .e f :: as, j + 1, i, h => mem_ix (as := as) (j := j) (by simpa using h)
theorem ioIx_inj : ∀ {as : List Ar}, (ioIx as).Nodup → ∀ {j k i : Nat}, as[j]? = some (Ar.io i) → as[k]? = some (Ar.io i) → j = k
  | [], _, j, k, i, h, _ => by simp at h
  | .io i' :: as, nd, 0, 0, i, h1, h2 => rfl
  | .io i' :: as, nd, 0, k + 1, i, h1, h2 => by cases h1; exact absurd (mem_ix (as := as) (j := k) (by simpa using h2)) (List.nodup_cons.mp nd).1
  | .io i' :: as, nd, j + 1, 0, i, h1, h2 => by cases h2; exact absurd (mem_ix (as := as) (j := j) (by simpa using h1)) (List.nodup_cons.mp nd).1
  | .io i' :: as, nd, j + 1, k + 1, i, h1, h2 => by rw [ioIx_inj (as := as) (List.nodup_cons.mp nd).2 (j := j) (k := k) (by simpa using h1) (by simpa using h2)]
  | .e f :: as, nd, 0, k, i, h1, h2 => by cases h1
  | .e f :: as, nd, j + 1, 0, i, h1, h2 => by cases h2
  | .e f :: as, nd, j + 1, k + 1, i, h1, h2 => by rw [ioIx_inj (as := as) nd (j := j) (k := k) (by simpa using h1) (by simpa using h2)]
/-! ### behind the call -/
def Sl.wth : Sl → List D → Sl
  | .im d, _ => .im d
  | .ow _, ds => .ow ds
  | .io _, ds => .io ds
theorem Sl.wth_ls {x : Sl} {ds es : List D} (h : x.ls = some ds) : (x.wth es).ls = some es := by
  cases x with
  | im d => cases h
  | ow d => rfl
  | io d => rfl
theorem gs_setL {E : En} {i j : Nat} {ds : List D} : gs (setL E i ds) j = if j = i then (gs E i).map (Sl.wth · ds) else gs E j := by
  unfold setL
  by_cases h : j = i
  · subst h
    rw [if_pos rfl]
    cases g : gs E j with
    | none => exact g
    | some x => cases x with
      | im d => exact g
      | ow d => exact gs_ss_same (gs_lt g)
      | io d => exact gs_ss_same (gs_lt g)
  · rw [if_neg h]
    cases g : gs E i with
    | none => rfl
    | some x => cases x with
      | im d => rfl
      | ow d => exact gs_ss_ne h
      | io d => exact gs_ss_ne h
theorem setL_len {E : En} {i : Nat} {ds : List D} : (setL E i ds).length = E.length := by
  unfold setL
  split
  · exact ss_len _ _ _
  · exact ss_len _ _ _
  · rfl
/-- what comes back lies as the arguments do -/
inductive ArO : List Ar → List Sl → Prop
  | nil : ArO [] []
  | io {i : Nat} {ds : List D} {as : List Ar} {o : List Sl} : ArO as o → ArO (.io i :: as) (.io ds :: o)
  | e {f : Xf} {d : D} {as : List Ar} {o : List Sl} : ArO as o → ArO (.e f :: as) (.im d :: o)
theorem ArS.out {K : PySem.W.Frag} {θ : Nat → Addr} {E : En} {H : Hp} {M : Ms} {as : List Ar} {vs : List V} {sl : List Sl} (h : ArS K θ E H M as vs sl) : ∀ io : List (List D), ArO as (fillIo sl io) := by
  induction h with
  | nil => intro io; exact .nil
  | io g _ ih =>
    intro io
    cases io with
    | nil => exact .io (ih [])
    | cons x xs => exact .io (ih xs)
  | e a _ ih => intro io; exact .e (ih io)
theorem putA_len {as : List Ar} {o : List Sl} (h : ArO as o) : ∀ E : En, (putA as o E).length = E.length := by
  induction h with
  | nil => intro E; rfl
  | @io i ds as o _ ih => intro E; show (putA as o (setL E i ds)).length = _; rw [ih, setL_len]
  | e _ ih => intro E; exact ih E
theorem putA_out {as : List Ar} {o : List Sl} (h : ArO as o) : ∀ {E : En} {j : Nat}, j ∉ ioIx as → gs (putA as o E) j = gs E j := by
  induction h with
  | nil => intro E j _; rfl
  | @io i ds as o _ ih =>
    intro E j hj
    show gs (putA as o (setL E i ds)) j = _
    rw [ih (fun z => hj (List.mem_cons_of_mem _ z)), gs_setL, if_neg (fun e => hj (by rw [e]; exact List.mem_cons_self))]
  | e _ ih => intro E j hj; exact ih hj
theorem putA_at {as : List Ar} {o : List Sl} (h : ArO as o) : ∀ {E : En} {j i : Nat}, (ioIx as).Nodup → as[j]? = some (Ar.io i) → ∃ ds, o[j]? = some (Sl.io ds) ∧ gs (putA as o E) i = (gs E i).map (Sl.wth · ds) := by
  induction h with
  | nil => intro E j i _ e; simp at e
  | @io i' ds as o s ih =>
    intro E j i nd e
    have nd' := List.nodup_cons.mp nd
    cases j with
    | zero =>
      cases e
      refine ⟨ds, rfl, ?_⟩
      show gs (putA as o (setL E i' ds)) i' = _
      rw [putA_out s nd'.1, gs_setL, if_pos rfl]
    | succ j =>
      have e' : as[j]? = some (Ar.io i) := by simpa using e
      obtain ⟨es, a, b⟩ := ih (E := setL E i' ds) nd'.2 e'
      refine ⟨es, a, ?_⟩
      show gs (putA as o (setL E i' ds)) i = _
      rw [b, gs_setL, if_neg (fun z => nd'.1 (by rw [← z]; exact mem_ix e'))]
  | @e f d as o s ih =>
    intro E j i nd e
    cases j with
    | zero => cases e
    | succ j => exact ih nd (by simpa using e)
theorem ArO.noOw {as : List Ar} {o : List Sl} (h : ArO as o) : noOw o = true := by
  induction h with
  | nil => rfl
  | io _ ih => exact ih
  | e _ ih => exact ih
theorem ArO.io_at {as : List Ar} {o : List Sl} (h : ArO as o) : ∀ {j : Nat} {ds : List D}, o[j]? = some (Sl.io ds) → ∃ i, as[j]? = some (Ar.io i) := by
  induction h with
  | nil => intro j ds e; simp at e
  | @io i ds as o _ ih => intro j es e; cases j with
    | zero => exact ⟨i, rfl⟩
    | succ j => exact ih (by simpa using e)
  | e _ ih => intro j es e; cases j with
    | zero => cases e
    | succ j => exact ih (by simpa using e)
def thc (as : List Ar) (θ : Nat → Addr) : Nat → Addr := fun j => match as[j]? with
  | some (.io i) => θ i
  | _ => 0
theorem thc_io {as : List Ar} {θ : Nat → Addr} {j i : Nat} (h : as[j]? = some (Ar.io i)) : thc as θ j = θ i := by unfold thc; rw [h]
section
variable {K : PySem.W.Frag} {Mo : Ms} {θ : Nat → Addr} {E : En} {σ : L2.St} {H H' : Hp} {as : List Ar} {vs : List V} {sl : List Sl}
def mc (Mo : Ms) (θ : Nat → Addr) (E : En) (as : List Ar) : Ms := fun a => MM Mo θ E a ∧ ¬ ∃ i, i ∈ ioIx as ∧ a = θ i
theorem own_of {i : Nat} {ds : List D} (g : getL E i = some ds) : Own E θ (θ i) := by
  unfold getL at g
  cases e : gs E i with
  | none => rw [e] at g; cases g
  | some x => rw [e] at g; exact ⟨i, x, ds, e, g, rfl⟩
/-- the addresses that the def may write -/
theorem own_sl {o : List Sl} (h : ArS K θ E H (MM Mo θ E) as vs sl) (ho : ArO as o) (nd : (ioIx as).Nodup) {a : Addr} : Own (en o) (thc as θ) a ↔ ∃ i, i ∈ ioIx as ∧ a = θ i := by
  rw [own_en ho.noOw]
  constructor
  · rintro ⟨j, ds, h1, rfl⟩
    obtain ⟨i, hi⟩ := ho.io_at h1
    exact ⟨i, mem_ix hi, thc_io hi⟩
  · rintro ⟨i, hi, rfl⟩
    obtain ⟨j, ds, h1, _, _⟩ := h.mem hi
    obtain ⟨es, h2, _⟩ := putA_at ho (E := E) nd h1
    exact ⟨j, es, h2, (thc_io h1).symm⟩
theorem mm_sl {o : List Sl} {P : Ms} (h : ArS K θ E H (MM Mo θ E) as vs sl) (ho : ArO as o) (nd : (ioIx as).Nodup) : ∀ a, MM (fun a => mc Mo θ E as a ∨ P a) (thc as θ) (en o) a ↔ MM (fun a => Mo a ∨ P a) θ E a := fun a => by
  constructor
  · rintro ((h1 | h1) | h1)
    · exact h1.1.elim (fun z => .inl (.inl z)) .inr
    · exact .inl (.inr h1)
    · obtain ⟨i, hi, rfl⟩ := (own_sl h ho nd).mp h1
      obtain ⟨j, ds, _, _, g⟩ := h.mem hi
      exact .inr (own_of g)
  · intro h1
    by_cases hi : ∃ i, i ∈ ioIx as ∧ a = θ i
    · exact .inr ((own_sl h ho nd).mpr hi)
    · rcases h1 with (h1 | h1) | h1
      · exact .inl (.inl ⟨.inl h1, hi⟩)
      · exact .inl (.inr h1)
      · exact .inl (.inl ⟨.inr h1, hi⟩)
theorem call_rel (r : Rel K Mo θ E σ H) (h : ArS K θ E H (MM Mo θ E) as vs sl) (nd : (ioIx as).Nodup) : Rel K (mc Mo θ E as) (thc as θ) (en sl) (vs.map some) H := by
  have hsl : ArO as sl := by
    have := h.out []
    have e : fillIo sl [] = sl := by
      clear this nd r
      induction h with
      | nil => rfl
      | @io i ds as vs sl g _ ih => show Sl.io ds :: fillIo sl [] = _; rw [ih]
      | @e f d v as vs sl a _ ih => show Sl.im d :: fillIo sl [] = _; rw [ih]
    rw [e] at this
    exact this
  have hM : MM (mc Mo θ E as) (thc as θ) (en sl) = MM Mo θ E := by
    have h1 := mm_sl (P := fun _ => False) h hsl nd
    funext a
    have h2 := h1 a
    have e1 : (fun a => mc Mo θ E as a ∨ (fun _ : Addr => False) a) = mc Mo θ E as := funext fun a => propext ⟨fun h => h.elim id False.elim, .inl⟩
    have e2 : (fun a => Mo a ∨ (fun _ : Addr => False) a) = Mo := funext fun a => propext ⟨fun h => h.elim id False.elim, .inl⟩
    rw [e1, e2] at h2
    exact propext h2
  refine ⟨fun j d g => ?_, fun j x ds g l => ?_, fun j k x y ds es g1 l1 g2 l2 e => ?_, fun a ha => r.mm ha.1, by simp [en, h.len.1, h.len.2]⟩
  · rw [gs_en] at g
    obtain ⟨v, a, b⟩ := h.im_at g
    rw [hM]
    exact ⟨v, by rw [List.getElem?_map, a]; rfl, b⟩
  · rw [gs_en] at g
    cases x with
    | im d => cases l
    | ow d => exact (noOw_at h.noOw g).elim
    | io d =>
      cases l
      obtain ⟨i, h1, h2, h3, h4⟩ := h.io_at g
      obtain ⟨_, xs, h5, h6⟩ := getL_own r h3
      rw [thc_io h1, hM]
      exact ⟨by rw [List.getElem?_map, h4]; rfl, fun z => z.2 ⟨i, h2, rfl⟩, xs, h5, h6⟩
  · rw [gs_en] at g1 g2
    cases x with
    | im d => cases l1
    | ow d => exact (noOw_at h.noOw g1).elim
    | io d =>
      cases y with
      | im d => cases l2
      | ow d => exact (noOw_at h.noOw g2).elim
      | io d' =>
        obtain ⟨i, h1, _, h3, _⟩ := h.io_at g1
        obtain ⟨i', h1', _, h3', _⟩ := h.io_at g2
        rw [thc_io h1, thc_io h1'] at e
        have own : ∀ {i : Nat} {ds : List D}, getL E i = some ds → ∃ x, gs E i = some x ∧ x.ls = some ds := fun {i ds} g => by
          unfold getL at g
          cases e : gs E i with
          | none => rw [e] at g; cases g
          | some x => rw [e] at g; exact ⟨x, rfl, g⟩
        obtain ⟨x1, a1, a2⟩ := own h3
        obtain ⟨x2, b1, b2⟩ := own h3'
        have : i = i' := r.inj i i' x1 x2 d d' a1 a2 b1 b2 e
        subst this
        exact ioIx_inj nd h1 h1'
/-- the caller's state behind the call -/
theorem back_rel {P : Ms} {o : List Sl} (r : Rel K Mo θ E σ H) (h : ArS K θ E H (MM Mo θ E) as vs sl) (nd : (ioIx as).Nodup) (ho : ArO as o) (hsl : ArO as sl)
    (r' : Rel K (fun a => mc Mo θ E as a ∨ P a) (thc as θ) (en o) (vs.map some) H') (t : Tr (thc as θ) (en sl) H (thc as θ) (en o) H') (hP : ∀ a, P a → (∃ i, i ∈ ioIx as ∧ a = θ i) ∨ H a = none) :
    Rel K (fun a => Mo a ∨ P a) θ (putA as o E) σ H' ∧ Tr θ E H θ (putA as o E) H' ∧ ∀ a, MM (fun a => Mo a ∨ P a) θ (putA as o E) a ↔ MM (fun a => mc Mo θ E as a ∨ P a) (thc as θ) (en o) a := by
  have kind : ∀ j x ds, gs (putA as o E) j = some x → x.ls = some ds → ∃ x0 ds0, gs E j = some x0 ∧ x0.ls = some ds0 := fun j x ds g l => by
    by_cases hj : j ∈ ioIx as
    · obtain ⟨k, ds1, h1, h2, h3⟩ := h.mem hj
      unfold getL at h3
      cases e : gs E j with
      | none => rw [e] at h3; cases h3
      | some x0 => rw [e] at h3; exact ⟨x0, ds1, rfl, h3⟩
    · rw [putA_out ho hj] at g; exact ⟨x, ds, g, l⟩
  have own : ∀ a, Own (putA as o E) θ a ↔ Own E θ a := fun a => by
    constructor
    · rintro ⟨j, x, ds, g, l, rfl⟩
      obtain ⟨x0, ds0, a1, a2⟩ := kind j x ds g l
      exact ⟨j, x0, ds0, a1, a2, rfl⟩
    · rintro ⟨j, x, ds, g, l, rfl⟩
      by_cases hj : j ∈ ioIx as
      · obtain ⟨k, ds1, h1, h2, h3⟩ := h.mem hj
        obtain ⟨es, e1, e2⟩ := putA_at ho (E := E) nd h1
        rw [g] at e2
        exact ⟨j, _, es, e2, Sl.wth_ls l, rfl⟩
      · exact ⟨j, x, ds, by rw [putA_out ho hj]; exact g, l, rfl⟩
  have hM : ∀ a, MM (fun a => Mo a ∨ P a) θ (putA as o E) a ↔ MM (fun a => mc Mo θ E as a ∨ P a) (thc as θ) (en o) a := fun a => by
    rw [mm_sl h ho nd]
    exact ⟨fun z => z.elim .inl fun z => .inr ((own a).mp z), fun z => z.elim .inl fun z => .inr ((own a).mpr z)⟩
  have ownsl : ∀ {b : Addr}, Own (en sl) (thc as θ) b → Own E θ b := fun {b} z => by
    obtain ⟨i, hi, rfl⟩ := (own_sl h hsl nd).mp z
    obtain ⟨j, ds, _, _, g⟩ := h.mem hi
    exact own_of g
  have mv : Mv H (MM Mo θ E) H' (MM (fun a => Mo a ∨ P a) θ (putA as o E)) := ⟨fun b x hb nn => t.fr b x hb fun z => nn (.inr (ownsl z)), fun a z => by
    rcases z with (z | z) | z
    · exact .inl (.inl z)
    · rcases hP a z with ⟨i, hi, rfl⟩ | z
      · obtain ⟨j, ds, _, _, g⟩ := h.mem hi
        exact .inl (.inr (own_of g))
      · exact .inr z
    · exact .inl (.inr ((own a).mp z))⟩
  have mv2 : Mv H' (MM (fun a => mc Mo θ E as a ∨ P a) (thc as θ) (en o)) H' (MM (fun a => Mo a ∨ P a) θ (putA as o E)) := ⟨fun _ _ h _ => h, fun a z => .inl ((hM a).mp z)⟩
  refine ⟨⟨fun j d g => ?_, fun j x ds g l => ?_, fun j k x y ds es g1 l1 g2 l2 e => ?_, fun a ha => ?_, by rw [putA_len ho]; exact r.len⟩, ⟨fun b x hb nn => t.fr b x hb fun z => nn (ownsl z), fun a z => .inl ((own a).mp z), fun j ds g => ⟨rfl, ?_⟩⟩, hM⟩
  · have hj : j ∉ ioIx as := fun z => by
      obtain ⟨k, ds1, h1, h2, h3⟩ := h.mem z
      obtain ⟨es, e1, e2⟩ := putA_at ho (E := E) nd h1
      unfold getL at h3
      cases e : gs E j with
      | none => rw [e] at h3; cases h3
      | some x0 =>
        rw [e] at h3 e2
        rw [e2] at g
        have g' : x0.wth es = .im d := Option.some.inj g
        have l0 := Sl.wth_ls (es := es) (show x0.ls = some ds1 from h3)
        rw [g'] at l0; cases l0
    rw [putA_out ho hj] at g
    obtain ⟨v, a, b⟩ := r.im j d g
    exact ⟨v, a, b.mv mv⟩
  · by_cases hj : j ∈ ioIx as
    · obtain ⟨k, ds1, h1, h2, h3⟩ := h.mem hj
      obtain ⟨es, e1, e2⟩ := putA_at ho (E := E) nd h1
      obtain ⟨g1, _⟩ := getL_own r h3
      obtain ⟨a1, a2, xs, a3, a4⟩ := r'.ow k _ es (by rw [gs_en]; exact e1) rfl
      rw [thc_io h1] at a2 a3
      have hes : es = ds := by
        unfold getL at h3
        cases e : gs E j with
        | none => rw [e] at h3; cases h3
        | some x0 =>
          rw [e] at h3 e2
          rw [e2] at g
          have g' : x0.wth es = x := Option.some.inj g
          have l0 := Sl.wth_ls (es := es) (show x0.ls = some ds1 from h3)
          rw [g'] at l0
          rw [l] at l0
          exact (Option.some.inj l0).symm
      subst hes
      obtain ⟨_, nmo, _⟩ : True ∧ ¬ Mo (θ j) ∧ True := ⟨trivial, by
        unfold getL at h3
        cases e : gs E j with
        | none => rw [e] at h3; cases h3
        | some x0 => rw [e] at h3; exact (r.ow j x0 ds1 e h3).2.1, trivial⟩
      exact ⟨g1, fun z => z.elim nmo fun z => a2 (.inr z), xs, a3, a4.mv mv2⟩
    · rw [putA_out ho hj] at g
      obtain ⟨a1, a2, xs, a3, a4⟩ := r.ow j x ds g l
      have nsl : ¬ ∃ i, i ∈ ioIx as ∧ θ j = θ i := fun ⟨i, hi, e⟩ => by
        obtain ⟨k, ds1, h1, h2, h3⟩ := h.mem hi
        unfold getL at h3
        cases e0 : gs E i with
        | none => rw [e0] at h3; cases h3
        | some x0 => rw [e0] at h3; exact hj (by rw [r.inj j i x x0 ds ds1 g l e0 h3 e]; exact hi)
      have h' : H' (θ j) = some (.lst xs) := t.fr _ _ a3 fun z => nsl ((own_sl h hsl nd).mp z)
      refine ⟨a1, fun z => z.elim a2 fun z => ?_, xs, h', a4.mv mv⟩
      rcases hP _ z with w | w
      · exact nsl w
      · rw [a3] at w; cases w
  · obtain ⟨x1, d1, a1, a2⟩ := kind j x ds g1 l1
    obtain ⟨x2, d2, b1, b2⟩ := kind k y es g2 l2
    exact r.inj j k x1 x2 d1 d2 a1 a2 b1 b2 e
  · rcases ha with ha | ha
    · obtain ⟨x, hx⟩ := r.mo a ha
      refine ⟨x, t.fr a _ hx fun z => ?_⟩
      obtain ⟨i, hi, rfl⟩ := (own_sl h hsl nd).mp z
      obtain ⟨j, ds, _, _, g⟩ := h.mem hi
      unfold getL at g
      cases e : gs E i with
      | none => rw [e] at g; cases g
      | some x0 => rw [e] at g; exact (r.ow i x0 ds e g).2.1 ha
    · exact r'.mo a (.inr ha)
  · by_cases hj : j ∈ ioIx as
    · obtain ⟨k, ds1, h1, h2, h3⟩ := h.mem hj
      obtain ⟨es, e1, e2⟩ := putA_at ho (E := E) nd h1
      rw [g] at e2
      exact ⟨es, e2⟩
    · exact ⟨ds, by rw [putA_out ho hj]; exact g⟩
end
theorem ArS.out0 {K : PySem.W.Frag} {θ : Nat → Addr} {E : En} {H : Hp} {M : Ms} {as : List Ar} {vs : List V} {sl : List Sl} (h : ArS K θ E H M as vs sl) : ArO as sl := by
  induction h with
  | nil => exact .nil
  | io g _ ih => exact .io ih
  | e a _ ih => exact .e ih
/-- THE CALL -/
theorem t_call {c : Ct} {F : Fn} {as : List Ar} {np : Nat} (hn : as.length = np) (nd : (ioIx as).Nodup) (σ : L2.St) (H : Hp) (Q : VK) (h : tXF c (xCall F as) σ H Q) :
    tCallS (spD c.K c.mg np F) (WE c.W) (tArs c as) σ H Q := by
  obtain ⟨Mo, θ, E, rel, h⟩ := h
  have h' : CoF c Mo θ E H ((arRun as E).bind fun os E1 => match arFin as os E1 with
    | some sl => match F sl with
      | .ok r io => Ou.ok r (putA as (fillIo sl io) E1)
      | .ex x io => Ou.ex x (putA as (fillIo sl io) E1)
      | .no => Ou.no
    | none => Ou.no) σ Q := h
  refine tArs_of as rel ?_
  cases er : arRun as E with
  | no => rw [er] at h'; exact h'
  | ex x E1 => rw [er] at h'; exact h'
  | ok os E1 =>
    rw [er, Ou.bind_ok] at h'
    intro vs H1 r1 t1 q1
    cases ef : arFin as os E1 with
    | none => rw [ef] at h'; exact h'.elim
    | some sl =>
      rw [ef] at h'
      have s := q1.fin r1 ef
      have hsl := s.out0
      have rc := call_rel r1 s nd
      refine ⟨mc Mo θ E1 as, thc as θ, sl, by rw [s.len.1, hn], s.noOw, rc, ?_⟩
      have PF : ∀ (M : Ms), (fun a => M a ∨ (fun _ : Addr => False) a) = M := fun M => funext fun a => propext ⟨fun h => h.elim id False.elim, .inl⟩
      have plain : ∀ {io : List (List D)} {H' : Hp}, Rel c.K (mc Mo θ E1 as) (thc as θ) (en (fillIo sl io)) (vs.map some) H' → Tr (thc as θ) (en sl) H1 (thc as θ) (en (fillIo sl io)) H' →
          Rel c.K Mo θ (putA as (fillIo sl io) E1) σ H' ∧ Tr θ E H θ (putA as (fillIo sl io) E1) H' ∧ ∀ a, MM Mo θ (putA as (fillIo sl io) E1) a ↔ MM (mc Mo θ E1 as) (thc as θ) (en (fillIo sl io)) a := fun {io H'} r t => by
        rw [← PF (mc Mo θ E1 as)] at r
        obtain ⟨a, b, d⟩ := back_rel (P := fun _ => False) r1 s nd (s.out io) hsl r t (fun a z => z.elim)
        rw [PF, PF] at d
        rw [PF] at a
        exact ⟨a, t1.trans b, d⟩
      dsimp only at h'
      cases eF : F sl with
      | no => rw [eF] at h'; exact h'.elim
      | ex x io =>
        rw [eF] at h'
        intro cls dx H' xr r t
        obtain ⟨a, b, d⟩ := plain r t
        exact h' cls dx H' (xr.mv ⟨fun _ _ h _ => h, fun z hz => .inl ((d z).mp hz)⟩ fun _ _ h => h) a b
      | ok r0 io =>
        rw [eF] at h'
        cases r0 with
        | io ds => exact h'.elim
        | im d0 =>
          intro v H' r t q
          obtain ⟨a, b, d⟩ := plain r t
          exact h' v H' a b (q.mv ⟨fun _ _ h _ => h, fun z hz => .inl ((d z).mp hz)⟩)
        | ow ds =>
          intro p xs H' r t fr np' hp q
          have frs : (∃ i, i ∈ ioIx as ∧ p = θ i) ∨ H1 p = none := fr.imp (fun z => (own_sl s hsl nd).mp z) id
          obtain ⟨a, b, d⟩ := back_rel (P := fun a => a = p) r1 s nd (s.out io) hsl r t (fun a z => by
            have z' : a = p := z
            rw [z']; exact frs)
          have fr2 : Frs θ E1 H1 p := by
            rcases frs with ⟨i, hi, rfl⟩ | z
            · obtain ⟨j, ds', _, _, g⟩ := s.mem hi
              exact .inl (own_of g)
            · exact .inr z
          refine h' p xs H' a (t1.trans b) (fr2.back t1) (fun z => ?_) hp (q.mv ⟨fun _ _ h _ => h, fun z hz => .inl ((d z).mp hz)⟩)
          rcases frs with ⟨i, hi, rfl⟩ | w
          · obtain ⟨j, ds', _, _, g⟩ := s.mem hi
            unfold getL at g
            cases e0 : gs E1 i with
            | none => rw [e0] at g; cases g
            | some x0 => rw [e0] at g; exact (r1.ow i x0 ds' e0 g).2.1 z
          · exact r1.notMo w z
end
end Dl

set_option Elab.async false
set_option linter.all false
set_option maxRecDepth 100000
set_option maxHeartbeats 2000000
namespace Dl
noncomputable section
open PySem PySem.Spec PyProof.Rows L2
/-! ### what a def's text is read under -/
structure Fd where
  x : Str
  ps : List Str
  io : List Bool
  F : Fn
structure Cfg where
  N : List Str
  sc : Scope
  fns : List Fd
  glo : List (Str × D)
  blt : List Str
  exs : List Str
  subs : List (Str × Str)
  k : Nat
  fu : Nat
  calm : Bool := true
  top : Bool := true
  cl : Str → Bool := fun _ => true
/-- an exception class of one's own -/
structure OwnX (K : PySem.W.Frag) (mg : Str → Option Value) (x : Str) : Prop where
  ex : ∃ (C : Addr) (bmB : List Value) (B newId initId : String), mg x = some (.ref C) ∧ PySem.W.keepIn K (.ref C) = true ∧ ExcBaseFacts B newId initId bmB ∧ PySem.W.excIn K C bmB newId = true ∧
    PySem.W.subIn K (.ref C) (.type "BaseException") = some true ∧ PySem.W.typeIn K (.ref C) = some (.type "type")
/-- m by place, the rest by name -/
def gK (m n : Nat) (us ws : List Value) : List Value := if us.length = m then us ++ ws else List.replicate (n + 1) .none
def gKV (m n : Nat) (vs zs : List V) : List V := if vs.length = m then vs ++ zs else List.replicate (n + 1) .non
structure Fits (P : Program) (w : World) (K : PySem.W.Frag) (mg : Str → Option Value) (base : Heap) (k : Nat) (d : Fd) : Prop where
  ex : ∃ (f : Addr) (fd : FuncData), FnOk P w K mg base (L2.CX P w) k f fd d.ps (spD K mg d.ps.length d.F) ∧ mg d.x = some (.ref f) ∧ PySem.W.keepIn K (.ref f) = true ∧ Binds K fd d.ps [] ∧
    ∀ m, KBinds K fd d.ps (d.ps.drop m) (gK m d.ps.length) (gKV m d.ps.length)
/-- what the world gives -/
structure Wd (g : Cfg) (P : Program) (w : World) (K : PySem.W.Frag) (mg : Str → Option Value) (base : Heap) : Prop where
  fns : ∀ d ∈ g.fns, Fits P w K mg base g.k d
  glo : ∀ p ∈ g.glo, ∃ v u, mg p.1 = some u ∧ RelV v u ∧ ∀ H M, R K H M v p.2
  blt : ∀ x ∈ g.blt, mg x = none
  exs : ∀ x ∈ g.exs, OwnX K mg x
  subs : ∀ x ∈ g.exs, ∀ y ∈ g.exs, ∀ u v, mg x = some u → mg y = some v → PySem.W.exmOne K u v = some (decide ((x, y) ∈ g.subs))
structure Okk (g : Cfg) (X : Cx) (c : Ct) : Prop where
  K : X.K = c.K
  mg : X.mg = c.mg
  N : X.N = g.N
  nd : g.N.Nodup
  sc : X.env.scope = g.sc
  kind : g.sc.kind = .function
  fn : ∀ x, g.cl x = true → X.fn x = true
  calm : g.calm = true → X.calm = true ∧ Room g.k X.A
  hu : X.A.units + 64 < cLine
  tk : Takes X c.W
  po : PassesOwn (model X.prog X.w) X.A X.env X.xe
  stk : g.top = true → X.stack = X.env :: X.outer ∧ X.env.frame = some X.env.locals
  wd : Wd g X.prog X.w X.K X.mg X.base
/-- of a scope -/
def kof (g : Cfg) (x : Str) : Option NameKind := g.sc.names.lookup x
def visB (g : Cfg) (x : Str) : Bool := match kof g x with
  | some .local => true
  | some .cell => true
  | some .free => true
  | _ => false
def locB (g : Cfg) (x : Str) : Bool := match kof g x with
  | some .local => true
  | some .cell => g.cl x
  | _ => false
def gloB (g : Cfg) (x : Str) : Bool := match kof g x with
  | some .globalImplicit => true
  | _ => false
def isDbg (x : Str) : Bool := (x == ("__debug__" : Str)) || (x == ("__classdict__" : Str)) || (x == ("__name__" : Str))
section
variable {g : Cfg} {X : Cx} {c : Ct} {x : Str}
theorem visB_ok (o : Okk g X c) (h : visB g x = true) : Vis X.env.scope x := by
  unfold visB kof at h
  unfold Vis
  rw [o.sc]
  split at h
  · rename_i e; exact .inl e
  · rename_i e; exact .inr (.inl e)
  · rename_i e; exact .inr (.inr e)
  · cases h
theorem locB_ok (o : Okk g X c) (h : locB g x = true) : L2.Loc X.env.scope x ∧ (X.fn x = true ∨ X.env.scope.names.lookup x = some .local) := by
  unfold locB kof at h
  unfold L2.Loc
  rw [o.sc]
  split at h
  · rename_i e; exact ⟨.inl e, .inr e⟩
  · rename_i e; exact ⟨.inr e, .inl (o.fn x h)⟩
  · cases h
theorem gloB_ok (o : Okk g X c) (h : gloB g x = true) : Gl X x := by
  unfold gloB kof at h
  unfold Gl Env.kindOf
  rw [o.sc]
  split at h
  · rename_i e; exact e
  · cases h
theorem dbg_ok (h : isDbg x = false) : (x == ("__debug__" : Str)) = false ∧ (x == ("__classdict__" : Str)) = false ∧ x ≠ "__name__" := by
  unfold isDbg at h
  rw [Bool.or_eq_false_iff, Bool.or_eq_false_iff] at h
  exact ⟨h.1.1, h.1.2, fun e => by rw [e] at h; simp at h⟩
end
/-! ### certified pieces -/
structure DE (g : Cfg) (e : Expr) where
  f : Xf
  ok : ∀ {X : Cx} {c : Ct}, Okk g X c → PE X e (tX c f)
structure DF (g : Cfg) (e : Expr) where
  f : Xs
  ok : ∀ {X : Cx} {c : Ct}, Okk g X c → PE X e (tXF c f)
structure DB (g : Cfg) (e : Expr) where
  b : Bo
  ok : ∀ {X : Cx} {c : Ct}, Okk g X c → PE X e (tBo c b)
structure DT (g : Cfg) (e : Expr) where
  f : Xb
  ok : ∀ {X : Cx} {c : Ct}, Okk g X c → PT X e (tXb c f)
structure DTw (g : Cfg) (e : Expr) where
  f : Xb
  ok : ∀ {X : Cx} {c : Ct}, Okk g X c → PW X e (tXb c f)
structure DEs (g : Cfg) (es : List Expr) where
  f : Xfs
  len : ∀ E ds E', f E = .ok ds E' → ds.length = es.length
  ok : ∀ {X : Cx} {c : Ct}, Okk g X c → PA X es (tXs c f)
structure DFs (g : Cfg) (es : List Expr) where
  f : Xss
  ok : ∀ {X : Cx} {c : Ct}, Okk g X c → PA X es (tXFs c f)
structure DA (g : Cfg) (es : List Expr) where
  as : List Ar
  ok : ∀ {X : Cx} {c : Ct}, Okk g X c → PA X es (tArs c as)
structure DS (g : Cfg) (s : Stmt) where
  f : Sf
  ok : ∀ {X : Cx} {c : Ct}, Okk g X c → PS X s (tS c f)
structure DSs (g : Cfg) (s : List Stmt) where
  f : Sf
  ok : ∀ {X : Cx} {c : Ct}, Okk g X c → PSs X s (tS c f)
structure DI (g : Cfg) (tg it : Expr) where
  f : Xi
  ok : ∀ {X : Cx} {c : Ct}, Okk g X c → ∃ wi : TI, PI X tg it wi ∧ ∀ σ H R, tG (ItD c.K) c f σ H R → wi σ H R
structure DG (g : Cfg) (tg : Expr) where
  is : List Nat
  f : D → En → Option En
  ok : ∀ {X : Cx} {c : Ct}, Okk g X c → ∃ t : TG, PG X tg t ∧ TgD c is f t
structure DO (g : Cfg) (e : Option Expr) where
  f : Option Xf
  ok : ∀ {X : Cx} {c : Ct}, Okk g X c → PO X e (tO c f)
/-- the parts, by which a compiler is made -/
structure Cmp where
  e : ∀ (g : Cfg) (e : Expr), Option (DE g e)
  f : ∀ (g : Cfg) (e : Expr), Option (DF g e)
  t : ∀ (g : Cfg) (e : Expr), Option (DT g e)
  s : ∀ (g : Cfg) (s : Stmt), Option (DS g s)
def Cmp.bot : Cmp := ⟨fun _ _ => none, fun _ _ => none, fun _ _ => none, fun _ _ => none⟩
/-- the place of a name -/
def ixOf (x : Str) : List Str → Option Nat
  | [] => none
  | y :: r => if x = y then some 0 else (ixOf x r).map (· + 1)
theorem ixOf_ok {x : Str} : ∀ {l : List Str} {i : Nat}, ixOf x l = some i → l[i]? = some x
  | [], i, h => by cases h
  | y :: r, i, h => by
    unfold ixOf at h
    split at h
    · rename_i e; cases h; rw [e]; rfl
    · cases e : ixOf x r with
      | none => rw [e] at h; cases h
      | some j =>
        rw [e] at h; cases h
        simpa using ixOf_ok e
structure Slot (g : Cfg) (x : Str) where
  i : Nat
  at_ : g.N[i]? = some x
def slot (g : Cfg) (x : Str) : Option (Slot g x) := match h : ixOf x g.N with
  | some i => some ⟨i, ixOf_ok h⟩
  | none => none
/-- a name of the def's own, read -/
structure Own1 (g : Cfg) (x : Str) where
  i : Nat
  ok : ∀ {X : Cx} {c : Ct} {p : Pos}, Okk g X c → PE X (.Name x p) (tVar i)
def own1 (g : Cfg) (x : Str) : Option (Own1 g x) :=
  if h : visB g x = true then
    if h2 : isDbg x = false then
      match slot g x with
      | some s => some ⟨s.i, fun {X c p} o => pe_var (by rw [o.N]; exact s.at_) (visB_ok o h) (dbg_ok h2).1 (dbg_ok h2).2.1⟩
      | none => none
    else none
  else none
/-! ### stars -/
def noStar : Expr → Bool
  | .Starred _ _ => false
  | _ => true
theorem star_ok {e : Expr} {es : List Expr} {env : Env} (h : noStar e = true) : starEach (e :: es) env = (false, eval e env) :: starEach es env := by
  cases e <;> first | rfl | exact absurd h Bool.false_ne_true
theorem back_ok {env : Env} {pos : Pos} : ∀ {es : List Expr}, es.all noStar = true → (backTo pos (starEach es env)).any (·.1) = false
  | [], _ => rfl
  | e :: es, h => by
    rw [List.all_cons, Bool.and_eq_true] at h
    rw [star_ok h.1]
    show ((false, _) :: backTo pos (starEach es env)).any (·.1) = false
    rw [List.any_cons, back_ok h.2]; rfl
section
variable (r : Cmp) (g : Cfg)
/-- borrowed: a name of one's own is only looked at -/
def cB0 (e : Expr) : Option (DB g e) := match r.e g e with
  | some d => some ⟨.e d.f, fun o => d.ok o⟩
  | none => none
def cB : (e : Expr) → Option (DB g e)
  | .Name x p => match own1 g x with
    | some v => some ⟨.v v.i, fun o => v.ok o⟩
    | none => cB0 r g (.Name x p)
  | e => cB0 r g e
def cEs : (es : List Expr) → Option (DEs g es)
  | [] => some ⟨xNil, fun E ds E' h => (by cases h; rfl), fun o => pa_of pa_nil t_nil⟩
  | e :: es =>
    if hs : noStar e = true then
      match r.e g e, cEs es with
      | some d, some ds => some ⟨xCons d.f ds.f, fun E l E' h => (by
          unfold xCons at h
          cases h1 : d.f E with
          | ok a E1 =>
            rw [h1, Ou.bind_ok] at h
            cases h2 : ds.f E1 with
            | ok b E2 =>
              rw [h2, Ou.bind_ok] at h
              cases h
              rw [List.length_cons, List.length_cons, ds.len _ _ _ h2]
            | ex x E2 => rw [h2] at h; cases h
            | no => rw [h2] at h; cases h
          | ex x E1 => rw [h1] at h; cases h
          | no => rw [h1] at h; cases h), fun o => pa_of (pa_cons (d.ok o) (ds.ok o) (star_ok hs)) t_cons⟩
      | _, _ => none
    else none
def cFs : (es : List Expr) → Option (DFs g es)
  | [] => some ⟨xsNil, fun o => pa_of pa_nil t_snil⟩
  | e :: es =>
    if hs : noStar e = true then
      match r.f g e, cFs es with
      | some d, some ds => some ⟨xsCons d.f ds.f, fun o => pa_of (pa_cons (d.ok o) (ds.ok o) (star_ok hs)) t_scons⟩
      | _, _ => none
    else none
def cArs : (es : List Expr) → (io : List Bool) → Option (DA g es)
  | [], [] => some ⟨[], fun o => pa_nil⟩
  | .Name x p :: es, true :: io => match own1 g x, cArs es io with
    | some v, some ds => some ⟨.io v.i :: ds.as, fun o => pa_cons (v.ok o) (ds.ok o)⟩
    | _, _ => none
  | e :: es, false :: io =>
    if hs : noStar e = true then
      match r.e g e, cArs es io with
      | some d, some ds => some ⟨.e d.f :: ds.as, fun o => pa_cons (d.ok o) (ds.ok o) (star_ok hs)⟩
      | _, _ => none
    else none
  | _, _ => none
end
end
end Dl

set_option Elab.async false
set_option linter.all false
set_option maxRecDepth 100000
set_option maxHeartbeats 2000000
namespace Dl
noncomputable section
open PySem PySem.Spec PyProof.Rows L2
/-! ### operators by their names -/
structure BinD (op : Operator) where
  g : D → D → Option D
  ok : ∀ (X : Cx), ∃ r : R2, OpR X (binaryOp op) r ∧ OpD X.K r g
def binD : (op : Operator) → Option (BinD op)
  | .Add => some ⟨gAdd, fun X => ⟨_, op_addD, d_add⟩⟩
  | .Sub => some ⟨gMinus, fun X => ⟨_, op_sub, d_ii0⟩⟩
  | .Mult => some ⟨gMul, fun X => ⟨_, op_mulDD, d_mul⟩⟩
  | .FloorDiv => some ⟨gFdiv, fun X => ⟨_, op_fdivW, d_fdiv⟩⟩
  | .Mod => some ⟨gMod, fun X => ⟨_, op_mod, d_mod⟩⟩
  | .Pow => some ⟨gPow, fun X => ⟨_, op_pow, d_pow⟩⟩
  | .LShift => some ⟨gShl, fun X => ⟨_, op_shlW, d_shl⟩⟩
  | .RShift => some ⟨gShr, fun X => ⟨_, op_shr, d_shr⟩⟩
  | .BitAnd => some ⟨gAnd, fun X => ⟨_, op_and, d_ii0⟩⟩
  | .BitOr => some ⟨gOr, fun X => ⟨_, op_or, d_ii0⟩⟩
  | .BitXor => some ⟨gXor, fun X => ⟨_, op_xor, d_ii0⟩⟩
  | _ => none
structure CmpD (op : CmpOp) where
  g : D → D → Option D
  ok : ∀ (X : Cx), X.A.units + 64 < cLine → ∃ r : R2, OpR X (compareOp op) r ∧ OpD X.K r g
def cmpD : (op : CmpOp) → Option (CmpD op)
  | .Eq => some ⟨gEq, fun X hu => ⟨_, op_eqD hu, d_eq⟩⟩
  | .NotEq => some ⟨gNe, fun X hu => ⟨_, op_neD hu, d_ne⟩⟩
  | .Lt => some ⟨gLt, fun X hu => ⟨_, op_lt, d_cmp⟩⟩
  | .LtE => some ⟨gLe, fun X hu => ⟨_, op_le, d_cmp⟩⟩
  | .Gt => some ⟨gGt, fun X hu => ⟨_, op_gt, d_cmp⟩⟩
  | .GtE => some ⟨gGe, fun X hu => ⟨_, op_ge, d_cmp⟩⟩
  | .Is => some ⟨gIs, fun X hu => ⟨_, op_isN, d_is⟩⟩
  | .IsNot => some ⟨gIsn, fun X hu => ⟨_, op_notN, d_isn⟩⟩
  | .In => some ⟨gIn, fun X hu => ⟨_, op_inD hu, d_in⟩⟩
  | .NotIn => some ⟨gNin, fun X hu => ⟨_, op_ninD hu, d_nin⟩⟩
def notSet : Expr → Bool
  | .Set _ _ _ => false
  | _ => true
theorem marks_ok {op : CmpOp} {e : Expr} (h : notSet e = true) : behindInMarks op e = false := by
  cases e <;> first | rfl | exact absurd h Bool.false_ne_true
def isPlain : Expr → Bool
  | .UnaryOp .Not _ _ => false
  | .BoolOp _ _ _ => false
  | .IfExp _ _ _ _ => false
  | .Compare _ _ _ _ => false
  | _ => true
theorem plain_ok {e : Expr} {env : Env} (h : isPlain e = true) (whole : Sem Value) : isTrue e env whole = (do let v ← whole; standAt e.pos; holding [v] (truthy v)) := by
  cases e <;> first | rfl | exact absurd h Bool.false_ne_true | (rename_i op a p; cases op <;> first | rfl | exact absurd h Bool.false_ne_true)
/-- not, of any value -/
theorem pe_nt {X : Cx} {a : Expr} {ta : TE} {p : Pos} (ha : PE X a ta) : PE X (.UnaryOp .Not a p) (fun σ H Q => ta σ H fun x H1 => ∃ k, TruV X.K x H1 k ∧ Q (.bl (!k)) H1) :=
  ⟨fun pins s σ H Q I h => UnaryOp_ (thn (ha.run pins s σ H _ I h) fun v s1 ⟨x, H1, I1, r1, k, q1, q2⟩ =>
    not_of (thn (tru_ok pins s1 σ H1 x v (fun b H2 => Q (.bl (!b)) H2) I1 r1 ⟨k, q1, q2⟩) fun b s2 ⟨H2, I2, q⟩ => ⟨.bl (!b), H2, I2, rfl, q⟩))⟩
def xNt (a : Bo) : Xf := fun E => (xbT a E).bind fun b E1 => .ok (.bool (!b)) E1
theorem t_nt {c : Ct} {a : Bo} (σ : L2.St) (H : Hp) (Q : VK) (h : tX c (xNt a) σ H Q) : tBo c a σ H fun x H1 => ∃ k, TruV c.K x H1 k ∧ Q (.bl (!k)) H1 := by
  refine t_truth σ H (fun k H1 => Q (.bl (!k)) H1) ?_
  obtain ⟨Mo, θ, E, rel, h⟩ := h
  refine ⟨Mo, θ, E, rel, Co.mono (Co.bind (rl := RB0) h) ?_⟩
  rintro x H1 ⟨d, E1, e1, r1, t1, b1, h1⟩
  have b1' : x = d := b1
  subst b1'
  exact h1 _ H1 r1 Tr.refl (.bl _)
def notSl : Expr → Bool
  | .Slice _ _ _ _ => false
  | _ => true
theorem ix_ok {e : Expr} (h : notSl e = true) : PlainIx e := fun o i => by
  cases e <;> first | rfl | exact absurd h Bool.false_ne_true
/-! ### constants, operators, comparisons, subscripts -/
section
variable (r : Cmp) (g : Cfg)
def cConst : (e : Expr) → Option (DE g e)
  | .Constant (.int i) k p => some ⟨xC (.int i), fun o => pe_of pe_int (t_c fun _ _ => .int i)⟩
  | .Constant (.bool b) k p => some ⟨xC (.bool b), fun o => pe_of pe_bl (t_c fun _ _ => .bl b)⟩
  | .Constant .none k p => some ⟨xC .none, fun o => pe_of pe_non (t_c fun _ _ => .non)⟩
  | .Constant (.str x) k p => some ⟨xC (.str x), fun o => pe_of pe_str (t_c fun _ _ => .str x)⟩
  | _ => none
structure InG (g : Cfg) (x : Str) where
  d : D
  mem : (x, d) ∈ g.glo
def findG : (l : List (Str × D)) → (x : Str) → Option { d : D // (x, d) ∈ l }
  | [], _ => none
  | (y, d) :: l, x => if h : y = x then some ⟨d, by rw [h]; exact List.mem_cons_self⟩ else match findG l x with
    | some ⟨d, m⟩ => some ⟨d, List.mem_cons_of_mem _ m⟩
    | none => none
def cName : (e : Expr) → Option (DE g e)
  | .Name x p => match own1 g x with
    | some v => some ⟨xV v.i, fun o => pe_of (v.ok o) t_v⟩
    | none => if h : gloB g x = true then
        if h2 : isDbg x = false then
          match findG g.glo x with
          | some ⟨d, m⟩ => some ⟨xC d, fun {X c} o => by
              obtain ⟨v, u, h3, h4, h5⟩ := o.wd.glo _ m
              exact pe_of (pe_glob (gloB_ok o h) h3 h4 (dbg_ok h2).1) (t_c fun H M => by rw [← o.K]; exact h5 H M)⟩
          | none => none
        else none
      else none
  | _ => none
def cBin : (e : Expr) → Option (DE g e)
  | .BinOp a op b p => match binD op, cB r g a, cB r g b with
    | some w, some x, some y => some ⟨xOp2 w.g x.b y.b, fun {X c} o => by
        obtain ⟨r, h1, h2⟩ := w.ok X
        rw [o.K] at h2
        exact pe_of (pe_op h1 (x.ok o) (y.ok o)) (t_op2 h2)⟩
    | _, _, _ => none
  | _ => none
def cUn : (e : Expr) → Option (DE g e)
  | .UnaryOp .USub a p => match cB r g a with
    | some x => some ⟨xOp1 gNeg x.b, fun o => pe_of (pe_un un_neg (x.ok o)) (t_un neg_int')⟩
    | none => none
  | .UnaryOp .Invert a p => match cB r g a with
    | some x => some ⟨xOp1 gInv x.b, fun o => pe_of (pe_un un_inv (x.ok o)) (t_un inv_int')⟩
    | none => none
  | .UnaryOp .Not a p => match cB r g a with
    | some x => some ⟨xNt x.b, fun {X c} o => pe_of (pe_nt (x.ok o)) (by rw [o.K]; exact t_nt)⟩
    | none => none
  | _ => none
def cCmp : (e : Expr) → Option (DE g e)
  | .Compare a [op] [b] p => if hm : notSet b = true then
      match cmpD op, cB r g a, cB r g b with
      | some w, some x, some y => some ⟨xOp2 w.g x.b y.b, fun {X c} o => by
          obtain ⟨r, h1, h2⟩ := w.ok X o.hu
          rw [o.K] at h2
          exact pe_of (pe_cmpR h1 (x.ok o) (y.ok o) (marks_ok hm)) (t_op2 h2)⟩
      | _, _, _ => none
    else none
  | .Compare a [op, op'] [b, d] p => if hm : notSet d = true then
      match cmpD op, cmpD op', r.e g a, r.e g b, r.e g d with
      | some w, some w', some x, some y, some z => some ⟨xChn w.g w'.g x.f y.f z.f, fun {X c} o => by
          obtain ⟨r, h1, h2⟩ := w.ok X o.hu
          obtain ⟨r', h1', h2'⟩ := w'.ok X o.hu
          rw [o.K] at h2 h2'
          exact pe_of (pe_chain h1 h1' (x.ok o) (y.ok o) (z.ok o) (marks_ok hm)) (t_chn h2 h2')⟩
      | _, _, _, _, _ => none
    else none
  | _ => none
def cO : (e : Option Expr) → Option (DO g e)
  | none => some ⟨none, fun o => po_none⟩
  | some e => match r.e g e with
    | some d => some ⟨some d.f, fun o => po_some (d.ok o)⟩
    | none => none
def cSub : (e : Expr) → Option (DE g e)
  | .Subscript a (.Slice lo hi none p2) p => match cB r g a, cO r g lo, cO r g hi with
    | some x, some l, some h => some ⟨xSl x.b l.f h.f, fun {X c} o => pe_of (pe_slice sl_all (x.ok o) (l.ok o) (h.ok o)) (by rw [o.K]; exact t_sl)⟩
    | _, _, _ => none
  | .Subscript a b p => if hs : notSl b = true then
      match cB r g a, cB r g b with
      | some x, some y => some ⟨xOp2 gIdx x.b y.b, fun {X c} o => pe_of (pe_ix ix_seq (x.ok o) (y.ok o) (ix_ok hs)) (by rw [o.K]; exact t_op2 d_idx)⟩
      | _, _ => none
    else none
  | _ => none
def cIf : (e : Expr) → Option (DE g e)
  | .IfExp t a b p => match r.t g t, r.e g a, r.e g b with
    | some x, some y, some z => some ⟨xIf x.f y.f z.f, fun o => pe_of (pe_ifExp (x.ok o) (y.ok o) (z.ok o)) t_if⟩
    | _, _, _ => none
  | _ => none
theorem le_size {n : Nat} (h : decide (n ≤ 1000) = true) : n ≤ sizeLine := by
  have := of_decide_eq_true h
  rw [sizeLine_eq]; omega
def cDisp : (e : Expr) → Option (DE g e)
  | .Tuple es k p => if h : decide (es.length ≤ 1000) = true then
      match cEs r g es with
      | some x => some ⟨xTup x.f, fun o => pe_of (pe_tup (x.ok o)) (t_tup (fun E ds E' e => Nat.le_of_eq (x.len E ds E' e)) (le_size h))⟩
      | none => none
    else none
  | .List es p => if h : decide (es.length ≤ 1000) = true then
      match cEs r g es with
      | some x => some ⟨xLst x.f, fun o => pe_of (pe_lst (x.ok o)) (t_lst (fun E ds E' e => Nat.le_of_eq (x.len E ds E' e)) (le_size h))⟩
      | none => none
    else none
  | _ => none
def cAndV : (es : List Expr) → (p : Pos) → Option (DE g (.BoolOp .And es p))
  | [], _ => none
  | [a], p => match r.e g a with
    | some x => some ⟨x.f, fun o => pe_one (x.ok o)⟩
    | none => none
  | a :: b :: es, p => match r.e g a, cAndV (b :: es) p with
    | some x, some y => some ⟨xAnd x.f y.f, fun o => pe_of (pe_and (x.ok o) (y.ok o)) t_and⟩
    | _, _ => none
def cOrV : (es : List Expr) → (p : Pos) → Option (DE g (.BoolOp .Or es p))
  | [], _ => none
  | [a], p => match r.e g a with
    | some x => some ⟨x.f, fun o => pe_one (x.ok o)⟩
    | none => none
  | a :: b :: es, p => match r.e g a, cOrV (b :: es) p with
    | some x, some y => some ⟨xOr x.f y.f, fun o => pe_of (pe_or (x.ok o) (y.ok o)) t_or⟩
    | _, _ => none
def cBool : (e : Expr) → Option (DE g e)
  | .BoolOp .And es p => cAndV r g es p
  | .BoolOp .Or es p => cOrV r g es p
  | _ => none
/-! ### tests -/
def cAndT : (es : List Expr) → (p : Pos) → Option (DTw g (.BoolOp .And es p))
  | [], _ => none
  | [a], p => match r.t g a with
    | some x => some ⟨x.f, fun o => pw_and1 (x.ok o)⟩
    | none => none
  | a :: b :: es, p => match r.t g a, cAndT (b :: es) p with
    | some x, some y => some ⟨xbAnd x.f y.f, fun o => pw_of (pw_and (x.ok o) (y.ok o)) t_band⟩
    | _, _ => none
def cOrT : (es : List Expr) → (p : Pos) → Option (DTw g (.BoolOp .Or es p))
  | [], _ => none
  | [a], p => match r.t g a with
    | some x => some ⟨x.f, fun o => pw_or1 (x.ok o)⟩
    | none => none
  | a :: b :: es, p => match r.t g a, cOrT (b :: es) p with
    | some x, some y => some ⟨xbOr x.f y.f, fun o => pw_of (pw_or (x.ok o) (y.ok o)) t_bor⟩
    | _, _ => none
def cPlainT (e : Expr) : Option (DT g e) := if h : isPlain e = true then
    match cB r g e with
    | some x => some ⟨xbT x.b, fun {X c} o => pt_of (pt_truth (x.ok o) (plain_ok h)) (by rw [o.K]; exact t_truth)⟩
    | none => none
  else none
def cTest : (e : Expr) → Option (DT g e)
  | .BoolOp .And es p => match cAndT r g es p with
    | some x => some ⟨x.f, fun o => (x.ok o).pt⟩
    | none => none
  | .BoolOp .Or es p => match cOrT r g es p with
    | some x => some ⟨x.f, fun o => (x.ok o).pt⟩
    | none => none
  | .UnaryOp .Not a p => match r.t g a with
    | some x => some ⟨xbNot x.f, fun o => pt_of (pt_not (x.ok o)) t_bnot⟩
    | none => none
  | .Compare a [op] [b] p => if hm : notSet b = true then
      match cmpD op, cB r g a, cB r g b with
      | some w, some x, some y => some ⟨xbV (xOp2 w.g x.b y.b), fun {X c} o => by
          obtain ⟨r, h1, h2⟩ := w.ok X o.hu
          rw [o.K] at h2
          exact pt_of (pt_cmpR h1 (x.ok o) (y.ok o) (marks_ok hm)) fun σ H Q q => t_op2 h2 σ H _ (tXb_V q)⟩
      | _, _, _ => none
    else none
  | .Compare a [op, op'] [b, d] p => if hm : notSet d = true then
      match cmpD op, cmpD op', r.e g a, r.e g b, r.e g d with
      | some w, some w', some x, some y, some z => some ⟨xbV (xChn w.g w'.g x.f y.f z.f), fun {X c} o => by
          obtain ⟨r, h1, h2⟩ := w.ok X o.hu
          obtain ⟨r', h1', h2'⟩ := w'.ok X o.hu
          rw [o.K] at h2 h2'
          exact pt_of (pt_chain h1 h1' (x.ok o) (y.ok o) (z.ok o) (marks_ok hm)) fun σ H Q q => t_chn h2 h2' σ H _ (tXb_V q)⟩
      | _, _, _, _, _ => none
    else none
  | e => cPlainT r g e
end
end
end Dl

set_option Elab.async false
set_option linter.all false
set_option maxRecDepth 100000
set_option maxHeartbeats 2000000
namespace Dl
noncomputable section
open PySem PySem.Spec PyProof.Rows L2
/-! ### calls of defs, by place and by name -/
section
variable {X : Cx} {CX : CXT} {k : Nat} {f : Addr} {fd : FuncData} {ps ks : List Str} {sp : Sp} {E : L2.St → XK} {x : Str} {p pos : Pos} {e : Expr} {es : List Expr} {kws : List Keyword} {t tk : TA} {g : List Value → List Value → List Value} {gV : List V → List V → List V}
theorem pe_callS0 (F : FnOk X.prog X.w X.K X.mg X.base CX k f fd ps sp) (hr : Room k X.A) (hg : Gl X x) (hm : X.mg x = some (.ref f)) (hk : PySem.W.keepIn X.K (.ref f) = true) (hb : Binds X.K fd ps []) (hx : ∀ σ, PassesAt CX X σ (E σ))
    (hdb : (x == ("__debug__" : Str)) = false) : PE X (.Call (.Name x p) [] [] pos) (tCallS sp E tNil) :=
  ⟨fun pins s σ H Q I h => wpAny_Call_Name_kw (ld_glob I hg hm (PySem.W.callWith_K0 I.kIn hk (run_fnS (us := []) F hr hb (hx σ) I .nil h)) hdb)⟩
def tCallSK (sp : Sp) (gV : List V → List V → List V) (E : L2.St → XK) (t tk : TA) : TE := fun σ H Q => t σ H fun vs H1 => tk σ H1 fun zs H2 => sp (gV vs zs) H2 Q (E σ)
theorem run_fnSK {pins : List (Addr × Obj)} {σ : L2.St} {H : Hp} {s : Shared} {Q : VK} {us ws : List Value} {vs zs : List V} (F : FnOk X.prog X.w X.K X.mg X.base CX k f fd ps sp) (hr : Room k X.A) (hb : KBinds X.K fd ps ks g gV) (hx : PassesAt CX X σ (E σ))
    (I : Inv X pins σ H s) (r : Vals vs us) (rz : Vals zs ws) (h : sp (gV vs zs) H Q (E σ)) : wpAny (model X.prog X.w) X.A (call (.ref f) us (ks.zip ws)) (EP X pins σ Q) X.xe s := by
  have r2 := hb.rel r rz
  refine wpAny_call (codeAny_mono (F.run X.A X.stack s H ⟨us, ks.zip ws⟩ (g us ws) (gV vs zs) Q (E σ) hr I.env0 (hb.to s us ws I.kIn (by rw [← r2.length]; exact F.len _ _ _ _ h)) r2 h) fun q s' hq => ?_)
  match q, hq with
  | .error e, hq => exact hx pins H s e s' I hq
  | .ok (.ret u), hq => exact I.after hq
theorem pe_callSK (F : FnOk X.prog X.w X.K X.mg X.base CX k f fd ps sp) (hr : Room k X.A) (hg : Gl X x) (hm : X.mg x = some (.ref f)) (hk : PySem.W.keepIn X.K (.ref f) = true) (hb : KBinds X.K fd ps ks g gV) (hx : ∀ σ, PassesAt CX X σ (E σ))
    (ha : PA X (e :: es) t) (hkw : PK X kws tk) (hall : (backToKw pos (keywordEach kws X.env)).all (·.1.isSome) = true) (hks : (backToKw pos (keywordEach kws X.env)).filterMap (·.1) = ks)
    (hdb : (x == ("__debug__" : Str)) = false) (he : starEach (e :: es) X.env = (false, eval e X.env) :: starEach es X.env)
    (hpl : ((backTo pos (starEach (e :: es) X.env)).any (·.1) || (backToKw pos (keywordEach kws X.env)).any (·.1.isNone)) = false) :
    PE X (.Call (.Name x p) (e :: es) kws pos) (tCallSK sp gV E t tk) :=
  ⟨fun pins s σ H Q I h => wpAny_Call_Name_kw (ld_glob I hg hm (PySem.W.callWith_KW (h₀ := X.base) I.ok.mod.kin hk hall (thn (ha.run pos pins s σ H _ I h) fun us s1 ⟨vs, H1, I1, r, q⟩ =>
    thn (hkw.run pos pins s1 σ H1 _ I1 q) fun ws s2 ⟨zs, H2, I2, rz, q2⟩ => ⟨I2.kIn, by rw [hks]; exact run_fnSK F hr hb (hx σ) I2 r rz q2⟩) hpl he) hdb)⟩
theorem pe_callSK0 (F : FnOk X.prog X.w X.K X.mg X.base CX k f fd ps sp) (hr : Room k X.A) (hg : Gl X x) (hm : X.mg x = some (.ref f)) (hk : PySem.W.keepIn X.K (.ref f) = true) (hb : KBinds X.K fd ps ks g gV) (hx : ∀ σ, PassesAt CX X σ (E σ))
    (hkw : PK X kws tk) (hall : (backToKw pos (keywordEach kws X.env)).all (·.1.isSome) = true) (hks : (backToKw pos (keywordEach kws X.env)).filterMap (·.1) = ks)
    (hdb : (x == ("__debug__" : Str)) = false) (hpl : ((backTo pos (starEach [] X.env)).any (·.1) || (backToKw pos (keywordEach kws X.env)).any (·.1.isNone)) = false) :
    PE X (.Call (.Name x p) [] kws pos) (tCallSK sp gV E tNil tk) :=
  ⟨fun pins s σ H Q I h => wpAny_Call_Name_kw (ld_glob I hg hm (PySem.W.callWith_KW0 (h₀ := X.base) I.ok.mod.kin hk hall (
    thn (hkw.run pos pins s σ H _ I h) fun ws s2 ⟨zs, H2, I2, rz, q2⟩ => ⟨I2.kIn, by rw [hks]; exact run_fnSK (us := []) F hr hb (hx σ) I2 .nil rz q2⟩) hpl) hdb)⟩
end
theorem tArs_mono {c : Ct} : ∀ {as : List Ar} {σ : L2.St} {H : Hp} {Q Q' : List V → Hp → Prop}, tArs c as σ H Q → (∀ vs H1, Q vs H1 → Q' vs H1) → tArs c as σ H Q'
  | [], σ, H, Q, Q', h, i => i _ _ h
  | .io i :: as, σ, H, Q, Q', h, j => let ⟨v, h1, h2⟩ := h; ⟨v, h1, tArs_mono h2 fun vs H1 q => j _ _ q⟩
  | .e f :: as, σ, H, Q, Q', h, j => let ⟨Mo, θ, E, r, h⟩ := h; ⟨Mo, θ, E, r, Co.mono h fun v H1 q => tArs_mono q fun vs H2 q => j _ _ q⟩
theorem tArs_app {c : Ct} : ∀ (as bs : List Ar) (σ : L2.St) (H : Hp) (Q : List V → Hp → Prop), tArs c (as ++ bs) σ H Q → tArs c as σ H fun vs H1 => vs.length = as.length ∧ tArs c bs σ H1 fun zs H2 => Q (vs ++ zs) H2
  | [], bs, σ, H, Q, h => ⟨rfl, h⟩
  | .io i :: as, bs, σ, H, Q, h => by
    obtain ⟨v, h1, h2⟩ := h
    exact ⟨v, h1, tArs_mono (tArs_app as bs σ H _ h2) fun vs H1 q => ⟨congrArg Nat.succ q.1, q.2⟩⟩
  | .e f :: as, bs, σ, H, Q, h => by
    obtain ⟨Mo, θ, E, r, h⟩ := h
    exact ⟨Mo, θ, E, r, Co.mono h fun v H1 q => tArs_mono (tArs_app as bs σ H1 _ q) fun vs H2 q => ⟨congrArg Nat.succ q.1, q.2⟩⟩
/-! ### keywords -/
def kwVals (kws : List Keyword) : List Expr := kws.map fun k => match k with
  | ⟨_, e, _⟩ => e
def kwNames : List Keyword → Option (List Str)
  | [] => some []
  | ⟨some x, _, _⟩ :: r => (kwNames r).map (x :: ·)
  | ⟨none, _, _⟩ :: _ => none
theorem kw_ok {env : Env} {pos : Pos} : ∀ {kws : List Keyword} {ks : List Str}, kwNames kws = some ks → (backToKw pos (keywordEach kws env)).all (·.1.isSome) = true ∧ (backToKw pos (keywordEach kws env)).filterMap (·.1) = ks ∧ (backToKw pos (keywordEach kws env)).any (·.1.isNone) = false
  | [], ks, h => by cases h; exact ⟨rfl, rfl, rfl⟩
  | ⟨some x, e, p⟩ :: r, ks, h => by
    unfold kwNames at h
    cases e1 : kwNames r with
    | none => rw [e1] at h; cases h
    | some l =>
      rw [e1] at h; cases h
      obtain ⟨a, b, d⟩ := kw_ok (env := env) (pos := pos) e1
      refine ⟨?_, ?_, ?_⟩
      · show ((some x, _) :: backToKw pos (keywordEach r env)).all (·.1.isSome) = true
        rw [List.all_cons, a]; rfl
      · show ((some x, _) :: backToKw pos (keywordEach r env)).filterMap (·.1) = x :: l
        rw [List.filterMap_cons]
        show x :: _ = _
        rw [b]
      · show ((some x, _) :: backToKw pos (keywordEach r env)).any (·.1.isNone) = false
        rw [List.any_cons, d]; rfl
  | ⟨none, e, p⟩ :: r, ks, h => by cases h
structure DK (g : Cfg) (kws : List Keyword) where
  as : List Ar
  ok : ∀ {X : Cx} {c : Ct}, Okk g X c → PK X kws (tArs c as)
section
variable (r : Cmp) (g : Cfg)
def cKws : (kws : List Keyword) → (io : List Bool) → Option (DK g kws)
  | [], [] => some ⟨[], fun o => pk_nil⟩
  | ⟨nm, .Name x p, kp⟩ :: kws, true :: io => match own1 g x, cKws kws io with
    | some v, some ds => some ⟨.io v.i :: ds.as, fun o => pk_cons (v.ok o) (ds.ok o)⟩
    | _, _ => none
  | ⟨nm, e, kp⟩ :: kws, false :: io => match r.e g e, cKws kws io with
    | some d, some ds => some ⟨.e d.f :: ds.as, fun o => pk_cons (d.ok o) (ds.ok o)⟩
    | _, _ => none
  | _, _ => none
def findF : (l : List Fd) → (x : Str) → Option { d : Fd // d ∈ l ∧ d.x = x }
  | [], _ => none
  | d :: l, x => if h : d.x = x then some ⟨d, List.mem_cons_self, h⟩ else match findF l x with
    | some ⟨d, m, e⟩ => some ⟨d, List.mem_cons_of_mem _ m, e⟩
    | none => none
def cCall : (e : Expr) → Option (DF g e)
  | .Call (.Name x p) [] [] pos => if hg : gloB g x = true then if hd : isDbg x = false then if hc : g.calm = true then
      match findF g.fns x with
      | some ⟨d, m, ex⟩ => if hp : 0 = d.ps.length then
          some ⟨xCall d.F [], fun {X c} o => by
            obtain ⟨f, fd, h1, h2, h3, h4, _⟩ := (o.wd.fns d m).ex
            refine pe_of (pe_callS0 h1 (o.calm hc).2 (gloB_ok o hg) (by rw [← ex]; exact h2) h3 h4 (passAt o.tk) (dbg_ok hd).1) ?_
            rw [o.K, o.mg]
            exact t_call (as := []) hp (by exact List.nodup_nil)⟩
        else none
      | none => none
    else none else none else none
  | .Call (.Name x p) (e :: es) [] pos => if hg : gloB g x = true then if hd : isDbg x = false then if hc : g.calm = true then if hs : (e :: es).all noStar = true then
      match findF g.fns x with
      | some ⟨d, m, ex⟩ => match cArs r g (e :: es) d.io with
        | some a => if hp : a.as.length = d.ps.length then if hn : (ioIx a.as).Nodup then
            some ⟨xCall d.F a.as, fun {X c} o => by
              obtain ⟨f, fd, h1, h2, h3, h4, _⟩ := (o.wd.fns d m).ex
              rw [List.all_cons, Bool.and_eq_true] at hs
              refine pe_of (pe_callS h1 (o.calm hc).2 (gloB_ok o hg) (by rw [← ex]; exact h2) h3 h4 (passAt o.tk) (a.ok o) (dbg_ok hd).1 (star_ok hs.1) (back_ok hs.2)) ?_
              rw [o.K, o.mg]
              exact t_call hp hn⟩
          else none else none
        | none => none
      | none => none
    else none else none else none else none
  | .Call (.Name x p) [] (k :: ks) pos => if hg : gloB g x = true then if hd : isDbg x = false then if hc : g.calm = true then
      match findF g.fns x with
      | some ⟨d, m, ex⟩ => match hk : kwNames (k :: ks), cKws r g (k :: ks) d.io with
        | some l, some a => if hl : l = d.ps then if hp : a.as.length = d.ps.length then if hn : (ioIx a.as).Nodup then
            some ⟨xCall d.F a.as, fun {X c} o => by
              obtain ⟨f, fd, h1, h2, h3, _, h4⟩ := (o.wd.fns d m).ex
              obtain ⟨k1, k2, k3⟩ := kw_ok (env := X.env) (pos := pos) hk
              refine pe_of (pe_callSK0 h1 (o.calm hc).2 (gloB_ok o hg) (by rw [← ex]; exact h2) h3 (h4 0) (passAt o.tk) (a.ok o) k1 (by rw [k2, hl]; rfl) (dbg_ok hd).1 (by rw [k3]; rfl)) ?_
              rw [o.K, o.mg]
              exact fun σ H Q q => tArs_mono (t_call hp hn σ H Q q) fun zs H2 q => q⟩
          else none else none else none
        | _, _ => none
      | none => none
    else none else none else none
  | .Call (.Name x p) (e :: es) (k :: ks) pos => if hg : gloB g x = true then if hd : isDbg x = false then if hc : g.calm = true then if hs : (e :: es).all noStar = true then
      match findF g.fns x with
      | some ⟨d, m, ex⟩ => match cArs r g (e :: es) (d.io.take (e :: es).length), hk : kwNames (k :: ks), cKws r g (k :: ks) (d.io.drop (e :: es).length) with
        | some a, some l, some b => if hl : l = d.ps.drop (e :: es).length then if ha : a.as.length = (e :: es).length then if hp : (a.as ++ b.as).length = d.ps.length then if hn : (ioIx (a.as ++ b.as)).Nodup then
            some ⟨xCall d.F (a.as ++ b.as), fun {X c} o => by
              obtain ⟨f, fd, h1, h2, h3, _, h4⟩ := (o.wd.fns d m).ex
              obtain ⟨k1, k2, k3⟩ := kw_ok (env := X.env) (pos := pos) hk
              have hs' := hs
              rw [List.all_cons, Bool.and_eq_true] at hs
              refine pe_of (pe_callSK h1 (o.calm hc).2 (gloB_ok o hg) (by rw [← ex]; exact h2) h3 (h4 (e :: es).length) (passAt o.tk) (a.ok o) (b.ok o) k1 (by rw [k2, hl]) (dbg_ok hd).1 (star_ok hs.1) (by rw [k3, back_ok hs']; rfl)) ?_
              rw [o.K, o.mg]
              exact fun σ H Q q => tArs_mono (tArs_app a.as b.as σ H _ (t_call hp hn σ H Q q)) fun vs H1 q => tArs_mono q.2 fun zs H2 w => by
                unfold gKV
                rw [if_pos (by rw [q.1, ha])]
                exact w⟩
          else none else none else none else none
        | _, _, _ => none
      | none => none
    else none else none else none else none
  | _ => none
end
end
end Dl

set_option Elab.async false
set_option linter.all false
set_option maxRecDepth 100000
set_option maxHeartbeats 2000000
namespace Dl
noncomputable section
open PySem PySem.Spec PyProof.Rows L2
/-! ### isinstance -/
inductive Ty where
  | int | bool | str | list | tuple | dict
def Ty.py : Ty → Str
  | .int => "int" | .bool => "bool" | .str => "str" | .list => "list" | .tuple => "tuple" | .dict => "dict"
def Ty.nm : Ty → String
  | .int => "int" | .bool => "bool" | .str => "str" | .list => "list" | .tuple => "tuple" | .dict => "dict"
theorem Ty.boot (t : Ty) : bootBuiltins t.py = some (.type t.nm) := by cases t <;> first | exact boot_int | exact boot_bool | exact boot_str | exact boot_list | exact boot_tuple | exact boot_dict
theorem Ty.dbg (t : Ty) : t.py ≠ "__name__" ∧ (t.py == ("__debug__" : Str)) = false := by cases t <;> exact ⟨by decide +kernel, by decide +kernel⟩
def tyOfName (x : Str) : Option { t : Ty // t.py = x } :=
  if h : Ty.py .int = x then some ⟨_, h⟩ else if h : Ty.py .bool = x then some ⟨_, h⟩ else if h : Ty.py .tuple = x then some ⟨_, h⟩ else
  if h : Ty.py .list = x then some ⟨_, h⟩ else if h : Ty.py .str = x then some ⟨_, h⟩ else if h : Ty.py .dict = x then some ⟨_, h⟩ else none
def isTy : Ty → D → Bool
  | .int, .int _ => true
  | .int, .bool _ => true
  | .bool, .bool _ => true
  | .str, .str _ => true
  | .list, .list _ => true
  | .tuple, .tuple _ => true
  | .dict, .dict _ => true
  | _, _ => false
def tyN : D → Option String
  | .none => some "NoneType"
  | .bool _ => some "bool"
  | .int _ => some "int"
  | .str _ => some "str"
  | .list _ => some "list"
  | .tuple _ => some "tuple"
  | .dict [] => some "dict"
  | _ => none
def gIsi (t : Ty) (d : D) : Option D := match tyN d with
  | some _ => some (.bool (isTy t d))
  | none => none
theorem kit_tab (t : Ty) : kitB "NoneType" t.nm = some false ∧ kitB "bool" t.nm = some (isTy t (.bool true)) ∧ kitB "int" t.nm = some (isTy t (.int 0)) ∧ kitB "str" t.nm = some (isTy t (.str ⟨#[]⟩)) ∧ kitB "list" t.nm = some (isTy t (.list [])) ∧
    kitB "tuple" t.nm = some (isTy t (.tuple [])) ∧ kitB "dict" t.nm = some (isTy t (.dict [])) := by cases t <;> decide +kernel
theorem kit_d {d : D} {n : String} (t : Ty) (h : tyN d = some n) : kitB n t.nm = some (isTy t d) := by
  obtain ⟨k1, k2, k3, k4, k5, k6, k7⟩ := kit_tab t
  unfold tyN at h
  split at h <;> cases h
  · rw [k1]; cases t <;> rfl
  · rw [k2]; cases t <;> rfl
  · rw [k3]; cases t <;> rfl
  · rw [k4]; cases t <;> rfl
  · rw [k5]; cases t <;> rfl
  · rw [k6]; cases t <;> rfl
  · rw [k7]
theorem RB.tyx {K : PySem.W.Frag} {H : Hp} {M : Ms} {x : V} {d : D} {n : String} (h : RB K H M x d) (e : tyN d = some n) : TyX K H x (.type n) := by
  rcases h with h | ⟨a, xs, ds, rfl, rfl, h, _⟩
  · cases h with
    | non => cases e; exact .base .non
    | bl b => cases e; exact .base (.bl b)
    | int i => cases e; exact .base (.int i)
    | str z => cases e; exact .base (.str z)
    | lst h n r =>
      cases e
      rcases h with h | ⟨o, h⟩
      · exact .base (.lst h)
      · exact .base (.frz h)
    | klst h r =>
      cases e
      rcases h with (h | ⟨o, h⟩) | ⟨its, n, h, _⟩
      · cases h
      · cases h
      · exact .kList h rfl
    | tup h n r =>
      cases e
      rcases h with h | ⟨o, h⟩
      · exact .base (.tup h)
      · exact .fTuple h
    | ktup h r =>
      cases e
      rcases h with (h | ⟨o, h⟩) | ⟨o, its, n, h, hc, _⟩
      · cases h
      · cases h
      · exact .kTuple h hc
    | dic h n => cases e; exact .base (.dK h)
  · cases e; exact .base (.lst h)
theorem t_isi {c : Ct} {a : Bo} {t : Ty} (σ : L2.St) (H : Hp) (Q : VK) (h : tX c (xOp1 (gIsi t) a) σ H Q) : tCB (rIsi c.K) (tCons (tBo c a) (tCons (tC (.ty t.nm)) tNil)) σ H Q := by
  obtain ⟨Mo, θ, E, rel, h⟩ := h
  refine tBo_of rel (Co.mono (Co.bind (rl := BoR c.K a σ) h) ?_)
  rintro x H1 ⟨o1, E1, e1, r1, t1, b1, h1⟩
  show rIsi c.K [x, .ty t.nm] H1 _
  split at h1
  · rename_i dx fx
    unfold gIsi at h1
    split at h1
    · rename_i n en
      exact ⟨x, _, _, _, _, rfl, .ty _, (b1.fin r1 fx).tyx en, kit_ty (kit_d t en), h1 _ H1 r1 Tr.refl (.bl _)⟩
    · exact h1.elim
  · exact h1.elim
/-- isinstance(x, (T, ..)) -/
def gIsiT (ts : List Ty) (d : D) : Option D := match tyN d with
  | some _ => some (.bool (ts.any fun t => isTy t d))
  | none => none
def tTys : List Ty → TA
  | [] => tNil
  | t :: r => tCons (tC (.ty t.nm)) (tTys r)
theorem tTys_of : ∀ (ts : List Ty) (σ : L2.St) (H : Hp) (Q : List V → Hp → Prop), Q (ts.map fun t => .ty t.nm) H → tTys ts σ H Q
  | [], σ, H, Q, q => q
  | t :: r, σ, H, Q, q => tTys_of r σ H _ q
theorem kitAny_d {K : PySem.W.Frag} {d : D} {n : String} (h : tyN d = some n) : ∀ ts : List Ty, PySem.W.kitAny K (.type n) (ts.map fun t => .type t.nm) = some (ts.any fun t => isTy t d)
  | [] => kitAny_nil
  | t :: r => by
    rw [List.map_cons, List.any_cons]
    refine kitAny_cons (kit_ty (kit_d t h)) (fun e => ?_) (fun e => by rw [e]; rfl)
    rw [e, kitAny_d h r]; rfl
theorem clsV_ty : ∀ ts : List Ty, Paired ClsV (ts.map fun t => V.ty t.nm) (ts.map fun t => Value.type t.nm)
  | [] => .nil
  | t :: r => .cons (.ty _) (clsV_ty r)
theorem t_isiT {c : Ct} {a : Bo} {ts : List Ty} (hz : ts.length ≤ sizeLine) (σ : L2.St) (H : Hp) (Q : VK) (h : tX c (xOp1 (gIsiT ts) a) σ H Q) : tCB (rIsiT c.K) (tCons (tBo c a) (tCons (tTup (tTys ts)) tNil)) σ H Q := by
  obtain ⟨Mo, θ, E, rel, h⟩ := h
  refine tBo_of rel (Co.mono (Co.bind (rl := BoR c.K a σ) h) ?_)
  rintro x H1 ⟨o1, E1, e1, r1, t1, b1, h1⟩
  refine tTys_of ts σ H1 _ ⟨by rw [List.length_map]; exact hz, fun p hp => ?_⟩
  show rIsiT c.K [x, .ref p] (upd H1 p (.tup _)) _
  split at h1
  · rename_i dx fx
    unfold gIsiT at h1
    split at h1
    · rename_i n en
      have ex : Ext H1 (upd H1 p (.tup (ts.map fun t => V.ty t.nm))) := Ext.upd hp
      have rb : RB c.K (upd H1 p (.tup (ts.map fun t => V.ty t.nm))) (MM Mo θ E1) x dx := by
        rcases b1.fin r1 fx with q | ⟨b, xs, ds, q1, q2, q3, q4⟩
        · exact .inl (q.mv ex.mv)
        · exact .inr ⟨b, xs, ds, q1, q2, ex _ _ q3, q4.mv ex.mv⟩
      exact ⟨x, p, _, _, _, _, rfl, upd_same, clsV_ty ts, rb.tyx en, kitAny_d en ts, Co.give r1 h1 ex (.bl _)⟩
    · exact h1.elim
  · exact h1.elim
/-! ### built-ins -/
structure B1D where
  x : Str
  g : D → Option D
  ok : ∀ (X : Cx), X.calm = true → Gl X x → X.mg x = none → ∃ r, Op1 X.K r g ∧ ∀ {e : Expr} {t : TA} {p pos : Pos}, PA X [e] t → noStar e = true → PE X (.Call (.Name x p) [e] [] pos) (tCB r t)
def bLen : B1D := ⟨"len", gLen, fun X hc hg hm => ⟨_, d_len, fun ha hs => pe_callB call_len hg hm boot_len ha (by decide) (by decide) (star_ok hs) rfl⟩⟩
def bInt : B1D := ⟨"int", gInt, fun X hc hg hm => ⟨_, d_int, fun ha hs => pe_callTy call_int1 hg hm boot_int ha (by decide) (by decide) (star_ok hs) rfl⟩⟩
def bTup : B1D := ⟨"tuple", gToTup, fun X hc hg hm => ⟨_, d_tup, fun ha hs => pe_callTy call_tuple_of hg hm boot_tuple ha (by decide) (by decide) (star_ok hs) rfl⟩⟩
def bLst : B1D := ⟨"list", gToLst, fun X hc hg hm => ⟨_, d_lst, fun ha hs => pe_callTy call_list_of hg hm boot_list ha (by decide) (by decide) (star_ok hs) rfl⟩⟩
def bAll : B1D := ⟨"all", gAll, fun X hc hg hm => ⟨_, d_all, fun ha hs => pe_callB (cr_all hc) hg hm boot_all ha (by decide) (by decide) (star_ok hs) rfl⟩⟩
def bAny : B1D := ⟨"any", gAny, fun X hc hg hm => ⟨_, d_any, fun ha hs => pe_callB (cr_any hc) hg hm boot_any ha (by decide) (by decide) (star_ok hs) rfl⟩⟩
def bSum : B1D := ⟨"sum", gSum, fun X hc hg hm => ⟨_, d_sum, fun ha hs => pe_callB (cr_sum hc) hg hm boot_sum ha (by decide) (by decide) (star_ok hs) rfl⟩⟩
def bAbs : B1D := ⟨"abs", gAbs, fun X hc hg hm => ⟨_, d_abs, fun ha hs => pe_callB call_abs hg hm boot_abs ha (by decide) (by decide) (star_ok hs) rfl⟩⟩
def b1s : List B1D := [bLen, bInt, bTup, bAll, bAny, bLst, bSum, bAbs]
structure B2D where
  x : Str
  g : D → D → Option D
  ok : ∀ (X : Cx), X.calm = true → Gl X x → X.mg x = none → ∃ r, Op2 X.K r g ∧ ∀ {e e' : Expr} {t : TA} {p pos : Pos}, PA X [e, e'] t → [e, e'].all noStar = true → PE X (.Call (.Name x p) [e, e'] [] pos) (tCB r t)
theorem all2 {e e' : Expr} (h : [e, e'].all noStar = true) : noStar e = true ∧ [e'].all noStar = true := by
  rw [List.all_cons, Bool.and_eq_true] at h
  exact h
def bMax : B2D := ⟨"max", gMax, fun X hc hg hm => ⟨_, d_max, fun ha hs => pe_callB (call_max2 hc) hg hm boot_max ha (by decide) (by decide) (star_ok (all2 hs).1) (back_ok (all2 hs).2)⟩⟩
def bMin : B2D := ⟨"min", gMin, fun X hc hg hm => ⟨_, d_min, fun ha hs => pe_callB (call_min2 hc) hg hm boot_min ha (by decide) (by decide) (star_ok (all2 hs).1) (back_ok (all2 hs).2)⟩⟩
def b2s : List B2D := [bMax, bMin]
def find1 : List B1D → (x : Str) → Option { b : B1D // b.x = x }
  | [], _ => none
  | b :: l, x => if h : b.x = x then some ⟨b, h⟩ else find1 l x
def find2 : List B2D → (x : Str) → Option { b : B2D // b.x = x }
  | [], _ => none
  | b :: l, x => if h : b.x = x then some ⟨b, h⟩ else find2 l x
section
variable (r : Cmp) (g : Cfg)
def tysOf : (es : List Expr) → Option { ts : List Ty // ts.length = es.length ∧ ∀ {X : Cx} {c : Ct}, Okk g X c → PA X es (tTys ts) }
  | [] => some ⟨[], rfl, fun o => pa_nil⟩
  | .Name x p :: es => match tyOfName x with
    | some ⟨t, e⟩ => if hg : gloB g x = true then if hb : x ∈ g.blt then match tysOf es with
        | some ⟨ts, hl, h⟩ => some ⟨t :: ts, by rw [List.length_cons, List.length_cons, hl], fun {X c} o => by
            have hd := t.dbg
            rw [e] at hd
            exact pa_cons (pe_bltn (gloB_ok o hg) (o.wd.blt x hb) (by rw [← e]; exact t.boot) rfl hd.1 hd.2) (h o)⟩
        | none => none
      else none else none
    | none => none
  | _ => none
def cIsi : (e : Expr) → Option (DE g e)
  | .Call (.Name x p) [a, .Name y q] [] pos => if hx : ("isinstance" : Str) = x then if hs : noStar a = true then if hg : gloB g x = true then if hb : x ∈ g.blt then if hg2 : gloB g y = true then if hb2 : y ∈ g.blt then
      match cB r g a, tyOfName y with
      | some b, some ⟨t, e⟩ => some ⟨xOp1 (gIsi t) b.b, fun {X c} o => by
          subst hx
          have hd := t.dbg
          rw [e] at hd
          refine pe_of (pe_callB call_isi (gloB_ok o hg) (o.wd.blt _ hb) boot_isinstance (pa_cons (b.ok o) (pa_cons (pe_bltn (v := .ty t.nm) (gloB_ok o hg2) (o.wd.blt _ hb2) (by rw [← e]; exact t.boot) rfl hd.1 hd.2) pa_nil) (star_ok hs)) (by decide) (by decide) (star_ok hs) rfl) ?_
          rw [o.K]
          exact t_isi⟩
      | _, _ => none
    else none else none else none else none else none else none
  | .Call (.Name x p) [a, .Tuple es k q] [] pos => if hx : ("isinstance" : Str) = x then if hs : noStar a = true then if hg : gloB g x = true then if hb : x ∈ g.blt then if hz : decide (es.length ≤ 1000) = true then
      match cB r g a, tysOf g es with
      | some b, some ⟨ts, hl, h⟩ => some ⟨xOp1 (gIsiT ts) b.b, fun {X c} o => by
          subst hx
          refine pe_of (pe_callB call_isiT (gloB_ok o hg) (o.wd.blt _ hb) boot_isinstance (pa_cons (b.ok o) (pa_cons (pe_tup (h o)) pa_nil) (star_ok hs)) (by decide) (by decide) (star_ok hs) rfl) ?_
          rw [o.K]
          exact t_isiT (by rw [hl]; exact le_size hz)⟩
      | _, _ => none
    else none else none else none else none else none
  | _ => none
def cBlt : (e : Expr) → Option (DE g e)
  | .Call (.Name x p) [a] [] pos => if hg : gloB g x = true then if hb : x ∈ g.blt then if hs : noStar a = true then if hc : g.calm = true then
      match find1 b1s x, cB r g a with
      | some ⟨b, e⟩, some d => some ⟨xOp1 b.g d.b, fun {X c} o => by
          subst e
          obtain ⟨r, h1, h2⟩ := b.ok X (o.calm hc).1 (gloB_ok o hg) (o.wd.blt _ hb)
          rw [o.K] at h1
          exact pe_of (h2 (pa_cons (d.ok o) pa_nil (star_ok hs)) hs) (t_op1 h1)⟩
      | _, _ => none
    else none else none else none else none
  | .Call (.Name x p) [a, a'] [] pos => if hg : gloB g x = true then if hb : x ∈ g.blt then if hs : [a, a'].all noStar = true then if hc : g.calm = true then
      match find2 b2s x, cB r g a, cB r g a' with
      | some ⟨b, e⟩, some d, some d' => some ⟨xOp2 b.g d.b d'.b, fun {X c} o => by
          subst e
          obtain ⟨r, h1, h2⟩ := b.ok X (o.calm hc).1 (gloB_ok o hg) (o.wd.blt _ hb)
          rw [o.K] at h1
          have h3 := hs
          rw [List.all_cons, List.all_cons, Bool.and_eq_true, Bool.and_eq_true] at h3
          exact pe_of (h2 (pa_cons (d.ok o) (pa_cons (d'.ok o) pa_nil (star_ok h3.2.1)) (star_ok h3.1)) hs) (t_op2b h1)⟩
      | _, _, _ => none
    else none else none else none else none
  | _ => none
end
end
end Dl

set_option Elab.async false
set_option linter.all false
set_option maxRecDepth 100000
set_option maxHeartbeats 2000000
namespace Dl
noncomputable section
open PySem PySem.Spec PyProof.Rows L2
/-! ### operations whose list is a new one -/
def mkF (d : D) (E : En) : Ou Sl := match d with
  | .list ds => .ok (.ow ds) E
  | d => .ok (.im d) E
def OpDF (K : PySem.W.Frag) (r : R2) (g : D → D → Option D) : Prop :=
  ∀ H M x y dx dy d Q, Hg H M → RB K H M x dx → RB K H M y dy → g dx dy = some d → ((∀ ds, d ≠ .list ds) → ∀ v H', Ext H H' → R K H' M v d → Q v H') →
    (∀ ds p xs, d = .list ds → H p = none → Rs K H M xs ds → Q (.ref p) (upd H p (.lst xs))) → r x y H Q
def Op1F (K : PySem.W.Frag) (r : List V → Hp → VK → Prop) (g : D → Option D) : Prop :=
  ∀ H M x dx d Q, Hg H M → RB K H M x dx → g dx = some d → ((∀ ds, d ≠ .list ds) → ∀ v H', Ext H H' → R K H' M v d → Q v H') →
    (∀ ds p xs, d = .list ds → H p = none → Rs K H M xs ds → Q (.ref p) (upd H p (.lst xs))) → r [x] H Q
def xOp1F (g : D → Option D) (a : Bo) : Xs := fun E => (a.run E).bind fun x E1 => match a.fin x E1 with
  | some dx => match g dx with
    | some d => mkF d E1
    | none => .no
  | none => .no
def xOp2F (g : D → D → Option D) (a b : Bo) : Xs := fun E => (a.run E).bind fun x E1 => (b.run E1).bind fun y E2 => match a.fin x E2 with
  | some dx => match b.fin y E2 with
    | some dy => match g dx dy with
      | some d => mkF d E2
      | none => .no
    | none => .no
  | none => .no
section
variable {c : Ct} {Mo : Ms} {θ : Nat → Addr} {E : En} {σ : L2.St} {H : Hp} {d : D} {Q : VK}
theorem CoF.give_im (r : Rel c.K Mo θ E σ H) (h : CoF c Mo θ E H (mkF d E) σ Q) (n : ∀ ds, d ≠ .list ds) (v : V) (H' : Hp) (e : Ext H H') (q : R c.K H' (MM Mo θ E) v d) : Q v H' := by
  cases d with
  | list ds => exact absurd rfl (n ds)
  | _ => exact h v H' (r.ext e) (Tr.ext e) q
theorem CoF.give_ow (r : Rel c.K Mo θ E σ H) (h : CoF c Mo θ E H (mkF d E) σ Q) (ds : List D) (p : Addr) (xs : List V) (e : d = .list ds) (hp : H p = none) (q : Rs c.K H (MM Mo θ E) xs ds) : Q (.ref p) (upd H p (.lst xs)) := by
  subst e
  exact h p xs _ (r.new hp) (Tr.ext (Ext.upd hp)) (.inr hp) (r.notMo hp) upd_same (q.mv (ins_mv hp))
end
/-- Co's bind toward a result that may be fresh -/
theorem CoF.bind {α β : Type} {rl : Hp → Ms → α → β → Prop} {c : Ct} {Mo : Ms} {θ : Nat → Addr} {E : En} {H : Hp} {σ : L2.St} {oa : Ou β} {k : β → En → Ou Sl} {Q : VK} (h : CoF c Mo θ E H (oa.bind k) σ Q) :
    Co rl c Mo θ E H oa σ fun v H1 => ∃ d E1, oa = .ok d E1 ∧ Rel c.K Mo θ E1 σ H1 ∧ Tr θ E H θ E1 H1 ∧ rl H1 (MM Mo θ E1) v d ∧ CoF c Mo θ E1 H1 (k d E1) σ Q := by
  cases oa with
  | ok d E1 =>
    intro v H1 r t q
    refine ⟨d, E1, rfl, r, t, q, ?_⟩
    have h' : CoF c Mo θ E H (k d E1) σ Q := h
    cases e : k d E1 with
    | ok s E2 =>
      rw [e] at h'
      cases s with
      | im d => exact fun v H' r' t' q' => h' v H' r' (t.trans t') q'
      | ow ds => exact fun p xs H' r' t' f n a b => h' p xs H' r' (t.trans t') (f.back t) n a b
      | io ds => exact h'
    | ex x E2 => rw [e] at h'; exact fun cls dx H' xr r' t' => h' cls dx H' xr r' (t.trans t')
    | no => rw [e] at h'; exact h'
  | ex x E1 => exact h
  | no => exact h
theorem t_op2F {c : Ct} {a b : Bo} {r : R2} {g : D → D → Option D} (hd : OpDF c.K r g) (σ : L2.St) (H : Hp) (Q : VK) (h : tXF c (xOp2F g a b) σ H Q) : tOp r (tBo c a) (tBo c b) σ H Q := by
  obtain ⟨Mo, θ, E, rel, h⟩ := h
  refine tBo_of rel (Co.mono (CoF.bind (rl := BoR c.K a σ) h) ?_)
  rintro x H1 ⟨o1, E1, e1, r1, t1, b1, h1⟩
  refine tBo_of r1 (Co.mono (CoF.bind (rl := BoR c.K b σ) h1) ?_)
  rintro y H2 ⟨o2, E2, e2, r2, t2, b2, h2⟩
  have b1' := b1.mv (t2.mv r2)
  split at h2
  · rename_i dx fx
    split at h2
    · rename_i dy fy
      split at h2
      · rename_i d eg
        exact hd H2 _ x y dx dy d _ r2.hg (b1'.fin r2 fx) (b2.fin r2 fy) eg (fun n v H' e q => CoF.give_im r2 h2 n v H' e q) (fun ds p xs e hp q => CoF.give_ow r2 h2 ds p xs e hp q)
      · exact h2.elim
    · exact h2.elim
  · exact h2.elim
theorem t_op1F {c : Ct} {a : Bo} {r : List V → Hp → VK → Prop} {g : D → Option D} (hd : Op1F c.K r g) (σ : L2.St) (H : Hp) (Q : VK) (h : tXF c (xOp1F g a) σ H Q) : tCB r (tCons (tBo c a) tNil) σ H Q := by
  obtain ⟨Mo, θ, E, rel, h⟩ := h
  refine tBo_of rel (Co.mono (CoF.bind (rl := BoR c.K a σ) h) ?_)
  rintro x H1 ⟨o1, E1, e1, r1, t1, b1, h1⟩
  show r [x] H1 _
  split at h1
  · rename_i dx fx
    split at h1
    · rename_i d eg
      exact hd H1 _ x dx d _ r1.hg (b1.fin r1 fx) eg (fun n v H' e q => CoF.give_im r1 h1 n v H' e q) (fun ds p xs e hp q => CoF.give_ow r1 h1 ds p xs e hp q)
    · exact h1.elim
  · exact h1.elim
section
variable {K : PySem.W.Frag}
theorem d_addF : OpDF K (rAddD K) gAdd := by
  intro H M x y dx dy d Q g rx ry e q f
  by_cases hl : ∃ ds, d = .list ds
  · obtain ⟨ds, rfl⟩ := hl
    unfold gAdd at e
    split at e
    · cases e
    · split at e <;> cases e
    · split at e <;> cases e
    · split at e
      · rename_i a b h; cases e
        obtain ⟨p1, xs, rfl, h1, r1⟩ := rx.lst
        obtain ⟨p2, ys, rfl, h2, r2⟩ := ry.lst
        exact .inr (.inr (.inr ⟨p1, p2, xs, ys, rfl, rfl, h1, h2, by rw [r1.length, r2.length, ← lim_eq]; exact h, fun p hp => f _ p _ rfl hp (r1.append r2)⟩))
      · cases e
    · cases e
  · exact d_add H M x y dx dy d Q g rx ry e (q fun ds z => hl ⟨ds, z⟩)
theorem d_mulF : OpDF K (rMulD K) gMul := by
  intro H M x y dx dy d Q g rx ry e q f
  by_cases hl : ∃ ds, d = .list ds
  · obtain ⟨ds, rfl⟩ := hl
    unfold gMul at e
    split at e
    · split at e <;> cases e
    · split at e
      · rename_i a k h; cases e
        simp only [Bool.and_eq_true, decide_eq_true_eq, i63_eq] at h
        obtain ⟨p1, xs, rfl, h1, r1⟩ := rx.lst
        exact .inr (.inl ⟨p1, k, xs, rfl, ry.int, h1, h.1.1, h.1.2, by rw [r1.length, ← lim_eq]; exact h.2, fun p hp => f _ p _ rfl hp (r1.rep _)⟩)
      · cases e
    · split at e <;> cases e
    · cases e
  · exact d_mul H M x y dx dy d Q g rx ry e (q fun ds z => hl ⟨ds, z⟩)
theorem d_lstF : Op1F K (fun xs H Q => ∃ p ys, xs = [.ref p] ∧ (SqL K H p ys ∨ SqT K H p ys) ∧ ∀ l, H l = none → Q (.ref l) (upd H l (.lst ys))) gToLst := by
  intro H M x dx d Q g rx e q f
  unfold gToLst at e
  split at e
  · cases e
    obtain ⟨p, xs, rfl, h1, r1⟩ := rx.lst
    exact ⟨p, xs, rfl, .inl h1.sq, fun l hl => f _ l _ rfl hl r1⟩
  · cases e
    obtain ⟨p, xs, rfl, h1, n1, r1⟩ := rx.tup
    exact ⟨p, xs, rfl, .inr h1, fun l hl => f _ l _ rfl hl r1⟩
  · cases e
end
/-- a slice -/
def xSlF (a : Bo) (lo hi : Option Xf) : Xs := fun E => (a.run E).bind fun x E1 => (xO lo E1).bind fun l E2 => (xO hi E2).bind fun h E3 => match a.fin x E3 with
  | some dx => match gSl l h dx with
    | some d => mkF d E3
    | none => .no
  | none => .no
theorem d_slF {K : PySem.W.Frag} {H : Hp} {M : Ms} {x : V} {dx d : D} {lo hi : Option Int} {Q : VK} (g : Hg H M) (rx : RB K H M x dx) (e : gSl lo hi dx = some d) (q : (∀ ds, d ≠ .list ds) → ∀ v H', Ext H H' → R K H' M v d → Q v H')
    (f : ∀ ds p xs, d = .list ds → H p = none → Rs K H M xs ds → Q (.ref p) (upd H p (.lst xs))) : rSlD K x lo hi H Q := by
  cases dx with
  | list ds =>
    cases e
    obtain ⟨p, xs, rfl, h1, r1⟩ := rx.lst
    exact .inl ⟨p, xs, rfl, h1.sq, fun p hp => f _ p _ rfl hp (r1.cut lo hi)⟩
  | tuple ds => exact d_sl g rx e (q fun es z => by cases e; cases z)
  | str z => exact d_sl g rx e (q fun es w => by
      have e' : (if z.length ≤ lim then some (PyData.str (cutS z lo hi)) else none) = some d := e
      split at e' <;> cases e'; cases w)
  | _ => cases e
theorem t_slF {c : Ct} {a : Bo} {lo hi : Option Xf} (σ : L2.St) (H : Hp) (Q : VK) (h : tXF c (xSlF a lo hi) σ H Q) : tSl (rSlD c.K) (tBo c a) (tO c lo) (tO c hi) σ H Q := by
  obtain ⟨Mo, θ, E, rel, h⟩ := h
  refine tBo_of rel (Co.mono (CoF.bind (rl := BoR c.K a σ) h) ?_)
  rintro x H1 ⟨o1, E1, e1, r1, t1, b1, h1⟩
  refine tO_of r1 (Co.mono (CoF.bind (rl := fun _ _ a b => a = b) h1) ?_)
  rintro l H2 ⟨l', E2, e2, r2, t2, b2, h2⟩
  have b2' : l = l' := b2
  subst b2'
  refine tO_of r2 (Co.mono (CoF.bind (rl := fun _ _ a b => a = b) h2) ?_)
  rintro u H3 ⟨u', E3, e3, r3, t3, b3, h3⟩
  have b3' : u = u' := b3
  subst b3'
  have b1' := (b1.mv (t2.mv r2)).mv (t3.mv r3)
  split at h3
  · rename_i dx fx
    split at h3
    · rename_i d eg
      exact d_slF r3.hg (b1'.fin r3 fx) eg (fun n v H' e q => CoF.give_im r3 h3 n v H' e q) (fun ds p xs e hp q => CoF.give_ow r3 h3 ds p xs e hp q)
    · exact h3.elim
  · exact h3.elim
/-- a if t else b, of results that may be fresh -/
def xIfF (t : Xb) (a b : Xs) : Xs := fun E => (t E).bind fun d E1 => match d with
  | true => a E1
  | false => b E1
theorem t_ifF {c : Ct} {t : Xb} {a b : Xs} (σ : L2.St) (H : Hp) (Q : VK) (h : tXF c (xIfF t a b) σ H Q) : tIf (tXb c t) (tXF c a) (tXF c b) σ H Q := by
  obtain ⟨Mo, θ, E, rel, h⟩ := h
  refine ⟨Mo, θ, E, rel, Co.mono (CoF.bind (rl := RB0) h) ?_⟩
  rintro x H1 ⟨d, E1, e1, r1, t1, b1, h1⟩
  have b1' : x = d := b1
  subst b1'
  cases x with
  | true => rw [if_pos rfl]; exact ⟨Mo, θ, E1, r1, h1⟩
  | false => rw [if_neg Bool.false_ne_true]; exact ⟨Mo, θ, E1, r1, h1⟩
end
end Dl

set_option Elab.async false
set_option linter.all false
set_option maxRecDepth 100000
set_option maxHeartbeats 2000000
namespace Dl
noncomputable section
open PySem PySem.Spec PyProof.Rows L2 RZ RT
/-! ### zip, enumerate, reversed -/
section
variable {K : PySem.W.Frag} {H H' : Hp} {M M' : Ms}
theorem R.seqL {v : V} {ds : List D} (h : R K H M v (.list ds)) : ∃ a xs, v = .ref a ∧ Rs K H M xs ds ∧ ∀ H' M', Mv H M H' M' → SqL K H' a xs := by
  cases h with
  | lst h n r => exact ⟨_, _, rfl, r, fun H' M' m => .inl (m.rd h n).1⟩
  | klst h r => exact ⟨_, _, rfl, r, fun H' M' m => h.none.sq⟩
theorem R.seqT {v : V} {ds : List D} (h : R K H M v (.tuple ds)) : ∃ a xs, v = .ref a ∧ Rs K H M xs ds ∧ ∀ H' M', Mv H M H' M' → SqT K H' a xs := by
  cases h with
  | tup h n r => exact ⟨_, _, rfl, r, fun H' M' m => .inl (m.rd h n).1⟩
  | ktup h r => exact ⟨_, _, rfl, r, fun H' M' m => sqT_none h⟩
def zipD (a b : List D) : List D := (a.zip b).map fun p => .tuple [p.1, p.2]
theorem zipD_get {a b : List D} {i : Nat} {x y : D} (h1 : a[i]? = some x) (h2 : b[i]? = some y) : (zipD a b)[i]? = some (.tuple [x, y]) := by
  unfold zipD
  rw [List.getElem?_map, List.getElem?_zip_eq_some (z := (x, y)) |>.mpr ⟨h1, h2⟩]; rfl
theorem zipD_len (a b : List D) : (zipD a b).length = min a.length b.length := by
  unfold zipD
  rw [List.length_map, List.length_zip]
theorem itd_zip {a b : Addr} {xs ys : List V} {ds es : List D} (h1 : ∀ H' M', Mv H M H' M' → SqL K H' a xs) (h2 : ∀ H' M', Mv H M H' M' → SqL K H' b ys) (r1 : Rs K H M xs ds) (r2 : Rs K H M ys es) : ItD K H M (Itz K a b) (zipD ds es) where
  go := fun i H' M' m g hi => by
    have s1 := h1 H' M' m
    have s2 := h2 H' M' m
    rw [zipD_len] at hi
    have l1 : i < xs.length := by rw [r1.length]; omega
    have l2 : i < ys.length := by rw [r2.length]; omega
    refine ⟨⟨xs, ys, xs[i], ys[i], s1, s2, List.getElem?_eq_getElem l1, List.getElem?_eq_getElem l2⟩, fun x H'' y => ?_⟩
    obtain ⟨T, u, w, rfl, hT, rfl, y1, y2⟩ := y
    obtain ⟨d, hd, rd⟩ := (r1.mv m).get' (y1 xs s1)
    obtain ⟨e, he, re⟩ := (r2.mv m).get' (y2 ys s2)
    exact ⟨Ext.upd hT, _, zipD_get hd he, new_tup g hT (.cons rd (.cons re .nil))⟩
  stop := fun H' M' m g => ⟨xs, ys, h1 H' M' m, h2 H' M' m, by rw [zipD_len, r1.length, r2.length]; omega⟩
theorem itd_zipT {a b : Addr} {xs ys : List V} {ds es : List D} (h1 : ∀ H' M', Mv H M H' M' → SqT K H' a xs) (h2 : ∀ H' M', Mv H M H' M' → SqT K H' b ys) (r1 : Rs K H M xs ds) (r2 : Rs K H M ys es) : ItD K H M (ItzT K a b) (zipD ds es) where
  go := fun i H' M' m g hi => by
    have s1 := h1 H' M' m
    have s2 := h2 H' M' m
    rw [zipD_len] at hi
    have l1 : i < xs.length := by rw [r1.length]; omega
    have l2 : i < ys.length := by rw [r2.length]; omega
    refine ⟨⟨xs, ys, xs[i], ys[i], s1, s2, List.getElem?_eq_getElem l1, List.getElem?_eq_getElem l2⟩, fun x H'' y => ?_⟩
    obtain ⟨T, u, w, rfl, hT, rfl, y1, y2⟩ := y
    obtain ⟨d, hd, rd⟩ := (r1.mv m).get' (y1 xs s1)
    obtain ⟨e, he, re⟩ := (r2.mv m).get' (y2 ys s2)
    exact ⟨Ext.upd hT, _, zipD_get hd he, new_tup g hT (.cons rd (.cons re .nil))⟩
  stop := fun H' M' m g => ⟨xs, ys, h1 H' M' m, h2 H' M' m, by rw [zipD_len, r1.length, r2.length]; omega⟩
def enumD (a : List D) : List D := zipD (rgD 0 a.length) a
theorem itd_enum {a : Addr} {xs : List V} {ds : List D} (h1 : ∀ H' M', Mv H M H' M' → SqL K H' a xs) (r1 : Rs K H M xs ds) : ItD K H M (Ite K a) (enumD ds) where
  go := fun i H' M' m g hi => by
    have s1 := h1 H' M' m
    unfold enumD at hi ⊢
    rw [zipD_len, rgD_len] at hi
    have l1 : i < xs.length := by rw [r1.length]; omega
    refine ⟨⟨xs, xs[i], s1, List.getElem?_eq_getElem l1⟩, fun x H'' y => ?_⟩
    obtain ⟨T, u, rfl, hT, rfl, y1⟩ := y
    obtain ⟨d, hd, rd⟩ := (r1.mv m).get' (y1 xs s1)
    have e := zipD_get (rgD_get (lo := 0) (n := ds.length) (i := i) (by omega)) hd
    rw [Int.zero_add] at e
    exact ⟨Ext.upd hT, _, e, new_tup g hT (.cons (.int _) (.cons rd .nil))⟩
  stop := fun H' M' m g => ⟨xs, h1 H' M' m, by unfold enumD; rw [zipD_len, rgD_len, r1.length]; omega⟩
theorem itd_rev {a : Addr} {xs : List V} {ds : List D} (h1 : ∀ H' M', Mv H M H' M' → SqL K H' a xs) (r1 : Rs K H M xs ds) : ItD K H M (Itv K a xs.length) ds.reverse where
  go := fun i H' M' m g hi => by
    have s1 := h1 H' M' m
    rw [List.length_reverse] at hi
    have hl := r1.length
    have l1 : xs.length - 1 - i < xs.length := by omega
    refine ⟨⟨by omega, xs, xs[xs.length - 1 - i], s1, List.getElem?_eq_getElem l1⟩, fun x H'' y => ?_⟩
    obtain ⟨rfl, y1⟩ := y
    obtain ⟨d, hd, rd⟩ := (r1.mv m).get' (y1 xs s1)
    exact ⟨Ext.refl, d, by rw [List.getElem?_reverse hi, ← hl]; exact hd, rd⟩
  stop := fun H' M' m g => by rw [List.length_reverse, r1.length]; exact Nat.le_refl _
theorem itd_revT {a : Addr} {xs : List V} {ds : List D} (h1 : ∀ H' M', Mv H M H' M' → SqT K H' a xs) (r1 : Rs K H M xs ds) : ItD K H M (ItvT K a xs.length) ds.reverse where
  go := fun i H' M' m g hi => by
    have s1 := h1 H' M' m
    rw [List.length_reverse] at hi
    have hl := r1.length
    have l1 : xs.length - 1 - i < xs.length := by omega
    refine ⟨⟨by omega, xs, xs[xs.length - 1 - i], s1, List.getElem?_eq_getElem l1⟩, fun x H'' y => ?_⟩
    obtain ⟨rfl, y1⟩ := y
    obtain ⟨d, hd, rd⟩ := (r1.mv m).get' (y1 xs s1)
    exact ⟨Ext.refl, d, by rw [List.getElem?_reverse hi, ← hl]; exact hd, rd⟩
  stop := fun H' M' m g => by rw [List.length_reverse, r1.length]; exact Nat.le_refl _
end
theorem Mv.refl {H : Hp} {M : Ms} : Mv H M H M := ⟨fun _ _ h _ => h, fun _ h => .inl h⟩
theorem Mv.trans {H1 H2 H3 : Hp} {M1 M2 M3 : Ms} (a : Mv H1 M1 H2 M2) (b : Mv H2 M2 H3 M3) : Mv H1 M1 H3 M3 where
  fr := fun x o h n => by
    refine b.fr x o (a.fr x o h n) fun z => ?_
    rcases a.ow x z with q | q
    · exact n q
    · rw [h] at q; cases q
  ow := fun x h => by
    rcases b.ow x h with q | q
    · exact a.ow x q
    · by_cases hn : M1 x
      · exact .inl hn
      · refine .inr ?_
        cases e : H1 x with
        | none => rfl
        | some o => rw [a.fr x o e hn] at q; cases q
def xiZip (f f' : Xf) : Xi := fun E => (f E).bind fun d E1 => (f' E1).bind fun e E2 => match d, e with
  | .list a, .list b => .ok (zipD a b) E2
  | .tuple a, .tuple b => .ok (zipD a b) E2
  | _, _ => .no
theorem ti_zip {c : Ct} {f f' : Xf} (σ : L2.St) (H : Hp) (R : It → Hp → Prop) (h : tG (ItD c.K) c (xiZip f f') σ H R) : iZipA c.K (tCons (tX c f) (tCons (tX c f') tNil)) σ H R := by
  obtain ⟨Mo, θ, E, rel, h⟩ := h
  refine ⟨Mo, θ, E, rel, Co.mono (Co.bind (rl := Dl.R c.K) h) ?_⟩
  rintro v H1 ⟨d, E1, e1, r1, t1, q1, h1⟩
  refine ⟨Mo, θ, E1, r1, Co.mono (Co.bind (rl := Dl.R c.K) h1) ?_⟩
  rintro w H2 ⟨e, E2, e2, r2, t2, q2, h2⟩
  have q1' := q1.mv (t2.mv r2)
  split at h2
  · obtain ⟨a, xs, rfl, ra, sa⟩ := q1'.seqL
    obtain ⟨b, ys, rfl, rb, sb⟩ := q2.seqL
    exact ⟨a, b, xs, ys, rfl, .inl ⟨sa _ _ Mv.refl, sb _ _ Mv.refl, h2 _ H2 r2 Tr.refl (itd_zip sa sb ra rb)⟩⟩
  · obtain ⟨a, xs, rfl, ra, sa⟩ := q1'.seqT
    obtain ⟨b, ys, rfl, rb, sb⟩ := q2.seqT
    exact ⟨a, b, xs, ys, rfl, .inr ⟨sa _ _ Mv.refl, sb _ _ Mv.refl, h2 _ H2 r2 Tr.refl (itd_zipT sa sb ra rb)⟩⟩
  · exact h2.elim
def xiEnum (f : Xf) : Xi := fun E => (f E).bind fun d E1 => match d with
  | .list a => .ok (enumD a) E1
  | _ => .no
theorem ti_enum {c : Ct} {f : Xf} (σ : L2.St) (H : Hp) (R : It → Hp → Prop) (h : tG (ItD c.K) c (xiEnum f) σ H R) : iEnum c.K (tCons (tX c f) tNil) σ H R := by
  obtain ⟨Mo, θ, E, rel, h⟩ := h
  refine ⟨Mo, θ, E, rel, Co.mono (Co.bind (rl := Dl.R c.K) h) ?_⟩
  rintro v H1 ⟨d, E1, e1, r1, t1, q1, h1⟩
  split at h1
  · obtain ⟨a, xs, rfl, ra, sa⟩ := q1.seqL
    exact ⟨a, xs, rfl, sa _ _ Mv.refl, h1 _ H1 r1 Tr.refl (itd_enum sa ra)⟩
  · exact h1.elim
def xiRev (f : Xf) : Xi := fun E => (f E).bind fun d E1 => match d with
  | .list a => .ok a.reverse E1
  | .tuple a => .ok a.reverse E1
  | _ => .no
theorem ti_rev {c : Ct} {f : Xf} (σ : L2.St) (H : Hp) (R : It → Hp → Prop) (h : tG (ItD c.K) c (xiRev f) σ H R) : iRevA c.K (tX c f) σ H R := by
  obtain ⟨Mo, θ, E, rel, h⟩ := h
  refine ⟨Mo, θ, E, rel, Co.mono (Co.bind (rl := Dl.R c.K) h) ?_⟩
  rintro v H1 ⟨d, E1, e1, r1, t1, q1, h1⟩
  split at h1
  · obtain ⟨a, xs, rfl, ra, sa⟩ := q1.seqL
    exact ⟨a, xs, rfl, .inl ⟨sa _ _ Mv.refl, h1 _ H1 r1 Tr.refl (itd_rev sa ra)⟩⟩
  · obtain ⟨a, xs, rfl, ra, sa⟩ := q1.seqT
    exact ⟨a, xs, rfl, .inr ⟨sa _ _ Mv.refl, h1 _ H1 r1 Tr.refl (itd_revT sa ra)⟩⟩
  · exact h1.elim
end
end Dl

set_option Elab.async false
set_option linter.all false
set_option maxRecDepth 100000
set_option maxHeartbeats 2000000
namespace Dl
noncomputable section
open PySem PySem.Spec PyProof.Rows L2
/-! ### comprehensions of two clauses -/
def lcI (tg : D → En → Option En) (tt : Xb) (elt : Xf) (vs : List Nat) : List D → List D → En → Ou (List D)
  | [], acc, E => .ok acc E
  | d :: ds, acc, E => if freeS E vs then match tg d (wipeE E vs) with
    | none => .no
    | some E2 => match tt E2 with
      | .ok true E3 => match elt E3 with
        | .ok y E4 => if acc.length < lim then lcI tg tt elt vs ds (acc ++ [y]) E4 else .no
        | _ => .no
      | .ok false E3 => lcI tg tt elt vs ds acc E3
      | _ => .no
    else .no
def lcO (tg : D → En → Option En) (tt : Xb) (it1 : Xi) (tg1 : D → En → Option En) (tt1 : Xb) (elt : Xf) (ws vs : List Nat) : List D → List D → En → Ou (List D)
  | [], acc, E => if freeS E ws then .ok acc (wipeE E ws) else .no
  | d :: ds, acc, E => if freeS E ws then match tg d (wipeE E ws) with
    | none => .no
    | some E2 => match tt E2 with
      | .ok true E3 => match it1 E3 with
        | .ok ds1 E4 => match lcI tg1 tt1 elt vs ds1 acc E4 with
          | .ok acc' E5 => lcO tg tt it1 tg1 tt1 elt ws vs ds acc' E5
          | _ => .no
        | _ => .no
      | .ok false E3 => lcO tg tt it1 tg1 tt1 elt ws vs ds acc E3
      | _ => .no
    else .no
def xLc2 (it : Xi) (tg : D → En → Option En) (tt : Xb) (it1 : Xi) (tg1 : D → En → Option En) (tt1 : Xb) (elt : Xf) (ws vs : List Nat) : Xs := fun E => (it E).bind fun ds E1 =>
  if freeS E1 ws then match lcO tg tt it1 tg1 tt1 elt ws vs ds [] E1 with
    | .ok acc E2 => .ok (.ow acc) (rstE E1 E2 ws)
    | _ => .no
  else .no
theorem wipe_idem (τ : L2.St) (l : List Nat) : L2.wipe (L2.wipe τ l) l = L2.wipe τ l := by
  refine List.ext_getElem? fun j => ?_
  rw [wipe_at, wipe_at, wipe_length]
  split <;> rfl
theorem wipe_sub {τ : L2.St} {l m : List Nat} (h : ∀ i ∈ l, i ∈ m) : L2.wipe (L2.wipe τ l) m = L2.wipe τ m := by
  refine List.ext_getElem? fun j => ?_
  rw [wipe_at (l := m), wipe_at (l := m), wipe_length]
  by_cases hm : j ∈ m
  · rw [if_pos hm, if_pos hm]
  · rw [if_neg hm, if_neg hm, wipe_at, if_neg fun z => hm (h j z)]
theorem mvU {H : Hp} {M : Ms} {D : Addr} {o : HO} (h : M D) : Mv H M (upd H D o) M := ⟨fun b o' e n => by rw [upd_ne (fun z => n (by rw [z]; exact h))]; exact e, fun a z => .inl z⟩
theorem t_lc2 {c : Ct} {it it1 : Xi} {wi wi1 : TI} {is is1 ws vs : List Nat} {tg tg1 : D → En → Option En} {g g1 : TG} {tt tt1 : Xb} {elt : Xf} (hI : ∀ σ H R, tG (ItD c.K) c it σ H R → wi σ H R) (hg : TgD c is tg g) (hs : ∀ i ∈ is, i ∈ ws)
    (hI1 : ∀ σ H R, tG (ItD c.K) (c0 c) it1 σ H R → wi1 σ H R) (hg1 : TgD c is1 tg1 g1) (hs1 : ∀ i ∈ is1, i ∈ vs) (hv : ∀ i ∈ vs, i ∈ ws)
    (σ : L2.St) (H : Hp) (Q : VK) (h : tXF c (xLc2 it tg tt it1 tg1 tt1 elt ws vs) σ H Q) : tLc2 wi g (tXb (c0 c) tt) wi1 g1 (tXb (c0 c) tt1) (tX (c0 c) elt) ws vs σ H Q := by
  obtain ⟨Mo, θ, E, rel, h⟩ := h
  have h0 : CoF c Mo θ E H ((it E).bind fun ds E1 => if freeS E1 ws then match lcO tg tt it1 tg1 tt1 elt ws vs ds [] E1 with
    | .ok acc E2 => Ou.ok (.ow acc) (rstE E1 E2 ws)
    | _ => Ou.no
  else Ou.no) σ Q := h
  refine hI σ H _ ⟨Mo, θ, E, rel, ?_⟩
  cases e : it E with
  | no => rw [e] at h0; exact h0
  | ex x E1 => rw [e] at h0; exact h0
  | ok ds E1 =>
    rw [e, Ou.bind_ok] at h0
    intro J H1 r1 t1 itd D hD
    by_cases hf : freeS E1 ws = true
    · rw [if_pos hf] at h0
      cases el : lcO tg tt it1 tg1 tt1 elt ws vs ds [] E1 with
      | no => rw [el] at h0; exact h0.elim
      | ex x E2 => rw [el] at h0; exact h0.elim
      | ok acc0 E2 =>
        rw [el] at h0
        have mvA : ∀ {E' : En} {H' : Hp}, Tr θ E1 H1 θ E' H' → Mv H1 (MM Mo θ E1) H' (MM (ins Mo D) θ E') := fun {E' H'} t' => ⟨fun b o h n => t'.fr b o h fun z => n (.inr z), fun a h => by
          rcases h with (h | h) | h
          · exact .inl (.inl h)
          · rw [h]; exact .inr hD
          · exact (t'.ow a h).imp .inr id⟩
        have nD : ∀ {EE : En} {HH : Hp} {σ0 : L2.St}, Rel c.K (ins Mo D) θ EE σ0 HH → ¬ Own EE θ D := fun {EE HH σ0} r ⟨j, x, es, a1, a2, a3⟩ => (r.ow j x es a1 a2).2.1 (.inr a3.symm)
        refine ⟨fun i m H' => m = ds.length - i ∧ i ≤ ds.length ∧ ∃ E' σ' acc xs, Rel c.K (ins Mo D) θ E' σ' H' ∧ L2.wipe σ' ws = L2.wipe σ ws ∧ Tr θ E1 H1 θ E' H' ∧ H' D = some (.lst xs) ∧ Rs c.K H' (MM (ins Mo D) θ E') xs acc ∧ lcO tg tt it1 tg1 tt1 elt ws vs (ds.drop i) acc E' = .ok acc0 E2,
          ⟨ds.length, by simp, Nat.zero_le _, E1, σ, [], [], r1.new hD, rfl, Tr.ext (Ext.upd hD), upd_same, .nil, el⟩, ?_⟩
        rintro i m H' ⟨rfl, hi, E', σ', acc, xs, r', hw', t', hD', q', el'⟩
        have mv1 := mvA t'
        by_cases hlt : i < ds.length
        · obtain ⟨go, yl⟩ := itd.go i H' _ mv1 r'.hg hlt
          have hd : ds.drop i = ds[i] :: ds.drop (i + 1) := List.drop_eq_getElem_cons hlt
          rw [hd] at el'
          unfold lcO at el'
          by_cases hf' : freeS E' ws = true
          · rw [if_pos hf'] at el'
            obtain ⟨rw1, tw1, ow1⟩ := r'.wipe hf'
            rw [hw'] at rw1
            refine .inr ⟨go, fun H2 => ∃ E'' σ'' acc' ys, Rel c.K (ins Mo D) θ E'' σ'' H2 ∧ L2.wipe σ'' ws = L2.wipe σ ws ∧ Tr θ E1 H1 θ E'' H2 ∧ H2 D = some (.lst ys) ∧ Rs c.K H2 (MM (ins Mo D) θ E'') ys acc' ∧ lcO tg tt it1 tg1 tt1 elt ws vs (ds.drop (i + 1)) acc' E'' = .ok acc0 E2,
              fun H2 hn => ⟨ds.length - (i + 1), by omega, rfl, hlt, hn⟩, fun x H'' y => ?_⟩
            obtain ⟨ex, d, ed, rx⟩ := yl x H'' y
            have ed' : d = ds[i] := by rw [List.getElem?_eq_getElem hlt] at ed; exact (Option.some.inj ed).symm
            subst ed'
            have mvw : Mv H'' (MM (ins Mo D) θ E') H'' (MM (ins Mo D) θ (wipeE E' ws)) := ⟨fun _ _ h _ => h, fun a h => .inl (h.elim .inl fun z => .inr ((ow1 a).mp z))⟩
            cases eg : tg ds[i] (wipeE E' ws) with
            | none => rw [eg] at el'; cases el'
            | some E3 =>
              rw [eg] at el'
              dsimp only at el'
              refine hg (ins Mo D) θ (wipeE E' ws) E3 (L2.wipe σ ws) H'' x ds[i] _ (rw1.ext ex) (rx.mv mvw) eg fun us r3 t3 => ?_
              have hwv : L2.wipe (setAll (L2.wipe σ ws) is us) ws = L2.wipe σ ws := (wipe_setAll hs _ _).trans (wipe_idem _ _)
              generalize setAll (L2.wipe σ ws) is us = σ2 at r3 hwv
              refine ⟨hwv, ins Mo D, θ, E3, r3, ?_⟩
              have tA : Tr θ E1 H1 θ E3 H'' := (t'.trans ((Tr.ext (θ := θ) (E := E') ex).trans (by
                have := tw1
                exact ⟨fun b o h _ => h, fun a h => .inl ((ow1 a).mp h), this.fx⟩ : Tr θ E' H'' θ (wipeE E' ws) H''))).trans t3
              have qA : Rs c.K H'' (MM (ins Mo D) θ E3) xs acc := ((q'.mv ex.mv).mv mvw).mv (t3.mv r3)
              have hDA : H'' D = some (.lst xs) := ex _ _ hD'
              cases et : tt E3 with
              | no => rw [et] at el'; cases el'
              | ex x E4 => rw [et] at el'; cases el'
              | ok b E4 =>
                rw [et] at el'
                intro b' H4 r4 t4 hb
                have hb' : b' = b := hb
                subst hb'
                have hD4 : H4 D = some (.lst xs) := t4.fr _ _ hDA (nD r3)
                have q4 := qA.mv (t4.mv r4)
                cases b' with
                | false =>
                  rw [if_neg Bool.false_ne_true]
                  exact ⟨E4, _, acc, xs, r4, hwv, tA.trans t4, hD4, q4, el'⟩
                | true =>
                  rw [if_pos rfl]
                  dsimp only at el'
                  cases e1 : it1 E4 with
                  | no => rw [e1] at el'; cases el'
                  | ex x E5 => rw [e1] at el'; cases el'
                  | ok ds1 E5 =>
                    rw [e1] at el'
                    dsimp only at el'
                    refine hI1 σ2 H4 _ ⟨ins Mo D, θ, E4, r4, ?_⟩
                    rw [e1]
                    intro J1 H5 r5 t5 itd1
                    have hD5 : H5 D = some (.lst xs) := t5.fr _ _ hD4 (nD r4)
                    have q5 := q4.mv (t5.mv r5)
                    have t05 := (tA.trans t4).trans t5
                    cases ei : lcI tg1 tt1 elt vs ds1 acc E5 with
                    | no => rw [ei] at el'; cases el'
                    | ex x E6 => rw [ei] at el'; cases el'
                    | ok acc1 E6 =>
                      rw [ei] at el'
                      dsimp only at el'
                      refine ⟨fun j k HH => k = ds1.length - j ∧ j ≤ ds1.length ∧ ∃ EE σσ aa zz, Rel c.K (ins Mo D) θ EE σσ HH ∧ L2.wipe σσ vs = L2.wipe σ2 vs ∧ Tr θ E1 H1 θ EE HH ∧ HH D = some (.lst zz) ∧ Rs c.K HH (MM (ins Mo D) θ EE) zz aa ∧ lcI tg1 tt1 elt vs (ds1.drop j) aa EE = .ok acc1 E6 ∧ Mv H5 (MM (ins Mo D) θ E5) HH (MM (ins Mo D) θ EE),
                        ⟨ds1.length, by simp, Nat.zero_le _, E5, σ2, acc, xs, r5, rfl, t05, hD5, q5, ei, Mv.refl⟩, ?_⟩
                      rintro j k HH ⟨rfl, hj, EE, σσ, aa, zz, rr, hww, tt0, hDD, qq, ee, mm⟩
                      by_cases hlt1 : j < ds1.length
                      · obtain ⟨go1, yl1⟩ := itd1.go j HH _ mm rr.hg hlt1
                        have hd1 : ds1.drop j = ds1[j] :: ds1.drop (j + 1) := List.drop_eq_getElem_cons hlt1
                        rw [hd1] at ee
                        unfold lcI at ee
                        by_cases hf1 : freeS EE vs = true
                        · rw [if_pos hf1] at ee
                          obtain ⟨rv1, tv1, ov1⟩ := rr.wipe hf1
                          rw [hww] at rv1
                          refine .inr ⟨go1, fun H6 => ∃ EE' σ' aa' zz', Rel c.K (ins Mo D) θ EE' σ' H6 ∧ L2.wipe σ' vs = L2.wipe σ2 vs ∧ Tr θ E1 H1 θ EE' H6 ∧ H6 D = some (.lst zz') ∧ Rs c.K H6 (MM (ins Mo D) θ EE') zz' aa' ∧ lcI tg1 tt1 elt vs (ds1.drop (j + 1)) aa' EE' = .ok acc1 E6 ∧ Mv H5 (MM (ins Mo D) θ E5) H6 (MM (ins Mo D) θ EE'),
                            fun H6 hn => ⟨ds1.length - (j + 1), by omega, rfl, hlt1, hn⟩, fun x1 H6 y1 => ?_⟩
                          obtain ⟨ex1, d1, ed1, rx1⟩ := yl1 x1 H6 y1
                          have ed1' : d1 = ds1[j] := by rw [List.getElem?_eq_getElem hlt1] at ed1; exact (Option.some.inj ed1).symm
                          subst ed1'
                          have mvw1 : Mv H6 (MM (ins Mo D) θ EE) H6 (MM (ins Mo D) θ (wipeE EE vs)) := ⟨fun _ _ h _ => h, fun a h => .inl (h.elim .inl fun z => .inr ((ov1 a).mp z))⟩
                          cases eg1 : tg1 ds1[j] (wipeE EE vs) with
                          | none => rw [eg1] at ee; cases ee
                          | some E7 =>
                            rw [eg1] at ee
                            dsimp only at ee
                            refine hg1 (ins Mo D) θ (wipeE EE vs) E7 (L2.wipe σ2 vs) H6 x1 ds1[j] _ (rv1.ext ex1) (rx1.mv mvw1) eg1 fun us1 r7 t7 => ?_
                            have hwv1 : L2.wipe (setAll (L2.wipe σ2 vs) is1 us1) vs = L2.wipe σ2 vs := (wipe_setAll hs1 _ _).trans (wipe_idem _ _)
                            generalize setAll (L2.wipe σ2 vs) is1 us1 = σ3 at r7 hwv1
                            refine ⟨hwv1, ins Mo D, θ, E7, r7, ?_⟩
                            have tB : Tr θ EE HH θ (wipeE EE vs) H6 := (Tr.ext (θ := θ) (E := EE) ex1).trans (by
                              have := tv1
                              exact ⟨fun b o h _ => h, fun a h => .inl ((ov1 a).mp h), this.fx⟩ : Tr θ EE H6 θ (wipeE EE vs) H6)
                            have tC : Tr θ E1 H1 θ E7 H6 := (tt0.trans tB).trans t7
                            have m7 : Mv HH (MM (ins Mo D) θ EE) H6 (MM (ins Mo D) θ E7) := (ex1.mv.trans mvw1).trans (t7.mv r7)
                            have q7 := qq.mv m7
                            have hD6 : H6 D = some (.lst zz) := ex1 _ _ hDD
                            cases et1 : tt1 E7 with
                            | no => rw [et1] at ee; cases ee
                            | ex x E8 => rw [et1] at ee; cases ee
                            | ok b1 E8 =>
                              rw [et1] at ee
                              intro b' H8 r8 t8 hb1
                              have hb1' : b' = b1 := hb1
                              subst hb1'
                              have hD8 : H8 D = some (.lst zz) := t8.fr _ _ hD6 (nD r7)
                              have q8 := q7.mv (t8.mv r8)
                              cases b' with
                              | false =>
                                rw [if_neg Bool.false_ne_true]
                                exact ⟨E8, _, aa, zz, r8, hwv1, tC.trans t8, hD8, q8, ee, (mm.trans m7).trans (t8.mv r8)⟩
                              | true =>
                                rw [if_pos rfl]
                                dsimp only at ee
                                refine ⟨ins Mo D, θ, E8, r8, ?_⟩
                                cases e9 : elt E8 with
                                | no => rw [e9] at ee; cases ee
                                | ex x E9 => rw [e9] at ee; cases ee
                                | ok z E9 =>
                                  rw [e9] at ee
                                  dsimp only at ee
                                  intro v H9 r9 t9 qz
                                  have hD9 : H9 D = some (.lst zz) := t9.fr _ _ hD8 (nD r8)
                                  have q9 := q8.mv (t9.mv r9)
                                  by_cases hz : aa.length < lim
                                  · rw [if_pos hz] at ee
                                    refine ⟨zz, hD9, by rw [q9.length, ← lim_eq]; exact hz, E9, _, aa ++ [z], zz ++ [v], r9.updMo, hwv1, ?_, upd_same, (Rs.updMo r9 q9).append (.cons (R.updMo r9 qz) .nil), ee, ?_⟩
                                    · have tD := (tC.trans t8).trans t9
                                      exact ⟨fun b o h n => by rw [upd_ne (ne_of_none h hD)]; exact tD.fr b o h n, tD.ow, tD.fx⟩
                                    · exact (((mm.trans m7).trans (t8.mv r8)).trans (t9.mv r9)).trans (mvU (.inl (.inr rfl)))
                                  · rw [if_neg hz] at ee; cases ee
                        · rw [if_neg hf1] at ee; cases ee
                      · have e' : j = ds1.length := by omega
                        subst e'
                        rw [List.drop_length] at ee
                        unfold lcI at ee
                        cases ee
                        refine .inl ⟨itd1.stop HH _ mm rr.hg, E6, σσ, acc1, zz, rr, ?_, tt0, hDD, qq, el'⟩
                        rw [← wipe_sub hv, hww, wipe_sub hv, hwv]
          · rw [if_neg hf'] at el'; cases el'
        · have e' : i = ds.length := by omega
          subst e'
          refine .inl ⟨itd.stop H' _ mv1 r'.hg, ?_⟩
          rw [List.drop_length] at el'
          unfold lcO at el'
          by_cases hf' : freeS E' ws = true
          · rw [if_pos hf'] at el'
            cases el'
            obtain ⟨rw1, tw1, ow1⟩ := r'.wipe hf'
            rw [hw'] at rw1
            have mvw : Mv H' (MM (ins Mo D) θ E') H' (MM (ins Mo D) θ (wipeE E' ws)) := ⟨fun _ _ h _ => h, fun a h => .inl (h.elim .inl fun z => .inr ((ow1 a).mp z))⟩
            have hl : E1.length = (wipeE E' ws).length := by
              rw [← r1.len, ← rw1.len, wipe_length]
            obtain ⟨rr, oo'⟩ := rw1.restore (E0 := E1) hl hf (fun i hi d g => by
              obtain ⟨v, a, b⟩ := r1.im i d g
              exact ⟨v, a, (b.mv mv1).mv mvw⟩) (fun i hi => by rw [gs_wipe, if_pos hi])
            have mvr : Mv H' (MM (ins Mo D) θ E') H' (MM (ins Mo D) θ (rstE E1 (wipeE E' ws) ws)) := ⟨fun _ _ h _ => h, fun a h => .inl (h.elim .inl fun z => .inr ((ow1 a).mp ((oo' a).mp z)))⟩
            refine h0 D xs H' rr (t1.trans ⟨t'.fr, fun a h => t'.ow a ((ow1 a).mp ((oo' a).mp h)), fun j es h => ?_⟩) (Frs.back t1 (.inr hD)) (r1.notMo hD) hD' (q'.mv mvr)
            obtain ⟨_, es', h'⟩ := t'.fx j es h
            have hj : j ∉ ws := fun z => by
              have h1 := List.all_eq_true.mp hf j z
              rw [h] at h1
              exact Bool.false_ne_true h1
            exact ⟨rfl, es', by rw [gs_rst hl, if_neg hj, gs_wipe, if_neg hj]; exact h'⟩
          · rw [if_neg hf'] at el'; cases el'
    · rw [if_neg hf] at h0; exact h0.elim
end
end Dl

set_option Elab.async false
set_option linter.all false
set_option maxRecDepth 100000
set_option maxHeartbeats 2000000
namespace Dl
noncomputable section
open PySem PySem.Spec PyProof.Rows L2 RZ RT
/-! ### targets -/
structure DG2 (g : Cfg) (tg : Expr) where
  is : List Nat
  f : D → En → Option En
  t : PySem.W.Frag → TG
  ok : ∀ {X : Cx} {c : Ct}, Okk g X c → PG X tg (t X.K)
  tgd : ∀ c : Ct, TgD c is f (t c.K)
/-- a name, stored -/
structure StN (g : Cfg) (x : Str) where
  i : Nat
  ok : ∀ {X : Cx} {c : Ct} {p : Pos}, Okk g X c → PG X (.Name x p) (gName i)
  at_ : g.N[i]? = some x
  loc : locB g x = true
def stN (g : Cfg) (x : Str) : Option (StN g x) := if h : locB g x = true then
    match slot g x with
    | some s => some ⟨s.i, fun {X c p} o => pg_name (by rw [o.N]; exact o.nd) (by rw [o.N]; exact s.at_) (locB_ok o h).1 (locB_ok o h).2, s.at_, h⟩
    | none => none
  else none
/-- names, stored from the left -/
def gNames : List Nat → TGs
  | [] => gNil
  | i :: r => gCons (gName i) (gNames r)
theorem gNames_of : ∀ (is : List Nat) (xs : List V) (σ : L2.St) (H : Hp) (Q : L2.St → Hp → Prop), xs.length = is.length → Q (setAll σ is xs) H → gNames is xs σ H Q
  | [], [], σ, H, Q, _, q => ⟨rfl, q⟩
  | [], _ :: _, _, _, _, h, _ => by cases h
  | _ :: _, [], _, _, _, h, _ => by cases h
  | i :: is, x :: xs, σ, H, Q, h, q => ⟨x, xs, rfl, gNames_of is xs (σ.set i (some x)) H Q (Nat.succ.inj h) q⟩
structure StNs (g : Cfg) (es : List Expr) where
  is : List Nat
  len : is.length = es.length
  ok : ∀ {X : Cx} {c : Ct}, Okk g X c → PGs X es (gNames is)
  asn : ∀ env, (assignEach es env).length = es.length ∧ (assignEach es env).findIdx? (·.1) = none
def stNs (g : Cfg) : (es : List Expr) → Option (StNs g es)
  | [] => some ⟨[], rfl, fun o => pgs_nil, fun env => ⟨rfl, rfl⟩⟩
  | .Name x p :: es => match stN g x, stNs g es with
    | some s, some r => some ⟨s.i :: r.is, congrArg Nat.succ r.len, fun o => pgs_cons (s.ok o) (r.ok o) rfl, fun env => by
        obtain ⟨h1, h2⟩ := r.asn env
        refine ⟨congrArg Nat.succ h1, ?_⟩
        show ((false, _) :: assignEach es env).findIdx? (·.1) = none
        rw [List.findIdx?_cons, h2]; rfl⟩
    | _, _ => none
  | _ => none
section
variable (r : Cmp) (g : Cfg)
def cTg : (e : Expr) → Option (DG2 g e)
  | .Name x p => match stN g x with
    | some s => some ⟨[s.i], tgN s.i, fun _ => gName s.i, fun o => s.ok o, fun _ => tg_n⟩
    | none => none
  | .Tuple es k p => if hc : g.calm = true then match stNs g es with
    | some s => some ⟨s.is, tgT s.is, fun K => L2.gTup K s.is.length (gNames s.is), fun {X c} o => pg_tup (o.calm hc).1 (s.ok o) (by rw [(s.asn _).1, s.len]) (s.asn _).2, fun _ => tg_t (gNames_of s.is)⟩
    | none => none
    else none
  | _ => none
/-! ### what is walked -/
theorem star1 {e : Expr} {env : Env} (h : noStar e = true) : starEach [e] env = [(false, eval e env)] := star_ok h
/-- what is walked, by one rule for all states -/
structure DI2 (g : Cfg) (tg it : Expr) where
  f : Xi
  w : Ct → TI
  pi : ∀ {X : Cx} {c : Ct}, Okk g X c → PI X tg it (w c)
  ti : ∀ c σ H R, tG (ItD c.K) c f σ H R → w c σ H R
theorem DI2.ok {g : Cfg} {tg it : Expr} (d : DI2 g tg it) {X : Cx} {c : Ct} (o : Okk g X c) : ∃ wi : TI, PI X tg it wi ∧ ∀ σ H R, tG (ItD c.K) c d.f σ H R → wi σ H R := ⟨d.w c, d.pi o, d.ti c⟩
def cIter0 (tg e : Expr) : Option (DI2 g tg e) := match r.e g e with
  | some d => some ⟨xiSeq d.f, fun c σ H R => iList c.K (tX c d.f) σ H R ∨ iTup c.K (tX c d.f) σ H R ∨ iStr (tX c d.f) σ H R, fun {X c} o => by
      rw [← o.K]
      exact pi_or (pi_list (d.ok o)) (pi_or (pi_tup (d.ok o)) (pi_str (d.ok o))), fun c σ H R q => ti_seq σ H R q⟩
  | none => none
def cIterR (tg : Expr) : (e : Expr) → Option (DI2 g tg e)
  | .Call (.Name x p) [a] [] pos => if hx : ("range" : Str) = x then if hg : gloB g x = true then if hb : x ∈ g.blt then if hs : noStar a = true then
      match r.e g a with
      | some d => some ⟨xiRg1 d.f, fun c => iRng1 (tCons (tX c d.f) tNil), fun {X c} o => by
          subst hx
          exact pi_of (pi_range1 (gloB_ok o hg) (o.wd.blt _ hb) (pa_of (pa_cons (d.ok o) pa_nil (star_ok hs)) (fun _ _ _ q => q)) (star1 hs)) fun _ _ _ q => q, fun c σ H R q => ti_rg1 σ H R q⟩
      | none => none
    else none else none else none else none
  | .Call (.Name x p) [a, b] [] pos => if hx : ("range" : Str) = x then if hg : gloB g x = true then if hb : x ∈ g.blt then if hs : noStar a = true then if hs2 : noStar b = true then
      match r.e g a, r.e g b with
      | some d, some d' => some ⟨xiRg2 d.f d'.f, fun c => iRng2 (tCons (tX c d.f) (tCons (tX c d'.f) tNil)), fun {X c} o => by
          subst hx
          exact pi_range2 (gloB_ok o hg) (o.wd.blt _ hb) (pa_cons (d.ok o) (pa_cons (d'.ok o) pa_nil (star_ok hs2)) (star_ok hs)) (by rw [star_ok hs, star1 hs2]) (star1 hs2), fun c σ H R q => ti_rg2 σ H R q⟩
      | _, _ => none
    else none else none else none else none else none
  | _ => none
def cIterV (tg : Expr) : (e : Expr) → Option (DI2 g tg e)
  | .Call (.Name x p) [a] [] pos => if hx : ("reversed" : Str) = x then if hg : gloB g x = true then if hb : x ∈ g.blt then if hs : noStar a = true then
      match r.e g a with
      | some d => some ⟨xiRev d.f, fun c => iRevA c.K (tX c d.f), fun {X c} o => by
          subst hx
          rw [← o.K]
          exact pi_revA (gloB_ok o hg) (o.wd.blt _ hb) (d.ok o) (star1 hs), fun c σ H R q => ti_rev σ H R q⟩
      | none => none
    else none else none else none else none
  | _ => none
def cIterE : (tg e : Expr) → Option (DI2 g tg e)
  | .Tuple elts kk tpos, .Call (.Name x p) [a] [] pos => if hx : ("enumerate" : Str) = x then if hg : gloB g x = true then if hb : x ∈ g.blt then if hs : noStar a = true then
      match r.e g a with
      | some d => some ⟨xiEnum d.f, fun c => iEnum c.K (tCons (tX c d.f) tNil), fun {X c} o => by
          subst hx
          rw [← o.K]
          exact pi_enum (gloB_ok o hg) (o.wd.blt _ hb) (pa_cons (d.ok o) pa_nil (star_ok hs)) (star1 hs), fun c σ H R q => ti_enum σ H R q⟩
      | none => none
    else none else none else none else none
  | .Tuple elts kk tpos, .Call (.Name x p) [a, b] [] pos => if hx : ("zip" : Str) = x then if hg : gloB g x = true then if hb : x ∈ g.blt then if hs : noStar a = true then if hs2 : noStar b = true then
      match r.e g a, r.e g b with
      | some d, some d' => some ⟨xiZip d.f d'.f, fun c => iZipA c.K (tCons (tX c d.f) (tCons (tX c d'.f) tNil)), fun {X c} o => by
          subst hx
          rw [← o.K]
          exact pi_zipA (gloB_ok o hg) (o.wd.blt _ hb) (pa_cons (d.ok o) (pa_cons (d'.ok o) pa_nil (star_ok hs2)) (star_ok hs)) (by rw [star_ok hs, star1 hs2]) (by rw [star1 hs2]; rfl), fun c σ H R q => ti_zip σ H R q⟩
      | _, _ => none
    else none else none else none else none else none
  | _, _ => none
def orI {α : Type} (a : Option α) (b : Option α) : Option α := match a with
  | some x => some x
  | none => b
def cIter (tg e : Expr) : Option (DI2 g tg e) := orI (cIterR r g tg e) (orI (cIterV r g tg e) (orI (cIterE r g tg e) (cIter0 r g tg e)))
theorem folded_ok {e : Expr} {env : Env} (h : notSet e = true) (x : Value) : foldedSetIterable e env x = pure x := by
  cases e <;> first | rfl | exact absurd h Bool.false_ne_true
/-! ### comprehensions -/
def blkG (scope : Scope) : Cfg := { g with sc := relS scope g.sc, top := false, cl := fun x => scope.names.lookup x == some .cell }
def ownOf (N : List Str) : List (Str × NameKind) → List (Str × Nat)
  | [] => []
  | (x, .local) :: r => match ixOf x N with
    | some i => (x, i) :: ownOf N r
    | none => ownOf N r
  | (x, .cell) :: r => match ixOf x N with
    | some i => (x, i) :: ownOf N r
    | none => ownOf N r
  | _ :: r => ownOf N r
def blkB (N : List Str) (sc scope : Scope) (own : List (Str × Nat)) : Bool :=
  decide (scope.kind = .function) && (scope.names.all (fun y => decide (scope.names.lookup y.1 = some y.2)) && (own.all (fun p => decide (N[p.2]? = some p.1)) &&
    (scope.names.all (fun y => decide (y.2 ≠ .free) || (decide (sc.names.lookup y.1 = some .cell) || decide (sc.names.lookup y.1 = some .free))) &&
     scope.names.all (fun y => (decide (y.2 ≠ .local) && decide (y.2 ≠ .cell)) || ((own.map (·.1)).contains y.1 || !N.contains y.1)))))
theorem blkB_ok {N : List Str} {sc scope : Scope} {own : List (Str × Nat)} (h : blkB N sc scope own = true) : BlkOk N sc scope own := by
  unfold blkB at h
  simp only [Bool.and_eq_true, Bool.or_eq_true, List.all_eq_true, decide_eq_true_eq, Bool.not_eq_true', List.contains_iff_mem] at h
  obtain ⟨h1, h2, h3, h4, h5⟩ := h
  refine ⟨h1, h2, h3, fun y hy e => ?_, fun y hy e => ?_⟩
  · rcases h4 y hy with q | q
    · exact absurd e q
    · exact q
  · rcases h5 y hy with q | q
    · rcases e with e | e
      · exact absurd e q.1
      · exact absurd e q.2
    · rcases q with q | q
      · exact .inl q
      · exact .inr fun z => by
          have : N.contains y.1 = true := List.contains_iff_mem.mpr z
          rw [q] at this; cases this
theorem Okk.blk {X : Cx} {c : Ct} {scope : Scope} (o : Okk g X c) (hk : scope.kind = .function) (s : Shared) (H : Hp) (C : Addr) (cl : List (Str × Addr)) (fp : List Addr) :
    Okk (blkG g scope) (X.blk s H scope (compEnvC scope cl C X.env) fp) (c0 c) where
  K := o.K
  mg := o.mg
  N := o.N
  nd := o.nd
  sc := by
    show relS scope X.env.scope = relS scope g.sc
    rw [o.sc]
  kind := hk
  fn := fun x h => h
  calm := o.calm
  hu := o.hu
  tk := takes0
  po := PassesOwn.never
  stk := fun h => by cases h
  wd := ⟨o.wd.fns, o.wd.glo, o.wd.blt, o.wd.exs, o.wd.subs⟩
def xbYes : Xb := fun E => .ok true E
theorem t_yes {c : Ct} (σ : L2.St) (H : Hp) (Q : Bool → Hp → Prop) (h : tXb c xbYes σ H Q) : tYes σ H Q := by
  obtain ⟨Mo, θ, E, rel, h⟩ := h
  exact h true H rel Tr.refl rfl
theorem pts_of {X : Cx} {es : List Expr} {t t' : TT} (h : PTs X es t) (i : ∀ σ H Q, t' σ H Q → t σ H Q) : PTs X es t' := ⟨fun pins s σ H Q I q => h.run pins s σ H Q I (i σ H Q q)⟩
structure DIfs (g : Cfg) (es : List Expr) where
  f : Xb
  ok : ∀ {X : Cx} {c : Ct}, Okk g X c → PTs X es (tXb c f)
def cIfs : (es : List Expr) → Option (DIfs g es)
  | [] => some ⟨xbYes, fun o => pts_of pts_nil t_yes⟩
  | [e] => match r.t g e with
    | some d => some ⟨d.f, fun o => pts_one (d.ok o)⟩
    | none => none
  | _ => none
def cLc : (e : Expr) → Option (DF g e)
  | .ListComp elt [⟨tg, it, ifs, 0⟩] scope p =>
    if hc : g.calm = true then if hb : blkB g.N g.sc scope (ownOf g.N scope.names) = true then if hs : notSet it = true then
      match cIter r g tg it, cTg (blkG g scope) tg, cIfs r (blkG g scope) ifs, r.e (blkG g scope) elt with
      | some di, some dg, some dt, some de => if hw : dg.is.all (fun i => ((ownOf g.N scope.names).map (·.2)).contains i) = true then
          some ⟨xLc di.f dg.f dt.f de.f ((ownOf g.N scope.names).map (·.2)), fun {X c} o => by
            have hB := blkB_ok hb
            have hk : ∀ (s : Shared) (H : Hp) (C : Addr) (cl : List (Str × Addr)) (fp : List Addr), Okk (blkG g scope) (X.blk s H scope (compEnvC scope cl C X.env) fp) (c0 c) := o.blk g hB.kind
            obtain ⟨wi, h1, h2⟩ := di.ok o
            refine pe_of (pe_lc (g := dg.t X.K) (o.calm hc).1 (by rw [o.N]; exact o.nd) h1 (by rw [o.N, o.sc]; exact hB) (fun s H C cl fp => dg.ok (hk s H C cl fp)) (fun s H C cl fp => dt.ok (hk s H C cl fp)) (fun s H C cl fp => de.ok (hk s H C cl fp)) (folded_ok hs)) ?_
            have h3 : TgD c dg.is dg.f (dg.t X.K) := by
              have := dg.tgd c
              rw [o.K]
              exact this
            refine t_lc h2 h3 (fun i hi => ?_)
            have := List.all_eq_true.mp hw i hi
            exact List.contains_iff_mem.mp this⟩
        else none
      | _, _, _, _ => none
    else none else none else none
  | .ListComp elt [⟨tg, it, ifs, 0⟩, ⟨tg1, it1, ifs1, 0⟩] scope p =>
    if hc : g.calm = true then if hb : blkB g.N g.sc scope (ownOf g.N scope.names) = true then if hs : notSet it = true then if hs1 : notSet it1 = true then
      match cIter r g tg it, cTg (blkG g scope) tg, cIfs r (blkG g scope) ifs, cIter r (blkG g scope) tg1 it1, cTg (blkG g scope) tg1, cIfs r (blkG g scope) ifs1, r.e (blkG g scope) elt with
      | some di, some dg, some dt, some di1, some dg1, some dt1, some de => if hw : dg.is.all (fun i => ((ownOf g.N scope.names).map (·.2)).contains i) = true then if hw1 : dg1.is.all (fun i => ((ownOf g.N scope.names).map (·.2)).contains i) = true then
          some ⟨xLc2 di.f dg.f dt.f di1.f dg1.f dt1.f de.f ((ownOf g.N scope.names).map (·.2)) dg1.is, fun {X c} o => by
            have hB := blkB_ok hb
            have hk : ∀ (s : Shared) (H : Hp) (C : Addr) (cl : List (Str × Addr)) (fp : List Addr), Okk (blkG g scope) (X.blk s H scope (compEnvC scope cl C X.env) fp) (c0 c) := o.blk g hB.kind
            obtain ⟨wi, h1, h2⟩ := di.ok o
            have hv : ∀ i ∈ dg1.is, i ∈ (ownOf g.N scope.names).map (·.2) := fun i hi => List.contains_iff_mem.mp (List.all_eq_true.mp hw1 i hi)
            refine pe_of (pe_lc2 (g := dg.t X.K) (wi1 := di1.w (c0 c)) (g1 := dg1.t X.K) (vs1 := dg1.is) (o.calm hc).1 (by rw [o.N]; exact o.nd) h1 (by rw [o.N, o.sc]; exact hB) hv (fun s H C cl fp => dg.ok (hk s H C cl fp)) (fun s H C cl fp => dt.ok (hk s H C cl fp)) (fun s H C cl fp => di1.pi (hk s H C cl fp)) (fun s H C cl fp => dg1.ok (hk s H C cl fp)) (fun s H C cl fp => dt1.ok (hk s H C cl fp)) (fun s H C cl fp => de.ok (hk s H C cl fp)) (folded_ok hs) (fun env => folded_ok hs1)) ?_
            have h3 : TgD c dg.is dg.f (dg.t X.K) := by
              have := dg.tgd c
              rw [o.K]
              exact this
            have h4 : TgD c dg1.is dg1.f (dg1.t X.K) := by
              have := dg1.tgd c
              rw [o.K]
              exact this
            exact t_lc2 h2 h3 (fun i hi => List.contains_iff_mem.mp (List.all_eq_true.mp hw i hi)) (di1.ti (c0 c)) h4 (fun i hi => hi) hv⟩
        else none else none
      | _, _, _, _, _, _, _ => none
    else none else none else none else none
  | _ => none
end
end
end Dl

set_option Elab.async false
set_option linter.all false
set_option maxRecDepth 100000
set_option maxHeartbeats 2000000
namespace Dl
noncomputable section
open PySem PySem.Spec PyProof.Rows L2
/-! ### small readings -/
theorem CoF.mono {c : Ct} {Mo : Ms} {θ : Nat → Addr} {E : En} {H : Hp} {o : Ou Sl} {σ : L2.St} {Q Q' : VK} (h : CoF c Mo θ E H o σ Q) (i : ∀ v H', Q v H' → Q' v H') : CoF c Mo θ E H o σ Q' := by
  cases o with
  | ok r E' =>
    cases r with
    | im d => exact fun v H' r t q => i _ _ (h v H' r t q)
    | ow ds => exact fun p xs H' r t f n a b => i _ _ (h p xs H' r t f n a b)
    | io ds => exact h
  | ex x E' => exact h
  | no => exact h
theorem tXF_mono {c : Ct} {f : Xs} {σ : L2.St} {H : Hp} {Q Q' : VK} (h : tXF c f σ H Q) (i : ∀ v H', Q v H' → Q' v H') : tXF c f σ H Q' := by
  obtain ⟨Mo, θ, E, r, h⟩ := h
  exact ⟨Mo, θ, E, r, h.mono i⟩
theorem t_set {c : Ct} {i : Nat} {f : Xs} (Dn : Ends) (σ : L2.St) (H : Hp) (h : tS c (sSet i f) Dn σ H) : tAsg (tXF c f) (gName i) Dn σ H :=
  tXF_mono (t_scons σ H _ (t_par Dn σ H h)) fun v H1 q => (t_snil σ H1 _ q).2
/-- a, b = x, y through a tuple -/
theorem t_parT {c : Ct} {is : List Nat} {fs : Xss} (hz : is.length ≤ sizeLine) {K : PySem.W.Frag} (hK : K = c.K) (Dn : Ends) (σ : L2.St) (H : Hp) (h : tS c (sPar is fs) Dn σ H) : tAsg (tTup (tXFs c fs)) (L2.gTup K is.length (gNames is)) Dn σ H := by
  obtain ⟨Mo, θ, E, rel, h⟩ := h
  refine ⟨Mo, θ, E, rel, ?_⟩
  have h' : CoS c Mo θ E H ((fs E).st fun xs E1 => match putS is xs E1 with
    | some E2 => Rt.nx E2
    | none => Rt.no) Dn := h
  cases e : fs E with
  | no => rw [e] at h'; exact h'
  | ex x E1 => rw [e] at h'; exact h'.ex σ
  | ok xs E1 =>
    rw [e] at h'
    intro vs ps H1 r1 t1 hp en
    rw [Ou.st_ok] at h'
    cases ep : putS is xs E1 with
    | none => rw [ep] at h'; exact h'.elim
    | some E2 =>
      rw [ep] at h'
      have hl : vs.length = is.length := by rw [en.length]; exact putS_len ep
      refine ⟨by rw [hl]; exact hz, fun p hp0 => ⟨p, vs, rfl, .inl (.inl upd_same), hl, gNames_of is vs σ _ _ hl ?_⟩⟩
      exact put_all (Q := fun σ' _ => Dn.nx σ' (upd H1 p (.tup vs))) is ep r1 t1 hp en fun θ' σ' r' t' => h' θ' σ' _ (r'.ext (Ext.upd hp0)) (t'.trans (Tr.ext (Ext.upd hp0)))
/-- xs[i] op= e -/
def sAugI (g : D → D → Option D) (i : Nat) (ix e : Xf) : Sf := fun E => match getL E i with
  | none => .no
  | some _ => (ix E).st fun k E1 => match k with
    | .int k => match getL E1 i with
      | none => .no
      | some ds1 => match gIdx (.list ds1) (.int k) with
        | none => .no
        | some x => (e E1).st fun y E2 => match g x y with
          | none => .no
          | some d => match getL E2 i with
            | none => .no
            | some ds => match ixN ds.length k with
              | some j => .nx (setL E2 i (ds.set j d))
              | none => .no
    | _ => .no
theorem t_augI {c : Ct} {i : Nat} {ix e : Xf} {r : R2} {g : D → D → Option D} (hd : OpD c.K r g) (Dn : Ends) (σ : L2.St) (H : Hp) (h : tS c (sAugI g i ix e) Dn σ H) : tAugS (tVar i) (tX c ix) (tX c e) (rIxL c.K) r rSetL Dn σ H := by
  obtain ⟨Mo, θ, E, rel, h⟩ := h
  unfold sAugI at h
  split at h
  · exact h.elim
  · rename_i ds0 g0
    refine ⟨_, (getL_own rel g0).1, Mo, θ, E, rel, Co.mono (CoS.bind (rl := R c.K) (σ := σ) h) ?_⟩
    rintro k H1 ⟨dk, E1, e1, r1, t1, q1, h1⟩
    split at h1
    · rename_i kk
      cases q1
      split at h1
      · exact h1.elim
      · rename_i ds1 g1
        split at h1
        · exact h1.elim
        · rename_i x gx
          obtain ⟨a1, xs1, a2, a3⟩ := getL_own r1 g1
          have a1' : σ[i]? = some (some (V.ref (θ i))) := a1
          obtain ⟨v, ev, q2⟩ := atI_rs a3 (show atI ds1 kk = some x from gx)
          refine ⟨θ i, xs1, kk, v, rfl, rfl, SqL.of a2, ev, Mo, θ, E1, r1, Co.mono (CoS.bind (rl := R c.K) (σ := σ) h1) ?_⟩
          rintro y H3 ⟨dy, E3, e3, r3, t3, q3, h3⟩
          split at h3
          · exact h3.elim
          · rename_i d gd
            split at h3
            · exact h3.elim
            · rename_i ds g3
              split at h3
              · rename_i j hj
                refine hd H3 _ v y x dy d _ r3.hg (.inl (q2.mv (t3.mv r3))) (.inl q3) gd fun z H4 ex4 q4 => ?_
                have r4 := r3.ext ex4
                obtain ⟨b1, xs, b2, b3⟩ := getL_own r4 g3
                refine ⟨_, xs, _, j, rfl, rfl, b2, by rw [b3.length]; exact hj, ?_⟩
                obtain ⟨r5, t5⟩ := r4.setL g3 (b3.set q4 j)
                exact h3 θ σ _ r5 ((Tr.ext ex4).trans t5)
              · exact h3.elim
    · exact h1.elim
/-- return, without a value -/
def sRetN : Sf := fun E => .rt (.im .none) E
theorem t_retN {c : Ct} (Dn : Ends) (σ : L2.St) (H : Hp) (h : tS c sRetN Dn σ H) : tRetN Dn σ H := by
  obtain ⟨Mo, θ, E, rel, h⟩ := h
  exact h θ σ .non H rel Tr.refl .non
/-- x op= y of ints and texts -/
def gAugAdd : D → D → Option D
  | .int i, .int j => some (.int (i + j))
  | .str a, .str b => if a.length + b.length ≤ lim then some (.str (a ++ b)) else none
  | _, _ => none
theorem d_augAdd {K : PySem.W.Frag} : OpD K (fun x y H Q => rI0 (fun i j => .int (i + j)) x y H Q ∨ ∃ i j, x = .str i ∧ y = .str j ∧ i.length + j.length ≤ sizeLine ∧ Q (.str (i ++ j)) H) gAugAdd := by
  intro H M x y dx dy d Q g rx ry e q
  unfold gAugAdd at e
  split at e
  · cases e; exact .inl ⟨_, _, rx.int, ry.int, q _ _ Ext.refl (.int _)⟩
  · split at e
    · rename_i h; cases e; exact .inr ⟨_, _, rx.str, ry.str, by rw [← lim_eq]; exact h, q _ _ Ext.refl (.str _)⟩
    · cases e
  · cases e
structure AugD (op : Operator) where
  g : D → D → Option D
  ok : ∀ (X : Cx), ∃ r : R2, OpR X (inplaceOp op) r ∧ OpD X.K r g
def gMulS : D → D → Option D := gII fun i j => if (decide (i.natAbs < 2 ^ 63) || decide (j.natAbs < 2 ^ 63)) = true then some (.int (i * j)) else none
theorem d_mulS {K : PySem.W.Frag} : OpD K (rI CMul fun i j => .int (i * j)) gMulS := d_ii fun i j h => by
  simp only [Bool.or_eq_true, decide_eq_true_eq] at h
  unfold CMul
  omega
def gFdivS : D → D → Option D := gII fun i j => if (decide (0 < j) && decide (j < i30)) = true then some (.int (i / j)) else none
theorem d_fdivS {K : PySem.W.Frag} : OpD K (rI CDiv fun i j => .int (i / j)) gFdivS := d_ii fun i j h => by
  simp only [Bool.and_eq_true, decide_eq_true_eq, i30_eq] at h
  exact h
def augD : (op : Operator) → Option (AugD op)
  | .Add => some ⟨gAugAdd, fun X => ⟨_, iop_add.or iop_add_str, d_augAdd⟩⟩
  | .Sub => some ⟨gMinus, fun X => ⟨_, iop_sub, d_ii0⟩⟩
  | .Mult => some ⟨gMulS, fun X => ⟨_, iop_mul, d_mulS⟩⟩
  | .FloorDiv => some ⟨gFdivS, fun X => ⟨_, iop_fdiv, d_fdivS⟩⟩
  | .Mod => some ⟨gMod, fun X => ⟨_, iop_mod, d_mod⟩⟩
  | .BitAnd => some ⟨gAnd, fun X => ⟨_, iop_and, d_ii0⟩⟩
  | .BitOr => some ⟨gOr, fun X => ⟨_, iop_or, d_ii0⟩⟩
  | .BitXor => some ⟨gXor, fun X => ⟨_, iop_xor, d_ii0⟩⟩
  | .RShift => some ⟨gShr, fun X => ⟨_, iop_shr, d_shr⟩⟩
  | _ => none
/-! ### try -/
def tryL (exs : List Str) (subs : List (Str × Str)) (x : Xc) (E : En) : List (Str × Sf) → Rt
  | [] => .ex x E
  | (c, h) :: r => if exs.contains x.cls then
      if subs.contains (x.cls, c) then match h E with
        | .ex _ _ => .no
        | o => o
      else tryL exs subs x E r
    else .no
def sTry (exs : List Str) (subs : List (Str × Str)) (bd : Sf) (hs : List (Str × Sf)) : Sf := fun E => match bd E with
  | .ex x E1 => tryL exs subs x E1 hs
  | o => o
inductive TrL (g : Cfg) (c : Ct) : List (Str × Sf) → List (Value × (Addr → Value → Option Addr → TS)) → Prop
  | nil : TrL g c [] []
  | cons {x : Str} {f : Sf} {cv : Value} {hs : List (Str × Sf)} {l : List (Value × (Addr → Value → Option Addr → TS))} : x ∈ g.exs → c.mg x = some cv → TrL g c hs l → TrL g c ((x, f) :: hs) ((cv, fun _ _ _ => tS (c0 c) f) :: l)
theorem tryL_of {g : Cfg} {c : Ct} {Mo : Ms} {θ : Nat → Addr} {E : En} {σ : L2.St} {H : Hp} {Dn : Ends} {x : Xc} {cls : Value} {dx : Option Addr}
    (hsub : ∀ x ∈ g.exs, ∀ y ∈ g.exs, ∀ u v, c.mg x = some u → c.mg y = some v → PySem.W.exmOne c.K u v = some (decide ((x, y) ∈ g.subs))) (rel : Rel c.K Mo θ E σ H) (xr : XR c.K c.mg H (MM Mo θ E) x cls dx)
    {hs : List (Str × Sf)} {l : List (Value × (Addr → Value → Option Addr → TS))} (t : TrL g c hs l) (h : CoS c Mo θ E H (tryL g.exs g.subs x E hs) Dn) : wMany c.K c.W Dn l cls dx σ H := by
  induction t with
  | nil => exact h θ σ cls dx H xr rel Tr.refl
  | @cons y f cv hs l hy hm t ih =>
    unfold tryL at h
    split at h
    · rename_i hx
      have hx' : x.cls ∈ g.exs := List.contains_iff_mem.mp hx
      refine ⟨_, hsub _ hx' _ hy _ _ xr.1 hm, fun hb a ha => ?_, fun hb => ?_⟩
      · have hb' : g.subs.contains (x.cls, y) = true := List.contains_iff_mem.mpr (of_decide_eq_true hb)
        rw [if_pos hb'] at h
        refine ⟨Mo, θ, E, rel, ?_⟩
        cases e : f E with
        | nx E1 => rw [e] at h; exact h
        | rt r E1 => rw [e] at h; cases r <;> exact h
        | bk E1 => rw [e] at h; exact h
        | ct E1 => rw [e] at h; exact h
        | ex z E1 => rw [e] at h; exact h.elim
        | no => rw [e] at h; exact h
      · have hb' : ¬ g.subs.contains (x.cls, y) = true := fun z => of_decide_eq_false hb (List.contains_iff_mem.mp z)
        rw [if_neg hb'] at h
        exact ih h
    · exact h.elim
theorem t_try {g : Cfg} {c : Ct} {bd : Sf} {hs : List (Str × Sf)} {l : List (Value × (Addr → Value → Option Addr → TS))} (hsub : ∀ x ∈ g.exs, ∀ y ∈ g.exs, ∀ u v, c.mg x = some u → c.mg y = some v → PySem.W.exmOne c.K u v = some (decide ((x, y) ∈ g.subs)))
    (t : TrL g c hs l) (Dn : Ends) (σ : L2.St) (H : Hp) (h : tS c (sTry g.exs g.subs bd hs) Dn σ H) : tS { c with W := wMany c.K c.W Dn l } bd Dn σ H := by
  obtain ⟨Mo, θ, E, rel, h⟩ := h
  refine ⟨Mo, θ, E, rel, ?_⟩
  unfold sTry at h
  cases e : bd E with
  | nx E1 => rw [e] at h; exact h
  | rt r E1 => rw [e] at h; cases r <;> exact h
  | bk E1 => rw [e] at h; exact h
  | ct E1 => rw [e] at h; exact h
  | no => rw [e] at h; exact h
  | ex x E1 =>
    rw [e] at h
    intro θ' σ' cls dx H' xr r' t'
    exact tryL_of hsub r' xr t (CoS.move t' h)
end
end Dl

set_option Elab.async false
set_option linter.all false
set_option maxRecDepth 100000
set_option maxHeartbeats 4000000
namespace Dl
noncomputable section
open PySem PySem.Spec PyProof.Rows L2
/-! ### the compiler's cases -/
def isComp : Expr → Bool
  | .ListComp _ _ _ _ => true
  | .SetComp _ _ _ _ => true
  | .DictComp _ _ _ _ _ => true
  | _ => false
theorem swaps_no {e : Expr} {t : Option Expr} {l : Nat} {env : Env} (h : isComp e = false) : swapsWith e t l env = pure false := by
  cases e <;> first | rfl | cases h
theorem swaps_sub {e o i : Expr} {p : Pos} {l : Nat} {env : Env} : swapsWithSole [.Subscript o i p] e l env = pure false := by
  cases e <;> rfl
theorem swaps_tup {e : Expr} {es : List Expr} {k : Nat} {p : Pos} {l : Nat} {env : Env} : swapsWithSole [.Tuple es k p] e l env = pure false := by
  cases e <;> rfl
theorem stores_sub {e o i : Expr} {p : Pos} {env : Env} : swappedStores [.Subscript o i p] e env = pure none := by
  cases e <;> rfl
def notTup : Expr → Bool
  | .Tuple _ _ _ => false
  | _ => true
theorem stores_no {e : Expr} {ts : List Expr} {k : Nat} {p : Pos} {env : Env} (h : notTup e = true) : swappedStores [.Tuple ts k p] e env = pure none := by
  cases e <;> first | rfl | cases h
def isStar : Expr → Bool
  | .Starred .. => true
  | _ => false
/-- how a, b = x, y is stored -/
def swB (sc : Scope) (ts vs : List Expr) : Option (Option (List Str)) :=
  if (!(ts.length == 2 || ts.length == 3) || vs.length != ts.length) = true then some none
  else if (vs.any fun | .Starred .. => true | _ => false) = true then some none
  else
    let line := (ts.head?.map (·.pos.line)).getD 0
    let names := ts.filterMap fun
      | .Name id pos => if (sc.names.lookup id == some .local && pos.line == line) = true then some id else none
      | _ => none
    if (names.length != ts.length || names.eraseDups.length != names.length) = true then some none
    else if vs.all (foldedForSure 8) = true then some none
    else if vs.all (constantsAlone 8) = true then none
    else some (some names)
theorem blk_kind {env : Env} (h : env.scope.kind = .function) : env.blockKind = .function := by
  unfold Env.blockKind; rw [h]; rfl
theorem swB_ok {env : Env} {ts vs : List Expr} {k k2 : Nat} {p p2 : Pos} {o : Option (List Str)} (hb : env.blockKind = .function) (h : swB env.scope ts vs = some o) : swappedStores [.Tuple ts k p] (.Tuple vs k2 p2) env = pure o := by
  unfold swB at h
  unfold swappedStores
  have hb' : (env.blockKind != ScopeKind.function) = false := by rw [hb]; rfl
  simp only [hb', Bool.or_false]
  by_cases c : (!(ts.length == 2 || ts.length == 3) || vs.length != ts.length) = true
  · rw [if_pos c] at h; cases h; rw [if_pos c]
  · rw [if_neg c] at h; rw [if_neg c]
    split
    · rename_i c2
      have h2 := (if_pos c2).symm.trans h
      cases h2; rfl
    · rename_i c2
      have h2 := (if_neg c2).symm.trans h
      dsimp only at h2
      split
      · rename_i c3
        have h3 := (if_pos c3).symm.trans h2
        cases h3; rfl
      · rename_i c3
        have h3 := (if_neg c3).symm.trans h2
        split
        · rename_i c4
          have h4 := (if_pos c4).symm.trans h3
          cases h4; rfl
        · rename_i c4
          have h4 := (if_neg c4).symm.trans h3
          split
          · rename_i c5
            have h5 := (if_pos c5).symm.trans h4
            cases h5
          · rename_i c5
            have h5 := (if_neg c5).symm.trans h4
            cases h5; rfl
section
variable (r : Cmp) (g : Cfg)
def cAsgName (x : Str) (py : Pos) (e : Expr) (pos : Pos) : Option (DS g (.Assign [.Name x py] e pos)) := if hs : isComp e = false then
    match stN g x, r.f g e with
    | some s, some d => some ⟨sSet s.i d.f, fun {X c} o => ps_of (ps_set (by rw [o.N]; exact o.nd) (by rw [o.N]; exact s.at_) (locB_ok o s.loc).1 (d.ok o) (swaps_no hs) (locB_ok o s.loc).2) t_set⟩
    | _, _ => none
  else none
theorem swap2 {o : Option (List Str)} {X : Cx} {c : Ct} (ok : Okk g X c) {ts vs : List Expr} {k k2 : Nat} {p p2 : Pos} (h : swB g.sc ts vs = some o) : swappedStores [.Tuple ts k p] (.Tuple vs k2 p2) X.env = pure o :=
  swB_ok (blk_kind (by rw [ok.sc]; exact ok.kind)) (by rw [ok.sc]; exact h)
def cPar (ts : List Expr) (kt : Nat) (pt : Pos) (vs : List Expr) (k2 : Nat) (p2 pos : Pos) : Option (DS g (.Assign [.Tuple ts kt pt] (.Tuple vs k2 p2) pos)) :=
  if hc : g.calm = true then if hz : decide (ts.length ≤ 1000) = true then
    if hw : swB g.sc ts vs = some none then
      match stNs g ts, cFs r g vs with
      | some s, some d => some ⟨sPar s.is d.f, fun {X c} o => ps_of (ps_asg (pe_tup (d.ok o)) (pg_tup (n := s.is.length) (o.calm hc).1 (s.ok o) (by rw [(s.asn _).1, s.len]) (s.asn _).2) swaps_tup (swap2 g o hw) rfl) (t_parT (by rw [s.len]; exact le_size hz) o.K)⟩
      | _, _ => none
    else match ts, vs with
    | [.Name x px, .Name y py], [a, b] => if hw2 : swB g.sc [.Name x px, .Name y py] [a, b] = some (some [x, y]) then
        match slot g x, slot g y, cFs r g [a, b] with
        | some i, some j, some d => if hij : i.i ≠ j.i then if hx : g.sc.names.lookup x = some .local then if hy : g.sc.names.lookup y = some .local then
            some ⟨sPar [i.i, j.i] d.f, fun {X c} o => ps_of (ps_par (o.calm hc).1 (by rw [o.N]; exact o.nd) (by rw [o.N]; exact i.at_) (by rw [o.N]; exact j.at_) hij (by rw [o.sc]; exact hx) (by rw [o.sc]; exact hy) (d.ok o) (swap2 g o hw2) swaps_tup) (fun Dn σ H q => by
              obtain ⟨Mo, θ, E, rel, q⟩ := t_par Dn σ H q
              refine ⟨Mo, θ, E, rel, ?_⟩
              cases e : d.f E with
              | no => rw [e] at q; exact q
              | ex x E1 => rw [e] at q; exact q
              | ok xs E1 =>
                rw [e] at q
                intro vs ps H1 r1 t1 hp en
                obtain ⟨hl, q⟩ := q vs ps H1 r1 t1 hp en
                match vs, hl, q with
                | [v, w], _, q => exact ⟨v, w, rfl, q⟩)⟩
          else none else none else none
        | _, _, _ => none
      else none
    | [.Name x px, .Name y py, .Name z pz], [a, b, d'] => if hw2 : swB g.sc [.Name x px, .Name y py, .Name z pz] [a, b, d'] = some (some [x, y, z]) then
        match slot g x, slot g y, slot g z, cFs r g [a, b, d'] with
        | some i, some j, some l, some d => if hij : i.i ≠ j.i ∧ i.i ≠ l.i ∧ j.i ≠ l.i then if hx : g.sc.names.lookup x = some .local then if hy : g.sc.names.lookup y = some .local then if hz : g.sc.names.lookup z = some .local then
            some ⟨sPar [i.i, j.i, l.i] d.f, fun {X c} o => ps_of (ps_par3 (o.calm hc).1 (by rw [o.N]; exact o.nd) (by rw [o.N]; exact i.at_) (by rw [o.N]; exact j.at_) (by rw [o.N]; exact l.at_) hij.1 hij.2.1 hij.2.2 (by rw [o.sc]; exact hx) (by rw [o.sc]; exact hy) (by rw [o.sc]; exact hz) (d.ok o) (swap2 g o hw2) swaps_tup) (fun Dn σ H q => by
              obtain ⟨Mo, θ, E, rel, q⟩ := t_par Dn σ H q
              refine ⟨Mo, θ, E, rel, ?_⟩
              cases e : d.f E with
              | no => rw [e] at q; exact q
              | ex x E1 => rw [e] at q; exact q
              | ok xs E1 =>
                rw [e] at q
                intro vs ps H1 r1 t1 hp en
                obtain ⟨hl, q⟩ := q vs ps H1 r1 t1 hp en
                match vs, hl, q with
                | [v, w, u], _, q => exact ⟨v, w, u, rfl, q⟩)⟩
          else none else none else none else none
        | _, _, _, _ => none
      else none
    | _, _ => none
  else none else none
def cUnp (ts : List Expr) (kt : Nat) (pt : Pos) (e : Expr) (pos : Pos) : Option (DS g (.Assign [.Tuple ts kt pt] e pos)) :=
  if hc : g.calm = true then if hn : notTup e = true then
    match stNs g ts, r.e g e with
    | some s, some d => some ⟨sUnp s.is d.f, fun {X c} o => ps_of (ps_asg (d.ok o) (pg_tup (n := s.is.length) (o.calm hc).1 (s.ok o) (by rw [(s.asn _).1, s.len]) (s.asn _).2) swaps_tup (stores_no hn) rfl) (fun Dn σ H q => by
        obtain ⟨Mo, θ, E, rel, q⟩ := t_unp Dn σ H q
        refine ⟨Mo, θ, E, rel, Co.mono q fun v H1 ⟨a, xs, h1, h2, h3, h4⟩ => ⟨a, xs, h1, by rw [o.K]; exact h2, h3, gNames_of s.is xs σ H1 _ h3 h4⟩⟩)⟩
    | _, _ => none
  else none else none
theorem asn_sub {o i : Expr} {p : Pos} {env : Env} (h : notSl i = true) (v : Value) : assign (.Subscript o i p) env v = (do
      let ov ← holding [v] (eval o env)
      let iv ← holding [v, ov] (eval i env)
      standAt p
      holding [v, ov, iv] (setItem ov iv v)
      release [v, ov, iv] []) := by
  cases i <;> first | rfl | cases h
def cAsg : (s : Stmt) → Option (DS g s)
  | .Assign [.Name x py] e pos => cAsgName r g x py e pos
  | .Assign [.Tuple ts kt pt] (.Tuple vs k2 p2) pos => cPar r g ts kt pt vs k2 p2 pos
  | .Assign [.Tuple ts kt pt] e pos => cUnp r g ts kt pt e pos
  | .Assign [.Subscript (.Name x p) i p2] e pos => if hi : notSl i = true then
      match own1 g x, r.e g i, r.e g e with
      | some v, some di, some de => some ⟨sSetI v.i di.f de.f, fun {X c} o => ps_of (ps_asg (de.ok o) (pg_sub (v.ok o) (di.ok o) set_list (asn_sub hi)) swaps_sub stores_sub rfl) t_setI⟩
      | _, _, _ => none
    else none
  | _ => none
theorem aug_ok {i : Expr} (h : notSl i = true) (ov iv new : Value) : augStore i ov iv new = (do holding [new, ov, iv] (setItem ov iv new); release [new, ov, iv] []; pure .next) := by
  cases i <;> first | rfl | cases h
theorem get_lst {X : Cx} : PGet X (rIxL X.K) := by
  intro pins s σ H x y v u Q I rx ry h
  obtain ⟨p, xs, i, z, rfl, rfl, hq, he, q⟩ := h
  cases rx
  obtain ⟨t, rfl⟩ := ry
  obtain ⟨its, r, pl, hz⟩ := I.list hq
  obtain ⟨j, h1, h2, h3, h4, h5⟩ := atI_get he
  obtain ⟨w, ew, rw'⟩ := r.get h2
  have hl := r.length
  have hn := line63
  have fin : EP X pins σ Q w s := ⟨z, H, I, rw', q⟩
  by_cases h0 : 0 ≤ i
  · have hj : i.toNat = j := Option.some.inj ((seqIndex_of h0 h5).symm.trans h1)
    exact wpAny_getItem_list pl.isList h0 (by omega) (by rw [hj]; simpa using ew) fin
  · have hj : (i + (its.toArray.size : Int)).toNat = j := by
      rw [List.size_toArray, ← hl]
      exact Option.some.inj ((seqIndex_neg (by omega) h4).symm.trans h1)
    exact wpAny_getItem_list_neg pl.isList (by omega) (by rw [List.size_toArray]; omega) (by omega) (by rw [hj]; simpa using ew) fin
def cAug : (s : Stmt) → Option (DS g s)
  | .AugAssign (.Name x p) op e pos => match stN g x, augD op, r.e g e with
    | some s, some w, some d => some ⟨sAug w.g s.i d.f, fun {X c} o => by
        obtain ⟨r, h1, h2⟩ := w.ok X
        rw [o.K] at h2
        exact ps_of (ps_aug (by rw [o.N]; exact o.nd) (by rw [o.N]; exact s.at_) (locB_ok o s.loc).1 (d.ok o) h1 (locB_ok o s.loc).2) (t_aug h2)⟩
    | _, _, _ => none
  | .AugAssign (.Subscript (.Name x p) i p2) op e pos => if hi : notSl i = true then
      match own1 g x, augD op, r.e g i, r.e g e with
      | some v, some w, some di, some de => some ⟨sAugI w.g v.i di.f de.f, fun {X c} o => by
          obtain ⟨r, h1, h2⟩ := w.ok X
          rw [o.K] at h2
          exact ps_of (ps_augS (v.ok o) (di.ok o) get_lst (de.ok o) h1 set_list (aug_ok hi)) (by rw [o.K]; exact t_augI h2)⟩
      | _, _, _, _ => none
    else none
  | _ => none
def cSuite : (ss : List Stmt) → Option (DSs g ss)
  | [] => some ⟨sNx, fun o => pss_of pss_nil t_nx⟩
  | [s] => match r.s g s with
    | some d => some ⟨d.f, fun o => pss_one (d.ok o)⟩
    | none => none
  | s :: ss => match r.s g s, cSuite ss with
    | some d, some ds => some ⟨sSeq d.f ds.f, fun o => pss_of (pss_cons (d.ok o) (ds.ok o)) t_seq⟩
    | _, _ => none
def cExpr (e : Expr) (pos : Pos) : Option (DS g (.Expr e pos)) := if hs : isComp e = false then
    match r.e g e with
    | some d => some ⟨sDrop d.f, fun o => ps_of (ps_expr (d.ok o) (swaps_no hs)) t_drop⟩
    | none => none
  else none
theorem few_ok {e : Expr} {env : Env} {p : Pos} (h : noStar e = true) : ((backTo p (starEach [e] env)).all (fun x => !x.1) && (backToKw p (keywordEach [] env)).all (fun x => x.1.isSome)
      && decide ([e].length + ([] : List Keyword).length + (if ([] : List Keyword).isEmpty then 0 else 1) < 30)) = true := by
  rw [star1 h]; rfl
def cSmall : (s : Stmt) → Option (DS g s)
  | .Pass pos => some ⟨sNx, fun o => ps_of ps_pass t_nx⟩
  | .Break pos => some ⟨sBk, fun o => ps_of ps_break t_bk⟩
  | .Continue pos => some ⟨sCt, fun o => ps_of ps_continue t_ct⟩
  | .Expr (.Constant (.str x) j p) pos => some ⟨sNx, fun o => ps_of ps_doc t_nx⟩
  | .Expr (.Call (.Attribute (.Name x p) a apos) [e] [] cpos) pos => if ha : ("append" : Str) = a then if hs : noStar e = true then if hl : (apos.endLine == cpos.line) = true then
      match own1 g x, r.e g e with
      | some v, some d => some ⟨sApp v.i d.f, fun {X c} o => by
          subst ha
          refine ps_of (ps_expr (pe_bm PySem.F.plainAttrs_list PySem.F.slot_list_append PySem.F.type_list_append mt_append (v.ok o) (pa_cons (d.ok o) pa_nil (star_ok hs)) (by rfl) (few_ok hs) hl (star_ok hs) rfl) (by rfl)) ?_
          rw [o.K]
          exact t_app⟩
      | _, _ => none
    else none else none else none
  | .Expr e pos => cExpr r g e pos
  | .Return none pos => some ⟨sRetN, fun o => ps_of ps_retN t_retN⟩
  | .Return (some (.Name x p)) pos => match own1 g x with
    | some v => some ⟨sRetV v.i, fun o => ps_of (ps_ret (v.ok o)) t_retV⟩
    | none => match r.f g (.Name x p) with
      | some d => some ⟨sRet d.f, fun o => ps_of (ps_ret (d.ok o)) t_ret⟩
      | none => none
  | .Return (some e) pos => match r.f g e with
    | some d => some ⟨sRet d.f, fun o => ps_of (ps_ret (d.ok o)) t_ret⟩
    | none => none
  | _ => none
def cFlow : (s : Stmt) → Option (DS g s)
  | .If t a b pos => match r.t g t, cSuite r g a, cSuite r g b with
    | some x, some y, some z => some ⟨sIf x.f y.f z.f, fun o => ps_of (ps_if (x.ok o) (y.ok o) (z.ok o)) t_sif⟩
    | _, _, _ => none
  | .For tg it body [] pos => if hc : g.calm = true then if hs : notSet it = true then
      match cIter r g tg it, cTg g tg, cSuite r g body with
      | some di, some dg, some db => some ⟨sFor di.f dg.f db.f, fun {X c} o => by
          obtain ⟨wi, h1, h2⟩ := di.ok o
          exact ps_of (ps_for o.po (o.calm hc).1 h1 (dg.ok o) (db.ok o) (folded_ok hs)) (t_for h2 (by rw [o.K]; exact dg.tgd c))⟩
      | _, _, _ => none
    else none else none
  | .While t body [] pos => match r.t g t, cSuite r g body with
    | some x, some y => some ⟨sWhl g.fu x.f y.f, fun o => ps_of (ps_while o.po (x.ok o) (y.ok o)) t_whl⟩
    | _, _ => none
  | .Raise (some (.Call (.Name x p) [.Constant (.str m) j p2] [] p3)) none pos => if hc : g.calm = true then if hg : gloB g x = true then if hd : isDbg x = false then if hx : x ∈ g.exs then
      some ⟨sRaise x, fun {X c} o => by
        obtain ⟨C, bmB, B, newId, initId, h1, h2, h3, h4, h5, h6⟩ := (o.wd.exs x hx).ex
        exact ps_of (ps_raise (o.calm hc).1 o.tk (pmk_own h3 h4 h1 h2 (raises_own h5 h6) (gloB_ok o hg) (dbg_ok hd).1)) (t_raise (by rw [← o.mg]; exact h1))⟩
    else none else none else none else none
  | _ => none
/-! ### try -/
structure DH (g : Cfg) (hs : List ExceptHandler) where
  l : List (Str × Sf)
  ok : ∀ {X : Cx} {c : Ct}, Okk g X c → ∃ m, HdsOk X hs m ∧ TrL g c l m
def cHds : (hs : List ExceptHandler) → Option (DH g hs)
  | [] => some ⟨[], fun o => ⟨[], .nil, .nil⟩⟩
  | .ExceptHandler (some (.Name x np)) none (b₀ :: suite) pos :: hs => if hg : gloB g x = true then if hd : isDbg x = false then if hx : x ∈ g.exs then
      match cSuite r { g with calm := false } (b₀ :: suite), cHds hs with
      | some d, some ds => some ⟨(x, d.f) :: ds.l, fun {X c} o => by
          obtain ⟨m, h1, h2⟩ := ds.ok o
          obtain ⟨C, bmB, B, newId, initId, k1, _⟩ := (o.wd.exs x hx).ex
          refine ⟨_, .cons (c := .ref C) (ts := fun _ _ _ => tS (c0 c) d.f) ⟨gloB_ok o hg, (dbg_ok hd).1, .inl k1⟩ (fun a oe cls dx pn _ _ => d.ok ?_) h1, .cons hx (by rw [← o.mg]; exact k1) h2⟩
          exact ⟨o.K, o.mg, o.N, o.nd, o.sc, o.kind, o.fn, (fun z => by cases z), o.hu, takes0, PassesOwn.never, o.stk, ⟨o.wd.fns, o.wd.glo, o.wd.blt, o.wd.exs, o.wd.subs⟩⟩⟩
      | _, _ => none
    else none else none else none
  | _ => none
def cTry : (s : Stmt) → Option (DS g s)
  | .Try body (h :: hs) [] [] pos => if ht : g.top = true then
      match cSuite r g body, cHds r g (h :: hs) with
      | some d, some ds => some ⟨sTry g.exs g.subs d.f ds.l, fun {X c} o => by
          obtain ⟨m, h1, h2⟩ := ds.ok o
          obtain ⟨s1, s2⟩ := o.stk ht
          refine ps_of (ps_try_many (tb := fun W => tS { c with W := W } d.f) s1 s2 o.tk (fun W pn xe tk po => d.ok ?_) h1) ?_
          · exact ⟨o.K, o.mg, o.N, o.nd, o.sc, o.kind, o.fn, o.calm, o.hu, tk, po, o.stk, ⟨o.wd.fns, o.wd.glo, o.wd.blt, o.wd.exs, o.wd.subs⟩⟩
          · rw [o.K]
            exact t_try (by rw [← o.K, ← o.mg]; exact o.wd.subs) h2⟩
      | _, _ => none
    else none
  | _ => none
end
end
end Dl

set_option Elab.async false
set_option linter.all false
set_option maxRecDepth 100000
set_option maxHeartbeats 4000000
namespace Dl
noncomputable section
open PySem PySem.Spec PyProof.Rows L2
/-! ### put together -/
def orE {α : Type} (a : Option α) (b : Option α) : Option α := match a with
  | some x => some x
  | none => b
section
variable (r : Cmp) (g : Cfg)
def viaF {e : Expr} : Option (DF g e) → Option (DE g e)
  | some d => some ⟨xD d.f, fun o => pe_of (d.ok o) t_D⟩
  | none => none
def viaE {e : Expr} : Option (DE g e) → Option (DF g e)
  | some d => some ⟨xF d.f, fun o => pe_of (d.ok o) t_F⟩
  | none => none
def cLstF : (e : Expr) → Option (DF g e)
  | .List es p => if h : decide (es.length ≤ 1000) = true then
      match cEs r g es with
      | some x => some ⟨xLstF x.f, fun o => pe_of (pe_lst (x.ok o)) (t_lstF (fun E ds E' e => Nat.le_of_eq (x.len E ds E' e)) (le_size h))⟩
      | none => none
    else none
  | _ => none
def cLstOf : (e : Expr) → Option (DF g e)
  | .Call (.Name x p) [a] [] pos => if hx : ("list" : Str) = x then if hg : gloB g x = true then if hb : x ∈ g.blt then if hs : noStar a = true then
      match cB r g a with
      | some d => some ⟨xOp1F gToLst d.b, fun {X c} o => by
          subst hx
          exact pe_of (pe_callTy call_list_of (gloB_ok o hg) (o.wd.blt _ hb) boot_list (pa_cons (d.ok o) pa_nil (star_ok hs)) (by decide) (by decide) (star_ok hs) rfl) (by rw [o.K]; exact t_op1F d_lstF)⟩
      | none => none
    else none else none else none else none
  | _ => none
def cBinF : (e : Expr) → Option (DF g e)
  | .BinOp a .Add b p => match cB r g a, cB r g b with
    | some x, some y => some ⟨xOp2F gAdd x.b y.b, fun {X c} o => pe_of (pe_op op_addD (x.ok o) (y.ok o)) (by rw [o.K]; exact t_op2F d_addF)⟩
    | _, _ => none
  | .BinOp a .Mult b p => match cB r g a, cB r g b with
    | some x, some y => some ⟨xOp2F gMul x.b y.b, fun {X c} o => pe_of (pe_op op_mulDD (x.ok o) (y.ok o)) (by rw [o.K]; exact t_op2F d_mulF)⟩
    | _, _ => none
  | _ => none
def cSlF : (e : Expr) → Option (DF g e)
  | .Subscript a (.Slice lo hi none p2) p => match cB r g a, cO r g lo, cO r g hi with
    | some x, some l, some h => some ⟨xSlF x.b l.f h.f, fun {X c} o => pe_of (pe_slice sl_all (x.ok o) (l.ok o) (h.ok o)) (by rw [o.K]; exact t_slF)⟩
    | _, _, _ => none
  | _ => none
def cIfF : (e : Expr) → Option (DF g e)
  | .IfExp t a b p => match r.t g t, r.f g a, r.f g b with
    | some x, some y, some z => some ⟨xIfF x.f y.f z.f, fun o => pe_of (pe_ifExp (x.ok o) (y.ok o) (z.ok o)) t_ifF⟩
    | _, _, _ => none
  | _ => none
end
/-- what else there is of calls -/
structure More where
  e : ∀ (r : Cmp) (g : Cfg) (e : Expr), Option (DE g e)
  f : ∀ (r : Cmp) (g : Cfg) (e : Expr), Option (DF g e)
  s : ∀ (r : Cmp) (g : Cfg) (s : Stmt), Option (DS g s)
section
variable (m : More) (r : Cmp) (g : Cfg)
def stE (e : Expr) : Option (DE g e) := match e with
  | .Constant v k p => cConst g (.Constant v k p)
  | .Name x p => cName g (.Name x p)
  | .BinOp a op b p => cBin r g (.BinOp a op b p)
  | .UnaryOp op a p => cUn r g (.UnaryOp op a p)
  | .Compare a ops bs p => cCmp r g (.Compare a ops bs p)
  | .IfExp t a b p => cIf r g (.IfExp t a b p)
  | .Tuple es k p => cDisp r g (.Tuple es k p)
  | .List es p => cDisp r g (.List es p)
  | .BoolOp op es p => cBool r g (.BoolOp op es p)
  | .ListComp elt gs sc p => viaF g (orE (cLc r g (.ListComp elt gs sc p)) (m.f r g (.ListComp elt gs sc p)))
  | .Subscript a i p => orE (m.e r g (.Subscript a i p)) (cSub r g (.Subscript a i p))
  | .Call f as ks p => orE (cIsi r g (.Call f as ks p)) (orE (viaF g (cCall r g (.Call f as ks p))) (orE (m.e r g (.Call f as ks p)) (orE (cBlt r g (.Call f as ks p)) (viaF g (m.f r g (.Call f as ks p))))))
  | e => m.e r g e
def stF (e : Expr) : Option (DF g e) := match e with
  | .List es p => cLstF r g (.List es p)
  | .ListComp elt gs sc p => orE (cLc r g (.ListComp elt gs sc p)) (m.f r g (.ListComp elt gs sc p))
  | .Subscript a i p => orE (cSlF r g (.Subscript a i p)) (viaE g (stE m r g (.Subscript a i p)))
  | .BinOp a op b p => orE (cBinF r g (.BinOp a op b p)) (viaE g (stE m r g (.BinOp a op b p)))
  | .IfExp t a b p => cIfF r g (.IfExp t a b p)
  | .Call f as ks p => orE (cCall r g (.Call f as ks p)) (orE (m.f r g (.Call f as ks p)) (orE (cLstOf r g (.Call f as ks p)) (viaE g (stE m r g (.Call f as ks p)))))
  | e => viaE g (stE m r g e)
def stS (s : Stmt) : Option (DS g s) := match s with
  | .Assign ts e p => orE (m.s r g (.Assign ts e p)) (cAsg r g (.Assign ts e p))
  | .AugAssign t op e p => orE (cAug r g (.AugAssign t op e p)) (m.s r g (.AugAssign t op e p))
  | .If t a b p => cFlow r g (.If t a b p)
  | .For t i b o p => cFlow r g (.For t i b o p)
  | .While t b o p => cFlow r g (.While t b o p)
  | .Raise e c p => orE (cFlow r g (.Raise e c p)) (m.s r g (.Raise e c p))
  | .Try b hs o f p => orE (cTry r g (.Try b hs o f p)) (m.s r g (.Try b hs o f p))
  | .Expr e p => orE (m.s r g (.Expr e p)) (cSmall r g (.Expr e p))
  | s => cSmall r g s
end
def cmp (m : More) : Nat → Cmp
  | 0 => .bot
  | n + 1 => ⟨fun g e => stE m (cmp m n) g e, fun g e => stF m (cmp m n) g e, fun g e => cTest (cmp m n) g e, fun g s => stS m (cmp m n) g s⟩
def noMore : More := ⟨fun _ _ _ => none, fun _ _ _ => none, fun _ _ _ => none⟩
/-- a def's body -/
def cDef (m : More) (g : Cfg) (body : List Stmt) : Option (DSs g body) := cSuite (cmp m 60) g body
end
end Dl

set_option Elab.async false
set_option linter.all false
set_option maxRecDepth 100000
set_option maxHeartbeats 4000000
namespace Dl
noncomputable section
open PySem PySem.Spec PyProof.Rows L2
/-! ### how arguments are bound: plain parameters, keywords in their sequence -/
theorem zip_lookup {α : Type} : ∀ {ps : List Str} {us : List α} {i : Nat} {x : Str} {u : α}, ps.Nodup → ps[i]? = some x → us[i]? = some u → (ps.zip us).lookup x = some u
  | [], _, _, _, _, _, h, _ => by simp at h
  | _ :: _, [], _, _, _, _, _, h => by simp at h
  | p :: ps, v :: us, 0, x, u, nd, h1, h2 => by
    simp at h1 h2; subst h1 h2
    rw [List.zip_cons_cons, List.lookup_cons]; simp
  | p :: ps, v :: us, i + 1, x, u, nd, h1, h2 => by
    have h1' : ps[i]? = some x := by simpa using h1
    have hne : (x == p) = false := beq_eq_false_iff_ne.mpr fun e => (List.nodup_cons.mp nd).1 (by rw [← e]; exact List.mem_of_getElem? h1')
    rw [List.zip_cons_cons, List.lookup_cons, hne]
    exact zip_lookup (List.nodup_cons.mp nd).2 h1' (by simpa using h2)
theorem zip_none {α : Type} {x : Str} : ∀ {ps : List Str} {us : List α}, x ∉ ps → (ps.zip us).lookup x = none
  | [], _, _ => rfl
  | _ :: _, [], _ => rfl
  | p :: ps, v :: us, h => by
    rw [List.zip_cons_cons, List.lookup_cons, beq_eq_false_iff_ne.mpr fun e => h (by rw [e]; exact List.mem_cons_self)]
    exact zip_none fun z => h (List.mem_cons_of_mem _ z)
theorem fm_congr {α β : Type} {f h : α → Option β} : ∀ {l : List α}, (∀ x ∈ l, f x = h x) → l.filterMap f = l.filterMap h
  | [], _ => rfl
  | x :: l, e => by rw [List.filterMap_cons, List.filterMap_cons, e x List.mem_cons_self, fm_congr fun y hy => e y (List.mem_cons_of_mem _ hy)]
theorem zip_all {α : Type} : ∀ {ps : List Str} {us : List α}, ps.Nodup → ps.length = us.length → ps.filterMap (fun n => ((ps.zip us).lookup n).map (n, ·)) = ps.zip us
  | [], [], _, _ => rfl
  | p :: ps, v :: us, nd, hl => by
    rw [List.filterMap_cons, List.zip_cons_cons, List.lookup_cons]
    simp only [beq_self_eq_true, Option.map_some]
    refine congrArg ((p, v) :: ·) ?_
    refine Eq.trans (fm_congr fun n hn => ?_) (zip_all (us := us) (List.nodup_cons.mp nd).2 (Nat.succ.inj hl))
    rw [List.lookup_cons, beq_eq_false_iff_ne.mpr fun e => (List.nodup_cons.mp nd).1 (by rw [← e]; exact hn)]
theorem zip_app {α : Type} : ∀ {ps : List Str} {us ws : List α}, ps.zip us ++ (ps.drop us.length).zip ws = ps.zip (us ++ ws)
  | [], us, ws => by simp
  | p :: ps, [], ws => by simp
  | p :: ps, u :: us, ws => by
    rw [List.zip_cons_cons, List.cons_append, List.cons_append, List.zip_cons_cons, List.length_cons, List.drop_succ_cons, zip_app]
theorem zip_take {α : Type} : ∀ {ps : List Str} {us : List α}, ps.zip us = (ps.take us.length).zip us
  | [], _ => by simp
  | _ :: _, [] => by simp
  | p :: ps, u :: us => by rw [List.length_cons, List.take_succ_cons, List.zip_cons_cons, List.zip_cons_cons, ← zip_take]
theorem kw_loop {f : Str × Value → List (Str × Value) × List (Str × Value) → Sem (ForInStep (List (Str × Value) × List (Str × Value)))} {names : List Str}
    (hf : ∀ k v s e, k ∈ names → s.lookup k = none → f (k, v) (s, e) = pure (.yield (s ++ [(k, v)], e))) : ∀ (kw : List (Str × Value)) (s : List (Str × Value)), (∀ p ∈ kw, p.1 ∈ names ∧ s.lookup p.1 = none) → (kw.map (·.1)).Nodup → forIn kw (s, []) f = pure (s ++ kw, [])
  | [], s, _, _ => by rw [List.forIn_nil, List.append_nil]
  | (k, v) :: r, s, h, nd => by
    obtain ⟨h1, h2⟩ := h (k, v) List.mem_cons_self
    rw [List.forIn_cons, hf k v s [] h1 h2]
    have h3 := kw_loop hf r (s ++ [(k, v)]) (fun p hp => ?_) (List.nodup_cons.mp nd).2
    · show forIn r (s ++ [(k, v)], []) f = _
      rw [h3, List.append_assoc]; rfl
    · obtain ⟨a, b⟩ := h p (List.mem_cons_of_mem _ hp)
      refine ⟨a, ?_⟩
      have hne : (p.1 == k) = false := beq_eq_false_iff_ne.mpr fun e => (List.nodup_cons.mp nd).1 (by rw [← e]; exact List.mem_map.mpr ⟨p, hp, rfl⟩)
      have e := List.lookup_append (l₁ := s) (l₂ := [(k, v)]) (k := p.1)
      rw [e, b, List.lookup_cons, hne]; rfl
def plainArgs (a : Arguments) : Bool := match a with
  | ⟨[], _, none, [], _, none, _⟩ => true
  | _ => false
theorem bind_kw {fd : FuncData} {ps : List Str} {us ws : List Value} (hp : plainArgs fd.params = true) (hps : fd.params.args.map (·.arg) = ps) (hd : fd.defaults = .none) (nd : ps.Nodup) (hl : us.length + ws.length = ps.length) :
    bindArgs fd ⟨us, (ps.drop us.length).zip ws⟩ = pure (ps.zip (us ++ ws)) := by
  obtain ⟨name, qual, params, body, scope, gl, cl, dfl, kwd, doc, pm, an, code, ct, blt⟩ := fd
  obtain ⟨po, as, va, ko, kd, ka, df⟩ := params
  have hd' : dfl = .none := hd
  subst hd'
  match po, va, ko, ka, hp with
  | [], none, [], none, _ =>
  have hps' : as.map (·.arg) = ps := hps
  unfold bindArgs
  simp only [List.map_nil, List.nil_append, hps', List.append_nil]
  rw [kw_loop (names := ps)]
  · have e1 : (decide (us.length > ps.length) && (none : Option Arg).isNone) = false := by rw [decide_eq_false (by omega)]; rfl
    have e2 : seqItems? Value.none = pure none := rfl
    simp only [pure_bind, e2, zip_app]
    have e3 : ((List.take (ps.length - (List.drop (((none : Option (Array Value)).getD #[]).toList.length - ps.length) ((none : Option (Array Value)).getD #[]).toList).length) ps).filter fun n => ((ps.zip (us ++ ws)).lookup n).isNone) = [] := by
      rw [List.filter_eq_nil_iff]
      intro n hn
      have hm := List.mem_of_mem_take hn
      obtain ⟨i, hi, e⟩ := List.getElem_of_mem hm
      have h1 : ps[i]? = some n := by rw [List.getElem?_eq_getElem hi, e]
      have h2 : i < (us ++ ws).length := by rw [List.length_append]; omega
      rw [zip_lookup nd h1 (List.getElem?_eq_getElem h2)]
      simp
    simp only [e1, e3]
    have e4 := zip_all (us := us ++ ws) nd (by rw [List.length_append]; omega)
    rw [if_neg Bool.false_ne_true, if_neg (by decide)]
    have e5 : ((none : Option (Array Value)).getD #[]).toList = [] := rfl
    simp only [e5, List.drop_nil, List.length_nil, List.zip_nil_right, List.forIn_nil, pure_bind, List.nil_append]
    rw [if_neg (by decide)]
    exact congrArg pure (zip_all nd (by rw [List.length_append]; omega))
  · intro k v s e h1 h2
    have c1 : (ps.contains k || ([] : List Str).contains k) = true := by rw [List.contains_iff_mem.mpr h1]; rfl
    have c2 : ¬ (s.lookup k).isSome = true := by rw [h2]; exact Bool.false_ne_true
    rw [if_pos c1, if_neg c2]
  · rintro ⟨k, v⟩ hp
    have hk := (List.of_mem_zip hp).1
    refine ⟨List.mem_of_mem_drop hk, ?_⟩
    -- not among the first
    rw [zip_take]
    refine zip_none fun z => ?_
    have nd' := nd
    rw [← List.take_append_drop us.length ps] at nd'
    exact (List.nodup_append.mp nd').2.2 k z k hk rfl
  · have e : ((ps.drop us.length).zip ws).map (·.1) = ps.drop us.length := by
      rw [List.map_fst_zip]
      rw [List.length_drop]; omega
    rw [e]
    exact nd.sublist (List.drop_sublist _ _)
theorem binds_of {K : PySem.W.Frag} {fd : FuncData} {ps : List Str} (hp : plainArgs fd.params = true) (hps : fd.params.args.map (·.arg) = ps) (hd : fd.defaults = .none) (nd : ps.Nodup) : Binds K fd ps [] :=
  .all fun us hl => by
    have h := bind_kw (us := us) (ws := []) hp hps hd nd (by rw [hl]; simp)
    rw [List.zip_nil_right, List.append_nil] at h
    exact h
theorem kbinds_of {K : PySem.W.Frag} {fd : FuncData} {ps : List Str} (hp : plainArgs fd.params = true) (hps : fd.params.args.map (·.arg) = ps) (hd : fd.defaults = .none) (nd : ps.Nodup) (m : Nat) : KBinds K fd ps (ps.drop m) (gK m ps.length) (gKV m ps.length) where
  to := fun s us ws _ hl => by
    unfold gK at hl ⊢
    split at hl
    · rename_i e
      rw [if_pos e, ← e]
      exact .of_eq (bind_kw hp hps hd nd (by rw [List.length_append] at hl; exact hl))
    · rw [List.length_replicate] at hl; omega
  rel := fun {vs us zs ws} r1 r2 => by
    unfold gK gKV
    rw [r1.length]
    split
    · exact r1.append r2
    · have : ∀ n : Nat, Vals (List.replicate n V.non) (List.replicate n Value.none) := fun n => by
        induction n with
        | zero => exact .nil
        | succ n ih => rw [List.replicate_succ, List.replicate_succ]; exact .cons rfl ih
      exact this _
theorem Fits.mono {P : Program} {w : World} {K : PySem.W.Frag} {mg : Str → Option Value} {base : Heap} {j k : Nat} {d : Fd} (h : Fits P w K mg base j d) (hj : j ≤ k) : Fits P w K mg base k d := by
  obtain ⟨f, fd, h1, h2⟩ := h.ex
  exact ⟨f, fd, h1.mono hj, h2⟩
/-- another function that promises no more -/
theorem Fits.imp {P : Program} {w : World} {K : PySem.W.Frag} {mg : Str → Option Value} {base : Heap} {k : Nat} {d : Fd} {F : Fn} (h : Fits P w K mg base k d) (hF : ∀ args, F args = d.F args ∨ F args = .no) : Fits P w K mg base k { d with F := F } := by
  obtain ⟨f, fd, h1, h2⟩ := h.ex
  refine ⟨f, fd, h1.imp fun vs H Q E q => ?_, h2⟩
  obtain ⟨Mo, θ, args, q1, q2, q3, q4⟩ := q
  refine ⟨Mo, θ, args, q1, q2, q3, ?_⟩
  have q5 : FoP K mg Mo θ args vs H (F args) Q E := q4
  rcases hF args with e | e
  · rw [e] at q5; exact q5
  · rw [e] at q5; exact q5.elim
/-- what a def's text tells -/
structure DefOk (g : Cfg) (st : Stmt) (x : Str) (ps : List Str) (body : Sf) : Prop where
  top : g.top = true
  calm : g.calm = true
  sc : g.sc = defScope st
  scope : FnScope g.N ps (defScope st)
  args : plainArgs (defArgs st) = true
  ps : (defArgs st).args.map (·.arg) = ps
  text : ∀ {X : Cx} {c : Ct}, Okk g X c → PSs X (defBody st) (tS c body)
theorem defOk_of {m : More} {g : Cfg} {st : Stmt} {x : Str} {ps : List Str} {body : Sf} (h1 : g.top = true) (h2 : g.calm = true) (h3 : g.sc = defScope st) (h4 : FnScope g.N ps (defScope st)) (h5 : plainArgs (defArgs st) = true) (h6 : (defArgs st).args.map (·.arg) = ps)
    (h7 : (cDef m g (defBody st)).map (·.f) = some body) : DefOk g st x ps body := by
  refine ⟨h1, h2, h3, h4, h5, h6, fun {X c} o => ?_⟩
  cases e : cDef m g (defBody st) with
  | none => rw [e] at h7; cases h7
  | some d =>
    rw [e] at h7
    have h8 : d.f = body := Option.some.inj h7
    rw [← h8]
    exact d.ok o
theorem line64 {k : Nat} {A : Around} (h : Room k A) : A.units + 64 < cLine := by have := h.un; omega
theorem fun_fd {K : PySem.W.Frag} {st : Stmt} {x : Str} {ps : List Str} {f : Addr} {fd : FuncData} (F : Fun K x x st f fd) (ha : plainArgs (defArgs st) = true) (hp : (defArgs st).args.map (·.arg) = ps) : plainArgs fd.params = true ∧ fd.params.args.map (·.arg) = ps ∧ fd.defaults = .none := by
  obtain ⟨oc, od, kV, doc, pm, an, cdv, ct, osl, rfl, _⟩ := F.ex
  exact ⟨ha, hp, rfl⟩
theorem DefOk.nd {g : Cfg} {st : Stmt} {x : Str} {ps : List Str} {body : Sf} (d : DefOk g st x ps body) : ps.Nodup := by rw [← d.scope.pre]; exact d.scope.nd.sublist (List.take_sublist _ _)
theorem fnok_of {g : Cfg} {st : Stmt} {x : Str} {ps : List Str} {body : Sf} {P : Program} {w : World} {K : PySem.W.Frag} {mg : Str → Option Value} {base : Heap} {f : Addr} {fd : FuncData} (d : DefOk g st x ps body) (W : Wd g P w K mg base) (F : Fun K x x st f fd) :
    FnOk P w K mg base (L2.CX P w) (g.k + 1) f fd ps (spD K mg ps.length (runF ps.length g.N.length body)) :=
  fn_D F d.scope rfl fun cdv A outer s H E hr => d.text ⟨rfl, rfl, rfl, d.scope.nd, d.sc.symm, by rw [d.sc]; exact d.scope.kind, fun _ _ => rfl, fun _ => ⟨rfl, hr⟩, line64 hr, takes_of rfl rfl rfl rfl, passes_of rfl, fun _ => ⟨rfl, rfl⟩, W⟩
/-- THE RULE of a def: the world holds it, a level higher -/
theorem fits_of {g : Cfg} {st : Stmt} {x : Str} {ps : List Str} {body : Sf} {P : Program} {w : World} {K : PySem.W.Frag} {mg : Str → Option Value} {base : Heap} {f : Addr} {fd : FuncData} {io : List Bool} (d : DefOk g st x ps body) (W : Wd g P w K mg base) (F : Fun K x x st f fd) (hm : mg x = some (.ref f)) :
    Fits P w K mg base (g.k + 1) ⟨x, ps, io, runF ps.length g.N.length body⟩ := by
  have hfd := fun_fd F d.args d.ps
  exact ⟨f, fd, fnok_of d W F, hm, F.kp, binds_of hfd.1 hfd.2.1 hfd.2.2 d.nd, kbinds_of hfd.1 hfd.2.1 hfd.2.2 d.nd⟩
end
end Dl

set_option Elab.async false
set_option linter.all false
set_option maxRecDepth 100000
set_option maxHeartbeats 4000000
/-! t[::-1] of a tuple -/
namespace HT
open PySem PySem.Spec PyProof.Rows L2
section
variable {prog : Program} {w : World} {A : Around} {E : Value → Shared → Prop} {s : Shared}
theorem back_adj (n : Nat) : Builtin.Slice.sliceAdjust none none (-1) (n : Int) = ((n : Int) - 1, -1) := rfl
theorem back_places (n : Nat) : Builtin.Slice.slicePlaces ((n : Int) - 1) (-1) (-1) = n := by
  have h1 : ¬ ((-1 : Int) > 0) := by decide
  unfold Builtin.Slice.slicePlaces
  rw [if_neg h1]
  have e : ((n : Int) - 1 - -1 - 1) / -(-1) = (n : Int) - 1 := by
    rw [show -(-1 : Int) = 1 by decide, Int.ediv_one]; omega
  rw [e]
  split <;> omega
theorem back_pick (xs : Array Value) : ((List.range xs.size).filterMap fun (m : Nat) => xs[((xs.size : Int) - 1 + (m : Int) * -1).toNat]?).toArray = xs.toList.reverse.toArray := by
  refine congrArg List.toArray (List.ext_getElem? fun i => ?_)
  have all : (List.range xs.size).filterMap (fun (m : Nat) => xs[((xs.size : Int) - 1 + (m : Int) * -1).toNat]?) = (List.range xs.size).filterMap (fun (m : Nat) => some (xs.toList.reverse.getD m .none)) := by
    refine Dl.fm_congr fun m hm => ?_
    have hm' := List.mem_range.mp hm
    have e : ((xs.size : Int) - 1 + (m : Int) * -1).toNat = xs.size - 1 - m := by omega
    rw [e, List.getD_eq_getElem?_getD, List.getElem?_reverse (by simpa using hm'), Array.length_toList, ← Array.getElem?_toList, List.getElem?_eq_getElem (by simp; omega)]
    rfl
  rw [all, List.filterMap_eq_map', List.getElem?_map]
  by_cases h : i < xs.size
  · rw [List.getElem?_range h, Option.map_some, List.getD_eq_getElem?_getD, List.getElem?_eq_getElem (by simpa using h)]; rfl
  · rw [List.getElem?_eq_none (by simpa using h), List.getElem?_eq_none (by simpa using h)]; rfl
theorem back_applied {sl : Addr} {v1 v2 v3 : Value} {n : Nat} {Q : Int × Int × Nat → Shared → Prop} (hs : s.heap.IsSliceOf sl v1 v2 v3) (p1 : IsPart v1 none) (p2 : IsPart v2 none) (p3 : IsPart v3 (some (-1)))
    (h : Q ((n : Int) - 1, -1, n) s) : wpAny (model prog w) A (Builtin.Slice.sliceApplied (.ref sl) (pure (n : Int))) Q E s := by
  obtain ⟨o3, ho3, hc3, hd3⟩ := hs
  unfold Builtin.Slice.sliceApplied Builtin.Slice.sliceFields
  refine wpAny_bind (wpAny_bind (wpAny_field ho3 hd3 (x := v1) rfl (wpAny_bind (wpAny_field ho3 hd3 (x := v2) rfl (wpAny_bind (wpAny_field ho3 hd3 (x := v3) rfl (wpAny_pure ?_)))))))
  refine wpAny_bind (slicePart_ p3 ?_)
  show wpAny _ _ (if ((-1 : Int) == 0) = true then _ else _) _ _ s
  rw [if_neg (by decide)]
  refine wpAny_bind (slicePart_ p1 (wpAny_bind (slicePart_ p2 (wpAny_bind (wpAny_pure ?_)))))
  show wpAny _ _ (match Builtin.Slice.sliceAdjust none none (-1) (n : Int) with | (lo, hi) => pure (lo, (-1 : Int), Builtin.Slice.slicePlaces lo hi (-1))) _ _ s
  rw [back_adj]
  show wpAny _ _ (pure ((n : Int) - 1, (-1 : Int), Builtin.Slice.slicePlaces ((n : Int) - 1) (-1) (-1))) _ _ s
  rw [back_places]
  exact wpAny_pure h
theorem back_item {t sl : Addr} {xs : Array Value} {v1 v2 v3 : Value} {Q : Value → Shared → Prop} (tt : IsTup s.heap t xs) (hs : s.heap.IsSliceOf sl v1 v2 v3) (p1 : IsPart v1 none) (p2 : IsPart v2 none) (p3 : IsPart v3 (some (-1)))
    (h : Q (.ref s.heap.objs.size) { s with heap := s.heap.push { cls := .type "tuple", data := .seq xs.toList.reverse.toArray } }) (hz : xs.size ≤ sizeLine) : wpAny (model prog w) A (getItem (.ref t) (.ref sl)) Q E s := by
  have big : sizeOk (.seq xs.toList.reverse.toArray) := by
    show xs.toList.reverse.toArray.size ≤ sizeLine
    rw [List.size_toArray, List.length_reverse, Array.length_toList]; exact hz
  obtain ⟨o3, ho3, hc3, hd3⟩ := id hs
  unfold getItem
  try with_reducible refine wpAny_holding ?_
  first | refine wpAny_bind (wpAny_pure ?_) | skip
  refine wpAny_bind (wpAny_sequenceKey tt.typeIs (by decide) (wpAny_bind (wpAny_callSpecial?_slot (name := Str.ofString "__getitem__") tt.typeIs PyProof.Rows.slot_tuple_getitem
    (wpAny_call_entry PyProof.Rows.slot_tuple_getitem tt.typeIs entry_tuple_getitem ?_ (args_tuple_getitem _ _)))))
  show wpAny _ _ (Builtin.Tuple.tupleItemsOf (.ref t) >>= _) _ _ s
  refine wpAny_bind (tupleItemsOf_ tt (wpAny_bind (wpAny_typeOf (show s.TypeIs (.ref sl) "slice" from ⟨o3, ho3, hc3⟩) ?_)))
  rw [if_pos (by decide)]
  refine wpAny_bind (back_applied hs p1 p2 p3 ?_)
  have no : ¬ (((xs.size : Int) - 1 == 0 && (-1 : Int) == 1 && xs.size == xs.size) = true) := by
    rw [show ((-1 : Int) == 1) = false by decide, Bool.and_false, Bool.false_and]; exact Bool.false_ne_true
  show wpAny _ _ (if ((xs.size : Int) - 1 == 0 && (-1 : Int) == 1 && xs.size == xs.size) = true then _ else _) _ _ s
  rw [if_neg no, back_pick]
  first
    | exact wpAny_bind (m := Builtin.Tuple.tupleExact _) (wpAny_newObj_type (wpAny_pure ⟨_, rfl, wpAny_pure h⟩) big)
    | exact wpAny_bind (m := Builtin.Tuple.tupleExact _) (wpAny_newObj_type (wpAny_bind (wpAny_pure (wpAny_pure ⟨_, rfl, wpAny_pure h⟩))) big)
    | exact wpAny_bind (wpAny_bind (m := Builtin.Tuple.tupleExact _) (wpAny_newObj_type (wpAny_pure (wpAny_pure ⟨_, rfl, wpAny_pure h⟩)) big))
    | exact wpAny_bind (wpAny_bind (m := Builtin.Tuple.tupleExact _) (wpAny_newObj_type (wpAny_pure ⟨_, rfl, wpAny_pure h⟩) big))
end
end HT
namespace Dl
noncomputable section
open PySem PySem.Spec PyProof.Rows L2
def tBack (K : PySem.W.Frag) (te : TE) : TE := fun σ H Q => te σ H fun x H1 => ∃ a xs, x = .ref a ∧ ((SqL K H1 a xs ∧ ∀ p, H1 p = none → Q (.ref p) (upd H1 p (.lst xs.reverse))) ∨ (SqT K H1 a xs ∧ ∀ p, H1 p = none → Q (.ref p) (upd H1 p (.tup xs.reverse))))
/-- x[::-1] of a list, a tuple -/
theorem pe_back {X : Cx} {e : Expr} {te : TE} {k : Nat} {p1 p2 p3 pos : Pos} (he : PE X e te) : PE X (.Subscript e (.Slice none none (some (.UnaryOp .USub (.Constant (.int 1) k p1) p2)) p3) pos) (tBack X.K te) := by
  refine ⟨fun pins s σ H Q I h => Subscript_ (thn (he.run pins s σ H _ I h) fun v s1 ⟨x, H1, I1, r1, q1⟩ => ?_)⟩
  obtain ⟨a, xs, ex, hx⟩ := q1
  subst ex
  cases r1
  have st : PO X (some (.UnaryOp .USub (.Constant (.int 1) k p1) p2)) (tPart (tUn (rU fun i => .int (-i)) (tC (.int 1)))) := po_some (pe_un un_neg pe_int)
  refine wpAny_Slice (thn (po_none.run pins s1 σ H1 (fun o H2 => o = none ∧ H2 = H1) I1 ⟨rfl, rfl⟩) fun vl s2 ⟨l, H2, I2, pl, el, e2⟩ => ?_)
  subst el e2
  refine thn (po_none.run pins s2 σ H2 (fun o H3 => o = none ∧ H3 = H2) I2 ⟨rfl, rfl⟩) fun vu s3 ⟨u, H3, I3, pu, eu, e3⟩ => ?_
  subst eu e3
  refine thn (st.run pins s3 σ H3 (fun o H4 => o = some (-1) ∧ H4 = H3) I3 ⟨1, rfl, -1, rfl, rfl, rfl⟩) fun vs s4 ⟨o, H4, I4, ps, eo, e4⟩ => ?_
  subst eo e4
  have I5 : Inv X pins σ H4 { s4 with heap := s4.heap.push { cls := .type "slice", data := .fields #[vl, vu, vs] } } := I4.kept (t' := s4.toks) fun _ _ q => Heap.get?_push_of_some _ q
  show wpAny (model X.prog X.w) X.A (subscriptTail e (.Slice none none (some (.UnaryOp .USub (.Constant (.int 1) k p1) p2)) p3) (.ref a) (.ref s4.heap.objs.size)) (EP X pins σ Q) X.xe { s4 with heap := s4.heap.push { cls := .type "slice", data := .fields #[vl, vu, vs] } }
  rcases hx with ⟨hx, q⟩ | ⟨hx, q⟩
  · obtain ⟨its, r, ht, hz⟩ := I5.list hx
    have hl := r.length
    refine tail_any (ops := [.ref a, .ref s4.heap.objs.size]) ht.isList.typeIs (PySem.slot_list_getitem.lookup) (wpAny_getItem_list_slice ht.isList (Heap.IsSliceOf.new _ vl vu vs) pl pu ps (by decide) ?_ (by rw [List.size_toArray]; omega)) (by with_unfolding_all rfl)
    rw [PySem.W.krv_pick]
    exact ⟨.ref _, _, I5.laid (t' := s4.toks) (o := .lst xs.reverse) (fun _ _ q => Heap.get?_push_of_some _ q) (Nat.le_refl _) ⟨by rw [List.length_reverse]; exact hz, _, 0, r.reverse, Heap.get?_push_size _ rfl⟩, rfl, q _ (I5.hok.fresh (Nat.le_refl _))⟩
  · obtain ⟨its, r, ht, hz⟩ := I5.tuple hx
    have hl := r.length
    refine tail_any (ops := [.ref a, .ref s4.heap.objs.size]) ht.typeIs PyProof.Rows.slot_tuple_getitem.lookup (HT.back_item ht (Heap.IsSliceOf.new _ vl vu vs) pl pu ps ?_ (by rw [List.size_toArray]; omega)) (by with_unfolding_all rfl)
    exact ⟨.ref _, _, I5.laid (t' := s4.toks) (o := .tup xs.reverse) (fun _ _ q => Heap.get?_push_of_some _ q) (Nat.le_refl _) ⟨by rw [List.length_reverse]; exact hz, its.reverse, r.reverse, IsTup.new _ _⟩, rfl, q _ (I5.hok.fresh (Nat.le_refl _))⟩
def gRev : D → Option D
  | .list ds => some (.list ds.reverse)
  | .tuple ds => some (.tuple ds.reverse)
  | _ => none
theorem t_back {c : Ct} {a : Bo} (σ : L2.St) (H : Hp) (Q : VK) (h : tX c (xOp1 gRev a) σ H Q) : tBack c.K (tBo c a) σ H Q := by
  obtain ⟨Mo, θ, E, rel, h⟩ := h
  refine tBo_of rel (Co.mono (Co.bind (rl := BoR c.K a σ) h) ?_)
  rintro x H1 ⟨o1, E1, e1, r1, t1, b1, h1⟩
  split at h1
  · rename_i dx fx
    have rb := b1.fin r1 fx
    cases dx with
    | list ds =>
      obtain ⟨p, xs, rfl, hs, rs⟩ := rb.lst
      exact ⟨p, xs, rfl, .inl ⟨hs.sq, fun q hq => Co.give r1 h1 (Ext.upd hq) (new_lst r1.hg hq rs.reverse)⟩⟩
    | tuple ds =>
      obtain ⟨p, xs, rfl, hs, _, rs⟩ := rb.tup
      exact ⟨p, xs, rfl, .inr ⟨hs, fun q hq => Co.give r1 h1 (Ext.upd hq) (new_tup r1.hg hq rs.reverse)⟩⟩
    | _ => exact h1.elim
  · exact h1.elim
/-- {} -/
def xEmp : Xf := fun E => .ok (.dict []) E
theorem t_emp {c : Ct} (σ : L2.St) (H : Hp) (Q : VK) (h : tX c xEmp σ H Q) : ∀ p, H p = none → Q (.ref p) (upd H p (.dK [])) := fun p hp => by
  obtain ⟨Mo, θ, E, rel, h⟩ := h
  exact Co.give rel h (Ext.upd hp) (.dic upd_same fun z => by obtain ⟨o, q⟩ := rel.mm z; rw [hp] at q; cases q)
section
variable (r : Cmp) (g : Cfg)
def cBack : (e : Expr) → Option (DE g e)
  | .Subscript a (.Slice none none (some (.UnaryOp .USub (.Constant (.int 1) k p1) p2)) p3) p => match cB r g a with
    | some x => some ⟨xOp1 gRev x.b, fun {X c} o => pe_of (pe_back (x.ok o)) (by rw [o.K]; exact t_back)⟩
    | none => none
  | .Dict [] [] p => some ⟨xEmp, fun o => pe_of pe_dnewK t_emp⟩
  | _ => none
end
def more1 : More := ⟨cBack, fun _ _ _ => none, fun _ _ _ => none⟩
end
end Dl

set_option Elab.async false
set_option linter.all false
set_option maxRecDepth 100000
set_option maxHeartbeats 4000000
namespace Dl
noncomputable section
open PySem PySem.Spec PyProof.Rows L2
/-! ### the module's data in the written part -/
mutual
def relD (K : PySem.W.Frag) : D → Value → Bool
  | .none, .none => true
  | .bool b, .bool c => b == c
  | .int i, .int j _ => decide (i = j)
  | .str x, .str y _ => decide (x = y)
  | .tuple ds, .ref a => match K.lookup a with
    | some ⟨.type t, _, .seq its _, _⟩ => decide (t = "tuple") && (Nat.ble its.size 1000 && relDs K ds its.toList)
    | _ => false
  | .list ds, .ref a => match K.lookup a with
    | some ⟨.type t, none, .seq its _, sl⟩ => decide (t = "list") && (decide (sl.size = 0) && (Nat.ble its.size 1000 && relDs K ds its.toList))
    | _ => false
  | _, _ => false
def relDs (K : PySem.W.Frag) : List D → List Value → Bool
  | [], [] => true
  | d :: ds, v :: vs => relD K d v && relDs K ds vs
  | _, _ => false
end
def toV0 : D → Value → V
  | .none, _ => .non
  | .bool b, _ => .bl b
  | .int i, _ => .int i
  | .str x, _ => .str x
  | _, .ref a => .ref a
  | _, _ => .non
theorem le1000 {n : Nat} (h : Nat.ble n 1000 = true) : n ≤ sizeLine := by
  have := Nat.le_of_ble_eq_true h
  rw [sizeLine_eq]; omega
mutual
theorem relD_ok {K : PySem.W.Frag} : ∀ (d : D) (v : Value), relD K d v = true → ∃ x, RelV x v ∧ ∀ H M, R K H M x d
  | .none, v, h => by
    cases v <;> first | exact ⟨.non, rfl, fun _ _ => .non⟩ | (simp [relD] at h)
  | .bool b, v, h => by
    cases v <;> first | (simp only [relD, beq_iff_eq] at h; subst h; exact ⟨.bl b, rfl, fun _ _ => .bl b⟩) | (simp [relD] at h)
  | .int i, v, h => by
    cases v <;> first | (simp only [relD, decide_eq_true_eq] at h; subst h; exact ⟨.int i, ⟨_, rfl⟩, fun _ _ => .int i⟩) | (simp [relD] at h)
  | .str x, v, h => by
    cases v <;> first | (simp only [relD, decide_eq_true_eq] at h; subst h; exact ⟨.str x, ⟨_, rfl⟩, fun _ _ => .str x⟩) | (simp [relD] at h)
  | .tuple ds, v, h => by
    cases v with
    | ref a =>
      unfold relD at h
      split at h
      · rename_i t od its n sl e
        simp only [Bool.and_eq_true, decide_eq_true_eq] at h
        obtain ⟨rfl, h1, h2⟩ := h
        obtain ⟨xs, r1, r2⟩ := relDs_ok ds its.toList h2
        exact ⟨.ref a, rfl, fun H M => .ktup (.inr ⟨_, its, n, e, rfl, rfl, le1000 h1, r1⟩) (r2 H M)⟩
      · cases h
    | _ => simp [relD] at h
  | .list ds, v, h => by
    cases v with
    | ref a =>
      unfold relD at h
      split at h
      · rename_i t its n sl e
        simp only [Bool.and_eq_true, decide_eq_true_eq] at h
        obtain ⟨rfl, h0, h1, h2⟩ := h
        have hs : sl = #[] := Array.eq_empty_of_size_eq_zero h0
        subst hs
        obtain ⟨xs, r1, r2⟩ := relDs_ok ds its.toList h2
        exact ⟨.ref a, rfl, fun H M => .klst (.inr ⟨its.toList, n, e, by rw [Array.length_toList]; exact le1000 h1, r1⟩) (r2 H M)⟩
      · cases h
    | _ => simp [relD] at h
  | .dict l, v, h => by simp [relD] at h
theorem relDs_ok {K : PySem.W.Frag} : ∀ (ds : List D) (vs : List Value), relDs K ds vs = true → ∃ xs, Vals xs vs ∧ ∀ H M, Rs K H M xs ds
  | [], [], h => ⟨[], .nil, fun _ _ => .nil⟩
  | [], _ :: _, h => by simp [relDs] at h
  | _ :: _, [], h => by simp [relDs] at h
  | d :: ds, v :: vs, h => by
    simp only [relDs, Bool.and_eq_true] at h
    obtain ⟨x, a, b⟩ := relD_ok d v h.1
    obtain ⟨xs, a', b'⟩ := relDs_ok ds vs h.2
    exact ⟨x :: xs, .cons a a', fun H M => .cons (b H M) (b' H M)⟩
end
def gloOk (K : PySem.W.Frag) (l : List (Str × D)) : Bool := l.all fun p => match PySem.W.nsIn K mainGlobals p.1 with
  | some (some v) => relD K p.2 v
  | _ => false
theorem gloOk_at {K : PySem.W.Frag} {h : Heap} {mg : Str → Option Value} (X : K.In h) (G : h.Ns mainGlobals mg) {l : List (Str × D)} (c : gloOk K l = true) : ∀ p ∈ l, ∃ v u, mg p.1 = some u ∧ RelV v u ∧ ∀ H M, R K H M v p.2 := fun p hp => by
  have h1 := List.all_eq_true.mp c p hp
  split at h1
  · rename_i v e
    obtain ⟨x, a, b⟩ := relD_ok p.2 v h1
    exact ⟨x, v, PySem.W.mg_of X G e, a, b⟩
  · cases h1
/-! ### what the head tells -/
structure Told (K : PySem.W.Frag) (mg : Str → Option Value) (defs : List (Str × Stmt)) (glo : List (Str × D)) (blt exs : List Str) (subs : List (Str × Str)) : Prop where
  fn : ∀ p ∈ defs, ∃ f fd, Fun K p.1 p.1 p.2 f fd ∧ mg p.1 = some (.ref f)
  dat : ∀ p ∈ glo, ∃ v u, mg p.1 = some u ∧ RelV v u ∧ ∀ H M, R K H M v p.2
  fre : ∀ x ∈ blt, mg x = none
  own : ∀ x ∈ exs, OwnX K mg x
  sub : ∀ x ∈ exs, ∀ y ∈ exs, ∀ u v, mg x = some u → mg y = some v → PySem.W.exmOne K u v = some (decide ((x, y) ∈ subs))
theorem fun_of_D {K : PySem.W.Frag} {x : Str} {st : Stmt} {f : Addr} {fd : FuncData} (F : FunD K x x (defArgs st) (defBody st) (defScope st) [] [] f fd) : Fun K x x st f fd := by
  obtain ⟨oc, od, dV, kV, doc, pm, an, cdv, ct, osl, h1, h2, h3, h4, _⟩ := F.ex
  have e : dV = .none := by
    rcases h4 with h4 | h4
    · exact h4.2
    · exact absurd rfl h4.1
  subst e
  exact ⟨⟨oc, od, kV, doc, pm, an, cdv, ct, osl, h1, h2, h3⟩, F.kp⟩
def defD (p : Str × Stmt) : He.DefD := ⟨(p.1, none), p.1, p.1, defArgs p.2, defBody p.2, defScope p.2, [], []⟩
def faOf (defs : List (Str × Stmt)) (blt exs : List Str) (subs : List (Str × Str)) : List He.Fa :=
  defs.map (fun p => He.Fa.glo p.1) ++ (blt.map He.Fa.free ++ (exs.map He.Fa.glo ++ (exs.map He.Fa.exc ++ exs.flatMap fun x => exs.map fun y => He.Fa.exm x y (decide ((x, y) ∈ subs)))))
abbrev hookOf (n : Nat) (defs : List (Str × Stmt)) (glo : List (Str × D)) (blt exs : List Str) (subs : List (Str × Str)) : PySem.W.Hook := He.hookX n (faOf defs blt exs subs) (defs.map defD) [] [] fun K => gloOk K glo
theorem told_of {defs : List (Str × Stmt)} {glo : List (Str × D)} {blt exs : List Str} {subs : List (Str × Str)} {w : World} {h : Heap} {K : PySem.W.Frag} {mg : Str → Option Value} (X : K.In h) (G : h.Ns mainGlobals mg)
    (s : He.SaysX (faOf defs blt exs subs) (defs.map defD) [] [] (fun K => gloOk K glo) w h K) : Told K mg defs glo blt exs subs := by
  have c : He.SaysD (faOf defs blt exs subs) (defs.map defD) K := congrArg (fun z : He.AlT => z.1) s.t
  have fa : ∀ f, f ∈ faOf defs blt exs subs → f.ok K = true := fun f hf => He.SaysD.facts c hf
  have inx : ∀ x ∈ exs, He.Fa.glo x ∈ faOf defs blt exs subs := fun x hx => by
    unfold faOf
    exact List.mem_append_right _ (List.mem_append_right _ (List.mem_append_left _ (List.mem_map.mpr ⟨x, hx, rfl⟩)))
  have gx : ∀ x ∈ exs, mg x = some (.ref (He.ga K x)) := fun x hx => He.glo_ok X G (fa _ (inx x hx))
  refine ⟨fun p hp => ?_, gloOk_at X G s.more, fun x hx => ?_, fun x hx => ?_, fun x hx y hy u v hu hv => ?_⟩
  · obtain ⟨fd, F⟩ := He.SaysD.defs c (d := defD p) (List.mem_map.mpr ⟨p, hp, rfl⟩)
    refine ⟨_, fd, fun_of_D F, He.glo_ok X G (fa _ ?_)⟩
    unfold faOf
    exact List.mem_append_left _ (List.mem_map.mpr ⟨p, hp, rfl⟩)
  · refine He.free_ok X G (fa _ ?_)
    unfold faOf
    exact List.mem_append_right _ (List.mem_append_left _ (List.mem_map.mpr ⟨x, hx, rfl⟩))
  · have h1 : (He.Fa.exc x).ok K = true := fa _ (by
      unfold faOf
      exact List.mem_append_right _ (List.mem_append_right _ (List.mem_append_right _ (List.mem_append_left _ (List.mem_map.mpr ⟨x, hx, rfl⟩)))))
    obtain ⟨a1, a2⟩ := He.ba h1
    obtain ⟨a3, a4⟩ := He.ba a2
    obtain ⟨a5, a6⟩ := He.ba a4
    exact ⟨_, _, _, _, _, gx x hx, a3, PySem.F.excBase_ValueError, a1, of_decide_eq_true a5, of_decide_eq_true a6⟩
  · have h1 : (He.Fa.exm x y (decide ((x, y) ∈ subs))).ok K = true := fa _ (by
      unfold faOf
      exact List.mem_append_right _ (List.mem_append_right _ (List.mem_append_right _ (List.mem_append_right _ (List.mem_flatMap.mpr ⟨x, hx, List.mem_map.mpr ⟨y, hy, rfl⟩⟩)))))
    rw [gx x hx] at hu
    rw [gx y hy] at hv
    cases hu; cases hv
    exact of_decide_eq_true h1
theorem Told.wd {K : PySem.W.Frag} {mg : Str → Option Value} {defs : List (Str × Stmt)} {glo : List (Str × D)} {blt exs : List Str} {subs : List (Str × Str)} {g : Cfg} {P : Program} {w : World} {base : Heap} (t : Told K mg defs glo blt exs subs)
    (h1 : ∀ p ∈ g.glo, p ∈ glo) (h2 : ∀ x ∈ g.blt, x ∈ blt) (h3 : (g.exs = [] ∧ g.subs = []) ∨ (g.exs = exs ∧ g.subs = subs)) (h4 : ∀ d ∈ g.fns, Fits P w K mg base g.k d) : Wd g P w K mg base where
  fns := h4
  glo := fun p hp => t.dat p (h1 p hp)
  blt := fun x hx => t.fre x (h2 x hx)
  exs := fun x hx => by
    rcases h3 with h3 | h3
    · rw [h3.1] at hx; cases hx
    · rw [h3.1] at hx; exact t.own x hx
  subs := fun x hx y hy u v hu hv => by
    rcases h3 with h3 | h3
    · rw [h3.1] at hx; cases hx
    · rw [h3.1] at hx hy; rw [h3.2]; exact t.sub x hx y hy u v hu hv
theorem fns_nil {P : Program} {w : World} {K : PySem.W.Frag} {mg : Str → Option Value} {base : Heap} {k : Nat} : ∀ d ∈ ([] : List Fd), Fits P w K mg base k d := fun d h => by cases h
theorem fns_cons {P : Program} {w : World} {K : PySem.W.Frag} {mg : Str → Option Value} {base : Heap} {j k : Nat} {d : Fd} {l : List Fd} (h : Fits P w K mg base j d) (hj : Nat.ble j k = true) (t : ∀ d ∈ l, Fits P w K mg base k d) : ∀ e ∈ d :: l, Fits P w K mg base k e := fun e he => by
  rcases List.mem_cons.mp he with rfl | he
  · exact h.mono (Nat.le_of_ble_eq_true hj)
  · exact t e he
/-- a def that calls itself: all its levels -/
theorem fits_rec {P : Program} {w : World} {K : PySem.W.Frag} {mg : Str → Option Value} {base : Heap} {x : Str} {st : Stmt} {ps : List Str} {io : List Bool} {k0 : Nat} {g : Fn → Nat → Cfg} {b : Fn → Sf} {R : Nat → Fn} {N : Nat} {f : Addr} {fd : FuncData}
    (F : Fun K x x st f fd) (hm : mg x = some (.ref f)) (d : ∀ F k, DefOk (g F k) st x ps (b F)) (hN : ∀ F k, (g F k).N.length = N) (hk : ∀ F k, (g F k).k = k) (r0 : R 0 = fun _ => .no) (rs : ∀ n, R (n + 1) = runF ps.length N (b (R n)))
    (W : ∀ F k, k0 ≤ k → Fits P w K mg base k ⟨x, ps, io, F⟩ → Wd (g F k) P w K mg base) : ∀ n, Fits P w K mg base (k0 + n) ⟨x, ps, io, R n⟩
  | 0 => by
    rw [r0]
    have dd := d (fun _ => .no) 0
    have nd := dd.nd
    have hfd := fun_fd F dd.args dd.ps
    refine ⟨f, fd, ⟨fun vs H Q E h => spD_len h, fun A outer s H args us vs Q E _ _ _ _ h => ?_⟩, hm, F.kp, binds_of hfd.1 hfd.2.1 hfd.2.2 nd, kbinds_of hfd.1 hfd.2.1 hfd.2.2 nd⟩
    obtain ⟨_, _, _, _, _, _, h⟩ := h
    exact h.elim
  | n + 1 => by
    have ih := fits_rec F hm d hN hk r0 rs W n
    have h := fits_of (io := io) (d (R n) (k0 + n)) (W (R n) (k0 + n) (Nat.le_add_right _ _) ih) F hm
    rw [hN, hk, ← rs] at h
    exact h
/-! ### the end -/
theorem sqX_script {K : PySem.W.Frag} {H : Hp} {h : Heap} {a : Addr} {vs : List Value} {xs : List V} (X : K.In h) (e : h.get? a = some { cls := .type "list", data := .seq vs.toArray }) (s : SqL K H a xs) : SqX K H a xs := by
  rcases s with s | ⟨o, its, n, e1, e2, e3, e4, z, r⟩
  · exact .inl s
  · have q := X _ _ e1
    rw [e] at q
    have q' := Option.some.inj q
    subst q'
    cases e4
    exact .inr ⟨vs, 0, e1, by simpa using z, by simpa using r⟩
theorem rs_ints {K : PySem.W.Frag} {H : Hp} {M : Ms} : ∀ ns : List Int, Rs K H M (ns.map V.int) (ns.map PyData.int)
  | [] => .nil
  | n :: ns => .cons (.int n) (rs_ints ns)
theorem walk_D {l : PySem.W.OpenLaw} {n k : Nat} {q : Program} {loose : List Str} {XP : (Str → Option Value) → Heap → Prop} {YP : World → Heap → Prop} {d : DefRec} {x : Str} {F : Fn}
    (hn : l.most = some n) (hn2 : n ≤ sizeLine) (hdf : d.params.defaults = []) (hr : Room k callerA)
    (T : ∀ (w : World) (mg : Str → Option Value) (fa : Addr) (h : Heap), YP w h → h.Ns mainGlobals mg → mg d.name = some (.ref fa) →
      ∃ (K : PySem.W.Frag) (fd : FuncData), K.In h ∧ (∀ (s : Shared) (u : Value), BindsTo s fd ⟨[u], []⟩ [(x, u)]) ∧ ∀ base : Heap, K.In base → base.Ns mainGlobals mg → FnOk l.prog w K mg base (L2.CX l.prog w) k fa fd [x] (spD K mg 1 F))
    (law : ∀ ns : List Int, ns.length ≤ n → F [.im (.list (ns.map PyData.int))] = .ok (.im (.bool true)) []) : PySem.W.WalkO q loose XP YP l.row.toRowW d [] (fun f vs => PySem.call f vs) := by
  refine Att.attach_call hn hdf fun w s₀ s₁ mg mb fa o pm cd doc a vs ns G Y ho hd hcd hmg hobj hints hlen hg => ?_
  obtain ⟨K, fd, KX, hb, hF⟩ := T w mg fa _ Y G.T.g hmg
  refine law_call KX G.T.g G.T.b G.T.builtins G.T.nolimit hg hobj hints (Nat.le_trans hlen hn2) hr hF hb (fun H hO hS => ?_) (fun H e s' h => by
    obtain ⟨_, _, _, _, _, _, _, _, _, _, _, _, z⟩ := h
    exact z.elim)
  have hX := sqX_script KX hobj hS
  have none_mm : ∀ b, ¬ MM (fun _ => False) (fun _ => 0) (en [.im (.list (ns.map PyData.int))]) b := fun b z => by
    rcases z with z | ⟨j, y, ds, g1, g2, _⟩
    · exact z
    · rw [gs_en] at g1
      cases j with
      | zero => cases g1; cases g2
      | succ j => cases g1
  refine ⟨fun _ => False, fun _ => 0, [.im (.list (ns.map PyData.int))], rfl, rfl, ⟨fun i e g => ?_, fun i y ds g1 g2 => ?_, fun i j y z ds es g1 l1 g2 l2 e => ?_, fun b z => z.elim, rfl⟩, ?_⟩
  · rw [gs_en] at g
    cases i with
    | zero =>
      cases g
      refine ⟨.ref a, rfl, ?_⟩
      rcases hX with hX | hX
      · exact .lst hX (none_mm a) (rs_ints ns)
      · exact .klst (.inr hX) (rs_ints ns)
    | succ i => cases g
  · exact (none_mm 0 (.inr ⟨i, y, ds, g1, g2, rfl⟩)).elim
  · exact (none_mm 0 (.inr ⟨i, y, ds, g1, l1, rfl⟩)).elim
  · rw [law ns hlen]
    intro v H' _ _ r
    cases r
    rfl
theorem fns_consL {P : Program} {w : World} {K : PySem.W.Frag} {mg : Str → Option Value} {base : Heap} {j k : Nat} {d : Fd} {l : List Fd} (h : Fits P w K mg base j d) (hj : j ≤ k) (t : ∀ d ∈ l, Fits P w K mg base k d) : ∀ e ∈ d :: l, Fits P w K mg base k e :=
  fns_cons h (Nat.ble_eq_true_of_le hj) t
theorem sub_nil {α : Type} {L : List α} : ∀ p ∈ ([] : List α), p ∈ L := fun p h => by cases h
theorem sub_cons {α : Type} {a : α} {l L : List α} (h : a ∈ L) (t : ∀ p ∈ l, p ∈ L) : ∀ p ∈ a :: l, p ∈ L := fun p hp => by
  rcases List.mem_cons.mp hp with rfl | hp
  · exact h
  · exact t p hp
theorem binds_law {K : PySem.W.Frag} {g : Cfg} {st : Stmt} {x y : Str} {body : Sf} {f : Addr} {fd : FuncData} (F : Fun K x x st f fd) (d : DefOk g st x [y] body) : ∀ (s : Shared) (u : Value), BindsTo s fd ⟨[u], []⟩ [(y, u)] := fun s u => by
  have hfd := fun_fd F d.args d.ps
  have h := bind_kw (us := [u]) (ws := []) hfd.1 hfd.2.1 hfd.2.2 d.nd rfl
  exact .of_eq h
end
end Dl

set_option Elab.async false
set_option linter.all false
set_option maxRecDepth 100000
set_option maxHeartbeats 4000000
namespace Dl
noncomputable section
open PySem PySem.Spec PyProof.Rows L2
/-! ### reckoning: what each piece gives -/
section
variable {E E1 : En} {d d' x y : D} {i j : Nat} {f f' : Xf} {a b : Bo} {u v : Int} {ds es : List D}
@[simp] theorem e_seq (a b : Sf) (E : En) : sSeq a b E = (a E).seq b := rfl
@[simp] theorem e_nx (E : En) : sNx E = .nx E := rfl
@[simp] theorem e_bk (E : En) : sBk E = .bk E := rfl
@[simp] theorem e_ct (E : En) : sCt E = .ct E := rfl
@[simp] theorem e_C : xC d E = .ok d E := rfl
@[simp] theorem e_V : xV i E = match gs E i with
  | some (.im d) => .ok d E
  | some (.ow ds) => .ok (.list ds) (ss E i (some (.im (.list ds))))
  | _ => .no := rfl
@[simp] theorem e_rv : (Bo.v i).run E = match gs E i with
  | some _ => .ok none E
  | none => .no := rfl
@[simp] theorem e_re : (Bo.e f).run E = (f E).bind fun d E' => .ok (some d) E' := rfl
@[simp] theorem e_fv {o : Option D} : (Bo.v i).fin o E = rdB E i := rfl
@[simp] theorem e_fe {o : Option D} : (Bo.e f).fin o E = o := rfl
@[simp] theorem e_rd : rdB E i = match gs E i with
  | some (.im d) => some d
  | some (.ow ds) => some (.list ds)
  | some (.io ds) => some (.list ds)
  | none => none := rfl
@[simp] theorem e_op1 {g : D → Option D} : xOp1 g a E = (a.run E).bind fun x E1 => match a.fin x E1 with
  | some dx => oo (g dx) E1
  | none => .no := rfl
@[simp] theorem e_op2 {g : D → D → Option D} : xOp2 g a b E = (a.run E).bind fun x E1 => (b.run E1).bind fun y E2 => match a.fin x E2 with
  | some dx => match b.fin y E2 with
    | some dy => oo (g dx dy) E2
    | none => .no
  | none => .no := rfl
@[simp] theorem e_op1F {g : D → Option D} : xOp1F g a E = (a.run E).bind fun x E1 => match a.fin x E1 with
  | some dx => match g dx with
    | some d => mkF d E1
    | none => .no
  | none => .no := rfl
@[simp] theorem e_op2F {g : D → D → Option D} : xOp2F g a b E = (a.run E).bind fun x E1 => (b.run E1).bind fun y E2 => match a.fin x E2 with
  | some dx => match b.fin y E2 with
    | some dy => match g dx dy with
      | some d => mkF d E2
      | none => .no
    | none => .no
  | none => .no := rfl
@[simp] theorem e_mkI : mkF (.int u) E = .ok (.im (.int u)) E := rfl
@[simp] theorem e_mkS {z : Str} : mkF (.str z) E = .ok (.im (.str z)) E := rfl
@[simp] theorem e_mkT : mkF (.tuple ds) E = .ok (.im (.tuple ds)) E := rfl
@[simp] theorem e_mkL : mkF (.list ds) E = .ok (.ow ds) E := rfl
@[simp] theorem e_nil : xNil E = .ok [] E := rfl
@[simp] theorem e_cons {r : Xfs} : xCons f r E = (f E).bind fun d E1 => (r E1).bind fun ds E2 => .ok (d :: ds) E2 := rfl
@[simp] theorem e_tup {fs : Xfs} : xTup fs E = (fs E).bind fun ds E1 => .ok (.tuple ds) E1 := rfl
@[simp] theorem e_lst {fs : Xfs} : xLst fs E = (fs E).bind fun ds E1 => .ok (.list ds) E1 := rfl
@[simp] theorem e_lstF {fs : Xfs} : xLstF fs E = (fs E).bind fun ds E1 => .ok (.ow ds) E1 := rfl
@[simp] theorem e_D {f : Xs} : xD f E = (f E).bind fun r E' => match r with
  | .im d => .ok d E'
  | .ow ds => .ok (.list ds) E'
  | .io _ => .no := rfl
@[simp] theorem e_F : xF f E = (f E).bind fun d E' => .ok (.im d) E' := rfl
@[simp] theorem e_bT : xbT a E = (a.run E).bind fun x E1 => match a.fin x E1 with
  | some d => oo (tru d) E1
  | none => .no := rfl
@[simp] theorem e_nt : xNt a E = (xbT a E).bind fun b E1 => .ok (.bool (!b)) E1 := rfl
@[simp] theorem e_bV : xbV f E = (f E).bind fun d E1 => match d with
  | .bool b => .ok b E1
  | _ => .no := rfl
@[simp] theorem e_and : xAnd f f' E = (f E).bind fun d E1 => match d with
  | .bool true => f' E1
  | .bool false => .ok (.bool false) E1
  | _ => .no := rfl
@[simp] theorem e_or : xOr f f' E = (f E).bind fun d E1 => match d with
  | .bool true => .ok (.bool true) E1
  | .bool false => f' E1
  | _ => .no := rfl
@[simp] theorem e_band {p q : Xb} : xbAnd p q E = (p E).bind fun d E1 => match d with
  | true => q E1
  | false => .ok false E1 := rfl
@[simp] theorem e_bor {p q : Xb} : xbOr p q E = (p E).bind fun d E1 => match d with
  | true => .ok true E1
  | false => q E1 := rfl
@[simp] theorem e_bnot {p : Xb} : xbNot p E = (p E).bind fun d E1 => .ok (!d) E1 := rfl
@[simp] theorem e_if {p : Xb} : xIf p f f' E = (p E).bind fun d E1 => match d with
  | true => f E1
  | false => f' E1 := rfl
@[simp] theorem e_ifF {p : Xb} {f f' : Xs} : xIfF p f f' E = (p E).bind fun d E1 => match d with
  | true => f E1
  | false => f' E1 := rfl
@[simp] theorem e_yes : xbYes E = .ok true E := rfl
@[simp] theorem e_sif {p : Xb} {s s' : Sf} : sIf p s s' E = (p E).st fun d E1 => match d with
  | true => s E1
  | false => s' E1 := rfl
@[simp] theorem e_drop : sDrop f E = (f E).st fun _ E1 => .nx E1 := rfl
@[simp] theorem e_ret {f : Xs} : sRet f E = (f E).st fun r E1 => match r with
  | .io _ => .no
  | r => .rt r E1 := rfl
@[simp] theorem e_retN : sRetN E = .rt (.im .none) E := rfl
@[simp] theorem e_retV : sRetV i E = match gs E i with
  | some (.im d) => .rt (.im d) E
  | some (.ow ds) => .rt (.ow ds) (ss E i none)
  | _ => .no := rfl
@[simp] theorem e_snil : xsNil E = .ok [] E := rfl
@[simp] theorem e_scons {f : Xs} {r : Xss} : xsCons f r E = (f E).bind fun x E1 => match x with
  | .io _ => .no
  | x => (r E1).bind fun xs E2 => .ok (x :: xs) E2 := rfl
@[simp] theorem e_par {is : List Nat} {fs : Xss} : sPar is fs E = (fs E).st fun xs E1 => match putS is xs E1 with
  | some E2 => .nx E2
  | none => .no := rfl
@[simp] theorem e_set {f : Xs} : sSet i f E = sPar [i] (xsCons f xsNil) E := rfl
@[simp] theorem e_unp {is : List Nat} : sUnp is f E = (f E).st fun d E1 => match d with
  | .tuple ds => match putS is (ds.map Sl.im) E1 with
    | some E2 => .nx E2
    | none => .no
  | _ => .no := rfl
@[simp] theorem e_put0 : putS [] [] E = some E := rfl
@[simp] theorem e_put {is : List Nat} {s : Sl} {xs : List Sl} : putS (i :: is) (s :: xs) E = if noIo E i && decide (i < E.length) then putS is xs (ss E i (some s)) else none := rfl
@[simp] theorem e_noIo : noIo E i = match gs E i with
  | some (.io _) => false
  | _ => true := rfl
@[simp] theorem e_app : sApp i f E = match getL E i with
  | none => .no
  | some _ => (f E).st fun d E1 => match getL E1 i with
    | some ds => if ds.length < lim then .nx (setL E1 i (ds ++ [d])) else .no
    | none => .no := rfl
@[simp] theorem e_setI {ix : Xf} : sSetI i ix f E = (f E).st fun d E1 => match getL E1 i with
  | none => .no
  | some _ => (ix E1).st fun k E2 => match k with
    | .int k => match getL E2 i with
      | some ds => match ixN ds.length k with
        | some j => .nx (setL E2 i (ds.set j d))
        | none => .no
      | none => .no
    | _ => .no := rfl
@[simp] theorem e_getL : getL E i = (gs E i).bind Sl.ls := rfl
@[simp] theorem e_ls1 : (Sl.im d).ls = none := rfl
@[simp] theorem e_ls2 : (Sl.ow ds).ls = some ds := rfl
@[simp] theorem e_ls3 : (Sl.io ds).ls = some ds := rfl
@[simp] theorem e_setL : setL E i ds = match gs E i with
  | some (.ow _) => ss E i (some (.ow ds))
  | some (.io _) => ss E i (some (.io ds))
  | _ => E := rfl
@[simp] theorem e_raise {z : Str} : sRaise z E = .ex ⟨z, []⟩ E := rfl
@[simp] theorem e_for {it : Xi} {tg : D → En → Option En} {bd : Sf} : sFor it tg bd E = (it E).st fun ds E1 => forL tg bd ds E1 := rfl
@[simp] theorem e_for0 {tg : D → En → Option En} {bd : Sf} : forL tg bd [] E = .nx E := rfl
@[simp] theorem e_for1 {tg : D → En → Option En} {bd : Sf} : forL tg bd (d :: ds) E = match tg d E with
  | none => .no
  | some E1 => match bd E1 with
    | .nx E2 => forL tg bd ds E2
    | .ct E2 => forL tg bd ds E2
    | .bk E2 => .nx E2
    | o => o := rfl
@[simp] theorem e_tgN : tgN i d E = putS [i] [.im d] E := rfl
@[simp] theorem e_tgT {is : List Nat} : tgT is (.tuple ds) E = putS is (ds.map Sl.im) E := rfl
@[simp] theorem e_iseq : xiSeq f E = (f E).bind fun d E1 => match d with
  | .list ds => .ok ds E1
  | .tuple ds => .ok ds E1
  | .str z => .ok (signsD z) E1
  | _ => .no := rfl
@[simp] theorem e_irg1 : xiRg1 f E = (f E).bind fun d E1 => match d with
  | .int j => if inRg j then .ok (rgD 0 j.toNat) E1 else .no
  | _ => .no := rfl
@[simp] theorem e_irg2 : xiRg2 f f' E = (f E).bind fun d E1 => (f' E1).bind fun e E2 => match d with
  | .int i => match e with
    | .int j => if inRg i && inRg j then .ok (rgD i (j - i).toNat) E2 else .no
    | _ => .no
  | _ => .no := rfl
@[simp] theorem e_call {F : Fn} {as : List Ar} : xCall F as E = (arRun as E).bind fun os E1 => match arFin as os E1 with
  | some sl => match F sl with
    | .ok r io => .ok r (putA as (fillIo sl io) E1)
    | .ex x io => .ex x (putA as (fillIo sl io) E1)
    | .no => .no
  | none => .no := rfl
@[simp] theorem e_ar0 : arRun [] E = .ok [] E := rfl
@[simp] theorem e_ar1 {r : List Ar} : arRun (.io i :: r) E = match getL E i with
  | some _ => (arRun r E).bind fun os E1 => .ok (none :: os) E1
  | none => .no := rfl
@[simp] theorem e_ar2 {r : List Ar} : arRun (.e f :: r) E = (f E).bind fun d E1 => (arRun r E1).bind fun os E2 => .ok (some d :: os) E2 := rfl
@[simp] theorem e_af0 {os : List (Option D)} : arFin [] os E = some [] := rfl
@[simp] theorem e_af1 {r : List Ar} {o : Option D} {os : List (Option D)} : arFin (.io i :: r) (o :: os) E = match getL E i with
  | some ds => (arFin r os E).map (Sl.io ds :: ·)
  | none => none := rfl
@[simp] theorem e_af2 {r : List Ar} {os : List (Option D)} : arFin (.e f :: r) (some d :: os) E = (arFin r os E).map (Sl.im d :: ·) := rfl
@[simp] theorem e_pa0 {o : List Sl} : putA [] o E = E := by cases o <;> rfl
@[simp] theorem e_pa1 {r : List Ar} {o : List Sl} : putA (.io i :: r) (.io ds :: o) E = putA r o (setL E i ds) := rfl
@[simp] theorem e_pa2 {r : List Ar} {o : List Sl} {s : Sl} : putA (.e f :: r) (s :: o) E = putA r o E := rfl
@[simp] theorem e_fi0 {l : List (List D)} : fillIo [] l = [] := by cases l <;> rfl
@[simp] theorem e_fi1 {s : List Sl} {l : List (List D)} : fillIo (.im d :: s) l = .im d :: fillIo s l := by cases l <;> rfl
@[simp] theorem e_fi2 {s : List Sl} {l : List (List D)} : fillIo (.io ds :: s) (es :: l) = .io es :: fillIo s l := rfl
@[simp] theorem e_fi3 {s : List Sl} : fillIo (.io ds :: s) [] = .io ds :: fillIo s [] := rfl
@[simp] theorem e_io0 : ioOf [] E = [] := by cases E <;> rfl
@[simp] theorem e_io1 {s : List Sl} {o : Option Sl} {E : En} : ioOf (.im d :: s) (o :: E) = ioOf s E := rfl
@[simp] theorem e_io2 {s : List Sl} {E : En} : ioOf (.io ds :: s) (some (.io es) :: E) = es :: ioOf s E := rfl
theorem e_run {np N : Nat} {body : Sf} {l : List Sl} : runF np N body l = match body (en l ++ List.replicate (N - np) none) with
  | .nx E => .ok (.im .none) (ioOf l E)
  | .rt r E => .ok r (ioOf l E)
  | .ex x E => .ex x (ioOf l E)
  | _ => .no := rfl
/-! ### operators -/
@[simp] theorem g_addI : gAdd (.int u) (.int v) = some (.int (u + v)) := rfl
@[simp] theorem g_subI : gMinus (.int u) (.int v) = some (.int (u - v)) := rfl
@[simp] theorem g_mulI : gMul (.int u) (.int v) = if mulOk u v = true then some (.int (u * v)) else none := rfl
@[simp] theorem g_addT (h : ds.length + es.length ≤ 16777216) : gAdd (.tuple ds) (.tuple es) = some (.tuple (ds ++ es)) := by
  show (if ds.length + es.length ≤ lim then _ else _) = _
  rw [if_pos (show _ ≤ lim from h)]
@[simp] theorem g_addL (h : ds.length + es.length ≤ 16777216) : gAdd (.list ds) (.list es) = some (.list (ds ++ es)) := by
  show (if ds.length + es.length ≤ lim then _ else _) = _
  rw [if_pos (show _ ≤ lim from h)]
@[simp] theorem g_addS {z y : Str} (h : z.length + y.length ≤ 16777216) : gAdd (.str z) (.str y) = some (.str (z ++ y)) := by
  show (if z.length + y.length ≤ lim then _ else _) = _
  rw [if_pos (show _ ≤ lim from h)]
@[simp] theorem g_negI : gNeg (.int u) = some (.int (-u)) := rfl
@[simp] theorem g_ltI : gLt (.int u) (.int v) = some (.bool (decide (u < v))) := rfl
@[simp] theorem g_leI : gLe (.int u) (.int v) = some (.bool (decide (u ≤ v))) := rfl
@[simp] theorem g_gtI : gGt (.int u) (.int v) = some (.bool (decide (v < u))) := rfl
@[simp] theorem g_geI : gGe (.int u) (.int v) = some (.bool (decide (v ≤ u))) := rfl
theorem eqv_int : PyData.eqv (.int u) (.int v) = decide (u = v) := by
  rw [PyData.eqv.eq_def]; exact Bool.beq_eq_decide_eq u v
@[simp] theorem g_eqI : gEq (.int u) (.int v) = some (.bool (decide (u = v))) := by
  show (if (SeqAt.shaped (.int u) && SeqAt.shaped (.int v)) = true then _ else _) = _
  rw [eqv_int]; rfl
@[simp] theorem g_neI : gNe (.int u) (.int v) = some (.bool (!decide (u = v))) := by
  show (if (SeqAt.shaped (.int u) && SeqAt.shaped (.int v)) = true then _ else _) = _
  rw [eqv_int]; rfl
@[simp] theorem g_modI (h : 0 < v) : gMod (.int u) (.int v) = some (.int (u % v)) := by
  show (if decide (0 < v) = true then _ else _) = _
  rw [decide_eq_true h]; rfl
@[simp] theorem g_fdivI (h : 0 < v) (h2 : v < 18446744073709551616) : gFdiv (.int u) (.int v) = some (.int (u / v)) := by
  have h3 : v.natAbs.log2 < 9000 := by
    by_cases h0 : v.natAbs = 0
    · omega
    · have := (Nat.log2_lt (k := 64) h0).mpr (by omega)
      omega
  show (if (decide (0 < v) && decide (v.natAbs.log2 < 9000)) = true then _ else _) = _
  rw [decide_eq_true h, decide_eq_true h3]; rfl
theorem in_rg (h1 : -(2 ^ 62) ≤ u) (h2 : u < 2 ^ 62) : inRg u = true := by
  unfold inRg
  rw [i62_eq, decide_eq_true h1, decide_eq_true h2]; rfl
@[simp] theorem g_intI : gInt (.int u) = some (.int u) := rfl
@[simp] theorem g_lenT : gLen (.tuple ds) = some (.int ds.length) := rfl
@[simp] theorem g_lenL : gLen (.list ds) = some (.int ds.length) := rfl
@[simp] theorem g_ixT : gIdx (.tuple ds) (.int u) = atI ds u := rfl
@[simp] theorem g_ixL : gIdx (.list ds) (.int u) = atI ds u := rfl
@[simp] theorem g_tupL : gToTup (.list ds) = some (.tuple ds) := rfl
@[simp] theorem g_tupT : gToTup (.tuple ds) = some (.tuple ds) := rfl
@[simp] theorem e_whl {n : Nat} {t : Xb} {bd : Sf} : sWhl n t bd E = whL t bd n E := rfl
@[simp] theorem t_trB {q : Bool} : tru (.bool q) = some q := rfl
end
end
end Dl

set_option Elab.async false
set_option linter.all false
set_option maxRecDepth 100000
set_option maxHeartbeats 4000000
namespace Dl
noncomputable section
open PySem PySem.Spec PyProof.Rows L2
/-! ### comprehensions, loops -/
section
variable {E : En} {d : D} {i : Nat} {ds acc : List D}
@[simp] theorem e_lc {it : Xi} {tg : D → En → Option En} {tt : Xb} {elt : Xf} {ws : List Nat} : xLc it tg tt elt ws E = (it E).bind fun ds E1 =>
  if freeS E1 ws then match lcL tg tt elt ws ds [] E1 with
    | .ok acc E2 => .ok (.ow acc) (rstE E1 E2 ws)
    | _ => .no
  else .no := rfl
@[simp] theorem e_lc0 {tg : D → En → Option En} {tt : Xb} {elt : Xf} {ws : List Nat} : lcL tg tt elt ws [] acc E = if freeS E ws then .ok acc (wipeE E ws) else .no := rfl
@[simp] theorem e_fs0 : freeS E [] = true := rfl
@[simp] theorem e_fs1 {ws : List Nat} : freeS E (i :: ws) = ((match gs E i with
  | some (.ow _) => false
  | some (.io _) => false
  | _ => true) && freeS E ws) := rfl
@[simp] theorem e_wi0 : wipeE E [] = E := rfl
@[simp] theorem e_wi1 {ws : List Nat} : wipeE E (i :: ws) = ss (wipeE E ws) i none := rfl
@[simp] theorem e_rs0 {E0 : En} : rstE E0 E [] = E := rfl
@[simp] theorem e_rs1 {E0 : En} {ws : List Nat} : rstE E0 E (i :: ws) = ss (rstE E0 E ws) i (gs E0 i) := rfl
/-- [elt for i in ds]: the block changes nothing but i -/
theorem lc_pure {elt : Xf} {g : D → D} (hi : i < E.length) (h0 : gs E i = none) : ∀ (ds acc : List D) (E' : En), (E' = E ∨ ∃ d, E' = ss E i (some (.im d))) → (∀ d ∈ ds, elt (ss E i (some (.im d))) = .ok (g d) (ss E i (some (.im d)))) → acc.length + ds.length ≤ lim →
    lcL (tgN i) xbYes elt [i] ds acc E' = .ok (acc ++ ds.map g) E := by
  have nn : ∀ (E : En) (j : Nat), gs E j = none → ss E j none = E := by
    intro E
    induction E with
    | nil => intro j _; rfl
    | cons x r ih => intro j h; cases j with
      | zero => cases x with
        | none => rfl
        | some x => cases h
      | succ j => rw [ss_s, ih j h]
  have sss : ∀ (E : En) (j : Nat) (x y : Option Sl), ss (ss E j x) j y = ss E j y := by
    intro E
    induction E with
    | nil => intro j x y; rfl
    | cons z r ih => intro j x y; cases j with
      | zero => rfl
      | succ j => rw [ss_s, ss_s, ss_s, ih]
  have w : ∀ E' : En, (E' = E ∨ ∃ d, E' = ss E i (some (.im d))) → freeS E' [i] = true ∧ wipeE E' [i] = E := by
    intro E' h
    rcases h with rfl | ⟨d, rfl⟩
    · exact ⟨by rw [e_fs1, h0]; rfl, by rw [e_wi1, e_wi0]; exact nn _ _ h0⟩
    · exact ⟨by rw [e_fs1, gs_ss_same hi]; rfl, by rw [e_wi1, e_wi0, sss]; exact nn _ _ h0⟩
  intro ds
  induction ds with
  | nil =>
    intro acc E' h _ _
    obtain ⟨w1, w2⟩ := w E' h
    rw [e_lc0, w1, w2]; simp
  | cons d ds ih =>
    intro acc E' h he hl
    obtain ⟨w1, w2⟩ := w E' h
    unfold lcL
    rw [w1, if_pos rfl, w2]
    have e1 : tgN i d E = some (ss E i (some (.im d))) := by
      simp [h0, hi]
    rw [e1]
    have hlt : acc.length < lim := by rw [List.length_cons] at hl; omega
    show (match elt (ss E i (some (.im d))) with
      | .ok y E4 => if acc.length < lim then lcL (tgN i) xbYes elt [i] ds (acc ++ [y]) E4 else .no
      | _ => .no) = _
    rw [he d List.mem_cons_self]
    show (if acc.length < lim then lcL (tgN i) xbYes elt [i] ds (acc ++ [g d]) (ss E i (some (.im d))) else .no) = _
    rw [if_pos hlt, ih (acc ++ [g d]) _ (.inr ⟨d, rfl⟩) (fun d' hd' => he d' (List.mem_cons_of_mem _ hd')) (by rw [List.length_append, List.length_singleton]; rw [List.length_cons] at hl; omega)]
    rw [List.map_cons, List.append_assoc]; rfl
@[simp] theorem e_sl {a : Bo} {lo hi : Option Xf} : xSl a lo hi E = (a.run E).bind fun x E1 => (xO lo E1).bind fun l E2 => (xO hi E2).bind fun h E3 => match a.fin x E3 with
  | some dx => oo (gSl l h dx) E3
  | none => .no := rfl
@[simp] theorem e_slF {a : Bo} {lo hi : Option Xf} : xSlF a lo hi E = (a.run E).bind fun x E1 => (xO lo E1).bind fun l E2 => (xO hi E2).bind fun h E3 => match a.fin x E3 with
  | some dx => match gSl l h dx with
    | some d => mkF d E3
    | none => .no
  | none => .no := rfl
@[simp] theorem e_xO0 : xO none E = .ok none E := rfl
@[simp] theorem e_xO1 {f : Xf} : xO (some f) E = (f E).bind fun d E1 => match d with
  | .int i => .ok (some i) E1
  | _ => .no := rfl
@[simp] theorem g_slT {lo hi : Option Int} : gSl lo hi (.tuple ds) = some (.tuple (Dl.cutD ds lo hi)) := rfl
@[simp] theorem g_slL {lo hi : Option Int} : gSl lo hi (.list ds) = some (.list (Dl.cutD ds lo hi)) := rfl
theorem cut_to {k : Int} (h : 0 ≤ k) : Dl.cutD ds none (some k) = ds.take k.toNat := by
  unfold Dl.cutD HT.sIx
  simp only
  split
  · omega
  · rw [Nat.sub_zero, List.drop_zero]
    rcases Nat.lt_or_ge ds.length k.toNat with hl | hl
    · rw [Nat.min_eq_right (by omega), List.take_of_length_le (Nat.le_refl _), List.take_of_length_le (by omega)]
    · rw [Nat.min_eq_left hl]
theorem cut_from {k : Int} (h : 0 ≤ k) : Dl.cutD ds (some k) none = ds.drop k.toNat := by
  unfold Dl.cutD HT.sIx
  simp only
  split
  · omega
  · rcases Nat.lt_or_ge ds.length k.toNat with hl | hl
    · rw [Nat.min_eq_right (by omega), Nat.sub_self, List.take_zero, List.drop_of_length_le (by omega)]
    · rw [Nat.min_eq_left hl, List.take_of_length_le (by rw [List.length_drop]; omega)]
/-- one turn after another -/
def iter {α : Type} (g : α → α) : Nat → α → α
  | 0, x => x
  | n + 1, x => iter g n (g x)
theorem rgD_succ (lo : Int) (n : Nat) : rgD lo (n + 1) = .int lo :: rgD (lo + 1) n := by
  unfold rgD
  rw [List.range_succ_eq_map, List.map_cons, List.map_map]
  congr 1
  · simp
  · apply List.map_congr_left
    intro a _
    show PyData.int (lo + ((a + 1 : Nat) : Int)) = _
    congr 1
    omega
@[simp] theorem rgD_0 (lo : Int) : rgD lo 0 = [] := rfl
abbrev oI (o : Option Int) : Option Sl := o.map fun j => Sl.im (.int j)
theorem for_iter {α : Type} {f : α → Option Int → En} {g : α → α} {tg : D → En → Option En} {bd : Sf} (ht : ∀ x o j, tg (.int j) (f x o) = some (f x (some j))) (hb : ∀ x j, bd (f x (some j)) = .nx (f (g x) (some j))) :
    ∀ (n : Nat) (lo : Int) (x : α) (o : Option Int), ∃ o', forL tg bd (rgD lo n) (f x o) = .nx (f (iter g n x) o')
  | 0, lo, x, o => ⟨o, rfl⟩
  | n + 1, lo, x, o => by
    obtain ⟨o', h⟩ := for_iter ht hb n (lo + 1) (g x) (some lo)
    refine ⟨o', ?_⟩
    rw [rgD_succ, e_for1, ht]
    dsimp only
    rw [hb]
    exact h
end
/-- with what stays true, by the turns that are left -/
theorem for_iterP {α : Type} {f : α → Option Int → En} {g : α → α} {tg : D → En → Option En} {bd : Sf} {P : Nat → α → Prop} (ht : ∀ x o j, tg (.int j) (f x o) = some (f x (some j))) (hb : ∀ n x j, P (n + 1) x → bd (f x (some j)) = .nx (f (g x) (some j)) ∧ P n (g x)) :
    ∀ (n : Nat) (lo : Int) (x : α) (o : Option Int), P n x → ∃ o', forL tg bd (rgD lo n) (f x o) = .nx (f (iter g n x) o') ∧ P 0 (iter g n x)
  | 0, lo, x, o, h => ⟨o, rfl, h⟩
  | n + 1, lo, x, o, h => by
    obtain ⟨h1, h2⟩ := hb n x lo h
    obtain ⟨o', h3⟩ := for_iterP ht hb n (lo + 1) (g x) (some lo) h2
    refine ⟨o', ?_, h3.2⟩
    rw [rgD_succ, e_for1, ht]
    dsimp only
    rw [h1]
    exact h3.1
theorem rg4 : rgD 0 4 = [.int 0, .int 1, .int 2, .int 3] := rfl
theorem e_lc1 {tg : D → En → Option En} {tt : Xb} {elt : Xf} {ws : List Nat} {d : D} {ds acc : List D} {E : En} : lcL tg tt elt ws (d :: ds) acc E = if freeS E ws then match tg d (wipeE E ws) with
    | none => .no
    | some E2 => match tt E2 with
      | .ok true E3 => match elt E3 with
        | .ok y E4 => if acc.length < lim then lcL tg tt elt ws ds (acc ++ [y]) E4 else .no
        | _ => .no
      | .ok false E3 => lcL tg tt elt ws ds acc E3
      | _ => .no
    else .no := rfl
theorem bls_map (f : D → Bool) : ∀ ds : List D, bls (ds.map fun d => PyData.bool (f d)) = some (ds.map f)
  | [] => rfl
  | d :: ds => by
    show (bls (ds.map fun d => PyData.bool (f d))).map (f d :: ·) = _
    rw [bls_map f ds]; rfl
@[simp] theorem g_allM (f : D → Bool) (ds : List D) : gAll (.list (ds.map fun d => PyData.bool (f d))) = some (.bool (ds.all f)) := by
  show (bls _).map (fun bs => PyData.bool (bs.all id)) = _
  rw [bls_map]
  simp [List.all_map]
end
end Dl

set_option Elab.async false
set_option linter.all false
set_option maxRecDepth 100000
set_option maxHeartbeats 4000000
namespace Dl
noncomputable section
open PySem PySem.Spec PyProof.Rows L2
section
variable (r : Cmp) (g : Cfg)
/-- y = [..] of a row: the name is stored within the comprehension's frame -/
def cSetLc : (s : Stmt) → Option (DS g s)
  | .Assign [.Name y py] (.ListComp elt [⟨tg, it, ifs, 0⟩] scope p) pos =>
    if hc : g.calm = true then if hb : blkB g.N g.sc scope (ownOf g.N scope.names) = true then if hs : notSet it = true then
    if hy : g.sc.names.lookup y = some .local then if hl : (py.line == p.line) = true then if ha : (scope.names.any fun (n, k) => n == y && (k == .local || k == .cell)) = false then
      match slot g y, cIter r g tg it, cTg (blkG g scope) tg, cIfs r (blkG g scope) ifs, r.e (blkG g scope) elt with
      | some sy, some di, some dg, some dt, some de => if hw : dg.is.all (fun i => ((ownOf g.N scope.names).map (·.2)).contains i) = true then
          some ⟨sSet sy.i (xLc di.f dg.f dt.f de.f ((ownOf g.N scope.names).map (·.2))), fun {X c} o => by
            have hB := blkB_ok hb
            have hk : ∀ (s : Shared) (H : Hp) (C : Addr) (cl : List (Str × Addr)) (fp : List Addr), Okk (blkG g scope) (X.blk s H scope (compEnvC scope cl C X.env) fp) (c0 c) := o.blk g hB.kind
            obtain ⟨wi, h1, h2⟩ := di.ok o
            have h3 : TgD c dg.is dg.f (dg.t X.K) := by
              have := dg.tgd c
              rw [o.K]
              exact this
            refine ps_of (ps_setLc (i := sy.i) (g := dg.t X.K) (o.calm hc).1 (by rw [o.N]; exact o.nd) (by rw [o.N]; exact sy.at_) (by rw [o.sc]; exact hy) (sw_true (by rw [o.sc]; exact o.kind) (by rw [o.sc]; exact hy) hl ha) h1 (by rw [o.N, o.sc]; exact hB) (fun s H C cl fp => dg.ok (hk s H C cl fp)) (fun s H C cl fp => dt.ok (hk s H C cl fp)) (fun s H C cl fp => de.ok (hk s H C cl fp)) (folded_ok hs)) (fun Dn σ H h => t_lc h2 h3 (fun i hi => ?_) σ H _ (t_set Dn σ H h))
            have := List.all_eq_true.mp hw i hi
            exact List.contains_iff_mem.mp this⟩
        else none
      | _, _, _, _, _ => none
    else none else none else none else none else none else none
  | .Assign [.Name y py] (.ListComp elt [⟨tg, it, ifs, 0⟩, ⟨tg1, it1, ifs1, 0⟩] scope p) pos =>
    if hc : g.calm = true then if hb : blkB g.N g.sc scope (ownOf g.N scope.names) = true then if hs : notSet it = true then if hs1 : notSet it1 = true then
    if hy : g.sc.names.lookup y = some .local then if hl : (py.line == p.line) = true then if ha : (scope.names.any fun (n, k) => n == y && (k == .local || k == .cell)) = false then
      match slot g y, cIter r g tg it, cTg (blkG g scope) tg, cIfs r (blkG g scope) ifs, cIter r (blkG g scope) tg1 it1, cTg (blkG g scope) tg1, cIfs r (blkG g scope) ifs1, r.e (blkG g scope) elt with
      | some sy, some di, some dg, some dt, some di1, some dg1, some dt1, some de => if hw : dg.is.all (fun i => ((ownOf g.N scope.names).map (·.2)).contains i) = true then if hw1 : dg1.is.all (fun i => ((ownOf g.N scope.names).map (·.2)).contains i) = true then
          some ⟨sSet sy.i (xLc2 di.f dg.f dt.f di1.f dg1.f dt1.f de.f ((ownOf g.N scope.names).map (·.2)) dg1.is), fun {X c} o => by
            have hB := blkB_ok hb
            have hk : ∀ (s : Shared) (H : Hp) (C : Addr) (cl : List (Str × Addr)) (fp : List Addr), Okk (blkG g scope) (X.blk s H scope (compEnvC scope cl C X.env) fp) (c0 c) := o.blk g hB.kind
            obtain ⟨wi, h1, h2⟩ := di.ok o
            have hv : ∀ i ∈ dg1.is, i ∈ (ownOf g.N scope.names).map (·.2) := fun i hi => List.contains_iff_mem.mp (List.all_eq_true.mp hw1 i hi)
            have h3 : TgD c dg.is dg.f (dg.t X.K) := by
              have := dg.tgd c
              rw [o.K]
              exact this
            have h4 : TgD c dg1.is dg1.f (dg1.t X.K) := by
              have := dg1.tgd c
              rw [o.K]
              exact this
            refine ps_of (ps_setLc2 (i := sy.i) (g := dg.t X.K) (wi1 := di1.w (c0 c)) (g1 := dg1.t X.K) (vs1 := dg1.is) (o.calm hc).1 (by rw [o.N]; exact o.nd) (by rw [o.N]; exact sy.at_) (by rw [o.sc]; exact hy) (sw_true (by rw [o.sc]; exact o.kind) (by rw [o.sc]; exact hy) hl ha) h1 (by rw [o.N, o.sc]; exact hB) hv (fun s H C cl fp => dg.ok (hk s H C cl fp)) (fun s H C cl fp => dt.ok (hk s H C cl fp)) (fun s H C cl fp => di1.pi (hk s H C cl fp)) (fun s H C cl fp => dg1.ok (hk s H C cl fp)) (fun s H C cl fp => dt1.ok (hk s H C cl fp)) (fun s H C cl fp => de.ok (hk s H C cl fp)) (folded_ok hs) (fun env => folded_ok hs1)) (fun Dn σ H h => t_lc2 h2 h3 (fun i hi => List.contains_iff_mem.mp (List.all_eq_true.mp hw i hi)) (di1.ti (c0 c)) h4 (fun i hi => hi) hv σ H _ (t_set Dn σ H h))⟩
        else none else none
      | _, _, _, _, _, _, _, _ => none
    else none else none else none else none else none else none else none
  | _ => none
end
def more2 : More := ⟨cBack, fun _ _ _ => none, cSetLc⟩
end
end Dl

set_option Elab.async false
set_option linter.all false
set_option maxRecDepth 100000
set_option maxHeartbeats 4000000
namespace Dl
noncomputable section
open PySem PySem.Spec PyProof.Rows L2 SkE
/-! ### more of calls -/
theorem callR_or {X : Cx} {f : Value} {r r' : List V → Hp → VK → Prop} (h : CallR X f r) (h' : CallR X f r') : CallR X f (fun xs H Q => r xs H Q ∨ r' xs H Q) :=
  fun pins s σ H xs us Q I rx q => q.elim (h pins s σ H xs us Q I rx) (h' pins s σ H xs us Q I rx)
theorem Op1.or {K : PySem.W.Frag} {r r' : List V → Hp → VK → Prop} {g g' : D → Option D} (h : Op1 K r g) (h' : Op1 K r' g') : Op1 K (fun xs H Q => r xs H Q ∨ r' xs H Q) (fun d => match g d with
    | some e => some e
    | none => g' d) := by
  intro H M x dx d Q hg rx e q
  dsimp only at e
  split at e
  · rename_i d' ed; cases e
    exact .inl (h H M x dx d Q hg rx ed q)
  · exact .inr (h' H M x dx d Q hg rx e q)
/-- int of a text -/
def gIntS : D → Option D
  | .str a => if a.length ≤ 640 then (PySem.intText? a).map .int else none
  | _ => none
theorem d_intS {K : PySem.W.Frag} : Op1 K (fun xs H Q => ∃ a n, xs = [.str a] ∧ PySem.intText? a = some n ∧ a.length ≤ 640 ∧ Q (.int n) H) gIntS := by
  intro H M x dx d Q g rx e q
  unfold gIntS at e
  split at e
  · split at e
    · rename_i a hl
      cases en : PySem.intText? a with
      | none => rw [en] at e; cases e
      | some n =>
        rw [en] at e; cases e
        exact ⟨_, _, by rw [rx.str], en, hl, q _ _ Ext.refl (.int _)⟩
    · cases e
  · cases e
def gInt2 (d : D) : Option D := match gInt d with
  | some e => some e
  | none => gIntS d
/-- str of a whole number, of a text -/
def gStr : D → Option D
  | .int i => if decide (i.natAbs.log2 < 1920) = true then some (.str (toString i)) else none
  | _ => none
theorem d_str {K : PySem.W.Frag} : Op1 K (fun xs H Q => ∃ i, xs = [.int i] ∧ i.natAbs.log2 < 1920 ∧ Q (.str (toString i)) H) gStr := by
  intro H M x dx d Q g rx e q
  unfold gStr at e
  split at e
  · split at e
    · rename_i i h; cases e
      exact ⟨_, by rw [rx.int], of_decide_eq_true h, q _ _ Ext.refl (.str _)⟩
    · cases e
  · cases e
def gStrS : D → Option D
  | .str i => some (.str i)
  | _ => none
theorem d_strS {K : PySem.W.Frag} : Op1 K (fun xs H Q => ∃ a, xs = [.str a] ∧ Q (.str a) H) gStrS := by
  intro H M x dx d Q g rx e q
  unfold gStrS at e
  split at e
  · cases e; exact ⟨_, by rw [rx.str], q _ _ Ext.refl (.str _)⟩
  · cases e
def gStr2 (d : D) : Option D := match gStr d with
  | some e => some e
  | none => gStrS d
/-- the greatest, the least of a list -/
def maxL : List Int → Option Int
  | [] => none
  | [a] => some a
  | a :: r => (maxL r).map fun m => if m > a then m else a
def minL : List Int → Option Int
  | [] => none
  | [a] => some a
  | a :: r => (minL r).map fun m => if m < a then m else a
theorem maxL_ok : ∀ {l : List Int} {m : Int}, maxL l = some m → m ∈ l ∧ ∀ y ∈ l, y ≤ m
  | [], m, h => by cases h
  | [a], m, h => by cases h; exact ⟨by simp, fun y hy => by simp at hy; omega⟩
  | a :: b :: r, m, h => by
    unfold maxL at h
    cases e : maxL (b :: r) with
    | none => rw [e] at h; cases h
    | some k =>
      rw [e] at h
      have h' : (if k > a then k else a) = m := Option.some.inj h
      obtain ⟨h1, h2⟩ := maxL_ok e
      subst h'
      split
      · refine ⟨List.mem_cons_of_mem _ h1, fun y hy => ?_⟩
        rcases List.mem_cons.mp hy with rfl | hy
        · omega
        · exact h2 y hy
      · refine ⟨List.mem_cons_self, fun y hy => ?_⟩
        rcases List.mem_cons.mp hy with rfl | hy
        · omega
        · have := h2 y hy; omega
theorem minL_ok : ∀ {l : List Int} {m : Int}, minL l = some m → m ∈ l ∧ ∀ y ∈ l, m ≤ y
  | [], m, h => by cases h
  | [a], m, h => by cases h; exact ⟨by simp, fun y hy => by simp at hy; omega⟩
  | a :: b :: r, m, h => by
    unfold minL at h
    cases e : minL (b :: r) with
    | none => rw [e] at h; cases h
    | some k =>
      rw [e] at h
      have h' : (if k < a then k else a) = m := Option.some.inj h
      obtain ⟨h1, h2⟩ := minL_ok e
      subst h'
      split
      · refine ⟨List.mem_cons_of_mem _ h1, fun y hy => ?_⟩
        rcases List.mem_cons.mp hy with rfl | hy
        · omega
        · exact h2 y hy
      · refine ⟨List.mem_cons_self, fun y hy => ?_⟩
        rcases List.mem_cons.mp hy with rfl | hy
        · omega
        · have := h2 y hy; omega
def gMaxL : D → Option D
  | .list ds => ((wholes ds).bind maxL).map .int
  | _ => none
def gMinL : D → Option D
  | .list ds => ((wholes ds).bind minL).map .int
  | _ => none
theorem d_maxL {K : PySem.W.Frag} : Op1 K (rMax K) gMaxL := by
  intro H M x dx d Q g rx e q
  unfold gMaxL at e
  split at e
  · rename_i ds
    obtain ⟨p, xs, rfl, h1, r1⟩ := rx.lst
    cases eb : wholes ds with
    | none => rw [eb] at e; cases e
    | some ns =>
      rw [eb] at e
      cases em : maxL ns with
      | none => rw [Option.bind_some, em] at e; cases e
      | some m =>
        rw [Option.bind_some, em] at e; cases e
        obtain ⟨m1, m2⟩ := maxL_ok em
        refine ⟨p, ns, rfl, by rw [← r1.wholes eb]; exact h1.sq, List.length_pos_of_mem m1, fun m' a b => ?_⟩
        have : m' = m := Int.le_antisymm (m2 m' a) (b m m1)
        subst this
        exact q _ _ Ext.refl (.int _)
  · cases e
theorem d_minL {K : PySem.W.Frag} : Op1 K (rMin K) gMinL := by
  intro H M x dx d Q g rx e q
  unfold gMinL at e
  split at e
  · rename_i ds
    obtain ⟨p, xs, rfl, h1, r1⟩ := rx.lst
    cases eb : wholes ds with
    | none => rw [eb] at e; cases e
    | some ns =>
      rw [eb] at e
      cases em : minL ns with
      | none => rw [Option.bind_some, em] at e; cases e
      | some m =>
        rw [Option.bind_some, em] at e; cases e
        obtain ⟨m1, m2⟩ := minL_ok em
        refine ⟨p, ns, rfl, by rw [← r1.wholes eb]; exact h1.sq, List.length_pos_of_mem m1, fun m' a b => ?_⟩
        have : m' = m := Int.le_antisymm (b m m1) (m2 m' a)
        subst this
        exact q _ _ Ext.refl (.int _)
  · cases e
def bInt2 : B1D := ⟨"int", gInt2, fun X hc hg hm => ⟨_, Op1.or d_int d_intS, fun ha hs => pe_callTy (callR_or call_int1 call_int_str) hg hm boot_int ha (by decide) (by decide) (star_ok hs) rfl⟩⟩
def bStr : B1D := ⟨"str", gStr2, fun X hc hg hm => ⟨_, Op1.or d_str d_strS, fun ha hs => pe_callTy (callR_or call_str_int call_str_str) hg hm boot_str ha (by decide) (by decide) (star_ok hs) rfl⟩⟩
def bMaxL : B1D := ⟨"max", gMaxL, fun X hc hg hm => ⟨_, d_maxL, fun ha hs => pe_callB (cr_max hc) hg hm boot_max ha (by decide) (by decide) (star_ok hs) rfl⟩⟩
def bMinL : B1D := ⟨"min", gMinL, fun X hc hg hm => ⟨_, d_minL, fun ha hs => pe_callB (cr_min hc) hg hm boot_min ha (by decide) (by decide) (star_ok hs) rfl⟩⟩
/-! ### sorted -/
def insI (a : Int) : List Int → List Int
  | [] => [a]
  | b :: r => if a ≤ b then a :: b :: r else b :: insI a r
def isortI : List Int → List Int
  | [] => []
  | a :: r => insI a (isortI r)
theorem insI_perm (a : Int) : ∀ l : List Int, (insI a l).Perm (a :: l)
  | [] => .refl _
  | b :: r => by
    unfold insI
    split
    · exact .refl _
    · exact ((insI_perm a r).cons b).trans (List.Perm.swap a b r)
theorem isortI_perm : ∀ l : List Int, (isortI l).Perm l
  | [] => .refl _
  | a :: r => (insI_perm a _).trans ((isortI_perm r).cons a)
theorem insI_sorted (a : Int) : ∀ l : List Int, l.Pairwise (· ≤ ·) → (insI a l).Pairwise (· ≤ ·)
  | [], _ => by simp [insI]
  | b :: r, h => by
    rw [List.pairwise_cons] at h
    unfold insI
    split
    · rename_i hab
      refine List.pairwise_cons.mpr ⟨fun y hy => ?_, List.pairwise_cons.mpr h⟩
      rcases List.mem_cons.mp hy with rfl | hy
      · exact hab
      · have := h.1 y hy; omega
    · rename_i hab
      refine List.pairwise_cons.mpr ⟨fun y hy => ?_, insI_sorted a r h.2⟩
      rcases List.mem_cons.mp ((insI_perm a r).mem_iff.mp hy) with rfl | hy
      · omega
      · exact h.1 y hy
theorem isortI_sorted : ∀ l : List Int, (isortI l).Pairwise (· ≤ ·)
  | [] => .nil
  | a :: r => insI_sorted a _ (isortI_sorted r)
theorem sorted_eq : ∀ {l l' : List Int}, l.Perm l' → l.Pairwise (· ≤ ·) → l'.Pairwise (· ≤ ·) → l = l'
  | [], l', p, _, _ => (List.nil_perm.mp p).symm
  | a :: l, [], p, _, _ => absurd p.length_eq (by simp)
  | a :: l, b :: l', p, h, h' => by
    rw [List.pairwise_cons] at h h'
    have e : a = b := by
      have ha : a ∈ b :: l' := p.mem_iff.mp List.mem_cons_self
      have hb : b ∈ a :: l := p.mem_iff.mpr List.mem_cons_self
      rcases List.mem_cons.mp ha with ha | ha
      · exact ha
      · rcases List.mem_cons.mp hb with hb | hb
        · exact hb.symm
        · have := h.1 b hb
          have := h'.1 a ha
          omega
    subst e
    rw [sorted_eq p.cons_inv h.2 h'.2]
def gSorted : D → Option D
  | .list ds => (wholes ds).map fun ns => .list ((isortI ns).map .int)
  | _ => none
theorem d_sortedF {K : PySem.W.Frag} : Op1F K (rSortedI K) gSorted := by
  intro H M x dx d Q g rx e q f
  unfold gSorted at e
  split at e
  · rename_i ds
    obtain ⟨p, xs, rfl, h1, r1⟩ := rx.lst
    cases eb : wholes ds with
    | none => rw [eb] at e; cases e
    | some ns =>
      rw [eb] at e; cases e
      refine ⟨p, ns, rfl, by rw [← r1.wholes eb]; exact h1.sq, fun ns' l hp hs hl => ?_⟩
      have : ns' = isortI ns := sorted_eq (hp.trans (isortI_perm ns).symm) hs (isortI_sorted ns)
      subst this
      refine f _ l _ rfl hl ?_
      induction isortI ns with
      | nil => exact .nil
      | cons a r ih => exact .cons (.int _) ih
  · cases e
/-! ### methods -/
theorem base_name {x name : Str} {p : Pos} {env : Env} : attributeBase (.Name x p) name env (eval (.Name x p) env) = eval (.Name x p) env := rfl
def gBits : D → Option D
  | .int i => some (.int (Builtin.Int.intBits i : Nat))
  | _ => none
theorem t_bits {c : Ct} {a : Bo} (σ : L2.St) (H : Hp) (Q : VK) (h : tX c (xOp1 gBits a) σ H Q) : tBits (tBo c a) σ H Q := by
  obtain ⟨Mo, θ, E, rel, h⟩ := h
  refine tBo_of rel (Co.mono (Co.bind (rl := BoR c.K a σ) h) ?_)
  rintro x H1 ⟨o1, E1, e1, r1, t1, b1, h1⟩
  split at h1
  · rename_i dx fx
    have rb := b1.fin r1 fx
    cases dx with
    | int i => exact ⟨i, rb.int, h1 _ H1 r1 Tr.refl (.int _)⟩
    | _ => exact h1.elim
  · exact h1.elim
/-- ".".join(..) -/
def txtsD : List D → Option (List Str)
  | [] => some []
  | .str b :: r => (txtsD r).map (b :: ·)
  | _ :: _ => none
theorem Rs.txts {K : PySem.W.Frag} {H : Hp} {M : Ms} : ∀ {xs : List V} {ds : List D} {bs : List Str}, Rs K H M xs ds → txtsD ds = some bs → xs = bs.map V.str
  | _, _, _, .nil, e => by cases e; rfl
  | _, _, bs, .cons (d := d) (ds := ds) r t, e => by
    cases r <;> first | (simp [txtsD] at e; done) | skip
    rename_i b
    unfold txtsD at e
    cases e2 : txtsD ds with
    | none => rw [e2] at e; cases e
    | some cs =>
      rw [e2] at e; cases e
      rw [Rs.txts t e2]; rfl
def gJoin (a : Str) : D → Option D
  | .list ds => (txtsD ds).bind fun ys => if (ys.map (·.length)).sum + ys.length * a.length ≤ lim then some (.str (Txt.join a ys)) else none
  | .tuple ds => (txtsD ds).bind fun ys => if (ys.map (·.length)).sum + ys.length * a.length ≤ lim then some (.str (Txt.join a ys)) else none
  | _ => none
def rJoin (K : PySem.W.Frag) : V → List V → Hp → VK → Prop := fun x xs H Q => ∃ a p, ∃ ys : List Str, x = .str a ∧ xs = [.ref p] ∧ (SqL K H p (ys.map V.str) ∨ SqT K H p (ys.map V.str)) ∧ (ys.map (·.length)).sum + ys.length * a.length ≤ 16777216 ∧ Q (.str (Txt.join a ys)) H
theorem t_join {c : Ct} {s : Str} {a : Bo} (σ : L2.St) (H : Hp) (Q : VK) (h : tX c (xOp1 (gJoin s) a) σ H Q) : tM1 (rJoin c.K) (tC (.str s)) (tBo c a) σ H Q := by
  obtain ⟨Mo, θ, E, rel, h⟩ := h
  refine ⟨⟨s, rfl⟩, tBo_of rel (Co.mono (Co.bind (rl := BoR c.K a σ) h) ?_)⟩
  rintro x H1 ⟨o1, E1, e1, r1, t1, b1, h1⟩
  split at h1
  · rename_i dx fx
    have rb := b1.fin r1 fx
    cases dx with
    | list ds =>
      obtain ⟨p, xs, rfl, hs, rs⟩ := rb.lst
      have h2 : Co (R c.K) c Mo θ E1 H1 (oo ((txtsD ds).bind fun ys => if (ys.map (·.length)).sum + ys.length * s.length ≤ lim then some (.str (Txt.join s ys)) else none) E1) σ Q := h1
      cases eb : txtsD ds with
      | none => rw [eb] at h2; exact h2.elim
      | some ys =>
        rw [eb, Option.bind_some] at h2
        split at h2
        · rename_i hz
          exact ⟨s, p, ys, rfl, rfl, .inl (by rw [← rs.txts eb]; exact hs.sq), hz, h2 _ H1 r1 Tr.refl (.str _)⟩
        · exact h2.elim
    | tuple ds =>
      obtain ⟨p, xs, rfl, hs, _, rs⟩ := rb.tup
      have h2 : Co (R c.K) c Mo θ E1 H1 (oo ((txtsD ds).bind fun ys => if (ys.map (·.length)).sum + ys.length * s.length ≤ lim then some (.str (Txt.join s ys)) else none) E1) σ Q := h1
      cases eb : txtsD ds with
      | none => rw [eb] at h2; exact h2.elim
      | some ys =>
        rw [eb, Option.bind_some] at h2
        split at h2
        · rename_i hz
          exact ⟨s, p, ys, rfl, rfl, .inr (by rw [← rs.txts eb]; exact hs), hz, h2 _ H1 r1 Tr.refl (.str _)⟩
        · exact h2.elim
    | _ => exact h1.elim
  · exact h1.elim
/-- xs.pop(), xs.pop(i) of a list of one's own -/
def xPop (i : Nat) : Xf := fun E => match getL E i with
  | some ds => match ds[ds.length - 1]? with
    | some d => .ok d (setL E i ds.dropLast)
    | none => .no
  | none => .no
theorem Rs.dropLast {K : PySem.W.Frag} {H : Hp} {M : Ms} {vs : List V} {ds : List D} (r : Rs K H M vs ds) : Rs K H M vs.dropLast ds.dropLast := by
  rw [List.dropLast_eq_take, List.dropLast_eq_take, r.length]
  exact r.take _
theorem Rs.eraseIdx {K : PySem.W.Frag} {H : Hp} {M : Ms} {vs : List V} {ds : List D} (r : Rs K H M vs ds) (k : Nat) : Rs K H M (vs.eraseIdx k) (ds.eraseIdx k) := by
  rw [List.eraseIdx_eq_take_drop_succ, List.eraseIdx_eq_take_drop_succ]
  exact (r.take _).append (r.drop _)
theorem t_pop {c : Ct} {i : Nat} (σ : L2.St) (H : Hp) (Q : VK) (h : tX c (xPop i) σ H Q) : tBM0 c.K "list" rPop (tVar i) σ H Q := by
  obtain ⟨Mo, θ, E, rel, h⟩ := h
  unfold xPop at h
  split at h
  · rename_i ds g
    split at h
    · rename_i d ed
      obtain ⟨g1, xs, g2, g3⟩ := getL_own rel g
      obtain ⟨v, hv, rv⟩ := g3.get ed
      refine ⟨_, g1, .inl ⟨rfl, _, SqL.of g2⟩, _, xs, v, rfl, rfl, g2, by rw [g3.length]; exact hv, ?_⟩
      obtain ⟨r3, t3⟩ := rel.setL g g3.dropLast
      exact h v _ r3 t3 (rv.mv (t3.mv r3))
    · exact h.elim
  · exact h.elim
def xPopAt (i : Nat) (ix : Xf) : Xf := fun E => match getL E i with
  | none => .no
  | some _ => (ix E).bind fun k E1 => match k with
    | .int k => if decide (-i63 ≤ k) && decide (k < i63) then match getL E1 i with
        | some ds => match seqIndex? k ds.length with
          | some j => match ds[j]? with
            | some d => .ok d (setL E1 i (ds.eraseIdx j))
            | none => .no
          | none => .no
        | none => .no
      else .no
    | _ => .no
theorem t_popAt {c : Ct} {i : Nat} {ix : Xf} (σ : L2.St) (H : Hp) (Q : VK) (h : tX c (xPopAt i ix) σ H Q) : tBM c.K "list" rPopAt (tVar i) (tCons (tX c ix) tNil) σ H Q := by
  obtain ⟨Mo, θ, E, rel, h⟩ := h
  unfold xPopAt at h
  split at h
  · exact h.elim
  · rename_i ds0 g0
    obtain ⟨a1, xs0, a2, a3⟩ := getL_own rel g0
    refine ⟨_, a1, .inl ⟨rfl, _, SqL.of a2⟩, Mo, θ, E, rel, Co.mono (Co.bind (rl := R c.K) h) ?_⟩
    rintro v H1 ⟨d, E1, e1, r1, t1, q1, h1⟩
    split at h1
    · split at h1
      · rename_i k hk
        split at h1
        · rename_i ds g
          split at h1
          · rename_i j hj
            split at h1
            · rename_i d ed
              simp only [Bool.and_eq_true, decide_eq_true_eq, i63_eq] at hk
              obtain ⟨g1, xs, g2, g3⟩ := getL_own r1 g
              obtain ⟨w, hw, rw'⟩ := g3.get ed
              cases q1
              obtain ⟨r3, t3⟩ := r1.setL g (g3.eraseIdx j)
              exact ⟨_, xs, _, j, w, rfl, rfl, g2, hk.1, hk.2, by rw [g3.length]; exact hj, hw, h1 w _ r3 t3 (rw'.mv (t3.mv r3))⟩
            · exact h1.elim
          · exact h1.elim
        · exact h1.elim
      · exact h1.elim
    · exact h1.elim
/-- xs.reverse() -/
def sRev (i : Nat) : Sf := fun E => match getL E i with
  | some ds => .nx (setL E i ds.reverse)
  | none => .no
theorem t_srev {c : Ct} {i : Nat} (Dn : Ends) (σ : L2.St) (H : Hp) (h : tS c (sRev i) Dn σ H) : tDrop (tBM0 c.K "list" rReverse (tVar i)) Dn σ H := by
  obtain ⟨Mo, θ, E, rel, h⟩ := h
  unfold sRev at h
  split at h
  · rename_i ds g
    obtain ⟨g1, xs, g2, g3⟩ := getL_own rel g
    obtain ⟨r3, t3⟩ := rel.setL g g3.reverse
    exact ⟨_, g1, .inl ⟨rfl, _, SqL.of g2⟩, _, xs, rfl, rfl, g2, h θ σ _ r3 t3⟩
  · exact h.elim
/-- y = [..] where the name is stored behind the comprehension's frame -/
theorem sw_false {elt : Expr} {gs : List Comprehension} {scope : Scope} {pos py : Pos} {y : Str} {l : Nat} {env : Env}
    (h : (env.scope.names.lookup y == some .local && ((py.line == pos.line) && !(scope.names.any fun (n, k) => n == y && (k == .local || k == .cell)))) = false) : swapsWith (.ListComp elt gs scope pos) (some (.Name y py)) l env = pure false := by
  have e : env.kindOf y = env.scope.names.lookup y := rfl
  unfold swapsWith
  show pure (env.blockKind == .function && env.kindOf y == some .local && py.line == pos.line && !(scope.names.any fun (n, k) => n == y && (k == .local || k == .cell))) = _
  rw [e]
  refine congrArg pure ?_
  generalize (scope.names.any fun (n, k) => n == y && (k == .local || k == .cell)) = A at *
  generalize (env.scope.names.lookup y == some .local) = B at *
  generalize (py.line == pos.line) = C at *
  generalize (env.blockKind == .function) = F
  cases A <;> cases B <;> cases C <;> cases F <;> first | rfl | cases h
section
variable (r : Cmp) (g : Cfg)
def cBlt2 : (e : Expr) → Option (DE g e)
  | .Call (.Name x p) [a] [] pos => if hg : gloB g x = true then if hb : x ∈ g.blt then if hs : noStar a = true then if hc : g.calm = true then
      match find1 [bInt2, bStr, bMaxL, bMinL] x, cB r g a with
      | some ⟨b, e⟩, some d => some ⟨xOp1 b.g d.b, fun {X c} o => by
          subst e
          obtain ⟨r, h1, h2⟩ := b.ok X (o.calm hc).1 (gloB_ok o hg) (o.wd.blt _ hb)
          rw [o.K] at h1
          exact pe_of (h2 (pa_cons (d.ok o) pa_nil (star_ok hs)) hs) (t_op1 h1)⟩
      | _, _ => none
    else none else none else none else none
  | .Call (.Attribute (.Name x p) a apos) [] [] cpos => if hl : (apos.endLine == cpos.line) = true then
      if ha : ("bit_length" : Str) = a then match own1 g x with
        | some v => some ⟨xOp1 gBits (.v v.i), fun {X c} o => by
            subst ha
            exact pe_of (pe_bits (v.ok o) base_name hl) t_bits⟩
        | none => none
      else if ha : ("pop" : Str) = a then match own1 g x with
        | some v => some ⟨xPop v.i, fun {X c} o => by
            subst ha
            refine pe_of (pe_bm0 PySem.F.plainAttrs_list PySem.F.slot_list_pop PySem.F.type_list_pop mt_pop (v.ok o) base_name hl) ?_
            rw [o.K]
            exact t_pop⟩
        | none => none
      else none
    else none
  | .Call (.Attribute (.Name x p) a apos) [e] [] cpos => if ha : ("pop" : Str) = a then if hs : noStar e = true then if hl : (apos.endLine == cpos.line) = true then
      match own1 g x, r.e g e with
      | some v, some d => some ⟨xPopAt v.i d.f, fun {X c} o => by
          subst ha
          refine pe_of (pe_bm PySem.F.plainAttrs_list PySem.F.slot_list_pop PySem.F.type_list_pop mt_popAt (v.ok o) (pa_cons (d.ok o) pa_nil (star_ok hs)) base_name (few_ok hs) hl (star_ok hs) rfl) ?_
          rw [o.K]
          exact t_popAt⟩
      | _, _ => none
    else none else none else none
  | .Call (.Attribute (.Constant (.str s) k p) a apos) [e] [] cpos => if ha : ("join" : Str) = a then if hs : noStar e = true then if hl : (apos.endLine == cpos.line) = true then
      match cB r g e with
      | some d => some ⟨xOp1 (gJoin s) d.b, fun {X c} o => by
          subst ha
          refine pe_of (pe_m1 PySem.F.slot_str_join PySem.F.type_str_join mt_join pe_str (d.ok o) (star1 hs) rfl hl) ?_
          rw [o.K]
          exact t_join⟩
      | none => none
    else none else none else none
  | e => cBack r g e
def cSortF : (e : Expr) → Option (DF g e)
  | .Call (.Name x p) [a] [] pos => if hx : ("sorted" : Str) = x then if hg : gloB g x = true then if hb : x ∈ g.blt then if hs : noStar a = true then
      match cB r g a with
      | some d => some ⟨xOp1F gSorted d.b, fun {X c} o => by
          subst hx
          exact pe_of (pe_callB cr_sortedI (gloB_ok o hg) (o.wd.blt _ hb) boot_sorted (pa_cons (d.ok o) pa_nil (star_ok hs)) (by decide) (by decide) (star_ok hs) rfl) (by rw [o.K]; exact t_op1F d_sortedF)⟩
      | none => none
    else none else none else none else none
  | _ => none
def cSet3 : (s : Stmt) → Option (DS g s)
  | .Assign [.Name y py] (.ListComp elt gs scope p) pos => match cSetLc r g (.Assign [.Name y py] (.ListComp elt gs scope p) pos) with
    | some d => some d
    | none => if hw : (g.sc.names.lookup y == some .local && ((py.line == p.line) && !(scope.names.any fun (n, k) => n == y && (k == .local || k == .cell)))) = false then
        match stN g y, r.f g (.ListComp elt gs scope p) with
        | some s, some d => some ⟨sSet s.i d.f, fun {X c} o => ps_of (ps_set (by rw [o.N]; exact o.nd) (by rw [o.N]; exact s.at_) (locB_ok o s.loc).1 (d.ok o) (sw_false (by rw [o.sc]; exact hw)) (locB_ok o s.loc).2) t_set⟩
        | _, _ => none
      else none
  | .Expr (.Call (.Attribute (.Name x p) a apos) [] [] cpos) pos => if ha : ("reverse" : Str) = a then if hl : (apos.endLine == cpos.line) = true then match own1 g x with
      | some v => some ⟨sRev v.i, fun {X c} o => by
          subst ha
          refine ps_of (ps_expr (pe_bm0 PySem.F.plainAttrs_list PySem.F.slot_list_reverse PySem.F.type_list_reverse mt_reverse (v.ok o) base_name hl) (by rfl)) ?_
          rw [o.K]
          exact t_srev⟩
      | none => none
    else none else none
  | _ => none
end
def more3 : More := ⟨cBlt2, cSortF, cSet3⟩
end
end Dl

set_option Elab.async false
set_option linter.all false
set_option maxRecDepth 100000
set_option maxHeartbeats 4000000
namespace Dl
noncomputable section
open PySem PySem.Spec PyProof.Rows L2
/-! ### numbers, by themselves -/
@[simp] theorem g_int2I {u : Int} : gInt2 (.int u) = some (.int u) := rfl

structure Nu where
  a : Int
  b : Int
  c : Int
  d : Int
  k : Int
@[reducible] def Nu.D (x : Nu) : D := .tuple [.int x.a, .int x.b, .int x.c, .int x.d, .int x.k]
def Nu.even (x : Nu) : Bool := decide (0 < x.k) && (decide ((x.a + x.c) % 2 = 0) && decide ((x.b + x.d) % 2 = 0))
def Nu.down (x : Nu) : Nu := ⟨(x.b - x.d) / 2, (x.a + x.c) / 2, (x.b + x.d) / 2, (x.c - x.a) / 2, x.k - 1⟩
def lst : Nat → Nu → Nu
  | 0, x => x
  | n + 1, x => if x.even = true then lst n x.down else x
def Nu.least (x : Nu) : Nu := lst x.k.toNat x
def Nu.up (x : Nu) : Nu := ⟨x.b - x.d, x.a + x.c, x.b + x.d, x.c - x.a, x.k + 1⟩
def ups : Nat → Nu → Nu
  | 0, x => x
  | n + 1, x => ups n x.up
theorem log2_2 : (2 : Int).natAbs.log2 < 9000 := by decide
theorem lst_s (n : Nat) (x : Nu) : lst (n + 1) x = if x.even = true then lst n x.down else x := rfl
theorem wh_nu {f : Nu → En} {t : Xb} {bd : Sf} (ht : ∀ x, t (f x) = .ok x.even (f x)) (hb : ∀ x, bd (f x) = .nx (f x.down)) : ∀ (n m : Nat) (x : Nu), x.k.toNat ≤ n → n < m → whL t bd m (f x) = .nx (f (lst n x))
  | n, 0, x, _, h => absurd h (Nat.not_lt_zero _)
  | n, m + 1, x, hk, h => by
    unfold whL
    rw [ht]
    cases e : x.even with
    | false =>
      have : lst n x = x := by
        cases n with
        | zero => rfl
        | succ n => unfold lst; rw [e]; rfl
      rw [this]; rfl
    | true =>
      have hk0 : 0 < x.k := by
        unfold Nu.even at e
        simp only [Bool.and_eq_true, decide_eq_true_eq] at e
        exact e.1
      cases n with
      | zero => omega
      | succ n =>
        have h1 := wh_nu ht hb n m x.down (by show (x.k - 1).toNat ≤ n; omega) (by omega)
        show (match bd (f x) with | .nx E2 => whL t bd m E2 | .ct E2 => whL t bd m E2 | .bk E2 => Rt.nx E2 | o => o) = _
        rw [hb]
        show whL t bd m (f x.down) = _
        rw [h1, lst_s, e]; rfl
theorem lst_ge : ∀ (n : Nat) (x : Nu), x.k.toNat ≤ n → lst n x = x.least := by
  have key : ∀ (n m : Nat) (x : Nu), x.k.toNat ≤ n → x.k.toNat ≤ m → lst n x = lst m x := by
    intro n
    induction n with
    | zero =>
      intro m x h1 h2
      cases m with
      | zero => rfl
      | succ m =>
        unfold lst
        have : x.even = false := by
          unfold Nu.even
          rw [decide_eq_false (by omega)]; rfl
        rw [this]; rfl
    | succ n ih =>
      intro m x h1 h2
      cases m with
      | zero =>
        unfold lst
        have : x.even = false := by
          unfold Nu.even
          rw [decide_eq_false (by omega)]; rfl
        rw [this]; rfl
      | succ m =>
        unfold lst
        cases e : x.even with
        | false => rfl
        | true =>
          have hd : x.down.k = x.k - 1 := rfl
          exact ih m x.down (by omega) (by omega)
  exact fun n x h => key n _ x h (Nat.le_refl _)
theorem nu_ext {x y : Nu} (h1 : x.a = y.a) (h2 : x.b = y.b) (h3 : x.c = y.c) (h4 : x.d = y.d) (h5 : x.k = y.k) : x = y := by
  cases x; cases y
  simp only at h1 h2 h3 h4 h5
  subst h1 h2 h3 h4 h5
  rfl
theorem up_even (x : Nu) (h : 0 ≤ x.k) : x.up.even = true := by
  unfold Nu.even Nu.up
  simp only [Bool.and_eq_true, decide_eq_true_eq]
  omega
theorem down_up (x : Nu) : x.up.down = x := by
  apply nu_ext <;> unfold Nu.down Nu.up <;> simp only <;> omega
theorem up_down (x : Nu) (h : x.even = true) : x.down.up = x := by
  unfold Nu.even at h
  simp only [Bool.and_eq_true, decide_eq_true_eq] at h
  apply nu_ext <;> unfold Nu.down Nu.up <;> simp only <;> omega
theorem least_up (x : Nu) (h : 0 ≤ x.k) : x.up.least = x.least := by
  have e : x.up.k.toNat = x.k.toNat + 1 := by show (x.k + 1).toNat = _; omega
  unfold Nu.least
  rw [e, lst_s, up_even x h, if_pos rfl, down_up]
theorem least_odd (x : Nu) (h : x.even = false) : x.least = x := by
  unfold Nu.least
  cases x.k.toNat with
  | zero => rfl
  | succ n => rw [lst_s, h]; rfl
theorem least_even (x : Nu) (h : x.even = true) : x.least = x.down.least := by
  have hk : 0 < x.k := by
    unfold Nu.even at h
    simp only [Bool.and_eq_true, decide_eq_true_eq] at h
    exact h.1
  have hd : x.down.k = x.k - 1 := rfl
  have e := least_up x.down (by omega)
  rw [up_down x h] at e
  exact e
theorem ups_s (n : Nat) (x : Nu) : ups (n + 1) x = ups n x.up := rfl
theorem ups_up : ∀ (n : Nat) (x : Nu), ups n x.up = (ups n x).up
  | 0, _ => rfl
  | n + 1, x => by rw [ups_s, ups_s, ups_up n]
theorem ups_add : ∀ (n m : Nat) (x : Nu), ups n (ups m x) = ups (n + m) x
  | 0, m, x => by rw [Nat.zero_add]; rfl
  | n + 1, m, x => by rw [ups_s, ← ups_up, ups_add n m, ← ups_s]; congr 1; omega
theorem ups_k : ∀ (n : Nat) (x : Nu), (ups n x).k = x.k + n
  | 0, x => by simp [ups]
  | n + 1, x => by
    rw [ups_s, ups_k n]
    show x.k + 1 + (n : Int) = _
    omega
theorem least_ups : ∀ (n : Nat) (x : Nu), 0 ≤ x.k → (ups n x).least = x.least
  | 0, _, _ => rfl
  | n + 1, x, h => by
    rw [ups_s, least_ups n x.up (by show 0 ≤ x.k + 1; omega), least_up x h]
/-- what least undoes -/
theorem least_spec : ∀ (n : Nat) (x : Nu), x.k.toNat = n → 0 ≤ x.k → ∃ m : Nat, ups m x.least = x ∧ x.least.k = x.k - m ∧ 0 ≤ x.least.k ∧ x.least.even = false
  | 0, x, hn, h => by
    have e : x.even = false := by
      unfold Nu.even
      rw [decide_eq_false (by omega)]; rfl
    rw [least_odd x e]
    exact ⟨0, rfl, by simp, h, e⟩
  | n + 1, x, hn, h => by
    cases e : x.even with
    | false =>
      rw [least_odd x e]
      exact ⟨0, rfl, by simp, h, e⟩
    | true =>
      have hd : x.down.k = x.k - 1 := rfl
      obtain ⟨m, h1, h2, h3, h4⟩ := least_spec n x.down (by omega) (by omega)
      rw [least_even x e]
      refine ⟨m + 1, ?_, by rw [h2, hd]; omega, h3, h4⟩
      rw [ups_s, ups_up, h1, up_down x e]
theorem least_k {x : Nu} (h : 0 ≤ x.k) : 0 ≤ x.least.k ∧ x.least.k ≤ x.k ∧ x.least.even = false := by
  obtain ⟨m, _, h2, h3, h4⟩ := least_spec _ x rfl h
  exact ⟨h3, by omega, h4⟩
theorem least_least {x : Nu} (h : 0 ≤ x.k) : x.least.least = x.least := least_odd _ (least_k h).2.2
/-- at the level N -/
def Lv (N : Nat) (x : Nu) : Nu := ups (N - x.k.toNat) x
theorem Lv_least {x : Nu} {N : Nat} (h : 0 ≤ x.k) (hN : x.k ≤ N) : Lv N x.least = Lv N x := by
  obtain ⟨m, h1, h2, h3, _⟩ := least_spec _ x rfl h
  have e : Lv N x = ups (N - x.k.toNat) (ups m x.least) := by rw [h1]; rfl
  rw [e, ups_add]
  unfold Lv
  congr 1
  omega
theorem least_Lv {x : Nu} {N : Nat} (h : 0 ≤ x.k) : (Lv N x).least = x.least := least_ups _ _ h
theorem Lv_k {x : Nu} {N : Nat} (h : 0 ≤ x.k) (hN : x.k ≤ N) : (Lv N x).k = N := by
  unfold Lv
  rw [ups_k]
  omega
theorem Lv_eq {x y : Nu} {N : Nat} (hx : 0 ≤ x.k) (hy : 0 ≤ y.k) (h : Lv N x = Lv N y) : x.least = y.least := by
  rw [← least_Lv (N := N) hx, h, least_Lv hy]
theorem Lv_ups {x : Nu} {N n : Nat} (h : 0 ≤ x.k) (hN : x.k + n ≤ N) : Lv N (ups n x) = Lv N x := by
  unfold Lv
  rw [ups_add, ups_k]
  congr 1
  omega
theorem Lv_Lv {x : Nu} {N M : Nat} (h : 0 ≤ x.k) (hM : x.k ≤ M) (hN : M ≤ N) : Lv N (Lv M x) = Lv N x := by
  have e : Lv M x = ups (M - x.k.toNat) x := rfl
  rw [e, Lv_ups h (by omega)]
def Nu.add (x y : Nu) : Nu := ⟨x.a + y.a, x.b + y.b, x.c + y.c, x.d + y.d, x.k⟩
def Nu.neg (x : Nu) : Nu := ⟨-x.a, -x.b, -x.c, -x.d, x.k⟩
theorem up_add (x y : Nu) : (x.add y).up = x.up.add y.up := by
  apply nu_ext <;> unfold Nu.add Nu.up <;> simp only <;> omega
theorem ups_addN : ∀ (n : Nat) (x y : Nu), ups n (x.add y) = (ups n x).add (ups n y)
  | 0, _, _ => rfl
  | n + 1, x, y => by rw [ups_s, ups_s, ups_s, up_add, ups_addN n]
def mx (x y : Nu) : Nat := max x.k.toNat y.k.toNat
def Nu.plus (x y : Nu) : Nu := ((Lv (mx x y) x).add (Lv (mx x y) y)).least
theorem Lv_plus {x y : Nu} {N : Nat} (hx : 0 ≤ x.k) (hy : 0 ≤ y.k) (h1 : x.k ≤ N) (h2 : y.k ≤ N) : Lv N (x.plus y) = (Lv N x).add (Lv N y) := by
  have m1 : x.k ≤ mx x y := by unfold mx; omega
  have m2 : y.k ≤ mx x y := by unfold mx; omega
  have m3 : mx x y ≤ N := by unfold mx; omega
  have ek : ((Lv (mx x y) x).add (Lv (mx x y) y)).k = mx x y := Lv_k hx m1
  unfold Nu.plus
  rw [Lv_least (by omega) (by omega)]
  have e2 : ∀ z : Nu, 0 ≤ z.k → z.k ≤ mx x y → Lv N z = ups (N - mx x y) (Lv (mx x y) z) := fun z hz hm => by
    unfold Lv
    rw [ups_add]
    congr 1
    omega
  rw [e2 x hx m1, e2 y hy m2, ← ups_addN]
  show ups (N - ((Lv (mx x y) x).add (Lv (mx x y) y)).k.toNat) _ = _
  rw [ek]
  congr 1
theorem plus_k {x y : Nu} (hx : 0 ≤ x.k) (hy : 0 ≤ y.k) : 0 ≤ (x.plus y).k ∧ (x.plus y).k ≤ max x.k y.k ∧ (x.plus y).least = x.plus y := by
  have m1 : x.k ≤ mx x y := by unfold mx; omega
  have ek : ((Lv (mx x y) x).add (Lv (mx x y) y)).k = mx x y := Lv_k hx m1
  have h0 : 0 ≤ ((Lv (mx x y) x).add (Lv (mx x y) y)).k := by omega
  have := least_k h0
  refine ⟨this.1, ?_, least_least h0⟩
  have h2 : (x.plus y).k ≤ ((Lv (mx x y) x).add (Lv (mx x y) y)).k := this.2.1
  rw [ek] at h2
  unfold mx at h2
  omega
def Nu.mul (x y : Nu) : Nu := ⟨x.a * y.a - x.b * y.d - x.c * y.c - x.d * y.b, x.a * y.b + x.b * y.a - x.c * y.d - x.d * y.c, x.a * y.c + x.b * y.b + x.c * y.a - x.d * y.d, x.a * y.d + x.b * y.c + x.c * y.b + x.d * y.a, x.k + y.k⟩
theorem up_mul (x y : Nu) : x.up.mul y = (x.mul y).up := by
  apply nu_ext <;> unfold Nu.mul Nu.up <;> simp only <;> grind
theorem mul_up (x y : Nu) : x.mul y.up = (x.mul y).up := by
  apply nu_ext <;> unfold Nu.mul Nu.up <;> simp only <;> grind
theorem ups_mul : ∀ (n : Nat) (x y : Nu), (ups n x).mul y = ups n (x.mul y)
  | 0, _, _ => rfl
  | n + 1, x, y => by rw [ups_s, ups_mul n, up_mul, ← ups_s]
theorem mul_ups : ∀ (n : Nat) (x y : Nu), x.mul (ups n y) = ups n (x.mul y)
  | 0, _, _ => rfl
  | n + 1, x, y => by rw [ups_s, mul_ups n, mul_up, ← ups_s]
def Nu.times (x y : Nu) : Nu := (x.mul y).least
theorem Lv_times {x y : Nu} {N M : Nat} (hx : 0 ≤ x.k) (hy : 0 ≤ y.k) (h1 : x.k ≤ N) (h2 : y.k ≤ M) : Lv (N + M) (x.times y) = (Lv N x).mul (Lv M y) := by
  have ek : (x.mul y).k = x.k + y.k := rfl
  unfold Nu.times
  rw [Lv_least (by omega) (by omega)]
  unfold Lv
  rw [ups_mul, mul_ups, ups_add, ek]
  congr 1
  omega
theorem times_k {x y : Nu} (hx : 0 ≤ x.k) (hy : 0 ≤ y.k) : 0 ≤ (x.times y).k ∧ (x.times y).k ≤ x.k + y.k ∧ (x.times y).least = x.times y := by
  have ek : (x.mul y).k = x.k + y.k := rfl
  have h0 : 0 ≤ (x.mul y).k := by omega
  have := least_k h0
  exact ⟨this.1, by rw [← ek]; exact this.2.1, least_least h0⟩
theorem plus_comm3 {x y z : Nu} (hx : 0 ≤ x.k) (hy : 0 ≤ y.k) (hz : 0 ≤ z.k) : x.plus (y.plus z) = (z.plus x).plus y := by
  have p1 := plus_k hy hz
  have p2 := plus_k hz hx
  have q1 := plus_k hx p1.1
  have q2 := plus_k p2.1 hy
  rw [← q1.2.2, ← q2.2.2]
  have N : Nat := 0
  obtain ⟨N, hN⟩ : ∃ N : Nat, max x.k (max y.k z.k) ≤ N := ⟨(max x.k (max y.k z.k)).toNat, by omega⟩
  refine Lv_eq (N := N) q1.1 q2.1 ?_
  rw [Lv_plus hx p1.1 (by omega) (by omega), Lv_plus hy hz (by omega) (by omega), Lv_plus p2.1 hy (by omega) (by omega), Lv_plus hz hx (by omega) (by omega)]
  have k1 := Lv_k (N := N) hx (by omega)
  have k2 := Lv_k (N := N) hz (by omega)
  apply nu_ext <;> unfold Nu.add <;> simp only <;> omega
theorem dist {x y z : Nu} (hx : 0 ≤ x.k) (hy : 0 ≤ y.k) (hz : 0 ≤ z.k) : x.times (y.plus z) = (x.times y).plus (x.times z) := by
  have p1 := plus_k hy hz
  have p2 := times_k hx hy
  have p3 := times_k hx hz
  have q1 := times_k hx p1.1
  have q2 := plus_k p2.1 p3.1
  rw [← q1.2.2, ← q2.2.2]
  obtain ⟨N, hN⟩ : ∃ N : Nat, max x.k (max y.k z.k) ≤ N := ⟨(max x.k (max y.k z.k)).toNat, by omega⟩
  refine Lv_eq (N := N + N) q1.1 q2.1 ?_
  rw [Lv_times hx p1.1 (by omega) (by omega), Lv_plus hy hz (by omega) (by omega), Lv_plus p2.1 p3.1 (by omega) (by omega), Lv_times hx hy (by omega) (by omega), Lv_times hx hz (by omega) (by omega)]
  apply nu_ext <;> unfold Nu.add Nu.mul <;> simp only <;> grind
theorem assoc {x y z : Nu} (hx : 0 ≤ x.k) (hy : 0 ≤ y.k) (hz : 0 ≤ z.k) : (x.times y).times z = x.times (z.times y) := by
  have p1 := times_k hx hy
  have p2 := times_k hz hy
  have q1 := times_k p1.1 hz
  have q2 := times_k hx p2.1
  rw [← q1.2.2, ← q2.2.2]
  obtain ⟨N, hN⟩ : ∃ N : Nat, max x.k (max y.k z.k) ≤ N := ⟨(max x.k (max y.k z.k)).toNat, by omega⟩
  refine Lv_eq (N := N + (N + N)) q1.1 q2.1 ?_
  rw [Lv_times (N := N) (M := N + N) hx p2.1 (by omega) (by omega), Lv_times hz hy (by omega) (by omega), show N + (N + N) = (N + N) + N by omega, Lv_times (N := N + N) (M := N) p1.1 hz (by omega) (by omega), Lv_times hx hy (by omega) (by omega)]
  apply nu_ext <;> unfold Nu.mul <;> simp only <;> grind
def isI : D → Bool
  | .int _ => true
  | _ => false
def isIs : List D → Bool
  | [] => true
  | d :: ds => isI d && isIs ds
def tys : List D → Bool
  | [] => true
  | d :: ds => (tyN d).isSome && tys ds
def isRow (d : D) (n : Int) : Bool := match d with
  | .tuple ds => decide ((ds.length : Int) = n)
  | _ => false
def okNu (x : Nu) : Bool := !decide (x.k < 0) && (decide (x.k = 0) || (decide ((x.a + x.c) % 2 = 1) || decide ((x.b + x.d) % 2 = 1)))
def isRing : D → Bool
  | .tuple [.int a, .int b, .int c, .int d, .int k] => okNu ⟨a, b, c, d, k⟩
  | _ => false
theorem wbT {b : Bool} {E : En} : (Ou.ok (PyData.bool b) E : Ou D) = .ok (.bool b) E := rfl
theorem tys_mem : ∀ {ds : List D}, tys ds = true → ∀ d ∈ ds, (tyN d).isSome = true
  | [], _, d, hd => by cases hd
  | x :: ds, h, d, hd => by
    simp only [tys, Bool.and_eq_true] at h
    rcases List.mem_cons.mp hd with rfl | hd
    · exact h.1
    · exact tys_mem h.2 d hd
/-- up, twice n times -/
theorem ups_2 : ∀ (n : Nat) (x : Nu), ups (2 * n) x = ⟨x.a * 2 ^ n, x.b * 2 ^ n, x.c * 2 ^ n, x.d * 2 ^ n, x.k + 2 * n⟩
  | 0, x => by
    show x = _
    apply nu_ext <;> simp
  | n + 1, x => by
    have e : 2 * (n + 1) = (2 * n + 1) + 1 := by omega
    rw [e, ups_s, ups_s, ups_2 n]
    have p : (2 : Int) ^ (n + 1) = 2 ^ n * 2 := by rw [Int.pow_succ]
    apply nu_ext <;> unfold Nu.up <;> simp only [p]
    · grind
    · grind
    · grind
    · grind
    · omega
theorem mul_pow_ok {u : Int} {n : Nat} (h : n ≤ 60) : mulOk u (2 ^ n) = true := by
  unfold mulOk
  have : ((2 : Int) ^ n).natAbs < 2 ^ 63 := by
    have e : ((2 : Int) ^ n).natAbs = 2 ^ n := by rw [Int.natAbs_pow]; rfl
    rw [e]
    exact Nat.pow_lt_pow_right (by omega) (by omega)
  rw [decide_eq_true this, Bool.or_true, Bool.true_or]
def Nu.P (x : Nu) : PyData := .tuple [.int x.a, .int x.b, .int x.c, .int x.d]
theorem Lv_self {x : Nu} {N : Nat} (h : N = x.k.toNat) : Lv N x = x := by
  unfold Lv
  rw [h, Nat.sub_self]; rfl
theorem neg_k (x : Nu) : x.neg.k = x.k := rfl
/-- parts below 2^63 -/
def Nu.Sm (x : Nu) : Prop := x.a.natAbs < 2 ^ 63 ∧ x.b.natAbs < 2 ^ 63 ∧ x.c.natAbs < 2 ^ 63 ∧ x.d.natAbs < 2 ^ 63
theorem mok_l {u v : Int} (h : u.natAbs < 2 ^ 63) : mulOk u v = true := by
  unfold mulOk
  rw [decide_eq_true h]; rfl
theorem mok_r {u v : Int} (h : v.natAbs < 2 ^ 63) : mulOk u v = true := by
  unfold mulOk
  rw [decide_eq_true h, Bool.or_true, Bool.true_or]
def Nu.rot (x : Nu) : Nu := ⟨-x.d, x.a, x.b, x.c, x.k⟩
def isCount : D → Bool
  | .int i => !decide (i < 0)
  | _ => false
theorem okNu_of {x : Nu} (h : 0 ≤ x.k) (h2 : x.even = false) : okNu x = true := by
  unfold Nu.even at h2
  unfold okNu
  by_cases h0 : x.k = 0
  · simp [h0]
  · have h1 : 0 < x.k := by omega
    simp only [h1, decide_true, Bool.true_and, Bool.and_eq_false_iff, decide_eq_false_iff_not] at h2
    simp only [Bool.and_eq_true, Bool.or_eq_true, decide_eq_true_eq, Bool.not_eq_true', decide_eq_false_iff_not]
    omega
theorem even_of {x : Nu} (h : okNu x = true) : 0 ≤ x.k ∧ x.even = false := by
  unfold okNu at h
  simp only [Bool.and_eq_true, Bool.or_eq_true, decide_eq_true_eq, Bool.not_eq_true', decide_eq_false_iff_not] at h
  refine ⟨by omega, ?_⟩
  unfold Nu.even
  cases hh : (decide (0 < x.k) && (decide ((x.a + x.c) % 2 = 0) && decide ((x.b + x.d) % 2 = 0))) with
  | false => rfl
  | true =>
    simp only [Bool.and_eq_true, decide_eq_true_eq] at hh
    omega
theorem for_brk {f : Nu → Option Int → En} {tg : D → En → Option En} {bd : Sf} (ht : ∀ x o j, tg (.int j) (f x o) = some (f x (some j))) (h1 : ∀ x j, 0 ≤ x.k → x.even = false → bd (f x (some j)) = .bk (f x (some j))) (h2 : ∀ x j, 0 ≤ x.k → x.even = true → bd (f x (some j)) = .nx (f x.down (some j))) :
    ∀ (n : Nat) (lo : Int) (x : Nu) (o : Option Int), 0 ≤ x.k → x.k.toNat < n → ∃ o', forL tg bd (rgD lo n) (f x o) = .nx (f x.least o')
  | 0, lo, x, o, _, h => absurd h (Nat.not_lt_zero _)
  | n + 1, lo, x, o, hk, h => by
    rw [rgD_succ, e_for1, ht]
    dsimp only
    cases e : x.even with
    | false =>
      rw [h1 x lo hk e, least_odd x e]
      exact ⟨some lo, rfl⟩
    | true =>
      have hk0 : 0 < x.k := by
        unfold Nu.even at e
        simp only [Bool.and_eq_true, decide_eq_true_eq] at e
        exact e.1
      have hd : x.down.k = x.k - 1 := rfl
      obtain ⟨o', h3⟩ := for_brk ht h1 h2 n (lo + 1) x.down (some lo) (by omega) (by omega)
      rw [h2 x lo hk e, least_even x e]
      exact ⟨o', h3⟩
def bdLeast : Sf := sSeq (sIf (xbOr (xbV (xOp2 gEq (Bo.v 6) (Bo.e (xC (PyData.int 0))))) (xbOr (xbV (xOp2 gEq (Bo.e (xOp2 gMod (Bo.e (xOp1 gInt2 (Bo.e (xOp2 gAdd (Bo.v 2) (Bo.v 4))))) (Bo.e (xC (PyData.int 2))))) (Bo.e (xC (PyData.int 1))))) (xbV (xOp2 gEq (Bo.e (xOp2 gMod (Bo.e (xOp1 gInt2 (Bo.e (xOp2 gAdd (Bo.v 3) (Bo.v 5))))) (Bo.e (xC (PyData.int 2))))) (Bo.e (xC (PyData.int 1))))))) sBk sNx) (sPar [2, 3, 4, 5, 6] (xsCons (xF (xOp2 gFdiv (Bo.e (xOp2 gMinus (Bo.v 3) (Bo.v 5))) (Bo.e (xC (PyData.int 2))))) (xsCons (xF (xOp2 gFdiv (Bo.e (xOp2 gAdd (Bo.v 2) (Bo.v 4))) (Bo.e (xC (PyData.int 2))))) (xsCons (xF (xOp2 gFdiv (Bo.e (xOp2 gAdd (Bo.v 3) (Bo.v 5))) (Bo.e (xC (PyData.int 2))))) (xsCons (xF (xOp2 gFdiv (Bo.e (xOp2 gMinus (Bo.v 4) (Bo.v 2))) (Bo.e (xC (PyData.int 2))))) (xsCons (xF (xOp2 gMinus (Bo.v 6) (Bo.e (xC (PyData.int 1))))) xsNil))))))
def upA (p : Nu × Nu) : Nu × Nu := if p.1.k < p.2.k then (p.1.up, p.2) else (p.1, p.2.up)
theorem upA_lo : ∀ (n : Nat) (x y : Nu), (n : Int) = y.k - x.k → iter upA n (x, y) = (ups n x, y)
  | 0, _, _, _ => rfl
  | n + 1, x, y, h => by
    have e : upA (x, y) = (x.up, y) := by unfold upA; rw [if_pos (by show x.k < y.k; omega)]
    show iter upA n (upA (x, y)) = _
    rw [e, upA_lo n x.up y (by show (n : Int) = y.k - (x.k + 1); omega), ups_s]
theorem upA_hi : ∀ (n : Nat) (x y : Nu), (n : Int) = x.k - y.k → iter upA n (x, y) = (x, ups n y)
  | 0, _, _, _ => rfl
  | n + 1, x, y, h => by
    have e : upA (x, y) = (x, y.up) := by unfold upA; rw [if_neg (by show ¬ x.k < y.k; omega)]
    show iter upA n (upA (x, y)) = _
    rw [e, upA_hi n x y.up (by show (n : Int) = x.k - (y.k + 1); omega), ups_s]
theorem upA_all (x y : Nu) (hx : 0 ≤ x.k) (hy : 0 ≤ y.k) : iter upA (x.k - y.k).natAbs (x, y) = (Lv (mx x y) x, Lv (mx x y) y) := by
  by_cases h : x.k < y.k
  · have e1 : mx x y = y.k.toNat := by unfold mx; omega
    rw [upA_lo _ x y (by omega), Lv_self (x := y) e1]
    unfold Lv
    congr 2
    try omega
  · have e1 : mx x y = x.k.toNat := by unfold mx; omega
    rw [upA_hi _ x y (by omega), Lv_self (x := x) e1]
    unfold Lv
    congr 2
    try omega
theorem gabs (u : Int) : gAbs (.int u) = some (.int u.natAbs) := by
  show some (PyData.int (if u < 0 then -u else u)) = _
  congr 2
  split <;> omega
theorem mok1 {u : Int} : mulOk u 1 = true := mok_r (by decide)
theorem mokm {u : Int} : mulOk u (-1) = true := mok_r (by decide)
def intsB : D → Bool
  | .tuple ds => decide (ds.length = 5) && ds.all isI
  | _ => false
theorem eqv_bool {p q : Bool} : PyData.eqv (.bool p) (.bool q) = (p == q) := by rw [PyData.eqv.eq_def]
theorem g_eqB {p q : Bool} : gEq (.bool p) (.bool q) = some (.bool (p == q)) := by
  show (if (SeqAt.shaped (.bool p) && SeqAt.shaped (.bool q)) = true then _ else _) = _
  rw [eqv_bool]; rfl
theorem g_neB {p q : Bool} : gNe (.bool p) (.bool q) = some (.bool (!(p == q))) := by
  show (if (SeqAt.shaped (.bool p) && SeqAt.shaped (.bool q)) = true then _ else _) = _
  rw [eqv_bool]; rfl
theorem rg5 : rgD 0 5 = [.int 0, .int 1, .int 2, .int 3, .int 4] := rfl
theorem nuD_ty (x : Nu) : (tyN x.D).isSome = true := rfl
theorem nuD_tys (x : Nu) : ∀ ds, x.D = .tuple ds → tys ds = true := fun ds h => by cases h; rfl
theorem isRing_nu (x : Nu) : isRing x.D = okNu x := rfl
def one1 : Nu := ⟨1, 0, 0, 0, 0⟩
/-- a deck from which n more draws can be made -/
def Deck (n : Nat) (ds : List D) : Prop := ∃ x y z : Int, ds = [.int x, .int y, .int z] ∧ 0 ≤ z ∧ z + n ≤ 1000000
theorem Deck.less {n m : Nat} {ds : List D} (h : Deck n ds) (hm : m ≤ n) : Deck m ds := by
  obtain ⟨x, y, z, e, h1, h2⟩ := h
  exact ⟨x, y, z, e, h1, by omega⟩
theorem mok_lit {u : Int} : mulOk u 3935559000 = true := mok_r (by decide)
theorem mok_lit2 {u : Int} : mulOk u 7919 = true := mok_r (by decide)
theorem mok_lit3 {u : Int} : mulOk u 950706376 = true := mok_r (by decide)
def Bd (B : Nat) (x : Nu) : Prop := x.a.natAbs ≤ B ∧ x.b.natAbs ≤ B ∧ x.c.natAbs ≤ B ∧ x.d.natAbs ≤ B
theorem Bd_down {B : Nat} {x : Nu} (h : Bd B x) : Bd B x.down := by
  obtain ⟨h1, h2, h3, h4⟩ := h
  refine ⟨?_, ?_, ?_, ?_⟩ <;> unfold Nu.down <;> simp only <;> omega
theorem Bd_lst {B : Nat} : ∀ (n : Nat) (x : Nu), Bd B x → Bd B (lst n x)
  | 0, _, h => h
  | n + 1, x, h => by
    rw [lst_s]
    split
    · exact Bd_lst n x.down (Bd_down h)
    · exact h
theorem Bd_least {B : Nat} {x : Nu} (h : Bd B x) : Bd B x.least := Bd_lst _ x h
theorem Bd.sm {B : Nat} {x : Nu} (h : Bd B x) (hB : B < 2 ^ 63) : x.Sm := by
  obtain ⟨h1, h2, h3, h4⟩ := h
  exact ⟨by omega, by omega, by omega, by omega⟩
theorem rot8 (n : Nat) (h : n < 8) : Bd 1 (iter Nu.rot n one1) ∧ (iter Nu.rot n one1).k = 0 := by
  have : n = 0 ∨ n = 1 ∨ n = 2 ∨ n = 3 ∨ n = 4 ∨ n = 5 ∨ n = 6 ∨ n = 7 := by omega
  unfold Bd
  rcases this with rfl | rfl | rfl | rfl | rfl | rfl | rfl | rfl <;> decide
/-- as the law draws it -/
structure Num (x : Nu) : Prop where
  ok : okNu x = true
  sm : x.Sm
  k6 : x.k ≤ 6
theorem okNu_k0 {x : Nu} (h : x.k = 0) : okNu x = true := by
  unfold okNu
  rw [h]; rfl
theorem okNu_least {x : Nu} (h : 0 ≤ x.k) : okNu x.least = true := okNu_of (least_k h).1 (least_k h).2.2
theorem atI_mem {xs : List D} {v : Int} (h0 : 0 ≤ v) (h1 : v < xs.length) : ∃ r, atI xs v = some r ∧ r ∈ xs := by
  have hv : v.toNat < xs.length := by omega
  refine ⟨xs[v.toNat], ?_, List.getElem_mem hv⟩
  unfold atI ixN
  rw [if_pos h0, if_pos h1]
  exact List.getElem?_eq_getElem hv
@[simp] theorem e_emp (E : En) : xEmp E = .ok (.dict []) E := rfl
def Gv (r : D) : Prop := (tyN r).isSome = true ∧ ∀ ds, r = .tuple ds → tys ds = true ∧ ds.length ≤ 1000
theorem Gv_tup {ds : List D} (h : tys ds = true) (h2 : ds.length ≤ 1000) : Gv (.tuple ds) := ⟨rfl, fun es e => by cases e; exact ⟨h, h2⟩⟩
theorem Gv_int (i : Int) : Gv (.int i) := ⟨rfl, fun es e => by cases e⟩
theorem tys_app : ∀ {as bs : List D}, tys as = true → tys bs = true → tys (as ++ bs) = true
  | [], _, _, h => h
  | a :: as, bs, h, h2 => by
    simp only [tys, Bool.and_eq_true] at h
    simp only [List.cons_append, tys, Bool.and_eq_true]
    exact ⟨h.1, tys_app h.2 h2⟩
theorem tys_of : ∀ {as : List D}, (∀ d ∈ as, (tyN d).isSome = true) → tys as = true
  | [], _ => rfl
  | a :: as, h => by
    simp only [tys, Bool.and_eq_true]
    exact ⟨h a (by simp), tys_of fun d hd => h d (by simp [hd])⟩
theorem tys_sub {as bs : List D} (h : tys bs = true) (h2 : ∀ d ∈ as, d ∈ bs) : tys as = true := tys_of fun d hd => tys_mem h d (h2 d hd)
theorem ne_cons {v : D} {vs : List D} : PyData.eqv (.tuple (v :: vs)) (.tuple []) = false := by rw [PyData.eqv.eq_def]; rfl
theorem for_keep {f : Option D → En} {P : D → Prop} {tg : D → En → Option En} {bd : Sf} (ht : ∀ v o, tg v (f o) = some (f (some v))) (hb : ∀ v, P v → bd (f (some v)) = .nx (f (some v))) :
    ∀ (vs : List D) (o : Option D), (∀ v ∈ vs, P v) → ∃ o', forL tg bd vs (f o) = .nx (f o')
  | [], o, _ => ⟨o, rfl⟩
  | v :: vs, o, h => by
    obtain ⟨o', h2⟩ := for_keep ht hb vs (some v) fun x hx => h x (by simp [hx])
    refine ⟨o', ?_⟩
    rw [e_for1, ht]
    dsimp only
    rw [hb v (h v (by simp))]
    exact h2
theorem iter_ups : ∀ (n : Nat) (x : Nu), iter Nu.up n x = ups n x
  | 0, _ => rfl
  | n + 1, x => iter_ups n x.up
theorem Gv_nu (x : Nu) : Gv x.D := Gv_tup rfl (Nat.le_of_ble_eq_true rfl)
theorem plus_ok {x y : Nu} (hx : 0 ≤ x.k) (hy : 0 ≤ y.k) : okNu (x.plus y) = true := by
  have p := plus_k hx hy
  exact okNu_of p.1 (by rw [← p.2.2]; exact (least_k p.1).2.2)
theorem times_ok {x y : Nu} (hx : 0 ≤ x.k) (hy : 0 ≤ y.k) : okNu (x.times y) = true := by
  have p := times_k hx hy
  exact okNu_of p.1 (by rw [← p.2.2]; exact (least_k p.1).2.2)
theorem eqv_nu (x : Nu) : PyData.eqv x.D x.D = true := by
  rw [PyData.eqv.eq_def]
  simp [PyData.eqvAll, eqv_int]
theorem g_eqNu (x : Nu) : gEq x.D x.D = some (.bool true) := by
  show (if (SeqAt.shaped x.D && SeqAt.shaped x.D) = true then _ else _) = _
  rw [eqv_nu]; rfl
theorem g_neNu (x : Nu) : gNe x.D x.D = some (.bool false) := by
  show (if (SeqAt.shaped x.D && SeqAt.shaped x.D) = true then _ else _) = _
  rw [eqv_nu]; rfl
theorem ups_zero : ∀ (n : Nat) (k : Int), ups n ⟨0, 0, 0, 0, k⟩ = ⟨0, 0, 0, 0, k + n⟩
  | 0, k => by simp [ups]
  | n + 1, k => by
    have e : Nu.up ⟨0, 0, 0, 0, k⟩ = ⟨0, 0, 0, 0, k + 1⟩ := rfl
    rw [ups_s, e, ups_zero n (k + 1)]
    apply nu_ext <;> simp only
    omega
theorem least_zero {k : Int} (h : 0 ≤ k) : Nu.least ⟨0, 0, 0, 0, k⟩ = ⟨0, 0, 0, 0, 0⟩ := by
  have e := ups_zero k.toNat 0
  rw [show (0 : Int) + (k.toNat : Int) = k by omega] at e
  rw [← e, least_ups _ _ (Int.le_refl _)]
  rfl
theorem plus_neg {x : Nu} (h : 0 ≤ x.k) : x.plus x.neg = ⟨0, 0, 0, 0, 0⟩ := by
  have hm : mx x x.neg = x.k.toNat := by
    unfold mx
    show max x.k.toNat x.k.toNat = _
    omega
  have h1 : Lv (mx x x.neg) x = x := by rw [hm]; unfold Lv; rw [Nat.sub_self]; rfl
  have h2 : Lv (mx x x.neg) x.neg = x.neg := by rw [hm]; unfold Lv; show ups (x.k.toNat - x.k.toNat) _ = _; rw [Nat.sub_self]; rfl
  unfold Nu.plus
  rw [h1, h2]
  have e : x.add x.neg = ⟨0, 0, 0, 0, x.k⟩ := by
    apply nu_ext <;> unfold Nu.add Nu.neg <;> simp only <;> omega
  rw [e]
  exact least_zero h
theorem or_ff {a b : Xb} {E E2 E3 : En} (ha : a E = .ok false E2) (hb : b E2 = .ok false E3) : xbOr a b E = .ok false E3 := by
  show (a E).bind _ = _
  rw [ha]; exact hb
structure Bad (d : D) : Prop where
  ty : (tyN d).isSome = true
  tt : ∀ ds, d = .tuple ds → tys ds = true
  no : isRing d = false
@[simp] theorem e_try {exs : List Str} {subs : List (Str × Str)} {bd : Sf} {hs : List (Str × Sf)} {E : En} : sTry exs subs bd hs E = match bd E with
  | .ex x E1 => tryL exs subs x E1 hs
  | o => o := rfl
@[simp] theorem tryN {E : En} {h1 h2 : Sf} : tryL [Str.ofString "InvalidNumber", Str.ofString "InvalidInteger"] [(Str.ofString "InvalidNumber", Str.ofString "InvalidNumber"), (Str.ofString "InvalidInteger", Str.ofString "InvalidInteger")] ⟨Str.ofString "InvalidNumber", []⟩ E [(Str.ofString "InvalidNumber", h1), (Str.ofString "InvalidInteger", h2)] = match h1 E with
  | .ex _ _ => .no
  | o => o := rfl
@[simp] theorem tryI {E : En} {h1 h2 : Sf} : tryL [Str.ofString "InvalidNumber", Str.ofString "InvalidInteger"] [(Str.ofString "InvalidNumber", Str.ofString "InvalidNumber"), (Str.ofString "InvalidInteger", Str.ofString "InvalidInteger")] ⟨Str.ofString "InvalidInteger", []⟩ E [(Str.ofString "InvalidNumber", h1), (Str.ofString "InvalidInteger", h2)] = match h2 E with
  | .ex _ _ => .no
  | o => o := rfl
theorem eqv_str {u v : Str} : PyData.eqv (.str u) (.str v) = (u == v) := by rw [PyData.eqv.eq_def]
theorem g_eqS {u v : Str} (h : SeqAt.shaped (.str u) = true) (h2 : SeqAt.shaped (.str v) = true) : gEq (.str u) (.str v) = some (.bool (u == v)) := by
  show (if (SeqAt.shaped (.str u) && SeqAt.shaped (.str v)) = true then _ else _) = _
  rw [eqv_str, h, h2]; rfl
theorem g_neS {u v : Str} (h : SeqAt.shaped (.str u) = true) (h2 : SeqAt.shaped (.str v) = true) : gNe (.str u) (.str v) = some (.bool (!(u == v))) := by
  show (if (SeqAt.shaped (.str u) && SeqAt.shaped (.str v)) = true then _ else _) = _
  rw [eqv_str, h, h2]; rfl
theorem sh1 : SeqAt.shaped (.str (Str.ofString "number")) = true := by kernel_rfl
theorem sh2 : SeqAt.shaped (.str (Str.ofString "integer")) = true := by kernel_rfl
theorem sh3 : SeqAt.shaped (.str (Str.ofString "")) = true := by kernel_rfl
@[simp] theorem qs1 : gEq (.str (Str.ofString "number")) (.str (Str.ofString "")) = some (.bool false) := by rw [g_eqS sh1 sh3]; rfl
@[simp] theorem qs2 : gEq (.str (Str.ofString "integer")) (.str (Str.ofString "")) = some (.bool false) := by rw [g_eqS sh2 sh3]; rfl
@[simp] theorem qs3 : gEq (.str (Str.ofString "integer")) (.str (Str.ofString "integer")) = some (.bool true) := by rw [g_eqS sh2 sh2]; rfl
@[simp] theorem qs4 : gNe (.str (Str.ofString "integer")) (.str (Str.ofString "integer")) = some (.bool false) := by rw [g_neS sh2 sh2]; rfl
@[simp] theorem qs5 : gNe (.str (Str.ofString "number")) (.str (Str.ofString "number")) = some (.bool false) := by rw [g_neS sh1 sh1]; rfl
structure Odd (d : D) : Prop where
  ty : (tyN d).isSome = true
  no : isI d = false
theorem mul4 : gMul (.list [.str (Str.ofString "integer")]) (.int 4) = some (.list [.str (Str.ofString "integer"), .str (Str.ofString "integer"), .str (Str.ofString "integer"), .str (Str.ofString "integer")]) := by
  unfold gMul
  simp only [i63_eq]
  rfl
theorem eq4 : gEq (.list [.str (Str.ofString "integer"), .str (Str.ofString "integer"), .str (Str.ofString "integer"), .str (Str.ofString "integer")]) (.list [.str (Str.ofString "integer"), .str (Str.ofString "integer"), .str (Str.ofString "integer"), .str (Str.ofString "integer")]) = some (.bool true) := by
  have sh : SeqAt.shaped (.list [.str (Str.ofString "integer"), .str (Str.ofString "integer"), .str (Str.ofString "integer"), .str (Str.ofString "integer")]) = true := by kernel_rfl
  have ev : PyData.eqv (.list [.str (Str.ofString "integer"), .str (Str.ofString "integer"), .str (Str.ofString "integer"), .str (Str.ofString "integer")]) (.list [.str (Str.ofString "integer"), .str (Str.ofString "integer"), .str (Str.ofString "integer"), .str (Str.ofString "integer")]) = true := by
    rw [PyData.eqv.eq_def]
    simp only [PyData.eqvAll, eqv_str, beq_self_eq_true, Bool.and_self]
  show (if (SeqAt.shaped (.list [.str (Str.ofString "integer"), .str (Str.ofString "integer"), .str (Str.ofString "integer"), .str (Str.ofString "integer")]) && SeqAt.shaped (.list [.str (Str.ofString "integer"), .str (Str.ofString "integer"), .str (Str.ofString "integer"), .str (Str.ofString "integer")])) = true then _ else _) = _
  rw [ev, sh]; rfl
theorem rg59 : rgD 5 4 = [.int 5, .int 6, .int 7, .int 8] := rfl
theorem for_inv {I : En → Prop} {P : D → Prop} {tg : D → En → Option En} {bd : Sf} (hb : ∀ v E, P v → I E → ∃ E1 E2, tg v E = some E1 ∧ bd E1 = .nx E2 ∧ I E2) :
    ∀ (vs : List D) (E : En), (∀ v ∈ vs, P v) → I E → ∃ E2, forL tg bd vs E = .nx E2 ∧ I E2
  | [], E, _, hi => ⟨E, rfl, hi⟩
  | v :: vs, E, h, hi => by
    obtain ⟨E1, E2, h1, h2, h3⟩ := hb v E (h v (by simp)) hi
    obtain ⟨E3, h4, h5⟩ := for_inv hb vs E2 (fun x hx => h x (by simp [hx])) h3
    refine ⟨E3, ?_, h5⟩
    rw [e_for1, h1]
    dsimp only
    rw [h2]
    exact h4
def LawI (sc : D) (E : En) : Prop := E = [some (Sl.im sc), none, none, none, none, none, none, none, none] ∨
  ∃ a b c d e f g h, E = [some (Sl.im sc), some (Sl.im a), some (Sl.ow b), some (Sl.im c), some (Sl.im d), some (Sl.im e), some (Sl.im f), some (Sl.im g), some (Sl.im h)]
theorem roots (s : Int) : (iter Nu.rot (s % 8).toNat one1).times (iter Nu.rot (-s % 8).toNat one1) = one1 := by
  have : (s % 8 = 0 ∧ -s % 8 = 0) ∨ (s % 8 = 1 ∧ -s % 8 = 7) ∨ (s % 8 = 2 ∧ -s % 8 = 6) ∨ (s % 8 = 3 ∧ -s % 8 = 5) ∨ (s % 8 = 4 ∧ -s % 8 = 4) ∨ (s % 8 = 5 ∧ -s % 8 = 3) ∨ (s % 8 = 6 ∧ -s % 8 = 2) ∨ (s % 8 = 7 ∧ -s % 8 = 1) := by omega
  rcases this with ⟨h1, h2⟩ | ⟨h1, h2⟩ | ⟨h1, h2⟩ | ⟨h1, h2⟩ | ⟨h1, h2⟩ | ⟨h1, h2⟩ | ⟨h1, h2⟩ | ⟨h1, h2⟩ <;> rw [h1, h2] <;> rfl
def Nu.conj (x : Nu) : Nu := ⟨x.a, -x.d, -x.c, -x.b, x.k⟩
def Nu.tw (x : Nu) : Nu := if x.k % 2 = 1 then ⟨-x.a, x.b, -x.c, x.d, x.k⟩ else ⟨x.a, -x.b, x.c, -x.d, x.k⟩
theorem up_conj (x : Nu) : x.up.conj = x.conj.up := by
  apply nu_ext <;> unfold Nu.conj Nu.up <;> simp only <;> omega
theorem up_tw (x : Nu) : x.up.tw = x.tw.up := by
  unfold Nu.tw
  have e : x.up.k = x.k + 1 := rfl
  rw [e]
  by_cases h : x.k % 2 = 1
  · rw [if_pos h, if_neg (by omega)]
    apply nu_ext <;> unfold Nu.up <;> simp only <;> omega
  · rw [if_neg h, if_pos (by omega)]
    apply nu_ext <;> unfold Nu.up <;> simp only <;> omega
theorem conj_k (x : Nu) : x.conj.k = x.k := rfl
theorem tw_k (x : Nu) : x.tw.k = x.k := by unfold Nu.tw; split <;> rfl
theorem ups_conj : ∀ (n : Nat) (x : Nu), (ups n x).conj = ups n x.conj
  | 0, _ => rfl
  | n + 1, x => by rw [ups_s, ups_conj n, up_conj, ← ups_s]
theorem ups_tw : ∀ (n : Nat) (x : Nu), (ups n x).tw = ups n x.tw
  | 0, _ => rfl
  | n + 1, x => by rw [ups_s, ups_tw n, up_tw, ← ups_s]
theorem even_conj (x : Nu) : x.conj.even = x.even := by
  unfold Nu.even Nu.conj
  simp only
  congr 1
  congr 1 <;> exact decide_eq_decide.mpr (by omega)
theorem even_tw (x : Nu) : x.tw.even = x.even := by
  unfold Nu.even Nu.tw
  by_cases h : x.k % 2 = 1
  · simp only [if_pos h]
    congr 1
    congr 1 <;> exact decide_eq_decide.mpr (by omega)
  · simp only [if_neg h]
    congr 1
    congr 1 <;> exact decide_eq_decide.mpr (by omega)
theorem least_conj {x : Nu} (h : 0 ≤ x.k) : x.conj.least = x.least.conj := by
  obtain ⟨m, h1, h2, h3, h4⟩ := least_spec _ x rfl h
  have e : x.conj = ups m x.least.conj := by rw [← ups_conj, h1]
  rw [e, least_ups _ _ (by rw [conj_k]; exact h3), least_odd _ (by rw [even_conj]; exact h4)]
theorem least_tw {x : Nu} (h : 0 ≤ x.k) : x.tw.least = x.least.tw := by
  obtain ⟨m, h1, h2, h3, h4⟩ := least_spec _ x rfl h
  have e : x.tw = ups m x.least.tw := by rw [← ups_tw, h1]
  rw [e, least_ups _ _ (by rw [tw_k]; exact h3), least_odd _ (by rw [even_tw]; exact h4)]
theorem mul_conj (x y : Nu) : (x.mul y).conj = x.conj.mul y.conj := by
  apply nu_ext <;> unfold Nu.conj Nu.mul <;> simp only <;> grind
theorem mul_tw (x y : Nu) : (x.mul y).tw = x.tw.mul y.tw := by
  unfold Nu.tw
  have e : (x.mul y).k = x.k + y.k := rfl
  rw [e]
  by_cases h1 : x.k % 2 = 1 <;> by_cases h2 : y.k % 2 = 1
  · rw [if_pos h1, if_pos h2, if_neg (by omega)]
    apply nu_ext <;> unfold Nu.mul <;> simp only <;> grind
  · rw [if_pos h1, if_neg h2, if_pos (by omega)]
    apply nu_ext <;> unfold Nu.mul <;> simp only <;> grind
  · rw [if_neg h1, if_pos h2, if_pos (by omega)]
    apply nu_ext <;> unfold Nu.mul <;> simp only <;> grind
  · rw [if_neg h1, if_neg h2, if_neg (by omega)]
    apply nu_ext <;> unfold Nu.mul <;> simp only <;> grind
theorem times_conj {x y : Nu} (hx : 0 ≤ x.k) (hy : 0 ≤ y.k) : (x.times y).conj = x.conj.times y.conj := by
  have e : 0 ≤ (x.mul y).k := by show 0 ≤ x.k + y.k; omega
  unfold Nu.times
  rw [← least_conj e, mul_conj]
theorem times_tw {x y : Nu} (hx : 0 ≤ x.k) (hy : 0 ≤ y.k) : (x.times y).tw = x.tw.times y.tw := by
  have e : 0 ≤ (x.mul y).k := by show 0 ≤ x.k + y.k; omega
  unfold Nu.times
  rw [← least_tw e, mul_tw]
theorem conj_conj (x : Nu) : x.conj.conj = x := by
  apply nu_ext <;> unfold Nu.conj <;> simp
theorem tw_tw (x : Nu) : x.tw.tw = x := by
  unfold Nu.tw
  by_cases h : x.k % 2 = 1
  · rw [if_pos h, if_pos h]
    apply nu_ext <;> simp
  · rw [if_neg h, if_neg h]
    apply nu_ext <;> simp
theorem mul_comm (x y : Nu) : x.mul y = y.mul x := by
  apply nu_ext <;> unfold Nu.mul <;> simp only <;> grind
theorem mul_assoc (x y z : Nu) : (x.mul y).mul z = x.mul (y.mul z) := by
  apply nu_ext <;> unfold Nu.mul <;> simp only <;> grind
theorem times_comm (x y : Nu) : x.times y = y.times x := by unfold Nu.times; rw [mul_comm]
theorem times_l {x y : Nu} (hx : 0 ≤ x.k) (hy : 0 ≤ y.k) : (x.least.mul y).least = (x.mul y).least := by
  obtain ⟨m, h1, h2, h3, h4⟩ := least_spec _ x rfl hx
  have e : x.mul y = ups m (x.least.mul y) := by rw [← ups_mul, h1]
  have e2 : (x.least.mul y).k = x.least.k + y.k := rfl
  rw [e, least_ups _ _ (by omega)]
theorem times_r {x y : Nu} (hx : 0 ≤ x.k) (hy : 0 ≤ y.k) : (x.mul y.least).least = (x.mul y).least := by
  rw [mul_comm, times_l hy hx, mul_comm]
/-- the norm's numerator -/
def Nu.N (x : Nu) : Int := (x.a * x.a - x.c * x.c + 2 * (x.b * x.d)) * (x.a * x.a - x.c * x.c + 2 * (x.b * x.d)) + (x.d * x.d - x.b * x.b + 2 * (x.a * x.c)) * (x.d * x.d - x.b * x.b + 2 * (x.a * x.c))
def rat (t k : Int) : Nu := ⟨t, 0, 0, 0, k⟩
theorem norm_mul (x : Nu) : (x.mul x.conj).mul (x.mul x.conj).tw = rat x.N (4 * x.k) := by
  have e : (x.mul x.conj).tw = ⟨(x.mul x.conj).a, -(x.mul x.conj).b, (x.mul x.conj).c, -(x.mul x.conj).d, (x.mul x.conj).k⟩ := by
    unfold Nu.tw
    rw [if_neg]
    show ¬ (x.k + x.k) % 2 = 1
    omega
  rw [e]
  apply nu_ext <;> unfold Nu.mul Nu.conj rat Nu.N <;> simp only <;> grind
end
end Dl

set_option Elab.async false
set_option linter.all false
set_option maxRecDepth 100000
set_option maxHeartbeats 4000000
namespace Dl
noncomputable section
/-! ### the ring of the least numbers -/
structure Nr where
  x : Nu
  ok : okNu x = true
theorem Nr.ext {p q : Nr} (h : p.x = q.x) : p = q := by cases p; cases q; cases h; rfl
theorem Nr.k0 (p : Nr) : 0 ≤ p.x.k := (even_of p.ok).1
theorem Nr.least (p : Nr) : p.x.least = p.x := least_odd _ (even_of p.ok).2
theorem Nr.lv {p q : Nr} (N : Nat) (h : Lv N p.x = Lv N q.x) : p = q := Nr.ext (by rw [← p.least, ← q.least]; exact Lv_eq p.k0 q.k0 h)
theorem plus_okk {x y : Nu} (hx : 0 ≤ x.k) (hy : 0 ≤ y.k) : okNu (x.plus y) = true := by
  have h := plus_k hx hy
  rw [← h.2.2]; exact okNu_least h.1
theorem times_okk {x y : Nu} (hx : 0 ≤ x.k) (hy : 0 ≤ y.k) : okNu (x.times y) = true := by
  have h := times_k hx hy
  rw [← h.2.2]; exact okNu_least h.1
theorem neg_okk {x : Nu} (h : okNu x = true) : okNu x.neg = true := by
  obtain ⟨h1, h2⟩ := even_of h
  refine okNu_of h1 ?_
  unfold Nu.even at h2 ⊢
  unfold Nu.neg
  simp only [Bool.and_eq_false_iff, decide_eq_false_iff_not] at h2 ⊢
  omega
instance : Add Nr := ⟨fun p q => ⟨p.x.plus q.x, plus_okk p.k0 q.k0⟩⟩
instance : Mul Nr := ⟨fun p q => ⟨p.x.times q.x, times_okk p.k0 q.k0⟩⟩
instance : Neg Nr := ⟨fun p => ⟨p.x.neg, neg_okk p.ok⟩⟩
instance : Sub Nr := ⟨fun p q => p + -q⟩
def Nr.ofInt (i : Int) : Nr := ⟨⟨i, 0, 0, 0, 0⟩, okNu_k0 rfl⟩
instance : NatCast Nr := ⟨fun n => Nr.ofInt n⟩
instance : IntCast Nr := ⟨Nr.ofInt⟩
instance (n : Nat) : OfNat Nr n := ⟨Nr.ofInt n⟩
instance : SMul Nat Nr := ⟨fun n p => (n : Nr) * p⟩
instance : SMul Int Nr := ⟨fun n p => (n : Nr) * p⟩
def Nr.npow (p : Nr) : Nat → Nr
  | 0 => 1
  | n + 1 => Nr.npow p n * p
instance : HPow Nr Nat Nr := ⟨Nr.npow⟩
theorem Nr.add_x (p q : Nr) : (p + q).x = p.x.plus q.x := rfl
theorem Nr.mul_x (p q : Nr) : (p * q).x = p.x.times q.x := rfl
theorem Nr.neg_x (p : Nr) : (-p).x = p.x.neg := rfl
theorem Nr.zero_x : (0 : Nr).x = ⟨0, 0, 0, 0, 0⟩ := rfl
theorem Nr.one_x : (1 : Nr).x = ⟨1, 0, 0, 0, 0⟩ := rfl
theorem lvl3 (p q r : Nr) : ∃ N : Nat, p.x.k ≤ N ∧ q.x.k ≤ N ∧ r.x.k ≤ N := ⟨(max p.x.k (max q.x.k r.x.k)).toNat, by omega, by omega, by omega⟩
theorem Nr.add_k (p q : Nr) : (p + q).x.k ≤ max p.x.k q.x.k := (plus_k p.k0 q.k0).2.1
theorem Nr.mul_k (p q : Nr) : (p * q).x.k ≤ p.x.k + q.x.k := (times_k p.k0 q.k0).2.1
theorem Nr.lv_add {N : Nat} (p q : Nr) (h1 : p.x.k ≤ N) (h2 : q.x.k ≤ N) : Lv N (p + q).x = (Lv N p.x).add (Lv N q.x) := Lv_plus p.k0 q.k0 h1 h2
theorem Nr.lv_mul {N M : Nat} (p q : Nr) (h1 : p.x.k ≤ N) (h2 : q.x.k ≤ M) : Lv (N + M) (p * q).x = (Lv N p.x).mul (Lv M q.x) := Lv_times p.k0 q.k0 h1 h2
theorem Lv_zero (N : Nat) : Lv N ⟨0, 0, 0, 0, 0⟩ = ⟨0, 0, 0, 0, N⟩ := by
  have h : ∀ (n : Nat) (k : Int), ups n ⟨0, 0, 0, 0, k⟩ = ⟨0, 0, 0, 0, k + n⟩ := by
    intro n
    induction n with
    | zero => intro k; simp [ups]
    | succ n ih =>
      intro k
      rw [ups_s]
      show ups n ⟨0 - 0, 0 + 0, 0 + 0, 0 - 0, k + 1⟩ = _
      rw [show (0 : Int) - 0 = 0 from rfl, show (0 : Int) + 0 = 0 from rfl, ih]
      congr 1
      omega
  unfold Lv
  rw [h]
  simp
theorem nr_add_comm (p q : Nr) : p + q = q + p := by
  obtain ⟨N, h1, h2, _⟩ := lvl3 p q q
  refine Nr.lv N ?_
  rw [Nr.lv_add _ _ h1 h2, Nr.lv_add _ _ h2 h1]
  have k1 := Lv_k p.k0 h1
  have k2 := Lv_k q.k0 h2
  apply nu_ext <;> unfold Nu.add <;> simp only <;> omega
theorem nr_add_assoc (p q r : Nr) : p + q + r = p + (q + r) := by
  obtain ⟨N, h1, h2, h3⟩ := lvl3 p q r
  have a := Nr.add_k p q
  have b := Nr.add_k q r
  refine Nr.lv N ?_
  rw [Nr.lv_add _ _ (by omega) h3, Nr.lv_add _ _ h1 h2, Nr.lv_add _ _ h1 (by omega), Nr.lv_add _ _ h2 h3]
  apply nu_ext <;> unfold Nu.add <;> simp only <;> omega
theorem nr_add_zero (p : Nr) : p + 0 = p := by
  obtain ⟨N, h1, _, h3⟩ := lvl3 p p 0
  refine Nr.lv N ?_
  rw [Nr.lv_add _ _ h1 h3, Nr.zero_x, Lv_zero]
  have k1 := Lv_k p.k0 h1
  apply nu_ext <;> unfold Nu.add <;> simp only <;> omega
theorem nr_neg_add (p : Nr) : -p + p = 0 := by
  obtain ⟨N, h1, h2, h3⟩ := lvl3 p (-p) 0
  refine Nr.lv N ?_
  rw [Nr.lv_add _ _ h2 h1, Nr.zero_x, Lv_zero]
  have k1 := Lv_k p.k0 h1
  have e : ∀ (n : Nat) (x : Nu), ups n x.neg = (ups n x).neg := by
    intro n
    induction n with
    | zero => intro x; rfl
    | succ n ih =>
      intro x
      rw [ups_s, ups_s, ← ih]
      congr 1
      apply nu_ext <;> unfold Nu.up Nu.neg <;> simp only <;> omega
  have e2 : Lv N (-p).x = (Lv N p.x).neg := e _ _
  rw [e2]
  have k2 : (Lv N p.x).neg.k = N := k1
  apply nu_ext <;> unfold Nu.add <;> simp only <;> first | (unfold Nu.neg; simp only; omega) | exact k2
theorem nr_mul_comm (p q : Nr) : p * q = q * p := Nr.ext (times_comm p.x q.x)
theorem nr_mul_assoc (p q r : Nr) : p * q * r = p * (q * r) := by
  obtain ⟨N, h1, h2, h3⟩ := lvl3 p q r
  have a := Nr.mul_k p q
  have b := Nr.mul_k q r
  refine Nr.lv (N + N + N) ?_
  rw [Nr.lv_mul (N := N + N) (M := N) _ _ (by omega) h3, Nr.lv_mul _ _ h1 h2, show N + N + N = N + (N + N) by omega, Nr.lv_mul (N := N) (M := N + N) _ _ h1 (by omega), Nr.lv_mul _ _ h2 h3, mul_assoc]
theorem nr_left (p q r : Nr) : p * (q + r) = p * q + p * r := by
  obtain ⟨N, h1, h2, h3⟩ := lvl3 p q r
  have a := Nr.mul_k p q
  have b := Nr.mul_k p r
  have c := Nr.add_k q r
  refine Nr.lv (N + N) ?_
  rw [Nr.lv_mul _ _ h1 (by omega), Nr.lv_add _ _ h2 h3, Nr.lv_add _ _ (by omega) (by omega), Nr.lv_mul _ _ h1 h2, Nr.lv_mul _ _ h1 h3]
  apply nu_ext <;> unfold Nu.add Nu.mul <;> simp only <;> grind
theorem nr_mul_one (p : Nr) : p * 1 = p := by
  refine Nr.ext ?_
  rw [Nr.mul_x, Nr.one_x]
  unfold Nu.times
  have e : p.x.mul ⟨1, 0, 0, 0, 0⟩ = p.x := by apply nu_ext <;> unfold Nu.mul <;> simp only <;> grind
  rw [e, p.least]
theorem nr_zero_mul (p : Nr) : 0 * p = 0 := by
  refine Nr.ext ?_
  rw [Nr.mul_x, Nr.zero_x]
  unfold Nu.times
  have e : Nu.mul ⟨0, 0, 0, 0, 0⟩ p.x = ⟨0, 0, 0, 0, p.x.k⟩ := by apply nu_ext <;> unfold Nu.mul <;> simp only <;> grind
  rw [e]
  have e2 := Lv_zero p.x.k.toNat
  have e3 := least_Lv (x := ⟨0, 0, 0, 0, 0⟩) (N := p.x.k.toNat) (Int.le_refl _)
  rw [e2] at e3
  have h0 := p.k0
  rw [show p.x.k = (p.x.k.toNat : Int) by omega, e3]; rfl
theorem ofInt_add (i j : Int) : Nr.ofInt (i + j) = Nr.ofInt i + Nr.ofInt j := by
  refine Nr.lv 0 ?_
  rw [Nr.lv_add _ _ (Int.le_refl _) (Int.le_refl _)]
  show (⟨i + j, 0, 0, 0, 0⟩ : Nu) = Nu.add ⟨i, 0, 0, 0, 0⟩ ⟨j, 0, 0, 0, 0⟩
  rfl
theorem ofInt_mul (i j : Int) : Nr.ofInt (i * j) = Nr.ofInt i * Nr.ofInt j := by
  refine Nr.lv (0 + 0) ?_
  rw [Nr.lv_mul _ _ (Int.le_refl _) (Int.le_refl _)]
  show (⟨i * j, 0, 0, 0, 0⟩ : Nu) = Nu.mul ⟨i, 0, 0, 0, 0⟩ ⟨j, 0, 0, 0, 0⟩
  apply nu_ext <;> unfold Nu.mul <;> simp only <;> grind
theorem ofInt_neg (i : Int) : Nr.ofInt (-i) = -Nr.ofInt i := Nr.ext rfl
theorem nr_neg_mul (p q : Nr) : -p * q = -(p * q) := by
  have h : ∀ a b c : Nr, a + c = b + c → a = b := fun a b c e => by
    have e2 : a + c + -c = b + c + -c := by rw [e]
    rw [nr_add_assoc, nr_add_assoc, nr_add_comm c, nr_neg_add, nr_add_zero, nr_add_zero] at e2
    exact e2
  refine h _ _ (p * q) ?_
  rw [nr_neg_add, nr_mul_comm (-p), nr_mul_comm p, ← nr_left, nr_neg_add, nr_mul_comm, nr_zero_mul]
instance : Lean.Grind.CommRing Nr where
  add_zero := nr_add_zero
  add_comm := nr_add_comm
  add_assoc := nr_add_assoc
  mul_assoc := nr_mul_assoc
  mul_comm := nr_mul_comm
  mul_one := nr_mul_one
  one_mul := fun p => by rw [nr_mul_comm]; exact nr_mul_one p
  left_distrib := nr_left
  right_distrib := fun p q r => by rw [nr_mul_comm, nr_left, nr_mul_comm r, nr_mul_comm r]
  zero_mul := nr_zero_mul
  mul_zero := fun p => by rw [nr_mul_comm]; exact nr_zero_mul p
  pow_zero := fun _ => rfl
  pow_succ := fun _ _ => rfl
  ofNat_succ := fun a => by
    show Nr.ofInt ((a + 1 : Nat) : Int) = Nr.ofInt a + Nr.ofInt 1
    rw [← ofInt_add]; rfl
  ofNat_eq_natCast := fun _ => rfl
  nsmul_eq_natCast_mul := fun _ _ => rfl
  neg_add_cancel := nr_neg_add
  sub_eq_add_neg := fun _ _ => rfl
  neg_zsmul := fun i p => by
    show Nr.ofInt (-i) * p = -(Nr.ofInt i * p)
    rw [ofInt_neg, nr_neg_mul]
  zsmul_natCast_eq_nsmul := fun _ _ => rfl
  intCast_ofNat := fun _ => rfl
  intCast_neg := fun i => ofInt_neg i
example (a b c : Nr) : (a + b) * (a - b) + b * b = a * a := by grind
end
end Dl

set_option Elab.async false
set_option linter.all false
set_option maxRecDepth 100000
set_option maxHeartbeats 4000000
namespace Dl
noncomputable section
/-! ### conjugates, norms, quotients -/
theorem emod2 (u : Int) : u % 2 = 0 ∨ u % 2 = 1 := by omega
theorem conj_okk {x : Nu} (h : okNu x = true) : okNu x.conj = true := by
  obtain ⟨h1, h2⟩ := even_of h
  exact okNu_of h1 (by rw [even_conj]; exact h2)
theorem tw_okk {x : Nu} (h : okNu x = true) : okNu x.tw = true := by
  obtain ⟨h1, h2⟩ := even_of h
  exact okNu_of (by rw [tw_k]; exact h1) (by rw [even_tw]; exact h2)
def Nr.conj (p : Nr) : Nr := ⟨p.x.conj, conj_okk p.ok⟩
def Nr.tw (p : Nr) : Nr := ⟨p.x.tw, tw_okk p.ok⟩
theorem nr_conj_mul (p q : Nr) : (p * q).conj = p.conj * q.conj := Nr.ext (times_conj p.k0 q.k0)
theorem nr_tw_mul (p q : Nr) : (p * q).tw = p.tw * q.tw := Nr.ext (times_tw p.k0 q.k0)
theorem nr_conj_conj (p : Nr) : p.conj.conj = p := Nr.ext (conj_conj p.x)
theorem nr_tw_tw (p : Nr) : p.tw.tw = p := Nr.ext (tw_tw p.x)
def Nr.size (p : Nr) : Nr := p * p.conj
def Nr.inv (p : Nr) : Nr := p.conj * p.size.tw
def Nr.norm (p : Nr) : Nr := p.size * p.size.tw
theorem nr_mul_inv (p : Nr) : p * p.inv = p.norm := by
  show p * (p.conj * p.size.tw) = p * p.conj * p.size.tw
  rw [nr_mul_assoc]
theorem nr_size_mul (p q : Nr) : (p * q).size = p.size * q.size := by
  unfold Nr.size
  rw [nr_conj_mul]
  grind
theorem nr_norm_mul (p q : Nr) : (p * q).norm = p.norm * q.norm := by
  unfold Nr.norm
  rw [nr_size_mul, nr_tw_mul]
  grind
theorem norm_rat (p : Nr) : p.norm.x = (rat p.x.N (4 * p.x.k)).least := by
  have h0 := p.k0
  have hy : 0 ≤ (p.x.mul p.x.conj).k := by show 0 ≤ p.x.k + p.x.conj.k; rw [conj_k]; omega
  have e1 : p.size.x = (p.x.mul p.x.conj).least := rfl
  show (p.size.x.mul p.size.x.tw).least = _
  rw [e1, ← least_tw hy, times_l hy (by have := (least_k (x := (p.x.mul p.x.conj).tw) (by rw [tw_k]; exact hy)).1; exact this), times_r hy (by rw [tw_k]; exact hy), norm_mul]
theorem least_rat : ∀ (m : Nat) (t : Int), ∃ (j : Nat) (t' : Int), (rat t (2 * m)).least = rat t' (2 * ((m - j : Nat) : Int)) ∧ j ≤ m ∧ t = t' * 2 ^ j ∧ (m = j ∨ t' % 2 = 1)
  | 0, t => ⟨0, t, by rw [least_odd _ rfl], by omega, by simp, .inl rfl⟩
  | m + 1, t => by
    by_cases h : t % 2 = 1
    · refine ⟨0, t, ?_, by omega, by simp, .inr h⟩
      rw [least_odd]
      · rfl
      · unfold Nu.even rat
        simp only [Bool.and_eq_false_iff, decide_eq_false_iff_not]
        omega
    · obtain ⟨j, t', h1, h2, h3, h4⟩ := least_rat m (t / 2)
      refine ⟨j + 1, t', ?_, by omega, ?_, by omega⟩
      · have e1 : (rat t (2 * ((m + 1 : Nat) : Int))).even = true := by
          unfold Nu.even rat
          simp only [Bool.and_eq_true, decide_eq_true_eq]
          omega
        have e2 : (rat t (2 * ((m + 1 : Nat) : Int))).down.even = true := by
          unfold Nu.even Nu.down rat
          simp only [Bool.and_eq_true, decide_eq_true_eq]
          omega
        have e3 : (rat t (2 * ((m + 1 : Nat) : Int))).down.down = rat (t / 2) (2 * (m : Int)) := by
          apply nu_ext <;> unfold Nu.down rat <;> simp only <;> omega
        rw [least_even _ e1, least_even _ e2, e3, h1]
        congr 2
        omega
      · have : t = t / 2 * 2 := by omega
        rw [Int.pow_succ, ← Int.mul_assoc, ← h3]
        exact this
def Nr.top (p : Nr) : Int := p.norm.x.a
def Nr.bot (p : Nr) : Nat := (p.norm.x.k / 2).toNat
theorem N_sq (x : Nu) : 0 ≤ x.N := by
  unfold Nu.N
  have h : ∀ u : Int, 0 ≤ u * u := fun u => by
    rcases Int.le_total 0 u with h | h
    · exact Int.mul_nonneg h h
    · exact Int.mul_nonneg_of_nonpos_of_nonpos h h
  have := h (x.a * x.a - x.c * x.c + 2 * (x.b * x.d))
  have := h (x.d * x.d - x.b * x.b + 2 * (x.a * x.c))
  omega
theorem norm_form (p : Nr) : p.norm.x = rat p.top (2 * (p.bot : Int)) ∧ (p.bot = 0 ∨ p.top % 2 = 1) ∧ ∃ j : Nat, p.x.N = p.top * 2 ^ j ∧ p.bot + j = 2 * p.x.k.toNat := by
  have h0 := p.k0
  obtain ⟨j, t', h1, h2, h3, h4⟩ := least_rat (2 * p.x.k.toNat) p.x.N
  have e := norm_rat p
  rw [show 4 * p.x.k = 2 * ((2 * p.x.k.toNat : Nat) : Int) by omega, h1] at e
  have et : p.top = t' := by show p.norm.x.a = t'; rw [e]; rfl
  have eb : p.bot = 2 * p.x.k.toNat - j := by
    show (p.norm.x.k / 2).toNat = _
    rw [e]
    show (2 * ((2 * p.x.k.toNat - j : Nat) : Int) / 2).toNat = _
    omega
  rw [et, eb]
  exact ⟨e, by omega, j, h3, by omega⟩
theorem sq_pos {u v : Int} (h : u * u + v * v = 0) : u = 0 ∧ v = 0 := by
  have g : ∀ u : Int, 0 ≤ u * u := fun u => by
    rcases Int.le_total 0 u with h | h
    · exact Int.mul_nonneg h h
    · exact Int.mul_nonneg_of_nonpos_of_nonpos h h
  have h1 := g u
  have h2 := g v
  have e1 : u * u = 0 := by omega
  have e2 : v * v = 0 := by omega
  exact ⟨by rcases Int.mul_eq_zero.mp e1 with h | h <;> exact h, by rcases Int.mul_eq_zero.mp e2 with h | h <;> exact h⟩
theorem sq_mod4 (u : Int) : (u % 2 = 0 ∧ u * u % 4 = 0) ∨ (u % 2 = 1 ∧ u * u % 4 = 1) := by
  rcases emod2 u with h | h
  · obtain ⟨v, rfl⟩ : ∃ v, u = 2 * v := ⟨u / 2, by omega⟩
    refine .inl ⟨h, ?_⟩
    rw [show 2 * v * (2 * v) = 4 * (v * v) by grind]
    omega
  · obtain ⟨v, rfl⟩ : ∃ v, u = 2 * v + 1 := ⟨u / 2, by omega⟩
    refine .inr ⟨h, ?_⟩
    rw [show (2 * v + 1) * (2 * v + 1) = 4 * (v * v + v) + 1 by grind]
    omega
theorem mul_par (u v : Int) : u * v % 2 = 1 ↔ (u % 2 = 1 ∧ v % 2 = 1) := by
  rw [Int.mul_emod]
  rcases emod2 u with h | h <;> rcases emod2 v with g | g <;> rw [h, g] <;> decide
theorem N_desc : ∀ (n : Nat) (a b c d : Int), a.natAbs + b.natAbs + c.natAbs + d.natAbs ≤ n → a * a - c * c + 2 * (b * d) = 0 → d * d - b * b + 2 * (a * c) = 0 → a = 0 ∧ b = 0 ∧ c = 0 ∧ d = 0
  | 0, a, b, c, d, h, _, _ => by omega
  | n + 1, a, b, c, d, h, h1, h2 => by
    have pa := sq_mod4 a
    have pb := sq_mod4 b
    have pc := sq_mod4 c
    have pd := sq_mod4 d
    have mbd := mul_par b d
    have mac := mul_par a c
    have ea : a % 2 = 0 := by
      generalize a * a = A at *
      generalize b * b = B at *
      generalize c * c = C at *
      generalize d * d = D at *
      generalize b * d = BD at *
      generalize a * c = AC at *
      rcases emod2 a with ha | ha
      · exact ha
      · exfalso
        have hc : c % 2 = 1 := by omega
        have := mac.mpr ⟨ha, hc⟩
        omega
    have ec : c % 2 = 0 := by
      generalize a * a = A at *
      generalize c * c = C at *
      generalize b * d = BD at *
      omega
    have eb : b % 2 = 0 := by
      generalize a * a = A at *
      generalize b * b = B at *
      generalize c * c = C at *
      generalize d * d = D at *
      generalize b * d = BD at *
      generalize a * c = AC at *
      rcases emod2 b with ha | ha
      · exact ha
      · exfalso
        have hd : d % 2 = 1 := by omega
        have := mbd.mpr ⟨ha, hd⟩
        omega
    have ed : d % 2 = 0 := by
      generalize b * b = B at *
      generalize d * d = D at *
      generalize a * c = AC at *
      omega
    obtain ⟨a', rfl⟩ : ∃ v, a = 2 * v := ⟨a / 2, by omega⟩
    obtain ⟨b', rfl⟩ : ∃ v, b = 2 * v := ⟨b / 2, by omega⟩
    obtain ⟨c', rfl⟩ : ∃ v, c = 2 * v := ⟨c / 2, by omega⟩
    obtain ⟨d', rfl⟩ : ∃ v, d = 2 * v := ⟨d / 2, by omega⟩
    by_cases hz : a'.natAbs + b'.natAbs + c'.natAbs + d'.natAbs = 0
    · omega
    · have k1 : a' * a' - c' * c' + 2 * (b' * d') = 0 := by grind
      have k2 : d' * d' - b' * b' + 2 * (a' * c') = 0 := by grind
      obtain ⟨r1, r2, r3, r4⟩ := N_desc n a' b' c' d' (by omega) k1 k2
      omega
theorem N_zero {x : Nu} (h : x.N = 0) : x.a = 0 ∧ x.b = 0 ∧ x.c = 0 ∧ x.d = 0 := by
  unfold Nu.N at h
  obtain ⟨h1, h2⟩ := sq_pos h
  exact N_desc _ x.a x.b x.c x.d (Nat.le_refl _) h1 h2
theorem nr_zero {p : Nr} (h : p.x.a = 0 ∧ p.x.b = 0 ∧ p.x.c = 0 ∧ p.x.d = 0) : p = 0 := by
  refine Nr.ext ?_
  have h2 := p.ok
  unfold okNu at h2
  simp only [Bool.and_eq_true, Bool.or_eq_true, decide_eq_true_eq, h.1, h.2.1, h.2.2.1, h.2.2.2] at h2
  rw [Nr.zero_x]
  apply nu_ext
  · exact h.1
  · exact h.2.1
  · exact h.2.2.1
  · exact h.2.2.2
  · simp only
    rcases h2.2 with h | h | h
    · exact h
    · simp at h
    · simp at h
theorem top_nonneg (p : Nr) : 0 ≤ p.top := by
  obtain ⟨_, _, j, h, _⟩ := norm_form p
  have h1 := N_sq p.x
  rw [h] at h1
  have h2 : (0 : Int) < 2 ^ j := Int.pow_pos (by decide)
  rcases Int.lt_or_le p.top 0 with h3 | h3
  · have := Int.mul_neg_of_neg_of_pos h3 h2
    omega
  · exact h3
theorem top_pos {p : Nr} (hp : p ≠ 0) : 0 < p.top := by
  have h0 := top_nonneg p
  obtain ⟨_, _, j, h, _⟩ := norm_form p
  rcases Int.lt_or_eq_of_le h0 with h1 | h1
  · exact h1
  · rw [← h1, Int.zero_mul] at h
    exact absurd (nr_zero (N_zero h)) hp
theorem top_zero : (0 : Nr).top = 0 := by
  obtain ⟨_, _, j, h, _⟩ := norm_form 0
  have e : (0 : Nr).x.N = 0 := rfl
  rw [e] at h
  rcases Int.mul_eq_zero.mp h.symm with h | h
  · exact h
  · have h2 : (0 : Int) < 2 ^ j := Int.pow_pos (by decide)
    omega
/-- a fraction over a power of 2 -/
theorem rat_mul {q : Nr} {t : Int} {m : Nat} (h : q.x = rat t (2 * (m : Int))) : q * Nr.ofInt (2 ^ m) = Nr.ofInt t := by
  refine Nr.ext ?_
  have e : q.x.mul ⟨2 ^ m, 0, 0, 0, 0⟩ = ups (2 * m) ⟨t, 0, 0, 0, 0⟩ := by
    rw [h, ups_2]
    apply nu_ext <;> unfold rat Nu.mul <;> simp
  show (q.x.mul ⟨2 ^ m, 0, 0, 0, 0⟩).least = _
  rw [e, least_ups _ _ (Int.le_refl _)]
  exact least_odd _ rfl
theorem norm_bot (p : Nr) : p.norm * Nr.ofInt (2 ^ p.bot) = Nr.ofInt p.top := rat_mul (norm_form p).1
theorem ofInt_inj {i j : Int} (h : Nr.ofInt i = Nr.ofInt j) : i = j := by
  have : (Nr.ofInt i).x.a = (Nr.ofInt j).x.a := by rw [h]
  exact this
theorem nr_cancel {t : Int} (ht : t ≠ 0) {p q : Nr} (h : p * Nr.ofInt t = q * Nr.ofInt t) : p = q := by
  obtain ⟨N, h1, h2, _⟩ := lvl3 p q q
  refine Nr.lv N ?_
  have e : Lv (N + 0) (p * Nr.ofInt t).x = Lv (N + 0) (q * Nr.ofInt t).x := by rw [h]
  rw [Nr.lv_mul _ _ h1 (Int.le_refl _), Nr.lv_mul _ _ h2 (Int.le_refl _)] at e
  have k1 := Lv_k p.k0 h1
  have k2 := Lv_k q.k0 h2
  generalize Lv N p.x = u at *
  generalize Lv N q.x = v at *
  have f : ∀ w : Nu, w.mul (Lv 0 (Nr.ofInt t).x) = ⟨w.a * t, w.b * t, w.c * t, w.d * t, w.k⟩ := fun w => by
    show w.mul ⟨t, 0, 0, 0, 0⟩ = _
    apply nu_ext <;> unfold Nu.mul <;> simp
  rw [f, f] at e
  have c : ∀ i j : Int, i * t = j * t → i = j := fun i j h => Int.eq_of_mul_eq_mul_right ht h
  injection e with e1 e2 e3 e4 e5
  exact nu_ext (c _ _ e1) (c _ _ e2) (c _ _ e3) (c _ _ e4) (by omega)
/-! ### what an odd number divides -/
def Dv (o : Int) (x : Nu) : Prop := o ∣ x.a ∧ o ∣ x.b ∧ o ∣ x.c ∧ o ∣ x.d
theorem odd_dvd {o a : Int} (ho : o % 2 = 1) (h : o ∣ 2 * a) : o ∣ a := by
  obtain ⟨q, e⟩ := h
  obtain ⟨s, rfl⟩ : ∃ s, o = 2 * s + 1 := ⟨o / 2, by omega⟩
  have e2 : (2 * s + 1) * q = 2 * (s * q) + q := by grind
  refine ⟨q / 2, ?_⟩
  have : q = 2 * (q / 2) := by omega
  have e3 : 2 * a = 2 * ((2 * s + 1) * (q / 2)) := by
    rw [e]
    generalize q / 2 = w at this
    subst this
    grind
  omega
theorem odd_dvd_pow {o a : Int} (ho : o % 2 = 1) : ∀ m : Nat, o ∣ a * 2 ^ m → o ∣ a
  | 0, h => by simpa using h
  | m + 1, h => by
    refine odd_dvd_pow ho m (odd_dvd ho ?_)
    rw [Int.pow_succ] at h
    have : 2 * (a * 2 ^ m) = a * (2 ^ m * 2) := by grind
    rw [this]; exact h
theorem dv_up {o : Int} {x : Nu} (h : Dv o x) : Dv o x.up := by
  obtain ⟨h1, h2, h3, h4⟩ := h
  exact ⟨Int.dvd_sub h2 h4, Int.dvd_add h1 h3, Int.dvd_add h2 h4, Int.dvd_sub h3 h1⟩
theorem dv_down {o : Int} {x : Nu} (ho : o % 2 = 1) (h : Dv o x.up) : Dv o x := by
  obtain ⟨h1, h2, h3, h4⟩ := h
  have e1 := Int.dvd_sub h2 h4
  have e2 := Int.dvd_add h1 h3
  have e3 := Int.dvd_add h2 h4
  have e4 := Int.dvd_sub h3 h1
  unfold Nu.up at e1 e2 e3 e4
  simp only at e1 e2 e3 e4
  exact ⟨odd_dvd ho (by rw [show 2 * x.a = x.a + x.c - (x.c - x.a) by omega]; exact e1), odd_dvd ho (by rw [show 2 * x.b = x.b - x.d + (x.b + x.d) by omega]; exact e2), odd_dvd ho (by rw [show 2 * x.c = x.a + x.c + (x.c - x.a) by omega]; exact e3), odd_dvd ho (by rw [show 2 * x.d = x.b + x.d - (x.b - x.d) by omega]; exact e4)⟩
theorem dv_ups {o : Int} (ho : o % 2 = 1) : ∀ (n : Nat) (x : Nu), Dv o (ups n x) ↔ Dv o x
  | 0, _ => Iff.rfl
  | n + 1, x => by rw [ups_s, dv_ups ho n]; exact ⟨dv_down ho, dv_up⟩
theorem dv_least {o : Int} (ho : o % 2 = 1) {x : Nu} (h : 0 ≤ x.k) : Dv o x.least ↔ Dv o x := by
  obtain ⟨m, h1, _⟩ := least_spec _ x rfl h
  rw [← dv_ups ho m x.least, h1]
def quoN (o : Int) (c : Nat) (x : Nu) : Nu := ⟨x.a / o, x.b / o, x.c / o, x.d / o, x.k + 2 * c⟩
theorem quo_ok {o : Int} {c : Nat} {x : Nu} (h : 0 ≤ x.k) : okNu (quoN o c x).least = true := okNu_least (by show 0 ≤ x.k + 2 * (c : Int); omega)
theorem quo_mul {o : Int} {c : Nat} {p : Nr} (hd : Dv o p.x) : (⟨(quoN o c p.x).least, quo_ok p.k0⟩ : Nr) * Nr.ofInt (o * 2 ^ c) = p := by
  refine Nr.ext ?_
  have hk : 0 ≤ (quoN o c p.x).k := by have := p.k0; show 0 ≤ p.x.k + 2 * (c : Int); omega
  show ((quoN o c p.x).least.mul ⟨o * 2 ^ c, 0, 0, 0, 0⟩).least = p.x
  rw [times_l hk (Int.le_refl _)]
  have e : (quoN o c p.x).mul ⟨o * 2 ^ c, 0, 0, 0, 0⟩ = ups (2 * c) p.x := by
    rw [ups_2]
    obtain ⟨h1, h2, h3, h4⟩ := hd
    have f : ∀ a : Int, o ∣ a → a / o * (o * 2 ^ c) = a * 2 ^ c := fun a h => by rw [← Int.mul_assoc, Int.ediv_mul_cancel h]
    apply nu_ext <;> unfold quoN Nu.mul <;> simp [f _ h1, f _ h2, f _ h3, f _ h4]
  rw [e, least_ups _ _ p.k0, p.least]
/-- the parts of a power of 2 -/
theorem odd_part : ∀ (n : Nat) (t : Int), 0 < t → t < 2 ^ n → ∃ (o : Int) (c : Nat), t = o * 2 ^ c ∧ o % 2 = 1 ∧ 0 < o ∧ c < n
  | 0, t, h, h2 => by simp at h2; omega
  | n + 1, t, h, h2 => by
    by_cases ho : t % 2 = 1
    · exact ⟨t, 0, by simp, ho, h, by omega⟩
    · obtain ⟨o, c, e, h3, h4, h5⟩ := odd_part n (t / 2) (by omega) (by rw [Int.pow_succ] at h2; omega)
      refine ⟨o, c + 1, ?_, h3, h4, by omega⟩
      rw [Int.pow_succ, ← Int.mul_assoc, ← e]
      omega
theorem odd_one {o : Int} (ho : o % 2 = 1) (h0 : 0 < o) {m : Nat} (h : o ∣ 2 ^ m) : o = 1 := by
  have h1 : o ∣ 1 * 2 ^ m := by rw [Int.one_mul]; exact h
  have := Int.le_of_dvd (by decide) (odd_dvd_pow ho m h1)
  omega
/-- the units -/
theorem unit_top {p z : Nr} (h : p * z = 1) : ∃ m : Nat, p.top ∣ 2 ^ m := by
  have e : p.norm * z.norm = Nr.norm 1 := by rw [← nr_norm_mul, h]
  have e1 : Nr.norm 1 = 1 := Nr.ext rfl
  rw [e1] at e
  have b1 := norm_bot p
  have b2 := norm_bot z
  refine ⟨p.bot + z.bot, ⟨z.top, ofInt_inj ?_⟩⟩
  rw [Int.pow_add, ofInt_mul, ofInt_mul, ← b1, ← b2]
  generalize p.norm = u at *
  generalize z.norm = v at *
  grind
/-- a number of size one is a power of w -/
theorem size_one {x : Nu} (h : okNu x = true) (h2 : (x.mul x.conj).least = ⟨1, 0, 0, 0, 0⟩) : ∃ n : Nat, n < 8 ∧ x.k = 0 ∧ x.a * x.a + x.b * x.b + x.c * x.c + x.d * x.d = 1 := by
  obtain ⟨h0, he⟩ := even_of h
  have hk : 0 ≤ (x.mul x.conj).k := by show 0 ≤ x.k + x.k; omega
  obtain ⟨m, e1, e2, _⟩ := least_spec _ (x.mul x.conj) rfl hk
  rw [h2] at e1 e2
  have e3 : (x.mul x.conj).k = 2 * x.k := by show x.k + x.k = _; omega
  have e4 : m = 2 * x.k.toNat := by
    have : (0 : Int) = (x.mul x.conj).k - m := e2
    omega
  rw [e4, ups_2] at e1
  have ea : (1 : Int) * 2 ^ x.k.toNat = (x.mul x.conj).a := by rw [← e1]
  have eb : (0 : Int) * 2 ^ x.k.toNat = (x.mul x.conj).b := by rw [← e1]
  have ea' : x.a * x.a + x.b * x.b + x.c * x.c + x.d * x.d = 2 ^ x.k.toNat := by
    rw [← Int.one_mul (2 ^ x.k.toNat), ea]
    unfold Nu.mul Nu.conj
    simp only
    grind
  have eb' : x.b * (x.a + x.c) + x.d * (x.c - x.a) = 0 := by
    rw [← Int.zero_mul (2 ^ x.k.toNat), eb]
    unfold Nu.mul Nu.conj
    simp only
    grind
  by_cases hk0 : x.k = 0
  · refine ⟨0, by omega, hk0, ?_⟩
    rw [ea', hk0]; rfl
  · exfalso
    obtain ⟨n, hn⟩ : ∃ n, x.k.toNat = n + 1 := ⟨x.k.toNat - 1, by omega⟩
    rw [hn, Int.pow_succ] at ea'
    have q1 := sq_mod4 x.a
    have q2 := sq_mod4 x.b
    have q3 := sq_mod4 x.c
    have q4 := sq_mod4 x.d
    unfold okNu at h
    simp only [Bool.and_eq_true, Bool.or_eq_true, decide_eq_true_eq, hk0, false_or] at h
    have m1 := mul_par x.b (x.a + x.c)
    have m2 := mul_par x.d (x.c - x.a)
    generalize x.b * (x.a + x.c) = U at *
    generalize x.d * (x.c - x.a) = V at *
    generalize x.a * x.a = A at *
    generalize x.b * x.b = B at *
    generalize x.c * x.c = C at *
    generalize x.d * x.d = D at *
    generalize (2 : Int) ^ n = P at *
    omega
end
end Dl

set_option Elab.async false
set_option linter.all false
set_option maxRecDepth 100000
set_option maxHeartbeats 4000000
namespace Dl
noncomputable section
open PySem PySem.Spec PyProof.Rows L2
@[simp] theorem e_aug {g : D → D → Option D} {i : Nat} {e : Xf} {E : En} : sAug g i e E = match gs E i with
  | some (.im x) => (e E).st fun y E1 => match g x y with
    | some d => if noIo E1 i then .nx (ss E1 i (some (.im d))) else .no
    | none => .no
  | _ => .no := rfl
@[simp] theorem e_augI {g : D → D → Option D} {i : Nat} {ix e : Xf} {E : En} : sAugI g i ix e E = match getL E i with
  | none => .no
  | some _ => (ix E).st fun k E1 => match k with
    | .int k => match getL E1 i with
      | none => .no
      | some ds1 => match gIdx (.list ds1) (.int k) with
        | none => .no
        | some x => (e E1).st fun y E2 => match g x y with
          | none => .no
          | some d => match getL E2 i with
            | none => .no
            | some ds => match ixN ds.length k with
              | some j => .nx (setL E2 i (ds.set j d))
              | none => .no
    | _ => .no := rfl
@[simp] theorem g_augI {u v : Int} : gAugAdd (.int u) (.int v) = some (.int (u + v)) := rfl
/-! ### loops by what stays true -/
theorem wh_inv {α : Type} {f : α → En} {t : Xb} {bd : Sf} {P : α → Bool} {g : α → α} {I : α → Prop} {μ : α → Nat}
    (ht : ∀ x, I x → t (f x) = .ok (P x) (f x)) (hb : ∀ x, I x → P x = true → bd (f x) = .nx (f (g x)) ∧ I (g x) ∧ μ (g x) < μ x) :
    ∀ (m : Nat) (x : α), I x → μ x < m → ∃ y, whL t bd m (f x) = .nx (f y) ∧ I y ∧ P y = false
  | 0, x, _, h => absurd h (Nat.not_lt_zero _)
  | m + 1, x, hi, h => by
    unfold whL
    rw [ht x hi]
    cases e : P x with
    | false => exact ⟨x, rfl, hi, e⟩
    | true =>
      obtain ⟨h1, h2, h3⟩ := hb x hi e
      show ∃ y, (match bd (f x) with | .nx E2 => whL t bd m E2 | .ct E2 => whL t bd m E2 | .bk E2 => Rt.nx E2 | o => o) = .nx (f y) ∧ _
      rw [h1]
      exact wh_inv ht hb m (g x) h2 (by omega)
theorem for_brkI {α : Type} {f : α → Option Int → En} {tg : D → En → Option En} {bd : Sf} {P : α → Bool} {g : α → α} {I : α → Prop} {μ : α → Nat}
    (ht : ∀ x o j, tg (.int j) (f x o) = some (f x (some j))) (h1 : ∀ x j, I x → P x = true → bd (f x (some j)) = .bk (f x (some j)))
    (h2 : ∀ x j, I x → P x = false → bd (f x (some j)) = .nx (f (g x) (some j)) ∧ I (g x) ∧ μ (g x) < μ x) :
    ∀ (n : Nat) (lo : Int) (x : α) (o : Option Int), I x → μ x < n → ∃ y o', forL tg bd (rgD lo n) (f x o) = .nx (f y o') ∧ I y ∧ P y = true
  | 0, _, x, _, _, h => absurd h (Nat.not_lt_zero _)
  | n + 1, lo, x, o, hi, h => by
    rw [rgD_succ, e_for1, ht]
    dsimp only
    cases e : P x with
    | true =>
      rw [h1 x lo hi e]
      exact ⟨x, some lo, rfl, hi, e⟩
    | false =>
      obtain ⟨k1, k2, k3⟩ := h2 x lo hi e
      rw [k1]
      exact for_brkI ht h1 h2 n (lo + 1) (g x) (some lo) k2 (by omega)
theorem nu_iff (x y : Nu) : (x.a = y.a ∧ x.b = y.b ∧ x.c = y.c ∧ x.d = y.d ∧ x.k = y.k) ↔ x = y :=
  ⟨fun h => nu_ext h.1 h.2.1 h.2.2.1 h.2.2.2.1 h.2.2.2.2, fun h => by subst h; exact ⟨rfl, rfl, rfl, rfl, rfl⟩⟩
instance : DecidableEq Nu := fun x y => decidable_of_iff _ (nu_iff x y)
theorem eqv_nu2 (x y : Nu) : PyData.eqv x.D y.D = decide (x = y) := by
  rw [PyData.eqv.eq_def]
  simp only [PyData.eqvAll, eqv_int, Bool.and_true]
  rw [Bool.eq_iff_iff]
  simp only [Bool.and_eq_true, decide_eq_true_eq]
  exact nu_iff x y
theorem g_eqN2 (x y : Nu) : gEq x.D y.D = some (.bool (decide (x = y))) := by
  show (if (SeqAt.shaped x.D && SeqAt.shaped y.D) = true then _ else _) = _
  rw [eqv_nu2]; rfl
theorem g_neN2 (x y : Nu) : gNe x.D y.D = some (.bool (!decide (x = y))) := by
  show (if (SeqAt.shaped x.D && SeqAt.shaped y.D) = true then _ else _) = _
  rw [eqv_nu2]; rfl
/-! ### sizes -/
def Sz (A : Nat) (K : Int) (x : Nu) : Prop := x.a.natAbs < 2 ^ A ∧ x.b.natAbs < 2 ^ A ∧ x.c.natAbs < 2 ^ A ∧ x.d.natAbs < 2 ^ A ∧ x.k ≤ K
theorem Sz.mono {A B : Nat} {K L : Int} {x : Nu} (h : Sz A K x) (h1 : A ≤ B) (h2 : K ≤ L) : Sz B L x := by
  have p : 2 ^ A ≤ 2 ^ B := Nat.pow_le_pow_right (by decide) h1
  obtain ⟨a, b, c, d, k⟩ := h
  exact ⟨by omega, by omega, by omega, by omega, by omega⟩
theorem mok_sz {u v : Int} {A B : Nat} (hu : u.natAbs < 2 ^ A) (hv : v.natAbs < 2 ^ B) (h : A + B ≤ 100000000) : mulOk u v = true := by
  unfold mulOk
  by_cases u0 : u.natAbs = 0
  · rw [u0, decide_eq_true (show 0 < 2 ^ 63 by decide)]; rfl
  · by_cases v0 : v.natAbs = 0
    · rw [v0, decide_eq_true (show 0 < 2 ^ 63 by decide), Bool.or_true]; rfl
    · have h1 := (Nat.log2_lt u0).mpr hu
      have h2 := (Nat.log2_lt v0).mpr hv
      rw [decide_eq_true (show u.natAbs.log2 + v.natAbs.log2 < 100000000 by omega), Bool.or_true]
theorem nat_mul_lt {u v : Int} {A B : Nat} (hu : u.natAbs < 2 ^ A) (hv : v.natAbs < 2 ^ B) : (u * v).natAbs < 2 ^ (A + B) := by
  rw [Int.natAbs_mul, Nat.pow_add]
  exact Nat.mul_lt_mul'' hu hv
theorem Sz_mul {A B : Nat} {K L : Int} {x y : Nu} (hx : Sz A K x) (hy : Sz B L y) : Sz (A + B + 2) (K + L) (x.mul y) := by
  obtain ⟨x1, x2, x3, x4, x5⟩ := hx
  obtain ⟨y1, y2, y3, y4, y5⟩ := hy
  have p : 2 ^ (A + B + 2) = 4 * 2 ^ (A + B) := by rw [Nat.pow_add]; omega
  have g : ∀ s t u v : Int, s.natAbs < 2 ^ (A + B) → t.natAbs < 2 ^ (A + B) → u.natAbs < 2 ^ (A + B) → v.natAbs < 2 ^ (A + B) → (s - t - u - v).natAbs < 2 ^ (A + B + 2) ∧ (s + t - u - v).natAbs < 2 ^ (A + B + 2) ∧ (s + t + u - v).natAbs < 2 ^ (A + B + 2) ∧ (s + t + u + v).natAbs < 2 ^ (A + B + 2) := by
    intro s t u v h1 h2 h3 h4
    rw [p]
    exact ⟨by omega, by omega, by omega, by omega⟩
  refine ⟨?_, ?_, ?_, ?_, ?_⟩
  · exact (g _ _ _ _ (nat_mul_lt x1 y1) (nat_mul_lt x2 y4) (nat_mul_lt x3 y3) (nat_mul_lt x4 y2)).1
  · exact (g _ _ _ _ (nat_mul_lt x1 y2) (nat_mul_lt x2 y1) (nat_mul_lt x3 y4) (nat_mul_lt x4 y3)).2.1
  · exact (g _ _ _ _ (nat_mul_lt x1 y3) (nat_mul_lt x2 y2) (nat_mul_lt x3 y1) (nat_mul_lt x4 y4)).2.2.1
  · exact (g _ _ _ _ (nat_mul_lt x1 y4) (nat_mul_lt x2 y3) (nat_mul_lt x3 y2) (nat_mul_lt x4 y1)).2.2.2
  · show x.k + y.k ≤ K + L
    omega
theorem Sz_least {A : Nat} {K : Int} {x : Nu} (h0 : 0 ≤ x.k) (h : Sz A K x) : Sz A K x.least := by
  obtain ⟨a, b, c, d, k⟩ := h
  have hp : 0 < 2 ^ A := Nat.pow_pos (by decide)
  obtain ⟨q1, q2, q3, q4⟩ := Bd_least (B := 2 ^ A - 1) (x := x) ⟨by omega, by omega, by omega, by omega⟩
  have q5 := (least_k h0).2.1
  exact ⟨by omega, by omega, by omega, by omega, by omega⟩
theorem Sz_times {A B : Nat} {K L : Int} {x y : Nu} (hx0 : 0 ≤ x.k) (hy0 : 0 ≤ y.k) (hx : Sz A K x) (hy : Sz B L y) : Sz (A + B + 2) (K + L) (x.times y) := Sz_least (by show 0 ≤ x.k + y.k; omega) (Sz_mul hx hy)
theorem Sz_conj {A : Nat} {K : Int} {x : Nu} (h : Sz A K x) : Sz A K x.conj := by
  obtain ⟨a, b, c, d, k⟩ := h
  exact ⟨a, by show (-x.d).natAbs < _; omega, by show (-x.c).natAbs < _; omega, by show (-x.b).natAbs < _; omega, k⟩
theorem Sz_neg {A : Nat} {K : Int} {x : Nu} (h : Sz A K x) : Sz A K x.neg := by
  obtain ⟨a, b, c, d, k⟩ := h
  exact ⟨by show (-x.a).natAbs < _; omega, by show (-x.b).natAbs < _; omega, by show (-x.c).natAbs < _; omega, by show (-x.d).natAbs < _; omega, k⟩
theorem Sz_tw {A : Nat} {K : Int} {x : Nu} (h : Sz A K x) : Sz A K x.tw := by
  obtain ⟨a, b, c, d, k⟩ := h
  unfold Nu.tw
  split
  · exact ⟨by show (-x.a).natAbs < _; omega, b, by show (-x.c).natAbs < _; omega, d, k⟩
  · exact ⟨a, by show (-x.b).natAbs < _; omega, c, by show (-x.d).natAbs < _; omega, k⟩
theorem g_fdivB {u v : Int} {n : Nat} (h : 0 < v) (h2 : v.natAbs < 2 ^ n) (hn : n ≤ 9000) : gFdiv (.int u) (.int v) = some (.int (u / v)) := by
  have h3 : v.natAbs.log2 < 9000 := by
    have := (Nat.log2_lt (k := n) (show v.natAbs ≠ 0 by omega)).mpr h2
    omega
  show (if (decide (0 < v) && decide (v.natAbs.log2 < 9000)) = true then _ else _) = _
  rw [decide_eq_true h, decide_eq_true h3]; rfl
end
end Dl

set_option Elab.async false
set_option linter.all false
set_option maxRecDepth 100000
set_option maxHeartbeats 4000000
namespace Dl
noncomputable section
open PySem PySem.Spec PyProof.Rows L2
/-! ### reals -/
theorem irr : ∀ (n : Nat) (a b : Int), a.natAbs ≤ n → a * a = 2 * b * b → a = 0 ∧ b = 0
  | 0, a, b, h, e => by
    have ha : a = 0 := by omega
    subst ha
    have : b * b = 0 := by grind
    rcases Int.mul_eq_zero.mp this with h | h <;> exact ⟨rfl, h⟩
  | n + 1, a, b, h, e => by
    have pa := sq_mod4 a
    have pb := sq_mod4 b
    have ea : a % 2 = 0 := by
      have e' : a * a = 2 * (b * b) := by grind
      generalize a * a = A at *
      omega
    obtain ⟨c, rfl⟩ : ∃ c, a = 2 * c := ⟨a / 2, by omega⟩
    have eb : b * b = 2 * c * c := by grind
    by_cases hc : c = 0
    · subst hc
      have : b * b = 0 := by grind
      rcases Int.mul_eq_zero.mp this with h | h <;> exact ⟨rfl, h⟩
    · have pc := sq_mod4 c
      have eb2 : b % 2 = 0 := by
        have e' : b * b = 2 * (c * c) := by grind
        generalize b * b = B at *
        omega
      obtain ⟨d, rfl⟩ : ∃ d, b = 2 * d := ⟨b / 2, by omega⟩
      have ec : c * c = 2 * d * d := by grind
      obtain ⟨h1, h2⟩ := irr n c d (by omega) ec
      exact ⟨by omega, by omega⟩
/-- the sign of a + b r -/
def sg (a b : Int) : Int := if 0 ≤ a ∧ 0 ≤ b then (if 0 < a + b then 1 else 0) else if a ≤ 0 ∧ b ≤ 0 then -1 else if decide (2 * b * b < a * a) = decide (0 < a) then 1 else -1
theorem sg_up (a b : Int) : sg (2 * b) a = sg a b := by
  unfold sg
  by_cases h1 : 0 ≤ a ∧ 0 ≤ b
  · rw [if_pos (by omega), if_pos h1]
    by_cases h2 : 0 < a + b
    · rw [if_pos h2, if_pos (by omega)]
    · rw [if_neg h2, if_neg (by omega)]
  · rw [if_neg (by omega), if_neg h1]
    by_cases h2 : a ≤ 0 ∧ b ≤ 0
    · rw [if_pos (by omega), if_pos h2]
    · rw [if_neg (by omega), if_neg h2]
      have e1 : 2 * b * (2 * b) = 2 * (2 * b * b) := by grind
      have e2 : 2 * a * a = 2 * (a * a) := by grind
      have ne : a * a ≠ 2 * b * b := fun e => by
        obtain ⟨h, h'⟩ := irr _ a b (Nat.le_refl _) e
        omega
      rw [e1, e2]
      by_cases ha : 0 < a
      · have hb : ¬ 0 < 2 * b := by omega
        rw [decide_eq_true ha, decide_eq_false hb]
        by_cases hs : 2 * b * b < a * a
        · rw [decide_eq_true hs, decide_eq_false (by omega)]; rfl
        · rw [decide_eq_false hs, decide_eq_true (by omega)]; rfl
      · have hb : 0 < 2 * b := by omega
        rw [decide_eq_false ha, decide_eq_true hb]
        by_cases hs : 2 * b * b < a * a
        · rw [decide_eq_true hs, decide_eq_false (by omega)]; rfl
        · rw [decide_eq_false hs, decide_eq_true (by omega)]; rfl
def Rl (x : Nu) : Prop := x.c = 0 ∧ x.d = -x.b
theorem rl_up {x : Nu} (h : Rl x) : x.up = ⟨2 * x.b, x.a, 0, -x.a, x.k + 1⟩ := by
  obtain ⟨h1, h2⟩ := h
  apply nu_ext <;> unfold Nu.up <;> simp only [h1, h2] <;> omega
theorem rl_ups : ∀ (n : Nat) {x : Nu}, Rl x → Rl (ups n x) ∧ sg (ups n x).a (ups n x).b = sg x.a x.b
  | 0, _, h => ⟨h, rfl⟩
  | n + 1, x, h => by
    rw [ups_s]
    have e := rl_up h
    have hr : Rl x.up := by rw [e]; exact ⟨rfl, rfl⟩
    obtain ⟨h1, h2⟩ := rl_ups n hr
    refine ⟨h1, h2.trans ?_⟩
    rw [e]
    exact sg_up _ _
theorem rl_of_up {x : Nu} (h : Rl x.up) : Rl x := by
  obtain ⟨h1, h2⟩ := h
  unfold Nu.up at h1 h2
  simp only at h1 h2
  exact ⟨by omega, by omega⟩
theorem rl_of_ups : ∀ (n : Nat) {x : Nu}, Rl (ups n x) → Rl x
  | 0, _, h => h
  | n + 1, x, h => rl_of_up (rl_of_ups n (x := x.up) h)
theorem rl_least {x : Nu} (h0 : 0 ≤ x.k) (h : Rl x) : Rl x.least ∧ sg x.least.a x.least.b = sg x.a x.b := by
  obtain ⟨m, h1, _⟩ := least_spec _ x rfl h0
  have hr : Rl x.least := rl_of_ups m (by rw [h1]; exact h)
  refine ⟨hr, ?_⟩
  have := (rl_ups m hr).2
  rw [h1] at this
  exact this.symm
/-- a real less a whole number -/
theorem sg_less {x : Nu} (h0 : 0 ≤ x.k) (h : Rl x) (w : Int) : Rl (x.plus ⟨-w, 0, 0, 0, 0⟩) ∧ sg (x.plus ⟨-w, 0, 0, 0, 0⟩).a (x.plus ⟨-w, 0, 0, 0, 0⟩).b =
    if x.k % 2 = 1 then sg (2 * x.b - w * 2 ^ ((x.k + 1) / 2).toNat) x.a else sg (x.a - w * 2 ^ (x.k / 2).toNat) x.b := by
  have em : mx x ⟨-w, 0, 0, 0, 0⟩ = x.k.toNat := by unfold mx; simp only; omega
  have ep : x.plus ⟨-w, 0, 0, 0, 0⟩ = (x.add (ups x.k.toNat ⟨-w, 0, 0, 0, 0⟩)).least := by
    unfold Nu.plus
    rw [em, Lv_self rfl]
    rfl
  have hk : 0 ≤ (x.add (ups x.k.toNat ⟨-w, 0, 0, 0, 0⟩)).k := h0
  by_cases ho : x.k % 2 = 1
  · rw [if_pos ho]
    obtain ⟨m, hm⟩ : ∃ m : Nat, x.k.toNat = 2 * m + 1 := ⟨(x.k / 2).toNat, by omega⟩
    have e1 : ups x.k.toNat ⟨-w, 0, 0, 0, 0⟩ = ⟨0, -(w * 2 ^ m), 0, w * 2 ^ m, x.k⟩ := by
      rw [hm, ups_s]
      have : Nu.up ⟨-w, 0, 0, 0, 0⟩ = ⟨0, -w, 0, w, 1⟩ := by apply nu_ext <;> unfold Nu.up <;> simp
      rw [this, ups_2]
      apply nu_ext <;> simp
      · exact Int.neg_mul _ _
      · omega
    have hr : Rl (x.add (ups x.k.toNat ⟨-w, 0, 0, 0, 0⟩)) := by
      rw [e1]
      obtain ⟨h1, h2⟩ := h
      exact ⟨by show x.c + 0 = 0; omega, by show x.d + w * 2 ^ m = -(x.b + -(w * 2 ^ m)); omega⟩
    obtain ⟨r1, r2⟩ := rl_least hk hr
    rw [ep]
    refine ⟨r1, r2.trans ?_⟩
    rw [e1]
    show sg (x.a + 0) (x.b + -(w * 2 ^ m)) = _
    have e2 : ((x.k + 1) / 2).toNat = m + 1 := by omega
    rw [e2, ← sg_up, Int.pow_succ, Int.add_zero]
    congr 1
    grind
  · rw [if_neg ho]
    obtain ⟨m, hm⟩ : ∃ m : Nat, x.k.toNat = 2 * m := ⟨(x.k / 2).toNat, by omega⟩
    have e1 : ups x.k.toNat ⟨-w, 0, 0, 0, 0⟩ = ⟨-(w * 2 ^ m), 0, 0, 0, x.k⟩ := by
      rw [hm, ups_2]
      apply nu_ext <;> simp
      · exact Int.neg_mul _ _
      · omega
    have hr : Rl (x.add (ups x.k.toNat ⟨-w, 0, 0, 0, 0⟩)) := by
      rw [e1]
      obtain ⟨h1, h2⟩ := h
      exact ⟨by show x.c + 0 = 0; omega, by show x.d + 0 = -(x.b + 0); omega⟩
    obtain ⟨r1, r2⟩ := rl_least hk hr
    rw [ep]
    refine ⟨r1, r2.trans ?_⟩
    rw [e1]
    show sg (x.a + -(w * 2 ^ m)) (x.b + 0) = _
    have e2 : (x.k / 2).toNat = m := by omega
    rw [e2, Int.add_zero]
    rfl
/-! ### roots of whole numbers -/
def IsRt (n r : Int) : Prop := 0 ≤ r ∧ r * r ≤ n ∧ n < (r + 1) * (r + 1)
theorem sq_lt {u v : Int} (hv : 0 ≤ v) (h : u * u < v * v) : u < v := by
  rcases Int.lt_or_le u v with h1 | h1
  · exact h1
  · have := Int.mul_le_mul h1 h1 hv (by omega)
    omega
theorem IsRt.uniq {n r s : Int} (h : IsRt n r) (h' : IsRt n s) : r = s := by
  obtain ⟨a, b, c⟩ := h
  obtain ⟨a', b', c'⟩ := h'
  have h1 := sq_lt (u := r) (v := s + 1) (by omega) (by omega)
  have h2 := sq_lt (u := s) (v := r + 1) (by omega) (by omega)
  omega
theorem IsRt.le {n r f : Int} (h : IsRt n r) (hf : 0 ≤ f) (h2 : n < (f + 1) * (f + 1)) : r ≤ f := by
  have := sq_lt (u := r) (v := f + 1) (by omega) (by have := h.2.1; omega)
  omega
theorem rt_ex : ∀ (n : Nat), ∃ r, IsRt n r
  | 0 => ⟨0, by decide, by decide, by decide⟩
  | n + 1 => by
    obtain ⟨r, h1, h2, h3⟩ := rt_ex n
    by_cases h : ((n + 1 : Nat) : Int) < (r + 1) * (r + 1)
    · exact ⟨r, h1, by omega, h⟩
    · refine ⟨r + 1, by omega, by omega, ?_⟩
      have : (r + 1 + 1) * (r + 1 + 1) = (r + 1) * (r + 1) + 2 * (r + 1) + 1 := by grind
      omega
/-- a step toward the root -/
theorem rt_step {n r f : Int} (h : IsRt n r) (hf : r < f) : r ≤ (f + n / f) / 2 ∧ (f + n / f) / 2 - r ≤ (f - r) / 2 := by
  obtain ⟨a, b, c⟩ := h
  have f0 : 0 < f := by omega
  have h1 : 2 * r - f ≤ n / f := by
    refine (Int.le_ediv_iff_mul_le f0).mpr ?_
    have e : (2 * r - f) * f = r * r - (f - r) * (f - r) := by grind
    have : 0 ≤ (f - r) * (f - r) := Int.mul_nonneg (by omega) (by omega)
    omega
  have h2 : n / f < r + 1 := by
    refine Int.ediv_lt_of_lt_mul f0 ?_
    have := Int.mul_le_mul_of_nonneg_left (show r + 1 ≤ f by omega) (show 0 ≤ r + 1 by omega)
    omega
  generalize n / f = q at *
  omega
theorem rt_stop {n r : Int} (h : IsRt n r) (hr : 0 < r) : r ≤ (r + n / r) / 2 := by
  have h1 : r ≤ n / r := (Int.le_ediv_iff_mul_le hr).mpr h.2.1
  generalize n / r = q at *
  omega
/-- the greatest whole number below b r -/
def fr (r b : Int) : Int := if 0 ≤ b then r else -r - 1
theorem sq_le {u v : Int} (h1 : 0 ≤ u) (h : u ≤ v) : u * u ≤ v * v := Int.mul_le_mul h h h1 (by omega)
theorem sg_floor {A B r w D : Int} (hD : 0 < D) (h : IsRt (2 * B * B) r) (hw : w = (A + fr r B) / D) : ¬ sg (A - w * D) B < 0 ∧ sg (A - (w + 1) * D) B < 0 := by
  have d1 : w * D ≤ A + fr r B := by rw [hw]; exact Int.ediv_mul_le _ (by omega)
  have d2 : A + fr r B < (w + 1) * D := by
    rw [hw]
    exact Int.lt_ediv_add_one_mul_self _ hD
  generalize w * D = U at *
  generalize (w + 1) * D = V at *
  obtain ⟨h1, h2, h3⟩ := h
  unfold fr at d1 d2
  by_cases hB : 0 ≤ B
  · rw [if_pos hB] at d1 d2
    constructor
    · unfold sg
      by_cases hu : 0 ≤ A - U
      · rw [if_pos ⟨hu, hB⟩]
        split <;> decide
      · rw [if_neg (by omega)]
        by_cases hb0 : B = 0
        · exfalso
          subst hb0
          have : ¬ 1 ≤ r := fun h => by have := sq_le (u := 1) (v := r) (by decide) h; omega
          omega
        · rw [if_neg (by omega)]
          have := sq_le (u := -(A - U)) (v := r) (by omega) (by omega)
          rw [Int.neg_mul_neg] at this
          rw [decide_eq_false (show ¬ 2 * B * B < (A - U) * (A - U) by omega), decide_eq_false (show ¬ 0 < A - U by omega)]
          decide
    · unfold sg
      rw [if_neg (by omega)]
      by_cases hb0 : B ≤ 0
      · rw [if_pos (by omega)]; decide
      · rw [if_neg (by omega)]
        have := sq_le (u := r + 1) (v := -(A - V)) (by omega) (by omega)
        rw [Int.neg_mul_neg] at this
        rw [decide_eq_true (show 2 * B * B < (A - V) * (A - V) by omega), decide_eq_false (show ¬ 0 < A - V by omega)]
        decide
  · rw [if_neg hB] at d1 d2
    constructor
    · unfold sg
      rw [if_neg (by omega), if_neg (by omega)]
      have := sq_le (u := r + 1) (v := A - U) (by omega) (by omega)
      rw [decide_eq_true (show 2 * B * B < (A - U) * (A - U) by omega), decide_eq_true (show 0 < A - U by omega)]
      decide
    · unfold sg
      rw [if_neg (by omega)]
      by_cases hv : A - V ≤ 0
      · rw [if_pos (by omega)]; decide
      · rw [if_neg (by omega)]
        have := sq_le (u := A - V) (v := r) (by omega) (by omega)
        rw [decide_eq_false (show ¬ 2 * B * B < (A - V) * (A - V) by omega), decide_eq_true (show 0 < A - V by omega)]
        decide
/-! ### conjugates of sums -/
theorem nr_conj_add (p q : Nr) : (p + q).conj = p.conj + q.conj := by
  obtain ⟨N, h1, h2, _⟩ := lvl3 p q q
  have a := Nr.add_k p q
  have e : ∀ z : Nr, Lv N z.conj.x = (Lv N z.x).conj := fun z => (ups_conj _ _).symm
  refine Nr.lv N ?_
  rw [Nr.lv_add _ _ (show p.conj.x.k ≤ N from h1) (show q.conj.x.k ≤ N from h2), e, e, e, Nr.lv_add _ _ h1 h2]
  apply nu_ext <;> unfold Nu.add Nu.conj <;> simp only <;> omega
theorem nr_conj_neg (p : Nr) : (-p).conj = -p.conj := Nr.ext (by
  show p.x.neg.conj = p.x.conj.neg
  apply nu_ext <;> unfold Nu.neg Nu.conj <;> simp)
theorem rl_iff {p : Nr} : Rl p.x ↔ p.conj = p := by
  constructor
  · rintro ⟨h1, h2⟩
    refine Nr.ext ?_
    show p.x.conj = p.x
    apply nu_ext <;> unfold Nu.conj <;> simp only <;> omega
  · intro h
    have e : p.x.conj = p.x := congrArg Nr.x h
    unfold Nu.conj at e
    have e1 : -p.x.d = p.x.b := congrArg Nu.b e
    have e2 : -p.x.c = p.x.c := congrArg Nu.c e
    exact ⟨by omega, by omega⟩
def halfN : Nr := ⟨⟨1, 0, 0, 0, 2⟩, rfl⟩
def mihN : Nr := ⟨⟨0, 0, -1, 0, 2⟩, rfl⟩
def iN : Nr := ⟨⟨0, 0, 1, 0, 0⟩, rfl⟩
theorem half_two : halfN + halfN = 1 := Nr.ext rfl
theorem i_mih : iN * mihN = halfN := Nr.ext rfl
def Nr.re (p : Nr) : Nr := (p + p.conj) * halfN
def Nr.im (p : Nr) : Nr := (p + -p.conj) * mihN
theorem re_conj (p : Nr) : p.re.conj = p.re := by
  have e : halfN.conj = halfN := Nr.ext rfl
  unfold Nr.re
  rw [nr_conj_mul, nr_conj_add, nr_conj_conj, e, nr_add_comm]
theorem im_conj (p : Nr) : p.im.conj = p.im := by
  have e : mihN.conj = -mihN := Nr.ext rfl
  unfold Nr.im
  rw [nr_conj_mul, nr_conj_add, nr_conj_neg, nr_conj_conj, e]
  grind
theorem re_im (p : Nr) : p.re + iN * p.im = p := by
  have h1 := half_two
  have h2 := i_mih
  unfold Nr.re Nr.im
  generalize p.conj = q at *
  generalize halfN = h at *
  generalize mihN = m at *
  generalize iN = i at *
  grind
theorem re_re (p : Nr) : p.re + p.re = p + p.conj := by
  have h1 := half_two
  unfold Nr.re
  generalize p.conj = q at *
  generalize halfN = h at *
  grind
/-! ### loops that return -/
theorem wh_rt {α : Type} {f : α → En} {t : Xb} {bd : Sf} {I : α → Prop} {μ : α → Nat} {Po : Sl → En → Prop} (ht : ∀ x, I x → t (f x) = .ok true (f x))
    (hb : ∀ x, I x → (∃ r E', bd (f x) = .rt r E' ∧ Po r E') ∨ ∃ y, bd (f x) = .nx (f y) ∧ I y ∧ μ y < μ x) : ∀ (m : Nat) (x : α), I x → μ x < m → ∃ r E', whL t bd m (f x) = .rt r E' ∧ Po r E'
  | 0, x, _, h => absurd h (Nat.not_lt_zero _)
  | m + 1, x, hi, h => by
    unfold whL
    rw [ht x hi]
    show ∃ r E', (match bd (f x) with | .nx E2 => whL t bd m E2 | .ct E2 => whL t bd m E2 | .bk E2 => Rt.nx E2 | o => o) = .rt r E' ∧ _
    rcases hb x hi with ⟨r, E', h1, h2⟩ | ⟨y, h1, h2, h3⟩
    · rw [h1]; exact ⟨r, E', rfl, h2⟩
    · rw [h1]; exact wh_rt ht hb m y h2 (by omega)
end
end Dl

set_option Elab.async false
set_option linter.all false
set_option maxRecDepth 100000
set_option maxHeartbeats 0
namespace K02
noncomputable section
open PySem PySem.Spec PyProof.Rows L2 Dl
def st (i : Nat) : Stmt := PySem.Challenge.pw_turnsexact_k02_reals.main.body.getD i (.Pass ⟨0, 0, 0, 0⟩)
def BLT : List Str := ["isinstance", "int", "bool", "tuple", "list", "str", "len", "all", "range", "max", "abs"]
def EXS : List Str := ["InvalidNumber", "InvalidReal"]
def SUBS : List (Str × Str) := [("InvalidNumber", "InvalidNumber"), ("InvalidReal", "InvalidReal")]
def v_HALF : D := (PyData.tuple [(PyData.int 1), (PyData.int 0), (PyData.int 0), (PyData.int 0), (PyData.int 2)])
def v_OTHER_HALF : D := (PyData.tuple [(PyData.int 0), (PyData.int 0), (PyData.int (-1)), (PyData.int 0), (PyData.int 2)])
def n_is_integer : List Str := ["value"]
def g_is_integer : Cfg := { N := n_is_integer, sc := defScope (st 5), fns := [], glo := [], blt := BLT, exs := [], subs := [], k := 0, fu := 1048576 }
def b_is_integer : Sf := (sRet (xF (xAnd (xOp1 (gIsi Ty.int) (Bo.v 0)) (xNt (Bo.e (xOp1 (gIsi Ty.bool) (Bo.v 0)))))))
def F_is_integer : Fn := runF 1 1 b_is_integer
theorem o_is_integer : DefOk g_is_integer (st 5) "is_integer" ["value"] b_is_integer := defOk_of (m := more3) rfl rfl rfl ⟨by kernel_rfl, by kernel_rfl, by kernel_rfl, by show List.Nodup n_is_integer; decide +kernel, by kernel_rfl, by decide +kernel, by decide +kernel⟩ (by kernel_rfl) (by kernel_rfl) (by kernel_rfl)
def d_is_integer : Fd := ⟨"is_integer", ["value"], [false], F_is_integer⟩
def n_is_row : List Str := ["value", "size"]
def g_is_row : Cfg := { N := n_is_row, sc := defScope (st 6), fns := [], glo := [], blt := BLT, exs := [], subs := [], k := 0, fu := 1048576 }
def b_is_row : Sf := (sRet (xF (xAnd (xOp1 (gIsi Ty.tuple) (Bo.v 0)) (xOp2 gEq (Bo.e (xOp1 gLen (Bo.v 0))) (Bo.v 1)))))
def F_is_row : Fn := runF 2 2 b_is_row
theorem o_is_row : DefOk g_is_row (st 6) "is_row" ["value", "size"] b_is_row := defOk_of (m := more3) rfl rfl rfl ⟨by kernel_rfl, by kernel_rfl, by kernel_rfl, by show List.Nodup n_is_row; decide +kernel, by kernel_rfl, by decide +kernel, by decide +kernel⟩ (by kernel_rfl) (by kernel_rfl) (by kernel_rfl)
def d_is_row : Fd := ⟨"is_row", ["value", "size"], [false, false], F_is_row⟩
def n_is_ring : List Str := ["value", "a", "b", "c", "d", "k", "part"]
def g_is_ring : Cfg := { N := n_is_ring, sc := defScope (st 7), fns := [d_is_integer, d_is_row], glo := [], blt := BLT, exs := [], subs := [], k := 1, fu := 1048576 }
abbrev e_is_ring_1 : Xf := (xD (xCall F_is_integer [(Ar.e (xV 6))]))
def b_is_ring : Sf := (sSeq (sIf (xbOr (xbNot (xbT (Bo.e (xD (xCall F_is_row [(Ar.e (xV 0)), (Ar.e (xC (PyData.int 5)))]))))) (xbOr (xbNot (xbT (Bo.e (xOp1 gAll (Bo.e (xD (xLc (xiSeq (xV 0)) (tgN 6) xbYes e_is_ring_1 [6]))))))) (xbV (xOp2 gLt (Bo.e (xOp2 gIdx (Bo.v 0) (Bo.e (xC (PyData.int 4))))) (Bo.e (xC (PyData.int 0))))))) (sRet (xF (xC (PyData.bool false)))) sNx) (sSeq (sUnp [1, 2, 3, 4, 5] (xV 0)) (sRet (xF (xOr (xOp2 gEq (Bo.v 5) (Bo.e (xC (PyData.int 0)))) (xOr (xOp2 gEq (Bo.e (xOp2 gMod (Bo.e (xOp2 gAdd (Bo.v 1) (Bo.v 3))) (Bo.e (xC (PyData.int 2))))) (Bo.e (xC (PyData.int 1)))) (xOp2 gEq (Bo.e (xOp2 gMod (Bo.e (xOp2 gAdd (Bo.v 2) (Bo.v 4))) (Bo.e (xC (PyData.int 2))))) (Bo.e (xC (PyData.int 1))))))))))
def F_is_ring : Fn := runF 1 7 b_is_ring
theorem o_is_ring : DefOk g_is_ring (st 7) "is_ring" ["value"] b_is_ring := defOk_of (m := more3) rfl rfl rfl ⟨by kernel_rfl, by kernel_rfl, by kernel_rfl, by show List.Nodup n_is_ring; decide +kernel, by kernel_rfl, by decide +kernel, by decide +kernel⟩ (by kernel_rfl) (by kernel_rfl) (by kernel_rfl)
def d_is_ring : Fd := ⟨"is_ring", ["value"], [false], F_is_ring⟩
def n_least : List Str := ["a", "b", "c", "d", "k"]
def g_least : Cfg := { N := n_least, sc := defScope (st 8), fns := [], glo := [], blt := BLT, exs := [], subs := [], k := 0, fu := 1048576 }
abbrev l_least_1 : Sf := (sPar [0, 1, 2, 3, 4] (xsCons (xF (xOp2 gFdiv (Bo.e (xOp2 gMinus (Bo.v 1) (Bo.v 3))) (Bo.e (xC (PyData.int 2))))) (xsCons (xF (xOp2 gFdiv (Bo.e (xOp2 gAdd (Bo.v 0) (Bo.v 2))) (Bo.e (xC (PyData.int 2))))) (xsCons (xF (xOp2 gFdiv (Bo.e (xOp2 gAdd (Bo.v 1) (Bo.v 3))) (Bo.e (xC (PyData.int 2))))) (xsCons (xF (xOp2 gFdiv (Bo.e (xOp2 gMinus (Bo.v 2) (Bo.v 0))) (Bo.e (xC (PyData.int 2))))) (xsCons (xF (xOp2 gMinus (Bo.v 4) (Bo.e (xC (PyData.int 1))))) xsNil))))))
abbrev t_least_1 : Xb := (xbAnd (xbV (xOp2 gGt (Bo.v 4) (Bo.e (xC (PyData.int 0))))) (xbAnd (xbV (xOp2 gEq (Bo.e (xOp2 gMod (Bo.e (xOp2 gAdd (Bo.v 0) (Bo.v 2))) (Bo.e (xC (PyData.int 2))))) (Bo.e (xC (PyData.int 0))))) (xbV (xOp2 gEq (Bo.e (xOp2 gMod (Bo.e (xOp2 gAdd (Bo.v 1) (Bo.v 3))) (Bo.e (xC (PyData.int 2))))) (Bo.e (xC (PyData.int 0)))))))
def b_least : Sf := (sSeq (sWhl 1048576 t_least_1 l_least_1) (sRet (xF (xTup (xCons (xV 0) (xCons (xV 1) (xCons (xV 2) (xCons (xV 3) (xCons (xV 4) xNil)))))))))
def F_least : Fn := runF 5 5 b_least
theorem o_least : DefOk g_least (st 8) "least" ["a", "b", "c", "d", "k"] b_least := defOk_of (m := more3) rfl rfl rfl ⟨by kernel_rfl, by kernel_rfl, by kernel_rfl, by show List.Nodup n_least; decide +kernel, by kernel_rfl, by decide +kernel, by decide +kernel⟩ (by kernel_rfl) (by kernel_rfl) (by kernel_rfl)
def d_least : Fd := ⟨"least", ["a", "b", "c", "d", "k"], [false, false, false, false, false], F_least⟩
def n_power_of_two : List Str := ["count"]
def g_power_of_two : Cfg := { N := n_power_of_two, sc := defScope (st 10), fns := [], glo := [], blt := BLT, exs := [], subs := [], k := 0, fu := 1048576 }
def b_power_of_two : Sf := (sRet (xF (xOp2 gShl (Bo.e (xC (PyData.int 1))) (Bo.v 0))))
def F_power_of_two : Fn := runF 1 1 b_power_of_two
theorem o_power_of_two : DefOk g_power_of_two (st 10) "power_of_two" ["count"] b_power_of_two := defOk_of (m := more3) rfl rfl rfl ⟨by kernel_rfl, by kernel_rfl, by kernel_rfl, by show List.Nodup n_power_of_two; decide +kernel, by kernel_rfl, by decide +kernel, by decide +kernel⟩ (by kernel_rfl) (by kernel_rfl) (by kernel_rfl)
def d_power_of_two : Fd := ⟨"power_of_two", ["count"], [false], F_power_of_two⟩
def n_raised : List Str := ["number", "count", "factor", "a", "b", "c", "d", "k"]
def g_raised : Cfg := { N := n_raised, sc := defScope (st 9), fns := [d_power_of_two], glo := [], blt := BLT, exs := [], subs := [], k := 1, fu := 1048576 }
def b_raised : Sf := (sSeq (sUnp [3, 4, 5, 6, 7] (xV 0)) (sSeq (sIf (xbV (xOp2 gEq (Bo.e (xOp2 gMod (Bo.v 1) (Bo.e (xC (PyData.int 2))))) (Bo.e (xC (PyData.int 1))))) (sPar [3, 4, 5, 6] (xsCons (xF (xOp2 gMinus (Bo.v 4) (Bo.v 6))) (xsCons (xOp2F gAdd (Bo.v 3) (Bo.v 5)) (xsCons (xOp2F gAdd (Bo.v 4) (Bo.v 6)) (xsCons (xF (xOp2 gMinus (Bo.v 5) (Bo.v 3))) xsNil))))) sNx) (sSeq (sSet 2 (xCall F_power_of_two [(Ar.e (xOp2 gFdiv (Bo.v 1) (Bo.e (xC (PyData.int 2)))))])) (sRet (xF (xTup (xCons (xOp2 gMul (Bo.v 3) (Bo.v 2)) (xCons (xOp2 gMul (Bo.v 4) (Bo.v 2)) (xCons (xOp2 gMul (Bo.v 5) (Bo.v 2)) (xCons (xOp2 gMul (Bo.v 6) (Bo.v 2)) xNil))))))))))
def F_raised : Fn := runF 2 8 b_raised
theorem o_raised : DefOk g_raised (st 9) "raised" ["number", "count"] b_raised := defOk_of (m := more3) rfl rfl rfl ⟨by kernel_rfl, by kernel_rfl, by kernel_rfl, by show List.Nodup n_raised; decide +kernel, by kernel_rfl, by decide +kernel, by decide +kernel⟩ (by kernel_rfl) (by kernel_rfl) (by kernel_rfl)
def d_raised : Fd := ⟨"raised", ["number", "count"], [false, false], F_raised⟩
def n_add : List Str := ["number", "other", "second"]
def g_add : Cfg := { N := n_add, sc := defScope (st 11), fns := [d_least, d_raised], glo := [], blt := BLT, exs := [], subs := [], k := 2, fu := 1048576 }
def b_add : Sf := (sSeq (sIf (xbV (xOp2 gLt (Bo.e (xOp2 gIdx (Bo.v 0) (Bo.e (xC (PyData.int 4))))) (Bo.e (xOp2 gIdx (Bo.v 1) (Bo.e (xC (PyData.int 4))))))) (sPar [0, 1] (xsCons (xF (xV 1)) (xsCons (xF (xV 0)) xsNil))) sNx) (sSeq (sSet 2 (xCall F_raised [(Ar.e (xV 1)), (Ar.e (xOp2 gMinus (Bo.e (xOp2 gIdx (Bo.v 0) (Bo.e (xC (PyData.int 4))))) (Bo.e (xOp2 gIdx (Bo.v 1) (Bo.e (xC (PyData.int 4)))))))])) (sRet (xCall F_least [(Ar.e (xOp2 gAdd (Bo.e (xOp2 gIdx (Bo.v 0) (Bo.e (xC (PyData.int 0))))) (Bo.e (xOp2 gIdx (Bo.v 2) (Bo.e (xC (PyData.int 0))))))), (Ar.e (xOp2 gAdd (Bo.e (xOp2 gIdx (Bo.v 0) (Bo.e (xC (PyData.int 1))))) (Bo.e (xOp2 gIdx (Bo.v 2) (Bo.e (xC (PyData.int 1))))))), (Ar.e (xOp2 gAdd (Bo.e (xOp2 gIdx (Bo.v 0) (Bo.e (xC (PyData.int 2))))) (Bo.e (xOp2 gIdx (Bo.v 2) (Bo.e (xC (PyData.int 2))))))), (Ar.e (xOp2 gAdd (Bo.e (xOp2 gIdx (Bo.v 0) (Bo.e (xC (PyData.int 3))))) (Bo.e (xOp2 gIdx (Bo.v 2) (Bo.e (xC (PyData.int 3))))))), (Ar.e (xOp2 gIdx (Bo.v 0) (Bo.e (xC (PyData.int 4)))))]))))
def F_add : Fn := runF 2 3 b_add
theorem o_add : DefOk g_add (st 11) "add" ["number", "other"] b_add := defOk_of (m := more3) rfl rfl rfl ⟨by kernel_rfl, by kernel_rfl, by kernel_rfl, by show List.Nodup n_add; decide +kernel, by kernel_rfl, by decide +kernel, by decide +kernel⟩ (by kernel_rfl) (by kernel_rfl) (by kernel_rfl)
def d_add : Fd := ⟨"add", ["number", "other"], [false, false], F_add⟩
def n_opposite : List Str := ["number", "a", "b", "c", "d", "k"]
def g_opposite : Cfg := { N := n_opposite, sc := defScope (st 12), fns := [], glo := [], blt := BLT, exs := [], subs := [], k := 0, fu := 1048576 }
def b_opposite : Sf := (sSeq (sUnp [1, 2, 3, 4, 5] (xV 0)) (sRet (xF (xTup (xCons (xOp1 gNeg (Bo.v 1)) (xCons (xOp1 gNeg (Bo.v 2)) (xCons (xOp1 gNeg (Bo.v 3)) (xCons (xOp1 gNeg (Bo.v 4)) (xCons (xV 5) xNil)))))))))
def F_opposite : Fn := runF 1 6 b_opposite
theorem o_opposite : DefOk g_opposite (st 12) "opposite" ["number"] b_opposite := defOk_of (m := more3) rfl rfl rfl ⟨by kernel_rfl, by kernel_rfl, by kernel_rfl, by show List.Nodup n_opposite; decide +kernel, by kernel_rfl, by decide +kernel, by decide +kernel⟩ (by kernel_rfl) (by kernel_rfl) (by kernel_rfl)
def d_opposite : Fd := ⟨"opposite", ["number"], [false], F_opposite⟩
def n_subtract : List Str := ["number", "other"]
def g_subtract : Cfg := { N := n_subtract, sc := defScope (st 13), fns := [d_add, d_opposite], glo := [], blt := BLT, exs := [], subs := [], k := 3, fu := 1048576 }
def b_subtract : Sf := (sRet (xCall F_add [(Ar.e (xV 0)), (Ar.e (xD (xCall F_opposite [(Ar.e (xV 1))])))]))
def F_subtract : Fn := runF 2 2 b_subtract
theorem o_subtract : DefOk g_subtract (st 13) "subtract" ["number", "other"] b_subtract := defOk_of (m := more3) rfl rfl rfl ⟨by kernel_rfl, by kernel_rfl, by kernel_rfl, by show List.Nodup n_subtract; decide +kernel, by kernel_rfl, by decide +kernel, by decide +kernel⟩ (by kernel_rfl) (by kernel_rfl) (by kernel_rfl)
def d_subtract : Fd := ⟨"subtract", ["number", "other"], [false, false], F_subtract⟩
def n_multiply : List Str := ["number", "other", "a", "b", "c", "d", "k", "p", "q", "s", "t", "m"]
def g_multiply : Cfg := { N := n_multiply, sc := defScope (st 14), fns := [d_least], glo := [], blt := BLT, exs := [], subs := [], k := 1, fu := 1048576 }
def b_multiply : Sf := (sSeq (sUnp [2, 3, 4, 5, 6] (xV 0)) (sSeq (sUnp [7, 8, 9, 10, 11] (xV 1)) (sRet (xCall F_least [(Ar.e (xOp2 gMinus (Bo.e (xOp2 gMinus (Bo.e (xOp2 gMinus (Bo.e (xOp2 gMul (Bo.v 2) (Bo.v 7))) (Bo.e (xOp2 gMul (Bo.v 3) (Bo.v 10))))) (Bo.e (xOp2 gMul (Bo.v 4) (Bo.v 9))))) (Bo.e (xOp2 gMul (Bo.v 5) (Bo.v 8))))), (Ar.e (xOp2 gMinus (Bo.e (xOp2 gMinus (Bo.e (xOp2 gAdd (Bo.e (xOp2 gMul (Bo.v 2) (Bo.v 8))) (Bo.e (xOp2 gMul (Bo.v 3) (Bo.v 7))))) (Bo.e (xOp2 gMul (Bo.v 4) (Bo.v 10))))) (Bo.e (xOp2 gMul (Bo.v 5) (Bo.v 9))))), (Ar.e (xOp2 gMinus (Bo.e (xOp2 gAdd (Bo.e (xOp2 gAdd (Bo.e (xOp2 gMul (Bo.v 2) (Bo.v 9))) (Bo.e (xOp2 gMul (Bo.v 3) (Bo.v 8))))) (Bo.e (xOp2 gMul (Bo.v 4) (Bo.v 7))))) (Bo.e (xOp2 gMul (Bo.v 5) (Bo.v 10))))), (Ar.e (xOp2 gAdd (Bo.e (xOp2 gAdd (Bo.e (xOp2 gAdd (Bo.e (xOp2 gMul (Bo.v 2) (Bo.v 10))) (Bo.e (xOp2 gMul (Bo.v 3) (Bo.v 9))))) (Bo.e (xOp2 gMul (Bo.v 4) (Bo.v 8))))) (Bo.e (xOp2 gMul (Bo.v 5) (Bo.v 7))))), (Ar.e (xOp2 gAdd (Bo.v 6) (Bo.v 11)))]))))
def F_multiply : Fn := runF 2 12 b_multiply
theorem o_multiply : DefOk g_multiply (st 14) "multiply" ["number", "other"] b_multiply := defOk_of (m := more3) rfl rfl rfl ⟨by kernel_rfl, by kernel_rfl, by kernel_rfl, by show List.Nodup n_multiply; decide +kernel, by kernel_rfl, by decide +kernel, by decide +kernel⟩ (by kernel_rfl) (by kernel_rfl) (by kernel_rfl)
def d_multiply : Fd := ⟨"multiply", ["number", "other"], [false, false], F_multiply⟩
def n_conjugated : List Str := ["number", "a", "b", "c", "d", "k"]
def g_conjugated : Cfg := { N := n_conjugated, sc := defScope (st 15), fns := [], glo := [], blt := BLT, exs := [], subs := [], k := 0, fu := 1048576 }
def b_conjugated : Sf := (sSeq (sUnp [1, 2, 3, 4, 5] (xV 0)) (sRet (xF (xTup (xCons (xV 1) (xCons (xOp1 gNeg (Bo.v 4)) (xCons (xOp1 gNeg (Bo.v 3)) (xCons (xOp1 gNeg (Bo.v 2)) (xCons (xV 5) xNil)))))))))
def F_conjugated : Fn := runF 1 6 b_conjugated
theorem o_conjugated : DefOk g_conjugated (st 15) "conjugated" ["number"] b_conjugated := defOk_of (m := more3) rfl rfl rfl ⟨by kernel_rfl, by kernel_rfl, by kernel_rfl, by show List.Nodup n_conjugated; decide +kernel, by kernel_rfl, by decide +kernel, by decide +kernel⟩ (by kernel_rfl) (by kernel_rfl) (by kernel_rfl)
def d_conjugated : Fd := ⟨"conjugated", ["number"], [false], F_conjugated⟩
def n_check_number : List Str := ["number"]
def g_check_number : Cfg := { N := n_check_number, sc := defScope (st 17), fns := [d_is_ring], glo := [], blt := BLT, exs := EXS, subs := SUBS, k := 2, fu := 1048576 }
def b_check_number : Sf := (sIf (xbNot (xbT (Bo.e (xD (xCall F_is_ring [(Ar.e (xV 0))]))))) (sRaise (Str.ofString "InvalidNumber")) sNx)
def F_check_number : Fn := runF 1 1 b_check_number
theorem o_check_number : DefOk g_check_number (st 17) "check_number" ["number"] b_check_number := defOk_of (m := more3) rfl rfl rfl ⟨by kernel_rfl, by kernel_rfl, by kernel_rfl, by show List.Nodup n_check_number; decide +kernel, by kernel_rfl, by decide +kernel, by decide +kernel⟩ (by kernel_rfl) (by kernel_rfl) (by kernel_rfl)
def d_check_number : Fd := ⟨"check_number", ["number"], [false], F_check_number⟩
def n_is_real : List Str := ["value"]
def g_is_real : Cfg := { N := n_is_real, sc := defScope (st 21), fns := [d_is_ring], glo := [], blt := BLT, exs := [], subs := [], k := 2, fu := 1048576 }
def b_is_real : Sf := (sRet (xF (xAnd (xD (xCall F_is_ring [(Ar.e (xV 0))])) (xAnd (xOp2 gEq (Bo.e (xOp2 gIdx (Bo.v 0) (Bo.e (xC (PyData.int 2))))) (Bo.e (xC (PyData.int 0)))) (xOp2 gEq (Bo.e (xOp2 gIdx (Bo.v 0) (Bo.e (xC (PyData.int 3))))) (Bo.e (xOp1 gNeg (Bo.e (xOp2 gIdx (Bo.v 0) (Bo.e (xC (PyData.int 1))))))))))))
def F_is_real : Fn := runF 1 1 b_is_real
theorem o_is_real : DefOk g_is_real (st 21) "is_real" ["value"] b_is_real := defOk_of (m := more3) rfl rfl rfl ⟨by kernel_rfl, by kernel_rfl, by kernel_rfl, by show List.Nodup n_is_real; decide +kernel, by kernel_rfl, by decide +kernel, by decide +kernel⟩ (by kernel_rfl) (by kernel_rfl) (by kernel_rfl)
def d_is_real : Fd := ⟨"is_real", ["value"], [false], F_is_real⟩
def n_check_real : List Str := ["real"]
def g_check_real : Cfg := { N := n_check_real, sc := defScope (st 22), fns := [d_is_real], glo := [], blt := BLT, exs := EXS, subs := SUBS, k := 3, fu := 1048576 }
def b_check_real : Sf := (sIf (xbNot (xbT (Bo.e (xD (xCall F_is_real [(Ar.e (xV 0))]))))) (sRaise (Str.ofString "InvalidReal")) sNx)
def F_check_real : Fn := runF 1 1 b_check_real
theorem o_check_real : DefOk g_check_real (st 22) "check_real" ["real"] b_check_real := defOk_of (m := more3) rfl rfl rfl ⟨by kernel_rfl, by kernel_rfl, by kernel_rfl, by show List.Nodup n_check_real; decide +kernel, by kernel_rfl, by decide +kernel, by decide +kernel⟩ (by kernel_rfl) (by kernel_rfl) (by kernel_rfl)
def d_check_real : Fd := ⟨"check_real", ["real"], [false], F_check_real⟩
def n_sign_of : List Str := ["real", "first", "a", "b"]
def g_sign_of : Cfg := { N := n_sign_of, sc := defScope (st 23), fns := [], glo := [], blt := BLT, exs := [], subs := [], k := 0, fu := 1048576 }
def b_sign_of : Sf := (sSeq (sPar [2, 3] (xsCons (xF (xOp2 gIdx (Bo.v 0) (Bo.e (xC (PyData.int 0))))) (xsCons (xF (xOp2 gIdx (Bo.v 0) (Bo.e (xC (PyData.int 1))))) xsNil))) (sSeq (sIf (xbAnd (xbV (xOp2 gGe (Bo.v 2) (Bo.e (xC (PyData.int 0))))) (xbV (xOp2 gGe (Bo.v 3) (Bo.e (xC (PyData.int 0)))))) (sRet (xIfF (xbV (xOp2 gGt (Bo.e (xOp2 gAdd (Bo.v 2) (Bo.v 3))) (Bo.e (xC (PyData.int 0))))) (xF (xC (PyData.int 1))) (xF (xC (PyData.int 0))))) sNx) (sSeq (sIf (xbAnd (xbV (xOp2 gLe (Bo.v 2) (Bo.e (xC (PyData.int 0))))) (xbV (xOp2 gLe (Bo.v 3) (Bo.e (xC (PyData.int 0)))))) (sRet (xF (xOp1 gNeg (Bo.e (xC (PyData.int 1)))))) sNx) (sSeq (sSet 1 (xF (xOp2 gGt (Bo.e (xOp2 gMul (Bo.v 2) (Bo.v 2))) (Bo.e (xOp2 gMul (Bo.e (xOp2 gMul (Bo.e (xC (PyData.int 2))) (Bo.v 3))) (Bo.v 3)))))) (sRet (xIfF (xbV (xOp2 gEq (Bo.v 1) (Bo.e (xOp2 gGt (Bo.v 2) (Bo.e (xC (PyData.int 0))))))) (xF (xC (PyData.int 1))) (xF (xOp1 gNeg (Bo.e (xC (PyData.int 1)))))))))))
def F_sign_of : Fn := runF 1 4 b_sign_of
theorem o_sign_of : DefOk g_sign_of (st 23) "sign_of" ["real"] b_sign_of := defOk_of (m := more3) rfl rfl rfl ⟨by kernel_rfl, by kernel_rfl, by kernel_rfl, by show List.Nodup n_sign_of; decide +kernel, by kernel_rfl, by decide +kernel, by decide +kernel⟩ (by kernel_rfl) (by kernel_rfl) (by kernel_rfl)
def d_sign_of : Fd := ⟨"sign_of", ["real"], [false], F_sign_of⟩
def n_sign : List Str := ["real"]
def g_sign : Cfg := { N := n_sign, sc := defScope (st 24), fns := [d_check_real, d_sign_of], glo := [], blt := BLT, exs := [], subs := [], k := 4, fu := 1048576 }
def b_sign : Sf := (sSeq (sDrop (xD (xCall F_check_real [(Ar.e (xV 0))]))) (sRet (xCall F_sign_of [(Ar.e (xV 0))])))
def F_sign : Fn := runF 1 1 b_sign
theorem o_sign : DefOk g_sign (st 24) "sign" ["real"] b_sign := defOk_of (m := more3) rfl rfl rfl ⟨by kernel_rfl, by kernel_rfl, by kernel_rfl, by show List.Nodup n_sign; decide +kernel, by kernel_rfl, by decide +kernel, by decide +kernel⟩ (by kernel_rfl) (by kernel_rfl) (by kernel_rfl)
def d_sign : Fd := ⟨"sign", ["real"], [false], F_sign⟩
def n_below : List Str := ["real", "other_real"]
def g_below : Cfg := { N := n_below, sc := defScope (st 25), fns := [d_subtract, d_check_real, d_sign_of], glo := [], blt := BLT, exs := [], subs := [], k := 4, fu := 1048576 }
def b_below : Sf := (sSeq (sDrop (xD (xCall F_check_real [(Ar.e (xV 0))]))) (sSeq (sDrop (xD (xCall F_check_real [(Ar.e (xV 1))]))) (sRet (xF (xOp2 gLt (Bo.e (xD (xCall F_sign_of [(Ar.e (xD (xCall F_subtract [(Ar.e (xV 0)), (Ar.e (xV 1))])))]))) (Bo.e (xC (PyData.int 0))))))))
def F_below : Fn := runF 2 2 b_below
theorem o_below : DefOk g_below (st 25) "below" ["real", "other_real"] b_below := defOk_of (m := more3) rfl rfl rfl ⟨by kernel_rfl, by kernel_rfl, by kernel_rfl, by show List.Nodup n_below; decide +kernel, by kernel_rfl, by decide +kernel, by decide +kernel⟩ (by kernel_rfl) (by kernel_rfl) (by kernel_rfl)
def d_below : Fd := ⟨"below", ["real", "other_real"], [false, false], F_below⟩
def n_integer_root : List Str := ["number", "found", "nearer"]
def g_integer_root : Cfg := { N := n_integer_root, sc := defScope (st 26), fns := [d_power_of_two], glo := [], blt := BLT, exs := [], subs := [], k := 1, fu := 1048576 }
abbrev l_integer_root_1 : Sf := (sSeq (sSet 2 (xF (xOp2 gFdiv (Bo.e (xOp2 gAdd (Bo.v 1) (Bo.e (xOp2 gFdiv (Bo.v 0) (Bo.v 1))))) (Bo.e (xC (PyData.int 2)))))) (sSeq (sIf (xbV (xOp2 gGe (Bo.v 2) (Bo.v 1))) (sRetV 1) sNx) (sSet 1 (xF (xV 2)))))
abbrev t_integer_root_1 : Xb := (xbT (Bo.e (xC (PyData.bool true))))
def b_integer_root : Sf := (sSeq (sIf (xbV (xOp2 gLt (Bo.v 0) (Bo.e (xC (PyData.int 2))))) (sRetV 0) sNx) (sSeq (sSet 1 (xCall F_power_of_two [(Ar.e (xOp2 gAdd (Bo.e (xOp2 gFdiv (Bo.e (xOp1 gBits (Bo.v 0))) (Bo.e (xC (PyData.int 2))))) (Bo.e (xC (PyData.int 1)))))])) (sWhl 1048576 t_integer_root_1 l_integer_root_1)))
def F_integer_root : Fn := runF 1 3 b_integer_root
theorem o_integer_root : DefOk g_integer_root (st 26) "integer_root" ["number"] b_integer_root := defOk_of (m := more3) rfl rfl rfl ⟨by kernel_rfl, by kernel_rfl, by kernel_rfl, by show List.Nodup n_integer_root; decide +kernel, by kernel_rfl, by decide +kernel, by decide +kernel⟩ (by kernel_rfl) (by kernel_rfl) (by kernel_rfl)
def d_integer_root : Fd := ⟨"integer_root", ["number"], [false], F_integer_root⟩
def n_floor_of_roots : List Str := ["count"]
def g_floor_of_roots : Cfg := { N := n_floor_of_roots, sc := defScope (st 27), fns := [d_integer_root], glo := [], blt := BLT, exs := [], subs := [], k := 2, fu := 1048576 }
def b_floor_of_roots : Sf := (sSeq (sIf (xbV (xOp2 gGe (Bo.v 0) (Bo.e (xC (PyData.int 0))))) (sRet (xCall F_integer_root [(Ar.e (xOp2 gMul (Bo.e (xOp2 gMul (Bo.e (xC (PyData.int 2))) (Bo.v 0))) (Bo.v 0)))])) sNx) (sRet (xF (xOp2 gMinus (Bo.e (xOp1 gNeg (Bo.e (xD (xCall F_integer_root [(Ar.e (xOp2 gMul (Bo.e (xOp2 gMul (Bo.e (xC (PyData.int 2))) (Bo.v 0))) (Bo.v 0)))]))))) (Bo.e (xC (PyData.int 1)))))))
def F_floor_of_roots : Fn := runF 1 1 b_floor_of_roots
theorem o_floor_of_roots : DefOk g_floor_of_roots (st 27) "floor_of_roots" ["count"] b_floor_of_roots := defOk_of (m := more3) rfl rfl rfl ⟨by kernel_rfl, by kernel_rfl, by kernel_rfl, by show List.Nodup n_floor_of_roots; decide +kernel, by kernel_rfl, by decide +kernel, by decide +kernel⟩ (by kernel_rfl) (by kernel_rfl) (by kernel_rfl)
def d_floor_of_roots : Fd := ⟨"floor_of_roots", ["count"], [false], F_floor_of_roots⟩
def n_floor : List Str := ["real", "a", "b", "k"]
def g_floor : Cfg := { N := n_floor, sc := defScope (st 28), fns := [d_power_of_two, d_check_real, d_floor_of_roots], glo := [], blt := BLT, exs := [], subs := [], k := 4, fu := 1048576 }
def b_floor : Sf := (sSeq (sDrop (xD (xCall F_check_real [(Ar.e (xV 0))]))) (sSeq (sPar [1, 2, 3] (xsCons (xF (xOp2 gIdx (Bo.v 0) (Bo.e (xC (PyData.int 0))))) (xsCons (xF (xOp2 gIdx (Bo.v 0) (Bo.e (xC (PyData.int 1))))) (xsCons (xF (xOp2 gIdx (Bo.v 0) (Bo.e (xC (PyData.int 4))))) xsNil)))) (sSeq (sIf (xbV (xOp2 gEq (Bo.e (xOp2 gMod (Bo.v 3) (Bo.e (xC (PyData.int 2))))) (Bo.e (xC (PyData.int 1))))) (sPar [1, 2, 3] (xsCons (xOp2F gMul (Bo.e (xC (PyData.int 2))) (Bo.v 2)) (xsCons (xF (xV 1)) (xsCons (xOp2F gAdd (Bo.v 3) (Bo.e (xC (PyData.int 1)))) xsNil)))) sNx) (sRet (xF (xOp2 gFdiv (Bo.e (xOp2 gAdd (Bo.v 1) (Bo.e (xD (xCall F_floor_of_roots [(Ar.e (xV 2))]))))) (Bo.e (xD (xCall F_power_of_two [(Ar.e (xOp2 gFdiv (Bo.v 3) (Bo.e (xC (PyData.int 2)))))])))))))))
def F_floor : Fn := runF 1 4 b_floor
theorem o_floor : DefOk g_floor (st 28) "floor" ["real"] b_floor := defOk_of (m := more3) rfl rfl rfl ⟨by kernel_rfl, by kernel_rfl, by kernel_rfl, by show List.Nodup n_floor; decide +kernel, by kernel_rfl, by decide +kernel, by decide +kernel⟩ (by kernel_rfl) (by kernel_rfl) (by kernel_rfl)
def d_floor : Fd := ⟨"floor", ["real"], [false], F_floor⟩
def n_real_part : List Str := ["number"]
def g_real_part : Cfg := { N := n_real_part, sc := defScope (st 29), fns := [d_add, d_multiply, d_conjugated, d_check_number], glo := [("HALF", v_HALF)], blt := BLT, exs := [], subs := [], k := 3, fu := 1048576 }
def b_real_part : Sf := (sSeq (sDrop (xD (xCall F_check_number [(Ar.e (xV 0))]))) (sRet (xCall F_multiply [(Ar.e (xD (xCall F_add [(Ar.e (xV 0)), (Ar.e (xD (xCall F_conjugated [(Ar.e (xV 0))])))]))), (Ar.e (xC (PyData.tuple [(PyData.int 1), (PyData.int 0), (PyData.int 0), (PyData.int 0), (PyData.int 2)])))])))
def F_real_part : Fn := runF 1 1 b_real_part
theorem o_real_part : DefOk g_real_part (st 29) "real_part" ["number"] b_real_part := defOk_of (m := more3) rfl rfl rfl ⟨by kernel_rfl, by kernel_rfl, by kernel_rfl, by show List.Nodup n_real_part; decide +kernel, by kernel_rfl, by decide +kernel, by decide +kernel⟩ (by kernel_rfl) (by kernel_rfl) (by kernel_rfl)
def d_real_part : Fd := ⟨"real_part", ["number"], [false], F_real_part⟩
def n_other_part : List Str := ["number"]
def g_other_part : Cfg := { N := n_other_part, sc := defScope (st 30), fns := [d_subtract, d_multiply, d_conjugated, d_check_number], glo := [("OTHER_HALF", v_OTHER_HALF)], blt := BLT, exs := [], subs := [], k := 4, fu := 1048576 }
def b_other_part : Sf := (sSeq (sDrop (xD (xCall F_check_number [(Ar.e (xV 0))]))) (sRet (xCall F_multiply [(Ar.e (xD (xCall F_subtract [(Ar.e (xV 0)), (Ar.e (xD (xCall F_conjugated [(Ar.e (xV 0))])))]))), (Ar.e (xC (PyData.tuple [(PyData.int 0), (PyData.int 0), (PyData.int (-1)), (PyData.int 0), (PyData.int 2)])))])))
def F_other_part : Fn := runF 1 1 b_other_part
theorem o_other_part : DefOk g_other_part (st 30) "other_part" ["number"] b_other_part := defOk_of (m := more3) rfl rfl rfl ⟨by kernel_rfl, by kernel_rfl, by kernel_rfl, by show List.Nodup n_other_part; decide +kernel, by kernel_rfl, by decide +kernel, by decide +kernel⟩ (by kernel_rfl) (by kernel_rfl) (by kernel_rfl)
def d_other_part : Fd := ⟨"other_part", ["number"], [false], F_other_part⟩
def n__law_deck : List Str := ["cell"]
def g__law_deck : Cfg := { N := n__law_deck, sc := defScope (st 32), fns := [], glo := [], blt := BLT, exs := [], subs := [], k := 0, fu := 1048576 }
def b__law_deck : Sf := (sSeq (sSet 0 (xF (xOp1 gInt2 (Bo.v 0)))) (sRet (xLstF (xCons (xOp2 gMax (Bo.e (xC (PyData.int 0))) (Bo.e (xOp2 gMinus (Bo.v 0) (Bo.e (xOp2 gPow (Bo.e (xC (PyData.int 10))) (Bo.e (xC (PyData.int 23)))))))) (xCons (xOp2 gMod (Bo.e (xOp1 gInt2 (Bo.e (xOp2 gAdd (Bo.e (xOp2 gMul (Bo.v 0) (Bo.e (xC (PyData.int 950706376))))) (Bo.e (xC (PyData.int 65539))))))) (Bo.e (xC (PyData.int 2305843009213693951)))) (xCons (xC (PyData.int 0)) xNil))))))
def F__law_deck : Fn := runF 1 1 b__law_deck
theorem o__law_deck : DefOk g__law_deck (st 32) "_law_deck" ["cell"] b__law_deck := defOk_of (m := more3) rfl rfl rfl ⟨by kernel_rfl, by kernel_rfl, by kernel_rfl, by show List.Nodup n__law_deck; decide +kernel, by kernel_rfl, by decide +kernel, by decide +kernel⟩ (by kernel_rfl) (by kernel_rfl) (by kernel_rfl)
def d__law_deck : Fd := ⟨"_law_deck", ["cell"], [false], F__law_deck⟩
def n__law_draw : List Str := ["deck", "many", "found"]
def g__law_draw : Cfg := { N := n__law_draw, sc := defScope (st 33), fns := [], glo := [], blt := BLT, exs := [], subs := [], k := 0, fu := 1048576 }
def b__law_draw : Sf := (sSeq (sSetI 0 (xC (PyData.int 2)) (xOp2 gAdd (Bo.e (xOp2 gIdx (Bo.v 0) (Bo.e (xC (PyData.int 2))))) (Bo.e (xC (PyData.int 1))))) (sSeq (sIf (xbV (xOp2 gGt (Bo.e (xOp2 gIdx (Bo.v 0) (Bo.e (xC (PyData.int 0))))) (Bo.e (xC (PyData.int 0))))) (sSeq (sSet 2 (xF (xOp2 gMod (Bo.e (xOp1 gInt2 (Bo.e (xOp2 gIdx (Bo.v 0) (Bo.e (xC (PyData.int 0))))))) (Bo.v 1)))) (sSeq (sSetI 0 (xC (PyData.int 0)) (xOp2 gFdiv (Bo.e (xOp1 gInt2 (Bo.e (xOp2 gIdx (Bo.v 0) (Bo.e (xC (PyData.int 0))))))) (Bo.v 1))) (sRetV 2))) sNx) (sSeq (sSetI 0 (xC (PyData.int 1)) (xOp2 gMod (Bo.e (xOp1 gInt2 (Bo.e (xOp2 gAdd (Bo.e (xOp2 gAdd (Bo.e (xOp2 gMul (Bo.e (xOp2 gIdx (Bo.v 0) (Bo.e (xC (PyData.int 1))))) (Bo.e (xC (PyData.int 3935559000))))) (Bo.e (xOp2 gMul (Bo.e (xOp2 gMul (Bo.e (xOp2 gIdx (Bo.v 0) (Bo.e (xC (PyData.int 2))))) (Bo.e (xOp2 gIdx (Bo.v 0) (Bo.e (xC (PyData.int 2))))))) (Bo.e (xC (PyData.int 7919))))))) (Bo.e (xC (PyData.int 30011))))))) (Bo.e (xC (PyData.int 2305843009213693951))))) (sRet (xF (xOp2 gMod (Bo.e (xOp2 gFdiv (Bo.e (xOp1 gInt2 (Bo.e (xOp2 gIdx (Bo.v 0) (Bo.e (xC (PyData.int 1))))))) (Bo.e (xC (PyData.int 131072))))) (Bo.v 1)))))))
def F__law_draw : Fn := runF 2 3 b__law_draw
theorem o__law_draw : DefOk g__law_draw (st 33) "_law_draw" ["deck", "many"] b__law_draw := defOk_of (m := more3) rfl rfl rfl ⟨by kernel_rfl, by kernel_rfl, by kernel_rfl, by show List.Nodup n__law_draw; decide +kernel, by kernel_rfl, by decide +kernel, by decide +kernel⟩ (by kernel_rfl) (by kernel_rfl) (by kernel_rfl)
def d__law_draw : Fd := ⟨"_law_draw", ["deck", "many"], [true, false], F__law_draw⟩
def n__law_pick : List Str := ["deck", "row"]
def g__law_pick : Cfg := { N := n__law_pick, sc := defScope (st 34), fns := [d__law_draw], glo := [], blt := BLT, exs := [], subs := [], k := 1, fu := 1048576 }
def b__law_pick : Sf := (sRet (xF (xOp2 gIdx (Bo.v 1) (Bo.e (xD (xCall F__law_draw [(Ar.io 0), (Ar.e (xOp1 gLen (Bo.v 1)))]))))))
def F__law_pick : Fn := runF 2 2 b__law_pick
theorem o__law_pick : DefOk g__law_pick (st 34) "_law_pick" ["deck", "row"] b__law_pick := defOk_of (m := more3) rfl rfl rfl ⟨by kernel_rfl, by kernel_rfl, by kernel_rfl, by show List.Nodup n__law_pick; decide +kernel, by kernel_rfl, by decide +kernel, by decide +kernel⟩ (by kernel_rfl) (by kernel_rfl) (by kernel_rfl)
def d__law_pick : Fd := ⟨"_law_pick", ["deck", "row"], [true, false], F__law_pick⟩
def n__law_same : List Str := ["found", "due", "k"]
def g__law_same (F : Fn) (k : Nat) : Cfg := { N := n__law_same, sc := defScope (st 35), fns := [⟨"_law_same", ["found", "due"], [false, false], F⟩], glo := [], blt := BLT, exs := [], subs := [], k := k, fu := 1048576 }
abbrev e__law_same_1 (F : Fn) : Xf := (xD (xCall F [(Ar.e (xOp2 gIdx (Bo.v 0) (Bo.v 2))), (Ar.e (xOp2 gIdx (Bo.v 1) (Bo.v 2)))]))
def b__law_same (F : Fn) : Sf := (sSeq (sIf (xbT (Bo.e (xOp1 (gIsiT [Ty.tuple, Ty.list]) (Bo.v 1)))) (sSeq (sIf (xbOr (xbV (xOp2 gNe (Bo.e (xOp1 (gIsi Ty.tuple) (Bo.v 1))) (Bo.e (xOp1 (gIsi Ty.tuple) (Bo.v 0))))) (xbV (xOp2 gNe (Bo.e (xOp1 (gIsi Ty.list) (Bo.v 1))) (Bo.e (xOp1 (gIsi Ty.list) (Bo.v 0)))))) (sRet (xF (xC (PyData.bool false)))) sNx) (sRet (xF (xAnd (xOp2 gEq (Bo.e (xOp1 gLen (Bo.v 0))) (Bo.e (xOp1 gLen (Bo.v 1)))) (xOp1 gAll (Bo.e (xD (xLc (xiRg1 (xOp1 gLen (Bo.v 1))) (tgN 2) xbYes (e__law_same_1 F) [2])))))))) sNx) (sSeq (sIf (xbV (xOp2 gIs (Bo.v 1) (Bo.e (xC PyData.none)))) (sRet (xF (xOp2 gIs (Bo.v 0) (Bo.e (xC PyData.none))))) sNx) (sSeq (sIf (xbT (Bo.e (xOp1 (gIsi Ty.bool) (Bo.v 1)))) (sRet (xF (xAnd (xOp1 (gIsi Ty.bool) (Bo.v 0)) (xOp2 gEq (Bo.v 0) (Bo.v 1))))) sNx) (sSeq (sIf (xbT (Bo.e (xOp1 (gIsi Ty.int) (Bo.v 1)))) (sRet (xF (xAnd (xOp1 (gIsi Ty.int) (Bo.v 0)) (xAnd (xNt (Bo.e (xOp1 (gIsi Ty.bool) (Bo.v 0)))) (xOp2 gEq (Bo.v 0) (Bo.v 1)))))) sNx) (sRet (xF (xAnd (xOp1 (gIsi Ty.str) (Bo.v 0)) (xOp2 gEq (Bo.v 0) (Bo.v 1)))))))))
def R__law_same : Nat → Fn
  | 0 => fun _ => .no
  | n + 1 => runF 2 3 (b__law_same (R__law_same n))
def F__law_same : Fn := R__law_same 60
theorem o__law_same (F : Fn) (k : Nat) : DefOk (g__law_same F k) (st 35) "_law_same" ["found", "due"] (b__law_same F) := defOk_of (m := more3) rfl rfl rfl ⟨by kernel_rfl, by kernel_rfl, by kernel_rfl, by show List.Nodup n__law_same; decide +kernel, by kernel_rfl, by decide +kernel, by decide +kernel⟩ (by kernel_rfl) (by kernel_rfl) (by kernel_rfl)
def d__law_same : Fd := ⟨"_law_same", ["found", "due"], [false, false], F__law_same⟩
def n__law_int : List Str := ["value"]
def g__law_int : Cfg := { N := n__law_int, sc := defScope (st 36), fns := [], glo := [], blt := BLT, exs := [], subs := [], k := 0, fu := 1048576 }
def b__law_int : Sf := (sRet (xF (xAnd (xOp1 (gIsi Ty.int) (Bo.v 0)) (xNt (Bo.e (xOp1 (gIsi Ty.bool) (Bo.v 0)))))))
def F__law_int : Fn := runF 1 1 b__law_int
theorem o__law_int : DefOk g__law_int (st 36) "_law_int" ["value"] b__law_int := defOk_of (m := more3) rfl rfl rfl ⟨by kernel_rfl, by kernel_rfl, by kernel_rfl, by show List.Nodup n__law_int; decide +kernel, by kernel_rfl, by decide +kernel, by decide +kernel⟩ (by kernel_rfl) (by kernel_rfl) (by kernel_rfl)
def d__law_int : Fd := ⟨"_law_int", ["value"], [false], F__law_int⟩
def n__law_ints : List Str := ["value", "size", "part"]
def g__law_ints : Cfg := { N := n__law_ints, sc := defScope (st 37), fns := [d__law_int], glo := [], blt := BLT, exs := [], subs := [], k := 1, fu := 1048576 }
abbrev e__law_ints_1 : Xf := (xD (xCall F__law_int [(Ar.e (xV 2))]))
def b__law_ints : Sf := (sRet (xF (xAnd (xOp1 (gIsi Ty.tuple) (Bo.v 0)) (xAnd (xOp2 gEq (Bo.e (xOp1 gLen (Bo.v 0))) (Bo.v 1)) (xOp1 gAll (Bo.e (xD (xLc (xiSeq (xV 0)) (tgN 2) xbYes e__law_ints_1 [2]))))))))
def F__law_ints : Fn := runF 2 3 b__law_ints
theorem o__law_ints : DefOk g__law_ints (st 37) "_law_ints" ["value", "size"] b__law_ints := defOk_of (m := more3) rfl rfl rfl ⟨by kernel_rfl, by kernel_rfl, by kernel_rfl, by show List.Nodup n__law_ints; decide +kernel, by kernel_rfl, by decide +kernel, by decide +kernel⟩ (by kernel_rfl) (by kernel_rfl) (by kernel_rfl)
def d__law_ints : Fd := ⟨"_law_ints", ["value", "size"], [false, false], F__law_ints⟩
def n__law_bent : List Str := ["deck", "value", "boxed", "k", "way"]
def g__law_bent (F : Fn) (k : Nat) : Cfg := { N := n__law_bent, sc := defScope (st 38), fns := [d__law_draw, ⟨"_law_bent", ["deck", "value"], [true, false], F⟩], glo := [], blt := BLT, exs := [], subs := [], k := k, fu := 1048576 }
def b__law_bent (F : Fn) : Sf := (sSeq (sIf (xbAnd (xbT (Bo.e (xOp1 (gIsi Ty.tuple) (Bo.v 1)))) (xbAnd (xbV (xOp2 gNe (Bo.v 1) (Bo.e (xTup xNil)))) (xbV (xOp2 gGt (Bo.e (xD (xCall F__law_draw [(Ar.io 0), (Ar.e (xC (PyData.int 6)))]))) (Bo.e (xC (PyData.int 0))))))) (sSeq (sSet 3 (xCall F__law_draw [(Ar.io 0), (Ar.e (xOp1 gLen (Bo.v 1)))])) (sSeq (sSet 4 (xCall F__law_draw [(Ar.io 0), (Ar.e (xC (PyData.int 9)))])) (sSeq (sIf (xbV (xOp2 gEq (Bo.v 4) (Bo.e (xC (PyData.int 0))))) (sRet (xOp2F gAdd (Bo.e (xSl (Bo.v 1) none (some (xV 3)))) (Bo.e (xSl (Bo.v 1) (some (xOp2 gAdd (Bo.v 3) (Bo.e (xC (PyData.int 1))))) none)))) sNx) (sSeq (sIf (xbV (xOp2 gEq (Bo.v 4) (Bo.e (xC (PyData.int 1))))) (sRet (xOp2F gAdd (Bo.e (xOp2 gAdd (Bo.e (xSl (Bo.v 1) none (some (xV 3)))) (Bo.e (xTup (xCons (xOp2 gIdx (Bo.v 1) (Bo.v 3)) (xCons (xOp2 gIdx (Bo.v 1) (Bo.v 3)) xNil)))))) (Bo.e (xSl (Bo.v 1) (some (xOp2 gAdd (Bo.v 3) (Bo.e (xC (PyData.int 1))))) none)))) sNx) (sSeq (sIf (xbV (xOp2 gEq (Bo.v 4) (Bo.e (xC (PyData.int 2))))) (sRet (xOp2F gAdd (Bo.e (xSl (Bo.v 1) none (some (xV 3)))) (Bo.e (xOp1 gRev (Bo.e (xSl (Bo.v 1) (some (xV 3)) none)))))) sNx) (sRet (xOp2F gAdd (Bo.e (xOp2 gAdd (Bo.e (xSl (Bo.v 1) none (some (xV 3)))) (Bo.e (xTup (xCons (xD (xCall F [(Ar.io 0), (Ar.e (xOp2 gIdx (Bo.v 1) (Bo.v 3)))])) xNil))))) (Bo.e (xSl (Bo.v 1) (some (xOp2 gAdd (Bo.v 3) (Bo.e (xC (PyData.int 1))))) none))))))))) sNx) (sSeq (sIf (xbAnd (xbT (Bo.e (xOp1 (gIsi Ty.int) (Bo.v 1)))) (xbAnd (xbNot (xbT (Bo.e (xOp1 (gIsi Ty.bool) (Bo.v 1))))) (xbV (xOp2 gGt (Bo.e (xD (xCall F__law_draw [(Ar.io 0), (Ar.e (xC (PyData.int 5)))]))) (Bo.e (xC (PyData.int 0))))))) (sRet (xOp2F gAdd (Bo.v 1) (Bo.e (xOp2 gIdx (Bo.e (xLst (xCons (xC (PyData.int 1)) (xCons (xOp1 gNeg (Bo.e (xC (PyData.int 1)))) (xCons (xC (PyData.int 2)) (xCons (xOp1 gNeg (Bo.v 1)) (xCons (xC (PyData.int 4)) (xCons (xOp1 gNeg (Bo.e (xC (PyData.int 3)))) xNil)))))))) (Bo.e (xD (xCall F__law_draw [(Ar.io 0), (Ar.e (xC (PyData.int 6)))]))))))) sNx) (sSeq (sSet 2 (xIfF (xbT (Bo.e (xOp1 (gIsi Ty.tuple) (Bo.v 1)))) (xOp1F gToLst (Bo.v 1)) (xLstF (xCons (xV 1) xNil)))) (sRet (xF (xOp2 gIdx (Bo.e (xLst (xCons (xC PyData.none) (xCons (xTup xNil) (xCons (xV 2) (xCons (xC (PyData.bool true)) (xCons (xC (PyData.str (Str.ofString "H"))) (xCons (xTup (xCons (xV 1) xNil)) (xCons (xC (PyData.int 0)) (xCons xEmp (xCons (xC (PyData.str (Str.ofString "x"))) (xCons (xC (PyData.str (Str.ofString "T"))) (xCons (xC (PyData.int 1)) (xCons (xTup (xCons (xC (PyData.str (Str.ofString "X"))) (xCons (xC (PyData.int 0)) xNil))) xNil)))))))))))))) (Bo.e (xD (xCall F__law_draw [(Ar.io 0), (Ar.e (xC (PyData.int 12)))])))))))))
def R__law_bent : Nat → Fn
  | 0 => fun _ => .no
  | n + 1 => runF 2 5 (b__law_bent (R__law_bent n))
def F__law_bent : Fn := R__law_bent 60
theorem o__law_bent (F : Fn) (k : Nat) : DefOk (g__law_bent F k) (st 38) "_law_bent" ["deck", "value"] (b__law_bent F) := defOk_of (m := more3) rfl rfl rfl ⟨by kernel_rfl, by kernel_rfl, by kernel_rfl, by show List.Nodup n__law_bent; decide +kernel, by kernel_rfl, by decide +kernel, by decide +kernel⟩ (by kernel_rfl) (by kernel_rfl) (by kernel_rfl)
def d__law_bent : Fd := ⟨"_law_bent", ["deck", "value"], [true, false], F__law_bent⟩
def n__law_up : List Str := ["number", "a", "b", "c", "d", "k"]
def g__law_up : Cfg := { N := n__law_up, sc := defScope (st 39), fns := [], glo := [], blt := BLT, exs := [], subs := [], k := 0, fu := 1048576 }
def b__law_up : Sf := (sSeq (sUnp [1, 2, 3, 4, 5] (xV 0)) (sRet (xF (xTup (xCons (xOp2 gMinus (Bo.v 2) (Bo.v 4)) (xCons (xOp2 gAdd (Bo.v 1) (Bo.v 3)) (xCons (xOp2 gAdd (Bo.v 2) (Bo.v 4)) (xCons (xOp2 gMinus (Bo.v 3) (Bo.v 1)) (xCons (xOp2 gAdd (Bo.v 5) (Bo.e (xC (PyData.int 1)))) xNil)))))))))
def F__law_up : Fn := runF 1 6 b__law_up
theorem o__law_up : DefOk g__law_up (st 39) "_law_up" ["number"] b__law_up := defOk_of (m := more3) rfl rfl rfl ⟨by kernel_rfl, by kernel_rfl, by kernel_rfl, by show List.Nodup n__law_up; decide +kernel, by kernel_rfl, by decide +kernel, by decide +kernel⟩ (by kernel_rfl) (by kernel_rfl) (by kernel_rfl)
def d__law_up : Fd := ⟨"_law_up", ["number"], [false], F__law_up⟩
def n__law_least : List Str := ["number", "turn", "a", "b", "c", "d", "k"]
def g__law_least : Cfg := { N := n__law_least, sc := defScope (st 40), fns := [], glo := [], blt := BLT, exs := [], subs := [], k := 0, fu := 1048576 }
abbrev l__law_least_1 : Sf := (sSeq (sIf (xbOr (xbV (xOp2 gEq (Bo.v 6) (Bo.e (xC (PyData.int 0))))) (xbOr (xbV (xOp2 gEq (Bo.e (xOp2 gMod (Bo.e (xOp1 gInt2 (Bo.e (xOp2 gAdd (Bo.v 2) (Bo.v 4))))) (Bo.e (xC (PyData.int 2))))) (Bo.e (xC (PyData.int 1))))) (xbV (xOp2 gEq (Bo.e (xOp2 gMod (Bo.e (xOp1 gInt2 (Bo.e (xOp2 gAdd (Bo.v 3) (Bo.v 5))))) (Bo.e (xC (PyData.int 2))))) (Bo.e (xC (PyData.int 1))))))) sBk sNx) (sPar [2, 3, 4, 5, 6] (xsCons (xF (xOp2 gFdiv (Bo.e (xOp2 gMinus (Bo.v 3) (Bo.v 5))) (Bo.e (xC (PyData.int 2))))) (xsCons (xF (xOp2 gFdiv (Bo.e (xOp2 gAdd (Bo.v 2) (Bo.v 4))) (Bo.e (xC (PyData.int 2))))) (xsCons (xF (xOp2 gFdiv (Bo.e (xOp2 gAdd (Bo.v 3) (Bo.v 5))) (Bo.e (xC (PyData.int 2))))) (xsCons (xF (xOp2 gFdiv (Bo.e (xOp2 gMinus (Bo.v 4) (Bo.v 2))) (Bo.e (xC (PyData.int 2))))) (xsCons (xF (xOp2 gMinus (Bo.v 6) (Bo.e (xC (PyData.int 1))))) xsNil)))))))
def b__law_least : Sf := (sSeq (sUnp [2, 3, 4, 5, 6] (xV 0)) (sSeq (sFor (xiRg1 (xC (PyData.int 1000))) (tgN 1) l__law_least_1) (sRet (xF (xTup (xCons (xV 2) (xCons (xV 3) (xCons (xV 4) (xCons (xV 5) (xCons (xV 6) xNil))))))))))
def F__law_least : Fn := runF 1 7 b__law_least
theorem o__law_least : DefOk g__law_least (st 40) "_law_least" ["number"] b__law_least := defOk_of (m := more3) rfl rfl rfl ⟨by kernel_rfl, by kernel_rfl, by kernel_rfl, by show List.Nodup n__law_least; decide +kernel, by kernel_rfl, by decide +kernel, by decide +kernel⟩ (by kernel_rfl) (by kernel_rfl) (by kernel_rfl)
def d__law_least : Fd := ⟨"_law_least", ["number"], [false], F__law_least⟩
def n__law_plus : List Str := ["one", "other", "turn", "k"]
def g__law_plus : Cfg := { N := n__law_plus, sc := defScope (st 41), fns := [d__law_up, d__law_least], glo := [], blt := BLT, exs := [], subs := [], k := 1, fu := 1048576 }
abbrev l__law_plus_1 : Sf := (sIf (xbV (xOp2 gLt (Bo.e (xOp2 gIdx (Bo.v 0) (Bo.e (xC (PyData.int 4))))) (Bo.e (xOp2 gIdx (Bo.v 1) (Bo.e (xC (PyData.int 4))))))) (sSet 0 (xCall F__law_up [(Ar.e (xV 0))])) (sSet 1 (xCall F__law_up [(Ar.e (xV 1))])))
abbrev e__law_plus_1 : Xf := (xOp2 gAdd (Bo.e (xOp2 gIdx (Bo.v 0) (Bo.v 3))) (Bo.e (xOp2 gIdx (Bo.v 1) (Bo.v 3))))
def b__law_plus : Sf := (sSeq (sFor (xiRg1 (xOp1 gAbs (Bo.e (xOp2 gMinus (Bo.e (xOp2 gIdx (Bo.v 0) (Bo.e (xC (PyData.int 4))))) (Bo.e (xOp2 gIdx (Bo.v 1) (Bo.e (xC (PyData.int 4))))))))) (tgN 2) l__law_plus_1) (sRet (xCall F__law_least [(Ar.e (xOp2 gAdd (Bo.e (xOp1 gToTup (Bo.e (xD (xLc (xiRg1 (xC (PyData.int 4))) (tgN 3) xbYes e__law_plus_1 [3]))))) (Bo.e (xTup (xCons (xOp2 gIdx (Bo.v 0) (Bo.e (xC (PyData.int 4)))) xNil)))))])))
def F__law_plus : Fn := runF 2 4 b__law_plus
theorem o__law_plus : DefOk g__law_plus (st 41) "_law_plus" ["one", "other"] b__law_plus := defOk_of (m := more3) rfl rfl rfl ⟨by kernel_rfl, by kernel_rfl, by kernel_rfl, by show List.Nodup n__law_plus; decide +kernel, by kernel_rfl, by decide +kernel, by decide +kernel⟩ (by kernel_rfl) (by kernel_rfl) (by kernel_rfl)
def d__law_plus : Fd := ⟨"_law_plus", ["one", "other"], [false, false], F__law_plus⟩
def n__law_times : List Str := ["one", "other", "found", "j", "k"]
def g__law_times : Cfg := { N := n__law_times, sc := defScope (st 42), fns := [d__law_least], glo := [], blt := BLT, exs := [], subs := [], k := 1, fu := 1048576 }
abbrev l__law_times_1 : Sf := (sSetI 2 (xOp2 gMod (Bo.e (xOp1 gInt2 (Bo.e (xOp2 gAdd (Bo.v 3) (Bo.v 4))))) (Bo.e (xC (PyData.int 4)))) (xOp2 gAdd (Bo.e (xOp2 gIdx (Bo.v 2) (Bo.e (xOp2 gMod (Bo.e (xOp1 gInt2 (Bo.e (xOp2 gAdd (Bo.v 3) (Bo.v 4))))) (Bo.e (xC (PyData.int 4))))))) (Bo.e (xOp2 gMul (Bo.e (xOp2 gMul (Bo.e (xOp2 gIdx (Bo.v 0) (Bo.v 3))) (Bo.e (xOp2 gIdx (Bo.v 1) (Bo.v 4))))) (Bo.e (xIf (xbV (xOp2 gLt (Bo.e (xOp2 gAdd (Bo.v 3) (Bo.v 4))) (Bo.e (xC (PyData.int 4))))) (xC (PyData.int 1)) (xOp1 gNeg (Bo.e (xC (PyData.int 1))))))))))
abbrev l__law_times_2 : Sf := (sFor (xiRg1 (xC (PyData.int 4))) (tgN 4) l__law_times_1)
def b__law_times : Sf := (sSeq (sSet 2 (xLstF (xCons (xC (PyData.int 0)) (xCons (xC (PyData.int 0)) (xCons (xC (PyData.int 0)) (xCons (xC (PyData.int 0)) xNil)))))) (sSeq (sFor (xiRg1 (xC (PyData.int 4))) (tgN 3) l__law_times_2) (sRet (xCall F__law_least [(Ar.e (xOp2 gAdd (Bo.e (xOp1 gToTup (Bo.v 2))) (Bo.e (xTup (xCons (xOp2 gAdd (Bo.e (xOp2 gIdx (Bo.v 0) (Bo.e (xC (PyData.int 4))))) (Bo.e (xOp2 gIdx (Bo.v 1) (Bo.e (xC (PyData.int 4)))))) xNil)))))]))))
def F__law_times : Fn := runF 2 5 b__law_times
theorem o__law_times : DefOk g__law_times (st 42) "_law_times" ["one", "other"] b__law_times := defOk_of (m := more3) rfl rfl rfl ⟨by kernel_rfl, by kernel_rfl, by kernel_rfl, by show List.Nodup n__law_times; decide +kernel, by kernel_rfl, by decide +kernel, by decide +kernel⟩ (by kernel_rfl) (by kernel_rfl) (by kernel_rfl)
def d__law_times : Fd := ⟨"_law_times", ["one", "other"], [false, false], F__law_times⟩
def n__law_turned : List Str := ["number", "spin", "turn", "a", "b", "c", "d", "k"]
def g__law_turned : Cfg := { N := n__law_turned, sc := defScope (st 43), fns := [], glo := [], blt := BLT, exs := [], subs := [], k := 0, fu := 1048576 }
abbrev l__law_turned_1 : Sf := (sPar [3, 4, 5, 6] (xsCons (xF (xOp1 gNeg (Bo.v 6))) (xsCons (xF (xV 3)) (xsCons (xF (xV 4)) (xsCons (xF (xV 5)) xsNil)))))
def b__law_turned : Sf := (sSeq (sUnp [3, 4, 5, 6, 7] (xV 0)) (sSeq (sFor (xiRg1 (xV 1)) (tgN 2) l__law_turned_1) (sRet (xF (xTup (xCons (xV 3) (xCons (xV 4) (xCons (xV 5) (xCons (xV 6) (xCons (xV 7) xNil))))))))))
def F__law_turned : Fn := runF 2 8 b__law_turned
theorem o__law_turned : DefOk g__law_turned (st 43) "_law_turned" ["number", "spin"] b__law_turned := defOk_of (m := more3) rfl rfl rfl ⟨by kernel_rfl, by kernel_rfl, by kernel_rfl, by show List.Nodup n__law_turned; decide +kernel, by kernel_rfl, by decide +kernel, by decide +kernel⟩ (by kernel_rfl) (by kernel_rfl) (by kernel_rfl)
def d__law_turned : Fd := ⟨"_law_turned", ["number", "spin"], [false, false], F__law_turned⟩
def n__law_less : List Str := ["number", "part"]
def g__law_less : Cfg := { N := n__law_less, sc := defScope (st 44), fns := [], glo := [], blt := BLT, exs := [], subs := [], k := 0, fu := 1048576 }
abbrev e__law_less_1 : Xf := (xOp1 gNeg (Bo.v 1))
def b__law_less : Sf := (sRet (xOp2F gAdd (Bo.e (xOp1 gToTup (Bo.e (xD (xLc (xiSeq (xSl (Bo.v 0) none (some (xC (PyData.int 4))))) (tgN 1) xbYes e__law_less_1 [1]))))) (Bo.e (xSl (Bo.v 0) (some (xC (PyData.int 4))) none))))
def F__law_less : Fn := runF 1 2 b__law_less
theorem o__law_less : DefOk g__law_less (st 44) "_law_less" ["number"] b__law_less := defOk_of (m := more3) rfl rfl rfl ⟨by kernel_rfl, by kernel_rfl, by kernel_rfl, by show List.Nodup n__law_less; decide +kernel, by kernel_rfl, by decide +kernel, by decide +kernel⟩ (by kernel_rfl) (by kernel_rfl) (by kernel_rfl)
def d__law_less : Fd := ⟨"_law_less", ["number"], [false], F__law_less⟩
def n__law_conj : List Str := ["number", "a", "b", "c", "d", "k"]
def g__law_conj : Cfg := { N := n__law_conj, sc := defScope (st 45), fns := [], glo := [], blt := BLT, exs := [], subs := [], k := 0, fu := 1048576 }
def b__law_conj : Sf := (sSeq (sUnp [1, 2, 3, 4, 5] (xV 0)) (sRet (xF (xTup (xCons (xV 1) (xCons (xOp1 gNeg (Bo.v 4)) (xCons (xOp1 gNeg (Bo.v 3)) (xCons (xOp1 gNeg (Bo.v 2)) (xCons (xV 5) xNil)))))))))
def F__law_conj : Fn := runF 1 6 b__law_conj
theorem o__law_conj : DefOk g__law_conj (st 45) "_law_conj" ["number"] b__law_conj := defOk_of (m := more3) rfl rfl rfl ⟨by kernel_rfl, by kernel_rfl, by kernel_rfl, by show List.Nodup n__law_conj; decide +kernel, by kernel_rfl, by decide +kernel, by decide +kernel⟩ (by kernel_rfl) (by kernel_rfl) (by kernel_rfl)
def d__law_conj : Fd := ⟨"_law_conj", ["number"], [false], F__law_conj⟩
def n__law_is_number : List Str := ["value"]
def g__law_is_number : Cfg := { N := n__law_is_number, sc := defScope (st 46), fns := [d__law_ints], glo := [], blt := BLT, exs := [], subs := [], k := 2, fu := 1048576 }
def b__law_is_number : Sf := (sSeq (sIf (xbOr (xbNot (xbT (Bo.e (xD (xCall F__law_ints [(Ar.e (xV 0)), (Ar.e (xC (PyData.int 5)))]))))) (xbV (xOp2 gLt (Bo.e (xOp2 gIdx (Bo.v 0) (Bo.e (xC (PyData.int 4))))) (Bo.e (xC (PyData.int 0)))))) (sRet (xF (xC (PyData.bool false)))) sNx) (sRet (xF (xOr (xOp2 gEq (Bo.e (xOp2 gIdx (Bo.v 0) (Bo.e (xC (PyData.int 4))))) (Bo.e (xC (PyData.int 0)))) (xOr (xOp2 gEq (Bo.e (xOp2 gMod (Bo.e (xOp1 gInt2 (Bo.e (xOp2 gAdd (Bo.e (xOp2 gIdx (Bo.v 0) (Bo.e (xC (PyData.int 0))))) (Bo.e (xOp2 gIdx (Bo.v 0) (Bo.e (xC (PyData.int 2))))))))) (Bo.e (xC (PyData.int 2))))) (Bo.e (xC (PyData.int 1)))) (xOp2 gEq (Bo.e (xOp2 gMod (Bo.e (xOp1 gInt2 (Bo.e (xOp2 gAdd (Bo.e (xOp2 gIdx (Bo.v 0) (Bo.e (xC (PyData.int 1))))) (Bo.e (xOp2 gIdx (Bo.v 0) (Bo.e (xC (PyData.int 3))))))))) (Bo.e (xC (PyData.int 2))))) (Bo.e (xC (PyData.int 1)))))))))
def F__law_is_number : Fn := runF 1 1 b__law_is_number
theorem o__law_is_number : DefOk g__law_is_number (st 46) "_law_is_number" ["value"] b__law_is_number := defOk_of (m := more3) rfl rfl rfl ⟨by kernel_rfl, by kernel_rfl, by kernel_rfl, by show List.Nodup n__law_is_number; decide +kernel, by kernel_rfl, by decide +kernel, by decide +kernel⟩ (by kernel_rfl) (by kernel_rfl) (by kernel_rfl)
def d__law_is_number : Fd := ⟨"_law_is_number", ["value"], [false], F__law_is_number⟩
def n__law_number : List Str := ["deck", "great", "turn", "way", "parts"]
def g__law_number : Cfg := { N := n__law_number, sc := defScope (st 47), fns := [d__law_draw, d__law_least, d__law_turned], glo := [], blt := BLT, exs := [], subs := [], k := 1, fu := 1048576 }
abbrev l__law_number_1 : Sf := (sApp 4 (xOp2 gMinus (Bo.e (xD (xCall F__law_draw [(Ar.io 0), (Ar.e (xOp2 gAdd (Bo.e (xOp2 gMul (Bo.e (xC (PyData.int 2))) (Bo.v 1))) (Bo.e (xC (PyData.int 1)))))]))) (Bo.v 1)))
def b__law_number : Sf := (sSeq (sPar [3, 4] (xsCons (xCall F__law_draw [(Ar.io 0), (Ar.e (xC (PyData.int 6)))]) (xsCons (xLstF xNil) xsNil))) (sSeq (sFor (xiRg1 (xC (PyData.int 4))) (tgN 2) l__law_number_1) (sSeq (sIf (xbV (xOp2 gEq (Bo.v 3) (Bo.e (xC (PyData.int 0))))) (sRet (xF (xTup (xCons (xC (PyData.int 0)) (xCons (xC (PyData.int 0)) (xCons (xC (PyData.int 0)) (xCons (xC (PyData.int 0)) (xCons (xC (PyData.int 0)) xNil)))))))) sNx) (sSeq (sIf (xbV (xOp2 gEq (Bo.v 3) (Bo.e (xC (PyData.int 1))))) (sRet (xCall F__law_turned [(Ar.e (xTup (xCons (xC (PyData.int 1)) (xCons (xC (PyData.int 0)) (xCons (xC (PyData.int 0)) (xCons (xC (PyData.int 0)) (xCons (xC (PyData.int 0)) xNil))))))), (Ar.e (xD (xCall F__law_draw [(Ar.io 0), (Ar.e (xC (PyData.int 8)))])))])) sNx) (sSeq (sIf (xbV (xOp2 gEq (Bo.v 3) (Bo.e (xC (PyData.int 2))))) (sSet 4 (xLstF (xCons (xOp2 gIdx (Bo.v 4) (Bo.e (xC (PyData.int 0)))) (xCons (xOp2 gIdx (Bo.v 4) (Bo.e (xC (PyData.int 1)))) (xCons (xC (PyData.int 0)) (xCons (xOp1 gNeg (Bo.e (xOp2 gIdx (Bo.v 4) (Bo.e (xC (PyData.int 1)))))) xNil)))))) sNx) (sRet (xCall F__law_least [(Ar.e (xOp2 gAdd (Bo.e (xOp1 gToTup (Bo.v 4))) (Bo.e (xTup (xCons (xD (xCall F__law_draw [(Ar.io 0), (Ar.e (xC (PyData.int 7)))])) xNil)))))])))))))
def F__law_number : Fn := runF 2 5 b__law_number
theorem o__law_number : DefOk g__law_number (st 47) "_law_number" ["deck", "great"] b__law_number := defOk_of (m := more3) rfl rfl rfl ⟨by kernel_rfl, by kernel_rfl, by kernel_rfl, by show List.Nodup n__law_number; decide +kernel, by kernel_rfl, by decide +kernel, by decide +kernel⟩ (by kernel_rfl) (by kernel_rfl) (by kernel_rfl)
def d__law_number : Fd := ⟨"_law_number", ["deck", "great"], [true, false], F__law_number⟩
def n__law_two : List Str := ["count", "found", "turn"]
def g__law_two : Cfg := { N := n__law_two, sc := defScope (st 48), fns := [], glo := [], blt := BLT, exs := [], subs := [], k := 0, fu := 1048576 }
abbrev l__law_two_1 : Sf := (sSet 1 (xOp2F gMul (Bo.v 1) (Bo.e (xC (PyData.int 2)))))
def b__law_two : Sf := (sSeq (sSet 1 (xF (xC (PyData.int 1)))) (sSeq (sFor (xiRg1 (xV 0)) (tgN 2) l__law_two_1) (sRetV 1)))
def F__law_two : Fn := runF 1 3 b__law_two
theorem o__law_two : DefOk g__law_two (st 48) "_law_two" ["count"] b__law_two := defOk_of (m := more3) rfl rfl rfl ⟨by kernel_rfl, by kernel_rfl, by kernel_rfl, by show List.Nodup n__law_two; decide +kernel, by kernel_rfl, by decide +kernel, by decide +kernel⟩ (by kernel_rfl) (by kernel_rfl) (by kernel_rfl)
def d__law_two : Fd := ⟨"_law_two", ["count"], [false], F__law_two⟩
def n__law_real : List Str := ["deck", "way", "great", "a", "b", "pairs"]
def g__law_real : Cfg := { N := n__law_real, sc := defScope (st 49), fns := [d__law_draw, d__law_pick, d__law_least], glo := [], blt := BLT, exs := [], subs := [], k := 2, fu := 1048576 }
def b__law_real : Sf := (sSeq (sPar [1, 2] (xsCons (xCall F__law_draw [(Ar.io 0), (Ar.e (xC (PyData.int 4)))]) (xsCons (xF (xOp2 gIdx (Bo.e (xLst (xCons (xC (PyData.int 3)) (xCons (xC (PyData.int 50)) (xCons (xOp2 gPow (Bo.e (xC (PyData.int 10))) (Bo.e (xC (PyData.int 12)))) xNil))))) (Bo.e (xD (xCall F__law_draw [(Ar.io 0), (Ar.e (xC (PyData.int 3)))]))))) xsNil))) (sSeq (sPar [3, 4] (xsCons (xF (xOp2 gMinus (Bo.e (xD (xCall F__law_draw [(Ar.io 0), (Ar.e (xOp2 gAdd (Bo.e (xOp2 gMul (Bo.e (xC (PyData.int 2))) (Bo.v 2))) (Bo.e (xC (PyData.int 1)))))]))) (Bo.v 2))) (xsCons (xF (xOp2 gMinus (Bo.e (xD (xCall F__law_draw [(Ar.io 0), (Ar.e (xOp2 gAdd (Bo.e (xOp2 gMul (Bo.e (xC (PyData.int 2))) (Bo.v 2))) (Bo.e (xC (PyData.int 1)))))]))) (Bo.v 2))) xsNil))) (sSeq (sIf (xbV (xOp2 gEq (Bo.v 1) (Bo.e (xC (PyData.int 0))))) (sSeq (sSet 5 (xLstF (xCons (xTup (xCons (xC (PyData.int 7)) (xCons (xOp1 gNeg (Bo.e (xC (PyData.int 5)))) xNil))) (xCons (xTup (xCons (xOp1 gNeg (Bo.e (xC (PyData.int 7)))) (xCons (xC (PyData.int 5)) xNil))) (xCons (xTup (xCons (xC (PyData.int 17)) (xCons (xOp1 gNeg (Bo.e (xC (PyData.int 12)))) xNil))) (xCons (xTup (xCons (xOp1 gNeg (Bo.e (xC (PyData.int 99)))) (xCons (xC (PyData.int 70)) xNil))) (xCons (xTup (xCons (xC (PyData.int 3363)) (xCons (xOp1 gNeg (Bo.e (xC (PyData.int 2378)))) xNil))) (xCons (xTup (xCons (xOp1 gNeg (Bo.e (xC (PyData.int 8119)))) (xCons (xC (PyData.int 5741)) xNil))) (xCons (xTup (xCons (xC (PyData.int 1)) (xCons (xOp1 gNeg (Bo.e (xC (PyData.int 1)))) xNil))) (xCons (xTup (xCons (xC (PyData.int 3)) (xCons (xOp1 gNeg (Bo.e (xC (PyData.int 2)))) xNil))) xNil)))))))))) (sUnp [3, 4] (xD (xCall F__law_pick [(Ar.io 0), (Ar.e (xV 5))])))) sNx) (sRet (xCall F__law_least [(Ar.e (xTup (xCons (xV 3) (xCons (xV 4) (xCons (xC (PyData.int 0)) (xCons (xOp2 gMinus (Bo.e (xC (PyData.int 0))) (Bo.v 4)) (xCons (xD (xCall F__law_draw [(Ar.io 0), (Ar.e (xC (PyData.int 10)))])) xNil)))))))])))))
def F__law_real : Fn := runF 1 6 b__law_real
theorem o__law_real : DefOk g__law_real (st 49) "_law_real" ["deck"] b__law_real := defOk_of (m := more3) rfl rfl rfl ⟨by kernel_rfl, by kernel_rfl, by kernel_rfl, by show List.Nodup n__law_real; decide +kernel, by kernel_rfl, by decide +kernel, by decide +kernel⟩ (by kernel_rfl) (by kernel_rfl) (by kernel_rfl)
def d__law_real : Fd := ⟨"_law_real", ["deck"], [true], F__law_real⟩
def n__law_sign : List Str := ["real", "a", "b"]
def g__law_sign : Cfg := { N := n__law_sign, sc := defScope (st 50), fns := [], glo := [], blt := BLT, exs := [], subs := [], k := 0, fu := 1048576 }
def b__law_sign : Sf := (sSeq (sPar [1, 2] (xsCons (xF (xOp2 gIdx (Bo.v 0) (Bo.e (xC (PyData.int 0))))) (xsCons (xF (xOp2 gIdx (Bo.v 0) (Bo.e (xC (PyData.int 1))))) xsNil))) (sSeq (sIf (xbOr (xbV (xOp2 gEq (Bo.v 1) (Bo.e (xC (PyData.int 0))))) (xbOr (xbV (xOp2 gEq (Bo.v 2) (Bo.e (xC (PyData.int 0))))) (xbV (xOp2 gEq (Bo.e (xOp2 gGt (Bo.v 1) (Bo.e (xC (PyData.int 0))))) (Bo.e (xOp2 gGt (Bo.v 2) (Bo.e (xC (PyData.int 0))))))))) (sRet (xIfF (xbAnd (xbV (xOp2 gEq (Bo.v 1) (Bo.e (xC (PyData.int 0))))) (xbV (xOp2 gEq (Bo.v 2) (Bo.e (xC (PyData.int 0)))))) (xF (xC (PyData.int 0))) (xIfF (xbOr (xbV (xOp2 gGt (Bo.v 1) (Bo.e (xC (PyData.int 0))))) (xbV (xOp2 gGt (Bo.v 2) (Bo.e (xC (PyData.int 0)))))) (xF (xC (PyData.int 1))) (xF (xOp1 gNeg (Bo.e (xC (PyData.int 1)))))))) sNx) (sRet (xIfF (xbV (xOp2 gGt (Bo.e (xOp2 gMul (Bo.v 1) (Bo.v 1))) (Bo.e (xOp2 gMul (Bo.e (xOp2 gMul (Bo.e (xC (PyData.int 2))) (Bo.v 2))) (Bo.v 2))))) (xIfF (xbV (xOp2 gGt (Bo.v 1) (Bo.e (xC (PyData.int 0))))) (xF (xC (PyData.int 1))) (xF (xOp1 gNeg (Bo.e (xC (PyData.int 1)))))) (xIfF (xbV (xOp2 gGt (Bo.v 2) (Bo.e (xC (PyData.int 0))))) (xF (xC (PyData.int 1))) (xF (xOp1 gNeg (Bo.e (xC (PyData.int 1))))))))))
def F__law_sign : Fn := runF 1 3 b__law_sign
theorem o__law_sign : DefOk g__law_sign (st 50) "_law_sign" ["real"] b__law_sign := defOk_of (m := more3) rfl rfl rfl ⟨by kernel_rfl, by kernel_rfl, by kernel_rfl, by show List.Nodup n__law_sign; decide +kernel, by kernel_rfl, by decide +kernel, by decide +kernel⟩ (by kernel_rfl) (by kernel_rfl) (by kernel_rfl)
def d__law_sign : Fd := ⟨"_law_sign", ["real"], [false], F__law_sign⟩
def n__law_root : List Str := ["number", "turn", "low", "high", "middle"]
def g__law_root : Cfg := { N := n__law_root, sc := defScope (st 51), fns := [], glo := [], blt := BLT, exs := [], subs := [], k := 0, fu := 1048576 }
abbrev l__law_root_1 : Sf := (sSeq (sIf (xbV (xOp2 gLt (Bo.e (xOp2 gMinus (Bo.v 3) (Bo.v 2))) (Bo.e (xC (PyData.int 2))))) sBk sNx) (sSeq (sSet 4 (xF (xOp2 gFdiv (Bo.e (xOp2 gAdd (Bo.v 2) (Bo.v 3))) (Bo.e (xC (PyData.int 2)))))) (sIf (xbV (xOp2 gLe (Bo.e (xOp2 gMul (Bo.v 4) (Bo.v 4))) (Bo.v 0))) (sSet 2 (xF (xV 4))) (sSet 3 (xF (xV 4))))))
def b__law_root : Sf := (sSeq (sPar [2, 3] (xsCons (xF (xC (PyData.int 0))) (xsCons (xOp2F gAdd (Bo.v 0) (Bo.e (xC (PyData.int 1)))) xsNil))) (sSeq (sFor (xiRg1 (xC (PyData.int 400))) (tgN 1) l__law_root_1) (sRetV 2)))
def F__law_root : Fn := runF 1 5 b__law_root
theorem o__law_root : DefOk g__law_root (st 51) "_law_root" ["number"] b__law_root := defOk_of (m := more3) rfl rfl rfl ⟨by kernel_rfl, by kernel_rfl, by kernel_rfl, by show List.Nodup n__law_root; decide +kernel, by kernel_rfl, by decide +kernel, by decide +kernel⟩ (by kernel_rfl) (by kernel_rfl) (by kernel_rfl)
def d__law_root : Fd := ⟨"_law_root", ["number"], [false], F__law_root⟩
def n__law_floor : List Str := ["real", "roots", "whole", "a", "b", "k"]
def g__law_floor : Cfg := { N := n__law_floor, sc := defScope (st 52), fns := [d__law_two, d__law_root], glo := [], blt := BLT, exs := [], subs := [], k := 1, fu := 1048576 }
def b__law_floor : Sf := (sSeq (sPar [3, 4, 5] (xsCons (xF (xOp2 gIdx (Bo.v 0) (Bo.e (xC (PyData.int 0))))) (xsCons (xF (xOp2 gIdx (Bo.v 0) (Bo.e (xC (PyData.int 1))))) (xsCons (xF (xOp2 gIdx (Bo.v 0) (Bo.e (xC (PyData.int 4))))) xsNil)))) (sSeq (sIf (xbV (xOp2 gEq (Bo.e (xOp2 gMod (Bo.e (xOp1 gInt2 (Bo.v 5))) (Bo.e (xC (PyData.int 2))))) (Bo.e (xC (PyData.int 1))))) (sPar [3, 4, 5] (xsCons (xOp2F gMul (Bo.e (xC (PyData.int 2))) (Bo.v 4)) (xsCons (xF (xV 3)) (xsCons (xOp2F gAdd (Bo.v 5) (Bo.e (xC (PyData.int 1)))) xsNil)))) sNx) (sSeq (sSet 1 (xCall F__law_root [(Ar.e (xOp2 gMul (Bo.e (xOp2 gMul (Bo.e (xC (PyData.int 2))) (Bo.v 4))) (Bo.v 4)))])) (sSeq (sSet 2 (xOp2F gAdd (Bo.v 3) (Bo.e (xIf (xbV (xOp2 gGe (Bo.v 4) (Bo.e (xC (PyData.int 0))))) (xV 1) (xOp2 gMinus (Bo.e (xOp2 gMinus (Bo.e (xC (PyData.int 0))) (Bo.v 1))) (Bo.e (xC (PyData.int 1)))))))) (sRet (xF (xOp2 gFdiv (Bo.e (xOp1 gInt2 (Bo.v 2))) (Bo.e (xD (xCall F__law_two [(Ar.e (xOp2 gFdiv (Bo.v 5) (Bo.e (xC (PyData.int 2)))))]))))))))))
def F__law_floor : Fn := runF 1 6 b__law_floor
theorem o__law_floor : DefOk g__law_floor (st 52) "_law_floor" ["real"] b__law_floor := defOk_of (m := more3) rfl rfl rfl ⟨by kernel_rfl, by kernel_rfl, by kernel_rfl, by show List.Nodup n__law_floor; decide +kernel, by kernel_rfl, by decide +kernel, by decide +kernel⟩ (by kernel_rfl) (by kernel_rfl) (by kernel_rfl)
def d__law_floor : Fd := ⟨"_law_floor", ["real"], [false], F__law_floor⟩
def n__law_parts_right : List Str := ["number", "one", "other"]
def g__law_parts_right : Cfg := { N := n__law_parts_right, sc := defScope (st 53), fns := [d_is_real, d_real_part, d_other_part, d__law_same, d__law_plus, d__law_times, d__law_conj], glo := [], blt := BLT, exs := [], subs := [], k := 60, fu := 1048576 }
def b__law_parts_right : Sf := (sSeq (sPar [1, 2] (xsCons (xCall F_real_part [(Ar.e (xV 0))]) (xsCons (xCall F_other_part [(Ar.e (xV 0))]) xsNil))) (sSeq (sIf (xbOr (xbNot (xbT (Bo.e (xD (xCall F__law_same [(Ar.e (xD (xCall F_is_real [(Ar.e (xV 1))]))), (Ar.e (xC (PyData.bool true)))]))))) (xbNot (xbT (Bo.e (xD (xCall F__law_same [(Ar.e (xD (xCall F_is_real [(Ar.e (xV 2))]))), (Ar.e (xC (PyData.bool true)))])))))) (sRet (xF (xC (PyData.bool false)))) sNx) (sSeq (sIf (xbV (xOp2 gNe (Bo.e (xD (xCall F__law_plus [(Ar.e (xV 1)), (Ar.e (xD (xCall F__law_times [(Ar.e (xTup (xCons (xC (PyData.int 0)) (xCons (xC (PyData.int 0)) (xCons (xC (PyData.int 1)) (xCons (xC (PyData.int 0)) (xCons (xC (PyData.int 0)) xNil))))))), (Ar.e (xV 2))])))]))) (Bo.v 0))) (sRet (xF (xC (PyData.bool false)))) sNx) (sRet (xF (xOp2 gEq (Bo.e (xD (xCall F__law_plus [(Ar.e (xV 1)), (Ar.e (xV 1))]))) (Bo.e (xD (xCall F__law_plus [(Ar.e (xV 0)), (Ar.e (xD (xCall F__law_conj [(Ar.e (xV 0))])))])))))))))
def F__law_parts_right : Fn := runF 1 3 b__law_parts_right
theorem o__law_parts_right : DefOk g__law_parts_right (st 53) "_law_parts_right" ["number"] b__law_parts_right := defOk_of (m := more3) rfl rfl rfl ⟨by kernel_rfl, by kernel_rfl, by kernel_rfl, by show List.Nodup n__law_parts_right; decide +kernel, by kernel_rfl, by decide +kernel, by decide +kernel⟩ (by kernel_rfl) (by kernel_rfl) (by kernel_rfl)
def d__law_parts_right : Fd := ⟨"_law_parts_right", ["number"], [false], F__law_parts_right⟩
def n__law_asked : List Str := ["which", "one", "other", "found", "word"]
def g__law_asked : Cfg := { N := n__law_asked, sc := defScope (st 54), fns := [d_sign, d_below, d_floor, d_real_part, d_other_part], glo := [], blt := BLT, exs := EXS, subs := SUBS, k := 5, fu := 1048576 }
def b__law_asked : Sf := (sSeq (sPar [3, 4] (xsCons (xF (xC PyData.none)) (xsCons (xF (xC (PyData.str (Str.ofString "")))) xsNil))) (sSeq (sTry [(Str.ofString "InvalidNumber"), (Str.ofString "InvalidReal")] [((Str.ofString "InvalidNumber"), (Str.ofString "InvalidNumber")), ((Str.ofString "InvalidReal"), (Str.ofString "InvalidReal"))] (sIf (xbV (xOp2 gEq (Bo.v 0) (Bo.e (xC (PyData.int 0))))) (sSet 3 (xCall F_sign [(Ar.e (xV 1))])) (sIf (xbV (xOp2 gEq (Bo.v 0) (Bo.e (xC (PyData.int 1))))) (sSet 3 (xCall F_floor [(Ar.e (xV 1))])) (sIf (xbV (xOp2 gEq (Bo.v 0) (Bo.e (xC (PyData.int 2))))) (sSet 3 (xCall F_below [(Ar.e (xV 1)), (Ar.e (xV 2))])) (sIf (xbV (xOp2 gEq (Bo.v 0) (Bo.e (xC (PyData.int 3))))) (sSet 3 (xCall F_real_part [(Ar.e (xV 1))])) (sSet 3 (xCall F_other_part [(Ar.e (xV 1))])))))) [((Str.ofString "InvalidNumber"), (sSet 4 (xF (xC (PyData.str (Str.ofString "number")))))), ((Str.ofString "InvalidReal"), (sSet 4 (xF (xC (PyData.str (Str.ofString "real"))))))]) (sRet (xIfF (xbV (xOp2 gEq (Bo.v 4) (Bo.e (xC (PyData.str (Str.ofString "")))))) (xLstF (xCons (xV 3) xNil)) (xF (xV 4))))))
def F__law_asked : Fn := runF 3 5 b__law_asked
theorem o__law_asked : DefOk g__law_asked (st 54) "_law_asked" ["which", "one", "other"] b__law_asked := defOk_of (m := more3) rfl rfl rfl ⟨by kernel_rfl, by kernel_rfl, by kernel_rfl, by show List.Nodup n__law_asked; decide +kernel, by kernel_rfl, by decide +kernel, by decide +kernel⟩ (by kernel_rfl) (by kernel_rfl) (by kernel_rfl)
def d__law_asked : Fd := ⟨"_law_asked", ["which", "one", "other"], [false, false, false], F__law_asked⟩
def n__law_errors_right : List Str := ["deck", "real", "bad", "odd", "found"]
def g__law_errors_right : Cfg := { N := n__law_errors_right, sc := defScope (st 55), fns := [d__law_pick, d__law_asked], glo := [], blt := BLT, exs := [], subs := [], k := 6, fu := 1048576 }
def b__law_errors_right : Sf := (sSeq (sSet 2 (xCall F__law_pick [(Ar.io 0), (Ar.e (xLst (xCons (xTup (xCons (xC (PyData.int 0)) (xCons (xC (PyData.int 1)) (xCons (xC (PyData.int 0)) (xCons (xC (PyData.int 0)) (xCons (xC (PyData.int 0)) xNil)))))) (xCons (xTup (xCons (xC (PyData.int 0)) (xCons (xC (PyData.int 0)) (xCons (xC (PyData.int 1)) (xCons (xC (PyData.int 0)) (xCons (xC (PyData.int 0)) xNil)))))) (xCons (xC PyData.none) (xCons (xOp1 gToLst (Bo.v 1)) (xCons (xSl (Bo.v 1) none (some (xC (PyData.int 4)))) (xCons (xTup (xCons (xC (PyData.int 2)) (xCons (xC (PyData.int 0)) (xCons (xC (PyData.int 0)) (xCons (xC (PyData.int 0)) (xCons (xC (PyData.int 1)) xNil)))))) (xCons (xC (PyData.int 3)) xNil)))))))))])) (sSeq (sSet 3 (xCall F__law_pick [(Ar.io 0), (Ar.e (xLst (xCons (xC PyData.none) (xCons (xOp1 gToLst (Bo.v 1)) (xCons (xSl (Bo.v 1) none (some (xC (PyData.int 4)))) (xCons (xTup (xCons (xC (PyData.int 2)) (xCons (xC (PyData.int 0)) (xCons (xC (PyData.int 0)) (xCons (xC (PyData.int 0)) (xCons (xC (PyData.int 1)) xNil)))))) (xCons (xC (PyData.int 3)) (xCons (xC (PyData.str (Str.ofString "1"))) xNil))))))))])) (sSeq (sSet 4 (xLstF (xCons (xD (xCall F__law_asked [(Ar.e (xC (PyData.int 0))), (Ar.e (xV 2)), (Ar.e (xC (PyData.int 0)))])) (xCons (xD (xCall F__law_asked [(Ar.e (xC (PyData.int 1))), (Ar.e (xV 2)), (Ar.e (xC (PyData.int 0)))])) (xCons (xD (xCall F__law_asked [(Ar.e (xC (PyData.int 2))), (Ar.e (xV 2)), (Ar.e (xV 1))])) (xCons (xD (xCall F__law_asked [(Ar.e (xC (PyData.int 2))), (Ar.e (xV 1)), (Ar.e (xV 2))])) (xCons (xD (xCall F__law_asked [(Ar.e (xC (PyData.int 3))), (Ar.e (xV 3)), (Ar.e (xC (PyData.int 0)))])) (xCons (xD (xCall F__law_asked [(Ar.e (xC (PyData.int 4))), (Ar.e (xV 3)), (Ar.e (xC (PyData.int 0)))])) xNil)))))))) (sRet (xF (xOp2 gEq (Bo.v 4) (Bo.e (xOp2 gAdd (Bo.e (xOp2 gMul (Bo.e (xLst (xCons (xC (PyData.str (Str.ofString "real"))) xNil))) (Bo.e (xC (PyData.int 4))))) (Bo.e (xOp2 gMul (Bo.e (xLst (xCons (xC (PyData.str (Str.ofString "number"))) xNil))) (Bo.e (xC (PyData.int 2)))))))))))))
def F__law_errors_right : Fn := runF 2 5 b__law_errors_right
theorem o__law_errors_right : DefOk g__law_errors_right (st 55) "_law_errors_right" ["deck", "real"] b__law_errors_right := defOk_of (m := more3) rfl rfl rfl ⟨by kernel_rfl, by kernel_rfl, by kernel_rfl, by show List.Nodup n__law_errors_right; decide +kernel, by kernel_rfl, by decide +kernel, by decide +kernel⟩ (by kernel_rfl) (by kernel_rfl) (by kernel_rfl)
def d__law_errors_right : Fd := ⟨"_law_errors_right", ["deck", "real"], [true, false], F__law_errors_right⟩
def n_law : List Str := ["script", "cell", "deck", "reals", "k", "whole", "value", "turn", "real", "other"]
def g_law : Cfg := { N := n_law, sc := defScope (st 56), fns := [d_is_real, d_sign, d_below, d_floor, d__law_deck, d__law_same, d__law_bent, d__law_plus, d__law_less, d__law_is_number, d__law_number, d__law_real, d__law_sign, d__law_floor, d__law_parts_right, d__law_errors_right], glo := [], blt := BLT, exs := [], subs := [], k := 61, fu := 1048576 }
abbrev e_law_1 : Xf := (xD (xCall F__law_real [(Ar.io 2)]))
abbrev l_law_1 : Sf := (sIf (xbNot (xbT (Bo.e (xD (xCall F__law_same [(Ar.e (xD (xCall F_is_real [(Ar.e (xV 6))]))), (Ar.e (xAnd (xD (xCall F__law_is_number [(Ar.e (xV 6))])) (xAnd (xOp2 gEq (Bo.e (xOp2 gIdx (Bo.v 6) (Bo.e (xC (PyData.int 2))))) (Bo.e (xC (PyData.int 0)))) (xOp2 gEq (Bo.e (xOp2 gIdx (Bo.v 6) (Bo.e (xC (PyData.int 3))))) (Bo.e (xOp2 gMinus (Bo.e (xC (PyData.int 0))) (Bo.e (xOp2 gIdx (Bo.v 6) (Bo.e (xC (PyData.int 1)))))))))))]))))) (sRet (xF (xC (PyData.bool false)))) sNx)
abbrev l_law_2 : Sf := (sSeq (sPar [8, 9] (xsCons (xF (xOp2 gIdx (Bo.v 3) (Bo.v 4))) (xsCons (xF (xOp2 gIdx (Bo.v 3) (Bo.e (xOp2 gMinus (Bo.v 4) (Bo.e (xC (PyData.int 1))))))) xsNil))) (sSeq (sIf (xbOr (xbNot (xbT (Bo.e (xD (xCall F__law_same [(Ar.e (xD (xCall F_sign [(Ar.e (xV 8))]))), (Ar.e (xD (xCall F__law_sign [(Ar.e (xV 8))])))]))))) (xbNot (xbT (Bo.e (xD (xCall F__law_same [(Ar.e (xD (xCall F_below [(Ar.e (xV 8)), (Ar.e (xV 9))]))), (Ar.e (xOp2 gLt (Bo.e (xD (xCall F__law_sign [(Ar.e (xD (xCall F__law_plus [(Ar.e (xV 8)), (Ar.e (xD (xCall F__law_less [(Ar.e (xV 9))])))])))]))) (Bo.e (xC (PyData.int 0)))))])))))) (sRet (xF (xC (PyData.bool false)))) sNx) (sSeq (sSet 5 (xCall F_floor [(Ar.e (xV 8))])) (sSeq (sIf (xbOr (xbNot (xbT (Bo.e (xD (xCall F__law_same [(Ar.e (xV 5)), (Ar.e (xD (xCall F__law_floor [(Ar.e (xV 8))])))]))))) (xbOr (xbT (Bo.e (xD (xCall F_below [(Ar.e (xV 8)), (Ar.e (xTup (xCons (xV 5) (xCons (xC (PyData.int 0)) (xCons (xC (PyData.int 0)) (xCons (xC (PyData.int 0)) (xCons (xC (PyData.int 0)) xNil)))))))])))) (xbNot (xbT (Bo.e (xD (xCall F_below [(Ar.e (xV 8)), (Ar.e (xTup (xCons (xOp2 gAdd (Bo.v 5) (Bo.e (xC (PyData.int 1)))) (xCons (xC (PyData.int 0)) (xCons (xC (PyData.int 0)) (xCons (xC (PyData.int 0)) (xCons (xC (PyData.int 0)) xNil)))))))]))))))) (sRet (xF (xC (PyData.bool false)))) sNx) (sFor (xiSeq (xLst (xCons (xV 8) (xCons (xD (xCall F__law_bent [(Ar.io 2), (Ar.e (xV 8))])) (xCons (xTup (xCons (xOp2 gIdx (Bo.v 8) (Bo.e (xC (PyData.int 0)))) (xCons (xOp2 gIdx (Bo.v 8) (Bo.e (xC (PyData.int 1)))) (xCons (xC (PyData.int 0)) (xCons (xOp2 gIdx (Bo.v 8) (Bo.e (xC (PyData.int 1)))) (xCons (xOp2 gIdx (Bo.v 8) (Bo.e (xC (PyData.int 4)))) xNil)))))) (xCons (xOp1 gToLst (Bo.v 8)) xNil)))))) (tgN 6) l_law_1)))))
abbrev l_law_3 : Sf := (sSeq (sSet 2 (xCall F__law_deck [(Ar.e (xV 1))])) (sSeq (sSet 3 (xLc (xiRg1 (xC (PyData.int 5))) (tgN 7) xbYes e_law_1 [7])) (sSeq (sFor (xiRg1 (xC (PyData.int 5))) (tgN 4) l_law_2) (sIf (xbOr (xbNot (xbT (Bo.e (xD (xCall F__law_parts_right [(Ar.e (xD (xCall F__law_number [(Ar.io 2), (Ar.e (xC (PyData.int 50)))])))]))))) (xbOr (xbNot (xbT (Bo.e (xD (xCall F__law_parts_right [(Ar.e (xOp2 gIdx (Bo.v 3) (Bo.e (xC (PyData.int 0)))))]))))) (xbNot (xbT (Bo.e (xD (xCall F__law_errors_right [(Ar.io 2), (Ar.e (xOp2 gIdx (Bo.v 3) (Bo.e (xC (PyData.int 1)))))]))))))) (sRet (xF (xC (PyData.bool false)))) sNx))))
def b_law : Sf := (sSeq (sFor (xiSeq (xSl (Bo.e (xOp2 gAdd (Bo.e (xLst (xCons (xC (PyData.int 7530029)) xNil))) (Bo.v 0))) none (some (xC (PyData.int 6))))) (tgN 1) l_law_3) (sRet (xF (xC (PyData.bool true)))))
def F_law : Fn := runF 1 10 b_law
theorem o_law : DefOk g_law (st 56) "law" ["script"] b_law := defOk_of (m := more3) rfl rfl rfl ⟨by kernel_rfl, by kernel_rfl, by kernel_rfl, by show List.Nodup n_law; decide +kernel, by kernel_rfl, by decide +kernel, by decide +kernel⟩ (by kernel_rfl) (by kernel_rfl) (by kernel_rfl)
def d_law : Fd := ⟨"law", ["script"], [false], F_law⟩
def DEFS : List (Str × Stmt) := [((Str.ofString "is_integer" : Str), st 5), ((Str.ofString "is_row" : Str), st 6), ((Str.ofString "is_ring" : Str), st 7), ((Str.ofString "least" : Str), st 8), ((Str.ofString "power_of_two" : Str), st 10), ((Str.ofString "raised" : Str), st 9), ((Str.ofString "add" : Str), st 11), ((Str.ofString "opposite" : Str), st 12), ((Str.ofString "subtract" : Str), st 13), ((Str.ofString "multiply" : Str), st 14), ((Str.ofString "conjugated" : Str), st 15), ((Str.ofString "check_number" : Str), st 17), ((Str.ofString "is_real" : Str), st 21), ((Str.ofString "check_real" : Str), st 22), ((Str.ofString "sign_of" : Str), st 23), ((Str.ofString "sign" : Str), st 24), ((Str.ofString "below" : Str), st 25), ((Str.ofString "integer_root" : Str), st 26), ((Str.ofString "floor_of_roots" : Str), st 27), ((Str.ofString "floor" : Str), st 28), ((Str.ofString "real_part" : Str), st 29), ((Str.ofString "other_part" : Str), st 30), ((Str.ofString "_law_deck" : Str), st 32), ((Str.ofString "_law_draw" : Str), st 33), ((Str.ofString "_law_pick" : Str), st 34), ((Str.ofString "_law_same" : Str), st 35), ((Str.ofString "_law_int" : Str), st 36), ((Str.ofString "_law_ints" : Str), st 37), ((Str.ofString "_law_bent" : Str), st 38), ((Str.ofString "_law_up" : Str), st 39), ((Str.ofString "_law_least" : Str), st 40), ((Str.ofString "_law_plus" : Str), st 41), ((Str.ofString "_law_times" : Str), st 42), ((Str.ofString "_law_turned" : Str), st 43), ((Str.ofString "_law_less" : Str), st 44), ((Str.ofString "_law_conj" : Str), st 45), ((Str.ofString "_law_is_number" : Str), st 46), ((Str.ofString "_law_number" : Str), st 47), ((Str.ofString "_law_two" : Str), st 48), ((Str.ofString "_law_real" : Str), st 49), ((Str.ofString "_law_sign" : Str), st 50), ((Str.ofString "_law_root" : Str), st 51), ((Str.ofString "_law_floor" : Str), st 52), ((Str.ofString "_law_parts_right" : Str), st 53), ((Str.ofString "_law_asked" : Str), st 54), ((Str.ofString "_law_errors_right" : Str), st 55), ((Str.ofString "law" : Str), st 56)]
def GLO : List (Str × D) := [((Str.ofString "HALF" : Str), v_HALF), ((Str.ofString "OTHER_HALF" : Str), v_OTHER_HALF)]
section
variable {P : Program} {w : World} {K : PySem.W.Frag} {mg : Str → Option Value} {base : Heap}
theorem f_is_integer (t : Told K mg DEFS GLO BLT EXS SUBS) : Fits P w K mg base 1 d_is_integer := by
  obtain ⟨f, fd, F, hm⟩ := t.fn ("is_integer", st 5) (List.mem_of_getElem? (i := 0) rfl)
  exact fits_of o_is_integer (t.wd sub_nil (fun _ h => h) (.inl ⟨rfl, rfl⟩) fns_nil) F hm
theorem f_is_row (t : Told K mg DEFS GLO BLT EXS SUBS) : Fits P w K mg base 1 d_is_row := by
  obtain ⟨f, fd, F, hm⟩ := t.fn ("is_row", st 6) (List.mem_of_getElem? (i := 1) rfl)
  exact fits_of o_is_row (t.wd sub_nil (fun _ h => h) (.inl ⟨rfl, rfl⟩) fns_nil) F hm
theorem f_is_ring (t : Told K mg DEFS GLO BLT EXS SUBS) : Fits P w K mg base 2 d_is_ring := by
  obtain ⟨f, fd, F, hm⟩ := t.fn ("is_ring", st 7) (List.mem_of_getElem? (i := 2) rfl)
  exact fits_of o_is_ring (t.wd sub_nil (fun _ h => h) (.inl ⟨rfl, rfl⟩) (fns_cons (f_is_integer t) rfl (fns_cons (f_is_row t) rfl fns_nil))) F hm
theorem f_least (t : Told K mg DEFS GLO BLT EXS SUBS) : Fits P w K mg base 1 d_least := by
  obtain ⟨f, fd, F, hm⟩ := t.fn ("least", st 8) (List.mem_of_getElem? (i := 3) rfl)
  exact fits_of o_least (t.wd sub_nil (fun _ h => h) (.inl ⟨rfl, rfl⟩) fns_nil) F hm
theorem f_power_of_two (t : Told K mg DEFS GLO BLT EXS SUBS) : Fits P w K mg base 1 d_power_of_two := by
  obtain ⟨f, fd, F, hm⟩ := t.fn ("power_of_two", st 10) (List.mem_of_getElem? (i := 4) rfl)
  exact fits_of o_power_of_two (t.wd sub_nil (fun _ h => h) (.inl ⟨rfl, rfl⟩) fns_nil) F hm
theorem f_raised (t : Told K mg DEFS GLO BLT EXS SUBS) : Fits P w K mg base 2 d_raised := by
  obtain ⟨f, fd, F, hm⟩ := t.fn ("raised", st 9) (List.mem_of_getElem? (i := 5) rfl)
  exact fits_of o_raised (t.wd sub_nil (fun _ h => h) (.inl ⟨rfl, rfl⟩) (fns_cons (f_power_of_two t) rfl fns_nil)) F hm
theorem f_add (t : Told K mg DEFS GLO BLT EXS SUBS) : Fits P w K mg base 3 d_add := by
  obtain ⟨f, fd, F, hm⟩ := t.fn ("add", st 11) (List.mem_of_getElem? (i := 6) rfl)
  exact fits_of o_add (t.wd sub_nil (fun _ h => h) (.inl ⟨rfl, rfl⟩) (fns_cons (f_least t) rfl (fns_cons (f_raised t) rfl fns_nil))) F hm
theorem f_opposite (t : Told K mg DEFS GLO BLT EXS SUBS) : Fits P w K mg base 1 d_opposite := by
  obtain ⟨f, fd, F, hm⟩ := t.fn ("opposite", st 12) (List.mem_of_getElem? (i := 7) rfl)
  exact fits_of o_opposite (t.wd sub_nil (fun _ h => h) (.inl ⟨rfl, rfl⟩) fns_nil) F hm
theorem f_subtract (t : Told K mg DEFS GLO BLT EXS SUBS) : Fits P w K mg base 4 d_subtract := by
  obtain ⟨f, fd, F, hm⟩ := t.fn ("subtract", st 13) (List.mem_of_getElem? (i := 8) rfl)
  exact fits_of o_subtract (t.wd sub_nil (fun _ h => h) (.inl ⟨rfl, rfl⟩) (fns_cons (f_add t) rfl (fns_cons (f_opposite t) rfl fns_nil))) F hm
theorem f_multiply (t : Told K mg DEFS GLO BLT EXS SUBS) : Fits P w K mg base 2 d_multiply := by
  obtain ⟨f, fd, F, hm⟩ := t.fn ("multiply", st 14) (List.mem_of_getElem? (i := 9) rfl)
  exact fits_of o_multiply (t.wd sub_nil (fun _ h => h) (.inl ⟨rfl, rfl⟩) (fns_cons (f_least t) rfl fns_nil)) F hm
theorem f_conjugated (t : Told K mg DEFS GLO BLT EXS SUBS) : Fits P w K mg base 1 d_conjugated := by
  obtain ⟨f, fd, F, hm⟩ := t.fn ("conjugated", st 15) (List.mem_of_getElem? (i := 10) rfl)
  exact fits_of o_conjugated (t.wd sub_nil (fun _ h => h) (.inl ⟨rfl, rfl⟩) fns_nil) F hm
theorem f_check_number (t : Told K mg DEFS GLO BLT EXS SUBS) : Fits P w K mg base 3 d_check_number := by
  obtain ⟨f, fd, F, hm⟩ := t.fn ("check_number", st 17) (List.mem_of_getElem? (i := 11) rfl)
  exact fits_of o_check_number (t.wd sub_nil (fun _ h => h) (.inr ⟨rfl, rfl⟩) (fns_cons (f_is_ring t) rfl fns_nil)) F hm
theorem f_is_real (t : Told K mg DEFS GLO BLT EXS SUBS) : Fits P w K mg base 3 d_is_real := by
  obtain ⟨f, fd, F, hm⟩ := t.fn ("is_real", st 21) (List.mem_of_getElem? (i := 12) rfl)
  exact fits_of o_is_real (t.wd sub_nil (fun _ h => h) (.inl ⟨rfl, rfl⟩) (fns_cons (f_is_ring t) rfl fns_nil)) F hm
theorem f_check_real (t : Told K mg DEFS GLO BLT EXS SUBS) : Fits P w K mg base 4 d_check_real := by
  obtain ⟨f, fd, F, hm⟩ := t.fn ("check_real", st 22) (List.mem_of_getElem? (i := 13) rfl)
  exact fits_of o_check_real (t.wd sub_nil (fun _ h => h) (.inr ⟨rfl, rfl⟩) (fns_cons (f_is_real t) rfl fns_nil)) F hm
theorem f_sign_of (t : Told K mg DEFS GLO BLT EXS SUBS) : Fits P w K mg base 1 d_sign_of := by
  obtain ⟨f, fd, F, hm⟩ := t.fn ("sign_of", st 23) (List.mem_of_getElem? (i := 14) rfl)
  exact fits_of o_sign_of (t.wd sub_nil (fun _ h => h) (.inl ⟨rfl, rfl⟩) fns_nil) F hm
theorem f_sign (t : Told K mg DEFS GLO BLT EXS SUBS) : Fits P w K mg base 5 d_sign := by
  obtain ⟨f, fd, F, hm⟩ := t.fn ("sign", st 24) (List.mem_of_getElem? (i := 15) rfl)
  exact fits_of o_sign (t.wd sub_nil (fun _ h => h) (.inl ⟨rfl, rfl⟩) (fns_cons (f_check_real t) rfl (fns_cons (f_sign_of t) rfl fns_nil))) F hm
theorem f_below (t : Told K mg DEFS GLO BLT EXS SUBS) : Fits P w K mg base 5 d_below := by
  obtain ⟨f, fd, F, hm⟩ := t.fn ("below", st 25) (List.mem_of_getElem? (i := 16) rfl)
  exact fits_of o_below (t.wd sub_nil (fun _ h => h) (.inl ⟨rfl, rfl⟩) (fns_cons (f_subtract t) rfl (fns_cons (f_check_real t) rfl (fns_cons (f_sign_of t) rfl fns_nil)))) F hm
theorem f_integer_root (t : Told K mg DEFS GLO BLT EXS SUBS) : Fits P w K mg base 2 d_integer_root := by
  obtain ⟨f, fd, F, hm⟩ := t.fn ("integer_root", st 26) (List.mem_of_getElem? (i := 17) rfl)
  exact fits_of o_integer_root (t.wd sub_nil (fun _ h => h) (.inl ⟨rfl, rfl⟩) (fns_cons (f_power_of_two t) rfl fns_nil)) F hm
theorem f_floor_of_roots (t : Told K mg DEFS GLO BLT EXS SUBS) : Fits P w K mg base 3 d_floor_of_roots := by
  obtain ⟨f, fd, F, hm⟩ := t.fn ("floor_of_roots", st 27) (List.mem_of_getElem? (i := 18) rfl)
  exact fits_of o_floor_of_roots (t.wd sub_nil (fun _ h => h) (.inl ⟨rfl, rfl⟩) (fns_cons (f_integer_root t) rfl fns_nil)) F hm
theorem f_floor (t : Told K mg DEFS GLO BLT EXS SUBS) : Fits P w K mg base 5 d_floor := by
  obtain ⟨f, fd, F, hm⟩ := t.fn ("floor", st 28) (List.mem_of_getElem? (i := 19) rfl)
  exact fits_of o_floor (t.wd sub_nil (fun _ h => h) (.inl ⟨rfl, rfl⟩) (fns_cons (f_power_of_two t) rfl (fns_cons (f_check_real t) rfl (fns_cons (f_floor_of_roots t) rfl fns_nil)))) F hm
theorem f_real_part (t : Told K mg DEFS GLO BLT EXS SUBS) : Fits P w K mg base 4 d_real_part := by
  obtain ⟨f, fd, F, hm⟩ := t.fn ("real_part", st 29) (List.mem_of_getElem? (i := 20) rfl)
  exact fits_of o_real_part (t.wd (sub_cons (List.mem_of_getElem? (i := 0) rfl) sub_nil) (fun _ h => h) (.inl ⟨rfl, rfl⟩) (fns_cons (f_add t) rfl (fns_cons (f_multiply t) rfl (fns_cons (f_conjugated t) rfl (fns_cons (f_check_number t) rfl fns_nil))))) F hm
theorem f_other_part (t : Told K mg DEFS GLO BLT EXS SUBS) : Fits P w K mg base 5 d_other_part := by
  obtain ⟨f, fd, F, hm⟩ := t.fn ("other_part", st 30) (List.mem_of_getElem? (i := 21) rfl)
  exact fits_of o_other_part (t.wd (sub_cons (List.mem_of_getElem? (i := 1) rfl) sub_nil) (fun _ h => h) (.inl ⟨rfl, rfl⟩) (fns_cons (f_subtract t) rfl (fns_cons (f_multiply t) rfl (fns_cons (f_conjugated t) rfl (fns_cons (f_check_number t) rfl fns_nil))))) F hm
theorem f__law_deck (t : Told K mg DEFS GLO BLT EXS SUBS) : Fits P w K mg base 1 d__law_deck := by
  obtain ⟨f, fd, F, hm⟩ := t.fn ("_law_deck", st 32) (List.mem_of_getElem? (i := 22) rfl)
  exact fits_of o__law_deck (t.wd sub_nil (fun _ h => h) (.inl ⟨rfl, rfl⟩) fns_nil) F hm
theorem f__law_draw (t : Told K mg DEFS GLO BLT EXS SUBS) : Fits P w K mg base 1 d__law_draw := by
  obtain ⟨f, fd, F, hm⟩ := t.fn ("_law_draw", st 33) (List.mem_of_getElem? (i := 23) rfl)
  exact fits_of o__law_draw (t.wd sub_nil (fun _ h => h) (.inl ⟨rfl, rfl⟩) fns_nil) F hm
theorem f__law_pick (t : Told K mg DEFS GLO BLT EXS SUBS) : Fits P w K mg base 2 d__law_pick := by
  obtain ⟨f, fd, F, hm⟩ := t.fn ("_law_pick", st 34) (List.mem_of_getElem? (i := 24) rfl)
  exact fits_of o__law_pick (t.wd sub_nil (fun _ h => h) (.inl ⟨rfl, rfl⟩) (fns_cons (f__law_draw t) rfl fns_nil)) F hm
theorem f__law_same (t : Told K mg DEFS GLO BLT EXS SUBS) : Fits P w K mg base 60 d__law_same := by
  obtain ⟨f, fd, F, hm⟩ := t.fn ("_law_same", st 35) (List.mem_of_getElem? (i := 25) rfl)
  exact fits_rec (k0 := 0) (R := R__law_same) F hm o__law_same (fun _ _ => rfl) (fun _ _ => rfl) rfl (fun _ => rfl) (fun F k hk h => t.wd sub_nil (fun _ h => h) (.inl ⟨rfl, rfl⟩) (fns_consL h (Nat.le_refl _) fns_nil)) 60
theorem f__law_int (t : Told K mg DEFS GLO BLT EXS SUBS) : Fits P w K mg base 1 d__law_int := by
  obtain ⟨f, fd, F, hm⟩ := t.fn ("_law_int", st 36) (List.mem_of_getElem? (i := 26) rfl)
  exact fits_of o__law_int (t.wd sub_nil (fun _ h => h) (.inl ⟨rfl, rfl⟩) fns_nil) F hm
theorem f__law_ints (t : Told K mg DEFS GLO BLT EXS SUBS) : Fits P w K mg base 2 d__law_ints := by
  obtain ⟨f, fd, F, hm⟩ := t.fn ("_law_ints", st 37) (List.mem_of_getElem? (i := 27) rfl)
  exact fits_of o__law_ints (t.wd sub_nil (fun _ h => h) (.inl ⟨rfl, rfl⟩) (fns_cons (f__law_int t) rfl fns_nil)) F hm
theorem f__law_bent (t : Told K mg DEFS GLO BLT EXS SUBS) : Fits P w K mg base 61 d__law_bent := by
  obtain ⟨f, fd, F, hm⟩ := t.fn ("_law_bent", st 38) (List.mem_of_getElem? (i := 28) rfl)
  exact fits_rec (k0 := 1) (R := R__law_bent) F hm o__law_bent (fun _ _ => rfl) (fun _ _ => rfl) rfl (fun _ => rfl) (fun F k hk h => t.wd sub_nil (fun _ h => h) (.inl ⟨rfl, rfl⟩) (fns_consL (f__law_draw t) (Nat.le_trans (Nat.le_of_ble_eq_true rfl) hk) (fns_consL h (Nat.le_refl _) fns_nil))) 60
theorem f__law_up (t : Told K mg DEFS GLO BLT EXS SUBS) : Fits P w K mg base 1 d__law_up := by
  obtain ⟨f, fd, F, hm⟩ := t.fn ("_law_up", st 39) (List.mem_of_getElem? (i := 29) rfl)
  exact fits_of o__law_up (t.wd sub_nil (fun _ h => h) (.inl ⟨rfl, rfl⟩) fns_nil) F hm
theorem f__law_least (t : Told K mg DEFS GLO BLT EXS SUBS) : Fits P w K mg base 1 d__law_least := by
  obtain ⟨f, fd, F, hm⟩ := t.fn ("_law_least", st 40) (List.mem_of_getElem? (i := 30) rfl)
  exact fits_of o__law_least (t.wd sub_nil (fun _ h => h) (.inl ⟨rfl, rfl⟩) fns_nil) F hm
theorem f__law_plus (t : Told K mg DEFS GLO BLT EXS SUBS) : Fits P w K mg base 2 d__law_plus := by
  obtain ⟨f, fd, F, hm⟩ := t.fn ("_law_plus", st 41) (List.mem_of_getElem? (i := 31) rfl)
  exact fits_of o__law_plus (t.wd sub_nil (fun _ h => h) (.inl ⟨rfl, rfl⟩) (fns_cons (f__law_up t) rfl (fns_cons (f__law_least t) rfl fns_nil))) F hm
theorem f__law_times (t : Told K mg DEFS GLO BLT EXS SUBS) : Fits P w K mg base 2 d__law_times := by
  obtain ⟨f, fd, F, hm⟩ := t.fn ("_law_times", st 42) (List.mem_of_getElem? (i := 32) rfl)
  exact fits_of o__law_times (t.wd sub_nil (fun _ h => h) (.inl ⟨rfl, rfl⟩) (fns_cons (f__law_least t) rfl fns_nil)) F hm
theorem f__law_turned (t : Told K mg DEFS GLO BLT EXS SUBS) : Fits P w K mg base 1 d__law_turned := by
  obtain ⟨f, fd, F, hm⟩ := t.fn ("_law_turned", st 43) (List.mem_of_getElem? (i := 33) rfl)
  exact fits_of o__law_turned (t.wd sub_nil (fun _ h => h) (.inl ⟨rfl, rfl⟩) fns_nil) F hm
theorem f__law_less (t : Told K mg DEFS GLO BLT EXS SUBS) : Fits P w K mg base 1 d__law_less := by
  obtain ⟨f, fd, F, hm⟩ := t.fn ("_law_less", st 44) (List.mem_of_getElem? (i := 34) rfl)
  exact fits_of o__law_less (t.wd sub_nil (fun _ h => h) (.inl ⟨rfl, rfl⟩) fns_nil) F hm
theorem f__law_conj (t : Told K mg DEFS GLO BLT EXS SUBS) : Fits P w K mg base 1 d__law_conj := by
  obtain ⟨f, fd, F, hm⟩ := t.fn ("_law_conj", st 45) (List.mem_of_getElem? (i := 35) rfl)
  exact fits_of o__law_conj (t.wd sub_nil (fun _ h => h) (.inl ⟨rfl, rfl⟩) fns_nil) F hm
theorem f__law_is_number (t : Told K mg DEFS GLO BLT EXS SUBS) : Fits P w K mg base 3 d__law_is_number := by
  obtain ⟨f, fd, F, hm⟩ := t.fn ("_law_is_number", st 46) (List.mem_of_getElem? (i := 36) rfl)
  exact fits_of o__law_is_number (t.wd sub_nil (fun _ h => h) (.inl ⟨rfl, rfl⟩) (fns_cons (f__law_ints t) rfl fns_nil)) F hm
theorem f__law_number (t : Told K mg DEFS GLO BLT EXS SUBS) : Fits P w K mg base 2 d__law_number := by
  obtain ⟨f, fd, F, hm⟩ := t.fn ("_law_number", st 47) (List.mem_of_getElem? (i := 37) rfl)
  exact fits_of o__law_number (t.wd sub_nil (fun _ h => h) (.inl ⟨rfl, rfl⟩) (fns_cons (f__law_draw t) rfl (fns_cons (f__law_least t) rfl (fns_cons (f__law_turned t) rfl fns_nil)))) F hm
theorem f__law_two (t : Told K mg DEFS GLO BLT EXS SUBS) : Fits P w K mg base 1 d__law_two := by
  obtain ⟨f, fd, F, hm⟩ := t.fn ("_law_two", st 48) (List.mem_of_getElem? (i := 38) rfl)
  exact fits_of o__law_two (t.wd sub_nil (fun _ h => h) (.inl ⟨rfl, rfl⟩) fns_nil) F hm
theorem f__law_real (t : Told K mg DEFS GLO BLT EXS SUBS) : Fits P w K mg base 3 d__law_real := by
  obtain ⟨f, fd, F, hm⟩ := t.fn ("_law_real", st 49) (List.mem_of_getElem? (i := 39) rfl)
  exact fits_of o__law_real (t.wd sub_nil (fun _ h => h) (.inl ⟨rfl, rfl⟩) (fns_cons (f__law_draw t) rfl (fns_cons (f__law_pick t) rfl (fns_cons (f__law_least t) rfl fns_nil)))) F hm
theorem f__law_sign (t : Told K mg DEFS GLO BLT EXS SUBS) : Fits P w K mg base 1 d__law_sign := by
  obtain ⟨f, fd, F, hm⟩ := t.fn ("_law_sign", st 50) (List.mem_of_getElem? (i := 40) rfl)
  exact fits_of o__law_sign (t.wd sub_nil (fun _ h => h) (.inl ⟨rfl, rfl⟩) fns_nil) F hm
theorem f__law_root (t : Told K mg DEFS GLO BLT EXS SUBS) : Fits P w K mg base 1 d__law_root := by
  obtain ⟨f, fd, F, hm⟩ := t.fn ("_law_root", st 51) (List.mem_of_getElem? (i := 41) rfl)
  exact fits_of o__law_root (t.wd sub_nil (fun _ h => h) (.inl ⟨rfl, rfl⟩) fns_nil) F hm
theorem f__law_floor (t : Told K mg DEFS GLO BLT EXS SUBS) : Fits P w K mg base 2 d__law_floor := by
  obtain ⟨f, fd, F, hm⟩ := t.fn ("_law_floor", st 52) (List.mem_of_getElem? (i := 42) rfl)
  exact fits_of o__law_floor (t.wd sub_nil (fun _ h => h) (.inl ⟨rfl, rfl⟩) (fns_cons (f__law_two t) rfl (fns_cons (f__law_root t) rfl fns_nil))) F hm
theorem f__law_parts_right (t : Told K mg DEFS GLO BLT EXS SUBS) : Fits P w K mg base 61 d__law_parts_right := by
  obtain ⟨f, fd, F, hm⟩ := t.fn ("_law_parts_right", st 53) (List.mem_of_getElem? (i := 43) rfl)
  exact fits_of o__law_parts_right (t.wd sub_nil (fun _ h => h) (.inl ⟨rfl, rfl⟩) (fns_cons (f_is_real t) rfl (fns_cons (f_real_part t) rfl (fns_cons (f_other_part t) rfl (fns_cons (f__law_same t) rfl (fns_cons (f__law_plus t) rfl (fns_cons (f__law_times t) rfl (fns_cons (f__law_conj t) rfl fns_nil)))))))) F hm
theorem f__law_asked (t : Told K mg DEFS GLO BLT EXS SUBS) : Fits P w K mg base 6 d__law_asked := by
  obtain ⟨f, fd, F, hm⟩ := t.fn ("_law_asked", st 54) (List.mem_of_getElem? (i := 44) rfl)
  exact fits_of o__law_asked (t.wd sub_nil (fun _ h => h) (.inr ⟨rfl, rfl⟩) (fns_cons (f_sign t) rfl (fns_cons (f_below t) rfl (fns_cons (f_floor t) rfl (fns_cons (f_real_part t) rfl (fns_cons (f_other_part t) rfl fns_nil)))))) F hm
theorem f__law_errors_right (t : Told K mg DEFS GLO BLT EXS SUBS) : Fits P w K mg base 7 d__law_errors_right := by
  obtain ⟨f, fd, F, hm⟩ := t.fn ("_law_errors_right", st 55) (List.mem_of_getElem? (i := 45) rfl)
  exact fits_of o__law_errors_right (t.wd sub_nil (fun _ h => h) (.inl ⟨rfl, rfl⟩) (fns_cons (f__law_pick t) rfl (fns_cons (f__law_asked t) rfl fns_nil))) F hm
theorem k_law {f : Addr} {fd : FuncData} (t : Told K mg DEFS GLO BLT EXS SUBS) (F : Fun K "law" "law" (st 56) f fd) : FnOk P w K mg base (L2.CX P w) 62 f fd ["script"] (spD K mg 1 F_law) := fnok_of o_law (t.wd sub_nil (fun _ h => h) (.inl ⟨rfl, rfl⟩) (fns_cons (f_is_real t) rfl (fns_cons (f_sign t) rfl (fns_cons (f_below t) rfl (fns_cons (f_floor t) rfl (fns_cons (f__law_deck t) rfl (fns_cons (f__law_same t) rfl (fns_cons (f__law_bent t) rfl (fns_cons (f__law_plus t) rfl (fns_cons (f__law_less t) rfl (fns_cons (f__law_is_number t) rfl (fns_cons (f__law_number t) rfl (fns_cons (f__law_real t) rfl (fns_cons (f__law_sign t) rfl (fns_cons (f__law_floor t) rfl (fns_cons (f__law_parts_right t) rfl (fns_cons (f__law_errors_right t) rfl fns_nil))))))))))))))))) F
end
end
end K02

set_option Elab.async false
set_option linter.all false
set_option maxRecDepth 100000
set_option maxHeartbeats 0
namespace K02
noncomputable section
open PySem PySem.Spec PyProof.Rows L2 Dl
/-! ### numbers -/
theorem F_least_e (a b c d k : Int) (h : k ≤ 1000000) : F_least [.im (.int a), .im (.int b), .im (.int c), .im (.int d), .im (.int k)] = .ok (.im (Nu.least ⟨a, b, c, d, k⟩).D) [] := by
  simp [F_least, e_run, en, b_least]
  rw [wh_nu (f := fun x : Nu => [some (Sl.im (PyData.int x.a)), some (Sl.im (PyData.int x.b)), some (Sl.im (PyData.int x.c)), some (Sl.im (PyData.int x.d)), some (Sl.im (PyData.int x.k))]) ?_ ?_ k.toNat 1048576 ⟨a, b, c, d, k⟩ (Nat.le_refl _) (by omega)]
  · rw [lst_ge k.toNat ⟨a, b, c, d, k⟩ (Nat.le_refl _)]
    simp
  · intro x
    unfold Nu.even
    by_cases h1 : 0 < x.k
    · by_cases h2 : (x.a + x.c) % 2 = 0 <;> by_cases h3 : (x.b + x.d) % 2 = 0 <;> simp [h1, h2, h3]
    · simp [h1]
  · intro x
    simp [log2_2, Nu.down]
/-! ### what the ring's defs give -/
theorem F_is_integer_e (d : D) (h : (tyN d).isSome = true) : F_is_integer [.im d] = .ok (.im (.bool (isI d))) [] := by
  cases d <;> first | rfl | (rename_i l; cases l <;> first | rfl | cases h)
theorem F_is_row_e (d : D) (n : Int) (h : (tyN d).isSome = true) : F_is_row [.im d, .im (.int n)] = .ok (.im (.bool (isRow d n))) [] := by
  cases d with
  | tuple ds => simp [F_is_row, e_run, en, b_is_row, gIsi, tyN, isTy, isRow]
  | dict l => cases l <;> first | rfl | cases h
  | _ => rfl
theorem F_is_ring_tup (ds : List D) (h : tys ds = true) (hl : ds.length = 5) : F_is_ring [.im (.tuple ds)] = .ok (.im (.bool (isRing (.tuple ds)))) [] := by
  have hrow : isRow (.tuple ds) 5 = true := by simp [isRow, hl]
  simp [F_is_ring, e_run, en, b_is_ring, F_is_row_e _ _ (show (tyN (.tuple ds)).isSome = true from rfl), hrow]
  rw [lc_pure (g := fun d => .bool (isI d)) (by simp) rfl ds [] _ (.inl rfl) (fun d hd => by simp [F_is_integer_e d (tys_mem h d hd)]) (by simp [hl, lim])]
  simp only [List.nil_append]
  cases hall : ds.all isI with
  | false =>
    have hr : isRing (.tuple ds) = false := by
      cases hq : isRing (.tuple ds) with
      | false => rfl
      | true =>
        unfold isRing at hq
        split at hq
        · rename_i e2; cases e2; cases hall
        · cases hq
    simp [hall, hr]
  | true =>
    match ds, hl, hall with
    | [v0, v1, v2, v3, v4], _, hall =>
      have hall' := hall
      simp only [List.all_cons, Bool.and_eq_true] at hall
      obtain ⟨g0, g1, g2, g3, g4, _⟩ := hall
      match v0, g0, v1, g1, v2, g2, v3, g3, v4, g4 with
      | .int a, _, .int b, _, .int c, _, .int d, _, .int k, _ =>
        by_cases k0 : k < 0
        · simp [gAll, bls, isI, atI, ixN, isRing, okNu, k0]
        · by_cases k1 : k = 0 <;> by_cases k2 : (a + c) % 2 = 1 <;> by_cases k3 : (b + d) % 2 = 1 <;> simp [gAll, bls, isI, atI, ixN, isRing, okNu, k0, k1, k2, k3]
theorem F_is_ring_e (d : D) (h : (tyN d).isSome = true) (h2 : ∀ ds, d = .tuple ds → tys ds = true) : F_is_ring [.im d] = .ok (.im (.bool (isRing d))) [] := by
  by_cases hr : isRow d 5 = true
  · cases d with
    | tuple ds => exact F_is_ring_tup ds (h2 ds rfl) (by simp [isRow] at hr; omega)
    | _ => cases hr
  · have hf : isRing d = false := by
      cases hq : isRing d with
      | false => rfl
      | true =>
        unfold isRing at hq
        split at hq
        · exact absurd rfl hr
        · cases hq
    simp [F_is_ring, e_run, en, b_is_ring, F_is_row_e d 5 h, hr, hf]
theorem F_opposite_e (x : Nu) : F_opposite [.im x.D] = .ok (.im x.neg.D) [] := rfl
theorem F_power_e (m : Int) (h0 : 0 ≤ m) (h : m ≤ 1000) : F_power_of_two [.im (.int m)] = .ok (.im (.int (2 ^ m.toNat))) [] := by
  have e : gShl (.int 1) (.int m) = some (.int (2 ^ m.toNat)) := by
    have hs : shlOk 1 m = true := by
      unfold shlOk
      rw [i8_eq]
      have : (1 : Int).natAbs.log2 = 0 := by decide
      rw [this, decide_eq_true h0, Bool.true_and, decide_eq_true_eq]
      omega
    unfold gShl gII
    simp only [hs, if_true, Int.one_mul]
  simp [F_power_of_two, e_run, en, b_power_of_two, e]
theorem F_raised_e (x : Nu) (n : Nat) (h : n ≤ 120) : F_raised [.im x.D, .im (.int n)] = .ok (.im (ups n x).P) [] := by
  have hm := F_power_e ((n : Int) / 2) (by omega) (by omega)
  have hp : ((n : Int) / 2).toNat = n / 2 := by omega
  rw [hp] at hm
  rcases Nat.mod_two_eq_zero_or_one n with he | he
  · have hn : n = 2 * (n / 2) := by omega
    have h1 : (n : Int) % 2 = 0 := by omega
    have e := ups_2 (n / 2) x
    rw [← hn] at e
    rw [e]
    simp [F_raised, e_run, en, b_raised, h1, hm, mul_pow_ok (show n / 2 ≤ 60 by omega), Nu.P]
  · have hn : n = 2 * (n / 2) + 1 := by omega
    have h1 : (n : Int) % 2 = 1 := by omega
    have e : ups n x = ups (2 * (n / 2)) x.up := by rw [← ups_s, ← hn]
    rw [e, ups_2]
    simp [F_raised, e_run, en, b_raised, h1, hm, mul_pow_ok (show n / 2 ≤ 60 by omega), Nu.P, Nu.up]
theorem F_add_e (x y : Nu) (hx : 0 ≤ x.k) (hy : 0 ≤ y.k) (hx2 : x.k ≤ 120) (hy2 : y.k ≤ 120) : F_add [.im x.D, .im y.D] = .ok (.im (x.plus y).D) [] := by
  by_cases h : x.k < y.k
  · have e1 : mx x y = y.k.toNat := by unfold mx; omega
    have hn : (y.k - x.k) = ((y.k - x.k).toNat : Int) := by omega
    have hr := F_raised_e x (y.k - x.k).toNat (by omega)
    rw [← hn] at hr
    have eL : Lv (mx x y) x = ups (y.k - x.k).toNat x := by
      unfold Lv; congr 1; omega
    have hl := F_least_e (y.a + (ups (y.k - x.k).toNat x).a) (y.b + (ups (y.k - x.k).toNat x).b) (y.c + (ups (y.k - x.k).toNat x).c) (y.d + (ups (y.k - x.k).toNat x).d) y.k (by omega)
    have ep : x.plus y = Nu.least ⟨y.a + (ups (y.k - x.k).toNat x).a, y.b + (ups (y.k - x.k).toNat x).b, y.c + (ups (y.k - x.k).toNat x).c, y.d + (ups (y.k - x.k).toNat x).d, y.k⟩ := by
      unfold Nu.plus
      rw [eL, Lv_self e1]
      congr 1
      unfold Nu.add
      apply nu_ext <;> simp only [ups_k] <;> omega
    rw [ep]
    simp [F_add, e_run, en, b_add, atI, ixN, h, hr, Nu.P, hl]
  · have e1 : mx x y = x.k.toNat := by unfold mx; omega
    have hn : (x.k - y.k) = ((x.k - y.k).toNat : Int) := by omega
    have hr := F_raised_e y (x.k - y.k).toNat (by omega)
    rw [← hn] at hr
    have eL : Lv (mx x y) y = ups (x.k - y.k).toNat y := by
      unfold Lv; congr 1; omega
    have hl := F_least_e (x.a + (ups (x.k - y.k).toNat y).a) (x.b + (ups (x.k - y.k).toNat y).b) (x.c + (ups (x.k - y.k).toNat y).c) (x.d + (ups (x.k - y.k).toNat y).d) x.k (by omega)
    have ep : x.plus y = Nu.least ⟨x.a + (ups (x.k - y.k).toNat y).a, x.b + (ups (x.k - y.k).toNat y).b, x.c + (ups (x.k - y.k).toNat y).c, x.d + (ups (x.k - y.k).toNat y).d, x.k⟩ := by
      unfold Nu.plus
      rw [eL, Lv_self e1]
      rfl
    rw [ep]
    simp [F_add, e_run, en, b_add, atI, ixN, h, hr, Nu.P, hl]
theorem F_subtract_e (x y : Nu) (hx : 0 ≤ x.k) (hy : 0 ≤ y.k) (hx2 : x.k ≤ 120) (hy2 : y.k ≤ 120) : F_subtract [.im x.D, .im y.D] = .ok (.im (x.plus y.neg).D) [] := by
  have h := F_add_e x y.neg hx hy hx2 hy2
  simp [F_subtract, e_run, en, b_subtract, F_opposite_e, h]
theorem F_multiply_e (x y : Nu) (hs : x.Sm ∨ y.Sm) (hk : x.k + y.k ≤ 1000000) : F_multiply [.im x.D, .im y.D] = .ok (.im (x.times y).D) [] := by
  have hl := F_least_e (x.mul y).a (x.mul y).b (x.mul y).c (x.mul y).d (x.mul y).k hk
  have m : ∀ u ∈ [x.a, x.b, x.c, x.d], ∀ v ∈ [y.a, y.b, y.c, y.d], mulOk u v = true := fun u hu v hv => by
    simp only [List.mem_cons, List.not_mem_nil, or_false] at hu hv
    rcases hs with ⟨h1, h2, h3, h4⟩ | ⟨h1, h2, h3, h4⟩
    · refine mok_l ?_
      rcases hu with rfl | rfl | rfl | rfl <;> assumption
    · refine mok_r ?_
      rcases hv with rfl | rfl | rfl | rfl <;> assumption
  simp only [List.mem_cons, List.not_mem_nil, or_false, forall_eq_or_imp, forall_eq] at m
  obtain ⟨⟨m1, m2, m3, m4⟩, ⟨m5, m6, m7, m8⟩, ⟨m9, m10, m11, m12⟩, m13, m14, m15, m16⟩ := m
  unfold Nu.mul at hl
  unfold Nu.times Nu.mul
  simp only at hl
  simp [F_multiply, e_run, en, b_multiply, m1, m2, m3, m4, m5, m6, m7, m8, m9, m10, m11, m12, m13, m14, m15, m16, hl]
/-! ### checks -/
theorem check_no {d : D} (h : (tyN d).isSome = true) (h2 : ∀ ds, d = .tuple ds → tys ds = true) : F_check_number [.im d] = if isRing d = true then .ok (.im .none) [] else .ex ⟨"InvalidNumber", []⟩ [] := by
  cases e : isRing d <;> simp [F_check_number, e_run, en, b_check_number, F_is_ring_e d h h2, e]
/-! ### the law's own sums -/
theorem L_up_e (x : Nu) : F__law_up [.im x.D] = .ok (.im x.up.D) [] := rfl
theorem L_least_e (x : Nu) (h : 0 ≤ x.k) (h2 : x.k ≤ 900) : F__law_least [.im x.D] = .ok (.im x.least.D) [] := by
  have s1 : ∀ (z : Nu) (j : Int), 0 ≤ z.k → z.even = false → bdLeast [some (Sl.im x.D), some (Sl.im (PyData.int j)), some (Sl.im (PyData.int z.a)), some (Sl.im (PyData.int z.b)), some (Sl.im (PyData.int z.c)), some (Sl.im (PyData.int z.d)), some (Sl.im (PyData.int z.k))] = .bk [some (Sl.im x.D), some (Sl.im (PyData.int j)), some (Sl.im (PyData.int z.a)), some (Sl.im (PyData.int z.b)), some (Sl.im (PyData.int z.c)), some (Sl.im (PyData.int z.d)), some (Sl.im (PyData.int z.k))] := fun z j hk he => by
    have ho := okNu_of hk he
    unfold okNu at ho
    simp only [Bool.and_eq_true, Bool.or_eq_true, decide_eq_true_eq] at ho
    by_cases a1 : z.k = 0
    · simp [bdLeast, a1]
    · by_cases a2 : (z.a + z.c) % 2 = 1
      · simp [bdLeast, a1, a2]
      · have a3 : (z.b + z.d) % 2 = 1 := by omega
        simp [bdLeast, a1, a2, a3]
  have s2 : ∀ (z : Nu) (j : Int), 0 ≤ z.k → z.even = true → bdLeast [some (Sl.im x.D), some (Sl.im (PyData.int j)), some (Sl.im (PyData.int z.a)), some (Sl.im (PyData.int z.b)), some (Sl.im (PyData.int z.c)), some (Sl.im (PyData.int z.d)), some (Sl.im (PyData.int z.k))] = .nx [some (Sl.im x.D), some (Sl.im (PyData.int j)), some (Sl.im (PyData.int z.down.a)), some (Sl.im (PyData.int z.down.b)), some (Sl.im (PyData.int z.down.c)), some (Sl.im (PyData.int z.down.d)), some (Sl.im (PyData.int z.down.k))] := fun z j hk he => by
    unfold Nu.even at he
    simp only [Bool.and_eq_true, decide_eq_true_eq] at he
    have a1 : ¬ z.k = 0 := by omega
    have a2 : ¬ (z.a + z.c) % 2 = 1 := by omega
    have a3 : ¬ (z.b + z.d) % 2 = 1 := by omega
    simp [bdLeast, a1, a2, a3, Nu.down]
  obtain ⟨o', hf⟩ := for_brk (f := fun (z : Nu) o => [some (Sl.im x.D), oI o, some (Sl.im (PyData.int z.a)), some (Sl.im (PyData.int z.b)), some (Sl.im (PyData.int z.c)), some (Sl.im (PyData.int z.d)), some (Sl.im (PyData.int z.k))]) (tg := tgN 1) (bd := bdLeast) (fun z o j => by cases o <;> simp) s1 s2 1000 0 x none h (by omega)
  simp only [oI, Option.map_none] at hf
  unfold bdLeast at hf
  have rg := in_rg (u := 1000) (by omega) (by omega)
  have e4 : (1000 : Int).toNat = 1000 := rfl
  simp [F__law_least, e_run, en, b__law_least, rg]
  rw [hf]
  simp
theorem L_plus_e (x y : Nu) (hx : 0 ≤ x.k) (hy : 0 ≤ y.k) (hx2 : x.k ≤ 120) (hy2 : y.k ≤ 120) : F__law_plus [.im x.D, .im y.D] = .ok (.im (x.plus y).D) [] := by
  simp [F__law_plus, e_run, en, b__law_plus, atI, ixN, gabs]
  rw [if_pos (in_rg (by omega) (by omega))]
  obtain ⟨o', hf⟩ := for_iter (f := fun (z : Nu × Nu) o => [some (Sl.im z.1.D), some (Sl.im z.2.D), oI o, none]) (g := upA) (tg := tgN 2) (bd := sIf (xbV (xOp2 gLt (Bo.e (xOp2 gIdx (Bo.v 0) (Bo.e (xC (PyData.int 4))))) (Bo.e (xOp2 gIdx (Bo.v 1) (Bo.e (xC (PyData.int 4))))))) (sSet 0 (xCall F__law_up [(Ar.e (xV 0))])) (sSet 1 (xCall F__law_up [(Ar.e (xV 1))])))
    (fun z o j => by cases o <;> simp) (fun z j => by
      by_cases h : z.1.k < z.2.k <;> simp [atI, ixN, h, L_up_e, upA]) (x.k - y.k).natAbs 0 (x, y) none
  rw [upA_all x y hx hy] at hf
  simp only [oI, Option.map_none] at hf
  have hk : (Lv (mx x y) x).k = mx x y := Lv_k hx (by unfold mx; omega)
  have hl := L_least_e ((Lv (mx x y) x).add (Lv (mx x y) y)) (by show 0 ≤ (Lv (mx x y) x).k; omega) (by show (Lv (mx x y) x).k ≤ 900; rw [hk]; unfold mx; omega)
  have hp : x.plus y = ((Lv (mx x y) x).add (Lv (mx x y) y)).least := rfl
  unfold Nu.add at hl hp
  rw [hp]
  have rg := in_rg (u := 4) (by omega) (by omega)
  have e4 : (4 : Int).toNat = 4 := rfl
  cases o' with
  | none => simp [hf, rg, rg4, e_lc1, atI, ixN, hl, lim]
  | some j => simp [hf, rg, rg4, e_lc1, atI, ixN, hl, lim]
theorem L_times_e (x y : Nu) (hs : x.Sm ∨ y.Sm) (hx : 0 ≤ x.k) (hy : 0 ≤ y.k) (hk : x.k + y.k ≤ 900) : F__law_times [.im x.D, .im y.D] = .ok (.im (x.times y).D) [] := by
  have m : ∀ u ∈ [x.a, x.b, x.c, x.d], ∀ v ∈ [y.a, y.b, y.c, y.d], mulOk u v = true := fun u hu v hv => by
    simp only [List.mem_cons, List.not_mem_nil, or_false] at hu hv
    rcases hs with ⟨h1, h2, h3, h4⟩ | ⟨h1, h2, h3, h4⟩
    · refine mok_l ?_
      rcases hu with rfl | rfl | rfl | rfl <;> assumption
    · refine mok_r ?_
      rcases hv with rfl | rfl | rfl | rfl <;> assumption
  simp only [List.mem_cons, List.not_mem_nil, or_false, forall_eq_or_imp, forall_eq] at m
  obtain ⟨⟨m1, m2, m3, m4⟩, ⟨m5, m6, m7, m8⟩, ⟨m9, m10, m11, m12⟩, m13, m14, m15, m16⟩ := m
  have hl := fun a b c d => L_least_e ⟨a, b, c, d, x.k + y.k⟩ (by show 0 ≤ x.k + y.k; omega) hk
  have rg := in_rg (u := 4) (by omega) (by omega)
  simp [F__law_times, e_run, en, b__law_times, rg, rg4, atI, ixN, m1, m2, m3, m4, m5, m6, m7, m8, m9, m10, m11, m12, m13, m14, m15, m16, mok1, mokm, hl]
  have e : ∀ z : Nu, z = x.mul y → z.least = x.times y := fun z h => by rw [h]; rfl
  refine ⟨?_, ?_, ?_, ?_, ?_⟩ <;> (rw [e]; apply nu_ext <;> unfold Nu.mul <;> simp only <;> grind)
theorem L_turned_e (x : Nu) (p : Int) (h1 : 0 ≤ p) (h2 : p ≤ 1000) : F__law_turned [.im x.D, .im (.int p)] = .ok (.im (iter Nu.rot p.toNat x).D) [] := by
  have rg := in_rg (u := p) (by omega) (by omega)
  obtain ⟨o', hf⟩ := for_iter (f := fun (z : Nu) o => [some (Sl.im x.D), some (Sl.im (PyData.int p)), oI o, some (Sl.im (PyData.int z.a)), some (Sl.im (PyData.int z.b)), some (Sl.im (PyData.int z.c)), some (Sl.im (PyData.int z.d)), some (Sl.im (PyData.int z.k))]) (g := Nu.rot) (tg := tgN 2) (bd := sPar [3, 4, 5, 6] (xsCons (xF (xOp1 gNeg (Bo.v 6))) (xsCons (xF (xV 3)) (xsCons (xF (xV 4)) (xsCons (xF (xV 5)) xsNil))))) (fun z o j => by cases o <;> simp) (fun z j => by simp [Nu.rot]) p.toNat 0 x none
  simp only [oI, Option.map_none] at hf
  simp [F__law_turned, e_run, en, b__law_turned, rg, hf]
theorem L_less_e (x : Nu) : F__law_less [.im x.D] = .ok (.im x.neg.D) [] := by
  have c1 : Dl.cutD [.int x.a, .int x.b, .int x.c, .int x.d, .int x.k] none (some 4) = [.int x.a, .int x.b, .int x.c, .int x.d] := rfl
  have c2 : Dl.cutD [.int x.a, .int x.b, .int x.c, .int x.d, .int x.k] (some 4) none = [.int x.k] := rfl
  simp [F__law_less, e_run, en, b__law_less, e_lc1, lim, Nu.neg, c1, c2]
/-! ### what is a number -/
theorem L_int_e (d : D) (h : (tyN d).isSome = true) : F__law_int [.im d] = .ok (.im (.bool (isI d))) [] := by
  cases d <;> first | rfl | (rename_i l; cases l <;> first | rfl | cases h)
theorem L_ints_e (d : D) (h : (tyN d).isSome = true) (h2 : ∀ ds, d = .tuple ds → tys ds = true ∧ ds.length ≤ 1000) : F__law_ints [.im d, .im (.int 5)] = .ok (.im (.bool (intsB d))) [] := by
  cases d with
  | tuple ds =>
    obtain ⟨h3, h4⟩ := h2 ds rfl
    by_cases hl : ds.length = 5
    · have e5 : ((ds.length : Int) = 5) = True := by rw [hl]; simp
      simp [F__law_ints, e_run, en, b__law_ints, gIsi, tyN, isTy, intsB, hl]
      rw [lc_pure (g := fun d => .bool (isI d)) (by simp) rfl ds [] _ (.inl rfl) (fun d hd => by simp [L_int_e d (tys_mem h3 d hd)]) (by simp [hl, lim])]
      simp
    · have e5 : ¬ ((ds.length : Int) = 5) := by omega
      simp [F__law_ints, e_run, en, b__law_ints, gIsi, tyN, isTy, intsB, hl, e5]
  | dict l => cases l <;> first | rfl | cases h
  | _ => rfl
theorem L_is_number_e (d : D) (h : (tyN d).isSome = true) (h2 : ∀ ds, d = .tuple ds → tys ds = true ∧ ds.length ≤ 1000) : F__law_is_number [.im d] = .ok (.im (.bool (isRing d))) [] := by
  have hi := L_ints_e d h h2
  cases hb : intsB d with
  | false =>
    rw [hb] at hi
    have hf : isRing d = false := by
      cases hq : isRing d with
      | false => rfl
      | true =>
        unfold isRing at hq
        split at hq
        · cases hb
        · cases hq
    simp [F__law_is_number, e_run, en, b__law_is_number, hi, hf]
  | true =>
    rw [hb] at hi
    cases d with
    | tuple ds =>
      simp only [intsB, Bool.and_eq_true, decide_eq_true_eq] at hb
      obtain ⟨hl, hall⟩ := hb
      match ds, hl, hall with
      | [v0, v1, v2, v3, v4], _, hall =>
        simp only [List.all_cons, Bool.and_eq_true] at hall
        obtain ⟨g0, g1, g2, g3, g4, _⟩ := hall
        match v0, g0, v1, g1, v2, g2, v3, g3, v4, g4 with
        | .int a, _, .int b, _, .int c, _, .int d, _, .int k, _ =>
          by_cases k0 : k < 0
          · simp [F__law_is_number, e_run, en, b__law_is_number, hi, atI, ixN, isRing, okNu, k0]
          · by_cases k1 : k = 0
            · subst k1
              simp [F__law_is_number, e_run, en, b__law_is_number, hi, atI, ixN, isRing, okNu]
            · by_cases k2 : (a + c) % 2 = 1 <;> by_cases k3 : (b + d) % 2 = 1 <;> simp [F__law_is_number, e_run, en, b__law_is_number, hi, atI, ixN, isRing, okNu, k0, k1, k2, k3]
    | _ => cases hb
/-! ### alike -/
theorem same_int (n : Nat) (i : Int) : R__law_same (n + 1) [.im (.int i), .im (.int i)] = .ok (.im (.bool true)) [] := by
  show runF 2 3 (b__law_same (R__law_same n)) _ = _
  simp [e_run, en, b__law_same, gIsiT, gIsi, tyN, isTy, gIs, Dl.isNon]
theorem same_bool (n : Nat) (p : Bool) : R__law_same (n + 1) [.im (.bool p), .im (.bool p)] = .ok (.im (.bool true)) [] := by
  show runF 2 3 (b__law_same (R__law_same n)) _ = _
  simp [e_run, en, b__law_same, gIsiT, gIsi, tyN, isTy, gIs, Dl.isNon, g_eqB]
theorem same_nu (x : Nu) : F__law_same [.im x.D, .im x.D] = .ok (.im (.bool true)) [] := by
  show runF 2 3 (b__law_same (R__law_same 59)) _ = _
  have h := fun i => same_int 58 i
  have rg := in_rg (u := 5) (by omega) (by omega)
  simp [e_run, en, b__law_same, gIsiT, gIsi, tyN, isTy, g_neB, rg, rg5, e_lc1, lim, atI, ixN, h, gAll, bls]
theorem same_b (p : Bool) : F__law_same [.im (.bool p), .im (.bool p)] = .ok (.im (.bool true)) [] := same_bool 59 p
/-! ### the defs that are asked -/
theorem check_nu {x : Nu} (h : okNu x = true) : F_check_number [.im x.D] = .ok (.im .none) [] := by
  rw [check_no (nuD_ty x) (nuD_tys x), isRing_nu, h]; rfl
/-! ### draws -/
theorem draw_e {n : Nat} {m : Int} {ds : List D} (h : Deck (n + 1) ds) (hm : 0 < m) (hm2 : m < 2 ^ 60) : ∃ v ds', F__law_draw [.io ds, .im (.int m)] = .ok (.im (.int v)) [ds'] ∧ 0 ≤ v ∧ v < m ∧ Deck n ds' := by
  obtain ⟨x, y, z, rfl, h1, h2⟩ := h
  have hz : mulOk (z + 1) (z + 1) = true := mok_l (by omega)
  have h64 : m < 18446744073709551616 := by omega
  by_cases hx : 0 < x
  · exact ⟨x % m, [.int (x / m), .int y, .int (z + 1)], by simp [F__law_draw, e_run, en, b__law_draw, atI, ixN, hx, hm, h64, hz, mok_lit, mok_lit2], Int.emod_nonneg _ (by omega), Int.emod_lt_of_pos _ hm, _, _, _, rfl, by omega, by omega⟩
  · exact ⟨(y * 3935559000 + (z + 1) * (z + 1) * 7919 + 30011) % 2305843009213693951 / 131072 % m, [.int x, .int ((y * 3935559000 + (z + 1) * (z + 1) * 7919 + 30011) % 2305843009213693951), .int (z + 1)],
      by simp [F__law_draw, e_run, en, b__law_draw, atI, ixN, hx, hm, h64, hz, mok_lit, mok_lit2], Int.emod_nonneg _ (by omega), Int.emod_lt_of_pos _ hm, _, _, _, rfl, by omega, by omega⟩
theorem deck_e (c : Int) : ∃ ds, F__law_deck [.im (.int c)] = .ok (.ow ds) [] ∧ Deck 1000000 ds := by
  have hp : gPow (.int 10) (.int 23) = some (.int 100000000000000000000000) := by
    unfold gPow gII
    simp only [i6_eq]
    rfl
  have hx : ∀ u v : Int, gMax (.int u) (.int v) = some (.int (if v > u then v else u)) := fun u v => rfl
  exact ⟨[.int (if 100000000000000000000000 < c then c - 100000000000000000000000 else 0), .int ((c * 950706376 + 65539) % 2305843009213693951), .int 0], by simp [F__law_deck, e_run, en, b__law_deck, hp, hx, mok_lit3], _, _, _, rfl, by omega, by omega⟩
theorem pick_e {n : Nat} {ds xs : List D} (h : Deck (n + 1) ds) (h0 : xs ≠ []) (h1 : xs.length < 1000) : ∃ v ds', F__law_pick [.io ds, .im (.list xs)] = .ok (.im v) [ds'] ∧ v ∈ xs ∧ Deck n ds' := by
  have hl : 0 < xs.length := List.length_pos_iff.mpr h0
  obtain ⟨v, ds', e, h2, h3, h4⟩ := draw_e (m := xs.length) h (by omega) (by omega)
  have hv : v.toNat < xs.length := by omega
  have ha : atI xs v = some xs[v.toNat] := by
    unfold atI ixN
    rw [if_pos h2, if_pos h3]
    exact List.getElem?_eq_getElem hv
  exact ⟨_, ds', by simp [F__law_pick, e_run, en, b__law_pick, e, ha], List.getElem_mem hv, h4⟩
/-! ### drawn numbers -/
theorem number_e {n : Nat} {ds : List D} {g : Int} (h : Deck (n + 6) ds) (hg : 0 < g) (hg2 : g ≤ 1000000000000) : ∃ x ds', F__law_number [.io ds, .im (.int g)] = .ok (.im x.D) [ds'] ∧ Num x ∧ Deck n ds' := by
  obtain ⟨w, d1, e1, w0, w1, k1⟩ := draw_e (m := 6) h (by omega) (by omega)
  obtain ⟨p1, d2, e2, a1, b1, k2⟩ := draw_e (m := 2 * g + 1) k1 (by omega) (by omega)
  obtain ⟨p2, d3, e3, a2, b2, k3⟩ := draw_e (m := 2 * g + 1) k2 (by omega) (by omega)
  obtain ⟨p3, d4, e4, a3, b3, k4⟩ := draw_e (m := 2 * g + 1) k3 (by omega) (by omega)
  obtain ⟨p4, d5, e5, a4, b4, k5⟩ := draw_e (m := 2 * g + 1) k4 (by omega) (by omega)
  have m2 : mulOk 2 g = true := mok_l (by decide)
  have rg := in_rg (u := 4) (by omega) (by omega)
  by_cases h0 : w = 0
  · subst h0
    exact ⟨⟨0, 0, 0, 0, 0⟩, d5, by simp [F__law_number, e_run, en, b__law_number, e1, e2, e3, e4, e5, m2, rg, rg4, lim], ⟨rfl, ⟨by decide, by decide, by decide, by decide⟩, by decide⟩, k5.less (by omega)⟩
  · by_cases h1 : w = 1
    · subst h1
      obtain ⟨v, d6, e6, v0, v1, k6⟩ := draw_e (m := 8) k5 (by omega) (by omega)
      have ht : F__law_turned [.im (.tuple [.int 1, .int 0, .int 0, .int 0, .int 0]), .im (.int v)] = .ok (.im (iter Nu.rot v.toNat one1).D) [] := L_turned_e one1 v v0 (by omega)
      obtain ⟨q1, q2⟩ := rot8 v.toNat (by omega)
      refine ⟨_, d6, by simp [F__law_number, e_run, en, b__law_number, e1, e2, e3, e4, e5, e6, m2, rg, rg4, lim, ht], ⟨okNu_k0 q2, q1.sm (by decide), by omega⟩, k6⟩
    · obtain ⟨v, d6, e6, v0, v1, k6⟩ := draw_e (m := 7) k5 (by omega) (by omega)
      by_cases h2 : w = 2
      · subst h2
        have hl := L_least_e ⟨p1 - g, p2 - g, 0, -(p2 - g), v⟩ v0 (by show v ≤ 900; omega)
        have hb : Bd 1000000000000 ⟨p1 - g, p2 - g, 0, -(p2 - g), v⟩ := ⟨by show (p1 - g).natAbs ≤ _; omega, by show (p2 - g).natAbs ≤ _; omega, Nat.zero_le _, by show (-(p2 - g)).natAbs ≤ _; omega⟩
        have hk := least_k (x := ⟨p1 - g, p2 - g, 0, -(p2 - g), v⟩) v0
        exact ⟨_, d6, by simp [F__law_number, e_run, en, b__law_number, e1, e2, e3, e4, e5, e6, m2, rg, rg4, lim, atI, ixN, hl], ⟨okNu_least v0, (Bd_least hb).sm (by decide), by have : (Nu.least ⟨p1 - g, p2 - g, 0, -(p2 - g), v⟩).k ≤ v := hk.2.1; omega⟩, k6⟩
      · have hl := L_least_e ⟨p1 - g, p2 - g, p3 - g, p4 - g, v⟩ v0 (by show v ≤ 900; omega)
        have hb : Bd 1000000000000 ⟨p1 - g, p2 - g, p3 - g, p4 - g, v⟩ := ⟨by show (p1 - g).natAbs ≤ _; omega, by show (p2 - g).natAbs ≤ _; omega, by show (p3 - g).natAbs ≤ _; omega, by show (p4 - g).natAbs ≤ _; omega⟩
        have hk := least_k (x := ⟨p1 - g, p2 - g, p3 - g, p4 - g, v⟩) v0
        exact ⟨_, d6, by simp [F__law_number, e_run, en, b__law_number, e1, e2, e3, e4, e5, e6, m2, rg, rg4, lim, atI, ixN, hl, h0, h1, h2], ⟨okNu_least v0, (Bd_least hb).sm (by decide), by have : (Nu.least ⟨p1 - g, p2 - g, p3 - g, p4 - g, v⟩).k ≤ v := hk.2.1; omega⟩, k6⟩
/-! ### bent values -/
theorem bent_int (n m : Nat) (i : Int) {ds : List D} (h : Deck (m + 2) ds) : ∃ r ds', R__law_bent (n + 1) [.io ds, .im (.int i)] = .ok (.im r) [ds'] ∧ Gv r ∧ Deck m ds' := by
  obtain ⟨w, d1, e1, w0, w1, k1⟩ := draw_e (m := 5) h (by omega) (by omega)
  show ∃ r ds', runF 2 5 (b__law_bent (R__law_bent n)) _ = _ ∧ _
  by_cases hw : 0 < w
  · obtain ⟨v, d2, e2, v0, v1, k2⟩ := draw_e (m := 6) k1 (by omega) (by omega)
    obtain ⟨r, hr, hm⟩ := atI_mem (xs := [.int 1, .int (-1), .int 2, .int (-i), .int 4, .int (-3)]) v0 v1
    have : ∃ j, r = .int j := by
      simp only [List.mem_cons, List.not_mem_nil, or_false] at hm
      rcases hm with rfl | rfl | rfl | rfl | rfl | rfl <;> exact ⟨_, rfl⟩
    obtain ⟨j, rfl⟩ := this
    exact ⟨.int (i + j), d2, by simp [e_run, en, b__law_bent, gIsiT, gIsi, tyN, isTy, e1, e2, hw, hr, lim], Gv_int _, k2⟩
  · obtain ⟨v, d2, e2, v0, v1, k2⟩ := draw_e (m := 12) k1 (by omega) (by omega)
    obtain ⟨r, hr, hm⟩ := atI_mem (xs := [.none, .tuple [], .list [.int i], .bool true, .str (Str.ofString "H"), .tuple [.int i], .int 0, .dict [], .str (Str.ofString "x"), .str (Str.ofString "T"), .int 1, .tuple [.str (Str.ofString "X"), .int 0]]) v0 v1
    refine ⟨r, d2, by simp [e_run, en, b__law_bent, gIsiT, gIsi, tyN, isTy, e1, e2, hw, hr, lim], ?_, k2⟩
    simp only [List.mem_cons, List.not_mem_nil, or_false] at hm
    rcases hm with rfl | rfl | rfl | rfl | rfl | rfl | rfl | rfl | rfl | rfl | rfl | rfl <;> first | exact Gv_tup rfl (Nat.le_of_ble_eq_true rfl) | exact ⟨rfl, fun ds e => by cases e⟩
theorem bent_tup (n m q : Nat) (v : D) (vs : List D) {ds : List D} (h : Deck (m + q + 3) ds) (hl : vs.length ≤ 100) (ht : tys (v :: vs) = true) (hs : SeqAt.shaped (.tuple (v :: vs)) = true)
    (H : ∀ x ∈ v :: vs, ∀ d1, Deck (m + q) d1 → ∃ r d2, R__law_bent n [.io d1, .im x] = .ok (.im r) [d2] ∧ Gv r ∧ Deck m d2) :
    ∃ r ds', R__law_bent (n + 1) [.io ds, .im (.tuple (v :: vs))] = .ok (.im r) [ds'] ∧ Gv r ∧ Deck m ds' := by
  obtain ⟨w, d1, e1, w0, w1, k1⟩ := draw_e (m := 6) h (by omega) (by omega)
  show ∃ r ds', runF 2 5 (b__law_bent (R__law_bent n)) _ = _ ∧ _
  have hne : gNe (.tuple (v :: vs)) (.tuple []) = some (.bool true) := by
    show (if (SeqAt.shaped (.tuple (v :: vs)) && SeqAt.shaped (.tuple [])) = true then _ else _) = _
    rw [ne_cons, hs]; rfl
  by_cases hw : 0 < w
  · obtain ⟨k, d2, e2, v0, v1, k2⟩ := draw_e (m := ((vs.length : Nat) : Int) + 1) k1 (by omega) (by omega)
    obtain ⟨y, d3, e3, y0, y1, k3⟩ := draw_e (m := 9) k2 (by omega) (by omega)
    have hk : k.toNat < (v :: vs).length := by simp only [List.length_cons]; omega
    have h0 := cut_to (ds := v :: vs) v0
    have h1 := cut_from (ds := v :: vs) v0
    have h2 := cut_from (ds := v :: vs) (k := k + 1) (by omega)
    have l1 : ((v :: vs).take k.toNat).length ≤ 101 := by simp only [List.length_take, List.length_cons]; omega
    have l2 : ((v :: vs).drop k.toNat).length ≤ 101 := by simp only [List.length_drop, List.length_cons]; omega
    have l3 : ((v :: vs).drop (k + 1).toNat).length ≤ 101 := by simp only [List.length_drop, List.length_cons]; omega
    have t1 : tys ((v :: vs).take k.toNat) = true := tys_sub ht fun d hd => List.mem_of_mem_take hd
    have t2 : tys ((v :: vs).drop k.toNat) = true := tys_sub ht fun d hd => List.mem_of_mem_drop hd
    have t3 : tys ((v :: vs).drop (k + 1).toNat) = true := tys_sub ht fun d hd => List.mem_of_mem_drop hd
    generalize (v :: vs).take k.toNat = A at h0 l1 t1
    generalize (v :: vs).drop k.toNat = B at h1 l2 t2
    generalize (v :: vs).drop (k + 1).toNat = C at h2 l3 t3
    obtain ⟨x, hx, hm⟩ := atI_mem (xs := v :: vs) (v := k) v0 (by simp only [List.length_cons]; omega)
    have tx := tys_mem ht x hm
    by_cases q0 : y = 0
    · subst q0
      exact ⟨.tuple (A ++ C), d3, by simp [e_run, en, b__law_bent, gIsiT, gIsi, tyN, isTy, e1, e2, e3, hw, hne, h0, h2, show A.length + C.length ≤ 16777216 by omega], Gv_tup (tys_app t1 t3) (by simp only [List.length_append]; omega), k3.less (by omega)⟩
    · by_cases q1 : y = 1
      · subst q1
        exact ⟨.tuple (A ++ [x, x] ++ C), d3, by simp [e_run, en, b__law_bent, gIsiT, gIsi, tyN, isTy, e1, e2, e3, hw, hne, h0, h2, hx, lim, show A.length + 2 ≤ 16777216 by omega, show A.length + (2 + C.length) ≤ 16777216 by omega, show A.length + 2 + C.length ≤ 16777216 by omega, show A.length + (C.length + 2) ≤ 16777216 by omega], Gv_tup (tys_app (tys_app t1 (by simp [tys, tx])) t3) (by simp only [List.length_append, List.length_cons, List.length_nil]; omega), k3.less (by omega)⟩
      · by_cases q2 : y = 2
        · subst q2
          exact ⟨.tuple (A ++ B.reverse), d3, by simp [e_run, en, b__law_bent, gIsiT, gIsi, tyN, isTy, e1, e2, e3, hw, hne, h0, h1, gRev, show A.length + B.length ≤ 16777216 by omega], Gv_tup (tys_app t1 (tys_sub t2 fun d hd => List.mem_reverse.mp hd)) (by simp only [List.length_append, List.length_reverse]; omega), k3.less (by omega)⟩
        · obtain ⟨r, d4, e4, g4, k4⟩ := H x hm d3 k3
          exact ⟨.tuple (A ++ [r] ++ C), d4, by simp [e_run, en, b__law_bent, gIsiT, gIsi, tyN, isTy, e1, e2, e3, e4, hw, hne, h0, h2, hx, lim, q0, q1, q2, show A.length + 1 ≤ 16777216 by omega, show A.length + (1 + C.length) ≤ 16777216 by omega, show A.length + 1 + C.length ≤ 16777216 by omega, show A.length + (C.length + 1) ≤ 16777216 by omega], Gv_tup (tys_app (tys_app t1 (by simp [tys, g4.1])) t3) (by simp only [List.length_append, List.length_cons, List.length_nil]; omega), k4⟩
  · obtain ⟨y, d2, e2, v0, v1, k2⟩ := draw_e (m := 12) k1 (by omega) (by omega)
    obtain ⟨r, hr, hm⟩ := atI_mem (xs := [.none, .tuple [], .list (v :: vs), .bool true, .str (Str.ofString "H"), .tuple [.tuple (v :: vs)], .int 0, .dict [], .str (Str.ofString "x"), .str (Str.ofString "T"), .int 1, .tuple [.str (Str.ofString "X"), .int 0]]) v0 v1
    have hto : gToLst (.tuple (v :: vs)) = some (.list (v :: vs)) := rfl
    refine ⟨r, d2, by simp [e_run, en, b__law_bent, gIsiT, gIsi, tyN, isTy, e1, e2, hw, hr, hne, hto, lim], ?_, k2.less (by omega)⟩
    simp only [List.mem_cons, List.not_mem_nil, or_false] at hm
    rcases hm with rfl | rfl | rfl | rfl | rfl | rfl | rfl | rfl | rfl | rfl | rfl | rfl <;> first | exact Gv_tup rfl (Nat.le_of_ble_eq_true rfl) | exact ⟨rfl, fun ds e => by cases e⟩
theorem bent_e {m : Nat} (x : Nu) {ds : List D} (h : Deck (m + 5) ds) : ∃ r ds', F__law_bent [.io ds, .im x.D] = .ok (.im r) [ds'] ∧ Gv r ∧ Deck m ds' := by
  refine bent_tup 59 m 2 _ _ h (Nat.le_of_ble_eq_true rfl) rfl rfl fun y hy d1 k => ?_
  simp only [List.mem_cons, List.not_mem_nil, or_false] at hy
  rcases hy with rfl | rfl | rfl | rfl | rfl <;> exact bent_int 58 m _ k
/-! ### errors -/
theorem check_bad {d : D} (h : Bad d) : F_check_number [.im d] = .ex ⟨"InvalidNumber", []⟩ [] := by rw [check_no h.ty h.tt, h.no]; rfl
/-! ### alike: a value and itself -/
def Pl : Nat → D → Bool
  | _, .none => true
  | _, .bool _ => true
  | _, .int _ => true
  | _, .str z => SeqAt.shaped (.str z)
  | n + 1, .tuple ds => decide (ds.length ≤ 100000) && ds.all (Pl n)
  | n + 1, .list ds => decide (ds.length ≤ 100000) && ds.all (Pl n)
  | _, _ => false
theorem same_seq (n : Nat) (d : D) (ds : List D) (hd : d = .tuple ds ∨ d = .list ds) (hl : ds.length ≤ 100000) (h : ∀ x ∈ ds, R__law_same n [.im x, .im x] = .ok (.im (.bool true)) []) : R__law_same (n + 1) [.im d, .im d] = .ok (.im (.bool true)) [] := by
  show runF 2 3 (b__law_same (R__law_same n)) _ = _
  have rg := in_rg (u := ds.length) (by omega) (by omega)
  have e := lc_pure (E := [some (Sl.im d), some (Sl.im d), none]) (i := 2) (elt := e__law_same_1 (R__law_same n)) (g := fun _ => .bool true) (by simp) rfl (rgD 0 ds.length) [] _ (.inl rfl) (fun x hx => by
      unfold rgD at hx
      simp only [List.mem_map, List.mem_range] at hx
      obtain ⟨j, hj, rfl⟩ := hx
      have ha : atI ds (0 + (j : Int)) = some ds[j] := by
        unfold atI ixN
        rw [if_pos (by omega), if_pos (by omega)]
        have : (0 + (j : Int)).toNat = j := by omega
        rw [this]
        exact List.getElem?_eq_getElem hj
      have ha2 : atI ds (j : Int) = some ds[j] := by rw [← ha]; congr 1; omega
      rcases hd with rfl | rfl <;> simp [ha2, h _ (List.getElem_mem hj)]) (by simp [rgD, lim]; omega)
  simp only [List.nil_append] at e
  have ea : gAll (.list ((rgD 0 ds.length).map fun _ => PyData.bool true)) = some (.bool true) := by
    rw [g_allM (fun _ => true)]; simp
  rcases hd with rfl | rfl <;> simp [e_run, en, b__law_same, gIsiT, gIsi, tyN, isTy, g_neB, rg, e, ea]
theorem same_refl : ∀ (n : Nat) (d : D), Pl n d = true → R__law_same (n + 1) [.im d, .im d] = .ok (.im (.bool true)) []
  | n, .none, _ => by
    show runF 2 3 (b__law_same (R__law_same n)) _ = _
    simp [e_run, en, b__law_same, gIsiT, gIsi, tyN, isTy, gIs, Dl.isNon]
  | n, .bool p, _ => same_bool n p
  | n, .int i, _ => same_int n i
  | n, .str z, h => by
    show runF 2 3 (b__law_same (R__law_same n)) _ = _
    have h' : SeqAt.shaped (.str z) = true := by cases n <;> exact h
    have e : gEq (.str z) (.str z) = some (.bool true) := by rw [g_eqS h' h']; simp
    simp [e_run, en, b__law_same, gIsiT, gIsi, tyN, isTy, gIs, Dl.isNon, e]
  | n + 1, .tuple ds, h => by
    simp only [Pl, Bool.and_eq_true, decide_eq_true_eq, List.all_eq_true] at h
    exact same_seq (n + 1) _ ds (.inl rfl) h.1 fun x hx => same_refl n x (h.2 x hx)
  | n + 1, .list ds, h => by
    simp only [Pl, Bool.and_eq_true, decide_eq_true_eq, List.all_eq_true] at h
    exact same_seq (n + 1) _ ds (.inr rfl) h.1 fun x hx => same_refl n x (h.2 x hx)
  | 0, .dict _, h => by cases h
  | n + 1, .dict _, h => by cases h
theorem same_r {d : D} (h : Pl 59 d = true) : F__law_same [.im d, .im d] = .ok (.im (.bool true)) [] := same_refl 59 d h
theorem conjd_e (x : Nu) : F_conjugated [.im x.D] = .ok (.im x.conj.D) [] := rfl
theorem L_conj_e (x : Nu) : F__law_conj [.im x.D] = .ok (.im x.conj.D) [] := rfl
theorem mul_n {A B : Nat} {K L : Int} {x y : Nu} (hx : Sz A K x) (hy : Sz B L y) (hAB : A + B ≤ 100000) (hk : K + L ≤ 100000) : F_multiply [.im x.D, .im y.D] = .ok (.im (x.times y).D) [] := by
  obtain ⟨x1, x2, x3, x4, x5⟩ := hx
  obtain ⟨y1, y2, y3, y4, y5⟩ := hy
  have hl := F_least_e (x.mul y).a (x.mul y).b (x.mul y).c (x.mul y).d (x.mul y).k (by show x.k + y.k ≤ _; omega)
  have m : ∀ u v : Int, u.natAbs < 2 ^ A → v.natAbs < 2 ^ B → mulOk u v = true := fun u v hu hv => mok_sz hu hv (by omega)
  unfold Nu.mul at hl
  unfold Nu.times Nu.mul
  simp only at hl
  simp [F_multiply, e_run, en, b_multiply, m _ _ x1 y1, m _ _ x1 y2, m _ _ x1 y3, m _ _ x1 y4, m _ _ x2 y1, m _ _ x2 y2, m _ _ x2 y3, m _ _ x2 y4, m _ _ x3 y1, m _ _ x3 y2, m _ _ x3 y3, m _ _ x3 y4, m _ _ x4 y1, m _ _ x4 y2, m _ _ x4 y3, m _ _ x4 y4, hl]
theorem L_times_n {A B : Nat} {K L : Int} {x y : Nu} (hx : Sz A K x) (hy : Sz B L y) (hx0 : 0 ≤ x.k) (hy0 : 0 ≤ y.k) (hAB : A + B ≤ 100000) (hk : K + L ≤ 900) : F__law_times [.im x.D, .im y.D] = .ok (.im (x.times y).D) [] := by
  obtain ⟨x1, x2, x3, x4, x5⟩ := hx
  obtain ⟨y1, y2, y3, y4, y5⟩ := hy
  have m : ∀ u v : Int, u.natAbs < 2 ^ A → v.natAbs < 2 ^ B → mulOk u v = true := fun u v hu hv => mok_sz hu hv (by omega)
  have hl := fun a b c d => L_least_e ⟨a, b, c, d, x.k + y.k⟩ (by show 0 ≤ x.k + y.k; omega) (by show x.k + y.k ≤ 900; omega)
  have rg := in_rg (u := 4) (by omega) (by omega)
  simp [F__law_times, e_run, en, b__law_times, rg, rg4, atI, ixN, m _ _ x1 y1, m _ _ x1 y2, m _ _ x1 y3, m _ _ x1 y4, m _ _ x2 y1, m _ _ x2 y2, m _ _ x2 y3, m _ _ x2 y4, m _ _ x3 y1, m _ _ x3 y2, m _ _ x3 y3, m _ _ x3 y4, m _ _ x4 y1, m _ _ x4 y2, m _ _ x4 y3, m _ _ x4 y4, mok1, mokm, hl]
  have e : ∀ z : Nu, z = x.mul y → z.least = x.times y := fun z h => by rw [h]; rfl
  refine ⟨?_, ?_, ?_, ?_, ?_⟩ <;> (rw [e]; apply nu_ext <;> unfold Nu.mul <;> simp only <;> grind)
theorem Sz_ofInt {n : Nat} {i : Int} (h : i.natAbs < 2 ^ n) : Sz n 0 (Nr.ofInt i).x := ⟨h, Nat.pow_pos (by decide), Nat.pow_pos (by decide), Nat.pow_pos (by decide), Int.le_refl _⟩
theorem L_two_e (n : Nat) (h : n ≤ 10000) : F__law_two [.im (.int n)] = .ok (.im (.int (2 ^ n))) [] := by
  have it : ∀ (m : Nat) (z : Int), iter (fun z : Int => z * 2) m z = z * 2 ^ m := by
    intro m
    induction m with
    | zero => intro z; simp [iter]
    | succ m ih =>
      intro z
      show iter _ m (z * 2) = _
      rw [ih, Int.pow_succ]
      grind
  have m2 : ∀ z : Int, mulOk z 2 = true := fun z => mok_r (by decide)
  have rg := in_rg (u := n) (by omega) (by omega)
  obtain ⟨o', hf⟩ := for_iter (f := fun (z : Int) o => [some (Sl.im (PyData.int n)), some (Sl.im (PyData.int z)), oI o]) (g := fun z : Int => z * 2) (tg := tgN 2) (bd := l__law_two_1) (fun z o j => by cases o <;> simp) (fun z j => by simp [m2]) n 0 1 none
  rw [it, Int.one_mul] at hf
  simp only [oI, Option.map_none] at hf
  simp [F__law_two, e_run, en, b__law_two, rg, hf]
theorem in_nus (x : Nu) (l : List Nu) : gIn x.D (.list (l.map Nu.D)) = some (.bool (decide (x ∈ l))) := by
  have h1 : deepOk x.D = true := rfl
  have h2 : PyData.canLayAll0 (l.map Nu.D) = true := by
    induction l with
    | nil => rfl
    | cons a l ih => show (PyData.canLay0 a.D && PyData.canLayAll0 (l.map Nu.D)) = true; rw [ih]; rfl
  have h3 : isIn x.D (l.map Nu.D) = decide (x ∈ l) := by
    unfold isIn
    rw [List.any_map]
    induction l with
    | nil => simp
    | cons a l ih =>
      rw [List.any_cons, ih (by simp only [List.map_cons, PyData.canLayAll0, Bool.and_eq_true] at h2; exact h2.2)]
      show (PyData.eqv a.D x.D || _) = _
      rw [eqv_nu2]
      by_cases ha : a = x
      · subst ha; simp
      · have : ¬ x = a := fun h => ha h.symm
        simp [ha, this]
  show (if (flatD x.D && (l.map Nu.D).all flatD) = true then some (PyData.bool (isIn x.D (l.map Nu.D))) else if (deepOk x.D && PyData.canLayAll0 (l.map Nu.D)) = true then some (PyData.bool (isIn x.D (l.map Nu.D))) else none) = _
  have h4 : flatD x.D = false := rfl
  rw [h4, Bool.false_and, if_neg Bool.false_ne_true, h1, h2, h3]
  rfl
end
end K02

set_option Elab.async false
set_option linter.all false
set_option maxRecDepth 100000
set_option maxHeartbeats 0
namespace K02
noncomputable section
open PySem PySem.Spec PyProof.Rows L2 Dl
/-! ### signs -/
theorem ix2 {a b c d k : Int} : atI [PyData.int a, .int b, .int c, .int d, .int k] 0 = some (.int a) ∧ atI [PyData.int a, .int b, .int c, .int d, .int k] 1 = some (.int b) ∧ atI [PyData.int a, .int b, .int c, .int d, .int k] 2 = some (.int c) ∧ atI [PyData.int a, .int b, .int c, .int d, .int k] 3 = some (.int d) ∧ atI [PyData.int a, .int b, .int c, .int d, .int k] 4 = some (.int k) := ⟨rfl, rfl, rfl, rfl, rfl⟩
theorem sign_of_e (x : Nu) (ha : x.a.natAbs < 2 ^ 62) (hb : x.b.natAbs < 2 ^ 62) : F_sign_of [.im x.D] = .ok (.im (.int (sg x.a x.b))) [] := by
  obtain ⟨a, b, c, d, k⟩ := x
  simp only at ha hb
  have m1 : mulOk a a = true := mok_l (by omega)
  have m2 : mulOk 2 b = true := mok_l (by decide)
  have m3 : mulOk (2 * b) b = true := mok_r (by omega)
  obtain ⟨i0, i1, _⟩ := @ix2 a b c d k
  unfold sg
  by_cases h1 : 0 ≤ a ∧ 0 ≤ b
  · obtain ⟨p, q⟩ := h1
    by_cases h2 : 0 < a + b <;> simp [F_sign_of, e_run, en, b_sign_of, i0, i1, p, q, h2]
  · by_cases h2 : a ≤ 0 ∧ b ≤ 0
    · obtain ⟨p, q⟩ := h2
      by_cases p2 : 0 ≤ a
      · have q2 : ¬ 0 ≤ b := fun h => h1 ⟨p2, h⟩
        simp [F_sign_of, e_run, en, b_sign_of, i0, i1, p, q, p2, q2]
      · simp [F_sign_of, e_run, en, b_sign_of, i0, i1, p, q, p2]
    · by_cases p : 0 < a
      · have hbn : b < 0 := by omega
        have q1 : ¬ 0 ≤ b := by omega
        have q2 : 0 ≤ a := by omega
        have q3 : ¬ a ≤ 0 := by omega
        by_cases hs : 2 * b * b < a * a <;> simp [F_sign_of, e_run, en, b_sign_of, i0, i1, p, q1, q2, q3, hs, m1, m2, m3, g_eqB]
      · have hbn : 0 < b := by omega
        have q1 : ¬ 0 ≤ a := by omega
        have q2 : a ≤ 0 := by omega
        have q3 : ¬ b ≤ 0 := by omega
        by_cases hs : 2 * b * b < a * a <;> simp [F_sign_of, e_run, en, b_sign_of, i0, i1, p, q1, q2, q3, hs, m1, m2, m3, g_eqB]
theorem L_sign_e (x : Nu) (ha : x.a.natAbs < 2 ^ 62) (hb : x.b.natAbs < 2 ^ 62) : F__law_sign [.im x.D] = .ok (.im (.int (sg x.a x.b))) [] := by
  obtain ⟨a, b, c, d, k⟩ := x
  simp only at ha hb
  have m1 : mulOk a a = true := mok_l (by omega)
  have m2 : mulOk 2 b = true := mok_l (by decide)
  have m3 : mulOk (2 * b) b = true := mok_r (by omega)
  obtain ⟨i0, i1, _⟩ := @ix2 a b c d k
  unfold sg
  have fin : ∀ s t : Int, s = t → (Fo.ok (Sl.im (.int s)) [] : Fo) = .ok (.im (.int t)) [] := fun s t h => by rw [h]
  by_cases a0 : a = 0
  · subst a0
    by_cases b0 : b = 0
    · subst b0
      simp [F__law_sign, e_run, en, b__law_sign, i0, i1]
    · by_cases b1 : 0 < b
      · have q1 : 0 ≤ b := by omega
        simp [F__law_sign, e_run, en, b__law_sign, i0, i1, b0, b1, q1]
      · have q1 : ¬ 0 ≤ b := by omega
        have q2 : b ≤ 0 := by omega
        simp [F__law_sign, e_run, en, b__law_sign, i0, i1, b0, b1, q1, q2]
  · by_cases b0 : b = 0
    · subst b0
      by_cases a1 : 0 < a
      · have q1 : 0 ≤ a := by omega
        simp [F__law_sign, e_run, en, b__law_sign, i0, i1, a0, a1, q1]
      · have q1 : ¬ 0 ≤ a := by omega
        have q2 : a ≤ 0 := by omega
        simp [F__law_sign, e_run, en, b__law_sign, i0, i1, a0, a1, q1, q2]
    · by_cases a1 : 0 < a
      · have q1 : 0 ≤ a := by omega
        have q2 : ¬ a ≤ 0 := by omega
        by_cases b1 : 0 < b
        · have q3 : 0 ≤ b := by omega
          have q4 : 0 < a + b := by omega
          simp [F__law_sign, e_run, en, b__law_sign, i0, i1, a0, b0, a1, b1, q1, q2, q3, q4, g_eqB]
        · have q3 : ¬ 0 ≤ b := by omega
          by_cases hs : 2 * b * b < a * a <;> simp [F__law_sign, e_run, en, b__law_sign, i0, i1, a0, b0, a1, b1, q1, q2, q3, hs, m1, m2, m3, g_eqB]
      · have q1 : ¬ 0 ≤ a := by omega
        have q2 : a ≤ 0 := by omega
        by_cases b1 : 0 < b
        · have q3 : 0 ≤ b := by omega
          have q4 : ¬ b ≤ 0 := by omega
          by_cases hs : 2 * b * b < a * a <;> simp [F__law_sign, e_run, en, b__law_sign, i0, i1, a0, b0, a1, b1, q1, q2, q3, q4, hs, m1, m2, m3, g_eqB]
        · have q3 : b ≤ 0 := by omega
          simp [F__law_sign, e_run, en, b__law_sign, i0, i1, a0, b0, a1, b1, q1, q2, q3, g_eqB]
/-! ### roots -/
theorem p2_le {a b : Nat} (h : a ≤ b) : (2 : Int) ^ a ≤ 2 ^ b := by
  have h1 : 2 ^ a ≤ 2 ^ b := Nat.pow_le_pow_right (by decide) h
  have e1 : ((2 ^ a : Nat) : Int) = 2 ^ a := by simp
  have e2 : ((2 ^ b : Nat) : Int) = 2 ^ b := by simp
  omega
theorem int_root_e {n r : Int} (h0 : 0 ≤ n) (hn : n < 2 ^ 100) (h : IsRt n r) : F_integer_root [.im (.int n)] = .ok (.im (.int r)) [] := by
  by_cases h2 : n < 2
  · have hr : r = n := by
      have : IsRt n n := ⟨h0, by
        have : n = 0 ∨ n = 1 := by omega
        rcases this with rfl | rfl <;> decide, by
        have : n = 0 ∨ n = 1 := by omega
        rcases this with rfl | rfl <;> decide⟩
      exact h.uniq this
    subst hr
    simp [F_integer_root, e_run, en, b_integer_root, h2]
  · have hb : Builtin.Int.intBits n = n.natAbs.log2 + 1 := by
      unfold Builtin.Int.intBits
      rw [if_neg (by simp; omega)]
    have hlog : n.natAbs.log2 < 100 := (Nat.log2_lt (by omega)).mpr (by omega)
    have hpow : n < 2 ^ (n.natAbs.log2 + 1) := by
      have h1 := (Nat.log2_lt (n := n.natAbs) (k := n.natAbs.log2 + 1) (by omega)).mp (by omega)
      have e : ((2 ^ (n.natAbs.log2 + 1) : Nat) : Int) = 2 ^ (n.natAbs.log2 + 1) := by simp
      omega
    generalize n.natAbs.log2 = L at *
    have hp := F_power_e (((L : Int) + 1) / 2 + 1) (by omega) (by omega)
    have ep : (((L : Int) + 1) / 2 + 1).toNat = (L + 1) / 2 + 1 := by omega
    rw [ep] at hp
    obtain ⟨s0, s1⟩ : (0 : Int) < 2 ^ ((L + 1) / 2 + 1) ∧ n < 2 ^ ((L + 1) / 2 + 1) * 2 ^ ((L + 1) / 2 + 1) := by
      refine ⟨Int.pow_pos (by decide), Int.lt_of_lt_of_le hpow ?_⟩
      rw [← Int.pow_add]
      exact p2_le (by omega)
    have s2 : (2 : Int) ^ ((L + 1) / 2 + 1) < 2 ^ 60 := by
      refine Int.lt_of_le_of_lt (p2_le (show (L + 1) / 2 + 1 ≤ 52 by omega)) (by decide)
    generalize (2 : Int) ^ ((L + 1) / 2 + 1) = f0 at *
    have hr0 : 0 < r := by
      rcases Int.lt_or_le 0 r with h1 | h1
      · exact h1
      · have : r = 0 := by have := h.1; omega
        subst this
        have := h.2.2
        omega
    have hrf : r ≤ f0 := h.le (by omega) (by
      have : (f0 + 1) * (f0 + 1) = f0 * f0 + (2 * f0 + 1) := by grind
      omega)
    obtain ⟨q, E', w1, w2, wa, wb, w3⟩ := wh_rt (f := fun z : Int × Option Int => [some (Sl.im (.int n)), some (Sl.im (.int z.1)), oI z.2]) (t := t_integer_root_1) (bd := l_integer_root_1) (I := fun z => r ≤ z.1 ∧ z.1 < 2 ^ 60) (μ := fun z => if z.1 = r then 0 else (z.1 - r).natAbs.log2 + 1) (Po := fun s E => s = .im (.int r) ∧ ∃ a b, E = a :: b)
      (fun z _ => by simp) (fun z hi => by
        obtain ⟨u, o⟩ := z
        simp only at hi
        have u0 : 0 < u := by omega
        have u64 : u < 18446744073709551616 := by omega
        by_cases hu : u = r
        · subst hu
          have hs := rt_stop h hr0
          left
          refine ⟨.im (.int u), [some (Sl.im (.int n)), some (Sl.im (.int u)), some (Sl.im (.int ((u + n / u) / 2)))], ?_, rfl, _, _, rfl⟩
          cases o <;> simp [u0, u64, hs]
        · obtain ⟨k1, k2⟩ := rt_step h (show r < u by omega)
          have k3 : ¬ u ≤ (u + n / u) / 2 := by omega
          right
          refine ⟨((u + n / u) / 2, some ((u + n / u) / 2)), ?_, ⟨k1, by simp only; omega⟩, ?_⟩
          · cases o <;> simp [u0, u64, k3]
          · simp only [if_neg hu]
            split
            · omega
            · rename_i hne
              have c1 : ((u + n / u) / 2 - r).natAbs ≠ 0 := by omega
              have c2 : (u - r).natAbs ≠ 0 := by omega
              have c3 : ((u + n / u) / 2 - r).natAbs.log2 < (u - r).natAbs.log2 := by
                refine (Nat.log2_lt c1).mpr ?_
                have := (Nat.log2_lt (k := (u - r).natAbs.log2 + 1) c2).mp (by omega)
                rw [Nat.pow_succ] at this
                omega
              omega) 1048576 (f0, none) ⟨hrf, s2⟩ (by
        simp only
        split
        · omega
        · have : (f0 - r).natAbs.log2 < 60 := (Nat.log2_lt (by omega)).mpr (by omega)
          omega)
    subst w2 w3
    simp only [oI, Option.map_none] at w1
    simp [F_integer_root, e_run, en, b_integer_root, h2, gBits, hb, hp, w1]
theorem L_root_e {n r : Int} (h0 : 0 ≤ n) (hn : n < 2 ^ 100) (h : IsRt n r) : F__law_root [.im (.int n)] = .ok (.im (.int r)) [] := by
  have rg : inRg 400 = true := in_rg (by omega) (by omega)
  have e400 : (400 : Int).toNat = 400 := rfl
  obtain ⟨⟨lo, hi, m⟩, o', f1, f2', f7⟩ := for_brkI (f := fun (z : Int × Int × Option Int) (j : Option Int) => [some (Sl.im (.int n)), oI j, some (Sl.im (.int z.1)), some (Sl.im (.int z.2.1)), oI z.2.2]) (tg := tgN 1) (bd := l__law_root_1) (P := fun z => decide (z.2.1 - z.1 < 2))
    (g := fun z => if (z.1 + z.2.1) / 2 * ((z.1 + z.2.1) / 2) ≤ n then ((z.1 + z.2.1) / 2, z.2.1, some ((z.1 + z.2.1) / 2)) else (z.1, (z.1 + z.2.1) / 2, some ((z.1 + z.2.1) / 2))) (I := fun z => 0 ≤ z.1 ∧ z.1 < z.2.1 ∧ z.1 * z.1 ≤ n ∧ n < z.2.1 * z.2.1 ∧ z.2.1 ≤ 2 ^ 101) (μ := fun z => if z.2.1 - z.1 < 2 then 0 else (z.2.1 - z.1 - 1).natAbs.log2 + 1)
    (fun z oo j => by cases oo <;> simp) (fun z j hi hp => by
      simp only [decide_eq_true_eq] at hp
      simp [hp]) (fun z j hi hp => by
      obtain ⟨lo, hi', m⟩ := z
      simp only [decide_eq_false_iff_not] at hp hi
      obtain ⟨p1, p2, p3, p4, p5⟩ := hi
      have hm1 : lo < (lo + hi') / 2 := by omega
      have hm2 : (lo + hi') / 2 < hi' := by omega
      have mm : mulOk ((lo + hi') / 2) ((lo + hi') / 2) = true := mok_sz (A := 101) (B := 101) (by omega) (by omega) (by omega)
      have meas : ∀ d d' : Int, 2 ≤ d → d' - 1 ≤ (d - 1) / 2 → (if d' < 2 then 0 else (d' - 1).natAbs.log2 + 1) < (if d < 2 then 0 else (d - 1).natAbs.log2 + 1) := by
        intro d d' hd hdd
        rw [if_neg (show ¬ d < 2 by omega)]
        split
        · omega
        · have c1 : (d' - 1).natAbs ≠ 0 := by omega
          have c2 : (d - 1).natAbs ≠ 0 := by omega
          have c3 : (d' - 1).natAbs.log2 < (d - 1).natAbs.log2 := by
            refine (Nat.log2_lt c1).mpr ?_
            have := (Nat.log2_lt (k := (d - 1).natAbs.log2 + 1) c2).mp (by omega)
            rw [Nat.pow_succ] at this
            omega
          omega
      simp only
      by_cases hs : (lo + hi') / 2 * ((lo + hi') / 2) ≤ n
      · rw [if_pos hs]
        refine ⟨by cases m <;> simp [hp, mm, hs], ⟨by simp only; omega, hm2, hs, p4, p5⟩, ?_⟩
        exact meas _ _ (by omega) (by simp only; omega)
      · rw [if_neg hs]
        refine ⟨by cases m <;> simp [hp, mm, hs], ⟨p1, hm1, p3, by simp only; omega, by simp only; omega⟩, ?_⟩
        exact meas _ _ (by omega) (by simp only; omega)) 400 0 (0, n + 1, none) none ⟨Int.le_refl _, by simp only; omega, by simp only; omega, by
        simp only
        have : (n + 1) * (n + 1) = n * n + 2 * n + 1 := by grind
        have : 0 ≤ n * n := Int.mul_nonneg h0 h0
        omega, by simp only; omega⟩ (by
      simp only
      split
      · omega
      · have : (n + 1 - 0 - 1).natAbs.log2 < 101 := (Nat.log2_lt (by omega)).mpr (by omega)
        omega)
  simp only [decide_eq_true_eq] at f7
  obtain ⟨f2, f3, f4, f5, f6⟩ := f2'
  simp only at f2 f3 f4 f5 f6
  have hr : r = lo := h.uniq ⟨f2, f4, by
    have : lo + 1 = hi := by omega
    rw [this]; exact f5⟩
  subst hr
  simp only [oI, Option.map_none] at f1
  simp [F__law_root, e_run, en, b__law_root, rg, e400, f1]
end
end K02

set_option Elab.async false
set_option linter.all false
set_option maxRecDepth 100000
set_option maxHeartbeats 0
namespace K02
noncomputable section
open PySem PySem.Spec PyProof.Rows L2 Dl
/-! ### reals: what is asked -/
structure Re0 (B : Nat) (x : Nu) : Prop where
  ok : okNu x = true
  rl : Rl x
  bd : Bd B x
  k9 : x.k ≤ 9
abbrev Rea (x : Nu) : Prop := Re0 1000000000000 x
theorem Bd_mono {B C : Nat} {x : Nu} (h : Bd B x) (hc : B ≤ C) : Bd C x := by
  obtain ⟨h1, h2, h3, h4⟩ := h
  exact ⟨by omega, by omega, by omega, by omega⟩
theorem Re0.mono {B C : Nat} {x : Nu} (h : Re0 B x) (hc : B ≤ C) : Re0 C x := ⟨h.ok, h.rl, Bd_mono h.bd hc, h.k9⟩
def isReal : D → Bool
  | .tuple [.int a, .int b, .int c, .int d, .int k] => okNu ⟨a, b, c, d, k⟩ && (decide (c = 0) && decide (d = -b))
  | _ => false
theorem ring_ints : ∀ {d : D}, isRing d = true → ∃ x : Nu, d = x.D ∧ okNu x = true := by
  intro d h
  unfold isRing at h
  split at h
  · exact ⟨⟨_, _, _, _, _⟩, rfl, h⟩
  · cases h
theorem not_real {d : D} (h : isRing d = false) : isReal d = false := by
  unfold isReal
  split
  · have h' : okNu _ = false := h
    rw [h']; rfl
  · rfl
theorem is_real_e {d : D} (h : (tyN d).isSome = true) (h2 : ∀ ds, d = .tuple ds → tys ds = true) : F_is_real [.im d] = .ok (.im (.bool (isReal d))) [] := by
  have h3 := F_is_ring_e d h h2
  cases e : isRing d with
  | false =>
    rw [e] at h3
    rw [not_real e]
    simp [F_is_real, e_run, en, b_is_real, h3]
  | true =>
    rw [e] at h3
    obtain ⟨x, rfl, hx⟩ := ring_ints e
    obtain ⟨a, b, c, d, k⟩ := x
    obtain ⟨i0, i1, i2, i3, i4⟩ := @ix2 a b c d k
    have er : isReal (Nu.D ⟨a, b, c, d, k⟩) = (decide (c = 0) && decide (d = -b)) := by
      show (okNu ⟨a, b, c, d, k⟩ && _) = _
      rw [hx]; rfl
    rw [er]
    by_cases hc : c = 0
    · subst hc
      simp [F_is_real, e_run, en, b_is_real, h3, i0, i1, i2, i3, i4]
    · simp [F_is_real, e_run, en, b_is_real, h3, i0, i1, i2, i3, i4, hc]
theorem real_of {x : Nu} (h : okNu x = true) (hr : Rl x) : isReal x.D = true := by
  show (okNu x && (decide (x.c = 0) && decide (x.d = -x.b))) = true
  rw [h, decide_eq_true hr.1, decide_eq_true hr.2]; rfl
theorem check_real_ok {x : Nu} (h : okNu x = true) (hr : Rl x) : F_check_real [.im x.D] = .ok (.im .none) [] := by
  have h1 := is_real_e (d := x.D) rfl (nuD_tys x)
  rw [real_of h hr] at h1
  simp [F_check_real, e_run, en, b_check_real, h1]
theorem check_real_bad {d : D} (h : (tyN d).isSome = true) (h2 : ∀ ds, d = .tuple ds → tys ds = true) (hn : isReal d = false) : F_check_real [.im d] = .ex ⟨"InvalidReal", []⟩ [] := by
  have h1 := is_real_e h h2
  rw [hn] at h1
  simp [F_check_real, e_run, en, b_check_real, h1]
theorem sign_e {x : Nu} (h : Rea x) : F_sign [.im x.D] = .ok (.im (.int (sg x.a x.b))) [] := by
  have h1 := check_real_ok h.ok h.rl
  obtain ⟨b1, b2, _⟩ := h.bd
  have h2 := sign_of_e x (by omega) (by omega)
  simp [F_sign, e_run, en, b_sign, h1, h2]
theorem Bd_up {B : Nat} {x : Nu} (h : Bd B x) : Bd (2 * B) x.up := by
  obtain ⟨h1, h2, h3, h4⟩ := h
  refine ⟨?_, ?_, ?_, ?_⟩ <;> unfold Nu.up <;> simp only <;> omega
theorem Bd_ups {B : Nat} : ∀ (n : Nat) {x : Nu}, Bd B x → Bd (2 ^ n * B) (ups n x)
  | 0, x, h => by
    show Bd (2 ^ 0 * B) x
    rw [Nat.pow_zero, Nat.one_mul]; exact h
  | n + 1, x, h => by
    rw [ups_s]
    have := Bd_ups n (Bd_up h)
    rw [Nat.pow_succ, Nat.mul_assoc]
    exact this
theorem Bd_Lv {B N : Nat} {x : Nu} (h : Bd B x) (hN : N ≤ 9) : Bd (512 * B) (Lv N x) := by
  unfold Lv
  refine Bd_mono (Bd_ups _ h) (Nat.mul_le_mul_right _ ?_)
  exact Nat.pow_le_pow_right (n := 2) (by decide) (show N - x.k.toNat ≤ 9 by omega)
theorem Bd_plus {B : Nat} {x y : Nu} (h1 : Bd B x) (h2 : Bd B y) (hx : x.k ≤ 9) (hy : y.k ≤ 9) : Bd (1024 * B) (x.plus y) := by
  have hm : mx x y ≤ 9 := by unfold mx; omega
  obtain ⟨p1, p2, p3, p4⟩ := Bd_Lv h1 hm
  obtain ⟨q1, q2, q3, q4⟩ := Bd_Lv h2 hm
  refine Bd_least ⟨?_, ?_, ?_, ?_⟩ <;> unfold Nu.add <;> simp only <;> omega
theorem Bd_neg {B : Nat} {x : Nu} (h : Bd B x) : Bd B x.neg := by
  obtain ⟨h1, h2, h3, h4⟩ := h
  exact ⟨by show (-x.a).natAbs ≤ _; omega, by show (-x.b).natAbs ≤ _; omega, by show (-x.c).natAbs ≤ _; omega, by show (-x.d).natAbs ≤ _; omega⟩
theorem below_e {x y : Nu} (hx : Re0 10000000000000 x) (hy : Re0 10000000000000 y) : F_below [.im x.D, .im y.D] = .ok (.im (.bool (decide (sg (x.plus y.neg).a (x.plus y.neg).b < 0)))) [] := by
  have h1 := check_real_ok hx.ok hx.rl
  have h2 := check_real_ok hy.ok hy.rl
  have x0 := (even_of hx.ok).1
  have y0 := (even_of hy.ok).1
  have h3 := F_subtract_e x y x0 y0 (by have := hx.k9; omega) (by have := hy.k9; omega)
  obtain ⟨b1, b2, _⟩ := Bd_plus hx.bd (Bd_neg hy.bd) hx.k9 hy.k9
  have h4 := sign_of_e (x.plus y.neg) (by omega) (by omega)
  simp [F_below, e_run, en, b_below, h1, h2, h3, h4]
/-! ### floors -/
theorem rt_exI (n : Int) : ∃ r, 0 ≤ n → IsRt n r := by
  by_cases h : 0 ≤ n
  · obtain ⟨r, hr⟩ := rt_ex n.toNat
    rw [show ((n.toNat : Nat) : Int) = n by omega] at hr
    exact ⟨r, fun _ => hr⟩
  · exact ⟨0, fun z => absurd z h⟩
noncomputable def rtI (n : Int) : Int := Classical.choose (rt_exI n)
theorem rtI_ok {n : Int} (h : 0 ≤ n) : IsRt n (rtI n) := Classical.choose_spec (rt_exI n) h
def flA (x : Nu) : Int := if x.k % 2 = 1 then 2 * x.b else x.a
def flB (x : Nu) : Int := if x.k % 2 = 1 then x.a else x.b
def flM (x : Nu) : Nat := if x.k % 2 = 1 then ((x.k + 1) / 2).toNat else (x.k / 2).toNat
def flo (x : Nu) : Int := (flA x + fr (rtI (2 * flB x * flB x)) (flB x)) / 2 ^ flM x
theorem sq2 (B : Int) : 0 ≤ 2 * B * B := by
  have : 0 ≤ B * B := by
    rcases Int.le_total 0 B with h | h
    · exact Int.mul_nonneg h h
    · exact Int.mul_nonneg_of_nonpos_of_nonpos h h
  have e : 2 * B * B = 2 * (B * B) := by grind
  omega
theorem sq2_lt {B : Int} (h : B.natAbs ≤ 8000000000000) : 2 * B * B < 2 ^ 100 := by
  have h1 : B * B = ((B.natAbs * B.natAbs : Nat) : Int) := by rw [Int.natCast_mul]; exact (Int.natAbs_mul_self' B).symm
  have h2 : B.natAbs * B.natAbs ≤ 8000000000000 * 8000000000000 := Nat.mul_le_mul h h
  have e : 2 * B * B = 2 * (B * B) := by grind
  generalize B.natAbs * B.natAbs = Q at *
  have : (B * B : Int) ≤ 8000000000000 * 8000000000000 := by rw [h1]; omega
  omega
theorem floor_of_roots_e {B : Int} (h : B.natAbs ≤ 8000000000000) : F_floor_of_roots [.im (.int B)] = .ok (.im (.int (fr (rtI (2 * B * B)) B))) [] := by
  have h1 := int_root_e (sq2 B) (sq2_lt h) (rtI_ok (sq2 B))
  have m2 : mulOk 2 B = true := mok_l (by decide)
  have m3 : mulOk (2 * B) B = true := mok_r (by omega)
  unfold fr
  by_cases hb : 0 ≤ B
  · simp [F_floor_of_roots, e_run, en, b_floor_of_roots, hb, m2, m3, h1]
  · simp [F_floor_of_roots, e_run, en, b_floor_of_roots, hb, m2, m3, h1]
theorem flM_le {x : Nu} (h : x.k ≤ 9) (h0 : 0 ≤ x.k) : flM x ≤ 5 := by
  unfold flM
  split <;> omega
theorem p2_lt64 {m : Nat} (h : m ≤ 5) : (0 : Int) < 2 ^ m ∧ (2 : Int) ^ m < 18446744073709551616 := by
  have : m = 0 ∨ m = 1 ∨ m = 2 ∨ m = 3 ∨ m = 4 ∨ m = 5 := by omega
  rcases this with rfl | rfl | rfl | rfl | rfl | rfl <;> decide
theorem floor_e {x : Nu} (h : Rea x) : F_floor [.im x.D] = .ok (.im (.int (flo x))) [] := by
  have h1 := check_real_ok h.ok h.rl
  have x0 := (even_of h.ok).1
  obtain ⟨b1, b2, _⟩ := h.bd
  have k9 := h.k9
  have hm := flM_le k9 x0
  obtain ⟨p1, p2⟩ := p2_lt64 hm
  unfold flo
  unfold flA flB flM at *
  by_cases ho : x.k % 2 = 1
  · rw [if_pos ho] at hm p1 p2 ⊢
    rw [if_pos ho, if_pos ho]
    have h2 := floor_of_roots_e (B := x.a) (by omega)
    have h3 := F_power_e ((x.k + 1) / 2) (by omega) (by omega)
    have m2 : mulOk 2 x.b = true := mok_l (by decide)
    simp [F_floor, e_run, en, b_floor, h1, atI, ixN, ho, h2, h3, m2, p1, p2]
  · rw [if_neg ho] at hm p1 p2 ⊢
    rw [if_neg ho, if_neg ho]
    have h2 := floor_of_roots_e (B := x.b) (by omega)
    have h3 := F_power_e (x.k / 2) (by omega) (by omega)
    simp [F_floor, e_run, en, b_floor, h1, atI, ixN, ho, h2, h3, p1, p2]
theorem L_floor_e {x : Nu} (h : Rea x) : F__law_floor [.im x.D] = .ok (.im (.int (flo x))) [] := by
  have x0 := (even_of h.ok).1
  obtain ⟨b1, b2, _⟩ := h.bd
  have k9 := h.k9
  have hm := flM_le k9 x0
  obtain ⟨p1, p2⟩ := p2_lt64 hm
  have hL := L_two_e (flM x) (by omega)
  unfold flo
  unfold flA flB flM at *
  by_cases ho : x.k % 2 = 1
  · rw [if_pos ho] at hm p1 p2 hL ⊢
    rw [if_pos ho, if_pos ho]
    have e3 : ((((x.k + 1) / 2).toNat : Nat) : Int) = (x.k + 1) / 2 := by omega
    rw [e3] at hL
    have h2 := L_root_e (sq2 x.a) (sq2_lt (by omega)) (rtI_ok (sq2 x.a))
    have m2 : mulOk 2 x.b = true := mok_l (by decide)
    have m3 : mulOk 2 x.a = true := mok_l (by decide)
    have m4 : mulOk (2 * x.a) x.a = true := mok_r (by omega)
    unfold fr
    by_cases hb : 0 ≤ x.a
    · simp [F__law_floor, e_run, en, b__law_floor, atI, ixN, ho, h2, hL, m2, m3, m4, hb, p1, p2]
    · simp [F__law_floor, e_run, en, b__law_floor, atI, ixN, ho, h2, hL, m2, m3, m4, hb, p1, p2]
  · rw [if_neg ho] at hm p1 p2 hL ⊢
    rw [if_neg ho, if_neg ho]
    have e3 : (((x.k / 2).toNat : Nat) : Int) = x.k / 2 := by omega
    rw [e3] at hL
    have h2 := L_root_e (sq2 x.b) (sq2_lt (by omega)) (rtI_ok (sq2 x.b))
    have m3 : mulOk 2 x.b = true := mok_l (by decide)
    have m4 : mulOk (2 * x.b) x.b = true := mok_r (by omega)
    unfold fr
    by_cases hb : 0 ≤ x.b
    · simp [F__law_floor, e_run, en, b__law_floor, atI, ixN, ho, h2, hL, m3, m4, hb, p1, p2]
    · simp [F__law_floor, e_run, en, b__law_floor, atI, ixN, ho, h2, hL, m3, m4, hb, p1, p2]
theorem flo_ok {x : Nu} (h : Rea x) : ¬ sg (x.plus ⟨-flo x, 0, 0, 0, 0⟩).a (x.plus ⟨-flo x, 0, 0, 0, 0⟩).b < 0 ∧ sg (x.plus ⟨-(flo x + 1), 0, 0, 0, 0⟩).a (x.plus ⟨-(flo x + 1), 0, 0, 0, 0⟩).b < 0 := by
  have x0 := (even_of h.ok).1
  have hp : (0 : Int) < 2 ^ flM x := Int.pow_pos (by decide)
  obtain ⟨s1, s2⟩ := sg_floor (A := flA x) (B := flB x) (w := flo x) hp (rtI_ok (sq2 (flB x))) rfl
  have e1 := (sg_less x0 h.rl (flo x)).2
  have e2 := (sg_less x0 h.rl (flo x + 1)).2
  rw [e1, e2]
  unfold flA flB flM at s1 s2
  by_cases ho : x.k % 2 = 1
  · rw [if_pos ho, if_pos ho]
    rw [if_pos ho, if_pos ho, if_pos ho] at s1 s2
    exact ⟨s1, s2⟩
  · rw [if_neg ho, if_neg ho]
    rw [if_neg ho, if_neg ho, if_neg ho] at s1 s2
    exact ⟨s1, s2⟩
theorem ediv_bd {q D : Int} {M : Nat} (hD : 0 < D) (h : q.natAbs ≤ M) : (q / D).natAbs ≤ M := by
  have h1 : q / D * D ≤ q := Int.ediv_mul_le _ (by omega)
  have h2 : q < (q / D + 1) * D := Int.lt_ediv_add_one_mul_self _ hD
  generalize q / D = e at *
  by_cases he : 0 ≤ e
  · have := Int.mul_le_mul_of_nonneg_left (show 1 ≤ D by omega) he
    omega
  · have := Int.mul_le_mul_of_nonpos_left (show e + 1 ≤ 0 by omega) (show 1 ≤ D by omega)
    omega
theorem flo_bd {x : Nu} (h : Rea x) : (flo x).natAbs ≤ 5000000000000 := by
  obtain ⟨b1, b2, _⟩ := h.bd
  have hB : (flB x).natAbs ≤ 1000000000000 := by unfold flB; split <;> omega
  have hA : (flA x).natAbs ≤ 2000000000000 := by unfold flA; split <;> omega
  unfold flo
  refine ediv_bd (Int.pow_pos (by decide)) ?_
  have hr := rtI_ok (sq2 (flB x))
  have r0 := hr.1
  have r1 : rtI (2 * flB x * flB x) ≤ 2 * (flB x).natAbs := by
    refine hr.le (by omega) ?_
    have e1 : ((flB x).natAbs : Int) * (flB x).natAbs = flB x * flB x := Int.natAbs_mul_self' _
    have u0 : 0 ≤ ((flB x).natAbs : Int) := by omega
    generalize ((flB x).natAbs : Int) = u at *
    have e2 : (2 * u + 1) * (2 * u + 1) = 4 * (u * u) + 4 * u + 1 := by grind
    have e3 : 2 * flB x * flB x = 2 * (flB x * flB x) := by grind
    have e4 : 0 ≤ 2 * flB x * flB x := sq2 _
    rw [e2, e3, e1]
    omega
  unfold fr
  split <;> omega
/-! ### parts -/
theorem real_part_e {p : Nr} (k6 : p.x.k ≤ 9) : F_real_part [.im p.x.D] = .ok (.im p.re.x.D) [] := by
  have h := check_nu p.ok
  have h1 := conjd_e p.x
  have h2 := F_add_e p.x p.x.conj p.k0 p.conj.k0 (by omega) (by rw [conj_k]; omega)
  have hk := (plus_k p.k0 p.conj.k0).2.1
  have hk2 : p.conj.x.k = p.x.k := rfl
  have h3 : F_multiply [.im (p.x.plus p.x.conj).D, .im (.tuple [.int 1, .int 0, .int 0, .int 0, .int 2])] = .ok (.im p.re.x.D) [] := F_multiply_e (p.x.plus p.x.conj) ⟨1, 0, 0, 0, 2⟩ (.inr ⟨by decide, by decide, by decide, by decide⟩) (by show (p.x.plus p.x.conj).k + 2 ≤ _; have : (p.x.plus p.x.conj).k ≤ max p.x.k p.x.k := hk; omega)
  simp [F_real_part, e_run, en, b_real_part, h, h1, h2, h3]
theorem other_part_e {p : Nr} (k6 : p.x.k ≤ 9) : F_other_part [.im p.x.D] = .ok (.im p.im.x.D) [] := by
  have h := check_nu p.ok
  have h1 := conjd_e p.x
  have h2 := F_subtract_e p.x p.x.conj p.k0 p.conj.k0 (by omega) (by rw [conj_k]; omega)
  have hk := (plus_k p.k0 (-p.conj).k0).2.1
  have hk2 : (-p.conj).x.k = p.x.k := rfl
  have h3 : F_multiply [.im (p.x.plus p.x.conj.neg).D, .im (.tuple [.int 0, .int 0, .int (-1), .int 0, .int 2])] = .ok (.im p.im.x.D) [] := F_multiply_e (p.x.plus p.x.conj.neg) ⟨0, 0, -1, 0, 2⟩ (.inr ⟨by decide, by decide, by decide, by decide⟩) (by show (p.x.plus p.x.conj.neg).k + 2 ≤ _; have : (p.x.plus p.x.conj.neg).k ≤ max p.x.k p.x.k := hk; omega)
  simp [F_other_part, e_run, en, b_other_part, h, h1, h2, h3]
end
end K02

set_option Elab.async false
set_option linter.all false
set_option maxRecDepth 100000
set_option maxHeartbeats 0
namespace K02
noncomputable section
open PySem PySem.Spec PyProof.Rows L2 Dl
/-! ### parts, draws, errors -/
theorem parts_right_e {p : Nr} (hk : p.x.k ≤ 9) : F__law_parts_right [.im p.x.D] = .ok (.im (.bool true)) [] := by
  have h1 := real_part_e hk
  have h2 := other_part_e hk
  have kp : p.conj.x.k = p.x.k := rfl
  have kn : (-p.conj).x.k = p.x.k := rfl
  have k0 := p.k0
  have kh : halfN.x.k = 2 := rfl
  have km : mihN.x.k = 2 := rfl
  have ki : iN.x.k = 0 := rfl
  have a1 := Nr.add_k p p.conj
  have a2 := Nr.add_k p (-p.conj)
  have a3 : p.re.x.k ≤ _ := Nr.mul_k (p + p.conj) halfN
  have a4 : p.im.x.k ≤ _ := Nr.mul_k (p + -p.conj) mihN
  have a5 := Nr.mul_k iN p.im
  have r1 := is_real_e (d := p.re.x.D) rfl (nuD_tys _)
  rw [real_of p.re.ok (rl_iff.mpr (re_conj p))] at r1
  have r2 := is_real_e (d := p.im.x.D) rfl (nuD_tys _)
  rw [real_of p.im.ok (rl_iff.mpr (im_conj p))] at r2
  have s1 := same_b true
  have h3 : F__law_times [.im (.tuple [.int 0, .int 0, .int 1, .int 0, .int 0]), .im p.im.x.D] = .ok (.im (iN * p.im).x.D) [] := L_times_e iN.x p.im.x (.inl ⟨by decide, by decide, by decide, by decide⟩) (by decide) p.im.k0 (by omega)
  have h4 := L_plus_e p.re.x (iN * p.im).x p.re.k0 (iN * p.im).k0 (by omega) (by omega)
  have e4 : p.re.x.plus (iN * p.im).x = p.x := congrArg Nr.x (re_im p)
  rw [e4] at h4
  have h5 := L_plus_e p.re.x p.re.x p.re.k0 p.re.k0 (by omega) (by omega)
  have h6 := L_plus_e p.x p.conj.x p.k0 p.conj.k0 (by omega) (by omega)
  have e5 : p.re.x.plus p.re.x = p.x.plus p.conj.x := congrArg Nr.x (re_re p)
  rw [e5] at h5
  have h7 := L_conj_e p.x
  have e7 : p.conj.x = p.x.conj := rfl
  rw [e7] at h5 h6
  have n1 := g_neNu p.x
  have n2 := g_eqNu (p.x.plus p.x.conj)
  simp [F__law_parts_right, e_run, en, b__law_parts_right, h1, h2, r1, r2, s1, h3, h4, h5, h6, h7, n1, n2]
theorem rl_least4 {a b k : Int} (h0 : 0 ≤ k) (hk : k ≤ 9) (ha : a.natAbs ≤ 1000000000000) (hb : b.natAbs ≤ 1000000000000) : Rea (Nu.least ⟨a, b, 0, -b, k⟩) := by
  have hr : Rl ⟨a, b, 0, -b, k⟩ := ⟨rfl, rfl⟩
  have hd : Bd 1000000000000 ⟨a, b, 0, -b, k⟩ := ⟨ha, hb, Nat.zero_le _, by show (-b).natAbs ≤ _; omega⟩
  have := (least_k (x := ⟨a, b, 0, -b, k⟩) h0).2.1
  exact ⟨okNu_least h0, (rl_least h0 hr).1, Bd_least hd, by have : (Nu.least ⟨a, b, 0, -b, k⟩).k ≤ k := this; omega⟩
theorem real_e {n : Nat} {ds : List D} (h : Deck (n + 6) ds) : ∃ x ds', F__law_real [.io ds] = .ok (.im x.D) [ds'] ∧ Rea x ∧ Deck n ds' := by
  obtain ⟨w, d1, e1, w0, w1, k1⟩ := draw_e (m := 4) h (by omega) (by omega)
  obtain ⟨v, d2, e2, v0, v1, k2⟩ := draw_e (m := 3) k1 (by omega) (by omega)
  have hp : gPow (.int 10) (.int 12) = some (.int 1000000000000) := by
    unfold gPow gII
    simp only [i6_eq]
    rfl
  obtain ⟨r, hr, hm⟩ := atI_mem (xs := [.int 3, .int 50, .int 1000000000000]) v0 v1
  have : ∃ g : Int, r = .int g ∧ 0 < g ∧ g ≤ 1000000000000 := by
    simp only [List.mem_cons, List.not_mem_nil, or_false] at hm
    rcases hm with rfl | rfl | rfl <;> exact ⟨_, rfl, by decide, by decide⟩
  obtain ⟨g, rfl, g0, g1⟩ := this
  have m2 : mulOk 2 g = true := mok_l (by decide)
  obtain ⟨p1, d3, e3, a1, b1, k3⟩ := draw_e (m := 2 * g + 1) k2 (by omega) (by omega)
  obtain ⟨p2, d4, e4, a2, b2, k4⟩ := draw_e (m := 2 * g + 1) k3 (by omega) (by omega)
  by_cases h0 : w = 0
  · subst h0
    obtain ⟨u, d5, e5, hu, k5⟩ := pick_e (xs := [.tuple [.int 7, .int (-5)], .tuple [.int (-7), .int 5], .tuple [.int 17, .int (-12)], .tuple [.int (-99), .int 70], .tuple [.int 3363, .int (-2378)], .tuple [.int (-8119), .int 5741], .tuple [.int 1, .int (-1)], .tuple [.int 3, .int (-2)]]) k4 (by simp) (by simp)
    obtain ⟨k, d6, e6, c1, c2, k6⟩ := draw_e (m := 10) k5 (by omega) (by omega)
    have : ∃ a b : Int, u = .tuple [.int a, .int b] ∧ a.natAbs ≤ 1000000000000 ∧ b.natAbs ≤ 1000000000000 := by
      simp only [List.mem_cons, List.not_mem_nil, or_false] at hu
      rcases hu with rfl | rfl | rfl | rfl | rfl | rfl | rfl | rfl <;> exact ⟨_, _, rfl, by decide, by decide⟩
    obtain ⟨a, b, rfl, ha, hb⟩ := this
    have hl := L_least_e ⟨a, b, 0, -b, k⟩ c1 (by show k ≤ 900; omega)
    have hR := rl_least4 c1 (by omega) ha hb
    clear hu
    refine ⟨_, d6, ?_, hR, k6⟩
    simp [F__law_real, e_run, en, b__law_real, e1, e2, hp, hr, e3, e4, e5, e6, m2, lim, hl]
  · obtain ⟨k, d6, e6, c1, c2, k6⟩ := draw_e (m := 10) k4 (by omega) (by omega)
    have hl := L_least_e ⟨p1 - g, p2 - g, 0, -(p2 - g), k⟩ c1 (by show k ≤ 900; omega)
    have hR := rl_least4 (a := p1 - g) (b := p2 - g) c1 (by omega) (by omega) (by omega)
    refine ⟨_, d6, ?_, hR, k6.less (by omega)⟩
    simp [F__law_real, e_run, en, b__law_real, e1, e2, hp, hr, e3, e4, h0, e6, m2, lim, hl]
@[simp] theorem tryA {E : En} {h1 h2 : Sf} : tryL [Str.ofString "InvalidNumber", Str.ofString "InvalidReal"] [(Str.ofString "InvalidNumber", Str.ofString "InvalidNumber"), (Str.ofString "InvalidReal", Str.ofString "InvalidReal")] ⟨Str.ofString "InvalidNumber", []⟩ E [(Str.ofString "InvalidNumber", h1), (Str.ofString "InvalidReal", h2)] = match h1 E with
  | .ex _ _ => .no
  | o => o := rfl
@[simp] theorem tryB {E : En} {h1 h2 : Sf} : tryL [Str.ofString "InvalidNumber", Str.ofString "InvalidReal"] [(Str.ofString "InvalidNumber", Str.ofString "InvalidNumber"), (Str.ofString "InvalidReal", Str.ofString "InvalidReal")] ⟨Str.ofString "InvalidReal", []⟩ E [(Str.ofString "InvalidNumber", h1), (Str.ofString "InvalidReal", h2)] = match h2 E with
  | .ex _ _ => .no
  | o => o := rfl
structure BadR (d : D) : Prop where
  ty : (tyN d).isSome = true
  tt : ∀ ds, d = .tuple ds → tys ds = true
  no : isReal d = false
theorem shR : SeqAt.shaped (.str (Str.ofString "real")) = true := by kernel_rfl
theorem qR : gEq (.str (Str.ofString "real")) (.str (Str.ofString "")) = some (.bool false) := by rw [g_eqS shR (by kernel_rfl)]; rfl
theorem asked_R {d : D} (e : D) (w : Int) (hw : w = 0 ∨ w = 1 ∨ w = 2) (h : BadR d) : F__law_asked [.im (.int w), .im d, .im e] = .ok (.im (.str (Str.ofString "real"))) [] := by
  have c := check_real_bad h.ty h.tt h.no
  rcases hw with rfl | rfl | rfl <;> simp [F__law_asked, e_run, en, b__law_asked, F_sign, b_sign, F_floor, b_floor, F_below, b_below, c, qR]
theorem asked_R2 {x : Nu} {d : D} (hx : Rea x) (h : BadR d) : F__law_asked [.im (.int 2), .im x.D, .im d] = .ok (.im (.str (Str.ofString "real"))) [] := by
  have c := check_real_bad h.ty h.tt h.no
  have c2 := check_real_ok hx.ok hx.rl
  simp [F__law_asked, e_run, en, b__law_asked, F_below, b_below, c, c2, qR]
theorem asked_N {d : D} (e : D) (w : Int) (hw : w = 3 ∨ w = 4) (h : Bad d) : F__law_asked [.im (.int w), .im d, .im e] = .ok (.im (.str (Str.ofString "number"))) [] := by
  have c := check_bad h
  rcases hw with rfl | rfl <;> simp [F__law_asked, e_run, en, b__law_asked, F_real_part, b_real_part, F_other_part, b_other_part, c]
def rS : D := .str (Str.ofString "real")
def nS : D := .str (Str.ofString "number")
theorem mulR : gMul (.list [.str (Str.ofString "real")]) (.int 4) = some (.list [rS, rS, rS, rS]) := by
  unfold gMul
  simp only [i63_eq]
  rfl
theorem mulN : gMul (.list [.str (Str.ofString "number")]) (.int 2) = some (.list [nS, nS]) := by
  unfold gMul
  simp only [i63_eq]
  rfl
theorem eqRN : gEq (.list [rS, rS, rS, rS, nS, nS]) (.list [rS, rS, rS, rS, nS, nS]) = some (.bool true) := by
  have sh : SeqAt.shaped (.list [rS, rS, rS, rS, nS, nS]) = true := by kernel_rfl
  have ev : PyData.eqv (.list [rS, rS, rS, rS, nS, nS]) (.list [rS, rS, rS, rS, nS, nS]) = true := by
    rw [PyData.eqv.eq_def]
    simp only [PyData.eqvAll, rS, nS, eqv_str, beq_self_eq_true, Bool.and_self]
  show (if (SeqAt.shaped (.list [rS, rS, rS, rS, nS, nS]) && SeqAt.shaped (.list [rS, rS, rS, rS, nS, nS])) = true then _ else _) = _
  rw [ev, sh]; rfl
theorem errors_right_e {m : Nat} {x : Nu} {ds : List D} (h : Deck (m + 2) ds) (hx : Rea x) : ∃ ds', F__law_errors_right [.io ds, .im x.D] = .ok (.im (.bool true)) [ds'] ∧ Deck m ds' := by
  have c1 : Dl.cutD [.int x.a, .int x.b, .int x.c, .int x.d, .int x.k] none (some 4) = [.int x.a, .int x.b, .int x.c, .int x.d] := rfl
  have hto : gToLst (.tuple [.int x.a, .int x.b, .int x.c, .int x.d, .int x.k]) = some (.list [.int x.a, .int x.b, .int x.c, .int x.d, .int x.k]) := rfl
  obtain ⟨bad, d1, e1, m1, k1⟩ := pick_e (xs := [.tuple [.int 0, .int 1, .int 0, .int 0, .int 0], .tuple [.int 0, .int 0, .int 1, .int 0, .int 0], .none, .list [.int x.a, .int x.b, .int x.c, .int x.d, .int x.k], .tuple [.int x.a, .int x.b, .int x.c, .int x.d], .tuple [.int 2, .int 0, .int 0, .int 0, .int 1], .int 3]) h (by simp) (by simp)
  obtain ⟨odd, d2, e2, m2, k2⟩ := pick_e (xs := [.none, .list [.int x.a, .int x.b, .int x.c, .int x.d, .int x.k], .tuple [.int x.a, .int x.b, .int x.c, .int x.d], .tuple [.int 2, .int 0, .int 0, .int 0, .int 1], .int 3, .str (Str.ofString "1")]) k1 (by simp) (by simp)
  have hb : BadR bad := by
    simp only [List.mem_cons, List.not_mem_nil, or_false] at m1
    rcases m1 with rfl | rfl | rfl | rfl | rfl | rfl | rfl <;> exact ⟨rfl, fun ds e => by cases e <;> rfl, rfl⟩
  have ho : Bad odd := by
    simp only [List.mem_cons, List.not_mem_nil, or_false] at m2
    rcases m2 with rfl | rfl | rfl | rfl | rfl | rfl <;> exact ⟨rfl, fun ds e => by cases e <;> rfl, rfl⟩
  have a0 := asked_R (d := bad) (.int 0) 0 (by simp) hb
  have a1 := asked_R (d := bad) (.int 0) 1 (by simp) hb
  have a2 := asked_R (d := bad) x.D 2 (by simp) hb
  have a3 := asked_R2 hx hb
  have a4 := asked_N (d := odd) (.int 0) 3 (by simp) ho
  have a5 := asked_N (d := odd) (.int 0) 4 (by simp) ho
  have q1 := mulR
  have q2 := mulN
  have q3 := eqRN
  simp only [rS, nS] at q1 q2 q3
  clear m1 m2 hb ho
  exact ⟨d2, by simp only [F__law_errors_right]; simp [e_run, en, b__law_errors_right, e1, e2, c1, hto, a0, a1, a2, a3, a4, a5, q1, q2, q3, lim], k2⟩
end
end K02

set_option Elab.async false
set_option linter.all false
set_option maxRecDepth 100000
set_option maxHeartbeats 0
namespace K02
noncomputable section
open PySem PySem.Spec PyProof.Rows L2 Dl
/-! ### the law -/
theorem l1_e {E : En} {v : D} (h : gs E 6 = some (.im v)) (hv : Gv v) : l_law_1 E = .nx E := by
  have h1 := is_real_e hv.1 fun ds e => (hv.2 ds e).1
  have h2 := L_is_number_e v hv.1 hv.2
  have s := same_b (isReal v)
  cases e : isRing v with
  | false =>
    rw [e] at h2
    rw [not_real e] at h1 s
    simp [h, h1, h2, s]
  | true =>
    rw [e] at h2
    obtain ⟨x, rfl, hx⟩ := ring_ints e
    obtain ⟨a, b, c, d, k⟩ := x
    obtain ⟨i0, i1, i2, i3, i4⟩ := @ix2 a b c d k
    have er : isReal (Nu.D ⟨a, b, c, d, k⟩) = (decide (c = 0) && decide (d = -b)) := by
      show (okNu ⟨a, b, c, d, k⟩ && _) = _
      rw [hx]; rfl
    rw [er] at h1 s
    by_cases hc : c = 0
    · subst hc
      simp at h1 s
      simp [h, h1, h2, i0, i1, i2, i3, i4, s]
    · simp [hc] at h1 s
      simp [h, h1, h2, i0, i1, i2, i3, i4, hc, s]
abbrev oD (o : Option D) : Option Sl := o.map Sl.im
def LawK2 (sc i : D) (deck ds : List D) (E : En) : Prop :=
  ∃ (a b : D) (c : Option D) (d e : D), E = [some (Sl.im sc), some (Sl.im i), some (Sl.ow deck), some (Sl.ow ds), some (Sl.im a), some (Sl.im b), oD c, none, some (Sl.im d), some (Sl.im e)]
def LawK (sc i : D) (deck ds : List D) (E : En) : Prop := E = [some (Sl.im sc), some (Sl.im i), some (Sl.ow deck), some (Sl.ow ds), none, none, none, none, none, none] ∨ LawK2 sc i deck ds E
theorem at5 {x0 x1 x2 x3 x4 : Nu} {k : Int} (h0 : 0 ≤ k) (h1 : k < 5) : ∃ x ∈ [x0, x1, x2, x3, x4], ∃ y ∈ [x0, x1, x2, x3, x4], atI [x0.D, x1.D, x2.D, x3.D, x4.D] k = some x.D ∧ atI [x0.D, x1.D, x2.D, x3.D, x4.D] (k - 1) = some y.D := by
  have : k = 0 ∨ k = 1 ∨ k = 2 ∨ k = 3 ∨ k = 4 := by omega
  rcases this with rfl | rfl | rfl | rfl | rfl <;> exact ⟨_, by simp, _, by simp, rfl, rfl⟩
theorem whole_re {w : Int} (h : w.natAbs ≤ 9000000000000) : Re0 10000000000000 ⟨w, 0, 0, 0, 0⟩ := ⟨okNu_k0 rfl, ⟨rfl, rfl⟩, ⟨by show w.natAbs ≤ _; omega, Nat.zero_le _, Nat.zero_le _, Nat.zero_le _⟩, by show (0 : Int) ≤ 9; decide⟩
theorem turn_e {sc i : D} {deck : List D} {m : Nat} (hd : Deck (m + 5) deck) {x0 x1 x2 x3 x4 : Nu} (hx : ∀ x ∈ [x0, x1, x2, x3, x4], Rea x) {k : Int} (k0 : 0 ≤ k) (k1 : k < 5) {E : En} (hE : LawK sc i deck [x0.D, x1.D, x2.D, x3.D, x4.D] E) :
    ∃ E1 E2 deck', tgN 4 (.int k) E = some E1 ∧ l_law_2 E1 = .nx E2 ∧ LawK2 sc i deck' [x0.D, x1.D, x2.D, x3.D, x4.D] E2 ∧ Deck m deck' := by
  obtain ⟨x, mx, y, my, g1, g2⟩ := at5 (x0 := x0) (x1 := x1) (x2 := x2) (x3 := x3) (x4 := x4) k0 k1
  have rx := hx x mx
  have ry := hx y my
  have rx' : Re0 10000000000000 x := rx.mono (by decide)
  have ry' : Re0 10000000000000 y := ry.mono (by decide)
  have x0' := (even_of rx.ok).1
  have y0' := (even_of ry.ok).1
  have h1 := sign_e rx
  obtain ⟨bx1, bx2, _⟩ := rx.bd
  have h2 := L_sign_e x (by omega) (by omega)
  have s1 : F__law_same [.im (.int (sg x.a x.b)), .im (.int (sg x.a x.b))] = .ok (.im (.bool true)) [] := same_r rfl
  have h3 := below_e rx' ry'
  have h4 := L_less_e y
  have h5 := L_plus_e x y.neg x0' (by rw [neg_k]; exact y0') (by have := rx.k9; omega) (by have := ry.k9; rw [neg_k]; omega)
  obtain ⟨bp1, bp2, _⟩ := Bd_plus rx'.bd (Bd_neg ry'.bd) rx.k9 ry.k9
  have h6 := L_sign_e (x.plus y.neg) (by omega) (by omega)
  have s2 := same_b (decide (sg (x.plus y.neg).a (x.plus y.neg).b < 0))
  have h7 := floor_e rx
  have h8 := L_floor_e rx
  have s3 : F__law_same [.im (.int (flo x)), .im (.int (flo x))] = .ok (.im (.bool true)) [] := same_r rfl
  have hb := flo_bd rx
  obtain ⟨f1, f2⟩ := flo_ok rx
  have h9 : F_below [.im x.D, .im (.tuple [.int (flo x), .int 0, .int 0, .int 0, .int 0])] = .ok (.im (.bool false)) [] := by
    have := below_e rx' (whole_re (w := flo x) (by omega))
    have e : Nu.neg ⟨flo x, 0, 0, 0, 0⟩ = ⟨-flo x, 0, 0, 0, 0⟩ := by unfold Nu.neg; simp
    rw [e, decide_eq_false f1] at this
    exact this
  have h10 : F_below [.im x.D, .im (.tuple [.int (flo x + 1), .int 0, .int 0, .int 0, .int 0])] = .ok (.im (.bool true)) [] := by
    have := below_e rx' (whole_re (w := flo x + 1) (by omega))
    have e : Nu.neg ⟨flo x + 1, 0, 0, 0, 0⟩ = ⟨-(flo x + 1), 0, 0, 0, 0⟩ := by unfold Nu.neg; simp
    rw [e, decide_eq_true f2] at this
    exact this
  obtain ⟨r, d2, e1, gr, k2⟩ := bent_e x hd
  have hto : gToLst x.D = some (.list [.int x.a, .int x.b, .int x.c, .int x.d, .int x.k]) := rfl
  have i0 : atI [PyData.int x.a, .int x.b, .int x.c, .int x.d, .int x.k] 0 = some (.int x.a) := rfl
  have i1 : atI [PyData.int x.a, .int x.b, .int x.c, .int x.d, .int x.k] 1 = some (.int x.b) := rfl
  have i4 : atI [PyData.int x.a, .int x.b, .int x.c, .int x.d, .int x.k] 4 = some (.int x.k) := rfl
  have gvs : ∀ v ∈ [x.D, r, .tuple [.int x.a, .int x.b, .int 0, .int x.b, .int x.k], .list [.int x.a, .int x.b, .int x.c, .int x.d, .int x.k]], Gv v := by
    intro v hv
    simp only [List.mem_cons, List.not_mem_nil, or_false] at hv
    rcases hv with rfl | rfl | rfl | rfl
    · exact Gv_tup rfl (Nat.le_of_ble_eq_true rfl)
    · exact gr
    · exact Gv_tup rfl (Nat.le_of_ble_eq_true rfl)
    · exact ⟨rfl, fun ds e => by cases e⟩
  have lp := fun o => for_keep (f := fun o => [some (Sl.im sc), some (Sl.im i), some (Sl.ow d2), some (Sl.ow [x0.D, x1.D, x2.D, x3.D, x4.D]), some (Sl.im (.int k)), some (Sl.im (.int (flo x))), oD o, none, some (Sl.im x.D), some (Sl.im y.D)]) (P := Gv) (tg := tgN 6) (bd := l_law_1) (fun v o => by cases o <;> simp) (fun v hv => l1_e rfl hv) _ o gvs
  generalize sg x.a x.b = S at *

  have ne1 : gEq (.int (flo x)) (.int (flo x)) = some (.bool true) := by simp
  clear hx rx ry rx' ry' bx1 bx2 bp1 bp2 hb f1 f2 gvs gr mx my
  rcases hE with rfl | ⟨a, b, c, d, e, rfl⟩
  · obtain ⟨o1, lp1⟩ := lp none
    simp only [oD, Option.map_none] at lp1
    refine ⟨[some (Sl.im sc), some (Sl.im i), some (Sl.ow deck), some (Sl.ow [x0.D, x1.D, x2.D, x3.D, x4.D]), some (Sl.im (.int k)), none, none, none, none, none], [some (Sl.im sc), some (Sl.im i), some (Sl.ow d2), some (Sl.ow [x0.D, x1.D, x2.D, x3.D, x4.D]), some (Sl.im (.int k)), some (Sl.im (.int (flo x))), oD o1, none, some (Sl.im x.D), some (Sl.im y.D)], d2, by simp, ?_, ⟨_, _, o1, _, _, rfl⟩, k2⟩
    simp [g1, g2, h1, h2, s1, h3, h4, h5, h6, s2, h7, h8, s3, h9, h10, e1, hto, i0, i1, i4, lp1, lim]
  · obtain ⟨o1, lp1⟩ := lp c
    simp only [oD] at lp1
    refine ⟨[some (Sl.im sc), some (Sl.im i), some (Sl.ow deck), some (Sl.ow [x0.D, x1.D, x2.D, x3.D, x4.D]), some (Sl.im (.int k)), some (Sl.im b), oD c, none, some (Sl.im d), some (Sl.im e)], [some (Sl.im sc), some (Sl.im i), some (Sl.ow d2), some (Sl.ow [x0.D, x1.D, x2.D, x3.D, x4.D]), some (Sl.im (.int k)), some (Sl.im (.int (flo x))), oD o1, none, some (Sl.im x.D), some (Sl.im y.D)], d2, by simp, ?_, ⟨_, _, o1, _, _, rfl⟩, k2⟩
    simp [g1, g2, h1, h2, s1, h3, h4, h5, h6, s2, h7, h8, s3, h9, h10, e1, hto, i0, i1, i4, lp1, lim]
theorem five_turns {sc i : D} {deck : List D} {m : Nat} (hd : Deck (m + 25) deck) {x0 x1 x2 x3 x4 : Nu} (hx : ∀ x ∈ [x0, x1, x2, x3, x4], Rea x) {E : En} (hE : LawK sc i deck [x0.D, x1.D, x2.D, x3.D, x4.D] E) :
    ∃ E2 deck', forL (tgN 4) l_law_2 (rgD 0 5) E = .nx E2 ∧ LawK2 sc i deck' [x0.D, x1.D, x2.D, x3.D, x4.D] E2 ∧ Deck m deck' := by
  obtain ⟨A1, B1, c1, a1, b1, l1, q1⟩ := turn_e (m := m + 20) hd hx (k := 0) (by decide) (by decide) hE
  obtain ⟨A2, B2, c2, a2, b2, l2, q2⟩ := turn_e (m := m + 15) q1 hx (k := 1) (by decide) (by decide) (.inr l1)
  obtain ⟨A3, B3, c3, a3, b3, l3, q3⟩ := turn_e (m := m + 10) q2 hx (k := 2) (by decide) (by decide) (.inr l2)
  obtain ⟨A4, B4, c4, a4, b4, l4, q4⟩ := turn_e (m := m + 5) q3 hx (k := 3) (by decide) (by decide) (.inr l3)
  obtain ⟨A5, B5, c5, a5, b5, l5, q5⟩ := turn_e (m := m) q4 hx (k := 4) (by decide) (by decide) (.inr l4)
  refine ⟨B5, c5, ?_, l5, q5⟩
  rw [rg5]
  simp only [e_for1, a1, b1, a2, b2, a3, b3, a4, b4, a5, b5, e_for0]
def LawO (sc : D) (E : En) : Prop := E = [some (Sl.im sc), none, none, none, none, none, none, none, none, none] ∨
  ∃ (i : D) (deck ds : List D) (a b : D) (c : Option D) (d e : D), E = [some (Sl.im sc), some (Sl.im i), some (Sl.ow deck), some (Sl.ow ds), some (Sl.im a), some (Sl.im b), oD c, none, some (Sl.im d), some (Sl.im e)]
theorem law_turn (sc : D) (i : Int) (E : En) (hE : LawO sc E) : ∃ E1 E2, tgN 1 (.int i) E = some E1 ∧ l_law_3 E1 = .nx E2 ∧ LawO sc E2 := by
  obtain ⟨d0, e0, k0⟩ := deck_e i
  have k0 := k0.less (m := 100) (by omega)
  obtain ⟨x0, d1, e1, r0, k1⟩ := real_e (n := 94) k0
  obtain ⟨x1, d2, e2, r1, k2⟩ := real_e (n := 88) k1
  obtain ⟨x2, d3, e3, r2, k3⟩ := real_e (n := 82) k2
  obtain ⟨x3, d4, e4, r3, k4⟩ := real_e (n := 76) k3
  obtain ⟨x4, d5, e5, r4, k5⟩ := real_e (n := 70) k4
  have hx : ∀ x ∈ [x0, x1, x2, x3, x4], Rea x := by
    intro x hx
    simp only [List.mem_cons, List.not_mem_nil, or_false] at hx
    rcases hx with rfl | rfl | rfl | rfl | rfl <;> assumption
  have rg : inRg 5 = true := in_rg (by omega) (by omega)
  have e5' : (5 : Int).toNat = 5 := rfl
  have i0 : atI [x0.D, x1.D, x2.D, x3.D, x4.D] 0 = some x0.D := rfl
  have i1 : atI [x0.D, x1.D, x2.D, x3.D, x4.D] 1 = some x1.D := rfl
  have f4 := parts_right_e (p := ⟨x0, r0.ok⟩) r0.k9
  simp only at f4
  rcases hE with rfl | ⟨i', deck', ds', a, b, c, d, e, rfl⟩
  · obtain ⟨E3, d6, f1, l1, k6⟩ := five_turns (sc := sc) (i := .int i) (m := 40) (k5.less (by omega)) hx (E := [some (Sl.im sc), some (Sl.im (.int i)), some (Sl.ow d5), some (Sl.ow [x0.D, x1.D, x2.D, x3.D, x4.D]), none, none, none, none, none, none]) (.inl rfl)
    obtain ⟨y, d7, f2, hy, k7⟩ := number_e (n := 30) (g := 50) (k6.less (by omega)) (by decide) (by decide)
    have f3 := parts_right_e (p := ⟨y, hy.ok⟩) (by have := hy.k6; show y.k ≤ 9; omega)
    obtain ⟨d8, f5, k8⟩ := errors_right_e (m := 10) (k7.less (by omega)) r1
    simp only at f3
    have hlc : lcL (tgN 7) xbYes e_law_1 [7] (rgD 0 5) [] [some (Sl.im sc), some (Sl.im (.int i)), some (Sl.ow d0), none, none, none, none, none, none, none] = .ok [x0.D, x1.D, x2.D, x3.D, x4.D] [some (Sl.im sc), some (Sl.im (.int i)), some (Sl.ow d5), none, none, none, none, none, none, none] := by
      simp [rg5, e_lc1, e1, e2, e3, e4, e5, lim]
    obtain ⟨a', b', c', d', e', rfl⟩ := l1
    refine ⟨[some (Sl.im sc), some (Sl.im (.int i)), none, none, none, none, none, none, none, none], [some (Sl.im sc), some (Sl.im (.int i)), some (Sl.ow d8), some (Sl.ow [x0.D, x1.D, x2.D, x3.D, x4.D]), some (Sl.im a'), some (Sl.im b'), oD c', none, some (Sl.im d'), some (Sl.im e')], by simp, ?_, .inr ⟨_, _, _, _, _, _, _, _, rfl⟩⟩
    simp only [oD, Option.map_none] at f1 hlc
    simp [e0, hlc, rg, e5', f1, f2, f3, f4, f5, i0, i1]
  · obtain ⟨E3, d6, f1, l1, k6⟩ := five_turns (sc := sc) (i := .int i) (m := 40) (k5.less (by omega)) hx (E := [some (Sl.im sc), some (Sl.im (.int i)), some (Sl.ow d5), some (Sl.ow [x0.D, x1.D, x2.D, x3.D, x4.D]), some (Sl.im a), some (Sl.im b), oD c, none, some (Sl.im d), some (Sl.im e)]) (.inr ⟨a, b, c, d, e, rfl⟩)
    obtain ⟨y, d7, f2, hy, k7⟩ := number_e (n := 30) (g := 50) (k6.less (by omega)) (by decide) (by decide)
    have f3 := parts_right_e (p := ⟨y, hy.ok⟩) (by have := hy.k6; show y.k ≤ 9; omega)
    obtain ⟨d8, f5, k8⟩ := errors_right_e (m := 10) (k7.less (by omega)) r1
    simp only at f3
    have hlc : lcL (tgN 7) xbYes e_law_1 [7] (rgD 0 5) [] [some (Sl.im sc), some (Sl.im (.int i)), some (Sl.ow d0), some (Sl.ow ds'), some (Sl.im a), some (Sl.im b), oD c, none, some (Sl.im d), some (Sl.im e)] = .ok [x0.D, x1.D, x2.D, x3.D, x4.D] [some (Sl.im sc), some (Sl.im (.int i)), some (Sl.ow d5), some (Sl.ow ds'), some (Sl.im a), some (Sl.im b), oD c, none, some (Sl.im d), some (Sl.im e)] := by
      simp [rg5, e_lc1, e1, e2, e3, e4, e5, lim]
    obtain ⟨a', b', c', d', e', rfl⟩ := l1
    refine ⟨[some (Sl.im sc), some (Sl.im (.int i)), some (Sl.ow deck'), some (Sl.ow ds'), some (Sl.im a), some (Sl.im b), oD c, none, some (Sl.im d), some (Sl.im e)], [some (Sl.im sc), some (Sl.im (.int i)), some (Sl.ow d8), some (Sl.ow [x0.D, x1.D, x2.D, x3.D, x4.D]), some (Sl.im a'), some (Sl.im b'), oD c', none, some (Sl.im d'), some (Sl.im e')], by simp, ?_, .inr ⟨_, _, _, _, _, _, _, _, rfl⟩⟩
    simp only [oD, Option.map_none] at f1 hlc
    simp [e0, hlc, rg, e5', f1, f2, f3, f4, f5, i0, i1]
theorem law_true (ns : List Int) (h : ns.length ≤ 63) : F_law [.im (.list (ns.map PyData.int))] = .ok (.im (.bool true)) [] := by
  have hl : (ns.map PyData.int).length ≤ 63 := by rw [List.length_map]; exact h
  obtain ⟨E2, h1, h2⟩ := for_inv (I := LawO (.list (ns.map PyData.int))) (P := fun v => ∃ i : Int, v = .int i) (tg := tgN 1) (bd := l_law_3) (fun v E hv hE => by obtain ⟨i, rfl⟩ := hv; exact law_turn _ i E hE) ((PyData.int 7530029 :: ns.map PyData.int).take 6) [some (Sl.im (.list (ns.map PyData.int))), none, none, none, none, none, none, none, none, none]
    (fun v hv => by
      have hv := List.mem_of_mem_take hv
      rcases List.mem_cons.mp hv with rfl | hv
      · exact ⟨_, rfl⟩
      · obtain ⟨i, _, rfl⟩ := List.mem_map.mp hv
        exact ⟨i, rfl⟩) (.inl rfl)
  have c := cut_to (ds := PyData.int 7530029 :: ns.map PyData.int) (k := 6) (by decide)
  rw [show (6 : Int).toNat = 6 from rfl] at c
  generalize (PyData.int 7530029 :: ns.map PyData.int).take 6 = W at c h1
  generalize ns.map PyData.int = V at *
  rcases h2 with rfl | ⟨i', deck', ds', a, b, c', d, e, rfl⟩ <;> simp [F_law, e_run, en, b_law, lim, show 1 + V.length ≤ 16777216 by omega, show V.length + 1 ≤ 16777216 by omega, c, h1]
end
end K02

set_option Elab.async false
set_option linter.all false
set_option maxRecDepth 100000
set_option maxHeartbeats 0
namespace K02
open PySem PySem.Spec PyProof.Rows L2 Dl
abbrev TheRow : PySem.W.OpenRow := PySem.W.OpenLaw.row PySem.Challenge.rw_turnsexact_k02_reals
abbrev Vw : Program := PySem.W.view TheRow.prog [56]
def nm0 : List PySem.Str := [PySem.Str.ofString "TurnError", PySem.Str.ofString "InvalidNumber", PySem.Str.ofString "InvalidReal", PySem.Str.ofString "is_integer", PySem.Str.ofString "is_row", PySem.Str.ofString "is_ring", PySem.Str.ofString "least", PySem.Str.ofString "raised", PySem.Str.ofString "power_of_two", PySem.Str.ofString "add", PySem.Str.ofString "opposite", PySem.Str.ofString "subtract", PySem.Str.ofString "multiply", PySem.Str.ofString "conjugated", PySem.Str.ofString "check_number", PySem.Str.ofString "HALF", PySem.Str.ofString "OTHER_HALF", PySem.Str.ofString "is_real", PySem.Str.ofString "check_real", PySem.Str.ofString "sign_of", PySem.Str.ofString "sign", PySem.Str.ofString "below", PySem.Str.ofString "integer_root", PySem.Str.ofString "floor_of_roots", PySem.Str.ofString "floor", PySem.Str.ofString "real_part", PySem.Str.ofString "other_part", PySem.Str.ofString "_law_deck", PySem.Str.ofString "_law_draw", PySem.Str.ofString "_law_pick", PySem.Str.ofString "_law_same", PySem.Str.ofString "_law_int", PySem.Str.ofString "_law_ints", PySem.Str.ofString "_law_bent", PySem.Str.ofString "_law_up", PySem.Str.ofString "_law_least", PySem.Str.ofString "_law_plus", PySem.Str.ofString "_law_times", PySem.Str.ofString "_law_turned", PySem.Str.ofString "_law_less"]
def nm1 : List PySem.Str := [PySem.Str.ofString "_law_conj", PySem.Str.ofString "_law_is_number", PySem.Str.ofString "_law_number", PySem.Str.ofString "_law_two", PySem.Str.ofString "_law_real", PySem.Str.ofString "_law_sign", PySem.Str.ofString "_law_root", PySem.Str.ofString "_law_floor", PySem.Str.ofString "_law_parts_right", PySem.Str.ofString "_law_asked", PySem.Str.ofString "_law_errors_right"]
def names : List PySem.Str := nm0 ++ nm1
abbrev hk : PySem.W.Hook := hookOf 5 DEFS GLO BLT EXS SUBS
def ob (s : PySem.W.SharedT) : He.AlX := He.obsX 5 (faOf DEFS BLT EXS SUBS) (DEFS.map defD) [] [] (fun K => gloOk K GLO) (HandSHeadRun.getT s)
theorem ob_eq (s : PySem.W.SharedT) : ob s = hk.obs s.abs := He.obsX_eq (HandSHeadRun.getT_eq s)
theorem run (w : World) : HandSHeadRun.RunEq TheRow Vw hk ob 4000 names w := by
  intro os
  kernel_rfl
theorem line1 : (HandSHeadRun.topDef TheRow.prog 56).name = ("law" : PySem.Str) := by kernel_rfl
theorem ends (ns : List Int) (h : ns.length ≤ 63) : F_law [.im (.list (ns.map PyData.int))] = .ok (.im (.bool true)) [] := law_true ns h
end K02
open PySem PySem.W PySem.Calls PyProof.Rows
theorem PySem.Challenge.cw_turnsexact_k02_reals_holds : PySem.Challenge.rw_turnsexact_k02_reals.Holds := by
  w_on; o_law
  refine HandSHeadRun.head_any (r := K02.TheRow) (q := K02.Vw) (H := K02.hk) (ob := K02.ob) (M := 4000) (loose := K02.names) (d := HandSHeadRun.topDef K02.TheRow.prog 56) (kwd := []) K02.ob_eq
    (by kernel_rfl) (fun s => by kernel_rfl) K02.run (by kernel_rfl) (by kernel_rfl) (by kernel_rfl) (by rfl) (by first | assumption | decide +kernel) (by decide +kernel) ⟨rfl, rfl, rfl, rfl, rfl, by decide +kernel⟩ ?hw ?hc
  case hw => w_witness2
  case hc =>
    refine Dl.walk_D (l := PySem.Challenge.rw_turnsexact_k02_reals) (n := 63) (k := 62) (x := "script") (F := K02.F_law) rfl (by decide) (by kernel_rfl) ⟨rfl, by decide, by decide⟩ ?T K02.ends
    intro w mg fa h Y G hm0
    obtain ⟨K, KX, s⟩ := Y
    have t := Dl.told_of KX G s
    have hm1 : mg ("law" : PySem.Str) = some (.ref fa) := by rw [← K02.line1]; exact hm0
    obtain ⟨f, fd, F, hm⟩ := t.fn ("law", K02.st 56) (List.mem_of_getElem? (i := 46) rfl)
    rw [hm1] at hm
    cases hm
    exact ⟨K, fd, KX, Dl.binds_law F K02.o_law, fun base _ _ => K02.k_law t F⟩
