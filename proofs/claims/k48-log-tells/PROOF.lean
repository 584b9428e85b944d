import PyProof.Rows.All
import Wide.All
import OpenK.AllK
import Wide.FinOn
import HandS.ForMost
import HandS.ForExc
import HandS.CallSlots
import HandS.TryMany
import HandS.ExcIs
import HandS.IsInst
import HandS.TupMul
import HandS.StrMore
import PyProof.StrBlock2
import HandS.TupAny
import HandS.TupLe
import HandS.Wide
import HandS.Deep
import HandS.SortInts
import HandS.Flt
import HandS.More
import PySem.Challenge.RW_ferry_k48_what_a_log_tells
set_option Elab.async false
set_option linter.all false
set_option maxRecDepth 100000
set_option maxHeartbeats 4000000
/-! DL: data, stores and what a piece of syntax makes of them. -/
namespace DL
open PySem L2

inductive CN where
  | FerryError | Spoilt | NoPiece | NoSpan | NoStream | NotMet | Broken | Ended | TooMuch | NoDeed | ValueErr
  | Slate | Giver | Taker | Meeting | Host | Road | World
  deriving DecidableEq

inductive FN where
  | text | spans | behind | most | sent | come | limit | is_ended | is_end_sent | is_heard | is_done
  | room | slate | read | last | mine | yours | is_met | budget | life | meeting | givers | takers | lost_givers | lost_takers | opened
  | row | pieces | past | given | hosts | road | done
  deriving DecidableEq
def FN.str : FN → Str
  | .text => "text" | .spans => "spans" | .behind => "behind" | .most => "most" | .sent => "sent" | .come => "come" | .limit => "limit"
  | .is_ended => "is_ended" | .is_end_sent => "is_end_sent" | .is_heard => "is_heard" | .is_done => "is_done"
  | .room => "room" | .slate => "slate" | .read => "read" | .last => "last" | .mine => "mine" | .yours => "yours" | .is_met => "is_met"
  | .budget => "budget" | .life => "life" | .meeting => "meeting" | .givers => "givers" | .takers => "takers" | .lost_givers => "lost_givers"
  | .lost_takers => "lost_takers" | .opened => "opened" | .row => "row" | .pieces => "pieces" | .past => "past" | .given => "given"
  | .hosts => "hosts" | .road => "road" | .done => "done"
def FN.all : List FN := [.text, .spans, .behind, .most, .sent, .come, .limit, .is_ended, .is_end_sent, .is_heard, .is_done,
  .room, .slate, .read, .last, .mine, .yours, .is_met, .budget, .life, .meeting, .givers, .takers, .lost_givers, .lost_takers, .opened,
  .row, .pieces, .past, .given, .hosts, .road, .done]
theorem FN.mem_all (f : FN) : f ∈ FN.all := by cases f <;> decide
theorem FN.nd : (FN.all.map FN.str).Nodup := by decide +kernel
theorem inj_of_nd {α β : Type} (g : α → β) : ∀ {l : List α}, (l.map g).Nodup → ∀ x y, x ∈ l → y ∈ l → g x = g y → x = y
  | [], _, x, _, hx, _, _ => nomatch hx
  | a :: l, h, x, y, hx, hy, e => by
    rw [List.map_cons, List.nodup_cons] at h
    rcases List.mem_cons.mp hx with rfl | hx' <;> rcases List.mem_cons.mp hy with rfl | hy'
    · rfl
    · exact absurd (by rw [e]; exact List.mem_map_of_mem hy') h.1
    · exact absurd (by rw [← e]; exact List.mem_map_of_mem hx') h.1
    · exact inj_of_nd g h.2 x y hx' hy' e
theorem FN.inj {a b : FN} (e : a.str = b.str) : a = b := inj_of_nd FN.str FN.nd a b a.mem_all b.mem_all e

/-- data: numbers, texts (by their codes), tuples; what may change is told by its place in the store -/
inductive D where
  | non | bl (b : Bool) | int (i : Int) | str (s : List Nat) | tup (l : List D) | ref (n : Nat)
abbrev Kd := Sum Int (List Nat)
inductive Ob where
  | lst (l : List D)
  | frz (l : List D)
  | dic (l : List (Kd × D))
  | dtp (l : List (List Kd × D))
  | ins (c : CN) (fs : List (FN × D))
abbrev Env := List (Option D)
abbrev Store := List Ob
inductive Out (α : Type) where
  | ok (a : α) (st : Store) | exn (c : CN) (st : Store) | bad
def Out.bind {α β : Type} : Out α → (α → Store → Out β) → Out β
  | .ok a st, f => f a st
  | .exn c st, _ => .exn c st
  | .bad, _ => .bad
inductive SR where
  | nx (env : Env) (st : Store) | rt (d : D) (st : Store) | bk (env : Env) (st : Store) | ct (env : Env) (st : Store) | exn (c : CN) (env : Env) (st : Store) | bad
abbrev EM (α : Type) := Env → Store → Out α
abbrev SM := Env → Store → SR
abbrev FM := List D → Store → Out D

/-- what the top gives: the written part, the classes' addresses, the exception that is handled -/
structure Gam where
  K : PySem.W.Frag
  cls : CN → Addr
  ea : Option (Nat × Addr)

abbrev sOf (s : List Nat) : Str := ⟨s.toArray⟩
mutual
inductive VR (Γ : Gam) (μ : List Addr) (H : Hp) : V → D → Prop
  | non : VR Γ μ H .non .non
  | bl (b : Bool) : VR Γ μ H (.bl b) (.bl b)
  | int (i : Int) : VR Γ μ H (.int i) (.int i)
  | str (s : List Nat) : VR Γ μ H (.str (sOf s)) (.str s)
  | tup {a : Addr} {vs : List V} {ds : List D} : H a = some (.tup vs) → VRs Γ μ H vs ds → VR Γ μ H (.ref a) (.tup ds)
  | ref {a : Addr} {n : Nat} : μ[n]? = some a → VR Γ μ H (.ref a) (.ref n)
inductive VRs (Γ : Gam) (μ : List Addr) (H : Hp) : List V → List D → Prop
  | nil : VRs Γ μ H [] []
  | cons {v : V} {vs : List V} {d : D} {ds : List D} : VR Γ μ H v d → VRs Γ μ H vs ds → VRs Γ μ H (v :: vs) (d :: ds)
end
/-- tuples stay -/
def TStay (H H' : Hp) : Prop := ∀ b vs, H b = some (.tup vs) → H' b = some (.tup vs)
theorem TStay.refl (H : Hp) : TStay H H := fun _ _ h => h
theorem TStay.trans {H H1 H2 : Hp} (a : TStay H H1) (b : TStay H1 H2) : TStay H H2 := fun c vs h => b c vs (a c vs h)
theorem TStay.new {H : Hp} {p : Addr} {o : HO} (h : H p = none) : TStay H (upd H p o) := fun b vs q => by rw [upd_ne (ne_of_none q h)]; exact q
theorem TStay.at {H : Hp} {p : Addr} {o u : HO} (h : H p = some u) (n : ∀ vs, u ≠ .tup vs) : TStay H (upd H p o) := fun b vs q => by
  rw [upd_ne]; · exact q
  · intro e; subst e; rw [h] at q; cases q; exact n vs rfl
section
variable {Γ : Gam} {μ μ' : List Addr} {H H' : Hp}
theorem pre_get {α : Type} {l l' : List α} (h : l <+: l') {n : Nat} {a : α} (e : l[n]? = some a) : l'[n]? = some a := by
  obtain ⟨t, rfl⟩ := h
  obtain ⟨h1, _⟩ := List.getElem?_eq_some_iff.mp e
  rw [List.getElem?_append_left h1]; exact e
mutual
theorem VR.mono (hm : μ <+: μ') (t : TStay H H') : ∀ {v : V} {d : D}, VR Γ μ H v d → VR Γ μ' H' v d
  | _, _, .non => .non
  | _, _, .bl b => .bl b
  | _, _, .int i => .int i
  | _, _, .str s => .str s
  | _, _, .tup h r => .tup (t _ _ h) (VRs.mono hm t r)
  | _, _, .ref h => .ref (pre_get hm h)
theorem VRs.mono (hm : μ <+: μ') (t : TStay H H') : ∀ {vs : List V} {ds : List D}, VRs Γ μ H vs ds → VRs Γ μ' H' vs ds
  | _, _, .nil => .nil
  | _, _, .cons a b => .cons (VR.mono hm t a) (VRs.mono hm t b)
end
mutual
theorem VR.ea {x : Option (Nat × Addr)} : ∀ {v : V} {d : D}, VR Γ μ H v d → VR { Γ with ea := x } μ H v d
  | _, _, .non => .non
  | _, _, .bl b => .bl b
  | _, _, .int i => .int i
  | _, _, .str s => .str s
  | _, _, .tup h r => .tup h (VRs.ea r)
  | _, _, .ref h => .ref h
theorem VRs.ea {x : Option (Nat × Addr)} : ∀ {vs : List V} {ds : List D}, VRs Γ μ H vs ds → VRs { Γ with ea := x } μ H vs ds
  | _, _, .nil => .nil
  | _, _, .cons a b => .cons (VR.ea a) (VRs.ea b)
end
theorem VRs.length : ∀ {vs : List V} {ds : List D}, VRs Γ μ H vs ds → vs.length = ds.length
  | _, _, .nil => rfl
  | _, _, .cons _ r => by simp [VRs.length r]
theorem VRs.get : ∀ {vs : List V} {ds : List D} {i : Nat} {d : D}, VRs Γ μ H vs ds → ds[i]? = some d → ∃ v, vs[i]? = some v ∧ VR Γ μ H v d
  | _, _, _, _, .nil, e => by simp at e
  | _, _, 0, _, .cons r _, e => by simp at e; subst e; exact ⟨_, rfl, r⟩
  | _, _, i + 1, _, .cons _ t, e => by
    obtain ⟨v, h1, h2⟩ := VRs.get (i := i) t (by simpa using e)
    exact ⟨v, by simpa using h1, h2⟩
theorem VRs.set {v : V} {d : D} (r : VR Γ μ H v d) : ∀ {vs : List V} {ds : List D} (i : Nat), VRs Γ μ H vs ds → VRs Γ μ H (vs.set i v) (ds.set i d)
  | _, _, _, .nil => .nil
  | _, _, 0, .cons _ t => .cons r t
  | _, _, i + 1, .cons q t => .cons q (VRs.set r i t)
theorem VRs.append : ∀ {xs ys : List V} {ds es : List D}, VRs Γ μ H xs ds → VRs Γ μ H ys es → VRs Γ μ H (xs ++ ys) (ds ++ es)
  | _, _, _, _, .nil, s => s
  | _, _, _, _, .cons r t, s => .cons r (VRs.append t s)
theorem VRs.take : ∀ {vs : List V} {ds : List D} (n : Nat), VRs Γ μ H vs ds → VRs Γ μ H (vs.take n) (ds.take n)
  | _, _, 0, _ => .nil
  | _, _, _ + 1, .nil => .nil
  | _, _, n + 1, .cons r t => .cons r (VRs.take n t)
theorem VRs.drop : ∀ {vs : List V} {ds : List D} (n : Nat), VRs Γ μ H vs ds → VRs Γ μ H (vs.drop n) (ds.drop n)
  | _, _, 0, r => r
  | _, _, _ + 1, .nil => .nil
  | _, _, n + 1, .cons _ t => VRs.drop n t
theorem VRs.eraseIdx : ∀ {vs : List V} {ds : List D} (n : Nat), VRs Γ μ H vs ds → VRs Γ μ H (vs.eraseIdx n) (ds.eraseIdx n)
  | _, _, _, .nil => .nil
  | _, _, 0, .cons _ t => t
  | _, _, n + 1, .cons r t => .cons r (VRs.eraseIdx n t)
theorem VRs.one {v : V} {d : D} (r : VR Γ μ H v d) : VRs Γ μ H [v] [d] := .cons r .nil
theorem VRs.reverse : ∀ {vs : List V} {ds : List D}, VRs Γ μ H vs ds → VRs Γ μ H vs.reverse ds.reverse
  | _, _, .nil => .nil
  | _, _, .cons r t => by rw [List.reverse_cons, List.reverse_cons]; exact (VRs.reverse t).append (.one r)
end

/-- the pairs of an instance; of a dict -/
def FRs (Γ : Gam) (μ : List Addr) (H : Hp) : List (Str × V) → List (FN × D) → Prop
  | [], [] => True
  | (k, v) :: l, (f, d) :: m => k = f.str ∧ VR Γ μ H v d ∧ FRs Γ μ H l m
  | _, _ => False
def kOf : Kd → Key
  | .inl i => .inl i
  | .inr s => .inr (sOf s)
theorem sOf_inj {a b : List Nat} (h : sOf a = sOf b) : a = b := by
  have := congrArg (fun s : Str => s.cps.toList) h
  simpa using this
theorem kOf_inj : ∀ {a b : Kd}, kOf a = kOf b → a = b
  | .inl _, .inl _, h => by simp only [kOf] at h; injection h with h; rw [h]
  | .inr _, .inr _, h => by simp only [kOf] at h; injection h with h; rw [sOf_inj h]
  | .inl _, .inr _, h => by simp [kOf] at h
  | .inr _, .inl _, h => by simp [kOf] at h
theorem kOf_iff {a b : Kd} : kOf a = kOf b ↔ a = b := ⟨kOf_inj, fun h => h ▸ rfl⟩
def KRs (Γ : Gam) (μ : List Addr) (H : Hp) {κ ι : Type} (g : ι → κ) : List (κ × V) → List (ι × D) → Prop
  | [], [] => True
  | (k, v) :: l, (f, d) :: m => k = g f ∧ VR Γ μ H v d ∧ KRs Γ μ H g l m
  | _, _ => False

/-- a list that is read alone: locked, or of the written part -/
def SqF (K : PySem.W.Frag) (H : Hp) (a : Addr) (xs : List V) : Prop :=
  (∃ o, H a = some (.frz o (.lst xs))) ∨ ∃ (o : Obj) (its : Array Value) (n : Nat), K.lookup a = some o ∧ o.cls = .type "list" ∧ o.dict = none ∧ o.data = .seq its n ∧ its.size ≤ sizeLine ∧ Vals xs its.toList
theorem SqF.sq {K : PySem.W.Frag} {H : Hp} {a : Addr} {xs : List V} : SqF K H a xs → SqL K H a xs
  | .inl h => .inl (.inr h)
  | .inr h => .inr h
def OR (Γ : Gam) (μ : List Addr) (H : Hp) (a : Addr) : Ob → Prop
  | .lst l => ∃ vs, H a = some (.lst vs) ∧ VRs Γ μ H vs l
  | .frz l => ∃ vs, SqF Γ.K H a vs ∧ VRs Γ μ H vs l
  | .dic l => ∃ kvs, H a = some (.dK kvs) ∧ KRs Γ μ H kOf kvs l
  | .dtp l => ∃ kvs, H a = some (.dT kvs) ∧ KRs Γ μ H (List.map kOf) kvs l
  | .ins c fs => ∃ dx gs, H a = some (.ins (Γ.cls c) dx gs) ∧ FRs Γ μ H gs fs
/-- the store stands in the heap, at the addresses μ -/
structure Wd (Γ : Gam) (μ : List Addr) (H : Hp) (st : Store) : Prop where
  len : μ.length = st.length
  nd : ∀ (n m : Nat) (a : Addr), μ[n]? = some a → μ[m]? = some a → n = m ∨ (∃ l, st[n]? = some (.frz l)) ∨ ∃ l, st[m]? = some (.frz l)
  ob : ∀ (n : Nat) (o : Ob) (a : Addr), st[n]? = some o → μ[n]? = some a → OR Γ μ H a o
/-- the slots -/
structure SL (Γ : Gam) (μ : List Addr) (H : Hp) (σ : St) (env : Env) : Prop where
  len : σ.length = env.length
  pin : ∀ i a, Γ.ea = some (i, a) → σ[i]? = some (some (.ref a))
  sl : ∀ (i : Nat) (d : D), env[i]? = some (some d) → ∃ v, σ[i]? = some (some v) ∧ VR Γ μ H v d

section
variable {Γ : Gam} {μ μ' : List Addr} {H H' : Hp} {st st' : Store}
theorem FRs.mono (hm : μ <+: μ') (t : TStay H H') : ∀ {gs : List (Str × V)} {fs : List (FN × D)}, FRs Γ μ H gs fs → FRs Γ μ' H' gs fs
  | [], [], _ => trivial
  | (_, _) :: _, (_, _) :: _, h => ⟨h.1, h.2.1.mono hm t, FRs.mono hm t h.2.2⟩
  | [], _ :: _, h => h.elim
  | _ :: _, [], h => h.elim
theorem KRs.mono {κ ι : Type} {g : ι → κ} (hm : μ <+: μ') (t : TStay H H') : ∀ {gs : List (κ × V)} {fs : List (ι × D)}, KRs Γ μ H g gs fs → KRs Γ μ' H' g gs fs
  | [], [], _ => trivial
  | (_, _) :: _, (_, _) :: _, h => ⟨h.1, h.2.1.mono hm t, KRs.mono hm t h.2.2⟩
  | [], _ :: _, h => h.elim
  | _ :: _, [], h => h.elim
theorem SL.mono (hm : μ <+: μ') (t : TStay H H') {σ : St} {env : Env} (s : SL Γ μ H σ env) : SL Γ μ' H' σ env :=
  ⟨s.len, s.pin, fun i d e => let ⟨v, h, r⟩ := s.sl i d e; ⟨v, h, r.mono hm t⟩⟩
theorem SL.set {σ : St} {env : Env} (s : SL Γ μ H σ env) {v : V} {d : D} (r : VR Γ μ H v d) (i : Nat) (hp : ∀ a, Γ.ea ≠ some (i, a)) : SL Γ μ H (σ.set i (some v)) (env.set i (some d)) := by
  refine ⟨by simp [s.len], fun j a h => by rw [List.getElem?_set_ne (fun e : i = j => hp a (by rw [e]; exact h))]; exact s.pin j a h, fun j e h => ?_⟩
  by_cases hj : i = j
  · subst hj
    have hl : i < env.length := by
      have := (List.getElem?_eq_some_iff.mp h).1
      simpa using this
    rw [List.getElem?_set_self hl] at h
    cases h
    exact ⟨v, List.getElem?_set_self (by rw [s.len]; exact hl), r⟩
  · rw [List.getElem?_set_ne hj] at h
    obtain ⟨w, hw, q⟩ := s.sl j e h
    exact ⟨w, by rw [List.getElem?_set_ne hj]; exact hw, q⟩
theorem SL.unset {σ : St} {env : Env} (s : SL Γ μ H σ env) (i : Nat) (x : Option V) (hp : ∀ a, Γ.ea ≠ some (i, a)) : SL Γ μ H (σ.set i x) (env.set i none) := by
  refine ⟨by simp [s.len], fun j a h => by rw [List.getElem?_set_ne (fun e : i = j => hp a (by rw [e]; exact h))]; exact s.pin j a h, fun j e h => ?_⟩
  by_cases hj : i = j
  · subst hj
    have hl : i < env.length := by
      have := (List.getElem?_eq_some_iff.mp h).1
      simpa using this
    rw [List.getElem?_set_self hl] at h
    cases h
  · rw [List.getElem?_set_ne hj] at h
    obtain ⟨w, hw, q⟩ := s.sl j e h
    exact ⟨w, by rw [List.getElem?_set_ne hj]; exact hw, q⟩
theorem FRs.ea {x : Option (Nat × Addr)} : ∀ {gs : List (Str × V)} {fs : List (FN × D)}, FRs Γ μ H gs fs → FRs { Γ with ea := x } μ H gs fs
  | [], [], _ => trivial
  | (_, _) :: _, (_, _) :: _, h => ⟨h.1, h.2.1.ea, FRs.ea h.2.2⟩
  | [], _ :: _, h => h.elim
  | _ :: _, [], h => h.elim
theorem KRs.ea {κ ι : Type} {g : ι → κ} {x : Option (Nat × Addr)} : ∀ {gs : List (κ × V)} {fs : List (ι × D)}, KRs Γ μ H g gs fs → KRs { Γ with ea := x } μ H g gs fs
  | [], [], _ => trivial
  | (_, _) :: _, (_, _) :: _, h => ⟨h.1, h.2.1.ea, KRs.ea h.2.2⟩
  | [], _ :: _, h => h.elim
  | _ :: _, [], h => h.elim
theorem OR.ea {x : Option (Nat × Addr)} {a : Addr} : ∀ {o : Ob}, OR Γ μ H a o → OR { Γ with ea := x } μ H a o
  | .lst _, ⟨vs, h, r⟩ => ⟨vs, h, r.ea⟩
  | .frz _, ⟨vs, h, r⟩ => ⟨vs, h, r.ea⟩
  | .dic _, ⟨vs, h, r⟩ => ⟨vs, h, KRs.ea r⟩
  | .dtp _, ⟨vs, h, r⟩ => ⟨vs, h, KRs.ea r⟩
  | .ins _ _, ⟨dx, vs, h, r⟩ => ⟨dx, vs, h, FRs.ea r⟩
theorem Wd.ea {x : Option (Nat × Addr)} (w : Wd Γ μ H st) : Wd { Γ with ea := x } μ H st := ⟨w.len, w.nd, fun n o a e e' => OR.ea (w.ob n o a e e')⟩
/-- what stands at an address is a thing of its own kind -/
theorem OR.kept {a : Addr} {o : Ob} (hm : μ <+: μ') (t : TStay H H') (h : ∀ u, H a = some u → H' a = some u) (r : OR Γ μ H a o) : OR Γ μ' H' a o := by
  cases o with
  | lst l => obtain ⟨vs, e, r⟩ := r; exact ⟨vs, h _ e, r.mono hm t⟩
  | frz l =>
    obtain ⟨vs, e, r⟩ := r
    refine ⟨vs, ?_, r.mono hm t⟩
    rcases e with ⟨o, e⟩ | e
    · exact .inl ⟨o, h _ e⟩
    · exact .inr e
  | dic l => obtain ⟨vs, e, r⟩ := r; exact ⟨vs, h _ e, r.mono hm t⟩
  | dtp l => obtain ⟨vs, e, r⟩ := r; exact ⟨vs, h _ e, r.mono hm t⟩
  | ins c fs => obtain ⟨dx, vs, e, r⟩ := r; exact ⟨dx, vs, h _ e, r.mono hm t⟩
theorem Wd.get (w : Wd Γ μ H st) {n : Nat} {o : Ob} (e : st[n]? = some o) : ∃ a, μ[n]? = some a ∧ OR Γ μ H a o := by
  have hn : n < μ.length := by rw [w.len]; exact (List.getElem?_eq_some_iff.mp e).1
  exact ⟨μ[n], List.getElem?_eq_getElem hn, w.ob n o _ e (List.getElem?_eq_getElem hn)⟩
theorem Wd.at (w : Wd Γ μ H st) {n : Nat} {a : Addr} {o : Ob} (h : μ[n]? = some a) (e : st[n]? = some o) : OR Γ μ H a o := w.ob n o a e h
theorem OR.some {a : Addr} {o : Ob} (r : OR Γ μ H a o) (n : H a = none) : (∃ l, o = .frz l) := by
  cases o with
  | lst l => obtain ⟨vs, e, r⟩ := r; rw [n] at e; cases e
  | frz l => exact ⟨l, rfl⟩
  | dic l => obtain ⟨vs, e, r⟩ := r; rw [n] at e; cases e
  | dtp l => obtain ⟨vs, e, r⟩ := r; rw [n] at e; cases e
  | ins c fs => obtain ⟨dx, vs, e, r⟩ := r; rw [n] at e; cases e
/-- the heap grows -/
theorem Wd.grow (w : Wd Γ μ H st) (h : ∀ a u, H a = some u → H' a = some u) : Wd Γ μ H' st :=
  ⟨w.len, w.nd, fun n o a e e' => (w.ob n o a e e').kept (List.prefix_refl μ) (fun b vs q => h b _ q) (fun u q => h a u q)⟩
theorem grow_new {p : Addr} {o : HO} (h : H p = none) : ∀ a u, H a = some u → upd H p o a = some u := fun a u q => by rw [upd_ne (ne_of_none q h)]; exact q
theorem Wd.newO (w : Wd Γ μ H st) (h : ∀ a u, H a = some u → H' a = some u) {p : Addr} (hp : H p = none) {o : Ob} (r : OR Γ (μ ++ [p]) H' p o) : Wd Γ (μ ++ [p]) H' (st ++ [o]) := by
  have pre : μ <+: μ ++ [p] := List.prefix_append _ _
  have lk : ∀ (n : Nat) (a : Addr), (μ ++ [p])[n]? = some a → (n < μ.length ∧ μ[n]? = some a) ∨ (n = μ.length ∧ a = p) := fun n a e => by
    by_cases hn : n < μ.length
    · rw [List.getElem?_append_left hn] at e; exact .inl ⟨hn, e⟩
    · rw [List.getElem?_append_right (Nat.le_of_not_lt hn)] at e
      have : n - μ.length = 0 := by
        have := (List.getElem?_eq_some_iff.mp e).1
        simp at this; omega
      rw [this] at e
      simp at e
      exact .inr ⟨by omega, e.symm⟩
  have old : ∀ n, n < μ.length → (st ++ [o])[n]? = st[n]? := fun n hn => List.getElem?_append_left (by rw [← w.len]; exact hn)
  have fr : ∀ n, n < μ.length → μ[n]? = some p → ∃ l, (st ++ [o])[n]? = some (.frz l) := fun n hn e => by
    have hs : n < st.length := by rw [← w.len]; exact hn
    have e2 : st[n]? = some st[n] := List.getElem?_eq_getElem hs
    obtain ⟨l, z⟩ := (w.ob n _ p e2 e).some hp
    exact ⟨l, by rw [old n hn, e2, z]⟩
  refine ⟨by simp [w.len], fun n m a e1 e2 => ?_, fun n u a e1 e2 => ?_⟩
  · rcases lk n a e1 with ⟨hn, f1⟩ | ⟨hn, q1⟩ <;> rcases lk m a e2 with ⟨hm, f2⟩ | ⟨hm, q2⟩
    · rw [old n hn, old m hm]; exact w.nd n m a f1 f2
    · subst q2; exact .inr (.inl (fr n hn f1))
    · subst q1; exact .inr (.inr (fr m hm f2))
    · exact .inl (by omega)
  · rcases lk n a e2 with ⟨hn, e2⟩ | ⟨hn, rfl⟩
    · rw [old n hn] at e1
      exact (w.ob n u a e1 e2).kept pre (fun b vs q => h b _ q) (fun u q => h a u q)
    · rw [hn, w.len, List.getElem?_append_right (Nat.le_refl _)] at e1
      simp at e1
      subst e1
      exact r
theorem Wd.new (w : Wd Γ μ H st) {p : Addr} {ho : HO} (hp : H p = none) {o : Ob} (r : OR Γ (μ ++ [p]) (upd H p ho) p o) : Wd Γ (μ ++ [p]) (upd H p ho) (st ++ [o]) := w.newO (grow_new hp) hp r
theorem Wd.set (w : Wd Γ μ H st) {n : Nat} {a : Addr} {u ho : HO} (e : μ[n]? = some a) (hu : H a = some u) (nt : ∀ vs, u ≠ .tup vs) (nf : ∀ o v, u ≠ .frz o v) {o' : Ob} (ho' : st[n]? = some o') (no : ∀ l, o' ≠ .frz l) {o : Ob} (r : OR Γ μ (upd H a ho) a o) : Wd Γ μ (upd H a ho) (st.set n o) := by
  have hn : n < st.length := (List.getElem?_eq_some_iff.mp ho').1
  refine ⟨by simp [w.len], fun i j b e1 e2 => ?_, fun i v b e1 e2 => ?_⟩
  · rcases w.nd i j b e1 e2 with z | ⟨l, z⟩ | ⟨l, z⟩
    · exact .inl z
    · have : n ≠ i := by rintro rfl; rw [ho'] at z; exact no l (Option.some.inj z)
      exact .inr (.inl ⟨l, by rw [List.getElem?_set_ne this]; exact z⟩)
    · have : n ≠ j := by rintro rfl; rw [ho'] at z; exact no l (Option.some.inj z)
      exact .inr (.inr ⟨l, by rw [List.getElem?_set_ne this]; exact z⟩)
  · by_cases hi : n = i
    · subst hi
      rw [List.getElem?_set_self hn] at e1
      cases e1
      rw [e] at e2; cases e2
      exact r
    · rw [List.getElem?_set_ne hi] at e1
      have q := w.ob i v b e1 e2
      by_cases hb : b = a
      · subst hb
        rcases w.nd n i b e e2 with z | ⟨l, z⟩ | ⟨l, z⟩
        · exact absurd z hi
        · rw [ho'] at z; exact absurd (Option.some.inj z) (no l)
        · rw [e1] at z; cases z
          obtain ⟨vs, f, r2⟩ := q
          refine ⟨vs, ?_, r2.mono (List.prefix_refl μ) (TStay.at hu nt)⟩
          rcases f with ⟨ob, f⟩ | f
          · rw [hu] at f; cases f; exact absurd rfl (nf _ _)
          · exact .inr f
      · exact q.kept (List.prefix_refl μ) (TStay.at hu nt) (fun x y => by rw [upd_ne hb]; exact y)
end
end DL
/-! DL: the judgements. -/
namespace DL
open PySem L2

section
variable {α β γ δ : Type}
abbrev RR (α β : Type) := List Addr → Hp → β → α → Prop
def XO (Γ : Gam) (W : WX) (σ : St) (R : RR α β) (μ : List Addr) (H : Hp) (Q : β → Hp → Prop) : Out α → Prop
  | .ok d st' => ∀ μ' H' v, μ <+: μ' → TStay H H' → Wd Γ μ' H' st' → R μ' H' v d → Q v H'
  | .exn c st' => ∀ μ' H', μ <+: μ' → TStay H H' → Wd Γ μ' H' st' → W (.ref (Γ.cls c)) none σ H'
  | .bad => False
/-- as XO, where nothing is raised -/
def OO (Γ : Gam) (R : RR α β) (μ : List Addr) (H : Hp) (Q : β → Hp → Prop) : Option (α × Store) → Prop
  | some (d, st') => ∀ μ' H' v, μ <+: μ' → TStay H H' → Wd Γ μ' H' st' → R μ' H' v d → Q v H'
  | none => False
def Out.of : Option (α × Store) → Out α
  | some (d, st) => .ok d st
  | none => .bad
variable {Γ : Gam} {W : WX} {σ : St} {R : RR α β} {R' : RR γ δ} {μ μ1 : List Addr} {H H1 : Hp}
theorem XO.oo {Q : β → Hp → Prop} : ∀ {o : Option (α × Store)}, XO Γ W σ R μ H Q (Out.of o) → OO Γ R μ H Q o
  | some (_, _), h => h
  | none, h => h
theorem XO.shift {Q : β → Hp → Prop} (hm : μ <+: μ1) (t : TStay H H1) : ∀ {o : Out α}, XO Γ W σ R μ H Q o → XO Γ W σ R μ1 H1 Q o
  | .ok _ _, h => fun μ' H' v a b w r => h μ' H' v (hm.trans a) (t.trans b) w r
  | .exn _ _, h => fun μ' H' a b w => h μ' H' (hm.trans a) (t.trans b) w
  | .bad, h => h
theorem XO.bind {f : α → Store → Out γ} {Q : δ → Hp → Prop} : ∀ {o : Out α}, XO Γ W σ R' μ H Q (o.bind f) →
    XO Γ W σ R μ H (fun v H1 => ∃ μ1 a st1, μ <+: μ1 ∧ TStay H H1 ∧ Wd Γ μ1 H1 st1 ∧ R μ1 H1 v a ∧ XO Γ W σ R' μ1 H1 Q (f a st1)) o
  | .ok a st, h => fun μ' H' v p t w r => ⟨μ', a, st, p, t, w, r, h.shift p t⟩
  | .exn _ _, h => h
  | .bad, h => h
theorem XO.mono {Q Q' : β → Hp → Prop} (hq : ∀ v H, Q v H → Q' v H) : ∀ {o : Out α}, XO Γ W σ R μ H Q o → XO Γ W σ R μ H Q' o
  | .ok _ _, h => fun μ' H' v a b w r => hq _ _ (h μ' H' v a b w r)
  | .exn _ _, h => h
  | .bad, h => h
theorem OO.val {Q : β → Hp → Prop} {d : α} {st : Store} {v : β} (h : OO Γ R μ H Q (some (d, st))) (w : Wd Γ μ H st) (r : R μ H v d) : Q v H := h μ H v (List.prefix_refl _) (TStay.refl _) w r
theorem XO.val {Q : β → Hp → Prop} {d : α} {st : Store} {v : β} (h : XO Γ W σ R μ H Q (.ok d st)) (w : Wd Γ μ H st) (r : R μ H v d) : Q v H := h μ H v (List.prefix_refl _) (TStay.refl _) w r
/-- the same store, another result -/
def simX (Γ : Gam) (W : WX) (R : RR α β) (m : EM α) : St → Hp → (β → Hp → Prop) → Prop := fun σ H Q => ∃ μ env st, Wd Γ μ H st ∧ SL Γ μ H σ env ∧ XO Γ W σ R μ H Q (m env st)
end
abbrev VRr (Γ : Gam) : RR D V := VR Γ
abbrev BRr : RR Bool Bool := fun _ _ b b' => b = b'
abbrev VRsr (Γ : Gam) : RR (List D) (List V) := VRs Γ
abbrev DE (X : Cx) (Γ : Gam) (W : WX) (e : Expr) (m : EM D) : Prop := PE X e (simX Γ W (VRr Γ) m)
abbrev DT (X : Cx) (Γ : Gam) (W : WX) (e : Expr) (m : EM Bool) : Prop := PT X e (simX Γ W BRr m)
abbrev DW (X : Cx) (Γ : Gam) (W : WX) (e : Expr) (m : EM Bool) : Prop := PW X e (simX Γ W BRr m)
abbrev DA (X : Cx) (Γ : Gam) (W : WX) (es : List Expr) (m : EM (List D)) : Prop := PA X es (simX Γ W (VRsr Γ) m)

theorem PE.weak {X : Cx} {e : Expr} {t t' : TE} (h : PE X e t) (i : ∀ σ H Q, t' σ H Q → t σ H Q) : PE X e t' := ⟨fun pins s σ H Q I q => h.run pins s σ H Q I (i _ _ _ q)⟩
theorem PT.weak {X : Cx} {e : Expr} {t t' : TT} (h : PT X e t) (i : ∀ σ H Q, t' σ H Q → t σ H Q) : PT X e t' := ⟨fun pins s σ H Q I q => h.run pins s σ H Q I (i _ _ _ q)⟩
theorem PW.weak {X : Cx} {e : Expr} {t t' : TT} (h : PW X e t) (i : ∀ σ H Q, t' σ H Q → t σ H Q) : PW X e t' := ⟨fun whole pins s σ H Q I q => h.run whole pins s σ H Q I (i _ _ _ q)⟩
theorem PA.weak {X : Cx} {es : List Expr} {t t' : TA} (h : PA X es t) (i : ∀ σ H Q, t' σ H Q → t σ H Q) : PA X es t' := ⟨fun pos pins s σ H Q I q => h.run pos pins s σ H Q I (i _ _ _ q)⟩
theorem PS.weak {X : Cx} {st : Stmt} {t t' : TS} (h : PS X st t) (i : ∀ D σ H, t' D σ H → t D σ H) : PS X st t' := ⟨fun pins s σ H D I q => h.run pins s σ H D I (i _ _ _ q)⟩
theorem PSs.weak {X : Cx} {st : List Stmt} {t t' : TS} (h : PSs X st t) (i : ∀ D σ H, t' D σ H → t D σ H) : PSs X st t' := ⟨fun pins s σ H D I q => h.run pins s σ H D I (i _ _ _ q)⟩

/-! ### combinators of expressions -/
def eVar (i : Nat) : EM D := fun env st => match env[i]? with
  | some (some d) => .ok d st
  | _ => .bad
def eC (d : D) : EM D := fun _ st => .ok d st
def e1 {α β : Type} (op : α → Store → Option (β × Store)) (m : EM α) : EM β := fun env st => (m env st).bind fun a st => .of (op a st)
def e2 (op : D → D → Store → Option (D × Store)) (m1 m2 : EM D) : EM D := fun env st => (m1 env st).bind fun a st => (m2 env st).bind fun b st => .of (op a b st)
def eNil : EM (List D) := fun _ st => .ok [] st
def eCons (m : EM D) (ms : EM (List D)) : EM (List D) := fun env st => (m env st).bind fun a st => (ms env st).bind fun l st => .ok (a :: l) st
def tAndD (a b : EM Bool) : EM Bool := fun env st => (a env st).bind fun c st => if c = true then b env st else .ok false st
def tOrD (a b : EM Bool) : EM Bool := fun env st => (a env st).bind fun c st => if c = true then .ok true st else b env st
def tNotD (a : EM Bool) : EM Bool := fun env st => (a env st).bind fun c st => .ok (!c) st
/-- a test as a value -/
def eB (a : EM Bool) : EM D := fun env st => (a env st).bind fun c st => .ok (.bl c) st
/-- a value that is a truth, as a test -/
def tB (a : EM D) : EM Bool := fun env st => (a env st).bind fun d st => match d with
  | .bl c => .ok c st
  | _ => .bad
def eIf (c : EM Bool) (a b : EM D) : EM D := fun env st => (c env st).bind fun k st => if k = true then a env st else b env st

section
variable {X : Cx} {Γ : Gam} {W : WX} {a b e : Expr} {es rest : List Expr} {ma mb : EM D} {ms : EM (List D)} {ta tb : EM Bool} {pos p pos' : Pos}

theorem de_var (i : Nat) {x : Str} {pos : Pos} (hN : X.N[i]? = some x := by rfl) (hv : Vis X.env.scope x := by first | exact Or.inl rfl | exact Or.inr (Or.inl rfl) | exact Or.inr (Or.inr rfl)) (hd : (x == ("__debug__" : Str)) = false := by decide)
    (hcd : (x == ("__classdict__" : Str)) = false := by decide) : DE X Γ W (.Name x pos) (eVar i) := by
  refine PE.weak (pe_var hN hv hd hcd) fun σ H Q h => ?_
  obtain ⟨μ, env, st, w, s, o⟩ := h
  unfold eVar at o
  split at o
  · rename_i d e
    obtain ⟨v, hv, r⟩ := s.sl i d e
    exact ⟨v, hv, o.val w r⟩
  · exact o.elim
theorem de_c {v : V} {d : D} {e : Expr} (h : PE X e (tC v)) (r : ∀ μ H, VR Γ μ H v d) : DE X Γ W e (eC d) :=
  PE.weak h fun σ H Q ⟨μ, env, st, w, s, o⟩ => XO.val o w (r μ H)
theorem de_int {i j pos} : DE X Γ W (.Constant (.int i) j pos) (eC (.int i)) := de_c pe_int fun _ _ => .int i
theorem de_bl {b j pos} : DE X Γ W (.Constant (.bool b) j pos) (eC (.bl b)) := de_c pe_bl fun _ _ => .bl b
theorem de_non {j pos} : DE X Γ W (.Constant .none j pos) (eC .non) := de_c pe_non fun _ _ => .non
theorem de_str {x : Str} {j pos} (l : List Nat) (h : x = sOf l := by decide +kernel) : DE X Γ W (.Constant (.str x) j pos) (eC (.str l)) := de_c pe_str fun _ _ => by rw [h]; exact .str l
/-- a module's constant -/
theorem de_glob {x : Str} {v : V} {u : Value} {d : D} (hg : Gl X x) (hm : X.mg x = some u) (r : RelV v u) (q : ∀ μ H, VR Γ μ H v d) (hd : (x == ("__debug__" : Str)) = false := by decide) : DE X Γ W (.Name x pos) (eC d) := de_c (pe_glob hg hm r hd) q

/-- operators -/
def OpD (X : Cx) (Γ : Gam) (f : Value → Value → Sem Value) (op : D → D → Store → Option (D × Store)) : Prop :=
  OpR X f fun x y H Q => ∃ μ st a b, Wd Γ μ H st ∧ VR Γ μ H x a ∧ VR Γ μ H y b ∧ OO Γ (VRr Γ) μ H Q (op a b st)
theorem bin_sim {op : D → D → Store → Option (D × Store)} {σ : St} {H : Hp} {Q : VK} (h : simX Γ W (VRr Γ) (e2 op ma mb) σ H Q) :
    tOp (fun x y H Q => ∃ μ st a b, Wd Γ μ H st ∧ VR Γ μ H x a ∧ VR Γ μ H y b ∧ OO Γ (VRr Γ) μ H Q (op a b st)) (simX Γ W (VRr Γ) ma) (simX Γ W (VRr Γ) mb) σ H Q := by
  obtain ⟨μ, env, st, w, s, o⟩ := h
  refine ⟨μ, env, st, w, s, (XO.bind o).mono ?_⟩
  rintro v H1 ⟨μ1, a, st1, p, t, w1, r, o1⟩
  refine ⟨μ1, env, st1, w1, s.mono p t, (XO.bind o1).mono ?_⟩
  rintro v2 H2 ⟨μ2, b, st2, p2, t2, w2, r2, o2⟩
  exact ⟨μ2, st2, a, b, w2, r.mono p2 t2, r2, o2.oo⟩
theorem de_op {op : Operator} {f : D → D → Store → Option (D × Store)} (h : OpD X Γ (binaryOp op) f) (ha : DE X Γ W a ma) (hb : DE X Γ W b mb) : DE X Γ W (.BinOp a op b pos) (e2 f ma mb) :=
  PE.weak (pe_op h ha hb) fun _ _ _ q => bin_sim q
theorem de_cmp {op : CmpOp} {f : D → D → Store → Option (D × Store)} (h : OpD X Γ (compareOp op) f) (ha : DE X Γ W a ma) (hb : DE X Γ W b mb) (hm : behindInMarks op b = false := by first | exact nomark _ | rfl) : DE X Γ W (.Compare a [op] [b] pos) (e2 f ma mb) :=
  PE.weak (pe_cmpR h ha hb hm) fun _ _ _ q => bin_sim q
theorem tB_sim {m : EM D} {t : TE} (h : ∀ σ H Q, simX Γ W (VRr Γ) m σ H Q → t σ H Q) {σ : St} {H : Hp} {Q : Bool → Hp → Prop} (q : simX Γ W BRr (tB m) σ H Q) : t σ H (fun x H' => ∃ k, x = .bl k ∧ Q k H') := by
  obtain ⟨μ, env, st, w, s, o⟩ := q
  refine h _ _ _ ⟨μ, env, st, w, s, (XO.bind (R := VRr Γ) o).mono ?_⟩
  rintro v H1 ⟨μ1, d, st1, p, t1, w1, r, o1⟩
  cases r <;> first
    | exact ⟨_, rfl, o1.val w1 rfl⟩
    | exact o1.elim
theorem dt_cmp {op : CmpOp} {f : D → D → Store → Option (D × Store)} (h : OpD X Γ (compareOp op) f) (ha : DE X Γ W a ma) (hb : DE X Γ W b mb) (hm : behindInMarks op b = false := by first | exact nomark _ | rfl) : DT X Γ W (.Compare a [op] [b] pos) (tB (e2 f ma mb)) :=
  PT.weak (pt_cmpR h ha hb hm) fun _ _ _ q => tB_sim (fun _ _ _ => bin_sim) q
/-- any expression that gives a truth, as a test -/
theorem dt_val {m : EM D} (h : DE X Γ W e m) (he : ∀ whole, isTrue e X.env whole = (do let v ← whole; standAt e.pos; holding [v] (truthy v)) := by intro _; rfl) : DT X Γ W e (tB m) :=
  PT.weak (pt_val h he) fun _ _ _ q => tB_sim (fun _ _ _ h => h) q
/-- a comparison, a call as a value by its test -/
theorem dt_and1 (h : DT X Γ W a ta) : DW X Γ W (.BoolOp .And [a] pos) ta := pw_and1 h
theorem dt_or1 (h : DT X Γ W a ta) : DW X Γ W (.BoolOp .Or [a] pos) ta := pw_or1 h
theorem dt_and (h : DT X Γ W a ta) (h2 : DW X Γ W (.BoolOp .And (b :: rest) pos) tb) : DW X Γ W (.BoolOp .And (a :: b :: rest) pos) (tAndD ta tb) := by
  refine PW.weak (pw_and h h2) fun σ H Q q => ?_
  obtain ⟨μ, env, st, w, s, o⟩ := q
  refine ⟨μ, env, st, w, s, (XO.bind (R := BRr) o).mono ?_⟩
  rintro v H1 ⟨μ1, d, st1, p, t1, w1, r, o1⟩
  obtain rfl : v = d := r
  cases v with
  | true => rw [if_pos rfl] at o1; exact iteT ⟨μ1, env, st1, w1, s.mono p t1, o1⟩
  | false => rw [if_neg Bool.false_ne_true] at o1; exact iteF (o1.val w1 rfl)
theorem dt_or (h : DT X Γ W a ta) (h2 : DW X Γ W (.BoolOp .Or (b :: rest) pos) tb) : DW X Γ W (.BoolOp .Or (a :: b :: rest) pos) (tOrD ta tb) := by
  refine PW.weak (pw_or h h2) fun σ H Q q => ?_
  obtain ⟨μ, env, st, w, s, o⟩ := q
  refine ⟨μ, env, st, w, s, (XO.bind (R := BRr) o).mono ?_⟩
  rintro v H1 ⟨μ1, d, st1, p, t1, w1, r, o1⟩
  obtain rfl : v = d := r
  cases v with
  | true => rw [if_pos rfl] at o1; exact iteT (o1.val w1 rfl)
  | false => rw [if_neg Bool.false_ne_true] at o1; exact iteF ⟨μ1, env, st1, w1, s.mono p t1, o1⟩
theorem dt_w (h : DW X Γ W e ta) : DT X Γ W e ta := h.pt
theorem dt_not (h : DT X Γ W a ta) : DT X Γ W (.UnaryOp .Not a pos) (tNotD ta) := by
  refine PT.weak (pt_not h) fun σ H Q q => ?_
  obtain ⟨μ, env, st, w, s, o⟩ := q
  refine ⟨μ, env, st, w, s, (XO.bind (R := BRr) o).mono ?_⟩
  rintro v H1 ⟨μ1, d, st1, p, t1, w1, r, o1⟩
  obtain rfl : v = d := r
  exact o1.val w1 rfl
/-- and, or, not as values (of truths) -/
def eAnd (a b : EM D) : EM D := fun env st => (a env st).bind fun d st => match d with
  | .bl true => b env st
  | .bl false => .ok (.bl false) st
  | _ => .bad
def eOr (a b : EM D) : EM D := fun env st => (a env st).bind fun d st => match d with
  | .bl true => .ok (.bl true) st
  | .bl false => b env st
  | _ => .bad
def eNot (a : EM D) : EM D := fun env st => (a env st).bind fun d st => match d with
  | .bl k => .ok (.bl (!k)) st
  | _ => .bad
theorem de_one {op} (h : DE X Γ W a ma) : DE X Γ W (.BoolOp op [a] pos) ma := pe_one h
theorem de_and (h : DE X Γ W a ma) (h2 : DE X Γ W (.BoolOp .And (b :: rest) pos) mb) : DE X Γ W (.BoolOp .And (a :: b :: rest) pos) (eAnd ma mb) := by
  refine PE.weak (pe_and h h2) fun σ H Q q => ?_
  obtain ⟨μ, env, st, w, s, o⟩ := q
  refine ⟨μ, env, st, w, s, (XO.bind (R := VRr Γ) o).mono ?_⟩
  rintro v H1 ⟨μ1, d, st1, p, t1, w1, r, o1⟩
  cases r with
  | bl k =>
    refine ⟨k, rfl, ?_⟩
    cases k with
    | true => exact iteT ⟨μ1, env, st1, w1, s.mono p t1, o1⟩
    | false => exact iteF (XO.val (d := D.bl false) o1 w1 (.bl false))
  | _ => exact o1.elim
theorem de_or (h : DE X Γ W a ma) (h2 : DE X Γ W (.BoolOp .Or (b :: rest) pos) mb) : DE X Γ W (.BoolOp .Or (a :: b :: rest) pos) (eOr ma mb) := by
  refine PE.weak (pe_or h h2) fun σ H Q q => ?_
  obtain ⟨μ, env, st, w, s, o⟩ := q
  refine ⟨μ, env, st, w, s, (XO.bind (R := VRr Γ) o).mono ?_⟩
  rintro v H1 ⟨μ1, d, st1, p, t1, w1, r, o1⟩
  cases r with
  | bl k =>
    refine ⟨k, rfl, ?_⟩
    cases k with
    | true => exact iteT (XO.val (d := D.bl true) o1 w1 (.bl true))
    | false => exact iteF ⟨μ1, env, st1, w1, s.mono p t1, o1⟩
  | _ => exact o1.elim
theorem de_not (h : DE X Γ W a ma) : DE X Γ W (.UnaryOp .Not a pos) (eNot ma) := by
  refine PE.weak (pe_not h) fun σ H Q q => ?_
  obtain ⟨μ, env, st, w, s, o⟩ := q
  refine ⟨μ, env, st, w, s, (XO.bind (R := VRr Γ) o).mono ?_⟩
  rintro v H1 ⟨μ1, d, st1, p, t1, w1, r, o1⟩
  cases r with
  | bl k => exact ⟨k, rfl, XO.val (d := D.bl (!k)) o1 w1 (.bl (!k))⟩
  | _ => exact o1.elim
theorem de_ifExp {c : Expr} {tc : EM Bool} (hc : DT X Γ W c tc) (ha : DE X Γ W a ma) (hb : DE X Γ W b mb) : DE X Γ W (.IfExp c a b pos) (eIf tc ma mb) := by
  refine PE.weak (pe_ifExp hc ha hb) fun σ H Q q => ?_
  obtain ⟨μ, env, st, w, s, o⟩ := q
  refine ⟨μ, env, st, w, s, (XO.bind (R := BRr) o).mono ?_⟩
  rintro v H1 ⟨μ1, d, st1, p, t1, w1, r, o1⟩
  obtain rfl : v = d := r
  refine ite2 (fun z => ?_) fun z => ?_
  · rw [if_pos z] at o1; exact ⟨μ1, env, st1, w1, s.mono p t1, o1⟩
  · rw [if_neg z] at o1; exact ⟨μ1, env, st1, w1, s.mono p t1, o1⟩
/-- unary -/
def UnD (X : Cx) (Γ : Gam) (f : Value → Sem Value) (op : D → Store → Option (D × Store)) : Prop :=
  UnR X f fun x H Q => ∃ μ st a, Wd Γ μ H st ∧ VR Γ μ H x a ∧ OO Γ (VRr Γ) μ H Q (op a st)
theorem de_un {op : UnaryOp} {f : D → Store → Option (D × Store)} (h : UnD X Γ (unaryOp op) f) (ha : DE X Γ W a ma) : DE X Γ W (.UnaryOp op a pos) (e1 f ma) := by
  refine PE.weak (pe_un h ha) fun σ H Q q => ?_
  obtain ⟨μ, env, st, w, s, o⟩ := q
  refine ⟨μ, env, st, w, s, (XO.bind (R := VRr Γ) o).mono ?_⟩
  rintro v H1 ⟨μ1, d, st1, p, t1, w1, r, o1⟩
  exact ⟨μ1, st1, d, w1, r, o1.oo⟩
/-- arguments -/
theorem da_nil : DA X Γ W [] eNil := PA.weak pa_nil fun _ _ _ ⟨μ, env, st, w, s, o⟩ => XO.val o w .nil
theorem da_cons (ha : DE X Γ W e ma) (hr : DA X Γ W es ms) (hs : starEach (e :: es) X.env = (false, eval e X.env) :: starEach es X.env := by rfl) : DA X Γ W (e :: es) (eCons ma ms) := by
  refine PA.weak (pa_cons ha hr hs) fun σ H Q q => ?_
  obtain ⟨μ, env, st, w, s, o⟩ := q
  refine ⟨μ, env, st, w, s, (XO.bind (R := VRr Γ) o).mono ?_⟩
  rintro v H1 ⟨μ1, d, st1, p, t1, w1, r, o1⟩
  refine ⟨μ1, env, st1, w1, s.mono p t1, (XO.bind (R := VRsr Γ) o1).mono ?_⟩
  rintro v2 H2 ⟨μ2, ds, st2, p2, t2, w2, r2, o2⟩
  exact XO.val (d := d :: ds) o2 w2 (.cons (r.mono p2 t2) r2)
/-- builtins by name -/
def CallD (X : Cx) (Γ : Gam) (f : Value) (op : List D → Store → Option (D × Store)) : Prop :=
  CallR X f fun xs H Q => ∃ μ st ds, Wd Γ μ H st ∧ VRs Γ μ H xs ds ∧ OO Γ (VRr Γ) μ H Q (op ds st)
theorem cb_sim {op : List D → Store → Option (D × Store)} {t : TA} (h : ∀ σ H Q, simX Γ W (VRsr Γ) ms σ H Q → t σ H Q) {σ : St} {H : Hp} {Q : VK} (q : simX Γ W (VRr Γ) (e1 op ms) σ H Q) :
    tCB (fun xs H Q => ∃ μ st ds, Wd Γ μ H st ∧ VRs Γ μ H xs ds ∧ OO Γ (VRr Γ) μ H Q (op ds st)) t σ H Q := by
  obtain ⟨μ, env, st, w, s, o⟩ := q
  refine h _ _ _ ⟨μ, env, st, w, s, (XO.bind (R := VRsr Γ) o).mono ?_⟩
  rintro v H1 ⟨μ1, d, st1, p, t1, w1, r, o1⟩
  exact ⟨μ1, st1, d, w1, r, o1.oo⟩
theorem de_callB {x : Str} {id : String} {f : List D → Store → Option (D × Store)} (hc : CallD X Γ (.builtin id) f) (hg : Gl X x) (hm : X.mg x = none) (hv : bootBuiltins x = some (.builtin id)) (ha : DA X Γ W (e :: es) ms) (hn : x ≠ "__name__" := by decide) (hdb : (x == ("__debug__" : Str)) = false := by decide)
    (he : starEach (e :: es) X.env = (false, eval e X.env) :: starEach es X.env := by rfl) (hpl : (backTo pos (starEach es X.env)).any (·.1) = false := by rfl) : DE X Γ W (.Call (.Name x p) (e :: es) [] pos) (e1 f ms) :=
  PE.weak (pe_callB hc hg hm hv ha hn hdb he hpl) fun _ _ _ q => cb_sim (fun _ _ _ h => h) q
theorem de_callTy {x : Str} {T : String} {f : List D → Store → Option (D × Store)} (hc : CallD X Γ (.type T) f) (hg : Gl X x) (hm : X.mg x = none) (hv : bootBuiltins x = some (.type T)) (ha : DA X Γ W (e :: es) ms) (hn : x ≠ "__name__" := by decide) (hdb : (x == ("__debug__" : Str)) = false := by decide)
    (he : starEach (e :: es) X.env = (false, eval e X.env) :: starEach es X.env := by rfl) (hpl : (backTo pos (starEach es X.env)).any (·.1) = false := by rfl) : DE X Γ W (.Call (.Name x p) (e :: es) [] pos) (e1 f ms) :=
  PE.weak (pe_callTy hc hg hm hv ha hn hdb he hpl) fun _ _ _ q => cb_sim (fun _ _ _ h => h) q
end
end DL
/-! DL: statements, defs. -/
namespace DL
open PySem L2
open PyProof.Rows (envOfC)

def SO (Γ : Gam) (W : WX) (μ : List Addr) (H : Hp) (E : Ends) : SR → Prop
  | .nx env' st' => ∀ μ' σ' H', μ <+: μ' → TStay H H' → Wd Γ μ' H' st' → SL Γ μ' H' σ' env' → E.nx σ' H'
  | .bk env' st' => ∀ μ' σ' H', μ <+: μ' → TStay H H' → Wd Γ μ' H' st' → SL Γ μ' H' σ' env' → E.bk σ' H'
  | .ct env' st' => ∀ μ' σ' H', μ <+: μ' → TStay H H' → Wd Γ μ' H' st' → SL Γ μ' H' σ' env' → E.ct σ' H'
  | .rt d st' => ∀ μ' v H', μ <+: μ' → TStay H H' → Wd Γ μ' H' st' → VR Γ μ' H' v d → E.rt v H'
  | .exn c env' st' => ∀ μ' σ' H', μ <+: μ' → TStay H H' → Wd Γ μ' H' st' → SL Γ μ' H' σ' env' → W (.ref (Γ.cls c)) none σ' H'
  | .bad => False
def simS (Γ : Gam) (W : WX) (m : SM) : L2.TS := fun E σ H => ∃ μ env st, Wd Γ μ H st ∧ SL Γ μ H σ env ∧ SO Γ W μ H E (m env st)
abbrev DS (X : Cx) (Γ : Gam) (W : WX) (st : Stmt) (m : SM) : Prop := PS X st (simS Γ W m)
abbrev DB (X : Cx) (Γ : Gam) (W : WX) (sts : List Stmt) (m : SM) : Prop := PSs X sts (simS Γ W m)
section
variable {Γ : Gam} {W : WX} {μ μ1 : List Addr} {H H1 : Hp} {E : Ends}
theorem SO.shift (hm : μ <+: μ1) (t : TStay H H1) : ∀ {o : SR}, SO Γ W μ H E o → SO Γ W μ1 H1 E o
  | .nx _ _, h => fun μ' σ' H' a b => h μ' σ' H' (hm.trans a) (t.trans b)
  | .bk _ _, h => fun μ' σ' H' a b => h μ' σ' H' (hm.trans a) (t.trans b)
  | .ct _ _, h => fun μ' σ' H' a b => h μ' σ' H' (hm.trans a) (t.trans b)
  | .rt _ _, h => fun μ' v H' a b => h μ' v H' (hm.trans a) (t.trans b)
  | .exn _ _ _, h => fun μ' σ' H' a b => h μ' σ' H' (hm.trans a) (t.trans b)
  | .bad, h => h
/-- behind an expression, a statement goes on -/
def Out.s {α : Type} (env : Env) (o : Out α) (f : α → Store → SR) : SR := match o with
  | .ok a st => f a st
  | .exn c st => .exn c env st
  | .bad => .bad
theorem SO.ex {α β : Type} {R : RR α β} {σ : St} {env : Env} (s : SL Γ μ H σ env) {f : α → Store → SR} : ∀ {o : Out α}, SO Γ W μ H E (o.s env f) →
    XO Γ W σ R μ H (fun v H1 => ∃ μ1 a st1, μ <+: μ1 ∧ TStay H H1 ∧ Wd Γ μ1 H1 st1 ∧ R μ1 H1 v a ∧ SO Γ W μ1 H1 E (f a st1)) o
  | .ok a st, h => fun μ' H' v p t w r => ⟨μ', a, st, p, t, w, r, h.shift p t⟩
  | .exn _ _, h => fun μ' H' p t w => h μ' σ H' p t w (s.mono p t)
  | .bad, h => h
theorem SO.nx' {env : Env} {st : Store} {σ : St} (h : SO Γ W μ H E (.nx env st)) (w : Wd Γ μ H st) (s : SL Γ μ H σ env) : E.nx σ H := h μ σ H (List.prefix_refl _) (TStay.refl _) w s
end

/-! ### combinators -/
def sSkip : SM := fun env st => .nx env st
def sSeq (a b : SM) : SM := fun env st => match a env st with
  | .nx env st => b env st
  | r => r
def sSet (i : Nat) (m : EM D) : SM := fun env st => (m env st).s env fun d st => .nx (env.set i (some d)) st
def sDo (m : EM D) : SM := fun env st => (m env st).s env fun _ st => .nx env st
def sRet (m : EM D) : SM := fun env st => (m env st).s env fun d st => .rt d st
def sRetN : SM := fun _ st => .rt .non st
def sIf (c : EM Bool) (a b : SM) : SM := fun env st => (c env st).s env fun k st => if k = true then a env st else b env st
def sBrk : SM := fun env st => .bk env st
def sCont : SM := fun env st => .ct env st
def sRaise (c : CN) : SM := fun env st => .exn c env st

section
variable {X : Cx} {Γ : Gam} {W : WX} {e : Expr} {m : EM D} {st : Stmt} {sts : List Stmt} {ms mt : SM} {pos pos' : Pos}
theorem db_nil : DB X Γ W [] sSkip := PSs.weak pss_nil fun _ _ _ ⟨_, _, _, w, s, o⟩ => o.nx' w s
theorem ds_pass : DS X Γ W (.Pass pos) sSkip := PS.weak ps_pass fun _ _ _ ⟨_, _, _, w, s, o⟩ => o.nx' w s
theorem ds_doc {x j pos pos'} : DS X Γ W (.Expr (.Constant (.str x) j pos) pos') sSkip := PS.weak ps_doc fun _ _ _ ⟨_, _, _, w, s, o⟩ => o.nx' w s
theorem db_one (h : DS X Γ W st ms) : DB X Γ W [st] ms := pss_one h
theorem db_cons (h : DS X Γ W st ms) (r : DB X Γ W sts mt) : DB X Γ W (st :: sts) (sSeq ms mt) := by
  refine PSs.weak (pss_cons h r) fun E σ H q => ?_
  obtain ⟨μ, env, st, w, s, o⟩ := q
  refine ⟨μ, env, st, w, s, ?_⟩
  unfold sSeq at o
  cases z : ms env st with
  | nx env' st' =>
    rw [z] at o
    exact fun μ' σ' H' p t w' s' => ⟨μ', env', st', w', s', o.shift p t⟩
  | _ => rw [z] at o; exact o
theorem ds_set {i : Nat} {x : Str} {pos' : Pos} (hN : X.N.Nodup) (hi : X.N[i]? = some x) (hx : Loc X.env.scope x) (he : DE X Γ W e m) (hs : swapsWith e (some (.Name x pos')) pos.line X.env = pure false := by rfl) (hf : X.fn x = true ∨ X.env.scope.names.lookup x = some .local := by first | exact .inl rfl | exact .inr rfl | assumption) (hp : ∀ a, Γ.ea ≠ some (i, a) := by intro a h; cases h) :
    DS X Γ W (.Assign [.Name x pos'] e pos) (sSet i m) := by
  refine PS.weak (ps_set hN hi hx he hs hf) fun E σ H q => ?_
  obtain ⟨μ, env, st, w, s, o⟩ := q
  refine ⟨μ, env, st, w, s, (SO.ex (R := VRr Γ) s o).mono ?_⟩
  rintro v H1 ⟨μ1, d, st1, p, t1, w1, r, o1⟩
  exact o1.nx' w1 ((s.mono p t1).set r i hp)
theorem ds_do (he : DE X Γ W e m) (hs : swapsWith e none pos.line X.env = pure false := by rfl) : DS X Γ W (.Expr e pos) (sDo m) := by
  refine PS.weak (ps_expr he hs) fun E σ H q => ?_
  obtain ⟨μ, env, st, w, s, o⟩ := q
  refine ⟨μ, env, st, w, s, (SO.ex (R := VRr Γ) s o).mono ?_⟩
  rintro v H1 ⟨μ1, d, st1, p, t1, w1, r, o1⟩
  exact o1.nx' w1 (s.mono p t1)
theorem ds_ret (he : DE X Γ W e m) : DS X Γ W (.Return (some e) pos) (sRet m) := by
  refine PS.weak (ps_ret he) fun E σ H q => ?_
  obtain ⟨μ, env, st, w, s, o⟩ := q
  refine ⟨μ, env, st, w, s, (SO.ex (R := VRr Γ) s o).mono ?_⟩
  rintro v H1 ⟨μ1, d, st1, p, t1, w1, r, o1⟩
  exact o1 μ1 v H1 (List.prefix_refl _) (TStay.refl _) w1 r
theorem ds_retN : DS X Γ W (.Return none pos) sRetN := PS.weak ps_retN fun _ _ H ⟨μ, _, _, w, _, o⟩ => o μ .non H (List.prefix_refl _) (TStay.refl _) w .non
theorem ds_if {c : Expr} {a b : List Stmt} {tc : EM Bool} (hc : DT X Γ W c tc) (ha : DB X Γ W a ms) (hb : DB X Γ W b mt) : DS X Γ W (.If c a b pos) (sIf tc ms mt) := by
  refine PS.weak (ps_if hc ha hb) fun E σ H q => ?_
  obtain ⟨μ, env, st, w, s, o⟩ := q
  refine ⟨μ, env, st, w, s, (SO.ex (R := BRr) s o).mono ?_⟩
  rintro v H1 ⟨μ1, d, st1, p, t1, w1, r, o1⟩
  obtain rfl : v = d := r
  refine ite2 (fun z => ?_) fun z => ?_
  · rw [if_pos z] at o1; exact ⟨μ1, env, st1, w1, s.mono p t1, o1⟩
  · rw [if_neg z] at o1; exact ⟨μ1, env, st1, w1, s.mono p t1, o1⟩
theorem ds_break : DS X Γ W (.Break pos) sBrk := PS.weak ps_break fun _ σ H ⟨μ, _, _, w, s, o⟩ => o μ σ H (List.prefix_refl _) (TStay.refl _) w s
theorem ds_continue : DS X Γ W (.Continue pos) sCont := PS.weak ps_continue fun _ σ H ⟨μ, _, _, w, s, o⟩ => o μ σ H (List.prefix_refl _) (TStay.refl _) w s
/-- raise X('..') -/
theorem ds_raise (c : CN) (hc : X.calm = true) (tk : Takes X W) (he : PMk X e (fun _ H Q => Q (.ref (Γ.cls c)) none H)) : DS X Γ W (.Raise (some e) none pos) (sRaise c) :=
  PS.weak (ps_raise hc tk he) fun _ σ H ⟨μ, _, _, w, s, o⟩ => o μ σ H (List.prefix_refl _) (TStay.refl _) w s

/-! ### while -/
def whileF (c : EM Bool) (b : SM) : Nat → SM
  | 0 => fun _ _ => .bad
  | n + 1 => fun env st => (c env st).s env fun k st => if k = true then (match b env st with
      | .nx env st => whileF c b n env st
      | .ct env st => whileF c b n env st
      | .bk env st => .nx env st
      | r => r) else .nx env st
def fuel : Nat := 100000000
def sWhile (c : EM Bool) (b : SM) : SM := whileF c b fuel
theorem ds_while {c : Expr} {body : List Stmt} {tc : EM Bool} {mb : SM} (hp : PassesOwn (model X.prog X.w) X.A X.env X.xe) (hc : DT X Γ W c tc) (hb : DB X Γ W body mb) : DS X Γ W (.While c body [] pos) (sWhile tc mb) := by
  refine PS.weak (ps_while hp hc hb) fun E σ H q => ?_
  obtain ⟨μ, env, st, w, s, o⟩ := q
  refine ⟨fun n σ H => ∃ μ env st, Wd Γ μ H st ∧ SL Γ μ H σ env ∧ SO Γ W μ H E (whileF tc mb n env st), ⟨fuel, μ, env, st, w, s, o⟩, ?_⟩
  rintro n σ H ⟨μ, env, st, w, s, o⟩
  cases n with
  | zero => exact o.elim
  | succ n =>
    refine ⟨μ, env, st, w, s, (SO.ex (R := BRr) s o).mono ?_⟩
    rintro v H1 ⟨μ1, d, st1, p, t1, w1, r, o1⟩
    obtain rfl : v = d := r
    refine ite2 (fun z => ?_) fun z => ?_
    · rw [if_pos z] at o1
      refine ⟨fun σ' H' => ∃ μ env st, Wd Γ μ H' st ∧ SL Γ μ H' σ' env ∧ SO Γ W μ H' E (whileF tc mb n env st), fun σ' H' h => ⟨n, Nat.lt_succ_self n, h⟩, μ1, env, st1, w1, s.mono p t1, ?_⟩
      cases y : mb env st1 with
      | nx e2 s2 => rw [y] at o1; exact fun μ' σ' H' p t w' s' => ⟨μ', e2, s2, w', s', o1.shift p t⟩
      | ct e2 s2 => rw [y] at o1; exact fun μ' σ' H' p t w' s' => ⟨μ', e2, s2, w', s', o1.shift p t⟩
      | bk e2 s2 => rw [y] at o1; exact o1
      | _ => rw [y] at o1; exact o1
    · rw [if_neg z] at o1
      exact o1.nx' w1 (s.mono p t1)
end

/-! ### defs -/
def FO (Γ : Gam) (μ : List Addr) (H : Hp) (Q : VK) (E : XK) : Out D → Prop
  | .ok d st' => ∀ μ' H' v, μ <+: μ' → TStay H H' → Wd Γ μ' H' st' → VR Γ μ' H' v d → Q v H'
  | .exn c st' => ∀ μ' H', μ <+: μ' → TStay H H' → Wd Γ μ' H' st' → E (.ref (Γ.cls c)) none H'
  | .bad => False
def spM (Γ : Gam) (m : FM) : Sp := fun vs H Q E => ∃ μ st ds, Wd Γ μ H st ∧ VRs Γ μ H vs ds ∧ FO Γ μ H Q E (m ds st)
/-- a def's body as a function of its k arguments; n slots -/
def fnM (k n : Nat) (b : SM) : FM := fun ds st => if ds.length = k then match b (ds.map some ++ List.replicate (n - ds.length) none) st with
  | .nx _ st => .ok .non st
  | .rt d st => .ok d st
  | .exn c _ st => .exn c st
  | _ => .bad
  else .bad
theorem SL.start {Γ : Gam} (hea : Γ.ea = none) {μ : List Addr} {H : Hp} {N : List Str} {n : Nat} (hn : N.length = n) {vs : List V} {ds : List D} (r : VRs Γ μ H vs ds) : SL Γ μ H (L2.start N vs) (ds.map some ++ List.replicate (n - ds.length) none) := by
  have hl := r.length
  refine ⟨by unfold L2.start; simp [hl, hn], fun i a h => (by rw [hea] at h; cases h), fun i d e => ?_⟩
  unfold L2.start
  by_cases hi : i < ds.length
  · rw [List.getElem?_append_left (by simpa using hi), List.getElem?_map] at e
    rw [List.getElem?_append_left (by simpa [hl] using hi), List.getElem?_map]
    cases q : ds[i]? with
    | none => rw [q] at e; cases e
    | some d' =>
      rw [q] at e
      simp at e
      subst e
      obtain ⟨v, hv, r⟩ := r.get q
      exact ⟨v, by rw [hv]; rfl, r⟩
  · rw [List.getElem?_append_right (by simpa using hi)] at e
    simp [List.getElem?_replicate] at e
section
variable {P : Program} {w : World} {K : PySem.W.Frag} {mg : Str → Option Value} {base : Heap} {Γ : Gam}
theorem okD {x qual : Str} {st : Stmt} {f : Addr} {fd : FuncData} {N ps : List Str} {k : Nat} (F : Fun K x qual st f fd) (S : FnScope N ps (defScope st)) (kp n : Nat) (hk : ps.length = kp) (hn : N.length = n) (hea : Γ.ea = none) (b : SM)
    (hbody : ∀ (cdv : Value) (A : Around) (outer : List PySem.Env) (s : Shared) (H : Hp) (E : XK), Room k (A.deeper (envOfC qual (defScope st) s.heap.objs.size f cdv)) →
      DB (cxOf (L2.CX P w) P w K mg base N qual (defScope st) f cdv A outer s H E) Γ (fun cls d _ H => E cls d H) (defBody st) b) :
    FnOk P w K mg base (L2.CX P w) (k + 1) f fd ps (spM Γ (fnM kp n b)) := by
  refine F.okX S (fun vs H Q E h => ?_) (fun cdv A outer s H vs Q E hr h => ?_)
  · obtain ⟨μ, st, ds, _, r, o⟩ := h
    unfold fnM at o
    split at o
    · rename_i e; rw [r.length, e, hk]
    · exact o.elim
  · refine ⟨_, hbody cdv A outer s H E hr, ?_⟩
    obtain ⟨μ, st', ds, wd, r, o⟩ := h
    refine ⟨μ, _, st', wd, SL.start hea hn r, ?_⟩
    unfold fnM at o
    split at o
    case isFalse => exact o.elim
    cases z : b (ds.map some ++ List.replicate (n - ds.length) none) st' with
    | nx e2 s2 => rw [z] at o; exact fun μ' σ' H' p t w s => o μ' H' .non p t w .non
    | rt d s2 => rw [z] at o; exact fun μ' v H' p t w s => o μ' H' v p t w s
    | exn c e2 s2 => rw [z] at o; exact fun μ' σ' H' p t w s => o μ' H' p t w
    | bk e2 s2 => rw [z] at o; exact o.elim
    | ct e2 s2 => rw [z] at o; exact o.elim
    | bad => rw [z] at o; exact o.elim
end

/-! ### what is not asked for any more is left out -/
mutual
def D.lt (n : Nat) : D → Bool
  | .ref k => decide (k < n)
  | .tup l => D.ltAll n l
  | _ => true
def D.ltAll (n : Nat) : List D → Bool
  | [] => true
  | d :: l => D.lt n d && D.ltAll n l
end
mutual
def D.ren (ρ : Nat → Nat) : D → D
  | .ref k => .ref (ρ k)
  | .tup l => .tup (D.renAll ρ l)
  | .non => .non
  | .bl b => .bl b
  | .int i => .int i
  | .str s => .str s
def D.renAll (ρ : Nat → Nat) : List D → List D
  | [] => []
  | d :: l => D.ren ρ d :: D.renAll ρ l
end
def Ob.lt (n : Nat) : Ob → Bool
  | .lst l => D.ltAll n l
  | .frz l => D.ltAll n l
  | .dic l => D.ltAll n (l.map (·.2))
  | .dtp l => D.ltAll n (l.map (·.2))
  | .ins _ l => D.ltAll n (l.map (·.2))
def Ob.ren (ρ : Nat → Nat) : Ob → Ob
  | .lst l => .lst (D.renAll ρ l)
  | .frz l => .frz (D.renAll ρ l)
  | .dic l => .dic (l.map fun p => (p.1, p.2.ren ρ))
  | .dtp l => .dtp (l.map fun p => (p.1, p.2.ren ρ))
  | .ins c l => .ins c (l.map fun p => (p.1, p.2.ren ρ))
mutual
theorem D.ren_id {ρ : Nat → Nat} {n : Nat} (h : ∀ i, i < n → ρ i = i) : ∀ (d : D), d.lt n = true → d.ren ρ = d
  | .ref k, e => by simp only [D.lt, decide_eq_true_eq] at e; simp only [D.ren, h k e]
  | .tup l, e => by simp only [D.lt] at e; simp only [D.ren, D.renAll_id h l e]
  | .non, _ => rfl
  | .bl _, _ => rfl
  | .int _, _ => rfl
  | .str _, _ => rfl
theorem D.renAll_id {ρ : Nat → Nat} {n : Nat} (h : ∀ i, i < n → ρ i = i) : ∀ (l : List D), D.ltAll n l = true → D.renAll ρ l = l
  | [], _ => rfl
  | d :: l, e => by
    simp only [D.ltAll, Bool.and_eq_true] at e
    simp only [D.renAll, D.ren_id h d e.1, D.renAll_id h l e.2]
end
section
variable {Γ : Gam} {μ μ' : List Addr} {H : Hp}
mutual
theorem VR.lt : ∀ {v : V} {d : D}, VR Γ μ H v d → d.lt μ.length = true
  | _, _, .non => rfl
  | _, _, .bl b => rfl
  | _, _, .int i => rfl
  | _, _, .str s => rfl
  | _, _, .tup h r => by simp only [D.lt]; exact VRs.lt r
  | _, _, .ref h => by simp only [D.lt, decide_eq_true_eq]; exact (List.getElem?_eq_some_iff.mp h).1
theorem VRs.lt : ∀ {vs : List V} {ds : List D}, VRs Γ μ H vs ds → D.ltAll μ.length ds = true
  | _, _, .nil => rfl
  | _, _, .cons a b => by simp only [D.ltAll, Bool.and_eq_true]; exact ⟨VR.lt a, VRs.lt b⟩
end
theorem FRs.lt : ∀ {gs : List (Str × V)} {fs : List (FN × D)}, FRs Γ μ H gs fs → D.ltAll μ.length (fs.map (·.2)) = true
  | [], [], _ => rfl
  | (_, _) :: _, (_, _) :: _, h => by simp only [List.map_cons, D.ltAll, Bool.and_eq_true]; exact ⟨h.2.1.lt, FRs.lt h.2.2⟩
  | [], _ :: _, h => h.elim
  | _ :: _, [], h => h.elim
theorem KRs.lt {κ ι : Type} {g : ι → κ} : ∀ {gs : List (κ × V)} {fs : List (ι × D)}, KRs Γ μ H g gs fs → D.ltAll μ.length (fs.map (·.2)) = true
  | [], [], _ => rfl
  | (_, _) :: _, (_, _) :: _, h => by simp only [List.map_cons, D.ltAll, Bool.and_eq_true]; exact ⟨h.2.1.lt, KRs.lt h.2.2⟩
  | [], _ :: _, h => h.elim
  | _ :: _, [], h => h.elim
theorem OR.lt {a : Addr} : ∀ {o : Ob}, OR Γ μ H a o → o.lt μ.length = true
  | .lst _, ⟨_, _, r⟩ => r.lt
  | .frz _, ⟨_, _, r⟩ => r.lt
  | .dic _, ⟨_, _, r⟩ => KRs.lt r
  | .dtp _, ⟨_, _, r⟩ => KRs.lt r
  | .ins _ _, ⟨_, _, _, r⟩ => FRs.lt r
variable {ρ : Nat → Nat} {n : Nat} (hl : ∀ i, i < n → μ'[i]? = μ[ρ i]?)
include hl
mutual
theorem VR.unren : ∀ (d : D) {v : V}, d.lt n = true → VR Γ μ H v (d.ren ρ) → VR Γ μ' H v d
  | .non, _, _, r => by cases r; exact .non
  | .bl b, _, _, r => by cases r; exact .bl b
  | .int b, _, _, r => by cases r; exact .int b
  | .str b, _, _, r => by cases r; exact .str b
  | .ref k, _, e, r => by
    simp only [D.ren] at r
    cases r with
    | ref h => exact .ref (by rw [hl k (by simpa [D.lt] using e)]; exact h)
  | .tup l, _, e, r => by
    simp only [D.ren] at r
    cases r with
    | tup h q => exact .tup h (VRs.unren l (by simpa only [D.lt] using e) q)
theorem VRs.unren : ∀ (ds : List D) {vs : List V}, D.ltAll n ds = true → VRs Γ μ H vs (D.renAll ρ ds) → VRs Γ μ' H vs ds
  | [], _, _, r => by simp only [D.renAll] at r; cases r; exact .nil
  | d :: l, _, e, r => by
    simp only [D.renAll] at r
    simp only [D.ltAll, Bool.and_eq_true] at e
    cases r with
    | cons a b => exact .cons (VR.unren d e.1 a) (VRs.unren l e.2 b)
end
theorem FRs.unren : ∀ {gs : List (Str × V)} (fs : List (FN × D)), D.ltAll n (fs.map (·.2)) = true → FRs Γ μ H gs (fs.map fun p => (p.1, p.2.ren ρ)) → FRs Γ μ' H gs fs
  | [], [], _, _ => trivial
  | (_, _) :: _, (_, d) :: l, e, h => by
    simp only [List.map_cons, D.ltAll, Bool.and_eq_true] at e
    exact ⟨h.1, VR.unren hl d e.1 h.2.1, FRs.unren l e.2 h.2.2⟩
  | [], _ :: _, _, h => h.elim
  | _ :: _, [], _, h => h.elim
theorem KRs.unren {κ ι : Type} {g : ι → κ} : ∀ {gs : List (κ × V)} (fs : List (ι × D)), D.ltAll n (fs.map (·.2)) = true → KRs Γ μ H g gs (fs.map fun p => (p.1, p.2.ren ρ)) → KRs Γ μ' H g gs fs
  | [], [], _, _ => trivial
  | (_, _) :: _, (_, d) :: l, e, h => by
    simp only [List.map_cons, D.ltAll, Bool.and_eq_true] at e
    exact ⟨h.1, VR.unren hl d e.1 h.2.1, KRs.unren l e.2 h.2.2⟩
  | [], _ :: _, _, h => h.elim
  | _ :: _, [], _, h => h.elim
theorem OR.unren {a : Addr} : ∀ (o : Ob), o.lt n = true → OR Γ μ H a (o.ren ρ) → OR Γ μ' H a o
  | .lst l, e, ⟨vs, h, r⟩ => ⟨vs, h, VRs.unren hl l e r⟩
  | .frz l, e, ⟨vs, h, r⟩ => ⟨vs, h, VRs.unren hl l e r⟩
  | .dic l, e, ⟨vs, h, r⟩ => ⟨vs, h, KRs.unren hl l e r⟩
  | .dtp l, e, ⟨vs, h, r⟩ => ⟨vs, h, KRs.unren hl l e r⟩
  | .ins _ l, e, ⟨dx, vs, h, r⟩ => ⟨dx, vs, h, FRs.unren hl l e r⟩
end
/-- st' is what of st'' is still asked for: ρ tells where -/
structure Gc (st st' st'' : Store) (ρ : Nat → Nat) : Prop where
  len : st.length ≤ st'.length
  id : ∀ i, i < st.length → ρ i = i
  inj : ∀ i j, i < st'.length → j < st'.length → ρ i = ρ j → i = j
  ob : ∀ (i : Nat) (o : Ob), st'[i]? = some o → st''[ρ i]? = some (o.ren ρ) ∧ (o.lt st'.length = true)
theorem Gc.wd {Γ : Gam} {μ μ1 : List Addr} {H : Hp} {st st' st'' : Store} {ρ : Nat → Nat} (g : Gc st st' st'' ρ) (hm : μ <+: μ1) (hl : μ.length = st.length) (w : Wd Γ μ1 H st'') :
    ∃ μ2, μ <+: μ2 ∧ Wd Γ μ2 H st' ∧ ∀ v (d : D), d.lt st'.length = true → VR Γ μ1 H v (d.ren ρ) → VR Γ μ2 H v d := by
  have hr : ∀ i, i < st'.length → ρ i < μ1.length := fun i hi => by
    have := (g.ob i _ (List.getElem?_eq_getElem hi)).1
    rw [w.len]; exact (List.getElem?_eq_some_iff.mp this).1
  have key : ∀ i, i < st'.length → ((List.range st'.length).map fun i => μ1.getD (ρ i) 0)[i]? = μ1[ρ i]? := fun i hi => by
    rw [List.getElem?_map, List.getElem?_range hi]
    simp [List.getElem?_eq_getElem (hr i hi)]
  refine ⟨(List.range st'.length).map fun i => μ1.getD (ρ i) 0, ?_, ⟨by simp, fun i j a e1 e2 => ?_, fun i o a e1 e2 => ?_⟩, fun v d e r => VR.unren key d e r⟩
  · refine List.prefix_iff_eq_take.mpr (List.ext_getElem? fun i => ?_)
    by_cases hi : i < μ.length
    · rw [List.getElem?_take_of_lt hi, key i (by have := g.len; omega), g.id i (by omega)]
      obtain ⟨t, rfl⟩ := hm
      rw [List.getElem?_append_left hi]
    · rw [List.getElem?_eq_none (by omega), List.getElem?_take_eq_none (by omega)]
  · have hi : i < st'.length := by have := (List.getElem?_eq_some_iff.mp e1).1; simpa using this
    have hj : j < st'.length := by have := (List.getElem?_eq_some_iff.mp e2).1; simpa using this
    rw [key i hi] at e1
    rw [key j hj] at e2
    have fz : ∀ k, k < st'.length → (∃ l, st''[ρ k]? = some (.frz l)) → ∃ l, st'[k]? = some (.frz l) := fun k hk ⟨l, q⟩ => by
      have z := (g.ob k _ (List.getElem?_eq_getElem hk)).1
      rw [q] at z
      rw [List.getElem?_eq_getElem hk]
      generalize st'[k] = o at z
      cases o <;> simp only [Ob.ren, Option.some.injEq] at z <;> first | exact ⟨_, rfl⟩ | cases z
    rcases w.nd _ _ a e1 e2 with z | z | z
    · exact .inl (g.inj i j hi hj z)
    · exact .inr (.inl (fz i hi z))
    · exact .inr (.inr (fz j hj z))
  · have hi : i < st'.length := (List.getElem?_eq_some_iff.mp e1).1
    rw [key i hi] at e2
    obtain ⟨z, lt⟩ := g.ob i o e1
    exact OR.unren key o lt (w.ob _ _ a z e2)
/-- the raw result o' may be told as o -/
inductive Tell (st : Store) : Out D → Out D → Prop
  | ok {d : D} {st' st'' : Store} (ρ : Nat → Nat) (g : Gc st st' st'' ρ) (hd : d.lt st'.length = true) : Tell st (.ok d st') (.ok (d.ren ρ) st'')
  | exn {c : CN} {st' st'' : Store} (ρ : Nat → Nat) (g : Gc st st' st'' ρ) : Tell st (.exn c st') (.exn c st'')
  | bad {o : Out D} : Tell st .bad o
/-- the objects of a store tell of places within it -/
def Store.Ok (st : Store) : Prop := ∀ (i : Nat) (o : Ob), st[i]? = some o → o.lt st.length = true
theorem Wd.ok {Γ : Gam} {μ : List Addr} {H : Hp} {st : Store} (w : Wd Γ μ H st) : st.Ok := fun i o e => by
  obtain ⟨a, _, r⟩ := w.get e
  have := r.lt
  rwa [w.len] at this
section
variable {P : Program} {w : World} {K : PySem.W.Frag} {mg : Str → Option Value} {base : Heap} {Γ : Gam}
/-- another function of the arguments that says the same -/
theorem okImp {k : Nat} {f : Addr} {fd : FuncData} {ps : List Str} {m m' : FM} (F : FnOk P w K mg base (L2.CX P w) k f fd ps (spM Γ m))
    (h : ∀ st ds, st.Ok → D.ltAll st.length ds = true → Tell st (m' ds st) (m ds st)) : FnOk P w K mg base (L2.CX P w) k f fd ps (spM Γ m') := by
  refine F.imp ?_
  rintro vs H Q E ⟨μ, st, ds, wd, r, o⟩
  refine ⟨μ, st, ds, wd, r, ?_⟩
  have lt : D.ltAll st.length ds = true := by rw [← wd.len]; exact r.lt
  have t := h st ds wd.ok lt
  generalize m' ds st = o1 at t o
  generalize m ds st = o2 at t
  cases t with
  | bad => exact o.elim
  | ok ρ g hd =>
    intro μ' H' v p t w' r'
    obtain ⟨μ2, p2, w2, q⟩ := g.wd p wd.len w'
    exact o μ2 H' v p2 t w2 (q v _ hd r')
  | exn ρ g =>
    intro μ' H' p t w'
    obtain ⟨μ2, p2, w2, q⟩ := g.wd p wd.len w'
    exact o μ2 H' p2 t w2
end
end DL
/-! DL: calls of own defs, methods, classes; fields; displays; loops. -/
namespace DL
open PySem L2
open PyProof.Rows (envOfC)

/-! ### calls of own defs -/
def eCall (f : FM) (ms : EM (List D)) : EM D := fun env st => (ms env st).bind f
/-- o.m(..), o an instance of the class c -/
def eMeth (c : CN) (f : FM) (mo : EM D) (ms : EM (List D)) : EM D := fun env st => (mo env st).bind fun d st => match d with
  | .ref n => match st[n]? with
    | some (.ins c' _) => if c' = c then (ms env st).bind fun ds st => f (.ref n :: ds) st else .bad
    | _ => .bad
  | _ => .bad
/-- .. of one of two classes -/
def eMeth2 (c : CN) (f : FM) (c2 : CN) (f2 : FM) (mo : EM D) (ms : EM (List D)) : EM D := fun env st => (mo env st).bind fun d st => match d with
  | .ref n => match st[n]? with
    | some (.ins c' _) => if c' = c then (ms env st).bind fun ds st => f (.ref n :: ds) st else if c' = c2 then (ms env st).bind fun ds st => f2 (.ref n :: ds) st else .bad
    | _ => .bad
  | _ => .bad
/-- C(..) -/
def eMake (c : CN) (f : FM) (ms : EM (List D)) : EM D := fun env st => (ms env st).bind fun ds st => match f (.ref st.length :: ds) (st ++ [.ins c []]) with
  | .ok .non st' => .ok (.ref st.length) st'
  | _ => .bad
def eFld (cs : List CN) (f : FN) (mo : EM D) : EM D := e1 (fun d st => match d with
  | .ref n => match st[n]? with
    | some (.ins c fs) => if cs.contains c then (fs.lookup f).map fun d => (d, st) else none
    | _ => none
  | _ => none) mo
def putD (f : FN) (v : D) : List (FN × D) → List (FN × D)
  | [] => [(f, v)]
  | (g, u) :: l => if g = f then (g, v) :: l else (g, u) :: putD f v l
def sFldD (cs : List CN) (f : FN) (mo mv : EM D) : SM := fun env st => (mv env st).s env fun v st => (mo env st).s env fun d st => match d with
  | .ref n => match st[n]? with
    | some (.ins c fs) => if cs.contains c && decide (fs.length < 1000) then .nx env (st.set n (.ins c (putD f v fs))) else .bad
    | _ => .bad
  | _ => .bad

section
variable {Γ : Gam} {μ : List Addr} {H : Hp}
theorem FN.beq {a b : FN} : (a.str == b.str) = (a == b) := by
  by_cases h : a = b
  · subst h; simp
  · rw [beq_eq_false_iff_ne.mpr h, beq_eq_false_iff_ne.mpr fun e => h (FN.inj e)]
theorem FRs.look : ∀ {gs : List (Str × V)} {fs : List (FN × D)} {f : FN} {d : D}, FRs Γ μ H gs fs → fs.lookup f = some d → ∃ v, gs.lookup f.str = some v ∧ VR Γ μ H v d
  | [], [], _, _, _, e => by cases e
  | (_, v) :: gs, (g, u) :: fs, f, d, h, e => by
    obtain ⟨rfl, r, h⟩ := h
    rw [List.lookup_cons] at e
    rw [List.lookup_cons, FN.beq]
    cases z : f == g with
    | true => rw [z] at e; cases e; exact ⟨v, rfl, r⟩
    | false => rw [z] at e; exact FRs.look h e
  | [], _ :: _, _, _, h, _ => h.elim
  | _ :: _, [], _, _, h, _ => h.elim
theorem FRs.no {m : Str} (hm : FN.all.all (fun f => m != f.str) = true) : ∀ {gs : List (Str × V)} {fs : List (FN × D)}, FRs Γ μ H gs fs → gs.lookup m = none
  | [], [], _ => rfl
  | (_, v) :: gs, (g, u) :: fs, h => by
    obtain ⟨rfl, r, h⟩ := h
    have : (m != g.str) = true := List.all_eq_true.mp hm g g.mem_all
    rw [List.lookup_cons, show (m == g.str) = false by simpa using this]
    exact FRs.no hm h
  | [], _ :: _, h => h.elim
  | _ :: _, [], h => h.elim
theorem FRs.len : ∀ {gs : List (Str × V)} {fs : List (FN × D)}, FRs Γ μ H gs fs → gs.length = fs.length
  | [], [], _ => rfl
  | (_, _) :: _, (_, _) :: _, h => by simp [FRs.len h.2.2]
  | [], _ :: _, h => h.elim
  | _ :: _, [], h => h.elim
theorem FRs.put {f : FN} {v : V} {d : D} (r : VR Γ μ H v d) : ∀ {gs : List (Str × V)} {fs : List (FN × D)}, FRs Γ μ H gs fs → FRs Γ μ H (putF f.str v gs) (putD f d fs)
  | [], [], _ => ⟨rfl, r, trivial⟩
  | (_, w) :: gs, (g, u) :: fs, h => by
    obtain ⟨rfl, q, h⟩ := h
    unfold putF putD
    by_cases z : g = f
    · subst z
      rw [if_pos rfl]
      rw [if_pos rfl]
      exact ⟨rfl, r, h⟩
    · rw [if_neg z]
      rw [if_neg (fun e => z (FN.inj e))]
      exact ⟨rfl, q, FRs.put r h⟩
  | [], _ :: _, h => h.elim
  | _ :: _, [], h => h.elim
end

section
variable {X : Cx} {Γ : Gam} {W : WX} {k : Nat} {f f' C : Addr} {fd fd' : FuncData} {ps ps' : List Str} {m m' : FM} {x nm : Str} {p pos apos : Pos} {e o : Expr} {es : List Expr} {ms : EM (List D)} {mo mv : EM D}
abbrev FnD (X : Cx) (Γ : Gam) (k : Nat) (f : Addr) (fd : FuncData) (ps : List Str) (m : FM) : Prop := FnOk X.prog X.w X.K X.mg X.base (L2.CX X.prog X.w) k f fd ps (spM Γ m)
theorem fo_of {σ : L2.St} {μ : List Addr} {H : Hp} {Q : VK} : ∀ {o : Out D}, XO Γ W σ (VRr Γ) μ H Q o → FO Γ μ H Q (WE W σ) o
  | .ok _ _, h => h
  | .exn _ _, h => h
  | .bad, h => h
theorem call_sim {σ : L2.St} {H : Hp} {Q : VK} (q : simX Γ W (VRr Γ) (eCall m ms) σ H Q) : tCallS (spM Γ m) (WE W) (simX Γ W (VRsr Γ) ms) σ H Q := by
  obtain ⟨μ, env, st, w, s, o⟩ := q
  refine ⟨μ, env, st, w, s, (XO.bind (R := VRsr Γ) o).mono ?_⟩
  rintro v H1 ⟨μ1, d, st1, p, t1, w1, r, o1⟩
  exact ⟨μ1, st1, d, w1, r, fo_of o1⟩
theorem de_call (F : FnD X Γ k f fd ps m) (tk : Takes X W) (hr : Room k X.A) (hg : Gl X x) (hm : X.mg x = some (.ref f)) (hk : PySem.W.keepIn X.K (.ref f) = true) (hb : Binds X.K fd ps [])
    (ha : DA X Γ W (e :: es) ms) (hdb : (x == ("__debug__" : Str)) = false := by decide)
    (he : starEach (e :: es) X.env = (false, eval e X.env) :: starEach es X.env := by rfl) (hpl : (backTo pos (starEach es X.env)).any (·.1) = false := by rfl) : DE X Γ W (.Call (.Name x p) (e :: es) [] pos) (eCall m ms) :=
  PE.weak (pe_callS F hr hg hm hk hb (fun σ => passAt tk σ) ha hdb he hpl) fun _ _ _ q => call_sim q
theorem de_call0 (F : FnD X Γ k f fd ps m) (tk : Takes X W) (hr : Room k X.A) (hg : Gl X x) (hm : X.mg x = some (.ref f)) (hk : PySem.W.keepIn X.K (.ref f) = true) (hb : Binds X.K fd ps [])
    (hdb : (x == ("__debug__" : Str)) = false := by decide) : DE X Γ W (.Call (.Name x p) [] [] pos) (eCall m eNil) := by
  refine PE.weak (t := tCallS (spM Γ m) (WE W) (simX Γ W (VRsr Γ) eNil)) ⟨fun pins s σ H Q I h => ?_⟩ fun _ _ _ q => call_sim q
  obtain ⟨μ, env, st, w, s', o⟩ := h
  have h : spM Γ m [] H Q (WE W σ) := o.val w .nil
  refine wpAny_Call_Name_kw (ld_glob I hg hm ?_ hdb)
  exact PySem.W.callWith_K0 I.kIn hk (run_fnS (us := []) F hr hb (fun p => passAt tk σ p) I .nil h)

def tMethW (C : Addr) (nm : Str) (sp : Sp) (W : WX) (ta : TE) (t : TA) : TE := fun σ H Q => ta σ H fun x H1 => ∃ a dx fs, x = .ref a ∧ H1 a = some (.ins C dx fs) ∧ fs.lookup nm = none ∧ t σ H1 fun vs H2 => sp (x :: vs) H2 Q (WE W σ)
theorem pe_methW {pl : Sem Bool} {ta : TE} {t : TA} {sp : Sp} (he : PE X o ta) (c : Cls X.K C) (hm : Meth X.K C nm f) (F : FnOk X.prog X.w X.K X.mg X.base (L2.CX X.prog X.w) k f fd ps sp) (tk : Takes X W) (hr : Room k X.A) (hb : Binds X.K fd ps []) (ha : PA X (e :: es) t)
    (ht : eval (.Call (.Attribute o nm apos) (e :: es) [] pos) X.env = (do let ov ← eval o X.env; standAt apos.atName; let (f, first) ← holding [ov] (getMethod ov nm pl); callWith pos f first (backTo pos (starEach (e :: es) X.env)) (backToKw pos (keywordEach [] X.env))) := by rfl)
    (hst : starEach (e :: es) X.env = (false, eval e X.env) :: starEach es X.env := by rfl) (hpl : (backTo pos (starEach es X.env)).any (·.1) = false := by rfl) : PE X (.Call (.Attribute o nm apos) (e :: es) [] pos) (tMethW C nm sp W ta t) := by
  refine ⟨fun pins s σ H Q I h => ?_⟩
  refine PySem.W.methodCall_KW (pl := pl) (thn (he.run pins s σ H _ I h) fun u s1 ⟨x, H1, I1, rx, a, dx, fs, ex, ea, l, q⟩ => ?_) ht
  subst ex
  obtain rfl : u = Value.ref a := rx
  refine getmeth_ok I1 ea c hm l (PySem.W.callWith_K (first := [.ref a]) (h₀ := X.base) I.ok.mod.kin hm.kp (thn (ha.run pos pins s1 σ H1 _ I1 q) fun us s2 ⟨vs, H2, I2, r, q2⟩ => ⟨I2.kIn, ?_⟩) hst hpl)
  exact run_fnS (us := .ref a :: us) (vs := .ref a :: vs) F hr hb (passAt tk σ) I2 (.cons rfl r) q2
theorem pe_methW0 {pl : Sem Bool} {ta : TE} {sp : Sp} (he : PE X o ta) (c : Cls X.K C) (hm : Meth X.K C nm f) (F : FnOk X.prog X.w X.K X.mg X.base (L2.CX X.prog X.w) k f fd ps sp) (tk : Takes X W) (hr : Room k X.A) (hb : Binds X.K fd ps [])
    (ht : eval (.Call (.Attribute o nm apos) [] [] pos) X.env = (do let ov ← eval o X.env; standAt apos.atName; let (f, first) ← holding [ov] (getMethod ov nm pl); callWith pos f first (backTo pos (starEach [] X.env)) (backToKw pos (keywordEach [] X.env))) := by rfl) :
    PE X (.Call (.Attribute o nm apos) [] [] pos) (tMethW C nm sp W ta tNil) := by
  refine ⟨fun pins s σ H Q I h => ?_⟩
  refine PySem.W.methodCall_KW (pl := pl) (thn (he.run pins s σ H _ I h) fun u s1 ⟨x, H1, I1, rx, a, dx, fs, ex, ea, l, q⟩ => ?_) ht
  subst ex
  obtain rfl : u = Value.ref a := rx
  refine getmeth_ok I1 ea c hm l (PySem.W.callWith_K0 (first := [.ref a]) I1.kIn hm.kp (run_fnS (us := [.ref a]) (vs := [.ref a]) F hr hb (passAt tk σ) I1 (.cons rfl .nil) q))
theorem meth_sim {c : CN} {t : TA} (hno : FN.all.all (fun f => nm != f.str) = true) (ht : ∀ σ H Q, simX Γ W (VRsr Γ) ms σ H Q → t σ H Q) {σ : L2.St} {H : Hp} {Q : VK} (q : simX Γ W (VRr Γ) (eMeth c m mo ms) σ H Q) :
    tMethW (Γ.cls c) nm (spM Γ m) W (simX Γ W (VRr Γ) mo) t σ H Q := by
  obtain ⟨μ, env, st, w, s, o⟩ := q
  refine ⟨μ, env, st, w, s, (XO.bind (R := VRr Γ) o).mono ?_⟩
  rintro v H1 ⟨μ1, d, st1, p, t1, w1, r, o1⟩
  cases r with
  | @ref a n hn =>
    simp only at o1
    split at o1
    · rename_i c' fs' e
      obtain ⟨dx, gs, ha, hf⟩ := w1.at hn e
      split at o1
      · rename_i ec
        subst ec
        refine ⟨a, dx, gs, rfl, ha, hf.no hno, ht _ _ _ ⟨μ1, env, st1, w1, s.mono p t1, (XO.bind (R := VRsr Γ) o1).mono ?_⟩⟩
        rintro vs H2 ⟨μ2, ds, st2, p2, t2, w2, r2, o2⟩
        exact ⟨μ2, st2, _, w2, .cons (.ref (pre_get p2 hn)) r2, fo_of o2⟩
      · exact o1.elim
    · exact o1.elim
  | _ => exact o1.elim
theorem de_meth (c : CN) {pl : Sem Bool} (he : DE X Γ W o mo) (hc : Cls X.K (Γ.cls c)) (hm : Meth X.K (Γ.cls c) nm f) (F : FnD X Γ k f fd ps m) (tk : Takes X W) (hr : Room k X.A) (hb : Binds X.K fd ps []) (ha : DA X Γ W (e :: es) ms) (hno : FN.all.all (fun f => nm != f.str) = true := by decide +kernel)
    (ht : eval (.Call (.Attribute o nm apos) (e :: es) [] pos) X.env = (do let ov ← eval o X.env; standAt apos.atName; let (f, first) ← holding [ov] (getMethod ov nm pl); callWith pos f first (backTo pos (starEach (e :: es) X.env)) (backToKw pos (keywordEach [] X.env))) := by rfl)
    (hst : starEach (e :: es) X.env = (false, eval e X.env) :: starEach es X.env := by rfl) (hpl : (backTo pos (starEach es X.env)).any (·.1) = false := by rfl) : DE X Γ W (.Call (.Attribute o nm apos) (e :: es) [] pos) (eMeth c m mo ms) :=
  PE.weak (pe_methW (pl := pl) he hc hm F tk hr hb ha ht hst hpl) fun _ _ _ q => meth_sim hno (fun _ _ _ h => h) q
theorem de_meth0 (c : CN) {pl : Sem Bool} (he : DE X Γ W o mo) (hc : Cls X.K (Γ.cls c)) (hm : Meth X.K (Γ.cls c) nm f) (F : FnD X Γ k f fd ps m) (tk : Takes X W) (hr : Room k X.A) (hb : Binds X.K fd ps []) (hno : FN.all.all (fun f => nm != f.str) = true := by decide +kernel)
    (ht : eval (.Call (.Attribute o nm apos) [] [] pos) X.env = (do let ov ← eval o X.env; standAt apos.atName; let (f, first) ← holding [ov] (getMethod ov nm pl); callWith pos f first (backTo pos (starEach [] X.env)) (backToKw pos (keywordEach [] X.env))) := by rfl) :
    DE X Γ W (.Call (.Attribute o nm apos) [] [] pos) (eMeth c m mo eNil) :=
  PE.weak (pe_methW0 (pl := pl) he hc hm F tk hr hb ht) fun _ _ _ q => meth_sim hno (fun _ _ _ ⟨_, _, _, w, _, o⟩ => o.val w .nil) q
/-- one of two classes -/
theorem de_or2 {c c2 : CN} (h1 : DE X Γ W e (eMeth c m mo ms)) (h2 : DE X Γ W e (eMeth c2 m' mo ms)) : DE X Γ W e (eMeth2 c m c2 m' mo ms) := by
  refine ⟨fun pins s σ H Q I q => ?_⟩
  obtain ⟨μ, env, st, w, s', o⟩ := q
  unfold eMeth2 at o
  cases z : mo env st with
  | bad => rw [z] at o; exact o.elim
  | exn c st1 => exact h1.run pins s σ H Q I ⟨μ, env, st, w, s', by unfold eMeth; rw [z] at o ⊢; exact o⟩
  | ok d st1 =>
    rw [z] at o
    cases d with
    | ref n =>
      simp only [Out.bind] at o
      split at o
      · rename_i c' fs' e
        split at o
        · rename_i ec
          exact h1.run pins s σ H Q I ⟨μ, env, st, w, s', by unfold eMeth; rw [z]; simp only [Out.bind, e, if_pos ec]; exact o⟩
        · split at o
          · rename_i ec
            exact h2.run pins s σ H Q I ⟨μ, env, st, w, s', by unfold eMeth; rw [z]; simp only [Out.bind, e, if_pos ec]; exact o⟩
          · exact o.elim
      · exact o.elim
    | _ => exact o.elim

/-- C(..) -/
theorem make_sim {c : CN} {t : TA} (ht : ∀ σ H Q, simX Γ W (VRsr Γ) ms σ H Q → t σ H Q) {σ : L2.St} {H : Hp} {Q : VK} (q : simX Γ W (VRr Γ) (eMake c m ms) σ H Q) : tMake (Γ.cls c) (spM Γ m) [] E0 t σ H Q := by
  obtain ⟨μ, env, st, w, s, o⟩ := q
  refine ht _ _ _ ⟨μ, env, st, w, s, (XO.bind (R := VRsr Γ) o).mono ?_⟩
  rintro vs H1 ⟨μ1, ds, st1, p, t1, w1, r, o1⟩ x dx hx hdx hne
  have hx' : (upd H1 dx (.own x)) x = none := by rw [upd_ne hne.symm]; exact hx
  have gr : ∀ a u, H1 a = some u → (upd (upd H1 dx (.own x)) x (.ins (Γ.cls c) dx [])) a = some u := fun a u h => grow_new hx' a u (grow_new hdx a u h)
  have w2 : Wd Γ (μ1 ++ [x]) (upd (upd H1 dx (.own x)) x (.ins (Γ.cls c) dx [])) (st1 ++ [.ins c []]) := w1.newO gr hx ⟨dx, [], upd_same, trivial⟩
  have hm : μ1 <+: μ1 ++ [x] := List.prefix_append _ _
  have tt : TStay H1 (upd (upd H1 dx (.own x)) x (.ins (Γ.cls c) dx [])) := fun b vs h => gr b _ h
  have hx2 : (μ1 ++ [x])[st1.length]? = some x := by rw [← w1.len]; simp
  refine ⟨μ1 ++ [x], st1 ++ [.ins c []], .ref st1.length :: ds, w2, .cons (.ref hx2) (by rw [List.append_nil]; exact r.mono hm tt), ?_⟩
  split at o1
  · rename_i st2 e
    rw [e]
    rintro μ' H' v p' t' w' r'
    cases r'
    exact ⟨rfl, o1 μ' H' _ (hm.trans p') (tt.trans t') w' (.ref (pre_get p' hx2))⟩
  · exact o1.elim
theorem de_make (c : CN) (M : Mk X.K (Γ.cls c) f) (F : FnD X Γ k f fd ps m) (hr : Room (k + 1) X.A) (hg : Gl X x) (hm : X.mg x = some (.ref (Γ.cls c))) (hb : Binds X.K fd ps []) (ha : DA X Γ W (e :: es) ms) (hdb : (x == ("__debug__" : Str)) = false := by decide)
    (he : starEach (e :: es) X.env = (false, eval e X.env) :: starEach es X.env := by rfl) (hpl : (backTo pos (starEach es X.env)).any (·.1) = false := by rfl) : DE X Γ W (.Call (.Name x p) (e :: es) [] pos) (eMake c m ms) :=
  PE.weak (pe_make M F hr hg hm hb .nil passL ha hdb he hpl) fun _ _ _ q => make_sim (fun _ _ _ h => h) q
theorem de_make0 (c : CN) (M : Mk X.K (Γ.cls c) f) (F : FnD X Γ k f fd ps m) (hr : Room (k + 1) X.A) (hg : Gl X x) (hm : X.mg x = some (.ref (Γ.cls c))) (hb : Binds X.K fd ps []) (hdb : (x == ("__debug__" : Str)) = false := by decide) : DE X Γ W (.Call (.Name x p) [] [] pos) (eMake c m eNil) :=
  PE.weak (pe_make0 M F hr hg hm hb .nil passL hdb) fun _ _ _ q => make_sim (fun _ _ _ ⟨_, _, _, w, _, o⟩ => o.val w .nil) q

/-- a class's field -/
structure FldOk (K : PySem.W.Frag) (Γ : Gam) (cs : List CN) (f : FN) : Prop where
  ok : ∀ c, cs.contains c = true → Cls K (Γ.cls c) ∧ NoAttr K (Γ.cls c) f.str
theorem de_fld {cs : List CN} (fn : FN) (F : FldOk X.K Γ cs fn) (he : DE X Γ W e mo) (hs : nm = fn.str := by rfl) (hb : attributeBase e nm X.env (eval e X.env) = eval e X.env := by rfl) : DE X Γ W (.Attribute e nm pos) (eFld cs fn mo) := by
  refine PE.weak (pe_fld he hb) fun σ H Q q => ?_
  obtain ⟨μ, env, st, w, s, o⟩ := q
  refine ⟨μ, env, st, w, s, (XO.bind (R := VRr Γ) o).mono ?_⟩
  rintro v H1 ⟨μ1, d, st1, p, t1, w1, r, o1⟩
  cases r with
  | @ref a n hn =>
    simp only at o1
    cases z : st1[n]? with
    | none => rw [z] at o1; exact o1.elim
    | some ob =>
      rw [z] at o1
      cases ob with
      | ins c fs =>
        simp only at o1
        split at o1
        · rename_i hc
          obtain ⟨dx, gs, ha, hf⟩ := w1.at hn z
          cases zz : fs.lookup fn with
          | none => rw [zz] at o1; exact o1.elim
          | some d =>
            rw [zz] at o1
            obtain ⟨v, hv, rv⟩ := hf.look zz
            obtain ⟨c1, c2⟩ := F.ok c hc
            exact ⟨a, _, dx, gs, v, rfl, ha, c1, by rw [hs]; exact c2, by rw [hs]; exact hv, XO.val o1 w1 rv⟩
        · exact o1.elim
      | _ => exact o1.elim
  | _ => exact o1.elim
theorem ds_fld {cs : List CN} (fn : FN) (F : FldOk X.K Γ cs fn) (he : DE X Γ W o mo) (hv : DE X Γ W e mv) (hs : nm = fn.str := by rfl) (hsw : swapsWith e (some (.Attribute o nm apos)) pos.line X.env = pure false := by rfl) : DS X Γ W (.Assign [.Attribute o nm apos] e pos) (sFldD cs fn mo mv) := by
  refine PS.weak (ps_fld he hv hsw) fun E σ H q => ?_
  obtain ⟨μ, env, st, w, s, o⟩ := q
  refine ⟨μ, env, st, w, s, (SO.ex (R := VRr Γ) s o).mono ?_⟩
  rintro v H1 ⟨μ1, d, st1, p, t1, w1, r, o1⟩
  refine ⟨μ1, env, st1, w1, s.mono p t1, (SO.ex (R := VRr Γ) (s.mono p t1) o1).mono ?_⟩
  rintro v2 H2 ⟨μ2, d2, st2, p2, t2, w2, r2, o2⟩
  cases r2 with
  | @ref a n hn =>
    simp only at o2
    cases z : st2[n]? with
    | none => rw [z] at o2; exact o2.elim
    | some ob =>
      rw [z] at o2
      cases ob with
      | ins c fs =>
        simp only at o2
        split at o2
        · rename_i hc
          obtain ⟨hc, hl⟩ := Bool.and_eq_true_iff.mp hc
          obtain ⟨dx, gs, ha, hf⟩ := w2.at hn z
          obtain ⟨c1, c2⟩ := F.ok c hc
          have tt : TStay H2 (upd H2 a (.ins (Γ.cls c) dx (putF nm v gs))) := TStay.at ha (by intro vs e; cases e)
          have r' := (r.mono p2 t2).mono (List.prefix_refl _) tt
          refine ⟨a, _, dx, gs, rfl, ha, c1, by rw [hs]; exact c2, by rw [hf.len]; exact of_decide_eq_true hl, ?_⟩
          refine o2 μ2 σ _ (List.prefix_refl _) tt (w2.set hn ha (by intro vs e; cases e) (by intro o v e; cases e) z (by intro l e; cases e) ⟨dx, _, upd_same, ?_⟩) (((s.mono p t1).mono p2 t2).mono (List.prefix_refl _) tt)
          rw [hs] at *
          exact FRs.put r' (hf.mono (List.prefix_refl _) tt)
        · exact o2.elim
      | _ => exact o2.elim
  | _ => exact o2.elim
end
end DL
/-! DL: loops, comprehensions, try. -/
namespace DL
open PySem L2
open PyProof.Rows (envOfC)

/-! ### what is walked -/
inductive Src where
  | fix (l : List D) | ref (n : Nat)
def seqOf (st : Store) (n : Nat) : Option (List D) := match st[n]? with
  | some (.lst l) => some l
  | some (.frz l) => some l
  | _ => none
def Grow (H H' : Hp) : Prop := ∀ a u, H a = some u → H' a = some u
/-- the iterator J yields the items of the source -/
def ItR (Γ : Gam) (μ : List Addr) (H : Hp) (J : It) : Src → Prop
  | .fix l => ∀ (i : Nat) (μ2 : List Addr) (H2 : Hp), μ <+: μ2 → TStay H H2 → (i < l.length → J.go i H2) ∧ (l.length ≤ i → J.stop i H2) ∧ ∀ x H3 d, J.yld i H2 x H3 → l[i]? = some d → Grow H2 H3 ∧ VR Γ μ2 H3 x d
  | .ref n => ∀ (i : Nat) (μ2 : List Addr) (H2 : Hp) (st2 : Store), μ <+: μ2 → TStay H H2 → Wd Γ μ2 H2 st2 → ∀ l, seqOf st2 n = some l → (i < l.length → J.go i H2) ∧ (l.length ≤ i → J.stop i H2) ∧ ∀ x H3 d, J.yld i H2 x H3 → l[i]? = some d → Grow H2 H3 ∧ VR Γ μ2 H3 x d
def XI (Γ : Gam) (W : WX) (σ : L2.St) (μ : List Addr) (H : Hp) (R : It → Hp → Prop) : Out Src → Prop
  | .ok s st' => ∀ μ' H' J, μ <+: μ' → TStay H H' → Wd Γ μ' H' st' → ItR Γ μ' H' J s → R J H'
  | .exn c st' => ∀ μ' H', μ <+: μ' → TStay H H' → Wd Γ μ' H' st' → W (.ref (Γ.cls c)) none σ H'
  | .bad => False
def simI (Γ : Gam) (W : WX) (m : EM Src) : TI := fun σ H R => ∃ μ env st, Wd Γ μ H st ∧ SL Γ μ H σ env ∧ XI Γ W σ μ H R (m env st)
abbrev DI (X : Cx) (Γ : Gam) (W : WX) (tg iter : Expr) (m : EM Src) : Prop := PI X tg iter (simI Γ W m)
theorem PI.weak {X : Cx} {tg iter : Expr} {t t' : TI} (h : PI X tg iter t) (i : ∀ σ H R, t' σ H R → t σ H R) : PI X tg iter t' := ⟨fun pins s σ H R I q => h.run pins s σ H R I (i _ _ _ q)⟩
abbrev Tgt := D → Env → Option Env
/-- a target -/
def GOk (Γ : Gam) (g : TG) (t : Tgt) : Prop := ∀ (v : V) (σ : L2.St) (H : Hp) (μ : List Addr) (st : Store) (env env' : Env) (d : D) (Q : L2.St → Hp → Prop), Wd Γ μ H st → SL Γ μ H σ env → VR Γ μ H v d → t d env = some env' → (∀ σ', SL Γ μ H σ' env' → Q σ' H) → g v σ H Q
structure DG (X : Cx) (Γ : Gam) (tg : Expr) (g : TG) (t : Tgt) : Prop where
  run : PG X tg g
  ok : GOk Γ g t
def tName (i : Nat) : Tgt := fun d env => some (env.set i (some d))
def tTup2 (i j : Nat) : Tgt := fun d env => match d with
  | .tup [a, b] => some ((env.set i (some a)).set j (some b))
  | _ => none

def forFix (t : Tgt) (b : SM) : List D → SM
  | [] => fun env st => .nx env st
  | d :: l => fun env st => match t d env with
    | none => .bad
    | some env => match b env st with
      | .nx env st => forFix t b l env st
      | .ct env st => forFix t b l env st
      | .bk env st => .nx env st
      | r => r
def forRef (t : Tgt) (b : SM) (n : Nat) : Nat → Nat → SM
  | 0, _ => fun _ _ => .bad
  | k + 1, i => fun env st => match seqOf st n with
    | none => .bad
    | some l => match l[i]? with
      | none => .nx env st
      | some d => match t d env with
        | none => .bad
        | some env => match b env st with
          | .nx env st => forRef t b n k (i + 1) env st
          | .ct env st => forRef t b n k (i + 1) env st
          | .bk env st => .nx env st
          | r => r
def sFor (src : EM Src) (t : Tgt) (b : SM) : SM := fun env st => (src env st).s env fun s st => match s with
  | .fix l => forFix t b l env st
  | .ref n => forRef t b n fuel 0 env st

section
variable {X : Cx} {Γ : Gam} {W : WX} {tg iter : Expr} {body : List Stmt} {src : EM Src} {g : TG} {t : Tgt} {mb : SM} {pos : Pos}
theorem Wd.grow' {μ : List Addr} {H H' : Hp} {st : Store} (w : Wd Γ μ H st) (g : Grow H H') : Wd Γ μ H' st := w.grow g
theorem Grow.ts {H H' : Hp} (g : Grow H H') : TStay H H' := fun b vs h => g b _ h
theorem dg_name {i : Nat} {x : Str} {pos : Pos} (hN : X.N.Nodup) (hi : X.N[i]? = some x) (hx : Loc X.env.scope x) (hf : X.fn x = true ∨ X.env.scope.names.lookup x = some .local := by first | exact .inl rfl | exact .inr rfl | assumption) (hp : ∀ a, Γ.ea ≠ some (i, a) := by intro a h; cases h) : DG X Γ (.Name x pos) (gName i) (tName i) :=
  ⟨pg_name hN hi hx hf, fun v σ H μ st env env' d Q w s r e q => by cases e; exact q _ (s.set r i hp)⟩
theorem dg_tup2 {i j : Nat} {x y : Str} {pos p1 p2 : Pos} {k : Nat} (hc : X.calm = true) (hK : Γ.K = X.K) (hN : X.N.Nodup) (hi : X.N[i]? = some x) (hx : Loc X.env.scope x) (hj : X.N[j]? = some y) (hy : Loc X.env.scope y)
    (hf : X.fn x = true ∨ X.env.scope.names.lookup x = some .local := by first | exact .inl rfl | exact .inr rfl | assumption) (hf' : X.fn y = true ∨ X.env.scope.names.lookup y = some .local := by first | exact .inl rfl | exact .inr rfl | assumption) (hp : ∀ i a, Γ.ea ≠ some (i, a) := by intro i a h; cases h)
    (hn : (assignEach [.Name x p1, .Name y p2] X.env).length = 2 := by rfl) (hst : (assignEach [.Name x p1, .Name y p2] X.env).findIdx? (·.1) = none := by rfl) :
    DG X Γ (.Tuple [.Name x p1, .Name y p2] k pos) (gTup X.K 2 (gCons (gName i) (gCons (gName j) gNil))) (tTup2 i j) := by
  refine ⟨pg_tup hc (pgs_cons (pg_name hN hi hx hf) (pgs_cons (pg_name hN hj hy hf') pgs_nil)) hn hst, fun v σ H μ st env env' d Q w s r e q => ?_⟩
  unfold tTup2 at e
  split at e
  · cases e
    cases r with
    | @tup a vs ds h rs =>
      cases rs with
      | cons r1 rs =>
        cases rs with
        | cons r2 rs =>
          cases rs
          exact ⟨a, _, rfl, SqT.of h, rfl, _, _, rfl, _, _, rfl, rfl, q _ ((s.set r1 i (hp i)).set r2 j (hp j))⟩
  · cases e

theorem ds_for (hp : PassesOwn (model X.prog X.w) X.A X.env X.xe) (hc : X.calm = true) (hi : DI X Γ W tg iter src) (hg : DG X Γ tg g t) (hb : DB X Γ W body mb) (hs : ∀ x, foldedSetIterable iter X.env x = pure x := by intro _; rfl) : DS X Γ W (.For tg iter body [] pos) (sFor src t mb) := by
  refine PS.weak (ps_for hp hc hi hg.run hb hs) fun E σ H q => ?_
  obtain ⟨μ, env, st, w, s, o⟩ := q
  refine ⟨μ, env, st, w, s, ?_⟩
  unfold sFor at o
  cases z : src env st with
  | bad => rw [z] at o; exact o.elim
  | exn c st1 => rw [z] at o; exact fun μ' H' p t w => o μ' σ H' p t w (s.mono p t)
  | ok sr st1 =>
    rw [z] at o
    intro μ1 H1 J p1 t1 w1 itr
    cases sr with
    | fix l =>
      refine ⟨fun i m σ H => m = l.length - i ∧ i ≤ l.length ∧ ∃ μ env st, μ1 <+: μ ∧ TStay H1 H ∧ Wd Γ μ H st ∧ SL Γ μ H σ env ∧ SO Γ W μ H E (forFix t mb (l.drop i) env st), ⟨l.length, by simp, Nat.zero_le _, μ1, env, st1, List.prefix_refl _, TStay.refl _, w1, s.mono p1 t1, by rw [List.drop_zero]; exact SO.shift p1 t1 o⟩, ?_⟩
      rintro i m σ H ⟨rfl, hi, μ, env, st, p, tt, w, s, o⟩
      obtain ⟨g1, g2, g3⟩ := itr i μ H p tt
      by_cases hlt : i < l.length
      · have hd : l.drop i = l[i] :: l.drop (i + 1) := List.drop_eq_getElem_cons hlt
        refine .inr ⟨g1 hlt, fun σ' H' => ∃ μ env st, μ1 <+: μ ∧ TStay H1 H' ∧ Wd Γ μ H' st ∧ SL Γ μ H' σ' env ∧ SO Γ W μ H' E (forFix t mb (l.drop (i + 1)) env st), fun σ' H' h => ⟨l.length - (i + 1), by omega, rfl, hlt, h⟩, fun x H' y => ?_⟩
        obtain ⟨gr, rx⟩ := g3 x H' l[i] y (List.getElem?_eq_getElem hlt)
        rw [hd] at o
        unfold forFix at o
        cases e : t l[i] env with
        | none => rw [e] at o; exact o.elim
        | some env' =>
          rw [e] at o
          simp only at o
          have w' := w.grow' gr
          refine hg.ok x σ H' μ st env env' l[i] _ w' (s.mono (List.prefix_refl _) gr.ts) rx e fun σ' s' => ?_
          refine ⟨μ, env', st, w', s', ?_⟩
          replace o := SO.shift (List.prefix_refl _) gr.ts o
          have t0 := tt.trans gr.ts
          cases y : mb env' st with
          | nx e2 s2 => rw [y] at o; exact fun μ' σ' H' p' t' w' s' => ⟨μ', e2, s2, p.trans p', t0.trans t', w', s', o.shift p' t'⟩
          | ct e2 s2 => rw [y] at o; exact fun μ' σ' H' p' t' w' s' => ⟨μ', e2, s2, p.trans p', t0.trans t', w', s', o.shift p' t'⟩
          | bk e2 s2 => rw [y] at o; exact o
          | _ => rw [y] at o; exact o
      · refine .inl ⟨g2 (Nat.le_of_not_lt hlt), ?_⟩
        rw [List.drop_eq_nil_of_le (Nat.le_of_not_lt hlt)] at o
        exact SO.nx' o w s
    | ref n =>
      refine ⟨fun i m σ H => ∃ μ env st, μ1 <+: μ ∧ TStay H1 H ∧ Wd Γ μ H st ∧ SL Γ μ H σ env ∧ SO Γ W μ H E (forRef t mb n m i env st), ⟨fuel, μ1, env, st1, List.prefix_refl _, TStay.refl _, w1, s.mono p1 t1, SO.shift p1 t1 o⟩, ?_⟩
      rintro i m σ H ⟨μ, env, st, p, tt, w, s, o⟩
      cases m with
      | zero => exact o.elim
      | succ m =>
        unfold forRef at o
        cases zl : seqOf st n with
        | none => rw [zl] at o; exact o.elim
        | some l =>
          rw [zl] at o
          simp only at o
          obtain ⟨g1, g2, g3⟩ := itr i μ H st p tt w l zl
          cases zi : l[i]? with
          | none =>
            rw [zi] at o
            exact .inl ⟨g2 (List.getElem?_eq_none_iff.mp zi), SO.nx' o w s⟩
          | some d =>
            rw [zi] at o
            simp only at o
            refine .inr ⟨g1 (List.getElem?_eq_some_iff.mp zi).1, fun σ' H' => ∃ μ env st, μ1 <+: μ ∧ TStay H1 H' ∧ Wd Γ μ H' st ∧ SL Γ μ H' σ' env ∧ SO Γ W μ H' E (forRef t mb n m (i + 1) env st), fun σ' H' h => ⟨m, Nat.lt_succ_self m, h⟩, fun x H' y => ?_⟩
            obtain ⟨gr, rx⟩ := g3 x H' d y zi
            cases e : t d env with
            | none => rw [e] at o; exact o.elim
            | some env' =>
              rw [e] at o
              simp only at o
              have w' := w.grow' gr
              refine hg.ok x σ H' μ st env env' d _ w' (s.mono (List.prefix_refl _) gr.ts) rx e fun σ' s' => ?_
              refine ⟨μ, env', st, w', s', ?_⟩
              replace o := SO.shift (List.prefix_refl _) gr.ts o
              have t0 := tt.trans gr.ts
              cases y : mb env' st with
              | nx e2 s2 => rw [y] at o; exact fun μ' σ' H' p' t' w' s' => ⟨μ', e2, s2, p.trans p', t0.trans t', w', s', o.shift p' t'⟩
              | ct e2 s2 => rw [y] at o; exact fun μ' σ' H' p' t' w' s' => ⟨μ', e2, s2, p.trans p', t0.trans t', w', s', o.shift p' t'⟩
              | bk e2 s2 => rw [y] at o; exact o
              | _ => rw [y] at o; exact o
end

/-! ### sources -/
/-- a list, a tuple or a text -/
def srcOf : D → Store → Option (Src × Store)
  | .tup l, st => some (.fix l, st)
  | .str s, st => some (.fix (s.map fun c => .str [c]), st)
  | .ref n, st => (seqOf st n).map fun _ => (.ref n, st)
  | _, _ => none
def iSeq (m : EM D) : EM Src := fun env st => (m env st).bind fun d st => .of (srcOf d st)
def rngD (lo : Int) (n : Nat) : List D := (List.range n).map fun (i : Nat) => .int (lo + (i : Int))
def iRng1D (m : EM D) : EM Src := fun env st => (m env st).bind fun d st => match d with
  | .int j => if -(2 ^ 62) ≤ j ∧ j < 2 ^ 62 then .ok (.fix (rngD 0 j.toNat)) st else .bad
  | _ => .bad
def iRng2D (m m2 : EM D) : EM Src := fun env st => (m env st).bind fun d st => (m2 env st).bind fun d2 st => match d, d2 with
  | .int i, .int j => if -(2 ^ 62) ≤ i ∧ i < 2 ^ 62 ∧ -(2 ^ 62) ≤ j ∧ j < 2 ^ 62 then .ok (.fix (rngD i (j - i).toNat)) st else .bad
  | _, _ => .bad
theorem seqOf_sq {Γ : Gam} {μ : List Addr} {H : Hp} {st : Store} (w : Wd Γ μ H st) {n : Nat} {l : List D} {a : Addr} (e : seqOf st n = some l) (ha : μ[n]? = some a) : ∃ vs, SqL Γ.K H a vs ∧ VRs Γ μ H vs l := by
  unfold seqOf at e
  split at e
  · rename_i z; cases e; obtain ⟨vs, h, r⟩ := w.at ha z; exact ⟨vs, SqL.of h, r⟩
  · rename_i z; cases e; obtain ⟨vs, h, r⟩ := w.at ha z; exact ⟨vs, h.sq, r⟩
  · cases e
section
variable {X : Cx} {Γ : Gam} {W : WX} {tg iter e e2 : Expr} {m m2 : EM D} {pos p : Pos}
/-- of PI's by what is walked: a list, a tuple, a text -/
theorem PI.or {t t' : TI} (h : PI X tg iter t) (h' : PI X tg iter t') : PI X tg iter (fun σ H R => t σ H R ∨ t' σ H R) := ⟨fun pins s σ H R I q => q.elim (h.run pins s σ H R I) (h'.run pins s σ H R I)⟩
theorem vrs_get {μ : List Addr} {H : Hp} : ∀ {vs : List V} {ds : List D} {i : Nat} {v : V}, VRs Γ μ H vs ds → vs[i]? = some v → ∃ d, ds[i]? = some d ∧ VR Γ μ H v d
  | _, _, _, _, .nil, e => by simp at e
  | _, _, 0, _, .cons r _, e => by simp at e; subst e; exact ⟨_, rfl, r⟩
  | _, _, i + 1, _, .cons _ t, e => by
    obtain ⟨v, h1, h2⟩ := vrs_get (i := i) t (by simpa using e)
    exact ⟨v, by simpa using h1, h2⟩
theorem di_seq (hK : Γ.K = X.K) (h : DE X Γ W e m) : DI X Γ W tg e (iSeq m) := by
  have key : ∀ (σ : L2.St) (H : Hp) (R : It → Hp → Prop), simI Γ W (iSeq m) σ H R → iList X.K (simX Γ W (VRr Γ) m) σ H R ∨ iTup X.K (simX Γ W (VRr Γ) m) σ H R ∨ iStr (simX Γ W (VRr Γ) m) σ H R := fun σ H R q => by
    obtain ⟨μ, env, st, w, s, o⟩ := q
    unfold iSeq at o
    cases z : m env st with
    | bad => rw [z] at o; exact o.elim
    | exn c st1 => rw [z] at o; exact .inl ⟨μ, env, st, w, s, by rw [z]; exact o⟩
    | ok d st1 =>
      rw [z] at o
      cases d with
      | tup l =>
        refine .inr (.inl ⟨μ, env, st, w, s, ?_⟩)
        rw [z]
        intro μ1 H1 v p1 t1 w1 r1
        cases r1 with
        | @tup a vs ds h rs =>
          refine ⟨a, rfl, ⟨vs, SqT.of h⟩, o μ1 H1 _ p1 t1 w1 fun i μ2 H2 p2 t2 => ?_⟩
          have h2 := SqT.of (K := X.K) (t2 _ _ h)
          have rs2 := rs.mono p2 t2
          have hl := rs2.length
          refine ⟨fun hi => ⟨vs, vs[i]'(by omega), h2, by simp⟩, fun hi => ⟨vs, h2, by omega⟩, fun x H3 d y hd => ?_⟩
          obtain ⟨e, y⟩ := y
          subst e
          obtain ⟨v, hv, rv⟩ := rs2.get hd
          have := y vs h2
          rw [hv] at this; cases this
          exact ⟨fun _ _ q => q, rv⟩
      | str x =>
        refine .inr (.inr ⟨μ, env, st, w, s, ?_⟩)
        rw [z]
        intro μ1 H1 v p1 t1 w1 r1
        cases r1
        refine ⟨_, rfl, o μ1 H1 _ p1 t1 w1 fun i μ2 H2 p2 t2 => ⟨fun hi => (by show i < (sOf x).cps.size; simpa using hi), fun hi => (by show (sOf x).cps.size ≤ i; simpa using hi), fun y H3 d yy hd => ?_⟩⟩
        obtain ⟨e, c, hc, rfl⟩ := yy
        subst e
        rw [List.getElem?_map] at hd
        have hc' : x[i]? = some c := by simpa using hc
        rw [hc'] at hd
        cases hd
        exact ⟨fun _ _ q => q, .str [c]⟩
      | ref n =>
        refine .inl ⟨μ, env, st, w, s, ?_⟩
        rw [z]
        intro μ1 H1 v p1 t1 w1 r1
        cases r1 with
        | @ref a _ hn =>
          cases zz : seqOf st1 n with
          | none => simp only [Out.bind, srcOf, zz, Option.map_none] at o; exact o.elim
          | some l =>
            simp only [Out.bind, srcOf, zz, Option.map_some, Out.of] at o
            obtain ⟨vs, hs, _⟩ := seqOf_sq w1 zz hn
            refine ⟨a, rfl, ⟨vs, hK ▸ hs⟩, o μ1 H1 _ p1 t1 w1 fun i μ2 H2 st2 p2 t2 w2 l2 e2 => ?_⟩
            obtain ⟨vs2, hs2, rs2⟩ := seqOf_sq w2 e2 (pre_get p2 hn)
            have h2 : SqL X.K H2 a vs2 := hK ▸ hs2
            have hl := rs2.length
            refine ⟨fun hi => ⟨vs2, vs2[i]'(by omega), h2, by simp⟩, fun hi => ⟨vs2, h2, by omega⟩, fun x H3 d y hd => ?_⟩
            obtain ⟨e, y⟩ := y
            subst e
            obtain ⟨v, hv, rv⟩ := rs2.get hd
            have := y vs2 h2
            rw [hv] at this; cases this
            exact ⟨fun _ _ q => q, rv⟩
      | _ => exact o.elim
  exact PI.weak (PI.or (pi_list h) (PI.or (pi_tup h) (pi_str h))) key
theorem itr_rng {lo : Int} {n : Nat} {μ : List Addr} {H : Hp} : ItR Γ μ H (Itr lo n) (.fix (rngD lo n)) := fun i μ2 H2 p2 t2 => by
  refine ⟨fun hi => (by show i < n; simpa [rngD] using hi), fun hi => (by show n ≤ i; simpa [rngD] using hi), fun x H3 d y hd => ?_⟩
  obtain ⟨e, y⟩ := y
  subst e y
  unfold rngD at hd
  rw [List.getElem?_map] at hd
  cases z : (List.range n)[i]? with
  | none => rw [z] at hd; cases hd
  | some j =>
    rw [z] at hd
    cases hd
    obtain ⟨h1, h2⟩ := List.getElem?_eq_some_iff.mp z
    simp at h2
    subst h2
    exact ⟨fun _ _ q => q, .int _⟩
theorem di_range1 (hg : Gl X "range") (hm : X.mg "range" = none) (h : DE X Γ W e m) (hs : starEach [e] X.env = [(false, eval e X.env)] := by rfl) : DI X Γ W tg (.Call (.Name "range" p) [e] [] pos) (iRng1D m) := by
  refine PI.weak (pi_range1 hg hm (da_cons h da_nil (hs.trans rfl)) hs) fun σ H R q => ?_
  obtain ⟨μ, env, st, w, s, o⟩ := q
  unfold iRng1D at o
  refine ⟨μ, env, st, w, s, ?_⟩
  simp only [eCons, eNil]
  cases z : m env st with
  | bad => rw [z] at o; exact o.elim
  | exn c st1 => rw [z] at o; exact o
  | ok d st1 =>
    rw [z] at o
    intro μ1 H1 v p1 t1 w1 r1
    cases r1 with
    | cons r rs =>
      cases rs
      cases r <;> first
        | exact o.elim
        | (simp only [Out.bind] at o
           split at o
           · rename_i hh
             exact ⟨_, rfl, hh.1, hh.2, o μ1 H1 _ p1 t1 w1 itr_rng⟩
           · exact o.elim)
theorem di_range2 (hg : Gl X "range") (hm : X.mg "range" = none) (h : DE X Γ W e m) (h2 : DE X Γ W e2 m2) (hs : starEach [e, e2] X.env = [(false, eval e X.env), (false, eval e2 X.env)] := by rfl) (hs2 : starEach [e2] X.env = [(false, eval e2 X.env)] := by rfl) : DI X Γ W tg (.Call (.Name "range" p) [e, e2] [] pos) (iRng2D m m2) := by
  refine PI.weak (pi_range2 hg hm (da_cons h (da_cons h2 da_nil (hs2.trans rfl)) (hs.trans (by rw [hs2]))) hs hs2) fun σ H R q => ?_
  obtain ⟨μ, env, st, w, s, o⟩ := q
  unfold iRng2D at o
  refine ⟨μ, env, st, w, s, ?_⟩
  simp only [eCons, eNil]
  cases z : m env st with
  | bad => rw [z] at o; exact o.elim
  | exn c st1 => rw [z] at o; exact o
  | ok d st1 =>
    rw [z] at o
    simp only [Out.bind] at o ⊢
    cases z2 : m2 env st1 with
    | bad => rw [z2] at o; exact o.elim
    | exn c st2 => rw [z2] at o; exact o
    | ok d2 st2 =>
      rw [z2] at o
      intro μ1 H1 v p1 t1 w1 r1
      cases r1 with
      | cons r rs =>
        cases rs with
        | cons r2 rs =>
          cases rs
          cases r <;> first
            | exact o.elim
            | (cases r2 <;> first
                | exact o.elim
                | (simp only at o
                   split at o
                   · rename_i hh
                     exact ⟨_, _, rfl, hh, o μ1 H1 _ p1 t1 w1 itr_rng⟩
                   · exact o.elim))
end
end DL
/-! DL: comprehensions, try. -/
namespace DL
open PySem L2
open PyProof.Rows (envOfC)

/-! ### [elt for t in src if ..] -/
def wipeD (env : Env) : List Nat → Env
  | [] => env
  | v :: vs => (wipeD env vs).set v none
/-- a turn: the test, the element, the append to the list at place n -/
def compTurn (n : Nat) (tt : EM Bool) (te : EM D) (env : Env) (st : Store) : Out Unit := (tt env st).bind fun b st => if b = true then (te env st).bind fun y st => match st[n]? with
    | some (.lst acc) => if acc.length < sizeLine then .ok () (st.set n (.lst (acc ++ [y]))) else .bad
    | _ => .bad
  else .ok () st
def compFix (t : Tgt) (tt : EM Bool) (te : EM D) (n : Nat) (env : Env) : List D → Store → Out Unit
  | [], st => .ok () st
  | d :: l, st => match t d env with
    | none => .bad
    | some env' => (compTurn n tt te env' st).bind fun _ st => compFix t tt te n env l st
def compRef (t : Tgt) (tt : EM Bool) (te : EM D) (n : Nat) (env : Env) (m : Nat) : Nat → Nat → Store → Out Unit
  | 0, _, _ => .bad
  | k + 1, i, st => match seqOf st m with
    | none => .bad
    | some l => match l[i]? with
      | none => .ok () st
      | some d => match t d env with
        | none => .bad
        | some env' => (compTurn n tt te env' st).bind fun _ st => compRef t tt te n env m k (i + 1) st
def eComp (src : EM Src) (t : Tgt) (tt : EM Bool) (te : EM D) (vs : List Nat) : EM D := fun env st => (src env st).bind fun s st =>
  match (match s with
    | .fix l => compFix t tt te st.length (wipeD env vs) l (st ++ [Ob.lst []])
    | .ref m => compRef t tt te st.length (wipeD env vs) m fuel 0 (st ++ [Ob.lst []])) with
  | .ok _ st' => .ok (.ref st.length) st'
  | _ => .bad
def tYesD : EM Bool := fun _ st => .ok true st

section
variable {Γ : Gam} {μ : List Addr} {H : Hp}
theorem SL.wipe {σ : L2.St} {env : Env} (s : SL Γ μ H σ env) (hp : Γ.ea = none) : ∀ vs : List Nat, SL Γ μ H (L2.wipe σ vs) (wipeD env vs)
  | [] => s
  | v :: vs => (SL.wipe s hp vs).unset v none fun a h => by rw [hp] at h; cases h
theorem wipe_get {σ : L2.St} {i : Nat} : ∀ {vs : List Nat}, (L2.wipe σ vs)[i]? = if i ∈ vs then (σ[i]?).map (fun _ => none) else σ[i]?
  | [] => by simp [L2.wipe]
  | v :: vs => by
    unfold L2.wipe
    by_cases h : v = i
    · subst h
      rw [if_pos (by simp)]
      by_cases hl : v < (L2.wipe σ vs).length
      · rw [List.getElem?_set_self hl, List.getElem?_eq_getElem (by rw [wipe_length] at hl; exact hl)]; rfl
      · rw [List.getElem?_eq_none (by simpa using hl), List.getElem?_eq_none (by rw [wipe_length] at hl; omega)]; rfl
    · rw [List.getElem?_set_ne h, wipe_get (vs := vs)]
      have : (i ∈ v :: vs) = (i ∈ vs) := by
        refine propext ⟨fun q => ?_, fun q => List.mem_cons_of_mem _ q⟩
        rcases List.mem_cons.mp q with q | q
        · exact absurd q.symm h
        · exact q
      simp only [this]
theorem wipe_set {σ : L2.St} {vs : List Nat} {i : Nat} (x : Option V) (h : i ∈ vs) : L2.wipe ((L2.wipe σ vs).set i x) vs = L2.wipe σ vs := by
  refine List.ext_getElem? fun j => ?_
  rw [wipe_get, wipe_get]
  by_cases hj : j ∈ vs
  · rw [if_pos hj, if_pos hj]
    by_cases e : i = j
    · subst e
      by_cases hl : i < (L2.wipe σ vs).length
      · rw [List.getElem?_set_self hl, List.getElem?_eq_getElem (by rw [wipe_length] at hl; exact hl)]; rfl
      · rw [List.getElem?_eq_none (by simpa using hl), List.getElem?_eq_none (by rw [wipe_length] at hl; omega)]
    · rw [List.getElem?_set_ne e, wipe_get, if_pos hj]
      cases σ[j]? <;> rfl
  · rw [if_neg hj, if_neg hj, List.getElem?_set_ne (fun e : i = j => hj (by rw [← e]; exact h)), wipe_get, if_neg hj]
/-- a target of a comprehension: its slots are among the block's own -/
def GOkC (Γ : Gam) (g : TG) (t : Tgt) (vs : List Nat) : Prop := ∀ (v : V) (σ : L2.St) (H : Hp) (μ : List Addr) (st : Store) (env env' : Env) (d : D) (Q : L2.St → Hp → Prop), Wd Γ μ H st → SL Γ μ H (L2.wipe σ vs) env → VR Γ μ H v d → t d env = some env' →
  (∀ σ', SL Γ μ H σ' env' → L2.wipe σ' vs = L2.wipe σ vs → Q σ' H) → g v (L2.wipe σ vs) H Q
theorem gc_name {i : Nat} {vs : List Nat} (h : i ∈ vs) (hp : Γ.ea = none) : GOkC Γ (gName i) (tName i) vs := fun v σ H μ st env env' d Q w s r e q => by
  cases e; exact q _ (s.set r i (fun a h => by rw [hp] at h; cases h)) (wipe_set _ h)
theorem gc_tup2 {K : PySem.W.Frag} {i j : Nat} {vs : List Nat} (h : i ∈ vs) (h2 : j ∈ vs) (hp : Γ.ea = none) : GOkC Γ (gTup K 2 (gCons (gName i) (gCons (gName j) gNil))) (tTup2 i j) vs := fun v σ H μ st env env' d Q w s r e q => by
  have hq : ∀ i a, Γ.ea ≠ some (i, a) := fun i a h => by rw [hp] at h; cases h
  unfold tTup2 at e
  split at e
  · cases e
    cases r with
    | @tup a _ ds h' rs =>
      cases rs with
      | cons r1 rs =>
        cases rs with
        | cons r2 rs =>
          cases rs
          refine ⟨a, _, rfl, SqT.of h', rfl, _, _, rfl, _, _, rfl, rfl, q _ ((s.set r1 i (hq i)).set r2 j (hq j)) ?_⟩
          refine List.ext_getElem? fun k => ?_
          have a1 := wipe_set (σ := σ) (some ‹V›) h
          rw [wipe_get, wipe_get]
          by_cases hk : k ∈ vs
          · rw [if_pos hk, if_pos hk]
            have hlen : (((L2.wipe σ vs).set i (some ‹V›)).set j (some ‹V›)).length = σ.length := by simp [wipe_length]
            by_cases hl : k < σ.length
            · rw [List.getElem?_eq_getElem (by simp [wipe_length]; exact hl), List.getElem?_eq_getElem hl]; rfl
            · rw [List.getElem?_eq_none (by simp [wipe_length]; omega), List.getElem?_eq_none (by omega)]
          · rw [if_neg hk, if_neg hk, List.getElem?_set_ne (fun e : j = k => hk (by rw [← e]; exact h2)), List.getElem?_set_ne (fun e : i = k => hk (by rw [← e]; exact h)), wipe_get, if_neg hk]
  · cases e
end

abbrev W0 : WX := fun _ _ _ _ => False
section
variable {X : Cx} {Γ : Gam} {W : WX} {elt tg iter : Expr} {ifs : List Expr} {scope : Scope} {own : List (Str × Nat)} {pos spos : Pos} {src : EM Src} {g : TG} {t : Tgt} {tt : EM Bool} {te : EM D} {vs : List Nat}
abbrev DTs (X : Cx) (Γ : Gam) (W : WX) (ifs : List Expr) (m : EM Bool) : Prop := PTs X ifs (simX Γ W BRr m)
theorem dts_nil : DTs X Γ W [] tYesD := ⟨fun pins s σ H Q I h => (pts_nil (X := X)).run pins s σ H Q I (by obtain ⟨μ, env, st, w, s, o⟩ := h; exact XO.val o w rfl)⟩
theorem dts_one {c : Expr} {m : EM Bool} (h : DT X Γ W c m) : DTs X Γ W [c] m := pts_one h
theorem XO.w0 {α β : Type} {R : RR α β} {σ σ' : L2.St} {μ : List Addr} {H : Hp} {Q : β → Hp → Prop} : ∀ {o : Out α}, XO Γ W0 σ R μ H Q o → XO Γ W0 σ' R μ H Q o
  | .ok _ _, h => h
  | .exn _ _, h => fun μ' H' a b w => h μ' H' a b w
  | .bad, h => h
theorem turn_sim {n : Nat} {A : Addr} {μ : List Addr} {H : Hp} {σ : L2.St} {env : Env} {st : Store} {Q : Unit → Hp → Prop} (w : Wd Γ μ H st) (s : SL Γ μ H σ env) (hn : μ[n]? = some A)
    (o : XO Γ W0 σ (fun _ _ _ _ => True) μ H Q (compTurn n tt te env st)) :
    simX Γ W0 BRr tt σ H fun b H3 => if b = true then simX Γ W0 (VRr Γ) te σ H3 fun y H4 => ∃ acc, H4 A = some (.lst acc) ∧ acc.length < sizeLine ∧ Q () (upd H4 A (.lst (acc ++ [y]))) else Q () H3 := by
  refine ⟨μ, env, st, w, s, ?_⟩
  unfold compTurn at o
  refine (XO.bind (R := BRr) o).mono ?_
  rintro b H1 ⟨μ1, b', st1, p1, t1, w1, rfl, o1⟩
  by_cases hb : b = true
  · rw [if_pos hb] at o1 ⊢
    refine ⟨μ1, env, st1, w1, s.mono p1 t1, (XO.bind (R := VRr Γ) o1).mono ?_⟩
    rintro y H2 ⟨μ2, d, st2, p2, t2, w2, r2, o2⟩
    have hn2 := pre_get p2 (pre_get p1 hn)
    cases z : st2[n]? with
    | none => rw [z] at o2; exact o2.elim
    | some ob =>
      rw [z] at o2
      cases ob with
      | lst acc =>
        simp only at o2
        split at o2
        · rename_i hl
          obtain ⟨xs, hx, rx⟩ := w2.at hn2 z
          have tt' : TStay H2 (upd H2 A (.lst (xs ++ [y]))) := TStay.at hx (by intro vs e; cases e)
          refine ⟨xs, hx, by rw [rx.length]; exact hl, ?_⟩
          refine o2 μ2 _ () (List.prefix_refl _) tt' (w2.set hn2 hx (by intro vs e; cases e) (by intro o v e; cases e) z (by intro l e; cases e) ⟨_, upd_same, ?_⟩) trivial
          exact (rx.append (.one r2)).mono (List.prefix_refl _) tt'
        · exact o2.elim
      | _ => exact o2.elim
  · rw [if_neg hb] at o1 ⊢
    exact XO.val o1 w1 trivial
theorem comp_sim (hea : Γ.ea = none) (hg : GOkC Γ g t vs) {σ : L2.St} {H : Hp} {Q : VK} (q : simX Γ W (VRr Γ) (eComp src t tt te vs) σ H Q) : tLc (simI Γ W src) g (simX Γ W0 BRr tt) (simX Γ W0 (VRr Γ) te) vs σ H Q := by
  obtain ⟨μ, env, st, w, s, o⟩ := q
  refine ⟨μ, env, st, w, s, ?_⟩
  unfold eComp at o
  cases z : src env st with
  | bad => rw [z] at o; exact o.elim
  | exn c st1 => rw [z] at o; exact o
  | ok sr st1 =>
    rw [z] at o
    intro μ1 H1 J p1 t1 w1 itr A hA
    have pre : μ1 <+: μ1 ++ [A] := List.prefix_append _ _
    have t2 : TStay H1 (upd H1 A (.lst [])) := TStay.new hA
    have w2 : Wd Γ (μ1 ++ [A]) (upd H1 A (.lst [])) (st1 ++ [.lst []]) := w1.new hA ⟨[], upd_same, .nil⟩
    have hn : (μ1 ++ [A])[st1.length]? = some A := by rw [← w1.len]; simp
    have s2 := (((s.mono p1 t1).mono pre t2).wipe hea vs)
    simp only [Out.bind] at o
    have key : ∀ oo : Out Unit, XO Γ W σ (VRr Γ) μ H Q (match oo with | .ok _ st' => .ok (.ref st1.length) st' | _ => .bad) → XO Γ W0 σ (fun _ _ (_ : Unit) (_ : Unit) => True) (μ1 ++ [A]) (upd H1 A (.lst [])) (fun _ H' => Q (.ref A) H') oo := fun oo h => by
      cases oo with
      | ok u st' => exact fun μ' H' v p t w _ => h μ' H' _ ((p1.trans pre).trans p) ((t1.trans t2).trans t) w (.ref (pre_get p hn))
      | _ => exact h.elim
    cases sr with
    | fix l =>
      replace o := key _ o
      refine ⟨fun i m H => m = l.length - i ∧ i ≤ l.length ∧ ∃ μ st, μ1 ++ [A] <+: μ ∧ TStay (upd H1 A (.lst [])) H ∧ Wd Γ μ H st ∧ XO Γ W0 σ (fun _ _ (_ : Unit) (_ : Unit) => True) μ H (fun _ H' => Q (.ref A) H') (compFix t tt te st1.length (wipeD env vs) (l.drop i) st), ⟨l.length, by simp, Nat.zero_le _, μ1 ++ [A], st1 ++ [.lst []], List.prefix_refl _, TStay.refl _, w2, by rw [List.drop_zero]; exact o⟩, ?_⟩
      rintro i m H ⟨rfl, hi, μ, st, p, tt', w, o⟩
      obtain ⟨g1, g2, g3⟩ := itr i μ H (pre.trans p) (t2.trans tt')
      by_cases hlt : i < l.length
      · have hd : l.drop i = l[i] :: l.drop (i + 1) := List.drop_eq_getElem_cons hlt
        refine .inr ⟨g1 hlt, fun H' => ∃ μ st, μ1 ++ [A] <+: μ ∧ TStay (upd H1 A (.lst [])) H' ∧ Wd Γ μ H' st ∧ XO Γ W0 σ (fun _ _ (_ : Unit) (_ : Unit) => True) μ H' (fun _ H' => Q (.ref A) H') (compFix t tt te st1.length (wipeD env vs) (l.drop (i + 1)) st), fun H' h => ⟨l.length - (i + 1), by omega, rfl, hlt, h⟩, fun x H' y => ?_⟩
        obtain ⟨gr, rx⟩ := g3 x H' l[i] y (List.getElem?_eq_getElem hlt)
        rw [hd] at o
        unfold compFix at o
        cases e : t l[i] (wipeD env vs) with
        | none => rw [e] at o; exact o.elim
        | some env' =>
          rw [e] at o
          simp only at o
          have w' := w.grow' gr
          have t0 := tt'.trans gr.ts
          refine hg x σ H' μ st (wipeD env vs) env' l[i] _ w' (s2.mono p t0) rx e fun σ' s' hw => ⟨hw, ?_⟩
          replace o := XO.shift (List.prefix_refl _) gr.ts o
          refine turn_sim (Q := (fun _ H' => ∃ μ st, μ1 ++ [A] <+: μ ∧ TStay (upd H1 A (.lst [])) H' ∧ Wd Γ μ H' st ∧ XO Γ W0 σ (fun _ _ (_ : Unit) (_ : Unit) => True) μ H' (fun _ H' => Q (.ref A) H') (compFix t tt te st1.length (wipeD env vs) (l.drop (i + 1)) st))) w' s' (pre_get p hn) ((XO.bind (R := fun _ _ (_ : Unit) (_ : Unit) => True) (XO.w0 o)).mono ?_)
          · rintro u H3 ⟨μ3, u', st3, p3, t3, w3, _, o3⟩
            refine ⟨μ3, st3, p.trans p3, t0.trans t3, w3, ?_⟩
            exact XO.w0 o3
      · refine .inl ⟨g2 (Nat.le_of_not_lt hlt), ?_⟩
        rw [List.drop_eq_nil_of_le (Nat.le_of_not_lt hlt)] at o
        exact XO.val (v := ()) o w trivial
    | ref m =>
      replace o := key _ o
      refine ⟨fun i k H => ∃ μ st, μ1 ++ [A] <+: μ ∧ TStay (upd H1 A (.lst [])) H ∧ Wd Γ μ H st ∧ XO Γ W0 σ (fun _ _ (_ : Unit) (_ : Unit) => True) μ H (fun _ H' => Q (.ref A) H') (compRef t tt te st1.length (wipeD env vs) m k i st), ⟨fuel, μ1 ++ [A], st1 ++ [.lst []], List.prefix_refl _, TStay.refl _, w2, o⟩, ?_⟩
      rintro i k H ⟨μ, st, p, tt', w, o⟩
      cases k with
      | zero => exact o.elim
      | succ k =>
        unfold compRef at o
        cases zl : seqOf st m with
        | none => rw [zl] at o; exact o.elim
        | some l =>
          rw [zl] at o
          simp only at o
          obtain ⟨g1, g2, g3⟩ := itr i μ H st (pre.trans p) (t2.trans tt') w l zl
          cases zi : l[i]? with
          | none =>
            rw [zi] at o
            exact .inl ⟨g2 (List.getElem?_eq_none_iff.mp zi), XO.val (v := ()) o w trivial⟩
          | some d =>
            rw [zi] at o
            simp only at o
            refine .inr ⟨g1 (List.getElem?_eq_some_iff.mp zi).1, fun H' => ∃ μ st, μ1 ++ [A] <+: μ ∧ TStay (upd H1 A (.lst [])) H' ∧ Wd Γ μ H' st ∧ XO Γ W0 σ (fun _ _ (_ : Unit) (_ : Unit) => True) μ H' (fun _ H' => Q (.ref A) H') (compRef t tt te st1.length (wipeD env vs) m k (i + 1) st), fun H' h => ⟨k, Nat.lt_succ_self k, h⟩, fun x H' y => ?_⟩
            obtain ⟨gr, rx⟩ := g3 x H' d y zi
            cases e : t d (wipeD env vs) with
            | none => rw [e] at o; exact o.elim
            | some env' =>
              rw [e] at o
              simp only at o
              have w' := w.grow' gr
              have t0 := tt'.trans gr.ts
              refine hg x σ H' μ st (wipeD env vs) env' d _ w' (s2.mono p t0) rx e fun σ' s' hw => ⟨hw, ?_⟩
              replace o := XO.shift (List.prefix_refl _) gr.ts o
              refine turn_sim (Q := (fun _ H' => ∃ μ st, μ1 ++ [A] <+: μ ∧ TStay (upd H1 A (.lst [])) H' ∧ Wd Γ μ H' st ∧ XO Γ W0 σ (fun _ _ (_ : Unit) (_ : Unit) => True) μ H' (fun _ H' => Q (.ref A) H') (compRef t tt te st1.length (wipeD env vs) m k (i + 1) st))) w' s' (pre_get p hn) ((XO.bind (R := fun _ _ (_ : Unit) (_ : Unit) => True) (XO.w0 o)).mono ?_)
              · rintro u H3 ⟨μ3, u', st3, p3, t3, w3, _, o3⟩
                refine ⟨μ3, st3, p.trans p3, t0.trans t3, w3, ?_⟩
                exact XO.w0 o3
theorem de_comp (hea : Γ.ea = none) (hc : X.calm = true) (hN : X.N.Nodup) (hi : DI X Γ W tg iter src) (hown : own.map (·.2) = vs) (ok : BlkOk X.N X.env.scope scope own) (hgc : GOkC Γ g t vs)
    (hg : ∀ (s : Shared) (H : Hp) (C : Addr) (cl : List (Str × Addr)) (fp : List Addr), PG (X.blk s H scope (compEnvC scope cl C X.env) fp) tg g) (ht : ∀ (s : Shared) (H : Hp) (C : Addr) (cl : List (Str × Addr)) (fp : List Addr), DTs (X.blk s H scope (compEnvC scope cl C X.env) fp) Γ W0 ifs tt)
    (he : ∀ (s : Shared) (H : Hp) (C : Addr) (cl : List (Str × Addr)) (fp : List Addr), DE (X.blk s H scope (compEnvC scope cl C X.env) fp) Γ W0 elt te) (hs : ∀ x, foldedSetIterable iter X.env x = pure x := by intro _; rfl) :
    DE X Γ W (.ListComp elt [⟨tg, iter, ifs, 0⟩] scope pos) (eComp src t tt te vs) := by
  subst hown
  exact PE.weak (pe_lc hc hN hi ok hg ht he hs) fun _ _ _ q => comp_sim hea hgc q
theorem ds_setComp {i : Nat} {y : Str} {py : Pos} (hea : Γ.ea = none) (hc : X.calm = true) (hN : X.N.Nodup) (hy : X.N[i]? = some y) (hyl : X.env.scope.names.lookup y = some .local) (hsw : swapsWith (.ListComp elt [⟨tg, iter, ifs, 0⟩] scope pos) (some (.Name y py)) spos.line X.env = pure true)
    (hi : DI X Γ W tg iter src) (hown : own.map (·.2) = vs) (ok : BlkOk X.N X.env.scope scope own) (hgc : GOkC Γ g t vs)
    (hg : ∀ (s : Shared) (H : Hp) (C : Addr) (cl : List (Str × Addr)) (fp : List Addr), PG (X.blk s H scope (compEnvC scope cl C X.env) fp) tg g) (ht : ∀ (s : Shared) (H : Hp) (C : Addr) (cl : List (Str × Addr)) (fp : List Addr), DTs (X.blk s H scope (compEnvC scope cl C X.env) fp) Γ W0 ifs tt)
    (he : ∀ (s : Shared) (H : Hp) (C : Addr) (cl : List (Str × Addr)) (fp : List Addr), DE (X.blk s H scope (compEnvC scope cl C X.env) fp) Γ W0 elt te) (hs : ∀ x, foldedSetIterable iter X.env x = pure x := by intro _; rfl) :
    DS X Γ W (.Assign [.Name y py] (.ListComp elt [⟨tg, iter, ifs, 0⟩] scope pos) spos) (sSet i (eComp src t tt te vs)) := by
  subst hown
  refine PS.weak (ps_setLc hc hN hy hyl hsw hi ok hg ht he hs) fun E σ H q => ?_
  obtain ⟨μ, env, st, w, s, o⟩ := q
  refine comp_sim hea hgc (Q := fun x H1 => E.nx (σ.set i (some x)) H1) ⟨μ, env, st, w, s, (SO.ex (R := VRr Γ) s o).mono ?_⟩
  rintro v H1 ⟨μ1, d, st1, p, t1, w1, r, o1⟩
  exact o1.nx' w1 ((s.mono p t1).set r i fun a h => by rw [hea] at h; cases h)
end
end DL
namespace DL
open PySem L2 PySem.Spec PyProof.Rows
theorem tuple_mulS (l : Addr) (items : Array Value) (n : Nat) (dd : Option Addr) (sl : Array (Option Value)) (x : Int) (u : Tok) (c0 : (decide (x < -(2 ^ 63)) || decide (x ≥ 2 ^ 63)) = false) (c1 : (items.isEmpty || x == 1) = true) :
    Meets (Builtin.«tuple.__mul__» ⟨[.ref l, .int x u], []⟩) (fun _ R s => s.heap.get? l = some { cls := .type "tuple", dict := dd, data := .seq items n, slots := sl } ∧ R (.ok (.ret (Value.ref l))) s) :=
  .of_wp fun prog w A R s h => by
    obtain ⟨hp, g, d, tk, os⟩ := s
    obtain ⟨hl, h⟩ := h
    have f1 := AutoSeq1.idx_int
    wp_walk using wpAny_loadPart' hl
    repeat (first
      | (refine wpAny_ite_false (decide_eq_false (by rw [c0]; exact Bool.false_ne_true)) ?_; wp_walk using wpAny_loadPart' hl)
      | (refine wpAny_ite_true (decide_eq_true c1) ?_; wp_walk using wpAny_loadPart' hl))
    exact ⟨_, rfl, h⟩
theorem tuple_mulZ (l : Addr) (items : Array Value) (n : Nat) (dd : Option Addr) (sl : Array (Option Value)) (x : Int) (u : Tok) (c0 : (decide (x < -(2 ^ 63)) || decide (x ≥ 2 ^ 63)) = false) (c1 : (items.isEmpty || x == 1) = false) (c2 : (decide (x ≤ 0) || items.isEmpty) = true) :
    Meets (Builtin.«tuple.__mul__» ⟨[.ref l, .int x u], []⟩) (fun _ R s => s.heap.get? l = some { cls := .type "tuple", dict := dd, data := .seq items n, slots := sl } ∧
      R (.ok (.ret (Value.ref s.heap.objs.size))) { s with heap := s.heap.push { cls := Value.type "tuple", data := Data.seq #[] }, toks := s.toks }) :=
  .of_wp fun prog w A R s h => by
    obtain ⟨hp, g, d, tk, os⟩ := s
    obtain ⟨hl, h⟩ := h
    have f1 := AutoSeq1.idx_int
    wp_walk using wpAny_loadPart' hl
    repeat (first
      | (refine wpAny_ite_false (decide_eq_false (by rw [c0]; exact Bool.false_ne_true)) ?_; wp_walk using wpAny_loadPart' hl)
      | (refine wpAny_ite_false (decide_eq_false (by rw [c1]; exact Bool.false_ne_true)) ?_; wp_walk using wpAny_loadPart' hl)
      | (refine wpAny_ite_true (decide_eq_true c2) ?_; wp_walk using wpAny_loadPart' hl))
    exact ⟨_, rfl, h⟩
def rRep01 (K : PySem.W.Frag) : R2 := fun x y H Q => ∃ l k xs, x = .ref l ∧ y = .int k ∧ SqT K H l xs ∧ ((k = 1 ∧ Q (.ref l) H) ∨ (k = 0 ∧ xs ≠ [] ∧ ∀ p, H p = none → Q (.ref p) (upd H p (.tup []))))
theorem op_rep01 {X : Cx} : OpR X (binaryOp .Mult) (rRep01 X.K) := by
  intro pins s σ H x y v u Q I rx ry h
  obtain ⟨l, k, xs, rfl, rfl, hT, h⟩ := h
  cases rx
  obtain ⟨t, rfl⟩ := ry
  obtain ⟨its, r, ⟨⟨cls, dd, data, sl⟩, ho, hc, n, hd⟩, hs⟩ := I.tuple hT
  simp only at hc hd
  subst hc hd
  have hle : its.length = xs.length := r.length.symm
  rcases h with ⟨rfl, q⟩ | ⟨rfl, hne, q⟩
  · refine wpAny_binaryOp_repeat_ref (T := "tuple") (U := "int") (by decide) ⟨_, ho, rfl⟩ (fun s' => typeIs_int s' 1 t) noFill_tuple_mul F.fills_int_mul F.slot_int_rmul repeat_tuple F.slot_int_index.lookup
      (call_meets F.slot_int_rmul (typeIs_int s 1 t) F.entry_int_rmul (F.args_int_rmul_2 _ _) (int_rmul_tuple 1 t l its.toArray n dd sl)
        ⟨ho, rfl, ⟨_, ho, rfl⟩, call_meets F.slot_tuple_mul ⟨_, ho, rfl⟩ F.entry_tuple_mul (F.args_tuple_mul_2 _ _) (tuple_mulS l its.toArray n dd sl 1 t (by decide) (by simp)) ⟨ho, ?_⟩⟩)
    exact ⟨.ref l, H, I, rfl, q⟩
  · have hn : its ≠ [] := fun e => hne (by
      rw [e] at hle
      exact List.eq_nil_of_length_eq_zero hle.symm)
    have hi : its.toArray.isEmpty = false := by
      cases its with
      | nil => exact absurd rfl hn
      | cons a b => rfl
    refine wpAny_binaryOp_repeat_ref (T := "tuple") (U := "int") (by decide) ⟨_, ho, rfl⟩ (fun s' => typeIs_int s' 0 t) noFill_tuple_mul F.fills_int_mul F.slot_int_rmul repeat_tuple F.slot_int_index.lookup
      (call_meets F.slot_int_rmul (typeIs_int s 0 t) F.entry_int_rmul (F.args_int_rmul_2 _ _) (int_rmul_tuple 0 t l its.toArray n dd sl)
        ⟨ho, rfl, ⟨_, ho, rfl⟩, call_meets F.slot_tuple_mul ⟨_, ho, rfl⟩ F.entry_tuple_mul (F.args_tuple_mul_2 _ _) (tuple_mulZ l its.toArray n dd sl 0 t (by decide) (by rw [hi]; rfl) (by rfl)) ⟨ho, ?_⟩⟩)
    refine ⟨.ref s.heap.objs.size, _, I.laid (t' := s.toks) (o := .tup []) (fun b ob q => Heap.get?_push_of_some _ q) (Nat.le_refl _) ?_, rfl, q _ (I.hok.fresh (Nat.le_refl _))⟩
    exact ⟨by decide, _, .nil, IsTup.new _ _⟩
end DL
namespace DL
open PySem L2 PySem.Spec PyProof.Rows
theorem fold_rep {α : Type} (a : List α) : ∀ (n : Nat) (acc : List α), (List.replicate n a.toArray).foldl (· ++ ·) acc.toArray = (acc ++ (List.replicate n a).flatten).toArray
  | 0, acc => by simp
  | n + 1, acc => by
    rw [List.replicate_succ, List.foldl_cons, List.replicate_succ, List.flatten_cons]
    have := fold_rep a n (acc ++ a)
    rw [← List.append_assoc]
    simpa using this
theorem txt_mul (s : List Nat) (k : Int) : Txt.mul (sOf s) k = sOf (List.replicate k.toNat s).flatten := by
  unfold Txt.mul
  split
  · rename_i h
    have : k.toNat = 0 := by omega
    rw [this]; rfl
  · rename_i h
    split
    · rename_i h2
      by_cases h3 : k = 1
      · subst h3; simp
      · have : s = [] := by simpa [h3, sOf, Str.length] using h2
        subst this; simp
    · have := fold_rep s k.toNat []
      simp at this
      unfold sOf
      congr 1
theorem op_rep_str {X : Cx} : OpR X (binaryOp .Mult) (fun x y H Q => ∃ (s : List Nat) (k : Int), x = .str (sOf s) ∧ y = .int k ∧ 0 ≤ k ∧ k ≤ 1000000 ∧ s.length * k.toNat ≤ 1000000 ∧ Q (.str (sOf (List.replicate k.toNat s).flatten)) H) := by
  intro pins s σ H x y v u Q I rx ry h
  obtain ⟨a, k, rfl, rfl, h0, h1, hz, q⟩ := h
  obtain ⟨t, rfl⟩ := rx
  obtain ⟨t2, rfl⟩ := ry
  refine PySem.SB.mul ⟨?_, fun g1 g2 => ?_, fun g1 g2 => ?_⟩ fun t' k' => ?_
  · rw [decide_eq_false (by omega), decide_eq_false (by omega)]; rfl
  · have hl : (sOf a).length = a.length := by simp [sOf, Str.length]
    rw [hl]
    have hk : 0 < k := by omega
    have : (a.length : Int) * k ≤ 2 ^ 63 - 1 := by
      have e : ((a.length * k.toNat : Nat) : Int) = (a.length : Int) * k := by rw [Int.natCast_mul, Int.toNat_of_nonneg h0]
      omega
    have := (Int.le_ediv_iff_mul_le hk).mpr this
    omega
  · have hl : (sOf a).length = a.length := by simp [sOf, Str.length]
    rw [hl]
    unfold PySem.Builtin.Str.tooLong
    exact decide_eq_false (by rw [sizeLine_eq]; omega)
  · rw [txt_mul]
    exact ⟨.str _, H, I.tok _, ⟨t', rfl⟩, q⟩
end DL
/-! DL: operators, displays, subscripts. -/
namespace DL
open PySem L2
open PyProof.Rows (envOfC)

abbrev OpT := D → D → Store → Option (D × Store)
section
variable {X : Cx} {Γ : Gam} {W : WX} {a b e : Expr} {es : List Expr} {ma mb m : EM D} {ms : EM (List D)} {pos p2 : Pos}
theorem OO.new {R : RR D V} {μ : List Addr} {H : Hp} {Q : VK} {st : Store} {ob : Ob} {ho : HO} (h : OO Γ (VRr Γ) μ H Q (some (.ref st.length, st ++ [ob]))) (w : Wd Γ μ H st) {p : Addr} (hp : H p = none) (r : OR Γ (μ ++ [p]) (upd H p ho) p ob) : Q (.ref p) (upd H p ho) :=
  h (μ ++ [p]) _ _ (List.prefix_append _ _) (TStay.new hp) (w.new hp r) (.ref (by rw [← w.len]; simp))
theorem OO.tupN {μ : List Addr} {H : Hp} {Q : VK} {st : Store} {ds : List D} {vs : List V} (h : OO Γ (VRr Γ) μ H Q (some (.tup ds, st))) (w : Wd Γ μ H st) {p : Addr} (hp : H p = none) (r : VRs Γ μ H vs ds) : Q (.ref p) (upd H p (.tup vs)) :=
  h μ _ _ (List.prefix_refl _) (TStay.new hp) (w.grow (grow_new hp)) (.tup upd_same (r.mono (List.prefix_refl _) (TStay.new hp)))

/-! ### + - * // % ** -/
def oAdd : OpT := fun a b st => match a, b with
  | .int i, .int j => some (.int (i + j), st)
  | .str s, .str t => if s.length + t.length ≤ sizeLine then some (.str (s ++ t), st) else none
  | .tup l, .tup m => if l.length + m.length ≤ sizeLine then some (.tup (l ++ m), st) else none
  | .ref n, .ref k => match st[n]?, st[k]? with
    | some (.lst l), some (.lst m) => if l.length + m.length ≤ sizeLine then some (.ref st.length, st ++ [.lst (l ++ m)]) else none
    | _, _ => none
  | _, _ => none
def oSub : OpT := fun a b st => match a, b with
  | .int i, .int j => some (.int (i - j), st)
  | _, _ => none
def oMul : OpT := fun a b st => match a, b with
  | .int i, .int j => if (-(2 ^ 64) < i ∧ i < 2 ^ 64) ∨ (-(2 ^ 64) < j ∧ j < 2 ^ 64) then some (.int (i * j), st) else none
  | .ref n, .int k => match st[n]? with
    | some (.lst l) => if -(2 ^ 63) ≤ k ∧ k < 2 ^ 63 ∧ l.length * k.toNat ≤ sizeLine then some (.ref st.length, st ++ [.lst (List.replicate k.toNat l).flatten]) else none
    | _ => none
  | .str s, .int k => if 0 ≤ k ∧ k ≤ 1000000 ∧ s.length * k.toNat ≤ 1000000 then some (.str (List.replicate k.toNat s).flatten, st) else none
  | .tup l, .int k => if k = 1 then some (.tup l, st) else if k = 0 ∧ l ≠ [] then some (.tup [], st) else none
  | _, _ => none
def oMod : OpT := fun a b st => match a, b with
  | .int i, .int j => if 0 < j then some (.int (i % j), st) else none
  | _, _ => none
def oDiv : OpT := fun a b st => match a, b with
  | .int i, .int j => if 0 < j ∧ j.natAbs.log2 < 9000 then some (.int (i / j), st) else none
  | _, _ => none
def oPow : OpT := fun a b st => match a, b with
  | .int i, .int j => if 0 ≤ j ∧ j ≤ 1000000 ∧ i.natAbs < 2 ^ 64 then some (.int (i ^ j.toNat), st) else none
  | _, _ => none
theorem sOf_len (s : List Nat) : (sOf s).length = s.length := by simp [Str.length]
theorem sOf_app (s t : List Nat) : sOf s ++ sOf t = sOf (s ++ t) := TL.ext_tl (by rw [TL.tl_append])
theorem vrs_nil {μ : List Addr} {H : Hp} {vs : List V} {ds : List D} (r : VRs Γ μ H vs ds) : vs = [] ↔ ds = [] := by
  cases r <;> simp
theorem VRs.flat {μ : List Addr} {H : Hp} {vs : List V} {ds : List D} (r : VRs Γ μ H vs ds) : ∀ n, VRs Γ μ H (List.replicate n vs).flatten (List.replicate n ds).flatten
  | 0 => .nil
  | n + 1 => by rw [List.replicate_succ, List.replicate_succ]; exact r.append (VRs.flat r n)
theorem od_add (hK : Γ.K = X.K) : OpD X Γ (binaryOp .Add) oAdd := by
  intro pins s σ H x y v u Q I rx ry h
  obtain ⟨μ, st, a, b, w, ra, rb, o⟩ := h
  unfold oAdd at o
  split at o
  · cases ra; cases rb
    exact op_add pins s σ H _ _ v u Q I rx ry ⟨_, _, rfl, rfl, o.val w (.int _)⟩
  · split at o
    · rename_i hl
      cases ra; cases rb
      refine op_add_str pins s σ H _ _ v u Q I rx ry ⟨_, _, rfl, rfl, by rw [sOf_len, sOf_len]; exact hl, ?_⟩
      rw [sOf_app]; exact o.val w (.str _)
    · exact o.elim
  · split at o
    · rename_i l m hl
      cases ra with
      | tup h1 r1 =>
        cases rb with
        | tup h2 r2 =>
          refine op_catA pins s σ H _ _ v u Q I rx ry ⟨_, _, _, _, rfl, rfl, SqT.of h1, SqT.of h2, by rw [r1.length, r2.length]; exact hl, fun z => ?_, fun z z2 => ?_, fun z z2 p hp => ?_⟩
          · have := (vrs_nil r1).mp z
            subst this
            exact o.val w (.tup h2 r2)
          · have := (vrs_nil r2).mp z2
            subst this
            rw [List.append_nil] at o
            exact o.val w (.tup h1 r1)
          · exact o.tupN w hp (r1.append r2)
    · exact o.elim
  · rename_i n k
    split at o
    · rename_i l m e1 e2
      split at o
      · rename_i hl
        cases ra with
        | ref h1 =>
          cases rb with
          | ref h2 =>
            obtain ⟨xs, f1, r1⟩ := w.at h1 e1
            obtain ⟨ys, f2, r2⟩ := w.at h2 e2
            refine op_cat pins s σ H _ _ v u Q I rx ry ⟨_, _, _, _, rfl, rfl, f1, f2, by rw [r1.length, r2.length]; exact hl, fun p hp => ?_⟩
            exact o.new (R := VRr Γ) w hp ⟨_, upd_same, (r1.append r2).mono (List.prefix_append _ _) (TStay.new hp)⟩
      · exact o.elim
    · exact o.elim
  · exact o.elim
theorem od_sub : OpD X Γ (binaryOp .Sub) oSub := by
  intro pins s σ H x y v u Q I rx ry h
  obtain ⟨μ, st, a, b, w, ra, rb, o⟩ := h
  unfold oSub at o
  split at o
  · cases ra; cases rb
    exact op_sub pins s σ H _ _ v u Q I rx ry ⟨_, _, rfl, rfl, o.val w (.int _)⟩
  · exact o.elim
theorem od_mul : OpD X Γ (binaryOp .Mult) oMul := by
  intro pins s σ H x y v u Q I rx ry h
  obtain ⟨μ, st, a, b, w, ra, rb, o⟩ := h
  unfold oMul at o
  split at o
  · split at o
    · rename_i hh
      cases ra; cases rb
      exact op_mul pins s σ H _ _ v u Q I rx ry ⟨_, _, rfl, rfl, hh, o.val w (.int _)⟩
    · exact o.elim
  · split at o
    · rename_i l e1
      split at o
      · rename_i hh
        cases ra with
        | ref h1 =>
          cases rb
          obtain ⟨xs, f1, r1⟩ := w.at h1 e1
          refine op_rep pins s σ H _ _ v u Q I rx ry ⟨_, _, _, rfl, rfl, f1, hh.1, hh.2.1, by rw [r1.length]; exact hh.2.2, fun p hp => ?_⟩
          exact o.new (R := VRr Γ) w hp ⟨_, upd_same, (r1.flat _).mono (List.prefix_append _ _) (TStay.new hp)⟩
      · exact o.elim
    · exact o.elim
  · split at o
    · rename_i hh
      cases ra; cases rb
      exact op_rep_str pins s σ H _ _ v u Q I rx ry ⟨_, _, rfl, rfl, hh.1, hh.2.1, hh.2.2, o.val w (.str _)⟩
    · exact o.elim
  · rename_i l k
    cases ra with
    | tup h1 r1 =>
      cases rb
      split at o
      · rename_i hk
        subst hk
        exact op_rep01 pins s σ H _ _ v u Q I rx ry ⟨_, _, _, rfl, rfl, SqT.of h1, .inl ⟨rfl, o.val w (.tup h1 r1)⟩⟩
      · split at o
        · rename_i hk
          obtain ⟨hk, hne⟩ := hk
          subst hk
          exact op_rep01 pins s σ H _ _ v u Q I rx ry ⟨_, _, _, rfl, rfl, SqT.of h1, .inr ⟨rfl, fun e => hne ((vrs_nil r1).mp e), fun p hp => o.tupN w hp .nil⟩⟩
        · exact o.elim
  · exact o.elim
theorem od_mod : OpD X Γ (binaryOp .Mod) oMod := by
  intro pins s σ H x y v u Q I rx ry h
  obtain ⟨μ, st, a, b, w, ra, rb, o⟩ := h
  unfold oMod at o
  split at o
  · split at o
    · rename_i hh
      cases ra; cases rb
      exact op_mod pins s σ H _ _ v u Q I rx ry ⟨_, _, rfl, rfl, hh, o.val w (.int _)⟩
    · exact o.elim
  · exact o.elim
theorem od_div : OpD X Γ (binaryOp .FloorDiv) oDiv := by
  intro pins s σ H x y v u Q I rx ry h
  obtain ⟨μ, st, a, b, w, ra, rb, o⟩ := h
  unfold oDiv at o
  split at o
  · split at o
    · rename_i hh
      cases ra; cases rb
      exact op_fdivW pins s σ H _ _ v u Q I rx ry ⟨_, _, rfl, rfl, hh, o.val w (.int _)⟩
    · exact o.elim
  · exact o.elim
theorem od_pow : OpD X Γ (binaryOp .Pow) oPow := by
  intro pins s σ H x y v u Q I rx ry h
  obtain ⟨μ, st, a, b, w, ra, rb, o⟩ := h
  unfold oPow at o
  split at o
  · split at o
    · rename_i hh
      cases ra; cases rb
      exact op_pow pins s σ H _ _ v u Q I rx ry ⟨_, _, rfl, rfl, hh, o.val w (.int _)⟩
    · exact o.elim
  · exact o.elim
def oNeg : D → Store → Option (D × Store) := fun a st => match a with
  | .int i => some (.int (-i), st)
  | _ => none
theorem ud_neg : UnD X Γ (unaryOp .USub) oNeg := by
  intro pins s σ H x v Q I rx h
  obtain ⟨μ, st, a, w, ra, o⟩ := h
  unfold oNeg at o
  split at o
  · cases ra
    exact un_neg pins s σ H _ v Q I rx ⟨_, rfl, o.val w (.int _)⟩
  · exact o.elim

/-! ### < <= > >= -/
def oCmp (p : Int → Int → Bool) : OpT := fun a b st => match a, b with
  | .int i, .int j => some (.bl (p i j), st)
  | _, _ => none
def oLt : OpT := oCmp fun i j => decide (i < j)
def oLe : OpT := oCmp fun i j => decide (i ≤ j)
def oGt : OpT := oCmp fun i j => decide (j < i)
def oGe : OpT := oCmp fun i j => decide (j ≤ i)
theorem od_cmp {f : Value → Value → Sem Value} {p : Int → Int → Bool} (h : OpR X f (rI0 fun i j => .bl (p i j))) : OpD X Γ f (oCmp p) := by
  intro pins s σ H x y v u Q I rx ry q
  obtain ⟨μ, st, a, b, w, ra, rb, o⟩ := q
  unfold oCmp at o
  split at o
  · cases ra; cases rb
    exact h pins s σ H _ _ v u Q I rx ry ⟨_, _, rfl, rfl, o.val w (.bl _)⟩
  · exact o.elim
theorem od_lt : OpD X Γ (compareOp .Lt) oLt := od_cmp op_lt
theorem od_le : OpD X Γ (compareOp .LtE) oLe := od_cmp op_le
theorem od_gt : OpD X Γ (compareOp .Gt) oGt := od_cmp op_gt
theorem od_ge : OpD X Γ (compareOp .GtE) oGe := od_cmp op_ge

/-! ### == -/
def toPy (st : Store) : Nat → D → Option PyData
  | _, .non => some .none
  | _, .bl b => some (.bool b)
  | _, .int i => some (.int i)
  | _, .str s => some (.str (sOf s))
  | k + 1, .tup l => (l.mapM (toPy st k)).map .tuple
  | k + 1, .ref n => (seqOf st n).bind fun l => (l.mapM (toPy st k)).map .list
  | 0, _ => none
def scalD : D → D → Option Bool
  | .non, .non => some true
  | .bl a, .bl b => some (decide (a = b))
  | .int a, .int b => some (decide (a = b))
  | .str a, .str b => some (decide (a = b))
  | .non, .bl _ | .non, .int _ | .non, .str _ | .bl _, .non | .int _, .non | .str _, .non => some false
  | .int _, .str _ | .str _, .int _ | .bl _, .str _ | .str _, .bl _ => some false
  | _, _ => none
def eqD (a b : D) (st : Store) : Option Bool := match scalD a b with
  | some c => some c
  | none => match toPy st 8 a, toPy st 8 b with
    | some p, some q => if SeqAt.shaped p = true ∧ SeqAt.shaped q = true then some (PyData.eqv p q) else none
    | _, _ => none
def oEq : OpT := fun a b st => (eqD a b st).map fun c => (.bl c, st)
def oNe : OpT := fun a b st => (eqD a b st).map fun c => (.bl (!c), st)
theorem dp_all {f : D → Option PyData} {μ : List Addr} {H : Hp} (hf : ∀ d v p, f d = some p → VR Γ μ H v d → Dp X.K H v p) : ∀ {l : List D} {vs : List V} {ps : List PyData}, l.mapM f = some ps → VRs Γ μ H vs l → DpAll X.K H vs ps
  | [], _, _, e, r => by cases r; simp at e; subst e; exact .nil
  | d :: l, _, _, e, r => by
    cases r with
    | cons r rs =>
      rw [List.mapM_cons] at e
      cases z : f d with
      | none => rw [z] at e; cases e
      | some q =>
        rw [z] at e
        cases z2 : l.mapM f with
        | none => rw [z2] at e; cases e
        | some qs =>
          rw [z2] at e
          cases e
          exact .cons (hf _ _ _ z r) (dp_all hf z2 rs)
theorem dp_of (hK : Γ.K = X.K) {μ : List Addr} {H : Hp} {st : Store} (w : Wd Γ μ H st) : ∀ (k : Nat) (d : D) (v : V) (p : PyData), toPy st k d = some p → VR Γ μ H v d → Dp X.K H v p
  | k, .non, _, _, e, r => by cases k <;> (simp only [toPy] at e; cases e; cases r; exact .non)
  | k, .bl b, _, _, e, r => by cases k <;> (simp only [toPy] at e; cases e; cases r; exact .bl b)
  | k, .int b, _, _, e, r => by cases k <;> (simp only [toPy] at e; cases e; cases r; exact .int b)
  | k, .str b, _, _, e, r => by cases k <;> (simp only [toPy] at e; cases e; cases r; exact .str _)
  | 0, .tup l, _, _, e, _ => by simp [toPy] at e
  | 0, .ref l, _, _, e, _ => by simp [toPy] at e
  | k + 1, .tup l, _, _, e, r => by
    simp only [toPy] at e
    cases z : l.mapM (toPy st k) with
    | none => rw [z] at e; cases e
    | some ps =>
      rw [z] at e
      cases e
      cases r with
      | tup h rs => exact .tup (SqT.of h) (dp_all (fun d v p => dp_of hK w k d v p) z rs)
  | k + 1, .ref n, _, _, e, r => by
    simp only [toPy] at e
    cases z0 : seqOf st n with
    | none => rw [z0] at e; cases e
    | some l =>
      rw [z0] at e
      simp only [Option.bind_some] at e
      cases z : l.mapM (toPy st k) with
      | none => rw [z] at e; cases e
      | some ps =>
        rw [z] at e
        cases e
        cases r with
        | ref h =>
          obtain ⟨vs, hs, rs⟩ := seqOf_sq w z0 h
          exact .lst (hK ▸ hs) (dp_all (fun d v p => dp_of hK w k d v p) z rs)
theorem scal_of {μ : List Addr} {H : Hp} {x y : V} : ∀ {a b : D} {c : Bool}, scalD a b = some c → VR Γ μ H x a → VR Γ μ H y b → scal x y = true ∧ decide (x = y) = c := by
  intro a b c e r1 r2
  cases r1 <;> cases r2 <;> simp only [scalD] at e <;> first
    | (cases e; done)
    | (cases e; refine ⟨rfl, ?_⟩; first | rfl | simp)
    | (cases e; refine ⟨rfl, ?_⟩; rename_i s t; by_cases h : s = t
       · subst h; simp
       · rw [decide_eq_false h, decide_eq_false]; intro q; injection q with q; exact h (sOf_inj q))
theorem od_eq (hK : Γ.K = X.K) (hu : X.A.units + 64 < cLine) : OpD X Γ (compareOp .Eq) oEq := by
  intro pins s σ H x y v u Q I rx ry h
  obtain ⟨μ, st, a, b, w, ra, rb, o⟩ := h
  unfold oEq eqD at o
  cases z : scalD a b with
  | some c =>
    rw [z] at o
    obtain ⟨h1, h2⟩ := scal_of z ra rb
    exact op_eq pins s σ H _ _ v u Q I rx ry ⟨h1, by rw [h2]; exact OO.val (d := D.bl c) o w (.bl _)⟩
  | none =>
    rw [z] at o
    simp only at o
    cases z1 : toPy st 8 a with
    | none => rw [z1] at o; exact o.elim
    | some p =>
      cases z2 : toPy st 8 b with
      | none => rw [z1, z2] at o; exact o.elim
      | some q =>
        rw [z1, z2] at o
        simp only at o
        split at o
        · rename_i hs
          exact op_eqD hu pins s σ H _ _ v u Q I rx ry ⟨p, q, dp_of hK w 8 _ _ _ z1 ra, dp_of hK w 8 _ _ _ z2 rb, hs.1, hs.2, OO.val (d := D.bl _) o w (.bl _)⟩
        · exact o.elim
theorem od_ne (hK : Γ.K = X.K) (hu : X.A.units + 64 < cLine) : OpD X Γ (compareOp .NotEq) oNe := by
  intro pins s σ H x y v u Q I rx ry h
  obtain ⟨μ, st, a, b, w, ra, rb, o⟩ := h
  unfold oNe eqD at o
  cases z : scalD a b with
  | some c =>
    rw [z] at o
    obtain ⟨h1, h2⟩ := scal_of z ra rb
    exact op_ne pins s σ H _ _ v u Q I rx ry ⟨h1, by rw [h2]; exact OO.val (d := D.bl _) o w (.bl _)⟩
  | none =>
    rw [z] at o
    simp only at o
    cases z1 : toPy st 8 a with
    | none => rw [z1] at o; exact o.elim
    | some p =>
      cases z2 : toPy st 8 b with
      | none => rw [z1, z2] at o; exact o.elim
      | some q =>
        rw [z1, z2] at o
        simp only at o
        split at o
        · rename_i hs
          exact op_neD hu pins s σ H _ _ v u Q I rx ry ⟨p, q, dp_of hK w 8 _ _ _ z1 ra, dp_of hK w 8 _ _ _ z2 rb, hs.1, hs.2, OO.val (d := D.bl _) o w (.bl _)⟩
        · exact o.elim

/-! ### is None, is True .. -/
def oIsN : OpT := fun a b st => match b with
  | .non => some (.bl (match a with | .non => true | _ => false), st)
  | .bl k => match a with
    | .bl c => some (.bl (decide (c = k)), st)
    | _ => none
  | _ => none
def oNotN : OpT := fun a b st => match b with
  | .non => some (.bl (match a with | .non => false | _ => true), st)
  | .bl k => match a with
    | .bl c => some (.bl (!decide (c = k)), st)
    | _ => none
  | _ => none
theorem od_is : OpD X Γ (compareOp .Is) oIsN := by
  intro pins s σ H x y v u Q I rx ry h
  obtain ⟨μ, st, a, b, w, ra, rb, o⟩ := h
  unfold oIsN at o
  split at o
  · cases rb
    refine op_isN pins s σ H _ _ v u Q I rx ry ⟨rfl, ?_⟩
    have := OO.val (v := V.bl (decide (x = .non))) o w (by cases ra <;> exact .bl _)
    exact this
  · split at o
    · cases ra; cases rb
      exact L2.op_is_bl pins s σ H _ _ v u Q I rx ry ⟨_, _, rfl, rfl, OO.val o w (.bl _)⟩
    · exact o.elim
  · exact o.elim
theorem od_isnot : OpD X Γ (compareOp .IsNot) oNotN := by
  intro pins s σ H x y v u Q I rx ry h
  obtain ⟨μ, st, a, b, w, ra, rb, o⟩ := h
  unfold oNotN at o
  split at o
  · cases rb
    refine op_notN pins s σ H _ _ v u Q I rx ry ⟨rfl, ?_⟩
    have := OO.val (v := V.bl (!decide (x = .non))) o w (by cases ra <;> exact .bl _)
    exact this
  · split at o
    · cases ra; cases rb
      exact L2.op_isnot_bl pins s σ H _ _ v u Q I rx ry ⟨_, _, rfl, rfl, OO.val o w (.bl _)⟩
    · exact o.elim
  · exact o.elim
end
end DL
/-! DL: displays, subscripts, in, len, truth, chains. -/
namespace DL
open PySem L2
open PyProof.Rows (envOfC)

section
variable {X : Cx} {Γ : Gam} {W : WX} {a b c e o i : Expr} {es : List Expr} {ma mb mc m mo mi mv : EM D} {ms : EM (List D)} {pos p2 pos' : Pos}
/-! ### displays -/
def eTup (ms : EM (List D)) : EM D := e1 (fun ds st => if ds.length < 1000 then some (.tup ds, st) else none) ms
def eLst (ms : EM (List D)) : EM D := e1 (fun ds st => if ds.length < 1000 then some (.ref st.length, st ++ [Ob.lst ds]) else none) ms
def eDic : EM D := fun _ st => .ok (.ref st.length) (st ++ [.dic []])
def eDtp : EM D := fun _ st => .ok (.ref st.length) (st ++ [.dtp []])
theorem small_line {n : Nat} (h : n < 1000) : n ≤ sizeLine := Nat.le_of_lt (small1000 (Nat.le_of_lt h))
theorem de_tup {x1} (h : DA X Γ W es ms) : DE X Γ W (.Tuple es x1 pos) (eTup ms) := by
  refine PE.weak (pe_tup h) fun σ H Q q => ?_
  obtain ⟨μ, env, st, w, s, o⟩ := q
  refine ⟨μ, env, st, w, s, (XO.bind (R := VRsr Γ) o).mono ?_⟩
  rintro v H1 ⟨μ1, ds, st1, p, t1, w1, r, o1⟩
  simp only at o1
  split at o1
  · rename_i hl
    exact ⟨by rw [r.length]; exact small_line hl, fun p hp => OO.tupN (XO.oo (o := some (_, _)) o1) w1 hp r⟩
  · exact o1.elim
theorem de_lst (h : DA X Γ W es ms) : DE X Γ W (.List es pos) (eLst ms) := by
  refine PE.weak (pe_lst h) fun σ H Q q => ?_
  obtain ⟨μ, env, st, w, s, o⟩ := q
  refine ⟨μ, env, st, w, s, (XO.bind (R := VRsr Γ) o).mono ?_⟩
  rintro v H1 ⟨μ1, ds, st1, p, t1, w1, r, o1⟩
  simp only at o1
  split at o1
  · rename_i hl
    exact ⟨by rw [r.length]; exact small_line hl, fun p hp => OO.new (R := VRr Γ) (XO.oo (o := some (_, _)) o1) w1 hp ⟨_, upd_same, r.mono (List.prefix_append _ _) (TStay.new hp)⟩⟩
  · exact o1.elim
theorem de_dic : DE X Γ W (.Dict [] [] pos) eDic := PE.weak pe_dnewK fun σ H Q ⟨μ, env, st, w, s, o⟩ p hp => OO.new (R := VRr Γ) (XO.oo (o := some (_, _)) o) w hp ⟨[], upd_same, trivial⟩
theorem de_dtp : DE X Γ W (.Dict [] [] pos) eDtp := PE.weak pe_dnewT fun σ H Q ⟨μ, env, st, w, s, o⟩ p hp => OO.new (R := VRr Γ) (XO.oo (o := some (_, _)) o) w hp ⟨[], upd_same, trivial⟩

/-! ### one of two readings -/
theorem de_e2or {f g h : OpT} (h1 : DE X Γ W e (e2 f ma mb)) (h2 : DE X Γ W e (e2 g ma mb)) (hh : ∀ a b st, h a b st = f a b st ∨ h a b st = g a b st) : DE X Γ W e (e2 h ma mb) := by
  refine ⟨fun pins s σ H Q I q => ?_⟩
  obtain ⟨μ, env, st, w, s', o⟩ := q
  unfold e2 at o
  cases z : ma env st with
  | bad => rw [z] at o; exact o.elim
  | exn c st1 => exact h1.run pins s σ H Q I ⟨μ, env, st, w, s', by unfold e2; rw [z] at o ⊢; exact o⟩
  | ok d st1 =>
    rw [z] at o
    simp only [Out.bind] at o
    cases z2 : mb env st1 with
    | bad => rw [z2] at o; exact o.elim
    | exn c st2 => exact h1.run pins s σ H Q I ⟨μ, env, st, w, s', by unfold e2; rw [z]; simp only [Out.bind]; rw [z2] at o ⊢; exact o⟩
    | ok d2 st2 =>
      rw [z2] at o
      simp only at o
      rcases hh d d2 st2 with q | q
      · exact h1.run pins s σ H Q I ⟨μ, env, st, w, s', by unfold e2; rw [z]; simp only [Out.bind]; rw [z2]; simp only; rw [q] at o; exact o⟩
      · exact h2.run pins s σ H Q I ⟨μ, env, st, w, s', by unfold e2; rw [z]; simp only [Out.bind]; rw [z2]; simp only; rw [q] at o; exact o⟩

/-! ### a[i] -/
def oIx : OpT := fun a b st => match a, b with
  | .ref n, .int i => (seqOf st n).bind fun l => (atI l i).map fun d => (d, st)
  | .tup l, .int i => (atI l i).map fun d => (d, st)
  | .str s, .int i => if s.length ≤ sizeLine then (atI s i).map fun c => (.str [c], st) else none
  | _, _ => none
theorem atI_vrs {μ : List Addr} {H : Hp} {vs : List V} {ds : List D} (r : VRs Γ μ H vs ds) {i : Int} {d : D} (e : atI ds i = some d) : ∃ v, atI vs i = some v ∧ VR Γ μ H v d := by
  unfold atI at *
  rw [r.length]
  cases z : ixN ds.length i with
  | none => rw [z] at e; cases e
  | some j =>
    rw [z] at e
    exact r.get e
theorem ixr_all (hK : Γ.K = X.K) : IxR X fun x y H Q => ∃ μ st a b, Wd Γ μ H st ∧ VR Γ μ H x a ∧ VR Γ μ H y b ∧ OO Γ (VRr Γ) μ H Q (oIx a b st) := by
  intro value slice pins s σ H x y v u Q I rx ry h hs
  obtain ⟨μ, st, a, b, w, ra, rb, o⟩ := h
  unfold oIx at o
  split at o
  · rename_i n i
    cases z : seqOf st n with
    | none => rw [z] at o; exact o.elim
    | some l =>
      rw [z] at o
      simp only [Option.bind_some] at o
      cases z2 : atI l i with
      | none => rw [z2] at o; exact o.elim
      | some d =>
        rw [z2] at o
        cases ra with
        | ref hn =>
          cases rb
          obtain ⟨vs, q, r⟩ := seqOf_sq w z hn
          obtain ⟨v', e, rv⟩ := atI_vrs r z2
          exact ix_list value slice pins s σ H _ _ v u Q I rx ry ⟨_, vs, _, v', rfl, rfl, hK ▸ q, e, OO.val o w rv⟩ hs
  · rename_i l i
    cases z2 : atI l i with
    | none => rw [z2] at o; exact o.elim
    | some d =>
      rw [z2] at o
      cases ra with
      | tup hn r =>
        cases rb
        obtain ⟨v', e, rv⟩ := atI_vrs r z2
        exact ix_tup value slice pins s σ H _ _ v u Q I rx ry ⟨_, _, _, v', rfl, rfl, SqT.of hn, e, OO.val o w rv⟩ hs
  · rename_i sx i
    split at o
    · rename_i hl
      cases z2 : atI sx i with
      | none => rw [z2] at o; exact o.elim
      | some c =>
        rw [z2] at o
        cases ra; cases rb
        exact ix_str value slice pins s σ H _ _ v u Q I rx ry ⟨_, _, c, rfl, rfl, by rw [sOf_len]; exact hl, by simpa using z2, OO.val o w (.str [c])⟩ hs
    · exact o.elim
  · exact o.elim
theorem de_ix (hK : Γ.K = X.K) (ha : DE X Γ W a ma) (hb : DE X Γ W b mb) (hs : PlainIx b) : DE X Γ W (.Subscript a b pos) (e2 oIx ma mb) := PE.weak (pe_ix (ixr_all hK) ha hb hs) fun _ _ _ q => bin_sim q

/-! ### dicts -/
def lookK {κ : Type} [DecidableEq κ] (l : List (κ × D)) (k : κ) : Option D := (l.find? fun kv => decide (kv.1 = k)).map (·.2)
def putKD {κ : Type} [DecidableEq κ] (l : List (κ × D)) (k : κ) (v : D) : List (κ × D) :=
  if (l.any fun kv => decide (kv.1 = k)) = true then l.map (fun kv => if kv.1 = k then (kv.1, v) else kv) else l ++ [(k, v)]
def dropKD {κ : Type} [DecidableEq κ] (l : List (κ × D)) (k : κ) : List (κ × D) := l.filter fun kv => decide (kv.1 ≠ k)
def keyD : D → Option Kd
  | .int i => some (.inl i)
  | .str s => some (.inr s)
  | _ => none
def keysD : D → Option (List Kd)
  | .tup l => l.mapM keyD
  | _ => none
section
variable {κ ι : Type} [DecidableEq κ] [DecidableEq ι] {g : ι → κ} (hg : ∀ a b, g a = g b ↔ a = b) {μ : List Addr} {H : Hp}
include hg
theorem KRs.look : ∀ {gs : List (κ × V)} {fs : List (ι × D)} {k : ι}, KRs Γ μ H g gs fs → (∃ v d, valV gs (g k) = some v ∧ lookK fs k = some d ∧ VR Γ μ H v d) ∨ (valV gs (g k) = none ∧ lookK fs k = none)
  | [], [], _, _ => .inr ⟨rfl, rfl⟩
  | (_, v) :: gs, (f, d) :: fs, k, h => by
    obtain ⟨rfl, r, h⟩ := h
    by_cases e : f = k
    · subst e
      exact .inl ⟨v, d, by rw [valV_pos rfl], by simp [lookK, List.find?_cons], r⟩
    · have e' : ¬ g f = g k := fun z => e ((hg _ _).mp z)
      rw [valV_neg e']
      have : lookK ((f, d) :: fs) k = lookK fs k := by simp [lookK, List.find?_cons, e]
      rw [this]
      exact KRs.look h
  | [], _ :: _, _, h => h.elim
  | _ :: _, [], _, h => h.elim
theorem KRs.any : ∀ {gs : List (κ × V)} {fs : List (ι × D)} {k : ι}, KRs Γ μ H g gs fs → (gs.any fun kv => decide (kv.1 = g k)) = fs.any fun kv => decide (kv.1 = k)
  | [], [], _, _ => rfl
  | (_, v) :: gs, (f, d) :: fs, k, h => by
    obtain ⟨rfl, r, h⟩ := h
    rw [List.any_cons, List.any_cons, KRs.any h]
    congr 1
    exact decide_eq_decide.mpr (hg _ _)
  | [], _ :: _, _, h => h.elim
  | _ :: _, [], _, h => h.elim
theorem KRs.repl {k : ι} {v : V} {d : D} (r : VR Γ μ H v d) : ∀ {gs : List (κ × V)} {fs : List (ι × D)}, KRs Γ μ H g gs fs →
    KRs Γ μ H g (gs.map fun kv => if kv.1 = g k then (kv.1, v) else kv) (fs.map fun kv => if kv.1 = k then (kv.1, d) else kv)
  | [], [], _ => trivial
  | (_, w) :: gs, (f, u) :: fs, h => by
    obtain ⟨rfl, q, h⟩ := h
    rw [List.map_cons, List.map_cons]
    by_cases e : f = k
    · subst e
      simp only [if_true]
      exact ⟨rfl, r, KRs.repl r h⟩
    · rw [if_neg e, if_neg (fun z => e ((hg _ _).mp z))]
      exact ⟨rfl, q, KRs.repl r h⟩
  | [], _ :: _, h => h.elim
  | _ :: _, [], h => h.elim
theorem KRs.put {k : ι} {v : V} {d : D} (r : VR Γ μ H v d) {gs : List (κ × V)} {fs : List (ι × D)} (h : KRs Γ μ H g gs fs) : KRs Γ μ H g (putK gs (g k) v) (putKD fs k d) := by
  unfold putK putKD
  rw [KRs.any hg h]
  split
  · exact KRs.repl hg r h
  · have app : ∀ {gs : List (κ × V)} {fs : List (ι × D)}, KRs Γ μ H g gs fs → KRs Γ μ H g (gs ++ [(g k, v)]) (fs ++ [(k, d)]) := by
      intro gs
      induction gs with
      | nil => intro fs h; cases fs with
        | nil => exact ⟨rfl, r, trivial⟩
        | cons _ _ => exact h.elim
      | cons x gs ih => intro fs h; cases fs with
        | nil => exact h.elim
        | cons y fs => exact ⟨h.1, h.2.1, ih h.2.2⟩
    exact app h
theorem KRs.drop {k : ι} : ∀ {gs : List (κ × V)} {fs : List (ι × D)}, KRs Γ μ H g gs fs → KRs Γ μ H g (dropK gs (g k)) (dropKD fs k)
  | [], [], _ => trivial
  | (_, w) :: gs, (f, u) :: fs, h => by
    obtain ⟨rfl, q, h⟩ := h
    unfold dropK dropKD
    rw [List.filter_cons, List.filter_cons]
    by_cases e : f = k
    · subst e
      simp only [ne_eq, not_true_eq_false, decide_false, Bool.false_eq_true, if_false]
      exact KRs.drop h
    · rw [if_pos (decide_eq_true (show (g f, w).1 ≠ g k from fun z => e ((hg _ _).mp z))), if_pos (decide_eq_true (show (f, u).1 ≠ k from e))]
      exact ⟨rfl, q, KRs.drop h⟩
  | [], _ :: _, h => h.elim
  | _ :: _, [], h => h.elim
end
theorem KRs.len {κ ι : Type} {g : ι → κ} {μ : List Addr} {H : Hp} : ∀ {gs : List (κ × V)} {fs : List (ι × D)}, KRs Γ μ H g gs fs → gs.length = fs.length
  | [], [], _ => rfl
  | (_, _) :: _, (_, _) :: _, h => by simp [KRs.len h.2.2]
  | [], _ :: _, h => h.elim
  | _ :: _, [], h => h.elim
theorem keyD_v {μ : List Addr} {H : Hp} {v : V} : ∀ {d : D} {k : Kd}, keyD d = some k → VR Γ μ H v d → v = kV (kOf k)
  | .int i, _, e, r => by cases e; cases r; rfl
  | .str i, _, e, r => by cases e; cases r; rfl
  | .non, _, e, _ => by cases e
  | .bl _, _, e, _ => by cases e
  | .tup _, _, e, _ => by cases e
  | .ref _, _, e, _ => by cases e
theorem keysD_v {μ : List Addr} {H : Hp} : ∀ {l : List D} {vs : List V} {ks : List Kd}, l.mapM keyD = some ks → VRs Γ μ H vs l → vs = (ks.map kOf).map kV
  | [], _, _, e, r => by cases r; simp at e; subst e; rfl
  | d :: l, _, _, e, r => by
    cases r with
    | cons r rs =>
      rw [List.mapM_cons] at e
      cases z : keyD d with
      | none => rw [z] at e; cases e
      | some q =>
        rw [z] at e
        cases z2 : l.mapM keyD with
        | none => rw [z2] at e; cases e
        | some qs =>
          rw [z2] at e
          cases e
          rw [keyD_v z r, keysD_v z2 rs]; rfl
theorem map_kOf {a b : List Kd} : a.map kOf = b.map kOf ↔ a = b := by
  constructor
  · intro h
    induction a generalizing b with
    | nil => cases b with
      | nil => rfl
      | cons _ _ => cases h
    | cons x a ih => cases b with
      | nil => cases h
      | cons y b =>
        rw [List.map_cons, List.map_cons] at h
        injection h with h1 h2
        rw [kOf_inj h1, ih h2]
  · rintro rfl; rfl
/-- what a dict (of either kind) has at a key; none: no key of that kind -/
def dgetD (st : Store) (n : Nat) (k : D) : Option (Option D) := match st[n]? with
  | some (.dic l) => (keyD k).map fun k => lookK l k
  | some (.dtp l) => (keysD k).map fun k => lookK l k
  | _ => none
theorem dget_sim {μ : List Addr} {H : Hp} {st : Store} (w : Wd Γ μ H st) {n : Nat} {A : Addr} {k : D} {y : V} {r : Option D} (hn : μ[n]? = some A) (ry : VR Γ μ H y k) (e : dgetD st n k = some r) : ∃ o, DGet H A y o ∧ (o.isSome = r.isSome) ∧ ∀ d, r = some d → ∃ v, o = some v ∧ VR Γ μ H v d := by
  unfold dgetD at e
  split at e
  · rename_i l z
    obtain ⟨kvs, h, kr⟩ := w.at hn z
    cases zk : keyD k with
    | none => rw [zk] at e; cases e
    | some q =>
      rw [zk] at e
      cases e
      rw [keyD_v zk ry]
      refine ⟨_, DGet.k h, ?_⟩
      rcases KRs.look (fun _ _ => kOf_iff) (k := q) kr with ⟨v, d, h1, h2, r⟩ | ⟨h1, h2⟩
      · simp only [h1, h2]; exact ⟨rfl, fun d' e => by cases e; exact ⟨v, rfl, r⟩⟩
      · simp only [h1, h2]; exact ⟨rfl, fun d' e => by cases e⟩
  · rename_i l z
    obtain ⟨kvs, h, kr⟩ := w.at hn z
    cases zk : keysD k with
    | none => rw [zk] at e; cases e
    | some q =>
      rw [zk] at e
      cases e
      unfold keysD at zk
      split at zk
      · cases ry with
        | tup ht rs =>
          rw [keysD_v zk rs] at ht
          refine ⟨_, DGet.t h ht, ?_⟩
          rcases KRs.look (fun _ _ => map_kOf) (k := q) kr with ⟨v, d, h1, h2, r⟩ | ⟨h1, h2⟩
          · simp only [h1, h2]; exact ⟨rfl, fun d' e => by cases e; exact ⟨v, rfl, r⟩⟩
          · simp only [h1, h2]; exact ⟨rfl, fun d' e => by cases e⟩
      · cases zk
  · cases e
def oDget : OpT := fun a k st => match a with
  | .ref n => (dgetD st n k).bind fun r => r.map fun d => (d, st)
  | _ => none
theorem de_dget (hu : X.A.units + 1 < cLine) (ha : DE X Γ W a ma) (hb : DE X Γ W b mb) (hs : NoSl b) : DE X Γ W (.Subscript a b pos) (e2 oDget ma mb) := by
  refine PE.weak (pe_dget hu ha hb hs) fun σ H Q q => ?_
  obtain ⟨μ, env, st, w, s, o⟩ := q
  refine ⟨μ, env, st, w, s, (XO.bind (R := VRr Γ) o).mono ?_⟩
  rintro v H1 ⟨μ1, d, st1, p, t1, w1, r, o1⟩
  refine ⟨μ1, env, st1, w1, s.mono p t1, (XO.bind (R := VRr Γ) o1).mono ?_⟩
  rintro v2 H2 ⟨μ2, d2, st2, p2, t2, w2, r2, o2⟩
  have o2 := o2.oo
  unfold oDget at o2
  cases r with
  | @ref A n hn =>
    simp only at o2
    cases z : dgetD st2 n d2 with
    | none => rw [z] at o2; exact o2.elim
    | some r =>
      rw [z] at o2
      obtain ⟨oo, g, _, h⟩ := dget_sim w2 (pre_get p2 hn) r2 z
      cases r with
      | none => exact o2.elim
      | some d =>
        obtain ⟨v, rfl, rv⟩ := h d rfl
        exact ⟨A, v, rfl, g, OO.val o2 w2 rv⟩
  | _ => exact o2.elim
def isDict (st : Store) : D → Bool
  | .ref n => match st[n]? with
    | some (.dic _) => true
    | some (.dtp _) => true
    | _ => false
  | _ => false
def oSubs : OpT := fun a b st => if isDict st a = true then oDget a b st else oIx a b st
theorem de_sub (hK : Γ.K = X.K) (hu : X.A.units + 1 < cLine) (ha : DE X Γ W a ma) (hb : DE X Γ W b mb) (hs : PlainIx b) : DE X Γ W (.Subscript a b pos) (e2 oSubs ma mb) :=
  de_e2or (de_dget hu ha hb hs) (de_ix hK ha hb hs) fun a b st => by unfold oSubs; split <;> simp

/-! ### o[i] = v -/
def setSub (env : Env) (d k v : D) (st : Store) : SR := match d with
  | .ref n => match st[n]? with
    | some (.lst l) => match k with
      | .int i => match ixN l.length i with
        | some j => .nx env (st.set n (.lst (l.set j v)))
        | none => .bad
      | _ => .bad
    | some (.dic l) => match keyD k with
      | some k => if l.length < sizeLine then .nx env (st.set n (.dic (putKD l k v))) else .bad
      | none => .bad
    | some (.dtp l) => match keysD k with
      | some k => if l.length < sizeLine then .nx env (st.set n (.dtp (putKD l k v))) else .bad
      | none => .bad
    | _ => .bad
  | _ => .bad
def sSub (mo mi mv : EM D) : SM := fun env st => (mv env st).s env fun v st => (mo env st).s env fun d st => (mi env st).s env fun k st => setSub env d k v st
theorem ds_sub (hu : X.A.units + 1 < cLine) (ho : DE X Γ W o mo) (hi : DE X Γ W i mi) (hv : DE X Γ W e mv) (hs : swapsWith e (some (.Subscript o i pos')) pos.line X.env = pure false)
    (hs1 : swapsWithSole [.Subscript o i pos'] e pos.line X.env = pure false := by rfl) (hw1 : swappedStores [.Subscript o i pos'] e X.env = pure none := by rfl) (h1 : (assignEach [.Subscript o i pos'] X.env).map (·.2) = [assign (.Subscript o i pos') X.env] := by rfl) (hpg : PG X (.Subscript o i pos') (gSub (simX Γ W (VRr Γ) mo) (simX Γ W (VRr Γ) mi) rSetL)) :
    DS X Γ W (.Assign [.Subscript o i pos'] e pos) (sSub mo mi mv) := by
  refine ⟨fun pins s σ H E I q => ?_⟩
  have A := (ps_asg hv hpg hs1 hw1 h1).run pins s σ H E I
  have B := (ps_dput hu ho hi hv hs).run pins s σ H E I
  obtain ⟨μ, env, st, w, s', q⟩ := q
  -- the three parts give the same in both; what stands at o decides
  have lists : (∀ v st1 d st2 k st3, mv env st = .ok v st1 → mo env st1 = .ok d st2 → mi env st2 = .ok k st3 → isDict st3 d = false) → tAsg (simX Γ W (VRr Γ) mv) (gSub (simX Γ W (VRr Γ) mo) (simX Γ W (VRr Γ) mi) rSetL) E σ H := by
    intro nd
    refine ⟨μ, env, st, w, s', ?_⟩
    unfold sSub at q
    cases z1 : mv env st with
    | bad => rw [z1] at q; exact q.elim
    | exn c st1 => rw [z1] at q; exact fun μ' H' p t w => q μ' σ H' p t w (s'.mono p t)
    | ok v st1 =>
      rw [z1] at q
      intro μ1 H1 x p1 t1 w1 r1
      refine ⟨μ1, env, st1, w1, s'.mono p1 t1, ?_⟩
      replace q := SO.shift p1 t1 q
      cases z2 : mo env st1 with
      | bad => simp only [Out.s, z2] at q; exact q.elim
      | exn c st2 => simp only [Out.s, z2] at q; exact fun μ' H' p t w => q μ' σ H' p t w ((s'.mono p1 t1).mono p t)
      | ok d st2 =>
        simp only [Out.s, z2] at q
        intro μ2 H2 y p2 t2 w2 r2
        refine ⟨μ2, env, st2, w2, (s'.mono p1 t1).mono p2 t2, ?_⟩
        replace q := SO.shift p2 t2 q
        cases z3 : mi env st2 with
        | bad => simp only [z3] at q; exact q.elim
        | exn c st3 => simp only [z3] at q; exact fun μ' H' p t w => q μ' σ H' p t w (((s'.mono p1 t1).mono p2 t2).mono p t)
        | ok k st3 =>
          simp only [z3] at q
          intro μ3 H3 i' p3 t3 w3 r3
          replace q := SO.shift p3 t3 q
          have nd := nd v st1 d st2 k st3 z1 z2 z3
          unfold setSub at q
          cases r2 with
          | @ref A n hn =>
            simp only at q
            have hn3 := pre_get p3 hn
            unfold isDict at nd
            cases zo : st3[n]? with
            | none => rw [zo] at q; exact q.elim
            | some ob =>
              rw [zo] at q
              simp only [zo] at nd
              cases ob with
              | lst l =>
                simp only at q
                split at q
                · rename_i i
                  split at q
                  · rename_i j hj
                    cases r3
                    obtain ⟨xs, hx, rx⟩ := w3.at hn3 zo
                    have tt : TStay H3 (upd H3 A (.lst (xs.set j x))) := TStay.at hx (by intro vs e; cases e)
                    refine ⟨A, xs, _, j, rfl, rfl, hx, by rw [rx.length]; exact hj, ?_⟩
                    exact q μ3 σ _ (List.prefix_refl _) tt (w3.set hn3 hx (by intro vs e; cases e) (by intro o v e; cases e) zo (by intro l e; cases e) ⟨_, upd_same, (VRs.set ((r1.mono p2 t2).mono p3 t3) j rx).mono (List.prefix_refl _) tt⟩) ((((s'.mono p1 t1).mono p2 t2).mono p3 t3).mono (List.prefix_refl _) tt)
                  · exact q.elim
                · exact q.elim
              | dic l => cases nd
              | dtp l => cases nd
              | _ => exact q.elim
          | _ => exact q.elim
  have dicts : (∃ v st1 d st2 k st3, mv env st = .ok v st1 ∧ mo env st1 = .ok d st2 ∧ mi env st2 = .ok k st3 ∧ isDict st3 d = true) → sDPut (simX Γ W (VRr Γ) mo) (simX Γ W (VRr Γ) mi) (simX Γ W (VRr Γ) mv) E σ H := by
    rintro ⟨v, st1, d, st2, k, st3, z1, z2, z3, nd⟩
    refine ⟨μ, env, st, w, s', ?_⟩
    unfold sSub at q
    rw [z1] at q ⊢
    simp only [Out.s, z2, z3] at q
    intro μ1 H1 x p1 t1 w1 r1
    refine ⟨μ1, env, st1, w1, s'.mono p1 t1, ?_⟩
    rw [z2]
    intro μ2 H2 y p2 t2 w2 r2
    refine ⟨μ2, env, st2, w2, (s'.mono p1 t1).mono p2 t2, ?_⟩
    rw [z3]
    intro μ3 H3 i' p3 t3 w3 r3
    replace q := SO.shift p3 t3 (SO.shift p2 t2 (SO.shift p1 t1 q))
    have rv := (r1.mono p2 t2).mono p3 t3
    have sl := ((s'.mono p1 t1).mono p2 t2).mono p3 t3
    unfold setSub at q
    cases r2 with
    | @ref A n hn =>
      simp only at q
      have hn3 := pre_get p3 hn
      unfold isDict at nd
      cases zo : st3[n]? with
      | none => rw [zo] at q; exact q.elim
      | some ob =>
        rw [zo] at q
        simp only [zo] at nd
        cases ob with
        | dic l =>
          simp only at q
          split at q
          · rename_i kk hk
            split at q
            · rename_i hl
              obtain ⟨kvs, hx, rx⟩ := w3.at hn3 zo
              rw [keyD_v hk r3]
              refine ⟨A, _, rfl, DPut.k hx (by rw [rx.len]; exact hl), ?_⟩
              have tt : TStay H3 (upd H3 A (.dK (putK kvs (kOf kk) x))) := TStay.at hx (by intro vs e; cases e)
              exact q μ3 σ _ (List.prefix_refl _) tt (w3.set hn3 hx (by intro vs e; cases e) (by intro o v e; cases e) zo (by intro l e; cases e) ⟨_, upd_same, (KRs.put (fun _ _ => kOf_iff) rv rx).mono (List.prefix_refl _) tt⟩) (sl.mono (List.prefix_refl _) tt)
            · exact q.elim
          · exact q.elim
        | dtp l =>
          simp only at q
          split at q
          · rename_i kk hk
            split at q
            · rename_i hl
              obtain ⟨kvs, hx, rx⟩ := w3.at hn3 zo
              unfold keysD at hk
              split at hk
              · cases r3 with
                | @tup B _ _ ht rs =>
                  rw [keysD_v hk rs] at ht
                  refine ⟨A, _, rfl, DPut.t hx ht (by rw [rx.len]; exact hl), ?_⟩
                  have tt : TStay H3 (upd H3 A (.dT (putK kvs (kk.map kOf) x))) := TStay.at hx (by intro vs e; cases e)
                  exact q μ3 σ _ (List.prefix_refl _) tt (w3.set hn3 hx (by intro vs e; cases e) (by intro o v e; cases e) zo (by intro l e; cases e) ⟨_, upd_same, (KRs.put (fun _ _ => map_kOf) rv rx).mono (List.prefix_refl _) tt⟩) (sl.mono (List.prefix_refl _) tt)
              · cases hk
            · exact q.elim
          · exact q.elim
        | _ => cases nd
    | _ => exact q.elim
  by_cases h : ∃ v st1 d st2 k st3, mv env st = .ok v st1 ∧ mo env st1 = .ok d st2 ∧ mi env st2 = .ok k st3 ∧ isDict st3 d = true
  · exact B (dicts h)
  · exact A (lists fun v st1 d st2 k st3 z1 z2 z3 => by
      cases hd : isDict st3 d with
      | false => rfl
      | true => exact absurd ⟨v, st1, d, st2, k, st3, z1, z2, z3, hd⟩ h)
end
end DL
/-! DL: in, len, truth, chains, built-ins, slices. -/
namespace DL
open PySem L2
open PyProof.Rows (envOfC)

section
variable {X : Cx} {Γ : Gam} {W : WX} {a b c e o i : Expr} {es : List Expr} {ma mb mc m mo mi mv : EM D} {ms : EM (List D)} {pos p p2 pos' : Pos}
/-! ### chains -/
def eChain (f g : OpT) (ma mb mc : EM D) : EM D := fun env st => (ma env st).bind fun a st => (mb env st).bind fun b st => (Out.of (f a b st)).bind fun r st => match r with
  | .bl true => (mc env st).bind fun c st => .of (g b c st)
  | .bl false => .ok (.bl false) st
  | _ => .bad
theorem chain_sim {f g : OpT} {σ : L2.St} {H : Hp} {Q : VK} (q : simX Γ W (VRr Γ) (eChain f g ma mb mc) σ H Q) :
    tChain (fun x y H Q => ∃ μ st a b, Wd Γ μ H st ∧ VR Γ μ H x a ∧ VR Γ μ H y b ∧ OO Γ (VRr Γ) μ H Q (f a b st)) (fun x y H Q => ∃ μ st a b, Wd Γ μ H st ∧ VR Γ μ H x a ∧ VR Γ μ H y b ∧ OO Γ (VRr Γ) μ H Q (g a b st)) (simX Γ W (VRr Γ) ma) (simX Γ W (VRr Γ) mb) (simX Γ W (VRr Γ) mc) σ H Q := by
  obtain ⟨μ, env, st, w, s, o⟩ := q
  refine ⟨μ, env, st, w, s, (XO.bind (R := VRr Γ) o).mono ?_⟩
  rintro v H1 ⟨μ1, d, st1, p, t1, w1, r, o1⟩
  refine ⟨μ1, env, st1, w1, s.mono p t1, (XO.bind (R := VRr Γ) o1).mono ?_⟩
  rintro v2 H2 ⟨μ2, d2, st2, p2, t2, w2, r2, o2⟩
  refine ⟨μ2, st2, d, d2, w2, r.mono p2 t2, r2, ?_⟩
  have o3 := (XO.bind (R := VRr Γ) o2).oo
  cases z : f d d2 st2 with
  | none => rw [z] at o3; exact o3.elim
  | some q =>
    obtain ⟨k, st3⟩ := q
    rw [z] at o3
    intro μ' H' v' p' t' w' r'
    obtain ⟨μ3, d3, st3', p3, t3, w3, r3, o4⟩ := o3 μ' H' v' p' t' w' r'
    cases r3 with
    | bl k =>
      refine ⟨k, rfl, ?_⟩
      cases k with
      | true =>
        refine iteT ⟨μ3, env, st3', w3, ((s.mono p t1).mono p2 t2).mono p3 t3, (XO.bind (R := VRr Γ) o4).mono ?_⟩
        rintro v4 H4 ⟨μ4, d4, st4, p4, t4, w4, r4, o5⟩
        exact ⟨μ4, st4, d2, d4, w4, (r2.mono p3 t3).mono p4 t4, r4, o5.oo⟩
      | false => exact iteF (XO.val (d := D.bl false) o4 w3 (.bl false))
    | _ => exact o4.elim
theorem de_chain {op op' : CmpOp} {f g : OpT} (h : OpD X Γ (compareOp op) f) (h' : OpD X Γ (compareOp op') g) (ha : DE X Γ W a ma) (hb : DE X Γ W b mb) (hc : DE X Γ W c mc) (hm : lastMarks [op, op'] [b, c] = false := by with_unfolding_all rfl) : DE X Γ W (.Compare a [op, op'] [b, c] pos) (eChain f g ma mb mc) :=
  PE.weak (pe_chain h h' ha hb hc hm) fun _ _ _ q => chain_sim q
theorem dt_chain {op op' : CmpOp} {f g : OpT} (h : OpD X Γ (compareOp op) f) (h' : OpD X Γ (compareOp op') g) (ha : DE X Γ W a ma) (hb : DE X Γ W b mb) (hc : DE X Γ W c mc) (hm : lastMarks [op, op'] [b, c] = false := by with_unfolding_all rfl) : DT X Γ W (.Compare a [op, op'] [b, c] pos) (tB (eChain f g ma mb mc)) :=
  PT.weak (pt_chain h h' ha hb hc hm) fun _ _ _ q => tB_sim (fun _ _ _ => chain_sim) q

/-! ### truth -/
def truD (d : D) (st : Store) : Option Bool := match d with
  | .non => some false
  | .bl b => some b
  | .int i => some (i != 0)
  | .str s => if s.length ≤ sizeLine then some (!s.isEmpty) else none
  | .tup l => some (!l.isEmpty)
  | .ref n => match st[n]? with
    | some (.lst l) => some (!l.isEmpty)
    | some (.frz l) => some (!l.isEmpty)
    | some (.dic l) => some (!l.isEmpty)
    | _ => none
def tTru (m : EM D) : EM Bool := fun env st => (m env st).bind fun d st => match truD d st with
  | some b => .ok b st
  | none => .bad
theorem vrs_emp {μ : List Addr} {H : Hp} {vs : List V} {ds : List D} (r : VRs Γ μ H vs ds) : vs.isEmpty = ds.isEmpty := by cases r <;> rfl
theorem dt_tru (hK : Γ.K = X.K) (h : DE X Γ W e m) (he : ∀ whole, isTrue e X.env whole = (do let v ← whole; standAt e.pos; holding [v] (truthy v)) := by intro _; rfl) : DT X Γ W e (tTru m) := by
  refine PT.weak (pt_truth h he) fun σ H Q q => ?_
  obtain ⟨μ, env, st, w, s, o⟩ := q
  refine ⟨μ, env, st, w, s, (XO.bind (R := VRr Γ) o).mono ?_⟩
  rintro v H1 ⟨μ1, d, st1, p, t1, w1, r, o1⟩
  cases z : truD d st1 with
  | none => rw [z] at o1; exact o1.elim
  | some k =>
    rw [z] at o1
    refine ⟨k, ?_, XO.val (v := k) o1 w1 rfl⟩
    cases r with
    | non => cases z; exact rfl
    | bl b => cases z; exact rfl
    | int i => cases z; exact rfl
    | str x =>
      simp only [truD] at z
      split at z
      · rename_i hl
        cases z
        refine ⟨by rw [sOf_len]; exact hl, ?_⟩
        rw [sOf_len]
        cases x <;> simp
        omega
      · cases z
    | tup h rs => cases z; exact .inr (.inl ⟨_, SqT.of h, by rw [vrs_emp rs]⟩)
    | @ref A n hn =>
      simp only [truD] at z
      split at z
      · rename_i l e1; cases z; obtain ⟨vs, h, r⟩ := w1.at hn e1; exact .inl ⟨vs, SqL.of h, by rw [vrs_emp r]⟩
      · rename_i l e1; cases z; obtain ⟨vs, h, r⟩ := w1.at hn e1; exact .inl ⟨vs, hK ▸ h.sq, by rw [vrs_emp r]⟩
      · rename_i l e1; cases z; obtain ⟨vs, h, r⟩ := w1.at hn e1
        refine .inr (.inr ⟨vs, h, ?_⟩)
        have := KRs.len r
        cases vs <;> cases l <;> simp_all
      · cases z

/-! ### len -/
def oLen : List D → Store → Option (D × Store) := fun ds st => match ds with
  | [.str s] => if s.length ≤ sizeLine then some (.int s.length, st) else none
  | [.tup l] => some (.int l.length, st)
  | [.ref n] => match st[n]? with
    | some (.lst l) => some (.int l.length, st)
    | some (.frz l) => some (.int l.length, st)
    | some (.dic l) => some (.int l.length, st)
    | _ => none
  | _ => none
theorem vrs1 {μ : List Addr} {H : Hp} {vs : List V} {d : D} (r : VRs Γ μ H vs [d]) : ∃ v, vs = [v] ∧ VR Γ μ H v d := by
  cases r with
  | cons r rs => cases rs; exact ⟨_, rfl, r⟩
theorem vrs2 {μ : List Addr} {H : Hp} {vs : List V} {d e : D} (r : VRs Γ μ H vs [d, e]) : ∃ v w, vs = [v, w] ∧ VR Γ μ H v d ∧ VR Γ μ H w e := by
  cases r with
  | cons r rs => obtain ⟨w, rfl, q⟩ := vrs1 rs; exact ⟨_, w, rfl, r, q⟩
theorem vrs3 {μ : List Addr} {H : Hp} {vs : List V} {d e f : D} (r : VRs Γ μ H vs [d, e, f]) : ∃ v w x, vs = [v, w, x] ∧ VR Γ μ H v d ∧ VR Γ μ H w e ∧ VR Γ μ H x f := by
  cases r with
  | cons r rs => obtain ⟨w, x, rfl, q⟩ := vrs2 rs; exact ⟨_, w, x, rfl, r, q⟩
theorem cd_len (hK : Γ.K = X.K) : CallD X Γ (.builtin "len") oLen := by
  intro pins s σ H xs us Q I r h
  obtain ⟨μ, st, ds, w, rs, o⟩ := h
  unfold oLen at o
  split at o
  · split at o
    · rename_i hl
      obtain ⟨v, rfl, rv⟩ := vrs1 rs
      cases rv
      exact call_len_str pins s σ H _ us Q I r ⟨_, rfl, by rw [sOf_len]; exact hl, by rw [sOf_len]; exact o.val w (.int _)⟩
    · exact o.elim
  · obtain ⟨v, rfl, rv⟩ := vrs1 rs
    cases rv with
    | tup h q => exact call_len_seq pins s σ H _ us Q I r ⟨_, _, rfl, .inr (SqT.of h), by rw [q.length]; exact o.val w (.int _)⟩
  · obtain ⟨v, rfl, rv⟩ := vrs1 rs
    cases rv with
    | ref hn =>
      split at o
      · rename_i l e1; obtain ⟨vs, h, q⟩ := w.at hn e1; exact call_len_seq pins s σ H _ us Q I r ⟨_, _, rfl, .inl (SqL.of h), by rw [q.length]; exact o.val w (.int _)⟩
      · rename_i l e1; obtain ⟨vs, h, q⟩ := w.at hn e1; exact call_len_seq pins s σ H _ us Q I r ⟨_, _, rfl, .inl (hK ▸ h.sq), by rw [q.length]; exact o.val w (.int _)⟩
      · rename_i l e1; obtain ⟨vs, h, q⟩ := w.at hn e1; exact call_lenD pins s σ H _ us Q I r ⟨_, _, rfl, h, by rw [KRs.len q]; exact o.val w (.int _)⟩
      · exact o.elim
  · exact o.elim

/-! ### int, str, ord, max, min, list, tuple, all, sum, sorted -/
def oInt : List D → Store → Option (D × Store) := fun ds st => match ds with
  | [.int i] => some (.int i, st)
  | [.bl k] => some (.int (if k then 1 else 0), st)
  | [.str s] => match PySem.intText? (sOf s) with
    | some n => if s.length ≤ 640 then some (.int n, st) else none
    | none => none
  | _ => none
theorem cd_int : CallD X Γ (.type "int") oInt := by
  intro pins s σ H xs us Q I r h
  obtain ⟨μ, st, ds, w, rs, o⟩ := h
  unfold oInt at o
  split at o
  · obtain ⟨v, rfl, rv⟩ := vrs1 rs; cases rv
    exact call_int1 pins s σ H _ us Q I r (.inl ⟨_, rfl, o.val w (.int _)⟩)
  · obtain ⟨v, rfl, rv⟩ := vrs1 rs; cases rv
    exact call_int1 pins s σ H _ us Q I r (.inr ⟨_, rfl, o.val w (.int _)⟩)
  · split at o
    · rename_i n hn
      split at o
      · rename_i hl
        obtain ⟨v, rfl, rv⟩ := vrs1 rs; cases rv
        exact call_int_str pins s σ H _ us Q I r ⟨_, n, rfl, hn, by rw [sOf_len]; exact hl, o.val w (.int _)⟩
      · exact o.elim
    · exact o.elim
  · exact o.elim
/-- str(n) -/
def strI (i : Int) : List Nat := (Str.ofString (toString i)).cps.toList
def oStr : List D → Store → Option (D × Store) := fun ds st => match ds with
  | [.int i] => if i.natAbs.log2 < 1920 then some (.str (strI i), st) else none
  | _ => none
theorem cd_str : CallD X Γ (.type "str") oStr := by
  intro pins s σ H xs us Q I r h
  obtain ⟨μ, st, ds, w, rs, o⟩ := h
  unfold oStr at o
  split at o
  · split at o
    · rename_i hl
      obtain ⟨v, rfl, rv⟩ := vrs1 rs; cases rv
      exact call_str_int pins s σ H _ us Q I r ⟨_, rfl, hl, OO.val (v := V.str (Str.ofString (toString _))) o w (by exact VR.str (strI _))⟩
    · exact o.elim
  · exact o.elim
def oOrd : List D → Store → Option (D × Store) := fun ds st => match ds with
  | [.str [c]] => some (.int c, st)
  | _ => none
theorem cd_ord : CallD X Γ (.builtin "ord") oOrd := by
  intro pins s σ H xs us Q I r h
  obtain ⟨μ, st, ds, w, rs, o⟩ := h
  unfold oOrd at o
  split at o
  · obtain ⟨v, rfl, rv⟩ := vrs1 rs; cases rv
    exact call_ord pins s σ H _ us Q I r ⟨_, rfl, rfl, OO.val (v := V.int _) o w (.int _)⟩
  · exact o.elim
def oMax : List D → Store → Option (D × Store) := fun ds st => match ds with
  | [.int i, .int j] => some (.int (max i j), st)
  | [.int i, .int j, .int k] => some (.int (max (max i j) k), st)
  | _ => none
def oMin : List D → Store → Option (D × Store) := fun ds st => match ds with
  | [.int i, .int j] => some (.int (min i j), st)
  | [.int i, .int j, .int k] => some (.int (min (min i j) k), st)
  | _ => none
theorem max_if (i j : Int) : (if j > i then j else i) = max i j := by split <;> omega
theorem min_if (i j : Int) : (if j < i then j else i) = min i j := by split <;> omega
theorem nuMax_int (i j : Int) : nuMax2 (.int i) (.int j) = some (.int (max i j)) := by
  show (some (decide (i < j))).map (fun c => if c = true then V.int j else V.int i) = _
  by_cases h : i < j
  · rw [decide_eq_true h]; show some (V.int j) = _; rw [show max i j = j by omega]
  · rw [decide_eq_false h]; show some (V.int i) = _; rw [show max i j = i by omega]
theorem nuMin_int (i j : Int) : nuMin2 (.int i) (.int j) = some (.int (min i j)) := by
  show (some (decide (j < i))).map (fun c => if c = true then V.int j else V.int i) = _
  by_cases h : j < i
  · rw [decide_eq_true h]; show some (V.int j) = _; rw [show min i j = j by omega]
  · rw [decide_eq_false h]; show some (V.int i) = _; rw [show min i j = i by omega]
theorem cd_max (hc : X.calm = true) : CallD X Γ (.builtin "max") oMax := by
  intro pins s σ H xs us Q I r h
  obtain ⟨μ, st, ds, w, rs, o⟩ := h
  unfold oMax at o
  split at o
  · obtain ⟨v, v2, rfl, rv, rv2⟩ := vrs2 rs; cases rv; cases rv2
    exact call_max2 hc pins s σ H _ us Q I r ⟨_, _, rfl, by rw [max_if]; exact o.val w (.int _)⟩
  · obtain ⟨v, v2, v3, rfl, rv, rv2, rv3⟩ := vrs3 rs; cases rv; cases rv2; cases rv3
    exact call_max3Nu hc pins s σ H _ us Q I r ⟨_, _, _, _, rfl, by unfold nuMax3; rw [nuMax_int, Option.bind_some, nuMax_int], o.val w (.int _)⟩
  · exact o.elim
theorem cd_min (hc : X.calm = true) : CallD X Γ (.builtin "min") oMin := by
  intro pins s σ H xs us Q I r h
  obtain ⟨μ, st, ds, w, rs, o⟩ := h
  unfold oMin at o
  split at o
  · obtain ⟨v, v2, rfl, rv, rv2⟩ := vrs2 rs; cases rv; cases rv2
    exact call_min2 hc pins s σ H _ us Q I r ⟨_, _, rfl, by rw [min_if]; exact o.val w (.int _)⟩
  · obtain ⟨v, v2, v3, rfl, rv, rv2, rv3⟩ := vrs3 rs; cases rv; cases rv2; cases rv3
    exact call_min3Nu hc pins s σ H _ us Q I r ⟨_, _, _, _, rfl, by unfold nuMin3; rw [nuMin_int, Option.bind_some, nuMin_int], o.val w (.int _)⟩
  · exact o.elim
def keyToD : Kd → D
  | .inl i => .int i
  | .inr s => .str s
def oList : List D → Store → Option (D × Store) := fun ds st => match ds with
  | [.tup l] => some (.ref st.length, st ++ [.lst l])
  | [.ref n] => (seqOf st n).map fun l => (.ref st.length, st ++ [.lst l])
  | _ => none
theorem cd_list (hK : Γ.K = X.K) : CallD X Γ (.type "list") oList := by
  intro pins s σ H xs us Q I r h
  obtain ⟨μ, st, ds, w, rs, o⟩ := h
  unfold oList at o
  split at o
  · obtain ⟨v, rfl, rv⟩ := vrs1 rs
    cases rv with
    | tup h q => exact call_list_of pins s σ H _ us Q I r ⟨_, _, rfl, .inr (SqT.of h), fun p hp => OO.new (R := VRr Γ) o w hp ⟨_, upd_same, q.mono (List.prefix_append _ _) (TStay.new hp)⟩⟩
  · rename_i n
    cases z : seqOf st n with
    | none => rw [z] at o; exact o.elim
    | some l =>
      rw [z] at o
      obtain ⟨v, rfl, rv⟩ := vrs1 rs
      cases rv with
      | ref hn =>
        obtain ⟨vs, h, q⟩ := seqOf_sq w z hn
        exact call_list_of pins s σ H _ us Q I r ⟨_, _, rfl, .inl (hK ▸ h), fun p hp => OO.new (R := VRr Γ) o w hp ⟨_, upd_same, q.mono (List.prefix_append _ _) (TStay.new hp)⟩⟩
  · exact o.elim
def oTuple : List D → Store → Option (D × Store) := fun ds st => match ds with
  | [.tup l] => some (.tup l, st)
  | [.ref n] => (seqOf st n).map fun l => (.tup l, st)
  | _ => none
theorem cd_tuple (hK : Γ.K = X.K) : CallD X Γ (.type "tuple") oTuple := by
  intro pins s σ H xs us Q I r h
  obtain ⟨μ, st, ds, w, rs, o⟩ := h
  unfold oTuple at o
  split at o
  · obtain ⟨v, rfl, rv⟩ := vrs1 rs
    cases rv with
    | tup h q => exact call_tuple_of pins s σ H _ us Q I r ⟨_, _, rfl, .inr ⟨SqT.of h, o.val w (.tup h q)⟩⟩
  · rename_i n
    cases z : seqOf st n with
    | none => rw [z] at o; exact o.elim
    | some l =>
      rw [z] at o
      obtain ⟨v, rfl, rv⟩ := vrs1 rs
      cases rv with
      | ref hn =>
        obtain ⟨vs, h, q⟩ := seqOf_sq w z hn
        exact call_tuple_of pins s σ H _ us Q I r ⟨_, _, rfl, .inl ⟨hK ▸ h, fun p hp => OO.tupN o w hp q⟩⟩
  · exact o.elim
def intsD : List D → Option (List Int)
  | [] => some []
  | .int i :: l => (intsD l).map (i :: ·)
  | _ => none
def blsD : List D → Option (List Bool)
  | [] => some []
  | .bl i :: l => (blsD l).map (i :: ·)
  | _ => none
def strsD : List D → Option (List (List Nat))
  | [] => some []
  | .str i :: l => (strsD l).map (i :: ·)
  | _ => none
theorem vrs_ints {μ : List Addr} {H : Hp} : ∀ {l : List D} {vs : List V} {is : List Int}, intsD l = some is → VRs Γ μ H vs l → vs = is.map V.int
  | [], _, _, e, r => by cases r; cases e; rfl
  | d :: l, _, _, e, r => by
    cases r with
    | cons r rs =>
      cases r <;> first
        | (cases e; done)
        | (simp only [intsD] at e
           cases z : intsD l with
           | none => rw [z] at e; cases e
           | some q => rw [z] at e; cases e; rw [vrs_ints z rs]; rfl)
theorem vrs_bls {μ : List Addr} {H : Hp} : ∀ {l : List D} {vs : List V} {is : List Bool}, blsD l = some is → VRs Γ μ H vs l → vs = is.map V.bl
  | [], _, _, e, r => by cases r; cases e; rfl
  | d :: l, _, _, e, r => by
    cases r with
    | cons r rs =>
      cases r <;> first
        | (cases e; done)
        | (simp only [blsD] at e
           cases z : blsD l with
           | none => rw [z] at e; cases e
           | some q => rw [z] at e; cases e; rw [vrs_bls z rs]; rfl)
theorem vrs_strsD {μ : List Addr} {H : Hp} : ∀ {l : List D} {vs : List V} {is : List (List Nat)}, strsD l = some is → VRs Γ μ H vs l → vs = (is.map sOf).map V.str
  | [], _, _, e, r => by cases r; cases e; rfl
  | d :: l, _, _, e, r => by
    cases r with
    | cons r rs =>
      cases r <;> first
        | (cases e; done)
        | (simp only [strsD] at e
           cases z : strsD l with
           | none => rw [z] at e; cases e
           | some q => rw [z] at e; cases e; rw [vrs_strsD z rs]; rfl)
def oSum : List D → Store → Option (D × Store) := fun ds st => match ds with
  | [.ref n] => (seqOf st n).bind fun l => (intsD l).map fun is => (.int is.sum, st)
  | _ => none
theorem cd_sum (hK : Γ.K = X.K) (hc : X.calm = true) : CallD X Γ (.builtin "sum") oSum := by
  intro pins s σ H xs us Q I r h
  obtain ⟨μ, st, ds, w, rs, o⟩ := h
  unfold oSum at o
  split at o
  · rename_i n
    cases z : seqOf st n with
    | none => rw [z] at o; exact o.elim
    | some l =>
      rw [z] at o
      simp only [Option.bind_some] at o
      cases z2 : intsD l with
      | none => rw [z2] at o; exact o.elim
      | some is =>
        rw [z2] at o
        obtain ⟨v, rfl, rv⟩ := vrs1 rs
        cases rv with
        | ref hn =>
          obtain ⟨vs, h, q⟩ := seqOf_sq w z hn
          rw [vrs_ints z2 q] at h
          exact cr_sum hc pins s σ H _ us Q I r ⟨_, is, rfl, hK ▸ h, OO.val o w (.int _)⟩
  · exact o.elim
def oAll : List D → Store → Option (D × Store) := fun ds st => match ds with
  | [.ref n] => (seqOf st n).bind fun l => (blsD l).map fun is => (.bl (is.all id), st)
  | _ => none
theorem cd_all (hK : Γ.K = X.K) (hc : X.calm = true) : CallD X Γ (.builtin "all") oAll := by
  intro pins s σ H xs us Q I r h
  obtain ⟨μ, st, ds, w, rs, o⟩ := h
  unfold oAll at o
  split at o
  · rename_i n
    cases z : seqOf st n with
    | none => rw [z] at o; exact o.elim
    | some l =>
      rw [z] at o
      simp only [Option.bind_some] at o
      cases z2 : blsD l with
      | none => rw [z2] at o; exact o.elim
      | some is =>
        rw [z2] at o
        obtain ⟨v, rfl, rv⟩ := vrs1 rs
        cases rv with
        | ref hn =>
          obtain ⟨vs, h, q⟩ := seqOf_sq w z hn
          rw [vrs_bls z2 q] at h
          exact cr_all hc pins s σ H _ us Q I r ⟨_, is, rfl, hK ▸ h, OO.val o w (.bl _)⟩
  · exact o.elim

/-! ### isinstance(x, T), T a built-in class -/
def tyD (st : Store) : D → Option String
  | .non => some "NoneType"
  | .bl _ => some "bool"
  | .int _ => some "int"
  | .str _ => some "str"
  | .tup _ => some "tuple"
  | .ref n => match st[n]? with
    | some (.lst _) => some "list"
    | some (.frz _) => some "list"
    | some (.dic _) => some "dict"
    | some (.dtp _) => some "dict"
    | _ => none
theorem tyD_ok (hK : Γ.K = X.K) {μ : List Addr} {H : Hp} {st : Store} (w : Wd Γ μ H st) {v : V} {d : D} {T : String} (r : VR Γ μ H v d) (e : tyD st d = some T) : TyX X.K H v (.type T) := by
  cases r with
  | non => cases e; exact .base .non
  | bl b => cases e; exact .base (.bl b)
  | int b => cases e; exact .base (.int b)
  | str b => cases e; exact .base (.str _)
  | tup h rs => cases e; exact .base (.tup h)
  | @ref A n hn =>
    simp only [tyD] at e
    split at e
    · rename_i l e1; cases e; obtain ⟨vs, h, q⟩ := w.at hn e1; exact .base (.lst h)
    · rename_i l e1; cases e; obtain ⟨vs, h, q⟩ := w.at hn e1
      rcases h with ⟨ob, h⟩ | ⟨ob, its, nn, h1, h2, _⟩
      · exact .base (.frz h)
      · exact .kList (hK ▸ h1) h2
    · rename_i l e1; cases e; obtain ⟨vs, h, q⟩ := w.at hn e1; exact .base (.dK h)
    · rename_i l e1; cases e; obtain ⟨vs, h, q⟩ := w.at hn e1; exact .base (.dT h)
    · cases e
def eIsi (T : String) (m : EM D) : EM D := e1 (fun d st => (tyD st d).bind fun t => (kitB t T).map fun b => (.bl b, st)) m
theorem de_isi {x : Str} {px : Pos} (T : String) (hg : Gl X x) (hm : X.mg x = none) (hx : x = "isinstance" := by rfl) {y : Str} (hgy : Gl X y) (hmy : X.mg y = none) (hvy : bootBuiltins y = some (.type T)) (hK : Γ.K = X.K) (h : DE X Γ W e m) (hny : y ≠ "__name__" := by decide) (hdy : (y == ("__debug__" : Str)) = false := by decide)
    (he : starEach [e, .Name y p2] X.env = (false, eval e X.env) :: starEach [.Name y p2] X.env := by rfl) (hpl : (backTo pos (starEach [.Name y p2] X.env)).any (·.1) = false := by rfl) (he2 : starEach [.Name y p2] X.env = (false, eval (.Name y p2) X.env) :: starEach [] X.env := by rfl) : DE X Γ W (.Call (.Name x px) [e, .Name y p2] [] pos) (eIsi T m) := by
  subst hx
  refine PE.weak (pe_callB call_isi hg hm (by decide +kernel) (pa_cons h (pa_cons (pe_bltn (v := .ty T) hgy hmy hvy rfl hny hdy) pa_nil he2) he) (by decide) (by decide) he hpl) fun σ H Q q => ?_
  obtain ⟨μ, env, st, w, s, o⟩ := q
  refine ⟨μ, env, st, w, s, (XO.bind (R := VRr Γ) o).mono ?_⟩
  rintro v H1 ⟨μ1, d, st1, p, t1, w1, r, o1⟩
  simp only at o1
  cases z : tyD st1 d with
  | none => rw [z] at o1; exact o1.elim
  | some t =>
    rw [z] at o1
    simp only [Option.bind_some] at o1
    cases z2 : kitB t T with
    | none => rw [z2] at o1; exact o1.elim
    | some k =>
      rw [z2] at o1
      exact ⟨v, .ty T, .type t, .type T, k, rfl, .ty T, tyD_ok hK w1 r z, kit_ty z2, XO.val o1 w1 (.bl k)⟩
end
end DL
/-! DL: in, slices, methods of built-in types. -/
namespace DL
open PySem L2
open PyProof.Rows (envOfC)

section
variable {X : Cx} {Γ : Gam} {W : WX} {a b c e o i : Expr} {es : List Expr} {ma mb mc m mo mi mv : EM D} {ms : EM (List D)} {pos p p2 pos' : Pos}
theorem de_pick {m1 m2 m : EM D} (h1 : DE X Γ W e m1) (h2 : DE X Γ W e m2) (hh : ∀ env st, m env st = m1 env st ∨ m env st = m2 env st) : DE X Γ W e m := by
  refine ⟨fun pins s σ H Q I q => ?_⟩
  obtain ⟨μ, env, st, w, s', o⟩ := q
  rcases hh env st with z | z <;> rw [z] at o
  · exact h1.run pins s σ H Q I ⟨μ, env, st, w, s', o⟩
  · exact h2.run pins s σ H Q I ⟨μ, env, st, w, s', o⟩
theorem dt_pick {m1 m2 m : EM Bool} (h1 : DT X Γ W e m1) (h2 : DT X Γ W e m2) (hh : ∀ env st, m env st = m1 env st ∨ m env st = m2 env st) : DT X Γ W e m := by
  refine ⟨fun pins s σ H Q I q => ?_⟩
  obtain ⟨μ, env, st, w, s', o⟩ := q
  rcases hh env st with z | z <;> rw [z] at o
  · exact h1.run pins s σ H Q I ⟨μ, env, st, w, s', o⟩
  · exact h2.run pins s σ H Q I ⟨μ, env, st, w, s', o⟩
theorem e2_pick {f g h : OpT} (hh : ∀ a b st, h a b st = f a b st ∨ h a b st = g a b st) (env : Env) (st : Store) : e2 h ma mb env st = e2 f ma mb env st ∨ e2 h ma mb env st = e2 g ma mb env st := by
  unfold e2
  cases ma env st with
  | ok d st1 =>
    simp only [Out.bind]
    cases mb env st1 with
    | ok d2 st2 => simp only; rcases hh d d2 st2 with q | q <;> rw [q] <;> simp
    | _ => simp
  | _ => simp [Out.bind]
theorem tB_pick {m m1 m2 : EM D} {env : Env} {st : Store} (h : m env st = m1 env st ∨ m env st = m2 env st) : tB m env st = tB m1 env st ∨ tB m env st = tB m2 env st := by
  unfold tB
  rcases h with q | q <;> rw [q] <;> simp

/-! ### in, not in -/
def flatD : D → Bool
  | .tup _ => false
  | .ref _ => false
  | _ => true
def eqF : D → D → Bool
  | .non, .non => true
  | .bl a, .bl b => a == b
  | .bl a, .int b => (if a then 1 else 0) == b
  | .int a, .bl b => a == (if b then 1 else 0)
  | .int a, .int b => a == b
  | .str a, .str b => a == b
  | _, _ => false
def inSeq (a : D) (l : List D) : Option Bool := if flatD a = true ∧ l.all flatD = true then some (l.any fun y => eqF y a) else none
def inDeep (a b : D) (st : Store) : Option Bool := match toPy st 8 a, toPy st 9 b with
  | some p, some (.list q) => if SeqAt.shaped p = true ∧ SeqAt.shaped (.list q) = true then some (q.any fun z => PyData.eqv z p) else none
  | _, _ => none
def inS (a b : D) (st : Store) : Option Bool := match b with
  | .str t => match a with
    | .str [c] => some (decide (c ∈ t))
    | _ => none
  | .tup l => inSeq a l
  | .ref n => match seqOf st n with
    | some l => match inSeq a l with
      | some c => some c
      | none => inDeep a b st
    | none => none
  | _ => none
def inK (a b : D) (st : Store) : Option Bool := match b with
  | .ref n => (dgetD st n a).map (·.isSome)
  | _ => none
def inD (a b : D) (st : Store) : Option Bool := if isDict st b = true then inK a b st else inS a b st
def oIn : OpT := fun a b st => (inD a b st).map fun c => (.bl c, st)
def oNotIn : OpT := fun a b st => (inD a b st).map fun c => (.bl (!c), st)
theorem flat_v {μ : List Addr} {H : Hp} {v : V} {d : D} (r : VR Γ μ H v d) (f : flatD d = true) : flatV v = true := by cases r <;> first | rfl | cases f
theorem flat_vs {μ : List Addr} {H : Hp} : ∀ {vs : List V} {ds : List D}, VRs Γ μ H vs ds → ds.all flatD = true → vs.all flatV = true
  | _, _, .nil, _ => rfl
  | _, _, .cons r rs, h => by
    rw [List.all_cons, Bool.and_eq_true] at h ⊢
    exact ⟨flat_v r h.1, flat_vs rs h.2⟩
theorem eqF_v {μ : List Addr} {H : Hp} {v w : V} {d e : D} (r : VR Γ μ H v d) (q : VR Γ μ H w e) : eqV v w = eqF d e := by
  cases r <;> cases q <;> first
    | rfl
    | (simp only [eqV, eqF]; rename_i s t; by_cases h : s = t
       · subst h; simp
       · rw [beq_eq_false_iff_ne.mpr h, beq_eq_false_iff_ne.mpr fun z => h (sOf_inj z)])
theorem any_v {μ : List Addr} {H : Hp} {w : V} {e : D} (q : VR Γ μ H w e) : ∀ {vs : List V} {ds : List D}, VRs Γ μ H vs ds → inV w vs = ds.any fun y => eqF y e
  | _, _, .nil => rfl
  | _, _, .cons r rs => by
    have := any_v q rs
    unfold inV at this ⊢
    rw [List.any_cons, List.any_cons, eqF_v r q, this]
theorem toPy_list {st : Store} {k : Nat} {d : D} {q : List PyData} (e : toPy st k d = some (.list q)) : ∃ n, d = .ref n := by
  cases d with
  | ref n => exact ⟨n, rfl⟩
  | tup l => cases k with
    | zero => simp [toPy] at e
    | succ k =>
      simp only [toPy] at e
      cases z : l.mapM (toPy st k) <;> rw [z] at e <;> cases e
  | _ => cases k <;> simp [toPy] at e
theorem in_sim (hK : Γ.K = X.K) {op : CmpOp} (f : Bool → Bool) (h1 : OpR X (compareOp op) fun x y H Q => ∃ p xs, y = .ref p ∧ (SqL X.K H p xs ∨ SqT X.K H p xs) ∧ flatV x = true ∧ xs.all flatV = true ∧ Q (.bl (f (inV x xs))) H)
    (h2 : OpR X (compareOp op) fun x y H Q => ∃ d ds, Dp X.K H x d ∧ Dp X.K H y (.list ds) ∧ SeqAt.shaped d = true ∧ SeqAt.shaped (.list ds) = true ∧ Q (.bl (f (ds.any fun z => PyData.eqv z d))) H)
    (h3 : OpR X (compareOp op) fun x y H Q => ∃ (c : Nat) (z : Str), x = .str ⟨#[c]⟩ ∧ y = .str z ∧ Q (.bl (f (decide (c ∈ z.cps.toList)))) H) :
    OpD X Γ (compareOp op) fun a b st => (inS a b st).map fun c => (.bl (f c), st) := by
  intro pins s σ H x y v u Q I rx ry h
  obtain ⟨μ, st, a, b, w, ra, rb, o⟩ := h
  simp only at o
  unfold inS at o
  split at o
  · split at o
    · cases ra; cases rb
      exact h3 pins s σ H _ _ v u Q I rx ry ⟨_, _, rfl, rfl, OO.val (d := D.bl _) o w (.bl _)⟩
    · exact o.elim
  · rename_i l
    unfold inSeq at o
    split at o
    · rename_i hf
      cases rb with
      | tup h rs => exact h1 pins s σ H _ _ v u Q I rx ry ⟨_, _, rfl, .inr (SqT.of h), flat_v ra hf.1, flat_vs rs hf.2, by rw [any_v ra rs]; exact OO.val (d := D.bl _) o w (.bl _)⟩
    · exact o.elim
  · rename_i n
    split at o
    · rename_i l zl
      cases rb with
      | ref hn =>
        obtain ⟨vs, hs, rs⟩ := seqOf_sq w zl hn
        split at o
        · rename_i cc zc
          unfold inSeq at zc
          split at zc
          · rename_i hf
            cases zc
            exact h1 pins s σ H _ _ v u Q I rx ry ⟨_, _, rfl, .inl (hK ▸ hs), flat_v ra hf.1, flat_vs rs hf.2, by rw [any_v ra rs]; exact OO.val (d := D.bl _) o w (.bl _)⟩
          · cases zc
        · unfold inDeep at o
          split at o
          · rename_i p q zp zq
            split at o
            · rename_i hh
              exact h2 pins s σ H _ _ v u Q I rx ry ⟨p, q, dp_of hK w 8 _ _ _ zp ra, dp_of hK w 9 _ _ _ zq (.ref hn), hh.1, hh.2, OO.val (d := D.bl _) o w (.bl _)⟩
            · exact o.elim
          · exact o.elim
    · exact o.elim
  · exact o.elim
theorem od_in (hK : Γ.K = X.K) (hu : X.A.units + 65 < cLine) : OpD X Γ (compareOp .In) fun a b st => (inS a b st).map fun c => (.bl c, st) := in_sim hK id op_in_seq (op_inD hu) op_in_sign
theorem od_notin (hK : Γ.K = X.K) (hu : X.A.units + 65 < cLine) : OpD X Γ (compareOp .NotIn) fun a b st => (inS a b st).map fun c => (.bl (!c), st) := in_sim hK not op_notIn_seq (op_notInD hu) op_notIn_sign
theorem dk_sim {f : Bool → Bool} {σ : L2.St} {H : Hp} {Q : VK} (q : simX Γ W (VRr Γ) (e2 (fun a b st => (inK a b st).map fun c => (.bl (f c), st)) ma mb) σ H Q) :
    (simX Γ W (VRr Γ) ma) σ H fun y H1 => (simX Γ W (VRr Γ) mb) σ H1 fun x H2 => ∃ a o, x = .ref a ∧ DGet H2 a y o ∧ Q (.bl (f o.isSome)) H2 := by
  obtain ⟨μ, env, st, w, s, o⟩ := q
  refine ⟨μ, env, st, w, s, (XO.bind (R := VRr Γ) o).mono ?_⟩
  rintro v H1 ⟨μ1, d, st1, p, t1, w1, r, o1⟩
  refine ⟨μ1, env, st1, w1, s.mono p t1, (XO.bind (R := VRr Γ) o1).mono ?_⟩
  rintro v2 H2 ⟨μ2, d2, st2, p2, t2, w2, r2, o2⟩
  have o2 := o2.oo
  unfold inK at o2
  cases r2 with
  | @ref A n hn =>
    simp only at o2
    cases z : dgetD st2 n d with
    | none => rw [z] at o2; exact o2.elim
    | some rr =>
      rw [z] at o2
      obtain ⟨oo, g, h1, h⟩ := dget_sim w2 hn (r.mono p2 t2) z
      exact ⟨A, oo, rfl, g, by rw [h1]; exact OO.val (d := D.bl _) o2 w2 (.bl _)⟩
  | _ => exact o2.elim
theorem de_in (hK : Γ.K = X.K) (hu : X.A.units + 65 < cLine) (ha : DE X Γ W a ma) (hb : DE X Γ W b mb) (hm : behindInMarks .In b = false := by rfl) : DE X Γ W (.Compare a [.In] [b] pos) (e2 oIn ma mb) :=
  de_pick (PE.weak (pe_cmp (pc_din (by omega) ha hb) hm) fun _ _ _ q => dk_sim (f := id) q) (de_cmp (od_in hK hu) ha hb hm) (e2_pick fun a b st => by unfold oIn inD; split <;> simp)
theorem de_notin (hK : Γ.K = X.K) (hu : X.A.units + 65 < cLine) (ha : DE X Γ W a ma) (hb : DE X Γ W b mb) (hm : behindInMarks .NotIn b = false := by rfl) : DE X Γ W (.Compare a [.NotIn] [b] pos) (e2 oNotIn ma mb) :=
  de_pick (PE.weak (pe_cmp (pc_dnotin (by omega) ha hb) hm) fun _ _ _ q => dk_sim (f := not) q) (de_cmp (od_notin hK hu) ha hb hm) (e2_pick fun a b st => by unfold oNotIn inD; split <;> simp)
theorem dt_in (hK : Γ.K = X.K) (hu : X.A.units + 65 < cLine) (ha : DE X Γ W a ma) (hb : DE X Γ W b mb) (hm : behindInMarks .In b = false := by rfl) : DT X Γ W (.Compare a [.In] [b] pos) (tB (e2 oIn ma mb)) :=
  dt_pick (PT.weak (pt_cmp (pc_din (by omega) ha hb) hm) fun _ _ _ q => tB_sim (fun _ _ _ => dk_sim (f := id)) q) (dt_cmp (od_in hK hu) ha hb hm) fun env st => tB_pick (e2_pick (fun a b st => by unfold oIn inD; split <;> simp) env st)
theorem dt_notin (hK : Γ.K = X.K) (hu : X.A.units + 65 < cLine) (ha : DE X Γ W a ma) (hb : DE X Γ W b mb) (hm : behindInMarks .NotIn b = false := by rfl) : DT X Γ W (.Compare a [.NotIn] [b] pos) (tB (e2 oNotIn ma mb)) :=
  dt_pick (PT.weak (pt_cmp (pc_dnotin (by omega) ha hb) hm) fun _ _ _ q => tB_sim (fun _ _ _ => dk_sim (f := not)) q) (dt_cmp (od_notin hK hu) ha hb hm) fun env st => tB_pick (e2_pick (fun a b st => by unfold oNotIn inD; split <;> simp) env st)

/-! ### slices -/
def cutL {α : Type} (l : List α) (lo hi : Option Int) : List α := (l.drop (HT.sIx l.length 0 lo)).take (HT.sIx l.length l.length hi - HT.sIx l.length 0 lo)
abbrev EO := EM (Option Int)
def oNo : EO := fun _ st => .ok none st
def oSo (m : EM D) : EO := fun env st => (m env st).bind fun d st => match d with
  | .int i => .ok (some i) st
  | _ => .bad
def sliceD (d : D) (lo hi : Option Int) (st : Store) : Option (D × Store) := match d with
  | .str s => if s.length ≤ sizeLine then some (.str (cutL s lo hi), st) else none
  | .tup l => some (.tup (cutL l lo hi), st)
  | .ref n => (seqOf st n).map fun l => (.ref st.length, st ++ [.lst (cutL l lo hi)])
  | _ => none
def eSli (m : EM D) (lo hi : EO) : EM D := fun env st => (m env st).bind fun d st => (lo env st).bind fun l st => (hi env st).bind fun h st => .of (sliceD d l h st)
abbrev DOp (X : Cx) (Γ : Gam) (W : WX) (e : Option Expr) (m : EO) : Prop := PO X e (simX Γ W (fun _ _ (x y : Option Int) => x = y) m)
theorem do_none : DOp X Γ W none oNo := ⟨fun pins s σ H Q I q => (po_none (X := X)).run pins s σ H Q I (by obtain ⟨μ, env, st, w, s, o⟩ := q; exact XO.val o w rfl)⟩
theorem do_some (h : DE X Γ W e m) : DOp X Γ W (some e) (oSo m) := ⟨fun pins s σ H Q I q => (po_some h).run pins s σ H Q I (by
  obtain ⟨μ, env, st, w, s, o⟩ := q
  refine ⟨μ, env, st, w, s, (XO.bind (R := VRr Γ) o).mono ?_⟩
  rintro v H1 ⟨μ1, d, st1, p, t1, w1, r, o1⟩
  cases r with
  | int i => exact ⟨i, rfl, XO.val o1 w1 rfl⟩
  | _ => exact o1.elim)⟩
theorem cutS_list (s : List Nat) (lo hi : Option Int) : cutS (sOf s) lo hi = sOf (cutL s lo hi) := by
  unfold cutS cutL
  rw [sOf_len]
theorem cut_vrs {μ : List Addr} {H : Hp} {vs : List V} {ds : List D} (r : VRs Γ μ H vs ds) (lo hi : Option Int) : VRs Γ μ H (cutV vs lo hi) (cutL ds lo hi) := by
  unfold cutV cutL
  rw [r.length]
  exact (r.drop _).take _
theorem cut_all {α : Type} (l : List α) {lo hi : Option Int} (h : HT.sIx l.length 0 lo = 0 ∧ HT.sIx l.length l.length hi = l.length) : cutL l lo hi = l := by
  unfold cutL
  rw [h.1, h.2]
  simp
theorem sl_all (hK : Γ.K = X.K) : SlR X fun x lo hi H Q => ∃ μ st d, Wd Γ μ H st ∧ VR Γ μ H x d ∧ OO Γ (VRr Γ) μ H Q (sliceD d lo hi st) := by
  intro pins s σ H x v vl vu lo hi sl Q I rx hs pl pu q
  obtain ⟨μ, st, d, w, r, o⟩ := q
  unfold sliceD at o
  split at o
  · split at o
    · rename_i hl
      cases r
      exact sl_str pins s σ H _ v vl vu lo hi sl Q I rx hs pl pu ⟨_, rfl, by rw [sOf_len]; exact hl, by rw [cutS_list]; exact o.val w (.str _)⟩
    · exact o.elim
  · cases r with
    | tup h rs =>
      refine sl_tupA pins s σ H _ v vl vu lo hi sl Q I rx hs pl pu ⟨_, _, rfl, SqT.of h, fun z => ?_, fun z p hp => ?_⟩
      · rw [rs.length] at z
        rw [cut_all _ z] at o
        exact o.val w (.tup h rs)
      · exact o.tupN w hp (cut_vrs rs lo hi)
  · rename_i n
    cases z : seqOf st n with
    | none => rw [z] at o; exact o.elim
    | some l =>
      rw [z] at o
      cases r with
      | ref hn =>
        obtain ⟨vs, hq, rs⟩ := seqOf_sq w z hn
        exact sl_list pins s σ H _ v vl vu lo hi sl Q I rx hs pl pu ⟨_, _, rfl, hK ▸ hq, fun p hp => OO.new (R := VRr Γ) o w hp ⟨_, upd_same, (cut_vrs rs lo hi).mono (List.prefix_append _ _) (TStay.new hp)⟩⟩
  · exact o.elim
theorem de_slice {lo hi : Option Expr} {ml mh : EO} (hK : Γ.K = X.K) (he : DE X Γ W e m) (hl : DOp X Γ W lo ml) (hu : DOp X Γ W hi mh) : DE X Γ W (.Subscript e (.Slice lo hi none p2) pos) (eSli m ml mh) := by
  refine PE.weak (pe_slice (sl_all hK) he hl hu) fun σ H Q q => ?_
  obtain ⟨μ, env, st, w, s, o⟩ := q
  refine ⟨μ, env, st, w, s, (XO.bind (R := VRr Γ) o).mono ?_⟩
  rintro v H1 ⟨μ1, d, st1, p, t1, w1, r, o1⟩
  refine ⟨μ1, env, st1, w1, s.mono p t1, (XO.bind (R := fun _ _ (x y : Option Int) => x = y) o1).mono ?_⟩
  rintro l H2 ⟨μ2, l', st2, p2, t2, w2, rfl, o2⟩
  refine ⟨μ2, env, st2, w2, (s.mono p t1).mono p2 t2, (XO.bind (R := fun _ _ (x y : Option Int) => x = y) o2).mono ?_⟩
  rintro h H3 ⟨μ3, h', st3, p3, t3, w3, rfl, o3⟩
  exact ⟨μ3, st3, d, w3, (r.mono p2 t2).mono p3 t3, o3.oo⟩

/-! ### methods of built-in types -/
abbrev MopT := D → List D → Store → Option (D × Store)
def isT (T : String) (d : D) (st : Store) : Bool := match d with
  | .str _ => T == "str"
  | .ref n => T == "list" && (seqOf st n).isSome
  | _ => false
def eBM (T : String) (op : MopT) (mo : EM D) (ms : EM (List D)) : EM D := fun env st => (mo env st).bind fun d st => if isT T d st = true then (ms env st).bind fun ds st => .of (op d ds st) else .bad
def MtD (X : Cx) (Γ : Gam) (id : String) (op : MopT) : Prop := MtR X id fun x xs H Q => ∃ μ st d ds, Wd Γ μ H st ∧ VR Γ μ H x d ∧ VRs Γ μ H xs ds ∧ OO Γ (VRr Γ) μ H Q (op d ds st)
theorem isT_ok (hK : Γ.K = X.K) {μ : List Addr} {H : Hp} {st : Store} {T : String} (w : Wd Γ μ H st) {v : V} {d : D} (r : VR Γ μ H v d) (h : isT T d st = true) : tyV X.K T v H := by
  unfold isT at h
  split at h
  · cases r; exact beq_iff_eq.mp h
  · rename_i n
    rw [Bool.and_eq_true] at h
    cases r with
    | ref hn =>
      cases z : seqOf st n with
      | none => rw [z] at h; cases h.2
      | some l =>
        obtain ⟨vs, hq, rs⟩ := seqOf_sq w z hn
        exact .inl ⟨beq_iff_eq.mp h.1, vs, hK ▸ hq⟩
  · cases h
theorem bm_sim (hK : Γ.K = X.K) {T : String} {op : MopT} {t : TA} (ht : ∀ σ H Q, simX Γ W (VRsr Γ) ms σ H Q → t σ H Q) {σ : L2.St} {H : Hp} {Q : VK} (q : simX Γ W (VRr Γ) (eBM T op mo ms) σ H Q) :
    (simX Γ W (VRr Γ) mo) σ H fun x H1 => tyV X.K T x H1 ∧ t σ H1 fun xs H2 => ∃ μ st d ds, Wd Γ μ H2 st ∧ VR Γ μ H2 x d ∧ VRs Γ μ H2 xs ds ∧ OO Γ (VRr Γ) μ H2 Q (op d ds st) := by
  obtain ⟨μ, env, st, w, s, o⟩ := q
  refine ⟨μ, env, st, w, s, (XO.bind (R := VRr Γ) o).mono ?_⟩
  rintro v H1 ⟨μ1, d, st1, p, t1, w1, r, o1⟩
  split at o1
  · rename_i hT
    refine ⟨isT_ok hK w1 r hT, ht _ _ _ ⟨μ1, env, st1, w1, s.mono p t1, (XO.bind (R := VRsr Γ) o1).mono ?_⟩⟩
    rintro vs H2 ⟨μ2, ds, st2, p2, t2, w2, r2, o2⟩
    exact ⟨μ2, st2, d, ds, w2, r.mono p2 t2, r2, o2.oo⟩
  · exact o1.elim
theorem de_bm {T id : String} {name : Str} {apos cpos : Pos} {op : MopT} (hK : Γ.K = X.K) (pa : PlainAttrs T) (slot : Slot T name id) (hty : typeOf (.builtin id) = pure (.type "method_descriptor")) (hm : MtD X Γ id op) (ho : DE X Γ W o mo) (ha : DA X Γ W (e :: es) ms)
    (hbase : attributeBase o name X.env (eval o X.env) = eval o X.env := by rfl)
    (hfew : ((backTo cpos (starEach (e :: es) X.env)).all (fun x => !x.1) && (backToKw cpos (keywordEach [] X.env)).all (fun x => x.1.isSome) && decide ((e :: es).length + ([] : List Keyword).length + (if ([] : List Keyword).isEmpty then 0 else 1) < 30)) = true := by rfl)
    (hline : (apos.endLine == cpos.line) = true := by rfl) (hs : starEach (e :: es) X.env = (false, eval e X.env) :: starEach es X.env := by rfl) (hplain : (backTo cpos (starEach es X.env)).any (·.1) = false := by rfl) :
    DE X Γ W (.Call (.Attribute o name apos) (e :: es) [] cpos) (eBM T op mo ms) :=
  PE.weak (pe_bm pa slot hty hm ho ha hbase hfew hline hs hplain) fun _ _ _ q => bm_sim hK (fun _ _ _ h => h) q
theorem de_bm0 {T id : String} {name : Str} {apos cpos : Pos} {op : MopT} (hK : Γ.K = X.K) (pa : PlainAttrs T) (slot : Slot T name id) (hty : typeOf (.builtin id) = pure (.type "method_descriptor")) (hm : MtD X Γ id op) (ho : DE X Γ W o mo)
    (hbase : attributeBase o name X.env (eval o X.env) = eval o X.env := by rfl) (hline : (apos.endLine == cpos.line) = true := by rfl) : DE X Γ W (.Call (.Attribute o name apos) [] [] cpos) (eBM T op mo eNil) := by
  refine PE.weak (pe_bm0 pa slot hty hm ho hbase hline) fun σ H Q q => ?_
  have := bm_sim (t := tNil) hK (fun σ H Q ⟨_, _, _, w, _, o⟩ => o.val w .nil) q
  exact this

def mAppend : MopT := fun d ds st => match d, ds with
  | .ref n, [x] => match st[n]? with
    | some (.lst l) => if l.length < sizeLine then some (.non, st.set n (.lst (l ++ [x]))) else none
    | _ => none
  | _, _ => none
theorem OO.set {μ : List Addr} {H : Hp} {Q : VK} {st : Store} {n : Nat} {A : Addr} {u ho : HO} {o' ob : Ob} {d : D} {v : V} (h : OO Γ (VRr Γ) μ H Q (some (d, st.set n ob))) (w : Wd Γ μ H st) (hn : μ[n]? = some A) (hu : H A = some u) (nt : ∀ vs, u ≠ .tup vs) (nf : ∀ o v, u ≠ .frz o v) (hs : st[n]? = some o') (no : ∀ l, o' ≠ .frz l)
    (r : OR Γ μ (upd H A ho) A ob) (rv : VR Γ μ H v d) : Q v (upd H A ho) :=
  h μ _ _ (List.prefix_refl _) (TStay.at hu nt) (w.set hn hu nt nf hs no r) (rv.mono (List.prefix_refl _) (TStay.at hu nt))
theorem md_append : MtD X Γ "list.append" mAppend := by
  intro pins s σ H x xs v us Q I rx rs h
  obtain ⟨μ, st, d, ds, w, r, q, o⟩ := h
  unfold mAppend at o
  split at o
  · split at o
    · rename_i l zl
      split at o
      · rename_i hl
        cases r with
        | ref hn =>
          obtain ⟨y, rfl, ry⟩ := vrs1 q
          obtain ⟨vs, hv, rl⟩ := w.at hn zl
          have tt : TStay H (upd H _ (.lst (vs ++ [y]))) := TStay.at hv (by intro vs e; cases e)
          exact mt_append pins s σ H _ _ v us Q I rx rs ⟨_, vs, y, rfl, rfl, hv, by rw [rl.length]; exact hl, OO.set (ho := .lst (vs ++ [y])) o w hn hv (by intro vs e; cases e) (by intro o v e; cases e) zl (by intro l e; cases e) ⟨_, upd_same, (rl.append (.one ry)).mono (List.prefix_refl _) tt⟩ .non⟩
      · exact o.elim
    · exact o.elim
  · exact o.elim
def mPop : MopT := fun d ds st => match d, ds with
  | .ref n, [.int i] => match st[n]? with
    | some (.lst l) => match ixN l.length i with
      | some k => match l[k]? with
        | some x => some (x, st.set n (.lst (l.eraseIdx k)))
        | none => none
      | none => none
    | _ => none
  | _, _ => none
theorem vrs_line {μ : List Addr} {H : Hp} {A : Addr} {xs : List V} {pins : List (Addr × PySem.Obj)} {σ : L2.St} {s : Shared} (I : Inv X pins σ H s) (h : H A = some (.lst xs)) : xs.length ≤ sizeLine := (I.hok A _ h).1
theorem md_pop : MtD X Γ "list.pop" mPop := by
  intro pins s σ H x xs v us Q I rx rs h
  obtain ⟨μ, st, d, ds, w, r, q, o⟩ := h
  unfold mPop at o
  split at o
  · split at o
    · rename_i l zl
      split at o
      · rename_i k hk
        split at o
        · rename_i y hy
          cases r with
          | ref hn =>
            obtain ⟨z, rfl, rz⟩ := vrs1 q
            cases rz
            obtain ⟨vs, hv, rl⟩ := w.at hn zl
            obtain ⟨y', hy', ry⟩ := rl.get hy
            have tt : TStay H (upd H _ (.lst (vs.eraseIdx k))) := TStay.at hv (by intro vs e; cases e)
            obtain ⟨h1, h2, h3, h4⟩ := ixN_seq hk
            have hz := vrs_line (μ := μ) I hv
            rw [rl.length, sizeLine_eq] at hz
            exact mt_popAt pins s σ H _ _ v us Q I rx rs ⟨_, vs, _, k, y', rfl, rfl, hv, by omega, by omega, by rw [rl.length]; exact h1, hy', OO.set (ho := .lst (vs.eraseIdx k)) o w hn hv (by intro vs e; cases e) (by intro o v e; cases e) zl (by intro l e; cases e) ⟨_, upd_same, (rl.eraseIdx k).mono (List.prefix_refl _) tt⟩ ry⟩
        · exact o.elim
      · exact o.elim
    · exact o.elim
  · exact o.elim
def mClear : MopT := fun d ds st => match d, ds with
  | .ref n, [] => match st[n]? with
    | some (.lst l) => some (.non, st.set n (.lst []))
    | _ => none
  | _, _ => none
theorem md_clear : MtD X Γ "list.clear" mClear := by
  intro pins s σ H x xs v us Q I rx rs h
  obtain ⟨μ, st, d, ds, w, r, q, o⟩ := h
  unfold mClear at o
  split at o
  · split at o
    · rename_i l zl
      cases r with
      | ref hn =>
        cases q
        obtain ⟨vs, hv, rl⟩ := w.at hn zl
        exact mt_clear pins s σ H _ _ v us Q I rx rs ⟨_, vs, rfl, rfl, hv, OO.set (ho := .lst []) o w hn hv (by intro vs e; cases e) (by intro o v e; cases e) zl (by intro l e; cases e) ⟨_, upd_same, .nil⟩ .non⟩
    · exact o.elim
  · exact o.elim
def mRev : MopT := fun d ds st => match d, ds with
  | .ref n, [] => match st[n]? with
    | some (.lst l) => some (.non, st.set n (.lst l.reverse))
    | _ => none
  | _, _ => none
theorem md_rev : MtD X Γ "list.reverse" mRev := by
  intro pins s σ H x xs v us Q I rx rs h
  obtain ⟨μ, st, d, ds, w, r, q, o⟩ := h
  unfold mRev at o
  split at o
  · split at o
    · rename_i l zl
      cases r with
      | ref hn =>
        cases q
        obtain ⟨vs, hv, rl⟩ := w.at hn zl
        have tt : TStay H (upd H _ (.lst vs.reverse)) := TStay.at hv (by intro vs e; cases e)
        exact mt_reverse pins s σ H _ _ v us Q I rx rs ⟨_, vs, rfl, rfl, hv, OO.set (ho := .lst vs.reverse) o w hn hv (by intro vs e; cases e) (by intro o v e; cases e) zl (by intro l e; cases e) ⟨_, upd_same, rl.reverse.mono (List.prefix_refl _) tt⟩ .non⟩
    · exact o.elim
  · exact o.elim
end
end DL
/-! DL: methods of texts and dicts, sorted. -/
namespace DL
section
open PySem L2 PySem.Spec PyProof.Rows
/-- sorted(d) of a dict, all keys ints, any number of them -/
theorem call_sortedAny {X : Cx} (hcalm : X.calm = true) : CallR X (.builtin "sorted") (fun xs H Q => ∃ (a : Addr) (kvs : List (L2.Key × V)) (ks : List Int), xs = [.ref a] ∧ Rd H a (.dK kvs) ∧ kvs.map (·.1) = ks.map Sum.inl ∧ ks.length ≤ sizeLine ∧
    ∀ (ys : List Int) (p : Addr), ys.Perm ks → ys.Pairwise (· ≤ ·) → H p = none → Q (.ref p) (upd H p (.lst (ys.map V.int)))) := by
  intro pins s σ H xs us Q I r q
  obtain ⟨a, kvs, ks, ex, hd, hks, h64, q⟩ := q
  subst ex
  obtain ⟨u, eu, rx⟩ := vals1 r
  subst eu
  cases rx
  obtain ⟨z, lo, vs, rel, dd⟩ := dk_rd I.hok hd
  obtain ⟨ep, hat⟩ := dd.dictAt
  have hkeys : vs.map (·.1) = ks.map Sum.inl := rel.keys.symm.trans hks
  have hl : vs.length = ks.length := by
    have e := congrArg List.length hkeys
    rw [List.length_map, List.length_map] at e
    exact e
  have h16 : vs.length ≤ sizeLine := by rw [hl]; exact h64
  refine Calls.call_function_entry PyProof.Rows.kind_sorted PyProof.Rows.plain_sorted PyProof.Rows.entry_sorted (PyProof.Rows.args_sorted1 _) ?_
  unfold Builtin.«sorted»
  refine wpAny_bind (m := checkCount "sorted" 1 1 _) (wpAny_pure ?_)
  refine wpAny_bind (PySem.W.kdu_collect (A := X.A.in1) (PySem.W.kdl_dict (knd := mixKind X.prog X.w) (kvs := vs) (ep := ep) lo) (I.ok.hd hcalm) hat h16 fun h' tk acc hk hacc => ?_)
  have hal : acc.toList.length = ks.length := by rw [Array.length_toList, hacc.1, hl]
  have hS : IntsAre acc.toList ks := ints_each hal fun j v e => by
    obtain ⟨k, x, e1, e2⟩ := hacc.2 j v (by rw [← Array.getElem?_toList]; exact e)
    have e3 : (vs.map (·.1))[j]? = some k := by rw [List.getElem?_map, e1]; rfl
    rw [hkeys, List.getElem?_map] at e3
    cases e4 : ks[j]? with
    | none => rw [e4] at e3; cases e3
    | some y =>
      rw [e4] at e3
      have e5 : Sum.inl y = k := Option.some.inj e3
      subst e5
      rcases keyIs_shape (show keyIs (Sum.inl y) v = true from e2) with ⟨i, t, ek, ev⟩ | ⟨z, t, ek, ev⟩
      · cases ek
        exact ⟨y, t, rfl, ev⟩
      · cases ek
  have I1 : Inv X pins σ H { s with heap := h', toks := tk } := I.kept hk
  refine wpAny_bind (wpAny_newList ?_ (by rw [hal]; exact h64))
  have hoL : (h'.push (seqObj "list" acc.toList.toArray 0)).get? h'.objs.size = some (seqObj "list" acc.toList.toArray 0) := Heap.get?_push_size _ rfl
  show wpAny _ _ _ _ _ { s with heap := h'.push (seqObj "list" acc.toList.toArray 0), toks := tk }
  refine wpAny_bind (wpAny_holding (wpAny_call_entry PyProof.Rows.slot_list_sort ⟨_, hoL, rfl⟩ PyProof.Rows.entry_list_sort
    (SrtO.list_sort_ord (s := { s with heap := h'.push (seqObj "list" acc.toList.toArray 0), toks := tk }) SrtO.swo_int hoL (by rw [hal]; exact h64) (fun h2 => SrtO.ints_sortable hS h2) fun out h1 h2 => ⟨_, rfl, ?_⟩) (PyProof.Rows.args_list_sort _)))
  obtain ⟨k1, k2, k3⟩ := SrtO.ints_out hS h1 h2
  obtain ⟨e', he'⟩ := PyProof.Rows.sortedHeap_at (vs := acc.toList) (out := out.toArray) hoL
  have hlen : ((out.map SrtO.iv).map V.int).length ≤ sizeLine := by
    rw [List.length_map, k2.length_eq]
    exact h64
  refine wpAny_pure ⟨_, rfl, .ref h'.objs.size, upd H h'.objs.size (.lst ((out.map SrtO.iv).map V.int)), I1.laid (t' := tk) (fun b u e => ?_) (Nat.le_refl _)
    (show ObjOk X.prog X.w _ _ _ (.lst ((out.map SrtO.iv).map V.int)) from ⟨hlen, out, e', vals_of_ints k1, he'⟩), rfl, q _ _ k2 k3 (I1.hok.fresh (Nat.le_refl _))⟩
  have hb : b < h'.objs.size := Heap.lt_size e
  rw [PyProof.Rows.sortedHeap_old (Nat.ne_of_lt hb) (by rw [size_push']; exact Nat.lt_succ_of_lt hb)]
  exact Heap.get?_push_of_some _ e
end
open PySem L2
open PyProof.Rows (envOfC)

section
variable {X : Cx} {Γ : Gam} {W : WX} {a b c e f o i : Expr} {es : List Expr} {ma mb mc m mo mi mv mx : EM D} {ms : EM (List D)} {pos p p2 pos' apos cpos : Pos}
/-! ### texts -/
def mSplit : MopT := fun d ds st => match d, ds with
  | .str s, [.str t] => if t ≠ [] ∧ t.all (fun c => decide (c < 256)) = true ∧ s.length + 2 ≤ sizeLine then some (.ref st.length, st ++ [Ob.lst ((TL.spl t 0 [] s).map .str)]) else none
  | _, _ => none
theorem vrs_strs {μ : List Addr} {H : Hp} : ∀ l : List Str, VRs Γ μ H (l.map V.str) ((l.map TL.tl).map D.str)
  | [] => .nil
  | x :: l => .cons (by have := VR.str (Γ := Γ) (μ := μ) (H := H) (TL.tl x); rwa [show sOf (TL.tl x) = x from TL.mk_tl x] at this) (vrs_strs l)
theorem md_split : MtD X Γ "str.split" mSplit := by
  intro pins s σ H x xs v us Q I rx rs h
  obtain ⟨μ, st, d, ds, w, r, q, o⟩ := h
  unfold mSplit at o
  split at o
  · rename_i s t
    split at o
    · rename_i hh
      cases r
      obtain ⟨z, rfl, rz⟩ := vrs1 q
      cases rz
      refine mt_split pins _ σ H _ _ v us Q I rx rs ⟨_, _, rfl, rfl, ?_, by rw [sOf_len]; exact hh.2.2, fun p hp => ?_⟩
      · rw [sOf_len]; cases t with
        | nil => exact absurd rfl hh.1
        | cons _ _ => rfl
      · have e : (Txt.split (sOf s) (sOf t)).map TL.tl = TL.spl t 0 [] s := TL.split_spl _ _ (by simpa using hh.1) (TL.kind_ok (by simpa [Array.all_eq_true, List.all_eq_true] using hh.2.1))
        rw [← e] at o
        exact OO.new (R := VRr Γ) o w hp ⟨_, upd_same, vrs_strs _⟩
    · exact o.elim
  · exact o.elim
def parD (s t : List Nat) : D := match TL.par t [] s with
  | some (a, b) => .tup [.str a, .str t, .str b]
  | none => .tup [.str s, .str [], .str []]
def mPart : MopT := fun d ds st => match d, ds with
  | .str s, [.str t] => if t ≠ [] ∧ s.length ≤ sizeLine then some (parD s t, st) else none
  | _, _ => none
def joinD (s : List Nat) (l : List D) : Option D := match strsD l with
  | some ys => if (ys.map (·.length)).sum + ys.length * s.length ≤ 16777216 then some (.str (TL.joinL s ys)) else none
  | none => none
def mJoin : MopT := fun d ds st => match d, ds with
  | .str s, [.tup l] => (joinD s l).map fun d => (d, st)
  | .str s, [.ref n] => (seqOf st n).bind fun l => (joinD s l).map fun d => (d, st)
  | _, _ => none
theorem join_val {s : List Nat} {ys : List (List Nat)} : Txt.join (sOf s) (ys.map sOf) = sOf (TL.joinL s ys) := by
  rw [TL.join_eq]
  refine TL.ext_tl ?_
  rw [TL.tl_join]
  simp [List.map_map, Function.comp_def]
theorem md_join (hK : Γ.K = X.K) : MtD X Γ "str.join" mJoin := by
  intro pins s σ H x xs v us Q I rx rs h
  obtain ⟨μ, st, d, ds, w, r, q, o⟩ := h
  unfold mJoin at o
  split at o
  · rename_i s l
    cases r
    obtain ⟨z, rfl, rz⟩ := vrs1 q
    cases rz with
    | tup h rs' =>
      unfold joinD at o
      cases e : strsD l with
      | none => rw [e] at o; exact o.elim
      | some ys =>
        rw [e] at o
        simp only at o
        split at o
        · rename_i hh
          have := vrs_strsD e rs'
          subst this
          refine mt_join pins _ σ H _ _ v us Q I rx rs ⟨_, _, ys.map sOf, rfl, rfl, .inr (SqT.of h), ?_, by rw [join_val]; exact OO.val o w (.str _)⟩
          rw [List.map_map, List.length_map, sOf_len]
          simpa [Function.comp_def, Str.length] using hh
        · exact o.elim
  · rename_i s n
    cases r
    obtain ⟨z, rfl, rz⟩ := vrs1 q
    cases rz with
    | ref hn =>
      cases zl : seqOf st n with
      | none => rw [zl] at o; exact o.elim
      | some l =>
        rw [zl] at o
        simp only [Option.bind_some] at o
        obtain ⟨vs, hs, rs'⟩ := seqOf_sq w zl hn
        unfold joinD at o
        cases e : strsD l with
        | none => rw [e] at o; exact o.elim
        | some ys =>
          rw [e] at o
          simp only at o
          split at o
          · rename_i hh
            have := vrs_strsD e rs'
            subst this
            refine mt_join pins _ σ H _ _ v us Q I rx rs ⟨_, _, ys.map sOf, rfl, rfl, .inl (hK ▸ hs), ?_, by rw [join_val]; exact OO.val o w (.str _)⟩
            rw [List.map_map, List.length_map, sOf_len]
            simpa [Function.comp_def, Str.length] using hh
          · exact o.elim
  · exact o.elim
theorem md_part : MtD X Γ "str.partition" mPart := by
  intro pins s σ H x xs v us Q I rx rs h
  obtain ⟨μ, st, d, ds, w, r, q, o⟩ := h
  unfold mPart at o
  split at o
  · rename_i s t
    split at o
    · rename_i hh
      cases r
      obtain ⟨z, rfl, rz⟩ := vrs1 q
      cases rz
      refine mt_partition pins _ σ H _ _ v us Q I rx rs ⟨_, _, rfl, rfl, ?_, by rw [sOf_len]; exact hh.2, fun p hp => ?_⟩
      · rw [sOf_len]; cases t with
        | nil => exact absurd rfl hh.1
        | cons _ _ => rfl
      · have e := TL.partition_par (sOf s) (sOf t) (by simpa using hh.1)
        rw [e]
        unfold parD at o
        have e1 : TL.tl (sOf t) = t := rfl
        have e2 : TL.tl (sOf s) = s := rfl
        rw [e1, e2]
        cases z : TL.par t [] s with
        | none => rw [z] at o; exact OO.tupN o w hp (.cons (.str s) (.cons (.str []) (.cons (.str []) .nil)))
        | some ab => obtain ⟨a, b⟩ := ab; rw [z] at o; exact OO.tupN o w hp (.cons (.str a) (.cons (.str t) (.cons (.str b) .nil)))
    · exact o.elim
  · exact o.elim
def mZfill : MopT := fun d ds st => match d, ds with
  | .str s, [.int i] => if PadOk i = true then some (.str (TL.tl (Txt.zfill (sOf s) i)), st) else none
  | _, _ => none
theorem md_zfill : MtD X Γ "str.zfill" mZfill := by
  intro pins s σ H x xs v us Q I rx rs h
  obtain ⟨μ, st, d, ds, w, r, q, o⟩ := h
  unfold mZfill at o
  split at o
  · rename_i s t
    split at o
    · rename_i hh
      cases r
      obtain ⟨z, rfl, rz⟩ := vrs1 q
      cases rz
      exact mt_zfill pins _ σ H _ _ v us Q I rx rs ⟨_, _, rfl, rfl, hh, OO.val o w (VR.str (TL.tl _))⟩
    · exact o.elim
  · exact o.elim
def mFind : MopT := fun d ds st => match d, ds with
  | .str s, [.str t] => some (.int (Txt.find (sOf s) (sOf t)), st)
  | _, _ => none
theorem md_find : MtD X Γ "str.find" mFind := by
  intro pins s σ H x xs v us Q I rx rs h
  obtain ⟨μ, st, d, ds, w, r, q, o⟩ := h
  unfold mFind at o
  split at o
  · cases r
    obtain ⟨z, rfl, rz⟩ := vrs1 q
    cases rz
    exact mt_find pins _ σ H _ _ v us Q I rx rs ⟨_, _, rfl, rfl, OO.val o w (.int _)⟩
  · exact o.elim

/-! ### dicts: get, pop -/
def eGet1 (mo mi : EM D) : EM D := fun env st => (mo env st).bind fun d st => if isDict st d = true then (mi env st).bind fun k st => match d with
  | .ref n => match dgetD st n k with
    | some r => .ok (r.getD .non) st
    | none => .bad
  | _ => .bad
  else .bad
def eGet2 (mo mi mx : EM D) : EM D := fun env st => (mo env st).bind fun d st => if isDict st d = true then (mi env st).bind fun k st => (mx env st).bind fun x st => match d with
  | .ref n => match dgetD st n k with
    | some r => .ok (r.getD x) st
    | none => .bad
  | _ => .bad
  else .bad
theorem isD_of {μ : List Addr} {H : Hp} {st : Store} (w : Wd Γ μ H st) {n : Nat} {A : Addr} (hn : μ[n]? = some A) (h : isDict st (.ref n) = true) : IsD H A := by
  simp only [isDict] at h
  split at h
  · rename_i l z; obtain ⟨kvs, h, _⟩ := w.at hn z; exact .inl ⟨kvs, .inl h⟩
  · rename_i l z; obtain ⟨kvs, h, _⟩ := w.at hn z; exact .inr ⟨kvs, .inl h⟩
  · cases h
theorem isD_ref {st : Store} {d : D} (h : isDict st d = true) : ∃ n, d = .ref n := by
  cases d <;> first | exact ⟨_, rfl⟩ | cases h
theorem de_get1 (hu : X.A.units + 1 < cLine) (ho : DE X Γ W o mo) (he : DE X Γ W e mi) (mm : M1 X o "get" apos e cpos) : DE X Γ W (.Call (.Attribute o "get" apos) [e] [] cpos) (eGet1 mo mi) := by
  refine PE.weak (pe_dget1 hu ho he mm) fun σ H Q q => ?_
  obtain ⟨μ, env, st, w, s, q⟩ := q
  refine ⟨μ, env, st, w, s, (XO.bind (R := VRr Γ) q).mono ?_⟩
  rintro v H1 ⟨μ1, d, st1, p, t1, w1, r, o1⟩
  split at o1
  · rename_i hd
    obtain ⟨n, rfl⟩ := isD_ref hd
    cases r with
    | @ref A _ hn =>
      refine ⟨A, rfl, isD_of w1 hn hd, μ1, env, st1, w1, s.mono p t1, (XO.bind (R := VRr Γ) o1).mono ?_⟩
      rintro v2 H2 ⟨μ2, d2, st2, p2, t2, w2, r2, o2⟩
      simp only at o2
      cases z : dgetD st2 n d2 with
      | none => rw [z] at o2; exact o2.elim
      | some rr =>
        rw [z] at o2
        obtain ⟨oo, g, h1, h⟩ := dget_sim w2 (pre_get p2 hn) r2 z
        refine ⟨oo, g, ?_⟩
        cases rr with
        | none =>
          cases oo with
          | none => exact XO.val (d := D.non) o2 w2 .non
          | some _ => cases h1
        | some d3 => obtain ⟨v3, rfl, rv⟩ := h d3 rfl; exact XO.val o2 w2 rv
  · exact o1.elim
theorem de_get2 (hu : X.A.units + 1 < cLine) (ho : DE X Γ W o mo) (he : DE X Γ W e mi) (hf : DE X Γ W f mx) (mm : M2 X o "get" apos e f cpos) : DE X Γ W (.Call (.Attribute o "get" apos) [e, f] [] cpos) (eGet2 mo mi mx) := by
  refine PE.weak (pe_dget2 hu ho he hf mm) fun σ H Q q => ?_
  obtain ⟨μ, env, st, w, s, q⟩ := q
  refine ⟨μ, env, st, w, s, (XO.bind (R := VRr Γ) q).mono ?_⟩
  rintro v H1 ⟨μ1, d, st1, p, t1, w1, r, o1⟩
  split at o1
  · rename_i hd
    obtain ⟨n, rfl⟩ := isD_ref hd
    cases r with
    | @ref A _ hn =>
      refine ⟨A, rfl, isD_of w1 hn hd, μ1, env, st1, w1, s.mono p t1, (XO.bind (R := VRr Γ) o1).mono ?_⟩
      rintro v2 H2 ⟨μ2, d2, st2, p2, t2, w2, r2, o2⟩
      refine ⟨μ2, env, st2, w2, (s.mono p t1).mono p2 t2, (XO.bind (R := VRr Γ) o2).mono ?_⟩
      rintro v3 H3 ⟨μ3, d3, st3, p3, t3, w3, r3, o3⟩
      simp only at o3
      cases z : dgetD st3 n d2 with
      | none => rw [z] at o3; exact o3.elim
      | some rr =>
        rw [z] at o3
        obtain ⟨oo, g, h1, h⟩ := dget_sim w3 (pre_get p3 (pre_get p2 hn)) (r2.mono p3 t3) z
        refine ⟨oo, g, ?_⟩
        cases rr with
        | none =>
          cases oo with
          | none => exact XO.val (d := d3) o3 w3 r3
          | some _ => cases h1
        | some d4 => obtain ⟨v4, rfl, rv⟩ := h d4 rfl; exact XO.val o3 w3 rv
  · exact o1.elim
def eDPop (mo mi : EM D) : EM D := fun env st => (mo env st).bind fun d st => if isDict st d = true then (mi env st).bind fun k st => match d with
  | .ref n => match st[n]? with
    | some (.dic l) => match keyD k with
      | some k => match lookK l k with
        | some x => .ok x (st.set n (.dic (dropKD l k)))
        | none => .bad
      | none => .bad
    | _ => .bad
  | _ => .bad
  else .bad
theorem de_dpop (ho : DE X Γ W o mo) (he : DE X Γ W e mi) (mm : M1 X o "pop" apos e cpos) : DE X Γ W (.Call (.Attribute o "pop" apos) [e] [] cpos) (eDPop mo mi) := by
  refine PE.weak (pe_dpop1 ho he mm) fun σ H Q q => ?_
  obtain ⟨μ, env, st, w, s, q⟩ := q
  refine ⟨μ, env, st, w, s, (XO.bind (R := VRr Γ) q).mono ?_⟩
  rintro v H1 ⟨μ1, d, st1, p, t1, w1, r, o1⟩
  split at o1
  · rename_i hd
    obtain ⟨n, rfl⟩ := isD_ref hd
    cases r with
    | @ref A _ hn =>
      refine ⟨A, rfl, isD_of w1 hn hd, μ1, env, st1, w1, s.mono p t1, (XO.bind (R := VRr Γ) o1).mono ?_⟩
      rintro v2 H2 ⟨μ2, d2, st2, p2, t2, w2, r2, o2⟩
      simp only at o2
      have hn2 := pre_get p2 hn
      split at o2
      · rename_i l zl
        split at o2
        · rename_i k zk
          split at o2
          · rename_i x zx
            obtain ⟨kvs, hv, rl⟩ := w2.at hn2 zl
            rcases KRs.look (fun _ _ => kOf_iff) (k := k) rl with ⟨v', d', h1, h2, rv⟩ | ⟨h1, h2⟩
            · rw [zx] at h2; cases h2
              have tt : TStay H2 (upd H2 A (.dK (dropK kvs (kOf k)))) := TStay.at hv (by intro vs e; cases e)
              exact ⟨kvs, kOf k, v', hv, keyD_v zk r2, h1, OO.set (ho := .dK (dropK kvs (kOf k))) (XO.oo (o := some (_, _)) o2) w2 hn2 hv (by intro vs e; cases e) (by intro o v e; cases e) zl (by intro l e; cases e) ⟨_, upd_same, (KRs.drop (fun _ _ => kOf_iff) rl).mono (List.prefix_refl _) tt⟩ rv⟩
            · rw [zx] at h2; cases h2
          · exact o2.elim
        · exact o2.elim
      · exact o2.elim
  · exact o1.elim
/-- o.pop(i), a list or a dict -/
def ePop (mo mi : EM D) : EM D := fun env st => match mo env st with
  | .ok d st1 => if isDict st1 d = true then eDPop mo mi env st else eBM "list" mPop mo (eCons mi eNil) env st
  | _ => eBM "list" mPop mo (eCons mi eNil) env st
theorem de_pop (hK : Γ.K = X.K) (ho : DE X Γ W o mo) (he : DE X Γ W e mi) (mm : M1 X o "pop" apos e cpos) (hs : starEach [e] X.env = (false, eval e X.env) :: starEach [] X.env := by rfl) (hplain : (backTo cpos (starEach [] X.env)).any (·.1) = false := by rfl) : DE X Γ W (.Call (.Attribute o "pop" apos) [e] [] cpos) (ePop mo mi) :=
  de_pick (de_dpop ho he mm) (de_bm hK PySem.F.plainAttrs_list PySem.F.slot_list_pop PySem.F.type_list_pop md_pop ho (da_cons he da_nil hs) mm.base mm.few mm.line hs hplain) fun env st => by
    unfold ePop
    split
    · split <;> simp
    · simp

/-! ### sorted -/
def sortI (is : List Int) : List Int := is.mergeSort fun a b => decide (a ≤ b)
theorem sortI_eq {ys is : List Int} (h : ys.Perm is) (s : ys.Pairwise (· ≤ ·)) : ys = sortI is := by
  have h2 : (sortI is).Perm is := List.mergeSort_perm _ _
  have s2 : (sortI is).Pairwise (· ≤ ·) := by
    have := List.pairwise_mergeSort (le := fun a b : Int => decide (a ≤ b)) (fun a b c h1 h2 => by simp at *; omega) (fun a b => by simp; omega) is
    exact this.imp fun h => by simpa using h
  exact (h.trans h2.symm).eq_of_pairwise (fun a b _ _ h1 h2 => Int.le_antisymm h1 h2) s s2
def oSorted : List D → Store → Option (D × Store) := fun ds st => match ds with
  | [.ref n] => match st[n]? with
    | some (.dic l) => match intsD (l.map fun p => keyToD p.1) with
      | some is => if is.length ≤ sizeLine then some (.ref st.length, st ++ [Ob.lst ((sortI is).map .int)]) else none
      | none => none
    | some (.lst l) => match intsD l with
      | some is => some (.ref st.length, st ++ [Ob.lst ((sortI is).map .int)])
      | none => none
    | _ => none
  | _ => none
theorem vrs_int {μ : List Addr} {H : Hp} : ∀ l : List Int, VRs Γ μ H (l.map V.int) (l.map D.int)
  | [] => .nil
  | x :: l => .cons (.int x) (vrs_int l)
theorem keys_int {μ : List Addr} {H : Hp} : ∀ {l : List (Kd × D)} {kvs : List (Key × V)} {is : List Int}, intsD (l.map fun p => keyToD p.1) = some is → KRs Γ μ H kOf kvs l → kvs.map (·.1) = is.map Sum.inl
  | [], [], _, e, _ => by cases e; rfl
  | (k, d) :: l, (k', v) :: kvs, is, e, r => by
    obtain ⟨rfl, _, r⟩ := r
    cases k with
    | inr s => cases e
    | inl j =>
      have e : (intsD (l.map fun p => keyToD p.1)).map (j :: ·) = some is := e
      cases z : intsD (l.map fun p => keyToD p.1) with
      | none => rw [z] at e; cases e
      | some q =>
        rw [z] at e
        cases e
        rw [List.map_cons, List.map_cons, keys_int z r]
        rfl
  | [], _ :: _, _, _, r => r.elim
  | _ :: _, [], _, _, r => r.elim
theorem cd_sorted (hc : X.calm = true) : CallD X Γ (.builtin "sorted") oSorted := by
  intro pins s σ H xs us Q I r h
  obtain ⟨μ, st, ds, w, rs, o⟩ := h
  unfold oSorted at o
  split at o
  · obtain ⟨v, rfl, rv⟩ := vrs1 rs
    cases rv with
    | ref hn =>
      split at o
      · rename_i l zl
        split at o
        · rename_i is zi
          split at o
          · rename_i h64
            obtain ⟨kvs, hv, rl⟩ := w.at hn zl
            refine call_sortedAny hc pins s σ H _ us Q I r ⟨_, kvs, is, rfl, .inl hv, keys_int zi rl, h64, fun ys p hp hs hpn => ?_⟩
            rw [sortI_eq hp hs]
            exact OO.new (R := VRr Γ) o w hpn ⟨_, upd_same, vrs_int _⟩
          · exact o.elim
        · exact o.elim
      · rename_i l zl
        split at o
        · rename_i is zi
          obtain ⟨vs, hv, rl⟩ := w.at hn zl
          have := vrs_ints zi rl
          subst this
          refine cr_sortedI pins s σ H _ us Q I r ⟨_, is, rfl, SqL.of hv, fun ys p hp hs hpn => ?_⟩
          rw [sortI_eq hp hs]
          exact OO.new (R := VRr Γ) o w hpn ⟨_, upd_same, vrs_int _⟩
        · exact o.elim
      · exact o.elim
  · exact o.elim
end
end DL
/-! DL: raise and try. -/
namespace DL
open PySem L2
open PyProof.Rows (envOfC)

/-- is every c also a c0 (all own errors stand under FerryError) -/
def subC (c c0 : CN) : Bool := c == c0 || c0 == .FerryError || c0 == .ValueErr
/-- an own error class as the top has made it -/
structure ExcOk (K : PySem.W.Frag) (mg : Str → Option Value) (C : Addr) (nm : Str) : Prop where
  g : mg nm = some (.ref C)
  x : PySem.W.excIn K C [.type "ValueError", .type "Exception", .type "BaseException", .type "object"] "ValueError.__new__" = true
  k : PySem.W.keepIn K (.ref C) = true
  b : PySem.W.subIn K (.ref C) (.type "BaseException") = some true
  t : PySem.W.typeIn K (.ref C) = some (.type "type")
section
variable {X : Cx} {Γ : Gam} {W : WX} {pos p p2 np pos' : Pos}
theorem ds_raiseX {x m : Str} {j : Nat} (c : CN) (hc : X.calm = true) (tk : Takes X W) (F : ExcOk X.K X.mg (Γ.cls c) x) (hg : Gl X x) (hdb : (x == ("__debug__" : Str)) = false := by decide) : DS X Γ W (.Raise (some (.Call (.Name x p) [.Constant (.str m) j p2] [] pos')) none pos) (sRaise c) :=
  ds_raise c hc tk (pmk_own PySem.F.excBase_ValueError F.x F.g F.k (raises_own F.b F.t) hg hdb)

def noExn : SR → SR
  | .exn _ _ _ => .bad
  | r => r
def handle : List (CN × SM) → CN → SM
  | [], c => fun env st => .exn c env st
  | (c0, s) :: r, c => if subC c c0 = true then fun env st => noExn (s env st) else handle r c
def sTry (known : List CN) (b : SM) (hs : List (CN × SM)) : SM := fun env st => match b env st with
  | .exn c env st => if known.contains c = true then handle hs c env st else .bad
  | r => r
theorem SO.noexn {μ : List Addr} {H : Hp} {E : Ends} : ∀ {r : SR}, SO Γ W μ H E (noExn r) → SO Γ W0 μ H E r
  | .nx _ _, h => h
  | .bk _ _, h => h
  | .ct _ _, h => h
  | .rt _ _, h => h
  | .exn _ _ _, h => h.elim
  | .bad, h => h.elim
/-- c0's clause: what the class is, and what an error of a known class is by it -/
structure Catch (X : Cx) (Γ : Gam) (known : List CN) (x : Str) (c0 : CN) : Prop where
  nm : Names X x (.ref (Γ.cls c0))
  ex : ∀ c, known.contains c = true → PySem.W.exmOne X.K (.ref (Γ.cls c)) (.ref (Γ.cls c0)) = some (subC c c0)
inductive Hds (X : Cx) (Γ : Gam) (known : List CN) : List ExceptHandler → List (CN × SM) → Prop
  | nil : Hds X Γ known [] []
  | cons {x : Str} {c0 : CN} {b₀ : Stmt} {suite : List Stmt} {np pos' : Pos} {hds : List ExceptHandler} {ms : SM} {hs : List (CN × SM)} (hc : Catch X Γ known x c0)
      (hsu : ∀ (a : Addr) (oe : Obj) (pn : List (Addr × Obj)), (∃ vs, oe.data = .fields vs) → DB (X.suite a ((a, oe) :: pn)) Γ W0 (b₀ :: suite) ms) (r : Hds X Γ known hds hs) :
      Hds X Γ known (.ExceptHandler (some (.Name x np)) none (b₀ :: suite) pos' :: hds) ((c0, ms) :: hs)
theorem hds_ok {known : List CN} : ∀ {hds : List ExceptHandler} {hs : List (CN × SM)}, Hds X Γ known hds hs →
    HdsOk X hds (hs.map fun q => (Value.ref (Γ.cls q.1), fun _ _ _ => simS Γ W0 q.2))
  | _, _, .nil => .nil
  | _, _, .cons hc hsu r => .cons hc.nm (fun a oe cls d pn _ hf => hsu a oe pn hf) (hds_ok r)
theorem handle_sim {known : List CN} {c : CN} (hk : known.contains c = true) : ∀ {hds : List ExceptHandler} {hs : List (CN × SM)}, Hds X Γ known hds hs → ∀ {E : Ends} {μ : List Addr} {H : Hp} {σ : L2.St} {env : Env} {st : Store}, Wd Γ μ H st → SL Γ μ H σ env →
    SO Γ W μ H E (handle hs c env st) → wMany X.K W E (hs.map fun q => (Value.ref (Γ.cls q.1), fun _ _ _ => simS Γ W0 q.2)) (.ref (Γ.cls c)) none σ H
  | _, _, .nil, E, μ, H, σ, env, st, w, s, o => o μ σ H (List.prefix_refl _) (TStay.refl _) w s
  | _, _, .cons hc hsu r, E, μ, H, σ, env, st, w, s, o => by
    refine ⟨_, hc.ex c hk, fun hb a _ => ?_, fun hb => ?_⟩
    · unfold handle at o
      rw [if_pos hb] at o
      exact ⟨μ, env, st, w, s, SO.noexn o⟩
    · unfold handle at o
      rw [hb, if_neg Bool.false_ne_true] at o
      exact handle_sim hk r w s o
theorem ds_try {known : List CN} {body : List Stmt} {h₀ : ExceptHandler} {hds : List ExceptHandler} {mb : SM} {hs : List (CN × SM)} (hst : X.stack = X.env :: X.outer) (hf : X.env.frame = some X.env.locals) (tk : Takes X W)
    (hb : ∀ (W : WX) (pn : List (Addr × Obj)) (xe : Value → Shared → Prop), Takes (X.tr pn xe) W → PassesOwn (model X.prog X.w) X.A X.env xe → DB (X.tr pn xe) Γ W body mb) (hh : Hds X Γ known (h₀ :: hds) hs) : DS X Γ W (.Try body (h₀ :: hds) [] [] pos) (sTry known mb hs) := by
  refine PS.weak (ps_try_many (tb := fun W => simS Γ W mb) hst hf tk hb (hds_ok hh)) fun E σ H q => ?_
  obtain ⟨μ, env, st, w, s, o⟩ := q
  refine ⟨μ, env, st, w, s, ?_⟩
  unfold sTry at o
  cases z : mb env st with
  | exn c env' st' =>
    rw [z] at o
    simp only at o
    split at o
    · rename_i hk
      exact fun μ' σ' H' p t w' s' => handle_sim hk hh w' s' (o.shift p t)
    · exact o.elim
  | _ => rw [z] at o; exact o

theorem unit65 {k : Nat} {A : Around} (r : Room k A) : A.units + 65 < cLine := by have := r.un; omega

/-! ### try .. except X as e -/
def sTryAs (known : List CN) (c0 : CN) (i : Nat) (b : SM) (s : CN → SM) : SM := fun env st => match b env st with
  | .exn c env st => if known.contains c = true ∧ i < env.length then (if subC c c0 = true then (match s c (env.set i none) st with
      | .nx env st => .nx (env.set i none) st
      | .bk env st => .bk (env.set i none) st
      | .ct env st => .ct (env.set i none) st
      | .rt d st => .rt d st
      | _ => .bad) else .exn c env st) else .bad
  | r => r
theorem Γ_ea : { ({ Γ with ea := x } : Gam) with ea := Γ.ea } = Γ := rfl
theorem SL.uncover {μ : List Addr} {H : Hp} {σ : L2.St} {env : Env} {i : Nat} {a : Addr} (hea : Γ.ea = none) (s : SL { Γ with ea := some (i, a) } μ H σ env) : SL Γ μ H (σ.set i none) (env.set i none) := by
  refine ⟨by simp [s.len], fun j b h => (by rw [hea] at h; cases h), fun j d e => ?_⟩
  by_cases hj : i = j
  · subst hj
    have hl : i < env.length := by
      have := (List.getElem?_eq_some_iff.mp e).1
      simpa using this
    rw [List.getElem?_set_self hl] at e
    cases e
  · rw [List.getElem?_set_ne hj] at e
    obtain ⟨v, hv, r⟩ := s.sl j d e
    exact ⟨v, by rw [List.getElem?_set_ne hj]; exact hv, r.ea (x := Γ.ea)⟩
theorem SL.cover {μ : List Addr} {H : Hp} {σ : L2.St} {env : Env} {i : Nat} {a : Addr} (hi : i < σ.length) (s : SL Γ μ H σ env) : SL { Γ with ea := some (i, a) } μ H (σ.set i (some (.ref a))) (env.set i none) := by
  refine ⟨by simp [s.len], fun j b h => ?_, fun j d e => ?_⟩
  · cases h
    exact List.getElem?_set_self hi
  by_cases hj : i = j
  · subst hj
    have hl : i < env.length := by rw [← s.len]; exact hi
    rw [List.getElem?_set_self hl] at e
    cases e
  · rw [List.getElem?_set_ne hj] at e
    obtain ⟨v, hv, r⟩ := s.sl j d e
    exact ⟨v, by rw [List.getElem?_set_ne hj]; exact hv, r.ea⟩
theorem ds_tryAs {known : List CN} {x n : Str} {c0 : CN} {i : Nat} {body suite : List Stmt} {b₀ : Stmt} {mb : SM} {ms : CN → SM} (hea : Γ.ea = none) (hst : X.stack = X.env :: X.outer) (hf : X.env.frame = some X.env.locals) (hN : X.N.Nodup) (hi : X.N[i]? = some n) (hln : X.env.kindOf n = some .local) (tk : Takes X W) (hc : Catch X Γ known x c0)
    (hb : ∀ (W : WX) (pn : List (Addr × Obj)) (xe : Value → Shared → Prop), Takes (X.tr pn xe) W → PassesOwn (model X.prog X.w) X.A X.env xe → DB (X.tr pn xe) Γ W body mb)
    (hsu : ∀ c, known.contains c = true → ∀ (a : Addr) (oe : Obj) (pn : List (Addr × Obj)), Zc (.ref (Γ.cls c)) none oe → (∃ vs, oe.data = .fields vs) → DB (X.suite a ((a, oe) :: pn)) { Γ with ea := some (i, a) } W0 (b₀ :: suite) (ms c)) :
    DS X Γ W (.Try body [.ExceptHandler (some (.Name x np)) (some n) (b₀ :: suite) pos'] [] [] pos) (sTryAs known c0 i mb ms) := by
  have hN' : ∀ (pins : List (Addr × Obj)) (σ : L2.St) (H : Hp) (s : Shared), Inv X pins σ H s → i < σ.length := fun pins σ H s I => by rw [I.len]; exact (List.getElem?_eq_some_iff.mp hi).1
  refine ⟨fun pins s σ H E I q => ?_⟩
  have hl := hN' pins σ H s I
  refine (ps_try_as (tb := fun W => simS Γ W mb) (ts := fun a cls d => fun E σ H => ∃ c, known.contains c = true ∧ cls = .ref (Γ.cls c) ∧ d = none ∧ simS { Γ with ea := some (i, a) } W0 (ms c) E σ H) hst hf hN hi hln hc.nm tk hb (fun a oe cls d pn hz hf' => ?_)).run pins s σ H E I ?_
  · refine ⟨fun pins s σ H E I q => ?_⟩
    obtain ⟨c, hk, rfl, rfl, q⟩ := q
    exact (hsu c hk a oe pn hz hf').run pins s σ H E I q
  · obtain ⟨μ, env, st, w, s, o⟩ := q
    refine ⟨μ, env, st, w, s, ?_⟩
    unfold sTryAs at o
    cases z : mb env st with
    | exn c env' st' =>
      rw [z] at o
      simp only at o
      split at o
      · rename_i hk
        intro μ' σ' H' p t w' s'
        replace o := SO.shift p t o
        refine ⟨_, hc.ex c hk.1, fun hb a _ => ⟨c, hk.1, rfl, rfl, μ', env'.set i none, st', w'.ea, ?_, ?_⟩, fun hb => ?_⟩
        · exact s'.cover (by rw [s'.len]; exact hk.2)
        · rw [if_pos hb] at o
          cases zz : ms c (env'.set i none) st' with
          | nx e2 s2 => rw [zz] at o; exact fun μ2 σ2 H2 p2 t2 w2 s2 => o μ2 _ H2 p2 t2 (w2.ea (x := Γ.ea)) (s2.uncover hea)
          | bk e2 s2 => rw [zz] at o; exact fun μ2 σ2 H2 p2 t2 w2 s2 => o μ2 _ H2 p2 t2 (w2.ea (x := Γ.ea)) (s2.uncover hea)
          | ct e2 s2 => rw [zz] at o; exact fun μ2 σ2 H2 p2 t2 w2 s2 => o μ2 _ H2 p2 t2 (w2.ea (x := Γ.ea)) (s2.uncover hea)
          | rt d s2 => rw [zz] at o; exact fun μ2 v H2 p2 t2 w2 r2 => o μ2 v H2 p2 t2 (w2.ea (x := Γ.ea)) (r2.ea (x := Γ.ea))
          | _ => rw [zz] at o; exact o.elim
        · rw [hb, if_neg Bool.false_ne_true] at o
          exact o μ' σ' H' (List.prefix_refl _) (TStay.refl _) w' s'
      · exact o.elim
    | _ => rw [z] at o; exact o
end

/-- a class that isinstance is asked about: what it is, and what an error of a known class is by it -/
structure IsE (X : Cx) (Γ : Gam) (known : List CN) (y : Str) (y' : CN) : Prop where
  nm : ∃ (v : V) (u : Value), RelV v u ∧ (∀ u', RelV v u' → u' = u) ∧ Names X y u ∧ ∀ c, known.contains c = true → PySem.W.kitOne X.K (.ref (Γ.cls c)) u = some (subC c y')
  ec : ∀ c, known.contains c = true → ExcC X.K (Γ.cls c)
theorem de_isexc {X : Cx} {Γ : Gam} {known : List CN} {c : CN} {a : Addr} {oe : Obj} {pn : List (Addr × Obj)} {x y : Str} {px p1 p2 pos : Pos} (i : Nat) (y' : CN) (hN : (X.suite a ((a, oe) :: pn)).N[i]? = some x) (hg : Gl (X.suite a ((a, oe) :: pn)) "isinstance") (hm : (X.suite a ((a, oe) :: pn)).mg "isinstance" = none)
    (hi : IsE X Γ known y y') (hz : Zc (.ref (Γ.cls c)) none oe) (hf : ∃ vs, oe.data = .fields vs) (hk : known.contains c = true) (hv : Vis (X.suite a ((a, oe) :: pn)).env.scope x := by first | exact Or.inl rfl | exact Or.inr (Or.inl rfl) | exact Or.inr (Or.inr rfl)) (hd : (x == ("__debug__" : Str)) = false := by decide)
    (hcd : (x == ("__classdict__" : Str)) = false := by decide)
    (he : starEach [.Name x p1, .Name y p2] (X.suite a ((a, oe) :: pn)).env = (false, eval (.Name x p1) (X.suite a ((a, oe) :: pn)).env) :: starEach [.Name y p2] (X.suite a ((a, oe) :: pn)).env := by rfl) (hpl : (backTo pos (starEach [.Name y p2] (X.suite a ((a, oe) :: pn)).env)).any (·.1) = false := by rfl)
    (he2 : starEach [.Name y p2] (X.suite a ((a, oe) :: pn)).env = (false, eval (.Name y p2) (X.suite a ((a, oe) :: pn)).env) :: starEach [] (X.suite a ((a, oe) :: pn)).env := by rfl) :
    DE (X.suite a ((a, oe) :: pn)) { Γ with ea := some (i, a) } W0 (.Call (.Name "isinstance" px) [.Name x p1, .Name y p2] [] pos) (eC (.bl (subC c y'))) := by
  obtain ⟨v, u, hr, hu, ⟨n1, n2, n3⟩, hkit⟩ := hi.nm
  have pe : PE (X.suite a ((a, oe) :: pn)) (.Name y p2) (tC v) := by
    rcases n3 with n3 | ⟨n3, n4, n5⟩
    · exact pe_glob n1 n3 hr n2
    · exact pe_bltn n1 n3 n4 hr n5 n2
  refine PE.weak (pe_callB (call_isE (hi.ec c hk) hz hf) hg hm (by decide +kernel) (pa_cons (pe_var hN hv hd hcd) (pa_cons pe pa_nil he2) he) (by decide) (by decide) he hpl) fun σ H Q q => ?_
  obtain ⟨μ, env, st, w, s, o⟩ := q
  exact ⟨.ref a, s.pin i a rfl, v, u, subC c y', rfl, hu, hkit c hk, XO.val o w (.bl _)⟩
end DL
/-! DL: the law's end. -/
namespace DL
open PySem L2
open PyProof.Rows (envOfC)
/-- law's promise: a list of at most 63 ints is handed in, True comes out -/
def spLaw (K : PySem.W.Frag) : Sp := fun vs H Q _ => ∃ (a : Addr) (ns : List Int), vs = [.ref a] ∧ L2.Only H ∧ SqL K H a (ns.map V.int) ∧ ns.length ≤ 63 ∧ ∀ H', Q (.bl true) H'
theorem sqf_of {K : PySem.W.Frag} {H : Hp} {a : Addr} {xs : List V} (hO : L2.Only H) (h : SqL K H a xs) : SqF K H a xs := by
  rcases h with (h | h) | h
  · rcases hO a with z | ⟨o, ys, z⟩ <;> rw [h] at z <;> cases z
  · exact .inl h
  · exact .inr h
theorem law_imp {P : Program} {w : World} {K : PySem.W.Frag} {mg : Str → Option Value} {base : Heap} {Γ : Gam} {k : Nat} {f : Addr} {fd : FuncData} {ps : List Str} (hK : Γ.K = K) (hea : Γ.ea = none) (m : FM)
    (h : ∀ ns : List Int, ns.length ≤ 63 → ∃ st, m [.ref 0] [.frz (ns.map .int)] = .ok (.bl true) st) (F : FnOk P w K mg base (L2.CX P w) k f fd ps (spM Γ m)) : FnOk P w K mg base (L2.CX P w) k f fd ps (spLaw K) := by
  refine F.imp ?_
  rintro vs H Q E ⟨a, ns, rfl, hO, hS, hl, q⟩
  obtain ⟨st, e⟩ := h ns hl
  refine ⟨[a], [.frz (ns.map .int)], [.ref 0], ⟨rfl, fun n m b e1 e2 => ?_, fun n o b e1 e2 => ?_⟩, .cons (.ref rfl) .nil, ?_⟩
  · have h1 : n = 0 := by have := (List.getElem?_eq_some_iff.mp e1).1; simp at this; exact this
    have h2 : m = 0 := by have := (List.getElem?_eq_some_iff.mp e2).1; simp at this; exact this
    exact .inl (h1.trans h2.symm)
  · have h1 : n = 0 := by have := (List.getElem?_eq_some_iff.mp e1).1; simp at this; exact this
    subst h1
    cases e1; cases e2
    exact ⟨_, hK ▸ sqf_of hO hS, vrs_int ns⟩
  · rw [e]
    intro μ' H' v _ _ _ r
    cases r
    exact q H'
theorem walk_law {l : PySem.W.OpenLaw} {k : Nat} {q : Program} {loose : List Str} {XP : (Str → Option Value) → Heap → Prop} {YP : World → Heap → Prop} {d : DefRec} {K : Params → PySem.W.Frag} {x : Str}
    (hn : l.most = some 63) (hdf : d.params.defaults = []) (hr : Room k callerA) (hY : ∀ (w : World) (h : Heap), YP w h → (K w.params).In h)
    (F : ∀ (w : World) (mg : Str → Option Value) (fa : Addr) (h : Heap), (K w.params).In h → h.Ns mainGlobals mg → mg d.name = some (.ref fa) →
      ∃ fd : FuncData, (∀ (s : Shared) (u : Value), BindsTo s fd ⟨[u], []⟩ [(x, u)]) ∧ ∀ base : Heap, (K w.params).In base → base.Ns mainGlobals mg → FnOk l.prog w (K w.params) mg base (L2.CX l.prog w) k fa fd [x] (spLaw (K w.params))) :
    PySem.W.WalkO q loose XP YP l.row.toRowW d [] (fun f vs => PySem.call f vs) :=
  L2.walk_of (n := 63) (k := k) (x := x) (CX := fun w => L2.CX l.prog w) (sp := fun w => spLaw (K w.params)) hn (by decide) hdf hr hY F (fun w H a ns hl hO hS => ⟨a, ns, rfl, hO, hS, hl, fun _ => rfl⟩) fun w H s e s' z => by
    obtain ⟨_, _, _, _, _, _, _, _, _, _, _, _, z⟩ := z
    exact z.elim
end DL
/-! DLr: reckoning with mirrors. -/
namespace DL
open PySem L2

/-! ### results -/
def SR.seq (r : SR) (f : Env → Store → SR) : SR := match r with
  | .nx env st => f env st
  | r => r
section
variable {α β γ : Type} {env : Env} {st : Store} {p : Prop} [Decidable p]
theorem sSeq_eq (a b : SM) : sSeq a b env st = (a env st).seq b := rfl
@[simp] theorem seq_nx (f : Env → Store → SR) : (SR.nx env st).seq f = f env st := (rfl)
@[simp] theorem seq_rt (d : D) (f : Env → Store → SR) : (SR.rt d st).seq f = .rt d st := (rfl)
@[simp] theorem seq_bk (f : Env → Store → SR) : (SR.bk env st).seq f = .bk env st := (rfl)
@[simp] theorem seq_ct (f : Env → Store → SR) : (SR.ct env st).seq f = .ct env st := (rfl)
@[simp] theorem seq_exn (c : CN) (f : Env → Store → SR) : (SR.exn c env st).seq f = .exn c env st := (rfl)
@[simp] theorem seq_bad (f : Env → Store → SR) : SR.bad.seq f = .bad := (rfl)
@[simp] theorem seq_ite (a b : SR) (f : Env → Store → SR) : (if p then a else b).seq f = if p then a.seq f else b.seq f := by split <;> rfl
@[simp] theorem bind_ok (a : α) (f : α → Store → Out β) : (Out.ok a st).bind f = f a st := (rfl)
@[simp] theorem bind_exn (c : CN) (f : α → Store → Out β) : (Out.exn c st : Out α).bind f = .exn c st := (rfl)
@[simp] theorem bind_bad (f : α → Store → Out β) : (Out.bad : Out α).bind f = .bad := (rfl)
@[simp] theorem bind_ite (a b : Out α) (f : α → Store → Out β) : (if p then a else b).bind f = if p then a.bind f else b.bind f := by split <;> rfl
@[simp] theorem s_ok (a : α) (f : α → Store → SR) : (Out.ok a st).s env f = f a st := (rfl)
@[simp] theorem s_exn (c : CN) (f : α → Store → SR) : (Out.exn c st : Out α).s env f = .exn c env st := (rfl)
@[simp] theorem s_bad (f : α → Store → SR) : (Out.bad : Out α).s env f = .bad := (rfl)
@[simp] theorem s_ite (a b : Out α) (f : α → Store → SR) : (if p then a else b).s env f = if p then a.s env f else b.s env f := by split <;> rfl
@[simp] theorem of_some (a : α) : Out.of (some (a, st)) = .ok a st := (rfl)
@[simp] theorem of_none : Out.of (none : Option (α × Store)) = .bad := (rfl)
@[simp] theorem of_ite (a b : Option (α × Store)) : Out.of (if p then a else b) = if p then Out.of a else Out.of b := by split <;> rfl
end

/-! ### a store and what is laid behind it -/
section
variable {st : Store} {o o' : Ob} {l m : List Ob} {n k : Nat}
theorem get_app0 : (st ++ (o :: l))[st.length]? = some o := by simp
theorem get_appk (k : Nat) : (st ++ l)[st.length + k]? = l[k]? := by rw [List.getElem?_append_right (Nat.le_add_right _ _), Nat.add_sub_cancel_left]
theorem set_app0 : (st ++ (o :: l)).set st.length o' = st ++ (o' :: l) := by simp [List.set_append]
theorem set_appk (k : Nat) : (st ++ l).set (st.length + k) o' = st ++ l.set k o' := by simp [List.set_append]
theorem len_app : (st ++ l).length = st.length + l.length := List.length_append
theorem get_old (h : st[n]? = some o) : (st ++ l)[n]? = some o := by
  rw [List.getElem?_append_left (List.getElem?_eq_some_iff.mp h).1]; exact h
theorem set_old (h : st[n]? = some o) : (st ++ l).set n o' = st.set n o' ++ l := by
  rw [List.set_append_left _ _ (List.getElem?_eq_some_iff.mp h).1]
theorem lt_of_get (h : st[n]? = some o) : n < st.length := (List.getElem?_eq_some_iff.mp h).1
theorem seq_old {l' : List D} (h : seqOf st n = some l') : seqOf (st ++ l) n = some l' := by
  unfold seqOf at *
  cases z : st[n]? with
  | none => rw [z] at h; cases h
  | some o => rw [get_old z]; rw [z] at h; exact h
theorem seq_lst {l' : List D} (h : st[n]? = some (.lst l')) : seqOf st n = some l' := by unfold seqOf; rw [h]
theorem seq_frz {l' : List D} (h : st[n]? = some (.frz l')) : seqOf st n = some l' := by unfold seqOf; rw [h]
theorem seq_lt {l' : List D} (h : seqOf st n = some l') : n < st.length := by
  unfold seqOf at h
  cases z : st[n]? with
  | none => rw [z] at h; cases h
  | some o => exact lt_of_get z
end

/-! ### loops -/
/-- what a loop's turn may give: on, or out -/
theorem forFix_run {t : Tgt} {b : SM} (P : Nat → Env → Store → Prop) (R : SR → Prop) : ∀ (l : List D) (k : Nat) (env : Env) (st : Store), P k env st →
    (∀ i d env st, l[i]? = some d → P (k + i) env st → ∃ env', t d env = some env' ∧ ((∃ e s, (b env' st = .nx e s ∨ b env' st = .ct e s) ∧ P (k + i + 1) e s) ∨ (∃ d s, b env' st = .rt d s ∧ R (.rt d s)) ∨ ∃ e s, b env' st = .bk e s ∧ R (.nx e s))) →
    (R (forFix t b l env st)) ∨ ∃ e s, forFix t b l env st = .nx e s ∧ P (k + l.length) e s
  | [], k, env, st, h, _ => .inr ⟨env, st, rfl, h⟩
  | d :: l, k, env, st, h, hs => by
    obtain ⟨env', e, q⟩ := hs 0 d env st rfl h
    have tail : ∀ e s, P (k + 1) e s → (R (forFix t b l e s)) ∨ ∃ e' s', forFix t b l e s = .nx e' s' ∧ P (k + (d :: l).length) e' s' := fun e s p => by
      have := forFix_run P R l (k + 1) e s p fun i d' env st hi hp => by
        have q := hs (i + 1) d' env st (by simpa using hi) (by rw [← Nat.add_assoc] ; rw [Nat.add_right_comm] at hp; exact hp)
        rw [← Nat.add_assoc] at q
        rw [Nat.add_right_comm k 1 i]
        exact q
      rcases this with r | ⟨e', s', r1, r2⟩
      · exact .inl r
      · exact .inr ⟨e', s', r1, by rw [List.length_cons, Nat.add_comm l.length 1, ← Nat.add_assoc]; exact r2⟩
    unfold forFix
    rw [e]
    simp only
    rcases q with ⟨e2, s2, z | z, p⟩ | ⟨d2, s2, z, r⟩ | ⟨e2, s2, z, r⟩
    · rw [z]; exact tail e2 s2 p
    · rw [z]; exact tail e2 s2 p
    · rw [z]; exact .inl r
    · rw [z]; exact .inl r
/-- .. without a way out -/
theorem forFix_inv {t : Tgt} {b : SM} (P : Nat → Env → Store → Prop) (l : List D) (env : Env) (st : Store) (h : P 0 env st)
    (hs : ∀ i d env st, l[i]? = some d → P i env st → ∃ env' e s, t d env = some env' ∧ (b env' st = .nx e s ∨ b env' st = .ct e s) ∧ P (i + 1) e s) : ∃ e s, forFix t b l env st = .nx e s ∧ P l.length e s := by
  rcases forFix_run P (fun _ => False) l 0 env st h (fun i d env st hi hp => by
    rw [Nat.zero_add] at hp ⊢
    obtain ⟨env', e, s, h1, h2, h3⟩ := hs i d env st hi hp
    exact ⟨env', h1, .inl ⟨e, s, h2, h3⟩⟩) with r | ⟨e, s, r1, r2⟩
  · exact r.elim
  · exact ⟨e, s, r1, by rwa [Nat.zero_add] at r2⟩
theorem forRef_run {t : Tgt} {b : SM} {n : Nat} {l : List D} (P : Nat → Env → Store → Prop) (R : SR → Prop) (hP : ∀ i env st, i ≤ l.length → P i env st → seqOf st n = some l)
    (hs : ∀ i d env st, l[i]? = some d → P i env st → ∃ env', t d env = some env' ∧ ((∃ e s, (b env' st = .nx e s ∨ b env' st = .ct e s) ∧ P (i + 1) e s) ∨ (∃ d s, b env' st = .rt d s ∧ R (.rt d s)) ∨ ∃ e s, b env' st = .bk e s ∧ R (.nx e s))) :
    ∀ (k i : Nat) (env : Env) (st : Store), l.length < k + i → i ≤ l.length → P i env st → (R (forRef t b n k i env st)) ∨ ∃ e s, forRef t b n k i env st = .nx e s ∧ P l.length e s
  | 0, i, _, _, hk, hi, _ => by omega
  | k + 1, i, env, st, hk, hi, h => by
    unfold forRef
    rw [hP i env st hi h]
    simp only
    cases z : l[i]? with
    | none =>
      have : i = l.length := by have := List.getElem?_eq_none_iff.mp z; omega
      subst this
      exact .inr ⟨env, st, rfl, h⟩
    | some d =>
      have hlt : i < l.length := (List.getElem?_eq_some_iff.mp z).1
      obtain ⟨env', e, q⟩ := hs i d env st z h
      simp only [e]
      rcases q with ⟨e2, s2, z | z, p⟩ | ⟨d2, s2, z, r⟩ | ⟨e2, s2, z, r⟩
      · rw [z]; exact forRef_run P R hP hs k (i + 1) e2 s2 (by omega) hlt p
      · rw [z]; exact forRef_run P R hP hs k (i + 1) e2 s2 (by omega) hlt p
      · rw [z]; exact .inl r
      · rw [z]; exact .inl r
theorem forRef_inv {t : Tgt} {b : SM} {n : Nat} {l : List D} (P : Nat → Env → Store → Prop) (env : Env) (st : Store) (hl : l.length < fuel) (hP : ∀ i env st, i ≤ l.length → P i env st → seqOf st n = some l) (h : P 0 env st)
    (hs : ∀ i d env st, l[i]? = some d → P i env st → ∃ env' e s, t d env = some env' ∧ (b env' st = .nx e s ∨ b env' st = .ct e s) ∧ P (i + 1) e s) : ∃ e s, forRef t b n fuel 0 env st = .nx e s ∧ P l.length e s := by
  rcases forRef_run P (fun _ => False) hP (fun i d env st hi hp => by
    obtain ⟨env', e, s, h1, h2, h3⟩ := hs i d env st hi hp
    exact ⟨env', h1, .inl ⟨e, s, h2, h3⟩⟩) fuel 0 env st (by omega) (Nat.zero_le _) h with r | ⟨e, s, r1, r2⟩
  · exact r.elim
  · exact ⟨e, s, r1, r2⟩
theorem whileF_inv {c : EM Bool} {b : SM} (P : Env → Store → Prop) (R : SR → Prop) (μ : Env → Store → Nat)
    (hs : ∀ env st, P env st → (∃ st', c env st = .ok false st' ∧ R (.nx env st')) ∨ ∃ st', c env st = .ok true st' ∧ ((∃ e s, (b env st' = .nx e s ∨ b env st' = .ct e s) ∧ P e s ∧ μ e s < μ env st) ∨ (∃ d s, b env st' = .rt d s ∧ R (.rt d s)) ∨ ∃ e s, b env st' = .bk e s ∧ R (.nx e s))) :
    ∀ (k : Nat) (env : Env) (st : Store), P env st → μ env st < k → R (whileF c b k env st)
  | 0, env, st, _, h => by omega
  | k + 1, env, st, p, h => by
    unfold whileF
    rcases hs env st p with ⟨st', z, r⟩ | ⟨st', z, q⟩
    · rw [z]; exact r
    · rw [z]
      simp only [s_ok, if_true]
      rcases q with ⟨e2, s2, z | z, p2, lt⟩ | ⟨d2, s2, z, r⟩ | ⟨e2, s2, z, r⟩
      · rw [z]; exact whileF_inv P R μ hs k e2 s2 p2 (by omega)
      · rw [z]; exact whileF_inv P R μ hs k e2 s2 p2 (by omega)
      · rw [z]; exact r
      · rw [z]; exact r

/-! ### comprehensions whose parts change nothing -/
def Pure {α : Type} (m : EM α) (env : Env) (a : α) (st : Store) : Prop := ∀ l, m env (st ++ l) = .ok a (st ++ l)
theorem compTurn_pure {n : Nat} {tt : EM Bool} {te : EM D} {env : Env} {st : Store} {acc : List D} {p : Bool} {y : D} (hn : st[n]? = some (.lst acc)) (hl : acc.length < sizeLine) (ht : tt env st = .ok p st) (he : p = true → te env st = .ok y st) :
    compTurn n tt te env st = .ok () (if p = true then st.set n (.lst (acc ++ [y])) else st) := by
  unfold compTurn
  rw [ht]
  simp only [bind_ok]
  split
  · rename_i h; rw [he h]; simp only [bind_ok, hn, if_pos hl]
  · rfl
theorem compFix_pure {t : Tgt} {tt : EM Bool} {te : EM D} {env : Env} {st : Store} (p : D → Bool) (f : D → D) : ∀ (l acc : List D), acc.length + l.length ≤ sizeLine →
    (∀ d ∈ l, ∃ env', t d env = some env' ∧ ∀ a, tt env' (st ++ [.lst a]) = .ok (p d) (st ++ [.lst a]) ∧ (p d = true → te env' (st ++ [.lst a]) = .ok (f d) (st ++ [.lst a]))) →
    compFix t tt te st.length env l (st ++ [.lst acc]) = .ok () (st ++ [.lst (acc ++ (l.filter p).map f)])
  | [], acc, _, _ => by simp [compFix]
  | d :: l, acc, hl, h => by
    obtain ⟨env', e, q⟩ := h d (List.mem_cons_self ..)
    unfold compFix
    rw [e]
    simp only
    rw [List.length_cons] at hl
    rw [compTurn_pure get_app0 (by omega) (q acc).1 (q acc).2]
    simp only [bind_ok]
    rw [List.filter_cons]
    split
    · rw [set_app0, compFix_pure p f l (acc ++ [f d]) (by simp; omega) fun d hd => h d (List.mem_cons_of_mem _ hd)]
      simp
    · rw [compFix_pure p f l acc (by omega) fun d hd => h d (List.mem_cons_of_mem _ hd)]
theorem compRef_pure {t : Tgt} {tt : EM Bool} {te : EM D} {env : Env} {st : Store} {m : Nat} {L : List D} (p : D → Bool) (f : D → D) (hm : seqOf st m = some L) : ∀ (k i : Nat) (acc : List D), L.length < k + i → i ≤ L.length → acc.length + (L.length - i) ≤ sizeLine →
    (∀ d ∈ L, ∃ env', t d env = some env' ∧ ∀ a, tt env' (st ++ [.lst a]) = .ok (p d) (st ++ [.lst a]) ∧ (p d = true → te env' (st ++ [.lst a]) = .ok (f d) (st ++ [.lst a]))) →
    compRef t tt te st.length env m k i (st ++ [.lst acc]) = .ok () (st ++ [.lst (acc ++ ((L.drop i).filter p).map f)])
  | 0, i, _, hk, hi, _, _ => by omega
  | k + 1, i, acc, hk, hi, hl, h => by
    unfold compRef
    rw [seq_old hm]
    simp only
    cases z : L[i]? with
    | none =>
      have : i = L.length := by have := List.getElem?_eq_none_iff.mp z; omega
      subst this
      simp
    | some d =>
      obtain ⟨hlt, hd⟩ := List.getElem?_eq_some_iff.mp z
      have hmem : d ∈ L := List.mem_of_getElem? z
      obtain ⟨env', e, q⟩ := h d hmem
      simp only [e]
      rw [compTurn_pure get_app0 (by omega) (q acc).1 (q acc).2]
      simp only [bind_ok]
      rw [List.drop_eq_getElem_cons hlt, hd, List.filter_cons]
      split
      · rw [set_app0, compRef_pure p f hm k (i + 1) (acc ++ [f d]) (by omega) hlt (by simp; omega) h]
        simp
      · rw [compRef_pure p f hm k (i + 1) acc (by omega) hlt (by omega) h]
/-- [f d for d in l if p d] -/
theorem comp_fix {src : EM Src} {t : Tgt} {tt : EM Bool} {te : EM D} {vs : List Nat} {env : Env} {st st1 : Store} {l : List D} (p : D → Bool) (f : D → D) (hs : src env st = .ok (.fix l) st1) (hl : l.length ≤ sizeLine)
    (h : ∀ d ∈ l, ∃ env', t d (wipeD env vs) = some env' ∧ ∀ a, tt env' (st1 ++ [.lst a]) = .ok (p d) (st1 ++ [.lst a]) ∧ (p d = true → te env' (st1 ++ [.lst a]) = .ok (f d) (st1 ++ [.lst a]))) :
    eComp src t tt te vs env st = .ok (.ref st1.length) (st1 ++ [.lst ((l.filter p).map f)]) := by
  unfold eComp
  rw [hs]
  simp only [bind_ok]
  rw [compFix_pure p f l [] (by simpa using hl) h]
  simp
theorem comp_ref {src : EM Src} {t : Tgt} {tt : EM Bool} {te : EM D} {vs : List Nat} {env : Env} {st st1 : Store} {m : Nat} {l : List D} (p : D → Bool) (f : D → D) (hs : src env st = .ok (.ref m) st1) (hm : seqOf st1 m = some l) (hl : l.length ≤ sizeLine)
    (h : ∀ d ∈ l, ∃ env', t d (wipeD env vs) = some env' ∧ ∀ a, tt env' (st1 ++ [.lst a]) = .ok (p d) (st1 ++ [.lst a]) ∧ (p d = true → te env' (st1 ++ [.lst a]) = .ok (f d) (st1 ++ [.lst a]))) :
    eComp src t tt te vs env st = .ok (.ref st1.length) (st1 ++ [.lst ((l.filter p).map f)]) := by
  unfold eComp
  rw [hs]
  simp only [bind_ok]
  rw [compRef_pure p f hm fuel 0 [] (by have : (sizeLine : Nat) = 16777216 := by decide
                                        have : fuel = 100000000 := rfl
                                        omega) (Nat.zero_le _) (by simpa using hl) h]
  simp
theorem line_fuel {n : Nat} (h : n ≤ sizeLine) : n < fuel := by
  have : (sizeLine : Nat) = 16777216 := by decide
  have : fuel = 100000000 := rfl
  omega
theorem line_le {n : Nat} (h : n ≤ 16777216) : n ≤ sizeLine := by
  have : (sizeLine : Nat) = 16777216 := by decide
  omega
/-! ### running -/
def MulOk (i j : Int) : Prop := (-(2 ^ 64) < i ∧ i < 2 ^ 64) ∨ (-(2 ^ 64) < j ∧ j < 2 ^ 64)
instance {i j : Int} : Decidable (MulOk i j) := inferInstanceAs (Decidable (_ ∨ _))
theorem mulOk_l {i j : Int} (h : -18446744073709551616 < i) (h2 : i < 18446744073709551616) : MulOk i j := .inl ⟨by omega, by omega⟩
theorem mulOk_r {i j : Int} (h : -18446744073709551616 < j) (h2 : j < 18446744073709551616) : MulOk i j := .inr ⟨by omega, by omega⟩
@[simp] theorem mulOk_nat {k : Nat} {j : Int} : MulOk (no_index (OfNat.ofNat k)) j ↔ (((OfNat.ofNat k : Int) < 18446744073709551616) ∨ ((-(18446744073709551616 : Int) < j) ∧ j < 18446744073709551616)) := by
  constructor
  · rintro (⟨a, b⟩ | ⟨a, b⟩)
    · exact .inl (by omega)
    · exact .inr ⟨by omega, by omega⟩
  · rintro (a | ⟨a, b⟩)
    · exact .inl ⟨by have : (0 : Int) ≤ OfNat.ofNat k := Int.natCast_nonneg k; omega, by omega⟩
    · exact .inr ⟨by omega, by omega⟩
@[simp] theorem mulOk_nat_r {k : Nat} {j : Int} : MulOk j (no_index (OfNat.ofNat k)) ↔ (((OfNat.ofNat k : Int) < 18446744073709551616) ∨ ((-(18446744073709551616 : Int) < j) ∧ j < 18446744073709551616)) := by
  constructor
  · rintro (⟨a, b⟩ | ⟨a, b⟩)
    · exact .inr ⟨by omega, by omega⟩
    · exact .inl (by omega)
  · rintro (a | ⟨a, b⟩)
    · exact .inr ⟨by have : (0 : Int) ≤ OfNat.ofNat k := Int.natCast_nonneg k; omega, by omega⟩
    · exact .inl ⟨by omega, by omega⟩
def DivOk (j : Int) : Prop := 0 < j ∧ j.natAbs.log2 < 9000
instance {j : Int} : Decidable (DivOk j) := inferInstanceAs (Decidable (_ ∧ _))
theorem log2_small {k : Nat} (h : k < 18446744073709551616) : k.log2 < 9000 := by
  by_cases q : k = 0
  · subst q; decide
  · exact Nat.lt_trans ((Nat.log2_lt q).mpr (by omega : k < 2 ^ 64)) (by decide)
theorem divOk {j : Int} (h : 0 < j) (h2 : j < 18446744073709551616) : DivOk j := ⟨h, log2_small (by omega)⟩
@[simp] theorem divOk_nat {k : Nat} (h : 0 < k) (h2 : k < 18446744073709551616) : DivOk (no_index (OfNat.ofNat k)) = True := eq_true (divOk (by show (0 : Int) < (k : Int); omega) (by show (k : Int) < _; omega))
def andK (b : EM D) (env : Env) : D → Store → Out D
  | .bl c, st => if c = true then b env st else .ok (.bl false) st
  | _, _ => .bad
def orK (b : EM D) (env : Env) : D → Store → Out D
  | .bl c, st => if c = true then .ok (.bl true) st else b env st
  | _, _ => .bad
def notK : D → Store → Out D
  | .bl c, st => .ok (.bl (!c)) st
  | _, _ => .bad
def blK : D → Store → Out Bool
  | .bl c, st => .ok c st
  | _, _ => .bad
def chainK (g : OpT) (mc : EM D) (env : Env) (b : D) : D → Store → Out D
  | .bl c, st => if c = true then (mc env st).bind fun c st => .of (g b c st) else .ok (.bl false) st
  | _, _ => .bad
section
variable {env : Env} {st : Store} {a b c : EM D} {ms : EM (List D)} {ta tb : EM Bool} {s1 s2 : SM} {i j : Int} {x y z : D}
@[simp] theorem run_var (i : Nat) : eVar i env st = match env[i]? with | some (some d) => .ok d st | _ => .bad := (rfl)
@[simp] theorem run_c (d : D) : eC d env st = .ok d st := (rfl)
@[simp] theorem run_e1 {α β : Type} {m : EM α} (op : α → Store → Option (β × Store)) : e1 op m env st = (m env st).bind fun a st => .of (op a st) := (rfl)
@[simp] theorem run_e2 (op : OpT) : e2 op a b env st = (a env st).bind fun x st => (b env st).bind fun y st => .of (op x y st) := (rfl)
@[simp] theorem run_nil : eNil env st = .ok [] st := (rfl)
@[simp] theorem run_cons : eCons a ms env st = (a env st).bind fun x st => (ms env st).bind fun l st => .ok (x :: l) st := (rfl)
@[simp] theorem run_tand : tAndD ta tb env st = (ta env st).bind fun c st => if c = true then tb env st else .ok false st := (rfl)
@[simp] theorem run_tor : tOrD ta tb env st = (ta env st).bind fun c st => if c = true then .ok true st else tb env st := (rfl)
@[simp] theorem run_tnot : tNotD ta env st = (ta env st).bind fun c st => .ok (!c) st := (rfl)
@[simp] theorem run_tB : tB a env st = (a env st).bind blK := by
  unfold tB; congr 1; funext d st; cases d <;> rfl
@[simp] theorem blK_bl (c : Bool) : blK (.bl c) st = .ok c st := (rfl)
@[simp] theorem run_and : eAnd a b env st = (a env st).bind (andK b env) := by
  unfold eAnd; congr 1; funext d st; cases d <;> try rfl
  rename_i k; cases k <;> rfl
@[simp] theorem andK_bl (c : Bool) : andK b env (.bl c) st = if c = true then b env st else .ok (.bl false) st := (rfl)
@[simp] theorem run_or : eOr a b env st = (a env st).bind (orK b env) := by
  unfold eOr; congr 1; funext d st; cases d <;> try rfl
  rename_i k; cases k <;> rfl
@[simp] theorem orK_bl (c : Bool) : orK b env (.bl c) st = if c = true then .ok (.bl true) st else b env st := (rfl)
@[simp] theorem run_not : eNot a env st = (a env st).bind notK := by
  unfold eNot; congr 1; funext d st; cases d <;> rfl
@[simp] theorem notK_bl (c : Bool) : notK (.bl c) st = .ok (.bl (!c)) st := (rfl)
@[simp] theorem run_ifx : eIf ta a b env st = (ta env st).bind fun k st => if k = true then a env st else b env st := (rfl)
@[simp] theorem run_chain (f g : OpT) : eChain f g a b c env st = (a env st).bind fun x st => (b env st).bind fun y st => (Out.of (f x y st)).bind (chainK g c env y) := by
  unfold eChain; congr 1; funext x st; congr 1; funext y st; congr 1; funext d st; cases d <;> try rfl
  rename_i k; cases k <;> rfl
@[simp] theorem chainK_bl (g : OpT) (k : Bool) : chainK g c env x (.bl k) st = if k = true then (c env st).bind fun z st => .of (g x z st) else .ok (.bl false) st := (rfl)
@[simp] theorem run_skip : sSkip env st = .nx env st := (rfl)
@[simp] theorem run_seq : sSeq s1 s2 env st = (s1 env st).seq s2 := (rfl)
@[simp] theorem run_set (i : Nat) : sSet i a env st = (a env st).s env fun d st => .nx (env.set i (some d)) st := (rfl)
@[simp] theorem run_do : sDo a env st = (a env st).s env fun _ st => .nx env st := (rfl)
@[simp] theorem run_ret : sRet a env st = (a env st).s env fun d st => .rt d st := (rfl)
@[simp] theorem run_retN : sRetN env st = .rt .non st := (rfl)
@[simp] theorem run_if : sIf ta s1 s2 env st = (ta env st).s env fun k st => if k = true then s1 env st else s2 env st := (rfl)
@[simp] theorem run_brk : sBrk env st = .bk env st := (rfl)
@[simp] theorem run_cont : sCont env st = .ct env st := (rfl)
@[simp] theorem run_raise (c : CN) : sRaise c env st = .exn c env st := (rfl)
@[simp] theorem run_call (f : FM) : eCall f ms env st = (ms env st).bind f := (rfl)
@[simp] theorem run_tup : eTup ms env st = (ms env st).bind fun ds st => .of (if ds.length < 1000 then some (.tup ds, st) else none) := (rfl)
@[simp] theorem run_lst : eLst ms env st = (ms env st).bind fun ds st => .of (if ds.length < 1000 then some (.ref st.length, st ++ [Ob.lst ds]) else none) := (rfl)
@[simp] theorem run_dic : eDic env st = .ok (.ref st.length) (st ++ [.dic []]) := (rfl)
@[simp] theorem run_no : oNo env st = .ok none st := (rfl)
def soK : D → Store → Out (Option Int)
  | .int i, st => .ok (some i) st
  | _, _ => .bad
@[simp] theorem run_so : oSo a env st = (a env st).bind soK := by
  unfold oSo; congr 1; funext d st; cases d <;> rfl
@[simp] theorem soK_int : soK (.int i) st = .ok (some i) st := (rfl)
@[simp] theorem run_sli (lo hi : EO) : eSli a lo hi env st = (a env st).bind fun d st => (lo env st).bind fun l st => (hi env st).bind fun h st => .of (sliceD d l h st) := (rfl)
@[simp] theorem run_bm (T : String) (op : MopT) : eBM T op a ms env st = (a env st).bind fun d st => if isT T d st = true then (ms env st).bind fun ds st => .of (op d ds st) else .bad := (rfl)
@[simp] theorem run_isi (T : String) : eIsi T a env st = (a env st).bind fun d st => .of ((tyD st d).bind fun t => (kitB t T).map fun b => (.bl b, st)) := (rfl)
@[simp] theorem run_tru : tTru a env st = (a env st).bind fun d st => match truD d st with | some b => .ok b st | none => .bad := (rfl)
@[simp] theorem run_iseq : iSeq a env st = (a env st).bind fun d st => .of (srcOf d st) := (rfl)
def rngK : D → Store → Out Src
  | .int j, st => if -(2 ^ 62) ≤ j ∧ j < 2 ^ 62 then .ok (.fix (rngD 0 j.toNat)) st else .bad
  | _, _ => .bad
@[simp] theorem run_rng1 : iRng1D a env st = (a env st).bind rngK := by
  unfold iRng1D; congr 1; funext d st; cases d <;> rfl
@[simp] theorem rngK_int : rngK (.int i) st = if -(2 ^ 62) ≤ i ∧ i < 2 ^ 62 then .ok (.fix (rngD 0 i.toNat)) st else .bad := (rfl)
@[simp] theorem run_yes : tYesD env st = .ok true st := (rfl)
@[simp] theorem run_sub : sSub a b c env st = (c env st).s env fun v st => (a env st).s env fun d st => (b env st).s env fun k st => setSub env d k v st := (rfl)
/-! values -/
@[simp] theorem add_int : oAdd (.int i) (.int j) st = some (.int (i + j), st) := (rfl)
@[simp] theorem sub_int : oSub (.int i) (.int j) st = some (.int (i - j), st) := (rfl)
@[simp] theorem mul_int' : oMul (.int i) (.int j) st = if MulOk i j then some (.int (i * j), st) else none := (rfl)
@[simp] theorem mod_int'' : oMod (.int i) (.int j) st = if 0 < j then some (.int (i % j), st) else none := (rfl)
@[simp] theorem div_int : oDiv (.int i) (.int j) st = if DivOk j then some (.int (i / j), st) else none := (rfl)
@[simp] theorem neg_int' : oNeg (.int i) st = some (.int (-i), st) := (rfl)
@[simp] theorem lt_int' : oLt (.int i) (.int j) st = some (.bl (decide (i < j)), st) := (rfl)
@[simp] theorem le_int' : oLe (.int i) (.int j) st = some (.bl (decide (i ≤ j)), st) := (rfl)
@[simp] theorem gt_int' : oGt (.int i) (.int j) st = some (.bl (decide (j < i)), st) := (rfl)
@[simp] theorem ge_int' : oGe (.int i) (.int j) st = some (.bl (decide (j ≤ i)), st) := (rfl)
@[simp] theorem eqD_int : eqD (.int i) (.int j) st = some (decide (i = j)) := (rfl)
@[simp] theorem eqD_str (s t : List Nat) : eqD (.str s) (.str t) st = some (decide (s = t)) := (rfl)
@[simp] theorem eqD_bl (s t : Bool) : eqD (.bl s) (.bl t) st = some (decide (s = t)) := (rfl)
@[simp] theorem eqD_nn : eqD .non .non st = some true := (rfl)
@[simp] theorem eqD_ni : eqD .non (.int i) st = some false := (rfl)
@[simp] theorem eqD_in : eqD (.int i) .non st = some false := (rfl)
@[simp] theorem eqD_ns (s : List Nat) : eqD .non (.str s) st = some false := (rfl)
@[simp] theorem eqD_sn (s : List Nat) : eqD (.str s) .non st = some false := (rfl)
@[simp] theorem eq_run : oEq x y st = (eqD x y st).map fun c => (.bl c, st) := (rfl)
@[simp] theorem ne_run : oNe x y st = (eqD x y st).map fun c => (.bl (!c), st) := (rfl)
@[simp] theorem isN_non : oIsN .non .non st = some (.bl true, st) := (rfl)
@[simp] theorem isN_int : oIsN (.int i) .non st = some (.bl false, st) := (rfl)
@[simp] theorem isN_tup (l : List D) : oIsN (.tup l) .non st = some (.bl false, st) := (rfl)
@[simp] theorem isN_str (l : List Nat) : oIsN (.str l) .non st = some (.bl false, st) := (rfl)
@[simp] theorem isN_ref (n : Nat) : oIsN (.ref n) .non st = some (.bl false, st) := (rfl)
@[simp] theorem notN_non : oNotN .non .non st = some (.bl false, st) := (rfl)
@[simp] theorem notN_int : oNotN (.int i) .non st = some (.bl true, st) := (rfl)
@[simp] theorem notN_tup (l : List D) : oNotN (.tup l) .non st = some (.bl true, st) := (rfl)
@[simp] theorem notN_str (l : List Nat) : oNotN (.str l) .non st = some (.bl true, st) := (rfl)
@[simp] theorem notN_ref (n : Nat) : oNotN (.ref n) .non st = some (.bl true, st) := (rfl)
@[simp] theorem int_int : oInt [.int i] st = some (.int i, st) := (rfl)
@[simp] theorem int_bl (k : Bool) : oInt [.bl k] st = some (.int (if k then 1 else 0), st) := (rfl)
@[simp] theorem max_2 : oMax [.int i, .int j] st = some (.int (max i j), st) := (rfl)
@[simp] theorem min_2 : oMin [.int i, .int j] st = some (.int (min i j), st) := (rfl)
@[simp] theorem max_3 (k : Int) : oMax [.int i, .int j, .int k] st = some (.int (max (max i j) k), st) := (rfl)
@[simp] theorem min_3 (k : Int) : oMin [.int i, .int j, .int k] st = some (.int (min (min i j) k), st) := (rfl)
@[simp] theorem len_tup (l : List D) : oLen [.tup l] st = some (.int l.length, st) := (rfl)
@[simp] theorem len_str (l : List Nat) : oLen [.str l] st = if l.length ≤ sizeLine then some (.int l.length, st) else none := (rfl)
theorem len_seq {n : Nat} {l : List D} (h : seqOf st n = some l) : oLen [.ref n] st = some (.int l.length, st) := by
  unfold seqOf at h
  unfold oLen
  cases z : st[n]? with
  | none => rw [z] at h; cases h
  | some o => rw [z] at h; cases o <;> simp_all
@[simp] theorem ix_tup' (l : List D) : oIx (.tup l) (.int i) st = (atI l i).map fun d => (d, st) := (rfl)
theorem ix_seq' {n : Nat} {l : List D} (h : seqOf st n = some l) : oIx (.ref n) (.int i) st = (atI l i).map fun d => (d, st) := by unfold oIx; simp [h]
@[simp] theorem ord_c (n : Nat) : oOrd [.str [n]] st = some (.int n, st) := (rfl)
theorem isT_list {n : Nat} {l : List D} (h : seqOf st n = some l) : isT "list" (.ref n) st = true := by simp [isT, h]
@[simp] theorem isT_str (s : List Nat) : isT "str" (.str s) st = true := (rfl)
theorem app_lst {n : Nat} {l : List D} (h : st[n]? = some (.lst l)) (hl : l.length < sizeLine) : mAppend (.ref n) [x] st = some (.non, st.set n (.lst (l ++ [x]))) := by unfold mAppend; simp [h, hl]
theorem sli_seq {n : Nat} {l : List D} {lo hi : Option Int} (h : seqOf st n = some l) : sliceD (.ref n) lo hi st = some (.ref st.length, st ++ [.lst (cutL l lo hi)]) := by unfold sliceD; simp [h]
theorem src_seq {n : Nat} {l : List D} (h : seqOf st n = some l) : srcOf (.ref n) st = some (.ref n, st) := by unfold srcOf; simp [h]
@[simp] theorem src_tup (l : List D) : srcOf (.tup l) st = some (.fix l, st) := (rfl)
theorem list_seq {n : Nat} {l : List D} (h : seqOf st n = some l) : oList [.ref n] st = some (.ref st.length, st ++ [.lst l]) := by unfold oList; simp [h]
theorem ty_lst {n : Nat} {l : List D} (h : seqOf st n = some l) : tyD st (.ref n) = some "list" := by
  unfold seqOf at h
  unfold tyD
  cases z : st[n]? with
  | none => rw [z] at h; cases h
  | some o => rw [z] at h; cases o <;> simp_all
theorem add_lst {n m : Nat} {l k : List D} (h : st[n]? = some (.lst l)) (h2 : st[m]? = some (.lst k)) (hl : l.length + k.length ≤ sizeLine) : oAdd (.ref n) (.ref m) st = some (.ref st.length, st ++ [.lst (l ++ k)]) := by unfold oAdd; simp [h, h2, hl]
end
theorem atI_nat' {l : List D} {k : Nat} : atI l (k : Int) = l[k]? := by
  unfold atI ixN
  by_cases h : k < l.length
  · rw [if_pos (by omega), if_pos (by omega)]; simp
  · rw [if_pos (by omega), if_neg (by omega)]; simp; omega
/-! equality of data -/
theorem toPy_ints (st : Store) (k : Nat) (ns : List Int) : (ns.map D.int).mapM (toPy st k) = some (ns.map .int) := by
  induction ns with
  | nil => rfl
  | cons n ns ih =>
    rw [List.map_cons, List.mapM_cons, ih]
    cases k <;> rfl
theorem shaped_ints (ns : List Int) : SeqAt.shaped (.list (ns.map .int)) = true := by
  have h1 : ∀ ns : List Int, PyData.canLayAll0 (ns.map .int) = true := fun ns => by
    induction ns with
    | nil => rfl
    | cons n ns ih => simp [PyData.canLayAll0, PyData.canLay0, ih]
  have h2 : ∀ ns : List Int, PyData.depthAll (ns.map .int) = 0 := fun ns => by
    induction ns with
    | nil => rfl
    | cons n ns ih => simp [PyData.depthAll, PyData.depth, ih]
  simp [SeqAt.shaped, PyData.canLay0, PyData.depth, h1, h2]
theorem eqv_ints : ∀ (a b : List Int), PyData.eqvAll (a.map .int) (b.map .int) = decide (a = b)
  | [], [] => rfl
  | [], _ :: _ => rfl
  | _ :: _, [] => rfl
  | a :: l, b :: m => by
    rw [List.map_cons, List.map_cons, PyData.eqvAll, PyData.eqv, eqv_ints l m]
    by_cases h : a = b
    · subst h; simp
    · simp [h]
/-- two lists of ints compared -/
theorem eqD_ints {st : Store} {n m : Nat} {a b : List Int} (h : seqOf st n = some (a.map .int)) (h2 : seqOf st m = some (b.map .int)) : eqD (.ref n) (.ref m) st = some (decide (a = b)) := by
  unfold eqD
  have e1 : toPy st 8 (.ref n) = some (.list (a.map .int)) := by
    show (seqOf st n).bind (fun l => (l.mapM (toPy st 7)).map PyData.list) = _
    rw [h, Option.bind_some, toPy_ints]; rfl
  have e2 : toPy st 8 (.ref m) = some (.list (b.map .int)) := by
    show (seqOf st m).bind (fun l => (l.mapM (toPy st 7)).map PyData.list) = _
    rw [h2, Option.bind_some, toPy_ints]; rfl
  rw [e1, e2]
  show (if SeqAt.shaped (.list (a.map .int)) = true ∧ SeqAt.shaped (.list (b.map .int)) = true then some (PyData.eqv (.list (a.map .int)) (.list (b.map .int))) else none) = _
  rw [if_pos ⟨shaped_ints a, shaped_ints b⟩, PyData.eqv, eqv_ints]
theorem in_ints {st : Store} {n : Nat} {l : List Int} {i : Int} (h : seqOf st n = some (l.map .int)) : inD (.int i) (.ref n) st = some (decide (i ∈ l)) := by
  have hd : isDict st (.ref n) = false := by
    unfold seqOf at h
    unfold isDict
    cases z : st[n]? with
    | none => rw [z] at h; cases h
    | some o => rw [z] at h; cases o <;> simp_all
  unfold inD
  rw [hd, if_neg Bool.false_ne_true]
  show (match seqOf st n with | some l => (match inSeq (.int i) l with | some c => some c | none => inDeep (.int i) (.ref n) st) | none => _) = _
  rw [h]
  have hf : (l.map D.int).all flatD = true := by simp [List.all_eq_true, flatD]
  simp only [inSeq, flatD, hf, and_self, if_true]
  congr 1
  rw [List.any_map]
  rw [Bool.eq_iff_iff]
  simp [eqF]
@[simp] theorem in_run {x y : D} {st : Store} : oIn x y st = (inD x y st).map fun c => (.bl c, st) := (rfl)
@[simp] theorem notin_run {x y : D} {st : Store} : oNotIn x y st = (inD x y st).map fun c => (.bl (!c), st) := (rfl)
end DL
/-! DLs: reckoning with mirrors, in the form that simp keeps. -/
namespace DL
open PySem L2

def SR.fn : SR → Out D
  | .nx _ st => .ok .non st
  | .rt d st => .ok d st
  | .exn c _ st => .exn c st
  | _ => .bad
section
variable {env : Env} {st : Store} {p : Prop} [Decidable p] {b : SM}
@[simp] theorem fn_nx : (SR.nx env st).fn = .ok .non st := (rfl)
@[simp] theorem fn_rt (d : D) : (SR.rt d st).fn = .ok d st := (rfl)
@[simp] theorem fn_exn (c : CN) : (SR.exn c env st).fn = .exn c st := (rfl)
@[simp] theorem fn_bad : SR.bad.fn = .bad := (rfl)
@[simp] theorem fn_ite (a b : SR) : (if p then a else b).fn = if p then a.fn else b.fn := by split <;> rfl
theorem run_fn {k n : Nat} {ds : List D} (h : ds.length = k) : fnM k n b ds st = (b (ds.map some ++ List.replicate (n - ds.length) none) st).fn := by
  unfold fnM; rw [if_pos h]; generalize b _ st = r; cases r <;> rfl
variable {d0 d1 d2 d3 d4 d5 d6 d7 : D} {n : Nat}
@[simp] theorem run_f0 : fnM 0 n b [] st = (b (List.replicate n none) st).fn := run_fn rfl
@[simp] theorem run_f1 : fnM 1 n b [d0] st = (b (some d0 :: List.replicate (n - 1) none) st).fn := run_fn rfl
@[simp] theorem run_f2 : fnM 2 n b [d0, d1] st = (b (some d0 :: some d1 :: List.replicate (n - 2) none) st).fn := run_fn rfl
@[simp] theorem run_f3 : fnM 3 n b [d0, d1, d2] st = (b (some d0 :: some d1 :: some d2 :: List.replicate (n - 3) none) st).fn := run_fn rfl
@[simp] theorem run_f4 : fnM 4 n b [d0, d1, d2, d3] st = (b (some d0 :: some d1 :: some d2 :: some d3 :: List.replicate (n - 4) none) st).fn := run_fn rfl
@[simp] theorem run_f5 : fnM 5 n b [d0, d1, d2, d3, d4] st = (b (some d0 :: some d1 :: some d2 :: some d3 :: some d4 :: List.replicate (n - 5) none) st).fn := run_fn rfl
@[simp] theorem run_f6 : fnM 6 n b [d0, d1, d2, d3, d4, d5] st = (b (some d0 :: some d1 :: some d2 :: some d3 :: some d4 :: some d5 :: List.replicate (n - 6) none) st).fn := run_fn rfl
@[simp] theorem rep_s {α : Type} (n : Nat) (a : α) : List.replicate (n + 1) a = a :: List.replicate n a := (rfl)
@[simp] theorem map_ite {α β : Type} (f : α → β) (a b : Option α) : (if p then a else b).map f = if p then a.map f else b.map f := by split <;> rfl
@[simp] theorem obind_ite {α β : Type} (f : α → Option β) (a b : Option α) : (if p then a else b).bind f = if p then a.bind f else b.bind f := by split <;> rfl
end

/-! ### loops and comprehensions, told -/
def forK (t : Tgt) (b : SM) (env : Env) : Src → Store → SR
  | .fix l, st => forFix t b l env st
  | .ref n, st => forRef t b n fuel 0 env st
def compK (t : Tgt) (tt : EM Bool) (te : EM D) (vs : List Nat) (env : Env) (s : Src) (st : Store) : Out D :=
  match (match s with
    | .fix l => compFix t tt te st.length (wipeD env vs) l (st ++ [Ob.lst []])
    | .ref m => compRef t tt te st.length (wipeD env vs) m fuel 0 (st ++ [Ob.lst []])) with
  | .ok _ st' => .ok (.ref st.length) st'
  | _ => .bad
section
variable {t : Tgt} {b : SM} {env : Env} {st : Store} {tt : EM Bool} {te : EM D} {vs : List Nat} {src : EM Src}
@[simp] theorem run_for : sFor src t b env st = (src env st).s env (forK t b env) := by
  unfold sFor; congr 1; funext s st; cases s <;> rfl
theorem forK_fix (l : List D) : forK t b env (.fix l) st = forFix t b l env st := rfl
theorem forK_ref (n : Nat) : forK t b env (.ref n) st = forRef t b n fuel 0 env st := rfl
@[simp] theorem run_while (c : EM Bool) : sWhile c b env st = whileF c b fuel env st := (rfl)
@[simp] theorem run_comp : eComp src t tt te vs env st = (src env st).bind (compK t tt te vs env) := (rfl)
theorem compK_fix (l : List D) (p : D → Bool) (f : D → D) (hl : l.length ≤ sizeLine)
    (h : ∀ d ∈ l, ∃ env', t d (wipeD env vs) = some env' ∧ ∀ a, tt env' (st ++ [.lst a]) = .ok (p d) (st ++ [.lst a]) ∧ (p d = true → te env' (st ++ [.lst a]) = .ok (f d) (st ++ [.lst a]))) :
    compK t tt te vs env (.fix l) st = .ok (.ref st.length) (st ++ [.lst ((l.filter p).map f)]) := by
  have := comp_fix (src := fun _ st => .ok (.fix l) st) (t := t) (tt := tt) (te := te) (vs := vs) (env := env) (st := st) p f rfl hl h
  exact this
theorem compK_ref {m : Nat} (l : List D) (p : D → Bool) (f : D → D) (hm : seqOf st m = some l) (hl : l.length ≤ sizeLine)
    (h : ∀ d ∈ l, ∃ env', t d (wipeD env vs) = some env' ∧ ∀ a, tt env' (st ++ [.lst a]) = .ok (p d) (st ++ [.lst a]) ∧ (p d = true → te env' (st ++ [.lst a]) = .ok (f d) (st ++ [.lst a]))) :
    compK t tt te vs env (.ref m) st = .ok (.ref st.length) (st ++ [.lst ((l.filter p).map f)]) := by
  have := comp_ref (src := fun _ st => .ok (.ref m) st) (t := t) (tt := tt) (te := te) (vs := vs) (env := env) (st := st) p f rfl hm hl h
  exact this
end

/-! ### loops by a fold -/
/-- a loop whose body keeps Rel, state by state -/
theorem forFix_sim {α σ : Type} {t : Tgt} {b : SM} (Rel : σ → Env → Store → Prop) (g : α → D) (step : σ → α → σ) : ∀ (L : List α) (s : σ) (env : Env) (st : Store), Rel s env st →
    (∀ x ∈ L, ∀ s env st, Rel s env st → ∃ env' e s', t (g x) env = some env' ∧ (b env' st = .nx e s' ∨ b env' st = .ct e s') ∧ Rel (step s x) e s') →
    ∃ e s', forFix t b (L.map g) env st = .nx e s' ∧ Rel (L.foldl step s) e s'
  | [], s, env, st, h, _ => ⟨env, st, rfl, h⟩
  | x :: L, s, env, st, h, hs => by
    obtain ⟨env', e, s', h1, h2, h3⟩ := hs x (List.mem_cons_self ..) s env st h
    obtain ⟨e2, s2, h4, h5⟩ := forFix_sim Rel g step L (step s x) e s' h3 fun y hy => hs y (List.mem_cons_of_mem _ hy)
    refine ⟨e2, s2, ?_, h5⟩
    rw [List.map_cons]
    unfold forFix
    rw [h1]
    simp only
    rcases h2 with h2 | h2 <;> rw [h2] <;> exact h4
/-- .. with a state that the law's reader keeps: Inl goes on, Inr is a way out -/
theorem forFix_simE {α σ : Type} {t : Tgt} {b : SM} (Rel : σ → Env → Store → Prop) (g : α → D) (step : σ → α → Option σ) (R : SR → Prop) : ∀ (L : List α) (s : σ) (env : Env) (st : Store), Rel s env st →
    (∀ x ∈ L, ∀ s env st, Rel s env st → ∃ env', t (g x) env = some env' ∧ (match step s x with
      | some s2 => ∃ e s', (b env' st = .nx e s' ∨ b env' st = .ct e s') ∧ Rel s2 e s'
      | none => (∃ d s', b env' st = .rt d s' ∧ R (.rt d s')) ∨ (∃ e s', b env' st = .bk e s' ∧ R (.nx e s')) ∨ ∃ c e s', b env' st = .exn c e s' ∧ R (.exn c e s'))) →
    match L.foldlM step s with
      | some s2 => ∃ e s', forFix t b (L.map g) env st = .nx e s' ∧ Rel s2 e s'
      | none => R (forFix t b (L.map g) env st)
  | [], s, env, st, h, _ => ⟨env, st, rfl, h⟩
  | x :: L, s, env, st, h, hs => by
    obtain ⟨env', h1, h2⟩ := hs x (List.mem_cons_self ..) s env st h
    rw [List.foldlM_cons, List.map_cons]
    unfold forFix
    rw [h1]
    simp only
    cases z : step s x with
    | none =>
      rw [z] at h2
      simp only at h2
      show R _
      rcases h2 with ⟨d, s', h2, r⟩ | ⟨e, s', h2, r⟩ | ⟨c, e, s', h2, r⟩ <;> rw [h2] <;> exact r
    | some s2 =>
      rw [z] at h2
      simp only at h2
      obtain ⟨e, s', h2, h3⟩ := h2
      have q := forFix_simE Rel g step R L s2 e s' h3 fun y hy => hs y (List.mem_cons_of_mem _ hy)
      show match L.foldlM step s2 with | some s2 => _ | none => _
      cases w : L.foldlM step s2 with
      | none => rw [w] at q; simp only at q ⊢; rcases h2 with h2 | h2 <;> rw [h2] <;> exact q
      | some s3 => rw [w] at q; simp only at q ⊢; rcases h2 with h2 | h2 <;> rw [h2] <;> exact q

/-! ### slices -/
section
variable {α : Type} {l : List α} {i j : Int}
theorem cut_from (h : 0 ≤ i) : cutL l (some i) none = l.drop i.toNat := by
  obtain ⟨k, rfl⟩ := Int.eq_ofNat_of_zero_le h
  simp only [cutL, HT.sIx_none, HT.sIx_nat, Int.toNat_natCast]
  by_cases q : k ≤ l.length
  · rw [Nat.min_eq_left q, List.take_of_length_le (by simp)]
  · rw [Nat.min_eq_right (by omega), List.drop_of_length_le (Nat.le_refl _), List.drop_of_length_le (by omega)]; simp
theorem cut_to (h : 0 ≤ i) : cutL l none (some i) = l.take i.toNat := by
  obtain ⟨k, rfl⟩ := Int.eq_ofNat_of_zero_le h
  simp only [cutL, HT.sIx_none, HT.sIx_nat, Int.toNat_natCast, List.drop_zero, Nat.sub_zero]
  by_cases q : k ≤ l.length
  · rw [Nat.min_eq_left q]
  · rw [Nat.min_eq_right (by omega), List.take_of_length_le (Nat.le_refl _), List.take_of_length_le (by omega)]
theorem cut_mid (h : 0 ≤ i) (h2 : 0 ≤ j) : cutL l (some i) (some j) = (l.drop i.toNat).take (j.toNat - i.toNat) := by
  obtain ⟨k, rfl⟩ := Int.eq_ofNat_of_zero_le h
  obtain ⟨m, rfl⟩ := Int.eq_ofNat_of_zero_le h2
  simp only [cutL, HT.sIx_nat, Int.toNat_natCast]
  by_cases q : k ≤ l.length
  · rw [Nat.min_eq_left q]
    by_cases q2 : m ≤ l.length
    · rw [Nat.min_eq_left q2]
    · rw [Nat.min_eq_right (by omega), List.take_of_length_le (by simp), List.take_of_length_le (by simp; omega)]
  · rw [List.drop_of_length_le (by omega : l.length ≤ k), List.drop_of_length_le (by omega)]; simp
end
theorem atI_pos {α : Type} {l : List α} {i : Int} (h : 0 ≤ i) : atI l i = l[i.toNat]? := by
  obtain ⟨k, rfl⟩ := Int.eq_ofNat_of_zero_le h
  rw [Int.toNat_natCast]
  unfold atI ixN
  by_cases h : k < l.length
  · rw [if_pos (by omega), if_pos (by omega)]; simp
  · rw [if_pos (by omega), if_neg (by omega)]; simp; omega
theorem rng_len {lo : Int} {n : Nat} : (rngD lo n).length = n := by simp [rngD]
theorem rng_map {n : Nat} : rngD 0 n = (List.range n).map fun i => .int (i : Int) := by simp [rngD]
theorem line_val : sizeLine = 16777216 := by decide

/-! ### what stands at a place of the store -/
def Ob.seq : Ob → Option (List D)
  | .lst l => some l
  | .frz l => some l
  | _ => none
def Ob.lstO : Ob → Option (List D)
  | .lst l => some l
  | _ => none
def Ob.len : Ob → Option Nat
  | .lst l => some l.length
  | .frz l => some l.length
  | .dic l => some l.length
  | _ => none
def Ob.ty : Ob → Option String
  | .lst _ => some "list"
  | .frz _ => some "list"
  | .dic _ => some "dict"
  | .dtp _ => some "dict"
  | _ => none
def Ob.tru : Ob → Option Bool
  | .lst l => some (!l.isEmpty)
  | .frz l => some (!l.isEmpty)
  | .dic l => some (!l.isEmpty)
  | _ => none
def Ob.isDic : Ob → Bool
  | .dic _ => true
  | .dtp _ => true
  | _ => false
def Ob.fld (cs : List CN) (f : FN) : Ob → Option D
  | .ins c fs => if cs.contains c then fs.lookup f else none
  | _ => none
def Ob.setf (cs : List CN) (f : FN) (v : D) : Ob → Option Ob
  | .ins c fs => if cs.contains c && decide (fs.length < 1000) then some (.ins c (putD f v fs)) else none
  | _ => none
def Ob.cl : Ob → Option CN
  | .ins c _ => some c
  | _ => none
def Ob.dget (k : D) : Ob → Option (Option D)
  | .dic l => (keyD k).map fun k => lookK l k
  | .dtp l => (keysD k).map fun k => lookK l k
  | _ => none
def Ob.sub (k v : D) : Ob → Option Ob
  | .lst l => match k with
    | .int i => (ixN l.length i).map fun j => .lst (l.set j v)
    | _ => none
  | .dic l => (keyD k).bind fun k => if l.length < sizeLine then some (.dic (putKD l k v)) else none
  | .dtp l => (keysD k).bind fun k => if l.length < sizeLine then some (.dtp (putKD l k v)) else none
  | _ => none
section
variable {l : List D} {m : List (Kd × D)} {q : List (List Kd × D)} {c : CN} {f : List (FN × D)} {cs : List CN} {g : FN} {v k : D} {i : Int}
@[simp] theorem ob_seq_lst : Ob.seq (.lst l) = some l := (rfl)
@[simp] theorem ob_seq_frz : Ob.seq (.frz l) = some l := (rfl)
@[simp] theorem ob_seq_dic : Ob.seq (.dic m) = none := (rfl)
@[simp] theorem ob_seq_dtp : Ob.seq (.dtp q) = none := (rfl)
@[simp] theorem ob_seq_ins : Ob.seq (.ins c f) = none := (rfl)
@[simp] theorem ob_lstO_lst : Ob.lstO (.lst l) = some l := (rfl)
@[simp] theorem ob_lstO_frz : Ob.lstO (.frz l) = none := (rfl)
@[simp] theorem ob_lstO_dic : Ob.lstO (.dic m) = none := (rfl)
@[simp] theorem ob_lstO_dtp : Ob.lstO (.dtp q) = none := (rfl)
@[simp] theorem ob_lstO_ins : Ob.lstO (.ins c f) = none := (rfl)
@[simp] theorem ob_len_lst : Ob.len (.lst l) = some l.length := (rfl)
@[simp] theorem ob_len_frz : Ob.len (.frz l) = some l.length := (rfl)
@[simp] theorem ob_len_dic : Ob.len (.dic m) = some m.length := (rfl)
@[simp] theorem ob_len_dtp : Ob.len (.dtp q) = none := (rfl)
@[simp] theorem ob_len_ins : Ob.len (.ins c f) = none := (rfl)
@[simp] theorem ob_ty_lst : Ob.ty (.lst l) = some "list" := (rfl)
@[simp] theorem ob_ty_frz : Ob.ty (.frz l) = some "list" := (rfl)
@[simp] theorem ob_ty_dic : Ob.ty (.dic m) = some "dict" := (rfl)
@[simp] theorem ob_ty_dtp : Ob.ty (.dtp q) = some "dict" := (rfl)
@[simp] theorem ob_ty_ins : Ob.ty (.ins c f) = none := (rfl)
@[simp] theorem ob_tru_lst : Ob.tru (.lst l) = some (!l.isEmpty) := (rfl)
@[simp] theorem ob_tru_frz : Ob.tru (.frz l) = some (!l.isEmpty) := (rfl)
@[simp] theorem ob_tru_dic : Ob.tru (.dic m) = some (!m.isEmpty) := (rfl)
@[simp] theorem ob_tru_dtp : Ob.tru (.dtp q) = none := (rfl)
@[simp] theorem ob_tru_ins : Ob.tru (.ins c f) = none := (rfl)
@[simp] theorem ob_isDic_lst : Ob.isDic (.lst l) = false := (rfl)
@[simp] theorem ob_isDic_frz : Ob.isDic (.frz l) = false := (rfl)
@[simp] theorem ob_isDic_dic : Ob.isDic (.dic m) = true := (rfl)
@[simp] theorem ob_isDic_dtp : Ob.isDic (.dtp q) = true := (rfl)
@[simp] theorem ob_isDic_ins : Ob.isDic (.ins c f) = false := (rfl)
@[simp] theorem ob_fld_lst : Ob.fld cs g (.lst l) = none := (rfl)
@[simp] theorem ob_fld_frz : Ob.fld cs g (.frz l) = none := (rfl)
@[simp] theorem ob_fld_dic : Ob.fld cs g (.dic m) = none := (rfl)
@[simp] theorem ob_fld_dtp : Ob.fld cs g (.dtp q) = none := (rfl)
@[simp] theorem ob_fld_ins : Ob.fld cs g (.ins c f) = if cs.contains c then f.lookup g else none := (rfl)
@[simp] theorem ob_setf_lst : Ob.setf cs g v (.lst l) = none := (rfl)
@[simp] theorem ob_setf_frz : Ob.setf cs g v (.frz l) = none := (rfl)
@[simp] theorem ob_setf_dic : Ob.setf cs g v (.dic m) = none := (rfl)
@[simp] theorem ob_setf_dtp : Ob.setf cs g v (.dtp q) = none := (rfl)
@[simp] theorem ob_setf_ins : Ob.setf cs g v (.ins c f) = if cs.contains c && decide (f.length < 1000) then some (.ins c (putD g v f)) else none := (rfl)
@[simp] theorem ob_cl_lst : Ob.cl (.lst l) = none := (rfl)
@[simp] theorem ob_cl_frz : Ob.cl (.frz l) = none := (rfl)
@[simp] theorem ob_cl_dic : Ob.cl (.dic m) = none := (rfl)
@[simp] theorem ob_cl_dtp : Ob.cl (.dtp q) = none := (rfl)
@[simp] theorem ob_cl_ins : Ob.cl (.ins c f) = some c := (rfl)
@[simp] theorem ob_dget_lst : Ob.dget v (.lst l) = none := (rfl)
@[simp] theorem ob_dget_frz : Ob.dget v (.frz l) = none := (rfl)
@[simp] theorem ob_dget_dic : Ob.dget v (.dic m) = (keyD v).map fun k => lookK m k := (rfl)
@[simp] theorem ob_dget_dtp : Ob.dget v (.dtp q) = (keysD v).map fun k => lookK q k := (rfl)
@[simp] theorem ob_dget_ins : Ob.dget v (.ins c f) = none := (rfl)
@[simp] theorem ob_sub_lst : Ob.sub (.int i) v (.lst l) = (ixN l.length i).map fun j => .lst (l.set j v) := (rfl)
@[simp] theorem ob_sub_dic : Ob.sub k v (.dic m) = (keyD k).bind fun k => if m.length < sizeLine then some (.dic (putKD m k v)) else none := (rfl)
@[simp] theorem ob_sub_dtp : Ob.sub k v (.dtp q) = (keysD k).bind fun k => if q.length < sizeLine then some (.dtp (putKD q k v)) else none := (rfl)
end
section
variable {st : Store} {n m : Nat} {x y z : D} {i j : Int} {env : Env}
@[simp] theorem seqOf_at : seqOf st n = st[n]?.bind Ob.seq := by
  cases h : st[n]? with
  | none => simp [seqOf, h]
  | some o => cases o <;> simp [seqOf, h]
@[simp] theorem len_at : oLen [.ref n] st = (st[n]?.bind Ob.len).map fun k => (.int k, st) := by
  cases h : st[n]? with
  | none => simp [oLen, h]
  | some o => cases o <;> simp [oLen, h]
@[simp] theorem ty_at : tyD st (.ref n) = st[n]?.bind Ob.ty := by
  cases h : st[n]? with
  | none => simp [tyD, h]
  | some o => cases o <;> simp [tyD, h]
@[simp] theorem ty_non : tyD st .non = some "NoneType" := (rfl)
@[simp] theorem ty_bl (b : Bool) : tyD st (.bl b) = some "bool" := (rfl)
@[simp] theorem ty_int : tyD st (.int i) = some "int" := (rfl)
@[simp] theorem ty_str (s : List Nat) : tyD st (.str s) = some "str" := (rfl)
@[simp] theorem ty_tup (l : List D) : tyD st (.tup l) = some "tuple" := (rfl)
@[simp] theorem src_at : srcOf (.ref n) st = (st[n]?.bind Ob.seq).map fun _ => (.ref n, st) := by simp [srcOf]
@[simp] theorem src_str (s : List Nat) : srcOf (.str s) st = some (.fix (s.map fun c => .str [c]), st) := (rfl)
@[simp] theorem list_at : oList [.ref n] st = (st[n]?.bind Ob.seq).map fun l => (.ref st.length, st ++ [.lst l]) := by simp [oList]
@[simp] theorem list_tup (l : List D) : oList [.tup l] st = some (.ref st.length, st ++ [.lst l]) := (rfl)
@[simp] theorem tuple_at : oTuple [.ref n] st = (st[n]?.bind Ob.seq).map fun l => (.tup l, st) := by simp [oTuple]
@[simp] theorem tuple_tup (l : List D) : oTuple [.tup l] st = some (.tup l, st) := (rfl)
@[simp] theorem ix_at : oIx (.ref n) (.int i) st = (st[n]?.bind Ob.seq).bind fun l => (atI l i).map fun d => (d, st) := by simp [oIx]
@[simp] theorem ix_str (s : List Nat) : oIx (.str s) (.int i) st = if s.length ≤ sizeLine then (atI s i).map fun c => (.str [c], st) else none := (rfl)
@[simp] theorem sli_at {lo hi : Option Int} : sliceD (.ref n) lo hi st = (st[n]?.bind Ob.seq).map fun l => (.ref st.length, st ++ [.lst (cutL l lo hi)]) := by simp [sliceD]
@[simp] theorem sli_str {lo hi : Option Int} (s : List Nat) : sliceD (.str s) lo hi st = if s.length ≤ sizeLine then some (.str (cutL s lo hi), st) else none := (rfl)
@[simp] theorem sli_tup {lo hi : Option Int} (s : List D) : sliceD (.tup s) lo hi st = some (.tup (cutL s lo hi), st) := (rfl)
@[simp] theorem isT_at : isT "list" (.ref n) st = (st[n]?.bind Ob.seq).isSome := by simp [isT]
@[simp] theorem app_at : mAppend (.ref n) [x] st = (st[n]?.bind Ob.lstO).bind fun l => if l.length < sizeLine then some (.non, st.set n (.lst (l ++ [x]))) else none := by
  cases h : st[n]? with
  | none => simp [mAppend, h]
  | some o => cases o <;> simp [mAppend, h]
@[simp] theorem clear_at : mClear (.ref n) [] st = (st[n]?.bind Ob.lstO).map fun l => (.non, st.set n (.lst [])) := by
  cases h : st[n]? with
  | none => simp [mClear, h]
  | some o => cases o <;> simp [mClear, h]
@[simp] theorem rev_at : mRev (.ref n) [] st = (st[n]?.bind Ob.lstO).map fun l => (.non, st.set n (.lst l.reverse)) := by
  cases h : st[n]? with
  | none => simp [mRev, h]
  | some o => cases o <;> simp [mRev, h]
@[simp] theorem pop_at : mPop (.ref n) [.int i] st = (st[n]?.bind Ob.lstO).bind fun l => (ixN l.length i).bind fun k => l[k]?.map fun x => (x, st.set n (.lst (l.eraseIdx k))) := by
  cases h : st[n]? with
  | none => simp [mPop, h]
  | some o => cases o with
    | lst l => cases q : ixN l.length i with
      | none => simp [mPop, h, q]
      | some k => cases z : l[k]? <;> simp [mPop, h, q, z]
    | _ => simp [mPop, h]
@[simp] theorem add_at : oAdd (.ref n) (.ref m) st = (st[n]?.bind Ob.lstO).bind fun l => (st[m]?.bind Ob.lstO).bind fun k => if l.length + k.length ≤ sizeLine then some (.ref st.length, st ++ [.lst (l ++ k)]) else none := by
  cases h : st[n]? with
  | none => simp [oAdd, h]
  | some o => cases q : st[m]? with
    | none => cases o <;> simp [oAdd, h, q]
    | some p => cases o <;> cases p <;> simp [oAdd, h, q]
@[simp] theorem add_str (s t : List Nat) : oAdd (.str s) (.str t) st = if s.length + t.length ≤ sizeLine then some (.str (s ++ t), st) else none := (rfl)
@[simp] theorem add_tup (s t : List D) : oAdd (.tup s) (.tup t) st = if s.length + t.length ≤ sizeLine then some (.tup (s ++ t), st) else none := (rfl)
@[simp] theorem sum_at : oSum [.ref n] st = (st[n]?.bind Ob.seq).bind fun l => (intsD l).map fun is => (.int is.sum, st) := by simp [oSum]
@[simp] theorem all_at : oAll [.ref n] st = (st[n]?.bind Ob.seq).bind fun l => (blsD l).map fun is => (.bl (is.all id), st) := by simp [oAll]
@[simp] theorem tru_at : truD (.ref n) st = st[n]?.bind Ob.tru := by
  cases h : st[n]? with
  | none => simp [truD, h]
  | some o => cases o <;> simp [truD, h]
@[simp] theorem isDict_at : isDict st (.ref n) = ((st[n]?.map Ob.isDic).getD false) := by
  cases h : st[n]? with
  | none => simp [isDict, h]
  | some o => cases o <;> simp [isDict, h]
@[simp] theorem isDict_tup (l : List D) : isDict st (.tup l) = false := (rfl)
@[simp] theorem isDict_str (l : List Nat) : isDict st (.str l) = false := (rfl)
@[simp] theorem dgetD_at : dgetD st n x = st[n]?.bind (Ob.dget x) := by
  cases h : st[n]? with
  | none => simp [dgetD, h]
  | some o => cases o <;> simp [dgetD, h]
@[simp] theorem dget_at : oDget (.ref n) x st = (st[n]?.bind (Ob.dget x)).bind fun r => r.map fun d => (d, st) := by simp [oDget]
@[simp] theorem setSub_at : setSub env (.ref n) x y st = match st[n]?.bind (Ob.sub x y) with | some o => .nx env (st.set n o) | none => .bad := by
  cases h : st[n]? with
  | none => simp [setSub, h, Ob.sub]
  | some o => cases o with
    | lst l => cases x <;> first | (simp [setSub, h, Ob.sub]; done) | skip
               rename_i i
               cases q : ixN l.length i <;> simp [setSub, h, q, Ob.sub]
    | frz l => simp [setSub, h, Ob.sub]
    | dic l => cases q : keyD x <;> simp [setSub, h, q, Ob.sub]; split <;> rfl
    | dtp l => cases q : keysD x <;> simp [setSub, h, q, Ob.sub]; split <;> rfl
    | ins c l => simp [setSub, h, Ob.sub]
/-! fields and methods -/
def fldD (cs : List CN) (f : FN) : D → Store → Option (D × Store)
  | .ref n, st => (st[n]?.bind (Ob.fld cs f)).map fun d => (d, st)
  | _, _ => none
@[simp] theorem fldD_ref {cs : List CN} {f : FN} : fldD cs f (.ref n) st = (st[n]?.bind (Ob.fld cs f)).map fun d => (d, st) := (rfl)
@[simp] theorem run_fld {cs : List CN} {f : FN} {a : EM D} : eFld cs f a env st = (a env st).bind fun d st => .of (fldD cs f d st) := by
  unfold eFld e1
  congr 1
  funext d st
  congr 1
  cases d with
  | ref n => cases h : st[n]? with
    | none => simp [fldD, h]
    | some o => cases o with
      | ins c fs => simp only [fldD, h, Option.bind_some, Ob.fld]; split <;> rfl
      | _ => simp [fldD, h]
  | _ => rfl
def setFld (cs : List CN) (f : FN) (v : D) (env : Env) : D → Store → SR
  | .ref n, st => match st[n]?.bind (Ob.setf cs f v) with
    | some o => .nx env (st.set n o)
    | none => .bad
  | _, _ => .bad
@[simp] theorem setFld_ref {cs : List CN} {f : FN} : setFld cs f x env (.ref n) st = match st[n]?.bind (Ob.setf cs f x) with | some o => .nx env (st.set n o) | none => .bad := (rfl)
@[simp] theorem run_sfld {cs : List CN} {f : FN} {a b : EM D} : sFldD cs f a b env st = (b env st).s env fun v st => (a env st).s env fun d st => setFld cs f v env d st := by
  unfold sFldD
  congr 1
  funext v st
  congr 1
  funext d st
  cases d with
  | ref n => cases h : st[n]? with
    | none => simp [setFld, h]
    | some o => cases o with
      | ins c fs => simp only [setFld, h, Option.bind_some, Ob.setf]; split <;> rfl
      | _ => simp [setFld, h]
  | _ => rfl
def methK (c : CN) (f : FM) (ms : EM (List D)) (env : Env) : D → Store → Out D
  | .ref n, st => if st[n]?.bind Ob.cl = some c then (ms env st).bind fun ds st => f (.ref n :: ds) st else .bad
  | _, _ => .bad
@[simp] theorem methK_ref {c : CN} {f : FM} {ms : EM (List D)} : methK c f ms env (.ref n) st = if st[n]?.bind Ob.cl = some c then (ms env st).bind fun ds st => f (.ref n :: ds) st else .bad := (rfl)
@[simp] theorem run_meth {c : CN} {f : FM} {a : EM D} {ms : EM (List D)} : eMeth c f a ms env st = (a env st).bind (methK c f ms env) := by
  unfold eMeth
  congr 1
  funext d st
  cases d with
  | ref n => cases h : st[n]? with
    | none => simp [methK, h]
    | some o => cases o with
      | ins c' fs => simp only [methK, h, Option.bind_some, Ob.cl, Option.some.injEq]
      | _ => simp [methK, h]
  | _ => rfl
def meth2K (c : CN) (f : FM) (c2 : CN) (f2 : FM) (ms : EM (List D)) (env : Env) : D → Store → Out D
  | .ref n, st => if st[n]?.bind Ob.cl = some c then (ms env st).bind fun ds st => f (.ref n :: ds) st else if st[n]?.bind Ob.cl = some c2 then (ms env st).bind fun ds st => f2 (.ref n :: ds) st else .bad
  | _, _ => .bad
@[simp] theorem meth2K_ref {c c2 : CN} {f f2 : FM} {ms : EM (List D)} : meth2K c f c2 f2 ms env (.ref n) st = if st[n]?.bind Ob.cl = some c then (ms env st).bind fun ds st => f (.ref n :: ds) st else if st[n]?.bind Ob.cl = some c2 then (ms env st).bind fun ds st => f2 (.ref n :: ds) st else .bad := (rfl)
@[simp] theorem run_meth2 {c c2 : CN} {f f2 : FM} {a : EM D} {ms : EM (List D)} : eMeth2 c f c2 f2 a ms env st = (a env st).bind (meth2K c f c2 f2 ms env) := by
  unfold eMeth2
  congr 1
  funext d st
  cases d with
  | ref n => cases h : st[n]? with
    | none => simp [meth2K, h]
    | some o => cases o with
      | ins c' fs => simp only [meth2K, h, Option.bind_some, Ob.cl, Option.some.injEq]
      | _ => simp [meth2K, h]
  | _ => rfl
def makeK (n : Nat) : Out D → Out D
  | .ok .non st => .ok (.ref n) st
  | _ => .bad
@[simp] theorem makeK_non : makeK n (.ok .non st) = .ok (.ref n) st := (rfl)
@[simp] theorem run_make {c : CN} {f : FM} {ms : EM (List D)} : eMake c f ms env st = (ms env st).bind fun ds st => makeK st.length (f (.ref st.length :: ds) (st ++ [.ins c []])) := by
  unfold eMake
  congr 1
end

/-! ### reading and writing behind a store -/
section
variable {st : Store} {o o' : Ob} {l : List Ob} {n k : Nat}
@[simp] theorem getA0 : (st ++ l)[st.length]? = l[0]? := by rw [List.getElem?_append_right (Nat.le_refl _), Nat.sub_self]
@[simp] theorem getAk : (st ++ l)[st.length + k]? = l[k]? := get_appk k
@[simp] theorem setA0 : (st ++ l).set st.length o' = st ++ l.set 0 o' := by rw [List.set_append_right _ _ (Nat.le_refl _), Nat.sub_self]
@[simp] theorem setAk : (st ++ l).set (st.length + k) o' = st ++ l.set k o' := set_appk k
theorem getL (h : n < st.length) : (st ++ l)[n]? = st[n]? := List.getElem?_append_left h
theorem setL (h : n < st.length) : (st ++ l).set n o' = st.set n o' ++ l := List.set_append_left _ _ h
end
theorem ints_f (l : List Int) (p' : Int → Bool) (p : D → Bool) (h : ∀ i, p (.int i) = p' i) : (l.map D.int).filter p = (l.filter p').map .int := by
  induction l with
  | nil => rfl
  | cons a l ih => simp only [List.map_cons, List.filter_cons, h, ih]; split <;> rfl
theorem filt_yes {α : Type} (l : List α) : l.filter (fun _ => true) = l := by simp

/-! ### equality -/
mutual
/-- Python's own word, of things without places -/
def eqB : D → D → Bool
  | .non, .non => true
  | .bl a, .bl b => a == b
  | .bl a, .int b => (if a then 1 else 0) == b
  | .int a, .bl b => a == (if b then 1 else 0)
  | .int a, .int b => a == b
  | .str a, .str b => a == b
  | .tup a, .tup b => eqBs a b
  | _, _ => false
def eqBs : List D → List D → Bool
  | [], [] => true
  | a :: l, b :: m => eqB a b && eqBs l m
  | _, _ => false
end
mutual
/-- a thing without places, of at most such a depth, its texts of signs -/
def D.val : Nat → D → Bool
  | _, .non => true
  | _, .bl _ => true
  | _, .int _ => true
  | _, .str s => s.all fun c => decide (c < 0x110000)
  | k + 1, .tup l => D.vals k l
  | _, _ => false
def D.vals (k : Nat) : List D → Bool
  | [] => true
  | d :: l => D.val k d && D.vals k l
end

mutual
def D.py : D → PyData
  | .non => .none
  | .bl b => .bool b
  | .int i => .int i
  | .str s => .str (sOf s)
  | .tup l => .tuple (D.pys l)
  | .ref _ => .none
def D.pys : List D → List PyData
  | [] => []
  | d :: l => D.py d :: D.pys l
end
mutual
theorem toPy_val (st : Store) : ∀ (k : Nat) (d : D), d.val k = true → toPy st k d = some d.py ∧ PyData.canLay0 d.py = true ∧ PyData.depth d.py ≤ k
  | k, .non, _ => ⟨by cases k <;> rfl, rfl, Nat.zero_le _⟩
  | k, .bl b, _ => ⟨by cases k <;> rfl, rfl, Nat.zero_le _⟩
  | k, .int i, _ => ⟨by cases k <;> rfl, rfl, Nat.zero_le _⟩
  | k, .str s, h => ⟨by cases k <;> rfl, by
      have h2 : s.all (fun c => decide (c < 0x110000)) = true := by cases k <;> exact h
      show PyData.strOk (sOf s) = true
      unfold PyData.strOk sOf
      simpa using h2, Nat.zero_le _⟩
  | k + 1, .tup l, h => by
    simp only [D.val] at h
    obtain ⟨h1, h2, h3⟩ := toPys_val st k l h
    refine ⟨?_, h2, by simp only [D.py, PyData.depth]; omega⟩
    show (l.mapM (toPy st k)).map PyData.tuple = _
    rw [h1]; rfl
  | 0, .tup l, h => by simp [D.val] at h
  | k, .ref n, h => by cases k <;> simp [D.val] at h
theorem toPys_val (st : Store) (k : Nat) : ∀ (l : List D), D.vals k l = true → l.mapM (toPy st k) = some (D.pys l) ∧ PyData.canLayAll0 (D.pys l) = true ∧ PyData.depthAll (D.pys l) ≤ k
  | [], _ => ⟨rfl, rfl, Nat.zero_le _⟩
  | d :: l, h => by
    simp only [D.vals, Bool.and_eq_true] at h
    obtain ⟨a1, a2, a3⟩ := toPy_val st k d h.1
    obtain ⟨b1, b2, b3⟩ := toPys_val st k l h.2
    refine ⟨by simp [List.mapM_cons, a1, b1, D.pys], by simp [D.pys, PyData.canLayAll0, a2, b2], by simp only [D.pys, PyData.depthAll]; omega⟩
end
theorem sOf_beq (a b : List Nat) : (sOf a == sOf b) = (a == b) := by
  rw [Bool.eq_iff_iff, beq_iff_eq, beq_iff_eq]
  exact ⟨sOf_inj, fun h => h ▸ rfl⟩
mutual
def D.nr : D → Bool
  | .ref _ => false
  | .tup l => D.nrs l
  | _ => true
def D.nrs : List D → Bool
  | [] => true
  | d :: l => D.nr d && D.nrs l
end
mutual
theorem nr_of_val {k : Nat} : ∀ d : D, d.val k = true → d.nr = true
  | .non, _ => rfl
  | .bl _, _ => rfl
  | .int _, _ => rfl
  | .str _, _ => rfl
  | .tup l, h => by
    cases k with
    | zero => simp [D.val] at h
    | succ k => simp only [D.val] at h; simp only [D.nr]; exact nrs_of_val l h
  | .ref n, h => by cases k <;> simp [D.val] at h
theorem nrs_of_val {k : Nat} : ∀ l : List D, D.vals k l = true → D.nrs l = true
  | [], _ => rfl
  | d :: l, h => by
    simp only [D.vals, Bool.and_eq_true] at h
    simp only [D.nrs, Bool.and_eq_true]
    exact ⟨nr_of_val d h.1, nrs_of_val l h.2⟩
end
mutual
theorem eqv_py : ∀ (a b : D), a.nr = true → b.nr = true → PyData.eqv a.py b.py = eqB a b
  | .tup l, b, ha, hb => by
    cases b with
    | tup m => simp only [D.py, PyData.eqv, eqB]; exact eqvs_py l m (by simpa only [D.nr] using ha) (by simpa only [D.nr] using hb)
    | ref n => simp [D.nr] at hb
    | _ => simp [D.py, PyData.eqv, eqB]
  | .non, b, ha, hb => by cases b <;> first | (simp [D.nr] at hb; done) | simp [D.py, PyData.eqv, eqB]
  | .bl c, b, ha, hb => by cases b <;> first | (simp [D.nr] at hb; done) | simp [D.py, PyData.eqv, eqB]
  | .int c, b, ha, hb => by cases b <;> first | (simp [D.nr] at hb; done) | simp [D.py, PyData.eqv, eqB]
  | .str c, b, ha, hb => by cases b <;> first | (simp [D.nr] at hb; done) | simp [D.py, PyData.eqv, eqB, sOf_beq]
  | .ref n, b, ha, hb => by simp [D.nr] at ha
theorem eqvs_py : ∀ (l m : List D), D.nrs l = true → D.nrs m = true → PyData.eqvAll (D.pys l) (D.pys m) = eqBs l m
  | [], [], _, _ => rfl
  | [], _ :: _, _, _ => rfl
  | _ :: _, [], _, _ => rfl
  | a :: l, b :: m, ha, hb => by
    simp only [D.nrs, Bool.and_eq_true] at ha hb
    simp only [D.pys, PyData.eqvAll, eqBs]
    rw [eqv_py a b ha.1 hb.1, eqvs_py l m ha.2 hb.2]
end
theorem scalD_eqB {a b : D} {c : Bool} (h : scalD a b = some c) : c = eqB a b := by
  cases a <;> cases b <;> simp_all [scalD, eqB] <;> subst h <;> rw [Bool.eq_iff_iff] <;> simp
/-- two things without places compared -/
theorem eqD_val {st : Store} {a b : D} (ha : a.val 8 = true) (hb : b.val 8 = true) : eqD a b st = some (eqB a b) := by
  unfold eqD
  cases h : scalD a b with
  | some c => simp only; rw [scalD_eqB h]
  | none =>
    obtain ⟨a1, a2, a3⟩ := toPy_val st 8 a ha
    obtain ⟨b1, b2, b3⟩ := toPy_val st 8 b hb
    simp only [a1, b1]
    rw [if_pos ⟨by unfold SeqAt.shaped; simp [a2]; omega, by unfold SeqAt.shaped; simp [b2]; omega⟩, eqv_py a b (nr_of_val a ha) (nr_of_val b hb)]
end DL
/-! DLt: to tell a function's result without what it threw away. -/
namespace DL
open PySem L2
section
variable {n : Nat} {ρ : Nat → Nat} (hρ : ∀ i, i < n → ρ i = i)
include hρ
mutual
theorem D.ren_eq : ∀ d : D, d.lt n = true → d.ren ρ = d
  | .ref k, h => by simp only [D.ren]; rw [hρ k (by simpa [D.lt] using h)]
  | .tup l, h => by simp only [D.ren]; rw [D.renAll_eq l (by simpa only [D.lt] using h)]
  | .non, _ => rfl
  | .bl _, _ => rfl
  | .int _, _ => rfl
  | .str _, _ => rfl
theorem D.renAll_eq : ∀ l : List D, D.ltAll n l = true → D.renAll ρ l = l
  | [], _ => rfl
  | d :: l, h => by
    simp only [D.ltAll, Bool.and_eq_true] at h
    simp only [D.renAll]; rw [D.ren_eq d h.1, D.renAll_eq l h.2]
end
theorem prs_eq {κ : Type} : ∀ l : List (κ × D), D.ltAll n (l.map (·.2)) = true → (l.map fun p => (p.1, p.2.ren ρ)) = l
  | [], _ => rfl
  | (k, d) :: l, h => by
    simp only [List.map_cons, D.ltAll, Bool.and_eq_true] at h
    rw [List.map_cons, prs_eq l h.2, D.ren_eq hρ d h.1]
theorem Ob.ren_eq : ∀ o : Ob, o.lt n = true → o.ren ρ = o
  | .lst l, h => by simp only [Ob.ren]; rw [D.renAll_eq hρ l h]
  | .frz l, h => by simp only [Ob.ren]; rw [D.renAll_eq hρ l h]
  | .dic l, h => by simp only [Ob.ren]; rw [prs_eq hρ l h]
  | .dtp l, h => by simp only [Ob.ren]; rw [prs_eq hρ l h]
  | .ins c l, h => by simp only [Ob.ren]; rw [prs_eq hρ l h]
end
mutual
theorem D.lt_mono {n m : Nat} (h : n ≤ m) : ∀ d : D, d.lt n = true → d.lt m = true
  | .ref k, q => by simp only [D.lt, decide_eq_true_eq] at *; omega
  | .tup l, q => by simp only [D.lt] at *; exact D.ltAll_mono h l q
  | .non, _ => rfl
  | .bl _, _ => rfl
  | .int _, _ => rfl
  | .str _, _ => rfl
theorem D.ltAll_mono {n m : Nat} (h : n ≤ m) : ∀ l : List D, D.ltAll n l = true → D.ltAll m l = true
  | [], _ => rfl
  | d :: l, q => by
    simp only [D.ltAll, Bool.and_eq_true] at *
    exact ⟨D.lt_mono h d q.1, D.ltAll_mono h l q.2⟩
end
theorem Ob.lt_mono {n m : Nat} (h : n ≤ m) : ∀ o : Ob, o.lt n = true → o.lt m = true
  | .lst l, q => D.ltAll_mono h _ q
  | .frz l, q => D.ltAll_mono h _ q
  | .dic l, q => D.ltAll_mono h _ q
  | .dtp l, q => D.ltAll_mono h _ q
  | .ins c l, q => D.ltAll_mono h _ q
theorem ltAll_iff {n : Nat} : ∀ {l : List D}, D.ltAll n l = true ↔ ∀ d ∈ l, d.lt n = true
  | [] => by simp [D.ltAll]
  | d :: l => by simp [D.ltAll, ltAll_iff (l := l)]
mutual
theorem D.lt_of_val {k n : Nat} : ∀ d : D, d.val k = true → d.lt n = true
  | .ref j, q => by cases k <;> simp [D.val] at q
  | .tup l, q => by
    cases k with
    | zero => simp [D.val] at q
    | succ k => simp only [D.val] at q; simp only [D.lt]; exact D.ltAll_of_val l q
  | .non, _ => rfl
  | .bl _, _ => rfl
  | .int _, _ => rfl
  | .str _, _ => rfl
theorem D.ltAll_of_val {k n : Nat} : ∀ l : List D, D.vals k l = true → D.ltAll n l = true
  | [], _ => rfl
  | d :: l, q => by
    simp only [D.vals, Bool.and_eq_true] at q
    simp only [D.ltAll, Bool.and_eq_true]
    exact ⟨D.lt_of_val d q.1, D.ltAll_of_val l q.2⟩
end
theorem ltAll_ints {n : Nat} (l : List Int) : D.ltAll n (l.map .int) = true := by
  induction l with
  | nil => rfl
  | cons a l ih => simp [D.ltAll, D.lt, ih]
theorem gc_id {st st1 g : Store} (h : st.length ≤ st1.length) (ok : st1.Ok) : Gc st st1 (st1 ++ g) fun i => i :=
  ⟨h, fun _ _ => rfl, fun _ _ _ _ e => e, fun i o e => ⟨by rw [Ob.ren_eq (n := st1.length) (fun _ _ => rfl) o (ok i o e)]; exact get_old e, ok i o e⟩⟩
/-- the store that is told, and behind it what was thrown away -/
theorem Tell.junk {st st1 g : Store} {d : D} (h : st.length ≤ st1.length) (ok : st1.Ok) (hd : d.lt st1.length = true) : Tell st (.ok d st1) (.ok d (st1 ++ g)) := by
  have := Tell.ok (st := st) (d := d) (fun i => i) (gc_id (g := g) h ok) hd
  rwa [D.ren_eq (n := st1.length) (fun _ _ => rfl) d hd] at this
theorem Tell.exn_junk {st st1 g : Store} {c : CN} (h : st.length ≤ st1.length) (ok : st1.Ok) : Tell st (.exn c st1) (.exn c (st1 ++ g)) := .exn _ (gc_id (g := g) h ok)
theorem Tell.same {st g : Store} {d : D} (ok : st.Ok) (hd : d.lt st.length = true) : Tell st (.ok d st) (.ok d (st ++ g)) := .junk (Nat.le_refl _) ok hd
theorem Tell.exn_same {st g : Store} {c : CN} (ok : st.Ok) : Tell st (.exn c st) (.exn c (st ++ g)) := .exn_junk (Nat.le_refl _) ok
theorem Tell.eq {st st1 : Store} {d : D} (h : st.length ≤ st1.length) (ok : st1.Ok) (hd : d.lt st1.length = true) : Tell st (.ok d st1) (.ok d st1) := by
  have := Tell.junk (g := []) h ok hd; rwa [List.append_nil] at this
theorem Tell.exn_eq {st st1 : Store} {c : CN} (h : st.length ≤ st1.length) (ok : st1.Ok) : Tell st (.exn c st1) (.exn c st1) := by
  have := Tell.exn_junk (g := []) (c := c) h ok; rwa [List.append_nil] at this
theorem Ok.app1 {st : Store} {o : Ob} (ok : st.Ok) (ho : o.lt (st.length + 1) = true) : Store.Ok (st ++ [o]) := fun i p e => by
  have hi := (List.getElem?_eq_some_iff.mp e).1
  rw [List.length_append, List.length_singleton] at hi ⊢
  by_cases h : i < st.length
  · rw [List.getElem?_append_left h] at e
    exact Ob.lt_mono (Nat.le_succ _) p (ok i p e)
  · have : i = st.length := by omega
    subst this
    rw [get_app0] at e
    cases e; exact ho
theorem Ok.set {st : Store} {o : Ob} {n : Nat} (ok : st.Ok) (ho : o.lt st.length = true) : Store.Ok (st.set n o) := fun i p e => by
  rw [List.length_set]
  by_cases h : n = i
  · subst h
    have hl : n < st.length := by simpa using (List.getElem?_eq_some_iff.mp e).1
    rw [List.getElem?_set_self hl] at e
    cases e; exact ho
  · rw [List.getElem?_set_ne h] at e; exact ok i p e
/-- one new thing is told; it may have stood anywhere behind the store -/
theorem Tell.lift {st g : Store} {o : Ob} {k : Nat} (ok : st.Ok) (hg : g[k]? = some o) (ho : o.lt st.length = true) : Tell st (.ok (.ref st.length) (st ++ [o])) (.ok (.ref (st.length + k)) (st ++ g)) := by
  have hρ : ∀ i, i < st.length → (fun i => if i < st.length then i else i + k) i = i := fun i h => by simp [h]
  have := Tell.ok (st := st) (d := .ref st.length) (st' := st ++ [o]) (st'' := st ++ g) (fun i => if i < st.length then i else i + k) ⟨by simp, hρ, fun i j hi hj e => ?_, fun i p e => ?_⟩ (by simp [D.lt])
  · simpa [D.ren] using this
  · simp at hi hj; (try simp only at e); split at e <;> split at e <;> omega
  · have hi : i < (st ++ [o]).length := (List.getElem?_eq_some_iff.mp e).1
    simp only [List.length_append, List.length_singleton] at hi ⊢
    by_cases h : i < st.length
    · rw [List.getElem?_append_left h] at e
      refine ⟨?_, Ob.lt_mono (Nat.le_succ _) p (ok i p e)⟩
      simp only [if_pos h]
      rw [Ob.ren_eq hρ p (ok i p e)]
      exact get_old e
    · have : i = st.length := by omega
      subst this
      rw [get_app0] at e; cases e
      refine ⟨?_, Ob.lt_mono (Nat.le_succ _) o ho⟩
      simp only [Nat.lt_irrefl, if_false]
      rw [Ob.ren_eq hρ o ho, get_appk]; exact hg
theorem Tell.lift0 {st g : Store} {o : Ob} (ok : st.Ok) (ho : o.lt st.length = true) : Tell st (.ok (.ref st.length) (st ++ [o])) (.ok (.ref st.length) (st ++ (o :: g))) := by
  have := Tell.lift (g := o :: g) (k := 0) ok rfl ho
  exact this

/-! ### more of loops -/
theorem forRef_fix {t : Tgt} {b : SM} {n : Nat} {l : List D} (P : Env → Store → Prop) (hP : ∀ env st, P env st → seqOf st n = some l)
    (hb : ∀ d ∈ l, ∀ env st env', P env st → t d env = some env' → ∀ e s, b env' st = .nx e s ∨ b env' st = .ct e s → P e s) :
    ∀ (k i : Nat) (env : Env) (st : Store), P env st → l.length < k + i → i ≤ l.length → forRef t b n k i env st = forFix t b (l.drop i) env st
  | 0, i, _, _, _, h1, h2 => by omega
  | k + 1, i, env, st, p, h1, h2 => by
    unfold forRef
    rw [hP env st p]
    simp only
    cases z : l[i]? with
    | none =>
      have : i = l.length := by have := List.getElem?_eq_none_iff.mp z; omega
      subst this
      rw [List.drop_length]; rfl
    | some d =>
      obtain ⟨hlt, hd⟩ := List.getElem?_eq_some_iff.mp z
      rw [List.drop_eq_getElem_cons hlt, hd]
      unfold forFix
      cases e : t d env with
      | none => simp only [e]
      | some env' =>
        simp only [e]
        have q := hb d (List.mem_of_getElem? z) env st env' p e
        cases w : b env' st with
        | nx e2 s2 => simp only [w]; exact forRef_fix P hP hb k (i + 1) e2 s2 (q e2 s2 (.inl w)) (by omega) hlt
        | ct e2 s2 => simp only [w]; exact forRef_fix P hP hb k (i + 1) e2 s2 (q e2 s2 (.inr w)) (by omega) hlt
        | _ => simp only [w]
theorem forRef_sim {α σ : Type} {t : Tgt} {b : SM} {n : Nat} (Rel : σ → Env → Store → Prop) (g : α → D) (step : σ → α → σ) (L : List α) (s : σ) (env : Env) (st : Store) (hl : L.length < fuel) (hP : ∀ s env st, Rel s env st → seqOf st n = some (L.map g)) (h : Rel s env st)
    (hs : ∀ x ∈ L, ∀ s env st, Rel s env st → ∃ env' e s', t (g x) env = some env' ∧ (b env' st = .nx e s' ∨ b env' st = .ct e s') ∧ Rel (step s x) e s') :
    ∃ e s', forRef t b n fuel 0 env st = .nx e s' ∧ Rel (L.foldl step s) e s' := by
  rw [forRef_fix (fun e st => ∃ s, Rel s e st) (fun e st ⟨s, r⟩ => hP s e st r) (fun d hd env st env' ⟨s, r⟩ q e s' z => by
    obtain ⟨x, hx, rfl⟩ := List.mem_map.mp hd
    obtain ⟨e1, e2, s2, h1, h2, h3⟩ := hs x hx s env st r
    rw [q] at h1; cases h1
    rcases z with z | z <;> rcases h2 with h2 | h2 <;> rw [z] at h2 <;> cases h2 <;> exact ⟨_, h3⟩) fuel 0 env st ⟨s, h⟩ (by simpa using hl) (Nat.zero_le _), List.drop_zero]
  exact forFix_sim Rel g step L s env st h hs
theorem forRef_simE {α σ : Type} {t : Tgt} {b : SM} {n : Nat} (Rel : σ → Env → Store → Prop) (g : α → D) (step : σ → α → Option σ) (R : SR → Prop) (L : List α) (s : σ) (env : Env) (st : Store) (hl : L.length < fuel) (hP : ∀ s env st, Rel s env st → seqOf st n = some (L.map g)) (h : Rel s env st)
    (hs : ∀ x ∈ L, ∀ s env st, Rel s env st → ∃ env', t (g x) env = some env' ∧ (match step s x with
      | some s2 => ∃ e s', (b env' st = .nx e s' ∨ b env' st = .ct e s') ∧ Rel s2 e s'
      | none => (∃ d s', b env' st = .rt d s' ∧ R (.rt d s')) ∨ (∃ e s', b env' st = .bk e s' ∧ R (.nx e s')) ∨ ∃ c e s', b env' st = .exn c e s' ∧ R (.exn c e s'))) :
    match L.foldlM step s with
      | some s2 => ∃ e s', forRef t b n fuel 0 env st = .nx e s' ∧ Rel s2 e s'
      | none => R (forRef t b n fuel 0 env st) := by
  rw [forRef_fix (fun e st => ∃ s, Rel s e st) (fun e st ⟨s, r⟩ => hP s e st r) (fun d hd env st env' ⟨s, r⟩ q e s' z => by
    obtain ⟨x, hx, rfl⟩ := List.mem_map.mp hd
    obtain ⟨e1, h1, h2⟩ := hs x hx s env st r
    rw [q] at h1; cases h1
    cases w : step s x with
    | some s2 =>
      rw [w] at h2
      obtain ⟨e2, s2', h2, h3⟩ := h2
      rcases z with z | z <;> rcases h2 with h2 | h2 <;> rw [z] at h2 <;> cases h2 <;> exact ⟨_, h3⟩
    | none =>
      rw [w] at h2
      rcases z with z | z <;> rcases h2 with ⟨_, _, h2, _⟩ | ⟨_, _, h2, _⟩ | ⟨_, _, _, h2, _⟩ <;> rw [z] at h2 <;> cases h2) fuel 0 env st ⟨s, h⟩ (by simpa using hl) (Nat.zero_le _), List.drop_zero]
  exact forFix_simE Rel g step R L s env st h hs
theorem foldlM_all {α : Type} (p : α → Bool) : ∀ L : List α, L.foldlM (fun (_ : Unit) x => if p x = true then some () else none) () = if L.all p = true then some () else none
  | [] => rfl
  | x :: L => by
    rw [List.foldlM_cons]
    cases h : p x
    · simp [h]
    · simp [h, foldlM_all p L]
/-- a loop that ends at the first that is not so -/
theorem forFix_all {α : Type} {t : Tgt} {b : SM} (Rel : Env → Store → Prop) (g : α → D) (p : α → Bool) (R : SR → Prop) (L : List α) (env : Env) (st : Store) (h : Rel env st)
    (hs : ∀ x ∈ L, ∀ env st, Rel env st → ∃ env', t (g x) env = some env' ∧ (p x = true → ∃ e s', (b env' st = .nx e s' ∨ b env' st = .ct e s') ∧ Rel e s') ∧
      (p x = false → (∃ d s', b env' st = .rt d s' ∧ R (.rt d s')) ∨ (∃ e s', b env' st = .bk e s' ∧ R (.nx e s')) ∨ ∃ c e s', b env' st = .exn c e s' ∧ R (.exn c e s'))) :
    (L.all p = true → ∃ e s', forFix t b (L.map g) env st = .nx e s' ∧ Rel e s') ∧ (L.all p = false → R (forFix t b (L.map g) env st)) := by
  have := forFix_simE (fun (_ : Unit) => Rel) g (fun _ x => if p x = true then some () else none) R L () env st h (fun x hx _ env st r => by
    obtain ⟨env', h1, h2, h3⟩ := hs x hx env st r
    refine ⟨env', h1, ?_⟩
    cases q : p x
    · simpa [q] using h3 q
    · simpa [q] using h2 q)
  rw [foldlM_all] at this
  constructor <;> intro h <;> simpa [h] using this
end DL
/-! DLu: loops by an invariant over what was gone through. -/
namespace DL
open PySem L2
def SR.out (r : SR) (P : Env → Store → Prop) (R : SR → Prop) : Prop := match r with
  | .nx e s => P e s
  | .ct e s => P e s
  | .bk e s => R (.nx e s)
  | .rt d s => R (.rt d s)
  | .exn c e s => R (.exn c e s)
  | .bad => False
def Tgt.go (t : Tgt) (d : D) (env : Env) (P : Env → Prop) : Prop := match t d env with
  | some e => P e
  | none => False
def SrcIs (s : Src) (st : Store) (l : List D) : Prop := match s with
  | .fix m => m = l
  | .ref n => st[n]?.bind Ob.seq = some l
def NoR : SR → Prop := fun _ => False
section
variable {P : Env → Store → Prop} {R : SR → Prop} {e env : Env} {s st : Store} {d : D} {c : CN} {p : Prop} [Decidable p] {i j : Nat} {l : List D} {n : Nat}
@[simp] theorem out_nx : (SR.nx e s).out P R = P e s := (rfl)
@[simp] theorem out_ct : (SR.ct e s).out P R = P e s := (rfl)
@[simp] theorem out_bk : (SR.bk e s).out P R = R (.nx e s) := (rfl)
@[simp] theorem out_rt : (SR.rt d s).out P R = R (.rt d s) := (rfl)
@[simp] theorem out_exn : (SR.exn c e s).out P R = R (.exn c e s) := (rfl)
@[simp] theorem out_bad : SR.bad.out P R = False := (rfl)
@[simp] theorem out_ite (a b : SR) : (if p then a else b).out P R = if p then a.out P R else b.out P R := by split <;> rfl
@[simp] theorem go_name {Q : Env → Prop} : (tName i).go d env Q = Q (env.set i (some d)) := (rfl)
@[simp] theorem go_tup2 {Q : Env → Prop} {a b : D} : (tTup2 i j).go (.tup [a, b]) env Q = Q ((env.set i (some a)).set j (some b)) := (rfl)
@[simp] theorem src_fix {m : List D} : SrcIs (.fix m) st l = (m = l) := (rfl)
@[simp] theorem src_ref : SrcIs (.ref n) st l = (st[n]?.bind Ob.seq = some l) := (rfl)
@[simp] theorem NoR_eq (r : SR) : NoR r = False := (rfl)
end
section
variable {α : Type} {t : Tgt} {b : SM}
theorem forFix_out (L : List α) (g : α → D) (Inv : List α → Env → Store → Prop) (R : SR → Prop)
    (step : ∀ pre x post env st, L = pre ++ x :: post → Inv pre env st → t.go (g x) env fun env' => (b env' st).out (Inv (pre ++ [x])) R) :
    ∀ (post pre : List α) (env : Env) (st : Store), L = pre ++ post → Inv pre env st → (∃ e s', forFix t b (post.map g) env st = .nx e s' ∧ Inv L e s') ∨ R (forFix t b (post.map g) env st)
  | [], pre, env, st, hL, h => by rw [List.append_nil] at hL; subst hL; exact .inl ⟨env, st, rfl, h⟩
  | x :: post, pre, env, st, hL, h => by
    have q := step pre x post env st hL h
    rw [List.map_cons]
    unfold forFix
    unfold Tgt.go at q
    cases z : t (g x) env with
    | none => rw [z] at q; exact q.elim
    | some env' =>
      rw [z] at q
      simp only at q ⊢
      have hL2 : L = (pre ++ [x]) ++ post := by simp [hL]
      cases w : b env' st with
      | nx e s => rw [w] at q; exact forFix_out L g Inv R step post _ e s hL2 q
      | ct e s => rw [w] at q; exact forFix_out L g Inv R step post _ e s hL2 q
      | bk e s => rw [w] at q; exact .inr q
      | rt d s => rw [w] at q; exact .inr q
      | exn c e s => rw [w] at q; exact .inr q
      | bad => rw [w] at q; exact q.elim
theorem forRef_out {n : Nat} (L : List α) (g : α → D) (Inv : List α → Env → Store → Prop) (R : SR → Prop) (hs : ∀ pre env st, Inv pre env st → st[n]?.bind Ob.seq = some (L.map g))
    (step : ∀ pre x post env st, L = pre ++ x :: post → Inv pre env st → t.go (g x) env fun env' => (b env' st).out (Inv (pre ++ [x])) R) :
    ∀ (k : Nat) (post pre : List α) (env : Env) (st : Store), post.length < k → L = pre ++ post → Inv pre env st → (∃ e s', forRef t b n k pre.length env st = .nx e s' ∧ Inv L e s') ∨ R (forRef t b n k pre.length env st)
  | 0, _, _, _, _, hk, _, _ => by omega
  | k + 1, post, pre, env, st, hk, hL, h => by
    unfold forRef
    rw [seqOf_at, hs pre env st h]
    simp only
    cases post with
    | nil =>
      rw [List.append_nil] at hL; subst hL
      rw [List.getElem?_eq_none (by simp)]
      exact .inl ⟨env, st, rfl, h⟩
    | cons x post =>
      have hx : (L.map g)[pre.length]? = some (g x) := by rw [hL]; simp
      have q := step pre x post env st hL h
      rw [hx]
      simp only
      unfold Tgt.go at q
      cases z : t (g x) env with
      | none => rw [z] at q; exact q.elim
      | some env' =>
        rw [z] at q
        simp only at q ⊢
        have hL2 : L = (pre ++ [x]) ++ post := by simp [hL]
        have rc : ∀ e s, Inv (pre ++ [x]) e s → (∃ e2 s', forRef t b n k (pre.length + 1) e s = .nx e2 s' ∧ Inv L e2 s') ∨ R (forRef t b n k (pre.length + 1) e s) := fun e s q => by
          have := forRef_out L g Inv R hs step k post (pre ++ [x]) e s (by simp at hk; omega) hL2 q
          rwa [List.length_append, List.length_singleton] at this
        cases w : b env' st with
        | nx e s => rw [w] at q; exact rc e s q
        | ct e s => rw [w] at q; exact rc e s q
        | bk e s => rw [w] at q; exact .inr q
        | rt d s => rw [w] at q; exact .inr q
        | exn c e s => rw [w] at q; exact .inr q
        | bad => rw [w] at q; exact q.elim
theorem forK_out {s : Src} {env : Env} {st : Store} {r : SR} (hr : forK t b env s st = r) (L : List α) (g : α → D) (Inv : List α → Env → Store → Prop) (R : SR → Prop)
    (hs : ∀ pre env st, Inv pre env st → SrcIs s st (L.map g)) (hl : L.length < fuel) (h0 : Inv [] env st)
    (step : ∀ pre x post env st, L = pre ++ x :: post → Inv pre env st → t.go (g x) env fun env' => (b env' st).out (Inv (pre ++ [x])) R) :
    (∃ e s', r = .nx e s' ∧ Inv L e s') ∨ R r := by
  subst hr
  cases s with
  | fix l =>
    have := hs [] env st h0
    simp only [src_fix] at this
    subst this
    exact forFix_out L g Inv R step L [] env st rfl h0
  | ref n => exact forRef_out L g Inv R hs step fuel L [] env st hl rfl h0
/-- .. without a way out -/
theorem forK_inv {s : Src} {env : Env} {st : Store} {r : SR} (hr : forK t b env s st = r) (L : List α) (g : α → D) (Inv : List α → Env → Store → Prop)
    (hs : ∀ pre env st, Inv pre env st → SrcIs s st (L.map g)) (hl : L.length < fuel) (h0 : Inv [] env st)
    (step : ∀ pre x post env st, L = pre ++ x :: post → Inv pre env st → t.go (g x) env fun env' => (b env' st).out (Inv (pre ++ [x])) NoR) :
    ∃ e s', r = .nx e s' ∧ Inv L e s' := by
  rcases forK_out hr L g Inv NoR hs hl h0 step with h | h
  · exact h
  · exact h.elim
def Out.test {β : Type} (o : Out β) (P : β → Store → Prop) : Prop := match o with
  | .ok a st => P a st
  | _ => False
@[simp] theorem test_ok {β : Type} {a : β} {st : Store} {P : β → Store → Prop} : (Out.ok a st).test P = P a st := (rfl)
@[simp] theorem test_ite {β : Type} {p : Prop} [Decidable p] {a b : Out β} {P : β → Store → Prop} : (if p then a else b).test P = if p then a.test P else b.test P := by split <;> rfl
theorem whileF_out {c : EM Bool} {R : SR → Prop} (Inv : Env → Store → Prop) (μ : Env → Store → Nat)
    (step : ∀ env st, Inv env st → (c env st).test fun k st' => if k = true then (b env st').out (fun e s => Inv e s ∧ μ e s < μ env st) R else R (.nx env st')) :
    ∀ (k : Nat) (env : Env) (st : Store), μ env st < k → Inv env st → R (whileF c b k env st)
  | 0, _, _, h, _ => by omega
  | k + 1, env, st, hk, h => by
    have q := step env st h
    unfold whileF
    cases z : c env st with
    | ok d st' =>
      rw [z] at q
      simp only [test_ok] at q
      simp only [s_ok]
      split
      · rename_i hd
        rw [if_pos hd] at q
        cases w : b env st' with
        | nx e s => rw [w] at q; exact whileF_out Inv μ step k e s (by have := q.2; omega) q.1
        | ct e s => rw [w] at q; exact whileF_out Inv μ step k e s (by have := q.2; omega) q.1
        | bk e s => rw [w] at q; exact q
        | rt d s => rw [w] at q; exact q
        | exn c e s => rw [w] at q; exact q
        | bad => rw [w] at q; exact q.elim
      · rename_i hd; rw [if_neg hd] at q; exact q
    | exn c st' => rw [z] at q; exact q.elim
    | bad => rw [z] at q; exact q.elim
theorem while_out {c : EM Bool} {env : Env} {st : Store} {r : SR} (hr : whileF c b fuel env st = r) (R : SR → Prop) (Inv : Env → Store → Prop) (μ : Env → Store → Nat) (hμ : μ env st < fuel) (h0 : Inv env st)
    (step : ∀ env st, Inv env st → (c env st).test fun k st' => if k = true then (b env st').out (fun e s => Inv e s ∧ μ e s < μ env st) R else R (.nx env st')) : R r := by
  subst hr; exact whileF_out Inv μ step fuel env st hμ h0
/-- a comprehension whose parts change nothing -/
theorem compK_eq {tt : EM Bool} {te : EM D} {vs : List Nat} {env : Env} {st : Store} {s : Src} (L : List α) (g : α → D) (p : α → Bool) (f : α → D) (hs : SrcIs s st (L.map g)) (hl : L.length ≤ sizeLine)
    (h : ∀ x ∈ L, ∀ a, t.go (g x) (wipeD env vs) fun env' => tt env' (st ++ [.lst a]) = .ok (p x) (st ++ [.lst a]) ∧ (p x = true → te env' (st ++ [.lst a]) = .ok (f x) (st ++ [.lst a]))) :
    compK t tt te vs env s st = .ok (.ref st.length) (st ++ [.lst ((L.filter p).map f)]) := by
  have key : ∀ (post : List α) (acc : List D), acc.length + post.length ≤ sizeLine → (∀ x ∈ post, x ∈ L) → compFix t tt te st.length (wipeD env vs) (post.map g) (st ++ [.lst acc]) = .ok () (st ++ [.lst (acc ++ (post.filter p).map f)]) := by
    intro post
    induction post with
    | nil => intro acc _ _; simp [compFix]
    | cons x post ih =>
      intro acc hacc hm
      have q := h x (hm x (List.mem_cons_self ..)) acc
      rw [List.map_cons]
      unfold compFix
      unfold Tgt.go at q
      cases z : t (g x) (wipeD env vs) with
      | none => rw [z] at q; exact q.elim
      | some env' =>
        rw [z] at q
        simp only at q ⊢
        simp only [List.length_cons] at hacc
        rw [compTurn_pure get_app0 (by omega) q.1 q.2]
        simp only [bind_ok]
        rw [List.filter_cons]
        split
        · rw [set_app0, ih (acc ++ [f x]) (by simp; omega) fun y hy => hm y (List.mem_cons_of_mem _ hy)]; simp
        · rw [ih acc (by omega) fun y hy => hm y (List.mem_cons_of_mem _ hy)]
  unfold compK
  cases s with
  | fix l =>
    simp only [src_fix] at hs
    subst hs
    simp only
    rw [key L [] (by simpa using hl) fun _ h => h]; simp
  | ref n =>
    simp only [src_ref] at hs
    have e : compRef t tt te st.length (wipeD env vs) n fuel 0 (st ++ [.lst []]) = compFix t tt te st.length (wipeD env vs) (L.map g) (st ++ [.lst []]) := by
      have hn : n < st.length := by
        cases z : st[n]? with
        | none => rw [z] at hs; cases hs
        | some o => exact lt_of_get z
      have main : ∀ (k : Nat) (post pre : List α) (acc : List D), acc.length + post.length ≤ sizeLine → post.length < k → L = pre ++ post → compRef t tt te st.length (wipeD env vs) n k pre.length (st ++ [.lst acc]) = compFix t tt te st.length (wipeD env vs) (post.map g) (st ++ [.lst acc]) := by
        intro k
        induction k with
        | zero => intro post _ _ _ hk; omega
        | succ k ih =>
          intro post pre acc hacc hk hL
          unfold compRef
          rw [seqOf_at, getL hn, hs]
          simp only
          cases post with
          | nil =>
            rw [List.append_nil] at hL; subst hL
            rw [List.getElem?_eq_none (by simp)]
            rfl
          | cons x post =>
            have hx : (L.map g)[pre.length]? = some (g x) := by rw [hL]; simp
            have q := h x (by rw [hL]; simp) acc
            rw [hx, List.map_cons]
            unfold compFix
            unfold Tgt.go at q
            cases z : t (g x) (wipeD env vs) with
            | none => rw [z] at q; exact q.elim
            | some env' =>
              rw [z] at q
              simp only [z] at q ⊢
              have hL2 : L = (pre ++ [x]) ++ post := by simp [hL]
              simp only [List.length_cons] at hacc hk
              rw [compTurn_pure get_app0 (by omega) q.1 q.2]
              simp only [bind_ok]
              rw [show pre.length + 1 = (pre ++ [x]).length by simp]
              split
              · rw [set_app0]; exact ih post (pre ++ [x]) _ (by simp; omega) (by omega) hL2
              · exact ih post (pre ++ [x]) acc (by omega) (by omega) hL2
      exact main fuel L [] [] (by simpa using hl) (by have := line_fuel hl; omega) rfl
    simp only
    rw [e, key L [] (by simpa using hl) fun _ h => h]; simp
end
theorem compK_r {α : Type} {t : Tgt} {tt : EM Bool} {te : EM D} {vs : List Nat} {env : Env} {st : Store} {s : Src} {r : Out D} (hr : compK t tt te vs env s st = r) (L : List α) (g : α → D) (p : α → Bool) (f : α → D) (hs : SrcIs s st (L.map g)) (hl : L.length ≤ sizeLine)
    (h : ∀ x ∈ L, ∀ a, t.go (g x) (wipeD env vs) fun env' => tt env' (st ++ [.lst a]) = .ok (p x) (st ++ [.lst a]) ∧ (p x = true → te env' (st ++ [.lst a]) = .ok (f x) (st ++ [.lst a]))) :
    r = .ok (.ref st.length) (st ++ [.lst ((L.filter p).map f)]) := by
  rw [← hr]; exact compK_eq L g p f hs hl h
/-! ### more -/
@[simp] theorem kit_NoneType_str : kitB "NoneType" "str" = some false := (rfl)
@[simp] theorem kit_NoneType_int : kitB "NoneType" "int" = some false := (rfl)
@[simp] theorem kit_NoneType_bool : kitB "NoneType" "bool" = some false := (rfl)
@[simp] theorem kit_NoneType_tuple : kitB "NoneType" "tuple" = some false := (rfl)
@[simp] theorem kit_NoneType_list : kitB "NoneType" "list" = some false := (rfl)
@[simp] theorem kit_NoneType_dict : kitB "NoneType" "dict" = some false := (rfl)
@[simp] theorem kit_bool_str : kitB "bool" "str" = some false := (rfl)
@[simp] theorem kit_bool_int : kitB "bool" "int" = some true := (rfl)
@[simp] theorem kit_bool_bool : kitB "bool" "bool" = some true := (rfl)
@[simp] theorem kit_bool_tuple : kitB "bool" "tuple" = some false := (rfl)
@[simp] theorem kit_bool_list : kitB "bool" "list" = some false := (rfl)
@[simp] theorem kit_bool_dict : kitB "bool" "dict" = some false := (rfl)
@[simp] theorem kit_int_str : kitB "int" "str" = some false := (rfl)
@[simp] theorem kit_int_int : kitB "int" "int" = some true := (rfl)
@[simp] theorem kit_int_bool : kitB "int" "bool" = some false := (rfl)
@[simp] theorem kit_int_tuple : kitB "int" "tuple" = some false := (rfl)
@[simp] theorem kit_int_list : kitB "int" "list" = some false := (rfl)
@[simp] theorem kit_int_dict : kitB "int" "dict" = some false := (rfl)
@[simp] theorem kit_str_str : kitB "str" "str" = some true := (rfl)
@[simp] theorem kit_str_int : kitB "str" "int" = some false := (rfl)
@[simp] theorem kit_str_bool : kitB "str" "bool" = some false := (rfl)
@[simp] theorem kit_str_tuple : kitB "str" "tuple" = some false := (rfl)
@[simp] theorem kit_str_list : kitB "str" "list" = some false := (rfl)
@[simp] theorem kit_str_dict : kitB "str" "dict" = some false := (rfl)
@[simp] theorem kit_tuple_str : kitB "tuple" "str" = some false := (rfl)
@[simp] theorem kit_tuple_int : kitB "tuple" "int" = some false := (rfl)
@[simp] theorem kit_tuple_bool : kitB "tuple" "bool" = some false := (rfl)
@[simp] theorem kit_tuple_tuple : kitB "tuple" "tuple" = some true := (rfl)
@[simp] theorem kit_tuple_list : kitB "tuple" "list" = some false := (rfl)
@[simp] theorem kit_tuple_dict : kitB "tuple" "dict" = some false := (rfl)
@[simp] theorem kit_list_str : kitB "list" "str" = some false := (rfl)
@[simp] theorem kit_list_int : kitB "list" "int" = some false := (rfl)
@[simp] theorem kit_list_bool : kitB "list" "bool" = some false := (rfl)
@[simp] theorem kit_list_tuple : kitB "list" "tuple" = some false := (rfl)
@[simp] theorem kit_list_list : kitB "list" "list" = some true := (rfl)
@[simp] theorem kit_list_dict : kitB "list" "dict" = some false := (rfl)
@[simp] theorem kit_dict_str : kitB "dict" "str" = some false := (rfl)
@[simp] theorem kit_dict_int : kitB "dict" "int" = some false := (rfl)
@[simp] theorem kit_dict_bool : kitB "dict" "bool" = some false := (rfl)
@[simp] theorem kit_dict_tuple : kitB "dict" "tuple" = some false := (rfl)
@[simp] theorem kit_dict_list : kitB "dict" "list" = some false := (rfl)
@[simp] theorem kit_dict_dict : kitB "dict" "dict" = some true := (rfl)

theorem len_of_seq' {o : Ob} {l : List D} (h : o.seq = some l) : o.len = some l.length := by cases o <;> simp at h ⊢ <;> rw [h]
theorem ty_of_seq {o : Ob} {l : List D} (h : o.seq = some l) : o.ty = some "list" := by cases o <;> simp at h ⊢
theorem lt_of_seq {o : Ob} {l : List D} {n : Nat} (h : o.seq = some l) (q : o.lt n = true) : D.ltAll n l = true := by cases o <;> simp at h <;> subst h <;> exact q
/-- the types that a thing of the store may have -/
theorem ty_cases {st : Store} {d : D} {T : String} (h : tyD st d = some T) : T = "NoneType" ∨ T = "bool" ∨ T = "int" ∨ T = "str" ∨ T = "tuple" ∨ T = "list" ∨ T = "dict" := by
  cases d with
  | ref n =>
    simp only [ty_at] at h
    cases z : st[n]? with
    | none => rw [z] at h; cases h
    | some o => rw [z] at h; cases o <;> simp at h <;> subst h <;> simp
  | _ => simp at h; subst h; simp
theorem ty_is_int {st : Store} {d : D} (h : tyD st d = some "int") : ∃ i, d = .int i := by
  cases d with
  | ref n =>
    simp only [ty_at] at h
    cases z : st[n]? with
    | none => rw [z] at h; cases h
    | some o => rw [z] at h; cases o <;> simp at h
  | int i => exact ⟨i, rfl⟩
  | _ => simp at h
theorem ty_is_str {st : Store} {d : D} (h : tyD st d = some "str") : ∃ i, d = .str i := by
  cases d with
  | ref n =>
    simp only [ty_at] at h
    cases z : st[n]? with
    | none => rw [z] at h; cases h
    | some o => rw [z] at h; cases o <;> simp at h
  | str i => exact ⟨i, rfl⟩
  | _ => simp at h
theorem ty_is_tup {st : Store} {d : D} (h : tyD st d = some "tuple") : ∃ i, d = .tup i := by
  cases d with
  | ref n =>
    simp only [ty_at] at h
    cases z : st[n]? with
    | none => rw [z] at h; cases h
    | some o => rw [z] at h; cases o <;> simp at h
  | tup i => exact ⟨i, rfl⟩
  | _ => simp at h
/-- a place gone through of a range -/
theorem rng_mid {n x : Nat} {pre post : List Nat} (h : List.range n = pre ++ x :: post) : x = pre.length ∧ pre.length < n := by
  have h1 := congrArg (fun l => l[pre.length]?) h
  have hl := congrArg List.length h
  simp at h1 hl
  rw [List.getElem?_range (by omega)] at h1
  simp at h1; omega
/-! ### try -/
def tryAsK (known : List CN) (c0 : CN) (i : Nat) (s : CN → SM) : SR → SR
  | .exn c env st => if known.contains c = true ∧ i < env.length then (if subC c c0 = true then (match s c (env.set i none) st with
      | .nx env st => .nx (env.set i none) st
      | .bk env st => .bk (env.set i none) st
      | .ct env st => .ct (env.set i none) st
      | .rt d st => .rt d st
      | _ => .bad) else .exn c env st) else .bad
  | r => r
def tryK (known : List CN) (hs : List (CN × SM)) : SR → SR
  | .exn c env st => if known.contains c = true then handle hs c env st else .bad
  | r => r
def unsetK (i : Nat) : SR → SR
  | .nx env st => .nx (env.set i none) st
  | .bk env st => .bk (env.set i none) st
  | .ct env st => .ct (env.set i none) st
  | .rt d st => .rt d st
  | _ => .bad
section
variable {known : List CN} {c c0 : CN} {i : Nat} {b : SM} {s : CN → SM} {env : Env} {st : Store} {hs : List (CN × SM)} {d : D} {p : Prop} [Decidable p] {ss : SM}
@[simp] theorem run_tryAs : sTryAs known c0 i b s env st = tryAsK known c0 i s (b env st) := by
  unfold sTryAs; generalize b env st = r; cases r <;> rfl
@[simp] theorem run_try : sTry known b hs env st = tryK known hs (b env st) := by
  unfold sTry; generalize b env st = r; cases r <;> rfl
@[simp] theorem tryAsK_nx : tryAsK known c0 i s (.nx env st) = .nx env st := (rfl)
@[simp] theorem tryAsK_rt : tryAsK known c0 i s (.rt d st) = .rt d st := (rfl)
@[simp] theorem tryAsK_bk : tryAsK known c0 i s (.bk env st) = .bk env st := (rfl)
@[simp] theorem tryAsK_ct : tryAsK known c0 i s (.ct env st) = .ct env st := (rfl)
@[simp] theorem tryAsK_bad : tryAsK known c0 i s .bad = .bad := (rfl)
@[simp] theorem tryAsK_exn : tryAsK known c0 i s (.exn c env st) = if known.contains c = true ∧ i < env.length then (if subC c c0 = true then unsetK i (s c (env.set i none) st) else .exn c env st) else .bad := by
  unfold tryAsK unsetK; rfl
@[simp] theorem tryAsK_ite (a b : SR) : tryAsK known c0 i s (if p then a else b) = if p then tryAsK known c0 i s a else tryAsK known c0 i s b := by split <;> rfl
@[simp] theorem unsetK_nx : unsetK i (.nx env st) = .nx (env.set i none) st := (rfl)
@[simp] theorem unsetK_rt : unsetK i (.rt d st) = .rt d st := (rfl)
@[simp] theorem unsetK_bk : unsetK i (.bk env st) = .bk (env.set i none) st := (rfl)
@[simp] theorem unsetK_ct : unsetK i (.ct env st) = .ct (env.set i none) st := (rfl)
@[simp] theorem tryK_nx : tryK known hs (.nx env st) = .nx env st := (rfl)
@[simp] theorem tryK_rt : tryK known hs (.rt d st) = .rt d st := (rfl)
@[simp] theorem tryK_bk : tryK known hs (.bk env st) = .bk env st := (rfl)
@[simp] theorem tryK_ct : tryK known hs (.ct env st) = .ct env st := (rfl)
@[simp] theorem tryK_bad : tryK known hs .bad = .bad := (rfl)
@[simp] theorem tryK_exn : tryK known hs (.exn c env st) = if known.contains c = true then handle hs c env st else .bad := (rfl)
@[simp] theorem tryK_ite (a b : SR) : tryK known hs (if p then a else b) = if p then tryK known hs a else tryK known hs b := by split <;> rfl
@[simp] theorem handle_nil : handle [] c env st = .exn c env st := (rfl)
@[simp] theorem handle_cons : handle ((c0, ss) :: hs) c env st = if subC c c0 = true then noExn (ss env st) else handle hs c env st := by
  rw [handle]; split <;> rfl
@[simp] theorem noExn_nx : noExn (.nx env st) = .nx env st := (rfl)
@[simp] theorem noExn_rt : noExn (.rt d st) = .rt d st := (rfl)
@[simp] theorem noExn_bk : noExn (.bk env st) = .bk env st := (rfl)
@[simp] theorem noExn_ct : noExn (.ct env st) = .ct env st := (rfl)
@[simp] theorem noExn_ite (a b : SR) : noExn (if p then a else b) = if p then noExn a else noExn b := by split <;> rfl
end
end DL
/-! Pa: signs and the cells of a script. -/
namespace DL
open PySem L2
/-! specs -/
theorem intsD_ints (l : List Int) : intsD (l.map .int) = some l := by
  induction l with
  | nil => rfl
  | cons a l ih => simp [intsD, ih]
theorem intsD_eq : ∀ {l : List D} {is : List Int}, intsD l = some is → l = is.map .int
  | [], is, h => by simp [intsD] at h; subst h; rfl
  | .int i :: l, is, h => by
    simp only [intsD] at h
    cases q : intsD l with
    | none => rw [q] at h; cases h
    | some js => rw [q] at h; cases h; rw [intsD_eq q]; rfl
  | .non :: _, is, h => by simp [intsD] at h
  | .bl _ :: _, is, h => by simp [intsD] at h
  | .str _ :: _, is, h => by simp [intsD] at h
  | .tup _ :: _, is, h => by simp [intsD] at h
  | .ref _ :: _, is, h => by simp [intsD] at h
def signB (c : Nat) : Bool := decide (32 ≤ c ∧ c ≤ 126 ∧ c ≠ 37)
def P.is_sign : FM := fun ds st => match ds with
  | [.str [c]] => .ok (.bl (signB c)) st
  | _ => .bad
def P.is_signs : FM := fun ds st => match ds with
  | [.str s] => if s.length ≤ sizeLine then .ok (.bl (s.all signB)) st else .bad
  | [d] => match tyD st d with
    | some _ => .ok (.bl false) st
    | none => .bad
  | _ => .bad
def mixI : Int → List Int → List Int
  | _, [] => []
  | m, c :: l => (m * 6364136223846793005 + c + 1442695040888963407) % 1000000000000000003 :: mixI ((m * 6364136223846793005 + c + 1442695040888963407) % 1000000000000000003) l
def P.mixed : FM := fun ds st => match ds with
  | [.ref n] => match (st[n]?.bind Ob.seq).bind intsD with
    | some l => if l.length ≤ 1000 then .ok (.ref st.length) (st ++ [.lst ((mixI 1 l).map .int)]) else .bad
    | none => .bad
  | _ => .bad
def P.cellAtM : FM := fun ds st => match ds with
  | [.ref n, .int k] => match st[n]?.bind Ob.seq with
    | some l => if 0 ≤ k ∧ k < 1000 ∧ l.length ≤ 1000 then .ok (l[k.toNat]?.getD (.int ((k + 1) * 7919))) st else .bad
    | none => .bad
  | _ => .bad
def alph : List Nat := [32, 33, 34, 35, 36, 38, 39, 40, 41, 42, 43, 44, 45, 46, 47, 48, 49, 50, 51, 52, 53, 54, 55, 56, 57, 58, 59, 60, 61, 62, 63, 64, 65, 66, 67, 68, 69, 70, 71, 72, 73, 74, 75, 76, 77, 78, 79, 80, 81, 82, 83, 84, 85, 86, 87, 88, 89, 90, 91, 92, 93, 94, 95, 96, 97, 98, 99, 100, 101, 102, 103, 104, 105, 106, 107, 108, 109, 110, 111, 112, 113, 114, 115, 116, 117, 118, 119, 120, 121, 122, 123, 124, 125, 126]
def P.allSigns : FM := fun ds st => match ds with
  | [] => .ok (.str alph) st
  | _ => .bad
def alphAt (i : Int) : Nat := alph.getD (i % 94).toNat 32
def signsL (c : Int) (k : Nat) : List Nat := (List.range k).map fun (i : Nat) => alphAt (c / 95 + (i : Int) * (1 + c % 95))
def P.signsBy : FM := fun ds st => match ds with
  | [.int c, .int k] => if 0 ≤ k ∧ k ≤ 1000 then .ok (.str (signsL c k.toNat)) st else .bad
  | _ => .bad
def chk (s : List Nat) : Int := s.foldl (fun (f : Int) (c : Nat) => (31 * f + (c : Int) - 32) % 9973) 7
def P.check_of : FM := fun ds st => match ds with
  | [.str s] => if s.length ≤ sizeLine then .ok (.int (chk s)) st else .bad
  | _ => .bad
def P.check : FM := fun ds st => match ds with
  | [.str s] => if s.length ≤ sizeLine then .ok (.int (chk s)) st else .bad
  | _ => .bad
def P.whole : FM := fun ds st => match ds with
  | [.int _] => .ok (.bl true) st
  | [d] => match tyD st d with
    | some _ => .ok (.bl false) st
    | none => .bad
  | _ => .bad
/-! mirrors -/
def P.b_is_sign : SM := (sRet (eAnd (eChain oLe oLe (eC (.int 32)) (e1 oOrd (eCons (eVar 0) eNil)) (eC (.int 126))) (e2 oNe (e1 oOrd (eCons (eVar 0) eNil)) (eC (.int 37)))))
def P.m_is_sign : FM := fnM 1 1 P.b_is_sign

def P.b_is_signs : SM := (sSeq (sIf (tNotD (tB (eIsi "str" (eVar 0))))
    (sRet (eC (.bl false)))
    sSkip)
    (sSeq (sFor (iSeq (eVar 0)) (tName 1)
    (sIf (tNotD (tTru (eCall P.is_sign (eCons (eVar 1) eNil))))
    (sRet (eC (.bl false)))
    sSkip))
    (sRet (eC (.bl true)))))
def P.m_is_signs : FM := fnM 1 2 P.b_is_signs

def P.b_mixed : SM := (sSeq (sSet 1 (eLst eNil))
    (sSeq (sSet 2 (eC (.int 1)))
    (sSeq (sFor (iSeq (eVar 0)) (tName 3)
    (sSeq (sSet 2 (e2 oMod (e2 oAdd (e2 oAdd (e2 oMul (eVar 2) (eC (.int 6364136223846793005))) (eVar 3)) (eC (.int 1442695040888963407))) (eC (.int 1000000000000000003))))
    (sDo (eBM "list" mAppend (eVar 1) (eCons (eVar 2) eNil)))))
    (sRet (eVar 1)))))
def P.m_mixed : FM := fnM 1 4 P.b_mixed

def P.b_cellAtM : SM := (sSeq (sIf (tB (e2 oLt (eVar 1) (e1 oLen (eCons (eVar 0) eNil))))
    (sRet (e2 oIx (eVar 0) (eVar 1)))
    sSkip)
    (sRet (e2 oMul (e2 oAdd (eVar 1) (eC (.int 1))) (eC (.int 7919)))))
def P.m_cellAtM : FM := fnM 2 2 P.b_cellAtM

def P.b_allSigns : SM := (sSeq (sSet 0 (eC (.str [32, 33, 34, 35, 36, 38, 39, 40, 41, 42, 43, 44, 45, 46, 47, 48, 49, 50, 51, 52, 53, 54, 55, 56, 57, 58, 59, 60, 61, 62, 63, 64, 65, 66, 67, 68, 69, 70, 71, 72, 73, 74, 75, 76, 77, 78, 79, 80, 81, 82, 83, 84, 85, 86, 87, 88, 89, 90, 91, 92, 93, 94, 95, 96])))
    (sRet (e2 oAdd (eVar 0) (eC (.str [97, 98, 99, 100, 101, 102, 103, 104, 105, 106, 107, 108, 109, 110, 111, 112, 113, 114, 115, 116, 117, 118, 119, 120, 121, 122, 123, 124, 125, 126])))))
def P.m_allSigns : FM := fnM 0 1 P.b_allSigns

def P.b_signsBy : SM := (sSeq (sSet 2 (eCall P.allSigns eNil))
    (sSeq (sSet 3 (eC (.str [])))
    (sSeq (sFor (iRng1D (eVar 1)) (tName 4)
    (sSet 3 (e2 oAdd (eVar 3) (e2 oIx (eVar 2) (e2 oMod (e2 oAdd (e2 oDiv (eVar 0) (eC (.int 95))) (e2 oMul (eVar 4) (e2 oAdd (eC (.int 1)) (e2 oMod (eVar 0) (eC (.int 95)))))) (eC (.int 94)))))))
    (sRet (eVar 3)))))
def P.m_signsBy : FM := fnM 2 5 P.b_signsBy

def P.b_check_of : SM := (sSeq (sSet 1 (eC (.int 7)))
    (sSeq (sFor (iSeq (eVar 0)) (tName 2)
    (sSet 1 (e2 oMod (e2 oSub (e2 oAdd (e2 oMul (eVar 1) (eC (.int 31))) (e1 oOrd (eCons (eVar 2) eNil))) (eC (.int 32))) (eC (.int 9973)))))
    (sRet (eVar 1))))
def P.m_check_of : FM := fnM 1 3 P.b_check_of

def P.b_whole : SM := (sRet (eAnd (eIsi "int" (eVar 0)) (eNot (eIsi "bool" (eVar 0)))))
def P.m_whole : FM := fnM 1 1 P.b_whole

def P.b_check : SM := (sSeq (sSet 1 (eC (.int 7)))
    (sSeq (sFor (iSeq (eVar 0)) (tName 2)
    (sSet 1 (e2 oMod (e2 oSub (e2 oAdd (e2 oMul (eC (.int 31)) (eVar 1)) (e1 oOrd (eCons (eVar 2) eNil))) (eC (.int 32))) (eC (.int 9973)))))
    (sRet (eVar 1))))
def P.m_check : FM := fnM 1 3 P.b_check
/-! proofs -/
theorem P.tell_is_sign : ∀ (st : Store) (ds : List D), st.Ok → D.ltAll st.length ds = true → Tell st (P.is_sign ds st) (P.m_is_sign ds st) := by
  intro st ds ok lt
  unfold P.is_sign
  split
  · rename_i c
    have : P.m_is_sign [.str [c]] st = .ok (.bl (signB c)) st := by
      rw [P.m_is_sign]; simp [P.b_is_sign, signB]
      by_cases h1 : (32 : Int) ≤ c <;> by_cases h2 : (c : Int) ≤ 126 <;> simp [h1, h2] <;> first | omega | skip
      all_goals (congr 2; rw [Bool.eq_iff_iff]; simp; omega)
    rw [this]; exact .eq (Nat.le_refl _) ok rfl
  · exact .bad
theorem P.tell_is_signs : ∀ (st : Store) (ds : List D), st.Ok → D.ltAll st.length ds = true → Tell st (P.is_signs ds st) (P.m_is_signs ds st) := by
  intro st ds ok lt
  unfold P.is_signs
  split
  · rename_i s
    split
    · rename_i hl
      have : P.m_is_signs [.str s] st = .ok (.bl (s.all signB)) st := by
        rw [P.m_is_signs]; simp [P.b_is_signs, kitB]
        generalize hr : forK _ _ _ _ _ = r
        rcases forK_out hr s (fun c => D.str [c]) (fun pre e s' => s' = st ∧ (∃ x, e = [some (.str s), x]) ∧ pre.all signB = true) (fun r => r = .rt (.bl false) st ∧ s.all signB = false) (fun _ _ _ _ => rfl) (line_fuel hl) ⟨rfl, ⟨_, rfl⟩, rfl⟩
          (fun pre c post e s' hL ⟨h1, ⟨x, h2⟩, h3⟩ => by
            subst h1; subst h2
            cases h : signB c <;> simp [P.is_sign, truD, h, h3, hL]) with ⟨e, s', rfl, rfl, _, h⟩ | ⟨rfl, h⟩
        · simp [h]
        · simp [h]
      rw [this]; exact .eq (Nat.le_refl _) ok rfl
    · exact .bad
  · rename_i d nd
    cases h : tyD st d with
    | none => exact .bad
    | some T =>
      have : P.m_is_signs [d] st = .ok (.bl false) st := by
        have : kitB T "str" = some false := by
          rcases ty_cases h with q | q | q | q | q | q | q <;> subst q
          case inr.inr.inr.inl => obtain ⟨s, rfl⟩ := ty_is_str h; exact absurd rfl (nd s)
          all_goals rfl
        rw [P.m_is_signs]; simp [P.b_is_signs, h, this, -ty_at]
      rw [this]; exact .eq (Nat.le_refl _) ok rfl
  · exact .bad
theorem mixI_length : ∀ (m : Int) (l : List Int), (mixI m l).length = l.length
  | _, [] => rfl
  | m, c :: l => by simp [mixI, mixI_length _ l]
theorem mixI_snoc : ∀ (l : List Int) (m c : Int), mixI m (l ++ [c]) = mixI m l ++ [((mixI m l).getLastD m * 6364136223846793005 + c + 1442695040888963407) % 1000000000000000003]
  | [], m, c => rfl
  | a :: l, m, c => by
    simp only [List.cons_append, mixI, mixI_snoc l]
    rw [List.getLastD_cons]
/-- a script's cells, mixed: the loop's state is what was found -/
theorem P.tell_mixed : ∀ (st : Store) (ds : List D), st.Ok → D.ltAll st.length ds = true → Tell st (P.mixed ds st) (P.m_mixed ds st) := by
  intro st ds ok lt
  unfold P.mixed
  split
  · rename_i n
    split
    · rename_i l hl
      split
      · rename_i hs
        obtain ⟨L, h1, h2⟩ := Option.bind_eq_some_iff.mp hl
        have h3 := intsD_eq h2
        subst h3
        have : P.m_mixed [.ref n] st = .ok (.ref st.length) (st ++ [.lst ((mixI 1 l).map .int)]) := by
          have hn : n < st.length := by
            cases z : st[n]? with
            | none => rw [z] at h1; cases h1
            | some o => exact lt_of_get z
          rw [P.m_mixed]; simp [P.b_mixed, getL hn, h1]
          generalize hr : forK _ _ _ _ _ = r
          obtain ⟨e, s', rfl, ⟨x, rfl⟩, rfl⟩ := forK_inv hr l D.int (fun pre e s => (∃ x, e = [some (.ref n), some (.ref st.length), some (.int ((mixI 1 pre).getLastD 1)), x]) ∧ s = st ++ [.lst ((mixI 1 pre).map .int)])
            (fun pre e s ⟨_, b⟩ => by simp [b, getL hn, h1]) (by simp [fuel]; omega) ⟨⟨none, rfl⟩, rfl⟩ (fun pre c post e s hL ⟨⟨x, a⟩, b⟩ => by
              subst a; subst b
              have hm : (mixI 1 pre).length < 16777216 := by rw [mixI_length]; have := congrArg List.length hL; simp at this; omega
              simp [line_val, hm, mixI_snoc]
              )
          simp
        rw [this]; exact .eq (by simp) (Ok.app1 ok (ltAll_ints _)) (by simp [D.lt])
      · exact .bad
    · exact .bad
  · exact .bad
theorem P.tell_cellAtM : ∀ (st : Store) (ds : List D), st.Ok → D.ltAll st.length ds = true → Tell st (P.cellAtM ds st) (P.m_cellAtM ds st) := by
  intro st ds ok lt
  unfold P.cellAtM
  split
  · rename_i n k
    split
    · rename_i l hl
      split
      · rename_i hk
        obtain ⟨h0, h1, h2⟩ := hk
        obtain ⟨o, ho, hl⟩ := Option.bind_eq_some_iff.mp hl
        have : P.m_cellAtM [.ref n, .int k] st = .ok (l[k.toNat]?.getD (.int ((k + 1) * 7919))) st := by
          rw [P.m_cellAtM]; simp [P.b_cellAtM, ho, hl, len_of_seq' hl]
          by_cases q : k < l.length
          · have : k.toNat < l.length := by omega
            simp [q, atI_pos h0, List.getElem?_eq_getElem this]
          · simp [q, List.getElem?_eq_none (show l.length ≤ k.toNat by omega)]
        rw [this]
        refine .eq (Nat.le_refl _) ok ?_
        cases q : l[k.toNat]? with
        | none => rfl
        | some d => exact ltAll_iff.mp (lt_of_seq hl (ok n o ho)) d (List.mem_of_getElem? q)
      · exact .bad
    · exact .bad
  · exact .bad
theorem P.tell_allSigns : ∀ (st : Store) (ds : List D), st.Ok → D.ltAll st.length ds = true → Tell st (P.allSigns ds st) (P.m_allSigns ds st) := by
  intro st ds ok lt
  unfold P.allSigns
  split
  · have : P.m_allSigns [] st = .ok (.str alph) st := by
      rw [P.m_allSigns]; simp [P.b_allSigns, line_val, alph]
    rw [this]; exact .eq (Nat.le_refl _) ok rfl
  · exact .bad
theorem alph_len : alph.length = 94 := rfl
theorem alph_line : alph.length ≤ sizeLine := by rw [line_val, alph_len]; omega
theorem alph_at {i : Int} : atI alph (i % 94) = some (alphAt i) := by
  have h1 : 0 ≤ i % 94 := by omega
  have h2 : (i % 94).toNat < alph.length := by rw [alph_len]; omega
  rw [atI_pos h1, List.getElem?_eq_getElem h2]
  unfold alphAt
  rw [List.getD_eq_getElem?_getD, List.getElem?_eq_getElem h2]; rfl
theorem signsL_length {c : Int} {k : Nat} : (signsL c k).length = k := by simp [signsL]
theorem signsL_succ {c : Int} {k : Nat} : signsL c (k + 1) = signsL c k ++ [alphAt (c / 95 + (k : Int) * (1 + c % 95))] := by
  simp [signsL, List.range_succ]
theorem P.tell_signsBy : ∀ (st : Store) (ds : List D), st.Ok → D.ltAll st.length ds = true → Tell st (P.signsBy ds st) (P.m_signsBy ds st) := by
  intro st ds ok lt
  unfold P.signsBy
  split
  · rename_i c k
    split
    · rename_i hk
      obtain ⟨h0, h1⟩ := hk
      have : P.m_signsBy [.int c, .int k] st = .ok (.str (signsL c k.toNat)) st := by
        rw [P.m_signsBy]; simp [P.b_signsBy, P.allSigns]
        rw [if_pos (by omega)]
        simp [rng_map]
        generalize hr : forK _ _ _ _ _ = r
        obtain ⟨e, s', rfl, ⟨x, rfl⟩, rfl⟩ := forK_inv hr (List.range k.toNat) (fun (i : Nat) => .int (i : Int)) (fun pre e s => (∃ x, e = [some (.int c), some (.int k), some (.str alph), some (.str (signsL c pre.length)), x]) ∧ s = st)
          (fun pre e s ⟨_, b⟩ => rfl) (by simp [fuel]; omega) ⟨⟨none, rfl⟩, rfl⟩ (fun pre x post e s hL ⟨⟨y, a⟩, b⟩ => by
            subst a; subst b
            have hx := rng_mid hL
            have hx1 := hx.1
            have hx := hx.2
            subst hx1
            have h3 : signsL c pre.length ++ [alphAt (c / 95 + (pre.length : Int) * (1 + c % 95))] = signsL c (pre.length + 1) := signsL_succ.symm
            have h4 : (signsL c pre.length).length + 1 ≤ sizeLine := by rw [signsL_length, line_val]; omega
            have h5 : MulOk (pre.length : Int) (1 + c % 95) := mulOk_l (by omega) (by omega)
            have h6 : ∀ i : Int, atI alph (i % 94) = some (alphAt i) := fun i => alph_at
            have h7 := alph_line
            revert h6 h7
            generalize alph = A
            intro h6 h7
            simp [h7, h6, h3, h4, h5])
        simp
      rw [this]; exact .eq (Nat.le_refl _) ok rfl
    · exact .bad
  · exact .bad
theorem chk_snoc (s : List Nat) (c : Nat) : chk (s ++ [c]) = (31 * chk s + (c : Int) - 32) % 9973 := by simp [chk]
theorem P.tell_check : ∀ (st : Store) (ds : List D), st.Ok → D.ltAll st.length ds = true → Tell st (P.check ds st) (P.m_check ds st) := by
  intro st ds ok lt
  unfold P.check
  split
  · rename_i s
    split
    · rename_i hl
      have : P.m_check [.str s] st = .ok (.int (chk s)) st := by
        rw [P.m_check]; simp [P.b_check]
        generalize hr : forK _ _ _ _ _ = r
        obtain ⟨e, s', rfl, ⟨x, rfl⟩, rfl⟩ := forK_inv hr s (fun c => D.str [c]) (fun pre e s' => (∃ x, e = [some (.str s), some (.int (chk pre)), x]) ∧ s' = st)
          (fun pre e s ⟨_, b⟩ => rfl) (line_fuel hl) ⟨⟨none, rfl⟩, rfl⟩ (fun pre x post e s hL ⟨⟨y, a⟩, b⟩ => by
            subst a; subst b
            simp [chk_snoc])
        simp
      rw [this]; exact .eq (Nat.le_refl _) ok rfl
    · exact .bad
  · exact .bad
theorem P.tell_check_of : ∀ (st : Store) (ds : List D), st.Ok → D.ltAll st.length ds = true → Tell st (P.check_of ds st) (P.m_check_of ds st) := by
  intro st ds ok lt
  unfold P.check_of
  split
  · rename_i s
    split
    · rename_i hl
      have : P.m_check_of [.str s] st = .ok (.int (chk s)) st := by
        rw [P.m_check_of]; simp [P.b_check_of]
        generalize hr : forK _ _ _ _ _ = r
        obtain ⟨e, s', rfl, ⟨x, rfl⟩, rfl⟩ := forK_inv hr s (fun c => D.str [c]) (fun pre e s' => (∃ x, e = [some (.str s), some (.int (chk pre)), x]) ∧ s' = st)
          (fun pre e s ⟨_, b⟩ => rfl) (line_fuel hl) ⟨⟨none, rfl⟩, rfl⟩ (fun pre x post e s hL ⟨⟨y, a⟩, b⟩ => by
            subst a; subst b
            simp [chk_snoc, Int.mul_comm])
        simp
      rw [this]; exact .eq (Nat.le_refl _) ok rfl
    · exact .bad
  · exact .bad
theorem P.tell_whole : ∀ (st : Store) (ds : List D), st.Ok → D.ltAll st.length ds = true → Tell st (P.whole ds st) (P.m_whole ds st) := by
  intro st ds ok lt
  unfold P.whole
  split
  · rename_i i
    have : P.m_whole [.int i] st = .ok (.bl true) st := by rw [P.m_whole]; simp [P.b_whole]
    rw [this]; exact .eq (Nat.le_refl _) ok rfl
  · rename_i d nd
    cases h : tyD st d with
    | none => exact .bad
    | some T =>
      have : P.m_whole [d] st = .ok (.bl false) st := by
        rw [P.m_whole]
        rcases ty_cases h with q | q | q | q | q | q | q <;> subst q
        case inr.inr.inl => obtain ⟨i, rfl⟩ := ty_is_int h; exact absurd rfl (nd i)
        all_goals simp [P.b_whole, h, -ty_at]
      rw [this]; exact .eq (Nat.le_refl _) ok rfl
  · exact .bad
def cellM (C : List Int) (k : Nat) : Int := C[k]?.getD ((k + 1) * 7919)
theorem P.cellAtM_eq {st : Store} {n : Nat} {o : Ob} {C : List Int} {i : Int} (h : st[n]? = some o) (ho : o.seq = some (C.map .int)) (hl : C.length ≤ 1000) (h0 : 0 ≤ i) (h1 : i < 1000) : P.cellAtM [.ref n, .int i] st = .ok (.int (cellM C i.toNat)) st := by
  simp only [P.cellAtM, h, Option.bind_some, ho, List.length_map, hl, h0, h1, and_self, if_true]
  congr 1
  rw [List.getElem?_map]
  unfold cellM
  cases C[i.toNat]? with
  | none => simp; omega
  | some x => rfl
theorem P.mixed_eq {st : Store} {n : Nat} {o : Ob} {ns : List Int} (h : st[n]? = some o) (ho : o.seq = some (ns.map .int)) (hl : ns.length ≤ 1000) : P.mixed [.ref n] st = .ok (.ref st.length) (st ++ [.lst ((mixI 1 ns).map .int)]) := by
  simp [P.mixed, h, ho, intsD_ints, hl]
theorem P.signsBy_eq {st : Store} {c k : Int} (h0 : 0 ≤ k) (h1 : k ≤ 1000) : P.signsBy [.int c, .int k] st = .ok (.str (signsL c k.toNat)) st := by simp [P.signsBy, h0, h1]
theorem alphAt_ok (i : Int) : signB (alphAt i) = true := by
  have h1 : (i % 94).toNat < alph.length := by rw [alph_len]; omega
  have : ∀ c ∈ alph, signB c = true := by decide
  unfold alphAt
  rw [List.getD_eq_getElem?_getD, List.getElem?_eq_getElem h1]
  exact this _ (List.getElem_mem h1)
theorem signsL_ok (c : Int) (k : Nat) : (signsL c k).all signB = true := by
  rw [List.all_eq_true]
  intro x hx
  obtain ⟨i, _, rfl⟩ := List.mem_map.mp hx
  exact alphAt_ok _
theorem P.is_signs_str {st : Store} {s : List Nat} (h : s.length ≤ sizeLine) : P.is_signs [.str s] st = .ok (.bl (s.all signB)) st := by simp [P.is_signs, h]
end DL
/-! Pb: cells of a script, streams of numbers, rows of spans. -/
namespace DL
open PySem L2
/-! ### how a function is told -/
mutual
theorem D.lt_of_nr {n : Nat} : ∀ d : D, d.nr = true → d.lt n = true
  | .ref j, q => by simp [D.nr] at q
  | .tup l, q => by simp only [D.nr] at q; simp only [D.lt]; exact D.ltAll_of_nrs l q
  | .non, _ => rfl
  | .bl _, _ => rfl
  | .int _, _ => rfl
  | .str _, _ => rfl
theorem D.ltAll_of_nrs {n : Nat} : ∀ l : List D, D.nrs l = true → D.ltAll n l = true
  | [], _ => rfl
  | d :: l, q => by
    simp only [D.nrs, Bool.and_eq_true] at q
    simp only [D.ltAll, Bool.and_eq_true]
    exact ⟨D.lt_of_nr d q.1, D.ltAll_of_nrs l q.2⟩
end
theorem tell_pure {st : Store} {d : D} {o : Out D} (ok : st.Ok) (hd : d.nr = true) (h : ∃ g, o = .ok d (st ++ g)) : Tell st (.ok d st) o := by
  obtain ⟨g, rfl⟩ := h
  exact .same ok (D.lt_of_nr d hd)
theorem tell_eq {st : Store} {d : D} {o : Out D} (ok : st.Ok) (hd : d.nr = true) (h : o = .ok d st) : Tell st (.ok d st) o := by
  subst h; exact .eq (Nat.le_refl _) ok (D.lt_of_nr d hd)
theorem tell_exn {st : Store} {c : CN} {o : Out D} (ok : st.Ok) (h : ∃ g, o = .exn c (st ++ g)) : Tell st (.exn c st) o := by
  obtain ⟨g, rfl⟩ := h
  exact .exn_same ok
theorem tell_list {st : Store} {l : List D} {o : Out D} (ok : st.Ok) (hl : D.ltAll st.length l = true) (h : ∃ g k, o = .ok (.ref (st.length + k)) (st ++ g) ∧ g[k]? = some (.lst l)) : Tell st (.ok (.ref st.length) (st ++ [.lst l])) o := by
  obtain ⟨g, k, rfl, hg⟩ := h
  exact .lift ok hg hl
theorem nrs_ints (l : List Int) : D.nrs (l.map .int) = true := by
  induction l with
  | nil => rfl
  | cons a l ih => simp [D.nrs, D.nr, ih]
theorem hL1000 {n : Nat} (h : n ≤ 1000) : n ≤ sizeLine := by rw [line_val]; omega
theorem hL5 {n : Nat} (h : n ≤ 100000) : n ≤ sizeLine := by rw [line_val]; omega
theorem hL5' {n : Nat} (h : n < 100000) : n < sizeLine := by rw [line_val]; omega

def cell0 (C : List Int) (k : Nat) : Int := C[k]?.getD 0
def P.cellAt0 : FM := fun ds st => match ds with
  | [.ref n, .int k] => match (st[n]?.bind Ob.seq).bind intsD with
    | some l => if 0 ≤ k ∧ l.length ≤ 1000 then .ok (.int (cell0 l k.toNat)) st else .bad
    | none => .bad
  | _ => .bad
def streamS (c : Int) : Nat → List Int × Int
  | 0 => ([], c % 2147483647 + 48271)
  | n + 1 => ((streamS c n).1 ++ [((streamS c n).2 * (streamS c n).2 + 48271 * (streamS c n).2 + (n : Int)) % 2147483647], ((streamS c n).2 * (streamS c n).2 + 48271 * (streamS c n).2 + (n : Int)) % 2147483647)
def streamL (c : Int) (m : Nat) : List Int := (streamS c (m + 1)).1.drop 1
theorem streamS_len (c : Int) : ∀ n, (streamS c n).1.length = n
  | 0 => rfl
  | n + 1 => by simp [streamS, streamS_len c n]
theorem streamS_bd (c : Int) : ∀ n, 0 ≤ (streamS c n).2 ∧ (streamS c n).2 < 2147531918
  | 0 => by simp only [streamS]; omega
  | n + 1 => by simp only [streamS]; omega
theorem streamS_all (c : Int) : ∀ n, ∀ x ∈ (streamS c n).1, 0 ≤ x ∧ x < 2147483647
  | 0 => by simp [streamS]
  | n + 1 => by
    intro x hx
    simp only [streamS, List.mem_append, List.mem_singleton] at hx
    rcases hx with hx | hx
    · exact streamS_all c n x hx
    · omega
theorem streamL_len (c : Int) (m : Nat) : (streamL c m).length = m := by simp [streamL, streamS_len]
theorem streamL_all (c : Int) (m : Nat) : ∀ x ∈ streamL c m, 0 ≤ x ∧ x < 2147483647 := fun x hx => streamS_all c _ x (List.mem_of_mem_drop hx)
def P.stream : FM := fun ds st => match ds with
  | [.int c, .int m] => if 0 ≤ m ∧ m ≤ 1000 then .ok (.ref st.length) (st ++ [.lst ((streamL c m.toNat).map .int)]) else .bad
  | _ => .bad
abbrev spD (s : Int × Int) : D := .tup [.int s.1, .int s.2]
abbrev rowL (R : List (Int × Int)) : D := .tup (R.map spD)
def spOf : D → Option (Int × Int)
  | .tup [.int a, .int b] => some (a, b)
  | _ => none
def rowOf : D → Option (List (Int × Int))
  | .tup l => l.mapM spOf
  | _ => none
theorem spOf_eq {d : D} {s : Int × Int} (h : spOf d = some s) : d = spD s := by
  unfold spOf at h
  split at h
  · cases h; rfl
  · cases h
theorem rowOf_eq {d : D} {R : List (Int × Int)} (h : rowOf d = some R) : d = rowL R := by
  unfold rowOf at h
  split at h
  · rename_i l
    congr 1
    induction l generalizing R with
    | nil => cases h; rfl
    | cons a l ih =>
      rw [List.mapM_cons] at h
      cases ha : spOf a with
      | none => rw [ha] at h; cases h
      | some s =>
        cases hl : l.mapM spOf with
        | none => rw [ha, hl] at h; cases h
        | some S => rw [ha, hl] at h; cases h; rw [spOf_eq ha, ih hl]; rfl
  · cases h
@[simp] theorem rowOf_row (R : List (Int × Int)) : rowOf (rowL R) = some R := by
  show (R.map spD).mapM spOf = some R
  induction R with
  | nil => rfl
  | cons a l ih => rw [List.map_cons, List.mapM_cons, ih]; rfl
theorem nrs_row (R : List (Int × Int)) : D.nrs (R.map spD) = true := by
  induction R with
  | nil => rfl
  | cons a l ih => simp [D.nrs, D.nr, ih]
def pickN (x j : Int) : Int := if j = 0 then 0 else if j = 1 then x % 3 else if j = 2 then x % 40 else x % 9000
def spBegin (ns : List Int) (place : Int) (k : Nat) : Int := place + 1 + pickN ((streamL (cell0 ns (1 + k % 12) + 11 * (k : Int)) 4).getD 0 0) ((streamL (cell0 ns (1 + k % 12) + 11 * (k : Int)) 4).getD 2 0 % 4)
def spEnd (ns : List Int) (place : Int) (k : Nat) : Int := spBegin ns place k + 1 + pickN ((streamL (cell0 ns (1 + k % 12) + 11 * (k : Int)) 4).getD 1 0) ((streamL (cell0 ns (1 + k % 12) + 11 * (k : Int)) 4).getD 3 0 % 4)
def spansS (ns : List Int) : Nat → List (Int × Int) × Int
  | 0 => ([], (streamL (cell0 ns 0) 2).getD 0 0 / 91 % 4 - 1)
  | n + 1 => ((spansS ns n).1 ++ [(spBegin ns (spansS ns n).2 n, spEnd ns (spansS ns n).2 n)], spEnd ns (spansS ns n).2 n)
def manyN (ns : List Int) : Int := if (streamL (cell0 ns 0) 2).getD 1 0 % 12 = 0 then 60 else if (streamL (cell0 ns 0) 2).getD 1 0 % 3 = 0 then (streamL (cell0 ns 0) 2).getD 0 0 % 13 else (streamL (cell0 ns 0) 2).getD 0 0 % 7
def spansR (ns : List Int) : List (Int × Int) := (spansS ns (manyN ns).toNat).1
def P.spans : FM := fun ds st => match ds with
  | [.ref n] => match (st[n]?.bind Ob.seq).bind intsD with
    | some l => if l.length ≤ 1000 then .ok (rowL (spansR l)) st else .bad
    | none => .bad
  | _ => .bad
def isIn (p : Int) (s : Int × Int) : Bool := decide (s.1 ≤ p) && decide (p < s.2)
def inR (R : List (Int × Int)) (p : Int) : Bool := decide ((R.filter (isIn p)).length = 1)
def P.inRow : FM := fun ds st => match ds with
  | [d, .int p] => match rowOf d with
    | some R => if R.length ≤ 100000 then .ok (.bl (inR R p)) st else .bad
    | none => .bad
  | _ => .bad
def P.covers : FM := fun ds st => match ds with
  | [d, .int p] => match rowOf d with
    | some R => if R.length ≤ 100000 then .ok (.bl (R.any (isIn p))) st else .bad
    | none => .bad
  | _ => .bad
def sizeR (R : List (Int × Int)) : Int := (R.map fun s => s.2 - s.1).sum
def P.size_of : FM := fun ds st => match ds with
  | [d] => match rowOf d with
    | some R => if R.length ≤ 100000 then .ok (.int (sizeR R)) st else .bad
    | none => .bad
  | _ => .bad
/-! mirrors -/
def P.b_covers : SM := (sSeq (sFor (iSeq (eVar 0)) (tName 2)
    (sIf (tB (eChain oLe oLt (e2 oIx (eVar 2) (eC (.int 0))) (eVar 1) (e2 oIx (eVar 2) (eC (.int 1)))))
    (sRet (eC (.bl true)))
    sSkip))
    (sRet (eC (.bl false))))
def P.m_covers : FM := fnM 2 3 P.b_covers

def P.b_size_of : SM := (sRet (e1 oSum (eCons (eComp (iSeq (eVar 0)) (tName 1) tYesD (e2 oSub (e2 oIx (eVar 1) (eC (.int 1))) (e2 oIx (eVar 1) (eC (.int 0)))) [1]) eNil)))
def P.m_size_of : FM := fnM 1 2 P.b_size_of

def P.b_cellAt0 : SM := (sSeq (sIf (tB (e2 oLt (eVar 1) (e1 oLen (eCons (eVar 0) eNil))))
    (sRet (e2 oIx (eVar 0) (eVar 1)))
    sSkip)
    (sRet (eC (.int 0))))
def P.m_cellAt0 : FM := fnM 2 2 P.b_cellAt0

def P.b_stream : SM := (sSeq (sSet 2 (eLst eNil))
    (sSeq (sSet 3 (e2 oAdd (e2 oMod (eVar 0) (eC (.int 2147483647))) (eC (.int 48271))))
    (sSeq (sFor (iRng1D (e2 oAdd (eVar 1) (eC (.int 1)))) (tName 4)
    (sSeq (sSet 3 (e2 oMod (e2 oAdd (e2 oAdd (e2 oMul (eVar 3) (eVar 3)) (e2 oMul (eC (.int 48271)) (eVar 3))) (eVar 4)) (eC (.int 2147483647))))
    (sDo (eBM "list" mAppend (eVar 2) (eCons (eVar 3) eNil)))))
    (sRet (eSli (eVar 2) (oSo (eC (.int 1))) oNo)))))
def P.m_stream : FM := fnM 2 5 P.b_stream

def P.b_spans : SM := (sSeq (sSet 1 (eCall DL.P.stream (eCons (eCall DL.P.cellAt0 (eCons (eVar 0) (eCons (eC (.int 0)) eNil))) (eCons (eC (.int 2)) eNil))))
    (sSeq (sSet 2 (e2 oIx (eLst (eCons (e2 oMod (e2 oIx (eVar 1) (eC (.int 0))) (eC (.int 7))) (eCons (e2 oMod (e2 oIx (eVar 1) (eC (.int 0))) (eC (.int 13))) (eCons (eC (.int 60)) eNil)))) (e2 oAdd (e1 oInt (eCons (e2 oEq (e2 oMod (e2 oIx (eVar 1) (eC (.int 1))) (eC (.int 3))) (eC (.int 0))) eNil)) (e1 oInt (eCons (e2 oEq (e2 oMod (e2 oIx (eVar 1) (eC (.int 1))) (eC (.int 12))) (eC (.int 0))) eNil)))))
    (sSeq (sSet 3 (eLst eNil))
    (sSeq (sSet 4 (e2 oSub (e2 oMod (e2 oDiv (e2 oIx (eVar 1) (eC (.int 0))) (eC (.int 91))) (eC (.int 4))) (eC (.int 1))))
    (sSeq (sFor (iRng1D (eVar 2)) (tName 5)
    (sSeq (sSet 6 (eCall DL.P.stream (eCons (e2 oAdd (eCall DL.P.cellAt0 (eCons (eVar 0) (eCons (e2 oAdd (eC (.int 1)) (e2 oMod (eVar 5) (eC (.int 12)))) eNil))) (e2 oMul (eC (.int 11)) (eVar 5))) (eCons (eC (.int 4)) eNil))))
    (sSeq (sSet 7 (e2 oAdd (e2 oAdd (eVar 4) (eC (.int 1))) (e2 oIx (eLst (eCons (eC (.int 0)) (eCons (e2 oMod (e2 oIx (eVar 6) (eC (.int 0))) (eC (.int 3))) (eCons (e2 oMod (e2 oIx (eVar 6) (eC (.int 0))) (eC (.int 40))) (eCons (e2 oMod (e2 oIx (eVar 6) (eC (.int 0))) (eC (.int 9000))) eNil))))) (e2 oMod (e2 oIx (eVar 6) (eC (.int 2))) (eC (.int 4))))))
    (sSeq (sSet 4 (e2 oAdd (e2 oAdd (eVar 7) (eC (.int 1))) (e2 oIx (eLst (eCons (eC (.int 0)) (eCons (e2 oMod (e2 oIx (eVar 6) (eC (.int 1))) (eC (.int 3))) (eCons (e2 oMod (e2 oIx (eVar 6) (eC (.int 1))) (eC (.int 40))) (eCons (e2 oMod (e2 oIx (eVar 6) (eC (.int 1))) (eC (.int 9000))) eNil))))) (e2 oMod (e2 oIx (eVar 6) (eC (.int 3))) (eC (.int 4))))))
    (sDo (eBM "list" mAppend (eVar 3) (eCons (eTup (eCons (eVar 7) (eCons (eVar 4) eNil))) eNil)))))))
    (sRet (e1 oTuple (eCons (eVar 3) eNil))))))))
def P.m_spans : FM := fnM 1 8 P.b_spans

def P.b_inRow : SM := (sRet (e2 oEq (e1 oLen (eCons (eComp (iSeq (eVar 0)) (tName 2) (tB (eChain oLe oLt (e2 oIx (eVar 2) (eC (.int 0))) (eVar 1) (e2 oIx (eVar 2) (eC (.int 1))))) (eC (.int 1)) [2]) eNil)) (eC (.int 1))))
def P.m_inRow : FM := fnM 2 3 P.b_inRow


/-! proofs -/
theorem P.tell_cellAt0 : ∀ (st : Store) (ds : List D), st.Ok → D.ltAll st.length ds = true → Tell st (P.cellAt0 ds st) (P.m_cellAt0 ds st) := by
  intro st ds ok lt
  unfold P.cellAt0
  split
  · rename_i n k
    split
    · rename_i l hl
      split
      · rename_i hk
        obtain ⟨h0, h2⟩ := hk
        obtain ⟨L, hl, hi⟩ := Option.bind_eq_some_iff.mp hl
        have hi := intsD_eq hi
        subst hi
        obtain ⟨o, ho, hl⟩ := Option.bind_eq_some_iff.mp hl
        refine tell_eq ok rfl ?_
        rw [P.m_cellAt0]; simp [P.b_cellAt0, ho, hl, len_of_seq' hl]
        by_cases q : k < l.length
        · have : k.toNat < l.length := by omega
          simp [q, atI_pos h0, List.getElem?_eq_getElem this, cell0]
        · simp [q, List.getElem?_eq_none (show l.length ≤ k.toNat by omega), cell0]
      · exact .bad
    · exact .bad
  · exact .bad
theorem P.tell_stream : ∀ (st : Store) (ds : List D), st.Ok → D.ltAll st.length ds = true → Tell st (P.stream ds st) (P.m_stream ds st) := by
  intro st ds ok lt
  unfold P.stream
  split
  · rename_i c m
    split
    · rename_i hk
      obtain ⟨h0, h1⟩ := hk
      refine tell_list ok (ltAll_ints _) ?_
      rw [P.m_stream]; simp [P.b_stream]
      rw [if_pos (by omega)]
      simp [rng_map]
      generalize hr : forK _ _ _ _ _ = r
      obtain ⟨e, s', rfl, ⟨x, rfl⟩, rfl⟩ := forK_inv hr (List.range (m + 1).toNat) (fun (i : Nat) => .int (i : Int)) (fun pre e s => (∃ x, e = [some (.int c), some (.int m), some (.ref st.length), some (.int (streamS c pre.length).2), x]) ∧ s = st ++ [.lst ((streamS c pre.length).1.map .int)])
        (fun pre e s ⟨_, b⟩ => rfl) (by simp [fuel]; omega) ⟨⟨none, rfl⟩, rfl⟩ (fun pre x post e s hL ⟨⟨y, a⟩, b⟩ => by
          subst a; subst b
          have hx := rng_mid hL
          have hx1 := hx.1
          have hx := hx.2
          subst hx1
          have bd := streamS_bd c pre.length
          have h5 : MulOk (streamS c pre.length).2 (streamS c pre.length).2 := mulOk_l (by omega) (by omega)
          have h6 : (streamS c pre.length).1.length < sizeLine := hL5' (by rw [streamS_len]; omega)
          simp [h5, h6, streamS])
      have h7 : ∀ l : List D, cutL l (some 1) none = l.drop 1 := fun l => cut_from (by omega)
      simp [h7]
      refine ⟨[.lst ((streamS c (m + 1).toNat).1.map .int), .lst ((streamL c m.toNat).map .int)], 1, ⟨rfl, ?_⟩, rfl⟩
      rw [show (m + 1).toNat = m.toNat + 1 by omega]
      simp [streamL, List.map_drop]
    · exact .bad
  · exact .bad
theorem P.tell_inRow : ∀ (st : Store) (ds : List D), st.Ok → D.ltAll st.length ds = true → Tell st (P.inRow ds st) (P.m_inRow ds st) := by
  intro st ds ok lt
  unfold P.inRow
  split
  · rename_i d p
    split
    · rename_i R hR
      split
      · rename_i hl
        have := rowOf_eq hR
        subst this
        refine tell_pure ok rfl ?_
        rw [P.m_inRow]; simp [P.b_inRow]
        generalize hr : compK _ _ _ _ _ _ _ = r
        obtain rfl := compK_r hr R spD (isIn p) (fun _ => .int 1) rfl (hL5 hl) (fun s _ a => by
          by_cases h : s.1 ≤ p <;> simp [wipeD, atI, ixN, isIn, h])
        simp [inR]
        omega
      · exact .bad
    · exact .bad
  · exact .bad
theorem P.tell_covers : ∀ (st : Store) (ds : List D), st.Ok → D.ltAll st.length ds = true → Tell st (P.covers ds st) (P.m_covers ds st) := by
  intro st ds ok lt
  unfold P.covers
  split
  · rename_i d p
    split
    · rename_i R hR
      split
      · rename_i hl
        have := rowOf_eq hR
        subst this
        refine tell_eq ok rfl ?_
        rw [P.m_covers]; simp [P.b_covers]
        generalize hr : forK _ _ _ _ _ = r
        rcases forK_out hr R spD (fun pre e s' => s' = st ∧ (∃ x, e = [some (rowL R), some (.int p), x]) ∧ pre.any (isIn p) = false) (fun r => r = .rt (.bl true) st ∧ R.any (isIn p) = true) (fun _ _ _ _ => rfl) (line_fuel (hL5 hl)) ⟨rfl, ⟨_, rfl⟩, rfl⟩
          (fun pre c post e s' hL ⟨h1, ⟨x, h2⟩, h3⟩ => by
            subst h1; subst h2
            have h3' : ∀ x ∈ pre, isIn p x = false := by simpa using h3
            by_cases ha : c.1 ≤ p <;> by_cases hb : p < c.2 <;> simp [atI, ixN, ha, hb, hL, isIn] <;> first | (intro a b hab; simpa [isIn] using h3' _ hab) | skip) with ⟨e, s', rfl, rfl, _, h⟩ | ⟨rfl, h⟩
        · simp [h]
        · simp [h]
      · exact .bad
    · exact .bad
  · exact .bad
theorem P.tell_size_of : ∀ (st : Store) (ds : List D), st.Ok → D.ltAll st.length ds = true → Tell st (P.size_of ds st) (P.m_size_of ds st) := by
  intro st ds ok lt
  unfold P.size_of
  split
  · rename_i d
    split
    · rename_i R hR
      split
      · rename_i hl
        have := rowOf_eq hR
        subst this
        refine tell_pure ok rfl ?_
        rw [P.m_size_of]; simp [P.b_size_of]
        generalize hr : compK _ _ _ _ _ _ _ = r
        obtain rfl := compK_r hr R spD (fun _ => true) (fun s => .int (s.2 - s.1)) rfl (hL5 hl) (fun s _ a => by simp [wipeD, atI, ixN])
        have : ∀ l : List (Int × Int), intsD (l.map fun s => D.int (s.2 - s.1)) = some (l.map fun s => s.2 - s.1) := fun l => by
          induction l with
          | nil => rfl
          | cons a l ih => simp [intsD, ih]
        simp [filt_yes, this, sizeR]
      · exact .bad
    · exact .bad
  · exact .bad
end DL
/-! Pc: rows drawn, places near a row. -/
namespace DL
open PySem L2
theorem P.cellAt0_eq {st : Store} {n : Nat} {o : Ob} {C : List Int} {i : Int} (h : st[n]? = some o) (ho : o.seq = some (C.map .int)) (hl : C.length ≤ 1000) (h0 : 0 ≤ i) : P.cellAt0 [.ref n, .int i] st = .ok (.int (cell0 C i.toNat)) st := by
  simp only [P.cellAt0, h, Option.bind_some, ho, intsD_ints, hl, h0, and_self, if_true]
theorem P.stream_eq {st : Store} {c m : Int} (h0 : 0 ≤ m) (h1 : m ≤ 1000) : P.stream [.int c, .int m] st = .ok (.ref st.length) (st ++ [.lst ((streamL c m.toNat).map .int)]) := by simp [P.stream, h0, h1]
theorem stream2 (c : Int) : ∃ a b, streamL c 2 = [a, b] ∧ 0 ≤ a ∧ a < 2147483647 ∧ 0 ≤ b ∧ b < 2147483647 := by
  have h1 := streamL_len c 2
  have h2 := streamL_all c 2
  match h : streamL c 2, h1, h2 with
  | [a, b], _, h2 => exact ⟨a, b, rfl, (h2 a (by simp)).1, (h2 a (by simp)).2, (h2 b (by simp)).1, (h2 b (by simp)).2⟩
theorem stream4 (c : Int) : ∃ a b x y, streamL c 4 = [a, b, x, y] := by
  have h1 := streamL_len c 4
  match h : streamL c 4, h1 with
  | [a, b, x, y], _ => exact ⟨a, b, x, y, rfl⟩
theorem pick_at {x j : Int} : atI [D.int 0, .int (x % 3), .int (x % 40), .int (x % 9000)] (j % 4) = some (.int (pickN x (j % 4))) := by
  have : j % 4 = 0 ∨ j % 4 = 1 ∨ j % 4 = 2 ∨ j % 4 = 3 := by omega
  rcases this with h | h | h | h <;> rw [h] <;> rfl
theorem manyN_bd (ns : List Int) : 0 ≤ manyN ns ∧ manyN ns ≤ 60 := by
  unfold manyN
  split
  · omega
  · split <;> omega
theorem spansS_len (ns : List Int) : ∀ n, (spansS ns n).1.length = n
  | 0 => rfl
  | n + 1 => by simp [spansS, spansS_len ns n]
theorem P.tell_spans : ∀ (st : Store) (ds : List D), st.Ok → D.ltAll st.length ds = true → Tell st (P.spans ds st) (P.m_spans ds st) := by
  intro st ds ok lt
  unfold P.spans
  split
  · rename_i n
    split
    · rename_i l hl
      split
      · rename_i h2
        obtain ⟨L, hl, hi⟩ := Option.bind_eq_some_iff.mp hl
        have hi := intsD_eq hi
        subst hi
        obtain ⟨o, ho, hl⟩ := Option.bind_eq_some_iff.mp hl
        have hn : n < st.length := lt_of_get ho
        refine tell_pure ok (nrs_row _) ?_
        rw [P.m_spans]; simp [P.b_spans, P.cellAt0_eq ho hl h2, P.stream_eq]
        obtain ⟨a, b, hab, a0, a1, b0, b1⟩ := stream2 (cell0 l 0)
        have hm : atI [D.int (a % 7), .int (a % 13), .int 60] ((if b % 3 = 0 then 1 else 0) + (if b % 12 = 0 then 1 else 0)) = some (.int (manyN l)) := by
          unfold manyN
          rw [hab]
          by_cases q1 : b % 12 = 0
          · have q2 : b % 3 = 0 := by omega
            simp [q1, q2, atI, ixN]
          · by_cases q2 : b % 3 = 0 <;> simp [q1, q2, atI, ixN]
        have hb := manyN_bd l
        have h00 : (spansS l 0).2 = a / 91 % 4 - 1 := by simp [spansS, hab]
        simp [hab, atI_pos, oInt, hm]
        rw [if_pos (by omega)]
        simp [rng_map]
        generalize hr : forK _ _ _ _ _ = r
        obtain ⟨e, s', rfl, ⟨x, y, z, rfl⟩, g, rfl⟩ := forK_inv hr (List.range (manyN l).toNat) (fun (i : Nat) => .int (i : Int)) (fun pre e s => (∃ x y z, e = [some (.ref n), some (.ref st.length), some (.int (manyN l)), some (.ref (st.length + 2)), some (.int (spansS l pre.length).2), x, y, z]) ∧ ∃ g, s = st ++ .lst [.int a, .int b] :: .lst [.int (a % 7), .int (a % 13), .int 60] :: .lst ((spansS l pre.length).1.map spD) :: g)
          (fun pre e s ⟨_, b⟩ => rfl) (by simp [fuel]; omega) ⟨⟨none, none, none, by simp [h00]⟩, [], rfl⟩ (fun pre x post e s hL ⟨⟨x1, x2, x3, ha⟩, g, hb2⟩ => by
            subst ha; subst hb2
            have hx := rng_mid hL
            have hx1 := hx.1
            have hx := hx.2
            subst hx1
            have hlen : (spansS l pre.length).1.length < sizeLine := hL5' (by rw [spansS_len]; omega)
            have hc : ∀ g : Store, P.cellAt0 [.ref n, .int (1 + (pre.length : Int) % 12)] (st ++ g) = .ok (.int (cell0 l (1 + pre.length % 12))) (st ++ g) := fun g => by
              rw [P.cellAt0_eq (o := o) (by rw [getL hn]; exact ho) hl h2 (by omega)]
              congr 2
            obtain ⟨c0, c1, c2, c3, hs⟩ := stream4 (cell0 l (1 + pre.length % 12) + 11 * (pre.length : Int))
            have e1 : spBegin l (spansS l pre.length).2 pre.length = (spansS l pre.length).2 + 1 + pickN c0 (c2 % 4) := by simp [spBegin, hs]
            have e2 : spEnd l (spansS l pre.length).2 pre.length = spBegin l (spansS l pre.length).2 pre.length + 1 + pickN c1 (c3 % 4) := by simp [spEnd, hs]
            have p1 := @pick_at c0 c2
            have p2 := @pick_at c1 c3
            simp [hc, P.stream_eq, hs, atI_pos, p1, p2, hlen, spansS, e1, e2])
        simp [spansR]
      · exact .bad
    · exact .bad
  · exact .bad

def rowAt (st : Store) : D → Option (List (Int × Int))
  | .tup l => l.mapM spOf
  | .ref n => (st[n]?.bind Ob.seq).bind fun l => l.mapM spOf
  | _ => none
def near1 (s : Int × Int) : List Int := [s.1 - 1, s.1, s.2 - 1, s.2]
def nearL (Rs : List (List (Int × Int))) : List Int := [0, 1] ++ Rs.flatMap fun R => R.flatMap near1
def P.near : FM := fun ds st => match ds with
  | [.ref n] => match (st[n]?.bind Ob.seq).bind fun l => l.mapM (rowAt st) with
    | some Rs => if Rs.length ≤ 1000 ∧ (Rs.all fun R => decide (R.length ≤ 1000)) = true ∧ (nearL Rs).length ≤ 100000 then .ok (.ref st.length) (st ++ [.lst ((nearL Rs).map .int)]) else .bad
    | none => .bad
  | _ => .bad
def P.b_near : SM := (sSeq (sSet 1 (eLst (eCons (eC (.int 0)) (eCons (eC (.int 1)) eNil))))
    (sSeq (sFor (iSeq (eVar 0)) (tName 2)
    (sFor (iSeq (eVar 2)) (tName 3)
    (sSet 1 (e2 oAdd (eVar 1) (eLst (eCons (e2 oSub (e2 oIx (eVar 3) (eC (.int 0))) (eC (.int 1))) (eCons (e2 oIx (eVar 3) (eC (.int 0))) (eCons (e2 oSub (e2 oIx (eVar 3) (eC (.int 1))) (eC (.int 1))) (eCons (e2 oIx (eVar 3) (eC (.int 1))) eNil)))))))))
    (sRet (eVar 1))))
def P.m_near : FM := fnM 1 4 P.b_near


theorem mapM_zip {α β : Type} {f : α → Option β} : ∀ {l : List α} {m : List β}, l.mapM f = some m → ∃ L : List (α × β), l = L.map (·.1) ∧ m = L.map (·.2) ∧ ∀ p ∈ L, f p.1 = some p.2
  | [], m, h => by
    have : m = [] := by simpa using h.symm
    exact ⟨[], rfl, by simp [this], by simp⟩
  | a :: l, m, h => by
    rw [List.mapM_cons] at h
    cases ha : f a with
    | none => rw [ha] at h; cases h
    | some b =>
      cases hl : l.mapM f with
      | none => rw [ha, hl] at h; cases h
      | some m' =>
        rw [ha, hl] at h; cases h
        obtain ⟨L, h1, h2, h3⟩ := mapM_zip hl
        exact ⟨(a, b) :: L, by simp [h1], by simp [h2], by intro p hp; rcases List.mem_cons.mp hp with rfl | hp; exact ha; exact h3 p hp⟩
theorem mapM_sp {l : List D} {R : List (Int × Int)} (h : l.mapM spOf = some R) : l = R.map spD := by
  have : rowOf (.tup l) = some R := h
  have := rowOf_eq this
  simpa using this
theorem src_row {st : Store} {d : D} {R : List (Int × Int)} (h : rowAt st d = some R) (g : Store) : ∃ s, srcOf d (st ++ g) = some (s, st ++ g) ∧ ∀ g', SrcIs s (st ++ g') (R.map spD) := by
  unfold rowAt at h
  split at h
  · rw [mapM_sp h]; exact ⟨_, rfl, fun _ => rfl⟩
  · rename_i n
    obtain ⟨l, h1, h2⟩ := Option.bind_eq_some_iff.mp h
    obtain ⟨o, h3, h4⟩ := Option.bind_eq_some_iff.mp h1
    have hn := lt_of_get h3
    have := mapM_sp h2
    subst this
    exact ⟨.ref n, by simp [getL hn, h3, h4], fun g' => by simp [getL hn, h3, h4]⟩
  · cases h
theorem P.tell_near : ∀ (st : Store) (ds : List D), st.Ok → D.ltAll st.length ds = true → Tell st (P.near ds st) (P.m_near ds st) := by
  intro st ds ok lt
  unfold P.near
  split
  · rename_i n
    split
    · rename_i Rs hl
      split
      · rename_i hb
        obtain ⟨b1, b2, b3⟩ := hb
        obtain ⟨l, h1, h2⟩ := Option.bind_eq_some_iff.mp hl
        obtain ⟨o, ho, hs⟩ := Option.bind_eq_some_iff.mp h1
        have hn := lt_of_get ho
        obtain ⟨L, rfl, rfl, h3⟩ := mapM_zip h2
        refine tell_list ok (ltAll_ints _) ?_
        rw [P.m_near]; simp [P.b_near, getL hn, ho, hs]
        generalize hr : forK _ _ _ _ _ = r
        obtain ⟨e, s', rfl, x, y, g, k, rfl, rfl, hg⟩ := forK_inv hr L (·.1) (fun pre e s => ∃ x y g k, e = [some (.ref n), some (.ref (st.length + k)), x, y] ∧ s = st ++ g ∧ g[k]? = some (.lst ((nearL (pre.map (·.2))).map .int)))
          (fun pre e s ⟨_, _, g, k, _, b, _⟩ => by rw [b]; simp [getL hn, ho, hs]) (by simp at b1; simp [fuel]; omega) ⟨none, none, [.lst [.int 0, .int 1]], 0, rfl, rfl, rfl⟩ (fun pre p post e s hL ⟨x, y, g, k, ha, hb, hg⟩ => by
            subst ha; subst hb
            obtain ⟨sr, q1, q2⟩ := src_row (h3 p (by rw [hL]; simp)) g
            simp [q1]
            generalize hr2 : forK _ _ _ _ _ = r2
            obtain ⟨e, s', rfl, x, y, g, k, rfl, rfl, hg⟩ := forK_inv hr2 p.2 spD (fun pr e s => ∃ x y g k, e = [some (.ref n), some (.ref (st.length + k)), x, y] ∧ s = st ++ g ∧ g[k]? = some (.lst ((nearL (pre.map (·.2)) ++ pr.flatMap near1).map .int)))
              (fun pr e s ⟨_, _, g, k, _, b, _⟩ => by rw [b]; exact q2 g) (by
                have : p.2 ∈ L.map (·.2) := by rw [hL]; simp
                have := List.all_eq_true.mp b2 _ this
                simp at this; simp [fuel]; omega) ⟨_, _, g, k, rfl, rfl, by simpa using hg⟩ (fun pr c po e s hL2 ⟨x, y, g, k, ha, hb, hg⟩ => by
                subst ha; subst hb
                have hlen : (nearL (pre.map (·.2)) ++ pr.flatMap near1).length + 4 ≤ sizeLine := by
                  refine hL5 (Nat.le_trans ?_ b3)
                  rw [hL]
                  simp [nearL, hL2, near1]
                  omega
                simp [atI, ixN, get_old hg]
                simp at hlen
                simp [hlen]
                exact ⟨x, _, _, _, ⟨rfl, rfl, rfl⟩, rfl, by simp [near1]⟩)
            refine ⟨_, _, _, _, rfl, rfl, ?_⟩
            rw [hg]; simp [nearL])
        exact ⟨g, k, by simp, hg⟩
      · exact .bad
    · exact .bad
  · exact .bad
end DL
/-! Pd: of rows. -/
namespace DL
open PySem L2
theorem pickN_bd (x j : Int) : 0 ≤ pickN x j ∧ pickN x j < 9000 := by
  unfold pickN
  split
  · omega
  · split
    · omega
    · split <;> omega
structure RowOk (R : List (Int × Int)) : Prop where
  pw : R.Pairwise fun a b => a.2 < b.1
  ok : ∀ s ∈ R, 0 ≤ s.1 ∧ s.1 < s.2
theorem RowOk.nil : RowOk [] := ⟨.nil, fun _ h => nomatch h⟩
theorem RowOk.cons {s : Int × Int} {R : List (Int × Int)} : RowOk (s :: R) ↔ (∀ t ∈ R, s.2 < t.1) ∧ (0 ≤ s.1 ∧ s.1 < s.2) ∧ RowOk R := by
  constructor
  · intro h
    exact ⟨(List.pairwise_cons.mp h.pw).1, h.ok s (List.mem_cons_self ..), (List.pairwise_cons.mp h.pw).2, fun t ht => h.ok t (List.mem_cons_of_mem _ ht)⟩
  · intro ⟨h1, h2, h3⟩
    exact ⟨List.pairwise_cons.mpr ⟨h1, h3.pw⟩, fun t ht => by rcases List.mem_cons.mp ht with rfl | ht; exact h2; exact h3.ok t ht⟩
theorem RowOk.snoc {s : Int × Int} {R : List (Int × Int)} (h : RowOk R) (h1 : ∀ t ∈ R, t.2 < s.1) (h2 : 0 ≤ s.1 ∧ s.1 < s.2) : RowOk (R ++ [s]) := by
  refine ⟨List.pairwise_append.mpr ⟨h.pw, List.pairwise_singleton .., fun a ha b hb => ?_⟩, fun t ht => ?_⟩
  · rw [List.mem_singleton] at hb; subst hb; exact h1 a ha
  · rcases List.mem_append.mp ht with ht | ht
    · exact h.ok t ht
    · rw [List.mem_singleton] at ht; subst ht; exact h2
theorem RowOk.app {A B : List (Int × Int)} : RowOk (A ++ B) ↔ RowOk A ∧ RowOk B ∧ ∀ a ∈ A, ∀ b ∈ B, a.2 < b.1 := by
  constructor
  · intro h
    have := List.pairwise_append.mp h.pw
    exact ⟨⟨this.1, fun s hs => h.ok s (List.mem_append_left _ hs)⟩, ⟨this.2.1, fun s hs => h.ok s (List.mem_append_right _ hs)⟩, this.2.2⟩
  · intro ⟨h1, h2, h3⟩
    exact ⟨List.pairwise_append.mpr ⟨h1.pw, h2.pw, h3⟩, fun s hs => by rcases List.mem_append.mp hs with hs | hs; exact h1.ok s hs; exact h2.ok s hs⟩
theorem any_cons_row {s : Int × Int} {R : List (Int × Int)} {p : Int} : (s :: R).any (isIn p) = (isIn p s || R.any (isIn p)) := rfl
theorem inR_any {R : List (Int × Int)} (h : RowOk R) (p : Int) : inR R p = R.any (isIn p) := by
  induction R with
  | nil => rfl
  | cons s R ih =>
    obtain ⟨h1, h2, h3⟩ := RowOk.cons.mp h
    have ih := ih h3
    unfold inR at *
    rw [List.filter_cons, List.any_cons]
    by_cases hs : isIn p s = true
    · have hs' : s.1 ≤ p ∧ p < s.2 := by simpa [isIn] using hs
      have : R.filter (isIn p) = [] := List.filter_eq_nil_iff.mpr fun t ht q => by
        have q' : t.1 ≤ p ∧ p < t.2 := by simpa [isIn] using q
        have := h1 t ht; omega
      simp [hs, this]
    · simp only [hs, Bool.false_or]; rw [← ih]; simp
theorem spansS_ok (ns : List Int) : ∀ n, RowOk (spansS ns n).1 ∧ (∀ s ∈ (spansS ns n).1, s.2 ≤ (spansS ns n).2) ∧ -1 ≤ (spansS ns n).2 ∧ (spansS ns n).2 ≤ 2 + 18002 * (n : Int)
  | 0 => by
    refine ⟨.nil, fun _ h => (nomatch h), ?_⟩
    simp only [spansS]; omega
  | n + 1 => by
    obtain ⟨h1, h2, h3, h4⟩ := spansS_ok ns n
    have b1 : (spansS ns n).2 < spBegin ns (spansS ns n).2 n ∧ spBegin ns (spansS ns n).2 n < (spansS ns n).2 + 9002 := by
      unfold spBegin
      have := pickN_bd ((streamL (cell0 ns (1 + n % 12) + 11 * (n : Int)) 4).getD 0 0) ((streamL (cell0 ns (1 + n % 12) + 11 * (n : Int)) 4).getD 2 0 % 4)
      omega
    have b2 : spBegin ns (spansS ns n).2 n < spEnd ns (spansS ns n).2 n ∧ spEnd ns (spansS ns n).2 n < spBegin ns (spansS ns n).2 n + 9001 := by
      unfold spEnd
      have := pickN_bd ((streamL (cell0 ns (1 + n % 12) + 11 * (n : Int)) 4).getD 1 0) ((streamL (cell0 ns (1 + n % 12) + 11 * (n : Int)) 4).getD 3 0 % 4)
      omega
    simp only [spansS]
    refine ⟨h1.snoc (fun t ht => by have := h2 t ht; simp only; omega) ⟨by simp only; omega, b2.1⟩, fun s hs => ?_, by omega, by omega⟩
    rcases List.mem_append.mp hs with hs | hs
    · have := h2 s hs; omega
    · rw [List.mem_singleton] at hs; subst hs; simp
theorem spansR_ok (ns : List Int) : RowOk (spansR ns) := (spansS_ok ns _).1
theorem spansR_len (ns : List Int) : (spansR ns).length ≤ 60 := by
  unfold spansR; rw [spansS_len]; have := manyN_bd ns; omega
theorem spansR_bd (ns : List Int) : ∀ s ∈ spansR ns, s.2 ≤ 1080122 := by
  intro s hs
  have h := spansS_ok ns (manyN ns).toNat
  have := h.2.1 s hs
  have := manyN_bd ns
  omega
theorem P.spans_eq {st : Store} {n : Nat} {o : Ob} {C : List Int} (h : st[n]? = some o) (ho : o.seq = some (C.map .int)) (hl : C.length ≤ 1000) : P.spans [.ref n] st = .ok (rowL (spansR C)) st := by
  simp only [P.spans, h, Option.bind_some, ho, intsD_ints, hl, if_true]
theorem near1_len (R : List (Int × Int)) : (R.flatMap near1).length = 4 * R.length := by
  induction R with
  | nil => rfl
  | cons a l ih => rw [List.flatMap_cons, List.length_append, ih]; simp [near1]; omega
theorem P.inRow_eq {st : Store} {R : List (Int × Int)} {p : Int} (h : R.length ≤ 100000) : P.inRow [rowL R, .int p] st = .ok (.bl (inR R p)) st := by simp [P.inRow, h, -List.map_map]
theorem P.covers_eq {st : Store} {R : List (Int × Int)} {p : Int} (h : R.length ≤ 100000) : P.covers [rowL R, .int p] st = .ok (.bl (R.any (isIn p))) st := by simp [P.covers, h, -List.map_map]
theorem P.size_eq {st : Store} {R : List (Int × Int)} (h : R.length ≤ 100000) : P.size_of [rowL R] st = .ok (.int (sizeR R)) st := by simp [P.size_of, h, -List.map_map]
@[simp] theorem spOfs (R : List (Int × Int)) : (R.map spD).mapM spOf = some R := rowOf_row R
theorem rowAt_row (st : Store) (R : List (Int × Int)) : rowAt st (rowL R) = some R := rowOf_row R
end DL
/-! Pe: spans added, holes, cuts: the plain law. -/
namespace DL
abbrev Sp := Int × Int
structure AddSt where
  A : List Sp
  b : Int
  e : Int
  B : List Sp
def AddSt.row (q : AddSt) : List Sp := q.A ++ (q.b, q.e) :: q.B
def addStep (q : AddSt) (s : Sp) : AddSt := if s.2 < q.b then ⟨q.A ++ [s], q.b, q.e, q.B⟩ else if q.e < s.1 then ⟨q.A, q.b, q.e, q.B ++ [s]⟩ else ⟨q.A, min q.b s.1, max q.e s.2, q.B⟩
def addR (R : List Sp) (b e : Int) : List Sp := if b = e then R else (R.foldl addStep ⟨[], b, e, []⟩).row
structure AddOk (q : AddSt) (S : List Sp) : Prop where
  rA : RowOk q.A
  rB : RowOk q.B
  be : 0 ≤ q.b ∧ q.b < q.e
  Ab : ∀ a ∈ q.A, a.2 < q.b
  eB : ∀ x ∈ q.B, q.e < x.1
  rS : RowOk S
  AS : ∀ a ∈ q.A, ∀ t ∈ S, a.2 < t.1
  BS : ∀ x ∈ q.B, ∀ t ∈ S, x.2 < t.1
theorem AddOk.row {q : AddSt} (h : AddOk q []) : RowOk q.row := by
  refine RowOk.app.mpr ⟨h.rA, RowOk.cons.mpr ⟨fun t ht => h.eB t ht, h.be, h.rB⟩, fun a ha b hb => ?_⟩
  rcases List.mem_cons.mp hb with rfl | hb
  · exact h.Ab a ha
  · have := h.Ab a ha; have := h.be; have := h.eB b hb; omega
theorem any_in {R : List Sp} {p : Int} : R.any (isIn p) = true ↔ ∃ s ∈ R, s.1 ≤ p ∧ p < s.2 := by simp [isIn]
theorem AddOk.step {q : AddSt} {s : Sp} {S : List Sp} (h : AddOk q (s :: S)) : AddOk (addStep q s) S ∧ ∀ p, (addStep q s).row.any (isIn p) = (q.row.any (isIn p) || isIn p s) := by
  obtain ⟨h1, h2, h3⟩ := RowOk.cons.mp h.rS
  have be := h.be
  unfold addStep
  split
  · rename_i hs
    refine ⟨⟨h.rA.snoc (fun t ht => h.AS t ht s (List.mem_cons_self ..)) h2, h.rB, h.be, fun a ha => ?_, h.eB, h3, fun a ha t ht => ?_, fun x hx t ht => h.BS x hx t (List.mem_cons_of_mem _ ht)⟩, fun p => ?_⟩
    · rcases List.mem_append.mp ha with ha | ha
      · exact h.Ab a ha
      · rw [List.mem_singleton] at ha; subst ha; exact hs
    · rcases List.mem_append.mp ha with ha | ha
      · exact h.AS a ha t (List.mem_cons_of_mem _ ht)
      · rw [List.mem_singleton] at ha; subst ha; exact h1 t ht
    · simp only [AddSt.row, List.any_append, List.any_cons, List.any_nil, Bool.or_false]
      cases q.A.any (isIn p) <;> cases isIn p s <;> simp
  · rename_i hs
    split
    · rename_i he
      refine ⟨⟨h.rA, h.rB.snoc (fun t ht => h.BS t ht s (List.mem_cons_self ..)) h2, h.be, h.Ab, fun x hx => ?_, h3, fun a ha t ht => h.AS a ha t (List.mem_cons_of_mem _ ht), fun x hx t ht => ?_⟩, fun p => ?_⟩
      · rcases List.mem_append.mp hx with hx | hx
        · exact h.eB x hx
        · rw [List.mem_singleton] at hx; subst hx; exact he
      · rcases List.mem_append.mp hx with hx | hx
        · exact h.BS x hx t (List.mem_cons_of_mem _ ht)
        · rw [List.mem_singleton] at hx; subst hx; exact h1 t ht
      · simp only [AddSt.row, List.any_append, List.any_cons, List.any_nil, Bool.or_false, Bool.or_assoc]
    · rename_i he
      refine ⟨⟨h.rA, h.rB, by simp only; omega, fun a ha => ?_, fun x hx => ?_, h3, fun a ha t ht => h.AS a ha t (List.mem_cons_of_mem _ ht), fun x hx t ht => h.BS x hx t (List.mem_cons_of_mem _ ht)⟩, fun p => ?_⟩
      · have := h.Ab a ha; have := h.AS a ha s (List.mem_cons_self ..); simp only; omega
      · have := h.eB x hx; have := h.BS x hx s (List.mem_cons_self ..); have := h.rB.ok x hx; omega
      · have : isIn p (min q.b s.1, max q.e s.2) = (isIn p (q.b, q.e) || isIn p s) := by
          rw [Bool.eq_iff_iff]; simp [isIn]; omega
        simp only [AddSt.row, List.any_append, List.any_cons, this]
        cases q.A.any (isIn p) <;> cases isIn p s <;> cases isIn p (q.b, q.e) <;> simp
theorem AddOk.fold : ∀ (S : List Sp) (q : AddSt), AddOk q S → RowOk (S.foldl addStep q).row ∧ ∀ p, (S.foldl addStep q).row.any (isIn p) = (q.row.any (isIn p) || S.any (isIn p))
  | [], q, h => ⟨h.row, fun p => by simp⟩
  | s :: S, q, h => by
    obtain ⟨h1, h2⟩ := h.step
    obtain ⟨h3, h4⟩ := AddOk.fold S _ h1
    exact ⟨h3, fun p => by rw [List.foldl_cons, h4, h2, List.any_cons, Bool.or_assoc]⟩
theorem addR_ok {R : List Sp} {b e : Int} (h : RowOk R) (h0 : 0 ≤ b) (h1 : b ≤ e) : RowOk (addR R b e) ∧ ∀ p, (addR R b e).any (isIn p) = (R.any (isIn p) || (decide (b ≤ p) && decide (p < e))) := by
  unfold addR
  split
  · rename_i q
    subst q
    exact ⟨h, fun p => by
      have : (decide (b ≤ p) && decide (p < b)) = false := by rw [Bool.eq_false_iff]; simp
      simp [this]⟩
  · have := AddOk.fold R ⟨[], b, e, []⟩ ⟨.nil, .nil, ⟨h0, by simp only; omega⟩, fun _ h => (nomatch h), fun _ h => (nomatch h), h, fun _ h => (nomatch h), fun _ h => (nomatch h)⟩
    refine ⟨this.1, fun p => ?_⟩
    rw [this.2]
    simp [AddSt.row, isIn, Bool.or_comm]
theorem addFold_len : ∀ (S : List Sp) (q : AddSt), (S.foldl addStep q).A.length + (S.foldl addStep q).B.length ≤ q.A.length + q.B.length + S.length
  | [], q => by simp
  | s :: S, q => by
    have := addFold_len S (addStep q s)
    rw [List.foldl_cons, List.length_cons]
    have h : (addStep q s).A.length + (addStep q s).B.length ≤ q.A.length + q.B.length + 1 := by
      unfold addStep; split
      · simp; omega
      · split <;> simp <;> omega
    omega
theorem addR_len {R : List Sp} {b e : Int} : (addR R b e).length ≤ R.length + 1 := by
  unfold addR; split
  · omega
  · have := addFold_len R ⟨[], b, e, []⟩
    simp [AddSt.row] at *; omega
/-- one ahead of all -/
theorem addR_head {s : Sp} {R : List Sp} (h : RowOk (s :: R)) : addR R s.1 s.2 = s :: R := by
  obtain ⟨h1, h2, h3⟩ := RowOk.cons.mp h
  unfold addR
  rw [if_neg (by omega)]
  have : ∀ (S B : List Sp), (∀ t ∈ S, s.2 < t.1) → (∀ t ∈ S, t.1 < t.2) → S.foldl addStep ⟨[], s.1, s.2, B⟩ = ⟨[], s.1, s.2, B ++ S⟩ := by
    intro S
    induction S with
    | nil => intro B _ _; simp
    | cons t S ih =>
      intro B g1 g2
      have a1 := g1 t (List.mem_cons_self ..)
      have a2 := g2 t (List.mem_cons_self ..)
      rw [List.foldl_cons]
      have : addStep ⟨[], s.1, s.2, B⟩ t = ⟨[], s.1, s.2, B ++ [t]⟩ := by
        unfold addStep
        rw [if_neg (by simp only; omega), if_pos (by simp only; omega)]
      rw [this, ih _ (fun t ht => g1 t (List.mem_cons_of_mem _ ht)) (fun t ht => g2 t (List.mem_cons_of_mem _ ht))]
      simp
  rw [this R [] h1 (fun t ht => (h3.ok t ht).2)]
  simp [AddSt.row]
/-! holes -/
def holeStep (e : Int) (q : List Sp × Int) (s : Sp) : List Sp × Int := (if q.2 < s.1 ∧ q.2 < e then q.1 ++ [(q.2, min e s.1)] else q.1, max q.2 s.2)
def holeR (R : List Sp) (b e : Int) : List Sp := if (R.foldl (holeStep e) ([], b)).2 < e then (R.foldl (holeStep e) ([], b)).1 ++ [((R.foldl (holeStep e) ([], b)).2, e)] else (R.foldl (holeStep e) ([], b)).1
theorem holeFold (e : Int) : ∀ (S : List Sp) (q : List Sp × Int), RowOk S → RowOk q.1 → (∀ f ∈ q.1, f.2 < q.2 ∨ (f.2 ≤ q.2 ∧ e ≤ f.2)) → 0 ≤ q.2 → RowOk (S.foldl (holeStep e) q).1 ∧ (∀ f ∈ (S.foldl (holeStep e) q).1, f.2 < (S.foldl (holeStep e) q).2 ∨ (f.2 ≤ (S.foldl (holeStep e) q).2 ∧ e ≤ f.2)) ∧ 0 ≤ (S.foldl (holeStep e) q).2 ∧
    ∀ p, ((S.foldl (holeStep e) q).1.any (isIn p) || isIn p ((S.foldl (holeStep e) q).2, e)) = (q.1.any (isIn p) || (isIn p (q.2, e) && !S.any (isIn p)))
  | [], q, hS, h1, h2, h3 => ⟨h1, h2, h3, fun p => by simp⟩
  | s :: S, q, hS, h1, h2, h3 => by
    obtain ⟨s1, s2, s3⟩ := RowOk.cons.mp hS
    have st : RowOk (holeStep e q s).1 ∧ (∀ f ∈ (holeStep e q s).1, f.2 < (holeStep e q s).2 ∨ (f.2 ≤ (holeStep e q s).2 ∧ e ≤ f.2)) := by
      unfold holeStep
      simp only
      split
      · rename_i hc
        refine ⟨h1.snoc (fun t ht => by have := h2 t ht; simp only; omega) ⟨h3, by simp only; omega⟩, fun f hf => ?_⟩
        rcases List.mem_append.mp hf with hf | hf
        · have := h2 f hf; omega
        · rw [List.mem_singleton] at hf; subst hf; simp only; omega
      · exact ⟨h1, fun f hf => by have := h2 f hf; omega⟩
    obtain ⟨r1, r2, r3, r4⟩ := holeFold e S (holeStep e q s) s3 st.1 st.2 (by unfold holeStep; simp only; omega)
    refine ⟨r1, r2, r3, fun p => ?_⟩
    rw [List.foldl_cons, r4, List.any_cons]
    have far : p < s.2 → S.any (isIn p) = false := fun hp => by
      rw [Bool.eq_false_iff]; intro hh
      obtain ⟨t, ht, h⟩ := any_in.mp hh
      have := s1 t ht; omega
    unfold holeStep
    simp only
    by_cases hp : p < s.2
    · have hf := far hp
      rw [hf]
      simp only [Bool.or_false, Bool.not_false, Bool.and_true]
      split
      · rw [List.any_append]
        cases q.1.any (isIn p)
        · simp only [Bool.false_or, List.any_cons, List.any_nil, Bool.or_false]
          rw [Bool.eq_iff_iff]; simp [isIn]; omega
        · simp
      · cases q.1.any (isIn p)
        · simp only [Bool.false_or]
          rw [Bool.eq_iff_iff]; simp [isIn]; omega
        · simp
    · cases S.any (isIn p)
      · split
        · rw [List.any_append]
          cases q.1.any (isIn p)
          · simp only [Bool.false_or, List.any_cons, List.any_nil, Bool.or_false, Bool.not_false, Bool.and_true]
            rw [Bool.eq_iff_iff]; simp [isIn]; omega
          · simp
        · cases q.1.any (isIn p)
          · simp only [Bool.false_or, Bool.or_false, Bool.not_false, Bool.and_true]
            rw [Bool.eq_iff_iff]; simp [isIn]; omega
          · simp
      · split
        · rw [List.any_append]
          cases q.1.any (isIn p)
          · simp only [Bool.false_or, List.any_cons, List.any_nil, Bool.or_false, Bool.or_true, Bool.not_true, Bool.and_false]
            rw [Bool.eq_false_iff]; simp [isIn]; omega
          · simp
        · simp
theorem holeR_ok {R : List Sp} {b e : Int} (h : RowOk R) (h0 : 0 ≤ b) : RowOk (holeR R b e) ∧ ∀ p, (holeR R b e).any (isIn p) = (isIn p (b, e) && !R.any (isIn p)) := by
  obtain ⟨r1, r2, r3, r4⟩ := holeFold e R ([], b) h .nil (fun _ h => (nomatch h)) h0
  unfold holeR
  split
  · rename_i hc
    refine ⟨r1.snoc (fun t ht => by have := r2 t ht; simp only; omega) ⟨r3, hc⟩, fun p => ?_⟩
    have := r4 p
    rw [List.any_append]
    simpa using this
  · rename_i hc
    refine ⟨r1, fun p => ?_⟩
    have := r4 p
    have z : isIn p ((R.foldl (holeStep e) ([], b)).2, e) = false := by rw [Bool.eq_false_iff]; simp [isIn]; omega
    rw [z] at this
    simpa using this
theorem holeFold_len (e : Int) : ∀ (S : List Sp) (q : List Sp × Int), (S.foldl (holeStep e) q).1.length ≤ q.1.length + S.length
  | [], q => by simp
  | s :: S, q => by
    have := holeFold_len e S (holeStep e q s)
    have h : (holeStep e q s).1.length ≤ q.1.length + 1 := by unfold holeStep; simp only; split <;> simp
    rw [List.foldl_cons, List.length_cons]; omega
theorem holeR_len {R : List Sp} {b e : Int} : (holeR R b e).length ≤ R.length + 1 := by
  have := holeFold_len e R ([], b)
  unfold holeR; split <;> simp at * <;> omega
/-! cuts -/
def cutR (R : List Sp) (b : Int) : List Sp := (R.filter fun s => decide (b < s.2)).map fun s => (max b s.1, s.2)
theorem cutR_ok {R : List Sp} {b : Int} (h : RowOk R) (h0 : 0 ≤ b) : RowOk (cutR R b) ∧ ∀ p, (cutR R b).any (isIn p) = (R.any (isIn p) && decide (b ≤ p)) := by
  constructor
  · refine ⟨?_, fun s hs => ?_⟩
    · unfold cutR
      rw [List.pairwise_map]
      refine (h.pw.sublist (List.filter_sublist ..)).imp_of_mem fun {x y} hx hy hxy => ?_
      have hy' : b < y.2 := by have := (List.mem_filter.mp hy).2; simpa using this
      have hx' : b < x.2 := by have := (List.mem_filter.mp hx).2; simpa using this
      simp only; omega
    · obtain ⟨t, ht, rfl⟩ := List.mem_map.mp hs
      have ht2 := List.mem_filter.mp ht
      have := h.ok t ht2.1
      have : b < t.2 := by simpa using ht2.2
      simp only; omega
  · intro p
    induction R with
    | nil => rfl
    | cons s R ih =>
      have ih := ih (RowOk.cons.mp h).2.2
      unfold cutR at *
      rw [List.filter_cons, List.any_cons]
      split
      · rename_i hs
        have hs : b < s.2 := by simpa using hs
        rw [List.map_cons, List.any_cons, ih]
        have : isIn p (max b s.1, s.2) = (isIn p s && decide (b ≤ p)) := by
          rw [Bool.eq_iff_iff]; simp [isIn]; omega
        rw [this]
        cases isIn p s <;> cases decide (b ≤ p) <;> simp
      · rename_i hs
        have hs : s.2 ≤ b := by simpa using hs
        rw [ih]
        have : (isIn p s && decide (b ≤ p)) = false := by rw [Bool.eq_false_iff]; simp [isIn]; omega
        cases hh : isIn p s <;> simp [hh] at this ⊢
        intro hb; omega
theorem cutR_len {R : List Sp} {b : Int} : (cutR R b).length ≤ R.length := by simp [cutR]; exact List.length_filter_le ..
end DL
/-! Pf: spans added, holes, cuts: the walk. -/
namespace DL
open PySem L2
def P.look : FM := fun ds st => match ds with
  | [.int b, .int e] => if e < b ∨ b < 0 then .exn .NoSpan st else .ok .non st
  | _ => .bad
def P.added : FM := fun ds st => match ds with
  | [d, .int b, .int e] => match rowOf d with
    | some R => if R.length ≤ 10000 then (if e < b ∨ b < 0 then .exn .NoSpan st else .ok (rowL (addR R b e)) st) else .bad
    | none => .bad
  | _ => .bad
def P.holes : FM := fun ds st => match ds with
  | [d, .int b, .int e] => match rowOf d with
    | some R => if R.length ≤ 10000 then (if e < b ∨ b < 0 then .exn .NoSpan st else .ok (rowL (holeR R b e)) st) else .bad
    | none => .bad
  | _ => .bad
def P.cut : FM := fun ds st => match ds with
  | [d, .int b] => match rowOf d with
    | some R => if R.length ≤ 10000 then (if b < 0 then .exn .NoSpan st else .ok (rowL (cutR R b)) st) else .bad
    | none => .bad
  | _ => .bad
open Classical in
noncomputable def P.goodRow : FM := fun ds st => match ds with
  | [d] => match rowOf d with
    | some R => if RowOk R ∧ R.length ≤ 10000 then .ok (.bl true) st else .bad
    | none => .bad
  | _ => .bad
def endsL (R : List Sp) : List Int := 0 :: R.flatMap fun s => [s.1, s.2]
def xsOf (ns : List Int) (k : Nat) : Int := (streamL (cell0 ns 13 + 5 * cell0 ns 1) 6).getD k 0
def endAt (R : List Sp) (x : Int) : Int := (endsL R).getD (x % (endsL R).length).toNat 0
def strB (ns : List Int) (R : List Sp) : Int := if xsOf ns 4 % 4 = 0 then xsOf ns 0 % ((endsL R).getLastD 0 + 9) else endAt R (xsOf ns 0) + xsOf ns 1 % 3 - 1
def strE (ns : List Int) (R : List Sp) : Int := if xsOf ns 4 % 4 = 0 then strB ns R + (if xsOf ns 4 / 4 % 2 = 0 then xsOf ns 2 % 5 else xsOf ns 2 % 50000) else endAt R (xsOf ns 2) + xsOf ns 3 % 3 - 1
open Classical in
noncomputable def P.stretch : FM := fun ds st => match ds with
  | [.ref n, d] => match (st[n]?.bind Ob.seq).bind intsD, rowOf d with
    | some l, some R => if RowOk R ∧ R.length ≤ 1000 ∧ l.length ≤ 1000 then .ok (spD (strB l R, strE l R)) st else .bad
    | _, _ => .bad
  | _ => .bad
/-! mirrors -/
def P.b_look : SM := (sIf (tOrD (tB (e2 oGt (eVar 0) (eVar 1))) (tB (e2 oLt (eVar 0) (eC (.int 0)))))
    (sRaise .NoSpan)
    sSkip)
def P.m_look : FM := fnM 2 2 P.b_look

def P.b_added : SM := (sSeq (sDo (eCall DL.P.look (eCons (eVar 1) (eCons (eVar 2) eNil))))
    (sSeq (sIf (tB (e2 oEq (eVar 1) (eVar 2)))
    (sRet (e1 oTuple (eCons (eVar 0) eNil)))
    sSkip)
    (sSeq (sSet 3 (eLst eNil))
    (sSeq (sSet 4 (eLst eNil))
    (sSeq (sFor (iSeq (eVar 0)) (tName 5)
    (sIf (tB (e2 oLt (e2 oIx (eVar 5) (eC (.int 1))) (eVar 1)))
    (sDo (eBM "list" mAppend (eVar 3) (eCons (eVar 5) eNil)))
    (sIf (tB (e2 oLt (eVar 2) (e2 oIx (eVar 5) (eC (.int 0)))))
    (sDo (eBM "list" mAppend (eVar 4) (eCons (eVar 5) eNil)))
    (sSeq (sSet 1 (e1 oMin (eCons (eVar 1) (eCons (e2 oIx (eVar 5) (eC (.int 0))) eNil))))
    (sSet 2 (e1 oMax (eCons (eVar 2) (eCons (e2 oIx (eVar 5) (eC (.int 1))) eNil))))))))
    (sRet (e1 oTuple (eCons (e2 oAdd (e2 oAdd (eVar 3) (eLst (eCons (eTup (eCons (eVar 1) (eCons (eVar 2) eNil))) eNil))) (eVar 4)) eNil))))))))
def P.m_added : FM := fnM 3 6 P.b_added

def P.b_goodRow : SM := (sSeq (sIf (tNotD (tB (eIsi "tuple" (eVar 0))))
    (sRet (eC (.bl false)))
    sSkip)
    (sSeq (sFor (iRng1D (e1 oLen (eCons (eVar 0) eNil))) (tName 1)
    (sSeq (sIf (tOrD (tNotD (tB (eIsi "tuple" (e2 oIx (eVar 0) (eVar 1))))) (tB (e2 oNe (e1 oLen (eCons (e2 oIx (eVar 0) (eVar 1)) eNil)) (eC (.int 2)))))
    (sRet (eC (.bl false)))
    sSkip)
    (sSeq (sIf (tOrD (tNotD (tTru (eCall DL.P.whole (eCons (e2 oIx (e2 oIx (eVar 0) (eVar 1)) (eC (.int 0))) eNil)))) (tOrD (tNotD (tTru (eCall DL.P.whole (eCons (e2 oIx (e2 oIx (eVar 0) (eVar 1)) (eC (.int 1))) eNil)))) (tOrD (tB (e2 oGe (e2 oIx (e2 oIx (eVar 0) (eVar 1)) (eC (.int 0))) (e2 oIx (e2 oIx (eVar 0) (eVar 1)) (eC (.int 1))))) (tB (e2 oLt (e2 oIx (e2 oIx (eVar 0) (eVar 1)) (eC (.int 0))) (eC (.int 0)))))))
    (sRet (eC (.bl false)))
    sSkip)
    (sIf (tAndD (tB (e2 oGt (eVar 1) (eC (.int 0)))) (tB (e2 oLe (e2 oIx (e2 oIx (eVar 0) (eVar 1)) (eC (.int 0))) (e2 oIx (e2 oIx (eVar 0) (e2 oSub (eVar 1) (eC (.int 1)))) (eC (.int 1))))))
    (sRet (eC (.bl false)))
    sSkip))))
    (sRet (eC (.bl true)))))
def P.m_goodRow : FM := fnM 1 2 P.b_goodRow

def P.b_stretch : SM := (sSeq (sSet 2 (eCall DL.P.stream (eCons (e2 oAdd (eCall DL.P.cellAt0 (eCons (eVar 0) (eCons (eC (.int 13)) eNil))) (e2 oMul (eC (.int 5)) (eCall DL.P.cellAt0 (eCons (eVar 0) (eCons (eC (.int 1)) eNil))))) (eCons (eC (.int 6)) eNil))))
    (sSeq (sSet 3 (eLst (eCons (eC (.int 0)) eNil)))
    (sSeq (sFor (iSeq (eVar 1)) (tName 4)
    (sSet 3 (e2 oAdd (eVar 3) (eLst (eCons (e2 oIx (eVar 4) (eC (.int 0))) (eCons (e2 oIx (eVar 4) (eC (.int 1))) eNil))))))
    (sSeq (sSet 5 (e2 oSub (e2 oAdd (e2 oIx (eVar 3) (e2 oMod (e2 oIx (eVar 2) (eC (.int 0))) (e1 oLen (eCons (eVar 3) eNil)))) (e2 oMod (e2 oIx (eVar 2) (eC (.int 1))) (eC (.int 3)))) (eC (.int 1))))
    (sSeq (sSet 6 (e2 oSub (e2 oAdd (e2 oIx (eVar 3) (e2 oMod (e2 oIx (eVar 2) (eC (.int 2))) (e1 oLen (eCons (eVar 3) eNil)))) (e2 oMod (e2 oIx (eVar 2) (eC (.int 3))) (eC (.int 3)))) (eC (.int 1))))
    (sSeq (sIf (tB (e2 oEq (e2 oMod (e2 oIx (eVar 2) (eC (.int 4))) (eC (.int 4))) (eC (.int 0))))
    (sSeq (sSet 5 (e2 oMod (e2 oIx (eVar 2) (eC (.int 0))) (e2 oAdd (e2 oIx (eVar 3) (e1 oNeg (eC (.int 1)))) (eC (.int 9)))))
    (sSet 6 (e2 oAdd (eVar 5) (e2 oIx (eLst (eCons (e2 oMod (e2 oIx (eVar 2) (eC (.int 2))) (eC (.int 5))) (eCons (e2 oMod (e2 oIx (eVar 2) (eC (.int 2))) (eC (.int 50000))) eNil))) (e2 oMod (e2 oDiv (e2 oIx (eVar 2) (eC (.int 4))) (eC (.int 4))) (eC (.int 2)))))))
    sSkip)
    (sRet (eTup (eCons (eVar 5) (eCons (eVar 6) eNil))))))))))
def P.m_stretch : FM := fnM 2 7 P.b_stretch


def P.b_holes : SM := (sSeq (sDo (eCall DL.P.look (eCons (eVar 1) (eCons (eVar 2) eNil))))
    (sSeq (sSet 3 (eLst eNil))
    (sSeq (sFor (iSeq (eVar 0)) (tName 4)
    (sSeq (sIf (tAndD (tB (e2 oLt (eVar 1) (e2 oIx (eVar 4) (eC (.int 0))))) (tB (e2 oLt (eVar 1) (eVar 2))))
    (sDo (eBM "list" mAppend (eVar 3) (eCons (eTup (eCons (eVar 1) (eCons (e1 oMin (eCons (eVar 2) (eCons (e2 oIx (eVar 4) (eC (.int 0))) eNil))) eNil))) eNil)))
    sSkip)
    (sSet 1 (e1 oMax (eCons (eVar 1) (eCons (e2 oIx (eVar 4) (eC (.int 1))) eNil))))))
    (sSeq (sIf (tB (e2 oLt (eVar 1) (eVar 2)))
    (sDo (eBM "list" mAppend (eVar 3) (eCons (eTup (eCons (eVar 1) (eCons (eVar 2) eNil))) eNil)))
    sSkip)
    (sRet (e1 oTuple (eCons (eVar 3) eNil)))))))
def P.m_holes : FM := fnM 3 5 P.b_holes

def P.b_cut : SM := (sSeq (sDo (eCall DL.P.look (eCons (eVar 1) (eCons (eVar 1) eNil))))
    (sRet (e1 oTuple (eCons (eComp (iSeq (eVar 0)) (tName 2) (tB (e2 oLt (eVar 1) (e2 oIx (eVar 2) (eC (.int 1))))) (eTup (eCons (e1 oMax (eCons (eVar 1) (eCons (e2 oIx (eVar 2) (eC (.int 0))) eNil))) (eCons (e2 oIx (eVar 2) (eC (.int 1))) eNil))) [2]) eNil))))
def P.m_cut : FM := fnM 2 3 P.b_cut


/-! proofs -/
theorem P.look_eq {st : Store} {b e : Int} : P.look [.int b, .int e] st = if e < b ∨ b < 0 then .exn .NoSpan st else .ok .non st := rfl
theorem P.tell_look : ∀ (st : Store) (ds : List D), st.Ok → D.ltAll st.length ds = true → Tell st (P.look ds st) (P.m_look ds st) := by
  intro st ds ok lt
  unfold P.look
  split
  · rename_i b e
    split
    · rename_i h
      refine tell_exn ok ⟨[], ?_⟩
      rw [P.m_look]; by_cases h1 : e < b <;> by_cases h2 : b < 0 <;> simp [P.b_look, h1, h2] <;> omega
    · rename_i h
      refine tell_eq ok rfl ?_
      rw [P.m_look]; by_cases h1 : e < b <;> by_cases h2 : b < 0 <;> simp [P.b_look, h1, h2] <;> omega
  · exact .bad
theorem P.tell_added : ∀ (st : Store) (ds : List D), st.Ok → D.ltAll st.length ds = true → Tell st (P.added ds st) (P.m_added ds st) := by
  intro st ds ok lt
  unfold P.added
  split
  · rename_i d b e
    split
    · rename_i R hR
      have := rowOf_eq hR
      subst this
      split
      · rename_i hl
        split
        · rename_i h
          refine tell_exn ok ⟨[], ?_⟩
          rw [P.m_added]; simp [P.b_added, P.look_eq, h]
        · rename_i h
          refine tell_pure ok (nrs_row _) ?_
          rw [P.m_added]; simp [P.b_added, P.look_eq, h]
          by_cases hbe : b = e
          · subst hbe; simp [addR]
          · simp [hbe]
            generalize hr : forK _ _ _ _ _ = r
            obtain ⟨ee, s', rfl, ⟨x, rfl⟩, rfl⟩ := forK_inv hr R spD (fun pre ee s => (∃ x, ee = [some (rowL R), some (.int (pre.foldl addStep ⟨[], b, e, []⟩).b), some (.int (pre.foldl addStep ⟨[], b, e, []⟩).e), some (.ref st.length), some (.ref (st.length + 1)), x]) ∧ s = st ++ [.lst ((pre.foldl addStep ⟨[], b, e, []⟩).A.map spD), .lst ((pre.foldl addStep ⟨[], b, e, []⟩).B.map spD)])
              (fun pre e s ⟨_, b⟩ => rfl) (by simp [fuel]; omega) ⟨⟨none, rfl⟩, rfl⟩ (fun pre s post ee s' hL ⟨⟨x, ha⟩, hb⟩ => by
                subst ha; subst hb
                have hlen := addFold_len pre ⟨[], b, e, []⟩
                have hpl : pre.length < 10000 := by have := congrArg List.length hL; simp at this; omega
                simp only [List.foldl_append, List.foldl_cons, List.foldl_nil]
                generalize pre.foldl addStep ⟨[], b, e, []⟩ = q at *
                simp at hlen
                have l1 : q.A.length < sizeLine := hL5' (by omega)
                have l2 : q.B.length < sizeLine := hL5' (by omega)
                by_cases c1 : s.2 < q.b
                · simp [atI, ixN, c1, l1, addStep]
                · by_cases c2 : q.e < s.1
                  · simp [atI, ixN, c1, c2, l2, addStep]
                  · simp [atI, ixN, c1, c2, addStep, oMin, oMax])
            have hlen := addFold_len R ⟨[], b, e, []⟩
            have hq : addR R b e = (R.foldl addStep ⟨[], b, e, []⟩).row := by unfold addR; rw [if_neg hbe]
            rw [hq]
            generalize R.foldl addStep ⟨[], b, e, []⟩ = q at *
            simp at hlen
            have l1 : q.A.length + 1 ≤ sizeLine := hL5 (by omega)
            have l2 : q.A.length + 1 + q.B.length ≤ sizeLine := hL5 (by omega)
            simp [l1, l2, AddSt.row]
      · exact .bad
    · exact .bad
  · exact .bad
theorem P.tell_holes : ∀ (st : Store) (ds : List D), st.Ok → D.ltAll st.length ds = true → Tell st (P.holes ds st) (P.m_holes ds st) := by
  intro st ds ok lt
  unfold P.holes
  split
  · rename_i d b e
    split
    · rename_i R hR
      have := rowOf_eq hR
      subst this
      split
      · rename_i hl
        split
        · rename_i h
          refine tell_exn ok ⟨[], ?_⟩
          rw [P.m_holes]; simp [P.b_holes, P.look_eq, h]
        · rename_i h
          refine tell_pure ok (nrs_row _) ?_
          rw [P.m_holes]; simp [P.b_holes, P.look_eq, h]
          generalize hr : forK _ _ _ _ _ = r
          obtain ⟨ee, s', rfl, ⟨x, rfl⟩, rfl⟩ := forK_inv hr R spD (fun pre ee s => (∃ x, ee = [some (rowL R), some (.int (pre.foldl (holeStep e) ([], b)).2), some (.int e), some (.ref st.length), x]) ∧ s = st ++ [.lst ((pre.foldl (holeStep e) ([], b)).1.map spD)])
            (fun pre e s ⟨_, b⟩ => rfl) (by simp [fuel]; omega) ⟨⟨none, rfl⟩, rfl⟩ (fun pre s post ee s' hL ⟨⟨x, ha⟩, hb⟩ => by
              subst ha; subst hb
              have hlen := holeFold_len e pre ([], b)
              have hpl : pre.length < 10000 := by have := congrArg List.length hL; simp at this; omega
              simp only [List.foldl_append, List.foldl_cons, List.foldl_nil]
              generalize pre.foldl (holeStep e) ([], b) = q at *
              simp at hlen
              have l1 : q.1.length < sizeLine := hL5' (by omega)
              by_cases c1 : q.2 < s.1 <;> by_cases c2 : q.2 < e <;> simp [atI, ixN, c1, c2, l1, holeStep, oMin, oMax])
          have hlen := holeFold_len e R ([], b)
          unfold holeR
          generalize R.foldl (holeStep e) ([], b) = q at *
          simp at hlen
          have l1 : q.1.length < sizeLine := hL5' (by omega)
          by_cases c1 : q.2 < e <;> simp [c1, l1]
      · exact .bad
    · exact .bad
  · exact .bad
theorem P.tell_cut : ∀ (st : Store) (ds : List D), st.Ok → D.ltAll st.length ds = true → Tell st (P.cut ds st) (P.m_cut ds st) := by
  intro st ds ok lt
  unfold P.cut
  split
  · rename_i d b
    split
    · rename_i R hR
      have := rowOf_eq hR
      subst this
      split
      · rename_i hl
        split
        · rename_i h
          refine tell_exn ok ⟨[], ?_⟩
          rw [P.m_cut]; simp [P.b_cut, P.look_eq, h]
        · rename_i h
          refine tell_pure ok (nrs_row _) ?_
          rw [P.m_cut]; simp [P.b_cut, P.look_eq, h]
          generalize hr : compK _ _ _ _ _ _ _ = r
          obtain rfl := compK_r hr R spD (fun s => decide (b < s.2)) (fun s => spD (max b s.1, s.2)) rfl (hL5 (by omega)) (fun s _ a => by simp [wipeD, atI, ixN, oMax])
          simp [cutR]
      · exact .bad
    · exact .bad
  · exact .bad
end DL
/-! Pg: a row looked at; a stretch drawn. -/
namespace DL
open PySem L2
theorem P.whole_int {st : Store} {i : Int} : P.whole [.int i] st = .ok (.bl true) st := rfl
theorem P.tell_goodRow : ∀ (st : Store) (ds : List D), st.Ok → D.ltAll st.length ds = true → Tell st (P.goodRow ds st) (P.m_goodRow ds st) := by
  intro st ds ok lt
  unfold P.goodRow
  split
  · rename_i d
    split
    · rename_i R hR
      have := rowOf_eq hR
      subst this
      split
      · rename_i hh
        obtain ⟨hok, hl⟩ := hh
        refine tell_eq ok rfl ?_
        rw [P.m_goodRow]; simp [P.b_goodRow]
        rw [if_pos (by omega)]
        simp [rng_map]
        generalize hr : forK _ _ _ _ _ = r
        obtain ⟨e, s', rfl, ⟨x, rfl⟩, rfl⟩ := forK_inv hr (List.range R.length) (fun (i : Nat) => .int (i : Int)) (fun pre e s => (∃ x, e = [some (rowL R), x]) ∧ s = st)
          (fun pre e s ⟨_, b⟩ => rfl) (by simp [fuel]; omega) ⟨⟨none, rfl⟩, rfl⟩ (fun pre x post e s hL ⟨⟨y, a⟩, b⟩ => by
            subst a; subst b
            have hx := rng_mid hL
            have hx1 := hx.1
            replace hx := hx.2
            subst hx1
            have hk := hok.ok _ (List.getElem_mem hx)
            have e1 : atI (R.map spD) (pre.length : Int) = some (spD R[pre.length]) := by rw [atI_pos (by omega)]; simp [hx]
            have q0 : ∀ a b : Int, atI [D.int a, .int b] 0 = some (.int a) := fun _ _ => rfl
            have q1 : ∀ a b : Int, atI [D.int a, .int b] 1 = some (.int b) := fun _ _ => rfl
            by_cases h0 : 0 < pre.length
            · have e2 : atI (R.map spD) ((pre.length : Int) - 1) = some (spD R[pre.length - 1]) := by
                rw [atI_pos (by omega)]
                have : ((pre.length : Int) - 1).toNat = pre.length - 1 := by omega
                rw [this, List.getElem?_map, List.getElem?_eq_getElem (by omega)]; rfl
              have hp : R[pre.length - 1].2 < R[pre.length].1 := List.pairwise_iff_getElem.mp hok.pw (pre.length - 1) pre.length (by omega) hx (by omega)
              generalize R[pre.length] = s at *
              generalize R[pre.length - 1] = s' at *
              simp [e1, e2, q0, q1, P.whole_int, truD, show ¬ (s.2 ≤ s.1) by omega, show ¬ (s.1 < 0) by omega, h0, show ¬ (s.1 ≤ s'.2) by omega, -List.map_map]
            · generalize R[pre.length] = s at *
              simp [h0, e1, P.whole_int, truD, q0, q1, show ¬ (s.2 ≤ s.1) by omega, show ¬ (s.1 < 0) by omega, -List.map_map])
        simp
      · exact .bad
    · exact .bad
  · exact .bad
theorem stream6 (c : Int) : ∃ a b x y z w, streamL c 6 = [a, b, x, y, z, w] := by
  have h1 := streamL_len c 6
  match h : streamL c 6, h1 with
  | [a, b, x, y, z, w], _ => exact ⟨a, b, x, y, z, w, rfl⟩
theorem ends_len (R : List Sp) : (endsL R).length = 2 * R.length + 1 := by
  unfold endsL
  rw [List.length_cons]
  congr 1
  induction R with
  | nil => rfl
  | cons a l ih => rw [List.flatMap_cons, List.length_append, ih]; simp; omega
theorem ends_last {R : List Sp} (h : RowOk R) : 0 ≤ (endsL R).getLastD 0 := by
  have : ∀ x ∈ endsL R, 0 ≤ x := fun x hx => by
    unfold endsL at hx
    rcases List.mem_cons.mp hx with rfl | hx
    · omega
    · obtain ⟨s, hs, hx⟩ := List.mem_flatMap.mp hx
      have := h.ok s hs
      simp at hx; omega
  have hne : endsL R ≠ [] := by simp [endsL]
  rw [List.getLastD_eq_getLast?, List.getLast?_eq_some_getLast hne]
  exact this _ (List.getLast_mem hne)
theorem ends_at (R : List Sp) (x : Int) : atI ((endsL R).map D.int) (x % (endsL R).length) = some (.int (endAt R x)) := by
  have hp : (0 : Int) < (endsL R).length := by rw [ends_len]; omega
  have h0 : 0 ≤ x % (endsL R).length := Int.emod_nonneg _ (by omega)
  have h1 : x % (endsL R).length < (endsL R).length := Int.emod_lt_of_pos _ hp
  have h2 : (x % (endsL R).length).toNat < (endsL R).length := by omega
  rw [atI_pos h0]
  unfold endAt
  rw [List.getD_eq_getElem?_getD, List.getElem?_map, List.getElem?_eq_getElem h2]; rfl
theorem ends_at1 (R : List Sp) : atI ((endsL R).map D.int) (-1) = some (.int ((endsL R).getLastD 0)) := by
  have hp : 0 < (endsL R).length := by rw [ends_len]; omega
  have hne : endsL R ≠ [] := by simp [endsL]
  unfold atI ixN
  rw [if_neg (by omega), if_pos (by simp; omega)]
  have : ((-1 : Int) + ((endsL R).map D.int).length).toNat = (endsL R).length - 1 := by simp; omega
  simp only [Option.bind_some]
  rw [this, List.getElem?_map, List.getElem?_eq_getElem (by omega), List.getLastD_eq_getLast?, List.getLast?_eq_some_getLast hne, List.getLast_eq_getElem]; rfl
theorem P.tell_stretch : ∀ (st : Store) (ds : List D), st.Ok → D.ltAll st.length ds = true → Tell st (P.stretch ds st) (P.m_stretch ds st) := by
  intro st ds ok lt
  unfold P.stretch
  split
  · rename_i n d
    split
    · rename_i l R hl hR
      have := rowOf_eq hR
      subst this
      split
      · rename_i hh
        obtain ⟨hok, hRl, h2⟩ := hh
        obtain ⟨L, hl, hi⟩ := Option.bind_eq_some_iff.mp hl
        have hi := intsD_eq hi
        subst hi
        obtain ⟨o, ho, hl⟩ := Option.bind_eq_some_iff.mp hl
        have hn : n < st.length := lt_of_get ho
        refine tell_pure ok rfl ?_
        rw [P.m_stretch]; simp [P.b_stretch, P.cellAt0_eq ho hl h2, P.stream_eq]
        have q0 : xsOf l 0 = (streamL (cell0 l 13 + 5 * cell0 l 1) 6).getD 0 0 := rfl
        have q1 : xsOf l 1 = (streamL (cell0 l 13 + 5 * cell0 l 1) 6).getD 1 0 := rfl
        have q2 : xsOf l 2 = (streamL (cell0 l 13 + 5 * cell0 l 1) 6).getD 2 0 := rfl
        have q3 : xsOf l 3 = (streamL (cell0 l 13 + 5 * cell0 l 1) 6).getD 3 0 := rfl
        have q4 : xsOf l 4 = (streamL (cell0 l 13 + 5 * cell0 l 1) 6).getD 4 0 := rfl
        obtain ⟨x0, x1, x2, x3, x4, x5, hx⟩ := stream6 (cell0 l 13 + 5 * cell0 l 1)
        rw [hx] at q0 q1 q2 q3 q4 ⊢
        simp at q0 q1 q2 q3 q4
        have ee1 : strB l R = if x4 % 4 = 0 then x0 % ((endsL R).getLastD 0 + 9) else endAt R x0 + x1 % 3 - 1 := by unfold strB; rw [q0, q1, q4]
        have ee2 : strE l R = if x4 % 4 = 0 then strB l R + (if x4 / 4 % 2 = 0 then x2 % 5 else x2 % 50000) else endAt R x2 + x3 % 3 - 1 := by unfold strE; rw [q2, q3, q4]
        generalize hr : forK _ _ _ _ _ = r
        obtain ⟨e, s', rfl, x, g, k, rfl, rfl, hg⟩ := forK_inv hr R spD (fun pre e s => ∃ x g k, e = [some (.ref n), some (rowL R), some (.ref st.length), some (.ref (st.length + (k + 1))), x, none, none] ∧ s = st ++ .lst [.int x0, .int x1, .int x2, .int x3, .int x4, .int x5] :: g ∧ g[k]? = some (.lst ((endsL pre).map .int)))
          (fun pre e s _ => rfl) (by simp [fuel]; omega) ⟨none, [.lst [.int 0]], 0, rfl, by simp, rfl⟩ (fun pre c post e s hL ⟨x, g, k, ha, hb, hg⟩ => by
            subst ha; subst hb
            have hpl : pre.length < 1000 := by have := congrArg List.length hL; simp at this; omega
            have hlen : (endsL pre).length + 1 + 1 ≤ sizeLine := hL5 (by rw [ends_len]; omega)
            simp [atI, ixN, get_old hg, hlen]
            exact ⟨_, _, g.length + 1, ⟨by omega, rfl⟩, rfl, by simp [endsL]⟩)
        have hpos : (0 : Int) < (endsL R).length := by rw [ends_len]; omega
        have hpos' : 0 < (endsL R).length := by omega
        have hlast := ends_last hok
        have hlast' : 0 < (endsL R).getLastD 0 + 9 := by omega
        have a0 := ends_at R x0
        have a2 := ends_at R x2
        have a9 := ends_at1 R
        generalize endsL R = E at *
        have f0 : atI [D.int x0, .int x1, .int x2, .int x3, .int x4, .int x5] 0 = some (.int x0) := rfl
        have f1 : atI [D.int x0, .int x1, .int x2, .int x3, .int x4, .int x5] 1 = some (.int x1) := rfl
        have f2 : atI [D.int x0, .int x1, .int x2, .int x3, .int x4, .int x5] 2 = some (.int x2) := rfl
        have f3 : atI [D.int x0, .int x1, .int x2, .int x3, .int x4, .int x5] 3 = some (.int x3) := rfl
        have f4 : atI [D.int x0, .int x1, .int x2, .int x3, .int x4, .int x5] 4 = some (.int x4) := rfl
        generalize E.getLastD 0 = z at *
        by_cases c4 : x4 % 4 = 0
        · have : x4 / 4 % 2 = 0 ∨ x4 / 4 % 2 = 1 := by omega
          rcases this with c5 | c5
          · have g1 : atI [D.int (x2 % 5), .int (x2 % 50000)] 0 = some (.int (x2 % 5)) := rfl
            simp [hg, f0, f1, f2, f3, f4, hpos, hpos', a0, a2, a9, hlast', c4, c5, ee1, ee2, g1]
          · have g1 : atI [D.int (x2 % 5), .int (x2 % 50000)] 1 = some (.int (x2 % 50000)) := rfl
            simp [hg, f0, f1, f2, f3, f4, hpos, hpos', a0, a2, a9, hlast', c4, c5, ee1, ee2, g1]
        · simp [hg, f0, f1, f2, f3, f4, hpos, hpos', a0, a2, a9, c4, ee1, ee2]
      · exact .bad
    · exact .bad
  · exact .bad
theorem P.stretch_eq {st : Store} {n : Nat} {o : Ob} {C : List Int} {R : List Sp} (h : st[n]? = some o) (ho : o.seq = some (C.map .int)) (hl : C.length ≤ 1000) (hR : RowOk R) (h2 : R.length ≤ 1000) : P.stretch [.ref n, rowL R] st = .ok (spD (strB C R, strE C R)) st := by
  simp only [P.stretch, h, Option.bind_some, ho, intsD_ints, rowOf_row, hl, hR, h2, and_self, if_true]
theorem P.added_no {st : Store} {R : List Sp} {b e : Int} (h : e < b ∨ b < 0) (hl : R.length ≤ 10000) : P.added [rowL R, .int b, .int e] st = .exn .NoSpan st := by
  simp only [P.added, rowOf_row, hl, h, if_true]
theorem P.added_eq {st : Store} {R : List Sp} {b e : Int} (h : ¬ e < b) (h2 : ¬ b < 0) (hl : R.length ≤ 10000) : P.added [rowL R, .int b, .int e] st = .ok (rowL (addR R b e)) st := by
  simp only [P.added, rowOf_row, hl, h, h2, if_true, or_self, if_false]
theorem P.holes_no {st : Store} {R : List Sp} {b e : Int} (h : e < b ∨ b < 0) (hl : R.length ≤ 10000) : P.holes [rowL R, .int b, .int e] st = .exn .NoSpan st := by
  simp only [P.holes, rowOf_row, hl, h, if_true]
theorem P.holes_eq {st : Store} {R : List Sp} {b e : Int} (h : ¬ e < b) (h2 : ¬ b < 0) (hl : R.length ≤ 10000) : P.holes [rowL R, .int b, .int e] st = .ok (rowL (holeR R b e)) st := by
  simp only [P.holes, rowOf_row, hl, h, h2, if_true, or_self, if_false]
theorem P.cut_no {st : Store} {R : List Sp} {b : Int} (h : b < 0) (hl : R.length ≤ 10000) : P.cut [rowL R, .int b] st = .exn .NoSpan st := by
  simp only [P.cut, rowOf_row, hl, h, if_true]
theorem P.cut_eq {st : Store} {R : List Sp} {b : Int} (h2 : ¬ b < 0) (hl : R.length ≤ 10000) : P.cut [rowL R, .int b] st = .ok (rowL (cutR R b)) st := by
  simp only [P.cut, rowOf_row, hl, h2, if_true, if_false]
theorem P.good_eq {st : Store} {R : List Sp} (h : RowOk R) (hl : R.length ≤ 10000) : P.goodRow [rowL R] st = .ok (.bl true) st := by
  simp only [P.goodRow, rowOf_row, hl, h, and_self, if_true]
/-- the places near two rows and a stretch -/
theorem P.near_eq {st : Store} {n : Nat} {l : List D} {Rs : List (List Sp)} (h : st[n]? = some (.lst l)) (hm : l.mapM (rowAt st) = some Rs) (h1 : Rs.length ≤ 1000) (h2 : ∀ R ∈ Rs, R.length ≤ 1000) (h3 : (nearL Rs).length ≤ 100000) : P.near [.ref n] st = .ok (.ref st.length) (st ++ [.lst ((nearL Rs).map .int)]) := by
  have h2' : (Rs.all fun R => decide (R.length ≤ 1000)) = true := by simpa using h2
  simp only [P.near, h, Option.bind_some, ob_seq_lst, hm, h1, h2', h3, and_self, if_true]
theorem P.near3 {o : Ob} {R F : List Sp} {b e : Int} (h1 : R.length ≤ 200) (h2 : F.length ≤ 200) : P.near [.ref 2] [o, .lst [spD (b, e)], .lst [rowL R, rowL F, .ref 1]] = .ok (.ref 3) [o, .lst [spD (b, e)], .lst [rowL R, rowL F, .ref 1], .lst ((nearL [R, F, [(b, e)]]).map .int)] := by
  have := P.near_eq (st := [o, .lst [spD (b, e)], .lst [rowL R, rowL F, .ref 1]]) (n := 2) (l := [rowL R, rowL F, .ref 1]) (Rs := [R, F, [(b, e)]]) rfl (by
    have e3 : rowAt [o, .lst [spD (b, e)], .lst [rowL R, rowL F, .ref 1]] (.ref 1) = some [(b, e)] := rfl
    rw [List.mapM_cons, List.mapM_cons, List.mapM_cons, rowAt_row, rowAt_row, e3]; rfl) (by simp) (by
    intro S hS
    simp at hS
    rcases hS with rfl | rfl | rfl <;> first | omega | (simp; done)) (by simp [nearL, -List.length_flatMap, near1_len]; simp [near1]; omega)
  exact this
mutual
theorem eqB_refl : ∀ d : D, d.nr = true → eqB d d = true
  | .non, _ => rfl
  | .bl b, _ => by simp [eqB]
  | .int i, _ => by simp [eqB]
  | .str s, _ => by simp [eqB]
  | .tup l, h => by simp only [D.nr] at h; simp only [eqB]; exact eqBs_refl l h
  | .ref n, h => by simp [D.nr] at h
theorem eqBs_refl : ∀ l : List D, D.nrs l = true → eqBs l l = true
  | [], _ => rfl
  | d :: l, h => by
    simp only [D.nrs, Bool.and_eq_true] at h
    simp only [eqBs, Bool.and_eq_true]
    exact ⟨eqB_refl d h.1, eqBs_refl l h.2⟩
end
theorem val_row (R : List Sp) (k : Nat) : D.vals (k + 1) (R.map spD) = true := by
  induction R with
  | nil => rfl
  | cons a l ih =>
    simp only [List.map_cons, D.vals, ih, Bool.and_true]
    simp [D.val, D.vals]
theorem eqD_row {st : Store} (R : List Sp) : eqD (rowL R) (rowL R) st = some true := by
  have h : D.val 8 (rowL R) = true := by simp only [D.val]; exact val_row R 6
  rw [eqD_val h h, eqB_refl _ (show D.nr (rowL R) = true by simp only [D.nr]; exact nrs_row R)]
end DL
/-! Ph: two lists compared. -/
namespace DL
open PySem L2
theorem eqD_refs {st : Store} {n m : Nat} {a b : List D} (h : st[n]?.bind Ob.seq = some a) (h2 : st[m]?.bind Ob.seq = some b) (ha : D.vals 7 a = true) (hb : D.vals 7 b = true) : eqD (.ref n) (.ref m) st = some (eqBs a b) := by
  obtain ⟨a1, a2, a3⟩ := toPys_val st 7 a ha
  obtain ⟨b1, b2, b3⟩ := toPys_val st 7 b hb
  have e1 : toPy st 8 (.ref n) = some (.list (D.pys a)) := by
    show (seqOf st n).bind (fun l => (l.mapM (toPy st 7)).map PyData.list) = _
    rw [seqOf_at, h, Option.bind_some, a1]; rfl
  have e2 : toPy st 8 (.ref m) = some (.list (D.pys b)) := by
    show (seqOf st m).bind (fun l => (l.mapM (toPy st 7)).map PyData.list) = _
    rw [seqOf_at, h2, Option.bind_some, b1]; rfl
  unfold eqD
  rw [e1, e2]
  show (if SeqAt.shaped (.list (D.pys a)) = true ∧ SeqAt.shaped (.list (D.pys b)) = true then some (PyData.eqv (.list (D.pys a)) (.list (D.pys b))) else none) = _
  rw [if_pos ⟨by unfold SeqAt.shaped; simp [PyData.canLay0, PyData.depth, a2]; omega, by unfold SeqAt.shaped; simp [PyData.canLay0, PyData.depth, b2]; omega⟩, PyData.eqv, eqvs_py a b (nrs_of_val a ha) (nrs_of_val b hb)]
end DL
/-! Pi: turns. -/
namespace DL
open PySem L2
def turnL (l : List Int) (j : Int) : List Int := l.filter (fun i => decide (j < i)) ++ l.filter (fun i => decide (i ≤ j))
def P.in_turn : FM := fun ds st => match ds with
  | [.ref n, .non] => match (st[n]?.bind Ob.seq).bind intsD with
    | some l => if l.length ≤ 1000 then .ok (.ref st.length) (st ++ [.lst (l.map .int)]) else .bad
    | none => .bad
  | [.ref n, .int j] => match (st[n]?.bind Ob.seq).bind intsD with
    | some l => if l.length ≤ 1000 then .ok (.ref st.length) (st ++ [.lst ((turnL l j).map .int)]) else .bad
    | none => .bad
  | _ => .bad
def P.b_in_turn : SM := (sSeq (sIf (tB (e2 oIsN (eVar 1) (eC .non)))
    (sRet (e1 oList (eCons (eVar 0) eNil)))
    sSkip)
    (sSeq (sSet 2 (eComp (iSeq (eVar 0)) (tName 3) (tB (e2 oGt (eVar 3) (eVar 1))) (eVar 3) [3]))
    (sRet (e2 oAdd (eVar 2) (eComp (iSeq (eVar 0)) (tName 3) (tB (e2 oLe (eVar 3) (eVar 1))) (eVar 3) [3])))))
def P.m_in_turn : FM := fnM 2 4 P.b_in_turn


theorem P.tell_in_turn : ∀ (st : Store) (ds : List D), st.Ok → D.ltAll st.length ds = true → Tell st (P.in_turn ds st) (P.m_in_turn ds st) := by
  intro st ds ok lt
  unfold P.in_turn
  split
  · rename_i n
    split
    · rename_i l hl
      split
      · rename_i h2
        obtain ⟨L, hl, hi⟩ := Option.bind_eq_some_iff.mp hl
        have hi := intsD_eq hi
        subst hi
        obtain ⟨o, ho, hl⟩ := Option.bind_eq_some_iff.mp hl
        refine tell_list ok (ltAll_ints _) ⟨[.lst (l.map .int)], 0, ?_, rfl⟩
        rw [P.m_in_turn]; simp [P.b_in_turn, ho, hl]
      · exact .bad
    · exact .bad
  · rename_i n j
    split
    · rename_i l hl
      split
      · rename_i h2
        obtain ⟨L, hl, hi⟩ := Option.bind_eq_some_iff.mp hl
        have hi := intsD_eq hi
        subst hi
        obtain ⟨o, ho, hl⟩ := Option.bind_eq_some_iff.mp hl
        have hn := lt_of_get ho
        refine tell_list ok (ltAll_ints _) ?_
        rw [P.m_in_turn]; simp [P.b_in_turn, ho, hl]
        generalize hr : compK _ _ _ _ _ _ _ = r
        obtain rfl := compK_r hr l .int (fun i => decide (j < i)) .int (by simp [ho, hl]) (hL1000 h2) (fun i _ a => by simp [wipeD])
        simp [getL hn, ho, hl]
        generalize hr : compK _ _ _ _ _ _ _ = r
        obtain rfl := compK_r hr l .int (fun i => decide (i ≤ j)) .int (by simp [getL hn, ho, hl]) (hL1000 h2) (fun i _ a => by simp [wipeD])
        have l1 : (l.filter (fun i => decide (j < i))).length + (l.filter (fun i => decide (i ≤ j))).length ≤ sizeLine := hL5 (by
          have := List.length_filter_le (fun i => decide (j < i)) l
          have := List.length_filter_le (fun i => decide (i ≤ j)) l
          omega)
        simp [l1]
        exact ⟨_, 2, ⟨rfl, rfl⟩, by simp [turnL]⟩
      · exact .bad
    · exact .bad
  · exact .bad
end DL
/-! Pj: givers: begun, written to, ended. -/
namespace DL
open PySem L2
structure Gv where
  most : Int
  text : List Nat
  sent : Int
  come : Int
  limit : Int
  spans : List Sp
  ended : Bool
  endSent : Bool
  heard : Bool
  fin : Bool
def gvO (g : Gv) : Ob := .ins .Giver [(.most, .int g.most), (.text, .str g.text), (.sent, .int g.sent), (.come, .int g.come), (.limit, .int g.limit), (.spans, rowL g.spans), (.is_ended, .bl g.ended), (.is_end_sent, .bl g.endSent), (.is_heard, .bl g.heard), (.is_done, .bl g.fin)]
def gvOf : Ob → Option Gv
  | .ins .Giver [(.most, .int m), (.text, .str t), (.sent, .int s), (.come, .int c), (.limit, .int l), (.spans, sp), (.is_ended, .bl e), (.is_end_sent, .bl es), (.is_heard, .bl h), (.is_done, .bl d)] => (rowOf sp).map fun R => ⟨m, t, s, c, l, R, e, es, h, d⟩
  | _ => none
@[simp] theorem gvOf_gvO (g : Gv) : gvOf (gvO g) = some g := by
  show (rowOf (rowL g.spans)).map _ = _
  rw [rowOf_row]; rfl
theorem gvOf_eq {o : Ob} {g : Gv} (h : gvOf o = some g) : o = gvO g := by
  unfold gvOf at h
  split at h
  · rename_i sp _ _ _ _
    cases q : rowOf sp with
    | none => rw [q] at h; cases h
    | some R => rw [q] at h; cases h; rw [rowOf_eq q]; rfl
  · cases h
theorem gvO_lt (g : Gv) (n : Nat) : (gvO g).lt n = true := by
  have := D.lt_of_nr (n := n) (rowL g.spans) (by simp only [D.nr]; exact nrs_row _)
  simp [gvO, Ob.lt, D.ltAll, D.lt] at this ⊢
  exact this
@[simp] theorem gvO_cl (g : Gv) : (gvO g).cl = some .Giver := rfl
@[simp] theorem gvO_most (g : Gv) : Ob.fld [.Giver] .most (gvO g) = some (.int g.most) := rfl
@[simp] theorem gvO_text (g : Gv) : Ob.fld [.Giver] .text (gvO g) = some (.str g.text) := rfl
@[simp] theorem gvO_sent (g : Gv) : Ob.fld [.Giver] .sent (gvO g) = some (.int g.sent) := rfl
@[simp] theorem gvO_come (g : Gv) : Ob.fld [.Giver] .come (gvO g) = some (.int g.come) := rfl
@[simp] theorem gvO_limit (g : Gv) : Ob.fld [.Giver] .limit (gvO g) = some (.int g.limit) := rfl
@[simp] theorem gvO_spans (g : Gv) : Ob.fld [.Giver] .spans (gvO g) = some (rowL g.spans) := rfl
@[simp] theorem gvO_ended (g : Gv) : Ob.fld [.Giver] .is_ended (gvO g) = some (.bl g.ended) := rfl
@[simp] theorem gvO_endSent (g : Gv) : Ob.fld [.Giver] .is_end_sent (gvO g) = some (.bl g.endSent) := rfl
@[simp] theorem gvO_heard (g : Gv) : Ob.fld [.Giver] .is_heard (gvO g) = some (.bl g.heard) := rfl
@[simp] theorem gvO_fin (g : Gv) : Ob.fld [.Giver] .is_done (gvO g) = some (.bl g.fin) := rfl
@[simp] theorem gvO_setText (g : Gv) (s : List Nat) : Ob.setf [.Giver] .text (.str s) (gvO g) = some (gvO { g with text := s }) := rfl
@[simp] theorem gvO_setEnded (g : Gv) (b : Bool) : Ob.setf [.Giver] .is_ended (.bl b) (gvO g) = some (gvO { g with ended := b }) := rfl
def newGv (m : Int) : Gv := ⟨m, [], 0, 0, 1, [], false, false, false, false⟩
def P.Giver_init : FM := fun ds st => match ds with
  | [.ref n, .int m] => match st[n]? with
    | some (.ins .Giver []) => .ok .non (st.set n (gvO (newGv m)))
    | _ => .bad
  | _ => .bad
def P.Giver_write : FM := fun ds st => match ds with
  | [.ref n, .str s] => match st[n]?.bind gvOf with
    | some g => if g.text.length ≤ 100000 ∧ s.length ≤ 100000 then (if g.ended = true then .exn .Ended st else if s.length = 0 ∨ 200 < s.length ∨ 2000 < g.text.length + s.length then .exn .TooMuch st else .ok .non (st.set n (gvO { g with text := g.text ++ s }))) else .bad
    | none => .bad
  | _ => .bad
def P.Giver_finish : FM := fun ds st => match ds with
  | [.ref n] => match st[n]?.bind gvOf with
    | some g => if g.ended = true then .exn .Ended st else .ok .non (st.set n (gvO { g with ended := true }))
    | none => .bad
  | _ => .bad
def P.truth : FM := fun ds st => match ds with
  | [.bl a, .bl b] => .ok (.bl (a == b)) st
  | _ => .bad
def textL (c : Int) (k : Nat) : List Nat := (List.range k).map fun (i : Nat) => alphAt (c + 7 * ((i : Int) / (1 + c % 3)))
def P.lawText : FM := fun ds st => match ds with
  | [.int c, .int k] => if 0 ≤ k ∧ k ≤ 1000 then .ok (.str (textL c k.toNat)) st else .bad
  | _ => .bad
def P.b_Giver_init : SM := (sSeq (sFldD [.Giver] .most (eVar 0) (eVar 1))
    (sSeq (sFldD [.Giver] .text (eVar 0) (eC (.str [])))
    (sSeq (sFldD [.Giver] .sent (eVar 0) (eC (.int 0)))
    (sSeq (sFldD [.Giver] .come (eVar 0) (eC (.int 0)))
    (sSeq (sFldD [.Giver] .limit (eVar 0) (eC (.int 1)))
    (sSeq (sFldD [.Giver] .spans (eVar 0) (eTup eNil))
    (sSeq (sFldD [.Giver] .is_ended (eVar 0) (eC (.bl false)))
    (sSeq (sFldD [.Giver] .is_end_sent (eVar 0) (eC (.bl false)))
    (sSeq (sFldD [.Giver] .is_heard (eVar 0) (eC (.bl false)))
    (sFldD [.Giver] .is_done (eVar 0) (eC (.bl false))))))))))))
def P.m_Giver_init : FM := fnM 2 2 P.b_Giver_init

def P.b_Giver_write : SM := (sSeq (sIf (tTru (eFld [.Giver] .is_ended (eVar 0)))
    (sRaise .Ended)
    sSkip)
    (sSeq (sIf (tOrD (tB (e2 oEq (e1 oLen (eCons (eVar 1) eNil)) (eC (.int 0)))) (tOrD (tB (e2 oGt (e1 oLen (eCons (eVar 1) eNil)) (eC (.int 200)))) (tB (e2 oGt (e2 oAdd (e1 oLen (eCons (eFld [.Giver] .text (eVar 0)) eNil)) (e1 oLen (eCons (eVar 1) eNil))) (eC (.int 2000))))))
    (sRaise .TooMuch)
    sSkip)
    (sFldD [.Giver] .text (eVar 0) (e2 oAdd (eFld [.Giver] .text (eVar 0)) (eVar 1)))))
def P.m_Giver_write : FM := fnM 2 2 P.b_Giver_write

def P.b_Giver_finish : SM := (sSeq (sIf (tTru (eFld [.Giver] .is_ended (eVar 0)))
    (sRaise .Ended)
    sSkip)
    (sFldD [.Giver] .is_ended (eVar 0) (eC (.bl true))))
def P.m_Giver_finish : FM := fnM 1 1 P.b_Giver_finish

def P.b_truth : SM := (sRet (eAnd (eIsi "bool" (eVar 0)) (e2 oEq (eVar 0) (eVar 1))))
def P.m_truth : FM := fnM 2 2 P.b_truth

def P.b_lawText : SM := (sSeq (sSet 2 (eC (.str [32, 33, 34, 35, 36, 38, 39, 40, 41, 42, 43, 44, 45, 46, 47, 48, 49, 50, 51, 52, 53, 54, 55, 56, 57, 58, 59, 60, 61, 62, 63, 64, 65, 66, 67, 68, 69, 70, 71, 72, 73, 74, 75, 76, 77, 78, 79, 80, 81, 82, 83, 84, 85, 86, 87, 88, 89, 90, 91, 92, 93, 94, 95, 96])))
    (sSeq (sSet 2 (e2 oAdd (eVar 2) (eC (.str [97, 98, 99, 100, 101, 102, 103, 104, 105, 106, 107, 108, 109, 110, 111, 112, 113, 114, 115, 116, 117, 118, 119, 120, 121, 122, 123, 124, 125, 126]))))
    (sRet (eBM "str" mJoin (eC (.str [])) (eCons (eComp (iRng1D (eVar 1)) (tName 3) tYesD (e2 oIx (eVar 2) (e2 oMod (e2 oAdd (eVar 0) (e2 oMul (eC (.int 7)) (e2 oDiv (eVar 3) (e2 oAdd (eC (.int 1)) (e2 oMod (eVar 0) (eC (.int 3))))))) (eC (.int 94)))) [3]) eNil)))))
def P.m_lawText : FM := fnM 2 4 P.b_lawText


theorem P.tell_truth : ∀ (st : Store) (ds : List D), st.Ok → D.ltAll st.length ds = true → Tell st (P.truth ds st) (P.m_truth ds st) := by
  intro st ds ok lt
  unfold P.truth
  split
  · rename_i a b
    refine tell_eq ok rfl ?_
    rw [P.m_truth]; simp [P.b_truth]
    cases a <;> cases b <;> rfl
  · exact .bad
theorem P.tell_Giver_init : ∀ (st : Store) (ds : List D), st.Ok → D.ltAll st.length ds = true → Tell st (P.Giver_init ds st) (P.m_Giver_init ds st) := by
  intro st ds ok lt
  unfold P.Giver_init
  split
  · rename_i n m
    split
    · rename_i h
      have hn := lt_of_get h
      have : P.m_Giver_init [.ref n, .int m] st = .ok .non (st.set n (gvO (newGv m))) := by
        rw [P.m_Giver_init]; 
        have hs : ∀ o, (st.set n o)[n]? = some o := fun o => List.getElem?_set_self hn
        simp [P.b_Giver_init, h, hs, putD, List.set_set]
        rfl
      rw [this]
      exact .eq (by simp) (Ok.set ok (gvO_lt _ _)) rfl
    · exact .bad
  · exact .bad
theorem P.tell_Giver_write : ∀ (st : Store) (ds : List D), st.Ok → D.ltAll st.length ds = true → Tell st (P.Giver_write ds st) (P.m_Giver_write ds st) := by
  intro st ds ok lt
  unfold P.Giver_write
  split
  · rename_i n s
    split
    · rename_i g hg
      obtain ⟨o, ho, hg⟩ := Option.bind_eq_some_iff.mp hg
      have hg := gvOf_eq hg
      subst hg
      split
      · rename_i hl
        have l1 := hL5 hl.1
        have l2 := hL5 hl.2
        have l3 : g.text.length + s.length ≤ sizeLine := by rw [line_val]; omega
        split
        · rename_i he
          refine tell_exn ok ⟨[], ?_⟩
          rw [P.m_Giver_write]; simp [P.b_Giver_write, ho, he, truD]
        · rename_i he
          have he : g.ended = false := by simpa using he
          split
          · rename_i hc
            refine tell_exn ok ⟨[], ?_⟩
            rw [P.m_Giver_write]; simp [P.b_Giver_write, ho, he, truD, l1, l2]
            by_cases c1 : s = []
            · simp [c1]
            · have c1' : s.length ≠ 0 := by simpa using c1
              by_cases c2 : 200 < s.length
              · simp [c1, show (200 : Int) < s.length by omega]
                try (intro h1 h2; omega)
              · simp [c1, show ¬ (200 : Int) < s.length by omega, show (2000 : Int) < g.text.length + s.length by omega]
                try (intro h1 h2; omega)
          · rename_i hc
            have hc1 : s ≠ [] := by intro h; subst h; simp at hc
            have : P.m_Giver_write [.ref n, .str s] st = .ok .non (st.set n (gvO { g with text := g.text ++ s })) := by
              rw [P.m_Giver_write]; simp [P.b_Giver_write, ho, he, truD, l1, l2, hc1, show ¬ (200 : Int) < s.length by omega, show ¬ (2000 : Int) < g.text.length + s.length by omega, l3]
            rw [this]
            exact .eq (by simp) (Ok.set ok (gvO_lt _ _)) rfl
      · exact .bad
    · exact .bad
  · exact .bad
theorem P.tell_Giver_finish : ∀ (st : Store) (ds : List D), st.Ok → D.ltAll st.length ds = true → Tell st (P.Giver_finish ds st) (P.m_Giver_finish ds st) := by
  intro st ds ok lt
  unfold P.Giver_finish
  split
  · rename_i n
    split
    · rename_i g hg
      obtain ⟨o, ho, hg⟩ := Option.bind_eq_some_iff.mp hg
      have hg := gvOf_eq hg
      subst hg
      split
      · rename_i he
        refine tell_exn ok ⟨[], ?_⟩
        rw [P.m_Giver_finish]; simp [P.b_Giver_finish, ho, he, truD]
      · rename_i he
        have he : g.ended = false := by simpa using he
        have : P.m_Giver_finish [.ref n] st = .ok .non (st.set n (gvO { g with ended := true })) := by
          rw [P.m_Giver_finish]; simp [P.b_Giver_finish, ho, he, truD]
        rw [this]
        exact .eq (by simp) (Ok.set ok (gvO_lt _ _)) rfl
    · exact .bad
  · exact .bad
theorem strsD_one {α : Type} (f : α → Nat) : ∀ l : List α, strsD (l.map fun x => D.str [f x]) = some (l.map fun x => [f x])
  | [] => rfl
  | a :: l => by simp [strsD, strsD_one f l]
theorem joinL_one : ∀ l : List (List Nat), TL.joinL [] l = l.flatten
  | [] => rfl
  | [p] => by simp [TL.joinL]
  | p :: q :: r => by simp [TL.joinL, joinL_one (q :: r)]
theorem flat_one {α : Type} (f : α → Nat) : ∀ l : List α, (l.map fun x => [f x]).flatten = l.map f
  | [] => rfl
  | a :: l => by rw [List.map_cons, List.flatten_cons, flat_one f l]; rfl
theorem join_one {α : Type} (f : α → Nat) (l : List α) (h : l.length ≤ 1000000) : joinD [] (l.map fun x => D.str [f x]) = some (.str (l.map f)) := by
  unfold joinD
  rw [strsD_one]
  simp only
  have e1 : (((l.map fun x => [f x]).map (·.length)).sum) = l.length := by
    induction l with
    | nil => rfl
    | cons a l ih => simp at ih ⊢; have := ih (by simp at h; omega); omega
  rw [if_pos (by rw [e1]; simp; omega), joinL_one]
  congr 2
  exact flat_one f l
theorem P.tell_lawText : ∀ (st : Store) (ds : List D), st.Ok → D.ltAll st.length ds = true → Tell st (P.lawText ds st) (P.m_lawText ds st) := by
  intro st ds ok lt
  unfold P.lawText
  split
  · rename_i c k
    split
    · rename_i hk
      obtain ⟨h0, h1⟩ := hk
      refine tell_pure ok rfl ?_
      rw [P.m_lawText]
      have ha : oAdd (.str [32, 33, 34, 35, 36, 38, 39, 40, 41, 42, 43, 44, 45, 46, 47, 48, 49, 50, 51, 52, 53, 54, 55, 56, 57, 58, 59, 60, 61, 62, 63, 64, 65, 66, 67, 68, 69, 70, 71, 72, 73, 74, 75, 76, 77, 78, 79, 80, 81, 82, 83, 84, 85, 86, 87, 88, 89, 90, 91, 92, 93, 94, 95, 96]) (.str [97, 98, 99, 100, 101, 102, 103, 104, 105, 106, 107, 108, 109, 110, 111, 112, 113, 114, 115, 116, 117, 118, 119, 120, 121, 122, 123, 124, 125, 126]) st = some (.str alph, st) := by
        rw [add_str, if_pos (hL1000 (by simp))]; rfl
      simp [P.b_lawText, ha, -add_str]
      rw [if_pos (by omega)]
      simp [rng_map]
      generalize hr : compK _ _ _ _ _ _ _ = r
      obtain rfl := compK_r hr (List.range k.toNat) (fun (i : Nat) => .int (i : Int)) (fun _ => true) (fun i => .str [alphAt (c + 7 * ((i : Int) / (1 + c % 3)))]) rfl (hL1000 (by simp; omega)) (fun i _ a => by
        have h6 : ∀ i : Int, atI alph (i % 94) = some (alphAt i) := fun i => alph_at
        have h7 := alph_line
        have h8 : DivOk (1 + c % 3) := divOk (by omega) (by omega)
        revert h6 h7
        generalize alph = A
        intro h6 h7
        simp [wipeD, h6, h7, h8])
      simp only [filt_yes]
      have hj := join_one (fun (i : Nat) => alphAt (c + 7 * ((i : Int) / (1 + c % 3)))) (List.range k.toNat) (by simp; omega)
      simp [mJoin, hj, textL]
    · exact .bad
  · exact .bad
end DL
/-! Pk: meetings. -/
namespace DL
open PySem L2
structure Mt where
  mine : Int
  yours : Int
  met : Bool
def mtO (g : Mt) : Ob := .ins .Meeting [(.mine, .int g.mine), (.yours, .int g.yours), (.is_met, .bl g.met)]
def mtOf : Ob → Option Mt
  | .ins .Meeting [(.mine, .int m), (.yours, .int y), (.is_met, .bl b)] => some ⟨m, y, b⟩
  | _ => none
@[simp] theorem mtOf_mtO (g : Mt) : mtOf (mtO g) = some g := rfl
theorem mtOf_eq {o : Ob} {g : Mt} (h : mtOf o = some g) : o = mtO g := by
  unfold mtOf at h
  split at h
  · cases h; rfl
  · cases h
theorem mtO_lt (g : Mt) (n : Nat) : (mtO g).lt n = true := rfl
@[simp] theorem mtO_cl (g : Mt) : (mtO g).cl = some .Meeting := rfl
@[simp] theorem mtO_mine (g : Mt) : Ob.fld [.Meeting] .mine (mtO g) = some (.int g.mine) := rfl
@[simp] theorem mtO_yours (g : Mt) : Ob.fld [.Meeting] .yours (mtO g) = some (.int g.yours) := rfl
@[simp] theorem mtO_met (g : Mt) : Ob.fld [.Meeting] .is_met (mtO g) = some (.bl g.met) := rfl
@[simp] theorem mtO_setYours (g : Mt) (i : Int) : Ob.setf [.Meeting] .yours (.int i) (mtO g) = some (mtO { g with yours := i }) := rfl
@[simp] theorem mtO_setMet (g : Mt) (b : Bool) : Ob.setf [.Meeting] .is_met (.bl b) (mtO g) = some (mtO { g with met := b }) := rfl
def heardM (g : Mt) (a b : Int) : Mt := ⟨g.mine, if g.yours < a then a else g.yours, if b = g.mine then true else if g.yours < a then false else g.met⟩
def P.Meeting_init : FM := fun ds st => match ds with
  | [.ref n, .int m] => match st[n]? with
    | some (.ins .Meeting []) => .ok .non (st.set n (mtO ⟨m, 0, false⟩))
    | _ => .bad
  | _ => .bad
def P.Meeting_heard : FM := fun ds st => match ds with
  | [.ref n, .tup (_ :: .int a :: .int b :: _)] => match st[n]?.bind mtOf with
    | some g => if a < g.yours ∨ g.mine < b then .ok .non st else .ok (.tup [.bl (decide (g.yours < a)), .bl (decide (b = g.mine))]) (st.set n (mtO (heardM g a b)))
    | none => .bad
  | _ => .bad
def P.Meeting_hello : FM := fun ds st => match ds with
  | [.ref n] => match st[n]?.bind mtOf with
    | some g => .ok (.tup [.str [104, 101, 108, 108, 111], .int g.mine, .int 0]) st
    | none => .bad
  | _ => .bad
def P.Meeting_reply : FM := fun ds st => match ds with
  | [.ref n] => match st[n]?.bind mtOf with
    | some g => .ok (.tup [.str [104, 101, 108, 108, 111], .int g.mine, .int g.yours]) st
    | none => .bad
  | _ => .bad
def P.b_Meeting_init : SM := (sSeq (sFldD [.Meeting] .mine (eVar 0) (eVar 1))
    (sSeq (sFldD [.Meeting] .yours (eVar 0) (eC (.int 0)))
    (sFldD [.Meeting] .is_met (eVar 0) (eC (.bl false)))))
def P.m_Meeting_init : FM := fnM 2 2 P.b_Meeting_init

def P.b_Meeting_heard : SM := (sSeq (sIf (tOrD (tB (e2 oLt (e2 oIx (eVar 1) (eC (.int 1))) (eFld [.Meeting] .yours (eVar 0)))) (tB (e2 oGt (e2 oIx (eVar 1) (eC (.int 2))) (eFld [.Meeting] .mine (eVar 0)))))
    (sRet (eC .non))
    sSkip)
    (sSeq (sSet 2 (e2 oGt (e2 oIx (eVar 1) (eC (.int 1))) (eFld [.Meeting] .yours (eVar 0))))
    (sSeq (sIf (tTru (eVar 2))
    (sSeq (sFldD [.Meeting] .yours (eVar 0) (e2 oIx (eVar 1) (eC (.int 1))))
    (sFldD [.Meeting] .is_met (eVar 0) (eC (.bl false))))
    sSkip)
    (sSeq (sSet 3 (e2 oEq (e2 oIx (eVar 1) (eC (.int 2))) (eFld [.Meeting] .mine (eVar 0))))
    (sSeq (sIf (tTru (eVar 3))
    (sFldD [.Meeting] .is_met (eVar 0) (eC (.bl true)))
    sSkip)
    (sRet (eTup (eCons (eVar 2) (eCons (eVar 3) eNil)))))))))
def P.m_Meeting_heard : FM := fnM 2 4 P.b_Meeting_heard

def P.b_Meeting_hello : SM := (sRet (eTup (eCons (eC (.str [104, 101, 108, 108, 111])) (eCons (eFld [.Meeting] .mine (eVar 0)) (eCons (eC (.int 0)) eNil)))))
def P.m_Meeting_hello : FM := fnM 1 1 P.b_Meeting_hello

def P.b_Meeting_reply : SM := (sRet (eTup (eCons (eC (.str [104, 101, 108, 108, 111])) (eCons (eFld [.Meeting] .mine (eVar 0)) (eCons (eFld [.Meeting] .yours (eVar 0)) eNil)))))
def P.m_Meeting_reply : FM := fnM 1 1 P.b_Meeting_reply


theorem P.tell_Meeting_init : ∀ (st : Store) (ds : List D), st.Ok → D.ltAll st.length ds = true → Tell st (P.Meeting_init ds st) (P.m_Meeting_init ds st) := by
  intro st ds ok lt
  unfold P.Meeting_init
  split
  · rename_i n m
    split
    · rename_i h
      have hn := lt_of_get h
      have : P.m_Meeting_init [.ref n, .int m] st = .ok .non (st.set n (mtO ⟨m, 0, false⟩)) := by
        have hs : ∀ o, (st.set n o)[n]? = some o := fun o => List.getElem?_set_self hn
        rw [P.m_Meeting_init]; simp [P.b_Meeting_init, h, hs, putD, List.set_set]
        rfl
      rw [this]
      exact .eq (by simp) (Ok.set ok (mtO_lt _ _)) rfl
    · exact .bad
  · exact .bad
theorem at3_1 (x : D) (a b : D) (l : List D) : atI (x :: a :: b :: l) 1 = some a := by rw [atI_pos (by omega)]; rfl
theorem at3_2 (x : D) (a b : D) (l : List D) : atI (x :: a :: b :: l) 2 = some b := by rw [atI_pos (by omega)]; rfl
theorem P.tell_Meeting_heard : ∀ (st : Store) (ds : List D), st.Ok → D.ltAll st.length ds = true → Tell st (P.Meeting_heard ds st) (P.m_Meeting_heard ds st) := by
  intro st ds ok lt
  unfold P.Meeting_heard
  split
  · rename_i n x a b l
    split
    · rename_i g hg
      obtain ⟨o, ho, hg⟩ := Option.bind_eq_some_iff.mp hg
      have hg := mtOf_eq hg
      subst hg
      have hn := lt_of_get ho
      have hs : ∀ o, (st.set n o)[n]? = some o := fun o => List.getElem?_set_self hn
      split
      · rename_i hc
        refine tell_eq ok rfl ?_
        rw [P.m_Meeting_heard]
        by_cases c1 : a < g.yours
        · simp [P.b_Meeting_heard, ho, at3_1, at3_2, c1]
        · simp [P.b_Meeting_heard, ho, at3_1, at3_2, c1, show g.mine < b by omega]
      · rename_i hc
        have : P.m_Meeting_heard [.ref n, .tup (x :: .int a :: .int b :: l)] st = .ok (.tup [.bl (decide (g.yours < a)), .bl (decide (b = g.mine))]) (st.set n (mtO (heardM g a b))) := by
          have h0 : st = st.set n (mtO g) := by
            refine List.ext_getElem? fun i => ?_
            by_cases hi : n = i
            · subst hi; rw [hs]; exact ho
            · rw [List.getElem?_set_ne hi]
          rw [P.m_Meeting_heard]
          have c1 : ¬ a < g.yours := by omega
          have c2 : ¬ g.mine < b := by omega
          by_cases c3 : g.yours < a <;> by_cases c4 : b = g.mine <;> simp [P.b_Meeting_heard, ho, at3_1, at3_2, c1, c2, c3, c4, truD, hs, List.set_set, heardM]
          · exact h0
        rw [this]
        exact .eq (by simp) (Ok.set ok (mtO_lt _ _)) rfl
    · exact .bad
  · exact .bad
theorem P.tell_Meeting_hello : ∀ (st : Store) (ds : List D), st.Ok → D.ltAll st.length ds = true → Tell st (P.Meeting_hello ds st) (P.m_Meeting_hello ds st) := by
  intro st ds ok lt
  unfold P.Meeting_hello
  split
  · rename_i n
    split
    · rename_i g hg
      obtain ⟨o, ho, hg⟩ := Option.bind_eq_some_iff.mp hg
      have hg := mtOf_eq hg
      subst hg
      refine tell_eq ok rfl ?_
      rw [P.m_Meeting_hello]; simp [P.b_Meeting_hello, ho]
    · exact .bad
  · exact .bad
theorem P.tell_Meeting_reply : ∀ (st : Store) (ds : List D), st.Ok → D.ltAll st.length ds = true → Tell st (P.Meeting_reply ds st) (P.m_Meeting_reply ds st) := by
  intro st ds ok lt
  unfold P.Meeting_reply
  split
  · rename_i n
    split
    · rename_i g hg
      obtain ⟨o, ho, hg⟩ := Option.bind_eq_some_iff.mp hg
      have hg := mtOf_eq hg
      subst hg
      refine tell_eq ok rfl ?_
      rw [P.m_Meeting_reply]; simp [P.b_Meeting_reply, ho]
    · exact .bad
  · exact .bad
end DL
/-! Pl: figures. -/
namespace DL
open PySem L2
open PySem.NumText (digitsVal AllDigits)
def digB (c : Nat) : Bool := decide (48 ≤ c ∧ c ≤ 57)
def figs : List Nat := [48, 49, 50, 51, 52, 53, 54, 55, 56, 57]
theorem mem_figs (c : Nat) : decide (c ∈ figs) = digB c := by
  rw [Bool.eq_iff_iff]; simp [figs, digB]; omega
def numL (s : List Nat) : Option Int := if s = [] ∨ (s.head? = some 48 ∧ s ≠ [48]) then none else if s.all digB = true then (if (1000000000000 : Int) < (digitsVal s : Int) then none else some (digitsVal s : Int)) else none
def optD : Option Int → D
  | some v => .int v
  | none => .non
def P.figures : FM := fun ds st => match ds with
  | [.int n] => if 0 ≤ n ∧ n < 18446744073709551616 then .ok (.str (strI n)) st else .bad
  | _ => .bad
def P.number_of : FM := fun ds st => match ds with
  | [.str s] => if s.length ≤ 100000 then .ok (optD (numL s)) st else .bad
  | _ => .bad
def P.b_figures : SM := (sRet (e1 oStr (eCons (eVar 0) eNil)))
def P.m_figures : FM := fnM 1 1 P.b_figures

def P.b_number_of : SM := (sSeq (sIf (tOrD (tB (e2 oEq (eVar 0) (eC (.str [])))) (tOrD (tB (e2 oGt (e1 oLen (eCons (eVar 0) eNil)) (eC (.int 13)))) (tAndD (tB (e2 oEq (e2 oIx (eVar 0) (eC (.int 0))) (eC (.str [48])))) (tB (e2 oNe (eVar 0) (eC (.str [48])))))))
    (sRet (eC .non))
    sSkip)
    (sSeq (sFor (iSeq (eVar 0)) (tName 1)
    (sIf (tB (e2 oNotIn (eVar 1) (eC (.str [48, 49, 50, 51, 52, 53, 54, 55, 56, 57]))))
    (sRet (eC .non))
    sSkip))
    (sSeq (sSet 2 (e1 oInt (eCons (eVar 0) eNil)))
    (sSeq (sIf (tB (e2 oGt (eVar 2) (eC (.int 1000000000000))))
    (sRet (eC .non))
    sSkip)
    (sRet (eVar 2))))))
def P.m_number_of : FM := fnM 1 3 P.b_number_of


theorem val_fold (l : List Nat) : ∀ acc : Nat, acc * 10 ^ l.length ≤ l.foldl (fun acc c => acc * 10 + (c - 48)) acc := by
  induction l with
  | nil => intro acc; simp
  | cons c l ih =>
    intro acc
    have := ih (acc * 10 + (c - 48))
    rw [List.foldl_cons, List.length_cons]
    refine Nat.le_trans ?_ this
    rw [Nat.pow_succ, Nat.mul_comm (10 ^ l.length) 10, ← Nat.mul_assoc]
    exact Nat.mul_le_mul_right _ (by omega)
theorem val_app (a b : List Nat) : digitsVal (a ++ b) = b.foldl (fun acc c => acc * 10 + (c - 48)) (digitsVal a) := by
  unfold digitsVal; rw [List.foldl_append]
theorem val_mono (a b : List Nat) : digitsVal a ≤ digitsVal (a ++ b) := by
  rw [val_app]
  refine Nat.le_trans ?_ (val_fold b _)
  exact Nat.le_mul_of_pos_right _ (Nat.pow_pos (by omega))
theorem val_long {c : Nat} {l : List Nat} (hc : digB c = true) (h0 : c ≠ 48) (hl : 13 ≤ l.length) : 10000000000000 ≤ digitsVal (c :: l) := by
  have hc' : 48 ≤ c ∧ c ≤ 57 := by simpa [digB] using hc
  have h1 : digitsVal (c :: l) = l.foldl (fun acc c => acc * 10 + (c - 48)) (0 * 10 + (c - 48)) := rfl
  rw [h1]
  refine Nat.le_trans ?_ (val_fold l _)
  have : 10 ^ 13 ≤ 10 ^ l.length := Nat.pow_le_pow_right (by omega) hl
  have h2 : 1 * 10 ^ l.length ≤ (0 * 10 + (c - 48)) * 10 ^ l.length := Nat.mul_le_mul_right _ (by omega)
  omega
theorem all_digits {s : List Nat} (h : s.all digB = true) : AllDigits s := fun c hc => by
  have := List.all_eq_true.mp h c hc
  simpa [digB] using this
theorem inD_str {c : Nat} {t : List Nat} {st : Store} : inD (.str [c]) (.str t) st = some (decide (c ∈ t)) := rfl
theorem head_at {c : Nat} {l : List Nat} : atI (c :: l) 0 = some c := by rw [atI_pos (by omega)]; rfl
theorem numL_long {c : Nat} {l : List Nat} (hl : 13 < (c :: l).length) : numL (c :: l) = none := by
  unfold numL
  split
  · rfl
  · rename_i h
    split
    · rename_i ha
      have hc : digB c = true := List.all_eq_true.mp ha c (List.mem_cons_self ..)
      have h0 : c ≠ 48 := by
        intro e; subst e
        refine h (.inr ⟨rfl, fun e => ?_⟩)
        rw [e] at hl; simp at hl
      have := val_long hc h0 (l := l) (by simp at hl; omega)
      rw [if_pos (by omega)]
    · rfl
theorem P.tell_figures : ∀ (st : Store) (ds : List D), st.Ok → D.ltAll st.length ds = true → Tell st (P.figures ds st) (P.m_figures ds st) := by
  intro st ds ok lt
  unfold P.figures
  split
  · rename_i n
    split
    · rename_i h
      refine tell_eq ok rfl ?_
      have : n.natAbs.log2 < 1920 := by
        by_cases q : n.natAbs = 0
        · rw [q]; decide
        · exact Nat.lt_trans ((Nat.log2_lt q).mpr (by omega : n.natAbs < 2 ^ 64)) (by decide)
      rw [P.m_figures]; simp [P.b_figures, oStr, this]
    · exact .bad
  · exact .bad
theorem P.tell_number_of : ∀ (st : Store) (ds : List D), st.Ok → D.ltAll st.length ds = true → Tell st (P.number_of ds st) (P.m_number_of ds st) := by
  intro st ds ok lt
  unfold P.number_of
  split
  · rename_i s
    split
    · rename_i hl
      have hz : (optD (numL s)).nr = true := by cases numL s <;> rfl
      refine tell_eq ok hz ?_
      have l1 := hL5 hl
      rw [P.m_number_of]
      cases s with
      | nil => simp [P.b_number_of, numL, optD]
      | cons c l =>
        by_cases h13 : (13 : Int) < ((c :: l).length : Int)
        · rw [numL_long (by omega)]
          simp at h13 l1
          simp [P.b_number_of, optD, h13, l1]
        · have hf : [48, 49, 50, 51, 52, 53, 54, 55, 56, 57] = figs := rfl
          by_cases h0 : c = 48 ∧ l ≠ []
          · obtain ⟨rfl, hne⟩ := h0
            have : numL (48 :: l) = none := by unfold numL; rw [if_pos (.inr ⟨rfl, by simpa using hne⟩)]
            rw [this]
            simp at h13 l1
            simp [P.b_number_of, optD, h13, l1, head_at, hne]
          · have hlead : ¬ (c :: l = [] ∨ ((c :: l).head? = some 48 ∧ c :: l ≠ [48])) := by
              simp; intro e; subst e; exact Classical.byContradiction fun q => h0 ⟨rfl, by simpa using q⟩
            have hh : (if c = 48 then (if 48 :: l = [48] then false else true) else false) = false := by
              by_cases e : c = 48
              · have : l = [] := Classical.byContradiction fun q => h0 ⟨e, q⟩
                simp [e, this]
              · simp [e]
            have hcond : ∀ (a b : Out Bool), (if c = 48 then (if l = [] then a else b) else a) = a := fun a b => by
              by_cases e : c = 48
              · have : l = [] := Classical.byContradiction fun q => h0 ⟨e, q⟩
                simp [this]
              · simp [e]
            have loop : ∀ r : SR, forK (tName 1) (sIf (tB (e2 oNotIn (eVar 1) (eC (.str [48, 49, 50, 51, 52, 53, 54, 55, 56, 57])))) (sRet (eC .non)) sSkip) [some (.str (c :: l)), none, none] (.fix ((c :: l).map fun c => .str [c])) st = r →
                ((∃ x, r = .nx [some (.str (c :: l)), x, none] st) ∧ (c :: l).all digB = true) ∨ (r = .rt .non st ∧ (c :: l).all digB = false) := fun r hr => by
              rcases forK_out hr (c :: l) (fun c => D.str [c]) (fun pre e s' => s' = st ∧ (∃ x, e = [some (.str (c :: l)), x, none]) ∧ pre.all digB = true) (fun r => r = .rt .non st ∧ (c :: l).all digB = false) (fun _ _ _ _ => rfl) (line_fuel l1) ⟨rfl, ⟨_, rfl⟩, rfl⟩
                (fun pre x post e s' hL ⟨h1, ⟨y, h2⟩, h3⟩ => by
                  subst h1; subst h2
                  cases h : digB x <;> simp [hf, inD_str, mem_figs, h, h3, hL]) with ⟨e, s', rfl, rfl, ⟨x, rfl⟩, h⟩ | ⟨rfl, h⟩
              · exact .inl ⟨⟨x, rfl⟩, h⟩
              · exact .inr ⟨rfl, h⟩
            have hnum : numL (c :: l) = if (c :: l).all digB = true then (if (1000000000000 : Int) < (digitsVal (c :: l) : Int) then none else some (digitsVal (c :: l) : Int)) else none := by unfold numL; rw [if_neg hlead]
            have h13' : ¬ (13 : Int) < (l.length : Int) + 1 := by simpa using h13
            have l1' : l.length + 1 ≤ sizeLine := by simpa using l1
            have e1 : (sIf (tOrD (tB (e2 oEq (eVar 0) (eC (.str [])))) (tOrD (tB (e2 oGt (e1 oLen (eCons (eVar 0) eNil)) (eC (.int 13)))) (tAndD (tB (e2 oEq (e2 oIx (eVar 0) (eC (.int 0))) (eC (.str [48])))) (tB (e2 oNe (eVar 0) (eC (.str [48]))))))) (sRet (eC .non)) sSkip) [some (.str (c :: l)), none, none] st = .nx [some (.str (c :: l)), none, none] st := by
              by_cases e : c = 48
              · have : l = [] := Classical.byContradiction fun q => h0 ⟨e, q⟩
                subst this; subst e
                simp at l1'
                simp [head_at, l1']
              · simp [h13', l1', head_at, e]
            rw [P.b_number_of]
            simp only [run_f1, run_seq, rep_s, List.replicate_zero, Nat.reduceSub]
            rw [e1]
            simp [-List.map_cons, -List.all_cons]
            generalize hr : forK _ _ _ _ _ = r
            rcases loop r hr with ⟨⟨x, rfl⟩, h⟩ | ⟨rfl, h⟩
            · have hint : intText? (sOf (c :: l)) = some ((digitsVal (c :: l) : Nat) : Int) := intText_digits (by simpa using all_digits h) (by simp) (by simp [sOf, Str.length]; omega)
              have hl640 : l.length + 1 ≤ 640 := by omega
              rw [hnum, if_pos h]
              by_cases hg : (1000000000000 : Int) < (digitsVal (c :: l) : Int)
              · simp [oInt, hint, hl640, hg, optD]
              · simp [oInt, hint, hl640, hg, optD]
            · rw [hnum, if_neg (by rw [h]; exact Bool.false_ne_true)]; simp [optD]
    · exact .bad
  · exact .bad
theorem strI_nat (m : Nat) : strI (m : Int) = (Nat.toDigits 10 m).map Char.toNat := PySem.W.KIN.signs_num m
theorem lead_no : ∀ m : Nat, 1 ≤ m → ∃ c l, (Nat.toDigits 10 m).map Char.toNat = c :: l ∧ c ≠ 48 := by
  intro m
  induction m using Nat.strongRecOn with
  | _ m ih =>
    intro h1
    by_cases h : m < 10
    · rw [Nat.toDigits_of_lt_base h]
      refine ⟨_, [], rfl, ?_⟩
      have : ∀ d : Nat, d < 10 → 1 ≤ d → (Nat.digitChar d).toNat ≠ 48 := by decide
      exact this m h h1
    · have hm : m % 10 < 10 := Nat.mod_lt m (by decide)
      have t : Nat.toDigits 10 (m / 10) ++ Nat.toDigits 10 (m % 10) = Nat.toDigits 10 (10 * (m / 10) + m % 10) := Nat.toDigits_append_toDigits (by decide) (by omega) hm
      rw [Nat.div_add_mod] at t
      obtain ⟨c, l, e, hc⟩ := ih (m / 10) (by omega) (by omega)
      exact ⟨c, l ++ (Nat.toDigits 10 (m % 10)).map Char.toNat, by rw [← t, List.map_append, e]; rfl, hc⟩
theorem strI_digits (m : Nat) : (strI (m : Int)).all digB = true := by
  rw [strI_nat, List.all_eq_true]
  intro c hc
  obtain ⟨ch, hch, e⟩ := List.mem_map.mp hc
  have r := PyProof.Rows.digit_range (Nat.isDigit_of_mem_toDigits (by decide) (by decide) hch)
  rw [← e]; simpa [digB] using r
theorem numL_strI {n : Int} (h0 : 0 ≤ n) (h1 : n ≤ 1000000000000) : numL (strI n) = some n := by
  obtain ⟨m, rfl⟩ := Int.eq_ofNat_of_zero_le h0
  have hd := strI_digits m
  have hv : digitsVal (strI (m : Int)) = m := by rw [strI_nat]; exact PySem.W.KIN.val_back m
  unfold numL
  have hl : ¬ (strI (m : Int) = [] ∨ ((strI (m : Int)).head? = some 48 ∧ strI (m : Int) ≠ [48])) := by
    by_cases hm : m = 0
    · subst hm
      have : strI ((0 : Nat) : Int) = [48] := by rw [strI_nat]; rfl
      rw [this]; simp
    · obtain ⟨c, l, e, hc⟩ := lead_no m (by omega)
      rw [strI_nat, e]; simp [hc]
  rw [if_neg hl, if_pos hd, hv, if_neg (by omega)]
end DL
/-! Pm: rows that cover the same are the same; answers taken. -/
namespace DL
open PySem L2
theorem row_nil_of {A : List Sp} (h : RowOk A) (hc : ∀ p, A.any (isIn p) = false) : A = [] := by
  cases A with
  | nil => rfl
  | cons s A =>
    have h2 := (RowOk.cons.mp h).2.1
    have := hc s.1
    rw [Bool.eq_false_iff] at this
    exact absurd (any_in.mpr ⟨s, List.mem_cons_self .., by omega⟩) this
theorem row_le {s : Sp} {A : List Sp} (h : RowOk (s :: A)) {p : Int} (hp : (s :: A).any (isIn p) = true) : s.1 ≤ p := by
  obtain ⟨h1, h2, h3⟩ := RowOk.cons.mp h
  obtain ⟨t, ht, h4⟩ := any_in.mp hp
  rcases List.mem_cons.mp ht with rfl | ht
  · exact h4.1
  · have := h1 t ht; omega
theorem row_end {s : Sp} {A : List Sp} (h : RowOk (s :: A)) : (s :: A).any (isIn s.2) = false := by
  obtain ⟨h1, h2, h3⟩ := RowOk.cons.mp h
  rw [Bool.eq_false_iff]
  intro hp
  obtain ⟨t, ht, h4⟩ := any_in.mp hp
  rcases List.mem_cons.mp ht with rfl | ht
  · omega
  · have := h1 t ht; omega
theorem row_eq : ∀ {A B : List Sp}, RowOk A → RowOk B → (∀ p, A.any (isIn p) = B.any (isIn p)) → A = B
  | [], B, _, hB, hc => (row_nil_of hB fun p => by rw [← hc]; rfl).symm
  | s :: A, [], hA, _, hc => absurd (row_nil_of hA fun p => by rw [hc]; rfl) (by simp)
  | s :: A, t :: B, hA, hB, hc => by
    obtain ⟨a1, a2, a3⟩ := RowOk.cons.mp hA
    obtain ⟨b1, b2, b3⟩ := RowOk.cons.mp hB
    have e1 : s.1 = t.1 := by
      have h1 := row_le hB (p := s.1) (by rw [← hc]; exact any_in.mpr ⟨s, List.mem_cons_self .., by omega⟩)
      have h2 := row_le hA (p := t.1) (by rw [hc]; exact any_in.mpr ⟨t, List.mem_cons_self .., by omega⟩)
      omega
    have e2 : s.2 = t.2 := by
      have h1 := row_end hA
      have h2 := row_end hB
      rw [hc, Bool.eq_false_iff] at h1
      rw [← hc, Bool.eq_false_iff] at h2
      have g1 : ¬ (s.2 < t.2) := fun q => h1 (any_in.mpr ⟨t, List.mem_cons_self .., by omega⟩)
      have g2 : ¬ (t.2 < s.2) := fun q => h2 (any_in.mpr ⟨s, List.mem_cons_self .., by omega⟩)
      omega
    have e : s = t := Prod.ext e1 e2
    subst e
    rw [row_eq a3 b3 fun p => ?_]
    have q := hc p
    rw [List.any_cons, List.any_cons] at q
    by_cases hp : isIn p s = true
    · have hp' : s.1 ≤ p ∧ p < s.2 := by simpa [isIn] using hp
      have f1 : A.any (isIn p) = false := by
        rw [Bool.eq_false_iff]; intro z
        obtain ⟨u, hu, h4⟩ := any_in.mp z
        have := a1 u hu; omega
      have f2 : B.any (isIn p) = false := by
        rw [Bool.eq_false_iff]; intro z
        obtain ⟨u, hu, h4⟩ := any_in.mp z
        have := b1 u hu; omega
      rw [f1, f2]
    · simpa [hp] using q
/-! answers -/
def addIf (size : Int) (S : List Sp) (t : Sp) : List Sp := if t.1 < min t.2 size then addR S t.1 (min t.2 size) else S
def sizeG (g : Gv) : Int := g.text.length
def ansNo (g : Gv) (come limit : Int) : Prop := sizeG g + (if g.ended = true then 1 else 0) < come ∨ limit + 1 < come
instance {g : Gv} {come limit : Int} : Decidable (ansNo g come limit) := inferInstanceAs (Decidable (_ ∨ _))
def ansG (g : Gv) (come limit : Int) (T : List Sp) : Gv := { g with heard := true, come := max g.come come, limit := max g.limit limit, spans := cutR (T.foldl (addIf (sizeG g)) g.spans) (max g.come come), fin := g.ended && decide (max g.come come = sizeG g + 1) }
def P.Giver_answered : FM := fun ds st => match ds with
  | [.ref n, .int come, .int limit, d] => match st[n]?.bind gvOf, rowOf d with
    | some g, some T => if g.text.length ≤ 100000 ∧ g.spans.length + T.length ≤ 5000 ∧ 0 ≤ g.come ∧ (T.all fun t => decide (0 ≤ t.1)) = true then (if ansNo g come limit then .ok .non st else .ok .non (st.set n (gvO (ansG g come limit T)))) else .bad
    | _, _ => .bad
  | _ => .bad
theorem addIf_len (size : Int) : ∀ (T : List Sp) (S : List Sp), (T.foldl (addIf size) S).length ≤ S.length + T.length
  | [], S => by simp
  | t :: T, S => by
    have := addIf_len size T (addIf size S t)
    have h : (addIf size S t).length ≤ S.length + 1 := by
      unfold addIf; split
      · exact addR_len
      · omega
    rw [List.foldl_cons, List.length_cons]; omega
@[simp] theorem gvO_setSpans (g : Gv) (S : List Sp) : Ob.setf [.Giver] .spans (rowL S) (gvO g) = some (gvO { g with spans := S }) := rfl
@[simp] theorem gvO_setCome (g : Gv) (i : Int) : Ob.setf [.Giver] .come (.int i) (gvO g) = some (gvO { g with come := i }) := rfl
@[simp] theorem gvO_setLimit (g : Gv) (i : Int) : Ob.setf [.Giver] .limit (.int i) (gvO g) = some (gvO { g with limit := i }) := rfl
@[simp] theorem gvO_setHeard (g : Gv) (b : Bool) : Ob.setf [.Giver] .is_heard (.bl b) (gvO g) = some (gvO { g with heard := b }) := rfl
@[simp] theorem gvO_setFin (g : Gv) (b : Bool) : Ob.setf [.Giver] .is_done (.bl b) (gvO g) = some (gvO { g with fin := b }) := rfl
@[simp] theorem gvO_setSent (g : Gv) (i : Int) : Ob.setf [.Giver] .sent (.int i) (gvO g) = some (gvO { g with sent := i }) := rfl
@[simp] theorem gvO_setEndSent (g : Gv) (b : Bool) : Ob.setf [.Giver] .is_end_sent (.bl b) (gvO g) = some (gvO { g with endSent := b }) := rfl
def P.b_Giver_answered : SM := (sSeq (sSet 4 (e1 oLen (eCons (eFld [.Giver] .text (eVar 0)) eNil)))
    (sSeq (sIf (tOrD (tB (e2 oGt (eVar 1) (e2 oAdd (eVar 4) (e1 oInt (eCons (eFld [.Giver] .is_ended (eVar 0)) eNil))))) (tB (e2 oLt (e2 oAdd (eVar 2) (eC (.int 1))) (eVar 1))))
    sRetN
    sSkip)
    (sSeq (sFldD [.Giver] .is_heard (eVar 0) (eC (.bl true)))
    (sSeq (sFldD [.Giver] .come (eVar 0) (e1 oMax (eCons (eFld [.Giver] .come (eVar 0)) (eCons (eVar 1) eNil))))
    (sSeq (sFldD [.Giver] .limit (eVar 0) (e1 oMax (eCons (eFld [.Giver] .limit (eVar 0)) (eCons (eVar 2) eNil))))
    (sSeq (sFor (iSeq (eVar 3)) (tTup2 5 6)
    (sIf (tB (e2 oLt (eVar 5) (e1 oMin (eCons (eVar 6) (eCons (eVar 4) eNil)))))
    (sFldD [.Giver] .spans (eVar 0) (eCall DL.P.added (eCons (eFld [.Giver] .spans (eVar 0)) (eCons (eVar 5) (eCons (e1 oMin (eCons (eVar 6) (eCons (eVar 4) eNil))) eNil)))))
    sSkip))
    (sSeq (sFldD [.Giver] .spans (eVar 0) (eCall DL.P.cut (eCons (eFld [.Giver] .spans (eVar 0)) (eCons (eFld [.Giver] .come (eVar 0)) eNil))))
    (sFldD [.Giver] .is_done (eVar 0) (eAnd (eFld [.Giver] .is_ended (eVar 0)) (e2 oEq (eFld [.Giver] .come (eVar 0)) (e2 oAdd (eVar 4) (eC (.int 1)))))))))))))
def P.m_Giver_answered : FM := fnM 4 7 P.b_Giver_answered


theorem P.tell_Giver_answered : ∀ (st : Store) (ds : List D), st.Ok → D.ltAll st.length ds = true → Tell st (P.Giver_answered ds st) (P.m_Giver_answered ds st) := by
  intro st ds ok lt
  unfold P.Giver_answered
  split
  · rename_i n come limit d
    split
    · rename_i g T hg hT
      obtain ⟨o, ho, hg⟩ := Option.bind_eq_some_iff.mp hg
      have hg := gvOf_eq hg
      subst hg
      have := rowOf_eq hT
      subst this
      have hn := lt_of_get ho
      have hs : ∀ o, (st.set n o)[n]? = some o := fun o => List.getElem?_set_self hn
      split
      · rename_i hl
        obtain ⟨h1, h2, h3, h4⟩ := hl
        have l1 := hL5 h1
        have hint : ∀ S : Store, oInt [.bl g.ended] S = some (.int (if g.ended = true then 1 else 0), S) := fun S => rfl
        split
        · rename_i hno
          refine tell_eq ok rfl ?_
          rw [P.m_Giver_answered]
          by_cases c1 : sizeG g + (if g.ended = true then 1 else 0) < come
          · have c1' : (g.text.length : Int) + (if g.ended = true then 1 else 0) < come := c1
            simp [P.b_Giver_answered, ho, l1, c1', -List.map_map]
          · have c1' : ¬ (g.text.length : Int) + (if g.ended = true then 1 else 0) < come := c1
            have c2 : limit + 1 < come := by rcases hno with h | h; exact absurd h c1; exact h
            simp [P.b_Giver_answered, ho, l1, c1', c2, -List.map_map]
        · rename_i hno
          have c1 : ¬ (g.text.length : Int) + (if g.ended = true then 1 else 0) < come := fun h => hno (.inl h)
          have c2 : ¬ limit + 1 < come := fun h => hno (.inr h)
          have main : P.m_Giver_answered [.ref n, .int come, .int limit, rowL T] st = .ok .non (st.set n (gvO (ansG g come limit T))) := by
            rw [P.m_Giver_answered]
            simp [P.b_Giver_answered, ho, l1, c1, c2, hs, List.set_set, oMax, -List.map_map]
            generalize hr : forK _ _ _ _ _ = r
            obtain ⟨e, s', rfl, ⟨x, y, rfl⟩, rfl⟩ := forK_inv hr T spD (fun pre e s => (∃ x y, e = [some (.ref n), some (.int come), some (.int limit), some (rowL T), some (.int (g.text.length : Int)), x, y]) ∧ s = st.set n (gvO { g with heard := true, come := max g.come come, limit := max g.limit limit, spans := pre.foldl (addIf (sizeG g)) g.spans }))
              (fun pre e s _ => rfl) (by simp [fuel]; omega) ⟨⟨none, none, rfl⟩, rfl⟩ (fun pre t post e s hL ⟨⟨x, y, a⟩, b⟩ => by
                subst a; subst b
                have hpl : pre.length ≤ T.length := by have := congrArg List.length hL; simp at this; omega
                have hal := addIf_len (sizeG g) pre g.spans
                have ht0 : 0 ≤ t.1 := by
                  have := List.all_eq_true.mp h4 t (by rw [hL]; simp)
                  simpa using this
                simp only [List.foldl_append, List.foldl_cons, List.foldl_nil]
                generalize pre.foldl (addIf (sizeG g)) g.spans = S at *
                by_cases c3 : t.1 < min t.2 (g.text.length : Int)
                · have hadd : ∀ X : Store, P.added [rowL S, .int t.1, .int (min t.2 (g.text.length : Int))] X = .ok (rowL (addR S t.1 (min t.2 (g.text.length : Int)))) X := fun X => P.added_eq (by omega) (by omega) (by omega)
                  have c3' : t.1 < min t.2 (sizeG g) := c3
                  have e4 : addIf (sizeG g) S t = addR S t.1 (min t.2 (g.text.length : Int)) := by unfold addIf; rw [if_pos c3']; rfl
                  simp [oMin, c3, hs, hadd, List.set_set, e4, -List.map_map]
                · have c3' : ¬ t.1 < min t.2 (sizeG g) := c3
                  have e4 : addIf (sizeG g) S t = S := by unfold addIf; rw [if_neg c3']
                  simp [oMin, c3, hs, List.set_set, e4, -List.map_map])
            have hal := addIf_len (sizeG g) T g.spans
            have hcut : ∀ X : Store, P.cut [rowL (T.foldl (addIf (sizeG g)) g.spans), .int (max g.come come)] X = .ok (rowL (cutR (T.foldl (addIf (sizeG g)) g.spans) (max g.come come))) X := fun X => P.cut_eq (by omega) (by omega)
            simp [hs, hcut, List.set_set, -List.map_map]
            cases hge : g.ended
            · simp [hs, List.set_set, ansG, hge, -List.map_map]
            · simp [hs, List.set_set, ansG, hge, sizeG, -List.map_map]
              rfl
          rw [main]
          exact .eq (by simp) (Ok.set ok (gvO_lt _ _)) rfl
      · exact .bad
    · exact .bad
  · exact .bad
end DL
/-! Pn: a row made of places told one by one. -/
namespace DL
open PySem L2
theorem blsD_bls (l : List Bool) : blsD (l.map .bl) = some l := by
  induction l with
  | nil => rfl
  | cons a l ih => simp [blsD, ih]
theorem blsD_eq : ∀ {l : List D} {is : List Bool}, blsD l = some is → l = is.map .bl
  | [], is, h => by simp [blsD] at h; subst h; rfl
  | .bl i :: l, is, h => by
    simp only [blsD] at h
    cases q : blsD l with
    | none => rw [q] at h; cases h
    | some js => rw [q] at h; cases h; rw [blsD_eq q]; rfl
  | .non :: _, is, h => by simp [blsD] at h
  | .int _ :: _, is, h => by simp [blsD] at h
  | .str _ :: _, is, h => by simp [blsD] at h
  | .tup _ :: _, is, h => by simp [blsD] at h
  | .ref _ :: _, is, h => by simp [blsD] at h
/-- whether a place is told, below k -/
def toldAt (P : List Bool) (k n : Nat) : Bool := decide (n < k) && P.getD n false
def runStep (P : List Bool) (k : Nat) (q : List Sp × Int) (n : Nat) : List Sp × Int :=
  if toldAt P k n = true then (q.1, if q.2 < 0 then (n : Int) else q.2) else if 0 ≤ q.2 then (q.1 ++ [(q.2, (n : Int))], -1) else q
def runS (P : List Bool) (k : Nat) : Nat → List Sp × Int
  | 0 => ([], -1)
  | n + 1 => runStep P k (runS P k n) n
def runR (P : List Bool) (k : Nat) : List Sp := (runS P k (k + 1)).1
theorem run_ok (P : List Bool) (k : Nat) : ∀ n : Nat, RowOk (runS P k n).1 ∧ (∀ s ∈ (runS P k n).1, s.2 < (n : Int) ∧ ((runS P k n).2 < 0 ∨ s.2 < (runS P k n).2)) ∧ -1 ≤ (runS P k n).2 ∧ (runS P k n).2 < (n : Int) + 0 ∧
    (∀ i : Nat, 0 ≤ (runS P k n).2 → (runS P k n).2 ≤ (i : Int) → i < n → toldAt P k i = true) ∧
    (0 ≤ (runS P k n).2 ∨ n = 0 ∨ toldAt P k (n - 1) = false) ∧
    ∀ p : Int, (runS P k n).1.any (isIn p) = (decide (0 ≤ p) && decide (p < (n : Int)) && toldAt P k p.toNat && (decide ((runS P k n).2 < 0) || decide (p < (runS P k n).2)))
  | 0 => by
    refine ⟨.nil, fun _ h => (nomatch h), by simp [runS], by simp [runS], fun i h => by simp [runS] at h, .inr (.inl rfl), fun p => ?_⟩
    have : (decide (0 ≤ p) && decide (p < ((0 : Nat) : Int))) = false := by rw [Bool.eq_false_iff]; first | (simp; done) | (simp; omega)
    rw [this]; rfl
  | n + 1 => by
    obtain ⟨a1, a2, a3, a4, a5, a6, a7⟩ := run_ok P k n
    show RowOk (runStep P k (runS P k n) n).1 ∧ _
    have hstep : runS P k (n + 1) = runStep P k (runS P k n) n := rfl
    rw [hstep]
    generalize runS P k n = q at *
    unfold runStep
    by_cases ht : toldAt P k n = true
    · rw [if_pos ht]
      refine ⟨a1, fun s hs => ?_, ?_, ?_, fun i h1 h2 h3 => ?_, .inl ?_, fun p => ?_⟩
      · have := a2 s hs
        simp only
        split <;> omega
      · simp only; split <;> omega
      · simp only; split <;> omega
      · simp only at h1 h2
        by_cases hi : i = n
        · subst hi; exact ht
        · split at h2
          · omega
          · exact a5 i (by omega) h2 (by omega)
      · simp only; split <;> omega
      · simp only
        rw [a7 p]
        by_cases hp : p = (n : Int)
        · have e1 : decide (p < (n : Int)) = false := by simp; omega
          rw [e1]
          split
          · have : decide ((n : Int) < 0) = false := by first | (simp; done) | (simp; omega)
            rw [this, e1]; simp
          · rename_i hq
            have e2 : decide (q.2 < 0) = false := by simp; omega
            have e3 : decide (p < q.2) = false := by simp; omega
            rw [e2, e3]; simp
        · have e1 : decide (p < ((n + 1 : Nat) : Int)) = decide (p < (n : Int)) := by
            rw [Bool.eq_iff_iff]; simp; omega
          rw [e1]
          split
          · rename_i hq
            have e2 : decide (q.2 < 0) = true := by simp; omega
            have e3 : decide ((n : Int) < 0) = false := by first | (simp; done) | (simp; omega)
            rw [e2, e3]
            cases h : decide (p < (n : Int)) <;> simp
          · rfl
    · rw [if_neg ht]
      have ht : toldAt P k n = false := by simpa using ht
      by_cases hq : 0 ≤ q.2
      · rw [if_pos hq]
        refine ⟨a1.snoc (fun t h => by have := a2 t h; simp only; omega) ⟨hq, by simp only; omega⟩, fun s hs => ⟨?_, .inl (by simp)⟩, by simp, by simp; omega, fun i h1 => absurd h1 (by simp), .inr (.inr (by simpa using ht)), fun p => ?_⟩
        · rcases List.mem_append.mp hs with hs | hs
          · have := a2 s hs; omega
          · rw [List.mem_singleton] at hs; subst hs; simp only; omega
        · rw [List.any_append, a7 p]
          have e0 : decide (q.2 < 0) = false := by simp; omega
          rw [e0]
          simp only [List.any_cons, List.any_nil, Bool.or_false, Bool.false_or]
          by_cases h1 : 0 ≤ p
          · by_cases h2 : p < q.2
            · have g1 : isIn p (q.2, (n : Int)) = false := by rw [Bool.eq_false_iff]; simp [isIn]; omega
              have g2 : decide (p < (n : Int)) = true := by simp; omega
              have g3 : decide (p < ((n + 1 : Nat) : Int)) = true := by simp; omega
              rw [g1, g2, g3]; simp [h2]
            · by_cases h3 : p < (n : Int)
              · have g1 : isIn p (q.2, (n : Int)) = true := by simp [isIn]; omega
                have g2 : toldAt P k p.toNat = true := a5 p.toNat hq (by omega) (by omega)
                have g3 : decide (p < ((n + 1 : Nat) : Int)) = true := by simp; omega
                rw [g1, g2, g3]; simp [h1]
              · have g1 : isIn p (q.2, (n : Int)) = false := by rw [Bool.eq_false_iff]; simp [isIn]; omega
                have g2 : decide (p < (n : Int)) = false := by simp; omega
                rw [g1, g2]
                by_cases h4 : p = (n : Int)
                · have g3 : toldAt P k p.toNat = false := by rw [h4]; simpa using ht
                  rw [g3]; simp
                · have g3 : decide (p < ((n + 1 : Nat) : Int)) = false := by simp; omega
                  rw [g3]; simp
          · have g1 : isIn p (q.2, (n : Int)) = false := by rw [Bool.eq_false_iff]; simp [isIn]; omega
            rw [g1]; simp [h1]
      · rw [if_neg hq]
        refine ⟨a1, fun s hs => by have := a2 s hs; omega, a3, by omega, fun i h1 => absurd h1 hq, .inr (.inr (by simpa using ht)), fun p => ?_⟩
        rw [a7 p]
        have e0 : decide (q.2 < 0) = true := by simp; omega
        rw [e0]
        by_cases h4 : p = (n : Int)
        · have g3 : toldAt P k p.toNat = false := by rw [h4]; simpa using ht
          rw [g3]; simp
        · have g3 : decide (p < ((n + 1 : Nat) : Int)) = decide (p < (n : Int)) := by rw [Bool.eq_iff_iff]; simp; omega
          rw [g3]
theorem runR_ok (P : List Bool) (k : Nat) : RowOk (runR P k) ∧ ∀ p : Int, (runR P k).any (isIn p) = (decide (0 ≤ p) && toldAt P k p.toNat) := by
  obtain ⟨a1, a2, a3, a4, a5, a6, a7⟩ := run_ok P k (k + 1)
  have hk : toldAt P k k = false := by simp [toldAt]
  have hneg : (runS P k (k + 1)).2 < 0 := by
    refine Classical.byContradiction fun h => ?_
    have := a5 k (by omega) (by omega) (by omega)
    rw [hk] at this; cases this
  refine ⟨a1, fun p => ?_⟩
  show (runS P k (k + 1)).1.any (isIn p) = _
  rw [a7 p]
  have e0 : decide ((runS P k (k + 1)).2 < 0) = true := by simpa using hneg
  rw [e0]
  by_cases h0 : 0 ≤ p
  · by_cases h1 : p < ((k + 1 : Nat) : Int)
    · simp only [Bool.true_or, Bool.and_true]
      have : decide (p < ((k + 1 : Nat) : Int)) = true := by simpa using h1
      rw [this]; simp
    · have g : toldAt P k p.toNat = false := by
        unfold toldAt
        have : decide (p.toNat < k) = false := by simp; omega
        rw [this]; rfl
      rw [g]; simp
  · simp [h0]
theorem runS_len (P : List Bool) (k : Nat) : ∀ n, (runS P k n).1.length ≤ n
  | 0 => by simp [runS]
  | n + 1 => by
    have := runS_len P k n
    show (runStep P k (runS P k n) n).1.length ≤ n + 1
    unfold runStep
    split
    · simp only; omega
    · split
      · simp; omega
      · omega
def P.lawSpans : FM := fun ds st => match ds with
  | [.ref n, .int k] => match (st[n]?.bind Ob.seq).bind blsD with
    | some B => if 0 ≤ k ∧ k ≤ (B.length : Int) ∧ B.length ≤ 90000 then .ok (rowL (runR B k.toNat)) st else .bad
    | none => .bad
  | _ => .bad
def P.rowOfSpans : FM := fun ds st => match ds with
  | [d] => match rowOf d with
    | some R => if R.length ≤ 100000 then .ok (.bl true) st else .bad
    | none => .bad
  | _ => .bad
def P.b_lawSpans : SM := (sSeq (sSet 2 (eTup eNil))
    (sSeq (sSet 3 (e1 oNeg (eC (.int 1))))
    (sSeq (sFor (iRng1D (e2 oAdd (eVar 1) (eC (.int 1)))) (tName 4)
    (sSeq (sSet 5 (eAnd (e2 oLt (eVar 4) (eVar 1)) (e2 oIx (eVar 0) (eVar 4))))
    (sSeq (sIf (tAndD (tTru (eVar 5)) (tB (e2 oLt (eVar 3) (eC (.int 0)))))
    (sSet 3 (eVar 4))
    sSkip)
    (sIf (tAndD (tNotD (tTru (eVar 5))) (tB (e2 oGe (eVar 3) (eC (.int 0)))))
    (sSeq (sSet 2 (e2 oAdd (eVar 2) (eTup (eCons (eTup (eCons (eVar 3) (eCons (eVar 4) eNil))) eNil))))
    (sSet 3 (e1 oNeg (eC (.int 1)))))
    sSkip))))
    (sRet (eVar 2)))))
def P.m_lawSpans : FM := fnM 2 6 P.b_lawSpans

def P.b_rowOfSpans : SM := (sSeq (sIf (tNotD (tB (eIsi "tuple" (eVar 0))))
    (sRet (eC (.bl false)))
    sSkip)
    (sSeq (sFor (iSeq (eVar 0)) (tName 1)
    (sIf (tOrD (tNotD (tB (eIsi "tuple" (eVar 1)))) (tOrD (tB (e2 oNe (e1 oLen (eCons (eVar 1) eNil)) (eC (.int 2)))) (tOrD (tNotD (tTru (eCall DL.P.whole (eCons (e2 oIx (eVar 1) (eC (.int 0))) eNil)))) (tNotD (tTru (eCall DL.P.whole (eCons (e2 oIx (eVar 1) (eC (.int 1))) eNil)))))))
    (sRet (eC (.bl false)))
    sSkip))
    (sRet (eC (.bl true)))))
def P.m_rowOfSpans : FM := fnM 1 2 P.b_rowOfSpans


theorem P.tell_rowOfSpans : ∀ (st : Store) (ds : List D), st.Ok → D.ltAll st.length ds = true → Tell st (P.rowOfSpans ds st) (P.m_rowOfSpans ds st) := by
  intro st ds ok lt
  unfold P.rowOfSpans
  split
  · rename_i d
    split
    · rename_i R hR
      split
      · rename_i hl
        have := rowOf_eq hR
        subst this
        refine tell_eq ok rfl ?_
        rw [P.m_rowOfSpans]; simp [P.b_rowOfSpans]
        have q0 : ∀ a b : Int, atI [D.int a, .int b] 0 = some (.int a) := fun _ _ => rfl
        have q1 : ∀ a b : Int, atI [D.int a, .int b] 1 = some (.int b) := fun _ _ => rfl
        generalize hr : forK _ _ _ _ _ = r
        obtain ⟨e, s', rfl, ⟨x, rfl⟩, rfl⟩ := forK_inv hr R spD (fun pre e s => (∃ x, e = [some (rowL R), x]) ∧ s = st)
          (fun pre e s _ => rfl) (by simp [fuel]; omega) ⟨⟨none, rfl⟩, rfl⟩ (fun pre x post e s hL ⟨⟨y, a⟩, b⟩ => by
            subst a; subst b
            simp [q0, q1, P.whole_int, truD, -List.map_map])
        simp
      · exact .bad
    · exact .bad
  · exact .bad
theorem P.tell_lawSpans : ∀ (st : Store) (ds : List D), st.Ok → D.ltAll st.length ds = true → Tell st (P.lawSpans ds st) (P.m_lawSpans ds st) := by
  intro st ds ok lt
  unfold P.lawSpans
  split
  · rename_i n k
    split
    · rename_i B hB
      split
      · rename_i hk
        obtain ⟨h0, h1, h2⟩ := hk
        obtain ⟨L, hl, hi⟩ := Option.bind_eq_some_iff.mp hB
        have hi := blsD_eq hi
        subst hi
        obtain ⟨o, ho, hsq⟩ := Option.bind_eq_some_iff.mp hl
        refine tell_pure ok (nrs_row _) ?_
        rw [P.m_lawSpans]; simp [P.b_lawSpans]
        rw [if_pos (by omega)]
        simp [rng_map]
        generalize hr : forK _ _ _ _ _ = r
        obtain ⟨e, s', rfl, ⟨x, y, rfl⟩, rfl⟩ := forK_inv hr (List.range (k + 1).toNat) (fun (i : Nat) => .int (i : Int)) (fun pre e s => (∃ x y, e = [some (.ref n), some (.int k), some (rowL (runS B k.toNat pre.length).1), some (.int (runS B k.toNat pre.length).2), x, y]) ∧ s = st)
          (fun pre e s _ => rfl) (by simp [fuel]; omega) ⟨⟨none, none, rfl⟩, rfl⟩ (fun pre x post e s hL ⟨⟨y, z, a⟩, b⟩ => by
            subst a; subst b
            have hx := (rng_mid hL).2
            have hx1 := (rng_mid hL).1
            subst hx1
            have hlen := runS_len B k.toNat pre.length
            have hrs : runS B k.toNat (pre.length + 1) = runStep B k.toNat (runS B k.toNat pre.length) pre.length := rfl
            have e2 : (pre ++ [pre.length]).length = pre.length + 1 := by simp
            simp only [e2, hrs]
            generalize runS B k.toNat pre.length = q at *
            have l1 : q.1.length + 1 ≤ sizeLine := hL5 (by omega)
            by_cases c1 : (pre.length : Int) < k
            · have hb : pre.length < B.length := by omega
              have e1 : atI (B.map D.bl) (pre.length : Int) = some (.bl B[pre.length]) := by
                rw [atI_pos (by omega), Int.toNat_natCast, List.getElem?_map, List.getElem?_eq_getElem hb]; rfl
              have ht : toldAt B k.toNat pre.length = B[pre.length] := by
                unfold toldAt
                rw [List.getD_eq_getElem?_getD, List.getElem?_eq_getElem hb]
                have : decide (pre.length < k.toNat) = true := by simp; omega
                rw [this]; rfl
              generalize B[pre.length] = v at *
              cases v
              · by_cases c2 : 0 ≤ q.2
                · simp [ho, hsq, c1, e1, truD, c2, l1, runStep, ht, -List.map_map]
                · simp [ho, hsq, c1, e1, truD, c2, l1, runStep, ht, -List.map_map]
              · by_cases c2 : q.2 < 0
                · simp [ho, hsq, c1, e1, truD, c2, l1, runStep, ht, -List.map_map]
                · simp [ho, hsq, c1, e1, truD, c2, l1, runStep, ht, -List.map_map]
            · have ht : toldAt B k.toNat pre.length = false := by
                unfold toldAt
                have : decide (pre.length < k.toNat) = false := by simp; omega
                rw [this]; rfl
              by_cases c2 : 0 ≤ q.2
              · simp [ho, hsq, c1, truD, c2, l1, runStep, ht, -List.map_map]
              · simp [ho, hsq, c1, truD, c2, l1, runStep, ht, -List.map_map])
        simp [runR, show (k + 1).toNat = k.toNat + 1 by omega]
      · exact .bad
    · exact .bad
  · exact .bad

/-! ### range of two, subscripts set -/
def rng2K : D → D → Store → Out Src
  | .int i, .int j, st => if -(2 ^ 62) ≤ i ∧ i < 2 ^ 62 ∧ -(2 ^ 62) ≤ j ∧ j < 2 ^ 62 then .ok (.fix (rngD i (j - i).toNat)) st else .bad
  | _, _, _ => .bad
@[simp] theorem run_rng2 {a b : EM D} {env : Env} {st : Store} : iRng2D a b env st = (a env st).bind fun d st => (b env st).bind fun d2 st => rng2K d d2 st := by
  unfold iRng2D
  congr 1
  funext d st
  congr 1
  funext d2 st
  cases d <;> cases d2 <;> rfl
@[simp] theorem rng2K_int {i j : Int} {st : Store} : rng2K (.int i) (.int j) st = if -(2 ^ 62) ≤ i ∧ i < 2 ^ 62 ∧ -(2 ^ 62) ≤ j ∧ j < 2 ^ 62 then .ok (.fix (rngD i (j - i).toNat)) st else .bad := (rfl)
theorem rng2_map {lo : Int} {n : Nat} : rngD lo n = (List.range n).map fun i => .int (lo + (i : Int)) := rfl
theorem ixN_pos {n : Nat} {i : Int} (h : 0 ≤ i) (h2 : i < n) : ixN n i = some i.toNat := by
  unfold ixN
  rw [if_pos h, if_pos (by omega)]
theorem addFold_ok (size : Int) : ∀ (T S : List Sp), RowOk S → (∀ t ∈ T, 0 ≤ t.1) → RowOk (T.foldl (addIf size) S) ∧ ∀ p, (T.foldl (addIf size) S).any (isIn p) = (S.any (isIn p) || T.any (fun t => decide (t.1 ≤ p) && decide (p < min t.2 size)))
  | [], S, h, _ => ⟨h, fun p => by simp⟩
  | t :: T, S, h, ht => by
    have h0 := ht t (List.mem_cons_self ..)
    have hT := fun x hx => ht x (List.mem_cons_of_mem t hx)
    by_cases c : t.1 < min t.2 size
    · have e : addIf size S t = addR S t.1 (min t.2 size) := by unfold addIf; rw [if_pos c]
      have q := addR_ok h h0 (show t.1 ≤ min t.2 size by omega)
      rw [List.foldl_cons, e]
      obtain ⟨r1, r2⟩ := addFold_ok size T _ q.1 hT
      exact ⟨r1, fun p => by rw [r2, q.2, List.any_cons, Bool.or_assoc]⟩
    · have e : addIf size S t = S := by unfold addIf; rw [if_neg c]
      rw [List.foldl_cons, e]
      obtain ⟨r1, r2⟩ := addFold_ok size T _ h hT
      refine ⟨r1, fun p => ?_⟩
      have : (decide (t.1 ≤ p) && decide (p < min t.2 size)) = false := by rw [Bool.eq_false_iff]; simp; omega
      rw [r2, List.any_cons, this, Bool.false_or]
end DL
/-! Po: parts that weren't sent yet. -/
namespace DL
open PySem L2
/-- a part: where, and the signs (none: the end) -/
abbrev Pt := Int × Option (List Nat)
def ptD (p : Pt) : D := match p.2 with
  | some s => .tup [.str [100, 97, 116, 97], .int p.1, .str s]
  | none => .tup [.str [101, 110, 100], .int p.1]
structure NxSt where
  found : List Pt
  sent : Int
  es : Bool
def untilN (txt : List Nat) (most limit sent : Int) : Int := min (min (sent + most) limit) txt.length
def nextStep (txt : List Nat) (most limit : Int) (ended : Bool) (q : NxSt) : Option NxSt :=
  if q.sent < untilN txt most limit q.sent then some ⟨q.found ++ [(q.sent, some ((txt.drop q.sent.toNat).take ((untilN txt most limit q.sent).toNat - q.sent.toNat)))], untilN txt most limit q.sent, q.es⟩
  else if q.sent = txt.length ∧ ended = true ∧ q.es = false then some ⟨q.found ++ [(q.sent, none)], q.sent, true⟩ else none
def nextF (txt : List Nat) (most limit : Int) (ended : Bool) : Nat → NxSt → NxSt
  | 0, q => q
  | f + 1, q => match nextStep txt most limit ended q with
    | some q' => nextF txt most limit ended f q'
    | none => q
def nextG (g : Gv) (count : Int) : NxSt := nextF g.text g.most g.limit g.ended count.toNat ⟨[], g.sent, g.endSent⟩
def P.Giver_next_parts : FM := fun ds st => match ds with
  | [.ref n, .int count] => match st[n]?.bind gvOf with
    | some g => if g.text.length ≤ 100000 ∧ 0 ≤ g.sent ∧ count ≤ 10000 then .ok (.ref st.length) (st.set n (gvO { g with sent := (nextG g count).sent, endSent := (nextG g count).es }) ++ [.lst ((nextG g count).found.map ptD)]) else .bad
    | none => .bad
  | _ => .bad
theorem ptD_nr (p : Pt) : (ptD p).nr = true := by unfold ptD; split <;> rfl
theorem pts_nrs : ∀ l : List Pt, D.nrs (l.map ptD) = true
  | [] => rfl
  | p :: l => by simp [D.nrs, ptD_nr, pts_nrs l]
theorem step_found {txt : List Nat} {most limit : Int} {ended : Bool} {q q' : NxSt} (h : nextStep txt most limit ended q = some q') : q'.found.length = q.found.length + 1 ∧ q.sent ≤ q'.sent := by
  unfold nextStep at h
  split at h
  · cases h; exact ⟨by simp, by simp only; omega⟩
  · split at h
    · cases h; exact ⟨by simp, by simp only; omega⟩
    · cases h
def P.b_Giver_next_parts : SM := (sSeq (sSet 2 (eLst eNil))
    (sSeq (sWhile (tB (e2 oLt (e1 oLen (eCons (eVar 2) eNil)) (eVar 1)))
    (sSeq (sSet 3 (e1 oMin (eCons (e2 oAdd (eFld [.Giver] .sent (eVar 0)) (eFld [.Giver] .most (eVar 0))) (eCons (eFld [.Giver] .limit (eVar 0)) (eCons (e1 oLen (eCons (eFld [.Giver] .text (eVar 0)) eNil)) eNil)))))
    (sIf (tB (e2 oLt (eFld [.Giver] .sent (eVar 0)) (eVar 3)))
    (sSeq (sDo (eBM "list" mAppend (eVar 2) (eCons (eTup (eCons (eC (.str [100, 97, 116, 97])) (eCons (eFld [.Giver] .sent (eVar 0)) (eCons (eSli (eFld [.Giver] .text (eVar 0)) (oSo (eFld [.Giver] .sent (eVar 0))) (oSo (eVar 3))) eNil)))) eNil)))
    (sFldD [.Giver] .sent (eVar 0) (eVar 3)))
    (sIf (tAndD (tB (e2 oEq (eFld [.Giver] .sent (eVar 0)) (e1 oLen (eCons (eFld [.Giver] .text (eVar 0)) eNil)))) (tAndD (tTru (eFld [.Giver] .is_ended (eVar 0))) (tNotD (tTru (eFld [.Giver] .is_end_sent (eVar 0))))))
    (sSeq (sDo (eBM "list" mAppend (eVar 2) (eCons (eTup (eCons (eC (.str [101, 110, 100])) (eCons (eFld [.Giver] .sent (eVar 0)) eNil))) eNil)))
    (sFldD [.Giver] .is_end_sent (eVar 0) (eC (.bl true))))
    (sRet (eVar 2))))))
    (sRet (eVar 2))))
def P.m_Giver_next_parts : FM := fnM 2 4 P.b_Giver_next_parts


theorem P.tell_Giver_next_parts : ∀ (st : Store) (ds : List D), st.Ok → D.ltAll st.length ds = true → Tell st (P.Giver_next_parts ds st) (P.m_Giver_next_parts ds st) := by
  intro st ds ok lt
  unfold P.Giver_next_parts
  split
  · rename_i n count
    split
    · rename_i g hg
      obtain ⟨o, ho, hg⟩ := Option.bind_eq_some_iff.mp hg
      have hg := gvOf_eq hg
      subst hg
      have hn := lt_of_get ho
      split
      · rename_i hl
        obtain ⟨h1, h2, h3⟩ := hl
        have l1 := hL5 h1
        have main : P.m_Giver_next_parts [.ref n, .int count] st = .ok (.ref st.length) (st.set n (gvO { g with sent := (nextG g count).sent, endSent := (nextG g count).es }) ++ [.lst ((nextG g count).found.map ptD)]) := by
          rw [P.m_Giver_next_parts]
          simp [P.b_Giver_next_parts]
          have hst : st = st.set n (gvO { g with sent := g.sent, endSent := g.endSent }) := by
            refine List.ext_getElem? fun i => ?_
            by_cases hi : n = i
            · subst hi; rw [List.getElem?_set_self hn]; exact ho
            · rw [List.getElem?_set_ne hi]
          generalize hfin : nextG g count = fin
          generalize hr : whileF _ _ _ _ _ = r
          have key := while_out hr (fun r => (r.seq (sRet (eVar 2))).fn = .ok (.ref st.length) (st.set n (gvO { g with sent := fin.sent, endSent := fin.es }) ++ [.lst (fin.found.map ptD)]))
            (fun e s => ∃ (q : NxSt) (x : Option D), e = [some (.ref n), some (.int count), some (.ref st.length), x] ∧ s = st.set n (gvO { g with sent := q.sent, endSent := q.es }) ++ [.lst (q.found.map ptD)] ∧ 0 ≤ q.sent ∧ q.found.length ≤ count.toNat ∧ nextF g.text g.most g.limit g.ended (count.toNat - q.found.length) q = fin)
            (fun _ s => count.toNat - ((s[st.length]?.bind Ob.len).getD 0)) (by simp [fuel]; omega)
            ⟨⟨[], g.sent, g.endSent⟩, none, rfl, by rw [← hst]; rfl, h2, Nat.zero_le _, by rw [← hfin]; rfl⟩
            (fun e s ⟨q, x, a, b, c1, c2, c3⟩ => by
              subst a; subst b
              have hlen : (st.set n (gvO { g with sent := q.sent, endSent := q.es })).length = st.length := by simp
              have hget : (st.set n (gvO { g with sent := q.sent, endSent := q.es }) ++ [.lst (q.found.map ptD)])[n]? = some (gvO { g with sent := q.sent, endSent := q.es }) := by
                rw [List.getElem?_append_left (by rw [hlen]; exact hn), List.getElem?_set_self hn]
              have hgl : (st.set n (gvO { g with sent := q.sent, endSent := q.es }) ++ [.lst (q.found.map ptD)])[st.length]? = some (.lst (q.found.map ptD)) := by
                rw [List.getElem?_append_right (by rw [hlen]; exact Nat.le_refl _), hlen, Nat.sub_self]; rfl
              generalize hB : st.set n (gvO { g with sent := q.sent, endSent := q.es }) ++ [.lst (q.found.map ptD)] = B at *
              have setn : ∀ o l, (B.set st.length (.lst l)).set n o = st.set n o ++ [.lst l] := fun o l => by
                rw [← hB, List.set_append_right _ _ (by rw [hlen]; exact Nat.le_refl _), hlen, Nat.sub_self, List.set_append_left _ _ (by rw [hlen]; exact hn), List.set_set]; rfl
              have hget2 : ∀ l, (B.set st.length (.lst l))[n]? = some (gvO { g with sent := q.sent, endSent := q.es }) := fun l => by
                rw [List.getElem?_set_ne (by omega)]; exact hget
              have hmin : ∀ S : Store, oMin [.int (q.sent + g.most), .int g.limit, .int (g.text.length : Int)] S = some (.int (untilN g.text g.most g.limit q.sent), S) := fun S => rfl
              have hstep : nextStep g.text g.most g.limit g.ended q = if q.sent < untilN g.text g.most g.limit q.sent then some ⟨q.found ++ [(q.sent, some ((g.text.drop q.sent.toNat).take ((untilN g.text g.most g.limit q.sent).toNat - q.sent.toNat)))], untilN g.text g.most g.limit q.sent, q.es⟩ else if q.sent = g.text.length ∧ g.ended = true ∧ q.es = false then some ⟨q.found ++ [(q.sent, none)], q.sent, true⟩ else none := rfl
              by_cases hlt : (q.found.length : Int) < count
              · have l2 : q.found.length < sizeLine := hL5' (by omega)
                obtain ⟨f, hf⟩ : ∃ f, count.toNat - q.found.length = f + 1 := ⟨count.toNat - q.found.length - 1, by omega⟩
                rw [hf] at c3
                have hlst : ∀ (S : Store) (l : List D), S.length = st.length → (((S ++ [.lst l])[st.length]?.bind Ob.len).getD 0) = l.length := fun S l hl => by
                  rw [← hl, List.getElem?_append_right (Nat.le_refl _), Nat.sub_self]; rfl
                have hold : (B[st.length]?.bind Ob.len).getD 0 = q.found.length := by rw [hgl]; simp
                by_cases d1 : q.sent < untilN g.text g.most g.limit q.sent
                · rw [if_pos d1] at hstep
                  have hcm := cut_mid (l := g.text) c1 (show 0 ≤ untilN g.text g.most g.limit q.sent by omega)
                  generalize untilN g.text g.most g.limit q.sent = U at *
                  have c3' : nextF g.text g.most g.limit g.ended f ⟨q.found ++ [(q.sent, some ((g.text.drop q.sent.toNat).take (U.toNat - q.sent.toNat)))], U, q.es⟩ = fin := by
                    rw [← c3]; simp only [nextF, hstep]
                  simp [hget, hgl, hlt, l1, l2, hmin, d1, hcm, hget2, setn, -min_3]
                  refine ⟨⟨⟨q.found ++ [(q.sent, some ((g.text.drop q.sent.toNat).take (U.toNat - q.sent.toNat)))], U, q.es⟩, ⟨rfl, by simp [ptD]⟩, by simp only; omega, by simp; omega, ?_⟩, by omega⟩
                  have : count.toNat - (q.found ++ [(q.sent, some ((g.text.drop q.sent.toNat).take (U.toNat - q.sent.toNat)))]).length = f := by simp; omega
                  rw [this]; exact c3'
                · rw [if_neg d1] at hstep
                  by_cases e1 : q.sent = (g.text.length : Int)
                  · have e1' : (q.sent = (g.text.length : Int)) = True := eq_true e1
                    cases e2 : g.ended
                    · rw [e2] at hstep
                      simp at hstep
                      have hq : q = fin := by rw [← c3, e2]; simp only [nextF, hstep]
                      simp [hget, hgl, hlt, l1, hmin, d1, e1', e2, truD, -min_3]
                      rw [← hB, hq, e2]
                    · rw [e2] at hstep
                      cases e3 : q.es
                      · rw [e3] at hstep
                        simp [e1'] at hstep
                        have c3' : nextF g.text g.most g.limit g.ended f ⟨q.found ++ [(q.sent, none)], q.sent, true⟩ = fin := by
                          rw [← c3, e2]; simp only [nextF, hstep]
                        simp [hget, hgl, hlt, l1, l2, hmin, d1, e1', e2, e3, truD, hget2, setn, -min_3]
                        refine ⟨⟨⟨q.found ++ [(q.sent, none)], q.sent, true⟩, ⟨by simp [e2], by simp [ptD]⟩, c1, by simp; omega, ?_⟩, by omega⟩
                        have : count.toNat - (q.found ++ [((q.sent, none) : Pt)]).length = f := by simp; omega
                        rw [this]; rw [e2] at c3'; exact c3'
                      · rw [e3] at hstep
                        simp at hstep
                        have hq : q = fin := by rw [← c3, e2]; simp only [nextF, hstep]
                        simp [hget, hgl, hlt, l1, hmin, d1, e1', e2, e3, truD, -min_3]
                        rw [← hB, hq, e2]
                  · have hq : q = fin := by
                      have hs : nextStep g.text g.most g.limit g.ended q = none := by rw [hstep, if_neg (fun h => e1 h.1)]
                      rw [← c3]; simp only [nextF, hs]
                    simp [hget, hgl, hlt, l1, hmin, d1, e1, truD, -min_3]
                    rw [← hB, hq]
              · have hz : count.toNat - q.found.length = 0 := by omega
                rw [hz] at c3
                have hq : q = fin := c3
                simp [hgl, hlt]
                rw [← hB, hq])
          exact key
        rw [main]
        refine .eq (by simp) (Ok.app1 (Ok.set ok (gvO_lt _ _)) ?_) (by simp [D.lt])
        exact D.ltAll_of_nrs _ (pts_nrs _)
      · exact .bad
    · exact .bad
  · exact .bad
end DL
/-! Pq: parts to be sent once more. -/
namespace DL
open PySem L2
def midL (txt : List Nat) (a b : Int) : List Nat := (txt.drop a.toNat).take (b.toNat - a.toNat)
def chop (txt : List Nat) (m cnt : Int) : Nat → Int → Int → List Pt → List Pt
  | 0, _, _, F => F
  | f + 1, at', e, F => if at' < e ∧ (F.length : Int) < cnt then chop txt m cnt f (min (at' + m) e) e (F ++ [(at', some (midL txt at' (min (at' + m) e)))]) else F
theorem chop_stop {txt : List Nat} {m cnt at' e : Int} {F : List Pt} (h : ¬ (at' < e ∧ (F.length : Int) < cnt)) : ∀ f, chop txt m cnt f at' e F = F
  | 0 => rfl
  | f + 1 => by unfold chop; rw [if_neg h]
theorem chop_fuel {txt : List Nat} {m cnt e : Int} (hm : 1 ≤ m) : ∀ (f f' : Nat) (at' : Int) (F : List Pt), (e - at').toNat ≤ f → (e - at').toNat ≤ f' → chop txt m cnt f at' e F = chop txt m cnt f' at' e F
  | 0, f', at', F, h, _ => by rw [chop_stop (by omega), chop_stop (by omega)]
  | f + 1, 0, at', F, _, h => by rw [chop_stop (by omega), chop_stop (by omega)]
  | f + 1, f' + 1, at', F, h, h' => by
    unfold chop
    split
    · exact chop_fuel hm f f' _ _ (by omega) (by omega)
    · rfl
def chopL (txt : List Nat) (m cnt at' e : Int) (F : List Pt) : List Pt := chop txt m cnt (e - at').toNat at' e F
theorem chopL_stop {txt : List Nat} {m cnt at' e : Int} {F : List Pt} (h : ¬ (at' < e ∧ (F.length : Int) < cnt)) : chopL txt m cnt at' e F = F := chop_stop h _
theorem chopL_step {txt : List Nat} {m cnt at' e : Int} {F : List Pt} (hm : 1 ≤ m) (h : at' < e) (h2 : (F.length : Int) < cnt) :
    chopL txt m cnt at' e F = chopL txt m cnt (min (at' + m) e) e (F ++ [(at', some (midL txt at' (min (at' + m) e)))]) := by
  unfold chopL
  obtain ⟨f, hf⟩ : ∃ f, (e - at').toNat = f + 1 := ⟨(e - at').toNat - 1, by omega⟩
  rw [hf]
  show (if at' < e ∧ (F.length : Int) < cnt then _ else _) = _
  rw [if_pos ⟨h, h2⟩]
  exact chop_fuel hm _ _ _ _ (by omega) (by omega)
def againL (txt : List Nat) (m cnt : Int) (H : List Sp) (F : List Pt) : List Pt := H.foldl (fun F s => chopL txt m cnt s.1 s.2 F) F
def againF (g : Gv) (cnt : Int) : List Pt := if g.come < g.sent then againL g.text g.most cnt (holeR g.spans g.come g.sent) [] else []
def againG (g : Gv) (cnt : Int) : List Pt := if cnt = 0 then [] else if 0 < (againF g cnt).length then againF g cnt else
  if g.endSent = true ∧ g.fin = false then [((g.text.length : Int), none)] else if g.sent < g.text.length ∨ g.heard = false then [(g.sent, some [])] else []
theorem chop_len {txt : List Nat} {m cnt : Int} : ∀ (f : Nat) (at' e : Int) (F : List Pt), F.length ≤ cnt.toNat → (chop txt m cnt f at' e F).length ≤ cnt.toNat
  | 0, _, _, F, h => h
  | f + 1, at', e, F, h => by
    unfold chop; split
    · exact chop_len f _ _ _ (by simp; omega)
    · exact h
theorem againL_len {txt : List Nat} {m cnt : Int} : ∀ (H : List Sp) (F : List Pt), F.length ≤ cnt.toNat → (againL txt m cnt H F).length ≤ cnt.toNat
  | [], F, h => h
  | s :: H, F, h => againL_len H _ (chop_len _ _ _ _ h)
theorem hole_ge (e : Int) {b : Int} : ∀ (S : List Sp) (q : List Sp × Int), b ≤ q.2 → (∀ s ∈ q.1, b ≤ s.1) → b ≤ (S.foldl (holeStep e) q).2 ∧ ∀ s ∈ (S.foldl (holeStep e) q).1, b ≤ s.1
  | [], q, h, h2 => ⟨h, h2⟩
  | s :: S, q, h, h2 => by
    rw [List.foldl_cons]
    refine hole_ge e S _ ?_ ?_
    · unfold holeStep; simp only; omega
    · unfold holeStep; simp only
      split
      · intro t ht
        rcases List.mem_append.mp ht with ht | ht
        · exact h2 t ht
        · rw [List.mem_singleton] at ht; subst ht; exact h
      · exact h2
theorem holeR_ge {R : List Sp} {b e : Int} : ∀ s ∈ holeR R b e, b ≤ s.1 := by
  obtain ⟨h1, h2⟩ := hole_ge e R ([], b) (Int.le_refl _) (fun _ h => nomatch h)
  unfold holeR
  split
  · intro t ht
    rcases List.mem_append.mp ht with ht | ht
    · exact h2 t ht
    · rw [List.mem_singleton] at ht; subst ht; exact h1
  · exact h2
def P.Giver_again : FM := fun ds st => match ds with
  | [.ref n, .int count] => match st[n]?.bind gvOf with
    | some g => if g.text.length ≤ 100000 ∧ 0 ≤ g.come ∧ 1 ≤ g.most ∧ count ≤ 10000 ∧ g.spans.length ≤ 5000 then .ok (.ref st.length) (st ++ [.lst ((againG g count).map ptD)]) else .bad
    | none => .bad
  | _ => .bad
def P.b_Giver_again : SM := (sSeq (sIf (tB (e2 oEq (eVar 1) (eC (.int 0))))
    (sRet (eLst eNil))
    sSkip)
    (sSeq (sSet 2 (eLst eNil))
    (sSeq (sIf (tB (e2 oLt (eFld [.Giver] .come (eVar 0)) (eFld [.Giver] .sent (eVar 0))))
    (sFor (iSeq (eCall DL.P.holes (eCons (eFld [.Giver] .spans (eVar 0)) (eCons (eFld [.Giver] .come (eVar 0)) (eCons (eFld [.Giver] .sent (eVar 0)) eNil))))) (tTup2 3 4)
    (sSeq (sSet 5 (eVar 3))
    (sWhile (tAndD (tB (e2 oLt (eVar 5) (eVar 4))) (tB (e2 oLt (e1 oLen (eCons (eVar 2) eNil)) (eVar 1))))
    (sSeq (sSet 6 (e1 oMin (eCons (e2 oAdd (eVar 5) (eFld [.Giver] .most (eVar 0))) (eCons (eVar 4) eNil))))
    (sSeq (sDo (eBM "list" mAppend (eVar 2) (eCons (eTup (eCons (eC (.str [100, 97, 116, 97])) (eCons (eVar 5) (eCons (eSli (eFld [.Giver] .text (eVar 0)) (oSo (eVar 5)) (oSo (eVar 6))) eNil)))) eNil)))
    (sSet 5 (eVar 6)))))))
    sSkip)
    (sSeq (sIf (tB (e2 oGt (e1 oLen (eCons (eVar 2) eNil)) (eC (.int 0))))
    (sRet (eVar 2))
    sSkip)
    (sSeq (sIf (tAndD (tTru (eFld [.Giver] .is_end_sent (eVar 0))) (tNotD (tTru (eFld [.Giver] .is_done (eVar 0)))))
    (sRet (eLst (eCons (eTup (eCons (eC (.str [101, 110, 100])) (eCons (e1 oLen (eCons (eFld [.Giver] .text (eVar 0)) eNil)) eNil))) eNil)))
    sSkip)
    (sSeq (sIf (tOrD (tB (e2 oLt (eFld [.Giver] .sent (eVar 0)) (e1 oLen (eCons (eFld [.Giver] .text (eVar 0)) eNil)))) (tNotD (tTru (eFld [.Giver] .is_heard (eVar 0)))))
    (sRet (eLst (eCons (eTup (eCons (eC (.str [100, 97, 116, 97])) (eCons (eFld [.Giver] .sent (eVar 0)) (eCons (eC (.str [])) eNil)))) eNil)))
    sSkip)
    (sRet (eLst eNil))))))))
def P.m_Giver_again : FM := fnM 2 7 P.b_Giver_again

def P.againW : SM := (sIf (tB (e2 oLt (eFld [.Giver] .come (eVar 0)) (eFld [.Giver] .sent (eVar 0))))
    (sFor (iSeq (eCall DL.P.holes (eCons (eFld [.Giver] .spans (eVar 0)) (eCons (eFld [.Giver] .come (eVar 0)) (eCons (eFld [.Giver] .sent (eVar 0)) eNil))))) (tTup2 3 4)
    (sSeq (sSet 5 (eVar 3))
    (sWhile (tAndD (tB (e2 oLt (eVar 5) (eVar 4))) (tB (e2 oLt (e1 oLen (eCons (eVar 2) eNil)) (eVar 1))))
    (sSeq (sSet 6 (e1 oMin (eCons (e2 oAdd (eVar 5) (eFld [.Giver] .most (eVar 0))) (eCons (eVar 4) eNil))))
    (sSeq (sDo (eBM "list" mAppend (eVar 2) (eCons (eTup (eCons (eC (.str [100, 97, 116, 97])) (eCons (eVar 5) (eCons (eSli (eFld [.Giver] .text (eVar 0)) (oSo (eVar 5)) (oSo (eVar 6))) eNil)))) eNil)))
    (sSet 5 (eVar 6)))))))
    sSkip)
def P.againT : SM := (sSeq (sIf (tB (e2 oGt (e1 oLen (eCons (eVar 2) eNil)) (eC (.int 0))))
    (sRet (eVar 2))
    sSkip)
    (sSeq (sIf (tAndD (tTru (eFld [.Giver] .is_end_sent (eVar 0))) (tNotD (tTru (eFld [.Giver] .is_done (eVar 0)))))
    (sRet (eLst (eCons (eTup (eCons (eC (.str [101, 110, 100])) (eCons (e1 oLen (eCons (eFld [.Giver] .text (eVar 0)) eNil)) eNil))) eNil)))
    sSkip)
    (sSeq (sIf (tOrD (tB (e2 oLt (eFld [.Giver] .sent (eVar 0)) (e1 oLen (eCons (eFld [.Giver] .text (eVar 0)) eNil)))) (tNotD (tTru (eFld [.Giver] .is_heard (eVar 0)))))
    (sRet (eLst (eCons (eTup (eCons (eC (.str [100, 97, 116, 97])) (eCons (eFld [.Giver] .sent (eVar 0)) (eCons (eC (.str [])) eNil)))) eNil)))
    sSkip)
    (sRet (eLst eNil)))))
theorem againF_len (g : Gv) (count : Int) : (againF g count).length ≤ count.toNat := by
  unfold againF; split
  · exact againL_len _ _ (Nat.zero_le _)
  · exact Nat.zero_le _
theorem P.againW_ok {st : Store} {n : Nat} {count : Int} {g : Gv} (ho : st[n]? = some (gvO g)) (h1 : g.text.length ≤ 100000) (h2 : 0 ≤ g.come) (h3 : 1 ≤ g.most) (h4 : count ≤ 10000) (h5 : g.spans.length ≤ 5000) (x3 x4 x5 x6 : Option D) :
    ∃ y3 y4 y5 y6, P.againW [some (.ref n), some (.int count), some (.ref st.length), x3, x4, x5, x6] (st ++ [.lst []]) = .nx [some (.ref n), some (.int count), some (.ref st.length), y3, y4, y5, y6] (st ++ [.lst ((againF g count).map ptD)]) := by
  have hget : ∀ l, (st ++ l)[n]? = some (gvO g) := fun l => get_old ho
  have l1 := hL5 h1
  by_cases hc : g.come < g.sent
  · have hh : ∀ S, P.holes [rowL g.spans, .int g.come, .int g.sent] S = .ok (rowL (holeR g.spans g.come g.sent)) S := fun S => P.holes_eq (by omega) (by omega) (by omega)
    have hge := holeR_ge (R := g.spans) (b := g.come) (e := g.sent)
    have hlen := holeR_len (R := g.spans) (b := g.come) (e := g.sent)
    have hF : againF g count = againL g.text g.most count (holeR g.spans g.come g.sent) [] := by unfold againF; rw [if_pos hc]
    rw [hF]
    generalize holeR g.spans g.come g.sent = H at *
    simp [P.againW, hget, hc, hh, -List.map_map]
    generalize hr : forK _ _ _ _ _ = r
    obtain ⟨e, s', rfl, ⟨y3, y4, y5, y6, rfl⟩, rfl⟩ := forK_inv hr H spD (fun pre e s => (∃ y3 y4 y5 y6, e = [some (.ref n), some (.int count), some (.ref st.length), y3, y4, y5, y6]) ∧ s = st ++ [.lst ((againL g.text g.most count pre []).map ptD)])
      (fun pre e s _ => rfl) (by simp [fuel]; omega) ⟨⟨x3, x4, x5, x6, rfl⟩, rfl⟩ (fun pre p post e s hL ⟨⟨y3, y4, y5, y6, a⟩, b⟩ => by
        subst a; subst b
        have hp0 : 0 ≤ p.1 := by have := hge p (by rw [hL]; simp); omega
        have happ : againL g.text g.most count (pre ++ [p]) [] = chopL g.text g.most count p.1 p.2 (againL g.text g.most count pre []) := by unfold againL; rw [List.foldl_append]; rfl
        rw [happ]
        have hFl := againL_len (txt := g.text) (m := g.most) (cnt := count) pre [] (Nat.zero_le _)
        generalize againL g.text g.most count pre [] = F at *
        simp [spD]
        generalize hfin : chopL g.text g.most count p.1 p.2 F = fin
        generalize hr : whileF _ _ _ _ _ = r
        exact while_out hr (fun r => r.out (fun e s => (∃ y3 y4 y5 y6, e = [some (.ref n), some (.int count), some (.ref st.length), y3, y4, y5, y6]) ∧ s = st ++ [.lst (fin.map ptD)]) NoR)
          (fun e s => ∃ (at' : Int) (F : List Pt) (x : Option D), e = [some (.ref n), some (.int count), some (.ref st.length), some (.int p.1), some (.int p.2), some (.int at'), x] ∧ s = st ++ [.lst (F.map ptD)] ∧ 0 ≤ at' ∧ F.length ≤ count.toNat ∧ chopL g.text g.most count at' p.2 F = fin)
          (fun _ s => count.toNat - ((s[st.length]?.bind Ob.len).getD 0)) (by simp [fuel]; omega)
          ⟨p.1, F, y6, rfl, rfl, hp0, hFl, hfin⟩
          (fun e s ⟨at', F, x, a, b, c1, c2, c3⟩ => by
            subst a; subst b
            have l2 := hL5 (show F.length ≤ 100000 by omega)
            by_cases d1 : at' < p.2
            · by_cases d2 : (F.length : Int) < count
              · have hmin : ∀ S : Store, oMin [.int (at' + g.most), .int p.2] S = some (.int (min (at' + g.most) p.2), S) := fun S => rfl
                have l3 : F.length < sizeLine := hL5' (by omega)
                have hcm := cut_mid (l := g.text) c1 (show 0 ≤ min (at' + g.most) p.2 by omega)
                rw [chopL_step h3 d1 d2] at c3
                have hmid : midL g.text at' (min (at' + g.most) p.2) = (g.text.drop at'.toNat).take ((min (at' + g.most) p.2).toNat - at'.toNat) := rfl
                have hU : at' < min (at' + g.most) p.2 := by omega
                generalize min (at' + g.most) p.2 = U at *
                simp [hget, d1, d2, l1, l2, l3, hmin, hcm]
                refine ⟨⟨F ++ [(at', some (midL g.text at' U))], by simp [ptD, hmid], by omega, by simp; omega, c3⟩, by omega⟩
              · rw [chopL_stop (by omega)] at c3
                subst c3
                simp [hget, d1, d2, l2]
            · rw [chopL_stop (by omega)] at c3
              subst c3
              simp [hget, d1, l2]))
    simp
  · have hF : againF g count = [] := by unfold againF; rw [if_neg hc]
    rw [hF]
    simp [P.againW, hget, hc]

theorem P.tell_Giver_again : ∀ (st : Store) (ds : List D), st.Ok → D.ltAll st.length ds = true → Tell st (P.Giver_again ds st) (P.m_Giver_again ds st) := by
  intro st ds ok lt
  unfold P.Giver_again
  split
  · rename_i n count
    split
    · rename_i g hg
      obtain ⟨o, ho, hg⟩ := Option.bind_eq_some_iff.mp hg
      have hg := gvOf_eq hg
      subst hg
      have hn := lt_of_get ho
      have hget : ∀ l, (st ++ l)[n]? = some (gvO g) := fun l => get_old ho
      split
      · rename_i hl
        obtain ⟨h1, h2, h3, h4, h5⟩ := hl
        have l1 := hL5 h1
        refine tell_list ok (D.ltAll_of_nrs _ (pts_nrs _)) ?_
        rw [P.m_Giver_again]
        by_cases hc : count = 0
        · exact ⟨[.lst []], 0, by simp [P.b_Giver_again, hc], by simp [againG, hc]⟩
        · have hW := P.againW_ok (st := st) (n := n) (count := count) ho h1 h2 h3 h4 h5 none none none none
          obtain ⟨w3, w4, w5, w6, hW⟩ := hW
          have e0 : P.m_Giver_again [.ref n, .int count] st = (P.againT [some (.ref n), some (.int count), some (.ref st.length), w3, w4, w5, w6] (st ++ [.lst ((againF g count).map ptD)])).fn := by
            rw [P.m_Giver_again]
            show fnM 2 7 (sSeq _ (sSeq (sSet 2 (eLst eNil)) (sSeq P.againW P.againT))) _ _ = _
            simp [hc, hW]
          rw [P.m_Giver_again] at e0
          rw [e0]
          have hlen := againF_len g count
          have l2 := hL5 (show (againF g count).length ≤ 100000 by omega)
          unfold againG
          rw [if_neg hc]
          generalize againF g count = F at *
          by_cases c1 : 0 < F.length
          · rw [if_pos c1]
            refine ⟨[.lst (F.map ptD)], 0, ?_, rfl⟩
            have : F ≠ [] := by intro h; rw [h] at c1; exact absurd c1 (by simp)
            simp [P.againT, l2, this]
          · rw [if_neg c1]
            have hF : F = [] := by cases F; rfl; simp at c1
            subst hF
            have hs : ∀ l, (st ++ l)[n]? = some (gvO g) := hget
            cases d1 : g.endSent
            · by_cases d3 : g.sent < g.text.length
              · exact ⟨[.lst [], .lst [.tup [.str [100, 97, 116, 97], .int g.sent, .str []]]], 1, by simp [P.againT, hs, d1, d3, truD, l1], by simp [d3, ptD]⟩
              · cases d4 : g.heard
                · exact ⟨[.lst [], .lst [.tup [.str [100, 97, 116, 97], .int g.sent, .str []]]], 1, by simp [P.againT, hs, d1, d3, d4, truD, l1], by simp [d3, ptD]⟩
                · exact ⟨[.lst [], .lst []], 1, by simp [P.againT, hs, d1, d3, d4, truD, l1], by simp [d3]⟩
            · cases d2 : g.fin
              · exact ⟨[.lst [], .lst [.tup [.str [101, 110, 100], .int (g.text.length : Int)]]], 1, by simp [P.againT, hs, d1, d2, truD, l1], by simp [ptD]⟩
              · by_cases d3 : g.sent < g.text.length
                · exact ⟨[.lst [], .lst [.tup [.str [100, 97, 116, 97], .int g.sent, .str []]]], 1, by simp [P.againT, hs, d1, d2, d3, truD, l1], by simp [d3, ptD]⟩
                · cases d4 : g.heard
                  · exact ⟨[.lst [], .lst [.tup [.str [100, 97, 116, 97], .int g.sent, .str []]]], 1, by simp [P.againT, hs, d1, d2, d3, d4, truD, l1], by simp [d3, ptD]⟩
                  · exact ⟨[.lst [], .lst []], 1, by simp [P.againT, hs, d1, d2, d3, d4, truD, l1], by simp [d3]⟩
      · exact .bad
    · exact .bad
  · exact .bad
end DL
/-! DLv: dicts by whole numbers. -/
namespace DL
open PySem L2
section
variable {α : Type}
def kvI (f : α → D) (p : Int × α) : Kd × D := (Sum.inl p.1, f p.2)
def dI (f : α → D) (B : List (Int × α)) : List (Kd × D) := B.map (kvI f)
def lookI (B : List (Int × α)) (k : Int) : Option α := (B.find? fun p => decide (p.1 = k)).map (·.2)
def putI (B : List (Int × α)) (k : Int) (v : α) : List (Int × α) := if (B.any fun p => decide (p.1 = k)) = true then B.map (fun p => if p.1 = k then (p.1, v) else p) else B ++ [(k, v)]
def dropI (B : List (Int × α)) (k : Int) : List (Int × α) := B.filter fun p => decide (p.1 ≠ k)
variable (f : α → D) (B : List (Int × α)) (k j : Int) (v : α)
@[simp] theorem lookI_nil : lookI ([] : List (Int × α)) k = none := rfl
theorem lookI_cons (p : Int × α) : lookI (p :: B) k = if p.1 = k then some p.2 else lookI B k := by
  unfold lookI; rw [List.find?_cons]; by_cases h : p.1 = k <;> simp [h]
theorem lookI_app (C : List (Int × α)) : lookI (B ++ C) k = (lookI B k).or (lookI C k) := by
  unfold lookI; rw [List.find?_append]; cases B.find? _ <;> rfl
@[simp] theorem dI_nil : dI f [] = [] := rfl
@[simp] theorem dI_len : (dI f B).length = B.length := by simp [dI]
theorem lookK_dI : lookK (dI f B) (.inl k) = (lookI B k).map f := by
  induction B with
  | nil => rfl
  | cons p B ih =>
    rw [lookI_cons]
    unfold lookK dI at *
    rw [List.map_cons, List.find?_cons]
    by_cases h : p.1 = k
    · simp [kvI, h]
    · have : decide ((kvI f p).1 = Sum.inl k) = false := by simp [kvI, h]
      rw [this, if_neg h]; exact ih
theorem any_dI : ((dI f B).any fun kv => decide (kv.1 = Sum.inl k)) = B.any fun p => decide (p.1 = k) := by
  unfold dI; rw [List.any_map]; congr 1; funext p; simp [kvI]
theorem putKD_dI : putKD (dI f B) (.inl k) (f v) = dI f (putI B k v) := by
  unfold putKD putI
  rw [any_dI]
  split
  · unfold dI; rw [List.map_map, List.map_map]
    apply List.map_congr_left; intro p _
    by_cases h : p.1 = k <;> simp [kvI, h]
  · simp [dI, kvI]
theorem dropKD_dI : dropKD (dI f B) (.inl k) = dI f (dropI B k) := by
  unfold dropKD dropI dI
  rw [List.filter_map]
  congr 1
  apply List.filter_congr; intro p _; simp [kvI]
theorem any_look : (B.any fun p => decide (p.1 = k)) = (lookI B k).isSome := by
  induction B with
  | nil => rfl
  | cons p B ih => rw [List.any_cons, lookI_cons, ih]; by_cases h : p.1 = k <;> simp [h]
theorem putI_new (h : lookI B k = none) : putI B k v = B ++ [(k, v)] := by
  unfold putI; rw [any_look, h]; rfl
theorem lookI_put : lookI (putI B k v) j = if j = k then some v else lookI B j := by
  unfold putI
  rw [any_look]
  cases z : lookI B k with
  | none =>
    rw [if_neg (by simp), lookI_app, lookI_cons]
    by_cases h : j = k
    · subst h; simp [z]
    · have : ¬ k = j := fun e => h e.symm
      simp [h, this]
  | some w =>
    rw [show (some w).isSome = true from rfl, if_pos rfl]
    induction B with
    | nil => cases z
    | cons p B ih =>
      rw [List.map_cons, lookI_cons, lookI_cons]
      rw [lookI_cons] at z
      by_cases h : p.1 = k
      · simp only [h, if_true]
        by_cases e : k = j
        · simp [e]
        · have : ¬ j = k := fun x => e x.symm
          simp only [e, if_false, this]
          clear ih z
          induction B with
          | nil => rfl
          | cons q B ih2 =>
            rw [List.map_cons, lookI_cons, lookI_cons, ih2]
            by_cases g : q.1 = k
            · simp [g, e]
            · simp [g]
      · rw [if_neg h] at z
        simp only [h, if_false]
        rw [ih z]
        by_cases e : p.1 = j
        · have : ¬ j = k := fun x => h (by rw [e, x])
          simp [e, this]
        · simp [e]
theorem lookI_drop : lookI (dropI B k) j = if j = k then none else lookI B j := by
  induction B with
  | nil => simp [dropI]
  | cons p B ih =>
    have : dropI (p :: B) k = if p.1 = k then dropI B k else p :: dropI B k := by
      unfold dropI; rw [List.filter_cons]; by_cases h : p.1 = k <;> simp [h]
    rw [this]
    by_cases h : p.1 = k
    · rw [if_pos h, ih, lookI_cons]
      by_cases e : j = k
      · simp [e]
      · have : ¬ p.1 = j := fun x => e (by rw [← x, h])
        simp [e, this]
    · rw [if_neg h, lookI_cons, lookI_cons, ih]
      by_cases e : p.1 = j
      · have : ¬ j = k := fun x => h (by rw [e, x])
        simp [e, this]
      · simp [e]
theorem putI_len : (putI B k v).length ≤ B.length + 1 := by unfold putI; split <;> simp
theorem dropI_len : (dropI B k).length ≤ B.length := List.length_filter_le ..
theorem dropI_len_lt (h : (lookI B k).isSome = true) : (dropI B k).length < B.length := by
  rw [← any_look] at h
  obtain ⟨p, hp, e⟩ := List.any_eq_true.mp h
  unfold dropI
  refine List.length_filter_lt_length_iff_exists.mpr ⟨p, hp, ?_⟩
  simpa using e
theorem look_key : (lookI B k).isSome = true ↔ k ∈ B.map (·.1) := by
  rw [← any_look, List.any_eq_true]; simp
theorem keys_put_nodup (h : (B.map (·.1)).Nodup) : ((putI B k v).map (·.1)).Nodup := by
  unfold putI
  rw [any_look]
  cases z : lookI B k with
  | none =>
    rw [if_neg (by simp), List.map_append, List.nodup_append]
    refine ⟨h, by simp, fun a ha b hb => ?_⟩
    rintro rfl
    have : k ∈ B.map (·.1) := by simp at hb; subst hb; exact ha
    rw [← look_key, z] at this; cases this
  | some w =>
    rw [show (some w).isSome = true from rfl, if_pos rfl, List.map_map]
    have : (B.map ((fun p => p.1) ∘ fun p => if p.1 = k then (p.1, v) else p)) = B.map (·.1) := by
      apply List.map_congr_left; intro p _; simp only [Function.comp]; split <;> rfl
    rw [this]; exact h
theorem keys_drop_nodup (h : (B.map (·.1)).Nodup) : ((dropI B k).map (·.1)).Nodup := h.sublist (List.Sublist.map _ List.filter_sublist)
theorem lookI_mem {B : List (Int × α)} {k : Int} {v : α} (h : lookI B k = some v) : (k, v) ∈ B := by
  unfold lookI at h
  obtain ⟨p, hp, rfl⟩ := Option.map_eq_some_iff.mp h
  have h1 := List.find?_some hp
  have h2 := List.mem_of_find?_eq_some hp
  simp at h1; subst h1; exact h2
theorem lookI_of_mem {B : List (Int × α)} (h : (B.map (·.1)).Nodup) {k : Int} {v : α} (hm : (k, v) ∈ B) : lookI B k = some v := by
  induction B with
  | nil => cases hm
  | cons p B ih =>
    rw [List.map_cons, List.nodup_cons] at h
    rw [lookI_cons]
    rcases List.mem_cons.mp hm with rfl | hm
    · simp
    · have : ¬ p.1 = k := fun e => h.1 (by rw [e]; exact List.mem_map.mpr ⟨_, hm, rfl⟩)
      rw [if_neg this]; exact ih h.2 hm
end
section
variable {st : Store} {n : Nat} {x : D} {env : Env}
/-! in the form that simp keeps -/
def Ob.inn (x : D) (d : Option Bool) : Ob → Option Bool
  | .dic l => (keyD x).map fun k => (lookK l k).isSome
  | .dtp l => (keysD x).map fun k => (lookK l k).isSome
  | .lst l => match inSeq x l with
    | some c => some c
    | none => d
  | .frz l => match inSeq x l with
    | some c => some c
    | none => d
  | _ => none
@[simp] theorem inn_dic (l : List (Kd × D)) (d : Option Bool) : Ob.inn x d (.dic l) = (keyD x).map fun k => (lookK l k).isSome := (rfl)
@[simp] theorem inn_dtp (l : List (List Kd × D)) (d : Option Bool) : Ob.inn x d (.dtp l) = (keysD x).map fun k => (lookK l k).isSome := (rfl)
@[simp] theorem inn_ins (c : CN) (l : List (FN × D)) (d : Option Bool) : Ob.inn x d (.ins c l) = none := (rfl)
theorem inn_lst {l : List D} {d : Option Bool} {c : Bool} (h : inSeq x l = some c) : Ob.inn x d (.lst l) = some c := by simp [Ob.inn, h]
@[simp] theorem inD_at : inD x (.ref n) st = st[n]?.bind (Ob.inn x (inDeep x (.ref n) st)) := by
  unfold inD
  cases h : st[n]? with
  | none => simp [h, inS]
  | some o => cases o with
    | lst l => simp [h, inS, Ob.inn] <;> rfl
    | frz l => simp [h, inS, Ob.inn] <;> rfl
    | dic l => simp [h, inK, Function.comp_def]
    | dtp l => simp [h, inK, Function.comp_def]
    | ins c l => simp [h, inS]
@[simp] theorem inD_tup (l : List D) : inD x (.tup l) st = inSeq x l := (rfl)
@[simp] theorem keyD_int (i : Int) : keyD (.int i) = some (.inl i) := (rfl)
@[simp] theorem keyD_str (s : List Nat) : keyD (.str s) = some (.inr s) := (rfl)
def get1K (mi : EM D) (env : Env) : D → Store → Out D
  | .ref n, st => if isDict st (.ref n) = true then (mi env st).bind fun k st => .of ((st[n]?.bind (Ob.dget k)).map fun r => (r.getD .non, st)) else .bad
  | _, _ => .bad
@[simp] theorem get1K_ref {mi : EM D} : get1K mi env (.ref n) st = if (st[n]?.map Ob.isDic).getD false = true then (mi env st).bind fun k st => .of ((st[n]?.bind (Ob.dget k)).map fun r => (r.getD .non, st)) else .bad := by
  show (if isDict st (.ref n) = true then _ else _) = _; rw [isDict_at]
@[simp] theorem run_get1 {mo mi : EM D} : eGet1 mo mi env st = (mo env st).bind (get1K mi env) := by
  unfold eGet1
  congr 1
  funext d st
  cases d with
  | ref n =>
    show (if isDict st (.ref n) = true then _ else _) = (if isDict st (.ref n) = true then _ else _)
    split
    · refine congrArg (Out.bind _) (funext fun k => funext fun st => ?_)
      simp only [dgetD_at]
      cases st[n]?.bind (Ob.dget k) <;> rfl
    · rfl
  | _ => simp [get1K, isDict]
def Ob.dpop (k : D) : Ob → Option (D × Ob)
  | .dic l => (keyD k).bind fun k => (lookK l k).map fun x => (x, .dic (dropKD l k))
  | _ => none
@[simp] theorem dpop_dic {k : D} (l : List (Kd × D)) : Ob.dpop k (.dic l) = (keyD k).bind fun k => (lookK l k).map fun x => (x, .dic (dropKD l k)) := (rfl)
def dpopK (mi : EM D) (env : Env) : D → Store → Out D
  | .ref n, st => if isDict st (.ref n) = true then (mi env st).bind fun k st => .of ((st[n]?.bind (Ob.dpop k)).map fun r => (r.1, st.set n r.2)) else .bad
  | _, _ => .bad
@[simp] theorem dpopK_ref {mi : EM D} : dpopK mi env (.ref n) st = if (st[n]?.map Ob.isDic).getD false = true then (mi env st).bind fun k st => .of ((st[n]?.bind (Ob.dpop k)).map fun r => (r.1, st.set n r.2)) else .bad := by
  show (if isDict st (.ref n) = true then _ else _) = _; rw [isDict_at]
@[simp] theorem run_dpop {mo mi : EM D} : eDPop mo mi env st = (mo env st).bind (dpopK mi env) := by
  unfold eDPop
  congr 1
  funext d st
  cases d with
  | ref n =>
    show (if isDict st (.ref n) = true then _ else _) = (if isDict st (.ref n) = true then _ else _)
    split
    · refine congrArg (Out.bind _) (funext fun k => funext fun st => ?_)
      dsimp only
      cases h : st[n]? with
      | none => rfl
      | some o => cases o with
        | dic l => cases q : keyD k with
          | none => simp [q, Ob.dpop]
          | some k => cases z : lookK l k <;> simp [q, z, Ob.dpop]
        | _ => simp [Ob.dpop]
    · rfl
  | _ => simp [dpopK, isDict]
end
end DL
/-! Pr: slates: what they hold. -/
namespace DL
open PySem L2
structure Sl where
  text : List Nat
  spans : List Sp
  behind : List (Int × Nat)
def chD (c : Nat) : D := .str [c]
def Sl.at (q : Sl) (p : Int) : Option Nat := if 0 ≤ p ∧ p < q.text.length then q.text[p.toNat]? else lookI q.behind p
def sAt (at' : Int) (s : List Nat) (p : Int) : Option Nat := if at' ≤ p ∧ p < at' + s.length then s[(p - at').toNat]? else none
structure SlOk (q : Sl) : Prop where
  nd : (q.behind.map (·.1)).Nodup
  up : ∀ p c, lookI q.behind p = some c → (q.text.length : Int) < p
  row : RowOk q.spans
  cov : ∀ p, q.spans.any (isIn p) = (lookI q.behind p).isSome
def newSl : Sl := ⟨[], [], []⟩
theorem newSl_ok : SlOk newSl := ⟨List.nodup_nil, fun p c h => (nomatch h), .nil, fun p => rfl⟩
theorem newSl_at (p : Int) : newSl.at p = none := by unfold Sl.at newSl; simp
/-- signs laid behind -/
def fillStep (n at' : Int) (s : List Nat) (B : List (Int × Nat)) (k : Nat) : List (Int × Nat) := if n ≤ at' + (k : Int) ∧ lookI B (at' + (k : Int)) = none then B ++ [(at' + (k : Int), s.getD k 0)] else B
def fillN (n at' : Int) (s : List Nat) (B : List (Int × Nat)) (m : Nat) : List (Int × Nat) := (List.range m).foldl (fillStep n at' s) B
theorem fillN_succ {n at' : Int} {s : List Nat} {B : List (Int × Nat)} {m : Nat} : fillN n at' s B (m + 1) = fillStep n at' s (fillN n at' s B m) m := by
  unfold fillN; rw [List.range_succ, List.foldl_append]; rfl
theorem fillN_ok {n at' : Int} {s : List Nat} {B : List (Int × Nat)} (hB : (B.map (·.1)).Nodup) : ∀ m, m ≤ s.length →
    ((fillN n at' s B m).map (·.1)).Nodup ∧ ∀ p, lookI (fillN n at' s B m) p = (lookI B p).or (if n ≤ p ∧ at' ≤ p ∧ p < at' + (m : Int) then s[(p - at').toNat]? else none)
  | 0, _ => ⟨hB, fun p => by
      have : ¬ (n ≤ p ∧ at' ≤ p ∧ p < at' + ((0 : Nat) : Int)) := by omega
      rw [if_neg this]; simp [fillN]⟩
  | m + 1, h => by
    obtain ⟨h1, h2⟩ := fillN_ok (n := n) (at' := at') (s := s) hB m (by omega)
    rw [fillN_succ]
    unfold fillStep
    split
    · rename_i c
      obtain ⟨c1, c2⟩ := c
      have hnew := putI_new (fillN n at' s B m) (at' + (m : Int)) (s.getD m 0) c2
      rw [← hnew]
      refine ⟨keys_put_nodup _ _ _ h1, fun p => ?_⟩
      rw [lookI_put, h2]
      by_cases e : p = at' + (m : Int)
      · subst e
        rw [h2] at c2
        have e0 : lookI B (at' + (m : Int)) = none := by
          cases z : lookI B (at' + (m : Int)) with
          | none => rfl
          | some w => rw [z] at c2; cases c2
        have e1 : (at' + (m : Int) - at').toNat = m := by omega
        have e2 : n ≤ at' + (m : Int) ∧ at' ≤ at' + (m : Int) ∧ at' + (m : Int) < at' + ((m + 1 : Nat) : Int) := ⟨c1, by omega, by omega⟩
        have e3 : s[m]? = some (s.getD m 0) := by rw [List.getD_eq_getElem?_getD, List.getElem?_eq_getElem (by omega : m < s.length)]; rfl
        rw [if_pos rfl, e0, if_pos e2, e1, e3]; rfl
      · rw [if_neg e]
        have : (n ≤ p ∧ at' ≤ p ∧ p < at' + ((m + 1 : Nat) : Int)) ↔ (n ≤ p ∧ at' ≤ p ∧ p < at' + (m : Int)) := by omega
        simp only [this]
    · rename_i c
      refine ⟨h1, fun p => ?_⟩
      rw [h2]
      by_cases e : p = at' + (m : Int)
      · subst e
        have e1 : ¬ (n ≤ at' + (m : Int) ∧ at' ≤ at' + (m : Int) ∧ at' + (m : Int) < at' + (m : Int)) := by omega
        rw [if_neg e1]
        by_cases c1 : n ≤ at' + (m : Int)
        · have c2 : ¬ lookI (fillN n at' s B m) (at' + (m : Int)) = none := fun z => c ⟨c1, z⟩
          rw [h2, if_neg e1] at c2
          cases z : lookI B (at' + (m : Int)) with
          | none => rw [z] at c2; exact absurd rfl c2
          | some w => rfl
        · have e2 : ¬ (n ≤ at' + (m : Int) ∧ at' ≤ at' + (m : Int) ∧ at' + (m : Int) < at' + ((m + 1 : Nat) : Int)) := by omega
          rw [if_neg e2]
      · have : (n ≤ p ∧ at' ≤ p ∧ p < at' + ((m + 1 : Nat) : Int)) ↔ (n ≤ p ∧ at' ≤ p ∧ p < at' + (m : Int)) := by omega
        simp only [this]
theorem fillN_len {n at' : Int} {s : List Nat} {B : List (Int × Nat)} : ∀ m, (fillN n at' s B m).length ≤ B.length + m
  | 0 => by simp [fillN]
  | m + 1 => by
    rw [fillN_succ]; unfold fillStep
    have := fillN_len (n := n) (at' := at') (s := s) (B := B) m
    split <;> simp <;> omega
/-- what comes in order is taken out -/
def drainF (n : Nat) : Nat → List (Int × Nat) → List Nat → List Nat × List (Int × Nat)
  | 0, B, M => (M, B)
  | f + 1, B, M => match lookI B ((n : Int) + (M.length : Int)) with
    | some c => drainF n f (dropI B ((n : Int) + (M.length : Int))) (M ++ [c])
    | none => (M, B)
theorem drainF_fuel (n : Nat) : ∀ (f f' : Nat) (B : List (Int × Nat)) (M : List Nat), B.length ≤ f → B.length ≤ f' → drainF n f B M = drainF n f' B M
  | 0, 0, _, _, _, _ => rfl
  | 0, f' + 1, B, M, h, _ => by
    have : B = [] := List.eq_nil_of_length_eq_zero (by omega)
    subst this; rfl
  | f + 1, 0, B, M, _, h => by
    have : B = [] := List.eq_nil_of_length_eq_zero (by omega)
    subst this; rfl
  | f + 1, f' + 1, B, M, h, h' => by
    unfold drainF
    cases z : lookI B ((n : Int) + (M.length : Int)) with
    | none => rfl
    | some c =>
      have := dropI_len_lt B ((n : Int) + (M.length : Int)) (by rw [z]; rfl)
      exact drainF_fuel n f f' _ _ (by omega) (by omega)
theorem drainF_ok (n : Nat) : ∀ (f : Nat) (B : List (Int × Nat)) (M : List Nat), B.length ≤ f → (B.map (·.1)).Nodup →
    ∃ X, (drainF n f B M).1 = M ++ X ∧ ((drainF n f B M).2.map (·.1)).Nodup ∧ lookI (drainF n f B M).2 ((n : Int) + ((M ++ X).length : Int)) = none ∧
      (∀ p, lookI (drainF n f B M).2 p = if (n : Int) + (M.length : Int) ≤ p ∧ p < (n : Int) + ((M ++ X).length : Int) then none else lookI B p) ∧
      (∀ i : Nat, i < X.length → X[i]? = lookI B ((n : Int) + (M.length : Int) + (i : Int))) ∧ (drainF n f B M).2.length ≤ B.length
  | 0, B, M, h, hB => by
    have : B = [] := List.eq_nil_of_length_eq_zero (by omega)
    subst this
    exact ⟨[], by simp [drainF], by simp [drainF], rfl, fun p => by simp [drainF], fun i h => absurd h (by simp), Nat.le_refl _⟩
  | f + 1, B, M, h, hB => by
    unfold drainF
    cases z : lookI B ((n : Int) + (M.length : Int)) with
    | none =>
      refine ⟨[], by simp, hB, by simpa using z, fun p => ?_, fun i h => absurd h (by simp), Nat.le_refl _⟩
      have : ¬ ((n : Int) + (M.length : Int) ≤ p ∧ p < (n : Int) + ((M ++ []).length : Int)) := by simp
      rw [if_neg this]
    | some c =>
      have hl := dropI_len_lt B ((n : Int) + (M.length : Int)) (by rw [z]; rfl)
      obtain ⟨X, h1, h2, h3, h4, h5, h6⟩ := drainF_ok n f (dropI B ((n : Int) + (M.length : Int))) (M ++ [c]) (by omega) (keys_drop_nodup _ _ hB)
      simp only
      refine ⟨c :: X, by rw [h1]; simp, h2, by simpa using h3, fun p => ?_, fun i hi => ?_, by omega⟩
      · rw [h4, lookI_drop]
        simp only [List.length_append, List.length_cons, List.length_nil]
        by_cases e1 : p = (n : Int) + (M.length : Int)
        · have a1 : ¬ ((n : Int) + ((M.length + (0 + 1) : Nat) : Int) ≤ p ∧ p < (n : Int) + ((M.length + (0 + 1) + X.length : Nat) : Int)) := by omega
          have a2 : (n : Int) + (M.length : Int) ≤ p ∧ p < (n : Int) + ((M.length + (X.length + 1) : Nat) : Int) := by omega
          rw [if_neg a1, if_pos e1, if_pos a2]
        · rw [if_neg e1]
          have : ((n : Int) + ((M.length + (0 + 1) : Nat) : Int) ≤ p ∧ p < (n : Int) + ((M.length + (0 + 1) + X.length : Nat) : Int)) ↔ ((n : Int) + (M.length : Int) ≤ p ∧ p < (n : Int) + ((M.length + (X.length + 1) : Nat) : Int)) := by omega
          simp only [this]
      · cases i with
        | zero => simpa using z.symm
        | succ i =>
          simp only [List.length_cons] at hi
          rw [List.getElem?_cons_succ, h5 i (by omega), lookI_drop]
          have : ¬ ((n : Int) + ((M ++ [c]).length : Int) + (i : Int) = (n : Int) + (M.length : Int)) := by simp; omega
          rw [if_neg this]
          congr 1; simp; omega
def putF (q : Sl) (at' : Int) (s : List Nat) : List (Int × Nat) := fillN q.text.length at' s q.behind s.length
def putX (q : Sl) (at' : Int) (s : List Nat) : List Nat × List (Int × Nat) := drainF q.text.length (putF q at' s).length (putF q at' s) []
def putS (q : Sl) (at' : Int) (s : List Nat) : Sl := ⟨q.text ++ (putX q at' s).1, cutR (addR q.spans at' (at' + s.length)) (((q.text ++ (putX q at' s).1).length : Nat) : Int), (putX q at' s).2⟩
theorem sAt_some {at' : Int} {s : List Nat} {p : Int} : (sAt at' s p).isSome = (decide (at' ≤ p) && decide (p < at' + s.length)) := by
  unfold sAt
  by_cases h : at' ≤ p ∧ p < at' + s.length
  · rw [if_pos h, List.getElem?_eq_getElem (by omega)]
    simp [h.1, h.2]
  · rw [if_neg h]
    by_cases h1 : at' ≤ p
    · have : ¬ p < at' + s.length := fun z => h ⟨h1, z⟩
      simp [this]
    · simp [h1]
theorem putS_ok {q : Sl} {at' : Int} {s : List Nat} (h : SlOk q) (h0 : 0 ≤ at') : SlOk (putS q at' s) ∧ (∀ p, (putS q at' s).at p = (q.at p).or (sAt at' s p)) ∧ q.text <+: (putS q at' s).text := by
  obtain ⟨f1, f2⟩ := fillN_ok (n := q.text.length) (at' := at') (s := s) h.nd s.length (Nat.le_refl _)
  obtain ⟨X, d1, d2, d3, d4, d5, _⟩ := drainF_ok q.text.length (putF q at' s).length (putF q at' s) [] (Nat.le_refl _) f1
  have e1 : (putX q at' s).1 = X := by unfold putX; rw [d1]; rfl
  have hlen : ((q.text ++ X).length : Int) = (q.text.length : Int) + (X.length : Int) := by simp
  have hf : ∀ p, lookI (putF q at' s) p = (lookI q.behind p).or (if (q.text.length : Int) ≤ p ∧ at' ≤ p ∧ p < at' + (s.length : Int) then s[(p - at').toNat]? else none) := f2
  have hs : ∀ p, (q.text.length : Int) ≤ p → lookI (putF q at' s) p = (lookI q.behind p).or (sAt at' s p) := fun p hp => by
    rw [hf]; unfold sAt
    have : ((q.text.length : Int) ≤ p ∧ at' ≤ p ∧ p < at' + (s.length : Int)) ↔ (at' ≤ p ∧ p < at' + (s.length : Int)) := by omega
    simp only [this]
  have hs2 : ∀ p, p < (q.text.length : Int) → lookI (putF q at' s) p = none := fun p hp => by
    rw [hf]
    have : ¬ ((q.text.length : Int) ≤ p ∧ at' ≤ p ∧ p < at' + (s.length : Int)) := by omega
    rw [if_neg this]
    cases z : lookI q.behind p with
    | none => rfl
    | some c => have := h.up p c z; omega
  have hb : ∀ p, lookI (putX q at' s).2 p = if p < (q.text.length : Int) + (X.length : Int) then none else (lookI q.behind p).or (sAt at' s p) := fun p => by
    unfold putX
    rw [d4]
    simp only [List.nil_append, List.length_nil, List.length_append]
    by_cases c1 : (q.text.length : Int) ≤ p
    · by_cases c2 : p < (q.text.length : Int) + (X.length : Int)
      · rw [if_pos (by simp; omega), if_pos c2]
      · rw [if_neg (by simp; omega), if_neg c2, hs p c1]
    · rw [if_neg (by simp; omega), if_pos (by omega), hs2 p (by omega)]
  have hx : lookI (putX q at' s).2 ((q.text.length : Int) + (X.length : Int)) = none := by
    have := d3; simpa [putX] using this
  have hup : ∀ p c, lookI (putX q at' s).2 p = some c → (q.text.length : Int) + (X.length : Int) < p := fun p c z => by
    by_cases c1 : p < (q.text.length : Int) + (X.length : Int)
    · rw [hb, if_pos c1] at z; cases z
    · by_cases c2 : p = (q.text.length : Int) + (X.length : Int)
      · subst c2; rw [hx] at z; cases z
      · omega
  have ha := addR_ok (e := at' + (s.length : Int)) h.row h0 (by omega)
  have hc := cutR_ok (b := (q.text.length : Int) + (X.length : Int)) ha.1 (by omega)
  refine ⟨⟨d2, fun p c z => ?_, ?_, fun p => ?_⟩, fun p => ?_, by unfold putS; exact List.prefix_append _ _⟩
  · have := hup p c z
    show (((q.text ++ (putX q at' s).1).length : Nat) : Int) < p
    rw [e1, hlen]; exact this
  · show RowOk (cutR _ _)
    rw [e1, hlen]; exact hc.1
  · show (cutR _ _).any _ = (lookI (putX q at' s).2 p).isSome
    rw [e1, hlen, hc.2, ha.2, hb, h.cov]
    by_cases c1 : p < (q.text.length : Int) + (X.length : Int)
    · have : decide ((q.text.length : Int) + (X.length : Int) ≤ p) = false := by simp; omega
      rw [if_pos c1, this]; simp
    · have : decide ((q.text.length : Int) + (X.length : Int) ≤ p) = true := by simp; omega
      rw [if_neg c1, this, Bool.and_true, ← sAt_some]
      cases lookI q.behind p <;> simp
  · unfold Sl.at
    show (if 0 ≤ p ∧ p < (((q.text ++ (putX q at' s).1).length : Nat) : Int) then (q.text ++ (putX q at' s).1)[p.toNat]? else lookI (putX q at' s).2 p) = _
    rw [e1, hlen, hb]
    by_cases c0 : 0 ≤ p
    · by_cases c1 : p < (q.text.length : Int)
      · rw [if_pos ⟨c0, by omega⟩, if_pos ⟨c0, c1⟩, List.getElem?_append_left (by omega), List.getElem?_eq_getElem (by omega : p.toNat < q.text.length)]
        rfl
      · by_cases c2 : p < (q.text.length : Int) + (X.length : Int)
        · have := d5 (p.toNat - q.text.length) (by omega)
          rw [if_pos ⟨c0, c2⟩, if_neg (by omega), List.getElem?_append_right (by omega), this, ← hs p (by omega)]
          congr 1; simp; omega
        · rw [if_neg (by omega), if_neg c2, if_neg (by omega)]
    · rw [if_neg (by omega), if_pos (by omega), if_neg (by omega)]
      have e2 : sAt at' s p = none := by unfold sAt; rw [if_neg (by omega)]
      rw [e2]
      cases z : lookI q.behind p with
      | none => rfl
      | some c => have := h.up p c z; omega
/-- what holds the same is the same -/
theorem sl_text {q r : Sl} (h : SlOk q) (h' : SlOk r) (e : ∀ p, q.at p = r.at p) : q.text = r.text ∧ q.spans = r.spans := by
  have key : ∀ {q r : Sl}, SlOk q → SlOk r → (∀ p, q.at p = r.at p) → q.text.length ≤ r.text.length := fun {q r} h h' e => by
    refine Classical.byContradiction fun c => ?_
    have a1 := e (r.text.length : Int)
    unfold Sl.at at a1
    rw [if_pos ⟨by omega, by omega⟩, if_neg (by omega), List.getElem?_eq_getElem (by omega)] at a1
    have := h'.up _ _ a1.symm
    omega
  have hl : q.text.length = r.text.length := Nat.le_antisymm (key h h' e) (key h' h fun p => (e p).symm)
  refine ⟨?_, row_eq h.row h'.row fun p => ?_⟩
  · apply List.ext_getElem?; intro i
    by_cases hi : i < q.text.length
    · have a1 := e (i : Int)
      unfold Sl.at at a1
      rw [if_pos ⟨by omega, by omega⟩, if_pos ⟨by omega, by omega⟩] at a1
      simpa using a1
    · rw [List.getElem?_eq_none (by omega), List.getElem?_eq_none (by omega)]
  · rw [h.cov, h'.cov]
    have a1 := e p
    unfold Sl.at at a1
    by_cases c : 0 ≤ p ∧ p < q.text.length
    · have b1 : lookI q.behind p = none := by
        cases z : lookI q.behind p with
        | none => rfl
        | some c => have := h.up _ _ z; omega
      have b2 : lookI r.behind p = none := by
        cases z : lookI r.behind p with
        | none => rfl
        | some c => have := h'.up _ _ z; omega
      rw [b1, b2]
    · rw [if_neg c, if_neg (by omega)] at a1
      rw [a1]
end DL
/-! Ps: slates: walk. -/
namespace DL
open PySem L2
/-! ### two things of a store -/
def upd2 (st : Store) (b : Nat) (X : Ob) (n : Nat) (Y : Ob) : Store := (st.set b X).set n Y
section
variable {st : Store} {b n k : Nat} {X Y Z : Ob} {g : List Ob}
@[simp] theorem upd2_len : (upd2 st b X n Y).length = st.length := by simp [upd2]
theorem upd2_n (hn : n < st.length) : (upd2 st b X n Y ++ g)[n]? = some Y := by
  rw [getL (by simpa using hn)]; unfold upd2; rw [List.getElem?_set_self (by simpa using hn)]
theorem upd2_b (hb : b < st.length) (h : n ≠ b) : (upd2 st b X n Y ++ g)[b]? = some X := by
  rw [getL (by simpa using hb)]; unfold upd2; rw [List.getElem?_set_ne h, List.getElem?_set_self hb]
theorem upd2_sn (hn : n < st.length) : (upd2 st b X n Y ++ g).set n Z = upd2 st b X n Z ++ g := by
  rw [setL (by simpa using hn)]; unfold upd2; rw [List.set_set]
theorem upd2_sb (hb : b < st.length) (h : n ≠ b) : (upd2 st b X n Y ++ g).set b Z = upd2 st b Z n Y ++ g := by
  rw [setL (by simpa using hb)]; unfold upd2; rw [List.set_comm _ _ h, List.set_set]
theorem upd2_0 : (upd2 st b X n Y ++ g)[st.length]? = g[0]? := by
  have := getA0 (st := upd2 st b X n Y) (l := g); rwa [upd2_len] at this
theorem upd2_k : (upd2 st b X n Y ++ g)[st.length + k]? = g[k]? := by
  have := getAk (st := upd2 st b X n Y) (l := g) (k := k); rwa [upd2_len] at this
theorem upd2_s0 : (upd2 st b X n Y ++ g).set st.length Z = upd2 st b X n Y ++ g.set 0 Z := by
  have := setA0 (st := upd2 st b X n Y) (l := g) (o' := Z); rwa [upd2_len] at this
theorem upd2_sk : (upd2 st b X n Y ++ g).set (st.length + k) Z = upd2 st b X n Y ++ g.set k Z := by
  have := setAk (st := upd2 st b X n Y) (l := g) (k := k) (o' := Z); rwa [upd2_len] at this
theorem set_id {st : Store} {n : Nat} {X : Ob} (h : st[n]? = some X) : st.set n X = st := by
  apply List.ext_getElem?; intro i
  by_cases e : n = i
  · subst e; rw [List.getElem?_set_self (lt_of_get h), h]
  · rw [List.getElem?_set_ne e]
theorem upd2_id (h1 : st[n]? = some Y) (h2 : st[b]? = some X) : upd2 st b X n Y = st := by
  unfold upd2; rw [set_id h2, set_id h1]
end
def slO (q : Sl) (b : Nat) : Ob := .ins .Slate [(.text, .str q.text), (.spans, rowL q.spans), (.behind, .ref b)]
def slB (q : Sl) : Ob := .dic (dI chD q.behind)
def kvOf : Kd × D → Option (Int × Nat)
  | (.inl i, .str [c]) => some (i, c)
  | _ => none
def chOf : Ob → Option (List (Int × Nat))
  | .dic l => l.mapM kvOf
  | _ => none
theorem kvOf_eq {p : Kd × D} {r : Int × Nat} (h : kvOf p = some r) : p = kvI chD r := by
  unfold kvOf at h; split at h
  · cases h; rfl
  · cases h
theorem chOf_eq {o : Ob} {B : List (Int × Nat)} (h : chOf o = some B) : o = .dic (dI chD B) := by
  cases o with
  | dic l =>
    simp only [chOf] at h
    congr 1
    obtain ⟨L, h1, h2, h3⟩ := mapM_zip h
    subst h1; subst h2
    unfold dI
    rw [List.map_map]
    apply List.map_congr_left; intro p hp; exact kvOf_eq (h3 p hp)
  | _ => cases h
@[simp] theorem chOf_mk (B : List (Int × Nat)) : chOf (.dic (dI chD B)) = some B := by
  simp only [chOf]
  induction B with
  | nil => rfl
  | cons p B ih => 
    have : dI chD (p :: B) = kvI chD p :: dI chD B := rfl
    rw [this, List.mapM_cons, ih]; rfl
def slOf (st : Store) (n : Nat) : Option (Sl × Nat) := match st[n]? with
  | some (.ins .Slate [(.text, .str t), (.spans, sp), (.behind, .ref b)]) => match rowOf sp with
    | some R => match st[b]?.bind chOf with
      | some B => some (⟨t, R, B⟩, b)
      | none => none
    | none => none
  | _ => none
theorem slOf_eq {st : Store} {n b : Nat} {q : Sl} (h : slOf st n = some (q, b)) : st[n]? = some (slO q b) ∧ st[b]? = some (slB q) := by
  unfold slOf at h
  split at h
  · rename_i t sp b' e
    cases z : rowOf sp with
    | none => rw [z] at h; cases h
    | some R =>
      rw [z] at h
      simp only at h
      cases w : st[b']?.bind chOf with
      | none => rw [w] at h; cases h
      | some B =>
        rw [w] at h
        cases h
        obtain ⟨o, ho, hB⟩ := Option.bind_eq_some_iff.mp w
        have := chOf_eq hB
        subst this
        have := rowOf_eq z
        subst this
        exact ⟨e, ho⟩
  · cases h
theorem slOf_mk {st : Store} {n b : Nat} {q : Sl} (h1 : st[n]? = some (slO q b)) (h2 : st[b]? = some (slB q)) : slOf st n = some (q, b) := by
  unfold slOf
  rw [h1]
  simp only [slO, rowOf_row, h2, Option.bind_some, slB, chOf_mk]
theorem slO_lt {q : Sl} {b m : Nat} (h : b < m) : (slO q b).lt m = true := by
  have := D.lt_of_nr (n := m) (rowL q.spans) (by simp only [D.nr]; exact nrs_row _)
  simp [slO, Ob.lt, D.ltAll, D.lt, h] at this ⊢
  exact this
theorem slB_lt (q : Sl) (m : Nat) : (slB q).lt m = true := by
  show D.ltAll m ((dI chD q.behind).map (·.2)) = true
  rw [ltAll_iff]
  intro d hd
  simp only [dI, List.map_map, List.mem_map] at hd
  obtain ⟨p, _, rfl⟩ := hd
  rfl
@[simp] theorem slO_cl (q : Sl) (b : Nat) : (slO q b).cl = some .Slate := rfl
@[simp] theorem slO_text (q : Sl) (b : Nat) : Ob.fld [.Slate] .text (slO q b) = some (.str q.text) := rfl
@[simp] theorem slO_spans (q : Sl) (b : Nat) : Ob.fld [.Slate] .spans (slO q b) = some (rowL q.spans) := rfl
@[simp] theorem slO_behind (q : Sl) (b : Nat) : Ob.fld [.Slate] .behind (slO q b) = some (.ref b) := rfl
@[simp] theorem slO_setText (q : Sl) (b : Nat) (s : List Nat) : Ob.setf [.Slate] .text (.str s) (slO q b) = some (slO { q with text := s } b) := rfl
@[simp] theorem slO_setSpans (q : Sl) (b : Nat) (R : List Sp) : Ob.setf [.Slate] .spans (rowL R) (slO q b) = some (slO { q with spans := R } b) := rfl
def P.Slate_init : FM := fun ds st => match ds with
  | [.ref n] => match st[n]? with
    | some (.ins .Slate []) => .ok .non (st.set n (slO newSl st.length) ++ [slB newSl])
    | _ => .bad
  | _ => .bad
def P.Slate_put : FM := fun ds st => match ds with
  | [.ref n, .int at', .str s] => match slOf st n with
    | some (q, b) => if q.text.length ≤ 50000 ∧ q.behind.length ≤ 50000 ∧ s.length ≤ 10000 ∧ q.spans.length ≤ 5000 then (if at' < 0 then .exn .NoSpan st else .ok .non (upd2 st b (slB (putS q at' s)) n (slO (putS q at' s) b))) else .bad
    | none => .bad
  | _ => .bad
def chN : Option Nat → D
  | some c => .str [c]
  | none => .non
def P.Slate_sign : FM := fun ds st => match ds with
  | [.ref n, .int p] => match slOf st n with
    | some (q, b) => if q.text.length ≤ 1000000 then .ok (chN (q.at p)) st else .bad
    | none => .bad
  | _ => .bad
def P.b_Slate_init : SM := (sSeq (sFldD [.Slate] .text (eVar 0) (eC (.str [])))
    (sSeq (sFldD [.Slate] .spans (eVar 0) (eTup eNil))
    (sFldD [.Slate] .behind (eVar 0) eDic)))
def P.m_Slate_init : FM := fnM 1 1 P.b_Slate_init

def P.b_Slate_put : SM := (sSeq (sDo (eCall DL.P.look (eCons (eVar 1) (eCons (eVar 1) eNil))))
    (sSeq (sFor (iRng1D (e1 oLen (eCons (eVar 2) eNil))) (tName 3)
    (sIf (tAndD (tB (e2 oGe (e2 oAdd (eVar 1) (eVar 3)) (e1 oLen (eCons (eFld [.Slate] .text (eVar 0)) eNil)))) (tB (e2 oNotIn (e2 oAdd (eVar 1) (eVar 3)) (eFld [.Slate] .behind (eVar 0)))))
    (sSub (eFld [.Slate] .behind (eVar 0)) (e2 oAdd (eVar 1) (eVar 3)) (e2 oIx (eVar 2) (eVar 3)))
    sSkip))
    (sSeq (sFldD [.Slate] .spans (eVar 0) (eCall DL.P.added (eCons (eFld [.Slate] .spans (eVar 0)) (eCons (eVar 1) (eCons (e2 oAdd (eVar 1) (e1 oLen (eCons (eVar 2) eNil))) eNil)))))
    (sSeq (sSet 4 (eLst eNil))
    (sSeq (sWhile (tB (e2 oIn (e2 oAdd (e1 oLen (eCons (eFld [.Slate] .text (eVar 0)) eNil)) (e1 oLen (eCons (eVar 4) eNil))) (eFld [.Slate] .behind (eVar 0))))
    (sDo (eBM "list" mAppend (eVar 4) (eCons (eDPop (eFld [.Slate] .behind (eVar 0)) (e2 oAdd (e1 oLen (eCons (eFld [.Slate] .text (eVar 0)) eNil)) (e1 oLen (eCons (eVar 4) eNil)))) eNil))))
    (sSeq (sFldD [.Slate] .text (eVar 0) (e2 oAdd (eFld [.Slate] .text (eVar 0)) (eBM "str" mJoin (eC (.str [])) (eCons (eVar 4) eNil))))
    (sFldD [.Slate] .spans (eVar 0) (eCall DL.P.cut (eCons (eFld [.Slate] .spans (eVar 0)) (eCons (e1 oLen (eCons (eFld [.Slate] .text (eVar 0)) eNil)) eNil))))))))))
def P.m_Slate_put : FM := fnM 3 5 P.b_Slate_put

def P.b_Slate_sign : SM := (sSeq (sIf (tB (eChain oLe oLt (eC (.int 0)) (eVar 1) (e1 oLen (eCons (eFld [.Slate] .text (eVar 0)) eNil))))
    (sRet (e2 oIx (eFld [.Slate] .text (eVar 0)) (eVar 1)))
    sSkip)
    (sRet (eGet1 (eFld [.Slate] .behind (eVar 0)) (eVar 1))))
def P.m_Slate_sign : FM := fnM 2 2 P.b_Slate_sign

section
variable {st : Store} {b n k : Nat} {X Y Z : Ob}
theorem upd2_n' (hn : n < st.length) : (upd2 st b X n Y)[n]? = some Y := by have := upd2_n (b := b) (X := X) (Y := Y) (g := []) hn; rwa [List.append_nil] at this
theorem upd2_b' (hb : b < st.length) (h : n ≠ b) : (upd2 st b X n Y)[b]? = some X := by have := upd2_b (X := X) (Y := Y) (g := []) hb h; rwa [List.append_nil] at this
theorem upd2_sn' (hn : n < st.length) : (upd2 st b X n Y).set n Z = upd2 st b X n Z := by have := upd2_sn (b := b) (X := X) (Y := Y) (Z := Z) (g := []) hn; rwa [List.append_nil, List.append_nil] at this
theorem upd2_sb' (hb : b < st.length) (h : n ≠ b) : (upd2 st b X n Y).set b Z = upd2 st b Z n Y := by have := upd2_sb (X := X) (Y := Y) (Z := Z) (g := []) hb h; rwa [List.append_nil, List.append_nil] at this
end
def drainL (n : Nat) (B : List (Int × Nat)) (M : List Nat) : List Nat × List (Int × Nat) := drainF n B.length B M
theorem drainL_stop {n : Nat} {B : List (Int × Nat)} {M : List Nat} (h : lookI B ((n : Int) + (M.length : Int)) = none) : drainL n B M = (M, B) := by
  unfold drainL; cases B with
  | nil => rfl
  | cons p B => simp only [List.length_cons, drainF, h]
theorem drainL_step {n c : Nat} {B : List (Int × Nat)} {M : List Nat} (h : lookI B ((n : Int) + (M.length : Int)) = some c) : drainL n B M = drainL n (dropI B ((n : Int) + (M.length : Int))) (M ++ [c]) := by
  unfold drainL
  have hl := dropI_len_lt B ((n : Int) + (M.length : Int)) (by rw [h]; rfl)
  obtain ⟨f, hf⟩ : ∃ f, B.length = f + 1 := ⟨B.length - 1, by omega⟩
  rw [hf]
  show (match lookI B ((n : Int) + (M.length : Int)) with | some c => _ | none => _) = _
  rw [h]
  exact drainF_fuel n _ _ _ _ (by omega) (Nat.le_refl _)
theorem join_ch (M : List Nat) (h : M.length ≤ 1000000) : joinD [] (M.map chD) = some (.str M) := by
  have := join_one (fun c : Nat => c) M h
  rw [List.map_id'] at this
  exact this
theorem P.tell_Slate_init : ∀ (st : Store) (ds : List D), st.Ok → D.ltAll st.length ds = true → Tell st (P.Slate_init ds st) (P.m_Slate_init ds st) := by
  intro st ds ok lt
  unfold P.Slate_init
  split
  · rename_i n
    split
    · rename_i h
      have hn := lt_of_get h
      have hs : ∀ o, (st.set n o)[n]? = some o := fun o => List.getElem?_set_self hn
      have hs2 : ∀ o g, (st.set n o ++ g)[n]? = some o := fun o g => by rw [getL (by simpa using hn)]; exact hs o
      have hs3 : ∀ o o' g, (st.set n o ++ g).set n o' = st.set n o' ++ g := fun o o' g => by rw [setL (by simpa using hn), List.set_set]
      have : P.m_Slate_init [.ref n] st = .ok .non (st.set n (slO newSl st.length) ++ [slB newSl]) := by
        rw [P.m_Slate_init]
        simp [P.b_Slate_init, h, hs, hs2, hs3, putD, List.set_set]
        exact ⟨rfl, rfl⟩
      rw [this]
      refine .eq (by simp) ?_ rfl
      intro i p e
      simp only [List.length_append, List.length_set, List.length_singleton]
      by_cases hi : i < st.length
      · rw [getL (by simpa using hi)] at e
        by_cases hj : n = i
        · subst hj
          rw [hs] at e; cases e
          exact slO_lt (Nat.lt_succ_self _)
        · rw [List.getElem?_set_ne hj] at e
          exact Ob.lt_mono (Nat.le_succ _) p (ok i p e)
      · have hl := (List.getElem?_eq_some_iff.mp e).1
        simp at hl
        have : i = st.length := by omega
        subst this
        have h0 := getA0 (st := st.set n (slO newSl st.length)) (l := [slB newSl])
        rw [List.length_set] at h0
        rw [h0] at e; cases e
        exact slB_lt _ _
    · exact .bad
  · exact .bad
theorem P.put_ok {st : Store} {n b : Nat} {q : Sl} {at' : Int} {s : List Nat} (h1 : st[n]? = some (slO q b)) (h2 : st[b]? = some (slB q)) (l1 : q.text.length ≤ 50000) (l2 : q.behind.length ≤ 50000) (l3 : s.length ≤ 10000) (l4 : q.spans.length ≤ 5000) (h0 : ¬ at' < 0) :
    ∃ l, P.m_Slate_put [.ref n, .int at', .str s] st = .ok .non (upd2 st b (slB (putS q at' s)) n (slO (putS q at' s) b) ++ [.lst l]) := by
  have hn := lt_of_get h1
  have hb := lt_of_get h2
  have hnb : n ≠ b := by rintro rfl; rw [h1] at h2; cases h2
  have gn : ∀ X Y g, (upd2 st b X n Y ++ g)[n]? = some Y := fun X Y g => upd2_n hn
  have gb : ∀ X Y g, (upd2 st b X n Y ++ g)[b]? = some X := fun X Y g => upd2_b hb hnb
  have sn : ∀ X Y g Z, (upd2 st b X n Y ++ g).set n Z = upd2 st b X n Z ++ g := fun X Y g Z => upd2_sn hn
  have sb : ∀ X Y g Z, (upd2 st b X n Y ++ g).set b Z = upd2 st b Z n Y ++ g := fun X Y g Z => upd2_sb hb hnb
  have gn' : ∀ X Y, (upd2 st b X n Y)[n]? = some Y := fun X Y => upd2_n' hn
  have gb' : ∀ X Y, (upd2 st b X n Y)[b]? = some X := fun X Y => upd2_b' hb hnb
  have sn' : ∀ X Y Z, (upd2 st b X n Y).set n Z = upd2 st b X n Z := fun X Y Z => upd2_sn' hn
  have sb' : ∀ X Y Z, (upd2 st b X n Y).set b Z = upd2 st b Z n Y := fun X Y Z => upd2_sb' hb hnb
  have z0 : ∀ X Y g, (upd2 st b X n Y ++ g)[st.length]? = g[0]? := fun X Y g => upd2_0
  have zs : ∀ X Y g Z, (upd2 st b X n Y ++ g).set st.length Z = upd2 st b X n Y ++ g.set 0 Z := fun X Y g Z => upd2_s0
  have m1 := hL5 (show q.text.length ≤ 100000 by omega)
  have m3 := hL5 (show s.length ≤ 100000 by omega)
  rw [P.m_Slate_put]
  simp [P.b_Slate_put, P.look, h0, m3, -List.map_map]
  rw [if_pos (by omega)]
  simp [rng_map, -List.map_map]
  generalize hr : forK _ _ _ _ _ = r
  obtain ⟨e, s', rfl, ⟨x, rfl⟩, rfl⟩ := forK_inv hr (List.range s.length) (fun (i : Nat) => .int (i : Int)) (fun pre e w => (∃ x, e = [some (.ref n), some (.int at'), some (.str s), x, none]) ∧ w = upd2 st b (.dic (dI chD (fillN q.text.length at' s q.behind pre.length))) n (slO q b))
    (fun pre e s _ => rfl) (by simp [fuel]; omega) ⟨⟨none, rfl⟩, (upd2_id h1 h2).symm⟩ (fun pre x post e w hL ⟨⟨y, a⟩, c⟩ => by
      subst a; subst c
      have hx := rng_mid hL
      obtain ⟨hx1, hx⟩ := hx
      subst hx1
      have e1 : (pre ++ [pre.length]).length = pre.length + 1 := by simp
      simp only [e1, fillN_succ]
      have hBl := fillN_len (n := q.text.length) (at' := at') (s := s) (B := q.behind) pre.length
      generalize fillN q.text.length at' s q.behind pre.length = B at *
      have hBl' := hL5' (show B.length < 100000 by omega)
      have hg : s[pre.length]? = some (s.getD pre.length 0) := by rw [List.getD_eq_getElem?_getD, List.getElem?_eq_getElem hx]; rfl
      unfold fillStep
      generalize s.getD pre.length 0 = sc at *
      have hat : atI s (pre.length : Int) = some sc := by rw [atI_pos (by omega), Int.toNat_natCast]; exact hg
      by_cases c1 : (q.text.length : Int) ≤ at' + (pre.length : Int)
      · cases c2 : lookI B (at' + (pre.length : Int)) with
        | none =>
          have hp : putKD (dI chD B) (.inl (at' + (pre.length : Int))) (.str [sc]) = dI chD (B ++ [(at' + (pre.length : Int), sc)]) := by
            have := putKD_dI chD B (at' + (pre.length : Int)) sc
            rw [putI_new _ _ _ c2] at this; exact this
          simp [gn', gb', sb', m1, m3, c1, lookK_dI, c2, hBl', hat, hp]
        | some w => simp [gn', gb', sb', m1, m3, c1, lookK_dI, c2]
      · simp [gn', m1, c1])
  have hF : fillN q.text.length at' s q.behind (List.range s.length).length = putF q at' s := by rw [List.length_range]; rfl
  rw [hF]
  have hFl : (putF q at' s).length ≤ 60000 := by have := fillN_len (n := q.text.length) (at' := at') (s := s) (B := q.behind) s.length; unfold putF; omega
  have ha := P.added_eq (st := upd2 st b (.dic (dI chD (putF q at' s))) n (slO q b)) (R := q.spans) (b := at') (e := at' + (s.length : Int)) (by omega) h0 (by omega)
  have hal := addR_len (R := q.spans) (b := at') (e := at' + (s.length : Int))
  have hput : putS q at' s = ⟨q.text ++ (putX q at' s).1, cutR (addR q.spans at' (at' + s.length)) (((q.text ++ (putX q at' s).1).length : Nat) : Int), (putX q at' s).2⟩ := rfl
  have hX : drainL q.text.length (putF q at' s) [] = putX q at' s := rfl
  generalize putF q at' s = B at *
  generalize addR q.spans at' (at' + (s.length : Int)) = R at *
  simp [gn', sn', m3, ha, -List.map_map]
  generalize hr : whileF _ _ _ _ _ = r
  generalize putX q at' s = XX at *
  obtain ⟨e2, rfl, hXl⟩ : ∃ e2 : DL.Env, r = .nx [some (.ref n), some (.int at'), some (.str s), x, some (.ref st.length)] (upd2 st b (.dic (dI chD XX.2)) n (slO { q with spans := R } b) ++ [.lst (XX.1.map chD)]) ∧ XX.1.length ≤ 60000 :=
    while_out hr (fun r => ∃ e2 : DL.Env, r = .nx [some (.ref n), some (.int at'), some (.str s), x, some (.ref st.length)] (upd2 st b (.dic (dI chD XX.2)) n (slO { q with spans := R } b) ++ [.lst (XX.1.map chD)]) ∧ XX.1.length ≤ 60000)
      (fun e w => ∃ (B : List (Int × Nat)) (M : List Nat), e = [some (.ref n), some (.int at'), some (.str s), x, some (.ref st.length)] ∧ w = upd2 st b (.dic (dI chD B)) n (slO { q with spans := R } b) ++ [.lst (M.map chD)] ∧ B.length + M.length ≤ 60000 ∧ drainL q.text.length B M = XX)
      (fun _ w => ((w[b]?.bind Ob.len).getD 0)) (by simp [gb, fuel]; omega)
      ⟨B, [], rfl, rfl, by simpa using hFl, hX⟩
      (fun e w ⟨B, M, a, c, hl, hd⟩ => by
        subst a; subst c
        have k1 := hL5' (show M.length < 100000 by omega)
        cases c2 : lookI B ((q.text.length : Int) + (M.length : Int)) with
        | none =>
          rw [drainL_stop c2] at hd
          subst hd
          simp [gn, gb, z0, m1, lookK_dI, c2]
          omega
        | some w =>
          rw [drainL_step c2] at hd
          have hdl := dropI_len_lt B ((q.text.length : Int) + (M.length : Int)) (by rw [c2]; rfl)
          simp [gn, gb, sb, z0, zs, m1, lookK_dI, c2, k1, dropKD_dI]
          exact ⟨⟨_, M ++ [w], by simp [chD], by simp; omega, hd⟩, hdl⟩)
  have hj := join_ch XX.1 (by omega)
  have k2 := hL5 (show XX.1.length ≤ 100000 by omega)
  have k3 : q.text.length + XX.1.length ≤ sizeLine := by rw [line_val]; omega
  have hc := fun S => P.cut_eq (st := S) (R := R) (b := (((q.text ++ XX.1).length : Nat) : Int)) (by omega) (by omega)
  refine ⟨XX.1.map chD, ?_⟩
  simp only [List.length_append, Int.natCast_add] at hc
  simp [gn, sn, z0, mJoin, hj, k3, hc, hput, slB]
  rfl
theorem P.tell_Slate_put : ∀ (st : Store) (ds : List D), st.Ok → D.ltAll st.length ds = true → Tell st (P.Slate_put ds st) (P.m_Slate_put ds st) := by
  intro st ds ok lt
  unfold P.Slate_put
  split
  · rename_i n at' s
    split
    · rename_i q b hq
      obtain ⟨h1, h2⟩ := slOf_eq hq
      have hn := lt_of_get h1
      have hb := lt_of_get h2
      split
      · rename_i hl
        obtain ⟨l1, l2, l3, l4⟩ := hl
        split
        · rename_i h0
          refine tell_exn ok ⟨[], ?_⟩
          rw [P.m_Slate_put]; simp [P.b_Slate_put, P.look, h0]
        · rename_i h0
          obtain ⟨l, e⟩ := P.put_ok h1 h2 l1 l2 l3 l4 h0
          rw [e]
          refine .junk (by simp) ?_ rfl
          unfold upd2
          exact Ok.set (Ok.set ok (slB_lt _ _)) (slO_lt (by simpa using hb))
      · exact .bad
    · exact .bad
  · exact .bad
theorem P.tell_Slate_sign : ∀ (st : Store) (ds : List D), st.Ok → D.ltAll st.length ds = true → Tell st (P.Slate_sign ds st) (P.m_Slate_sign ds st) := by
  intro st ds ok lt
  unfold P.Slate_sign
  split
  · rename_i n p
    split
    · rename_i q b hq
      obtain ⟨h1, h2⟩ := slOf_eq hq
      split
      · rename_i hl
        have m1 : q.text.length ≤ sizeLine := by rw [line_val]; omega
        have hd : (chN (q.at p)).nr = true := by cases q.at p <;> rfl
        refine tell_eq ok hd ?_
        rw [P.m_Slate_sign]
        unfold Sl.at
        by_cases c1 : 0 ≤ p
        · by_cases c2 : p < (q.text.length : Int)
          · have : q.text[p.toNat]? = some (q.text.getD p.toNat 0) := by rw [List.getD_eq_getElem?_getD, List.getElem?_eq_getElem (by omega : p.toNat < q.text.length)]; rfl
            simp [P.b_Slate_sign, h1, h2, m1, c1, c2, atI_pos c1, this, chN]
          · simp [P.b_Slate_sign, h1, h2, m1, c1, c2, slB, lookK_dI]
            cases lookI q.behind p <;> rfl
        · simp [P.b_Slate_sign, h1, h2, m1, c1, slB, lookK_dI]
          cases lookI q.behind p <;> rfl
      · exact .bad
    · exact .bad
  · exact .bad
end DL
/-! Pt: signs drawn by one number; how long slates grow. -/
namespace DL
open PySem L2
theorem drainF_len (n : Nat) : ∀ (f : Nat) (B : List (Int × Nat)) (M : List Nat), (drainF n f B M).1.length + (drainF n f B M).2.length ≤ B.length + M.length
  | 0, B, M => by simp [drainF]; omega
  | f + 1, B, M => by
    unfold drainF
    cases z : lookI B ((n : Int) + (M.length : Int)) with
    | none => simp; omega
    | some c =>
      have h1 := drainF_len n f (dropI B ((n : Int) + (M.length : Int))) (M ++ [c])
      have h2 := dropI_len_lt B ((n : Int) + (M.length : Int)) (by rw [z]; rfl)
      simp only [List.length_append, List.length_cons, List.length_nil] at h1
      simp only
      omega
theorem putS_len {q : Sl} {at' : Int} {s : List Nat} : (putS q at' s).text.length + (putS q at' s).behind.length ≤ q.text.length + q.behind.length + s.length ∧ (putS q at' s).spans.length ≤ q.spans.length + 1 := by
  have h1 := drainF_len q.text.length (putF q at' s).length (putF q at' s) []
  have h2 := fillN_len (n := q.text.length) (at' := at') (s := s) (B := q.behind) s.length
  have h3 := cutR_len (R := addR q.spans at' (at' + s.length)) (b := (((q.text ++ (putX q at' s).1).length : Nat) : Int))
  have h4 := addR_len (R := q.spans) (b := at') (e := at' + s.length)
  have e1 : (putS q at' s).text.length = q.text.length + (putX q at' s).1.length := by show (q.text ++ _).length = _; simp
  have e2 : (putS q at' s).behind.length = (putX q at' s).2.length := rfl
  have e3 : (putX q at' s).1.length + (putX q at' s).2.length ≤ (putF q at' s).length := by unfold putX; simpa using h1
  have e4 : (putF q at' s).length ≤ q.behind.length + s.length := h2
  refine ⟨by omega, ?_⟩
  show (cutR _ _).length ≤ _
  omega
@[simp] theorem tru_bl (b : Bool) (st : Store) : truD (.bl b) st = some b := (rfl)
@[simp] theorem atI_lit {α : Type} {l : List α} {k : Nat} : atI l (no_index (OfNat.ofNat k)) = l[k]? := by
  rw [show ((OfNat.ofNat k : Int)) = ((k : Nat) : Int) from rfl, atI_pos (Int.natCast_nonneg k), Int.toNat_natCast]
theorem ixN_last {n : Nat} : ixN (n + 1) (-1) = some n := by unfold ixN; rw [if_neg (by omega), if_pos (by omega)]; congr 1; omega
theorem atI_end {α : Type} (l : List α) (a : α) : atI (l ++ [a]) (-1) = some a := by
  unfold atI
  rw [List.length_append, List.length_singleton, ixN_last, Option.bind_some]; simp
/-- signs by a number: all alike, or by steps -/
def stepOf (x : Int) : Int := if x % 3 = 0 then 0 else 1 + x / 282 % 93
def signs2 (x : Int) (k : Nat) : List Nat := (List.range k).map fun (i : Nat) => alphAt (x / 3 + (i : Int) * stepOf x)
@[simp] theorem signs2_len (x : Int) (k : Nat) : (signs2 x k).length = k := by simp [signs2]
theorem signs2_ok (x : Int) (k : Nat) : (signs2 x k).all signB = true := by
  rw [List.all_eq_true]; intro c hc
  unfold signs2 at hc
  obtain ⟨i, _, rfl⟩ := List.mem_map.mp hc
  exact alphAt_ok _
def P.signs2 : FM := fun ds st => match ds with
  | [.int x, .int k] => if 0 ≤ k ∧ k ≤ 1000 then .ok (.str (DL.signs2 x k.toNat)) st else .bad
  | _ => .bad
def P.b_signs2 : SM := (sSeq (sSet 2 (eC (.str [32, 33, 34, 35, 36, 38, 39, 40, 41, 42, 43, 44, 45, 46, 47, 48, 49, 50, 51, 52, 53, 54, 55, 56, 57, 58, 59, 60, 61, 62, 63, 64, 65, 66, 67, 68, 69, 70, 71, 72, 73, 74, 75, 76, 77, 78, 79, 80, 81, 82, 83, 84, 85, 86, 87, 88, 89, 90, 91, 92, 93, 94, 95, 96, 97, 98, 99, 100, 101, 102, 103, 104, 105, 106, 107, 108, 109, 110, 111, 112, 113, 114, 115, 116, 117, 118, 119, 120, 121, 122, 123, 124, 125, 126])))
    (sSeq (sIf (tB (e2 oEq (e2 oMod (eVar 0) (eC (.int 3))) (eC (.int 0))))
    (sRet (eBM "str" mJoin (eC (.str [])) (eCons (eComp (iRng1D (eVar 1)) (tName 3) tYesD (e2 oIx (eVar 2) (e2 oMod (e2 oDiv (eVar 0) (eC (.int 3))) (eC (.int 94)))) [3]) eNil)))
    sSkip)
    (sRet (eBM "str" mJoin (eC (.str [])) (eCons (eComp (iRng1D (eVar 1)) (tName 3) tYesD (e2 oIx (eVar 2) (e2 oMod (e2 oAdd (e2 oDiv (eVar 0) (eC (.int 3))) (e2 oMul (eVar 3) (e2 oAdd (eC (.int 1)) (e2 oMod (e2 oDiv (eVar 0) (eC (.int 282))) (eC (.int 93)))))) (eC (.int 94)))) [3]) eNil)))))
def P.m_signs2 : FM := fnM 2 4 P.b_signs2

theorem P.tell_signs2 : ∀ (st : Store) (ds : List D), st.Ok → D.ltAll st.length ds = true → Tell st (P.signs2 ds st) (P.m_signs2 ds st) := by
  intro st ds ok lt
  unfold P.signs2
  split
  · rename_i x k
    split
    · rename_i hk
      obtain ⟨h0, h1⟩ := hk
      refine tell_pure ok rfl ?_
      rw [P.m_signs2]
      have h7 := alph_line
      have h6 : ∀ i : Int, atI alph (i % 94) = some (alphAt i) := fun i => alph_at
      have hA : P.b_signs2 = (sSeq (sSet 2 (eC (.str alph)))
    (sSeq (sIf (tB (e2 oEq (e2 oMod (eVar 0) (eC (.int 3))) (eC (.int 0))))
    (sRet (eBM "str" mJoin (eC (.str [])) (eCons (eComp (iRng1D (eVar 1)) (tName 3) tYesD (e2 oIx (eVar 2) (e2 oMod (e2 oDiv (eVar 0) (eC (.int 3))) (eC (.int 94)))) [3]) eNil)))
    sSkip)
    (sRet (eBM "str" mJoin (eC (.str [])) (eCons (eComp (iRng1D (eVar 1)) (tName 3) tYesD (e2 oIx (eVar 2) (e2 oMod (e2 oAdd (e2 oDiv (eVar 0) (eC (.int 3))) (e2 oMul (eVar 3) (e2 oAdd (eC (.int 1)) (e2 oMod (e2 oDiv (eVar 0) (eC (.int 282))) (eC (.int 93)))))) (eC (.int 94)))) [3]) eNil))))) := rfl
      have hj := join_one (fun (i : Nat) => alphAt (x / 3 + (i : Int) * stepOf x)) (List.range k.toNat) (by simp; omega)
      rw [hA]
      clear hA
      have hcl : DL.signs2 x k.toNat = (List.range k.toNat).map fun (i : Nat) => alphAt (x / 3 + (i : Int) * stepOf x) := rfl
      rw [hcl]
      revert h6 h7
      generalize alph = A
      intro h7 h6
      by_cases c : x % 3 = 0
      · have hs : stepOf x = 0 := by unfold stepOf; rw [if_pos c]
        simp only [hs, Int.mul_zero, Int.add_zero] at hj ⊢
        simp [c, -List.map_map]
        rw [if_pos (by omega)]
        simp [rng_map, -List.map_map]
        generalize hr : compK _ _ _ _ _ _ _ = r
        obtain rfl := compK_r hr (List.range k.toNat) (fun (i : Nat) => .int (i : Int)) (fun _ => true) (fun i => .str [alphAt (x / 3)]) rfl (hL1000 (by simp; omega)) (fun i _ a => by simp [wipeD, h6, h7])
        simp only [filt_yes]
        simp only [mJoin]
        simp [hj]
      · have hs : stepOf x = 1 + x / 282 % 93 := by unfold stepOf; rw [if_neg c]
        simp only [hs] at hj ⊢
        simp [c, -List.map_map]
        rw [if_pos (by omega)]
        simp [rng_map, -List.map_map]
        generalize hr : compK _ _ _ _ _ _ _ = r
        obtain rfl := compK_r hr (List.range k.toNat) (fun (i : Nat) => .int (i : Int)) (fun _ => true) (fun i => .str [alphAt (x / 3 + (i : Int) * (1 + x / 282 % 93))]) rfl (hL1000 (by simp; omega)) (fun i hi a => by
          have h5 : MulOk (i : Int) (1 + x / 282 % 93) := mulOk_r (by omega) (by omega)
          simp [wipeD, h6, h7, h5])
        simp only [filt_yes]
        simp only [mJoin]
        simp [hj]
    · exact .bad
  · exact .bad
theorem P.signs2_eq {st : Store} {c k : Int} (h0 : 0 ≤ k) (h1 : k ≤ 1000) : P.signs2 [.int c, .int k] st = .ok (.str (DL.signs2 c k.toNat)) st := by simp [P.signs2, h0, h1]
end DL
/-! Pv: of parts told: plain. -/
namespace DL
open PySem L2
def isData (p : Pt) : Bool := p.2.isSome
def sumL (l : List Pt) : Int := ((l.filter isData).map fun p => ((p.2.getD []).length : Int)).sum
theorem sumL_snoc (l : List Pt) (p : Pt) : sumL (l ++ [p]) = sumL l + if isData p = true then ((p.2.getD []).length : Int) else 0 := by
  unfold sumL
  rw [List.filter_append, List.map_append, List.sum_append]
  cases h : isData p <;> simp [List.filter_cons, h]
structure NOk (txt : List Nat) (s0 : Int) (es0 : Bool) (q : NxSt) : Prop where
  lo : 0 ≤ q.sent
  hi : q.sent ≤ txt.length
  sum : q.sent = s0 + sumL q.found
  es : q.es = (es0 || decide (((txt.length : Int), (none : Option (List Nat))) ∈ q.found))
  part : ∀ p ∈ q.found, (p.2.getD []).length ≤ txt.length ∧ ∀ c ∈ p.2.getD [], c ∈ txt
theorem step_nok {txt : List Nat} {most limit s0 : Int} {ended es0 : Bool} {q q' : NxSt} (h : NOk txt s0 es0 q) (hs : nextStep txt most limit ended q = some q') : NOk txt s0 es0 q' := by
  unfold nextStep at hs
  split at hs
  · rename_i hc
    cases hs
    have hu : untilN txt most limit q.sent ≤ txt.length := by unfold untilN; omega
    have := h.lo
    have hlen : ((txt.drop q.sent.toNat).take ((untilN txt most limit q.sent).toNat - q.sent.toNat)).length = (untilN txt most limit q.sent).toNat - q.sent.toNat := by simp; omega
    refine ⟨by simp only; omega, hu, ?_, ?_, fun p hp => ?_⟩
    · simp only
      rw [sumL_snoc]
      have : isData (q.sent, some ((txt.drop q.sent.toNat).take ((untilN txt most limit q.sent).toNat - q.sent.toNat))) = true := rfl
      rw [if_pos this]
      simp only [Option.getD_some]
      rw [hlen]
      have := h.sum
      omega
    · simp only
      rw [h.es]
      congr 1
      rw [Bool.eq_iff_iff]; simp
    · simp only at hp
      rcases List.mem_append.mp hp with hp | hp
      · exact h.part p hp
      · rw [List.mem_singleton] at hp; subst hp
        simp only [Option.getD_some]
        rw [hlen]; exact ⟨by omega, fun c hc => List.mem_of_mem_drop (List.mem_of_mem_take hc)⟩
  · split at hs
    · rename_i hc
      cases hs
      refine ⟨h.lo, h.hi, ?_, ?_, fun p hp => ?_⟩
      · simp only
        rw [sumL_snoc]
        have : isData (q.sent, none) = false := rfl
        rw [this]
        have := h.sum
        simp; omega
      · simp only
        rw [hc.1]
        simp
      · simp only at hp
        rcases List.mem_append.mp hp with hp | hp
        · exact h.part p hp
        · rw [List.mem_singleton] at hp; subst hp; simp
    · cases hs
theorem next_nok {txt : List Nat} {most limit s0 : Int} {ended es0 : Bool} : ∀ (f : Nat) (q : NxSt), NOk txt s0 es0 q → NOk txt s0 es0 (nextF txt most limit ended f q)
  | 0, q, h => h
  | f + 1, q, h => by
    unfold nextF
    cases hs : nextStep txt most limit ended q with
    | none => exact h
    | some q' => exact next_nok f q' (step_nok h hs)
theorem nok_init {txt : List Nat} {s : Int} {es : Bool} (h0 : 0 ≤ s) (h1 : s ≤ txt.length) : NOk txt s es ⟨[], s, es⟩ :=
  ⟨h0, h1, by simp [sumL], by simp, fun _ h => (nomatch h)⟩
theorem next_same {txt : List Nat} {most limit : Int} {ended : Bool} : ∀ (f : Nat) (F : List Pt) (s : Int) (es : Bool),
    (nextF txt most limit true f ⟨F, s, !(ended && !es)⟩).found = (nextF txt most limit ended f ⟨F, s, es⟩).found
  | 0, F, s, es => rfl
  | f + 1, F, s, es => by
    unfold nextF
    unfold nextStep
    simp only
    by_cases c1 : s < untilN txt most limit s
    · rw [if_pos c1, if_pos c1]
      exact next_same f _ _ _
    · rw [if_neg c1, if_neg c1]
      cases ended
      · simp
      · cases es
        · by_cases c2 : s = (txt.length : Int)
          · simp [c2]
          · simp [c2]
        · simp
theorem next_len {txt : List Nat} {most limit : Int} {ended : Bool} : ∀ (f : Nat) (q : NxSt), (nextF txt most limit ended f q).found.length ≤ q.found.length + f
  | 0, q => Nat.le_refl _
  | f + 1, q => by
    unfold nextF
    cases hs : nextStep txt most limit ended q with
    | none => simp only; omega
    | some q' =>
      have := next_len (txt := txt) (most := most) (limit := limit) (ended := ended) f q'
      have := (step_found hs).1
      simp only; omega
theorem inD_val {st : Store} {n : Nat} {x : D} {l : List D} (h : st[n]? = some (.lst l)) (hx : flatD x = false) (hx2 : x.val 8 = true) (hl : D.vals 8 l = true) : inD x (.ref n) st = some (l.any fun y => eqB y x) := by
  have hd : isDict st (.ref n) = false := by simp [h]
  obtain ⟨a1, a2, a3⟩ := toPy_val st 8 x hx2
  obtain ⟨b1, b2, b3⟩ := toPys_val st 8 l hl
  have e2 : toPy st 9 (.ref n) = some (.list (D.pys l)) := by
    show (seqOf st n).bind (fun l => (l.mapM (toPy st 8)).map PyData.list) = _
    rw [seqOf_at, h, Option.bind_some, ob_seq_lst, Option.bind_some, b1]; rfl
  have e1 : inSeq x l = none := by unfold inSeq; rw [if_neg (by simp [hx])]
  unfold inD
  rw [hd, if_neg Bool.false_ne_true]
  show (match seqOf st n with | some l => (match inSeq x l with | some c => some c | none => inDeep x (.ref n) st) | none => _) = _
  rw [seqOf_at, h, Option.bind_some, ob_seq_lst]
  simp only [e1]
  unfold inDeep
  rw [a1, e2]
  simp only
  rw [if_pos ⟨by unfold SeqAt.shaped; simp [a2]; omega, by unfold SeqAt.shaped; simp [PyData.canLay0, PyData.depth, b2]; omega⟩]
  congr 1
  have : ∀ l : List D, D.vals 8 l = true → ((D.pys l).any fun z => PyData.eqv z x.py) = l.any fun y => eqB y x := fun l => by
    induction l with
    | nil => intro _; rfl
    | cons a l ih =>
      intro hl
      simp only [D.vals, Bool.and_eq_true] at hl
      simp only [D.pys, List.any_cons]
      rw [ih hl.2, eqv_py a x (nr_of_val a hl.1) (nr_of_val x hx2)]
  exact this l hl
theorem ptD_val (p : Pt) (h : ∀ s, p.2 = some s → s.all (fun c => decide (c < 0x110000)) = true) : (ptD p).val 1 = true := by
  unfold ptD
  cases z : p.2 with
  | none => simp [D.val, D.vals]
  | some s => simp [D.val, D.vals]; simpa using h s z
theorem pts_val {txt : List Nat} (ht : txt.all signB = true) : ∀ (l : List Pt), (∀ p ∈ l, (p.2.getD []).length ≤ txt.length ∧ ∀ c ∈ p.2.getD [], c ∈ txt) → D.vals 7 (l.map ptD) = true
  | [], _ => rfl
  | p :: l, h => by
    simp only [List.map_cons, D.vals, Bool.and_eq_true]
    refine ⟨?_, pts_val ht l fun q hq => h q (List.mem_cons_of_mem _ hq)⟩
    have hp := (h p (List.mem_cons_self ..)).2
    unfold ptD
    cases z : p.2 with
    | none => simp [D.val, D.vals]
    | some s =>
      rw [z] at hp
      simp [D.val, D.vals]
      intro c hc
      have := List.all_eq_true.mp ht c (hp c hc)
      simp [signB] at this
      omega
theorem any_end (k : Int) : ∀ l : List Pt, ((l.map ptD).any fun y => eqB y (.tup [.str [101, 110, 100], .int k])) = decide ((k, (none : Option (List Nat))) ∈ l)
  | [] => by simp
  | p :: l => by
    rw [List.map_cons, List.any_cons, any_end k l]
    obtain ⟨a, o⟩ := p
    cases o with
    | none =>
      by_cases h : a = k
      · subst h; simp [ptD, eqB, eqBs]
      · have : ¬ k = a := fun e => h e.symm
        simp [ptD, eqB, eqBs, h, this]
    | some s => simp [ptD, eqB, eqBs]
theorem ints_map {α : Type} (f : α → Int) (l : List α) : intsD (l.map fun p => D.int (f p)) = some (l.map f) := by
  induction l with
  | nil => rfl
  | cons a l ih => simp [intsD, ih]
mutual
theorem val_up : ∀ (d : D) (k : Nat), d.val k = true → d.val (k + 1) = true
  | .non, _, _ => rfl
  | .bl _, _, _ => rfl
  | .int _, _, _ => rfl
  | .str s, k, h => by cases k <;> exact h
  | .tup l, 0, h => by simp [D.val] at h
  | .tup l, k + 1, h => by simp only [D.val] at h ⊢; exact vals_up l k h
  | .ref n, k, h => by cases k <;> simp [D.val] at h
theorem vals_up : ∀ (l : List D) (k : Nat), D.vals k l = true → D.vals (k + 1) l = true
  | [], _, _ => rfl
  | d :: l, k, h => by
    simp only [D.vals, Bool.and_eq_true] at h ⊢
    exact ⟨val_up d k h.1, vals_up l k h.2⟩
end
theorem vals_mono (l : List D) (h : D.vals 7 l = true) : D.vals 8 l = true := vals_up l 7 h
theorem getD_set {P : List Bool} {j i : Nat} (hj : j < P.length) : (P.set j true).getD i false = (P.getD i false || decide (i = j)) := by
  rw [List.getD_eq_getElem?_getD, List.getD_eq_getElem?_getD]
  by_cases h : j = i
  · subst h
    rw [List.getElem?_set_self hj]; simp
  · rw [List.getElem?_set_ne h]
    have : decide (i = j) = false := by simp; omega
    rw [this, Bool.or_false]
section
variable {n : Nat} {b : SM} {d0 d1 d2 d3 d4 d5 d6 d7 d8 d9 : D} {st : Store}
@[simp] theorem run_f7 : fnM 7 n b [d0, d1, d2, d3, d4, d5, d6] st = (b (some d0 :: some d1 :: some d2 :: some d3 :: some d4 :: some d5 :: some d6 :: List.replicate (n - 7) none) st).fn := run_fn rfl
@[simp] theorem run_f8 : fnM 8 n b [d0, d1, d2, d3, d4, d5, d6, d7] st = (b (some d0 :: some d1 :: some d2 :: some d3 :: some d4 :: some d5 :: some d6 :: some d7 :: List.replicate (n - 8) none) st).fn := run_fn rfl
@[simp] theorem run_f9 : fnM 9 n b [d0, d1, d2, d3, d4, d5, d6, d7, d8] st = (b (some d0 :: some d1 :: some d2 :: some d3 :: some d4 :: some d5 :: some d6 :: some d7 :: some d8 :: List.replicate (n - 9) none) st).fn := run_fn rfl
end
theorem any_congr {α : Type} {f g : α → Bool} : ∀ {l : List α}, (∀ t ∈ l, f t = g t) → l.any f = l.any g
  | [], _ => rfl
  | a :: l, h => by rw [List.any_cons, List.any_cons, h a (List.mem_cons_self ..), any_congr fun t ht => h t (List.mem_cons_of_mem _ ht)]
theorem FldOk.sub {K : PySem.W.Frag} {Γ : Gam} {cs cs' : List CN} {f : FN} (h : FldOk K Γ cs f) (hs : (cs'.all fun c => cs.contains c) = true) : FldOk K Γ cs' f :=
  ⟨fun c hc => h.ok c (List.all_eq_true.mp hs c (by simpa using hc))⟩
end DL
/-! Pu: takers. -/
namespace DL
open PySem L2
structure Tk where
  room : Int
  sl : Sl
  text : List Nat
  read : Int
  limit : Int
  last : Option Int
  fin : Bool
def inD' : Option Int → D
  | some i => .int i
  | none => .non
def inOf : D → Option (Option Int)
  | .int i => some (some i)
  | .non => some none
  | _ => none
theorem inOf_eq {d : D} {x : Option Int} (h : inOf d = some x) : d = inD' x := by cases d <;> simp [inOf] at h <;> subst h <;> rfl
@[simp] theorem inOf_mk (x : Option Int) : inOf (inD' x) = some x := by cases x <;> rfl
def tkO (t : Tk) (s : Nat) : Ob := .ins .Taker [(.room, .int t.room), (.slate, .ref s), (.text, .str t.text), (.read, .int t.read), (.limit, .int t.limit), (.last, inD' t.last), (.is_done, .bl t.fin)]
def tkOf (st : Store) (n : Nat) : Option (Tk × Nat × Nat) := match st[n]? with
  | some (.ins .Taker [(.room, .int m), (.slate, .ref s), (.text, .str x), (.read, .int r), (.limit, .int l), (.last, la), (.is_done, .bl d)]) => match inOf la with
    | some la => match slOf st s with
      | some (q, b) => some (⟨m, q, x, r, l, la, d⟩, s, b)
      | none => none
    | none => none
  | _ => none
theorem tkOf_eq {st : Store} {n s b : Nat} {t : Tk} (h : tkOf st n = some (t, s, b)) : st[n]? = some (tkO t s) ∧ st[s]? = some (slO t.sl b) ∧ st[b]? = some (slB t.sl) := by
  unfold tkOf at h
  split at h
  · rename_i m s' x r l la d e
    cases z : inOf la with
    | none => rw [z] at h; cases h
    | some la' =>
      rw [z] at h
      simp only at h
      cases w : slOf st s' with
      | none => rw [w] at h; cases h
      | some p =>
        obtain ⟨q, b'⟩ := p
        rw [w] at h
        cases h
        have := inOf_eq z
        subst this
        exact ⟨e, slOf_eq w⟩
  · cases h
theorem tkOf_mk {st : Store} {n s b : Nat} {t : Tk} (h1 : st[n]? = some (tkO t s)) (h2 : st[s]? = some (slO t.sl b)) (h3 : st[b]? = some (slB t.sl)) : tkOf st n = some (t, s, b) := by
  unfold tkOf
  rw [h1]
  simp only [tkO, inOf_mk, slOf_mk h2 h3]
theorem tkO_lt {t : Tk} {s m : Nat} (h : s < m) : (tkO t s).lt m = true := by
  cases hl : t.last <;> simp [tkO, Ob.lt, D.ltAll, D.lt, h, hl, inD']
section
variable (t : Tk) (s : Nat) (cs : List CN)
@[simp] theorem tkO_cl : (tkO t s).cl = some .Taker := rfl
@[simp] theorem tkO_room : Ob.fld [.Taker] .room (tkO t s) = some (.int t.room) := rfl
@[simp] theorem tkO_slate : Ob.fld [.Taker] .slate (tkO t s) = some (.ref s) := rfl
theorem tkO_textG (h : cs.contains .Taker = true) : Ob.fld cs .text (tkO t s) = some (.str t.text) := by show (if _ then _ else _) = _; rw [h]; rfl
@[simp] theorem tkO_text : Ob.fld [.Taker] .text (tkO t s) = some (.str t.text) := rfl
@[simp] theorem tkO_text2 : Ob.fld [.Slate, .Taker] .text (tkO t s) = some (.str t.text) := rfl
@[simp] theorem tkO_read : Ob.fld [.Taker] .read (tkO t s) = some (.int t.read) := rfl
@[simp] theorem tkO_limit : Ob.fld [.Taker] .limit (tkO t s) = some (.int t.limit) := rfl
@[simp] theorem tkO_last : Ob.fld [.Taker] .last (tkO t s) = some (inD' t.last) := rfl
@[simp] theorem tkO_fin : Ob.fld [.Taker] .is_done (tkO t s) = some (.bl t.fin) := rfl
@[simp] theorem tkO_setText (x : List Nat) : Ob.setf [.Taker] .text (.str x) (tkO t s) = some (tkO { t with text := x } s) := rfl
@[simp] theorem tkO_setRead (x : Int) : Ob.setf [.Taker] .read (.int x) (tkO t s) = some (tkO { t with read := x } s) := rfl
@[simp] theorem tkO_setLimit (x : Int) : Ob.setf [.Taker] .limit (.int x) (tkO t s) = some (tkO { t with limit := x } s) := rfl
@[simp] theorem tkO_setLast (x : Int) : Ob.setf [.Taker] .last (.int x) (tkO t s) = some (tkO { t with last := some x } s) := rfl
@[simp] theorem tkO_setFin (x : Bool) : Ob.setf [.Taker] .is_done (.bl x) (tkO t s) = some (tkO { t with fin := x } s) := rfl
theorem tkO_sl (q : Sl) : tkO { t with sl := q } s = tkO t s := rfl
end
def newTk (m : Int) : Tk := ⟨m, newSl, [], 0, m, none, false⟩
def Tk.most (t : Tk) : Int := match t.last with
  | some l => min t.limit l
  | none => t.limit
def Tk.putSl (t : Tk) (at' : Int) (x : List Nat) : Sl := if at' < t.most then putS t.sl at' (x.take (t.most - at').toNat) else t.sl
def Tk.put (t : Tk) (at' : Int) (x : List Nat) : Tk := { t with sl := t.putSl at' x, text := (t.putSl at' x).text }
def Tk.highest (t : Tk) : Int := match t.sl.spans.getLast? with
  | some p => p.2
  | none => t.text.length
def Tk.ends (t : Tk) (at' : Int) : Tk := if t.last = none ∧ t.highest ≤ at' then { t with last := some at', fin := decide (t.read = at') } else t
def Tk.found (t : Tk) (c : Int) : List Nat := (t.text.drop t.read.toNat).take ((t.read + c).toNat - t.read.toNat)
def Tk.take (t : Tk) (c : Int) : Tk := { t with read := t.read + (t.found c).length, limit := t.read + (t.found c).length + t.room, fin := decide (t.last = some (t.read + (t.found c).length)) }
def Tk.come (t : Tk) : Int := t.text.length + (if t.last = some (t.text.length : Int) then 1 else 0)
def Tk.answer (t : Tk) : D := .tup [.int t.come, .int t.limit, rowL (t.sl.spans.take 8)]
def tkSet (st : Store) (n s b : Nat) (t : Tk) : Store := (upd2 st b (slB t.sl) s (slO t.sl b)).set n (tkO t s)
def P.Taker_init : FM := fun ds st => match ds with
  | [.ref n, .int m] => match st[n]? with
    | some (.ins .Taker []) => .ok .non (st.set n (tkO (newTk m) st.length) ++ [slO newSl (st.length + 1), slB newSl])
    | _ => .bad
  | _ => .bad
def P.Taker_put : FM := fun ds st => match ds with
  | [.ref n, .int at', .str x] => match tkOf st n with
    | some (t, s, b) => if t.sl.text.length ≤ 50000 ∧ t.sl.behind.length ≤ 50000 ∧ x.length ≤ 10000 ∧ t.sl.spans.length ≤ 5000 ∧ 0 ≤ at' then .ok .non (tkSet st n s b (t.put at' x)) else .bad
    | none => .bad
  | _ => .bad
def P.Taker_highest : FM := fun ds st => match ds with
  | [.ref n] => match tkOf st n with
    | some (t, s, b) => if t.text.length ≤ 100000 then .ok (.int t.highest) st else .bad
    | none => .bad
  | _ => .bad
def P.Taker_ends : FM := fun ds st => match ds with
  | [.ref n, .int at'] => match tkOf st n with
    | some (t, s, b) => if t.text.length ≤ 100000 then .ok .non (st.set n (tkO (t.ends at') s)) else .bad
    | none => .bad
  | _ => .bad
def P.Taker_take : FM := fun ds st => match ds with
  | [.ref n, .int c] => match tkOf st n with
    | some (t, s, b) => if t.text.length ≤ 100000 ∧ 0 ≤ t.read then (if c < 1 ∨ 200 < c then .exn .TooMuch st else .ok (.str (t.found c)) (st.set n (tkO (t.take c) s))) else .bad
    | none => .bad
  | _ => .bad
def P.Taker_answer : FM := fun ds st => match ds with
  | [.ref n] => match tkOf st n with
    | some (t, s, b) => if t.text.length ≤ 100000 then .ok t.answer st else .bad
    | none => .bad
  | _ => .bad
def P.b_Taker_init : SM := (sSeq (sFldD [.Taker] .room (eVar 0) (eVar 1))
    (sSeq (sFldD [.Taker] .slate (eVar 0) (eMake .Slate DL.P.Slate_init eNil))
    (sSeq (sFldD [.Taker] .text (eVar 0) (eC (.str [])))
    (sSeq (sFldD [.Taker] .read (eVar 0) (eC (.int 0)))
    (sSeq (sFldD [.Taker] .limit (eVar 0) (eVar 1))
    (sSeq (sFldD [.Taker] .last (eVar 0) (eC .non))
    (sFldD [.Taker] .is_done (eVar 0) (eC (.bl false)))))))))
def P.m_Taker_init : FM := fnM 2 2 P.b_Taker_init

def P.b_Taker_put : SM := (sSeq (sSet 3 (eFld [.Taker] .limit (eVar 0)))
    (sSeq (sIf (tB (e2 oNotN (eFld [.Taker] .last (eVar 0)) (eC .non)))
    (sSet 3 (e1 oMin (eCons (eVar 3) (eCons (eFld [.Taker] .last (eVar 0)) eNil))))
    sSkip)
    (sSeq (sIf (tB (e2 oLt (eVar 1) (eVar 3)))
    (sDo (eMeth .Slate DL.P.Slate_put (eFld [.Taker] .slate (eVar 0)) (eCons (eVar 1) (eCons (eSli (eVar 2) oNo (oSo (e2 oSub (eVar 3) (eVar 1)))) eNil))))
    sSkip)
    (sFldD [.Taker] .text (eVar 0) (eFld [.Slate] .text (eFld [.Taker] .slate (eVar 0)))))))
def P.m_Taker_put : FM := fnM 3 4 P.b_Taker_put

def P.b_Taker_highest : SM := (sSeq (sIf (tB (e2 oGt (e1 oLen (eCons (eFld [.Slate] .spans (eFld [.Taker] .slate (eVar 0))) eNil)) (eC (.int 0))))
    (sRet (e2 oIx (e2 oIx (eFld [.Slate] .spans (eFld [.Taker] .slate (eVar 0))) (e1 oNeg (eC (.int 1)))) (eC (.int 1))))
    sSkip)
    (sRet (e1 oLen (eCons (eFld [.Taker] .text (eVar 0)) eNil))))
def P.m_Taker_highest : FM := fnM 1 1 P.b_Taker_highest

def P.b_Taker_ends : SM := (sIf (tAndD (tB (e2 oIsN (eFld [.Taker] .last (eVar 0)) (eC .non))) (tB (e2 oLe (eMeth .Taker DL.P.Taker_highest (eVar 0) eNil) (eVar 1))))
    (sSeq (sFldD [.Taker] .last (eVar 0) (eVar 1))
    (sFldD [.Taker] .is_done (eVar 0) (e2 oEq (eFld [.Taker] .read (eVar 0)) (eVar 1))))
    sSkip)
def P.m_Taker_ends : FM := fnM 2 2 P.b_Taker_ends

def P.b_Taker_take : SM := (sSeq (sIf (tOrD (tB (e2 oLt (eVar 1) (eC (.int 1)))) (tB (e2 oGt (eVar 1) (eC (.int 200)))))
    (sRaise .TooMuch)
    sSkip)
    (sSeq (sSet 2 (eSli (eFld [.Taker] .text (eVar 0)) (oSo (eFld [.Taker] .read (eVar 0))) (oSo (e2 oAdd (eFld [.Taker] .read (eVar 0)) (eVar 1)))))
    (sSeq (sFldD [.Taker] .read (eVar 0) (e2 oAdd (eFld [.Taker] .read (eVar 0)) (e1 oLen (eCons (eVar 2) eNil))))
    (sSeq (sFldD [.Taker] .limit (eVar 0) (e2 oAdd (eFld [.Taker] .read (eVar 0)) (eFld [.Taker] .room (eVar 0))))
    (sSeq (sFldD [.Taker] .is_done (eVar 0) (e2 oEq (eFld [.Taker] .read (eVar 0)) (eFld [.Taker] .last (eVar 0))))
    (sRet (eVar 2)))))))
def P.m_Taker_take : FM := fnM 2 3 P.b_Taker_take

def P.b_Taker_answer : SM := (sSeq (sSet 1 (e2 oAdd (e1 oLen (eCons (eFld [.Taker] .text (eVar 0)) eNil)) (e1 oInt (eCons (e2 oEq (e1 oLen (eCons (eFld [.Taker] .text (eVar 0)) eNil)) (eFld [.Taker] .last (eVar 0))) eNil))))
    (sRet (eTup (eCons (eVar 1) (eCons (eFld [.Taker] .limit (eVar 0)) (eCons (eSli (eFld [.Slate] .spans (eFld [.Taker] .slate (eVar 0))) oNo (oSo (eC (.int 8)))) eNil))))))
def P.m_Taker_answer : FM := fnM 1 2 P.b_Taker_answer

theorem P.tell_Taker_init : ∀ (st : Store) (ds : List D), st.Ok → D.ltAll st.length ds = true → Tell st (P.Taker_init ds st) (P.m_Taker_init ds st) := by
  intro st ds ok lt
  unfold P.Taker_init
  split
  · rename_i n m
    split
    · rename_i h
      have hn := lt_of_get h
      have hs : ∀ o, (st.set n o)[n]? = some o := fun o => List.getElem?_set_self hn
      have hs2 : ∀ o g, (st.set n o ++ g)[n]? = some o := fun o g => by rw [getL (by simpa using hn)]; exact hs o
      have hs3 : ∀ o o' g, (st.set n o ++ g).set n o' = st.set n o' ++ g := fun o o' g => by rw [setL (by simpa using hn), List.set_set]
      have hini : ∀ o, P.Slate_init [.ref st.length] (st.set n o ++ [.ins .Slate []]) = .ok .non (st.set n o ++ [slO newSl (st.length + 1), slB newSl]) := fun o => by
        have e : (st.set n o ++ [Ob.ins .Slate []])[st.length]? = some (.ins .Slate []) := by
          have := getA0 (st := st.set n o) (l := [Ob.ins .Slate []]); rw [List.length_set] at this; rw [this]; rfl
        simp only [P.Slate_init, e]
        have e2 : (st.set n o ++ [Ob.ins .Slate []]).set st.length (slO newSl (st.length + 1)) = st.set n o ++ [slO newSl (st.length + 1)] := by
          have := setA0 (st := st.set n o) (l := [Ob.ins .Slate []]) (o' := slO newSl (st.length + 1)); rw [List.length_set] at this; rw [this]; rfl
        simp [e2]
      have : P.m_Taker_init [.ref n, .int m] st = .ok .non (st.set n (tkO (newTk m) st.length) ++ [slO newSl (st.length + 1), slB newSl]) := by
        rw [P.m_Taker_init]
        simp [P.b_Taker_init, h, hs, hs2, hs3, hini, putD, List.set_set]
        rfl
      rw [this]
      refine .eq (by simp) ?_ rfl
      intro i p e
      simp only [List.length_append, List.length_set, List.length_cons, List.length_nil]
      by_cases hi : i < st.length
      · rw [getL (by simpa using hi)] at e
        by_cases hj : n = i
        · subst hj
          rw [hs] at e; cases e
          exact tkO_lt (by omega)
        · rw [List.getElem?_set_ne hj] at e
          exact Ob.lt_mono (by omega) p (ok i p e)
      · have hl := (List.getElem?_eq_some_iff.mp e).1
        simp at hl
        have h0 := getAk (st := st.set n (tkO (newTk m) st.length)) (l := [slO newSl (st.length + 1), slB newSl]) (k := i - st.length)
        rw [List.length_set, show st.length + (i - st.length) = i by omega] at h0
        rw [h0] at e
        have : i - st.length = 0 ∨ i - st.length = 1 := by omega
        rcases this with h | h <;> rw [h] at e <;> cases e
        · exact slO_lt (by omega)
        · exact slB_lt _ _
    · exact .bad
  · exact .bad
theorem tk_ne {st : Store} {n s b : Nat} {t : Tk} (h1 : st[n]? = some (tkO t s)) (h2 : st[s]? = some (slO t.sl b)) (h3 : st[b]? = some (slB t.sl)) : n ≠ s ∧ n ≠ b ∧ s ≠ b := by
  refine ⟨?_, ?_, ?_⟩
  · rintro rfl; rw [h1] at h2; cases h2
  · rintro rfl; rw [h1] at h3; cases h3
  · rintro rfl; rw [h2] at h3; cases h3
theorem P.tell_Taker_put : ∀ (st : Store) (ds : List D), st.Ok → D.ltAll st.length ds = true → Tell st (P.Taker_put ds st) (P.m_Taker_put ds st) := by
  intro st ds ok lt
  unfold P.Taker_put
  split
  · rename_i n at' x
    split
    · rename_i t s b ht
      obtain ⟨h1, h2, h3⟩ := tkOf_eq ht
      have hn := lt_of_get h1
      have hs := lt_of_get h2
      have hb := lt_of_get h3
      obtain ⟨n1, n2, n3⟩ := tk_ne h1 h2 h3
      split
      · rename_i hl
        obtain ⟨l1, l2, l3, l4, h0⟩ := hl
        have l3' := hL5 (show x.length ≤ 100000 by omega)
        have e : P.m_Taker_put [.ref n, .int at', .str x] st = .ok .non (tkSet st n s b (t.put at' x)) := by
          have hm : ∀ (y : Int), y = t.most → P.m_Taker_put [.ref n, .int at', .str x] st = .ok .non (tkSet st n s b (t.put at' x)) := fun y hy => by
            have hid : upd2 st b (slB t.sl) s (slO t.sl b) = st := upd2_id h2 h3
            have un : ∀ X Y, (upd2 st b X s Y)[n]? = some (tkO t s) := fun X Y => by unfold upd2; rw [List.getElem?_set_ne (Ne.symm n1), List.getElem?_set_ne (Ne.symm n2)]; exact h1
            have us : ∀ X Y, (upd2 st b X s Y)[s]? = some Y := fun X Y => upd2_n' hs
            have htx : (tkO { t with text := (t.putSl at' x).text } s) = tkO (t.put at' x) s := rfl
            by_cases c : at' < t.most
            · have hp := P.Slate_put
              have hput : ∀ z, z = x.take (t.most - at').toNat → P.Slate_put [.ref s, .int at', .str z] st = .ok .non (upd2 st b (slB (t.putSl at' x)) s (slO (t.putSl at' x) b)) := fun z hz => by
                subst hz
                simp only [P.Slate_put, slOf_mk h2 h3]
                rw [if_pos ⟨l1, l2, by simp; omega, l4⟩, if_neg (by omega)]
                unfold Tk.putSl; rw [if_pos c]
              have hcut : cutL x none (some (t.most - at')) = x.take (t.most - at').toNat := cut_to (by omega)
              have hput' := hput _ hcut
              rw [P.m_Taker_put]
              have hsl : (t.put at' x).sl = t.putSl at' x := rfl
              cases hla : t.last with
              | none =>
                have hmost : t.limit = t.most := by unfold Tk.most; rw [hla]
                simp [P.b_Taker_put, h1, h2, hla, inD', l3', hput', hmost, c, un, us, htx, tkSet, hsl]
                clear hmost htx hput' hcut hput hsl
                cases t; simp only at hla; subst hla; rfl
              | some l =>
                have hmost : min t.limit l = t.most := by unfold Tk.most; rw [hla]
                simp [P.b_Taker_put, h1, h2, hla, inD', l3', hput', hmost, c, un, us, htx, tkSet, hsl]
                clear hmost htx hput' hcut hput hsl
                cases t; simp only at hla; subst hla; rfl
            · have hsl : t.putSl at' x = t.sl := by unfold Tk.putSl; rw [if_neg c]
              have hsl2 : (t.put at' x).sl = t.sl := hsl
              rw [hsl] at htx
              rw [P.m_Taker_put]
              cases hla : t.last with
              | none =>
                have hmost : t.limit = t.most := by unfold Tk.most; rw [hla]
                simp [P.b_Taker_put, h1, h2, hla, inD', hmost, c, htx, tkSet, hsl2, hid]
                rw [← hsl]
                clear hmost htx hsl2 hid un us
                cases t; simp only at hla; subst hla; rfl
              | some l =>
                have hmost : min t.limit l = t.most := by unfold Tk.most; rw [hla]
                simp [P.b_Taker_put, h1, h2, hla, inD', hmost, c, htx, tkSet, hsl2, hid]
                rw [← hsl]
                clear hmost htx hsl2 hid un us
                cases t; simp only at hla; subst hla; rfl
          exact hm _ rfl
        rw [e]
        refine .eq (by simp [tkSet]) ?_ rfl
        unfold tkSet upd2
        exact Ok.set (Ok.set (Ok.set ok (slB_lt _ _)) (slO_lt (by simpa using hb))) (tkO_lt (by simpa using hs))
      · exact .bad
    · exact .bad
  · exact .bad
theorem P.tell_Taker_highest : ∀ (st : Store) (ds : List D), st.Ok → D.ltAll st.length ds = true → Tell st (P.Taker_highest ds st) (P.m_Taker_highest ds st) := by
  intro st ds ok lt
  unfold P.Taker_highest
  split
  · rename_i n
    split
    · rename_i t s b ht
      obtain ⟨h1, h2, h3⟩ := tkOf_eq ht
      split
      · rename_i hl
        have l1 := hL5 hl
        refine tell_eq ok rfl ?_
        rw [P.m_Taker_highest]
        rcases List.eq_nil_or_concat t.sl.spans with hR | ⟨R0, p, hR⟩
        · have : t.highest = t.text.length := by unfold Tk.highest; rw [hR]; rfl
          simp [P.b_Taker_highest, h1, h2, hR, rowL, l1, this]
        · rw [List.concat_eq_append] at hR
          have hh : t.highest = p.2 := by unfold Tk.highest; rw [hR]; simp
          have hla : atI ((R0 ++ [p]).map spD) (-1) = some (spD p) := by rw [List.map_append]; exact atI_end _ _
          rw [spD] at hla
          obtain ⟨RR, hrow, hla, hl0⟩ : ∃ RR, rowL t.sl.spans = .tup RR ∧ atI RR (-1) = some (.tup [.int p.1, .int p.2]) ∧ 0 < RR.length := ⟨(R0 ++ [p]).map spD, by rw [hR, rowL], hla, by simp⟩
          simp [P.b_Taker_highest, h1, h2, hrow, hla, hl0, hh]
      · exact .bad
    · exact .bad
  · exact .bad
theorem P.tell_Taker_ends : ∀ (st : Store) (ds : List D), st.Ok → D.ltAll st.length ds = true → Tell st (P.Taker_ends ds st) (P.m_Taker_ends ds st) := by
  intro st ds ok lt
  unfold P.Taker_ends
  split
  · rename_i n at'
    split
    · rename_i t s b ht
      obtain ⟨h1, h2, h3⟩ := tkOf_eq ht
      have hn := lt_of_get h1
      have hs := lt_of_get h2
      split
      · rename_i hl
        have hh : P.Taker_highest [.ref n] st = .ok (.int t.highest) st := by simp only [P.Taker_highest, ht]; rw [if_pos hl]
        have gs : ∀ Y, (st.set n Y)[n]? = some Y := fun Y => List.getElem?_set_self hn
        have e : P.m_Taker_ends [.ref n, .int at'] st = .ok .non (st.set n (tkO (t.ends at') s)) := by
          rw [P.m_Taker_ends]
          cases hla : t.last with
          | none =>
            by_cases c : t.highest ≤ at'
            · have : t.ends at' = { t with last := some at', fin := decide (t.read = at') } := by unfold Tk.ends; rw [if_pos ⟨hla, c⟩]
              simp [P.b_Taker_ends, h1, hla, inD', hh, c, gs, this]
            · have : t.ends at' = t := by unfold Tk.ends; rw [if_neg (fun h => c h.2)]
              simp [P.b_Taker_ends, h1, hla, inD', hh, c, this, set_id h1]
          | some l =>
            have : t.ends at' = t := by unfold Tk.ends; rw [if_neg (fun h => by rw [hla] at h; exact absurd h.1 (by simp))]
            simp [P.b_Taker_ends, h1, hla, inD', this, set_id h1]
        rw [e]
        exact .eq (by simp) (Ok.set ok (tkO_lt hs)) rfl
      · exact .bad
    · exact .bad
  · exact .bad
theorem P.tell_Taker_take : ∀ (st : Store) (ds : List D), st.Ok → D.ltAll st.length ds = true → Tell st (P.Taker_take ds st) (P.m_Taker_take ds st) := by
  intro st ds ok lt
  unfold P.Taker_take
  split
  · rename_i n c
    split
    · rename_i t s b ht
      obtain ⟨h1, h2, h3⟩ := tkOf_eq ht
      have hn := lt_of_get h1
      have hs := lt_of_get h2
      split
      · rename_i hl
        obtain ⟨hl, h0⟩ := hl
        split
        · rename_i hc
          refine tell_exn ok ⟨[], ?_⟩
          rw [P.m_Taker_take]
          by_cases c1 : c < 1
          · simp [P.b_Taker_take, c1]
          · have c2 : 200 < c := by omega
            simp [P.b_Taker_take, c1, c2]
        · rename_i hc
          have l1 := hL5 hl
          have gs : ∀ Y, (st.set n Y)[n]? = some Y := fun Y => List.getElem?_set_self hn
          have c1 : ¬ c < 1 := by omega
          have c2 : ¬ 200 < c := by omega
          have hcut : cutL t.text (some t.read) (some (t.read + c)) = t.found c := cut_mid h0 (by omega)
          have hfl : (t.found c).length ≤ sizeLine := hL5 (by unfold Tk.found; simp; omega)
          have e : P.m_Taker_take [.ref n, .int c] st = .ok (.str (t.found c)) (st.set n (tkO (t.take c) s)) := by
            rw [P.m_Taker_take]
            have htk : t.take c = { t with read := t.read + (t.found c).length, limit := t.read + (t.found c).length + t.room, fin := decide (t.last = some (t.read + (t.found c).length)) } := rfl
            rw [htk]
            generalize t.found c = F at *
            cases hla : t.last with
            | none =>
              simp [P.b_Taker_take, c1, c2, h1, gs, l1, hcut, hfl, hla, inD', List.set_set]
            | some l =>
              have hdec : decide (t.read + (F.length : Int) = l) = decide (l = t.read + (F.length : Int)) := by rw [Bool.eq_iff_iff]; simp; omega
              simp [P.b_Taker_take, c1, c2, h1, gs, l1, hcut, hfl, hla, inD', List.set_set, hdec]
          rw [e]
          exact .eq (by simp) (Ok.set ok (tkO_lt hs)) rfl
      · exact .bad
    · exact .bad
  · exact .bad
theorem P.tell_Taker_answer : ∀ (st : Store) (ds : List D), st.Ok → D.ltAll st.length ds = true → Tell st (P.Taker_answer ds st) (P.m_Taker_answer ds st) := by
  intro st ds ok lt
  unfold P.Taker_answer
  split
  · rename_i n
    split
    · rename_i t s b ht
      obtain ⟨h1, h2, h3⟩ := tkOf_eq ht
      split
      · rename_i hl
        have l1 := hL5 hl
        have hnr : t.answer.nr = true := by
          have := nrs_row (t.sl.spans.take 8)
          simp [Tk.answer, D.nr, D.nrs, rowL, this, -List.map_take]
        refine tell_eq ok hnr ?_
        have hcut : cutL (t.sl.spans.map spD) none (some 8) = (t.sl.spans.take 8).map spD := by
          have := cut_to (l := t.sl.spans.map spD) (i := 8) (by omega); rw [this]; simp
        have hrow : rowL t.sl.spans = .tup (t.sl.spans.map spD) := rfl
        rw [P.m_Taker_answer]
        unfold Tk.answer Tk.come
        cases hla : t.last with
        | none => simp [P.b_Taker_answer, h1, h2, l1, hla, inD', hrow, hcut, -List.map_take]
        | some l =>
          by_cases c : (t.text.length : Int) = l
          · subst c
            simp [P.b_Taker_answer, h1, h2, l1, hla, inD', hrow, hcut, -List.map_take]
          · have c' : ¬ l = (t.text.length : Int) := fun h => c h.symm
            simp [P.b_Taker_answer, h1, h2, l1, hla, inD', hrow, hcut, c, c', -List.map_take]
      · exact .bad
    · exact .bad
  · exact .bad
end DL
/-! Pw: takers and places, one by one: plain. -/
namespace DL
open PySem L2
/-- what stands at a place -/
def gp (L : List (Option Nat)) (p : Int) : Option Nat := if 0 ≤ p then (L[p.toNat]?).join else none
theorem gp_nat (L : List (Option Nat)) (i : Nat) : gp L (i : Int) = (L[i]?).join := by unfold gp; rw [if_pos (by omega), Int.toNat_natCast]
theorem gp_ge {L : List (Option Nat)} {p : Int} (h : (L.length : Int) ≤ p) : gp L p = none := by
  unfold gp; split
  · rw [List.getElem?_eq_none (by omega)]; rfl
  · rfl
theorem gp_lt {L : List (Option Nat)} {p : Int} (h : (gp L p).isSome = true) : 0 ≤ p ∧ p < L.length := by
  refine ⟨Classical.byContradiction fun c => ?_, Classical.byContradiction fun c => ?_⟩
  · unfold gp at h; rw [if_neg c] at h; cases h
  · rw [gp_ge (by omega)] at h; cases h
theorem gp_app (L : List (Option Nat)) (m : Nat) (p : Int) : gp (L ++ List.replicate m none) p = gp L p := by
  unfold gp
  split
  · rw [List.getElem?_append]
    split
    · rfl
    · rw [List.getElem?_replicate, List.getElem?_eq_none (l := L) (by omega)]
      split <;> rfl
  · rfl
theorem gp_set {L : List (Option Nat)} {n : Nat} {c : Nat} {p : Int} (hn : n < L.length) : gp (L.set n (some c)) p = if p = (n : Int) then some c else gp L p := by
  unfold gp
  by_cases h : p = (n : Int)
  · rw [if_pos h, if_pos (by omega), h, Int.toNat_natCast, List.getElem?_set_self hn]; rfl
  · rw [if_neg h]
    split
    · rw [List.getElem?_set_ne (by omega)]
    · rfl
structure SV (q : Sl) (L : List (Option Nat)) : Prop where
  ok : SlOk q
  eq : ∀ p, q.at p = gp L p
  la : L = [] ∨ (gp L ((L.length : Int) - 1)).isSome = true
theorem Sl.at_lt {q : Sl} {i : Nat} (h : i < q.text.length) : q.at (i : Int) = some q.text[i] := by
  unfold Sl.at; rw [if_pos ⟨by omega, by omega⟩, Int.toNat_natCast, List.getElem?_eq_getElem h]
theorem Sl.at_len {q : Sl} (h : SlOk q) : q.at (q.text.length : Int) = none := by
  unfold Sl.at; rw [if_neg (by omega)]
  cases z : lookI q.behind (q.text.length : Int) with
  | none => rfl
  | some c => have := h.up _ _ z; omega
theorem Sl.at_neg {q : Sl} (h : SlOk q) {p : Int} (hp : p < 0) : q.at p = none := by
  unfold Sl.at; rw [if_neg (by omega)]
  cases z : lookI q.behind p with
  | none => rfl
  | some c => have := h.up _ _ z; omega
theorem SV.lt {q : Sl} {L : List (Option Nat)} (h : SV q L) {i : Nat} (hi : i < q.text.length) : L[i]? = some (some q.text[i]) := by
  have := h.eq (i : Int)
  rw [Sl.at_lt hi, gp_nat] at this
  cases z : L[i]? with
  | none => rw [z] at this; cases this
  | some o =>
    rw [z] at this
    cases o with
    | none => cases this
    | some c => cases this; rfl
theorem SV.len {q : Sl} {L : List (Option Nat)} (h : SV q L) : q.text.length ≤ L.length := by
  refine Classical.byContradiction fun c => ?_
  have := h.lt (i := L.length) (by omega)
  rw [List.getElem?_eq_none (Nat.le_refl _)] at this; cases this
theorem SV.none {q : Sl} {L : List (Option Nat)} (h : SV q L) : gp L (q.text.length : Int) = none := by rw [← h.eq, Sl.at_len h.ok]
theorem SV.take {q : Sl} {L : List (Option Nat)} (h : SV q L) : L.take q.text.length = q.text.map some := by
  apply List.ext_getElem?; intro i
  rw [List.getElem?_take, List.getElem?_map]
  by_cases c : i < q.text.length
  · rw [if_pos c, h.lt c, List.getElem?_eq_getElem c]; rfl
  · rw [if_neg c, List.getElem?_eq_none (by omega)]; rfl
/-- the highest place -/
def hiSl (q : Sl) : Int := match q.spans.getLast? with
  | some p => p.2
  | none => q.text.length
theorem row_last {R : List Sp} {t : Sp} (h : RowOk (R ++ [t])) : ∀ s ∈ R ++ [t], s.2 ≤ t.2 := fun s hs => by
  obtain ⟨h1, h2, h3⟩ := RowOk.app.mp h
  have h4 := (RowOk.cons.mp h2).2.1
  rcases List.mem_append.mp hs with hs | hs
  · have := h3 s hs t (by simp); omega
  · rw [List.mem_singleton] at hs; subst hs; omega
theorem SV.beh {q : Sl} {L : List (Option Nat)} (h : SV q L) (p : Int) : q.spans.any (isIn p) = (decide ((q.text.length : Int) ≤ p) && (gp L p).isSome) := by
  rw [h.ok.cov, ← h.eq]
  by_cases c : (q.text.length : Int) ≤ p
  · have : decide ((q.text.length : Int) ≤ p) = true := by simpa using c
    rw [this, Bool.true_and]
    unfold Sl.at; rw [if_neg (by omega)]
  · have : decide ((q.text.length : Int) ≤ p) = false := by simpa using c
    rw [this, Bool.false_and]
    cases z : lookI q.behind p with
    | none => rfl
    | some c => have := h.ok.up _ _ z; omega
theorem SV.hi {q : Sl} {L : List (Option Nat)} (h : SV q L) : hiSl q = L.length := by
  have hl := h.len
  have hge : (L.length : Int) ≤ hiSl q := by
    unfold hiSl
    rcases h.la with c | c
    · rw [c]
      cases z : q.spans.getLast? with
      | none => simp
      | some p => have := (h.ok.row.ok p (List.mem_of_getLast? z)); simp only [List.length_nil]; omega
    · rcases List.eq_nil_or_concat q.spans with hR | ⟨R, t, hR⟩
      · rw [hR]
        simp only [List.getLast?_nil]
        have h1 := h.beh ((L.length : Int) - 1)
        rw [hR, c, Bool.and_true] at h1
        simp at h1; omega
      · rw [List.concat_eq_append] at hR
        rw [hR, List.getLast?_append]
        simp only [List.getLast?_singleton, Option.some_or]
        have h0 := h.ok.row
        rw [hR] at h0
        have h1 := h.beh ((L.length : Int) - 1)
        rw [c, Bool.and_true] at h1
        by_cases d : (q.text.length : Int) ≤ (L.length : Int) - 1
        · rw [decide_eq_true d] at h1
          obtain ⟨s, hs, h2⟩ := any_in.mp h1
          rw [hR] at hs
          have := row_last h0 s hs
          omega
        · have h3 := h.beh t.1
          have h4 := h0.ok t (by simp)
          have h5 : q.spans.any (isIn t.1) = true := any_in.mpr ⟨t, by rw [hR]; simp, by omega, by omega⟩
          rw [h5] at h3
          have h6 := h3.symm
          rw [Bool.and_eq_true] at h6
          have := gp_lt h6.2
          have h7 := h6.1
          simp at h7
          omega
  have hle : hiSl q ≤ L.length := by
    unfold hiSl
    cases z : q.spans.getLast? with
    | none => simp only; omega
    | some p =>
      simp only
      have hp := List.mem_of_getLast? z
      have h4 := h.ok.row.ok p hp
      have h5 : q.spans.any (isIn (p.2 - 1)) = true := any_in.mpr ⟨p, hp, by omega, by omega⟩
      rw [h.beh] at h5
      rw [Bool.and_eq_true] at h5
      have := gp_lt h5.2
      omega
  omega
theorem tk_hi (t : Tk) (h : t.text = t.sl.text) : t.highest = hiSl t.sl := by
  unfold Tk.highest hiSl
  cases t.sl.spans.getLast? with
  | none => simp only [h]
  | some p => rfl
/-- the spans, out of places -/
theorem SV.runs {q : Sl} {L : List (Option Nat)} (h : SV q L) {B : List Bool} (hB : B.length = L.length) (hv : ∀ i : Nat, i < L.length → B.getD i false = (decide (q.text.length ≤ i) && (L[i]?).join.isSome)) : runR B L.length = q.spans := by
  have hr := runR_ok B L.length
  refine row_eq hr.1 h.ok.row fun p => ?_
  rw [hr.2, h.beh]
  by_cases hp : 0 ≤ p
  · unfold toldAt gp
    rw [if_pos hp]
    by_cases hs : p.toNat < L.length
    · rw [hv _ hs]
      have e0 : decide (0 ≤ p) = true := by simpa using hp
      have e1 : decide (p.toNat < L.length) = true := by simpa using hs
      have e2 : decide (q.text.length ≤ p.toNat) = decide ((q.text.length : Int) ≤ p) := by rw [Bool.eq_iff_iff]; simp; omega
      rw [e0, e1, e2]; simp
    · have e1 : decide (p.toNat < L.length) = false := by simpa using hs
      rw [e1, List.getElem?_eq_none (by omega)]; simp
  · have e0 : decide (0 ≤ p) = false := by simpa using hp
    have e2 : decide ((q.text.length : Int) ≤ p) = false := by simp; omega
    rw [e0, e2]; rfl
/-- a put -/
theorem putSl_ok {t : Tk} {at' : Int} {x : List Nat} (h : SlOk t.sl) (h0 : 0 ≤ at') : SlOk (t.putSl at' x) ∧ (∀ p, (t.putSl at' x).at p = (t.sl.at p).or (if p < t.most then sAt at' x p else none)) ∧
    (t.putSl at' x).text.length + (t.putSl at' x).behind.length ≤ t.sl.text.length + t.sl.behind.length + x.length ∧ (t.putSl at' x).spans.length ≤ t.sl.spans.length + 1 ∧ t.sl.text <+: (t.putSl at' x).text := by
  unfold Tk.putSl
  by_cases c : at' < t.most
  · rw [if_pos c]
    obtain ⟨a1, a2, a3⟩ := putS_ok (s := x.take (t.most - at').toNat) h h0
    have a4 := putS_len (q := t.sl) (at' := at') (s := x.take (t.most - at').toNat)
    refine ⟨a1, fun p => ?_, by have : (x.take (t.most - at').toNat).length ≤ x.length := by simp; omega
                                omega, a4.2, a3⟩
    rw [a2]
    congr 1
    unfold sAt
    by_cases d : p < t.most
    · rw [if_pos d]
      by_cases e : at' ≤ p ∧ p < at' + (x.length : Int)
      · rw [if_pos e, if_pos (by simp; omega), List.getElem?_take, if_pos (by omega)]
      · rw [if_neg e, if_neg (by simp; omega)]
    · rw [if_neg d, if_neg (by simp; omega)]
  · rw [if_neg c]
    refine ⟨h, fun p => ?_, by omega, by omega, List.prefix_refl _⟩
    have : (if p < t.most then sAt at' x p else Option.none) = Option.none := by
      split
      · unfold sAt; rw [if_neg (by omega)]
      · rfl
    rw [this]; simp
def ivD : Option (Option D) → Int
  | some (some (.int i)) => i
  | _ => 0
end DL
/-! Px: roads. -/
namespace DL
open PySem L2
structure Pc where
  host : Int
  text : List Nat
  sp : Bool
def pcD (p : Pc) : D := .tup [.int p.host, .str p.text, .bl p.sp]
structure Rd where
  row : List Int
  pieces : List (Int × Pc)
  past : List D
  given : Int
def rdO (r : Rd) (a b c : Nat) : Ob := .ins .Road [(.row, .ref a), (.pieces, .ref b), (.past, .ref c), (.given, .int r.given)]
def rdA (r : Rd) : Ob := .lst (r.row.map .int)
def rdB (r : Rd) : Ob := .dic (dI pcD r.pieces)
def rdC (r : Rd) : Ob := .lst r.past
def pcOf : D → Option Pc
  | .tup [.int h, .str t, .bl s] => some ⟨h, t, s⟩
  | _ => none
theorem pcOf_eq {d : D} {p : Pc} (h : pcOf d = some p) : d = pcD p := by
  unfold pcOf at h; split at h
  · cases h; rfl
  · cases h
@[simp] theorem pcOf_mk (p : Pc) : pcOf (pcD p) = some p := rfl
def pvOf : Kd × D → Option (Int × Pc)
  | (.inl i, d) => (pcOf d).map fun p => (i, p)
  | _ => none
theorem pvOf_eq {p : Kd × D} {r : Int × Pc} (h : pvOf p = some r) : p = kvI pcD r := by
  unfold pvOf at h; split at h
  · rename_i i d
    cases z : pcOf d with
    | none => rw [z] at h; cases h
    | some q => rw [z] at h; cases h; rw [pcOf_eq z]; rfl
  · cases h
def pvsOf : List (Kd × D) → Option (List (Int × Pc))
  | [] => some []
  | x :: l => (pvOf x).bind fun p => (pvsOf l).map fun q => p :: q
theorem pvsOf_eq : ∀ {l : List (Kd × D)} {B : List (Int × Pc)}, pvsOf l = some B → l = dI pcD B
  | [], B, h => by cases h; rfl
  | x :: l, B, h => by
    unfold pvsOf at h
    cases z : pvOf x with
    | none => rw [z] at h; cases h
    | some p =>
      rw [z] at h
      cases y : pvsOf l with
      | none => rw [y] at h; cases h
      | some q =>
        rw [y] at h; cases h
        rw [pvOf_eq z, pvsOf_eq y]; rfl
@[simp] theorem pvsOf_mk : ∀ B : List (Int × Pc), pvsOf (dI pcD B) = some B
  | [] => rfl
  | p :: B => by
    show (pvOf (kvI pcD p)).bind _ = _
    have : pvOf (kvI pcD p) = some p := rfl
    rw [this]
    show (pvsOf (dI pcD B)).map _ = _
    rw [pvsOf_mk B]; rfl
def rdOf (st : Store) (n : Nat) : Option (Rd × Nat × Nat × Nat) := match st[n]? with
  | some (.ins .Road [(.row, .ref a), (.pieces, .ref b), (.past, .ref c), (.given, .int g)]) => match st[a]?, st[b]?, st[c]? with
    | some (.lst l1), some (.dic l2), some (.lst l3) => match intsD l1, pvsOf l2 with
      | some row, some ps => if D.nrs l3 = true ∧ a ≠ c then some (⟨row, ps, l3, g⟩, a, b, c) else none
      | _, _ => none
    | _, _, _ => none
  | _ => none
structure RdAt (st : Store) (n : Nat) (r : Rd) (a b c : Nat) : Prop where
  hn : st[n]? = some (rdO r a b c)
  ha : st[a]? = some (rdA r)
  hb : st[b]? = some (rdB r)
  hc : st[c]? = some (rdC r)
  nr : D.nrs r.past = true
  ac : a ≠ c
theorem rdOf_eq {st : Store} {n a b c : Nat} {r : Rd} (h : rdOf st n = some (r, a, b, c)) : RdAt st n r a b c := by
  unfold rdOf at h
  split at h
  · rename_i a' b' c' g e
    split at h
    · rename_i l1 l2 l3 e1 e2 e3
      split at h
      · rename_i row ps f1 f2
        split at h
        · rename_i hc
          cases h
          exact ⟨e, by rw [e1, intsD_eq f1]; rfl, by rw [e2, pvsOf_eq f2]; rfl, e3, hc.1, hc.2⟩
        · cases h
      · cases h
    · cases h
  · cases h
theorem rdOf_mk {st : Store} {n a b c : Nat} {r : Rd} (h : RdAt st n r a b c) : rdOf st n = some (r, a, b, c) := by
  unfold rdOf
  rw [h.hn]
  simp only [rdO, h.ha, h.hb, h.hc, rdA, rdB, rdC, intsD_ints, pvsOf_mk]
  rw [if_pos ⟨h.nr, h.ac⟩]
section
variable (r : Rd) (a b c : Nat)
@[simp] theorem rdO_cl : (rdO r a b c).cl = some .Road := rfl
@[simp] theorem rdO_row : Ob.fld [.Road] .row (rdO r a b c) = some (.ref a) := rfl
@[simp] theorem rdO_pieces : Ob.fld [.Road] .pieces (rdO r a b c) = some (.ref b) := rfl
@[simp] theorem rdO_past : Ob.fld [.Road] .past (rdO r a b c) = some (.ref c) := rfl
@[simp] theorem rdO_given : Ob.fld [.Road] .given (rdO r a b c) = some (.int r.given) := rfl
@[simp] theorem rdO_setGiven (x : Int) : Ob.setf [.Road] .given (.int x) (rdO r a b c) = some (rdO { r with given := x } a b c) := rfl
end
def rdSet (st : Store) (n a b c : Nat) (r : Rd) : Store := (((st.set a (rdA r)).set b (rdB r)).set c (rdC r)).set n (rdO r a b c)
/-- how the four places answer -/
structure RS (S : Rd → Store) (n a b c : Nat) : Prop where
  gn : ∀ r g, (S r ++ g)[n]? = some (rdO r a b c)
  ga : ∀ r g, (S r ++ g)[a]? = some (.lst (r.row.map .int))
  gb : ∀ r g, (S r ++ g)[b]? = some (.dic (dI pcD r.pieces))
  gc : ∀ r g, (S r ++ g)[c]? = some (.lst r.past)
  gn' : ∀ r, (S r)[n]? = some (rdO r a b c)
  ga' : ∀ r, (S r)[a]? = some (.lst (r.row.map .int))
  gb' : ∀ r, (S r)[b]? = some (.dic (dI pcD r.pieces))
  gc' : ∀ r, (S r)[c]? = some (.lst r.past)
  sn : ∀ (r : Rd) (x : Int), (S r).set n (rdO { r with given := x } a b c) = S { r with given := x }
  sa : ∀ (r : Rd) (x : List Int), (S r).set a (.lst (x.map .int)) = S { r with row := x }
  sb : ∀ (r : Rd) (x : List (Int × Pc)), (S r).set b (.dic (dI pcD x)) = S { r with pieces := x }
  sc : ∀ (r : Rd) (x : List D), (S r).set c (.lst x) = S { r with past := x }
theorem RdAt.rs {st : Store} {n a b c : Nat} {r0 : Rd} (h : RdAt st n r0 a b c) : RS (rdSet st n a b c) n a b c ∧ rdSet st n a b c r0 = st := by
  have hn := lt_of_get h.hn
  have ha := lt_of_get h.ha
  have hb := lt_of_get h.hb
  have hc := lt_of_get h.hc
  have na : n ≠ a := by rintro rfl; have := h.hn.symm.trans h.ha; simp [rdO, rdA] at this
  have nb : n ≠ b := by rintro rfl; have := h.hn.symm.trans h.hb; simp [rdO, rdB] at this
  have nc : n ≠ c := by rintro rfl; have := h.hn.symm.trans h.hc; simp [rdO, rdC] at this
  have ab : a ≠ b := by rintro rfl; have := h.ha.symm.trans h.hb; simp [rdA, rdB] at this
  have cb : c ≠ b := by rintro rfl; have := h.hc.symm.trans h.hb; simp [rdC, rdB] at this
  have ac := h.ac
  have gn' : ∀ r, (rdSet st n a b c r)[n]? = some (rdO r a b c) := fun r => by
    unfold rdSet; rw [List.getElem?_set_self (by simpa using hn)]
  have ga' : ∀ r, (rdSet st n a b c r)[a]? = some (rdA r) := fun r => by
    unfold rdSet; rw [List.getElem?_set_ne na, List.getElem?_set_ne (Ne.symm ac), List.getElem?_set_ne (Ne.symm ab), List.getElem?_set_self ha]
  have gb' : ∀ r, (rdSet st n a b c r)[b]? = some (rdB r) := fun r => by
    unfold rdSet; rw [List.getElem?_set_ne nb, List.getElem?_set_ne cb, List.getElem?_set_self (by simpa using hb)]
  have gc' : ∀ r, (rdSet st n a b c r)[c]? = some (rdC r) := fun r => by
    unfold rdSet; rw [List.getElem?_set_ne nc, List.getElem?_set_self (by simpa using hc)]
  refine ⟨⟨fun r g => get_old (gn' r), fun r g => get_old (ga' r), fun r g => get_old (gb' r), fun r g => get_old (gc' r), gn', ga', gb', gc', fun r x => ?_, fun r x => ?_, fun r x => ?_, fun r x => ?_⟩, ?_⟩
  · unfold rdSet; rw [List.set_set]; rfl
  · show (rdSet st n a b c r).set a (rdA { r with row := x }) = _
    unfold rdSet
    rw [List.set_comm _ _ na, List.set_comm _ _ (Ne.symm ac), List.set_comm _ _ (Ne.symm ab), List.set_set]; rfl
  · show (rdSet st n a b c r).set b (rdB { r with pieces := x }) = _
    unfold rdSet
    rw [List.set_comm _ _ nb, List.set_comm _ _ cb, List.set_set]; rfl
  · show (rdSet st n a b c r).set c (rdC { r with past := x }) = _
    unfold rdSet
    rw [List.set_comm _ _ nc, List.set_set]; rfl
  · unfold rdSet
    rw [set_id h.ha, set_id h.hb, set_id h.hc, set_id h.hn]
theorem rdO_lt {r : Rd} {a b c m : Nat} (h1 : a < m) (h2 : b < m) (h3 : c < m) : (rdO r a b c).lt m = true := by simp [rdO, Ob.lt, D.ltAll, D.lt, h1, h2, h3]
theorem rdA_lt (r : Rd) (m : Nat) : (rdA r).lt m = true := by
  show D.ltAll m (r.row.map .int) = true
  exact D.ltAll_of_nrs _ (nrs_ints _)
theorem rdB_lt (r : Rd) (m : Nat) : (rdB r).lt m = true := by
  show D.ltAll m ((dI pcD r.pieces).map (·.2)) = true
  rw [ltAll_iff]
  intro d hd
  unfold dI at hd
  rw [List.map_map] at hd
  obtain ⟨p, _, rfl⟩ := List.mem_map.mp hd
  simp [kvI, pcD, D.lt, D.ltAll]
theorem rdC_lt (r : Rd) (m : Nat) (h : D.nrs r.past = true) : (rdC r).lt m = true := D.ltAll_of_nrs _ h
theorem rdSet_ok {st : Store} {n a b c : Nat} {r0 r : Rd} (ok : st.Ok) (h : RdAt st n r0 a b c) (hr : D.nrs r.past = true) : (rdSet st n a b c r).Ok := by
  have ha := lt_of_get h.ha
  have hb := lt_of_get h.hb
  have hc := lt_of_get h.hc
  unfold rdSet
  exact Ok.set (Ok.set (Ok.set (Ok.set ok (rdA_lt _ _)) (rdB_lt _ _)) (rdC_lt _ _ hr)) (rdO_lt (by simpa using ha) (by simpa using hb) (by simpa using hc))
@[simp] theorem rdSet_len {st : Store} {n a b c : Nat} {r : Rd} : (rdSet st n a b c r).length = st.length := by simp [rdSet]
theorem nrs_snoc {l : List D} {d : D} (h : D.nrs l = true) (hd : d.nr = true) : D.nrs (l ++ [d]) = true := by
  induction l with
  | nil => simp [D.nrs, hd]
  | cons a l ih => simp [D.nrs] at h ⊢; exact ⟨h.1, ih h.2⟩
/-! what is done, plainly -/
def fullC : List Nat := [102, 117, 108, 108]
def sendC : List Nat := [115, 101, 110, 100]
def Rd.put (r : Rd) (w : List Nat) (p : Pc) : Rd := if r.row.length = 200 then { r with given := r.given + 1, past := r.past ++ [.tup [.str fullC, .int r.given, .int p.host, .str p.text]] }
  else ⟨r.row ++ [r.given], putI r.pieces r.given p, if w = sendC then r.past ++ [.tup [.str w, .int r.given, .int p.host, .str p.text]] else r.past, r.given + 1⟩
def ixP (d : D) (k : Nat) : Option Nat := match d with
  | .int i => if 0 ≤ i ∧ i < k then some i.toNat else none
  | _ => none
def newRd : Rd := ⟨[], [], [], 0⟩
def Rd.ok (r : Rd) : Prop := r.row.length ≤ 1000 ∧ r.pieces.length ≤ 90000 ∧ r.past.length ≤ 90000
instance {r : Rd} : Decidable r.ok := inferInstanceAs (Decidable (_ ∧ _))
def P.Road_init : FM := fun ds st => match ds with
  | [.ref n] => match st[n]? with
    | some (.ins .Road []) => .ok .non (st.set n (rdO newRd st.length (st.length + 1) (st.length + 2)) ++ [.lst [], .dic [], .lst []])
    | _ => .bad
  | _ => .bad
def P.Road_flying : FM := fun ds st => match ds with
  | [.ref n] => match rdOf st n with
    | some (r, _, _, _) => if r.ok ∧ (r.row.all fun k => (lookI r.pieces k).isSome) = true then .ok (.ref st.length) (st ++ [.lst (r.row.map fun k => .tup [.int k, .int ((lookI r.pieces k).map (·.host) |>.getD 0)])]) else .bad
    | none => .bad
  | _ => .bad
def P.Road_log : FM := fun ds st => match ds with
  | [.ref n] => match rdOf st n with
    | some (r, _, _, _) => if r.ok then .ok (.ref st.length) (st ++ [.lst r.past]) else .bad
    | none => .bad
  | _ => .bad
def P.Road_text_of : FM := fun ds st => match ds with
  | [.ref n, .int k] => match rdOf st n with
    | some (r, _, _, _) => .ok (match lookI r.pieces k with | some p => .str p.text | none => .non) st
    | none => .bad
  | _ => .bad
def P.is_place : FM := fun ds st => match ds with
  | [.int i, .int c] => .ok (.bl (decide (0 ≤ i) && decide (i < c))) st
  | [d, .int _] => match tyD st d with
    | some _ => .ok (.bl false) st
    | none => .bad
  | _ => .bad
def P.Road_number_at : FM := fun ds st => match ds with
  | [.ref n, d] => match rdOf st n, tyD st d with
    | some (r, _, _, _), some _ => if r.ok then (match (ixP d r.row.length).bind fun i => r.row[i]? with
      | some k => .ok (.int k) st
      | none => .exn .NoPiece st) else .bad
    | _, _ => .bad
  | _ => .bad
def P.Road_put_behind : FM := fun ds st => match ds with
  | [.ref n, .str w, .tup [.int h, .str t, .bl s]] => match rdOf st n with
    | some (r, a, b, c) => if r.ok then .ok (.int r.given) (rdSet st n a b c (r.put w ⟨h, t, s⟩)) else .bad
    | none => .bad
  | _ => .bad
def dblC : List Nat := [100, 111, 117, 98, 108, 101]
def carC : List Nat := [99, 97, 114, 114, 121]
def losC : List Nat := [108, 111, 115, 101]
def turC : List Nat := [116, 117, 114, 110]
def spoC : List Nat := [115, 112, 111, 105, 108]
def Rd.k (r : Rd) (d : D) : Option Int := (ixP d r.row.length).bind fun i => r.row[i]?
def Rd.double (r : Rd) (k : Int) (p : Pc) : Rd := ({ r with past := r.past ++ [.tup [.str dblC, .int k, .int r.given]] } : Rd).put dblC p
def Rd.carry (r : Rd) (i : Nat) (k : Int) (p : Pc) : Rd := ⟨r.row.eraseIdx i, dropI r.pieces k, r.past ++ [.tup [.str carC, .int k, .int p.host, .str p.text]], r.given⟩
def Rd.lose (r : Rd) (i : Nat) (k : Int) : Rd := ⟨r.row.eraseIdx i, dropI r.pieces k, r.past ++ [.tup [.str losC, .int k]], r.given⟩
def Rd.turn (r : Rd) (i j : Nat) (k l : Int) : Rd := { r with row := (r.row.set i l).set j k, past := r.past ++ [.tup [.str turC, .int k, .int l]] }
def spoT (t : List Nat) (j : Nat) (s : List Nat) : List Nat := t.take j ++ s ++ t.drop (j + 1)
def Rd.spoil (r : Rd) (k : Int) (p : Pc) (j : Nat) (s : List Nat) : Rd := { r with pieces := putI r.pieces k ⟨p.host, spoT p.text j s, true⟩, past := r.past ++ [.tup [.str spoC, .int k, .str (spoT p.text j s)]] }
def spoilOk (p : Pc) (j : Nat) (s : List Nat) : Prop := s.all signB = true ∧ s.length = 1 ∧ (p.text[j]?).map (fun c => [c]) ≠ some s
instance {p : Pc} {j : Nat} {s : List Nat} : Decidable (spoilOk p j s) := inferInstanceAs (Decidable (_ ∧ _))
def P.Road_send : FM := fun ds st => match ds with
  | [.ref n, .int h, .str t] => match rdOf st n with
    | some (r, a, b, c) => if r.ok ∧ t.length ≤ 100000 then (if (0 ≤ h ∧ h < 2) ∧ t.all signB = true ∧ 1 ≤ t.length ∧ t.length ≤ 400 then .ok (.int r.given) (rdSet st n a b c (r.put sendC ⟨h, t, false⟩)) else .exn .NoPiece st) else .bad
    | none => .bad
  | [.ref n, h, t] => match rdOf st n, tyD st h, tyD st t with
    | some _, some _, some _ => .exn .NoPiece st
    | _, _, _ => .bad
  | _ => .bad
def P.Road_double : FM := fun ds st => match ds with
  | [.ref n, d] => match rdOf st n, tyD st d with
    | some (r, a, b, c), some _ => if r.ok ∧ r.past.length ≤ 80000 then (match r.k d with
      | some k => (match lookI r.pieces k with
        | some p => .ok (.int r.given) (rdSet st n a b c (r.double k p))
        | none => .bad)
      | none => .exn .NoPiece st) else .bad
    | _, _ => .bad
  | _ => .bad
def P.Road_carry : FM := fun ds st => match ds with
  | [.ref n, d] => match rdOf st n, tyD st d with
    | some (r, a, b, c), some _ => if r.ok then (match r.k d with
      | some k => (match ixP d r.row.length, lookI r.pieces k with
        | some i, some p => .ok (.tup [.int p.host, .str p.text]) (rdSet st n a b c (r.carry i k p))
        | _, _ => .bad)
      | none => .exn .NoPiece st) else .bad
    | _, _ => .bad
  | _ => .bad
def P.Road_lose : FM := fun ds st => match ds with
  | [.ref n, d] => match rdOf st n, tyD st d with
    | some (r, a, b, c), some _ => if r.ok then (match r.k d with
      | some k => (match ixP d r.row.length, lookI r.pieces k with
        | some i, some p => .ok .non (rdSet st n a b c (r.lose i k))
        | _, _ => .bad)
      | none => .exn .NoPiece st) else .bad
    | _, _ => .bad
  | _ => .bad
def P.Road_turn : FM := fun ds st => match ds with
  | [.ref n, d, e] => match rdOf st n, tyD st d, tyD st e with
    | some (r, a, b, c), some _, some _ => if r.ok then (match ixP d r.row.length, r.k d, ixP e r.row.length, r.k e with
      | some i, some k, some j, some l => .ok .non (rdSet st n a b c (r.turn i j k l))
      | _, _, _, _ => .exn .NoPiece st) else .bad
    | _, _, _ => .bad
  | _ => .bad
def P.Road_spoil : FM := fun ds st => match ds with
  | [.ref n, d, e, s] => match rdOf st n, tyD st d, tyD st e, tyD st s with
    | some (r, a, b, c), some _, some _, some _ => if r.ok then (match r.k d with
      | some k => (match lookI r.pieces k with
        | some p => if p.text.length ≤ 100000 then (if p.sp = true then .exn .NoDeed st else match ixP e p.text.length with
          | some j => (match s with
            | .str s => if s.length ≤ 100000 then (if spoilOk p j s then .ok .non (rdSet st n a b c (r.spoil k p j s)) else .exn .NoDeed st) else .bad
            | _ => .exn .NoDeed st)
          | none => .exn .NoDeed st) else .bad
        | none => .bad)
      | none => .exn .NoPiece st) else .bad
    | _, _, _, _ => .bad
  | _ => .bad
def P.b_Road_init : SM := (sSeq (sFldD [.Road] .row (eVar 0) (eLst eNil))
    (sSeq (sFldD [.Road] .pieces (eVar 0) eDic)
    (sSeq (sFldD [.Road] .past (eVar 0) (eLst eNil))
    (sFldD [.Road] .given (eVar 0) (eC (.int 0))))))
def P.m_Road_init : FM := fnM 1 1 P.b_Road_init

def P.b_Road_flying : SM := (sRet (eComp (iSeq (eFld [.Road] .row (eVar 0))) (tName 1) tYesD (eTup (eCons (eVar 1) (eCons (e2 oIx (e2 oDget (eFld [.Road] .pieces (eVar 0)) (eVar 1)) (eC (.int 0))) eNil))) [1]))
def P.m_Road_flying : FM := fnM 1 2 P.b_Road_flying

def P.b_Road_log : SM := (sRet (e1 oList (eCons (eFld [.Road] .past (eVar 0)) eNil)))
def P.m_Road_log : FM := fnM 1 1 P.b_Road_log

def P.b_Road_put_behind : SM := (sSeq (sSet 3 (eFld [.Road] .given (eVar 0)))
    (sSeq (sFldD [.Road] .given (eVar 0) (e2 oAdd (eVar 3) (eC (.int 1))))
    (sSeq (sIf (tB (e2 oEq (e1 oLen (eCons (eFld [.Road] .row (eVar 0)) eNil)) (eC (.int 200))))
    (sSeq (sDo (eBM "list" mAppend (eFld [.Road] .past (eVar 0)) (eCons (eTup (eCons (eC (.str [102, 117, 108, 108])) (eCons (eVar 3) (eCons (e2 oIx (eVar 2) (eC (.int 0))) (eCons (e2 oIx (eVar 2) (eC (.int 1))) eNil))))) eNil)))
    (sRet (eVar 3)))
    sSkip)
    (sSeq (sIf (tB (e2 oEq (eVar 1) (eC (.str [115, 101, 110, 100]))))
    (sDo (eBM "list" mAppend (eFld [.Road] .past (eVar 0)) (eCons (eTup (eCons (eVar 1) (eCons (eVar 3) (eCons (e2 oIx (eVar 2) (eC (.int 0))) (eCons (e2 oIx (eVar 2) (eC (.int 1))) eNil))))) eNil)))
    sSkip)
    (sSeq (sDo (eBM "list" mAppend (eFld [.Road] .row (eVar 0)) (eCons (eVar 3) eNil)))
    (sSeq (sSub (eFld [.Road] .pieces (eVar 0)) (eVar 3) (eVar 2))
    (sRet (eVar 3))))))))
def P.m_Road_put_behind : FM := fnM 3 4 P.b_Road_put_behind

def P.b_is_place : SM := (sRet (eAnd (eIsi "int" (eVar 0)) (eAnd (eNot (eIsi "bool" (eVar 0))) (eChain oLe oLt (eC (.int 0)) (eVar 0) (eVar 1)))))
def P.m_is_place : FM := fnM 2 2 P.b_is_place

def P.b_Road_send : SM := (sSeq (sIf (tOrD (tNotD (tTru (eCall DL.P.is_place (eCons (eVar 1) (eCons (eC (.int 2)) eNil))))) (tOrD (tNotD (tTru (eCall DL.P.is_signs (eCons (eVar 2) eNil)))) (tNotD (tB (eChain oLe oLe (eC (.int 1)) (e1 oLen (eCons (eVar 2) eNil)) (eC (.int 400)))))))
    (sRaise .NoPiece)
    sSkip)
    (sRet (eMeth .Road DL.P.Road_put_behind (eVar 0) (eCons (eC (.str [115, 101, 110, 100])) (eCons (eTup (eCons (eVar 1) (eCons (eVar 2) (eCons (eC (.bl false)) eNil)))) eNil)))))
def P.m_Road_send : FM := fnM 3 3 P.b_Road_send

def P.b_Road_number_at : SM := (sSeq (sIf (tNotD (tTru (eCall DL.P.is_place (eCons (eVar 1) (eCons (e1 oLen (eCons (eFld [.Road] .row (eVar 0)) eNil)) eNil)))))
    (sRaise .NoPiece)
    sSkip)
    (sRet (e2 oIx (eFld [.Road] .row (eVar 0)) (eVar 1))))
def P.m_Road_number_at : FM := fnM 2 2 P.b_Road_number_at

def P.b_Road_spoil : SM := (sSeq (sSet 4 (eMeth .Road DL.P.Road_number_at (eVar 0) (eCons (eVar 1) eNil)))
    (sSeq (sSet 5 (e2 oDget (eFld [.Road] .pieces (eVar 0)) (eVar 4)))
    (sSeq (sIf (tOrD (tTru (e2 oIx (eVar 5) (eC (.int 2)))) (tNotD (tTru (eCall DL.P.is_place (eCons (eVar 2) (eCons (e1 oLen (eCons (e2 oIx (eVar 5) (eC (.int 1))) eNil)) eNil))))))
    (sRaise .NoDeed)
    sSkip)
    (sSeq (sIf (tOrD (tNotD (tTru (eCall DL.P.is_signs (eCons (eVar 3) eNil)))) (tOrD (tB (e2 oNe (e1 oLen (eCons (eVar 3) eNil)) (eC (.int 1)))) (tB (e2 oEq (e2 oIx (e2 oIx (eVar 5) (eC (.int 1))) (eVar 2)) (eVar 3)))))
    (sRaise .NoDeed)
    sSkip)
    (sSeq (sSet 6 (e2 oAdd (e2 oAdd (eSli (e2 oIx (eVar 5) (eC (.int 1))) oNo (oSo (eVar 2))) (eVar 3)) (eSli (e2 oIx (eVar 5) (eC (.int 1))) (oSo (e2 oAdd (eVar 2) (eC (.int 1)))) oNo)))
    (sSeq (sSub (eFld [.Road] .pieces (eVar 0)) (eVar 4) (eTup (eCons (e2 oIx (eVar 5) (eC (.int 0))) (eCons (eVar 6) (eCons (eC (.bl true)) eNil)))))
    (sDo (eBM "list" mAppend (eFld [.Road] .past (eVar 0)) (eCons (eTup (eCons (eC (.str [115, 112, 111, 105, 108])) (eCons (eVar 4) (eCons (eVar 6) eNil)))) eNil)))))))))
def P.m_Road_spoil : FM := fnM 4 7 P.b_Road_spoil

def P.b_Road_text_of : SM := (sSeq (sIf (tB (e2 oIn (eVar 1) (eFld [.Road] .pieces (eVar 0))))
    (sRet (e2 oIx (e2 oDget (eFld [.Road] .pieces (eVar 0)) (eVar 1)) (eC (.int 1))))
    sSkip)
    (sRet (eC .non)))
def P.m_Road_text_of : FM := fnM 2 2 P.b_Road_text_of

def P.b_Road_carry : SM := (sSeq (sSet 2 (eMeth .Road DL.P.Road_number_at (eVar 0) (eCons (eVar 1) eNil)))
    (sSeq (sSet 3 (eDPop (eFld [.Road] .pieces (eVar 0)) (eVar 2)))
    (sSeq (sDo (eBM "list" mPop (eFld [.Road] .row (eVar 0)) (eCons (eVar 1) eNil)))
    (sSeq (sDo (eBM "list" mAppend (eFld [.Road] .past (eVar 0)) (eCons (eTup (eCons (eC (.str [99, 97, 114, 114, 121])) (eCons (eVar 2) (eCons (e2 oIx (eVar 3) (eC (.int 0))) (eCons (e2 oIx (eVar 3) (eC (.int 1))) eNil))))) eNil)))
    (sRet (eTup (eCons (e2 oIx (eVar 3) (eC (.int 0))) (eCons (e2 oIx (eVar 3) (eC (.int 1))) eNil))))))))
def P.m_Road_carry : FM := fnM 2 4 P.b_Road_carry

def P.b_Road_double : SM := (sSeq (sSet 2 (eMeth .Road DL.P.Road_number_at (eVar 0) (eCons (eVar 1) eNil)))
    (sSeq (sDo (eBM "list" mAppend (eFld [.Road] .past (eVar 0)) (eCons (eTup (eCons (eC (.str [100, 111, 117, 98, 108, 101])) (eCons (eVar 2) (eCons (eFld [.Road] .given (eVar 0)) eNil)))) eNil)))
    (sRet (eMeth .Road DL.P.Road_put_behind (eVar 0) (eCons (eC (.str [100, 111, 117, 98, 108, 101])) (eCons (e2 oDget (eFld [.Road] .pieces (eVar 0)) (eVar 2)) eNil))))))
def P.m_Road_double : FM := fnM 2 3 P.b_Road_double

def P.b_Road_lose : SM := (sSeq (sSet 2 (eMeth .Road DL.P.Road_number_at (eVar 0) (eCons (eVar 1) eNil)))
    (sSeq (sDo (eDPop (eFld [.Road] .pieces (eVar 0)) (eVar 2)))
    (sSeq (sDo (eBM "list" mPop (eFld [.Road] .row (eVar 0)) (eCons (eVar 1) eNil)))
    (sDo (eBM "list" mAppend (eFld [.Road] .past (eVar 0)) (eCons (eTup (eCons (eC (.str [108, 111, 115, 101])) (eCons (eVar 2) eNil))) eNil))))))
def P.m_Road_lose : FM := fnM 2 3 P.b_Road_lose

def P.b_Road_turn : SM := (sSeq (sSet 3 (eMeth .Road DL.P.Road_number_at (eVar 0) (eCons (eVar 1) eNil)))
    (sSeq (sSet 4 (eMeth .Road DL.P.Road_number_at (eVar 0) (eCons (eVar 2) eNil)))
    (sSeq (sSub (eFld [.Road] .row (eVar 0)) (eVar 1) (eVar 4))
    (sSeq (sSub (eFld [.Road] .row (eVar 0)) (eVar 2) (eVar 3))
    (sDo (eBM "list" mAppend (eFld [.Road] .past (eVar 0)) (eCons (eTup (eCons (eC (.str [116, 117, 114, 110])) (eCons (eVar 3) (eCons (eVar 4) eNil)))) eNil)))))))
def P.m_Road_turn : FM := fnM 3 5 P.b_Road_turn


theorem RdAt.ne {st : Store} {n a b c : Nat} {r0 : Rd} (h : RdAt st n r0 a b c) : n ≠ a ∧ n ≠ b ∧ n ≠ c ∧ a ≠ b ∧ a ≠ c ∧ b ≠ c := by
  refine ⟨?_, ?_, ?_, ?_, h.ac, ?_⟩
  · rintro rfl; have := h.hn.symm.trans h.ha; simp [rdO, rdA] at this
  · rintro rfl; have := h.hn.symm.trans h.hb; simp [rdO, rdB] at this
  · rintro rfl; have := h.hn.symm.trans h.hc; simp [rdO, rdC] at this
  · rintro rfl; have := h.ha.symm.trans h.hb; simp [rdA, rdB] at this
  · rintro rfl; have := h.hb.symm.trans h.hc; simp [rdB, rdC] at this
theorem RdAt.up {st : Store} {n a b c : Nat} {r0 : Rd} (h : RdAt st n r0 a b c) {r : Rd} (hr : D.nrs r.past = true) : rdOf (rdSet st n a b c r) n = some (r, a, b, c) := by
  obtain ⟨rs, _⟩ := h.rs
  exact rdOf_mk ⟨rs.gn' r, rs.ga' r, rs.gb' r, rs.gc' r, hr, h.ac⟩
theorem tell_set {st : Store} {n a b c : Nat} {r0 r : Rd} {v : D} {m : Out D} (ok : st.Ok) (h : RdAt st n r0 a b c) (hr : D.nrs r.past = true) (hv : v.nr = true) (e : m = .ok v (rdSet st n a b c r)) : Tell st (.ok v (rdSet st n a b c r)) m := by
  rw [e]
  exact .eq (by simp) (rdSet_ok ok h hr) (D.lt_of_nr _ hv)
theorem ixP_some {d : D} {k i : Nat} (h : ixP d k = some i) : d = .int (i : Int) ∧ i < k := by
  unfold ixP at h
  split at h
  · split at h
    · rename_i j hc
      cases h
      exact ⟨by rw [Int.toNat_of_nonneg hc.1], by omega⟩
    · cases h
  · cases h
theorem k_some {r : Rd} {d : D} {k : Int} (h : r.k d = some k) : ∃ i : Nat, ixP d r.row.length = some i ∧ d = .int (i : Int) ∧ i < r.row.length ∧ r.row[i]? = some k := by
  unfold Rd.k at h
  obtain ⟨i, h1, h2⟩ := Option.bind_eq_some_iff.mp h
  obtain ⟨h3, h4⟩ := ixP_some h1
  exact ⟨i, h1, h3, h4, h2⟩
theorem P.tell_is_place : ∀ (st : Store) (ds : List D), st.Ok → D.ltAll st.length ds = true → Tell st (P.is_place ds st) (P.m_is_place ds st) := by
  intro st ds ok lt
  unfold P.is_place
  split
  · rename_i i c
    refine tell_eq ok rfl ?_
    rw [P.m_is_place]
    by_cases h : 0 ≤ i <;> simp [P.b_is_place, h]
  · rename_i d c hd
    cases h : tyD st d with
    | none => exact .bad
    | some T =>
      refine tell_eq ok rfl ?_
      rw [P.m_is_place]
      rcases ty_cases h with q | q | q | q | q | q | q <;> subst q
      case inr.inr.inl => obtain ⟨i, rfl⟩ := ty_is_int h; exact absurd rfl (hd i)
      all_goals simp [P.b_is_place, h, -ty_at]
  · exact .bad
theorem P.is_place_no {st : Store} {d : D} {k : Nat} {T : String} (h : tyD st d = some T) (h2 : ixP d k = none) : P.is_place [d, .int (k : Int)] st = .ok (.bl false) st := by
  cases d with
  | int i =>
    have : ¬ (0 ≤ i ∧ i < (k : Int)) := fun c => by unfold ixP at h2; simp only at h2; rw [if_pos c] at h2; cases h2
    simp only [P.is_place]
    by_cases c : 0 ≤ i
    · have : ¬ i < (k : Int) := fun z => this ⟨c, z⟩
      simp [c, this]
    · simp [c]
  | _ => simp only [P.is_place, h]
theorem P.is_place_yes {st : Store} {i k : Nat} (h : i < k) : P.is_place [.int (i : Int), .int (k : Int)] st = .ok (.bl true) st := by
  have : (i : Int) < (k : Int) := by omega
  simp [P.is_place, this]
theorem P.tell_Road_init : ∀ (st : Store) (ds : List D), st.Ok → D.ltAll st.length ds = true → Tell st (P.Road_init ds st) (P.m_Road_init ds st) := by
  intro st ds ok lt
  unfold P.Road_init
  split
  · rename_i n
    split
    · rename_i h
      have hn := lt_of_get h
      have hs : ∀ o, (st.set n o)[n]? = some o := fun o => List.getElem?_set_self hn
      have hs2 : ∀ o g, (st.set n o ++ g)[n]? = some o := fun o g => by rw [getL (by simpa using hn)]; exact hs o
      have hs4 : ∀ g, (st ++ g)[n]? = some (.ins .Road []) := fun g => get_old h
      have hs3 : ∀ o o' g, (st.set n o ++ g).set n o' = st.set n o' ++ g := fun o o' g => by rw [setL (by simpa using hn), List.set_set]
      have hs5 : ∀ o g, (st ++ g).set n o = st.set n o ++ g := fun o g => by rw [setL hn]
      have : P.m_Road_init [.ref n] st = .ok .non (st.set n (rdO newRd st.length (st.length + 1) (st.length + 2)) ++ [.lst [], .dic [], .lst []]) := by
        rw [P.m_Road_init]
        simp [P.b_Road_init, h, hs, hs2, hs3, hs4, hs5, putD, List.set_set]
        rfl
      rw [this]
      refine .eq (by simp) ?_ rfl
      intro i p e
      simp only [List.length_append, List.length_set, List.length_cons, List.length_nil]
      by_cases hi : i < st.length
      · rw [getL (by simpa using hi)] at e
        by_cases hj : n = i
        · subst hj
          rw [hs] at e; cases e
          exact rdO_lt (by omega) (by omega) (by omega)
        · rw [List.getElem?_set_ne hj] at e
          exact Ob.lt_mono (by omega) p (ok i p e)
      · have hl := (List.getElem?_eq_some_iff.mp e).1
        simp at hl
        have h0 := getAk (st := st.set n (rdO newRd st.length (st.length + 1) (st.length + 2))) (l := [.lst [], .dic [], .lst []]) (k := i - st.length)
        rw [List.length_set, show st.length + (i - st.length) = i by omega] at h0
        rw [h0] at e
        have : i - st.length = 0 ∨ i - st.length = 1 ∨ i - st.length = 2 := by omega
        rcases this with h | h | h <;> rw [h] at e <;> cases e <;> rfl
    · exact .bad
  · exact .bad
theorem P.tell_Road_log : ∀ (st : Store) (ds : List D), st.Ok → D.ltAll st.length ds = true → Tell st (P.Road_log ds st) (P.m_Road_log ds st) := by
  intro st ds ok lt
  unfold P.Road_log
  split
  · rename_i n
    split
    · rename_i r a b c hr
      have hA := rdOf_eq hr
      split
      · rename_i hok
        obtain ⟨l1, l2, l3⟩ := hok
        have l4 := hL5 (show r.past.length ≤ 100000 by omega)
        refine tell_list ok (D.ltAll_of_nrs _ hA.nr) ⟨[.lst r.past], 0, ?_, rfl⟩
        have hc : st[c]? = some (.lst r.past) := hA.hc
        rw [P.m_Road_log]
        simp [P.b_Road_log, hA.hn, hc, l4]
      · exact .bad
    · exact .bad
  · exact .bad
theorem P.tell_Road_text_of : ∀ (st : Store) (ds : List D), st.Ok → D.ltAll st.length ds = true → Tell st (P.Road_text_of ds st) (P.m_Road_text_of ds st) := by
  intro st ds ok lt
  unfold P.Road_text_of
  split
  · rename_i n k
    split
    · rename_i r a b c hr
      have hA := rdOf_eq hr
      have hb : st[b]? = some (.dic (dI pcD r.pieces)) := hA.hb
      have q1 : ∀ a b c : D, atI [a, b, c] 1 = some b := fun _ _ _ => rfl
      cases z : lookI r.pieces k with
      | none =>
        refine tell_eq ok rfl ?_
        rw [P.m_Road_text_of]
        simp [P.b_Road_text_of, hA.hn, hb, lookK_dI, z]
      | some p =>
        refine tell_eq ok rfl ?_
        rw [P.m_Road_text_of]
        simp [P.b_Road_text_of, hA.hn, hb, lookK_dI, z, pcD, q1]
    · exact .bad
  · exact .bad
theorem P.tell_Road_flying : ∀ (st : Store) (ds : List D), st.Ok → D.ltAll st.length ds = true → Tell st (P.Road_flying ds st) (P.m_Road_flying ds st) := by
  intro st ds ok lt
  unfold P.Road_flying
  split
  · rename_i n
    split
    · rename_i r a b c hr
      have hA := rdOf_eq hr
      split
      · rename_i hok
        obtain ⟨⟨l1, l2, l3⟩, hall⟩ := hok
        have ha : st[a]? = some (.lst (r.row.map .int)) := hA.ha
        have hb : ∀ g, (st ++ g)[b]? = some (.dic (dI pcD r.pieces)) := fun g => get_old hA.hb
        have hn : ∀ g, (st ++ g)[n]? = some (rdO r a b c) := fun g => get_old hA.hn
        have q0 : ∀ a b c : D, atI [a, b, c] 0 = some a := fun _ _ _ => rfl
        refine tell_list ok (D.ltAll_of_nrs _ ?_) ⟨[.lst (r.row.map fun k => .tup [.int k, .int ((lookI r.pieces k).map (·.host) |>.getD 0)])], 0, ?_, rfl⟩
        · generalize r.row = R
          induction R with
          | nil => rfl
          | cons k R ih => simp [D.nrs, D.nr] at ih ⊢; exact ih
        · rw [P.m_Road_flying]
          simp [P.b_Road_flying, hA.hn, ha]
          generalize hr : compK _ _ _ _ _ _ _ = w
          obtain rfl := compK_r hr r.row D.int (fun _ => true) (fun k => .tup [.int k, .int ((lookI r.pieces k).map (·.host) |>.getD 0)]) (by rw [src_ref, ha]; rfl) (hL1000 l1) (fun k hk x => by
            have := List.all_eq_true.mp hall k hk
            obtain ⟨p, hp⟩ := Option.isSome_iff_exists.mp this
            simp [wipeD, hn, hb, lookK_dI, hp, pcD, q0])
          rw [filt_yes]
          simp
      · exact .bad
    · exact .bad
  · exact .bad
theorem P.tell_Road_number_at : ∀ (st : Store) (ds : List D), st.Ok → D.ltAll st.length ds = true → Tell st (P.Road_number_at ds st) (P.m_Road_number_at ds st) := by
  intro st ds ok lt
  unfold P.Road_number_at
  split
  · rename_i n d
    split
    · rename_i r a b c T hr hT
      have hA := rdOf_eq hr
      have ha : st[a]? = some (.lst (r.row.map .int)) := hA.ha
      split
      · rename_i hok
        obtain ⟨l1, l2, l3⟩ := hok
        have l4 := hL1000 l1
        cases z : ixP d r.row.length with
        | none =>
          refine tell_exn ok ⟨[], ?_⟩
          have hp := P.is_place_no hT z
          rw [P.m_Road_number_at]
          simp [P.b_Road_number_at, hA.hn, ha, l4, hp, truD]
        | some i =>
          obtain ⟨rfl, hi⟩ := ixP_some z
          have hp := P.is_place_yes (st := st) hi
          simp only [Option.bind_some, List.getElem?_eq_getElem hi]
          refine tell_eq ok rfl ?_
          have hat : atI (r.row.map D.int) (i : Int) = some (.int r.row[i]) := by
            rw [atI_pos (by omega), Int.toNat_natCast, List.getElem?_map, List.getElem?_eq_getElem hi]; rfl
          rw [P.m_Road_number_at]
          simp [P.b_Road_number_at, hA.hn, ha, l4, hp, truD, hat]
      · exact .bad
    · exact .bad
  · exact .bad
theorem put_nrs {r : Rd} {w : List Nat} {p : Pc} (h : D.nrs r.past = true) : D.nrs (r.put w p).past = true := by
  unfold Rd.put
  split
  · exact nrs_snoc h (by simp [D.nr, D.nrs])
  · simp only
    split
    · exact nrs_snoc h (by simp [D.nr, D.nrs])
    · exact h
theorem P.tell_Road_put_behind : ∀ (st : Store) (ds : List D), st.Ok → D.ltAll st.length ds = true → Tell st (P.Road_put_behind ds st) (P.m_Road_put_behind ds st) := by
  intro st ds ok lt
  unfold P.Road_put_behind
  split
  · rename_i n w h t s
    split
    · rename_i r a b c hr
      have hA := rdOf_eq hr
      obtain ⟨rs, hid⟩ := hA.rs
      split
      · rename_i hok
        obtain ⟨l1, l2, l3⟩ := hok
        refine tell_set ok hA (put_nrs hA.nr) rfl ?_
        rw [show P.m_Road_put_behind [.ref n, .str w, .tup [.int h, .str t, .bl s]] st = P.m_Road_put_behind [.ref n, .str w, .tup [.int h, .str t, .bl s]] (rdSet st n a b c r) by rw [hid]]
        generalize rdSet st n a b c = S at *
        have l4 : r.row.length ≤ sizeLine := hL1000 l1
        have l5 : r.row.length < sizeLine := hL5' (by omega)
        have l6 : r.past.length < sizeLine := hL5' (by omega)
        have l7 : r.pieces.length < sizeLine := hL5' (by omega)
        have q0 : ∀ a b c : D, atI [a, b, c] 0 = some a := fun _ _ _ => rfl
        have q1 : ∀ a b c : D, atI [a, b, c] 1 = some b := fun _ _ _ => rfl
        have sn := rs.sn r (r.given + 1)
        have hput : putKD (dI pcD r.pieces) (.inl r.given) (.tup [.int h, .str t, .bl s]) = dI pcD (putI r.pieces r.given ⟨h, t, s⟩) := putKD_dI pcD r.pieces r.given (⟨h, t, s⟩ : Pc)
        have saq : ∀ (r : Rd) (R : List Int) (x : Int), (S r).set a (.lst (R.map .int ++ [.int x])) = S { r with row := R ++ [x] } := fun r R x => by have := rs.sa r (R ++ [x]); rw [List.map_append] at this; exact this
        rw [P.m_Road_put_behind]
        unfold Rd.put
        by_cases c1 : r.row.length = 200
        · rw [if_pos c1]
          simp [P.b_Road_put_behind, rs.gn', rs.ga', rs.gc', sn, l4, l6, c1, q0, q1, rs.sc, fullC]
        · rw [if_neg c1]
          have c1' : ¬ (r.row.length : Int) = 200 := by omega
          by_cases c2 : w = sendC
          · rw [if_pos c2]
            subst c2
            simp [P.b_Road_put_behind, rs.gn', rs.ga', rs.gb', rs.gc', sn, l4, l5, l6, l7, c1', q0, q1, rs.sc, saq, rs.sb, hput, sendC]
          · rw [if_neg c2]
            have c2' : ¬ w = [115, 101, 110, 100] := c2
            simp [P.b_Road_put_behind, rs.gn', rs.ga', rs.gb', rs.gc', sn, l4, l5, l6, l7, c1', c2', q0, q1, rs.sc, saq, rs.sb, hput]
      · exact .bad
    · exact .bad
  · exact .bad

theorem P.put_eq {st : Store} {n a b c : Nat} {r0 r : Rd} (h : RdAt st n r0 a b c) (hr : D.nrs r.past = true) (hk : r.ok) (w : List Nat) (p : Pc) : P.Road_put_behind [.ref n, .str w, .tup [.int p.host, .str p.text, .bl p.sp]] (rdSet st n a b c r) = .ok (.int r.given) (rdSet st n a b c (r.put w p)) := by
  simp only [P.Road_put_behind, h.up hr]
  rw [if_pos hk]
  congr 1
  unfold rdSet
  have : ∀ (X Y Z W : Ob) (X' Y' Z' W' : Ob), n ≠ a → n ≠ b → n ≠ c → a ≠ b → a ≠ c → b ≠ c → ((((((((st.set a X).set b Y).set c Z).set n W).set a X').set b Y').set c Z').set n W') = (((st.set a X').set b Y').set c Z').set n W' := fun X Y Z W X' Y' Z' W' h1 h2 h3 h4 h5 h6 => by
    rw [List.set_comm _ _ h1, List.set_comm _ _ (Ne.symm h5), List.set_comm _ _ (Ne.symm h4), List.set_set, List.set_comm _ _ h2, List.set_comm _ _ (Ne.symm h6), List.set_set, List.set_comm _ _ h3, List.set_set, List.set_set]
  obtain ⟨e1, e2, e3, e4, e5, e6⟩ := h.ne
  exact this _ _ _ _ _ _ _ _ e1 e2 e3 e4 e5 e6
theorem num_no {st : Store} {n a b c : Nat} {r : Rd} {d : D} {T : String} (h : rdOf st n = some (r, a, b, c)) (hk : r.ok) (hT : tyD st d = some T) (hd : r.k d = none) : P.Road_number_at [.ref n, d] st = .exn .NoPiece st := by
  simp only [P.Road_number_at, h, hT]
  rw [if_pos hk]
  unfold Rd.k at hd
  rw [hd]
theorem num_yes {st : Store} {n a b c : Nat} {r : Rd} {d : D} {k : Int} (h : rdOf st n = some (r, a, b, c)) (hk : r.ok) (hd : r.k d = some k) : P.Road_number_at [.ref n, d] st = .ok (.int k) st := by
  obtain ⟨i, _, rfl, _, _⟩ := k_some hd
  have : tyD st (.int (i : Int)) = some "int" := rfl
  simp only [P.Road_number_at, h, this]
  rw [if_pos hk]
  unfold Rd.k at hd
  rw [hd]
theorem P.tell_Road_send : ∀ (st : Store) (ds : List D), st.Ok → D.ltAll st.length ds = true → Tell st (P.Road_send ds st) (P.m_Road_send ds st) := by
  intro st ds ok lt
  unfold P.Road_send
  split
  · rename_i n h t
    split
    · rename_i r a b c hr
      have hA := rdOf_eq hr
      obtain ⟨rs, hid⟩ := hA.rs
      split
      · rename_i hok
        obtain ⟨hok, hl⟩ := hok
        have l1 := hL5 hl
        have hs : P.is_signs [.str t] st = .ok (.bl (t.all signB)) st := P.is_signs_str l1
        have hp : P.is_place [.int h, .int 2] st = .ok (.bl (decide (0 ≤ h) && decide (h < 2))) st := rfl
        have hput := P.put_eq hA hA.nr hok sendC ⟨h, t, false⟩
        rw [hid] at hput
        simp only [sendC] at hput
        split
        · rename_i hc
          obtain ⟨⟨c1, c2⟩, c3, c4, c5⟩ := hc
          have c4' : (1 : Int) ≤ (t.length : Int) := by omega
          have c5' : (t.length : Int) ≤ 400 := by omega
          refine tell_set ok hA (put_nrs hA.nr) rfl ?_
          rw [P.m_Road_send]
          simp [P.b_Road_send, hA.hn, hp, hs, l1, truD, c1, c2, c3, c4', c5', hput, -List.all_eq_true]
          rfl
        · rename_i hc
          refine tell_exn ok ⟨[], ?_⟩
          rw [P.m_Road_send]
          by_cases c1 : 0 ≤ h
          · by_cases c2 : h < 2
            · cases c3 : t.all signB
              · simp [P.b_Road_send, hp, hs, truD, c1, c2, c3, -List.all_eq_true, -List.all_eq_false]
              · by_cases c4 : (1 : Int) ≤ (t.length : Int)
                · have c5 : ¬ (t.length : Int) ≤ 400 := fun z => hc ⟨⟨c1, c2⟩, c3, by omega, by omega⟩
                  simp [P.b_Road_send, hp, hs, l1, truD, c1, c2, c3, c4, c5, -List.all_eq_true, -List.all_eq_false]
                · simp [P.b_Road_send, hp, hs, l1, truD, c1, c2, c3, c4, -List.all_eq_true, -List.all_eq_false]
            · simp [P.b_Road_send, hp, truD, c1, c2]
          · simp [P.b_Road_send, hp, truD, c1]
      · exact .bad
    · exact .bad
  · rename_i n h t hne
    split
    · rename_i q T1 T2 hr hT1 hT2
      refine tell_exn ok ⟨[], ?_⟩
      rw [P.m_Road_send]
      cases z : ixP h 2 with
      | none =>
        have hp := P.is_place_no hT1 z
        have hp' : P.is_place [h, .int 2] st = .ok (.bl false) st := hp
        simp [P.b_Road_send, hp', truD]
      | some i =>
        obtain ⟨rfl, hi⟩ := ixP_some z
        have hp : P.is_place [.int (i : Int), .int 2] st = .ok (.bl true) st := P.is_place_yes (k := 2) hi
        have hs : P.is_signs [t] st = .ok (.bl false) st := by
          cases t with
          | str t => exact (hne (i : Int) t rfl rfl).elim
          | _ => simp only [P.is_signs, hT2]
        simp [P.b_Road_send, hp, hs, truD]
    · exact .bad
  · exact .bad
theorem Rd.double_nrs {r : Rd} {k : Int} {p : Pc} (h : D.nrs r.past = true) : D.nrs (r.double k p).past = true := put_nrs (nrs_snoc h (by simp [D.nr, D.nrs]))
theorem P.tell_Road_double : ∀ (st : Store) (ds : List D), st.Ok → D.ltAll st.length ds = true → Tell st (P.Road_double ds st) (P.m_Road_double ds st) := by
  intro st ds ok lt
  unfold P.Road_double
  split
  · rename_i n d
    split
    · rename_i r a b c T hr hT
      have hA := rdOf_eq hr
      obtain ⟨rs, hid⟩ := hA.rs
      split
      · rename_i hok
        obtain ⟨hok, hl8⟩ := hok
        split
        · rename_i k hk
          split
          · rename_i p hp
            refine tell_set ok hA (Rd.double_nrs hA.nr) rfl ?_
            have hn := num_yes hr hok hk
            obtain ⟨l1, l2, l3⟩ := hok
            have hb : st[b]? = some (.dic (dI pcD r.pieces)) := hA.hb
            have l6 : r.past.length < sizeLine := hL5' (by omega)
            have hput := P.put_eq hA (r := { r with past := r.past ++ [.tup [.str dblC, .int k, .int r.given]] }) (nrs_snoc hA.nr (by simp [D.nr, D.nrs])) ⟨l1, l2, by simp; omega⟩ dblC p
            have hsc := rs.sc r (r.past ++ [.tup [.str dblC, .int k, .int r.given]])
            rw [hid] at hsc
            have g1 := rs.gb' { r with past := r.past ++ [.tup [.str dblC, .int k, .int r.given]] }
            have g2 := rs.gn' { r with past := r.past ++ [.tup [.str dblC, .int k, .int r.given]] }
            have hc : st[c]? = some (.lst r.past) := hA.hc
            simp only [dblC] at hput hsc g1 g2
            rw [P.m_Road_double]
            simp [P.b_Road_double, hn, hA.hn, rs.gn', hc, l6, hsc, g1, g2, lookK_dI, hp, pcD, hput]
            rfl
          · exact .bad
        · rename_i hk
          have hn := num_no hr hok hT hk
          refine tell_exn ok ⟨[], ?_⟩
          rw [P.m_Road_double]
          simp [P.b_Road_double, hA.hn, hn]
      · exact .bad
    · exact .bad
  · exact .bad

theorem map_erase {α β : Type} (f : α → β) : ∀ (l : List α) (i : Nat), (l.map f).eraseIdx i = (l.eraseIdx i).map f
  | [], _ => rfl
  | a :: l, 0 => rfl
  | a :: l, i + 1 => by show f a :: (l.map f).eraseIdx i = f a :: (l.eraseIdx i).map f; rw [map_erase f l i]
theorem drop_dI (B : List (Int × Pc)) (k : Int) : dropKD (dI pcD B) (.inl k) = dI pcD (dropI B k) := dropKD_dI pcD B k
theorem P.tell_Road_carry : ∀ (st : Store) (ds : List D), st.Ok → D.ltAll st.length ds = true → Tell st (P.Road_carry ds st) (P.m_Road_carry ds st) := by
  intro st ds ok lt
  unfold P.Road_carry
  split
  · rename_i n d
    split
    · rename_i r a b c T hr hT
      have hA := rdOf_eq hr
      obtain ⟨rs, hid⟩ := hA.rs
      split
      · rename_i hok
        split
        · rename_i k hk
          split
          · rename_i i p hi hp
            refine tell_set ok hA (nrs_snoc hA.nr (by simp [D.nr, D.nrs])) rfl ?_
            have hn := num_yes hr hok hk
            obtain ⟨l1, l2, l3⟩ := hok
            obtain ⟨rfl, hi'⟩ := ixP_some hi
            have l6 : r.past.length < sizeLine := hL5' (by omega)
            have hix : ixN r.row.length (i : Int) = some i := by
              have := ixN_pos (n := r.row.length) (i := (i : Int)) (by omega) (by omega)
              rwa [Int.toNat_natCast] at this
            have hget : r.row[i]? = some r.row[i] := List.getElem?_eq_getElem hi'
            have saq : ∀ (r : Rd) (R : List Int), (rdSet st n a b c r).set a (.lst ((R.map .int).eraseIdx i)) = rdSet st n a b c { r with row := R.eraseIdx i } := fun r R => by
              have := rs.sa r (R.eraseIdx i)
              rw [← map_erase] at this; exact this
            have q0 : ∀ a b c : D, atI [a, b, c] 0 = some a := fun _ _ _ => rfl
            have q1 : ∀ a b c : D, atI [a, b, c] 1 = some b := fun _ _ _ => rfl
            rw [← hid] at hn
            rw [show P.m_Road_carry [.ref n, .int (i : Int)] st = P.m_Road_carry [.ref n, .int (i : Int)] (rdSet st n a b c r) by rw [hid]]
            generalize rdSet st n a b c = S at *
            rw [P.m_Road_carry]
            simp [P.b_Road_carry, hn, rs.gn', rs.ga', rs.gb', rs.gc', l6, lookK_dI, hp, pcD, q0, q1, drop_dI, rs.sb, rs.sc, saq, hix, hi', Ob.dpop, Ob.isDic]
            rfl
          · exact .bad
        · rename_i hk
          have hn := num_no hr hok hT hk
          refine tell_exn ok ⟨[], ?_⟩
          rw [P.m_Road_carry]
          simp [P.b_Road_carry, hA.hn, hn]
      · exact .bad
    · exact .bad
  · exact .bad
theorem P.tell_Road_lose : ∀ (st : Store) (ds : List D), st.Ok → D.ltAll st.length ds = true → Tell st (P.Road_lose ds st) (P.m_Road_lose ds st) := by
  intro st ds ok lt
  unfold P.Road_lose
  split
  · rename_i n d
    split
    · rename_i r a b c T hr hT
      have hA := rdOf_eq hr
      obtain ⟨rs, hid⟩ := hA.rs
      split
      · rename_i hok
        split
        · rename_i k hk
          split
          · rename_i i p hi hp
            refine tell_set ok hA (nrs_snoc hA.nr (by simp [D.nr, D.nrs])) rfl ?_
            have hn := num_yes hr hok hk
            obtain ⟨l1, l2, l3⟩ := hok
            obtain ⟨rfl, hi'⟩ := ixP_some hi
            have l6 : r.past.length < sizeLine := hL5' (by omega)
            have hix : ixN r.row.length (i : Int) = some i := by
              have := ixN_pos (n := r.row.length) (i := (i : Int)) (by omega) (by omega)
              rwa [Int.toNat_natCast] at this
            have hget : r.row[i]? = some r.row[i] := List.getElem?_eq_getElem hi'
            have saq : ∀ (r : Rd) (R : List Int), (rdSet st n a b c r).set a (.lst ((R.map .int).eraseIdx i)) = rdSet st n a b c { r with row := R.eraseIdx i } := fun r R => by
              have := rs.sa r (R.eraseIdx i)
              rw [← map_erase] at this; exact this
            rw [← hid] at hn
            rw [show P.m_Road_lose [.ref n, .int (i : Int)] st = P.m_Road_lose [.ref n, .int (i : Int)] (rdSet st n a b c r) by rw [hid]]
            generalize rdSet st n a b c = S at *
            rw [P.m_Road_lose]
            simp [P.b_Road_lose, hn, rs.gn', rs.ga', rs.gb', rs.gc', l6, lookK_dI, hp, drop_dI, rs.sb, rs.sc, saq, hix, hi', Ob.dpop, Ob.isDic]
            rfl
          · exact .bad
        · rename_i hk
          have hn := num_no hr hok hT hk
          refine tell_exn ok ⟨[], ?_⟩
          rw [P.m_Road_lose]
          simp [P.b_Road_lose, hA.hn, hn]
      · exact .bad
    · exact .bad
  · exact .bad

theorem P.tell_Road_turn : ∀ (st : Store) (ds : List D), st.Ok → D.ltAll st.length ds = true → Tell st (P.Road_turn ds st) (P.m_Road_turn ds st) := by
  intro st ds ok lt
  unfold P.Road_turn
  split
  · rename_i n d e
    split
    · rename_i r a b c T T2 hr hT hT2
      have hA := rdOf_eq hr
      obtain ⟨rs, hid⟩ := hA.rs
      split
      · rename_i hok
        have fin : (r.k d = none ∨ r.k e = none) → Tell st (.exn .NoPiece st) (P.m_Road_turn [.ref n, d, e] st) := fun h => by
          refine tell_exn ok ⟨[], ?_⟩
          rw [P.m_Road_turn]
          cases z : r.k d with
          | none =>
            have hn := num_no hr hok hT z
            simp [P.b_Road_turn, hA.hn, hn]
          | some k =>
            have hn := num_yes hr hok z
            have h2 : r.k e = none := by rcases h with h | h; rw [h] at z; cases z; exact h
            have hn2 := num_no hr hok hT2 h2
            simp [P.b_Road_turn, hA.hn, hn, hn2]
        split
        · rename_i i k j l hi hk hj hl
          refine tell_set ok hA (nrs_snoc hA.nr (by simp [D.nr, D.nrs])) rfl ?_
          have hn := num_yes hr hok hk
          have hn2 := num_yes hr hok hl
          obtain ⟨l1, l2, l3⟩ := hok
          obtain ⟨rfl, hi'⟩ := ixP_some hi
          obtain ⟨rfl, hj'⟩ := ixP_some hj
          have l6 : r.past.length < sizeLine := hL5' (by omega)
          have hix : ixN r.row.length (i : Int) = some i := by
            have := ixN_pos (n := r.row.length) (i := (i : Int)) (by omega) (by omega)
            rwa [Int.toNat_natCast] at this
          have hjx : ixN r.row.length (j : Int) = some j := by
            have := ixN_pos (n := r.row.length) (i := (j : Int)) (by omega) (by omega)
            rwa [Int.toNat_natCast] at this
          have saq : ∀ (r : Rd) (R : List Int) (i : Nat) (x : Int), (rdSet st n a b c r).set a (.lst ((R.map .int).set i (.int x))) = rdSet st n a b c { r with row := R.set i x } := fun r R i x => by
            have := rs.sa r (R.set i x)
            rw [List.map_set] at this; exact this
          rw [← hid] at hn hn2
          rw [show P.m_Road_turn [.ref n, .int (i : Int), .int (j : Int)] st = P.m_Road_turn [.ref n, .int (i : Int), .int (j : Int)] (rdSet st n a b c r) by rw [hid]]
          generalize rdSet st n a b c = S at *
          rw [P.m_Road_turn]
          simp [P.b_Road_turn, hn, hn2, rs.gn', rs.ga', rs.gc', l6, rs.sc, saq, hix, hjx, -List.map_set]
          rfl
        · rename_i hno
          refine fin ?_
          cases z : r.k d with
          | none => exact .inl rfl
          | some k =>
            cases y : r.k e with
            | none => exact .inr rfl
            | some l =>
              obtain ⟨i, hi, _⟩ := k_some z
              obtain ⟨j, hj, _⟩ := k_some y
              exact (hno i k j l hi z hj y).elim
      · exact .bad
    · exact .bad
  · exact .bad
theorem P.tell_Road_spoil : ∀ (st : Store) (ds : List D), st.Ok → D.ltAll st.length ds = true → Tell st (P.Road_spoil ds st) (P.m_Road_spoil ds st) := by
  intro st ds ok lt
  unfold P.Road_spoil
  split
  · rename_i n d e s
    split
    · rename_i r a b c T T2 T3 hr hT hT2 hT3
      have hA := rdOf_eq hr
      obtain ⟨rs, hid⟩ := hA.rs
      have hb : st[b]? = some (.dic (dI pcD r.pieces)) := hA.hb
      have q0 : ∀ a b c : D, atI [a, b, c] 0 = some a := fun _ _ _ => rfl
      have q1 : ∀ a b c : D, atI [a, b, c] 1 = some b := fun _ _ _ => rfl
      have q2 : ∀ a b c : D, atI [a, b, c] 2 = some c := fun _ _ _ => rfl
      split
      · rename_i hok
        split
        · rename_i k hk
          have hn := num_yes hr hok hk
          split
          · rename_i p hp
            split
            · rename_i hl
              have l1 := hL5 hl
              split
              · rename_i hsp
                refine tell_exn ok ⟨[], ?_⟩
                rw [P.m_Road_spoil]
                simp [P.b_Road_spoil, hA.hn, hn, hb, lookK_dI, hp, pcD, q0, q1, q2, hsp, truD]
              · rename_i hsp
                have hsp : p.sp = false := by simpa using hsp
                split
                · rename_i j hj
                  obtain ⟨rfl, hj'⟩ := ixP_some hj
                  have hpl := P.is_place_yes (st := st) hj'
                  have hat : atI p.text (j : Int) = some p.text[j] := by rw [atI_pos (by omega), Int.toNat_natCast, List.getElem?_eq_getElem hj']
                  split
                  · rename_i s
                    split
                    · rename_i hls
                      have l2 := hL5 hls
                      have hz0 : ¬ sizeLine = 0 := by rw [line_val]; omega
                      have hs : P.is_signs [.str s] st = .ok (.bl (s.all signB)) st := P.is_signs_str l2
                      split
                      · rename_i hc
                        obtain ⟨c1, c2, c3⟩ := hc
                        rw [List.getElem?_eq_getElem hj'] at c3
                        have c3 : ¬ [p.text[j]] = s := fun z => c3 (by rw [← z]; rfl)
                        refine tell_set ok hA (nrs_snoc hA.nr (by simp [D.nr, D.nrs])) rfl ?_
                        have hk1 : cutL p.text none (some (j : Int)) = p.text.take j := by rw [cut_to (by omega), Int.toNat_natCast]
                        have hk2 : cutL p.text (some ((j : Int) + 1)) none = p.text.drop (j + 1) := by rw [cut_from (by omega)]; congr 1
                        have l6 : r.past.length < sizeLine := hL5' (by have := hok.2.2; omega)
                        have l7 : r.pieces.length < sizeLine := hL5' (by have := hok.2.1; omega)
                        have l8 : (p.text.take j).length + s.length ≤ sizeLine := hL5 (by simp; omega)
                        have l9 : (p.text.take j ++ s).length + (p.text.drop (j + 1)).length ≤ sizeLine := hL5 (by simp; omega)
                        have hput : putKD (dI pcD r.pieces) (.inl k) (.tup [.int p.host, .str (spoT p.text j s), .bl true]) = dI pcD (putI r.pieces k ⟨p.host, spoT p.text j s, true⟩) := putKD_dI pcD r.pieces k (⟨p.host, spoT p.text j s, true⟩ : Pc)
                        rw [← hid] at hn hpl hs
                        rw [show P.m_Road_spoil [.ref n, d, .int (j : Int), .str s] st = P.m_Road_spoil [.ref n, d, .int (j : Int), .str s] (rdSet st n a b c r) by rw [hid]]
                        generalize rdSet st n a b c = S at *
                        have hspo : p.text.take j ++ s ++ p.text.drop (j + 1) = spoT p.text j s := rfl
                        unfold Rd.spoil
                        generalize spoT p.text j s = sp at *
                        generalize p.text.take j = ta at *
                        generalize p.text.drop (j + 1) = tb at *
                        have hspo' : ta ++ (s ++ tb) = sp := by rw [← hspo, List.append_assoc]
                        rw [P.m_Road_spoil]
                        have l10 : 1 ≤ sizeLine := by omega
                        have l11 : ta.length + 1 ≤ sizeLine := by rw [c2] at l8; exact l8
                        have l12 : ta.length + 1 + tb.length ≤ sizeLine := by rw [List.length_append, c2] at l9; exact l9
                        simp [P.b_Road_spoil, hn, rs.gn', rs.gb', rs.gc', lookK_dI, hp, pcD, q0, q1, q2, hsp, truD, l1, l2, hpl, hs, c1, c2, c3, hat, hz0, hk1, hk2, l6, l7, l8, l9, l10, l11, l12, hspo', hput, rs.sb, rs.sc, spoC, -List.all_eq_true, -List.all_eq_false]
                      · rename_i hc
                        refine tell_exn ok ⟨[], ?_⟩
                        rw [P.m_Road_spoil]
                        cases c1 : s.all signB
                        · simp [P.b_Road_spoil, hA.hn, hn, hb, lookK_dI, hp, pcD, q0, q1, q2, hsp, truD, l1, hpl, hs, c1, -List.all_eq_true, -List.all_eq_false]
                        · by_cases c2 : s.length = 1
                          · have c3 : [p.text[j]] = s := by
                              refine Classical.byContradiction fun z => hc ⟨c1, c2, ?_⟩
                              rw [List.getElem?_eq_getElem hj']
                              intro y; exact z (Option.some.inj y)
                            simp [P.b_Road_spoil, hA.hn, hn, hb, lookK_dI, hp, pcD, q0, q1, q2, hsp, truD, l1, l2, hpl, hs, c1, c2, hat, c3, hz0, -List.all_eq_true, -List.all_eq_false]
                          · have c2' : ¬ (s.length : Int) = 1 := by omega
                            simp [P.b_Road_spoil, hA.hn, hn, hb, lookK_dI, hp, pcD, q0, q1, q2, hsp, truD, l1, l2, hpl, hs, c1, c2', -List.all_eq_true, -List.all_eq_false]
                    · exact .bad
                  · rename_i hns
                    have hs : P.is_signs [s] st = .ok (.bl false) st := by
                      cases s with
                      | str t => exact (hns t rfl).elim
                      | _ => simp only [P.is_signs, hT3]
                    refine tell_exn ok ⟨[], ?_⟩
                    rw [P.m_Road_spoil]
                    simp [P.b_Road_spoil, hA.hn, hn, hb, lookK_dI, hp, pcD, q0, q1, q2, hsp, truD, l1, hpl, hs]
                · rename_i hj
                  have hpl := P.is_place_no hT2 hj
                  refine tell_exn ok ⟨[], ?_⟩
                  rw [P.m_Road_spoil]
                  simp [P.b_Road_spoil, hA.hn, hn, hb, lookK_dI, hp, pcD, q0, q1, q2, hsp, truD, l1, hpl]
            · exact .bad
          · exact .bad
        · rename_i hk
          have hn := num_no hr hok hT hk
          refine tell_exn ok ⟨[], ?_⟩
          rw [P.m_Road_spoil]
          simp [P.b_Road_spoil, hA.hn, hn]
      · exact .bad
    · exact .bad
  · exact .bad
end DL
/-! DL: dict displays whose keys are written texts. -/
namespace DL
open PySem L2
open PyProof.Rows (envOfC)

/-- the pairs of a display put in, from the left -/
def mergeD : List (Kd × D) → List (List Nat) → List D → List (Kd × D)
  | acc, k :: ks, d :: ds => mergeD (putKD acc (.inr k) d) ks ds
  | acc, _, _ => acc
/-- {"k": v, ..} -/
def eDisp (ks : List (List Nat)) (ms : EM (List D)) : EM D := fun env st => (ms env (st ++ [.dic []])).bind fun ds st1 => match st1[st.length]? with
  | some (.dic []) => if ds.length = ks.length then .ok (.ref st.length) (st1.set st.length (.dic (mergeD [] ks ds))) else .bad
  | _ => .bad
def pairsV (ks : List (List Nat)) (vs : List V) : List (Key × V) := (ks.zip vs).map fun p => (kOf (.inr p.1), p.2)
theorem pairsV_cons {k : List Nat} {ks : List (List Nat)} {v : V} {vs : List V} : pairsV (k :: ks) (v :: vs) = (kOf (.inr k), v) :: pairsV ks vs := by simp [pairsV]
theorem KRs.merge {Γ : Gam} {μ : List Addr} {H : Hp} : ∀ (ks : List (List Nat)) (vs : List V) (ds : List D) (gs : List (Key × V)) (fs : List (Kd × D)), VRs Γ μ H vs ds → KRs Γ μ H kOf gs fs → KRs Γ μ H kOf (mergeK gs (pairsV ks vs)) (mergeD fs ks ds)
  | [], vs, ds, gs, fs, _, h => by
    have : pairsV [] vs = [] := rfl
    rw [this]
    have e : mergeD fs [] ds = fs := by unfold mergeD; rfl
    rw [e]; exact h
  | k :: ks, _, _, gs, fs, .nil, h => by
    have : pairsV (k :: ks) [] = [] := rfl
    rw [this]
    have e : mergeD fs (k :: ks) [] = fs := by unfold mergeD; rfl
    rw [e]; exact h
  | k :: ks, _, _, gs, fs, .cons r rs, h => by
    rw [pairsV_cons]
    show KRs Γ μ H kOf (mergeK (putK gs (kOf (.inr k)) _) (pairsV ks _)) (mergeD (putKD fs (.inr k) _) ks _)
    exact KRs.merge ks _ _ _ _ rs (KRs.put (fun a b => kOf_iff) r h)
section
variable {X : Cx} {Γ : Gam} {W : WX} {pos p2 : Pos} {e : Expr} {keys : List (Option Expr)} {values : List Expr} {ks : List (List Nat)} {m : EM D} {ms : EM (List D)}
/-- the pairs of a display -/
structure DP (X : Cx) (Γ : Gam) (W : WX) (pos : Pos) (keys : List (Option Expr)) (values : List Expr) (ks : List (List Nat)) (ms : EM (List D)) : Prop where
  ex : ∃ trs, PPs X pos keys values trs ∧ ∀ (σ : L2.St) (H : Hp) (Q : List (V × V) → Hp → Prop), simX Γ W (VRsr Γ) ms σ H (fun vs H' => vs.length = ks.length → Q ((pairsV ks vs).map fun kv => (kV kv.1, kv.2)) H') → tPairs trs σ H Q
theorem dp_nil : DP X Γ W pos [] [] [] eNil := ⟨[], pps_nil, fun σ H Q ⟨μ, env, st, w, s, o⟩ => (XO.val o w .nil) rfl⟩
theorem dp_cons {x : Str} {j : _} (k : List Nat) (hx : x = sOf k := by decide +kernel) (hv : DE X Γ W e m) (hr : DP X Γ W pos keys values ks ms) : DP X Γ W pos (some (.Constant (.str x) j p2) :: keys) (e :: values) (k :: ks) (eCons m ms) := by
  obtain ⟨trs, h, q⟩ := hr
  refine ⟨_, pps_cons pe_str hv h, fun σ H Q o => ?_⟩
  obtain ⟨μ, env, st, w, s, o⟩ := o
  refine ⟨μ, env, st, w, s, (XO.bind (R := VRr Γ) o).mono ?_⟩
  rintro v H1 ⟨μ1, d, st1, p, t1, w1, r, o1⟩
  refine q _ _ _ ⟨μ1, env, st1, w1, s.mono p t1, (XO.bind (R := VRsr Γ) o1).mono ?_⟩
  rintro v2 H2 ⟨μ2, ds, st2, p2, t2, w2, r2, o2⟩ hl
  have := XO.val (v := v :: v2) (d := d :: ds) o2 w2 (.cons (r.mono p2 t2) r2) (by simp [hl])
  rw [pairsV_cons, List.map_cons] at this
  rw [hx]
  exact this
theorem pairsV_length {ks : List (List Nat)} {vs : List V} (h : vs.length = ks.length) : (pairsV ks vs).length = ks.length := by simp [pairsV, h]
theorem de_disp (h : DP X Γ W pos keys values ks ms) (hall : keys.all (·.isSome) = true := by rfl) (hl : keys.length = values.length := by rfl) (h0 : keys ≠ [] := by exact List.cons_ne_nil _ _) (h15 : keys.length ≤ 15 := by decide) (hk : ks.length ≤ 15 := by decide) : DE X Γ W (.Dict keys values pos) (eDisp ks ms) := by
  obtain ⟨trs, h, q⟩ := h
  refine PE.weak (pe_disp h hall hl h0 h15) fun σ H Q o p hp => ?_
  obtain ⟨μ, env, st, w, s, o⟩ := o
  have w1 : Wd Γ (μ ++ [p]) (upd H p (.dK [])) (st ++ [.dic []]) := w.new hp ⟨[], upd_same, trivial⟩
  refine q _ _ _ ⟨μ ++ [p], env, st ++ [.dic []], w1, s.mono (List.prefix_append _ _) (TStay.new hp), ?_⟩
  unfold eDisp at o
  refine (XO.bind (R := VRsr Γ) (o.shift (List.prefix_append μ [p]) (TStay.new (o := .dK []) hp))).mono ?_
  rintro vs H2 ⟨μ2, ds, st2, p2, t2, w2, r2, o2⟩ hlv
  have hμ : μ2[st.length]? = some p := by
    obtain ⟨t, rfl⟩ := p2
    rw [List.append_assoc, List.getElem?_append_right (by rw [w.len]; exact Nat.le_refl _), w.len, Nat.sub_self]; rfl
  split at o2
  · rename_i z
    split at o2
    · obtain ⟨kvs, hp2, rk⟩ := w2.at hμ z
      cases kvs with
      | cons _ _ => exact rk.elim
      | nil =>
        refine ⟨hp2, pairsV ks vs, rfl, by rw [pairsV_length hlv]; exact hk, ?_⟩
        have tt : TStay H2 (upd H2 p (.dK (mergeK [] (pairsV ks vs)))) := TStay.at hp2 (by intro vs e; cases e)
        exact OO.set (o' := .dic []) (u := .dK []) (XO.oo (o := some (_, _)) o2) w2 hμ hp2 (by intro vs e; cases e) (by intro o v e; cases e) z (by intro l e; cases e)
          ⟨_, upd_same, (KRs.merge ks vs ds [] [] r2 trivial).mono (List.prefix_refl _) tt⟩ (.ref hμ)
    · exact o2.elim
  · exact o2.elim
end
@[simp] theorem run_disp (ks : List (List Nat)) (ms : EM (List D)) (env : Env) (st : Store) : eDisp ks ms env st = (ms env (st ++ [.dic []])).bind fun ds st1 => match st1[st.length]? with
  | some (.dic []) => if ds.length = ks.length then .ok (.ref st.length) (st1.set st.length (.dic (mergeD [] ks ds))) else .bad
  | _ => .bad := (rfl)
@[simp] theorem mergeD_cons {acc : List (Kd × D)} {k : List Nat} {ks : List (List Nat)} {d : D} {ds : List D} : mergeD acc (k :: ks) (d :: ds) = mergeD (putKD acc (.inr k) d) ks ds := (rfl)
@[simp] theorem mergeD_nil {acc : List (Kd × D)} {ds : List D} : mergeD acc [] ds = acc := by unfold mergeD; rfl
end DL
set_option maxHeartbeats 2000000
/-! Py: a road told by a law itself; what a log tells. -/
namespace DL
open PySem L2
/-! generic: lists of things told by a parser -/
def allO {α : Type} (f : D → Option α) : List D → Option (List α)
  | [] => some []
  | d :: l => (f d).bind fun a => (allO f l).map fun r => a :: r
theorem allO_eq {α : Type} {f : D → Option α} {g : α → D} (hf : ∀ d a, f d = some a → d = g a) : ∀ {l : List D} {L : List α}, allO f l = some L → l = L.map g
  | [], L, h => by cases h; rfl
  | d :: l, L, h => by
    unfold allO at h
    cases z : f d with
    | none => rw [z] at h; cases h
    | some a =>
      rw [z] at h
      cases y : allO f l with
      | none => rw [y] at h; cases h
      | some r =>
        rw [y] at h; cases h
        rw [hf d a z, allO_eq hf y]; rfl
theorem allO_mk {α : Type} {f : D → Option α} {g : α → D} (hf : ∀ a, f (g a) = some a) : ∀ L : List α, allO f (L.map g) = some L
  | [] => rfl
  | a :: L => by
    show (f (g a)).bind _ = _
    rw [hf a]
    show (allO f (L.map g)).map _ = _
    rw [allO_mk hf L]; rfl
/-! what a log tells -/
inductive Ev where
  | send (n h : Int) (t : List Nat)
  | full (n h : Int) (t : List Nat)
  | double (k n : Int)
  | spoil (k : Int) (t : List Nat)
  | carry (k h : Int) (t : List Nat)
  | lose (k : Int)
  | turn (k l : Int)
def evD : Ev → D
  | .send n h t => .tup [.str sendC, .int n, .int h, .str t]
  | .full n h t => .tup [.str fullC, .int n, .int h, .str t]
  | .double k n => .tup [.str dblC, .int k, .int n]
  | .spoil k t => .tup [.str spoC, .int k, .str t]
  | .carry k h t => .tup [.str carC, .int k, .int h, .str t]
  | .lose k => .tup [.str losC, .int k]
  | .turn k l => .tup [.str turC, .int k, .int l]
def evOf : D → Option Ev
  | .tup [.str w, .int n, .int h, .str t] => if w = sendC then some (.send n h t) else if w = fullC then some (.full n h t) else if w = carC then some (.carry n h t) else none
  | .tup [.str w, .int k, .int n] => if w = dblC then some (.double k n) else if w = turC then some (.turn k n) else none
  | .tup [.str w, .int k, .str t] => if w = spoC then some (.spoil k t) else none
  | .tup [.str w, .int k] => if w = losC then some (.lose k) else none
  | _ => none
theorem evOf_mk (e : Ev) : evOf (evD e) = some e := by cases e <;> rfl
theorem evOf_eq (d : D) (e : Ev) (h : evOf d = some e) : d = evD e := by
  unfold evOf at h
  split at h
  · split at h
    · rename_i c; cases h; rw [c]; rfl
    · split at h
      · rename_i c; cases h; rw [c]; rfl
      · split at h
        · rename_i c; cases h; rw [c]; rfl
        · cases h
  · split at h
    · rename_i c; cases h; rw [c]; rfl
    · split at h
      · rename_i c; cases h; rw [c]; rfl
      · cases h
  · split at h
    · rename_i c; cases h; rw [c]; rfl
    · cases h
  · split at h
    · rename_i c; cases h; rw [c]; rfl
    · cases h
  · cases h
theorem ev_nr (e : Ev) : (evD e).nr = true := by cases e <;> simp [evD, D.nr, D.nrs]
theorem evs_nrs : ∀ L : List Ev, D.nrs (L.map evD) = true
  | [] => rfl
  | e :: L => by simp only [List.map_cons, D.nrs, ev_nr, evs_nrs L, Bool.and_self]
/-! the road told by a law -/
structure Ow where
  row : List (Int × Pc)
  log : List Ev
  given : Int
def rwD (p : Int × Pc) : D := .tup [.int p.1, .int p.2.host, .str p.2.text, .bl p.2.sp]
def rwOf : D → Option (Int × Pc)
  | .tup [.int k, .int h, .str t, .bl s] => some (k, ⟨h, t, s⟩)
  | _ => none
theorem rwOf_mk (p : Int × Pc) : rwOf (rwD p) = some p := rfl
theorem rwOf_eq (d : D) (p : Int × Pc) (h : rwOf d = some p) : d = rwD p := by
  unfold rwOf at h
  split at h
  · cases h; rfl
  · cases h
theorem rw_nr (p : Int × Pc) : (rwD p).nr = true := by simp [rwD, D.nr, D.nrs]
theorem rws_nrs : ∀ L : List (Int × Pc), D.nrs (L.map rwD) = true
  | [] => rfl
  | e :: L => by simp only [List.map_cons, D.nrs, rw_nr, rws_nrs L, Bool.and_self]
def rowK : List Nat := [114, 111, 119]
def logK : List Nat := [108, 111, 103]
def givK : List Nat := [103, 105, 118, 101, 110]
def owO (p q : Nat) (g : Int) : Ob := .dic [(.inr rowK, .ref p), (.inr logK, .ref q), (.inr givK, .int g)]
def owA (o : Ow) : Ob := .lst (o.row.map rwD)
def owB (o : Ow) : Ob := .lst (o.log.map evD)
def owOf (st : Store) (n : Nat) : Option (Ow × Nat × Nat) := match st[n]? with
  | some (.dic [(.inr a, .ref p), (.inr b, .ref q), (.inr c, .int g)]) => if (a = rowK ∧ b = logK) ∧ c = givK then match st[p]?, st[q]? with
    | some (.lst l1), some (.lst l2) => match allO rwOf l1, allO evOf l2 with
      | some R, some L => if p ≠ q then some (⟨R, L, g⟩, p, q) else none
      | _, _ => none
    | _, _ => none else none
  | _ => none
structure OwAt (st : Store) (n p q : Nat) (o : Ow) : Prop where
  hn : st[n]? = some (owO p q o.given)
  hp : st[p]? = some (.lst (o.row.map rwD))
  hq : st[q]? = some (.lst (o.log.map evD))
  pq : p ≠ q
theorem owOf_eq {st : Store} {n p q : Nat} {o : Ow} (h : owOf st n = some (o, p, q)) : OwAt st n p q o := by
  unfold owOf at h
  split at h
  · rename_i a p' b q' c g e
    split at h
    · rename_i hk
      obtain ⟨⟨rfl, rfl⟩, rfl⟩ := hk
      split at h
      · rename_i l1 l2 e1 e2
        split at h
        · rename_i R L f1 f2
          split at h
          · rename_i hpq
            cases h
            exact ⟨e, by rw [e1, allO_eq rwOf_eq f1], by rw [e2, allO_eq evOf_eq f2], hpq⟩
          · cases h
        · cases h
      · cases h
    · cases h
  · cases h
theorem owOf_mk {st : Store} {n p q : Nat} {o : Ow} (h : OwAt st n p q o) : owOf st n = some (o, p, q) := by
  unfold owOf
  rw [h.hn]
  simp only [owO, h.hp, h.hq, allO_mk rwOf_mk, allO_mk evOf_mk]
  rw [if_pos (by simp), if_pos h.pq]
theorem OwAt.app {st : Store} {n p q : Nat} {o : Ow} (h : OwAt st n p q o) (g : Store) : OwAt (st ++ g) n p q o := ⟨get_old h.hn, get_old h.hp, get_old h.hq, h.pq⟩
theorem OwAt.ne {st : Store} {n p q : Nat} {o : Ow} (h : OwAt st n p q o) : n ≠ p ∧ n ≠ q ∧ p ≠ q := by
  refine ⟨?_, ?_, h.pq⟩
  · rintro rfl; have := h.hn.symm.trans h.hp; simp [owO] at this
  · rintro rfl; have := h.hn.symm.trans h.hq; simp [owO] at this
def owSet (st : Store) (n p q : Nat) (o : Ow) : Store := ((st.set p (owA o)).set q (owB o)).set n (owO p q o.given)
def owMov (st : Store) (n q : Nat) (o : Ow) : Store := (st.set q (owB o)).set n (owO st.length q o.given) ++ [owA o]
section
variable {p q : Nat} {g x : Int} {r : Nat}
@[simp] theorem owO_row : Ob.dget (.str [114, 111, 119]) (owO p q g) = some (some (.ref p)) := rfl
@[simp] theorem owO_log : Ob.dget (.str [108, 111, 103]) (owO p q g) = some (some (.ref q)) := rfl
@[simp] theorem owO_giv : Ob.dget (.str [103, 105, 118, 101, 110]) (owO p q g) = some (some (.int g)) := rfl
@[simp] theorem owO_setG : Ob.sub (.str [103, 105, 118, 101, 110]) (.int x) (owO p q g) = some (owO p q x) := by
  have h3 : (3 : Nat) < sizeLine := hL5' (by omega)
  have h3' : 0 + 1 + 1 + 1 < sizeLine := h3
  simp only [owO, Ob.sub, keyD_str, Option.bind_some, List.length_cons, List.length_nil, if_pos h3']
  rfl
@[simp] theorem owO_setR : Ob.sub (.str [114, 111, 119]) (.ref r) (owO p q g) = some (owO r q g) := by
  have h3 : (3 : Nat) < sizeLine := hL5' (by omega)
  have h3' : 0 + 1 + 1 + 1 < sizeLine := h3
  simp only [owO, Ob.sub, keyD_str, Option.bind_some, List.length_cons, List.length_nil, if_pos h3']
  rfl
end
/-- how the places answer -/
structure OS (S : Ow → Store) (n p q : Nat) : Prop where
  gn : ∀ o g, (S o ++ g)[n]? = some (owO p q o.given)
  gp : ∀ o g, (S o ++ g)[p]? = some (.lst (o.row.map rwD))
  gq : ∀ o g, (S o ++ g)[q]? = some (.lst (o.log.map evD))
  gn' : ∀ o, (S o)[n]? = some (owO p q o.given)
  gp' : ∀ o, (S o)[p]? = some (.lst (o.row.map rwD))
  gq' : ∀ o, (S o)[q]? = some (.lst (o.log.map evD))
  sn : ∀ (o : Ow) (x : Int), (S o).set n (owO p q x) = S { o with given := x }
  sp : ∀ (o : Ow) (x : List (Int × Pc)), (S o).set p (.lst (x.map rwD)) = S { o with row := x }
  sq : ∀ (o : Ow) (x : List Ev), (S o).set q (.lst (x.map evD)) = S { o with log := x }
theorem OwAt.os {st : Store} {n p q : Nat} {o : Ow} (h : OwAt st n p q o) : OS (owSet st n p q) n p q ∧ owSet st n p q o = st := by
  have hn := lt_of_get h.hn
  have hp := lt_of_get h.hp
  have hq := lt_of_get h.hq
  obtain ⟨np, nq, pq⟩ := h.ne
  have gn' : ∀ o, (owSet st n p q o)[n]? = some (owO p q o.given) := fun o => by
    unfold owSet; rw [List.getElem?_set_self (by simpa using hn)]
  have gp' : ∀ o, (owSet st n p q o)[p]? = some (owA o) := fun o => by
    unfold owSet; rw [List.getElem?_set_ne np, List.getElem?_set_ne (Ne.symm pq), List.getElem?_set_self hp]
  have gq' : ∀ o, (owSet st n p q o)[q]? = some (owB o) := fun o => by
    unfold owSet; rw [List.getElem?_set_ne nq, List.getElem?_set_self (by simpa using hq)]
  refine ⟨⟨fun o g => get_old (gn' o), fun o g => get_old (gp' o), fun o g => get_old (gq' o), gn', gp', gq', fun o x => ?_, fun o x => ?_, fun o x => ?_⟩, ?_⟩
  · unfold owSet; rw [List.set_set]; rfl
  · show (owSet st n p q o).set p (owA { o with row := x }) = _
    unfold owSet
    rw [List.set_comm _ _ np, List.set_comm _ _ (Ne.symm pq), List.set_set]; rfl
  · show (owSet st n p q o).set q (owB { o with log := x }) = _
    unfold owSet
    rw [List.set_comm _ _ nq, List.set_set]; rfl
  · unfold owSet
    rw [set_id (show st[p]? = some (owA o) from h.hp), set_id (show st[q]? = some (owB o) from h.hq), set_id h.hn]
theorem owO_lt {p q : Nat} {g : Int} {m : Nat} (h1 : p < m) (h2 : q < m) : (owO p q g).lt m = true := by simp [owO, Ob.lt, D.ltAll, D.lt, h1, h2]
theorem owA_lt (o : Ow) (m : Nat) : (owA o).lt m = true := D.ltAll_of_nrs _ (rws_nrs _)
theorem owB_lt (o : Ow) (m : Nat) : (owB o).lt m = true := D.ltAll_of_nrs _ (evs_nrs _)
theorem owSet_ok {st : Store} {n p q : Nat} {o0 o : Ow} (ok : st.Ok) (h : OwAt st n p q o0) : (owSet st n p q o).Ok := by
  unfold owSet
  have hp := lt_of_get h.hp
  have hq := lt_of_get h.hq
  refine Ok.set (Ok.set (Ok.set ok (owA_lt _ _)) (owB_lt _ _)) (owO_lt ?_ ?_) <;> simpa
@[simp] theorem owSet_len {st : Store} {n p q : Nat} {o : Ow} : (owSet st n p q o).length = st.length := by simp [owSet]
theorem OwAt.up {st : Store} {n p q : Nat} {o0 : Ow} (h : OwAt st n p q o0) (o : Ow) : OwAt (owSet st n p q o) n p q o := by
  obtain ⟨rs, _⟩ := h.os
  exact ⟨rs.gn' o, rs.gp' o, rs.gq' o, h.pq⟩
theorem OwAt.mv {st : Store} {n p q : Nat} {o0 : Ow} (h : OwAt st n p q o0) (o : Ow) : OwAt (owMov st n q o) n st.length q o := by
  have hn := lt_of_get h.hn
  have hq := lt_of_get h.hq
  obtain ⟨np, nq, pq⟩ := h.ne
  unfold owMov
  refine ⟨?_, ?_, ?_, by omega⟩
  · rw [getL (by simpa), List.getElem?_set_self (by simpa)]
  · have := getA0 (st := (st.set q (owB o)).set n (owO st.length q o.given)) (l := [owA o])
    rw [List.length_set, List.length_set] at this
    rw [this]; rfl
  · rw [getL (by simpa), List.getElem?_set_ne nq, List.getElem?_set_self hq]; rfl
theorem owSet_ne {st : Store} {n p q : Nat} {o : Ow} {i : Nat} (h1 : i ≠ n) (h2 : i ≠ p) (h3 : i ≠ q) : (owSet st n p q o)[i]? = st[i]? := by
  unfold owSet
  rw [List.getElem?_set_ne (Ne.symm h1), List.getElem?_set_ne (Ne.symm h3), List.getElem?_set_ne (Ne.symm h2)]
theorem owMov_ne {st : Store} {n q : Nat} {o : Ow} {i : Nat} (hi : i < st.length) (h1 : i ≠ n) (h3 : i ≠ q) : (owMov st n q o)[i]? = st[i]? := by
  unfold owMov
  rw [getL (by simpa), List.getElem?_set_ne (Ne.symm h1), List.getElem?_set_ne (Ne.symm h3)]
@[simp] theorem owMov_len {st : Store} {n q : Nat} {o : Ow} : (owMov st n q o).length = st.length + 1 := by simp [owMov]
/-- a thing told at the end of the store that stood further behind, and one older thing that leads to it -/
theorem Tell.move {st S g : Store} {n k : Nat} {od od' o : Ob} {d : D} (hN : S.length = st.length) (ok : ∀ i p, i ≠ n → S[i]? = some p → p.lt S.length = true) (hn : n < S.length) (hod : od.lt (S.length + 1) = true)
    (hren : od.ren (fun i => if i < S.length then i else i + k) = od') (hg : g[k]? = some o) (ho : o.lt S.length = true) (hd : d.nr = true) : Tell st (.ok d (S.set n od ++ [o])) (.ok d (S.set n od' ++ g)) := by
  have hρ : ∀ i, i < S.length → (fun i => if i < S.length then i else i + k) i = i := fun i h => by simp [h]
  have := Tell.ok (st := st) (d := d) (st' := S.set n od ++ [o]) (st'' := S.set n od' ++ g) (fun i => if i < S.length then i else i + k) ⟨by simp [hN], fun i hi => hρ i (by omega), fun i j hi hj e => ?_, fun i p e => ?_⟩ (D.lt_of_nr _ hd)
  · rwa [D.ren_eq (n := 0) (fun i hi => absurd hi (Nat.not_lt_zero _)) d (D.lt_of_nr _ hd)] at this
  · simp at hi hj; (try simp only at e); split at e <;> split at e <;> omega
  · have hi : i < (S.set n od ++ [o]).length := (List.getElem?_eq_some_iff.mp e).1
    simp only [List.length_append, List.length_singleton, List.length_set] at hi ⊢
    by_cases h : i < S.length
    · rw [getL (by simpa)] at e
      simp only [if_pos h]
      by_cases hin : n = i
      · subst hin
        rw [List.getElem?_set_self hn] at e; cases e
        rw [getL (by simpa), List.getElem?_set_self hn]
        exact ⟨by rw [hren], hod⟩
      · rw [List.getElem?_set_ne hin] at e
        have hlt := ok i p (Ne.symm hin) e
        refine ⟨?_, Ob.lt_mono (Nat.le_succ _) p hlt⟩
        rw [Ob.ren_eq hρ p hlt, getL (by simpa), List.getElem?_set_ne hin]
        exact e
    · have : i = S.length := by omega
      subst this
      have h0 := getA0 (st := S.set n od) (l := [o])
      rw [List.length_set] at h0
      rw [h0] at e; cases e
      refine ⟨?_, Ob.lt_mono (Nat.le_succ _) o ho⟩
      simp only [Nat.lt_irrefl, if_false]
      have h1 := getAk (st := S.set n od') (l := g) (k := k)
      rw [List.length_set] at h1
      rw [Ob.ren_eq hρ o ho, h1]; exact hg
/-! what is done, plainly -/
def Ow.put (o : Ow) (w : List Nat) (p : Pc) : Ow := if 200 ≤ o.row.length then { o with given := o.given + 1, log := o.log ++ [.full o.given p.host p.text] }
  else ⟨o.row ++ [(o.given, p)], if w = sendC then o.log ++ [.send o.given p.host p.text] else o.log, o.given + 1⟩
inductive Dd where
  | send (h : Int) (t : List Nat)
  | carry (i : Int)
  | lose (i : Int)
  | double (i : Int)
  | turn (i j : Int)
  | spoil (i a : Int) (s : List Nat)
def ddD : Dd → D
  | .send h t => .tup [.str sendC, .int h, .str t]
  | .carry i => .tup [.str carC, .int i]
  | .lose i => .tup [.str losC, .int i]
  | .double i => .tup [.str dblC, .int i]
  | .turn i j => .tup [.str turC, .int i, .int j]
  | .spoil i a s => .tup [.str spoC, .int i, .int a, .str s]
def ddOf : D → Option Dd
  | .tup [.str w, .int i] => if w = carC then some (.carry i) else if w = losC then some (.lose i) else if w = dblC then some (.double i) else none
  | .tup [.str w, .int h, .str t] => if w = sendC then some (.send h t) else none
  | .tup [.str w, .int i, .int j] => if w = turC then some (.turn i j) else none
  | .tup [.str w, .int i, .int a, .str s] => if w = spoC then some (.spoil i a s) else none
  | _ => none
theorem ddOf_mk (x : Dd) : ddOf (ddD x) = some x := by cases x <;> rfl
theorem ddOf_eq {d : D} {x : Dd} (h : ddOf d = some x) : d = ddD x := by
  unfold ddOf at h
  split at h
  · split at h
    · rename_i c; cases h; rw [c]; rfl
    · split at h
      · rename_i c; cases h; rw [c]; rfl
      · split at h
        · rename_i c; cases h; rw [c]; rfl
        · cases h
  · split at h
    · rename_i c; cases h; rw [c]; rfl
    · cases h
  · split at h
    · rename_i c; cases h; rw [c]; rfl
    · cases h
  · split at h
    · rename_i c; cases h; rw [c]; rfl
    · cases h
  · cases h
def nopC : List Nat := [78, 111, 80, 105, 101, 99, 101]
def nodC : List Nat := [78, 111, 68, 101, 101, 100]
def Ow.in (o : Ow) (i : Int) : Prop := 0 ≤ i ∧ i < o.row.length
instance {o : Ow} {i : Int} : Decidable (o.in i) := inferInstanceAs (Decidable (_ ∧ _))
def Ow.sound (o : Ow) : Dd → List Nat
  | .send _ _ => []
  | .carry i => if o.in i then [] else nopC
  | .lose i => if o.in i then [] else nopC
  | .double i => if o.in i then [] else nopC
  | .turn i j => if o.in i ∧ o.in j then [] else nopC
  | .spoil i a s => if o.in i then (match o.row[i.toNat]? with
    | some (_, p) => if p.sp = true ∨ a < 0 ∨ (p.text.length : Int) ≤ a ∨ (p.text[a.toNat]?).map (fun c => [c]) = some s then nodC else []
    | none => []) else nopC
def Ow.done (o : Ow) : Dd → Option (Ow × D × Bool)
  | .send h t => some (o.put sendC ⟨h, t, false⟩, .int o.given, false)
  | .double i => (o.row[i.toNat]?).map fun kp => (({ o with log := o.log ++ [.double kp.1 o.given] } : Ow).put dblC kp.2, .int o.given, false)
  | .turn i j => (o.row[i.toNat]?).bind fun kp => (o.row[j.toNat]?).map fun lq => ({ o with row := (o.row.set i.toNat lq).set j.toNat kp, log := o.log ++ [.turn kp.1 lq.1] }, .non, false)
  | .spoil i a s => (o.row[i.toNat]?).map fun kp => ({ o with row := o.row.set i.toNat (kp.1, ⟨kp.2.host, spoT kp.2.text a.toNat s, true⟩), log := o.log ++ [.spoil kp.1 (spoT kp.2.text a.toNat s)] }, .non, false)
  | .carry i => (o.row[i.toNat]?).map fun kp => ({ o with row := o.row.eraseIdx i.toNat, log := o.log ++ [.carry kp.1 kp.2.host kp.2.text] }, .tup [.int kp.2.host, .str kp.2.text], true)
  | .lose i => (o.row[i.toNat]?).map fun kp => ({ o with row := o.row.eraseIdx i.toNat, log := o.log ++ [.lose kp.1] }, .non, true)
def Ow.ok (o : Ow) : Prop := o.row.length ≤ 5000 ∧ o.log.length ≤ 50000 ∧ (o.row.all fun p => decide (p.2.text.length ≤ 1000)) = true
instance {o : Ow} : Decidable o.ok := inferInstanceAs (Decidable (_ ∧ _))
def Dd.small : Dd → Prop
  | .spoil _ _ s => s.length ≤ 1000
  | _ => True
instance {x : Dd} : Decidable x.small := by cases x <;> (unfold Dd.small; infer_instance)
def sentStep (B : List (Int × List Nat)) : Ev → Option (List (Int × List Nat))
  | .send n _ t => some (putI B n t)
  | .full n _ t => some (putI B n t)
  | .double a n => (lookI B a).map fun t => putI B n t
  | .spoil k t => some (putI B k t)
  | _ => some B
def sentGo (k : Int) : List Ev → List (Int × List Nat) → Option (Option (List Nat))
  | [], _ => some none
  | e :: l, B => (sentStep B e).bind fun B' => match lookI B' k with
    | some t => some (some t)
    | none => sentGo k l B'
def goneE (k : Int) : Ev → Bool
  | .carry n _ _ => decide (n = k)
  | .lose n => decide (n = k)
  | .full n _ _ => decide (n = k)
  | _ => false
def optS : Option (List Nat) → D
  | some t => .str t
  | none => .non
/-! the specs -/
def P.own_begun : FM := fun ds st => match ds with
  | [] => .ok (.ref st.length) (st ++ [owO (st.length + 1) (st.length + 2) 0, .lst [], .lst []])
  | _ => .bad
def P.own_put : FM := fun ds st => match ds with
  | [.ref n, .str w, .int h, .str t, .bl s] => match owOf st n with
    | some (o, p, q) => if o.ok then .ok (.int o.given) (owSet st n p q (o.put w ⟨h, t, s⟩)) else .bad
    | none => .bad
  | _ => .bad
def P.own_sound : FM := fun ds st => match ds with
  | [.ref n, d] => match owOf st n, ddOf d with
    | some (o, _, _), some x => if o.ok then .ok (.str (o.sound x)) st else .bad
    | _, _ => .bad
  | _ => .bad
def P.own_done : FM := fun ds st => match ds with
  | [.ref n, d] => match owOf st n, ddOf d with
    | some (o, p, q), some x => if (o.ok ∧ x.small ∧ o.log.length ≤ 40000) ∧ o.sound x = [] then (match o.done x with
      | some (o', v, m) => .ok v (if m = true then owMov st n q o' else owSet st n p q o')
      | none => .bad) else .bad
    | _, _ => .bad
  | _ => .bad
def P.is_gone : FM := fun ds st => match ds with
  | [.ref m, .int k] => match st[m]? with
    | some (.lst l) => match allO evOf l with
      | some L => if L.length ≤ 50000 then .ok (.bl (L.any (goneE k))) st else .bad
      | none => .bad
    | _ => .bad
  | _ => .bad
def P.sent_text : FM := fun ds st => match ds with
  | [.ref m, .int k] => match st[m]? with
    | some (.lst l) => match allO evOf l with
      | some L => if L.length ≤ 50000 then (match sentGo k L [] with
        | some r => .ok (optS r) st
        | none => .bad) else .bad
      | none => .bad
    | _ => .bad
  | _ => .bad
def P.b_own_begun : SM := (sRet (eDisp [[114, 111, 119], [108, 111, 103], [103, 105, 118, 101, 110]] (eCons (eLst eNil) (eCons (eLst eNil) (eCons (eC (.int 0)) eNil)))))
def P.m_own_begun : FM := fnM 0 0 P.b_own_begun

def P.b_own_put : SM := (sSeq (sSet 5 (e2 oDget (eVar 0) (eC (.str [103, 105, 118, 101, 110]))))
    (sSeq (sSub (eVar 0) (eC (.str [103, 105, 118, 101, 110])) (e2 oAdd (eVar 5) (eC (.int 1))))
    (sSeq (sIf (tB (e2 oGe (e1 oLen (eCons (e2 oDget (eVar 0) (eC (.str [114, 111, 119]))) eNil)) (eC (.int 200))))
    (sDo (eBM "list" mAppend (e2 oDget (eVar 0) (eC (.str [108, 111, 103]))) (eCons (eTup (eCons (eC (.str [102, 117, 108, 108])) (eCons (eVar 5) (eCons (eVar 2) (eCons (eVar 3) eNil))))) eNil)))
    (sSeq (sIf (tB (e2 oEq (eVar 1) (eC (.str [115, 101, 110, 100]))))
    (sDo (eBM "list" mAppend (e2 oDget (eVar 0) (eC (.str [108, 111, 103]))) (eCons (eTup (eCons (eC (.str [115, 101, 110, 100])) (eCons (eVar 5) (eCons (eVar 2) (eCons (eVar 3) eNil))))) eNil)))
    sSkip)
    (sDo (eBM "list" mAppend (e2 oDget (eVar 0) (eC (.str [114, 111, 119]))) (eCons (eTup (eCons (eVar 5) (eCons (eVar 2) (eCons (eVar 3) (eCons (eVar 4) eNil))))) eNil)))))
    (sRet (eVar 5)))))
def P.m_own_put : FM := fnM 5 6 P.b_own_put

def P.b_own_done : SM := (sSeq (sIf (tB (e2 oEq (e2 oIx (eVar 1) (eC (.int 0))) (eC (.str [115, 101, 110, 100]))))
    (sRet (eCall DL.P.own_put (eCons (eVar 0) (eCons (eC (.str [115, 101, 110, 100])) (eCons (e2 oIx (eVar 1) (eC (.int 1))) (eCons (e2 oIx (eVar 1) (eC (.int 2))) (eCons (eC (.bl false)) eNil)))))))
    sSkip)
    (sSeq (sSet 2 (e2 oIx (e2 oDget (eVar 0) (eC (.str [114, 111, 119]))) (e2 oIx (eVar 1) (eC (.int 1)))))
    (sSeq (sIf (tB (e2 oEq (e2 oIx (eVar 1) (eC (.int 0))) (eC (.str [100, 111, 117, 98, 108, 101]))))
    (sSeq (sDo (eBM "list" mAppend (e2 oDget (eVar 0) (eC (.str [108, 111, 103]))) (eCons (eTup (eCons (eC (.str [100, 111, 117, 98, 108, 101])) (eCons (e2 oIx (eVar 2) (eC (.int 0))) (eCons (e2 oDget (eVar 0) (eC (.str [103, 105, 118, 101, 110]))) eNil)))) eNil)))
    (sRet (eCall DL.P.own_put (eCons (eVar 0) (eCons (eC (.str [100, 111, 117, 98, 108, 101])) (eCons (e2 oIx (eVar 2) (eC (.int 1))) (eCons (e2 oIx (eVar 2) (eC (.int 2))) (eCons (e2 oIx (eVar 2) (eC (.int 3))) eNil))))))))
    sSkip)
    (sSeq (sIf (tB (e2 oEq (e2 oIx (eVar 1) (eC (.int 0))) (eC (.str [116, 117, 114, 110]))))
    (sSeq (sSub (e2 oDget (eVar 0) (eC (.str [114, 111, 119]))) (e2 oIx (eVar 1) (eC (.int 1))) (e2 oIx (e2 oDget (eVar 0) (eC (.str [114, 111, 119]))) (e2 oIx (eVar 1) (eC (.int 2)))))
    (sSeq (sSub (e2 oDget (eVar 0) (eC (.str [114, 111, 119]))) (e2 oIx (eVar 1) (eC (.int 2))) (eVar 2))
    (sSeq (sDo (eBM "list" mAppend (e2 oDget (eVar 0) (eC (.str [108, 111, 103]))) (eCons (eTup (eCons (eC (.str [116, 117, 114, 110])) (eCons (e2 oIx (eVar 2) (eC (.int 0))) (eCons (e2 oIx (e2 oIx (e2 oDget (eVar 0) (eC (.str [114, 111, 119]))) (e2 oIx (eVar 1) (eC (.int 1)))) (eC (.int 0))) eNil)))) eNil)))
    (sRet (eC .non)))))
    sSkip)
    (sSeq (sIf (tB (e2 oEq (e2 oIx (eVar 1) (eC (.int 0))) (eC (.str [115, 112, 111, 105, 108]))))
    (sSeq (sSet 3 (e2 oAdd (e2 oAdd (eSli (e2 oIx (eVar 2) (eC (.int 2))) oNo (oSo (e2 oIx (eVar 1) (eC (.int 2))))) (e2 oIx (eVar 1) (eC (.int 3)))) (eSli (e2 oIx (eVar 2) (eC (.int 2))) (oSo (e2 oAdd (e2 oIx (eVar 1) (eC (.int 2))) (eC (.int 1)))) oNo)))
    (sSeq (sSub (e2 oDget (eVar 0) (eC (.str [114, 111, 119]))) (e2 oIx (eVar 1) (eC (.int 1))) (eTup (eCons (e2 oIx (eVar 2) (eC (.int 0))) (eCons (e2 oIx (eVar 2) (eC (.int 1))) (eCons (eVar 3) (eCons (eC (.bl true)) eNil))))))
    (sSeq (sDo (eBM "list" mAppend (e2 oDget (eVar 0) (eC (.str [108, 111, 103]))) (eCons (eTup (eCons (eC (.str [115, 112, 111, 105, 108])) (eCons (e2 oIx (eVar 2) (eC (.int 0))) (eCons (eVar 3) eNil)))) eNil)))
    (sRet (eC .non)))))
    sSkip)
    (sSeq (sSub (eVar 0) (eC (.str [114, 111, 119])) (e2 oAdd (eSli (e2 oDget (eVar 0) (eC (.str [114, 111, 119]))) oNo (oSo (e2 oIx (eVar 1) (eC (.int 1))))) (eSli (e2 oDget (eVar 0) (eC (.str [114, 111, 119]))) (oSo (e2 oAdd (e2 oIx (eVar 1) (eC (.int 1))) (eC (.int 1)))) oNo)))
    (sSeq (sIf (tB (e2 oEq (e2 oIx (eVar 1) (eC (.int 0))) (eC (.str [108, 111, 115, 101]))))
    (sSeq (sDo (eBM "list" mAppend (e2 oDget (eVar 0) (eC (.str [108, 111, 103]))) (eCons (eTup (eCons (eC (.str [108, 111, 115, 101])) (eCons (e2 oIx (eVar 2) (eC (.int 0))) eNil))) eNil)))
    (sRet (eC .non)))
    sSkip)
    (sSeq (sDo (eBM "list" mAppend (e2 oDget (eVar 0) (eC (.str [108, 111, 103]))) (eCons (eTup (eCons (eC (.str [99, 97, 114, 114, 121])) (eCons (e2 oIx (eVar 2) (eC (.int 0))) (eCons (e2 oIx (eVar 2) (eC (.int 1))) (eCons (e2 oIx (eVar 2) (eC (.int 2))) eNil))))) eNil)))
    (sRet (eTup (eCons (e2 oIx (eVar 2) (eC (.int 1))) (eCons (e2 oIx (eVar 2) (eC (.int 2))) eNil))))))))))))
def P.m_own_done : FM := fnM 2 4 P.b_own_done

def P.b_own_sound : SM := (sSeq (sSet 2 (e1 oLen (eCons (e2 oDget (eVar 0) (eC (.str [114, 111, 119]))) eNil)))
    (sSeq (sFor (iSeq (eSli (eVar 1) (oSo (eC (.int 1))) (oSo (e2 oAdd (eC (.int 2)) (e1 oInt (eCons (e2 oEq (e2 oIx (eVar 1) (eC (.int 0))) (eC (.str [116, 117, 114, 110]))) eNil)))))) (tName 3)
    (sIf (tAndD (tB (e2 oNe (e2 oIx (eVar 1) (eC (.int 0))) (eC (.str [115, 101, 110, 100])))) (tOrD (tB (e2 oLt (eVar 3) (eC (.int 0)))) (tB (e2 oGe (eVar 3) (eVar 2)))))
    (sRet (eC (.str [78, 111, 80, 105, 101, 99, 101])))
    sSkip))
    (sSeq (sIf (tB (e2 oNe (e2 oIx (eVar 1) (eC (.int 0))) (eC (.str [115, 112, 111, 105, 108]))))
    (sRet (eC (.str [])))
    sSkip)
    (sSeq (sSet 4 (e2 oIx (e2 oDget (eVar 0) (eC (.str [114, 111, 119]))) (e2 oIx (eVar 1) (eC (.int 1)))))
    (sSeq (sIf (tOrD (tTru (e2 oIx (eVar 4) (eC (.int 3)))) (tOrD (tB (e2 oLt (e2 oIx (eVar 1) (eC (.int 2))) (eC (.int 0)))) (tOrD (tB (e2 oGe (e2 oIx (eVar 1) (eC (.int 2))) (e1 oLen (eCons (e2 oIx (eVar 4) (eC (.int 2))) eNil)))) (tB (e2 oEq (e2 oIx (e2 oIx (eVar 4) (eC (.int 2))) (e2 oIx (eVar 1) (eC (.int 2)))) (e2 oIx (eVar 1) (eC (.int 3))))))))
    (sRet (eC (.str [78, 111, 68, 101, 101, 100])))
    sSkip)
    (sRet (eC (.str []))))))))
def P.m_own_sound : FM := fnM 2 5 P.b_own_sound

def P.b_is_gone : SM := (sSeq (sFor (iSeq (eVar 0)) (tName 2)
    (sIf (tAndD (tB (e2 oIn (e2 oIx (eVar 2) (eC (.int 0))) (eTup (eCons (eC (.str [99, 97, 114, 114, 121])) (eCons (eC (.str [108, 111, 115, 101])) (eCons (eC (.str [102, 117, 108, 108])) eNil)))))) (tB (e2 oEq (e2 oIx (eVar 2) (eC (.int 1))) (eVar 1))))
    (sRet (eC (.bl true)))
    sSkip))
    (sRet (eC (.bl false))))
def P.m_is_gone : FM := fnM 2 3 P.b_is_gone

def P.b_sent_text : SM := (sSeq (sSet 2 eDic)
    (sSeq (sFor (iSeq (eVar 0)) (tName 3)
    (sSeq (sIf (tOrD (tB (e2 oEq (e2 oIx (eVar 3) (eC (.int 0))) (eC (.str [115, 101, 110, 100])))) (tB (e2 oEq (e2 oIx (eVar 3) (eC (.int 0))) (eC (.str [102, 117, 108, 108])))))
    (sSub (eVar 2) (e2 oIx (eVar 3) (eC (.int 1))) (e2 oIx (eVar 3) (eC (.int 3))))
    (sIf (tB (e2 oEq (e2 oIx (eVar 3) (eC (.int 0))) (eC (.str [100, 111, 117, 98, 108, 101]))))
    (sSub (eVar 2) (e2 oIx (eVar 3) (eC (.int 2))) (e2 oDget (eVar 2) (e2 oIx (eVar 3) (eC (.int 1)))))
    (sIf (tB (e2 oEq (e2 oIx (eVar 3) (eC (.int 0))) (eC (.str [115, 112, 111, 105, 108]))))
    (sSub (eVar 2) (e2 oIx (eVar 3) (eC (.int 1))) (e2 oIx (eVar 3) (eC (.int 2))))
    sSkip)))
    (sIf (tB (e2 oIn (eVar 1) (eVar 2)))
    (sRet (e2 oDget (eVar 2) (eVar 1)))
    sSkip)))
    (sRet (eC .non))))
def P.m_sent_text : FM := fnM 2 4 P.b_sent_text

theorem P.tell_own_begun : ∀ (st : Store) (ds : List D), st.Ok → D.ltAll st.length ds = true → Tell st (P.own_begun ds st) (P.m_own_begun ds st) := by
  intro st ds ok lt
  unfold P.own_begun
  split
  · have e : P.m_own_begun [] st = .ok (.ref st.length) (st ++ [owO (st.length + 1) (st.length + 2) 0, .lst [], .lst []]) := by
      rw [P.m_own_begun]
      simp [P.b_own_begun]
      rfl
    rw [e]
    refine .eq (by simp) ?_ (by simp [D.lt])
    intro i o ho
    by_cases h : i < st.length
    · rw [getL h] at ho
      exact Ob.lt_mono (by simp) o (ok i o ho)
    · rw [List.getElem?_append_right (by omega)] at ho
      rcases hi : i - st.length with _ | _ | _ | j
      · rw [hi] at ho; cases ho; exact owO_lt (by simp) (by simp)
      · rw [hi] at ho; cases ho; rfl
      · rw [hi] at ho; cases ho; rfl
      · rw [hi] at ho; simp at ho
  · exact .bad
theorem tell_owSet {st : Store} {n p q : Nat} {o0 o : Ow} {v : D} {m : Out D} (ok : st.Ok) (h : OwAt st n p q o0) (hv : v.nr = true) (e : m = .ok v (owSet st n p q o)) : Tell st (.ok v (owSet st n p q o)) m := by
  rw [e]
  exact .eq (by simp) (owSet_ok ok h) (D.lt_of_nr _ hv)
theorem P.tell_own_put : ∀ (st : Store) (ds : List D), st.Ok → D.ltAll st.length ds = true → Tell st (P.own_put ds st) (P.m_own_put ds st) := by
  intro st ds ok lt
  unfold P.own_put
  split
  · rename_i n w h t s
    split
    · rename_i o p q ho
      have hA := owOf_eq ho
      obtain ⟨rs, hid⟩ := hA.os
      split
      · rename_i hok
        obtain ⟨l1, l2, l3⟩ := hok
        refine tell_owSet ok hA rfl ?_
        rw [show P.m_own_put [.ref n, .str w, .int h, .str t, .bl s] st = P.m_own_put [.ref n, .str w, .int h, .str t, .bl s] (owSet st n p q o) by rw [hid]]
        generalize owSet st n p q = S at *
        have m1 : o.row.length ≤ sizeLine := hL5 (by omega)
        have m2 : o.row.length < sizeLine := hL5' (by omega)
        have m3 : o.log.length < sizeLine := hL5' (by omega)
        have sn := rs.sn o (o.given + 1)
        have sp := fun (o : Ow) (x : Int × Pc) => rs.sp o (o.row ++ [x])
        have sq := fun (o : Ow) (x : Ev) => rs.sq o (o.log ++ [x])
        simp only [List.map_append, List.map_cons, List.map_nil] at sp sq
        have sp1 := fun (o : Ow) (k h : Int) (t : List Nat) (s : Bool) => sp o (k, ⟨h, t, s⟩)
        have sq1 := fun (o : Ow) (n h : Int) (t : List Nat) => sq o (.send n h t)
        have sq2 := fun (o : Ow) (n h : Int) (t : List Nat) => sq o (.full n h t)
        simp only [rwD, evD, sendC, fullC] at sp1 sq1 sq2
        rw [P.m_own_put]
        unfold Ow.put
        by_cases c1 : 200 ≤ o.row.length
        · have c1' : (200 : Int) ≤ (o.row.length : Int) := by omega
          rw [if_pos c1]
          simp [P.b_own_put, rs.gn', rs.gp', rs.gq', sn, m1, m3, c1', sq2]
        · rw [if_neg c1]
          have c1' : ¬ (200 : Int) ≤ (o.row.length : Int) := by omega
          by_cases c2 : w = sendC
          · rw [if_pos c2]
            subst c2
            simp [P.b_own_put, rs.gn', rs.gp', rs.gq', sn, m1, m2, m3, c1', sq1, sp1, sendC]
          · rw [if_neg c2]
            have c2' : ¬ w = [115, 101, 110, 100] := c2
            simp [P.b_own_put, rs.gn', rs.gp', rs.gq', sn, m1, m2, m3, c1', c2', sp1]
      · exact .bad
    · exact .bad
  · exact .bad
theorem ow_at {o : Ow} {i : Int} (h : o.in i) : ∃ kp, o.row[i.toNat]? = some kp ∧ atI (o.row.map rwD) i = some (rwD kp) := by
  obtain ⟨h0, h1⟩ := h
  have hl : i.toNat < o.row.length := by omega
  refine ⟨o.row[i.toNat], by simp [hl], ?_⟩
  rw [atI_pos h0, List.getElem?_map]
  simp [hl]
theorem P.tell_own_sound : ∀ (st : Store) (ds : List D), st.Ok → D.ltAll st.length ds = true → Tell st (P.own_sound ds st) (P.m_own_sound ds st) := by
  intro st ds ok lt
  unfold P.own_sound
  split
  · rename_i n d
    split
    · rename_i o p q x ho hx
      have hA := owOf_eq ho
      have hd := ddOf_eq hx
      subst hd
      split
      · rename_i hok
        obtain ⟨l1, l2, l3⟩ := hok
        have hn := hA.hn
        have hp := hA.hp
        refine tell_eq ok rfl ?_
        rw [P.m_own_sound]
        cases x with
        | send h t =>
          have hcut : cutL [D.str [115, 101, 110, 100], .int h, .str t] (some 1) (some 2) = [.int h] := by rw [cut_mid (by omega) (by omega)]; rfl
          simp [P.b_own_sound, ddD, hn, hp, sendC, hcut, forK_fix, forFix, tName, Ow.sound]
        | carry i =>
          have hcut : cutL [D.str [99, 97, 114, 114, 121], .int i] (some 1) (some 2) = [.int i] := by rw [cut_mid (by omega) (by omega)]; rfl
          by_cases c0 : i < 0
          · have : ¬ o.in i := fun z => by have := z.1; omega
            simp [P.b_own_sound, ddD, hn, hp, carC, hcut, forK_fix, forFix, tName, Ow.sound, c0, this, nopC]
          · by_cases c1 : (o.row.length : Int) ≤ i
            · have : ¬ o.in i := fun z => by have := z.2; omega
              simp [P.b_own_sound, ddD, hn, hp, carC, hcut, forK_fix, forFix, tName, Ow.sound, c0, c1, this, nopC]
            · have : o.in i := ⟨by omega, by omega⟩
              simp [P.b_own_sound, ddD, hn, hp, carC, hcut, forK_fix, forFix, tName, Ow.sound, c0, c1, this]
        | lose i =>
          have hcut : cutL [D.str [108, 111, 115, 101], .int i] (some 1) (some 2) = [.int i] := by rw [cut_mid (by omega) (by omega)]; rfl
          by_cases c0 : i < 0
          · have : ¬ o.in i := fun z => by have := z.1; omega
            simp [P.b_own_sound, ddD, hn, hp, losC, hcut, forK_fix, forFix, tName, Ow.sound, c0, this, nopC]
          · by_cases c1 : (o.row.length : Int) ≤ i
            · have : ¬ o.in i := fun z => by have := z.2; omega
              simp [P.b_own_sound, ddD, hn, hp, losC, hcut, forK_fix, forFix, tName, Ow.sound, c0, c1, this, nopC]
            · have : o.in i := ⟨by omega, by omega⟩
              simp [P.b_own_sound, ddD, hn, hp, losC, hcut, forK_fix, forFix, tName, Ow.sound, c0, c1, this]
        | double i =>
          have hcut : cutL [D.str [100, 111, 117, 98, 108, 101], .int i] (some 1) (some 2) = [.int i] := by rw [cut_mid (by omega) (by omega)]; rfl
          by_cases c0 : i < 0
          · have : ¬ o.in i := fun z => by have := z.1; omega
            simp [P.b_own_sound, ddD, hn, hp, dblC, hcut, forK_fix, forFix, tName, Ow.sound, c0, this, nopC]
          · by_cases c1 : (o.row.length : Int) ≤ i
            · have : ¬ o.in i := fun z => by have := z.2; omega
              simp [P.b_own_sound, ddD, hn, hp, dblC, hcut, forK_fix, forFix, tName, Ow.sound, c0, c1, this, nopC]
            · have : o.in i := ⟨by omega, by omega⟩
              simp [P.b_own_sound, ddD, hn, hp, dblC, hcut, forK_fix, forFix, tName, Ow.sound, c0, c1, this]
        | turn i j =>
          have hcut : cutL [D.str [116, 117, 114, 110], .int i, .int j] (some 1) (some 3) = [.int i, .int j] := by rw [cut_mid (by omega) (by omega)]; rfl
          have hno : ¬ o.in i ∨ ¬ o.in j → Ow.sound o (.turn i j) = nopC := fun h => by
            simp only [Ow.sound]; rw [if_neg (fun z => h.elim (fun q => q z.1) (fun q => q z.2))]
          by_cases c0 : i < 0
          · have : ¬ o.in i := fun z => by have := z.1; omega
            rw [hno (.inl this)]
            simp [P.b_own_sound, ddD, hn, hp, turC, hcut, forK_fix, forFix, tName, c0, nopC]
          · by_cases c1 : (o.row.length : Int) ≤ i
            · have : ¬ o.in i := fun z => by have := z.2; omega
              rw [hno (.inl this)]
              simp [P.b_own_sound, ddD, hn, hp, turC, hcut, forK_fix, forFix, tName, c0, c1, nopC]
            · by_cases d0 : j < 0
              · have : ¬ o.in j := fun z => by have := z.1; omega
                rw [hno (.inr this)]
                simp [P.b_own_sound, ddD, hn, hp, turC, hcut, forK_fix, forFix, tName, c0, c1, d0, nopC]
              · by_cases d1 : (o.row.length : Int) ≤ j
                · have : ¬ o.in j := fun z => by have := z.2; omega
                  rw [hno (.inr this)]
                  simp [P.b_own_sound, ddD, hn, hp, turC, hcut, forK_fix, forFix, tName, c0, c1, d0, d1, nopC]
                · have h1 : o.in i := ⟨by omega, by omega⟩
                  have h2 : o.in j := ⟨by omega, by omega⟩
                  simp [P.b_own_sound, ddD, hn, hp, turC, hcut, forK_fix, forFix, tName, Ow.sound, c0, c1, d0, d1, h1, h2]
        | spoil i a s =>
          have hcut : cutL [D.str [115, 112, 111, 105, 108], .int i, .int a, .str s] (some 1) (some 2) = [.int i] := by rw [cut_mid (by omega) (by omega)]; rfl
          by_cases c0 : i < 0
          · have : ¬ o.in i := fun z => by have := z.1; omega
            simp [P.b_own_sound, ddD, hn, hp, spoC, hcut, forK_fix, forFix, tName, Ow.sound, c0, this, nopC]
          · by_cases c1 : (o.row.length : Int) ≤ i
            · have : ¬ o.in i := fun z => by have := z.2; omega
              simp [P.b_own_sound, ddD, hn, hp, spoC, hcut, forK_fix, forFix, tName, Ow.sound, c0, c1, this, nopC]
            · have hin : o.in i := ⟨by omega, by omega⟩
              obtain ⟨kp, k1, k2⟩ := ow_at hin
              obtain ⟨k, p0, t, sp⟩ := kp
              have ht : t.length ≤ 1000 := by
                have := List.all_eq_true.mp l3 _ (List.mem_of_getElem? k1)
                simpa using this
              have ht2 : t.length ≤ sizeLine := hL1000 ht
              simp only [rwD] at k2
              simp only [Ow.sound, if_pos hin, k1]
              cases sp with
              | true => simp [P.b_own_sound, ddD, hn, hp, spoC, hcut, forK_fix, forFix, tName, c0, c1, k2, truD, nodC]
              | false =>
                by_cases a0 : a < 0
                · simp [P.b_own_sound, ddD, hn, hp, spoC, hcut, forK_fix, forFix, tName, c0, c1, k2, truD, nodC, a0]
                · by_cases a1 : (t.length : Int) ≤ a
                  · simp [P.b_own_sound, ddD, hn, hp, spoC, hcut, forK_fix, forFix, tName, c0, c1, k2, truD, nodC, a0, a1, ht2]
                  · have hl : a.toNat < t.length := by omega
                    have hat : atI t a = some t[a.toNat] := by rw [atI_pos (by omega)]; simp [hl]
                    have hat2 : t[a.toNat]? = some t[a.toNat] := by simp [hl]
                    generalize t[a.toNat] = c at *
                    by_cases hc : [c] = s
                    · simp [P.b_own_sound, ddD, hn, hp, spoC, hcut, forK_fix, forFix, tName, c0, c1, k2, truD, nodC, a0, a1, ht2, hat, hat2, hc]
                    · simp [P.b_own_sound, ddD, hn, hp, spoC, hcut, forK_fix, forFix, tName, c0, c1, k2, truD, nodC, a0, a1, ht2, hat, hat2, hc]
      · exact .bad
    · exact .bad
  · exact .bad
theorem owSet_set {st : Store} {n p q : Nat} {o0 o1 o2 : Ow} (h : OwAt st n p q o0) : owSet (owSet st n p q o1) n p q o2 = owSet st n p q o2 := by
  obtain ⟨np, nq, pq⟩ := h.ne
  unfold owSet
  rw [List.set_comm _ _ np, List.set_comm _ _ (Ne.symm pq), List.set_set, List.set_comm _ _ nq, List.set_set, List.set_set]
theorem sound_in {o : Ow} {x : Dd} (h : o.sound x = []) : match x with
    | .send _ _ => True
    | .carry i => o.in i
    | .lose i => o.in i
    | .double i => o.in i
    | .turn i j => o.in i ∧ o.in j
    | .spoil i a _ => o.in i ∧ ∃ kp, o.row[i.toNat]? = some kp ∧ kp.2.sp = false ∧ 0 ≤ a ∧ a < kp.2.text.length := by
  cases x with
  | send h t => trivial
  | carry i => simp only [Ow.sound] at h ⊢; exact Classical.byContradiction fun q => by rw [if_neg q] at h; cases h
  | lose i => simp only [Ow.sound] at h ⊢; exact Classical.byContradiction fun q => by rw [if_neg q] at h; cases h
  | double i => simp only [Ow.sound] at h ⊢; exact Classical.byContradiction fun q => by rw [if_neg q] at h; cases h
  | turn i j => simp only [Ow.sound] at h ⊢; exact Classical.byContradiction fun q => by rw [if_neg q] at h; cases h
  | spoil i a s =>
    simp only [Ow.sound] at h ⊢
    by_cases hi : o.in i
    · obtain ⟨kp, h1, h2⟩ := ow_at hi
      rw [if_pos hi, h1] at h
      obtain ⟨k, p⟩ := kp
      simp only at h
      refine ⟨hi, _, h1, ?_⟩
      split at h
      · cases h
      · rename_i hc
        simp only [not_or] at hc
        simp only
        exact ⟨by simpa using hc.1, by omega, by omega⟩
    · rw [if_neg hi] at h; cases h
theorem P.tell_own_done : ∀ (st : Store) (ds : List D), st.Ok → D.ltAll st.length ds = true → Tell st (P.own_done ds st) (P.m_own_done ds st) := by
  intro st ds ok lt
  unfold P.own_done
  split
  · rename_i n d
    split
    · rename_i o p q x ho hx
      have hA := owOf_eq ho
      have hd := ddOf_eq hx
      subst hd
      split
      · rename_i hok
        obtain ⟨⟨hok, hsm, l4⟩, hso⟩ := hok
        have hin := sound_in hso
        have ⟨l1, l2, l3⟩ := hok
        cases x with
        | send h t =>
          simp only [Ow.done, Bool.false_eq_true, if_false]
          refine tell_owSet ok hA rfl ?_
          have hn := hA.hn
          have hput : P.own_put [.ref n, .str [115, 101, 110, 100], .int h, .str t, .bl false] st = .ok (.int o.given) (owSet st n p q (o.put sendC ⟨h, t, false⟩)) := by
            simp only [P.own_put, ho, if_pos hok]; rfl
          rw [P.m_own_done]
          simp [P.b_own_done, ddD, sendC, hn, hput]
        | double i =>
          simp only at hin
          obtain ⟨kp, k1, k2⟩ := ow_at hin
          obtain ⟨k, h0, t, sp⟩ := kp
          simp only [Ow.done, k1, Option.map_some, Bool.false_eq_true, if_false]
          refine tell_owSet ok hA rfl ?_
          obtain ⟨rs, hid⟩ := hA.os
          have hset : P.own_put [.ref n, .str [100, 111, 117, 98, 108, 101], .int h0, .str t, .bl sp] (owSet st n p q { o with log := o.log ++ [.double k o.given] }) = .ok (.int o.given) (owSet st n p q (({ o with log := o.log ++ [.double k o.given] } : Ow).put dblC ⟨h0, t, sp⟩)) := by
            have h1 := owOf_mk (hA.up { o with log := o.log ++ [.double k o.given] })
            simp only [P.own_put, h1]
            rw [if_pos ⟨l1, by simp; omega, l3⟩, owSet_set hA]; rfl
          rw [show P.m_own_done [.ref n, ddD (.double i)] st = P.m_own_done [.ref n, ddD (.double i)] (owSet st n p q o) by rw [hid]]
          generalize owSet st n p q = S at *
          have sq := rs.sq o (o.log ++ [.double k o.given])
          simp only [List.map_append, List.map_cons, List.map_nil, evD, dblC] at sq
          simp only [rwD] at k2
          have m3 : o.log.length < sizeLine := hL5' (by omega)
          rw [P.m_own_done]
          simp [P.b_own_done, ddD, dblC, rs.gn', rs.gp', rs.gq', k2, m3, sq, hset]
        | turn i j =>
          simp only at hin
          obtain ⟨hi, hj⟩ := hin
          obtain ⟨kp, k1, k2⟩ := ow_at hi
          obtain ⟨lq, q1, q2⟩ := ow_at hj
          obtain ⟨k, h0, t, sp⟩ := kp
          obtain ⟨l, h1, u, sq0⟩ := lq
          simp only [Ow.done, k1, q1, Option.map_some, Option.bind_some, Bool.false_eq_true, if_false]
          refine tell_owSet ok hA rfl ?_
          obtain ⟨rs, hid⟩ := hA.os
          rw [show P.m_own_done [.ref n, ddD (.turn i j)] st = P.m_own_done [.ref n, ddD (.turn i j)] (owSet st n p q o) by rw [hid]]
          generalize owSet st n p q = S at *
          have hx1 := ixN_pos (n := o.row.length) hi.1 hi.2
          have hx2 := ixN_pos (n := o.row.length) hj.1 hj.2
          have p1 := rs.sp o (o.row.set i.toNat (l, ⟨h1, u, sq0⟩))
          have p2 := rs.sp { o with row := o.row.set i.toNat (l, ⟨h1, u, sq0⟩) } ((o.row.set i.toNat (l, ⟨h1, u, sq0⟩)).set j.toNat (k, ⟨h0, t, sp⟩))
          simp only [List.map_set, rwD] at p1 p2
          simp only [rwD] at k2 q2
          have p3 := rs.sq { o with row := (o.row.set i.toNat (l, ⟨h1, u, sq0⟩)).set j.toNat (k, ⟨h0, t, sp⟩) } (o.log ++ [.turn k l])
          simp only [List.map_append, List.map_cons, List.map_nil, evD, turC] at p3
          have m3 : o.log.length < sizeLine := hL5' (by omega)
          have hat : ∃ w, atI (((o.row.map rwD).set i.toNat (D.tup [.int l, .int h1, .str u, .bl sq0])).set j.toNat (D.tup [.int k, .int h0, .str t, .bl sp])) i = some (.tup (.int l :: w)) := by
            rw [atI_pos hi.1]
            have hlen : i.toNat < (o.row.map rwD).length := by have := hi.2; have := hi.1; simp; omega
            by_cases e : j.toNat = i.toNat
            · have : l = k := by rw [e] at q1; rw [q1] at k1; cases k1; rfl
              rw [e, List.getElem?_set_self (by simpa using hlen), this]; exact ⟨_, rfl⟩
            · rw [List.getElem?_set_ne e, List.getElem?_set_self hlen]; exact ⟨_, rfl⟩
          obtain ⟨w, hat⟩ := hat
          rw [P.m_own_done]
          simp [P.b_own_done, ddD, turC, rs.gn', rs.gp', rs.gq', k2, q2, m3, hx1, hx2, p1, p2, hat, p3, rwD]
        | spoil i a s =>
          simp only at hin
          obtain ⟨hi, kp, k1, k3, a0, a1⟩ := hin
          obtain ⟨kp', k1', k2⟩ := ow_at hi
          rw [k1] at k1'; cases k1'
          obtain ⟨k, h0, t, sp⟩ := kp
          simp only at k3 a1
          subst k3
          simp only [Ow.done, k1, Option.map_some, Bool.false_eq_true, if_false]
          refine tell_owSet ok hA rfl ?_
          obtain ⟨rs, hid⟩ := hA.os
          rw [show P.m_own_done [.ref n, ddD (.spoil i a s)] st = P.m_own_done [.ref n, ddD (.spoil i a s)] (owSet st n p q o) by rw [hid]]
          generalize owSet st n p q = S at *
          have hx1 := ixN_pos (n := o.row.length) hi.1 hi.2
          have ht : t.length ≤ 1000 := by
            have := List.all_eq_true.mp l3 _ (List.mem_of_getElem? k1)
            simpa using this
          have hs : s.length ≤ 1000 := hsm
          have ht2 : t.length ≤ sizeLine := hL1000 ht
          have c1 := cut_to (l := t) a0
          have c2 : cutL t (some (a + 1)) none = t.drop (a.toNat + 1) := by rw [cut_from (by omega)]; congr 1; omega
          have e : t.take a.toNat ++ (s ++ t.drop (a.toNat + 1)) = spoT t a.toNat s := by simp [spoT]
          have m4 : min a.toNat t.length + s.length ≤ sizeLine := hL5 (by omega)
          have m5 : min a.toNat t.length + s.length + (t.length - (a.toNat + 1)) ≤ sizeLine := hL5 (by omega)
          have m6 : min a.toNat t.length + (s.length + (t.length - (a.toNat + 1))) ≤ sizeLine := hL5 (by omega)
          have p1 := rs.sp o (o.row.set i.toNat (k, ⟨h0, spoT t a.toNat s, true⟩))
          simp only [List.map_set, rwD] at p1
          simp only [rwD] at k2
          have p3 := rs.sq { o with row := o.row.set i.toNat (k, ⟨h0, spoT t a.toNat s, true⟩) } (o.log ++ [.spoil k (spoT t a.toNat s)])
          simp only [List.map_append, List.map_cons, List.map_nil, evD, spoC] at p3
          have m3 : o.log.length < sizeLine := hL5' (by omega)
          rw [P.m_own_done]
          simp [P.b_own_done, ddD, spoC, rs.gn', rs.gp', rs.gq', k2, m3, hx1, ht2, c1, c2, m4, m5, m6, e, p1, p3]
        | carry i =>
          simp only at hin
          obtain ⟨kp, k1, k2⟩ := ow_at hin
          obtain ⟨k, h0, t, sp⟩ := kp
          simp only [Ow.done, k1, Option.map_some, if_true]
          have c1 := cut_to (l := o.row.map rwD) hin.1
          have c2 : cutL (o.row.map rwD) (some (i + 1)) none = (o.row.map rwD).drop (i.toNat + 1) := by have := hin.1; rw [cut_from (by omega)]; congr 1; omega
          have hn := hA.hn
          have hp := hA.hp
          have hq := hA.hq
          have pn := lt_of_get hn
          have pp := lt_of_get hp
          have pq := lt_of_get hq
          have e : (o.row.eraseIdx i.toNat).map rwD = (o.row.map rwD).take i.toNat ++ (o.row.map rwD).drop (i.toNat + 1) := by
            rw [List.eraseIdx_eq_take_drop_succ]; simp
          have m3 : o.log.length < sizeLine := hL5' (by omega)
          have nq := hA.ne.2.1
          simp only [rwD] at k2
          have hm : P.m_own_done [.ref n, ddD (.carry i)] st = .ok (.tup [.int h0, .str t]) ((st.set q (owB { o with row := o.row.eraseIdx i.toNat, log := o.log ++ [.carry k h0 t] })).set n (owO (st.length + 2) q o.given) ++ [.lst ((o.row.map rwD).take i.toNat), .lst ((o.row.map rwD).drop (i.toNat + 1)), owA { o with row := o.row.eraseIdx i.toNat, log := o.log ++ [.carry k h0 t] }]) := by
            rw [P.m_own_done]
            have mm : min i.toNat o.row.length + (o.row.length - (i.toNat + 1)) ≤ sizeLine := hL5 (by omega)
            have f1 : ∀ l x, (st.set n x ++ l)[n]? = some x := fun l x => by rw [getL (by simpa), List.getElem?_set_self pn]
            have f2 : ∀ l x, (st.set n x ++ l)[q]? = some (.lst (o.log.map evD)) := fun l x => by rw [getL (by simpa), List.getElem?_set_ne nq, hq]
            have f3 : ∀ l x y, (st.set n x ++ l).set q y = (st.set q y).set n x ++ l := fun l x y => by rw [setL (by simpa), List.set_comm _ _ nq]
            simp [P.b_own_done, ddD, carC, hn, hp, k2, c1, c2, getL pn, getL pp, getL pq, mm, setL pn, f1, f2, f3, m3, owB, owA, e, evD]
          rw [hm]
          have := Tell.move (st := st) (S := st.set q (owB { o with row := o.row.eraseIdx i.toNat, log := o.log ++ [.carry k h0 t] })) (n := n) (k := 2) (od := owO st.length q o.given) (od' := owO (st.length + 2) q o.given) (o := owA { o with row := o.row.eraseIdx i.toNat, log := o.log ++ [.carry k h0 t] }) (d := .tup [.int h0, .str t]) (g := [.lst ((o.row.map rwD).take i.toNat), .lst ((o.row.map rwD).drop (i.toNat + 1)), owA { o with row := o.row.eraseIdx i.toNat, log := o.log ++ [.carry k h0 t] }])
            (by simp) (fun m p hm hp => by
              have := Ok.set (n := q) (o := owB { o with row := o.row.eraseIdx i.toNat, log := o.log ++ [.carry k h0 t] }) ok (owB_lt _ _)
              exact this m p hp) (by simpa) (owO_lt (by simp) (by simp; omega)) (by simp [owO, Ob.ren, D.ren]; omega) rfl (owA_lt _ _) rfl
          simpa [owMov] using this
        | lose i =>
          simp only at hin
          obtain ⟨kp, k1, k2⟩ := ow_at hin
          obtain ⟨k, h0, t, sp⟩ := kp
          simp only [Ow.done, k1, Option.map_some, if_true]
          have c1 := cut_to (l := o.row.map rwD) hin.1
          have c2 : cutL (o.row.map rwD) (some (i + 1)) none = (o.row.map rwD).drop (i.toNat + 1) := by have := hin.1; rw [cut_from (by omega)]; congr 1; omega
          have hn := hA.hn
          have hp := hA.hp
          have hq := hA.hq
          have pn := lt_of_get hn
          have pp := lt_of_get hp
          have pq := lt_of_get hq
          have e : (o.row.eraseIdx i.toNat).map rwD = (o.row.map rwD).take i.toNat ++ (o.row.map rwD).drop (i.toNat + 1) := by
            rw [List.eraseIdx_eq_take_drop_succ]; simp
          have m3 : o.log.length < sizeLine := hL5' (by omega)
          have nq := hA.ne.2.1
          simp only [rwD] at k2
          have hm : P.m_own_done [.ref n, ddD (.lose i)] st = .ok .non ((st.set q (owB { o with row := o.row.eraseIdx i.toNat, log := o.log ++ [.lose k] })).set n (owO (st.length + 2) q o.given) ++ [.lst ((o.row.map rwD).take i.toNat), .lst ((o.row.map rwD).drop (i.toNat + 1)), owA { o with row := o.row.eraseIdx i.toNat, log := o.log ++ [.lose k] }]) := by
            rw [P.m_own_done]
            have mm : min i.toNat o.row.length + (o.row.length - (i.toNat + 1)) ≤ sizeLine := hL5 (by omega)
            have f1 : ∀ l x, (st.set n x ++ l)[n]? = some x := fun l x => by rw [getL (by simpa), List.getElem?_set_self pn]
            have f2 : ∀ l x, (st.set n x ++ l)[q]? = some (.lst (o.log.map evD)) := fun l x => by rw [getL (by simpa), List.getElem?_set_ne nq, hq]
            have f3 : ∀ l x y, (st.set n x ++ l).set q y = (st.set q y).set n x ++ l := fun l x y => by rw [setL (by simpa), List.set_comm _ _ nq]
            simp [P.b_own_done, ddD, losC, hn, hp, k2, c1, c2, getL pn, getL pp, getL pq, mm, setL pn, f1, f2, f3, m3, owB, owA, e, evD]
          rw [hm]
          have := Tell.move (st := st) (S := st.set q (owB { o with row := o.row.eraseIdx i.toNat, log := o.log ++ [.lose k] })) (n := n) (k := 2) (od := owO st.length q o.given) (od' := owO (st.length + 2) q o.given) (o := owA { o with row := o.row.eraseIdx i.toNat, log := o.log ++ [.lose k] }) (d := .non) (g := [.lst ((o.row.map rwD).take i.toNat), .lst ((o.row.map rwD).drop (i.toNat + 1)), owA { o with row := o.row.eraseIdx i.toNat, log := o.log ++ [.lose k] }])
            (by simp) (fun m p hm hp => by
              have := Ok.set (n := q) (o := owB { o with row := o.row.eraseIdx i.toNat, log := o.log ++ [.lose k] }) ok (owB_lt _ _)
              exact this m p hp) (by simpa) (owO_lt (by simp) (by simp; omega)) (by simp [owO, Ob.ren, D.ren]; omega) rfl (owA_lt _ _) rfl
          simpa [owMov] using this
      · exact .bad
    · exact .bad
  · exact .bad
theorem P.tell_is_gone : ∀ (st : Store) (ds : List D), st.Ok → D.ltAll st.length ds = true → Tell st (P.is_gone ds st) (P.m_is_gone ds st) := by
  intro st ds ok lt
  unfold P.is_gone
  split
  · rename_i m k
    split
    · rename_i l hl
      split
      · rename_i L hL
        have := allO_eq evOf_eq hL
        subst this
        split
        · rename_i hlen
          refine tell_eq ok rfl ?_
          rw [P.m_is_gone]
          simp [P.b_is_gone, hl]
          generalize hr : forK _ _ _ _ _ = r
          rcases forK_out hr L evD (fun pre e s => s = st ∧ (∃ x, e = [some (.ref m), some (.int k), x]) ∧ pre.any (goneE k) = false) (fun r => r = .rt (.bl true) st ∧ L.any (goneE k) = true)
            (fun pre e s ⟨h, _⟩ => by subst h; simp [hl]) (by have : fuel = 100000000 := rfl; omega) ⟨rfl, ⟨_, rfl⟩, rfl⟩
            (fun pre x post e s hL ⟨h1, ⟨y, h2⟩, h3⟩ => by
              subst h1; subst h2
              cases x with
              | send a b c => simp [evD, sendC, inSeq, flatD, eqF, goneE, h3]
              | full a b c =>
                by_cases h : a = k <;> simp [evD, fullC, inSeq, flatD, eqF, goneE, h3, h, hL]
              | double a b => simp [evD, dblC, inSeq, flatD, eqF, goneE, h3]
              | spoil a b => simp [evD, spoC, inSeq, flatD, eqF, goneE, h3]
              | carry a b c =>
                by_cases h : a = k <;> simp [evD, carC, inSeq, flatD, eqF, goneE, h3, h, hL]
              | lose a =>
                by_cases h : a = k <;> simp [evD, losC, inSeq, flatD, eqF, goneE, h3, h, hL]
              | turn a b => simp [evD, turC, inSeq, flatD, eqF, goneE, h3]) with ⟨e, s, rfl, rfl, _, h⟩ | ⟨rfl, h⟩
          · simp [h]
          · simp [h]
        · exact .bad
      · exact .bad
    · exact .bad
  · exact .bad
theorem P.tell_sent_text : ∀ (st : Store) (ds : List D), st.Ok → D.ltAll st.length ds = true → Tell st (P.sent_text ds st) (P.m_sent_text ds st) := by
  intro st ds ok lt
  unfold P.sent_text
  split
  · rename_i m k
    split
    · rename_i l hl
      split
      · rename_i L hL
        have := allO_eq evOf_eq hL
        subst this
        split
        · rename_i hlen
          split
          · rename_i r0 hr0
            refine tell_pure ok (by cases r0 <;> rfl) ?_
            rw [P.m_sent_text]
            have hlm : ∀ g, (st ++ g)[m]? = some (.lst (L.map evD)) := fun g => get_old hl
            simp [P.b_sent_text]
            simp [hlm]
            generalize hr : forK _ _ _ _ _ = r
            rcases forK_out hr L evD (fun pre e s => ∃ B x post, s = st ++ [.dic (dI D.str B)] ∧ e = [some (.ref m), some (.int k), some (.ref st.length), x] ∧ L = pre ++ post ∧ sentGo k post B = some r0 ∧ B.length ≤ pre.length)
              (fun r => ∃ g, r = .rt (optS r0) (st ++ g))
              (fun pre e s ⟨B, x, post, h, _⟩ => by subst h; simp [hlm]) (by have : fuel = 100000000 := rfl; omega) ⟨[], none, L, by simp, rfl, rfl, hr0, Nat.le_refl _⟩
              (fun pre x post e s hL ⟨B, y, post', h1, h2, h3, h4, h5⟩ => by
                subst h1; subst h2
                have : post' = x :: post := by rw [hL] at h3; exact (List.append_cancel_left h3).symm
                subst this
                have hpl : pre.length ≤ L.length := by rw [hL]; simp
                have hB : B.length < sizeLine := hL5' (by omega)
                unfold sentGo at h4
                have fin : ∀ B', sentStep B x = some B' → B'.length ≤ B.length + 1 → (lookI B' k = none ∧ sentGo k post B' = some r0) ∨ ∃ t, lookI B' k = some t ∧ r0 = some t := fun B' h hl => by
                  rw [h] at h4
                  simp only [Option.bind_some] at h4
                  cases q : lookI B' k with
                  | none => rw [q] at h4; exact .inl ⟨rfl, h4⟩
                  | some t => rw [q] at h4; cases h4; exact .inr ⟨t, rfl, rfl⟩
                cases x with
                | send a b c =>
                  rcases fin (putI B a c) rfl (putI_len ..) with ⟨q1, q2⟩ | ⟨t, q1, q2⟩
                  · simp [evD, sendC, putKD_dI, lookK_dI, q1, hB]
                    exact ⟨_, rfl, post, hL, q2, Nat.le_trans (putI_len ..) (by omega)⟩
                  · simp [evD, sendC, putKD_dI, lookK_dI, q1, hB, q2, optS]
                | full a b c =>
                  rcases fin (putI B a c) rfl (putI_len ..) with ⟨q1, q2⟩ | ⟨t, q1, q2⟩
                  · simp [evD, fullC, putKD_dI, lookK_dI, q1, hB]
                    exact ⟨_, rfl, post, hL, q2, Nat.le_trans (putI_len ..) (by omega)⟩
                  · simp [evD, fullC, putKD_dI, lookK_dI, q1, hB, q2, optS]
                | spoil a c =>
                  rcases fin (putI B a c) rfl (putI_len ..) with ⟨q1, q2⟩ | ⟨t, q1, q2⟩
                  · simp [evD, spoC, putKD_dI, lookK_dI, q1, hB]
                    exact ⟨_, rfl, post, hL, q2, Nat.le_trans (putI_len ..) (by omega)⟩
                  · simp [evD, spoC, putKD_dI, lookK_dI, q1, hB, q2, optS]
                | double a b =>
                  cases hz : lookI B a with
                  | none => simp [sentStep, hz] at h4
                  | some u =>
                    rcases fin (putI B b u) (by simp [sentStep, hz]) (putI_len ..) with ⟨q1, q2⟩ | ⟨t, q1, q2⟩
                    · simp [evD, dblC, putKD_dI, lookK_dI, hz, q1, hB]
                      exact ⟨_, rfl, post, hL, q2, Nat.le_trans (putI_len ..) (by omega)⟩
                    · simp [evD, dblC, putKD_dI, lookK_dI, hz, q1, hB, q2, optS]
                | carry a b c =>
                  rcases fin B rfl (by omega) with ⟨q1, q2⟩ | ⟨t, q1, q2⟩
                  · simp [evD, carC, lookK_dI, q1]
                    exact ⟨_, rfl, post, hL, q2, by omega⟩
                  · simp [evD, carC, lookK_dI, q1, q2, optS]
                | lose a =>
                  rcases fin B rfl (by omega) with ⟨q1, q2⟩ | ⟨t, q1, q2⟩
                  · simp [evD, losC, lookK_dI, q1]
                    exact ⟨_, rfl, post, hL, q2, by omega⟩
                  · simp [evD, losC, lookK_dI, q1, q2, optS]
                | turn a b =>
                  rcases fin B rfl (by omega) with ⟨q1, q2⟩ | ⟨t, q1, q2⟩
                  · simp [evD, turC, lookK_dI, q1]
                    exact ⟨_, rfl, post, hL, q2, by omega⟩
                  · simp [evD, turC, lookK_dI, q1, q2, optS]) with ⟨e, s, rfl, B, x, post, rfl, rfl, h3, h4, h5⟩ | ⟨g, rfl⟩
            · have : post = [] := by have := congrArg List.length h3; simp at this; exact this
              subst this
              cases h4
              simp [optS]
            · simp
          · exact .bad
        · exact .bad
      · exact .bad
    · exact .bad
  · exact .bad
end DL
/-! Pz: pieces, plainly. -/
namespace DL
open PySem L2
inductive Pce where
  | hello (a b : Int)
  | data (a b s i : Int) (t : List Nat)
  | fin (a b s i : Int)
  | ans (a b s c l : Int) (R : List (Int × Int))
def helC : List Nat := [104, 101, 108, 108, 111]
def datC : List Nat := [100, 97, 116, 97]
def endC : List Nat := [101, 110, 100]
def answC : List Nat := [97, 110, 115, 119, 101, 114]
def pceD : Pce → D
  | .hello a b => .tup [.str helC, .int a, .int b]
  | .data a b s i t => .tup [.str datC, .int a, .int b, .int s, .int i, .str t]
  | .fin a b s i => .tup [.str endC, .int a, .int b, .int s, .int i]
  | .ans a b s c l R => .tup [.str answC, .int a, .int b, .int s, .int c, .int l, rowL R]
def pceOf : D → Option Pce
  | .tup [.str k, .int a, .int b] => if k = helC then some (.hello a b) else none
  | .tup [.str k, .int a, .int b, .int s, .int i] => if k = endC then some (.fin a b s i) else none
  | .tup [.str k, .int a, .int b, .int s, .int i, .str t] => if k = datC then some (.data a b s i t) else none
  | .tup [.str k, .int a, .int b, .int s, .int c, .int l, d] => if k = answC then (rowOf d).map fun R => .ans a b s c l R else none
  | _ => none
@[simp] theorem pceOf_mk (p : Pce) : pceOf (pceD p) = some p := by
  cases p <;> simp [pceD, pceOf, helC, datC, endC, answC]
theorem pceOf_eq {d : D} {p : Pce} (h : pceOf d = some p) : d = pceD p := by
  unfold pceOf at h
  split at h
  · split at h
    · rename_i c; cases h; rw [c]; rfl
    · cases h
  · split at h
    · rename_i c; cases h; rw [c]; rfl
    · cases h
  · split at h
    · rename_i c; cases h; rw [c]; rfl
    · cases h
  · rename_i k a b s c l d
    split at h
    · rename_i hk
      cases z : rowOf d with
      | none => rw [z] at h; cases h
      | some R => rw [z] at h; cases h; rw [hk, rowOf_eq z]; rfl
    · cases h
  · cases h
def numIn (i lo hi : Int) : Bool := decide (lo ≤ i) && decide (i ≤ hi)
def numB (d : D) (lo hi : Int) : Bool := match d with
  | .int i => numIn i lo hi
  | _ => false
def spansB : Int → List D → Bool
  | _, [] => true
  | a, d :: l => match d with
    | .tup [.int x, .int y] => numIn x (a + 1) 1000000 && numIn y (x + 1) 1000000 && spansB y l
    | _ => false
def spansOk : Int → List (Int × Int) → Bool
  | _, [] => true
  | a, p :: l => numIn p.1 (a + 1) 1000000 && numIn p.2 (p.1 + 1) 1000000 && spansOk p.2 l
theorem spansB_row : ∀ (a : Int) (R : List (Int × Int)), spansB a (R.map spD) = spansOk a R
  | _, [] => rfl
  | a, p :: l => by simp only [List.map_cons, spansB, spansOk, spansB_row p.2 l]
theorem spansB_of : ∀ (a : Int) (l : List D), spansB a l = true → ∃ R, l = R.map spD ∧ spansOk a R = true
  | _, [], _ => ⟨[], rfl, rfl⟩
  | a, d :: l, h => by
    unfold spansB at h
    split at h
    · rename_i x y
      simp only [Bool.and_eq_true] at h
      obtain ⟨R, e, hR⟩ := spansB_of y l h.2
      exact ⟨(x, y) :: R, by rw [e]; rfl, by simp only [spansOk, Bool.and_eq_true]; exact ⟨h.1, hR⟩⟩
    · cases h
def lives (a b s : Int) : Bool := numIn a 1 1000000000 && numIn b 1 1000000000 && numIn s 0 999
def Pce.ok : Pce → Bool
  | .hello a b => numIn a 1 1000000000 && numIn b 0 1000000000
  | .data a b s i t => lives a b s && (t.all signB && decide (t.length ≤ 40) && numIn i 0 (1000000 - t.length))
  | .fin a b s i => lives a b s && numIn i 0 1000000
  | .ans a b s c l R => lives a b s && (numIn c 0 1000001 && numIn l 0 1000200 && decide (R.length ≤ 8) && spansOk c R)
def pieceE (v : D) (r : List D) : Bool := match r with
  | [] => numB v 0 1000000
  | _ => false
def pieceD (v : D) (r : List D) : Bool := match r with
  | [.str t] => t.all signB && decide (t.length ≤ 40) && numB v 0 (1000000 - t.length)
  | _ => false
def pieceA (v : D) (r : List D) : Bool := match v, r with
  | .int c, [w, .tup q] => numIn c 0 1000001 && numB w 0 1000200 && decide (q.length ≤ 8) && spansB c q
  | _, _ => false
def pieceT (k : List Nat) (v : D) (r : List D) : Bool :=
  if k = endC then pieceE v r else if k = datC then pieceD v r else if k = answC then pieceA v r else false
def pieceB (d : D) : Bool := match d with
  | .tup (.str k :: y :: z :: r) => if k = helC then (match r with | [] => numB y 1 1000000000 && numB z 0 1000000000 | _ => false) else (match r with
    | u :: v :: r => numB y 1 1000000000 && numB z 1 1000000000 && numB u 0 999 && pieceT k v r
    | _ => false)
  | _ => false
theorem numB_int {d : D} {lo hi : Int} (h : numB d lo hi = true) : ∃ i, d = .int i ∧ numIn i lo hi = true := by
  cases d <;> simp [numB] at h ⊢; exact h
theorem pieceB_mk (p : Pce) : pieceB (pceD p) = p.ok := by
  have h1 : ¬ datC = endC := by decide
  have h2 : ¬ answC = endC := by decide
  have h3 : ¬ answC = datC := by decide
  have h4 : ¬ endC = helC := by decide
  have h5 : ¬ datC = helC := by decide
  have h6 : ¬ answC = helC := by decide
  cases p <;> simp [pieceB, pceD, Pce.ok, pieceT, pieceE, pieceD, pieceA, h1, h2, h3, h4, h5, h6, numB, lives, spansB_row, rowL]
theorem pieceB_of {d : D} (h : pieceB d = true) : ∃ p, d = pceD p ∧ p.ok = true := by
  unfold pieceB at h
  split at h
  · rename_i k y z r
    split at h
    · rename_i hk; subst hk
      split at h
      · simp only [Bool.and_eq_true] at h
        obtain ⟨a, rfl, ha⟩ := numB_int h.1
        obtain ⟨b, rfl, hb⟩ := numB_int h.2
        exact ⟨.hello a b, rfl, by simp [Pce.ok, ha, hb]⟩
      · cases h
    · split at h
      · rename_i u v r
        simp only [Bool.and_eq_true] at h
        obtain ⟨⟨⟨h1, h2⟩, h3⟩, h4⟩ := h
        obtain ⟨a, rfl, ha⟩ := numB_int h1
        obtain ⟨b, rfl, hb⟩ := numB_int h2
        obtain ⟨s, rfl, hs⟩ := numB_int h3
        have hl : lives a b s = true := by simp [lives, ha, hb, hs]
        unfold pieceT at h4
        split at h4
        · rename_i hk; subst hk
          unfold pieceE at h4
          split at h4
          · obtain ⟨i, rfl, hi⟩ := numB_int h4
            exact ⟨.fin a b s i, rfl, by simp [Pce.ok, hl, hi]⟩
          · cases h4
        · split at h4
          · rename_i hk; subst hk
            unfold pieceD at h4
            split at h4
            · rename_i t
              simp only [Bool.and_eq_true] at h4
              obtain ⟨⟨q1, q2⟩, q3⟩ := h4
              obtain ⟨i, rfl, hi⟩ := numB_int q3
              exact ⟨.data a b s i t, rfl, by simp only [Pce.ok, Bool.and_eq_true]; exact ⟨hl, ⟨q1, q2⟩, hi⟩⟩
            · cases h4
          · split at h4
            · rename_i hk; subst hk
              unfold pieceA at h4
              split at h4
              · rename_i c w q
                simp only [Bool.and_eq_true] at h4
                obtain ⟨⟨⟨q1, q2⟩, q3⟩, q4⟩ := h4
                obtain ⟨l, rfl, hl2⟩ := numB_int q2
                obtain ⟨R, rfl, hR⟩ := spansB_of _ _ q4
                exact ⟨.ans a b s c l R, rfl, by simp only [Pce.ok, Bool.and_eq_true]; exact ⟨hl, ⟨⟨q1, hl2⟩, by simpa using q3⟩, hR⟩⟩
              · cases h4
            · cases h4
      · cases h
  · cases h
/-! texts -/
def spT (s : Int × Int) : List Nat := strI s.1 ++ [45] ++ strI s.2
def spansT (R : List (Int × Int)) : List Nat := if R = [] then [45] else TL.joinL [44] (R.map spT)
def dataT (t : List Nat) : List Nat := strI t.length ++ [58] ++ t
def wordsP : Pce → List (List Nat)
  | .hello a b => [helC, strI a, strI b]
  | .data a b s i t => [datC, strI a, strI b, strI s, strI i, dataT t]
  | .fin a b s i => [endC, strI a, strI b, strI s, strI i]
  | .ans a b s c l R => [answC, strI a, strI b, strI s, strI c, strI l, spansT R]
def bodyP (p : Pce) : List Nat := TL.joinL [32] (wordsP p)
def zf4 (s : List Nat) : List Nat := TL.tl (Txt.zfill (sOf s) 4)
def checkT (b : List Nat) : List Nat := b ++ [32] ++ zf4 (strI (chk b))
def textP (p : Pce) : List Nat := checkT (bodyP p)
theorem strI_ne (m : Nat) : strI (m : Int) ≠ [] := by
  rw [strI_nat]
  by_cases hm : m = 0
  · subst hm; decide
  · obtain ⟨c, l, e, _⟩ := lead_no m (by omega)
    rw [e]; simp
theorem strI_len (m : Nat) : ∀ k, m < 10 ^ (k + 1) → (strI (m : Int)).length ≤ k + 1 := by
  intro k
  rw [strI_nat, List.length_map]
  induction k generalizing m with
  | zero => intro h; rw [Nat.toDigits_of_lt_base (by simpa using h)]; simp
  | succ k ih =>
    intro h
    by_cases h10 : m < 10
    · rw [Nat.toDigits_of_lt_base h10]; simp
    · have hm : m % 10 < 10 := Nat.mod_lt m (by decide)
      have t : Nat.toDigits 10 (m / 10) ++ Nat.toDigits 10 (m % 10) = Nat.toDigits 10 (10 * (m / 10) + m % 10) := Nat.toDigits_append_toDigits (by decide) (by omega) hm
      rw [Nat.div_add_mod] at t
      rw [← t, List.length_append, Nat.toDigits_of_lt_base hm]
      have := ih (m / 10) (by rw [Nat.pow_succ] at h; omega)
      simp; omega
theorem dig_sign {s : List Nat} (h : s.all digB = true) : s.all signB = true := by
  rw [List.all_eq_true] at h ⊢
  intro c hc; have := h c hc; simp [digB, signB] at this ⊢; omega
theorem strI_no {n : Int} (h0 : 0 ≤ n) {c : Nat} (hc : c < 48 ∨ 57 < c) : c ∉ strI n := by
  obtain ⟨m, rfl⟩ := Int.eq_ofNat_of_zero_le h0
  intro h
  have := List.all_eq_true.mp (strI_digits m) c h
  simp [digB] at this; omega
theorem strI_signs {n : Int} (h0 : 0 ≤ n) : (strI n).all signB = true := by
  obtain ⟨m, rfl⟩ := Int.eq_ofNat_of_zero_le h0
  exact dig_sign (strI_digits m)
theorem zf4_eq {m : Nat} (h : m < 10000) : ∃ k, zf4 (strI (m : Int)) = List.replicate k 48 ++ strI (m : Int) ∧ k + (strI (m : Int)).length = 4 := by
  have hl := strI_len m 3 (by simpa using h)
  have hd := strI_digits m
  have hne := strI_ne m
  generalize strI (m : Int) = s at *
  unfold zf4 Txt.zfill
  rw [sOf_len]
  by_cases h4 : (4 : Int) ≤ (s.length : Int)
  · rw [if_pos h4]
    exact ⟨0, rfl, by omega⟩
  · rw [if_neg h4]
    refine ⟨4 - s.length, ?_, by omega⟩
    cases s with
    | nil => exact absurd rfl hne
    | cons c l =>
      have hc : digB c = true := List.all_eq_true.mp hd c (List.mem_cons_self ..)
      have hc' : 48 ≤ c ∧ c ≤ 57 := by simpa [digB] using hc
      have e : zfilled (sOf (c :: l)) ((4 : Int).toNat - (c :: l).length) = PySem.Builtin.Str.padded (sOf (c :: l)) ((4 : Int).toNat - (c :: l).length) 0 48 := by
        unfold zfilled
        split
        · rename_i q; simp [sOf] at q; omega
        · rename_i q; simp [sOf] at q; omega
        · rfl
      rw [e]
      simp [TL.tl, PySem.Builtin.Str.padded]
theorem chk_bd (s : List Nat) : 0 ≤ chk s ∧ chk s < 9973 := by
  unfold chk
  have : ∀ (s : List Nat) (f : Int), 0 ≤ f → f < 9973 → 0 ≤ s.foldl (fun (f : Int) (c : Nat) => (31 * f + (c : Int) - 32) % 9973) f ∧ s.foldl (fun (f : Int) (c : Nat) => (31 * f + (c : Int) - 32) % 9973) f < 9973 := fun s => by
    induction s with
    | nil => intro f h1 h2; exact ⟨h1, h2⟩
    | cons c s ih => intro f _ _; rw [List.foldl_cons]; exact ih _ (by omega) (by omega)
  exact this s 7 (by omega) (by omega)
theorem check_len (b : List Nat) : (checkT b).length = b.length + 5 := by
  obtain ⟨h0, h1⟩ := chk_bd b
  obtain ⟨m, hm⟩ := Int.eq_ofNat_of_zero_le h0
  obtain ⟨k, e, hk⟩ := zf4_eq (m := m) (by omega)
  unfold checkT
  rw [hm, e]
  simp; omega
theorem zf4_signs (b : List Nat) : (zf4 (strI (chk b))).all signB = true := by
  obtain ⟨h0, h1⟩ := chk_bd b
  obtain ⟨m, hm⟩ := Int.eq_ofNat_of_zero_le h0
  obtain ⟨k, e, hk⟩ := zf4_eq (m := m) (by omega)
  rw [hm, e, List.all_append, strI_signs (by omega), Bool.and_true, List.all_eq_true]
  intro c hc
  rw [(List.mem_replicate.mp hc).2]; decide
theorem check_signs {b : List Nat} (h : b.all signB = true) : (checkT b).all signB = true := by
  unfold checkT
  rw [List.all_append, List.all_append, h, zf4_signs]; decide
theorem zf4_inj {m n : Nat} (hm : m < 10000) (hn : n < 10000) (h : zf4 (strI (m : Int)) = zf4 (strI (n : Int))) : m = n := by
  have key : ∀ m : Nat, m < 10000 → PySem.NumText.digitsVal (zf4 (strI (m : Int))) = m := fun m hm => by
    obtain ⟨k, e, hk⟩ := zf4_eq hm
    rw [e, val_app]
    have z : ∀ k, PySem.NumText.digitsVal (List.replicate k 48) = 0 := fun k => by
      induction k with
      | zero => rfl
      | succ k ih => rw [List.replicate_succ', val_app, ih]; rfl
    rw [z]
    have : PySem.NumText.digitsVal (strI (m : Int)) = m := by rw [strI_nat]; exact PySem.W.KIN.val_back m
    exact this
  rw [← key m hm, ← key n hn, h]
/-! a text cut, and laid together -/
theorem spl_ne (c : Nat) : ∀ (s acc : List Nat), TL.spl [c] 0 acc s ≠ []
  | [], acc => by rw [TL.spl_nil]; simp
  | x :: r, acc => by
    by_cases h : x = c
    · subst h; rw [TL.spl_hit (by simp [TL.pre])]; simp
    · rw [TL.spl_miss (TL.pre_of_head [] r h)]; exact spl_ne c r _
theorem join_spl (c : Nat) : ∀ (s acc : List Nat), TL.joinL [c] (TL.spl [c] 0 acc s) = acc ++ s
  | [], acc => by rw [TL.spl_nil]; simp [TL.joinL]
  | x :: r, acc => by
    by_cases h : x = c
    · subst h
      rw [TL.spl_hit (by simp [TL.pre])]
      have := join_spl x r []
      simp only [List.length_singleton, Nat.sub_self]
      cases hs : TL.spl [x] 0 [] r with
      | nil => rw [hs] at this; exact absurd hs (spl_ne x r [])
      | cons p q => rw [hs] at this; simp only [TL.joinL, this]; simp
    · rw [TL.spl_miss (TL.pre_of_head [] r h), join_spl c r (acc ++ [x])]; simp
def splitL (c : Nat) (s : List Nat) : List (List Nat) := TL.spl [c] 0 [] s
theorem join_split (c : Nat) (s : List Nat) : TL.joinL [c] (splitL c s) = s := join_spl c s []
theorem split_cons {c : Nat} {w r : List Nat} (h : c ∉ w) : splitL c (w ++ (c :: r)) = w :: splitL c r := TL.spl_part1 (S := []) h
theorem split_one {c : Nat} {w : List Nat} (h : c ∉ w) : splitL c w = [w] := TL.spl_last1 (S := []) h
theorem split_ne (c : Nat) (s : List Nat) : splitL c s ≠ [] := spl_ne c s []
/-! reading -/
def spanOf (w : List Nat) : Option (Int × Int) := match splitL 45 w with
  | [a, b] => (numL a).bind fun x => (numL b).map fun y => (x, y)
  | _ => none
def spansOfT (w : List Nat) : Option (List (Int × Int)) := if w = [45] then some [] else (splitL 44 w).mapM spanOf
def dataOf (s : List Nat) : Option (List D) := match TL.par [58] [] s with
  | some (a, b) => if numL a = some (b.length : Int) then some [.str b] else none
  | none => if numL s = some 0 then some [.str []] else none
def lastOf (ws : List (List Nat)) : Option (List D) :=
  if ws.head? = some datC then dataOf (TL.joinL [32] (ws.drop 5))
  else if ws.head? = some answC ∧ ws.length = 7 then (match numL (ws.getD 5 []), spansOfT (ws.getD 6 []) with
    | some l, some R => some [.int l, rowL R]
    | _, _ => none)
  else if 5 < ws.length then none else some []
def partsOf (s : List Nat) : Option (List D) := match lastOf (splitL 32 s), ((splitL 32 s).drop 1 |>.take 4).mapM numL with
  | some last, some ns => some (.str ((splitL 32 s).headD []) :: ns.map .int ++ last)
  | _, _ => none
def readL (s : List Nat) : Option Pce := if s.all signB = true then (match partsOf (s.take (s.length - 5)) with
  | some l => (match pceOf (.tup l) with
    | some p => if p.ok = true ∧ textP p = s then some p else none
    | none => none)
  | none => none) else none
theorem strI_numL {n lo hi : Int} (h : numIn n lo hi = true) (h0 : 0 ≤ lo) (h1 : hi ≤ 1000000000000) : numL (strI n) = some n := by
  simp [numIn] at h
  exact numL_strI (by omega) (by omega)
theorem nn_of {n lo hi : Int} (h : numIn n lo hi = true) (h0 : 0 ≤ lo) : 0 ≤ n := by simp [numIn] at h; omega
theorem spanOf_spT {s : Int × Int} (h0 : 0 ≤ s.1) (h1 : 0 ≤ s.2) (h2 : s.1 ≤ 1000000000000) (h3 : s.2 ≤ 1000000000000) : spanOf (spT s) = some s := by
  unfold spanOf spT
  have e : strI s.1 ++ [45] ++ strI s.2 = strI s.1 ++ (45 :: strI s.2) := by simp
  rw [e, split_cons (strI_no h0 (by omega)), split_one (strI_no h1 (by omega))]
  simp [numL_strI h0 h2, numL_strI h1 h3]
theorem spT_no {s : Int × Int} (h0 : 0 ≤ s.1) (h1 : 0 ≤ s.2) {c : Nat} (hc : c < 45 ∨ c = 46 ∨ 57 < c) : c ∉ spT s := by
  unfold spT
  simp only [List.mem_append, List.mem_singleton]
  rintro ((h | h) | h)
  · exact strI_no h0 (by omega) h
  · omega
  · exact strI_no h1 (by omega) h
theorem spansOk_bd : ∀ {a : Int} {R : List (Int × Int)}, 0 ≤ a → spansOk a R = true → ∀ s ∈ R, 0 ≤ s.1 ∧ 0 ≤ s.2 ∧ s.1 ≤ 1000000 ∧ s.2 ≤ 1000000
  | _, [], _, _, s, hs => nomatch hs
  | a, p :: R, h0, h, s, hs => by
    simp only [spansOk, Bool.and_eq_true, numIn, decide_eq_true_eq] at h
    rcases List.mem_cons.mp hs with rfl | hs
    · omega
    · exact spansOk_bd (by omega) h.2 s hs
theorem join_no {c d : Nat} (hcd : c ≠ d) : ∀ {ws : List (List Nat)}, (∀ w ∈ ws, c ∉ w) → c ∉ TL.joinL [d] ws
  | [], _ => by simp [TL.joinL]
  | [w], h => by simpa [TL.joinL] using h
  | w :: v :: ws, h => by
    simp only [TL.joinL, List.mem_append, List.mem_singleton]
    rintro (q | q | q)
    · exact h w (by simp) q
    · exact hcd q
    · exact join_no hcd (fun w hw => h w (List.mem_cons_of_mem _ hw)) q
theorem spansT_no {R : List (Int × Int)} {a : Int} (h0 : 0 ≤ a) (h : spansOk a R = true) : 32 ∉ spansT R := by
  unfold spansT
  split
  · decide
  · refine join_no (by decide) fun w hw => ?_
    obtain ⟨s, hs, rfl⟩ := List.mem_map.mp hw
    obtain ⟨h1, h2, _⟩ := spansOk_bd h0 h s hs
    exact spT_no h1 h2 (by omega)
theorem mapM_map_some {α β : Type} {f : β → Option α} {g : α → β} : ∀ {l : List α}, (∀ a ∈ l, f (g a) = some a) → (l.map g).mapM f = some l
  | [], _ => rfl
  | a :: l, h => by
    rw [List.map_cons, List.mapM_cons, h a (List.mem_cons_self ..), mapM_map_some fun a ha => h a (List.mem_cons_of_mem _ ha)]; rfl
theorem spansOfT_T {R : List (Int × Int)} {a : Int} (h0 : 0 ≤ a) (h : spansOk a R = true) : spansOfT (spansT R) = some R := by
  unfold spansT
  have hb := spansOk_bd h0 h
  by_cases hR : R = []
  · subst hR; rfl
  · rw [if_neg hR]
    have hw : ∀ w ∈ R.map spT, 44 ∉ w := fun w hw => by
      obtain ⟨s, hs, rfl⟩ := List.mem_map.mp hw
      obtain ⟨h1, h2, _⟩ := hb s hs
      exact spT_no h1 h2 (by omega)
    have hn : TL.joinL [44] (R.map spT) ≠ [45] := by
      cases R with
      | nil => exact absurd rfl hR
      | cons s R =>
        obtain ⟨h1, _⟩ := hb s (List.mem_cons_self ..)
        obtain ⟨m, hm⟩ := Int.eq_ofNat_of_zero_le h1
        have hne := strI_ne m
        rw [← hm] at hne
        have hno : 45 ∉ strI s.1 := strI_no h1 (by omega)
        intro e
        have : ∃ t, TL.joinL [44] ((s :: R).map spT) = strI s.1 ++ t := by
          cases R with
          | nil => exact ⟨[45] ++ strI s.2, by simp [TL.joinL, spT]⟩
          | cons q R => exact ⟨[45] ++ strI s.2 ++ ([44] ++ TL.joinL [44] ((q :: R).map spT)), by simp [TL.joinL, spT]⟩
        obtain ⟨t, ht⟩ := this
        rw [ht] at e
        cases hs : strI s.1 with
        | nil => exact hne hs
        | cons c l => rw [hs] at e hno; simp at e; rw [e.1] at hno; simp at hno
    unfold spansOfT
    rw [if_neg hn]
    have : splitL 44 (TL.joinL [44] (R.map spT)) = R.map spT := TL.spl_join (by simpa using hR) hw
    rw [this]
    exact mapM_map_some fun s hs => by
      obtain ⟨h1, h2, h3, h4⟩ := hb s hs
      exact spanOf_spT h1 h2 (by omega) (by omega)
theorem par_data (t : List Nat) : TL.par [58] [] (dataT t) = some (strI t.length, t) := by
  have e : dataT t = strI t.length ++ ([58] ++ t) := by simp [dataT]
  rw [e]
  have := TL.par_part1 (s := 58) (S := []) (p := strI (t.length : Int)) (rest := t) (acc := []) (strI_no (by omega) (by omega))
  simpa using this
theorem body_cut (p : Pce) : (textP p).take ((textP p).length - 5) = bodyP p := by
  unfold textP
  rw [check_len]
  simp [checkT]
theorem partsOf_body {p : Pce} (h : p.ok = true) : ∃ l, partsOf (bodyP p) = some l ∧ .tup l = pceD p := by
  have hel : 32 ∉ helC := by decide
  have dat : 32 ∉ datC := by decide
  have en : 32 ∉ endC := by decide
  have an : 32 ∉ answC := by decide
  cases p with
  | hello a b =>
    simp only [Pce.ok, Bool.and_eq_true] at h
    have sp : splitL 32 (bodyP (.hello a b)) = [helC, strI a, strI b] := TL.spl_join (by simp [wordsP]) fun w hw => by
      simp [wordsP] at hw
      rcases hw with rfl | rfl | rfl
      · exact hel
      · exact strI_no (nn_of h.1 (by omega)) (by omega)
      · exact strI_no (nn_of h.2 (by omega)) (by omega)
    unfold partsOf
    rw [sp]
    simp [lastOf, helC, datC, answC, strI_numL h.1, strI_numL h.2, pceD]
  | fin a b s i =>
    simp only [Pce.ok, lives, Bool.and_eq_true] at h
    obtain ⟨⟨⟨h1, h2⟩, h3⟩, h4⟩ := h
    have sp : splitL 32 (bodyP (.fin a b s i)) = [endC, strI a, strI b, strI s, strI i] := TL.spl_join (by simp [wordsP]) fun w hw => by
      simp [wordsP] at hw
      rcases hw with rfl | rfl | rfl | rfl | rfl
      · exact en
      · exact strI_no (nn_of h1 (by omega)) (by omega)
      · exact strI_no (nn_of h2 (by omega)) (by omega)
      · exact strI_no (nn_of h3 (by omega)) (by omega)
      · exact strI_no (nn_of h4 (by omega)) (by omega)
    unfold partsOf
    rw [sp]
    simp [lastOf, endC, datC, answC, strI_numL h1, strI_numL h2, strI_numL h3, strI_numL h4, pceD]
  | data a b s i t =>
    simp only [Pce.ok, lives, Bool.and_eq_true] at h
    obtain ⟨⟨⟨h1, h2⟩, h3⟩, ⟨h4, h5⟩, h6⟩ := h
    have sp : splitL 32 (bodyP (.data a b s i t)) = datC :: strI a :: strI b :: strI s :: strI i :: splitL 32 (dataT t) := by
      have e : bodyP (.data a b s i t) = datC ++ (32 :: (strI a ++ (32 :: (strI b ++ (32 :: (strI s ++ (32 :: (strI i ++ (32 :: dataT t))))))))) := by
        simp [bodyP, wordsP, TL.joinL]
      rw [e, split_cons dat, split_cons (strI_no (nn_of h1 (by omega)) (by omega)), split_cons (strI_no (nn_of h2 (by omega)) (by omega)), split_cons (strI_no (nn_of h3 (by omega)) (by omega)), split_cons (strI_no (nn_of h6 (by omega)) (by omega))]
    unfold partsOf
    rw [sp]
    have ht : t.length ≤ 40 := by simpa using h5
    have hn : numL (strI (t.length : Int)) = some (t.length : Int) := numL_strI (by omega) (by omega)
    simp [lastOf, join_split, dataOf, par_data, hn, strI_numL h1, strI_numL h2, strI_numL h3, strI_numL h6 (by omega) (by omega), pceD]
  | ans a b s c l R =>
    simp only [Pce.ok, lives, Bool.and_eq_true] at h
    obtain ⟨⟨⟨h1, h2⟩, h3⟩, ⟨⟨h4, h5⟩, h6⟩, h7⟩ := h
    have h0 : 0 ≤ c := nn_of h4 (by omega)
    have sp : splitL 32 (bodyP (.ans a b s c l R)) = [answC, strI a, strI b, strI s, strI c, strI l, spansT R] := TL.spl_join (by simp [wordsP]) fun w hw => by
      simp [wordsP] at hw
      rcases hw with rfl | rfl | rfl | rfl | rfl | rfl | rfl
      · exact an
      · exact strI_no (nn_of h1 (by omega)) (by omega)
      · exact strI_no (nn_of h2 (by omega)) (by omega)
      · exact strI_no (nn_of h3 (by omega)) (by omega)
      · exact strI_no (nn_of h4 (by omega)) (by omega)
      · exact strI_no (nn_of h5 (by omega)) (by omega)
      · exact spansT_no h0 h7
    unfold partsOf
    rw [sp]
    simp [lastOf, answC, datC, spansOfT_T h0 h7, strI_numL h1, strI_numL h2, strI_numL h3, strI_numL h4, strI_numL h5, pceD]
theorem spansT_signs {R : List (Int × Int)} {a : Int} (h0 : 0 ≤ a) (h : spansOk a R = true) : (spansT R).all signB = true := by
  have hj : ∀ ws : List (List Nat), (∀ w ∈ ws, w.all signB = true) → (TL.joinL [44] ws).all signB = true := fun ws => by
    induction ws with
    | nil => intro _; rfl
    | cons w ws ih =>
      intro h
      have h1 := h w (by simp)
      have h2 := ih fun w hw => h w (List.mem_cons_of_mem _ hw)
      cases ws with
      | nil => simpa [TL.joinL] using h1
      | cons v ws => simp only [TL.joinL, List.all_append, h1, h2]; decide
  unfold spansT
  split
  · decide
  · refine hj _ fun w hw => ?_
    obtain ⟨s, hs, rfl⟩ := List.mem_map.mp hw
    obtain ⟨h1, h2, _⟩ := spansOk_bd h0 h s hs
    simp only [spT, List.all_append, strI_signs h1, strI_signs h2]; decide
theorem body_signs {p : Pce} (h : p.ok = true) : (bodyP p).all signB = true := by
  have hel : helC.all signB = true := by decide
  have dat : datC.all signB = true := by decide
  have en : endC.all signB = true := by decide
  have an : answC.all signB = true := by decide
  have bl : signB 32 = true := by decide
  have co : signB 58 = true := by decide
  cases p with
  | hello a b =>
    simp only [Pce.ok, Bool.and_eq_true] at h
    simp only [bodyP, wordsP, TL.joinL, List.all_append, List.all_cons, List.all_nil, hel, bl, strI_signs (nn_of h.1 (by omega)), strI_signs (nn_of h.2 (by omega))]; rfl
  | fin a b s i =>
    simp only [Pce.ok, lives, Bool.and_eq_true] at h
    obtain ⟨⟨⟨h1, h2⟩, h3⟩, h4⟩ := h
    simp only [bodyP, wordsP, TL.joinL, List.all_append, List.all_cons, List.all_nil, en, bl, strI_signs (nn_of h1 (by omega)), strI_signs (nn_of h2 (by omega)), strI_signs (nn_of h3 (by omega)), strI_signs (nn_of h4 (by omega))]; rfl
  | data a b s i t =>
    simp only [Pce.ok, lives, Bool.and_eq_true] at h
    obtain ⟨⟨⟨h1, h2⟩, h3⟩, ⟨h4, h5⟩, h6⟩ := h
    simp only [bodyP, wordsP, dataT, TL.joinL, List.all_append, List.all_cons, List.all_nil, dat, bl, co, h4, strI_signs (nn_of h1 (by omega)), strI_signs (nn_of h2 (by omega)), strI_signs (nn_of h3 (by omega)), strI_signs (nn_of h6 (by omega)), strI_signs (show (0 : Int) ≤ (t.length : Int) by omega)]; rfl
  | ans a b s c l R =>
    simp only [Pce.ok, lives, Bool.and_eq_true] at h
    obtain ⟨⟨⟨h1, h2⟩, h3⟩, ⟨⟨h4, h5⟩, h6⟩, h7⟩ := h
    simp only [bodyP, wordsP, TL.joinL, List.all_append, List.all_cons, List.all_nil, an, bl, strI_signs (nn_of h1 (by omega)), strI_signs (nn_of h2 (by omega)), strI_signs (nn_of h3 (by omega)), strI_signs (nn_of h4 (by omega)), strI_signs (nn_of h5 (by omega)), spansT_signs (nn_of h4 (by omega)) h7]; rfl
theorem text_signs {p : Pce} (h : p.ok = true) : (textP p).all signB = true := check_signs (body_signs h)
/-- reading what was written -/
theorem read_text {p : Pce} (h : p.ok = true) : readL (textP p) = some p := by
  obtain ⟨l, e1, e2⟩ := partsOf_body h
  unfold readL
  rw [if_pos (text_signs h), body_cut, e1]
  simp only [e2, pceOf_mk, h]
  simp
theorem read_some {s : List Nat} {p : Pce} (h : readL s = some p) : p.ok = true ∧ textP p = s := by
  unfold readL at h
  split at h
  · split at h
    · split at h
      · split at h
        · cases h; assumption
        · cases h
      · cases h
    · cases h
  · cases h
theorem read_iff {s : List Nat} {p : Pce} : readL s = some p ↔ p.ok = true ∧ textP p = s := ⟨read_some, fun ⟨h1, h2⟩ => h2 ▸ read_text h1⟩
theorem text_inj {p q : Pce} (hp : p.ok = true) (hq : q.ok = true) (h : textP p = textP q) : p = q := by
  have := read_text hp
  rw [h, read_text hq] at this
  cases this; rfl
end DL
/-! Pza: what is a piece. -/
namespace DL
open PySem L2
mutual
def D.typ (st : Store) : D → Bool
  | .ref n => (tyD st (.ref n)).isSome
  | .str s => decide (s.length ≤ 100000)
  | .tup l => decide (l.length ≤ 100000) && D.typs st l
  | .non => true
  | .bl _ => true
  | .int _ => true
def D.typs (st : Store) : List D → Bool
  | [] => true
  | d :: l => D.typ st d && D.typs st l
end
theorem ref_typ {st : Store} {n : Nat} (h : D.typ st (.ref n) = true) : ∃ o T, st[n]? = some o ∧ o.ty = some T ∧ (T = "list" ∨ T = "dict") := by
  simp only [D.typ, ty_at] at h
  cases z : st[n]? with
  | none => rw [z] at h; cases h
  | some o =>
    rw [z] at h
    cases o <;> simp at h
    · exact ⟨_, _, rfl, rfl, .inl rfl⟩
    · exact ⟨_, _, rfl, rfl, .inl rfl⟩
    · exact ⟨_, _, rfl, rfl, .inr rfl⟩
    · exact ⟨_, _, rfl, rfl, .inr rfl⟩
theorem typ_ty {st : Store} {d : D} (h : D.typ st d = true) : ∃ T, tyD st d = some T := by
  cases d with
  | ref n => obtain ⟨o, T, h1, h2, _⟩ := ref_typ h; exact ⟨T, by simp [h1, h2]⟩
  | _ => exact ⟨_, rfl⟩
theorem typs_mem {st : Store} : ∀ {l : List D}, D.typs st l = true → ∀ d ∈ l, D.typ st d = true
  | [], _, d, h => nomatch h
  | a :: l, h, d, hd => by
    simp only [D.typs, Bool.and_eq_true] at h
    rcases List.mem_cons.mp hd with rfl | hd
    · exact h.1
    · exact typs_mem h.2 d hd
def P.is_number : FM := fun ds st => match ds with
  | [d, .int lo, .int hi] => match tyD st d with
    | some _ => .ok (.bl (numB d lo hi)) st
    | none => .bad
  | _ => .bad
def rowB (d : D) (c : Int) : Bool := match d with
  | .tup l => decide (l.length ≤ 8) && spansB c l
  | _ => false
def P.are_spans : FM := fun ds st => match ds with
  | [d, .int c] => if D.typ st d = true then .ok (.bl (rowB d c)) st else .bad
  | _ => .bad
def P.is_of_stream : FM := fun ds st => match ds with
  | [.tup (k :: y :: z :: u :: r)] => if D.typs st (k :: y :: z :: u :: r) = true then .ok (.bl (numB y 1 1000000000 && numB z 1 1000000000 && numB u 0 999)) st else .bad
  | _ => .bad
def P.is_piece : FM := fun ds st => match ds with
  | [d] => if D.typ st d = true then .ok (.bl (pieceB d)) st else .bad
  | _ => .bad
def P.b_is_number : SM := (sRet (eAnd (eIsi "int" (eVar 0)) (eAnd (eNot (eIsi "bool" (eVar 0))) (eChain oLe oLe (eVar 1) (eVar 0) (eVar 2)))))
def P.m_is_number : FM := fnM 3 3 P.b_is_number

def P.b_are_spans : SM := (sSeq (sIf (tOrD (tNotD (tB (eIsi "tuple" (eVar 0)))) (tB (e2 oGt (e1 oLen (eCons (eVar 0) eNil)) (eC (.int 8)))))
    (sRet (eC (.bl false)))
    sSkip)
    (sSeq (sSet 2 (eVar 1))
    (sSeq (sFor (iSeq (eVar 0)) (tName 3)
    (sSeq (sIf (tOrD (tNotD (tB (eIsi "tuple" (eVar 3)))) (tOrD (tB (e2 oNe (e1 oLen (eCons (eVar 3) eNil)) (eC (.int 2)))) (tNotD (tTru (eCall DL.P.is_number (eCons (e2 oIx (eVar 3) (eC (.int 0))) (eCons (e2 oAdd (eVar 2) (eC (.int 1))) (eCons (eC (.int 1000000)) eNil))))))))
    (sRet (eC (.bl false)))
    sSkip)
    (sSeq (sIf (tNotD (tTru (eCall DL.P.is_number (eCons (e2 oIx (eVar 3) (eC (.int 1))) (eCons (e2 oAdd (e2 oIx (eVar 3) (eC (.int 0))) (eC (.int 1))) (eCons (eC (.int 1000000)) eNil))))))
    (sRet (eC (.bl false)))
    sSkip)
    (sSet 2 (e2 oIx (eVar 3) (eC (.int 1)))))))
    (sRet (eC (.bl true))))))
def P.m_are_spans : FM := fnM 2 4 P.b_are_spans

def P.b_is_of_stream : SM := (sSeq (sFor (iSeq (eTup (eCons (eC (.int 1)) (eCons (eC (.int 2)) eNil)))) (tName 1)
    (sIf (tNotD (tTru (eCall DL.P.is_number (eCons (e2 oIx (eVar 0) (eVar 1)) (eCons (eC (.int 1)) (eCons (eC (.int 1000000000)) eNil))))))
    (sRet (eC (.bl false)))
    sSkip))
    (sRet (eCall DL.P.is_number (eCons (e2 oIx (eVar 0) (eC (.int 3))) (eCons (eC (.int 0)) (eCons (eC (.int 999)) eNil))))))
def P.m_is_of_stream : FM := fnM 1 2 P.b_is_of_stream

def P.b_is_piece : SM := (sSeq (sIf (tOrD (tNotD (tB (eIsi "tuple" (eVar 0)))) (tOrD (tB (e2 oLt (e1 oLen (eCons (eVar 0) eNil)) (eC (.int 3)))) (tNotD (tB (eIsi "str" (e2 oIx (eVar 0) (eC (.int 0))))))))
    (sRet (eC (.bl false)))
    sSkip)
    (sSeq (sSet 1 (e2 oIx (eVar 0) (eC (.int 0))))
    (sSeq (sIf (tB (e2 oEq (eVar 1) (eC (.str [104, 101, 108, 108, 111]))))
    (sRet (eAnd (e2 oEq (e1 oLen (eCons (eVar 0) eNil)) (eC (.int 3))) (eAnd (eCall DL.P.is_number (eCons (e2 oIx (eVar 0) (eC (.int 1))) (eCons (eC (.int 1)) (eCons (eC (.int 1000000000)) eNil)))) (eCall DL.P.is_number (eCons (e2 oIx (eVar 0) (eC (.int 2))) (eCons (eC (.int 0)) (eCons (eC (.int 1000000000)) eNil)))))))
    sSkip)
    (sSeq (sIf (tOrD (tB (e2 oLt (e1 oLen (eCons (eVar 0) eNil)) (eC (.int 5)))) (tNotD (tTru (eCall DL.P.is_of_stream (eCons (eVar 0) eNil)))))
    (sRet (eC (.bl false)))
    sSkip)
    (sSeq (sIf (tB (e2 oEq (eVar 1) (eC (.str [101, 110, 100]))))
    (sRet (eAnd (e2 oEq (e1 oLen (eCons (eVar 0) eNil)) (eC (.int 5))) (eCall DL.P.is_number (eCons (e2 oIx (eVar 0) (eC (.int 4))) (eCons (eC (.int 0)) (eCons (eC (.int 1000000)) eNil))))))
    sSkip)
    (sSeq (sIf (tB (e2 oEq (eVar 1) (eC (.str [100, 97, 116, 97]))))
    (sSeq (sIf (tOrD (tB (e2 oNe (e1 oLen (eCons (eVar 0) eNil)) (eC (.int 6)))) (tOrD (tNotD (tTru (eCall DL.P.is_signs (eCons (e2 oIx (eVar 0) (eC (.int 5))) eNil)))) (tB (e2 oGt (e1 oLen (eCons (e2 oIx (eVar 0) (eC (.int 5))) eNil)) (eC (.int 40))))))
    (sRet (eC (.bl false)))
    sSkip)
    (sRet (eCall DL.P.is_number (eCons (e2 oIx (eVar 0) (eC (.int 4))) (eCons (eC (.int 0)) (eCons (e2 oSub (eC (.int 1000000)) (e1 oLen (eCons (e2 oIx (eVar 0) (eC (.int 5))) eNil))) eNil))))))
    sSkip)
    (sSeq (sIf (tOrD (tB (e2 oNe (eVar 1) (eC (.str [97, 110, 115, 119, 101, 114])))) (tOrD (tB (e2 oNe (e1 oLen (eCons (eVar 0) eNil)) (eC (.int 7)))) (tNotD (tTru (eCall DL.P.is_number (eCons (e2 oIx (eVar 0) (eC (.int 4))) (eCons (eC (.int 0)) (eCons (e2 oAdd (eC (.int 1000000)) (eC (.int 1))) eNil))))))))
    (sRet (eC (.bl false)))
    sSkip)
    (sRet (eAnd (eCall DL.P.is_number (eCons (e2 oIx (eVar 0) (eC (.int 5))) (eCons (eC (.int 0)) (eCons (e2 oAdd (eC (.int 1000000)) (eC (.int 200))) eNil)))) (eCall DL.P.are_spans (eCons (e2 oIx (eVar 0) (eC (.int 6))) (eCons (e2 oIx (eVar 0) (eC (.int 4))) eNil))))))))))))
def P.m_is_piece : FM := fnM 1 2 P.b_is_piece

theorem P.tell_is_number : ∀ (st : Store) (ds : List D), st.Ok → D.ltAll st.length ds = true → Tell st (P.is_number ds st) (P.m_is_number ds st) := by
  intro st ds ok lt
  unfold P.is_number
  split
  · rename_i d lo hi
    cases h : tyD st d with
    | none => exact .bad
    | some T =>
      refine tell_eq ok rfl ?_
      rw [P.m_is_number]
      cases d with
      | int i => by_cases c : lo ≤ i <;> simp [P.b_is_number, numB, numIn, c]
      | ref n =>
        have h' := h
        simp only [ty_at] at h'
        obtain ⟨o, h1, h2⟩ := Option.bind_eq_some_iff.mp h'
        have : kitB T "int" = some false := by cases o <;> simp at h2 <;> subst h2 <;> rfl
        simp [P.b_is_number, numB, h1, h2, this]
      | _ => simp [P.b_is_number, numB]
  · exact .bad
theorem P.is_number_eq {st : Store} {d : D} {lo hi : Int} (h : D.typ st d = true) : P.is_number [d, .int lo, .int hi] st = .ok (.bl (numB d lo hi)) st := by
  obtain ⟨T, e⟩ := typ_ty h
  simp only [P.is_number, e]
theorem P.tell_is_of_stream : ∀ (st : Store) (ds : List D), st.Ok → D.ltAll st.length ds = true → Tell st (P.is_of_stream ds st) (P.m_is_of_stream ds st) := by
  intro st ds ok lt
  unfold P.is_of_stream
  split
  · rename_i k y z u r
    split
    · rename_i h
      simp only [D.typs, Bool.and_eq_true] at h
      refine tell_eq ok rfl ?_
      rw [P.m_is_of_stream]
      have a1 : ∀ st' : Store, atI (k :: y :: z :: u :: r) 1 = some y := fun _ => by rw [atI_pos (by omega)]; rfl
      have a2 : ∀ st' : Store, atI (k :: y :: z :: u :: r) 2 = some z := fun _ => by rw [atI_pos (by omega)]; rfl
      have a3 : ∀ st' : Store, atI (k :: y :: z :: u :: r) 3 = some u := fun _ => by rw [atI_pos (by omega)]; rfl
      cases q1 : numB y 1 1000000000 <;> cases q2 : numB z 1 1000000000 <;> simp [P.b_is_of_stream, forK_fix, forFix, tName, a1 st, a2 st, a3 st, P.is_number_eq h.2.1, P.is_number_eq h.2.2.1, P.is_number_eq h.2.2.2.1, truD, q1, q2]
    · exact .bad
  · exact .bad
theorem P.tell_are_spans : ∀ (st : Store) (ds : List D), st.Ok → D.ltAll st.length ds = true → Tell st (P.are_spans ds st) (P.m_are_spans ds st) := by
  intro st ds ok lt
  unfold P.are_spans
  split
  · rename_i d c
    split
    · rename_i h
      refine tell_eq ok rfl ?_
      rw [P.m_are_spans]
      cases d with
      | ref n =>
        obtain ⟨o, T, h1, h2, h3 | h3⟩ := ref_typ h <;> subst h3 <;> simp [P.b_are_spans, rowB, h1, h2]
      | tup l =>
        simp only [D.typ, Bool.and_eq_true] at h
        have hty := typs_mem h.2
        by_cases h8 : l.length ≤ 8
        · have h8' : ¬ (8 : Int) < (l.length : Int) := by omega
          simp [P.b_are_spans, rowB, h8, h8']
          generalize hr : forK _ _ _ _ _ = r
          rcases forK_out hr l id (fun pre e s => s = st ∧ (∃ a x, e = [some (.tup l), some (.int c), some (.int a), x] ∧ ∀ post, spansB c (pre ++ post) = spansB a post)) (fun r => r = .rt (.bl false) st ∧ spansB c l = false)
            (fun _ _ _ _ => by simp) (by simp [fuel]; omega) ⟨rfl, c, none, rfl, fun _ => rfl⟩
            (fun pre x post e s hL ⟨h1, a, y, h2, h3⟩ => by
              subst h1; subst h2
              have hx := hty x (by rw [hL]; simp)
              have hq := h3 (x :: post)
              rw [← hL] at hq
              have key : ∀ (x : D), (∀ p q, x ≠ .tup [.int p, .int q]) → spansB a (x :: post) = false := fun x hx => by
                unfold spansB
                split
                · rename_i p q; exact absurd rfl (hx p q)
                · rfl
              cases x with
              | ref n =>
                rw [key _ (fun _ _ z => by cases z)] at hq
                obtain ⟨o, T, h1, h2, h3 | h3⟩ := ref_typ hx <;> subst h3 <;> simp [h1, h2, hq]
              | tup m =>
                simp only [D.typ, Bool.and_eq_true] at hx
                match m, hx with
                | [], _ => rw [key _ (fun _ _ z => by cases z)] at hq; simp [hq]
                | [p], _ => rw [key _ (fun _ _ z => by cases z)] at hq; simp [hq]
                | [p, q], hx =>
                  simp only [D.typs, Bool.and_eq_true] at hx
                  have a0 : atI [p, q] 0 = some p := rfl
                  have a1 : atI [p, q] 1 = some q := rfl
                  cases c1 : numB p (a + 1) 1000000 with
                  | false =>
                    have : spansB a (.tup [p, q] :: post) = false := by
                      unfold spansB
                      split
                      · rename_i i j e; cases e; simp only [numB] at c1; rw [c1]; rfl
                      · rfl
                    rw [this] at hq
                    simp [a0, P.is_number_eq hx.2.1, c1, truD, hq]
                  | true =>
                    obtain ⟨i, rfl, hi⟩ := numB_int c1
                    cases c2 : numB q (i + 1) 1000000 with
                    | false =>
                      have : spansB a (.tup [.int i, q] :: post) = false := by
                        unfold spansB
                        split
                        · rename_i i j e; cases e; simp only [numB] at c2; rw [c2]; simp
                        · rfl
                      rw [this] at hq
                      simp [a0, a1, P.is_number_eq hx.2.1, P.is_number_eq hx.2.2.1, c1, c2, truD, hq]
                    | true =>
                      obtain ⟨j, rfl, hj⟩ := numB_int c2
                      simp [a0, a1, P.is_number_eq hx.2.1, P.is_number_eq hx.2.2.1, c1, c2, truD]
                      refine fun post => ?_
                      rw [h3]
                      simp [spansB, hi, hj]
                | p :: q :: w :: m, _ =>
                  rw [key _ (fun _ _ z => by cases z)] at hq
                  have : ¬ ((m.length : Int) + 1 + 1 + 1 = 2) := by omega
                  simp [hq, this]
              | _ => rw [key _ (fun _ _ z => by cases z)] at hq; simp [hq]) with ⟨e, s, rfl, rfl, a, x, rfl, h3⟩ | ⟨rfl, hb⟩
          · have := h3 []
            rw [List.append_nil] at this
            simp [this, spansB]
          · simp [hb]
        · have h8' : (8 : Int) < (l.length : Int) := by omega
          simp [P.b_are_spans, rowB, h8, h8']
      | _ => simp [P.b_are_spans, rowB]
    · exact .bad
  · exact .bad
theorem at0 {α : Type} (x : α) (l : List α) : atI (x :: l) 0 = some x := by rw [atI_pos (by omega)]; rfl
theorem at1 {α : Type} (x y : α) (l : List α) : atI (x :: y :: l) 1 = some y := by rw [atI_pos (by omega)]; rfl
theorem at2 {α : Type} (x y z : α) (l : List α) : atI (x :: y :: z :: l) 2 = some z := by rw [atI_pos (by omega)]; rfl
theorem at3 {α : Type} (x y z u : α) (l : List α) : atI (x :: y :: z :: u :: l) 3 = some u := by rw [atI_pos (by omega)]; rfl
theorem at4 {α : Type} (x y z u v : α) (l : List α) : atI (x :: y :: z :: u :: v :: l) 4 = some v := by rw [atI_pos (by omega)]; rfl
theorem at5 {α : Type} (x y z u v w : α) (l : List α) : atI (x :: y :: z :: u :: v :: w :: l) 5 = some w := by rw [atI_pos (by omega)]; rfl
theorem at6 {α : Type} (x y z u v w a : α) (l : List α) : atI (x :: y :: z :: u :: v :: w :: a :: l) 6 = some a := by rw [atI_pos (by omega)]; rfl
theorem P.tell_is_piece : ∀ (st : Store) (ds : List D), st.Ok → D.ltAll st.length ds = true → Tell st (P.is_piece ds st) (P.m_is_piece ds st) := by
  intro st ds ok lt
  unfold P.is_piece
  split
  · rename_i d
    split
    · rename_i h
      refine tell_eq ok rfl ?_
      rw [P.m_is_piece]
      cases d with
      | ref n => obtain ⟨o, T, h1, h2, h3 | h3⟩ := ref_typ h <;> subst h3 <;> simp [P.b_is_piece, pieceB, h1, h2]
      | tup l =>
        simp only [D.typ, Bool.and_eq_true] at h
        obtain ⟨_, h⟩ := h
        match l, h with
        | [], _ => simp [P.b_is_piece, pieceB]
        | [x], _ => simp [P.b_is_piece, pieceB]
        | [x, y], _ => simp [P.b_is_piece, pieceB]
        | x :: y :: z :: r, h =>
          have hty := typs_mem h
          have t1 := hty y (by simp)
          have t2 := hty z (by simp)
          have l3 : ¬ ((r.length : Int) + 1 + 1 + 1 < 3) := by omega
          cases x with
          | str k =>
            by_cases hk : k = helC
            · subst hk
              cases r with
              | nil => cases q : numB y 1 1000000000 <;> simp [P.b_is_piece, pieceB, helC, at0, at1, at2, P.is_number_eq t1, P.is_number_eq t2, q]
              | cons u r =>
                have : ¬ ((r.length : Int) + 1 + 1 + 1 + 1 = 3) := by omega
                have l4 : ¬ ((r.length : Int) + 1 + 1 + 1 + 1 < 3) := by omega
                simp [P.b_is_piece, pieceB, helC, at0, this, l4]
            · have hk' : ¬ k = [104, 101, 108, 108, 111] := hk
              match r, h, hty, l3 with
              | [], _, _, _ => simp [P.b_is_piece, pieceB, hk, hk', at0]
              | [u], _, _, _ => simp [P.b_is_piece, pieceB, hk, hk', at0]
              | u :: v :: r, h, hty, l3 =>
                have t3 := hty u (by simp)
                have t4 := hty v (by simp)
                have l5 : ¬ ((r.length : Int) + 1 + 1 + 1 + 1 + 1 < 3) := by omega
                have l6 : ¬ ((r.length : Int) + 1 + 1 + 1 + 1 + 1 < 5) := by omega
                have os : P.is_of_stream [.tup (.str k :: y :: z :: u :: v :: r)] st = .ok (.bl (numB y 1 1000000000 && numB z 1 1000000000 && numB u 0 999)) st := by
                  simp only [P.is_of_stream, h, if_true]
                have pb : pieceB (.tup (.str k :: y :: z :: u :: v :: r)) = (numB y 1 1000000000 && numB z 1 1000000000 && numB u 0 999 && pieceT k v r) := by
                  simp only [pieceB, if_neg hk]
                rw [pb]
                cases q : (numB y 1 1000000000 && numB z 1 1000000000 && numB u 0 999) with
                | false => rw [q] at os; simp [P.b_is_piece, hk', at0, l5, l6, os, truD]
                | true =>
                  rw [q] at os
                  unfold pieceT
                  by_cases ke : k = endC
                  · subst ke
                    simp only [endC] at os
                    cases r with
                    | nil => simp [P.b_is_piece, pieceE, helC, endC, at0, at4, os, truD, P.is_number_eq t4]
                    | cons w r =>
                      have l7 : ¬ ((r.length : Int) + 1 + 1 + 1 + 1 + 1 + 1 < 3) := by omega
                      have l8 : ¬ ((r.length : Int) + 1 + 1 + 1 + 1 + 1 + 1 < 5) := by omega
                      have l9 : ¬ ((r.length : Int) + 1 + 1 + 1 + 1 + 1 + 1 = 5) := by omega
                      simp [P.b_is_piece, pieceE, helC, endC, at0, at4, os, truD, l7, l8, l9]
                  · have ke' : ¬ k = [101, 110, 100] := ke
                    rw [if_neg ke]
                    by_cases kd : k = datC
                    · subst kd
                      simp only [datC] at os
                      rw [if_pos rfl]
                      match r, hty, l5, l6 with
                      | [], _, _, _ => simp [P.b_is_piece, pieceD, datC, at0, os, truD]
                      | [w], hty, _, _ =>
                        have t5 := hty w (by simp)
                        cases w with
                        | str t =>
                          have ht : t.length ≤ 100000 := by simpa [D.typ] using t5
                          have hs : P.is_signs [.str t] st = .ok (.bl (t.all signB)) st := by simp [P.is_signs, hL5 ht]
                          cases q1 : t.all signB with
                          | false => simp [P.b_is_piece, pieceD, datC, at0, at5, os, truD, hs, q1]
                          | true =>
                            by_cases q2 : t.length ≤ 40
                            · have q2' : ¬ (40 : Int) < (t.length : Int) := by omega
                              simp [P.b_is_piece, pieceD, datC, at0, at4, at5, os, truD, hs, q1, q2, q2', hL5 ht, P.is_number_eq t4]
                            · have q2' : (40 : Int) < (t.length : Int) := by omega
                              simp [P.b_is_piece, pieceD, datC, at0, at4, at5, os, truD, hs, q1, q2, q2', hL5 ht]
                        | ref n =>
                          obtain ⟨o, T, h1, h2, h3⟩ := ref_typ t5
                          simp [P.b_is_piece, pieceD, datC, at0, at5, os, truD, P.is_signs, h1, h2]
                        | _ => simp [P.b_is_piece, pieceD, datC, at0, at5, os, truD, P.is_signs]
                      | w :: w2 :: r, _, l5, l6 =>
                        have l9 : ¬ ((r.length : Int) + 1 + 1 + 1 + 1 + 1 + 1 + 1 = 6) := by omega
                        simp at l5 l6
                        have l7 : ¬ ((r.length : Int) + 1 + 1 + 1 + 1 + 1 + 1 + 1 < 3) := by omega
                        have l8 : ¬ ((r.length : Int) + 1 + 1 + 1 + 1 + 1 + 1 + 1 < 5) := by omega
                        simp [P.b_is_piece, pieceD, datC, at0, os, truD, l7, l8, l9]
                    · have kd' : ¬ k = [100, 97, 116, 97] := kd
                      rw [if_neg kd]
                      by_cases ka : k = answC
                      · subst ka
                        simp only [answC] at os
                        rw [if_pos rfl]
                        match r, hty, l5, l6 with
                        | [], _, _, _ => simp [P.b_is_piece, pieceA, answC, at0, os, truD]
                        | [w], _, _, _ => simp [P.b_is_piece, pieceA, answC, at0, os, truD]
                        | [w, x], hty, _, _ =>
                          have t5 := hty w (by simp)
                          have t6 := hty x (by simp)
                          cases q1 : numB v 0 1000001 with
                          | false =>
                            have : pieceA v [w, x] = false := by
                              unfold pieceA
                              split
                              · rename_i c w q e; simp only [numB] at q1; rw [q1]; rfl
                              · rfl
                            rw [this]
                            simp [P.b_is_piece, answC, at0, at4, os, truD, P.is_number_eq t4, q1]
                          | true =>
                            obtain ⟨c, rfl, hc⟩ := numB_int q1
                            have sp : P.are_spans [x, .int c] st = .ok (.bl (rowB x c)) st := by simp only [P.are_spans, t6, if_true]
                            have : pieceA (.int c) [w, x] = (numB w 0 1000200 && rowB x c) := by
                              cases x <;> simp [pieceA, rowB, hc, Bool.and_assoc]
                            rw [this]
                            cases q2 : numB w 0 1000200 <;> simp [P.b_is_piece, answC, at0, at4, at5, at6, os, truD, P.is_number_eq t4, P.is_number_eq t5, q1, q2, sp]
                        | w :: x :: x2 :: r, _, l5, l6 =>
                          have l9 : ¬ ((r.length : Int) + 1 + 1 + 1 + 1 + 1 + 1 + 1 + 1 = 7) := by omega
                          have l7 : ¬ ((r.length : Int) + 1 + 1 + 1 + 1 + 1 + 1 + 1 + 1 < 3) := by omega
                          have l8 : ¬ ((r.length : Int) + 1 + 1 + 1 + 1 + 1 + 1 + 1 + 1 < 5) := by omega
                          have : pieceA v (w :: x :: x2 :: r) = false := by cases v <;> cases x <;> rfl
                          rw [this]
                          simp [P.b_is_piece, answC, at0, os, truD, l7, l8, l9]
                      · have ka' : ¬ k = [97, 110, 115, 119, 101, 114] := ka
                        rw [if_neg ka]
                        simp [P.b_is_piece, hk', ke', kd', ka', at0, os, truD, l5, l6]
          | ref n =>
            obtain ⟨o, T, h1, h2, h3 | h3⟩ := ref_typ (hty (.ref n) (by simp)) <;> subst h3 <;> simp [P.b_is_piece, pieceB, h1, h2, at0, l3]
          | _ => simp [P.b_is_piece, pieceB, at0, l3]
      | _ => simp [P.b_is_piece, pieceB]
    · exact .bad
  · exact .bad
theorem P.is_piece_eq {st : Store} {d : D} (h : D.typ st d = true) : P.is_piece [d] st = .ok (.bl (pieceB d)) st := by
  simp only [P.is_piece, h, if_true]
end DL
/-! Pzb: pieces written and read. -/
namespace DL
open PySem L2
def P.spans_text : FM := fun ds st => match ds with
  | [d] => match rowOf d with
    | some R => if R.length ≤ 100 ∧ (R.all fun s => numIn s.1 0 1000000000000 && numIn s.2 0 1000000000000) = true then .ok (.str (spansT R)) st else .bad
    | none => .bad
  | _ => .bad
def P.checked : FM := fun ds st => match ds with
  | [.str s] => if s.length ≤ 100000 then .ok (.str (checkT s)) st else .bad
  | _ => .bad
def P.written : FM := fun ds st => match ds with
  | [d] => if D.typ st d = true then (if pieceB d = true then (match pceOf d with
    | some p => .ok (.str (textP p)) st
    | none => .bad) else .exn .NoPiece st) else .bad
  | _ => .bad
def optR : Option (List (Int × Int)) → D
  | some R => rowL R
  | none => .non
def P.spans_of : FM := fun ds st => match ds with
  | [.str w] => if w.length ≤ 100000 then .ok (optR (spansOfT w)) st else .bad
  | _ => .bad
def P.last_of : FM := fun ds st => match ds with
  | [.ref n] => match (st[n]?.bind Ob.seq).bind strsD with
    | some ws => if ws ≠ [] ∧ (TL.joinL [32] ws).length ≤ 90000 then (match lastOf ws with
      | some l => .ok (.ref st.length) (st ++ [.lst l])
      | none => .ok .non st) else .bad
    | none => .bad
  | _ => .bad
def P.parts_of : FM := fun ds st => match ds with
  | [.str s] => if s.length ≤ 90000 then (match partsOf s with
    | some l => .ok (.tup l) st
    | none => .ok .non st) else .bad
  | _ => .bad
def P.read : FM := fun ds st => match ds with
  | [.str s] => if s.length ≤ 90000 then (match readL s with
    | some p => .ok (pceD p) st
    | none => .exn .Spoilt st) else .bad
  | [d] => match tyD st d with
    | some _ => .exn .Spoilt st
    | none => .bad
  | _ => .bad
def P.b_checked : SM := (sRet (e2 oAdd (e2 oAdd (eVar 0) (eC (.str [32]))) (eBM "str" mZfill (eCall DL.P.figures (eCons (eCall DL.P.check_of (eCons (eVar 0) eNil)) eNil)) (eCons (eC (.int 4)) eNil))))
def P.m_checked : FM := fnM 1 1 P.b_checked

def P.b_spans_text : SM := (sSeq (sIf (tNotD (tTru (eVar 0)))
    (sRet (eC (.str [45])))
    sSkip)
    (sRet (eBM "str" mJoin (eC (.str [44])) (eCons (eComp (iSeq (eVar 0)) (tTup2 1 2) tYesD (e2 oAdd (e2 oAdd (eCall DL.P.figures (eCons (eVar 1) eNil)) (eC (.str [45]))) (eCall DL.P.figures (eCons (eVar 2) eNil))) [1, 2]) eNil))))
def P.m_spans_text : FM := fnM 1 3 P.b_spans_text

def P.b_written : SM := (sSeq (sIf (tNotD (tTru (eCall DL.P.is_piece (eCons (eVar 0) eNil))))
    (sRaise .NoPiece)
    sSkip)
    (sSeq (sSet 1 (eLst (eCons (e2 oIx (eVar 0) (eC (.int 0))) eNil)))
    (sSeq (sFor (iSeq (eSli (eVar 0) (oSo (eC (.int 1))) (oSo (eC (.int 5))))) (tName 2)
    (sDo (eBM "list" mAppend (eVar 1) (eCons (eCall DL.P.figures (eCons (eVar 2) eNil)) eNil))))
    (sSeq (sIf (tB (e2 oEq (e2 oIx (eVar 0) (eC (.int 0))) (eC (.str [100, 97, 116, 97]))))
    (sDo (eBM "list" mAppend (eVar 1) (eCons (e2 oAdd (e2 oAdd (eCall DL.P.figures (eCons (e1 oLen (eCons (e2 oIx (eVar 0) (eC (.int 5))) eNil)) eNil)) (eC (.str [58]))) (e2 oIx (eVar 0) (eC (.int 5)))) eNil)))
    sSkip)
    (sSeq (sIf (tB (e2 oEq (e2 oIx (eVar 0) (eC (.int 0))) (eC (.str [97, 110, 115, 119, 101, 114]))))
    (sSeq (sDo (eBM "list" mAppend (eVar 1) (eCons (eCall DL.P.figures (eCons (e2 oIx (eVar 0) (eC (.int 5))) eNil)) eNil)))
    (sDo (eBM "list" mAppend (eVar 1) (eCons (eCall DL.P.spans_text (eCons (e2 oIx (eVar 0) (eC (.int 6))) eNil)) eNil))))
    sSkip)
    (sRet (eCall DL.P.checked (eCons (eBM "str" mJoin (eC (.str [32])) (eCons (eVar 1) eNil)) eNil))))))))
def P.m_written : FM := fnM 1 3 P.b_written

def P.b_spans_of : SM := (sSeq (sIf (tB (e2 oEq (eVar 0) (eC (.str [45]))))
    (sRet (eTup eNil))
    sSkip)
    (sSeq (sSet 1 (eLst eNil))
    (sSeq (sFor (iSeq (eBM "str" mSplit (eVar 0) (eCons (eC (.str [44])) eNil))) (tName 2)
    (sSeq (sSet 3 (eBM "str" mSplit (eVar 2) (eCons (eC (.str [45])) eNil)))
    (sSeq (sIf (tOrD (tB (e2 oNe (e1 oLen (eCons (eVar 3) eNil)) (eC (.int 2)))) (tOrD (tB (e2 oIsN (eCall DL.P.number_of (eCons (e2 oIx (eVar 3) (eC (.int 0))) eNil)) (eC .non))) (tB (e2 oIsN (eCall DL.P.number_of (eCons (e2 oIx (eVar 3) (eC (.int 1))) eNil)) (eC .non)))))
    (sRet (eC .non))
    sSkip)
    (sDo (eBM "list" mAppend (eVar 1) (eCons (eTup (eCons (eCall DL.P.number_of (eCons (e2 oIx (eVar 3) (eC (.int 0))) eNil)) (eCons (eCall DL.P.number_of (eCons (e2 oIx (eVar 3) (eC (.int 1))) eNil)) eNil))) eNil))))))
    (sRet (e1 oTuple (eCons (eVar 1) eNil))))))
def P.m_spans_of : FM := fnM 1 4 P.b_spans_of

def P.b_last_of : SM := (sSeq (sIf (tB (e2 oEq (e2 oIx (eVar 0) (eC (.int 0))) (eC (.str [100, 97, 116, 97]))))
    (sSeq (sSet 1 (eBM "str" mPart (eBM "str" mJoin (eC (.str [32])) (eCons (eSli (eVar 0) (oSo (eC (.int 5))) oNo) eNil)) (eCons (eC (.str [58])) eNil)))
    (sSeq (sIf (tB (e2 oNe (eCall DL.P.number_of (eCons (e2 oIx (eVar 1) (eC (.int 0))) eNil)) (e1 oLen (eCons (e2 oIx (eVar 1) (eC (.int 2))) eNil))))
    (sRet (eC .non))
    sSkip)
    (sRet (eLst (eCons (e2 oIx (eVar 1) (eC (.int 2))) eNil)))))
    sSkip)
    (sSeq (sIf (tAndD (tB (e2 oEq (e2 oIx (eVar 0) (eC (.int 0))) (eC (.str [97, 110, 115, 119, 101, 114])))) (tB (e2 oEq (e1 oLen (eCons (eVar 0) eNil)) (eC (.int 7)))))
    (sSeq (sSet 2 (eCall DL.P.spans_of (eCons (e2 oIx (eVar 0) (eC (.int 6))) eNil)))
    (sSeq (sIf (tOrD (tB (e2 oIsN (eCall DL.P.number_of (eCons (e2 oIx (eVar 0) (eC (.int 5))) eNil)) (eC .non))) (tB (e2 oIsN (eVar 2) (eC .non))))
    (sRet (eC .non))
    sSkip)
    (sRet (eLst (eCons (eCall DL.P.number_of (eCons (e2 oIx (eVar 0) (eC (.int 5))) eNil)) (eCons (eVar 2) eNil))))))
    sSkip)
    (sSeq (sIf (tB (e2 oGt (e1 oLen (eCons (eVar 0) eNil)) (eC (.int 5))))
    (sRet (eC .non))
    sSkip)
    (sRet (eLst eNil)))))
def P.m_last_of : FM := fnM 1 3 P.b_last_of

def P.b_parts_of : SM := (sSeq (sSet 1 (eBM "str" mSplit (eVar 0) (eCons (eC (.str [32])) eNil)))
    (sSeq (sSet 2 (eComp (iSeq (eSli (eVar 1) (oSo (eC (.int 1))) (oSo (eC (.int 5))))) (tName 3) tYesD (eCall DL.P.number_of (eCons (eVar 3) eNil)) [3]))
    (sSeq (sSet 4 (eCall DL.P.last_of (eCons (eVar 1) eNil)))
    (sSeq (sIf (tOrD (tB (e2 oIsN (eVar 4) (eC .non))) (tB (e2 oIn (eC .non) (eVar 2))))
    (sRet (eC .non))
    sSkip)
    (sRet (e1 oTuple (eCons (e2 oAdd (e2 oAdd (eLst (eCons (e2 oIx (eVar 1) (eC (.int 0))) eNil)) (eVar 2)) (eVar 4)) eNil)))))))
def P.m_parts_of : FM := fnM 1 5 P.b_parts_of

def P.b_read : SM := (sSeq (sIf (tNotD (tTru (eCall DL.P.is_signs (eCons (eVar 0) eNil))))
    (sRaise .Spoilt)
    sSkip)
    (sSeq (sSet 1 (eCall DL.P.parts_of (eCons (eSli (eVar 0) oNo (oSo (e1 oNeg (eC (.int 5))))) eNil)))
    (sSeq (sIf (tOrD (tB (e2 oIsN (eVar 1) (eC .non))) (tOrD (tNotD (tTru (eCall DL.P.is_piece (eCons (eVar 1) eNil)))) (tB (e2 oNe (eCall DL.P.written (eCons (eVar 1) eNil)) (eVar 0)))))
    (sRaise .Spoilt)
    sSkip)
    (sRet (eVar 1)))))
def P.m_read : FM := fnM 1 2 P.b_read
theorem sp_len_mem {c : Nat} : ∀ {ws : List (List Nat)}, (ws.map List.length).sum + ws.length ≤ (TL.joinL [c] ws).length + 1
  | [] => by simp
  | [w] => by simp [TL.joinL]
  | w :: v :: ws => by
    have := @sp_len_mem c (v :: ws)
    simp only [TL.joinL, List.map_cons, List.sum_cons, List.length_cons, List.length_append] at this ⊢
    simp; omega
theorem len_mem {ws : List (List Nat)} {w : List Nat} (h : w ∈ ws) : w.length ≤ (ws.map List.length).sum := by
  induction ws with
  | nil => cases h
  | cons a l ih =>
    simp only [List.map_cons, List.sum_cons]
    rcases List.mem_cons.mp h with rfl | h
    · omega
    · have := ih h; omega
theorem split_sum (c : Nat) (s : List Nat) : ((splitL c s).map List.length).sum + (splitL c s).length ≤ s.length + 1 := by
  have := @sp_len_mem c (splitL c s)
  rwa [join_split] at this
theorem split_mem {c : Nat} {s w : List Nat} (h : w ∈ splitL c s) : w.length ≤ s.length := by
  have h1 := split_sum c s
  have h2 := len_mem h
  have h3 : 0 < (splitL c s).length := List.length_pos_of_mem h
  omega
theorem split_len (c : Nat) (s : List Nat) : (splitL c s).length ≤ s.length + 1 := by have := split_sum c s; omega
@[simp] theorem strsD_mk (ws : List (List Nat)) : strsD (ws.map .str) = some ws := by
  induction ws with
  | nil => rfl
  | cons w ws ih => simp [strsD, ih]
theorem joinD_strs {s : List Nat} {ws : List (List Nat)} (h : (ws.map List.length).sum + ws.length * s.length ≤ 16777216) : joinD s (ws.map .str) = some (.str (TL.joinL s ws)) := by
  unfold joinD
  rw [strsD_mk]
  simp only
  rw [if_pos h]
theorem P.figures_eq {i lo hi : Int} {st : Store} (h : numIn i lo hi = true) (h0 : 0 ≤ lo) (h1 : hi ≤ 1000000000000) : P.figures [.int i] st = .ok (.str (strI i)) st := by
  simp only [numIn, Bool.and_eq_true, decide_eq_true_eq] at h
  simp only [P.figures]; rw [if_pos (by omega)]
theorem fig_len {i lo hi : Int} (h : numIn i lo hi = true) (h0 : 0 ≤ lo) (h1 : hi ≤ 1000000000000) : (strI i).length ≤ 13 := by
  simp only [numIn, Bool.and_eq_true, decide_eq_true_eq] at h
  obtain ⟨m, rfl⟩ := Int.eq_ofNat_of_zero_le (show 0 ≤ i by omega)
  exact strI_len m 12 (by omega)
theorem sum_le {l : List Nat} {k : Nat} (h : ∀ x ∈ l, x ≤ k) : l.sum ≤ k * l.length := by
  induction l with
  | nil => simp
  | cons a l ih =>
    have h1 := h a (by simp)
    have h2 := ih fun x hx => h x (List.mem_cons_of_mem _ hx)
    rw [List.sum_cons, List.length_cons, Nat.mul_succ]; omega
theorem P.tell_spans_text : ∀ (st : Store) (ds : List D), st.Ok → D.ltAll st.length ds = true → Tell st (P.spans_text ds st) (P.m_spans_text ds st) := by
  intro st ds ok lt
  unfold P.spans_text
  split
  · rename_i d
    split
    · rename_i R hR
      have := rowOf_eq hR
      subst this
      split
      · rename_i h
        refine tell_pure ok rfl ?_
        rw [P.m_spans_text]
        by_cases hn : R = []
        · subst hn
          exact ⟨[], by simp [P.b_spans_text, spansT, truD]⟩
        · have hfl : ∀ s ∈ R, (strI s.1).length ≤ 13 ∧ (strI s.2).length ≤ 13 := fun s hs => by
            have hb := List.all_eq_true.mp h.2 s hs
            simp only [Bool.and_eq_true] at hb
            exact ⟨fig_len hb.1 (by omega) (by omega), fig_len hb.2 (by omega) (by omega)⟩
          simp [P.b_spans_text, truD, hn]
          generalize hr : compK _ _ _ _ _ _ _ = r
          obtain rfl := compK_r hr R spD (fun _ => true) (fun s => .str (spT s)) (by simp) (hL1000 (by omega)) (fun s hs a => by
            have hb := List.all_eq_true.mp h.2 s hs
            simp only [Bool.and_eq_true] at hb
            obtain ⟨k1, k2⟩ := hfl s hs
            have l1 : (strI s.1).length + 1 ≤ sizeLine := hL1000 (by omega)
            have l2 : (strI s.1).length + (1 + (strI s.2).length) ≤ sizeLine := hL1000 (by omega)
            have l3 : (strI s.1).length + 1 + (strI s.2).length ≤ sizeLine := hL1000 (by omega)
            simp [wipeD, P.figures_eq hb.1, P.figures_eq hb.2, l1, l2, l3, spT])
          have hm : (R.map spT).map D.str = R.map fun s => D.str (spT s) := by simp
          have hj : joinD [44] (R.map fun s => D.str (spT s)) = some (.str (TL.joinL [44] (R.map spT))) := by
            rw [← hm]
            refine joinD_strs ?_
            have := sum_le (l := (R.map spT).map List.length) (k := 27) fun x hx => by
              simp only [List.map_map, List.mem_map, Function.comp_apply] at hx
              obtain ⟨s, hs, rfl⟩ := hx
              have := hfl s hs
              simp [spT]; omega
            simp at this ⊢; omega
          simp [mJoin, filt_yes, hj, spansT, hn]
      · exact .bad
    · exact .bad
  · exact .bad
theorem hLt {k : Nat} (h : k < 1000) : k < sizeLine := by rw [line_val]; omega
theorem chk_nat (b : List Nat) : ∃ m : Nat, chk b = (m : Int) ∧ m < 9973 := by
  obtain ⟨h0, h1⟩ := chk_bd b
  obtain ⟨m, hm⟩ := Int.eq_ofNat_of_zero_le h0
  exact ⟨m, hm, by omega⟩
theorem zf4_len (b : List Nat) : (zf4 (strI (chk b))).length = 4 := by
  have := check_len b
  simp [checkT] at this; omega
theorem P.tell_checked : ∀ (st : Store) (ds : List D), st.Ok → D.ltAll st.length ds = true → Tell st (P.checked ds st) (P.m_checked ds st) := by
  intro st ds ok lt
  unfold P.checked
  split
  · rename_i s
    split
    · rename_i h
      refine tell_eq ok rfl ?_
      rw [P.m_checked]
      have hc : P.check_of [.str s] st = .ok (.int (chk s)) st := by simp [P.check_of, hL5 h]
      obtain ⟨h0, h1⟩ := chk_bd s
      have hf : P.figures [.int (chk s)] st = .ok (.str (strI (chk s))) st := by simp only [P.figures]; rw [if_pos (by omega)]
      have hp : PadOk 4 = true := by decide
      have l1 : s.length + 1 ≤ sizeLine := by rw [line_val]; omega
      have hz := zf4_len s
      have l2 : s.length + 1 + (zf4 (strI (chk s))).length ≤ sizeLine := by rw [line_val]; omega
      have hz' : TL.tl (Txt.zfill (sOf (strI (chk s))) 4) = zf4 (strI (chk s)) := rfl
      simp [P.b_checked, hc, hf, mZfill, hp, l1, hz']
      rw [if_pos (by rw [line_val]; omega)]
      simp [checkT]
    · exact .bad
  · exact .bad
theorem spansT_len {c : Int} {R : List (Int × Int)} (h0 : 0 ≤ c) (h : spansOk c R = true) (h8 : R.length ≤ 8) : (spansT R).length ≤ 1000 := by
  unfold spansT
  split
  · simp
  · have hb := spansOk_bd h0 h
    have hj : ∀ ws : List (List Nat), (∀ w ∈ ws, w.length ≤ 27) → (TL.joinL [44] ws).length ≤ 28 * ws.length := fun ws => by
      induction ws with
      | nil => intro _; simp [TL.joinL]
      | cons w ws ih =>
        intro h
        have h1 := h w (by simp)
        have h2 := ih fun w hw => h w (List.mem_cons_of_mem _ hw)
        cases ws with
        | nil => simp [TL.joinL]; omega
        | cons v ws => simp [TL.joinL] at h2 ⊢; omega
    have := hj (R.map spT) fun w hw => by
      obtain ⟨s, hs, rfl⟩ := List.mem_map.mp hw
      obtain ⟨h1, h2, h3, h4⟩ := hb s hs
      have k1 := fig_len (i := s.1) (lo := 0) (hi := 1000000000000) (by simp [numIn]; omega) (by omega) (by omega)
      have k2 := fig_len (i := s.2) (lo := 0) (hi := 1000000000000) (by simp [numIn]; omega) (by omega) (by omega)
      simp [spT]; omega
    simp at this; omega
theorem body_len {p : Pce} (h : p.ok = true) : ((wordsP p).map List.length).sum + (wordsP p).length ≤ 2000 := by
  have fl := fun {i lo hi : Int} (h : numIn i lo hi = true) (h0 : 0 ≤ lo) (h1 : hi ≤ 1000000000000) => fig_len h h0 h1
  cases p with
  | hello a b =>
    simp only [Pce.ok, Bool.and_eq_true] at h
    have := fl h.1 (by omega) (by omega); have := fl h.2 (by omega) (by omega)
    simp [wordsP, helC]; omega
  | fin a b s i =>
    simp only [Pce.ok, lives, Bool.and_eq_true] at h
    obtain ⟨⟨⟨h1, h2⟩, h3⟩, h4⟩ := h
    have := fl h1 (by omega) (by omega); have := fl h2 (by omega) (by omega); have := fl h3 (by omega) (by omega); have := fl h4 (by omega) (by omega)
    simp [wordsP, endC]; omega
  | data a b s i t =>
    simp only [Pce.ok, lives, Bool.and_eq_true] at h
    obtain ⟨⟨⟨h1, h2⟩, h3⟩, ⟨h4, h5⟩, h6⟩ := h
    have ht : t.length ≤ 40 := by simpa using h5
    have := fl h1 (by omega) (by omega); have := fl h2 (by omega) (by omega); have := fl h3 (by omega) (by omega); have := fl h6 (by omega) (by omega)
    have := fl (i := (t.length : Int)) (lo := 0) (hi := 40) (by simp [numIn]; omega) (by omega) (by omega)
    simp [wordsP, dataT, datC]; omega
  | ans a b s c l R =>
    simp only [Pce.ok, lives, Bool.and_eq_true] at h
    obtain ⟨⟨⟨h1, h2⟩, h3⟩, ⟨⟨h4, h5⟩, h6⟩, h7⟩ := h
    have := fl h1 (by omega) (by omega); have := fl h2 (by omega) (by omega); have := fl h3 (by omega) (by omega); have := fl h4 (by omega) (by omega); have := fl h5 (by omega) (by omega)
    have := spansT_len (nn_of h4 (by omega)) h7 (by simpa using h6)
    simp [wordsP, answC]; omega
theorem join_len (ws : List (List Nat)) : (TL.joinL [32] ws).length ≤ (ws.map List.length).sum + ws.length := by
  induction ws with
  | nil => simp [TL.joinL]
  | cons w ws ih =>
    cases ws with
    | nil => simp [TL.joinL]
    | cons v ws => simp [TL.joinL] at ih ⊢; omega
theorem text_len {p : Pce} (h : p.ok = true) : (textP p).length ≤ 2005 := by
  unfold textP
  rw [check_len]
  have := join_len (wordsP p)
  have := body_len h
  unfold bodyP; omega
theorem P.tell_written : ∀ (st : Store) (ds : List D), st.Ok → D.ltAll st.length ds = true → Tell st (P.written ds st) (P.m_written ds st) := by
  intro st ds ok lt
  unfold P.written
  split
  · rename_i d
    split
    · rename_i hty
      have hpc := P.is_piece_eq hty
      split
      · rename_i hb
        rw [hb] at hpc
        obtain ⟨p, rfl, hp⟩ := pieceB_of hb
        rw [pceOf_mk]
        simp only
        refine tell_pure ok rfl ?_
        have hbl := body_len hp
        have hj : ∀ st' : Store, joinD [32] ((wordsP p).map .str) = some (.str (bodyP p)) := fun _ => joinD_strs (by simp; omega)
        have hbd : (bodyP p).length ≤ 2000 := by have := join_len (wordsP p); unfold bodyP; omega
        have hck : ∀ st' : Store, P.checked [.str (bodyP p)] st' = .ok (.str (textP p)) st' := fun st' => by
          simp only [P.checked]; rw [if_pos (by omega)]; rfl
        have hj := hj st
        rw [P.m_written]
        have e1 : ¬ helC = [100, 97, 116, 97] := by decide
        have e2 : ¬ helC = [97, 110, 115, 119, 101, 114] := by decide
        have e3 : ¬ endC = [100, 97, 116, 97] := by decide
        have e4 : ¬ endC = [97, 110, 115, 119, 101, 114] := by decide
        have e5 : datC = [100, 97, 116, 97] := rfl
        have e6 : ¬ datC = [97, 110, 115, 119, 101, 114] := by decide
        have e7 : ¬ answC = [100, 97, 116, 97] := by decide
        have e8 : answC = [97, 110, 115, 119, 101, 114] := rfl
        cases p with
        | hello a b =>
          simp only [Pce.ok, Bool.and_eq_true] at hp
          obtain ⟨h1, h2⟩ := hp
          have hcut : cutL [D.str helC, .int a, .int b] (some 1) (some 5) = [.int a, .int b] := by rw [cut_mid (by omega) (by omega)]; rfl
          simp only [wordsP, List.map_cons, List.map_nil] at hj
          simp only [pceD] at hpc ⊢
          simp [P.b_written, hpc, truD, at0, hcut, forK_fix, forFix, tName, P.figures_eq h1, P.figures_eq h2, hLt, mJoin, e1, e2, hj, hck]
        | fin a b s i =>
          simp only [Pce.ok, lives, Bool.and_eq_true] at hp
          obtain ⟨⟨⟨h1, h2⟩, h3⟩, h4⟩ := hp
          have hcut : cutL [D.str endC, .int a, .int b, .int s, .int i] (some 1) (some 5) = [.int a, .int b, .int s, .int i] := by rw [cut_mid (by omega) (by omega)]; rfl
          simp only [wordsP, List.map_cons, List.map_nil] at hj
          simp only [pceD] at hpc ⊢
          simp [P.b_written, hpc, truD, at0, hcut, forK_fix, forFix, tName, P.figures_eq h1, P.figures_eq h2, P.figures_eq h3, P.figures_eq h4, hLt, mJoin, e3, e4, hj, hck]
        | data a b s i t =>
          simp only [Pce.ok, lives, Bool.and_eq_true] at hp
          obtain ⟨⟨⟨h1, h2⟩, h3⟩, ⟨h4, h5⟩, h6⟩ := hp
          have ht : t.length ≤ 40 := by simpa using h5
          have h7 : numIn (t.length : Int) 0 40 = true := by simp [numIn]; omega
          have hfl := fig_len h7 (by omega) (by omega)
          have hcut : cutL [D.str datC, .int a, .int b, .int s, .int i, .str t] (some 1) (some 5) = [.int a, .int b, .int s, .int i] := by rw [cut_mid (by omega) (by omega)]; rfl
          have l1 : t.length ≤ sizeLine := hL1000 (by omega)
          have l2 : (strI (t.length : Int)).length + 1 ≤ sizeLine := hL1000 (by omega)
          have l3 : (strI (t.length : Int)).length + (1 + t.length) ≤ sizeLine := hL1000 (by omega)
          have l4 : (strI (t.length : Int)).length + 1 + t.length ≤ sizeLine := hL1000 (by omega)
          simp only [wordsP, List.map_cons, List.map_nil] at hj
          simp only [pceD] at hpc ⊢
          simp only [dataT, List.append_assoc, List.cons_append, List.nil_append] at hj
          simp [P.b_written, hpc, truD, at0, at5, hcut, forK_fix, forFix, tName, P.figures_eq h1, P.figures_eq h2, P.figures_eq h3, P.figures_eq h6, P.figures_eq h7, P.figures_eq (hi := 1000000 - (t.length : Int)) h6 (by omega) (by omega), hLt, mJoin, ← e5, e6, hj, hck, l1, l2, l3, l4]
        | ans a b s c l R =>
          simp only [Pce.ok, lives, Bool.and_eq_true] at hp
          obtain ⟨⟨⟨h1, h2⟩, h3⟩, ⟨⟨h4, h5⟩, h6⟩, h7⟩ := hp
          have h6 : R.length ≤ 8 := by simpa using h6
          have h0 : 0 ≤ c := nn_of h4 (by omega)
          have hsp : ∀ st', P.spans_text [rowL R] st' = .ok (.str (spansT R)) st' := fun st' => by
            simp only [P.spans_text, rowOf_row]
            rw [if_pos ⟨by omega, List.all_eq_true.mpr fun s hs => by
              obtain ⟨k1, k2, k3, k4⟩ := spansOk_bd h0 h7 s hs
              simp [numIn]; omega⟩]
          simp only [rowL] at hsp
          have hcut : cutL [D.str answC, .int a, .int b, .int s, .int c, .int l, rowL R] (some 1) (some 5) = [.int a, .int b, .int s, .int c] := by rw [cut_mid (by omega) (by omega)]; rfl
          simp only [wordsP, List.map_cons, List.map_nil] at hj
          simp only [pceD] at hpc ⊢
          simp only [rowL] at hcut hpc
          simp [P.b_written, hpc, truD, at0, at5, at6, hcut, forK_fix, forFix, tName, P.figures_eq h1, P.figures_eq h2, P.figures_eq h3, P.figures_eq h4, P.figures_eq h5, hLt, mJoin, e7, ← e8, hj, hck, hsp]
      · rename_i hb
        have hb : pieceB d = false := by simpa using hb
        rw [hb] at hpc
        refine tell_exn ok ⟨[], ?_⟩
        rw [P.m_written]
        simp [P.b_written, hpc, truD]
    · exact .bad
  · exact .bad
theorem split_run {s : List Nat} {c : Nat} {st : Store} (hc : c < 256) (hs : s.length ≤ 100000) : mSplit (.str s) [.str [c]] st = some (.ref st.length, st ++ [.lst ((splitL c s).map .str)]) := by
  simp only [mSplit]
  rw [if_pos ⟨by simp, by simpa using hc, by rw [line_val]; omega⟩]; rfl
theorem P.number_eq {w : List Nat} {st : Store} (h : w.length ≤ 100000) : P.number_of [.str w] st = .ok (optD (numL w)) st := by simp only [P.number_of, if_pos h]
theorem isN_opt (o : Option Int) (st : Store) : oIsN (optD o) .non st = some (.bl o.isNone, st) := by cases o <;> rfl
theorem P.tell_spans_of : ∀ (st : Store) (ds : List D), st.Ok → D.ltAll st.length ds = true → Tell st (P.spans_of ds st) (P.m_spans_of ds st) := by
  intro st ds ok lt
  unfold P.spans_of
  split
  · rename_i w
    split
    · rename_i hw
      refine tell_pure ok (by cases spansOfT w <;> first | rfl | exact nrs_row _) ?_
      rw [P.m_spans_of]
      by_cases h45 : w = [45]
      · subst h45
        exact ⟨[], by simp [P.b_spans_of, spansOfT, optR, rowL]⟩
      · have hT : spansOfT w = (splitL 44 w).mapM spanOf := by unfold spansOfT; rw [if_neg h45]
        simp [P.b_spans_of, h45, split_run (show 44 < 256 by omega) hw]
        generalize hr : forK _ _ _ _ _ = r
        have hlen := split_len 44 w
        rcases forK_out hr (splitL 44 w) D.str (fun pre e s => ∃ A g x y, pre.mapM spanOf = some A ∧ s = st ++ (.lst (A.map spD) :: .lst ((splitL 44 w).map .str) :: g) ∧ e = [some (.str w), some (.ref st.length), x, y])
          (fun r => (∃ g, r = .rt .non (st ++ g)) ∧ (splitL 44 w).mapM spanOf = none)
          (fun pre e s ⟨A, g, x, y, h1, h2, h3⟩ => by subst h2; simp [src_ref, getAk]) (by have : fuel = 100000000 := rfl; omega) ⟨[], [], none, none, rfl, by simp, by simp⟩
          (fun pre x post e s hL ⟨A, g, y, z, h1, h2, h3⟩ => by
            subst h2; subst h3
            have hxm : x ∈ splitL 44 w := by rw [hL]; simp
            have hx : x.length ≤ 100000 := by have := split_mem hxm; omega
            have hAl : A.length ≤ 100001 := by
              have h := congrArg (fun l => l.length) hL
              have hl : A.length = pre.length := by
                have : ∀ (l : List (List Nat)) (A : List (Int × Int)), l.mapM spanOf = some A → A.length = l.length := fun l => by
                  induction l with
                  | nil => intro A h; cases h; rfl
                  | cons a l ih =>
                    intro A h
                    rw [List.mapM_cons] at h
                    cases z : spanOf a with
                    | none => rw [z] at h; cases h
                    | some b =>
                      rw [z] at h
                      cases y : l.mapM spanOf with
                      | none => rw [y] at h; cases h
                      | some B => rw [y] at h; cases h; simp [ih B y]
                exact this _ _ h1
              simp at h; omega
            have l1 : A.length < sizeLine := by rw [line_val]; omega
            have hno : ∀ x post, spanOf x = none → (pre ++ x :: post).mapM spanOf = none := fun x post h => by
              rw [List.mapM_append, h1, List.mapM_cons, h]; rfl
            have hsn : ∀ p, spanOf x = some p → (pre ++ [x]).mapM spanOf = some (A ++ [p]) := fun p h => by
              rw [List.mapM_append, h1, List.mapM_cons, h]; rfl
            have hm : ∀ q ∈ splitL 45 x, q.length ≤ 100000 := fun q hq => by have := split_mem hq; omega
            have hs : spanOf x = match splitL 45 x with | [a, b] => (numL a).bind fun x => (numL b).map fun y => (x, y) | _ => none := rfl
            simp [split_run (show 45 < 256 by omega) hx]
            match hq : splitL 45 x, hm with
            | [], _ => exact absurd hq (split_ne _ _)
            | [a], _ =>
              rw [hq] at hs
              simp [hno x post hs, hL]
            | [a, b], hm =>
              rw [hq] at hs
              replace hs : spanOf x = (numL a).bind fun x => (numL b).map fun y => (x, y) := hs
              have ha := fun st => P.number_eq (st := st) (hm a (by simp))
              have hb := fun st => P.number_eq (st := st) (hm b (by simp))
              cases na : numL a with
              | none =>
                rw [na] at hs ha
                replace hs : spanOf x = none := hs
                simp [at0, ha, optD, hno x post hs, hL]
              | some va =>
                rw [na] at hs ha
                cases nb : numL b with
                | none =>
                  rw [nb] at hs hb
                  replace hs : spanOf x = none := hs
                  simp [at0, at1, ha, hb, optD, hno x post hs, hL]
                | some vb =>
                  rw [nb] at hs hb
                  replace hs : spanOf x = some (va, vb) := hs
                  simp [at0, at1, ha, hb, optD, l1]
                  exact ⟨A ++ [(va, vb)], by simp [h1, hs], by simp⟩
            | a :: b :: c :: q, _ =>
              rw [hq] at hs
              have : ¬ ((q.length : Int) + 1 + 1 + 1 = 2) := by omega
              simp [hno x post hs, hL, this]) with ⟨e, s, rfl, A, g, x, y, h1, rfl, rfl⟩ | ⟨⟨g, rfl⟩, h1⟩
        · rw [hT, h1]
          simp [optR, rowL]
        · rw [hT, h1]
          exact ⟨g, by simp [optR]⟩
    · exact .bad
  · exact .bad
theorem strsD_eq : ∀ {l : List D} {ws : List (List Nat)}, strsD l = some ws → l = ws.map .str
  | [], ws, h => by cases h; rfl
  | .str s :: l, ws, h => by
    simp only [strsD] at h
    cases z : strsD l with
    | none => rw [z] at h; cases h
    | some v => rw [z] at h; cases h; rw [strsD_eq z]; rfl
  | .non :: _, _, h => by simp [strsD] at h
  | .bl _ :: _, _, h => by simp [strsD] at h
  | .int _ :: _, _, h => by simp [strsD] at h
  | .tup _ :: _, _, h => by simp [strsD] at h
  | .ref _ :: _, _, h => by simp [strsD] at h
theorem ltAll_strs (n : Nat) (ws : List (List Nat)) : D.ltAll n (ws.map .str) = true := by
  rw [ltAll_iff]; intro d hd; obtain ⟨w, _, rfl⟩ := List.mem_map.mp hd; rfl
theorem par_len {c : Nat} {s a b : List Nat} (h : TL.par [c] [] s = some (a, b)) : a.length ≤ s.length ∧ b.length ≤ s.length := by
  have : ∀ (s acc : List Nat), TL.par [c] acc s = some (a, b) → a.length ≤ acc.length + s.length ∧ b.length ≤ s.length := fun s => by
    induction s with
    | nil => intro acc h; cases h
    | cons x r ih =>
      intro acc h
      by_cases hx : x = c
      · subst hx
        rw [TL.par_hit (by simp [TL.pre])] at h
        cases h; simp
      · rw [TL.par_miss (TL.pre_of_head [] r hx)] at h
        have := ih _ h
        simp at this ⊢; omega
  simpa using this s [] h
theorem spanOf_nn {w : List Nat} {s : Int × Int} (h : spanOf w = some s) : True := trivial
theorem P.tell_last_of : ∀ (st : Store) (ds : List D), st.Ok → D.ltAll st.length ds = true → Tell st (P.last_of ds st) (P.m_last_of ds st) := by
  intro st ds ok lt
  unfold P.last_of
  split
  · rename_i n
    split
    · rename_i ws hws
      obtain ⟨l0, hb, hl0⟩ := Option.bind_eq_some_iff.mp hws
      obtain ⟨o, ho, hs⟩ := Option.bind_eq_some_iff.mp hb
      have := strsD_eq hl0
      subst this
      have hlen := len_of_seq' hs
      split
      · rename_i hc
        obtain ⟨hne, h9⟩ := hc
        have hsum := @sp_len_mem 32 ws
        obtain ⟨w0, r, rfl⟩ := List.exists_cons_of_ne_nil hne
        have hmem : ∀ w ∈ (w0 :: r), w.length ≤ 100000 := fun w hw => by have := len_mem hw; omega
        have gl : ∀ g, (st ++ g)[n]? = some o := fun g => get_old ho
        have goal : (∃ l g k, lastOf (w0 :: r) = some l ∧ P.m_last_of [.ref n] st = .ok (.ref (st.length + k)) (st ++ g) ∧ g[k]? = some (.lst l) ∧ D.ltAll st.length l = true) ∨ (lastOf (w0 :: r) = none ∧ ∃ g, P.m_last_of [.ref n] st = .ok .non (st ++ g)) := by
          rw [P.m_last_of]
          have a0 : ((w0 :: r).map D.str)[0]? = some (.str w0) := rfl
          have hll : ((w0 :: r).map D.str).length = r.length + 1 := by simp
          rw [hll] at hlen
          have a5 : ∀ w, (w0 :: r)[5]? = some w → ((w0 :: r).map D.str)[5]? = some (.str w) := fun w h => by rw [List.getElem?_map, h]; rfl
          have a6 : ∀ w, (w0 :: r)[6]? = some w → ((w0 :: r).map D.str)[6]? = some (.str w) := fun w h => by rw [List.getElem?_map, h]; rfl
          clear hll
          by_cases hd : w0 = [100, 97, 116, 97]
          · have hjl : ((((w0 :: r).drop 5).map List.length).sum + ((w0 :: r).drop 5).length) ≤ 90001 := by
              have hd5 : ∀ (k : Nat) (l : List (List Nat)), ((l.drop k).map List.length).sum + (l.drop k).length ≤ (l.map List.length).sum + l.length := fun k => by
                induction k with
                | zero => intro l; simp
                | succ k ih => intro l; cases l with
                  | nil => simp
                  | cons a l => have := ih l; simp at this ⊢; omega
              have := hd5 5 (w0 :: r); omega
            have hj := joinD_strs (s := [32]) (ws := (w0 :: r).drop 5) (by simp only [List.length_singleton]; omega)
            have hJ : (TL.joinL [32] ((w0 :: r).drop 5)).length ≤ 90001 := by have := join_len ((w0 :: r).drop 5); omega
            have hlo : lastOf (w0 :: r) = dataOf (TL.joinL [32] ((w0 :: r).drop 5)) := by simp [lastOf, hd, datC]
            have c5 : cutL ((w0 :: r).map D.str) (some 5) none = ((w0 :: r).drop 5).map .str := by rw [cut_from (by omega), List.map_drop]; rfl
            rw [hlo]
            rw [← c5] at hj
            generalize TL.joinL [32] ((w0 :: r).drop 5) = J at *
            generalize (w0 :: r).map D.str = L at *
            have l1 : J.length ≤ sizeLine := by rw [line_val]; omega
            have hn : ∀ (w : List Nat) st, w.length ≤ 90001 → P.number_of [.str w] st = .ok (optD (numL w)) st := fun w st h => P.number_eq (by omega)
            have hln : ∀ b : List Nat, b.length ≤ 90001 → b.length ≤ sizeLine := fun b h => by rw [line_val]; omega
            unfold dataOf
            cases hp : TL.par [58] [] J with
            | none =>
              cases hq : numL J with
              | none =>
                simp [P.b_last_of, ho, hs, a0, hd, mJoin, hj, mPart, l1, parD, hp, at0, at2, hn _ _ hJ, optD, hq]
              | some v =>
                by_cases hv : v = 0
                · simp [P.b_last_of, ho, hs, a0, hd, mJoin, hj, mPart, l1, parD, hp, at0, at2, hn _ _ hJ, optD, hq, hv]
                  exact ⟨_, _, ⟨rfl, rfl⟩, rfl, rfl⟩
                · simp [P.b_last_of, ho, hs, a0, hd, mJoin, hj, mPart, l1, parD, hp, at0, at2, hn _ _ hJ, optD, hq, hv]
            | some p =>
              obtain ⟨a, b⟩ := p
              obtain ⟨pa, pb⟩ := par_len hp
              have hb' := hln b (by omega)
              cases hq : numL a with
              | none =>
                simp [P.b_last_of, ho, hs, a0, hd, mJoin, hj, mPart, l1, parD, hp, at0, at2, hn a _ (by omega), optD, hq, hb']
              | some v =>
                by_cases hv : v = (b.length : Int)
                · simp [P.b_last_of, ho, hs, a0, hd, mJoin, hj, mPart, l1, parD, hp, at0, at2, hn a _ (by omega), optD, hq, hv, hb']
                  exact ⟨_, _, ⟨rfl, rfl⟩, rfl, rfl⟩
                · simp [P.b_last_of, ho, hs, a0, hd, mJoin, hj, mPart, l1, parD, hp, at0, at2, hn a _ (by omega), optD, hq, hv, hb']
          · by_cases ha : w0 = [97, 110, 115, 119, 101, 114] ∧ r.length + 1 = 7
            · obtain ⟨ha, h7⟩ := ha
              clear hsum h9 hne hws hb hl0
              match r, h7, hs, hlen, a0, a5, a6, hmem with
              | [w1, w2, w3, w4, w5, w6], _, hs, hlen, a0, a5, a6, hmem =>
                have a5 := a5 w5 rfl
                have a6 := a6 w6 rfl
                have hlo : lastOf [w0, w1, w2, w3, w4, w5, w6] = match numL w5, spansOfT w6 with
                  | some l, some R => some [.int l, rowL R]
                  | _, _ => none := by
                    simp [lastOf, ha, datC, answC]
                    all_goals (cases numL w5 <;> cases spansOfT w6 <;> rfl)
                rw [hlo]
                have m5 := hmem w5 (by simp)
                have m6 := hmem w6 (by simp)
                have hsp : ∀ st, P.spans_of [.str w6] st = .ok (optR (spansOfT w6)) st := fun st => by simp only [P.spans_of, if_pos m6]
                have hn : ∀ st, P.number_of [.str w5] st = .ok (optD (numL w5)) st := fun st => P.number_eq m5
                generalize ([w0, w1, w2, w3, w4, w5, w6]).map D.str = L at *
                cases hq : numL w5 with
                | none => simp [P.b_last_of, ho, hs, a0, hd, ha, hlen, a5, a6, hn, hq, optD, hsp]
                | some v =>
                  cases hR : spansOfT w6 with
                  | none => simp [P.b_last_of, ho, hs, a0, hd, ha, hlen, a5, a6, hn, hq, optD, hsp, optR, hR]
                  | some R =>
                    simp [P.b_last_of, ho, hs, a0, hd, ha, hlen, a5, a6, hn, hq, optD, hsp, optR, hR, rowL]
                    exact ⟨_, _, ⟨rfl, rfl⟩, rfl, by simp only [D.ltAll, D.lt, Bool.true_and, Bool.and_true]; exact D.ltAll_of_nrs _ (nrs_row R)⟩
            · have hlo : lastOf (w0 :: r) = if 5 < r.length + 1 then none else some [] := by
                unfold lastOf
                rw [if_neg (by simpa [datC] using hd), if_neg (by simpa [answC] using ha)]; rfl
              rw [hlo]
              have ha' : w0 = [97, 110, 115, 119, 101, 114] → ¬ ((r.length : Int) + 1 = 7) := fun h q => ha ⟨h, by omega⟩
              generalize (w0 :: r).map D.str = L at *
              by_cases h5 : 5 < r.length + 1
              · have h5' : (5 : Int) < (r.length : Int) + 1 := by omega
                by_cases hw : w0 = [97, 110, 115, 119, 101, 114]
                · simp [P.b_last_of, ho, hs, a0, hd, hw, ha' hw, hlen, h5, h5']
                · simp [P.b_last_of, ho, hs, a0, hd, hw, hlen, h5, h5']
              · have h5' : ¬ (5 : Int) < (r.length : Int) + 1 := by omega
                by_cases hw : w0 = [97, 110, 115, 119, 101, 114]
                · simp [P.b_last_of, ho, hs, a0, hd, hw, ha' hw, hlen, h5, h5']
                  exact ⟨_, _, ⟨rfl, rfl⟩, rfl, rfl⟩
                · simp [P.b_last_of, ho, hs, a0, hd, hw, hlen, h5, h5']
                  exact ⟨_, _, ⟨rfl, rfl⟩, rfl, rfl⟩
        rcases goal with ⟨l, g, k, h1, h2, h3, h4⟩ | ⟨h1, g, h2⟩
        · rw [h1]; exact tell_list ok h4 ⟨g, k, h2, h3⟩
        · rw [h1]; exact tell_pure ok rfl ⟨g, h2⟩
      · exact .bad
    · exact .bad
  · exact .bad
theorem inSeq_opt (L : List (Option Int)) : inSeq .non (L.map optD) = some (L.any Option.isNone) := by
  unfold inSeq
  have h1 : (L.map optD).all flatD = true := by
    rw [List.all_eq_true]; intro d hd
    obtain ⟨o, _, rfl⟩ := List.mem_map.mp hd
    cases o <;> rfl
  rw [if_pos ⟨rfl, h1⟩]
  congr 1
  rw [List.any_map]
  congr 1
  funext o
  cases o <;> rfl
theorem mapM_none {α β : Type} {f : α → Option β} : ∀ {l : List α}, l.mapM f = none ↔ (l.map f).any Option.isNone = true
  | [] => by simp
  | a :: l => by
    rw [List.mapM_cons, List.map_cons, List.any_cons]
    cases h : f a with
    | none => simp
    | some b =>
      have := @mapM_none α β f l
      cases h2 : l.mapM f with
      | none => rw [h2] at this; simp at this ⊢; simpa using this
      | some c => rw [h2] at this; simp at this ⊢; simpa using this
theorem mapM_some {α : Type} {f : α → Option Int} : ∀ {l : List α} {c : List Int}, l.mapM f = some c → l.map f = c.map some
  | [], c, h => by cases h; rfl
  | a :: l, c, h => by
    rw [List.mapM_cons] at h
    cases z : f a with
    | none => rw [z] at h; cases h
    | some b =>
      rw [z] at h
      cases y : l.mapM f with
      | none => rw [y] at h; cases h
      | some d => rw [y] at h; cases h; rw [List.map_cons, z, mapM_some y]; rfl
theorem lastOf_ok {ws : List (List Nat)} {l : List D} (h : lastOf ws = some l) (st : Store) (hl : (ws.map List.length).sum + ws.length ≤ 90001) : D.typs st l = true ∧ l.length ≤ 2 ∧ D.nrs l = true := by
  unfold lastOf at h
  split at h
  · unfold dataOf at h
    split at h
    · rename_i a b e
      split at h
      · cases h
        have := (par_len e).2
        have h5 : (TL.joinL [32] (ws.drop 5)).length ≤ 90001 := by
          have hd5 : ∀ (k : Nat) (l : List (List Nat)), ((l.drop k).map List.length).sum + (l.drop k).length ≤ (l.map List.length).sum + l.length := fun k => by
            induction k with
            | zero => intro l; simp
            | succ k ih => intro l; cases l with
              | nil => simp
              | cons a l => have := ih l; simp at this ⊢; omega
          have := hd5 5 ws
          have := join_len (ws.drop 5); omega
        simp [D.typs, D.typ, D.nrs, D.nr]; omega
      · cases h
    · split at h
      · cases h; simp [D.typs, D.typ, D.nrs, D.nr]
      · cases h
  · split at h
    · split at h
      · rename_i v R e1 e2
        cases h
        have hr : R.length ≤ 90002 := by
          have h6 : (ws.getD 6 []).length ≤ 90001 := by
            by_cases c : 6 < ws.length
            · have : ws.getD 6 [] ∈ ws := by simp [c]
              have := len_mem this; omega
            · simp [c]
          generalize ws.getD 6 [] = w at *
          unfold spansOfT at e2
          split at e2
          · cases e2; simp
          · have hm : ∀ (l : List (List Nat)) (A : List (Int × Int)), l.mapM spanOf = some A → A.length = l.length := fun l => by
              induction l with
              | nil => intro A h; cases h; rfl
              | cons a l ih =>
                intro A h
                rw [List.mapM_cons] at h
                cases z : spanOf a with
                | none => rw [z] at h; cases h
                | some b =>
                  rw [z] at h
                  cases y : l.mapM spanOf with
                  | none => rw [y] at h; cases h
                  | some B => rw [y] at h; cases h; simp [ih B y]
            have h1 := hm _ _ e2
            have h2 := split_sum 44 w
            have h3 : (splitL 44 w).length ≤ w.length + 1 := by omega
            omega
        have ht : D.typs st (R.map spD) = true := by
          clear hr e2
          induction R with
          | nil => rfl
          | cons a R ih => simp [D.typs, D.typ, ih]
        simp [D.typs, D.typ, D.nrs, D.nr, rowL, ht, nrs_row]; omega
      · cases h
    · split at h
      · cases h
      · cases h; simp [D.typs, D.nrs]
theorem partsOf_ok {s : List Nat} {l : List D} (h : partsOf s = some l) (hs : s.length ≤ 90000) (st : Store) : D.typ st (.tup l) = true ∧ D.nrs l = true := by
  have hsum := split_sum 32 s
  unfold partsOf at h
  split at h
  · rename_i last ns e1 e2
    cases h
    obtain ⟨h1, h2, h3⟩ := lastOf_ok e1 st (by omega)
    have hw : ((splitL 32 s).headD []).length ≤ 90000 := by
      cases hq : splitL 32 s with
      | nil => exact absurd hq (split_ne _ _)
      | cons w r => have := split_mem (c := 32) (s := s) (w := w) (by rw [hq]; simp); simp; omega
    have hn : ns.length ≤ 4 := by
      have := congrArg List.length (mapM_some e2)
      simp at this; omega
    have ht : D.typs st (ns.map .int ++ last) = true := by
      clear e2 hn
      induction ns with
      | nil => exact h1
      | cons a ns ih => simp [D.typs, D.typ] at ih ⊢; exact ih
    have hr : D.nrs (ns.map .int ++ last) = true := by
      clear e2 hn ht
      induction ns with
      | nil => exact h3
      | cons a ns ih => simp [D.nrs, D.nr] at ih ⊢; exact ih
    refine ⟨?_, ?_⟩
    · generalize (splitL 32 s).headD [] = w at *
      simp [D.typ, D.typs, ht]; omega
    · simp [D.nrs, D.nr, hr]
  · cases h
theorem P.tell_parts_of : ∀ (st : Store) (ds : List D), st.Ok → D.ltAll st.length ds = true → Tell st (P.parts_of ds st) (P.m_parts_of ds st) := by
  intro st ds ok lt
  unfold P.parts_of
  split
  · rename_i s
    split
    · rename_i hs
      have hsum := split_sum 32 s
      have goal : (∃ l g, partsOf s = some l ∧ P.m_parts_of [.str s] st = .ok (.tup l) (st ++ g)) ∨ (partsOf s = none ∧ ∃ g, P.m_parts_of [.str s] st = .ok .non (st ++ g)) := by
        rw [P.m_parts_of]
        obtain ⟨w0, r, hw⟩ := List.exists_cons_of_ne_nil (split_ne 32 s)
        have hpo : partsOf s = match lastOf (w0 :: r), (r.take 4).mapM numL with
          | some last, some ns => some (.str w0 :: ns.map .int ++ last)
          | _, _ => none := by
          unfold partsOf; rw [hw]; rfl
        have hsp := split_run (st := st) (show 32 < 256 by omega) (s := s) (by omega)
        have hjo : TL.joinL [32] (w0 :: r) = s := by rw [← hw]; exact join_split 32 s
        rw [hw] at hsp hsum
        have c15 : cutL ((w0 :: r).map D.str) (some 1) (some 5) = (r.take 4).map .str := by rw [cut_mid (by omega) (by omega)]; simp [List.map_take]
        have a0 : ((w0 :: r).map D.str)[0]? = some (.str w0) := rfl
        have hstr := strsD_mk (w0 :: r)
        have hlo : ∀ g, P.last_of [.ref st.length] (st ++ (.lst ((w0 :: r).map D.str) :: g)) = match lastOf (w0 :: r) with
            | some l => .ok (.ref (st ++ (.lst ((w0 :: r).map D.str) :: g)).length) (st ++ (.lst ((w0 :: r).map D.str) :: g) ++ [.lst l])
            | none => .ok .non (st ++ (.lst ((w0 :: r).map D.str) :: g)) := fun g => by
          simp only [P.last_of, getA0]
          simp only [List.getElem?_cons_zero, Option.bind_some, ob_seq_lst, hstr]
          rw [if_pos ⟨by simp, by rw [hjo]; exact hs⟩]
        rw [hpo]
        have hmem : ∀ w ∈ r.take 4, w.length ≤ 100000 := fun w hw => by
          have := len_mem (ws := w0 :: r) (w := w) (List.mem_cons_of_mem _ (List.mem_of_mem_take hw)); omega
        have hrl : (r.take 4).length ≤ 4 := by simp; omega
        generalize r.take 4 = M at *
        generalize (w0 :: r).map D.str = L at *
        have hlast : ∀ l, lastOf (w0 :: r) = some l → l.length ≤ 2 := fun l h => (lastOf_ok h st (by omega)).2.1
        generalize lastOf (w0 :: r) = lo at *
        simp [P.b_parts_of, hsp, c15]
        generalize hr : compK _ _ _ _ _ _ _ = r
        obtain rfl := compK_r hr M D.str (fun _ => true) (fun w => optD (numL w)) (by simp) (hL1000 (by omega)) (fun w hw a => by
          simp [wipeD, P.number_eq (hmem w hw)])
        have hlo := hlo [.lst (M.map .str), .lst (M.map fun w => optD (numL w))]
        simp [filt_yes, hlo]
        cases lo with
        | none => simp
        | some last =>
          have hmm : (M.map fun w => optD (numL w)) = (M.map numL).map optD := by simp
          have hin := inSeq_opt (M.map numL)
          rw [← hmm] at hin
          have hinD : inD .non (.ref (st.length + 2)) (st ++ [Ob.lst L, Ob.lst (M.map D.str), Ob.lst (M.map fun w => optD (numL w)), Ob.lst last]) = some ((M.map numL).any Option.isNone) := by
            rw [inD_at, getAk]
            simp only [List.getElem?_cons_succ, List.getElem?_cons_zero, Option.bind_some]
            exact inn_lst hin
          have hll := hlast last rfl
          cases hm : M.mapM numL with
          | none =>
            rw [mapM_none.mp hm] at hinD
            simp [-inD_at, hinD]
          | some ns =>
            have hms := mapM_some hm
            have hno : (M.map numL).any Option.isNone = false := by rw [hms]; simp
            rw [hno] at hinD
            have hint : (M.map fun w => optD (numL w)) = ns.map .int := by rw [hmm, hms]; simp [optD]
            have hnl : ns.length ≤ 4 := by have := congrArg List.length hms; simp at this; omega
            have l1 : 1 + ns.length ≤ sizeLine := hL1000 (by omega)
            have l2 : 1 + ns.length + last.length ≤ sizeLine := hL1000 (by omega)
            have l3 : ns.length + 1 + last.length ≤ sizeLine := hL1000 (by omega)
            rw [hint] at hinD ⊢
            simp [-inD_at, hinD, a0, l1, l2, l3]
      rcases goal with ⟨l, g, h1, h2⟩ | ⟨h1, g, h2⟩
      · rw [h1]; exact tell_pure ok (by have := (partsOf_ok h1 hs st).2; exact this) ⟨g, h2⟩
      · rw [h1]; exact tell_pure ok rfl ⟨g, h2⟩
    · exact .bad
  · exact .bad
theorem cut_end5 (s : List Nat) : cutL s none (some (-5)) = s.take (s.length - 5) := by
  unfold cutL
  have h1 : HT.sIx s.length 0 none = 0 := rfl
  have h2 : HT.sIx s.length s.length (some (-5)) = s.length - 5 := by
    unfold HT.sIx
    simp
    omega
  rw [h1, h2]; simp
theorem P.written_eq {p : Pce} {st : Store} (h : p.ok = true) : P.written [pceD p] st = .ok (.str (textP p)) st := by
  have ht : D.typ st (pceD p) = true := by
    have hrow : ∀ R : List (Int × Int), D.typs st (R.map spD) = true := fun R => by
      induction R with
      | nil => rfl
      | cons a R ih => simp [D.typs, D.typ, ih]
    cases p with
    | data a b s i t =>
      simp only [Pce.ok, Bool.and_eq_true] at h
      have : t.length ≤ 40 := by simpa using h.2.1.2
      simp [pceD, D.typ, D.typs, datC]; omega
    | ans a b s c l R =>
      simp only [Pce.ok, Bool.and_eq_true] at h
      have : R.length ≤ 8 := by simpa using h.2.1.2
      simp [pceD, D.typ, D.typs, answC, rowL, hrow]; omega
    | _ => simp [pceD, D.typ, D.typs, helC, endC]
  simp only [P.written, ht, pieceB_mk, h, pceOf_mk, if_true]
theorem pce_nr (p : Pce) : (pceD p).nr = true := by cases p <;> simp [pceD, D.nr, D.nrs, rowL, nrs_row]
theorem P.tell_read : ∀ (st : Store) (ds : List D), st.Ok → D.ltAll st.length ds = true → Tell st (P.read ds st) (P.m_read ds st) := by
  intro st ds ok lt
  unfold P.read
  split
  · rename_i s
    split
    · rename_i hs
      have goal : (∃ p g, readL s = some p ∧ P.m_read [.str s] st = .ok (pceD p) (st ++ g)) ∨ (readL s = none ∧ ∃ g, P.m_read [.str s] st = .exn .Spoilt (st ++ g)) := by
        rw [P.m_read]
        have l1 : s.length ≤ sizeLine := by rw [line_val]; omega
        have hsig : P.is_signs [.str s] st = .ok (.bl (s.all signB)) st := by simp [P.is_signs, l1]
        unfold readL
        cases hal : s.all signB with
        | false => rw [hal] at hsig; simp [P.b_read, hsig, truD]
        | true =>
          rw [hal] at hsig
          have hpo : P.parts_of [.str (s.take (s.length - 5))] st = match partsOf (s.take (s.length - 5)) with
            | some l => .ok (.tup l) st
            | none => .ok .non st := by simp only [P.parts_of]; rw [if_pos (by simp; omega)]
          have hpk := fun l (h : partsOf (s.take (s.length - 5)) = some l) => (partsOf_ok h (by simp; omega) st).1
          have hcut := cut_end5 s
          generalize s.take (s.length - 5) = b at *
          rw [if_pos rfl]
          cases hp : partsOf b with
          | none => rw [hp] at hpo; simp [P.b_read, hsig, truD, l1, hcut, hpo]
          | some l =>
            rw [hp] at hpo
            have hty := hpk l hp
            have hpc := P.is_piece_eq hty
            cases hb : pieceB (.tup l) with
            | false =>
              rw [hb] at hpc
              have hno : (match pceOf (.tup l) with | some p => if p.ok = true ∧ textP p = s then some p else none | none => none) = none := by
                have h3 : ∀ p, pceOf (.tup l) = some p → p.ok = false := fun p hq => by
                  rw [pceOf_eq hq, pieceB_mk] at hb; exact hb
                split
                · rename_i p hq; simp [h3 p hq]
                · rfl
              simp [P.b_read, hsig, truD, l1, hcut, hpo, hpc]
              exact hno
            | true =>
              rw [hb] at hpc
              obtain ⟨p, hp, hok⟩ := pieceB_of hb
              have hw := P.written_eq (st := st) hok
              rw [← hp] at hw
              have hq : pceOf (.tup l) = some p := by rw [hp, pceOf_mk]
              simp only [hq, hok, true_and]
              by_cases he : textP p = s
              · simp [P.b_read, hsig, truD, l1, hcut, hpo, hpc, hw, he]
                exact hp
              · simp [P.b_read, hsig, truD, l1, hcut, hpo, hpc, hw, he]
      rcases goal with ⟨p, g, h1, h2⟩ | ⟨h1, g, h2⟩
      · rw [h1]; exact tell_pure ok (pce_nr p) ⟨g, h2⟩
      · rw [h1]; exact tell_exn ok ⟨g, h2⟩
    · exact .bad
  · rename_i d nd
    cases h : tyD st d with
    | none => exact .bad
    | some T =>
      refine tell_exn ok ⟨[], ?_⟩
      have hsig : P.is_signs [d] st = .ok (.bl false) st := by
        cases d with
        | str s => exact absurd rfl (nd s)
        | _ => simp only [P.is_signs, h]
      rw [P.m_read]
      simp [P.b_read, hsig, truD]
  · exact .bad
end DL
set_option maxHeartbeats 2000000
/-! Pya: a road and the law's own one, side by side. -/
namespace DL
open PySem L2
section
variable {α : Type}
theorem look_at {B : List (Int × α)} (h : (B.map (·.1)).Nodup) {i : Nat} {k : Int} {v : α} (e : B[i]? = some (k, v)) : lookI B k = some v := lookI_of_mem h (List.mem_of_getElem? e)
theorem look_iff {B : List (Int × α)} (h : (B.map (·.1)).Nodup) {k : Int} {v : α} : lookI B k = some v ↔ (k, v) ∈ B := ⟨lookI_mem, lookI_of_mem h⟩
theorem look_ext {A B : List (Int × α)} (ha : (A.map (·.1)).Nodup) (hb : (B.map (·.1)).Nodup) (h : ∀ x, x ∈ A ↔ x ∈ B) (k : Int) : lookI A k = lookI B k := by
  cases e : lookI A k with
  | some v => exact ((look_iff hb).mpr ((h _).mp ((look_iff ha).mp e))).symm
  | none =>
    cases e2 : lookI B k with
    | none => rfl
    | some v => rw [(look_iff ha).mpr ((h _).mpr ((look_iff hb).mp e2))] at e; cases e
theorem look_erase {B : List (Int × α)} (h : (B.map (·.1)).Nodup) {i : Nat} {k : Int} {v : α} (e : B[i]? = some (k, v)) (j : Int) : lookI (B.eraseIdx i) j = if j = k then none else lookI B j := by
  induction B generalizing i with
  | nil => simp at e
  | cons p B ih =>
    rw [List.map_cons, List.nodup_cons] at h
    cases i with
    | zero =>
      simp at e; subst e
      rw [List.eraseIdx_cons_zero, lookI_cons]
      by_cases hj : j = k
      · rw [if_pos hj]
        cases q : lookI B j with
        | none => rfl
        | some w => exact absurd (List.mem_map_of_mem (f := (·.1)) (lookI_mem q)) (by rw [hj]; exact h.1)
      · rw [if_neg hj, if_neg (by simpa using fun z : k = j => hj z.symm)]
    | succ i =>
      have e' : B[i]? = some (k, v) := by simpa using e
      rw [List.eraseIdx_cons_succ, lookI_cons, lookI_cons, ih h.2 e']
      by_cases hp : p.1 = j
      · have : ¬ j = k := fun z => h.1 (by rw [hp, z]; exact List.mem_map_of_mem (f := (·.1)) (List.mem_of_getElem? e'))
        rw [if_pos hp, if_pos hp, if_neg this]
      · rw [if_neg hp, if_neg hp]
theorem look_set {B : List (Int × α)} (h : (B.map (·.1)).Nodup) {i : Nat} {k : Int} {v w : α} (e : B[i]? = some (k, v)) (j : Int) : lookI (B.set i (k, w)) j = if j = k then some w else lookI B j := by
  induction B generalizing i with
  | nil => simp at e
  | cons p B ih =>
    rw [List.map_cons, List.nodup_cons] at h
    cases i with
    | zero =>
      simp at e; subst e
      rw [List.set_cons_zero, lookI_cons, lookI_cons]
      by_cases hj : j = k
      · subst hj; simp
      · have : ¬ k = j := fun z => hj z.symm
        simp [hj, this]
    | succ i =>
      have e' : B[i]? = some (k, v) := by simpa using e
      rw [List.set_cons_succ, lookI_cons, lookI_cons, ih h.2 e']
      by_cases hp : p.1 = j
      · have : ¬ j = k := fun z => h.1 (by rw [hp, z]; exact List.mem_map_of_mem (f := (·.1)) (List.mem_of_getElem? e'))
        rw [if_pos hp, if_pos hp, if_neg this]
      · rw [if_neg hp, if_neg hp]
theorem swap_perm {B : List α} {i j : Nat} {a b : α} (hi : B[i]? = some a) (hj : B[j]? = some b) : ((B.set i b).set j a).Perm B := by
  obtain ⟨h1, e1⟩ := List.getElem?_eq_some_iff.mp hi
  obtain ⟨h2, e2⟩ := List.getElem?_eq_some_iff.mp hj
  have := Array.swap_perm (xs := B.toArray) (i := i) (j := j) (by simpa) (by simpa)
  rw [Array.perm_iff_toList_perm] at this
  simpa [Array.toList_swap, e1, e2] using this
end
theorem vals_end {k : Nat} {l : List D} {d : D} (h : D.vals k l = true) (hd : d.val k = true) : D.vals k (l ++ [d]) = true := by
  induction l with
  | nil => simp [D.vals, hd]
  | cons a l ih => simp [D.vals] at h ⊢; exact ⟨h.1, ih h.2⟩
theorem val_sign {t : List Nat} {k : Nat} (h : t.all signB = true) : D.val k (.str t) = true := by
  cases k <;> (simp only [D.val]; rw [List.all_eq_true] at h ⊢; intro c hc; have := h c hc; unfold signB at this; simp at this ⊢; omega)
theorem val_int (k : Nat) (i : Int) : D.val k (.int i) = true := by cases k <;> rfl
theorem ev_val : ∀ e : Ev, (match e with | .send _ _ t => t.all signB | .full _ _ t => t.all signB | .spoil _ t => t.all signB | .carry _ _ t => t.all signB | _ => true) = true → (evD e).val 7 = true
  | .send _ _ t, h => by have := val_sign (k := 6) h; simp [evD, D.val, D.vals, sendC, val_int] at this ⊢; exact this
  | .full _ _ t, h => by have := val_sign (k := 6) h; simp [evD, D.val, D.vals, fullC, val_int] at this ⊢; exact this
  | .spoil _ t, h => by have := val_sign (k := 6) h; simp [evD, D.val, D.vals, spoC, val_int] at this ⊢; exact this
  | .carry _ _ t, h => by have := val_sign (k := 6) h; simp [evD, D.val, D.vals, carC, val_int] at this ⊢; exact this
  | .double _ _, _ => by simp [evD, D.val, D.vals, dblC, val_int]
  | .lose _, _ => by simp [evD, D.val, D.vals, losC, val_int]
  | .turn _ _, _ => by simp [evD, D.val, D.vals, turC, val_int]
theorem lv_snoc {L : List Ev} {e : Ev} (h : D.vals 7 (L.map evD) = true) (he : (evD e).val 7 = true) : D.vals 7 ((L ++ [e]).map evD) = true := by
  rw [List.map_append]; exact vals_end h he
structure RO (r : Rd) (o : Ow) : Prop where
  row : r.row = o.row.map (·.1)
  look : ∀ k, lookI r.pieces k = lookI o.row k
  past : r.past = o.log.map evD
  given : r.given = o.given
  nd : (o.row.map (·.1)).Nodup
  bd : ∀ kp ∈ o.row, 0 ≤ kp.1 ∧ kp.1 < o.given
  g0 : 0 ≤ o.given
  pl : r.pieces.length ≤ o.given.toNat
  mx : o.row.length ≤ 200
  tx : ∀ kp ∈ o.row, (1 ≤ kp.2.text.length ∧ kp.2.text.length ≤ 400) ∧ kp.2.text.all signB = true
  ho : ∀ kp ∈ o.row, kp.2.host = 0 ∨ kp.2.host = 1
  lv : D.vals 7 (o.log.map evD) = true
theorem RO.new : RO newRd ⟨[], [], 0⟩ := ⟨rfl, fun _ => rfl, rfl, rfl, List.nodup_nil, fun _ h => (nomatch h), Int.le_refl _, Nat.le_refl _, Nat.zero_le _, fun _ h => (nomatch h), fun _ h => (nomatch h), rfl⟩
section
variable {r : Rd} {o : Ow}
theorem RO.nr (h : RO r o) : D.nrs r.past = true := by rw [h.past]; exact evs_nrs _
theorem RO.rl (h : RO r o) : r.row.length = o.row.length := by rw [h.row]; simp
theorem RO.no (h : RO r o) {k : Int} (hk : k < 0 ∨ o.given ≤ k) : lookI o.row k = none := by
  cases e : lookI o.row k with
  | none => rfl
  | some p => have := h.bd _ (lookI_mem e); simp only at this; omega
theorem RO.put (h : RO r o) (w : List Nat) {p : Pc} (ht : (1 ≤ p.text.length ∧ p.text.length ≤ 400) ∧ p.text.all signB = true) (hh : p.host = 0 ∨ p.host = 1) : RO (r.put w p) (o.put w p) := by
  have hg := h.g0
  have hpl := h.pl
  unfold Rd.put Ow.put
  by_cases c : r.row.length = 200
  · rw [if_pos c, if_pos (show 200 ≤ o.row.length by have := h.rl; omega)]
    refine ⟨h.row, h.look, ?_, by simp [h.given], h.nd, fun kp hkp => ?_, by simp only; omega, by simp only; omega, h.mx, h.tx, h.ho, lv_snoc h.lv (ev_val _ ht.2)⟩
    · simp [h.past, h.given, evD]
    · have := h.bd kp hkp; simp only; omega
  · rw [if_neg c, if_neg (show ¬ 200 ≤ o.row.length by have := h.rl; have := h.mx; omega)]
    have hn : lookI r.pieces r.given = none := by rw [h.look, h.given]; exact h.no (.inr (Int.le_refl _))
    refine ⟨?_, fun k => ?_, ?_, by simp [h.given], ?_, fun kp hkp => ?_, by simp only; omega, ?_, ?_, fun kp hkp => ?_, fun kp hkp => ?_, by simp only; split; exact lv_snoc h.lv (ev_val _ ht.2); exact h.lv⟩
    · simp [h.row, h.given]
    · simp only
      rw [putI_new _ _ _ hn, lookI_app, lookI_app, h.look, h.given]
    · simp only
      split
      · rename_i hw; subst hw; simp [h.past, h.given, evD]
      · exact h.past
    · simp only [List.map_append, List.map_cons, List.map_nil]
      rw [List.nodup_append]
      refine ⟨h.nd, by simp, fun a ha b hb => ?_⟩
      simp at hb; subst hb
      obtain ⟨kp, hkp, rfl⟩ := List.mem_map.mp ha
      have := (h.bd kp hkp).2; omega
    · simp only
      rcases List.mem_append.mp hkp with q | q
      · have := h.bd kp q; omega
      · simp at q; subst q; simp only; omega
    · simp only
      rw [putI_new _ _ _ hn]; simp; omega
    · have := h.rl; have := h.mx; simp; omega
    · rcases List.mem_append.mp hkp with q | q
      · exact h.tx kp q
      · simp at q; subst q; exact ht
    · rcases List.mem_append.mp hkp with q | q
      · exact h.ho kp q
      · simp at q; subst q; exact hh
theorem RO.erase (h : RO r o) {i : Nat} {k : Int} {p : Pc} (e : o.row[i]? = some (k, p)) (x : Ev) (hx : (evD x).val 7 = true) : RO ⟨r.row.eraseIdx i, dropI r.pieces k, r.past ++ [evD x], r.given⟩ { o with row := o.row.eraseIdx i, log := o.log ++ [x] } := by
  have hs : ∀ kp ∈ o.row.eraseIdx i, kp ∈ o.row := fun kp hkp => List.mem_of_mem_eraseIdx hkp
  refine ⟨?_, fun j => ?_, by simp [h.past], h.given, ?_, fun kp hkp => h.bd kp (hs kp hkp), h.g0, ?_, ?_, fun kp hkp => h.tx kp (hs kp hkp), fun kp hkp => h.ho kp (hs kp hkp), lv_snoc h.lv hx⟩
  · simp only; rw [h.row, List.eraseIdx_eq_take_drop_succ, List.eraseIdx_eq_take_drop_succ]; simp
  · simp only; rw [lookI_drop, look_erase h.nd e, h.look]
  · exact h.nd.sublist ((List.eraseIdx_sublist _ _).map _)
  · simp only; have := dropI_len r.pieces k; have := h.pl; omega
  · simp only; have := List.length_eraseIdx_le o.row i; have := h.mx; omega
theorem RO.swap (h : RO r o) {i j : Nat} {kp lq : Int × Pc} (hi : o.row[i]? = some kp) (hj : o.row[j]? = some lq) (x : Ev) (hx : (evD x).val 7 = true) : RO { r with row := (r.row.set i lq.1).set j kp.1, past := r.past ++ [evD x] } { o with row := (o.row.set i lq).set j kp, log := o.log ++ [x] } := by
  have pm := swap_perm hi hj
  have nd2 : (((o.row.set i lq).set j kp).map (·.1)).Nodup := (pm.map _).nodup_iff.mpr h.nd
  refine ⟨by simp [h.row], fun k => ?_, by simp [h.past], h.given, nd2, fun kp hkp => h.bd kp (pm.mem_iff.mp hkp), h.g0, h.pl, by simp [h.mx], fun kp hkp => h.tx kp (pm.mem_iff.mp hkp), fun kp hkp => h.ho kp (pm.mem_iff.mp hkp), lv_snoc h.lv hx⟩
  simp only
  rw [h.look]
  exact look_ext h.nd nd2 (fun x => pm.mem_iff.symm) k
theorem spoT_ok {t s : List Nat} {a : Nat} (ht : (1 ≤ t.length ∧ t.length ≤ 400) ∧ t.all signB = true) (ha : a < t.length) (hs : s.length = 1) (hs2 : s.all signB = true) : (1 ≤ (spoT t a s).length ∧ (spoT t a s).length ≤ 400) ∧ (spoT t a s).all signB = true := by
  unfold spoT
  obtain ⟨⟨h1, h2⟩, h3⟩ := ht
  refine ⟨by simp; omega, ?_⟩
  rw [List.all_eq_true] at h3 hs2 ⊢
  intro c hc
  simp only [List.mem_append] at hc
  rcases hc with (hc | hc) | hc
  · exact h3 c (List.mem_of_mem_take hc)
  · exact hs2 c hc
  · exact h3 c (List.mem_of_mem_drop hc)
theorem RO.spoil (h : RO r o) {i : Nat} {k : Int} {p p' : Pc} (hi : o.row[i]? = some (k, p)) (hp : (1 ≤ p'.text.length ∧ p'.text.length ≤ 400) ∧ p'.text.all signB = true) (hh : p'.host = p.host) (x : Ev) (hx : (evD x).val 7 = true) : RO { r with pieces := putI r.pieces k p', past := r.past ++ [evD x] } { o with row := o.row.set i (k, p'), log := o.log ++ [x] } := by
  have hl := (List.getElem?_eq_some_iff.mp hi)
  obtain ⟨hl, hv⟩ := hl
  have hke : (o.row.set i (k, p')).map (·.1) = o.row.map (·.1) := by
    rw [List.map_set]
    apply List.ext_getElem?
    intro m
    by_cases e : i = m
    · subst e; rw [List.getElem?_set_self (by simpa), List.getElem?_map, hi]; rfl
    · rw [List.getElem?_set_ne e]
  refine ⟨by simp only; rw [hke, h.row], fun j => ?_, by simp [h.past], h.given, by rw [hke]; exact h.nd, fun kp hkp => ?_, h.g0, ?_, by simp [h.mx], fun kp hkp => ?_, fun kp hkp => ?_, lv_snoc h.lv hx⟩
  · simp only; rw [lookI_put, look_set h.nd hi, h.look]
  · rcases List.mem_or_eq_of_mem_set hkp with q | q
    · exact h.bd kp q
    · subst q; exact h.bd (k, p) (List.mem_of_getElem? hi)
  · simp only
    have : lookI r.pieces k = some p := by rw [h.look]; exact look_at h.nd hi
    unfold putI
    rw [any_look, this]; simp; exact h.pl
  · rcases List.mem_or_eq_of_mem_set hkp with q | q
    · exact h.tx kp q
    · subst q; exact hp
  · rcases List.mem_or_eq_of_mem_set hkp with q | q
    · exact h.ho kp q
    · subst q; have := h.ho (k, p) (List.mem_of_getElem? hi); simp only at this ⊢; rw [hh]; exact this
end

def askR (n : Nat) : Dd → Store → Out D
  | .send h t => P.Road_send [.ref n, .int h, .str t]
  | .carry i => P.Road_carry [.ref n, .int i]
  | .lose i => P.Road_lose [.ref n, .int i]
  | .double i => P.Road_double [.ref n, .int i]
  | .turn i j => P.Road_turn [.ref n, .int i, .int j]
  | .spoil i a s => P.Road_spoil [.ref n, .int i, .int a, .str s]
def Dd.good : Dd → Prop
  | .send h t => (h = 0 ∨ h = 1) ∧ (1 ≤ t.length ∧ t.length ≤ 400) ∧ t.all signB = true
  | .spoil _ _ s => s.length = 1 ∧ s.all signB = true
  | _ => True
section
variable {r : Rd} {o : Ow} {st : Store} {n a b c : Nat}
theorem ixP_in {i : Int} {k : Nat} (h0 : 0 ≤ i) (h1 : i < k) : ixP (.int i) k = some i.toNat := by
  unfold ixP; simp only; rw [if_pos ⟨h0, h1⟩]
theorem ixP_out {i : Int} {k : Nat} (h : ¬ (0 ≤ i ∧ i < k)) : ixP (.int i) k = none := by
  unfold ixP; simp only; rw [if_neg h]
theorem RO.k (hR : RO r o) {i : Int} (hi : o.in i) {kp : Int × Pc} (e : o.row[i.toNat]? = some kp) : r.k (.int i) = some kp.1 ∧ ixP (.int i) r.row.length = some i.toNat := by
  have h1 : ixP (.int i) r.row.length = some i.toNat := by rw [hR.rl]; exact ixP_in hi.1 hi.2
  refine ⟨?_, h1⟩
  unfold Rd.k
  rw [h1, Option.bind_some, hR.row, List.getElem?_map, e]; rfl
theorem RO.k_out (hR : RO r o) {i : Int} (hi : ¬ o.in i) : r.k (.int i) = none ∧ ixP (.int i) r.row.length = none := by
  have h1 : ixP (.int i) r.row.length = none := by rw [hR.rl]; exact ixP_out hi
  exact ⟨by unfold Rd.k; rw [h1]; rfl, h1⟩
theorem RO.okr (hR : RO r o) (hg : o.given ≤ 60000) (hl : o.log.length ≤ 60000) : r.ok ∧ r.past.length ≤ 60000 := by
  have h1 := hR.rl; have h2 := hR.mx; have h3 := hR.pl
  have h4 : r.past.length = o.log.length := by rw [hR.past]; simp
  exact ⟨⟨by omega, by omega, by omega⟩, by omega⟩
theorem ask_step (hA : RdAt st n r a b c) (hR : RO r o) (hg : o.given ≤ 60000) (hl : o.log.length ≤ 60000) {x : Dd} (hx : x.good) :
    (o.sound x = [] ∧ ∃ r' o' v m, o.done x = some (o', v, m) ∧ RO r' o' ∧ askR n x st = .ok v (rdSet st n a b c r')) ∨ (o.sound x = nopC ∧ askR n x st = .exn .NoPiece st) ∨ (o.sound x = nodC ∧ askR n x st = .exn .NoDeed st) := by
  have hrd := rdOf_mk hA
  obtain ⟨hok, hpl⟩ := hR.okr hg hl
  have inLook : ∀ {i : Int} {kp : Int × Pc}, o.row[i.toNat]? = some kp → lookI r.pieces kp.1 = some kp.2 := fun {i kp} e => by
    rw [hR.look]; exact look_at hR.nd e
  cases x with
  | send h t =>
    obtain ⟨h1, h2, h3⟩ := hx
    refine .inl ⟨rfl, r.put sendC ⟨h, t, false⟩, o.put sendC ⟨h, t, false⟩, .int o.given, false, rfl, hR.put _ ⟨h2, h3⟩ h1, ?_⟩
    simp only [askR, P.Road_send, hrd]
    rw [if_pos ⟨hok, by omega⟩, if_pos ⟨by omega, h3, h2⟩, hR.given]
  | carry i =>
    by_cases hi : o.in i
    · obtain ⟨kp, k1, _⟩ := ow_at hi
      obtain ⟨e1, e2⟩ := hR.k hi k1
      have e3 := inLook k1
      obtain ⟨k, p⟩ := kp
      refine .inl ⟨by simp only [Ow.sound, if_pos hi], r.carry i.toNat k p, { o with row := o.row.eraseIdx i.toNat, log := o.log ++ [.carry k p.host p.text] }, .tup [.int p.host, .str p.text], true, by simp only [Ow.done, k1, Option.map_some], hR.erase k1 (.carry k p.host p.text) (ev_val _ (hR.tx _ (List.mem_of_getElem? k1)).2), ?_⟩
      simp only at e1 e3
      simp only [askR, P.Road_carry, hrd, ty_int, e1, e2, e3]
      rw [if_pos hok]
    · obtain ⟨e1, e2⟩ := hR.k_out hi
      refine .inr (.inl ⟨by simp only [Ow.sound, if_neg hi], ?_⟩)
      simp only [askR, P.Road_carry, hrd, ty_int, e1]
      rw [if_pos hok]
  | lose i =>
    by_cases hi : o.in i
    · obtain ⟨kp, k1, _⟩ := ow_at hi
      obtain ⟨e1, e2⟩ := hR.k hi k1
      have e3 := inLook k1
      obtain ⟨k, p⟩ := kp
      refine .inl ⟨by simp only [Ow.sound, if_pos hi], r.lose i.toNat k, { o with row := o.row.eraseIdx i.toNat, log := o.log ++ [.lose k] }, .non, true, by simp only [Ow.done, k1, Option.map_some], hR.erase k1 (.lose k) (ev_val _ rfl), ?_⟩
      simp only at e1 e3
      simp only [askR, P.Road_lose, hrd, ty_int, e1, e2, e3]
      rw [if_pos hok]
    · obtain ⟨e1, e2⟩ := hR.k_out hi
      refine .inr (.inl ⟨by simp only [Ow.sound, if_neg hi], ?_⟩)
      simp only [askR, P.Road_lose, hrd, ty_int, e1]
      rw [if_pos hok]
  | double i =>
    by_cases hi : o.in i
    · obtain ⟨kp, k1, _⟩ := ow_at hi
      obtain ⟨e1, e2⟩ := hR.k hi k1
      have e3 := inLook k1
      obtain ⟨k, p⟩ := kp
      have hm := List.mem_of_getElem? k1
      have hR1 : RO { r with past := r.past ++ [.tup [.str dblC, .int k, .int r.given]] } { o with log := o.log ++ [.double k o.given] } :=
        ⟨hR.row, hR.look, by simp [hR.past, hR.given, evD], hR.given, hR.nd, hR.bd, hR.g0, hR.pl, hR.mx, hR.tx, hR.ho, lv_snoc hR.lv (ev_val _ rfl)⟩
      refine .inl ⟨by simp only [Ow.sound, if_pos hi], r.double k p, ({ o with log := o.log ++ [.double k o.given] } : Ow).put dblC p, .int o.given, false, by simp only [Ow.done, k1, Option.map_some], hR1.put _ (hR.tx _ hm) (hR.ho _ hm), ?_⟩
      simp only at e1 e3
      simp only [askR, P.Road_double, hrd, ty_int, e1, e3]
      rw [if_pos ⟨hok, by omega⟩, hR.given]
    · obtain ⟨e1, e2⟩ := hR.k_out hi
      refine .inr (.inl ⟨by simp only [Ow.sound, if_neg hi], ?_⟩)
      simp only [askR, P.Road_double, hrd, ty_int, e1]
      rw [if_pos ⟨hok, by omega⟩]
  | turn i j =>
    by_cases hi : o.in i
    · obtain ⟨kp, k1, _⟩ := ow_at hi
      obtain ⟨e1, e2⟩ := hR.k hi k1
      by_cases hj : o.in j
      · obtain ⟨lq, q1, _⟩ := ow_at hj
        obtain ⟨f1, f2⟩ := hR.k hj q1
        refine .inl ⟨by simp only [Ow.sound, if_pos (And.intro hi hj)], r.turn i.toNat j.toNat kp.1 lq.1, _, .non, false, by simp only [Ow.done, k1, q1, Option.map_some, Option.bind_some], hR.swap k1 q1 (.turn kp.1 lq.1) (ev_val _ rfl), ?_⟩
        simp only [askR, P.Road_turn, hrd, ty_int, e1, e2, f1, f2]
        rw [if_pos hok]
      · obtain ⟨f1, f2⟩ := hR.k_out hj
        refine .inr (.inl ⟨by simp only [Ow.sound]; rw [if_neg (fun z => hj z.2)], ?_⟩)
        simp only [askR, P.Road_turn, hrd, ty_int, e1, e2, f1, f2]
        rw [if_pos hok]
    · obtain ⟨e1, e2⟩ := hR.k_out hi
      refine .inr (.inl ⟨by simp only [Ow.sound]; rw [if_neg (fun z => hi z.1)], ?_⟩)
      simp only [askR, P.Road_turn, hrd, ty_int, e1, e2]
      rw [if_pos hok]
  | spoil i a0 s =>
    obtain ⟨hs1, hs2⟩ := hx
    by_cases hi : o.in i
    · obtain ⟨kp, k1, _⟩ := ow_at hi
      obtain ⟨e1, e2⟩ := hR.k hi k1
      have e3 := inLook k1
      obtain ⟨k, p⟩ := kp
      have hm := List.mem_of_getElem? k1
      obtain ⟨⟨t1, t2⟩, t3⟩ := hR.tx _ hm
      simp only at e1 e3 t1 t2 t3
      by_cases hc : p.sp = true ∨ a0 < 0 ∨ (p.text.length : Int) ≤ a0 ∨ (p.text[a0.toNat]?).map (fun c => [c]) = some s
      · refine .inr (.inr ⟨by simp only [Ow.sound, if_pos hi, k1, if_pos hc], ?_⟩)
        simp only [askR, P.Road_spoil, hrd, ty_int, ty_str, e1, e3]
        rw [if_pos hok, if_pos (by omega)]
        by_cases hsp : p.sp = true
        · rw [if_pos hsp]
        · rw [if_neg hsp]
          have hc := hc.resolve_left hsp
          by_cases hb : 0 ≤ a0 ∧ a0 < p.text.length
          · rw [ixP_in hb.1 hb.2]
            simp only
            rw [if_pos (by omega), if_neg]
            rintro ⟨_, _, z⟩
            rcases hc with q | q | q
            · omega
            · omega
            · exact z q
          · rw [ixP_out hb]
      · simp only [not_or] at hc
        obtain ⟨c1, c2, c3, c4⟩ := hc
        refine .inl ⟨by simp only [Ow.sound, if_pos hi, k1]; rw [if_neg (by simp only [not_or]; exact ⟨c1, c2, c3, c4⟩)], r.spoil k p a0.toNat s, _, .non, false, by simp only [Ow.done, k1, Option.map_some], hR.spoil k1 (p' := ⟨p.host, spoT p.text a0.toNat s, true⟩) (spoT_ok ⟨⟨t1, t2⟩, t3⟩ (by omega) hs1 hs2) rfl (.spoil k (spoT p.text a0.toNat s)) (ev_val _ (spoT_ok ⟨⟨t1, t2⟩, t3⟩ (by omega) hs1 hs2).2), ?_⟩
        simp only [askR, P.Road_spoil, hrd, ty_int, ty_str, e1, e3]
        rw [if_pos hok, if_pos (by omega), if_neg c1, ixP_in (by omega) (by omega)]
        simp only
        rw [if_pos (by omega), if_pos ⟨hs2, hs1, c4⟩]
    · obtain ⟨e1, e2⟩ := hR.k_out hi
      refine .inr (.inl ⟨by simp only [Ow.sound, if_neg hi], ?_⟩)
      simp only [askR, P.Road_spoil, hrd, ty_int, ty_str, e1]
      rw [if_pos hok]
end
end DL
set_option maxHeartbeats 2000000
/-! Pyb: deeds drawn for a road; how both stand. -/
namespace DL
open PySem L2
def ownPlace (x cnt : Int) (b : Prop) [Decidable b] : Int := if b then x % (cnt + 2) - 1 else x % max 1 cnt
def ownSize (x4 x5 : Int) : Int := if x5 % 24 = 0 then 400 - x4 % 3 else if x5 % 4 = 0 then 1 + x4 % 120 else 1 + x4 % 12
def ownAt (x3 x4 : Int) : Int := if x3 % 12 = 0 then x4 % 401 else if x3 % 3 = 0 then x4 % 120 else x4 % 14 - (if x4 % 9 = 0 then 1 else 0)
def ownDeed (x0 x1 x2 x3 x4 x5 cnt : Int) : Dd :=
  if x0 % 12 < 4 then .send (x1 % 2) (signs2 x3 (ownSize x4 x5).toNat)
  else if x0 % 12 = 10 then .turn (ownPlace x1 cnt (x2 % 8 = 0)) (ownPlace x3 cnt (x2 / 8 % 8 = 0))
  else if 7 < x0 % 12 then .spoil (ownPlace x1 cnt (x2 % 8 = 0)) (ownAt x3 x4) (signs2 (3 * x5) 1)
  else if x0 % 12 = 4 then .carry (ownPlace x1 cnt (x2 % 8 = 0)) else if x0 % 12 = 5 then .lose (ownPlace x1 cnt (x2 % 8 = 0)) else .double (ownPlace x1 cnt (x2 % 8 = 0))
def ownDraw (c cnt : Int) : Dd := match streamL c 6 with
  | [x0, x1, x2, x3, x4, x5] => ownDeed x0 x1 x2 x3 x4 x5 cnt
  | _ => .carry 0
def P.own_deed : FM := fun ds st => match ds with
  | [.int c, .int cnt] => if 0 ≤ cnt ∧ cnt ≤ 100000 then .ok (ddD (ownDraw c cnt)) st else .bad
  | _ => .bad
open Classical in
noncomputable def P.own_stands : FM := fun ds st => match ds with
  | [.ref n, .ref m] => match rdOf st n, owOf st m with
    | some (r, _, _, _), some (o, _, _) => if RO r o ∧ o.given ≤ 60000 ∧ o.log.length ≤ 60000 then .ok (.bl true) st else .bad
    | _, _ => .bad
  | _ => .bad
def P.b_own_deed : SM := (sSeq (sSet 2 (eCall DL.P.stream (eCons (eVar 0) (eCons (eC (.int 6)) eNil))))
    (sSeq (sSet 3 (e2 oMod (e2 oIx (eVar 2) (eC (.int 0))) (eC (.int 12))))
    (sSeq (sSet 4 (e2 oIx (eLst (eCons (e2 oMod (e2 oIx (eVar 2) (eC (.int 1))) (e1 oMax (eCons (eC (.int 1)) (eCons (eVar 1) eNil)))) (eCons (e2 oSub (e2 oMod (e2 oIx (eVar 2) (eC (.int 1))) (e2 oAdd (eVar 1) (eC (.int 2)))) (eC (.int 1))) eNil))) (e1 oInt (eCons (e2 oEq (e2 oMod (e2 oIx (eVar 2) (eC (.int 2))) (eC (.int 8))) (eC (.int 0))) eNil))))
    (sSeq (sSet 5 (e2 oIx (eLst (eCons (e2 oMod (e2 oIx (eVar 2) (eC (.int 3))) (e1 oMax (eCons (eC (.int 1)) (eCons (eVar 1) eNil)))) (eCons (e2 oSub (e2 oMod (e2 oIx (eVar 2) (eC (.int 3))) (e2 oAdd (eVar 1) (eC (.int 2)))) (eC (.int 1))) eNil))) (e1 oInt (eCons (e2 oEq (e2 oMod (e2 oDiv (e2 oIx (eVar 2) (eC (.int 2))) (eC (.int 8))) (eC (.int 8))) (eC (.int 0))) eNil))))
    (sSeq (sIf (tB (e2 oLt (eVar 3) (eC (.int 4))))
    (sSeq (sSet 6 (e2 oIx (eLst (eCons (e2 oAdd (eC (.int 1)) (e2 oMod (e2 oIx (eVar 2) (eC (.int 4))) (eC (.int 12)))) (eCons (e2 oAdd (eC (.int 1)) (e2 oMod (e2 oIx (eVar 2) (eC (.int 4))) (eC (.int 120)))) (eCons (e2 oSub (eC (.int 400)) (e2 oMod (e2 oIx (eVar 2) (eC (.int 4))) (eC (.int 3)))) eNil)))) (e2 oAdd (e1 oInt (eCons (e2 oEq (e2 oMod (e2 oIx (eVar 2) (eC (.int 5))) (eC (.int 4))) (eC (.int 0))) eNil)) (e1 oInt (eCons (e2 oEq (e2 oMod (e2 oIx (eVar 2) (eC (.int 5))) (eC (.int 24))) (eC (.int 0))) eNil)))))
    (sRet (eTup (eCons (eC (.str [115, 101, 110, 100])) (eCons (e2 oMod (e2 oIx (eVar 2) (eC (.int 1))) (eC (.int 2))) (eCons (eCall DL.P.signs2 (eCons (e2 oIx (eVar 2) (eC (.int 3))) (eCons (eVar 6) eNil))) eNil))))))
    sSkip)
    (sSeq (sIf (tB (e2 oEq (eVar 3) (eC (.int 10))))
    (sRet (eTup (eCons (eC (.str [116, 117, 114, 110])) (eCons (eVar 4) (eCons (eVar 5) eNil)))))
    sSkip)
    (sSeq (sIf (tB (e2 oGt (eVar 3) (eC (.int 7))))
    (sSeq (sSet 7 (e2 oIx (eLst (eCons (e2 oSub (e2 oMod (e2 oIx (eVar 2) (eC (.int 4))) (eC (.int 14))) (e1 oInt (eCons (e2 oEq (e2 oMod (e2 oIx (eVar 2) (eC (.int 4))) (eC (.int 9))) (eC (.int 0))) eNil))) (eCons (e2 oMod (e2 oIx (eVar 2) (eC (.int 4))) (eC (.int 120))) (eCons (e2 oMod (e2 oIx (eVar 2) (eC (.int 4))) (eC (.int 401))) eNil)))) (e2 oAdd (e1 oInt (eCons (e2 oEq (e2 oMod (e2 oIx (eVar 2) (eC (.int 3))) (eC (.int 3))) (eC (.int 0))) eNil)) (e1 oInt (eCons (e2 oEq (e2 oMod (e2 oIx (eVar 2) (eC (.int 3))) (eC (.int 12))) (eC (.int 0))) eNil)))))
    (sRet (eTup (eCons (eC (.str [115, 112, 111, 105, 108])) (eCons (eVar 4) (eCons (eVar 7) (eCons (eCall DL.P.signs2 (eCons (e2 oMul (eC (.int 3)) (e2 oIx (eVar 2) (eC (.int 5)))) (eCons (eC (.int 1)) eNil))) eNil)))))))
    sSkip)
    (sRet (e2 oIx (eLst (eCons (eTup (eCons (eC (.str [99, 97, 114, 114, 121])) (eCons (eVar 4) eNil))) (eCons (eTup (eCons (eC (.str [108, 111, 115, 101])) (eCons (eVar 4) eNil))) (eCons (eTup (eCons (eC (.str [100, 111, 117, 98, 108, 101])) (eCons (eVar 4) eNil))) (eCons (eTup (eCons (eC (.str [100, 111, 117, 98, 108, 101])) (eCons (eVar 4) eNil))) eNil))))) (e2 oSub (eVar 3) (eC (.int 4))))))))))))
def P.m_own_deed : FM := fnM 2 8 P.b_own_deed

noncomputable def P.b_own_stands : SM := (sSeq (sSet 2 (eMeth .Road DL.P.Road_flying (eVar 0) eNil))
    (sSeq (sSet 3 (eMeth .Road DL.P.Road_log (eVar 0) eNil))
    (sSeq (sIf (tOrD (tNotD (tB (eIsi "list" (eVar 2)))) (tOrD (tNotD (tB (eIsi "list" (eVar 3)))) (tB (e2 oNe (eVar 3) (e2 oDget (eVar 1) (eC (.str [108, 111, 103])))))))
    (sRet (eC (.bl false)))
    sSkip)
    (sSeq (sIf (tB (e2 oNe (eVar 2) (eComp (iSeq (e2 oDget (eVar 1) (eC (.str [114, 111, 119])))) (tName 4) tYesD (eTup (eCons (e2 oIx (eVar 4) (eC (.int 0))) (eCons (e2 oIx (eVar 4) (eC (.int 1))) eNil))) [4])))
    (sRet (eC (.bl false)))
    sSkip)
    (sSeq (sDo (eBM "list" mAppend (eVar 2) (eCons (eTup (eCons (eC (.int 0)) (eCons (eC (.int 0)) eNil))) eNil)))
    (sSeq (sDo (eBM "list" mAppend (eVar 3) (eCons (eTup (eCons (eC (.str [108, 111, 115, 101])) (eCons (eC (.int 0)) eNil))) eNil)))
    (sSeq (sFor (iSeq (e2 oDget (eVar 1) (eC (.str [114, 111, 119])))) (tName 4)
    (sIf (tB (e2 oNe (eMeth .Road DL.P.Road_text_of (eVar 0) (eCons (e2 oIx (eVar 4) (eC (.int 0))) eNil)) (e2 oIx (eVar 4) (eC (.int 2)))))
    (sRet (eC (.bl false)))
    sSkip))
    (sSeq (sIf (tOrD (tB (e2 oNotN (eMeth .Road DL.P.Road_text_of (eVar 0) (eCons (e2 oDget (eVar 1) (eC (.str [103, 105, 118, 101, 110]))) eNil)) (eC .non))) (tB (e2 oNotN (eMeth .Road DL.P.Road_text_of (eVar 0) (eCons (e1 oNeg (eC (.int 1))) eNil)) (eC .non))))
    (sRet (eC (.bl false)))
    sSkip)
    (sRet (eAnd (e2 oEq (e1 oLen (eCons (eMeth .Road DL.P.Road_flying (eVar 0) eNil) eNil)) (e1 oLen (eCons (e2 oDget (eVar 1) (eC (.str [114, 111, 119]))) eNil))) (e2 oEq (e1 oLen (eCons (eMeth .Road DL.P.Road_log (eVar 0) eNil) eNil)) (e1 oLen (eCons (e2 oDget (eVar 1) (eC (.str [108, 111, 103]))) eNil)))))))))))))
noncomputable def P.m_own_stands : FM := fnM 2 5 P.b_own_stands


theorem size_bd (x4 x5 : Int) : 1 ≤ ownSize x4 x5 ∧ ownSize x4 x5 ≤ 400 := by
  unfold ownSize; split
  · omega
  · split <;> omega
theorem draw_good (c cnt : Int) : (ownDraw c cnt).good := by
  unfold ownDraw
  split
  · rename_i x0 x1 x2 x3 x4 x5 _
    unfold ownDeed
    have hb := size_bd x4 x5
    have h2 : x1 % 2 = 0 ∨ x1 % 2 = 1 := by omega
    split
    · exact ⟨h2, by rw [signs2_len]; omega, signs2_ok _ _⟩
    · split
      · trivial
      · split
        · exact ⟨signs2_len _ _, signs2_ok _ _⟩
        · split
          · trivial
          · split <;> trivial
  · trivial
theorem six_of {α : Type} {l : List α} (h : l.length = 6) : ∃ a b c d e f, l = [a, b, c, d, e, f] := by
  match l, h with
  | [a, b, c, d, e, f], _ => exact ⟨a, b, c, d, e, f, rfl⟩
theorem P.tell_own_deed : ∀ (st : Store) (ds : List D), st.Ok → D.ltAll st.length ds = true → Tell st (P.own_deed ds st) (P.m_own_deed ds st) := by
  intro st ds ok lt
  unfold P.own_deed
  split
  · rename_i c cnt
    split
    · rename_i h
      refine tell_pure ok (by cases ownDraw c cnt <;> simp [ddD, D.nr, D.nrs]) ?_
      obtain ⟨h0, h1⟩ := h
      unfold ownDraw
      have hl : (streamL c 6).length = 6 := streamL_len c 6
      have hst := P.stream_eq (st := st) (c := c) (m := 6) (by omega) (by omega)
      obtain ⟨x0, x1, x2, x3, x4, x5, e⟩ := six_of hl
      simp only [show (6 : Int).toNat = 6 from rfl] at hst
      rw [e] at hst ⊢
      simp only [List.map_cons, List.map_nil] at hst
      have hm : 0 < max 1 cnt := by omega
      have hc2 : 0 < cnt + 2 := by omega
      have hs := size_bd x4 x5
      have hsg := fun st => P.signs2_eq (st := st) (c := x3) (k := ownSize x4 x5) (by omega) (by omega)
      have hsg1 := fun st => P.signs2_eq (st := st) (c := 3 * x5) (k := 1) (by omega) (by omega)
      rw [P.m_own_deed]
      have hp : ∀ (b : Prop) [Decidable b] (x : Int), atI [D.int (x % max 1 cnt), .int (x % (cnt + 2) - 1)] (if b then 1 else 0) = some (.int (ownPlace x cnt b)) := fun b _ x => by
        unfold ownPlace; split <;> rfl
      have hz : atI [D.int (1 + x4 % 12), .int (1 + x4 % 120), .int (400 - x4 % 3)] ((if x5 % 4 = 0 then 1 else 0) + (if x5 % 24 = 0 then 1 else 0)) = some (.int (ownSize x4 x5)) := by
        unfold ownSize
        by_cases q : x5 % 24 = 0
        · have : x5 % 4 = 0 := by omega
          rw [if_pos q, if_pos q, if_pos this]; rfl
        · rw [if_neg q, if_neg q]
          split <;> rfl
      have ha : atI [D.int (x4 % 14 - if x4 % 9 = 0 then 1 else 0), .int (x4 % 120), .int (x4 % 401)] ((if x3 % 3 = 0 then 1 else 0) + (if x3 % 12 = 0 then 1 else 0)) = some (.int (ownAt x3 x4)) := by
        unfold ownAt
        by_cases q : x3 % 12 = 0
        · have : x3 % 3 = 0 := by omega
          rw [if_pos q, if_pos q, if_pos this]; rfl
        · rw [if_neg q, if_neg q]
          by_cases q3 : x3 % 3 = 0
          · rw [if_pos q3, if_pos q3]; rfl
          · rw [if_neg q3, if_neg q3]; rfl
      unfold ownDeed
      by_cases c1 : x0 % 12 < 4
      · simp [P.b_own_deed, hst, oMax, hc2, hm, hp, hz, c1, hsg, ddD, sendC]
      · by_cases c2 : x0 % 12 = 10
        · simp [P.b_own_deed, hst, oMax, hc2, hm, hp, c2, ddD, turC]
        · by_cases c3 : 7 < x0 % 12
          · simp [P.b_own_deed, hst, oMax, hc2, hm, hp, ha, c1, c2, c3, hsg1, ddD, spoC]
          · by_cases c4 : x0 % 12 = 4
            · simp [P.b_own_deed, hst, oMax, hc2, hm, hp, c4, ddD, carC]
            · by_cases c5 : x0 % 12 = 5
              · simp [P.b_own_deed, hst, oMax, hc2, hm, hp, c5, ddD, losC]
              · have c6 : x0 % 12 = 6 ∨ x0 % 12 = 7 := by omega
                rcases c6 with c6 | c6 <;> simp [P.b_own_deed, hst, oMax, hc2, hm, hp, c6, ddD, dblC]
    · exact .bad
  · exact .bad
theorem P.tell_own_stands : ∀ (st : Store) (ds : List D), st.Ok → D.ltAll st.length ds = true → Tell st (P.own_stands ds st) (P.m_own_stands ds st) := by
  intro st ds ok lt
  unfold P.own_stands
  split
  · rename_i n m
    split
    · rename_i r a b c o p q hr ho
      split
      · rename_i hc
        obtain ⟨hR, hg, hl⟩ := hc
        have hrd := rdOf_eq hr
        have how := owOf_eq ho
        obtain ⟨hok, hpl⟩ := hR.okr hg hl
        refine tell_pure ok rfl ?_
        have hall : (r.row.all fun k => (lookI r.pieces k).isSome) = true := by
          rw [List.all_eq_true]; intro k hk
          rw [hR.row] at hk
          obtain ⟨kp, hkp, rfl⟩ := List.mem_map.mp hk
          rw [hR.look, lookI_of_mem hR.nd hkp]; rfl
        have hfm : (r.row.map fun k => D.tup [.int k, .int ((lookI r.pieces k).map (·.host) |>.getD 0)]) = o.row.map fun kp => D.tup [.int kp.1, .int kp.2.host] := by
          rw [hR.row, List.map_map]
          refine List.map_congr_left fun kp hkp => ?_
          simp only [Function.comp_apply]
          rw [hR.look, lookI_of_mem hR.nd hkp]; rfl
        have rdg : ∀ g, rdOf (st ++ g) n = some (r, a, b, c) := fun g => rdOf_mk (RdAt.mk (get_old hrd.hn) (get_old hrd.ha) (get_old hrd.hb) (get_old hrd.hc) hrd.nr hrd.ac)
        have fl : ∀ g, P.Road_flying [.ref n] (st ++ g) = .ok (.ref (st.length + g.length)) (st ++ (g ++ [.lst (o.row.map fun kp => D.tup [.int kp.1, .int kp.2.host])])) := fun g => by
          simp only [P.Road_flying, rdg]
          rw [if_pos ⟨hok, hall⟩, hfm]; simp
        have lg : ∀ g, P.Road_log [.ref n] (st ++ g) = .ok (.ref (st.length + g.length)) (st ++ (g ++ [.lst (o.log.map evD)])) := fun g => by
          simp only [P.Road_log, rdg]
          rw [if_pos hok, hR.past]; simp
        have tx : ∀ (k : Int) g, P.Road_text_of [.ref n, .int k] (st ++ g) = .ok (match lookI o.row k with | some p => .str p.text | none => .non) (st ++ g) := fun k g => by
          simp only [P.Road_text_of, rdg, hR.look]
          all_goals (cases lookI o.row k <;> rfl)
        have hn : ∀ g, (st ++ g)[n]? = some (rdO r a b c) := fun g => get_old hrd.hn
        have hm : ∀ g, (st ++ g)[m]? = some (owO p q o.given) := fun g => get_old how.hn
        have hp : ∀ g, (st ++ g)[p]? = some (.lst (o.row.map rwD)) := fun g => get_old how.hp
        have hq : ∀ g, (st ++ g)[q]? = some (.lst (o.log.map evD)) := fun g => get_old how.hq
        have fl0 := fl []
        simp only [List.append_nil, List.nil_append, List.length_nil, Nat.add_zero] at fl0
        have lg0 := lg []
        have hlv := hR.lv
        have hfv : D.vals 7 (o.row.map fun kp => D.tup [.int kp.1, .int kp.2.host]) = true := by
          have : ∀ l : List (Int × Pc), D.vals 7 (l.map fun kp => D.tup [.int kp.1, .int kp.2.host]) = true := fun l => by
            induction l with
            | nil => rfl
            | cons a l ih => simp only [List.map_cons, D.vals, ih, Bool.and_true]; simp [D.val, D.vals]
          exact this _
        have heq : ∀ (S : Store) (i j : Nat) (l : List D), S[i]? = some (.lst l) → S[j]? = some (.lst l) → D.vals 7 l = true → eqD (.ref i) (.ref j) S = some true := fun S i j l h1 h2 hv => by
          rw [eqD_refs (a := l) (b := l) (by simp [h1]) (by simp [h2]) hv hv, eqBs_refl _ (nrs_of_val _ hv)]
        have e1 : eqD (.ref (st.length + 1)) (.ref q) (st ++ [Ob.lst (o.row.map fun kp => D.tup [.int kp.1, .int kp.2.host]), Ob.lst (o.log.map evD)]) = some true := heq _ _ _ _ (by rw [getAk]; rfl) (hq _) hlv
        have e2 : eqD (.ref st.length) (.ref (st.length + 2)) (st ++ [Ob.lst (o.row.map fun kp => D.tup [.int kp.1, .int kp.2.host]), Ob.lst (o.log.map evD), Ob.lst (o.row.map fun kp => D.tup [.int kp.1, .int kp.2.host])]) = some true := heq _ _ _ _ (by rw [getA0]; rfl) (by rw [getAk]; rfl) hfv
        have m1 : o.row.length ≤ 200 := hR.mx
        have l1 : o.row.length < sizeLine := hL5' (by omega)
        have l2 : o.log.length < sizeLine := hL5' (by omega)
        have l3 : o.row.length ≤ sizeLine := hL5 (by omega)
        have hgiv : lookI o.row o.given = none := hR.no (.inr (Int.le_refl _))
        have hneg : lookI o.row (-1) = none := hR.no (.inl (by omega))
        rw [P.m_own_stands]
        simp [P.b_own_stands, hrd.hn, fl0, hn, lg, hm, hp, hq, e1]
        generalize hr : compK _ _ _ _ _ _ _ = r
        obtain rfl := compK_r hr o.row rwD (fun _ => true) (fun kp => .tup [.int kp.1, .int kp.2.host]) (by simp [hp]) l3 (fun kp hkp a => by simp [wipeD, rwD])
        simp [filt_yes, e2, l1, l2, hp]
        generalize hG : [Ob.lst (List.map (fun kp : Int × Pc => D.tup [.int kp.1, .int kp.2.host]) o.row ++ [D.tup [.int 0, .int 0]]), Ob.lst (List.map evD o.log ++ [D.tup [.str [108, 111, 115, 101], .int 0]]), Ob.lst (List.map (fun kp : Int × Pc => D.tup [.int kp.1, .int kp.2.host]) o.row)] = G
        simp [hm, hp]
        generalize hr2 : forK _ _ _ _ _ = r2
        obtain ⟨e, s, rfl, rfl, x, rfl⟩ := forK_inv hr2 o.row rwD (fun pre e s => s = st ++ G ∧ ∃ x, e = [some (.ref n), some (.ref m), some (.ref st.length), some (.ref (st.length + 1)), x]) (fun pre e s ⟨h, _⟩ => by subst h; simp [hp]) (by have : fuel = 100000000 := rfl; omega) ⟨rfl, _, rfl⟩
          (fun pre x post e s hL ⟨h1, y, h2⟩ => by
            subst h1; subst h2
            have hx : lookI o.row x.1 = some x.2 := lookI_of_mem hR.nd (by rw [hL]; simp)
            simp [rwD, hn, tx, hx])
        simp [hn, hm, hp, hq, tx, hgiv, hneg, fl, lg]
      · exact .bad
    · exact .bad
  · exact .bad
end DL
set_option maxHeartbeats 2000000
/-! Pyc: what the log of a road tells, plainly. -/
namespace DL
open PySem L2
def sentFold : List Ev → List (Int × List Nat) → Option (List (Int × List Nat))
  | [], B => some B
  | e :: l, B => (sentStep B e).bind fun B' => sentFold l B'
theorem sentFold_app : ∀ (L M : List Ev) (B : List (Int × List Nat)), sentFold (L ++ M) B = (sentFold L B).bind fun B' => sentFold M B'
  | [], M, B => rfl
  | e :: L, M, B => by
    simp only [List.cons_append, sentFold]
    cases sentStep B e with
    | none => rfl
    | some B' => simp only [Option.bind_some]; exact sentFold_app L M B'
theorem sentGo_app (k : Int) : ∀ (L M : List Ev) (B B' : List (Int × List Nat)) (x : Option (List Nat)), sentFold L B = some B' → sentGo k L B = some x → sentGo k (L ++ M) B = match x with
    | some t => some (some t)
    | none => sentGo k M B'
  | [], M, B, B', x, h1, h2 => by cases h1; cases h2; rfl
  | e :: L, M, B, B', x, h1, h2 => by
    simp only [List.cons_append, sentFold, sentGo] at h1 h2 ⊢
    cases z : sentStep B e with
    | none => rw [z] at h1; cases h1
    | some C =>
      rw [z] at h1 h2
      simp only [Option.bind_some] at h1 h2 ⊢
      cases y : lookI C k with
      | some t => rw [y] at h2; cases h2; rfl
      | none => rw [y] at h2; exact sentGo_app k L M C B' x h1 h2
def fAt (F : List (List Nat)) (k : Int) : Option (List Nat) := if 0 ≤ k then F[k.toNat]? else none
theorem fAt_snoc (F : List (List Nat)) (t : List Nat) (k : Int) : fAt (F ++ [t]) k = match fAt F k with
    | some u => some u
    | none => if k = F.length then some t else none := by
  unfold fAt
  by_cases h : 0 ≤ k
  · rw [if_pos h, if_pos h]
    by_cases c : k.toNat < F.length
    · rw [List.getElem?_append_left c, List.getElem?_eq_getElem c]
    · rw [List.getElem?_eq_none (l := F) (by omega), List.getElem?_append_right (by omega)]
      by_cases e : k = F.length
      · subst e; simp
      · have : k.toNat - F.length ≠ 0 := by omega
        rw [if_neg e]; simp; omega
  · rw [if_neg h, if_neg h]; simp only; rw [if_neg (by omega)]
theorem fAt_some {F : List (List Nat)} {k : Int} : (fAt F k).isSome = decide (0 ≤ k ∧ k < F.length) := by
  unfold fAt
  by_cases h : 0 ≤ k
  · rw [if_pos h]
    by_cases c : k.toNat < F.length
    · rw [List.getElem?_eq_getElem c]; simp; omega
    · rw [List.getElem?_eq_none (by omega)]; simp; omega
  · rw [if_neg h]; simp; omega
structure LG (o : Ow) (F : List (List Nat)) (B : List (Int × List Nat)) : Prop where
  gv : o.given = F.length
  fo : sentFold o.log [] = some B
  dm : ∀ k, (lookI B k).isSome = decide (0 ≤ k ∧ k < o.given)
  cu : ∀ kp ∈ o.row, lookI B kp.1 = some kp.2.text
  go : ∀ k, sentGo k o.log [] = some (fAt F k)
  gn : ∀ k, o.log.any (goneE k) = decide (0 ≤ k ∧ k < o.given ∧ k ∉ o.row.map (·.1))
theorem LG.new : LG ⟨[], [], 0⟩ [] [] := ⟨rfl, rfl, fun k => by simp, fun _ h => (nomatch h), fun k => by unfold fAt; split <;> simp [sentGo], fun k => by simp⟩
section
variable {r : Rd} {o : Ow} {F : List (List Nat)} {B : List (Int × List Nat)}
/-- a row of the log that changes no piece's birth -/
theorem LG.quiet (h : LG o F B) {e : Ev} {B' : List (Int × List Nat)} (hs : sentStep B e = some B') (hd : ∀ k, (lookI B' k).isSome = (lookI B k).isSome) (k : Int) : sentGo k (o.log ++ [e]) [] = some (fAt F k) := by
  rw [sentGo_app k _ _ _ _ _ h.fo (h.go k)]
  cases z : fAt F k with
  | some t => rfl
  | none =>
    simp only [sentGo, hs, Option.bind_some]
    have h1 := h.dm k
    have h2 := @fAt_some F k
    rw [z, ← h.gv, ← h1, ← hd k] at h2
    cases y : lookI B' k with
    | none => rfl
    | some t => rw [y] at h2; simp at h2
theorem LG.birth (h : LG o F B) {e : Ev} {B' : List (Int × List Nat)} {t : List Nat} (hs : sentStep B e = some B') (hd : ∀ k, lookI B' k = if k = o.given then some t else lookI B k) (k : Int) : sentGo k (o.log ++ [e]) [] = some (fAt (F ++ [t]) k) := by
  rw [sentGo_app k _ _ _ _ _ h.fo (h.go k), fAt_snoc]
  cases z : fAt F k with
  | some t => rfl
  | none =>
    simp only [sentGo, hs, Option.bind_some]
    have h1 := h.dm k
    have h2 := @fAt_some F k
    rw [z, ← h.gv, ← h1] at h2
    rw [hd k]
    by_cases e : k = o.given
    · rw [if_pos e, if_pos (by rw [e]; exact h.gv)]
    · rw [if_neg e, if_neg (by rw [← h.gv]; exact e)]
      cases y : lookI B k with
      | none => rfl
      | some t => rw [y] at h2; simp at h2
theorem fold_snoc {L : List Ev} {e : Ev} {B B' : List (Int × List Nat)} (h : sentFold L [] = some B) (hs : sentStep B e = some B') : sentFold (L ++ [e]) [] = some B' := by
  rw [sentFold_app, h]; simp only [Option.bind_some, sentFold, hs]
theorem any_snoc {L : List Ev} {e : Ev} {k : Int} : (L ++ [e]).any (goneE k) = (L.any (goneE k) || goneE k e) := by simp
theorem key_lt (hR : RO r o) {k : Int} (h : k ∈ o.row.map (·.1)) : 0 ≤ k ∧ k < o.given := by
  obtain ⟨kp, hkp, rfl⟩ := List.mem_map.mp h
  exact hR.bd kp hkp
/-- sending, doubling: first the row that gives birth, told as `e` where the road has room -/
theorem LG.put_send (hR : RO r o) (h : LG o F B) (p : Pc) : LG (o.put sendC p) (F ++ [p.text]) (putI B o.given p.text) := by
  have hg := h.gv
  have hdm : ∀ k, (lookI (putI B o.given p.text) k).isSome = decide (0 ≤ k ∧ k < o.given + 1) := fun k => by
    rw [lookI_put]
    by_cases e : k = o.given
    · rw [if_pos e]; have := hR.g0; simp; omega
    · rw [if_neg e, h.dm]; have := hR.g0; congr 1; rw [eq_iff_iff]; omega
  have hlk : ∀ k, lookI (putI B o.given p.text) k = if k = o.given then some p.text else lookI B k := fun k => lookI_put ..
  unfold Ow.put
  by_cases c : 200 ≤ o.row.length
  · rw [if_pos c]
    refine ⟨by simp [hg], fold_snoc h.fo rfl, hdm, fun kp hkp => ?_, fun k => h.birth (e := .full o.given p.host p.text) rfl hlk k, fun k => ?_⟩
    · rw [lookI_put, if_neg (by have := (hR.bd kp hkp).2; omega)]; exact h.cu kp hkp
    · simp only [any_snoc, h.gn, goneE]
      have hk : k ∈ o.row.map (·.1) → 0 ≤ k ∧ k < o.given := key_lt hR
      have := hR.g0
      rw [Bool.eq_iff_iff]; simp only [Bool.or_eq_true, decide_eq_true_eq]
      constructor
      · rintro (⟨q1, q2, q3⟩ | q)
        · exact ⟨q1, by omega, q3⟩
        · exact ⟨by omega, by omega, fun z => by have := hk z; omega⟩
      · rintro ⟨q1, q2, q3⟩
        by_cases e : o.given = k
        · exact .inr e
        · exact .inl ⟨q1, by omega, q3⟩
  · rw [if_neg c, if_pos rfl]
    refine ⟨by simp [hg], fold_snoc h.fo rfl, hdm, fun kp hkp => ?_, fun k => h.birth (e := .send o.given p.host p.text) rfl hlk k, fun k => ?_⟩
    · rcases List.mem_append.mp hkp with q | q
      · rw [lookI_put, if_neg (by have := (hR.bd kp q).2; omega)]; exact h.cu kp q
      · simp at q; subst q; rw [lookI_put, if_pos rfl]
    · simp only [any_snoc, h.gn, goneE, Bool.or_false]
      have hk : k ∈ o.row.map (·.1) → 0 ≤ k ∧ k < o.given := key_lt hR
      have := hR.g0
      rw [Bool.eq_iff_iff]; simp only [decide_eq_true_eq, List.map_append, List.map_cons, List.map_nil, List.mem_append, List.mem_singleton, not_or]
      constructor
      · rintro ⟨q1, q2, q3⟩; exact ⟨q1, by omega, q3, by omega⟩
      · rintro ⟨q1, q2, q3, q4⟩; exact ⟨q1, by omega, q3⟩
theorem LG.put_double (hR : RO r o) (h : LG o F B) {k0 : Int} {p : Pc} (hm : (k0, p) ∈ o.row) : ∃ B', LG (({ o with log := o.log ++ [.double k0 o.given] } : Ow).put dblC p) (F ++ [p.text]) B' := by
  have hg := h.gv
  have hk0 := h.cu _ hm
  simp only at hk0
  have hst : sentStep B (.double k0 o.given) = some (putI B o.given p.text) := by simp [sentStep, hk0]
  have hdm : ∀ k, (lookI (putI B o.given p.text) k).isSome = decide (0 ≤ k ∧ k < o.given + 1) := fun k => by
    rw [lookI_put]
    by_cases e : k = o.given
    · rw [if_pos e]; have := hR.g0; simp; omega
    · rw [if_neg e, h.dm]; have := hR.g0; congr 1; rw [eq_iff_iff]; omega
  have hlk : ∀ k, lookI (putI B o.given p.text) k = if k = o.given then some p.text else lookI B k := fun k => lookI_put ..
  have hgo := h.birth hst hlk
  have hfo := fold_snoc h.fo hst
  have hcu : ∀ kp ∈ o.row, lookI (putI B o.given p.text) kp.1 = some kp.2.text := fun kp q => by
    rw [lookI_put, if_neg (by have := (hR.bd kp q).2; omega)]; exact h.cu kp q
  unfold Ow.put
  by_cases c : 200 ≤ o.row.length
  · rw [if_pos c]
    have hlk2 : ∀ k, lookI (putI (putI B o.given p.text) o.given p.text) k = lookI (putI B o.given p.text) k := fun k => by
      rw [lookI_put, lookI_put]; by_cases e : k = o.given <;> simp [e]
    refine ⟨putI (putI B o.given p.text) o.given p.text, by simp [hg], fold_snoc hfo rfl, fun k => by rw [hlk2]; exact hdm k, fun kp hkp => by rw [hlk2]; exact hcu kp hkp, fun k => ?_, fun k => ?_⟩
    · simp only
      rw [sentGo_app k _ _ _ _ _ hfo (hgo k)]
      cases z : fAt (F ++ [p.text]) k with
      | some t => rfl
      | none =>
        simp only [sentGo, sentStep, Option.bind_some, hlk2]
        have h2 := @fAt_some (F ++ [p.text]) k
        have h3 := hdm k
        rw [z] at h2
        cases y : lookI (putI B o.given p.text) k with
        | none => rfl
        | some t => rw [y] at h3; simp [hg] at h2 h3; omega
    · simp only [any_snoc, h.gn, goneE, Bool.or_false]
      have hk : k ∈ o.row.map (·.1) → 0 ≤ k ∧ k < o.given := key_lt hR
      have := hR.g0
      rw [Bool.eq_iff_iff]; simp only [Bool.or_eq_true, decide_eq_true_eq]
      constructor
      · rintro (⟨q1, q2, q3⟩ | q)
        · exact ⟨q1, by omega, q3⟩
        · exact ⟨by omega, by omega, fun z => by have := hk z; omega⟩
      · rintro ⟨q1, q2, q3⟩
        by_cases e : o.given = k
        · exact .inr e
        · exact .inl ⟨q1, by omega, q3⟩
  · have hne : ¬ dblC = sendC := by decide
    rw [if_neg c, if_neg hne]
    refine ⟨putI B o.given p.text, by simp [hg], hfo, hdm, fun kp hkp => ?_, hgo, fun k => ?_⟩
    · rcases List.mem_append.mp hkp with q | q
      · exact hcu kp q
      · simp at q; subst q; rw [lookI_put, if_pos rfl]
    · simp only [any_snoc, h.gn, goneE, Bool.or_false]
      have hk : k ∈ o.row.map (·.1) → 0 ≤ k ∧ k < o.given := key_lt hR
      have := hR.g0
      rw [Bool.eq_iff_iff]; simp only [decide_eq_true_eq, List.map_append, List.map_cons, List.map_nil, List.mem_append, List.mem_singleton, not_or]
      constructor
      · rintro ⟨q1, q2, q3⟩; exact ⟨q1, by omega, q3, by omega⟩
      · rintro ⟨q1, q2, q3, q4⟩; exact ⟨q1, by omega, q3⟩
theorem LG.erase (hR : RO r o) (h : LG o F B) {i : Nat} {k0 : Int} {p : Pc} (hi : o.row[i]? = some (k0, p)) {e : Ev} (he : sentStep B e = some B) (hg : ∀ k, goneE k e = decide (k0 = k)) : LG { o with row := o.row.eraseIdx i, log := o.log ++ [e] } F B := by
  have hb := hR.bd _ (List.mem_of_getElem? hi)
  refine ⟨h.gv, fold_snoc h.fo he, h.dm, fun kp hkp => h.cu kp (List.mem_of_mem_eraseIdx hkp), fun k => h.quiet he (fun _ => rfl) k, fun k => ?_⟩
  have hk : k ∈ (o.row.eraseIdx i).map (·.1) ↔ k ∈ o.row.map (·.1) ∧ k ≠ k0 := by
    have nd2 := hR.nd.sublist ((List.eraseIdx_sublist o.row i).map (·.1))
    have := look_erase hR.nd hi k
    rw [← look_key, ← look_key, this]
    by_cases c : k = k0 <;> simp [c]
  simp only [any_snoc, h.gn, hg]
  rw [Bool.eq_iff_iff]; simp only [Bool.or_eq_true, decide_eq_true_eq, hk]
  simp only at hb
  constructor
  · rintro (⟨q1, q2, q3⟩ | q)
    · exact ⟨q1, q2, fun z => q3 z.1⟩
    · subst q; exact ⟨hb.1, hb.2, fun z => z.2 rfl⟩
  · rintro ⟨q1, q2, q3⟩
    by_cases c : k0 = k
    · exact .inr c
    · exact .inl ⟨q1, q2, fun z => q3 ⟨z, fun w => c w.symm⟩⟩
theorem LG.swap (h : LG o F B) {i j : Nat} {kp lq : Int × Pc} (hi : o.row[i]? = some kp) (hj : o.row[j]? = some lq) (a b : Int) : LG { o with row := (o.row.set i lq).set j kp, log := o.log ++ [.turn a b] } F B := by
  have pm := swap_perm hi hj
  refine ⟨h.gv, fold_snoc h.fo rfl, h.dm, fun kp hkp => h.cu kp (pm.mem_iff.mp hkp), fun k => h.quiet rfl (fun _ => rfl) k, fun k => ?_⟩
  simp only [any_snoc, h.gn, goneE, Bool.or_false, (pm.map _).mem_iff]
theorem LG.spoil (hR : RO r o) (h : LG o F B) {i : Nat} {k0 : Int} {p p' : Pc} (hi : o.row[i]? = some (k0, p)) : LG { o with row := o.row.set i (k0, p'), log := o.log ++ [.spoil k0 p'.text] } F (putI B k0 p'.text) := by
  have hm := List.mem_of_getElem? hi
  have hb := hR.bd _ hm
  simp only at hb
  have hd : ∀ k, (lookI (putI B k0 p'.text) k).isSome = (lookI B k).isSome := fun k => by
    rw [lookI_put]
    by_cases c : k = k0
    · rw [if_pos c, c]; have := h.cu _ hm; simp only at this; rw [this]; rfl
    · rw [if_neg c]
  have hke : (o.row.set i (k0, p')).map (·.1) = o.row.map (·.1) := by
    rw [List.map_set]
    apply List.ext_getElem?
    intro m
    by_cases e : i = m
    · subst e; rw [List.getElem?_set_self (by simpa using (List.getElem?_eq_some_iff.mp hi).1), List.getElem?_map, hi]; rfl
    · rw [List.getElem?_set_ne e]
  refine ⟨h.gv, fold_snoc h.fo rfl, fun k => by rw [hd]; exact h.dm k, fun kp hkp => ?_, fun k => h.quiet (e := .spoil k0 p'.text) rfl hd k, fun k => ?_⟩
  · have nd2 : ((o.row.set i (k0, p')).map (·.1)).Nodup := by rw [hke]; exact hR.nd
    have h1 := lookI_of_mem nd2 (k := kp.1) (v := kp.2) hkp
    rw [look_set hR.nd hi] at h1
    rw [lookI_put]
    by_cases c : kp.1 = k0
    · rw [if_pos c] at h1 ⊢; cases h1; rfl
    · rw [if_neg c] at h1 ⊢
      have := h.cu _ (lookI_mem h1); simpa using this
  · simp only [any_snoc, h.gn, goneE, Bool.or_false, hke]
def newF (o : Ow) : Dd → List (List Nat)
  | .send _ t => [t]
  | .double i => match o.row[i.toNat]? with
    | some kp => [kp.2.text]
    | none => []
  | _ => []
theorem LG.step (hR : RO r o) (h : LG o F B) {x : Dd} (hs : o.sound x = []) {o' : Ow} {v : D} {m : Bool} (hd : o.done x = some (o', v, m)) : ∃ B', LG o' (F ++ newF o x) B' := by
  have hin := sound_in hs
  cases x with
  | send a t => simp only [Ow.done] at hd; cases hd; exact ⟨_, h.put_send hR ⟨a, t, false⟩⟩
  | carry i =>
    obtain ⟨kp, k1, _⟩ := ow_at hin
    simp only [Ow.done, k1, Option.map_some] at hd; cases hd
    simp only [newF, List.append_nil]
    exact ⟨_, h.erase hR (k0 := kp.1) (p := kp.2) k1 (by rfl) (fun k => by simp [goneE])⟩
  | lose i =>
    obtain ⟨kp, k1, _⟩ := ow_at hin
    simp only [Ow.done, k1, Option.map_some] at hd; cases hd
    simp only [newF, List.append_nil]
    exact ⟨_, h.erase hR (k0 := kp.1) (p := kp.2) k1 (by rfl) (fun k => by simp [goneE])⟩
  | double i =>
    obtain ⟨kp, k1, _⟩ := ow_at hin
    simp only [Ow.done, k1, Option.map_some] at hd; cases hd
    simp only [newF, k1]
    exact h.put_double hR (List.mem_of_getElem? k1)
  | turn i j =>
    obtain ⟨hi, hj⟩ := hin
    obtain ⟨kp, k1, _⟩ := ow_at hi
    obtain ⟨lq, q1, _⟩ := ow_at hj
    simp only [Ow.done, k1, q1, Option.map_some, Option.bind_some] at hd; cases hd
    simp only [newF, List.append_nil]
    exact ⟨_, h.swap k1 q1 _ _⟩
  | spoil i a s =>
    obtain ⟨hi, kp, k1, _⟩ := hin
    simp only [Ow.done, k1, Option.map_some] at hd; cases hd
    simp only [newF, List.append_nil]
    exact ⟨_, h.spoil hR (k0 := kp.1) (p := kp.2) (p' := ⟨kp.2.host, spoT kp.2.text a.toNat s, true⟩) k1⟩
end
theorem RO.stepD {r : Rd} {o : Ow} (hR : RO r o) (hg : o.given ≤ 60000) (hl : o.log.length ≤ 60000) {x : Dd} (hx : x.good) (hs : o.sound x = []) : ∃ r' o' v m, o.done x = some (o', v, m) ∧ RO r' o' := by
  have hA : RdAt [rdO r 1 2 3, rdA r, rdB r, rdC r] 0 r 1 2 3 := ⟨rfl, rfl, rfl, rfl, hR.nr, by decide⟩
  rcases ask_step hA hR hg hl hx with ⟨_, r', o', v, m, h1, h2, _⟩ | ⟨h, _⟩ | ⟨h, _⟩
  · exact ⟨r', o', v, m, h1, h2⟩
  · rw [hs] at h; exact absurd h (by decide)
  · rw [hs] at h; exact absurd h (by decide)
theorem ow_ok {r : Rd} {o : Ow} (hR : RO r o) (hl : o.log.length ≤ 50000) : o.ok := by
  refine ⟨by have := hR.mx; omega, hl, ?_⟩
  rw [List.all_eq_true]; intro kp hkp
  have := (hR.tx kp hkp).1.2; simp; omega
theorem good_small {x : Dd} (h : x.good) : x.small := by
  cases x <;> simp only [Dd.small, Dd.good] at h ⊢
  have := h.1; omega
theorem done_given {o o' : Ow} {x : Dd} {v : D} {m : Bool} (h : o.done x = some (o', v, m)) : o'.given ≤ o.given + 1 ∧ o'.log.length ≤ o.log.length + 2 := by
  have hp : ∀ (o : Ow) w p, (o.put w p).given ≤ o.given + 1 ∧ (o.put w p).log.length ≤ o.log.length + 1 := fun o w p => by
    unfold Ow.put; split
    · simp
    · simp only; split <;> simp
  cases x with
  | send a t => simp only [Ow.done] at h; cases h; have := hp o sendC ⟨a, t, false⟩; omega
  | double i =>
    simp only [Ow.done] at h
    cases z : o.row[i.toNat]? with
    | none => rw [z] at h; cases h
    | some kp => rw [z] at h; cases h; have := hp { o with log := o.log ++ [.double kp.1 o.given] } dblC kp.2; simp at this ⊢; omega
  | carry i =>
    simp only [Ow.done] at h
    cases z : o.row[i.toNat]? with
    | none => rw [z] at h; cases h
    | some kp => rw [z] at h; cases h; simp; omega
  | lose i =>
    simp only [Ow.done] at h
    cases z : o.row[i.toNat]? with
    | none => rw [z] at h; cases h
    | some kp => rw [z] at h; cases h; simp; omega
  | turn i j =>
    simp only [Ow.done] at h
    cases z : o.row[i.toNat]? with
    | none => rw [z] at h; cases h
    | some kp =>
      rw [z] at h
      cases y : o.row[j.toNat]? with
      | none => rw [y] at h; cases h
      | some lq => rw [y] at h; cases h; simp; omega
  | spoil i a s =>
    simp only [Ow.done] at h
    cases z : o.row[i.toNat]? with
    | none => rw [z] at h; cases h
    | some kp => rw [z] at h; cases h; simp; omega
theorem rdSet_ne {st : Store} {n a b c i : Nat} {r : Rd} (h1 : i ≠ n) (h2 : i ≠ a) (h3 : i ≠ b) (h4 : i ≠ c) : (rdSet st n a b c r)[i]? = st[i]? := by
  unfold rdSet
  rw [List.getElem?_set_ne (Ne.symm h1), List.getElem?_set_ne (Ne.symm h4), List.getElem?_set_ne (Ne.symm h3), List.getElem?_set_ne (Ne.symm h2)]
theorem RdAt.app {S : Store} {n : Nat} {r : Rd} {a b c : Nat} (h : RdAt S n r a b c) (g : Store) : RdAt (S ++ g) n r a b c := ⟨get_old h.hn, get_old h.ha, get_old h.hb, get_old h.hc, h.nr, h.ac⟩
theorem RdAt.upd {st : Store} {n a b c : Nat} {r0 : Rd} (h : RdAt st n r0 a b c) {r : Rd} (hr : D.nrs r.past = true) : RdAt (rdSet st n a b c r) n r a b c := rdOf_eq (h.up hr)
theorem RdAt.eqv {st st' : Store} {n a b c : Nat} {r0 : Rd} (h : RdAt st n r0 a b c) (h1 : st'[n]? = st[n]?) (h2 : st'[a]? = st[a]?) (h3 : st'[b]? = st[b]?) (h4 : st'[c]? = st[c]?) : RdAt st' n r0 a b c := ⟨by rw [h1]; exact h.hn, by rw [h2]; exact h.ha, by rw [h3]; exact h.hb, by rw [h4]; exact h.hc, h.nr, h.ac⟩
theorem OwAt.eqv {st st' : Store} {n p q : Nat} {o : Ow} (h : OwAt st n p q o) (h1 : st'[n]? = st[n]?) (h2 : st'[p]? = st[p]?) (h3 : st'[q]? = st[q]?) : OwAt st' n p q o := ⟨by rw [h1]; exact h.hn, by rw [h2]; exact h.hp, by rw [h3]; exact h.hq, h.pq⟩
def flO (o : Ow) : List D := o.row.map fun kp => D.tup [.int kp.1, .int kp.2.host]
theorem flO_vals (o : Ow) : D.vals 7 (flO o) = true := by
  have : ∀ l : List (Int × Pc), D.vals 7 (l.map fun kp => D.tup [.int kp.1, .int kp.2.host]) = true := fun l => by
    induction l with
    | nil => rfl
    | cons a l ih => simp only [List.map_cons, D.vals, ih, Bool.and_true]; simp [D.val, D.vals]
  exact this _
theorem fly_run {st : Store} {n a b c : Nat} {r : Rd} {o : Ow} (hA : RdAt st n r a b c) (hR : RO r o) (hg : o.given ≤ 60000) (hl : o.log.length ≤ 60000) : P.Road_flying [.ref n] st = .ok (.ref st.length) (st ++ [.lst (flO o)]) := by
  obtain ⟨hok, _⟩ := hR.okr hg hl
  have hall : (r.row.all fun k => (lookI r.pieces k).isSome) = true := by
    rw [List.all_eq_true]; intro k hk
    rw [hR.row] at hk
    obtain ⟨kp, hkp, rfl⟩ := List.mem_map.mp hk
    rw [hR.look, lookI_of_mem hR.nd hkp]; rfl
  have hfm : (r.row.map fun k => D.tup [.int k, .int ((lookI r.pieces k).map (·.host) |>.getD 0)]) = flO o := by
    unfold flO
    rw [hR.row, List.map_map]
    refine List.map_congr_left fun kp hkp => ?_
    simp only [Function.comp_apply]
    rw [hR.look, lookI_of_mem hR.nd hkp]; rfl
  simp only [P.Road_flying, rdOf_mk hA]
  rw [if_pos ⟨hok, hall⟩, hfm]
theorem log_run {st : Store} {n a b c : Nat} {r : Rd} {o : Ow} (hA : RdAt st n r a b c) (hR : RO r o) (hg : o.given ≤ 60000) (hl : o.log.length ≤ 60000) : P.Road_log [.ref n] st = .ok (.ref st.length) (st ++ [.lst (o.log.map evD)]) := by
  obtain ⟨hok, _⟩ := hR.okr hg hl
  simp only [P.Road_log, rdOf_mk hA]
  rw [if_pos hok, hR.past]
theorem tof_run {st : Store} {n a b c : Nat} {r : Rd} {o : Ow} (hA : RdAt st n r a b c) (hR : RO r o) (k : Int) : P.Road_text_of [.ref n, .int k] st = .ok (match lookI o.row k with | some p => .str p.text | none => .non) st := by
  simp only [P.Road_text_of, rdOf_mk hA, hR.look]
  all_goals (cases lookI o.row k <;> rfl)
theorem stands_run {st : Store} {n a b c m p q : Nat} {r : Rd} {o : Ow} (hA : RdAt st n r a b c) (hO : OwAt st m p q o) (hR : RO r o) (hg : o.given ≤ 60000) (hl : o.log.length ≤ 60000) : P.own_stands [.ref n, .ref m] st = .ok (.bl true) st := by
  simp only [P.own_stands, rdOf_mk hA, owOf_mk hO]
  rw [if_pos ⟨hR, hg, hl⟩]
end DL

/-! law_k48_what_a_log_tells: the mirrors of its defs -/
namespace L_k48
open PySem L2 DL
noncomputable section
def b_law_begun : SM := (sRet (eDisp [[114, 111, 119], [108, 111, 103], [103, 105, 118, 101, 110]] (eCons (eLst eNil) (eCons (eLst eNil) (eCons (eC (.int 0)) eNil)))))
def m_law_begun : FM := fnM 0 0 b_law_begun

def b_law_signs : SM := (sSeq (sSet 2 (eC (.str [32, 33, 34, 35, 36, 38, 39, 40, 41, 42, 43, 44, 45, 46, 47, 48, 49, 50, 51, 52, 53, 54, 55, 56, 57, 58, 59, 60, 61, 62, 63, 64, 65, 66, 67, 68, 69, 70, 71, 72, 73, 74, 75, 76, 77, 78, 79, 80, 81, 82, 83, 84, 85, 86, 87, 88, 89, 90, 91, 92, 93, 94, 95, 96, 97, 98, 99, 100, 101, 102, 103, 104, 105, 106, 107, 108, 109, 110, 111, 112, 113, 114, 115, 116, 117, 118, 119, 120, 121, 122, 123, 124, 125, 126])))
    (sSeq (sIf (tB (e2 oEq (e2 oMod (eVar 0) (eC (.int 3))) (eC (.int 0))))
    (sRet (eBM "str" mJoin (eC (.str [])) (eCons (eComp (iRng1D (eVar 1)) (tName 3) tYesD (e2 oIx (eVar 2) (e2 oMod (e2 oDiv (eVar 0) (eC (.int 3))) (eC (.int 94)))) [3]) eNil)))
    sSkip)
    (sRet (eBM "str" mJoin (eC (.str [])) (eCons (eComp (iRng1D (eVar 1)) (tName 3) tYesD (e2 oIx (eVar 2) (e2 oMod (e2 oAdd (e2 oDiv (eVar 0) (eC (.int 3))) (e2 oMul (eVar 3) (e2 oAdd (eC (.int 1)) (e2 oMod (e2 oDiv (eVar 0) (eC (.int 282))) (eC (.int 93)))))) (eC (.int 94)))) [3]) eNil)))))
def m_law_signs : FM := fnM 2 4 b_law_signs

def b_law_stream : SM := (sSeq (sSet 2 (eLst eNil))
    (sSeq (sSet 3 (e2 oAdd (e2 oMod (eVar 0) (eC (.int 2147483647))) (eC (.int 48271))))
    (sSeq (sFor (iRng1D (e2 oAdd (eVar 1) (eC (.int 1)))) (tName 4)
    (sSeq (sSet 3 (e2 oMod (e2 oAdd (e2 oAdd (e2 oMul (eVar 3) (eVar 3)) (e2 oMul (eC (.int 48271)) (eVar 3))) (eVar 4)) (eC (.int 2147483647))))
    (sDo (eBM "list" mAppend (eVar 2) (eCons (eVar 3) eNil)))))
    (sRet (eSli (eVar 2) (oSo (eC (.int 1))) oNo)))))
def m_law_stream : FM := fnM 2 5 b_law_stream

def b_law_deed : SM := (sSeq (sSet 2 (eCall DL.P.stream (eCons (eVar 0) (eCons (eC (.int 6)) eNil))))
    (sSeq (sSet 3 (e2 oMod (e2 oIx (eVar 2) (eC (.int 0))) (eC (.int 12))))
    (sSeq (sSet 4 (e2 oIx (eLst (eCons (e2 oMod (e2 oIx (eVar 2) (eC (.int 1))) (e1 oMax (eCons (eC (.int 1)) (eCons (eVar 1) eNil)))) (eCons (e2 oSub (e2 oMod (e2 oIx (eVar 2) (eC (.int 1))) (e2 oAdd (eVar 1) (eC (.int 2)))) (eC (.int 1))) eNil))) (e1 oInt (eCons (e2 oEq (e2 oMod (e2 oIx (eVar 2) (eC (.int 2))) (eC (.int 8))) (eC (.int 0))) eNil))))
    (sSeq (sSet 5 (e2 oIx (eLst (eCons (e2 oMod (e2 oIx (eVar 2) (eC (.int 3))) (e1 oMax (eCons (eC (.int 1)) (eCons (eVar 1) eNil)))) (eCons (e2 oSub (e2 oMod (e2 oIx (eVar 2) (eC (.int 3))) (e2 oAdd (eVar 1) (eC (.int 2)))) (eC (.int 1))) eNil))) (e1 oInt (eCons (e2 oEq (e2 oMod (e2 oDiv (e2 oIx (eVar 2) (eC (.int 2))) (eC (.int 8))) (eC (.int 8))) (eC (.int 0))) eNil))))
    (sSeq (sIf (tB (e2 oLt (eVar 3) (eC (.int 4))))
    (sSeq (sSet 6 (e2 oIx (eLst (eCons (e2 oAdd (eC (.int 1)) (e2 oMod (e2 oIx (eVar 2) (eC (.int 4))) (eC (.int 12)))) (eCons (e2 oAdd (eC (.int 1)) (e2 oMod (e2 oIx (eVar 2) (eC (.int 4))) (eC (.int 120)))) (eCons (e2 oSub (eC (.int 400)) (e2 oMod (e2 oIx (eVar 2) (eC (.int 4))) (eC (.int 3)))) eNil)))) (e2 oAdd (e1 oInt (eCons (e2 oEq (e2 oMod (e2 oIx (eVar 2) (eC (.int 5))) (eC (.int 4))) (eC (.int 0))) eNil)) (e1 oInt (eCons (e2 oEq (e2 oMod (e2 oIx (eVar 2) (eC (.int 5))) (eC (.int 24))) (eC (.int 0))) eNil)))))
    (sRet (eTup (eCons (eC (.str [115, 101, 110, 100])) (eCons (e2 oMod (e2 oIx (eVar 2) (eC (.int 1))) (eC (.int 2))) (eCons (eCall DL.P.signs2 (eCons (e2 oIx (eVar 2) (eC (.int 3))) (eCons (eVar 6) eNil))) eNil))))))
    sSkip)
    (sSeq (sIf (tB (e2 oEq (eVar 3) (eC (.int 10))))
    (sRet (eTup (eCons (eC (.str [116, 117, 114, 110])) (eCons (eVar 4) (eCons (eVar 5) eNil)))))
    sSkip)
    (sSeq (sIf (tB (e2 oGt (eVar 3) (eC (.int 7))))
    (sSeq (sSet 7 (e2 oIx (eLst (eCons (e2 oSub (e2 oMod (e2 oIx (eVar 2) (eC (.int 4))) (eC (.int 14))) (e1 oInt (eCons (e2 oEq (e2 oMod (e2 oIx (eVar 2) (eC (.int 4))) (eC (.int 9))) (eC (.int 0))) eNil))) (eCons (e2 oMod (e2 oIx (eVar 2) (eC (.int 4))) (eC (.int 120))) (eCons (e2 oMod (e2 oIx (eVar 2) (eC (.int 4))) (eC (.int 401))) eNil)))) (e2 oAdd (e1 oInt (eCons (e2 oEq (e2 oMod (e2 oIx (eVar 2) (eC (.int 3))) (eC (.int 3))) (eC (.int 0))) eNil)) (e1 oInt (eCons (e2 oEq (e2 oMod (e2 oIx (eVar 2) (eC (.int 3))) (eC (.int 12))) (eC (.int 0))) eNil)))))
    (sRet (eTup (eCons (eC (.str [115, 112, 111, 105, 108])) (eCons (eVar 4) (eCons (eVar 7) (eCons (eCall DL.P.signs2 (eCons (e2 oMul (eC (.int 3)) (e2 oIx (eVar 2) (eC (.int 5)))) (eCons (eC (.int 1)) eNil))) eNil)))))))
    sSkip)
    (sRet (e2 oIx (eLst (eCons (eTup (eCons (eC (.str [99, 97, 114, 114, 121])) (eCons (eVar 4) eNil))) (eCons (eTup (eCons (eC (.str [108, 111, 115, 101])) (eCons (eVar 4) eNil))) (eCons (eTup (eCons (eC (.str [100, 111, 117, 98, 108, 101])) (eCons (eVar 4) eNil))) (eCons (eTup (eCons (eC (.str [100, 111, 117, 98, 108, 101])) (eCons (eVar 4) eNil))) eNil))))) (e2 oSub (eVar 3) (eC (.int 4))))))))))))
def m_law_deed : FM := fnM 2 8 b_law_deed

def b_law_put : SM := (sSeq (sSet 5 (e2 oDget (eVar 0) (eC (.str [103, 105, 118, 101, 110]))))
    (sSeq (sSub (eVar 0) (eC (.str [103, 105, 118, 101, 110])) (e2 oAdd (eVar 5) (eC (.int 1))))
    (sSeq (sIf (tB (e2 oGe (e1 oLen (eCons (e2 oDget (eVar 0) (eC (.str [114, 111, 119]))) eNil)) (eC (.int 200))))
    (sDo (eBM "list" mAppend (e2 oDget (eVar 0) (eC (.str [108, 111, 103]))) (eCons (eTup (eCons (eC (.str [102, 117, 108, 108])) (eCons (eVar 5) (eCons (eVar 2) (eCons (eVar 3) eNil))))) eNil)))
    (sSeq (sIf (tB (e2 oEq (eVar 1) (eC (.str [115, 101, 110, 100]))))
    (sDo (eBM "list" mAppend (e2 oDget (eVar 0) (eC (.str [108, 111, 103]))) (eCons (eTup (eCons (eC (.str [115, 101, 110, 100])) (eCons (eVar 5) (eCons (eVar 2) (eCons (eVar 3) eNil))))) eNil)))
    sSkip)
    (sDo (eBM "list" mAppend (e2 oDget (eVar 0) (eC (.str [114, 111, 119]))) (eCons (eTup (eCons (eVar 5) (eCons (eVar 2) (eCons (eVar 3) (eCons (eVar 4) eNil))))) eNil)))))
    (sRet (eVar 5)))))
def m_law_put : FM := fnM 5 6 b_law_put

def b_law_done : SM := (sSeq (sIf (tB (e2 oEq (e2 oIx (eVar 1) (eC (.int 0))) (eC (.str [115, 101, 110, 100]))))
    (sRet (eCall DL.P.own_put (eCons (eVar 0) (eCons (eC (.str [115, 101, 110, 100])) (eCons (e2 oIx (eVar 1) (eC (.int 1))) (eCons (e2 oIx (eVar 1) (eC (.int 2))) (eCons (eC (.bl false)) eNil)))))))
    sSkip)
    (sSeq (sSet 2 (e2 oIx (e2 oDget (eVar 0) (eC (.str [114, 111, 119]))) (e2 oIx (eVar 1) (eC (.int 1)))))
    (sSeq (sIf (tB (e2 oEq (e2 oIx (eVar 1) (eC (.int 0))) (eC (.str [100, 111, 117, 98, 108, 101]))))
    (sSeq (sDo (eBM "list" mAppend (e2 oDget (eVar 0) (eC (.str [108, 111, 103]))) (eCons (eTup (eCons (eC (.str [100, 111, 117, 98, 108, 101])) (eCons (e2 oIx (eVar 2) (eC (.int 0))) (eCons (e2 oDget (eVar 0) (eC (.str [103, 105, 118, 101, 110]))) eNil)))) eNil)))
    (sRet (eCall DL.P.own_put (eCons (eVar 0) (eCons (eC (.str [100, 111, 117, 98, 108, 101])) (eCons (e2 oIx (eVar 2) (eC (.int 1))) (eCons (e2 oIx (eVar 2) (eC (.int 2))) (eCons (e2 oIx (eVar 2) (eC (.int 3))) eNil))))))))
    sSkip)
    (sSeq (sIf (tB (e2 oEq (e2 oIx (eVar 1) (eC (.int 0))) (eC (.str [116, 117, 114, 110]))))
    (sSeq (sSub (e2 oDget (eVar 0) (eC (.str [114, 111, 119]))) (e2 oIx (eVar 1) (eC (.int 1))) (e2 oIx (e2 oDget (eVar 0) (eC (.str [114, 111, 119]))) (e2 oIx (eVar 1) (eC (.int 2)))))
    (sSeq (sSub (e2 oDget (eVar 0) (eC (.str [114, 111, 119]))) (e2 oIx (eVar 1) (eC (.int 2))) (eVar 2))
    (sSeq (sDo (eBM "list" mAppend (e2 oDget (eVar 0) (eC (.str [108, 111, 103]))) (eCons (eTup (eCons (eC (.str [116, 117, 114, 110])) (eCons (e2 oIx (eVar 2) (eC (.int 0))) (eCons (e2 oIx (e2 oIx (e2 oDget (eVar 0) (eC (.str [114, 111, 119]))) (e2 oIx (eVar 1) (eC (.int 1)))) (eC (.int 0))) eNil)))) eNil)))
    (sRet (eC .non)))))
    sSkip)
    (sSeq (sIf (tB (e2 oEq (e2 oIx (eVar 1) (eC (.int 0))) (eC (.str [115, 112, 111, 105, 108]))))
    (sSeq (sSet 3 (e2 oAdd (e2 oAdd (eSli (e2 oIx (eVar 2) (eC (.int 2))) oNo (oSo (e2 oIx (eVar 1) (eC (.int 2))))) (e2 oIx (eVar 1) (eC (.int 3)))) (eSli (e2 oIx (eVar 2) (eC (.int 2))) (oSo (e2 oAdd (e2 oIx (eVar 1) (eC (.int 2))) (eC (.int 1)))) oNo)))
    (sSeq (sSub (e2 oDget (eVar 0) (eC (.str [114, 111, 119]))) (e2 oIx (eVar 1) (eC (.int 1))) (eTup (eCons (e2 oIx (eVar 2) (eC (.int 0))) (eCons (e2 oIx (eVar 2) (eC (.int 1))) (eCons (eVar 3) (eCons (eC (.bl true)) eNil))))))
    (sSeq (sDo (eBM "list" mAppend (e2 oDget (eVar 0) (eC (.str [108, 111, 103]))) (eCons (eTup (eCons (eC (.str [115, 112, 111, 105, 108])) (eCons (e2 oIx (eVar 2) (eC (.int 0))) (eCons (eVar 3) eNil)))) eNil)))
    (sRet (eC .non)))))
    sSkip)
    (sSeq (sSub (eVar 0) (eC (.str [114, 111, 119])) (e2 oAdd (eSli (e2 oDget (eVar 0) (eC (.str [114, 111, 119]))) oNo (oSo (e2 oIx (eVar 1) (eC (.int 1))))) (eSli (e2 oDget (eVar 0) (eC (.str [114, 111, 119]))) (oSo (e2 oAdd (e2 oIx (eVar 1) (eC (.int 1))) (eC (.int 1)))) oNo)))
    (sSeq (sIf (tB (e2 oEq (e2 oIx (eVar 1) (eC (.int 0))) (eC (.str [108, 111, 115, 101]))))
    (sSeq (sDo (eBM "list" mAppend (e2 oDget (eVar 0) (eC (.str [108, 111, 103]))) (eCons (eTup (eCons (eC (.str [108, 111, 115, 101])) (eCons (e2 oIx (eVar 2) (eC (.int 0))) eNil))) eNil)))
    (sRet (eC .non)))
    sSkip)
    (sSeq (sDo (eBM "list" mAppend (e2 oDget (eVar 0) (eC (.str [108, 111, 103]))) (eCons (eTup (eCons (eC (.str [99, 97, 114, 114, 121])) (eCons (e2 oIx (eVar 2) (eC (.int 0))) (eCons (e2 oIx (eVar 2) (eC (.int 1))) (eCons (e2 oIx (eVar 2) (eC (.int 2))) eNil))))) eNil)))
    (sRet (eTup (eCons (e2 oIx (eVar 2) (eC (.int 1))) (eCons (e2 oIx (eVar 2) (eC (.int 2))) eNil))))))))))))
def m_law_done : FM := fnM 2 4 b_law_done

def b_law_sound : SM := (sSeq (sSet 2 (e1 oLen (eCons (e2 oDget (eVar 0) (eC (.str [114, 111, 119]))) eNil)))
    (sSeq (sFor (iSeq (eSli (eVar 1) (oSo (eC (.int 1))) (oSo (e2 oAdd (eC (.int 2)) (e1 oInt (eCons (e2 oEq (e2 oIx (eVar 1) (eC (.int 0))) (eC (.str [116, 117, 114, 110]))) eNil)))))) (tName 3)
    (sIf (tAndD (tB (e2 oNe (e2 oIx (eVar 1) (eC (.int 0))) (eC (.str [115, 101, 110, 100])))) (tOrD (tB (e2 oLt (eVar 3) (eC (.int 0)))) (tB (e2 oGe (eVar 3) (eVar 2)))))
    (sRet (eC (.str [78, 111, 80, 105, 101, 99, 101])))
    sSkip))
    (sSeq (sIf (tB (e2 oNe (e2 oIx (eVar 1) (eC (.int 0))) (eC (.str [115, 112, 111, 105, 108]))))
    (sRet (eC (.str [])))
    sSkip)
    (sSeq (sSet 4 (e2 oIx (e2 oDget (eVar 0) (eC (.str [114, 111, 119]))) (e2 oIx (eVar 1) (eC (.int 1)))))
    (sSeq (sIf (tOrD (tTru (e2 oIx (eVar 4) (eC (.int 3)))) (tOrD (tB (e2 oLt (e2 oIx (eVar 1) (eC (.int 2))) (eC (.int 0)))) (tOrD (tB (e2 oGe (e2 oIx (eVar 1) (eC (.int 2))) (e1 oLen (eCons (e2 oIx (eVar 4) (eC (.int 2))) eNil)))) (tB (e2 oEq (e2 oIx (e2 oIx (eVar 4) (eC (.int 2))) (e2 oIx (eVar 1) (eC (.int 2)))) (e2 oIx (eVar 1) (eC (.int 3))))))))
    (sRet (eC (.str [78, 111, 68, 101, 101, 100])))
    sSkip)
    (sRet (eC (.str []))))))))
def m_law_sound : FM := fnM 2 5 b_law_sound

def b_is_gone : SM := (sSeq (sFor (iSeq (eVar 0)) (tName 2)
    (sIf (tAndD (tB (e2 oIn (e2 oIx (eVar 2) (eC (.int 0))) (eTup (eCons (eC (.str [99, 97, 114, 114, 121])) (eCons (eC (.str [108, 111, 115, 101])) (eCons (eC (.str [102, 117, 108, 108])) eNil)))))) (tB (e2 oEq (e2 oIx (eVar 2) (eC (.int 1))) (eVar 1))))
    (sRet (eC (.bl true)))
    sSkip))
    (sRet (eC (.bl false))))
def m_is_gone : FM := fnM 2 3 b_is_gone

def b_sent_text : SM := (sSeq (sSet 2 eDic)
    (sSeq (sFor (iSeq (eVar 0)) (tName 3)
    (sSeq (sIf (tOrD (tB (e2 oEq (e2 oIx (eVar 3) (eC (.int 0))) (eC (.str [115, 101, 110, 100])))) (tB (e2 oEq (e2 oIx (eVar 3) (eC (.int 0))) (eC (.str [102, 117, 108, 108])))))
    (sSub (eVar 2) (e2 oIx (eVar 3) (eC (.int 1))) (e2 oIx (eVar 3) (eC (.int 3))))
    (sIf (tB (e2 oEq (e2 oIx (eVar 3) (eC (.int 0))) (eC (.str [100, 111, 117, 98, 108, 101]))))
    (sSub (eVar 2) (e2 oIx (eVar 3) (eC (.int 2))) (e2 oDget (eVar 2) (e2 oIx (eVar 3) (eC (.int 1)))))
    (sIf (tB (e2 oEq (e2 oIx (eVar 3) (eC (.int 0))) (eC (.str [115, 112, 111, 105, 108]))))
    (sSub (eVar 2) (e2 oIx (eVar 3) (eC (.int 1))) (e2 oIx (eVar 3) (eC (.int 2))))
    sSkip)))
    (sIf (tB (e2 oIn (eVar 1) (eVar 2)))
    (sRet (e2 oDget (eVar 2) (eVar 1)))
    sSkip)))
    (sRet (eC .non))))
def m_sent_text : FM := fnM 2 4 b_sent_text

def b_law_told_right : SM := (sSeq (sFor (iRng2D (e1 oNeg (eC (.int 1))) (e2 oAdd (e1 oLen (eCons (eVar 1) eNil)) (eC (.int 1)))) (tName 3)
    (sSeq (sSet 4 (eC .non))
    (sSeq (sIf (tB (eChain oLe oLt (eC (.int 0)) (eVar 3) (e1 oLen (eCons (eVar 1) eNil))))
    (sSet 4 (e2 oIx (eVar 1) (eVar 3)))
    sSkip)
    (sSeq (sSet 5 (eCall DL.P.sent_text (eCons (eVar 0) (eCons (eVar 3) eNil))))
    (sSeq (sIf (tOrD (tB (e2 oNe (eVar 5) (eVar 4))) (tAndD (tB (e2 oNotN (eVar 4) (eC .non))) (tNotD (tB (eIsi "str" (eVar 5))))))
    (sRet (eC (.bl false)))
    sSkip)
    (sSeq (sSet 6 (eCall DL.P.is_gone (eCons (eVar 0) (eCons (eVar 3) eNil))))
    (sIf (tOrD (tNotD (tB (eIsi "bool" (eVar 6)))) (tB (e2 oNe (eVar 6) (eAnd (e2 oNotN (eVar 4) (eC .non)) (e2 oNotIn (eVar 3) (eVar 2))))))
    (sRet (eC (.bl false)))
    sSkip)))))))
    (sRet (eC (.bl true))))
def m_law_told_right : FM := fnM 3 7 b_law_told_right

def b_law : SM := (sSeq (sSet 1 (eCall DL.P.own_begun eNil))
    (sSeq (sSet 2 (eLst eNil))
    (sSeq (sFor (iRng1D (e1 oMin (eCons (eC (.int 30)) (eCons (e1 oLen (eCons (eVar 0) eNil)) eNil)))) (tName 3)
    (sSeq (sSet 4 (eCall DL.P.own_deed (eCons (e2 oAdd (e2 oIx (eVar 0) (eVar 3)) (e2 oMul (eC (.int 31)) (eVar 3))) (eCons (e1 oLen (eCons (e2 oDget (eVar 1) (eC (.str [114, 111, 119]))) eNil)) eNil))))
    (sSeq (sIf (tB (e2 oEq (eCall DL.P.own_sound (eCons (eVar 1) (eCons (eVar 4) eNil))) (eC (.str []))))
    (sSeq (sIf (tB (e2 oEq (e2 oIx (eVar 4) (eC (.int 0))) (eC (.str [115, 101, 110, 100]))))
    (sDo (eBM "list" mAppend (eVar 2) (eCons (e2 oIx (eVar 4) (eC (.int 2))) eNil)))
    sSkip)
    (sSeq (sIf (tB (e2 oEq (e2 oIx (eVar 4) (eC (.int 0))) (eC (.str [100, 111, 117, 98, 108, 101]))))
    (sDo (eBM "list" mAppend (eVar 2) (eCons (e2 oIx (e2 oIx (e2 oDget (eVar 1) (eC (.str [114, 111, 119]))) (e2 oIx (eVar 4) (eC (.int 1)))) (eC (.int 2))) eNil)))
    sSkip)
    (sDo (eCall DL.P.own_done (eCons (eVar 1) (eCons (eVar 4) eNil))))))
    sSkip)
    (sSeq (sSet 5 (eComp (iSeq (e2 oDget (eVar 1) (eC (.str [114, 111, 119])))) (tName 6) tYesD (e2 oIx (eVar 6) (eC (.int 0))) [6]))
    (sSeq (sSet 7 (e1 oList (eCons (e2 oDget (eVar 1) (eC (.str [108, 111, 103]))) eNil)))
    (sIf (tOrD (tNotD (tTru (eCall m_law_told_right (eCons (eVar 7) (eCons (eVar 2) (eCons (eVar 5) eNil)))))) (tB (e2 oNe (eVar 7) (e2 oDget (eVar 1) (eC (.str [108, 111, 103]))))))
    (sRet (eC (.bl false)))
    sSkip))))))
    (sRet (eC (.bl true))))))
def m_law : FM := fnM 1 8 b_law

end
end L_k48
namespace L_k48
open PySem L2 DL
def topS (i : Nat) : Stmt := PySem.Challenge.pw_ferry_k48_what_a_log_tells.main.body.getD i (.Pass ⟨0, 0, 0, 0⟩)
abbrev s_sent_text : Stmt := topS 1
abbrev s_is_gone : Stmt := topS 2
abbrev s_law_cell_at : Stmt := topS 4
abbrev s_law_stream : Stmt := topS 5
abbrev s_law_signs : Stmt := topS 6
abbrev s_law_begun : Stmt := topS 7
abbrev s_law_put : Stmt := topS 8
abbrev s_law_sound : Stmt := topS 9
abbrev s_law_done : Stmt := topS 10
abbrev s_law_deed : Stmt := topS 11
abbrev s_law_told_right : Stmt := topS 12
abbrev s_law : Stmt := topS 13
structure Txt (K : PySem.W.Frag) (mg : Str → Option Value) where
  a_law_begun : Addr
  d_law_begun : FuncData
  F_law_begun : Fun K "_law_begun" "_law_begun" s_law_begun a_law_begun d_law_begun
  b_law_begun : Binds K d_law_begun [] []
  g_law_begun : mg "_law_begun" = some (.ref a_law_begun)
  a_law_signs : Addr
  d_law_signs : FuncData
  F_law_signs : Fun K "_law_signs" "_law_signs" s_law_signs a_law_signs d_law_signs
  b_law_signs : Binds K d_law_signs ["_law_x", "_law_many"] []
  g_law_signs : mg "_law_signs" = some (.ref a_law_signs)
  a_law_stream : Addr
  d_law_stream : FuncData
  F_law_stream : Fun K "_law_stream" "_law_stream" s_law_stream a_law_stream d_law_stream
  b_law_stream : Binds K d_law_stream ["_law_cell", "_law_many"] []
  g_law_stream : mg "_law_stream" = some (.ref a_law_stream)
  a_law_deed : Addr
  d_law_deed : FuncData
  F_law_deed : Fun K "_law_deed" "_law_deed" s_law_deed a_law_deed d_law_deed
  b_law_deed : Binds K d_law_deed ["_law_cell", "_law_count"] []
  g_law_deed : mg "_law_deed" = some (.ref a_law_deed)
  a_law_put : Addr
  d_law_put : FuncData
  F_law_put : Fun K "_law_put" "_law_put" s_law_put a_law_put d_law_put
  b_law_put : Binds K d_law_put ["_law_own", "_law_word", "_law_host", "_law_text", "_law_spoilt"] []
  g_law_put : mg "_law_put" = some (.ref a_law_put)
  a_law_done : Addr
  d_law_done : FuncData
  F_law_done : Fun K "_law_done" "_law_done" s_law_done a_law_done d_law_done
  b_law_done : Binds K d_law_done ["_law_own", "_law_deed_here"] []
  g_law_done : mg "_law_done" = some (.ref a_law_done)
  a_law_sound : Addr
  d_law_sound : FuncData
  F_law_sound : Fun K "_law_sound" "_law_sound" s_law_sound a_law_sound d_law_sound
  b_law_sound : Binds K d_law_sound ["_law_own", "_law_deed_here"] []
  g_law_sound : mg "_law_sound" = some (.ref a_law_sound)
  a_is_gone : Addr
  d_is_gone : FuncData
  F_is_gone : Fun K "is_gone" "is_gone" s_is_gone a_is_gone d_is_gone
  b_is_gone : Binds K d_is_gone ["log", "number"] []
  g_is_gone : mg "is_gone" = some (.ref a_is_gone)
  a_sent_text : Addr
  d_sent_text : FuncData
  F_sent_text : Fun K "sent_text" "sent_text" s_sent_text a_sent_text d_sent_text
  b_sent_text : Binds K d_sent_text ["log", "number"] []
  g_sent_text : mg "sent_text" = some (.ref a_sent_text)
  a_law_told_right : Addr
  d_law_told_right : FuncData
  F_law_told_right : Fun K "_law_told_right" "_law_told_right" s_law_told_right a_law_told_right d_law_told_right
  b_law_told_right : Binds K d_law_told_right ["_law_log", "_law_firsts", "_law_flying"] []
  g_law_told_right : mg "_law_told_right" = some (.ref a_law_told_right)
  a_law : Addr
  d_law : FuncData
  F_law : Fun K "law" "law" s_law a_law d_law
  b_law : Binds K d_law ["_law_script"] []
  g_law : mg "law" = some (.ref a_law)
  n_bool : mg "bool" = none
  n_int : mg "int" = none
  n_isinstance : mg "isinstance" = none
  n_len : mg "len" = none
  n_list : mg "list" = none
  n_max : mg "max" = none
  n_min : mg "min" = none
  n_range : mg "range" = none
  n_str : mg "str" = none
abbrev Txt.gam {K : PySem.W.Frag} {mg : Str → Option Value} (T : Txt K mg) : Gam := ⟨K, fun c => match c with
  | _ => 0, none⟩
section
variable {P : Program} {w : World} {K : PySem.W.Frag} {mg : Str → Option Value} {base : Heap}
section
abbrev sc_law_begun := defScope s_law_begun
theorem sN_law_begun : FnScope [] [] (defScope s_law_begun) := ⟨rfl, rfl, rfl, by decide +kernel, rfl, by decide +kernel, by decide +kernel⟩
theorem okr_law_begun (T : Txt K mg) : FnOk P w K mg base (L2.CX P w) 1 T.a_law_begun T.d_law_begun [] (spM T.gam m_law_begun) := by
  refine okD (k := 0) T.F_law_begun sN_law_begun 0 0 rfl rfl rfl b_law_begun (fun cdv A outer s H E hr => ?_)
  have scN := sN_law_begun
  have hu := hr.units
  have hu1 := hu_of hr
  have hu65 := unit65 hr
  have tk := takes_of (X := cxOf (L2.CX P w) P w K mg base [] "_law_begun" (defScope s_law_begun) T.a_law_begun cdv A outer s H E) (E := E) rfl rfl rfl rfl
  have po := passes_of (X := cxOf (L2.CX P w) P w K mg base [] "_law_begun" (defScope s_law_begun) T.a_law_begun cdv A outer s H E) (K := fun e s'' => L2.CX P w outer H s E e s'') (E₁ := fun e s'' => L2.CX P w outer H s E e s'') rfl
  exact (db_one (ds_ret (de_disp (dp_cons [114, 111, 119] (by decide +kernel) (de_lst da_nil) (dp_cons [108, 111, 103] (by decide +kernel) (de_lst da_nil) (dp_cons [103, 105, 118, 101, 110] (by decide +kernel) de_int dp_nil))))))

--SPEC law_begun
theorem ok_law_begun (T : Txt K mg) : FnOk P w K mg base (L2.CX P w) 1 T.a_law_begun T.d_law_begun [] (spM T.gam DL.P.own_begun) := okImp (okr_law_begun T) DL.P.tell_own_begun
abbrev sc_law_signs := defScope s_law_signs
theorem sN_law_signs : FnScope ["_law_x", "_law_many", "_law_some", "_law_k"] ["_law_x", "_law_many"] (defScope s_law_signs) := ⟨rfl, rfl, rfl, by decide +kernel, rfl, by decide +kernel, by decide +kernel⟩
theorem okr_law_signs (T : Txt K mg) : FnOk P w K mg base (L2.CX P w) 1 T.a_law_signs T.d_law_signs ["_law_x", "_law_many"] (spM T.gam m_law_signs) := by
  refine okD (k := 0) T.F_law_signs sN_law_signs 2 4 rfl rfl rfl b_law_signs (fun cdv A outer s H E hr => ?_)
  have scN := sN_law_signs
  have hu := hr.units
  have hu1 := hu_of hr
  have hu65 := unit65 hr
  have tk := takes_of (X := cxOf (L2.CX P w) P w K mg base ["_law_x", "_law_many", "_law_some", "_law_k"] "_law_signs" (defScope s_law_signs) T.a_law_signs cdv A outer s H E) (E := E) rfl rfl rfl rfl
  have po := passes_of (X := cxOf (L2.CX P w) P w K mg base ["_law_x", "_law_many", "_law_some", "_law_k"] "_law_signs" (defScope s_law_signs) T.a_law_signs cdv A outer s H E) (K := fun e s'' => L2.CX P w outer H s E e s'') (E₁ := fun e s'' => L2.CX P w outer H s E e s'') rfl
  exact (db_cons (ds_set (i := 2) scN.nd rfl (Or.inr rfl) (de_str [32, 33, 34, 35, 36, 38, 39, 40, 41, 42, 43, 44, 45, 46, 47, 48, 49, 50, 51, 52, 53, 54, 55, 56, 57, 58, 59, 60, 61, 62, 63, 64, 65, 66, 67, 68, 69, 70, 71, 72, 73, 74, 75, 76, 77, 78, 79, 80, 81, 82, 83, 84, 85, 86, 87, 88, 89, 90, 91, 92, 93, 94, 95, 96, 97, 98, 99, 100, 101, 102, 103, 104, 105, 106, 107, 108, 109, 110, 111, 112, 113, 114, 115, 116, 117, 118, 119, 120, 121, 122, 123, 124, 125, 126]))
    (db_cons (ds_if (dt_cmp (od_eq rfl hu) (de_op od_mod (de_var 0) de_int) de_int)
    (db_one (ds_ret (de_bm rfl PySem.F.plainAttrs_str PySem.F.slot_str_join PySem.F.type_str_join (md_join rfl) (de_str []) (da_cons (de_comp rfl rfl scN.nd (di_range1 rfl T.n_range (de_var 1)) (own := [("_law_k", 3)]) (g := (gName 3)) rfl (blkOk_by (N := ["_law_x", "_law_many", "_law_some", "_law_k"]) (sc := defScope s_law_signs) (by decide +kernel)) (gc_name (by decide) rfl) (fun _ _ _ _ _ => pg_name (i := 3) scN.nd rfl (Or.inl rfl)) (fun _ _ _ _ _ => dts_nil) (fun _ _ _ _ _ => (de_ix rfl (de_var 2) (de_op od_mod (de_op od_div (de_var 0) de_int) de_int) (fun _ _ => rfl)))) da_nil))))
    db_nil)
    (db_one (ds_ret (de_bm rfl PySem.F.plainAttrs_str PySem.F.slot_str_join PySem.F.type_str_join (md_join rfl) (de_str []) (da_cons (de_comp rfl rfl scN.nd (di_range1 rfl T.n_range (de_var 1)) (own := [("_law_k", 3)]) (g := (gName 3)) rfl (blkOk_by (N := ["_law_x", "_law_many", "_law_some", "_law_k"]) (sc := defScope s_law_signs) (by decide +kernel)) (gc_name (by decide) rfl) (fun _ _ _ _ _ => pg_name (i := 3) scN.nd rfl (Or.inl rfl)) (fun _ _ _ _ _ => dts_nil) (fun _ _ _ _ _ => (de_ix rfl (de_var 2) (de_op od_mod (de_op (od_add rfl) (de_op od_div (de_var 0) de_int) (de_op od_mul (de_var 3) (de_op (od_add rfl) de_int (de_op od_mod (de_op od_div (de_var 0) de_int) de_int)))) de_int) (fun _ _ => rfl)))) da_nil))))))

--SPEC law_signs
theorem ok_law_signs (T : Txt K mg) : FnOk P w K mg base (L2.CX P w) 1 T.a_law_signs T.d_law_signs ["_law_x", "_law_many"] (spM T.gam DL.P.signs2) := okImp (okr_law_signs T) DL.P.tell_signs2
abbrev sc_law_stream := defScope s_law_stream
theorem sN_law_stream : FnScope ["_law_cell", "_law_many", "_law_found", "_law_number", "_law_k"] ["_law_cell", "_law_many"] (defScope s_law_stream) := ⟨rfl, rfl, rfl, by decide +kernel, rfl, by decide +kernel, by decide +kernel⟩
theorem okr_law_stream (T : Txt K mg) : FnOk P w K mg base (L2.CX P w) 1 T.a_law_stream T.d_law_stream ["_law_cell", "_law_many"] (spM T.gam m_law_stream) := by
  refine okD (k := 0) T.F_law_stream sN_law_stream 2 5 rfl rfl rfl b_law_stream (fun cdv A outer s H E hr => ?_)
  have scN := sN_law_stream
  have hu := hr.units
  have hu1 := hu_of hr
  have hu65 := unit65 hr
  have tk := takes_of (X := cxOf (L2.CX P w) P w K mg base ["_law_cell", "_law_many", "_law_found", "_law_number", "_law_k"] "_law_stream" (defScope s_law_stream) T.a_law_stream cdv A outer s H E) (E := E) rfl rfl rfl rfl
  have po := passes_of (X := cxOf (L2.CX P w) P w K mg base ["_law_cell", "_law_many", "_law_found", "_law_number", "_law_k"] "_law_stream" (defScope s_law_stream) T.a_law_stream cdv A outer s H E) (K := fun e s'' => L2.CX P w outer H s E e s'') (E₁ := fun e s'' => L2.CX P w outer H s E e s'') rfl
  exact (db_cons (ds_set (i := 2) scN.nd rfl (Or.inl rfl) (de_lst da_nil))
    (db_cons (ds_set (i := 3) scN.nd rfl (Or.inl rfl) (de_op (od_add rfl) (de_op od_mod (de_var 0) de_int) de_int))
    (db_cons (ds_for po rfl (di_range1 rfl T.n_range (de_op (od_add rfl) (de_var 1) de_int)) (dg_name (i := 4) scN.nd rfl (Or.inl rfl))
    (db_cons (ds_set (i := 3) scN.nd rfl (Or.inl rfl) (de_op od_mod (de_op (od_add rfl) (de_op (od_add rfl) (de_op od_mul (de_var 3) (de_var 3)) (de_op od_mul de_int (de_var 3))) (de_var 4)) de_int))
    (db_one (ds_do (de_bm rfl PySem.F.plainAttrs_list PySem.F.slot_list_append PySem.F.type_list_append md_append (de_var 2) (da_cons (de_var 3) da_nil))))))
    (db_one (ds_ret (de_slice rfl (de_var 2) (do_some de_int) do_none))))))

--SPEC law_stream
theorem ok_law_stream (T : Txt K mg) : FnOk P w K mg base (L2.CX P w) 1 T.a_law_stream T.d_law_stream ["_law_cell", "_law_many"] (spM T.gam DL.P.stream) := okImp (okr_law_stream T) DL.P.tell_stream
abbrev sc_law_deed := defScope s_law_deed
theorem sN_law_deed : FnScope ["_law_cell", "_law_count", "_law_xs", "_law_way", "_law_place", "_law_other", "_law_size", "_law_at"] ["_law_cell", "_law_count"] (defScope s_law_deed) := ⟨rfl, rfl, rfl, by decide +kernel, rfl, by decide +kernel, by decide +kernel⟩
theorem okr_law_deed (T : Txt K mg) : FnOk P w K mg base (L2.CX P w) 2 T.a_law_deed T.d_law_deed ["_law_cell", "_law_count"] (spM T.gam m_law_deed) := by
  refine okD (k := 1) T.F_law_deed sN_law_deed 2 8 rfl rfl rfl b_law_deed (fun cdv A outer s H E hr => ?_)
  have scN := sN_law_deed
  have hu := hr.units
  have hu1 := hu_of hr
  have hu65 := unit65 hr
  have tk := takes_of (X := cxOf (L2.CX P w) P w K mg base ["_law_cell", "_law_count", "_law_xs", "_law_way", "_law_place", "_law_other", "_law_size", "_law_at"] "_law_deed" (defScope s_law_deed) T.a_law_deed cdv A outer s H E) (E := E) rfl rfl rfl rfl
  have po := passes_of (X := cxOf (L2.CX P w) P w K mg base ["_law_cell", "_law_count", "_law_xs", "_law_way", "_law_place", "_law_other", "_law_size", "_law_at"] "_law_deed" (defScope s_law_deed) T.a_law_deed cdv A outer s H E) (K := fun e s'' => L2.CX P w outer H s E e s'') (E₁ := fun e s'' => L2.CX P w outer H s E e s'') rfl
  exact (db_cons (ds_set (i := 2) scN.nd rfl (Or.inl rfl) (de_call (ok_law_stream T) tk (hr.mono (by decide)) rfl T.g_law_stream T.F_law_stream.kp T.b_law_stream (da_cons (de_var 0) (da_cons de_int da_nil))))
    (db_cons (ds_set (i := 3) scN.nd rfl (Or.inl rfl) (de_op od_mod (de_ix rfl (de_var 2) de_int (fun _ _ => rfl)) de_int))
    (db_cons (ds_set (i := 4) scN.nd rfl (Or.inl rfl) (de_ix rfl (de_lst (da_cons (de_op od_mod (de_ix rfl (de_var 2) de_int (fun _ _ => rfl)) (de_callB (cd_max rfl) rfl T.n_max (by decide +kernel) (da_cons de_int (da_cons (de_var 1) da_nil)))) (da_cons (de_op od_sub (de_op od_mod (de_ix rfl (de_var 2) de_int (fun _ _ => rfl)) (de_op (od_add rfl) (de_var 1) de_int)) de_int) da_nil))) (de_callTy cd_int rfl T.n_int (by decide +kernel) (da_cons (de_cmp (od_eq rfl hu) (de_op od_mod (de_ix rfl (de_var 2) de_int (fun _ _ => rfl)) de_int) de_int) da_nil)) (fun _ _ => rfl)))
    (db_cons (ds_set (i := 5) scN.nd rfl (Or.inl rfl) (de_ix rfl (de_lst (da_cons (de_op od_mod (de_ix rfl (de_var 2) de_int (fun _ _ => rfl)) (de_callB (cd_max rfl) rfl T.n_max (by decide +kernel) (da_cons de_int (da_cons (de_var 1) da_nil)))) (da_cons (de_op od_sub (de_op od_mod (de_ix rfl (de_var 2) de_int (fun _ _ => rfl)) (de_op (od_add rfl) (de_var 1) de_int)) de_int) da_nil))) (de_callTy cd_int rfl T.n_int (by decide +kernel) (da_cons (de_cmp (od_eq rfl hu) (de_op od_mod (de_op od_div (de_ix rfl (de_var 2) de_int (fun _ _ => rfl)) de_int) de_int) de_int) da_nil)) (fun _ _ => rfl)))
    (db_cons (ds_if (dt_cmp od_lt (de_var 3) de_int)
    (db_cons (ds_set (i := 6) scN.nd rfl (Or.inl rfl) (de_ix rfl (de_lst (da_cons (de_op (od_add rfl) de_int (de_op od_mod (de_ix rfl (de_var 2) de_int (fun _ _ => rfl)) de_int)) (da_cons (de_op (od_add rfl) de_int (de_op od_mod (de_ix rfl (de_var 2) de_int (fun _ _ => rfl)) de_int)) (da_cons (de_op od_sub de_int (de_op od_mod (de_ix rfl (de_var 2) de_int (fun _ _ => rfl)) de_int)) da_nil)))) (de_op (od_add rfl) (de_callTy cd_int rfl T.n_int (by decide +kernel) (da_cons (de_cmp (od_eq rfl hu) (de_op od_mod (de_ix rfl (de_var 2) de_int (fun _ _ => rfl)) de_int) de_int) da_nil)) (de_callTy cd_int rfl T.n_int (by decide +kernel) (da_cons (de_cmp (od_eq rfl hu) (de_op od_mod (de_ix rfl (de_var 2) de_int (fun _ _ => rfl)) de_int) de_int) da_nil))) (fun _ _ => rfl)))
    (db_one (ds_ret (de_tup (da_cons (de_str [115, 101, 110, 100]) (da_cons (de_op od_mod (de_ix rfl (de_var 2) de_int (fun _ _ => rfl)) de_int) (da_cons (de_call (ok_law_signs T) tk (hr.mono (by decide)) rfl T.g_law_signs T.F_law_signs.kp T.b_law_signs (da_cons (de_ix rfl (de_var 2) de_int (fun _ _ => rfl)) (da_cons (de_var 6) da_nil))) da_nil)))))))
    db_nil)
    (db_cons (ds_if (dt_cmp (od_eq rfl hu) (de_var 3) de_int)
    (db_one (ds_ret (de_tup (da_cons (de_str [116, 117, 114, 110]) (da_cons (de_var 4) (da_cons (de_var 5) da_nil))))))
    db_nil)
    (db_cons (ds_if (dt_cmp od_gt (de_var 3) de_int)
    (db_cons (ds_set (i := 7) scN.nd rfl (Or.inl rfl) (de_ix rfl (de_lst (da_cons (de_op od_sub (de_op od_mod (de_ix rfl (de_var 2) de_int (fun _ _ => rfl)) de_int) (de_callTy cd_int rfl T.n_int (by decide +kernel) (da_cons (de_cmp (od_eq rfl hu) (de_op od_mod (de_ix rfl (de_var 2) de_int (fun _ _ => rfl)) de_int) de_int) da_nil))) (da_cons (de_op od_mod (de_ix rfl (de_var 2) de_int (fun _ _ => rfl)) de_int) (da_cons (de_op od_mod (de_ix rfl (de_var 2) de_int (fun _ _ => rfl)) de_int) da_nil)))) (de_op (od_add rfl) (de_callTy cd_int rfl T.n_int (by decide +kernel) (da_cons (de_cmp (od_eq rfl hu) (de_op od_mod (de_ix rfl (de_var 2) de_int (fun _ _ => rfl)) de_int) de_int) da_nil)) (de_callTy cd_int rfl T.n_int (by decide +kernel) (da_cons (de_cmp (od_eq rfl hu) (de_op od_mod (de_ix rfl (de_var 2) de_int (fun _ _ => rfl)) de_int) de_int) da_nil))) (fun _ _ => rfl)))
    (db_one (ds_ret (de_tup (da_cons (de_str [115, 112, 111, 105, 108]) (da_cons (de_var 4) (da_cons (de_var 7) (da_cons (de_call (ok_law_signs T) tk (hr.mono (by decide)) rfl T.g_law_signs T.F_law_signs.kp T.b_law_signs (da_cons (de_op od_mul de_int (de_ix rfl (de_var 2) de_int (fun _ _ => rfl))) (da_cons de_int da_nil))) da_nil))))))))
    db_nil)
    (db_one (ds_ret (de_ix rfl (de_lst (da_cons (de_tup (da_cons (de_str [99, 97, 114, 114, 121]) (da_cons (de_var 4) da_nil))) (da_cons (de_tup (da_cons (de_str [108, 111, 115, 101]) (da_cons (de_var 4) da_nil))) (da_cons (de_tup (da_cons (de_str [100, 111, 117, 98, 108, 101]) (da_cons (de_var 4) da_nil))) (da_cons (de_tup (da_cons (de_str [100, 111, 117, 98, 108, 101]) (da_cons (de_var 4) da_nil))) da_nil))))) (de_op od_sub (de_var 3) de_int) (fun _ _ => rfl)))))))))))

--SPEC law_deed
theorem ok_law_deed (T : Txt K mg) : FnOk P w K mg base (L2.CX P w) 2 T.a_law_deed T.d_law_deed ["_law_cell", "_law_count"] (spM T.gam DL.P.own_deed) := okImp (okr_law_deed T) DL.P.tell_own_deed
abbrev sc_law_put := defScope s_law_put
theorem sN_law_put : FnScope ["_law_own", "_law_word", "_law_host", "_law_text", "_law_spoilt", "_law_number"] ["_law_own", "_law_word", "_law_host", "_law_text", "_law_spoilt"] (defScope s_law_put) := ⟨rfl, rfl, rfl, by decide +kernel, rfl, by decide +kernel, by decide +kernel⟩
theorem okr_law_put (T : Txt K mg) : FnOk P w K mg base (L2.CX P w) 1 T.a_law_put T.d_law_put ["_law_own", "_law_word", "_law_host", "_law_text", "_law_spoilt"] (spM T.gam m_law_put) := by
  refine okD (k := 0) T.F_law_put sN_law_put 5 6 rfl rfl rfl b_law_put (fun cdv A outer s H E hr => ?_)
  have scN := sN_law_put
  have hu := hr.units
  have hu1 := hu_of hr
  have hu65 := unit65 hr
  have tk := takes_of (X := cxOf (L2.CX P w) P w K mg base ["_law_own", "_law_word", "_law_host", "_law_text", "_law_spoilt", "_law_number"] "_law_put" (defScope s_law_put) T.a_law_put cdv A outer s H E) (E := E) rfl rfl rfl rfl
  have po := passes_of (X := cxOf (L2.CX P w) P w K mg base ["_law_own", "_law_word", "_law_host", "_law_text", "_law_spoilt", "_law_number"] "_law_put" (defScope s_law_put) T.a_law_put cdv A outer s H E) (K := fun e s'' => L2.CX P w outer H s E e s'') (E₁ := fun e s'' => L2.CX P w outer H s E e s'') rfl
  exact (db_cons (ds_set (i := 5) scN.nd rfl (Or.inl rfl) (de_dget hu1 (de_var 0) (de_str [103, 105, 118, 101, 110]) (fun _ _ => rfl)))
    (db_cons (ds_sub hu1 (de_var 0) (de_str [103, 105, 118, 101, 110]) (de_op (od_add rfl) (de_var 5) de_int) rfl (hpg := pg_sub (de_var 0) (de_str [103, 105, 118, 101, 110]) set_list))
    (db_cons (ds_if (dt_cmp od_ge (de_callB (cd_len rfl) rfl T.n_len (by decide +kernel) (da_cons (de_dget hu1 (de_var 0) (de_str [114, 111, 119]) (fun _ _ => rfl)) da_nil)) de_int)
    (db_one (ds_do (de_bm rfl PySem.F.plainAttrs_list PySem.F.slot_list_append PySem.F.type_list_append md_append (de_dget hu1 (de_var 0) (de_str [108, 111, 103]) (fun _ _ => rfl)) (da_cons (de_tup (da_cons (de_str [102, 117, 108, 108]) (da_cons (de_var 5) (da_cons (de_var 2) (da_cons (de_var 3) da_nil))))) da_nil))))
    (db_cons (ds_if (dt_cmp (od_eq rfl hu) (de_var 1) (de_str [115, 101, 110, 100]))
    (db_one (ds_do (de_bm rfl PySem.F.plainAttrs_list PySem.F.slot_list_append PySem.F.type_list_append md_append (de_dget hu1 (de_var 0) (de_str [108, 111, 103]) (fun _ _ => rfl)) (da_cons (de_tup (da_cons (de_str [115, 101, 110, 100]) (da_cons (de_var 5) (da_cons (de_var 2) (da_cons (de_var 3) da_nil))))) da_nil))))
    db_nil)
    (db_one (ds_do (de_bm rfl PySem.F.plainAttrs_list PySem.F.slot_list_append PySem.F.type_list_append md_append (de_dget hu1 (de_var 0) (de_str [114, 111, 119]) (fun _ _ => rfl)) (da_cons (de_tup (da_cons (de_var 5) (da_cons (de_var 2) (da_cons (de_var 3) (da_cons (de_var 4) da_nil))))) da_nil))))))
    (db_one (ds_ret (de_var 5))))))

--SPEC law_put
theorem ok_law_put (T : Txt K mg) : FnOk P w K mg base (L2.CX P w) 1 T.a_law_put T.d_law_put ["_law_own", "_law_word", "_law_host", "_law_text", "_law_spoilt"] (spM T.gam DL.P.own_put) := okImp (okr_law_put T) DL.P.tell_own_put
abbrev sc_law_done := defScope s_law_done
theorem sN_law_done : FnScope ["_law_own", "_law_deed_here", "_law_piece", "_law_text"] ["_law_own", "_law_deed_here"] (defScope s_law_done) := ⟨rfl, rfl, rfl, by decide +kernel, rfl, by decide +kernel, by decide +kernel⟩
theorem okr_law_done (T : Txt K mg) : FnOk P w K mg base (L2.CX P w) 2 T.a_law_done T.d_law_done ["_law_own", "_law_deed_here"] (spM T.gam m_law_done) := by
  refine okD (k := 1) T.F_law_done sN_law_done 2 4 rfl rfl rfl b_law_done (fun cdv A outer s H E hr => ?_)
  have scN := sN_law_done
  have hu := hr.units
  have hu1 := hu_of hr
  have hu65 := unit65 hr
  have tk := takes_of (X := cxOf (L2.CX P w) P w K mg base ["_law_own", "_law_deed_here", "_law_piece", "_law_text"] "_law_done" (defScope s_law_done) T.a_law_done cdv A outer s H E) (E := E) rfl rfl rfl rfl
  have po := passes_of (X := cxOf (L2.CX P w) P w K mg base ["_law_own", "_law_deed_here", "_law_piece", "_law_text"] "_law_done" (defScope s_law_done) T.a_law_done cdv A outer s H E) (K := fun e s'' => L2.CX P w outer H s E e s'') (E₁ := fun e s'' => L2.CX P w outer H s E e s'') rfl
  exact (db_cons (ds_if (dt_cmp (od_eq rfl hu) (de_ix rfl (de_var 1) de_int (fun _ _ => rfl)) (de_str [115, 101, 110, 100]))
    (db_one (ds_ret (de_call (ok_law_put T) tk (hr.mono (by decide)) rfl T.g_law_put T.F_law_put.kp T.b_law_put (da_cons (de_var 0) (da_cons (de_str [115, 101, 110, 100]) (da_cons (de_ix rfl (de_var 1) de_int (fun _ _ => rfl)) (da_cons (de_ix rfl (de_var 1) de_int (fun _ _ => rfl)) (da_cons de_bl da_nil))))))))
    db_nil)
    (db_cons (ds_set (i := 2) scN.nd rfl (Or.inl rfl) (de_ix rfl (de_dget hu1 (de_var 0) (de_str [114, 111, 119]) (fun _ _ => rfl)) (de_ix rfl (de_var 1) de_int (fun _ _ => rfl)) (fun _ _ => rfl)))
    (db_cons (ds_if (dt_cmp (od_eq rfl hu) (de_ix rfl (de_var 1) de_int (fun _ _ => rfl)) (de_str [100, 111, 117, 98, 108, 101]))
    (db_cons (ds_do (de_bm rfl PySem.F.plainAttrs_list PySem.F.slot_list_append PySem.F.type_list_append md_append (de_dget hu1 (de_var 0) (de_str [108, 111, 103]) (fun _ _ => rfl)) (da_cons (de_tup (da_cons (de_str [100, 111, 117, 98, 108, 101]) (da_cons (de_ix rfl (de_var 2) de_int (fun _ _ => rfl)) (da_cons (de_dget hu1 (de_var 0) (de_str [103, 105, 118, 101, 110]) (fun _ _ => rfl)) da_nil)))) da_nil)))
    (db_one (ds_ret (de_call (ok_law_put T) tk (hr.mono (by decide)) rfl T.g_law_put T.F_law_put.kp T.b_law_put (da_cons (de_var 0) (da_cons (de_str [100, 111, 117, 98, 108, 101]) (da_cons (de_ix rfl (de_var 2) de_int (fun _ _ => rfl)) (da_cons (de_ix rfl (de_var 2) de_int (fun _ _ => rfl)) (da_cons (de_ix rfl (de_var 2) de_int (fun _ _ => rfl)) da_nil)))))))))
    db_nil)
    (db_cons (ds_if (dt_cmp (od_eq rfl hu) (de_ix rfl (de_var 1) de_int (fun _ _ => rfl)) (de_str [116, 117, 114, 110]))
    (db_cons (ds_sub hu1 (de_dget hu1 (de_var 0) (de_str [114, 111, 119]) (fun _ _ => rfl)) (de_ix rfl (de_var 1) de_int (fun _ _ => rfl)) (de_ix rfl (de_dget hu1 (de_var 0) (de_str [114, 111, 119]) (fun _ _ => rfl)) (de_ix rfl (de_var 1) de_int (fun _ _ => rfl)) (fun _ _ => rfl)) rfl (hpg := pg_sub (de_dget hu1 (de_var 0) (de_str [114, 111, 119]) (fun _ _ => rfl)) (de_ix rfl (de_var 1) de_int (fun _ _ => rfl)) set_list))
    (db_cons (ds_sub hu1 (de_dget hu1 (de_var 0) (de_str [114, 111, 119]) (fun _ _ => rfl)) (de_ix rfl (de_var 1) de_int (fun _ _ => rfl)) (de_var 2) rfl (hpg := pg_sub (de_dget hu1 (de_var 0) (de_str [114, 111, 119]) (fun _ _ => rfl)) (de_ix rfl (de_var 1) de_int (fun _ _ => rfl)) set_list))
    (db_cons (ds_do (de_bm rfl PySem.F.plainAttrs_list PySem.F.slot_list_append PySem.F.type_list_append md_append (de_dget hu1 (de_var 0) (de_str [108, 111, 103]) (fun _ _ => rfl)) (da_cons (de_tup (da_cons (de_str [116, 117, 114, 110]) (da_cons (de_ix rfl (de_var 2) de_int (fun _ _ => rfl)) (da_cons (de_ix rfl (de_ix rfl (de_dget hu1 (de_var 0) (de_str [114, 111, 119]) (fun _ _ => rfl)) (de_ix rfl (de_var 1) de_int (fun _ _ => rfl)) (fun _ _ => rfl)) de_int (fun _ _ => rfl)) da_nil)))) da_nil)))
    (db_one (ds_ret de_non)))))
    db_nil)
    (db_cons (ds_if (dt_cmp (od_eq rfl hu) (de_ix rfl (de_var 1) de_int (fun _ _ => rfl)) (de_str [115, 112, 111, 105, 108]))
    (db_cons (ds_set (i := 3) scN.nd rfl (Or.inl rfl) (de_op (od_add rfl) (de_op (od_add rfl) (de_slice rfl (de_ix rfl (de_var 2) de_int (fun _ _ => rfl)) do_none (do_some (de_ix rfl (de_var 1) de_int (fun _ _ => rfl)))) (de_ix rfl (de_var 1) de_int (fun _ _ => rfl))) (de_slice rfl (de_ix rfl (de_var 2) de_int (fun _ _ => rfl)) (do_some (de_op (od_add rfl) (de_ix rfl (de_var 1) de_int (fun _ _ => rfl)) de_int)) do_none)))
    (db_cons (ds_sub hu1 (de_dget hu1 (de_var 0) (de_str [114, 111, 119]) (fun _ _ => rfl)) (de_ix rfl (de_var 1) de_int (fun _ _ => rfl)) (de_tup (da_cons (de_ix rfl (de_var 2) de_int (fun _ _ => rfl)) (da_cons (de_ix rfl (de_var 2) de_int (fun _ _ => rfl)) (da_cons (de_var 3) (da_cons de_bl da_nil))))) rfl (hpg := pg_sub (de_dget hu1 (de_var 0) (de_str [114, 111, 119]) (fun _ _ => rfl)) (de_ix rfl (de_var 1) de_int (fun _ _ => rfl)) set_list))
    (db_cons (ds_do (de_bm rfl PySem.F.plainAttrs_list PySem.F.slot_list_append PySem.F.type_list_append md_append (de_dget hu1 (de_var 0) (de_str [108, 111, 103]) (fun _ _ => rfl)) (da_cons (de_tup (da_cons (de_str [115, 112, 111, 105, 108]) (da_cons (de_ix rfl (de_var 2) de_int (fun _ _ => rfl)) (da_cons (de_var 3) da_nil)))) da_nil)))
    (db_one (ds_ret de_non)))))
    db_nil)
    (db_cons (ds_sub hu1 (de_var 0) (de_str [114, 111, 119]) (de_op (od_add rfl) (de_slice rfl (de_dget hu1 (de_var 0) (de_str [114, 111, 119]) (fun _ _ => rfl)) do_none (do_some (de_ix rfl (de_var 1) de_int (fun _ _ => rfl)))) (de_slice rfl (de_dget hu1 (de_var 0) (de_str [114, 111, 119]) (fun _ _ => rfl)) (do_some (de_op (od_add rfl) (de_ix rfl (de_var 1) de_int (fun _ _ => rfl)) de_int)) do_none)) rfl (hpg := pg_sub (de_var 0) (de_str [114, 111, 119]) set_list))
    (db_cons (ds_if (dt_cmp (od_eq rfl hu) (de_ix rfl (de_var 1) de_int (fun _ _ => rfl)) (de_str [108, 111, 115, 101]))
    (db_cons (ds_do (de_bm rfl PySem.F.plainAttrs_list PySem.F.slot_list_append PySem.F.type_list_append md_append (de_dget hu1 (de_var 0) (de_str [108, 111, 103]) (fun _ _ => rfl)) (da_cons (de_tup (da_cons (de_str [108, 111, 115, 101]) (da_cons (de_ix rfl (de_var 2) de_int (fun _ _ => rfl)) da_nil))) da_nil)))
    (db_one (ds_ret de_non)))
    db_nil)
    (db_cons (ds_do (de_bm rfl PySem.F.plainAttrs_list PySem.F.slot_list_append PySem.F.type_list_append md_append (de_dget hu1 (de_var 0) (de_str [108, 111, 103]) (fun _ _ => rfl)) (da_cons (de_tup (da_cons (de_str [99, 97, 114, 114, 121]) (da_cons (de_ix rfl (de_var 2) de_int (fun _ _ => rfl)) (da_cons (de_ix rfl (de_var 2) de_int (fun _ _ => rfl)) (da_cons (de_ix rfl (de_var 2) de_int (fun _ _ => rfl)) da_nil))))) da_nil)))
    (db_one (ds_ret (de_tup (da_cons (de_ix rfl (de_var 2) de_int (fun _ _ => rfl)) (da_cons (de_ix rfl (de_var 2) de_int (fun _ _ => rfl)) da_nil)))))))))))))

--SPEC law_done
theorem ok_law_done (T : Txt K mg) : FnOk P w K mg base (L2.CX P w) 2 T.a_law_done T.d_law_done ["_law_own", "_law_deed_here"] (spM T.gam DL.P.own_done) := okImp (okr_law_done T) DL.P.tell_own_done
abbrev sc_law_sound := defScope s_law_sound
theorem sN_law_sound : FnScope ["_law_own", "_law_deed_here", "_law_count", "_law_place", "_law_piece"] ["_law_own", "_law_deed_here"] (defScope s_law_sound) := ⟨rfl, rfl, rfl, by decide +kernel, rfl, by decide +kernel, by decide +kernel⟩
theorem okr_law_sound (T : Txt K mg) : FnOk P w K mg base (L2.CX P w) 1 T.a_law_sound T.d_law_sound ["_law_own", "_law_deed_here"] (spM T.gam m_law_sound) := by
  refine okD (k := 0) T.F_law_sound sN_law_sound 2 5 rfl rfl rfl b_law_sound (fun cdv A outer s H E hr => ?_)
  have scN := sN_law_sound
  have hu := hr.units
  have hu1 := hu_of hr
  have hu65 := unit65 hr
  have tk := takes_of (X := cxOf (L2.CX P w) P w K mg base ["_law_own", "_law_deed_here", "_law_count", "_law_place", "_law_piece"] "_law_sound" (defScope s_law_sound) T.a_law_sound cdv A outer s H E) (E := E) rfl rfl rfl rfl
  have po := passes_of (X := cxOf (L2.CX P w) P w K mg base ["_law_own", "_law_deed_here", "_law_count", "_law_place", "_law_piece"] "_law_sound" (defScope s_law_sound) T.a_law_sound cdv A outer s H E) (K := fun e s'' => L2.CX P w outer H s E e s'') (E₁ := fun e s'' => L2.CX P w outer H s E e s'') rfl
  exact (db_cons (ds_set (i := 2) scN.nd rfl (Or.inl rfl) (de_callB (cd_len rfl) rfl T.n_len (by decide +kernel) (da_cons (de_dget hu1 (de_var 0) (de_str [114, 111, 119]) (fun _ _ => rfl)) da_nil)))
    (db_cons (ds_for po rfl (di_seq rfl (de_slice rfl (de_var 1) (do_some de_int) (do_some (de_op (od_add rfl) de_int (de_callTy cd_int rfl T.n_int (by decide +kernel) (da_cons (de_cmp (od_eq rfl hu) (de_ix rfl (de_var 1) de_int (fun _ _ => rfl)) (de_str [116, 117, 114, 110])) da_nil)))))) (dg_name (i := 3) scN.nd rfl (Or.inl rfl))
    (db_one (ds_if (dt_w (dt_and (dt_cmp (od_ne rfl hu) (de_ix rfl (de_var 1) de_int (fun _ _ => rfl)) (de_str [115, 101, 110, 100])) (dt_and1 (dt_w (dt_or (dt_cmp od_lt (de_var 3) de_int) (dt_or1 (dt_cmp od_ge (de_var 3) (de_var 2))))))))
    (db_one (ds_ret (de_str [78, 111, 80, 105, 101, 99, 101])))
    db_nil)))
    (db_cons (ds_if (dt_cmp (od_ne rfl hu) (de_ix rfl (de_var 1) de_int (fun _ _ => rfl)) (de_str [115, 112, 111, 105, 108]))
    (db_one (ds_ret (de_str [])))
    db_nil)
    (db_cons (ds_set (i := 4) scN.nd rfl (Or.inl rfl) (de_ix rfl (de_dget hu1 (de_var 0) (de_str [114, 111, 119]) (fun _ _ => rfl)) (de_ix rfl (de_var 1) de_int (fun _ _ => rfl)) (fun _ _ => rfl)))
    (db_cons (ds_if (dt_w (dt_or (dt_tru rfl (de_ix rfl (de_var 4) de_int (fun _ _ => rfl))) (dt_or (dt_cmp od_lt (de_ix rfl (de_var 1) de_int (fun _ _ => rfl)) de_int) (dt_or (dt_cmp od_ge (de_ix rfl (de_var 1) de_int (fun _ _ => rfl)) (de_callB (cd_len rfl) rfl T.n_len (by decide +kernel) (da_cons (de_ix rfl (de_var 4) de_int (fun _ _ => rfl)) da_nil))) (dt_or1 (dt_cmp (od_eq rfl hu) (de_ix rfl (de_ix rfl (de_var 4) de_int (fun _ _ => rfl)) (de_ix rfl (de_var 1) de_int (fun _ _ => rfl)) (fun _ _ => rfl)) (de_ix rfl (de_var 1) de_int (fun _ _ => rfl))))))))
    (db_one (ds_ret (de_str [78, 111, 68, 101, 101, 100])))
    db_nil)
    (db_one (ds_ret (de_str []))))))))

--SPEC law_sound
theorem ok_law_sound (T : Txt K mg) : FnOk P w K mg base (L2.CX P w) 1 T.a_law_sound T.d_law_sound ["_law_own", "_law_deed_here"] (spM T.gam DL.P.own_sound) := okImp (okr_law_sound T) DL.P.tell_own_sound
abbrev sc_is_gone := defScope s_is_gone
theorem sN_is_gone : FnScope ["log", "number", "row"] ["log", "number"] (defScope s_is_gone) := ⟨rfl, rfl, rfl, by decide +kernel, rfl, by decide +kernel, by decide +kernel⟩
theorem okr_is_gone (T : Txt K mg) : FnOk P w K mg base (L2.CX P w) 1 T.a_is_gone T.d_is_gone ["log", "number"] (spM T.gam m_is_gone) := by
  refine okD (k := 0) T.F_is_gone sN_is_gone 2 3 rfl rfl rfl b_is_gone (fun cdv A outer s H E hr => ?_)
  have scN := sN_is_gone
  have hu := hr.units
  have hu1 := hu_of hr
  have hu65 := unit65 hr
  have tk := takes_of (X := cxOf (L2.CX P w) P w K mg base ["log", "number", "row"] "is_gone" (defScope s_is_gone) T.a_is_gone cdv A outer s H E) (E := E) rfl rfl rfl rfl
  have po := passes_of (X := cxOf (L2.CX P w) P w K mg base ["log", "number", "row"] "is_gone" (defScope s_is_gone) T.a_is_gone cdv A outer s H E) (K := fun e s'' => L2.CX P w outer H s E e s'') (E₁ := fun e s'' => L2.CX P w outer H s E e s'') rfl
  exact (db_cons (ds_for po rfl (di_seq rfl (de_var 0)) (dg_name (i := 2) scN.nd rfl (Or.inl rfl))
    (db_one (ds_if (dt_w (dt_and (dt_in rfl hu65 (de_ix rfl (de_var 2) de_int (fun _ _ => rfl)) (de_tup (da_cons (de_str [99, 97, 114, 114, 121]) (da_cons (de_str [108, 111, 115, 101]) (da_cons (de_str [102, 117, 108, 108]) da_nil))))) (dt_and1 (dt_cmp (od_eq rfl hu) (de_ix rfl (de_var 2) de_int (fun _ _ => rfl)) (de_var 1)))))
    (db_one (ds_ret de_bl))
    db_nil)))
    (db_one (ds_ret de_bl)))

--SPEC is_gone
theorem ok_is_gone (T : Txt K mg) : FnOk P w K mg base (L2.CX P w) 1 T.a_is_gone T.d_is_gone ["log", "number"] (spM T.gam DL.P.is_gone) := okImp (okr_is_gone T) DL.P.tell_is_gone
abbrev sc_sent_text := defScope s_sent_text
theorem sN_sent_text : FnScope ["log", "number", "texts", "row"] ["log", "number"] (defScope s_sent_text) := ⟨rfl, rfl, rfl, by decide +kernel, rfl, by decide +kernel, by decide +kernel⟩
theorem okr_sent_text (T : Txt K mg) : FnOk P w K mg base (L2.CX P w) 1 T.a_sent_text T.d_sent_text ["log", "number"] (spM T.gam m_sent_text) := by
  refine okD (k := 0) T.F_sent_text sN_sent_text 2 4 rfl rfl rfl b_sent_text (fun cdv A outer s H E hr => ?_)
  have scN := sN_sent_text
  have hu := hr.units
  have hu1 := hu_of hr
  have hu65 := unit65 hr
  have tk := takes_of (X := cxOf (L2.CX P w) P w K mg base ["log", "number", "texts", "row"] "sent_text" (defScope s_sent_text) T.a_sent_text cdv A outer s H E) (E := E) rfl rfl rfl rfl
  have po := passes_of (X := cxOf (L2.CX P w) P w K mg base ["log", "number", "texts", "row"] "sent_text" (defScope s_sent_text) T.a_sent_text cdv A outer s H E) (K := fun e s'' => L2.CX P w outer H s E e s'') (E₁ := fun e s'' => L2.CX P w outer H s E e s'') rfl
  exact (db_cons (ds_set (i := 2) scN.nd rfl (Or.inl rfl) de_dic)
    (db_cons (ds_for po rfl (di_seq rfl (de_var 0)) (dg_name (i := 3) scN.nd rfl (Or.inl rfl))
    (db_cons (ds_if (dt_w (dt_or (dt_cmp (od_eq rfl hu) (de_ix rfl (de_var 3) de_int (fun _ _ => rfl)) (de_str [115, 101, 110, 100])) (dt_or1 (dt_cmp (od_eq rfl hu) (de_ix rfl (de_var 3) de_int (fun _ _ => rfl)) (de_str [102, 117, 108, 108])))))
    (db_one (ds_sub hu1 (de_var 2) (de_ix rfl (de_var 3) de_int (fun _ _ => rfl)) (de_ix rfl (de_var 3) de_int (fun _ _ => rfl)) rfl (hpg := pg_sub (de_var 2) (de_ix rfl (de_var 3) de_int (fun _ _ => rfl)) set_list)))
    (db_one (ds_if (dt_cmp (od_eq rfl hu) (de_ix rfl (de_var 3) de_int (fun _ _ => rfl)) (de_str [100, 111, 117, 98, 108, 101]))
    (db_one (ds_sub hu1 (de_var 2) (de_ix rfl (de_var 3) de_int (fun _ _ => rfl)) (de_dget hu1 (de_var 2) (de_ix rfl (de_var 3) de_int (fun _ _ => rfl)) (fun _ _ => rfl)) rfl (hpg := pg_sub (de_var 2) (de_ix rfl (de_var 3) de_int (fun _ _ => rfl)) set_list)))
    (db_one (ds_if (dt_cmp (od_eq rfl hu) (de_ix rfl (de_var 3) de_int (fun _ _ => rfl)) (de_str [115, 112, 111, 105, 108]))
    (db_one (ds_sub hu1 (de_var 2) (de_ix rfl (de_var 3) de_int (fun _ _ => rfl)) (de_ix rfl (de_var 3) de_int (fun _ _ => rfl)) rfl (hpg := pg_sub (de_var 2) (de_ix rfl (de_var 3) de_int (fun _ _ => rfl)) set_list)))
    db_nil)))))
    (db_one (ds_if (dt_in rfl hu65 (de_var 1) (de_var 2))
    (db_one (ds_ret (de_dget hu1 (de_var 2) (de_var 1) (fun _ _ => rfl))))
    db_nil))))
    (db_one (ds_ret de_non))))

--SPEC sent_text
theorem ok_sent_text (T : Txt K mg) : FnOk P w K mg base (L2.CX P w) 1 T.a_sent_text T.d_sent_text ["log", "number"] (spM T.gam DL.P.sent_text) := okImp (okr_sent_text T) DL.P.tell_sent_text
abbrev sc_law_told_right := defScope s_law_told_right
theorem sN_law_told_right : FnScope ["_law_log", "_law_firsts", "_law_flying", "_law_number", "_law_due", "_law_found", "_law_gone"] ["_law_log", "_law_firsts", "_law_flying"] (defScope s_law_told_right) := ⟨rfl, rfl, rfl, by decide +kernel, rfl, by decide +kernel, by decide +kernel⟩
theorem okr_law_told_right (T : Txt K mg) : FnOk P w K mg base (L2.CX P w) 2 T.a_law_told_right T.d_law_told_right ["_law_log", "_law_firsts", "_law_flying"] (spM T.gam m_law_told_right) := by
  refine okD (k := 1) T.F_law_told_right sN_law_told_right 3 7 rfl rfl rfl b_law_told_right (fun cdv A outer s H E hr => ?_)
  have scN := sN_law_told_right
  have hu := hr.units
  have hu1 := hu_of hr
  have hu65 := unit65 hr
  have tk := takes_of (X := cxOf (L2.CX P w) P w K mg base ["_law_log", "_law_firsts", "_law_flying", "_law_number", "_law_due", "_law_found", "_law_gone"] "_law_told_right" (defScope s_law_told_right) T.a_law_told_right cdv A outer s H E) (E := E) rfl rfl rfl rfl
  have po := passes_of (X := cxOf (L2.CX P w) P w K mg base ["_law_log", "_law_firsts", "_law_flying", "_law_number", "_law_due", "_law_found", "_law_gone"] "_law_told_right" (defScope s_law_told_right) T.a_law_told_right cdv A outer s H E) (K := fun e s'' => L2.CX P w outer H s E e s'') (E₁ := fun e s'' => L2.CX P w outer H s E e s'') rfl
  exact (db_cons (ds_for po rfl (di_range2 rfl T.n_range (de_un ud_neg de_int) (de_op (od_add rfl) (de_callB (cd_len rfl) rfl T.n_len (by decide +kernel) (da_cons (de_var 1) da_nil)) de_int)) (dg_name (i := 3) scN.nd rfl (Or.inl rfl))
    (db_cons (ds_set (i := 4) scN.nd rfl (Or.inl rfl) de_non)
    (db_cons (ds_if (dt_chain od_le od_lt de_int (de_var 3) (de_callB (cd_len rfl) rfl T.n_len (by decide +kernel) (da_cons (de_var 1) da_nil)))
    (db_one (ds_set (i := 4) scN.nd rfl (Or.inl rfl) (de_ix rfl (de_var 1) (de_var 3) (fun _ _ => rfl))))
    db_nil)
    (db_cons (ds_set (i := 5) scN.nd rfl (Or.inl rfl) (de_call (ok_sent_text T) tk (hr.mono (by decide)) rfl T.g_sent_text T.F_sent_text.kp T.b_sent_text (da_cons (de_var 0) (da_cons (de_var 3) da_nil))))
    (db_cons (ds_if (dt_w (dt_or (dt_cmp (od_ne rfl hu) (de_var 5) (de_var 4)) (dt_or1 (dt_w (dt_and (dt_cmp od_isnot (de_var 4) de_non) (dt_and1 (dt_not (dt_val (de_isi "str" (by rfl) T.n_isinstance rfl (by rfl) T.n_str (by decide +kernel) rfl (de_var 5))))))))))
    (db_one (ds_ret de_bl))
    db_nil)
    (db_cons (ds_set (i := 6) scN.nd rfl (Or.inl rfl) (de_call (ok_is_gone T) tk (hr.mono (by decide)) rfl T.g_is_gone T.F_is_gone.kp T.b_is_gone (da_cons (de_var 0) (da_cons (de_var 3) da_nil))))
    (db_one (ds_if (dt_w (dt_or (dt_not (dt_val (de_isi "bool" (by rfl) T.n_isinstance rfl (by rfl) T.n_bool (by decide +kernel) rfl (de_var 6)))) (dt_or1 (dt_cmp (od_ne rfl hu) (de_var 6) (de_and (de_cmp od_isnot (de_var 4) de_non) (de_one (de_notin rfl hu65 (de_var 3) (de_var 2))))))))
    (db_one (ds_ret de_bl))
    db_nil))))))))
    (db_one (ds_ret de_bl)))

--SPEC law_told_right
theorem ok_law_told_right (T : Txt K mg) : FnOk P w K mg base (L2.CX P w) 2 T.a_law_told_right T.d_law_told_right ["_law_log", "_law_firsts", "_law_flying"] (spM T.gam m_law_told_right) := okr_law_told_right T
abbrev sc_law := defScope s_law
theorem sN_law : FnScope ["_law_script", "_law_own", "_law_firsts", "_law_k", "_law_deed_here", "_law_flying", "_law_piece", "_law_handed"] ["_law_script"] (defScope s_law) := ⟨rfl, rfl, rfl, by decide +kernel, rfl, by decide +kernel, by decide +kernel⟩
theorem okr_law (T : Txt K mg) : FnOk P w K mg base (L2.CX P w) 3 T.a_law T.d_law ["_law_script"] (spM T.gam m_law) := by
  refine okD (k := 2) T.F_law sN_law 1 8 rfl rfl rfl b_law (fun cdv A outer s H E hr => ?_)
  have scN := sN_law
  have hu := hr.units
  have hu1 := hu_of hr
  have hu65 := unit65 hr
  have tk := takes_of (X := cxOf (L2.CX P w) P w K mg base ["_law_script", "_law_own", "_law_firsts", "_law_k", "_law_deed_here", "_law_flying", "_law_piece", "_law_handed"] "law" (defScope s_law) T.a_law cdv A outer s H E) (E := E) rfl rfl rfl rfl
  have po := passes_of (X := cxOf (L2.CX P w) P w K mg base ["_law_script", "_law_own", "_law_firsts", "_law_k", "_law_deed_here", "_law_flying", "_law_piece", "_law_handed"] "law" (defScope s_law) T.a_law cdv A outer s H E) (K := fun e s'' => L2.CX P w outer H s E e s'') (E₁ := fun e s'' => L2.CX P w outer H s E e s'') rfl
  exact (db_cons (ds_set (i := 1) scN.nd rfl (Or.inl rfl) (de_call0 (ok_law_begun T) tk (hr.mono (by decide)) rfl T.g_law_begun T.F_law_begun.kp T.b_law_begun))
    (db_cons (ds_set (i := 2) scN.nd rfl (Or.inl rfl) (de_lst da_nil))
    (db_cons (ds_for po rfl (di_range1 rfl T.n_range (de_callB (cd_min rfl) rfl T.n_min (by decide +kernel) (da_cons de_int (da_cons (de_callB (cd_len rfl) rfl T.n_len (by decide +kernel) (da_cons (de_var 0) da_nil)) da_nil)))) (dg_name (i := 3) scN.nd rfl (Or.inl rfl))
    (db_cons (ds_set (i := 4) scN.nd rfl (Or.inl rfl) (de_call (ok_law_deed T) tk (hr.mono (by decide)) rfl T.g_law_deed T.F_law_deed.kp T.b_law_deed (da_cons (de_op (od_add rfl) (de_ix rfl (de_var 0) (de_var 3) (fun _ _ => rfl)) (de_op od_mul de_int (de_var 3))) (da_cons (de_callB (cd_len rfl) rfl T.n_len (by decide +kernel) (da_cons (de_dget hu1 (de_var 1) (de_str [114, 111, 119]) (fun _ _ => rfl)) da_nil)) da_nil))))
    (db_cons (ds_if (dt_cmp (od_eq rfl hu) (de_call (ok_law_sound T) tk (hr.mono (by decide)) rfl T.g_law_sound T.F_law_sound.kp T.b_law_sound (da_cons (de_var 1) (da_cons (de_var 4) da_nil))) (de_str []))
    (db_cons (ds_if (dt_cmp (od_eq rfl hu) (de_ix rfl (de_var 4) de_int (fun _ _ => rfl)) (de_str [115, 101, 110, 100]))
    (db_one (ds_do (de_bm rfl PySem.F.plainAttrs_list PySem.F.slot_list_append PySem.F.type_list_append md_append (de_var 2) (da_cons (de_ix rfl (de_var 4) de_int (fun _ _ => rfl)) da_nil))))
    db_nil)
    (db_cons (ds_if (dt_cmp (od_eq rfl hu) (de_ix rfl (de_var 4) de_int (fun _ _ => rfl)) (de_str [100, 111, 117, 98, 108, 101]))
    (db_one (ds_do (de_bm rfl PySem.F.plainAttrs_list PySem.F.slot_list_append PySem.F.type_list_append md_append (de_var 2) (da_cons (de_ix rfl (de_ix rfl (de_dget hu1 (de_var 1) (de_str [114, 111, 119]) (fun _ _ => rfl)) (de_ix rfl (de_var 4) de_int (fun _ _ => rfl)) (fun _ _ => rfl)) de_int (fun _ _ => rfl)) da_nil))))
    db_nil)
    (db_one (ds_do (de_call (ok_law_done T) tk (hr.mono (by decide)) rfl T.g_law_done T.F_law_done.kp T.b_law_done (da_cons (de_var 1) (da_cons (de_var 4) da_nil)))))))
    db_nil)
    (db_cons (ds_setComp (i := 5) rfl rfl scN.nd rfl rfl (sw_true rfl rfl rfl (by decide +kernel)) (di_seq rfl (de_dget hu1 (de_var 1) (de_str [114, 111, 119]) (fun _ _ => rfl))) (own := [("_law_piece", 6)]) (g := (gName 6)) rfl (blkOk_by (N := ["_law_script", "_law_own", "_law_firsts", "_law_k", "_law_deed_here", "_law_flying", "_law_piece", "_law_handed"]) (sc := defScope s_law) (by decide +kernel)) (gc_name (by decide) rfl) (fun _ _ _ _ _ => pg_name (i := 6) scN.nd rfl (Or.inl rfl)) (fun _ _ _ _ _ => dts_nil) (fun _ _ _ _ _ => (de_ix rfl (de_var 6) de_int (fun _ _ => rfl))))
    (db_cons (ds_set (i := 7) scN.nd rfl (Or.inl rfl) (de_callTy (cd_list rfl) rfl T.n_list (by decide +kernel) (da_cons (de_dget hu1 (de_var 1) (de_str [108, 111, 103]) (fun _ _ => rfl)) da_nil)))
    (db_one (ds_if (dt_w (dt_or (dt_not (dt_tru rfl (de_call (ok_law_told_right T) tk (hr.mono (by decide)) rfl T.g_law_told_right T.F_law_told_right.kp T.b_law_told_right (da_cons (de_var 7) (da_cons (de_var 2) (da_cons (de_var 5) da_nil)))))) (dt_or1 (dt_cmp (od_ne rfl hu) (de_var 7) (de_dget hu1 (de_var 1) (de_str [108, 111, 103]) (fun _ _ => rfl))))))
    (db_one (ds_ret de_bl))
    db_nil)))))))
    (db_one (ds_ret de_bl)))))

--SPEC law
theorem ok_law (T : Txt K mg) : FnOk P w K mg base (L2.CX P w) 3 T.a_law T.d_law ["_law_script"] (spM T.gam m_law) := okr_law T
end
end
end L_k48
set_option maxHeartbeats 2000000
namespace L_k48
open PySem L2 DL
@[irreducible] noncomputable def c_2b_1 : SM := (sIf (tB (e2 oEq (eCall DL.P.own_sound (eCons (eVar 1) (eCons (eVar 4) eNil))) (eC (.str [])))) (sSeq (sIf (tB (e2 oEq (e2 oIx (eVar 4) (eC (.int 0))) (eC (.str [115, 101, 110, 100])))) (sDo (eBM "list" mAppend (eVar 2) (eCons (e2 oIx (eVar 4) (eC (.int 2))) eNil))) sSkip) (sSeq (sIf (tB (e2 oEq (e2 oIx (eVar 4) (eC (.int 0))) (eC (.str [100, 111, 117, 98, 108, 101])))) (sDo (eBM "list" mAppend (eVar 2) (eCons (e2 oIx (e2 oIx (e2 oDget (eVar 1) (eC (.str [114, 111, 119]))) (e2 oIx (eVar 4) (eC (.int 1)))) (eC (.int 2))) eNil))) sSkip) (sDo (eCall DL.P.own_done (eCons (eVar 1) (eCons (eVar 4) eNil)))))) sSkip)
@[irreducible] noncomputable def c_2b_2 : SM := (sSeq (sSet 5 (eComp (iSeq (e2 oDget (eVar 1) (eC (.str [114, 111, 119])))) (tName 6) tYesD (e2 oIx (eVar 6) (eC (.int 0))) [6])) (sSeq (sSet 7 (e1 oList (eCons (e2 oDget (eVar 1) (eC (.str [108, 111, 103]))) eNil))) (sIf (tOrD (tNotD (tTru (eCall m_law_told_right (eCons (eVar 7) (eCons (eVar 2) (eCons (eVar 5) eNil)))))) (tB (e2 oNe (eVar 7) (e2 oDget (eVar 1) (eC (.str [108, 111, 103])))))) (sRet (eC (.bl false))) sSkip)))
theorem b_law_eq : b_law = (sSeq (sSet 1 (eCall DL.P.own_begun eNil))
    (sSeq (sSet 2 (eLst eNil))
    (sSeq (sFor (iRng1D (e1 oMin (eCons (eC (.int 30)) (eCons (e1 oLen (eCons (eVar 0) eNil)) eNil)))) (tName 3) (sSeq (sSet 4 (eCall DL.P.own_deed (eCons (e2 oAdd (e2 oIx (eVar 0) (eVar 3)) (e2 oMul (eC (.int 31)) (eVar 3))) (eCons (e1 oLen (eCons (e2 oDget (eVar 1) (eC (.str [114, 111, 119]))) eNil)) eNil))))
    (sSeq c_2b_1
    c_2b_2)))
    (sRet (eC (.bl true)))))) := by
  unfold b_law c_2b_2 c_2b_1; rfl

theorem RO.stepD {r : Rd} {o : Ow} (hR : RO r o) (hg : o.given ≤ 60000) (hl : o.log.length ≤ 60000) {x : Dd} (hx : x.good) (hs : o.sound x = []) : ∃ r' o' v m, o.done x = some (o', v, m) ∧ RO r' o' := by
  have hA : RdAt [rdO r 1 2 3, rdA r, rdB r, rdC r] 0 r 1 2 3 := ⟨rfl, rfl, rfl, rfl, hR.nr, by decide⟩
  rcases ask_step hA hR hg hl hx with ⟨_, r', o', v, m, h1, h2, _⟩ | ⟨h, _⟩ | ⟨h, _⟩
  · exact ⟨r', o', v, m, h1, h2⟩
  · rw [hs] at h; exact absurd h (by decide)
  · rw [hs] at h; exact absurd h (by decide)
theorem ow_ok {r : Rd} {o : Ow} (hR : RO r o) (hl : o.log.length ≤ 50000) : o.ok := by
  refine ⟨by have := hR.mx; omega, hl, ?_⟩
  rw [List.all_eq_true]; intro kp hkp
  have := (hR.tx kp hkp).1.2; simp; omega
theorem good_small {x : Dd} (h : x.good) : x.small := by
  cases x <;> simp only [Dd.small, Dd.good] at h ⊢
  have := h.1; omega
theorem done_given {o o' : Ow} {x : Dd} {v : D} {m : Bool} (h : o.done x = some (o', v, m)) : o'.given ≤ o.given + 1 ∧ o'.log.length ≤ o.log.length + 2 := by
  have hp : ∀ (o : Ow) w p, (o.put w p).given ≤ o.given + 1 ∧ (o.put w p).log.length ≤ o.log.length + 1 := fun o w p => by
    unfold Ow.put; split
    · simp
    · simp only; split <;> simp
  cases x with
  | send a t => simp only [Ow.done] at h; cases h; have := hp o sendC ⟨a, t, false⟩; omega
  | double i =>
    simp only [Ow.done] at h
    cases z : o.row[i.toNat]? with
    | none => rw [z] at h; cases h
    | some kp => rw [z] at h; cases h; have := hp { o with log := o.log ++ [.double kp.1 o.given] } dblC kp.2; simp at this ⊢; omega
  | carry i =>
    simp only [Ow.done] at h
    cases z : o.row[i.toNat]? with
    | none => rw [z] at h; cases h
    | some kp => rw [z] at h; cases h; simp; omega
  | lose i =>
    simp only [Ow.done] at h
    cases z : o.row[i.toNat]? with
    | none => rw [z] at h; cases h
    | some kp => rw [z] at h; cases h; simp; omega
  | turn i j =>
    simp only [Ow.done] at h
    cases z : o.row[i.toNat]? with
    | none => rw [z] at h; cases h
    | some kp =>
      rw [z] at h
      cases y : o.row[j.toNat]? with
      | none => rw [y] at h; cases h
      | some lq => rw [y] at h; cases h; simp; omega
  | spoil i a s =>
    simp only [Ow.done] at h
    cases z : o.row[i.toNat]? with
    | none => rw [z] at h; cases h
    | some kp => rw [z] at h; cases h; simp; omega
/-- what the store holds -/
structure SI (s : Store) (ns : List Int) (o : Ow) (F : List (List Nat)) (p q : Nat) : Prop where
  h0 : s[0]? = some (.frz (ns.map .int))
  ow : OwAt s 1 p q o
  h4 : s[4]? = some (.lst (F.map .str))
  p4 : p ≠ 4 ∧ p ≠ 0
  q4 : q ≠ 4 ∧ q ≠ 0
theorem SI.app {s : Store} {ns : List Int} {o : Ow} {F : List (List Nat)} {p q : Nat} (h : SI s ns o F p q) (g : Store) : SI (s ++ g) ns o F p q := ⟨get_old h.h0, h.ow.app g, get_old h.h4, h.p4, h.q4⟩
theorem SI.set4 {s : Store} {ns : List Int} {o : Ow} {F G : List (List Nat)} {p q : Nat} (h : SI s ns o F p q) : SI (s.set 4 (.lst (G.map .str))) ns o G p q := by
  have h4 := lt_of_get h.h4
  refine ⟨by rw [List.getElem?_set_ne (by decide)]; exact h.h0, ⟨by rw [List.getElem?_set_ne (by decide)]; exact h.ow.hn, by rw [List.getElem?_set_ne (Ne.symm h.p4.1)]; exact h.ow.hp, by rw [List.getElem?_set_ne (Ne.symm h.q4.1)]; exact h.ow.hq, h.ow.pq⟩, by rw [List.getElem?_set_self h4], h.p4, h.q4⟩
theorem SI.set {s : Store} {ns : List Int} {o o' : Ow} {F : List (List Nat)} {p q : Nat} (h : SI s ns o F p q) : SI (owSet s 1 p q o') ns o' F p q :=
  ⟨by rw [owSet_ne (by decide) (Ne.symm h.p4.2) (Ne.symm h.q4.2)]; exact h.h0, h.ow.up o', by rw [owSet_ne (by decide) (Ne.symm h.p4.1) (Ne.symm h.q4.1)]; exact h.h4, h.p4, h.q4⟩
theorem SI.mov {s : Store} {ns : List Int} {o o' : Ow} {F : List (List Nat)} {p q : Nat} (h : SI s ns o F p q) : SI (owMov s 1 q o') ns o' F s.length q := by
  have h4 := lt_of_get h.h4
  have h0 := lt_of_get h.h0
  exact ⟨by rw [owMov_ne h0 (by decide) (Ne.symm h.q4.2)]; exact h.h0, h.ow.mv o', by rw [owMov_ne h4 (by decide) (Ne.symm h.q4.1)]; exact h.h4, ⟨by omega, by omega⟩, h.q4⟩
def En (k : Nat) (x4 x5 x6 x7 : Option D) : DL.Env := [some (.ref 0), some (.ref 1), some (.ref 4), some (.int (k : Int)), x4, x5, x6, x7]
section
variable {s : Store} {ns : List Int} {r : Rd} {o : Ow} {F : List (List Nat)} {B : List (Int × List Nat)} {p q k : Nat} {x5 x6 x7 : Option D}
theorem c1_ok (hS : SI s ns o F p q) (hR : RO r o) (hL : LG o F B) (hg : o.given ≤ 1000) (hl : o.log.length ≤ 1000) {x : Dd} (hx : x.good) :
    ∃ s' o' F' B' p' q' r', c_2b_1 (En k (some (ddD x)) x5 x6 x7) s = .nx (En k (some (ddD x)) x5 x6 x7) s' ∧ SI s' ns o' F' p' q' ∧ RO r' o' ∧ LG o' F' B' ∧ o'.given ≤ o.given + 1 ∧ o'.log.length ≤ o.log.length + 2 := by
  have hok := ow_ok hR (by omega)
  have ho := owOf_mk hS.ow
  have hso : P.own_sound [.ref 1, ddD x] s = .ok (.str (o.sound x)) s := by simp only [P.own_sound, ho, ddOf_mk]; rw [if_pos hok]
  by_cases hs : o.sound x = []
  · obtain ⟨r', o', v, m, hd, hR'⟩ := RO.stepD hR (by omega) (by omega) hx hs
    obtain ⟨B', hL'⟩ := hL.step hR hs hd
    obtain ⟨g1, g2⟩ := done_given hd
    have hdone : ∀ s1 F1, SI s1 ns o F1 p q → P.own_done [.ref 1, ddD x] s1 = .ok v (if m = true then owMov s1 1 q o' else owSet s1 1 p q o') := fun s1 F1 h1 => by
      simp only [P.own_done, owOf_mk h1.ow, ddOf_mk]
      rw [if_pos ⟨⟨hok, good_small hx, by omega⟩, hs⟩, hd]
    have hfin : ∀ s1, SI s1 ns o (F ++ newF o x) p q → ∃ p' q', SI (if m = true then owMov s1 1 q o' else owSet s1 1 p q o') ns o' (F ++ newF o x) p' q' := fun s1 h1 => by
      cases m with
      | true => rw [if_pos rfl]; exact ⟨_, _, h1.mov⟩
      | false => rw [if_neg (by decide)]; exact ⟨_, _, h1.set⟩
    have hFl : F.length ≤ 1000 := by have := hL.gv; omega
    have hl4 : F.length < sizeLine := hL5' (by omega)
    suffices hh : ∃ s1, SI s1 ns o (F ++ newF o x) p q ∧ c_2b_1 (En k (some (ddD x)) x5 x6 x7) s = .nx (En k (some (ddD x)) x5 x6 x7) (if m = true then owMov s1 1 q o' else owSet s1 1 p q o') by
      obtain ⟨s1, h1, h2⟩ := hh
      obtain ⟨p', q', h3⟩ := hfin s1 h1
      exact ⟨_, o', _, B', p', q', r', h2, h3, hR', hL', g1, g2⟩
    have hin := sound_in hs
    rw [hs] at hso
    unfold c_2b_1 En
    cases x with
    | send a t =>
      have h1 : SI (s.set 4 (.lst ((F ++ [t]).map .str))) ns o (F ++ [t]) p q := hS.set4
      have h2 := hdone _ _ h1
      simp only [List.map_append, List.map_cons, List.map_nil] at h2
      refine ⟨_, h1, ?_⟩
      simp only [ddD, sendC] at hso h2 ⊢
      simp [hso, hS.h4, hl4, h2]
    | double i =>
      simp only at hin
      obtain ⟨kp, k1, k2⟩ := ow_at hin
      have hnf : newF o (.double i) = [kp.2.text] := by simp only [newF, k1]
      rw [hnf]
      have h1 : SI (s.set 4 (.lst ((F ++ [kp.2.text]).map .str))) ns o (F ++ [kp.2.text]) p q := hS.set4
      have h2 := hdone _ _ h1
      simp only [List.map_append, List.map_cons, List.map_nil] at h2
      refine ⟨_, h1, ?_⟩
      simp only [ddD, dblC] at hso h2 ⊢
      simp only [rwD] at k2
      simp [hso, hS.h4, hl4, hS.ow.hn, hS.ow.hp, k2, h2]
    | carry i =>
      have h2 := hdone _ _ hS
      refine ⟨s, by simpa [newF] using hS, ?_⟩
      simp only [ddD, carC] at hso h2 ⊢
      simp [hso, h2]
    | lose i =>
      have h2 := hdone _ _ hS
      refine ⟨s, by simpa [newF] using hS, ?_⟩
      simp only [ddD, losC] at hso h2 ⊢
      simp [hso, h2]
    | turn i j =>
      have h2 := hdone _ _ hS
      refine ⟨s, by simpa [newF] using hS, ?_⟩
      simp only [ddD, turC] at hso h2 ⊢
      simp [hso, h2]
    | spoil i a t =>
      have h2 := hdone _ _ hS
      refine ⟨s, by simpa [newF] using hS, ?_⟩
      simp only [ddD, spoC] at hso h2 ⊢
      simp [hso, h2]
  · refine ⟨s, o, F, B, p, q, r, ?_, hS, hR, hL, by omega, by omega⟩
    unfold c_2b_1 En
    simp [hso, hs]
theorem told_ok {a c : Nat} (hR : RO r o) (hL : LG o F B) (hl : o.log.length ≤ 1000) (hF : F.length ≤ 1000) (ha : s[a]? = some (.lst (o.log.map evD))) (h4 : s[4]? = some (.lst (F.map .str))) (hc : s[c]? = some (.lst ((o.row.map (·.1)).map .int))) :
    m_law_told_right [.ref a, .ref 4, .ref c] s = .ok (.bl true) s := by
  rw [m_law_told_right]
  simp [b_law_told_right, h4]
  rw [if_pos (by omega)]
  simp only [s_ok, rngD]
  rw [show ((F.length : Int) + 1 + 1).toNat = F.length + 2 by omega]
  generalize hr : forK _ _ _ _ _ = w
  have hlf : F.length + 2 < fuel := by have : fuel = 100000000 := rfl; omega
  obtain ⟨e, s', rfl, rfl, x3, x4, x5, x6, rfl⟩ := forK_inv hr (List.range (F.length + 2)) (fun (i : Nat) => .int (-1 + (i : Int))) (fun pre e s' => s' = s ∧ ∃ x3 x4 x5 x6, e = [some (.ref a), some (.ref 4), some (.ref c), x3, x4, x5, x6])
    (fun _ _ _ _ => rfl) (by simpa using hlf) ⟨rfl, none, none, none, none, rfl⟩ (fun pre x post e s' hLr ⟨h1, y3, y4, y5, y6, h2⟩ => by
      subst h1; subst h2
      obtain ⟨hx1, hx⟩ := rng_mid hLr
      generalize hk : (-1 + (x : Int)) = k
      have hs : P.sent_text [.ref a, .int k] s' = .ok (optS (fAt F k)) s' := by
        simp only [P.sent_text, ha, allO_mk evOf_mk]
        rw [if_pos (by omega), hL.go k]
      have hg : P.is_gone [.ref a, .int k] s' = .ok (.bl (decide (0 ≤ k ∧ k < o.given ∧ k ∉ o.row.map (·.1)))) s' := by
        simp only [P.is_gone, ha, allO_mk evOf_mk]
        rw [if_pos (by omega), hL.gn k]
      have hi : inD (.int k) (.ref c) s' = some (decide (k ∈ o.row.map (·.1))) := in_ints (seq_lst hc)
      have hgv := hL.gv
      by_cases c0 : 0 ≤ k
      · by_cases c1 : k < (F.length : Int)
        · have e1 : F[k.toNat]? = some F[k.toNat] := List.getElem?_eq_getElem (by omega)
          have e2 : atI (F.map D.str) k = some (.str F[k.toNat]) := by rw [atI_pos c0, List.getElem?_map, e1]; rfl
          have e3 : fAt F k = some F[k.toNat] := by unfold fAt; rw [if_pos c0, e1]
          rw [e3] at hs
          have c1' : k < o.given := by omega
          simp only [c0, c1', true_and] at hg
          generalize o.row.map (·.1) = K at *
          by_cases c2 : k ∈ K <;> simp [h4, c0, c1, e2, hs, hg, optS, hi, c2, -inD_at]
        · have e3 : fAt F k = none := by unfold fAt; rw [if_pos c0, List.getElem?_eq_none (by omega)]
          rw [e3] at hs
          have : ¬ k < o.given := by omega
          simp only [this, false_and, and_false, decide_false] at hg
          simp [h4, c0, c1, hs, hg, optS]
      · have e3 : fAt F k = none := by unfold fAt; rw [if_neg c0]
        rw [e3] at hs
        simp only [c0, false_and, decide_false] at hg
        simp [h4, c0, hs, hg, optS])
  simp
theorem c2_ok (hS : SI s ns o F p q) (hR : RO r o) (hL : LG o F B) (hg : o.given ≤ 1000) (hl : o.log.length ≤ 1000) {x4 : Option D} :
    ∃ y5 y6 y7 g, c_2b_2 (En k x4 x5 x6 x7) s = .nx (En k x4 y5 y6 y7) (s ++ g) := by
  have hm := hR.mx
  have hFl : F.length ≤ 1000 := by have := hL.gv; omega
  unfold c_2b_2 En
  simp [hS.ow.hn, hS.ow.hp, -List.map_map]
  generalize hr : compK _ _ _ _ _ _ _ = w
  obtain rfl := compK_r hr o.row rwD (fun _ => true) (fun kp => .int kp.1) (by simp [hS.ow.hp]) (hL1000 (by omega)) (fun kp _ a => by simp [wipeD, rwD])
  have hmm : (o.row.map fun kp => D.int kp.1) = (o.row.map (·.1)).map .int := by simp
  have g1 : ∀ g, (s ++ g)[1]? = some (owO p q o.given) := fun g => get_old hS.ow.hn
  have gq : ∀ g, (s ++ g)[q]? = some (.lst (o.log.map evD)) := fun g => get_old hS.ow.hq
  have g4 : ∀ g, (s ++ g)[4]? = some (.lst (F.map .str)) := fun g => get_old hS.h4
  have g1' : ∀ g (h : 1 < (s ++ g).length), (s ++ g)[1] = owO p q o.given := fun g h => Option.some.inj ((List.getElem?_eq_getElem h).symm.trans (g1 g))
  have ht := told_ok (s := s ++ [.lst ((o.row.map (·.1)).map .int), .lst (o.log.map evD)]) (a := s.length + 1) (c := s.length) hR hL hl hFl (by rw [getAk]; rfl) (g4 _) (by rw [getA0]; rfl)
  have he : eqD (.ref (s.length + 1)) (.ref q) (s ++ [.lst ((o.row.map (·.1)).map .int), .lst (o.log.map evD)]) = some true := by
    rw [eqD_refs (a := o.log.map evD) (b := o.log.map evD) (by rw [getAk]; rfl) (by rw [gq]; rfl) hR.lv hR.lv, eqBs_refl _ (nrs_of_val _ hR.lv)]
  rw [filt_yes, hmm]
  simp [g1, g1', gq, ht, he, -List.map_map]
end
theorem law_true (ns : List Int) (hn : ns.length ≤ 63) : ∃ st, m_law [.ref 0] [.frz (ns.map .int)] = .ok (.bl true) st := by
  rw [m_law, b_law_eq]
  simp [P.own_begun, -List.map_map]
  rw [if_pos (by omega), rng_map]
  generalize hr : forK _ _ _ _ _ = w
  obtain ⟨e, s', rfl, _⟩ := forK_inv hr (List.range (min 30 (ns.length : Int)).toNat) (fun (i : Nat) => .int (i : Int)) (fun pre e s => ∃ o F B p q r x3 x4 x5 x6 x7, e = [some (.ref 0), some (.ref 1), some (.ref 4), x3, x4, x5, x6, x7] ∧ SI s ns o F p q ∧ RO r o ∧ LG o F B ∧ o.given ≤ pre.length ∧ o.log.length ≤ 2 * pre.length)
    (fun pre e s _ => rfl) (by simp [fuel]; omega) ⟨⟨[], [], 0⟩, [], [], 2, 3, newRd, none, none, none, none, none, rfl, ⟨rfl, ⟨rfl, rfl, rfl, by decide⟩, rfl, by decide, by decide⟩, RO.new, LG.new, by simp, by simp⟩ (fun pre x post e s hL ⟨o, F, B, p, q, r, x3, x4, x5, x6, x7, h1, hS, hR, hLG, hg, hl⟩ => by
      subst h1
      obtain ⟨hx1, hx⟩ := rng_mid hL
      subst hx1
      obtain ⟨c, hat⟩ : ∃ c, atI (ns.map D.int) (pre.length : Int) = some (.int c) := by
        rw [atI_nat', List.getElem?_map]
        have : pre.length < ns.length := by omega
        exact ⟨ns[pre.length], by simp [this]⟩
      have hm := hR.mx
      have hpl : pre.length ≤ 30 := by omega
      have hdd : ∀ c : Int, P.own_deed [.int c, .int (o.row.length : Int)] s = .ok (ddD (ownDraw c o.row.length)) s := fun c => by
        simp only [P.own_deed]; rw [if_pos (by omega)]
      obtain ⟨s1, o', F', B', p', q', r', e1, hS', hR', hL', hg', hl'⟩ := c1_ok (k := pre.length) (x5 := x5) (x6 := x6) (x7 := x7) hS hR hLG (by omega) (by omega) (draw_good (c + 31 * (pre.length : Int)) o.row.length)
      obtain ⟨y5, y6, y7, g, e2⟩ := c2_ok (k := pre.length) (x4 := some (ddD (ownDraw (c + 31 * (pre.length : Int)) o.row.length))) (x5 := x5) (x6 := x6) (x7 := x7) hS' hR' hL' (by omega) (by omega)
      simp only [En] at e1 e2
      simp [hS.h0, hS.ow.hn, hS.ow.hp, hat, hdd, e1, e2, -List.map_map]
      exact ⟨o', F', ⟨p', q', hS'.app g⟩, ⟨r', hR'⟩, ⟨B', hL'⟩, by omega, by omega⟩)
  simp
end L_k48
namespace L_k48
open PySem L2 DL
theorem fin_mk {l : PySem.W.OpenLaw} {w : World} {K : PySem.W.Frag} {h : Heap} {mg : Str → Option Value} {fa : Addr} (X : K.In h) (G : h.Ns mainGlobals mg) (hfa : mg "law" = some (.ref fa))
    {a_law_begun : Addr} {od_law_begun an_law_begun : Option Addr} {sl_law_begun : Array (Option Value)} {oc_law_begun kV_law_begun dc_law_begun pm_law_begun cd_law_begun ct_law_begun : Value}
    {a_law_signs : Addr} {od_law_signs an_law_signs : Option Addr} {sl_law_signs : Array (Option Value)} {oc_law_signs kV_law_signs dc_law_signs pm_law_signs cd_law_signs ct_law_signs : Value}
    {a_law_stream : Addr} {od_law_stream an_law_stream : Option Addr} {sl_law_stream : Array (Option Value)} {oc_law_stream kV_law_stream dc_law_stream pm_law_stream cd_law_stream ct_law_stream : Value}
    {a_law_deed : Addr} {od_law_deed an_law_deed : Option Addr} {sl_law_deed : Array (Option Value)} {oc_law_deed kV_law_deed dc_law_deed pm_law_deed cd_law_deed ct_law_deed : Value}
    {a_law_put : Addr} {od_law_put an_law_put : Option Addr} {sl_law_put : Array (Option Value)} {oc_law_put kV_law_put dc_law_put pm_law_put cd_law_put ct_law_put : Value}
    {a_law_done : Addr} {od_law_done an_law_done : Option Addr} {sl_law_done : Array (Option Value)} {oc_law_done kV_law_done dc_law_done pm_law_done cd_law_done ct_law_done : Value}
    {a_law_sound : Addr} {od_law_sound an_law_sound : Option Addr} {sl_law_sound : Array (Option Value)} {oc_law_sound kV_law_sound dc_law_sound pm_law_sound cd_law_sound ct_law_sound : Value}
    {a_is_gone : Addr} {od_is_gone an_is_gone : Option Addr} {sl_is_gone : Array (Option Value)} {oc_is_gone kV_is_gone dc_is_gone pm_is_gone cd_is_gone ct_is_gone : Value}
    {a_sent_text : Addr} {od_sent_text an_sent_text : Option Addr} {sl_sent_text : Array (Option Value)} {oc_sent_text kV_sent_text dc_sent_text pm_sent_text cd_sent_text ct_sent_text : Value}
    {a_law_told_right : Addr} {od_law_told_right an_law_told_right : Option Addr} {sl_law_told_right : Array (Option Value)} {oc_law_told_right kV_law_told_right dc_law_told_right pm_law_told_right cd_law_told_right ct_law_told_right : Value}
    {a_law : Addr} {od_law an_law : Option Addr} {sl_law : Array (Option Value)} {oc_law kV_law dc_law pm_law cd_law ct_law : Value}
    (hn_law_begun : PySem.W.nsIn K mainGlobals "_law_begun" = some (some (.ref a_law_begun)))
    (hl_law_begun : K.lookup a_law_begun = some ⟨oc_law_begun, od_law_begun, .func (PySem.W.fnOf "_law_begun" "_law_begun" (defArgs s_law_begun) (defBody s_law_begun) (defScope s_law_begun) .none kV_law_begun dc_law_begun pm_law_begun an_law_begun cd_law_begun ct_law_begun), sl_law_begun⟩)
    (hc_law_begun : PySem.W.codeIn K cd_law_begun "_law_begun" = true)
    (hk_law_begun : PySem.W.keepIn K (.ref a_law_begun) = true)
    (hn_law_signs : PySem.W.nsIn K mainGlobals "_law_signs" = some (some (.ref a_law_signs)))
    (hl_law_signs : K.lookup a_law_signs = some ⟨oc_law_signs, od_law_signs, .func (PySem.W.fnOf "_law_signs" "_law_signs" (defArgs s_law_signs) (defBody s_law_signs) (defScope s_law_signs) .none kV_law_signs dc_law_signs pm_law_signs an_law_signs cd_law_signs ct_law_signs), sl_law_signs⟩)
    (hc_law_signs : PySem.W.codeIn K cd_law_signs "_law_signs" = true)
    (hk_law_signs : PySem.W.keepIn K (.ref a_law_signs) = true)
    (hn_law_stream : PySem.W.nsIn K mainGlobals "_law_stream" = some (some (.ref a_law_stream)))
    (hl_law_stream : K.lookup a_law_stream = some ⟨oc_law_stream, od_law_stream, .func (PySem.W.fnOf "_law_stream" "_law_stream" (defArgs s_law_stream) (defBody s_law_stream) (defScope s_law_stream) .none kV_law_stream dc_law_stream pm_law_stream an_law_stream cd_law_stream ct_law_stream), sl_law_stream⟩)
    (hc_law_stream : PySem.W.codeIn K cd_law_stream "_law_stream" = true)
    (hk_law_stream : PySem.W.keepIn K (.ref a_law_stream) = true)
    (hn_law_deed : PySem.W.nsIn K mainGlobals "_law_deed" = some (some (.ref a_law_deed)))
    (hl_law_deed : K.lookup a_law_deed = some ⟨oc_law_deed, od_law_deed, .func (PySem.W.fnOf "_law_deed" "_law_deed" (defArgs s_law_deed) (defBody s_law_deed) (defScope s_law_deed) .none kV_law_deed dc_law_deed pm_law_deed an_law_deed cd_law_deed ct_law_deed), sl_law_deed⟩)
    (hc_law_deed : PySem.W.codeIn K cd_law_deed "_law_deed" = true)
    (hk_law_deed : PySem.W.keepIn K (.ref a_law_deed) = true)
    (hn_law_put : PySem.W.nsIn K mainGlobals "_law_put" = some (some (.ref a_law_put)))
    (hl_law_put : K.lookup a_law_put = some ⟨oc_law_put, od_law_put, .func (PySem.W.fnOf "_law_put" "_law_put" (defArgs s_law_put) (defBody s_law_put) (defScope s_law_put) .none kV_law_put dc_law_put pm_law_put an_law_put cd_law_put ct_law_put), sl_law_put⟩)
    (hc_law_put : PySem.W.codeIn K cd_law_put "_law_put" = true)
    (hk_law_put : PySem.W.keepIn K (.ref a_law_put) = true)
    (hn_law_done : PySem.W.nsIn K mainGlobals "_law_done" = some (some (.ref a_law_done)))
    (hl_law_done : K.lookup a_law_done = some ⟨oc_law_done, od_law_done, .func (PySem.W.fnOf "_law_done" "_law_done" (defArgs s_law_done) (defBody s_law_done) (defScope s_law_done) .none kV_law_done dc_law_done pm_law_done an_law_done cd_law_done ct_law_done), sl_law_done⟩)
    (hc_law_done : PySem.W.codeIn K cd_law_done "_law_done" = true)
    (hk_law_done : PySem.W.keepIn K (.ref a_law_done) = true)
    (hn_law_sound : PySem.W.nsIn K mainGlobals "_law_sound" = some (some (.ref a_law_sound)))
    (hl_law_sound : K.lookup a_law_sound = some ⟨oc_law_sound, od_law_sound, .func (PySem.W.fnOf "_law_sound" "_law_sound" (defArgs s_law_sound) (defBody s_law_sound) (defScope s_law_sound) .none kV_law_sound dc_law_sound pm_law_sound an_law_sound cd_law_sound ct_law_sound), sl_law_sound⟩)
    (hc_law_sound : PySem.W.codeIn K cd_law_sound "_law_sound" = true)
    (hk_law_sound : PySem.W.keepIn K (.ref a_law_sound) = true)
    (hn_is_gone : PySem.W.nsIn K mainGlobals "is_gone" = some (some (.ref a_is_gone)))
    (hl_is_gone : K.lookup a_is_gone = some ⟨oc_is_gone, od_is_gone, .func (PySem.W.fnOf "is_gone" "is_gone" (defArgs s_is_gone) (defBody s_is_gone) (defScope s_is_gone) .none kV_is_gone dc_is_gone pm_is_gone an_is_gone cd_is_gone ct_is_gone), sl_is_gone⟩)
    (hc_is_gone : PySem.W.codeIn K cd_is_gone "is_gone" = true)
    (hk_is_gone : PySem.W.keepIn K (.ref a_is_gone) = true)
    (hn_sent_text : PySem.W.nsIn K mainGlobals "sent_text" = some (some (.ref a_sent_text)))
    (hl_sent_text : K.lookup a_sent_text = some ⟨oc_sent_text, od_sent_text, .func (PySem.W.fnOf "sent_text" "sent_text" (defArgs s_sent_text) (defBody s_sent_text) (defScope s_sent_text) .none kV_sent_text dc_sent_text pm_sent_text an_sent_text cd_sent_text ct_sent_text), sl_sent_text⟩)
    (hc_sent_text : PySem.W.codeIn K cd_sent_text "sent_text" = true)
    (hk_sent_text : PySem.W.keepIn K (.ref a_sent_text) = true)
    (hn_law_told_right : PySem.W.nsIn K mainGlobals "_law_told_right" = some (some (.ref a_law_told_right)))
    (hl_law_told_right : K.lookup a_law_told_right = some ⟨oc_law_told_right, od_law_told_right, .func (PySem.W.fnOf "_law_told_right" "_law_told_right" (defArgs s_law_told_right) (defBody s_law_told_right) (defScope s_law_told_right) .none kV_law_told_right dc_law_told_right pm_law_told_right an_law_told_right cd_law_told_right ct_law_told_right), sl_law_told_right⟩)
    (hc_law_told_right : PySem.W.codeIn K cd_law_told_right "_law_told_right" = true)
    (hk_law_told_right : PySem.W.keepIn K (.ref a_law_told_right) = true)
    (hn_law : PySem.W.nsIn K mainGlobals "law" = some (some (.ref a_law)))
    (hl_law : K.lookup a_law = some ⟨oc_law, od_law, .func (PySem.W.fnOf "law" "law" (defArgs s_law) (defBody s_law) (defScope s_law) .none kV_law dc_law pm_law an_law cd_law ct_law), sl_law⟩)
    (hc_law : PySem.W.codeIn K cd_law "law" = true)
    (hk_law : PySem.W.keepIn K (.ref a_law) = true)
    (hb_bool : PySem.W.nsIn K mainGlobals "bool" = some none)
    (hb_int : PySem.W.nsIn K mainGlobals "int" = some none)
    (hb_isinstance : PySem.W.nsIn K mainGlobals "isinstance" = some none)
    (hb_len : PySem.W.nsIn K mainGlobals "len" = some none)
    (hb_list : PySem.W.nsIn K mainGlobals "list" = some none)
    (hb_max : PySem.W.nsIn K mainGlobals "max" = some none)
    (hb_min : PySem.W.nsIn K mainGlobals "min" = some none)
    (hb_range : PySem.W.nsIn K mainGlobals "range" = some none)
    (hb_str : PySem.W.nsIn K mainGlobals "str" = some none)
    : ∃ fd : FuncData, (∀ (s : Shared) (v : Value), BindsTo s fd ⟨[v], []⟩ [("_law_script", v)]) ∧ ∀ base : Heap, K.In base → base.Ns mainGlobals mg → FnOk l.prog w K mg base (L2.CX l.prog w) 3 fa fd ["_law_script"] (spLaw K) := by
  have e := hfa.symm.trans (PySem.W.mg_of X G hn_law)
  cases e
  have F_law_begun := fun_mk (st := s_law_begun) hl_law_begun hc_law_begun hk_law_begun
  have F_law_signs := fun_mk (st := s_law_signs) hl_law_signs hc_law_signs hk_law_signs
  have F_law_stream := fun_mk (st := s_law_stream) hl_law_stream hc_law_stream hk_law_stream
  have F_law_deed := fun_mk (st := s_law_deed) hl_law_deed hc_law_deed hk_law_deed
  have F_law_put := fun_mk (st := s_law_put) hl_law_put hc_law_put hk_law_put
  have F_law_done := fun_mk (st := s_law_done) hl_law_done hc_law_done hk_law_done
  have F_law_sound := fun_mk (st := s_law_sound) hl_law_sound hc_law_sound hk_law_sound
  have F_is_gone := fun_mk (st := s_is_gone) hl_is_gone hc_is_gone hk_is_gone
  have F_sent_text := fun_mk (st := s_sent_text) hl_sent_text hc_sent_text hk_sent_text
  have F_law_told_right := fun_mk (st := s_law_told_right) hl_law_told_right hc_law_told_right hk_law_told_right
  have F_law := fun_mk (st := s_law) hl_law hc_law hk_law
  have B_law_begun := F_law_begun.binds (ps := []) fun _ _ _ _ _ _ us hl => match us, hl with | [], _ => rfl
  have B_law_signs := F_law_signs.binds (ps := ["_law_x", "_law_many"]) fun _ _ _ _ _ _ us hl => match us, hl with | [_, _], _ => rfl
  have B_law_stream := F_law_stream.binds (ps := ["_law_cell", "_law_many"]) fun _ _ _ _ _ _ us hl => match us, hl with | [_, _], _ => rfl
  have B_law_deed := F_law_deed.binds (ps := ["_law_cell", "_law_count"]) fun _ _ _ _ _ _ us hl => match us, hl with | [_, _], _ => rfl
  have B_law_put := F_law_put.binds (ps := ["_law_own", "_law_word", "_law_host", "_law_text", "_law_spoilt"]) fun _ _ _ _ _ _ us hl => match us, hl with | [_, _, _, _, _], _ => rfl
  have B_law_done := F_law_done.binds (ps := ["_law_own", "_law_deed_here"]) fun _ _ _ _ _ _ us hl => match us, hl with | [_, _], _ => rfl
  have B_law_sound := F_law_sound.binds (ps := ["_law_own", "_law_deed_here"]) fun _ _ _ _ _ _ us hl => match us, hl with | [_, _], _ => rfl
  have B_is_gone := F_is_gone.binds (ps := ["log", "number"]) fun _ _ _ _ _ _ us hl => match us, hl with | [_, _], _ => rfl
  have B_sent_text := F_sent_text.binds (ps := ["log", "number"]) fun _ _ _ _ _ _ us hl => match us, hl with | [_, _], _ => rfl
  have B_law_told_right := F_law_told_right.binds (ps := ["_law_log", "_law_firsts", "_law_flying"]) fun _ _ _ _ _ _ us hl => match us, hl with | [_, _, _], _ => rfl
  have B_law := F_law.binds (ps := ["_law_script"]) fun _ _ _ _ _ _ us hl => match us, hl with | [_], _ => rfl
  let T : Txt K mg := {
    a_law_begun := a_law_begun,
    d_law_begun := (PySem.W.fnOf "_law_begun" "_law_begun" (defArgs s_law_begun) (defBody s_law_begun) (defScope s_law_begun) .none kV_law_begun dc_law_begun pm_law_begun an_law_begun cd_law_begun ct_law_begun),
    F_law_begun := F_law_begun,
    b_law_begun := B_law_begun,
    g_law_begun := PySem.W.mg_of X G hn_law_begun,
    a_law_signs := a_law_signs,
    d_law_signs := (PySem.W.fnOf "_law_signs" "_law_signs" (defArgs s_law_signs) (defBody s_law_signs) (defScope s_law_signs) .none kV_law_signs dc_law_signs pm_law_signs an_law_signs cd_law_signs ct_law_signs),
    F_law_signs := F_law_signs,
    b_law_signs := B_law_signs,
    g_law_signs := PySem.W.mg_of X G hn_law_signs,
    a_law_stream := a_law_stream,
    d_law_stream := (PySem.W.fnOf "_law_stream" "_law_stream" (defArgs s_law_stream) (defBody s_law_stream) (defScope s_law_stream) .none kV_law_stream dc_law_stream pm_law_stream an_law_stream cd_law_stream ct_law_stream),
    F_law_stream := F_law_stream,
    b_law_stream := B_law_stream,
    g_law_stream := PySem.W.mg_of X G hn_law_stream,
    a_law_deed := a_law_deed,
    d_law_deed := (PySem.W.fnOf "_law_deed" "_law_deed" (defArgs s_law_deed) (defBody s_law_deed) (defScope s_law_deed) .none kV_law_deed dc_law_deed pm_law_deed an_law_deed cd_law_deed ct_law_deed),
    F_law_deed := F_law_deed,
    b_law_deed := B_law_deed,
    g_law_deed := PySem.W.mg_of X G hn_law_deed,
    a_law_put := a_law_put,
    d_law_put := (PySem.W.fnOf "_law_put" "_law_put" (defArgs s_law_put) (defBody s_law_put) (defScope s_law_put) .none kV_law_put dc_law_put pm_law_put an_law_put cd_law_put ct_law_put),
    F_law_put := F_law_put,
    b_law_put := B_law_put,
    g_law_put := PySem.W.mg_of X G hn_law_put,
    a_law_done := a_law_done,
    d_law_done := (PySem.W.fnOf "_law_done" "_law_done" (defArgs s_law_done) (defBody s_law_done) (defScope s_law_done) .none kV_law_done dc_law_done pm_law_done an_law_done cd_law_done ct_law_done),
    F_law_done := F_law_done,
    b_law_done := B_law_done,
    g_law_done := PySem.W.mg_of X G hn_law_done,
    a_law_sound := a_law_sound,
    d_law_sound := (PySem.W.fnOf "_law_sound" "_law_sound" (defArgs s_law_sound) (defBody s_law_sound) (defScope s_law_sound) .none kV_law_sound dc_law_sound pm_law_sound an_law_sound cd_law_sound ct_law_sound),
    F_law_sound := F_law_sound,
    b_law_sound := B_law_sound,
    g_law_sound := PySem.W.mg_of X G hn_law_sound,
    a_is_gone := a_is_gone,
    d_is_gone := (PySem.W.fnOf "is_gone" "is_gone" (defArgs s_is_gone) (defBody s_is_gone) (defScope s_is_gone) .none kV_is_gone dc_is_gone pm_is_gone an_is_gone cd_is_gone ct_is_gone),
    F_is_gone := F_is_gone,
    b_is_gone := B_is_gone,
    g_is_gone := PySem.W.mg_of X G hn_is_gone,
    a_sent_text := a_sent_text,
    d_sent_text := (PySem.W.fnOf "sent_text" "sent_text" (defArgs s_sent_text) (defBody s_sent_text) (defScope s_sent_text) .none kV_sent_text dc_sent_text pm_sent_text an_sent_text cd_sent_text ct_sent_text),
    F_sent_text := F_sent_text,
    b_sent_text := B_sent_text,
    g_sent_text := PySem.W.mg_of X G hn_sent_text,
    a_law_told_right := a_law_told_right,
    d_law_told_right := (PySem.W.fnOf "_law_told_right" "_law_told_right" (defArgs s_law_told_right) (defBody s_law_told_right) (defScope s_law_told_right) .none kV_law_told_right dc_law_told_right pm_law_told_right an_law_told_right cd_law_told_right ct_law_told_right),
    F_law_told_right := F_law_told_right,
    b_law_told_right := B_law_told_right,
    g_law_told_right := PySem.W.mg_of X G hn_law_told_right,
    a_law := fa,
    d_law := (PySem.W.fnOf "law" "law" (defArgs s_law) (defBody s_law) (defScope s_law) .none kV_law dc_law pm_law an_law cd_law ct_law),
    F_law := F_law,
    b_law := B_law,
    g_law := PySem.W.mg_of X G hn_law,
    n_bool := PySem.W.mg_none_of X G hb_bool,
    n_int := PySem.W.mg_none_of X G hb_int,
    n_isinstance := PySem.W.mg_none_of X G hb_isinstance,
    n_len := PySem.W.mg_none_of X G hb_len,
    n_list := PySem.W.mg_none_of X G hb_list,
    n_max := PySem.W.mg_none_of X G hb_max,
    n_min := PySem.W.mg_none_of X G hb_min,
    n_range := PySem.W.mg_none_of X G hb_range,
    n_str := PySem.W.mg_none_of X G hb_str }
  exact ⟨(PySem.W.fnOf "law" "law" (defArgs s_law) (defBody s_law) (defScope s_law) .none kV_law dc_law pm_law an_law cd_law ct_law), fun s v => .of_eq rfl, fun base _ _ => law_imp rfl rfl m_law law_true (ok_law T)⟩
end L_k48
open PySem PySem.W PyProof.Rows
set_option maxRecDepth 100000 in
set_option maxHeartbeats 0 in
theorem PySem.Challenge.cw_ferry_k48_what_a_log_tells_holds : PySem.Challenge.rw_ferry_k48_what_a_log_tells.Holds := by
  w_on; o_law; k_head; (case hw => w_witness2)
  k_fill
  refine DL.walk_law (x := "_law_script") (k := 3) (l := PySem.Challenge.rw_ferry_k48_what_a_log_tells) rfl rfl ⟨rfl, by decide, by decide⟩ (fun w h Y => PySem.W.kIn_of Y) ?F
  case F =>
    intro w mg fa h KX G hmg
    refine' L_k48.fin_mk KX G hmg ?hn_law_begun ?hl_law_begun ?hc_law_begun ?hk_law_begun ?hn_law_signs ?hl_law_signs ?hc_law_signs ?hk_law_signs ?hn_law_stream ?hl_law_stream ?hc_law_stream ?hk_law_stream ?hn_law_deed ?hl_law_deed ?hc_law_deed ?hk_law_deed ?hn_law_put ?hl_law_put ?hc_law_put ?hk_law_put ?hn_law_done ?hl_law_done ?hc_law_done ?hk_law_done ?hn_law_sound ?hl_law_sound ?hc_law_sound ?hk_law_sound ?hn_is_gone ?hl_is_gone ?hc_is_gone ?hk_is_gone ?hn_sent_text ?hl_sent_text ?hc_sent_text ?hk_sent_text ?hn_law_told_right ?hl_law_told_right ?hc_law_told_right ?hk_law_told_right ?hn_law ?hl_law ?hc_law ?hk_law ?hb_bool ?hb_int ?hb_isinstance ?hb_len ?hb_list ?hb_max ?hb_min ?hb_range ?hb_str
    (case hn_law_begun => k_is)
    (case hl_law_begun => k_is)
    (case hc_law_begun => k_is)
    (case hk_law_begun => k_is)
    (case hn_law_signs => k_is)
    (case hl_law_signs => k_is)
    (case hc_law_signs => k_is)
    (case hk_law_signs => k_is)
    (case hn_law_stream => k_is)
    (case hl_law_stream => k_is)
    (case hc_law_stream => k_is)
    (case hk_law_stream => k_is)
    (case hn_law_deed => k_is)
    (case hl_law_deed => k_is)
    (case hc_law_deed => k_is)
    (case hk_law_deed => k_is)
    (case hn_law_put => k_is)
    (case hl_law_put => k_is)
    (case hc_law_put => k_is)
    (case hk_law_put => k_is)
    (case hn_law_done => k_is)
    (case hl_law_done => k_is)
    (case hc_law_done => k_is)
    (case hk_law_done => k_is)
    (case hn_law_sound => k_is)
    (case hl_law_sound => k_is)
    (case hc_law_sound => k_is)
    (case hk_law_sound => k_is)
    (case hn_is_gone => k_is)
    (case hl_is_gone => k_is)
    (case hc_is_gone => k_is)
    (case hk_is_gone => k_is)
    (case hn_sent_text => k_is)
    (case hl_sent_text => k_is)
    (case hc_sent_text => k_is)
    (case hk_sent_text => k_is)
    (case hn_law_told_right => k_is)
    (case hl_law_told_right => k_is)
    (case hc_law_told_right => k_is)
    (case hk_law_told_right => k_is)
    (case hn_law => k_is)
    (case hl_law => k_is)
    (case hc_law => k_is)
    (case hk_law => k_is)
    (case hb_bool => k_is)
    (case hb_int => k_is)
    (case hb_isinstance => k_is)
    (case hb_len => k_is)
    (case hb_list => k_is)
    (case hb_max => k_is)
    (case hb_min => k_is)
    (case hb_range => k_is)
    (case hb_str => k_is)
