import PyProof.Rows.All
import Wide.All
import OpenK.AllK
import Wide.FinOn
import HandS.ForMost
import HandS.ForExc
import HandS.More
import HandS.TupAny
import HandS.TupMul
import HandS.Iter
import HandS.FStr
import HandS.StrMore
import HandS.Conv
import HandS.IsInst
import HandS.NoneIn
import HandS.SortKw
import KE.GoesNew
import KE.GoesEnumKw
import HandS.Codes
import PySem.Challenge.RW_heldbest_k58_cut_records
set_option Elab.async false
set_option linter.all false
set_option maxRecDepth 100000
set_option maxHeartbeats 2000000
namespace DL
open PySem L2

/-! ### data without addresses -/
inductive D where
  | non | bl (b : Bool) | int (i : Int) | str (x : Str) | ref (a : Addr) | ty (n : String) | tup (ds : List D)

mutual
def Imm (K : PySem.W.Frag) (H : Hp) : D → V → Prop
  | .non, v => v = .non
  | .bl b, v => v = .bl b
  | .int i, v => v = .int i
  | .str x, v => v = .str x
  | .ref a, v => v = .ref a
  | .ty n, v => v = .ty n
  | .tup ds, v => ∃ p xs, v = .ref p ∧ SqT K H p xs ∧ ImmL K H ds xs
def ImmL (K : PySem.W.Frag) (H : Hp) : List D → List V → Prop
  | [], xs => xs = []
  | d :: ds, xs => ∃ x r, xs = x :: r ∧ Imm K H d x ∧ ImmL K H ds r
end

/-- tuples and what is locked stay -/
structure TK (H H' : Hp) : Prop where
  tup : ∀ a xs, H a = some (.tup xs) → H' a = some (.tup xs)
  frz : ∀ a o u, H a = some (.frz o u) → H' a = some (.frz o u)
theorem TK.refl (H : Hp) : TK H H := ⟨fun _ _ h => h, fun _ _ _ h => h⟩
theorem TK.trans {H H1 H2 : Hp} (a : TK H H1) (b : TK H1 H2) : TK H H2 := ⟨fun c x h => b.tup c x (a.tup c x h), fun c o u h => b.frz c o u (a.frz c o u h)⟩
theorem TK.of_same {H H' : Hp} (s : Same H H') : TK H H' := ⟨fun a x h => s a _ h, fun a o u h => s a _ h⟩
theorem same_new {H : Hp} {p : Addr} {o : HO} (h : H p = none) : Same H (upd H p o) := fun b u e => by rw [upd_ne (ne_of_none e h)]; exact e
theorem TK.new {H : Hp} {p : Addr} {o : HO} (h : H p = none) : TK H (upd H p o) := .of_same (same_new h)
theorem TK.put {H : Hp} {p : Addr} {o u : HO} (h : H p = some u) (h1 : ∀ xs, u ≠ .tup xs) (h2 : ∀ ob v, u ≠ .frz ob v) : TK H (upd H p o) :=
  ⟨fun a x e => by rw [upd_ne (ne_of e h (fun z => h1 _ z.symm))]; exact e, fun a ob v e => by rw [upd_ne (ne_of e h (fun z => h2 _ _ z.symm))]; exact e⟩
theorem TK.sqt {K : PySem.W.Frag} {H H' : Hp} (t : TK H H') {a : Addr} {xs : List V} (h : SqT K H a xs) : SqT K H' a xs := by
  rcases h with (h | ⟨o, h⟩) | h
  · exact .inl (.inl (t.tup _ _ h))
  · exact .inl (.inr ⟨o, t.frz _ _ _ h⟩)
  · exact .inr h

section
variable {K : PySem.W.Frag} {H H' : Hp}
mutual
theorem Imm.mono (t : TK H H') : ∀ (d : D) (v : V), Imm K H d v → Imm K H' d v
  | .non, _, h => h
  | .bl _, _, h => h
  | .int _, _, h => h
  | .str _, _, h => h
  | .ref _, _, h => h
  | .ty _, _, h => h
  | .tup ds, _, ⟨p, xs, e, s, r⟩ => ⟨p, xs, e, t.sqt s, ImmL.mono t ds xs r⟩
theorem ImmL.mono (t : TK H H') : ∀ (ds : List D) (xs : List V), ImmL K H ds xs → ImmL K H' ds xs
  | [], _, h => h
  | d :: ds, _, ⟨x, r, e, h1, h2⟩ => ⟨x, r, e, Imm.mono t d x h1, ImmL.mono t ds r h2⟩
end
theorem ImmL.length : ∀ {ds : List D} {xs : List V}, ImmL K H ds xs → xs.length = ds.length
  | [], _, h => by cases h; rfl
  | d :: ds, _, ⟨x, r, e, _, h2⟩ => by subst e; show r.length + 1 = ds.length + 1; rw [ImmL.length h2]
theorem ImmL.get : ∀ {ds : List D} {xs : List V} {i : Nat} {d : D}, ImmL K H ds xs → ds[i]? = some d → ∃ x, xs[i]? = some x ∧ Imm K H d x
  | [], _, _, _, _, e => by simp at e
  | d :: ds, _, 0, d', ⟨x, r, e, h1, h2⟩, q => by
    subst e
    have : d = d' := by simpa using q
    subst this
    exact ⟨x, by simp, h1⟩
  | d :: ds, _, i + 1, d', ⟨x, r, e, h1, h2⟩, q => by
    subst e
    obtain ⟨y, a, b⟩ := ImmL.get (i := i) h2 (by simpa using q)
    exact ⟨y, by simpa using a, b⟩
theorem ImmL.get' : ∀ {ds : List D} {xs : List V} {i : Nat} {x : V}, ImmL K H ds xs → xs[i]? = some x → ∃ d, ds[i]? = some d ∧ Imm K H d x := fun {ds xs i x} h e => by
  have hl := h.length
  obtain ⟨hi, _⟩ := List.getElem?_eq_some_iff.mp e
  have hi' : i < ds.length := by omega
  obtain ⟨y, a, b⟩ := ImmL.get (i := i) (d := ds[i]) h (by simp [hi'])
  rw [e] at a
  cases a
  exact ⟨ds[i], by simp [hi'], b⟩
theorem ImmL.append : ∀ {ds es : List D} {xs ys : List V}, ImmL K H ds xs → ImmL K H es ys → ImmL K H (ds ++ es) (xs ++ ys)
  | [], _, _, _, h, q => by cases h; exact q
  | d :: ds, _, _, _, ⟨x, r, e, h1, h2⟩, q => by subst e; exact ⟨x, r ++ _, rfl, h1, ImmL.append h2 q⟩
theorem ImmL.one {d : D} {x : V} (h : Imm K H d x) : ImmL K H [d] [x] := ⟨x, [], rfl, h, rfl⟩
theorem ImmL.take : ∀ {ds : List D} {xs : List V} (n : Nat), ImmL K H ds xs → ImmL K H (ds.take n) (xs.take n)
  | _, _, 0, _ => by simp [ImmL]
  | [], _, n + 1, h => by cases h; simp [ImmL]
  | d :: ds, _, n + 1, ⟨x, r, e, h1, h2⟩ => by subst e; exact ⟨x, r.take n, by simp, h1, ImmL.take n h2⟩
theorem ImmL.drop : ∀ {ds : List D} {xs : List V} (n : Nat), ImmL K H ds xs → ImmL K H (ds.drop n) (xs.drop n)
  | _, _, 0, h => by simpa using h
  | [], _, n + 1, h => by cases h; simp [ImmL]
  | d :: ds, _, n + 1, ⟨x, r, e, h1, h2⟩ => by subst e; simpa using ImmL.drop n h2
theorem ImmL.set : ∀ {ds : List D} {xs : List V} (i : Nat) {d : D} {x : V}, ImmL K H ds xs → Imm K H d x → ImmL K H (ds.set i d) (xs.set i x)
  | [], _, _, _, _, h, _ => by cases h; simp [ImmL]
  | d :: ds, _, 0, _, _, ⟨x, r, e, h1, h2⟩, q => by subst e; exact ⟨_, r, rfl, q, h2⟩
  | d :: ds, _, i + 1, _, _, ⟨x, r, e, h1, h2⟩, q => by subst e; exact ⟨x, _, rfl, h1, ImmL.set i h2 q⟩
theorem ImmL.eraseIdx {ds : List D} {xs : List V} (i : Nat) (h : ImmL K H ds xs) : ImmL K H (ds.eraseIdx i) (xs.eraseIdx i) := by
  rw [List.eraseIdx_eq_take_drop_succ, List.eraseIdx_eq_take_drop_succ]
  exact (h.take i).append (h.drop (i + 1))
theorem ImmL.dropLast {ds : List D} {xs : List V} (h : ImmL K H ds xs) : ImmL K H ds.dropLast xs.dropLast := by
  rw [List.dropLast_eq_take, List.dropLast_eq_take, h.length]
  exact h.take _
theorem ImmL.reverse : ∀ {ds : List D} {xs : List V}, ImmL K H ds xs → ImmL K H ds.reverse xs.reverse
  | [], _, h => by cases h; simp [ImmL]
  | d :: ds, _, ⟨x, r, e, h1, h2⟩ => by
    subst e
    rw [List.reverse_cons, List.reverse_cons]
    exact (ImmL.reverse h2).append (ImmL.one h1)
theorem ImmL.ints : ∀ (ns : List Int), ImmL K H (ns.map D.int) (ns.map V.int)
  | [] => rfl
  | n :: ns => ⟨_, _, rfl, rfl, ImmL.ints ns⟩
theorem ImmL.ints_eq : ∀ {ns : List Int} {xs : List V}, ImmL K H (ns.map D.int) xs → xs = ns.map V.int
  | [], _, h => h
  | n :: ns, _, ⟨x, r, e, h1, h2⟩ => by
    subst e
    have h1' : x = V.int n := h1
    rw [h1', ImmL.ints_eq h2]
    rfl
theorem ImmL.strs : ∀ (ns : List Str), ImmL K H (ns.map D.str) (ns.map V.str)
  | [] => rfl
  | n :: ns => ⟨_, _, rfl, rfl, ImmL.strs ns⟩
theorem ImmL.strs_eq : ∀ {ns : List Str} {xs : List V}, ImmL K H (ns.map D.str) xs → xs = ns.map V.str
  | [], _, h => h
  | n :: ns, _, ⟨x, r, e, h1, h2⟩ => by
    subst e
    have h1' : x = V.str n := h1
    rw [h1', ImmL.strs_eq h2]
    rfl
theorem ImmL.bls_eq : ∀ {ns : List Bool} {xs : List V}, ImmL K H (ns.map D.bl) xs → xs = ns.map V.bl
  | [], _, h => h
  | n :: ns, _, ⟨x, r, e, h1, h2⟩ => by
    subst e
    have h1' : x = V.bl n := h1
    rw [h1', ImmL.bls_eq h2]
    rfl
end

def ImmKV {κ : Type} (K : PySem.W.Frag) (H : Hp) : List (κ × D) → List (κ × V) → Prop
  | [], xs => xs = []
  | d :: ds, xs => ∃ v r, xs = (d.1, v) :: r ∧ Imm K H d.2 v ∧ ImmKV K H ds r
section
variable {K : PySem.W.Frag} {H H' : Hp} {κ : Type}
theorem ImmKV.mono (t : TK H H') : ∀ (ds : List (κ × D)) (xs : List (κ × V)), ImmKV K H ds xs → ImmKV K H' ds xs
  | [], _, h => h
  | d :: ds, _, ⟨x, r, e, h1, h2⟩ => ⟨x, r, e, Imm.mono t d.2 x h1, ImmKV.mono t ds r h2⟩
theorem ImmKV.length : ∀ {ds : List (κ × D)} {xs : List (κ × V)}, ImmKV K H ds xs → xs.length = ds.length
  | [], _, h => by cases h; rfl
  | d :: ds, _, ⟨x, r, e, _, h2⟩ => by subst e; show r.length + 1 = ds.length + 1; rw [ImmKV.length h2]
theorem ImmKV.lookup [BEq κ] : ∀ {ds : List (κ × D)} {xs : List (κ × V)} {k : κ} {d : D}, ImmKV K H ds xs → ds.lookup k = some d → ∃ x, xs.lookup k = some x ∧ Imm K H d x
  | [], _, _, _, _, e => by simp at e
  | (k0, d0) :: ds, _, k, d', ⟨x, r, e, h1, h2⟩, q => by
    subst e
    simp only [List.lookup] at q
    split at q
    · rename_i hb
      cases q
      exact ⟨x, by simp only [List.lookup, hb], h1⟩
    · rename_i hb
      obtain ⟨y, a, b⟩ := ImmKV.lookup h2 q
      exact ⟨y, by simp only [List.lookup, hb]; exact a, b⟩
theorem ImmKV.lookup_none [BEq κ] : ∀ {ds : List (κ × D)} {xs : List (κ × V)} {k : κ}, ImmKV K H ds xs → ds.lookup k = none → xs.lookup k = none
  | [], _, _, h, e => by cases h; rfl
  | (k0, d0) :: ds, _, k, ⟨x, r, e, h1, h2⟩, q => by
    subst e
    simp only [List.lookup] at q
    split at q
    · cases q
    · rename_i hb
      simp only [List.lookup, hb]
      exact ImmKV.lookup_none h2 q
end

/-! ### what is held -/
inductive Itm where
  | l (a : Addr) (ds : List D) | d (a : Addr) (kvs : List (Key × D)) | o (a C : Addr) (fs : List (Str × D)) | x (a : Addr) (fs : List (Str × D)) | s (a : Addr) (ds : List D)
def Itm.ad : Itm → Option Addr
  | .l a _ => some a
  | .d a _ => some a
  | .o a _ _ => some a
  | .x a _ => some a
  | .s _ _ => none
def Itm.ok (K : PySem.W.Frag) (H : Hp) : Itm → Prop
  | .l a ds => ∃ xs, H a = some (.lst xs) ∧ ImmL K H ds xs
  | .d a kvs => ∃ xs, H a = some (.dK xs) ∧ ImmKV K H kvs xs
  | .o a C fs => ∃ dx gs, H a = some (.ins C dx gs) ∧ ImmKV K H fs gs
  | .x a fs => ∃ gs, H a = some (.xd gs) ∧ ImmKV K H fs gs
  | .s a ds => ∃ xs, ImmL K H ds xs ∧ ((∃ o, H a = some (.frz o (.lst xs))) ∨ ∃ (o : Obj) (its : Array Value) (n : Nat), K.lookup a = some o ∧ o.cls = .type "list" ∧ o.dict = none ∧ o.data = .seq its n ∧ its.size ≤ sizeLine ∧ Vals xs its.toList)
structure Own (K : PySem.W.Frag) (H : Hp) (L : List Itm) : Prop where
  nd : (L.filterMap Itm.ad).Nodup
  ok : ∀ it ∈ L, it.ok K H
section
variable {K : PySem.W.Frag} {H H' : Hp} {L L' : List Itm} {it it' : Itm} {p : Addr} {o u : HO}
theorem Itm.ok.mono (t : TK H H') (h : it.ok K H) (k : ∀ a, it.ad = some a → H' a = H a) : it.ok K H' := by
  cases it with
  | l a ds => obtain ⟨xs, e, r⟩ := h; exact ⟨xs, (k a rfl).trans e, r.mono t⟩
  | d a ds => obtain ⟨xs, e, r⟩ := h; exact ⟨xs, (k a rfl).trans e, r.mono t⟩
  | o a C ds => obtain ⟨dx, xs, e, r⟩ := h; exact ⟨dx, xs, (k a rfl).trans e, r.mono t⟩
  | x a ds => obtain ⟨xs, e, r⟩ := h; exact ⟨xs, (k a rfl).trans e, r.mono t⟩
  | s a ds =>
    obtain ⟨xs, r, e⟩ := h
    refine ⟨xs, r.mono t, ?_⟩
    rcases e with ⟨o, e⟩ | e
    · exact .inl ⟨o, t.frz _ _ _ e⟩
    · exact .inr e
theorem Itm.ok.there (h : it.ok K H) {a : Addr} (e : it.ad = some a) : ∃ o, H a = some o := by
  cases it with
  | l b ds => obtain ⟨xs, q, r⟩ := h; cases e; exact ⟨_, q⟩
  | d b ds => obtain ⟨xs, q, r⟩ := h; cases e; exact ⟨_, q⟩
  | o b C ds => obtain ⟨dx, xs, q, r⟩ := h; cases e; exact ⟨_, q⟩
  | x b ds => obtain ⟨xs, q, r⟩ := h; cases e; exact ⟨_, q⟩
  | s b ds => cases e
theorem Own.perm (h : Own K H L) (q : L.Perm L') : Own K H L' :=
  ⟨(q.filterMap _).nodup_iff.mp h.nd, fun it hm => h.ok it (q.mem_iff.mpr hm)⟩
theorem Own.nil : Own K H [] := ⟨by simp, fun _ h => by simp at h⟩
theorem Own.tail (h : Own K H (it :: L)) : Own K H L := ⟨by
  have q := h.nd
  simp only [List.filterMap_cons] at q
  split at q
  · exact q
  · exact (List.nodup_cons.mp q).2, fun x hx => h.ok x (List.mem_cons_of_mem _ hx)⟩
theorem Own.same (h : Own K H L) (s : Same H H') : Own K H' L :=
  ⟨h.nd, fun it hm => (h.ok it hm).mono (.of_same s) fun a e => by
    obtain ⟨o, q⟩ := (h.ok it hm).there e
    rw [q]
    exact s a o q⟩
theorem Own.no (h : Own K H L) (hp : H p = none) : p ∉ L.filterMap Itm.ad := fun hm => by
  obtain ⟨it, h1, h2⟩ := List.mem_filterMap.mp hm
  obtain ⟨o, q⟩ := (h.ok it h1).there h2
  rw [hp] at q
  cases q
/-- a new object -/
theorem Own.new (h : Own K H L) (hp : H p = none) (e : it.ad = some p) (k : it.ok K (upd H p o)) : Own K (upd H p o) (it :: L) := by
  have h1 := h.same (same_new (o := o) hp)
  refine ⟨?_, fun x hx => ?_⟩
  · rw [List.filterMap_cons, e]
    exact List.nodup_cons.mpr ⟨h.no hp, h.nd⟩
  · rcases List.mem_cons.mp hx with rfl | hx
    · exact k
    · exact h1.ok x hx
/-- the object at p changes -/
theorem Own.put (h : Own K H (it :: L)) (e : it.ad = some p) (t : TK H (upd H p o)) (e' : it'.ad = some p) (k : it'.ok K (upd H p o)) : Own K (upd H p o) (it' :: L) := by
  have hn : p ∉ L.filterMap Itm.ad := by
    have q := h.nd
    rw [List.filterMap_cons, e] at q
    exact (List.nodup_cons.mp q).1
  refine ⟨?_, fun x hx => ?_⟩
  · have q := h.nd
    rw [List.filterMap_cons, e] at q
    rw [List.filterMap_cons, e']
    exact q
  · rcases List.mem_cons.mp hx with rfl | hx
    · exact k
    · exact (h.ok x (List.mem_cons_of_mem _ hx)).mono t fun a ea => upd_ne fun z => hn (List.mem_filterMap.mpr ⟨x, hx, by rw [ea, z]⟩)
end
/-- it stands in L, R is the rest -/
inductive Pull : List Itm → Itm → List Itm → Prop
  | here {it : Itm} {R : List Itm} : Pull (it :: R) it R
  | there {x it : Itm} {L R : List Itm} (h : Pull L it R) : Pull (x :: L) it (x :: R)
theorem Pull.perm {L R : List Itm} {it : Itm} (h : Pull L it R) : L.Perm (it :: R) := by
  induction h with
  | here => exact .refl _
  | there h ih => exact (ih.cons _).trans (.swap _ _ _)
theorem Pull.mem {L R : List Itm} {it : Itm} (h : Pull L it R) : it ∈ L := h.perm.mem_iff.mpr List.mem_cons_self

/-- L2 stands in L, some may be left out -/
def Sub (L2 L : List Itm) : Prop := ∃ R, (L2 ++ R).Perm L
theorem Sub.refl (L : List Itm) : Sub L L := ⟨[], by rw [List.append_nil]⟩
theorem Sub.drop {L2 L : List Itm} {x : Itm} (h : Sub L2 L) : Sub L2 (x :: L) := let ⟨R, p⟩ := h; ⟨x :: R, List.perm_middle.trans (p.cons x)⟩
theorem Sub.cons {L2 L : List Itm} {x : Itm} (h : Sub L2 L) : Sub (x :: L2) (x :: L) := let ⟨R, p⟩ := h; ⟨R, p.cons x⟩
theorem Sub.pull {L2 L R : List Itm} {x : Itm} (k : Pull L x R) (h : Sub L2 R) : Sub (x :: L2) L := let ⟨S, p⟩ := h; ⟨S, (p.cons x).trans k.perm.symm⟩
theorem Sub.trans {L1 L2 L3 : List Itm} (a : Sub L1 L2) (b : Sub L2 L3) : Sub L1 L3 := let ⟨R, p⟩ := a; let ⟨S, q⟩ := b; ⟨R ++ S, by rw [← List.append_assoc]; exact (p.append_right S).trans q⟩
theorem Sub.over {L2 L : List Itm} (h : Sub L2 L) : ∀ N : List Itm, Sub L2 (N ++ L)
  | [] => h
  | n :: N => (h.over N).drop
theorem Sub.mem {L2 L : List Itm} {x : Itm} (h : Sub L2 L) (m : x ∈ L2) : x ∈ L := let ⟨_, p⟩ := h; p.mem_iff.mp (List.mem_append_left _ m)
theorem Own.sub {K : PySem.W.Frag} {H : Hp} {L2 L : List Itm} (h : Own K H L) (s : Sub L2 L) : Own K H L2 := by
  obtain ⟨R, p⟩ := s
  have q := h.perm p.symm
  refine ⟨?_, fun it hm => q.ok it (List.mem_append_left _ hm)⟩
  have n := q.nd
  rw [List.filterMap_append] at n
  exact (List.nodup_append.mp n).1
/-! ### the slots -/
abbrev Rho := List (Option D)
structure EnvD (K : PySem.W.Frag) (H : Hp) (σ : St) (ρ : Rho) : Prop where
  len : σ.length = ρ.length
  at_ : ∀ (i : Nat) (d : D), ρ[i]? = some (some d) → ∃ v, σ[i]? = some (some v) ∧ Imm K H d v
section
variable {K : PySem.W.Frag} {H H' : Hp} {σ : St} {ρ : Rho}
theorem EnvD.mono (t : TK H H') (h : EnvD K H σ ρ) : EnvD K H' σ ρ := ⟨h.len, fun i d e => let ⟨v, a, b⟩ := h.at_ i d e; ⟨v, a, b.mono t⟩⟩
theorem EnvD.set (h : EnvD K H σ ρ) {d : D} {v : V} (i : Nat) (r : Imm K H d v) : EnvD K H (σ.set i (some v)) (ρ.set i (some d)) := by
  refine ⟨by rw [List.length_set, List.length_set]; exact h.len, fun j d' e => ?_⟩
  by_cases hj : i = j
  · subst hj
    by_cases hi : i < ρ.length
    · rw [List.getElem?_set_self hi] at e
      cases e
      exact ⟨v, List.getElem?_set_self (by rw [h.len]; exact hi), r⟩
    · rw [List.getElem?_eq_none (by rw [List.length_set]; omega)] at e
      cases e
  · rw [List.getElem?_set_ne hj] at e ⊢
    exact h.at_ j d' e
theorem EnvD.unset (h : EnvD K H σ ρ) (i : Nat) : EnvD K H (σ.set i none) (ρ.set i none) := by
  refine ⟨by rw [List.length_set, List.length_set]; exact h.len, fun j d' e => ?_⟩
  by_cases hj : i = j
  · subst hj
    by_cases hi : i < ρ.length
    · rw [List.getElem?_set_self hi] at e
      cases e
    · rw [List.getElem?_eq_none (by rw [List.length_set]; omega)] at e
      cases e
  · rw [List.getElem?_set_ne hj] at e ⊢
    exact h.at_ j d' e
def startD (n : Nat) (ds : List D) : Rho := ds.map some ++ List.replicate (n - ds.length) none
theorem EnvD.start {N : List Str} {ds : List D} {vs : List V} (h : ImmL K H ds vs) : EnvD K H (start N vs) (startD N.length ds) := by
  have hl := h.length
  refine ⟨?_, fun i d e => ?_⟩
  · unfold L2.start startD
    simp only [List.length_append, List.length_map, List.length_replicate]
    omega
  · unfold startD at e
    by_cases hi : i < ds.length
    · rw [List.getElem?_append_left (by simpa using hi), List.getElem?_map] at e
      cases q : ds[i]? with
      | none => rw [q] at e; cases e
      | some a =>
        rw [q] at e
        cases e
        obtain ⟨x, h1, h2⟩ := h.get q
        refine ⟨x, ?_, h2⟩
        unfold L2.start
        rw [List.getElem?_append_left (by simp; omega), List.getElem?_map, h1]
        rfl
    · rw [List.getElem?_append_right (by simpa using hi), List.getElem?_replicate] at e
      split at e <;> cases e
end

/-! ### readings over data -/
abbrev DK := D → List Itm → Prop
abbrev DTE := Rho → List Itm → DK → Prop
abbrev DTT := Rho → List Itm → (Bool → List Itm → Prop) → Prop
abbrev DTA := Rho → List Itm → (List D → List Itm → Prop) → Prop
abbrev DTO := Rho → List Itm → (Option Int → List Itm → Prop) → Prop
/-- .. some things may be let go -/
def Dn (P : D → List Itm → Prop) : D → List Itm → Prop := fun d L => ∃ L2, Sub L2 L ∧ P d L2
def Dr (P : Rho → List Itm → Prop) : Rho → List Itm → Prop := fun ρ L => ∃ L2, Sub L2 L ∧ P ρ L2
def Dl (P : List Itm → Prop) : List Itm → Prop := fun L => ∃ L2, Sub L2 L ∧ P L2
structure DEnds where
  nx : Rho → List Itm → Prop
  rt : D → List Itm → Prop
  bk : Rho → List Itm → Prop := fun _ _ => False
  ct : Rho → List Itm → Prop := fun _ _ => False
abbrev DTS := DEnds → Rho → List Itm → Prop
abbrev DTG := D → Rho → List Itm → (Rho → List Itm → Prop) → Prop
/-- what comes of a value -/
abbrev Goes (K : PySem.W.Frag) (H : Hp) (P : DK) (Q : VK) : Prop := ∀ (v : V) (H' : Hp) (d : D) (L' : List Itm), TK H H' → Own K H' L' → Imm K H' d v → P d L' → Q v H'
abbrev GoesT (K : PySem.W.Frag) (H : Hp) (P : Bool → List Itm → Prop) (Q : Bool → Hp → Prop) : Prop := ∀ (b : Bool) (H' : Hp) (L' : List Itm), TK H H' → Own K H' L' → P b L' → Q b H'
abbrev GoesA (K : PySem.W.Frag) (H : Hp) (P : List D → List Itm → Prop) (Q : List V → Hp → Prop) : Prop := ∀ (vs : List V) (H' : Hp) (ds : List D) (L' : List Itm), TK H H' → Own K H' L' → ImmL K H' ds vs → P ds L' → Q vs H'
abbrev GoesO (K : PySem.W.Frag) (H : Hp) (P : Option Int → List Itm → Prop) (Q : Option Int → Hp → Prop) : Prop := ∀ (o : Option Int) (H' : Hp) (L' : List Itm), TK H H' → Own K H' L' → P o L' → Q o H'
abbrev GoesR (K : PySem.W.Frag) (H : Hp) (P : Rho → List Itm → Prop) (Q : St → Hp → Prop) : Prop := ∀ (σ : St) (H' : Hp) (ρ : Rho) (L' : List Itm), TK H H' → EnvD K H' σ ρ → Own K H' L' → P ρ L' → Q σ H'
structure GoesS (K : PySem.W.Frag) (H : Hp) (P : DEnds) (Q : Ends) : Prop where
  nx : GoesR K H P.nx Q.nx
  rt : Goes K H P.rt Q.rt
  bk : GoesR K H P.bk Q.bk
  ct : GoesR K H P.ct Q.ct
structure LE (K : PySem.W.Frag) (H0 : Hp) (t : TE) (w : DTE) : Prop where
  run : ∀ (σ : St) (H : Hp) (ρ : Rho) (L : List Itm) (P : DK) (Q : VK), TK H0 H → EnvD K H σ ρ → Own K H L → w ρ L P → Goes K H P Q → t σ H Q
structure LT (K : PySem.W.Frag) (H0 : Hp) (t : TT) (w : DTT) : Prop where
  run : ∀ (σ : St) (H : Hp) (ρ : Rho) (L : List Itm) (P : Bool → List Itm → Prop) (Q : Bool → Hp → Prop), TK H0 H → EnvD K H σ ρ → Own K H L → w ρ L P → GoesT K H P Q → t σ H Q
structure LA (K : PySem.W.Frag) (H0 : Hp) (t : TA) (w : DTA) : Prop where
  run : ∀ (σ : St) (H : Hp) (ρ : Rho) (L : List Itm) (P : List D → List Itm → Prop) (Q : List V → Hp → Prop), TK H0 H → EnvD K H σ ρ → Own K H L → w ρ L P → GoesA K H P Q → t σ H Q
structure LO (K : PySem.W.Frag) (H0 : Hp) (t : TO) (w : DTO) : Prop where
  run : ∀ (σ : St) (H : Hp) (ρ : Rho) (L : List Itm) (P : Option Int → List Itm → Prop) (Q : Option Int → Hp → Prop), TK H0 H → EnvD K H σ ρ → Own K H L → w ρ L P → GoesO K H P Q → t σ H Q
structure LG (K : PySem.W.Frag) (H0 : Hp) (t : TG) (w : DTG) : Prop where
  run : ∀ (v : V) (d : D) (σ : St) (H : Hp) (ρ : Rho) (L : List Itm) (P : Rho → List Itm → Prop) (Q : St → Hp → Prop), TK H0 H → EnvD K H σ ρ → Own K H L → Imm K H d v → w d ρ L P → GoesR K H P Q → t v σ H Q
structure LS (K : PySem.W.Frag) (H0 : Hp) (t : TS) (w : DTS) : Prop where
  run : ∀ (σ : St) (H : Hp) (ρ : Rho) (L : List Itm) (P : DEnds) (Q : Ends), TK H0 H → EnvD K H σ ρ → Own K H L → w P ρ L → GoesS K H P Q → t Q σ H
theorem Goes.mono {K : PySem.W.Frag} {H H1 : Hp} {P : DK} {Q : VK} (t : TK H H1) (g : Goes K H P Q) : Goes K H1 P Q := fun v H' d L' t' => g v H' d L' (t.trans t')
theorem GoesT.mono {K : PySem.W.Frag} {H H1 : Hp} {P : Bool → List Itm → Prop} {Q : Bool → Hp → Prop} (t : TK H H1) (g : GoesT K H P Q) : GoesT K H1 P Q := fun v H' L' t' => g v H' L' (t.trans t')
theorem GoesA.mono {K : PySem.W.Frag} {H H1 : Hp} {P : List D → List Itm → Prop} {Q : List V → Hp → Prop} (t : TK H H1) (g : GoesA K H P Q) : GoesA K H1 P Q := fun v H' ds L' t' => g v H' ds L' (t.trans t')
theorem GoesO.mono {K : PySem.W.Frag} {H H1 : Hp} {P : Option Int → List Itm → Prop} {Q : Option Int → Hp → Prop} (t : TK H H1) (g : GoesO K H P Q) : GoesO K H1 P Q := fun v H' L' t' => g v H' L' (t.trans t')
theorem GoesR.mono {K : PySem.W.Frag} {H H1 : Hp} {P : Rho → List Itm → Prop} {Q : St → Hp → Prop} (t : TK H H1) (g : GoesR K H P Q) : GoesR K H1 P Q := fun v H' ds L' t' => g v H' ds L' (t.trans t')
theorem GoesS.mono {K : PySem.W.Frag} {H H1 : Hp} {P : DEnds} {Q : Ends} (t : TK H H1) (g : GoesS K H P Q) : GoesS K H1 P Q := ⟨g.nx.mono t, g.rt.mono t, g.bk.mono t, g.ct.mono t⟩

def DPE (X : Cx) (H0 : Hp) (e : Expr) (w : DTE) : Prop := ∃ t, PE X e t ∧ LE X.K H0 t w
def DPT (X : Cx) (H0 : Hp) (e : Expr) (w : DTT) : Prop := ∃ t, PT X e t ∧ LT X.K H0 t w
def DPW (X : Cx) (H0 : Hp) (e : Expr) (w : DTT) : Prop := ∃ t, PW X e t ∧ LT X.K H0 t w
def DPA (X : Cx) (H0 : Hp) (es : List Expr) (w : DTA) : Prop := ∃ t, PA X es t ∧ LA X.K H0 t w
def DPO (X : Cx) (H0 : Hp) (e : Option Expr) (w : DTO) : Prop := ∃ t, PO X e t ∧ LO X.K H0 t w
def DPG (X : Cx) (H0 : Hp) (e : Expr) (w : DTG) : Prop := ∃ t, PG X e t ∧ LG X.K H0 t w
def DPS (X : Cx) (H0 : Hp) (st : Stmt) (w : DTS) : Prop := ∃ t, PS X st t ∧ LS X.K H0 t w
def DPSs (X : Cx) (H0 : Hp) (st : List Stmt) (w : DTS) : Prop := ∃ t, PSs X st t ∧ LS X.K H0 t w
end DL

set_option maxRecDepth 100000
set_option maxHeartbeats 2000000
namespace DL
open PySem L2

/-! ### small expressions -/
def wVar (i : Nat) : DTE := fun ρ L P => ∃ d, ρ[i]? = some (some d) ∧ P d L
def wC (d : D) : DTE := fun _ L P => P d L
def wOp (f : D → D → List Itm → DK → Prop) (a b : DTE) : DTE := fun ρ L P => a ρ L fun x L1 => b ρ L1 fun y L2 => f x y L2 P
def wUn (f : D → List Itm → DK → Prop) (a : DTE) : DTE := fun ρ L P => a ρ L fun x L1 => f x L1 P
def wNil : DTA := fun _ L P => P [] L
def wCons (a : DTE) (r : DTA) : DTA := fun ρ L P => a ρ L fun x L1 => r ρ L1 fun xs L2 => P (x :: xs) L2
def wTup (a : DTA) : DTE := fun ρ L P => a ρ L fun ds L1 => ds.length ≤ sizeLine ∧ P (.tup ds) L1
def wLst (a : DTA) : DTE := fun ρ L P => a ρ L fun ds L1 => ds.length ≤ sizeLine ∧ ∀ p, P (.ref p) (.l p ds :: L1)
def wCB (f : List D → List Itm → DK → Prop) (a : DTA) : DTE := fun ρ L P => a ρ L fun ds L1 => f ds L1 P
def wM (f : D → List D → List Itm → DK → Prop) (o : DTE) (a : DTA) : DTE := fun ρ L P => o ρ L fun x L1 => a ρ L1 fun ds L2 => f x ds L2 P
def wIf (t : DTT) (a b : DTE) : DTE := fun ρ L P => t ρ L fun c L1 => (c = true → a ρ L1 P) ∧ (c = false → b ρ L1 P)
/-- a binary rule over values serves one over data -/
def ROp (K : PySem.W.Frag) (r : R2) (f : D → D → List Itm → DK → Prop) : Prop :=
  ∀ (H : Hp) (x y : V) (dx dy : D) (L : List Itm) (P : DK) (Q : VK), Imm K H dx x → Imm K H dy y → Own K H L → f dx dy L P → Goes K H P Q → r x y H Q
def RUn (K : PySem.W.Frag) (r : V → Hp → VK → Prop) (f : D → List Itm → DK → Prop) : Prop :=
  ∀ (H : Hp) (x : V) (dx : D) (L : List Itm) (P : DK) (Q : VK), Imm K H dx x → Own K H L → f dx L P → Goes K H P Q → r x H Q
def RCall (K : PySem.W.Frag) (r : List V → Hp → VK → Prop) (f : List D → List Itm → DK → Prop) : Prop :=
  ∀ (H : Hp) (xs : List V) (ds : List D) (L : List Itm) (P : DK) (Q : VK), ImmL K H ds xs → Own K H L → f ds L P → Goes K H P Q → r xs H Q
def RMeth (K : PySem.W.Frag) (r : V → List V → Hp → VK → Prop) (f : D → List D → List Itm → DK → Prop) : Prop :=
  ∀ (H : Hp) (x : V) (xs : List V) (d : D) (ds : List D) (L : List Itm) (P : DK) (Q : VK), Imm K H d x → ImmL K H ds xs → Own K H L → f d ds L P → Goes K H P Q → r x xs H Q

section
variable {X : Cx} {H0 : Hp} {pos : Pos} {e a b : Expr} {es : List Expr} {w wa wb : DTE} {r : DTA}
theorem d_var (i : Nat) {x : Str} (hN : X.N[i]? = some x := by rfl) (hv : Vis X.env.scope x := by first | exact Or.inl rfl | exact Or.inr (Or.inl rfl) | exact Or.inr (Or.inr rfl)) (hd : (x == ("__debug__" : Str)) = false := by decide)
    (hcd : (x == ("__classdict__" : Str)) = false := by decide) : DPE X H0 (.Name x pos) (wVar i) :=
  ⟨tVar i, pe_var hN hv hd hcd, ⟨fun σ H ρ L P Q t0 en ow ⟨d, h, q⟩ g => let ⟨v, h1, h2⟩ := en.at_ i d h; ⟨v, h1, g v H d L (.refl H) ow h2 q⟩⟩⟩
theorem le_c {K : PySem.W.Frag} {H0 : Hp} {v : V} {d : D} (hi : ∀ H, Imm K H d v) : LE K H0 (tC v) (wC d) := ⟨fun σ H ρ L P Q t0 en ow h g => g v H d L (.refl H) ow (hi H) h⟩
theorem d_int {i j} : DPE X H0 (.Constant (.int i) j pos) (wC (.int i)) := ⟨_, pe_int, le_c (d := .int i) fun _ => rfl⟩
theorem d_bl {b j} : DPE X H0 (.Constant (.bool b) j pos) (wC (.bl b)) := ⟨_, pe_bl, le_c (d := .bl b) fun _ => rfl⟩
theorem d_non {j} : DPE X H0 (.Constant .none j pos) (wC .non) := ⟨_, pe_non, le_c (d := .non) fun _ => rfl⟩
theorem d_str {x j} : DPE X H0 (.Constant (.str x) j pos) (wC (.str x)) := ⟨_, pe_str, le_c (d := .str x) fun _ => rfl⟩
/-- a module's constant (an int, a text), a class of the text -/
theorem d_globI {x : Str} {i : Int} {t : Tok} (hm : X.mg x = some (.int i t)) (hg : Gl X x := by rfl) (hd : (x == ("__debug__" : Str)) = false := by decide) : DPE X H0 (.Name x pos) (wC (.int i)) :=
  ⟨_, pe_glob (v := .int i) hg hm ⟨_, rfl⟩ hd, le_c (d := .int i) fun _ => rfl⟩
theorem d_globS {x y : Str} {t : Tok} (hm : X.mg x = some (.str y t)) (hg : Gl X x := by rfl) (hd : (x == ("__debug__" : Str)) = false := by decide) : DPE X H0 (.Name x pos) (wC (.str y)) :=
  ⟨_, pe_glob (v := .str y) hg hm ⟨_, rfl⟩ hd, le_c (d := .str y) fun _ => rfl⟩
theorem d_globR {x : Str} {c : Addr} (hm : X.mg x = some (.ref c)) (hg : Gl X x := by rfl) (hd : (x == ("__debug__" : Str)) = false := by decide) : DPE X H0 (.Name x pos) (wC (.ref c)) :=
  ⟨_, pe_glob (v := .ref c) hg hm rfl hd, le_c (d := .ref c) fun _ => rfl⟩
theorem d_ty {x : Str} {n : String} (hm : X.mg x = none) (hv : bootBuiltins x = some (.type n)) (hg : Gl X x := by rfl) (hn : x ≠ "__name__" := by decide) (hd : (x == ("__debug__" : Str)) = false := by decide) : DPE X H0 (.Name x pos) (wC (.ty n)) :=
  ⟨_, pe_bltn (v := .ty n) hg hm hv rfl hn hd, le_c (d := .ty n) fun _ => rfl⟩

theorem d_op {op : Operator} {r2 : R2} {f : D → D → List Itm → DK → Prop} (ho : OpR X (binaryOp op) r2) (hf : ROp X.K r2 f) (ha : DPE X H0 a wa) (hb : DPE X H0 b wb) : DPE X H0 (.BinOp a op b pos) (wOp f wa wb) := by
  obtain ⟨ta, pa, la⟩ := ha
  obtain ⟨tb, pb, lb⟩ := hb
  refine ⟨_, pe_op ho pa pb, ⟨fun σ H ρ L P Q t0 en ow h g => ?_⟩⟩
  refine la.run σ H ρ L _ _ t0 en ow h fun x H1 dx L1 t1 ow1 i1 h1 => ?_
  refine lb.run σ H1 ρ L1 _ _ (t0.trans t1) (en.mono t1) ow1 h1 fun y H2 dy L2 t2 ow2 i2 h2 => ?_
  exact hf H2 x y dx dy L2 _ _ (i1.mono t2) i2 ow2 h2 (g.mono (t1.trans t2))
theorem d_un {op : UnaryOp} {r : V → Hp → VK → Prop} {f : D → List Itm → DK → Prop} (ho : UnR X (unaryOp op) r) (hf : RUn X.K r f) (ha : DPE X H0 a wa) : DPE X H0 (.UnaryOp op a pos) (wUn f wa) := by
  obtain ⟨ta, pa, la⟩ := ha
  refine ⟨_, pe_un ho pa, ⟨fun σ H ρ L P Q t0 en ow h g => ?_⟩⟩
  exact la.run σ H ρ L _ _ t0 en ow h fun x H1 dx L1 t1 ow1 i1 h1 => hf H1 x dx L1 _ _ i1 ow1 h1 (g.mono t1)
theorem d_cmp {op : CmpOp} {r2 : R2} {f : D → D → List Itm → DK → Prop} (ho : OpR X (compareOp op) r2) (hf : ROp X.K r2 f) (hm : behindInMarks op b = false) (ha : DPE X H0 a wa) (hb : DPE X H0 b wb) : DPE X H0 (.Compare a [op] [b] pos) (wOp f wa wb) := by
  obtain ⟨ta, pa, la⟩ := ha
  obtain ⟨tb, pb, lb⟩ := hb
  refine ⟨_, pe_cmpR ho pa pb hm, ⟨fun σ H ρ L P Q t0 en ow h g => ?_⟩⟩
  refine la.run σ H ρ L _ _ t0 en ow h fun x H1 dx L1 t1 ow1 i1 h1 => ?_
  refine lb.run σ H1 ρ L1 _ _ (t0.trans t1) (en.mono t1) ow1 h1 fun y H2 dy L2 t2 ow2 i2 h2 => ?_
  exact hf H2 x y dx dy L2 _ _ (i1.mono t2) i2 ow2 h2 (g.mono (t1.trans t2))
theorem da_nil : DPA X H0 [] wNil := ⟨_, pa_nil, ⟨fun σ H ρ L P Q t0 en ow h g => g [] H [] L (.refl H) ow rfl h⟩⟩
theorem da_cons (he : DPE X H0 e w) (hr : DPA X H0 es r) (hs : starEach (e :: es) X.env = (false, eval e X.env) :: starEach es X.env := by rfl) : DPA X H0 (e :: es) (wCons w r) := by
  obtain ⟨te, pe, le⟩ := he
  obtain ⟨tr, pr, lr⟩ := hr
  refine ⟨_, pa_cons pe pr hs, ⟨fun σ H ρ L P Q t0 en ow h g => ?_⟩⟩
  refine le.run σ H ρ L _ _ t0 en ow h fun x H1 dx L1 t1 ow1 i1 h1 => ?_
  refine lr.run σ H1 ρ L1 _ _ (t0.trans t1) (en.mono t1) ow1 h1 fun xs H2 ds L2 t2 ow2 i2 h2 => ?_
  exact g (x :: xs) H2 (dx :: ds) L2 (t1.trans t2) ow2 ⟨x, xs, rfl, i1.mono t2, i2⟩ h2
theorem d_tup {k} (h : DPA X H0 es r) : DPE X H0 (.Tuple es k pos) (wTup r) := by
  obtain ⟨t, p, l⟩ := h
  refine ⟨_, pe_tup p, ⟨fun σ H ρ L P Q t0 en ow h g => ?_⟩⟩
  refine l.run σ H ρ L _ _ t0 en ow h fun xs H1 ds L1 t1 ow1 i1 h1 => ⟨by rw [i1.length]; exact h1.1, fun p hp => ?_⟩
  have s := same_new (o := HO.tup xs) hp
  exact g _ _ (.tup ds) L1 (t1.trans (.of_same s)) (ow1.same s) ⟨p, xs, rfl, SqT.of upd_same, i1.mono (.of_same s)⟩ h1.2
theorem d_lst (h : DPA X H0 es r) : DPE X H0 (.List es pos) (wLst r) := by
  obtain ⟨t, p, l⟩ := h
  refine ⟨_, pe_lst p, ⟨fun σ H ρ L P Q t0 en ow h g => ?_⟩⟩
  refine l.run σ H ρ L _ _ t0 en ow h fun xs H1 ds L1 t1 ow1 i1 h1 => ⟨by rw [i1.length]; exact h1.1, fun p hp => ?_⟩
  have t2 := TK.new (o := HO.lst xs) hp
  exact g _ _ (.ref p) (.l p ds :: L1) (t1.trans t2) (ow1.new (it := .l p ds) hp rfl ⟨xs, upd_same, i1.mono t2⟩) rfl (h1.2 p)
theorem d_callB {x : Str} {id : String} {r : List V → Hp → VK → Prop} {f : List D → List Itm → DK → Prop} {wr : DTA} {p : Pos} (hc : CallR X (.builtin id) r) (hf : RCall X.K r f) (hm : X.mg x = none) (hv : bootBuiltins x = some (.builtin id)) (ha : DPA X H0 (e :: es) wr) (hg : Gl X x := by rfl) (hn : x ≠ "__name__" := by decide)
    (hdb : (x == ("__debug__" : Str)) = false := by decide) (he : starEach (e :: es) X.env = (false, eval e X.env) :: starEach es X.env := by rfl) (hpl : (backTo pos (starEach es X.env)).any (·.1) = false := by rfl) : DPE X H0 (.Call (.Name x p) (e :: es) [] pos) (wCB f wr) := by
  obtain ⟨t, q, l⟩ := ha
  refine ⟨_, pe_callB hc hg hm hv q hn hdb he hpl, ⟨fun σ H ρ L P Q t0 en ow h g => ?_⟩⟩
  exact l.run σ H ρ L _ _ t0 en ow h fun xs H1 ds L1 t1 ow1 i1 h1 => hf H1 xs ds L1 _ _ i1 ow1 h1 (g.mono t1)
theorem d_callTy {x : Str} {T : String} {r : List V → Hp → VK → Prop} {f : List D → List Itm → DK → Prop} {wr : DTA} {p : Pos} (hc : CallR X (.type T) r) (hf : RCall X.K r f) (hm : X.mg x = none) (hv : bootBuiltins x = some (.type T)) (ha : DPA X H0 (e :: es) wr) (hg : Gl X x := by rfl) (hn : x ≠ "__name__" := by decide)
    (hdb : (x == ("__debug__" : Str)) = false := by decide) (he : starEach (e :: es) X.env = (false, eval e X.env) :: starEach es X.env := by rfl) (hpl : (backTo pos (starEach es X.env)).any (·.1) = false := by rfl) : DPE X H0 (.Call (.Name x p) (e :: es) [] pos) (wCB f wr) := by
  obtain ⟨t, q, l⟩ := ha
  refine ⟨_, pe_callTy hc hg hm hv q hn hdb he hpl, ⟨fun σ H ρ L P Q t0 en ow h g => ?_⟩⟩
  exact l.run σ H ρ L _ _ t0 en ow h fun xs H1 ds L1 t1 ow1 i1 h1 => hf H1 xs ds L1 _ _ i1 ow1 h1 (g.mono t1)
end
end DL

set_option maxRecDepth 100000
set_option maxHeartbeats 2000000
namespace DL
open PySem L2

/-! ### tests -/
def wB (a : DTE) : DTT := fun ρ L P => a ρ L fun d L1 => ∃ b, d = .bl b ∧ P b L1
def truD : D → List Itm → (Bool → List Itm → Prop) → Prop
  | .non, L, P => P false L
  | .bl b, L, P => P b L
  | .int i, L, P => P (i != 0) L
  | .str s, L, P => s.length ≤ sizeLine ∧ P ((s.length : Int) != 0) L
  | .tup ds, L, P => P (!ds.isEmpty) L
  | .ref p, L, P => ∃ ds, Itm.l p ds ∈ L ∧ P (!ds.isEmpty) L
  | .ty _, _, _ => False
def wTru (a : DTE) : DTT := fun ρ L P => a ρ L fun d L1 => truD d L1 P
def wAnd (t u : DTT) : DTT := fun ρ L P => t ρ L fun c L1 => (c = true → u ρ L1 P) ∧ (c = false → P false L1)
def wOr (t u : DTT) : DTT := fun ρ L P => t ρ L fun c L1 => (c = true → P true L1) ∧ (c = false → u ρ L1 P)
def wNot (t : DTT) : DTT := fun ρ L P => t ρ L fun c L1 => P (!c) L1
def wAndV (a b : DTE) : DTE := fun ρ L P => a ρ L fun d L1 => ∃ c, d = .bl c ∧ (c = true → b ρ L1 P) ∧ (c = false → P (.bl false) L1)
def wOrV (a b : DTE) : DTE := fun ρ L P => a ρ L fun d L1 => ∃ c, d = .bl c ∧ (c = true → P (.bl true) L1) ∧ (c = false → b ρ L1 P)
def wNotV (a : DTE) : DTE := fun ρ L P => a ρ L fun d L1 => ∃ c, d = .bl c ∧ P (.bl (!c)) L1
section
variable {X : Cx} {H0 : Hp} {pos : Pos} {e a b c : Expr} {es rest : List Expr} {w wa wb : DTE} {t u : DTT}
theorem own_sql {K : PySem.W.Frag} {H : Hp} {L : List Itm} {p : Addr} {ds : List D} (ow : Own K H L) (h : Itm.l p ds ∈ L) : ∃ xs, H p = some (.lst xs) ∧ ImmL K H ds xs := ow.ok _ h
theorem isEmpty_imm {K : PySem.W.Frag} {H : Hp} {ds : List D} {xs : List V} (h : ImmL K H ds xs) : xs.isEmpty = ds.isEmpty := by
  cases ds with
  | nil => cases h; rfl
  | cons d ds => obtain ⟨x, r, e, _⟩ := h; subst e; rfl
theorem tru_of {K : PySem.W.Frag} {H : Hp} {L : List Itm} {d : D} {v : V} {P : Bool → List Itm → Prop} (ow : Own K H L) (h : Imm K H d v) (q : truD d L P) : ∃ k, TruV K v H k ∧ P k L := by
  cases d with
  | non => cases h; exact ⟨false, rfl, q⟩
  | bl b => cases h; exact ⟨b, rfl, q⟩
  | int i => cases h; exact ⟨_, rfl, q⟩
  | str s => cases h; exact ⟨_, ⟨q.1, rfl⟩, q.2⟩
  | ty n => exact q.elim
  | tup ds =>
    obtain ⟨p, xs, e, hs, hi⟩ := h
    subst e
    exact ⟨_, .inr (.inl ⟨xs, hs, rfl⟩), by rw [isEmpty_imm hi]; exact q⟩
  | ref p =>
    cases h
    obtain ⟨ds, hm, q⟩ := q
    obtain ⟨xs, e, hi⟩ := own_sql ow hm
    exact ⟨_, .inl ⟨xs, SqL.of e, rfl⟩, by rw [isEmpty_imm hi]; exact q⟩
theorem dt_truth (ha : DPE X H0 a wa) (he : ∀ whole, isTrue a X.env whole = (do let v ← whole; standAt a.pos; holding [v] (truthy v)) := by intro _; rfl) : DPT X H0 a (wTru wa) := by
  obtain ⟨ta, pa, la⟩ := ha
  refine ⟨_, pt_truth pa he, ⟨fun σ H ρ L P Q t0 en ow h g => ?_⟩⟩
  refine la.run σ H ρ L _ _ t0 en ow h fun v H1 d L1 t1 ow1 i1 h1 => ?_
  obtain ⟨k, q1, q2⟩ := tru_of ow1 i1 h1
  exact ⟨k, q1, g k H1 L1 t1 ow1 q2⟩
theorem dt_cmp {op : CmpOp} {r2 : R2} {f : D → D → List Itm → DK → Prop} (ho : OpR X (compareOp op) r2) (hf : ROp X.K r2 f) (hm : behindInMarks op b = false) (ha : DPE X H0 a wa) (hb : DPE X H0 b wb) : DPT X H0 (.Compare a [op] [b] pos) (wB (wOp f wa wb)) := by
  obtain ⟨ta, pa, la⟩ := ha
  obtain ⟨tb, pb, lb⟩ := hb
  refine ⟨_, pt_cmpR ho pa pb hm, ⟨fun σ H ρ L P Q t0 en ow h g => ?_⟩⟩
  refine la.run σ H ρ L _ _ t0 en ow h fun x H1 dx L1 t1 ow1 i1 h1 => ?_
  refine lb.run σ H1 ρ L1 _ _ (t0.trans t1) (en.mono t1) ow1 h1 fun y H2 dy L2 t2 ow2 i2 h2 => ?_
  refine hf H2 x y dx dy L2 _ _ (i1.mono t2) i2 ow2 h2 fun v H3 d L3 t3 ow3 i3 h3 => ?_
  obtain ⟨k, e, q⟩ := h3
  subst e
  exact ⟨k, i3, g k H3 L3 ((t1.trans t2).trans t3) ow3 q⟩
theorem dw_and1 (h : DPT X H0 a t) : DPW X H0 (.BoolOp .And [a] pos) t := let ⟨q, p, l⟩ := h; ⟨q, pw_and1 p, l⟩
theorem dw_or1 (h : DPT X H0 a t) : DPW X H0 (.BoolOp .Or [a] pos) t := let ⟨q, p, l⟩ := h; ⟨q, pw_or1 p, l⟩
theorem dw_and (ha : DPT X H0 a t) (hb : DPW X H0 (.BoolOp .And (b :: rest) pos) u) : DPW X H0 (.BoolOp .And (a :: b :: rest) pos) (wAnd t u) := by
  obtain ⟨ta, pa, la⟩ := ha
  obtain ⟨tb, pb, lb⟩ := hb
  refine ⟨_, pw_and pa pb, ⟨fun σ H ρ L P Q t0 en ow h g => ?_⟩⟩
  refine la.run σ H ρ L _ _ t0 en ow h fun c H1 L1 t1 ow1 h1 => ?_
  cases c with
  | true => exact iteT (lb.run σ H1 ρ L1 _ _ (t0.trans t1) (en.mono t1) ow1 (h1.1 rfl) (g.mono t1))
  | false => exact iteF (g false H1 L1 t1 ow1 (h1.2 rfl))
theorem dw_or (ha : DPT X H0 a t) (hb : DPW X H0 (.BoolOp .Or (b :: rest) pos) u) : DPW X H0 (.BoolOp .Or (a :: b :: rest) pos) (wOr t u) := by
  obtain ⟨ta, pa, la⟩ := ha
  obtain ⟨tb, pb, lb⟩ := hb
  refine ⟨_, pw_or pa pb, ⟨fun σ H ρ L P Q t0 en ow h g => ?_⟩⟩
  refine la.run σ H ρ L _ _ t0 en ow h fun c H1 L1 t1 ow1 h1 => ?_
  cases c with
  | true => exact iteT (g true H1 L1 t1 ow1 (h1.1 rfl))
  | false => exact iteF (lb.run σ H1 ρ L1 _ _ (t0.trans t1) (en.mono t1) ow1 (h1.2 rfl) (g.mono t1))
theorem dt_w (h : DPW X H0 e t) : DPT X H0 e t := let ⟨q, p, l⟩ := h; ⟨q, PW.pt p, l⟩
theorem dt_not (ha : DPT X H0 a t) : DPT X H0 (.UnaryOp .Not a pos) (wNot t) := by
  obtain ⟨ta, pa, la⟩ := ha
  exact ⟨_, pt_not pa, ⟨fun σ H ρ L P Q t0 en ow h g => la.run σ H ρ L _ _ t0 en ow h fun c H1 L1 t1 ow1 h1 => g (!c) H1 L1 t1 ow1 h1⟩⟩
theorem d_one {op} (h : DPE X H0 a wa) : DPE X H0 (.BoolOp op [a] pos) wa := let ⟨q, p, l⟩ := h; ⟨q, pe_one p, l⟩
theorem d_and (ha : DPE X H0 a wa) (hb : DPE X H0 (.BoolOp .And (b :: rest) pos) wb) : DPE X H0 (.BoolOp .And (a :: b :: rest) pos) (wAndV wa wb) := by
  obtain ⟨ta, pa, la⟩ := ha
  obtain ⟨tb, pb, lb⟩ := hb
  refine ⟨_, pe_and pa pb, ⟨fun σ H ρ L P Q t0 en ow h g => ?_⟩⟩
  refine la.run σ H ρ L _ _ t0 en ow h fun v H1 d L1 t1 ow1 i1 h1 => ?_
  obtain ⟨c, e, h2, h3⟩ := h1
  subst e
  refine ⟨c, i1, ?_⟩
  cases c with
  | true => exact iteT (lb.run σ H1 ρ L1 _ _ (t0.trans t1) (en.mono t1) ow1 (h2 rfl) (g.mono t1))
  | false => exact iteF (g _ H1 (.bl false) L1 t1 ow1 rfl (h3 rfl))
theorem d_or (ha : DPE X H0 a wa) (hb : DPE X H0 (.BoolOp .Or (b :: rest) pos) wb) : DPE X H0 (.BoolOp .Or (a :: b :: rest) pos) (wOrV wa wb) := by
  obtain ⟨ta, pa, la⟩ := ha
  obtain ⟨tb, pb, lb⟩ := hb
  refine ⟨_, pe_or pa pb, ⟨fun σ H ρ L P Q t0 en ow h g => ?_⟩⟩
  refine la.run σ H ρ L _ _ t0 en ow h fun v H1 d L1 t1 ow1 i1 h1 => ?_
  obtain ⟨c, e, h2, h3⟩ := h1
  subst e
  refine ⟨c, i1, ?_⟩
  cases c with
  | true => exact iteT (g _ H1 (.bl true) L1 t1 ow1 rfl (h2 rfl))
  | false => exact iteF (lb.run σ H1 ρ L1 _ _ (t0.trans t1) (en.mono t1) ow1 (h3 rfl) (g.mono t1))
theorem d_not (ha : DPE X H0 a wa) : DPE X H0 (.UnaryOp .Not a pos) (wNotV wa) := by
  obtain ⟨ta, pa, la⟩ := ha
  refine ⟨_, pe_not pa, ⟨fun σ H ρ L P Q t0 en ow h g => ?_⟩⟩
  refine la.run σ H ρ L _ _ t0 en ow h fun v H1 d L1 t1 ow1 i1 h1 => ?_
  obtain ⟨c, e, h2⟩ := h1
  subst e
  exact ⟨c, i1, g _ H1 (.bl (!c)) L1 t1 ow1 rfl h2⟩
theorem d_ifExp (hc : DPT X H0 c t) (ha : DPE X H0 a wa) (hb : DPE X H0 b wb) : DPE X H0 (.IfExp c a b pos) (wIf t wa wb) := by
  obtain ⟨tc, pc, lc⟩ := hc
  obtain ⟨ta, pa, la⟩ := ha
  obtain ⟨tb, pb, lb⟩ := hb
  refine ⟨_, pe_ifExp pc pa pb, ⟨fun σ H ρ L P Q t0 en ow h g => ?_⟩⟩
  refine lc.run σ H ρ L _ _ t0 en ow h fun c H1 L1 t1 ow1 h1 => ?_
  cases c with
  | true => exact iteT (la.run σ H1 ρ L1 _ _ (t0.trans t1) (en.mono t1) ow1 (h1.1 rfl) (g.mono t1))
  | false => exact iteF (lb.run σ H1 ρ L1 _ _ (t0.trans t1) (en.mono t1) ow1 (h1.2 rfl) (g.mono t1))
end

/-! ### statements -/
def wNext : DTS := fun K ρ L => K.nx ρ L
def wSeq (t u : DTS) : DTS := fun K ρ L => ∃ M : Rho → List Itm → Prop, t { K with nx := M } ρ L ∧ ∀ ρ' L', M ρ' L' → u K ρ' L'
def wBreak : DTS := fun K ρ L => K.bk ρ L
def wCont : DTS := fun K ρ L => K.ct ρ L
def wDrop (w : DTE) : DTS := fun K ρ L => w ρ L fun _ L1 => K.nx ρ L1
def wRet (w : DTE) : DTS := fun K ρ L => w ρ L K.rt
def wRetN : DTS := fun K _ L => K.rt .non L
def wIfS (t : DTT) (a b : DTS) : DTS := fun K ρ L => t ρ L fun c L1 => (c = true → a K ρ L1) ∧ (c = false → b K ρ L1)
def wNever : DTS := fun _ _ _ => False
def gN (i : Nat) : DTG := fun d ρ L P => P (ρ.set i (some d)) L
def wAsg (w : DTE) (g : DTG) : DTS := fun K ρ L => w ρ L fun d L1 => g d ρ L1 K.nx
section
variable {X : Cx} {H0 : Hp} {pos : Pos} {e a b c tg : Expr} {es : List Expr} {st : Stmt} {sts xs ys : List Stmt} {w wa wb : DTE} {t : DTT} {s u : DTS} {g : DTG}
theorem dss_nil : DPSs X H0 [] wNext := ⟨_, pss_nil, ⟨fun σ H ρ L P Q t0 en ow h g => g.nx σ H ρ L (.refl H) en ow h⟩⟩
theorem dss_cons (h1 : DPS X H0 st s) (h2 : DPSs X H0 sts u) : DPSs X H0 (st :: sts) (wSeq s u) := by
  obtain ⟨t1, p1, l1⟩ := h1
  obtain ⟨t2, p2, l2⟩ := h2
  refine ⟨_, pss_cons p1 p2, ⟨fun σ H ρ L P Q t0 en ow h g => ?_⟩⟩
  obtain ⟨M, h1, h2⟩ := h
  exact l1.run σ H ρ L { P with nx := M } { Q with nx := t2 Q } t0 en ow h1 ⟨fun σ' H' ρ' L' t' en' ow' m => l2.run σ' H' ρ' L' P Q (t0.trans t') en' ow' (h2 ρ' L' m) (g.mono t'), g.rt, g.bk, g.ct⟩
theorem dss_one (h1 : DPS X H0 st s) : DPSs X H0 [st] s := let ⟨t1, p1, l1⟩ := h1; ⟨t1, pss_one p1, l1⟩
theorem ds_pass : DPS X H0 (.Pass pos) wNext := ⟨_, ps_pass, ⟨fun σ H ρ L P Q t0 en ow h g => g.nx σ H ρ L (.refl H) en ow h⟩⟩
theorem ds_break : DPS X H0 (.Break pos) wBreak := ⟨_, ps_break, ⟨fun σ H ρ L P Q t0 en ow h g => g.bk σ H ρ L (.refl H) en ow h⟩⟩
theorem ds_continue : DPS X H0 (.Continue pos) wCont := ⟨_, ps_continue, ⟨fun σ H ρ L P Q t0 en ow h g => g.ct σ H ρ L (.refl H) en ow h⟩⟩
theorem ds_expr (he : DPE X H0 e w) (hs : swapsWith e none pos.line X.env = pure false := by rfl) : DPS X H0 (.Expr e pos) (wDrop w) := by
  obtain ⟨te, pe, le⟩ := he
  exact ⟨_, ps_expr pe hs, ⟨fun σ H ρ L P Q t0 en ow h g => le.run σ H ρ L _ _ t0 en ow h fun v H1 d L1 t1 ow1 i1 h1 => g.nx σ H1 ρ L1 t1 (en.mono t1) ow1 h1⟩⟩
theorem ds_ret (he : DPE X H0 e w) : DPS X H0 (.Return (some e) pos) (wRet w) := by
  obtain ⟨te, pe, le⟩ := he
  exact ⟨_, ps_ret pe, ⟨fun σ H ρ L P Q t0 en ow h g => le.run σ H ρ L _ _ t0 en ow h g.rt⟩⟩
theorem ds_retN : DPS X H0 (.Return none pos) wRetN := ⟨_, ps_retN, ⟨fun σ H ρ L P Q t0 en ow h g => g.rt _ H .non L (.refl H) ow rfl h⟩⟩
theorem ds_if (hc : DPT X H0 c t) (ha : DPSs X H0 xs s) (hb : DPSs X H0 ys u) : DPS X H0 (.If c xs ys pos) (wIfS t s u) := by
  obtain ⟨tc, pc, lc⟩ := hc
  obtain ⟨ta, pa, la⟩ := ha
  obtain ⟨tb, pb, lb⟩ := hb
  refine ⟨_, ps_if pc pa pb, ⟨fun σ H ρ L P Q t0 en ow h g => ?_⟩⟩
  refine lc.run σ H ρ L _ _ t0 en ow h fun c H1 L1 t1 ow1 h1 => ?_
  cases c with
  | true => exact iteT (la.run σ H1 ρ L1 _ _ (t0.trans t1) (en.mono t1) ow1 (h1.1 rfl) (g.mono t1))
  | false => exact iteF (lb.run σ H1 ρ L1 _ _ (t0.trans t1) (en.mono t1) ow1 (h1.2 rfl) (g.mono t1))
theorem ds_never : DPS X H0 st wNever := ⟨_, ps_never, ⟨fun _ _ _ _ _ _ _ _ _ h _ => h.elim⟩⟩
theorem dss_never : DPSs X H0 sts wNever := ⟨_, pss_never, ⟨fun _ _ _ _ _ _ _ _ _ h _ => h.elim⟩⟩
theorem lg_name {K : PySem.W.Frag} (i : Nat) : LG K H0 (gName i) (gN i) := ⟨fun v d σ H ρ L P Q t0 en ow im h g => g _ H _ L (.refl H) (en.set i im) ow h⟩
theorem dg_name (i : Nat) {x : Str} (hN : X.N.Nodup) (hi : X.N[i]? = some x := by rfl) (hx : Loc X.env.scope x := by first | exact Or.inl rfl | exact Or.inr rfl) (hf : X.fn x = true ∨ X.env.scope.names.lookup x = some .local := by first | exact .inl rfl | exact .inr rfl | assumption) : DPG X H0 (.Name x pos) (gN i) :=
  ⟨_, pg_name hN hi hx hf, lg_name i⟩
theorem ds_asg (he : DPE X H0 e w) (hg : DPG X H0 tg g) (hs : swapsWithSole [tg] e pos.line X.env = pure false := by rfl) (hw : swappedStores [tg] e X.env = pure none := by rfl) (h1 : (assignEach [tg] X.env).map (·.2) = [assign tg X.env] := by rfl) : DPS X H0 (.Assign [tg] e pos) (wAsg w g) := by
  obtain ⟨te, pe, le⟩ := he
  obtain ⟨gg, pg, lg⟩ := hg
  refine ⟨_, ps_asg pe pg hs hw h1, ⟨fun σ H ρ L P Q t0 en ow h g => ?_⟩⟩
  exact le.run σ H ρ L _ _ t0 en ow h fun v H1 d L1 t1 ow1 i1 h1 => lg.run v d σ H1 ρ L1 _ _ (t0.trans t1) (en.mono t1) ow1 i1 h1 (g.nx.mono t1)
theorem ds_set (i : Nat) {x : Str} {pos' : Pos} (hN : X.N.Nodup) (he : DPE X H0 e w) (hi : X.N[i]? = some x := by rfl) (hx : Loc X.env.scope x := by first | exact Or.inl rfl | exact Or.inr rfl) (hs : swapsWith e (some (.Name x pos')) pos.line X.env = pure false := by rfl)
    (hf : X.fn x = true ∨ X.env.scope.names.lookup x = some .local := by first | exact .inl rfl | exact .inr rfl | assumption) : DPS X H0 (.Assign [.Name x pos'] e pos) (wAsg w (gN i)) := by
  obtain ⟨te, pe, le⟩ := he
  refine ⟨_, ps_set hN hi hx pe hs hf, ⟨fun σ H ρ L P Q t0 en ow h g => ?_⟩⟩
  exact le.run σ H ρ L _ _ t0 en ow h fun v H1 d L1 t1 ow1 i1 h1 => (lg_name (H0 := H0) i).run v d σ H1 ρ L1 _ _ (t0.trans t1) (en.mono t1) ow1 i1 h1 (g.nx.mono t1)
end

/-! ### what is walked -/
structure DIter (K : PySem.W.Frag) (B : Hp) (J : L2.It) (ds : List D) (keep : List Itm → Prop) : Prop where
  go : ∀ (i : Nat) (H : Hp) (L : List Itm), TK B H → Own K H L → keep L → i < ds.length → J.go i H
  yld : ∀ (i : Nat) (H : Hp) (L : List Itm) (x : V) (H' : Hp), TK B H → Own K H L → keep L → i < ds.length → J.yld i H x H' → ∃ d, ds[i]? = some d ∧ TK H H' ∧ Own K H' L ∧ Imm K H' d x
  stop : ∀ (H : Hp) (L : List Itm), TK B H → Own K H L → keep L → J.stop ds.length H
abbrev DTI := Rho → List Itm → (List D → (List Itm → Prop) → List Itm → Prop) → Prop
structure LI (K : PySem.W.Frag) (H0 : Hp) (t : TI) (w : DTI) : Prop where
  run : ∀ (σ : St) (H : Hp) (ρ : Rho) (L : List Itm) (T : List D → (List Itm → Prop) → List Itm → Prop) (R : L2.It → Hp → Prop), TK H0 H → EnvD K H σ ρ → Own K H L → w ρ L T →
    (∀ (J : L2.It) (ds : List D) (keep : List Itm → Prop) (H' : Hp) (L' : List Itm), TK H H' → Own K H' L' → DIter K H' J ds keep → T ds keep L' → R J H') → t σ H R
def DPI (X : Cx) (H0 : Hp) (tg it : Expr) (w : DTI) : Prop := ∃ t, PI X tg it t ∧ LI X.K H0 t w
/-- the list stands, ours or the script -/
def keepL (p : Addr) (ds : List D) (L : List Itm) : Prop := Itm.l p ds ∈ L ∨ Itm.s p ds ∈ L
theorem keepL.sql {K : PySem.W.Frag} {p : Addr} {ds : List D} {H : Hp} {L : List Itm} (k : keepL p ds L) (ow : Own K H L) : ∃ xs, SqL K H p xs ∧ ImmL K H ds xs := by
  rcases k with k | k
  · obtain ⟨xs, e, i⟩ := ow.ok _ k
    exact ⟨xs, SqL.of e, i⟩
  · obtain ⟨xs, i, e⟩ := ow.ok _ k
    refine ⟨xs, ?_, i⟩
    rcases e with ⟨o, e⟩ | e
    · exact .inl (.inr ⟨o, e⟩)
    · exact .inr e
theorem iter_l {K : PySem.W.Frag} {B : Hp} {p : Addr} {ds : List D} : DIter K B (Itl K p) ds (keepL p ds) := by
  refine ⟨fun i H L t ow k hi => ?_, fun i H L x H' t ow k hi y => ?_, fun H L t ow k => ?_⟩
  · obtain ⟨xs, s, im⟩ := k.sql ow
    have hl := im.length
    exact ⟨xs, xs[i]'(by omega), s, by simp [show i < xs.length by omega]⟩
  · obtain ⟨xs, s, im⟩ := k.sql ow
    obtain ⟨e, y⟩ := y
    subst e
    obtain ⟨d, h1, h2⟩ := im.get' (y xs s)
    exact ⟨d, h1, .refl _, ow, h2⟩
  · obtain ⟨xs, s, im⟩ := k.sql ow
    exact ⟨xs, s, by rw [im.length]; exact Nat.le_refl _⟩
theorem iter_t {K : PySem.W.Frag} {B : Hp} {p : Addr} {xs : List V} {ds : List D} (hs : SqT K B p xs) (hi : ImmL K B ds xs) : DIter K B (Itt K p) ds (fun _ => True) := by
  refine ⟨fun i H L t ow k hi' => ?_, fun i H L x H' t ow k hi' y => ?_, fun H L t ow k => ?_⟩
  · have hl := hi.length
    exact ⟨xs, xs[i]'(by omega), t.sqt hs, by simp [show i < xs.length by omega]⟩
  · obtain ⟨e, y⟩ := y
    subst e
    obtain ⟨d, h1, h2⟩ := (hi.mono t).get' (y xs (t.sqt hs))
    exact ⟨d, h1, .refl _, ow, h2⟩
  · exact ⟨xs, t.sqt hs, by rw [hi.length]; exact Nat.le_refl _⟩
def rgD (lo : Int) (n : Nat) : List D := (List.range n).map fun (i : Nat) => D.int (lo + (i : Int))
theorem rgD_length (lo : Int) (n : Nat) : (rgD lo n).length = n := by simp [rgD]
theorem rgD_get {lo : Int} {n i : Nat} (h : i < n) : (rgD lo n)[i]? = some (.int (lo + (i : Int))) := by simp [rgD, h]
theorem iter_r {K : PySem.W.Frag} {B : Hp} {lo : Int} {n : Nat} : DIter K B (Itr lo n) (rgD lo n) (fun _ => True) := by
  refine ⟨fun i H L t ow k hi => by rw [rgD_length] at hi; exact hi, fun i H L x H' t ow k hi y => ?_, fun H L t ow k => by rw [rgD_length]; exact Nat.le_refl _⟩
  rw [rgD_length] at hi
  obtain ⟨e, y⟩ := y
  subst e y
  exact ⟨_, rgD_get hi, .refl _, ow, rfl⟩
/-- a list, a tuple -/
def seqT : D → List Itm → (List D → (List Itm → Prop) → List Itm → Prop) → Prop
  | .ref p, L1, T => ∃ ds, keepL p ds L1 ∧ T ds (keepL p ds) L1
  | _, _, _ => False
def tupT : D → List Itm → (List D → (List Itm → Prop) → List Itm → Prop) → Prop
  | .tup ds, L1, T => T ds (fun _ => True) L1
  | _, _, _ => False
def iSeq (w : DTE) : DTI := fun ρ L T => w ρ L fun d L1 => seqT d L1 T
def iTup (w : DTE) : DTI := fun ρ L T => w ρ L fun d L1 => tupT d L1 T
def iR1 (a : DTA) : DTI := fun ρ L T => a ρ L fun vs L1 => ∃ n : Int, vs = [.int n] ∧ -(2 ^ 62) ≤ n ∧ n < 2 ^ 62 ∧ T (rgD 0 n.toNat) (fun _ => True) L1
def iR2 (a : DTA) : DTI := fun ρ L T => a ρ L fun vs L1 => ∃ m n : Int, vs = [.int m, .int n] ∧ (-(2 ^ 62) ≤ m ∧ m < 2 ^ 62 ∧ -(2 ^ 62) ≤ n ∧ n < 2 ^ 62) ∧ T (rgD m (n - m).toNat) (fun _ => True) L1
section
variable {X : Cx} {H0 : Hp} {pos p : Pos} {e a b tg : Expr} {w : DTE} {r : DTA}
theorem di_list (h : DPE X H0 e w) : DPI X H0 tg e (iSeq w) := by
  obtain ⟨t, pe, le⟩ := h
  refine ⟨_, pi_list pe, ⟨fun σ H ρ L T R t0 en ow h k => ?_⟩⟩
  refine le.run σ H ρ L _ _ t0 en ow h fun v H1 d L1 t1 ow1 i1 h1 => ?_
  cases d with
  | ref p =>
    obtain ⟨ds, kp, q⟩ := h1
    obtain ⟨xs, s, im⟩ := kp.sql ow1
    exact ⟨p, i1, ⟨xs, s⟩, k _ ds _ H1 L1 t1 ow1 iter_l q⟩
  | _ => exact h1.elim
theorem di_tup (h : DPE X H0 e w) : DPI X H0 tg e (iTup w) := by
  obtain ⟨t, pe, le⟩ := h
  refine ⟨_, pi_tup pe, ⟨fun σ H ρ L T R t0 en ow h k => ?_⟩⟩
  refine le.run σ H ρ L _ _ t0 en ow h fun v H1 d L1 t1 ow1 i1 h1 => ?_
  cases d with
  | tup ds =>
    obtain ⟨p, xs, e, s, im⟩ := i1
    exact ⟨p, e, ⟨xs, s⟩, k _ ds _ H1 L1 t1 ow1 (iter_t s im) h1⟩
  | _ => exact h1.elim
theorem di_range1 (ha : DPA X H0 [a] r) (hm : X.mg "range" = none) (hg : Gl X "range" := by rfl) (hs : starEach [a] X.env = [(false, eval a X.env)] := by rfl) : DPI X H0 tg (.Call (.Name "range" p) [a] [] pos) (iR1 r) := by
  obtain ⟨t, pe, le⟩ := ha
  refine ⟨_, pi_range1 hg hm pe hs, ⟨fun σ H ρ L T R t0 en ow h k => ?_⟩⟩
  refine le.run σ H ρ L _ _ t0 en ow h fun vs H1 ds L1 t1 ow1 i1 h1 => ?_
  obtain ⟨n, e, h2, h3, q⟩ := h1
  subst e
  obtain ⟨x, r, e, e1, e2⟩ := i1
  cases e1
  cases e2
  exact ⟨n, e, h2, h3, k _ _ _ H1 L1 t1 ow1 iter_r q⟩
theorem di_range2 (ha : DPA X H0 [a, b] r) (hm : X.mg "range" = none) (hg : Gl X "range" := by rfl) (hs : starEach [a, b] X.env = [(false, eval a X.env), (false, eval b X.env)] := by rfl) (hs2 : starEach [b] X.env = [(false, eval b X.env)] := by rfl) :
    DPI X H0 tg (.Call (.Name "range" p) [a, b] [] pos) (iR2 r) := by
  obtain ⟨t, pe, le⟩ := ha
  refine ⟨_, pi_range2 hg hm pe hs hs2, ⟨fun σ H ρ L T R t0 en ow h k => ?_⟩⟩
  refine le.run σ H ρ L _ _ t0 en ow h fun vs H1 ds L1 t1 ow1 i1 h1 => ?_
  obtain ⟨m, n, e, h2, q⟩ := h1
  subst e
  obtain ⟨x, r, e, e1, y, r', e', e1', e2'⟩ := i1
  cases e1
  cases e1'
  cases e2'
  subst e'
  exact ⟨m, n, e, h2, k _ _ _ H1 L1 t1 ow1 iter_r q⟩
end

/-! ### for -/
def wFor (it : DTI) (g : DTG) (body : DTS) : DTS := fun K ρ L => it ρ L fun ds keep L1 => ∃ W : Nat → Rho → List Itm → Prop, W 0 ρ L1 ∧ (∀ i ρ' L', i ≤ ds.length → W i ρ' L' → keep L') ∧
  (∀ i d ρ' L', ds[i]? = some d → W i ρ' L' → g d ρ' L' fun ρ2 L2 => body { K with nx := Dr (W (i + 1)), ct := Dr (W (i + 1)), bk := K.nx } ρ2 L2) ∧ (∀ ρ' L', W ds.length ρ' L' → K.nx ρ' L')
theorem ds_for {X : Cx} {H0 : Hp} {pos : Pos} {tg iter : Expr} {body : List Stmt} {it : DTI} {g : DTG} {w : DTS} (hp : PassesOwn (model X.prog X.w) X.A X.env X.xe) (hc : X.calm = true) (hi : DPI X H0 tg iter it) (hg : DPG X H0 tg g) (hb : DPSs X H0 body w)
    (hs : ∀ x, foldedSetIterable iter X.env x = pure x := by intro _; rfl) : DPS X H0 (.For tg iter body [] pos) (wFor it g w) := by
  obtain ⟨ti, pi, li⟩ := hi
  obtain ⟨tg', pg, lg⟩ := hg
  obtain ⟨tb, pb, lb⟩ := hb
  refine ⟨_, ps_for hp hc pi pg pb hs, ⟨fun σ H ρ L P Q t0 en ow h g => ?_⟩⟩
  refine li.run σ H ρ L _ _ t0 en ow h fun J ds keep H1 L1 t1 ow1 iter h1 => ?_
  obtain ⟨W, w0, wk, ws, wd⟩ := h1
  refine ⟨fun i m σ' H' => m = ds.length - i ∧ i ≤ ds.length ∧ TK H1 H' ∧ ∃ ρ' L', EnvD X.K H' σ' ρ' ∧ Own X.K H' L' ∧ W i ρ' L', ⟨_, rfl, Nat.zero_le _, .refl _, ρ, L1, en.mono t1, ow1, w0⟩, ?_⟩
  rintro i m σ' H' ⟨rfl, hi, t', ρ', L', en', ow', wi⟩
  have kp := wk i ρ' L' hi wi
  by_cases hlt : i < ds.length
  · refine .inr ⟨iter.go i H' L' t' ow' kp hlt, fun σ2 H2 => TK H1 H2 ∧ ∃ ρ2 L2, EnvD X.K H2 σ2 ρ2 ∧ Own X.K H2 L2 ∧ W (i + 1) ρ2 L2, fun σ2 H2 ⟨t2, ρ2, L2, e2, o2, w2⟩ => ⟨ds.length - (i + 1), by omega, rfl, hlt, t2, ρ2, L2, e2, o2, w2⟩, fun x H2 y => ?_⟩
    obtain ⟨d, hd, t2, ow2, im⟩ := iter.yld i H' L' x H2 t' ow' kp hlt y
    have t02 : TK H0 H2 := ((t0.trans t1).trans t').trans t2
    refine lg.run x d σ' H2 ρ' L' _ _ t02 (en'.mono t2) ow2 im (ws i d ρ' L' hd wi) fun σ3 H3 ρ3 L3 t3 en3 ow3 h3 => ?_
    have t13 : TK H1 H3 := (t'.trans t2).trans t3
    refine lb.run σ3 H3 ρ3 L3 _ _ (t02.trans t3) en3 ow3 h3 ⟨fun σ4 H4 ρ4 L4 t4 en4 ow4 ⟨L5, sb, h4⟩ => ⟨t13.trans t4, ρ4, L5, en4, ow4.sub sb, h4⟩, g.rt.mono (t1.trans t13), g.nx.mono (t1.trans t13), fun σ4 H4 ρ4 L4 t4 en4 ow4 ⟨L5, sb, h4⟩ => ⟨t13.trans t4, ρ4, L5, en4, ow4.sub sb, h4⟩⟩
  · have e : i = ds.length := by omega
    subst e
    exact .inl ⟨iter.stop H' L' t' ow' kp, g.nx σ' H' ρ' L' (t1.trans t') en' ow' (wd ρ' L' wi)⟩
/-- a while by a measure -/
def wWhile (t : DTT) (body : DTS) : DTS := fun K ρ L => ∃ W : Nat → Rho → List Itm → Prop, (∃ m, W m ρ L) ∧ ∀ m ρ' L', W m ρ' L' → t ρ' L' fun b L1 =>
  (b = true → body { K with nx := fun ρ2 L2 => ∃ m', m' < m ∧ W m' ρ2 L2, ct := fun ρ2 L2 => ∃ m', m' < m ∧ W m' ρ2 L2, bk := K.nx } ρ' L1) ∧ (b = false → K.nx ρ' L1)
theorem ds_while {X : Cx} {H0 : Hp} {pos : Pos} {c : Expr} {body : List Stmt} {t : DTT} {w : DTS} (hp : PassesOwn (model X.prog X.w) X.A X.env X.xe) (hc : DPT X H0 c t) (hb : DPSs X H0 body w) : DPS X H0 (.While c body [] pos) (wWhile t w) := by
  obtain ⟨tc, pc, lc⟩ := hc
  obtain ⟨tb, pb, lb⟩ := hb
  refine ⟨_, ps_while hp pc pb, ⟨fun σ H ρ L P Q t0 en ow h g => ?_⟩⟩
  obtain ⟨W, ⟨m0, w0⟩, step⟩ := h
  refine ⟨fun m σ' H' => TK H H' ∧ ∃ ρ' L', EnvD X.K H' σ' ρ' ∧ Own X.K H' L' ∧ W m ρ' L', ⟨m0, .refl H, ρ, L, en, ow, w0⟩, ?_⟩
  rintro m σ' H' ⟨t', ρ', L', en', ow', wm⟩
  refine lc.run σ' H' ρ' L' _ _ (t0.trans t') en' ow' (step m ρ' L' wm) fun b H1 L1 t1 ow1 h1 => ?_
  cases b with
  | true =>
    refine iteT ⟨fun σ2 H2 => TK H H2 ∧ ∃ m', m' < m ∧ ∃ ρ2 L2, EnvD X.K H2 σ2 ρ2 ∧ Own X.K H2 L2 ∧ W m' ρ2 L2, fun σ2 H2 ⟨t2, m', hm, r⟩ => ⟨m', hm, t2, r⟩, ?_⟩
    have tt := t'.trans t1
    refine lb.run σ' H1 ρ' L1 _ _ (t0.trans tt) (en'.mono t1) ow1 (h1.1 rfl) ⟨fun σ4 H4 ρ4 L4 t4 en4 ow4 ⟨m', hm, h4⟩ => ⟨tt.trans t4, m', hm, ρ4, L4, en4, ow4, h4⟩, g.rt.mono tt, g.nx.mono tt, fun σ4 H4 ρ4 L4 t4 en4 ow4 ⟨m', hm, h4⟩ => ⟨tt.trans t4, m', hm, ρ4, L4, en4, ow4, h4⟩⟩
  | false => exact iteF (g.nx σ' H1 ρ' L1 (t'.trans t1) (en'.mono t1) ow1 (h1.2 rfl))
end DL

set_option maxRecDepth 100000
set_option maxHeartbeats 2000000
namespace DL
open PySem L2

def r2or (r r' : R2) : R2 := fun x y H Q => r x y H Q ∨ r' x y H Q
theorem opr_or {X : Cx} {f : Value → Value → Sem Value} {r r' : R2} (h : OpR X f r) (h' : OpR X f r') : OpR X f (r2or r r') := by
  intro pins s σ H x y v u Q I rx ry q
  rcases q with q | q
  · exact h pins s σ H x y v u Q I rx ry q
  · exact h' pins s σ H x y v u Q I rx ry q

/-! ### + - * // % -/
section
variable {K : PySem.W.Frag} {X : Cx}
def rAddS : R2 := fun x y H Q => ∃ i j, x = .str i ∧ y = .str j ∧ i.length + j.length ≤ sizeLine ∧ Q (.str (i ++ j)) H
def rAddU (K : PySem.W.Frag) : R2 := r2or (rI0 fun i j => .int (i + j)) (r2or rAddS (r2or rCat (rCatA K)))
theorem opr_add : OpR X (binaryOp .Add) (rAddU X.K) := opr_or op_add (opr_or op_add_str (opr_or op_cat op_catA))
def fAdd : D → D → List Itm → DK → Prop
  | .int i, .int j, L, P => P (.int (i + j)) L
  | .str i, .str j, L, P => i.length + j.length ≤ sizeLine ∧ P (.str (i ++ j)) L
  | .ref p, .ref q, L, P => ∃ ds es, Itm.l p ds ∈ L ∧ Itm.l q es ∈ L ∧ ds.length + es.length ≤ sizeLine ∧ ∀ r, P (.ref r) (.l r (ds ++ es) :: L)
  | .tup ds, .tup es, L, P => ds.length + es.length ≤ sizeLine ∧ P (.tup (ds ++ es)) L
  | _, _, _, _ => False
theorem rop_add : ROp K (rAddU K) fAdd := by
  intro H x y dx dy L P Q ix iy ow h g
  cases dx with
  | int i =>
    cases dy with
    | int j => cases ix; cases iy; exact .inl ⟨i, j, rfl, rfl, g _ H (.int (i + j)) L (.refl H) ow rfl h⟩
    | _ => exact h.elim
  | str i =>
    cases dy with
    | str j => cases ix; cases iy; exact .inr (.inl ⟨i, j, rfl, rfl, h.1, g _ H (.str (i ++ j)) L (.refl H) ow rfl h.2⟩)
    | _ => exact h.elim
  | ref p =>
    cases dy with
    | ref q =>
      cases ix; cases iy
      obtain ⟨ds, es, h1, h2, hz, k⟩ := h
      obtain ⟨xs, e1, i1⟩ := ow.ok _ h1
      obtain ⟨ys, e2, i2⟩ := ow.ok _ h2
      refine .inr (.inr (.inl ⟨p, q, xs, ys, rfl, rfl, e1, e2, by rw [i1.length, i2.length]; exact hz, fun r hr => ?_⟩))
      have t := TK.new (o := HO.lst (xs ++ ys)) hr
      exact g _ _ (.ref r) _ t (ow.new (it := .l r (ds ++ es)) hr rfl ⟨_, upd_same, (i1.mono t).append (i2.mono t)⟩) rfl (k r)
    | _ => exact h.elim
  | tup ds =>
    cases dy with
    | tup es =>
      obtain ⟨p, xs, e1, s1, i1⟩ := ix
      obtain ⟨q, ys, e2, s2, i2⟩ := iy
      subst e1 e2
      refine .inr (.inr (.inr ⟨p, q, xs, ys, rfl, rfl, s1, s2, by rw [i1.length, i2.length]; exact h.1, fun e => ?_, fun e e' => ?_, fun e e' r hr => ?_⟩))
      · subst e
        have : ds = [] := List.length_eq_zero_iff.mp i1.length.symm
        subst this
        exact g _ H (.tup es) L (.refl H) ow ⟨q, ys, rfl, s2, i2⟩ (by simpa using h.2)
      · subst e'
        have : es = [] := List.length_eq_zero_iff.mp i2.length.symm
        subst this
        exact g _ H (.tup ds) L (.refl H) ow ⟨p, xs, rfl, s1, i1⟩ (by simpa using h.2)
      · have t := same_new (o := HO.tup (xs ++ ys)) hr
        exact g _ _ (.tup (ds ++ es)) L (.of_same t) (ow.same t) ⟨r, _, rfl, SqT.of upd_same, (i1.mono (.of_same t)).append (i2.mono (.of_same t))⟩ h.2
    | _ => exact h.elim
  | _ => exact h.elim
def fI (g : Int → Int → D) (C : Int → Int → Prop) : D → D → List Itm → DK → Prop
  | .int i, .int j, L, P => C i j ∧ P (g i j) L
  | _, _, _, _ => False
theorem rop_I {C : Int → Int → Prop} {g : Int → Int → V} {g' : Int → Int → D} (hg : ∀ i j H, Imm K H (g' i j) (g i j)) : ROp K (rI C g) (fI g' C) := by
  intro H x y dx dy L P Q ix iy ow h k
  cases dx with
  | int i =>
    cases dy with
    | int j => cases ix; cases iy; exact ⟨i, j, rfl, rfl, h.1, k _ H (g' i j) L (.refl H) ow (hg i j H) h.2⟩
    | _ => exact h.elim
  | _ => exact h.elim
def fI0 (g : Int → Int → D) : D → D → List Itm → DK → Prop
  | .int i, .int j, L, P => P (g i j) L
  | _, _, _, _ => False
theorem rop_I0 {g : Int → Int → V} {g' : Int → Int → D} (hg : ∀ i j H, Imm K H (g' i j) (g i j)) : ROp K (rI0 g) (fI0 g') := by
  intro H x y dx dy L P Q ix iy ow h k
  cases dx with
  | int i =>
    cases dy with
    | int j => cases ix; cases iy; exact ⟨i, j, rfl, rfl, k _ H (g' i j) L (.refl H) ow (hg i j H) h⟩
    | _ => exact h.elim
  | _ => exact h.elim
abbrev fSub := fI0 fun i j => .int (i - j)
abbrev fFdiv := fI (fun i j => .int (i / j)) CDiv
abbrev fMod := fI (fun i j => .int (i % j)) fun _ j => 0 < j
theorem rop_sub : ROp K (rI0 fun i j => .int (i - j)) fSub := rop_I0 fun _ _ _ => rfl
theorem rop_fdiv : ROp K (rI CDiv fun i j => .int (i / j)) fFdiv := rop_I fun _ _ _ => rfl
theorem rop_mod : ROp K (rI (fun _ j => 0 < j) fun i j => .int (i % j)) fMod := rop_I fun _ _ _ => rfl
/-- s * n -/
def repS (x : Str) (n : Int) : Str := ⟨((List.replicate n.toNat x.cps.toList).flatten).toArray⟩
theorem foldl_app {α : Type} : ∀ (l : List (Array α)) (a : Array α), l.foldl (· ++ ·) a = a ++ ((l.map Array.toList).flatten).toArray
  | [], a => by simp
  | x :: l, a => by
    rw [List.foldl_cons, foldl_app l (a ++ x)]
    apply Array.ext'
    simp
theorem rep_eq (x : Str) (k : Nat) : (List.replicate k x.cps).foldl (· ++ ·) #[] = ((List.replicate k x.cps.toList).flatten).toArray := by
  rw [foldl_app]
  simp
def rRepS : R2 := fun x y H Q => ∃ z k, x = .str z ∧ y = .int k ∧ 0 ≤ k ∧ k ≤ 16777216 ∧ z.length * k.toNat ≤ sizeLine ∧ Q (.str (repS z k)) H
theorem op_repS : OpR X (binaryOp .Mult) rRepS := by
  intro pins s σ H x y v u Q I rx ry h
  obtain ⟨z, k, rfl, rfl, h0, h1, hz, q⟩ := h
  obtain ⟨t, rfl⟩ := rx
  obtain ⟨t', rfl⟩ := ry
  have hs := sizeLine_eq
  refine PySem.P.mul_str (by rw [decide_eq_false (by omega), decide_eq_false (by omega)] <;> rfl) (fun h2 h3 h4 => ?_) (fun _ _ => ?_) ?_
  · have hk : 0 < k := by omega
    have e1 : (z.length : Int) * k ≤ 16777216 := by
      have : ((z.length * k.toNat : Nat) : Int) ≤ 16777216 := by omega
      rw [Int.natCast_mul, Int.toNat_of_nonneg h0] at this
      exact this
    have e2 : (z.length : Int) ≤ (2 ^ 63 - 1) / k := by
      rw [Int.le_ediv_iff_mul_le hk]
      omega
    omega
  · unfold Builtin.Str.tooLong
    simp
    omega
  · split
    · rename_i h2
      have : k = 0 := by omega
      subst this
      exact ⟨by show (0 : Nat) ≤ _; omega, ⟨.str (repS z 0), H, I.tok _, ⟨_, rfl⟩, q⟩⟩
    · split
      · rename_i h2 h3
        have hc : k = 1 ∨ z.length = 0 := by simpa using h3
        have e : repS z k = z := by
          unfold repS
          obtain ⟨c⟩ := z
          congr 1
          rcases hc with e | e
          · subst e
            simp
          · have : c = #[] := by simpa [Str.length] using e
            subst this
            simp
        rw [e] at q
        exact ⟨.str z, H, I, ⟨t, rfl⟩, q⟩
      · rw [rep_eq]
        refine ⟨?_, ⟨.str (repS z k), H, I.tok _, ⟨_, rfl⟩, q⟩⟩
        show (((List.replicate k.toNat z.cps.toList).flatten).toArray).size ≤ _
        have : (((List.replicate k.toNat z.cps.toList).flatten).toArray).size = k.toNat * z.length := by
          simp [Str.length]
        rw [this, Nat.mul_comm]
        omega
end
end DL

set_option maxRecDepth 100000
set_option maxHeartbeats 2000000
namespace DL
open PySem L2
section
variable {K : PySem.W.Frag} {X : Cx}
/-! ### * -/
def rMulU (K : PySem.W.Frag) : R2 := r2or (rI CMul fun i j => .int (i * j)) (r2or rRepS (r2or rRep (rRepT K)))
theorem opr_mul : OpR X (binaryOp .Mult) (rMulU X.K) := opr_or op_mul (opr_or op_repS (opr_or op_rep op_repT))
def fMul : D → D → List Itm → DK → Prop
  | .int i, .int j, L, P => CMul i j ∧ P (.int (i * j)) L
  | .str z, .int k, L, P => 0 ≤ k ∧ k ≤ 16777216 ∧ z.length * k.toNat ≤ sizeLine ∧ P (.str (repS z k)) L
  | .ref p, .int k, L, P => ∃ ds, Itm.l p ds ∈ L ∧ 0 ≤ k ∧ k ≤ 16777216 ∧ ds.length * k.toNat ≤ sizeLine ∧ ∀ r, P (.ref r) (.l r ((List.replicate k.toNat ds).flatten) :: L)
  | .tup ds, .int k, L, P => ds ≠ [] ∧ 2 ≤ k ∧ k ≤ 1000 ∧ ds.length ≤ 1000 ∧ P (.tup ((List.replicate k.toNat ds).flatten)) L
  | _, _, _, _ => False
theorem immL_rep {H : Hp} {ds : List D} {xs : List V} (h : ImmL K H ds xs) : ∀ n : Nat, ImmL K H ((List.replicate n ds).flatten) ((List.replicate n xs).flatten)
  | 0 => by simp [ImmL]
  | n + 1 => by rw [List.replicate_succ, List.replicate_succ, List.flatten_cons, List.flatten_cons]; exact h.append (immL_rep h n)
theorem rop_mul : ROp K (rMulU K) fMul := by
  intro H x y dx dy L P Q ix iy ow h g
  cases dx with
  | int i =>
    cases dy with
    | int j => cases ix; cases iy; exact .inl ⟨i, j, rfl, rfl, h.1, g _ H (.int (i * j)) L (.refl H) ow rfl h.2⟩
    | _ => exact h.elim
  | str z =>
    cases dy with
    | int k => cases ix; cases iy; exact .inr (.inl ⟨z, k, rfl, rfl, h.1, h.2.1, h.2.2.1, g _ H (.str (repS z k)) L (.refl H) ow rfl h.2.2.2⟩)
    | _ => exact h.elim
  | ref p =>
    cases dy with
    | int k =>
      cases ix; cases iy
      obtain ⟨ds, h1, h0, hk, hz, q⟩ := h
      obtain ⟨xs, e1, i1⟩ := ow.ok _ h1
      refine .inr (.inr (.inl ⟨p, k, xs, rfl, rfl, e1, by omega, by omega, by rw [i1.length]; exact hz, fun r hr => ?_⟩))
      have t := TK.new (o := HO.lst ((List.replicate k.toNat xs).flatten)) hr
      exact g _ _ (.ref r) _ t (ow.new (it := .l r ((List.replicate k.toNat ds).flatten)) hr rfl ⟨_, upd_same, immL_rep (i1.mono t) _⟩) rfl (q r)
    | _ => exact h.elim
  | tup ds =>
    cases dy with
    | int k =>
      obtain ⟨p, xs, e1, s1, i1⟩ := ix
      cases iy
      subst e1
      obtain ⟨h0, h1, h2, h3, q⟩ := h
      refine .inr (.inr (.inr ⟨p, k, xs, rfl, rfl, s1, fun e => h0 ?_, h1, h2, by rw [i1.length]; exact h3, fun r hr => ?_⟩))
      · subst e
        exact List.length_eq_zero_iff.mp i1.length.symm
      · have t := same_new (o := HO.tup ((List.replicate k.toNat xs).flatten)) hr
        exact g _ _ (.tup ((List.replicate k.toNat ds).flatten)) L (.of_same t) (ow.same t) ⟨r, _, rfl, SqT.of upd_same, immL_rep (i1.mono (.of_same t)) _⟩ q
    | _ => exact h.elim
  | _ => exact h.elim

/-! ### order -/
abbrev fLt := fI0 fun i j => .bl (decide (i < j))
abbrev fLe := fI0 fun i j => .bl (decide (i ≤ j))
abbrev fGt := fI0 fun i j => .bl (decide (j < i))
abbrev fGe := fI0 fun i j => .bl (decide (j ≤ i))
theorem rop_lt : ROp K (rI0 fun i j => .bl (decide (i < j))) fLt := rop_I0 fun _ _ _ => rfl
theorem rop_le : ROp K (rI0 fun i j => .bl (decide (i ≤ j))) fLe := rop_I0 fun _ _ _ => rfl
theorem rop_gt : ROp K (rI0 fun i j => .bl (decide (j < i))) fGt := rop_I0 fun _ _ _ => rfl
theorem rop_ge : ROp K (rI0 fun i j => .bl (decide (j ≤ i))) fGe := rop_I0 fun _ _ _ => rfl

/-! ### == != -/
mutual
inductive PyD (L : List Itm) : D → PyData → Prop
  | non : PyD L .non .none
  | bl (b : Bool) : PyD L (.bl b) (.bool b)
  | int (i : Int) : PyD L (.int i) (.int i)
  | str (x : Str) : PyD L (.str x) (.str x)
  | lst {a : Addr} {ds : List D} {es : List PyData} : keepL a ds L → PyDL L ds es → PyD L (.ref a) (.list es)
  | tup {ds : List D} {es : List PyData} : PyDL L ds es → PyD L (.tup ds) (.tuple es)
inductive PyDL (L : List Itm) : List D → List PyData → Prop
  | nil : PyDL L [] []
  | cons {d : D} {ds : List D} {e : PyData} {es : List PyData} : PyD L d e → PyDL L ds es → PyDL L (d :: ds) (e :: es)
end
mutual
theorem dp_of {H : Hp} {L : List Itm} (ow : Own K H L) : ∀ (e : PyData) (d : D) (v : V), PyD L d e → Imm K H d v → Dp K H v e
  | .none, _, _, .non, h => by cases h; exact .non
  | .bool b, _, _, .bl _, h => by cases h; exact .bl b
  | .int i, _, _, .int _, h => by cases h; exact .int i
  | .str x, _, _, .str _, h => by cases h; exact .str x
  | .list es, _, _, .lst k r, h => by
    cases h
    obtain ⟨xs, s, im⟩ := k.sql ow
    exact .lst s (dp_ofL ow es _ xs r im)
  | .tuple es, _, _, .tup r, ⟨p, xs, e, s, im⟩ => by
    subst e
    exact .tup s (dp_ofL ow es _ xs r im)
theorem dp_ofL {H : Hp} {L : List Itm} (ow : Own K H L) : ∀ (es : List PyData) (ds : List D) (vs : List V), PyDL L ds es → ImmL K H ds vs → DpAll K H vs es
  | [], _, _, .nil, h => by cases h; exact .nil
  | e :: es, _, _, .cons r rs, ⟨x, xs, q, h1, h2⟩ => by
    subst q
    exact .cons (dp_of ow e _ x r h1) (dp_ofL ow es _ xs rs h2)
end
/-- scalars -/
def eqS : D → D → Option Bool
  | .int i, .int j => some (decide (i = j))
  | .str i, .str j => some (decide (i = j))
  | .bl i, .bl j => some (decide (i = j))
  | .non, .non => some true
  | .non, .int _ => some false
  | .int _, .non => some false
  | .non, .str _ => some false
  | .str _, .non => some false
  | .int _, .str _ => some false
  | .str _, .int _ => some false
  | _, _ => none
theorem eqS_ok {H : Hp} {dx dy : D} {x y : V} {b : Bool} (e : eqS dx dy = some b) (ix : Imm K H dx x) (iy : Imm K H dy y) : scal x y = true ∧ decide (x = y) = b := by
  cases dx <;> cases dy <;> first
    | (exfalso; simp [eqS] at e; done)
    | (simp only [eqS, Option.some.injEq] at e; subst e; cases ix; cases iy; refine ⟨rfl, ?_⟩; first | rfl | simp)
def rEqU (K : PySem.W.Frag) : R2 := r2or rEq (rEqD K)
def rNeU (K : PySem.W.Frag) : R2 := r2or rNe (rNeD K)
theorem opr_eq (hu : X.A.units + 64 < cLine) : OpR X (compareOp .Eq) (rEqU X.K) := opr_or op_eq (op_eqD hu)
theorem opr_ne (hu : X.A.units + 64 < cLine) : OpR X (compareOp .NotEq) (rNeU X.K) := opr_or op_ne (op_neD hu)
def fEqG (s : Bool → Bool) (x y : D) (L : List Itm) (P : DK) : Prop := match eqS x y with
  | some b => P (.bl (s b)) L
  | none => ∃ d e, PyD L x d ∧ PyD L y e ∧ SeqAt.shaped d = true ∧ SeqAt.shaped e = true ∧ P (.bl (s (PyData.eqv d e))) L
abbrev fEq := fEqG fun b => b
abbrev fNe := fEqG fun b => !b
theorem rop_eq : ROp K (rEqU K) fEq := by
  intro H x y dx dy L P Q ix iy ow h g
  unfold fEq fEqG at h
  split at h
  · rename_i b e
    obtain ⟨h1, h2⟩ := eqS_ok e ix iy
    exact .inl ⟨h1, by rw [h2]; exact g _ H (.bl b) L (.refl H) ow rfl h⟩
  · obtain ⟨d, e, h1, h2, h3, h4, q⟩ := h
    exact .inr ⟨d, e, dp_of ow d dx x h1 ix, dp_of ow e dy y h2 iy, h3, h4, g _ H (.bl _) L (.refl H) ow rfl q⟩
theorem rop_ne : ROp K (rNeU K) fNe := by
  intro H x y dx dy L P Q ix iy ow h g
  unfold fNe fEqG at h
  split at h
  · rename_i b e
    obtain ⟨h1, h2⟩ := eqS_ok e ix iy
    exact .inl ⟨h1, by rw [h2]; exact g _ H (.bl (!b)) L (.refl H) ow rfl h⟩
  · obtain ⟨d, e, h1, h2, h3, h4, q⟩ := h
    exact .inr ⟨d, e, dp_of ow d dx x h1 ix, dp_of ow e dy y h2 iy, h3, h4, g _ H (.bl _) L (.refl H) ow rfl q⟩
/-! ### is -/
def isN : D → Bool
  | .non => true
  | _ => false
def fIsG (s : Bool → Bool) (x y : D) (L : List Itm) (P : DK) : Prop := match y with
  | .non => P (.bl (s (isN x))) L
  | _ => False
abbrev fIs := fIsG fun b => b
abbrev fIsNot := fIsG fun b => !b
theorem isN_ok {H : Hp} {d : D} {v : V} (h : Imm K H d v) : decide (v = V.non) = isN d := by
  cases d with
  | tup ds => obtain ⟨p, xs, e, _⟩ := h; subst e; simp [isN]
  | _ => cases h; simp [isN]
theorem rop_is : ROp K (fun x y H Q => y = .non ∧ Q (.bl (decide (x = .non))) H) fIs := by
  intro H x y dx dy L P Q ix iy ow h g
  cases dy with
  | non => cases iy; exact ⟨rfl, by rw [isN_ok ix]; exact g _ H (.bl _) L (.refl H) ow rfl h⟩
  | _ => exact h.elim
theorem rop_isnot : ROp K (fun x y H Q => y = .non ∧ Q (.bl (!decide (x = .non))) H) fIsNot := by
  intro H x y dx dy L P Q ix iy ow h g
  cases dy with
  | non => cases iy; exact ⟨rfl, by rw [isN_ok ix]; exact g _ H (.bl _) L (.refl H) ow rfl h⟩
  | _ => exact h.elim

/-! ### in -/
def flatD : D → Bool
  | .non => true
  | .bl _ => true
  | .int _ => true
  | .str _ => true
  | _ => false
def eqF : D → D → Bool
  | .non, .non => true
  | .bl a, .bl b => a == b
  | .bl a, .int b => (if a then 1 else 0) == b
  | .int a, .bl b => a == (if b then 1 else 0)
  | .int a, .int b => a == b
  | .str a, .str b => a == b
  | _, _ => false
theorem eqF_ok {H : Hp} {d e : D} {v w : V} (h : Imm K H d v) (k : Imm K H e w) (f : flatD d = true) (f' : flatD e = true) : eqV v w = eqF d e := by
  cases d <;> cases e <;> first
    | (exact absurd f Bool.false_ne_true)
    | (exact absurd f' Bool.false_ne_true)
    | (cases h; cases k; rfl)
theorem flat_ok {H : Hp} {d : D} {v : V} (h : Imm K H d v) (f : flatD d = true) : flatV v = true := by
  cases d <;> first
    | (exact absurd f Bool.false_ne_true)
    | (cases h; rfl)
theorem flat_all {H : Hp} : ∀ {ds : List D} {vs : List V}, ImmL K H ds vs → ds.all flatD = true → vs.all flatV = true
  | [], _, h, _ => by cases h; rfl
  | d :: ds, _, ⟨x, r, e, h1, h2⟩, f => by
    subst e
    rw [List.all_cons, Bool.and_eq_true] at f ⊢
    exact ⟨flat_ok h1 f.1, flat_all h2 f.2⟩
def inD (x : D) (ds : List D) : Bool := ds.any fun d => eqF d x
theorem inD_ok {H : Hp} {d : D} {v : V} (h : Imm K H d v) (f : flatD d = true) : ∀ {ds : List D} {vs : List V}, ImmL K H ds vs → ds.all flatD = true → inV v vs = inD d ds
  | [], _, q, _ => by cases q; rfl
  | e :: ds, _, ⟨x, r, q, h1, h2⟩, g => by
    subst q
    rw [List.all_cons, Bool.and_eq_true] at g
    show (eqV x v || inV v r) = (eqF e d || inD d ds)
    rw [eqF_ok h1 h g.1 f, inD_ok h f h2 g.2]
def rInS (s : Bool → Bool) : R2 := fun x y H Q => ∃ i j, x = .str i ∧ y = .str j ∧ Q (.bl (s (!(Builtin.Str.occurrences j i 0 j.length 1).isEmpty))) H
def rInU (K : PySem.W.Frag) : R2 := r2or (rIn K false) (rInS fun b => b)
def rNotInU (K : PySem.W.Frag) : R2 := r2or (rIn K true) (rInS fun b => !b)
theorem opr_in : OpR X (compareOp .In) (rInU X.K) := opr_or op_in_seq op_in_str
theorem opr_notin : OpR X (compareOp .NotIn) (rNotInU X.K) := opr_or op_notIn_seq op_notIn_str
def fInG (s : Bool → Bool) : D → D → List Itm → DK → Prop
  | .str i, .str j, L, P => P (.bl (s (!(Builtin.Str.occurrences j i 0 j.length 1).isEmpty))) L
  | x, .ref p, L, P => ∃ ds, keepL p ds L ∧ flatD x = true ∧ ds.all flatD = true ∧ P (.bl (s (inD x ds))) L
  | x, .tup ds, L, P => flatD x = true ∧ ds.all flatD = true ∧ P (.bl (s (inD x ds))) L
  | _, _, _, _ => False
abbrev fIn := fInG fun b => b
abbrev fNotIn := fInG fun b => !b
theorem rop_inG {neg : Bool} {s : Bool → Bool} (hs : ∀ b, (if neg = true then !b else b) = s b) : ROp K (r2or (rIn K neg) (rInS s)) (fInG s) := by
  intro H x y dx dy L P Q ix iy ow h g
  cases dy with
  | str j =>
    cases dx with
    | str i => cases ix; cases iy; exact .inr ⟨i, j, rfl, rfl, g _ H (.bl _) L (.refl H) ow rfl h⟩
    | _ => exact h.elim
  | ref p =>
    have h' : ∃ ds, keepL p ds L ∧ flatD dx = true ∧ ds.all flatD = true ∧ P (.bl (s (inD dx ds))) L := by
      cases dx <;> exact h
    obtain ⟨ds, k, f1, f2, q⟩ := h'
    cases iy
    obtain ⟨xs, sq, im⟩ := k.sql ow
    exact .inl ⟨p, xs, rfl, .inl sq, flat_ok ix f1, flat_all im f2, g _ H (.bl (s (inD dx ds))) L (.refl H) ow (by show V.bl _ = V.bl _; rw [inD_ok ix f1 im f2, ← hs]) q⟩
  | tup ds =>
    have h' : flatD dx = true ∧ ds.all flatD = true ∧ P (.bl (s (inD dx ds))) L := by
      cases dx <;> exact h
    obtain ⟨f1, f2, q⟩ := h'
    obtain ⟨p, xs, e, sq, im⟩ := iy
    subst e
    exact .inl ⟨p, xs, rfl, .inr sq, flat_ok ix f1, flat_all im f2, g _ H (.bl (s (inD dx ds))) L (.refl H) ow (by show V.bl _ = V.bl _; rw [inD_ok ix f1 im f2, ← hs]) q⟩
  | _ => cases dx <;> exact h.elim
theorem rop_in : ROp K (rInU K) fIn := rop_inG fun b => rfl
theorem rop_notin : ROp K (rNotInU K) fNotIn := rop_inG fun b => rfl

/-! ### a[i], a[lo:hi] -/
theorem immL_atI {H : Hp} {ds : List D} {xs : List V} {i : Int} {d : D} (h : ImmL K H ds xs) (e : atI ds i = some d) : ∃ x, atI xs i = some x ∧ Imm K H d x := by
  unfold atI at e ⊢
  rw [h.length]
  cases q : ixN ds.length i with
  | none => rw [q] at e; cases e
  | some j =>
    rw [q] at e
    exact h.get (i := j) e
def fIx : D → D → List Itm → DK → Prop
  | .ref p, .int i, L, P => ∃ ds d, keepL p ds L ∧ atI ds i = some d ∧ P d L
  | .tup ds, .int i, L, P => ∃ d, atI ds i = some d ∧ P d L
  | .str s, .int i, L, P => ∃ c, s.length ≤ sizeLine ∧ atI s.cps.toList i = some c ∧ P (.str ⟨#[c]⟩) L
  | _, _, _, _ => False
theorem rop_ix : ROp K (rIx K) fIx := by
  intro H x y dx dy L P Q ix iy ow h g
  cases dx with
  | ref p =>
    cases dy with
    | int i =>
      cases ix; cases iy
      obtain ⟨ds, d, k, e, q⟩ := h
      obtain ⟨xs, sq, im⟩ := k.sql ow
      obtain ⟨v, e1, i1⟩ := immL_atI im e
      exact .inl ⟨p, xs, i, v, rfl, rfl, sq, e1, g _ H d L (.refl H) ow i1 q⟩
    | _ => exact h.elim
  | tup ds =>
    cases dy with
    | int i =>
      cases iy
      obtain ⟨p, xs, e, sq, im⟩ := ix
      subst e
      obtain ⟨d, e, q⟩ := h
      obtain ⟨v, e1, i1⟩ := immL_atI im e
      exact .inr (.inl ⟨p, xs, i, v, rfl, rfl, sq, e1, g _ H d L (.refl H) ow i1 q⟩)
    | _ => exact h.elim
  | str s =>
    cases dy with
    | int i =>
      cases ix; cases iy
      obtain ⟨c, hz, e, q⟩ := h
      exact .inr (.inr ⟨s, i, c, rfl, rfl, hz, e, g _ H (.str ⟨#[c]⟩) L (.refl H) ow rfl q⟩)
    | _ => exact h.elim
  | _ => exact h.elim
def cutD (xs : List D) (lo hi : Option Int) : List D := (xs.drop (HT.sIx xs.length 0 lo)).take (HT.sIx xs.length xs.length hi - HT.sIx xs.length 0 lo)
theorem immL_cut {H : Hp} {ds : List D} {xs : List V} (lo hi : Option Int) (h : ImmL K H ds xs) : ImmL K H (cutD ds lo hi) (cutV xs lo hi) := by
  unfold cutD cutV
  rw [h.length]
  exact (h.drop _).take _
def rSlU (K : PySem.W.Frag) : V → Option Int → Option Int → Hp → VK → Prop := fun x lo hi H Q => rSlL K x lo hi H Q ∨ rSlA K x lo hi H Q ∨ rSlS x lo hi H Q
theorem slr_u : SlR X (rSlU X.K) := sl_list.or (sl_tupA.or sl_str)
def fSl : D → Option Int → Option Int → List Itm → DK → Prop
  | .ref p, lo, hi, L, P => ∃ ds, keepL p ds L ∧ ∀ q, P (.ref q) (.l q (cutD ds lo hi) :: L)
  | .tup ds, lo, hi, L, P => P (.tup (cutD ds lo hi)) L
  | .str s, lo, hi, L, P => s.length ≤ sizeLine ∧ P (.str (cutS s lo hi)) L
  | _, _, _, _, _ => False
theorem rsl_u {H : Hp} {x : V} {dx : D} {lo hi : Option Int} {L : List Itm} {P : DK} {Q : VK} (ix : Imm K H dx x) (ow : Own K H L) (h : fSl dx lo hi L P) (g : Goes K H P Q) : rSlU K x lo hi H Q := by
  cases dx with
  | ref p =>
    cases ix
    obtain ⟨ds, k, q⟩ := h
    obtain ⟨xs, sq, im⟩ := k.sql ow
    refine .inl ⟨p, xs, rfl, sq, fun r hr => ?_⟩
    have t := TK.new (o := HO.lst (cutV xs lo hi)) hr
    exact g _ _ (.ref r) _ t (ow.new (it := .l r (cutD ds lo hi)) hr rfl ⟨_, upd_same, immL_cut lo hi (im.mono t)⟩) rfl (q r)
  | tup ds =>
    obtain ⟨p, xs, e, sq, im⟩ := ix
    subst e
    refine .inr (.inl ⟨p, xs, rfl, sq, fun hw => ?_, fun _ r hr => ?_⟩)
    · have e : cutD ds lo hi = ds := by
        unfold cutD
        rw [← im.length, hw.1, hw.2]
        simp [im.length]
      have h' : P (.tup (cutD ds lo hi)) L := h
      rw [e] at h'
      exact g _ H (.tup ds) L (.refl H) ow ⟨p, xs, rfl, sq, im⟩ h'
    · have t := same_new (o := HO.tup (cutV xs lo hi)) hr
      exact g _ _ (.tup (cutD ds lo hi)) L (.of_same t) (ow.same t) ⟨r, _, rfl, SqT.of upd_same, immL_cut lo hi (im.mono (.of_same t))⟩ h
  | str s =>
    cases ix
    exact .inr (.inr ⟨s, rfl, h.1, g _ H (.str (cutS s lo hi)) L (.refl H) ow rfl h.2⟩)
  | _ => exact h.elim
end
def wNoPart : DTO := fun _ L P => P none L
def wPart (w : DTE) : DTO := fun ρ L P => w ρ L fun d L1 => ∃ i, d = .int i ∧ P (some i) L1
def wSl (w : DTE) (lo hi : DTO) : DTE := fun ρ L P => w ρ L fun d L1 => lo ρ L1 fun l L2 => hi ρ L2 fun h L3 => fSl d l h L3 P
section
variable {X : Cx} {H0 : Hp} {pos p2 : Pos} {e a b : Expr} {lo hi : Option Expr} {w wa wb : DTE} {tl th : DTO}
theorem do_none : DPO X H0 none wNoPart := ⟨_, po_none, ⟨fun σ H ρ L P Q t0 en ow h g => g none H L (.refl H) ow h⟩⟩
theorem do_some (h : DPE X H0 e w) : DPO X H0 (some e) (wPart w) := by
  obtain ⟨t, p, l⟩ := h
  refine ⟨_, po_some p, ⟨fun σ H ρ L P Q t0 en ow h g => ?_⟩⟩
  refine l.run σ H ρ L _ _ t0 en ow h fun v H1 d L1 t1 ow1 i1 h1 => ?_
  obtain ⟨i, e, q⟩ := h1
  subst e
  exact ⟨i, i1, g (some i) H1 L1 t1 ow1 q⟩
theorem d_slice (he : DPE X H0 e w) (hl : DPO X H0 lo tl) (hh : DPO X H0 hi th) : DPE X H0 (.Subscript e (.Slice lo hi none p2) pos) (wSl w tl th) := by
  obtain ⟨t, p, l⟩ := he
  obtain ⟨tl', pl, ll⟩ := hl
  obtain ⟨th', ph, lh⟩ := hh
  refine ⟨_, pe_slice slr_u p pl ph, ⟨fun σ H ρ L P Q t0 en ow h g => ?_⟩⟩
  refine l.run σ H ρ L _ _ t0 en ow h fun v H1 d L1 t1 ow1 i1 h1 => ?_
  refine ll.run σ H1 ρ L1 _ _ (t0.trans t1) (en.mono t1) ow1 h1 fun o H2 L2 t2 ow2 h2 => ?_
  refine lh.run σ H2 ρ L2 _ _ ((t0.trans t1).trans t2) ((en.mono t1).mono t2) ow2 h2 fun o' H3 L3 t3 ow3 h3 => ?_
  exact rsl_u ((i1.mono t2).mono t3) ow3 h3 (g.mono ((t1.trans t2).trans t3))
theorem d_ix (ha : DPE X H0 a wa) (hb : DPE X H0 b wb) (hs : PlainIx b := by exact fun _ _ => rfl) : DPE X H0 (.Subscript a b pos) (wOp fIx wa wb) := by
  obtain ⟨ta, pa, la⟩ := ha
  obtain ⟨tb, pb, lb⟩ := hb
  refine ⟨_, pe_ix ix_seq pa pb hs, ⟨fun σ H ρ L P Q t0 en ow h g => ?_⟩⟩
  refine la.run σ H ρ L _ _ t0 en ow h fun x H1 dx L1 t1 ow1 i1 h1 => ?_
  refine lb.run σ H1 ρ L1 _ _ (t0.trans t1) (en.mono t1) ow1 h1 fun y H2 dy L2 t2 ow2 i2 h2 => ?_
  exact rop_ix H2 x y dx dy L2 _ _ (i1.mono t2) i2 ow2 h2 (g.mono (t1.trans t2))
/-- the operators in short -/
theorem d_add (ha : DPE X H0 a wa) (hb : DPE X H0 b wb) : DPE X H0 (.BinOp a .Add b pos) (wOp fAdd wa wb) := d_op opr_add rop_add ha hb
theorem d_sub (ha : DPE X H0 a wa) (hb : DPE X H0 b wb) : DPE X H0 (.BinOp a .Sub b pos) (wOp fSub wa wb) := d_op op_sub rop_sub ha hb
theorem d_mul (ha : DPE X H0 a wa) (hb : DPE X H0 b wb) : DPE X H0 (.BinOp a .Mult b pos) (wOp fMul wa wb) := d_op opr_mul rop_mul ha hb
theorem d_fdiv (ha : DPE X H0 a wa) (hb : DPE X H0 b wb) : DPE X H0 (.BinOp a .FloorDiv b pos) (wOp fFdiv wa wb) := d_op op_fdiv rop_fdiv ha hb
theorem d_mod (ha : DPE X H0 a wa) (hb : DPE X H0 b wb) : DPE X H0 (.BinOp a .Mod b pos) (wOp fMod wa wb) := d_op op_mod rop_mod ha hb
abbrev fNeg : D → List Itm → DK → Prop := fun d L P => match d with
  | .int i => P (.int (-i)) L
  | _ => False
theorem d_neg (ha : DPE X H0 a wa) : DPE X H0 (.UnaryOp .USub a pos) (wUn fNeg wa) := d_un un_neg (fun H x dx L P Q ix ow h g => by
  cases dx with
  | int i => cases ix; exact ⟨i, rfl, g _ H (.int (-i)) L (.refl H) ow rfl h⟩
  | _ => exact h.elim) ha
theorem d_lt (ha : DPE X H0 a wa) (hb : DPE X H0 b wb) : DPE X H0 (.Compare a [.Lt] [b] pos) (wOp fLt wa wb) := d_cmp op_lt rop_lt (nomark _) ha hb
theorem d_le (ha : DPE X H0 a wa) (hb : DPE X H0 b wb) : DPE X H0 (.Compare a [.LtE] [b] pos) (wOp fLe wa wb) := d_cmp op_le rop_le (nomark _) ha hb
theorem d_gt (ha : DPE X H0 a wa) (hb : DPE X H0 b wb) : DPE X H0 (.Compare a [.Gt] [b] pos) (wOp fGt wa wb) := d_cmp op_gt rop_gt (nomark _) ha hb
theorem d_ge (ha : DPE X H0 a wa) (hb : DPE X H0 b wb) : DPE X H0 (.Compare a [.GtE] [b] pos) (wOp fGe wa wb) := d_cmp op_ge rop_ge (nomark _) ha hb
theorem d_eq (hu : X.A.units + 64 < cLine) (ha : DPE X H0 a wa) (hb : DPE X H0 b wb) : DPE X H0 (.Compare a [.Eq] [b] pos) (wOp fEq wa wb) := d_cmp (opr_eq hu) rop_eq (nomark _) ha hb
theorem d_ne (hu : X.A.units + 64 < cLine) (ha : DPE X H0 a wa) (hb : DPE X H0 b wb) : DPE X H0 (.Compare a [.NotEq] [b] pos) (wOp fNe wa wb) := d_cmp (opr_ne hu) rop_ne (nomark _) ha hb
theorem d_is (ha : DPE X H0 a wa) (hb : DPE X H0 b wb) : DPE X H0 (.Compare a [.Is] [b] pos) (wOp fIs wa wb) := d_cmp op_isN rop_is (nomark _) ha hb
theorem d_isnot (ha : DPE X H0 a wa) (hb : DPE X H0 b wb) : DPE X H0 (.Compare a [.IsNot] [b] pos) (wOp fIsNot wa wb) := d_cmp op_notN rop_isnot (nomark _) ha hb
theorem d_in (hm : behindInMarks .In b = false) (ha : DPE X H0 a wa) (hb : DPE X H0 b wb) : DPE X H0 (.Compare a [.In] [b] pos) (wOp fIn wa wb) := d_cmp opr_in rop_in hm ha hb
theorem d_notin (hm : behindInMarks .NotIn b = false) (ha : DPE X H0 a wa) (hb : DPE X H0 b wb) : DPE X H0 (.Compare a [.NotIn] [b] pos) (wOp fNotIn wa wb) := d_cmp opr_notin rop_notin hm ha hb
theorem dt_lt (ha : DPE X H0 a wa) (hb : DPE X H0 b wb) : DPT X H0 (.Compare a [.Lt] [b] pos) (wB (wOp fLt wa wb)) := dt_cmp op_lt rop_lt (nomark _) ha hb
theorem dt_le (ha : DPE X H0 a wa) (hb : DPE X H0 b wb) : DPT X H0 (.Compare a [.LtE] [b] pos) (wB (wOp fLe wa wb)) := dt_cmp op_le rop_le (nomark _) ha hb
theorem dt_gt (ha : DPE X H0 a wa) (hb : DPE X H0 b wb) : DPT X H0 (.Compare a [.Gt] [b] pos) (wB (wOp fGt wa wb)) := dt_cmp op_gt rop_gt (nomark _) ha hb
theorem dt_ge (ha : DPE X H0 a wa) (hb : DPE X H0 b wb) : DPT X H0 (.Compare a [.GtE] [b] pos) (wB (wOp fGe wa wb)) := dt_cmp op_ge rop_ge (nomark _) ha hb
theorem dt_eq (hu : X.A.units + 64 < cLine) (ha : DPE X H0 a wa) (hb : DPE X H0 b wb) : DPT X H0 (.Compare a [.Eq] [b] pos) (wB (wOp fEq wa wb)) := dt_cmp (opr_eq hu) rop_eq (nomark _) ha hb
theorem dt_ne (hu : X.A.units + 64 < cLine) (ha : DPE X H0 a wa) (hb : DPE X H0 b wb) : DPT X H0 (.Compare a [.NotEq] [b] pos) (wB (wOp fNe wa wb)) := dt_cmp (opr_ne hu) rop_ne (nomark _) ha hb
theorem dt_is (ha : DPE X H0 a wa) (hb : DPE X H0 b wb) : DPT X H0 (.Compare a [.Is] [b] pos) (wB (wOp fIs wa wb)) := dt_cmp op_isN rop_is (nomark _) ha hb
theorem dt_isnot (ha : DPE X H0 a wa) (hb : DPE X H0 b wb) : DPT X H0 (.Compare a [.IsNot] [b] pos) (wB (wOp fIsNot wa wb)) := dt_cmp op_notN rop_isnot (nomark _) ha hb
theorem dt_in (hm : behindInMarks .In b = false) (ha : DPE X H0 a wa) (hb : DPE X H0 b wb) : DPT X H0 (.Compare a [.In] [b] pos) (wB (wOp fIn wa wb)) := dt_cmp opr_in rop_in hm ha hb
theorem dt_notin (hm : behindInMarks .NotIn b = false) (ha : DPE X H0 a wa) (hb : DPE X H0 b wb) : DPT X H0 (.Compare a [.NotIn] [b] pos) (wB (wOp fNotIn wa wb)) := dt_cmp opr_notin rop_notin hm ha hb
end
end DL

set_option maxRecDepth 100000
set_option maxHeartbeats 2000000
namespace DL
open PySem L2

/-! ### built-in calls -/
section
variable {K : PySem.W.Frag} {X : Cx}
def lenD : D → List Itm → DK → Prop
  | .str s, L, P => s.length ≤ sizeLine ∧ P (.int s.length) L
  | .ref p, L, P => ∃ ds, keepL p ds L ∧ P (.int ds.length) L
  | .tup ds, L, P => P (.int ds.length) L
  | _, _, _ => False
def fLen (xs : List D) (L : List Itm) (P : DK) : Prop := ∃ d, xs = [d] ∧ lenD d L P
theorem imm1 {H : Hp} {d : D} {xs : List V} (h : ImmL K H [d] xs) : ∃ x, xs = [x] ∧ Imm K H d x := by
  obtain ⟨x, r, e, h1, h2⟩ := h
  cases h2
  exact ⟨x, e, h1⟩
theorem imm2 {H : Hp} {d e : D} {xs : List V} (h : ImmL K H [d, e] xs) : ∃ x y, xs = [x, y] ∧ Imm K H d x ∧ Imm K H e y := by
  obtain ⟨x, r, q, h1, h2⟩ := h
  obtain ⟨y, e, h3⟩ := imm1 h2
  subst e
  exact ⟨x, y, q, h1, h3⟩
theorem rc_len : RCall K (fun xs H Q => ∃ x n, xs = [x] ∧ LenV K x H n ∧ Q (.int n) H) fLen := by
  intro H xs ds L P Q ix ow h g
  obtain ⟨d, rfl, h⟩ := h
  obtain ⟨x, e, i⟩ := imm1 ix
  cases d with
  | str s =>
    cases i
    exact ⟨.str s, s.length, e, ⟨h.1, rfl⟩, g _ H (.int s.length) L (.refl H) ow rfl h.2⟩
  | ref p =>
    cases i
    obtain ⟨ds, k, q⟩ := h
    obtain ⟨xs, s, im⟩ := k.sql ow
    exact ⟨.ref p, ds.length, e, .inl ⟨xs, s, im.length.symm⟩, g _ H (.int ds.length) L (.refl H) ow rfl q⟩
  | tup ds =>
    obtain ⟨p, xs, e2, s, im⟩ := i
    subst e2
    exact ⟨.ref p, ds.length, e, .inr ⟨xs, s, im.length.symm⟩, g _ H (.int ds.length) L (.refl H) ow rfl h⟩
  | _ => exact h.elim
def fInt (xs : List D) (L : List Itm) (P : DK) : Prop := ∃ (i : Int), xs = [.int i] ∧ P (.int i) L
theorem rc_int : RCall K (fun xs H Q => (∃ i, xs = [.int i] ∧ Q (.int i) H) ∨ ∃ k, xs = [.bl k] ∧ Q (.int (if k then 1 else 0)) H) fInt := by
  intro H xs ds L P Q ix ow h g
  obtain ⟨i, rfl, h⟩ := h
  obtain ⟨x, e, q⟩ := imm1 ix
  cases q
  exact .inl ⟨i, e, g _ H (.int i) L (.refl H) ow rfl h⟩
def fAbs (xs : List D) (L : List Itm) (P : DK) : Prop := ∃ (i : Int), xs = [.int i] ∧ P (.int (if i < 0 then -i else i)) L
theorem rc_abs : RCall K (fun xs H Q => ∃ i, xs = [.int i] ∧ Q (.int (if i < 0 then -i else i)) H) fAbs := by
  intro H xs ds L P Q ix ow h g
  obtain ⟨i, rfl, h⟩ := h
  obtain ⟨x, e, q⟩ := imm1 ix
  cases q
  exact ⟨i, e, g _ H (.int _) L (.refl H) ow rfl h⟩
def fMax2 (xs : List D) (L : List Itm) (P : DK) : Prop := ∃ (i j : Int), xs = [.int i, .int j] ∧ P (.int (if j > i then j else i)) L
def fMin2 (xs : List D) (L : List Itm) (P : DK) : Prop := ∃ (i j : Int), xs = [.int i, .int j] ∧ P (.int (if j < i then j else i)) L
theorem rc_max2 : RCall K (fun xs H Q => ∃ i j, xs = [.int i, .int j] ∧ Q (.int (if j > i then j else i)) H) fMax2 := by
  intro H xs ds L P Q ix ow h g
  obtain ⟨i, j, rfl, h⟩ := h
  obtain ⟨x, y, e, q, q2⟩ := imm2 ix
  cases q; cases q2
  exact ⟨i, j, e, g _ H (.int _) L (.refl H) ow rfl h⟩
theorem rc_min2 : RCall K (fun xs H Q => ∃ i j, xs = [.int i, .int j] ∧ Q (.int (if j < i then j else i)) H) fMin2 := by
  intro H xs ds L P Q ix ow h g
  obtain ⟨i, j, rfl, h⟩ := h
  obtain ⟨x, y, e, q, q2⟩ := imm2 ix
  cases q; cases q2
  exact ⟨i, j, e, g _ H (.int _) L (.refl H) ow rfl h⟩
def fOrd (xs : List D) (L : List Itm) (P : DK) : Prop := ∃ (s : Str), xs = [.str s] ∧ s.length = 1 ∧ P (.int (s.cps.getD 0 0 : Nat)) L
theorem rc_ord : RCall K (fun xs H Q => ∃ x, xs = [.str x] ∧ x.length = 1 ∧ Q (.int (x.cps.getD 0 0 : Nat)) H) fOrd := by
  intro H xs ds L P Q ix ow h g
  obtain ⟨i, rfl, h⟩ := h
  obtain ⟨x, e, q⟩ := imm1 ix
  cases q
  exact ⟨i, e, h.1, g _ H (.int _) L (.refl H) ow rfl h.2⟩
def fStrI (xs : List D) (L : List Itm) (P : DK) : Prop := ∃ (i : Int), xs = [.int i] ∧ i.natAbs.log2 < 1920 ∧ P (.str (toString i)) L
theorem rc_strI : RCall K (fun xs H Q => ∃ i, xs = [.int i] ∧ i.natAbs.log2 < 1920 ∧ Q (.str (toString i)) H) fStrI := by
  intro H xs ds L P Q ix ow h g
  obtain ⟨i, rfl, h⟩ := h
  obtain ⟨x, e, q⟩ := imm1 ix
  cases q
  exact ⟨i, e, h.1, g _ H (.str _) L (.refl H) ow rfl h.2⟩
/-- list(xs), tuple(xs) -/
def listD : D → List Itm → DK → Prop
  | .ref p, L, P => ∃ ds, keepL p ds L ∧ ∀ q, P (.ref q) (.l q ds :: L)
  | .tup ds, L, P => ∀ q, P (.ref q) (.l q ds :: L)
  | _, _, _ => False
def fList (xs : List D) (L : List Itm) (P : DK) : Prop := ∃ d, xs = [d] ∧ listD d L P
theorem rc_list : RCall K (fun xs H Q => ∃ p ys, xs = [.ref p] ∧ (SqL K H p ys ∨ SqT K H p ys) ∧ ∀ l, H l = none → Q (.ref l) (upd H l (.lst ys))) fList := by
  intro H xs ds L P Q ix ow h g
  obtain ⟨d, rfl, h⟩ := h
  obtain ⟨x, e, q⟩ := imm1 ix
  cases d with
  | ref p =>
    cases q
    obtain ⟨ds, k, q⟩ := h
    obtain ⟨xs, s, im⟩ := k.sql ow
    refine ⟨p, xs, e, .inl s, fun r hr => ?_⟩
    have t := TK.new (o := HO.lst xs) hr
    exact g _ _ (.ref r) _ t (ow.new (it := .l r ds) hr rfl ⟨_, upd_same, im.mono t⟩) rfl (q r)
  | tup ds =>
    obtain ⟨p, xs, e2, s, im⟩ := q
    subst e2
    refine ⟨p, xs, e, .inr s, fun r hr => ?_⟩
    have t := TK.new (o := HO.lst xs) hr
    exact g _ _ (.ref r) _ t (ow.new (it := .l r ds) hr rfl ⟨_, upd_same, im.mono t⟩) rfl (h r)
  | _ => exact h.elim
def tupleD : D → List Itm → DK → Prop
  | .ref p, L, P => ∃ ds, keepL p ds L ∧ P (.tup ds) L
  | .tup ds, L, P => P (.tup ds) L
  | _, _, _ => False
def fTuple (xs : List D) (L : List Itm) (P : DK) : Prop := ∃ d, xs = [d] ∧ tupleD d L P
theorem rc_tuple : RCall K (fun xs H Q => ∃ p ys, xs = [.ref p] ∧ ((SqL K H p ys ∧ ∀ l, H l = none → Q (.ref l) (upd H l (.tup ys))) ∨ (SqT K H p ys ∧ Q (.ref p) H))) fTuple := by
  intro H xs ds L P Q ix ow h g
  obtain ⟨d, rfl, h⟩ := h
  obtain ⟨x, e, q⟩ := imm1 ix
  cases d with
  | ref p =>
    cases q
    obtain ⟨ds, k, q⟩ := h
    obtain ⟨xs, s, im⟩ := k.sql ow
    refine ⟨p, xs, e, .inl ⟨s, fun r hr => ?_⟩⟩
    have t := same_new (o := HO.tup xs) hr
    exact g _ _ (.tup ds) L (.of_same t) (ow.same t) ⟨r, _, rfl, SqT.of upd_same, im.mono (.of_same t)⟩ q
  | tup ds =>
    obtain ⟨p, xs, e2, s, im⟩ := q
    subst e2
    exact ⟨p, xs, e, .inr ⟨s, g _ H (.tup ds) L (.refl H) ow ⟨p, xs, rfl, s, im⟩ h⟩⟩
  | _ => exact h.elim
/-- sum, all, any of a list -/
def fSum (xs : List D) (L : List Itm) (P : DK) : Prop := ∃ (p : Addr), xs = [.ref p] ∧ ∃ ns : List Int, keepL p (ns.map D.int) L ∧ P (.int ns.sum) L
theorem rc_sum : RCall K (rSum K) fSum := by
  intro H xs ds L P Q ix ow h g
  obtain ⟨p, rfl, ns, k, q⟩ := h
  obtain ⟨x, e, q'⟩ := imm1 ix
  cases q'
  obtain ⟨xs, s, im⟩ := k.sql ow
  rw [im.ints_eq] at s
  exact ⟨p, ns, e, s, g _ H (.int ns.sum) L (.refl H) ow rfl q⟩
def fAll (xs : List D) (L : List Itm) (P : DK) : Prop := ∃ (p : Addr), xs = [.ref p] ∧ ∃ bs : List Bool, keepL p (bs.map D.bl) L ∧ P (.bl (bs.all id)) L
theorem rc_all : RCall K (rAll K) fAll := by
  intro H xs ds L P Q ix ow h g
  obtain ⟨p, rfl, ns, k, q⟩ := h
  obtain ⟨x, e, q'⟩ := imm1 ix
  cases q'
  obtain ⟨xs, s, im⟩ := k.sql ow
  rw [im.bls_eq] at s
  exact ⟨p, ns, e, s, g _ H (.bl _) L (.refl H) ow rfl q⟩
end

/-! ### methods of lists and texts -/
def wML (f : D → List D → List Itm → DK → Prop) (o : DTE) (a : DTA) : DTE := fun ρ L P => o ρ L fun d L1 => ∃ p ds, d = .ref p ∧ keepL p ds L1 ∧ a ρ L1 fun xs L2 => f d xs L2 P
def wMS (f : D → List D → List Itm → DK → Prop) (o : DTE) (a : DTA) : DTE := fun ρ L P => o ρ L fun d L1 => ∃ s, d = .str s ∧ a ρ L1 fun xs L2 => f d xs L2 P
section
variable {X : Cx} {H0 : Hp} {apos cpos : Pos} {o e : Expr} {es : List Expr} {wo : DTE} {wr : DTA} {name : Str} {id : String} {r : V → List V → Hp → VK → Prop} {f : D → List D → List Itm → DK → Prop}
theorem d_ml (slot : PySem.Slot "list" name id) (hty : typeOf (.builtin id) = pure (.type "method_descriptor")) (hm : MtR X id r) (hf : RMeth X.K r f) (ho : DPE X H0 o wo) (ha : DPA X H0 (e :: es) wr)
    (hbase : attributeBase o name X.env (eval o X.env) = eval o X.env := by rfl)
    (hfew : ((backTo cpos (starEach (e :: es) X.env)).all (fun x => !x.1) && (backToKw cpos (keywordEach [] X.env)).all (fun x => x.1.isSome)
      && decide ((e :: es).length + ([] : List Keyword).length + (if ([] : List Keyword).isEmpty then 0 else 1) < 30)) = true := by rfl)
    (hline : (apos.endLine == cpos.line) = true := by rfl) (hs : starEach (e :: es) X.env = (false, eval e X.env) :: starEach es X.env := by rfl) (hplain : (backTo cpos (starEach es X.env)).any (·.1) = false := by rfl) :
    DPE X H0 (.Call (.Attribute o name apos) (e :: es) [] cpos) (wML f wo wr) := by
  obtain ⟨to, po, lo⟩ := ho
  obtain ⟨ta, pa, la⟩ := ha
  refine ⟨_, pe_bm PySem.F.plainAttrs_list slot hty hm po pa hbase hfew hline hs hplain, ⟨fun σ H ρ L P Q t0 en ow h g => ?_⟩⟩
  refine lo.run σ H ρ L _ _ t0 en ow h fun x H1 dx L1 t1 ow1 i1 h1 => ?_
  obtain ⟨p, ds, e, k, h1⟩ := h1
  subst e
  cases i1
  obtain ⟨xs, s, im⟩ := k.sql ow1
  refine ⟨.inl ⟨rfl, xs, s⟩, ?_⟩
  exact la.run σ H1 ρ L1 _ _ (t0.trans t1) (en.mono t1) ow1 h1 fun ys H2 es L2 t2 ow2 i2 h2 => hf H2 (.ref p) ys (.ref p) es L2 _ _ rfl i2 ow2 h2 (g.mono (t1.trans t2))
theorem d_ml0 (slot : PySem.Slot "list" name id) (hty : typeOf (.builtin id) = pure (.type "method_descriptor")) (hm : MtR X id r) (hf : RMeth X.K r f) (ho : DPE X H0 o wo)
    (hbase : attributeBase o name X.env (eval o X.env) = eval o X.env := by rfl) (hline : (apos.endLine == cpos.line) = true := by rfl) :
    DPE X H0 (.Call (.Attribute o name apos) [] [] cpos) (wML f wo wNil) := by
  obtain ⟨to, po, lo⟩ := ho
  refine ⟨_, pe_bm0 PySem.F.plainAttrs_list slot hty hm po hbase hline, ⟨fun σ H ρ L P Q t0 en ow h g => ?_⟩⟩
  refine lo.run σ H ρ L _ _ t0 en ow h fun x H1 dx L1 t1 ow1 i1 h1 => ?_
  obtain ⟨p, ds, e, k, h1⟩ := h1
  subst e
  cases i1
  obtain ⟨xs, s, im⟩ := k.sql ow1
  exact ⟨.inl ⟨rfl, xs, s⟩, hf H1 (.ref p) [] (.ref p) [] L1 _ _ rfl rfl ow1 h1 (g.mono t1)⟩
theorem d_ms (slot : PySem.Slot "str" name id) (hty : typeOf (.builtin id) = pure (.type "method_descriptor")) (hm : MtR X id r) (hf : RMeth X.K r f) (ho : DPE X H0 o wo) (ha : DPA X H0 (e :: es) wr)
    (hbase : attributeBase o name X.env (eval o X.env) = eval o X.env := by rfl)
    (hfew : ((backTo cpos (starEach (e :: es) X.env)).all (fun x => !x.1) && (backToKw cpos (keywordEach [] X.env)).all (fun x => x.1.isSome)
      && decide ((e :: es).length + ([] : List Keyword).length + (if ([] : List Keyword).isEmpty then 0 else 1) < 30)) = true := by rfl)
    (hline : (apos.endLine == cpos.line) = true := by rfl) (hs : starEach (e :: es) X.env = (false, eval e X.env) :: starEach es X.env := by rfl) (hplain : (backTo cpos (starEach es X.env)).any (·.1) = false := by rfl) :
    DPE X H0 (.Call (.Attribute o name apos) (e :: es) [] cpos) (wMS f wo wr) := by
  obtain ⟨to, po, lo⟩ := ho
  obtain ⟨ta, pa, la⟩ := ha
  refine ⟨_, pe_bm PySem.F.plainAttrs_str slot hty hm po pa hbase hfew hline hs hplain, ⟨fun σ H ρ L P Q t0 en ow h g => ?_⟩⟩
  refine lo.run σ H ρ L _ _ t0 en ow h fun x H1 dx L1 t1 ow1 i1 h1 => ?_
  obtain ⟨s, e, h1⟩ := h1
  subst e
  cases i1
  refine ⟨rfl, ?_⟩
  exact la.run σ H1 ρ L1 _ _ (t0.trans t1) (en.mono t1) ow1 h1 fun ys H2 es L2 t2 ow2 i2 h2 => hf H2 (.str s) ys (.str s) es L2 _ _ rfl i2 ow2 h2 (g.mono (t1.trans t2))
theorem d_ms0 (slot : PySem.Slot "str" name id) (hty : typeOf (.builtin id) = pure (.type "method_descriptor")) (hm : MtR X id r) (hf : RMeth X.K r f) (ho : DPE X H0 o wo)
    (hbase : attributeBase o name X.env (eval o X.env) = eval o X.env := by rfl) (hline : (apos.endLine == cpos.line) = true := by rfl) :
    DPE X H0 (.Call (.Attribute o name apos) [] [] cpos) (wMS f wo wNil) := by
  obtain ⟨to, po, lo⟩ := ho
  refine ⟨_, pe_bm0 PySem.F.plainAttrs_str slot hty hm po hbase hline, ⟨fun σ H ρ L P Q t0 en ow h g => ?_⟩⟩
  refine lo.run σ H ρ L _ _ t0 en ow h fun x H1 dx L1 t1 ow1 i1 h1 => ?_
  obtain ⟨s, e, h1⟩ := h1
  subst e
  cases i1
  exact ⟨rfl, hf H1 (.str s) [] (.str s) [] L1 _ _ rfl rfl ow1 h1 (g.mono t1)⟩
end
section
variable {K : PySem.W.Frag}
theorem own_at {H : Hp} {L R : List Itm} {p : Addr} {ds : List D} (ow : Own K H L) (h : Pull L (.l p ds) R) : Own K H (.l p ds :: R) ∧ ∃ xs, H p = some (.lst xs) ∧ ImmL K H ds xs := by
  have q := ow.perm h.perm
  exact ⟨q, q.ok _ List.mem_cons_self⟩
theorem own_put {H : Hp} {R : List Itm} {p : Addr} {ds es : List D} {xs ys : List V} (ow : Own K H (.l p ds :: R)) (e : H p = some (.lst xs)) (i : ImmL K H es ys) : TK H (upd H p (.lst ys)) ∧ Own K (upd H p (.lst ys)) (.l p es :: R) := by
  have t : TK H (upd H p (.lst ys)) := .put e (fun _ z => nomatch z) (fun _ _ z => nomatch z)
  exact ⟨t, ow.put (p := p) rfl t rfl ⟨ys, upd_same, i.mono t⟩⟩
def fAppend (o : D) (xs : List D) (L : List Itm) (P : DK) : Prop := ∃ (p : Addr) (y : D), o = .ref p ∧ xs = [y] ∧ ∃ ds R, Pull L (.l p ds) R ∧ ds.length < sizeLine ∧ P .non (.l p (ds ++ [y]) :: R)
theorem rm_append : RMeth K rAppend fAppend := by
  intro H x xs d ds L P Q ix ixs ow h g
  obtain ⟨p, y, rfl, rfl, h⟩ := h
  cases ix
  obtain ⟨ds, R, pl, hz, q⟩ := h
  obtain ⟨v, e, iv⟩ := imm1 ixs
  obtain ⟨ow1, xs, e1, i1⟩ := own_at ow pl
  obtain ⟨t, ow2⟩ := own_put (es := ds ++ [y]) (ys := xs ++ [v]) ow1 e1 (i1.append (.one iv))
  exact ⟨p, xs, v, rfl, e, e1, by rw [i1.length]; exact hz, g _ _ .non _ t ow2 rfl q⟩
def fPop (o : D) (xs : List D) (L : List Itm) (P : DK) : Prop := ∃ (p : Addr), o = .ref p ∧ xs = [] ∧ ∃ ds R d, Pull L (.l p ds) R ∧ ds[ds.length - 1]? = some d ∧ P d (.l p ds.dropLast :: R)
theorem rm_pop : RMeth K rPop fPop := by
  intro H x xs d ds L P Q ix ixs ow h g
  obtain ⟨p, rfl, rfl, h⟩ := h
  cases ix
  cases ixs
  obtain ⟨ds, R, d, pl, hd, q⟩ := h
  obtain ⟨ow1, xs, e1, i1⟩ := own_at ow pl
  obtain ⟨v, ev, iv⟩ := i1.get hd
  obtain ⟨t, ow2⟩ := own_put (es := ds.dropLast) (ys := xs.dropLast) ow1 e1 i1.dropLast
  exact ⟨p, xs, v, rfl, rfl, e1, by rw [i1.length]; exact ev, g _ _ d _ t ow2 (iv.mono t) q⟩
def fPopAt (o : D) (xs : List D) (L : List Itm) (P : DK) : Prop := ∃ (p : Addr) (i : Int), o = .ref p ∧ xs = [.int i] ∧ ∃ ds R k d, Pull L (.l p ds) R ∧ -(2 ^ 63) ≤ i ∧ i < 2 ^ 63 ∧ seqIndex? i ds.length = some k ∧ ds[k]? = some d ∧ P d (.l p (ds.eraseIdx k) :: R)
theorem rm_popAt : RMeth K rPopAt fPopAt := by
  intro H x xs d ds L P Q ix ixs ow h g
  obtain ⟨p, i, rfl, rfl, h⟩ := h
  cases ix
  obtain ⟨v, e, iv⟩ := imm1 ixs
  cases iv
  obtain ⟨ds, R, k, d, pl, h1, h2, h3, hd, q⟩ := h
  obtain ⟨ow1, xs, e1, i1⟩ := own_at ow pl
  obtain ⟨v, ev, iv⟩ := i1.get hd
  obtain ⟨t, ow2⟩ := own_put (es := ds.eraseIdx k) (ys := xs.eraseIdx k) ow1 e1 (i1.eraseIdx k)
  exact ⟨p, xs, i, k, v, rfl, e, e1, h1, h2, by rw [i1.length]; exact h3, ev, g _ _ d _ t ow2 (iv.mono t) q⟩
def fInsert (o : D) (xs : List D) (L : List Itm) (P : DK) : Prop := ∃ (p : Addr) (i : Int) (y : D), o = .ref p ∧ xs = [.int i, y] ∧ ∃ ds R, Pull L (.l p ds) R ∧ ds.length < sizeLine ∧ 0 ≤ i ∧ i < 2 ^ 63 ∧ P .non (.l p (ds.take i.toNat ++ [y] ++ ds.drop i.toNat) :: R)
theorem rm_insert : RMeth K (fun x vs H Q => ∃ (l : Addr) (xs : List V) (i : Int) (y : V), x = .ref l ∧ vs = [.int i, y] ∧ H l = some (.lst xs) ∧ xs.length < sizeLine ∧ 0 ≤ i ∧ i < 2 ^ 63 ∧
    Q .non (upd H l (.lst (xs.take i.toNat ++ [y] ++ xs.drop i.toNat)))) fInsert := by
  intro H x xs d ds L P Q ix ixs ow h g
  obtain ⟨p, i, y, rfl, rfl, h⟩ := h
  cases ix
  obtain ⟨v, v2, e, iv, iv2⟩ := imm2 ixs
  cases iv
  obtain ⟨ds, R, pl, hz, h1, h2, q⟩ := h
  obtain ⟨ow1, xs, e1, i1⟩ := own_at ow pl
  obtain ⟨t, ow2⟩ := own_put (es := ds.take i.toNat ++ [y] ++ ds.drop i.toNat) (ys := xs.take i.toNat ++ [v2] ++ xs.drop i.toNat) ow1 e1 (((i1.take _).append (.one iv2)).append (i1.drop _))
  exact ⟨p, xs, i, v2, rfl, e, e1, by rw [i1.length]; exact hz, h1, h2, g _ _ .non _ t ow2 rfl q⟩
/-- s.find(t) and its like -/
def fS1 (g : Str → Str → D) (o : D) (xs : List D) (L : List Itm) (P : DK) : Prop := ∃ (a b : Str), o = .str a ∧ xs = [.str b] ∧ P (g a b) L
theorem rm_s1 {g : Str → Str → V} {g' : Str → Str → D} (hg : ∀ a b H, Imm K H (g' a b) (g a b)) : RMeth K (fun x xs H Q => ∃ a b, x = .str a ∧ xs = [.str b] ∧ Q (g a b) H) (fS1 g') := by
  intro H x xs d ds L P Q ix ixs ow h k
  obtain ⟨a, b, rfl, rfl, h⟩ := h
  cases ix
  obtain ⟨v, e, iv⟩ := imm1 ixs
  cases iv
  exact ⟨a, b, rfl, e, k _ H (g' a b) L (.refl H) ow (hg a b H) h⟩
def fSplit (o : D) (xs : List D) (L : List Itm) (P : DK) : Prop := ∃ (a b : Str), o = .str a ∧ xs = [.str b] ∧ (b.length == 0) = false ∧ a.length + 2 ≤ sizeLine ∧ ∀ p, P (.ref p) (.l p ((Txt.split a b).map D.str) :: L)
theorem rm_split : RMeth K (fun x xs H Q => ∃ a b, x = .str a ∧ xs = [.str b] ∧ (b.length == 0) = false ∧ a.length + 2 ≤ sizeLine ∧ rNewStrs (Txt.split a b) H Q) fSplit := by
  intro H x xs d ds L P Q ix ixs ow h k
  obtain ⟨a, b, rfl, rfl, h⟩ := h
  cases ix
  obtain ⟨v, e, iv⟩ := imm1 ixs
  cases iv
  refine ⟨a, b, rfl, e, h.1, h.2.1, fun p hp => ?_⟩
  have t := TK.new (o := HO.lst ((Txt.split a b).map V.str)) hp
  exact k _ _ (.ref p) _ t (ow.new (it := .l p ((Txt.split a b).map D.str)) hp rfl ⟨_, upd_same, ImmL.strs _⟩) rfl (h.2.2 p)
def fJoin (o : D) (xs : List D) (L : List Itm) (P : DK) : Prop := ∃ (a : Str) (p : Addr), o = .str a ∧ xs = [.ref p] ∧ ∃ ys : List Str, keepL p (ys.map D.str) L ∧ (ys.map (·.length)).sum + ys.length * a.length ≤ 16777216 ∧ P (.str (Txt.join a ys)) L
theorem rm_join : RMeth K (fun x xs H Q => ∃ a p, ∃ ys : List Str, x = .str a ∧ xs = [.ref p] ∧ (SqL K H p (ys.map V.str) ∨ SqT K H p (ys.map V.str)) ∧
    (ys.map (·.length)).sum + ys.length * a.length ≤ 16777216 ∧ Q (.str (Txt.join a ys)) H) fJoin := by
  intro H x xs d ds L P Q ix ixs ow h k
  obtain ⟨a, p, rfl, rfl, h⟩ := h
  cases ix
  obtain ⟨v, e, iv⟩ := imm1 ixs
  cases iv
  obtain ⟨ys, kp, hz, q⟩ := h
  obtain ⟨xs, s, im⟩ := kp.sql ow
  rw [im.strs_eq] at s
  exact ⟨a, p, ys, rfl, e, .inl s, hz, k _ H (.str _) L (.refl H) ow rfl q⟩
end
section
variable {X : Cx} {H0 : Hp} {apos cpos p : Pos} {o e a b : Expr} {es : List Expr} {wo : DTE} {wr : DTA}
theorem d_len (hm : X.mg "len" = none) (ha : DPA X H0 (e :: es) wr) (hg : Gl X "len" := by rfl) (he : starEach (e :: es) X.env = (false, eval e X.env) :: starEach es X.env := by rfl) (hpl : (backTo cpos (starEach es X.env)).any (·.1) = false := by rfl) : DPE X H0 (.Call (.Name "len" p) (e :: es) [] cpos) (wCB fLen wr) :=
  d_callB call_len rc_len hm PySem.boot_len ha hg (by decide) (by decide) he hpl
theorem d_intC (hm : X.mg "int" = none) (ha : DPA X H0 (e :: es) wr) (hg : Gl X "int" := by rfl) (he : starEach (e :: es) X.env = (false, eval e X.env) :: starEach es X.env := by rfl) (hpl : (backTo cpos (starEach es X.env)).any (·.1) = false := by rfl) : DPE X H0 (.Call (.Name "int" p) (e :: es) [] cpos) (wCB fInt wr) :=
  d_callTy call_int1 rc_int hm (by decide +kernel) ha hg (by decide) (by decide) he hpl
theorem d_abs (hm : X.mg "abs" = none) (ha : DPA X H0 (e :: es) wr) (hg : Gl X "abs" := by rfl) (he : starEach (e :: es) X.env = (false, eval e X.env) :: starEach es X.env := by rfl) (hpl : (backTo cpos (starEach es X.env)).any (·.1) = false := by rfl) : DPE X H0 (.Call (.Name "abs" p) (e :: es) [] cpos) (wCB fAbs wr) :=
  d_callB call_abs rc_abs hm (by decide +kernel) ha hg (by decide) (by decide) he hpl
theorem d_max2 (hm : X.mg "max" = none) (ha : DPA X H0 (e :: es) wr) (hc : X.calm = true := by rfl) (hg : Gl X "max" := by rfl) (he : starEach (e :: es) X.env = (false, eval e X.env) :: starEach es X.env := by rfl) (hpl : (backTo cpos (starEach es X.env)).any (·.1) = false := by rfl) : DPE X H0 (.Call (.Name "max" p) (e :: es) [] cpos) (wCB fMax2 wr) :=
  d_callB (call_max2 hc) rc_max2 hm (by decide +kernel) ha hg (by decide) (by decide) he hpl
theorem d_min2 (hm : X.mg "min" = none) (ha : DPA X H0 (e :: es) wr) (hc : X.calm = true := by rfl) (hg : Gl X "min" := by rfl) (he : starEach (e :: es) X.env = (false, eval e X.env) :: starEach es X.env := by rfl) (hpl : (backTo cpos (starEach es X.env)).any (·.1) = false := by rfl) : DPE X H0 (.Call (.Name "min" p) (e :: es) [] cpos) (wCB fMin2 wr) :=
  d_callB (call_min2 hc) rc_min2 hm (by decide +kernel) ha hg (by decide) (by decide) he hpl
theorem d_ord (hm : X.mg "ord" = none) (ha : DPA X H0 (e :: es) wr) (hg : Gl X "ord" := by rfl) (he : starEach (e :: es) X.env = (false, eval e X.env) :: starEach es X.env := by rfl) (hpl : (backTo cpos (starEach es X.env)).any (·.1) = false := by rfl) : DPE X H0 (.Call (.Name "ord" p) (e :: es) [] cpos) (wCB fOrd wr) :=
  d_callB call_ord rc_ord hm (by decide +kernel) ha hg (by decide) (by decide) he hpl
theorem d_strI (hm : X.mg "str" = none) (ha : DPA X H0 (e :: es) wr) (hg : Gl X "str" := by rfl) (he : starEach (e :: es) X.env = (false, eval e X.env) :: starEach es X.env := by rfl) (hpl : (backTo cpos (starEach es X.env)).any (·.1) = false := by rfl) : DPE X H0 (.Call (.Name "str" p) (e :: es) [] cpos) (wCB fStrI wr) :=
  d_callTy call_str_int rc_strI hm (by decide +kernel) ha hg (by decide) (by decide) he hpl
theorem d_listC (hm : X.mg "list" = none) (ha : DPA X H0 (e :: es) wr) (hg : Gl X "list" := by rfl) (he : starEach (e :: es) X.env = (false, eval e X.env) :: starEach es X.env := by rfl) (hpl : (backTo cpos (starEach es X.env)).any (·.1) = false := by rfl) : DPE X H0 (.Call (.Name "list" p) (e :: es) [] cpos) (wCB fList wr) :=
  d_callTy call_list_of rc_list hm (by decide +kernel) ha hg (by decide) (by decide) he hpl
theorem d_tupleC (hm : X.mg "tuple" = none) (ha : DPA X H0 (e :: es) wr) (hg : Gl X "tuple" := by rfl) (he : starEach (e :: es) X.env = (false, eval e X.env) :: starEach es X.env := by rfl) (hpl : (backTo cpos (starEach es X.env)).any (·.1) = false := by rfl) : DPE X H0 (.Call (.Name "tuple" p) (e :: es) [] cpos) (wCB fTuple wr) :=
  d_callTy call_tuple_of rc_tuple hm (by decide +kernel) ha hg (by decide) (by decide) he hpl
theorem d_sum (hm : X.mg "sum" = none) (ha : DPA X H0 (e :: es) wr) (hc : X.calm = true := by rfl) (hg : Gl X "sum" := by rfl) (he : starEach (e :: es) X.env = (false, eval e X.env) :: starEach es X.env := by rfl) (hpl : (backTo cpos (starEach es X.env)).any (·.1) = false := by rfl) : DPE X H0 (.Call (.Name "sum" p) (e :: es) [] cpos) (wCB fSum wr) :=
  d_callB (cr_sum hc) rc_sum hm (by decide +kernel) ha hg (by decide) (by decide) he hpl
theorem d_all (hm : X.mg "all" = none) (ha : DPA X H0 (e :: es) wr) (hc : X.calm = true := by rfl) (hg : Gl X "all" := by rfl) (he : starEach (e :: es) X.env = (false, eval e X.env) :: starEach es X.env := by rfl) (hpl : (backTo cpos (starEach es X.env)).any (·.1) = false := by rfl) : DPE X H0 (.Call (.Name "all" p) (e :: es) [] cpos) (wCB fAll wr) :=
  d_callB (cr_all hc) rc_all hm (by decide +kernel) ha hg (by decide) (by decide) he hpl
end
end DL

set_option maxRecDepth 100000
set_option maxHeartbeats 2000000
namespace DL
open PySem L2
open PyProof.Rows (envOfC)

/-! ### the reading that a reading over data is -/
def upE (K : PySem.W.Frag) (H0 : Hp) (w : DTE) : TE := fun σ H Q => ∃ ρ L P, TK H0 H ∧ EnvD K H σ ρ ∧ Own K H L ∧ w ρ L P ∧ Goes K H P Q
def upT (K : PySem.W.Frag) (H0 : Hp) (w : DTT) : TT := fun σ H Q => ∃ ρ L P, TK H0 H ∧ EnvD K H σ ρ ∧ Own K H L ∧ w ρ L P ∧ GoesT K H P Q
theorem DPE.up {X : Cx} {H0 : Hp} {e : Expr} {w : DTE} (h : DPE X H0 e w) : PE X e (upE X.K H0 w) := by
  obtain ⟨t, p, l⟩ := h
  exact ⟨fun pins s σ H Q I ⟨ρ, L, P, t0, en, ow, q, g⟩ => p.run pins s σ H Q I (l.run σ H ρ L P Q t0 en ow q g)⟩
theorem DPT.up {X : Cx} {H0 : Hp} {e : Expr} {w : DTT} (h : DPT X H0 e w) : PT X e (upT X.K H0 w) := by
  obtain ⟨t, p, l⟩ := h
  exact ⟨fun pins s σ H Q I ⟨ρ, L, P, t0, en, ow, q, g⟩ => p.run pins s σ H Q I (l.run σ H ρ L P Q t0 en ow q g)⟩
theorem le_up {K : PySem.W.Frag} {H0 : Hp} {w : DTE} : LE K H0 (upE K H0 w) w := ⟨fun σ H ρ L P Q t0 en ow q g => ⟨ρ, L, P, t0, en, ow, q, g⟩⟩
theorem lt_up {K : PySem.W.Frag} {H0 : Hp} {w : DTT} : LT K H0 (upT K H0 w) w := ⟨fun σ H ρ L P Q t0 en ow q g => ⟨ρ, L, P, t0, en, ow, q, g⟩⟩

/-! ### comprehensions -/
def wipeD (ρ : Rho) : List Nat → Rho
  | [] => ρ
  | v :: vs => (wipeD ρ vs).set v none
theorem env_wipe {K : PySem.W.Frag} {H : Hp} {σ : St} {ρ : Rho} (h : EnvD K H σ ρ) : ∀ vs, EnvD K H (wipe σ vs) (wipeD ρ vs)
  | [] => h
  | v :: vs => (env_wipe h vs).unset v
theorem wipe_get (σ : St) (j : Nat) : ∀ vs : List Nat, (wipe σ vs)[j]? = if j ∈ vs then (σ[j]?).map (fun _ => none) else σ[j]?
  | [] => by simp [wipe]
  | v :: vs => by
    unfold wipe
    rw [List.getElem?_set, wipe_get σ j vs]
    have hl := wipe_length σ vs
    by_cases h : v = j
    · subst h
      rw [if_pos rfl, if_pos List.mem_cons_self, hl]
      by_cases hv : v < σ.length
      · simp [hv]
      · simp [hv]
    · rw [if_neg h]
      by_cases hm : j ∈ vs
      · rw [if_pos hm, if_pos (List.mem_cons_of_mem _ hm)]
      · rw [if_neg hm, if_neg (by simp [hm]; exact fun e => h e.symm)]
theorem wipe_set {σ : St} {vs : List Nat} {i : Nat} {x : Option V} (h : i ∈ vs) : wipe ((wipe σ vs).set i x) vs = wipe σ vs := by
  apply List.ext_getElem?
  intro j
  rw [wipe_get, wipe_get]
  by_cases hj : j ∈ vs
  · rw [if_pos hj, if_pos hj, List.getElem?_set]
    by_cases e : i = j
    · subst e
      rw [if_pos rfl, wipe_length]
      by_cases hi : i < σ.length
      · simp [hi]
      · simp [hi]
    · rw [if_neg e, wipe_get, if_pos hj]
      cases σ[j]? <;> rfl
  · have e : i ≠ j := fun e => hj (e ▸ h)
    rw [if_neg hj, if_neg hj, List.getElem?_set_ne e, wipe_get, if_neg hj]
theorem wipe_wipe {σ : St} {vs : List Nat} : wipe (wipe σ vs) vs = wipe σ vs := by
  apply List.ext_getElem?
  intro j
  rw [wipe_get, wipe_get]
  by_cases hj : j ∈ vs
  · rw [if_pos hj, if_pos hj]
    cases σ[j]? <;> rfl
  · rw [if_neg hj, if_neg hj]
/-- targets within a block: only its own slots change -/
structure LGW (K : PySem.W.Frag) (H0 : Hp) (vs : List Nat) (t : TG) (w : DTG) : Prop where
  run : ∀ (v : V) (d : D) (σ σ0 : St) (H : Hp) (ρ : Rho) (L : List Itm) (P : Rho → List Itm → Prop) (Q : St → Hp → Prop), TK H0 H → wipe σ vs = wipe σ0 vs → EnvD K H σ ρ → Own K H L → Imm K H d v → w d ρ L P →
    (∀ (σ' : St) (H' : Hp) (ρ' : Rho) (L' : List Itm), wipe σ' vs = wipe σ0 vs → TK H H' → EnvD K H' σ' ρ' → Own K H' L' → P ρ' L' → Q σ' H') → t v σ H Q
theorem wipe_set' {σ σ0 : St} {vs : List Nat} {i : Nat} {x : Option V} (h : i ∈ vs) (e : wipe σ vs = wipe σ0 vs) : wipe (σ.set i x) vs = wipe σ0 vs := by
  rw [← e]
  apply List.ext_getElem?
  intro j
  rw [wipe_get, wipe_get]
  by_cases hj : j ∈ vs
  · rw [if_pos hj, if_pos hj, List.getElem?_set]
    by_cases e : i = j
    · subst e
      rw [if_pos rfl]
      by_cases hi : i < σ.length
      · simp [hi]
      · simp [hi]
    · rw [if_neg e]
  · rw [if_neg hj, if_neg hj, List.getElem?_set_ne (fun (e : i = j) => hj (by rw [← e]; exact h))]
theorem lgw_name {K : PySem.W.Frag} {H0 : Hp} {vs : List Nat} (i : Nat) (h : i ∈ vs) : LGW K H0 vs (gName i) (gN i) :=
  ⟨fun v d σ σ0 H ρ L P Q t0 ew en ow im q g => g _ H _ L (wipe_set' h ew) (.refl H) (en.set i im) ow q⟩
def wLc (it : DTI) (g : DTG) (tt : DTT) (te : DTE) (vs : List Nat) : DTE := fun ρ L P => it ρ L fun ds keep L1 => ∀ r, ∃ W : Nat → List Itm → Prop, W 0 (.l r [] :: L1) ∧ (∀ i L', i ≤ ds.length → W i L' → keep L') ∧
  (∀ i d L', ds[i]? = some d → W i L' → g d (wipeD ρ vs) L' fun ρ2 L2 => tt ρ2 L2 fun b L3 => (b = true → te ρ2 L3 fun y L4 => ∃ acc R, Pull L4 (.l r acc) R ∧ acc.length < sizeLine ∧ Dl (W (i + 1)) (.l r (acc ++ [y]) :: R)) ∧ (b = false → Dl (W (i + 1)) L3)) ∧
  (∀ L', W ds.length L' → P (.ref r) L')
def DPGW (X : Cx) (H0 : Hp) (vs : List Nat) (e : Expr) (t : TG) (w : DTG) : Prop := PG X e t ∧ LGW X.K H0 vs t w
def wYes : DTT := fun _ L P => P true L
/-- a clause's tests -/
def DPTs (X : Cx) (H0 : Hp) (ifs : List Expr) (w : DTT) : Prop := PTs X ifs (upT X.K H0 w)
theorem dts_nil {X : Cx} {H0 : Hp} : DPTs X H0 [] wYes := ⟨fun pins s σ H Q I ⟨ρ, L, P, t0, en, ow, q, g⟩ => pts_nil.run pins s σ H Q I (g true H L (.refl H) ow q)⟩
theorem dts_one {X : Cx} {H0 : Hp} {c : Expr} {w : DTT} (h : DPT X H0 c w) : DPTs X H0 [c] w := pts_one h.up
theorem llc {K : PySem.W.Frag} {H0 : Hp} {wi : TI} {it : DTI} {g : TG} {gd : DTG} {tt : DTT} {te : DTE} {vs : List Nat} (li : LI K H0 wi it) (lg : LGW K H0 vs g gd) : LE K H0 (tLc wi g (upT K H0 tt) (upE K H0 te) vs) (wLc it gd tt te vs) := by
  refine ⟨fun σ H ρ L P Q t0 en ow h k => ?_⟩
  refine li.run σ H ρ L _ _ t0 en ow h fun J ds keep H1 L1 t1 ow1 iter h1 => ?_
  intro r hr
  obtain ⟨W, w0, wk, ws, wd⟩ := h1 r
  have tr := TK.new (o := HO.lst []) hr
  refine ⟨fun i m H' => m = ds.length - i ∧ i ≤ ds.length ∧ TK H1 H' ∧ ∃ L', Own K H' L' ∧ W i L', ⟨_, rfl, Nat.zero_le _, tr, _, ow1.new (it := .l r []) hr rfl ⟨[], upd_same, rfl⟩, w0⟩, ?_⟩
  rintro i m H' ⟨rfl, hi, t', L', ow', wi⟩
  have kp := wk i L' hi wi
  by_cases hlt : i < ds.length
  · refine .inr ⟨iter.go i H' L' t' ow' kp hlt, fun H2 => TK H1 H2 ∧ ∃ L2, Own K H2 L2 ∧ W (i + 1) L2, fun H2 ⟨t2, L2, o2, w2⟩ => ⟨ds.length - (i + 1), by omega, rfl, hlt, t2, L2, o2, w2⟩, fun x H2 y => ?_⟩
    obtain ⟨d, hd, t2, ow2, im⟩ := iter.yld i H' L' x H2 t' ow' kp hlt y
    have t12 : TK H1 H2 := t'.trans t2
    have t02 : TK H0 H2 := (t0.trans t1).trans t12
    refine lg.run x d (wipe σ vs) σ H2 (wipeD ρ vs) L' _ _ t02 wipe_wipe (env_wipe (en.mono (t1.trans t12)) vs) ow2 im (ws i d L' hd wi) fun σ3 H3 ρ3 L3 ew t3 en3 ow3 h3 => ⟨ew, ?_⟩
    refine ⟨ρ3, L3, _, t02.trans t3, en3, ow3, h3, fun b H4 L4 t4 ow4 h4 => ?_⟩
    cases b with
    | false =>
      obtain ⟨L9, sb, h9⟩ := h4.2 rfl
      exact iteF ⟨(t12.trans t3).trans t4, L9, ow4.sub sb, h9⟩
    | true =>
      refine iteT ⟨ρ3, L4, _, (t02.trans t3).trans t4, en3.mono t4, ow4, h4.1 rfl, fun v H5 d5 L5 t5 ow5 i5 h5 => ?_⟩
      obtain ⟨acc, R, pl, hz, L9, sb, h6⟩ := h5
      obtain ⟨owp, xs, e1, i1⟩ := own_at ow5 pl
      obtain ⟨t6, ow6⟩ := own_put (es := acc ++ [d5]) (ys := xs ++ [v]) owp e1 (i1.append (.one i5))
      exact ⟨xs, e1, by rw [i1.length]; exact hz, (((t12.trans t3).trans t4).trans t5).trans t6, _, ow6.sub sb, h6⟩
  · have e : i = ds.length := by omega
    subst e
    exact .inl ⟨iter.stop H' L' t' ow' kp, k _ H' (.ref r) L' (t1.trans t') ow' rfl (wd L' wi)⟩
section
variable {X : Cx} {H0 : Hp} {elt tg iter : Expr} {ifs : List Expr} {scope : Scope} {pos : Pos} {it : DTI} {g : TG} {gd : DTG} {tt : DTT} {te : DTE}
theorem d_lc (own : List (Str × Nat)) (hc : X.calm = true) (hN : X.N.Nodup) (hi : DPI X H0 tg iter it) (ok : BlkOk X.N X.env.scope scope own)
    (hg : ∀ (s : Shared) (H : Hp) (C : Addr) (cl : List (Str × Addr)) (fp : List Addr), DPGW (X.blk s H scope (compEnvC scope cl C X.env) fp) H0 (own.map (·.2)) tg g gd)
    (ht : ∀ (s : Shared) (H : Hp) (C : Addr) (cl : List (Str × Addr)) (fp : List Addr), DPTs (X.blk s H scope (compEnvC scope cl C X.env) fp) H0 ifs tt)
    (he : ∀ (s : Shared) (H : Hp) (C : Addr) (cl : List (Str × Addr)) (fp : List Addr), DPE (X.blk s H scope (compEnvC scope cl C X.env) fp) H0 elt te) (hs : ∀ x, foldedSetIterable iter X.env x = pure x := by intro _; rfl) :
    DPE X H0 (.ListComp elt [⟨tg, iter, ifs, 0⟩] scope pos) (wLc it gd tt te (own.map (·.2))) := by
  obtain ⟨wi, pi, li⟩ := hi
  exact ⟨_, pe_lc (tt := upT X.K H0 tt) (te := upE X.K H0 te) hc hN pi ok (fun s H C cl fp => (hg s H C cl fp).1) ht (fun s H C cl fp => (he s H C cl fp).up) hs, llc li (hg X.s_0 H0 0 [] []).2⟩
theorem ds_setLc (own : List (Str × Nat)) (i : Nat) {y : Str} {py spos : Pos} (hc : X.calm = true) (hN : X.N.Nodup) (hi : DPI X H0 tg iter it) (ok : BlkOk X.N X.env.scope scope own)
    (hg : ∀ (s : Shared) (H : Hp) (C : Addr) (cl : List (Str × Addr)) (fp : List Addr), DPGW (X.blk s H scope (compEnvC scope cl C X.env) fp) H0 (own.map (·.2)) tg g gd)
    (ht : ∀ (s : Shared) (H : Hp) (C : Addr) (cl : List (Str × Addr)) (fp : List Addr), DPTs (X.blk s H scope (compEnvC scope cl C X.env) fp) H0 ifs tt)
    (he : ∀ (s : Shared) (H : Hp) (C : Addr) (cl : List (Str × Addr)) (fp : List Addr), DPE (X.blk s H scope (compEnvC scope cl C X.env) fp) H0 elt te)
    (hsw : swapsWith (.ListComp elt [⟨tg, iter, ifs, 0⟩] scope pos) (some (.Name y py)) spos.line X.env = pure true) (hy : X.N[i]? = some y := by rfl) (hyl : X.env.scope.names.lookup y = some .local := by rfl) (hs : ∀ x, foldedSetIterable iter X.env x = pure x := by intro _; rfl) :
    DPS X H0 (.Assign [.Name y py] (.ListComp elt [⟨tg, iter, ifs, 0⟩] scope pos) spos) (wAsg (wLc it gd tt te (own.map (·.2))) (gN i)) := by
  obtain ⟨wi, pi, li⟩ := hi
  refine ⟨_, ps_setLc (tt := upT X.K H0 tt) (te := upE X.K H0 te) hc hN hy hyl hsw pi ok (fun s H C cl fp => (hg s H C cl fp).1) ht (fun s H C cl fp => (he s H C cl fp).up) hs, ⟨fun σ H ρ L P Q t0 en ow h g2 => ?_⟩⟩
  exact (llc li (hg X.s_0 H0 0 [] []).2).run σ H ρ L _ _ t0 en ow h fun v H1 d L1 t1 ow1 i1 h1 => (lg_name (H0 := H0) i).run v d σ H1 ρ L1 _ _ (t0.trans t1) (en.mono t1) ow1 i1 h1 (g2.nx.mono t1)
theorem dgw_name (i : Nat) {x : Str} {vs : List Nat} (hN : X.N.Nodup) (hm : i ∈ vs) (hi : X.N[i]? = some x := by rfl) (hx : Loc X.env.scope x := by first | exact Or.inl rfl | exact Or.inr rfl) (hf : X.fn x = true ∨ X.env.scope.names.lookup x = some .local := by first | exact .inl rfl | exact .inr rfl | assumption) : DPGW X H0 vs (.Name x pos) (gName i) (gN i) :=
  ⟨pg_name hN hi hx hf, lgw_name i hm⟩
end

/-! ### defs -/
abbrev DPX := Value → Option Addr → List Itm → Prop
abbrev DSpec := List D → List Itm → DK → DPX → Prop
abbrev noX : DPX := fun _ _ _ => False
def upSp (K : PySem.W.Frag) (s : DSpec) : Sp := fun vs H Q E => ∃ ds L P PX, ImmL K H ds vs ∧ Own K H L ∧ s ds L P PX ∧ Goes K H P Q ∧ ∀ (cls : Value) (dd : Option Addr) (H' : Hp) (L' : List Itm), TK H H' → Own K H' L' → PX cls dd L' → E cls dd H'
theorem upSp_len {K : PySem.W.Frag} {s : DSpec} {n : Nat} (len : ∀ ds L P PX, s ds L P PX → ds.length = n) (vs : List V) (H : Hp) (Q : VK) (E : XK) (h : upSp K s vs H Q E) : vs.length = n := by
  obtain ⟨ds, L, P, PX, i, ow, q, _⟩ := h
  rw [i.length]
  exact len _ _ _ _ q
section
variable {P : Program} {w : World} {K : PySem.W.Frag} {mg : Str → Option Value} {base : Heap}
/-- a def that lets nothing out -/
theorem fn_d {x qual : Str} {st : Stmt} {f : Addr} {fd : FuncData} {N ps : List Str} {k : Nat} {s : DSpec} (F : Fun K x qual st f fd) (S : FnScope N ps (defScope st)) (len : ∀ ds L P PX, s ds L P PX → ds.length = ps.length)
    (hbody : ∀ (cdv : Value) (A : Around) (outer : List Env) (s0 : Shared) (H : Hp) (E : XK), Room k (A.deeper (envOfC qual (defScope st) s0.heap.objs.size f cdv)) →
      ∃ t : DTS, DPSs (cxOf CX0 P w K mg base N qual (defScope st) f cdv A outer s0 H E).nox H (defBody st) t ∧ ∀ ds L P PX, s ds L P PX → t { nx := fun _ L' => Dn P .non L', rt := Dn P } (startD N.length ds) L) : FnOk P w K mg base CX0 (k + 1) f fd ps (upSp K s) := by
  refine F.ok S (upSp_len len) fun cdv A outer s0 H vs Q E hr h => ?_
  obtain ⟨t, ⟨ts, p, l⟩, q⟩ := hbody cdv A outer s0 H E hr
  obtain ⟨ds, L, P, PX, i, ow, sp, g, _⟩ := h
  exact ⟨ts, p, l.run _ H _ L _ _ (.refl H) (EnvD.start i) ow (q ds L P PX sp) ⟨fun σ H' ρ L' t' en' ow' ⟨L2, sb, h'⟩ => g _ H' .non L2 t' (ow'.sub sb) rfl h', fun v H' d L' t' ow' im ⟨L2, sb, h'⟩ => g v H' d L2 t' (ow'.sub sb) im h', fun _ _ _ _ _ _ _ z => z.elim, fun _ _ _ _ _ _ _ z => z.elim⟩⟩
/-- what is wished of an exception, over data -/
abbrev DWX := Value → Option Addr → Rho → List Itm → Prop
def RW (K : PySem.W.Frag) (H0 : Hp) (W : WX) (DW : DWX) : Prop := ∀ (σ : St) (H : Hp) (ρ : Rho) (L : List Itm) (cls : Value) (d : Option Addr), TK H0 H → EnvD K H σ ρ → Own K H L → DW cls d ρ L → W cls d σ H
/-- a def that may raise -/
theorem fn_dX {x qual : Str} {st : Stmt} {f : Addr} {fd : FuncData} {N ps : List Str} {k : Nat} {s : DSpec} (F : Fun K x qual st f fd) (S : FnScope N ps (defScope st)) (len : ∀ ds L P PX, s ds L P PX → ds.length = ps.length)
    (hbody : ∀ (cdv : Value) (A : Around) (outer : List Env) (s0 : Shared) (H : Hp) (E : XK) (PX : DPX), Room k (A.deeper (envOfC qual (defScope st) s0.heap.objs.size f cdv)) → RW K H (fun cls d _ H' => E cls d H') (fun cls d _ L' => PX cls d L') →
      ∃ t : DTS, DPSs (cxOf (L2.CX P w) P w K mg base N qual (defScope st) f cdv A outer s0 H E) H (defBody st) t ∧ ∀ ds L P, s ds L P PX → t { nx := fun _ L' => Dn P .non L', rt := Dn P } (startD N.length ds) L) : FnOk P w K mg base (L2.CX P w) (k + 1) f fd ps (upSp K s) := by
  refine F.okX S (upSp_len len) fun cdv A outer s0 H vs Q E hr h => ?_
  obtain ⟨ds, L, P, PX, i, ow, sp, g, gx⟩ := h
  obtain ⟨t, ⟨ts, p, l⟩, q⟩ := hbody cdv A outer s0 H E PX hr fun σ H' ρ L' cls d t' en' ow' h' => gx cls d H' L' t' ow' h'
  exact ⟨ts, p, l.run _ H _ L _ _ (.refl H) (EnvD.start i) ow (q ds L P sp) ⟨fun σ H' ρ L' t' en' ow' ⟨L2, sb, h'⟩ => g _ H' .non L2 t' (ow'.sub sb) rfl h', fun v H' d L' t' ow' im ⟨L2, sb, h'⟩ => g v H' d L2 t' (ow'.sub sb) im h', fun _ _ _ _ _ _ _ z => z.elim, fun _ _ _ _ _ _ _ z => z.elim⟩⟩
end
/-- f(..), the callee lets nothing out -/
def wCall (s : DSpec) (dds : List D) (a : DTA) : DTE := fun ρ L P => a ρ L fun ds L1 => s (ds ++ dds) L1 P noX
/-- f(..), what it lets out is wished for -/
def wCallX (s : DSpec) (dds : List D) (DW : DWX) (a : DTA) : DTE := fun ρ L P => a ρ L fun ds L1 => s (ds ++ dds) L1 P fun cls d L' => DW cls d ρ L'
section
variable {X : Cx} {H0 : Hp} {CXt : CXT} {k : Nat} {f C : Addr} {fd : FuncData} {ps : List Str} {s : DSpec} {dvs : List V} {dds : List D} {dvals : List Value} {x m : Str} {p pos apos : Pos} {e o : Expr} {es : List Expr} {wo : DTE} {wr : DTA}
/-- defaults: flat values -/
def DefD (K : PySem.W.Frag) (ds : List D) (vs : List V) : Prop := ∀ H, ImmL K H ds vs
theorem defD_nil {K : PySem.W.Frag} : DefD K [] [] := fun _ => rfl
theorem goes_call {K : PySem.W.Frag} {H : Hp} {ds : List D} {vs : List V} {L : List Itm} {P : DK} {Q : VK} {E : XK} (i : ImmL K H ds vs) (ow : Own K H L) (h : s ds L P noX) (g : Goes K H P Q) : upSp K s vs H Q E :=
  ⟨ds, L, P, noX, i, ow, h, g, fun _ _ _ _ _ _ z => z.elim⟩
theorem d_callD (F : FnOk X.prog X.w X.K X.mg X.base CX0 k f fd ps (upSp X.K s)) (hr : Room k X.A) (hm : X.mg x = some (.ref f)) (hk : PySem.W.keepIn X.K (.ref f) = true) (hb : Binds X.K fd ps dvals) (hd : Vals dvs dvals) (hdd : DefD X.K dds dvs)
    (ha : DPA X H0 (e :: es) wr) (hg : Gl X x := by rfl) (hdb : (x == ("__debug__" : Str)) = false := by decide) (he : starEach (e :: es) X.env = (false, eval e X.env) :: starEach es X.env := by rfl) (hpl : (backTo pos (starEach es X.env)).any (·.1) = false := by rfl) :
    DPE X H0 (.Call (.Name x p) (e :: es) [] pos) (wCall s dds wr) := by
  obtain ⟨t, q, l⟩ := ha
  refine ⟨_, pe_call F hr hg hm hk hb hd (E := E0) pass0 q hdb he hpl, ⟨fun σ H ρ L P Q t0 en ow h g => ?_⟩⟩
  exact l.run σ H ρ L _ _ t0 en ow h fun xs H1 ds L1 t1 ow1 i1 h1 => goes_call (i1.append (hdd H1)) ow1 h1 (g.mono t1)
theorem d_call (F : FnOk X.prog X.w X.K X.mg X.base CX0 k f fd ps (upSp X.K s)) (hr : Room k X.A) (hm : X.mg x = some (.ref f)) (hk : PySem.W.keepIn X.K (.ref f) = true) (hb : Binds X.K fd ps [])
    (ha : DPA X H0 (e :: es) wr) (hg : Gl X x := by rfl) (hdb : (x == ("__debug__" : Str)) = false := by decide) (he : starEach (e :: es) X.env = (false, eval e X.env) :: starEach es X.env := by rfl) (hpl : (backTo pos (starEach es X.env)).any (·.1) = false := by rfl) :
    DPE X H0 (.Call (.Name x p) (e :: es) [] pos) (wCall s [] wr) := d_callD F hr hm hk hb .nil defD_nil ha hg hdb he hpl
theorem d_call0 (F : FnOk X.prog X.w X.K X.mg X.base CX0 k f fd ps (upSp X.K s)) (hr : Room k X.A) (hm : X.mg x = some (.ref f)) (hk : PySem.W.keepIn X.K (.ref f) = true) (hb : Binds X.K fd ps [])
    (hg : Gl X x := by rfl) (hdb : (x == ("__debug__" : Str)) = false := by decide) : DPE X H0 (.Call (.Name x p) [] [] pos) (wCall s [] wNil) := by
  refine ⟨_, pe_call0 F hr hg hm hk hb .nil (E := E0) pass0 hdb, ⟨fun σ H ρ L P Q t0 en ow h g => ?_⟩⟩
  exact goes_call (ds := []) (vs := []) rfl ow h g
/-- the callee may raise (CX), but not here: what it lets out is False -/
theorem d_callL (F : FnOk X.prog X.w X.K X.mg X.base (L2.CX X.prog X.w) k f fd ps (upSp X.K s)) (hr : Room k X.A) (hm : X.mg x = some (.ref f)) (hk : PySem.W.keepIn X.K (.ref f) = true) (hb : Binds X.K fd ps [])
    (ha : DPA X H0 (e :: es) wr) (hg : Gl X x := by rfl) (hdb : (x == ("__debug__" : Str)) = false := by decide) (he : starEach (e :: es) X.env = (false, eval e X.env) :: starEach es X.env := by rfl) (hpl : (backTo pos (starEach es X.env)).any (·.1) = false := by rfl) :
    DPE X H0 (.Call (.Name x p) (e :: es) [] pos) (wCall s [] wr) := by
  obtain ⟨t, q, l⟩ := ha
  refine ⟨_, pe_call F hr hg hm hk hb .nil (E := E0) passL q hdb he hpl, ⟨fun σ H ρ L P Q t0 en ow h g => ?_⟩⟩
  exact l.run σ H ρ L _ _ t0 en ow h fun xs H1 ds L1 t1 ow1 i1 h1 => goes_call (by rw [List.append_nil, List.append_nil]; exact i1) ow1 h1 (g.mono t1)
theorem d_callX {W : WX} {DW : DWX} (F : FnOk X.prog X.w X.K X.mg X.base (L2.CX X.prog X.w) k f fd ps (upSp X.K s)) (hr : Room k X.A) (hm : X.mg x = some (.ref f)) (hk : PySem.W.keepIn X.K (.ref f) = true) (hb : Binds X.K fd ps []) (tk : Takes X W) (rw' : RW X.K H0 W DW)
    (ha : DPA X H0 (e :: es) wr) (hg : Gl X x := by rfl) (hdb : (x == ("__debug__" : Str)) = false := by decide) (he : starEach (e :: es) X.env = (false, eval e X.env) :: starEach es X.env := by rfl) (hpl : (backTo pos (starEach es X.env)).any (·.1) = false := by rfl) :
    DPE X H0 (.Call (.Name x p) (e :: es) [] pos) (wCallX s [] DW wr) := by
  obtain ⟨t, q, l⟩ := ha
  refine ⟨_, pe_callS F hr hg hm hk hb (E := WE W) (fun σ => passAt tk σ) q hdb he hpl, ⟨fun σ H ρ L P Q t0 en ow h g => ?_⟩⟩
  refine l.run σ H ρ L _ _ t0 en ow h fun xs H1 ds L1 t1 ow1 i1 h1 => ?_
  refine ⟨ds ++ [], L1, P, _, by rw [List.append_nil]; exact i1, ow1, h1, g.mono t1, fun cls dd H' L' t' ow' z => ?_⟩
  exact rw' σ H' ρ L' cls dd ((t0.trans t1).trans t') ((en.mono t1).mono t') ow' z
end
end DL

set_option maxRecDepth 100000
set_option maxHeartbeats 2000000
namespace DL
open PySem L2

/-! ### one step at a time -/
/-- a slot is stored -/
inductive SetR : Rho → Nat → Option D → Rho → Prop
  | here {a x : Option D} {r : Rho} : SetR (a :: r) 0 x (x :: r)
  | there {a x : Option D} {r r' : Rho} {i : Nat} (h : SetR r i x r') : SetR (a :: r) (i + 1) x (a :: r')
theorem SetR.eq {ρ ρ' : Rho} {i : Nat} {x : Option D} (h : SetR ρ i x ρ') : ρ.set i x = ρ' := by
  induction h with
  | here => rfl
  | there h ih => rw [List.set_cons_succ, ih]
theorem set0 {a0 x : Option D} {r : Rho} : SetR (a0 :: r) 0 x (x :: r) := .here
theorem set1 {a0 a1 x : Option D} {r : Rho} : SetR (a0 :: a1 :: r) 1 x (a0 :: x :: r) := .there .here
theorem set2 {a0 a1 a2 x : Option D} {r : Rho} : SetR (a0 :: a1 :: a2 :: r) 2 x (a0 :: a1 :: x :: r) := .there (.there .here)
theorem set3 {a0 a1 a2 a3 x : Option D} {r : Rho} : SetR (a0 :: a1 :: a2 :: a3 :: r) 3 x (a0 :: a1 :: a2 :: x :: r) := .there (.there (.there .here))
theorem set4 {a0 a1 a2 a3 a4 x : Option D} {r : Rho} : SetR (a0 :: a1 :: a2 :: a3 :: a4 :: r) 4 x (a0 :: a1 :: a2 :: a3 :: x :: r) := .there set3
theorem set5 {a0 a1 a2 a3 a4 a5 x : Option D} {r : Rho} : SetR (a0 :: a1 :: a2 :: a3 :: a4 :: a5 :: r) 5 x (a0 :: a1 :: a2 :: a3 :: a4 :: x :: r) := .there set4
theorem set6 {a0 a1 a2 a3 a4 a5 a6 x : Option D} {r : Rho} : SetR (a0 :: a1 :: a2 :: a3 :: a4 :: a5 :: a6 :: r) 6 x (a0 :: a1 :: a2 :: a3 :: a4 :: a5 :: x :: r) := .there set5
theorem set7 {a0 a1 a2 a3 a4 a5 a6 a7 x : Option D} {r : Rho} : SetR (a0 :: a1 :: a2 :: a3 :: a4 :: a5 :: a6 :: a7 :: r) 7 x (a0 :: a1 :: a2 :: a3 :: a4 :: a5 :: a6 :: x :: r) := .there set6
theorem set8 {a0 a1 a2 a3 a4 a5 a6 a7 a8 x : Option D} {r : Rho} : SetR (a0 :: a1 :: a2 :: a3 :: a4 :: a5 :: a6 :: a7 :: a8 :: r) 8 x (a0 :: a1 :: a2 :: a3 :: a4 :: a5 :: a6 :: a7 :: x :: r) := .there set7
section
variable {a b c d : Rho → List Itm → Prop} {nx bk ct : Rho → List Itm → Prop} {rt : D → List Itm → Prop} {ρ ρ' : Rho} {L R : List Itm} {P Q : DK} {K : DEnds} {t u : DTS} {w wa wb wo : DTE} {wr : DTA} {wt wu : DTT} {x y z : D} {i j : Int} {n : Nat} {s s' : Str} {ds es : List D} {p q : Addr} {PA : List D → List Itm → Prop} {PB : Bool → List Itm → Prop} {f : D → D → List Itm → DK → Prop} {gd : DTG} {A B : Prop} {bb : Bool} {PO : Option Int → List Itm → Prop}
-- statements
theorem s_seq (h : t ⟨fun ρ L => u ⟨nx, rt, bk, ct⟩ ρ L, rt, bk, ct⟩ ρ L) : wSeq t u ⟨nx, rt, bk, ct⟩ ρ L := ⟨fun ρ L => u ⟨nx, rt, bk, ct⟩ ρ L, h, fun _ _ h => h⟩
theorem s_cut (M : Rho → List Itm → Prop) (h : t ⟨M, rt, bk, ct⟩ ρ L) (k : ∀ ρ' L', M ρ' L' → u ⟨nx, rt, bk, ct⟩ ρ' L') : wSeq t u ⟨nx, rt, bk, ct⟩ ρ L := ⟨M, h, k⟩
theorem s_next (h : nx ρ L) : wNext ⟨nx, rt, bk, ct⟩ ρ L := h
theorem s_break (h : bk ρ L) : wBreak ⟨nx, rt, bk, ct⟩ ρ L := h
theorem s_cont (h : ct ρ L) : wCont ⟨nx, rt, bk, ct⟩ ρ L := h
theorem s_drop (h : w ρ L fun _ L1 => nx ρ L1) : wDrop w ⟨nx, rt, bk, ct⟩ ρ L := h
theorem s_ret (h : w ρ L rt) : wRet w ⟨nx, rt, bk, ct⟩ ρ L := h
theorem s_retN (h : rt .non L) : wRetN ⟨nx, rt, bk, ct⟩ ρ L := h
theorem s_asg (h : w ρ L fun d L1 => gd d ρ L1 nx) : wAsg w gd ⟨nx, rt, bk, ct⟩ ρ L := h
theorem s_gn {k : Nat} {M : Rho → List Itm → Prop} (hs : SetR ρ k (some x) ρ') (h : M ρ' L) : gN k x ρ L M := by
  show M (ρ.set k (some x)) L
  rw [hs.eq]
  exact h
theorem s_if (h : wt ρ L fun c L1 => (c = true → t ⟨nx, rt, bk, ct⟩ ρ L1) ∧ (c = false → u ⟨nx, rt, bk, ct⟩ ρ L1)) : wIfS wt t u ⟨nx, rt, bk, ct⟩ ρ L := h
-- tests' answers
theorem s_t (h : A) : (true = true → A) ∧ (true = false → B) := ⟨fun _ => h, fun z => nomatch z⟩
theorem s_f (h : B) : (false = true → A) ∧ (false = false → B) := ⟨fun z => (nomatch z), fun _ => h⟩
theorem s_d {p : Prop} [Decidable p] (h1 : p → A) (h2 : ¬ p → B) : (decide p = true → A) ∧ (decide p = false → B) := ⟨fun h => h1 (of_decide_eq_true h), fun h => h2 (of_decide_eq_false h)⟩
theorem s_nd {p : Prop} [Decidable p] (h1 : ¬ p → A) (h2 : p → B) : ((!decide p) = true → A) ∧ ((!decide p) = false → B) := ⟨fun h => h1 (by simpa using h), fun h => h2 (by simpa using h)⟩
theorem s_b (h1 : bb = true → A) (h2 : bb = false → B) : (bb = true → A) ∧ (bb = false → B) := ⟨h1, h2⟩
theorem s_nb (h1 : bb = false → A) (h2 : bb = true → B) : ((!bb) = true → A) ∧ ((!bb) = false → B) := ⟨fun h => h1 (by simpa using h), fun h => h2 (by simpa using h)⟩
theorem s_is (e : bb = true) (h : A) : (bb = true → A) ∧ (bb = false → B) := ⟨fun _ => h, fun z => (by rw [e] at z; cases z)⟩
theorem s_isn (e : bb = false) (h : B) : (bb = true → A) ∧ (bb = false → B) := ⟨fun z => (by rw [e] at z; cases z), fun _ => h⟩
-- expressions
theorem e_var {k : Nat} (h : ρ[k]? = some (some x)) (q : P x L) : wVar k ρ L P := ⟨x, h, q⟩
theorem e_c (q : P x L) : wC x ρ L P := q
theorem e_op (h : wa ρ L fun x L1 => wb ρ L1 fun y L2 => f x y L2 P) : wOp f wa wb ρ L P := h
theorem e_un {f : D → List Itm → DK → Prop} (h : wa ρ L fun x L1 => f x L1 P) : wUn f wa ρ L P := h
theorem e_nil (q : PA [] L) : wNil ρ L PA := q
theorem e_cons (h : wa ρ L fun x L1 => wr ρ L1 fun xs L2 => PA (x :: xs) L2) : wCons wa wr ρ L PA := h
theorem e_tup (h : wr ρ L fun ds L1 => ds.length ≤ sizeLine ∧ P (.tup ds) L1) : wTup wr ρ L P := h
theorem e_lst (h : wr ρ L fun ds L1 => ds.length ≤ sizeLine ∧ ∀ p, P (.ref p) (.l p ds :: L1)) : wLst wr ρ L P := h
theorem e_cb {f : List D → List Itm → DK → Prop} (h : wr ρ L fun ds L1 => f ds L1 P) : wCB f wr ρ L P := h
theorem e_ml {f : D → List D → List Itm → DK → Prop} (h : wo ρ L fun d L1 => ∃ p ds, d = .ref p ∧ keepL p ds L1 ∧ wr ρ L1 fun xs L2 => f d xs L2 P) : wML f wo wr ρ L P := h
theorem e_ml1 {X : Prop} (k : keepL p ds L) (h : X) : ∃ p' ds', D.ref p = .ref p' ∧ keepL p' ds' L ∧ X := ⟨p, ds, rfl, k, h⟩
theorem e_ms {f : D → List D → List Itm → DK → Prop} (h : wo ρ L fun d L1 => ∃ s, d = .str s ∧ wr ρ L1 fun xs L2 => f d xs L2 P) : wMS f wo wr ρ L P := h
theorem e_ms1 {X : Prop} (h : X) : ∃ s', D.str s = .str s' ∧ X := ⟨s, rfl, h⟩
theorem e_if (h : wt ρ L fun c L1 => (c = true → wa ρ L1 P) ∧ (c = false → wb ρ L1 P)) : wIf wt wa wb ρ L P := h
theorem e_call {sp : DSpec} {dds : List D} (h : wr ρ L fun ds L1 => sp (ds ++ dds) L1 P noX) : wCall sp dds wr ρ L P := h
theorem e_callX {sp : DSpec} {dds : List D} {DW : DWX} (h : wr ρ L fun ds L1 => sp (ds ++ dds) L1 P fun cls d L' => DW cls d ρ L') : wCallX sp dds DW wr ρ L P := h
theorem e_andV (h : wa ρ L fun d L1 => ∃ c, d = .bl c ∧ (c = true → wb ρ L1 P) ∧ (c = false → P (.bl false) L1)) : wAndV wa wb ρ L P := h
theorem e_orV (h : wa ρ L fun d L1 => ∃ c, d = .bl c ∧ (c = true → P (.bl true) L1) ∧ (c = false → wb ρ L1 P)) : wOrV wa wb ρ L P := h
theorem e_notV (h : wa ρ L fun d L1 => ∃ c, d = .bl c ∧ P (.bl (!c)) L1) : wNotV wa ρ L P := h
theorem e_sl {lo hi : DTO} (h : wa ρ L fun d L1 => lo ρ L1 fun l L2 => hi ρ L2 fun h L3 => fSl d l h L3 P) : wSl wa lo hi ρ L P := h
theorem e_np (h : PO none L) : wNoPart ρ L PO := h
theorem e_pt (h : wa ρ L fun d L1 => ∃ i, d = .int i ∧ PO (some i) L1) : wPart wa ρ L PO := h
-- tests
theorem t_b (h : wa ρ L fun d L1 => ∃ b, d = .bl b ∧ PB b L1) : wB wa ρ L PB := h
theorem t_tru (h : wa ρ L fun d L1 => truD d L1 PB) : wTru wa ρ L PB := h
theorem t_and (h : wt ρ L fun c L1 => (c = true → wu ρ L1 PB) ∧ (c = false → PB false L1)) : wAnd wt wu ρ L PB := h
theorem t_or (h : wt ρ L fun c L1 => (c = true → PB true L1) ∧ (c = false → wu ρ L1 PB)) : wOr wt wu ρ L PB := h
theorem t_not (h : wt ρ L fun c L1 => PB (!c) L1) : wNot wt ρ L PB := h
theorem t_yes (h : PB true L) : wYes ρ L PB := h
-- values met
theorem v_bl {X : Bool → Prop} (h : X bb) : ∃ b, D.bl bb = .bl b ∧ X b := ⟨bb, rfl, h⟩
theorem v_int {X : Int → Prop} (h : X i) : ∃ k, D.int i = .int k ∧ X k := ⟨i, rfl, h⟩
theorem v_trB (h : PB bb L) : truD (.bl bb) L PB := h
theorem v_trI (h : PB (i != 0) L) : truD (.int i) L PB := h
theorem v_trN (h : PB false L) : truD .non L PB := h
theorem v_trL (k : Itm.l p ds ∈ L) (h : PB (!ds.isEmpty) L) : truD (.ref p) L PB := ⟨ds, k, h⟩
theorem v_trT (h : PB (!ds.isEmpty) L) : truD (.tup ds) L PB := h
theorem v_addI (h : P (.int (i + j)) L) : fAdd (.int i) (.int j) L P := h
theorem v_addS (hz : s.length + s'.length ≤ sizeLine) (h : P (.str (s ++ s')) L) : fAdd (.str s) (.str s') L P := ⟨hz, h⟩
theorem v_addL (k1 : Itm.l p ds ∈ L) (k2 : Itm.l q es ∈ L) (hz : ds.length + es.length ≤ sizeLine) (h : ∀ r, P (.ref r) (.l r (ds ++ es) :: L)) : fAdd (.ref p) (.ref q) L P := ⟨ds, es, k1, k2, hz, h⟩
theorem v_addT (hz : ds.length + es.length ≤ sizeLine) (h : P (.tup (ds ++ es)) L) : fAdd (.tup ds) (.tup es) L P := ⟨hz, h⟩
theorem v_I0 {g : Int → Int → D} (h : P (g i j) L) : fI0 g (.int i) (.int j) L P := h
theorem v_I {g : Int → Int → D} {C : Int → Int → Prop} (c : C i j) (h : P (g i j) L) : fI g C (.int i) (.int j) L P := ⟨c, h⟩
theorem v_mulI (c : CMul i j) (h : P (.int (i * j)) L) : fMul (.int i) (.int j) L P := ⟨c, h⟩
theorem v_mulS (h0 : 0 ≤ i) (h1 : i ≤ 16777216) (hz : s.length * i.toNat ≤ sizeLine) (h : P (.str (repS s i)) L) : fMul (.str s) (.int i) L P := ⟨h0, h1, hz, h⟩
theorem v_mulL (k : Itm.l p ds ∈ L) (h0 : 0 ≤ i) (h1 : i ≤ 16777216) (hz : ds.length * i.toNat ≤ sizeLine) (h : ∀ r, P (.ref r) (.l r ((List.replicate i.toNat ds).flatten) :: L)) : fMul (.ref p) (.int i) L P := ⟨ds, k, h0, h1, hz, h⟩
theorem v_neg (h : P (.int (-i)) L) : fNeg (.int i) L P := h
theorem v_eqI {g : Bool → Bool} (h : P (.bl (g (decide (i = j)))) L) : fEqG g (.int i) (.int j) L P := h
theorem v_eqS {g : Bool → Bool} (h : P (.bl (g (decide (s = s')))) L) : fEqG g (.str s) (.str s') L P := h
theorem v_eqB {g : Bool → Bool} {b b' : Bool} (h : P (.bl (g (decide (b = b')))) L) : fEqG g (.bl b) (.bl b') L P := h
theorem v_is {g : Bool → Bool} (h : P (.bl (g (isN x))) L) : fIsG g x .non L P := h
theorem v_ixL (k : keepL p ds L) (e : atI ds i = some x) (h : P x L) : fIx (.ref p) (.int i) L P := ⟨ds, x, k, e, h⟩
theorem v_ixT (e : atI ds i = some x) (h : P x L) : fIx (.tup ds) (.int i) L P := ⟨x, e, h⟩
theorem v_ixS {c : Nat} (hz : s.length ≤ sizeLine) (e : atI s.cps.toList i = some c) (h : P (.str ⟨#[c]⟩) L) : fIx (.str s) (.int i) L P := ⟨c, hz, e, h⟩
theorem v_slL {lo hi : Option Int} (k : keepL p ds L) (h : ∀ q, P (.ref q) (.l q (cutD ds lo hi) :: L)) : fSl (.ref p) lo hi L P := ⟨ds, k, h⟩
theorem v_slT {lo hi : Option Int} (h : P (.tup (cutD ds lo hi)) L) : fSl (.tup ds) lo hi L P := h
theorem v_slS {lo hi : Option Int} (hz : s.length ≤ sizeLine) (h : P (.str (cutS s lo hi)) L) : fSl (.str s) lo hi L P := ⟨hz, h⟩
theorem v_inT {g : Bool → Bool} (f1 : flatD x = true) (f2 : ds.all flatD = true) (h : P (.bl (g (inD x ds))) L) : fInG g x (.tup ds) L P := by
  cases x <;> exact ⟨f1, f2, h⟩
theorem v_inL {g : Bool → Bool} (k : keepL p ds L) (f1 : flatD x = true) (f2 : ds.all flatD = true) (h : P (.bl (g (inD x ds))) L) : fInG g x (.ref p) L P := by
  cases x <;> exact ⟨ds, k, f1, f2, h⟩
theorem v_inS {g : Bool → Bool} (h : P (.bl (g (!(Builtin.Str.occurrences s' s 0 s'.length 1).isEmpty))) L) : fInG g (.str s) (.str s') L P := h
theorem v_lenS (hz : s.length ≤ sizeLine) (h : P (.int s.length) L) : fLen [.str s] L P := ⟨_, rfl, hz, h⟩
theorem v_lenL (k : keepL p ds L) (h : P (.int ds.length) L) : fLen [.ref p] L P := ⟨_, rfl, ds, k, h⟩
theorem v_lenT (h : P (.int ds.length) L) : fLen [.tup ds] L P := ⟨_, rfl, h⟩
theorem v_int1 (h : P (.int i) L) : fInt [.int i] L P := ⟨i, rfl, h⟩
theorem v_abs (h : P (.int (if i < 0 then -i else i)) L) : fAbs [.int i] L P := ⟨i, rfl, h⟩
theorem v_max2 (h : P (.int (if j > i then j else i)) L) : fMax2 [.int i, .int j] L P := ⟨i, j, rfl, h⟩
theorem v_min2 (h : P (.int (if j < i then j else i)) L) : fMin2 [.int i, .int j] L P := ⟨i, j, rfl, h⟩
theorem v_ord (hz : s.length = 1) (h : P (.int (s.cps.getD 0 0 : Nat)) L) : fOrd [.str s] L P := ⟨s, rfl, hz, h⟩
theorem v_strI (hz : i.natAbs.log2 < 1920) (h : P (.str (toString i)) L) : fStrI [.int i] L P := ⟨i, rfl, hz, h⟩
theorem v_listL (k : keepL p ds L) (h : ∀ q, P (.ref q) (.l q ds :: L)) : fList [.ref p] L P := ⟨_, rfl, ds, k, h⟩
theorem v_listT (h : ∀ q, P (.ref q) (.l q ds :: L)) : fList [.tup ds] L P := ⟨_, rfl, h⟩
theorem v_tupL (k : keepL p ds L) (h : P (.tup ds) L) : fTuple [.ref p] L P := ⟨_, rfl, ds, k, h⟩
theorem v_tupT (h : P (.tup ds) L) : fTuple [.tup ds] L P := ⟨_, rfl, h⟩
theorem v_sum {ns : List Int} (k : keepL p (ns.map D.int) L) (h : P (.int ns.sum) L) : fSum [.ref p] L P := ⟨p, rfl, ns, k, h⟩
theorem v_all {bs : List Bool} (k : keepL p (bs.map D.bl) L) (h : P (.bl (bs.all id)) L) : fAll [.ref p] L P := ⟨p, rfl, bs, k, h⟩
theorem v_append (k : Pull L (.l p ds) R) (hz : ds.length < sizeLine) (h : P .non (.l p (ds ++ [y]) :: R)) : fAppend (.ref p) [y] L P := ⟨p, y, rfl, rfl, ds, R, k, hz, h⟩
theorem v_pop (k : Pull L (.l p ds) R) (e : ds[ds.length - 1]? = some x) (h : P x (.l p ds.dropLast :: R)) : fPop (.ref p) [] L P := ⟨p, rfl, rfl, ds, R, x, k, e, h⟩
theorem v_pop0 (k : Pull L (.l p (x :: ds)) R) (h : P x (.l p ds :: R)) : fPopAt (.ref p) [.int 0] L P := ⟨p, 0, rfl, rfl, x :: ds, R, 0, x, k, by decide, by decide, by simp [seqIndex?], rfl, h⟩
theorem v_insert0 (k : Pull L (.l p ds) R) (hz : ds.length < sizeLine) (h : P .non (.l p (y :: ds) :: R)) : fInsert (.ref p) [.int 0, y] L P := ⟨p, 0, y, rfl, rfl, ds, R, k, hz, by decide, by decide, by simpa using h⟩
theorem v_s1 {g : Str → Str → D} (h : P (g s s') L) : fS1 g (.str s) [.str s'] L P := ⟨s, s', rfl, rfl, h⟩
theorem v_split (h1 : (s'.length == 0) = false) (h2 : s.length + 2 ≤ sizeLine) (h : ∀ p, P (.ref p) (.l p ((Txt.split s s').map D.str) :: L)) : fSplit (.str s) [.str s'] L P := ⟨s, s', rfl, rfl, h1, h2, h⟩
theorem v_join {ys : List Str} (k : keepL p (ys.map D.str) L) (hz : (ys.map (·.length)).sum + ys.length * s.length ≤ 16777216) (h : P (.str (Txt.join s ys)) L) : fJoin (.str s) [.ref p] L P := ⟨s, p, rfl, rfl, ys, k, hz, h⟩
-- loops
theorem s_for {it : DTI} (h : it ρ L fun ds keep L1 => ∃ W : Nat → Rho → List Itm → Prop, W 0 ρ L1 ∧ (∀ i ρ' L', i ≤ ds.length → W i ρ' L' → keep L') ∧
  (∀ i d ρ' L', ds[i]? = some d → W i ρ' L' → gd d ρ' L' fun ρ2 L2 => t ⟨Dr (W (i + 1)), rt, nx, Dr (W (i + 1))⟩ ρ2 L2) ∧ (∀ ρ' L', W ds.length ρ' L' → nx ρ' L')) : wFor it gd t ⟨nx, rt, bk, ct⟩ ρ L := h
abbrev TK3 := List D → (List Itm → Prop) → List Itm → Prop
theorem i_seq {T : TK3} (h : w ρ L fun d L1 => seqT d L1 T) : iSeq w ρ L T := h
theorem i_seq1 {T : TK3} (k : keepL p ds L) (h : T ds (keepL p ds) L) : seqT (.ref p) L T := ⟨ds, k, h⟩
theorem i_tup {T : TK3} (h : w ρ L fun d L1 => tupT d L1 T) : iTup w ρ L T := h
theorem i_tup1 {T : TK3} (h : T ds (fun _ => True) L) : tupT (.tup ds) L T := h
theorem i_r1 {T : TK3} (h : wr ρ L fun vs L1 => ∃ n : Int, vs = [.int n] ∧ -(2 ^ 62) ≤ n ∧ n < 2 ^ 62 ∧ T (rgD 0 n.toNat) (fun _ => True) L1) : iR1 wr ρ L T := h
theorem i_r1' {T : TK3} (h1 : -(2 ^ 62) ≤ i) (h2 : i < 2 ^ 62) (h : T (rgD 0 i.toNat) (fun _ => True) L) : ∃ n : Int, [D.int i] = [.int n] ∧ -(2 ^ 62) ≤ n ∧ n < 2 ^ 62 ∧ T (rgD 0 n.toNat) (fun _ => True) L := ⟨i, rfl, h1, h2, h⟩
theorem i_r2 {T : TK3} (h : wr ρ L fun vs L1 => ∃ m n : Int, vs = [.int m, .int n] ∧ (-(2 ^ 62) ≤ m ∧ m < 2 ^ 62 ∧ -(2 ^ 62) ≤ n ∧ n < 2 ^ 62) ∧ T (rgD m (n - m).toNat) (fun _ => True) L1) : iR2 wr ρ L T := h
/-- a range's loop by a word of the turn -/
theorem for_rg {lo : Int} {m : Nat} (W : Nat → Rho → List Itm → Prop) (h0 : W 0 ρ L) (hs : ∀ k ρ' L', k < m → W k ρ' L' → gd (.int (lo + (k : Int))) ρ' L' fun ρ2 L2 => t ⟨Dr (W (k + 1)), rt, nx, Dr (W (k + 1))⟩ ρ2 L2) (hd : ∀ ρ' L', W m ρ' L' → nx ρ' L') :
    ∃ W : Nat → Rho → List Itm → Prop, W 0 ρ L ∧ (∀ i ρ' L', i ≤ (rgD lo m).length → W i ρ' L' → True) ∧ (∀ i d ρ' L', (rgD lo m)[i]? = some d → W i ρ' L' → gd d ρ' L' fun ρ2 L2 => t ⟨Dr (W (i + 1)), rt, nx, Dr (W (i + 1))⟩ ρ2 L2) ∧ (∀ ρ' L', W (rgD lo m).length ρ' L' → nx ρ' L') := by
  refine ⟨W, h0, fun _ _ _ _ _ => trivial, fun i d ρ' L' e w => ?_, fun ρ' L' w => hd ρ' L' (by rw [rgD_length] at w; exact w)⟩
  have hi : i < m := by
    have := (List.getElem?_eq_some_iff.mp e).1
    rw [rgD_length] at this
    exact this
  rw [rgD_get hi] at e
  cases e
  exact hs i ρ' L' hi w
/-- a list's (a tuple's) loop by a word of the turn -/
theorem for_ds {keep : List Itm → Prop} (W : Nat → Rho → List Itm → Prop) (h0 : W 0 ρ L) (hk : ∀ i ρ' L', i ≤ ds.length → W i ρ' L' → keep L') (hs : ∀ k d ρ' L', ds[k]? = some d → W k ρ' L' → gd d ρ' L' fun ρ2 L2 => t ⟨Dr (W (k + 1)), rt, nx, Dr (W (k + 1))⟩ ρ2 L2) (hd : ∀ ρ' L', W ds.length ρ' L' → nx ρ' L') :
    ∃ W : Nat → Rho → List Itm → Prop, W 0 ρ L ∧ (∀ i ρ' L', i ≤ ds.length → W i ρ' L' → keep L') ∧ (∀ i d ρ' L', ds[i]? = some d → W i ρ' L' → gd d ρ' L' fun ρ2 L2 => t ⟨Dr (W (i + 1)), rt, nx, Dr (W (i + 1))⟩ ρ2 L2) ∧ (∀ ρ' L', W ds.length ρ' L' → nx ρ' L') := ⟨W, h0, hk, hs, hd⟩
end
/-- what stands in lists of this form -/
theorem imm_in {L : List Itm} {p : Addr} {ds : List D} (h : Itm.l p ds ∈ L) : keepL p ds L := .inl h
end DL

set_option maxRecDepth 100000
set_option maxHeartbeats 2000000
namespace DL
open PySem L2

/-! ### a text's signs -/
def chD (s : Str) : List D := s.cps.toList.map fun c => .str ⟨#[c]⟩
theorem chD_length (s : Str) : (chD s).length = s.cps.size := by simp [chD]
theorem iter_s {K : PySem.W.Frag} {B : Hp} {s : Str} : DIter K B (Its s) (chD s) (fun _ => True) := by
  refine ⟨fun i H L t ow k hi => by rw [chD_length] at hi; exact hi, fun i H L x H' t ow k hi y => ?_, fun H L t ow k => by rw [chD_length]; exact Nat.le_refl _⟩
  obtain ⟨e, c, hc, rfl⟩ := y
  subst e
  refine ⟨.str ⟨#[c]⟩, ?_, .refl _, ow, rfl⟩
  have : s.cps.toList[i]? = some c := by rw [Array.getElem?_toList]; exact hc
  simp [chD, this]
def iStrD (w : DTE) : DTI := fun ρ L T => w ρ L fun d L1 => ∃ s, d = .str s ∧ T (chD s) (fun _ => True) L1
theorem di_str {X : Cx} {H0 : Hp} {e tg : Expr} {w : DTE} (h : DPE X H0 e w) : DPI X H0 tg e (iStrD w) := by
  obtain ⟨t, pe, le⟩ := h
  refine ⟨_, pi_str pe, ⟨fun σ H ρ L T R t0 en ow h k => ?_⟩⟩
  refine le.run σ H ρ L _ _ t0 en ow h fun v H1 d L1 t1 ow1 i1 h1 => ?_
  obtain ⟨s, rfl, h1⟩ := h1
  exact ⟨s, i1, k _ _ _ H1 L1 t1 ow1 iter_s h1⟩

/-! ### several targets -/
abbrev DTGs := List D → Rho → List Itm → (Rho → List Itm → Prop) → Prop
structure LGs (K : PySem.W.Frag) (H0 : Hp) (t : TGs) (w : DTGs) : Prop where
  run : ∀ (vs : List V) (ds : List D) (σ : St) (H : Hp) (ρ : Rho) (L : List Itm) (P : Rho → List Itm → Prop) (Q : St → Hp → Prop), TK H0 H → EnvD K H σ ρ → Own K H L → ImmL K H ds vs → w ds ρ L P → GoesR K H P Q → t vs σ H Q
structure LGsW (K : PySem.W.Frag) (H0 : Hp) (vs : List Nat) (t : TGs) (w : DTGs) : Prop where
  run : ∀ (xs : List V) (ds : List D) (σ σ0 : St) (H : Hp) (ρ : Rho) (L : List Itm) (P : Rho → List Itm → Prop) (Q : St → Hp → Prop), TK H0 H → wipe σ vs = wipe σ0 vs → EnvD K H σ ρ → Own K H L → ImmL K H ds xs → w ds ρ L P →
    (∀ (σ' : St) (H' : Hp) (ρ' : Rho) (L' : List Itm), wipe σ' vs = wipe σ0 vs → TK H H' → EnvD K H' σ' ρ' → Own K H' L' → P ρ' L' → Q σ' H') → t xs σ H Q
def DPGs (X : Cx) (H0 : Hp) (es : List Expr) (w : DTGs) : Prop := ∃ t, PGs X es t ∧ LGs X.K H0 t w
def DPGsW (X : Cx) (H0 : Hp) (vs : List Nat) (es : List Expr) (t : TGs) (w : DTGs) : Prop := PGs X es t ∧ LGsW X.K H0 vs t w
def gNilD : DTGs := fun ds ρ L P => ds = [] ∧ P ρ L
def gConsD (a : DTG) (b : DTGs) : DTGs := fun ds ρ L P => ∃ d r, ds = d :: r ∧ a d ρ L fun ρ1 L1 => b r ρ1 L1 P
def gTupD (n : Nat) (b : DTGs) : DTG := fun d ρ L P => ∃ ds, d = .tup ds ∧ ds.length = n ∧ b ds ρ L P
def gLstD (n : Nat) (b : DTGs) : DTG := fun d ρ L P => ∃ p ds, d = .ref p ∧ keepL p ds L ∧ ds.length = n ∧ b ds ρ L P
section
variable {X : Cx} {H0 : Hp} {e : Expr} {es : List Expr} {a : DTG} {b : DTGs} {vs : List Nat} {ta : TG} {tb : TGs} {pos : Pos} {n k : Nat}
theorem dgs_nil : DPGs X H0 [] gNilD := ⟨_, pgs_nil, ⟨fun vs ds σ H ρ L P Q t0 en ow im h g => by
  obtain ⟨rfl, h⟩ := h
  exact ⟨im, g _ H _ L (.refl H) en ow h⟩⟩⟩
theorem dgs_cons (h1 : DPG X H0 e a) (h2 : DPGs X H0 es b) (hs : (assignEach (e :: es) X.env).map (·.2) = assign e X.env :: (assignEach es X.env).map (·.2) := by rfl) : DPGs X H0 (e :: es) (gConsD a b) := by
  obtain ⟨t, p, l⟩ := h1
  obtain ⟨ts, ps, ls⟩ := h2
  refine ⟨_, pgs_cons p ps hs, ⟨fun vs ds σ H ρ L P Q t0 en ow im h g => ?_⟩⟩
  obtain ⟨d, r, rfl, h⟩ := h
  obtain ⟨x, xs, rfl, i1, i2⟩ := im
  refine ⟨x, xs, rfl, l.run x d σ H ρ L _ _ t0 en ow i1 h fun σ1 H1 ρ1 L1 t1 en1 ow1 h1 => ?_⟩
  exact ls.run xs r σ1 H1 ρ1 L1 _ _ (t0.trans t1) en1 ow1 (i2.mono t1) h1 (g.mono t1)
theorem dg_tup (hc : X.calm = true) (h : DPGs X H0 es b) (hn : (assignEach es X.env).length = n := by rfl) (hst : (assignEach es X.env).findIdx? (·.1) = none := by rfl) : DPG X H0 (.Tuple es k pos) (gTupD n b) := by
  obtain ⟨t, p, l⟩ := h
  refine ⟨_, pg_tup hc p hn hst, ⟨fun v d σ H ρ L P Q t0 en ow im h g => ?_⟩⟩
  obtain ⟨ds, rfl, hl, h⟩ := h
  obtain ⟨q, xs, rfl, s, i⟩ := im
  exact ⟨q, xs, rfl, s, by rw [i.length]; exact hl, l.run xs ds σ H ρ L _ _ t0 en ow i h g⟩
theorem dg_lst (hc : X.calm = true) (h : DPGs X H0 es b) (hn : (assignEach es X.env).length = n := by rfl) (hst : (assignEach es X.env).findIdx? (·.1) = none := by rfl) : DPG X H0 (.Tuple es k pos) (gLstD n b) := by
  obtain ⟨t, p, l⟩ := h
  refine ⟨_, pg_unl hc p hn hst, ⟨fun v d σ H ρ L P Q t0 en ow im h g => ?_⟩⟩
  obtain ⟨q, ds, rfl, kp, hl, h⟩ := h
  obtain ⟨xs, s, i⟩ := kp.sql ow
  cases im
  exact ⟨q, xs, rfl, s, by rw [i.length]; exact hl, l.run xs ds σ H ρ L _ _ t0 en ow i h g⟩
theorem dgsw_nil : DPGsW X H0 vs [] gNil gNilD := ⟨pgs_nil, ⟨fun xs ds σ σ0 H ρ L P Q t0 ew en ow im h g => by
  obtain ⟨rfl, h⟩ := h
  exact ⟨im, g _ H _ L ew (.refl H) en ow h⟩⟩⟩
theorem dgsw_cons (h1 : DPGW X H0 vs e ta a) (h2 : DPGsW X H0 vs es tb b) (hs : (assignEach (e :: es) X.env).map (·.2) = assign e X.env :: (assignEach es X.env).map (·.2) := by rfl) : DPGsW X H0 vs (e :: es) (gCons ta tb) (gConsD a b) := by
  obtain ⟨p, l⟩ := h1
  obtain ⟨ps, ls⟩ := h2
  refine ⟨pgs_cons p ps hs, ⟨fun xs ds σ σ0 H ρ L P Q t0 ew en ow im h g => ?_⟩⟩
  obtain ⟨d, r, rfl, h⟩ := h
  obtain ⟨x, xs, rfl, i1, i2⟩ := im
  refine ⟨x, xs, rfl, l.run x d σ σ0 H ρ L _ _ t0 ew en ow i1 h fun σ1 H1 ρ1 L1 ew1 t1 en1 ow1 h1 => ?_⟩
  exact ls.run xs r σ1 σ0 H1 ρ1 L1 _ _ (t0.trans t1) ew1 en1 ow1 (i2.mono t1) h1 fun σ2 H2 ρ2 L2 ew2 t2 => g σ2 H2 ρ2 L2 ew2 (t1.trans t2)
theorem dgw_tup (hc : X.calm = true) (h : DPGsW X H0 vs es tb b) (hn : (assignEach es X.env).length = n := by rfl) (hst : (assignEach es X.env).findIdx? (·.1) = none := by rfl) : DPGW X H0 vs (.Tuple es k pos) (gTup X.K n tb) (gTupD n b) := by
  obtain ⟨p, l⟩ := h
  refine ⟨pg_tup hc p hn hst, ⟨fun v d σ σ0 H ρ L P Q t0 ew en ow im h g => ?_⟩⟩
  obtain ⟨ds, rfl, hl, h⟩ := h
  obtain ⟨q, xs, rfl, s, i⟩ := im
  exact ⟨q, xs, rfl, s, by rw [i.length]; exact hl, l.run xs ds σ σ0 H ρ L _ _ t0 ew en ow i h g⟩
end

/-! ### items handed out in new tuples -/
def Itn (n : Nat) (Y : Nat → List V → Prop) : L2.It := ⟨fun i _ => i < n, fun i H v H' => ∃ T xs, v = .ref T ∧ H T = none ∧ H' = upd H T (.tup xs) ∧ Y i xs, fun i _ => n ≤ i⟩
theorem iter_n {K : PySem.W.Frag} {B : Hp} {n : Nat} {Y : Nat → List V → Prop} {ds : List D} (hl : ds.length = n) (hy : ∀ i xs, Y i xs → ∃ es, ds[i]? = some (.tup es) ∧ ∀ H, ImmL K H es xs) : DIter K B (Itn n Y) ds (fun _ => True) := by
  subst hl
  refine ⟨fun i H L t ow k hi => hi, fun i H L x H' t ow k hi y => ?_, fun H L t ow k => Nat.le_refl _⟩
  obtain ⟨T, xs, rfl, hT, rfl, yi⟩ := y
  obtain ⟨es, e, im⟩ := hy i xs yi
  have s := same_new (o := HO.tup xs) hT
  exact ⟨_, e, .of_same s, ow.same s, T, xs, rfl, SqT.of upd_same, im _⟩
theorem turn_goesN {P : Program} {w : World} {K : PySem.W.Frag} {tg : Expr} {it : Addr} {fp wr : List Addr} {n : Nat} {Pt : Nat → Array Value → Prop} {St : Nat → Heap → Prop} {Y : Nat → List V → Prop}
    (G : ∀ A : Around, A.handled = none → GoesN P w A tg it fp wr n (fun i h₀ v h => ∃ T vals, v = .ref T ∧ h₀.objs.size ≤ T ∧ Pt i vals ∧ h.IsTuple T vals) St) (hm : it ∈ fp)
    (fr : ∀ i h h', St i h → (∀ b ∈ fp, ∀ o, h.get? b = some o → h'.get? b = some o) → St i h') (self : ∀ (A : Around) (i : Nat) (s : Shared) (Q : Value → Shared → Prop) (E : Value → Shared → Prop), St i s.heap → Q (.ref it) s → wpAny (model P w) A (pyIter (.ref it)) Q E s)
    (live : ∀ i h, St i h → ∀ b ∈ fp, ∃ o, h.get? b = some o ∧ ∀ v, o.data ≠ .cell v) (rel : ∀ i vals, Pt i vals → vals.size ≤ sizeLine ∧ ∃ xs, Vals xs vals.toList ∧ Y i xs) :
    Turn P w K tg (Itn n Y) fp it (fun i h => i ≤ n ∧ St i h) where
  mem := hm
  obj := fun i h st b hb => live i h st.2 b hb
  keep := fun i h h' st k => ⟨st.1, fr i h h' st.2 k⟩
  item := by
    intro X hP hw hK hc i pins s σ H E I hf st hg
    subst hP hw hK
    have g := G X.A (I.ok.hd hc)
    refine wpAny_mono (g.goes i s (fun v s2 => ∃ x H', Inv X pins σ H' s2 ∧ RelV x v ∧ (Itn n Y).yld i H x H' ∧ (i + 1 ≤ n ∧ St (i + 1) s2.heap) ∧ ∀ b ∈ fp, H' b = none) E hg st.2 fun v h' tk hy st' hk htk => ?_) (fun r s1 q => q) fun _ _ e => e
    obtain ⟨T, vals, rfl, hT, hp, ho⟩ := hy
    obtain ⟨hz, xs, rv, yi⟩ := rel i vals hp
    have hn : H T = none := I.hok.fresh hT
    have hz' : xs.length ≤ sizeLine := by rw [rv.length, Array.length_toList]; exact hz
    have new : ObjOk X.prog X.w (upd H T (.tup xs)) h' T (.tup xs) := by
      obtain ⟨o, h1, h2, m, h3⟩ := ho
      exact ⟨hz', vals.toList, rv, o, h1, h2, m, by rw [h3]⟩
    have I1 : Inv X pins σ (upd H T (.tup xs)) { s with heap := h', toks := tk } := I.turnedNew (ch := wr) (fun b o hb e => hk b o hb e) (fun b hb => hf b (g.sub b hb)) hT new
    refine ⟨.ref T, _, I1, rfl, ⟨T, xs, rfl, hn, rfl, yi⟩, ⟨hg, st'⟩, fun b hb => ?_⟩
    have hlt : b ≠ T := by
      obtain ⟨o, e, _⟩ := live i s.heap st.2 b hb
      exact Nat.ne_of_lt (Nat.lt_of_lt_of_le (Heap.lt_size e) hT)
    rw [upd_ne hlt]
    exact (hf b hb).1
  done := by
    intro X hP hw hK hc i pins s σ H E I hf st hg
    subst hP hw hK
    have g := G X.A (I.ok.hd hc)
    have e : i = n := Nat.le_antisymm st.1 hg
    subst e
    refine wpAny_mono (g.stops s (fun s1 => Inv X pins σ H s1) E st.2 fun h' tk hk htk => ?_) (fun r s1 q => q) fun _ _ e => e
    exact I.turnedL (ch := wr) (fun b o hb e => hk b o hb e) (fun b hb => hf b (g.sub b hb))
  self := fun A i s Q E st h => self A i s Q E st.2 h
end DL

set_option maxRecDepth 100000
set_option maxHeartbeats 2000000
namespace DL
open PySem L2 Builtin Builtin.Str Builtin.Int Builtin.Float PyProof.Rows

/-! ### a format of an int -/
theorem gives_fmt {a : Int} {t u : Tok} {sp : Str} {f : FormatSpec} (hs : a.natAbs.log2 < 1920) (hp : parseFormatSpec sp.cps.toList "int" 62 = .ok f) (hne : (sp.length == 0) = false)
    (hasc : ((sp.cps.toList.drop 1).any (· ≥ 128) || (sp.cps.getD 0 0 ≥ 128 && !([60, 62, 61, 94] : List Nat).contains (sp.cps.getD 1 0))) = false) (hg : intSpecGood sp f = true) :
    Gives («int.__format__» ⟨[.int a t, .str sp u], []⟩) (.str (intSpecText f a)) := by
  intro prog w A R s h
  obtain ⟨hlen, h⟩ := h
  have hg0 := hg
  unfold intSpecGood at hg0
  simp only [Bool.and_eq_true] at hg0
  obtain ⟨⟨⟨⟨⟨⟨hty, hpr⟩, hz⟩, hal⟩, hw⟩, hgr⟩, hsg⟩ := hg0
  have hty := beq_iff_eq.mp hty
  have hpr := Option.isNone_iff_eq_none.mp hpr
  have hz : f.noNeg0 = false := by simpa using hz
  have hal : f.alt = false := by simpa using hal
  have hw : f.width.getD 0 ≤ 100000 := by simpa using hw
  have hgr := Option.isNone_iff_eq_none.mp hgr
  have hsg := Option.isNone_iff_eq_none.mp hsg
  unfold «int.__format__»
  simp only [selfAndOne, noKeywords, intOfSelf, asInt?, asStr?, List.isEmpty_nil, if_true, pure_bind, bind_pure, bind_assoc, hne, hasc, Bool.false_eq_true, if_false, show (Value.str sp u == Value.none) = false from rfl]
  refine wpAny_bind (wpAny_typeNameOf (T := "str") (typeIs_str _ _ _) (by decide) fun _ => ?_)
  first | refine wpAny_bind (wpAny_typeNameOfCut_int ?_) | refine wpAny_bind (wpAny_typeNameOf_int ?_)
  simp only [hp, hty]
  rw [if_pos (by decide)]
  show wpAny _ _ (if _ then _ else _) _ _ _
  rw [if_neg (by simp [hpr])]
  show wpAny _ _ (if _ then _ else _) _ _ _
  rw [if_neg (by simp [hz])]
  show wpAny _ _ (if _ then _ else _) _ _ _
  rw [if_neg (by decide)]
  show wpAny _ _ (do let r ← Builtin.overDigitLimit? a; _) _ _ _
  rw [PySem.overDigitLimit_small hs]
  refine wpAny_bind (wpAny_pure ?_)
  show wpAny _ _ (if _ then _ else _) _ _ _
  have hw' : ¬ (f.width.getD 0 > 100000) := by omega
  rw [if_neg (by simpa using hw')]
  show wpAny _ _ (retStr _) _ _ _
  unfold retStr
  refine wpAny_bind (wpAny_mkStr (wpAny_pure ?_) ?hs2)
  case hs2 =>
    simp only [hal, Bool.false_eq_true, if_false, show ((10 : Nat) == 10) = true by decide, if_true]
    conv => lhs; arg 1; whnf
    simp only [intSpecText, intField', hgr, hsg, hal, Bool.false_eq_true, if_false, show ((10 : Nat) == 10) = true by decide, if_true] at hlen ⊢
    exact hlen
  simp only [hal, Bool.false_eq_true, if_false, show ((10 : Nat) == 10) = true by decide, if_true]
  show R (Except.ok (Flow.ret (Value.str _ s.toks))) _
  conv => arg 1; arg 1; arg 1; arg 1; whnf
  simp only [intSpecText, intField', hgr, hsg, hal, Bool.false_eq_true, if_false, show ((10 : Nat) == 10) = true by decide, if_true] at h ⊢
  exact h

theorem fmt_spec {prog : Program} {w : World} {A : Around} {E : Value → Shared → Prop} {s : Shared} {a : Int} {t : Tok} {sp : Str} {f : FormatSpec} {Q : Value → Shared → Prop} (hs : a.natAbs.log2 < 1920) (hp : parseFormatSpec sp.cps.toList "int" 62 = .ok f) (hne : (sp.length == 0) = false)
    (hasc : ((sp.cps.toList.drop 1).any (· ≥ 128) || (sp.cps.getD 0 0 ≥ 128 && !([60, 62, 61, 94] : List Nat).contains (sp.cps.getD 1 0))) = false) (hg : intSpecGood sp f = true) (hz : sp.length ≤ sizeLine) (hz2 : (intSpecText f a).length ≤ sizeLine)
    (h : Q (.str (intSpecText f a) (s.toks + 1)) { s with toks := s.toks + 1 + 1 }) : wpAny (model prog w) A (formatField (.int a t) sp) Q E s :=
  wpAny_formatField_spec hne (fun s' => typeIs_int s' a t) F.slot_int_format F.entry_int_format F.args_int_format_2 (fun u => gives_fmt hs hp hne hasc hg) h hz hz2
/-- {x:0Nd} -/
def fSpec (sp : Str) : Option FormatSpec := match parseFormatSpec sp.cps.toList "int" 62 with
  | .ok f => some f
  | .error _ => none
def okSpec (sp : Str) : Bool := match parseFormatSpec sp.cps.toList "int" 62 with
  | .ok f => !(sp.length == 0) && !((sp.cps.toList.drop 1).any (· ≥ 128) || (sp.cps.getD 0 0 ≥ 128 && !([60, 62, 61, 94] : List Nat).contains (sp.cps.getD 1 0))) && intSpecGood sp f && decide (sp.length ≤ 100) && f.fill == 48 && f.align == 61
  | .error _ => false
/-- a whole number not below 0, padded by zeros -/
def padZ (w : Nat) (a : Int) : Str := ⟨(List.replicate (w - (Nat.toDigits 10 a.natAbs).length) 48).toArray⟩ ++ Str.ofString (toString a)
theorem fmt_pad {prog : Program} {w : World} {A : Around} {E : Value → Shared → Prop} {s : Shared} {a : Int} {t : Tok} {sp : Str} {n : Nat} {Q : Value → Shared → Prop} (ho : okSpec sp = true) (hn : intSpecWidthOf sp = n) (h0 : 0 ≤ a) (hs : a.natAbs.log2 < 1920) (hz2 : (padZ n a).length ≤ sizeLine)
    (h : Q (.str (padZ n a) (s.toks + 1)) { s with toks := s.toks + 1 + 1 }) : wpAny (model prog w) A (formatField (.int a t) sp) Q E s := by
  unfold okSpec at ho
  unfold intSpecWidthOf at hn
  split at ho
  · rename_i f hp
    rw [hp] at hn
    simp only at hn
    simp only [Bool.and_eq_true, Bool.not_eq_true', beq_iff_eq, decide_eq_true_eq] at ho
    obtain ⟨⟨⟨⟨⟨h1, h2⟩, h3⟩, h4⟩, h5⟩, h6⟩ := ho
    have hg0 := h3
    unfold intSpecGood at hg0
    simp only [Bool.and_eq_true] at hg0
    have hgr := Option.isNone_iff_eq_none.mp hg0.1.2
    have hsg := Option.isNone_iff_eq_none.mp hg0.2
    have e := intSpecText_zero (a := a) hgr hsg h5 h6 h0
    rw [hn] at e
    have e' : intSpecText f a = padZ n a := e
    have h1' : (sp.length == 0) = false := h1
    refine fmt_spec hs hp h1' h2 h3 (by have := sizeLine_eq; omega) (by rw [e']; exact hz2) (by rw [e']; exact h)
  · cases ho
end DL

set_option maxRecDepth 100000
set_option maxHeartbeats 2000000
namespace DL
open PySem L2

/-! ### f'..' -/
def fmtD : D → List Itm → DK → Prop
  | .str y, L, P => y.length ≤ sizeLine ∧ P (.str y) L
  | .int i, L, P => i.natAbs.log2 < 1920 ∧ P (.str (toString i)) L
  | _, _, _ => False
def fmtZ (n : Nat) : D → List Itm → DK → Prop
  | .int i, L, P => 0 ≤ i ∧ i.natAbs.log2 < 1920 ∧ (padZ n i).length ≤ sizeLine ∧ P (.str (padZ n i)) L
  | _, _, _ => False
inductive LEs (K : PySem.W.Frag) (H0 : Hp) : List TE → List DTE → Prop
  | nil : LEs K H0 [] []
  | cons {t : TE} {w : DTE} {ts : List TE} {ws : List DTE} (h : LE K H0 t w) (r : LEs K H0 ts ws) : LEs K H0 (t :: ts) (w :: ws)
abbrev DPJ (X : Cx) (H0 : Hp) (es : List Expr) (w : List DTE) : Prop := ∃ ts, PJ X es ts ∧ LEs X.K H0 ts w
def wJs : List DTE → Str → Rho → List Itm → (Str → List Itm → Prop) → Prop
  | [], acc, _, L, P => P acc L
  | a :: r, acc, ρ, L, P => a ρ L fun d L1 => ∃ y, d = .str y ∧ (acc ++ y).length ≤ sizeLine ∧ wJs r (acc ++ y) ρ L1 P
def wJoin (ws : List DTE) : DTE := fun ρ L P => wJs ws Str.empty ρ L fun s L1 => P (.str s) L1
section
variable {X : Cx} {H0 : Hp} {pos : Pos} {e : Expr} {es : List Expr} {w : DTE} {ws : List DTE}
theorem d_fmt (h : DPE X H0 e w) : DPE X H0 (.FormattedValue e (-1) none pos) (wUn fmtD w) := by
  obtain ⟨t, p, l⟩ := h
  refine ⟨_, pe_fmt p, ⟨fun σ H ρ L P Q t0 en ow h g => ?_⟩⟩
  refine l.run σ H ρ L _ _ t0 en ow h fun v H1 d L1 t1 ow1 i1 h1 => ?_
  cases d with
  | str y => exact .inl ⟨y, i1, h1.1, g _ H1 (.str y) L1 t1 ow1 rfl h1.2⟩
  | int i => exact .inr ⟨i, i1, h1.1, g _ H1 (.str _) L1 t1 ow1 rfl h1.2⟩
  | _ => exact h1.elim
theorem pe_fmtZ {te : TE} {sp : Str} {n k : Nat} {p1 p2 : Pos} (ho : okSpec sp = true) (hn : PyProof.Rows.intSpecWidthOf sp = n) (he : PE X e te) : PE X (.FormattedValue e (-1) (some (.JoinedStr [.Constant (.str sp) k p1] p2)) pos)
    (fun σ H Q => te σ H fun x H1 => ∃ i : Int, x = .int i ∧ 0 ≤ i ∧ i.natAbs.log2 < 1920 ∧ (padZ n i).length ≤ sizeLine ∧ Q (.str (padZ n i)) H1) := by
  refine ⟨fun pins s σ H Q I h => ?_⟩
  refine wpAny_FormattedValue_spec (thn (he.run pins s σ H _ I h) fun v s1 hv => ?_)
  obtain ⟨x, H1, I1, r1, i, rfl, h0, hs, hz, q⟩ := hv
  obtain ⟨t, rfl⟩ := r1
  refine thn ((pe_joined1 (pos := p2) (pe_str (X := X) (x := sp) (j := k) (pos := p1))).run pins s1 σ H1 (fun r H2 => r = .str sp ∧ Q (.str (padZ n i)) H2) I1 ⟨rfl, q⟩) fun r s2 h2 => ?_
  obtain ⟨y, H2, I2, r2, rfl, q2⟩ := h2
  obtain ⟨t2, rfl⟩ := r2
  exact ⟨sp, t2, rfl, fmt_pad ho hn h0 hs hz ⟨.str _, H2, (I2.tok _).tok _, ⟨_, rfl⟩, q2⟩⟩
theorem d_fmtZ {sp : Str} {n k : Nat} {p1 p2 : Pos} (h : DPE X H0 e w) (ho : okSpec sp = true := by decide +kernel) (hn : PyProof.Rows.intSpecWidthOf sp = n := by decide +kernel) : DPE X H0 (.FormattedValue e (-1) (some (.JoinedStr [.Constant (.str sp) k p1] p2)) pos) (wUn (fmtZ n) w) := by
  obtain ⟨t, p, l⟩ := h
  refine ⟨_, pe_fmtZ ho hn p, ⟨fun σ H ρ L P Q t0 en ow h g => ?_⟩⟩
  refine l.run σ H ρ L _ _ t0 en ow h fun v H1 d L1 t1 ow1 i1 h1 => ?_
  cases d with
  | int i => exact ⟨i, i1, h1.1, h1.2.1, h1.2.2.1, g _ H1 (.str _) L1 t1 ow1 rfl h1.2.2.2⟩
  | _ => exact h1.elim
theorem dj_nil : DPJ X H0 [] [] := ⟨[], .nil, .nil⟩
theorem dj_cons (h : DPE X H0 e w) (r : DPJ X H0 es ws) : DPJ X H0 (e :: es) (w :: ws) := by
  obtain ⟨t, p, l⟩ := h
  obtain ⟨ts, ps, ls⟩ := r
  exact ⟨t :: ts, .cons p ps, .cons l ls⟩
theorem js_run {K : PySem.W.Frag} {ts : List TE} {ws : List DTE} (h : LEs K H0 ts ws) : ∀ (acc : Str) (σ : St) (H : Hp) (ρ : Rho) (L : List Itm) (P : Str → List Itm → Prop) (Q : Str → Hp → Prop), TK H0 H → EnvD K H σ ρ → Own K H L → wJs ws acc ρ L P →
    (∀ (s : Str) (H' : Hp) (L' : List Itm), TK H H' → Own K H' L' → P s L' → Q s H') → tJs ts acc σ H Q := by
  induction h with
  | nil => exact fun acc σ H ρ L P Q t0 en ow h g => g acc H L (.refl H) ow h
  | cons l r ih =>
    intro acc σ H ρ L P Q t0 en ow h g
    refine l.run σ H ρ L _ _ t0 en ow h fun v H1 d L1 t1 ow1 i1 h1 => ?_
    obtain ⟨y, rfl, hz, h1⟩ := h1
    exact ⟨y, i1, hz, ih _ σ H1 ρ L1 P Q (t0.trans t1) (en.mono t1) ow1 h1 fun s H' L' t' => g s H' L' (t1.trans t')⟩
theorem d_join {v1 v2 : Expr} {rest : List Expr} (h : DPJ X H0 (v1 :: v2 :: rest) ws) : DPE X H0 (.JoinedStr (v1 :: v2 :: rest) pos) (wJoin ws) := by
  obtain ⟨ts, ps, ls⟩ := h
  exact ⟨_, pe_joined ps, ⟨fun σ H ρ L P Q t0 en ow h g => js_run ls _ σ H ρ L _ _ t0 en ow h fun s H' L' t' ow' p => g _ H' (.str s) L' t' ow' rfl p⟩⟩
end

/-! ### isinstance -/
inductive TyD (L : List Itm) : D → String → Prop
  | non : TyD L .non "NoneType"
  | bl (b : Bool) : TyD L (.bl b) "bool"
  | int (i : Int) : TyD L (.int i) "int"
  | str (x : Str) : TyD L (.str x) "str"
  | tup (ds : List D) : TyD L (.tup ds) "tuple"
  | lst {p : Addr} {ds : List D} (k : keepL p ds L) : TyD L (.ref p) "list"
theorem tyx_of {K : PySem.W.Frag} {H : Hp} {L : List Itm} {d : D} {v : V} {n : String} (ow : Own K H L) (h : TyD L d n) (i : Imm K H d v) : TyX K H v (.type n) := by
  cases h with
  | non => cases i; exact .base .non
  | bl b => cases i; exact .base (.bl b)
  | int i' => cases i; exact .base (.int i')
  | str x => cases i; exact .base (.str x)
  | tup ds =>
    obtain ⟨p, xs, rfl, s, _⟩ := i
    rcases s with (s | ⟨o, s⟩) | ⟨o, its, m, e, c, _⟩
    · exact .base (.tup s)
    · exact .fTuple s
    · exact .kTuple e c
  | lst k =>
    cases i
    obtain ⟨xs, s, _⟩ := k.sql ow
    rcases s with (s | ⟨o, s⟩) | ⟨o, its, m, e, c, _⟩
    · exact .base (.lst s)
    · exact .base (.frz s)
    · exact .kList e c
def fIsi (xs : List D) (L : List Itm) (P : DK) : Prop := ∃ (x : D) (t n : String) (b : Bool), xs = [x, .ty n] ∧ TyD L x t ∧ kitB t n = some b ∧ P (.bl b) L
theorem rc_isi {K : PySem.W.Frag} : RCall K (rIsi K) fIsi := by
  intro H xs ds L P Q ix ow h g
  obtain ⟨x, t, n, b, rfl, ty, k, h⟩ := h
  obtain ⟨v, c, e, i1, i2⟩ := imm2 ix
  cases i2
  exact ⟨v, .ty n, .type t, .type n, b, e, .ty n, tyx_of ow ty i1, kit_ty k, g _ H (.bl b) L (.refl H) ow rfl h⟩
theorem d_isi {X : Cx} {H0 : Hp} {e : Expr} {es : List Expr} {p cpos : Pos} {wr : DTA} (hm : X.mg "isinstance" = none) (ha : DPA X H0 (e :: es) wr) (hg : Gl X "isinstance" := by rfl) (he : starEach (e :: es) X.env = (false, eval e X.env) :: starEach es X.env := by rfl) (hpl : (backTo cpos (starEach es X.env)).any (·.1) = false := by rfl) : DPE X H0 (.Call (.Name "isinstance" p) (e :: es) [] cpos) (wCB fIsi wr) :=
  d_callB call_isi rc_isi hm (by decide +kernel) ha hg (by decide) (by decide) he hpl
theorem k_nt : kitB "NoneType" "tuple" = some false := by decide +kernel
theorem k_nb : kitB "NoneType" "bool" = some false := by decide +kernel
theorem k_ni : kitB "NoneType" "int" = some false := by decide +kernel
theorem k_ns : kitB "NoneType" "str" = some false := by decide +kernel
theorem k_bt : kitB "bool" "tuple" = some false := by decide +kernel
theorem k_bb : kitB "bool" "bool" = some true := by decide +kernel
theorem k_bi : kitB "bool" "int" = some true := by decide +kernel
theorem k_bs : kitB "bool" "str" = some false := by decide +kernel
theorem k_it : kitB "int" "tuple" = some false := by decide +kernel
theorem k_ib : kitB "int" "bool" = some false := by decide +kernel
theorem k_ii : kitB "int" "int" = some true := by decide +kernel
theorem k_is : kitB "int" "str" = some false := by decide +kernel
theorem k_st : kitB "str" "tuple" = some false := by decide +kernel
theorem k_sb : kitB "str" "bool" = some false := by decide +kernel
theorem k_si : kitB "str" "int" = some false := by decide +kernel
theorem k_ss : kitB "str" "str" = some true := by decide +kernel
theorem k_tt : kitB "tuple" "tuple" = some true := by decide +kernel
theorem k_tb : kitB "tuple" "bool" = some false := by decide +kernel
theorem k_ti : kitB "tuple" "int" = some false := by decide +kernel
theorem k_ts : kitB "tuple" "str" = some false := by decide +kernel
theorem k_lt : kitB "list" "tuple" = some false := by decide +kernel

/-! ### zfill, rpartition -/
section
variable {K : PySem.W.Frag} {X : Cx}
def fZfill (o : D) (xs : List D) (L : List Itm) (P : DK) : Prop := ∃ (a : Str) (i : Int), o = .str a ∧ xs = [.int i] ∧ PadOk i = true ∧ P (.str (Txt.zfill a i)) L
theorem rm_zfill : RMeth K (fun x xs H Q => ∃ (a : Str) (i : Int), x = .str a ∧ xs = [.int i] ∧ PadOk i = true ∧ Q (.str (Txt.zfill a i)) H) fZfill := by
  intro H x xs d ds L P Q ix ixs ow h k
  obtain ⟨a, i, rfl, rfl, hp, h⟩ := h
  cases ix
  obtain ⟨v, e, iv⟩ := imm1 ixs
  cases iv
  exact ⟨a, i, rfl, e, hp, k _ H (.str _) L (.refl H) ow rfl h⟩
theorem mt_rpartition : MtR X "str.rpartition" (fun x xs H Q => ∃ a b, x = .str a ∧ xs = [.str b] ∧ (b.length == 0) = false ∧ a.length ≤ sizeLine ∧
    ∀ p, H p = none → Q (.ref p) (upd H p (.tup [.str (Txt.rpartition a b).1, .str (Txt.rpartition a b).2.1, .str (Txt.rpartition a b).2.2]))) := by
  intro pins s σ H x xs v us Q I rx rs h
  obtain ⟨a, b, rfl, rfl, hb, hz, h⟩ := h
  obtain ⟨t, rfl⟩ := rx
  obtain _ | ⟨r1, rs⟩ := rs
  cases rs
  obtain ⟨u, rfl⟩ := r1
  refine call_meets F.slot_str_rpartition (typeIs_str _ _ _) F.entry_str_rpartition (F.args_str_rpartition_2 _ _) (meets_str_rpartition a b t u hb hz) ?_
  unfold Txt.rpartition at h
  revert h
  cases Builtin.Str.lastOccurrence a b 0 a.length with
  | none => intro h; exact laid_parts I h
  | some i => intro h; exact laid_parts I h
def fRpart (o : D) (xs : List D) (L : List Itm) (P : DK) : Prop := ∃ (a b : Str), o = .str a ∧ xs = [.str b] ∧ (b.length == 0) = false ∧ a.length ≤ sizeLine ∧ P (.tup [.str (Txt.rpartition a b).1, .str (Txt.rpartition a b).2.1, .str (Txt.rpartition a b).2.2]) L
theorem rm_rpart : RMeth K (fun x xs H Q => ∃ a b, x = .str a ∧ xs = [.str b] ∧ (b.length == 0) = false ∧ a.length ≤ sizeLine ∧
    ∀ p, H p = none → Q (.ref p) (upd H p (.tup [.str (Txt.rpartition a b).1, .str (Txt.rpartition a b).2.1, .str (Txt.rpartition a b).2.2]))) fRpart := by
  intro H x xs d ds L P Q ix ixs ow h k
  obtain ⟨a, b, rfl, rfl, hb, hz, h⟩ := h
  cases ix
  obtain ⟨v, e, iv⟩ := imm1 ixs
  cases iv
  refine ⟨a, b, rfl, e, hb, hz, fun p hp => ?_⟩
  have s := same_new (o := HO.tup [.str (Txt.rpartition a b).1, .str (Txt.rpartition a b).2.1, .str (Txt.rpartition a b).2.2]) hp
  exact k _ _ (.tup _) L (.of_same s) (ow.same s) ⟨p, _, rfl, SqT.of upd_same, ImmL.strs [(Txt.rpartition a b).1, (Txt.rpartition a b).2.1, (Txt.rpartition a b).2.2]⟩ h
end

/-! ### list(range(n)) -/
section
variable {X : Cx} {H0 : Hp} {e a : Expr} {p pos p2 pos2 : Pos} {w : DTE}
theorem imm_rg {K : PySem.W.Frag} {H : Hp} {a b : Int} : ImmL K H (rgD a (b - a).toNat) (rgV a b) := by
  unfold rgD rgV
  have : ∀ l : List Nat, ImmL K H (l.map fun (i : Nat) => D.int (a + (i : Int))) (l.map fun (i : Nat) => V.int (a + (i : Int))) := fun l => by
    induction l with
    | nil => rfl
    | cons x r ih => exact ⟨_, _, rfl, rfl, ih⟩
  exact this _
def wListRg (w : DTE) : DTE := fun ρ L P => w ρ L fun d L1 => ∃ n : Int, d = .int n ∧ 0 ≤ n ∧ n ≤ 16777216 ∧ ∀ q, P (.ref q) (.l q (rgD 0 n.toNat) :: L1)
theorem d_listRg (hl : X.mg "list" = none) (hr : X.mg "range" = none) (h : DPE X H0 a w) (hc : X.calm = true := by rfl) (hg : Gl X "list" := by rfl) (hg2 : Gl X "range" := by rfl) (na : starEach [.Call (.Name "range" p2) [a] [] pos2] X.env = (false, eval (.Call (.Name "range" p2) [a] [] pos2) X.env) :: starEach [] X.env := by rfl)
    (nb : starEach [a] X.env = (false, eval a X.env) :: starEach [] X.env := by rfl) : DPE X H0 (.Call (.Name "list" p) [.Call (.Name "range" p2) [a] [] pos2] [] pos) (wListRg w) := by
  obtain ⟨t, pe, le⟩ := h
  refine ⟨_, pe_listRg hc hg hl (prg_1 hg2 hr pe nb) na, ⟨fun σ H ρ L P Q t0 en ow h g => ?_⟩⟩
  refine le.run σ H ρ L _ _ t0 en ow h fun v H1 d L1 t1 ow1 i1 h1 => ?_
  obtain ⟨n, rfl, h0, hz, h1⟩ := h1
  refine ⟨n, i1, .of_le (by omega) (by omega) (by omega) (by omega), fun q hq => ?_⟩
  have t2 := TK.new (o := HO.lst (rgV 0 n)) hq
  have e : (n - 0).toNat = n.toNat := by rw [Int.sub_zero]
  exact g _ _ (.ref q) _ (t1.trans t2) (ow1.new (it := .l q (rgD 0 n.toNat)) hq rfl ⟨_, upd_same, by rw [← e]; exact imm_rg⟩) rfl (h1 q)
end

/-! ### enumerate(text, start=k) -/
section
variable {M : Model} {A : Around} {E : Value → Shared → Prop} {s : Shared}
theorem callWith_typeK {pos : Pos} {T : String} {args : List (Bool × Sem Value)} {kws : List (Option Str × Sem Value)} {Q : Value → Shared → Prop} (hp : args.any (·.1) = false) (hk : kws.any (·.1.isNone) = false)
    (h : wpAny M A (evalArgs (.type T) true args kws) (fun a s1 => wpAny M A (call (.type T) a.pos a.kw) Q E s1) E s) : wpAny M A (callWith pos (.type T) [] args kws) Q E s := by
  unfold callWith
  refine wpAny_bind (wpAny_holding (wpAny_mono h (fun a s1 h1 => wpAny_bind (wpAny_standAt ?_)) fun _ _ x => x))
  simp only [hp, hk, Bool.or_false]
  refine wpAny_bind (wpAny_pure ?_)
  exact wpAny_bind (wpAny_mono h1 (fun r s2 hr => wpAny_bind (wpAny_holding (wpAny_point (wpAny_pure hr)))) fun _ _ x => x)
end
def enP (k : Int) (x : Str) (i : Nat) (vals : Array Value) : Prop := ∃ t v, (∃ c u, x.cps[i]? = some c ∧ v = .str ⟨#[c]⟩ u) ∧ vals = #[.int (k + (i : Int)) t, v]
def enY (k : Int) (x : Str) (i : Nat) (xs : List V) : Prop := ∃ c, x.cps[i]? = some c ∧ xs = [.int (k + (i : Int)), .str ⟨#[c]⟩]
theorem turn_enS {P : Program} {w : World} {K : PySem.W.Frag} {elts : List Expr} {kk : Nat} {tpos : Pos} (k : Int) (x : Str) (t : Tok) (it : Addr) (e : Addr) (hne : e ≠ it) :
    Turn P w K (.Tuple elts kk tpos) (Itn x.cps.size (enY k x)) [e, it] e (fun i h => i ≤ x.cps.size ∧ ((∃ old, IsEnum h e it (k + (i : Int)) old) ∧ h.IsStrIter it (strIterType x) x t i)) := by
  refine turn_goesN (Pt := enP k x) (wr := [e, it]) (fun A hh => ?_) (by simp) (fun i h h' st kp => ?_) (fun A i s Q E st h => ?_) (fun i h st b hb => ?_) fun i vals hp => ?_
  · refine (GoesN.enumFrom (elts := elts) (x1 := kk) (pos := tpos) k (Draws.text (prog := P) (w := w) (A := A.in1) hh it x t) e hne (by simpa using hne) (by simp)).mono fun i h₀ v h _ y => ?_
    obtain ⟨T, t', y, ev, hn, hp, hT⟩ := y
    exact ⟨T, _, ev, hn, ⟨t', y, hp, rfl⟩, hT⟩
  · obtain ⟨⟨old, he⟩, o, ho, r⟩ := st
    exact ⟨⟨old, kp e (by simp) _ he⟩, o, kp it (by simp) o ho, r⟩
  · obtain ⟨⟨old, he⟩, _⟩ := st
    exact wpAny_pyIter_enum he h
  · obtain ⟨⟨old, he⟩, o, ho, hc, hd⟩ := st
    have z : b = e ∨ b = it := by simpa using hb
    rcases z with z | z
    · rw [z]; exact ⟨_, he, fun v q => nomatch q⟩
    · rw [z]; exact ⟨o, ho, fun v q => by rw [hd] at q; cases q⟩
  · obtain ⟨t', v, ⟨c, u, hc, rfl⟩, rfl⟩ := hp
    exact ⟨by show 2 ≤ sizeLine; decide, [.int (k + (i : Int)), .str ⟨#[c]⟩], .cons ⟨_, rfl⟩ (.cons ⟨_, rfl⟩ .nil), c, hc, rfl⟩
def iEnS (k : Int) (te : TE) : TI := fun σ H R => te σ H fun v H1 => ∃ x, v = .str x ∧ R (Itn x.cps.size (enY k x)) H1
theorem pi_enS {X : Cx} {e : Expr} {te : TE} {p pos tpos kp cp : Pos} {elts : List Expr} {kk j : Nat} {k : Int} (hg : Gl X "enumerate") (hm : X.mg "enumerate" = none) (he : PE X e te) (h0 : -(2 ^ 63) ≤ k) (h1 : k < 2 ^ 63)
    (hs : backTo pos (starEach [e] X.env) = [(false, eval e X.env)] := by rfl) :
    PI X (.Tuple elts kk tpos) (.Call (.Name "enumerate" p) [e] [⟨some "start", .Constant (.int k) j cp, kp⟩] pos) (iEnS k te) := by
  refine ⟨fun pins s σ H R I h => ?_⟩
  refine wpAny_Call_Name_kw (ld_blt I hg hm PyProof.Rows.boot_enumerate ?_ (by decide) (by decide))
  refine callWith_typeK (by rw [hs]; rfl) rfl ?_
  rw [hs]
  refine PyProof.Rows.evalArgs_kwB rfl ?_
  refine PySem.Calls.spliced_cons (thn (he.run pins s σ H _ I h) fun v s1 ⟨y, H1, I1, r1, x, ex, q⟩ => PySem.Calls.spliced_nil ?_)
  subst ex
  obtain ⟨t, rfl⟩ := r1
  refine PyProof.Rows.kws_cons (thn (pe_int.run pins s1 σ H1 (fun z H2 => z = .int k ∧ R (Itn x.cps.size (enY k x)) H2) I1 ⟨rfl, q⟩) fun kv s2 ⟨z, H2, I2, r2, ez, q2⟩ => PyProof.Rows.kws_nil ?_)
  subst ez
  obtain ⟨t2, rfl⟩ := r2
  refine enum_begins_start (begins_text x t) trivial h0 h1 fun h' he' hi hsz hkp => wpAny_pyIter_enum he' ?_
  have I3 : Inv X pins σ H2 { s2 with heap := h' } := I2.kept (t' := s2.toks) hkp
  refine ⟨s2.heap.objs.size + 1, [s2.heap.objs.size + 1, s2.heap.objs.size], _, _, H2, rfl, I3, turn_enS k x t s2.heap.objs.size (s2.heap.objs.size + 1) (Nat.succ_ne_self _), ⟨Nat.zero_le _, ⟨.none, by simpa using he'⟩, ⟨_, hi, rfl, rfl⟩⟩, fun b hb => ?_, q2⟩
  have z : b = s2.heap.objs.size + 1 ∨ b = s2.heap.objs.size := by simpa using hb
  have hle : s2.heap.objs.size ≤ b := by
    rcases z with z | z
    · rw [z]; exact Nat.le_add_right _ _
    · rw [z]; exact Nat.le_refl _
  exact I2.fpOk hle (I2.hok.fresh hle)
/-- (k, sign), (k + 1, sign) .. -/
def enD (k : Int) (s : Str) : List D := (List.range s.cps.size).map fun (i : Nat) => .tup [.int (k + (i : Int)), .str ⟨#[s.cps.getD i 0]⟩]
theorem enD_length (k : Int) (s : Str) : (enD k s).length = s.cps.size := by simp [enD]
def iEnD (k : Int) (w : DTE) : DTI := fun ρ L T => w ρ L fun d L1 => ∃ s, d = .str s ∧ T (enD k s) (fun _ => True) L1
theorem di_enS {X : Cx} {H0 : Hp} {e : Expr} {w : DTE} {p pos tpos kp cp : Pos} {elts : List Expr} {kk j : Nat} {k : Int} (hm : X.mg "enumerate" = none) (h : DPE X H0 e w) (hg : Gl X "enumerate" := by rfl) (h0 : -(2 ^ 63) ≤ k := by decide) (h1 : k < 2 ^ 63 := by decide)
    (hs : backTo pos (starEach [e] X.env) = [(false, eval e X.env)] := by rfl) :
    DPI X H0 (.Tuple elts kk tpos) (.Call (.Name "enumerate" p) [e] [⟨some "start", .Constant (.int k) j cp, kp⟩] pos) (iEnD k w) := by
  obtain ⟨t, pe, le⟩ := h
  refine ⟨_, pi_enS hg hm pe h0 h1 hs, ⟨fun σ H ρ L T R t0 en ow h kk => ?_⟩⟩
  refine le.run σ H ρ L _ _ t0 en ow h fun v H1 d L1 t1 ow1 i1 hd => ?_
  obtain ⟨s, rfl, hd⟩ := hd
  refine ⟨s, i1, kk _ _ _ H1 L1 t1 ow1 (iter_n (enD_length k s) fun i xs y => ?_) hd⟩
  obtain ⟨c, hc, rfl⟩ := y
  refine ⟨[.int (k + (i : Int)), .str ⟨#[c]⟩], ?_, fun H => ⟨_, _, rfl, rfl, _, _, rfl, rfl, rfl⟩⟩
  obtain ⟨hi, e2⟩ := Array.getElem?_eq_some_iff.mp hc
  simp [enD, hi, e2]
end DL

set_option maxRecDepth 100000
set_option maxHeartbeats 2000000
namespace DL
open PySem L2

/-! ### steps for DL9 - DL11 -/
def okD : D → Bool
  | .non => true
  | .bl _ => true
  | .int _ => true
  | .str x => PyData.strOk x
  | _ => false
def pyF : D → PyData
  | .bl b => .bool b
  | .int i => .int i
  | .str x => .str x
  | _ => .none
theorem pyF_ok {L : List Itm} {d : D} (h : okD d = true) : PyD L d (pyF d) := by
  cases d with
  | non => exact .non
  | bl b => exact .bl b
  | int i => exact .int i
  | str x => exact .str x
  | _ => exact absurd h Bool.false_ne_true
theorem pyF_okL {L : List Itm} : ∀ {ds : List D}, ds.all okD = true → PyDL L ds (ds.map pyF)
  | [], _ => .nil
  | d :: ds, h => by
    rw [List.all_cons, Bool.and_eq_true] at h
    exact .cons (pyF_ok h.1) (pyF_okL h.2)
theorem pyF_lay {d : D} (h : okD d = true) : (pyF d).canLay0 = true ∧ (pyF d).depth = 0 := by
  cases d with
  | non => exact ⟨by simp [pyF, PyData.canLay0], by simp [pyF, PyData.depth]⟩
  | bl b => exact ⟨by simp [pyF, PyData.canLay0], by simp [pyF, PyData.depth]⟩
  | int i => exact ⟨by simp [pyF, PyData.canLay0], by simp [pyF, PyData.depth]⟩
  | str x => exact ⟨by simpa [pyF, PyData.canLay0, okD] using h, by simp [pyF, PyData.depth]⟩
  | _ => exact absurd h Bool.false_ne_true
theorem pyF_layL : ∀ {ds : List D}, ds.all okD = true → PyData.canLayAll0 (ds.map pyF) = true ∧ PyData.depthAll (ds.map pyF) = 0
  | [], _ => ⟨by simp [PyData.canLayAll0], by simp [PyData.depthAll]⟩
  | d :: ds, h => by
    rw [List.all_cons, Bool.and_eq_true] at h
    obtain ⟨h1, h2⟩ := pyF_lay h.1
    obtain ⟨h3, h4⟩ := pyF_layL h.2
    exact ⟨by simp [PyData.canLayAll0, h1, h3], by simp [PyData.depthAll, h2, h4]⟩
theorem shaped_l {ds : List D} (h : ds.all okD = true) : SeqAt.shaped (.list (ds.map pyF)) = true := by
  obtain ⟨h1, h2⟩ := pyF_layL h
  unfold SeqAt.shaped
  simp [PyData.canLay0, PyData.depth, h1, h2]
theorem shaped_t {ds : List D} (h : ds.all okD = true) : SeqAt.shaped (.tuple (ds.map pyF)) = true := by
  obtain ⟨h1, h2⟩ := pyF_layL h
  unfold SeqAt.shaped
  simp [PyData.canLay0, PyData.depth, h1, h2]
def eqvD (ds es : List D) : Bool := PyData.eqvAll (ds.map pyF) (es.map pyF)
theorem eqvD_nil (ds : List D) : eqvD ds [] = ds.isEmpty := by
  cases ds <;> simp [eqvD, PyData.eqvAll]
theorem eqvD_ints : ∀ (ns ms : List Int), eqvD (ns.map D.int) (ms.map D.int) = decide (ns = ms)
  | [], [] => by simp [eqvD, PyData.eqvAll]
  | [], m :: ms => by simp [eqvD, PyData.eqvAll]
  | n :: ns, [] => by simp [eqvD, PyData.eqvAll]
  | n :: ns, m :: ms => by
    have ih := eqvD_ints ns ms
    unfold eqvD at ih
    simp only [eqvD, List.map_cons, PyData.eqvAll, pyF, PyData.eqv, ih, List.cons.injEq]
    by_cases a : n = m <;> by_cases b : ns = ms <;> simp [a, b]
theorem ok_ints (ns : List Int) : (ns.map D.int).all okD = true := by simp [okD]
theorem ok_nil : ([] : List D).all okD = true := rfl
section
variable {ρ ρ' : Rho} {L R : List Itm} {P : DK} {K : DEnds} {w wa : DTE} {wr : DTA} {x y z : D} {i j : Int} {s s' : Str} {ds es : List D} {p q : Addr} {g : Bool → Bool} {T : TK3} {M : Rho → List Itm → Prop}
theorem v_eqLL (k1 : keepL p ds L) (k2 : keepL q es L) (f1 : ds.all okD = true) (f2 : es.all okD = true) (h : P (.bl (g (eqvD ds es))) L) : fEqG g (.ref p) (.ref q) L P :=
  ⟨_, _, .lst k1 (pyF_okL f1), .lst k2 (pyF_okL f2), shaped_l f1, shaped_l f2, by simpa [PyData.eqv, eqvD] using h⟩
theorem v_eqTT (f1 : ds.all okD = true) (f2 : es.all okD = true) (h : P (.bl (g (eqvD ds es))) L) : fEqG g (.tup ds) (.tup es) L P :=
  ⟨_, _, .tup (pyF_okL f1), .tup (pyF_okL f2), shaped_t f1, shaped_t f2, by simpa [PyData.eqv, eqvD] using h⟩
theorem v_eqNil (k1 : keepL p ds L) (k2 : keepL q [] L) (f1 : ds.all okD = true) (h : P (.bl (g ds.isEmpty)) L) : fEqG g (.ref p) (.ref q) L P :=
  v_eqLL k1 k2 f1 rfl (by rw [eqvD_nil]; exact h)
theorem st_is {N : Nat} {t : Rho → List Itm → Prop} (e : startD N ds = ρ) (h : t ρ L) : t (startD N ds) L := by rw [e]; exact h
theorem i_str (h : w ρ L fun d L1 => ∃ s, d = .str s ∧ T (chD s) (fun _ => True) L1) : iStrD w ρ L T := h
theorem v_str {X : Str → Prop} (h : X s) : ∃ s', D.str s = .str s' ∧ X s' := ⟨s, rfl, h⟩
theorem i_en {k : Int} (h : w ρ L fun d L1 => ∃ s, d = .str s ∧ T (enD k s) (fun _ => True) L1) : iEnD k w ρ L T := h
theorem g_nil (h : M ρ L) : gNilD [] ρ L M := ⟨rfl, h⟩
theorem g_cons {a : DTG} {b : DTGs} (h : a x ρ L fun ρ1 L1 => b ds ρ1 L1 M) : gConsD a b (x :: ds) ρ L M := ⟨x, ds, rfl, h⟩
theorem g_tup {b : DTGs} {n : Nat} (e : ds.length = n) (h : b ds ρ L M) : gTupD n b (.tup ds) ρ L M := ⟨ds, rfl, e, h⟩
theorem g_lst {b : DTGs} {n : Nat} (k : keepL p ds L) (e : ds.length = n) (h : b ds ρ L M) : gLstD n b (.ref p) ρ L M := ⟨p, ds, rfl, k, e, h⟩
theorem e_js {ws : List DTE} (h : wJs ws Str.empty ρ L fun s L1 => P (.str s) L1) : wJoin ws ρ L P := h
theorem e_js0 {acc : Str} {Q : Str → List Itm → Prop} (h : Q acc L) : wJs [] acc ρ L Q := h
theorem e_js1 {acc : Str} {ws : List DTE} {Q : Str → List Itm → Prop} (h : w ρ L fun d L1 => ∃ y, d = .str y ∧ (acc ++ y).length ≤ sizeLine ∧ wJs ws (acc ++ y) ρ L1 Q) : wJs (w :: ws) acc ρ L Q := h
theorem v_fmtS (hz : s.length ≤ sizeLine) (h : P (.str s) L) : fmtD (.str s) L P := ⟨hz, h⟩
theorem v_fmtI (hz : i.natAbs.log2 < 1920) (h : P (.str (toString i)) L) : fmtD (.int i) L P := ⟨hz, h⟩
theorem v_isi {t n : String} {b : Bool} (ty : TyD L x t) (k : kitB t n = some b) (h : P (.bl b) L) : fIsi [x, .ty n] L P := ⟨x, t, n, b, rfl, ty, k, h⟩
theorem v_zfill (hp : PadOk i = true) (h : P (.str (Txt.zfill s i)) L) : fZfill (.str s) [.int i] L P := ⟨s, i, rfl, rfl, hp, h⟩
theorem v_rpart (hb : (s'.length == 0) = false) (hz : s.length ≤ sizeLine) (h : P (.tup [.str (Txt.rpartition s s').1, .str (Txt.rpartition s s').2.1, .str (Txt.rpartition s s').2.2]) L) : fRpart (.str s) [.str s'] L P := ⟨s, s', rfl, rfl, hb, hz, h⟩
theorem e_lrg (h : w ρ L fun d L1 => ∃ n : Int, d = .int n ∧ 0 ≤ n ∧ n ≤ 16777216 ∧ ∀ q, P (.ref q) (.l q (rgD 0 n.toNat) :: L1)) : wListRg w ρ L P := h
/-- a comprehension by a word of the turn: what stands at the turn's start is the list made so far and L -/
theorem e_lc {it : DTI} {gd : DTG} {tt : DTT} {te : DTE} {vs : List Nat} (h : it ρ L fun ds keep L1 => ∀ r, ∃ W : Nat → List Itm → Prop, W 0 (.l r [] :: L1) ∧ (∀ i L', i ≤ ds.length → W i L' → keep L') ∧
  (∀ i d L', ds[i]? = some d → W i L' → gd d (wipeD ρ vs) L' fun ρ2 L2 => tt ρ2 L2 fun b L3 => (b = true → te ρ2 L3 fun y L4 => ∃ acc R, Pull L4 (.l r acc) R ∧ acc.length < sizeLine ∧ Dl (W (i + 1)) (.l r (acc ++ [y]) :: R)) ∧ (b = false → Dl (W (i + 1)) L3)) ∧
  (∀ L', W ds.length L' → P (.ref r) L')) : wLc it gd tt te vs ρ L P := h
theorem v_pull {X : List D → List Itm → Prop} (k : Pull L (.l p ds) R) (h : ds.length < sizeLine ∧ X ds R) : ∃ acc R, Pull L (.l p acc) R ∧ acc.length < sizeLine ∧ X acc R := ⟨ds, R, k, h⟩
end
/-- new things ahead of old ones leave the list pulled -/
theorem Pull.over {L R : List Itm} {it : Itm} (h : Pull L it R) : ∀ N : List Itm, Pull (N ++ L) it (N ++ R)
  | [] => h
  | n :: N => .there (h.over N)
theorem keepL.over {p : Addr} {ds : List D} {L : List Itm} (h : keepL p ds L) (N : List Itm) : keepL p ds (N ++ L) := h.elim (fun h => .inl (List.mem_append_right _ h)) fun h => .inr (List.mem_append_right _ h)
theorem keepL.cons {p : Addr} {ds : List D} {L : List Itm} (h : keepL p ds L) (n : Itm) : keepL p ds (n :: L) := h.over [n]
theorem Pull.keep {p : Addr} {ds : List D} {L R : List Itm} (h : Pull L (.l p ds) R) : keepL p ds L := .inl h.mem
end DL

set_option maxRecDepth 100000
set_option maxHeartbeats 2000000
namespace DL
open PySem L2
/-! ### slots by number -/
theorem e_v0 {L : List Itm} {P : DK} {x : D} {r : Rho} (h : P x L) : wVar 0 (some x :: r) L P := ⟨x, rfl, h⟩
theorem e_v1 {L : List Itm} {P : DK} {x : D} {r : Rho} {a0 : Option D} (h : P x L) : wVar 1 (a0 :: some x :: r) L P := ⟨x, rfl, h⟩
theorem e_v2 {L : List Itm} {P : DK} {x : D} {r : Rho} {a0 a1 : Option D} (h : P x L) : wVar 2 (a0 :: a1 :: some x :: r) L P := ⟨x, rfl, h⟩
theorem e_v3 {L : List Itm} {P : DK} {x : D} {r : Rho} {a0 a1 a2 : Option D} (h : P x L) : wVar 3 (a0 :: a1 :: a2 :: some x :: r) L P := ⟨x, rfl, h⟩
theorem e_v4 {L : List Itm} {P : DK} {x : D} {r : Rho} {a0 a1 a2 a3 : Option D} (h : P x L) : wVar 4 (a0 :: a1 :: a2 :: a3 :: some x :: r) L P := ⟨x, rfl, h⟩
theorem e_v5 {L : List Itm} {P : DK} {x : D} {r : Rho} {a0 a1 a2 a3 a4 : Option D} (h : P x L) : wVar 5 (a0 :: a1 :: a2 :: a3 :: a4 :: some x :: r) L P := ⟨x, rfl, h⟩
theorem e_v6 {L : List Itm} {P : DK} {x : D} {r : Rho} {a0 a1 a2 a3 a4 a5 : Option D} (h : P x L) : wVar 6 (a0 :: a1 :: a2 :: a3 :: a4 :: a5 :: some x :: r) L P := ⟨x, rfl, h⟩
theorem e_v7 {L : List Itm} {P : DK} {x : D} {r : Rho} {a0 a1 a2 a3 a4 a5 a6 : Option D} (h : P x L) : wVar 7 (a0 :: a1 :: a2 :: a3 :: a4 :: a5 :: a6 :: some x :: r) L P := ⟨x, rfl, h⟩
theorem e_v8 {L : List Itm} {P : DK} {x : D} {r : Rho} {a0 a1 a2 a3 a4 a5 a6 a7 : Option D} (h : P x L) : wVar 8 (a0 :: a1 :: a2 :: a3 :: a4 :: a5 :: a6 :: a7 :: some x :: r) L P := ⟨x, rfl, h⟩
theorem e_v9 {L : List Itm} {P : DK} {x : D} {r : Rho} {a0 a1 a2 a3 a4 a5 a6 a7 a8 : Option D} (h : P x L) : wVar 9 (a0 :: a1 :: a2 :: a3 :: a4 :: a5 :: a6 :: a7 :: a8 :: some x :: r) L P := ⟨x, rfl, h⟩
theorem e_v10 {L : List Itm} {P : DK} {x : D} {r : Rho} {a0 a1 a2 a3 a4 a5 a6 a7 a8 a9 : Option D} (h : P x L) : wVar 10 (a0 :: a1 :: a2 :: a3 :: a4 :: a5 :: a6 :: a7 :: a8 :: a9 :: some x :: r) L P := ⟨x, rfl, h⟩
theorem e_v11 {L : List Itm} {P : DK} {x : D} {r : Rho} {a0 a1 a2 a3 a4 a5 a6 a7 a8 a9 a10 : Option D} (h : P x L) : wVar 11 (a0 :: a1 :: a2 :: a3 :: a4 :: a5 :: a6 :: a7 :: a8 :: a9 :: a10 :: some x :: r) L P := ⟨x, rfl, h⟩
theorem e_v12 {L : List Itm} {P : DK} {x : D} {r : Rho} {a0 a1 a2 a3 a4 a5 a6 a7 a8 a9 a10 a11 : Option D} (h : P x L) : wVar 12 (a0 :: a1 :: a2 :: a3 :: a4 :: a5 :: a6 :: a7 :: a8 :: a9 :: a10 :: a11 :: some x :: r) L P := ⟨x, rfl, h⟩
theorem e_v13 {L : List Itm} {P : DK} {x : D} {r : Rho} {a0 a1 a2 a3 a4 a5 a6 a7 a8 a9 a10 a11 a12 : Option D} (h : P x L) : wVar 13 (a0 :: a1 :: a2 :: a3 :: a4 :: a5 :: a6 :: a7 :: a8 :: a9 :: a10 :: a11 :: a12 :: some x :: r) L P := ⟨x, rfl, h⟩
theorem e_v14 {L : List Itm} {P : DK} {x : D} {r : Rho} {a0 a1 a2 a3 a4 a5 a6 a7 a8 a9 a10 a11 a12 a13 : Option D} (h : P x L) : wVar 14 (a0 :: a1 :: a2 :: a3 :: a4 :: a5 :: a6 :: a7 :: a8 :: a9 :: a10 :: a11 :: a12 :: a13 :: some x :: r) L P := ⟨x, rfl, h⟩
theorem e_v15 {L : List Itm} {P : DK} {x : D} {r : Rho} {a0 a1 a2 a3 a4 a5 a6 a7 a8 a9 a10 a11 a12 a13 a14 : Option D} (h : P x L) : wVar 15 (a0 :: a1 :: a2 :: a3 :: a4 :: a5 :: a6 :: a7 :: a8 :: a9 :: a10 :: a11 :: a12 :: a13 :: a14 :: some x :: r) L P := ⟨x, rfl, h⟩
theorem e_v16 {L : List Itm} {P : DK} {x : D} {r : Rho} {a0 a1 a2 a3 a4 a5 a6 a7 a8 a9 a10 a11 a12 a13 a14 a15 : Option D} (h : P x L) : wVar 16 (a0 :: a1 :: a2 :: a3 :: a4 :: a5 :: a6 :: a7 :: a8 :: a9 :: a10 :: a11 :: a12 :: a13 :: a14 :: a15 :: some x :: r) L P := ⟨x, rfl, h⟩
theorem e_v17 {L : List Itm} {P : DK} {x : D} {r : Rho} {a0 a1 a2 a3 a4 a5 a6 a7 a8 a9 a10 a11 a12 a13 a14 a15 a16 : Option D} (h : P x L) : wVar 17 (a0 :: a1 :: a2 :: a3 :: a4 :: a5 :: a6 :: a7 :: a8 :: a9 :: a10 :: a11 :: a12 :: a13 :: a14 :: a15 :: a16 :: some x :: r) L P := ⟨x, rfl, h⟩
theorem e_v18 {L : List Itm} {P : DK} {x : D} {r : Rho} {a0 a1 a2 a3 a4 a5 a6 a7 a8 a9 a10 a11 a12 a13 a14 a15 a16 a17 : Option D} (h : P x L) : wVar 18 (a0 :: a1 :: a2 :: a3 :: a4 :: a5 :: a6 :: a7 :: a8 :: a9 :: a10 :: a11 :: a12 :: a13 :: a14 :: a15 :: a16 :: a17 :: some x :: r) L P := ⟨x, rfl, h⟩
theorem e_v19 {L : List Itm} {P : DK} {x : D} {r : Rho} {a0 a1 a2 a3 a4 a5 a6 a7 a8 a9 a10 a11 a12 a13 a14 a15 a16 a17 a18 : Option D} (h : P x L) : wVar 19 (a0 :: a1 :: a2 :: a3 :: a4 :: a5 :: a6 :: a7 :: a8 :: a9 :: a10 :: a11 :: a12 :: a13 :: a14 :: a15 :: a16 :: a17 :: a18 :: some x :: r) L P := ⟨x, rfl, h⟩
theorem e_v20 {L : List Itm} {P : DK} {x : D} {r : Rho} {a0 a1 a2 a3 a4 a5 a6 a7 a8 a9 a10 a11 a12 a13 a14 a15 a16 a17 a18 a19 : Option D} (h : P x L) : wVar 20 (a0 :: a1 :: a2 :: a3 :: a4 :: a5 :: a6 :: a7 :: a8 :: a9 :: a10 :: a11 :: a12 :: a13 :: a14 :: a15 :: a16 :: a17 :: a18 :: a19 :: some x :: r) L P := ⟨x, rfl, h⟩
theorem e_v21 {L : List Itm} {P : DK} {x : D} {r : Rho} {a0 a1 a2 a3 a4 a5 a6 a7 a8 a9 a10 a11 a12 a13 a14 a15 a16 a17 a18 a19 a20 : Option D} (h : P x L) : wVar 21 (a0 :: a1 :: a2 :: a3 :: a4 :: a5 :: a6 :: a7 :: a8 :: a9 :: a10 :: a11 :: a12 :: a13 :: a14 :: a15 :: a16 :: a17 :: a18 :: a19 :: a20 :: some x :: r) L P := ⟨x, rfl, h⟩
theorem e_v22 {L : List Itm} {P : DK} {x : D} {r : Rho} {a0 a1 a2 a3 a4 a5 a6 a7 a8 a9 a10 a11 a12 a13 a14 a15 a16 a17 a18 a19 a20 a21 : Option D} (h : P x L) : wVar 22 (a0 :: a1 :: a2 :: a3 :: a4 :: a5 :: a6 :: a7 :: a8 :: a9 :: a10 :: a11 :: a12 :: a13 :: a14 :: a15 :: a16 :: a17 :: a18 :: a19 :: a20 :: a21 :: some x :: r) L P := ⟨x, rfl, h⟩
theorem e_v23 {L : List Itm} {P : DK} {x : D} {r : Rho} {a0 a1 a2 a3 a4 a5 a6 a7 a8 a9 a10 a11 a12 a13 a14 a15 a16 a17 a18 a19 a20 a21 a22 : Option D} (h : P x L) : wVar 23 (a0 :: a1 :: a2 :: a3 :: a4 :: a5 :: a6 :: a7 :: a8 :: a9 :: a10 :: a11 :: a12 :: a13 :: a14 :: a15 :: a16 :: a17 :: a18 :: a19 :: a20 :: a21 :: a22 :: some x :: r) L P := ⟨x, rfl, h⟩
theorem e_v24 {L : List Itm} {P : DK} {x : D} {r : Rho} {a0 a1 a2 a3 a4 a5 a6 a7 a8 a9 a10 a11 a12 a13 a14 a15 a16 a17 a18 a19 a20 a21 a22 a23 : Option D} (h : P x L) : wVar 24 (a0 :: a1 :: a2 :: a3 :: a4 :: a5 :: a6 :: a7 :: a8 :: a9 :: a10 :: a11 :: a12 :: a13 :: a14 :: a15 :: a16 :: a17 :: a18 :: a19 :: a20 :: a21 :: a22 :: a23 :: some x :: r) L P := ⟨x, rfl, h⟩
theorem s_g0 {L : List Itm} {M : Rho → List Itm → Prop} {x : D} {r : Rho} {a0 : Option D} (h : M (some x :: r) L) : gN 0 x (a0 :: r) L M := h
theorem s_g1 {L : List Itm} {M : Rho → List Itm → Prop} {x : D} {r : Rho} {a0 a1 : Option D} (h : M (a0 :: some x :: r) L) : gN 1 x (a0 :: a1 :: r) L M := h
theorem s_g2 {L : List Itm} {M : Rho → List Itm → Prop} {x : D} {r : Rho} {a0 a1 a2 : Option D} (h : M (a0 :: a1 :: some x :: r) L) : gN 2 x (a0 :: a1 :: a2 :: r) L M := h
theorem s_g3 {L : List Itm} {M : Rho → List Itm → Prop} {x : D} {r : Rho} {a0 a1 a2 a3 : Option D} (h : M (a0 :: a1 :: a2 :: some x :: r) L) : gN 3 x (a0 :: a1 :: a2 :: a3 :: r) L M := h
theorem s_g4 {L : List Itm} {M : Rho → List Itm → Prop} {x : D} {r : Rho} {a0 a1 a2 a3 a4 : Option D} (h : M (a0 :: a1 :: a2 :: a3 :: some x :: r) L) : gN 4 x (a0 :: a1 :: a2 :: a3 :: a4 :: r) L M := h
theorem s_g5 {L : List Itm} {M : Rho → List Itm → Prop} {x : D} {r : Rho} {a0 a1 a2 a3 a4 a5 : Option D} (h : M (a0 :: a1 :: a2 :: a3 :: a4 :: some x :: r) L) : gN 5 x (a0 :: a1 :: a2 :: a3 :: a4 :: a5 :: r) L M := h
theorem s_g6 {L : List Itm} {M : Rho → List Itm → Prop} {x : D} {r : Rho} {a0 a1 a2 a3 a4 a5 a6 : Option D} (h : M (a0 :: a1 :: a2 :: a3 :: a4 :: a5 :: some x :: r) L) : gN 6 x (a0 :: a1 :: a2 :: a3 :: a4 :: a5 :: a6 :: r) L M := h
theorem s_g7 {L : List Itm} {M : Rho → List Itm → Prop} {x : D} {r : Rho} {a0 a1 a2 a3 a4 a5 a6 a7 : Option D} (h : M (a0 :: a1 :: a2 :: a3 :: a4 :: a5 :: a6 :: some x :: r) L) : gN 7 x (a0 :: a1 :: a2 :: a3 :: a4 :: a5 :: a6 :: a7 :: r) L M := h
theorem s_g8 {L : List Itm} {M : Rho → List Itm → Prop} {x : D} {r : Rho} {a0 a1 a2 a3 a4 a5 a6 a7 a8 : Option D} (h : M (a0 :: a1 :: a2 :: a3 :: a4 :: a5 :: a6 :: a7 :: some x :: r) L) : gN 8 x (a0 :: a1 :: a2 :: a3 :: a4 :: a5 :: a6 :: a7 :: a8 :: r) L M := h
theorem s_g9 {L : List Itm} {M : Rho → List Itm → Prop} {x : D} {r : Rho} {a0 a1 a2 a3 a4 a5 a6 a7 a8 a9 : Option D} (h : M (a0 :: a1 :: a2 :: a3 :: a4 :: a5 :: a6 :: a7 :: a8 :: some x :: r) L) : gN 9 x (a0 :: a1 :: a2 :: a3 :: a4 :: a5 :: a6 :: a7 :: a8 :: a9 :: r) L M := h
theorem s_g10 {L : List Itm} {M : Rho → List Itm → Prop} {x : D} {r : Rho} {a0 a1 a2 a3 a4 a5 a6 a7 a8 a9 a10 : Option D} (h : M (a0 :: a1 :: a2 :: a3 :: a4 :: a5 :: a6 :: a7 :: a8 :: a9 :: some x :: r) L) : gN 10 x (a0 :: a1 :: a2 :: a3 :: a4 :: a5 :: a6 :: a7 :: a8 :: a9 :: a10 :: r) L M := h
theorem s_g11 {L : List Itm} {M : Rho → List Itm → Prop} {x : D} {r : Rho} {a0 a1 a2 a3 a4 a5 a6 a7 a8 a9 a10 a11 : Option D} (h : M (a0 :: a1 :: a2 :: a3 :: a4 :: a5 :: a6 :: a7 :: a8 :: a9 :: a10 :: some x :: r) L) : gN 11 x (a0 :: a1 :: a2 :: a3 :: a4 :: a5 :: a6 :: a7 :: a8 :: a9 :: a10 :: a11 :: r) L M := h
theorem s_g12 {L : List Itm} {M : Rho → List Itm → Prop} {x : D} {r : Rho} {a0 a1 a2 a3 a4 a5 a6 a7 a8 a9 a10 a11 a12 : Option D} (h : M (a0 :: a1 :: a2 :: a3 :: a4 :: a5 :: a6 :: a7 :: a8 :: a9 :: a10 :: a11 :: some x :: r) L) : gN 12 x (a0 :: a1 :: a2 :: a3 :: a4 :: a5 :: a6 :: a7 :: a8 :: a9 :: a10 :: a11 :: a12 :: r) L M := h
theorem s_g13 {L : List Itm} {M : Rho → List Itm → Prop} {x : D} {r : Rho} {a0 a1 a2 a3 a4 a5 a6 a7 a8 a9 a10 a11 a12 a13 : Option D} (h : M (a0 :: a1 :: a2 :: a3 :: a4 :: a5 :: a6 :: a7 :: a8 :: a9 :: a10 :: a11 :: a12 :: some x :: r) L) : gN 13 x (a0 :: a1 :: a2 :: a3 :: a4 :: a5 :: a6 :: a7 :: a8 :: a9 :: a10 :: a11 :: a12 :: a13 :: r) L M := h
theorem s_g14 {L : List Itm} {M : Rho → List Itm → Prop} {x : D} {r : Rho} {a0 a1 a2 a3 a4 a5 a6 a7 a8 a9 a10 a11 a12 a13 a14 : Option D} (h : M (a0 :: a1 :: a2 :: a3 :: a4 :: a5 :: a6 :: a7 :: a8 :: a9 :: a10 :: a11 :: a12 :: a13 :: some x :: r) L) : gN 14 x (a0 :: a1 :: a2 :: a3 :: a4 :: a5 :: a6 :: a7 :: a8 :: a9 :: a10 :: a11 :: a12 :: a13 :: a14 :: r) L M := h
theorem s_g15 {L : List Itm} {M : Rho → List Itm → Prop} {x : D} {r : Rho} {a0 a1 a2 a3 a4 a5 a6 a7 a8 a9 a10 a11 a12 a13 a14 a15 : Option D} (h : M (a0 :: a1 :: a2 :: a3 :: a4 :: a5 :: a6 :: a7 :: a8 :: a9 :: a10 :: a11 :: a12 :: a13 :: a14 :: some x :: r) L) : gN 15 x (a0 :: a1 :: a2 :: a3 :: a4 :: a5 :: a6 :: a7 :: a8 :: a9 :: a10 :: a11 :: a12 :: a13 :: a14 :: a15 :: r) L M := h
theorem s_g16 {L : List Itm} {M : Rho → List Itm → Prop} {x : D} {r : Rho} {a0 a1 a2 a3 a4 a5 a6 a7 a8 a9 a10 a11 a12 a13 a14 a15 a16 : Option D} (h : M (a0 :: a1 :: a2 :: a3 :: a4 :: a5 :: a6 :: a7 :: a8 :: a9 :: a10 :: a11 :: a12 :: a13 :: a14 :: a15 :: some x :: r) L) : gN 16 x (a0 :: a1 :: a2 :: a3 :: a4 :: a5 :: a6 :: a7 :: a8 :: a9 :: a10 :: a11 :: a12 :: a13 :: a14 :: a15 :: a16 :: r) L M := h
theorem s_g17 {L : List Itm} {M : Rho → List Itm → Prop} {x : D} {r : Rho} {a0 a1 a2 a3 a4 a5 a6 a7 a8 a9 a10 a11 a12 a13 a14 a15 a16 a17 : Option D} (h : M (a0 :: a1 :: a2 :: a3 :: a4 :: a5 :: a6 :: a7 :: a8 :: a9 :: a10 :: a11 :: a12 :: a13 :: a14 :: a15 :: a16 :: some x :: r) L) : gN 17 x (a0 :: a1 :: a2 :: a3 :: a4 :: a5 :: a6 :: a7 :: a8 :: a9 :: a10 :: a11 :: a12 :: a13 :: a14 :: a15 :: a16 :: a17 :: r) L M := h
theorem s_g18 {L : List Itm} {M : Rho → List Itm → Prop} {x : D} {r : Rho} {a0 a1 a2 a3 a4 a5 a6 a7 a8 a9 a10 a11 a12 a13 a14 a15 a16 a17 a18 : Option D} (h : M (a0 :: a1 :: a2 :: a3 :: a4 :: a5 :: a6 :: a7 :: a8 :: a9 :: a10 :: a11 :: a12 :: a13 :: a14 :: a15 :: a16 :: a17 :: some x :: r) L) : gN 18 x (a0 :: a1 :: a2 :: a3 :: a4 :: a5 :: a6 :: a7 :: a8 :: a9 :: a10 :: a11 :: a12 :: a13 :: a14 :: a15 :: a16 :: a17 :: a18 :: r) L M := h
theorem s_g19 {L : List Itm} {M : Rho → List Itm → Prop} {x : D} {r : Rho} {a0 a1 a2 a3 a4 a5 a6 a7 a8 a9 a10 a11 a12 a13 a14 a15 a16 a17 a18 a19 : Option D} (h : M (a0 :: a1 :: a2 :: a3 :: a4 :: a5 :: a6 :: a7 :: a8 :: a9 :: a10 :: a11 :: a12 :: a13 :: a14 :: a15 :: a16 :: a17 :: a18 :: some x :: r) L) : gN 19 x (a0 :: a1 :: a2 :: a3 :: a4 :: a5 :: a6 :: a7 :: a8 :: a9 :: a10 :: a11 :: a12 :: a13 :: a14 :: a15 :: a16 :: a17 :: a18 :: a19 :: r) L M := h
theorem s_g20 {L : List Itm} {M : Rho → List Itm → Prop} {x : D} {r : Rho} {a0 a1 a2 a3 a4 a5 a6 a7 a8 a9 a10 a11 a12 a13 a14 a15 a16 a17 a18 a19 a20 : Option D} (h : M (a0 :: a1 :: a2 :: a3 :: a4 :: a5 :: a6 :: a7 :: a8 :: a9 :: a10 :: a11 :: a12 :: a13 :: a14 :: a15 :: a16 :: a17 :: a18 :: a19 :: some x :: r) L) : gN 20 x (a0 :: a1 :: a2 :: a3 :: a4 :: a5 :: a6 :: a7 :: a8 :: a9 :: a10 :: a11 :: a12 :: a13 :: a14 :: a15 :: a16 :: a17 :: a18 :: a19 :: a20 :: r) L M := h
theorem s_g21 {L : List Itm} {M : Rho → List Itm → Prop} {x : D} {r : Rho} {a0 a1 a2 a3 a4 a5 a6 a7 a8 a9 a10 a11 a12 a13 a14 a15 a16 a17 a18 a19 a20 a21 : Option D} (h : M (a0 :: a1 :: a2 :: a3 :: a4 :: a5 :: a6 :: a7 :: a8 :: a9 :: a10 :: a11 :: a12 :: a13 :: a14 :: a15 :: a16 :: a17 :: a18 :: a19 :: a20 :: some x :: r) L) : gN 21 x (a0 :: a1 :: a2 :: a3 :: a4 :: a5 :: a6 :: a7 :: a8 :: a9 :: a10 :: a11 :: a12 :: a13 :: a14 :: a15 :: a16 :: a17 :: a18 :: a19 :: a20 :: a21 :: r) L M := h
theorem s_g22 {L : List Itm} {M : Rho → List Itm → Prop} {x : D} {r : Rho} {a0 a1 a2 a3 a4 a5 a6 a7 a8 a9 a10 a11 a12 a13 a14 a15 a16 a17 a18 a19 a20 a21 a22 : Option D} (h : M (a0 :: a1 :: a2 :: a3 :: a4 :: a5 :: a6 :: a7 :: a8 :: a9 :: a10 :: a11 :: a12 :: a13 :: a14 :: a15 :: a16 :: a17 :: a18 :: a19 :: a20 :: a21 :: some x :: r) L) : gN 22 x (a0 :: a1 :: a2 :: a3 :: a4 :: a5 :: a6 :: a7 :: a8 :: a9 :: a10 :: a11 :: a12 :: a13 :: a14 :: a15 :: a16 :: a17 :: a18 :: a19 :: a20 :: a21 :: a22 :: r) L M := h
theorem s_g23 {L : List Itm} {M : Rho → List Itm → Prop} {x : D} {r : Rho} {a0 a1 a2 a3 a4 a5 a6 a7 a8 a9 a10 a11 a12 a13 a14 a15 a16 a17 a18 a19 a20 a21 a22 a23 : Option D} (h : M (a0 :: a1 :: a2 :: a3 :: a4 :: a5 :: a6 :: a7 :: a8 :: a9 :: a10 :: a11 :: a12 :: a13 :: a14 :: a15 :: a16 :: a17 :: a18 :: a19 :: a20 :: a21 :: a22 :: some x :: r) L) : gN 23 x (a0 :: a1 :: a2 :: a3 :: a4 :: a5 :: a6 :: a7 :: a8 :: a9 :: a10 :: a11 :: a12 :: a13 :: a14 :: a15 :: a16 :: a17 :: a18 :: a19 :: a20 :: a21 :: a22 :: a23 :: r) L M := h
theorem s_g24 {L : List Itm} {M : Rho → List Itm → Prop} {x : D} {r : Rho} {a0 a1 a2 a3 a4 a5 a6 a7 a8 a9 a10 a11 a12 a13 a14 a15 a16 a17 a18 a19 a20 a21 a22 a23 a24 : Option D} (h : M (a0 :: a1 :: a2 :: a3 :: a4 :: a5 :: a6 :: a7 :: a8 :: a9 :: a10 :: a11 :: a12 :: a13 :: a14 :: a15 :: a16 :: a17 :: a18 :: a19 :: a20 :: a21 :: a22 :: a23 :: some x :: r) L) : gN 24 x (a0 :: a1 :: a2 :: a3 :: a4 :: a5 :: a6 :: a7 :: a8 :: a9 :: a10 :: a11 :: a12 :: a13 :: a14 :: a15 :: a16 :: a17 :: a18 :: a19 :: a20 :: a21 :: a22 :: a23 :: a24 :: r) L M := h
theorem imm_is {L : List Itm} {p : Addr} {ds : List D} (h : Itm.s p ds ∈ L) : keepL p ds L := .inr h
/-! ### sizes of written lists -/
theorem z_0 {X : Prop} (h : X) : ([] : List D).length ≤ sizeLine ∧ X := ⟨by rw [sizeLine_eq]; show 0 ≤ _; decide, h⟩
theorem z_1 {X : Prop} {a0 : D} (h : X) : ([a0] : List D).length ≤ sizeLine ∧ X := ⟨by rw [sizeLine_eq]; show 1 ≤ _; decide, h⟩
theorem z_2 {X : Prop} {a0 a1 : D} (h : X) : ([a0, a1] : List D).length ≤ sizeLine ∧ X := ⟨by rw [sizeLine_eq]; show 2 ≤ _; decide, h⟩
theorem z_3 {X : Prop} {a0 a1 a2 : D} (h : X) : ([a0, a1, a2] : List D).length ≤ sizeLine ∧ X := ⟨by rw [sizeLine_eq]; show 3 ≤ _; decide, h⟩
theorem z_4 {X : Prop} {a0 a1 a2 a3 : D} (h : X) : ([a0, a1, a2, a3] : List D).length ≤ sizeLine ∧ X := ⟨by rw [sizeLine_eq]; show 4 ≤ _; decide, h⟩
theorem z_5 {X : Prop} {a0 a1 a2 a3 a4 : D} (h : X) : ([a0, a1, a2, a3, a4] : List D).length ≤ sizeLine ∧ X := ⟨by rw [sizeLine_eq]; show 5 ≤ _; decide, h⟩
theorem z_6 {X : Prop} {a0 a1 a2 a3 a4 a5 : D} (h : X) : ([a0, a1, a2, a3, a4, a5] : List D).length ≤ sizeLine ∧ X := ⟨by rw [sizeLine_eq]; show 6 ≤ _; decide, h⟩
theorem z_7 {X : Prop} {a0 a1 a2 a3 a4 a5 a6 : D} (h : X) : ([a0, a1, a2, a3, a4, a5, a6] : List D).length ≤ sizeLine ∧ X := ⟨by rw [sizeLine_eq]; show 7 ≤ _; decide, h⟩
theorem z_8 {X : Prop} {a0 a1 a2 a3 a4 a5 a6 a7 : D} (h : X) : ([a0, a1, a2, a3, a4, a5, a6, a7] : List D).length ≤ sizeLine ∧ X := ⟨by rw [sizeLine_eq]; show 8 ≤ _; decide, h⟩
theorem z_9 {X : Prop} {a0 a1 a2 a3 a4 a5 a6 a7 a8 : D} (h : X) : ([a0, a1, a2, a3, a4, a5, a6, a7, a8] : List D).length ≤ sizeLine ∧ X := ⟨by rw [sizeLine_eq]; show 9 ≤ _; decide, h⟩
theorem z_10 {X : Prop} {a0 a1 a2 a3 a4 a5 a6 a7 a8 a9 : D} (h : X) : ([a0, a1, a2, a3, a4, a5, a6, a7, a8, a9] : List D).length ≤ sizeLine ∧ X := ⟨by rw [sizeLine_eq]; show 10 ≤ _; decide, h⟩
theorem z_11 {X : Prop} {a0 a1 a2 a3 a4 a5 a6 a7 a8 a9 a10 : D} (h : X) : ([a0, a1, a2, a3, a4, a5, a6, a7, a8, a9, a10] : List D).length ≤ sizeLine ∧ X := ⟨by rw [sizeLine_eq]; show 11 ≤ _; decide, h⟩
end DL

set_option maxRecDepth 100000
set_option maxHeartbeats 2000000
namespace TX
open PySem L2 DL SX Builtin.Str

theorem S_ext {a b : List Nat} (h : a = b) : S a = S b := by rw [h]
theorem len1 (c : Nat) : TL.tl (S [c]) ≠ [] := by
  show [c] ≠ []
  simp
theorem pre1 (c : Nat) (l : List Nat) : TL.pre [c] l = true ↔ l.head? = some c := by
  unfold TL.pre
  cases l with
  | nil => simp
  | cons d r =>
    show ([d] == [c]) = true ↔ some d = some c
    rw [beq_iff_eq]
    simp
theorem at1 (a : List Nat) (c i : Nat) : StrLaws.At (S a) (S [c]) (S a).length i ↔ a[i]? = some c := by
  rw [TL.at_iff (len1 c)]
  show TL.pre [c] (a.drop i) = true ↔ _
  rw [pre1, List.head?_drop]
theorem rpart_some {p q : List Nat} {c : Nat} (h : c ∉ q) : Txt.rpartition (S (p ++ c :: q)) (S [c]) = (S p, S [c], S q) := by
  have hat : (p ++ c :: q)[p.length]? = some c := by simp
  rcases StrLaws.last_spec (S (p ++ c :: q)) (S [c]) with ⟨_, hn⟩ | ⟨i, e, hi, hn⟩
  · exact absurd ((at1 _ _ _).mpr hat) (hn _)
  · have hi' := (at1 _ _ _).mp hi
    have hip : i = p.length := by
      rcases Nat.lt_trichotomy i p.length with hlt | he | hgt
      · exact absurd ((at1 _ _ _).mpr hat) (hn _ hlt)
      · exact he
      · exfalso
        rw [List.getElem?_append_right (by omega)] at hi'
        obtain ⟨j, ej⟩ : ∃ j, i - p.length = j + 1 := ⟨i - p.length - 1, by omega⟩
        rw [ej, List.getElem?_cons_succ] at hi'
        exact h (List.mem_of_getElem? hi')
    subst hip
    unfold Txt.rpartition
    rw [e]
    have e1 : strSub (S (p ++ c :: q)) 0 p.length = S p := TL.ext_tl (by rw [TL.tl_strSub]; show ((p ++ c :: q).drop 0).take (p.length - 0) = p; simp)
    have e2 : strSub (S (p ++ c :: q)) (p.length + (S [c]).length) (S (p ++ c :: q)).length = S q := TL.ext_tl (by
      rw [TL.tl_strSub_end]
      show (p ++ c :: q).drop (p.length + (S [c]).length) = q
      rw [S_len]
      simp [List.drop_append])
    show (strSub (S (p ++ c :: q)) 0 p.length, S [c], strSub (S (p ++ c :: q)) (p.length + (S [c]).length) (S (p ++ c :: q)).length) = _
    rw [e1, e2]
theorem rpart_none {a : List Nat} {c : Nat} (h : c ∉ a) : Txt.rpartition (S a) (S [c]) = (S [], S [], S a) := by
  rcases StrLaws.last_spec (S a) (S [c]) with ⟨e, hn⟩ | ⟨i, e, hi, hn⟩
  · unfold Txt.rpartition
    rw [e]
    rfl
  · exact absurd (List.mem_of_getElem? ((at1 _ _ _).mp hi)) h
theorem find_some {p q : List Nat} {c : Nat} (h : c ∉ p) : Txt.find (S (p ++ c :: q)) (S [c]) = (p.length : Int) := by
  have hat : (p ++ c :: q)[p.length]? = some c := by simp
  rcases PyProof.Rows.find_whole (S (p ++ c :: q)) (S [c]) with ⟨_, hn⟩ | ⟨i, e, hi, hn⟩
  · exact absurd ((at1 _ _ _).mpr hat) (hn _)
  · have hi' := (at1 _ _ _).mp hi
    rcases Nat.lt_trichotomy i p.length with hlt | he | hgt
    · rw [List.getElem?_append_left hlt] at hi'
      exact absurd (List.mem_of_getElem? hi') h
    · rw [e, he]
    · exact absurd ((at1 _ _ _).mpr hat) (hn _ hgt)
theorem find_none {a : List Nat} {c : Nat} (h : c ∉ a) : Txt.find (S a) (S [c]) = -1 := by
  rcases PyProof.Rows.find_whole (S a) (S [c]) with ⟨e, hn⟩ | ⟨i, e, hi, hn⟩
  · exact e
  · exact absurd (List.mem_of_getElem? ((at1 _ _ _).mp hi)) h
theorem cut_to {a : List Nat} {i : Int} (h : 0 ≤ i) : cutS (S a) none (some i) = S (a.take i.toNat) := by rw [C8.cutS_slice, slice_to h]
theorem cut_from {a : List Nat} {i : Int} (h : 0 ≤ i) : cutS (S a) (some i) none = S (a.drop i.toNat) := by rw [C8.cutS_slice, slice_from h]

/-! ### numbers padded -/
def padL (w n : Nat) : List Nat := List.replicate (w - (TL.numL n).length) 48 ++ TL.numL n
theorem padZ_eq (w n : Nat) : padZ w (n : Int) = S (padL w n) := by
  unfold padZ padL
  have e : (Nat.toDigits 10 (n : Int).natAbs).length = (TL.numL n).length := by simp [TL.numL]
  rw [e, num_S, ← S_cat]
theorem zfill_eq (w n : Nat) : Txt.zfill (S (TL.numL n)) (w : Int) = S (padL w n) := by
  unfold Txt.zfill
  rw [S_len]
  by_cases h : (w : Int) ≤ ((TL.numL n).length : Int)
  · rw [if_pos h]
    unfold padL
    rw [show w - (TL.numL n).length = 0 by omega]
    rfl
  · rw [if_neg h]
    have hne := TL.numL_ne n
    have hd := TL.numL_digits n
    unfold zfilled
    have hp : padded (S (TL.numL n)) ((w : Int).toNat - (TL.numL n).length) 0 48 = S (padL w n) := by
      apply TL.ext_tl
      simp [padded, TL.tl, padL]
    have e0 : (S (TL.numL n)).cps[0]? = (TL.numL n)[0]? := by simp [S]
    split
    · rename_i hc
      rw [e0] at hc
      have := hd 43 (List.mem_of_getElem? hc)
      omega
    · rename_i hc
      rw [e0] at hc
      have := hd 45 (List.mem_of_getElem? hc)
      omega
    · exact hp
theorem str_num {i : Int} (h : 0 ≤ i) : (Str.ofString (toString i)) = S (TL.numL i.toNat) := by
  obtain ⟨n, rfl⟩ := Int.eq_ofNat_of_zero_le h
  exact num_S n
theorem padL_len {w n : Nat} (hw : 0 < w) (h : n < 10 ^ w) : (padL w n).length = w := by
  have := TL.numL_len hw h
  unfold padL
  rw [List.length_append, List.length_replicate]
  omega
theorem padL_digits {w n : Nat} : ∀ c ∈ padL w n, 48 ≤ c ∧ c ≤ 57 := fun c hc => by
  unfold padL at hc
  rcases List.mem_append.mp hc with hc | hc
  · rw [List.eq_of_mem_replicate hc]; decide
  · exact TL.numL_digits n c hc
theorem padL_inj {w m n : Nat} (h : padL w m = padL w n) : m = n := by
  have dv : ∀ k, NumText.digitsVal (padL w k) = k := fun k => by
    have e := TL.numL_val k
    unfold padL
    generalize w - (TL.numL k).length = z
    unfold NumText.digitsVal at e ⊢
    rw [List.foldl_append]
    have z0 : ∀ z : Nat, (List.replicate z 48).foldl (fun acc c => acc * 10 + (c - 48)) 0 = 0 := fun z => by
      induction z with
      | zero => rfl
      | succ z ih => rw [List.replicate_succ, List.foldl_cons]; exact ih
    rw [z0]
    exact e
  have := congrArg NumText.digitsVal h
  rwa [dv, dv] at this

/-! ### the sum of positions times codes -/
def psum : Nat → List Nat → Nat
  | _, [] => 0
  | k, c :: r => k * c + psum (k + 1) r
theorem psum_succ (k : Nat) (l : List Nat) : psum (k + 1) l = psum k l + l.sum := by
  induction l generalizing k with
  | nil => rfl
  | cons c r ih =>
    show (k + 1) * c + psum (k + 1 + 1) r = k * c + psum (k + 1) r + (c + r.sum)
    rw [ih (k + 1), Nat.add_mul]
    omega
theorem psum_append (k : Nat) (l m : List Nat) : psum k (l ++ m) = psum k l + psum (k + l.length) m := by
  induction l generalizing k with
  | nil => simp [psum]
  | cons c r ih =>
    show k * c + psum (k + 1) (r ++ m) = k * c + psum (k + 1) r + psum (k + (r.length + 1)) m
    rw [ih, show k + 1 + r.length = k + (r.length + 1) by omega]
    omega
def wsum (l : List Nat) : Nat := psum 1 l % 9973
theorem wsum_lt (l : List Nat) : wsum l < 9973 := Nat.mod_lt _ (by decide)
end TX

set_option maxRecDepth 100000
set_option maxHeartbeats 2000000
namespace DL
open PySem L2 SX TX

/-! ### places and pieces of lists -/
theorem atI_nat {α : Type} {xs : List α} {k : Nat} {x : α} (h : xs[k]? = some x) : atI xs (k : Int) = some x := by
  obtain ⟨hk, _⟩ := List.getElem?_eq_some_iff.mp h
  unfold atI ixN
  rw [if_pos (by omega), if_pos (by omega)]
  simpa using h
theorem atI_int {α : Type} {xs : List α} {i : Int} {k : Nat} {x : α} (e : i = (k : Int)) (h : xs[k]? = some x) : atI xs i = some x := by
  subst e
  exact atI_nat h
theorem atI_last {α : Type} (xs : List α) (x : α) : atI (xs ++ [x]) (-1) = some x := by
  unfold atI ixN
  rw [if_neg (by decide), if_pos (by rw [List.length_append, List.length_singleton]; omega)]
  have e : ((-1 : Int) + ((xs ++ [x]).length : Nat)).toNat = xs.length := by
    rw [List.length_append, List.length_singleton]
    omega
  rw [e]
  simp
theorem cutD_to {ds : List D} {i : Int} (h : 0 ≤ i) : cutD ds none (some i) = ds.take i.toNat := by
  obtain ⟨k, rfl⟩ := Int.eq_ofNat_of_zero_le h
  unfold cutD HT.sIx
  simp only [List.drop_zero, Nat.sub_zero]
  rw [if_neg (by omega), Int.toNat_natCast]
  by_cases hk : k ≤ ds.length
  · rw [Nat.min_eq_left hk]
  · rw [Nat.min_eq_right (by omega), List.take_length, List.take_of_length_le (by omega)]
theorem cutD_butlast (ds : List D) (d : D) : cutD (ds ++ [d]) none (some (-1)) = ds := by
  unfold cutD HT.sIx
  simp only [List.drop_zero, Nat.sub_zero]
  rw [if_pos (by decide)]
  have e : ((-1 : Int) + ((ds ++ [d]).length : Nat)).toNat = ds.length := by
    rw [List.length_append, List.length_singleton]
    omega
  rw [e]
  simp
theorem cutD_nil {lo hi : Option Int} : cutD [] lo hi = [] := by simp [cutD]
theorem snoc_of {α : Type} {l : List α} (h : l ≠ []) : ∃ i x, l = i ++ [x] := ⟨l.dropLast, l.getLast h, (List.dropLast_concat_getLast h).symm⟩
theorem strOk_S {l : List Nat} (h : ∀ c ∈ l, c < 1114112) : PyData.strOk (S l) = true := by
  unfold PyData.strOk
  rw [← Array.all_toList]
  exact List.all_eq_true.mpr fun c hc => decide_eq_true (h c hc)
theorem spl_ne (s : List Nat) : ∀ (k : Nat) (acc l : List Nat), TL.spl s k acc l ≠ []
  | k, acc, [] => by cases k <;> simp [TL.spl]
  | 0, acc, c :: r => by
    unfold TL.spl
    split
    · simp
    · exact spl_ne s 0 _ r
  | k + 1, acc, c :: r => by
    show TL.spl s k acc r ≠ []
    exact spl_ne s k acc r
/-- a cut at one sign -/
theorem spl1_free {c : Nat} {p : List Nat} (h : c ∉ p) : TL.spl [c] 0 [] p = [p] := by
  have := TL.spl_last1 (S := []) (acc := []) h
  simpa using this
theorem spl1_cut {c : Nat} {p q : List Nat} (h : c ∉ p) : TL.spl [c] 0 [] (p ++ c :: q) = p :: TL.spl [c] 0 [] q := by
  have := TL.spl_part1 (S := []) (acc := []) (rest := q) h
  simpa using this
/-- the first c -/
theorem first_of {c : Nat} : ∀ l : List Nat, c ∉ l ∨ ∃ p q, l = p ++ c :: q ∧ c ∉ p
  | [] => .inl (by simp)
  | d :: r => by
    by_cases e : d = c
    · exact .inr ⟨[], r, by rw [e]; rfl, by simp⟩
    · rcases first_of (c := c) r with h | ⟨p, q, rfl, h⟩
      · exact .inl (by simp [h]; exact fun z => e z.symm)
      · exact .inr ⟨d :: p, q, rfl, by simp [h]; exact fun z => e z.symm⟩
/-- the last c -/
theorem last_of {c : Nat} (l : List Nat) : c ∉ l ∨ ∃ p q, l = p ++ c :: q ∧ c ∉ q := by
  rcases first_of (c := c) l.reverse with h | ⟨p, q, e, h⟩
  · exact .inl (by simpa using h)
  · refine .inr ⟨q.reverse, p.reverse, ?_, by simpa using h⟩
    have := congrArg List.reverse e
    simpa using this
theorem spl1_append {c : Nat} : ∀ (n : Nat) (p q : List Nat), p.length ≤ n → c ∉ q → TL.spl [c] 0 [] (p ++ c :: q) = TL.spl [c] 0 [] p ++ [q]
  | n, p, q, hn, hq => by
    rcases first_of (c := c) p with h | ⟨a, b, rfl, h⟩
    · rw [spl1_cut h, spl1_free h, spl1_free hq]
      rfl
    · cases n with
      | zero => simp at hn
      | succ n =>
        have hl : b.length ≤ n := by
          simp at hn
          omega
        rw [List.append_assoc, List.cons_append, spl1_cut h, spl1_cut h, spl1_append n b q hl hq]
        rfl
theorem spl1_last {c : Nat} {p q : List Nat} (hq : c ∉ q) : TL.spl [c] 0 [] (p ++ c :: q) = TL.spl [c] 0 [] p ++ [q] := spl1_append _ p q (Nat.le_refl _) hq
/-- the parts joined give the whole -/
theorem join_spl1 {c : Nat} : ∀ (n : Nat) (l : List Nat), l.length ≤ n → TL.joinL [c] (TL.spl [c] 0 [] l) = l
  | n, l, hn => by
    rcases first_of (c := c) l with h | ⟨a, b, rfl, h⟩
    · rw [spl1_free h]
      rfl
    · cases n with
      | zero => simp at hn
      | succ n =>
        have hl : b.length ≤ n := by
          simp at hn
          omega
        rw [spl1_cut h]
        have e := join_spl1 (c := c) n b hl
        have hne := spl_ne [c] 0 [] b
        cases hs : TL.spl [c] 0 [] b with
        | nil => exact absurd hs hne
        | cons x xs =>
          rw [hs] at e
          show a ++ ([c] ++ TL.joinL [c] (x :: xs)) = _
          rw [e]
          rfl
theorem spl1_len {c : Nat} : ∀ (n : Nat) (l : List Nat), l.length ≤ n → (TL.spl [c] 0 [] l).length ≤ l.length + 1 ∧ ((TL.spl [c] 0 [] l).map List.length).sum ≤ l.length
  | n, l, hn => by
    rcases first_of (c := c) l with h | ⟨a, b, rfl, h⟩
    · rw [spl1_free h]
      simp
    · cases n with
      | zero => simp at hn
      | succ n =>
        have hl : b.length ≤ n := by
          simp at hn
          omega
        have ih := spl1_len (c := c) n b hl
        rw [spl1_cut h]
        simp only [List.length_cons, List.length_append, List.map_cons, List.sum_cons]
        omega
theorem spl1_part {c : Nat} : ∀ (n : Nat) (l : List Nat), l.length ≤ n → ∀ p ∈ TL.spl [c] 0 [] l, c ∉ p ∧ ∀ x ∈ p, x ∈ l
  | n, l, hn => by
    rcases first_of (c := c) l with h | ⟨a, b, rfl, h⟩
    · rw [spl1_free h]
      intro p hp
      rw [List.mem_singleton.mp hp]
      exact ⟨h, fun x hx => hx⟩
    · cases n with
      | zero => simp at hn
      | succ n =>
        have hl : b.length ≤ n := by
          simp at hn
          omega
        rw [spl1_cut h]
        intro p hp
        rcases List.mem_cons.mp hp with rfl | hp
        · exact ⟨h, fun x hx => List.mem_append_left _ hx⟩
        · obtain ⟨h1, h2⟩ := spl1_part n b hl p hp
          exact ⟨h1, fun x hx => List.mem_append_right _ (List.mem_cons_of_mem _ (h2 x hx))⟩
theorem Sub.nil (L : List Itm) : Sub [] L := ⟨L, by simp⟩
end DL

set_option maxRecDepth 100000
set_option maxHeartbeats 2000000
namespace DL
open PySem L2
/-! ### isinstance of the plain types -/
theorem w_nt {L : List Itm} {P : DK} (h : P (.bl false) L) : fIsi [D.non, .ty "tuple"] L P := v_isi (TyD.non) k_nt h
theorem w_nb {L : List Itm} {P : DK} (h : P (.bl false) L) : fIsi [D.non, .ty "bool"] L P := v_isi (TyD.non) k_nb h
theorem w_ni {L : List Itm} {P : DK} (h : P (.bl false) L) : fIsi [D.non, .ty "int"] L P := v_isi (TyD.non) k_ni h
theorem w_ns {L : List Itm} {P : DK} (h : P (.bl false) L) : fIsi [D.non, .ty "str"] L P := v_isi (TyD.non) k_ns h
theorem w_bt {L : List Itm} {P : DK} {b : Bool} (h : P (.bl false) L) : fIsi [(D.bl b), .ty "tuple"] L P := v_isi (TyD.bl b) k_bt h
theorem w_bb {L : List Itm} {P : DK} {b : Bool} (h : P (.bl true) L) : fIsi [(D.bl b), .ty "bool"] L P := v_isi (TyD.bl b) k_bb h
theorem w_bi {L : List Itm} {P : DK} {b : Bool} (h : P (.bl true) L) : fIsi [(D.bl b), .ty "int"] L P := v_isi (TyD.bl b) k_bi h
theorem w_bs {L : List Itm} {P : DK} {b : Bool} (h : P (.bl false) L) : fIsi [(D.bl b), .ty "str"] L P := v_isi (TyD.bl b) k_bs h
theorem w_it {L : List Itm} {P : DK} {i : Int} (h : P (.bl false) L) : fIsi [(D.int i), .ty "tuple"] L P := v_isi (TyD.int i) k_it h
theorem w_ib {L : List Itm} {P : DK} {i : Int} (h : P (.bl false) L) : fIsi [(D.int i), .ty "bool"] L P := v_isi (TyD.int i) k_ib h
theorem w_ii {L : List Itm} {P : DK} {i : Int} (h : P (.bl true) L) : fIsi [(D.int i), .ty "int"] L P := v_isi (TyD.int i) k_ii h
theorem w_is {L : List Itm} {P : DK} {i : Int} (h : P (.bl false) L) : fIsi [(D.int i), .ty "str"] L P := v_isi (TyD.int i) k_is h
theorem w_st {L : List Itm} {P : DK} {s : Str} (h : P (.bl false) L) : fIsi [(D.str s), .ty "tuple"] L P := v_isi (TyD.str s) k_st h
theorem w_sb {L : List Itm} {P : DK} {s : Str} (h : P (.bl false) L) : fIsi [(D.str s), .ty "bool"] L P := v_isi (TyD.str s) k_sb h
theorem w_si {L : List Itm} {P : DK} {s : Str} (h : P (.bl false) L) : fIsi [(D.str s), .ty "int"] L P := v_isi (TyD.str s) k_si h
theorem w_ss {L : List Itm} {P : DK} {s : Str} (h : P (.bl true) L) : fIsi [(D.str s), .ty "str"] L P := v_isi (TyD.str s) k_ss h
theorem w_tt {L : List Itm} {P : DK} {ds : List D} (h : P (.bl true) L) : fIsi [(D.tup ds), .ty "tuple"] L P := v_isi (TyD.tup ds) k_tt h
theorem w_tb {L : List Itm} {P : DK} {ds : List D} (h : P (.bl false) L) : fIsi [(D.tup ds), .ty "bool"] L P := v_isi (TyD.tup ds) k_tb h
theorem w_ti {L : List Itm} {P : DK} {ds : List D} (h : P (.bl false) L) : fIsi [(D.tup ds), .ty "int"] L P := v_isi (TyD.tup ds) k_ti h
theorem w_ts {L : List Itm} {P : DK} {ds : List D} (h : P (.bl false) L) : fIsi [(D.tup ds), .ty "str"] L P := v_isi (TyD.tup ds) k_ts h
theorem s_nf {A B : Prop} (h : A) : ((!false) = true → A) ∧ ((!false) = false → B) := ⟨fun _ => h, fun z => nomatch z⟩
theorem s_nt {A B : Prop} (h : B) : ((!true) = true → A) ∧ ((!true) = false → B) := ⟨fun z => (nomatch z), fun _ => h⟩
/-- a def that lets nothing out; what is held may be put in another order first -/
theorem fn_dS {P : Program} {w : World} {K : PySem.W.Frag} {mg : Str → Option Value} {base : Heap} {x qual : Str} {st : Stmt} {f : Addr} {fd : FuncData} {N ps : List Str} {k : Nat} {s : DSpec} (F : Fun K x qual st f fd) (S : FnScope N ps (defScope st)) (len : ∀ ds L P PX, s ds L P PX → ds.length = ps.length)
    (hbody : ∀ (cdv : Value) (A : Around) (outer : List Env) (s0 : Shared) (H : Hp) (E : XK), Room k (A.deeper (PyProof.Rows.envOfC qual (defScope st) s0.heap.objs.size f cdv)) →
      ∃ t : DTS, DPSs (cxOf CX0 P w K mg base N qual (defScope st) f cdv A outer s0 H E).nox H (defBody st) t ∧ ∀ ds L P PX, s ds L P PX → ∃ L2, Sub L2 L ∧ t { nx := fun _ L' => Dn P .non L', rt := Dn P } (startD N.length ds) L2) : FnOk P w K mg base CX0 (k + 1) f fd ps (upSp K s) := by
  refine F.ok S (upSp_len len) fun cdv A outer s0 H vs Q E hr h => ?_
  obtain ⟨t, ⟨ts, p, l⟩, q⟩ := hbody cdv A outer s0 H E hr
  obtain ⟨ds, L, P, PX, i, ow, sp, g, _⟩ := h
  obtain ⟨L2, sb, q⟩ := q ds L P PX sp
  exact ⟨ts, p, l.run _ H _ L2 _ _ (.refl H) (EnvD.start i) (ow.sub sb) q ⟨fun σ H' ρ L' t' en' ow' ⟨L2, sb, h'⟩ => g _ H' .non L2 t' (ow'.sub sb) rfl h', fun v H' d L' t' ow' im ⟨L2, sb, h'⟩ => g v H' d L2 t' (ow'.sub sb) im h', fun _ _ _ _ _ _ _ z => z.elim, fun _ _ _ _ _ _ _ z => z.elim⟩⟩
/-- plain data, tuples at most n deep -/
inductive Lv : Nat → D → Prop
  | non (n : Nat) : Lv n .non
  | bl (n : Nat) (b : Bool) : Lv n (.bl b)
  | int (n : Nat) (i : Int) : Lv n (.int i)
  | str (n : Nat) (s : Str) : Lv n (.str s)
  | tup {n : Nat} {ds : List D} (h : ∀ d ∈ ds, Lv n d) (hl : ds.length ≤ 1000000) : Lv (n + 1) (.tup ds)
theorem Lv.up {n : Nat} {d : D} (h : Lv n d) : Lv (n + 1) d := by
  induction h with
  | non n => exact .non _
  | bl n b => exact .bl _ b
  | int n i => exact .int _ i
  | str n s => exact .str _ s
  | tup h hl ih => exact .tup ih hl
/-- the same data twice -/
def spSame (n : Nat) : DSpec := fun ds L P _ => ∃ d, ds = [d, d] ∧ Lv n d ∧ P (.bl true) L
theorem all_true (n : Nat) : (List.replicate n true).all id = true := by simp
/-- the script, at the head -/
theorem sp_script {K : PySem.W.Frag} {H : Hp} {a : Addr} {ns : List Int} {s : DSpec} (hO : Only H) (hS : SqL K H a (ns.map V.int)) (hs : s [.ref a] [.s a (ns.map D.int)] (fun d _ => d = .bl true) noX) : upSp K s [.ref a] H (fun v _ => v = .bl true) (fun _ _ _ => False) := by
  refine ⟨[.ref a], [.s a (ns.map D.int)], _, _, ⟨_, _, rfl, rfl, rfl⟩, ⟨by show List.Nodup ([] : List Addr); exact List.nodup_nil, fun it hm => ?_⟩, hs, fun v H' d L' t ow im e => ?_, fun _ _ _ _ _ _ z => z.elim⟩
  · rw [List.mem_singleton.mp hm]
    refine ⟨ns.map V.int, ImmL.ints ns, ?_⟩
    rcases hS with (h | ⟨o, h⟩) | h
    · rcases hO a with z | ⟨o, xs, z⟩
      · rw [z] at h; cases h
      · rw [z] at h; cases h
    · exact .inl ⟨o, h⟩
    · exact .inr h
  · subst e
    exact im
end DL

set_option maxRecDepth 100000
set_option maxHeartbeats 2000000
local macro_rules | `(tactic| walk_at "sub") => `(tactic| first | exact DL.Sub.refl _ | (refine DL.Sub.pull (R := ?R) ?k ?_; (case k => walk_at "pull"); walk_at "sub") | (refine DL.Sub.drop ?_; walk_at "sub"))
local macro_rules | `(tactic| walk_at "mem") => `(tactic| first | exact List.mem_cons_self | assumption | exact DL.Pull.mem (by assumption) | (refine List.mem_cons_of_mem _ ?_; walk_at "mem"))
local macro_rules | `(tactic| walk_at "keep") => `(tactic| first | assumption | (refine DL.keepL.cons ?_ _; walk_at "keep") | (refine DL.imm_in ?_; walk_at "mem") | (refine DL.imm_is ?_; walk_at "mem"))
local macro_rules | `(tactic| walk_at "pull") => `(tactic| first | exact DL.Pull.here | assumption | (refine DL.Pull.there ?_; walk_at "pull"))
local macro_rules | `(tactic| walk_at "q") => `(tactic| with_reducible first
  | refine DL.s_asg ?_ | refine DL.s_g0 ?_ | refine DL.s_g1 ?_ | refine DL.s_g2 ?_ | refine DL.s_g3 ?_ | refine DL.s_g4 ?_ | refine DL.s_g5 ?_ | refine DL.s_g6 ?_ | refine DL.s_g7 ?_ | refine DL.s_g8 ?_ | refine DL.s_g9 ?_ | refine DL.s_g10 ?_ | refine DL.s_g11 ?_ | refine DL.s_g12 ?_ | refine DL.s_g13 ?_ | refine DL.s_g14 ?_ | refine DL.s_g15 ?_ | refine DL.s_g16 ?_ | refine DL.s_g17 ?_ | refine DL.s_g18 ?_ | refine DL.s_g19 ?_ | refine DL.s_g20 ?_ | refine DL.s_g21 ?_ | refine DL.s_g22 ?_ | refine DL.s_g23 ?_ | refine DL.s_g24 ?_ | refine DL.s_if ?_ | refine DL.s_ret ?_ | refine DL.s_retN ?_ | refine DL.s_next ?_ | refine DL.s_drop ?_ | refine DL.s_break ?_ | refine DL.s_cont ?_
  | refine DL.e_v0 ?_ | refine DL.e_v1 ?_ | refine DL.e_v2 ?_ | refine DL.e_v3 ?_ | refine DL.e_v4 ?_ | refine DL.e_v5 ?_ | refine DL.e_v6 ?_ | refine DL.e_v7 ?_ | refine DL.e_v8 ?_ | refine DL.e_v9 ?_ | refine DL.e_v10 ?_ | refine DL.e_v11 ?_ | refine DL.e_v12 ?_ | refine DL.e_v13 ?_ | refine DL.e_v14 ?_ | refine DL.e_v15 ?_ | refine DL.e_v16 ?_ | refine DL.e_v17 ?_ | refine DL.e_v18 ?_ | refine DL.e_v19 ?_ | refine DL.e_v20 ?_ | refine DL.e_v21 ?_ | refine DL.e_v22 ?_ | refine DL.e_v23 ?_ | refine DL.e_v24 ?_ | refine DL.e_c ?_ | refine DL.e_op ?_ | refine DL.e_un ?_ | refine DL.e_nil ?_ | refine DL.e_cons ?_ | refine DL.e_tup ?_ | refine DL.e_lst ?_ | refine DL.e_cb ?_ | refine DL.e_ml ?_ | refine DL.e_ms ?_ | refine DL.e_if ?_ | refine DL.e_call ?_ | refine DL.e_callX ?_ | refine DL.e_andV ?_ | refine DL.e_orV ?_ | refine DL.e_notV ?_ | refine DL.e_sl ?_ | refine DL.e_np ?_ | refine DL.e_pt ?_
  | refine DL.z_0 ?_ | refine DL.z_1 ?_ | refine DL.z_2 ?_ | refine DL.z_3 ?_ | refine DL.z_4 ?_ | refine DL.z_5 ?_ | refine DL.z_6 ?_ | refine DL.z_7 ?_ | refine DL.z_8 ?_ | refine DL.z_9 ?_ | refine DL.z_10 ?_ | refine DL.z_11 ?_
  | refine DL.t_b ?_ | refine DL.t_tru ?_ | refine DL.t_and ?_ | refine DL.t_or ?_ | refine DL.t_not ?_ | refine DL.t_yes ?_
  | refine DL.s_t ?_ | refine DL.s_f ?_ | refine DL.s_nf ?_ | refine DL.s_nt ?_
  | (refine DL.e_ml1 (ds := ?ds) ?k ?_; (case k => walk_at "keep")) | refine DL.e_ms1 ?_ | refine DL.v_bl ?_ | refine DL.v_int ?_ | refine DL.v_trB ?_ | refine DL.v_trI ?_ | refine DL.v_trN ?_ | refine DL.v_trT ?_ | (refine DL.v_trL (ds := ?ds) ?k ?_; (case k => walk_at "mem"))
  | refine DL.v_addI ?_ | refine DL.v_I0 ?_ | refine DL.v_neg ?_ | refine DL.v_eqI ?_ | refine DL.v_eqS ?_ | refine DL.v_eqB ?_ | refine DL.v_is ?_
  | refine DL.v_int1 ?_ | refine DL.v_abs ?_ | refine DL.v_max2 ?_ | refine DL.v_min2 ?_ | refine DL.v_lenT ?_ | (refine DL.v_lenL (ds := ?ds) ?k ?_; (case k => walk_at "keep")) | refine DL.v_tupT ?_ | (refine DL.v_tupL (ds := ?ds) ?k ?_; (case k => walk_at "keep")) | refine DL.v_slT ?_ | refine DL.v_inS ?_ | refine DL.v_s1 ?_
  | refine DL.s_for ?_ | refine DL.i_seq ?_ | refine DL.i_tup ?_ | refine DL.i_tup1 ?_ | refine DL.i_r1 ?_ | refine DL.i_r2 ?_ | (refine DL.i_seq1 (ds := ?ds) ?k ?_; (case k => walk_at "keep"))
  | refine DL.w_nt ?_ | refine DL.w_nb ?_ | refine DL.w_ni ?_ | refine DL.w_ns ?_ | refine DL.w_bt ?_ | refine DL.w_bb ?_ | refine DL.w_bi ?_ | refine DL.w_bs ?_ | refine DL.w_it ?_ | refine DL.w_ib ?_ | refine DL.w_ii ?_ | refine DL.w_is ?_ | refine DL.w_st ?_ | refine DL.w_sb ?_ | refine DL.w_si ?_ | refine DL.w_ss ?_ | refine DL.w_tt ?_ | refine DL.w_tb ?_ | refine DL.w_ti ?_ | refine DL.w_ts ?_
  | refine DL.i_str ?_ | refine DL.v_str ?_ | refine DL.i_en ?_ | refine DL.g_nil ?_ | refine DL.g_cons ?_ | refine DL.g_tup rfl ?_ | refine DL.e_js ?_ | refine DL.e_js0 ?_ | refine DL.e_js1 ?_ | refine DL.e_lrg ?_ | refine DL.e_lc ?_)
local macro_rules | `(tactic| walk_at "s") => `(tactic| first | (with_reducible refine DL.s_seq ?_) | walk_at "q")
local macro_rules | `(tactic| walk_at "ss") => `(tactic| repeat' walk_at "s")
local macro_rules | `(tactic| walk_at "tt") => `(tactic| repeat' walk_at "q")
local macro_rules | `(tactic| walk_at "wipe") => `(tactic| simp only [DL.wipeD, List.map_cons, List.map_nil, List.set_cons_zero, List.set_cons_succ])
local macro_rules | `(tactic| walk_at "set") => `(tactic| simp only [List.set_cons_zero, List.set_cons_succ])
namespace K58
open PySem L2 DL
def top (i : Nat) : Stmt := PySem.Challenge.pw_heldbest_k58_cut_records.main.body.getD i (.Pass ⟨0, 0, 0, 0⟩)
abbrev st_OutOfRange____init__ : Stmt := inClass (top 2) 0
theorem sc_OutOfRange____init__ : FnScope ["self", "what", "value"] ["self", "what", "value"] (defScope st_OutOfRange____init__) := ⟨rfl, rfl, rfl, by decide +kernel, rfl, by decide +kernel, by decide +kernel⟩
abbrev st_BadWord____init__ : Stmt := inClass (top 3) 0
theorem sc_BadWord____init__ : FnScope ["self", "word"] ["self", "word"] (defScope st_BadWord____init__) := ⟨rfl, rfl, rfl, by decide +kernel, rfl, by decide +kernel, by decide +kernel⟩
abbrev st_within : Stmt := top 6
theorem sc_within : FnScope ["what", "value", "least", "most"] ["what", "value", "least", "most"] (defScope st_within) := ⟨rfl, rfl, rfl, by decide +kernel, rfl, by decide +kernel, by decide +kernel⟩
abbrev st_text_look : Stmt := top 8
theorem sc_text_look : FnScope ["text"] ["text"] (defScope st_text_look) := ⟨rfl, rfl, rfl, by decide +kernel, rfl, by decide +kernel, by decide +kernel⟩
abbrev st_sum_of : Stmt := top 11
theorem sc_sum_of : FnScope ["text", "position", "character"] ["text"] (defScope st_sum_of) := ⟨rfl, rfl, rfl, by decide +kernel, rfl, by decide +kernel, by decide +kernel⟩
abbrev st_is_word : Stmt := top 15
theorem sc_is_word : FnScope ["word", "character"] ["word"] (defScope st_is_word) := ⟨rfl, rfl, rfl, by decide +kernel, rfl, by decide +kernel, by decide +kernel⟩
abbrev st_write_record : Stmt := top 16
theorem sc_write_record : FnScope ["words", "word"] ["words"] (defScope st_write_record) := ⟨rfl, rfl, rfl, by decide +kernel, rfl, by decide +kernel, by decide +kernel⟩
abbrev st_read_records : Stmt := top 17
theorem sc_read_records : FnScope ["text"] ["text"] (defScope st_read_records) := ⟨rfl, rfl, rfl, by decide +kernel, rfl, by decide +kernel, by decide +kernel⟩
abbrev st_records_in : Stmt := top 18
theorem sc_records_in : FnScope ["text", "lines", "records", "line", "words"] ["text"] (defScope st_records_in) := ⟨rfl, rfl, rfl, by decide +kernel, rfl, by decide +kernel, by decide +kernel⟩
abbrev st__line_of : Stmt := top 19
theorem sc__line_of : FnScope ["body"] ["body"] (defScope st__line_of) := ⟨rfl, rfl, rfl, by decide +kernel, rfl, by decide +kernel, by decide +kernel⟩
abbrev st__words_in : Stmt := top 20
theorem sc__words_in : FnScope ["line", "body", "_", "words", "word"] ["line"] (defScope st__words_in) := ⟨rfl, rfl, rfl, by decide +kernel, rfl, by decide +kernel, by decide +kernel⟩
abbrev st__law_draw : Stmt := top 22
theorem sc__law_draw : FnScope ["_law_pool", "_law_many", "_law_cell"] ["_law_pool", "_law_many"] (defScope st__law_draw) := ⟨rfl, rfl, rfl, by decide +kernel, rfl, by decide +kernel, by decide +kernel⟩
abbrev st__law_same : Stmt := top 23
theorem sc__law_same : FnScope ["_law_told", "_law_due", "_law_k"] ["_law_told", "_law_due"] (defScope st__law_same) := ⟨rfl, rfl, rfl, by decide +kernel, rfl, by decide +kernel, by decide +kernel⟩
abbrev st__law_sum : Stmt := top 24
theorem sc__law_sum : FnScope ["_law_text", "_law_tail", "_law_due", "_law_k"] ["_law_text"] (defScope st__law_sum) := ⟨rfl, rfl, rfl, by decide +kernel, rfl, by decide +kernel, by decide +kernel⟩
abbrev st__law_line : Stmt := top 25
theorem sc__law_line : FnScope ["_law_words_here", "_law_body"] ["_law_words_here"] (defScope st__law_line) := ⟨rfl, rfl, rfl, by decide +kernel, rfl, by decide +kernel, by decide +kernel⟩
abbrev st__law_word : Stmt := top 26
theorem sc__law_word : FnScope ["_law_word_here", "_law_sign"] ["_law_word_here"] (defScope st__law_word) := ⟨rfl, rfl, rfl, by decide +kernel, rfl, by decide +kernel, by decide +kernel⟩
abbrev st__law_read : Stmt := top 27
theorem sc__law_read : FnScope ["_law_text", "_law_records", "_law_rest", "_law_k", "_law_at", "_law_words_here", "_law_good", "_law_word_here"] ["_law_text"] (defScope st__law_read) := ⟨rfl, rfl, rfl, by decide +kernel, rfl, by decide +kernel, by decide +kernel⟩
abbrev st__law_words : Stmt := top 28
theorem sc__law_words : FnScope ["_law_pool", "_law_size", "_law_menu", "_law_words_here", "_law_k", "_law_word_here", "_law_j", "_law_spin"] ["_law_pool", "_law_size"] (defScope st__law_words) := ⟨rfl, rfl, rfl, by decide +kernel, rfl, by decide +kernel, by decide +kernel⟩
abbrev st__law_cut : Stmt := top 29
theorem sc__law_cut : FnScope ["_law_records", "_law_ends", "_law_text", "_law_keep", "_law_count", "_law_rows", "_law_due", "_law_words_here", "_law_end"] ["_law_records", "_law_ends", "_law_text", "_law_keep"] (defScope st__law_cut) := ⟨rfl, rfl, rfl, by decide +kernel, rfl, by decide +kernel, by decide +kernel⟩
abbrev st_law : Stmt := top 30
theorem sc_law : FnScope ["_law_script", "_law_pool", "_law_mode", "_law_spot", "_law_twin", "_law_records", "_law_k", "_law_words_here", "_law_first", "_law_large", "_law_lines", "_law_text", "_law_ends", "_law_line_here", "_law_keep", "_law_places", "_law_behind", "_law_place", "_law_longer", "_law_cell", "_law_end"] ["_law_script"] (defScope st_law) := ⟨rfl, rfl, rfl, by decide +kernel, rfl, by decide +kernel, by decide +kernel⟩
structure Tx (K : PySem.W.Frag) (mg : Str → Option Value) where
  n_len : mg "len" = none
  n_int : mg "int" = none
  n_range : mg "range" = none
  n_ord : mg "ord" = none
  n_str : mg "str" = none
  n_list : mg "list" = none
  n_tuple : mg "tuple" = none
  n_isinstance : mg "isinstance" = none
  n_bool : mg "bool" = none
  n_sum : mg "sum" = none
  n_all : mg "all" = none
  n_enumerate : mg "enumerate" = none
  n_max : mg "max" = none
  n_min : mg "min" = none
  n_abs : mg "abs" = none
  t_MOST_TEXT : Tok
  g_MOST_TEXT : mg "MOST_TEXT" = some (.int 20000 t_MOST_TEXT)
  t_DIVISOR : Tok
  g_DIVISOR : mg "DIVISOR" = some (.int 9973 t_DIVISOR)
  t_CHARACTERS : Tok
  g_CHARACTERS : mg "CHARACTERS" = some (.str "abcdefghijklmnopqrstuvwxyz0123456789-" t_CHARACTERS)
  t_MOST_WORDS : Tok
  g_MOST_WORDS : mg "MOST_WORDS" = some (.int 100 t_MOST_WORDS)
  a_within : Addr
  d_within : FuncData
  F_within : Fun K "within" "within" st_within a_within d_within
  g_within : mg "within" = some (.ref a_within)
  a_text_look : Addr
  d_text_look : FuncData
  F_text_look : Fun K "text_look" "text_look" st_text_look a_text_look d_text_look
  g_text_look : mg "text_look" = some (.ref a_text_look)
  a_sum_of : Addr
  d_sum_of : FuncData
  F_sum_of : Fun K "sum_of" "sum_of" st_sum_of a_sum_of d_sum_of
  g_sum_of : mg "sum_of" = some (.ref a_sum_of)
  a_is_word : Addr
  d_is_word : FuncData
  F_is_word : Fun K "is_word" "is_word" st_is_word a_is_word d_is_word
  g_is_word : mg "is_word" = some (.ref a_is_word)
  a_write_record : Addr
  d_write_record : FuncData
  F_write_record : Fun K "write_record" "write_record" st_write_record a_write_record d_write_record
  g_write_record : mg "write_record" = some (.ref a_write_record)
  a_read_records : Addr
  d_read_records : FuncData
  F_read_records : Fun K "read_records" "read_records" st_read_records a_read_records d_read_records
  g_read_records : mg "read_records" = some (.ref a_read_records)
  a_records_in : Addr
  d_records_in : FuncData
  F_records_in : Fun K "records_in" "records_in" st_records_in a_records_in d_records_in
  g_records_in : mg "records_in" = some (.ref a_records_in)
  a__line_of : Addr
  d__line_of : FuncData
  F__line_of : Fun K "_line_of" "_line_of" st__line_of a__line_of d__line_of
  g__line_of : mg "_line_of" = some (.ref a__line_of)
  a__words_in : Addr
  d__words_in : FuncData
  F__words_in : Fun K "_words_in" "_words_in" st__words_in a__words_in d__words_in
  g__words_in : mg "_words_in" = some (.ref a__words_in)
  a__law_draw : Addr
  d__law_draw : FuncData
  F__law_draw : Fun K "_law_draw" "_law_draw" st__law_draw a__law_draw d__law_draw
  g__law_draw : mg "_law_draw" = some (.ref a__law_draw)
  a__law_same : Addr
  d__law_same : FuncData
  F__law_same : Fun K "_law_same" "_law_same" st__law_same a__law_same d__law_same
  g__law_same : mg "_law_same" = some (.ref a__law_same)
  a__law_sum : Addr
  d__law_sum : FuncData
  F__law_sum : Fun K "_law_sum" "_law_sum" st__law_sum a__law_sum d__law_sum
  g__law_sum : mg "_law_sum" = some (.ref a__law_sum)
  a__law_line : Addr
  d__law_line : FuncData
  F__law_line : Fun K "_law_line" "_law_line" st__law_line a__law_line d__law_line
  g__law_line : mg "_law_line" = some (.ref a__law_line)
  a__law_word : Addr
  d__law_word : FuncData
  F__law_word : Fun K "_law_word" "_law_word" st__law_word a__law_word d__law_word
  g__law_word : mg "_law_word" = some (.ref a__law_word)
  a__law_read : Addr
  d__law_read : FuncData
  F__law_read : Fun K "_law_read" "_law_read" st__law_read a__law_read d__law_read
  g__law_read : mg "_law_read" = some (.ref a__law_read)
  a__law_words : Addr
  d__law_words : FuncData
  F__law_words : Fun K "_law_words" "_law_words" st__law_words a__law_words d__law_words
  g__law_words : mg "_law_words" = some (.ref a__law_words)
  a__law_cut : Addr
  d__law_cut : FuncData
  F__law_cut : Fun K "_law_cut" "_law_cut" st__law_cut a__law_cut d__law_cut
  g__law_cut : mg "_law_cut" = some (.ref a__law_cut)
  a_law : Addr
  d_law : FuncData
  F_law : Fun K "law" "law" st_law a_law d_law
  g_law : mg "law" = some (.ref a_law)
theorem bi_within {K : PySem.W.Frag} {mg : Str → Option Value} (T : Tx K mg) : Binds K T.d_within ["what", "value", "least", "most"] [] := T.F_within.binds fun _ _ _ _ _ _ us hl => match us, hl with | [_, _, _, _], _ => rfl
theorem bi_text_look {K : PySem.W.Frag} {mg : Str → Option Value} (T : Tx K mg) : Binds K T.d_text_look ["text"] [] := T.F_text_look.binds fun _ _ _ _ _ _ us hl => match us, hl with | [_], _ => rfl
theorem bi_sum_of {K : PySem.W.Frag} {mg : Str → Option Value} (T : Tx K mg) : Binds K T.d_sum_of ["text"] [] := T.F_sum_of.binds fun _ _ _ _ _ _ us hl => match us, hl with | [_], _ => rfl
theorem bi_is_word {K : PySem.W.Frag} {mg : Str → Option Value} (T : Tx K mg) : Binds K T.d_is_word ["word"] [] := T.F_is_word.binds fun _ _ _ _ _ _ us hl => match us, hl with | [_], _ => rfl
theorem bi_write_record {K : PySem.W.Frag} {mg : Str → Option Value} (T : Tx K mg) : Binds K T.d_write_record ["words"] [] := T.F_write_record.binds fun _ _ _ _ _ _ us hl => match us, hl with | [_], _ => rfl
theorem bi_read_records {K : PySem.W.Frag} {mg : Str → Option Value} (T : Tx K mg) : Binds K T.d_read_records ["text"] [] := T.F_read_records.binds fun _ _ _ _ _ _ us hl => match us, hl with | [_], _ => rfl
theorem bi_records_in {K : PySem.W.Frag} {mg : Str → Option Value} (T : Tx K mg) : Binds K T.d_records_in ["text"] [] := T.F_records_in.binds fun _ _ _ _ _ _ us hl => match us, hl with | [_], _ => rfl
theorem bi__line_of {K : PySem.W.Frag} {mg : Str → Option Value} (T : Tx K mg) : Binds K T.d__line_of ["body"] [] := T.F__line_of.binds fun _ _ _ _ _ _ us hl => match us, hl with | [_], _ => rfl
theorem bi__words_in {K : PySem.W.Frag} {mg : Str → Option Value} (T : Tx K mg) : Binds K T.d__words_in ["line"] [] := T.F__words_in.binds fun _ _ _ _ _ _ us hl => match us, hl with | [_], _ => rfl
theorem bi__law_draw {K : PySem.W.Frag} {mg : Str → Option Value} (T : Tx K mg) : Binds K T.d__law_draw ["_law_pool", "_law_many"] [] := T.F__law_draw.binds fun _ _ _ _ _ _ us hl => match us, hl with | [_, _], _ => rfl
theorem bi__law_same {K : PySem.W.Frag} {mg : Str → Option Value} (T : Tx K mg) : Binds K T.d__law_same ["_law_told", "_law_due"] [] := T.F__law_same.binds fun _ _ _ _ _ _ us hl => match us, hl with | [_, _], _ => rfl
theorem bi__law_sum {K : PySem.W.Frag} {mg : Str → Option Value} (T : Tx K mg) : Binds K T.d__law_sum ["_law_text"] [] := T.F__law_sum.binds fun _ _ _ _ _ _ us hl => match us, hl with | [_], _ => rfl
theorem bi__law_line {K : PySem.W.Frag} {mg : Str → Option Value} (T : Tx K mg) : Binds K T.d__law_line ["_law_words_here"] [] := T.F__law_line.binds fun _ _ _ _ _ _ us hl => match us, hl with | [_], _ => rfl
theorem bi__law_word {K : PySem.W.Frag} {mg : Str → Option Value} (T : Tx K mg) : Binds K T.d__law_word ["_law_word_here"] [] := T.F__law_word.binds fun _ _ _ _ _ _ us hl => match us, hl with | [_], _ => rfl
theorem bi__law_read {K : PySem.W.Frag} {mg : Str → Option Value} (T : Tx K mg) : Binds K T.d__law_read ["_law_text"] [] := T.F__law_read.binds fun _ _ _ _ _ _ us hl => match us, hl with | [_], _ => rfl
theorem bi__law_words {K : PySem.W.Frag} {mg : Str → Option Value} (T : Tx K mg) : Binds K T.d__law_words ["_law_pool", "_law_size"] [] := T.F__law_words.binds fun _ _ _ _ _ _ us hl => match us, hl with | [_, _], _ => rfl
theorem bi__law_cut {K : PySem.W.Frag} {mg : Str → Option Value} (T : Tx K mg) : Binds K T.d__law_cut ["_law_records", "_law_ends", "_law_text", "_law_keep"] [] := T.F__law_cut.binds fun _ _ _ _ _ _ us hl => match us, hl with | [_, _, _, _], _ => rfl
theorem bi_law {K : PySem.W.Frag} {mg : Str → Option Value} (T : Tx K mg) : Binds K T.d_law ["_law_script"] [] := T.F_law.binds fun _ _ _ _ _ _ us hl => match us, hl with | [_], _ => rfl
/-- a draw: some number below many; the pool's numbers stay at least 0 -/
def sp__law_draw : DSpec := fun ds L P _ => ∃ (p : Addr) (ns : List Int) (m : Int) (R : List Itm), ds = [.ref p, .int m] ∧ Pull L (.l p (ns.map D.int)) R ∧ (∀ n ∈ ns, 0 ≤ n) ∧ ns.length ≤ 63 ∧ 0 < m ∧ m < 1073741824 ∧
  ∀ (k : Int) (ns' : List Int), 0 ≤ k → k < m → (∀ n ∈ ns', 0 ≤ n) → ns'.length ≤ ns.length → P (.int k) (.l p (ns'.map D.int) :: R)
theorem ov_div {i m : Int} (h0 : 0 < m) (h1 : m < 1073741824) : CDiv i m := ⟨h0, h1⟩
theorem ok__law_draw {P : Program} {w : World} {K : PySem.W.Frag} {mg : Str → Option Value} {base : Heap} (T : Tx K mg) : FnOk P w K mg base CX0 1 T.a__law_draw T.d__law_draw ["_law_pool", "_law_many"] (upSp K sp__law_draw) := by
  refine fn_d T.F__law_draw sc__law_draw ?_ fun cdv A outer s0 H E hr => ⟨_, (dss_cons (ds_if (dt_eq hr.units (d_var 0) (d_lst da_nil)) (dss_one (ds_ret d_int)) dss_nil)
    (dss_cons (ds_set 2 sc__law_draw.nd (d_ml PySem.F.slot_list_pop PySem.F.type_list_pop mt_popAt rm_popAt (d_var 0) (da_cons d_int da_nil)))
    (dss_cons (ds_if (dt_gt (d_fdiv (d_var 2) (d_var 1)) d_int) (dss_one (ds_expr (d_ml PySem.F.slot_list_insert PySem.F.type_list_insert mt_insert rm_insert (d_var 0) (da_cons d_int (da_cons (d_fdiv (d_var 2) (d_var 1)) da_nil))))) dss_nil)
    (dss_one (ds_ret (d_mod (d_intC T.n_int (da_cons (d_var 2) da_nil)) (d_var 1))))))), ?_⟩
  · rintro ds L P PX ⟨p, ns, m, R, rfl, _⟩
    rfl
  · rintro ds L P PX ⟨p, ns, m, R, rfl, pl, h0, hl, hm, hm2, k⟩
    refine st_is (ρ := [some _, some _, none]) rfl ?_
    walk_at "ss"
    intro q
    refine v_eqNil (ds := ns.map D.int) (pl.keep.cons _) (.inl (.head _)) (ok_ints ns) ?_
    refine v_bl (s_b (fun e => ?_) fun e => ?_)
    · walk_at "ss"
      exact ⟨_, .drop (.pull pl (.refl _)), k 0 ns (by decide) hm h0 (Nat.le_refl _)⟩
    · cases ns with
      | nil => cases e
      | cons n ns =>
        have hn := h0 n (.head _)
        have h0' : ∀ x ∈ ns, 0 ≤ x := fun x hx => h0 x (.tail _ hx)
        have hl' : ns.length ≤ 62 := by simpa using hl
        walk_at "ss"
        refine v_pop0 (.there pl) ?_
        walk_at "ss"
        refine v_I ⟨hm, hm2⟩ ?_
        walk_at "ss"
        refine s_d (fun h => ?_) fun h => ?_
        · walk_at "ss"
          refine v_I ⟨hm, hm2⟩ ?_
          walk_at "ss"
          refine v_insert0 .here (by rw [List.length_map, sizeLine_eq]; omega) ?_
          walk_at "ss"
          refine v_I hm ?_
          refine ⟨_, ?_, k _ ((n / m) :: ns) (Int.emod_nonneg _ (by omega)) (Int.emod_lt_of_pos _ hm) (fun x hx => ?_) (by simp)⟩
          · walk_at "sub"
          · rcases List.mem_cons.mp hx with rfl | hx
            · omega
            · exact h0' x hx
        · walk_at "ss"
          refine v_I hm ?_
          refine ⟨_, ?_, k _ ns (Int.emod_nonneg _ (by omega)) (Int.emod_lt_of_pos _ hm) h0' (by simp)⟩
          walk_at "sub"
end K58

set_option maxRecDepth 100000
set_option maxHeartbeats 2000000
namespace K58
open PySem L2 DL SX TX

/-! ### what is computed -/
abbrev txts (ws : List (List Nat)) : List D := ws.map fun w => D.str (S w)
def chars : List Nat := [97, 98, 99, 100, 101, 102, 103, 104, 105, 106, 107, 108, 109, 110, 111, 112, 113, 114, 115, 116, 117, 118, 119, 120, 121, 122, 48, 49, 50, 51, 52, 53, 54, 55, 56, 57, 45]
theorem chars_eq : ("abcdefghijklmnopqrstuvwxyz0123456789-" : Str) = S chars := by decide +kernel
theorem nl_eq : ("\n" : Str) = S [10] := by decide +kernel
theorem sp_eq : (" " : Str) = S [32] := by decide +kernel
theorem em_eq : ("" : Str) = S [] := by decide +kernel
def isW (w : List Nat) : Bool := w.all (fun c => decide (c ∈ chars)) && !w.isEmpty
def bodyL (b : List Nat) : List Nat := b ++ 32 :: padL 4 (wsum b)
def okT (l : List Nat) : Prop := (∀ c ∈ l, c < 1114112) ∧ l.length ≤ 20500
theorem bodyL_len (b : List Nat) : (bodyL b).length = b.length + 5 := by
  have := padL_len (w := 4) (n := wsum b) (by decide) (Nat.lt_trans (wsum_lt b) (by decide))
  unfold bodyL
  rw [List.length_append, List.length_cons, this]

/-! ### sum_of -/
def sp_sum_of : DSpec := fun ds L P _ => ∃ l : List Nat, ds = [.str (S l)] ∧ okT l ∧ P (.int (wsum l : Nat)) L
/-- position times code -/
def prods (k : Nat) : List Nat → List Int
  | [] => []
  | c :: r => ((k * c : Nat) : Int) :: prods (k + 1) r
theorem prods_sum (k : Nat) (l : List Nat) : (prods k l).sum = (psum k l : Nat) := by
  induction l generalizing k with
  | nil => rfl
  | cons c r ih =>
    show ((k * c : Nat) : Int) + (prods (k + 1) r).sum = ((k * c + psum (k + 1) r : Nat) : Int)
    rw [ih]
    omega
theorem prods_append (k : Nat) (l m : List Nat) : prods k (l ++ m) = prods k l ++ prods (k + l.length) m := by
  induction l generalizing k with
  | nil => rfl
  | cons c r ih =>
    show _ :: prods (k + 1) (r ++ m) = _ :: (prods (k + 1) r ++ prods (k + (r.length + 1)) m)
    rw [ih, show k + 1 + r.length = k + (r.length + 1) by omega]
theorem take_snoc {α : Type} {l : List α} {i : Nat} {c : α} (h : l[i]? = some c) : l.take (i + 1) = l.take i ++ [c] := by
  obtain ⟨hi, rfl⟩ := List.getElem?_eq_some_iff.mp h
  rw [List.take_succ_eq_append_getElem hi]
theorem prods_len (k : Nat) (l : List Nat) : (prods k l).length = l.length := by
  induction l generalizing k with
  | nil => rfl
  | cons c r ih => show (prods (k + 1) r).length + 1 = _; rw [ih]; rfl
theorem ok_sum_of {P : Program} {w : World} {K : PySem.W.Frag} {mg : Str → Option Value} {base : Heap} (T : Tx K mg) : FnOk P w K mg base CX0 1 T.a_sum_of T.d_sum_of ["text"] (upSp K sp_sum_of) := by
  refine fn_d T.F_sum_of sc_sum_of ?_ fun cdv A outer s0 H E hr => ⟨_, (dss_one (ds_ret (d_mod (d_sum T.n_sum (da_cons (d_lc [("position", 1), ("character", 2)] rfl sc_sum_of.nd (di_enS T.n_enumerate (d_var 0)) (blkOk_by (by rfl)) (fun _ _ _ _ _ => dgw_tup rfl (dgsw_cons (dgw_name 1 sc_sum_of.nd (by decide)) (dgsw_cons (dgw_name 2 sc_sum_of.nd (by decide)) dgsw_nil))) (fun _ _ _ _ _ => dts_nil) (fun _ _ _ _ _ => (d_mul (d_var 1) (d_ord T.n_ord (da_cons (d_var 2) da_nil)))) (g := gTup K 2 (gCons (gName 1) (gCons (gName 2) gNil))) (gd := gTupD 2 (gConsD (gN 1) (gConsD (gN 2) gNilD)))) da_nil)) (d_globI T.g_DIVISOR)))), ?_⟩
  · rintro ds L P PX ⟨l, rfl, _⟩
    rfl
  · rintro ds L P PX ⟨l, rfl, ⟨ho, hz⟩, k⟩
    refine st_is (ρ := [some _, none, none]) rfl ?_
    walk_at "ss"
    intro r
    refine ⟨fun i L' => L' = .l r ((prods 1 (l.take i)).map D.int) :: L, rfl, fun _ _ _ _ => trivial, ?_, ?_⟩
    · rintro i d L' hd rfl
      have hi : i < l.length := by
        have := (List.getElem?_eq_some_iff.mp hd).1
        rw [enD_length] at this
        simpa using this
      have hg : l[i]? = some l[i] := by simp [hi]
      have e : d = .tup [.int (1 + (i : Int)), .str ⟨#[l[i]]⟩] := by
        simp [enD, hi] at hd
        exact hd.symm
      subst e
      walk_at "ss"
      walk_at "wipe"
      walk_at "ss"
      refine v_ord ?_ ?_
      · rfl
      walk_at "ss"
      refine v_mulI ?_ ?_
      · refine .inl ⟨by omega, by omega⟩
      · refine v_pull .here ⟨?_, _, .refl _, ?_⟩
        · rw [List.length_map, prods_len, List.length_take, sizeLine_eq]
          omega
        · show _ :: _ = _ :: _
          rw [take_snoc hg, prods_append, List.map_append]
          congr 3
          show [D.int _] = [D.int (((1 + (l.take i).length) * l[i] : Nat) : Int)]
          rw [List.length_take, Nat.min_eq_left (by omega)]
          simp
    · rintro L' rfl
      walk_at "ss"
      refine v_sum (ns := prods 1 (l.take (enD 1 (S l)).length)) (imm_in List.mem_cons_self) ?_
      walk_at "ss"
      refine v_I (by decide) ?_
      have e : (prods 1 (l.take (enD 1 (S l)).length)).sum % 9973 = ((wsum l : Nat) : Int) := by
        rw [enD_length, prods_sum]
        have : l.take (S l).cps.size = l := List.take_of_length_le (by simp)
        rw [this]
        rfl
      rw [e]
      exact ⟨L, .drop (.refl _), k⟩
end K58

set_option maxRecDepth 100000
set_option maxHeartbeats 2000000
namespace K58
open PySem L2 DL SX TX

/-! ### within, text_look, _line_of, is_word -/
def sp_within : DSpec := fun ds L P _ => ∃ (w : Str) (v a b : Int), ds = [.str w, .int v, .int a, .int b] ∧ a ≤ v ∧ v ≤ b ∧ P .non L
theorem ok_within {P : Program} {w : World} {K : PySem.W.Frag} {mg : Str → Option Value} {base : Heap} (T : Tx K mg) : FnOk P w K mg base CX0 1 T.a_within T.d_within ["what", "value", "least", "most"] (upSp K sp_within) := by
  refine fn_d T.F_within sc_within ?_ fun cdv A outer s0 H E hr => ⟨_, (dss_one (ds_if (dt_w (dw_or (dt_lt (d_var 1) (d_var 2)) (dw_or1 (dt_gt (d_var 1) (d_var 3))))) (dss_one ds_never) dss_nil)), ?_⟩
  · rintro ds L P PX ⟨w, v, a, b, rfl, _⟩
    rfl
  · rintro ds L P PX ⟨w, v, a, b, rfl, h1, h2, k⟩
    refine st_is (ρ := [some _, some _, some _, some _]) rfl ?_
    walk_at "ss"
    refine s_d (fun h => absurd h (by omega)) fun _ => ?_
    walk_at "ss"
    refine s_d (fun h => absurd h (by omega)) fun _ => ?_
    walk_at "ss"
    exact ⟨L, .refl _, k⟩
def sp_text_look : DSpec := fun ds L P _ => ∃ l : List Nat, ds = [.str (S l)] ∧ l.length ≤ 20000 ∧ P .non L
theorem ok_text_look {P : Program} {w : World} {K : PySem.W.Frag} {mg : Str → Option Value} {base : Heap} (T : Tx K mg) : FnOk P w K mg base CX0 2 T.a_text_look T.d_text_look ["text"] (upSp K sp_text_look) := by
  refine fn_d T.F_text_look sc_text_look ?_ fun cdv A outer s0 H E hr => ⟨_, (dss_one (ds_expr (d_call (ok_within T) (hr.mono (by decide)) T.g_within T.F_within.kp (bi_within T) (da_cons d_str (da_cons (d_len T.n_len (da_cons (d_var 0) da_nil)) (da_cons d_int (da_cons (d_globI T.g_MOST_TEXT) da_nil))))))), ?_⟩
  · rintro ds L P PX ⟨l, rfl, _⟩
    rfl
  · rintro ds L P PX ⟨l, rfl, h, k⟩
    refine st_is (ρ := [some _]) rfl ?_
    walk_at "ss"
    refine v_lenS (by rw [S_len, sizeLine_eq]; omega) ?_
    walk_at "ss"
    refine ⟨_, _, _, _, rfl, by rw [S_len]; omega, by rw [S_len]; omega, ?_⟩
    walk_at "ss"
    exact ⟨L, .refl _, k⟩
def sp__line_of : DSpec := fun ds L P _ => ∃ b : List Nat, ds = [.str (S b)] ∧ okT b ∧ P (.str (S (bodyL b))) L
theorem log2_small {n : Nat} (h : n < 9973) : (n : Int).natAbs.log2 < 1920 := by
  rw [Int.natAbs_natCast]
  by_cases h0 : n = 0
  · subst h0; decide
  · exact Nat.lt_trans ((Nat.log2_lt h0).mpr (Nat.lt_of_lt_of_le h (by decide : 9973 ≤ 2 ^ 14))) (by decide : 14 < 1920)
theorem ok__line_of {P : Program} {w : World} {K : PySem.W.Frag} {mg : Str → Option Value} {base : Heap} (T : Tx K mg) : FnOk P w K mg base CX0 2 T.a__line_of T.d__line_of ["body"] (upSp K sp__line_of) := by
  refine fn_d T.F__line_of sc__line_of ?_ fun cdv A outer s0 H E hr => ⟨_, (dss_one (ds_ret (d_join (dj_cons (d_fmt (d_var 0)) (dj_cons d_str (dj_cons (d_fmtZ (n := 4) (d_call (ok_sum_of T) (hr.mono (by decide)) T.g_sum_of T.F_sum_of.kp (bi_sum_of T) (da_cons (d_var 0) da_nil))) dj_nil)))))), ?_⟩
  · rintro ds L P PX ⟨l, rfl, _⟩
    rfl
  · rintro ds L P PX ⟨b, rfl, h, k⟩
    have hz := sizeLine_eq
    have hb := h.2
    have hl := bodyL_len b
    refine st_is (ρ := [some _]) rfl ?_
    walk_at "ss"
    refine v_fmtS (by rw [S_len]; omega) ?_
    walk_at "ss"
    rw [show (Str.empty ++ S b : Str) = S b from S_cat [] b]
    refine ⟨by rw [S_len]; omega, ?_⟩
    walk_at "ss"
    rw [sp_eq, S_cat]
    refine ⟨by rw [S_len]; simp; omega, ?_⟩
    walk_at "ss"
    refine ⟨b, rfl, h, ?_⟩
    show fmtZ 4 _ _ _
    refine ⟨by omega, log2_small (wsum_lt b), by rw [padZ_eq, S_len, padL_len (by decide) (Nat.lt_trans (wsum_lt b) (by decide))]; omega, ?_⟩
    walk_at "ss"
    rw [padZ_eq, S_cat]
    have e : b ++ [32] ++ padL 4 (wsum b) = bodyL b := by simp [bodyL]
    rw [e]
    refine ⟨by rw [S_len]; omega, ?_⟩
    walk_at "ss"
    exact ⟨L, .refl _, k⟩
def sp_is_word : DSpec := fun ds L P _ => ∃ w : List Nat, ds = [.str (S w)] ∧ P (.bl (isW w)) L
theorem isW_eq (w : List Nat) (h : ∀ c ∈ w, c ∈ chars) : isW w = !decide (S w = S []) := by
  have : w.all (fun c => decide (c ∈ chars)) = true := by simpa using h
  unfold isW
  rw [this]
  cases w with
  | nil => simp
  | cons c r => simp
theorem isW_no {w : List Nat} {c : Nat} (hc : c ∈ w) (h : c ∉ chars) : isW w = false := by
  unfold isW
  rw [Bool.and_eq_false_iff]
  left
  rw [List.all_eq_false]
  exact ⟨c, hc, by simpa using h⟩
theorem chD_get {l : List Nat} {i : Nat} {d : D} (h : (chD (S l))[i]? = some d) : ∃ c, l[i]? = some c ∧ d = .str (S [c]) := by
  unfold chD at h
  rw [List.getElem?_map] at h
  cases e : (S l).cps.toList[i]? with
  | none => rw [e] at h; cases h
  | some c => rw [e] at h; cases h; exact ⟨c, by first | exact e | rfl, rfl⟩
theorem in_take {l : List Nat} {i c : Nat} {p : Nat → Prop} (h : ∀ x ∈ l.take i, p x) (e : l[i]? = some c) (hc : p c) : ∀ x ∈ l.take (i + 1), p x := fun x hx => by
  rw [take_snoc e] at hx
  rcases List.mem_append.mp hx with hx | hx
  · exact h x hx
  · rw [List.mem_singleton.mp hx]; exact hc
theorem ok_is_word {P : Program} {w : World} {K : PySem.W.Frag} {mg : Str → Option Value} {base : Heap} (T : Tx K mg) : FnOk P w K mg base CX0 1 T.a_is_word T.d_is_word ["word"] (upSp K sp_is_word) := by
  refine fn_d T.F_is_word sc_is_word ?_ fun cdv A outer s0 H E hr => ⟨_, (dss_cons (ds_for PassesOwn.never rfl (di_str (d_var 0)) (dg_name 1 sc_is_word.nd) (dss_one (ds_if (dt_notin (by rfl) (d_var 1) (d_globS T.g_CHARACTERS)) (dss_one (ds_ret d_bl)) dss_nil)))
    (dss_one (ds_ret (d_ne hr.units (d_var 0) d_str)))), ?_⟩
  · rintro ds L P PX ⟨l, rfl, _⟩
    rfl
  · rintro ds L P PX ⟨w, rfl, k⟩
    refine st_is (ρ := [some _, none]) rfl ?_
    walk_at "ss"
    refine ⟨fun i ρ' L' => (∃ o, ρ' = [some (.str (S w)), o]) ∧ L' = L ∧ ∀ c ∈ w.take i, c ∈ chars, ⟨⟨_, rfl⟩, rfl, by simp⟩, fun _ _ _ _ _ => trivial, ?_, ?_⟩
    · rintro i d ρ' L' hd ⟨⟨o, rfl⟩, rfl, hw⟩
      obtain ⟨c, hc, rfl⟩ := chD_get hd
      walk_at "ss"
      rw [chars_eq, in_one]
      refine s_nd (fun h => ?_) fun h => ?_
      · walk_at "ss"
        rw [isW_no (List.mem_of_getElem? hc) h] at k
        exact ⟨_, .refl _, k⟩
      · walk_at "ss"
        exact ⟨_, .refl _, ⟨_, rfl⟩, rfl, in_take hw hc h⟩
    · rintro ρ' L' ⟨⟨o, rfl⟩, rfl, hw⟩
      walk_at "ss"
      rw [em_eq]
      have hw' : ∀ c ∈ w, c ∈ chars := by
        have e : w.take (chD (S w)).length = w := List.take_of_length_le (by rw [chD_length]; simp)
        rw [e] at hw
        exact hw
      rw [isW_eq w hw'] at k
      exact ⟨_, .refl _, k⟩
end K58

set_option maxRecDepth 100000
set_option maxHeartbeats 2000000
namespace K58
open PySem L2 DL SX TX

/-! ### _words_in -/
def beforeSp (l : List Nat) : List Nat := ((l.reverse.dropWhile (fun c => c != 32)).drop 1).reverse
theorem beforeSp_some {p q : List Nat} (h : 32 ∉ q) : beforeSp (p ++ 32 :: q) = p := by
  unfold beforeSp
  have e : (p ++ 32 :: q).reverse = q.reverse ++ 32 :: p.reverse := by simp
  have d : ∀ r : List Nat, 32 ∉ r → (r ++ 32 :: p.reverse).dropWhile (fun c => c != 32) = 32 :: p.reverse := fun r => by
    induction r with
    | nil => intro _; rfl
    | cons c r ih =>
      intro hr
      have h1 : (c != 32) = true := by simp; exact fun z => hr (by rw [z]; exact List.mem_cons_self)
      rw [List.cons_append, List.dropWhile_cons_of_pos (p := fun c => c != 32) h1]
      exact ih fun z => hr (List.mem_cons_of_mem _ z)
  rw [e, d _ (by simpa using h)]
  simp
theorem beforeSp_none {l : List Nat} (h : 32 ∉ l) : beforeSp l = [] := by
  unfold beforeSp
  have d : ∀ r : List Nat, 32 ∉ r → r.dropWhile (fun c => c != 32) = [] := fun r => by
    induction r with
    | nil => intro _; rfl
    | cons c r ih =>
      intro hr
      have h1 : (c != 32) = true := by simp; exact fun z => hr (by rw [z]; exact List.mem_cons_self)
      rw [List.dropWhile_cons_of_pos (p := fun c => c != 32) h1]
      exact ih fun z => hr (List.mem_cons_of_mem _ z)
  rw [d _ (by simpa using h)]
  rfl
theorem rpart_before (l : List Nat) : (Txt.rpartition (S l) (S [32])).1 = S (beforeSp l) := by
  rcases last_of (c := 32) l with h | ⟨p, q, rfl, h⟩
  · rw [rpart_none h, beforeSp_none h]
  · rw [rpart_some h, beforeSp_some h]
theorem beforeSp_len (l : List Nat) : (beforeSp l).length ≤ l.length ∧ ∀ c ∈ beforeSp l, c ∈ l := by
  rcases last_of (c := 32) l with h | ⟨p, q, rfl, h⟩
  · rw [beforeSp_none h]
    simp
  · rw [beforeSp_some h]
    exact ⟨by simp, fun c hc => List.mem_append_left _ hc⟩
abbrev cutSp (b : List Nat) : List (List Nat) := TL.spl [32] 0 [] b
def parseL (l : List Nat) : Option (List (List Nat)) := if l = bodyL (beforeSp l) ∧ (cutSp (beforeSp l)).all isW = true then some (cutSp (beforeSp l)) else none
def recD (ws : List (List Nat)) : D := .tup (txts ws)
def parseD : Option (List (List Nat)) → D
  | none => .non
  | some ws => recD ws
theorem split_txts (b : List Nat) : (Txt.split (S b) (S [32])).map D.str = txts (cutSp b) := by
  rw [split_S (by simp) (by decide), List.map_map]
  rfl
theorem S_ne (a b : List Nat) : decide (S a = S b) = decide (a = b) := by
  by_cases h : a = b
  · rw [h, decide_eq_true rfl, decide_eq_true rfl]
  · rw [decide_eq_false h, decide_eq_false fun e => h (S_inj e)]
def sp__words_in : DSpec := fun ds L P _ => ∃ l : List Nat, ds = [.str (S l)] ∧ (∀ c ∈ l, c < 1114112) ∧ l.length ≤ 20400 ∧ P (parseD (parseL l)) L
theorem txts_get {ws : List (List Nat)} {i : Nat} {d : D} (h : (txts ws)[i]? = some d) : ∃ w, ws[i]? = some w ∧ d = .str (S w) := by
  unfold txts at h
  rw [List.getElem?_map] at h
  cases e : ws[i]? with
  | none => rw [e] at h; cases h
  | some c => rw [e] at h; cases h; exact ⟨c, rfl, rfl⟩
theorem take_all {p : List Nat → Bool} {ws : List (List Nat)} {i : Nat} {w : List Nat} (h : (ws.take i).all p = true) (e : ws[i]? = some w) (hw : p w = true) : (ws.take (i + 1)).all p = true := by
  obtain ⟨hi, rfl⟩ := List.getElem?_eq_some_iff.mp e
  rw [List.take_succ_eq_append_getElem hi, List.all_append, h]
  simp [hw]
theorem ok__words_in {P : Program} {w : World} {K : PySem.W.Frag} {mg : Str → Option Value} {base : Heap} (T : Tx K mg) : FnOk P w K mg base CX0 3 T.a__words_in T.d__words_in ["line"] (upSp K sp__words_in) := by
  refine fn_d T.F__words_in sc__words_in ?_ fun cdv A outer s0 H E hr => ⟨_, (dss_cons (ds_asg (d_ms PySem.F.slot_str_rpartition PySem.F.type_str_rpartition mt_rpartition rm_rpart (d_var 0) (da_cons d_str da_nil)) (dg_tup rfl (dgs_cons (dg_name 1 sc__words_in.nd) (dgs_cons (dg_name 2 sc__words_in.nd) (dgs_cons (dg_name 2 sc__words_in.nd) dgs_nil)))))
    (dss_cons (ds_if (dt_ne hr.units (d_var 0) (d_call (ok__line_of T) (hr.mono (by decide)) T.g__line_of T.F__line_of.kp (bi__line_of T) (da_cons (d_var 1) da_nil))) (dss_one (ds_ret d_non)) dss_nil)
    (dss_cons (ds_set 3 sc__words_in.nd (d_tupleC T.n_tuple (da_cons (d_ms PySem.F.slot_str_split PySem.F.type_str_split mt_split rm_split (d_var 1) (da_cons d_str da_nil)) da_nil)))
    (dss_cons (ds_for PassesOwn.never rfl (di_tup (d_var 3)) (dg_name 4 sc__words_in.nd) (dss_one (ds_if (dt_not (dt_truth (d_call (ok_is_word T) (hr.mono (by decide)) T.g_is_word T.F_is_word.kp (bi_is_word T) (da_cons (d_var 4) da_nil)))) (dss_one (ds_ret d_non)) dss_nil)))
    (dss_one (ds_ret (d_var 3))))))), ?_⟩
  · rintro ds L P PX ⟨l, rfl, _⟩
    rfl
  · rintro ds L P PX ⟨l, rfl, ho, hl, k⟩
    have hz := sizeLine_eq
    have hb := beforeSp_len l
    refine st_is (ρ := [some _, none, none, none, none]) rfl ?_
    walk_at "ss"
    rw [sp_eq]
    refine v_rpart rfl (by rw [S_len]; omega) ?_
    rw [rpart_before]
    walk_at "ss"
    refine ⟨beforeSp l, rfl, ⟨fun c hc => ho c (hb.2 c hc), by omega⟩, ?_⟩
    walk_at "ss"
    rw [S_ne]
    refine s_nd (fun h => ?_) fun h => ?_
    · walk_at "ss"
      have e : parseL l = none := by
        unfold parseL
        rw [if_neg fun z => h z.1]
      rw [e] at k
      exact ⟨_, .refl _, k⟩
    · walk_at "ss"
      refine v_split rfl (by rw [S_len]; omega) ?_
      rw [split_txts]
      intro q
      walk_at "ss"
      refine ⟨fun i ρ' L' => (∃ o, ρ' = [some (.str (S l)), some (.str (S (beforeSp l))), some (.str (Txt.rpartition (S l) (S [32])).2.2), some (recD (cutSp (beforeSp l))), o]) ∧ L' = .l q (txts (cutSp (beforeSp l))) :: L ∧ ((cutSp (beforeSp l)).take i).all isW = true, ⟨⟨_, rfl⟩, rfl, by simp⟩, fun _ _ _ _ _ => trivial, ?_, ?_⟩
      · rintro i d ρ' L' hd ⟨⟨o, rfl⟩, rfl, hw⟩
        obtain ⟨w, hc, rfl⟩ := txts_get hd
        walk_at "ss"
        refine ⟨w, rfl, ?_⟩
        walk_at "ss"
        refine s_nb (fun h => ?_) fun h => ?_
        · walk_at "ss"
          have e : parseL l = none := by
            unfold parseL
            rw [if_neg fun z => ?_]
            have := List.all_eq_true.mp z.2 w (List.mem_of_getElem? hc)
            rw [h] at this
            cases this
          rw [e] at k
          exact ⟨_, .drop (.refl _), k⟩
        · walk_at "ss"
          exact ⟨_, .refl _, ⟨_, rfl⟩, rfl, take_all hw hc h⟩
      · rintro ρ' L' ⟨⟨o, rfl⟩, rfl, hw⟩
        walk_at "ss"
        have e : parseL l = some (cutSp (beforeSp l)) := by
          unfold parseL
          rw [if_pos]
          refine ⟨h, ?_⟩
          rw [List.length_map, List.take_length] at hw
          exact hw
        rw [e] at k
        exact ⟨_, .drop (.refl _), k⟩
end K58

set_option maxRecDepth 100000
set_option maxHeartbeats 2000000
namespace K58
open PySem L2 DL SX TX

/-! ### records_in, read_records -/
def readI : List (List Nat) → List Nat → List (List (List Nat)) × Bool
  | [], last => ([], !last.isEmpty)
  | l :: r, last => match parseL l with
    | none => ([], true)
    | some ws => (ws :: (readI r last).1, (readI r last).2)
theorem readI_none {l : List Nat} {r : List (List Nat)} {last : List Nat} (h : parseL l = none) : readI (l :: r) last = ([], true) := by
  unfold readI
  rw [h]
theorem readI_some {l : List Nat} {r : List (List Nat)} {last : List Nat} {ws : List (List Nat)} (h : parseL l = some ws) : readI (l :: r) last = (ws :: (readI r last).1, (readI r last).2) := by
  rw [readI, h]
/-- what is read of a text: its records, and whether signs stand behind the last of them -/
def readT (t : List Nat) : List (List (List Nat)) × Bool := readI (TL.spl [10] 0 [] t).dropLast ((TL.spl [10] 0 [] t).getLastD [])
abbrev resD (q : List (List (List Nat)) × Bool) : D := .tup [.tup (q.1.map recD), .bl q.2]
theorem split_nl (b : List Nat) : (Txt.split (S b) (S [10])).map D.str = txts (TL.spl [10] 0 [] b) := by
  rw [split_S (by simp) (by decide), List.map_map]
  rfl
def sp_records_in : DSpec := fun ds L P _ => ∃ t : List Nat, ds = [.str (S t)] ∧ (∀ c ∈ t, c < 1114112) ∧ t.length ≤ 20400 ∧ P (resD (readT t)) L
theorem ok_records_in {P : Program} {w : World} {K : PySem.W.Frag} {mg : Str → Option Value} {base : Heap} (T : Tx K mg) : FnOk P w K mg base CX0 4 T.a_records_in T.d_records_in ["text"] (upSp K sp_records_in) := by
  refine fn_d T.F_records_in sc_records_in ?_ fun cdv A outer s0 H E hr => ⟨_, (dss_cons (ds_set 1 sc_records_in.nd (d_ms PySem.F.slot_str_split PySem.F.type_str_split mt_split rm_split (d_var 0) (da_cons d_str da_nil)))
    (dss_cons (ds_set 2 sc_records_in.nd (d_lst da_nil))
    (dss_cons (ds_for PassesOwn.never rfl (di_list (d_slice (d_var 1) do_none (do_some (d_neg d_int)))) (dg_name 3 sc_records_in.nd) (dss_cons (ds_set 4 sc_records_in.nd (d_call (ok__words_in T) (hr.mono (by decide)) T.g__words_in T.F__words_in.kp (bi__words_in T) (da_cons (d_var 3) da_nil)))
    (dss_cons (ds_if (dt_is (d_var 4) d_non) (dss_one (ds_ret (d_tup (da_cons (d_tupleC T.n_tuple (da_cons (d_var 2) da_nil)) (da_cons d_bl da_nil))))) dss_nil)
    (dss_one (ds_expr (d_ml PySem.F.slot_list_append PySem.F.type_list_append mt_append rm_append (d_var 2) (da_cons (d_var 4) da_nil)))))))
    (dss_one (ds_ret (d_tup (da_cons (d_tupleC T.n_tuple (da_cons (d_var 2) da_nil)) (da_cons (d_ne hr.units (d_ix (d_var 1) (d_neg d_int)) d_str) da_nil)))))))), ?_⟩
  · rintro ds L P PX ⟨l, rfl, _⟩
    rfl
  · rintro ds L P PX ⟨t, rfl, ho, hl, k⟩
    have hz := sizeLine_eq
    obtain ⟨ini, last, e⟩ := snoc_of (spl_ne [10] 0 [] t)
    have hparts := spl1_part (c := 10) _ t (Nat.le_refl _)
    have hlen := spl1_len (c := 10) _ t (Nat.le_refl _)
    have er : readT t = readI ini last := by
      unfold readT
      rw [e]
      simp
    have hline : ∀ l ∈ ini, (∀ c ∈ l, c < 1114112) ∧ l.length ≤ 20400 := fun l hm => by
      have hm' : l ∈ TL.spl [10] 0 [] t := by rw [e]; exact List.mem_append_left _ hm
      refine ⟨fun c hc => ho c ((hparts l hm').2 c hc), ?_⟩
      have h1 : l.length ≤ ((TL.spl [10] 0 [] t).map List.length).sum := by
        have : ∀ (xs : List (List Nat)), l ∈ xs → l.length ≤ (xs.map List.length).sum := fun xs => by
          induction xs with
          | nil => intro h; cases h
          | cons x xs ih =>
            intro h
            rw [List.map_cons, List.sum_cons]
            rcases List.mem_cons.mp h with rfl | h
            · omega
            · have := ih h; omega
        exact this _ hm'
      omega
    have hini : ini.length ≤ 20400 := by
      have h2 := hlen.1
      rw [e, List.length_append, List.length_singleton] at h2
      omega
    refine st_is (ρ := [some _, none, none, none, none]) rfl ?_
    walk_at "ss"
    rw [nl_eq]
    refine v_split rfl (by rw [S_len]; omega) ?_
    rw [split_nl, e]
    intro pl
    walk_at "ss"
    intro pr
    walk_at "ss"
    refine v_slL (ds := txts (ini ++ [last])) (.inl (by simp)) ?_
    have ec : cutD (txts (ini ++ [last])) none (some (-1)) = txts ini := by
      unfold txts
      rw [List.map_append]
      exact cutD_butlast _ _
    rw [ec]
    intro q
    walk_at "ss"
    refine ⟨fun i ρ' L' => (∃ o1 o2, ρ' = [some (.str (S t)), some (.ref pl), some (.ref pr), o1, o2]) ∧ ∃ acc, acc.length = i ∧ L' = .l q (txts ini) :: .l pr (acc.map recD) :: .l pl (txts (ini ++ [last])) :: L ∧
      readI ini last = (acc ++ (readI (ini.drop i) last).1, (readI (ini.drop i) last).2), ⟨⟨_, _, rfl⟩, [], rfl, rfl, by simp⟩, ?_, ?_, ?_⟩
    · rintro i ρ' L' hi ⟨_, acc, _, rfl, _⟩
      exact imm_in List.mem_cons_self
    · rintro i d ρ' L' hd ⟨⟨o1, o2, rfl⟩, acc, ha, rfl, hr⟩
      obtain ⟨l, hc, rfl⟩ := txts_get hd
      have hm := List.mem_of_getElem? hc
      obtain ⟨hi, hx⟩ := List.getElem?_eq_some_iff.mp hc
      have hdrop : ini.drop i = l :: ini.drop (i + 1) := by rw [List.drop_eq_getElem_cons hi, hx]
      walk_at "ss"
      refine ⟨l, rfl, (hline l hm).1, (hline l hm).2, ?_⟩
      walk_at "ss"
      cases hp : parseL l with
      | none =>
        refine s_is rfl ?_
        walk_at "ss"
        rw [er, hr, hdrop, readI_none hp, List.append_nil] at k
        exact ⟨_, by walk_at "sub", k⟩
      | some ws =>
        refine s_isn rfl ?_
        walk_at "ss"
        refine v_append (.there .here) (by rw [List.length_map]; omega) ?_
        refine ⟨_, ?_, ⟨_, _, rfl⟩, acc ++ [ws], by simp [ha], rfl, ?_⟩
        · rw [List.map_append]
          exact .pull (.there .here) (.pull .here (.refl _))
        · rw [hr, hdrop, readI_some hp]
          simp
    · rintro ρ' L' ⟨⟨o1, o2, rfl⟩, acc, ha, rfl, hr⟩
      rw [List.length_map] at ha hr
      rw [List.drop_length] at hr
      walk_at "ss"
      refine v_ixL (ds := txts (ini ++ [last])) (x := .str (S last)) (.inl (by simp)) ?_ ?_
      · unfold txts
        rw [List.map_append]
        exact DL.atI_last _ _
      walk_at "ss"
      rw [em_eq, S_ne]
      have e2 : (!decide (last = [])) = !last.isEmpty := by cases last <;> simp
      rw [e2]
      rw [er, hr] at k
      have e3 : acc ++ (readI [] last).1 = acc := by simp [readI]
      rw [e3] at k
      exact ⟨_, by walk_at "sub", k⟩
def sp_read_records : DSpec := fun ds L P _ => ∃ t : List Nat, ds = [.str (S t)] ∧ (∀ c ∈ t, c < 1114112) ∧ t.length ≤ 20000 ∧ P (resD (readT t)) L
theorem ok_read_records {P : Program} {w : World} {K : PySem.W.Frag} {mg : Str → Option Value} {base : Heap} (T : Tx K mg) : FnOk P w K mg base CX0 5 T.a_read_records T.d_read_records ["text"] (upSp K sp_read_records) := by
  refine fn_d T.F_read_records sc_read_records ?_ fun cdv A outer s0 H E hr => ⟨_, (dss_cons (ds_expr (d_call (ok_text_look T) (hr.mono (by decide)) T.g_text_look T.F_text_look.kp (bi_text_look T) (da_cons (d_var 0) da_nil)))
    (dss_one (ds_ret (d_call (ok_records_in T) (hr.mono (by decide)) T.g_records_in T.F_records_in.kp (bi_records_in T) (da_cons (d_var 0) da_nil))))), ?_⟩
  · rintro ds L P PX ⟨l, rfl, _⟩
    rfl
  · rintro ds L P PX ⟨t, rfl, ho, hl, k⟩
    refine st_is (ρ := [some _]) rfl ?_
    walk_at "ss"
    refine ⟨t, rfl, hl, ?_⟩
    walk_at "ss"
    exact ⟨t, rfl, ho, by omega, _, .refl _, k⟩
end K58

set_option maxRecDepth 100000
set_option maxHeartbeats 2000000
namespace K58
open PySem L2 DL SX TX

/-! ### write_record -/
def lineL (ws : List (List Nat)) : List Nat := bodyL (TL.joinL [32] ws)
def isWs (ws : List (List Nat)) : Prop := ws.all isW = true
/-- what the signs of the joined words come to -/
def costW (ws : List (List Nat)) : Nat := (ws.map List.length).sum + ws.length
theorem isW_code {w : List Nat} (h : isW w = true) : ∀ c ∈ w, 45 ≤ c ∧ c ≤ 122 := fun c hc => by
  unfold isW at h
  rw [Bool.and_eq_true] at h
  have h1 := List.all_eq_true.mp h.1 c hc
  have h2 : c ∈ chars := of_decide_eq_true h1
  have : ∀ c ∈ chars, 45 ≤ c ∧ c ≤ 122 := by decide
  exact this c h2
theorem join_mem {s : List Nat} : ∀ (ws : List (List Nat)) (c : Nat), c ∈ TL.joinL s ws → c ∈ s ∨ ∃ w ∈ ws, c ∈ w
  | [], c, h => by cases h
  | [p], c, h => .inr ⟨p, List.mem_cons_self, h⟩
  | p :: q :: r, c, h => by
    have h' : c ∈ p ++ (s ++ TL.joinL s (q :: r)) := h
    rcases List.mem_append.mp h' with h | h
    · exact .inr ⟨p, List.mem_cons_self, h⟩
    · rcases List.mem_append.mp h with h | h
      · exact .inl h
      · rcases join_mem (q :: r) c h with h | ⟨w, hw, h⟩
        · exact .inl h
        · exact .inr ⟨w, List.mem_cons_of_mem _ hw, h⟩
theorem join_len : ∀ ws : List (List Nat), (TL.joinL [32] ws).length ≤ costW ws
  | [] => by simp [TL.joinL, costW]
  | [p] => by simp [TL.joinL, costW]
  | p :: q :: r => by
    have ih := join_len (q :: r)
    show (p ++ ([32] ++ TL.joinL [32] (q :: r))).length ≤ _
    unfold costW at *
    simp only [List.length_append, List.length_cons, List.length_nil, List.map_cons, List.sum_cons] at *
    omega
theorem join_ok {ws : List (List Nat)} (h : ∀ w ∈ ws, ∀ c ∈ w, c < 1114112) (hc : costW ws ≤ 20400) : okT (TL.joinL [32] ws) := by
  refine ⟨fun c hc => ?_, by have := join_len ws; omega⟩
  rcases join_mem ws c hc with h1 | ⟨w, hw, h1⟩
  · rw [List.mem_singleton.mp h1]; decide
  · exact h w hw c h1
theorem isWs_code {ws : List (List Nat)} (h : isWs ws) : ∀ w ∈ ws, ∀ c ∈ w, c < 1114112 := fun w hw c hc => by
  have := isW_code (List.all_eq_true.mp h w hw) c hc
  omega
theorem map_lens (ws : List (List Nat)) : ((ws.map S).map (·.length)).sum = (ws.map List.length).sum := by rw [SX.lens]
theorem txts_eq (ws : List (List Nat)) : txts ws = (ws.map S).map D.str := by rw [List.map_map]; rfl
theorem v_joinS {L : List Itm} {p : Addr} {ws : List (List Nat)} {P : DK} (k : keepL p (txts ws) L) (hz : costW ws ≤ 20400) (h : P (.str (S (TL.joinL [32] ws))) L) : fJoin (.str (S [32])) [.ref p] L P := by
  rw [txts_eq] at k
  refine v_join k ?_ (by rw [join_S]; exact h)
  rw [map_lens, S_len, List.length_map]
  unfold costW at hz
  simp only [List.length_singleton]
  omega
def sp_write_record : DSpec := fun ds L P _ => ∃ (p : Addr) (ws : List (List Nat)), ds = [.ref p] ∧ keepL p (txts ws) L ∧ 1 ≤ ws.length ∧ ws.length ≤ 100 ∧ isWs ws ∧ costW ws ≤ 20400 ∧ P (.str (S (lineL ws ++ [10]))) L
theorem ok_write_record {P : Program} {w : World} {K : PySem.W.Frag} {mg : Str → Option Value} {base : Heap} (T : Tx K mg) : FnOk P w K mg base CX0 3 T.a_write_record T.d_write_record ["words"] (upSp K sp_write_record) := by
  refine fn_d T.F_write_record sc_write_record ?_ fun cdv A outer s0 H E hr => ⟨_, (dss_cons (ds_expr (d_call (ok_within T) (hr.mono (by decide)) T.g_within T.F_within.kp (bi_within T) (da_cons d_str (da_cons (d_len T.n_len (da_cons (d_var 0) da_nil)) (da_cons d_int (da_cons (d_globI T.g_MOST_WORDS) da_nil))))))
    (dss_cons (ds_for PassesOwn.never rfl (di_list (d_var 0)) (dg_name 1 sc_write_record.nd) (dss_one (ds_if (dt_not (dt_truth (d_call (ok_is_word T) (hr.mono (by decide)) T.g_is_word T.F_is_word.kp (bi_is_word T) (da_cons (d_var 1) da_nil)))) (dss_one ds_never) dss_nil)))
    (dss_one (ds_ret (d_add (d_call (ok__line_of T) (hr.mono (by decide)) T.g__line_of T.F__line_of.kp (bi__line_of T) (da_cons (d_ms PySem.F.slot_str_join PySem.F.type_str_join mt_join rm_join d_str (da_cons (d_var 0) da_nil)) da_nil)) d_str))))), ?_⟩
  · rintro ds L P PX ⟨p, ws, rfl, _⟩
    rfl
  · rintro ds L P PX ⟨p, ws, rfl, kp, h1, h2, hw, hc, k⟩
    have hz := sizeLine_eq
    refine st_is (ρ := [some _, none]) rfl ?_
    walk_at "ss"
    refine ⟨_, _, _, _, rfl, by rw [List.length_map]; omega, by rw [List.length_map]; omega, ?_⟩
    walk_at "ss"
    refine ⟨fun i ρ' L' => (∃ o, ρ' = [some (.ref p), o]) ∧ L' = L, ⟨⟨_, rfl⟩, rfl⟩, ?_, ?_, ?_⟩
    · rintro i ρ' L' _ ⟨_, rfl⟩
      exact kp
    · rintro i d ρ' L' hd ⟨⟨o, rfl⟩, rfl⟩
      obtain ⟨w, hc, rfl⟩ := txts_get hd
      walk_at "ss"
      refine ⟨w, rfl, ?_⟩
      walk_at "ss"
      refine s_nb (fun h => ?_) fun h => ?_
      · have := List.all_eq_true.mp hw w (List.mem_of_getElem? hc)
        rw [h] at this
        cases this
      · walk_at "ss"
        exact ⟨_, .refl _, ⟨_, rfl⟩, rfl⟩
    · rintro ρ' L' ⟨⟨o, rfl⟩, rfl⟩
      walk_at "ss"
      rw [sp_eq]
      refine v_joinS kp hc ?_
      walk_at "ss"
      have hj := join_ok (isWs_code hw) hc
      refine ⟨_, rfl, hj, ?_⟩
      walk_at "ss"
      rw [nl_eq]
      have hl := bodyL_len (TL.joinL [32] ws)
      have hj2 := hj.2
      refine v_addS (by rw [S_len, S_len, hl]; simp; omega) ?_
      rw [S_cat]
      exact ⟨_, .refl _, k⟩

/-! ### _law_sum, _law_line, _law_word -/
def sp__law_sum : DSpec := fun ds L P _ => ∃ l : List Nat, ds = [.str (S l)] ∧ l.length ≤ 20500 ∧ P (.int (wsum l : Nat)) L
theorem ok__law_sum {P : Program} {w : World} {K : PySem.W.Frag} {mg : Str → Option Value} {base : Heap} (T : Tx K mg) : FnOk P w K mg base CX0 1 T.a__law_sum T.d__law_sum ["_law_text"] (upSp K sp__law_sum) := by
  refine fn_d T.F__law_sum sc__law_sum ?_ fun cdv A outer s0 H E hr => ⟨_, (dss_cons (ds_set 1 sc__law_sum.nd d_int)
    (dss_cons (ds_set 2 sc__law_sum.nd d_int)
    (dss_cons (ds_for PassesOwn.never rfl (di_range1 (da_cons (d_len T.n_len (da_cons (d_var 0) da_nil)) da_nil) T.n_range) (dg_name 3 sc__law_sum.nd) (dss_cons (ds_set 1 sc__law_sum.nd (d_add (d_var 1) (d_ord T.n_ord (da_cons (d_ix (d_var 0) (d_sub (d_sub (d_len T.n_len (da_cons (d_var 0) da_nil)) d_int) (d_var 3))) da_nil))))
    (dss_one (ds_set 2 sc__law_sum.nd (d_mod (d_intC T.n_int (da_cons (d_add (d_var 2) (d_var 1)) da_nil)) d_int)))))
    (dss_one (ds_ret (d_var 2)))))), ?_⟩
  · rintro ds L P PX ⟨l, rfl, _⟩
    rfl
  · rintro ds L P PX ⟨l, rfl, hl, k⟩
    have hz := sizeLine_eq
    refine st_is (ρ := [some _, none, none, none]) rfl ?_
    walk_at "ss"
    refine v_lenS (by rw [S_len]; omega) ?_
    walk_at "ss"
    rw [S_len]
    refine ⟨_, rfl, by omega, by omega, ?_⟩
    refine for_rg (fun i ρ' L' => (∃ o, ρ' = [some (.str (S l)), some (.int ((l.drop (l.length - i)).sum : Nat)), some (.int (wsum (l.drop (l.length - i)) : Nat)), o]) ∧ L' = L) ⟨⟨none, by simp [wsum, psum]⟩, rfl⟩ ?_ ?_
    · rintro i ρ' L' hi ⟨⟨o, rfl⟩, rfl⟩
      have hi' : i < l.length := by omega
      have hj : l.length - 1 - i < l.length := by omega
      have hg : l[l.length - 1 - i]? = some l[l.length - 1 - i] := by simp [hj]
      have hd : l.drop (l.length - (i + 1)) = l[l.length - 1 - i] :: l.drop (l.length - i) := by
        rw [show l.length - (i + 1) = l.length - 1 - i by omega, List.drop_eq_getElem_cons hj, show l.length - 1 - i + 1 = l.length - i by omega]
      walk_at "ss"
      refine v_lenS (by rw [S_len]; omega) ?_
      walk_at "ss"
      refine v_ixS (c := l[l.length - 1 - i]) (by rw [S_len]; omega) ?_ ?_
      · refine atI_int (k := l.length - 1 - i) ?_ hg
        rw [S_len]
        omega
      walk_at "ss"
      refine v_ord ?_ ?_
      · rfl
      walk_at "ss"
      refine v_I (by decide) ?_
      walk_at "ss"
      refine ⟨_, .refl _, ⟨some (.int (0 + (i : Int))), ?_⟩, rfl⟩
      rw [hd]
      congr 2
      · show some (D.int _) = some (D.int _)
        congr 2
        rw [List.sum_cons]
        simp
        omega
      · congr 1
        show some (D.int _) = some (D.int _)
        congr 2
        have e1 : psum 1 (l[l.length - 1 - i] :: l.drop (l.length - i)) = l[l.length - 1 - i] + (psum 1 (l.drop (l.length - i)) + (l.drop (l.length - i)).sum) := by
          show 1 * l[l.length - 1 - i] + psum (1 + 1) (l.drop (l.length - i)) = _
          rw [psum_succ, Nat.one_mul]
        unfold wsum
        rw [e1]
        have e2 : ((#[l[l.length - 1 - i]] : Array Nat).getD 0 0 : Nat) = l[l.length - 1 - i] := rfl
        rw [e2]
        omega
    · rintro ρ' L' ⟨⟨o, rfl⟩, rfl⟩
      walk_at "ss"
      have e : l.drop (l.length - ((l.length : Nat) : Int).toNat) = l := by simp
      rw [e]
      exact ⟨_, .refl _, k⟩
def sp__law_word : DSpec := fun ds L P _ => ∃ w : List Nat, ds = [.str (S w)] ∧ P (.bl (isW w)) L
theorem ok__law_word {P : Program} {w : World} {K : PySem.W.Frag} {mg : Str → Option Value} {base : Heap} (T : Tx K mg) : FnOk P w K mg base CX0 1 T.a__law_word T.d__law_word ["_law_word_here"] (upSp K sp__law_word) := by
  refine fn_d T.F__law_word sc__law_word ?_ fun cdv A outer s0 H E hr => ⟨_, (dss_cons (ds_for PassesOwn.never rfl (di_str (d_var 0)) (dg_name 1 sc__law_word.nd) (dss_one (ds_if (dt_notin (by rfl) (d_var 1) d_str) (dss_one (ds_ret d_bl)) dss_nil)))
    (dss_one (ds_ret (d_ne hr.units (d_var 0) d_str)))), ?_⟩
  · rintro ds L P PX ⟨l, rfl, _⟩
    rfl
  · rintro ds L P PX ⟨w, rfl, k⟩
    refine st_is (ρ := [some _, none]) rfl ?_
    walk_at "ss"
    refine ⟨fun i ρ' L' => (∃ o, ρ' = [some (.str (S w)), o]) ∧ L' = L ∧ ∀ c ∈ w.take i, c ∈ chars, ⟨⟨_, rfl⟩, rfl, by simp⟩, fun _ _ _ _ _ => trivial, ?_, ?_⟩
    · rintro i d ρ' L' hd ⟨⟨o, rfl⟩, rfl, hw⟩
      obtain ⟨c, hc, rfl⟩ := chD_get hd
      walk_at "ss"
      rw [chars_eq, in_one]
      refine s_nd (fun h => ?_) fun h => ?_
      · walk_at "ss"
        rw [isW_no (List.mem_of_getElem? hc) h] at k
        exact ⟨_, .refl _, k⟩
      · walk_at "ss"
        exact ⟨_, .refl _, ⟨_, rfl⟩, rfl, in_take hw hc h⟩
    · rintro ρ' L' ⟨⟨o, rfl⟩, rfl, hw⟩
      walk_at "ss"
      rw [em_eq]
      have hw' : ∀ c ∈ w, c ∈ chars := by
        have e : w.take (chD (S w)).length = w := List.take_of_length_le (by rw [chD_length]; simp)
        rw [e] at hw
        exact hw
      rw [isW_eq w hw'] at k
      exact ⟨_, .refl _, k⟩
def sp__law_line : DSpec := fun ds L P _ => ∃ (p : Addr) (ws : List (List Nat)), ds = [.ref p] ∧ keepL p (txts ws) L ∧ costW ws ≤ 20400 ∧ P (.str (S (lineL ws ++ [10]))) L
theorem ok__law_line {P : Program} {w : World} {K : PySem.W.Frag} {mg : Str → Option Value} {base : Heap} (T : Tx K mg) : FnOk P w K mg base CX0 2 T.a__law_line T.d__law_line ["_law_words_here"] (upSp K sp__law_line) := by
  refine fn_d T.F__law_line sc__law_line ?_ fun cdv A outer s0 H E hr => ⟨_, (dss_cons (ds_set 1 sc__law_line.nd (d_ms PySem.F.slot_str_join PySem.F.type_str_join mt_join rm_join d_str (da_cons (d_var 0) da_nil)))
    (dss_one (ds_ret (d_add (d_add (d_add (d_var 1) d_str) (d_ms PySem.F.slot_str_zfill PySem.F.type_str_zfill mt_zfill rm_zfill (d_strI T.n_str (da_cons (d_call (ok__law_sum T) (hr.mono (by decide)) T.g__law_sum T.F__law_sum.kp (bi__law_sum T) (da_cons (d_var 1) da_nil)) da_nil)) (da_cons d_int da_nil))) d_str)))), ?_⟩
  · rintro ds L P PX ⟨l, ws, rfl, _⟩
    rfl
  · rintro ds L P PX ⟨p, ws, rfl, kp, hc, k⟩
    have hz := sizeLine_eq
    have hj := join_len ws
    have hl := bodyL_len (TL.joinL [32] ws)
    refine st_is (ρ := [some _, none]) rfl ?_
    walk_at "ss"
    rw [sp_eq]
    refine v_joinS kp hc ?_
    walk_at "ss"
    refine v_addS (by rw [S_len, S_len]; simp; omega) ?_
    rw [S_cat]
    walk_at "ss"
    refine ⟨_, rfl, by omega, ?_⟩
    walk_at "ss"
    refine v_strI (log2_small (wsum_lt _)) ?_
    walk_at "ss"
    rw [show (toString ((wsum (TL.joinL [32] ws) : Nat) : Int) : Str) = S (TL.numL (wsum (TL.joinL [32] ws))) from num_S _]
    refine v_zfill (by decide) ?_
    rw [show ((4 : Int)) = ((4 : Nat) : Int) from rfl, zfill_eq]
    have hp := padL_len (w := 4) (n := wsum (TL.joinL [32] ws)) (by decide) (Nat.lt_trans (wsum_lt _) (by decide))
    refine v_addS (by rw [S_len, S_len, hp]; simp; omega) ?_
    rw [S_cat, nl_eq]
    walk_at "ss"
    refine v_addS (by rw [S_len, S_len]; simp [hp]; omega) ?_
    rw [S_cat]
    have e : TL.joinL [32] ws ++ [32] ++ padL 4 (wsum (TL.joinL [32] ws)) ++ [10] = lineL ws ++ [10] := by simp [lineL, bodyL]
    rw [e]
    exact ⟨_, .refl _, k⟩
end K58

set_option maxRecDepth 100000
set_option maxHeartbeats 2000000
namespace K58
open PySem L2 DL SX TX

/-! ### _law_read -/
theorem dropLast_snoc {α : Type} (l : List α) (x : α) : (l ++ [x]).dropLast = l := by simp
theorem readT_nil : readT [] = ([], false) := by
  unfold readT
  rw [spl1_free (by simp)]
  rfl
theorem readT_free {t : List Nat} (h : 10 ∉ t) : readT t = ([], !t.isEmpty) := by
  unfold readT
  rw [spl1_free h]
  rfl
theorem readT_cut {p q : List Nat} (h : 10 ∉ p) : readT (p ++ 10 :: q) = readI (p :: (TL.spl [10] 0 [] q).dropLast) ((TL.spl [10] 0 [] q).getLastD []) := by
  unfold readT
  rw [spl1_cut h]
  have hne := spl_ne [10] 0 [] q
  cases e : TL.spl [10] 0 [] q with
  | nil => exact absurd e hne
  | cons x xs => simp [List.getLastD]
theorem readT_bad {p q : List Nat} (h : 10 ∉ p) (hp : parseL p = none) : readT (p ++ 10 :: q) = ([], true) := by rw [readT_cut h, readI_none hp]
theorem readT_good {p q : List Nat} {ws : List (List Nat)} (h : 10 ∉ p) (hp : parseL p = some ws) : readT (p ++ 10 :: q) = (ws :: (readT q).1, (readT q).2) := by rw [readT_cut h, readI_some hp]; rfl
theorem parse_nosp {p : List Nat} (h : 32 ∉ p) : parseL p = none := by
  unfold parseL
  rw [if_neg]
  rintro ⟨e, _⟩
  refine h ?_
  rw [e]
  simp [bodyL]
theorem join_cutSp (b : List Nat) : TL.joinL [32] (cutSp b) = b := join_spl1 _ b (Nat.le_refl _)
theorem costW_cutSp (b : List Nat) : costW (cutSp b) ≤ 2 * b.length + 1 := by
  obtain ⟨h1, h2⟩ := spl1_len (c := 32) _ b (Nat.le_refl _)
  unfold costW
  show (List.map List.length (TL.spl [32] 0 [] b)).sum + (TL.spl [32] 0 [] b).length ≤ _
  omega
theorem in_bls (ws : List (List Nat)) : inD (.bl false) ((ws.map isW).map D.bl) = !(ws.all isW) := by
  unfold inD
  induction ws with
  | nil => rfl
  | cons w ws ih =>
    rw [List.map_cons, List.map_cons, List.any_cons, List.all_cons, ih]
    cases isW w <;> simp [eqF]
theorem txts_ok {ws : List (List Nat)} (h : ∀ w ∈ ws, ∀ c ∈ w, c < 1114112) : (txts ws).all okD = true := by
  rw [List.all_eq_true]
  intro d hd
  obtain ⟨w, hw, rfl⟩ := List.mem_map.mp hd
  exact strOk_S (h w hw)
theorem bls_ok (bs : List Bool) : (bs.map D.bl).all flatD = true := by simp [flatD]
def sp__law_read : DSpec := fun ds L P _ => ∃ t : List Nat, ds = [.str (S t)] ∧ (∀ c ∈ t, c < 1114112) ∧ t.length ≤ 10000 ∧ P (resD (readT t)) L
theorem ok__law_read {P : Program} {w : World} {K : PySem.W.Frag} {mg : Str → Option Value} {base : Heap} (T : Tx K mg) : FnOk P w K mg base CX0 3 T.a__law_read T.d__law_read ["_law_text"] (upSp K sp__law_read) := by
  refine fn_d T.F__law_read sc__law_read ?_ fun cdv A outer s0 H E hr => ⟨_, (dss_cons (ds_set 1 sc__law_read.nd (d_lst da_nil))
    (dss_cons (ds_set 2 sc__law_read.nd (d_var 0))
    (dss_cons (ds_for PassesOwn.never rfl (di_range1 (da_cons (d_len T.n_len (da_cons (d_var 0) da_nil)) da_nil) T.n_range) (dg_name 3 sc__law_read.nd) (dss_cons (ds_set 4 sc__law_read.nd (d_ms PySem.F.slot_str_find PySem.F.type_str_find mt_find (rm_s1 (g' := fun a b => .int (Txt.find a b)) fun _ _ _ => rfl) (d_var 2) (da_cons d_str da_nil)))
    (dss_cons (ds_set 5 sc__law_read.nd (d_slice (d_ms PySem.F.slot_str_split PySem.F.type_str_split mt_split rm_split (d_slice (d_var 2) do_none (do_some (d_max2 T.n_max (da_cons d_int (da_cons (d_var 4) da_nil))))) (da_cons d_str da_nil)) do_none (do_some (d_neg d_int))))
    (dss_cons (ds_setLc [("_law_word_here", 7)] 6 rfl sc__law_read.nd (di_list (d_var 5)) (blkOk_by (by rfl)) (fun _ _ _ _ _ => dgw_name 7 sc__law_read.nd (by decide)) (fun _ _ _ _ _ => dts_nil) (fun _ _ _ _ _ => (d_call (ok__law_word T) (hr.mono (by decide)) T.g__law_word T.F__law_word.kp (bi__law_word T) (da_cons (d_var 7) da_nil))) (sw_true rfl rfl rfl (by decide +kernel)))
    (dss_cons (ds_if (dt_w (dw_or (dt_lt (d_var 4) d_int) (dw_or (dt_eq hr.units (d_var 5) (d_lst da_nil)) (dw_or1 (dt_in (by rfl) d_bl (d_var 6)))))) (dss_one ds_break) dss_nil)
    (dss_cons (ds_if (dt_ne hr.units (d_call (ok__law_line T) (hr.mono (by decide)) T.g__law_line T.F__law_line.kp (bi__law_line T) (da_cons (d_var 5) da_nil)) (d_slice (d_var 2) do_none (do_some (d_add (d_var 4) d_int)))) (dss_one ds_break) dss_nil)
    (dss_cons (ds_expr (d_ml PySem.F.slot_list_append PySem.F.type_list_append mt_append rm_append (d_var 1) (da_cons (d_tupleC T.n_tuple (da_cons (d_var 5) da_nil)) da_nil)))
    (dss_one (ds_set 2 sc__law_read.nd (d_slice (d_var 2) (do_some (d_add (d_var 4) d_int)) do_none))))))))))
    (dss_one (ds_ret (d_tup (da_cons (d_tupleC T.n_tuple (da_cons (d_var 1) da_nil)) (da_cons (d_ne hr.units (d_var 2) d_str) da_nil)))))))), ?_⟩
  · rintro ds L P PX ⟨l, rfl, _⟩
    rfl
  · rintro ds L P PX ⟨t, rfl, ho, hl, k⟩
    have hz := sizeLine_eq
    refine st_is (ρ := [some _, none, none, none, none, none, none, none]) rfl ?_
    walk_at "ss"
    intro pr
    walk_at "ss"
    refine v_lenS (by rw [S_len]; omega) ?_
    walk_at "ss"
    rw [S_len]
    refine ⟨_, rfl, by omega, by omega, ?_⟩
    have fin : ∀ (rest : List Nat) (acc : List (List (List Nat))), readT t = (acc, !rest.isEmpty) → P (.tup [.tup (acc.map recD), .bl (!decide (S rest = S []))]) L := fun rest acc e => by
      rw [e] at k
      have e2 : (!decide (S rest = S [])) = !rest.isEmpty := by rw [S_ne]; cases rest <;> simp
      rw [e2]
      exact k
    refine for_rg (fun i ρ' L' => ∃ rest acc o3 o4 o5 o6 o7, ρ' = [some (.str (S t)), some (.ref pr), some (.str (S rest)), o3, o4, o5, o6, o7] ∧ L' = .l pr (acc.map recD) :: L ∧ acc.length = i ∧ rest.length + i ≤ t.length ∧
      (∀ c ∈ rest, c < 1114112) ∧ readT t = (acc ++ (readT rest).1, (readT rest).2)) ⟨t, [], _, _, _, _, _, rfl, rfl, rfl, by omega, ho, by simp⟩ ?_ ?_
    · rintro i ρ' L' hi ⟨rest, acc, o3, o4, o5, o6, o7, rfl, rfl, ha, hr, hro, hrd⟩
      have stop : readT rest = ([], !rest.isEmpty) → readT t = (acc, !rest.isEmpty) := fun e => by rw [hrd, e]; simp
      walk_at "ss"
      rw [nl_eq]
      rcases first_of (c := 10) rest with h10 | ⟨p, q, rfl, h10⟩
      · rw [find_none h10]
        walk_at "ss"
        refine v_slS (by rw [S_len]; omega) ?_
        rw [if_neg (by decide), cut_to (by decide)]
        walk_at "ss"
        rw [sp_eq]
        refine v_split rfl (by rw [S_len]; simp; omega) ?_
        intro s1
        walk_at "ss"
        rw [split_txts, show rest.take (0 : Int).toNat = [] from rfl, show cutSp [] = [[]] from rfl]
        refine v_slL (ds := txts [[]]) (.inl (by simp)) ?_
        rw [show cutD (txts [[]]) none (some (-1)) = [] from cutD_butlast [] _]
        intro s2
        walk_at "ss"
        intro g
        refine ⟨fun _ L' => L' = .l g [] :: .l s2 [] :: .l s1 (txts [[]]) :: .l pr (acc.map recD) :: L, rfl, ?_, ?_, ?_⟩
        · rintro _ L' _ rfl
          exact .inl (by simp)
        · rintro i d L' hd
          cases hd
        · rintro L' rfl
          walk_at "ss"
          refine s_d (fun h => ?_) fun h => absurd (by decide) h
          walk_at "ss"
          rw [em_eq]
          exact ⟨_, by walk_at "sub", fin _ _ (stop (readT_free h10))⟩
      · have hrn : (p ++ 10 :: q).isEmpty = false := by simp
        have hro' : ∀ c ∈ p, c < 1114112 := fun c hc => hro c (List.mem_append_left _ hc)
        have hlen : p.length + q.length + 1 + i ≤ t.length := by
          have := hr
          simp at this
          omega
        rw [find_some h10]
        walk_at "ss"
        refine v_slS (by rw [S_len]; omega) ?_
        have em : (if (p.length : Int) > 0 then (p.length : Int) else 0) = (p.length : Int) := by split <;> omega
        rw [em, cut_to (by omega), Int.toNat_natCast, List.take_left' rfl]
        walk_at "ss"
        rw [sp_eq]
        refine v_split rfl (by rw [S_len]; omega) ?_
        intro s1
        walk_at "ss"
        rw [split_txts]
        have hcut : ∃ ws z, cutSp p = ws ++ [z] ∧ ((ws = [] ∧ 32 ∉ p) ∨ (ws ≠ [] ∧ beforeSp p = TL.joinL [32] ws ∧ cutSp (beforeSp p) = ws ∧ costW ws ≤ 2 * p.length + 1)) := by
          rcases last_of (c := 32) p with h | ⟨b, z, rfl, h⟩
          · exact ⟨[], p, spl1_free h, .inl ⟨rfl, h⟩⟩
          · refine ⟨cutSp b, z, spl1_last h, .inr ⟨spl_ne _ _ _ _, ?_, ?_, ?_⟩⟩
            · rw [beforeSp_some h, join_cutSp]
            · rw [beforeSp_some h]
            · have := costW_cutSp b
              simp
              omega
        obtain ⟨ws, z, ecut, hws⟩ := hcut
        have hcode : ∀ w ∈ ws, ∀ c ∈ w, c < 1114112 := fun w hw c hc => by
          have hm : w ∈ cutSp p := by rw [ecut]; exact List.mem_append_left _ hw
          exact hro' c ((spl1_part (c := 32) _ p (Nat.le_refl _) w hm).2 c hc)
        have hwl : ws.length ≤ p.length := by
          have := (spl1_len (c := 32) _ p (Nat.le_refl _)).1
          have e2 : (TL.spl [32] 0 [] p).length = ws.length + 1 := by
            show (cutSp p).length = _
            rw [ecut]
            simp
          omega
        rw [ecut]
        refine v_slL (ds := txts (ws ++ [z])) (.inl (by simp)) ?_
        rw [show cutD (txts (ws ++ [z])) none (some (-1)) = txts ws by unfold txts; rw [List.map_append]; exact cutD_butlast _ _]
        intro s2
        walk_at "ss"
        intro g
        refine ⟨fun j L' => L' = .l g (((ws.take j).map isW).map D.bl) :: .l s2 (txts ws) :: .l s1 (txts (ws ++ [z])) :: .l pr (acc.map recD) :: L, rfl, ?_, ?_, ?_⟩
        · rintro _ L' _ rfl
          exact .inl (by simp)
        · rintro j d L' hd rfl
          obtain ⟨w, hc, rfl⟩ := txts_get hd
          walk_at "ss"
          walk_at "wipe"
          walk_at "ss"
          refine ⟨w, rfl, ?_⟩
          refine v_pull .here ⟨?_, _, .refl _, ?_⟩
          · rw [List.length_map, List.length_map, List.length_take]
            omega
          · rw [take_snoc hc]
            simp
        · rintro L' rfl
          have etk : ((ws.take (txts ws).length).map isW).map D.bl = (ws.map isW).map D.bl := by rw [List.length_map, List.take_length]
          rw [etk]
          walk_at "ss"
          refine s_d (fun h => absurd h (by omega)) fun h => ?_
          walk_at "ss"
          intro e0
          refine v_eqNil (ds := txts ws) (.inl (by simp)) (.inl (by simp)) (txts_ok hcode) ?_
          walk_at "ss"
          rcases hws with ⟨rfl, h32⟩ | ⟨hne, ebj, ebs, hcost⟩
          · refine s_is rfl ?_
            walk_at "ss"
            rw [em_eq]
            refine ⟨_, by walk_at "sub", fin _ _ (stop ?_)⟩
            rw [readT_bad h10 (parse_nosp h32)]
            simp
          · refine s_isn (by cases ws with | nil => exact absurd rfl hne | cons a b => rfl) ?_
            walk_at "ss"
            refine v_inL (ds := (ws.map isW).map D.bl) (.inl (by simp)) rfl (bls_ok _) ?_
            walk_at "ss"
            rw [in_bls]
            refine s_nb (fun h => ?_) fun h => ?_
            · walk_at "ss"
              rw [em_eq]
              refine ⟨_, by walk_at "sub", fin _ _ (stop ?_)⟩
              have hp : parseL p = none := by
                unfold parseL
                rw [ebs, if_neg (fun z => by rw [h] at z; cases z.2)]
              rw [readT_bad h10 hp]
              simp
            · walk_at "ss"
              refine ⟨_, ws, rfl, .inl (by simp), by omega, ?_⟩
              walk_at "ss"
              refine v_slS (by rw [S_len]; omega) ?_
              rw [cut_to (by omega), show ((p.length : Int) + 1).toNat = p.length + 1 by omega]
              have etk : (p ++ 10 :: q).take (p.length + 1) = p ++ [10] := by
                rw [List.take_append, List.take_of_length_le (by omega), show p.length + 1 - p.length = 1 by omega]
                rfl
              rw [etk]
              walk_at "ss"
              rw [S_ne]
              refine s_nd (fun hd => ?_) fun hd => ?_
              · walk_at "ss"
                rw [em_eq]
                refine ⟨_, by walk_at "sub", fin _ _ (stop ?_)⟩
                have hp : parseL p = none := by
                  unfold parseL
                  rw [ebs, ebj, if_neg (fun z => hd (by unfold lineL; rw [← z.1]))]
                rw [readT_bad h10 hp]
                simp
              · walk_at "ss"
                have hp : parseL p = some ws := by
                  unfold parseL
                  rw [ebs, ebj, if_pos ⟨(List.append_cancel_right hd).symm, h⟩]
                refine v_append (.there (.there (.there (.there .here)))) (by rw [List.length_map]; omega) ?_
                walk_at "ss"
                refine v_slS (by rw [S_len]; omega) ?_
                rw [cut_from (by omega), show ((p.length : Int) + 1).toNat = p.length + 1 by omega]
                have edr : (p ++ 10 :: q).drop (p.length + 1) = q := by
                  rw [List.drop_append, List.drop_of_length_le (by omega), show p.length + 1 - p.length = 1 by omega]
                  rfl
                rw [edr]
                walk_at "ss"
                refine ⟨_, ?_, q, acc ++ [ws], _, _, _, _, _, rfl, rfl, (by rw [List.length_append, ha]; rfl), by omega, fun c hc => hro c (List.mem_append_right _ (List.mem_cons_of_mem _ hc)), ?_⟩
                · rw [List.map_append]
                  show Sub (.l pr (acc.map recD ++ [recD ws]) :: L) _
                  walk_at "sub"
                · rw [hrd, readT_good h10 hp]
                  simp
    · rintro ρ' L' ⟨rest, acc, o3, o4, o5, o6, o7, rfl, rfl, ha, hr, hro, hrd⟩
      have e0 : rest = [] := List.length_eq_zero_iff.mp (by omega)
      subst e0
      rw [readT_nil, List.append_nil] at hrd
      walk_at "ss"
      rw [em_eq]
      exact ⟨_, by walk_at "sub", fin _ _ hrd⟩
end K58

set_option maxRecDepth 100000
set_option maxHeartbeats 2000000
namespace K58
open PySem L2 DL SX TX

/-! ### _law_same -/
theorem ok_same0 {P : Program} {w : World} {K : PySem.W.Frag} {mg : Str → Option Value} {base : Heap} (T : Tx K mg) : FnOk P w K mg base CX0 1 T.a__law_same T.d__law_same ["_law_told", "_law_due"] (upSp K (spSame 0)) := by
  refine fn_d T.F__law_same sc__law_same ?_ fun cdv A outer s0 H E hr => ⟨_, (dss_cons (ds_if (dt_is (d_var 1) d_non) (dss_one (ds_ret (d_is (d_var 0) d_non))) dss_nil)
    (dss_cons (ds_if (dt_truth (d_isi T.n_isinstance (da_cons (d_var 1) (da_cons (d_ty (n := "tuple") T.n_tuple (by decide +kernel)) da_nil)))) (dss_cons (ds_if (dt_w (dw_or (dt_not (dt_truth (d_isi T.n_isinstance (da_cons (d_var 0) (da_cons (d_ty (n := "tuple") T.n_tuple (by decide +kernel)) da_nil))))) (dw_or1 (dt_ne hr.units (d_len T.n_len (da_cons (d_var 0) da_nil)) (d_len T.n_len (da_cons (d_var 1) da_nil)))))) (dss_one (ds_ret d_bl)) dss_nil)
    (dss_one ds_never)) dss_nil)
    (dss_cons (ds_if (dt_truth (d_isi T.n_isinstance (da_cons (d_var 1) (da_cons (d_ty (n := "bool") T.n_bool (by decide +kernel)) da_nil)))) (dss_one (ds_ret (d_and (d_isi T.n_isinstance (da_cons (d_var 0) (da_cons (d_ty (n := "bool") T.n_bool (by decide +kernel)) da_nil))) (d_one (d_eq hr.units (d_var 0) (d_var 1)))))) dss_nil)
    (dss_cons (ds_if (dt_truth (d_isi T.n_isinstance (da_cons (d_var 1) (da_cons (d_ty (n := "int") T.n_int (by decide +kernel)) da_nil)))) (dss_one (ds_ret (d_and (d_isi T.n_isinstance (da_cons (d_var 0) (da_cons (d_ty (n := "int") T.n_int (by decide +kernel)) da_nil))) (d_and (d_not (d_isi T.n_isinstance (da_cons (d_var 0) (da_cons (d_ty (n := "bool") T.n_bool (by decide +kernel)) da_nil)))) (d_one (d_eq hr.units (d_var 0) (d_var 1))))))) dss_nil)
    (dss_one (ds_ret (d_and (d_isi T.n_isinstance (da_cons (d_var 0) (da_cons (d_ty (n := "str") T.n_str (by decide +kernel)) da_nil))) (d_one (d_eq hr.units (d_var 0) (d_var 1)))))))))), ?_⟩
  · rintro ds L P PX ⟨d, rfl, _⟩
    rfl
  · rintro ds L P PX ⟨d, rfl, lv, k⟩
    refine st_is (ρ := [some _, some _, none]) rfl ?_
    cases lv with
    | non =>
      walk_at "ss"
      refine s_is rfl ?_
      walk_at "ss"
      exact ⟨_, .refl _, k⟩
    | bl _ b =>
      walk_at "ss"
      refine s_isn rfl ?_
      walk_at "ss"
      rw [show decide (b = b) = true from decide_eq_true rfl]
      exact ⟨_, .refl _, k⟩
    | int _ i =>
      walk_at "ss"
      refine s_isn rfl ?_
      walk_at "ss"
      rw [show decide (i = i) = true from decide_eq_true rfl]
      exact ⟨_, .refl _, k⟩
    | str _ s =>
      walk_at "ss"
      refine s_isn rfl ?_
      walk_at "ss"
      rw [show decide (s = s) = true from decide_eq_true rfl]
      exact ⟨_, .refl _, k⟩
theorem ok_same {P : Program} {w : World} {K : PySem.W.Frag} {mg : Str → Option Value} {base : Heap} (T : Tx K mg) : ∀ n, FnOk P w K mg base CX0 (n + 1) T.a__law_same T.d__law_same ["_law_told", "_law_due"] (upSp K (spSame n))
  | 0 => ok_same0 T
  | n + 1 => by
    have ih := ok_same (P := P) (w := w) (base := base) T n
    refine fn_d T.F__law_same sc__law_same ?_ fun cdv A outer s0 H E hr => ⟨_, (dss_cons (ds_if (dt_is (d_var 1) d_non) (dss_one (ds_ret (d_is (d_var 0) d_non))) dss_nil)
    (dss_cons (ds_if (dt_truth (d_isi T.n_isinstance (da_cons (d_var 1) (da_cons (d_ty (n := "tuple") T.n_tuple (by decide +kernel)) da_nil)))) (dss_cons (ds_if (dt_w (dw_or (dt_not (dt_truth (d_isi T.n_isinstance (da_cons (d_var 0) (da_cons (d_ty (n := "tuple") T.n_tuple (by decide +kernel)) da_nil))))) (dw_or1 (dt_ne hr.units (d_len T.n_len (da_cons (d_var 0) da_nil)) (d_len T.n_len (da_cons (d_var 1) da_nil)))))) (dss_one (ds_ret d_bl)) dss_nil)
    (dss_one (ds_ret (d_all T.n_all (da_cons (d_lc [("_law_k", 2)] rfl sc__law_same.nd (di_range1 (da_cons (d_len T.n_len (da_cons (d_var 1) da_nil)) da_nil) T.n_range) (blkOk_by (by rfl)) (fun _ _ _ _ _ => dgw_name 2 sc__law_same.nd (by decide)) (fun _ _ _ _ _ => dts_nil) (fun _ _ _ _ _ => (d_call ih (hr.mono (Nat.le_refl _)) T.g__law_same T.F__law_same.kp (bi__law_same T) (da_cons (d_ix (d_var 0) (d_var 2)) (da_cons (d_ix (d_var 1) (d_var 2)) da_nil))))) da_nil))))) dss_nil)
    (dss_cons (ds_if (dt_truth (d_isi T.n_isinstance (da_cons (d_var 1) (da_cons (d_ty (n := "bool") T.n_bool (by decide +kernel)) da_nil)))) (dss_one (ds_ret (d_and (d_isi T.n_isinstance (da_cons (d_var 0) (da_cons (d_ty (n := "bool") T.n_bool (by decide +kernel)) da_nil))) (d_one (d_eq hr.units (d_var 0) (d_var 1)))))) dss_nil)
    (dss_cons (ds_if (dt_truth (d_isi T.n_isinstance (da_cons (d_var 1) (da_cons (d_ty (n := "int") T.n_int (by decide +kernel)) da_nil)))) (dss_one (ds_ret (d_and (d_isi T.n_isinstance (da_cons (d_var 0) (da_cons (d_ty (n := "int") T.n_int (by decide +kernel)) da_nil))) (d_and (d_not (d_isi T.n_isinstance (da_cons (d_var 0) (da_cons (d_ty (n := "bool") T.n_bool (by decide +kernel)) da_nil)))) (d_one (d_eq hr.units (d_var 0) (d_var 1))))))) dss_nil)
    (dss_one (ds_ret (d_and (d_isi T.n_isinstance (da_cons (d_var 0) (da_cons (d_ty (n := "str") T.n_str (by decide +kernel)) da_nil))) (d_one (d_eq hr.units (d_var 0) (d_var 1)))))))))), ?_⟩
    · rintro ds L P PX ⟨d, rfl, _⟩
      rfl
    · rintro ds L P PX ⟨d, rfl, lv, k⟩
      refine st_is (ρ := [some _, some _, none]) rfl ?_
      cases lv with
      | non =>
        walk_at "ss"
        refine s_is rfl ?_
        walk_at "ss"
        exact ⟨_, .refl _, k⟩
      | bl _ b =>
        walk_at "ss"
        refine s_isn rfl ?_
        walk_at "ss"
        rw [show decide (b = b) = true from decide_eq_true rfl]
        exact ⟨_, .refl _, k⟩
      | int _ i =>
        walk_at "ss"
        refine s_isn rfl ?_
        walk_at "ss"
        rw [show decide (i = i) = true from decide_eq_true rfl]
        exact ⟨_, .refl _, k⟩
      | str _ s =>
        walk_at "ss"
        refine s_isn rfl ?_
        walk_at "ss"
        rw [show decide (s = s) = true from decide_eq_true rfl]
        exact ⟨_, .refl _, k⟩
      | @tup _ ds h hl =>
        walk_at "ss"
        refine s_isn rfl ?_
        walk_at "ss"
        refine s_nd (fun h => absurd rfl h) fun _ => ?_
        walk_at "ss"
        refine ⟨_, rfl, by omega, by omega, ?_⟩
        intro r
        refine ⟨fun i L' => L' = .l r ((List.replicate i true).map D.bl) :: L, rfl, fun _ _ _ _ => trivial, ?_, ?_⟩
        · rintro i d L' hd rfl
          have hi : i < ds.length := by
            have := (List.getElem?_eq_some_iff.mp hd).1
            rw [rgD_length] at this
            omega
          rw [rgD_get (by omega)] at hd
          cases hd
          have hg : ds[i]? = some ds[i] := by simp [hi]
          walk_at "ss"
          walk_at "wipe"
          walk_at "ss"
          refine v_ixT (DL.atI_int (k := i) (by omega) hg) ?_
          walk_at "ss"
          refine v_ixT (DL.atI_int (k := i) (by omega) hg) ?_
          walk_at "ss"
          refine ⟨ds[i], rfl, h _ (List.getElem_mem hi), ?_⟩
          refine v_pull .here ⟨?_, _, .refl _, ?_⟩
          · rw [List.length_map, List.length_replicate, sizeLine_eq]
            omega
          · show _ :: _ = _ :: _
            rw [List.replicate_succ', List.map_append]
            rfl
        · rintro L' rfl
          walk_at "ss"
          refine v_all (imm_in List.mem_cons_self) ?_
          rw [all_true]
          exact ⟨_, .drop (.refl _), k⟩
/-! ### _law_words -/
theorem menu_code : ∀ i : Nat, i < 37 → ∃ c, chars[i]? = some c ∧ c ∈ chars := fun i hi => ⟨chars[i]'(by show i < 37; exact hi), by simp, List.getElem_mem _⟩
/-- a pool that may have been drawn on -/
def pooled (p : Addr) (ns : List Int) (L R : List Itm) : Prop := Pull L (.l p (ns.map D.int)) R ∧ (∀ n ∈ ns, 0 ≤ n) ∧ ns.length ≤ 63
def sp__law_words : DSpec := fun ds L P _ => ∃ (p : Addr) (ns : List Int) (m : Int) (R : List Itm), ds = [.ref p, .int m] ∧ pooled p ns L R ∧ 1 ≤ m ∧ m ≤ 5 ∧
  ∀ (q : Addr) (ws : List (List Nat)) (ns' : List Int), isWs ws → (ws.length : Int) = m → (∀ w ∈ ws, w.length ≤ 6) → (∀ n ∈ ns', 0 ≤ n) → ns'.length ≤ 63 → P (.ref q) (.l q (txts ws) :: .l p (ns'.map D.int) :: R)
theorem ok__law_words {P : Program} {w : World} {K : PySem.W.Frag} {mg : Str → Option Value} {base : Heap} (T : Tx K mg) : FnOk P w K mg base CX0 2 T.a__law_words T.d__law_words ["_law_pool", "_law_size"] (upSp K sp__law_words) := by
  refine fn_dS T.F__law_words sc__law_words ?_ fun cdv A outer s0 H E hr => ⟨_, (dss_cons (ds_set 2 sc__law_words.nd d_str)
    (dss_cons (ds_set 3 sc__law_words.nd (d_lst da_nil))
    (dss_cons (ds_for PassesOwn.never rfl (di_range1 (da_cons (d_var 1) da_nil) T.n_range) (dg_name 4 sc__law_words.nd) (dss_cons (ds_set 5 sc__law_words.nd d_str)
    (dss_cons (ds_for PassesOwn.never rfl (di_range1 (da_cons (d_add d_int (d_mod (d_intC T.n_int (da_cons (d_add d_int (d_call (ok__law_draw T) (hr.mono (by decide)) T.g__law_draw T.F__law_draw.kp (bi__law_draw T) (da_cons (d_var 0) (da_cons d_int da_nil)))) da_nil)) d_int)) da_nil) T.n_range) (dg_name 6 sc__law_words.nd) (dss_cons (ds_set 7 sc__law_words.nd (d_add (d_add (d_mul d_int (d_var 4)) (d_mul d_int (d_var 6))) (d_call (ok__law_draw T) (hr.mono (by decide)) T.g__law_draw T.F__law_draw.kp (bi__law_draw T) (da_cons (d_var 0) (da_cons d_int da_nil)))))
    (dss_one (ds_set 5 sc__law_words.nd (d_add (d_var 5) (d_ix (d_var 2) (d_mod (d_intC T.n_int (da_cons (d_var 7) da_nil)) d_int)))))))
    (dss_one (ds_expr (d_ml PySem.F.slot_list_append PySem.F.type_list_append mt_append rm_append (d_var 3) (da_cons (d_var 5) da_nil)))))))
    (dss_one (ds_ret (d_var 3)))))), ?_⟩
  · rintro ds L P PX ⟨d, _, _, _, rfl, _⟩
    rfl
  · rintro ds L P PX ⟨p, ns, m, R, rfl, ⟨pl, h0, hl⟩, hm, hm2, k⟩
    refine ⟨.l p (ns.map D.int) :: R, .pull pl (.refl _), ?_⟩
    refine st_is (ρ := [some _, some _, none, none, none, none, none, none]) rfl ?_
    walk_at "ss"
    intro q
    walk_at "ss"
    refine ⟨_, rfl, by omega, by omega, ?_⟩
    refine for_rg (fun i ρ' L' => ∃ (o4 o5 o6 o7 : Option D) (ws : List (List Nat)) (ns' : List Int), ρ' = [some (.ref p), some (.int m), some (.str (S chars)), some (.ref q), o4, o5, o6, o7] ∧ L' = .l q (txts ws) :: .l p (ns'.map D.int) :: R ∧ ws.length = i ∧ isWs ws ∧ (∀ w ∈ ws, w.length ≤ 6) ∧ (∀ n ∈ ns', 0 ≤ n) ∧ ns'.length ≤ 63)
      ?_ ?_ ?_
    · exact ⟨none, none, none, none, [], ns, by rw [chars_eq], rfl, rfl, rfl, by simp, h0, hl⟩
    · rintro i ρ' L' hi ⟨o4, o5, o6, o7, ws, ns', rfl, rfl, hw, hws, hw6, hn, hn3⟩
      walk_at "ss"
      refine ⟨p, ns', 6, _, rfl, .there .here, hn, hn3, by decide, by decide, fun x ns2 hx hx6 hn2 hl2 => ?_⟩
      walk_at "ss"
      refine v_I (by decide) ?_
      walk_at "ss"
      refine ⟨_, rfl, by omega, by omega, ?_⟩
      refine for_rg (fun j ρ' L' => ∃ (o6 o7 : Option D) (w : List Nat) (ns' : List Int), ρ' = [some (.ref p), some (.int m), some (.str (S chars)), some (.ref q), some (.int (0 + (i : Int))), some (.str (S w)), o6, o7] ∧ L' = .l p (ns'.map D.int) :: .l q (txts ws) :: R ∧ w.length = j ∧ (∀ c ∈ w, c ∈ chars) ∧ (∀ n ∈ ns', 0 ≤ n) ∧ ns'.length ≤ 63)
        ⟨_, _, [], ns2, rfl, rfl, rfl, by simp, hn2, by omega⟩ ?_ ?_
      · rintro j ρ' L' hj ⟨o6, o7, w, ns3, rfl, rfl, hwl, hwc, hn3, hl3⟩
        walk_at "ss"
        refine v_mulI (.inl ⟨by decide, by decide⟩) ?_
        walk_at "ss"
        refine v_mulI (.inl ⟨by decide, by decide⟩) ?_
        walk_at "ss"
        refine ⟨p, ns3, 37, _, rfl, .here, hn3, hl3, by decide, by decide, fun y ns4 hy hy6 hn4 hl4 => ?_⟩
        walk_at "ss"
        refine v_I (by decide) ?_
        obtain ⟨c, hc, hcm⟩ := menu_code ((5 * (0 + (i : Int)) + 11 * (0 + (j : Int)) + y) % 37).toNat (by omega)
        refine v_ixS (c := c) (by rw [S_len, sizeLine_eq]; decide) (DL.atI_int (k := ((5 * (0 + (i : Int)) + 11 * (0 + (j : Int)) + y) % 37).toNat) (by omega) hc) ?_
        refine v_addS (by rw [S_len, sizeLine_eq]; show w.length + 1 ≤ _; omega) ?_
        walk_at "ss"
        refine ⟨_, .refl _, some (.int (0 + (j : Int))), some (.int (5 * (0 + (i : Int)) + 11 * (0 + (j : Int)) + y)), w ++ [c], ns4, ?_, rfl, by simp [hwl], fun x hx => ?_, hn4, by omega⟩
        · rw [show (S w ++ (⟨#[c]⟩ : Str)) = S (w ++ [c]) from S_cat w [c]]
        · rcases List.mem_append.mp hx with hx | hx
          · exact hwc x hx
          · rw [List.mem_singleton.mp hx]; exact hcm
      · rintro ρ' L' ⟨o6, o7, w, ns3, rfl, rfl, hwl, hwc, hn3, hl3⟩
        walk_at "ss"
        refine v_append (.there .here) (by rw [List.length_map, hw, sizeLine_eq]; omega) ?_
        refine ⟨_, .refl _, _, _, _, _, ws ++ [w], ns3, rfl, ?_, by simp [hw], ?_, ?_, hn3, hl3⟩
        · rw [show txts (ws ++ [w]) = txts ws ++ [.str (S w)] from List.map_append]
        · unfold isWs
          rw [List.all_append, hws]
          have : isW w = true := by
            unfold isW
            rw [Bool.and_eq_true]
            refine ⟨List.all_eq_true.mpr fun c hc => decide_eq_true (hwc c hc), ?_⟩
            cases w with
            | nil => simp at hwl; omega
            | cons a b => rfl
          simp [this]
        · intro x hx
          rcases List.mem_append.mp hx with hx | hx
          · exact hw6 x hx
          · rw [List.mem_singleton.mp hx]; omega
    · rintro ρ' L' ⟨o4, o5, o6, o7, ws, ns', rfl, rfl, hw, hws, hw6, hn, hn3⟩
      walk_at "ss"
      exact ⟨_, .refl _, k q ws ns' hws (by omega) hw6 hn hn3⟩
end K58

set_option maxRecDepth 100000
set_option maxHeartbeats 2000000
namespace K58
open PySem L2 DL SX TX

/-! ### records and their text -/
/-- a good record -/
def Good (ws : List (List Nat)) : Prop := ws ≠ [] ∧ isWs ws ∧ ws.length ≤ 100 ∧ costW ws ≤ 1000
def wl (ws : List (List Nat)) : List Nat := lineL ws ++ [10]
def flat (recs : List (List (List Nat))) : List Nat := (recs.map wl).flatten
theorem no32 {w : List Nat} (h : isW w = true) : 32 ∉ w := fun hm => by have := isW_code h 32 hm; omega
theorem parse_line {ws : List (List Nat)} (h : Good ws) : parseL (lineL ws) = some ws := by
  have h32 : 32 ∉ padL 4 (wsum (TL.joinL [32] ws)) := fun hm => by have := padL_digits 32 hm; omega
  have e1 : beforeSp (lineL ws) = TL.joinL [32] ws := beforeSp_some h32
  have e2 : cutSp (TL.joinL [32] ws) = ws := SX.spl_join h.1 fun p hp => no32 (List.all_eq_true.mp h.2.1 p hp)
  unfold parseL
  rw [e1, e2, if_pos ⟨rfl, h.2.1⟩]
theorem line_no10 {ws : List (List Nat)} (h : Good ws) : 10 ∉ lineL ws := fun hm => by
  unfold lineL bodyL at hm
  rcases List.mem_append.mp hm with hm | hm
  · rcases join_mem ws 10 hm with h1 | ⟨w, hw, h1⟩
    · simp at h1
    · have := isW_code (List.all_eq_true.mp h.2.1 w hw) 10 h1
      omega
  · rcases List.mem_cons.mp hm with h1 | h1
    · cases h1
    · have := padL_digits 10 h1
      omega
theorem line_code {ws : List (List Nat)} (h : isWs ws) : ∀ c ∈ wl ws, c < 1114112 := fun c hm => by
  unfold wl lineL bodyL at hm
  rcases List.mem_append.mp hm with hm | hm
  · rcases List.mem_append.mp hm with hm | hm
    · rcases join_mem ws c hm with h1 | ⟨w, hw, h1⟩
      · rw [List.mem_singleton.mp h1]; decide
      · have := isW_code (List.all_eq_true.mp h w hw) c h1
        omega
    · rcases List.mem_cons.mp hm with h1 | h1
      · rw [h1]; decide
      · have := padL_digits c h1
        omega
  · rw [List.mem_singleton.mp hm]; decide
theorem flat_code {recs : List (List (List Nat))} (h : ∀ ws ∈ recs, Good ws) : ∀ c ∈ flat recs, c < 1114112 := fun c hm => by
  unfold flat at hm
  obtain ⟨l, hl, hc⟩ := List.mem_flatten.mp hm
  obtain ⟨ws, hw, rfl⟩ := List.mem_map.mp hl
  exact line_code (h ws hw).2.1 c hc
def cnt : List (List (List Nat)) → Nat → Nat
  | [], _ => 0
  | r :: rs, k => if (wl r).length ≤ k then cnt rs (k - (wl r).length) + 1 else 0
def rem : List (List (List Nat)) → Nat → Nat
  | [], k => k
  | r :: rs, k => if (wl r).length ≤ k then rem rs (k - (wl r).length) else k
theorem wl_len (ws : List (List Nat)) : (wl ws).length = (TL.joinL [32] ws).length + 6 := by
  unfold wl lineL
  rw [List.length_append, bodyL_len]
  rfl
theorem read_prefix : ∀ (recs : List (List (List Nat))) (k : Nat), (∀ ws ∈ recs, Good ws) → k ≤ (flat recs).length → readT ((flat recs).take k) = (recs.take (cnt recs k), decide (0 < rem recs k))
  | [], k, _, hk => by
    have : k = 0 := by simpa [flat] using hk
    subst this
    exact readT_nil
  | r :: rs, k, hg, hk => by
    have hr := hg r List.mem_cons_self
    have e : flat (r :: rs) = wl r ++ flat rs := rfl
    rw [e] at hk ⊢
    rw [List.length_append] at hk
    by_cases h : (wl r).length ≤ k
    · have ih := read_prefix rs (k - (wl r).length) (fun ws hw => hg ws (List.mem_cons_of_mem _ hw)) (by omega)
      rw [List.take_append, List.take_of_length_le h]
      have e2 : wl r ++ (flat rs).take (k - (wl r).length) = lineL r ++ 10 :: (flat rs).take (k - (wl r).length) := by simp [wl]
      rw [e2, readT_good (line_no10 hr) (parse_line hr), ih]
      have c1 : cnt (r :: rs) k = cnt rs (k - (wl r).length) + 1 := by rw [cnt, if_pos h]
      have c2 : rem (r :: rs) k = rem rs (k - (wl r).length) := by rw [rem, if_pos h]
      rw [c1, c2, List.take_succ_cons]
    · have hlt : k ≤ (lineL r).length := by
        unfold wl at h
        rw [List.length_append, List.length_singleton] at h
        omega
      have e3 : (wl r ++ flat rs).take k = (lineL r).take k := by
        rw [List.take_append, show k - (wl r).length = 0 by omega, List.take_zero, List.append_nil]
        unfold wl
        rw [List.take_append, show k - (lineL r).length = 0 by omega, List.take_zero, List.append_nil]
      rw [e3, readT_free fun hm => line_no10 hr (List.mem_of_mem_take hm)]
      have c1 : cnt (r :: rs) k = 0 := by rw [cnt, if_neg h]
      have c2 : rem (r :: rs) k = k := by rw [rem, if_neg h]
      rw [c1, c2, List.take_zero]
      have hl : 0 < (lineL r).length := by unfold lineL; rw [bodyL_len]; omega
      congr 1
      by_cases h0 : k = 0
      · subst h0; simp
      · have : ((lineL r).take k) ≠ [] := fun z => by
          have := congrArg List.length z
          rw [List.length_take, List.length_nil] at this
          omega
        cases q : (lineL r).take k with
        | nil => exact absurd q this
        | cons a b => simp; omega
def endsL (k0 : Nat) : List (List (List Nat)) → List Nat
  | [] => [k0]
  | r :: rs => k0 :: endsL (k0 + (wl r).length) rs
theorem endsL_ge : ∀ (recs : List (List (List Nat))) (k0 : Nat), ∀ e ∈ endsL k0 recs, k0 ≤ e ∧ e ≤ k0 + (flat recs).length
  | [], k0, e, h => by rw [List.mem_singleton.mp h]; omega
  | r :: rs, k0, e, h => by
    have e1 : (flat (r :: rs)).length = (wl r).length + (flat rs).length := by
      show (wl r ++ flat rs).length = _
      rw [List.length_append]
    rcases List.mem_cons.mp h with rfl | h
    · omega
    · have := endsL_ge rs _ e h
      omega
theorem ends_cnt : ∀ (recs : List (List (List Nat))) (k0 k : Nat), ((endsL k0 recs).filter (fun e => decide (e ≤ k0 + k))).length = cnt recs k + 1
  | [], k0, k => by simp [endsL, cnt]
  | r :: rs, k0, k => by
    unfold endsL cnt
    rw [List.filter_cons_of_pos (by simp), List.length_cons]
    by_cases h : (wl r).length ≤ k
    · rw [if_pos h]
      have ih := ends_cnt rs (k0 + (wl r).length) (k - (wl r).length)
      rw [show k0 + (wl r).length + (k - (wl r).length) = k0 + k by omega] at ih
      rw [ih]
    · rw [if_neg h]
      have : (endsL (k0 + (wl r).length) rs).filter (fun e => decide (e ≤ k0 + k)) = [] := by
        rw [List.filter_eq_nil_iff]
        intro e he
        have := (endsL_ge rs _ e he).1
        simp
        omega
      rw [this]
      rfl
theorem rem_le : ∀ (recs : List (List (List Nat))) (k : Nat), rem recs k ≤ k
  | [], k => Nat.le_refl _
  | r :: rs, k => by
    unfold rem
    split
    · have := rem_le rs (k - (wl r).length)
      omega
    · omega
theorem cnt_le : ∀ (recs : List (List (List Nat))) (k : Nat), cnt recs k ≤ recs.length
  | [], k => Nat.le_refl _
  | r :: rs, k => by
    unfold cnt
    split
    · have := cnt_le rs (k - (wl r).length)
      simp
      omega
    · omega
theorem ends_at : ∀ (recs : List (List (List Nat))) (k0 k : Nat), (endsL k0 recs)[cnt recs k]? = some (k0 + k - rem recs k)
  | [], k0, k => by simp [endsL, cnt, rem]
  | r :: rs, k0, k => by
    unfold endsL cnt rem
    by_cases h : (wl r).length ≤ k
    · rw [if_pos h, if_pos h, List.getElem?_cons_succ, ends_at rs]
      congr 1
      omega
    · rw [if_neg h, if_neg h]
      simp
/-- the records that stand in a list -/
inductive RecIn (L : List Itm) : List D → List (List (List Nat)) → Prop
  | nil : RecIn L [] []
  | cons {a : Addr} {ws : List (List Nat)} {rds : List D} {recs : List (List (List Nat))} (k : Itm.l a (txts ws) ∈ L) (r : RecIn L rds recs) : RecIn L (.ref a :: rds) (ws :: recs)
theorem RecIn.mono {L L' : List Itm} {rds : List D} {recs : List (List (List Nat))} (h : RecIn L rds recs) (m : ∀ it ∈ L, it ∈ L') : RecIn L' rds recs := by
  induction h with
  | nil => exact .nil
  | cons k r ih => exact .cons (m _ k) ih
theorem RecIn.len {L : List Itm} {rds : List D} {recs : List (List (List Nat))} (h : RecIn L rds recs) : rds.length = recs.length := by
  induction h with
  | nil => rfl
  | cons k r ih => simp [ih]
theorem RecIn.get {L : List Itm} {rds : List D} {recs : List (List (List Nat))} (h : RecIn L rds recs) : ∀ {i : Nat} {d : D}, rds[i]? = some d → ∃ a ws, d = .ref a ∧ recs[i]? = some ws ∧ keepL a (txts ws) L := by
  induction h with
  | nil => intro i d e; simp at e
  | cons k r ih =>
    intro i d e
    cases i with
    | zero =>
      simp at e
      exact ⟨_, _, e.symm, by simp, .inl k⟩
    | succ i =>
      rw [List.getElem?_cons_succ] at e
      obtain ⟨a, ws, h1, h2, h3⟩ := ih e
      exact ⟨a, ws, h1, by rw [List.getElem?_cons_succ]; exact h2, h3⟩
theorem RecIn.snoc {L : List Itm} {rds : List D} {recs : List (List (List Nat))} (h : RecIn L rds recs) {a : Addr} {ws : List (List Nat)} (k : Itm.l a (txts ws) ∈ L) : RecIn L (rds ++ [.ref a]) (recs ++ [ws]) := by
  induction h with
  | nil => exact .cons k .nil
  | cons k' r ih => exact .cons k' ih
theorem lv_strs (n : Nat) (ws : List (List Nat)) (h : ws.length ≤ 1000000) : Lv (n + 1) (recD ws) := .tup (fun d hd => by
  obtain ⟨w, _, rfl⟩ := List.mem_map.mp hd
  exact .str _ _) (by simpa using h)
theorem lv_res {q : List (List (List Nat)) × Bool} (h : ∀ ws ∈ q.1, ws.length ≤ 1000000) (h2 : q.1.length ≤ 1000000) : Lv 3 (resD q) := .tup (fun d hd => by
  rcases List.mem_cons.mp hd with rfl | hd
  · exact .tup (fun e he => by
      obtain ⟨ws, hw, rfl⟩ := List.mem_map.mp he
      exact lv_strs 0 ws (h ws hw)) (by simpa using h2)
  · rw [List.mem_singleton.mp hd]; exact .bl _ _) (by show 2 ≤ 1000000; decide)
theorem RecIn.rep {L : List Itm} {a : Addr} {ws : List (List Nat)} (k : Itm.l a (txts ws) ∈ L) : ∀ n : Nat, RecIn L (List.replicate n (.ref a)) (List.replicate n ws)
  | 0 => .nil
  | n + 1 => .cons k (RecIn.rep k n)
theorem flat_len : ∀ (recs : List (List (List Nat))) (c : Nat), (∀ ws ∈ recs, (wl ws).length ≤ c) → (flat recs).length ≤ recs.length * c
  | [], c, _ => by simp [flat]
  | r :: rs, c, h => by
    have ih := flat_len rs c fun ws hw => h ws (List.mem_cons_of_mem _ hw)
    have h1 := h r List.mem_cons_self
    show (wl r ++ flat rs).length ≤ _
    rw [List.length_append, List.length_cons, Nat.add_mul]
    omega
theorem flat_rep (ws : List (List Nat)) : ∀ n : Nat, (flat (List.replicate n ws)).length = n * (wl ws).length
  | 0 => by simp [flat]
  | n + 1 => by
    have ih := flat_rep ws n
    show (wl ws ++ flat (List.replicate n ws)).length = _
    rw [List.length_append, ih, Nat.add_mul]
    omega
abbrev nums (ks : List Nat) : List D := ks.map fun k => D.int (k : Nat)
def sp__law_cut : DSpec := fun ds L P _ => ∃ (pr pe : Addr) (rds : List D) (recs : List (List (List Nat))) (k : Nat), ds = [.ref pr, .ref pe, .str (S (flat recs)), .int (k : Nat)] ∧ keepL pr rds L ∧ RecIn L rds recs ∧ keepL pe (nums (endsL 0 recs)) L ∧
  (∀ ws ∈ recs, Good ws) ∧ (flat recs).length ≤ 20000 ∧ recs.length ≤ 20000 ∧ k ≤ (flat recs).length ∧ P (.bl true) L
theorem filter_take_snoc {l : List Nat} {i e : Nat} {p : Nat → Bool} (h : l[i]? = some e) : (l.take (i + 1)).filter p = (l.take i).filter p ++ if p e = true then [e] else [] := by
  rw [take_snoc h, List.filter_append]
  congr 1
  by_cases hp : p e = true
  · rw [List.filter_cons_of_pos hp, if_pos hp]; rfl
  · rw [List.filter_cons_of_neg hp, if_neg hp]; rfl
theorem endsL_len : ∀ (recs : List (List (List Nat))) (k0 : Nat), (endsL k0 recs).length = recs.length + 1
  | [], _ => rfl
  | r :: rs, k0 => by show (endsL _ rs).length + 1 = _; rw [endsL_len rs]; rfl
theorem ints_get {ks : List Nat} {i : Nat} {d : D} (h : (nums ks)[i]? = some d) : ∃ k, ks[i]? = some k ∧ d = .int (k : Nat) := by
  unfold nums at h
  rw [List.getElem?_map] at h
  cases e : ks[i]? with
  | none => rw [e] at h; cases h
  | some c => rw [e] at h; cases h; exact ⟨c, rfl, rfl⟩
theorem ok__law_cut {P : Program} {w : World} {K : PySem.W.Frag} {mg : Str → Option Value} {base : Heap} (T : Tx K mg) : FnOk P w K mg base CX0 6 T.a__law_cut T.d__law_cut ["_law_records", "_law_ends", "_law_text", "_law_keep"] (upSp K sp__law_cut) := by
  refine fn_d T.F__law_cut sc__law_cut ?_ fun cdv A outer s0 H E hr => ⟨_, (dss_cons (ds_set 4 sc__law_cut.nd (d_sub (d_len T.n_len (da_cons (d_lc [("_law_end", 8)] rfl sc__law_cut.nd (di_list (d_var 1)) (blkOk_by (by rfl)) (fun _ _ _ _ _ => dgw_name 8 sc__law_cut.nd (by decide)) (fun _ _ _ _ _ => dts_one (dt_le (d_var 8) (d_var 3))) (fun _ _ _ _ _ => (d_var 8))) da_nil)) d_int))
    (dss_cons (ds_setLc [("_law_words_here", 7)] 5 rfl sc__law_cut.nd (di_list (d_slice (d_var 0) do_none (do_some (d_var 4)))) (blkOk_by (by rfl)) (fun _ _ _ _ _ => dgw_name 7 sc__law_cut.nd (by decide)) (fun _ _ _ _ _ => dts_nil) (fun _ _ _ _ _ => (d_tupleC T.n_tuple (da_cons (d_var 7) da_nil))) (sw_true rfl rfl rfl (by decide +kernel)))
    (dss_cons (ds_set 6 sc__law_cut.nd (d_tup (da_cons (d_tupleC T.n_tuple (da_cons (d_var 5) da_nil)) (da_cons (d_gt (d_var 3) (d_ix (d_var 1) (d_var 4))) da_nil))))
    (dss_one (ds_ret (d_call (ok_same T 3) (hr.mono (by decide)) T.g__law_same T.F__law_same.kp (bi__law_same T) (da_cons (d_call (ok_read_records T) (hr.mono (by decide)) T.g_read_records T.F_read_records.kp (bi_read_records T) (da_cons (d_slice (d_var 2) do_none (do_some (d_var 3))) da_nil)) (da_cons (d_var 6) da_nil)))))))), ?_⟩
  · rintro ds L P PX ⟨_, _, _, _, _, rfl, _⟩
    rfl
  · rintro ds L P PX ⟨pr, pe, rds, recs, n, rfl, kr, ri, ke, hg, hz1, hz2, hn, k⟩
    have hz := sizeLine_eq
    have hlen := ri.len
    have hcl := cnt_le recs n
    refine st_is (ρ := [some _, some _, some _, some _, none, none, none, none, none]) rfl ?_
    walk_at "ss"
    intro r
    refine ⟨fun i L' => L' = .l r (nums (((endsL 0 recs).take i).filter (fun e => decide (e ≤ 0 + n)))) :: L, rfl, ?_, ?_, ?_⟩
    · rintro _ L' _ rfl
      exact ke.cons _
    · rintro i d L' hd rfl
      obtain ⟨e, hc, rfl⟩ := ints_get hd
      have hfl : (nums (((endsL 0 recs).take i).filter (fun e => decide (e ≤ 0 + n)))).length < sizeLine := by
        rw [List.length_map]
        have := List.length_filter_le (fun e => decide (e ≤ 0 + n)) ((endsL 0 recs).take i)
        rw [List.length_take, endsL_len] at this
        omega
      walk_at "ss"
      walk_at "wipe"
      walk_at "ss"
      refine s_d (fun h => ?_) fun h => ?_
      · walk_at "ss"
        refine v_pull .here ⟨hfl, _, .refl _, ?_⟩
        rw [filter_take_snoc hc, if_pos (by simp; omega)]
        simp
      · refine ⟨_, .refl _, ?_⟩
        rw [filter_take_snoc hc, if_neg (by simp; omega), List.append_nil]
    · rintro L' rfl
      have e1 : ((endsL 0 recs).take (nums (endsL 0 recs)).length) = endsL 0 recs := by rw [List.length_map, List.take_length]
      rw [e1]
      walk_at "ss"
      rw [List.length_map, ends_cnt]
      have e2 : (((cnt recs n + 1 : Nat) : Int) - 1) = ((cnt recs n : Nat) : Int) := by omega
      rw [e2]
      refine v_slL (ds := rds) (kr.cons _) ?_
      rw [cutD_to (by omega), Int.toNat_natCast]
      intro s
      walk_at "ss"
      intro g
      have ri2 : RecIn (.l s (rds.take (cnt recs n)) :: .l r (nums ((endsL 0 recs).filter fun e => decide (e ≤ 0 + n))) :: L) rds recs := ri.mono fun it h => .tail _ (.tail _ h)
      refine ⟨fun i L' => L' = .l g (((recs.take (cnt recs n)).take i).map recD) :: .l s (rds.take (cnt recs n)) :: .l r (nums ((endsL 0 recs).filter fun e => decide (e ≤ 0 + n))) :: L, rfl, ?_, ?_, ?_⟩
      · rintro _ L' _ rfl
        exact .inl (by simp)
      · rintro i d L' hd rfl
        have hi : i < cnt recs n := by
          have := (List.getElem?_eq_some_iff.mp hd).1
          rw [List.length_take] at this
          omega
        rw [List.getElem?_take_of_lt hi] at hd
        obtain ⟨a, ws, rfl, hw, ka⟩ := ri.get hd
        walk_at "ss"
        walk_at "wipe"
        walk_at "ss"
        refine v_pull .here ⟨?_, _, .refl _, ?_⟩
        · rw [List.length_map, List.length_take, List.length_take]
          omega
        · have hw2 : (recs.take (cnt recs n))[i]? = some ws := by rw [List.getElem?_take_of_lt hi]; exact hw
          have e3 : (recs.take (cnt recs n)).take (i + 1) = (recs.take (cnt recs n)).take i ++ [ws] := take_snoc hw2
          rw [e3, List.map_append]
          rfl
      · rintro L' rfl
        have e4 : ((recs.take (cnt recs n)).take (rds.take (cnt recs n)).length) = recs.take (cnt recs n) := by
          rw [List.length_take, hlen, List.take_take]
          congr 1
          omega
        rw [e4]
        walk_at "ss"
        have hat := ends_at recs 0 n
        have hat2 : (nums (endsL 0 recs))[cnt recs n]? = some (.int ((0 + n - rem recs n : Nat) : Int)) := by
          unfold nums
          rw [List.getElem?_map, hat]
          rfl
        refine v_ixL (((ke.cons _).cons _).cons _) (DL.atI_nat hat2) ?_
        walk_at "ss"
        refine v_slS (by rw [S_len]; omega) ?_
        rw [cut_to (by omega), Int.toNat_natCast]
        walk_at "ss"
        have hrem := rem_le recs n
        have ef : decide (((0 + n - rem recs n : Nat) : Int) < (n : Int)) = decide (0 < rem recs n) := by
          by_cases h : 0 < rem recs n
          · rw [decide_eq_true h, decide_eq_true (by omega)]
          · rw [decide_eq_false h, decide_eq_false (by omega)]
        rw [ef]
        refine ⟨_, rfl, fun c hc => flat_code hg c (List.mem_of_mem_take hc), by rw [List.length_take]; omega, ?_⟩
        rw [read_prefix recs n hg hn]
        walk_at "ss"
        refine ⟨_, rfl, ?_, ?_⟩
        · exact lv_res (q := (recs.take (cnt recs n), decide (0 < rem recs n))) (fun ws hw => Nat.le_trans (hg ws (List.mem_of_mem_take hw)).2.2.1 (by decide)) (by rw [List.length_take]; omega)
        · exact ⟨_, .drop (.drop (.drop (.refl _))), k⟩
end K58

set_option maxRecDepth 100000
set_option maxHeartbeats 1000000
namespace K58
open PySem L2 DL SX TX

/-! ### law -/
def Good1 (ws : List (List Nat)) : Prop := ws ≠ [] ∧ isWs ws ∧ ws.length ≤ 6 ∧ costW ws ≤ 60 ∧ ∀ w ∈ ws, w.length ≤ 6
theorem Good1.good {ws : List (List Nat)} (h : Good1 ws) : Good ws := ⟨h.1, h.2.1, by have := h.2.2.1; omega, by have := h.2.2.2.1; omega⟩
theorem costW_le {ws : List (List Nat)} (h : ∀ w ∈ ws, w.length ≤ 6) : costW ws ≤ 7 * ws.length := by
  unfold costW
  induction ws with
  | nil => simp
  | cons w r ih =>
    have h1 := h w List.mem_cons_self
    have h2 := ih fun x hx => h x (List.mem_cons_of_mem _ hx)
    rw [List.map_cons, List.sum_cons, List.length_cons]
    omega
theorem good1_of {ws : List (List Nat)} (h0 : ws ≠ []) (h1 : isWs ws) (h2 : ws.length ≤ 6) (h3 : ∀ w ∈ ws, w.length ≤ 6) : Good1 ws := ⟨h0, h1, h2, by have := costW_le h3; omega, h3⟩
theorem isW_pad (n : Nat) (h : n < 10000) : isW (padL 4 n) = true := by
  have hl := padL_len (w := 4) (n := n) (by decide) h
  unfold isW
  rw [Bool.and_eq_true]
  refine ⟨List.all_eq_true.mpr fun c hc => decide_eq_true ?_, ?_⟩
  · have h1 := padL_digits c hc
    have : ∀ d : Nat, d < 10 → 48 + d ∈ chars := by decide
    have h2 := this (c - 48) (by omega)
    rwa [show 48 + (c - 48) = c by omega] at h2
  · cases q : padL 4 n with
    | nil => rw [q] at hl; cases hl
    | cons a b => rfl
theorem sum_rep (k : Nat) : ∀ n : Nat, (List.replicate n k).sum = n * k
  | 0 => by simp
  | n + 1 => by rw [List.replicate_succ, List.sum_cons, sum_rep k n, Nat.add_mul]; omega
theorem rep_flat {d : D} : ∀ n : Nat, (List.replicate n [d]).flatten = List.replicate n d
  | 0 => rfl
  | n + 1 => by rw [List.replicate_succ, List.flatten_cons, rep_flat n]; rfl
theorem joinL_nil : ∀ parts : List (List Nat), TL.joinL [] parts = parts.flatten
  | [] => rfl
  | [p] => by simp [TL.joinL]
  | p :: q :: r => by
    show p ++ ([] ++ TL.joinL [] (q :: r)) = _
    rw [joinL_nil (q :: r)]
    simp
theorem endsL_snoc (r : List (List Nat)) : ∀ (recs : List (List (List Nat))) (k0 : Nat), endsL k0 (recs ++ [r]) = endsL k0 recs ++ [k0 + (flat recs).length + (wl r).length]
  | [], k0 => by simp [endsL, flat]
  | x :: recs, k0 => by
    show k0 :: endsL (k0 + (wl x).length) (recs ++ [r]) = k0 :: (endsL (k0 + (wl x).length) recs ++ _)
    rw [endsL_snoc r recs]
    have e : (flat (x :: recs)).length = (wl x).length + (flat recs).length := by
      show (wl x ++ flat recs).length = _
      rw [List.length_append]
    rw [e]
    congr 4
    omega
theorem endsL_last : ∀ (recs : List (List (List Nat))) (k0 : Nat), ∃ ini, endsL k0 recs = ini ++ [k0 + (flat recs).length]
  | [], k0 => ⟨[], by simp [endsL, flat]⟩
  | x :: recs, k0 => by
    obtain ⟨ini, h⟩ := endsL_last recs (k0 + (wl x).length)
    refine ⟨k0 :: ini, ?_⟩
    have e : (flat (x :: recs)).length = (wl x).length + (flat recs).length := by
      show (wl x ++ flat recs).length = _
      rw [List.length_append]
    show k0 :: endsL (k0 + (wl x).length) recs = _
    rw [h, e, List.cons_append, Nat.add_assoc]
theorem readI_le (c : Nat) : ∀ (ini : List (List Nat)) (last : List Nat), (∀ l ∈ ini, l.length ≤ c) → (readI ini last).1.length ≤ ini.length ∧ ∀ ws ∈ (readI ini last).1, ws.length ≤ c + 1
  | [], last, _ => by simp [readI]
  | l :: r, last, h => by
    have hl := h l List.mem_cons_self
    obtain ⟨h1, h2⟩ := readI_le c r last fun x hx => h x (List.mem_cons_of_mem _ hx)
    cases hp : parseL l with
    | none =>
      rw [readI_none hp]
      simp
    | some ws =>
      rw [readI_some hp]
      refine ⟨by simp; exact h1, fun x hx => ?_⟩
      rcases List.mem_cons.mp hx with rfl | hx
      · unfold parseL at hp
        split at hp
        · cases hp
          have h3 := (spl1_len (c := 32) _ (beforeSp l) (Nat.le_refl _)).1
          have h4 := (beforeSp_len l).1
          show (TL.spl [32] 0 [] (beforeSp l)).length ≤ _
          omega
        · cases hp
      · exact h2 x hx
theorem lv_read {t : List Nat} (h : t.length ≤ 10000) : Lv 3 (resD (readT t)) := by
  obtain ⟨ini, last, e⟩ := snoc_of (spl_ne [10] 0 [] t)
  have er : readT t = readI ini last := by
    unfold readT
    rw [e]
    simp
  obtain ⟨h1, h2⟩ := spl1_len (c := 10) _ t (Nat.le_refl _)
  rw [e] at h1 h2
  have hc : ∀ l ∈ ini, l.length ≤ 10000 := fun l hl => by
    have h3 : ∀ xs : List (List Nat), l ∈ xs → l.length ≤ (xs.map List.length).sum := fun xs => by
      induction xs with
      | nil => intro h; cases h
      | cons x xs ih =>
        intro h
        rw [List.map_cons, List.sum_cons]
        rcases List.mem_cons.mp h with rfl | h
        · omega
        · have := ih h; omega
    have := h3 (ini ++ [last]) (List.mem_append_left _ hl)
    omega
  obtain ⟨h4, h5⟩ := readI_le 10000 ini last hc
  rw [List.length_append, List.length_singleton] at h1
  rw [er]
  exact lv_res (fun ws hw => Nat.le_trans (h5 ws hw) (by decide)) (by omega)
theorem div_facts {n : Nat} (h : 6 ≤ n) : 0 ≤ (20000 : Int) / (n : Int) ∧ (((20000 : Int) / (n : Int)).toNat * n ≤ 20000 ∧ ((20000 : Int) / (n : Int)).toNat ≤ 4000) := by
  have e : (20000 : Int) / (n : Int) = ((20000 / n : Nat) : Int) := (Int.natCast_ediv 20000 n).symm
  rw [e, Int.toNat_natCast]
  refine ⟨Int.natCast_nonneg _, Nat.div_mul_le_self _ _, ?_⟩
  exact Nat.le_trans (Nat.div_le_div_left h (by decide)) (by decide)
/-- the script's law -/
def sp_law : DSpec := fun ds L P _ => ∃ (s : Addr) (ns : List Int), ds = [.ref s] ∧ L = [.s s (ns.map D.int)] ∧ ∀ L', P (.bl true) L'
abbrev Z13 : Rho := [none, none, none, none, none, none, none, none, none, none, none, none, none]
abbrev Z11 : Rho := [none, none, none, none, none, none, none, none, none, none, none]
abbrev R21 (sc p : Addr) (mode spot twin : Int) (t : Rho) : Rho := some (.ref sc) :: some (.ref p) :: some (.int mode) :: some (.int spot) :: some (.int twin) :: t
theorem ok_law {P : Program} {w : World} {K : PySem.W.Frag} {mg : Str → Option Value} {base : Heap} (T : Tx K mg) : FnOk P w K mg base CX0 7 T.a_law T.d_law ["_law_script"] (upSp K sp_law) := by
  refine fn_d T.F_law sc_law ?_ fun cdv A outer s0 H E hr => ⟨_, (dss_cons (ds_setLc [("_law_cell", 19)] 1 rfl sc_law.nd (di_list (d_slice (d_var 0) do_none (do_some d_int))) (blkOk_by (by rfl)) (fun _ _ _ _ _ => dgw_name 19 sc_law.nd (by decide)) (fun _ _ _ _ _ => dts_nil) (fun _ _ _ _ _ => (d_abs T.n_abs (da_cons (d_var 19) da_nil))) (sw_true rfl rfl rfl (by decide +kernel)))
    (dss_cons (ds_set 2 sc_law.nd (d_call (ok__law_draw T) (hr.mono (by decide)) T.g__law_draw T.F__law_draw.kp (bi__law_draw T) (da_cons (d_var 1) (da_cons d_int da_nil))))
    (dss_cons (ds_set 3 sc_law.nd (d_call (ok__law_draw T) (hr.mono (by decide)) T.g__law_draw T.F__law_draw.kp (bi__law_draw T) (da_cons (d_var 1) (da_cons d_int da_nil))))
    (dss_cons (ds_set 4 sc_law.nd (d_call (ok__law_draw T) (hr.mono (by decide)) T.g__law_draw T.F__law_draw.kp (bi__law_draw T) (da_cons (d_var 1) (da_cons d_int da_nil))))
    (dss_cons (ds_set 5 sc_law.nd (d_lst da_nil))
    (dss_cons (ds_for PassesOwn.never rfl (di_range1 (da_cons (d_mod (d_intC T.n_int (da_cons (d_add d_int (d_call (ok__law_draw T) (hr.mono (by decide)) T.g__law_draw T.F__law_draw.kp (bi__law_draw T) (da_cons (d_var 1) (da_cons d_int da_nil)))) da_nil)) d_int) da_nil) T.n_range) (dg_name 6 sc_law.nd) (dss_cons (ds_set 7 sc_law.nd (d_call (ok__law_words T) (hr.mono (by decide)) T.g__law_words T.F__law_words.kp (bi__law_words T) (da_cons (d_var 1) (da_cons (d_add d_int (d_mod (d_intC T.n_int (da_cons (d_add d_int (d_call (ok__law_draw T) (hr.mono (by decide)) T.g__law_draw T.F__law_draw.kp (bi__law_draw T) (da_cons (d_var 1) (da_cons d_int da_nil)))) da_nil)) d_int)) da_nil))))
    (dss_cons (ds_if (dt_eq hr.units (d_var 4) d_int) (dss_one (ds_expr (d_ml PySem.F.slot_list_insert PySem.F.type_list_insert mt_insert rm_insert (d_var 7) (da_cons d_int (da_cons (d_ms PySem.F.slot_str_zfill PySem.F.type_str_zfill mt_zfill rm_zfill (d_strI T.n_str (da_cons (d_call (ok__law_sum T) (hr.mono (by decide)) T.g__law_sum T.F__law_sum.kp (bi__law_sum T) (da_cons (d_ix (d_var 7) d_int) da_nil)) da_nil)) (da_cons d_int da_nil)) da_nil))))) dss_nil)
    (dss_one (ds_expr (d_ml PySem.F.slot_list_append PySem.F.type_list_append mt_append rm_append (d_var 5) (da_cons (d_var 7) da_nil)))))))
    (dss_cons (ds_set 8 sc_law.nd (d_ix (d_add (d_var 5) (d_lst (da_cons (d_lst (da_cons d_str da_nil)) da_nil))) d_int))
    (dss_cons (ds_if (dt_eq hr.units (d_var 2) d_int) (dss_cons (ds_set 9 sc_law.nd (d_slice (d_mul (d_var 8) d_int) do_none (do_some d_int)))
    (dss_one (ds_set 5 sc_law.nd (d_mul (d_lst (da_cons (d_var 9) da_nil)) (d_fdiv d_int (d_len T.n_len (da_cons (d_call (ok__law_line T) (hr.mono (by decide)) T.g__law_line T.F__law_line.kp (bi__law_line T) (da_cons (d_var 9) da_nil)) da_nil))))))) dss_nil)
    (dss_cons (ds_setLc [("_law_words_here", 7)] 10 rfl sc_law.nd (di_list (d_var 5)) (blkOk_by (by rfl)) (fun _ _ _ _ _ => dgw_name 7 sc_law.nd (by decide)) (fun _ _ _ _ _ => dts_nil) (fun _ _ _ _ _ => (d_call (ok__law_line T) (hr.mono (by decide)) T.g__law_line T.F__law_line.kp (bi__law_line T) (da_cons (d_var 7) da_nil))) (sw_true rfl rfl rfl (by decide +kernel)))
    (dss_cons (ds_for PassesOwn.never rfl (di_range1 (da_cons (d_min2 T.n_min (da_cons d_int (da_cons (d_len T.n_len (da_cons (d_var 5) da_nil)) da_nil))) da_nil) T.n_range) (dg_name 6 sc_law.nd) (dss_one (ds_if (dt_not (dt_truth (d_call (ok_same T 3) (hr.mono (by decide)) T.g__law_same T.F__law_same.kp (bi__law_same T) (da_cons (d_call (ok_write_record T) (hr.mono (by decide)) T.g_write_record T.F_write_record.kp (bi_write_record T) (da_cons (d_listC T.n_list (da_cons (d_ix (d_var 5) (d_var 6)) da_nil)) da_nil)) (da_cons (d_ix (d_var 10) (d_var 6)) da_nil))))) (dss_one (ds_ret d_bl)) dss_nil)))
    (dss_cons (ds_set 11 sc_law.nd (d_ms PySem.F.slot_str_join PySem.F.type_str_join mt_join rm_join d_str (da_cons (d_var 10) da_nil)))
    (dss_cons (ds_set 12 sc_law.nd (d_lst (da_cons d_int da_nil)))
    (dss_cons (ds_for PassesOwn.never rfl (di_list (d_var 10)) (dg_name 13 sc_law.nd) (dss_one (ds_expr (d_ml PySem.F.slot_list_append PySem.F.type_list_append mt_append rm_append (d_var 12) (da_cons (d_add (d_ix (d_var 12) (d_neg d_int)) (d_len T.n_len (da_cons (d_var 13) da_nil))) da_nil)))))
    (dss_cons (ds_set 14 sc_law.nd (d_mod (d_intC T.n_int (da_cons (d_var 3) da_nil)) (d_add (d_len T.n_len (da_cons (d_var 11) da_nil)) d_int)))
    (dss_cons (ds_set 15 sc_law.nd (d_listRg T.n_list T.n_range (d_add (d_len T.n_len (da_cons (d_var 11) da_nil)) d_int)))
    (dss_cons (ds_if (dt_eq hr.units (d_var 2) d_int) (dss_cons (ds_setLc [("_law_end", 20)] 16 rfl sc_law.nd (di_list (d_var 12)) (blkOk_by (by rfl)) (fun _ _ _ _ _ => dgw_name 20 sc_law.nd (by decide)) (fun _ _ _ _ _ => dts_one (dt_ge (d_var 20) (d_var 14))) (fun _ _ _ _ _ => (d_var 20)) (sw_true rfl rfl rfl (by decide +kernel)))
    (dss_one (ds_set 15 sc_law.nd (d_lst (da_cons (d_var 14) (da_cons (d_ix (d_var 16) d_int) (da_cons (d_max2 T.n_max (da_cons d_int (da_cons (d_sub (d_ix (d_var 16) d_int) d_int) da_nil))) da_nil))))))) dss_nil)
    (dss_cons (ds_for PassesOwn.never rfl (di_list (d_var 15)) (dg_name 17 sc_law.nd) (dss_one (ds_if (dt_not (dt_truth (d_call (ok__law_cut T) (hr.mono (by decide)) T.g__law_cut T.F__law_cut.kp (bi__law_cut T) (da_cons (d_var 5) (da_cons (d_var 12) (da_cons (d_var 11) (da_cons (d_var 17) da_nil))))))) (dss_one (ds_ret d_bl)) dss_nil)))
    (dss_cons (ds_set 18 sc_law.nd (d_add (d_slice (d_var 11) do_none (do_some (d_min2 T.n_min (da_cons (d_var 14) (da_cons d_int da_nil))))) (d_call (ok__law_line T) (hr.mono (by decide)) T.g__law_line T.F__law_line.kp (bi__law_line T) (da_cons (d_var 8) da_nil))))
    (dss_cons (ds_if (dt_not (dt_truth (d_call (ok_same T 3) (hr.mono (by decide)) T.g__law_same T.F__law_same.kp (bi__law_same T) (da_cons (d_call (ok_read_records T) (hr.mono (by decide)) T.g_read_records T.F_read_records.kp (bi_read_records T) (da_cons (d_var 18) da_nil)) (da_cons (d_call (ok__law_read T) (hr.mono (by decide)) T.g__law_read T.F__law_read.kp (bi__law_read T) (da_cons (d_var 18) da_nil)) da_nil))))) (dss_one (ds_ret d_bl)) dss_nil)
    (dss_one (ds_ret (d_call (ok__law_cut T) (hr.mono (by decide)) T.g__law_cut T.F__law_cut.kp (bi__law_cut T) (da_cons (d_var 5) (da_cons (d_var 12) (da_cons (d_var 11) (da_cons d_int da_nil)))))))))))))))))))))))))), ?_⟩
  · rintro ds L P PX ⟨_, _, rfl, _⟩
    rfl
  · rintro ds L P PX ⟨sc, cells, rfl, rfl, k⟩
    have hz := sizeLine_eq
    refine st_is (ρ := [some _, none, none, none, none, none, none, none, none, none, none, none, none, none, none, none, none, none, none, none, none]) rfl ?_
    refine s_seq ?_
    walk_at "tt"
    refine v_slL (ds := cells.map D.int) (.inr (by simp)) ?_
    rw [cutD_to (by decide)]
    intro c63
    walk_at "tt"
    intro p
    have e63 : (cells.map D.int).take (63 : Int).toNat = (cells.take 63).map D.int := by rw [List.map_take]; rfl
    rw [e63]
    refine ⟨fun i L' => L' = .l p ((((cells.take 63).take i).map fun x => if x < 0 then -x else x).map D.int) :: .l c63 ((cells.take 63).map D.int) :: [.s sc (cells.map D.int)], rfl, ?_, ?_, ?_⟩
    · rintro _ L' _ rfl
      exact .inl (by simp)
    · rintro i d L' hd rfl
      rw [List.getElem?_map] at hd
      cases hx : (cells.take 63)[i]? with
      | none => rw [hx] at hd; cases hd
      | some x =>
        rw [hx] at hd
        cases hd
        walk_at "ss"
        walk_at "wipe"
        walk_at "ss"
        refine v_pull .here ⟨?_, _, .refl _, ?_⟩
        · simp only [List.length_map, List.length_take]
          omega
        · rw [take_snoc hx]
          simp
    rintro L' rfl
    generalize hpool : (((cells.take 63).take ((cells.take 63).map D.int).length).map fun x => if x < 0 then -x else x) = pool
    have hp0 : ∀ n ∈ pool, 0 ≤ n := by
      rw [← hpool]
      intro n hn
      obtain ⟨x, _, rfl⟩ := List.mem_map.mp hn
      show 0 ≤ (if x < 0 then -x else x)
      split <;> omega
    have hpl : pool.length ≤ 63 := by
      rw [← hpool]
      simp only [List.length_map, List.length_take]
      omega
    walk_at "tt"
    refine s_seq ?_
    walk_at "tt"
    refine ⟨p, pool, 8, _, rfl, .here, hp0, hpl, by decide, by decide, fun mode pool1 hm hm8 hq1 hl1 => ?_⟩
    walk_at "tt"
    refine s_seq ?_
    walk_at "tt"
    refine ⟨p, pool1, 20160, _, rfl, .here, hq1, by omega, by decide, by decide, fun spot pool2 hs hs8 hq2 hl2 => ?_⟩
    walk_at "tt"
    refine s_seq ?_
    walk_at "tt"
    refine ⟨p, pool2, 2, _, rfl, .here, hq2, by omega, by decide, by decide, fun twin pool3 ht ht8 hq3 hl3 => ?_⟩
    walk_at "tt"
    refine s_seq ?_
    walk_at "tt"
    intro pr
    walk_at "tt"
    -- the records
    refine s_cut (fun ρ' L' => ∃ (o6 o7 : Option D) (rds : List D) (recs : List (List (List Nat))) (N : List Itm) (ns : List Int), ρ' = R21 sc p mode spot twin (some (.ref pr) :: o6 :: o7 :: Z13) ∧ L' = .l p (ns.map D.int) :: .l pr rds :: N ∧ RecIn N rds recs ∧ recs.length ≤ 6 ∧ ∀ ws ∈ recs, Good1 ws) ?_ ?_
    · walk_at "tt"
      refine ⟨p, pool3, 7, _, rfl, .there .here, hq3, by omega, by decide, by decide, fun x pool4 hx hx7 hq4 hl4 => ?_⟩
      walk_at "tt"
      refine v_I (by decide) ?_
      walk_at "tt"
      refine ⟨_, rfl, by omega, by omega, ?_⟩
      refine for_rg (fun i ρ' L' => ∃ (o6 o7 : Option D) (rds : List D) (recs : List (List (List Nat))) (N : List Itm) (ns : List Int), ρ' = R21 sc p mode spot twin (some (.ref pr) :: o6 :: o7 :: Z13) ∧ L' = .l p (ns.map D.int) :: .l pr rds :: N ∧ RecIn N rds recs ∧ recs.length = i ∧ (∀ ws ∈ recs, Good1 ws) ∧ (∀ n ∈ ns, 0 ≤ n) ∧ ns.length ≤ 63)
        ⟨_, _, _, [], _, pool4, rfl, rfl, .nil, rfl, by simp, hq4, by omega⟩ ?_ ?_
      · rintro i ρ' L' hi ⟨o6, o7, rds, recs, N, ns, rfl, rfl, ri, hr, hg, hn, hnl⟩
        have hrl := ri.len
        walk_at "tt"
        refine s_seq ?_
        walk_at "tt"
        refine ⟨p, ns, 5, _, rfl, .here, hn, hnl, by decide, by decide, fun x5 ns2 hx0 hx5 hn2 hl2 => ?_⟩
        walk_at "tt"
        refine v_I (by decide) ?_
        walk_at "tt"
        refine ⟨p, ns2, _, _, rfl, ⟨.here, hn2, by omega⟩, by omega, by omega, fun q ws ns3 hws hwl hw6 hn3 hl3 => ?_⟩
        have hne : ws ≠ [] := fun z => by rw [z] at hwl; simp at hwl; omega
        walk_at "tt"
        refine s_seq ?_
        walk_at "tt"
        have step : ∀ (ws' : List (List Nat)) (N' : List Itm), Good1 ws' → (∀ it ∈ N, it ∈ N') → Itm.l q (txts ws') ∈ N' → ∀ (M : Rho → List Itm → Prop), M = (fun ρ' L' => ∃ (o6 o7 : Option D) (rds : List D) (recs : List (List (List Nat))) (N : List Itm) (ns : List Int), ρ' = R21 sc p mode spot twin (some (.ref pr) :: o6 :: o7 :: Z13) ∧ L' = .l p (ns.map D.int) :: .l pr rds :: N ∧ RecIn N rds recs ∧ recs.length = i + 1 ∧ (∀ ws ∈ recs, Good1 ws) ∧ (∀ n ∈ ns, 0 ≤ n) ∧ ns.length ≤ 63) →
            M (R21 sc p mode spot twin (some (.ref pr) :: some (.int (0 + (i : Int))) :: some (.ref q) :: Z13)) (.l p (ns3.map D.int) :: .l pr (rds ++ [.ref q]) :: N') := by
          rintro ws' N' hg' hN kq M rfl
          refine ⟨_, _, _, recs ++ [ws'], N', ns3, rfl, rfl, (ri.mono hN).snoc kq, by simp [hr], fun y hy => ?_, hn3, hl3⟩
          rcases List.mem_append.mp hy with hy | hy
          · exact hg y hy
          · rw [List.mem_singleton.mp hy]; exact hg'
        refine s_d (fun h => ?_) fun h => ?_
        · walk_at "tt"
          obtain ⟨w0, wr, rfl⟩ := List.exists_cons_of_ne_nil hne
          have hw0 := hw6 w0 List.mem_cons_self
          have hwr : wr.length ≤ 5 := by
            rw [List.length_cons] at hwl
            omega
          refine v_ixL (ds := txts (w0 :: wr)) (x := .str (S w0)) (.inl (by simp)) (DL.atI_int (k := 0) rfl rfl) ?_
          walk_at "tt"
          refine ⟨w0, rfl, by omega, ?_⟩
          walk_at "tt"
          refine v_strI (log2_small (wsum_lt _)) ?_
          walk_at "tt"
          rw [show (toString ((wsum w0 : Nat) : Int) : Str) = S (TL.numL (wsum w0)) from num_S _]
          refine v_zfill (by decide) ?_
          rw [show ((4 : Int)) = ((4 : Nat) : Int) from rfl, zfill_eq]
          refine ⟨q, 1, _, rfl, rfl, txts (w0 :: wr), _, .here, by rw [List.length_map, List.length_cons]; omega, by decide, by decide, ?_⟩
          walk_at "tt"
          refine v_append (.there (.there .here)) (by omega) ?_
          refine ⟨_, ?_, step (w0 :: padL 4 (wsum w0) :: wr) (.l q (txts (w0 :: padL 4 (wsum w0) :: wr)) :: N) ?_ (fun it h => .tail _ h) List.mem_cons_self _ rfl⟩
          · refine .pull (.there (.there .here)) ?_
            exact .pull .here (.refl _)
          · refine good1_of (by simp) ?_ (by rw [List.length_cons, List.length_cons]; rw [List.length_cons] at hwl; omega) ?_
            · unfold isWs at hws ⊢
              rw [List.all_cons, Bool.and_eq_true] at hws
              rw [List.all_cons, List.all_cons, hws.1, hws.2, isW_pad _ (Nat.lt_trans (wsum_lt _) (by decide))]
              rfl
            · intro y hy
              rcases List.mem_cons.mp hy with rfl | hy
              · exact hw0
              · rcases List.mem_cons.mp hy with rfl | hy
                · rw [padL_len (by decide) (Nat.lt_trans (wsum_lt _) (by decide))]; decide
                · exact hw6 y (List.mem_cons_of_mem _ hy)
        · walk_at "tt"
          refine v_append (.there (.there .here)) (by omega) ?_
          refine ⟨_, ?_, step ws (.l q (txts ws) :: N) (good1_of hne hws (by omega) hw6) (fun it h => .tail _ h) List.mem_cons_self _ rfl⟩
          refine .pull (.there (.there .here)) ?_
          exact .pull .here (.refl _)
      · rintro ρ' L' ⟨o6, o7, rds, recs, N, ns, rfl, rfl, ri, hr, hg, _⟩
        exact ⟨o6, o7, rds, recs, N, ns, rfl, rfl, ri, by omega, hg⟩
    · rintro ρ' L' ⟨o6, o7, rds, recs, N, ns, rfl, rfl, ri, hr, hg⟩
      have hrl := ri.len
      have ri' : RecIn (.l p (ns.map D.int) :: .l pr rds :: N) rds recs := ri.mono fun it h => .tail _ (.tail _ h)
      dsimp only [R21, Z13]
      refine s_seq ?_
      walk_at "tt"
      intro a1
      walk_at "tt"
      intro a2
      walk_at "tt"
      have ea : ("a-1" : Str) = S [97, 45, 49] := by decide +kernel
      rw [ea]
      refine v_addL (ds := rds) (es := [.ref a1]) (by simp) (by simp) (by rw [List.length_singleton]; omega) ?_
      intro a3
      have hfirst : ∃ (f : Addr) (wf : List (List Nat)), (rds ++ [D.ref a1])[0]? = some (.ref f) ∧ Good1 wf ∧ ∀ L' : List Itm, (∀ it ∈ N, it ∈ L') → Itm.l a1 [.str (S [97, 45, 49])] ∈ L' → Itm.l f (txts wf) ∈ L' := by
        cases ri with
        | nil => exact ⟨a1, [[97, 45, 49]], rfl, good1_of (by simp) (by unfold isWs; decide) (by decide) (by decide), fun L' _ h => h⟩
        | @cons a ws rds recs ka r => exact ⟨a, ws, rfl, hg ws List.mem_cons_self, fun L' h _ => h _ ka⟩
      obtain ⟨f, wf, hf0, hgf, hkf⟩ := hfirst
      refine v_ixL (ds := rds ++ [.ref a1]) (.inl (by simp)) (DL.atI_int (k := 0) rfl hf0) ?_
      walk_at "set"
      -- many words
      refine s_cut (fun ρ' L' => ∃ (o6 o7 o9 : Option D) (pr : Addr) (rds : List D) (recs : List (List (List Nat))), ρ' = R21 sc p mode spot twin (some (.ref pr) :: o6 :: o7 :: some (.ref f) :: o9 :: Z11) ∧ keepL pr rds L' ∧ RecIn L' rds recs ∧ (∀ ws ∈ recs, Good ws) ∧ recs.length ≤ 4000 ∧ (flat recs).length ≤ 20000 ∧ Itm.l f (txts wf) ∈ L') ?_ ?_
      · walk_at "tt"
        refine s_d (fun h7 => ?_) fun h7 => ?_
        · refine s_seq ?_
          walk_at "tt"
          refine v_mulL (ds := txts wf) (hkf _ (fun it h => .tail _ (.tail _ (.tail _ (.tail _ (.tail _ h))))) (by simp)) (by decide) (by decide) (by have := hgf.2.2.1; rw [List.length_map, show (100 : Int).toNat = 100 from rfl]; omega) ?_
          intro a4
          walk_at "tt"
          refine v_slL (ds := (List.replicate (100 : Int).toNat (txts wf)).flatten) (.inl List.mem_cons_self) ?_
          rw [cutD_to (by decide)]
          intro a5
          walk_at "tt"
          have elarge : ((List.replicate (100 : Int).toNat (txts wf)).flatten).take (100 : Int).toNat = txts (((List.replicate 100 wf).flatten).take 100) := by
            show ((List.replicate 100 (txts wf)).flatten).take 100 = _
            unfold txts
            rw [List.map_take, List.map_flatten, List.map_replicate]
          rw [elarge]
          generalize hlg : ((List.replicate 100 wf).flatten).take 100 = lg
          have hmem : ∀ w ∈ lg, w ∈ wf := fun w hw => by
            rw [← hlg] at hw
            obtain ⟨l, hl, hw⟩ := List.mem_flatten.mp (List.mem_of_mem_take hw)
            rw [List.eq_of_mem_replicate hl] at hw
            exact hw
          have hlen : lg.length = 100 := by
            rw [← hlg, List.length_take, List.length_flatten, List.map_replicate]
            have h1 : 1 ≤ wf.length := List.length_pos_iff.mpr hgf.1
            rw [sum_rep]
            omega
          have hcost : costW lg ≤ 700 := by
            have := costW_le (ws := lg) fun w hw => hgf.2.2.2.2 w (hmem w hw)
            omega
          have hgl : Good lg := ⟨fun z => (by rw [z] at hlen; cases hlen), List.all_eq_true.mpr fun w hw => List.all_eq_true.mp hgf.2.1 w (hmem w hw), by omega, by omega⟩
          intro a6
          walk_at "tt"
          refine ⟨a5, lg, rfl, .inl (by simp), by omega, ?_⟩
          walk_at "tt"
          have hwl : (wl lg).length ≤ 706 ∧ 6 ≤ (wl lg).length := by
            have := join_len lg
            rw [wl_len]
            omega
          refine v_lenS (by show (S (wl lg)).length ≤ _; rw [S_len]; omega) ?_
          rw [show (S (lineL lg ++ [10])).length = (wl lg).length from S_len _]
          refine v_I ⟨by omega, by omega⟩ ?_
          walk_at "tt"
          obtain ⟨hn0, hn⟩ := div_facts hwl.2
          generalize hd : (20000 / ((wl lg).length : Int)) = dn at hn0 hn
          refine v_mulL (ds := [.ref a5]) (by simp) hn0 (by omega) (by rw [List.length_singleton, Nat.one_mul]; omega) ?_
          intro a7
          walk_at "tt"
          rw [rep_flat]
          refine ⟨_, _, _, a7, _, List.replicate dn.toNat lg, rfl, .inl List.mem_cons_self, .rep (by simp) _, fun ws hw => by rw [List.eq_of_mem_replicate hw]; exact hgl, ?_, ?_, ?_⟩
          · rw [List.length_replicate]
            exact hn.2
          · rw [flat_rep]
            exact hn.1
          · exact hkf _ (fun it h => by simp [h]) (by simp)
        · walk_at "tt"
          have hfl := flat_len recs 66 fun ws hw => by
            have h1 := join_len ws
            have h2 := (hg ws hw).2.2.2.1
            rw [wl_len]
            omega
          have hfl2 : recs.length * 66 ≤ 6 * 66 := Nat.mul_le_mul_right _ hr
          exact ⟨_, _, _, pr, rds, recs, rfl, .inl (by simp), ri.mono fun it h => by simp [h], fun ws hw => (hg ws hw).good, by omega, by omega, hkf _ (fun it h => by simp [h]) (by simp)⟩
      · rintro ρ' L2 ⟨o6, o7, o9, pr, rds, recs, rfl, kr, ri, hG, hrl2, hfl, kf⟩
        clear ri' hkf
        have hlen := ri.len
        have hwl : ∀ ws ∈ recs, (wl ws).length ≤ 1006 := fun ws hw => by
          have h1 := join_len ws
          have h2 := (hG ws hw).2.2.2
          rw [wl_len]
          omega
        dsimp only [R21, Z11]
        refine s_seq ?_
        walk_at "tt"
        intro ln
        refine ⟨fun i L' => L' = .l ln ((recs.take i).map fun ws => D.str (S (wl ws))) :: L2, rfl, ?_, ?_, ?_⟩
        · rintro _ L' _ rfl
          exact kr.cons _
        · rintro i d L' hd rfl
          obtain ⟨a, ws, rfl, hw, ka⟩ := ri.get hd
          have hwm := List.mem_of_getElem? hw
          walk_at "tt"
          walk_at "wipe"
          walk_at "tt"
          refine ⟨a, ws, rfl, ka.cons _, by have := (hG ws hwm).2.2.2; omega, ?_⟩
          refine v_pull .here ⟨?_, _, .refl _, ?_⟩
          · rw [List.length_map, List.length_take]
            omega
          · rw [take_snoc hw, List.map_append]
            rfl
        rintro L' rfl
        rw [hlen, List.take_length]
        generalize hL3 : (Itm.l ln (recs.map fun ws => D.str (S (wl ws))) :: L2) = L3
        have kl : keepL ln (recs.map fun ws => D.str (S (wl ws))) L3 := by rw [← hL3]; exact .inl List.mem_cons_self
        have kr3 : keepL pr rds L3 := by rw [← hL3]; exact kr.cons _
        have ri3 : RecIn L3 rds recs := by rw [← hL3]; exact ri.mono fun it h => .tail _ h
        have kf3 : Itm.l f (txts wf) ∈ L3 := by rw [← hL3]; exact .tail _ kf
        clear hL3 kr ri kf
        walk_at "tt"
        -- the lines are told
        refine s_seq ?_
        walk_at "tt"
        refine ⟨_, rfl, by split <;> omega, by split <;> omega, ?_⟩
        refine for_rg (fun i ρ' L' => (∃ o, ρ' = [some (.ref sc), some (.ref p), some (.int mode), some (.int spot), some (.int twin), some (.ref pr), o, o7, some (.ref f), o9, some (.ref ln), none, none, none, none, none, none, none, none, none, none]) ∧ L' = L3) ⟨⟨_, rfl⟩, rfl⟩ ?_ ?_
        · rintro i ρ' L' hi ⟨⟨o, rfl⟩, rfl⟩
          have hir : i < recs.length := by
            have h1 : (if (rds.length : Int) < 6 then (rds.length : Int) else 6) ≤ recs.length := by split <;> omega
            omega
          have hrd : rds[i]? = some (rds[i]'(by omega)) := by simp [show i < rds.length by omega]
          obtain ⟨a, ws, hra, hw, ka⟩ := ri3.get hrd
          rw [hra] at hrd
          have hg := hG ws (List.mem_of_getElem? hw)
          have hln : (recs.map fun ws => D.str (S (wl ws)))[i]? = some (.str (S (wl ws))) := by rw [List.getElem?_map, hw]; rfl
          walk_at "tt"
          refine v_ixL kr3 (DL.atI_int (k := i) (by omega) hrd) ?_
          walk_at "tt"
          refine v_listL ka ?_
          intro c
          walk_at "tt"
          refine ⟨c, ws, rfl, .inl List.mem_cons_self, by have := List.length_pos_iff.mpr hg.1; omega, hg.2.2.1, hg.2.1, by have := hg.2.2.2; omega, ?_⟩
          walk_at "tt"
          refine v_ixL (kl.cons _) (DL.atI_int (k := i) (by omega) hln) ?_
          walk_at "tt"
          refine ⟨_, rfl, .str _ _, ?_⟩
          walk_at "tt"
          exact ⟨_, .drop (.refl _), ⟨_, rfl⟩, rfl⟩
        rintro ρ' L' ⟨⟨o6, rfl⟩, rfl⟩
        refine s_seq ?_
        walk_at "tt"
        have ejl : (recs.map fun ws => D.str (S (wl ws))) = ((recs.map wl).map S).map D.str := by rw [List.map_map, List.map_map]; rfl
        rw [ejl] at kl
        rw [em_eq]
        refine v_join kl ?_ ?_
        · rw [SX.lens, S_len, List.length_nil, Nat.mul_zero, Nat.add_zero]
          have e : ((recs.map wl).map List.length).sum = (flat recs).length := by unfold flat; rw [List.length_flatten]
          rw [show ((recs.map wl).map (·.length)).sum = (flat recs).length from e]
          omega
        rw [← ejl] at kl
        rw [join_S, joinL_nil]
        rw [show (recs.map wl).flatten = flat recs from rfl]
        walk_at "tt"
        -- the ends
        refine s_seq ?_
        walk_at "tt"
        intro e
        walk_at "tt"
        refine s_seq ?_
        walk_at "tt"
        refine ⟨fun i ρ' L'' => (∃ o, ρ' = [some (.ref sc), some (.ref p), some (.int mode), some (.int spot), some (.int twin), some (.ref pr), o6, o7, some (.ref f), o9, some (.ref ln), some (.str (S (flat recs))), some (.ref e), o, none, none, none, none, none, none, none]) ∧ L'' = .l e (nums (endsL 0 (recs.take i))) :: L', ⟨⟨_, rfl⟩, rfl⟩, ?_, ?_, ?_⟩
        · rintro i ρ' L'' _ ⟨_, rfl⟩
          exact kl.cons _
        · rintro i d ρ' L'' hd ⟨⟨o, rfl⟩, rfl⟩
          rw [List.getElem?_map] at hd
          cases hw : recs[i]? with
          | none => rw [hw] at hd; cases hd
          | some ws =>
            rw [hw] at hd
            cases hd
            obtain ⟨ini, hini⟩ := endsL_last (recs.take i) 0
            have hwm := hwl ws (List.mem_of_getElem? hw)
            walk_at "tt"
            refine v_ixL (ds := nums (endsL 0 (recs.take i))) (x := .int ((0 + (flat (recs.take i)).length : Nat) : Int)) (.inl List.mem_cons_self) ?_ ?_
            · rw [hini]
              unfold nums
              rw [List.map_append]
              exact DL.atI_last _ _
            walk_at "tt"
            refine v_lenS (by rw [S_len]; omega) ?_
            rw [S_len]
            walk_at "tt"
            refine v_append .here (by rw [List.length_map, endsL_len, List.length_take]; omega) ?_
            refine ⟨_, .refl _, ⟨_, rfl⟩, ?_⟩
            rw [take_snoc hw, endsL_snoc]
            simp
        rintro ρ' L'' ⟨⟨o13, rfl⟩, rfl⟩
        rw [List.length_map, List.take_length]
        generalize hL4 : (Itm.l e (nums (endsL 0 recs)) :: L') = L4
        have ke : keepL e (nums (endsL 0 recs)) L4 := by rw [← hL4]; exact .inl List.mem_cons_self
        have kr4 : keepL pr rds L4 := by rw [← hL4]; exact kr3.cons _
        have ri4 : RecIn L4 rds recs := by rw [← hL4]; exact ri3.mono fun it h => .tail _ h
        have kf4 : Itm.l f (txts wf) ∈ L4 := by rw [← hL4]; exact .tail _ kf3
        clear hL4 kr3 ri3 kf3 kl
        refine s_seq ?_
        walk_at "tt"
        refine v_lenS (by rw [S_len]; omega) ?_
        rw [S_len]
        walk_at "tt"
        refine v_I (by omega) ?_
        have hkp : ∃ kp : Nat, spot % (((flat recs).length : Int) + 1) = (kp : Int) ∧ kp ≤ (flat recs).length := by
          have h1 := Int.emod_nonneg spot (b := ((flat recs).length : Int) + 1) (by omega)
          have h2 := Int.emod_lt_of_pos spot (b := ((flat recs).length : Int) + 1) (by omega)
          exact ⟨(spot % (((flat recs).length : Int) + 1)).toNat, by omega, by omega⟩
        obtain ⟨kp, ekp, hkp⟩ := hkp
        rw [ekp]
        walk_at "tt"
        refine s_seq ?_
        walk_at "tt"
        refine v_lenS (by rw [S_len]; omega) ?_
        rw [S_len]
        walk_at "tt"
        refine ⟨by omega, by omega, ?_⟩
        intro pp
        walk_at "tt"
        -- the places
        refine s_cut (fun ρ' L' => ∃ (o16 : Option D) (pp : Addr) (pl : List Nat), ρ' = [some (.ref sc), some (.ref p), some (.int mode), some (.int spot), some (.int twin), some (.ref pr), o6, o7, some (.ref f), o9, some (.ref ln), some (.str (S (flat recs))), some (.ref e), o13, some (.int (kp : Nat)), some (.ref pp), o16, none, none, none, none] ∧ keepL pp (nums pl) L' ∧ (∀ x ∈ pl, x ≤ (flat recs).length) ∧ keepL e (nums (endsL 0 recs)) L' ∧ keepL pr rds L' ∧ RecIn L' rds recs ∧ Itm.l f (txts wf) ∈ L') ?_ ?_
        · walk_at "tt"
          refine s_d (fun h7 => ?_) fun h7 => ?_
          · refine s_seq ?_
            walk_at "tt"
            intro b
            refine ⟨fun i L'' => L'' = .l b (nums (((endsL 0 recs).take i).filter (fun x => decide (kp ≤ x)))) :: .l pp (rgD 0 (((flat recs).length : Int) + 1).toNat) :: L4, rfl, ?_, ?_, ?_⟩
            · rintro _ L'' _ rfl
              exact (ke.cons _).cons _
            · rintro i d L'' hd rfl
              obtain ⟨x, hc, rfl⟩ := ints_get hd
              have hfl : (nums (((endsL 0 recs).take i).filter (fun x => decide (kp ≤ x)))).length < sizeLine := by
                rw [List.length_map]
                have := List.length_filter_le (fun x => decide (kp ≤ x)) ((endsL 0 recs).take i)
                rw [List.length_take, endsL_len] at this
                omega
              walk_at "tt"
              walk_at "wipe"
              walk_at "tt"
              refine s_d (fun h => ?_) fun h => ?_
              · walk_at "tt"
                refine v_pull .here ⟨hfl, _, .refl _, ?_⟩
                rw [filter_take_snoc hc, if_pos (by simp; omega)]
                simp
              · refine ⟨_, .refl _, ?_⟩
                rw [filter_take_snoc hc, if_neg (by simp; omega), List.append_nil]
            rintro L'' rfl
            have e1 : ((endsL 0 recs).take (nums (endsL 0 recs)).length) = endsL 0 recs := by rw [List.length_map, List.take_length]
            rw [e1]
            have hb : ∃ b0 br, (endsL 0 recs).filter (fun x => decide (kp ≤ x)) = b0 :: br ∧ b0 ≤ (flat recs).length := by
              obtain ⟨ini, hini⟩ := endsL_last recs 0
              have hm : (flat recs).length ∈ (endsL 0 recs).filter (fun x => decide (kp ≤ x)) := by
                rw [List.mem_filter, hini]
                exact ⟨by simp, by simpa using hkp⟩
              cases q : (endsL 0 recs).filter (fun x => decide (kp ≤ x)) with
              | nil => rw [q] at hm; cases hm
              | cons b0 br =>
                refine ⟨b0, br, rfl, ?_⟩
                have h1 : b0 ∈ (endsL 0 recs).filter (fun x => decide (kp ≤ x)) := by rw [q]; exact List.mem_cons_self
                have h2 := (endsL_ge recs 0 b0 (List.mem_filter.mp h1).1).2
                omega
            obtain ⟨b0, br, hbe, hb0⟩ := hb
            rw [hbe]
            walk_at "tt"
            refine v_ixL (ds := nums (b0 :: br)) (x := .int (b0 : Nat)) (.inl List.mem_cons_self) (DL.atI_int (k := 0) rfl rfl) ?_
            walk_at "tt"
            refine v_ixL (ds := nums (b0 :: br)) (x := .int (b0 : Nat)) (.inl List.mem_cons_self) (DL.atI_int (k := 0) rfl rfl) ?_
            walk_at "tt"
            intro pq
            walk_at "tt"
            have e3 : (if ((b0 : Nat) : Int) - 1 > 0 then ((b0 : Nat) : Int) - 1 else 0) = ((b0 - 1 : Nat) : Int) := by split <;> omega
            rw [e3]
            refine ⟨_, pq, [kp, b0, b0 - 1], rfl, .inl List.mem_cons_self, ?_, ((ke.cons _).cons _).cons _, ((kr4.cons _).cons _).cons _, ri4.mono fun it h => .tail _ (.tail _ (.tail _ h)), .tail _ (.tail _ (.tail _ kf4))⟩
            intro x hx
            simp at hx
            omega
          · walk_at "tt"
            refine ⟨_, pp, List.range ((flat recs).length + 1), rfl, .inl ?_, ?_, ke.cons _, kr4.cons _, ri4.mono fun it h => .tail _ h, .tail _ kf4⟩
            · have e5 : nums (List.range ((flat recs).length + 1)) = rgD 0 (((flat recs).length : Int) + 1).toNat := by
                unfold nums rgD
                rw [show (((flat recs).length : Int) + 1).toNat = (flat recs).length + 1 by omega]
                refine List.map_congr_left fun x _ => ?_
                rw [Int.zero_add]
              rw [e5]
              exact List.mem_cons_self
            · intro x hx
              have := List.mem_range.mp hx
              omega
        · rintro ρ' L5 ⟨o16, pp, pl, rfl, kp5, hpl5, ke5, kr5, ri5, kf5⟩
          refine s_seq ?_
          walk_at "tt"
          refine ⟨fun i ρ' L'' => (∃ o, ρ' = [some (.ref sc), some (.ref p), some (.int mode), some (.int spot), some (.int twin), some (.ref pr), o6, o7, some (.ref f), o9, some (.ref ln), some (.str (S (flat recs))), some (.ref e), o13, some (.int (kp : Nat)), some (.ref pp), o16, o, none, none, none]) ∧ L'' = L5, ⟨⟨_, rfl⟩, rfl⟩, ?_, ?_, ?_⟩
          · rintro i ρ' L'' _ ⟨_, rfl⟩
            exact kp5
          · rintro i d ρ' L'' hd ⟨⟨o, rfl⟩, rfl⟩
            obtain ⟨x, hx, rfl⟩ := ints_get hd
            walk_at "tt"
            refine ⟨pr, e, rds, recs, x, rfl, kr5, ri5, ke5, hG, hfl, by omega, hpl5 x (List.mem_of_getElem? hx), ?_⟩
            walk_at "tt"
            exact ⟨_, .refl _, ⟨_, rfl⟩, rfl⟩
          rintro ρ' L'' ⟨⟨o17, rfl⟩, rfl⟩
          refine s_seq ?_
          walk_at "tt"
          refine v_slS (by rw [S_len]; omega) ?_
          have emin : (if (300 : Int) < (kp : Int) then (300 : Int) else (kp : Int)) = ((min kp 300 : Nat) : Int) := by split <;> omega
          rw [emin, cut_to (by omega), Int.toNat_natCast]
          walk_at "tt"
          have hcf := hgf.2.2.2.1
          have hwf : (wl wf).length ≤ 66 := by
            have h1 := join_len wf
            rw [wl_len]
            omega
          refine ⟨f, wf, rfl, .inl kf5, by omega, ?_⟩
          have htk : ((flat recs).take (min kp 300)).length ≤ 300 := by rw [List.length_take]; omega
          refine v_addS (by rw [S_len, show (S (lineL wf ++ [10])).length = (wl wf).length from S_len _]; omega) ?_
          rw [show (S ((flat recs).take (min kp 300)) ++ S (lineL wf ++ [10]) : Str) = S ((flat recs).take (min kp 300) ++ wl wf) from S_cat _ _]
          generalize hlo : (flat recs).take (min kp 300) ++ wl wf = lo
          have hlo1 : lo.length ≤ 400 := by rw [← hlo, List.length_append]; omega
          have hlo2 : ∀ c ∈ lo, c < 1114112 := fun c hc => by
            rw [← hlo] at hc
            rcases List.mem_append.mp hc with hc | hc
            · exact flat_code hG c (List.mem_of_mem_take hc)
            · exact line_code hgf.2.1 c hc
          walk_at "tt"
          refine s_seq ?_
          walk_at "tt"
          refine ⟨lo, rfl, hlo2, by omega, ?_⟩
          walk_at "tt"
          refine ⟨lo, rfl, hlo2, by omega, ?_⟩
          walk_at "tt"
          refine ⟨_, rfl, lv_read (by omega), ?_⟩
          walk_at "tt"
          refine ⟨pr, e, rds, recs, 0, rfl, kr5, ri5, ke5, hG, hfl, by omega, by omega, ?_⟩
          exact ⟨_, .refl _, k _⟩
end K58

set_option maxRecDepth 100000
set_option maxHeartbeats 2000000
namespace K58
open PySem L2 DL SX TX
theorem all_mk {l : PySem.W.OpenLaw} {w : World} {K : PySem.W.Frag} {h : Heap} {mg : Str → Option Value} {fa f19 f20 f21 f22 f23 f24 f25 f26 f27 f28 f29 f30 f31 f32 f33 f34 f35 f36 : Addr} (X : K.In h) (G : h.Ns mainGlobals mg) (hfa : mg "law" = some (.ref fa))
    {od19 an19 od20 an20 od21 an21 od22 an22 od23 an23 od24 an24 od25 an25 od26 an26 od27 an27 od28 an28 od29 an29 od30 an30 od31 an31 od32 an32 od33 an33 od34 an34 od35 an35 od36 an36 : Option Addr} {sl19 sl20 sl21 sl22 sl23 sl24 sl25 sl26 sl27 sl28 sl29 sl30 sl31 sl32 sl33 sl34 sl35 sl36 : Array (Option Value)} {oc19 kV19 dc19 pm19 cd19 ct19 oc20 kV20 dc20 pm20 cd20 ct20 oc21 kV21 dc21 pm21 cd21 ct21 oc22 kV22 dc22 pm22 cd22 ct22 oc23 kV23 dc23 pm23 cd23 ct23 oc24 kV24 dc24 pm24 cd24 ct24 oc25 kV25 dc25 pm25 cd25 ct25 oc26 kV26 dc26 pm26 cd26 ct26 oc27 kV27 dc27 pm27 cd27 ct27 oc28 kV28 dc28 pm28 cd28 ct28 oc29 kV29 dc29 pm29 cd29 ct29 oc30 kV30 dc30 pm30 cd30 ct30 oc31 kV31 dc31 pm31 cd31 ct31 oc32 kV32 dc32 pm32 cd32 ct32 oc33 kV33 dc33 pm33 cd33 ct33 oc34 kV34 dc34 pm34 cd34 ct34 oc35 kV35 dc35 pm35 cd35 ct35 oc36 kV36 dc36 pm36 cd36 ct36 : Value} {t15 t16 t17 t18 : Tok}
    (a0 : PySem.W.nsIn K mainGlobals "len" = some none)
    (a1 : PySem.W.nsIn K mainGlobals "int" = some none)
    (a2 : PySem.W.nsIn K mainGlobals "range" = some none)
    (a3 : PySem.W.nsIn K mainGlobals "ord" = some none)
    (a4 : PySem.W.nsIn K mainGlobals "str" = some none)
    (a5 : PySem.W.nsIn K mainGlobals "list" = some none)
    (a6 : PySem.W.nsIn K mainGlobals "tuple" = some none)
    (a7 : PySem.W.nsIn K mainGlobals "isinstance" = some none)
    (a8 : PySem.W.nsIn K mainGlobals "bool" = some none)
    (a9 : PySem.W.nsIn K mainGlobals "sum" = some none)
    (a10 : PySem.W.nsIn K mainGlobals "all" = some none)
    (a11 : PySem.W.nsIn K mainGlobals "enumerate" = some none)
    (a12 : PySem.W.nsIn K mainGlobals "max" = some none)
    (a13 : PySem.W.nsIn K mainGlobals "min" = some none)
    (a14 : PySem.W.nsIn K mainGlobals "abs" = some none)
    (a15 : PySem.W.nsIn K mainGlobals "MOST_TEXT" = some (some (.int 20000 t15)))
    (a16 : PySem.W.nsIn K mainGlobals "DIVISOR" = some (some (.int 9973 t16)))
    (a17 : PySem.W.nsIn K mainGlobals "CHARACTERS" = some (some (.str "abcdefghijklmnopqrstuvwxyz0123456789-" t17)))
    (a18 : PySem.W.nsIn K mainGlobals "MOST_WORDS" = some (some (.int 100 t18)))
    (a19 : PySem.W.nsIn K mainGlobals "within" = some (some (.ref f19))) (l19 : K.lookup f19 = some ⟨oc19, od19, .func (PySem.W.fnOf "within" "within" (defArgs st_within) (defBody st_within) (defScope st_within) .none kV19 dc19 pm19 an19 cd19 ct19), sl19⟩) (c19 : PySem.W.codeIn K cd19 "within" = true) (k19 : PySem.W.keepIn K (.ref f19) = true)
    (a20 : PySem.W.nsIn K mainGlobals "text_look" = some (some (.ref f20))) (l20 : K.lookup f20 = some ⟨oc20, od20, .func (PySem.W.fnOf "text_look" "text_look" (defArgs st_text_look) (defBody st_text_look) (defScope st_text_look) .none kV20 dc20 pm20 an20 cd20 ct20), sl20⟩) (c20 : PySem.W.codeIn K cd20 "text_look" = true) (k20 : PySem.W.keepIn K (.ref f20) = true)
    (a21 : PySem.W.nsIn K mainGlobals "sum_of" = some (some (.ref f21))) (l21 : K.lookup f21 = some ⟨oc21, od21, .func (PySem.W.fnOf "sum_of" "sum_of" (defArgs st_sum_of) (defBody st_sum_of) (defScope st_sum_of) .none kV21 dc21 pm21 an21 cd21 ct21), sl21⟩) (c21 : PySem.W.codeIn K cd21 "sum_of" = true) (k21 : PySem.W.keepIn K (.ref f21) = true)
    (a22 : PySem.W.nsIn K mainGlobals "is_word" = some (some (.ref f22))) (l22 : K.lookup f22 = some ⟨oc22, od22, .func (PySem.W.fnOf "is_word" "is_word" (defArgs st_is_word) (defBody st_is_word) (defScope st_is_word) .none kV22 dc22 pm22 an22 cd22 ct22), sl22⟩) (c22 : PySem.W.codeIn K cd22 "is_word" = true) (k22 : PySem.W.keepIn K (.ref f22) = true)
    (a23 : PySem.W.nsIn K mainGlobals "write_record" = some (some (.ref f23))) (l23 : K.lookup f23 = some ⟨oc23, od23, .func (PySem.W.fnOf "write_record" "write_record" (defArgs st_write_record) (defBody st_write_record) (defScope st_write_record) .none kV23 dc23 pm23 an23 cd23 ct23), sl23⟩) (c23 : PySem.W.codeIn K cd23 "write_record" = true) (k23 : PySem.W.keepIn K (.ref f23) = true)
    (a24 : PySem.W.nsIn K mainGlobals "read_records" = some (some (.ref f24))) (l24 : K.lookup f24 = some ⟨oc24, od24, .func (PySem.W.fnOf "read_records" "read_records" (defArgs st_read_records) (defBody st_read_records) (defScope st_read_records) .none kV24 dc24 pm24 an24 cd24 ct24), sl24⟩) (c24 : PySem.W.codeIn K cd24 "read_records" = true) (k24 : PySem.W.keepIn K (.ref f24) = true)
    (a25 : PySem.W.nsIn K mainGlobals "records_in" = some (some (.ref f25))) (l25 : K.lookup f25 = some ⟨oc25, od25, .func (PySem.W.fnOf "records_in" "records_in" (defArgs st_records_in) (defBody st_records_in) (defScope st_records_in) .none kV25 dc25 pm25 an25 cd25 ct25), sl25⟩) (c25 : PySem.W.codeIn K cd25 "records_in" = true) (k25 : PySem.W.keepIn K (.ref f25) = true)
    (a26 : PySem.W.nsIn K mainGlobals "_line_of" = some (some (.ref f26))) (l26 : K.lookup f26 = some ⟨oc26, od26, .func (PySem.W.fnOf "_line_of" "_line_of" (defArgs st__line_of) (defBody st__line_of) (defScope st__line_of) .none kV26 dc26 pm26 an26 cd26 ct26), sl26⟩) (c26 : PySem.W.codeIn K cd26 "_line_of" = true) (k26 : PySem.W.keepIn K (.ref f26) = true)
    (a27 : PySem.W.nsIn K mainGlobals "_words_in" = some (some (.ref f27))) (l27 : K.lookup f27 = some ⟨oc27, od27, .func (PySem.W.fnOf "_words_in" "_words_in" (defArgs st__words_in) (defBody st__words_in) (defScope st__words_in) .none kV27 dc27 pm27 an27 cd27 ct27), sl27⟩) (c27 : PySem.W.codeIn K cd27 "_words_in" = true) (k27 : PySem.W.keepIn K (.ref f27) = true)
    (a28 : PySem.W.nsIn K mainGlobals "_law_draw" = some (some (.ref f28))) (l28 : K.lookup f28 = some ⟨oc28, od28, .func (PySem.W.fnOf "_law_draw" "_law_draw" (defArgs st__law_draw) (defBody st__law_draw) (defScope st__law_draw) .none kV28 dc28 pm28 an28 cd28 ct28), sl28⟩) (c28 : PySem.W.codeIn K cd28 "_law_draw" = true) (k28 : PySem.W.keepIn K (.ref f28) = true)
    (a29 : PySem.W.nsIn K mainGlobals "_law_same" = some (some (.ref f29))) (l29 : K.lookup f29 = some ⟨oc29, od29, .func (PySem.W.fnOf "_law_same" "_law_same" (defArgs st__law_same) (defBody st__law_same) (defScope st__law_same) .none kV29 dc29 pm29 an29 cd29 ct29), sl29⟩) (c29 : PySem.W.codeIn K cd29 "_law_same" = true) (k29 : PySem.W.keepIn K (.ref f29) = true)
    (a30 : PySem.W.nsIn K mainGlobals "_law_sum" = some (some (.ref f30))) (l30 : K.lookup f30 = some ⟨oc30, od30, .func (PySem.W.fnOf "_law_sum" "_law_sum" (defArgs st__law_sum) (defBody st__law_sum) (defScope st__law_sum) .none kV30 dc30 pm30 an30 cd30 ct30), sl30⟩) (c30 : PySem.W.codeIn K cd30 "_law_sum" = true) (k30 : PySem.W.keepIn K (.ref f30) = true)
    (a31 : PySem.W.nsIn K mainGlobals "_law_line" = some (some (.ref f31))) (l31 : K.lookup f31 = some ⟨oc31, od31, .func (PySem.W.fnOf "_law_line" "_law_line" (defArgs st__law_line) (defBody st__law_line) (defScope st__law_line) .none kV31 dc31 pm31 an31 cd31 ct31), sl31⟩) (c31 : PySem.W.codeIn K cd31 "_law_line" = true) (k31 : PySem.W.keepIn K (.ref f31) = true)
    (a32 : PySem.W.nsIn K mainGlobals "_law_word" = some (some (.ref f32))) (l32 : K.lookup f32 = some ⟨oc32, od32, .func (PySem.W.fnOf "_law_word" "_law_word" (defArgs st__law_word) (defBody st__law_word) (defScope st__law_word) .none kV32 dc32 pm32 an32 cd32 ct32), sl32⟩) (c32 : PySem.W.codeIn K cd32 "_law_word" = true) (k32 : PySem.W.keepIn K (.ref f32) = true)
    (a33 : PySem.W.nsIn K mainGlobals "_law_read" = some (some (.ref f33))) (l33 : K.lookup f33 = some ⟨oc33, od33, .func (PySem.W.fnOf "_law_read" "_law_read" (defArgs st__law_read) (defBody st__law_read) (defScope st__law_read) .none kV33 dc33 pm33 an33 cd33 ct33), sl33⟩) (c33 : PySem.W.codeIn K cd33 "_law_read" = true) (k33 : PySem.W.keepIn K (.ref f33) = true)
    (a34 : PySem.W.nsIn K mainGlobals "_law_words" = some (some (.ref f34))) (l34 : K.lookup f34 = some ⟨oc34, od34, .func (PySem.W.fnOf "_law_words" "_law_words" (defArgs st__law_words) (defBody st__law_words) (defScope st__law_words) .none kV34 dc34 pm34 an34 cd34 ct34), sl34⟩) (c34 : PySem.W.codeIn K cd34 "_law_words" = true) (k34 : PySem.W.keepIn K (.ref f34) = true)
    (a35 : PySem.W.nsIn K mainGlobals "_law_cut" = some (some (.ref f35))) (l35 : K.lookup f35 = some ⟨oc35, od35, .func (PySem.W.fnOf "_law_cut" "_law_cut" (defArgs st__law_cut) (defBody st__law_cut) (defScope st__law_cut) .none kV35 dc35 pm35 an35 cd35 ct35), sl35⟩) (c35 : PySem.W.codeIn K cd35 "_law_cut" = true) (k35 : PySem.W.keepIn K (.ref f35) = true)
    (a36 : PySem.W.nsIn K mainGlobals "law" = some (some (.ref f36))) (l36 : K.lookup f36 = some ⟨oc36, od36, .func (PySem.W.fnOf "law" "law" (defArgs st_law) (defBody st_law) (defScope st_law) .none kV36 dc36 pm36 an36 cd36 ct36), sl36⟩) (c36 : PySem.W.codeIn K cd36 "law" = true) (k36 : PySem.W.keepIn K (.ref f36) = true) :
    ∃ fd : FuncData, (∀ (s : Shared) (v : Value), BindsTo s fd ⟨[v], []⟩ [("_law_script", v)]) ∧ ∀ base : Heap, K.In base → base.Ns mainGlobals mg → FnOk l.prog w K mg base CX0 7 fa fd ["_law_script"] (upSp K sp_law) := by
  have e := hfa.symm.trans (PySem.W.mg_of X G a36)
  cases e
  let T : Tx K mg := { n_len := PySem.W.mg_none_of X G a0, n_int := PySem.W.mg_none_of X G a1, n_range := PySem.W.mg_none_of X G a2, n_ord := PySem.W.mg_none_of X G a3, n_str := PySem.W.mg_none_of X G a4, n_list := PySem.W.mg_none_of X G a5, n_tuple := PySem.W.mg_none_of X G a6, n_isinstance := PySem.W.mg_none_of X G a7, n_bool := PySem.W.mg_none_of X G a8, n_sum := PySem.W.mg_none_of X G a9, n_all := PySem.W.mg_none_of X G a10, n_enumerate := PySem.W.mg_none_of X G a11, n_max := PySem.W.mg_none_of X G a12, n_min := PySem.W.mg_none_of X G a13, n_abs := PySem.W.mg_none_of X G a14, t_MOST_TEXT := _, g_MOST_TEXT := PySem.W.mg_of X G a15, t_DIVISOR := _, g_DIVISOR := PySem.W.mg_of X G a16, t_CHARACTERS := _, g_CHARACTERS := PySem.W.mg_of X G a17, t_MOST_WORDS := _, g_MOST_WORDS := PySem.W.mg_of X G a18, a_within := _, d_within := _, F_within := fun_mk (st := st_within) l19 c19 k19, g_within := PySem.W.mg_of X G a19, a_text_look := _, d_text_look := _, F_text_look := fun_mk (st := st_text_look) l20 c20 k20, g_text_look := PySem.W.mg_of X G a20, a_sum_of := _, d_sum_of := _, F_sum_of := fun_mk (st := st_sum_of) l21 c21 k21, g_sum_of := PySem.W.mg_of X G a21, a_is_word := _, d_is_word := _, F_is_word := fun_mk (st := st_is_word) l22 c22 k22, g_is_word := PySem.W.mg_of X G a22, a_write_record := _, d_write_record := _, F_write_record := fun_mk (st := st_write_record) l23 c23 k23, g_write_record := PySem.W.mg_of X G a23, a_read_records := _, d_read_records := _, F_read_records := fun_mk (st := st_read_records) l24 c24 k24, g_read_records := PySem.W.mg_of X G a24, a_records_in := _, d_records_in := _, F_records_in := fun_mk (st := st_records_in) l25 c25 k25, g_records_in := PySem.W.mg_of X G a25, a__line_of := _, d__line_of := _, F__line_of := fun_mk (st := st__line_of) l26 c26 k26, g__line_of := PySem.W.mg_of X G a26, a__words_in := _, d__words_in := _, F__words_in := fun_mk (st := st__words_in) l27 c27 k27, g__words_in := PySem.W.mg_of X G a27, a__law_draw := _, d__law_draw := _, F__law_draw := fun_mk (st := st__law_draw) l28 c28 k28, g__law_draw := PySem.W.mg_of X G a28, a__law_same := _, d__law_same := _, F__law_same := fun_mk (st := st__law_same) l29 c29 k29, g__law_same := PySem.W.mg_of X G a29, a__law_sum := _, d__law_sum := _, F__law_sum := fun_mk (st := st__law_sum) l30 c30 k30, g__law_sum := PySem.W.mg_of X G a30, a__law_line := _, d__law_line := _, F__law_line := fun_mk (st := st__law_line) l31 c31 k31, g__law_line := PySem.W.mg_of X G a31, a__law_word := _, d__law_word := _, F__law_word := fun_mk (st := st__law_word) l32 c32 k32, g__law_word := PySem.W.mg_of X G a32, a__law_read := _, d__law_read := _, F__law_read := fun_mk (st := st__law_read) l33 c33 k33, g__law_read := PySem.W.mg_of X G a33, a__law_words := _, d__law_words := _, F__law_words := fun_mk (st := st__law_words) l34 c34 k34, g__law_words := PySem.W.mg_of X G a34, a__law_cut := _, d__law_cut := _, F__law_cut := fun_mk (st := st__law_cut) l35 c35 k35, g__law_cut := PySem.W.mg_of X G a35, a_law := _, d_law := _, F_law := fun_mk (st := st_law) l36 c36 k36, g_law := PySem.W.mg_of X G a36 }
  exact ⟨PySem.W.fnOf "law" "law" (defArgs st_law) (defBody st_law) (defScope st_law) .none kV36 dc36 pm36 an36 cd36 ct36, fun s v => .of_eq rfl, fun base _ _ => ok_law T⟩
end K58
open PySem PySem.W PyProof.Rows
set_option maxHeartbeats 0 in
theorem PySem.Challenge.cw_heldbest_k58_cut_records_holds : PySem.Challenge.rw_heldbest_k58_cut_records.Holds := by
  w_on; o_law; k_head; (case hw => w_witness2)
  k_fill
  refine L2.walk_of (l := PySem.Challenge.rw_heldbest_k58_cut_records) (n := 63) (k := 7) (x := "_law_script") (CX := fun _ => L2.CX0) (sp := fun w => DL.upSp _ K58.sp_law) rfl (by decide) rfl ⟨rfl, by decide, by decide⟩ (fun w h Y => PySem.W.kIn_of Y) ?F (fun _ _ a ns hl hO hS => DL.sp_script hO hS ⟨a, ns, rfl, rfl, fun _ => rfl⟩) (fun _ _ _ _ _ h => h)
  case F =>
    intro w mg fa h KX G hmg
    refine' K58.all_mk KX G hmg ?a0 ?a1 ?a2 ?a3 ?a4 ?a5 ?a6 ?a7 ?a8 ?a9 ?a10 ?a11 ?a12 ?a13 ?a14 ?a15 ?a16 ?a17 ?a18 ?a19 ?l19 ?c19 ?k19 ?a20 ?l20 ?c20 ?k20 ?a21 ?l21 ?c21 ?k21 ?a22 ?l22 ?c22 ?k22 ?a23 ?l23 ?c23 ?k23 ?a24 ?l24 ?c24 ?k24 ?a25 ?l25 ?c25 ?k25 ?a26 ?l26 ?c26 ?k26 ?a27 ?l27 ?c27 ?k27 ?a28 ?l28 ?c28 ?k28 ?a29 ?l29 ?c29 ?k29 ?a30 ?l30 ?c30 ?k30 ?a31 ?l31 ?c31 ?k31 ?a32 ?l32 ?c32 ?k32 ?a33 ?l33 ?c33 ?k33 ?a34 ?l34 ?c34 ?k34 ?a35 ?l35 ?c35 ?k35 ?a36 ?l36 ?c36 ?k36
    (case a0 => k_is)
    (case a1 => k_is)
    (case a2 => k_is)
    (case a3 => k_is)
    (case a4 => k_is)
    (case a5 => k_is)
    (case a6 => k_is)
    (case a7 => k_is)
    (case a8 => k_is)
    (case a9 => k_is)
    (case a10 => k_is)
    (case a11 => k_is)
    (case a12 => k_is)
    (case a13 => k_is)
    (case a14 => k_is)
    (case a15 => k_is)
    (case a16 => k_is)
    (case a17 => k_is)
    (case a18 => k_is)
    (case a19 => k_is)
    (case l19 => k_is)
    (case c19 => k_is)
    (case k19 => k_is)
    (case a20 => k_is)
    (case l20 => k_is)
    (case c20 => k_is)
    (case k20 => k_is)
    (case a21 => k_is)
    (case l21 => k_is)
    (case c21 => k_is)
    (case k21 => k_is)
    (case a22 => k_is)
    (case l22 => k_is)
    (case c22 => k_is)
    (case k22 => k_is)
    (case a23 => k_is)
    (case l23 => k_is)
    (case c23 => k_is)
    (case k23 => k_is)
    (case a24 => k_is)
    (case l24 => k_is)
    (case c24 => k_is)
    (case k24 => k_is)
    (case a25 => k_is)
    (case l25 => k_is)
    (case c25 => k_is)
    (case k25 => k_is)
    (case a26 => k_is)
    (case l26 => k_is)
    (case c26 => k_is)
    (case k26 => k_is)
    (case a27 => k_is)
    (case l27 => k_is)
    (case c27 => k_is)
    (case k27 => k_is)
    (case a28 => k_is)
    (case l28 => k_is)
    (case c28 => k_is)
    (case k28 => k_is)
    (case a29 => k_is)
    (case l29 => k_is)
    (case c29 => k_is)
    (case k29 => k_is)
    (case a30 => k_is)
    (case l30 => k_is)
    (case c30 => k_is)
    (case k30 => k_is)
    (case a31 => k_is)
    (case l31 => k_is)
    (case c31 => k_is)
    (case k31 => k_is)
    (case a32 => k_is)
    (case l32 => k_is)
    (case c32 => k_is)
    (case k32 => k_is)
    (case a33 => k_is)
    (case l33 => k_is)
    (case c33 => k_is)
    (case k33 => k_is)
    (case a34 => k_is)
    (case l34 => k_is)
    (case c34 => k_is)
    (case k34 => k_is)
    (case a35 => k_is)
    (case l35 => k_is)
    (case c35 => k_is)
    (case k35 => k_is)
    (case a36 => k_is)
    (case l36 => k_is)
    (case c36 => k_is)
    (case k36 => k_is)
