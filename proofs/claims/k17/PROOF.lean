import PyProof.Rows.All
import Wide.All
import OpenK.AllK
import Wide.FinOn
import HandS.ForMost
import HandS.ForExc
import KE.GoesMore
import HandS.Zip
import HandS.Zip0
import HandS.TupAny
import HandS.TupMul
import HandS.Wide
import HandS.IsInst
import HandS.Deep
import HandS.Conv
import HandS.Sort
import HandS.Style
import HandS.SetFor
import HandS.ExcIs
import HandS.Words
import PySem.Challenge.RW_takenjoined_k17_worth_of_any_numbers

set_option Elab.async false
set_option linter.all false
set_option maxRecDepth 100000
/-! PV: immutable data D, owned trees O, their relation to the layer's values -/
namespace PV
open PySem PySem.Spec PyProof.Rows L2

def LIM : Nat := 1000000
theorem LIM_line : LIM < sizeLine := by rw [sizeLine_eq]; decide

inductive D where
  | non | bl (b : Bool) | int (i : Int) | str (s : Str)
  | tup (xs : List D) | lst (xs : List D) | scr (xs : List D) | obj (c : Nat) (xs : List D) | dct (ks vs : List D) | fn (i : Nat) | junk

inductive O where
  | fr (d : D) | ls (xs : List D) | ll (xs : List O) | dc (ks vs : List D) | ob (c : Nat) (xs : List D) | tp (xs : List O) | ex

mutual
def frO : O → D
  | .fr d => d
  | .ls xs => .lst xs
  | .ll xs => .lst (frOs xs)
  | .dc ks vs => .dct ks vs
  | .ob c xs => .obj c xs
  | .tp xs => .tup (frOs xs)
  | .ex => .junk
def frOs : List O → List D
  | [] => []
  | x :: xs => frO x :: frOs xs
end

structure Gx where
  K : PySem.W.Frag
  cls : Nat → Addr
  flds : Nat → List Str
  exc : Nat → Addr
  excf : Nat → Str
  fns : Nat → Addr
  ex : Option Addr

def kD : Key → D
  | .inl i => .int i
  | .inr s => .str s

mutual
inductive RD (G : Gx) (M : Hp) : V → D → Prop
  | non : RD G M .non .non
  | bl (b : Bool) : RD G M (.bl b) (.bl b)
  | int (i : Int) : RD G M (.int i) (.int i)
  | str (x : Str) (h : x.length ≤ LIM) : RD G M (.str x) (.str x)
  | tup {a : Addr} {xs : List V} {ds : List D} (h : SqT G.K M a xs) (r : RDs G M xs ds) (l : ds.length ≤ LIM) : RD G M (.ref a) (.tup ds)
  | lst {a : Addr} {xs : List V} {ds : List D} (h : M a = some (.lst xs)) (r : RDs G M xs ds) (l : ds.length ≤ LIM) : RD G M (.ref a) (.lst ds)
  | scr {a : Addr} {xs : List V} {ds : List D} (h : SqL G.K M a xs) (r : RDs G M xs ds) (l : ds.length ≤ LIM) : RD G M (.ref a) (.scr ds)
  | obj {a dx : Addr} {c : Nat} {xs : List V} {ds : List D} (h : M a = some (.ins (G.cls c) dx ((G.flds c).zip xs))) (h2 : M dx = some (.own a)) (r : RDs G M xs ds) (l : ds.length ≤ (G.flds c).length) : RD G M (.ref a) (.obj c ds)
  | dct {a : Addr} {kvs : List (Key × V)} {ks vs : List D} (h : M a = some (.dK kvs)) (hk : kvs.map (fun p => kD p.1) = ks) (r : RDs G M (kvs.map (·.2)) vs) (l : vs.length ≤ LIM) : RD G M (.ref a) (.dct ks vs)
  | junk (v : V) : RD G M v .junk
inductive RDs (G : Gx) (M : Hp) : List V → List D → Prop
  | nil : RDs G M [] []
  | cons {v : V} {d : D} {vs : List V} {ds : List D} (h : RD G M v d) (t : RDs G M vs ds) : RDs G M (v :: vs) (d :: ds)
end

theorem seqT {K : PySem.W.Frag} {H H' : Hp} {a : Addr} {xs : List V} (e : Same H H') (h : SqT K H a xs) : SqT K H' a xs := by
  rcases h with (h | ⟨o, h⟩) | h
  · exact .inl (.inl (e _ _ h))
  · exact .inl (.inr ⟨o, e _ _ h⟩)
  · exact .inr h

mutual
theorem RD.mono {G : Gx} {M M' : Hp} (e : Same M M') : ∀ {v : V} {d : D}, RD G M v d → RD G M' v d
  | _, _, .non => .non
  | _, _, .bl b => .bl b
  | _, _, .int i => .int i
  | _, _, .str x h => .str x h
  | _, _, .tup h r l => .tup (seqT e h) (r.mono e) l
  | _, _, .lst h r l => .lst (e _ _ h) (r.mono e) l
  | _, _, .scr h r l => .scr (e.seq h) (r.mono e) l
  | _, _, .obj h h2 r l => .obj (e _ _ h) (e _ _ h2) (r.mono e) l
  | _, _, .dct h hk r l => .dct (e _ _ h) hk (r.mono e) l
  | _, _, .junk v => .junk v
theorem RDs.mono {G : Gx} {M M' : Hp} (e : Same M M') : ∀ {vs : List V} {ds : List D}, RDs G M vs ds → RDs G M' vs ds
  | _, _, .nil => .nil
  | _, _, .cons h t => .cons (h.mono e) (t.mono e)
end

theorem RDs.length {G : Gx} {M : Hp} : ∀ {vs : List V} {ds : List D}, RDs G M vs ds → vs.length = ds.length
  | _, _, .nil => rfl
  | _, _, .cons _ t => by simp [t.length]
theorem RDs.get {G : Gx} {M : Hp} : ∀ {vs : List V} {ds : List D} {i : Nat} {d : D}, RDs G M vs ds → ds[i]? = some d → ∃ v, vs[i]? = some v ∧ RD G M v d
  | _, _, _, _, .nil, e => by simp at e
  | _, _, 0, _, .cons h _, e => by simp at e; subst e; exact ⟨_, rfl, h⟩
  | _, _, i + 1, _, .cons _ t, e => by
    obtain ⟨v, h1, h2⟩ := t.get (i := i) (by simpa using e)
    exact ⟨v, by simpa using h1, h2⟩
theorem RDs.append {G : Gx} {M : Hp} : ∀ {vs : List V} {ds : List D} {vs' : List V} {ds' : List D}, RDs G M vs ds → RDs G M vs' ds' → RDs G M (vs ++ vs') (ds ++ ds')
  | _, _, _, _, .nil, s => s
  | _, _, _, _, .cons h t, s => .cons h (t.append s)
theorem RDs.take {G : Gx} {M : Hp} : ∀ {vs : List V} {ds : List D} (n : Nat), RDs G M vs ds → RDs G M (vs.take n) (ds.take n)
  | _, _, 0, _ => .nil
  | _, _, _ + 1, .nil => .nil
  | _, _, n + 1, .cons h t => .cons h (t.take n)
theorem RDs.drop {G : Gx} {M : Hp} : ∀ {vs : List V} {ds : List D} (n : Nat), RDs G M vs ds → RDs G M (vs.drop n) (ds.drop n)
  | _, _, 0, r => r
  | _, _, _ + 1, .nil => .nil
  | _, _, n + 1, .cons _ t => t.drop n
theorem RDs.set {G : Gx} {M : Hp} {v : V} {d : D} (h : RD G M v d) : ∀ {vs : List V} {ds : List D} (n : Nat), RDs G M vs ds → RDs G M (vs.set n v) (ds.set n d)
  | _, _, _, .nil => .nil
  | _, _, 0, .cons _ t => .cons h t
  | _, _, n + 1, .cons q t => .cons q (t.set h n)
theorem RDs.eraseIdx {G : Gx} {M : Hp} : ∀ {vs : List V} {ds : List D} (n : Nat), RDs G M vs ds → RDs G M (vs.eraseIdx n) (ds.eraseIdx n)
  | _, _, _, .nil => .nil
  | _, _, 0, .cons _ t => t
  | _, _, n + 1, .cons q t => .cons q (t.eraseIdx n)
theorem RDs.reverse {G : Gx} {M : Hp} : ∀ {vs : List V} {ds : List D}, RDs G M vs ds → RDs G M vs.reverse ds.reverse
  | _, _, .nil => .nil
  | _, _, .cons q t => by
    rw [List.reverse_cons, List.reverse_cons]
    exact t.reverse.append (.cons q .nil)

/-! ### owned trees -/
mutual
inductive RO (G : Gx) (H M : Hp) : V → O → List Addr → Prop
  | fr {v : V} {d : D} (h : RD G M v d) : RO G H M v (.fr d) []
  | ls {a : Addr} {xs : List V} {ds : List D} (h : H a = some (.lst xs)) (r : RDs G M xs ds) (l : ds.length ≤ LIM) : RO G H M (.ref a) (.ls ds) [a]
  | ll {a : Addr} {xs : List V} {os : List O} {F : List Addr} (h : H a = some (.lst xs)) (r : ROs G H M xs os F) (l : os.length ≤ LIM) : RO G H M (.ref a) (.ll os) (a :: F)
  | dc {a : Addr} {kvs : List (Key × V)} {ks vs : List D} (h : H a = some (.dK kvs)) (hk : kvs.map (fun p => kD p.1) = ks) (r : RDs G M (kvs.map (·.2)) vs) (l : vs.length ≤ LIM) : RO G H M (.ref a) (.dc ks vs) [a]
  | ob {a dx : Addr} {c : Nat} {xs : List V} {ds : List D} (h : H a = some (.ins (G.cls c) dx ((G.flds c).zip xs))) (h2 : H dx = some (.own a)) (r : RDs G M xs ds) (l : ds.length ≤ (G.flds c).length) : RO G H M (.ref a) (.ob c ds) [a, dx]
  | tp {a : Addr} {xs : List V} {os : List O} {F : List Addr} (h : SqT G.K M a xs) (r : ROs G H M xs os F) (l : os.length ≤ LIM) : RO G H M (.ref a) (.tp os) F
  | ex {a : Addr} (h : G.ex = some a) : RO G H M (.ref a) .ex []
inductive ROs (G : Gx) (H M : Hp) : List V → List O → List Addr → Prop
  | nil : ROs G H M [] [] []
  | cons {v : V} {o : O} {F : List Addr} {vs : List V} {os : List O} {Fs : List Addr} (h : RO G H M v o F) (t : ROs G H M vs os Fs) : ROs G H M (v :: vs) (o :: os) (F ++ Fs)
end

/-- what stood at F in H stands so in H' -/
def KeepOn (F : List Addr) (H H' : Hp) : Prop := ∀ a ∈ F, ∀ x, H a = some x → H' a = some x

mutual
theorem RO.mono {G : Gx} {H M H' M' : Hp} (e : Same M M') : ∀ {v : V} {o : O} {F : List Addr}, KeepOn F H H' → RO G H M v o F → RO G H' M' v o F
  | _, _, _, _, .fr h => .fr (h.mono e)
  | _, _, _, k, .ls h r l => .ls (k _ List.mem_cons_self _ h) (r.mono e) l
  | _, _, _, k, .ll h r l => .ll (k _ List.mem_cons_self _ h) (r.mono e fun a ha => k a (List.mem_cons_of_mem _ ha)) l
  | _, _, _, k, .dc h hk r l => .dc (k _ List.mem_cons_self _ h) hk (r.mono e) l
  | _, _, _, k, .ob h h2 r l => .ob (k _ List.mem_cons_self _ h) (k _ (List.mem_cons_of_mem _ List.mem_cons_self) _ h2) (r.mono e) l
  | _, _, _, k, .tp h r l => .tp (seqT e h) (r.mono e k) l
  | _, _, _, _, .ex h => .ex h
theorem ROs.mono {G : Gx} {H M H' M' : Hp} (e : Same M M') : ∀ {vs : List V} {os : List O} {F : List Addr}, KeepOn F H H' → ROs G H M vs os F → ROs G H' M' vs os F
  | _, _, _, _, .nil => .nil
  | _, _, _, k, .cons h t => .cons (h.mono e fun a ha => k a (List.mem_append_left _ ha)) (t.mono e fun a ha => k a (List.mem_append_right _ ha))
end
mutual
/-- frozen: all that is owned is taken into M' -/
theorem RO.frz {G : Gx} {H M M' : Hp} (e : Same M M') : ∀ {v : V} {o : O} {F : List Addr}, KeepOn F H M' → RO G H M v o F → RD G M' v (frO o)
  | _, _, _, _, .fr h => by unfold frO; exact h.mono e
  | _, _, _, k, .ls h r l => by unfold frO; exact .lst (k _ List.mem_cons_self _ h) (r.mono e) l
  | _, _, _, k, .ll h r l => by
    unfold frO
    have q := ROs.frz e (fun a ha => k a (List.mem_cons_of_mem _ ha)) r
    exact .lst (k _ List.mem_cons_self _ h) q.1 (by rw [q.2]; exact l)
  | _, _, _, k, .dc h hk r l => by unfold frO; exact .dct (k _ List.mem_cons_self _ h) hk (r.mono e) l
  | _, _, _, k, .ob h h2 r l => by
    unfold frO
    exact .obj (k _ List.mem_cons_self _ h) (k _ (List.mem_cons_of_mem _ List.mem_cons_self) _ h2) (r.mono e) l
  | _, _, _, k, .tp h r l => by
    unfold frO
    have q := ROs.frz e k r
    exact .tup (seqT e h) q.1 (by rw [q.2]; exact l)
  | _, _, _, _, .ex h => by unfold frO; exact .junk _
theorem ROs.frz {G : Gx} {H M M' : Hp} (e : Same M M') : ∀ {vs : List V} {os : List O} {F : List Addr}, KeepOn F H M' → ROs G H M vs os F → RDs G M' vs (frOs os) ∧ (frOs os).length = os.length
  | _, _, _, _, .nil => by unfold frOs; exact ⟨.nil, rfl⟩
  | _, _, _, k, .cons h t => by
    unfold frOs
    have q := ROs.frz e (fun a ha => k a (List.mem_append_right _ ha)) t
    exact ⟨.cons (RO.frz e (fun a ha => k a (List.mem_append_left _ ha)) h) q.1, by simp [q.2]⟩
end

/-! ### steps -/
structure Wf (M H : Hp) (F : List Addr) : Prop where
  sm : Same M H
  nd : F.Nodup
  ow : ∀ a ∈ F, M a = none ∧ H a ≠ none

structure Stp (F : List Addr) (H M H' M' : Hp) (F' : List Addr) : Prop where
  mm : Same M M'
  keep : ∀ a x, a ∉ F → H a = some x → H' a = some x
  nof : ∀ a, a ∉ F → H a ≠ none → M a = none → M' a = none
  new : ∀ a ∈ F', a ∈ F ∨ H a = none
  wf : Wf M' H' F'

theorem some_of_ne {α : Type} {o : Option α} (h : o ≠ none) : ∃ x, o = some x := by
  cases o with
  | none => exact absurd rfl h
  | some x => exact ⟨x, rfl⟩

theorem Stp.refl {F : List Addr} {H M : Hp} (w : Wf M H F) : Stp F H M H M F :=
  ⟨fun _ _ e => e, fun _ _ _ e => e, fun _ _ _ e => e, fun _ e => .inl e, w⟩
theorem Stp.trans {F1 F2 F3 : List Addr} {H1 M1 H2 M2 H3 M3 : Hp} (a : Stp F1 H1 M1 H2 M2 F2) (b : Stp F2 H2 M2 H3 M3 F3) : Stp F1 H1 M1 H3 M3 F3 := by
  have out : ∀ c, c ∉ F1 → H1 c ≠ none → c ∉ F2 := fun c h1 h2 h3 => (a.new c h3).elim h1 h2
  refine ⟨fun c x e => b.mm c x (a.mm c x e), fun c x hc e => ?_, fun c hc h1 h2 => ?_, fun c hc => ?_, b.wf⟩
  · exact b.keep c x (out c hc (by rw [e]; simp)) (a.keep c x hc e)
  · obtain ⟨x, e⟩ := some_of_ne h1
    exact b.nof c (out c hc h1) (by rw [a.keep c x hc e]; simp) (a.nof c hc h1 h2)
  · rcases b.new c hc with h | h
    · exact a.new c h
    · by_cases hf : c ∈ F1
      · exact .inl hf
      · refine .inr ?_
        cases e : H1 c with
        | none => rfl
        | some x => rw [a.keep c x hf e] at h; cases h
/-- owned things elsewhere stay -/
theorem Stp.frame {F F' T : List Addr} {H M H' M' : Hp} (s : Stp F H M H' M' F') (w : Wf M H (F ++ T)) : Stp (F ++ T) H M H' M' (F' ++ T) := by
  have dj : ∀ a ∈ T, a ∉ F := fun a ha hf => (List.nodup_append.mp w.nd).2.2 a hf a ha rfl
  refine ⟨s.mm, fun c x hc e => s.keep c x (fun h => hc (List.mem_append_left _ h)) e, fun c hc => s.nof c fun h => hc (List.mem_append_left _ h), fun c hc => ?_, s.wf.sm, ?_, fun c hc => ?_⟩
  · rcases List.mem_append.mp hc with h | h
    · exact (s.new c h).imp (List.mem_append_left _) id
    · exact .inl (List.mem_append_right _ h)
  · refine List.nodup_append.mpr ⟨s.wf.nd, (List.nodup_append.mp w.nd).2.1, fun a ha b hb e => ?_⟩
    subst e
    rcases s.new a ha with h | h
    · exact dj a hb h
    · exact (w.ow a (List.mem_append_right _ hb)).2 h
  · rcases List.mem_append.mp hc with h | h
    · exact s.wf.ow c h
    · obtain ⟨h1, h2⟩ := w.ow c (List.mem_append_right _ h)
      obtain ⟨x, e⟩ := some_of_ne h2
      exact ⟨s.nof c (dj c h) h2 h1, by rw [s.keep c x (dj c h) e]; simp⟩
theorem Wf.sub {M H : Hp} {F F' : List Addr} (w : Wf M H F) (nd : F'.Nodup) (h : ∀ a ∈ F', a ∈ F) : Wf M H F' := ⟨w.sm, nd, fun a ha => w.ow a (h a ha)⟩
theorem Stp.sub {F F' F'' : List Addr} {H M H' M' : Hp} (s : Stp F H M H' M' F') (nd : F''.Nodup) (h : ∀ a ∈ F'', a ∈ F') : Stp F H M H' M' F'' :=
  ⟨s.mm, s.keep, s.nof, fun a ha => s.new a (h a ha), s.wf.sub nd h⟩
theorem Stp.perm {F F' F'' : List Addr} {H M H' M' : Hp} (s : Stp F H M H' M' F') (p : F'.Perm F'') : Stp F H M H' M' F'' :=
  s.sub (p.nodup_iff.mp s.wf.nd) fun a ha => p.mem_iff.mpr ha
theorem Wf.perm {F F' : List Addr} {H M : Hp} (s : Wf M H F) (p : F.Perm F') : Wf M H F' :=
  s.sub (p.nodup_iff.mp s.nd) fun a ha => p.mem_iff.mpr ha
theorem Stp.perm_l {F F0 F' : List Addr} {H M H' M' : Hp} (s : Stp F H M H' M' F') (p : F.Perm F0) : Stp F0 H M H' M' F' :=
  ⟨s.mm, fun a x h e => s.keep a x (fun z => h (p.mem_iff.mp z)) e, fun a h => s.nof a fun z => h (p.mem_iff.mp z), fun a ha => (s.new a ha).imp (fun z => p.mem_iff.mp z) id, s.wf⟩
/-- a part that was not needed is looked at as elsewhere -/
theorem Stp.keepOn {F F' T : List Addr} {H M H' M' : Hp} (s : Stp F H M H' M' F') (h : ∀ a ∈ T, a ∉ F) : KeepOn T H H' := fun a ha x e => s.keep a x (h a ha) e
theorem Wf.right {M H : Hp} {A B : List Addr} (w : Wf M H (A ++ B)) : Wf M H B := w.sub (List.nodup_append.mp w.nd).2.1 fun a h => List.mem_append_right _ h
theorem Wf.left {M H : Hp} {A B : List Addr} (w : Wf M H (A ++ B)) : Wf M H A := w.sub (List.nodup_append.mp w.nd).1 fun a h => List.mem_append_left _ h
theorem Wf.disj {M H : Hp} {A B : List Addr} (w : Wf M H (A ++ B)) : ∀ a ∈ A, a ∉ B := fun a ha hb => (List.nodup_append.mp w.nd).2.2 a ha a hb rfl
theorem Wf.disj' {M H : Hp} {A B : List Addr} (w : Wf M H (A ++ B)) : ∀ a ∈ B, a ∉ A := fun a hb ha => (List.nodup_append.mp w.nd).2.2 a ha a hb rfl

/-- nothing changed; new things were laid -/
structure Pst (H M H' M' : Hp) : Prop where
  hh : Same H H'
  mm : Same M M'
  mh : Same M' H'
  nof : ∀ a, H a ≠ none → M a = none → M' a = none
theorem Pst.stp {F : List Addr} {H M H' M' : Hp} (p : Pst H M H' M') (w : Wf M H F) : Stp F H M H' M' F :=
  ⟨p.mm, fun a x _ e => p.hh a x e, fun a _ h1 h2 => p.nof a h1 h2, fun a h => .inl h, p.mh, w.nd, fun a h => by
    obtain ⟨h1, h2⟩ := w.ow a h
    obtain ⟨x, e⟩ := some_of_ne h2
    exact ⟨p.nof a h2 h1, by rw [p.hh a x e]; simp⟩⟩
theorem Pst.refl {H M : Hp} (s : Same M H) : Pst H M H M := ⟨fun _ _ e => e, fun _ _ e => e, s, fun _ _ e => e⟩
theorem Pst.trans {H M H1 M1 H2 M2 : Hp} (a : Pst H M H1 M1) (b : Pst H1 M1 H2 M2) : Pst H M H2 M2 :=
  ⟨fun c x e => b.hh c x (a.hh c x e), fun c x e => b.mm c x (a.mm c x e), b.mh, fun c h1 h2 => b.nof c (by obtain ⟨x, e⟩ := some_of_ne h1; rw [a.hh c x e]; simp) (a.nof c h1 h2)⟩
theorem same_new {H : Hp} {p : Addr} {o : HO} (h : H p = none) : Same H (upd H p o) := fun b x e => by rw [upd_ne (ne_of_none e h)]; exact e
/-- a new object, frozen -/
theorem Pst.newF {H M : Hp} {p : Addr} {o : HO} (s : Same M H) (h : H p = none) : Pst H M (upd H p o) (upd M p o) := by
  have hm : M p = none := s.free h
  refine ⟨same_new h, same_new hm, fun b x e => ?_, fun a h1 h2 => ?_⟩
  · by_cases hb : b = p
    · subst hb; rw [upd_same] at e ⊢; exact e
    · rw [upd_ne hb] at e ⊢; exact s b x e
  · have : a ≠ p := fun z => h1 (z ▸ h)
    rw [upd_ne this]; exact h2
/-- a new object, owned -/
theorem Pst.newO {H M : Hp} {p : Addr} {o : HO} (s : Same M H) (h : H p = none) : Pst H M (upd H p o) M :=
  ⟨same_new h, fun _ _ e => e, fun b x e => same_new h b x (s b x e), fun _ _ e => e⟩
end PV

set_option Elab.async false
set_option linter.all false
set_option maxRecDepth 100000
/-! PV: slots, results, soundness of expressions -/
namespace PV
open PySem PySem.Spec PyProof.Rows L2

abbrev Env := List (Option O)

inductive SR (G : Gx) (H M : Hp) : List (Option V) → Env → List Addr → Prop
  | nil : SR G H M [] [] []
  | no {x : Option V} {σ : List (Option V)} {ρ : Env} {F : List Addr} (t : SR G H M σ ρ F) : SR G H M (x :: σ) (none :: ρ) F
  | so {v : V} {o : O} {σ : List (Option V)} {ρ : Env} {Fo F : List Addr} (h : RO G H M v o Fo) (t : SR G H M σ ρ F) : SR G H M (some v :: σ) (some o :: ρ) (Fo ++ F)

theorem SR.mono {G : Gx} {H M H' M' : Hp} (e : Same M M') : ∀ {σ : List (Option V)} {ρ : Env} {F : List Addr}, KeepOn F H H' → SR G H M σ ρ F → SR G H' M' σ ρ F
  | _, _, _, _, .nil => .nil
  | _, _, _, k, .no t => .no (t.mono e k)
  | _, _, _, k, .so h t => .so (h.mono e fun a ha => k a (List.mem_append_left _ ha)) (t.mono e fun a ha => k a (List.mem_append_right _ ha))
theorem SR.length {G : Gx} {H M : Hp} : ∀ {σ : List (Option V)} {ρ : Env} {F : List Addr}, SR G H M σ ρ F → σ.length = ρ.length
  | _, _, _, .nil => rfl
  | _, _, _, .no t => by simp [t.length]
  | _, _, _, .so _ t => by simp [t.length]
/-- a slot's thing taken out -/
theorem SR.take {G : Gx} {H M : Hp} : ∀ {σ : List (Option V)} {ρ : Env} {F : List Addr} {i : Nat} {o : O}, SR G H M σ ρ F → ρ[i]? = some (some o) →
    ∃ v Fo F1, σ[i]? = some (some v) ∧ RO G H M v o Fo ∧ SR G H M σ (ρ.set i none) F1 ∧ F.Perm (Fo ++ F1)
  | _, _, _, _, _, .nil, e => by simp at e
  | _, _, _, 0, _, .no _, e => by simp at e
  | _, _, _, i + 1, o, .no t, e => by
    obtain ⟨v, Fo, F1, h1, h2, h3, h4⟩ := t.take (i := i) (o := o) (by simpa using e)
    exact ⟨v, Fo, F1, by simpa using h1, h2, .no h3, h4⟩
  | _, _, _, 0, o, .so (v := v) (Fo := Fo) (F := F) h t, e => by
    simp at e
    subst e
    exact ⟨v, Fo, F, rfl, h, .no t, .refl _⟩
  | _, _, _, i + 1, o, .so (v := v') (Fo := Fo') (F := F') h t, e => by
    obtain ⟨v, Fo, F1, h1, h2, h3, h4⟩ := t.take (i := i) (o := o) (by simpa using e)
    refine ⟨v, Fo, Fo' ++ F1, by simpa using h1, h2, .so h h3, ?_⟩
    refine (List.Perm.append_left Fo' h4).trans ?_
    rw [← List.append_assoc, ← List.append_assoc]
    exact List.Perm.append_right _ List.perm_append_comm
/-- a slot cleared -/
theorem SR.clear {G : Gx} {H M : Hp} : ∀ {σ : List (Option V)} {ρ : Env} {F : List Addr} (i : Nat), SR G H M σ ρ F →
    ∃ Fo F1, SR G H M σ (ρ.set i none) F1 ∧ F.Perm (Fo ++ F1)
  | _, _, _, _, .nil => ⟨[], [], .nil, .refl _⟩
  | _, _, F, 0, .no t => ⟨[], F, .no t, .refl _⟩
  | _, _, _, i + 1, .no t => by
    obtain ⟨Fo, F1, h3, h4⟩ := t.clear i
    exact ⟨Fo, F1, .no h3, h4⟩
  | _, _, _, 0, .so (Fo := Fo) (F := F) h t => ⟨Fo, F, .no t, .refl _⟩
  | _, _, _, i + 1, .so (Fo := Fo') (F := F') h t => by
    obtain ⟨Fo, F1, h3, h4⟩ := t.clear i
    refine ⟨Fo, Fo' ++ F1, .so h h3, ?_⟩
    refine (List.Perm.append_left Fo' h4).trans ?_
    rw [← List.append_assoc, ← List.append_assoc]
    exact List.Perm.append_right _ List.perm_append_comm
/-- a thing put into an empty slot -/
theorem SR.put {G : Gx} {H M : Hp} {v : V} {o : O} {Fo : List Addr} (h : RO G H M v o Fo) : ∀ {σ : List (Option V)} {ρ : Env} {F : List Addr} {i : Nat}, SR G H M σ ρ F → ρ[i]? = some none →
    ∃ F1, SR G H M (σ.set i (some v)) (ρ.set i (some o)) F1 ∧ F1.Perm (Fo ++ F)
  | _, _, _, _, .nil, e => by simp at e
  | _, _, F, 0, .no t, _ => ⟨Fo ++ F, .so h t, .refl _⟩
  | _, _, _, i + 1, .no t, e => by
    obtain ⟨F1, h3, h4⟩ := t.put h (i := i) (by simpa using e)
    exact ⟨F1, .no h3, h4⟩
  | _, _, _, 0, .so _ _, e => by simp at e
  | _, _, _, i + 1, .so (Fo := Fo') (F := F') q t, e => by
    obtain ⟨F1, h3, h4⟩ := t.put h (i := i) (by simpa using e)
    refine ⟨Fo' ++ F1, .so q h3, ?_⟩
    refine (List.Perm.append_left Fo' h4).trans ?_
    rw [← List.append_assoc, ← List.append_assoc]
    exact List.Perm.append_right _ List.perm_append_comm
theorem SR.put_same {G : Gx} {H M : Hp} {v : V} {o : O} {Fo : List Addr} (h : RO G H M v o Fo) {σ : List (Option V)} {ρ : Env} {F : List Addr} {i : Nat} (s : SR G H M σ ρ F) (e : ρ[i]? = some none) (ev : σ[i]? = some (some v)) :
    ∃ F1, SR G H M σ (ρ.set i (some o)) F1 ∧ F1.Perm (Fo ++ F) := by
  obtain ⟨F1, h1, h2⟩ := s.put h e
  have : σ.set i (some v) = σ := by
    apply List.ext_getElem?
    intro j
    by_cases hj : i = j
    · subst hj
      obtain ⟨hl, _⟩ := List.getElem?_eq_some_iff.mp ev
      rw [List.getElem?_set_self hl, ev]
    · rw [List.getElem?_set_ne hj]
  rw [this] at h1
  exact ⟨F1, h1, h2⟩
/-- x = e -/
theorem SR.store {G : Gx} {H M : Hp} {v : V} {o : O} {Fo : List Addr} (h : RO G H M v o Fo) {σ : List (Option V)} {ρ : Env} {F : List Addr} {i : Nat} (s : SR G H M σ ρ F) (hi : i < ρ.length) :
    ∃ Fx F1 F2, SR G H M (σ.set i (some v)) (ρ.set i (some o)) F2 ∧ F2.Perm (Fo ++ F1) ∧ F.Perm (Fx ++ F1) := by
  obtain ⟨Fx, F1, h1, h2⟩ := s.clear i
  obtain ⟨F2, h3, h4⟩ := h1.put h (i := i) (by rw [List.getElem?_set_self hi])
  rw [List.set_set] at h3
  exact ⟨Fx, F1, F2, h3, h4, h2⟩

/-! ### results -/
structure Exn where
  c : Nat
  f : Option D
inductive R (α : Type) where
  | ok (a : α) (ρ : Env) | er (x : Exn) (ρ : Env) | st
def R.bind {α β : Type} (r : R α) (f : α → Env → R β) : R β :=
  match r with
  | .ok a ρ => f a ρ
  | .er x ρ => .er x ρ
  | .st => .st
abbrev Ev := Env → R O
abbrev Et := Env → R Bool

inductive RX (G : Gx) (M : Hp) : Exn → Value → Option Addr → Prop
  | bare (c : Nat) : RX G M ⟨c, none⟩ (.ref (G.exc c)) none
  | fld (c : Nat) {e : D} {v : V} {dd : Addr} (h : M dd = some (.xd [(G.excf c, v)])) (r : RD G M v e) : RX G M ⟨c, some e⟩ (.ref (G.exc c)) (some dd)

/-- an expression's reading serves its sem -/
def ES (G : Gx) (W : WX) (t : TE) (f : Ev) : Prop :=
  ∀ (σ : L2.St) (H M : Hp) (ρ : Env) (F : List Addr) (Q : VK), Wf M H F → SR G H M σ ρ F → f ρ ≠ .st →
    (∀ o ρ', f ρ = .ok o ρ' → ∀ v H' M' Fo F', Stp F H M H' M' (Fo ++ F') → RO G H' M' v o Fo → SR G H' M' σ ρ' F' → Q v H') →
    (∀ x ρ', f ρ = .er x ρ' → ∀ cls dd H' M' F', Stp F H M H' M' F' → RX G M' x cls dd → SR G H' M' σ ρ' F' → W cls dd σ H') → t σ H Q
def TS' (G : Gx) (W : WX) (t : TT) (f : Et) : Prop :=
  ∀ (σ : L2.St) (H M : Hp) (ρ : Env) (F : List Addr) (Q : Bool → Hp → Prop), Wf M H F → SR G H M σ ρ F → f ρ ≠ .st →
    (∀ b ρ', f ρ = .ok b ρ' → ∀ H' M' F', Stp F H M H' M' F' → SR G H' M' σ ρ' F' → Q b H') →
    (∀ x ρ', f ρ = .er x ρ' → ∀ cls dd H' M' F', Stp F H M H' M' F' → RX G M' x cls dd → SR G H' M' σ ρ' F' → W cls dd σ H') → t σ H Q
structure DE (G : Gx) (X : Cx) (W : WX) (e : Expr) (f : Ev) : Prop where
  ex : ∃ t, PE X e t ∧ ES G W t f
structure DT (G : Gx) (X : Cx) (W : WX) (e : Expr) (f : Et) : Prop where
  ex : ∃ t, PT X e t ∧ TS' G W t f

/-! ### constants, names -/
def evC (d : D) : Ev := fun ρ => .ok (.fr d) ρ
theorem es_const {G : Gx} {W : WX} {v : V} {d : D} (h : ∀ M, RD G M v d) : ES G W (tC v) (evC d) :=
  fun σ H M ρ F Q w s _ hk _ => hk _ _ rfl v H M [] F (Stp.refl w) (.fr (h M)) s
theorem de_const {G : Gx} {X : Cx} {W : WX} {e : Expr} {v : V} {d : D} (p : PE X e (tC v)) (h : ∀ M, RD G M v d) : DE G X W e (evC d) := ⟨_, p, es_const h⟩
theorem de_int {G : Gx} {X : Cx} {W : WX} {i : Int} {j pos} : DE G X W (.Constant (.int i) j pos) (evC (.int i)) := de_const pe_int fun _ => .int i
theorem de_bl {G : Gx} {X : Cx} {W : WX} {b : Bool} {j pos} : DE G X W (.Constant (.bool b) j pos) (evC (.bl b)) := de_const pe_bl fun _ => .bl b
theorem de_non {G : Gx} {X : Cx} {W : WX} {j pos} : DE G X W (.Constant .none j pos) (evC .non) := de_const pe_non fun _ => .non
theorem de_str {G : Gx} {X : Cx} {W : WX} {x : Str} {j pos} (h : x.length ≤ LIM := by decide +kernel) : DE G X W (.Constant (.str x) j pos) (evC (.str x)) := de_const pe_str fun _ => .str x h

/-- a slot read: what is owned there is frozen from then on -/
def evVar (i : Nat) : Ev := fun ρ => match ρ[i]? with
  | some (some o) => .ok (.fr (frO o)) (ρ.set i (some (.fr (frO o))))
  | _ => .st
/-- a slot given away -/
def evMv (i : Nat) : Ev := fun ρ => match ρ[i]? with
  | some (some o) => .ok o (ρ.set i none)
  | _ => .st

/-- a set of owned things is frozen -/
theorem frzM {F T : List Addr} {H M : Hp} (w : Wf M H (F ++ T)) : ∃ M', KeepOn F H M' ∧ Same M M' ∧ Stp (F ++ T) H M H M' T := by
  refine ⟨fun b => if b ∈ F then H b else M b, fun a ha x e => by show (if a ∈ F then H a else M a) = _; rw [if_pos ha]; exact e, fun b x e => ?_, ?_⟩
  · show (if b ∈ F then H b else M b) = _
    by_cases hb : b ∈ F
    · rw [if_pos hb]; exact w.sm b x e
    · rw [if_neg hb]; exact e
  · refine ⟨fun b x e => ?_, fun _ _ _ e => e, fun a ha _ hm => ?_, fun a ha => .inl (List.mem_append_right _ ha), fun b x e => ?_, w.right.nd, fun a ha => ?_⟩
    · show (if b ∈ F then H b else M b) = _
      by_cases hb : b ∈ F
      · rw [if_pos hb]; exact w.sm b x e
      · rw [if_neg hb]; exact e
    · show (if a ∈ F then H a else M a) = _
      rw [if_neg fun z => ha (List.mem_append_left _ z)]; exact hm
    · have e : (if b ∈ F then H b else M b) = some x := e
      by_cases hb : b ∈ F
      · rw [if_pos hb] at e; exact e
      · rw [if_neg hb] at e; exact w.sm b x e
    · have hn : a ∉ F := w.disj' a ha
      refine ⟨?_, (w.ow a (List.mem_append_right _ ha)).2⟩
      show (if a ∈ F then H a else M a) = _
      rw [if_neg hn]; exact (w.ow a (List.mem_append_right _ ha)).1
/-- RO made frozen within a state -/
theorem RO.freeze {G : Gx} {H M : Hp} {v : V} {o : O} {Fo F : List Addr} (r : RO G H M v o Fo) (w : Wf M H (Fo ++ F)) : ∃ M', RD G M' v (frO o) ∧ Stp (Fo ++ F) H M H M' F := by
  obtain ⟨M', k, e, s⟩ := frzM w
  exact ⟨M', r.frz e k, s⟩
theorem keepOn_refl (F : List Addr) (H : Hp) : KeepOn F H H := fun _ _ _ e => e

theorem es_var {G : Gx} {W : WX} {i : Nat} : ES G W (tVar i) (evVar i) := by
  intro σ H M ρ F Q w s hn hk _
  unfold evVar at hn hk
  split at hn
  · rename_i o e
    rw [e] at hk
    obtain ⟨v, Fo, F1, ev, ro, s1, pm⟩ := s.take e
    obtain ⟨M', rd, st⟩ := ro.freeze (w.perm pm)
    have s2 := s1.mono st.mm (keepOn_refl _ _)
    have hi : i < ρ.length := (List.getElem?_eq_some_iff.mp e).1
    obtain ⟨F2, s3, pm2⟩ := s2.put_same (.fr rd) (i := i) (by rw [List.getElem?_set_self hi]) ev
    rw [List.set_set] at s3
    have st2 : Stp F H M H M' ([] ++ F2) := (st.perm_l pm.symm).perm (by simpa using pm2.symm)
    exact ⟨v, ev, hk _ _ rfl v H M' [] F2 st2 (.fr rd) s3⟩
  · exact absurd rfl hn
theorem es_mv {G : Gx} {W : WX} {i : Nat} : ES G W (tVar i) (evMv i) := by
  intro σ H M ρ F Q w s hn hk _
  unfold evMv at hn hk
  split at hn
  · rename_i o e
    rw [e] at hk
    obtain ⟨v, Fo, F1, ev, ro, s1, pm⟩ := s.take e
    exact ⟨v, ev, hk _ _ rfl v H M Fo F1 ((Stp.refl w).perm pm) ro s1⟩
  · exact absurd rfl hn
theorem de_var {G : Gx} {X : Cx} {W : WX} {e : Expr} {i : Nat} (p : PE X e (tVar i)) : DE G X W e (evVar i) := ⟨_, p, es_var⟩
theorem de_mv {G : Gx} {X : Cx} {W : WX} {e : Expr} {i : Nat} (p : PE X e (tVar i)) : DE G X W e (evMv i) := ⟨_, p, es_mv⟩

/-- an expression's answer frozen -/
def evFz (f : Ev) : Ev := fun ρ => (f ρ).bind fun o ρ' => .ok (.fr (frO o)) ρ'
theorem es_fz {G : Gx} {W : WX} {t : TE} {f : Ev} (h : ES G W t f) : ES G W t (evFz f) := by
  intro σ H M ρ F Q w s hn hk he
  unfold evFz at hn hk he
  refine h σ H M ρ F Q w s (fun e => hn (by rw [e]; rfl)) (fun o ρ' e v H' M' Fo F' st ro sr => ?_) (fun x ρ' e => he x ρ' (by rw [e]; rfl))
  obtain ⟨M2, rd, st2⟩ := ro.freeze st.wf
  exact hk _ _ (by rw [e]; rfl) v H' M2 [] F' (st.trans st2) (.fr rd) (sr.mono st2.mm (keepOn_refl _ _))
theorem de_fz {G : Gx} {X : Cx} {W : WX} {e : Expr} {f : Ev} (h : DE G X W e f) : DE G X W e (evFz f) := by
  obtain ⟨t, p, q⟩ := h.ex
  exact ⟨t, p, es_fz q⟩

/-! ### operands: an expression, or a slot that is looked at when all are there -/
inductive Opd where
  | e (f : Ev) | sl (i : Nat)
def Opd.run : Opd → Env → R O
  | .e f, ρ => f ρ
  | .sl i, ρ => match ρ[i]? with
    | some (some _) => .ok (.fr .non) ρ
    | _ => .st
/-- what a look shows (a list of owned things shows nothing) -/
def viewO : O → Option D
  | .fr d => some d
  | .ls xs => some (.lst xs)
  | .dc ks vs => some (.dct ks vs)
  | .ob c xs => some (.obj c xs)
  | _ => none
def Opd.fin : Opd → O → Env → Option D
  | .e _, o, _ => some (frO o)
  | .sl i, _, ρ => match ρ[i]? with
    | some (some o) => viewO o
    | _ => none
/-- as seen now: frozen, or an owned list or dict of frozen things -/
inductive RV (G : Gx) (H M : Hp) : V → D → Prop
  | fr {v : V} {d : D} (h : RD G M v d) : RV G H M v d
  | ls {a : Addr} {xs : List V} {ds : List D} (h : H a = some (.lst xs)) (r : RDs G M xs ds) (l : ds.length ≤ LIM) : RV G H M (.ref a) (.lst ds)
  | dc {a : Addr} {kvs : List (Key × V)} {ks vs : List D} (h : H a = some (.dK kvs)) (hk : kvs.map (fun p => kD p.1) = ks) (r : RDs G M (kvs.map (·.2)) vs) (l : vs.length ≤ LIM) : RV G H M (.ref a) (.dct ks vs)
  | ob {a dx : Addr} {c : Nat} {xs : List V} {ds : List D} (h : H a = some (.ins (G.cls c) dx ((G.flds c).zip xs))) (h2 : H dx = some (.own a)) (r : RDs G M xs ds) (l : ds.length ≤ (G.flds c).length) : RV G H M (.ref a) (.obj c ds)
theorem RO.view {G : Gx} {H M : Hp} {v : V} {o : O} {d : D} {Fo : List Addr} (r : RO G H M v o Fo) (e : viewO o = some d) : RV G H M v d := by
  cases r with
  | fr h => cases e; exact .fr h
  | ls h r l => cases e; exact .ls h r l
  | dc h hk r l => cases e; exact .dc h hk r l
  | ll _ _ _ => cases e
  | ob h h2 r l => cases e; exact .ob h h2 r l
  | tp _ _ _ => cases e
  | ex _ => cases e
theorem RV.mono {G : Gx} {H M H' M' : Hp} {v : V} {d : D} (h : RV G H M v d) (hh : Same H H') (mm : Same M M') : RV G H' M' v d := by
  cases h with
  | fr h => exact .fr (h.mono mm)
  | ls h r l => exact .ls (hh _ _ h) (r.mono mm) l
  | dc h hk r l => exact .dc (hh _ _ h) hk (r.mono mm) l
  | ob h h2 r l => exact .ob (hh _ _ h) (hh _ _ h2) (r.mono mm) l
/-- a list that is seen: its place and items -/
theorem RV.list {G : Gx} {H M : Hp} {v : V} {ds : List D} (sm : Same M H) (h : RV G H M v (.lst ds)) : ∃ a xs, v = .ref a ∧ H a = some (.lst xs) ∧ RDs G M xs ds ∧ ds.length ≤ LIM := by
  cases h with
  | fr h => cases h with
    | lst h r l => exact ⟨_, _, rfl, sm _ _ h, r, l⟩
  | ls h r l => exact ⟨_, _, rfl, h, r, l⟩
theorem RV.tuple {G : Gx} {H M : Hp} {v : V} {ds : List D} (sm : Same M H) (h : RV G H M v (.tup ds)) : ∃ a xs, v = .ref a ∧ SqT G.K H a xs ∧ SqT G.K M a xs ∧ RDs G M xs ds ∧ ds.length ≤ LIM := by
  cases h with
  | fr h => cases h with
    | tup h r l => exact ⟨_, _, rfl, seqT sm h, h, r, l⟩
theorem RV.int {G : Gx} {H M : Hp} {v : V} {i : Int} (h : RV G H M v (.int i)) : v = .int i := by
  cases h with
  | fr h => cases h; rfl
theorem RV.bl {G : Gx} {H M : Hp} {v : V} {i : Bool} (h : RV G H M v (.bl i)) : v = .bl i := by
  cases h with
  | fr h => cases h; rfl
theorem RV.str {G : Gx} {H M : Hp} {v : V} {i : Str} (h : RV G H M v (.str i)) : v = .str i ∧ i.length ≤ LIM := by
  cases h with
  | fr h => cases h; exact ⟨rfl, by assumption⟩
theorem RV.non {G : Gx} {H M : Hp} {v : V} (h : RV G H M v .non) : v = .non := by
  cases h with
  | fr h => cases h; rfl

structure DOp (G : Gx) (X : Cx) (W : WX) (e : Expr) (o : Opd) : Prop where
  ex : match o with
    | .e f => ∃ t, PE X e t ∧ ES G W t f
    | .sl i => PE X e (tVar i)
theorem do_e {G : Gx} {X : Cx} {W : WX} {e : Expr} {f : Ev} (h : DE G X W e f) : DOp G X W e (.e f) := ⟨h.ex⟩
theorem do_sl {G : Gx} {X : Cx} {W : WX} {e : Expr} {i : Nat} (p : PE X e (tVar i)) : DOp G X W e (.sl i) := ⟨p⟩
/-- held meanwhile: v is what o is to show -/
def Held (G : Gx) (σ : L2.St) (o : Opd) (v : V) (r : O) (Fo : List Addr) (H M : Hp) : Prop :=
  match o with
  | .e _ => RO G H M v r Fo
  | .sl i => σ[i]? = some (some v) ∧ Fo = []
theorem Held.mono {G : Gx} {σ : L2.St} {o : Opd} {v : V} {r : O} {Fo : List Addr} {H M H' M' : Hp} (h : Held G σ o v r Fo H M) (e : Same M M') (k : KeepOn Fo H H') : Held G σ o v r Fo H' M' := by
  cases o with
  | e f => exact RO.mono e k h
  | sl i => exact h
/-- what an operand's run asks and gives -/
def OS (G : Gx) (W : WX) (o : Opd) (t : TE) : Prop :=
    ∀ (σ : L2.St) (H M : Hp) (ρ : Env) (F : List Addr) (Q : VK), Wf M H F → SR G H M σ ρ F → o.run ρ ≠ .st →
    (∀ r ρ', o.run ρ = .ok r ρ' → ∀ v H' M' Fo F', Stp F H M H' M' (Fo ++ F') → Held G σ o v r Fo H' M' → SR G H' M' σ ρ' F' → Q v H') →
    (∀ x ρ', o.run ρ = .er x ρ' → ∀ cls dd H' M' F', Stp F H M H' M' F' → RX G M' x cls dd → SR G H' M' σ ρ' F' → W cls dd σ H') → t σ H Q
theorem opd_run {G : Gx} {X : Cx} {W : WX} {e : Expr} {o : Opd} (h : DOp G X W e o) : ∃ t, PE X e t ∧ OS G W o t := by
  cases o with
  | e f =>
    obtain ⟨t, p, q⟩ := h.ex
    exact ⟨t, p, q⟩
  | sl i =>
    refine ⟨_, h.ex, fun σ H M ρ F Q w s hn hk he => ?_⟩
    unfold Opd.run at hn hk
    simp only at hn hk
    split at hn
    · rename_i z ez
      rw [ez] at hk
      obtain ⟨v, Fo, F1, ev, ro, s1, pm⟩ := s.take ez
      exact ⟨v, ev, hk _ _ rfl v H M [] F (Stp.refl w) ⟨ev, rfl⟩ s⟩
    · exact absurd rfl hn
/-- looked at in the end -/
theorem Held.see {G : Gx} {σ : L2.St} {o : Opd} {v : V} {r : O} {Fo F : List Addr} {H M : Hp} {ρ : Env} {d : D} (h : Held G σ o v r Fo H M) (s : SR G H M σ ρ F) (w : Wf M H (Fo ++ F)) (e : o.fin r ρ = some d) :
    ∃ M', RV G H M' v d ∧ Stp (Fo ++ F) H M H M' F := by
  cases o with
  | e f =>
    cases e
    obtain ⟨M', rd, st⟩ := RO.freeze h w
    exact ⟨M', .fr rd, st⟩
  | sl i =>
    obtain ⟨ev, rfl⟩ := h
    unfold Opd.fin at e
    simp only at e
    split at e
    · rename_i o' eo
      obtain ⟨v', Fo, F1, ev', ro, s1, pm⟩ := s.take eo
      rw [ev] at ev'
      cases ev'
      exact ⟨M, ro.view e, Stp.refl w⟩
    · cases e
end PV

set_option Elab.async false
set_option linter.all false
set_option maxRecDepth 100000
/-! PV: operand lists, operations by values, arguments, calls -/
namespace PV
open PySem PySem.Spec PyProof.Rows L2

def runs : List Opd → Env → R (List O)
  | [], ρ => .ok [] ρ
  | o :: os, ρ => (o.run ρ).bind fun r ρ1 => (runs os ρ1).bind fun rs ρ2 => .ok (r :: rs) ρ2
def fins : List Opd → List O → Env → Option (List D)
  | [], _, _ => some []
  | o :: os, r :: rs, ρ => match o.fin r ρ, fins os rs ρ with
    | some d, some ds => some (d :: ds)
    | _, _ => none
  | _ :: _, [], _ => none

inductive Helds (G : Gx) (σ : L2.St) (H M : Hp) : List Opd → List V → List O → List Addr → Prop
  | nil : Helds G σ H M [] [] [] []
  | cons {o : Opd} {v : V} {r : O} {Fo : List Addr} {os : List Opd} {vs : List V} {rs : List O} {Fs : List Addr} (h : Held G σ o v r Fo H M) (t : Helds G σ H M os vs rs Fs) : Helds G σ H M (o :: os) (v :: vs) (r :: rs) (Fo ++ Fs)
theorem Helds.mono {G : Gx} {σ : L2.St} {H M H' M' : Hp} (e : Same M M') : ∀ {os : List Opd} {vs : List V} {rs : List O} {F : List Addr}, KeepOn F H H' → Helds G σ H M os vs rs F → Helds G σ H' M' os vs rs F
  | _, _, _, _, _, .nil => .nil
  | _, _, _, _, k, .cons h t => .cons (h.mono e fun a ha => k a (List.mem_append_left _ ha)) (t.mono e fun a ha => k a (List.mem_append_right _ ha))

def OSs (G : Gx) (W : WX) (os : List Opd) (t : TA) : Prop :=
    ∀ (σ : L2.St) (H M : Hp) (ρ : Env) (F : List Addr) (Q : List V → Hp → Prop), Wf M H F → SR G H M σ ρ F → runs os ρ ≠ .st →
    (∀ rs ρ', runs os ρ = .ok rs ρ' → ∀ vs H' M' Fo F', Stp F H M H' M' (Fo ++ F') → Helds G σ H' M' os vs rs Fo → SR G H' M' σ ρ' F' → Q vs H') →
    (∀ x ρ', runs os ρ = .er x ρ' → ∀ cls dd H' M' F', Stp F H M H' M' F' → RX G M' x cls dd → SR G H' M' σ ρ' F' → W cls dd σ H') → t σ H Q
theorem oss_nil {G : Gx} {W : WX} : OSs G W [] tNil := fun σ H M ρ F Q w s _ hk _ => hk [] ρ rfl [] H M [] F (Stp.refl w) .nil s
theorem R.bind_ok {α β : Type} {a : α} {ρ : Env} {f : α → Env → R β} : (R.ok a ρ).bind f = f a ρ := rfl
theorem R.bind_er {α β : Type} {x : Exn} {ρ : Env} {f : α → Env → R β} : (R.er x ρ : R α).bind f = .er x ρ := rfl
theorem R.bind_st {α β : Type} {f : α → Env → R β} : (R.st : R α).bind f = .st := rfl
theorem perm3 (A B C : List Addr) : (A ++ B ++ C).Perm (C ++ A ++ B) := by
  rw [List.append_assoc C]
  exact List.perm_append_comm
theorem oss_cons {G : Gx} {W : WX} {o : Opd} {os : List Opd} {t : TE} {ts : TA} (h : OS G W o t) (hs : OSs G W os ts) : OSs G W (o :: os) (tCons t ts) := by
  intro σ H M ρ F Q w s hn hk he
  unfold runs at hn hk he
  refine h σ H M ρ F _ w s (fun e => hn (by rw [e]; rfl)) (fun r ρ1 e1 v H1 M1 Fo F1 st1 hd1 s1 => ?_) (fun x ρ1 e1 => he x ρ1 (by rw [e1]; rfl))
  rw [e1] at hn hk he
  simp only [R.bind_ok] at hn hk he
  have w1 : Wf M1 H1 F1 := st1.wf.right
  have pc : (Fo ++ F1).Perm (F1 ++ Fo) := List.perm_append_comm
  refine hs σ H1 M1 ρ1 F1 _ w1 s1 (fun e => hn (by rw [e]; rfl)) (fun rs ρ2 e2 vs H2 M2 Fs F2 st2 hd2 s2 => ?_) (fun x ρ2 e2 cls dd H2 M2 F2 st2 rx s2 => ?_)
  · have st3 := st2.frame (T := Fo) (st1.wf.perm pc)
    have k3 : KeepOn Fo H1 H2 := st2.keepOn st1.wf.disj
    exact hk (r :: rs) ρ2 (by rw [e2]; rfl) (v :: vs) H2 M2 (Fo ++ Fs) F2 (((st1.perm pc).trans st3).perm (perm3 _ _ _)) (.cons (hd1.mono st2.mm k3) hd2) s2
  · have st3 := st2.frame (T := Fo) (st1.wf.perm pc)
    exact he x ρ2 (by rw [e2]; rfl) cls dd H2 M2 F2 (((st1.perm pc).trans st3).sub st2.wf.nd fun a ha => List.mem_append_left _ ha) rx s2

structure DOs (G : Gx) (X : Cx) (W : WX) (es : List Expr) (os : List Opd) : Prop where
  ex : ∃ t, PA X es t ∧ OSs G W os t
theorem dos_nil {G : Gx} {X : Cx} {W : WX} : DOs G X W [] [] := ⟨_, pa_nil, oss_nil⟩
theorem dos_cons {G : Gx} {X : Cx} {W : WX} {e : Expr} {es : List Expr} {o : Opd} {os : List Opd} (h : DOp G X W e o) (hs : DOs G X W es os)
    (hst : starEach (e :: es) X.env = (false, eval e X.env) :: starEach es X.env := by rfl) : DOs G X W (e :: es) (o :: os) := by
  obtain ⟨t, p, q⟩ := opd_run h
  obtain ⟨ts, ps, qs⟩ := hs.ex
  exact ⟨_, pa_cons p ps hst, oss_cons q qs⟩

/-- values as seen -/
inductive RVs (G : Gx) (H M : Hp) : List V → List D → Prop
  | nil : RVs G H M [] []
  | cons {v : V} {d : D} {vs : List V} {ds : List D} (h : RV G H M v d) (t : RVs G H M vs ds) : RVs G H M (v :: vs) (d :: ds)
theorem RVs.mono {G : Gx} {H M H' M' : Hp} (hh : Same H H') (mm : Same M M') : ∀ {vs : List V} {ds : List D}, RVs G H M vs ds → RVs G H' M' vs ds
  | _, _, .nil => .nil
  | _, _, .cons h t => .cons (h.mono hh mm) (t.mono hh mm)
theorem RDs.rvs {G : Gx} {H M : Hp} : ∀ {vs : List V} {ds : List D}, RDs G M vs ds → RVs G H M vs ds
  | _, _, .nil => .nil
  | _, _, .cons h t => .cons (.fr h) t.rvs
theorem Helds.see {G : Gx} {σ : L2.St} : ∀ {os : List Opd} {vs : List V} {rs : List O} {Fo F : List Addr} {H M : Hp} {ρ : Env} {ds : List D}, Helds G σ H M os vs rs Fo → SR G H M σ ρ F → Wf M H (Fo ++ F) → fins os rs ρ = some ds →
    ∃ M', RVs G H M' vs ds ∧ Stp (Fo ++ F) H M H M' F
  | _, _, _, _, _, H, M, _, _, .nil, _, w, e => by
    cases e
    exact ⟨M, .nil, Stp.refl w⟩
  | _, _, _, _, F, H, M, ρ, _, .cons (o := o) (r := r) (Fo := Fo) (os := os) (rs := rs) (Fs := Fs) h t, s, w, e => by
    unfold fins at e
    split at e
    · rename_i d ds' e1 e2
      cases e
      have w' : Wf M H (Fo ++ (Fs ++ F)) := by rw [← List.append_assoc]; exact w
      obtain ⟨M1, r1, st1⟩ := t.see s w'.right e2
      have st1' := st1.frame (T := Fo) (w'.perm List.perm_append_comm)
      have h' : Held G σ o _ r Fo H M1 := h.mono st1.mm (keepOn_refl _ _)
      obtain ⟨M2, r2, st2⟩ := h'.see (s.mono st1.mm (keepOn_refl _ _)) (st1'.wf.perm List.perm_append_comm) e1
      refine ⟨M2, .cons r2 (r1.mono (fun _ _ z => z) st2.mm), ?_⟩
      have a1 := (st1'.perm List.perm_append_comm).trans st2
      refine a1.perm_l ?_
      rw [List.append_assoc Fo]
      exact List.perm_append_comm
    · cases e

/-- what was laid anew and is owned -/
def Fresh (H H' M' : Hp) (Fo : List Addr) : Prop := Fo.Nodup ∧ ∀ a ∈ Fo, H a = none ∧ H' a ≠ none ∧ M' a = none
theorem Fresh.nil {H H' M' : Hp} : Fresh H H' M' [] := ⟨List.nodup_nil, fun _ h => nomatch h⟩
theorem Fresh.one {H M' : Hp} {p : Addr} {o : HO} (h : H p = none) (hm : M' p = none) : Fresh H (upd H p o) M' [p] :=
  ⟨List.nodup_cons.mpr ⟨List.not_mem_nil, List.nodup_nil⟩, fun a ha => by
    have e : a = p := by simpa using ha
    subst e
    exact ⟨h, by rw [upd_same]; simp, hm⟩⟩
theorem Pst.grow {H M H' M' : Hp} {Fo F : List Addr} (p : Pst H M H' M') (f : Fresh H H' M' Fo) (w : Wf M H F) : Stp F H M H' M' (Fo ++ F) := by
  have s := p.stp w
  refine ⟨s.mm, s.keep, s.nof, fun a ha => ?_, s.wf.sm, ?_, fun a ha => ?_⟩
  · rcases List.mem_append.mp ha with h | h
    · exact .inr (f.2 a h).1
    · exact .inl h
  · refine List.nodup_append.mpr ⟨f.1, w.nd, fun a ha b hb e => ?_⟩
    subst e
    exact (w.ow a hb).2 (f.2 a ha).1
  · rcases List.mem_append.mp ha with h | h
    · exact ⟨(f.2 a h).2.2, (f.2 a h).2.1⟩
    · exact s.wf.ow a h
/-- an operation by values -/
def VOp (G : Gx) (r : List V → Hp → VK → Prop) (g : List D → Option O) : Prop :=
  ∀ (vs : List V) (ds : List D) (H M : Hp) (o : O) (Q : VK), Same M H → RVs G H M vs ds → g ds = some o →
    (∀ v H' M' Fo, Pst H M H' M' → RO G H' M' v o Fo → Fresh H H' M' Fo → Q v H') → r vs H Q
def opN (os : List Opd) (g : List D → Option O) : Ev := fun ρ => (runs os ρ).bind fun rs ρ' => match fins os rs ρ' with
  | some ds => (match g ds with
    | some o => .ok o ρ'
    | none => .st)
  | none => .st
theorem es_opN {G : Gx} {W : WX} {os : List Opd} {t : TA} {r : List V → Hp → VK → Prop} {g : List D → Option O} (h : OSs G W os t) (v : VOp G r g) : ES G W (fun σ H Q => t σ H fun vs H1 => r vs H1 Q) (opN os g) := by
  intro σ H M ρ F Q w s hn hk he
  unfold opN at hn hk he
  refine h σ H M ρ F _ w s (fun e => hn (by rw [e]; rfl)) (fun rs ρ1 e1 vs H1 M1 Fo F1 st1 hd1 s1 => ?_) (fun x ρ1 e1 => he x ρ1 (by rw [e1]; rfl))
  rw [e1] at hn hk
  simp only [R.bind_ok] at hn hk
  split at hn
  · rename_i ds ed
    split at hn
    · rename_i o eo
      rw [ed] at hk
      simp only [eo] at hk
      obtain ⟨M2, rv, st2⟩ := hd1.see s1 st1.wf ed
      refine v vs ds H1 M2 o Q st2.wf.sm rv eo fun v' H' M' Fo' ps ro fr => ?_
      have st3 := ps.grow fr st2.wf
      exact hk o ρ1 rfl v' H' M' Fo' F1 ((st1.trans st2).trans st3) ro ((s1.mono st2.mm (keepOn_refl _ _)).mono ps.mm fun a ha x e => ps.hh a x e)
    · exact absurd rfl hn
  · exact absurd rfl hn
end PV

set_option Elab.async false
set_option linter.all false
set_option maxRecDepth 100000
/-! PV: arguments, displays, calls -/
namespace PV
open PySem PySem.Spec PyProof.Rows L2

inductive Arg where
  | v (f : Ev) | o (f : Ev) | io (i : Nat)
def Arg.ev : Arg → Ev
  | .v f => evFz f
  | .o f => f
  | .io i => evMv i
/-- a slot that is to come back is taken when all are there -/
def runA : List Arg → Env → R (List O)
  | [], ρ => .ok [] ρ
  | .io i :: as, ρ => match ρ[i]? with
    | some (some _) => (runA as ρ).bind fun rs ρ1 => (evMv i ρ1).bind fun r ρ2 => .ok (r :: rs) ρ2
    | _ => .st
  | .v f :: as, ρ => (evFz f ρ).bind fun r ρ1 => (runA as ρ1).bind fun rs ρ2 => .ok (r :: rs) ρ2
  | .o f :: as, ρ => (f ρ).bind fun r ρ1 => (runA as ρ1).bind fun rs ρ2 => .ok (r :: rs) ρ2
theorem runA_cons {a : Arg} {as : List Arg} {ρ : Env} (h : ∀ i, a ≠ .io i) : runA (a :: as) ρ = (a.ev ρ).bind fun r ρ1 => (runA as ρ1).bind fun rs ρ2 => .ok (r :: rs) ρ2 := by
  cases a with
  | v f => rfl
  | o f => rfl
  | io i => exact absurd rfl (h i)
def IoAt (σ : L2.St) (a : Arg) (v : V) : Prop := match a with
  | .io i => σ[i]? = some (some v)
  | _ => True
inductive IoOk (σ : L2.St) : List Arg → List V → Prop
  | nil : IoOk σ [] []
  | cons {a : Arg} {v : V} {as : List Arg} {vs : List V} (h : IoAt σ a v) (t : IoOk σ as vs) : IoOk σ (a :: as) (v :: vs)
structure DArg (G : Gx) (X : Cx) (W : WX) (e : Expr) (a : Arg) : Prop where
  ex : match a with
    | .v f => DE G X W e f
    | .o f => DE G X W e f
    | .io i => PE X e (tVar i)
theorem da_v {G : Gx} {X : Cx} {W : WX} {e : Expr} {f : Ev} (h : DE G X W e f) : DArg G X W e (.v f) := ⟨h⟩
theorem da_o {G : Gx} {X : Cx} {W : WX} {e : Expr} {f : Ev} (h : DE G X W e f) : DArg G X W e (.o f) := ⟨h⟩
theorem da_io {G : Gx} {X : Cx} {W : WX} {e : Expr} {i : Nat} (p : PE X e (tVar i)) : DArg G X W e (.io i) := ⟨p⟩
def AS (G : Gx) (W : WX) (a : Arg) (t : TE) : Prop :=
    ∀ (σ : L2.St) (H M : Hp) (ρ : Env) (F : List Addr) (Q : VK), Wf M H F → SR G H M σ ρ F → a.ev ρ ≠ .st →
    (∀ r ρ', a.ev ρ = .ok r ρ' → ∀ v H' M' Fo F', Stp F H M H' M' (Fo ++ F') → RO G H' M' v r Fo → IoAt σ a v → SR G H' M' σ ρ' F' → Q v H') →
    (∀ x ρ', a.ev ρ = .er x ρ' → ∀ cls dd H' M' F', Stp F H M H' M' F' → RX G M' x cls dd → SR G H' M' σ ρ' F' → W cls dd σ H') → t σ H Q
theorem arg_run {G : Gx} {X : Cx} {W : WX} {e : Expr} {a : Arg} (h : DArg G X W e a) : ∃ t, PE X e t ∧ AS G W a t := by
  cases a with
  | v f =>
    have h' : DE G X W e f := h.ex
    obtain ⟨t, p, q⟩ := h'.ex
    exact ⟨t, p, fun σ H M ρ F Q w s hn hk he => es_fz q σ H M ρ F Q w s hn (fun o ρ' e v H' M' Fo F' st ro sr => hk o ρ' e v H' M' Fo F' st ro trivial sr) he⟩
  | o f =>
    have h' : DE G X W e f := h.ex
    obtain ⟨t, p, q⟩ := h'.ex
    exact ⟨t, p, fun σ H M ρ F Q w s hn hk he => q σ H M ρ F Q w s hn (fun o ρ' e v H' M' Fo F' st ro sr => hk o ρ' e v H' M' Fo F' st ro trivial sr) he⟩
  | io i =>
    refine ⟨_, h.ex, fun σ H M ρ F Q w s hn hk he => ?_⟩
    have hn' : evMv i ρ ≠ .st := hn
    have hk' : ∀ r ρ', evMv i ρ = .ok r ρ' → _ := hk
    unfold evMv at hn' hk'
    split at hn'
    · rename_i o e
      simp only [e] at hk'
      obtain ⟨v, Fo, F1, ev, ro, s1, pm⟩ := s.take e
      exact ⟨v, ev, hk' _ _ rfl v H M Fo F1 ((Stp.refl w).perm pm) ro ev s1⟩
    · exact absurd rfl hn'
def ASs (G : Gx) (W : WX) (as : List Arg) (t : TA) : Prop :=
    ∀ (σ : L2.St) (H M : Hp) (ρ : Env) (F : List Addr) (Q : List V → Hp → Prop), Wf M H F → SR G H M σ ρ F → runA as ρ ≠ .st →
    (∀ rs ρ', runA as ρ = .ok rs ρ' → ∀ vs H' M' Fo F', Stp F H M H' M' (Fo ++ F') → ROs G H' M' vs rs Fo → IoOk σ as vs → SR G H' M' σ ρ' F' → Q vs H') →
    (∀ x ρ', runA as ρ = .er x ρ' → ∀ cls dd H' M' F', Stp F H M H' M' F' → RX G M' x cls dd → SR G H' M' σ ρ' F' → W cls dd σ H') → t σ H Q
theorem ass_nil {G : Gx} {W : WX} : ASs G W [] tNil := fun σ H M ρ F Q w s _ hk _ => hk [] ρ rfl [] H M [] F (Stp.refl w) .nil .nil s
theorem ass_cons {G : Gx} {W : WX} {a : Arg} {as : List Arg} {t : TE} {ts : TA} (hno : ∀ i, a ≠ .io i) (h : AS G W a t) (hs : ASs G W as ts) : ASs G W (a :: as) (tCons t ts) := by
  intro σ H M ρ F Q w s hn hk he
  rw [runA_cons hno] at hn
  simp only [runA_cons hno] at hk he
  refine h σ H M ρ F _ w s (fun e => hn (by rw [e]; rfl)) (fun r ρ1 e1 v H1 M1 Fo F1 st1 hd1 io1 s1 => ?_) (fun x ρ1 e1 => he x ρ1 (by rw [e1]; rfl))
  rw [e1] at hn hk he
  simp only [R.bind_ok] at hn hk he
  have pc : (Fo ++ F1).Perm (F1 ++ Fo) := List.perm_append_comm
  refine hs σ H1 M1 ρ1 F1 _ st1.wf.right s1 (fun e => hn (by rw [e]; rfl)) (fun rs ρ2 e2 vs H2 M2 Fs F2 st2 hd2 io2 s2 => ?_) (fun x ρ2 e2 cls dd H2 M2 F2 st2 rx s2 => ?_)
  · have st3 := st2.frame (T := Fo) (st1.wf.perm pc)
    have k3 : KeepOn Fo H1 H2 := st2.keepOn st1.wf.disj
    exact hk (r :: rs) ρ2 (by rw [e2]; rfl) (v :: vs) H2 M2 (Fo ++ Fs) F2 (((st1.perm pc).trans st3).perm (perm3 _ _ _)) (.cons (hd1.mono st2.mm k3) hd2) (.cons io1 io2) s2
  · have st3 := st2.frame (T := Fo) (st1.wf.perm pc)
    exact he x ρ2 (by rw [e2]; rfl) cls dd H2 M2 F2 (((st1.perm pc).trans st3).sub st2.wf.nd fun a ha => List.mem_append_left _ ha) rx s2
theorem ass_io {G : Gx} {W : WX} {i : Nat} {as : List Arg} {ts : TA} (hs : ASs G W as ts) : ASs G W (.io i :: as) (tCons (tVar i) ts) := by
  intro σ H M ρ F Q w s hn hk he
  unfold runA at hn hk he
  split at hn
  · rename_i o0 e0
    simp only [e0] at hk he
    obtain ⟨v, _, _, ev, _, _, _⟩ := s.take e0
    refine ⟨v, ev, hs σ H M ρ F _ w s (fun e => hn (by rw [e]; rfl)) (fun rs ρ1 e1 vs H1 M1 Fs F1 st1 hd1 io1 s1 => ?_) (fun x ρ1 e1 => he x ρ1 (by rw [e1]; rfl))⟩
    rw [e1] at hn hk
    simp only [R.bind_ok] at hn hk
    unfold evMv at hn hk
    split at hn
    · rename_i o e2
      simp only [e2, R.bind_ok] at hk
      obtain ⟨v', Fo, F2, ev', ro, s2, pm⟩ := s1.take e2
      rw [ev] at ev'
      cases ev'
      refine hk (o :: rs) _ rfl (v :: vs) H1 M1 (Fo ++ Fs) F2 (st1.perm ?_) (.cons ro hd1) (.cons ev io1) s2
      refine (List.Perm.append_left Fs pm).trans ?_
      rw [← List.append_assoc]
      exact List.Perm.append_right _ List.perm_append_comm
    · exact absurd rfl hn
  · exact absurd rfl hn
structure DAs (G : Gx) (X : Cx) (W : WX) (es : List Expr) (as : List Arg) : Prop where
  ex : ∃ t, PA X es t ∧ ASs G W as t
theorem das_nil {G : Gx} {X : Cx} {W : WX} : DAs G X W [] [] := ⟨_, pa_nil, ass_nil⟩
theorem das_cons {G : Gx} {X : Cx} {W : WX} {e : Expr} {es : List Expr} {a : Arg} {as : List Arg} (h : DArg G X W e a) (hs : DAs G X W es as)
    (hst : starEach (e :: es) X.env = (false, eval e X.env) :: starEach es X.env := by rfl) : DAs G X W (e :: es) (a :: as) := by
  obtain ⟨ts, ps, qs⟩ := hs.ex
  by_cases hio : ∃ i, a = .io i
  · obtain ⟨i, rfl⟩ := hio
    exact ⟨_, pa_cons h.ex ps hst, ass_io qs⟩
  · obtain ⟨t, p, q⟩ := arg_run h
    exact ⟨_, pa_cons p ps hst, ass_cons (fun i e => hio ⟨i, e⟩) q qs⟩

theorem ROs.length {G : Gx} {H M : Hp} : ∀ {vs : List V} {os : List O} {F : List Addr}, ROs G H M vs os F → vs.length = os.length
  | _, _, _, .nil => rfl
  | _, _, _, .cons _ t => by simp [t.length]
theorem frOs_length : ∀ os : List O, (frOs os).length = os.length
  | [] => by unfold frOs; rfl
  | o :: os => by unfold frOs; simp [frOs_length os]
theorem ROs.freeze {G : Gx} {H M : Hp} {vs : List V} {os : List O} {Fo F : List Addr} (r : ROs G H M vs os Fo) (w : Wf M H (Fo ++ F)) : ∃ M', RDs G M' vs (frOs os) ∧ Stp (Fo ++ F) H M H M' F := by
  obtain ⟨M', k, e, s⟩ := frzM w
  exact ⟨M', (r.frz e k).1, s⟩

/-- an operation that keeps what it is given -/
def AOp (G : Gx) (r : List V → Hp → VK → Prop) (g : List D → Option O) : Prop :=
  ∀ (vs : List V) (ds : List D) (H M : Hp) (o : O) (Q : VK), Same M H → RDs G M vs ds → g ds = some o →
    (∀ v H' M' Fo, Pst H M H' M' → RO G H' M' v o Fo → Fresh H H' M' Fo → Q v H') → r vs H Q
def opA (as : List Arg) (g : List D → Option O) : Ev := fun ρ => (runA as ρ).bind fun rs ρ' => match g (frOs rs) with
  | some o => .ok o ρ'
  | none => .st
theorem es_opA {G : Gx} {W : WX} {as : List Arg} {t : TA} {r : List V → Hp → VK → Prop} {g : List D → Option O} (h : ASs G W as t) (v : AOp G r g) : ES G W (fun σ H Q => t σ H fun vs H1 => r vs H1 Q) (opA as g) := by
  intro σ H M ρ F Q w s hn hk he
  unfold opA at hn hk he
  refine h σ H M ρ F _ w s (fun e => hn (by rw [e]; rfl)) (fun rs ρ1 e1 vs H1 M1 Fo F1 st1 hd1 _ s1 => ?_) (fun x ρ1 e1 => he x ρ1 (by rw [e1]; rfl))
  rw [e1] at hn hk
  simp only [R.bind_ok] at hn hk
  split at hn
  · rename_i o eo
    simp only [eo] at hk
    obtain ⟨M2, rv, st2⟩ := hd1.freeze st1.wf
    refine v vs _ H1 M2 o Q st2.wf.sm rv eo fun v' H' M' Fo' ps ro fr => ?_
    have st3 := ps.grow fr st2.wf
    exact hk o ρ1 rfl v' H' M' Fo' F1 ((st1.trans st2).trans st3) ro ((s1.mono st2.mm (keepOn_refl _ _)).mono ps.mm fun a ha x e => ps.hh a x e)
  · exact absurd rfl hn

/-! displays -/
def gTupD : List D → Option O := fun ds => if ds.length ≤ LIM then some (.fr (.tup ds)) else none
def gLstD : List D → Option O := fun ds => if ds.length ≤ LIM then some (.ls ds) else none
theorem RO.newT {G : Gx} {H M : Hp} {p : Addr} {xs : List V} {ds : List D} (sm : Same M H) (hp : H p = none) (r : RDs G M xs ds) (l : ds.length ≤ LIM) : RO G (upd H p (.tup xs)) (upd M p (.tup xs)) (.ref p) (.fr (.tup ds)) [] :=
  .fr (.tup (.inl (.inl upd_same)) (r.mono (same_new (sm.free hp))) l)
theorem RO.newL {G : Gx} {H M : Hp} {p : Addr} {xs : List V} {ds : List D} (r : RDs G M xs ds) (l : ds.length ≤ LIM) : RO G (upd H p (.lst xs)) M (.ref p) (.ls ds) [p] := .ls upd_same r l
theorem le_line {n : Nat} (h : n ≤ LIM) : n ≤ sizeLine := Nat.le_trans h (Nat.le_of_lt LIM_line)
theorem ao_tup {G : Gx} : AOp G (fun xs H1 Q => xs.length ≤ sizeLine ∧ ∀ p, H1 p = none → Q (.ref p) (upd H1 p (.tup xs))) gTupD := by
  intro vs ds H M o Q sm rd e k
  unfold gTupD at e
  split at e
  · rename_i l
    cases e
    refine ⟨by rw [rd.length]; exact le_line l, fun p hp => ?_⟩
    exact k _ _ (upd M p (.tup vs)) [] (.newF sm hp) (RO.newT sm hp rd l) .nil
  · cases e
theorem ao_lst {G : Gx} : AOp G (fun xs H1 Q => xs.length ≤ sizeLine ∧ ∀ p, H1 p = none → Q (.ref p) (upd H1 p (.lst xs))) gLstD := by
  intro vs ds H M o Q sm rd e k
  unfold gLstD at e
  split at e
  · rename_i l
    cases e
    refine ⟨by rw [rd.length]; exact le_line l, fun p hp => ?_⟩
    exact k _ _ M [p] (.newO sm hp) (RO.newL rd l) (.one hp (sm.free hp))
  · cases e
def evTup (as : List Arg) : Ev := opA as gTupD
def evLst (as : List Arg) : Ev := opA as gLstD
theorem de_tup {G : Gx} {X : Cx} {W : WX} {es : List Expr} {as : List Arg} {x1 pos} (h : DAs G X W es as) : DE G X W (.Tuple es x1 pos) (evTup as) := by
  obtain ⟨t, p, q⟩ := h.ex
  exact ⟨_, pe_tup p, es_opA q ao_tup⟩
theorem de_lst {G : Gx} {X : Cx} {W : WX} {es : List Expr} {as : List Arg} {pos} (h : DAs G X W es as) : DE G X W (.List es pos) (evLst as) := by
  obtain ⟨t, p, q⟩ := h.ex
  exact ⟨_, pe_lst p, es_opA q ao_lst⟩

/-! ### defs -/
inductive FR where
  | ok (r : O) (outs : List (Option O)) | er (x : Exn) | st
abbrev Fsem := List O → FR
inductive Outs (G : Gx) (H M : Hp) : List V → List (Option O) → List Addr → Prop
  | nil : Outs G H M [] [] []
  | no {v : V} {vs : List V} {os : List (Option O)} {F : List Addr} (t : Outs G H M vs os F) : Outs G H M (v :: vs) (none :: os) F
  | so {v : V} {o : O} {vs : List V} {os : List (Option O)} {Fo F : List Addr} (h : RO G H M v o Fo) (t : Outs G H M vs os F) : Outs G H M (v :: vs) (some o :: os) (Fo ++ F)
def spOf (G : Gx) (n : Nat) (sem : Fsem) : Sp := fun vs H Q E => vs.length = n ∧ ∃ M os F, Wf M H F ∧ ROs G H M vs os F ∧ sem os ≠ .st ∧
  (∀ r outs, sem os = .ok r outs → ∀ v H' M' Fr Fo, Stp F H M H' M' (Fr ++ Fo) → RO G H' M' v r Fr → Outs G H' M' vs outs Fo → Q v H') ∧
  (∀ x, sem os = .er x → ∀ cls dd H' M', Stp F H M H' M' [] → RX G M' x cls dd → E cls dd H')
def putBack : List Arg → List (Option O) → Env → Option Env
  | [], [], ρ => some ρ
  | .io i :: as, some o :: outs, ρ => match ρ[i]? with
    | some none => putBack as outs (ρ.set i (some o))
    | _ => none
  | _ :: as, _ :: outs, ρ => putBack as outs ρ
  | _, _, _ => none
theorem put_ok {G : Gx} {σ : L2.St} {H M : Hp} : ∀ {as : List Arg} {vs : List V} {outs : List (Option O)} {Fo F : List Addr} {ρ ρ' : Env}, IoOk σ as vs → Outs G H M vs outs Fo → SR G H M σ ρ F → putBack as outs ρ = some ρ' →
    ∃ F1, SR G H M σ ρ' F1 ∧ (∀ a ∈ F1, a ∈ Fo ++ F) ∧ ((Fo ++ F).Nodup → F1.Nodup)
  | [], _, _, _, F, ρ, ρ', _, .nil, s, e => by
    cases e
    exact ⟨F, s, fun a h => h, fun h => h⟩
  | .io i :: as, _, _, _, F, ρ, ρ', .cons h t, .so (o := o) (Fo := Fa) (F := Fb) ro t2, s, e => by
    unfold putBack at e
    split at e
    · rename_i e0
      obtain ⟨F1, s1, pm⟩ := s.put_same ro e0 h
      obtain ⟨F2, s2, m2, n2⟩ := put_ok t t2 s1 e
      refine ⟨F2, s2, fun a ha => ?_, fun hnd => n2 ?_⟩
      · rcases List.mem_append.mp (m2 a ha) with h1 | h1
        · exact List.mem_append_left _ (List.mem_append_right _ h1)
        · rcases List.mem_append.mp (pm.mem_iff.mp h1) with h2 | h2
          · exact List.mem_append_left _ (List.mem_append_left _ h2)
          · exact List.mem_append_right _ h2
      · have p1 : (Fa ++ Fb ++ F).Perm (Fb ++ F1) := by
          refine (List.Perm.append_right F List.perm_append_comm).trans ?_
          rw [List.append_assoc]
          exact List.Perm.append_left _ pm.symm
        exact p1.nodup_iff.mp hnd
    · cases e
  | .io i :: as, _, _, _, F, ρ, ρ', .cons h t, .no t2, s, e => by
    unfold putBack at e
    exact put_ok t t2 s e
  | .v f :: as, _, _, _, F, ρ, ρ', .cons h t, .no t2, s, e => by
    unfold putBack at e
    exact put_ok t t2 s e
  | .v f :: as, _, _, _, F, ρ, ρ', .cons h t, .so (o := o) (Fo := Fa) (F := Fb) ro t2, s, e => by
    unfold putBack at e
    obtain ⟨F2, s2, m2, n2⟩ := put_ok t t2 s e
    refine ⟨F2, s2, fun a ha => ?_, fun hnd => n2 ?_⟩
    · rcases List.mem_append.mp (m2 a ha) with h1 | h1
      · exact List.mem_append_left _ (List.mem_append_right _ h1)
      · exact List.mem_append_right _ h1
    · rw [List.append_assoc] at hnd
      exact (List.nodup_append.mp hnd).2.1
  | .o f :: as, _, _, _, F, ρ, ρ', .cons h t, .no t2, s, e => by
    unfold putBack at e
    exact put_ok t t2 s e
  | .o f :: as, _, _, _, F, ρ, ρ', .cons h t, .so (o := o) (Fo := Fa) (F := Fb) ro t2, s, e => by
    unfold putBack at e
    obtain ⟨F2, s2, m2, n2⟩ := put_ok t t2 s e
    refine ⟨F2, s2, fun a ha => ?_, fun hnd => n2 ?_⟩
    · rcases List.mem_append.mp (m2 a ha) with h1 | h1
      · exact List.mem_append_left _ (List.mem_append_right _ h1)
      · exact List.mem_append_right _ h1
    · rw [List.append_assoc] at hnd
      exact (List.nodup_append.mp hnd).2.1
/-- f(..) -/
def evCall (sem : Fsem) (as : List Arg) : Ev := fun ρ => (runA as ρ).bind fun rs ρ1 => match sem rs with
  | .ok r outs => (match putBack as outs ρ1 with
    | some ρ2 => .ok r ρ2
    | none => .st)
  | .er x => .er x ρ1
  | .st => .st
/-- a def that keeps its sem -/
structure Fn (P : Program) (w : World) (G : Gx) (mg : Str → Option Value) (base : Heap) (k : Nat) (x : Str) (n : Nat) (sem : Fsem) : Prop where
  ex : ∃ f fd ps, mg x = some (.ref f) ∧ PySem.W.keepIn G.K (.ref f) = true ∧ Binds G.K fd ps [] ∧ FnOk P w G.K mg base (L2.CX P w) k f fd ps (spOf G n sem)
theorem es_call {G : Gx} {W : WX} {as : List Arg} {n : Nat} {t : TA} {sem : Fsem} (h : ASs G W as t) (hl : as.length = n) : ES G W (fun σ H Q => t σ H fun vs H1 => spOf G n sem vs H1 Q (WE W σ)) (evCall sem as) := by
  intro σ H M ρ F Q w s hn hk he
  unfold evCall at hn hk he
  refine h σ H M ρ F _ w s (fun e => hn (by rw [e]; rfl)) (fun rs ρ1 e1 vs H1 M1 Fo F1 st1 hd1 io1 s1 => ?_) (fun x ρ1 e1 => he x ρ1 (by rw [e1]; rfl))
  rw [e1] at hn hk he
  simp only [R.bind_ok] at hn hk he
  have lv : ∀ {as : List Arg} {vs : List V}, IoOk σ as vs → vs.length = as.length := by
    intro as vs z
    induction z with
    | nil => rfl
    | cons _ _ ih => simp [ih]
  refine ⟨by rw [lv io1, hl], M1, rs, Fo, st1.wf.left, hd1, fun e => hn (by rw [e]), fun r outs e2 v H2 M2 Fr Fu st2 ro ou => ?_, fun x e2 cls dd H2 M2 st2 rx => ?_⟩
  · rw [e2] at hn hk
    simp only at hn hk
    have st3 := st2.frame (T := F1) st1.wf
    have s2 : SR G H2 M2 σ ρ1 F1 := s1.mono st2.mm (st2.keepOn st1.wf.disj')
    split at hn
    · rename_i ρ2 e3
      simp only [e3] at hk
      obtain ⟨F2, s3, m3, n3⟩ := put_ok io1 ou s2 e3
      have nd : (Fr ++ (Fu ++ F1)).Nodup := by rw [← List.append_assoc]; exact st3.wf.nd
      have nd2 := n3 (List.nodup_append.mp nd).2.1
      refine hk r ρ2 rfl v H2 M2 Fr F2 ((st1.trans st3).sub ?_ fun a ha => ?_) ro s3
      · exact List.nodup_append.mpr ⟨(List.nodup_append.mp nd).1, nd2, fun a ha b hb e => (List.nodup_append.mp nd).2.2 a ha b (m3 b hb) e⟩
      · rw [List.append_assoc]
        rcases List.mem_append.mp ha with h1 | h1
        · exact List.mem_append_left _ h1
        · exact List.mem_append_right _ (m3 a h1)
    · exact absurd rfl hn
  · rw [e2] at he
    have st3 := st2.frame (T := F1) st1.wf
    have s2 : SR G H2 M2 σ ρ1 F1 := s1.mono st2.mm (st2.keepOn st1.wf.disj')
    exact he x ρ1 rfl cls dd H2 M2 F1 (st1.trans st3) rx s2
theorem de_call {G : Gx} {X : Cx} {W : WX} {k n : Nat} {x : Str} {p pos : Pos} {e : Expr} {es : List Expr} {as : List Arg} {sem : Fsem} (F : Fn X.prog X.w G X.mg X.base k x n sem) (hr : Room k X.A) (tk : Takes X W) (ha : DAs G X W (e :: es) as) (hl : as.length = n)
    (hg : Gl X x := by rfl) (hK : X.K = G.K := by rfl) (hdb : (x == ("__debug__" : Str)) = false := by decide) (he : starEach (e :: es) X.env = (false, eval e X.env) :: starEach es X.env := by rfl) (hpl : (backTo pos (starEach es X.env)).any (·.1) = false := by rfl) :
    DE G X W (.Call (.Name x p) (e :: es) [] pos) (evCall sem as) := by
  obtain ⟨f, fd, ps, h1, h2, h3, h4⟩ := F.ex
  obtain ⟨t, pt, q⟩ := ha.ex
  rw [← hK] at h2 h3 h4
  exact ⟨_, pe_callS h4 hr hg h1 h2 h3 (fun σ => passAt tk σ) pt hdb he hpl, es_call q hl⟩
end PV

set_option Elab.async false
set_option linter.all false
set_option maxRecDepth 100000
/-! PV: tests, statements, defs -/
namespace PV
open PySem PySem.Spec PyProof.Rows L2

/-! ### tests -/
def etB (f : Ev) : Et := fun ρ => (f ρ).bind fun o ρ' => match o with
  | .fr (.bl b) => .ok b ρ'
  | _ => .st
theorem ts_val {G : Gx} {W : WX} {t : TE} {f : Ev} (h : ES G W t f) : TS' G W (tB t) (etB f) := by
  intro σ H M ρ F Q w s hn hk he
  unfold etB at hn hk he
  refine h σ H M ρ F _ w s (fun e => hn (by rw [e]; rfl)) (fun o ρ' e v H' M' Fo F' st ro sr => ?_) (fun x ρ' e => he x ρ' (by rw [e]; rfl))
  rw [e] at hn hk
  simp only [R.bind_ok] at hn hk
  split at hn
  · rename_i b
    cases ro with
    | fr h => cases h with
      | bl b => exact ⟨b, rfl, hk b ρ' rfl H' M' F' st sr⟩
  · exact absurd rfl hn
theorem dt_val {G : Gx} {X : Cx} {W : WX} {e : Expr} {f : Ev} (h : DE G X W e f) (he : ∀ whole, isTrue e X.env whole = (do let v ← whole; standAt e.pos; holding [v] (truthy v)) := by intro _; rfl) : DT G X W e (etB f) := by
  obtain ⟨t, p, q⟩ := h.ex
  exact ⟨_, pt_val p he, ts_val q⟩
def etNot (f : Et) : Et := fun ρ => (f ρ).bind fun b ρ' => .ok (!b) ρ'
def etAnd (f g : Et) : Et := fun ρ => (f ρ).bind fun b ρ' => if b = true then g ρ' else .ok false ρ'
def etOr (f g : Et) : Et := fun ρ => (f ρ).bind fun b ρ' => if b = true then .ok true ρ' else g ρ'
theorem ts_not {G : Gx} {W : WX} {t : TT} {f : Et} (h : TS' G W t f) : TS' G W (tNot t) (etNot f) := by
  intro σ H M ρ F Q w s hn hk he
  unfold etNot at hn hk he
  exact h σ H M ρ F _ w s (fun e => hn (by rw [e]; rfl)) (fun b ρ' e H' M' F' st sr => hk (!b) ρ' (by rw [e]; rfl) H' M' F' st sr) (fun x ρ' e => he x ρ' (by rw [e]; rfl))
theorem ts_and {G : Gx} {W : WX} {t u : TT} {f g : Et} (h : TS' G W t f) (h2 : TS' G W u g) : TS' G W (tAnd t u) (etAnd f g) := by
  intro σ H M ρ F Q w s hn hk he
  unfold etAnd at hn hk he
  refine h σ H M ρ F _ w s (fun e => hn (by rw [e]; rfl)) (fun b ρ' e H' M' F' st sr => ?_) (fun x ρ' e => he x ρ' (by rw [e]; rfl))
  rw [e] at hn hk he
  simp only [R.bind_ok] at hn hk he
  cases b with
  | false => exact hk false ρ' rfl H' M' F' st sr
  | true =>
    show u σ H' Q
    exact h2 σ H' M' ρ' F' Q st.wf sr hn (fun b2 ρ2 e2 H2 M2 F2 st2 sr2 => hk b2 ρ2 e2 H2 M2 F2 (st.trans st2) sr2) (fun x ρ2 e2 cls dd H2 M2 F2 st2 rx sr2 => he x ρ2 e2 cls dd H2 M2 F2 (st.trans st2) rx sr2)
theorem ts_or {G : Gx} {W : WX} {t u : TT} {f g : Et} (h : TS' G W t f) (h2 : TS' G W u g) : TS' G W (tOr t u) (etOr f g) := by
  intro σ H M ρ F Q w s hn hk he
  unfold etOr at hn hk he
  refine h σ H M ρ F _ w s (fun e => hn (by rw [e]; rfl)) (fun b ρ' e H' M' F' st sr => ?_) (fun x ρ' e => he x ρ' (by rw [e]; rfl))
  rw [e] at hn hk he
  simp only [R.bind_ok] at hn hk he
  cases b with
  | true => exact hk true ρ' rfl H' M' F' st sr
  | false =>
    show u σ H' Q
    exact h2 σ H' M' ρ' F' Q st.wf sr hn (fun b2 ρ2 e2 H2 M2 F2 st2 sr2 => hk b2 ρ2 e2 H2 M2 F2 (st.trans st2) sr2) (fun x ρ2 e2 cls dd H2 M2 F2 st2 rx sr2 => he x ρ2 e2 cls dd H2 M2 F2 (st.trans st2) rx sr2)
theorem dt_not {G : Gx} {X : Cx} {W : WX} {e : Expr} {f : Et} {pos} (h : DT G X W e f) : DT G X W (.UnaryOp .Not e pos) (etNot f) := by
  obtain ⟨t, p, q⟩ := h.ex
  exact ⟨_, pt_not p, ts_not q⟩
/-- and, or, whatever the whole is -/
structure DW (G : Gx) (X : Cx) (W : WX) (e : Expr) (f : Et) : Prop where
  ex : ∃ t, PW X e t ∧ TS' G W t f
theorem DW.dt {G : Gx} {X : Cx} {W : WX} {e : Expr} {f : Et} (h : DW G X W e f) : DT G X W e f := by
  obtain ⟨t, p, q⟩ := h.ex
  exact ⟨_, p.pt, q⟩
theorem dw_and1 {G : Gx} {X : Cx} {W : WX} {e : Expr} {f : Et} {pos} (h : DT G X W e f) : DW G X W (.BoolOp .And [e] pos) f := by
  obtain ⟨t, p, q⟩ := h.ex
  exact ⟨_, pw_and1 p, q⟩
theorem dw_or1 {G : Gx} {X : Cx} {W : WX} {e : Expr} {f : Et} {pos} (h : DT G X W e f) : DW G X W (.BoolOp .Or [e] pos) f := by
  obtain ⟨t, p, q⟩ := h.ex
  exact ⟨_, pw_or1 p, q⟩
theorem dw_and {G : Gx} {X : Cx} {W : WX} {a b : Expr} {rest : List Expr} {f g : Et} {pos} (h : DT G X W a f) (h2 : DW G X W (.BoolOp .And (b :: rest) pos) g) : DW G X W (.BoolOp .And (a :: b :: rest) pos) (etAnd f g) := by
  obtain ⟨t, p, q⟩ := h.ex
  obtain ⟨t2, p2, q2⟩ := h2.ex
  exact ⟨_, pw_and p p2, ts_and q q2⟩
theorem dw_or {G : Gx} {X : Cx} {W : WX} {a b : Expr} {rest : List Expr} {f g : Et} {pos} (h : DT G X W a f) (h2 : DW G X W (.BoolOp .Or (b :: rest) pos) g) : DW G X W (.BoolOp .Or (a :: b :: rest) pos) (etOr f g) := by
  obtain ⟨t, p, q⟩ := h.ex
  obtain ⟨t2, p2, q2⟩ := h2.ex
  exact ⟨_, pw_or p p2, ts_or q q2⟩

/-! ### the same as values -/
def evNot (f : Ev) : Ev := fun ρ => (etB f ρ).bind fun b ρ' => .ok (.fr (.bl (!b))) ρ'
def evAnd (f g : Ev) : Ev := fun ρ => (etB f ρ).bind fun b ρ' => if b = true then g ρ' else .ok (.fr (.bl false)) ρ'
def evOr (f g : Ev) : Ev := fun ρ => (etB f ρ).bind fun b ρ' => if b = true then .ok (.fr (.bl true)) ρ' else g ρ'
def evIf (c : Et) (f g : Ev) : Ev := fun ρ => (c ρ).bind fun b ρ' => if b = true then f ρ' else g ρ'
theorem es_seqB {G : Gx} {W : WX} {c : TT} {et : Et} {k : Bool → Env → R O} {tk : Bool → TE} (h : TS' G W c et) (hk : ∀ b, ES G W (tk b) (k b)) : ES G W (fun σ H Q => c σ H fun b H1 => tk b σ H1 Q) (fun ρ => (et ρ).bind k) := by
  intro σ H M ρ F Q w s hn0 hq0 he0
  have hn : (et ρ).bind k ≠ .st := hn0
  have hq : ∀ o ρ', (et ρ).bind k = .ok o ρ' → _ := hq0
  have he : ∀ x ρ', (et ρ).bind k = .er x ρ' → _ := he0
  refine h σ H M ρ F _ w s (fun e => hn (by rw [e]; rfl)) (fun b ρ' e H' M' F' st sr => ?_) (fun x ρ' e => he x ρ' (by rw [e]; rfl))
  rw [e] at hn hq he
  simp only [R.bind_ok] at hn hq he
  exact hk b σ H' M' ρ' F' Q st.wf sr hn (fun o ρ2 e2 v H2 M2 Fo F2 st2 ro sr2 => hq o ρ2 e2 v H2 M2 Fo F2 (st.trans st2) ro sr2) (fun x ρ2 e2 cls dd H2 M2 F2 st2 rx sr2 => he x ρ2 e2 cls dd H2 M2 F2 (st.trans st2) rx sr2)
theorem de_not {G : Gx} {X : Cx} {W : WX} {e : Expr} {f : Ev} {pos} (h : DE G X W e f) : DE G X W (.UnaryOp .Not e pos) (evNot f) := by
  obtain ⟨t, p, q⟩ := h.ex
  refine ⟨_, pe_not p, ?_⟩
  intro σ H M ρ F Q w s hn hk he
  refine (ts_val q) σ H M ρ F (fun b H1 => Q (.bl (!b)) H1) w s (fun e => hn (by unfold evNot; rw [e]; rfl)) (fun b ρ' e H' M' F' st sr => ?_) (fun x ρ' e => he x ρ' (by unfold evNot; rw [e]; rfl))
  exact hk _ _ (by unfold evNot; rw [e]; rfl) _ H' M' [] F' st (.fr (.bl _)) sr
theorem es_const' {G : Gx} {W : WX} {v : V} {d : D} (h : ∀ M, RD G M v d) : ES G W (fun _ H Q => Q v H) (fun ρ => .ok (.fr d) ρ) := es_const h
theorem de_and1 {G : Gx} {X : Cx} {W : WX} {e : Expr} {f : Ev} {op} {pos} (h : DE G X W e f) : DE G X W (.BoolOp op [e] pos) f := by
  obtain ⟨t, p, q⟩ := h.ex
  exact ⟨_, pe_one p, q⟩
theorem de_and {G : Gx} {X : Cx} {W : WX} {a b : Expr} {rest : List Expr} {f g : Ev} {pos} (h : DE G X W a f) (h2 : DE G X W (.BoolOp .And (b :: rest) pos) g) : DE G X W (.BoolOp .And (a :: b :: rest) pos) (evAnd f g) := by
  obtain ⟨t, p, q⟩ := h.ex
  obtain ⟨t2, p2, q2⟩ := h2.ex
  refine ⟨_, pe_and p p2, ?_⟩
  intro σ H M ρ F Q w s hn hk he
  have z := es_seqB (tk := fun b => if b = true then t2 else fun _ H Q => Q (.bl false) H) (k := fun b ρ' => if b = true then g ρ' else .ok (.fr (.bl false)) ρ') (ts_val q) (fun b => by
    cases b with
    | true => exact q2
    | false => exact es_const' fun _ => .bl false) σ H M ρ F Q w s hn hk he
  obtain ⟨x, H1, hx⟩ : ∃ x : Unit, ∃ y : Unit, True := ⟨(), (), trivial⟩
  have mono : tAndV t t2 = fun σ H Q => tB t σ H fun b H1 => (if b = true then t2 else fun _ H Q => Q (.bl false) H) σ H1 Q := by
    funext σ H Q
    unfold tAndV tB
    congr 1
    funext x H1
    apply propext
    constructor
    · rintro ⟨c, rfl, z⟩
      refine ⟨c, rfl, ?_⟩
      cases c with
      | true => exact z
      | false => exact z
    · rintro ⟨c, rfl, z⟩
      refine ⟨c, rfl, ?_⟩
      cases c with
      | true => exact z
      | false => exact z
  rw [mono]
  exact z
theorem de_or {G : Gx} {X : Cx} {W : WX} {a b : Expr} {rest : List Expr} {f g : Ev} {pos} (h : DE G X W a f) (h2 : DE G X W (.BoolOp .Or (b :: rest) pos) g) : DE G X W (.BoolOp .Or (a :: b :: rest) pos) (evOr f g) := by
  obtain ⟨t, p, q⟩ := h.ex
  obtain ⟨t2, p2, q2⟩ := h2.ex
  refine ⟨_, pe_or p p2, ?_⟩
  intro σ H M ρ F Q w s hn hk he
  have z := es_seqB (tk := fun b => if b = true then (fun _ H Q => Q (.bl true) H) else t2) (k := fun b ρ' => if b = true then .ok (.fr (.bl true)) ρ' else g ρ') (ts_val q) (fun b => by
    cases b with
    | false => exact q2
    | true => exact es_const' fun _ => .bl true) σ H M ρ F Q w s hn hk he
  have mono : tOrV t t2 = fun σ H Q => tB t σ H fun b H1 => (if b = true then (fun _ H Q => Q (.bl true) H) else t2 : TE) σ H1 Q := by
    funext σ H Q
    unfold tOrV tB
    congr 1
    funext x H1
    apply propext
    constructor
    · rintro ⟨c, rfl, z⟩
      refine ⟨c, rfl, ?_⟩
      cases c with
      | true => exact z
      | false => exact z
    · rintro ⟨c, rfl, z⟩
      refine ⟨c, rfl, ?_⟩
      cases c with
      | true => exact z
      | false => exact z
  rw [mono]
  exact z
theorem de_ifExp {G : Gx} {X : Cx} {W : WX} {c a b : Expr} {et : Et} {f g : Ev} {pos} (hc : DT G X W c et) (ha : DE G X W a f) (hb : DE G X W b g) : DE G X W (.IfExp c a b pos) (evIf et f g) := by
  obtain ⟨t, p, q⟩ := hc.ex
  obtain ⟨t1, p1, q1⟩ := ha.ex
  obtain ⟨t2, p2, q2⟩ := hb.ex
  refine ⟨_, pe_ifExp p p1 p2, ?_⟩
  intro σ H M ρ F Q w s hn hk he
  have z := es_seqB (tk := fun b => if b = true then t1 else t2) (k := fun b ρ' => if b = true then f ρ' else g ρ') q (fun b => by
    cases b with
    | true => exact q1
    | false => exact q2) σ H M ρ F Q w s hn hk he
  have mono : tIf t t1 t2 = fun σ H Q => t σ H fun b H1 => (if b = true then t1 else t2) σ H1 Q := by
    funext σ H Q
    unfold tIf
    congr 1
    funext b H1
    cases b <;> rfl
  rw [mono]
  exact z

/-! ### statements -/
inductive Z where
  | nx (ρ : Env) | rt (o : O) (ρ : Env) | bk (ρ : Env) | ct (ρ : Env) | er (x : Exn) (ρ : Env) | st
abbrev Sv := Env → Z
def Pin (P : List Bool) (σ σ' : L2.St) : Prop := σ'.length = σ.length ∧ ∀ (i : Nat), P[i]? = some true → σ'[i]? = σ[i]?
theorem Pin.refl {P : List Bool} {σ : L2.St} : Pin P σ σ := ⟨rfl, fun _ _ => rfl⟩
theorem Pin.trans {P : List Bool} {σ σ1 σ2 : L2.St} (a : Pin P σ σ1) (b : Pin P σ1 σ2) : Pin P σ σ2 := ⟨b.1.trans a.1, fun i h => (b.2 i h).trans (a.2 i h)⟩
theorem Pin.set {P : List Bool} {σ : L2.St} {i : Nat} {v : Option V} (h : P[i]? ≠ some true) : Pin P σ (σ.set i v) := ⟨List.length_set, fun j hj => by
  rw [List.getElem?_set_ne]
  intro e
  subst e
  exact h hj⟩
structure Kon (G : Gx) (W : WX) (P : List Bool) (F : List Addr) (H M : Hp) (σ : L2.St) (z : Z) (D : Ends) : Prop where
  nx : ∀ ρ', z = .nx ρ' → ∀ σ' H' M' F', Stp F H M H' M' F' → SR G H' M' σ' ρ' F' → Pin P σ σ' → D.nx σ' H'
  bk : ∀ ρ', z = .bk ρ' → ∀ σ' H' M' F', Stp F H M H' M' F' → SR G H' M' σ' ρ' F' → Pin P σ σ' → D.bk σ' H'
  ct : ∀ ρ', z = .ct ρ' → ∀ σ' H' M' F', Stp F H M H' M' F' → SR G H' M' σ' ρ' F' → Pin P σ σ' → D.ct σ' H'
  rt : ∀ o ρ', z = .rt o ρ' → ∀ v σ' H' M' Fo F', Stp F H M H' M' (Fo ++ F') → RO G H' M' v o Fo → SR G H' M' σ' ρ' F' → Pin P σ σ' → D.rt v H'
  er : ∀ x ρ', z = .er x ρ' → ∀ cls dd σ' H' M' F', Stp F H M H' M' F' → RX G M' x cls dd → SR G H' M' σ' ρ' F' → Pin P σ σ' → W cls dd σ' H'
theorem Kon.step {G : Gx} {W : WX} {P : List Bool} {F F' : List Addr} {H M H' M' : Hp} {σ σ' : L2.St} {z : Z} {D : Ends} (k : Kon G W P F H M σ z D) (s : Stp F H M H' M' F') (p : Pin P σ σ') : Kon G W P F' H' M' σ' z D :=
  ⟨fun ρ' e σ2 H2 M2 F2 st sr pn => k.nx ρ' e σ2 H2 M2 F2 (s.trans st) sr (p.trans pn), fun ρ' e σ2 H2 M2 F2 st sr pn => k.bk ρ' e σ2 H2 M2 F2 (s.trans st) sr (p.trans pn), fun ρ' e σ2 H2 M2 F2 st sr pn => k.ct ρ' e σ2 H2 M2 F2 (s.trans st) sr (p.trans pn),
    fun o ρ' e v σ2 H2 M2 Fo F2 st ro sr pn => k.rt o ρ' e v σ2 H2 M2 Fo F2 (s.trans st) ro sr (p.trans pn), fun x ρ' e cls dd σ2 H2 M2 F2 st rx sr pn => k.er x ρ' e cls dd σ2 H2 M2 F2 (s.trans st) rx sr (p.trans pn)⟩
def SS (G : Gx) (W : WX) (P : List Bool) (t : TS) (g : Sv) : Prop :=
  ∀ (σ : L2.St) (H M : Hp) (ρ : Env) (F : List Addr) (D : Ends), Wf M H F → SR G H M σ ρ F → g ρ ≠ .st → Kon G W P F H M σ (g ρ) D → t D σ H
structure DS (G : Gx) (X : Cx) (W : WX) (P : List Bool) (st : Stmt) (g : Sv) : Prop where
  ex : ∃ t, PS X st t ∧ SS G W P t g
structure DSs (G : Gx) (X : Cx) (W : WX) (P : List Bool) (sts : List Stmt) (g : Sv) : Prop where
  ex : ∃ t, PSs X sts t ∧ SS G W P t g

def gNx : Sv := fun ρ => .nx ρ
def gSeq (a b : Sv) : Sv := fun ρ => match a ρ with
  | .nx ρ1 => b ρ1
  | z => z
theorem ss_next {G : Gx} {W : WX} {P : List Bool} : SS G W P tNext gNx := fun σ H M ρ F D w s _ k => k.nx ρ rfl σ H M F (Stp.refl w) s .refl
theorem ss_seq {G : Gx} {W : WX} {P : List Bool} {t u : TS} {a b : Sv} (ha : SS G W P t a) (hb : SS G W P u b) : SS G W P (tSeq t u) (gSeq a b) := by
  intro σ H M ρ F D w s hn k
  unfold gSeq at hn k
  refine ha σ H M ρ F { D with nx := u D } w s (fun e => hn (by rw [e])) ⟨fun ρ' e σ' H' M' F' st sr pn => ?_, fun ρ' e => ?_, fun ρ' e => ?_, fun o ρ' e => ?_, fun x ρ' e => ?_⟩
  · rw [e] at hn k
    exact hb σ' H' M' ρ' F' D st.wf sr hn (k.step st pn)
  · rw [e] at k; exact k.bk ρ' rfl
  · rw [e] at k; exact k.ct ρ' rfl
  · rw [e] at k; exact k.rt o ρ' rfl
  · rw [e] at k; exact k.er x ρ' rfl
theorem dss_nil {G : Gx} {X : Cx} {W : WX} {P : List Bool} : DSs G X W P [] gNx := ⟨_, pss_nil, ss_next⟩
theorem dss_one {G : Gx} {X : Cx} {W : WX} {P : List Bool} {st : Stmt} {g : Sv} (h : DS G X W P st g) : DSs G X W P [st] g := by
  obtain ⟨t, p, q⟩ := h.ex
  exact ⟨_, pss_one p, q⟩
theorem dss_cons {G : Gx} {X : Cx} {W : WX} {P : List Bool} {st : Stmt} {rest : List Stmt} {a b : Sv} (h : DS G X W P st a) (h2 : DSs G X W P rest b) : DSs G X W P (st :: rest) (gSeq a b) := by
  obtain ⟨t, p, q⟩ := h.ex
  obtain ⟨t2, p2, q2⟩ := h2.ex
  exact ⟨_, pss_cons p p2, ss_seq q q2⟩
theorem ds_pass {G : Gx} {X : Cx} {W : WX} {P : List Bool} {pos} : DS G X W P (.Pass pos) gNx := ⟨_, ps_pass, ss_next⟩
def gBk : Sv := fun ρ => .bk ρ
def gCt : Sv := fun ρ => .ct ρ
theorem ds_break {G : Gx} {X : Cx} {W : WX} {P : List Bool} {pos} : DS G X W P (.Break pos) gBk := ⟨_, ps_break, fun σ H M ρ F D w s _ k => k.bk ρ rfl σ H M F (Stp.refl w) s .refl⟩
theorem ds_continue {G : Gx} {X : Cx} {W : WX} {P : List Bool} {pos} : DS G X W P (.Continue pos) gCt := ⟨_, ps_continue, fun σ H M ρ F D w s _ k => k.ct ρ rfl σ H M F (Stp.refl w) s .refl⟩
/-- never reached -/
def gSt : Sv := fun _ => .st
theorem ds_never {G : Gx} {X : Cx} {W : WX} {P : List Bool} {st : Stmt} : DS G X W P st gSt := ⟨_, ps_never, fun _ _ _ _ _ _ _ _ hn _ => absurd rfl hn⟩
theorem dss_never {G : Gx} {X : Cx} {W : WX} {P : List Bool} {st : List Stmt} : DSs G X W P st gSt := ⟨_, pss_never, fun _ _ _ _ _ _ _ _ hn _ => absurd rfl hn⟩
def gRet (f : Ev) : Sv := fun ρ => match f ρ with
  | .ok o ρ' => .rt o ρ'
  | .er x ρ' => .er x ρ'
  | .st => .st
theorem ds_ret {G : Gx} {X : Cx} {W : WX} {P : List Bool} {e : Expr} {f : Ev} {pos} (h : DE G X W e f) : DS G X W P (.Return (some e) pos) (gRet f) := by
  obtain ⟨t, p, q⟩ := h.ex
  refine ⟨_, ps_ret p, fun σ H M ρ F D w s hn k => ?_⟩
  unfold gRet at hn k
  refine q σ H M ρ F _ w s (fun e => hn (by rw [e])) (fun o ρ' e v H' M' Fo F' st ro sr => ?_) (fun x ρ' e cls dd H' M' F' st rx sr => ?_)
  · rw [e] at k; exact k.rt o ρ' rfl v σ H' M' Fo F' st ro sr .refl
  · rw [e] at k; exact k.er x ρ' rfl cls dd σ H' M' F' st rx sr .refl
def gRetN : Sv := fun ρ => .rt (.fr .non) ρ
theorem ds_retN {G : Gx} {X : Cx} {W : WX} {P : List Bool} {pos} : DS G X W P (.Return none pos) gRetN := ⟨_, ps_retN, fun σ H M ρ F D w s _ k => k.rt _ ρ rfl .non σ H M [] F (Stp.refl w) (.fr .non) s .refl⟩
def gDrop (f : Ev) : Sv := fun ρ => match f ρ with
  | .ok _ ρ' => .nx ρ'
  | .er x ρ' => .er x ρ'
  | .st => .st
theorem ds_expr {G : Gx} {X : Cx} {W : WX} {P : List Bool} {e : Expr} {f : Ev} {pos : Pos} (h : DE G X W e f) (hs : swapsWith e none pos.line X.env = pure false := by rfl) : DS G X W P (.Expr e pos) (gDrop f) := by
  obtain ⟨t, p, q⟩ := h.ex
  refine ⟨_, ps_expr p hs, fun σ H M ρ F D w s hn k => ?_⟩
  unfold gDrop at hn k
  refine q σ H M ρ F _ w s (fun e => hn (by rw [e])) (fun o ρ' e v H' M' Fo F' st ro sr => ?_) (fun x ρ' e cls dd H' M' F' st rx sr => ?_)
  · rw [e] at k; exact k.nx ρ' rfl σ H' M' F' (st.sub st.wf.right.nd fun a ha => List.mem_append_right _ ha) sr .refl
  · rw [e] at k; exact k.er x ρ' rfl cls dd σ H' M' F' st rx sr .refl
def gIf (c : Et) (a b : Sv) : Sv := fun ρ => match c ρ with
  | .ok t ρ' => if t = true then a ρ' else b ρ'
  | .er x ρ' => .er x ρ'
  | .st => .st
theorem ds_if {G : Gx} {X : Cx} {W : WX} {P : List Bool} {c : Expr} {a b : List Stmt} {et : Et} {ga gb : Sv} {pos} (hc : DT G X W c et) (ha : DSs G X W P a ga) (hb : DSs G X W P b gb) : DS G X W P (.If c a b pos) (gIf et ga gb) := by
  obtain ⟨t, p, q⟩ := hc.ex
  obtain ⟨t1, p1, q1⟩ := ha.ex
  obtain ⟨t2, p2, q2⟩ := hb.ex
  refine ⟨_, ps_if p p1 p2, fun σ H M ρ F D w s hn k => ?_⟩
  unfold gIf at hn k
  refine q σ H M ρ F _ w s (fun e => hn (by rw [e])) (fun b ρ' e H' M' F' st sr => ?_) (fun x ρ' e cls dd H' M' F' st rx sr => ?_)
  · rw [e] at hn k
    cases b with
    | true => exact q1 σ H' M' ρ' F' D st.wf sr hn (k.step st .refl)
    | false => exact q2 σ H' M' ρ' F' D st.wf sr hn (k.step st .refl)
  · rw [e] at k; exact k.er x ρ' rfl cls dd σ H' M' F' st rx sr .refl

/-! ### targets -/
abbrev Tgt := O → Env → Option Env
def TgS (G : Gx) (P : List Bool) (g : TG) (tg : Tgt) : Prop :=
  ∀ (v : V) (σ : L2.St) (H M : Hp) (ρ : Env) (o : O) (Fo F : List Addr) (Q : L2.St → Hp → Prop), Wf M H (Fo ++ F) → RO G H M v o Fo → SR G H M σ ρ F → tg o ρ ≠ none →
    (∀ ρ', tg o ρ = some ρ' → ∀ σ' H' M' F', Stp (Fo ++ F) H M H' M' F' → SR G H' M' σ' ρ' F' → Pin P σ σ' → Q σ' H') → g v σ H Q
structure DG (G : Gx) (X : Cx) (P : List Bool) (e : Expr) (tg : Tgt) : Prop where
  ex : ∃ g, PG X e g ∧ TgS G P g tg
def tgName (i : Nat) : Tgt := fun o ρ => if i < ρ.length then some (ρ.set i (some o)) else none
theorem tgs_name {G : Gx} {P : List Bool} {i : Nat} (hp : P[i]? ≠ some true) : TgS G P (gName i) (tgName i) := by
  intro v σ H M ρ o Fo F Q w ro s hn k
  unfold tgName at hn k
  split at hn
  · rename_i hi
    simp only [if_pos hi] at k
    obtain ⟨Fx, F1, F2, h1, h2, h3⟩ := s.store ro hi
    refine k _ rfl _ H M F2 ((Stp.refl w).sub ?_ fun a ha => ?_) h1 (.set hp)
    · have : (Fo ++ F1).Nodup := by
        have q := w.nd
        refine List.nodup_append.mpr ⟨(List.nodup_append.mp q).1, ?_, fun a ha b hb e => (List.nodup_append.mp q).2.2 a ha b (h3.mem_iff.mpr (List.mem_append_right _ hb)) e⟩
        exact (List.nodup_append.mp (h3.nodup_iff.mp (List.nodup_append.mp q).2.1)).2.1
      exact h2.nodup_iff.mpr this
    · rcases List.mem_append.mp (h2.mem_iff.mp ha) with h | h
      · exact List.mem_append_left _ h
      · exact List.mem_append_right _ (h3.mem_iff.mpr (List.mem_append_right _ h))
  · exact absurd rfl hn
theorem dg_name {G : Gx} {X : Cx} {P : List Bool} {e : Expr} {i : Nat} (p : PG X e (gName i)) (hp : P[i]? ≠ some true := by decide) : DG G X P e (tgName i) := ⟨_, p, tgs_name hp⟩
abbrev Tgts := List O → Env → Option Env
def TgSs (G : Gx) (P : List Bool) (g : TGs) (tg : Tgts) : Prop :=
  ∀ (vs : List V) (σ : L2.St) (H M : Hp) (ρ : Env) (os : List O) (Fo F : List Addr) (Q : L2.St → Hp → Prop), Wf M H (Fo ++ F) → ROs G H M vs os Fo → SR G H M σ ρ F → tg os ρ ≠ none →
    (∀ ρ', tg os ρ = some ρ' → ∀ σ' H' M' F', Stp (Fo ++ F) H M H' M' F' → SR G H' M' σ' ρ' F' → Pin P σ σ' → Q σ' H') → g vs σ H Q
structure DGs (G : Gx) (X : Cx) (P : List Bool) (es : List Expr) (tg : Tgts) : Prop where
  ex : ∃ g, PGs X es g ∧ TgSs G P g tg
def tgNil : Tgts := fun os ρ => match os with
  | [] => some ρ
  | _ => none
def tgCons (t : Tgt) (ts : Tgts) : Tgts := fun os ρ => match os with
  | o :: os => (t o ρ).bind fun ρ1 => ts os ρ1
  | [] => none
theorem dgs_nil {G : Gx} {X : Cx} {P : List Bool} : DGs G X P [] tgNil := by
  refine ⟨_, pgs_nil, fun vs σ H M ρ os Fo F Q w ro s hn k => ?_⟩
  unfold tgNil at hn k
  cases ro with
  | nil => exact ⟨rfl, k ρ rfl σ H M F (Stp.refl w) s .refl⟩
  | cons _ _ => exact absurd rfl hn
theorem dgs_cons {G : Gx} {X : Cx} {P : List Bool} {e : Expr} {es : List Expr} {t : Tgt} {ts : Tgts} (h : DG G X P e t) (h2 : DGs G X P es ts)
    (hs : (assignEach (e :: es) X.env).map (·.2) = assign e X.env :: (assignEach es X.env).map (·.2) := by rfl) : DGs G X P (e :: es) (tgCons t ts) := by
  obtain ⟨g, p, q⟩ := h.ex
  obtain ⟨g2, p2, q2⟩ := h2.ex
  refine ⟨_, pgs_cons p p2 hs, fun vs σ H M ρ os Fo F Q w ro s hn k => ?_⟩
  unfold tgCons at hn k
  cases ro with
  | nil => exact absurd rfl hn
  | cons r rr =>
    rename_i v o Fa vs' os' Fb
    simp only at hn k
    have pm : (Fa ++ Fb ++ F).Perm ((Fa ++ F) ++ Fb) := by
      rw [List.append_assoc, List.append_assoc]
      exact List.Perm.append_left _ List.perm_append_comm
    have w1 := w.perm pm
    refine ⟨v, vs', rfl, q v σ H M ρ o Fa F _ w1.left r s (fun e => hn (by rw [e]; rfl)) fun ρ1 e1 σ1 H1 M1 F1 st1 s1 pn1 => ?_⟩
    rw [e1] at hn k
    simp only [Option.bind_some] at hn k
    have st2 := st1.frame w1
    have pc : (F1 ++ Fb).Perm (Fb ++ F1) := List.perm_append_comm
    refine q2 vs' σ1 H1 M1 ρ1 os' Fb F1 _ (st2.wf.perm pc) (rr.mono st1.mm (st1.keepOn w1.disj')) s1 hn fun ρ2 e2 σ2 H2 M2 F2 st3 s2 pn2 => ?_
    exact k ρ2 e2 σ2 H2 M2 F2 (((st2.perm_l pm.symm).perm pc).trans st3) s2 (pn1.trans pn2)
/-- what unpacks: a tuple, a list -/
def unpackO : O → Option (List O)
  | .fr (.tup ds) => some (ds.map .fr)
  | .fr (.lst ds) => some (ds.map .fr)
  | .ls ds => some (ds.map .fr)
  | .tp os => some os
  | _ => none
def tgTup (n : Nat) (ts : Tgts) : Tgt := fun o ρ => (unpackO o).bind fun os => if os.length = n then ts os ρ else none
theorem RDs.ros {G : Gx} {H M : Hp} : ∀ {vs : List V} {ds : List D}, RDs G M vs ds → ROs G H M vs (ds.map .fr) []
  | _, _, .nil => .nil
  | _, _, .cons h t => .cons (.fr h) t.ros
theorem dg_tup {G : Gx} {X : Cx} {P : List Bool} {es : List Expr} {k : Nat} {ts : Tgts} {n : Nat} {pos : Pos} (hc : X.calm = true) (h : DGs G X P es ts) (hK : X.K = G.K := by rfl)
    (hn : (assignEach es X.env).length = n := by rfl) (hst : (assignEach es X.env).findIdx? (·.1) = none := by rfl) : DG G X P (.Tuple es k pos) (tgTup n ts) := by
  obtain ⟨g, p, q⟩ := h.ex
  have pt : PG X (.Tuple es k pos) (gTup X.K n g) := pg_tup hc p hn hst
  have pl : PG X (.Tuple es k pos) (gLst X.K n g) := pg_lst hc p hn hst
  refine ⟨fun v σ H Q => gTup X.K n g v σ H Q ∨ gLst X.K n g v σ H Q, ⟨fun pins s σ H v u Q I r hw => ?_⟩, fun v σ H M ρ o Fo F Q w ro s hne kk => ?_⟩
  · rcases hw with hw | hw
    · exact pt.run pins s σ H v u Q I r hw
    · exact pl.run pins s σ H v u Q I r hw
  · unfold tgTup at hne kk
    cases eo : unpackO o with
    | none => rw [eo] at hne; exact absurd rfl hne
    | some os =>
      rw [eo] at hne kk
      simp only [Option.bind_some] at hne kk
      split at hne
      · rename_i hl
        simp only [if_pos hl] at kk
        rw [hK]
        cases ro with
        | fr hd =>
          cases hd with
          | tup h r l =>
            rename_i a xs ds
            cases eo
            refine .inl ⟨a, xs, rfl, seqT w.sm h, ?_, q xs σ H M ρ _ [] F Q w r.ros s hne fun ρ' e σ' H' M' F' st => kk ρ' e σ' H' M' F' st⟩
            rw [r.length]; simpa using hl
          | lst h r l =>
            rename_i a xs ds
            cases eo
            refine .inr ⟨a, xs, rfl, .inl (.inl (w.sm _ _ h)), ?_, q xs σ H M ρ _ [] F Q w r.ros s hne fun ρ' e σ' H' M' F' st => kk ρ' e σ' H' M' F' st⟩
            rw [r.length]; simpa using hl
          | _ => cases eo
        | ls h r l =>
          rename_i a xs ds
          cases eo
          have w2 : Wf M H ([] ++ F) := w.sub w.right.nd fun b hb => List.mem_append_right _ hb
          refine .inr ⟨a, xs, rfl, .inl (.inl h), ?_, q xs σ H M ρ _ [] F Q w2 r.ros s hne fun ρ' e σ' H' M' F' st sr pn => kk ρ' e σ' H' M' F' (((Stp.refl w).sub w2.nd fun b hb => List.mem_append_right _ hb).trans st) sr pn⟩
          rw [r.length]; simpa using hl
        | tp h r l =>
          cases eo
          refine .inl ⟨_, _, rfl, seqT w.sm h, ?_, q _ σ H M ρ _ Fo F Q w r s hne fun ρ' e σ' H' M' F' st => kk ρ' e σ' H' M' F' st⟩
          rw [r.length]; exact hl
        | _ => cases eo
      · exact absurd rfl hne

def gAsg (f : Ev) (tg : Tgt) : Sv := fun ρ => match f ρ with
  | .ok o ρ' => (match tg o ρ' with
    | some ρ2 => .nx ρ2
    | none => .st)
  | .er x ρ' => .er x ρ'
  | .st => .st
theorem ss_asg {G : Gx} {W : WX} {P : List Bool} {t : TE} {g : TG} {f : Ev} {tg : Tgt} (q : ES G W t f) (q2 : TgS G P g tg) : SS G W P (tAsg t g) (gAsg f tg) := by
  intro σ H M ρ F D w s hn k
  unfold gAsg at hn k
  refine q σ H M ρ F _ w s (fun e => hn (by rw [e])) (fun o ρ' e v H' M' Fo F' st ro sr => ?_) (fun x ρ' e cls dd H' M' F' st rx sr => ?_)
  · rw [e] at hn k
    simp only at hn k
    cases e2 : tg o ρ' with
    | none => rw [e2] at hn; exact absurd rfl hn
    | some ρ2 =>
      rw [e2] at k
      refine q2 v σ H' M' ρ' o Fo F' _ st.wf ro sr (by rw [e2]; simp) fun ρ3 e3 σ3 H3 M3 F3 st3 s3 pn => ?_
      rw [e2] at e3
      cases e3
      exact k.nx ρ2 rfl σ3 H3 M3 F3 (st.trans st3) s3 pn
  · rw [e] at k; exact k.er x ρ' rfl cls dd σ H' M' F' st rx sr .refl
theorem ds_set {G : Gx} {X : Cx} {W : WX} {P : List Bool} {i : Nat} {x : Str} {e : Expr} {f : Ev} {pos' pos : Pos} (hN : X.N.Nodup) (he : DE G X W e f) (hi : X.N[i]? = some x := by rfl) (hx : Loc X.env.scope x := by first | exact Or.inl rfl | exact Or.inr rfl) (hp : P[i]? ≠ some true := by decide)
    (hs : swapsWith e (some (.Name x pos')) pos.line X.env = pure false := by rfl) (hf : X.fn x = true ∨ X.env.scope.names.lookup x = some .local := by first | exact .inl rfl | exact .inr rfl | assumption) : DS G X W P (.Assign [.Name x pos'] e pos) (gAsg f (tgName i)) := by
  obtain ⟨t, p, q⟩ := he.ex
  exact ⟨_, ps_set hN hi hx p hs hf, ss_asg q (tgs_name hp)⟩
theorem ds_asg {G : Gx} {X : Cx} {W : WX} {P : List Bool} {tgx e : Expr} {f : Ev} {tg : Tgt} {pos : Pos} (he : DE G X W e f) (hg : DG G X P tgx tg) (hs : swapsWithSole [tgx] e pos.line X.env = pure false := by rfl) (hw : swappedStores [tgx] e X.env = pure none := by rfl)
    (h1 : (assignEach [tgx] X.env).map (·.2) = [assign tgx X.env] := by rfl) : DS G X W P (.Assign [tgx] e pos) (gAsg f tg) := by
  obtain ⟨t, p, q⟩ := he.ex
  obtain ⟨g, pg, qg⟩ := hg.ex
  exact ⟨_, ps_asg p pg hs hw h1, ss_asg q qg⟩

/-! ### while -/
def whileN (c : Et) (b : Sv) : Nat → Sv
  | 0, _ => .st
  | n + 1, ρ => match c ρ with
    | .ok t ρ1 => if t = true then (match b ρ1 with
        | .nx ρ2 => whileN c b n ρ2
        | .ct ρ2 => whileN c b n ρ2
        | .bk ρ2 => .nx ρ2
        | z => z) else .nx ρ1
    | .er x ρ1 => .er x ρ1
    | .st => .st
theorem ss_while {G : Gx} {W : WX} {P : List Bool} {tc : TT} {tb : TS} {c : Et} {b : Sv} (n : Nat) (hc : TS' G W tc c) (hb : SS G W P tb b) : SS G W P (tWhile tc tb) (whileN c b n) := by
  intro σ H M ρ F D w s hn k
  refine ⟨fun m σ' H' => ∃ M' ρ' F', Stp F H M H' M' F' ∧ SR G H' M' σ' ρ' F' ∧ Pin P σ σ' ∧ whileN c b m ρ' = whileN c b n ρ, ⟨n, M, ρ, F, Stp.refl w, s, .refl, rfl⟩, ?_⟩
  rintro m σ1 H1 ⟨M1, ρ1, F1, st1, s1, pn1, e1⟩
  cases m with
  | zero => exact absurd e1.symm hn
  | succ m =>
    rw [← e1] at hn k
    unfold whileN at hn k
    refine hc σ1 H1 M1 ρ1 F1 _ st1.wf s1 (fun e => hn (by rw [e])) (fun t ρ2 e2 H2 M2 F2 st2 s2 => ?_) (fun x ρ2 e2 cls dd H2 M2 F2 st2 rx s2 => ?_)
    · rw [e2] at hn k
      simp only at hn k
      cases t with
      | false =>
        simp only [Bool.false_eq_true, if_false] at hn k
        exact iteF (k.nx ρ2 rfl σ1 H2 M2 F2 (st1.trans st2) s2 pn1)
      | true =>
        simp only [if_true] at hn k
        refine iteT ⟨fun σ' H' => ∃ M' ρ' F', Stp F H M H' M' F' ∧ SR G H' M' σ' ρ' F' ∧ Pin P σ σ' ∧ whileN c b m ρ' = whileN c b n ρ, fun σ' H' h => ⟨m, Nat.lt_succ_self m, h⟩, ?_⟩
        have st12 := st1.trans st2
        have e3 : whileN c b n ρ = (match b ρ2 with
          | .nx ρ2 => whileN c b m ρ2
          | .ct ρ2 => whileN c b m ρ2
          | .bk ρ2 => .nx ρ2
          | z => z) := by
          rw [← e1]
          conv => lhs; unfold whileN
          rw [e2]
          rfl
        refine hb σ1 H2 M2 ρ2 F2 _ st2.wf s2 (fun e => hn (by rw [e])) ⟨fun ρ3 e4 σ3 H3 M3 F3 st3 s3 pn3 => ?_, fun ρ3 e4 σ3 H3 M3 F3 st3 s3 pn3 => ?_, fun ρ3 e4 σ3 H3 M3 F3 st3 s3 pn3 => ?_, fun o ρ3 e4 v σ3 H3 M3 Fo F3 st3 ro s3 pn3 => ?_, fun x ρ3 e4 cls dd σ3 H3 M3 F3 st3 rx s3 pn3 => ?_⟩
        · exact ⟨M3, ρ3, F3, st12.trans st3, s3, pn1.trans pn3, by rw [e3, e4]⟩
        · rw [e4] at k
          exact k.nx ρ3 rfl σ3 H3 M3 F3 (st12.trans st3) s3 (pn1.trans pn3)
        · exact ⟨M3, ρ3, F3, st12.trans st3, s3, pn1.trans pn3, by rw [e3, e4]⟩
        · rw [e4] at k
          exact k.rt o ρ3 rfl v σ3 H3 M3 Fo F3 (st12.trans st3) ro s3 (pn1.trans pn3)
        · rw [e4] at k
          exact k.er x ρ3 rfl cls dd σ3 H3 M3 F3 (st12.trans st3) rx s3 (pn1.trans pn3)
    · rw [e2] at k
      exact k.er x ρ2 rfl cls dd σ1 H2 M2 F2 (st1.trans st2) rx s2 pn1
theorem ds_while {G : Gx} {X : Cx} {W : WX} {P : List Bool} {c : Expr} {body : List Stmt} {et : Et} {g : Sv} {pos} (n : Nat) (hp : PassesOwn (model X.prog X.w) X.A X.env X.xe) (hc : DT G X W c et) (hb : DSs G X W P body g) : DS G X W P (.While c body [] pos) (whileN et g n) := by
  obtain ⟨t, p, q⟩ := hc.ex
  obtain ⟨t2, p2, q2⟩ := hb.ex
  exact ⟨_, ps_while hp p p2, ss_while n q q2⟩

/-! ### defs -/
def outsM : List Bool → Env → List (Option O)
  | [], _ => []
  | b :: bs, r :: ρ => (if b = true then r else none) :: outsM bs ρ
  | _ :: bs, [] => none :: outsM bs []
def semOf (nN np : Nat) (P : List Bool) (g : Sv) : Fsem := fun os => if os.length = np then (match g (os.map some ++ List.replicate (nN - np) none) with
  | .nx ρ' => .ok (.fr .non) (outsM P ρ')
  | .rt o ρ' => .ok o (outsM P ρ')
  | .er x _ => .er x
  | _ => .st) else .st
theorem outs_of {G : Gx} {H M : Hp} : ∀ {P : List Bool} {vs : List V} {σ : L2.St} {ρ : Env} {F : List Addr}, SR G H M σ ρ F → P.length = vs.length → (∀ (i : Nat) (v : V), P[i]? = some true → vs[i]? = some v → σ[i]? = some (some v)) →
    ∃ Fo, Outs G H M vs (outsM P ρ) Fo ∧ (∀ a ∈ Fo, a ∈ F) ∧ (F.Nodup → Fo.Nodup)
  | [], [], _, _, _, _, _, _ => ⟨[], .nil, fun _ h => (nomatch h), fun _ => List.nodup_nil⟩
  | [], _ :: _, _, _, _, _, hl, _ => by simp at hl
  | _ :: _, [], _, _, _, _, hl, _ => by simp at hl
  | b :: bs, v :: vs, _, _, _, .nil, hl, hs => by
    obtain ⟨Fo, h1, h2, h3⟩ := outs_of (P := bs) (vs := vs) (.nil : SR G H M [] [] []) (by simpa using hl) (fun i w e1 e2 => by simpa using hs (i + 1) w (by simpa using e1) (by simpa using e2))
    exact ⟨Fo, .no h1, h2, h3⟩
  | b :: bs, v :: vs, _, _, _, .no t, hl, hs => by
    obtain ⟨Fo, h1, h2, h3⟩ := outs_of (P := bs) (vs := vs) t (by simpa using hl) (fun i w e1 e2 => by simpa using hs (i + 1) w (by simpa using e1) (by simpa using e2))
    refine ⟨Fo, ?_, h2, h3⟩
    unfold outsM
    have : (if b = true then (none : Option O) else none) = none := by cases b <;> rfl
    rw [this]
    exact .no h1
  | b :: bs, v :: vs, _, _, _, .so (Fo := Fa) (F := Fb) ro t, hl, hs => by
    obtain ⟨Fo, h1, h2, h3⟩ := outs_of (P := bs) (vs := vs) t (by simpa using hl) (fun i w e1 e2 => by simpa using hs (i + 1) w (by simpa using e1) (by simpa using e2))
    unfold outsM
    cases b with
    | false => exact ⟨Fo, .no h1, fun a ha => List.mem_append_right _ (h2 a ha), fun nd => h3 (List.nodup_append.mp nd).2.1⟩
    | true =>
      have e := hs 0 v rfl rfl
      simp at e
      subst e
      refine ⟨Fa ++ Fo, .so ro h1, fun a ha => ?_, fun nd => ?_⟩
      · rcases List.mem_append.mp ha with h | h
        · exact List.mem_append_left _ h
        · exact List.mem_append_right _ (h2 a h)
      · exact List.nodup_append.mpr ⟨(List.nodup_append.mp nd).1, h3 (List.nodup_append.mp nd).2.1, fun a ha c hc e => (List.nodup_append.mp nd).2.2 a ha c (h2 c hc) e⟩
theorem sr_start {G : Gx} {H M : Hp} : ∀ {vs : List V} {os : List O} {F : List Addr} (n : Nat), ROs G H M vs os F → SR G H M (vs.map some ++ List.replicate n none) (os.map some ++ List.replicate n none) F
  | _, _, _, n, .nil => by
    simp only [List.map_nil, List.nil_append]
    induction n with
    | zero => exact .nil
    | succ n ih => rw [List.replicate_succ, List.replicate_succ]; exact .no ih
  | _, _, _, n, .cons h t => .so h (sr_start n t)
theorem SR.len_le {G : Gx} {H M : Hp} {σ : L2.St} {ρ : Env} {F : List Addr} (s : SR G H M σ ρ F) : ρ.length = σ.length := s.length.symm
theorem fn_ok {P : Program} {w : World} {G : Gx} {mg : Str → Option Value} {base : Heap} {x qual : Str} {st : Stmt} {f : Addr} {fd : FuncData} {N ps : List Str} {k : Nat} {pm : List Bool} {g : Sv} (Fu : Fun G.K x qual st f fd) (S : FnScope N ps (defScope st)) (hP : pm.length = ps.length)
    (hbody : ∀ (cdv : Value) (A : Around) (outer : List PySem.Env) (s : Shared) (H : Hp) (E : XK), Room k (A.deeper (envOfC qual (defScope st) s.heap.objs.size f cdv)) →
      DSs G (cxOf (L2.CX P w) P w G.K mg base N qual (defScope st) f cdv A outer s H E) (fun cls d _ H => E cls d H) pm (defBody st) g) : FnOk P w G.K mg base (L2.CX P w) (k + 1) f fd ps (spOf G ps.length (semOf N.length ps.length pm g)) := by
  refine Fu.okX S (fun vs H Q E h => h.1) fun cdv A outer s H vs Q E hr h => ?_
  obtain ⟨hl, M, os, F, wf, ro, hn, hk, he⟩ := h
  obtain ⟨t, p, q⟩ := (hbody cdv A outer s H E hr).ex
  refine ⟨t, p, ?_⟩
  have hos : os.length = ps.length := by rw [← ro.length, hl]
  have hnN : ps.length ≤ N.length := by
    have := congrArg List.length S.pre
    rw [List.length_take] at this
    omega
  have e0 : L2.start N vs = vs.map some ++ List.replicate (N.length - ps.length) none := by
    unfold L2.start
    rw [hl]
  unfold semOf at hn hk he
  simp only [if_pos hos] at hn hk he
  generalize hz : g (os.map some ++ List.replicate (N.length - ps.length) none) = z at hn hk he
  rw [e0]
  have sr0 := sr_start (N.length - ps.length) ro
  have fin : ∀ {σ' : L2.St} {H' M' : Hp} {F' : List Addr} {ρ' : Env}, SR G H' M' σ' ρ' F' → Pin pm (vs.map some ++ List.replicate (N.length - ps.length) none) σ' → ∃ Fo, Outs G H' M' vs (outsM pm ρ') Fo ∧ (∀ a ∈ Fo, a ∈ F') ∧ (F'.Nodup → Fo.Nodup) := by
    intro σ' H' M' F' ρ' s' pn
    refine outs_of s' (by rw [hP, hl]) (fun i v e1 e2 => ?_)
    rw [pn.2 i e1]
    have hi : i < vs.length := (List.getElem?_eq_some_iff.mp e2).1
    rw [List.getElem?_append_left (by simpa using hi)]
    simp [e2]
  refine q _ H M _ F _ wf sr0 (fun e => hn (by rw [← hz, e])) ⟨fun ρ' e σ' H' M' F' st' sr pn => ?_, fun ρ' e => ?_, fun ρ' e => ?_, fun o ρ' e v σ' H' M' Fo F' st' r sr pn => ?_, fun x ρ' e cls dd σ' H' M' F' st' rx sr pn => ?_⟩
  · rw [hz] at e
    subst e
    obtain ⟨Fu', h1, h2, h3⟩ := fin sr pn
    exact hk _ _ rfl .non H' M' [] Fu' (st'.sub (h3 st'.wf.nd) h2) (.fr .non) h1
  · rw [hz] at e
    subst e
    exact absurd rfl hn
  · rw [hz] at e
    subst e
    exact absurd rfl hn
  · rw [hz] at e
    subst e
    obtain ⟨Fu', h1, h2, h3⟩ := fin sr pn
    refine hk _ _ rfl v H' M' Fo Fu' (st'.sub ?_ fun a ha => ?_) r h1
    · exact List.nodup_append.mpr ⟨st'.wf.left.nd, h3 st'.wf.right.nd, fun a ha b hb e => st'.wf.disj a ha (e ▸ h2 b hb)⟩
    · rcases List.mem_append.mp ha with h | h
      · exact List.mem_append_left _ h
      · exact List.mem_append_right _ (h2 a h)
  · rw [hz] at e
    subst e
    exact he x rfl cls dd H' M' (st'.sub List.nodup_nil fun a h => nomatch h) rx
end PV

set_option Elab.async false
set_option linter.all false
set_option maxRecDepth 100000
/-! PV: enumerate of a tuple, and what is walked -/
namespace PV
open PySem PySem.Spec PyProof.Rows L2
open AutoSeq1 (wpAny_loadPart')

theorem meets_enumT (l : Addr) (items : Array Value) :
    Meets (Builtin.«enumerate.__new__» ⟨[.type "enumerate", .ref l], []⟩) (fun _ R s => s.heap.IsTuple l items ∧
      R (.ok (.ret (.ref (s.heap.push { cls := .type "tuple_iterator", data := .fields #[.ref l, .int 0 0] }).objs.size)))
        { s with heap := (s.heap.push { cls := .type "tuple_iterator", data := .fields #[.ref l, .int 0 0] }).push { cls := .type "enumerate", data := .fields #[.none, .bool false, .ref s.heap.objs.size, rawInt 0, .none, .none] } }) :=
  .of_wp fun prog w A R s h => by
    obtain ⟨hp, g, d, tk, os⟩ := s; obtain ⟨hl, h⟩ := h
    have hsub := sub_enumerate
    have hL : Heap.IsTuple (Shared.heap ⟨hp, g, d, tk, os⟩) l items := hl
    obtain ⟨ob, hob, hcb, nb, hdb⟩ := hl
    obtain ⟨c0, dct, dt, sl⟩ := ob
    dsimp only at hcb hdb
    subst hcb hdb
    wp_walk using wpAny_loadPart' hob
    refine wpAny_stack_any fun st => wpAny_pure ?_
    split
    · rename_i c _ _ _ _ _
      cases (c == Value.type "enumerate")
      · wp_walk using wpAny_loadPart' hob, wpAny_pyIter_tuple hL
        exact ⟨_, rfl, h⟩
      · wp_walk using wpAny_loadPart' hob, wpAny_pyIter_tuple hL
        exact ⟨_, rfl, h⟩
    · wp_walk using wpAny_loadPart' hob, wpAny_pyIter_tuple hL
      exact ⟨_, rfl, h⟩
section
variable {prog : Program} {w : World} {A : Around} {E : Value → Shared → Prop} {s : Shared}
theorem call_enumT {l : Addr} {items : Array Value} {Q : Value → Shared → Prop} (hL : s.heap.IsTuple l items)
    (h : ∀ h', IsEnum h' (s.heap.objs.size + 1) s.heap.objs.size 0 .none → h'.IsTupleIter s.heap.objs.size l 0 → h'.objs.size = s.heap.objs.size + 2 →
      (∀ b o, s.heap.get? b = some o → h'.get? b = some o) → Q (.ref (s.heap.objs.size + 1)) { s with heap := h' }) :
    wpAny (model prog w) A (call (.type "enumerate") [.ref l]) Q E s := by
  refine callType_new F.called_enumerate (by decide) (F.typeCall_enumerate_1 _) (F.newCall_enumerate_1 _) (fun obj => F.args_object_init_2 obj _) F.entry_enumerate_new
    (meets_enumT l items) ⟨hL, ?_⟩
  have hz : (s.heap.push { cls := .type "tuple_iterator", data := .fields #[.ref l, .int 0 0] }).objs.size = s.heap.objs.size + 1 := Heap.size_push ..
  show _ ∧ _
  rw [hz]
  have he : IsEnum ((s.heap.push { cls := .type "tuple_iterator", data := .fields #[.ref l, .int 0 0] }).push
      { cls := .type "enumerate", data := .fields #[.none, .bool false, .ref s.heap.objs.size, rawInt 0, .none, .none] }) (s.heap.objs.size + 1) s.heap.objs.size 0 .none := by
    have := Heap.get?_push_size (s.heap.push { cls := .type "tuple_iterator", data := .fields #[.ref l, .int 0 0] })
      (o := { cls := .type "enumerate", data := .fields #[.none, .bool false, .ref s.heap.objs.size, rawInt 0, .none, .none] }) rfl
    rw [hz] at this; exact this
  refine ⟨⟨_, he, rfl⟩, h _ he ⟨_, Heap.get?_push_of_some _ (Heap.get?_push_size _ rfl), rfl, rfl⟩ (by rw [Heap.size_push, hz]) fun b o x => Heap.get?_push_of_some _ (Heap.get?_push_of_some _ x)⟩
end

/-- the tuple at a, each item in a new pair -/
def IteT (K : PySem.W.Frag) (a : Addr) : It :=
  ⟨fun i H => ∃ (xs : List V) (x : V), SqT K H a xs ∧ xs[i]? = some x, fun i H v H' => ∃ T x, v = .ref T ∧ H T = none ∧ H' = upd H T (.tup [.int (i : Nat), x]) ∧ ∀ xs, SqT K H a xs → xs[i]? = some x, fun i H => ∃ xs : List V, SqT K H a xs ∧ xs.length ≤ i⟩
theorem turn_enumT {P : Program} {w : World} {K : PySem.W.Frag} {elts : List Expr} {kk : Nat} {tpos : Pos} (a e it : Addr) :
    Turn P w K (.Tuple elts kk tpos) (IteT K a) [e, it] e (fun i h => (∃ old, IsEnum h e it ((i : Nat) : Int) old) ∧ h.IsTupleIter it a i ∧ e ≠ it) where
  mem := by simp
  obj := fun i h st b hb => by
    obtain ⟨⟨old, he⟩, ⟨o, ho, hc, hd⟩, _⟩ := st
    have e' : b = e ∨ b = it := by simpa using hb
    rcases e' with z | z
    · rw [z]; exact ⟨_, he, fun v q => nomatch q⟩
    · rw [z]; exact ⟨o, ho, fun v q => by rw [hd] at q; cases q⟩
  keep := fun i h h' st k => let ⟨⟨old, he⟩, hi, hne⟩ := st; ⟨⟨old, k e (by simp) _ he⟩, hi.at fun o q => k it (by simp) o q, hne⟩
  item := by
    intro X hP hw hK hc i pins s σ H E I hf st hg
    subst hP hw hK
    obtain ⟨⟨old, he⟩, hit, hne⟩ := st
    obtain ⟨xs, x, hq, hx⟩ := hg
    obtain ⟨its, rv, p, hz⟩ := I.tuple hq
    obtain ⟨u, hu, ru⟩ := rv.get hx
    have hel : e < s.heap.objs.size := Heap.lt_size he
    have hil : it < s.heap.objs.size := by obtain ⟨_, q, _⟩ := hit; exact Heap.lt_size q
    have p' : s.heap.IsTuple a its.toArray := p
    have hnt : a ≠ it := by
      obtain ⟨o1, h1, c1, _⟩ := id p'
      obtain ⟨o2, h2, c2, _⟩ := id hit
      intro z
      rw [z, h2] at h1
      cases h1
      rw [c2] at c1
      exact absurd c1 (by decide)
    have hea : e ≠ a := by
      obtain ⟨o1, h1, c1, _⟩ := id p'
      intro z
      rw [← z, he] at h1
      cases h1
      have c2 : (Value.type "enumerate") = .type "tuple" := c1
      exact absurd c2 (by decide)
    have D := Draws.tuple (prog := X.prog) (w := X.w) (A := X.A.in1) (show X.A.in1.handled = none from I.ok.hd hc) it a hnt its.toArray
    have hlt : i < its.toArray.size := by
      have := (List.getElem?_eq_some_iff.mp hu).1
      simpa using this
    refine wpAny_pyNext_enum_itemD D he ⟨hit, p'⟩ hlt hne (by simp [hne, hea]) fun x' h' tk hPx ho hst' hT hsz hk => ?_
    have ex' : x' = u := by
      have h1 : its[i]? = some x' := by simpa using hPx
      rw [hu] at h1
      exact (Option.some.inj h1).symm
    subst ex'
    refine ⟨_, rfl, wpAny_letOwnedTupleGo_enum (s := { s with heap := h', toks := tk + 1 }) ho fun h'' he' sb => ?_⟩
    have hT2 : h''.get? s.heap.objs.size = some { cls := .type "tuple", data := .seq #[.int i tk, x'] } := (sb.2 _ (Nat.ne_of_gt hel)).trans hT
    have new : ObjOk X.prog X.w (upd H s.heap.objs.size (.tup [.int (i : Nat), x])) h'' s.heap.objs.size (.tup [.int (i : Nat), x]) :=
      ⟨by show 2 ≤ sizeLine; decide, [.int i tk, x'], .cons ⟨_, rfl⟩ (.cons ru .nil), ⟨_, hT2, rfl, _, rfl⟩⟩
    have I1 : Inv X pins σ (upd H s.heap.objs.size (.tup [.int (i : Nat), x])) { s with heap := h'', toks := tk + 1 } :=
      I.turnedNew (ch := [e, it]) (fun b ob hb q => (sb.2 b (fun z => hb (by simp [z]))).trans (hk b ob (fun z => hb (by simp [z])) (fun z => hb (by simp [z])) q)) hf (Nat.le_refl _) new
    refine ⟨.ref s.heap.objs.size, _, I1, rfl, ⟨_, x, rfl, I.hok.fresh (Nat.le_refl _), rfl, fun ys hy => by rw [I.tuple_inj hy hq]; exact hx⟩, ⟨⟨x', ?_⟩, hst'.1.at fun o q => (sb.2 it (Ne.symm hne)).trans q, hne⟩, fun b hb => ?_⟩
    · have e1 : ((i + 1 : Nat) : Int) = (i : Int) + 1 := by omega
      rw [e1]; exact he'
    · have hb' : b < s.heap.objs.size := by
        have e' : b = e ∨ b = it := by simpa using hb
        rcases e' with z | z
        · rw [z]; exact hel
        · rw [z]; exact hil
      rw [upd_ne (Nat.ne_of_lt hb')]
      exact (hf b hb).1
  done := by
    intro X hP hw hK hc i pins s σ H E I hf st hg
    subst hP hw hK
    obtain ⟨⟨old, he⟩, hit, hne⟩ := st
    obtain ⟨xs, hq, hx⟩ := hg
    obtain ⟨its, rv, p, hz⟩ := I.tuple hq
    obtain ⟨f0, f1, f2, f3, f4, f5⟩ := hf it (by simp)
    have hl := rv.length
    have p' : s.heap.IsTuple a its.toArray := p
    have hT : s.TypeIs (.ref e) "enumerate" := ⟨_, he, rfl⟩
    unfold pyNext
    refine wpAny_bind (wpAny_attempt (wpAny_callSpecial?_slot (name := Str.ofString "__next__") hT F.slot_enumerate_next
      (wpAny_call_entry F.slot_enumerate_next hT F.entry_enumerate_next ?_ (F.args_enumerate_next_1 _))))
    show wpAny _ _ (field (.ref e) 2 >>= _) _ _ _
    refine wpAny_bind (wpAny_field he rfl (x := .ref it) rfl ?_)
    refine wpAny_bind (wpAny_nextOf_tuple_end (show X.A.in1.handled = none from I.ok.hd hc) hit p' (by simp; omega) fun h' x he' hx' => ?_)
    obtain ⟨o, ho, hc'⟩ := hx'
    refine wpAny_bind (wpAny_isInstance (T := "StopIteration") (b := true) ⟨o, ho, hc'⟩ isSubtype_stop ?_)
    exact wpAny_pure ⟨rfl, I.turned (t' := s.toks) (fun b o hb q => he' b o hb q) f0 f1 f3 f4 f5⟩
  self := fun A i s Q E st h => let ⟨⟨_, he⟩, _⟩ := st; wpAny_pyIter_enum he h
def iEnumA (K : PySem.W.Frag) (ta : TA) : TI := fun σ H R => ta σ H fun vs H1 => ∃ a xs, vs = [.ref a] ∧ ((SqL K H1 a xs ∧ R (Ite K a) H1) ∨ (SqT K H1 a xs ∧ R (IteT K a) H1))
theorem pi_enumA {X : Cx} {e : Expr} {ta : TA} {p pos tpos : Pos} {elts : List Expr} {kk : Nat} (hg : Gl X "enumerate") (hm : X.mg "enumerate" = none) (ha : PA X [e] ta) (hs : starEach [e] X.env = [(false, eval e X.env)] := by rfl) :
    PI X (.Tuple elts kk tpos) (.Call (.Name "enumerate" p) [e] [] pos) (iEnumA X.K ta) := by
  refine ⟨fun pins s σ H R I h => ?_⟩
  refine Call_ (ld_blt I hg hm boot_enumerate (PyProof.Rows.callWith_type1 (thn (ha.run pos pins s σ H _ I h) fun us s1 ⟨vs, H1, I1, r1, q1⟩ => ?_) hs rfl))
  obtain ⟨a, xs, ex, q⟩ := q1
  subst ex
  cases r1 with
  | cons r rr =>
    cases rr
    cases r
    have hfp : ∀ b ∈ [s1.heap.objs.size + 1, s1.heap.objs.size], FpOk X pins H1 b := fun b hb => by
      have e' : b = s1.heap.objs.size + 1 ∨ b = s1.heap.objs.size := by simpa using hb
      have hle : s1.heap.objs.size ≤ b := by
        rcases e' with z | z
        · rw [z]; exact Nat.le_add_right _ _
        · rw [z]; exact Nat.le_refl _
      exact I1.fpOk hle (I1.hok.fresh hle)
    rcases q with ⟨hq, q⟩ | ⟨hq, q⟩
    · obtain ⟨its, rv, p', hz⟩ := I1.list hq
      refine call_enumerate_list p'.isList fun h' he hit hsz hk => wpAny_pyIter_enum he ?_
      have I2 : Inv X pins σ H1 { s1 with heap := h' } := I1.kept (t' := s1.toks) hk
      exact ⟨s1.heap.objs.size + 1, [s1.heap.objs.size + 1, s1.heap.objs.size], _, _, H1, rfl, I2, turn_enum a (s1.heap.objs.size + 1) s1.heap.objs.size, ⟨⟨.none, he⟩, hit, Nat.succ_ne_self _⟩, hfp, q⟩
    · obtain ⟨its, rv, p', hz⟩ := I1.tuple hq
      refine call_enumT (show s1.heap.IsTuple a its.toArray from p') fun h' he hit hsz hk => wpAny_pyIter_enum he ?_
      have I2 : Inv X pins σ H1 { s1 with heap := h' } := I1.kept (t' := s1.toks) hk
      exact ⟨s1.heap.objs.size + 1, [s1.heap.objs.size + 1, s1.heap.objs.size], _, _, H1, rfl, I2, turn_enumT a (s1.heap.objs.size + 1) s1.heap.objs.size, ⟨⟨.none, he⟩, hit, Nat.succ_ne_self _⟩, hfp, q⟩
end PV

set_option Elab.async false
set_option linter.all false
set_option maxRecDepth 100000
/-! PV: for, comprehensions -/
namespace PV
open PySem PySem.Spec PyProof.Rows L2

theorem Pst.stp' {F : List Addr} {H M H' M' : Hp} (p : Pst H M H' M') (w : Wf M H F) : Stp F H M H' M' F := p.stp w

structure ItOk (G : Gx) (J : It) (items : List D) (M0 : Hp) : Prop where
  go : ∀ i H M, Same M0 M → Same M H → i < items.length → J.go i H
  yld : ∀ i H M x H', Same M0 M → Same M H → i < items.length → J.yld i H x H' → ∃ M' d, Pst H M H' M' ∧ items[i]? = some d ∧ RD G M' x d
  stop : ∀ i H M, Same M0 M → Same M H → items.length ≤ i → J.stop i H
  len : items.length ≤ LIM
abbrev Ei := Env → R (List D)
def IS (G : Gx) (W : WX) (wi : TI) (f : Ei) : Prop :=
  ∀ (σ : L2.St) (H M : Hp) (ρ : Env) (F : List Addr) (K : It → Hp → Prop), Wf M H F → SR G H M σ ρ F → f ρ ≠ .st →
    (∀ ds ρ', f ρ = .ok ds ρ' → ∀ J H' M' F', Stp F H M H' M' F' → SR G H' M' σ ρ' F' → ItOk G J ds M' → K J H') →
    (∀ x ρ', f ρ = .er x ρ' → ∀ cls dd H' M' F', Stp F H M H' M' F' → RX G M' x cls dd → SR G H' M' σ ρ' F' → W cls dd σ H') → wi σ H K
structure DI (G : Gx) (X : Cx) (W : WX) (tg iter : Expr) (f : Ei) : Prop where
  ex : ∃ wi, PI X tg iter wi ∧ IS G W wi f

/-! ### sources -/
/-- the items of a frozen list, tuple, text -/
def signs (x : Str) : List D := x.cps.toList.map fun c => .str ⟨#[c]⟩
def itemsD : D → Option (List D)
  | .lst ds => some ds
  | .tup ds => some ds
  | .str x => some (signs x)
  | _ => none
def eiSeq (f : Ev) : Ei := fun ρ => (f ρ).bind fun o ρ' => match itemsD (frO o) with
  | some ds => .ok ds ρ'
  | none => .st
theorem itok_list {G : Gx} {M0 : Hp} {a : Addr} {xs : List V} {ds : List D} (h : SqL G.K M0 a xs) (r : RDs G M0 xs ds) (l : ds.length ≤ LIM) : ItOk G (Itl G.K a) ds M0 := by
  refine ⟨fun i H M s1 s2 hi => ?_, fun i H M x H' s1 s2 hi y => ?_, fun i H M s1 s2 hi => ?_, l⟩
  · have hx : i < xs.length := by rw [r.length]; exact hi
    exact ⟨xs, xs[i], s2.seq (s1.seq h), by simp [hx]⟩
  · obtain ⟨rfl, y⟩ := y
    have e := y xs (s2.seq (s1.seq h))
    have hd : ds[i]? = some ds[i] := by simp [hi]
    obtain ⟨v, e1, rv⟩ := r.get hd
    rw [e] at e1
    cases e1
    exact ⟨M, _, .refl s2, hd, rv.mono s1⟩
  · exact ⟨xs, s2.seq (s1.seq h), by rw [r.length]; exact hi⟩
theorem itok_tup {G : Gx} {M0 : Hp} {a : Addr} {xs : List V} {ds : List D} (h : SqT G.K M0 a xs) (r : RDs G M0 xs ds) (l : ds.length ≤ LIM) : ItOk G (Itt G.K a) ds M0 := by
  refine ⟨fun i H M s1 s2 hi => ?_, fun i H M x H' s1 s2 hi y => ?_, fun i H M s1 s2 hi => ?_, l⟩
  · have hx : i < xs.length := by rw [r.length]; exact hi
    exact ⟨xs, xs[i], seqT s2 (seqT s1 h), by simp [hx]⟩
  · obtain ⟨rfl, y⟩ := y
    have e := y xs (seqT s2 (seqT s1 h))
    have hd : ds[i]? = some ds[i] := by simp [hi]
    obtain ⟨v, e1, rv⟩ := r.get hd
    rw [e] at e1
    cases e1
    exact ⟨M, _, .refl s2, hd, rv.mono s1⟩
  · exact ⟨xs, seqT s2 (seqT s1 h), by rw [r.length]; exact hi⟩
theorem itok_str {G : Gx} {M0 : Hp} {x : Str} (l : x.length ≤ LIM) : ItOk G (Its x) (signs x) M0 := by
  have hl : (signs x).length = x.cps.size := by simp [signs]
  refine ⟨fun i H M s1 s2 hi => by show i < x.cps.size; omega, fun i H M v H' s1 s2 hi y => ?_, fun i H M s1 s2 hi => by show x.cps.size ≤ i; omega, by rw [hl]; exact l⟩
  obtain ⟨rfl, c, ec, rfl⟩ := y
  refine ⟨M, .str ⟨#[c]⟩, .refl s2, ?_, .str _ (by show 1 ≤ LIM; decide)⟩
  unfold signs
  rw [List.getElem?_map]
  have : x.cps.toList[i]? = some c := by simpa using ec
  rw [this]
  rfl
theorem di_seq {G : Gx} {X : Cx} {W : WX} {tg iter : Expr} {f : Ev} (h : DE G X W iter f) (hK : X.K = G.K := by rfl) : DI G X W tg iter (eiSeq f) := by
  obtain ⟨t, p, q⟩ := h.ex
  refine ⟨fun σ H K => iList X.K t σ H K ∨ iTup X.K t σ H K ∨ iStr t σ H K, ⟨fun pins s σ H R I hh => ?_⟩, fun σ H M ρ F K w s hn hk he => ?_⟩
  · rcases hh with hh | hh | hh
    · exact (pi_list p).run pins s σ H R I hh
    · exact (pi_tup p).run pins s σ H R I hh
    · exact (pi_str p).run pins s σ H R I hh
  · unfold eiSeq at hn hk he
    -- the kind of thing is known ahead of the run
    cases e : f ρ with
    | st => exact absurd (by rw [e]; rfl) hn
    | er x ρ' =>
      refine .inl (q σ H M ρ F _ w s (by rw [e]; intro z; cases z) (fun o ρ2 e2 => by rw [e] at e2; cases e2) (fun x2 ρ2 e2 => ?_))
      rw [e] at e2
      cases e2
      exact he x ρ' (by rw [e]; rfl)
    | ok o ρ' =>
      rw [e] at hn hk
      simp only [R.bind_ok] at hn hk
      have go : ∀ (Q : VK), (∀ v H' M' F', Stp F H M H' M' F' → RD G M' v (frO o) → SR G H' M' σ ρ' F' → Q v H') → t σ H Q := fun Q hQ => by
        refine q σ H M ρ F Q w s (by rw [e]; intro z; cases z) (fun o2 ρ2 e2 v H' M' Fo F' st ro sr => ?_) (fun x2 ρ2 e2 => by rw [e] at e2; cases e2)
        rw [e] at e2
        cases e2
        obtain ⟨M2, rd, st2⟩ := ro.freeze st.wf
        exact hQ v H' M2 F' (st.trans st2) rd (sr.mono st2.mm (keepOn_refl _ _))
      cases ed : frO o with
      | lst ds =>
        rw [ed] at hk
        refine .inl (go _ fun v H' M' F' st rd sr => ?_)
        rw [ed] at rd
        cases rd with
        | lst h r l => exact ⟨_, rfl, ⟨_, .inl (.inl (st.wf.sm _ _ h))⟩, by rw [hK]; exact hk ds ρ' rfl _ H' M' F' st sr (itok_list (.inl (.inl h)) r l)⟩
      | tup ds =>
        rw [ed] at hk
        refine .inr (.inl (go _ fun v H' M' F' st rd sr => ?_))
        rw [ed] at rd
        cases rd with
        | tup h r l => exact ⟨_, rfl, ⟨_, by rw [hK]; exact seqT st.wf.sm h⟩, by rw [hK]; exact hk ds ρ' rfl _ H' M' F' st sr (itok_tup h r l)⟩
      | str x =>
        rw [ed] at hk
        refine .inr (.inr (go _ fun v H' M' F' st rd sr => ?_))
        rw [ed] at rd
        cases rd with
        | str _ l => exact ⟨x, rfl, hk (signs x) ρ' rfl _ H' M' F' st sr (itok_str l)⟩
      | _ => rw [ed] at hn; exact absurd rfl hn

/-- lo, lo + 1, .. -/
def rangeD (lo : Int) (n : Nat) : List D := (List.range n).map fun i => .int (lo + (i : Nat))
theorem itok_range {G : Gx} {M0 : Hp} {lo : Int} {n : Nat} (l : n ≤ LIM) : ItOk G (Itr lo n) (rangeD lo n) M0 := by
  have hl : (rangeD lo n).length = n := by simp [rangeD]
  refine ⟨fun i H M s1 s2 hi => by show i < n; omega, fun i H M v H' s1 s2 hi y => ?_, fun i H M s1 s2 hi => by show n ≤ i; omega, by rw [hl]; exact l⟩
  obtain ⟨rfl, rfl⟩ := y
  refine ⟨M, .int (lo + i), .refl s2, ?_, .int _⟩
  unfold rangeD
  rw [List.getElem?_map, List.getElem?_range (by omega)]
  rfl
def small62 (i : Int) : Bool := decide (-(2 ^ 62) ≤ i ∧ i < 2 ^ 62)
def eiRange1 (o : Opd) : Ei := fun ρ => (runs [o] ρ).bind fun rs ρ' => match fins [o] rs ρ' with
  | some [.int j] => if small62 j && decide (j.toNat ≤ LIM) then .ok (rangeD 0 j.toNat) ρ' else .st
  | _ => .st
def eiRange2 (o o2 : Opd) : Ei := fun ρ => (runs [o, o2] ρ).bind fun rs ρ' => match fins [o, o2] rs ρ' with
  | some [.int i, .int j] => if small62 i && small62 j && decide ((j - i).toNat ≤ LIM) then .ok (rangeD i (j - i).toNat) ρ' else .st
  | _ => .st
theorem di_range1 {G : Gx} {X : Cx} {W : WX} {tg a : Expr} {o : Opd} {p pos : Pos} (ha : DOs G X W [a] [o]) (hm : X.mg "range" = none) (hg : Gl X "range" := by rfl) (hs : starEach [a] X.env = [(false, eval a X.env)] := by rfl) :
    DI G X W tg (.Call (.Name "range" p) [a] [] pos) (eiRange1 o) := by
  obtain ⟨t, pt, q⟩ := ha.ex
  refine ⟨_, pi_range1 hg hm pt hs, fun σ H M ρ F K w s hn hk he => ?_⟩
  unfold eiRange1 at hn hk he
  refine q σ H M ρ F _ w s (fun e => hn (by rw [e]; rfl)) (fun rs ρ1 e1 vs H1 M1 Fo F1 st1 hd1 s1 => ?_) (fun x ρ1 e1 => he x ρ1 (by rw [e1]; rfl))
  rw [e1] at hn hk
  simp only [R.bind_ok] at hn hk
  split at hn
  · rename_i j ed
    split at hn
    · rename_i hj
      simp only [ed, if_pos hj] at hk
      obtain ⟨M2, rv, st2⟩ := hd1.see s1 st1.wf ed
      cases rv with
      | cons h t =>
        cases t
        have e := h.int
        subst e
        simp only [Bool.and_eq_true, decide_eq_true_eq] at hj
        have hj1 : -(2 ^ 62) ≤ j ∧ j < 2 ^ 62 := by simpa [small62] using hj.1
        exact ⟨j, rfl, hj1.1, hj1.2, hk _ _ rfl _ H1 M2 F1 (st1.trans st2) (s1.mono st2.mm (keepOn_refl _ _)) (itok_range hj.2)⟩
    · exact absurd rfl hn
  · exact absurd rfl hn
theorem di_range2 {G : Gx} {X : Cx} {W : WX} {tg a b : Expr} {o o2 : Opd} {p pos : Pos} (ha : DOs G X W [a, b] [o, o2]) (hm : X.mg "range" = none) (hg : Gl X "range" := by rfl) (hs : starEach [a, b] X.env = [(false, eval a X.env), (false, eval b X.env)] := by rfl) (hs2 : starEach [b] X.env = [(false, eval b X.env)] := by rfl) :
    DI G X W tg (.Call (.Name "range" p) [a, b] [] pos) (eiRange2 o o2) := by
  obtain ⟨t, pt, q⟩ := ha.ex
  refine ⟨_, pi_range2 hg hm pt hs hs2, fun σ H M ρ F K w s hn hk he => ?_⟩
  unfold eiRange2 at hn hk he
  refine q σ H M ρ F _ w s (fun e => hn (by rw [e]; rfl)) (fun rs ρ1 e1 vs H1 M1 Fo F1 st1 hd1 s1 => ?_) (fun x ρ1 e1 => he x ρ1 (by rw [e1]; rfl))
  rw [e1] at hn hk
  simp only [R.bind_ok] at hn hk
  split at hn
  · rename_i i j ed
    split at hn
    · rename_i hj
      simp only [ed, if_pos hj] at hk
      obtain ⟨M2, rv, st2⟩ := hd1.see s1 st1.wf ed
      cases rv with
      | cons h t =>
        cases t with
        | cons h2 t =>
          cases t
          have e := h.int
          have e2 := h2.int
          subst e e2
          simp only [Bool.and_eq_true, decide_eq_true_eq] at hj
          have hj1 : -(2 ^ 62) ≤ i ∧ i < 2 ^ 62 := by simpa [small62] using hj.1.1
          have hj2 : -(2 ^ 62) ≤ j ∧ j < 2 ^ 62 := by simpa [small62] using hj.1.2
          exact ⟨i, j, rfl, ⟨hj1.1, hj1.2, hj2.1, hj2.2⟩, hk _ _ rfl _ H1 M2 F1 (st1.trans st2) (s1.mono st2.mm (keepOn_refl _ _)) (itok_range hj.2)⟩
    · exact absurd rfl hn
  · exact absurd rfl hn

/-- pairs of place and item -/
def enumD (ds : List D) : List D := ds.mapIdx fun i d => .tup [.int (i : Nat), d]
theorem RD.pair {G : Gx} {H M : Hp} {T : Addr} {x y : V} {d e : D} (sm : Same M H) (hT : H T = none) (r1 : RD G M x d) (r2 : RD G M y e) : Pst H M (upd H T (.tup [x, y])) (upd M T (.tup [x, y])) ∧ RD G (upd M T (.tup [x, y])) (.ref T) (.tup [d, e]) := by
  have p : Pst H M (upd H T (.tup [x, y])) (upd M T (.tup [x, y])) := .newF sm hT
  exact ⟨p, .tup (.inl (.inl upd_same)) (.cons (r1.mono p.mm) (.cons (r2.mono p.mm) .nil)) (by show 2 ≤ LIM; decide)⟩
theorem itok_enumL {G : Gx} {M0 : Hp} {a : Addr} {xs : List V} {ds : List D} (h : SqL G.K M0 a xs) (r : RDs G M0 xs ds) (l : ds.length ≤ LIM) : ItOk G (Ite G.K a) (enumD ds) M0 := by
  have hl : (enumD ds).length = ds.length := by simp [enumD]
  refine ⟨fun i H M s1 s2 hi => ?_, fun i H M v H' s1 s2 hi y => ?_, fun i H M s1 s2 hi => ⟨xs, s2.seq (s1.seq h), by rw [r.length]; omega⟩, by rw [hl]; exact l⟩
  · have hx : i < xs.length := by rw [r.length]; omega
    exact ⟨xs, xs[i], s2.seq (s1.seq h), by simp [hx]⟩
  · obtain ⟨T, x, rfl, hT, rfl, y⟩ := y
    have e := y xs (s2.seq (s1.seq h))
    have hi' : i < ds.length := by omega
    have hd : ds[i]? = some ds[i] := by simp [hi']
    obtain ⟨v, e1, rv⟩ := r.get hd
    rw [e] at e1
    cases e1
    obtain ⟨p, q⟩ := RD.pair (G := G) (d := .int (i : Nat)) s2 hT (.int _) (rv.mono s1)
    exact ⟨_, _, p, by unfold enumD; rw [List.getElem?_mapIdx, hd]; rfl, q⟩
theorem itok_enumT {G : Gx} {M0 : Hp} {a : Addr} {xs : List V} {ds : List D} (h : SqT G.K M0 a xs) (r : RDs G M0 xs ds) (l : ds.length ≤ LIM) : ItOk G (IteT G.K a) (enumD ds) M0 := by
  have hl : (enumD ds).length = ds.length := by simp [enumD]
  refine ⟨fun i H M s1 s2 hi => ?_, fun i H M v H' s1 s2 hi y => ?_, fun i H M s1 s2 hi => ⟨xs, seqT s2 (seqT s1 h), by rw [r.length]; omega⟩, by rw [hl]; exact l⟩
  · have hx : i < xs.length := by rw [r.length]; omega
    exact ⟨xs, xs[i], seqT s2 (seqT s1 h), by simp [hx]⟩
  · obtain ⟨T, x, rfl, hT, rfl, y⟩ := y
    have e := y xs (seqT s2 (seqT s1 h))
    have hi' : i < ds.length := by omega
    have hd : ds[i]? = some ds[i] := by simp [hi']
    obtain ⟨v, e1, rv⟩ := r.get hd
    rw [e] at e1
    cases e1
    obtain ⟨p, q⟩ := RD.pair (G := G) (d := .int (i : Nat)) s2 hT (.int _) (rv.mono s1)
    exact ⟨_, _, p, by unfold enumD; rw [List.getElem?_mapIdx, hd]; rfl, q⟩
/-- enumerate(x) -/
def eiEnum (a : Arg) : Ei := fun ρ => (runA [a] ρ).bind fun rs ρ' => match frOs rs with
  | [.lst ds] => .ok (enumD ds) ρ'
  | [.tup ds] => .ok (enumD ds) ρ'
  | _ => .st
theorem di_enum {G : Gx} {X : Cx} {W : WX} {e : Expr} {a : Arg} {p pos tpos : Pos} {elts : List Expr} {kk : Nat} (ha : DAs G X W [e] [a]) (hm : X.mg "enumerate" = none) (hK : X.K = G.K := by rfl) (hg : Gl X "enumerate" := by rfl) (hs : starEach [e] X.env = [(false, eval e X.env)] := by rfl) :
    DI G X W (.Tuple elts kk tpos) (.Call (.Name "enumerate" p) [e] [] pos) (eiEnum a) := by
  obtain ⟨t, pt, q⟩ := ha.ex
  refine ⟨_, pi_enumA hg hm pt hs, fun σ H M ρ F K w s hn hk he => ?_⟩
  unfold eiEnum at hn hk he
  refine q σ H M ρ F _ w s (fun e => hn (by rw [e]; rfl)) (fun rs ρ1 e1 vs H1 M1 Fo F1 st1 hd1 _ s1 => ?_) (fun x ρ1 e1 => he x ρ1 (by rw [e1]; rfl))
  rw [e1] at hn hk
  simp only [R.bind_ok] at hn hk
  obtain ⟨M2, rd, st2⟩ := hd1.freeze st1.wf
  split at hn
  · rename_i ds ed
    simp only [ed] at hk
    rw [ed] at rd
    cases rd with
    | cons h t =>
      cases t
      cases h with
      | lst h r l => exact ⟨_, _, rfl, .inl ⟨.inl (.inl (st2.wf.sm _ _ h)), by rw [hK]; exact hk _ _ rfl _ H1 M2 F1 (st1.trans st2) (s1.mono st2.mm (keepOn_refl _ _)) (itok_enumL (.inl (.inl h)) r l)⟩⟩
  · rename_i ds ed
    simp only [ed] at hk
    rw [ed] at rd
    cases rd with
    | cons h t =>
      cases t
      cases h with
      | tup h r l => exact ⟨_, _, rfl, .inr ⟨by rw [hK]; exact seqT st2.wf.sm h, by rw [hK]; exact hk _ _ rfl _ H1 M2 F1 (st1.trans st2) (s1.mono st2.mm (keepOn_refl _ _)) (itok_enumT h r l)⟩⟩
  · exact absurd rfl hn

/-- zip of two lists, of two tuples -/
def zipD (ds es : List D) : List D := (ds.zip es).map fun p => .tup [p.1, p.2]
theorem zipD_get {ds es : List D} {i : Nat} (h : i < ds.length) (h2 : i < es.length) : (zipD ds es)[i]? = some (.tup [ds[i], es[i]]) := by
  unfold zipD
  rw [List.getElem?_map]
  have : (ds.zip es)[i]? = some (ds[i], es[i]) := by
    rw [List.getElem?_zip_eq_some]
    exact ⟨by simp [h], by simp [h2]⟩
  rw [this]
  rfl
theorem itok_zipL {G : Gx} {M0 : Hp} {a b : Addr} {xs ys : List V} {ds es : List D} (h : SqL G.K M0 a xs) (r : RDs G M0 xs ds) (l : ds.length ≤ LIM) (h2 : SqL G.K M0 b ys) (r2 : RDs G M0 ys es) : ItOk G (Itz G.K a b) (zipD ds es) M0 := by
  have hl : (zipD ds es).length = min ds.length es.length := by simp [zipD]
  refine ⟨fun i H M s1 s2 hi => ?_, fun i H M v H' s1 s2 hi y => ?_, fun i H M s1 s2 hi => ⟨xs, ys, s2.seq (s1.seq h), s2.seq (s1.seq h2), by rw [r.length, r2.length]; omega⟩, by rw [hl]; omega⟩
  · have hx : i < xs.length := by rw [r.length]; omega
    have hy : i < ys.length := by rw [r2.length]; omega
    exact ⟨xs, ys, xs[i], ys[i], s2.seq (s1.seq h), s2.seq (s1.seq h2), by simp [hx], by simp [hy]⟩
  · obtain ⟨T, x, z, rfl, hT, rfl, y1, y2⟩ := y
    have e1 := y1 xs (s2.seq (s1.seq h))
    have e2 := y2 ys (s2.seq (s1.seq h2))
    have hi1 : i < ds.length := by omega
    have hi2 : i < es.length := by omega
    obtain ⟨v1, f1, rv1⟩ := r.get (i := i) (d := ds[i]) (by simp [hi1])
    obtain ⟨v2, f2, rv2⟩ := r2.get (i := i) (d := es[i]) (by simp [hi2])
    rw [e1] at f1
    rw [e2] at f2
    cases f1
    cases f2
    obtain ⟨p, q⟩ := RD.pair s2 hT (rv1.mono s1) (rv2.mono s1)
    exact ⟨_, _, p, zipD_get hi1 hi2, q⟩
theorem itok_zipT {G : Gx} {M0 : Hp} {a b : Addr} {xs ys : List V} {ds es : List D} (h : SqT G.K M0 a xs) (r : RDs G M0 xs ds) (l : ds.length ≤ LIM) (h2 : SqT G.K M0 b ys) (r2 : RDs G M0 ys es) : ItOk G (RZ.ItzT G.K a b) (zipD ds es) M0 := by
  have hl : (zipD ds es).length = min ds.length es.length := by simp [zipD]
  refine ⟨fun i H M s1 s2 hi => ?_, fun i H M v H' s1 s2 hi y => ?_, fun i H M s1 s2 hi => ⟨xs, ys, seqT s2 (seqT s1 h), seqT s2 (seqT s1 h2), by rw [r.length, r2.length]; omega⟩, by rw [hl]; omega⟩
  · have hx : i < xs.length := by rw [r.length]; omega
    have hy : i < ys.length := by rw [r2.length]; omega
    exact ⟨xs, ys, xs[i], ys[i], seqT s2 (seqT s1 h), seqT s2 (seqT s1 h2), by simp [hx], by simp [hy]⟩
  · obtain ⟨T, x, z, rfl, hT, rfl, y1, y2⟩ := y
    have e1 := y1 xs (seqT s2 (seqT s1 h))
    have e2 := y2 ys (seqT s2 (seqT s1 h2))
    have hi1 : i < ds.length := by omega
    have hi2 : i < es.length := by omega
    obtain ⟨v1, f1, rv1⟩ := r.get (i := i) (d := ds[i]) (by simp [hi1])
    obtain ⟨v2, f2, rv2⟩ := r2.get (i := i) (d := es[i]) (by simp [hi2])
    rw [e1] at f1
    rw [e2] at f2
    cases f1
    cases f2
    obtain ⟨p, q⟩ := RD.pair s2 hT (rv1.mono s1) (rv2.mono s1)
    exact ⟨_, _, p, zipD_get hi1 hi2, q⟩
def eiZip (a b : Arg) : Ei := fun ρ => (runA [a, b] ρ).bind fun rs ρ' => match frOs rs with
  | [.lst ds, .lst es] => .ok (zipD ds es) ρ'
  | [.tup ds, .tup es] => .ok (zipD ds es) ρ'
  | _ => .st
theorem di_zip {G : Gx} {X : Cx} {W : WX} {e e2 : Expr} {a b : Arg} {p pos tpos : Pos} {elts : List Expr} {kk : Nat} (ha : DAs G X W [e, e2] [a, b]) (hm : X.mg "zip" = none) (hK : X.K = G.K := by rfl) (hg : Gl X "zip" := by rfl)
    (hs : starEach [e, e2] X.env = (false, eval e X.env) :: starEach [e2] X.env := by rfl) (hpl : (backTo pos (starEach [e2] X.env)).any (·.1) = false := by rfl) :
    DI G X W (.Tuple elts kk tpos) (.Call (.Name "zip" p) [e, e2] [] pos) (eiZip a b) := by
  obtain ⟨t, pt, q⟩ := ha.ex
  refine ⟨_, RZ.pi_zipA hg hm pt hs hpl, fun σ H M ρ F K w s hn hk he => ?_⟩
  unfold eiZip at hn hk he
  refine q σ H M ρ F _ w s (fun e => hn (by rw [e]; rfl)) (fun rs ρ1 e1 vs H1 M1 Fo F1 st1 hd1 _ s1 => ?_) (fun x ρ1 e1 => he x ρ1 (by rw [e1]; rfl))
  rw [e1] at hn hk
  simp only [R.bind_ok] at hn hk
  obtain ⟨M2, rd, st2⟩ := hd1.freeze st1.wf
  split at hn
  · rename_i ds es ed
    simp only [ed] at hk
    rw [ed] at rd
    cases rd with
    | cons h t =>
      cases t with
      | cons h2 t =>
        cases t
        cases h with
        | lst h r l =>
          cases h2 with
          | lst h2 r2 l2 => exact ⟨_, _, _, _, rfl, .inl ⟨.inl (.inl (st2.wf.sm _ _ h)), .inl (.inl (st2.wf.sm _ _ h2)), by rw [hK]; exact hk _ _ rfl _ H1 M2 F1 (st1.trans st2) (s1.mono st2.mm (keepOn_refl _ _)) (itok_zipL (.inl (.inl h)) r l (.inl (.inl h2)) r2)⟩⟩
  · rename_i ds es ed
    simp only [ed] at hk
    rw [ed] at rd
    cases rd with
    | cons h t =>
      cases t with
      | cons h2 t =>
        cases t
        cases h with
        | tup h r l =>
          cases h2 with
          | tup h2 r2 l2 => exact ⟨_, _, _, _, rfl, .inr ⟨by rw [hK]; exact seqT st2.wf.sm h, by rw [hK]; exact seqT st2.wf.sm h2, by rw [hK]; exact hk _ _ rfl _ H1 M2 F1 (st1.trans st2) (s1.mono st2.mm (keepOn_refl _ _)) (itok_zipT h r l h2 r2)⟩⟩
  · exact absurd rfl hn

/-! ### for -/
def forL (tg : Tgt) (b : Sv) : List D → Sv
  | [], ρ => .nx ρ
  | d :: ds, ρ => match tg (.fr d) ρ with
    | none => .st
    | some ρ1 => match b ρ1 with
      | .nx ρ2 => forL tg b ds ρ2
      | .ct ρ2 => forL tg b ds ρ2
      | .bk ρ2 => .nx ρ2
      | z => z
def gFor (it : Ei) (tg : Tgt) (b : Sv) : Sv := fun ρ => match it ρ with
  | .ok ds ρ1 => forL tg b ds ρ1
  | .er x ρ1 => .er x ρ1
  | .st => .st
theorem ss_for {G : Gx} {W : WX} {P : List Bool} {wi : TI} {g : TG} {tb : TS} {it : Ei} {tg : Tgt} {b : Sv} (hi : IS G W wi it) (ht : TgS G P g tg) (hb : SS G W P tb b) : SS G W P (tFor wi g tb) (gFor it tg b) := by
  intro σ H M ρ F D w s hn k
  unfold gFor at hn k
  refine hi σ H M ρ F _ w s (fun e => hn (by rw [e])) (fun ds ρ1 e1 J H1 M1 F1 st1 s1 iok => ?_) (fun x ρ' e cls dd H' M' F' st rx sr => ?_)
  · rw [e1] at hn k
    simp only at hn k
    refine ⟨fun i m σ' H' => m = ds.length - i ∧ i ≤ ds.length ∧ ∃ M' ρ' F', Stp F H M H' M' F' ∧ Same M1 M' ∧ SR G H' M' σ' ρ' F' ∧ Pin P σ σ' ∧ forL tg b (ds.drop i) ρ' = forL tg b ds ρ1, ⟨ds.length, by simp, Nat.zero_le _, M1, ρ1, F1, st1, fun _ _ e => e, s1, .refl, rfl⟩, ?_⟩
    rintro i m σ2 H2 ⟨rfl, hi', M2, ρ2, F2, st2, mm2, s2, pn2, e2⟩
    by_cases hlt : i < ds.length
    · refine .inr ⟨iok.go i H2 M2 mm2 st2.wf.sm hlt, fun σ' H' => (i + 1 ≤ ds.length ∧ ∃ M' ρ' F', Stp F H M H' M' F' ∧ Same M1 M' ∧ SR G H' M' σ' ρ' F' ∧ Pin P σ σ' ∧ forL tg b (ds.drop (i + 1)) ρ' = forL tg b ds ρ1), fun σ' H' h => ⟨ds.length - (i + 1), by omega, rfl, h.1, h.2⟩, fun x H3 y => ?_⟩
      obtain ⟨M3, d, ps, ed, rd⟩ := iok.yld i H2 M2 x H3 mm2 st2.wf.sm hlt y
      have ed' : ds.drop i = d :: ds.drop (i + 1) := by
        rw [List.drop_eq_getElem_cons hlt]
        congr 1
        rw [List.getElem?_eq_getElem hlt] at ed
        exact Option.some.inj ed
      rw [ed'] at e2
      rw [← e2] at hn k
      unfold forL at hn k
      have st3 := st2.trans (ps.stp st2.wf)
      have s3 : SR G H3 M3 σ2 ρ2 F2 := s2.mono ps.mm fun a ha x e => ps.hh a x e
      refine ht x σ2 H3 M3 ρ2 (.fr d) [] F2 _ st3.wf (.fr rd) s3 (fun e => hn (by rw [e])) fun ρ4 e4 σ4 H4 M4 F4 st4 s4 pn4 => ?_
      rw [e4] at hn k
      simp only at hn k
      have e5 : forL tg b ds ρ1 = (match b ρ4 with
        | .nx ρ2 => forL tg b (ds.drop (i + 1)) ρ2
        | .ct ρ2 => forL tg b (ds.drop (i + 1)) ρ2
        | .bk ρ2 => .nx ρ2
        | z => z) := by
        rw [← e2]
        conv => lhs; unfold forL
        rw [e4]
      have st34 := st3.trans st4
      have mm4 : Same M1 M4 := fun b x e => st4.mm b x (ps.mm b x (mm2 b x e))
      refine hb σ4 H4 M4 ρ4 F4 _ st4.wf s4 (fun e => hn (by rw [e])) ⟨fun ρ5 e6 σ5 H5 M5 F5 st5 s5 pn5 => ?_, fun ρ5 e6 σ5 H5 M5 F5 st5 s5 pn5 => ?_, fun ρ5 e6 σ5 H5 M5 F5 st5 s5 pn5 => ?_, fun o ρ5 e6 v σ5 H5 M5 Fo F5 st5 ro s5 pn5 => ?_, fun x ρ5 e6 cls dd σ5 H5 M5 F5 st5 rx s5 pn5 => ?_⟩
      · exact ⟨hlt, M5, ρ5, F5, st34.trans st5, fun b x e => st5.mm b x (mm4 b x e), s5, (pn2.trans pn4).trans pn5, by rw [e5, e6]⟩
      · rw [e6] at k
        exact k.nx ρ5 rfl σ5 H5 M5 F5 (st34.trans st5) s5 ((pn2.trans pn4).trans pn5)
      · exact ⟨hlt, M5, ρ5, F5, st34.trans st5, fun b x e => st5.mm b x (mm4 b x e), s5, (pn2.trans pn4).trans pn5, by rw [e5, e6]⟩
      · rw [e6] at k
        exact k.rt o ρ5 rfl v σ5 H5 M5 Fo F5 (st34.trans st5) ro s5 ((pn2.trans pn4).trans pn5)
      · rw [e6] at k
        exact k.er x ρ5 rfl cls dd σ5 H5 M5 F5 (st34.trans st5) rx s5 ((pn2.trans pn4).trans pn5)
    · have e : i = ds.length := by omega
      subst e
      refine .inl ⟨iok.stop _ H2 M2 mm2 st2.wf.sm (Nat.le_refl _), ?_⟩
      rw [List.drop_length] at e2
      rw [← e2] at k
      exact k.nx ρ2 rfl σ2 H2 M2 F2 st2 s2 pn2
  · rw [e] at k
    exact k.er x ρ' rfl cls dd σ H' M' F' st rx sr .refl
theorem ds_for {G : Gx} {X : Cx} {W : WX} {P : List Bool} {tgx iter : Expr} {body : List Stmt} {it : Ei} {tg : Tgt} {b : Sv} {pos : Pos} (hp : PassesOwn (model X.prog X.w) X.A X.env X.xe) (hc : X.calm = true) (hi : DI G X W tgx iter it) (hg : DG G X P tgx tg) (hb : DSs G X W P body b)
    (hs : ∀ x, foldedSetIterable iter X.env x = pure x := by intro _; rfl) : DS G X W P (.For tgx iter body [] pos) (gFor it tg b) := by
  obtain ⟨wi, p, q⟩ := hi.ex
  obtain ⟨g, p2, q2⟩ := hg.ex
  obtain ⟨t, p3, q3⟩ := hb.ex
  exact ⟨_, ps_for hp hc p p2 p3 hs, ss_for q q2 q3⟩
end PV

set_option Elab.async false
set_option linter.all false
set_option maxRecDepth 100000
/-! PV: list comprehensions -/
namespace PV
open PySem PySem.Spec PyProof.Rows L2

/-- the slots that are not a comprehension's own -/
def compl (vs : List Nat) (n : Nat) : List Bool := (List.range n).map fun i => !vs.contains i
theorem compl_get {vs : List Nat} {n i : Nat} (h : i < n) (hv : i ∉ vs) : (compl vs n)[i]? = some true := by
  unfold compl
  rw [List.getElem?_map, List.getElem?_range h]
  simp [hv]
def wipeE (ρ : Env) : List Nat → Env
  | [] => ρ
  | v :: vs => (wipeE ρ vs).set v none
theorem SR.wipe {G : Gx} {H M : Hp} {σ : L2.St} {ρ : Env} {F : List Addr} (s : SR G H M σ ρ F) : ∀ vs : List Nat, ∃ F1, SR G H M (L2.wipe σ vs) (wipeE ρ vs) F1 ∧ (∀ a ∈ F1, a ∈ F) ∧ (F.Nodup → F1.Nodup)
  | [] => ⟨F, s, fun _ h => h, fun h => h⟩
  | v :: vs => by
    obtain ⟨F1, s1, m1, n1⟩ := s.wipe vs
    obtain ⟨Fo, F2, s2, pm⟩ := s1.clear v
    have s3 : ∀ {σ : L2.St} {ρ : Env} {F : List Addr} (i : Nat), SR G H M σ ρ F → ρ[i]? = some none ∨ ρ[i]? = none → SR G H M (σ.set i none) ρ F := by
      intro σ ρ F i z
      induction z generalizing i with
      | nil => intro _; exact .nil
      | no t ih =>
        intro h
        cases i with
        | zero => exact .no t
        | succ i => exact .no (ih i (by simpa using h))
      | so h t ih =>
        intro h'
        cases i with
        | zero => simp at h'
        | succ i => exact .so h (ih i (by simpa using h'))
    refine ⟨F2, ?_, fun a ha => m1 a (pm.mem_iff.mpr (List.mem_append_right _ ha)), fun nd => (List.nodup_append.mp (pm.nodup_iff.mp (n1 nd))).2.1⟩
    unfold L2.wipe wipeE
    refine s3 v s2 ?_
    by_cases hv : v < (wipeE ρ vs).length
    · exact .inl (by rw [List.getElem?_set_self hv])
    · exact .inr (by rw [List.getElem?_eq_none]; simpa using hv)
theorem wipeE_length (ρ : Env) : ∀ vs : List Nat, (wipeE ρ vs).length = ρ.length
  | [] => rfl
  | v :: vs => by unfold wipeE; rw [List.length_set, wipeE_length ρ vs]
theorem wipe_ext {σ τ : L2.St} : ∀ {vs : List Nat}, σ.length = τ.length → (∀ i, i < σ.length → i ∉ vs → σ[i]? = τ[i]?) → L2.wipe σ vs = L2.wipe τ vs := by
  intro vs hl h
  apply List.ext_getElem?
  intro i
  have key : ∀ (σ : L2.St) (vs : List Nat), i < σ.length → (L2.wipe σ vs)[i]? = if i ∈ vs then some none else σ[i]? := by
    intro σ vs hi
    induction vs with
    | nil => simp [L2.wipe]
    | cons v vs ih =>
      unfold L2.wipe
      by_cases e : v = i
      · subst e
        rw [List.getElem?_set_self (by rw [wipe_length]; exact hi)]
        simp
      · rw [List.getElem?_set_ne e, ih]
        have : i ≠ v := fun z => e z.symm
        simp [this]
  by_cases hi : i < σ.length
  · rw [key σ vs hi, key τ vs (by omega)]
    split
    · rfl
    · rename_i hn; exact h i hi hn
  · rw [List.getElem?_eq_none (by rw [wipe_length]; omega), List.getElem?_eq_none (by rw [wipe_length]; omega)]
theorem wipe_wipe (σ : L2.St) (vs : List Nat) : L2.wipe (L2.wipe σ vs) vs = L2.wipe σ vs := by
  refine wipe_ext (wipe_length σ vs) fun i hi hn => ?_
  have key : ∀ (vs : List Nat), i ∉ vs → (L2.wipe σ vs)[i]? = σ[i]? := by
    intro vs hn
    induction vs with
    | nil => rfl
    | cons v vs ih =>
      unfold L2.wipe
      rw [List.getElem?_set_ne (fun e : v = i => hn (by rw [← e]; exact List.mem_cons_self)), ih fun h => hn (List.mem_cons_of_mem _ h)]
  exact key vs hn

/-- nothing leaves a comprehension's block -/
abbrev W0 : WX := fun _ _ _ _ => False
def lcL (own : List Nat) (tg : Tgt) (tt : Et) (te : Ev) : List D → List D → Env → R (List D)
  | [], acc, ρ => .ok acc ρ
  | d :: ds, acc, ρ => match tg (.fr d) ρ with
    | none => .st
    | some ρ1 => match tt ρ1 with
      | .ok true ρ2 => (match te ρ2 with
        | .ok o ρ3 => lcL own tg tt te ds (acc ++ [frO o]) (wipeE ρ3 own)
        | _ => .st)
      | .ok false ρ2 => lcL own tg tt te ds acc (wipeE ρ2 own)
      | _ => .st
/-- the own slots' things from before, all frozen, put back -/
def backE (ρ0 : Env) : List Nat → Env → Option Env
  | [], ρ => some ρ
  | v :: vs, ρ => match backE ρ0 vs ρ with
    | none => none
    | some ρ1 => match ρ0[v]? with
      | some none => some ρ1
      | some (some (.fr d)) => (match ρ1[v]? with
        | some none => some (ρ1.set v (some (.fr d)))
        | _ => none)
      | _ => none
def evLc (n : Nat) (own : List Nat) (it : Ei) (tg : Tgt) (tt : Et) (te : Ev) : Ev := fun ρ => match it ρ with
  | .ok ds ρ1 => if ρ1.length = n then (match lcL own tg tt te ds [] (wipeE ρ1 own) with
    | .ok acc ρ2 => (match backE ρ1 own ρ2 with
      | some ρ3 => .ok (.ls acc) ρ3
      | none => .st)
    | _ => .st) else .st
  | .er x ρ1 => .er x ρ1
  | .st => .st
theorem back_ok {G : Gx} {H0 M0 H M : Hp} {σ : L2.St} {ρ0 : Env} {F0 : List Addr} (s0 : SR G H0 M0 σ ρ0 F0) (mm : Same M0 M) : ∀ {own : List Nat} {ρ ρ' : Env} {F : List Addr}, SR G H M (L2.wipe σ own) ρ F → (backE ρ0 own ρ = some ρ') → SR G H M σ ρ' F := by
  intro own ρ ρ' F s e
  -- the slots' values: wherever a slot is filled, σ has its value
  have weak : ∀ {τ : L2.St} {ρ : Env} {F : List Addr}, SR G H M τ ρ F → ∀ (υ : L2.St), υ.length = τ.length → (∀ (i : Nat) (v : V), τ[i]? = some (some v) → υ[i]? = some (some v)) → SR G H M υ ρ F := by
    intro τ ρ F z
    induction z with
    | nil =>
      intro υ hl _
      cases υ with
      | nil => exact .nil
      | cons _ _ => simp at hl
    | no t ih =>
      intro υ hl h
      cases υ with
      | nil => simp at hl
      | cons u υ => exact .no (ih υ (by simpa using hl) fun i v e => by simpa using h (i + 1) v (by simpa using e))
    | so h t ih =>
      intro υ hl hh
      cases υ with
      | nil => simp at hl
      | cons u υ =>
        have e0 := hh 0 _ rfl
        simp at e0
        subst e0
        exact .so h (ih υ (by simpa using hl) fun i v e => by simpa using hh (i + 1) v (by simpa using e))
  have s1 : SR G H M σ ρ F := weak s σ (by rw [wipe_length]) fun i v e => (wipe_some e).1
  have go : ∀ {vs : List Nat} {ρ' : Env}, backE ρ0 vs ρ = some ρ' → SR G H M σ ρ' F := by
    intro vs
    induction vs with
    | nil => intro ρ' e; cases e; exact s1
    | cons v vs ih =>
      intro ρ' e
      unfold backE at e
      split at e
      · cases e
      · rename_i ρ1 e1
        have s2 := ih e1
        split at e
        · cases e; exact s2
        · rename_i d e2
          split at e
          · rename_i e3
            cases e
            obtain ⟨v', Fo, F1, ev, ro, _, _⟩ := s0.take e2
            cases ro with
            | fr h =>
              obtain ⟨F2, s3, pm⟩ := s2.put_same (.fr (h.mono mm)) e3 ev
              have key : ∀ {σ : L2.St} {ρ : Env} {F : List Addr} (i : Nat) (d : D) (v : V), SR G H M σ ρ F → ρ[i]? = some none → σ[i]? = some (some v) → RD G M v d → SR G H M σ (ρ.set i (some (.fr d))) F := by
                intro σ ρ F i d v z
                induction z generalizing i with
                | nil => intro h; simp at h
                | no t ih =>
                  intro h hv r
                  cases i with
                  | zero => simp at hv; subst hv; exact SR.so (Fo := []) (.fr r) t
                  | succ i => exact .no (ih i (by simpa using h) (by simpa using hv) r)
                | so h t ih =>
                  intro h' hv r
                  cases i with
                  | zero => simp at h'
                  | succ i => exact .so h (ih i (by simpa using h') (by simpa using hv) r)
              exact key v d v' s2 e3 ev (h.mono mm)
          · cases e
        · cases e
  exact go e
theorem SR.weakF {G : Gx} {H M : Hp} {σ : L2.St} {ρ : Env} {F : List Addr} (s : SR G H M σ ρ F) : SR G H M σ ρ F := s

theorem es_lc {G : Gx} {W : WX} {wi : TI} {g : TG} {tt : TT} {te : TE} {it : Ei} {tg : Tgt} {et : Et} {ev : Ev} {n : Nat} {own : List Nat} (hi : IS G W wi it) (hg : TgS G (compl own n) g tg) (ht : TS' G W0 tt et) (he' : ES G W0 te ev) : ES G W (tLc wi g tt te own) (evLc n own it tg et ev) := by
  intro σ H M ρ F Q w s hn hk he
  unfold evLc at hn hk he
  refine hi σ H M ρ F _ w s (fun e => hn (by rw [e])) (fun ds ρ1 e1 J H1 M1 F1 st1 s1 iok => ?_) (fun x ρ' e => he x ρ' (by rw [e]))
  rw [e1] at hn hk
  simp only at hn hk
  split at hn
  · rename_i hlen
    simp only [if_pos hlen] at hk
    intro D hD
    have hDM : M1 D = none := st1.wf.sm.free hD
    obtain ⟨F1', sw, mw, nw⟩ := s1.wipe own
    have hDF : D ∉ F1 := fun h => (st1.wf.ow D h).2 hD
    have pD : Pst H1 M1 (upd H1 D (.lst [])) M1 := .newO st1.wf.sm hD
    have stD : Stp F1 H1 M1 (upd H1 D (.lst [])) M1 ([D] ++ F1) := pD.grow (.one hD hDM) st1.wf
    have stD' : Stp F H M (upd H1 D (.lst [])) M1 ([D] ++ F1') := (st1.trans stD).sub (List.nodup_append.mpr ⟨by simp, nw st1.wf.nd, fun a ha b hb e => by
        have e' : a = D := by simpa using ha
        rw [← e, e'] at hb
        exact hDF (mw D hb)⟩) fun a ha => by
      rcases List.mem_append.mp ha with h | h
      · exact List.mem_append_left _ h
      · exact List.mem_append_right _ (mw a h)
    have swD : SR G (upd H1 D (.lst [])) M1 (L2.wipe σ own) (wipeE ρ1 own) F1' := sw.mono (fun _ _ e => e) fun a ha x e => pD.hh a x e
    have lsig : (L2.wipe σ own).length = n := by rw [wipe_length, s1.length, hlen]
    generalize hz : lcL own tg et ev ds [] (wipeE ρ1 own) = z at hn hk
    have hzn : z ≠ .st := fun e => hn (by rw [e])
    refine ⟨fun i m H' => m = ds.length - i ∧ i ≤ ds.length ∧ ∃ M' ρ' F' acc accD, Stp F H M H' M' ([D] ++ F') ∧ Same M1 M' ∧ SR G H' M' (L2.wipe σ own) ρ' F' ∧ H' D = some (.lst acc) ∧ RDs G M' acc accD ∧ accD.length ≤ i ∧ lcL own tg et ev (ds.drop i) accD ρ' = z,
      ⟨ds.length, by simp, Nat.zero_le _, M1, _, F1', [], [], stD', fun _ _ e => e, swD, upd_same, .nil, Nat.le_refl _, hz⟩, ?_⟩
    rintro i m H2 ⟨rfl, hi', M2, ρ2, F2, acc, accD, st2, mm2, s2, hD2, ra, la, e2⟩
    by_cases hlt : i < ds.length
    · refine .inr ⟨iok.go i H2 M2 mm2 st2.wf.sm hlt, fun H' => (i + 1 ≤ ds.length ∧ ∃ M' ρ' F' acc accD, Stp F H M H' M' ([D] ++ F') ∧ Same M1 M' ∧ SR G H' M' (L2.wipe σ own) ρ' F' ∧ H' D = some (.lst acc) ∧ RDs G M' acc accD ∧ accD.length ≤ i + 1 ∧ lcL own tg et ev (ds.drop (i + 1)) accD ρ' = z), fun H' h => ⟨ds.length - (i + 1), by omega, rfl, h.1, h.2⟩, fun x H3 y => ?_⟩
      obtain ⟨M3, d, ps, ed, rd⟩ := iok.yld i H2 M2 x H3 mm2 st2.wf.sm hlt y
      have ed' : ds.drop i = d :: ds.drop (i + 1) := by
        rw [List.drop_eq_getElem_cons hlt]
        congr 1
        rw [List.getElem?_eq_getElem hlt] at ed
        exact Option.some.inj ed
      rw [ed'] at e2
      unfold lcL at e2
      -- the new list is elsewhere meanwhile
      have w2 : Wf M2 H2 (F2 ++ [D]) := st2.wf.perm List.perm_append_comm
      have st3' : Stp ([D] ++ F2) H2 M2 H3 M3 ([D] ++ F2) := ps.stp st2.wf
      have w3 : Wf M3 H3 (F2 ++ [D]) := st3'.wf.perm List.perm_append_comm
      have s3 : SR G H3 M3 (L2.wipe σ own) ρ2 F2 := s2.mono ps.mm fun a ha x e => ps.hh a x e
      have hD3 : H3 D = some (.lst acc) := ps.hh D _ hD2
      refine hg x _ H3 M3 ρ2 (.fr d) [] F2 _ w3.left (.fr rd) s3 (fun e => hzn (by rw [← e2, e])) fun ρ4 e4 σ4 H4 M4 F4 st4 s4 pn4 => ?_
      rw [e4] at e2
      simp only at e2
      have hw4 : L2.wipe σ4 own = L2.wipe σ own := by
        rw [← wipe_wipe σ own]
        refine wipe_ext (by rw [pn4.1]) fun j hj hjn => ?_
        exact pn4.2 j (compl_get (by rw [pn4.1, lsig] at hj; exact hj) hjn)
      refine ⟨hw4, ?_⟩
      have fr4 := st4.frame w3
      have hD4 : H4 D = some (.lst acc) := st4.keep D _ (w3.disj' D (by simp)) hD3
      refine ht σ4 H4 M4 ρ4 F4 _ st4.wf s4 (fun e => hzn (by rw [← e2, e])) (fun b ρ5 e5 H5 M5 F5 st5 s5 => ?_) (fun xx ρ5 e5 => absurd (by rw [← e2, e5]) hzn)
      have fr5 := st5.frame fr4.wf
      have hD5 : H5 D = some (.lst acc) := st5.keep D _ (fr4.wf.disj' D (by simp)) hD4
      rw [e5] at e2
      cases b with
      | false =>
        simp only at e2
        refine iteF ?_
        obtain ⟨F6, s6, m6, n6⟩ := s5.wipe own
        rw [hw4] at s6
        have pc : (F2 ++ [D]).Perm ([D] ++ F2) := List.perm_append_comm
        have tot := (((st2.trans st3').perm pc.symm).trans fr4).trans fr5
        refine ⟨hlt, M5, _, F6, acc, accD, (tot.perm List.perm_append_comm).sub ?_ ?_, fun b x e => st5.mm b x (st4.mm b x (ps.mm b x (mm2 b x e))), s6, hD5, ((ra.mono ps.mm).mono st4.mm).mono st5.mm, by omega, e2⟩
        · exact List.nodup_append.mpr ⟨by simp, n6 st5.wf.nd, fun a ha b hb e => by
            have e' : a = D := by simpa using ha
            rw [← e, e'] at hb
            exact fr5.wf.disj D (m6 D hb) (by simp)⟩
        · intro a ha
          rcases List.mem_append.mp ha with h | h
          · exact List.mem_append_left _ h
          · exact List.mem_append_right _ (m6 a h)
      | true =>
        simp only at e2
        refine iteT ?_
        refine he' σ4 H5 M5 ρ5 F5 _ st5.wf s5 (fun e => hzn (by rw [← e2, e])) (fun o ρ6 e6 v H6 M6 Fo F6 st6 ro s6 => ?_) (fun xx ρ6 e6 => absurd (by rw [← e2, e6]) hzn)
        rw [e6] at e2
        simp only at e2
        have fr6 := st6.frame fr5.wf
        have hD6 : H6 D = some (.lst acc) := st6.keep D _ (fr5.wf.disj' D (by simp)) hD5
        -- what is made is frozen
        have w6 : Wf M6 H6 (Fo ++ (F6 ++ [D])) := by rw [← List.append_assoc]; exact fr6.wf
        obtain ⟨M7, rd7, st7⟩ := ro.freeze w6
        have s7 := s6.mono st7.mm (keepOn_refl _ H6)
        obtain ⟨F8, s8, m8, n8⟩ := s7.wipe own
        rw [hw4] at s8
        have ra7 : RDs G M7 acc accD := ((((ra.mono ps.mm).mono st4.mm).mono st5.mm).mono st6.mm).mono st7.mm
        have hlacc : acc.length = accD.length := ra7.length
        refine ⟨acc, hD6, ?_, hlt, ?_⟩
        · have := iok.len
          have := LIM_line
          omega
        have w7 := st7.wf
        have hDM7 : M7 D = none := (w7.ow D (by simp)).1
        have hDF8 : D ∉ F6 := w7.disj' D (by simp)
        have stW : Stp (F6 ++ [D]) H6 M7 (upd H6 D (.lst (acc ++ [v]))) M7 (F6 ++ [D]) := by
          refine ⟨fun _ _ e => e, fun a x ha e => ?_, fun _ _ _ e => e, fun a ha => .inl ha, fun b x e => ?_, w7.nd, fun a ha => ⟨(w7.ow a ha).1, ?_⟩⟩
          · rw [upd_ne (fun z => ha (by simp [z]))]; exact e
          · have : b ≠ D := fun z => by rw [z, hDM7] at e; cases e
            rw [upd_ne this]; exact w7.sm b x e
          · by_cases h : a = D
            · rw [h, upd_same]; simp
            · rw [upd_ne h]; exact (w7.ow a ha).2
        have s9 : SR G (upd H6 D (.lst (acc ++ [v]))) M7 (L2.wipe σ own) (wipeE ρ6 own) F8 := s8.mono (fun _ _ e => e) fun a ha x e => by
          rw [upd_ne (show a ≠ D from fun z => hDF8 (by rw [← z]; exact m8 a ha))]; exact e
        have pc : (F2 ++ [D]).Perm ([D] ++ F2) := List.perm_append_comm
        have tot := (((((st2.trans st3').perm pc.symm).trans fr4).trans fr5).trans fr6)
        have tot2 := (tot.perm (by rw [List.append_assoc])).trans st7
        have tot3 := tot2.trans stW
        refine ⟨M7, _, F8, acc ++ [v], accD ++ [frO o], (tot3.perm List.perm_append_comm).sub ?_ ?_, fun b x e => st7.mm b x (st6.mm b x (st5.mm b x (st4.mm b x (ps.mm b x (mm2 b x e))))), s9, upd_same, ra7.append (.cons rd7 .nil), by simp; omega, e2⟩
        · exact List.nodup_append.mpr ⟨by simp, n8 (w7.left.nd), fun a ha b hb e => by
            have e' : a = D := by simpa using ha
            rw [← e, e'] at hb
            exact hDF8 (m8 D hb)⟩
        · intro a ha
          rcases List.mem_append.mp ha with h | h
          · exact List.mem_append_left _ h
          · exact List.mem_append_right _ (m8 a h)
    · have e : i = ds.length := by omega
      subst e
      refine .inl ⟨iok.stop _ H2 M2 mm2 st2.wf.sm (Nat.le_refl _), ?_⟩
      rw [List.drop_length] at e2
      unfold lcL at e2
      subst e2
      simp only at hn hk
      split at hn
      · rename_i ρ3 e3
        simp only [e3] at hk
        have s3 := back_ok s1 mm2 s2 e3
        exact hk _ ρ3 rfl (.ref D) H2 M2 [D] F2 st2 (.ls hD2 ra (Nat.le_trans la iok.len)) s3
      · exact absurd rfl hn
  · exact absurd rfl hn
structure DTs (G : Gx) (X : Cx) (W : WX) (es : List Expr) (f : Et) : Prop where
  ex : ∃ t, PTs X es t ∧ TS' G W t f
def etYes : Et := fun ρ => .ok true ρ
theorem dts_nil {G : Gx} {X : Cx} {W : WX} : DTs G X W [] etYes := ⟨_, pts_nil, fun σ H M ρ F Q w s _ hk _ => hk true ρ rfl H M F (Stp.refl w) s⟩
theorem dts_one {G : Gx} {X : Cx} {W : WX} {c : Expr} {f : Et} (h : DT G X W c f) : DTs G X W [c] f := by
  obtain ⟨t, p, q⟩ := h.ex
  exact ⟨_, pts_one p, q⟩
/-! canonical readings -/
def cE (G : Gx) (W : WX) (f : Ev) : TE := fun σ H Q => ∃ (M : Hp) (ρ : Env) (F : List Addr), Wf M H F ∧ SR G H M σ ρ F ∧ f ρ ≠ .st ∧
    (∀ o ρ', f ρ = .ok o ρ' → ∀ v H' M' Fo F', Stp F H M H' M' (Fo ++ F') → RO G H' M' v o Fo → SR G H' M' σ ρ' F' → Q v H') ∧
    (∀ x ρ', f ρ = .er x ρ' → ∀ cls dd H' M' F', Stp F H M H' M' F' → RX G M' x cls dd → SR G H' M' σ ρ' F' → W cls dd σ H')
theorem ces {G : Gx} {W : WX} {f : Ev} : ES G W (cE G W f) f := fun σ H M ρ F Q w s hn hk he => ⟨M, ρ, F, w, s, hn, hk, he⟩
theorem DE.canon {G : Gx} {X : Cx} {W : WX} {e : Expr} {f : Ev} (h : DE G X W e f) : PE X e (cE G W f) := by
  obtain ⟨t, p, q⟩ := h.ex
  exact ⟨fun pins s σ H Q I ⟨M, ρ, F, w, sr, hn, hk, he⟩ => p.run pins s σ H Q I (q σ H M ρ F Q w sr hn hk he)⟩
def cT (G : Gx) (W : WX) (f : Et) : TT := fun σ H Q => ∃ (M : Hp) (ρ : Env) (F : List Addr), Wf M H F ∧ SR G H M σ ρ F ∧ f ρ ≠ .st ∧
    (∀ b ρ', f ρ = .ok b ρ' → ∀ H' M' F', Stp F H M H' M' F' → SR G H' M' σ ρ' F' → Q b H') ∧
    (∀ x ρ', f ρ = .er x ρ' → ∀ cls dd H' M' F', Stp F H M H' M' F' → RX G M' x cls dd → SR G H' M' σ ρ' F' → W cls dd σ H')
theorem cts {G : Gx} {W : WX} {f : Et} : TS' G W (cT G W f) f := fun σ H M ρ F Q w s hn hk he => ⟨M, ρ, F, w, s, hn, hk, he⟩
theorem DTs.canon {G : Gx} {X : Cx} {W : WX} {e : List Expr} {f : Et} (h : DTs G X W e f) : PTs X e (cT G W f) := by
  obtain ⟨t, p, q⟩ := h.ex
  exact ⟨fun pins s σ H Q I ⟨M, ρ, F, w, sr, hn, hk, he⟩ => p.run pins s σ H Q I (q σ H M ρ F Q w sr hn hk he)⟩
def cG (G : Gx) (P : List Bool) (tg : Tgt) : TG := fun v σ H Q => ∃ (M : Hp) (ρ : Env) (o : O) (Fo F : List Addr), Wf M H (Fo ++ F) ∧ RO G H M v o Fo ∧ SR G H M σ ρ F ∧ tg o ρ ≠ none ∧
    (∀ ρ', tg o ρ = some ρ' → ∀ σ' H' M' F', Stp (Fo ++ F) H M H' M' F' → SR G H' M' σ' ρ' F' → Pin P σ σ' → Q σ' H')
theorem cgs {G : Gx} {P : List Bool} {tg : Tgt} : TgS G P (cG G P tg) tg := fun v σ H M ρ o Fo F Q w ro s hn hk => ⟨M, ρ, o, Fo, F, w, ro, s, hn, hk⟩
theorem DG.canon {G : Gx} {X : Cx} {P : List Bool} {e : Expr} {tg : Tgt} (h : DG G X P e tg) : PG X e (cG G P tg) := by
  obtain ⟨g, p, q⟩ := h.ex
  exact ⟨fun pins s σ H v u Q I r ⟨M, ρ, o, Fo, F, w, ro, sr, hn, hk⟩ => p.run pins s σ H v u Q I r (q v σ H M ρ o Fo F Q w ro sr hn hk)⟩

theorem de_lc {G : Gx} {X : Cx} {W : WX} {elt tgx iter : Expr} {ifs : List Expr} {scope : Scope} {own : List (Str × Nat)} {pos : Pos} {it : Ei} {tg : Tgt} {et : Et} {ev : Ev} (n : Nat) (hc : X.calm = true) (hN : X.N.Nodup) (hi : DI G X W tgx iter it) (ok : BlkOk X.N X.env.scope scope own)
    (hg : ∀ (s : Shared) (H : Hp) (C : Addr) (cl : List (Str × Addr)) (fp : List Addr), DG G (X.blk s H scope (compEnvC scope cl C X.env) fp) (compl (own.map (·.2)) n) tgx tg)
    (ht : ∀ (s : Shared) (H : Hp) (C : Addr) (cl : List (Str × Addr)) (fp : List Addr), DTs G (X.blk s H scope (compEnvC scope cl C X.env) fp) W0 ifs et)
    (he : ∀ (s : Shared) (H : Hp) (C : Addr) (cl : List (Str × Addr)) (fp : List Addr), DE G (X.blk s H scope (compEnvC scope cl C X.env) fp) W0 elt ev) (hs : ∀ x, foldedSetIterable iter X.env x = pure x := by intro _; rfl) :
    DE G X W (.ListComp elt [⟨tgx, iter, ifs, 0⟩] scope pos) (evLc n (own.map (·.2)) it tg et ev) := by
  obtain ⟨wi, p, q⟩ := hi.ex
  exact ⟨_, pe_lc hc hN p ok (fun s H C cl fp => (hg s H C cl fp).canon) (fun s H C cl fp => (ht s H C cl fp).canon) (fun s H C cl fp => (he s H C cl fp).canon) hs, es_lc q cgs cts ces⟩
theorem ds_setLc {G : Gx} {X : Cx} {W : WX} {P : List Bool} {i : Nat} {y : Str} {py : Pos} {elt tgx iter : Expr} {ifs : List Expr} {scope : Scope} {own : List (Str × Nat)} {pos spos : Pos} {it : Ei} {tg : Tgt} {et : Et} {ev : Ev} (n : Nat) (hc : X.calm = true) (hN : X.N.Nodup)
    (hi : DI G X W tgx iter it) (ok : BlkOk X.N X.env.scope scope own)
    (hg : ∀ (s : Shared) (H : Hp) (C : Addr) (cl : List (Str × Addr)) (fp : List Addr), DG G (X.blk s H scope (compEnvC scope cl C X.env) fp) (compl (own.map (·.2)) n) tgx tg)
    (ht : ∀ (s : Shared) (H : Hp) (C : Addr) (cl : List (Str × Addr)) (fp : List Addr), DTs G (X.blk s H scope (compEnvC scope cl C X.env) fp) W0 ifs et)
    (he : ∀ (s : Shared) (H : Hp) (C : Addr) (cl : List (Str × Addr)) (fp : List Addr), DE G (X.blk s H scope (compEnvC scope cl C X.env) fp) W0 elt ev)
    (fz : Ev → Ev) (hfz : fz = id ∨ fz = evFz)
    (hy : X.N[i]? = some y := by rfl) (hyl : X.env.scope.names.lookup y = some .local := by rfl) (hp : P[i]? ≠ some true := by decide)
    (hsw : swapsWith (.ListComp elt [⟨tgx, iter, ifs, 0⟩] scope pos) (some (.Name y py)) spos.line X.env = pure true := by exact sw_true rfl rfl rfl (by decide +kernel)) (hs : ∀ x, foldedSetIterable iter X.env x = pure x := by intro _; rfl) :
    DS G X W P (.Assign [.Name y py] (.ListComp elt [⟨tgx, iter, ifs, 0⟩] scope pos) spos) (gAsg (fz (evLc n (own.map (·.2)) it tg et ev)) (tgName i)) := by
  obtain ⟨wi, p, q⟩ := hi.ex
  have z := es_lc (n := n) (own := own.map (·.2)) q (cgs (G := G) (tg := tg)) (cts (G := G) (W := W0) (f := et)) (ces (G := G) (W := W0) (f := ev))
  refine ⟨_, ps_setLc hc hN hy hyl hsw p ok (fun s H C cl fp => (hg s H C cl fp).canon) (fun s H C cl fp => (ht s H C cl fp).canon) (fun s H C cl fp => (he s H C cl fp).canon) hs, ?_⟩
  rcases hfz with rfl | rfl
  · exact ss_asg z (tgs_name hp)
  · exact ss_asg (es_fz z) (tgs_name hp)
end PV

set_option Elab.async false
set_option linter.all false
set_option maxRecDepth 100000
/-! PV: operators and built-in functions -/
namespace PV
open PySem PySem.Spec PyProof.Rows L2

/-- a two-place rule over a list of values -/
def rL2 (r : R2) : List V → Hp → VK → Prop := fun vs H Q => match vs with
  | [x, y] => r x y H Q
  | _ => False
def rL1 (r : V → Hp → VK → Prop) : List V → Hp → VK → Prop := fun vs H Q => match vs with
  | [x] => r x H Q
  | _ => False
theorem de_bin {G : Gx} {X : Cx} {W : WX} {a b : Expr} {o1 o2 : Opd} {op : Operator} {r : R2} {g : List D → Option O} {pos} (ho : OpR X (binaryOp op) r) (hv : VOp G (rL2 r) g) (h1 : DOp G X W a o1) (h2 : DOp G X W b o2) : DE G X W (.BinOp a op b pos) (opN [o1, o2] g) := by
  obtain ⟨t1, p1, q1⟩ := opd_run h1
  obtain ⟨t2, p2, q2⟩ := opd_run h2
  exact ⟨_, pe_op ho p1 p2, es_opN (oss_cons q1 (oss_cons q2 oss_nil)) hv⟩
theorem de_cmp {G : Gx} {X : Cx} {W : WX} {a b : Expr} {o1 o2 : Opd} {op : CmpOp} {r : R2} {g : List D → Option O} {pos} (ho : OpR X (compareOp op) r) (hv : VOp G (rL2 r) g) (h1 : DOp G X W a o1) (h2 : DOp G X W b o2) (hm : behindInMarks op b = false) : DE G X W (.Compare a [op] [b] pos) (opN [o1, o2] g) := by
  obtain ⟨t1, p1, q1⟩ := opd_run h1
  obtain ⟨t2, p2, q2⟩ := opd_run h2
  exact ⟨_, pe_cmpR ho p1 p2 hm, es_opN (oss_cons q1 (oss_cons q2 oss_nil)) hv⟩
theorem dt_cmp {G : Gx} {X : Cx} {W : WX} {a b : Expr} {o1 o2 : Opd} {op : CmpOp} {r : R2} {g : List D → Option O} {pos} (ho : OpR X (compareOp op) r) (hv : VOp G (rL2 r) g) (h1 : DOp G X W a o1) (h2 : DOp G X W b o2) (hm : behindInMarks op b = false) : DT G X W (.Compare a [op] [b] pos) (etB (opN [o1, o2] g)) := by
  obtain ⟨t1, p1, q1⟩ := opd_run h1
  obtain ⟨t2, p2, q2⟩ := opd_run h2
  exact ⟨_, pt_cmpR ho p1 p2 hm, ts_val (es_opN (oss_cons q1 (oss_cons q2 oss_nil)) hv)⟩
theorem de_un {G : Gx} {X : Cx} {W : WX} {a : Expr} {o1 : Opd} {op : UnaryOp} {r : V → Hp → VK → Prop} {g : List D → Option O} {pos} (ho : UnR X (unaryOp op) r) (hv : VOp G (rL1 r) g) (h1 : DOp G X W a o1) : DE G X W (.UnaryOp op a pos) (opN [o1] g) := by
  obtain ⟨t1, p1, q1⟩ := opd_run h1
  exact ⟨_, pe_un ho p1, es_opN (oss_cons q1 oss_nil) hv⟩
theorem de_blt {G : Gx} {X : Cx} {W : WX} {x : Str} {id : String} {r : List V → Hp → VK → Prop} {g : List D → Option O} {os : List Opd} {e : Expr} {es : List Expr} {p pos : Pos} (hc : CallR X (.builtin id) r) (hv : VOp G r g) (hm : X.mg x = none) (ha : DOs G X W (e :: es) os) (hg : Gl X x := by rfl) (hb : bootBuiltins x = some (.builtin id) := by decide +kernel) (hn : x ≠ "__name__" := by decide) (hdb : (x == ("__debug__" : Str)) = false := by decide)
    (he : starEach (e :: es) X.env = (false, eval e X.env) :: starEach es X.env := by rfl) (hpl : (backTo pos (starEach es X.env)).any (·.1) = false := by rfl) : DE G X W (.Call (.Name x p) (e :: es) [] pos) (opN os g) := by
  obtain ⟨t, pt, q⟩ := ha.ex
  exact ⟨_, pe_callB hc hg hm hb pt hn hdb he hpl, es_opN q hv⟩
theorem de_bty {G : Gx} {X : Cx} {W : WX} {x : Str} {T : String} {r : List V → Hp → VK → Prop} {g : List D → Option O} {os : List Opd} {e : Expr} {es : List Expr} {p pos : Pos} (hc : CallR X (.type T) r) (hv : VOp G r g) (hm : X.mg x = none) (ha : DOs G X W (e :: es) os) (hg : Gl X x := by rfl) (hb : bootBuiltins x = some (.type T) := by decide +kernel) (hn : x ≠ "__name__" := by decide) (hdb : (x == ("__debug__" : Str)) = false := by decide)
    (he : starEach (e :: es) X.env = (false, eval e X.env) :: starEach es X.env := by rfl) (hpl : (backTo pos (starEach es X.env)).any (·.1) = false := by rfl) : DE G X W (.Call (.Name x p) (e :: es) [] pos) (opN os g) := by
  obtain ⟨t, pt, q⟩ := ha.ex
  exact ⟨_, pe_callTy hc hg hm hb pt hn hdb he hpl, es_opN q hv⟩

/-! ### numbers -/
/-- an answer that lays nothing -/
theorem VOp.flat {G : Gx} {H M : Hp} {o : D} {v : V} {Q : VK} (sm : Same M H) (h : RD G M v o) (k : ∀ v H' M' Fo, Pst H M H' M' → RO G H' M' v (.fr o) Fo → Fresh H H' M' Fo → Q v H') : Q v H := k v H M [] (.refl sm) (.fr h) .nil
theorem rvs1 {G : Gx} {H M : Hp} {vs : List V} {d : D} (h : RVs G H M vs [d]) : ∃ v, vs = [v] ∧ RV G H M v d := by
  cases h with
  | cons h t => cases t; exact ⟨_, rfl, h⟩
theorem rvs2 {G : Gx} {H M : Hp} {vs : List V} {d e : D} (h : RVs G H M vs [d, e]) : ∃ v w, vs = [v, w] ∧ RV G H M v d ∧ RV G H M w e := by
  cases h with
  | cons h t => cases t with
    | cons h2 t => cases t; exact ⟨_, _, rfl, h, h2⟩
def gI2 (c : Int → Int → Bool) (g : Int → Int → D) : List D → Option O
  | [.int i, .int j] => if c i j = true then some (.fr (g i j)) else none
  | _ => none
theorem vo_int {G : Gx} {C : Int → Int → Prop} {f : Int → Int → Int} {c : Int → Int → Bool} (hc : ∀ i j, c i j = true → C i j) : VOp G (rL2 (rI C fun i j => .int (f i j))) (gI2 c fun i j => .int (f i j)) := by
  intro vs ds H M o Q sm rv e k
  unfold gI2 at e
  split at e
  · rename_i i j
    split at e
    · rename_i hij
      cases e
      obtain ⟨v, w, rfl, r1, r2⟩ := rvs2 rv
      have e1 := r1.int
      have e2 := r2.int
      subst e1 e2
      exact ⟨i, j, rfl, rfl, hc _ _ hij, VOp.flat sm (.int _) k⟩
    · cases e
  · cases e
theorem vo_cmp {G : Gx} {f : Int → Int → Bool} : VOp G (rL2 (rI0 fun i j => .bl (f i j))) (gI2 (fun _ _ => true) fun i j => .bl (f i j)) := by
  intro vs ds H M o Q sm rv e k
  unfold gI2 at e
  split at e
  · rename_i i j
    simp only [if_true] at e
    cases e
    obtain ⟨v, w, rfl, r1, r2⟩ := rvs2 rv
    have e1 := r1.int
    have e2 := r2.int
    subst e1 e2
    exact ⟨i, j, rfl, rfl, VOp.flat sm (.bl _) k⟩
  · cases e
def gSub := gI2 (fun _ _ => true) fun i j => .int (i - j)
def mulOk (i j : Int) : Bool := decide (i.natAbs.log2 + j.natAbs.log2 < 1000000)
def gFdiv := gI2 (fun _ j => decide (0 < j ∧ j < 1073741824)) fun i j => .int (i / j)
def gMod := gI2 (fun _ j => decide (0 < j)) fun i j => .int (i % j)
def gPow := gI2 (fun i j => decide (0 ≤ j ∧ j ≤ 1000000 ∧ i.natAbs < 18446744073709551616)) fun i j => .int (i ^ j.toNat)
def gLt := gI2 (fun _ _ => true) fun i j => .bl (decide (i < j))
def gLe := gI2 (fun _ _ => true) fun i j => .bl (decide (i ≤ j))
def gGt := gI2 (fun _ _ => true) fun i j => .bl (decide (j < i))
def gGe := gI2 (fun _ _ => true) fun i j => .bl (decide (j ≤ i))
section
variable {G : Gx} {X : Cx} {W : WX} {a b : Expr} {o1 o2 : Opd} {pos : Pos}
theorem rI0_I {g : Int → Int → V} {x y : V} {H : Hp} {Q : VK} (h : rI (fun _ _ => True) g x y H Q) : rI0 g x y H Q := by
  obtain ⟨i, j, h1, h2, _, q⟩ := h
  exact ⟨i, j, h1, h2, q⟩
theorem OpR.imp {X : Cx} {f : Value → Value → Sem Value} {r r' : R2} (h : OpR X f r) (hi : ∀ x y H Q, r' x y H Q → r x y H Q) : OpR X f r' := fun pins s σ H x y v u Q I rx ry q => h pins s σ H x y v u Q I rx ry (hi _ _ _ _ q)
theorem de_sub (h1 : DOp G X W a o1) (h2 : DOp G X W b o2) : DE G X W (.BinOp a .Sub b pos) (opN [o1, o2] gSub) := de_bin (OpR.imp op_sub fun _ _ _ _ => rI0_I) (vo_int fun _ _ _ => trivial) h1 h2
theorem de_fdiv (h1 : DOp G X W a o1) (h2 : DOp G X W b o2) : DE G X W (.BinOp a .FloorDiv b pos) (opN [o1, o2] gFdiv) := de_bin op_fdiv (vo_int fun i j h => by
  have q : 0 < j ∧ j < 1073741824 := of_decide_eq_true h
  exact q) h1 h2
theorem de_mod (h1 : DOp G X W a o1) (h2 : DOp G X W b o2) : DE G X W (.BinOp a .Mod b pos) (opN [o1, o2] gMod) := de_bin op_mod (vo_int (C := fun _ j => 0 < j) (f := fun i j => i % j) fun i j h => of_decide_eq_true h) h1 h2
theorem de_pow (h1 : DOp G X W a o1) (h2 : DOp G X W b o2) : DE G X W (.BinOp a .Pow b pos) (opN [o1, o2] gPow) := de_bin op_pow (vo_int fun i j h => by
  have q : 0 ≤ j ∧ j ≤ 1000000 ∧ i.natAbs < 18446744073709551616 := of_decide_eq_true h
  exact q) h1 h2
theorem de_lt (h1 : DOp G X W a o1) (h2 : DOp G X W b o2) : DE G X W (.Compare a [.Lt] [b] pos) (opN [o1, o2] gLt) := de_cmp op_lt vo_cmp h1 h2 (nomark _)
theorem de_le (h1 : DOp G X W a o1) (h2 : DOp G X W b o2) : DE G X W (.Compare a [.LtE] [b] pos) (opN [o1, o2] gLe) := de_cmp op_le vo_cmp h1 h2 (nomark _)
theorem de_gt (h1 : DOp G X W a o1) (h2 : DOp G X W b o2) : DE G X W (.Compare a [.Gt] [b] pos) (opN [o1, o2] gGt) := de_cmp op_gt vo_cmp h1 h2 (nomark _)
theorem de_ge (h1 : DOp G X W a o1) (h2 : DOp G X W b o2) : DE G X W (.Compare a [.GtE] [b] pos) (opN [o1, o2] gGe) := de_cmp op_ge vo_cmp h1 h2 (nomark _)
theorem dt_lt (h1 : DOp G X W a o1) (h2 : DOp G X W b o2) : DT G X W (.Compare a [.Lt] [b] pos) (etB (opN [o1, o2] gLt)) := dt_cmp op_lt vo_cmp h1 h2 (nomark _)
theorem dt_le (h1 : DOp G X W a o1) (h2 : DOp G X W b o2) : DT G X W (.Compare a [.LtE] [b] pos) (etB (opN [o1, o2] gLe)) := dt_cmp op_le vo_cmp h1 h2 (nomark _)
theorem dt_gt (h1 : DOp G X W a o1) (h2 : DOp G X W b o2) : DT G X W (.Compare a [.Gt] [b] pos) (etB (opN [o1, o2] gGt)) := dt_cmp op_gt vo_cmp h1 h2 (nomark _)
theorem dt_ge (h1 : DOp G X W a o1) (h2 : DOp G X W b o2) : DT G X W (.Compare a [.GtE] [b] pos) (etB (opN [o1, o2] gGe)) := dt_cmp op_ge vo_cmp h1 h2 (nomark _)
/-- -a -/
def gNeg : List D → Option O
  | [.int i] => some (.fr (.int (-i)))
  | _ => none
theorem de_neg (h1 : DOp G X W a o1) : DE G X W (.UnaryOp .USub a pos) (opN [o1] gNeg) := de_un un_neg (fun vs ds H M o Q sm rv e k => by
  unfold gNeg at e
  split at e
  · rename_i i
    cases e
    obtain ⟨v, rfl, r1⟩ := rvs1 rv
    have e1 := r1.int
    subst e1
    exact ⟨i, rfl, VOp.flat sm (.int _) k⟩
  · cases e) h1

/-! a + b -/
def gAdd : List D → Option O
  | [.int i, .int j] => some (.fr (.int (i + j)))
  | [.str i, .str j] => if i.length + j.length ≤ LIM then some (.fr (.str (i ++ j))) else none
  | [.lst i, .lst j] => if i.length + j.length ≤ LIM then some (.ls (i ++ j)) else none
  | [.tup i, .tup j] => if i.length + j.length ≤ LIM then some (.fr (.tup (i ++ j))) else none
  | _ => none
theorem str_len (x y : Str) : (x ++ y).length = x.length + y.length := Str.length_append x y
theorem de_add (h1 : DOp G X W a o1) (h2 : DOp G X W b o2) (hK : X.K = G.K := by rfl) : DE G X W (.BinOp a .Add b pos) (opN [o1, o2] gAdd) := by
  refine de_bin (OpR.or op_add (OpR.or op_add_str (OpR.or op_cat op_catA))) (fun vs ds H M o Q sm rv e k => ?_) h1 h2
  unfold gAdd at e
  split at e
  · rename_i i j
    cases e
    obtain ⟨v, w, rfl, r1, r2⟩ := rvs2 rv
    have e1 := r1.int
    have e2 := r2.int
    subst e1 e2
    exact .inl ⟨i, j, rfl, rfl, VOp.flat sm (.int _) k⟩
  · rename_i i j
    split at e
    · rename_i hl
      cases e
      obtain ⟨v, w, rfl, r1, r2⟩ := rvs2 rv
      obtain ⟨e1, l1⟩ := r1.str
      obtain ⟨e2, l2⟩ := r2.str
      subst e1 e2
      exact .inr (.inl ⟨i, j, rfl, rfl, le_line hl, VOp.flat sm (.str _ (by rw [str_len]; exact hl)) k⟩)
    · cases e
  · rename_i i j
    split at e
    · rename_i hl
      cases e
      obtain ⟨v, w, rfl, r1, r2⟩ := rvs2 rv
      obtain ⟨a1, xs, rfl, hx, rx, lx⟩ := r1.list sm
      obtain ⟨a2, ys, rfl, hy, ry, ly⟩ := r2.list sm
      refine .inr (.inr (.inl ⟨a1, a2, xs, ys, rfl, rfl, hx, hy, by rw [rx.length, ry.length]; exact le_line hl, fun p hp => ?_⟩))
      exact k _ _ M [p] (.newO sm hp) (RO.newL (rx.append ry) (by rw [List.length_append]; exact hl)) (.one hp (sm.free hp))
    · cases e
  · rename_i i j
    split at e
    · rename_i hl
      cases e
      obtain ⟨v, w, rfl, r1, r2⟩ := rvs2 rv
      obtain ⟨a1, xs, rfl, hx, hxm, rx, lx⟩ := r1.tuple sm
      obtain ⟨a2, ys, rfl, hy, hym, ry, ly⟩ := r2.tuple sm
      refine .inr (.inr (.inr ⟨a1, a2, xs, ys, rfl, rfl, by rw [hK]; exact hx, by rw [hK]; exact hy, by rw [rx.length, ry.length]; exact le_line hl, fun ex => ?_, fun ex ey => ?_, fun ex ey p hp => ?_⟩))
      · subst ex
        cases rx
        exact VOp.flat sm (.tup hym ry ly) k
      · subst ey
        cases ry
        rw [List.append_nil] at k
        exact VOp.flat sm (.tup hxm rx lx) k
      · exact k _ _ (upd M p (.tup (xs ++ ys))) [] (.newF sm hp) (RO.newT sm hp (rx.append ry) (by rw [List.length_append]; exact hl)) .nil
    · cases e
  · cases e

/-! a * b -/
def gMul : List D → Option O
  | [.int i, .int j] => if mulOk i j = true then some (.fr (.int (i * j))) else none
  | [.lst xs, .int k] => if -(2 ^ 63) ≤ k ∧ k < 2 ^ 63 ∧ xs.length * k.toNat ≤ LIM then some (.ls (List.replicate k.toNat xs).flatten) else none
  | [.tup xs, .int k] => if xs ≠ [] ∧ 2 ≤ k ∧ k ≤ 1000 ∧ xs.length ≤ 1000 then some (.fr (.tup (List.replicate k.toNat xs).flatten)) else none
  | _ => none
theorem RDs.rep {M : Hp} {vs : List V} {ds : List D} (r : RDs G M vs ds) : ∀ n : Nat, RDs G M (List.replicate n vs).flatten (List.replicate n ds).flatten
  | 0 => .nil
  | n + 1 => by
    rw [List.replicate_succ, List.replicate_succ, List.flatten_cons, List.flatten_cons]
    exact r.append (r.rep n)
theorem flat_len {α : Type} (n : Nat) (ds : List α) : (List.replicate n ds).flatten.length = n * ds.length := by
  simp
theorem de_mul (h1 : DOp G X W a o1) (h2 : DOp G X W b o2) (hK : X.K = G.K := by rfl) : DE G X W (.BinOp a .Mult b pos) (opN [o1, o2] gMul) := by
  refine de_bin (OpR.or op_mulW (OpR.or op_rep op_repT)) (fun vs ds H M o Q sm rv e k => ?_) h1 h2
  unfold gMul at e
  split at e
  · rename_i i j
    split at e
    · rename_i hm
      cases e
      obtain ⟨v, w, rfl, r1, r2⟩ := rvs2 rv
      have e1 := r1.int
      have e2 := r2.int
      subst e1 e2
      have q : i.natAbs.log2 + j.natAbs.log2 < 1000000 := of_decide_eq_true hm
      exact .inl ⟨i, j, rfl, rfl, q, VOp.flat sm (.int _) k⟩
    · cases e
  · rename_i xs n
    split at e
    · rename_i hl
      cases e
      obtain ⟨v, w, rfl, r1, r2⟩ := rvs2 rv
      obtain ⟨a1, ys, rfl, hx, rx, lx⟩ := r1.list sm
      have e2 := r2.int
      subst e2
      refine .inr (.inl ⟨a1, n, ys, rfl, rfl, hx, hl.1, hl.2.1, by rw [rx.length]; exact le_line hl.2.2, fun p hp => ?_⟩)
      exact k _ _ M [p] (.newO sm hp) (RO.newL (rx.rep _) (by rw [flat_len, Nat.mul_comm]; exact hl.2.2)) (.one hp (sm.free hp))
    · cases e
  · rename_i xs n
    split at e
    · rename_i hl
      cases e
      obtain ⟨v, w, rfl, r1, r2⟩ := rvs2 rv
      obtain ⟨a1, ys, rfl, hx, hxm, rx, lx⟩ := r1.tuple sm
      have e2 := r2.int
      subst e2
      refine .inr (.inr ⟨a1, n, ys, rfl, rfl, by rw [hK]; exact hx, fun z => hl.1 (by subst z; cases rx; rfl), hl.2.1, hl.2.2.1, by rw [rx.length]; exact hl.2.2.2, fun p hp => ?_⟩)
      refine k _ _ (upd M p (.tup _)) [] (.newF sm hp) (RO.newT sm hp (rx.rep _) ?_) .nil
      rw [flat_len]
      have : n.toNat * xs.length ≤ 1000 * 1000 := Nat.mul_le_mul (by omega) hl.2.2.2
      exact this
    · cases e
  · cases e
end
end PV

set_option Elab.async false
set_option linter.all false
set_option maxRecDepth 100000
/-! PV: equality, membership, items, slices, built-in functions -/
namespace PV
open PySem PySem.Spec PyProof.Rows L2

/-! ### data -/
mutual
def D.py : D → Option PyData
  | .non => some .none
  | .bl b => some (.bool b)
  | .int i => some (.int i)
  | .str s => some (.str s)
  | .tup xs => (pys xs).map .tuple
  | .lst xs => (pys xs).map .list
  | .scr _ => none
  | .obj _ _ => none
  | .dct _ _ => none
  | .fn _ => none
  | .junk => none
def pys : List D → Option (List PyData)
  | [] => some []
  | d :: ds => match d.py, pys ds with
    | some p, some ps => some (p :: ps)
    | _, _ => none
end
mutual
theorem RD.dp {G : Gx} {H M : Hp} (sm : Same M H) : ∀ {v : V} {d : D} {p : PyData}, RD G M v d → d.py = some p → Dp G.K H v p
  | _, _, _, .non, e => by unfold D.py at e; cases e; exact .non
  | _, _, _, .bl b, e => by unfold D.py at e; cases e; exact .bl b
  | _, _, _, .int i, e => by unfold D.py at e; cases e; exact .int i
  | _, _, _, .str x _, e => by unfold D.py at e; cases e; exact .str x
  | _, _, _, .tup (ds := ds) h r _, e => by
    unfold D.py at e
    cases eq : pys ds with
    | none => rw [eq] at e; cases e
    | some ps => rw [eq] at e; cases e; exact .tup (seqT sm h) (RDs.dp sm r eq)
  | _, _, _, .lst (ds := ds) h r _, e => by
    unfold D.py at e
    cases eq : pys ds with
    | none => rw [eq] at e; cases e
    | some ps => rw [eq] at e; cases e; exact .lst (.inl (.inl (sm _ _ h))) (RDs.dp sm r eq)
  | _, _, _, .scr _ _ _, e => by unfold D.py at e; cases e
  | _, _, _, .obj _ _ _ _, e => by unfold D.py at e; cases e
  | _, _, _, .dct _ _ _ _, e => by unfold D.py at e; cases e
  | _, _, _, .junk _, e => by unfold D.py at e; cases e
theorem RDs.dp {G : Gx} {H M : Hp} (sm : Same M H) : ∀ {vs : List V} {ds : List D} {ps : List PyData}, RDs G M vs ds → pys ds = some ps → DpAll G.K H vs ps
  | _, _, _, .nil, e => by unfold pys at e; cases e; exact .nil
  | _, _, _, .cons (d := d) (ds := ds) h t, e => by
    unfold pys at e
    split at e
    · rename_i p ps e1 e2
      cases e
      exact .cons (RD.dp sm h e1) (RDs.dp sm t e2)
    · cases e
end
theorem RV.dp {G : Gx} {H M : Hp} {v : V} {d : D} {p : PyData} (sm : Same M H) (r : RV G H M v d) (e : d.py = some p) : Dp G.K H v p := by
  cases r with
  | fr h => exact h.dp sm e
  | @ls a xs ds h r l =>
    unfold D.py at e
    cases eq : pys ds with
    | none => rw [eq] at e; cases e
    | some ps => rw [eq] at e; cases e; exact .lst (.inl (.inl h)) (RDs.dp sm r eq)
  | dc h hk r l => unfold D.py at e; cases e
  | ob h h2 r l => unfold D.py at e; cases e
/-- data that may be compared -/
def D.pys? (d : D) : Option PyData := match d.py with
  | some p => if SeqAt.shaped p = true then some p else none
  | none => none
theorem pys?_of {d : D} {p : PyData} (h : d.pys? = some p) : d.py = some p ∧ SeqAt.shaped p = true := by
  unfold D.pys? at h
  split at h
  · rename_i q e
    split at h
    · rename_i hs
      cases h
      exact ⟨e, hs⟩
    · cases h
  · cases h
def eqD (x y : D) : Option Bool := match x.pys?, y.pys? with
  | some p, some q => some (PyData.eqv p q)
  | _, _ => none
def gEq : List D → Option O
  | [x, y] => (eqD x y).map fun b => .fr (.bl b)
  | _ => none
def gNe : List D → Option O
  | [x, y] => (eqD x y).map fun b => .fr (.bl (!b))
  | _ => none
theorem eqD_of {x y : D} {b : Bool} (h : eqD x y = some b) : ∃ p q, x.py = some p ∧ y.py = some q ∧ SeqAt.shaped p = true ∧ SeqAt.shaped q = true ∧ PyData.eqv p q = b := by
  unfold eqD at h
  split at h
  · rename_i p q e1 e2
    cases h
    obtain ⟨a1, a2⟩ := pys?_of e1
    obtain ⟨b1, b2⟩ := pys?_of e2
    exact ⟨p, q, a1, b1, a2, b2, rfl⟩
  · cases h
section
variable {G : Gx} {X : Cx} {W : WX} {a b : Expr} {o1 o2 : Opd} {pos : Pos}
theorem vo_eq (hK : X.K = G.K) : VOp G (rL2 (rEqD X.K)) gEq := by
  intro vs ds H M o Q sm rv e k
  unfold gEq at e
  split at e
  · rename_i x y
    cases he : eqD x y with
    | none => rw [he] at e; cases e
    | some c =>
      rw [he] at e
      cases e
      obtain ⟨v, w, rfl, r1, r2⟩ := rvs2 rv
      obtain ⟨p, q, e1, e2, s1, s2, rfl⟩ := eqD_of he
      rw [hK]
      exact ⟨p, q, r1.dp sm e1, r2.dp sm e2, s1, s2, VOp.flat sm (.bl _) k⟩
  · cases e
theorem vo_ne (hK : X.K = G.K) : VOp G (rL2 (rNeD X.K)) gNe := by
  intro vs ds H M o Q sm rv e k
  unfold gNe at e
  split at e
  · rename_i x y
    cases he : eqD x y with
    | none => rw [he] at e; cases e
    | some c =>
      rw [he] at e
      cases e
      obtain ⟨v, w, rfl, r1, r2⟩ := rvs2 rv
      obtain ⟨p, q, e1, e2, s1, s2, rfl⟩ := eqD_of he
      rw [hK]
      exact ⟨p, q, r1.dp sm e1, r2.dp sm e2, s1, s2, VOp.flat sm (.bl _) k⟩
  · cases e
theorem de_eq (hr : X.A.units + 65 < cLine) (h1 : DOp G X W a o1) (h2 : DOp G X W b o2) (hK : X.K = G.K := by rfl) : DE G X W (.Compare a [.Eq] [b] pos) (opN [o1, o2] gEq) := de_cmp (op_eqD (by omega)) (vo_eq hK) h1 h2 (nomark _)
theorem de_ne (hr : X.A.units + 65 < cLine) (h1 : DOp G X W a o1) (h2 : DOp G X W b o2) (hK : X.K = G.K := by rfl) : DE G X W (.Compare a [.NotEq] [b] pos) (opN [o1, o2] gNe) := de_cmp (op_neD (by omega)) (vo_ne hK) h1 h2 (nomark _)
theorem dt_eq (hr : X.A.units + 65 < cLine) (h1 : DOp G X W a o1) (h2 : DOp G X W b o2) (hK : X.K = G.K := by rfl) : DT G X W (.Compare a [.Eq] [b] pos) (etB (opN [o1, o2] gEq)) := dt_cmp (op_eqD (by omega)) (vo_eq hK) h1 h2 (nomark _)
theorem dt_ne (hr : X.A.units + 65 < cLine) (h1 : DOp G X W a o1) (h2 : DOp G X W b o2) (hK : X.K = G.K := by rfl) : DT G X W (.Compare a [.NotEq] [b] pos) (etB (opN [o1, o2] gNe)) := dt_cmp (op_neD (by omega)) (vo_ne hK) h1 h2 (nomark _)

/-! is None -/
def D.isNon : D → Option Bool
  | .non => some true
  | .junk => none
  | _ => some false
theorem RV.non_iff {H M : Hp} {v : V} {d : D} {b : Bool} (h : RV G H M v d) (e : d.isNon = some b) : decide (v = .non) = b := by
  cases h with
  | fr h => cases h <;> first | (cases e; rfl) | cases e
  | ls _ _ _ => cases e; rfl
  | dc _ _ _ _ => cases e; rfl
  | ob _ _ _ _ => cases e; rfl
def gIsN : List D → Option O
  | [x, .non] => x.isNon.map fun b => .fr (.bl b)
  | _ => none
def gNotN : List D → Option O
  | [x, .non] => x.isNon.map fun b => .fr (.bl (!b))
  | _ => none
theorem vo_isN : VOp G (rL2 fun x y H Q => y = .non ∧ Q (.bl (decide (x = .non))) H) gIsN := by
  intro vs ds H M o Q sm rv e k
  unfold gIsN at e
  split at e
  · rename_i x
    obtain ⟨b, eb⟩ : ∃ b, x.isNon = some b := by
      cases eb : x.isNon with
      | none => rw [eb] at e; cases e
      | some b => exact ⟨b, rfl⟩
    rw [eb] at e
    cases e
    obtain ⟨v, w, rfl, r1, r2⟩ := rvs2 rv
    have e2 := r2.non
    subst e2
    exact ⟨rfl, by rw [r1.non_iff eb]; exact VOp.flat sm (.bl _) k⟩
  · cases e
theorem vo_notN : VOp G (rL2 fun x y H Q => y = .non ∧ Q (.bl (!decide (x = .non))) H) gNotN := by
  intro vs ds H M o Q sm rv e k
  unfold gNotN at e
  split at e
  · rename_i x
    obtain ⟨b, eb⟩ : ∃ b, x.isNon = some b := by
      cases eb : x.isNon with
      | none => rw [eb] at e; cases e
      | some b => exact ⟨b, rfl⟩
    rw [eb] at e
    cases e
    obtain ⟨v, w, rfl, r1, r2⟩ := rvs2 rv
    have e2 := r2.non
    subst e2
    exact ⟨rfl, by rw [r1.non_iff eb]; exact VOp.flat sm (.bl _) k⟩
  · cases e
theorem de_isN (h1 : DOp G X W a o1) (h2 : DOp G X W b o2) : DE G X W (.Compare a [.Is] [b] pos) (opN [o1, o2] gIsN) := de_cmp op_isN vo_isN h1 h2 (nomark _)
theorem de_notN (h1 : DOp G X W a o1) (h2 : DOp G X W b o2) : DE G X W (.Compare a [.IsNot] [b] pos) (opN [o1, o2] gNotN) := de_cmp op_notN vo_notN h1 h2 (nomark _)
theorem dt_isN (h1 : DOp G X W a o1) (h2 : DOp G X W b o2) : DT G X W (.Compare a [.Is] [b] pos) (etB (opN [o1, o2] gIsN)) := dt_cmp op_isN vo_isN h1 h2 (nomark _)
theorem dt_notN (h1 : DOp G X W a o1) (h2 : DOp G X W b o2) : DT G X W (.Compare a [.IsNot] [b] pos) (etB (opN [o1, o2] gNotN)) := dt_cmp op_notN vo_notN h1 h2 (nomark _)

/-! chains of comparisons of numbers -/
def evChain (o1 o2 o3 : Opd) (f g : Int → Int → Bool) : Ev := fun ρ => (runs [o1, o2] ρ).bind fun rs ρ1 => match fins [o1, o2] rs ρ1 with
  | some [.int i, .int j] => if f i j = true then ((runs [o3] ρ1).bind fun r3 ρ2 => match fins [o3] r3 ρ2 with
      | some [.int k] => .ok (.fr (.bl (g j k))) ρ2
      | _ => .st) else .ok (.fr (.bl false)) ρ1
  | _ => .st
def rI0b (f : Int → Int → Bool) : R2 := rI0 fun i j => .bl (f i j)
theorem es_chain {ta tb tc : TE} {o3 : Opd} {f g : Int → Int → Bool} (h1 : OS G W o1 ta) (h2 : OS G W o2 tb) (h3 : OS G W o3 tc) : ES G W (tChain (rI0b f) (rI0b g) ta tb tc) (evChain o1 o2 o3 f g) := by
  intro σ H M ρ F Q w s hn hk he
  unfold evChain at hn hk he
  have z := oss_cons h1 (oss_cons h2 oss_nil) σ H M ρ F (fun vs H2 => ∃ x y, vs = [x, y] ∧ rI0b f x y H2 fun z H3 => ∃ k, z = .bl k ∧ (if k = true then tc σ H3 fun w' H4 => rI0b g y w' H4 Q else Q (.bl false) H3)) w s
    (fun e => hn (by rw [e]; rfl)) (fun rs ρ1 e1 vs H1 M1 Fo F1 st1 hd1 s1 => ?_) (fun x ρ1 e1 => he x ρ1 (by rw [e1]; rfl))
  · have mono : ∀ (P P' : List V → Hp → Prop), (∀ vs H, P vs H → P' vs H) → True := fun _ _ _ => trivial
    show ta σ H fun x H1 => tb σ H1 fun y H2 => rI0b f x y H2 fun z H3 => ∃ k, z = .bl k ∧ (if k = true then tc σ H3 fun w' H4 => rI0b g y w' H4 Q else Q (.bl false) H3)
    have z' : ta σ H fun x H1 => tb σ H1 fun y H2 => ∃ x' y', [x, y] = [x', y'] ∧ rI0b f x' y' H2 fun z H3 => ∃ k, z = .bl k ∧ (if k = true then tc σ H3 fun w' H4 => rI0b g y' w' H4 Q else Q (.bl false) H3) := z
    have e : (fun x H1 => tb σ H1 fun y H2 => ∃ x' y', [x, y] = [x', y'] ∧ rI0b f x' y' H2 fun z H3 => ∃ k, z = .bl k ∧ (if k = true then tc σ H3 fun w' H4 => rI0b g y' w' H4 Q else Q (.bl false) H3)) = fun x H1 => tb σ H1 fun y H2 => rI0b f x y H2 fun z H3 => ∃ k, z = .bl k ∧ (if k = true then tc σ H3 fun w' H4 => rI0b g y w' H4 Q else Q (.bl false) H3) := by
      funext x H1
      congr 1
      funext y H2
      apply propext
      constructor
      · rintro ⟨x', y', e, q⟩
        cases e
        exact q
      · intro q
        exact ⟨x, y, rfl, q⟩
    rw [e] at z'
    exact z'
  · rw [e1] at hn hk he
    simp only [R.bind_ok] at hn hk he
    split at hn
    · rename_i i j ed
      obtain ⟨M2, rv, st2⟩ := hd1.see s1 st1.wf ed
      obtain ⟨v, w', rfl, r1, r2⟩ := rvs2 rv
      have q1 := r1.int
      have q2 := r2.int
      subst q1 q2
      have s2 := s1.mono st2.mm (keepOn_refl _ _)
      have st12 := st1.trans st2
      refine ⟨_, _, rfl, i, j, rfl, rfl, _, rfl, ?_⟩
      simp only [ed] at hk he
      cases hf : f i j with
      | false =>
        simp only [hf, Bool.false_eq_true, if_false] at hk
        exact iteF (hk _ ρ1 rfl _ H1 M2 [] F1 st12 (.fr (.bl _)) s2)
      | true =>
        simp only [hf, if_true] at hn hk he
        refine iteT ?_
        have z3 := oss_cons h3 oss_nil σ H1 M2 ρ1 F1 (fun vs H4 => ∃ y, vs = [y] ∧ rI0b g (.int j) y H4 Q) st2.wf s2 (fun e => hn (by rw [e]; rfl)) (fun r3 ρ2 e2 vs H2 M3 Fo2 F2 st3 hd3 s3 => ?_) (fun x ρ2 e2 cls dd H2 M3 F2 st3 rx s3 => he x ρ2 (by rw [e2]; rfl) cls dd H2 M3 F2 (st12.trans st3) rx s3)
        · have z' : tc σ H1 fun y H4 => ∃ y', [y] = [y'] ∧ rI0b g (.int j) y' H4 Q := z3
          have e : (fun y H4 => ∃ y', [y] = [y'] ∧ rI0b g (.int j) y' H4 Q) = fun y H4 => rI0b g (.int j) y H4 Q := by
            funext y H4
            apply propext
            constructor
            · rintro ⟨y', e, q⟩
              cases e
              exact q
            · intro q
              exact ⟨y, rfl, q⟩
          rw [e] at z'
          exact z'
        · rw [e2] at hn hk
          simp only [R.bind_ok] at hn hk
          split at hn
          · rename_i k ed3
            simp only [ed3] at hk
            obtain ⟨M4, rv3, st4⟩ := hd3.see s3 st3.wf ed3
            obtain ⟨v3, rfl, r3'⟩ := rvs1 rv3
            have q3 := r3'.int
            subst q3
            exact ⟨_, rfl, j, k, rfl, rfl, hk _ ρ2 rfl _ H2 M4 [] F2 ((st12.trans st3).trans st4) (.fr (.bl _)) (s3.mono st4.mm (keepOn_refl _ _))⟩
          · exact absurd rfl hn
    · exact absurd rfl hn
theorem de_chain {c : Expr} {o3 : Opd} {op op' : CmpOp} {f g : Int → Int → Bool} (ho : OpR X (compareOp op) (rI0b f)) (ho' : OpR X (compareOp op') (rI0b g)) (h1 : DOp G X W a o1) (h2 : DOp G X W b o2) (h3 : DOp G X W c o3) (hm : lastMarks [op, op'] [b, c] = false := by with_unfolding_all rfl) : DE G X W (.Compare a [op, op'] [b, c] pos) (evChain o1 o2 o3 f g) := by
  obtain ⟨t1, p1, q1⟩ := opd_run h1
  obtain ⟨t2, p2, q2⟩ := opd_run h2
  obtain ⟨t3, p3, q3⟩ := opd_run h3
  exact ⟨_, pe_chain ho ho' p1 p2 p3 hm, es_chain q1 q2 q3⟩
theorem dt_chain {c : Expr} {o3 : Opd} {op op' : CmpOp} {f g : Int → Int → Bool} (ho : OpR X (compareOp op) (rI0b f)) (ho' : OpR X (compareOp op') (rI0b g)) (h1 : DOp G X W a o1) (h2 : DOp G X W b o2) (h3 : DOp G X W c o3) (hm : lastMarks [op, op'] [b, c] = false := by with_unfolding_all rfl) : DT G X W (.Compare a [op, op'] [b, c] pos) (etB (evChain o1 o2 o3 f g)) := by
  obtain ⟨t1, p1, q1⟩ := opd_run h1
  obtain ⟨t2, p2, q2⟩ := opd_run h2
  obtain ⟨t3, p3, q3⟩ := opd_run h3
  exact ⟨_, pt_chain ho ho' p1 p2 p3 hm, ts_val (es_chain q1 q2 q3)⟩

/-! items -/
def ixD (xs : List D) (i : Int) : Option D := atI xs i
theorem atI_rds {M : Hp} {vs : List V} {ds : List D} {i : Int} {d : D} (r : RDs G M vs ds) (e : atI ds i = some d) : ∃ v, atI vs i = some v ∧ RD G M v d := by
  unfold atI at e ⊢
  rw [r.length]
  cases h : ixN ds.length i with
  | none => rw [h] at e; cases e
  | some j =>
    rw [h] at e
    simp only [Option.bind_some] at e ⊢
    exact r.get e
def gIx : List D → Option O
  | [.lst xs, .int i] => (atI xs i).map .fr
  | [.tup xs, .int i] => (atI xs i).map .fr
  | [.str x, .int i] => (atI x.cps.toList i).map fun c => .fr (.str ⟨#[c]⟩)
  | _ => none
theorem vo_ix (hK : X.K = G.K) : VOp G (rL2 (rIx X.K)) gIx := by
  intro vs ds H M o Q sm rv e k
  unfold gIx at e
  split at e
  · rename_i xs i
    cases he : atI xs i with
    | none => rw [he] at e; cases e
    | some d =>
      rw [he] at e
      cases e
      obtain ⟨v, w, rfl, r1, r2⟩ := rvs2 rv
      obtain ⟨a1, ys, rfl, hx, rx, lx⟩ := r1.list sm
      have e2 := r2.int
      subst e2
      obtain ⟨v, ev, rd⟩ := atI_rds rx he
      exact .inl ⟨a1, ys, i, v, rfl, rfl, .inl (.inl hx), ev, VOp.flat sm rd k⟩
  · rename_i xs i
    cases he : atI xs i with
    | none => rw [he] at e; cases e
    | some d =>
      rw [he] at e
      cases e
      obtain ⟨v, w, rfl, r1, r2⟩ := rvs2 rv
      obtain ⟨a1, ys, rfl, hx, hxm, rx, lx⟩ := r1.tuple sm
      have e2 := r2.int
      subst e2
      obtain ⟨v, ev, rd⟩ := atI_rds rx he
      exact .inr (.inl ⟨a1, ys, i, v, rfl, rfl, by rw [hK]; exact hx, ev, VOp.flat sm rd k⟩)
  · rename_i x i
    cases he : atI x.cps.toList i with
    | none => rw [he] at e; cases e
    | some c =>
      rw [he] at e
      cases e
      obtain ⟨v, w, rfl, r1, r2⟩ := rvs2 rv
      obtain ⟨e1, l1⟩ := r1.str
      have e2 := r2.int
      subst e1 e2
      exact .inr (.inr ⟨x, i, c, rfl, rfl, le_line l1, he, VOp.flat sm (.str _ (by show 1 ≤ LIM; decide)) k⟩)
  · cases e
theorem de_ix (h1 : DOp G X W a o1) (h2 : DOp G X W b o2) (hK : X.K = G.K := by rfl) (hs : PlainIx b := by exact fun _ _ => rfl) : DE G X W (.Subscript a b pos) (opN [o1, o2] gIx) := by
  obtain ⟨t1, p1, q1⟩ := opd_run h1
  obtain ⟨t2, p2, q2⟩ := opd_run h2
  exact ⟨_, pe_ix ix_seq p1 p2 hs, es_opN (oss_cons q1 (oss_cons q2 oss_nil)) (vo_ix hK)⟩

/-! len, abs, min, max, int, bool -/
def gLen : List D → Option O
  | [.lst xs] => some (.fr (.int xs.length))
  | [.tup xs] => some (.fr (.int xs.length))
  | [.scr xs] => some (.fr (.int xs.length))
  | [.str x] => some (.fr (.int x.length))
  | _ => none
theorem de_len {p : Pos} (hm : X.mg "len" = none) (ha : DOs G X W [a] [o1]) (hK : X.K = G.K := by rfl) (hg : Gl X "len" := by rfl) (he : starEach [a] X.env = (false, eval a X.env) :: starEach [] X.env := by rfl) : DE G X W (.Call (.Name "len" p) [a] [] pos) (opN [o1] gLen) := by
  refine de_blt call_len (fun vs ds H M o Q sm rv e k => ?_) hm ha hg (by decide +kernel) (he := he)
  unfold gLen at e
  split at e
  · rename_i xs
    cases e
    obtain ⟨v, rfl, r1⟩ := rvs1 rv
    obtain ⟨a1, ys, rfl, hx, rx, lx⟩ := r1.list sm
    exact ⟨_, _, rfl, .inl ⟨ys, .inl (.inl hx), rfl⟩, by rw [rx.length]; exact VOp.flat sm (.int _) k⟩
  · rename_i xs
    cases e
    obtain ⟨v, rfl, r1⟩ := rvs1 rv
    obtain ⟨a1, ys, rfl, hx, hxm, rx, lx⟩ := r1.tuple sm
    exact ⟨_, _, rfl, .inr ⟨ys, by rw [hK]; exact hx, rfl⟩, by rw [rx.length]; exact VOp.flat sm (.int _) k⟩
  · rename_i xs
    cases e
    obtain ⟨v, rfl, r1⟩ := rvs1 rv
    cases r1 with
    | fr h => cases h with
      | scr h r l => exact ⟨_, _, rfl, .inl ⟨_, by rw [hK]; exact sm.seq h, rfl⟩, by rw [r.length]; exact VOp.flat sm (.int _) k⟩
  · rename_i x
    cases e
    obtain ⟨v, rfl, r1⟩ := rvs1 rv
    obtain ⟨e1, l1⟩ := r1.str
    subst e1
    exact ⟨_, _, rfl, ⟨le_line l1, rfl⟩, VOp.flat sm (.int _) k⟩
  · cases e
def gAbs : List D → Option O
  | [.int i] => some (.fr (.int (if i < 0 then -i else i)))
  | _ => none
theorem de_abs {p : Pos} (hm : X.mg "abs" = none) (ha : DOs G X W [a] [o1]) (hg : Gl X "abs" := by rfl) (he : starEach [a] X.env = (false, eval a X.env) :: starEach [] X.env := by rfl) : DE G X W (.Call (.Name "abs" p) [a] [] pos) (opN [o1] gAbs) := by
  refine de_blt call_abs (fun vs ds H M o Q sm rv e k => ?_) hm ha hg (by decide +kernel) (he := he)
  unfold gAbs at e
  split at e
  · rename_i i
    cases e
    obtain ⟨v, rfl, r1⟩ := rvs1 rv
    have e1 := r1.int
    subst e1
    exact ⟨i, rfl, VOp.flat sm (.int _) k⟩
  · cases e
def gMax2 : List D → Option O
  | [.int i, .int j] => some (.fr (.int (if j > i then j else i)))
  | _ => none
def gMin2 : List D → Option O
  | [.int i, .int j] => some (.fr (.int (if j < i then j else i)))
  | _ => none
theorem de_max2 {p : Pos} (hc : X.calm = true) (hm : X.mg "max" = none) (ha : DOs G X W [a, b] [o1, o2]) (hg : Gl X "max" := by rfl) (he : starEach [a, b] X.env = (false, eval a X.env) :: starEach [b] X.env := by rfl) (hpl : (backTo pos (starEach [b] X.env)).any (·.1) = false := by rfl) : DE G X W (.Call (.Name "max" p) [a, b] [] pos) (opN [o1, o2] gMax2) := by
  refine de_blt (call_max2 hc) (fun vs ds H M o Q sm rv e k => ?_) hm ha hg (by decide +kernel) (he := he) (hpl := hpl)
  unfold gMax2 at e
  split at e
  · rename_i i j
    cases e
    obtain ⟨v, w, rfl, r1, r2⟩ := rvs2 rv
    have e1 := r1.int
    have e2 := r2.int
    subst e1 e2
    exact ⟨i, j, rfl, VOp.flat sm (.int _) k⟩
  · cases e
theorem de_min2 {p : Pos} (hc : X.calm = true) (hm : X.mg "min" = none) (ha : DOs G X W [a, b] [o1, o2]) (hg : Gl X "min" := by rfl) (he : starEach [a, b] X.env = (false, eval a X.env) :: starEach [b] X.env := by rfl) (hpl : (backTo pos (starEach [b] X.env)).any (·.1) = false := by rfl) : DE G X W (.Call (.Name "min" p) [a, b] [] pos) (opN [o1, o2] gMin2) := by
  refine de_blt (call_min2 hc) (fun vs ds H M o Q sm rv e k => ?_) hm ha hg (by decide +kernel) (he := he) (hpl := hpl)
  unfold gMin2 at e
  split at e
  · rename_i i j
    cases e
    obtain ⟨v, w, rfl, r1, r2⟩ := rvs2 rv
    have e1 := r1.int
    have e2 := r2.int
    subst e1 e2
    exact ⟨i, j, rfl, VOp.flat sm (.int _) k⟩
  · cases e
def gInt : List D → Option O
  | [.int i] => some (.fr (.int i))
  | [.bl b] => some (.fr (.int (if b then 1 else 0)))
  | _ => none
theorem de_int1 {p : Pos} (hm : X.mg "int" = none) (ha : DOs G X W [a] [o1]) (hg : Gl X "int" := by rfl) (he : starEach [a] X.env = (false, eval a X.env) :: starEach [] X.env := by rfl) : DE G X W (.Call (.Name "int" p) [a] [] pos) (opN [o1] gInt) := by
  refine de_bty call_int1 (fun vs ds H M o Q sm rv e k => ?_) hm ha hg (by decide +kernel) (he := he)
  unfold gInt at e
  split at e
  · rename_i i
    cases e
    obtain ⟨v, rfl, r1⟩ := rvs1 rv
    have e1 := r1.int
    subst e1
    exact .inl ⟨i, rfl, VOp.flat sm (.int _) k⟩
  · rename_i b
    cases e
    obtain ⟨v, rfl, r1⟩ := rvs1 rv
    have e1 := r1.bl
    subst e1
    exact .inr ⟨b, rfl, VOp.flat sm (.int _) k⟩
  · cases e

/-! all, any, sum -/
def boolsD : List D → Option (List Bool)
  | [] => some []
  | .bl b :: ds => (boolsD ds).map (b :: ·)
  | _ :: _ => none
def intsD : List D → Option (List Int)
  | [] => some []
  | .int b :: ds => (intsD ds).map (b :: ·)
  | _ :: _ => none
theorem bools_rds {M : Hp} : ∀ {vs : List V} {ds : List D} {bs : List Bool}, RDs G M vs ds → boolsD ds = some bs → vs = bs.map V.bl
  | _, _, _, .nil, e => by cases e; rfl
  | _, _, _, .cons (d := d) h t, e => by
    cases d with
    | bl b =>
      unfold boolsD at e
      cases h2 : boolsD _ with
      | none => rw [h2] at e; cases e
      | some bs2 =>
        rw [h2] at e
        cases e
        cases h
        rw [bools_rds t h2]
        rfl
    | _ => unfold boolsD at e; cases e
theorem ints_rds {M : Hp} : ∀ {vs : List V} {ds : List D} {bs : List Int}, RDs G M vs ds → intsD ds = some bs → vs = bs.map V.int
  | _, _, _, .nil, e => by cases e; rfl
  | _, _, _, .cons (d := d) h t, e => by
    cases d with
    | int b =>
      unfold intsD at e
      cases h2 : intsD _ with
      | none => rw [h2] at e; cases e
      | some bs2 =>
        rw [h2] at e
        cases e
        cases h
        rw [ints_rds t h2]
        rfl
    | _ => unfold intsD at e; cases e
def gAll : List D → Option O
  | [.lst xs] => (boolsD xs).map fun bs => .fr (.bl (bs.all id))
  | _ => none
def gAny : List D → Option O
  | [.lst xs] => (boolsD xs).map fun bs => .fr (.bl (bs.any id))
  | _ => none
def gSum : List D → Option O
  | [.lst xs] => (intsD xs).map fun bs => .fr (.int bs.sum)
  | _ => none
theorem de_all {p : Pos} (hc : X.calm = true) (hm : X.mg "all" = none) (ha : DOs G X W [a] [o1]) (hg : Gl X "all" := by rfl) (he : starEach [a] X.env = (false, eval a X.env) :: starEach [] X.env := by rfl) : DE G X W (.Call (.Name "all" p) [a] [] pos) (opN [o1] gAll) := by
  refine de_blt (cr_all hc) (fun vs ds H M o Q sm rv e k => ?_) hm ha hg (by decide +kernel) (he := he)
  unfold gAll at e
  split at e
  · rename_i xs
    cases hb : boolsD xs with
    | none => rw [hb] at e; cases e
    | some bs =>
      rw [hb] at e
      cases e
      obtain ⟨v, rfl, r1⟩ := rvs1 rv
      obtain ⟨a1, ys, rfl, hx, rx, lx⟩ := r1.list sm
      have e1 := bools_rds rx hb
      subst e1
      exact ⟨a1, bs, rfl, .inl (.inl hx), VOp.flat sm (.bl _) k⟩
  · cases e
theorem de_any {p : Pos} (hc : X.calm = true) (hm : X.mg "any" = none) (ha : DOs G X W [a] [o1]) (hg : Gl X "any" := by rfl) (he : starEach [a] X.env = (false, eval a X.env) :: starEach [] X.env := by rfl) : DE G X W (.Call (.Name "any" p) [a] [] pos) (opN [o1] gAny) := by
  refine de_blt (cr_any hc) (fun vs ds H M o Q sm rv e k => ?_) hm ha hg (by decide +kernel) (he := he)
  unfold gAny at e
  split at e
  · rename_i xs
    cases hb : boolsD xs with
    | none => rw [hb] at e; cases e
    | some bs =>
      rw [hb] at e
      cases e
      obtain ⟨v, rfl, r1⟩ := rvs1 rv
      obtain ⟨a1, ys, rfl, hx, rx, lx⟩ := r1.list sm
      have e1 := bools_rds rx hb
      subst e1
      exact ⟨a1, bs, rfl, .inl (.inl hx), VOp.flat sm (.bl _) k⟩
  · cases e
theorem de_sum {p : Pos} (hc : X.calm = true) (hm : X.mg "sum" = none) (ha : DOs G X W [a] [o1]) (hg : Gl X "sum" := by rfl) (he : starEach [a] X.env = (false, eval a X.env) :: starEach [] X.env := by rfl) : DE G X W (.Call (.Name "sum" p) [a] [] pos) (opN [o1] gSum) := by
  refine de_blt (cr_sum hc) (fun vs ds H M o Q sm rv e k => ?_) hm ha hg (by decide +kernel) (he := he)
  unfold gSum at e
  split at e
  · rename_i xs
    cases hb : intsD xs with
    | none => rw [hb] at e; cases e
    | some bs =>
      rw [hb] at e
      cases e
      obtain ⟨v, rfl, r1⟩ := rvs1 rv
      obtain ⟨a1, ys, rfl, hx, rx, lx⟩ := r1.list sm
      have e1 := ints_rds rx hb
      subst e1
      exact ⟨a1, bs, rfl, .inl (.inl hx), VOp.flat sm (.int _) k⟩
  · cases e

/-! list(x), tuple(x) -/
def gList : List D → Option O
  | [.lst xs] => some (.ls xs)
  | [.tup xs] => some (.ls xs)
  | _ => none
theorem de_list {p : Pos} (hm : X.mg "list" = none) (ha : DOs G X W [a] [o1]) (hK : X.K = G.K := by rfl) (hg : Gl X "list" := by rfl) (he : starEach [a] X.env = (false, eval a X.env) :: starEach [] X.env := by rfl) : DE G X W (.Call (.Name "list" p) [a] [] pos) (opN [o1] gList) := by
  refine de_bty call_list_of (fun vs ds H M o Q sm rv e k => ?_) hm ha hg (by decide +kernel) (he := he)
  unfold gList at e
  split at e
  · rename_i xs
    cases e
    obtain ⟨v, rfl, r1⟩ := rvs1 rv
    obtain ⟨a1, ys, rfl, hx, rx, lx⟩ := r1.list sm
    exact ⟨a1, ys, rfl, .inl (.inl (.inl hx)), fun p hp => k _ _ M [p] (.newO sm hp) (RO.newL rx lx) (.one hp (sm.free hp))⟩
  · rename_i xs
    cases e
    obtain ⟨v, rfl, r1⟩ := rvs1 rv
    obtain ⟨a1, ys, rfl, hx, hxm, rx, lx⟩ := r1.tuple sm
    exact ⟨a1, ys, rfl, .inr (by rw [hK]; exact hx), fun p hp => k _ _ M [p] (.newO sm hp) (RO.newL rx lx) (.one hp (sm.free hp))⟩
  · cases e
def gTuple : List D → Option O
  | [.lst xs] => some (.fr (.tup xs))
  | [.tup xs] => some (.fr (.tup xs))
  | _ => none
theorem de_tuple {p : Pos} (hm : X.mg "tuple" = none) (ha : DOs G X W [a] [o1]) (hK : X.K = G.K := by rfl) (hg : Gl X "tuple" := by rfl) (he : starEach [a] X.env = (false, eval a X.env) :: starEach [] X.env := by rfl) : DE G X W (.Call (.Name "tuple" p) [a] [] pos) (opN [o1] gTuple) := by
  refine de_bty call_tuple_of (fun vs ds H M o Q sm rv e k => ?_) hm ha hg (by decide +kernel) (he := he)
  unfold gTuple at e
  split at e
  · rename_i xs
    cases e
    obtain ⟨v, rfl, r1⟩ := rvs1 rv
    obtain ⟨a1, ys, rfl, hx, rx, lx⟩ := r1.list sm
    exact ⟨a1, ys, rfl, .inl ⟨.inl (.inl hx), fun p hp => k _ _ (upd M p (.tup ys)) [] (.newF sm hp) (RO.newT sm hp rx lx) .nil⟩⟩
  · rename_i xs
    cases e
    obtain ⟨v, rfl, r1⟩ := rvs1 rv
    obtain ⟨a1, ys, rfl, hx, hxm, rx, lx⟩ := r1.tuple sm
    exact ⟨a1, ys, rfl, .inr ⟨by rw [hK]; exact hx, VOp.flat sm (.tup hxm rx lx) k⟩⟩
  · cases e
end

/-! slices x[lo:hi] -/
def cutD (xs : List D) (lo hi : Option Int) : List D := (xs.drop (HT.sIx xs.length 0 lo)).take (HT.sIx xs.length xs.length hi - HT.sIx xs.length 0 lo)
theorem cut_rds {G : Gx} {M : Hp} {vs : List V} {ds : List D} (r : RDs G M vs ds) (lo hi : Option Int) : RDs G M (cutV vs lo hi) (cutD ds lo hi) := by
  unfold cutV cutD
  rw [r.length]
  exact (r.drop _).take _
theorem cutD_len (xs : List D) (lo hi : Option Int) : (cutD xs lo hi).length ≤ xs.length := by
  unfold cutD
  rw [List.length_take, List.length_drop]
  omega
def cutS' (x : Str) (lo hi : Option Int) : Str := cutS x lo hi
theorem sIx_whole {n : Nat} {lo hi : Option Int} {xs : List D} (hn : xs.length = n) (h : HT.sIx n 0 lo = 0 ∧ HT.sIx n n hi = n) : cutD xs lo hi = xs := by
  unfold cutD
  subst hn
  rw [h.1, h.2]
  simp
/-- one end of a slice -/
inductive POpd where
  | no | yes (o : Opd)
def gSl (lo hi : Option Int) : D → Option O
  | .lst xs => some (.ls (cutD xs lo hi))
  | .scr xs => some (.ls (cutD xs lo hi))
  | .tup xs => some (.fr (.tup (cutD xs lo hi)))
  | _ => none
theorem vo_sl {G : Gx} {K : PySem.W.Frag} (hK : K = G.K) {x : V} {d : D} {lo hi : Option Int} {H M : Hp} {o : O} {Q : VK} (sm : Same M H) (rv : RV G H M x d) (e : gSl lo hi d = some o)
    (k : ∀ v H' M' Fo, Pst H M H' M' → RO G H' M' v o Fo → Fresh H H' M' Fo → Q v H') : rSlL K x lo hi H Q ∨ rSlA K x lo hi H Q := by
  unfold gSl at e
  split at e
  · rename_i xs
    cases e
    obtain ⟨a1, ys, rfl, hx, rx, lx⟩ := rv.list sm
    exact .inl ⟨a1, ys, rfl, .inl (.inl hx), fun p hp => k _ _ M [p] (.newO sm hp) (RO.newL (cut_rds rx lo hi) (Nat.le_trans (cutD_len _ _ _) lx)) (.one hp (sm.free hp))⟩
  · rename_i xs
    cases e
    cases rv with
    | fr h => cases h with
      | scr h r l => exact .inl ⟨_, _, rfl, by rw [hK]; exact sm.seq h, fun p hp => k _ _ M [p] (.newO sm hp) (RO.newL (cut_rds r lo hi) (Nat.le_trans (cutD_len _ _ _) l)) (.one hp (sm.free hp))⟩
  · rename_i xs
    cases e
    obtain ⟨a1, ys, rfl, hx, hxm, rx, lx⟩ := rv.tuple sm
    refine .inr ⟨a1, ys, rfl, by rw [hK]; exact hx, fun hw => ?_, fun hw p hp => ?_⟩
    · rw [sIx_whole rfl (by rw [← rx.length]; exact hw)] at k
      exact VOp.flat sm (.tup hxm rx lx) k
    · exact k _ _ (upd M p (.tup (cutV ys lo hi))) [] (.newF sm hp) (RO.newT sm hp (cut_rds rx lo hi) (Nat.le_trans (cutD_len _ _ _) lx)) .nil
  · cases e
/-- x[lo:hi]: the thing, then the ends that are there -/
def evSl (o : Opd) (lo hi : POpd) : Ev := fun ρ => match lo, hi with
  | .no, .no => (runs [o] ρ).bind fun rs ρ1 => match fins [o] rs ρ1 with
    | some [d] => (match gSl none none d with | some r => .ok r ρ1 | none => .st)
    | _ => .st
  | .yes l, .no => (runs [o, l] ρ).bind fun rs ρ1 => match fins [o, l] rs ρ1 with
    | some [d, .int i] => (match gSl (some i) none d with | some r => .ok r ρ1 | none => .st)
    | _ => .st
  | .no, .yes h => (runs [o, h] ρ).bind fun rs ρ1 => match fins [o, h] rs ρ1 with
    | some [d, .int j] => (match gSl none (some j) d with | some r => .ok r ρ1 | none => .st)
    | _ => .st
  | .yes l, .yes h => (o.run ρ).bind fun ro ρ1 => (l.run ρ1).bind fun rl ρ2 => match l.fin rl ρ2 with
    | some (.int i) => (h.run ρ2).bind fun rh ρ3 => (match h.fin rh ρ3, o.fin ro ρ3 with
      | some (.int j), some d => (match gSl (some i) (some j) d with | some r => .ok r ρ3 | none => .st)
      | _, _ => .st)
    | _ => .st
structure DPo (G : Gx) (X : Cx) (W : WX) (e : Option Expr) (o : POpd) : Prop where
  ex : match e, o with
    | none, .no => True
    | some e, .yes o => DOp G X W e o
    | _, _ => False
theorem dp_no {G : Gx} {X : Cx} {W : WX} : DPo G X W none .no := ⟨trivial⟩
theorem dp_yes {G : Gx} {X : Cx} {W : WX} {e : Expr} {o : Opd} (h : DOp G X W e o) : DPo G X W (some e) (.yes o) := ⟨h⟩
theorem rvs3 {G : Gx} {H M : Hp} {vs : List V} {d e f : D} (h : RVs G H M vs [d, e, f]) : ∃ v w u, vs = [v, w, u] ∧ RV G H M v d ∧ RV G H M w e ∧ RV G H M u f := by
  cases h with
  | cons h t =>
    obtain ⟨w, u, rfl, h2, h3⟩ := rvs2 t
    exact ⟨_, _, _, rfl, h, h2, h3⟩
theorem de_slice {G : Gx} {X : Cx} {W : WX} {e : Expr} {lo hi : Option Expr} {o : Opd} {ol oh : POpd} {p2 pos : Pos} (h1 : DOp G X W e o) (hl : DPo G X W lo ol) (hh : DPo G X W hi oh) (hK : X.K = G.K := by rfl) : DE G X W (.Subscript e (.Slice lo hi none p2) pos) (evSl o ol oh) := by
  obtain ⟨t1, p1, q1⟩ := opd_run h1
  have hr := SlR.or (X := X) (sl_list) (sl_tupA)
  cases lo with
  | none =>
    cases ol with
    | yes l => exact False.elim hl.ex
    | no =>
      cases hi with
      | none =>
        cases oh with
        | yes h => exact False.elim hh.ex
        | no =>
          refine ⟨_, pe_slice hr p1 po_none po_none, fun σ H M ρ F Q w s hn hk he => ?_⟩
          unfold evSl at hn hk he
          simp only at hn hk he
          have z := oss_cons q1 oss_nil σ H M ρ F (fun vs H1 => match vs with | [x] => (rSlL X.K x none none H1 Q ∨ rSlA X.K x none none H1 Q) | _ => False) w s (fun e => hn (by rw [e]; rfl)) (fun rs ρ1 e1 vs H1 M1 Fo F1 st1 hd1 s1 => ?_) (fun x ρ1 e1 => he x ρ1 (by rw [e1]; rfl))
          · exact z
          · rw [e1] at hn hk
            simp only [R.bind_ok] at hn hk
            split at hn
            · rename_i d ed
              split at hn
              · rename_i r er
                simp only [ed, er] at hk
                obtain ⟨M2, rv, st2⟩ := hd1.see s1 st1.wf ed
                obtain ⟨v, rfl, r1⟩ := rvs1 rv
                exact vo_sl hK st2.wf.sm r1 er fun v' H' M' Fo' ps ro fr => hk r ρ1 rfl v' H' M' Fo' F1 ((st1.trans st2).trans (ps.grow fr st2.wf)) ro ((s1.mono st2.mm (keepOn_refl _ _)).mono ps.mm fun a ha x e => ps.hh a x e)
              · exact absurd rfl hn
            · exact absurd rfl hn
      | some eh =>
        cases oh with
        | no => exact False.elim hh.ex
        | yes h =>
          have hh' : DOp G X W eh h := hh.ex
          obtain ⟨t2, p2', q2⟩ := opd_run hh'
          refine ⟨_, pe_slice hr p1 po_none (po_some p2'), fun σ H M ρ F Q w s hn hk he => ?_⟩
          unfold evSl at hn hk he
          simp only at hn hk he
          have z := oss_cons q1 (oss_cons q2 oss_nil) σ H M ρ F (fun vs H1 => match vs with | [x, y] => ∃ j, y = .int j ∧ (rSlL X.K x none (some j) H1 Q ∨ rSlA X.K x none (some j) H1 Q) | _ => False) w s (fun e => hn (by rw [e]; rfl)) (fun rs ρ1 e1 vs H1 M1 Fo F1 st1 hd1 s1 => ?_) (fun x ρ1 e1 => he x ρ1 (by rw [e1]; rfl))
          · exact z
          · rw [e1] at hn hk
            simp only [R.bind_ok] at hn hk
            split at hn
            · rename_i d j ed
              split at hn
              · rename_i r er
                simp only [ed, er] at hk
                obtain ⟨M2, rv, st2⟩ := hd1.see s1 st1.wf ed
                obtain ⟨v, w', rfl, r1, r2⟩ := rvs2 rv
                have e2 := r2.int
                subst e2
                exact ⟨j, rfl, vo_sl hK st2.wf.sm r1 er fun v' H' M' Fo' ps ro fr => hk r ρ1 rfl v' H' M' Fo' F1 ((st1.trans st2).trans (ps.grow fr st2.wf)) ro ((s1.mono st2.mm (keepOn_refl _ _)).mono ps.mm fun a ha x e => ps.hh a x e)⟩
              · exact absurd rfl hn
            · exact absurd rfl hn
  | some el =>
    cases ol with
    | no => exact False.elim hl.ex
    | yes l =>
      have hl' : DOp G X W el l := hl.ex
      obtain ⟨t3, p3, q3⟩ := opd_run hl'
      cases hi with
      | none =>
        cases oh with
        | yes h => exact False.elim hh.ex
        | no =>
          refine ⟨_, pe_slice hr p1 (po_some p3) po_none, fun σ H M ρ F Q w s hn hk he => ?_⟩
          unfold evSl at hn hk he
          simp only at hn hk he
          have z := oss_cons q1 (oss_cons q3 oss_nil) σ H M ρ F (fun vs H1 => match vs with | [x, y] => ∃ j, y = .int j ∧ (rSlL X.K x (some j) none H1 Q ∨ rSlA X.K x (some j) none H1 Q) | _ => False) w s (fun e => hn (by rw [e]; rfl)) (fun rs ρ1 e1 vs H1 M1 Fo F1 st1 hd1 s1 => ?_) (fun x ρ1 e1 => he x ρ1 (by rw [e1]; rfl))
          · exact z
          · rw [e1] at hn hk
            simp only [R.bind_ok] at hn hk
            split at hn
            · rename_i d j ed
              split at hn
              · rename_i r er
                simp only [ed, er] at hk
                obtain ⟨M2, rv, st2⟩ := hd1.see s1 st1.wf ed
                obtain ⟨v, w', rfl, r1, r2⟩ := rvs2 rv
                have e2 := r2.int
                subst e2
                exact ⟨j, rfl, vo_sl hK st2.wf.sm r1 er fun v' H' M' Fo' ps ro fr => hk r ρ1 rfl v' H' M' Fo' F1 ((st1.trans st2).trans (ps.grow fr st2.wf)) ro ((s1.mono st2.mm (keepOn_refl _ _)).mono ps.mm fun a ha x e => ps.hh a x e)⟩
              · exact absurd rfl hn
            · exact absurd rfl hn
      | some eh =>
        cases oh with
        | no => exact False.elim hh.ex
        | yes h =>
          have hh' : DOp G X W eh h := hh.ex
          obtain ⟨t2, p2', q2⟩ := opd_run hh'
          refine ⟨_, pe_slice hr p1 (po_some p3) (po_some p2'), fun σ H M ρ F Q w s hn hk he => ?_⟩
          unfold evSl at hn hk he
          simp only at hn hk he
          refine q1 σ H M ρ F _ w s (fun e => hn (by rw [e]; rfl)) (fun ro ρ1 e1 v1 H1 M1 Fo F1 st1 hd1 s1 => ?_) (fun x ρ1 e1 => he x ρ1 (by rw [e1]; rfl))
          rw [e1] at hn hk he
          simp only [R.bind_ok] at hn hk he
          have pc1 : (Fo ++ F1).Perm (F1 ++ Fo) := List.perm_append_comm
          refine q3 σ H1 M1 ρ1 F1 _ st1.wf.right s1 (fun e => hn (by rw [e]; rfl)) (fun rl ρ2 e2 v2 H2 M2 Fl F2 st2 hd2 s2 => ?_) (fun x ρ2 e2 cls dd H2 M2 F2 st2 rx s2 => ?_)
          · rw [e2] at hn hk he
            simp only [R.bind_ok] at hn hk he
            split at hn
            · rename_i i ei
              simp only [ei] at hk he
              obtain ⟨M2', rv2, st2'⟩ := hd2.see s2 st2.wf ei
              have ei2 := rv2.int
              subst ei2
              have s2' := s2.mono st2'.mm (keepOn_refl _ _)
              have st12 := st2.trans st2'
              have fr12 := st12.frame (T := Fo) (st1.wf.perm pc1)
              have hd1' : Held G σ o v1 ro Fo H2 M2' := hd1.mono st12.mm (st12.keepOn st1.wf.disj)
              have tot2 := (st1.perm pc1).trans fr12
              refine ⟨i, rfl, ?_⟩
              refine q2 σ H2 M2' ρ2 F2 _ st2'.wf s2' (fun e => hn (by rw [e]; rfl)) (fun rh ρ3 e3 v3 H3 M3 Fh F3 st3 hd3 s3 => ?_) (fun x ρ3 e3 cls dd H3 M3 F3 st3 rx s3 => ?_)
              · rw [e3] at hn hk
                simp only [R.bind_ok] at hn hk
                split at hn
                · rename_i j d ej ed
                  split at hn
                  · rename_i r er
                    simp only [ej, ed, er] at hk
                    obtain ⟨M3', rv3, st3'⟩ := hd3.see s3 st3.wf ej
                    have ej2 := rv3.int
                    subst ej2
                    have s3' := s3.mono st3'.mm (keepOn_refl _ _)
                    have st23 := st3.trans st3'
                    have fr23 := st23.frame (T := Fo) fr12.wf
                    have hd1'' : Held G σ o v1 ro Fo H3 M3' := hd1'.mono st23.mm (st23.keepOn fr12.wf.disj')
                    have pc3 : (F3 ++ Fo).Perm (Fo ++ F3) := List.perm_append_comm
                    obtain ⟨M4, rv4, st4⟩ := hd1''.see s3' (fr23.wf.perm pc3) ed
                    have tot4 := ((tot2.trans fr23).perm pc3).trans st4
                    exact ⟨j, rfl, vo_sl hK st4.wf.sm rv4 er fun v' H' M' Fo' ps ro fr => hk r ρ3 rfl v' H' M' Fo' F3 (tot4.trans (ps.grow fr st4.wf)) ro ((s3'.mono st4.mm (keepOn_refl _ _)).mono ps.mm fun a ha x e => ps.hh a x e)⟩
                  · exact absurd rfl hn
                · exact absurd rfl hn
              · have fr23 := st3.frame (T := Fo) fr12.wf
                exact he x ρ3 (by rw [e3]; rfl) cls dd H3 M3 F3 ((tot2.trans fr23).sub st3.wf.nd fun a ha => List.mem_append_left _ ha) rx s3
            · exact absurd rfl hn
          · have fr2 := st2.frame (T := Fo) (st1.wf.perm pc1)
            exact he x ρ2 (by rw [e2]; rfl) cls dd H2 M2 F2 (((st1.perm pc1).trans fr2).sub st2.wf.nd fun a ha => List.mem_append_left _ ha) rx s2
end PV

set_option Elab.async false
set_option linter.all false
set_option maxRecDepth 100000
/-! PV: x[::-1] of lists and tuples -/
namespace PV
open PySem PySem.Spec PyProof.Rows L2 HT
theorem fm_congr {α β : Type} {f g : α → Option β} : ∀ {l : List α}, (∀ x ∈ l, f x = g x) → l.filterMap f = l.filterMap g
  | [], _ => rfl
  | x :: l, h => by
    rw [List.filterMap_cons, List.filterMap_cons, h x List.mem_cons_self, fm_congr fun y hy => h y (List.mem_cons_of_mem _ hy)]
section
variable {prog : Program} {w : World} {A : Around} {E : Value → Shared → Prop} {s : Shared}
theorem sliceApplied_rev {sl : Addr} {vl vu vs : Value} {n : Nat} {Q : Int × Int × Nat → Shared → Prop} (hs : s.heap.IsSliceOf sl vl vu vs) (pl : IsPart vl none) (pu : IsPart vu none) (ps : IsPart vs (some (-1)))
    (h : Q ((n : Int) - 1, -1, n) s) : wpAny (model prog w) A (Builtin.Slice.sliceApplied (.ref sl) (pure (n : Int))) Q E s := by
  obtain ⟨os, hos, hcs, hds⟩ := id hs
  unfold Builtin.Slice.sliceApplied Builtin.Slice.sliceFields
  refine wpAny_bind (wpAny_bind (wpAny_field hos hds (x := vl) rfl (wpAny_bind (wpAny_field hos hds (x := vu) rfl (wpAny_bind (wpAny_field hos hds (x := vs) rfl (wpAny_pure ?_)))))))
  refine wpAny_bind (slicePart_ ps ?_)
  show wpAny _ _ (if ((-1 : Int) == 0) = true then _ else _) _ _ s
  rw [if_neg (by decide)]
  refine wpAny_bind (slicePart_ pl (wpAny_bind (slicePart_ pu (wpAny_bind (wpAny_pure ?_)))))
  show wpAny _ _ (match Builtin.Slice.sliceAdjust none none (-1) (n : Int) with | (lo, hi) => pure (lo, (-1 : Int), Builtin.Slice.slicePlaces lo hi (-1))) _ _ s
  have e : Builtin.Slice.sliceAdjust none none (-1) (n : Int) = ((n : Int) - 1, -1) := rfl
  rw [e]
  show wpAny _ _ (pure ((n : Int) - 1, (-1 : Int), Builtin.Slice.slicePlaces ((n : Int) - 1) (-1) (-1))) _ _ s
  have e2 : Builtin.Slice.slicePlaces ((n : Int) - 1) (-1) (-1) = n := by
    unfold Builtin.Slice.slicePlaces
    have h1 : ¬ ((-1 : Int) > 0) := by omega
    simp only [h1, if_false]
    split
    · have : (((n : Int) - 1 - -1 - 1) / -(-1) + 1) = (n : Int) := by
        have e3 : (-(-1 : Int)) = 1 := rfl
        rw [e3, Int.ediv_one]
        omega
      rw [this]
      exact Int.toNat_natCast n
    · omega
  rw [e2]
  exact wpAny_pure h
theorem pick_rev (xs : Array Value) : ((List.range xs.size).filterMap fun (m : Nat) => xs[(((xs.size : Int) - 1) + (m : Int) * (-1)).toNat]?).toArray = xs.toList.reverse.toArray := by
  congr 1
  have e : ∀ (l : List Value) (n : Nat), l.length = n → (List.range n).filterMap (fun (m : Nat) => l[n - 1 - m]?) = l.reverse := by
    intro l n hn
    have h1 : (List.range n).filterMap (fun (m : Nat) => l[n - 1 - m]?) = (List.range n).filterMap (fun (m : Nat) => l.reverse[m]?) := by
      apply fm_congr
      intro m hm
      have hm' : m < l.length := by rw [hn]; exact List.mem_range.mp hm
      rw [List.getElem?_reverse hm', hn]
    rw [h1]
    have h2 : ∀ (l : List Value), (List.range l.length).filterMap (fun (m : Nat) => l[m]?) = l := by
      intro l
      induction l with
      | nil => rfl
      | cons x r ih =>
        rw [List.length_cons, List.range_succ_eq_map, List.filterMap_cons]
        simp only [List.getElem?_cons_zero, List.filterMap_map]
        congr 1
    rw [← hn, ← List.length_reverse]
    exact h2 _
  rw [← e xs.toList xs.size (by simp)]
  apply fm_congr
  intro m hm
  have hm' : m < xs.size := List.mem_range.mp hm
  have : (((xs.size : Int) - 1) + (m : Int) * (-1)).toNat = xs.size - 1 - m := by omega
  rw [this]
  simp
theorem getItem_tuple_rev {t sl : Addr} {items : Array Value} {vl vu vs : Value} {Q : Value → Shared → Prop} (ht : IsTup s.heap t items) (hs : s.heap.IsSliceOf sl vl vu vs) (pl : IsPart vl none) (pu : IsPart vu none) (ps : IsPart vs (some (-1)))
    (h : Q (.ref s.heap.objs.size) { s with heap := s.heap.push { cls := .type "tuple", data := .seq items.toList.reverse.toArray } })
    (hsz : items.size ≤ sizeLine) : wpAny (model prog w) A (getItem (.ref t) (.ref sl)) Q E s := by
  have htake : sizeOk (.seq items.toList.reverse.toArray) := by
    show items.toList.reverse.toArray.size ≤ sizeLine
    rw [List.size_toArray, List.length_reverse, Array.length_toList]
    exact hsz
  obtain ⟨os, hos, hcs, hds⟩ := id hs
  have hTs : s.TypeIs (.ref sl) "slice" := ⟨os, hos, hcs⟩
  unfold getItem
  try with_reducible refine wpAny_holding ?_
  first | refine wpAny_bind (wpAny_pure ?_) | skip
  refine wpAny_bind (wpAny_sequenceKey ht.typeIs (by decide) ?_)
  refine wpAny_bind (wpAny_callSpecial?_slot (name := Str.ofString "__getitem__") ht.typeIs PyProof.Rows.slot_tuple_getitem
    (wpAny_call_entry PyProof.Rows.slot_tuple_getitem ht.typeIs entry_tuple_getitem ?_ (args_tuple_getitem _ _)))
  show wpAny _ _ (Builtin.Tuple.tupleItemsOf (.ref t) >>= _) _ _ s
  refine wpAny_bind (tupleItemsOf_ ht ?_)
  refine wpAny_bind (wpAny_typeOf hTs ?_)
  rw [if_pos (by decide)]
  refine wpAny_bind (sliceApplied_rev hs pl pu ps ?_)
  have hno : ¬ ((((items.size : Int) - 1) == 0 && (-1 : Int) == 1 && items.size == items.size) = true) := by
    intro q
    rw [Bool.and_eq_true, Bool.and_eq_true] at q
    exact absurd q.1.2 (by decide)
  show wpAny _ _ (if (((items.size : Int) - 1) == 0 && (-1 : Int) == 1 && items.size == items.size) = true then _ else _) _ _ s
  rw [if_neg hno, pick_rev]
  first
    | exact wpAny_bind (m := Builtin.Tuple.tupleExact _) (wpAny_newObj_type (wpAny_pure ⟨_, rfl, wpAny_pure h⟩) htake)
    | exact wpAny_bind (m := Builtin.Tuple.tupleExact _) (wpAny_newObj_type (wpAny_bind (wpAny_pure (wpAny_pure ⟨_, rfl, wpAny_pure h⟩))) htake)
    | exact wpAny_bind (wpAny_bind (m := Builtin.Tuple.tupleExact _) (wpAny_newObj_type (wpAny_pure (wpAny_pure ⟨_, rfl, wpAny_pure h⟩)) htake))
    | exact wpAny_bind (wpAny_bind (m := Builtin.Tuple.tupleExact _) (wpAny_newObj_type (wpAny_pure ⟨_, rfl, wpAny_pure h⟩) htake))
end
def tRevA (K : PySem.W.Frag) (te : TE) : TE := fun σ H Q => te σ H fun x H1 => (∃ a xs, x = .ref a ∧ SqL K H1 a xs ∧ ∀ p, H1 p = none → Q (.ref p) (upd H1 p (.lst xs.reverse))) ∨ (∃ a xs, x = .ref a ∧ SqT K H1 a xs ∧ ∀ p, H1 p = none → Q (.ref p) (upd H1 p (.tup xs.reverse)))
theorem pe_revA {X : Cx} {e : Expr} {te : TE} {k : Nat} {p1 p2 p3 pos : Pos} (he : PE X e te) : PE X (.Subscript e (.Slice none none (some (.UnaryOp .USub (.Constant (.int 1) k p1) p2)) p3) pos) (tRevA X.K te) := by
  refine ⟨fun pins s σ H Q I h => ?_⟩
  refine Subscript_ (thn (he.run pins s σ H _ I h) fun v s1 ⟨x, H1, I1, r1, q1⟩ => ?_)
  have hst : PO X (some (.UnaryOp .USub (.Constant (.int 1) k p1) p2)) (tPart (tUn (rU fun i => .int (-i)) (tC (.int 1)))) := po_some (pe_un un_neg pe_int)
  have hx : ∃ a, x = .ref a := by
    rcases q1 with ⟨a, _, e, _⟩ | ⟨a, _, e, _⟩
    · exact ⟨a, e⟩
    · exact ⟨a, e⟩
  obtain ⟨a0, ex0⟩ := hx
  subst ex0
  cases r1
  refine wpAny_Slice (thn (po_none.run pins s1 σ H1 (fun o H2 => o = none ∧ H2 = H1) I1 ⟨rfl, rfl⟩) fun vl s2 ⟨l, H2, I2, pl, el, e2⟩ => ?_)
  subst el e2
  refine thn (po_none.run pins s2 σ H2 (fun o H3 => o = none ∧ H3 = H2) I2 ⟨rfl, rfl⟩) fun vu s3 ⟨u, H3, I3, pu, eu, e3⟩ => ?_
  subst eu e3
  refine thn (hst.run pins s3 σ H3 (fun o H4 => o = some (-1) ∧ H4 = H3) I3 ⟨1, rfl, -1, rfl, rfl, rfl⟩) fun vs s4 ⟨o, H4, I4, ps, eo, e4⟩ => ?_
  subst eo e4
  have I5 : Inv X pins σ H4 { s4 with heap := s4.heap.push { cls := .type "slice", data := .fields #[vl, vu, vs] } } := I4.kept (t' := s4.toks) fun b ob q => Heap.get?_push_of_some _ q
  show wpAny (model X.prog X.w) X.A (subscriptTail e (.Slice none none (some (.UnaryOp .USub (.Constant (.int 1) k p1) p2)) p3) (.ref a0) (.ref s4.heap.objs.size)) (EP X pins σ Q) X.xe { s4 with heap := s4.heap.push { cls := .type "slice", data := .fields #[vl, vu, vs] } }
  rcases q1 with ⟨a, xs, ex, hx, q⟩ | ⟨a, xs, ex, hx, q⟩
  · cases ex
    obtain ⟨its, r, ht, hz⟩ := I5.list hx
    have hlen := r.length
    refine tail_any (ops := [.ref a0, .ref s4.heap.objs.size]) ht.isList.typeIs (PySem.slot_list_getitem.lookup) ?_ (by with_unfolding_all rfl)
    refine wpAny_getItem_list_slice ht.isList (Heap.IsSliceOf.new _ vl vu vs) pl pu ps (by decide) ?_ (by rw [List.size_toArray]; omega)
    rw [PySem.W.krv_pick]
    refine ⟨.ref _, _, I5.laid (t' := s4.toks) (o := .lst xs.reverse) (fun b ob q => Heap.get?_push_of_some _ q) (Nat.le_refl _) ?_, rfl, q _ (I5.hok.fresh (Nat.le_refl _))⟩
    exact ⟨by rw [List.length_reverse]; exact hz, _, 0, r.reverse, Heap.get?_push_size _ rfl⟩
  · cases ex
    obtain ⟨its, r, ht, hz⟩ := I5.tuple hx
    have hlen := r.length
    refine tail_any (ops := [.ref a0, .ref s4.heap.objs.size]) ht.typeIs (PyProof.Rows.slot_tuple_getitem.lookup) ?_ (by with_unfolding_all rfl)
    refine getItem_tuple_rev ht (Heap.IsSliceOf.new _ vl vu vs) pl pu ps ?_ (by rw [List.size_toArray]; omega)
    refine ⟨.ref _, _, I5.laid (t' := s4.toks) (o := .tup xs.reverse) (fun b ob q => Heap.get?_push_of_some _ q) (Nat.le_refl _) ?_, rfl, q _ (I5.hok.fresh (Nat.le_refl _))⟩
    exact ⟨by rw [List.length_reverse]; exact hz, _, r.reverse, IsTup.new _ _⟩
def gRev : List D → Option O
  | [.lst xs] => some (.ls xs.reverse)
  | [.tup xs] => some (.fr (.tup xs.reverse))
  | _ => none
theorem de_rev {G : Gx} {X : Cx} {W : WX} {e : Expr} {o : Opd} {k : Nat} {p1 p2 p3 pos : Pos} (h1 : DOp G X W e o) (hK : X.K = G.K := by rfl) : DE G X W (.Subscript e (.Slice none none (some (.UnaryOp .USub (.Constant (.int 1) k p1) p2)) p3) pos) (opN [o] gRev) := by
  obtain ⟨t1, p, q⟩ := opd_run h1
  have z : VOp G (rL1 fun x H Q => (∃ a xs, x = .ref a ∧ SqL X.K H a xs ∧ ∀ p, H p = none → Q (.ref p) (upd H p (.lst xs.reverse))) ∨ (∃ a xs, x = .ref a ∧ SqT X.K H a xs ∧ ∀ p, H p = none → Q (.ref p) (upd H p (.tup xs.reverse)))) gRev := by
    intro vs ds H M o Q sm rv e k
    unfold gRev at e
    split at e
    · rename_i xs
      cases e
      obtain ⟨v, rfl, r1⟩ := rvs1 rv
      obtain ⟨a1, ys, rfl, hx, rx, lx⟩ := r1.list sm
      exact .inl ⟨a1, ys, rfl, .inl (.inl hx), fun p hp => k _ _ M [p] (.newO sm hp) (RO.newL rx.reverse (by rw [List.length_reverse]; exact lx)) (.one hp (sm.free hp))⟩
    · rename_i xs
      cases e
      obtain ⟨v, rfl, r1⟩ := rvs1 rv
      obtain ⟨a1, ys, rfl, hx, hxm, rx, lx⟩ := r1.tuple sm
      exact .inr ⟨a1, ys, rfl, by rw [hK]; exact hx, fun p hp => k _ _ (upd M p (.tup ys.reverse)) [] (.newF sm hp) (RO.newT sm hp rx.reverse (by rw [List.length_reverse]; exact lx)) .nil⟩
    · cases e
  exact ⟨_, pe_revA p, es_opN (oss_cons q oss_nil) z⟩
end PV

set_option Elab.async false
set_option linter.all false
set_option maxRecDepth 100000
/-! PV: methods of lists, stores to items -/
namespace PV
open PySem PySem.Spec PyProof.Rows L2

/-- an owned list's contents changed -/
theorem mut_slot {G : Gx} {H M : Hp} {σ : L2.St} {ρ : Env} {F : List Addr} {i : Nat} {xs : List D} (s : SR G H M σ ρ F) (w : Wf M H F) (e : ρ[i]? = some (some (.ls xs))) :
    ∃ a vs, σ[i]? = some (some (.ref a)) ∧ H a = some (.lst vs) ∧ RDs G M vs xs ∧ xs.length ≤ LIM ∧
      ∀ vs' xs', RDs G M vs' xs' → xs'.length ≤ LIM → ∃ F', Stp F H M (upd H a (.lst vs')) M F' ∧ SR G (upd H a (.lst vs')) M σ (ρ.set i (some (.ls xs'))) F' := by
  obtain ⟨v, Fo, F1, ev, ro, s1, pm⟩ := s.take e
  cases ro with
  | ls h r l =>
    rename_i a vs
    refine ⟨a, vs, ev, h, r, l, fun vs' xs' r' l' => ?_⟩
    have w1 := w.perm pm
    have haF : a ∉ F1 := w1.disj a (by simp)
    have hm : M a = none := (w1.ow a (by simp)).1
    have st : Stp ([a] ++ F1) H M (upd H a (.lst vs')) M ([a] ++ F1) := by
      refine ⟨fun _ _ e => e, fun b x hb e => ?_, fun _ _ _ e => e, fun b hb => .inl hb, fun b x e => ?_, w1.nd, fun b hb => ⟨(w1.ow b hb).1, ?_⟩⟩
      · rw [upd_ne (show b ≠ a from fun z => hb (by simp [z]))]; exact e
      · rw [upd_ne (show b ≠ a from fun z => by rw [z, hm] at e; cases e)]; exact w1.sm b x e
      · by_cases hba : b = a
        · rw [hba, upd_same]; simp
        · rw [upd_ne hba]; exact (w1.ow b hb).2
    have s2 : SR G (upd H a (.lst vs')) M σ (ρ.set i none) F1 := s1.mono (fun _ _ e => e) fun b hb x e => by
      rw [upd_ne (show b ≠ a from fun z => haF (z ▸ hb))]; exact e
    have hi : i < ρ.length := (List.getElem?_eq_some_iff.mp e).1
    obtain ⟨F2, s3, pm2⟩ := s2.put_same (.ls upd_same r' l') (i := i) (by rw [List.getElem?_set_self hi]) ev
    rw [List.set_set] at s3
    exact ⟨F2, (st.perm_l pm.symm).perm pm2.symm, s3⟩
/-- a method that changes an owned list -/
def MOp (G : Gx) (r : V → List V → Hp → VK → Prop) (g : List D → List D → Option (List D × D)) : Prop :=
  ∀ (a : Addr) (vs : List V) (xs : List D) (vargs : List V) (ds : List D) (H M : Hp) (xs' : List D) (d : D) (Q : VK), Same M H → H a = some (.lst vs) → RDs G M vs xs → xs.length ≤ LIM → RDs G M vargs ds → g xs ds = some (xs', d) →
    (∀ v vs', RDs G M vs' xs' → xs'.length ≤ LIM → RD G M v d → Q v (upd H a (.lst vs'))) → r (.ref a) vargs H Q
def evMeth (i : Nat) (as : List Arg) (g : List D → List D → Option (List D × D)) : Ev := fun ρ => match ρ[i]? with
  | some (some (.ls _)) => (runA as ρ).bind fun rs ρ1 => (match ρ1[i]? with
    | some (some (.ls xs)) => (match g xs (frOs rs) with
      | some (xs', d) => .ok (.fr d) (ρ1.set i (some (.ls xs')))
      | none => .st)
    | _ => .st)
  | _ => .st
theorem es_meth {G : Gx} {K : PySem.W.Frag} {W : WX} {i : Nat} {as : List Arg} {t : TA} {r : V → List V → Hp → VK → Prop} {g : List D → List D → Option (List D × D)} (h : ASs G W as t) (v : MOp G r g) : ES G W (tBM K "list" r (tVar i) t) (evMeth i as g) := by
  intro σ H M ρ F Q w s hn hk he
  unfold evMeth at hn hk he
  split at hn
  · rename_i xs0 e0
    simp only [e0] at hk he
    obtain ⟨a, vs0, ev, hH0, _, _, _⟩ := mut_slot s w e0
    refine ⟨.ref a, ev, .inl ⟨rfl, vs0, .inl (.inl hH0)⟩, ?_⟩
    refine h σ H M ρ F _ w s (fun e => hn (by rw [e]; rfl)) (fun rs ρ1 e1 vs H1 M1 Fo F1 st1 hd1 _ s1 => ?_) (fun x ρ1 e1 => he x ρ1 (by rw [e1]; rfl))
    rw [e1] at hn hk
    simp only [R.bind_ok] at hn hk
    split at hn
    · rename_i xs e2
      simp only [e2] at hk
      split at hn
      · rename_i xs' d eg
        simp only [eg] at hk
        obtain ⟨M2, rd, st2⟩ := hd1.freeze st1.wf
        have s2 := s1.mono st2.mm (keepOn_refl _ _)
        obtain ⟨a', vs1, ev', hH1, rx, lx, nxt⟩ := mut_slot s2 st2.wf e2
        rw [ev] at ev'
        cases ev'
        refine v a vs1 xs vs _ H1 M2 xs' d Q st2.wf.sm hH1 rx lx rd eg fun v' vs' r' l' rd' => ?_
        obtain ⟨F', st3, s3⟩ := nxt vs' xs' r' l'
        exact hk _ _ rfl v' _ M2 [] F' ((st1.trans st2).trans st3) (.fr rd') s3
      · exact absurd rfl hn
    · exact absurd rfl hn
  · exact absurd rfl hn
theorem es_meth0 {G : Gx} {K : PySem.W.Frag} {W : WX} {i : Nat} {r : V → List V → Hp → VK → Prop} {g : List D → List D → Option (List D × D)} (v : MOp G r g) : ES G W (tBM0 K "list" r (tVar i)) (evMeth i [] g) := by
  have z := es_meth (G := G) (K := K) (W := W) (i := i) (as := []) (t := tNil) ass_nil v
  exact z
section
variable {G : Gx} {X : Cx} {W : WX} {i : Nat} {o e : Expr} {as : List Arg} {apos cpos : Pos}
theorem de_meth {name : Str} {id : String} {es : List Expr} {r : V → List V → Hp → VK → Prop} {g : List D → List D → Option (List D × D)} (slot : Slot "list" name id) (hty : typeOf (.builtin id) = pure (.type "method_descriptor")) (hm : MtR X id r) (hv : MOp G r g) (ho : PE X o (tVar i)) (ha : DAs G X W (e :: es) as)
    (hx : attributeBase o name X.env (eval o X.env) = eval o X.env := by rfl)
    (hfew : ((backTo cpos (starEach (e :: es) X.env)).all (fun x => !x.1) && (backToKw cpos (keywordEach [] X.env)).all (fun x => x.1.isSome)
      && decide ((e :: es).length + ([] : List Keyword).length + (if ([] : List Keyword).isEmpty then 0 else 1) < 30)) = true := by rfl)
    (hline : (apos.endLine == cpos.line) = true := by rfl) (hs : starEach (e :: es) X.env = (false, eval e X.env) :: starEach es X.env := by rfl) (hplain : (backTo cpos (starEach es X.env)).any (·.1) = false := by rfl) :
    DE G X W (.Call (.Attribute o name apos) (e :: es) [] cpos) (evMeth i as g) := by
  obtain ⟨t, p, q⟩ := ha.ex
  exact ⟨_, pe_bm PySem.F.plainAttrs_list slot hty hm ho p hx hfew hline hs hplain, es_meth q hv⟩
theorem de_meth0 {name : Str} {id : String} {r : V → List V → Hp → VK → Prop} {g : List D → List D → Option (List D × D)} (slot : Slot "list" name id) (hty : typeOf (.builtin id) = pure (.type "method_descriptor")) (hm : MtR X id r) (hv : MOp G r g) (ho : PE X o (tVar i))
    (hx : attributeBase o name X.env (eval o X.env) = eval o X.env := by rfl) (hline : (apos.endLine == cpos.line) = true := by rfl) :
    DE G X W (.Call (.Attribute o name apos) [] [] cpos) (evMeth i [] g) := ⟨_, pe_bm0 PySem.F.plainAttrs_list slot hty hm ho hx hline, es_meth0 hv⟩
def mAppend : List D → List D → Option (List D × D)
  | xs, [d] => if xs.length < LIM then some (xs ++ [d], .non) else none
  | _, _ => none
theorem mo_append : MOp G rAppend mAppend := by
  intro a vs xs vargs ds H M xs' d Q sm hH rx lx rd e k
  unfold mAppend at e
  split at e
  · split at e
    · rename_i hl
      cases e
      cases rd with
      | cons h t =>
        cases t
        exact ⟨a, vs, _, rfl, rfl, hH, by rw [rx.length]; exact Nat.lt_trans hl LIM_line, k .non _ (rx.append (.cons h .nil)) (by simp; omega) .non⟩
    · cases e
  · cases e
def mExtend : List D → List D → Option (List D × D)
  | xs, [.lst ys] => if xs.length + ys.length ≤ LIM then some (xs ++ ys, .non) else none
  | _, _ => none
theorem mo_extend : MOp G rExtend mExtend := by
  intro a vs xs vargs ds H M xs' d Q sm hH rx lx rd e k
  unfold mExtend at e
  split at e
  · split at e
    · rename_i hl
      cases e
      cases rd with
      | cons h t =>
        cases t
        cases h with
        | lst h r l => exact ⟨a, _, vs, _, rfl, rfl, hH, sm _ _ h, by rw [rx.length, r.length]; exact le_line hl, k .non _ (rx.append r) (by simp; omega) .non⟩
    · cases e
  · cases e
theorem RDs.dropLast {M : Hp} {vs : List V} {ds : List D} (r : RDs G M vs ds) : RDs G M vs.dropLast ds.dropLast := by
  rw [List.dropLast_eq_take, List.dropLast_eq_take, r.length]
  exact r.take _
def mPop : List D → List D → Option (List D × D)
  | xs, [] => match xs[xs.length - 1]? with
    | some d => some (xs.dropLast, d)
    | none => none
  | _, _ => none
theorem mo_pop : MOp G rPop mPop := by
  intro a vs xs vargs ds H M xs' d Q sm hH rx lx rd e k
  unfold mPop at e
  split at e
  · split at e
    · rename_i d' ed
      cases e
      cases rd
      obtain ⟨v, ev, rv⟩ := rx.get ed
      exact ⟨a, vs, v, rfl, rfl, hH, by rw [rx.length]; exact ev, k v _ rx.dropLast (by simp; omega) rv⟩
    · cases e
  · cases e
def mPopAt : List D → List D → Option (List D × D)
  | xs, [.int i] => if -(2 ^ 63) ≤ i ∧ i < 2 ^ 63 then (match seqIndex? i xs.length with
      | some j => (match xs[j]? with
        | some d => some (xs.eraseIdx j, d)
        | none => none)
      | none => none) else none
  | _, _ => none
theorem mo_popAt : MOp G rPopAt mPopAt := by
  intro a vs xs vargs ds H M xs' d Q sm hH rx lx rd e k
  unfold mPopAt at e
  split at e
  · rename_i i
    split at e
    · rename_i hi
      split at e
      · rename_i j ej
        split at e
        · rename_i d' ed
          cases e
          cases rd with
          | cons h t =>
            cases t
            cases h
            obtain ⟨v, ev, rv⟩ := rx.get ed
            exact ⟨a, vs, i, j, v, rfl, rfl, hH, hi.1, hi.2, by rw [rx.length]; exact ej, ev, k v _ (rx.eraseIdx j) (Nat.le_trans (List.length_eraseIdx_le ..) lx) rv⟩
        · cases e
      · cases e
    · cases e
  · cases e
def mReverse : List D → List D → Option (List D × D)
  | xs, [] => some (xs.reverse, .non)
  | _, _ => none
theorem mo_reverse : MOp G rReverse mReverse := by
  intro a vs xs vargs ds H M xs' d Q sm hH rx lx rd e k
  unfold mReverse at e
  split at e
  · cases e
    cases rd
    exact ⟨a, vs, rfl, rfl, hH, k .non _ rx.reverse (by simpa using lx) .non⟩
  · cases e
def mInsert : List D → List D → Option (List D × D)
  | xs, [.int i, d] => if xs.length < LIM ∧ 0 ≤ i ∧ i < 2 ^ 63 then some (xs.take i.toNat ++ [d] ++ xs.drop i.toNat, .non) else none
  | _, _ => none
theorem mo_insert : MOp G (fun x vs H Q => ∃ (l : Addr) (xs : List V) (i : Int) (y : V), x = .ref l ∧ vs = [.int i, y] ∧ H l = some (.lst xs) ∧ xs.length < sizeLine ∧ 0 ≤ i ∧ i < 2 ^ 63 ∧
    Q .non (upd H l (.lst (xs.take i.toNat ++ [y] ++ xs.drop i.toNat)))) mInsert := by
  intro a vs xs vargs ds H M xs' d Q sm hH rx lx rd e k
  unfold mInsert at e
  split at e
  · rename_i i d0
    split at e
    · rename_i hl
      cases e
      cases rd with
      | cons h t =>
        cases t with
        | cons h2 t =>
          cases t
          cases h
          refine ⟨a, vs, i, _, rfl, rfl, hH, by rw [rx.length]; exact Nat.lt_trans hl.1 LIM_line, hl.2.1, hl.2.2, k .non _ (((rx.take _).append (.cons h2 .nil)).append (rx.drop _)) ?_ .non⟩
          have := hl.1
          simp
          omega
    · cases e
  · cases e
theorem erase_map {α β : Type} (f : α → β) : ∀ (l : List α) (j : Nat), (l.map f).eraseIdx j = (l.eraseIdx j).map f
  | [], _ => rfl
  | _ :: _, 0 => rfl
  | x :: l, j + 1 => by
    show f x :: (l.map f).eraseIdx j = f x :: (l.eraseIdx j).map f
    rw [erase_map f l j]
/-- the first place of an int -/
def mRemI : List D → List D → Option (List D × D)
  | xs, [.int k] => match intsD xs with
    | some ns => (match ns.findIdx? (· == k) with
      | some j => some (xs.eraseIdx j, .non)
      | none => none)
    | none => none
  | _, _ => none
theorem mo_remI : MOp G rRemI mRemI := by
  intro a vs xs vargs ds H M xs' d Q sm hH rx lx rd e k
  unfold mRemI at e
  split at e
  · rename_i n
    split at e
    · rename_i ns en
      split at e
      · rename_i j ej
        cases e
        cases rd with
        | cons h t =>
          cases t
          cases h
          have ev := ints_rds rx en
          subst ev
          rw [List.findIdx?_eq_some_iff_getElem] at ej
          obtain ⟨hj, e1, e2⟩ := ej
          refine ⟨a, ns, n, j, rfl, rfl, hH, by rw [List.getElem?_eq_getElem hj]; exact congrArg some (eq_of_beq e1), fun m hm => ?_, ?_⟩
          · have hm' : m < ns.length := by omega
            rw [List.getElem?_eq_getElem hm']
            intro z
            have := e2 m hm
            rw [Option.some.inj z] at this
            simp at this
          · have := k .non _ (rx.eraseIdx j) (Nat.le_trans (List.length_eraseIdx_le ..) lx) .non
            rw [erase_map] at this
            exact this
      · cases e
    · cases e
  · cases e
theorem de_append (ho : PE X o (tVar i)) (ha : DAs G X W [e] as) (hx : attributeBase o "append" X.env (eval o X.env) = eval o X.env := by rfl)
    (hfew : ((backTo cpos (starEach [e] X.env)).all (fun x => !x.1) && (backToKw cpos (keywordEach [] X.env)).all (fun x => x.1.isSome)
      && decide ([e].length + ([] : List Keyword).length + (if ([] : List Keyword).isEmpty then 0 else 1) < 30)) = true := by rfl)
    (hline : (apos.endLine == cpos.line) = true := by rfl) (hs : starEach [e] X.env = (false, eval e X.env) :: starEach [] X.env := by rfl) (hplain : (backTo cpos (starEach [] X.env)).any (·.1) = false := by rfl) :
    DE G X W (.Call (.Attribute o "append" apos) [e] [] cpos) (evMeth i as mAppend) := de_meth PySem.F.slot_list_append PySem.F.type_list_append mt_append mo_append ho ha hx hfew hline hs hplain
theorem de_extend (ho : PE X o (tVar i)) (ha : DAs G X W [e] as) (hx : attributeBase o "extend" X.env (eval o X.env) = eval o X.env := by rfl)
    (hfew : ((backTo cpos (starEach [e] X.env)).all (fun x => !x.1) && (backToKw cpos (keywordEach [] X.env)).all (fun x => x.1.isSome)
      && decide ([e].length + ([] : List Keyword).length + (if ([] : List Keyword).isEmpty then 0 else 1) < 30)) = true := by rfl)
    (hline : (apos.endLine == cpos.line) = true := by rfl) (hs : starEach [e] X.env = (false, eval e X.env) :: starEach [] X.env := by rfl) (hplain : (backTo cpos (starEach [] X.env)).any (·.1) = false := by rfl) :
    DE G X W (.Call (.Attribute o "extend" apos) [e] [] cpos) (evMeth i as mExtend) := de_meth PySem.F.slot_list_extend PySem.F.type_list_extend mt_extend mo_extend ho ha hx hfew hline hs hplain
theorem de_popAt (ho : PE X o (tVar i)) (ha : DAs G X W [e] as) (hx : attributeBase o "pop" X.env (eval o X.env) = eval o X.env := by rfl)
    (hfew : ((backTo cpos (starEach [e] X.env)).all (fun x => !x.1) && (backToKw cpos (keywordEach [] X.env)).all (fun x => x.1.isSome)
      && decide ([e].length + ([] : List Keyword).length + (if ([] : List Keyword).isEmpty then 0 else 1) < 30)) = true := by rfl)
    (hline : (apos.endLine == cpos.line) = true := by rfl) (hs : starEach [e] X.env = (false, eval e X.env) :: starEach [] X.env := by rfl) (hplain : (backTo cpos (starEach [] X.env)).any (·.1) = false := by rfl) :
    DE G X W (.Call (.Attribute o "pop" apos) [e] [] cpos) (evMeth i as mPopAt) := de_meth PySem.F.slot_list_pop PySem.F.type_list_pop mt_popAt mo_popAt ho ha hx hfew hline hs hplain
theorem de_removeI (ho : PE X o (tVar i)) (ha : DAs G X W [e] as) (hx : attributeBase o "remove" X.env (eval o X.env) = eval o X.env := by rfl)
    (hfew : ((backTo cpos (starEach [e] X.env)).all (fun x => !x.1) && (backToKw cpos (keywordEach [] X.env)).all (fun x => x.1.isSome)
      && decide ([e].length + ([] : List Keyword).length + (if ([] : List Keyword).isEmpty then 0 else 1) < 30)) = true := by rfl)
    (hline : (apos.endLine == cpos.line) = true := by rfl) (hs : starEach [e] X.env = (false, eval e X.env) :: starEach [] X.env := by rfl) (hplain : (backTo cpos (starEach [] X.env)).any (·.1) = false := by rfl) :
    DE G X W (.Call (.Attribute o "remove" apos) [e] [] cpos) (evMeth i as mRemI) := de_meth PySem.F.slot_list_remove PySem.F.type_list_remove mt_remove mo_remI ho ha hx hfew hline hs hplain
theorem de_insert {e2 : Expr} (ho : PE X o (tVar i)) (ha : DAs G X W [e, e2] as) (hx : attributeBase o "insert" X.env (eval o X.env) = eval o X.env := by rfl)
    (hfew : ((backTo cpos (starEach [e, e2] X.env)).all (fun x => !x.1) && (backToKw cpos (keywordEach [] X.env)).all (fun x => x.1.isSome)
      && decide ([e, e2].length + ([] : List Keyword).length + (if ([] : List Keyword).isEmpty then 0 else 1) < 30)) = true := by rfl)
    (hline : (apos.endLine == cpos.line) = true := by rfl) (hs : starEach [e, e2] X.env = (false, eval e X.env) :: starEach [e2] X.env := by rfl) (hplain : (backTo cpos (starEach [e2] X.env)).any (·.1) = false := by rfl) :
    DE G X W (.Call (.Attribute o "insert" apos) [e, e2] [] cpos) (evMeth i as mInsert) := de_meth PySem.F.slot_list_insert PySem.F.type_list_insert mt_insert mo_insert ho ha hx hfew hline hs hplain
theorem de_pop0 (ho : PE X o (tVar i)) (hx : attributeBase o "pop" X.env (eval o X.env) = eval o X.env := by rfl) (hline : (apos.endLine == cpos.line) = true := by rfl) :
    DE G X W (.Call (.Attribute o "pop" apos) [] [] cpos) (evMeth i [] mPop) := de_meth0 PySem.F.slot_list_pop PySem.F.type_list_pop mt_pop mo_pop ho hx hline
theorem de_reverse0 (ho : PE X o (tVar i)) (hx : attributeBase o "reverse" X.env (eval o X.env) = eval o X.env := by rfl) (hline : (apos.endLine == cpos.line) = true := by rfl) :
    DE G X W (.Call (.Attribute o "reverse" apos) [] [] cpos) (evMeth i [] mReverse) := de_meth0 PySem.F.slot_list_reverse PySem.F.type_list_reverse mt_reverse mo_reverse ho hx hline
end

/-! x[k] = v -/
def tgSub (i : Nat) (ix : Opd) : Tgt := fun o ρ => match ρ[i]? with
  | some (some (.ls _)) => (match ix.run ρ with
    | .ok r ρ1 => (match ix.fin r ρ1, ρ1[i]? with
      | some (.int k), some (some (.ls xs)) => (match ixN xs.length k with
        | some j => some (ρ1.set i (some (.ls (xs.set j (frO o)))))
        | none => none)
      | _, _ => none)
    | _ => none)
  | _ => none
theorem tgs_sub {G : Gx} {W : WX} {P : List Bool} {i : Nat} {ix : Opd} {ti : TE} (q : OS G W ix ti) : TgS G P (L2.gSub (tVar i) ti rSetL) (tgSub i ix) := by
  intro v σ H M ρ o Fo F Q w ro s hn k
  unfold tgSub at hn k
  split at hn
  · rename_i xs0 e0
    simp only [e0] at k
    obtain ⟨a, vs0, ev, _, _, _, _⟩ := mut_slot s w.right e0
    refine ⟨.ref a, ev, ?_⟩
    have pc : (Fo ++ F).Perm (F ++ Fo) := List.perm_append_comm
    refine q σ H M ρ F _ w.right s (fun e => hn (by rw [e])) (fun r ρ1 e1 v1 H1 M1 Fi F1 st1 hd1 s1 => ?_) (fun x ρ1 e1 => absurd (by rw [e1]) hn)
    rw [e1] at hn k
    simp only at hn k
    split at hn
    · rename_i kx xs ek e2
      simp only [ek, e2] at k
      split at hn
      · rename_i j ej
        simp only [ej] at k
        obtain ⟨M2, rv, st2⟩ := hd1.see s1 st1.wf ek
        have ei := rv.int
        subst ei
        have st12 := st1.trans st2
        have fr := st12.frame (T := Fo) (w.perm pc)
        have ro2 : RO G H1 M2 v o Fo := ro.mono st12.mm (st12.keepOn w.disj)
        have pc2 : (F1 ++ Fo).Perm (Fo ++ F1) := List.perm_append_comm
        obtain ⟨M3, rd, st3⟩ := ro2.freeze (fr.wf.perm pc2)
        have s3 := (s1.mono st2.mm (keepOn_refl _ _)).mono st3.mm (keepOn_refl _ _)
        obtain ⟨a', vs1, ev', hH1, rx, lx, nxt⟩ := mut_slot s3 st3.wf e2
        rw [ev] at ev'
        cases ev'
        obtain ⟨F', st4, s4⟩ := nxt (vs1.set j v) (xs.set j (frO o)) (rx.set rd j) (by simpa using lx)
        refine ⟨a, vs1, kx, j, rfl, rfl, hH1, by rw [rx.length]; exact ej, ?_⟩
        have tot := ((((Stp.refl w).perm pc).trans fr).perm pc2).trans (st3.trans st4)
        exact k _ rfl σ _ M3 F' tot s4 .refl
      · exact absurd rfl hn
    · exact absurd rfl hn
  · exact absurd rfl hn
theorem dg_sub {G : Gx} {X : Cx} {W : WX} {P : List Bool} {o ie : Expr} {i : Nat} {ix : Opd} {pos : Pos} (ho : PE X o (tVar i)) (hi : DOp G X W ie ix)
    (ha : ∀ v, assign (.Subscript o ie pos) X.env v = (do
      let ov ← holding [v] (eval o X.env)
      let iv ← holding [v, ov] (eval ie X.env)
      standAt pos
      holding [v, ov, iv] (setItem ov iv v)
      release [v, ov, iv] []) := by intro _; rfl) : DG G X P (.Subscript o ie pos) (tgSub i ix) := by
  obtain ⟨t, p, q⟩ := opd_run hi
  exact ⟨_, pg_sub ho p set_list ha, tgs_sub q⟩
end PV

set_option Elab.async false
set_option linter.all false
set_option maxRecDepth 100000
/-! PV: instances of own classes, isinstance, membership -/
namespace PV
open PySem PySem.Spec PyProof.Rows L2

structure ClsOk (G : Gx) (c : Nat) : Prop where
  cl : Cls G.K (G.cls c)
  na : ∀ f ∈ G.flds c, NoAttr G.K (G.cls c) f
  nd : (G.flds c).Nodup
  le : (G.flds c).length < 1000
  ha : PySem.W.findIn G.K (.ref (G.cls c)) "__class__" = some (some (.builtin "object.__class__"))
  hn : PySem.W.specialIn G.K (.builtin "object.__class__") "__get__" = some (some (.builtin "getset_descriptor.__get__"))
  ht : PySem.W.takesIn G.K (.builtin "object.__class__") = some true
  hm : PySem.W.mroIn G.K (G.cls c) (.type "object") = some true

theorem zip_lookup {f : Str} : ∀ {ns : List Str} {xs : List V} {k : Nat} {v : V}, ns.Nodup → ns[k]? = some f → xs[k]? = some v → (ns.zip xs).lookup f = some v
  | [], _, _, _, _, h, _ => by simp at h
  | _ :: _, [], _, _, _, _, h => by simp at h
  | n :: ns, x :: xs, 0, v, nd, h1, h2 => by
    simp at h1 h2
    subst h1 h2
    simp [List.lookup_cons]
  | n :: ns, x :: xs, k + 1, v, nd, h1, h2 => by
    have h1' : ns[k]? = some f := by simpa using h1
    have hne : (f == n) = false := by
      rw [beq_eq_false_iff_ne]
      intro e
      subst e
      exact (List.nodup_cons.mp nd).1 (List.mem_iff_getElem?.mpr ⟨k, h1'⟩)
    rw [List.zip_cons_cons, List.lookup_cons, hne]
    exact zip_lookup (List.nodup_cons.mp nd).2 h1' (by simpa using h2)
theorem putF_nil {f : Str} {y : V} : putF f y [] = [(f, y)] := rfl
theorem putF_cons {f g : Str} {y x : V} {r : List (Str × V)} : putF f y ((g, x) :: r) = if g = f then (g, y) :: r else (g, x) :: putF f y r := rfl
theorem putF_ne {f g : Str} {y x : V} {r : List (Str × V)} (h : g ≠ f) : putF f y ((g, x) :: r) = (g, x) :: putF f y r := by rw [putF_cons, if_neg h]
theorem putF_new {f : Str} {y : V} : ∀ {ns : List Str} {xs : List V}, ns.Nodup → ns[xs.length]? = some f → putF f y (ns.zip xs) = ns.zip (xs ++ [y])
  | [], _, _, h => by simp at h
  | n :: ns, [], nd, h => by
    simp at h
    subst h
    rw [List.zip_nil_right, List.nil_append, List.zip_cons_cons, List.zip_nil_right]
    exact putF_nil
  | n :: ns, x :: xs, nd, h => by
    have h1' : ns[xs.length]? = some f := by simpa using h
    have hne : n ≠ f := by
      intro e
      subst e
      exact (List.nodup_cons.mp nd).1 (List.mem_iff_getElem?.mpr ⟨xs.length, h1'⟩)
    rw [List.zip_cons_cons, List.cons_append, List.zip_cons_cons, ← putF_new (List.nodup_cons.mp nd).2 h1', putF_ne hne]
theorem putF_old {f : Str} {y : V} : ∀ {ns : List Str} {xs : List V} {k : Nat}, ns.Nodup → ns[k]? = some f → k < xs.length → putF f y (ns.zip xs) = ns.zip (xs.set k y)
  | [], _, _, _, h, _ => by simp at h
  | n :: ns, [], _, nd, h, hk => by simp at hk
  | n :: ns, x :: xs, 0, nd, h, hk => by
    simp at h
    subst h
    rw [List.zip_cons_cons, List.set_cons_zero, List.zip_cons_cons, putF_cons, if_pos rfl]
  | n :: ns, x :: xs, k + 1, nd, h, hk => by
    have h1' : ns[k]? = some f := by simpa using h
    have hne : n ≠ f := by
      intro e
      subst e
      exact (List.nodup_cons.mp nd).1 (List.mem_iff_getElem?.mpr ⟨k, h1'⟩)
    rw [List.zip_cons_cons, List.set_cons_succ, List.zip_cons_cons, ← putF_old (List.nodup_cons.mp nd).2 h1' (by simpa using hk), putF_ne hne]

/-- an instance that is seen -/
theorem RV.obj {G : Gx} {H M : Hp} {v : V} {c : Nat} {ds : List D} (sm : Same M H) (h : RV G H M v (.obj c ds)) : ∃ a dx xs, v = .ref a ∧ H a = some (.ins (G.cls c) dx ((G.flds c).zip xs)) ∧ H dx = some (.own a) ∧ RDs G M xs ds ∧ ds.length ≤ (G.flds c).length := by
  cases h with
  | fr h => cases h with
    | obj h h2 r l => exact ⟨_, _, _, rfl, sm _ _ h, sm _ _ h2, r, l⟩
  | ob h h2 r l => exact ⟨_, _, _, rfl, h, h2, r, l⟩

/-! o.f -/
def gFld (tb : List (Nat × Nat)) : List D → Option O
  | [.obj c ds] => (tb.lookup c).bind fun k => (ds[k]?).map .fr
  | _ => none
theorem de_fld {G : Gx} {X : Cx} {W : WX} {e : Expr} {f : Str} {o : Opd} {tb : List (Nat × Nat)} {pos : Pos} (h : DOp G X W e o) (ht : ∀ c k, (c, k) ∈ tb → ClsOk G c ∧ (G.flds c)[k]? = some f) (hK : X.K = G.K := by rfl)
    (hb : attributeBase e f X.env (eval e X.env) = eval e X.env := by rfl) : DE G X W (.Attribute e f pos) (opN [o] (gFld tb)) := by
  obtain ⟨t, p, q⟩ := opd_run h
  have z : VOp G (rL1 fun x H1 Q => ∃ a C dx fs v, x = .ref a ∧ H1 a = some (.ins C dx fs) ∧ Cls X.K C ∧ NoAttr X.K C f ∧ fs.lookup f = some v ∧ Q v H1) (gFld tb) := by
    intro vs ds H M o Q sm rv e k
    unfold gFld at e
    split at e
    · rename_i c xs
      cases hl : tb.lookup c with
      | none => rw [hl] at e; cases e
      | some j =>
        rw [hl] at e
        simp only [Option.bind_some] at e
        cases hx : xs[j]? with
        | none => rw [hx] at e; cases e
        | some d =>
          rw [hx] at e
          cases e
          obtain ⟨v, rfl, r1⟩ := rvs1 rv
          obtain ⟨a, dx, ys, rfl, hH, hd, rx, lx⟩ := r1.obj sm
          have hmem : ∀ {tb : List (Nat × Nat)}, tb.lookup c = some j → (c, j) ∈ tb := by
            intro tb
            induction tb with
            | nil => intro h; simp at h
            | cons p tb ih =>
              intro h
              obtain ⟨p1, p2⟩ := p
              rw [List.lookup_cons] at h
              split at h
              · rename_i hb
                cases h
                have : c = p1 := by simpa using hb
                subst this
                exact List.mem_cons_self
              · exact List.mem_cons_of_mem _ (ih h)
          obtain ⟨ck, hf⟩ := ht c j (hmem hl)
          obtain ⟨w', ew, rw'⟩ := rx.get hx
          exact ⟨a, _, dx, _, w', rfl, hH, by rw [hK]; exact ck.cl, by rw [hK]; exact ck.na f (List.mem_iff_getElem?.mpr ⟨j, hf⟩), zip_lookup ck.nd hf ew, VOp.flat sm rw' k⟩
    · cases e
  exact ⟨_, pe_fld p hb, es_opN (oss_cons q oss_nil) z⟩

/-! o.f = e, o an owned instance in a slot -/
def gFldSet (i c k : Nat) (f : Ev) : Sv := fun ρ => match f ρ with
  | .ok o ρ1 => (match ρ1[i]? with
    | some (some (.ob c' ds)) => if c' = c then (if k = ds.length then .nx (ρ1.set i (some (.ob c (ds ++ [frO o])))) else if k < ds.length then .nx (ρ1.set i (some (.ob c (ds.set k (frO o))))) else .st) else .st
    | _ => .st)
  | .er x ρ1 => .er x ρ1
  | .st => .st
theorem ds_fldset {G : Gx} {X : Cx} {W : WX} {P : List Bool} {o value : Expr} {f : Str} {i c k : Nat} {fv : Ev} {pos pos' : Pos} (ho : PE X o (tVar i)) (hv : DE G X W value fv) (ck : ClsOk G c) (hf : (G.flds c)[k]? = some f) (hK : X.K = G.K := by rfl)
    (hs : swapsWith value (some (.Attribute o f pos')) pos.line X.env = pure false := by rfl) : DS G X W P (.Assign [.Attribute o f pos'] value pos) (gFldSet i c k fv) := by
  obtain ⟨t, p, q⟩ := hv.ex
  refine ⟨_, ps_fld ho p hs, fun σ H M ρ F DE w s hn kk => ?_⟩
  unfold gFldSet at hn kk
  show t σ H _
  refine q σ H M ρ F _ w s (fun e => hn (by rw [e])) (fun od ρ1 e1 y H1 M1 Fo F1 st1 ro1 s1 => ?_) (fun x ρ1 e cls dd H' M' F' st rx sr => ?_)
  · rw [e1] at hn kk
    simp only at hn kk
    split at hn
    · rename_i c' ds e2
      simp only [e2] at kk
      split at hn
      · rename_i hc
        subst hc
        simp only [if_true] at kk
        obtain ⟨M2, rd, st2⟩ := ro1.freeze st1.wf
        have s2 := s1.mono st2.mm (keepOn_refl _ _)
        obtain ⟨v, Fa, Fb, ev, ro, s3, pm⟩ := s2.take e2
        cases ro with
        | ob h h2 r l =>
          rename_i a dx xs
          have w3 := st2.wf.perm pm
          have haF : a ∉ Fb := w3.disj a (by simp)
          have hm : M2 a = none := (w3.ow a (by simp)).1
          have hi : i < ρ1.length := (List.getElem?_eq_some_iff.mp e2).1
          have hdx : dx ≠ a := by
            have := (List.nodup_append.mp w3.nd).1
            have h3 := (List.nodup_cons.mp this).1
            intro z
            exact h3 (by simp [z])
          have hk : k < (G.flds c').length := (List.getElem?_eq_some_iff.mp hf).1
          have hlen : ((G.flds c').zip xs).length < 1000 := by
            have := ck.le
            simp
            omega
          have go : ∀ (xs' : List V) (ds' : List D), putF f y ((G.flds c').zip xs) = (G.flds c').zip xs' → RDs G M2 xs' ds' → ds'.length ≤ (G.flds c').length →
              ∃ F', Stp F H M (upd H1 a (.ins (G.cls c') dx (putF f y ((G.flds c').zip xs)))) M2 F' ∧ SR G (upd H1 a (.ins (G.cls c') dx (putF f y ((G.flds c').zip xs)))) M2 σ (ρ1.set i (some (.ob c' ds'))) F' := by
            intro xs' ds' ep r' l'
            have st3 : Stp ([a, dx] ++ Fb) H1 M2 (upd H1 a (.ins (G.cls c') dx (putF f y ((G.flds c').zip xs)))) M2 ([a, dx] ++ Fb) := by
              refine ⟨fun _ _ e => e, fun b x hb e => ?_, fun _ _ _ e => e, fun b hb => .inl hb, fun b x e => ?_, w3.nd, fun b hb => ⟨(w3.ow b hb).1, ?_⟩⟩
              · rw [upd_ne (show b ≠ a from fun z => hb (by simp [z]))]; exact e
              · rw [upd_ne (show b ≠ a from fun z => by rw [z, hm] at e; cases e)]; exact w3.sm b x e
              · by_cases hba : b = a
                · rw [hba, upd_same]; simp
                · rw [upd_ne hba]; exact (w3.ow b hb).2
            have s4 : SR G (upd H1 a (.ins (G.cls c') dx (putF f y ((G.flds c').zip xs)))) M2 σ (ρ1.set i none) Fb := s3.mono (fun _ _ e => e) fun b hb x e => by
              rw [upd_ne (show b ≠ a from fun z => haF (z ▸ hb))]; exact e
            have ro' : RO G (upd H1 a (.ins (G.cls c') dx (putF f y ((G.flds c').zip xs)))) M2 (.ref a) (.ob c' ds') [a, dx] := .ob (by rw [upd_same, ep]) (by rw [upd_ne hdx]; exact h2) r' l'
            obtain ⟨F2, s5, pm2⟩ := s4.put_same ro' (i := i) (by rw [List.getElem?_set_self hi]) ev
            rw [List.set_set] at s5
            exact ⟨F2, (((st1.trans st2).perm pm).trans st3).perm pm2.symm, s5⟩
          have close : ∀ (ds' : List D), (∀ F', Stp F H M (upd H1 a (.ins (G.cls c') dx (putF f y ((G.flds c').zip xs)))) M2 F' → SR G (upd H1 a (.ins (G.cls c') dx (putF f y ((G.flds c').zip xs)))) M2 σ (ρ1.set i (some (.ob c' ds'))) F' → DE.nx σ (upd H1 a (.ins (G.cls c') dx (putF f y ((G.flds c').zip xs))))) →
              (∃ F', Stp F H M (upd H1 a (.ins (G.cls c') dx (putF f y ((G.flds c').zip xs)))) M2 F' ∧ SR G (upd H1 a (.ins (G.cls c') dx (putF f y ((G.flds c').zip xs)))) M2 σ (ρ1.set i (some (.ob c' ds'))) F') →
              ∃ v, σ[i]? = some (some v) ∧ (∃ a C dx fs, v = .ref a ∧ H1 a = some (.ins C dx fs) ∧ Cls X.K C ∧ NoAttr X.K C f ∧ fs.length < 1000 ∧ DE.nx σ (upd H1 a (.ins C dx (putF f y fs)))) := by
            intro ds' hnx ⟨F', z1, z2⟩
            exact ⟨.ref a, ev, a, _, dx, _, rfl, h, by rw [hK]; exact ck.cl, by rw [hK]; exact ck.na f (List.mem_iff_getElem?.mpr ⟨k, hf⟩), hlen, hnx F' z1 z2⟩
          split at hn
          · rename_i hkl
            simp only [if_pos hkl] at kk
            refine close _ (fun F' z1 z2 => kk.nx _ rfl σ _ M2 F' z1 z2 .refl) (go (xs ++ [y]) (ds ++ [frO od]) (putF_new ck.nd (by rw [r.length, ← hkl]; exact hf)) (r.append (.cons rd .nil)) (by simp; omega))
          · rename_i hkl
            split at hn
            · rename_i hkl2
              simp only [if_neg hkl, if_pos hkl2] at kk
              refine close _ (fun F' z1 z2 => kk.nx _ rfl σ _ M2 F' z1 z2 .refl) (go (xs.set k y) (ds.set k (frO od)) (putF_old ck.nd hf (by rw [r.length]; exact hkl2)) (r.set rd k) (by simpa using l))
            · exact absurd rfl hn
      · exact absurd rfl hn
    · exact absurd rfl hn
  · rw [e] at kk; exact kk.er x ρ1 rfl cls dd σ H' M' F' st rx sr .refl

/-! C(..) -/
def evMk (c : Nat) (sem : Fsem) (as : List Arg) : Ev := fun ρ => (runA as ρ).bind fun rs ρ1 => match sem (.ob c [] :: rs) with
  | .ok (.fr .non) (some o :: _) => .ok o ρ1
  | .er x => .er x ρ1
  | _ => .st
/-- a class of the text that is made by its __init__ -/
structure MkOk (P : Program) (w : World) (G : Gx) (mg : Str → Option Value) (base : Heap) (k : Nat) (x : Str) (c n : Nat) (sem : Fsem) : Prop where
  ex : ∃ f fd ps, mg x = some (.ref (G.cls c)) ∧ Mk G.K (G.cls c) f ∧ Binds G.K fd ps [] ∧ FnOk P w G.K mg base (L2.CX P w) k f fd ps (spOf G n sem)
theorem run_makeS {X : Cx} {CX : CXT} {k : Nat} {f C : Addr} {fd : FuncData} {ps : List Str} {sp : Sp} {E : XK} {pins : List (Addr × Obj)} {σ : L2.St} {H : Hp} {s : Shared} {Q : VK} {us : List Value} {vs : List V}
    (Mk' : Mk X.K C f) (Fk : FnOk X.prog X.w X.K X.mg X.base CX k f fd ps sp) (room : Room (k + 1) X.A) (bnd : Binds X.K fd ps []) (out : PassesAt CX X σ E) (I : Inv X pins σ H s) (rv : Vals vs us)
    (want : ∀ x dx, H x = none → H dx = none → dx ≠ x → sp (.ref x :: vs) (upd (upd H dx (.own x)) x (.ins C dx [])) (fun v H2 => v = .non ∧ Q (.ref x) H2) E) :
    wpAny (model X.prog X.w) X.A (call (.ref C) us) (EP X pins σ Q) X.xe s := by
  have asked := want (s.heap.objs.size + 1) s.heap.objs.size (I.hok.fresh (Nat.le_succ _)) (I.hok.fresh (Nat.le_refl _)) (Nat.ne_of_lt (Nat.lt_succ_self _))
  have J := Inv.made (C := C) I
  have both : Vals (V.ref (s.heap.objs.size + 1) :: vs) (Value.ref (s.heap.objs.size + 1) :: us) := .cons rfl rv
  have len : (Value.ref (s.heap.objs.size + 1) :: us).length = ps.length := by rw [← both.length]; exact Fk.len _ _ _ _ asked
  have bd := bnd _ (Value.ref (s.heap.objs.size + 1) :: us) J.kIn (by rw [List.append_nil]; exact len)
  rw [List.append_nil] at bd
  have ran := Fk.run _ X.stack _ _ ⟨Value.ref (s.heap.objs.size + 1) :: us, []⟩ (Value.ref (s.heap.objs.size + 1) :: us) _ _ E (room.make C us []) (J.env0.make C us []) bd both asked
  refine wpAny_call (make_map (f := f) I.kIn Mk'.makes Mk'.init (beq_iff_eq.mp Mk'.fn) (codeAny_mono ran fun r s' q => ?_))
  cases r with
  | error e => exact out pins _ _ e s' J q
  | ok fl =>
    cases fl with
    | ret u =>
      obtain ⟨v, H', J', rr, ev, q'⟩ := J.after q
      cases ev
      exact ⟨rr, ⟨V.ref (s.heap.objs.size + 1), H', J', rfl, q'⟩⟩
    | next => exact False.elim q
    | brk => exact False.elim q
    | cont => exact False.elim q
def tMakeS (C : Addr) (sp : Sp) (E : L2.St → XK) (t : TA) : TE := fun σ H Q => t σ H fun vs H1 => ∀ x dx, H1 x = none → H1 dx = none → dx ≠ x →
  sp (.ref x :: vs) (upd (upd H1 dx (.own x)) x (.ins C dx [])) (fun v H2 => v = .non ∧ Q (.ref x) H2) (E σ)
theorem pe_makeS {X : Cx} {CX : CXT} {k : Nat} {f C : Addr} {fd : FuncData} {ps : List Str} {sp : Sp} {E : L2.St → XK} {x : Str} {p pos : Pos} {e : Expr} {es : List Expr} {t : TA} (Mk' : Mk X.K C f) (Fk : FnOk X.prog X.w X.K X.mg X.base CX k f fd ps sp) (room : Room (k + 1) X.A) (hg : Gl X x) (hm : X.mg x = some (.ref C)) (bnd : Binds X.K fd ps []) (out : ∀ σ, PassesAt CX X σ (E σ))
    (ha : PA X (e :: es) t) (hdb : (x == ("__debug__" : Str)) = false) (he : starEach (e :: es) X.env = (false, eval e X.env) :: starEach es X.env) (hpl : (backTo pos (starEach es X.env)).any (·.1) = false) :
    PE X (.Call (.Name x p) (e :: es) [] pos) (tMakeS C sp E t) :=
  ⟨fun pins s σ H Q I h => wpAny_Call_Name_kw (ld_glob I hg hm (PySem.W.callWith_K (h₀ := X.base) I.ok.mod.kin Mk'.kp (thn (ha.run pos pins s σ H _ I h) fun us s1 ⟨vs, H1, I1, r, q⟩ => ⟨I1.kIn, run_makeS Mk' Fk room bnd (out σ) I1 r q⟩) he hpl) hdb)⟩
theorem es_mk {G : Gx} {W : WX} {as : List Arg} {n c : Nat} {t : TA} {sem : Fsem} (h : ASs G W as t) (hl : as.length + 1 = n) : ES G W (tMakeS (G.cls c) (spOf G n sem) (WE W) t) (evMk c sem as) := by
  intro σ H M ρ F Q w s hn hk he
  unfold evMk at hn hk he
  refine h σ H M ρ F _ w s (fun e => hn (by rw [e]; rfl)) (fun rs ρ1 e1 vs H1 M1 Fo F1 st1 hd1 io1 s1 => ?_) (fun x ρ1 e1 => he x ρ1 (by rw [e1]; rfl))
  rw [e1] at hn hk he
  simp only [R.bind_ok] at hn hk he
  have lv : ∀ {as : List Arg} {vs : List V}, IoOk σ as vs → vs.length = as.length := by
    intro as vs z
    induction z with
    | nil => rfl
    | cons _ _ ih => simp [ih]
  intro x dx hx hdx hne
  have hxd : x ≠ dx := Ne.symm hne
  have hx' : (upd H1 dx (.own x)) x = none := by rw [upd_ne hxd]; exact hx
  have p1 : Pst H1 M1 (upd H1 dx (.own x)) M1 := .newO st1.wf.sm hdx
  have p2 : Pst (upd H1 dx (.own x)) M1 (upd (upd H1 dx (.own x)) x (.ins (G.cls c) dx [])) M1 := .newO p1.mh hx'
  have ps := p1.trans p2
  have hmx : M1 x = none := st1.wf.sm.free hx
  have hmd : M1 dx = none := st1.wf.sm.free hdx
  have fr : Fresh H1 (upd (upd H1 dx (.own x)) x (.ins (G.cls c) dx [])) M1 [x, dx] := ⟨by simp [hxd], fun a ha => by
    have e' : a = x ∨ a = dx := by simpa using ha
    rcases e' with z | z
    · rw [z]; exact ⟨hx, by rw [upd_same]; simp, hmx⟩
    · rw [z]; exact ⟨hdx, by rw [upd_ne hne, upd_same]; simp, hmd⟩⟩
  have st2 := ps.grow fr st1.wf
  have ro0 : RO G (upd (upd H1 dx (.own x)) x (.ins (G.cls c) dx [])) M1 (.ref x) (.ob c []) [x, dx] := .ob (by rw [upd_same, List.zip_nil_right]) (by rw [upd_ne hne, upd_same]) .nil (Nat.zero_le _)
  have ros : ROs G (upd (upd H1 dx (.own x)) x (.ins (G.cls c) dx [])) M1 (.ref x :: vs) (.ob c [] :: rs) ([x, dx] ++ Fo) := .cons ro0 (hd1.mono ps.mm fun a ha x e => ps.hh a x e)
  have w2 : Wf M1 (upd (upd H1 dx (.own x)) x (.ins (G.cls c) dx [])) (([x, dx] ++ Fo) ++ F1) := by rw [List.append_assoc]; exact st2.wf
  have s2 : SR G (upd (upd H1 dx (.own x)) x (.ins (G.cls c) dx [])) M1 σ ρ1 F1 := s1.mono ps.mm fun a ha x e => ps.hh a x e
  have st2' : Stp F H M (upd (upd H1 dx (.own x)) x (.ins (G.cls c) dx [])) M1 (([x, dx] ++ Fo) ++ F1) := by rw [List.append_assoc]; exact st1.trans st2
  refine ⟨by simp [lv io1, hl], M1, _, _, w2.left, ros, fun e => hn (by rw [e]), fun r outs e2 v H3 M3 Fr Fu st3 ro ou => ?_, fun x e2 cls dd H3 M3 st3 rx => ?_⟩
  · rw [e2] at hn hk
    cases r with
    | fr d =>
      cases d with
      | non =>
        cases outs with
        | nil => exact absurd rfl hn
        | cons u outs =>
          cases u with
          | none => exact absurd rfl hn
          | some o =>
            simp only at hk
            cases ro with
            | fr hrd =>
              cases hrd
              refine ⟨rfl, ?_⟩
              cases ou with
              | so hro ht =>
                have st4 := st3.frame (T := F1) w2
                have s4 : SR G H3 M3 σ ρ1 F1 := s2.mono st3.mm (st3.keepOn w2.disj')
                refine hk o ρ1 rfl _ H3 M3 _ F1 ((st2'.trans st4).sub ?_ fun a ha => ?_) hro s4
                · have nd := st4.wf.nd
                  rw [List.nil_append, List.append_assoc] at nd
                  refine List.nodup_append.mpr ⟨(List.nodup_append.mp nd).1, (List.nodup_append.mp (List.nodup_append.mp nd).2.1).2.1, fun a ha b hb e => (List.nodup_append.mp nd).2.2 a ha b (List.mem_append_right _ hb) e⟩
                · rw [List.nil_append]
                  rcases List.mem_append.mp ha with h1 | h1
                  · exact List.mem_append_left _ (List.mem_append_left _ h1)
                  · exact List.mem_append_right _ h1
      | _ => exact absurd rfl hn
    | _ => exact absurd rfl hn
  · rw [e2] at he
    have st4 := st3.frame (T := F1) w2
    have s4 : SR G H3 M3 σ ρ1 F1 := s2.mono st3.mm (st3.keepOn w2.disj')
    exact he x ρ1 rfl cls dd H3 M3 F1 (st2'.trans st4) rx s4
theorem de_mk {G : Gx} {X : Cx} {W : WX} {k n c : Nat} {x : Str} {p pos : Pos} {e : Expr} {es : List Expr} {as : List Arg} {sem : Fsem} (F : MkOk X.prog X.w G X.mg X.base k x c n sem) (hr : Room (k + 1) X.A) (tk : Takes X W) (ha : DAs G X W (e :: es) as) (hl : as.length + 1 = n)
    (hg : Gl X x := by rfl) (hK : X.K = G.K := by rfl) (hdb : (x == ("__debug__" : Str)) = false := by decide) (he : starEach (e :: es) X.env = (false, eval e X.env) :: starEach es X.env := by rfl) (hpl : (backTo pos (starEach es X.env)).any (·.1) = false := by rfl) :
    DE G X W (.Call (.Name x p) (e :: es) [] pos) (evMk c sem as) := by
  obtain ⟨f, fd, ps, h1, h2, h3, h4⟩ := F.ex
  obtain ⟨t, pt, q⟩ := ha.ex
  rw [← hK] at h2 h3 h4
  exact ⟨_, pe_makeS h2 h4 hr hg h1 h3 (fun σ => passAt tk σ) pt hdb he hpl, es_mk q hl⟩

/-! ### isinstance -/
inductive Kind where
  | non | bl | int | str | tup | lst | dct | obj (c : Nat)
  deriving DecidableEq
def D.kind : D → Option Kind
  | .non => some .non
  | .bl _ => some .bl
  | .int _ => some .int
  | .str _ => some .str
  | .tup _ => some .tup
  | .lst _ => some .lst
  | .scr _ => none
  | .obj c _ => some (.obj c)
  | .dct _ _ => some .dct
  | .fn _ => none
  | .junk => none
def Kind.ty (G : Gx) : Kind → Value
  | .non => .type "NoneType"
  | .bl => .type "bool"
  | .int => .type "int"
  | .str => .type "str"
  | .tup => .type "tuple"
  | .lst => .type "list"
  | .dct => .type "dict"
  | .obj c => .ref (G.cls c)
theorem RV.tyx {G : Gx} {H M : Hp} {v : V} {d : D} {k : Kind} (sm : Same M H) (r : RV G H M v d) (e : d.kind = some k) (hc : ∀ c, k = .obj c → ClsOk G c) : TyX G.K H v (k.ty G) := by
  cases r with
  | fr h =>
    cases h with
    | non => cases e; exact .base .non
    | bl b => cases e; exact .base (.bl b)
    | int i => cases e; exact .base (.int i)
    | str x _ => cases e; exact .base (.str x)
    | tup h r l =>
      cases e
      rcases h with (h | ⟨o, h⟩) | ⟨o, its, n, hk, hcl, _⟩
      · exact .base (.tup (sm _ _ h))
      · exact .fTuple (sm _ _ h)
      · exact .kTuple hk hcl
    | lst h r l => cases e; exact .base (.lst (sm _ _ h))
    | scr h r l => cases e
    | obj h h2 r l =>
      cases e
      have ck := hc _ rfl
      exact .base (.ins (sm _ _ h) ck.cl ck.ha ck.hn ck.ht ck.hm)
    | dct h hk r l => cases e; exact .base (.dK (sm _ _ h))
    | junk _ => cases e
  | ls h r l => cases e; exact .base (.lst h)
  | dc h hk r l => cases e; exact .base (.dK h)
  | ob h h2 r l =>
    cases e
    have ck := hc _ rfl
    exact .base (.ins h ck.cl ck.ha ck.hn ck.ht ck.hm)
/-- the answers of isinstance for one class, by kind -/
abbrev IsiT := List (Kind × Bool)
def isiT (tb : IsiT) (d : D) : Option Bool := d.kind.bind fun k => tb.lookup k
structure IsiOk (G : Gx) (u : Value) (tb : IsiT) : Prop where
  kit : ∀ k b, tb.lookup k = some b → PySem.W.kitOne G.K (k.ty G) u = some b
  cls : ∀ c b, tb.lookup (.obj c) = some b → ClsOk G c
def gIsi (tb : IsiT) : List D → Option O
  | [d] => (isiT tb d).map fun b => .fr (.bl b)
  | _ => none
theorem de_isi {G : Gx} {X : Cx} {W : WX} {e ce : Expr} {o : Opd} {c : V} {u : Value} {tb : IsiT} {p pos : Pos} (hm : X.mg "isinstance" = none) (h : DOp G X W e o) (hce : PE X ce (tC c)) (hu : ClsV c u) (ht : IsiOk G u tb) (hK : X.K = G.K := by rfl) (hg : Gl X "isinstance" := by rfl)
    (he : starEach [e, ce] X.env = (false, eval e X.env) :: starEach [ce] X.env := by rfl) (he2 : starEach [ce] X.env = (false, eval ce X.env) :: starEach [] X.env := by rfl) (hpl : (backTo pos (starEach [ce] X.env)).any (·.1) = false := by rfl) :
    DE G X W (.Call (.Name "isinstance" p) [e, ce] [] pos) (opN [o] (gIsi tb)) := by
  obtain ⟨t, pt, q⟩ := opd_run h
  have z : VOp G (rL1 fun x H Q => rIsi X.K [x, c] H Q) (gIsi tb) := by
    intro vs ds H M o Q sm rv e k
    unfold gIsi at e
    split at e
    · rename_i d
      unfold isiT at e
      cases hk : d.kind with
      | none => rw [hk] at e; cases e
      | some kd =>
        rw [hk] at e
        simp only [Option.bind_some] at e
        cases hl : tb.lookup kd with
        | none => rw [hl] at e; cases e
        | some b =>
          rw [hl] at e
          cases e
          obtain ⟨v, rfl, r1⟩ := rvs1 rv
          exact ⟨v, c, _, u, b, rfl, hu, by rw [hK]; exact r1.tyx sm hk fun c' ec => ht.cls c' b (by rw [← ec]; exact hl), by rw [hK]; exact ht.kit kd b hl, VOp.flat sm (.bl _) k⟩
    · cases e
  have y := es_opN (oss_cons q oss_nil) z
  exact ⟨_, pe_callB call_isi hg hm (by decide +kernel) (pa_cons pt (pa_cons hce pa_nil he2) he) (by decide) (by decide) he hpl, y⟩
/-- isinstance(x, (C1, C2)) -/
theorem de_isi2 {G : Gx} {X : Cx} {W : WX} {e ce1 ce2 : Expr} {o : Opd} {c1 c2 : V} {u1 u2 : Value} {tb : IsiT} {p pos tpos : Pos} {tk : Nat} (hm : X.mg "isinstance" = none) (h : DOp G X W e o) (hce1 : PE X ce1 (tC c1)) (hce2 : PE X ce2 (tC c2)) (hu1 : ClsV c1 u1) (hu2 : ClsV c2 u2)
    (ht : ∀ k b, tb.lookup k = some b → PySem.W.kitAny G.K (k.ty G) [u1, u2] = some b) (hc : ∀ c b, tb.lookup (.obj c) = some b → ClsOk G c) (hK : X.K = G.K := by rfl) (hg : Gl X "isinstance" := by rfl)
    (he : starEach [e, .Tuple [ce1, ce2] tk tpos] X.env = (false, eval e X.env) :: starEach [.Tuple [ce1, ce2] tk tpos] X.env := by rfl) (he2 : starEach [.Tuple [ce1, ce2] tk tpos] X.env = (false, eval (.Tuple [ce1, ce2] tk tpos) X.env) :: starEach [] X.env := by rfl)
    (he3 : starEach [ce1, ce2] X.env = (false, eval ce1 X.env) :: starEach [ce2] X.env := by rfl) (he4 : starEach [ce2] X.env = (false, eval ce2 X.env) :: starEach [] X.env := by rfl) (hpl : (backTo pos (starEach [.Tuple [ce1, ce2] tk tpos] X.env)).any (·.1) = false := by rfl) :
    DE G X W (.Call (.Name "isinstance" p) [e, .Tuple [ce1, ce2] tk tpos] [] pos) (opN [o] (gIsi tb)) := by
  obtain ⟨t, pt, q⟩ := opd_run h
  have z : VOp G (rL1 fun x H Q => [c1, c2].length ≤ sizeLine ∧ ∀ p, H p = none → rIsiT X.K [x, .ref p] (upd H p (.tup [c1, c2])) Q) (gIsi tb) := by
    intro vs ds H M o Q sm rv e k
    unfold gIsi at e
    split at e
    · rename_i d
      unfold isiT at e
      cases hk : d.kind with
      | none => rw [hk] at e; cases e
      | some kd =>
        rw [hk] at e
        simp only [Option.bind_some] at e
        cases hl : tb.lookup kd with
        | none => rw [hl] at e; cases e
        | some b =>
          rw [hl] at e
          cases e
          obtain ⟨v, rfl, r1⟩ := rvs1 rv
          refine ⟨by show 2 ≤ sizeLine; decide, fun p hp => ?_⟩
          have ps : Pst H M (upd H p (.tup [c1, c2])) M := .newO sm hp
          have ty := (r1.mono ps.hh ps.mm).tyx ps.mh hk fun c' ec => hc c' b (by rw [← ec]; exact hl)
          exact ⟨v, p, [c1, c2], _, [u1, u2], b, rfl, upd_same, .cons hu1 (.cons hu2 .nil), by rw [hK]; exact ty, by rw [hK]; exact ht kd b hl, k _ _ M [] ps (.fr (.bl b)) .nil⟩
    · cases e
  have y := es_opN (oss_cons q oss_nil) z
  exact ⟨_, pe_callB call_isiT hg hm (by decide +kernel) (pa_cons pt (pa_cons (pe_tup (pa_cons hce1 (pa_cons hce2 pa_nil he4) he3)) pa_nil he2) he) (by decide) (by decide) he hpl, y⟩

/-! ### membership -/
def D.flat : D → Bool
  | .non => true
  | .bl _ => true
  | .int _ => true
  | .str _ => true
  | _ => false
def eqFlat : D → D → Bool
  | .non, .non => true
  | .bl a, .bl b => a == b
  | .bl a, .int b => (if a then 1 else 0) == b
  | .int a, .bl b => a == (if b then 1 else 0)
  | .int a, .int b => a == b
  | .str a, .str b => a == b
  | _, _ => false
theorem RV.flatV {G : Gx} {H M : Hp} {v : V} {d : D} (r : RV G H M v d) (h : d.flat = true) : L2.flatV v = true := by
  cases r with
  | fr h' => cases h' <;> first | rfl | cases h
  | ls _ _ _ => cases h
  | dc _ _ _ _ => cases h
  | ob _ _ _ _ => cases h
theorem RDs.flatV {G : Gx} {M : Hp} : ∀ {vs : List V} {ds : List D}, RDs G M vs ds → ds.all D.flat = true → vs.all L2.flatV = true
  | _, _, .nil, _ => rfl
  | _, _, .cons h t, e => by
    rw [List.all_cons, Bool.and_eq_true] at e ⊢
    exact ⟨(RV.fr (H := fun _ => none) h).flatV e.1, t.flatV e.2⟩
theorem eqV_flat {G : Gx} {H M : Hp} {v w : V} {d e : D} (r : RV G H M v d) (q : RD G M w e) (h : d.flat = true) (h2 : e.flat = true) : eqV w v = eqFlat e d := by
  cases r with
  | fr h' =>
    cases h' <;> first
      | (cases q <;> first | rfl | (cases h2; done) | (cases h; done))
      | cases h
  | ls _ _ _ => cases h
  | dc _ _ _ _ => cases h
  | ob _ _ _ _ => cases h
theorem inV_flat {G : Gx} {H M : Hp} {v : V} {d : D} (r : RV G H M v d) (h : d.flat = true) : ∀ {vs : List V} {ds : List D}, RDs G M vs ds → ds.all D.flat = true → inV v vs = ds.any fun e => eqFlat e d
  | _, _, .nil, _ => rfl
  | _, _, .cons q t, e => by
    rw [List.all_cons, Bool.and_eq_true] at e
    unfold inV
    rw [List.any_cons, List.any_cons, eqV_flat r q h e.1]
    congr 1
    exact inV_flat r h t e.2
/-- x in xs -/
def inD (x : D) (xs : List D) (isl : Bool) : Option Bool :=
  if x.flat && xs.all D.flat then some (xs.any fun e => eqFlat e x)
  else if isl then (match x.pys?, (D.lst xs).pys? with
    | some p, some (.list ps) => some (ps.any fun z => PyData.eqv z p)
    | _, _ => none)
  else none
def gIn (neg : Bool) : List D → Option O
  | [x, .lst xs] => (inD x xs true).map fun b => .fr (.bl (if neg then !b else b))
  | [x, .tup xs] => (inD x xs false).map fun b => .fr (.bl (if neg then !b else b))
  | _ => none
theorem vo_in {G : Gx} {K : PySem.W.Frag} (hK : K = G.K) (neg : Bool) {rd : R2} (hrd : ∀ x y H Q, (∃ d ds, Dp K H x d ∧ Dp K H y (.list ds) ∧ SeqAt.shaped d = true ∧ SeqAt.shaped (.list ds) = true ∧ Q (.bl (if neg then !(ds.any fun z => PyData.eqv z d) else ds.any fun z => PyData.eqv z d)) H) → rd x y H Q) :
    VOp G (rL2 fun x y H Q => rIn K neg x y H Q ∨ rd x y H Q) (gIn neg) := by
  intro vs ds H M o Q sm rv e k
  unfold gIn at e
  split at e
  · rename_i x xs
    cases hi : inD x xs true with
    | none => rw [hi] at e; cases e
    | some b =>
      rw [hi] at e
      cases e
      obtain ⟨v, w, rfl, r1, r2⟩ := rvs2 rv
      obtain ⟨a, ys, rfl, hx, rx, lx⟩ := r2.list sm
      unfold inD at hi
      split at hi
      · rename_i hf
        rw [Bool.and_eq_true] at hf
        cases hi
        refine .inl ⟨a, ys, rfl, .inl (.inl (.inl hx)), r1.flatV hf.1, rx.flatV hf.2, ?_⟩
        rw [inV_flat r1 hf.1 rx hf.2]
        exact VOp.flat sm (.bl _) k
      · simp only [if_true] at hi
        split at hi
        · rename_i p ps e1 e2
          cases hi
          obtain ⟨a1, a2⟩ := pys?_of e1
          obtain ⟨b1, b2⟩ := pys?_of e2
          refine .inr (hrd _ _ _ _ ⟨p, ps, by rw [hK]; exact r1.dp sm a1, by rw [hK]; exact r2.dp sm b1, a2, b2, VOp.flat sm (.bl _) k⟩)
        · cases hi
  · rename_i x xs
    cases hi : inD x xs false with
    | none => rw [hi] at e; cases e
    | some b =>
      rw [hi] at e
      cases e
      obtain ⟨v, w, rfl, r1, r2⟩ := rvs2 rv
      obtain ⟨a, ys, rfl, hx, hxm, rx, lx⟩ := r2.tuple sm
      unfold inD at hi
      split at hi
      · rename_i hf
        rw [Bool.and_eq_true] at hf
        cases hi
        refine .inl ⟨a, ys, rfl, .inr (by rw [hK]; exact hx), r1.flatV hf.1, rx.flatV hf.2, ?_⟩
        rw [inV_flat r1 hf.1 rx hf.2]
        exact VOp.flat sm (.bl _) k
      · simp at hi
  · cases e
section
variable {G : Gx} {X : Cx} {W : WX} {a b : Expr} {o1 o2 : Opd} {pos : Pos}
theorem inD_op (hu : X.A.units + 65 < cLine) : OpR X (compareOp .In) (fun x y H Q => rIn X.K false x y H Q ∨ rInD X.K x y H Q) := OpR.or op_in_seq (op_inD hu)
theorem notInD_op (hu : X.A.units + 65 < cLine) : OpR X (compareOp .NotIn) (fun x y H Q => rIn X.K true x y H Q ∨ rNotInD X.K x y H Q) := OpR.or op_notIn_seq (op_notInD hu)
theorem room65 {k : Nat} (hr : Room k X.A) : X.A.units + 65 < cLine := by have := hr.un; omega
theorem de_in (hr : X.A.units + 65 < cLine) (h1 : DOp G X W a o1) (h2 : DOp G X W b o2) (hK : X.K = G.K := by rfl) (hm : behindInMarks .In b = false := by first | rfl | exact nomark _) : DE G X W (.Compare a [.In] [b] pos) (opN [o1, o2] (gIn false)) :=
  de_cmp (inD_op hr) (vo_in hK false fun x y H Q h => h) h1 h2 hm
theorem dt_in (hr : X.A.units + 65 < cLine) (h1 : DOp G X W a o1) (h2 : DOp G X W b o2) (hK : X.K = G.K := by rfl) (hm : behindInMarks .In b = false := by first | rfl | exact nomark _) : DT G X W (.Compare a [.In] [b] pos) (etB (opN [o1, o2] (gIn false))) :=
  dt_cmp (inD_op hr) (vo_in hK false fun x y H Q h => h) h1 h2 hm
theorem de_notin (hr : X.A.units + 65 < cLine) (h1 : DOp G X W a o1) (h2 : DOp G X W b o2) (hK : X.K = G.K := by rfl) (hm : behindInMarks .NotIn b = false := by first | rfl | exact nomark _) : DE G X W (.Compare a [.NotIn] [b] pos) (opN [o1, o2] (gIn true)) :=
  de_cmp (notInD_op hr) (vo_in hK true fun x y H Q h => h) h1 h2 hm
theorem dt_notin (hr : X.A.units + 65 < cLine) (h1 : DOp G X W a o1) (h2 : DOp G X W b o2) (hK : X.K = G.K := by rfl) (hm : behindInMarks .NotIn b = false := by first | rfl | exact nomark _) : DT G X W (.Compare a [.NotIn] [b] pos) (etB (opN [o1, o2] (gIn true))) :=
  dt_cmp (notInD_op hr) (vo_in hK true fun x y H Q h => h) h1 h2 hm
end
end PV

set_option Elab.async false
set_option linter.all false
set_option maxRecDepth 100000
/-! PV: own exceptions raised and caught -/
namespace PV
open PySem PySem.Spec PyProof.Rows L2

def Gx.at (G : Gx) (a : Addr) : Gx := { G with ex := some a }
mutual
theorem RD.at {G : Gx} {M : Hp} {b : Addr} : ∀ {v : V} {d : D}, RD G M v d → RD (G.at b) M v d
  | _, _, .non => .non
  | _, _, .bl b => .bl b
  | _, _, .int i => .int i
  | _, _, .str x h => .str x h
  | _, _, .tup h r l => .tup h r.at l
  | _, _, .lst h r l => .lst h r.at l
  | _, _, .scr h r l => .scr h r.at l
  | _, _, .obj h h2 r l => .obj h h2 r.at l
  | _, _, .dct h hk r l => .dct h hk r.at l
  | _, _, .junk v => .junk v
theorem RDs.at {G : Gx} {M : Hp} {b : Addr} : ∀ {vs : List V} {ds : List D}, RDs G M vs ds → RDs (G.at b) M vs ds
  | _, _, .nil => .nil
  | _, _, .cons h t => .cons h.at t.at
end
mutual
theorem RD.un {G : Gx} {M : Hp} {b : Addr} : ∀ {v : V} {d : D}, RD (G.at b) M v d → RD G M v d
  | _, _, .non => .non
  | _, _, .bl b => .bl b
  | _, _, .int i => .int i
  | _, _, .str x h => .str x h
  | _, _, .tup h r l => .tup h r.un l
  | _, _, .lst h r l => .lst h r.un l
  | _, _, .scr h r l => .scr h r.un l
  | _, _, .obj h h2 r l => .obj h h2 r.un l
  | _, _, .dct h hk r l => .dct h hk r.un l
  | _, _, .junk v => .junk v
theorem RDs.un {G : Gx} {M : Hp} {b : Addr} : ∀ {vs : List V} {ds : List D}, RDs (G.at b) M vs ds → RDs G M vs ds
  | _, _, .nil => .nil
  | _, _, .cons h t => .cons h.un t.un
end
mutual
def O.noEx : O → Bool
  | .fr _ => true
  | .ls _ => true
  | .ll xs => O.noExs xs
  | .dc _ _ => true
  | .ob _ _ => true
  | .tp xs => O.noExs xs
  | .ex => false
def O.noExs : List O → Bool
  | [] => true
  | x :: xs => x.noEx && O.noExs xs
end
mutual
theorem RO.at {G : Gx} {H M : Hp} {b : Addr} (hn : G.ex = none) : ∀ {v : V} {o : O} {F : List Addr}, RO G H M v o F → RO (G.at b) H M v o F
  | _, _, _, .fr h => .fr h.at
  | _, _, _, .ls h r l => .ls h r.at l
  | _, _, _, .ll h r l => .ll h (r.at hn) l
  | _, _, _, .dc h hk r l => .dc h hk r.at l
  | _, _, _, .ob h h2 r l => .ob h h2 r.at l
  | _, _, _, .tp h r l => .tp h (r.at hn) l
  | _, _, _, .ex h => by rw [hn] at h; cases h
theorem ROs.at {G : Gx} {H M : Hp} {b : Addr} (hn : G.ex = none) : ∀ {vs : List V} {os : List O} {F : List Addr}, ROs G H M vs os F → ROs (G.at b) H M vs os F
  | _, _, _, .nil => .nil
  | _, _, _, .cons h t => .cons (h.at hn) (t.at hn)
end
mutual
theorem RO.un {G : Gx} {H M : Hp} {b : Addr} : ∀ {v : V} {o : O} {F : List Addr}, o.noEx = true → RO (G.at b) H M v o F → RO G H M v o F
  | _, _, _, _, .fr h => .fr h.un
  | _, _, _, _, .ls h r l => .ls h r.un l
  | _, _, _, e, .ll h r l => .ll h (ROs.un (by unfold O.noEx at e; exact e) r) l
  | _, _, _, _, .dc h hk r l => .dc h hk r.un l
  | _, _, _, _, .ob h h2 r l => .ob h h2 r.un l
  | _, _, _, e, .tp h r l => .tp h (ROs.un (by unfold O.noEx at e; exact e) r) l
  | _, _, _, e, .ex h => by unfold O.noEx at e; cases e
theorem ROs.un {G : Gx} {H M : Hp} {b : Addr} : ∀ {vs : List V} {os : List O} {F : List Addr}, O.noExs os = true → ROs (G.at b) H M vs os F → ROs G H M vs os F
  | _, _, _, _, .nil => .nil
  | _, _, _, e, .cons h t => by
    unfold O.noExs at e
    rw [Bool.and_eq_true] at e
    exact .cons (RO.un e.1 h) (ROs.un e.2 t)
end
def noExE : Env → Bool
  | [] => true
  | none :: ρ => noExE ρ
  | some o :: ρ => o.noEx && noExE ρ
theorem SR.at {G : Gx} {H M : Hp} {b : Addr} (hn : G.ex = none) : ∀ {σ : List (Option V)} {ρ : Env} {F : List Addr}, SR G H M σ ρ F → SR (G.at b) H M σ ρ F
  | _, _, _, .nil => .nil
  | _, _, _, .no t => .no (t.at hn)
  | _, _, _, .so h t => .so (h.at hn) (t.at hn)
theorem SR.un {G : Gx} {H M : Hp} {b : Addr} : ∀ {σ : List (Option V)} {ρ : Env} {F : List Addr}, noExE ρ = true → SR (G.at b) H M σ ρ F → SR G H M σ ρ F
  | _, _, _, _, .nil => .nil
  | _, _, _, e, .no t => .no (t.un e)
  | _, _, _, e, .so h t => by
    unfold noExE at e
    rw [Bool.and_eq_true] at e
    exact .so (RO.un e.1 h) (t.un e.2)
theorem SR.loose {G : Gx} {H M : Hp} (x : Option V) : ∀ {σ : List (Option V)} {ρ : Env} {F : List Addr} {i : Nat}, SR G H M σ ρ F → ρ[i]? = some none ∨ ρ[i]? = none → SR G H M (σ.set i x) ρ F
  | _, _, _, _, .nil, _ => .nil
  | _, _, _, 0, .no t, _ => .no t
  | _, _, _, i + 1, .no t, h => .no (t.loose x (i := i) (by simpa using h))
  | _, _, _, 0, .so q t, h => by simp at h
  | _, _, _, i + 1, .so q t, h => .so q (t.loose x (i := i) (by simpa using h))

/-! ### raise C() -/
section
variable {X : Cx} {C : Addr} {bmB : List Value} {B newId initId : String}
theorem pmk_own0 {x : Str} {p pos : Pos} (F : ExcBaseFacts B newId initId bmB) (q : PySem.W.excIn X.K C bmB newId = true) (gC : X.mg x = some (.ref C)) (kC : PySem.W.keepIn X.K (.ref C) = true) (r : Raises X (.ref C)) (hg : Gl X x)
    (hdb : (x == ("__debug__" : Str)) = false := by decide) : PMk X (.Call (.Name x p) [] [] pos) (fun _ H Q => Q (.ref C) none H) := by
  intro pins s σ H Q I h
  refine wpAny_Call_Name_kw (ld_glob I hg gC ?_ hdb)
  refine PySem.W.callWith_K0 I.kIn kC ?_
  obtain ⟨bm, N, nm, qn, bs, hdct, sn, sub, ab, col, dd, k0, k1, k2, k3, k5, mN, hC, hN, hni, T⟩ := exc_obj I.kIn q
  refine wpAny_call_exc_subT F T hC hN hni (fun h' e hm => ?_) (Nat.zero_le _)
  exact mk_of I hm r h (I.hok.gone hm.new)
end
structure ExcOk (G : Gx) (mg : Str → Option Value) (x : Str) (c : Nat) : Prop where
  g : mg x = some (.ref (G.exc c))
  q : PySem.W.excIn G.K (G.exc c) [.type "ValueError", .type "Exception", .type "BaseException", .type "object"] "ValueError.__new__" = true
  k : PySem.W.keepIn G.K (.ref (G.exc c)) = true
  s : PySem.W.subIn G.K (.ref (G.exc c)) (.type "BaseException") = some true
  t : PySem.W.typeIn G.K (.ref (G.exc c)) = some (.type "type")
def gRaise (c : Nat) : Sv := fun ρ => .er ⟨c, none⟩ ρ
theorem ds_raise {G : Gx} {X : Cx} {W : WX} {P : List Bool} {c : Nat} {x : Str} {p pos pos' : Pos} (E : ExcOk G X.mg x c) (hc : X.calm = true) (tk : Takes X W) (hg : Gl X x := by rfl) (hK : X.K = G.K := by rfl) (hdb : (x == ("__debug__" : Str)) = false := by decide) :
    DS G X W P (.Raise (some (.Call (.Name x p) [] [] pos)) none pos') (gRaise c) := by
  obtain ⟨K1, K2, K3, K4, K5⟩ := E
  rw [← hK] at K2 K3 K4 K5
  refine ⟨_, ps_raise hc tk (pmk_own0 F.excBase_ValueError K2 K1 K3 (raises_own K4 K5) hg hdb), fun σ H M ρ F D w s _ k => ?_⟩
  exact k.er ⟨c, none⟩ ρ rfl _ _ σ H M F (Stp.refl w) (.bare c) s .refl

/-! ### try -/
def dropZ (i : Nat) : Z → Z
  | .nx ρ => if noExE (ρ.set i none) = true then .nx (ρ.set i none) else .st
  | .rt o ρ => if (o.noEx && noExE (ρ.set i none)) = true then .rt o (ρ.set i none) else .st
  | .bk ρ => if noExE (ρ.set i none) = true then .bk (ρ.set i none) else .st
  | .ct ρ => if noExE (ρ.set i none) = true then .ct (ρ.set i none) else .st
  | _ => .st
def gTryAs (i : Nat) (ct : List (Nat × Bool)) (b : Sv) (su : Exn → Sv) : Sv := fun ρ => match b ρ with
  | .er x ρ1 => (match ct.lookup x.c with
    | some true => if i < ρ1.length then dropZ i (su x (ρ1.set i (some .ex))) else .st
    | some false => .er x ρ1
    | none => .st)
  | z => z
def cTr (X : Cx) (body : List Stmt) : WX → TS := fun W' D σ H => ∀ (pn : List (Addr × Obj)) (xe : Value → Shared → Prop), Takes (X.tr pn xe) W' → PassesOwn (model X.prog X.w) X.A X.env xe → ∀ pins s, Inv (X.tr pn xe) pins σ H s →
  wpAny (model X.prog X.w) X.A (execs body X.env) (SP (X.tr pn xe) pins D) xe s
def cSu (X : Cx) (sts : List Stmt) : Addr → Value → Option Addr → TS := fun a cls d D σ H => ∀ (oe : Obj) (pn : List (Addr × Obj)), Zc cls d oe → (∃ vs, oe.data = .fields vs) → ∀ pins s, Inv (X.suite a ((a, oe) :: pn)) pins σ H s →
  wpAny (model X.prog X.w) (X.suite a ((a, oe) :: pn)).A (execs sts X.env) (SP (X.suite a ((a, oe) :: pn)) pins D) (fun _ _ => False) s
theorem ds_try_as {G : Gx} {X : Cx} {W : WX} {P : List Bool} {x n : Str} {c : Value} {i : Nat} {body suite : List Stmt} {b₀ : Stmt} {np pos pos' : Pos} {gb : Sv} {gs : Exn → Sv} {ct : List (Nat × Bool)}
    (hex : G.ex = none) (hN : X.N.Nodup) (hc : Names X x c) (tk : Takes X W)
    (hct : ∀ k b, ct.lookup k = some b → PySem.W.exmOne X.K (.ref (G.exc k)) c = some b)
    (hb : ∀ (W' : WX) (pn : List (Addr × Obj)) (xe : Value → Shared → Prop), Takes (X.tr pn xe) W' → PassesOwn (model X.prog X.w) X.A X.env xe → DSs G (X.tr pn xe) W' P body gb)
    (hsu : ∀ (a : Addr) (oe : Obj) (dd : Option Addr) (pn : List (Addr × Obj)) (k : Nat) (f : Option D), Zc (.ref (G.exc k)) dd oe → (∃ vs, oe.data = .fields vs) → (f = none → dd = none) → ct.lookup k = some true → DSs (G.at a) (X.suite a ((a, oe) :: pn)) W0 P (b₀ :: suite) (gs ⟨k, f⟩))
    (hi : X.N[i]? = some n := by rfl) (hp : P[i]? ≠ some true := by decide) (hs : X.stack = X.env :: X.outer := by rfl) (hf : X.env.frame = some X.env.locals := by rfl) (hln : X.env.kindOf n = some .local := by rfl) :
    DS G X W P (.Try body [.ExceptHandler (some (.Name x np)) (some n) (b₀ :: suite) pos'] [] [] pos) (gTryAs i ct gb gs) := by
  refine ⟨_, ps_try_as (tb := cTr X body) (ts := cSu X (b₀ :: suite)) hs hf hN hi hln hc tk (fun W' pn xe t p => ⟨fun pins s σ H D I h => h pn xe t p pins s I⟩) (fun a oe cls d pn hz hv => ⟨fun pins s σ H D I h => h oe pn hz hv pins s I⟩), fun σ H M ρ F D w s hn k => ?_⟩
  intro pn xe t p pins s0 I
  obtain ⟨tb, pb, qb⟩ := (hb _ pn xe t p).ex
  refine pb.run pins s0 σ H D I (qb σ H M ρ F D w s (fun e => hn (by unfold gTryAs; rw [e])) ⟨fun ρ' e => k.nx ρ' (by unfold gTryAs; rw [e]), fun ρ' e => k.bk ρ' (by unfold gTryAs; rw [e]), fun ρ' e => k.ct ρ' (by unfold gTryAs; rw [e]), fun o ρ' e => k.rt o ρ' (by unfold gTryAs; rw [e]), fun y ρ1 e cls dd σ1 H1 M1 F1 st1 rx s1 pn1 => ?_⟩)
  have eg : gTryAs i ct gb gs ρ = (match ct.lookup y.c with
    | some true => if i < ρ1.length then dropZ i (gs y (ρ1.set i (some .ex))) else .st
    | some false => .er y ρ1
    | none => .st) := by unfold gTryAs; rw [e]
  rw [eg] at hn k
  have ecls : cls = .ref (G.exc y.c) := by cases rx <;> rfl
  have edd : y.f = none → dd = none := by
    intro z
    cases rx with
    | bare c => rfl
    | fld c h r => cases z
  subst ecls
  cases hl : ct.lookup y.c with
  | none => rw [hl] at hn; exact absurd rfl hn
  | some b =>
    rw [hl] at hn k
    refine ⟨b, hct _ _ hl, fun eb a ha => ?_, fun eb => ?_⟩
    · subst eb
      simp only at hn k
      by_cases hil : i < ρ1.length
      · rw [if_pos hil] at hn k
        intro oe pn2 hz hv pins2 s2 I2
        obtain ⟨k0, f0⟩ := y
        obtain ⟨t2, p2, q2⟩ := (hsu a oe dd pn2 k0 f0 hz hv edd hl).ex
        have sA : SR (G.at a) H1 M1 σ1 ρ1 F1 := s1.at hex
        obtain ⟨Fx, F2, F3, s3, pm3, pm1⟩ := sA.store (v := .ref a) (o := .ex) (Fo := []) (.ex rfl) hil
        have wf3 : Wf M1 H1 F3 := by
          refine (st1.wf.perm pm1).right.perm ?_
          simpa using pm3.symm
        have st3 : Stp F1 H1 M1 H1 M1 F3 := (Stp.refl st1.wf).sub wf3.nd fun b hb => pm1.mem_iff.mpr (List.mem_append_right _ (by simpa using pm3.mem_iff.mp hb))
        have pin3 : Pin P σ1 (σ1.set i (some (.ref a))) := Pin.set hp
        have clr : ∀ {σ' : L2.St} {H' M' : Hp} {F' : List Addr} {ρ' : Env}, SR (G.at a) H' M' σ' ρ' F' → noExE (ρ'.set i none) = true → ∃ F4, SR G H' M' σ' (ρ'.set i none) F4 ∧ (∀ b ∈ F4, b ∈ F') ∧ (F'.Nodup → F4.Nodup) := by
          intro σ' H' M' F' ρ' sr ne
          obtain ⟨Fo, F4, s4, pm⟩ := sr.clear i
          exact ⟨F4, s4.un ne, fun b hb => pm.mem_iff.mpr (List.mem_append_right _ hb), fun nd => (List.nodup_append.mp (pm.nodup_iff.mp nd)).2.1⟩
        have slot : ∀ {ρ' : Env}, (ρ'.set i none)[i]? = some none ∨ (ρ'.set i none)[i]? = none := by
          intro ρ'
          by_cases h : i < ρ'.length
          · exact .inl (by rw [List.getElem?_set_self h])
          · exact .inr (by rw [List.getElem?_eq_none]; simpa using h)
        have pinN : ∀ {σ' : L2.St}, Pin P σ' (σ'.set i none) := Pin.set hp
        generalize hz2 : gs ⟨k0, f0⟩ (ρ1.set i (some .ex)) = z at hn k
        refine p2.run pins2 s2 _ H1 _ I2 (q2 _ H1 M1 _ F3 _ wf3 s3 (fun e => hn (by rw [← hz2, e]; rfl)) ⟨fun ρ' e' σ' H' M' F' st' sr pn' => ?_, fun ρ' e' σ' H' M' F' st' sr pn' => ?_, fun ρ' e' σ' H' M' F' st' sr pn' => ?_, fun o ρ' e' v σ' H' M' Fo F' st' ro sr pn' => ?_, fun y' ρ' e' => ?_⟩)
        · rw [hz2] at e'
          subst e'
          simp only [dropZ] at hn k
          split at hn
          · rename_i ne
            rw [if_pos ne] at k
            obtain ⟨F4, s4, m4, n4⟩ := clr sr ne
            exact k.nx _ rfl _ H' M' F4 ((st1.trans (st3.trans st')).sub (n4 st'.wf.nd) m4) (s4.loose none slot) (pn1.trans (pin3.trans (pn'.trans pinN)))
          · exact absurd rfl hn
        · rw [hz2] at e'
          subst e'
          simp only [dropZ] at hn k
          split at hn
          · rename_i ne
            rw [if_pos ne] at k
            obtain ⟨F4, s4, m4, n4⟩ := clr sr ne
            exact k.bk _ rfl _ H' M' F4 ((st1.trans (st3.trans st')).sub (n4 st'.wf.nd) m4) (s4.loose none slot) (pn1.trans (pin3.trans (pn'.trans pinN)))
          · exact absurd rfl hn
        · rw [hz2] at e'
          subst e'
          simp only [dropZ] at hn k
          split at hn
          · rename_i ne
            rw [if_pos ne] at k
            obtain ⟨F4, s4, m4, n4⟩ := clr sr ne
            exact k.ct _ rfl _ H' M' F4 ((st1.trans (st3.trans st')).sub (n4 st'.wf.nd) m4) (s4.loose none slot) (pn1.trans (pin3.trans (pn'.trans pinN)))
          · exact absurd rfl hn
        · rw [hz2] at e'
          subst e'
          simp only [dropZ] at hn k
          split at hn
          · rename_i ne
            rw [if_pos ne] at k
            rw [Bool.and_eq_true] at ne
            obtain ⟨F4, s4, m4, n4⟩ := clr sr ne.2
            refine k.rt _ _ rfl v _ H' M' Fo F4 ((st1.trans (st3.trans st')).sub ?_ ?_) (RO.un ne.1 ro) (s4.loose none slot) (pn1.trans (pin3.trans (pn'.trans pinN)))
            · exact List.nodup_append.mpr ⟨st'.wf.left.nd, n4 st'.wf.right.nd, fun a' ha' b hb e => st'.wf.disj a' ha' (e ▸ m4 b hb)⟩
            · intro b hb
              rcases List.mem_append.mp hb with h | h
              · exact List.mem_append_left _ h
              · exact List.mem_append_right _ (m4 b h)
          · exact absurd rfl hn
        · rw [hz2] at e'
          subst e'
          exact absurd rfl hn
      · rw [if_neg hil] at hn
        exact absurd rfl hn
    · subst eb
      simp only at hn k
      exact k.er y ρ1 rfl _ _ σ1 H1 M1 F1 st1 rx s1 pn1

/-! isinstance(e, C), e the caught one -/
def evIsE (i : Nat) (b : Bool) : Ev := fun ρ => match ρ[i]? with
  | some (some .ex) => .ok (.fr (.bl b)) ρ
  | _ => .st
theorem de_isE {G : Gx} {X : Cx} {W : WX} {a Dc : Addr} {oe : Obj} {pn : List (Addr × Obj)} {i : Nat} {e ce : Expr} {c : V} {u : Value} {b : Bool} {p pos : Pos} (C : ExcC X.K Dc) (hz : Zc (.ref Dc) none oe) (hv : ∃ vs, oe.data = .fields vs) (hm : X.mg "isinstance" = none)
    (he0 : PE (X.suite a ((a, oe) :: pn)) e (tVar i)) (hce : PE (X.suite a ((a, oe) :: pn)) ce (tC c)) (hu : ∀ u', RelV c u' → u' = u) (hk : PySem.W.kitOne X.K (.ref Dc) u = some b) (hg : Gl (X.suite a ((a, oe) :: pn)) "isinstance" := by rfl)
    (he : starEach [e, ce] X.env = (false, eval e X.env) :: starEach [ce] X.env := by rfl) (he2 : starEach [ce] X.env = (false, eval ce X.env) :: starEach [] X.env := by rfl) (hpl : (backTo pos (starEach [ce] X.env)).any (·.1) = false := by rfl) :
    DE (G.at a) (X.suite a ((a, oe) :: pn)) W (.Call (.Name "isinstance" p) [e, ce] [] pos) (evIsE i b) := by
  refine ⟨_, pe_callB (X := X.suite a ((a, oe) :: pn)) (call_isE C hz hv) hg hm (by decide +kernel) (pa_cons he0 (pa_cons hce pa_nil he2) he) (by decide) (by decide) he hpl, fun σ H M ρ F Q w s hn hk' _ => ?_⟩
  unfold evIsE at hn hk'
  split at hn
  · rename_i er
    rw [er] at hk'
    obtain ⟨v, Fo, F1, ev, ro, s1, pm⟩ := s.take er
    cases ro with
    | ex h =>
      cases h
      refine ⟨_, ev, ?_⟩
      exact ⟨c, u, b, rfl, hu, hk, hk' _ _ rfl (.bl b) H M [] F (Stp.refl w) (.fr (.bl b)) s⟩
  · exact absurd rfl hn
end PV

set_option Elab.async false
set_option linter.all false
set_option maxRecDepth 100000
/-! PV: count, index of lists; dict displays -/
namespace PV
open PySem PySem.Spec PyProof.Rows L2

/-! ### list.count of flat items -/
section
variable {X : Cx}
def rCntF (K : PySem.W.Frag) : V → List V → Hp → VK → Prop := fun x xs H Q => ∃ (p : Addr) (ys : List V) (y : V), x = .ref p ∧ xs = [y] ∧ SqL K H p ys ∧ L2.flatV y = true ∧ ys.all L2.flatV = true ∧ Q (.int (ys.countP (fun z => eqV z y) : Nat)) H
theorem countP_eqU {x : V} : ∀ {xs : List V} {us : List Value}, Vals xs us → xs.all L2.flatV = true → us.countP (eqU x) = xs.countP fun y => eqV y x
  | _, _, .nil, _ => rfl
  | _, _, .cons h t, f => by
    rw [List.all_cons, Bool.and_eq_true] at f
    rw [List.countP_cons, List.countP_cons, countP_eqU t f.2, eqU_of h f.1]
theorem mt_lcountF : MtR X "list.count" (rCntF X.K) := by
  intro pins s σ H x xs v us Q I rx rxs h
  obtain ⟨p, ys, y, rfl, rfl, hs, fy, fys, q⟩ := h
  cases rx
  cases rxs with
  | cons ry rt =>
    rename_i uy ut
    cases rt
    obtain ⟨its, rv, ⟨⟨cls, dd, data, sl⟩, n, ho, hc, hdn, hd⟩, hlen⟩ := I.list hs
    simp only at hc hd
    subst hc hd
    refine call_meets PySem.F.slot_list_count ⟨_, ho, rfl⟩ PySem.F.entry_list_count (PySem.F.args_list_count_2 _ _)
      (SeqAt.list_countAt p its.toArray n dd sl uy (eqU y)) ⟨ho, fun u' hu' => mem_eqAt ry fy rv fys u' (by simpa using hu'), ?_⟩
    have ec : its.toArray.toList.countP (eqU y) = ys.countP fun z => eqV z y := countP_eqU rv fys
    refine ⟨.int (ys.countP (fun z => eqV z y) : Nat), H, I.tok _, ⟨s.toks, ?_⟩, q⟩
    show Value.int ((its.toArray.toList.countP (eqU y) : Nat) : Int) s.toks = Value.int ((ys.countP (fun z => eqV z y) : Nat) : Int) s.toks
    rw [ec]
end

/-! ### a list in a slot looked at by a method of one argument -/
def slotL (ρ : Env) (i : Nat) : Option (List D) := match ρ[i]? with
  | some (some (.ls xs)) => some xs
  | some (some (.fr (.lst xs))) => some xs
  | _ => none
theorem slotL_of {G : Gx} {H M : Hp} {σ : L2.St} {ρ : Env} {F : List Addr} {i : Nat} {xs : List D} (s : SR G H M σ ρ F) (w : Wf M H F) (e : slotL ρ i = some xs) : ∃ a vs, σ[i]? = some (some (.ref a)) ∧ H a = some (.lst vs) ∧ RDs G M vs xs := by
  unfold slotL at e
  split at e
  · rename_i ys e1
    cases e
    obtain ⟨v, Fo, F1, ev, ro, s1, pm⟩ := s.take e1
    cases ro with
    | ls h r l => exact ⟨_, _, ev, h, r⟩
  · rename_i ys e1
    cases e
    obtain ⟨v, Fo, F1, ev, ro, s1, pm⟩ := s.take e1
    cases ro with
    | fr h => cases h with
      | lst h r l => exact ⟨_, _, ev, w.sm _ _ h, r⟩
  · cases e
def LkOp (G : Gx) (r : V → List V → Hp → VK → Prop) (g : List D → D → Option D) : Prop :=
  ∀ (a : Addr) (vs : List V) (xs : List D) (v : V) (d : D) (H M : Hp) (d' : D) (Q : VK), Same M H → H a = some (.lst vs) → RDs G M vs xs → RD G M v d → g xs d = some d' → (∀ v', RD G M v' d' → Q v' H) → r (.ref a) [v] H Q
def evLk (i : Nat) (f : Ev) (g : List D → D → Option D) : Ev := fun ρ => match slotL ρ i with
  | some _ => (f ρ).bind fun o ρ1 => (match slotL ρ1 i with
    | some xs => (match g xs (frO o) with
      | some d => .ok (.fr d) ρ1
      | none => .st)
    | none => .st)
  | none => .st
theorem es_lk {G : Gx} {K : PySem.W.Frag} {W : WX} {i : Nat} {f : Ev} {t : TE} {r : V → List V → Hp → VK → Prop} {g : List D → D → Option D} (h : ES G W t f) (v : LkOp G r g) : ES G W (tBM K "list" r (tVar i) (tCons t tNil)) (evLk i f g) := by
  intro σ H M ρ F Q w s hn hk he
  unfold evLk at hn hk he
  split at hn
  · rename_i xs0 e0
    simp only [e0] at hk he
    obtain ⟨a, vs0, ev, hH0, _⟩ := slotL_of s w e0
    refine ⟨.ref a, ev, .inl ⟨rfl, vs0, .inl (.inl hH0)⟩, ?_⟩
    refine h σ H M ρ F _ w s (fun e => hn (by rw [e]; rfl)) (fun o ρ1 e1 x H1 M1 Fo F1 st1 ro1 s1 => ?_) (fun x ρ1 e1 => he x ρ1 (by rw [e1]; rfl))
    rw [e1] at hn hk
    simp only [R.bind_ok] at hn hk
    split at hn
    · rename_i xs e2
      simp only [e2] at hk
      split at hn
      · rename_i d eg
        simp only [eg] at hk
        obtain ⟨M2, rd, st2⟩ := ro1.freeze st1.wf
        have s2 := s1.mono st2.mm (keepOn_refl _ _)
        obtain ⟨a', vs1, ev', hH1, rx⟩ := slotL_of s2 st2.wf e2
        rw [ev] at ev'
        cases ev'
        exact v a vs1 xs x _ H1 M2 d Q st2.wf.sm hH1 rx rd eg fun v' rd' => hk _ _ rfl v' _ M2 [] F1 (st1.trans st2) (.fr rd') s2
      · exact absurd rfl hn
    · exact absurd rfl hn
  · exact absurd rfl hn
def kCount : List D → D → Option D := fun xs d => if (d.flat && xs.all D.flat) = true then some (.int (xs.countP (fun z => eqFlat z d) : Nat)) else none
def kIndex : List D → D → Option D := fun xs d => if (d.flat && xs.all D.flat) = true then (xs.findIdx? fun z => eqFlat z d).map fun j => .int (j : Nat) else none
theorem countP_flat {G : Gx} {M : Hp} {v : V} {d : D} (r : RD G M v d) (h : d.flat = true) : ∀ {vs : List V} {ds : List D}, RDs G M vs ds → ds.all D.flat = true → (vs.countP fun z => eqV z v) = ds.countP fun e => eqFlat e d
  | _, _, .nil, _ => rfl
  | _, _, .cons q t, e => by
    rw [List.all_cons, Bool.and_eq_true] at e
    rw [List.countP_cons, List.countP_cons, countP_flat r h t e.2, eqV_flat (.fr (H := M) r) q h e.1]
theorem lo_count {G : Gx} {K : PySem.W.Frag} : LkOp G (rCntF K) kCount := by
  intro a vs xs v d H M d' Q sm hH rx rd e k
  unfold kCount at e
  split at e
  · rename_i hf
    rw [Bool.and_eq_true] at hf
    cases e
    refine ⟨a, vs, v, rfl, rfl, .inl (.inl hH), (RV.fr (H := M) rd).flatV hf.1, rx.flatV hf.2, ?_⟩
    rw [countP_flat rd hf.1 rx hf.2]
    exact k _ (.int _)
  · cases e
theorem RDs.get' {G : Gx} {M : Hp} : ∀ {vs : List V} {ds : List D} {i : Nat} {v : V}, RDs G M vs ds → vs[i]? = some v → ∃ d, ds[i]? = some d ∧ RD G M v d
  | _, _, _, _, .nil, e => by simp at e
  | _, _, 0, _, .cons h _, e => by simp at e; subst e; exact ⟨_, rfl, h⟩
  | _, _, i + 1, _, .cons _ t, e => by
    obtain ⟨d, h1, h2⟩ := t.get' (i := i) (by simpa using e)
    exact ⟨d, by simpa using h1, h2⟩
theorem lo_index {G : Gx} {K : PySem.W.Frag} : LkOp G (rIndex K) kIndex := by
  intro a vs xs v d H M d' Q sm hH rx rd e k
  unfold kIndex at e
  split at e
  · rename_i hf
    rw [Bool.and_eq_true] at hf
    cases hj : xs.findIdx? fun z => eqFlat z d with
    | none => rw [hj] at e; cases e
    | some j =>
      rw [hj] at e
      cases e
      obtain ⟨hlt, h1, h2⟩ := List.findIdx?_eq_some_iff_getElem.mp hj
      have ef : ∀ {y : D}, y ∈ xs → y.flat = true := fun hy => List.all_eq_true.mp hf.2 _ hy
      obtain ⟨z, hz, rz⟩ := rx.get (List.getElem?_eq_getElem hlt)
      refine ⟨a, vs, v, j, z, rfl, rfl, .inl (.inl hH), (RV.fr (H := M) rd).flatV hf.1, rx.flatV hf.2, hz, ?_, fun m z' hm hz' => ?_, k _ (.int _)⟩
      · rw [eqV_flat (.fr (H := M) rd) rz hf.1 (ef (List.getElem_mem hlt))]
        exact h1
      · obtain ⟨y, hy, ry⟩ := rx.get' hz'
        obtain ⟨hl2, hy2⟩ := List.getElem?_eq_some_iff.mp hy
        rw [eqV_flat (.fr (H := M) rd) ry hf.1 (ef (List.mem_of_getElem? hy)), ← hy2]
        simpa using h2 m hm
  · cases e
section
variable {G : Gx} {X : Cx} {W : WX} {i : Nat} {o e : Expr} {f : Ev} {apos cpos : Pos}
theorem de_count (ho : PE X o (tVar i)) (ha : DE G X W e f) (hx : attributeBase o "count" X.env (eval o X.env) = eval o X.env := by rfl)
    (hfew : ((backTo cpos (starEach [e] X.env)).all (fun x => !x.1) && (backToKw cpos (keywordEach [] X.env)).all (fun x => x.1.isSome)
      && decide ([e].length + ([] : List Keyword).length + (if ([] : List Keyword).isEmpty then 0 else 1) < 30)) = true := by rfl)
    (hline : (apos.endLine == cpos.line) = true := by rfl) (hs : starEach [e] X.env = (false, eval e X.env) :: starEach [] X.env := by rfl) (hplain : (backTo cpos (starEach [] X.env)).any (·.1) = false := by rfl) :
    DE G X W (.Call (.Attribute o "count" apos) [e] [] cpos) (evLk i f kCount) := by
  obtain ⟨t, p, q⟩ := ha.ex
  exact ⟨_, pe_bm PySem.F.plainAttrs_list PySem.F.slot_list_count PySem.F.type_list_count mt_lcountF ho (pa_cons p pa_nil hs) hx hfew hline hs hplain, es_lk q lo_count⟩
theorem de_index (ho : PE X o (tVar i)) (ha : DE G X W e f) (hx : attributeBase o "index" X.env (eval o X.env) = eval o X.env := by rfl)
    (hfew : ((backTo cpos (starEach [e] X.env)).all (fun x => !x.1) && (backToKw cpos (keywordEach [] X.env)).all (fun x => x.1.isSome)
      && decide ([e].length + ([] : List Keyword).length + (if ([] : List Keyword).isEmpty then 0 else 1) < 30)) = true := by rfl)
    (hline : (apos.endLine == cpos.line) = true := by rfl) (hs : starEach [e] X.env = (false, eval e X.env) :: starEach [] X.env := by rfl) (hplain : (backTo cpos (starEach [] X.env)).any (·.1) = false := by rfl) :
    DE G X W (.Call (.Attribute o "index" apos) [e] [] cpos) (evLk i f kIndex) := by
  obtain ⟨t, p, q⟩ := ha.ex
  exact ⟨_, pe_bm PySem.F.plainAttrs_list PySem.F.slot_list_index PySem.F.type_list_index mt_index ho (pa_cons p pa_nil hs) hx hfew hline hs hplain, es_lk q lo_index⟩
end

/-! ### dict displays -/
section
variable {G : Gx} {X : Cx} {W : WX} {pos : Pos}
theorem de_dct0 : DE G X W (.Dict [] [] pos) (evC (.dct [] [])) := by
  refine ⟨_, pe_dnewK, fun σ H M ρ F Q w s _ hk _ => ?_⟩
  intro p hp
  have ps := Pst.newF (o := .dK []) w.sm hp
  exact hk _ _ rfl _ _ _ [] F (ps.stp w) (.fr (.dct (kvs := []) upd_same rfl .nil (Nat.zero_le _))) (s.mono ps.mm fun a ha x e => ps.hh a x e)
theorem upd_upd {H : Hp} {p : Addr} {x y : HO} : upd (upd H p x) p y = upd H p y := by
  funext b
  by_cases h : b = p
  · subst h; rw [upd_same, upd_same]
  · rw [upd_ne h, upd_ne h, upd_ne h]
/-- {k: v} of two whole numbers -/
theorem de_dct1i {k v : Int} {j1 j2 : Nat} {p1 p2 : Pos} : DE G X W (.Dict [some (.Constant (.int k) j1 p1)] [.Constant (.int v) j2 p2] pos) (evC (.dct [.int k] [.int v])) := by
  refine ⟨_, pe_disp (pps_cons pe_int pe_int pps_nil) rfl rfl (by simp) (by show 1 ≤ 15; decide), fun σ H M ρ F Q w s _ hk _ => ?_⟩
  intro p hp
  have ps := Pst.newF (o := .dK [(.inl k, .int v)]) w.sm hp
  refine ⟨upd_same, [(.inl k, .int v)], rfl, by show 1 ≤ 15; decide, ?_⟩
  rw [upd_upd]
  exact hk _ _ rfl _ _ _ [] F (ps.stp w) (.fr (.dct (kvs := [(.inl k, .int v)]) upd_same rfl (.cons (.int v) .nil) (by show 1 ≤ LIM; decide))) (s.mono ps.mm fun a ha x e => ps.hh a x e)
end
end PV

set_option Elab.async false
set_option linter.all false
set_option maxRecDepth 100000
/-! PV: defs of a text, their facts, the top -/
namespace PV
open PySem PySem.Spec PyProof.Rows L2

theorem takes0 {X : Cx} : Takes X W0 := fun u s' ⟨_, _, _, _, _, _, _, _, _, _, _, _, _, _, _, _, w⟩ => False.elim w
theorem u65 {k : Nat} {A : Around} (hr : Room k A) : A.units + 65 < cLine := by have := hr.un; omega
structure Dfn (G : Gx) (mg : Str → Option Value) (x qual : Str) (st : Stmt) : Prop where
  ex : ∃ f fd, mg x = some (.ref f) ∧ Fun G.K x qual st f fd
def BindsOk (x qual : Str) (st : Stmt) (ps : List Str) : Prop := ∀ (kV doc pm : Value) (an : Option Addr) (cdv ct : Value) (us : List Value), us.length = ps.length → bindArgs (PySem.W.fnOf x qual (defArgs st) (defBody st) (defScope st) .none kV doc pm an cdv ct) ⟨us, []⟩ = pure (ps.zip us)
/-- a def's body -/
def BodyOk (P : Program) (w : World) (G : Gx) (mg : Str → Option Value) (base : Heap) (k : Nat) (qual : Str) (st : Stmt) (N : List Str) (pm : List Bool) (g : Sv) : Prop :=
  ∀ (f : Addr) (cdv : Value) (A : Around) (outer : List PySem.Env) (s : Shared) (H : Hp) (E : XK), Room k (A.deeper (envOfC qual (defScope st) s.heap.objs.size f cdv)) →
      DSs G (cxOf (L2.CX P w) P w G.K mg base N qual (defScope st) f cdv A outer s H E) (fun cls d _ H => E cls d H) pm (defBody st) g
theorem mkFn {P : Program} {w : World} {G : Gx} {mg : Str → Option Value} {base : Heap} {x qual : Str} {st : Stmt} {N ps : List Str} {k : Nat} {pm : List Bool} {g : Sv} (D : Dfn G mg x qual st) (S : FnScope N ps (defScope st)) (hP : pm.length = ps.length) (hb : BindsOk x qual st ps)
    (hbody : BodyOk P w G mg base k qual st N pm g) : Fn P w G mg base (k + 1) x ps.length (semOf N.length ps.length pm g) := by
  obtain ⟨f, fd, h1, h2⟩ := D.ex
  exact ⟨f, fd, ps, h1, h2.kp, h2.binds hb, fn_ok h2 S hP fun cdv A outer s H E hr => hbody f cdv A outer s H E hr⟩
theorem Fn.mono {P : Program} {w : World} {G : Gx} {mg : Str → Option Value} {base : Heap} {x : Str} {j k n : Nat} {sem : Fsem} (F : Fn P w G mg base j x n sem) (h : j ≤ k) : Fn P w G mg base k x n sem := by
  obtain ⟨f, fd, ps, h1, h2, h3, h4⟩ := F.ex
  exact ⟨f, fd, ps, h1, h2, h3, h4.mono h⟩
/-- an own class made by its __init__ -/
structure Cdf (G : Gx) (mg : Str → Option Value) (x qual : Str) (c : Nat) (st : Stmt) : Prop where
  ex : ∃ f fd, mg x = some (.ref (G.cls c)) ∧ Mk G.K (G.cls c) f ∧ Fun G.K "__init__" qual st f fd
theorem mkMk {P : Program} {w : World} {G : Gx} {mg : Str → Option Value} {base : Heap} {x qual : Str} {c : Nat} {st : Stmt} {N ps : List Str} {k : Nat} {pm : List Bool} {g : Sv} (D : Cdf G mg x qual c st) (S : FnScope N ps (defScope st)) (hP : pm.length = ps.length) (hb : BindsOk "__init__" qual st ps)
    (hbody : BodyOk P w G mg base k qual st N pm g) : MkOk P w G mg base (k + 1) x c ps.length (semOf N.length ps.length pm g) := by
  obtain ⟨f, fd, h1, h2, h3⟩ := D.ex
  exact ⟨f, fd, ps, h1, h2, h3.binds hb, fn_ok h3 S hP fun cdv A outer s H E hr => hbody f cdv A outer s H E hr⟩
theorem MkOk.mono {P : Program} {w : World} {G : Gx} {mg : Str → Option Value} {base : Heap} {x : Str} {j k c n : Nat} {sem : Fsem} (F : MkOk P w G mg base j x c n sem) (h : j ≤ k) : MkOk P w G mg base k x c n sem := by
  obtain ⟨f, fd, ps, h1, h2, h3, h4⟩ := F.ex
  exact ⟨f, fd, ps, h1, h2, h3, h4.mono h⟩
/-- a whole number at the top -/
theorem de_gint {G : Gx} {X : Cx} {W : WX} {x : Str} {i : Int} {pos : Pos} (h : ∃ t, X.mg x = some (.int i t)) (hg : Gl X x := by rfl) (hd : (x == ("__debug__" : Str)) = false := by decide) : DE G X W (.Name x pos) (evC (.int i)) := by
  obtain ⟨t, h⟩ := h
  exact de_const (pe_glob (v := .int i) hg h ⟨t, rfl⟩ hd) fun _ => .int i
/-- the kinds of a table -/
def KitAll (G : Gx) (u : Value) : IsiT → Prop
  | [] => True
  | p :: ps => (PySem.W.kitOne G.K (p.1.ty G) u = some p.2 ∧ ∀ c, p.1 = .obj c → ClsOk G c) ∧ KitAll G u ps
theorem KitAll.ok {G : Gx} {u : Value} : ∀ {tb : IsiT}, KitAll G u tb → IsiOk G u tb
  | [], _ => ⟨fun _ _ h => by simp at h, fun _ _ h => by simp at h⟩
  | (k, b) :: ps, h => by
    have ih := KitAll.ok h.2
    refine ⟨fun k' b' e => ?_, fun c b' e => ?_⟩
    · rw [List.lookup_cons] at e
      split at e
      · rename_i hk
        cases e
        have : k' = k := by simpa using hk
        subst this
        exact h.1.1
      · exact ih.kit k' b' e
    · rw [List.lookup_cons] at e
      split at e
      · rename_i hk
        have : Kind.obj c = k := by simpa using hk
        exact h.1.2 c this.symm
      · exact ih.cls c b' e
/-- tables of attributes -/
def FldAll (G : Gx) (f : Str) : List (Nat × Nat) → Prop
  | [] => True
  | p :: ps => (ClsOk G p.1 ∧ (G.flds p.1)[p.2]? = some f) ∧ FldAll G f ps
theorem FldAll.ok {G : Gx} {f : Str} : ∀ {tb : List (Nat × Nat)}, FldAll G f tb → ∀ c k, (c, k) ∈ tb → ClsOk G c ∧ (G.flds c)[k]? = some f
  | [], _, _, _, h => by cases h
  | p :: ps, h, c, k, hm => by
    rcases List.mem_cons.mp hm with e | e
    · cases e; exact h.1
    · exact h.2.ok c k e
def CtAll (G : Gx) (c : Value) : List (Nat × Bool) → Prop
  | [] => True
  | p :: ps => PySem.W.exmOne G.K (.ref (G.exc p.1)) c = some p.2 ∧ CtAll G c ps
theorem CtAll.ok {G : Gx} {c : Value} : ∀ {tb : List (Nat × Bool)}, CtAll G c tb → ∀ k b, tb.lookup k = some b → PySem.W.exmOne G.K (.ref (G.exc k)) c = some b
  | [], _, _, _, h => by simp at h
  | (k, b) :: ps, h, k', b', e => by
    rw [List.lookup_cons] at e
    split at e
    · rename_i hk
      cases e
      have : k' = k := by simpa using hk
      subst this
      exact h.1
    · exact h.2.ok k' b' e
/-- the law's promise -/
def spTop (K : PySem.W.Frag) : Sp := fun vs H Q _ => ∃ (a : Addr) (ns : List Int), vs = [.ref a] ∧ SqL K H a (ns.map V.int) ∧ ns.length ≤ 63 ∧ ∀ H', Q (.bl true) H'
def scrO (ns : List Int) : O := .fr (.scr (ns.map .int))
theorem rds_ints {G : Gx} {M : Hp} : ∀ ns : List Int, RDs G M (ns.map V.int) (ns.map D.int)
  | [] => .nil
  | n :: ns => .cons (.int n) (rds_ints ns)
theorem top_imp {G : Gx} {sem : Fsem} (law : ∀ ns : List Int, ns.length ≤ 63 → ∃ outs, sem [scrO ns] = .ok (.fr (.bl true)) outs) : ∀ (vs : List V) (H : Hp) (Q : VK) (E : XK), spTop G.K vs H Q E → spOf G 1 sem vs H Q E := by
  intro vs H Q E ⟨a, ns, ev, hs, hl, q⟩
  subst ev
  obtain ⟨outs, e⟩ := law ns hl
  refine ⟨rfl, H, [scrO ns], [] ++ [], ⟨fun _ _ z => z, List.nodup_nil, fun _ h => nomatch h⟩, .cons (.fr (.scr hs (rds_ints ns) ?_)) .nil, by rw [e]; simp, fun r outs' e' v H' M' Fr Fo st ro ou => ?_, fun x e' => ?_⟩
  · rw [List.length_map]
    exact Nat.le_trans hl (by decide)
  · rw [e] at e'
    cases e'
    cases ro with
    | fr h => cases h; exact q H'
  · rw [e] at e'
    cases e'
theorem top_cx {P : Program} {w : World} {H : Hp} {s : Shared} {e : Value} {s' : Shared} (h : L2.CX P w [] H s (fun _ _ _ => False) e s') : False := by
  obtain ⟨_, _, _, _, _, _, _, _, _, _, _, _, z⟩ := h
  exact z
theorem takes_cx {P : Program} {w : World} {K : PySem.W.Frag} {mg : Str → Option Value} {base : Heap} {N : List Str} {qual : Str} {sc : Scope} {f : Addr} {cd : Value} {A : Around} {outer : List PySem.Env} {s : Shared} {H : Hp} {E : XK} :
    Takes (cxOf (L2.CX P w) P w K mg base N qual sc f cd A outer s H E) (fun cls d _ H => E cls d H) := L2.takes_of rfl rfl rfl rfl
theorem passes_cx {P : Program} {w : World} {K : PySem.W.Frag} {mg : Str → Option Value} {base : Heap} {N : List Str} {qual : Str} {sc : Scope} {f : Addr} {cd : Value} {A : Around} {outer : List PySem.Env} {s : Shared} {H : Hp} {E : XK} :
    PassesOwn (model P w) (cxOf (L2.CX P w) P w K mg base N qual sc f cd A outer s H E).A (cxOf (L2.CX P w) P w K mg base N qual sc f cd A outer s H E).env (cxOf (L2.CX P w) P w K mg base N qual sc f cd A outer s H E).xe :=
  L2.passes_of (X := cxOf (L2.CX P w) P w K mg base N qual sc f cd A outer s H E) rfl
/-! isinstance of a caught error, by a table of its classes -/
def XcAll (G : Gx) (u : Value) : List (Nat × Bool) → Prop
  | [] => True
  | p :: ps => (ExcC G.K (G.exc p.1) ∧ PySem.W.kitOne G.K (.ref (G.exc p.1)) u = some p.2) ∧ XcAll G u ps
theorem XcAll.ok {G : Gx} {u : Value} : ∀ {tb : List (Nat × Bool)}, XcAll G u tb → ∀ k b, tb.lookup k = some b → ExcC G.K (G.exc k) ∧ PySem.W.kitOne G.K (.ref (G.exc k)) u = some b
  | [], _, _, _, h => by simp at h
  | (k, b) :: ps, h, k', b', e => by
    rw [List.lookup_cons] at e
    split at e
    · rename_i hk
      cases e
      have : k' = k := by simpa using hk
      subst this
      exact h.1
    · exact h.2.ok k' b' e
def evIsX (i : Nat) (tb : List (Nat × Bool)) (k : Nat) : Ev := fun ρ => match tb.lookup k with
  | some b => evIsE i b ρ
  | none => .st
theorem de_stuck {G : Gx} {X : Cx} {W : WX} {e : Expr} {f : Ev} (h : ∀ ρ, f ρ = .st) : DE G X W e f := ⟨fun _ _ _ => False, ⟨fun _ _ _ _ _ _ z => False.elim z⟩, fun _ _ _ ρ _ _ _ _ hn => absurd (h ρ) hn⟩
theorem de_isX {G : Gx} {X : Cx} {W : WX} {a : Addr} {oe : Obj} {pn : List (Addr × Obj)} {i k : Nat} {e ce : Expr} {c : V} {u : Value} {tb : List (Nat × Bool)} {dd : Option Addr} {p pos : Pos} (T : XcAll G u tb) (hz : Zc (.ref (G.exc k)) dd oe) (hd : dd = none) (hv : ∃ vs, oe.data = .fields vs) (hm : X.mg "isinstance" = none)
    (he0 : PE (X.suite a ((a, oe) :: pn)) e (tVar i)) (hce : PE (X.suite a ((a, oe) :: pn)) ce (tC c)) (hu : ClsV c u) (hK : X.K = G.K := by rfl) (hg : Gl (X.suite a ((a, oe) :: pn)) "isinstance" := by rfl)
    (he : starEach [e, ce] X.env = (false, eval e X.env) :: starEach [ce] X.env := by rfl) (he2 : starEach [ce] X.env = (false, eval ce X.env) :: starEach [] X.env := by rfl) (hpl : (backTo pos (starEach [ce] X.env)).any (·.1) = false := by rfl) :
    DE (G.at a) (X.suite a ((a, oe) :: pn)) W (.Call (.Name "isinstance" p) [e, ce] [] pos) (evIsX i tb k) := by
  subst hd
  cases hl : tb.lookup k with
  | none => exact de_stuck fun ρ => by unfold evIsX; rw [hl]
  | some b =>
    obtain ⟨h1, h2⟩ := T.ok k b hl
    rw [← hK] at h1 h2
    have z := de_isE (G := G) (W := W) (p := p) h1 hz hv hm he0 hce (fun u' r => hu.eq r) h2 hg he he2 hpl
    have ee : evIsX i tb k = evIsE i b := by
      funext ρ
      unfold evIsX
      rw [hl]
    rw [ee]
    exact z
end PV

set_option Elab.async false
set_option linter.all false
set_option maxRecDepth 100000
/-! PV: a, b = x, y -/
namespace PV
open PySem PySem.Spec PyProof.Rows L2

theorem kit_ref {K : PySem.W.Frag} {t : Value} {C : Addr} {b : Bool} (h1 : PySem.W.isClsIn K C = true) (h2 : PySem.W.typeIn K (.ref C) = some (.type "type")) (h3 : PySem.W.subIn K t (.ref C) = some b) (h4 : t = .ref C → b = true) : PySem.W.kitOne K t (.ref C) = some b := by
  unfold PySem.W.kitOne
  split
  · rename_i e
    rw [h4 (by simpa using e)]
  · have h1' : (PySem.W.clsIn K C).isSome = true := h1
    show (if ((PySem.W.clsIn K C).isSome && PySem.W.typeIn K (.ref C) == some (.type "type")) = true then PySem.W.subIn K t (.ref C) else none) = some b
    rw [h1', h2, if_pos (by rfl)]
    exact h3
theorem kit_typ {K : PySem.W.Frag} {C : Addr} {T : String} {b : Bool} (h1 : PySem.W.kitMeta T = true) (h3 : PySem.W.subIn K (.ref C) (.type T) = some b) : PySem.W.kitOne K (.ref C) (.type T) = some b := by
  unfold PySem.W.kitOne
  split
  · rename_i e
    simp at e
  · show (if PySem.W.kitMeta T = true then PySem.W.subIn K (.ref C) (.type T) else none) = some b
    rw [if_pos h1]
    exact h3
theorem exm_mk {K : PySem.W.Frag} {C D : Addr} {b : Bool} (h0 : PySem.W.subIn K (.ref D) (.type "BaseException") = some true) (h1 : PySem.W.isClsIn K D = true) (h2 : PySem.W.typeIn K (.ref D) = some (.type "type")) (h3 : PySem.W.subIn K (.ref C) (.ref D) = some b) :
    PySem.W.exmOne K (.ref C) (.ref D) = some b := by
  unfold PySem.W.exmOne
  rw [h0, if_pos (by rfl)]
  have h1' : (PySem.W.clsIn K D).isSome = true := h1
  show (if ((PySem.W.clsIn K D).isSome && PySem.W.typeIn K (.ref D) == some (.type "type")) = true then PySem.W.subIn K (.ref C) (.ref D) else none) = some b
  rw [h1', h2, if_pos (by rfl)]
  exact h3
theorem Stp.cut {F A B C : List Addr} {H M H' M' : Hp} (s : Stp F H M H' M' A) (p : A.Perm (B ++ C)) : Stp F H M H' M' C :=
  (s.perm p).sub (s.perm p).wf.right.nd fun _ h => List.mem_append_right _ h
theorem perm_swap3 (A B C D : List Addr) : (A ++ (B ++ []) ++ (C ++ D)).Perm (C ++ (B ++ (A ++ D))) := by
  rw [List.append_nil]
  have e1 : (A ++ B ++ (C ++ D)).Perm (C ++ D ++ (A ++ B)) := List.perm_append_comm
  refine e1.trans ?_
  rw [List.append_assoc]
  refine List.Perm.append_left C ?_
  have e2 : (D ++ (A ++ B)).Perm (A ++ B ++ D) := List.perm_append_comm
  refine e2.trans ?_
  have e3 : (A ++ B).Perm (B ++ A) := List.perm_append_comm
  rw [← List.append_assoc B]
  exact List.Perm.append_right D e3
def gPar2 (i j : Nat) (as : List Arg) : Sv := fun ρ => match runA as ρ with
  | .ok [o1, o2] ρ' => if i < ρ'.length ∧ j < ρ'.length then .nx ((ρ'.set i (some o1)).set j (some o2)) else .st
  | .er x ρ' => .er x ρ'
  | _ => .st
theorem ds_par2 {G : Gx} {X : Cx} {W : WX} {P : List Bool} {i j : Nat} {x y : Str} {a b : Expr} {as : List Arg} {px py pt pos : Pos} {kt k2 : Nat} {pt2 : Pos} (hc : X.calm = true) (hN : X.N.Nodup) (ha : DAs G X W [a, b] as) (hij : i ≠ j := by decide)
    (hi : X.N[i]? = some x := by rfl) (hj : X.N[j]? = some y := by rfl) (hx : X.env.scope.names.lookup x = some .local := by rfl) (hy : X.env.scope.names.lookup y = some .local := by rfl) (hpi : P[i]? ≠ some true := by decide) (hpj : P[j]? ≠ some true := by decide)
    (hw : swappedStores [.Tuple [.Name x px, .Name y py] kt pt] (.Tuple [a, b] k2 pt2) X.env = pure (some [x, y]) := by rfl)
    (hs : swapsWithSole [.Tuple [.Name x px, .Name y py] kt pt] (.Tuple [a, b] k2 pt2) pos.line X.env = pure false := by rfl) :
    DS G X W P (.Assign [.Tuple [.Name x px, .Name y py] kt pt] (.Tuple [a, b] k2 pt2) pos) (gPar2 i j as) := by
  obtain ⟨t, p, q⟩ := ha.ex
  refine ⟨_, ps_par hc hN hi hj hij hx hy p hw hs, fun σ H M ρ F D w s hn k => ?_⟩
  unfold gPar2 at hn k
  refine q σ H M ρ F _ w s (fun e => hn (by rw [e])) (fun rs ρ' e vs H' M' Fo F' st ro _ sr => ?_) (fun x ρ' e cls dd H' M' F' st rx sr => ?_)
  · rw [e] at hn k
    split at hn
    · rename_i o1 o2 ρ2 ee
      cases ee
      split at hn
      · rename_i hl
        simp only [if_pos hl] at k
        cases ro with
        | @cons v1 _ Fa vs1 _ Fs r1 t1 =>
          cases t1 with
          | @cons v2 _ Fb vs2 _ Fs2 r2 t2 =>
            cases t2
            refine ⟨v1, v2, rfl, ?_⟩
            obtain ⟨Fx, F1, F2, s1, pm1, pm2⟩ := sr.store r1 hl.1
            have hl2 : j < (ρ'.set i (some o1)).length := by rw [List.length_set]; exact hl.2
            obtain ⟨Fy, F3, F4, s2, pm3, pm4⟩ := s1.store r2 hl2
            have p1 : (Fa ++ (Fb ++ []) ++ F').Perm (Fx ++ (Fb ++ (Fa ++ F1))) := (List.Perm.append_left _ pm2).trans (perm_swap3 _ _ _ _)
            have st1 := st.cut p1
            have p2 : (Fb ++ (Fa ++ F1)).Perm (Fy ++ F4) := by
              refine (List.Perm.append_left Fb (pm1.symm.trans pm4)).trans ?_
              have e1 : (Fb ++ (Fy ++ F3)).Perm (Fy ++ (Fb ++ F3)) := by
                rw [← List.append_assoc, ← List.append_assoc]
                exact List.Perm.append_right _ List.perm_append_comm
              exact e1.trans (List.Perm.append_left Fy pm3.symm)
            exact k.nx _ rfl _ H' M' F4 (st1.cut p2) s2 ((Pin.set hpi).trans (Pin.set hpj))
      · exact absurd rfl hn
    · rename_i ee
      cases ee
    · exact absurd rfl hn
  · rw [e] at k; exact k.er x ρ' rfl cls dd σ H' M' F' st rx sr .refl
end PV

set_option Elab.async false
set_option linter.all false
set_option maxRecDepth 100000
/-! PV: evaluating sems -/
namespace PV
open PySem PySem.Spec PyProof.Rows L2

theorem eqD_int (a b : Int) : eqD (.int a) (.int b) = some (decide (a = b)) := by
  have e1 : (D.int a).pys? = some (.int a) := rfl
  have e2 : (D.int b).pys? = some (.int b) := rfl
  unfold eqD
  rw [e1, e2]
  show some (PyData.eqv (.int a) (.int b)) = _
  have e3 : PyData.eqv (.int a) (.int b) = (a == b) := by unfold PyData.eqv; rfl
  rw [e3]
  rfl
theorem log2_le {k n : Nat} (h : k < 2 ^ n) : k.log2 ≤ n := by
  by_cases h0 : k = 0
  · rw [h0]; exact Nat.le_trans (by decide) (Nat.zero_le n)
  · exact Nat.le_of_lt ((Nat.log2_lt h0).mpr h)
theorem mulOk_n {i j : Int} (a b : Nat) (hi : i.natAbs < 2 ^ a) (hj : j.natAbs < 2 ^ b) (h : a + b < 1000000) : mulOk i j = true := by
  have h1 := log2_le hi
  have h2 := log2_le hj
  unfold mulOk
  exact decide_eq_true (by omega)
theorem p200 : (2 : Nat) ^ 200 = 1606938044258990275541962092341162602522202993782792835301376 := by decide
theorem mulOk_t {i j : Int} (h1 : i.natAbs < 1606938044258990275541962092341162602522202993782792835301376) (h2 : j.natAbs < 1606938044258990275541962092341162602522202993782792835301376) : mulOk i j = true :=
  mulOk_n 200 200 (by rw [p200]; exact h1) (by rw [p200]; exact h2) (by decide)
theorem gMul_i {i j : Int} (h : mulOk i j = true) : gMul [.int i, .int j] = some (.fr (.int (i * j))) := by
  unfold gMul
  exact if_pos h
theorem gMul_t {i j : Int} (h1 : i.natAbs < 1606938044258990275541962092341162602522202993782792835301376) (h2 : j.natAbs < 1606938044258990275541962092341162602522202993782792835301376) : gMul [.int i, .int j] = some (.fr (.int (i * j))) := gMul_i (mulOk_t h1 h2)
theorem gFdiv_i {i j : Int} (h : 0 < j) (h2 : j < 1073741824) : gFdiv [.int i, .int j] = some (.fr (.int (i / j))) := if_pos (decide_eq_true ⟨h, h2⟩)
theorem gMod_i {i j : Int} (h : 0 < j) : gMod [.int i, .int j] = some (.fr (.int (i % j))) := if_pos (decide_eq_true h)
theorem gAdd_i (i j : Int) : gAdd [.int i, .int j] = some (.fr (.int (i + j))) := rfl
theorem gSub_i (i j : Int) : gSub [.int i, .int j] = some (.fr (.int (i - j))) := rfl
theorem gLt_i (i j : Int) : gLt [.int i, .int j] = some (.fr (.bl (decide (i < j)))) := rfl
theorem gLe_i (i j : Int) : gLe [.int i, .int j] = some (.fr (.bl (decide (i ≤ j)))) := rfl
theorem gGt_i (i j : Int) : gGt [.int i, .int j] = some (.fr (.bl (decide (j < i)))) := rfl
theorem gGe_i (i j : Int) : gGe [.int i, .int j] = some (.fr (.bl (decide (j ≤ i)))) := rfl
theorem gEq_i (i j : Int) : gEq [.int i, .int j] = some (.fr (.bl (decide (i = j)))) := by
  unfold gEq
  simp only [eqD_int, Option.map_some]
theorem gNe_i (i j : Int) : gNe [.int i, .int j] = some (.fr (.bl (!decide (i = j)))) := by
  unfold gNe
  simp only [eqD_int, Option.map_some]
theorem gIx_at {xs : List D} {i : Int} {d : D} (h : atI xs i = some d) : gIx [.lst xs, .int i] = some (.fr d) := by
  show (atI xs i).map _ = _
  rw [h]
  rfl
theorem gIx_t {xs : List D} {i : Int} {d : D} (h : atI xs i = some d) : gIx [.tup xs, .int i] = some (.fr d) := by
  show (atI xs i).map _ = _
  rw [h]
  rfl
theorem atI_nn {α : Type} {xs : List α} {i : Int} {d : α} (h : 0 ≤ i) (e : xs[i.toNat]? = some d) : atI xs i = some d := by
  have hl : i.toNat < xs.length := (List.getElem?_eq_some_iff.mp e).1
  unfold atI ixN
  rw [if_pos h, if_pos (by omega)]
  exact e
theorem atI_map {α β : Type} (f : α → β) {xs : List α} {i : Int} (h : 0 ≤ i) (h2 : i < xs.length) : ∃ x ∈ xs, atI (xs.map f) i = some (f x) := by
  have hl : i.toNat < xs.length := by omega
  refine ⟨xs[i.toNat], List.getElem_mem hl, atI_nn h ?_⟩
  rw [List.getElem?_map, List.getElem?_eq_getElem hl]
  rfl
theorem gIx5_0 (a b c d e : D) : gIx [.lst [a, b, c, d, e], .int 0] = some (.fr a) := rfl
theorem gIx5_1 (a b c d e : D) : gIx [.lst [a, b, c, d, e], .int 1] = some (.fr b) := rfl
theorem gIx5_2 (a b c d e : D) : gIx [.lst [a, b, c, d, e], .int 2] = some (.fr c) := rfl
theorem gIx5_3 (a b c d e : D) : gIx [.lst [a, b, c, d, e], .int 3] = some (.fr d) := rfl
theorem gIx5_4 (a b c d e : D) : gIx [.lst [a, b, c, d, e], .int 4] = some (.fr e) := rfl
theorem pow18 : gPow [.int 10, .int 18] = some (.fr (.int 1000000000000000000)) := rfl
theorem set5_0 (a b c d e x : D) (ρ : Env) (y : Option O) : (tgSub 0 (.e (evC (.int 0)))) (.fr x) (some (.ls [a, b, c, d, e]) :: ρ) = some (some (.ls [x, b, c, d, e]) :: ρ) := rfl
theorem set5_1 (a b c d e x : D) (ρ : Env) : (tgSub 0 (.e (evC (.int 1)))) (.fr x) (some (.ls [a, b, c, d, e]) :: ρ) = some (some (.ls [a, x, c, d, e]) :: ρ) := rfl
theorem set5_2 (a b c d e x : D) (ρ : Env) : (tgSub 0 (.e (evC (.int 2)))) (.fr x) (some (.ls [a, b, c, d, e]) :: ρ) = some (some (.ls [a, b, x, d, e]) :: ρ) := rfl
theorem set5_3 (a b c d e x : D) (ρ : Env) : (tgSub 0 (.e (evC (.int 3)))) (.fr x) (some (.ls [a, b, c, d, e]) :: ρ) = some (some (.ls [a, b, c, x, e]) :: ρ) := rfl
theorem set5_4 (a b c d e x : D) (ρ : Env) : (tgSub 0 (.e (evC (.int 4)))) (.fr x) (some (.ls [a, b, c, d, e]) :: ρ) = some (some (.ls [a, b, c, d, x]) :: ρ) := rfl
/-! the hand of a law -/
def HOk (c : Nat) (o : O) : Prop := ∃ (cells : List Int) (i big mix count : Int), o = .ls [.lst (cells.map .int), .int i, .int big, .int mix, .int count] ∧ (∀ x ∈ cells, 0 ≤ x) ∧ 0 ≤ i ∧ 0 ≤ big ∧ 0 ≤ mix ∧ mix < 2147483648 ∧ 0 ≤ count ∧ count ≤ c
theorem HOk.mono {c c' : Nat} {o : O} (h : HOk c o) (hc : c ≤ c') : HOk c' o := by
  obtain ⟨a, b, d, e, f, g, h1, h2, h3, h4, h5, h6, h7⟩ := h
  exact ⟨a, b, d, e, f, g, h1, h2, h3, h4, h5, h6, by omega⟩
end PV

set_option Elab.async false
set_option linter.all false
set_option maxRecDepth 100000
/-! law_k17_worth_of_any_numbers: what its defs compute -/
namespace K17
open PySem PySem.Spec PyProof.Rows L2 PV
/-! ### tables -/
def tb_bool : IsiT := [(.non, false), (.bl, true), (.int, false), (.str, false), (.tup, false), (.lst, false), (.dct, false), (.obj 0, false)]
def tb_int : IsiT := [(.non, false), (.bl, true), (.int, true), (.str, false), (.tup, false), (.lst, false), (.dct, false), (.obj 0, false)]
def tb_tuple : IsiT := [(.non, false), (.bl, false), (.int, false), (.str, false), (.tup, true), (.lst, false), (.dct, false), (.obj 0, false)]
def xb_NoColours : List (Nat × Bool) := [(0, false), (1, false), (2, true), (3, false)]
def xb_NoNumbers : List (Nat × Bool) := [(0, false), (1, false), (2, false), (3, true)]
def xb_ValueError : List (Nat × Bool) := [(0, true), (1, true), (2, true), (3, true)]
def ct_PaintError : List (Nat × Bool) := [(0, true), (1, true), (2, true), (3, true)]
def fldsOf : Nat → List Str
  | 0 => [("many" : Str), ("ties" : Str)]
  | _ => []
/-! ### sems -/
def g_is_integer : Sv := gRet (evAnd (opN [.sl 0] (gIsi tb_int)) (evNot (opN [.sl 0] (gIsi tb_bool))))
def f_is_integer : Fsem := semOf 1 1 [false] g_is_integer
def g_raw_worth_0 : Sv := gAsg (evC (.int 0)) (tgName 2)
def g_raw_worth_1 : Sv := gAsg (evFz (opN [.e (opN [.sl 2, .sl 1] gMul), .sl 3] gAdd)) (tgName 2)
def b_raw_worth_2 : Sv := g_raw_worth_1
def g_raw_worth_3 : Sv := gFor (eiSeq (opN [.sl 0] gRev)) (tgName 3) (b_raw_worth_2)
def g_raw_worth : Sv := gSeq (g_raw_worth_0) (gSeq (g_raw_worth_3) (gRet (evVar 2)))
def f_raw_worth : Fsem := semOf 4 2 [false, false] g_raw_worth
def g__law_hand_0 : Sv := gAsg (evFz (evLc 3 [2] (eiSeq (evSl (.sl 0) .no (.yes (.e (evC (.int 63)))))) (tgName 2) (etYes) (opN [.e (opN [.sl 2] gInt)] gAbs))) (tgName 1)
def g__law_hand : Sv := gSeq (g__law_hand_0) (gRet (evLst [.v (evVar 1), .v (evC (.int 0)), .v (evC (.int 0)), .v (opN [.e (evC (.int 41)), .e (opN [.sl 1] gLen)] gAdd), .v (evC (.int 0))]))
def f__law_hand : Fsem := semOf 3 1 [false] g__law_hand
def g__law_draw_0 : Sv := gAsg (opN [.e (opN [.sl 0, .e (evC (.int 0))] gIx), .e (opN [.sl 0, .e (evC (.int 1))] gIx)] gIx) (tgName 2)
def g__law_draw_1 : Sv := gAsg (opN [.e (opN [.sl 0, .e (evC (.int 1))] gIx), .e (evC (.int 1))] gAdd) (tgSub 0 (.e (evC (.int 1))))
def g__law_draw_2 : Sv := gAsg (opN [.e (opN [.e (opN [.e (opN [.e (opN [.e (opN [.sl 0, .e (evC (.int 3))] gIx), .e (evC (.int 69621))] gMul), .sl 2] gAdd), .e (evC (.int 11))] gAdd)] gInt), .e (evC (.int 2147483629))] gMod) (tgSub 0 (.e (evC (.int 3))))
def g__law_draw_3 : Sv := gAsg (evVar 2) (tgSub 0 (.e (evC (.int 2))))
def g__law_draw_4 : Sv := gIf (etB (opN [.sl 2, .e (opN [.e (evC (.int 10)), .e (evC (.int 18))] gPow)] gGe)) (g__law_draw_3) (gNx)
def g__law_draw_5 : Sv := gIf (etAnd (etB (opN [.e (opN [.sl 0, .e (evC (.int 2))] gIx), .e (evC (.int 0))] gEq)) (etB (opN [.e (opN [.sl 0, .e (evC (.int 1))] gIx), .e (opN [.e (opN [.sl 0, .e (evC (.int 0))] gIx)] gLen)] gLt))) (gSeq (g__law_draw_0) (gSeq (g__law_draw_1) (gSeq (g__law_draw_2) (g__law_draw_4)))) (gNx)
def g__law_draw_6 : Sv := gAsg (opN [.e (opN [.e (opN [.sl 0, .e (evC (.int 2))] gIx)] gInt), .sl 1] gMod) (tgName 3)
def g__law_draw_7 : Sv := gAsg (opN [.e (opN [.sl 0, .e (evC (.int 2))] gIx), .sl 1] gFdiv) (tgSub 0 (.e (evC (.int 2))))
def g__law_draw_8 : Sv := gIf (etB (opN [.e (opN [.sl 0, .e (evC (.int 2))] gIx), .e (evC (.int 0))] gGt)) (gSeq (g__law_draw_6) (gSeq (g__law_draw_7) (gRet (evVar 3)))) (gNx)
def g__law_draw_9 : Sv := gAsg (opN [.e (opN [.sl 0, .e (evC (.int 4))] gIx), .e (evC (.int 1))] gAdd) (tgSub 0 (.e (evC (.int 4))))
def g__law_draw_10 : Sv := gAsg (opN [.e (opN [.e (opN [.e (opN [.e (opN [.e (opN [.sl 0, .e (evC (.int 3))] gIx), .e (opN [.e (evC (.int 7919)), .e (opN [.sl 0, .e (evC (.int 4))] gIx)] gMul)] gAdd)] gInt), .e (evC (.int 48271))] gMul)] gInt), .e (evC (.int 2147483647))] gMod) (tgName 4)
def g__law_draw_11 : Sv := gAsg (opN [.e (opN [.e (opN [.sl 4, .e (opN [.e (opN [.sl 4, .e (evC (.int 1009))] gFdiv), .e (evC (.int 69621))] gAdd)] gMul)] gInt), .e (evC (.int 2147483647))] gMod) (tgName 4)
def g__law_draw_12 : Sv := gAsg (opN [.e (opN [.e (opN [.sl 4, .e (opN [.e (opN [.sl 4, .e (evC (.int 2003))] gFdiv), .e (evC (.int 40692))] gAdd)] gMul)] gInt), .e (evC (.int 2147483399))] gMod) (tgName 4)
def g__law_draw : Sv := gSeq (g__law_draw_5) (gSeq (g__law_draw_8) (gSeq (g__law_draw_9) (gSeq (g__law_draw_10) (gSeq (g__law_draw_11) (gSeq (g__law_draw_12) (gRet (opN [.e (opN [.e (opN [.sl 4, .e (evC (.int 16))] gFdiv)] gInt), .sl 1] gMod)))))))
def f__law_draw : Fsem := semOf 5 2 [true, false] g__law_draw
def g__law_sum_0 : Sv := gAsg (evC (.int 0)) (tgName 2)
def g__law_sum_1 : Sv := gAsg (evFz (opN [.e (opN [.sl 2, .sl 1] gMul), .sl 3] gAdd)) (tgName 2)
def b__law_sum_2 : Sv := g__law_sum_1
def g__law_sum_3 : Sv := gFor (eiSeq (opN [.sl 0] gRev)) (tgName 3) (b__law_sum_2)
def g__law_sum : Sv := gSeq (g__law_sum_0) (gSeq (g__law_sum_3) (gRet (evVar 2)))
def f__law_sum : Fsem := semOf 4 2 [false, false] g__law_sum
def g_is_number : Sv := gRet (evAnd (evCall f_is_integer [.v (evVar 0)]) (evChain (.e (evC (.int 0))) (.sl 0) (.sl 1) (fun i j => decide (i ≤ j)) (fun i j => decide (i ≤ j))))
def f_is_number : Fsem := semOf 2 2 [false, false] g_is_number
def g_is_within : Sv := gRet (evAnd (evCall f_is_integer [.v (evVar 0)]) (evChain (.sl 1) (.sl 0) (.sl 2) (fun i j => decide (i ≤ j)) (fun i j => decide (i ≤ j))))
def f_is_within : Fsem := semOf 3 3 [false, false, false] g_is_within
def g_worth_0 : Sv := gIf (etOr (etNot (etB (opN [.sl 0] (gIsi tb_tuple)))) (etOr (etB (opN [.e (opN [.sl 0] gLen), .e (evC (.int 64))] gGt)) (etNot (etB (opN [.e (evLc 3 [2] (eiSeq (evVar 0)) (tgName 2) (etYes) (evCall f_is_integer [.v (evVar 2)]))] gAll))))) (gRaise 3) (gNx)
def g_worth_1 : Sv := gIf (etNot (etB (evCall f_is_integer [.v (evVar 1)]))) (gRaise 2) (gNx)
def g_worth : Sv := gSeq (g_worth_0) (gSeq (g_worth_1) (gRet (evCall f_raw_worth [.v (evVar 0), .v (evVar 1)])))
def f_worth : Fsem := semOf 3 2 [false, false] g_worth
def g__law_any : Sv := gRet (opN [.sl 1, .e (evCall f__law_draw [.io 0, .v (opN [.sl 1] gLen)])] gIx)
def f__law_any : Fsem := semOf 2 2 [true, false] g__law_any
def g_is_tie_of_0 : Sv := gIf (etOr (etNot (etB (opN [.sl 1] (gIsi tb_tuple)))) (etOr (etB (opN [.e (opN [.sl 1] gLen), .e (evC (.int 2))] gNe)) (etNot (etB (opN [.e (evLc 3 [2] (eiSeq (evVar 1)) (tgName 2) (etYes) (evCall f_is_number [.v (evVar 2), .v (opN [.sl 0, .e (evC (.int 1))] gSub)]))] gAll))))) (gRet (evC (.bl false))) (gNx)
def g_is_tie_of : Sv := gSeq (g_is_tie_of_0) (gRet (opN [.e (opN [.sl 1, .e (evC (.int 0))] gIx), .e (opN [.sl 1, .e (evC (.int 1))] gIx)] gLe))
def f_is_tie_of : Fsem := semOf 3 2 [false, false] g_is_tie_of
def g__law_great_0 : Sv := gPar2 1 2 [.v (evCall f__law_draw [.io 0, .v (evC (.int 6))]), .v (evCall f__law_draw [.io 0, .v (opN [.e (evC (.int 10)), .e (evC (.int 9))] gPow)])]
def g__law_great_1 : Sv := gIf (etB (opN [.sl 1, .e (evC (.int 3))] gLt)) (gRet (evCall f__law_any [.io 0, .v (evLst [.v (evC (.int 0)), .v (evC (.int 0)), .v (evC (.int 1)), .v (opN [.e (evC (.int 1))] gNeg), .v (evC (.int 2)), .v (opN [.e (evC (.int 3))] gNeg), .v (evC (.int 7))])])) (gNx)
def g__law_great_2 : Sv := gIf (etB (opN [.sl 1, .e (evC (.int 3))] gEq)) (gRet (opN [.sl 2, .e (opN [.e (evC (.int 10)), .e (evC (.int 8))] gPow)] gSub)) (gNx)
def g__law_great : Sv := gSeq (g__law_great_0) (gSeq (g__law_great_1) (gSeq (g__law_great_2) (gRet (evCall f__law_any [.io 0, .v (evLst [.v (opN [.e (opN [.e (evC (.int 10)), .e (evC (.int 20))] gPow), .e (evC (.int 1))] gSub), .v (opN [.e (evC (.int 1)), .e (opN [.e (evC (.int 10)), .e (evC (.int 20))] gPow)] gSub), .v (opN [.e (opN [.e (evC (.int 10)), .e (evC (.int 10))] gPow), .sl 2] gAdd), .v (opN [.e (opN [.e (evC (.int 1))] gNeg), .e (opN [.sl 2, .e (opN [.e (evC (.int 10)), .e (evC (.int 11))] gPow)] gMul)] gSub)])]))))
def f__law_great : Fsem := semOf 3 1 [true] g__law_great
def g__law_deep_0 : Sv := gAsg (evFz (evCall f__law_any [.io 0, .v (evLst [.v (evC (.int 1)), .v (evTup []), .v (evC .non)])])) (tgName 1)
def g__law_deep_1 : Sv := gAsg (evFz (evCall f__law_any [.io 0, .v (evLst [.v (evTup [.v (evVar 1)]), .v (evLst [.v (evVar 1)])])])) (tgName 1)
def b__law_deep_2 : Sv := g__law_deep_1
def g__law_deep_3 : Sv := gFor (eiRange1 (.e (opN [.e (evC (.int 20)), .e (evCall f__law_draw [.io 0, .v (evC (.int 15))])] gAdd))) (tgName 2) (b__law_deep_2)
def g__law_deep : Sv := gSeq (g__law_deep_0) (gSeq (g__law_deep_3) (gRet (evVar 1)))
def f__law_deep : Fsem := semOf 3 1 [true] g__law_deep
def g__law_told_0 : Sv := gTryAs 2 ct_PaintError (gRet (evTup [.v (evC (.str ("told" : Str))), .v (evCall f_worth [.v (evVar 0), .v (evVar 1)])])) (fun x => match x.f with
    | none => gSeq (gAsg (evFz (evLst [.v (evIsX 2 xb_NoNumbers x.c), .v (evIsX 2 xb_NoColours x.c)])) (tgName 3)) (gSeq (gIf (etOr (etB (opN [.e (evLk 3 (evC (.bl true)) kCount), .e (evC (.int 1))] gNe)) (etNot (etB (evIsX 2 xb_ValueError x.c)))) (gRet (evTup [.v (evC (.str ("other" : Str))), .v (evC (.int 0))])) (gNx)) (gRet (evTup [.v (opN [.e (evLst [.v (evC (.str ("numbers" : Str))), .v (evC (.str ("colours" : Str)))]), .e (evLk 3 (evC (.bl true)) kIndex)] gIx), .v (evC (.int 0))])))
    | some _ => gSt)
def g__law_told : Sv := g__law_told_0
def f__law_told : Fsem := semOf 4 2 [false, false] g__law_told
def g_Web_init_0 : Sv := gIf (etNot (etB (evCall f_is_within [.v (evVar 1), .v (evC (.int 1)), .v (evC (.int 10))]))) (gSt) (gNx)
def g_Web_init_1 : Sv := gIf (etOr (etNot (etB (opN [.sl 2] (gIsi tb_tuple)))) (etB (opN [.e (opN [.sl 2] gLen), .e (evC (.int 16))] gGt))) (gSt) (gNx)
def g_Web_init_2 : Sv := gIf (etNot (etB (evCall f_is_tie_of [.v (evVar 1), .v (evVar 4)]))) (gSt) (gNx)
def b_Web_init_3 : Sv := g_Web_init_2
def g_Web_init_4 : Sv := gFor (eiEnum (.v (evVar 2))) (tgTup 2 (tgCons (tgName 3) (tgCons (tgName 4) (tgNil)))) (b_Web_init_3)
def g_Web_init_5 : Sv := gFldSet 0 0 0 (evVar 1)
def g_Web_init_6 : Sv := gFldSet 0 0 1 (evVar 2)
def g_Web_init : Sv := gSeq (g_Web_init_0) (gSeq (g_Web_init_1) (gSeq (g_Web_init_4) (gSeq (g_Web_init_5) (g_Web_init_6))))
def f_Web_init : Fsem := semOf 5 3 [true, false, false] g_Web_init
def g__law_no_numbers_0 : Sv := gAsg (evFz (evCall f__law_any [.io 0, .v (evLst [.v (evC (.bl true)), .v (evC (.bl false)), .v (evC .non), .v (evC (.str ("1" : Str))), .v (evTup [.v (evC (.int 1))]), .v (evLst [.v (evC (.int 1))]), .v (evC (.dct [] [])), .v (evMk 0 f_Web_init [.v (evC (.int 1)), .v (evTup [])]), .v (evCall f__law_deep [.io 0])])])) (tgName 2)
def g__law_no_numbers_1 : Sv := gAsg (evFz (evCall f__law_draw [.io 0, .v (opN [.e (opN [.sl 1] gLen), .e (evC (.int 1))] gAdd)])) (tgName 3)
def g__law_no_numbers_2 : Sv := gAsg (evLst [.v (opN [.sl 1] gList), .v (evC .non), .v (evC (.int 5)), .v (evC (.str ("12" : Str))), .v (evC (.dct [.int 1] [.int 2])), .v (evMk 0 f_Web_init [.v (evC (.int 2)), .v (evTup [.v (evTup [.v (evC (.int 0)), .v (evC (.int 1))])])]), .v (opN [.e (evTup [.v (evC (.int 1))]), .e (evC (.int 65))] gMul), .v (opN [.e (evTup [.v (evC (.int 0))]), .e (evC (.int 65))] gMul), .v (opN [.e (evTup [.v (evC (.int 1))]), .e (evC (.int 200))] gMul)]) (tgName 4)
def g__law_no_numbers_3 : Sv := gDrop (evMeth 4 [.v (evCall f__law_deep [.io 0])] mAppend)
def g__law_no_numbers : Sv := gSeq (g__law_no_numbers_0) (gSeq (g__law_no_numbers_1) (gSeq (g__law_no_numbers_2) (gSeq (g__law_no_numbers_3) (gRet (evCall f__law_any [.io 0, .v (opN [.e (opN [.e (opN [.e (evLst [.v (opN [.e (opN [.e (evSl (.sl 1) .no (.yes (.sl 3))), .e (evTup [.v (evVar 2)])] gAdd), .e (evSl (.sl 1) (.yes (.e (opN [.sl 3, .e (evC (.int 1))] gAdd))) .no)] gAdd), .v (evTup [.v (evVar 2)]), .v (opN [.e (evTup [.v (evC (.int 1)), .v (evC (.int 2))]), .e (evTup [.v (evVar 2)])] gAdd)]), .e (evC (.int 3))] gMul), .sl 4] gAdd), .e (evLst [.v (evC (.bl true))])] gAdd)])))))
def f__law_no_numbers : Fsem := semOf 5 2 [true, false] g__law_no_numbers
def g__law_no_colours : Sv := gRet (evCall f__law_any [.io 0, .v (evLst [.v (evC (.bl true)), .v (evC (.bl false)), .v (evC .non), .v (evC (.str ("3" : Str))), .v (evTup [.v (evC (.int 3))]), .v (evLst [.v (evC (.int 3))]), .v (evC (.dct [] [])), .v (evMk 0 f_Web_init [.v (evC (.int 3)), .v (evTup [])]), .v (evCall f__law_deep [.io 0])])])
def f__law_no_colours : Fsem := semOf 1 1 [true] g__law_no_colours
def g_law_0 : Sv := gAsg (evCall f__law_hand [.v (evVar 0)]) (tgName 1)
def g_law_1 : Sv := gAsg (evFz (evCall f__law_any [.io 1, .v (evLst [.v (evC (.int 0)), .v (evC (.int 1)), .v (evC (.int 2)), .v (evC (.int 3)), .v (evC (.int 4)), .v (evC (.int 7)), .v (evC (.int 11)), .v (evC (.int 63)), .v (evC (.int 64)), .v (evCall f__law_draw [.io 1, .v (evC (.int 65))])])])) (tgName 3)
def g_law_2 : Sv := gAsg (opN [.e (evLc 11 [10] (eiRange1 (.sl 3)) (tgName 10) (etYes) (evCall f__law_great [.io 1]))] gTuple) (tgName 4)
def g_law_3 : Sv := gAsg (evFz (evCall f__law_any [.io 1, .v (evLst [.v (evC (.int 0)), .v (evC (.int 0)), .v (evC (.int 1)), .v (opN [.e (evC (.int 1))] gNeg), .v (evC (.int 2)), .v (opN [.e (evC (.int 2))] gNeg), .v (evC (.int 3)), .v (evCall f__law_great [.io 1]), .v (evCall f__law_great [.io 1])])])) (tgName 5)
def g_law_4 : Sv := gAsg (evCall f__law_told [.v (evVar 4), .v (evVar 5)]) (tgTup 2 (tgCons (tgName 6) (tgCons (tgName 7) (tgNil))))
def g_law_5 : Sv := gIf (etOr (etB (opN [.sl 6, .e (evC (.str ("told" : Str)))] gNe)) (etOr (etB (opN [.sl 7] (gIsi tb_bool))) (etOr (etNot (etB (opN [.sl 7] (gIsi tb_int)))) (etB (opN [.sl 7, .e (evCall f__law_sum [.v (evVar 4), .v (evVar 5)])] gNe))))) (gRet (evC (.bl false))) (gNx)
def g_law_6 : Sv := gPar2 8 9 [.v (evCall f__law_no_numbers [.io 1, .v (evVar 4)]), .v (evCall f__law_no_colours [.io 1])]
def g_law_7 : Sv := gIf (etOr (etB (opN [.e (evCall f__law_told [.v (evVar 8), .v (evVar 5)]), .e (evTup [.v (evC (.str ("numbers" : Str))), .v (evC (.int 0))])] gNe)) (etB (opN [.e (evCall f__law_told [.v (evVar 8), .v (evVar 9)]), .e (evTup [.v (evC (.str ("numbers" : Str))), .v (evC (.int 0))])] gNe))) (gRet (evC (.bl false))) (gNx)
def g_law_8 : Sv := gIf (etB (opN [.e (evCall f__law_told [.v (evVar 4), .v (evVar 9)]), .e (evTup [.v (evC (.str ("colours" : Str))), .v (evC (.int 0))])] gNe)) (gRet (evC (.bl false))) (gNx)
def b_law_9 : Sv := gSeq (g_law_1) (gSeq (g_law_2) (gSeq (g_law_3) (gSeq (g_law_4) (gSeq (g_law_5) (gSeq (g_law_6) (gSeq (g_law_7) (g_law_8)))))))
def g_law_10 : Sv := gFor (eiRange1 (.e (evC (.int 8)))) (tgName 2) (b_law_9)
def g_law : Sv := gSeq (g_law_0) (gSeq (g_law_10) (gRet (evAnd (opN [.e (evCall f__law_told [.v (evTup []), .v (evCall f__law_great [.io 1])]), .e (evTup [.v (evC (.str ("told" : Str))), .v (evC (.int 0))])] gEq) (opN [.e (evCall f__law_told [.v (evTup []), .v (evC .non)]), .e (evTup [.v (evC (.str ("colours" : Str))), .v (evC (.int 0))])] gEq))))
def f_law : Fsem := semOf 11 1 [false] g_law
end K17

set_option Elab.async false
set_option linter.all false
set_option maxRecDepth 100000
/-! k17: the plain law -/
namespace K17
open PySem PySem.Spec PyProof.Rows L2 PV

theorem draw_5 {cells : List Int} {i big mix count m : Int} (hc : ∀ x ∈ cells, 0 ≤ x) (h1 : 0 ≤ i) (h2 : 0 ≤ big) (h3 : 0 ≤ mix) (h4 : mix < 2147483648) :
    ∃ (i' big' mix' : Int) (x : Option O), g__law_draw_5 [some (.ls [.lst (cells.map .int), .int i, .int big, .int mix, .int count]), some (.fr (.int m)), none, none, none] =
      .nx [some (.ls [.lst (cells.map .int), .int i', .int big', .int mix', .int count]), some (.fr (.int m)), x, none, none] ∧ 0 ≤ i' ∧ 0 ≤ big' ∧ 0 ≤ mix' ∧ mix' < 2147483648 := by
  by_cases hb : big = 0
  · by_cases hi : i < cells.length
    · obtain ⟨cell, hm, he⟩ := atI_map D.int h1 hi
      have hcell := hc cell hm
      by_cases h18 : 1000000000000000000 ≤ cell
      · refine ⟨i + 1, cell, (mix * 69621 + cell + 11) % 2147483629, some (.fr (.int cell)), ?_, by omega, by omega, by omega, by omega⟩
        simp (disch := omega) only [g__law_draw_5, g__law_draw_0, g__law_draw_1, g__law_draw_2, g__law_draw_3, g__law_draw_4, evC, evVar, evMv, evFz, opN, runs, fins, Opd.run, Opd.fin, viewO, frO, frOs, R.bind_ok, R.bind_er, R.bind_st, runA, evTup, evLst, opA, gTupD, gLstD, evCall, putBack, etB, etNot, etAnd, etOr, gSeq, gIf, gAsg, gRet, gRetN, gDrop, gNx, tgName, outsM, List.getElem?_cons_zero, List.getElem?_cons_succ, List.set_cons_zero, List.set_cons_succ, List.length_cons, List.length_nil, if_true, if_false, Bool.not_true, Bool.not_false, List.map_cons, List.map_nil, List.cons_append, List.nil_append, Option.map_some, gAdd_i, gSub_i, gMul_t, gFdiv_i, gMod_i, gLt_i, gLe_i, gGt_i, gGe_i, gEq_i, gNe_i, gInt, gLen, gAbs, Nat.reduceAdd, Nat.reduceLT, reduceIte, Nat.reduceEqDiff, Bool.false_eq_true, List.replicate, Nat.reduceSub, semOf, eq_self, gIx5_0, gIx5_1, gIx5_2, gIx5_3, gIx5_4, hb, hi, decide_true, gIx_at he, set5_1, set5_2, set5_3, pow18, h18, List.length_map]
      · refine ⟨i + 1, 0, (mix * 69621 + cell + 11) % 2147483629, some (.fr (.int cell)), ?_, by omega, by omega, by omega, by omega⟩
        simp (disch := omega) only [g__law_draw_5, g__law_draw_0, g__law_draw_1, g__law_draw_2, g__law_draw_3, g__law_draw_4, evC, evVar, evMv, evFz, opN, runs, fins, Opd.run, Opd.fin, viewO, frO, frOs, R.bind_ok, R.bind_er, R.bind_st, runA, evTup, evLst, opA, gTupD, gLstD, evCall, putBack, etB, etNot, etAnd, etOr, gSeq, gIf, gAsg, gRet, gRetN, gDrop, gNx, tgName, outsM, List.getElem?_cons_zero, List.getElem?_cons_succ, List.set_cons_zero, List.set_cons_succ, List.length_cons, List.length_nil, if_true, if_false, Bool.not_true, Bool.not_false, List.map_cons, List.map_nil, List.cons_append, List.nil_append, Option.map_some, gAdd_i, gSub_i, gMul_t, gFdiv_i, gMod_i, gLt_i, gLe_i, gGt_i, gGe_i, gEq_i, gNe_i, gInt, gLen, gAbs, Nat.reduceAdd, Nat.reduceLT, reduceIte, Nat.reduceEqDiff, Bool.false_eq_true, List.replicate, Nat.reduceSub, semOf, eq_self, gIx5_0, gIx5_1, gIx5_2, gIx5_3, gIx5_4, hb, hi, decide_true, gIx_at he, set5_1, set5_2, set5_3, pow18, h18, List.length_map, decide_false, Bool.false_eq_true]
    · refine ⟨i, big, mix, none, ?_, h1, h2, h3, h4⟩
      simp (disch := omega) only [g__law_draw_5, evC, evVar, evMv, evFz, opN, runs, fins, Opd.run, Opd.fin, viewO, frO, frOs, R.bind_ok, R.bind_er, R.bind_st, runA, evTup, evLst, opA, gTupD, gLstD, evCall, putBack, etB, etNot, etAnd, etOr, gSeq, gIf, gAsg, gRet, gRetN, gDrop, gNx, tgName, outsM, List.getElem?_cons_zero, List.getElem?_cons_succ, List.set_cons_zero, List.set_cons_succ, List.length_cons, List.length_nil, if_true, if_false, Bool.not_true, Bool.not_false, List.map_cons, List.map_nil, List.cons_append, List.nil_append, Option.map_some, gAdd_i, gSub_i, gMul_t, gFdiv_i, gMod_i, gLt_i, gLe_i, gGt_i, gGe_i, gEq_i, gNe_i, gInt, gLen, gAbs, Nat.reduceAdd, Nat.reduceLT, reduceIte, Nat.reduceEqDiff, Bool.false_eq_true, List.replicate, Nat.reduceSub, semOf, eq_self, gIx5_0, gIx5_1, gIx5_2, hb, hi, decide_true, decide_false, Bool.false_eq_true, List.length_map]
  · refine ⟨i, big, mix, none, ?_, h1, h2, h3, h4⟩
    simp (disch := omega) only [g__law_draw_5, evC, evVar, evMv, evFz, opN, runs, fins, Opd.run, Opd.fin, viewO, frO, frOs, R.bind_ok, R.bind_er, R.bind_st, runA, evTup, evLst, opA, gTupD, gLstD, evCall, putBack, etB, etNot, etAnd, etOr, gSeq, gIf, gAsg, gRet, gRetN, gDrop, gNx, tgName, outsM, List.getElem?_cons_zero, List.getElem?_cons_succ, List.set_cons_zero, List.set_cons_succ, List.length_cons, List.length_nil, if_true, if_false, Bool.not_true, Bool.not_false, List.map_cons, List.map_nil, List.cons_append, List.nil_append, Option.map_some, gAdd_i, gSub_i, gMul_t, gFdiv_i, gMod_i, gLt_i, gLe_i, gGt_i, gGe_i, gEq_i, gNe_i, gInt, gLen, gAbs, Nat.reduceAdd, Nat.reduceLT, reduceIte, Nat.reduceEqDiff, Bool.false_eq_true, List.replicate, Nat.reduceSub, semOf, eq_self, gIx5_0, gIx5_1, gIx5_2, hb, decide_true, decide_false, Bool.false_eq_true]
theorem draw_ok {c : Nat} {o : O} {m : Int} (h : HOk c o) (hc : c ≤ 1000000000) (hm : 0 < m) (hm2 : m < 1073741824) : ∃ (d : Int) (o' : O), HOk (c + 1) o' ∧ 0 ≤ d ∧ d < m ∧ f__law_draw [o, .fr (.int m)] = .ok (.fr (.int d)) [some o', none] := by
  obtain ⟨cells, i, big, mix, count, rfl, hcells, hi, hbig, hmix, hmix2, hcount, hcount2⟩ := h
  obtain ⟨i', big', mix', x, e, a1, a2, a3, a4⟩ := draw_5 (m := m) (count := count) hcells hi hbig hmix hmix2
  by_cases hb : 0 < big'
  · refine ⟨big' % m, .ls [.lst (cells.map .int), .int i', .int (big' / m), .int mix', .int count], ⟨cells, i', big' / m, mix', count, rfl, hcells, a1, Int.ediv_nonneg a2 (by omega), a3, a4, hcount, by omega⟩, Int.emod_nonneg _ (by omega), Int.emod_lt_of_pos _ hm, ?_⟩
    simp (disch := omega) only [f__law_draw, g__law_draw, semOf, List.replicate, Nat.reduceSub, e, g__law_draw_8, g__law_draw_7, g__law_draw_6, evC, evVar, evMv, evFz, opN, runs, fins, Opd.run, Opd.fin, viewO, frO, frOs, R.bind_ok, R.bind_er, R.bind_st, runA, evTup, evLst, opA, gTupD, gLstD, evCall, putBack, etB, etNot, etAnd, etOr, gSeq, gIf, gAsg, gRet, gRetN, gDrop, gNx, tgName, outsM, List.getElem?_cons_zero, List.getElem?_cons_succ, List.set_cons_zero, List.set_cons_succ, List.length_cons, List.length_nil, if_true, if_false, Bool.not_true, Bool.not_false, List.map_cons, List.map_nil, List.cons_append, List.nil_append, Option.map_some, gAdd_i, gSub_i, gMul_t, gFdiv_i, gMod_i, gLt_i, gLe_i, gGt_i, gGe_i, gEq_i, gNe_i, gInt, gLen, gAbs, Nat.reduceAdd, Nat.reduceLT, reduceIte, Nat.reduceEqDiff, Bool.false_eq_true, List.replicate, Nat.reduceSub, semOf, eq_self, gIx5_2, set5_2, hb, decide_true]
  · generalize hn1 : ((mix' + 7919 * (count + 1)) * 48271) % 2147483647 = n1
    generalize hn2 : (n1 * (n1 / 1009 + 69621)) % 2147483647 = n2
    generalize hn3 : (n2 * (n2 / 2003 + 40692)) % 2147483399 = n3
    refine ⟨n3 / 16 % m, .ls [.lst (cells.map .int), .int i', .int big', .int mix', .int (count + 1)], ⟨cells, i', big', mix', count + 1, rfl, hcells, a1, a2, a3, a4, by omega, by omega⟩, Int.emod_nonneg _ (by omega), Int.emod_lt_of_pos _ hm, ?_⟩
    simp (disch := omega) only [f__law_draw, g__law_draw, semOf, List.replicate, Nat.reduceSub, e, g__law_draw_8, g__law_draw_9, g__law_draw_10, g__law_draw_11, g__law_draw_12, evC, evVar, evMv, evFz, opN, runs, fins, Opd.run, Opd.fin, viewO, frO, frOs, R.bind_ok, R.bind_er, R.bind_st, runA, evTup, evLst, opA, gTupD, gLstD, evCall, putBack, etB, etNot, etAnd, etOr, gSeq, gIf, gAsg, gRet, gRetN, gDrop, gNx, tgName, outsM, List.getElem?_cons_zero, List.getElem?_cons_succ, List.set_cons_zero, List.set_cons_succ, List.length_cons, List.length_nil, if_true, if_false, Bool.not_true, Bool.not_false, List.map_cons, List.map_nil, List.cons_append, List.nil_append, Option.map_some, gAdd_i, gSub_i, gMul_t, gFdiv_i, gMod_i, gLt_i, gLe_i, gGt_i, gGe_i, gEq_i, gNe_i, gInt, gLen, gAbs, Nat.reduceAdd, Nat.reduceLT, reduceIte, Nat.reduceEqDiff, Bool.false_eq_true, List.replicate, Nat.reduceSub, semOf, eq_self, gIx5_2, gIx5_3, gIx5_4, set5_4, hb, decide_false, Bool.false_eq_true, hn1, hn2, hn3]

theorem atI_in {α : Type} {xs : List α} {i : Int} (h : 0 ≤ i) (h2 : i < xs.length) : ∃ x ∈ xs, atI xs i = some x := by
  have hl : i.toNat < xs.length := by omega
  exact ⟨xs[i.toNat], List.getElem_mem hl, atI_nn h (List.getElem?_eq_getElem hl)⟩
theorem any_ok {c : Nat} {o : O} {ds : List D} (h : HOk c o) (hc : c ≤ 1000000000) (h1 : 0 < ds.length) (h2 : ds.length < 1000000000) : ∃ d ∈ ds, ∃ (o' : O), HOk (c + 1) o' ∧ f__law_any [o, .fr (.lst ds)] = .ok (.fr d) [some o', none] := by
  obtain ⟨i, o', ho, h3, h4, e⟩ := draw_ok (m := ds.length) h hc (by omega) (by omega)
  obtain ⟨d, hd, he⟩ := atI_in h3 h4
  refine ⟨d, hd, o', ho, ?_⟩
  simp (disch := omega) only [f__law_any, g__law_any, evC, evVar, evMv, evFz, opN, runs, fins, Opd.run, Opd.fin, viewO, frO, frOs, R.bind_ok, R.bind_er, R.bind_st, runA, evTup, evLst, opA, gTupD, gLstD, evCall, putBack, etB, etNot, etAnd, etOr, gSeq, gIf, gAsg, gRet, gRetN, gDrop, gNx, tgName, outsM, List.getElem?_cons_zero, List.getElem?_cons_succ, List.set_cons_zero, List.set_cons_succ, List.length_cons, List.length_nil, if_true, if_false, Bool.not_true, Bool.not_false, List.map_cons, List.map_nil, List.cons_append, List.nil_append, Option.map_some, gAdd_i, gSub_i, gMul_t, gFdiv_i, gMod_i, gLt_i, gLe_i, gGt_i, gGe_i, gEq_i, gNe_i, gInt, gLen, gAbs, Nat.reduceAdd, Nat.reduceLT, reduceIte, Nat.reduceEqDiff, Bool.false_eq_true, List.replicate, Nat.reduceSub, semOf, eq_self, e, gIx_at he]
def isInt : D → Bool
  | .int _ => true
  | _ => false
def Kd : D → Bool
  | .non => true
  | .bl _ => true
  | .int _ => true
  | .str _ => true
  | .tup _ => true
  | .lst _ => true
  | .dct _ _ => true
  | .obj 0 _ => true
  | _ => false
theorem is_integer_ok {d : D} (h : Kd d = true) : f_is_integer [.fr d] = .ok (.fr (.bl (isInt d))) [none] := by
  cases d with
  | non => rfl
  | bl b => rfl
  | int i => rfl
  | str s => rfl
  | tup xs => rfl
  | lst xs => rfl
  | dct ks vs => rfl
  | obj c xs =>
    cases c with
    | zero => rfl
    | succ n => cases h
  | scr xs => cases h
  | fn i => cases h
  | junk => cases h
theorem boolsD_map {α : Type} (f : α → Bool) : ∀ xs : List α, boolsD (xs.map fun x => .bl (f x)) = some (xs.map f)
  | [] => rfl
  | x :: xs => by
    show (boolsD (xs.map fun x => .bl (f x))).map (f x :: ·) = _
    rw [boolsD_map f xs]
    rfl
theorem wipe2 (a b c : Option O) : wipeE [a, b, c] [2] = [a, b, none] := rfl
theorem ints_lc {a b : Option O} : ∀ (ds acc : List D), (∀ d ∈ ds, Kd d = true) → lcL [2] (tgName 2) etYes (evCall f_is_integer [.v (evVar 2)]) ds acc [a, b, none] = .ok (acc ++ ds.map fun d => .bl (isInt d)) [a, b, none]
  | [], acc, _ => by
    show R.ok acc _ = _
    rw [List.map_nil, List.append_nil]
  | d :: ds, acc, h => by
    have ih := ints_lc (a := a) (b := b) ds (acc ++ [.bl (isInt d)]) fun x hx => h x (List.mem_cons_of_mem _ hx)
    have e := is_integer_ok (h d List.mem_cons_self)
    unfold lcL
    simp only [evC, evVar, evMv, evFz, opN, runs, fins, Opd.run, Opd.fin, viewO, frO, frOs, R.bind_ok, R.bind_er, R.bind_st, runA, evTup, evLst, opA, gTupD, gLstD, evCall, putBack, etB, etNot, etAnd, etOr, gSeq, gIf, gAsg, gRet, gRetN, gDrop, gNx, tgName, outsM, List.getElem?_cons_zero, List.getElem?_cons_succ, List.set_cons_zero, List.set_cons_succ, List.length_cons, List.length_nil, if_true, if_false, Bool.not_true, Bool.not_false, List.map_cons, List.map_nil, List.cons_append, List.nil_append, Option.map_some, gAdd_i, gSub_i, gMul_t, gFdiv_i, gMod_i, gLt_i, gLe_i, gGt_i, gGe_i, gEq_i, gNe_i, gInt, gLen, gAbs, Nat.reduceAdd, Nat.reduceLT, reduceIte, Nat.reduceEqDiff, Bool.false_eq_true, List.replicate, Nat.reduceSub, semOf, eq_self, etYes, e, wipe2, ih, List.map_cons, List.append_assoc]
theorem all_ints {ds : List D} {b : Option O} (h : ∀ d ∈ ds, Kd d = true) : evLc 3 [2] (eiSeq (evVar 0)) (tgName 2) etYes (evCall f_is_integer [.v (evVar 2)]) [some (.fr (.tup ds)), b, none] = .ok (.ls (ds.map fun d => .bl (isInt d))) [some (.fr (.tup ds)), b, none] := by
  unfold evLc
  simp only [eiSeq, evC, evVar, evMv, evFz, opN, runs, fins, Opd.run, Opd.fin, viewO, frO, frOs, R.bind_ok, R.bind_er, R.bind_st, runA, evTup, evLst, opA, gTupD, gLstD, evCall, putBack, etB, etNot, etAnd, etOr, gSeq, gIf, gAsg, gRet, gRetN, gDrop, gNx, tgName, outsM, List.getElem?_cons_zero, List.getElem?_cons_succ, List.set_cons_zero, List.set_cons_succ, List.length_cons, List.length_nil, if_true, if_false, Bool.not_true, Bool.not_false, List.map_cons, List.map_nil, List.cons_append, List.nil_append, Option.map_some, gAdd_i, gSub_i, gMul_t, gFdiv_i, gMod_i, gLt_i, gLe_i, gGt_i, gGe_i, gEq_i, gNe_i, gInt, gLen, gAbs, Nat.reduceAdd, Nat.reduceLT, reduceIte, Nat.reduceEqDiff, Bool.false_eq_true, List.replicate, Nat.reduceSub, semOf, eq_self, itemsD, wipe2, ints_lc ds [] h, backE, List.nil_append]
def Nums (d : D) : Prop := ∃ ns : List Int, d = .tup (ns.map .int) ∧ ns.length ≤ 64
def NoNums (d : D) : Prop := Kd d = true ∧ ∀ ds, d = .tup ds → 64 < ds.length ∨ ((∀ x ∈ ds, Kd x = true) ∧ ds.all isInt = false)
theorem isi_tuple {d : D} (h : Kd d = true) : gIsi tb_tuple [d] = some (.fr (.bl (match d with | .tup _ => true | _ => false))) := by
  cases d with
  | obj c xs =>
    cases c with
    | zero => rfl
    | succ n => cases h
  | scr xs => cases h
  | fn i => cases h
  | junk => cases h
  | _ => rfl
theorem gAll_map {ds : List D} : gAll [.lst (ds.map fun d => .bl (isInt d))] = some (.fr (.bl ((ds.map isInt).all id))) := by
  show (boolsD _).map _ = _
  rw [boolsD_map]
  rfl
theorem all_id (ds : List D) : (ds.map isInt).all id = ds.all isInt := by
  rw [List.all_map]
  rfl
theorem worth_bad {N Q : D} (h : NoNums N) : f_worth [.fr N, .fr Q] = .er ⟨3, none⟩ := by
  obtain ⟨hk, ht⟩ := h
  by_cases htup : ∃ ds, N = .tup ds
  · obtain ⟨ds, rfl⟩ := htup
    have ei := isi_tuple hk
    rcases ht ds rfl with hl | ⟨h1, h2⟩
    · have hl' : (64 : Int) < (ds.length : Int) := by omega
      simp only [f_worth, g_worth, g_worth_0, evC, evVar, evMv, evFz, opN, runs, fins, Opd.run, Opd.fin, viewO, frO, frOs, R.bind_ok, R.bind_er, R.bind_st, runA, evTup, evLst, opA, gTupD, gLstD, evCall, putBack, etB, etNot, etAnd, etOr, gSeq, gIf, gAsg, gRet, gRetN, gDrop, gNx, tgName, outsM, List.getElem?_cons_zero, List.getElem?_cons_succ, List.set_cons_zero, List.set_cons_succ, List.length_cons, List.length_nil, if_true, if_false, Bool.not_true, Bool.not_false, List.map_cons, List.map_nil, List.cons_append, List.nil_append, Option.map_some, gAdd_i, gSub_i, gMul_t, gFdiv_i, gMod_i, gLt_i, gLe_i, gGt_i, gGe_i, gEq_i, gNe_i, gInt, gLen, gAbs, Nat.reduceAdd, Nat.reduceLT, reduceIte, Nat.reduceEqDiff, Bool.false_eq_true, List.replicate, Nat.reduceSub, semOf, eq_self, ei, hl', decide_true, gRaise]
    · by_cases hl : (64 : Int) < (ds.length : Int)
      · simp only [f_worth, g_worth, g_worth_0, evC, evVar, evMv, evFz, opN, runs, fins, Opd.run, Opd.fin, viewO, frO, frOs, R.bind_ok, R.bind_er, R.bind_st, runA, evTup, evLst, opA, gTupD, gLstD, evCall, putBack, etB, etNot, etAnd, etOr, gSeq, gIf, gAsg, gRet, gRetN, gDrop, gNx, tgName, outsM, List.getElem?_cons_zero, List.getElem?_cons_succ, List.set_cons_zero, List.set_cons_succ, List.length_cons, List.length_nil, if_true, if_false, Bool.not_true, Bool.not_false, List.map_cons, List.map_nil, List.cons_append, List.nil_append, Option.map_some, gAdd_i, gSub_i, gMul_t, gFdiv_i, gMod_i, gLt_i, gLe_i, gGt_i, gGe_i, gEq_i, gNe_i, gInt, gLen, gAbs, Nat.reduceAdd, Nat.reduceLT, reduceIte, Nat.reduceEqDiff, Bool.false_eq_true, List.replicate, Nat.reduceSub, semOf, eq_self, ei, hl, decide_true, gRaise]
      · simp only [f_worth, g_worth, g_worth_0, evC, evVar, evMv, evFz, opN, runs, fins, Opd.run, Opd.fin, viewO, frO, frOs, R.bind_ok, R.bind_er, R.bind_st, runA, evTup, evLst, opA, gTupD, gLstD, evCall, putBack, etB, etNot, etAnd, etOr, gSeq, gIf, gAsg, gRet, gRetN, gDrop, gNx, tgName, outsM, List.getElem?_cons_zero, List.getElem?_cons_succ, List.set_cons_zero, List.set_cons_succ, List.length_cons, List.length_nil, if_true, if_false, Bool.not_true, Bool.not_false, List.map_cons, List.map_nil, List.cons_append, List.nil_append, Option.map_some, gAdd_i, gSub_i, gMul_t, gFdiv_i, gMod_i, gLt_i, gLe_i, gGt_i, gGe_i, gEq_i, gNe_i, gInt, gLen, gAbs, Nat.reduceAdd, Nat.reduceLT, reduceIte, Nat.reduceEqDiff, Bool.false_eq_true, List.replicate, Nat.reduceSub, semOf, eq_self, ei, hl, decide_false, all_ints h1, gAll_map, all_id, h2, gRaise]
  · have ei : gIsi tb_tuple [N] = some (.fr (.bl false)) := by
      rw [isi_tuple hk]
      cases N with
      | tup ds => exact absurd ⟨ds, rfl⟩ htup
      | _ => rfl
    simp only [f_worth, g_worth, g_worth_0, evC, evVar, evMv, evFz, opN, runs, fins, Opd.run, Opd.fin, viewO, frO, frOs, R.bind_ok, R.bind_er, R.bind_st, runA, evTup, evLst, opA, gTupD, gLstD, evCall, putBack, etB, etNot, etAnd, etOr, gSeq, gIf, gAsg, gRet, gRetN, gDrop, gNx, tgName, outsM, List.getElem?_cons_zero, List.getElem?_cons_succ, List.set_cons_zero, List.set_cons_succ, List.length_cons, List.length_nil, if_true, if_false, Bool.not_true, Bool.not_false, List.map_cons, List.map_nil, List.cons_append, List.nil_append, Option.map_some, gAdd_i, gSub_i, gMul_t, gFdiv_i, gMod_i, gLt_i, gLe_i, gGt_i, gGe_i, gEq_i, gNe_i, gInt, gLen, gAbs, Nat.reduceAdd, Nat.reduceLT, reduceIte, Nat.reduceEqDiff, Bool.false_eq_true, List.replicate, Nat.reduceSub, semOf, eq_self, ei, gRaise]
theorem kd_ints {ns : List Int} : ∀ d ∈ ns.map D.int, Kd d = true := by
  intro d hd
  obtain ⟨n, _, rfl⟩ := List.mem_map.mp hd
  rfl
theorem all_isInt : ∀ ns : List Int, (ns.map D.int).all isInt = true
  | [] => rfl
  | n :: ns => by rw [List.map_cons, List.all_cons, all_isInt ns]; rfl
theorem worth_col {N Q : D} (h : Nums N) (hk : Kd Q = true) (hq : isInt Q = false) : f_worth [.fr N, .fr Q] = .er ⟨2, none⟩ := by
  obtain ⟨ns, rfl, hl⟩ := h
  have hl' : ¬ (64 : Int) < ((ns.map D.int).length : Int) := by rw [List.length_map]; omega
  have ei := isi_tuple (d := .tup (ns.map .int)) rfl
  have eq := is_integer_ok hk
  simp only [f_worth, g_worth, g_worth_0, g_worth_1, evC, evVar, evMv, evFz, opN, runs, fins, Opd.run, Opd.fin, viewO, frO, frOs, R.bind_ok, R.bind_er, R.bind_st, runA, evTup, evLst, opA, gTupD, gLstD, evCall, putBack, etB, etNot, etAnd, etOr, gSeq, gIf, gAsg, gRet, gRetN, gDrop, gNx, tgName, outsM, List.getElem?_cons_zero, List.getElem?_cons_succ, List.set_cons_zero, List.set_cons_succ, List.length_cons, List.length_nil, if_true, if_false, Bool.not_true, Bool.not_false, List.map_cons, List.map_nil, List.cons_append, List.nil_append, Option.map_some, gAdd_i, gSub_i, gMul_t, gFdiv_i, gMod_i, gLt_i, gLe_i, gGt_i, gGe_i, gEq_i, gNe_i, gInt, gLen, gAbs, Nat.reduceAdd, Nat.reduceLT, reduceIte, Nat.reduceEqDiff, Bool.false_eq_true, List.replicate, Nat.reduceSub, semOf, eq_self, ei, hl', decide_false, all_ints kd_ints, gAll_map, all_id, all_isInt, eq, hq, gRaise]
theorem worth_ok {ns : List Int} {q : Int} (hl : ns.length ≤ 64) {r : Int} {outs : List (Option O)} (er : f_raw_worth [.fr (.tup (ns.map .int)), .fr (.int q)] = .ok (.fr (.int r)) [none, none]) : f_worth [.fr (.tup (ns.map .int)), .fr (.int q)] = .ok (.fr (.int r)) [none, none] := by
  have hl' : ¬ (64 : Int) < ((ns.map D.int).length : Int) := by rw [List.length_map]; omega
  have ei := isi_tuple (d := .tup (ns.map .int)) rfl
  have eq : f_is_integer [.fr (.int q)] = .ok (.fr (.bl true)) [none] := is_integer_ok (d := .int q) rfl
  simp only [f_worth, g_worth, g_worth_0, g_worth_1, evC, evVar, evMv, evFz, opN, runs, fins, Opd.run, Opd.fin, viewO, frO, frOs, R.bind_ok, R.bind_er, R.bind_st, runA, evTup, evLst, opA, gTupD, gLstD, evCall, putBack, etB, etNot, etAnd, etOr, gSeq, gIf, gAsg, gRet, gRetN, gDrop, gNx, tgName, outsM, List.getElem?_cons_zero, List.getElem?_cons_succ, List.set_cons_zero, List.set_cons_succ, List.length_cons, List.length_nil, if_true, if_false, Bool.not_true, Bool.not_false, List.map_cons, List.map_nil, List.cons_append, List.nil_append, Option.map_some, gAdd_i, gSub_i, gMul_t, gFdiv_i, gMod_i, gLt_i, gLe_i, gGt_i, gGe_i, gEq_i, gNe_i, gInt, gLen, gAbs, Nat.reduceAdd, Nat.reduceLT, reduceIte, Nat.reduceEqDiff, Bool.false_eq_true, List.replicate, Nat.reduceSub, semOf, eq_self, ei, hl', decide_false, all_ints kd_ints, gAll_map, all_id, all_isInt, eq, er]

def Big (n : Int) : Prop := n.natAbs < 2 ^ 70
theorem gMul_g {i j : Int} (a b : Nat) (hi : i.natAbs < 2 ^ a) (hj : j.natAbs < 2 ^ b) (h : a + b < 1000000) : gMul [.int i, .int j] = some (.fr (.int (i * j))) := gMul_i (mulOk_n a b hi hj h)
theorem step_bound {t q n : Int} {k : Nat} (h1 : t.natAbs < 2 ^ (71 * k)) (h2 : Big q) (h3 : Big n) : (t * q + n).natAbs < 2 ^ (71 * (k + 1)) := by
  unfold Big at h2 h3
  have a := Int.natAbs_add_le (t * q) n
  rw [Int.natAbs_mul] at a
  have b : t.natAbs * q.natAbs ≤ 2 ^ (71 * k) * 2 ^ 70 := Nat.mul_le_mul (Nat.le_of_lt h1) (Nat.le_of_lt h2)
  have c : 2 ^ (71 * (k + 1)) = 2 ^ (71 * k) * 2 ^ 70 * 2 := by
    rw [show 71 * (k + 1) = 71 * k + 70 + 1 by omega, Nat.pow_succ, Nat.pow_add]
  have d : 2 ^ 70 ≤ 2 ^ (71 * k) * 2 ^ 70 := Nat.le_mul_of_pos_left _ (Nat.two_pow_pos _)
  rw [c]
  generalize 2 ^ (71 * k) * 2 ^ 70 = z at *
  generalize (2 : Nat) ^ 70 = y at *
  omega
theorem raw_loop {a : Option O} {q : Int} (hq : Big q) : ∀ (ns : List Int) (k : Nat) (t : Int) (x : Option O), (∀ n ∈ ns, Big n) → t.natAbs < 2 ^ (71 * k) → k + ns.length ≤ 1000 →
    ∃ (r : Int) (y : Option O), forL (tgName 3) b_raw_worth_2 (ns.map .int) [a, some (.fr (.int q)), some (.fr (.int t)), x] = .nx [a, some (.fr (.int q)), some (.fr (.int r)), y]
  | [], k, t, x, _, _, _ => ⟨t, x, rfl⟩
  | n :: ns, k, t, x, h, ht, hk => by
    have hn := h n List.mem_cons_self
    obtain ⟨r, y, e⟩ := raw_loop (a := a) hq ns (k + 1) (t * q + n) (some (.fr (.int n))) (fun m hm => h m (List.mem_cons_of_mem _ hm)) (step_bound ht hq hn) (by rw [List.length_cons] at hk; omega)
    refine ⟨r, y, ?_⟩
    have em := gMul_g (71 * k) 70 ht hq (by rw [List.length_cons] at hk; omega)
    unfold forL
    simp only [List.map_cons, b_raw_worth_2, g_raw_worth_1, evC, evVar, evMv, evFz, opN, runs, fins, Opd.run, Opd.fin, viewO, frO, frOs, R.bind_ok, R.bind_er, R.bind_st, runA, evTup, evLst, opA, gTupD, gLstD, evCall, putBack, etB, etNot, etAnd, etOr, gSeq, gIf, gAsg, gRet, gRetN, gDrop, gNx, tgName, outsM, List.getElem?_cons_zero, List.getElem?_cons_succ, List.set_cons_zero, List.set_cons_succ, List.length_cons, List.length_nil, if_true, if_false, Bool.not_true, Bool.not_false, List.map_cons, List.map_nil, List.cons_append, List.nil_append, Option.map_some, gAdd_i, gSub_i, gMul_t, gFdiv_i, gMod_i, gLt_i, gLe_i, gGt_i, gGe_i, gEq_i, gNe_i, gInt, gLen, gAbs, Nat.reduceAdd, Nat.reduceLT, reduceIte, Nat.reduceEqDiff, Bool.false_eq_true, List.replicate, Nat.reduceSub, semOf, eq_self, em]
    exact e
theorem raw_ok {ns : List Int} {q : Int} (hq : Big q) (hn : ∀ n ∈ ns, Big n) (hl : ns.length ≤ 900) : ∃ r : Int, f_raw_worth [.fr (.tup (ns.map .int)), .fr (.int q)] = .ok (.fr (.int r)) [none, none] := by
  obtain ⟨r, y, e⟩ := raw_loop (a := some (.fr (.tup (ns.map .int)))) hq ns.reverse 0 0 none (fun n h => hn n (List.mem_reverse.mp h)) (by decide) (by rw [List.length_reverse]; omega)
  refine ⟨r, ?_⟩
  have er : gRev [.tup (ns.map .int)] = some (.fr (.tup (ns.reverse.map D.int))) := by
    rw [List.map_reverse]
    rfl
  simp only [f_raw_worth, g_raw_worth, g_raw_worth_0, g_raw_worth_3, gFor, eiSeq, evC, evVar, evMv, evFz, opN, runs, fins, Opd.run, Opd.fin, viewO, frO, frOs, R.bind_ok, R.bind_er, R.bind_st, runA, evTup, evLst, opA, gTupD, gLstD, evCall, putBack, etB, etNot, etAnd, etOr, gSeq, gIf, gAsg, gRet, gRetN, gDrop, gNx, tgName, outsM, List.getElem?_cons_zero, List.getElem?_cons_succ, List.set_cons_zero, List.set_cons_succ, List.length_cons, List.length_nil, if_true, if_false, Bool.not_true, Bool.not_false, List.map_cons, List.map_nil, List.cons_append, List.nil_append, Option.map_some, gAdd_i, gSub_i, gMul_t, gFdiv_i, gMod_i, gLt_i, gLe_i, gGt_i, gGe_i, gEq_i, gNe_i, gInt, gLen, gAbs, Nat.reduceAdd, Nat.reduceLT, reduceIte, Nat.reduceEqDiff, Bool.false_eq_true, List.replicate, Nat.reduceSub, semOf, eq_self, er, itemsD, e]
theorem sum_raw : f__law_sum = f_raw_worth := rfl
/-! told -/
def told (w : Str) (d : D) : D := .tup [.str w, d]
theorem told_bad {N Q : D} (h : NoNums N) : f__law_told [.fr N, .fr Q] = .ok (.fr (told "numbers" (.int 0))) [none, none] := by
  have e := worth_bad (Q := Q) h
  simp only [f__law_told, g__law_told, g__law_told_0, gTryAs, evC, evVar, evMv, evFz, opN, runs, fins, Opd.run, Opd.fin, viewO, frO, frOs, R.bind_ok, R.bind_er, R.bind_st, runA, evTup, evLst, opA, gTupD, gLstD, evCall, putBack, etB, etNot, etAnd, etOr, gSeq, gIf, gAsg, gRet, gRetN, gDrop, gNx, tgName, outsM, List.getElem?_cons_zero, List.getElem?_cons_succ, List.set_cons_zero, List.set_cons_succ, List.length_cons, List.length_nil, if_true, if_false, Bool.not_true, Bool.not_false, List.map_cons, List.map_nil, List.cons_append, List.nil_append, Option.map_some, gAdd_i, gSub_i, gMul_t, gFdiv_i, gMod_i, gLt_i, gLe_i, gGt_i, gGe_i, gEq_i, gNe_i, gInt, gLen, gAbs, Nat.reduceAdd, Nat.reduceLT, reduceIte, Nat.reduceEqDiff, Bool.false_eq_true, List.replicate, Nat.reduceSub, semOf, eq_self, e]
  rfl
theorem told_col {N Q : D} (h : Nums N) (hk : Kd Q = true) (hq : isInt Q = false) : f__law_told [.fr N, .fr Q] = .ok (.fr (told "colours" (.int 0))) [none, none] := by
  have e := worth_col h hk hq
  simp only [f__law_told, g__law_told, g__law_told_0, gTryAs, evC, evVar, evMv, evFz, opN, runs, fins, Opd.run, Opd.fin, viewO, frO, frOs, R.bind_ok, R.bind_er, R.bind_st, runA, evTup, evLst, opA, gTupD, gLstD, evCall, putBack, etB, etNot, etAnd, etOr, gSeq, gIf, gAsg, gRet, gRetN, gDrop, gNx, tgName, outsM, List.getElem?_cons_zero, List.getElem?_cons_succ, List.set_cons_zero, List.set_cons_succ, List.length_cons, List.length_nil, if_true, if_false, Bool.not_true, Bool.not_false, List.map_cons, List.map_nil, List.cons_append, List.nil_append, Option.map_some, gAdd_i, gSub_i, gMul_t, gFdiv_i, gMod_i, gLt_i, gLe_i, gGt_i, gGe_i, gEq_i, gNe_i, gInt, gLen, gAbs, Nat.reduceAdd, Nat.reduceLT, reduceIte, Nat.reduceEqDiff, Bool.false_eq_true, List.replicate, Nat.reduceSub, semOf, eq_self, e]
  rfl
theorem told_ok {ns : List Int} {q : Int} (hq : Big q) (hn : ∀ n ∈ ns, Big n) (hl : ns.length ≤ 64) : ∃ r : Int, f__law_sum [.fr (.tup (ns.map .int)), .fr (.int q)] = .ok (.fr (.int r)) [none, none] ∧ f__law_told [.fr (.tup (ns.map .int)), .fr (.int q)] = .ok (.fr (told "told" (.int r))) [none, none] := by
  obtain ⟨r, er⟩ := raw_ok hq hn (by omega)
  refine ⟨r, by rw [sum_raw]; exact er, ?_⟩
  have e := worth_ok (outs := []) hl er
  simp only [f__law_told, g__law_told, g__law_told_0, gTryAs, evC, evVar, evMv, evFz, opN, runs, fins, Opd.run, Opd.fin, viewO, frO, frOs, R.bind_ok, R.bind_er, R.bind_st, runA, evTup, evLst, opA, gTupD, gLstD, evCall, putBack, etB, etNot, etAnd, etOr, gSeq, gIf, gAsg, gRet, gRetN, gDrop, gNx, tgName, outsM, List.getElem?_cons_zero, List.getElem?_cons_succ, List.set_cons_zero, List.set_cons_succ, List.length_cons, List.length_nil, if_true, if_false, Bool.not_true, Bool.not_false, List.map_cons, List.map_nil, List.cons_append, List.nil_append, Option.map_some, gAdd_i, gSub_i, gMul_t, gFdiv_i, gMod_i, gLt_i, gLe_i, gGt_i, gGe_i, gEq_i, gNe_i, gInt, gLen, gAbs, Nat.reduceAdd, Nat.reduceLT, reduceIte, Nat.reduceEqDiff, Bool.false_eq_true, List.replicate, Nat.reduceSub, semOf, eq_self, e]
  rfl

theorem pow9 : gPow [.int 10, .int 9] = some (.fr (.int 1000000000)) := rfl
theorem pow8 : gPow [.int 10, .int 8] = some (.fr (.int 100000000)) := rfl
theorem pow10 : gPow [.int 10, .int 10] = some (.fr (.int 10000000000)) := rfl
theorem pow11 : gPow [.int 10, .int 11] = some (.fr (.int 100000000000)) := rfl
theorem pow20 : gPow [.int 10, .int 20] = some (.fr (.int 100000000000000000000)) := rfl
theorem neg_i (i : Int) : gNeg [.int i] = some (.fr (.int (-i))) := rfl
theorem dec_lst {n : Nat} (h : n ≤ LIM) : (if n ≤ LIM then (1 : Nat) else 0) = 1 := if_pos h
theorem p70 : (2 : Nat) ^ 70 = 1180591620717411303424 := by decide
theorem big_of {n : Int} (h : n.natAbs < 1180591620717411303424) : Big n := by
  unfold Big
  rw [p70]
  exact h
theorem lim7 : (7 ≤ LIM) = True := by rw [eq_iff_iff]; exact ⟨fun _ => trivial, fun _ => by decide⟩
theorem lim4 : (4 ≤ LIM) = True := by rw [eq_iff_iff]; exact ⟨fun _ => trivial, fun _ => by decide⟩
theorem lim3 : (3 ≤ LIM) = True := by rw [eq_iff_iff]; exact ⟨fun _ => trivial, fun _ => by decide⟩
theorem lim2 : (2 ≤ LIM) = True := by rw [eq_iff_iff]; exact ⟨fun _ => trivial, fun _ => by decide⟩
theorem lim1 : (1 ≤ LIM) = True := by rw [eq_iff_iff]; exact ⟨fun _ => trivial, fun _ => by decide⟩
theorem lim0 : (0 ≤ LIM) = True := by rw [eq_iff_iff]; exact ⟨fun _ => trivial, fun _ => by decide⟩
theorem lim9 : (9 ≤ LIM) = True := by rw [eq_iff_iff]; exact ⟨fun _ => trivial, fun _ => by decide⟩
theorem lim10 : (10 ≤ LIM) = True := by rw [eq_iff_iff]; exact ⟨fun _ => trivial, fun _ => by decide⟩
theorem great_ok {c : Nat} {o : O} (h : HOk c o) (hc : c ≤ 100000000) : ∃ (n : Int) (o' : O), HOk (c + 3) o' ∧ Big n ∧ f__law_great [o] = .ok (.fr (.int n)) [some o'] := by
  obtain ⟨k, o1, h1, k0, k1, e1⟩ := draw_ok (m := 6) h (by omega) (by omega) (by omega)
  obtain ⟨n, o2, h2, n0, n1, e2⟩ := draw_ok (m := 1000000000) h1 (by omega) (by omega) (by omega)
  by_cases hk : k < 3
  · obtain ⟨d, hd, o3, h3, e3⟩ := any_ok (ds := [.int 0, .int 0, .int 1, .int (-1), .int 2, .int (-3), .int 7]) h2 (by omega) (by decide) (by decide)
    have hn : ∃ m : Int, d = .int m ∧ Big m := by
      simp only [List.mem_cons, List.not_mem_nil, or_false] at hd
      rcases hd with rfl | rfl | rfl | rfl | rfl | rfl | rfl <;> exact ⟨_, rfl, big_of (by decide)⟩
    obtain ⟨m, rfl, hm⟩ := hn
    refine ⟨m, o3, h3, hm, ?_⟩
    simp only [f__law_great, g__law_great, g__law_great_0, g__law_great_1, evC, evVar, evMv, evFz, opN, runs, fins, Opd.run, Opd.fin, viewO, frO, frOs, R.bind_ok, R.bind_er, R.bind_st, runA, evTup, evLst, opA, gTupD, gLstD, evCall, putBack, etB, etNot, etAnd, etOr, gSeq, gIf, gAsg, gRet, gRetN, gDrop, gNx, tgName, outsM, List.getElem?_cons_zero, List.getElem?_cons_succ, List.set_cons_zero, List.set_cons_succ, List.length_cons, List.length_nil, if_true, if_false, Bool.not_true, Bool.not_false, List.map_cons, List.map_nil, List.cons_append, List.nil_append, Option.map_some, gAdd_i, gSub_i, gMul_t, gFdiv_i, gMod_i, gLt_i, gLe_i, gGt_i, gGe_i, gEq_i, gNe_i, gInt, gLen, gAbs, Nat.reduceAdd, Nat.reduceLT, reduceIte, Nat.reduceEqDiff, Bool.false_eq_true, List.replicate, Nat.reduceSub, semOf, eq_self, gPar2, e1, pow9, e2, hk, decide_true, neg_i, lim7, e3, and_self, Nat.zero_lt_succ, Nat.reduceLT]
  · by_cases hk3 : k = 3
    · refine ⟨n - 100000000, o2, h2.mono (by omega), big_of (by omega), ?_⟩
      simp only [f__law_great, g__law_great, g__law_great_0, g__law_great_1, g__law_great_2, evC, evVar, evMv, evFz, opN, runs, fins, Opd.run, Opd.fin, viewO, frO, frOs, R.bind_ok, R.bind_er, R.bind_st, runA, evTup, evLst, opA, gTupD, gLstD, evCall, putBack, etB, etNot, etAnd, etOr, gSeq, gIf, gAsg, gRet, gRetN, gDrop, gNx, tgName, outsM, List.getElem?_cons_zero, List.getElem?_cons_succ, List.set_cons_zero, List.set_cons_succ, List.length_cons, List.length_nil, if_true, if_false, Bool.not_true, Bool.not_false, List.map_cons, List.map_nil, List.cons_append, List.nil_append, Option.map_some, gAdd_i, gSub_i, gMul_t, gFdiv_i, gMod_i, gLt_i, gLe_i, gGt_i, gGe_i, gEq_i, gNe_i, gInt, gLen, gAbs, Nat.reduceAdd, Nat.reduceLT, reduceIte, Nat.reduceEqDiff, Bool.false_eq_true, List.replicate, Nat.reduceSub, semOf, eq_self, gPar2, e1, pow9, pow8, e2, hk3, decide_true, decide_false, neg_i, lim7, and_self, Nat.zero_lt_succ, Nat.reduceLT, Int.reduceLT]
    · obtain ⟨d, hd, o3, h3, e3⟩ := any_ok (ds := [.int (100000000000000000000 - 1), .int (1 - 100000000000000000000), .int (10000000000 + n), .int (-1 - n * 100000000000)]) h2 (by omega) (by show 0 < 4; decide) (by show 4 < 1000000000; decide)
      have hn : ∃ m : Int, d = .int m ∧ Big m := by
        simp only [List.mem_cons, List.not_mem_nil, or_false] at hd
        rcases hd with rfl | rfl | rfl | rfl <;> exact ⟨_, rfl, big_of (by omega)⟩
      obtain ⟨m, rfl, hm⟩ := hn
      refine ⟨m, o3, h3, hm, ?_⟩
      simp (disch := omega) only [f__law_great, g__law_great, g__law_great_0, g__law_great_1, g__law_great_2, evC, evVar, evMv, evFz, opN, runs, fins, Opd.run, Opd.fin, viewO, frO, frOs, R.bind_ok, R.bind_er, R.bind_st, runA, evTup, evLst, opA, gTupD, gLstD, evCall, putBack, etB, etNot, etAnd, etOr, gSeq, gIf, gAsg, gRet, gRetN, gDrop, gNx, tgName, outsM, List.getElem?_cons_zero, List.getElem?_cons_succ, List.set_cons_zero, List.set_cons_succ, List.length_cons, List.length_nil, if_true, if_false, Bool.not_true, Bool.not_false, List.map_cons, List.map_nil, List.cons_append, List.nil_append, Option.map_some, gAdd_i, gSub_i, gMul_t, gFdiv_i, gMod_i, gLt_i, gLe_i, gGt_i, gGe_i, gEq_i, gNe_i, gInt, gLen, gAbs, Nat.reduceAdd, Nat.reduceLT, reduceIte, Nat.reduceEqDiff, Bool.false_eq_true, List.replicate, Nat.reduceSub, semOf, eq_self, gPar2, e1, pow9, pow20, pow10, pow11, e2, hk, hk3, decide_true, decide_false, neg_i, lim4, e3, and_self, Nat.zero_lt_succ, Nat.reduceLT, Int.reduceLT]

def Wrap (d e : D) : Prop := e = .tup [d] ∨ e = .lst [d]
def Wr : Nat → D → D → Prop
  | 0, d, d' => d' = d
  | n + 1, d, d' => ∃ e, Wrap d e ∧ Wr n e d'
def Deep (d : D) : Prop := ∃ w v, Wrap w d ∧ Wrap v w
theorem deep_up : ∀ (n : Nat) {d d' : D}, Deep d → Wr n d d' → Deep d'
  | 0, _, _, h, e => by cases e; exact h
  | n + 1, d, _, ⟨w, v, h1, h2⟩, ⟨e, he, hw⟩ => deep_up n ⟨d, w, he, h1⟩ hw
theorem deep_of {n : Nat} {d d' : D} (h : Wr (n + 2) d d') : Deep d' := by
  obtain ⟨e, he, f, hf, h⟩ := h
  exact deep_up n ⟨e, d, hf, he⟩ h
theorem deep_no {d : D} (h : Deep d) : NoNums d ∧ isInt d = false := by
  obtain ⟨w, v, h1, h2⟩ := h
  have hw : Kd w = true ∧ isInt w = false := by rcases h2 with rfl | rfl <;> exact ⟨rfl, rfl⟩
  rcases h1 with rfl | rfl
  · refine ⟨⟨rfl, fun ds e => .inr ?_⟩, rfl⟩
    cases e
    refine ⟨fun x hx => ?_, ?_⟩
    · rw [List.mem_singleton] at hx
      rw [hx]
      exact hw.1
    · rw [List.all_cons, hw.2]
      rfl
  · exact ⟨⟨rfl, fun ds e => nomatch e⟩, rfl⟩
theorem deep_loop : ∀ (ds : List D) {c : Nat} {o : O} {d : D} (x : Option O), HOk c o → c + ds.length ≤ 1000000000 →
    ∃ (o' : O) (d' : D) (y : Option O), HOk (c + ds.length) o' ∧ Wr ds.length d d' ∧ forL (tgName 2) b__law_deep_2 ds [some o, some (.fr d), x] = .nx [some o', some (.fr d'), y]
  | [], c, o, d, x, h, _ => ⟨o, d, x, h, rfl, rfl⟩
  | z :: ds, c, o, d, x, h, hc => by
    rw [List.length_cons] at hc
    obtain ⟨e, he, o1, h1, e1⟩ := any_ok (ds := [.tup [d], .lst [d]]) h (by omega) (by show 0 < 2; decide) (by show 2 < 1000000000; decide)
    have hw : Wrap d e := by
      simp only [List.mem_cons, List.not_mem_nil, or_false] at he
      exact he
    obtain ⟨o', d', y, h2, w2, e2⟩ := deep_loop ds (d := e) (some (.fr z)) h1 (by omega)
    refine ⟨o', d', y, ?_, ⟨e, hw, w2⟩, ?_⟩
    · rw [List.length_cons, show c + (ds.length + 1) = c + 1 + ds.length by omega]
      exact h2
    · unfold forL
      simp only [b__law_deep_2, g__law_deep_1, evC, evVar, evMv, evFz, opN, runs, fins, Opd.run, Opd.fin, viewO, frO, frOs, R.bind_ok, R.bind_er, R.bind_st, runA, evTup, evLst, opA, gTupD, gLstD, evCall, putBack, etB, etNot, etAnd, etOr, gSeq, gIf, gAsg, gRet, gRetN, gDrop, gNx, tgName, outsM, List.getElem?_cons_zero, List.getElem?_cons_succ, List.set_cons_zero, List.set_cons_succ, List.length_cons, List.length_nil, if_true, if_false, Bool.not_true, Bool.not_false, List.map_cons, List.map_nil, List.cons_append, List.nil_append, Option.map_some, gAdd_i, gSub_i, gMul_t, gFdiv_i, gMod_i, gLt_i, gLe_i, gGt_i, gGe_i, gEq_i, gNe_i, gInt, gLen, gAbs, Nat.reduceAdd, Nat.reduceLT, reduceIte, Nat.reduceEqDiff, Bool.false_eq_true, List.replicate, Nat.reduceSub, semOf, eq_self, lim1, lim2, e1]
      exact e2
theorem rng_ok {j : Int} (h : 0 ≤ j) (h2 : j ≤ 100000) : (small62 j && decide (j.toNat ≤ LIM)) = true := by
  have a : small62 j = true := decide_eq_true (by omega)
  rw [a, Bool.true_and]
  exact decide_eq_true (by show j.toNat ≤ 1000000; omega)
theorem range_len (lo : Int) (n : Nat) : (rangeD lo n).length = n := by simp [rangeD]
theorem deep_ok {c : Nat} {o : O} (h : HOk c o) (hc : c ≤ 100000000) : ∃ (d : D) (o' : O), HOk (c + 40) o' ∧ Deep d ∧ f__law_deep [o] = .ok (.fr d) [some o'] := by
  obtain ⟨d, _, o1, h1, e1⟩ := any_ok (ds := [.int 1, .tup [], .non]) h (by omega) (by decide) (by decide)
  obtain ⟨k, o2, h2, k0, k1, e2⟩ := draw_ok (m := 15) h1 (by omega) (by omega) (by omega)
  obtain ⟨o3, d', y, h3, w3, e3⟩ := deep_loop (rangeD 0 (20 + k).toNat) (d := d) none h2 (by rw [range_len]; omega)
  rw [range_len] at h3 w3
  refine ⟨d', o3, h3.mono (by omega), deep_of (n := (20 + k).toNat - 2) (by rw [show (20 + k).toNat - 2 + 2 = (20 + k).toNat by omega]; exact w3), ?_⟩
  have er := rng_ok (j := 20 + k) (by omega) (by omega)
  simp only [f__law_deep, g__law_deep, g__law_deep_0, g__law_deep_3, gFor, eiRange1, evC, evVar, evMv, evFz, opN, runs, fins, Opd.run, Opd.fin, viewO, frO, frOs, R.bind_ok, R.bind_er, R.bind_st, runA, evTup, evLst, opA, gTupD, gLstD, evCall, putBack, etB, etNot, etAnd, etOr, gSeq, gIf, gAsg, gRet, gRetN, gDrop, gNx, tgName, outsM, List.getElem?_cons_zero, List.getElem?_cons_succ, List.set_cons_zero, List.set_cons_succ, List.length_cons, List.length_nil, if_true, if_false, Bool.not_true, Bool.not_false, List.map_cons, List.map_nil, List.cons_append, List.nil_append, Option.map_some, gAdd_i, gSub_i, gMul_t, gFdiv_i, gMod_i, gLt_i, gLe_i, gGt_i, gGe_i, gEq_i, gNe_i, gInt, gLen, gAbs, Nat.reduceAdd, Nat.reduceLT, reduceIte, Nat.reduceEqDiff, Bool.false_eq_true, List.replicate, Nat.reduceSub, semOf, eq_self, lim0, lim3, e1, e2, er, e3]

def Odd (d : D) : Prop := Kd d = true ∧ isInt d = false
theorem web1 : f_Web_init [.ob 0 [], .fr (.int 1), .fr (.tup [])] = .ok (.fr .non) [some (.ob 0 [.int 1, .tup []]), none, none] := rfl
theorem web3 : f_Web_init [.ob 0 [], .fr (.int 3), .fr (.tup [])] = .ok (.fr .non) [some (.ob 0 [.int 3, .tup []]), none, none] := rfl
theorem gNe_of {x y : D} {b : Bool} (h : eqD x y = some b) : gNe [x, y] = some (.fr (.bl (!b))) := by
  unfold gNe
  simp only [h, Option.map_some]
theorem gEq_of {x y : D} {b : Bool} (h : eqD x y = some b) : gEq [x, y] = some (.fr (.bl b)) := by
  unfold gEq
  simp only [h, Option.map_some]
theorem eq_numbers : gNe [.tup [.str "numbers", .int 0], .tup [.str "numbers", .int 0]] = some (.fr (.bl false)) := gNe_of (b := true) (by decide +kernel)
theorem eq_colours : gNe [.tup [.str "colours", .int 0], .tup [.str "colours", .int 0]] = some (.fr (.bl false)) := gNe_of (b := true) (by decide +kernel)
theorem eq_told : gNe [.str "told", .str "told"] = some (.fr (.bl false)) := gNe_of (b := true) (by decide +kernel)
theorem eq_told0 : gEq [.tup [.str "told", .int 0], .tup [.str "told", .int 0]] = some (.fr (.bl true)) := gEq_of (by decide +kernel)
theorem eq_col0 : gEq [.tup [.str "colours", .int 0], .tup [.str "colours", .int 0]] = some (.fr (.bl true)) := gEq_of (by decide +kernel)
theorem web2 : f_Web_init [.ob 0 [], .fr (.int 2), .fr (.tup [.tup [.int 0, .int 1]])] = .ok (.fr .non) [some (.ob 0 [.int 2, .tup [.tup [.int 0, .int 1]]]), none, none] := rfl
def rp (n : Nat) (i : Int) : List D := List.replicate n (.int i)
theorem m65 (i : Int) : gMul [.tup [.int i], .int 65] = some (.fr (.tup (rp 65 i))) := rfl
theorem m200 (i : Int) : gMul [.tup [.int i], .int 200] = some (.fr (.tup (rp 200 i))) := rfl
theorem m3 (a b c : D) : gMul [.lst [a, b, c], .int 3] = some (.ls [a, b, c, a, b, c, a, b, c]) := rfl
theorem gAdd_l {xs ys : List D} (h : xs.length + ys.length ≤ LIM) : gAdd [.lst xs, .lst ys] = some (.ls (xs ++ ys)) := if_pos h
theorem gAdd_t {xs ys : List D} (h : xs.length + ys.length ≤ LIM) : gAdd [.tup xs, .tup ys] = some (.fr (.tup (xs ++ ys))) := if_pos h

theorem no_colours_ok {c : Nat} {o : O} (h : HOk c o) (hc : c ≤ 100000000) : ∃ (d : D) (o' : O), HOk (c + 50) o' ∧ Odd d ∧ f__law_no_colours [o] = .ok (.fr d) [some o'] := by
  obtain ⟨e, o1, h1, de, e1⟩ := deep_ok h hc
  obtain ⟨d, hd, o2, h2, e2⟩ := any_ok (ds := [.bl true, .bl false, .non, .str "3", .tup [.int 3], .lst [.int 3], .dct [] [], .obj 0 [.int 3, .tup []], e]) h1 (by omega) (by show 0 < 9; decide) (by show 9 < 1000000000; decide)
  refine ⟨d, o2, h2.mono (by omega), ?_, ?_⟩
  · obtain ⟨⟨k1, _⟩, k2⟩ := deep_no de
    simp only [List.mem_cons, List.not_mem_nil, or_false] at hd
    rcases hd with rfl | rfl | rfl | rfl | rfl | rfl | rfl | rfl | rfl <;> first | exact ⟨k1, k2⟩ | exact ⟨rfl, rfl⟩
  · simp only [f__law_no_colours, g__law_no_colours, evC, evVar, evMv, evFz, opN, runs, fins, Opd.run, Opd.fin, viewO, frO, frOs, R.bind_ok, R.bind_er, R.bind_st, runA, evTup, evLst, opA, gTupD, gLstD, evCall, putBack, etB, etNot, etAnd, etOr, gSeq, gIf, gAsg, gRet, gRetN, gDrop, gNx, tgName, outsM, List.getElem?_cons_zero, List.getElem?_cons_succ, List.set_cons_zero, List.set_cons_succ, List.length_cons, List.length_nil, if_true, if_false, Bool.not_true, Bool.not_false, List.map_cons, List.map_nil, List.cons_append, List.nil_append, Option.map_some, gAdd_i, gSub_i, gMul_t, gFdiv_i, gMod_i, gLt_i, gLe_i, gGt_i, gGe_i, gEq_i, gNe_i, gInt, gLen, gAbs, Nat.reduceAdd, Nat.reduceLT, reduceIte, Nat.reduceEqDiff, Bool.false_eq_true, List.replicate, Nat.reduceSub, semOf, eq_self, evMk, web3, lim0, lim1, lim9, e1, e2]
def cutI (ns : List Int) (lo hi : Option Int) : List Int := (ns.drop (HT.sIx ns.length 0 lo)).take (HT.sIx ns.length ns.length hi - HT.sIx ns.length 0 lo)
theorem cutD_map (ns : List Int) (lo hi : Option Int) : PV.cutD (ns.map .int) lo hi = (cutI ns lo hi).map .int := by
  unfold PV.cutD cutI
  rw [List.length_map, List.map_take, List.map_drop]
theorem cutI_len (ns : List Int) (lo hi : Option Int) : (cutI ns lo hi).length ≤ ns.length := by
  have := cutD_len (ns.map .int) lo hi
  rw [cutD_map, List.length_map, List.length_map] at this
  exact this
theorem sl_lo (ns : List Int) (hi : Option Int) (lo : Option Int) : gSl lo hi (.tup (ns.map .int)) = some (.fr (.tup ((cutI ns lo hi).map .int))) := by
  show some (O.fr (.tup (PV.cutD _ _ _))) = _
  rw [cutD_map]
theorem mix_no {as bs : List Int} {d : D} (h : Odd d) : NoNums (.tup (as.map .int ++ [d] ++ bs.map .int)) := by
  refine ⟨rfl, fun ds e => .inr ?_⟩
  cases e
  refine ⟨fun x hx => ?_, ?_⟩
  · simp only [List.mem_append, List.mem_singleton] at hx
    rcases hx with (hx | rfl) | hx
    · exact kd_ints x hx
    · exact h.1
    · exact kd_ints x hx
  · rw [List.all_append, List.all_append, List.all_cons, h.2]
    simp
theorem no_numbers_ok {c : Nat} {o : O} {ns : List Int} (h : HOk c o) (hc : c ≤ 10000000) (hl : ns.length ≤ 64) : ∃ (d : D) (o' : O), HOk (c + 100) o' ∧ NoNums d ∧ f__law_no_numbers [o, .fr (.tup (ns.map .int))] = .ok (.fr d) [some o', none] := by
  obtain ⟨e, o1, h1, de, e1⟩ := deep_ok h (by omega)
  obtain ⟨d, hd, o2, h2, e2⟩ := any_ok (ds := [.bl true, .bl false, .non, .str "1", .tup [.int 1], .lst [.int 1], .dct [] [], .obj 0 [.int 1, .tup []], e]) h1 (by omega) (by show 0 < 9; decide) (by show 9 < 1000000000; decide)
  have od : Odd d := by
    obtain ⟨⟨k1, _⟩, k2⟩ := deep_no de
    simp only [List.mem_cons, List.not_mem_nil, or_false] at hd
    rcases hd with rfl | rfl | rfl | rfl | rfl | rfl | rfl | rfl | rfl <;> first | exact ⟨k1, k2⟩ | exact ⟨rfl, rfl⟩
  obtain ⟨k, o3, h3, k0, k1, e3⟩ := draw_ok (m := ((ns.map D.int).length : Int) + 1) h2 (by omega) (by omega) (by rw [List.length_map]; omega)
  obtain ⟨e', o4, h4, de', e4⟩ := deep_ok h3 (by omega)
  have s1 := sl_lo ns (some k) none
  have s2 := sl_lo ns none (some (k + 1))
  have a1 := gAdd_t (xs := (cutI ns none (some k)).map .int) (ys := [d]) (by have := cutI_len ns none (some k); rw [List.length_map]; show _ + 1 ≤ 1000000; omega)
  have a2 := gAdd_t (xs := (cutI ns none (some k)).map .int ++ [d]) (ys := (cutI ns (some (k + 1)) none).map .int) (by
    have := cutI_len ns none (some k)
    have := cutI_len ns (some (k + 1)) none
    rw [List.length_append, List.length_map, List.length_map]; show _ + 1 + _ ≤ 1000000; omega)
  have a3 : gAdd [.tup [.int 1, .int 2], .tup [d]] = some (.fr (.tup [.int 1, .int 2, d])) := rfl
  have nx1 := mix_no (as := cutI ns none (some k)) (bs := cutI ns (some (k + 1)) none) od
  have nx2 : NoNums (.tup [d]) := mix_no (as := []) (bs := []) od
  have nx3 : NoNums (.tup [.int 1, .int 2, d]) := mix_no (as := [1, 2]) (bs := []) od
  generalize hx1 : D.tup ((cutI ns none (some k)).map .int ++ [d] ++ (cutI ns (some (k + 1)) none).map .int) = x1 at *
  have b1 : ∀ y, gAdd [.lst [x1, .tup [d], .tup [.int 1, .int 2, d], x1, .tup [d], .tup [.int 1, .int 2, d], x1, .tup [d], .tup [.int 1, .int 2, d]],
      .lst [.lst (ns.map .int), .non, .int 5, .str "12", .dct [.int 1] [.int 2], .obj 0 [.int 2, .tup [.tup [.int 0, .int 1]]], .tup (rp 65 1), .tup (rp 65 0), .tup (rp 200 1), y]] =
      some (.ls [x1, .tup [d], .tup [.int 1, .int 2, d], x1, .tup [d], .tup [.int 1, .int 2, d], x1, .tup [d], .tup [.int 1, .int 2, d], .lst (ns.map .int), .non, .int 5, .str "12", .dct [.int 1] [.int 2], .obj 0 [.int 2, .tup [.tup [.int 0, .int 1]]], .tup (rp 65 1), .tup (rp 65 0), .tup (rp 200 1), y]) := fun y => rfl
  have b2 : ∀ y, gAdd [.lst [x1, .tup [d], .tup [.int 1, .int 2, d], x1, .tup [d], .tup [.int 1, .int 2, d], x1, .tup [d], .tup [.int 1, .int 2, d], .lst (ns.map .int), .non, .int 5, .str "12", .dct [.int 1] [.int 2], .obj 0 [.int 2, .tup [.tup [.int 0, .int 1]]], .tup (rp 65 1), .tup (rp 65 0), .tup (rp 200 1), y], .lst [.bl true]] =
      some (.ls [x1, .tup [d], .tup [.int 1, .int 2, d], x1, .tup [d], .tup [.int 1, .int 2, d], x1, .tup [d], .tup [.int 1, .int 2, d], .lst (ns.map .int), .non, .int 5, .str "12", .dct [.int 1] [.int 2], .obj 0 [.int 2, .tup [.tup [.int 0, .int 1]]], .tup (rp 65 1), .tup (rp 65 0), .tup (rp 200 1), y, .bl true]) := fun y => rfl
  obtain ⟨r, hr, o5, h5, e5⟩ := any_ok (ds := [x1, .tup [d], .tup [.int 1, .int 2, d], x1, .tup [d], .tup [.int 1, .int 2, d], x1, .tup [d], .tup [.int 1, .int 2, d], .lst (ns.map .int), .non, .int 5, .str "12", .dct [.int 1] [.int 2], .obj 0 [.int 2, .tup [.tup [.int 0, .int 1]]], .tup (rp 65 1), .tup (rp 65 0), .tup (rp 200 1), e', .bl true]) h4 (by omega) (by show 0 < 20; decide) (by show 20 < 1000000000; decide)
  have mA : ∀ y, mAppend [.lst (ns.map .int), .non, .int 5, .str "12", .dct [.int 1] [.int 2], .obj 0 [.int 2, .tup [.tup [.int 0, .int 1]]], .tup (rp 65 1), .tup (rp 65 0), .tup (rp 200 1)] [y] = some ([.lst (ns.map .int), .non, .int 5, .str "12", .dct [.int 1] [.int 2], .obj 0 [.int 2, .tup [.tup [.int 0, .int 1]]], .tup (rp 65 1), .tup (rp 65 0), .tup (rp 200 1), y], .non) := fun y => rfl
  refine ⟨r, o5, h5.mono (by omega), ?_, ?_⟩
  · have lg : ∀ (n : Nat) (i : Int), 64 < n → NoNums (.tup (rp n i)) := fun n i hn => ⟨rfl, fun ds e => by cases e; exact .inl (by unfold rp; rw [List.length_replicate]; exact hn)⟩
    have ot : ∀ d : D, Kd d = true → (∀ ds, d ≠ .tup ds) → NoNums d := fun d hk hn => ⟨hk, fun ds e => absurd e (hn ds)⟩
    simp only [List.mem_cons, List.not_mem_nil, or_false] at hr
    rcases hr with rfl | rfl | rfl | rfl | rfl | rfl | rfl | rfl | rfl | rfl | rfl | rfl | rfl | rfl | rfl | rfl | rfl | rfl | rfl | rfl <;>
      first | exact nx1 | exact nx2 | exact nx3 | exact lg _ _ (by decide) | exact (deep_no de').1 | exact ot _ rfl (fun ds e => nomatch e)
  · simp only [f__law_no_numbers, g__law_no_numbers, g__law_no_numbers_0, g__law_no_numbers_1, g__law_no_numbers_2, g__law_no_numbers_3, evC, evVar, evMv, evFz, opN, runs, fins, Opd.run, Opd.fin, viewO, frO, frOs, R.bind_ok, R.bind_er, R.bind_st, runA, evTup, evLst, opA, gTupD, gLstD, evCall, putBack, etB, etNot, etAnd, etOr, gSeq, gIf, gAsg, gRet, gRetN, gDrop, gNx, tgName, outsM, List.getElem?_cons_zero, List.getElem?_cons_succ, List.set_cons_zero, List.set_cons_succ, List.length_cons, List.length_nil, if_true, if_false, Bool.not_true, Bool.not_false, List.map_cons, List.map_nil, List.cons_append, List.nil_append, Option.map_some, gAdd_i, gSub_i, gMul_t, gFdiv_i, gMod_i, gLt_i, gLe_i, gGt_i, gGe_i, gEq_i, gNe_i, gInt, gLen, gAbs, Nat.reduceAdd, Nat.reduceLT, reduceIte, Nat.reduceEqDiff, Bool.false_eq_true, List.replicate, Nat.reduceSub, semOf, eq_self, evMk, web1, web2, gList, m65, m200, m3, lim0, lim1, lim2, lim3, lim9, e1, e2, e3, e4, evMeth, evSl, s1, s2, a1, a2, a3, hx1, b1, b2, mA, e5]

def absI (i : Int) : Int := if i < 0 then -i else i
theorem absI_nn (i : Int) : 0 ≤ absI i := by
  unfold absI
  split <;> omega
theorem hand_lc {a b : Option O} : ∀ (ns : List Int) (acc : List D), lcL [2] (tgName 2) etYes (opN [.e (opN [.sl 2] gInt)] gAbs) (ns.map .int) acc [a, b, none] = .ok (acc ++ (ns.map absI).map .int) [a, b, none]
  | [], acc => by
    show R.ok acc _ = _
    rw [List.map_nil, List.map_nil, List.append_nil]
  | n :: ns, acc => by
    have ih := hand_lc (a := a) (b := b) ns (acc ++ [.int (absI n)])
    rw [List.map_cons]
    unfold lcL
    simp only [evC, evVar, evMv, evFz, opN, runs, fins, Opd.run, Opd.fin, viewO, frO, frOs, R.bind_ok, R.bind_er, R.bind_st, runA, evTup, evLst, opA, gTupD, gLstD, evCall, putBack, etB, etNot, etAnd, etOr, gSeq, gIf, gAsg, gRet, gRetN, gDrop, gNx, tgName, outsM, List.getElem?_cons_zero, List.getElem?_cons_succ, List.set_cons_zero, List.set_cons_succ, List.length_cons, List.length_nil, if_true, if_false, Bool.not_true, Bool.not_false, List.map_cons, List.map_nil, List.cons_append, List.nil_append, Option.map_some, gAdd_i, gSub_i, gMul_t, gFdiv_i, gMod_i, gLt_i, gLe_i, gGt_i, gGe_i, gEq_i, gNe_i, gInt, gLen, gAbs, Nat.reduceAdd, Nat.reduceLT, reduceIte, Nat.reduceEqDiff, Bool.false_eq_true, List.replicate, Nat.reduceSub, semOf, eq_self, etYes, wipe2]
    show lcL [2] (tgName 2) etYes (opN [.e (opN [.sl 2] gInt)] gAbs) (ns.map .int) (acc ++ [.int (absI n)]) [a, b, none] = _
    rw [ih, List.append_assoc]
    rfl
theorem sl_scr (ns : List Int) (lo hi : Option Int) : gSl lo hi (.scr (ns.map .int)) = some (.ls ((cutI ns lo hi).map .int)) := by
  show some (O.ls (PV.cutD _ _ _)) = _
  rw [cutD_map]
theorem lim5 : (5 ≤ LIM) = True := by rw [eq_iff_iff]; exact ⟨fun _ => trivial, fun _ => by decide⟩
theorem hand_ok {ns : List Int} (h : ns.length ≤ 63) : ∃ o, HOk 0 o ∧ f__law_hand [scrO ns] = .ok o [none] := by
  have hl := cutI_len ns none (some 63)
  refine ⟨.ls [.lst (((cutI ns none (some 63)).map absI).map .int), .int 0, .int 0, .int (41 + (((cutI ns none (some 63)).map absI).map D.int).length), .int 0], ⟨_, 0, 0, _, 0, rfl, ?_, by omega, by omega, ?_, ?_, by omega, by omega⟩, ?_⟩
  · intro x hx
    obtain ⟨y, _, rfl⟩ := List.mem_map.mp hx
    exact absI_nn y
  · omega
  · rw [List.length_map, List.length_map]; omega
  · have e := hand_lc (a := some (scrO ns)) (b := none) (cutI ns none (some 63)) []
    rw [List.nil_append] at e
    unfold scrO at e ⊢
    simp only [f__law_hand, g__law_hand, g__law_hand_0, evLc, eiSeq, evSl, evC, evVar, evMv, evFz, opN, runs, fins, Opd.run, Opd.fin, viewO, frO, frOs, R.bind_ok, R.bind_er, R.bind_st, runA, evTup, evLst, opA, gTupD, gLstD, evCall, putBack, etB, etNot, etAnd, etOr, gSeq, gIf, gAsg, gRet, gRetN, gDrop, gNx, tgName, outsM, List.getElem?_cons_zero, List.getElem?_cons_succ, List.set_cons_zero, List.set_cons_succ, List.length_cons, List.length_nil, if_true, if_false, Bool.not_true, Bool.not_false, List.map_cons, List.map_nil, List.cons_append, List.nil_append, Option.map_some, gAdd_i, gSub_i, gMul_t, gFdiv_i, gMod_i, gLt_i, gLe_i, gGt_i, gGe_i, gEq_i, gNe_i, gInt, gLen, gAbs, Nat.reduceAdd, Nat.reduceLT, reduceIte, Nat.reduceEqDiff, Bool.false_eq_true, List.replicate, Nat.reduceSub, semOf, eq_self, sl_scr, itemsD, wipe2, e, backE, lim5]
def wipe10 (a b c d e f g h i j k : Option O) : wipeE [a, b, c, d, e, f, g, h, i, j, k] [10] = [a, b, c, d, e, f, g, h, i, j, none] := rfl
theorem great_lc {a0 a2 a3 a4 a5 a6 a7 a8 a9 : Option O} : ∀ (ds : List D) (acc : List D) {c : Nat} {o : O}, HOk c o → c + 3 * ds.length ≤ 10000000 →
    ∃ (ns : List Int) (o' : O), ns.length = ds.length ∧ (∀ n ∈ ns, Big n) ∧ HOk (c + 3 * ds.length) o' ∧ lcL [10] (tgName 10) etYes (evCall f__law_great [.io 1]) ds acc [a0, some o, a2, a3, a4, a5, a6, a7, a8, a9, none] = .ok (acc ++ ns.map .int) [a0, some o', a2, a3, a4, a5, a6, a7, a8, a9, none]
  | [], acc, c, o, h, _ => ⟨[], o, rfl, (fun n hn => by cases hn), h, by
    show R.ok acc _ = _
    rw [List.map_nil, List.append_nil]⟩
  | d :: ds, acc, c, o, h, hc => by
    rw [List.length_cons] at hc
    obtain ⟨n, o1, h1, bn, e1⟩ := great_ok h (by omega)
    obtain ⟨ns, o2, hl, hb, h2, e2⟩ := great_lc (a0 := a0) (a2 := a2) (a3 := a3) (a4 := a4) (a5 := a5) (a6 := a6) (a7 := a7) (a8 := a8) (a9 := a9) ds (acc ++ [.int n]) h1 (by omega)
    refine ⟨n :: ns, o2, by rw [List.length_cons, List.length_cons, hl], ?_, ?_, ?_⟩
    · intro m hm
      rcases List.mem_cons.mp hm with rfl | hm
      · exact bn
      · exact hb m hm
    · rw [List.length_cons, show c + 3 * (ds.length + 1) = c + 3 + 3 * ds.length by omega]
      exact h2
    · unfold lcL
      simp only [evC, evVar, evMv, evFz, opN, runs, fins, Opd.run, Opd.fin, viewO, frO, frOs, R.bind_ok, R.bind_er, R.bind_st, runA, evTup, evLst, opA, gTupD, gLstD, evCall, putBack, etB, etNot, etAnd, etOr, gSeq, gIf, gAsg, gRet, gRetN, gDrop, gNx, tgName, outsM, List.getElem?_cons_zero, List.getElem?_cons_succ, List.set_cons_zero, List.set_cons_succ, List.length_cons, List.length_nil, if_true, if_false, Bool.not_true, Bool.not_false, List.map_cons, List.map_nil, List.cons_append, List.nil_append, Option.map_some, gAdd_i, gSub_i, gMul_t, gFdiv_i, gMod_i, gLt_i, gLe_i, gGt_i, gGe_i, gEq_i, gNe_i, gInt, gLen, gAbs, Nat.reduceAdd, Nat.reduceLT, reduceIte, Nat.reduceEqDiff, Bool.false_eq_true, List.replicate, Nat.reduceSub, semOf, eq_self, etYes, e1, wipe10, e2, List.append_assoc]

theorem isi_b (r : Int) : gIsi tb_bool [.int r] = some (.fr (.bl false)) := rfl
theorem isi_i (r : Int) : gIsi tb_int [.int r] = some (.fr (.bl true)) := rfl
theorem turn_ok {s : D} {c : Nat} {o : O} (h : HOk c o) (hc : c ≤ 1000000) (t x3 x4 x5 x6 x7 x8 x9 : Option O) :
    ∃ (o' : O) (y3 y4 y5 y6 y7 y8 y9 : Option O), HOk (c + 1000) o' ∧ b_law_9 [some (.fr s), some o, t, x3, x4, x5, x6, x7, x8, x9, none] = .nx [some (.fr s), some o', t, y3, y4, y5, y6, y7, y8, y9, none] := by
  obtain ⟨k, o1, h1, k0, k1, e1⟩ := draw_ok (m := 65) h (by omega) (by omega) (by omega)
  obtain ⟨d, hd, o2, h2, e2⟩ := any_ok (ds := [.int 0, .int 1, .int 2, .int 3, .int 4, .int 7, .int 11, .int 63, .int 64, .int k]) h1 (by omega) (by show 0 < 10; decide) (by show 10 < 1000000000; decide)
  have hm : ∃ m : Int, d = .int m ∧ 0 ≤ m ∧ m ≤ 64 := by
    simp only [List.mem_cons, List.not_mem_nil, or_false] at hd
    rcases hd with rfl | rfl | rfl | rfl | rfl | rfl | rfl | rfl | rfl | rfl <;> exact ⟨_, rfl, by omega, by omega⟩
  obtain ⟨m, rfl, m0, m1⟩ := hm
  have er := rng_ok (j := m) m0 (by omega)
  obtain ⟨ns, o3, hl, hb, h3, e3⟩ := great_lc (a0 := some (.fr s)) (a2 := t) (a3 := some (.fr (.int m))) (a4 := x4) (a5 := x5) (a6 := x6) (a7 := x7) (a8 := x8) (a9 := x9) (rangeD 0 m.toNat) [] h2 (by rw [range_len]; omega)
  rw [range_len] at hl h3
  rw [List.nil_append] at e3
  obtain ⟨n1, o4, h4, b1, e4⟩ := great_ok h3 (by omega)
  obtain ⟨n2, o5, h5, b2, e5⟩ := great_ok h4 (by omega)
  obtain ⟨d, hd, o6, h6, e6⟩ := any_ok (ds := [.int 0, .int 0, .int 1, .int (-1), .int 2, .int (-2), .int 3, .int n1, .int n2]) h5 (by omega) (by show 0 < 9; decide) (by show 9 < 1000000000; decide)
  have hq : ∃ q : Int, d = .int q ∧ Big q := by
    simp only [List.mem_cons, List.not_mem_nil, or_false] at hd
    rcases hd with rfl | rfl | rfl | rfl | rfl | rfl | rfl | rfl | rfl <;> first | exact ⟨_, rfl, b1⟩ | exact ⟨_, rfl, b2⟩ | exact ⟨_, rfl, big_of (by decide)⟩
  obtain ⟨q, rfl, bq⟩ := hq
  have hl64 : ns.length ≤ 64 := by omega
  obtain ⟨r, e7, e8⟩ := told_ok bq hb hl64
  obtain ⟨nn, o7, h7, nx, e9⟩ := no_numbers_ok h6 (by omega) hl64
  obtain ⟨od, o8, h8, ox, e10⟩ := no_colours_ok h7 (by omega)
  have e11 := told_bad (Q := .int q) nx
  have e12 := told_bad (Q := od) nx
  have e13 := told_col (N := .tup (ns.map .int)) ⟨ns, rfl, hl64⟩ ox.1 ox.2
  refine ⟨o8, some (.fr (.int m)), some (.fr (.tup (ns.map .int))), some (.fr (.int q)), some (.fr (.str "told")), some (.fr (.int r)), some (.fr nn), some (.fr od), h8.mono (by omega), ?_⟩
  simp only [b_law_9, g_law_1, g_law_2, g_law_3, g_law_4, g_law_5, g_law_6, g_law_7, g_law_8, evC, evVar, evMv, evFz, opN, runs, fins, Opd.run, Opd.fin, viewO, frO, frOs, R.bind_ok, R.bind_er, R.bind_st, runA, evTup, evLst, opA, gTupD, gLstD, evCall, putBack, etB, etNot, etAnd, etOr, gSeq, gIf, gAsg, gRet, gRetN, gDrop, gNx, tgName, outsM, List.getElem?_cons_zero, List.getElem?_cons_succ, List.set_cons_zero, List.set_cons_succ, List.length_cons, List.length_nil, if_true, if_false, Bool.not_true, Bool.not_false, List.map_cons, List.map_nil, List.cons_append, List.nil_append, Option.map_some, gAdd_i, gSub_i, gMul_t, gFdiv_i, gMod_i, gLt_i, gLe_i, gGt_i, gGe_i, gEq_i, gNe_i, gInt, gLen, gAbs, Nat.reduceAdd, Nat.reduceLT, reduceIte, Nat.reduceEqDiff, Bool.false_eq_true, List.replicate, Nat.reduceSub, semOf, eq_self, lim9, lim10, lim2, e1, e2, evLc, eiRange1, er, wipe10, e3, backE, gTuple, neg_i, e4, e5, e6, e7, e8, told, tgTup, unpackO, tgCons, tgNil, Option.bind_some, eq_told, isi_b, isi_i, decide_true, gPar2, e9, e10, e11, e12, e13, eq_numbers, eq_colours, and_self]
theorem turns_ok {s : D} : ∀ (ds : List D) {c : Nat} {o : O}, HOk c o → c + 1000 * ds.length ≤ 1000000 → ∀ (t x3 x4 x5 x6 x7 x8 x9 : Option O),
    ∃ (o' : O) (y2 y3 y4 y5 y6 y7 y8 y9 : Option O), HOk (c + 1000 * ds.length) o' ∧ forL (tgName 2) b_law_9 ds [some (.fr s), some o, t, x3, x4, x5, x6, x7, x8, x9, none] = .nx [some (.fr s), some o', y2, y3, y4, y5, y6, y7, y8, y9, none]
  | [], c, o, h, _, t, x3, x4, x5, x6, x7, x8, x9 => ⟨o, t, x3, x4, x5, x6, x7, x8, x9, h, rfl⟩
  | d :: ds, c, o, h, hc, t, x3, x4, x5, x6, x7, x8, x9 => by
    rw [List.length_cons] at hc
    obtain ⟨o1, y3, y4, y5, y6, y7, y8, y9, h1, e1⟩ := turn_ok (s := s) h (by omega) (some (.fr d)) x3 x4 x5 x6 x7 x8 x9
    obtain ⟨o2, z2, z3, z4, z5, z6, z7, z8, z9, h2, e2⟩ := turns_ok (s := s) ds h1 (by omega) (some (.fr d)) y3 y4 y5 y6 y7 y8 y9
    refine ⟨o2, z2, z3, z4, z5, z6, z7, z8, z9, ?_, ?_⟩
    · rw [List.length_cons, show c + 1000 * (ds.length + 1) = c + 1000 + 1000 * ds.length by omega]
      exact h2
    · unfold forL
      simp only [tgName, List.length_cons, List.length_nil, Nat.reduceAdd, Nat.reduceLT, if_true, List.set_cons_succ, List.set_cons_zero, e1]
      exact e2
theorem told_nil (q : Int) : f__law_told [.fr (.tup []), .fr (.int q)] = .ok (.fr (told "told" (.int 0))) [none, none] := by
  have er : f_raw_worth [.fr (.tup (([] : List Int).map .int)), .fr (.int q)] = .ok (.fr (.int 0)) [none, none] := rfl
  have e := worth_ok (ns := []) (outs := []) (by decide) er
  simp only [List.map_nil] at e
  simp only [f__law_told, g__law_told, g__law_told_0, gTryAs, evC, evVar, evMv, evFz, opN, runs, fins, Opd.run, Opd.fin, viewO, frO, frOs, R.bind_ok, R.bind_er, R.bind_st, runA, evTup, evLst, opA, gTupD, gLstD, evCall, putBack, etB, etNot, etAnd, etOr, gSeq, gIf, gAsg, gRet, gRetN, gDrop, gNx, tgName, outsM, List.getElem?_cons_zero, List.getElem?_cons_succ, List.set_cons_zero, List.set_cons_succ, List.length_cons, List.length_nil, if_true, if_false, Bool.not_true, Bool.not_false, List.map_cons, List.map_nil, List.cons_append, List.nil_append, Option.map_some, gAdd_i, gSub_i, gMul_t, gFdiv_i, gMod_i, gLt_i, gLe_i, gGt_i, gGe_i, gEq_i, gNe_i, gInt, gLen, gAbs, Nat.reduceAdd, Nat.reduceLT, reduceIte, Nat.reduceEqDiff, Bool.false_eq_true, List.replicate, Nat.reduceSub, semOf, eq_self, e]
  rfl
theorem plain : ∀ ns : List Int, ns.length ≤ 63 → ∃ outs, f_law [scrO ns] = .ok (.fr (.bl true)) outs := by
  intro ns hns
  obtain ⟨o, h, e⟩ := hand_ok hns
  obtain ⟨o1, y2, y3, y4, y5, y6, y7, y8, y9, h1, e1⟩ := turns_ok (s := .scr (ns.map .int)) (rangeD 0 8) h (by rw [range_len]; decide) none none none none none none none none
  rw [range_len] at h1
  obtain ⟨n, o2, h2, _, e2⟩ := great_ok h1 (by decide)
  have e3 := told_nil n
  have e4 := told_col (N := .tup []) (Q := .non) ⟨[], rfl, by decide⟩ rfl rfl
  have er : (small62 8 && decide (8 ≤ LIM)) = true := rng_ok (j := 8) (by decide) (by decide)
  have e8 : (8 : Int).toNat = 8 := rfl
  refine ⟨[none], ?_⟩
  unfold scrO at e ⊢
  simp only [f_law, g_law, g_law_0, g_law_10, gFor, eiRange1, evC, evVar, evMv, evFz, opN, runs, fins, Opd.run, Opd.fin, viewO, frO, frOs, R.bind_ok, R.bind_er, R.bind_st, runA, evTup, evLst, opA, gTupD, gLstD, evCall, putBack, etB, etNot, etAnd, etOr, gSeq, gIf, gAsg, gRet, gRetN, gDrop, gNx, tgName, outsM, List.getElem?_cons_zero, List.getElem?_cons_succ, List.set_cons_zero, List.set_cons_succ, List.length_cons, List.length_nil, if_true, if_false, Bool.not_true, Bool.not_false, List.map_cons, List.map_nil, List.cons_append, List.nil_append, Option.map_some, gAdd_i, gSub_i, gMul_t, gFdiv_i, gMod_i, gLt_i, gLe_i, gGt_i, gGe_i, gEq_i, gNe_i, gInt, gLen, gAbs, Nat.reduceAdd, Nat.reduceLT, reduceIte, Nat.reduceEqDiff, Bool.false_eq_true, List.replicate, Nat.reduceSub, semOf, eq_self, e, er, e8, e1, evAnd, lim0, lim2, e2, e3, e4, told, eq_told0, eq_col0]
end K17

set_option Elab.async false
set_option linter.all false
set_option maxRecDepth 100000
/-! law_k17_worth_of_any_numbers: its text keeps the sems -/
namespace K17
open PySem PySem.Spec PyProof.Rows L2 PV
def topS (i : Nat) : Stmt := PySem.Challenge.pw_takenjoined_k17_worth_of_any_numbers.main.body.getD i (.Pass ⟨0, 0, 0, 0⟩)
abbrev s_is_integer : Stmt := topS 1
abbrev s_raw_worth : Stmt := topS 16
abbrev s__law_hand : Stmt := topS 19
abbrev s__law_draw : Stmt := topS 20
abbrev s__law_sum : Stmt := topS 23
abbrev s_is_number : Stmt := topS 2
abbrev s_is_within : Stmt := topS 3
abbrev s_worth : Stmt := topS 17
abbrev s__law_any : Stmt := topS 21
abbrev s_is_tie_of : Stmt := topS 12
abbrev s__law_great : Stmt := topS 22
abbrev s__law_deep : Stmt := topS 24
abbrev s__law_told : Stmt := topS 27
abbrev s_Web_init : Stmt := inClass (topS 13) 0
abbrev s__law_no_numbers : Stmt := topS 25
abbrev s__law_no_colours : Stmt := topS 26
abbrev s_law : Stmt := topS 28
theorem sc_is_integer : FnScope [("thing" : Str)] [("thing" : Str)] (defScope s_is_integer) := ⟨rfl, rfl, rfl, by decide +kernel, rfl, by decide +kernel, by decide +kernel⟩
theorem sc_raw_worth : FnScope [("found" : Str), ("q" : Str), ("total" : Str), ("number" : Str)] [("found" : Str), ("q" : Str)] (defScope s_raw_worth) := ⟨rfl, rfl, rfl, by decide +kernel, rfl, by decide +kernel, by decide +kernel⟩
theorem sc__law_hand : FnScope [("script" : Str), ("cells" : Str), ("cell" : Str)] [("script" : Str)] (defScope s__law_hand) := ⟨rfl, rfl, rfl, by decide +kernel, rfl, by decide +kernel, by decide +kernel⟩
theorem sc__law_draw : FnScope [("hand" : Str), ("many" : Str), ("cell" : Str), ("digit" : Str), ("number" : Str)] [("hand" : Str), ("many" : Str)] (defScope s__law_draw) := ⟨rfl, rfl, rfl, by decide +kernel, rfl, by decide +kernel, by decide +kernel⟩
theorem sc__law_sum : FnScope [("numbers" : Str), ("q" : Str), ("total" : Str), ("number" : Str)] [("numbers" : Str), ("q" : Str)] (defScope s__law_sum) := ⟨rfl, rfl, rfl, by decide +kernel, rfl, by decide +kernel, by decide +kernel⟩
theorem sc_is_number : FnScope [("thing" : Str), ("most" : Str)] [("thing" : Str), ("most" : Str)] (defScope s_is_number) := ⟨rfl, rfl, rfl, by decide +kernel, rfl, by decide +kernel, by decide +kernel⟩
theorem sc_is_within : FnScope [("thing" : Str), ("least" : Str), ("most" : Str)] [("thing" : Str), ("least" : Str), ("most" : Str)] (defScope s_is_within) := ⟨rfl, rfl, rfl, by decide +kernel, rfl, by decide +kernel, by decide +kernel⟩
theorem sc_worth : FnScope [("given" : Str), ("q" : Str), ("one" : Str)] [("given" : Str), ("q" : Str)] (defScope s_worth) := ⟨rfl, rfl, rfl, by decide +kernel, rfl, by decide +kernel, by decide +kernel⟩
theorem sc__law_any : FnScope [("hand" : Str), ("some" : Str)] [("hand" : Str), ("some" : Str)] (defScope s__law_any) := ⟨rfl, rfl, rfl, by decide +kernel, rfl, by decide +kernel, by decide +kernel⟩
theorem sc_is_tie_of : FnScope [("many" : Str), ("thing" : Str), ("place" : Str)] [("many" : Str), ("thing" : Str)] (defScope s_is_tie_of) := ⟨rfl, rfl, rfl, by decide +kernel, rfl, by decide +kernel, by decide +kernel⟩
theorem sc__law_great : FnScope [("hand" : Str), ("kind" : Str), ("number" : Str)] [("hand" : Str)] (defScope s__law_great) := ⟨rfl, rfl, rfl, by decide +kernel, rfl, by decide +kernel, by decide +kernel⟩
theorem sc__law_deep : FnScope [("hand" : Str), ("thing" : Str), ("turn" : Str)] [("hand" : Str)] (defScope s__law_deep) := ⟨rfl, rfl, rfl, by decide +kernel, rfl, by decide +kernel, by decide +kernel⟩
theorem sc__law_told : FnScope [("numbers" : Str), ("q" : Str), ("error" : Str), ("flags" : Str)] [("numbers" : Str), ("q" : Str)] (defScope s__law_told) := ⟨rfl, rfl, rfl, by decide +kernel, rfl, by decide +kernel, by decide +kernel⟩
theorem sc_Web_init : FnScope [("self" : Str), ("many" : Str), ("ties" : Str), ("index" : Str), ("tie" : Str)] [("self" : Str), ("many" : Str), ("ties" : Str)] (defScope s_Web_init) := ⟨rfl, rfl, rfl, by decide +kernel, rfl, by decide +kernel, by decide +kernel⟩
theorem sc__law_no_numbers : FnScope [("hand" : Str), ("numbers" : Str), ("odd" : Str), ("at" : Str), ("some" : Str)] [("hand" : Str), ("numbers" : Str)] (defScope s__law_no_numbers) := ⟨rfl, rfl, rfl, by decide +kernel, rfl, by decide +kernel, by decide +kernel⟩
theorem sc__law_no_colours : FnScope [("hand" : Str)] [("hand" : Str)] (defScope s__law_no_colours) := ⟨rfl, rfl, rfl, by decide +kernel, rfl, by decide +kernel, by decide +kernel⟩
theorem sc_law : FnScope [("script" : Str), ("hand" : Str), ("turn" : Str), ("many" : Str), ("numbers" : Str), ("q" : Str), ("word" : Str), ("told" : Str), ("none" : Str), ("odd" : Str), ("at" : Str)] [("script" : Str)] (defScope s_law) := ⟨rfl, rfl, rfl, by decide +kernel, rfl, by decide +kernel, by decide +kernel⟩
/-! ### facts -/
structure Txt (G : Gx) (mg : Str → Option Value) : Prop where
  ex : G.ex = none
  d_is_integer : Dfn G mg ("is_integer" : Str) ("is_integer" : Str) s_is_integer
  d_raw_worth : Dfn G mg ("raw_worth" : Str) ("raw_worth" : Str) s_raw_worth
  d__law_hand : Dfn G mg ("_law_hand" : Str) ("_law_hand" : Str) s__law_hand
  d__law_draw : Dfn G mg ("_law_draw" : Str) ("_law_draw" : Str) s__law_draw
  d__law_sum : Dfn G mg ("_law_sum" : Str) ("_law_sum" : Str) s__law_sum
  d_is_number : Dfn G mg ("is_number" : Str) ("is_number" : Str) s_is_number
  d_is_within : Dfn G mg ("is_within" : Str) ("is_within" : Str) s_is_within
  d_worth : Dfn G mg ("worth" : Str) ("worth" : Str) s_worth
  d__law_any : Dfn G mg ("_law_any" : Str) ("_law_any" : Str) s__law_any
  d_is_tie_of : Dfn G mg ("is_tie_of" : Str) ("is_tie_of" : Str) s_is_tie_of
  d__law_great : Dfn G mg ("_law_great" : Str) ("_law_great" : Str) s__law_great
  d__law_deep : Dfn G mg ("_law_deep" : Str) ("_law_deep" : Str) s__law_deep
  d__law_told : Dfn G mg ("_law_told" : Str) ("_law_told" : Str) s__law_told
  m_Web : Cdf G mg ("Web" : Str) ("Web.__init__" : Str) 0 s_Web_init
  d__law_no_numbers : Dfn G mg ("_law_no_numbers" : Str) ("_law_no_numbers" : Str) s__law_no_numbers
  d__law_no_colours : Dfn G mg ("_law_no_colours" : Str) ("_law_no_colours" : Str) s__law_no_colours
  d_law : Dfn G mg ("law" : Str) ("law" : Str) s_law
  k_Web : ClsOk G 0
  fl_Web : G.flds 0 = [("many" : Str), ("ties" : Str)]
  g_Web : mg ("Web" : Str) = some (.ref (G.cls 0))
  c_MOST_NUMBERS : ∃ t, mg ("MOST_NUMBERS" : Str) = some (.int 64 t)
  c_MOST_PLACES : ∃ t, mg ("MOST_PLACES" : Str) = some (.int 10 t)
  c_MOST_TIES : ∃ t, mg ("MOST_TIES" : Str) = some (.int 16 t)
  n_ValueError : mg ("ValueError" : Str) = none
  n_abs : mg ("abs" : Str) = none
  n_all : mg ("all" : Str) = none
  n_bool : mg ("bool" : Str) = none
  n_enumerate : mg ("enumerate" : Str) = none
  n_int : mg ("int" : Str) = none
  n_isinstance : mg ("isinstance" : Str) = none
  n_len : mg ("len" : Str) = none
  n_list : mg ("list" : Str) = none
  n_range : mg ("range" : Str) = none
  n_tuple : mg ("tuple" : Str) = none
  g_PaintError : mg ("PaintError" : Str) = some (.ref (G.exc 0))
  g_BadWeb : mg ("BadWeb" : Str) = some (.ref (G.exc 1))
  g_NoColours : mg ("NoColours" : Str) = some (.ref (G.exc 2))
  g_NoNumbers : mg ("NoNumbers" : Str) = some (.ref (G.exc 3))
  x_NoColours : ExcOk G mg ("NoColours" : Str) 2
  x_NoNumbers : ExcOk G mg ("NoNumbers" : Str) 3
  i_bool : KitAll G (.type "bool") tb_bool
  i_int : KitAll G (.type "int") tb_int
  i_tuple : KitAll G (.type "tuple") tb_tuple
  xc_NoColours : XcAll G (.ref (G.exc 2)) xb_NoColours
  xc_NoNumbers : XcAll G (.ref (G.exc 3)) xb_NoNumbers
  xc_ValueError : XcAll G (.type "ValueError") xb_ValueError
  t_PaintError : CtAll G (.ref (G.exc 0)) ct_PaintError
section
variable {P : Program} {w : World} {G : Gx} {mg : Str → Option Value} {base : Heap}
theorem fn_is_integer (T : Txt G mg) : Fn P w G mg base 1 ("is_integer" : Str) 1 f_is_integer :=
  mkFn (N := [("thing" : Str)]) (ps := [("thing" : Str)]) (pm := [false]) T.d_is_integer sc_is_integer rfl (fun _ _ _ _ _ _ us hl => match us, hl with | [_], _ => rfl) (fun f cdv A outer s H E hr => by
  show DSs _ _ _ _ _ (g_is_integer)
  have hu := u65 hr
  exact dss_one (ds_ret (de_and (de_isi T.n_isinstance (do_sl (pv 0)) (pe_bltn (v := .ty "int") rfl T.n_int (u := .type "int") (by decide +kernel) rfl) (ClsV.ty "int") T.i_int.ok) (de_and1 (de_not (de_isi T.n_isinstance (do_sl (pv 0)) (pe_bltn (v := .ty "bool") rfl T.n_bool (u := .type "bool") (by decide +kernel) rfl) (ClsV.ty "bool") T.i_bool.ok))))))
theorem fn_raw_worth (T : Txt G mg) : Fn P w G mg base 1 ("raw_worth" : Str) 2 f_raw_worth :=
  mkFn (N := [("found" : Str), ("q" : Str), ("total" : Str), ("number" : Str)]) (ps := [("found" : Str), ("q" : Str)]) (pm := [false, false]) T.d_raw_worth sc_raw_worth rfl (fun _ _ _ _ _ _ us hl => match us, hl with | [_, _], _ => rfl) (fun f cdv A outer s H E hr => by
  show DSs _ _ _ _ _ (g_raw_worth)
  have hu := u65 hr
  exact dss_cons (ds_set (i := 2) sc_raw_worth.nd (de_int)) (dss_cons (ds_for passes_cx rfl (di_seq (de_rev (do_sl (pv 0)))) (dg_name (pg_name (i := 3) sc_raw_worth.nd rfl (by first | exact Or.inl rfl | exact Or.inr rfl))) (dss_one (ds_set (i := 2) sc_raw_worth.nd (de_fz (de_add (do_e (de_mul (do_sl (pv 2)) (do_sl (pv 1)))) (do_sl (pv 3))))))) (dss_one (ds_ret (de_var (pv 2))))))
theorem fn__law_hand (T : Txt G mg) : Fn P w G mg base 1 ("_law_hand" : Str) 1 f__law_hand :=
  mkFn (N := [("script" : Str), ("cells" : Str), ("cell" : Str)]) (ps := [("script" : Str)]) (pm := [false]) T.d__law_hand sc__law_hand rfl (fun _ _ _ _ _ _ us hl => match us, hl with | [_], _ => rfl) (fun f cdv A outer s H E hr => by
  show DSs _ _ _ _ _ (g__law_hand)
  have hu := u65 hr
  exact dss_cons (ds_setLc 3 rfl sc__law_hand.nd (di_seq (de_slice (do_sl (pv 0)) dp_no (dp_yes (do_e (de_int))))) (own := [(("cell" : Str), 2)]) (blkOk_by (by rfl)) (fun _ _ _ _ _ => dg_name (pg_name (i := 2) sc__law_hand.nd rfl (by first | exact Or.inl rfl | exact Or.inr rfl))) (fun _ _ _ _ _ => dts_nil) (fun _ _ _ _ _ => de_abs T.n_abs (dos_cons (do_e (de_int1 T.n_int (dos_cons (do_sl (pv 2)) (dos_nil)))) (dos_nil))) (i := 1) evFz (.inr rfl)) (dss_one (ds_ret (de_lst (das_cons (da_v (de_var (pv 1))) (das_cons (da_v (de_int)) (das_cons (da_v (de_int)) (das_cons (da_v (de_add (do_e (de_int)) (do_e (de_len T.n_len (dos_cons (do_sl (pv 1)) (dos_nil)))))) (das_cons (da_v (de_int)) (das_nil))))))))))
theorem fn__law_draw (T : Txt G mg) : Fn P w G mg base 1 ("_law_draw" : Str) 2 f__law_draw :=
  mkFn (N := [("hand" : Str), ("many" : Str), ("cell" : Str), ("digit" : Str), ("number" : Str)]) (ps := [("hand" : Str), ("many" : Str)]) (pm := [true, false]) T.d__law_draw sc__law_draw rfl (fun _ _ _ _ _ _ us hl => match us, hl with | [_, _], _ => rfl) (fun f cdv A outer s H E hr => by
  show DSs _ _ _ _ _ (g__law_draw)
  have hu := u65 hr
  exact dss_cons (ds_if (DW.dt (dw_and (dt_eq hu (do_e (de_ix (do_sl (pv 0)) (do_e (de_int)))) (do_e (de_int))) (dw_and1 (dt_lt (do_e (de_ix (do_sl (pv 0)) (do_e (de_int)))) (do_e (de_len T.n_len (dos_cons (do_e (de_ix (do_sl (pv 0)) (do_e (de_int)))) (dos_nil)))))))) (dss_cons (ds_set (i := 2) sc__law_draw.nd (de_ix (do_e (de_ix (do_sl (pv 0)) (do_e (de_int)))) (do_e (de_ix (do_sl (pv 0)) (do_e (de_int)))))) (dss_cons (ds_asg (de_add (do_e (de_ix (do_sl (pv 0)) (do_e (de_int)))) (do_e (de_int))) (dg_sub (W := (fun cls d _ H => E cls d H)) (pv 0) (do_e (de_int)))) (dss_cons (ds_asg (de_mod (do_e (de_int1 T.n_int (dos_cons (do_e (de_add (do_e (de_add (do_e (de_mul (do_e (de_ix (do_sl (pv 0)) (do_e (de_int)))) (do_e (de_int)))) (do_sl (pv 2)))) (do_e (de_int)))) (dos_nil)))) (do_e (de_int))) (dg_sub (W := (fun cls d _ H => E cls d H)) (pv 0) (do_e (de_int)))) (dss_one (ds_if (dt_ge (do_sl (pv 2)) (do_e (de_pow (do_e (de_int)) (do_e (de_int))))) (dss_one (ds_asg (de_var (pv 2)) (dg_sub (W := (fun cls d _ H => E cls d H)) (pv 0) (do_e (de_int))))) (dss_nil)))))) (dss_nil)) (dss_cons (ds_if (dt_gt (do_e (de_ix (do_sl (pv 0)) (do_e (de_int)))) (do_e (de_int))) (dss_cons (ds_set (i := 3) sc__law_draw.nd (de_mod (do_e (de_int1 T.n_int (dos_cons (do_e (de_ix (do_sl (pv 0)) (do_e (de_int)))) (dos_nil)))) (do_sl (pv 1)))) (dss_cons (ds_asg (de_fdiv (do_e (de_ix (do_sl (pv 0)) (do_e (de_int)))) (do_sl (pv 1))) (dg_sub (W := (fun cls d _ H => E cls d H)) (pv 0) (do_e (de_int)))) (dss_one (ds_ret (de_var (pv 3)))))) (dss_nil)) (dss_cons (ds_asg (de_add (do_e (de_ix (do_sl (pv 0)) (do_e (de_int)))) (do_e (de_int))) (dg_sub (W := (fun cls d _ H => E cls d H)) (pv 0) (do_e (de_int)))) (dss_cons (ds_set (i := 4) sc__law_draw.nd (de_mod (do_e (de_int1 T.n_int (dos_cons (do_e (de_mul (do_e (de_int1 T.n_int (dos_cons (do_e (de_add (do_e (de_ix (do_sl (pv 0)) (do_e (de_int)))) (do_e (de_mul (do_e (de_int)) (do_e (de_ix (do_sl (pv 0)) (do_e (de_int)))))))) (dos_nil)))) (do_e (de_int)))) (dos_nil)))) (do_e (de_int)))) (dss_cons (ds_set (i := 4) sc__law_draw.nd (de_mod (do_e (de_int1 T.n_int (dos_cons (do_e (de_mul (do_sl (pv 4)) (do_e (de_add (do_e (de_fdiv (do_sl (pv 4)) (do_e (de_int)))) (do_e (de_int)))))) (dos_nil)))) (do_e (de_int)))) (dss_cons (ds_set (i := 4) sc__law_draw.nd (de_mod (do_e (de_int1 T.n_int (dos_cons (do_e (de_mul (do_sl (pv 4)) (do_e (de_add (do_e (de_fdiv (do_sl (pv 4)) (do_e (de_int)))) (do_e (de_int)))))) (dos_nil)))) (do_e (de_int)))) (dss_one (ds_ret (de_mod (do_e (de_int1 T.n_int (dos_cons (do_e (de_fdiv (do_sl (pv 4)) (do_e (de_int)))) (dos_nil)))) (do_sl (pv 1)))))))))))
theorem fn__law_sum (T : Txt G mg) : Fn P w G mg base 1 ("_law_sum" : Str) 2 f__law_sum :=
  mkFn (N := [("numbers" : Str), ("q" : Str), ("total" : Str), ("number" : Str)]) (ps := [("numbers" : Str), ("q" : Str)]) (pm := [false, false]) T.d__law_sum sc__law_sum rfl (fun _ _ _ _ _ _ us hl => match us, hl with | [_, _], _ => rfl) (fun f cdv A outer s H E hr => by
  show DSs _ _ _ _ _ (g__law_sum)
  have hu := u65 hr
  exact dss_cons (ds_set (i := 2) sc__law_sum.nd (de_int)) (dss_cons (ds_for passes_cx rfl (di_seq (de_rev (do_sl (pv 0)))) (dg_name (pg_name (i := 3) sc__law_sum.nd rfl (by first | exact Or.inl rfl | exact Or.inr rfl))) (dss_one (ds_set (i := 2) sc__law_sum.nd (de_fz (de_add (do_e (de_mul (do_sl (pv 2)) (do_sl (pv 1)))) (do_sl (pv 3))))))) (dss_one (ds_ret (de_var (pv 2))))))
theorem fn_is_number (T : Txt G mg) : Fn P w G mg base 2 ("is_number" : Str) 2 f_is_number :=
  mkFn (N := [("thing" : Str), ("most" : Str)]) (ps := [("thing" : Str), ("most" : Str)]) (pm := [false, false]) T.d_is_number sc_is_number rfl (fun _ _ _ _ _ _ us hl => match us, hl with | [_, _], _ => rfl) (fun f cdv A outer s H E hr => by
  show DSs _ _ _ _ _ (g_is_number)
  have hu := u65 hr
  exact dss_one (ds_ret (de_and (de_call ((fn_is_integer T).mono (by decide)) hr takes_cx (das_cons (da_v (de_var (pv 0))) (das_nil)) rfl) (de_and1 (de_chain op_le op_le (do_e (de_int)) (do_sl (pv 0)) (do_sl (pv 1)))))))
theorem fn_is_within (T : Txt G mg) : Fn P w G mg base 2 ("is_within" : Str) 3 f_is_within :=
  mkFn (N := [("thing" : Str), ("least" : Str), ("most" : Str)]) (ps := [("thing" : Str), ("least" : Str), ("most" : Str)]) (pm := [false, false, false]) T.d_is_within sc_is_within rfl (fun _ _ _ _ _ _ us hl => match us, hl with | [_, _, _], _ => rfl) (fun f cdv A outer s H E hr => by
  show DSs _ _ _ _ _ (g_is_within)
  have hu := u65 hr
  exact dss_one (ds_ret (de_and (de_call ((fn_is_integer T).mono (by decide)) hr takes_cx (das_cons (da_v (de_var (pv 0))) (das_nil)) rfl) (de_and1 (de_chain op_le op_le (do_sl (pv 1)) (do_sl (pv 0)) (do_sl (pv 2)))))))
theorem fn_worth (T : Txt G mg) : Fn P w G mg base 2 ("worth" : Str) 2 f_worth :=
  mkFn (N := [("given" : Str), ("q" : Str), ("one" : Str)]) (ps := [("given" : Str), ("q" : Str)]) (pm := [false, false]) T.d_worth sc_worth rfl (fun _ _ _ _ _ _ us hl => match us, hl with | [_, _], _ => rfl) (fun f cdv A outer s H E hr => by
  show DSs _ _ _ _ _ (g_worth)
  have hu := u65 hr
  exact dss_cons (ds_if (DW.dt (dw_or (dt_not (dt_val (de_isi T.n_isinstance (do_sl (pv 0)) (pe_bltn (v := .ty "tuple") rfl T.n_tuple (u := .type "tuple") (by decide +kernel) rfl) (ClsV.ty "tuple") T.i_tuple.ok))) (dw_or (dt_gt (do_e (de_len T.n_len (dos_cons (do_sl (pv 0)) (dos_nil)))) (do_e (de_gint T.c_MOST_NUMBERS))) (dw_or1 (dt_not (dt_val (de_all rfl T.n_all (dos_cons (do_e (de_lc 3 rfl sc_worth.nd (di_seq (de_var (pv 0))) (own := [(("one" : Str), 2)]) (blkOk_by (by rfl)) (fun _ _ _ _ _ => dg_name (pg_name (i := 2) sc_worth.nd rfl (by first | exact Or.inl rfl | exact Or.inr rfl))) (fun _ _ _ _ _ => dts_nil) (fun _ _ _ _ _ => de_call ((fn_is_integer T).mono (by decide)) hr PV.takes0 (das_cons (da_v (de_var (pv 2))) (das_nil)) rfl))) (dos_nil))))))))) (dss_one (ds_raise T.x_NoNumbers rfl takes_cx)) (dss_nil)) (dss_cons (ds_if (dt_not (dt_val (de_call ((fn_is_integer T).mono (by decide)) hr takes_cx (das_cons (da_v (de_var (pv 1))) (das_nil)) rfl))) (dss_one (ds_raise T.x_NoColours rfl takes_cx)) (dss_nil)) (dss_one (ds_ret (de_call ((fn_raw_worth T).mono (by decide)) hr takes_cx (das_cons (da_v (de_var (pv 0))) (das_cons (da_v (de_var (pv 1))) (das_nil))) rfl)))))
theorem fn__law_any (T : Txt G mg) : Fn P w G mg base 2 ("_law_any" : Str) 2 f__law_any :=
  mkFn (N := [("hand" : Str), ("some" : Str)]) (ps := [("hand" : Str), ("some" : Str)]) (pm := [true, false]) T.d__law_any sc__law_any rfl (fun _ _ _ _ _ _ us hl => match us, hl with | [_, _], _ => rfl) (fun f cdv A outer s H E hr => by
  show DSs _ _ _ _ _ (g__law_any)
  have hu := u65 hr
  exact dss_one (ds_ret (de_ix (do_sl (pv 1)) (do_e (de_call ((fn__law_draw T).mono (by decide)) hr takes_cx (das_cons (da_io (pv 0)) (das_cons (da_v (de_len T.n_len (dos_cons (do_sl (pv 1)) (dos_nil)))) (das_nil))) rfl)))))
theorem fn_is_tie_of (T : Txt G mg) : Fn P w G mg base 3 ("is_tie_of" : Str) 2 f_is_tie_of :=
  mkFn (N := [("many" : Str), ("thing" : Str), ("place" : Str)]) (ps := [("many" : Str), ("thing" : Str)]) (pm := [false, false]) T.d_is_tie_of sc_is_tie_of rfl (fun _ _ _ _ _ _ us hl => match us, hl with | [_, _], _ => rfl) (fun f cdv A outer s H E hr => by
  show DSs _ _ _ _ _ (g_is_tie_of)
  have hu := u65 hr
  exact dss_cons (ds_if (DW.dt (dw_or (dt_not (dt_val (de_isi T.n_isinstance (do_sl (pv 1)) (pe_bltn (v := .ty "tuple") rfl T.n_tuple (u := .type "tuple") (by decide +kernel) rfl) (ClsV.ty "tuple") T.i_tuple.ok))) (dw_or (dt_ne hu (do_e (de_len T.n_len (dos_cons (do_sl (pv 1)) (dos_nil)))) (do_e (de_int))) (dw_or1 (dt_not (dt_val (de_all rfl T.n_all (dos_cons (do_e (de_lc 3 rfl sc_is_tie_of.nd (di_seq (de_var (pv 1))) (own := [(("place" : Str), 2)]) (blkOk_by (by rfl)) (fun _ _ _ _ _ => dg_name (pg_name (i := 2) sc_is_tie_of.nd rfl (by first | exact Or.inl rfl | exact Or.inr rfl))) (fun _ _ _ _ _ => dts_nil) (fun _ _ _ _ _ => de_call ((fn_is_number T).mono (by decide)) hr PV.takes0 (das_cons (da_v (de_var (pv 2))) (das_cons (da_v (de_sub (do_sl (pv 0)) (do_e (de_int)))) (das_nil))) rfl))) (dos_nil))))))))) (dss_one (ds_ret (de_bl))) (dss_nil)) (dss_one (ds_ret (de_le (do_e (de_ix (do_sl (pv 1)) (do_e (de_int)))) (do_e (de_ix (do_sl (pv 1)) (do_e (de_int))))))))
theorem fn__law_great (T : Txt G mg) : Fn P w G mg base 3 ("_law_great" : Str) 1 f__law_great :=
  mkFn (N := [("hand" : Str), ("kind" : Str), ("number" : Str)]) (ps := [("hand" : Str)]) (pm := [true]) T.d__law_great sc__law_great rfl (fun _ _ _ _ _ _ us hl => match us, hl with | [_], _ => rfl) (fun f cdv A outer s H E hr => by
  show DSs _ _ _ _ _ (g__law_great)
  have hu := u65 hr
  exact dss_cons (ds_par2 rfl sc__law_great.nd (das_cons (da_v (de_call ((fn__law_draw T).mono (by decide)) hr takes_cx (das_cons (da_io (pv 0)) (das_cons (da_v (de_int)) (das_nil))) rfl)) (das_cons (da_v (de_call ((fn__law_draw T).mono (by decide)) hr takes_cx (das_cons (da_io (pv 0)) (das_cons (da_v (de_pow (do_e (de_int)) (do_e (de_int)))) (das_nil))) rfl)) (das_nil)))) (dss_cons (ds_if (dt_lt (do_sl (pv 1)) (do_e (de_int))) (dss_one (ds_ret (de_call ((fn__law_any T).mono (by decide)) hr takes_cx (das_cons (da_io (pv 0)) (das_cons (da_v (de_lst (das_cons (da_v (de_int)) (das_cons (da_v (de_int)) (das_cons (da_v (de_int)) (das_cons (da_v (de_neg (do_e (de_int)))) (das_cons (da_v (de_int)) (das_cons (da_v (de_neg (do_e (de_int)))) (das_cons (da_v (de_int)) (das_nil)))))))))) (das_nil))) rfl))) (dss_nil)) (dss_cons (ds_if (dt_eq hu (do_sl (pv 1)) (do_e (de_int))) (dss_one (ds_ret (de_sub (do_sl (pv 2)) (do_e (de_pow (do_e (de_int)) (do_e (de_int))))))) (dss_nil)) (dss_one (ds_ret (de_call ((fn__law_any T).mono (by decide)) hr takes_cx (das_cons (da_io (pv 0)) (das_cons (da_v (de_lst (das_cons (da_v (de_sub (do_e (de_pow (do_e (de_int)) (do_e (de_int)))) (do_e (de_int)))) (das_cons (da_v (de_sub (do_e (de_int)) (do_e (de_pow (do_e (de_int)) (do_e (de_int)))))) (das_cons (da_v (de_add (do_e (de_pow (do_e (de_int)) (do_e (de_int)))) (do_sl (pv 2)))) (das_cons (da_v (de_sub (do_e (de_neg (do_e (de_int)))) (do_e (de_mul (do_sl (pv 2)) (do_e (de_pow (do_e (de_int)) (do_e (de_int)))))))) (das_nil))))))) (das_nil))) rfl))))))
theorem fn__law_deep (T : Txt G mg) : Fn P w G mg base 3 ("_law_deep" : Str) 1 f__law_deep :=
  mkFn (N := [("hand" : Str), ("thing" : Str), ("turn" : Str)]) (ps := [("hand" : Str)]) (pm := [true]) T.d__law_deep sc__law_deep rfl (fun _ _ _ _ _ _ us hl => match us, hl with | [_], _ => rfl) (fun f cdv A outer s H E hr => by
  show DSs _ _ _ _ _ (g__law_deep)
  have hu := u65 hr
  exact dss_cons (ds_set (i := 1) sc__law_deep.nd (de_fz (de_call ((fn__law_any T).mono (by decide)) hr takes_cx (das_cons (da_io (pv 0)) (das_cons (da_v (de_lst (das_cons (da_v (de_int)) (das_cons (da_v (de_tup (das_nil))) (das_cons (da_v (de_non)) (das_nil)))))) (das_nil))) rfl))) (dss_cons (ds_for passes_cx rfl (di_range1 (dos_cons (do_e (de_add (do_e (de_int)) (do_e (de_call ((fn__law_draw T).mono (by decide)) hr takes_cx (das_cons (da_io (pv 0)) (das_cons (da_v (de_int)) (das_nil))) rfl)))) (dos_nil)) T.n_range) (dg_name (pg_name (i := 2) sc__law_deep.nd rfl (by first | exact Or.inl rfl | exact Or.inr rfl))) (dss_one (ds_set (i := 1) sc__law_deep.nd (de_fz (de_call ((fn__law_any T).mono (by decide)) hr takes_cx (das_cons (da_io (pv 0)) (das_cons (da_v (de_lst (das_cons (da_v (de_tup (das_cons (da_v (de_var (pv 1))) (das_nil)))) (das_cons (da_v (de_lst (das_cons (da_v (de_var (pv 1))) (das_nil)))) (das_nil))))) (das_nil))) rfl))))) (dss_one (ds_ret (de_var (pv 1))))))
theorem fn__law_told (T : Txt G mg) : Fn P w G mg base 3 ("_law_told" : Str) 2 f__law_told :=
  mkFn (N := [("numbers" : Str), ("q" : Str), ("error" : Str), ("flags" : Str)]) (ps := [("numbers" : Str), ("q" : Str)]) (pm := [false, false]) T.d__law_told sc__law_told rfl (fun _ _ _ _ _ _ us hl => match us, hl with | [_, _], _ => rfl) (fun f cdv A outer s H E hr => by
  show DSs _ _ _ _ _ (g__law_told)
  have hu := u65 hr
  exact dss_one (ds_try_as (i := 2) T.ex sc__law_told.nd ⟨rfl, rfl, .inl T.g_PaintError⟩ takes_cx T.t_PaintError.ok (fun W' pn' xe' tk' pp' => dss_one (ds_ret (de_tup (das_cons (da_v (de_str)) (das_cons (da_v (de_call ((fn_worth T).mono (by decide)) hr tk' (das_cons (da_v (de_var (pv 0))) (das_cons (da_v (de_var (pv 1))) (das_nil))) rfl)) (das_nil)))))) (fun a oe dd pn k f hz hv hd hl => match f, hd with
    | none, hd => (let hd := hd rfl; dss_cons (ds_set (i := 3) sc__law_told.nd (de_fz (de_lst (das_cons (da_v (de_isX T.xc_NoNumbers hz hd hv T.n_isinstance (pv 2) (pe_glob (v := .ref _) rfl T.g_NoNumbers rfl) (ClsV.own _))) (das_cons (da_v (de_isX T.xc_NoColours hz hd hv T.n_isinstance (pv 2) (pe_glob (v := .ref _) rfl T.g_NoColours rfl) (ClsV.own _))) (das_nil)))))) (dss_cons (ds_if (DW.dt (dw_or (dt_ne hu (do_e (de_count (pv 3) (de_bl))) (do_e (de_int))) (dw_or1 (dt_not (dt_val (de_isX T.xc_ValueError hz hd hv T.n_isinstance (pv 2) (pe_bltn (v := .ty "ValueError") rfl T.n_ValueError (u := .type "ValueError") (by decide +kernel) rfl) (ClsV.ty "ValueError"))))))) (dss_one (ds_ret (de_tup (das_cons (da_v (de_str)) (das_cons (da_v (de_int)) (das_nil)))))) (dss_nil)) (dss_one (ds_ret (de_tup (das_cons (da_v (de_ix (do_e (de_lst (das_cons (da_v (de_str)) (das_cons (da_v (de_str)) (das_nil))))) (do_e (de_index (pv 3) (de_bl))))) (das_cons (da_v (de_int)) (das_nil))))))))
    | some _, _ => dss_never)))
theorem mk_Web (T : Txt G mg) : MkOk P w G mg base 4 ("Web" : Str) 0 3 f_Web_init :=
  mkMk (N := [("self" : Str), ("many" : Str), ("ties" : Str), ("index" : Str), ("tie" : Str)]) (ps := [("self" : Str), ("many" : Str), ("ties" : Str)]) (pm := [true, false, false]) T.m_Web sc_Web_init rfl (fun _ _ _ _ _ _ us hl => match us, hl with | [_, _, _], _ => rfl) (fun f cdv A outer s H E hr => by
  show DSs _ _ _ _ _ (g_Web_init)
  have hu := u65 hr
  exact dss_cons (ds_if (dt_not (dt_val (de_call ((fn_is_within T).mono (by decide)) hr takes_cx (das_cons (da_v (de_var (pv 1))) (das_cons (da_v (de_int)) (das_cons (da_v (de_gint T.c_MOST_PLACES)) (das_nil)))) rfl))) (dss_one (ds_never)) (dss_nil)) (dss_cons (ds_if (DW.dt (dw_or (dt_not (dt_val (de_isi T.n_isinstance (do_sl (pv 2)) (pe_bltn (v := .ty "tuple") rfl T.n_tuple (u := .type "tuple") (by decide +kernel) rfl) (ClsV.ty "tuple") T.i_tuple.ok))) (dw_or1 (dt_gt (do_e (de_len T.n_len (dos_cons (do_sl (pv 2)) (dos_nil)))) (do_e (de_gint T.c_MOST_TIES)))))) (dss_one (ds_never)) (dss_nil)) (dss_cons (ds_for passes_cx rfl (di_enum (das_cons (da_v (de_var (pv 2))) (das_nil)) T.n_enumerate) (dg_tup rfl (dgs_cons (dg_name (pg_name (i := 3) sc_Web_init.nd rfl (by first | exact Or.inl rfl | exact Or.inr rfl))) (dgs_cons (dg_name (pg_name (i := 4) sc_Web_init.nd rfl (by first | exact Or.inl rfl | exact Or.inr rfl))) (dgs_nil)))) (dss_one (ds_if (dt_not (dt_val (de_call ((fn_is_tie_of T).mono (by decide)) hr takes_cx (das_cons (da_v (de_var (pv 1))) (das_cons (da_v (de_var (pv 4))) (das_nil))) rfl))) (dss_one (ds_never)) (dss_nil)))) (dss_cons (ds_fldset (k := 0) (pv 0) (de_var (pv 1)) T.k_Web (by rw [T.fl_Web]; rfl)) (dss_one (ds_fldset (k := 1) (pv 0) (de_var (pv 2)) T.k_Web (by rw [T.fl_Web]; rfl)))))))
theorem fn__law_no_numbers (T : Txt G mg) : Fn P w G mg base 6 ("_law_no_numbers" : Str) 2 f__law_no_numbers :=
  mkFn (N := [("hand" : Str), ("numbers" : Str), ("odd" : Str), ("at" : Str), ("some" : Str)]) (ps := [("hand" : Str), ("numbers" : Str)]) (pm := [true, false]) T.d__law_no_numbers sc__law_no_numbers rfl (fun _ _ _ _ _ _ us hl => match us, hl with | [_, _], _ => rfl) (fun f cdv A outer s H E hr => by
  show DSs _ _ _ _ _ (g__law_no_numbers)
  have hu := u65 hr
  exact dss_cons (ds_set (i := 2) sc__law_no_numbers.nd (de_fz (de_call ((fn__law_any T).mono (by decide)) hr takes_cx (das_cons (da_io (pv 0)) (das_cons (da_v (de_lst (das_cons (da_v (de_bl)) (das_cons (da_v (de_bl)) (das_cons (da_v (de_non)) (das_cons (da_v (de_str)) (das_cons (da_v (de_tup (das_cons (da_v (de_int)) (das_nil)))) (das_cons (da_v (de_lst (das_cons (da_v (de_int)) (das_nil)))) (das_cons (da_v (de_dct0)) (das_cons (da_v (de_mk (k := 4) ((mk_Web T).mono (by decide)) (hr.mono (by decide)) takes_cx (das_cons (da_v (de_int)) (das_cons (da_v (de_tup (das_nil))) (das_nil))) rfl)) (das_cons (da_v (de_call ((fn__law_deep T).mono (by decide)) hr takes_cx (das_cons (da_io (pv 0)) (das_nil)) rfl)) (das_nil)))))))))))) (das_nil))) rfl))) (dss_cons (ds_set (i := 3) sc__law_no_numbers.nd (de_fz (de_call ((fn__law_draw T).mono (by decide)) hr takes_cx (das_cons (da_io (pv 0)) (das_cons (da_v (de_add (do_e (de_len T.n_len (dos_cons (do_sl (pv 1)) (dos_nil)))) (do_e (de_int)))) (das_nil))) rfl))) (dss_cons (ds_set (i := 4) sc__law_no_numbers.nd (de_lst (das_cons (da_v (de_list T.n_list (dos_cons (do_sl (pv 1)) (dos_nil)))) (das_cons (da_v (de_non)) (das_cons (da_v (de_int)) (das_cons (da_v (de_str)) (das_cons (da_v (de_dct1i)) (das_cons (da_v (de_mk (k := 4) ((mk_Web T).mono (by decide)) (hr.mono (by decide)) takes_cx (das_cons (da_v (de_int)) (das_cons (da_v (de_tup (das_cons (da_v (de_tup (das_cons (da_v (de_int)) (das_cons (da_v (de_int)) (das_nil))))) (das_nil)))) (das_nil))) rfl)) (das_cons (da_v (de_mul (do_e (de_tup (das_cons (da_v (de_int)) (das_nil)))) (do_e (de_int)))) (das_cons (da_v (de_mul (do_e (de_tup (das_cons (da_v (de_int)) (das_nil)))) (do_e (de_int)))) (das_cons (da_v (de_mul (do_e (de_tup (das_cons (da_v (de_int)) (das_nil)))) (do_e (de_int)))) (das_nil)))))))))))) (dss_cons (ds_expr (de_append (pv 4) (das_cons (da_v (de_call ((fn__law_deep T).mono (by decide)) hr takes_cx (das_cons (da_io (pv 0)) (das_nil)) rfl)) (das_nil)))) (dss_one (ds_ret (de_call ((fn__law_any T).mono (by decide)) hr takes_cx (das_cons (da_io (pv 0)) (das_cons (da_v (de_add (do_e (de_add (do_e (de_mul (do_e (de_lst (das_cons (da_v (de_add (do_e (de_add (do_e (de_slice (do_sl (pv 1)) dp_no (dp_yes (do_sl (pv 3))))) (do_e (de_tup (das_cons (da_v (de_var (pv 2))) (das_nil)))))) (do_e (de_slice (do_sl (pv 1)) (dp_yes (do_e (de_add (do_sl (pv 3)) (do_e (de_int))))) dp_no)))) (das_cons (da_v (de_tup (das_cons (da_v (de_var (pv 2))) (das_nil)))) (das_cons (da_v (de_add (do_e (de_tup (das_cons (da_v (de_int)) (das_cons (da_v (de_int)) (das_nil))))) (do_e (de_tup (das_cons (da_v (de_var (pv 2))) (das_nil)))))) (das_nil)))))) (do_e (de_int)))) (do_sl (pv 4)))) (do_e (de_lst (das_cons (da_v (de_bl)) (das_nil)))))) (das_nil))) rfl)))))))
theorem fn__law_no_colours (T : Txt G mg) : Fn P w G mg base 6 ("_law_no_colours" : Str) 1 f__law_no_colours :=
  mkFn (N := [("hand" : Str)]) (ps := [("hand" : Str)]) (pm := [true]) T.d__law_no_colours sc__law_no_colours rfl (fun _ _ _ _ _ _ us hl => match us, hl with | [_], _ => rfl) (fun f cdv A outer s H E hr => by
  show DSs _ _ _ _ _ (g__law_no_colours)
  have hu := u65 hr
  exact dss_one (ds_ret (de_call ((fn__law_any T).mono (by decide)) hr takes_cx (das_cons (da_io (pv 0)) (das_cons (da_v (de_lst (das_cons (da_v (de_bl)) (das_cons (da_v (de_bl)) (das_cons (da_v (de_non)) (das_cons (da_v (de_str)) (das_cons (da_v (de_tup (das_cons (da_v (de_int)) (das_nil)))) (das_cons (da_v (de_lst (das_cons (da_v (de_int)) (das_nil)))) (das_cons (da_v (de_dct0)) (das_cons (da_v (de_mk (k := 4) ((mk_Web T).mono (by decide)) (hr.mono (by decide)) takes_cx (das_cons (da_v (de_int)) (das_cons (da_v (de_tup (das_nil))) (das_nil))) rfl)) (das_cons (da_v (de_call ((fn__law_deep T).mono (by decide)) hr takes_cx (das_cons (da_io (pv 0)) (das_nil)) rfl)) (das_nil)))))))))))) (das_nil))) rfl)))
theorem body_law (T : Txt G mg) : BodyOk P w G mg base 6 "law" s_law [("script" : Str), ("hand" : Str), ("turn" : Str), ("many" : Str), ("numbers" : Str), ("q" : Str), ("word" : Str), ("told" : Str), ("none" : Str), ("odd" : Str), ("at" : Str)] [false] g_law :=
  (fun f cdv A outer s H E hr => by
  show DSs _ _ _ _ _ (g_law)
  have hu := u65 hr
  exact dss_cons (ds_set (i := 1) sc_law.nd (de_call ((fn__law_hand T).mono (by decide)) hr takes_cx (das_cons (da_v (de_var (pv 0))) (das_nil)) rfl)) (dss_cons (ds_for passes_cx rfl (di_range1 (dos_cons (do_e (de_int)) (dos_nil)) T.n_range) (dg_name (pg_name (i := 2) sc_law.nd rfl (by first | exact Or.inl rfl | exact Or.inr rfl))) (dss_cons (ds_set (i := 3) sc_law.nd (de_fz (de_call ((fn__law_any T).mono (by decide)) hr takes_cx (das_cons (da_io (pv 1)) (das_cons (da_v (de_lst (das_cons (da_v (de_int)) (das_cons (da_v (de_int)) (das_cons (da_v (de_int)) (das_cons (da_v (de_int)) (das_cons (da_v (de_int)) (das_cons (da_v (de_int)) (das_cons (da_v (de_int)) (das_cons (da_v (de_int)) (das_cons (da_v (de_int)) (das_cons (da_v (de_call ((fn__law_draw T).mono (by decide)) hr takes_cx (das_cons (da_io (pv 1)) (das_cons (da_v (de_int)) (das_nil))) rfl)) (das_nil))))))))))))) (das_nil))) rfl))) (dss_cons (ds_set (i := 4) sc_law.nd (de_tuple T.n_tuple (dos_cons (do_e (de_lc 11 rfl sc_law.nd (di_range1 (dos_cons (do_sl (pv 3)) (dos_nil)) T.n_range) (own := [(("at" : Str), 10)]) (blkOk_by (by rfl)) (fun _ _ _ _ _ => dg_name (pg_name (i := 10) sc_law.nd rfl (by first | exact Or.inl rfl | exact Or.inr rfl))) (fun _ _ _ _ _ => dts_nil) (fun _ _ _ _ _ => de_call ((fn__law_great T).mono (by decide)) hr PV.takes0 (das_cons (da_io (pv 1)) (das_nil)) rfl))) (dos_nil)))) (dss_cons (ds_set (i := 5) sc_law.nd (de_fz (de_call ((fn__law_any T).mono (by decide)) hr takes_cx (das_cons (da_io (pv 1)) (das_cons (da_v (de_lst (das_cons (da_v (de_int)) (das_cons (da_v (de_int)) (das_cons (da_v (de_int)) (das_cons (da_v (de_neg (do_e (de_int)))) (das_cons (da_v (de_int)) (das_cons (da_v (de_neg (do_e (de_int)))) (das_cons (da_v (de_int)) (das_cons (da_v (de_call ((fn__law_great T).mono (by decide)) hr takes_cx (das_cons (da_io (pv 1)) (das_nil)) rfl)) (das_cons (da_v (de_call ((fn__law_great T).mono (by decide)) hr takes_cx (das_cons (da_io (pv 1)) (das_nil)) rfl)) (das_nil)))))))))))) (das_nil))) rfl))) (dss_cons (ds_asg (de_call ((fn__law_told T).mono (by decide)) hr takes_cx (das_cons (da_v (de_var (pv 4))) (das_cons (da_v (de_var (pv 5))) (das_nil))) rfl) (dg_tup rfl (dgs_cons (dg_name (pg_name (i := 6) sc_law.nd rfl (by first | exact Or.inl rfl | exact Or.inr rfl))) (dgs_cons (dg_name (pg_name (i := 7) sc_law.nd rfl (by first | exact Or.inl rfl | exact Or.inr rfl))) (dgs_nil))))) (dss_cons (ds_if (DW.dt (dw_or (dt_ne hu (do_sl (pv 6)) (do_e (de_str))) (dw_or (dt_val (de_isi T.n_isinstance (do_sl (pv 7)) (pe_bltn (v := .ty "bool") rfl T.n_bool (u := .type "bool") (by decide +kernel) rfl) (ClsV.ty "bool") T.i_bool.ok)) (dw_or (dt_not (dt_val (de_isi T.n_isinstance (do_sl (pv 7)) (pe_bltn (v := .ty "int") rfl T.n_int (u := .type "int") (by decide +kernel) rfl) (ClsV.ty "int") T.i_int.ok))) (dw_or1 (dt_ne hu (do_sl (pv 7)) (do_e (de_call ((fn__law_sum T).mono (by decide)) hr takes_cx (das_cons (da_v (de_var (pv 4))) (das_cons (da_v (de_var (pv 5))) (das_nil))) rfl)))))))) (dss_one (ds_ret (de_bl))) (dss_nil)) (dss_cons (ds_par2 rfl sc_law.nd (das_cons (da_v (de_call ((fn__law_no_numbers T).mono (by decide)) hr takes_cx (das_cons (da_io (pv 1)) (das_cons (da_v (de_var (pv 4))) (das_nil))) rfl)) (das_cons (da_v (de_call ((fn__law_no_colours T).mono (by decide)) hr takes_cx (das_cons (da_io (pv 1)) (das_nil)) rfl)) (das_nil)))) (dss_cons (ds_if (DW.dt (dw_or (dt_ne hu (do_e (de_call ((fn__law_told T).mono (by decide)) hr takes_cx (das_cons (da_v (de_var (pv 8))) (das_cons (da_v (de_var (pv 5))) (das_nil))) rfl)) (do_e (de_tup (das_cons (da_v (de_str)) (das_cons (da_v (de_int)) (das_nil)))))) (dw_or1 (dt_ne hu (do_e (de_call ((fn__law_told T).mono (by decide)) hr takes_cx (das_cons (da_v (de_var (pv 8))) (das_cons (da_v (de_var (pv 9))) (das_nil))) rfl)) (do_e (de_tup (das_cons (da_v (de_str)) (das_cons (da_v (de_int)) (das_nil))))))))) (dss_one (ds_ret (de_bl))) (dss_nil)) (dss_one (ds_if (dt_ne hu (do_e (de_call ((fn__law_told T).mono (by decide)) hr takes_cx (das_cons (da_v (de_var (pv 4))) (das_cons (da_v (de_var (pv 9))) (das_nil))) rfl)) (do_e (de_tup (das_cons (da_v (de_str)) (das_cons (da_v (de_int)) (das_nil)))))) (dss_one (ds_ret (de_bl))) (dss_nil))))))))))) (dss_one (ds_ret (de_and (de_eq hu (do_e (de_call ((fn__law_told T).mono (by decide)) hr takes_cx (das_cons (da_v (de_tup (das_nil))) (das_cons (da_v (de_call ((fn__law_great T).mono (by decide)) hr takes_cx (das_cons (da_io (pv 1)) (das_nil)) rfl)) (das_nil))) rfl)) (do_e (de_tup (das_cons (da_v (de_str)) (das_cons (da_v (de_int)) (das_nil)))))) (de_and1 (de_eq hu (do_e (de_call ((fn__law_told T).mono (by decide)) hr takes_cx (das_cons (da_v (de_tup (das_nil))) (das_cons (da_v (de_non)) (das_nil))) rfl)) (do_e (de_tup (das_cons (da_v (de_str)) (das_cons (da_v (de_int)) (das_nil))))))))))))
end
theorem law_ok {P : Program} {w : World} {G : Gx} {mg : Str → Option Value} {base : Heap} (T : Txt G mg) {f : Addr} {fd : FuncData} (F : Fun G.K "law" "law" s_law f fd) : FnOk P w G.K mg base (L2.CX P w) 7 f fd ["script"] (spOf G 1 f_law) := by
  obtain ⟨f', fd', h1, h2⟩ := T.d_law.ex
  exact fn_ok F sc_law rfl fun cdv A outer s H E hr => body_law T f cdv A outer s H E hr

end K17

set_option Elab.async false
set_option linter.all false
set_option maxRecDepth 100000
/-! law_k17_worth_of_any_numbers: the facts of the text -/
namespace K17
open PySem PySem.Spec PyProof.Rows L2 PV
theorem all_mk {P : Program} {w : World} {K : PySem.W.Frag} {h : Heap} {mg : Str → Option Value} {fa : Addr} {C0 : Addr} {f0 : Addr} {od0 an0 : Option Addr} {sl0 : Array (Option Value)} {oc0 kV0 dc0 pm0 cd0 ct0 : Value} {f1 : Addr} {od1 an1 : Option Addr} {sl1 : Array (Option Value)} {oc1 kV1 dc1 pm1 cd1 ct1 : Value} {f2 : Addr} {od2 an2 : Option Addr} {sl2 : Array (Option Value)} {oc2 kV2 dc2 pm2 cd2 ct2 : Value} {f3 : Addr} {od3 an3 : Option Addr} {sl3 : Array (Option Value)} {oc3 kV3 dc3 pm3 cd3 ct3 : Value} {f4 : Addr} {od4 an4 : Option Addr} {sl4 : Array (Option Value)} {oc4 kV4 dc4 pm4 cd4 ct4 : Value} {f5 : Addr} {od5 an5 : Option Addr} {sl5 : Array (Option Value)} {oc5 kV5 dc5 pm5 cd5 ct5 : Value} {f6 : Addr} {od6 an6 : Option Addr} {sl6 : Array (Option Value)} {oc6 kV6 dc6 pm6 cd6 ct6 : Value} {f7 : Addr} {od7 an7 : Option Addr} {sl7 : Array (Option Value)} {oc7 kV7 dc7 pm7 cd7 ct7 : Value} {f8 : Addr} {od8 an8 : Option Addr} {sl8 : Array (Option Value)} {oc8 kV8 dc8 pm8 cd8 ct8 : Value} {f9 : Addr} {od9 an9 : Option Addr} {sl9 : Array (Option Value)} {oc9 kV9 dc9 pm9 cd9 ct9 : Value} {f10 : Addr} {od10 an10 : Option Addr} {sl10 : Array (Option Value)} {oc10 kV10 dc10 pm10 cd10 ct10 : Value} {f11 : Addr} {od11 an11 : Option Addr} {sl11 : Array (Option Value)} {oc11 kV11 dc11 pm11 cd11 ct11 : Value} {f12 : Addr} {od12 an12 : Option Addr} {sl12 : Array (Option Value)} {oc12 kV12 dc12 pm12 cd12 ct12 : Value} {f13 : Addr} {od13 an13 : Option Addr} {sl13 : Array (Option Value)} {oc13 kV13 dc13 pm13 cd13 ct13 : Value} {f14 : Addr} {od14 an14 : Option Addr} {sl14 : Array (Option Value)} {oc14 kV14 dc14 pm14 cd14 ct14 : Value} {f15 : Addr} {od15 an15 : Option Addr} {sl15 : Array (Option Value)} {oc15 kV15 dc15 pm15 cd15 ct15 : Value} {f16 : Addr} {od16 an16 : Option Addr} {sl16 : Array (Option Value)} {oc16 kV16 dc16 pm16 cd16 ct16 : Value} {t_MOST_NUMBERS : Tok} {t_MOST_PLACES : Tok} {t_MOST_TIES : Tok} {X0 : Addr} {X1 : Addr} {X2 : Addr} {X3 : Addr} (X : K.In h) (N : h.Ns mainGlobals mg) (hfa : mg "law" = some (.ref fa))
    (aC0 : PySem.W.nsIn K mainGlobals "Web" = some (some (.ref C0)))
    (pgC0 : PySem.W.plainGet K C0 Str.empty = true)
    (hdC0 : PySem.W.hasDictIn K C0 = true)
    (poC0 : PySem.W.plainOver K C0 = true)
    (saC0 : PySem.W.findIn K (.ref C0) "__setattr__" = some (some (.builtin "object.__setattr__")))
    (ccC0 : PySem.W.findIn K (.ref C0) "__class__" = some (some (.builtin "object.__class__")))
    (cmC0 : PySem.W.mroIn K C0 (.type "object") = some true)
    (mkC0 : PySem.W.makesIn K C0 = true)
    (kcC0 : PySem.W.keepIn K (.ref C0) = true)
    (n0C0 : PySem.W.findIn K (.ref C0) "many" = some none)
    (n1C0 : PySem.W.findIn K (.ref C0) "ties" = some none)
    (a0 : PySem.W.nsIn K mainGlobals "is_integer" = some (some (.ref f0)))
    (l0 : K.lookup f0 = some ⟨oc0, od0, .func (PySem.W.fnOf "is_integer" "is_integer" (defArgs s_is_integer) (defBody s_is_integer) (defScope s_is_integer) .none kV0 dc0 pm0 an0 cd0 ct0), sl0⟩)
    (c0 : PySem.W.codeIn K cd0 "is_integer" = true)
    (k0 : PySem.W.keepIn K (.ref f0) = true)
    (a1 : PySem.W.nsIn K mainGlobals "raw_worth" = some (some (.ref f1)))
    (l1 : K.lookup f1 = some ⟨oc1, od1, .func (PySem.W.fnOf "raw_worth" "raw_worth" (defArgs s_raw_worth) (defBody s_raw_worth) (defScope s_raw_worth) .none kV1 dc1 pm1 an1 cd1 ct1), sl1⟩)
    (c1 : PySem.W.codeIn K cd1 "raw_worth" = true)
    (k1 : PySem.W.keepIn K (.ref f1) = true)
    (a2 : PySem.W.nsIn K mainGlobals "_law_hand" = some (some (.ref f2)))
    (l2 : K.lookup f2 = some ⟨oc2, od2, .func (PySem.W.fnOf "_law_hand" "_law_hand" (defArgs s__law_hand) (defBody s__law_hand) (defScope s__law_hand) .none kV2 dc2 pm2 an2 cd2 ct2), sl2⟩)
    (c2 : PySem.W.codeIn K cd2 "_law_hand" = true)
    (k2 : PySem.W.keepIn K (.ref f2) = true)
    (a3 : PySem.W.nsIn K mainGlobals "_law_draw" = some (some (.ref f3)))
    (l3 : K.lookup f3 = some ⟨oc3, od3, .func (PySem.W.fnOf "_law_draw" "_law_draw" (defArgs s__law_draw) (defBody s__law_draw) (defScope s__law_draw) .none kV3 dc3 pm3 an3 cd3 ct3), sl3⟩)
    (c3 : PySem.W.codeIn K cd3 "_law_draw" = true)
    (k3 : PySem.W.keepIn K (.ref f3) = true)
    (a4 : PySem.W.nsIn K mainGlobals "_law_sum" = some (some (.ref f4)))
    (l4 : K.lookup f4 = some ⟨oc4, od4, .func (PySem.W.fnOf "_law_sum" "_law_sum" (defArgs s__law_sum) (defBody s__law_sum) (defScope s__law_sum) .none kV4 dc4 pm4 an4 cd4 ct4), sl4⟩)
    (c4 : PySem.W.codeIn K cd4 "_law_sum" = true)
    (k4 : PySem.W.keepIn K (.ref f4) = true)
    (a5 : PySem.W.nsIn K mainGlobals "is_number" = some (some (.ref f5)))
    (l5 : K.lookup f5 = some ⟨oc5, od5, .func (PySem.W.fnOf "is_number" "is_number" (defArgs s_is_number) (defBody s_is_number) (defScope s_is_number) .none kV5 dc5 pm5 an5 cd5 ct5), sl5⟩)
    (c5 : PySem.W.codeIn K cd5 "is_number" = true)
    (k5 : PySem.W.keepIn K (.ref f5) = true)
    (a6 : PySem.W.nsIn K mainGlobals "is_within" = some (some (.ref f6)))
    (l6 : K.lookup f6 = some ⟨oc6, od6, .func (PySem.W.fnOf "is_within" "is_within" (defArgs s_is_within) (defBody s_is_within) (defScope s_is_within) .none kV6 dc6 pm6 an6 cd6 ct6), sl6⟩)
    (c6 : PySem.W.codeIn K cd6 "is_within" = true)
    (k6 : PySem.W.keepIn K (.ref f6) = true)
    (a7 : PySem.W.nsIn K mainGlobals "worth" = some (some (.ref f7)))
    (l7 : K.lookup f7 = some ⟨oc7, od7, .func (PySem.W.fnOf "worth" "worth" (defArgs s_worth) (defBody s_worth) (defScope s_worth) .none kV7 dc7 pm7 an7 cd7 ct7), sl7⟩)
    (c7 : PySem.W.codeIn K cd7 "worth" = true)
    (k7 : PySem.W.keepIn K (.ref f7) = true)
    (a8 : PySem.W.nsIn K mainGlobals "_law_any" = some (some (.ref f8)))
    (l8 : K.lookup f8 = some ⟨oc8, od8, .func (PySem.W.fnOf "_law_any" "_law_any" (defArgs s__law_any) (defBody s__law_any) (defScope s__law_any) .none kV8 dc8 pm8 an8 cd8 ct8), sl8⟩)
    (c8 : PySem.W.codeIn K cd8 "_law_any" = true)
    (k8 : PySem.W.keepIn K (.ref f8) = true)
    (a9 : PySem.W.nsIn K mainGlobals "is_tie_of" = some (some (.ref f9)))
    (l9 : K.lookup f9 = some ⟨oc9, od9, .func (PySem.W.fnOf "is_tie_of" "is_tie_of" (defArgs s_is_tie_of) (defBody s_is_tie_of) (defScope s_is_tie_of) .none kV9 dc9 pm9 an9 cd9 ct9), sl9⟩)
    (c9 : PySem.W.codeIn K cd9 "is_tie_of" = true)
    (k9 : PySem.W.keepIn K (.ref f9) = true)
    (a10 : PySem.W.nsIn K mainGlobals "_law_great" = some (some (.ref f10)))
    (l10 : K.lookup f10 = some ⟨oc10, od10, .func (PySem.W.fnOf "_law_great" "_law_great" (defArgs s__law_great) (defBody s__law_great) (defScope s__law_great) .none kV10 dc10 pm10 an10 cd10 ct10), sl10⟩)
    (c10 : PySem.W.codeIn K cd10 "_law_great" = true)
    (k10 : PySem.W.keepIn K (.ref f10) = true)
    (a11 : PySem.W.nsIn K mainGlobals "_law_deep" = some (some (.ref f11)))
    (l11 : K.lookup f11 = some ⟨oc11, od11, .func (PySem.W.fnOf "_law_deep" "_law_deep" (defArgs s__law_deep) (defBody s__law_deep) (defScope s__law_deep) .none kV11 dc11 pm11 an11 cd11 ct11), sl11⟩)
    (c11 : PySem.W.codeIn K cd11 "_law_deep" = true)
    (k11 : PySem.W.keepIn K (.ref f11) = true)
    (a12 : PySem.W.nsIn K mainGlobals "_law_told" = some (some (.ref f12)))
    (l12 : K.lookup f12 = some ⟨oc12, od12, .func (PySem.W.fnOf "_law_told" "_law_told" (defArgs s__law_told) (defBody s__law_told) (defScope s__law_told) .none kV12 dc12 pm12 an12 cd12 ct12), sl12⟩)
    (c12 : PySem.W.codeIn K cd12 "_law_told" = true)
    (k12 : PySem.W.keepIn K (.ref f12) = true)
    (a13 : PySem.W.findIn K (.ref C0) "__init__" = some (some (.ref f13)))
    (i13 : PySem.W.isFn K (.ref f13) = true)
    (l13 : K.lookup f13 = some ⟨oc13, od13, .func (PySem.W.fnOf "__init__" "Web.__init__" (defArgs s_Web_init) (defBody s_Web_init) (defScope s_Web_init) .none kV13 dc13 pm13 an13 cd13 ct13), sl13⟩)
    (c13 : PySem.W.codeIn K cd13 "Web.__init__" = true)
    (k13 : PySem.W.keepIn K (.ref f13) = true)
    (a14 : PySem.W.nsIn K mainGlobals "_law_no_numbers" = some (some (.ref f14)))
    (l14 : K.lookup f14 = some ⟨oc14, od14, .func (PySem.W.fnOf "_law_no_numbers" "_law_no_numbers" (defArgs s__law_no_numbers) (defBody s__law_no_numbers) (defScope s__law_no_numbers) .none kV14 dc14 pm14 an14 cd14 ct14), sl14⟩)
    (c14 : PySem.W.codeIn K cd14 "_law_no_numbers" = true)
    (k14 : PySem.W.keepIn K (.ref f14) = true)
    (a15 : PySem.W.nsIn K mainGlobals "_law_no_colours" = some (some (.ref f15)))
    (l15 : K.lookup f15 = some ⟨oc15, od15, .func (PySem.W.fnOf "_law_no_colours" "_law_no_colours" (defArgs s__law_no_colours) (defBody s__law_no_colours) (defScope s__law_no_colours) .none kV15 dc15 pm15 an15 cd15 ct15), sl15⟩)
    (c15 : PySem.W.codeIn K cd15 "_law_no_colours" = true)
    (k15 : PySem.W.keepIn K (.ref f15) = true)
    (a16 : PySem.W.nsIn K mainGlobals "law" = some (some (.ref f16)))
    (l16 : K.lookup f16 = some ⟨oc16, od16, .func (PySem.W.fnOf "law" "law" (defArgs s_law) (defBody s_law) (defScope s_law) .none kV16 dc16 pm16 an16 cd16 ct16), sl16⟩)
    (c16 : PySem.W.codeIn K cd16 "law" = true)
    (k16 : PySem.W.keepIn K (.ref f16) = true)
    (oS : PySem.W.specialIn K (.builtin "object.__class__") "__get__" = some (some (.builtin "getset_descriptor.__get__")))
    (oT : PySem.W.takesIn K (.builtin "object.__class__") = some true)
    (q_MOST_NUMBERS : PySem.W.nsIn K mainGlobals "MOST_NUMBERS" = some (some (.int 64 t_MOST_NUMBERS)))
    (q_MOST_PLACES : PySem.W.nsIn K mainGlobals "MOST_PLACES" = some (some (.int 10 t_MOST_PLACES)))
    (q_MOST_TIES : PySem.W.nsIn K mainGlobals "MOST_TIES" = some (some (.int 16 t_MOST_TIES)))
    (z_ValueError : PySem.W.nsIn K mainGlobals "ValueError" = some none)
    (z_abs : PySem.W.nsIn K mainGlobals "abs" = some none)
    (z_all : PySem.W.nsIn K mainGlobals "all" = some none)
    (z_bool : PySem.W.nsIn K mainGlobals "bool" = some none)
    (z_enumerate : PySem.W.nsIn K mainGlobals "enumerate" = some none)
    (z_int : PySem.W.nsIn K mainGlobals "int" = some none)
    (z_isinstance : PySem.W.nsIn K mainGlobals "isinstance" = some none)
    (z_len : PySem.W.nsIn K mainGlobals "len" = some none)
    (z_list : PySem.W.nsIn K mainGlobals "list" = some none)
    (z_range : PySem.W.nsIn K mainGlobals "range" = some none)
    (z_tuple : PySem.W.nsIn K mainGlobals "tuple" = some none)
    (aX0 : PySem.W.nsIn K mainGlobals "PaintError" = some (some (.ref X0)))
    (gX0 : PySem.W.findIn K (.ref X0) "__getattribute__" = some (some (.builtin "BaseException.__getattribute__")))
    (hX0 : PySem.W.findIn K (.ref X0) "__getattr__" = some none)
    (sX0 : PySem.W.subIn K (.ref X0) (.type "BaseException") = some true)
    (dX0 : PySem.W.hasDictIn K X0 = true)
    (cX0 : PySem.W.findIn K (.ref X0) "__class__" = some (some (.builtin "object.__class__")))
    (mX0 : PySem.W.mroIn K X0 (.type "object") = some true)
    (aX1 : PySem.W.nsIn K mainGlobals "BadWeb" = some (some (.ref X1)))
    (gX1 : PySem.W.findIn K (.ref X1) "__getattribute__" = some (some (.builtin "BaseException.__getattribute__")))
    (hX1 : PySem.W.findIn K (.ref X1) "__getattr__" = some none)
    (sX1 : PySem.W.subIn K (.ref X1) (.type "BaseException") = some true)
    (dX1 : PySem.W.hasDictIn K X1 = true)
    (cX1 : PySem.W.findIn K (.ref X1) "__class__" = some (some (.builtin "object.__class__")))
    (mX1 : PySem.W.mroIn K X1 (.type "object") = some true)
    (aX2 : PySem.W.nsIn K mainGlobals "NoColours" = some (some (.ref X2)))
    (eX2 : PySem.W.excIn K X2 [.type "ValueError", .type "Exception", .type "BaseException", .type "object"] "ValueError.__new__" = true)
    (kX2 : PySem.W.keepIn K (.ref X2) = true)
    (sX2 : PySem.W.subIn K (.ref X2) (.type "BaseException") = some true)
    (tX2 : PySem.W.typeIn K (.ref X2) = some (.type "type"))
    (gX2 : PySem.W.findIn K (.ref X2) "__getattribute__" = some (some (.builtin "BaseException.__getattribute__")))
    (hX2 : PySem.W.findIn K (.ref X2) "__getattr__" = some none)
    (dX2 : PySem.W.hasDictIn K X2 = true)
    (cX2 : PySem.W.findIn K (.ref X2) "__class__" = some (some (.builtin "object.__class__")))
    (mX2 : PySem.W.mroIn K X2 (.type "object") = some true)
    (aX3 : PySem.W.nsIn K mainGlobals "NoNumbers" = some (some (.ref X3)))
    (eX3 : PySem.W.excIn K X3 [.type "ValueError", .type "Exception", .type "BaseException", .type "object"] "ValueError.__new__" = true)
    (kX3 : PySem.W.keepIn K (.ref X3) = true)
    (sX3 : PySem.W.subIn K (.ref X3) (.type "BaseException") = some true)
    (tX3 : PySem.W.typeIn K (.ref X3) = some (.type "type"))
    (gX3 : PySem.W.findIn K (.ref X3) "__getattribute__" = some (some (.builtin "BaseException.__getattribute__")))
    (hX3 : PySem.W.findIn K (.ref X3) "__getattr__" = some none)
    (dX3 : PySem.W.hasDictIn K X3 = true)
    (cX3 : PySem.W.findIn K (.ref X3) "__class__" = some (some (.builtin "object.__class__")))
    (mX3 : PySem.W.mroIn K X3 (.type "object") = some true)
    (u_bool_C0 : PySem.W.kitOne K (.ref C0) (.type "bool") = some false)
    (u_int_C0 : PySem.W.kitOne K (.ref C0) (.type "int") = some false)
    (u_tuple_C0 : PySem.W.kitOne K (.ref C0) (.type "tuple") = some false)
    (v_NoColours_0 : PySem.W.kitOne K (.ref X0) (.ref X2) = some false)
    (v_NoColours_1 : PySem.W.kitOne K (.ref X1) (.ref X2) = some false)
    (v_NoColours_2 : PySem.W.kitOne K (.ref X2) (.ref X2) = some true)
    (v_NoColours_3 : PySem.W.kitOne K (.ref X3) (.ref X2) = some false)
    (v_NoNumbers_0 : PySem.W.kitOne K (.ref X0) (.ref X3) = some false)
    (v_NoNumbers_1 : PySem.W.kitOne K (.ref X1) (.ref X3) = some false)
    (v_NoNumbers_2 : PySem.W.kitOne K (.ref X2) (.ref X3) = some false)
    (v_NoNumbers_3 : PySem.W.kitOne K (.ref X3) (.ref X3) = some true)
    (v_ValueError_0 : PySem.W.kitOne K (.ref X0) (.type "ValueError") = some true)
    (v_ValueError_1 : PySem.W.kitOne K (.ref X1) (.type "ValueError") = some true)
    (v_ValueError_2 : PySem.W.kitOne K (.ref X2) (.type "ValueError") = some true)
    (v_ValueError_3 : PySem.W.kitOne K (.ref X3) (.type "ValueError") = some true)
    (y_PaintError_0 : PySem.W.exmOne K (.ref X0) (.ref X0) = some true)
    (y_PaintError_1 : PySem.W.exmOne K (.ref X1) (.ref X0) = some true)
    (y_PaintError_2 : PySem.W.exmOne K (.ref X2) (.ref X0) = some true)
    (y_PaintError_3 : PySem.W.exmOne K (.ref X3) (.ref X0) = some true)
    : ∃ fd : FuncData, (∀ (s : Shared) (v : Value), BindsTo s fd ⟨[v], []⟩ [("script", v)]) ∧ ∀ base : Heap, K.In base → base.Ns mainGlobals mg → FnOk P w K mg base (L2.CX P w) 7 fa fd ["script"] (spTop K) := by
  have e := hfa.symm.trans (PySem.W.mg_of X N a16)
  cases e
  let G : Gx := { K := K, cls := fun i => match i with | 0 => C0 | _ => 0, flds := fldsOf, exc := fun i => match i with | 0 => X0 | 1 => X1 | 2 => X2 | 3 => X3 | _ => 0, excf := fun _ => Str.empty, fns := fun _ => 0, ex := none }
  have K0 : ClsOk G 0 := ⟨⟨pgC0, hdC0, poC0, saC0⟩, (fun f hf => by
    have hf : f ∈ [("many" : Str), ("ties" : Str)] := hf
    simp only [List.mem_cons, List.not_mem_nil, or_false] at hf
    rcases hf with rfl | rfl
    · exact n0C0
    · exact n1C0), by show ([("many" : Str), ("ties" : Str)] : List Str).Nodup; decide +kernel, by show ([("many" : Str), ("ties" : Str)] : List Str).length < 1000; decide +kernel, ccC0, oS, oT, cmC0⟩
  have F0 := fun_mk (st := s_is_integer) l0 c0 k0
  have F1 := fun_mk (st := s_raw_worth) l1 c1 k1
  have F2 := fun_mk (st := s__law_hand) l2 c2 k2
  have F3 := fun_mk (st := s__law_draw) l3 c3 k3
  have F4 := fun_mk (st := s__law_sum) l4 c4 k4
  have F5 := fun_mk (st := s_is_number) l5 c5 k5
  have F6 := fun_mk (st := s_is_within) l6 c6 k6
  have F7 := fun_mk (st := s_worth) l7 c7 k7
  have F8 := fun_mk (st := s__law_any) l8 c8 k8
  have F9 := fun_mk (st := s_is_tie_of) l9 c9 k9
  have F10 := fun_mk (st := s__law_great) l10 c10 k10
  have F11 := fun_mk (st := s__law_deep) l11 c11 k11
  have F12 := fun_mk (st := s__law_told) l12 c12 k12
  have F13 := fun_mk (st := s_Web_init) l13 c13 k13
  have F14 := fun_mk (st := s__law_no_numbers) l14 c14 k14
  have F15 := fun_mk (st := s__law_no_colours) l15 c15 k15
  have F16 := fun_mk (st := s_law) l16 c16 k16
  have T : Txt G mg := {
    ex := rfl,
    d_is_integer := ⟨_, _, PySem.W.mg_of X N a0, F0⟩,
    d_raw_worth := ⟨_, _, PySem.W.mg_of X N a1, F1⟩,
    d__law_hand := ⟨_, _, PySem.W.mg_of X N a2, F2⟩,
    d__law_draw := ⟨_, _, PySem.W.mg_of X N a3, F3⟩,
    d__law_sum := ⟨_, _, PySem.W.mg_of X N a4, F4⟩,
    d_is_number := ⟨_, _, PySem.W.mg_of X N a5, F5⟩,
    d_is_within := ⟨_, _, PySem.W.mg_of X N a6, F6⟩,
    d_worth := ⟨_, _, PySem.W.mg_of X N a7, F7⟩,
    d__law_any := ⟨_, _, PySem.W.mg_of X N a8, F8⟩,
    d_is_tie_of := ⟨_, _, PySem.W.mg_of X N a9, F9⟩,
    d__law_great := ⟨_, _, PySem.W.mg_of X N a10, F10⟩,
    d__law_deep := ⟨_, _, PySem.W.mg_of X N a11, F11⟩,
    d__law_told := ⟨_, _, PySem.W.mg_of X N a12, F12⟩,
    m_Web := ⟨_, _, PySem.W.mg_of X N aC0, ⟨mkC0, a13, i13, kcC0⟩, F13⟩,
    d__law_no_numbers := ⟨_, _, PySem.W.mg_of X N a14, F14⟩,
    d__law_no_colours := ⟨_, _, PySem.W.mg_of X N a15, F15⟩,
    d_law := ⟨_, _, PySem.W.mg_of X N a16, F16⟩,
    k_Web := K0,
    fl_Web := rfl,
    g_Web := PySem.W.mg_of X N aC0,
    c_MOST_NUMBERS := ⟨_, PySem.W.mg_of X N q_MOST_NUMBERS⟩,
    c_MOST_PLACES := ⟨_, PySem.W.mg_of X N q_MOST_PLACES⟩,
    c_MOST_TIES := ⟨_, PySem.W.mg_of X N q_MOST_TIES⟩,
    n_ValueError := PySem.W.mg_none_of X N z_ValueError,
    n_abs := PySem.W.mg_none_of X N z_abs,
    n_all := PySem.W.mg_none_of X N z_all,
    n_bool := PySem.W.mg_none_of X N z_bool,
    n_enumerate := PySem.W.mg_none_of X N z_enumerate,
    n_int := PySem.W.mg_none_of X N z_int,
    n_isinstance := PySem.W.mg_none_of X N z_isinstance,
    n_len := PySem.W.mg_none_of X N z_len,
    n_list := PySem.W.mg_none_of X N z_list,
    n_range := PySem.W.mg_none_of X N z_range,
    n_tuple := PySem.W.mg_none_of X N z_tuple,
    g_PaintError := PySem.W.mg_of X N aX0,
    g_BadWeb := PySem.W.mg_of X N aX1,
    g_NoColours := PySem.W.mg_of X N aX2,
    g_NoNumbers := PySem.W.mg_of X N aX3,
    x_NoColours := ⟨PySem.W.mg_of X N aX2, eX2, kX2, sX2, tX2⟩,
    x_NoNumbers := ⟨PySem.W.mg_of X N aX3, eX3, kX3, sX3, tX3⟩,
    i_bool := ⟨⟨kit_ty (by decide +kernel), fun _ z => nomatch z⟩, ⟨kit_ty (by decide +kernel), fun _ z => nomatch z⟩, ⟨kit_ty (by decide +kernel), fun _ z => nomatch z⟩, ⟨kit_ty (by decide +kernel), fun _ z => nomatch z⟩, ⟨kit_ty (by decide +kernel), fun _ z => nomatch z⟩, ⟨kit_ty (by decide +kernel), fun _ z => nomatch z⟩, ⟨kit_ty (by decide +kernel), fun _ z => nomatch z⟩, ⟨u_bool_C0, fun _ z => by cases z; exact K0⟩, trivial⟩,
    i_int := ⟨⟨kit_ty (by decide +kernel), fun _ z => nomatch z⟩, ⟨kit_ty (by decide +kernel), fun _ z => nomatch z⟩, ⟨kit_ty (by decide +kernel), fun _ z => nomatch z⟩, ⟨kit_ty (by decide +kernel), fun _ z => nomatch z⟩, ⟨kit_ty (by decide +kernel), fun _ z => nomatch z⟩, ⟨kit_ty (by decide +kernel), fun _ z => nomatch z⟩, ⟨kit_ty (by decide +kernel), fun _ z => nomatch z⟩, ⟨u_int_C0, fun _ z => by cases z; exact K0⟩, trivial⟩,
    i_tuple := ⟨⟨kit_ty (by decide +kernel), fun _ z => nomatch z⟩, ⟨kit_ty (by decide +kernel), fun _ z => nomatch z⟩, ⟨kit_ty (by decide +kernel), fun _ z => nomatch z⟩, ⟨kit_ty (by decide +kernel), fun _ z => nomatch z⟩, ⟨kit_ty (by decide +kernel), fun _ z => nomatch z⟩, ⟨kit_ty (by decide +kernel), fun _ z => nomatch z⟩, ⟨kit_ty (by decide +kernel), fun _ z => nomatch z⟩, ⟨u_tuple_C0, fun _ z => by cases z; exact K0⟩, trivial⟩,
    xc_NoColours := ⟨⟨⟨gX0, hX0, sX0, dX0, cX0, oS, oT, mX0⟩, v_NoColours_0⟩, ⟨⟨gX1, hX1, sX1, dX1, cX1, oS, oT, mX1⟩, v_NoColours_1⟩, ⟨⟨gX2, hX2, sX2, dX2, cX2, oS, oT, mX2⟩, v_NoColours_2⟩, ⟨⟨gX3, hX3, sX3, dX3, cX3, oS, oT, mX3⟩, v_NoColours_3⟩, trivial⟩,
    xc_NoNumbers := ⟨⟨⟨gX0, hX0, sX0, dX0, cX0, oS, oT, mX0⟩, v_NoNumbers_0⟩, ⟨⟨gX1, hX1, sX1, dX1, cX1, oS, oT, mX1⟩, v_NoNumbers_1⟩, ⟨⟨gX2, hX2, sX2, dX2, cX2, oS, oT, mX2⟩, v_NoNumbers_2⟩, ⟨⟨gX3, hX3, sX3, dX3, cX3, oS, oT, mX3⟩, v_NoNumbers_3⟩, trivial⟩,
    xc_ValueError := ⟨⟨⟨gX0, hX0, sX0, dX0, cX0, oS, oT, mX0⟩, v_ValueError_0⟩, ⟨⟨gX1, hX1, sX1, dX1, cX1, oS, oT, mX1⟩, v_ValueError_1⟩, ⟨⟨gX2, hX2, sX2, dX2, cX2, oS, oT, mX2⟩, v_ValueError_2⟩, ⟨⟨gX3, hX3, sX3, dX3, cX3, oS, oT, mX3⟩, v_ValueError_3⟩, trivial⟩,
    t_PaintError := ⟨y_PaintError_0, y_PaintError_1, y_PaintError_2, y_PaintError_3, trivial⟩ }
  refine ⟨PySem.W.fnOf "law" "law" (defArgs s_law) (defBody s_law) (defScope s_law) .none kV16 dc16 pm16 an16 cd16 ct16, fun s v => .of_eq rfl, fun base _ _ => ?_⟩
  exact (law_ok (P := P) (w := w) (base := base) T F16).imp (top_imp (G := G) plain)
end K17
open PySem PySem.W PyProof.Rows
set_option maxRecDepth 100000 in
set_option maxHeartbeats 0 in
theorem PySem.Challenge.cw_takenjoined_k17_worth_of_any_numbers_holds : PySem.Challenge.rw_takenjoined_k17_worth_of_any_numbers.Holds := by
  w_on; o_law; k_head; (case hw => w_witness2)
  k_fill
  refine L2.walk_of (l := PySem.Challenge.rw_takenjoined_k17_worth_of_any_numbers) (n := 63) (k := 7) (x := "script") (CX := fun w => L2.CX PySem.Challenge.rw_takenjoined_k17_worth_of_any_numbers.prog w) (sp := fun w => PV.spTop _) rfl (by decide) rfl ⟨rfl, by decide, by decide⟩ (fun w h Y => PySem.W.kIn_of Y) ?F (fun _ _ a ns hl _ hS => ⟨a, ns, rfl, hS, hl, fun _ => rfl⟩) (fun _ _ _ _ _ h => PV.top_cx h)
  case F =>
    intro w mg fa h KX G hmg
    refine' K17.all_mk KX G hmg ?aC0 ?pgC0 ?hdC0 ?poC0 ?saC0 ?ccC0 ?cmC0 ?mkC0 ?kcC0 ?n0C0 ?n1C0 ?a0 ?l0 ?c0 ?k0 ?a1 ?l1 ?c1 ?k1 ?a2 ?l2 ?c2 ?k2 ?a3 ?l3 ?c3 ?k3 ?a4 ?l4 ?c4 ?k4 ?a5 ?l5 ?c5 ?k5 ?a6 ?l6 ?c6 ?k6 ?a7 ?l7 ?c7 ?k7 ?a8 ?l8 ?c8 ?k8 ?a9 ?l9 ?c9 ?k9 ?a10 ?l10 ?c10 ?k10 ?a11 ?l11 ?c11 ?k11 ?a12 ?l12 ?c12 ?k12 ?a13 ?i13 ?l13 ?c13 ?k13 ?a14 ?l14 ?c14 ?k14 ?a15 ?l15 ?c15 ?k15 ?a16 ?l16 ?c16 ?k16 ?oS ?oT ?q_MOST_NUMBERS ?q_MOST_PLACES ?q_MOST_TIES ?z_ValueError ?z_abs ?z_all ?z_bool ?z_enumerate ?z_int ?z_isinstance ?z_len ?z_list ?z_range ?z_tuple ?aX0 ?gX0 ?hX0 ?sX0 ?dX0 ?cX0 ?mX0 ?aX1 ?gX1 ?hX1 ?sX1 ?dX1 ?cX1 ?mX1 ?aX2 ?eX2 ?kX2 ?sX2 ?tX2 ?gX2 ?hX2 ?dX2 ?cX2 ?mX2 ?aX3 ?eX3 ?kX3 ?sX3 ?tX3 ?gX3 ?hX3 ?dX3 ?cX3 ?mX3 ?u_bool_C0 ?u_int_C0 ?u_tuple_C0 ?v_NoColours_0 ?v_NoColours_1 ?v_NoColours_2 ?v_NoColours_3 ?v_NoNumbers_0 ?v_NoNumbers_1 ?v_NoNumbers_2 ?v_NoNumbers_3 ?v_ValueError_0 ?v_ValueError_1 ?v_ValueError_2 ?v_ValueError_3 ?y_PaintError_0 ?y_PaintError_1 ?y_PaintError_2 ?y_PaintError_3
    (case aC0 => k_is)
    (case pgC0 => k_is)
    (case hdC0 => k_is)
    (case poC0 => k_is)
    (case saC0 => k_is)
    (case ccC0 => k_is)
    (case cmC0 => k_is)
    (case mkC0 => k_is)
    (case kcC0 => k_is)
    (case n0C0 => k_is)
    (case n1C0 => k_is)
    (case a0 => k_is)
    (case l0 => k_is)
    (case c0 => k_is)
    (case k0 => k_is)
    (case a1 => k_is)
    (case l1 => k_is)
    (case c1 => k_is)
    (case k1 => k_is)
    (case a2 => k_is)
    (case l2 => k_is)
    (case c2 => k_is)
    (case k2 => k_is)
    (case a3 => k_is)
    (case l3 => k_is)
    (case c3 => k_is)
    (case k3 => k_is)
    (case a4 => k_is)
    (case l4 => k_is)
    (case c4 => k_is)
    (case k4 => k_is)
    (case a5 => k_is)
    (case l5 => k_is)
    (case c5 => k_is)
    (case k5 => k_is)
    (case a6 => k_is)
    (case l6 => k_is)
    (case c6 => k_is)
    (case k6 => k_is)
    (case a7 => k_is)
    (case l7 => k_is)
    (case c7 => k_is)
    (case k7 => k_is)
    (case a8 => k_is)
    (case l8 => k_is)
    (case c8 => k_is)
    (case k8 => k_is)
    (case a9 => k_is)
    (case l9 => k_is)
    (case c9 => k_is)
    (case k9 => k_is)
    (case a10 => k_is)
    (case l10 => k_is)
    (case c10 => k_is)
    (case k10 => k_is)
    (case a11 => k_is)
    (case l11 => k_is)
    (case c11 => k_is)
    (case k11 => k_is)
    (case a12 => k_is)
    (case l12 => k_is)
    (case c12 => k_is)
    (case k12 => k_is)
    (case a13 => k_is)
    (case i13 => k_is)
    (case l13 => k_is)
    (case c13 => k_is)
    (case k13 => k_is)
    (case a14 => k_is)
    (case l14 => k_is)
    (case c14 => k_is)
    (case k14 => k_is)
    (case a15 => k_is)
    (case l15 => k_is)
    (case c15 => k_is)
    (case k15 => k_is)
    (case a16 => k_is)
    (case l16 => k_is)
    (case c16 => k_is)
    (case k16 => k_is)
    (case oS => k_is)
    (case oT => k_is)
    (case q_MOST_NUMBERS => k_is)
    (case q_MOST_PLACES => k_is)
    (case q_MOST_TIES => k_is)
    (case z_ValueError => k_is)
    (case z_abs => k_is)
    (case z_all => k_is)
    (case z_bool => k_is)
    (case z_enumerate => k_is)
    (case z_int => k_is)
    (case z_isinstance => k_is)
    (case z_len => k_is)
    (case z_list => k_is)
    (case z_range => k_is)
    (case z_tuple => k_is)
    (case aX0 => k_is)
    (case gX0 => k_is)
    (case hX0 => k_is)
    (case sX0 => k_is)
    (case dX0 => k_is)
    (case cX0 => k_is)
    (case mX0 => k_is)
    (case aX1 => k_is)
    (case gX1 => k_is)
    (case hX1 => k_is)
    (case sX1 => k_is)
    (case dX1 => k_is)
    (case cX1 => k_is)
    (case mX1 => k_is)
    (case aX2 => k_is)
    (case eX2 => k_exc)
    (case kX2 => k_is)
    (case sX2 => k_is)
    (case tX2 => k_is)
    (case gX2 => k_is)
    (case hX2 => k_is)
    (case dX2 => k_is)
    (case cX2 => k_is)
    (case mX2 => k_is)
    (case aX3 => k_is)
    (case eX3 => k_exc)
    (case kX3 => k_is)
    (case sX3 => k_is)
    (case tX3 => k_is)
    (case gX3 => k_is)
    (case hX3 => k_is)
    (case dX3 => k_is)
    (case cX3 => k_is)
    (case mX3 => k_is)
    (case u_bool_C0 => first | exact PV.kit_ref (by k_is) (by k_is) (by k_is) (by first | exact fun _ => rfl | decide +kernel) | exact PV.kit_typ (by decide +kernel) (by k_is))
    (case u_int_C0 => first | exact PV.kit_ref (by k_is) (by k_is) (by k_is) (by first | exact fun _ => rfl | decide +kernel) | exact PV.kit_typ (by decide +kernel) (by k_is))
    (case u_tuple_C0 => first | exact PV.kit_ref (by k_is) (by k_is) (by k_is) (by first | exact fun _ => rfl | decide +kernel) | exact PV.kit_typ (by decide +kernel) (by k_is))
    (case v_NoColours_0 => first | exact PV.kit_ref (by k_is) (by k_is) (by k_is) (by first | exact fun _ => rfl | decide +kernel) | exact PV.kit_typ (by decide +kernel) (by k_is))
    (case v_NoColours_1 => first | exact PV.kit_ref (by k_is) (by k_is) (by k_is) (by first | exact fun _ => rfl | decide +kernel) | exact PV.kit_typ (by decide +kernel) (by k_is))
    (case v_NoColours_2 => first | exact PV.kit_ref (by k_is) (by k_is) (by k_is) (by first | exact fun _ => rfl | decide +kernel) | exact PV.kit_typ (by decide +kernel) (by k_is))
    (case v_NoColours_3 => first | exact PV.kit_ref (by k_is) (by k_is) (by k_is) (by first | exact fun _ => rfl | decide +kernel) | exact PV.kit_typ (by decide +kernel) (by k_is))
    (case v_NoNumbers_0 => first | exact PV.kit_ref (by k_is) (by k_is) (by k_is) (by first | exact fun _ => rfl | decide +kernel) | exact PV.kit_typ (by decide +kernel) (by k_is))
    (case v_NoNumbers_1 => first | exact PV.kit_ref (by k_is) (by k_is) (by k_is) (by first | exact fun _ => rfl | decide +kernel) | exact PV.kit_typ (by decide +kernel) (by k_is))
    (case v_NoNumbers_2 => first | exact PV.kit_ref (by k_is) (by k_is) (by k_is) (by first | exact fun _ => rfl | decide +kernel) | exact PV.kit_typ (by decide +kernel) (by k_is))
    (case v_NoNumbers_3 => first | exact PV.kit_ref (by k_is) (by k_is) (by k_is) (by first | exact fun _ => rfl | decide +kernel) | exact PV.kit_typ (by decide +kernel) (by k_is))
    (case v_ValueError_0 => first | exact PV.kit_ref (by k_is) (by k_is) (by k_is) (by first | exact fun _ => rfl | decide +kernel) | exact PV.kit_typ (by decide +kernel) (by k_is))
    (case v_ValueError_1 => first | exact PV.kit_ref (by k_is) (by k_is) (by k_is) (by first | exact fun _ => rfl | decide +kernel) | exact PV.kit_typ (by decide +kernel) (by k_is))
    (case v_ValueError_2 => first | exact PV.kit_ref (by k_is) (by k_is) (by k_is) (by first | exact fun _ => rfl | decide +kernel) | exact PV.kit_typ (by decide +kernel) (by k_is))
    (case v_ValueError_3 => first | exact PV.kit_ref (by k_is) (by k_is) (by k_is) (by first | exact fun _ => rfl | decide +kernel) | exact PV.kit_typ (by decide +kernel) (by k_is))
    (case y_PaintError_0 => exact PV.exm_mk (by k_is) (by k_is) (by k_is) (by k_is))
    (case y_PaintError_1 => exact PV.exm_mk (by k_is) (by k_is) (by k_is) (by k_is))
    (case y_PaintError_2 => exact PV.exm_mk (by k_is) (by k_is) (by k_is) (by k_is))
    (case y_PaintError_3 => exact PV.exm_mk (by k_is) (by k_is) (by k_is) (by k_is))
