import PyProof.Rows.All
import HandS.ForExc
import HandS.ForMost
import HandS.Zip
import HandS.IsInst
import HandS.Wide
import HandS.TupAny
import HandS.TupMul
import HandS.SortRule
import KE.DataCmp
import HandS.HeadHook2
import HandS.CallSlots
import HandS.Deep
import HandS.Style
import HandS.SetFor
import HandS.Strs
import HandS.Conv
import HandS.SortInts
import HandS.ExcInit
import HandS.ClsMeth
import HandS.TryMany
import HandS.ExcField
import Wide.All
import OpenK.AllK
import Wide.FinOn
import KE.KStateDown
import HandS.HeadWalk
import HandS.HeadEnd
import HandS.Head0
import HandS.Head1
import HandS.Head2
import HandS.HeadHook1
import PySem.Challenge.RW_wrotelast_k03_standings_behind_a_write
set_option Elab.async false
set_option linter.all false
set_option maxRecDepth 100000
set_option maxHeartbeats 0
/-! # PV1: data, owned trees, what represents them in the abstract heap -/
namespace PV
open PySem PySem.Spec PyProof.Rows L2

/-- pure data -/
inductive D where
  | non | bl (b : Bool) | int (i : Int) | str (x : Str)
  | tup (l : List D) | lst (l : List D) | dct (l : List (D × D))
  | scr (l : List Int)
/-- owned trees: d a frozen datum; lst a list that one name alone holds -/
inductive M where
  | d (x : D)
  | lst (l : List M)
  | tup (l : List M)
/-- slots of the evaluator -/
abbrev Sl := List (Option M)
mutual
def frz : M → D
  | .d x => x
  | .lst l => .lst (frzs l)
  | .tup l => .tup (frzs l)
def frzs : List M → List D
  | [] => []
  | m :: r => frz m :: frzs r
end
theorem frzs_d : ∀ ds : List D, frzs (ds.map M.d) = ds
  | [] => rfl
  | d :: r => by show (d :: frzs (r.map M.d)) = d :: r; rw [frzs_d r]

def keyD : Key → D
  | .inl i => .int i
  | .inr x => .str x

mutual
inductive Rp (K : PySem.W.Frag) (F : Addr → Prop) (H : Hp) : V → D → Prop where
  | non : Rp K F H .non .non
  | bl (b : Bool) : Rp K F H (.bl b) (.bl b)
  | int (i : Int) : Rp K F H (.int i) (.int i)
  | str (x : Str) : Rp K F H (.str x) (.str x)
  | tup {a : Addr} {vs : List V} {ds : List D} (h : H a = some (.tup vs)) (z : vs.length ≤ sizeLine) (r : Rps K F H vs ds) : Rp K F H (.ref a) (.tup ds)
  | lst {a : Addr} {vs : List V} {ds : List D} (f : F a) (h : H a = some (.lst vs)) (z : vs.length ≤ sizeLine) (r : Rps K F H vs ds) : Rp K F H (.ref a) (.lst ds)
  | scrK {a : Addr} {ns : List Int} (h : ∀ H', SqL K H' a (ns.map V.int)) (z : ns.length ≤ sizeLine) : Rp K F H (.ref a) (.scr ns)
  | scr {a : Addr} {ns : List Int} (f : F a) (h : Rd H a (.lst (ns.map V.int))) (z : ns.length ≤ sizeLine) : Rp K F H (.ref a) (.scr ns)
  | dct {a : Addr} {kvs : List (Key × V)} {ds : List (D × D)} (f : F a) (h : H a = some (.dK kvs)) (r : Rpk K F H kvs ds) : Rp K F H (.ref a) (.dct ds)
inductive Rps (K : PySem.W.Frag) (F : Addr → Prop) (H : Hp) : List V → List D → Prop where
  | nil : Rps K F H [] []
  | cons {v : V} {d : D} {vs : List V} {ds : List D} (h : Rp K F H v d) (r : Rps K F H vs ds) : Rps K F H (v :: vs) (d :: ds)
inductive Rpk (K : PySem.W.Frag) (F : Addr → Prop) (H : Hp) : List (Key × V) → List (D × D) → Prop where
  | nil : Rpk K F H [] []
  | cons {k : Key} {v : V} {d : D} {vs : List (Key × V)} {ds : List (D × D)} (h : Rp K F H v d) (r : Rpk K F H vs ds) : Rpk K F H ((k, v) :: vs) ((keyD k, d) :: ds)
end
mutual
inductive Rm (K : PySem.W.Frag) (F : Addr → Prop) (H : Hp) : V → M → List Addr → Prop where
  | d {v : V} {x : D} (r : Rp K F H v x) : Rm K F H v (.d x) []
  | lst {a : Addr} {vs : List V} {ms : List M} {L : List Addr} (n : ¬ F a) (h : H a = some (.lst vs)) (z : vs.length ≤ sizeLine) (r : Rms K F H vs ms L) : Rm K F H (.ref a) (.lst ms) (a :: L)
  | tup {a : Addr} {vs : List V} {ms : List M} {L : List Addr} (h : H a = some (.tup vs)) (z : vs.length ≤ sizeLine) (r : Rms K F H vs ms L) : Rm K F H (.ref a) (.tup ms) L
inductive Rms (K : PySem.W.Frag) (F : Addr → Prop) (H : Hp) : List V → List M → List Addr → Prop where
  | nil : Rms K F H [] [] []
  | cons {v : V} {m : M} {vs : List V} {ms : List M} {L1 L2 : List Addr} (h : Rm K F H v m L1) (r : Rms K F H vs ms L2) : Rms K F H (v :: vs) (m :: ms) (L1 ++ L2)
end
inductive Rs (K : PySem.W.Frag) (F : Addr → Prop) (H : Hp) : L2.St → Sl → List Addr → Prop where
  | nil : Rs K F H [] [] []
  | off {o : Option V} {σ : L2.St} {s : Sl} {L : List Addr} (r : Rs K F H σ s L) : Rs K F H (o :: σ) (none :: s) L
  | on {v : V} {m : M} {σ : L2.St} {s : Sl} {L1 L2 : List Addr} (h : Rm K F H v m L1) (r : Rs K F H σ s L2) : Rs K F H (some v :: σ) (some m :: s) (L1 ++ L2)

/-- a step: what is frozen stays, tuples stay, what is guarded stays -/
structure Stp (F : Addr → Prop) (H : Hp) (G : Addr → Prop) (F' : Addr → Prop) (H' : Hp) : Prop where
  fro : ∀ a, F a → F' a ∧ H' a = H a
  tup : ∀ a xs, H a = some (.tup xs) → H' a = some (.tup xs)
  grd : ∀ a, G a → H' a = H a ∧ (F' a → F a)
  trk : ∀ a, H a ≠ none → H' a ≠ none
abbrev with_ (G : Addr → Prop) (L : List Addr) : Addr → Prop := fun a => G a ∨ a ∈ L
structure Ok (K : PySem.W.Frag) (F : Addr → Prop) (H : Hp) (G : Addr → Prop) (σ : L2.St) (s : Sl) (L : List Addr) : Prop where
  wf : ∀ a, F a → H a ≠ none
  rep : Rs K F H σ s L
  nd : L.Nodup
  gd : ∀ a, G a → H a ≠ none ∧ ¬ F a ∧ a ∉ L
/-- an owned value beside what is guarded -/
structure Rv (K : PySem.W.Frag) (F : Addr → Prop) (H : Hp) (G : Addr → Prop) (v : V) (m : M) (L : List Addr) : Prop where
  rep : Rm K F H v m L
  nd : L.Nodup
  gd : ∀ a ∈ L, ¬ G a

section
variable {K : PySem.W.Frag} {F F' F2 : Addr → Prop} {H H' H2 : Hp} {G G2 : Addr → Prop}
theorem Stp.refl : Stp F H G F H := ⟨fun _ h => ⟨h, rfl⟩, fun _ _ h => h, fun _ _ => ⟨rfl, fun h => h⟩, fun _ h => h⟩
theorem Stp.trans (a : Stp F H G F' H') (b : Stp F' H' G F2 H2) : Stp F H G F2 H2 :=
  ⟨fun x h => ⟨(b.fro x (a.fro x h).1).1, (b.fro x (a.fro x h).1).2.trans (a.fro x h).2⟩, fun x xs h => b.tup x xs (a.tup x xs h),
   fun x h => ⟨(b.grd x h).1.trans (a.grd x h).1, fun z => (a.grd x h).2 ((b.grd x h).2 z)⟩, fun x h => b.trk x (a.trk x h)⟩
theorem Stp.weak (a : Stp F H G F' H') (h : ∀ x, G2 x → G x) : Stp F H G2 F' H' := ⟨a.fro, a.tup, fun x z => a.grd x (h x z), a.trk⟩
theorem Stp.new {p : Addr} {o : HO} (wf : ∀ a, F a → H a ≠ none) (hg : ∀ a, G a → H a ≠ none) (hp : H p = none) : Stp F H G F (upd H p o) := by
  refine ⟨fun a h => ⟨h, upd_ne fun e => wf a h (by rw [e]; exact hp)⟩, fun a xs h => ?_, fun a h => ⟨upd_ne fun e => hg a h (by rw [e]; exact hp), fun z => z⟩, fun a h => ?_⟩
  · rw [upd_ne (ne_of_none h hp)]; exact h
  · rw [upd_ne fun e => h (by rw [e]; exact hp)]; exact h
theorem Stp.freeze {L : List Addr} (hg : ∀ a ∈ L, ¬ G a) : Stp F H G (with_ F L) H :=
  ⟨fun a h => ⟨.inl h, rfl⟩, fun _ _ h => h, fun a h => ⟨rfl, fun z => z.elim id fun z => absurd h (hg a z)⟩, fun _ h => h⟩
/-- a list is written -/
theorem Stp.write {a : Addr} {o : HO} (hf : ¬ F a) (hg : ¬ G a) (ha : ∀ xs, H a ≠ some (.tup xs)) : Stp F H G F (upd H a o) := by
  refine ⟨fun b h => ⟨h, upd_ne fun e => hf (e ▸ h)⟩, fun b ys h => ?_, fun b h => ⟨upd_ne fun e => hg (e ▸ h), fun z => z⟩, fun b h => ?_⟩
  · rw [upd_ne fun e => ha ys (by rw [← e]; exact h)]; exact h
  · by_cases e : b = a
    · rw [e, upd_same]; exact fun z => nomatch z
    · rw [upd_ne e]; exact h

theorem Rd.keep {a : Addr} {u : HO} (h : Rd H a u) (e : H' a = H a) : Rd H' a u := by
  rcases h with h | ⟨o, h⟩
  · exact .inl (e.trans h)
  · exact .inr ⟨o, e.trans h⟩
mutual
theorem Rp.mono (hF : ∀ a, F a → F' a ∧ H' a = H a) (hT : ∀ a xs, H a = some (.tup xs) → H' a = some (.tup xs)) : ∀ {v : V} {d : D}, Rp K F H v d → Rp K F' H' v d
  | _, _, .non => .non
  | _, _, .bl b => .bl b
  | _, _, .int i => .int i
  | _, _, .str x => .str x
  | _, _, .tup h z r => .tup (hT _ _ h) z (Rps.mono hF hT r)
  | _, _, .lst f h z r => .lst (hF _ f).1 ((hF _ f).2.trans h) z (Rps.mono hF hT r)
  | _, _, .scrK h z => .scrK h z
  | _, _, .scr f h z => .scr (hF _ f).1 (PV.Rd.keep h (hF _ f).2) z
  | _, _, .dct f h r => .dct (hF _ f).1 ((hF _ f).2.trans h) (Rpk.mono hF hT r)
theorem Rps.mono (hF : ∀ a, F a → F' a ∧ H' a = H a) (hT : ∀ a xs, H a = some (.tup xs) → H' a = some (.tup xs)) : ∀ {vs : List V} {ds : List D}, Rps K F H vs ds → Rps K F' H' vs ds
  | _, _, .nil => .nil
  | _, _, .cons h r => .cons (Rp.mono hF hT h) (Rps.mono hF hT r)
theorem Rpk.mono (hF : ∀ a, F a → F' a ∧ H' a = H a) (hT : ∀ a xs, H a = some (.tup xs) → H' a = some (.tup xs)) : ∀ {vs : List (Key × V)} {ds : List (D × D)}, Rpk K F H vs ds → Rpk K F' H' vs ds
  | _, _, .nil => .nil
  | _, _, .cons h r => .cons (Rp.mono hF hT h) (Rpk.mono hF hT r)
end
theorem Rp.stp {v : V} {d : D} (h : Rp K F H v d) (s : Stp F H G F' H') : Rp K F' H' v d := Rp.mono s.fro s.tup h
theorem Rps.stp {v : List V} {d : List D} (h : Rps K F H v d) (s : Stp F H G F' H') : Rps K F' H' v d := Rps.mono s.fro s.tup h
mutual
theorem Rm.mono (hF : ∀ a, F a → F' a ∧ H' a = H a) (hT : ∀ a xs, H a = some (.tup xs) → H' a = some (.tup xs)) : ∀ {v : V} {m : M} {L : List Addr}, Rm K F H v m L → (∀ a ∈ L, H' a = H a ∧ (F' a → F a)) → Rm K F' H' v m L
  | _, _, _, .d r, _ => .d (Rp.mono hF hT r)
  | _, _, _, .lst n h z r, hL => .lst (fun z => n ((hL _ (List.mem_cons_self)).2 z)) ((hL _ (List.mem_cons_self)).1.trans h) z (Rms.mono hF hT r fun a ha => hL a (List.mem_cons_of_mem _ ha))
  | _, _, _, .tup h z r, hL => .tup (hT _ _ h) z (Rms.mono hF hT r hL)
theorem Rms.mono (hF : ∀ a, F a → F' a ∧ H' a = H a) (hT : ∀ a xs, H a = some (.tup xs) → H' a = some (.tup xs)) : ∀ {v : List V} {m : List M} {L : List Addr}, Rms K F H v m L → (∀ a ∈ L, H' a = H a ∧ (F' a → F a)) → Rms K F' H' v m L
  | _, _, _, .nil, _ => .nil
  | _, _, _, .cons h r, hL => .cons (Rm.mono hF hT h fun a ha => hL a (List.mem_append_left _ ha)) (Rms.mono hF hT r fun a ha => hL a (List.mem_append_right _ ha))
end
theorem Rs.mono (hF : ∀ a, F a → F' a ∧ H' a = H a) (hT : ∀ a xs, H a = some (.tup xs) → H' a = some (.tup xs)) : ∀ {σ : L2.St} {s : Sl} {L : List Addr}, Rs K F H σ s L → (∀ a ∈ L, H' a = H a ∧ (F' a → F a)) → Rs K F' H' σ s L
  | _, _, _, .nil, _ => .nil
  | _, _, _, .off r, hL => .off (Rs.mono hF hT r hL)
  | _, _, _, .on h r, hL => .on (Rm.mono hF hT h fun a ha => hL a (List.mem_append_left _ ha)) (Rs.mono hF hT r fun a ha => hL a (List.mem_append_right _ ha))
mutual
theorem Rm.notF : ∀ {v : V} {m : M} {L : List Addr}, Rm K F H v m L → ∀ a ∈ L, ¬ F a ∧ H a ≠ none
  | _, _, _, .d _ => fun _ h => nomatch h
  | _, _, _, .lst n h z r => fun a ha => by
    rcases List.mem_cons.mp ha with e | e
    · rw [e]; exact ⟨n, by rw [h]; exact fun z => nomatch z⟩
    · exact Rms.notF r a e
  | _, _, _, .tup h z r => Rms.notF r
theorem Rms.notF : ∀ {v : List V} {m : List M} {L : List Addr}, Rms K F H v m L → ∀ a ∈ L, ¬ F a ∧ H a ≠ none
  | _, _, _, .nil => fun _ h => nomatch h
  | _, _, _, .cons h r => fun a ha => (List.mem_append.mp ha).elim (Rm.notF h a) (Rms.notF r a)
end
theorem Rs.notF : ∀ {σ : L2.St} {s : Sl} {L : List Addr}, Rs K F H σ s L → ∀ a ∈ L, ¬ F a ∧ H a ≠ none
  | _, _, _, .nil => fun _ h => nomatch h
  | _, _, _, .off r => Rs.notF r
  | _, _, _, .on h r => fun a ha => (List.mem_append.mp ha).elim (Rm.notF h a) (Rs.notF r a)
mutual
theorem Rm.frz (hF : ∀ a, F a → F' a) : ∀ {v : V} {m : M} {L : List Addr}, Rm K F H v m L → (∀ a ∈ L, F' a) → Rp K F' H v (frz m)
  | _, _, _, .d r, _ => Rp.mono (fun a h => ⟨hF a h, rfl⟩) (fun _ _ h => h) r
  | _, _, _, .lst n h z r, hL => .lst (hL _ List.mem_cons_self) h z (Rms.frz hF r fun a ha => hL a (List.mem_cons_of_mem _ ha))
  | _, _, _, .tup h z r, hL => .tup h z (Rms.frz hF r hL)
theorem Rms.frz (hF : ∀ a, F a → F' a) : ∀ {v : List V} {m : List M} {L : List Addr}, Rms K F H v m L → (∀ a ∈ L, F' a) → Rps K F' H v (frzs m)
  | _, _, _, .nil, _ => .nil
  | _, _, _, .cons h r, hL => .cons (Rm.frz hF h fun a ha => hL a (List.mem_append_left _ ha)) (Rms.frz hF r fun a ha => hL a (List.mem_append_right _ ha))
end
theorem Rps.len : ∀ {vs : List V} {ds : List D}, Rps K F H vs ds → vs.length = ds.length
  | _, _, .nil => rfl
  | _, _, .cons _ r => congrArg (· + 1) (Rps.len r)
theorem Rms.len : ∀ {vs : List V} {ms : List M} {L : List Addr}, Rms K F H vs ms L → vs.length = ms.length
  | _, _, _, .nil => rfl
  | _, _, _, .cons _ r => congrArg (· + 1) (Rms.len r)
theorem Rs.len : ∀ {σ : L2.St} {s : Sl} {L : List Addr}, Rs K F H σ s L → σ.length = s.length
  | _, _, _, .nil => rfl
  | _, _, _, .off r => congrArg (· + 1) (Rs.len r)
  | _, _, _, .on _ r => congrArg (· + 1) (Rs.len r)
theorem Rps.get : ∀ {vs : List V} {ds : List D} {i : Nat} {d : D}, Rps K F H vs ds → ds[i]? = some d → ∃ v, vs[i]? = some v ∧ Rp K F H v d
  | _, _, _, _, .nil, e => by simp at e
  | _, _, 0, _, .cons h _, e => by
    have e2 := Option.some.inj e
    subst e2; exact ⟨_, rfl, h⟩
  | _, _, i + 1, d, .cons _ r, e => by
    obtain ⟨v, h1, h2⟩ := Rps.get (i := i) (d := d) r e
    exact ⟨v, h1, h2⟩
theorem Rps.append : ∀ {vs vs2 : List V} {ds ds2 : List D}, Rps K F H vs ds → Rps K F H vs2 ds2 → Rps K F H (vs ++ vs2) (ds ++ ds2)
  | _, _, _, _, .nil, s => s
  | _, _, _, _, .cons h r, s => .cons h (Rps.append r s)
theorem Rps.take : ∀ {vs : List V} {ds : List D} (n : Nat), Rps K F H vs ds → Rps K F H (vs.take n) (ds.take n)
  | _, _, 0, _ => .nil
  | _, _, n + 1, .nil => .nil
  | _, _, n + 1, .cons h r => .cons h (Rps.take n r)
theorem Rps.drop : ∀ {vs : List V} {ds : List D} (n : Nat), Rps K F H vs ds → Rps K F H (vs.drop n) (ds.drop n)
  | _, _, 0, r => r
  | _, _, n + 1, .nil => .nil
  | _, _, n + 1, .cons h r => Rps.drop n r
theorem Rps.rev : ∀ {vs : List V} {ds : List D}, Rps K F H vs ds → Rps K F H vs.reverse ds.reverse
  | _, _, .nil => .nil
  | _, _, .cons h r => by rw [List.reverse_cons, List.reverse_cons]; exact (Rps.rev r).append (.cons h .nil)
theorem Rms.ofD : ∀ {vs : List V} {ds : List D}, Rps K F H vs ds → Rms K F H vs (ds.map M.d) []
  | _, _, .nil => .nil
  | _, _, .cons h r => Rms.cons (L1 := []) (L2 := []) (.d h) (Rms.ofD r)
theorem Rms.append : ∀ {vs vs2 : List V} {ms ms2 : List M} {L L2 : List Addr}, Rms K F H vs ms L → Rms K F H vs2 ms2 L2 → Rms K F H (vs ++ vs2) (ms ++ ms2) (L ++ L2)
  | _, _, _, _, _, _, .nil, s => s
  | _, _, _, _, _, _, .cons h r, s => by
    have := Rms.cons h (Rms.append r s)
    rw [← List.append_assoc] at this
    exact this

/-! ### slots -/
theorem Rs.get : ∀ {σ : L2.St} {s : Sl} {L : List Addr} {i : Nat} {m : M}, Rs K F H σ s L → s[i]? = some (some m) →
    ∃ v Li L', σ[i]? = some (some v) ∧ Rm K F H v m Li ∧ Rs K F H σ (s.set i none) L' ∧ L.Perm (Li ++ L')
  | _, _, _, i, _, .nil, e => by simp at e
  | _, _, _, 0, _, .off r, e => by simp at e
  | _, _, _, 0, m, .on (L1 := L1) (L2 := L2) h r, e => by
    simp at e
    subst e
    exact ⟨_, L1, L2, rfl, h, .off r, List.Perm.refl _⟩
  | _, _, _, i + 1, m, .off r, e => by
    obtain ⟨v, Li, L', h1, h2, h3, h4⟩ := Rs.get (i := i) (m := m) r (by simpa using e)
    exact ⟨v, Li, L', by simpa using h1, h2, .off h3, h4⟩
  | _, _, _, i + 1, m, .on (L1 := L1) (L2 := L2) h r, e => by
    obtain ⟨v, Li, L', h1, h2, h3, h4⟩ := Rs.get (i := i) (m := m) r (by simpa using e)
    refine ⟨v, Li, L1 ++ L', by simpa using h1, h2, .on h h3, ?_⟩
    refine (h4.append_left L1).trans ?_
    rw [← List.append_assoc, ← List.append_assoc]
    exact List.perm_append_comm.append_right L'
theorem Rs.put : ∀ {σ : L2.St} {s : Sl} {L Li : List Addr} {i : Nat} {m : M} {v : V}, Rs K F H σ s L → s[i]? = some none → Rm K F H v m Li →
    ∃ L', Rs K F H (σ.set i (some v)) (s.set i (some m)) L' ∧ L'.Perm (Li ++ L)
  | _, _, _, _, i, _, _, .nil, e, _ => by simp at e
  | _, _, _, Li, 0, _, _, .off r, e, h => ⟨_, .on h r, List.Perm.refl _⟩
  | _, _, _, _, 0, m, _, .on h r, e, _ => by simp at e
  | _, _, _, Li, i + 1, m, v, .off r, e, h2 => by
    obtain ⟨L', h3, h4⟩ := Rs.put (i := i) r (by simpa using e) h2
    exact ⟨L', .off h3, h4⟩
  | _, _, _, Li, i + 1, m, v, .on (L1 := L1) (L2 := L2) h r, e, h2 => by
    obtain ⟨L', h3, h4⟩ := Rs.put (i := i) r (by simpa using e) h2
    refine ⟨L1 ++ L', .on h h3, ?_⟩
    refine (h4.append_left L1).trans ?_
    rw [← List.append_assoc, ← List.append_assoc]
    exact List.perm_append_comm.append_right L2
/-- a slot let go -/
theorem Rs.drop : ∀ {σ : L2.St} {s : Sl} {L : List Addr} (i : Nat), Rs K F H σ s L → ∃ L', Rs K F H σ (s.set i none) L' ∧ L'.Sublist L
  | _, _, _, i, .nil => ⟨[], by simpa using Rs.nil, List.Sublist.refl _⟩
  | _, _, _, 0, .off r => ⟨_, .off r, List.Sublist.refl _⟩
  | _, _, _, 0, .on h r => ⟨_, .off r, List.sublist_append_right _ _⟩
  | _, _, _, i + 1, .off r => by
    obtain ⟨L', h, hs⟩ := Rs.drop i r
    exact ⟨L', .off h, hs⟩
  | _, _, _, i + 1, .on (L1 := L1) h r => by
    obtain ⟨L', h2, hs⟩ := Rs.drop i r
    exact ⟨L1 ++ L', .on h h2, List.Sublist.append (List.Sublist.refl _) hs⟩
/-- the value of an empty slot does not matter -/
theorem Rs.any : ∀ {σ : L2.St} {s : Sl} {L : List Addr} {i : Nat} (o : Option V), Rs K F H σ s L → s[i]? = some none → Rs K F H (σ.set i o) s L
  | _, _, _, i, o, .nil, e => by simp at e
  | _, _, _, 0, o, .off r, e => .off r
  | _, _, _, 0, o, .on h r, e => by simp at e
  | _, _, _, i + 1, o, .off r, e => .off (Rs.any o r (by simpa using e))
  | _, _, _, i + 1, o, .on h r, e => .on h (Rs.any o r (by simpa using e))
end

section
variable {K : PySem.W.Frag} {F F' : Addr → Prop} {H H' : Hp} {G G2 : Addr → Prop} {σ : L2.St} {s : Sl} {L Lm : List Addr} {v : V} {m : M}
theorem Ok.notF (o : Ok K F H G σ s L) : ∀ a ∈ L, ¬ F a ∧ H a ≠ none := o.rep.notF
/-- a step that guards the slots too -/
theorem Ok.step (o : Ok K F H G σ s L) (t : Stp F H (with_ G L) F' H') (wf : ∀ a, F' a → H' a ≠ none) : Ok K F' H' G σ s L :=
  ⟨wf, Rs.mono t.fro t.tup o.rep fun a ha => t.grd a (.inr ha), o.nd, fun a ha => ⟨t.trk a (o.gd a ha).1, fun z => (o.gd a ha).2.1 ((t.grd a (.inl ha)).2 z), (o.gd a ha).2.2⟩⟩
theorem Rv.step (o : Rv K F H G v m Lm) (t : Stp F H G2 F' H') (h : ∀ a ∈ Lm, G2 a) : Rv K F' H' G v m Lm :=
  ⟨Rm.mono t.fro t.tup o.rep fun a ha => t.grd a (h a ha), o.nd, o.gd⟩
theorem Ok.weak (o : Ok K F H G σ s L) (h : ∀ a, G2 a → G a) : Ok K F H G2 σ s L := ⟨o.wf, o.rep, o.nd, fun a ha => o.gd a (h a ha)⟩
/-- what is guarded beside the slots -/
theorem Ok.all (o : Ok K F H G σ s L) : ∀ a, with_ G L a → H a ≠ none ∧ ¬ F a := fun a h => h.elim (fun z => ⟨(o.gd a z).1, (o.gd a z).2.1⟩) fun z => ⟨(o.notF a z).2, (o.notF a z).1⟩
/-- an owned value is frozen -/
theorem Rv.freeze (o : Ok K F H (with_ G Lm) σ s L) (r : Rv K F H G v m Lm) :
    Stp F H G (with_ F Lm) H ∧ Rp K (with_ F Lm) H v (frz m) ∧ Ok K (with_ F Lm) H G σ s L := by
  have st : Stp F H (with_ G L) (with_ F Lm) H := Stp.freeze fun a ha z => z.elim (r.gd a ha) fun z => (o.gd a (.inr ha)).2.2 z
  refine ⟨st.weak fun _ h => .inl h, Rm.frz (fun a h => .inl h) r.rep fun a h => .inr h, ?_⟩
  exact (o.weak fun _ h => .inl h).step st fun a h => h.elim (o.wf a) fun z => (o.gd a (.inr z)).1
/-- an owned value goes into a slot -/
theorem Ok.store {i : Nat} (o : Ok K F H (with_ G Lm) σ s L) (r : Rv K F H G v m Lm) (hi : i < s.length) : ∃ L', Ok K F H G (σ.set i (some v)) (s.set i (some m)) L' := by
  obtain ⟨L1, h1, s1⟩ := o.rep.drop i
  have e1 : (s.set i none)[i]? = some none := by simp [hi]
  obtain ⟨L2, h2, p⟩ := h1.put e1 r.rep
  rw [List.set_set] at h2
  refine ⟨L2, o.wf, h2, ?_, fun a ha => ⟨(o.gd a (.inl ha)).1, (o.gd a (.inl ha)).2.1, fun z => ?_⟩⟩
  · refine p.nodup_iff.mpr (List.nodup_append.mpr ⟨r.nd, o.nd.sublist s1, fun a ha b hb e => ?_⟩)
    exact (o.gd a (.inr ha)).2.2 (e ▸ s1.subset hb)
  · rcases List.mem_append.mp (p.mem_iff.mp z) with z | z
    · exact r.gd a z ha
    · exact (o.gd a (.inl ha)).2.2 (s1.subset z)
/-- an owned slot is taken out -/
theorem Ok.take {i : Nat} (o : Ok K F H G σ s L) (e : s[i]? = some (some m)) : ∃ v Li L', σ[i]? = some (some v) ∧ Rv K F H G v m Li ∧ Ok K F H (with_ G Li) σ (s.set i none) L' := by
  obtain ⟨v, Li, L', h1, h2, h3, p⟩ := o.rep.get e
  have nd := p.nodup_iff.mp o.nd
  obtain ⟨n1, n2, n3⟩ := List.nodup_append.mp nd
  refine ⟨v, Li, L', h1, ⟨h2, n1, fun a ha z => (o.gd a z).2.2 (p.mem_iff.mpr (List.mem_append_left _ ha))⟩, o.wf, h3, n2, fun a ha => ?_⟩
  rcases ha with z | z
  · exact ⟨(o.gd a z).1, (o.gd a z).2.1, fun q => (o.gd a z).2.2 (p.mem_iff.mpr (List.mem_append_right _ q))⟩
  · exact ⟨(h2.notF a z).2, (h2.notF a z).1, fun q => n3 a z a q rfl⟩
/-- a frozen slot is read -/
theorem Ok.read {i : Nat} {x : D} (o : Ok K F H G σ s L) (e : s[i]? = some (some (.d x))) : ∃ v, σ[i]? = some (some v) ∧ Rp K F H v x := by
  obtain ⟨v, Li, L', h1, h2, h3, p⟩ := o.rep.get e
  cases h2 with
  | d r => exact ⟨v, h1, r⟩
theorem Ok.clear (o : Ok K F H G σ s L) (i : Nat) : ∃ L', Ok K F H G σ (s.set i none) L' ∧ L'.Sublist L := by
  obtain ⟨L', h, hs⟩ := o.rep.drop i
  exact ⟨L', ⟨o.wf, h, o.nd.sublist hs, fun a ha => ⟨(o.gd a ha).1, (o.gd a ha).2.1, fun z => (o.gd a ha).2.2 (hs.subset z)⟩⟩, hs⟩
end
end PV
/-! # PV2: the IR and its evaluator -/
namespace PV
open PySem PySem.Spec PyProof.Rows L2

abbrev szl : Nat := 16777216
inductive Op where
  | add | sub | mul | fdiv | mod | pow | neg
  | lt | le | gt | ge | eq | ne | isin | notin
  | isN | notN | isB (b : Bool) | notB (b : Bool)
  | ix | rev | sl (lo hi : Bool)
  | len | tuple | list | int | abs | min2 | max2 | all | any | sum
  | sset | sorted | max1 | min1 | lrange | trange
  | isi (one : Bool) (ts : List String)
  | tupd
deriving DecidableEq
inductive IK where
  | seq | range1 | range2 | zip | enum
deriving DecidableEq
inductive Tg where
  | nm (i : Nat)
  | tp (l : List Tg)
inductive E where
  | k (d : D)
  | gl (x : Str)
  | rd (i : Nat)
  | mv (i : Nat)
  | lenp (i : Nat)
  | ixp (i : Nat) (e : E)
  | op (o : Op) (as : List E)
  | lst (as : List E)
  | dct0
  | dct1 (k : Str) (e : E)
  | bop (isAnd : Bool) (as : List E)
  | not (e : E)
  | ite (c a b : E)
  | chain (o1 o2 : Op) (a b c : E)
  | call (f : Str) (bs : List Nat) (as : List E)
  | callp (f : Str) (i : Nat) (as : List E)
  | tupk (d : D) (e : E)
  | lc (elt : E) (tg : Tg) (ik : IK) (ias : List E) (ifs : List E)
/-- what the suite of a clause puts into its one name -/
inductive HA where
  | k (d : D)
  | fld (f : Str)
inductive HE where
  | at_ (x : HA)
  | tup (l : List HA)
/-- a clause: its class, the name behind `as`, the name that is assigned, what -/
structure Hdl where
  c : Str
  i : Option Nat
  j : Nat
  he : HE
inductive S where
  | raise (c : Str) (as : List E)
  | tryx (b : List S) (hs : List Hdl)
  | asg (tg : Tg) (e : E)
  | par (is : List Nat) (es : List E)
  | parm (i j : Nat) (a b : E)
  | seti (i : Nat) (ix e : E)
  | aug (i : Nat) (o : Op) (e : E)
  | app (i : Nat) (e : E)
  | appx (i j : Nat) (e : E)
  | ext (i : Nat) (e : E)
  | ex (e : E)
  | ite (c : E) (a b : List S)
  | ret (e : E)
  | retN
  | whl (c : E) (b : List S)
  | forr (tg : Tg) (ik : IK) (ias : List E) (b : List S)
  | brk | cnt | pass

/-- results -/
inductive R (α : Type) where
  | ok (x : α) (s : Sl)
  | ex (c : Str) (as : List D) (s : Sl)
  | bad
def R.bind {α β : Type} (r : R α) (f : α → Sl → R β) : R β := match r with
  | .ok x s => f x s
  | .ex c as s => .ex c as s
  | .bad => .bad
inductive O where
  | nx (s : Sl) | ret (m : M) (s : Sl) | brk (s : Sl) | cnt (s : Sl)
  | ex (c : Str) (as : List D) (s : Sl)
  | bad
inductive CR where
  | ok (m : M) (outs : List M)
  | ex (c : Str) (as : List D) (outs : List M)
  | bad
structure Cc where
  call : Str → List M → CR
  pins : Nat
  glob : Str → Option D
  lvl : Nat
/-- the field that an error of a class keeps -/
def fieldOf (c : Str) : Option Str :=
  if c = "TooMany" then some "most" else if c = "BadTable" then some "part" else if c = "BadRule" then some "part"
  else if c = "BadPut" then some "place" else if c = "BadText" then some "line" else if c = "BadWord" then some "place" else none
/-- does a clause take an error of a class -/
def exmB (h c : Str) : Bool := decide (h = c) || decide (h = "MarkError")
def okEx (c : Str) (ds : List D) : Bool := match fieldOf c, ds with
  | none, [] => true
  | some _, [_] => true
  | _, _ => false

/-! ### primitives -/
def seqD : D → Option (List D)
  | .tup l => some l
  | .lst l => some l
  | _ => none
def cutG {α : Type} (xs : List α) (lo hi : Option Int) : List α := (xs.drop (HT.sIx xs.length 0 lo)).take (HT.sIx xs.length xs.length hi - HT.sIx xs.length 0 lo)
mutual
def toP : D → Option PyData
  | .non => some .none
  | .bl b => some (.bool b)
  | .int i => some (.int i)
  | .str x => some (.str x)
  | .tup l => (toPs l).map .tuple
  | .lst l => (toPs l).map .list
  | .dct _ => none
  | .scr _ => none
def toPs : List D → Option (List PyData)
  | [] => some []
  | d :: r => match toP d, toPs r with
    | some x, some xs => some (x :: xs)
    | _, _ => none
end
def eqD (x y : D) : Option Bool := match toP x, toP y with
  | some a, some b => if SeqAt.shaped a = true ∧ SeqAt.shaped b = true then some (PyData.eqv a b) else none
  | _, _ => none
/-- x in l, of data of any depth -/
def inD (x : D) (l : List D) : Option Bool := match toP x, toPs l with
  | some a, some bs => if SeqAt.shaped a = true ∧ SeqAt.shaped (.list bs) = true then some (bs.any fun b => PyData.eqv b a) else none
  | _, _ => none
def tyD : D → String
  | .non => "NoneType"
  | .bl _ => "bool"
  | .int _ => "int"
  | .str _ => "str"
  | .tup _ => "tuple"
  | .lst _ => "list"
  | .dct _ => "dict"
  | .scr _ => "list"
def isiD (t : String) (ts : List String) : Bool := ts.any fun u => u == t || (u == "int" && t == "bool")
def okTys : List String := ["int", "bool", "str", "tuple", "list", "dict"]
def cmpI (f : Int → Int → Bool) : List D → Option M
  | [.int i, .int j] => some (.d (.bl (f i j)))
  | _ => none
def blsD : List D → Option (List Bool)
  | [] => some []
  | .bl b :: r => (blsD r).map (b :: ·)
  | _ => none
def intsD : List D → Option (List Int)
  | [] => some []
  | .int b :: r => (intsD r).map (b :: ·)
  | _ => none
def zipK : List Str → List D → List (D × D)
  | k :: ks, d :: ds => (.str k, d) :: zipK ks ds
  | _, _ => []
def repD (l : List D) (n : Int) : List D := (List.replicate n.toNat l).flatten

def pAdd : List D → Option M
  | [.int i, .int j] => some (.d (.int (i + j)))
  | [.tup a, .tup b] => if a.length + b.length ≤ szl then some (.d (.tup (a ++ b))) else none
  | [.lst a, .lst b] => if a.length + b.length ≤ szl then some (.lst ((a ++ b).map .d)) else none
  | [.str a, .str b] => if a.length + b.length ≤ szl then some (.d (.str (a ++ b))) else none
  | _ => none
def pSub : List D → Option M
  | [.int i, .int j] => some (.d (.int (i - j)))
  | _ => none
def pMul : List D → Option M
  | [.int i, .int j] => if i.natAbs.log2 + j.natAbs.log2 < 1000000 ∨ (-2 ^ 64 < i ∧ i < 2 ^ 64 ∨ -2 ^ 64 < j ∧ j < 2 ^ 64) then some (.d (.int (i * j))) else none
  | [.tup a, .int n] => if a ≠ [] ∧ 1 ≤ n ∧ n ≤ 1000 ∧ a.length ≤ 1000 then some (.d (.tup (repD a n))) else none
  | [.lst a, .int n] => if n ≤ 1000000 ∧ -1000000 ≤ n ∧ a.length * n.toNat ≤ szl then some (.lst ((repD a n).map .d)) else none
  | _ => none
def pDiv : List D → Option M
  | [.int i, .int j] => if 0 < j ∧ j.natAbs.log2 < 9000 then some (.d (.int (i / j))) else none
  | _ => none
def pMod : List D → Option M
  | [.int i, .int j] => if 0 < j then some (.d (.int (i % j))) else none
  | _ => none
def pPow : List D → Option M
  | [.int i, .int j] => if 0 ≤ j ∧ j ≤ 1000000 ∧ i.natAbs < 2 ^ 64 then some (.d (.int (i ^ j.toNat))) else none
  | _ => none
def pNeg : List D → Option M
  | [.int i] => some (.d (.int (-i)))
  | _ => none
def pEq (neg : Bool) : List D → Option M
  | [x, y] => (eqD x y).map fun b => .d (.bl (b != neg))
  | _ => none
def pIn (neg : Bool) : List D → Option M
  | [x, .tup l] => (inD x l).map fun b => .d (.bl (b != neg))
  | [x, .lst l] => (inD x l).map fun b => .d (.bl (b != neg))
  | _ => none
def isNon : D → Bool
  | .non => true
  | _ => false
def pIsN (neg : Bool) : List D → Option M
  | [x] => some (.d (.bl (isNon x != neg)))
  | _ => none
def pIsB (neg b : Bool) : List D → Option M
  | [.bl c] => some (.d (.bl ((c == b) != neg)))
  | _ => none
def pIx : List D → Option M
  | [.tup l, .int i] => (atI l i).map .d
  | [.lst l, .int i] => (atI l i).map .d
  | _ => none
def pRev : List D → Option M
  | [.lst l] => some (.lst (l.reverse.map .d))
  | [.tup l] => some (.d (.tup l.reverse))
  | _ => none
def pCut (lo hi : Option Int) : D → Option M
  | .tup l => some (.d (.tup (cutG l lo hi)))
  | .lst l => some (.lst ((cutG l lo hi).map .d))
  | .scr l => some (.lst ((cutG l lo hi).map fun i => .d (.int i)))
  | _ => none
def pSl : Bool → Bool → List D → Option M
  | true, true, [x, .int i, .int j] => pCut (some i) (some j) x
  | true, false, [x, .int i] => pCut (some i) none x
  | false, true, [x, .int j] => pCut none (some j) x
  | _, _, _ => none
def pLen : List D → Option M
  | [.tup l] => some (.d (.int l.length))
  | [.lst l] => some (.d (.int l.length))
  | _ => none
def pTuple : List D → Option M
  | [.lst l] => some (.d (.tup l))
  | [.tup l] => some (.d (.tup l))
  | _ => none
def pList : List D → Option M
  | [.lst l] => some (.lst (l.map .d))
  | [.tup l] => some (.lst (l.map .d))
  | _ => none
def pInt : List D → Option M
  | [.int i] => some (.d (.int i))
  | [.bl b] => some (.d (.int (if b then 1 else 0)))
  | _ => none
def pAbs : List D → Option M
  | [.int i] => some (.d (.int (if i < 0 then -i else i)))
  | _ => none
def pMin2 : List D → Option M
  | [.int i, .int j] => some (.d (.int (if j < i then j else i)))
  | _ => none
def pMax2 : List D → Option M
  | [.int i, .int j] => some (.d (.int (if j > i then j else i)))
  | _ => none
def pAll (any : Bool) : List D → Option M
  | [.lst l] => (blsD l).map fun bs => .d (.bl (if any then bs.any id else bs.all id))
  | _ => none
def pSum : List D → Option M
  | [.lst l] => (intsD l).map fun bs => .d (.int bs.sum)
  | _ => none
/-- a list in order; the same, each once -/
def insI (x : Int) : List Int → List Int
  | [] => [x]
  | y :: r => if x ≤ y then x :: y :: r else y :: insI x r
def sortI : List Int → List Int
  | [] => []
  | x :: r => insI x (sortI r)
def insU (x : Int) : List Int → List Int
  | [] => [x]
  | y :: r => if x < y then x :: y :: r else if x = y then y :: r else y :: insU x r
def sortU : List Int → List Int
  | [] => []
  | x :: r => insU x (sortU r)
def maxI : Int → List Int → Int
  | m, [] => m
  | m, x :: r => maxI (if m < x then x else m) r
def minI : Int → List Int → Int
  | m, [] => m
  | m, x :: r => minI (if x < m then x else m) r
def intsM (l : List Int) : M := .lst ((l.map D.int).map .d)
def pSset : List D → Option M
  | [.tup l] => match intsD l with
    | some ns => if ns.length < 60 then some (intsM (sortU ns)) else none
    | none => none
  | _ => none
/-! the order of data: a stable one -/
def insS {α : Type} (lt : α → α → Bool) (x : α) : List α → List α
  | [] => [x]
  | y :: r => if lt y x = true then y :: insS lt x r else x :: y :: r
def sortS {α : Type} (lt : α → α → Bool) : List α → List α
  | [] => []
  | x :: r => insS lt x (sortS lt r)
mutual
/-- whole numbers, and tuples of these through and through -/
def tyT : PyData → Bool
  | .int _ => true
  | .tuple l => tyTs l
  | _ => false
def tyTs : List PyData → Bool
  | [] => true
  | d :: r => tyT d && tyTs r
end
/-- the first of a tuple: a whole number, or a tuple -/
def fstB (fi : Bool) : PyData → Bool
  | .tuple (.int _ :: _) => fi
  | .tuple (.tuple _ :: _) => !fi
  | _ => false
def okSort (ps : List PyData) : Bool := (ps.all (fun p => fstB true p && (tyT p && decide (p.depth ≤ 60))) || ps.all (fun p => fstB false p && (tyT p && decide (p.depth ≤ 60)))) && ps.all fun p => ps.all fun q => PySem.W.alike p q
def toPD (d : D) : PyData := (toP d).getD .none
def sortD (l : List D) : List D := sortS (fun a b => PySem.W.dataLt (toPD a) (toPD b)) l
def pSorted : List D → Option M
  | [.lst l] => match intsD l with
    | some ns => some (intsM (sortI ns))
    | none => match toPs l with
      | some ps => if okSort ps = true then some (.lst ((sortD l).map .d)) else none
      | none => none
  | _ => none
def pMax1 : List D → Option M
  | [.lst l] => match intsD l with
    | some (n :: r) => some (.d (.int (maxI n r)))
    | _ => none
  | [.tup l] => match intsD l with
    | some (n :: r) => some (.d (.int (maxI n r)))
    | _ => none
  | _ => none
def pMin1 : List D → Option M
  | [.lst l] => match intsD l with
    | some (n :: r) => some (.d (.int (minI n r)))
    | _ => none
  | _ => none
def pLrange : List D → Option M
  | [.int n] => if -(2 ^ 62) ≤ n ∧ n ≤ 16777216 then some (.lst (((List.range n.toNat).map fun (i : Nat) => D.int (0 + (i : Int))).map .d)) else none
  | _ => none
def pTrange : List D → Option M
  | [.int n] => if -(2 ^ 62) ≤ n ∧ n ≤ 16777216 then some (.d (.tup ((List.range n.toNat).map fun (i : Nat) => D.int (0 + (i : Int))))) else none
  | _ => none
def pIsi (one : Bool) (ts : List String) : List D → Option M
  | [x] => if ts.all (fun t => okTys.contains t) = true ∧ (one = true → ts.length = 1) ∧ ts.length ≤ szl then some (.d (.bl (isiD (tyD x) ts))) else none
  | _ => none
def pTupd (l : List D) : Option M := if l.length ≤ szl then some (.d (.tup l)) else none
def prim : Op → List D → Option M
  | .add => pAdd
  | .sub => pSub
  | .mul => pMul
  | .fdiv => pDiv
  | .mod => pMod
  | .pow => pPow
  | .neg => pNeg
  | .lt => cmpI (fun i j => decide (i < j))
  | .le => cmpI (fun i j => decide (i ≤ j))
  | .gt => cmpI (fun i j => decide (j < i))
  | .ge => cmpI (fun i j => decide (j ≤ i))
  | .eq => pEq false
  | .ne => pEq true
  | .isin => pIn false
  | .notin => pIn true
  | .isN => pIsN false
  | .notN => pIsN true
  | .isB b => pIsB false b
  | .notB b => pIsB true b
  | .ix => pIx
  | .rev => pRev
  | .sl lo hi => pSl lo hi
  | .len => pLen
  | .tuple => pTuple
  | .list => pList
  | .int => pInt
  | .abs => pAbs
  | .min2 => pMin2
  | .max2 => pMax2
  | .all => pAll false
  | .any => pAll true
  | .sum => pSum
  | .sset => pSset
  | .sorted => pSorted
  | .max1 => pMax1
  | .min1 => pMin1
  | .lrange => pLrange
  | .trange => pTrange
  | .isi one ts => pIsi one ts
  | .tupd => pTupd

/-- what is walked -/
def itSeq : List D → Option (List D)
  | [.lst l] => some l
  | [.tup l] => some l
  | _ => none
def itR1 : List D → Option (List D)
  | [.int n] => if -(2 ^ 62) ≤ n ∧ n ≤ 16777216 then some ((List.range n.toNat).map fun (i : Nat) => D.int (0 + (i : Int))) else none
  | _ => none
def itR2 : List D → Option (List D)
  | [.int a, .int b] => if -(2 ^ 62) ≤ a ∧ a < 2 ^ 62 ∧ -(2 ^ 62) ≤ b ∧ b < 2 ^ 62 ∧ b - a ≤ 16777216 then some ((List.range (b - a).toNat).map fun (i : Nat) => D.int (a + (i : Int))) else none
  | _ => none
def itZip : List D → Option (List D)
  | [.tup a, .tup b] => some (List.zipWith (fun u v => .tup [u, v]) a b)
  | [.lst a, .lst b] => some (List.zipWith (fun u v => .tup [u, v]) a b)
  | _ => none
def itEnum : List D → Option (List D)
  | [.lst l] => some (l.mapIdx fun i d => .tup [.int (i : Nat), d])
  | [.tup l] => some (l.mapIdx fun i d => .tup [.int (i : Nat), d])
  | _ => none
def items : IK → List D → Option (List D)
  | .seq => itSeq
  | .range1 => itR1
  | .range2 => itR2
  | .zip => itZip
  | .enum => itEnum

mutual
def bindT (pins : Nat) : Tg → M → Sl → Option Sl
  | .nm i, m, s => if i < s.length ∧ pins ≤ i then some (s.set i (some m)) else none
  | .tp ts, m, s => match frz m with
    | .tup ds => bindTs pins ts ds s
    | _ => none
def bindTs (pins : Nat) : List Tg → List D → Sl → Option Sl
  | [], [], s => some s
  | t :: ts, d :: ds, s => (bindT pins t (.d d) s).bind fun s => bindTs pins ts ds s
  | _, _, _ => none
end
mutual
def Tg.vars : Tg → List Nat
  | .nm i => [i]
  | .tp ts => varss ts
def varss : List Tg → List Nat
  | [] => []
  | t :: ts => t.vars ++ varss ts
end
/-- the slots of a comprehension's own names: empty, or frozen -/
def plainAt (s : Sl) (i : Nat) : Bool := match s[i]? with
  | some none => true
  | some (some (.d _)) => true
  | _ => false
def wipes (s : Sl) : List Nat → Sl
  | [] => s
  | i :: r => (wipes s r).set i none
/-- the own names get back what they held -/
def backs (s0 s : Sl) : List Nat → Sl
  | [] => s
  | i :: r => (backs s0 s r).set i (s0.getD i none)

/-- what is lent to a call: an owned thing leaves its slot -/
def filled (s : Sl) (i : Nat) : Bool := match s[i]? with
  | some (some _) => true
  | _ => false
def lend : List Nat → Sl → Option (List M × Sl)
  | [], s => some ([], s)
  | b :: bs, s => match s[b]? with
    | some (some (.d x)) => (lend bs s).map fun p => (.d x :: p.1, p.2)
    | some (some m) => (lend bs (s.set b none)).map fun p => (m :: p.1, p.2)
    | _ => none
def giveBack : List Nat → List M → Sl → Sl
  | b :: bs, m :: ms, s => giveBack bs ms (s.set b (some m))
  | _, _, s => s

def loopC (f : D → Sl → R (Option D)) : List D → Sl → R (List D)
  | [], s => .ok [] s
  | d :: r, s => (f d s).bind fun o s => (loopC f r s).bind fun ds s => .ok (match o with | some x => x :: ds | none => ds) s

mutual
def ev (C : Cc) : E → Sl → R M
  | .k d, s => .ok (.d d) s
  | .gl x, s => match C.glob x with
    | some d => .ok (.d d) s
    | none => .bad
  | .rd i, s => match s[i]? with
    | some (some (.d x)) => .ok (.d x) s
    | some (some m) => .ok (.d (frz m)) (s.set i (some (.d (frz m))))
    | _ => .bad
  | .mv i, s => match s[i]? with
    | some (some (.d x)) => .ok (.d x) s
    | some (some m) => .ok m (s.set i none)
    | _ => .bad
  | .lenp i, s => match s[i]? with
    | some (some (.lst ms)) => .ok (.d (.int ms.length)) s
    | some (some (.d (.lst ds))) => .ok (.d (.int ds.length)) s
    | some (some (.d (.tup ds))) => .ok (.d (.int ds.length)) s
    | _ => .bad
  | .ixp i e, s => if filled s i = true then (ev C e s).bind fun m s => match frz m, s[i]? with
    | .int j, some (some (.lst ms)) => (match atI ms j with
      | some (.d x) => .ok (.d x) s
      | _ => .bad)
    | .int j, some (some (.d (.lst ds))) => (match atI ds j with
      | some x => .ok (.d x) s
      | _ => .bad)
    | .int j, some (some (.d (.tup ds))) => (match atI ds j with
      | some x => .ok (.d x) s
      | _ => .bad)
    | _, _ => .bad
    else .bad
  | .op o as, s => (evs C as s).bind fun ds s => match prim o ds with
    | some m => .ok m s
    | none => .bad
  | .lst as, s => (evs C as s).bind fun ds s => if ds.length ≤ szl then .ok (.lst (ds.map .d)) s else .bad
  | .tupk d e, s => (ev C e s).bind fun m s => .ok (.tup [.d d, m]) s
  | .dct0, s => .ok (.d (.dct [])) s
  | .dct1 k e, s => (ev C e s).bind fun m s => .ok (.d (.dct [(.str k, frz m)])) s
  | .bop isAnd as, s => evb C isAnd as s
  | .not e, s => (ev C e s).bind fun m s => match m with
    | .d (.bl b) => .ok (.d (.bl (!b))) s
    | _ => .bad
  | .ite c a b, s => (ev C c s).bind fun m s => match m with
    | .d (.bl true) => ev C a s
    | .d (.bl false) => ev C b s
    | _ => .bad
  | .chain o1 o2 a b c, s => (ev C a s).bind fun x s => (ev C b s).bind fun y s => match prim o1 [frz x, frz y] with
    | some (.d (.bl true)) => (ev C c s).bind fun z s => (match prim o2 [frz y, frz z] with
      | some (.d (.bl r)) => .ok (.d (.bl r)) s
      | _ => .bad)
    | some (.d (.bl false)) => .ok (.d (.bl false)) s
    | _ => .bad
  | .call f bs as, s => if bs.all (filled s) = true then (evs C as s).bind fun ds s => match lend bs s with
    | some (ms, s) => (match C.call f (ms ++ ds.map .d) with
      | .ok m outs => if bs.length ≤ outs.length then .ok m (giveBack bs outs s) else .bad
      | .ex c as outs => if bs.length ≤ outs.length then .ex c as (giveBack bs outs s) else .bad
      | .bad => .bad)
    | none => .bad
    else .bad
  | .callp f i as, s => if filled s i = true then (evs C as s).bind fun ds s => (match s[i]? with
      | some (some m) => (match C.call f (.d (frz m) :: ds.map .d) with
        | .ok (.d (.bl r)) _ => .ok (.d (.bl r)) s
        | _ => .bad)
      | _ => .bad)
    else .bad
  | .lc elt tg ik ias ifs, s => (evs C ias s).bind fun ds s => match items ik ds with
    | some its => if tg.vars.all (plainAt s) = true then
        (match loopC (fun d s => match bindT C.pins tg (.d d) s with
          | some s => (evi C ifs s).bind fun b s => if b = true then (ev C elt s).bind fun m s => .ok (some (frz m)) (wipes s tg.vars) else .ok none (wipes s tg.vars)
          | none => .bad) its (wipes s tg.vars) with
        | .ok ds s1 => .ok (.lst (ds.map .d)) (backs s s1 tg.vars)
        | _ => .bad)
      else .bad
    | none => .bad
def evs (C : Cc) : List E → Sl → R (List D)
  | [], s => .ok [] s
  | e :: es, s => (ev C e s).bind fun m s => (evs C es s).bind fun ds s => .ok (frz m :: ds) s
def evb (C : Cc) (isAnd : Bool) : List E → Sl → R M
  | [], _ => .bad
  | [e], s => ev C e s
  | e :: es, s => (ev C e s).bind fun m s => match m with
    | .d (.bl b) => if b = isAnd then evb C isAnd es s else .ok (.d (.bl b)) s
    | _ => .bad
/-- the tests of a comprehension: none or one -/
def evi (C : Cc) : List E → Sl → R Bool
  | [], s => .ok true s
  | [e], s => (ev C e s).bind fun m s => match m with
    | .d (.bl b) => .ok b s
    | _ => .bad
  | _, _ => .bad
end
def evt (C : Cc) (e : E) (s : Sl) : R Bool := (ev C e s).bind fun m s => match m with
  | .d (.bl b) => .ok b s
  | _ => .bad

def O.then_ (o : O) (f : Sl → O) : O := match o with
  | .nx s => f s
  | o => o
def R.thenS {α : Type} (r : R α) (f : α → Sl → O) : O := match r with
  | .ok x s => f x s
  | .ex c as s => .ex c as s
  | .bad => .bad
def loopS (f : D → Sl → O) : List D → Sl → O
  | [], s => .nx s
  | d :: r, s => match f d s with
    | .nx s => loopS f r s
    | .cnt s => loopS f r s
    | .brk s => .nx s
    | o => o
/-- a while, so many turns -/
def whileN (t : Sl → R Bool) (f : Sl → O) : Nat → Sl → Option O
  | 0, _ => none
  | n + 1, s => match t s with
    | .ok false s => some (.nx s)
    | .ok true s => (match f s with
      | .nx s => whileN t f n s
      | .cnt s => whileN t f n s
      | .brk s => some (.nx s)
      | .bad => none
      | o => some o)
    | .ex c as s => some (.ex c as s)
    | .bad => none
open Classical in
noncomputable def whileO (t : Sl → R Bool) (f : Sl → O) (s : Sl) : O := if h : ∃ n o, whileN t f n s = some o then (Classical.choose_spec h).choose else .bad

/-- x op= y of whole numbers -/
def augI : Op → Int → Int → Option Int
  | .add, x, y => some (x + y)
  | .sub, x, y => some (x - y)
  | .mul, x, y => if x.natAbs.log2 + y.natAbs.log2 < 1000000 then some (x * y) else none
  | _, _, _ => none
def isLst (s : Sl) (i : Nat) : Bool := match s[i]? with
  | some (some (.lst _)) => true
  | _ => false
def isTupL (s : Sl) (i j : Nat) : Bool := match s[i]? with
  | some (some (.tup ms)) => (match ms[j]? with
    | some (.lst _) => true
    | _ => false)
  | _ => false
def bindPar (pins : Nat) : List Nat → List D → Sl → Option Sl
  | [], [], s => some s
  | i :: is, d :: ds, s => (bindT pins (.nm i) (.d d) s).bind fun s => bindPar pins is ds s
  | _, _, _ => none

/-- what a clause puts: of the class and the data of the error -/
def heA (c : Str) (as : List D) : HA → Option D
  | .k d => some d
  | .fld f => if fieldOf c = some f then as.head? else none
def heAs (c : Str) (as : List D) : List HA → Option (List D)
  | [] => some []
  | h :: r => (heA c as h).bind fun d => (heAs c as r).map (d :: ·)
def heV (c : Str) (as : List D) : HE → Option D
  | .at_ x => heA c as x
  | .tup l => (heAs c as l).bind fun ds => if ds.length ≤ szl then some (.tup ds) else none
def emptyAt (s : Sl) (i : Nat) : Bool := match s[i]? with
  | some none => true
  | _ => false
def evH (pins : Nat) (c : Str) (as : List D) : List Hdl → Sl → O
  | [], s => .ex c as s
  | h :: r, s => if exmB h.c c = true then
      (if (match h.i with | none => true | some i => emptyAt s i && (decide (i ≠ h.j) && decide (pins ≤ i))) = true then
        (match heV c as h.he with
        | some v => (match bindT pins (.nm h.j) (.d v) s with
          | some s => .nx s
          | none => .bad)
        | none => .bad)
      else .bad)
    else evH pins c as r s
mutual
noncomputable def evS (C : Cc) : S → Sl → O
  | .raise c as, s => if 3 ≤ C.lvl then (evs C as s).thenS fun ds s => if okEx c ds = true then .ex c ds s else .bad else .bad
  | .tryx b hs, s => (match evSs C b s with
    | .ex c as s => evH C.pins c as hs s
    | o => o)
  | .asg tg e, s => (ev C e s).thenS fun m s => match bindT C.pins tg m s with
    | some s => .nx s
    | none => .bad
  | .par is es, s => (evs C es s).thenS fun ds s => match bindPar C.pins is ds s with
    | some s => .nx s
    | none => .bad
  | .parm i j a b, s => (ev C a s).thenS fun m s => (ev C b s).thenS fun m2 s => match bindT C.pins (.nm i) m s with
    | some s => (match bindT C.pins (.nm j) m2 s with
      | some s => .nx s
      | none => .bad)
    | none => .bad
  | .seti i ix e, s => (ev C e s).thenS fun m s => if filled s i = true then (ev C ix s).thenS fun j s => match frz j, s[i]? with
    | .int j, some (some (.lst ms)) => (match ixN ms.length j with
      | some n => .nx (s.set i (some (.lst (ms.set n (.d (frz m))))))
      | none => .bad)
    | _, _ => .bad
    else .bad
  | .aug i o e, s => match s[i]? with
    | some (some (.d (.int x))) => (ev C e s).thenS fun m s => (match frz m with
      | .int y => (match augI o x y with
        | some z => (match bindT C.pins (.nm i) (.d (.int z)) s with
          | some s => .nx s
          | none => .bad)
        | none => .bad)
      | _ => .bad)
    | _ => .bad
  | .app i e, s => if isLst s i = true then (ev C e s).thenS fun m s => match s[i]? with
    | some (some (.lst ms)) => if ms.length < szl then .nx (s.set i (some (.lst (ms ++ [.d (frz m)])))) else .bad
    | _ => .bad
    else .bad
  | .appx i j e, s => if isTupL s i j = true then (ev C e s).thenS fun m s => match s[i]? with
    | some (some (.tup ms)) => (match ms[j]? with
      | some (.lst l) => if l.length < szl then .nx (s.set i none) else .bad
      | _ => .bad)
    | _ => .bad
    else .bad
  | .ext i e, s => if isLst s i = true then (ev C e s).thenS fun m s => match s[i]?, frz m with
    | some (some (.lst ms)), .lst ds => if ms.length + ds.length ≤ szl then .nx (s.set i (some (.lst (ms ++ ds.map .d)))) else .bad
    | _, _ => .bad
    else .bad
  | .ex e, s => (ev C e s).thenS fun _ s => .nx s
  | .ite c a b, s => (evt C c s).thenS fun t s => if t = true then evSs C a s else evSs C b s
  | .ret e, s => (ev C e s).thenS fun m s => .ret m s
  | .retN, s => .ret (.d .non) s
  | .whl c b, s => whileO (fun s => evt C c s) (fun s => evSs C b s) s
  | .forr tg ik ias b, s => (evs C ias s).thenS fun ds s => match items ik ds with
    | some its => loopS (fun d s => match bindT C.pins tg (.d d) s with
      | some s => evSs C b s
      | none => .bad) its s
    | none => .bad
  | .brk, s => .brk s
  | .cnt, s => .cnt s
  | .pass, s => .nx s
noncomputable def evSs (C : Cc) : List S → Sl → O
  | [], s => .nx s
  | st :: r, s => (evS C st s).then_ fun s => evSs C r s
end

/-- a def: how many parameters, slots; how many first parameters are lent; its body -/
structure Fn where
  ps : List Str
  ns : List Str
  pins : Nat
  body : List S
def outsOf : Nat → Sl → Option (List M)
  | 0, _ => some []
  | n + 1, some m :: s => (outsOf n s).map (m :: ·)
  | _ + 1, _ => none
def finish (pins : Nat) : O → CR
  | .ret m s => (match outsOf pins s with
    | some os => .ok m os
    | none => .bad)
  | .nx s => (match outsOf pins s with
    | some os => .ok (.d .non) os
    | none => .bad)
  | .ex c as s => (match outsOf pins s with
    | some os => .ex c as os
    | none => .bad)
  | _ => .bad
structure Tab where
  fn : Str → Option Fn
  glob : Str → Option D
  exc : List Str
noncomputable def evCall (T : Tab) : Nat → Str → List M → CR
  | 0, _, _ => .bad
  | n + 1, f, ms => match T.fn f with
    | some g => if ms.length = g.ps.length then finish g.pins (evSs ⟨evCall T n, g.pins, T.glob, n⟩ g.body (ms.map some ++ List.replicate (g.ns.length - ms.length) none)) else .bad
    | none => .bad
end PV
/-! # PV31: sorted of a list of tuples of data that have an order -/
namespace PV
open PySem PySem.Spec PyProof.Rows L2
mutual
theorem reads_mono {h h' : Heap} (k : ∀ b o, h.get? b = some o → o.cls = Value.type "tuple" → h'.get? b = some o) : ∀ {v : Value} {d : PyData} {as : List Addr}, Reads h v d as → tyT d = true → Reads h' v d as
  | _, _, _, .none, e => by cases e
  | _, _, _, .bool b, e => by cases e
  | _, _, _, .int i t, _ => .int i t
  | _, _, _, .str x t, e => by cases e
  | _, _, _, .list _ _ _ _, e => by cases e
  | _, _, _, .tuple h1 h2 h3 r, e => .tuple (k _ _ h1 h2) h2 h3 (readsAll_mono k r e)
  | _, _, _, .dict _ _ _ _ _, e => by cases e
theorem readsAll_mono {h h' : Heap} (k : ∀ b o, h.get? b = some o → o.cls = Value.type "tuple" → h'.get? b = some o) : ∀ {vs : List Value} {ds : List PyData} {as : List Addr}, ReadsAll h vs ds as → tyTs ds = true → ReadsAll h' vs ds as
  | _, _, _, .nil, _ => .nil
  | _, _, _, .cons r rs, e => by
    have e : (tyT _ && tyTs _) = true := e
    rw [Bool.and_eq_true] at e
    exact .cons (reads_mono k r e.1) (readsAll_mono k rs e.2)
end
def ltK (k : Value → PyData) (u v : Value) : Bool := PySem.W.dataLt (k u) (k v)
theorem dl_irr (x : PyData) : PySem.W.dataLt x x = false := PyProof.Rows.lex_irrefl _
theorem dl_tr (x y z : PyData) (h1 : PySem.W.dataLt x y = true) (h2 : PySem.W.dataLt y z = true) : PySem.W.dataLt x z = true := PyProof.Rows.lex_trans _ _ _ h1 h2
theorem dl_neg (x y z : PyData) (h : PySem.W.dataLt x z = true) : PySem.W.dataLt x y = true ∨ PySem.W.dataLt y z = true := PyProof.Rows.lex_negTrans _ _ _ h
theorem swo_d {α : Type} (k : α → PyData) : SrtO.Swo fun u v => PySem.W.dataLt (k u) (k v) := by
  refine ⟨fun x y h => ?_, fun x y z h1 h2 => ?_⟩
  · cases e : PySem.W.dataLt (k y) (k x) with
    | false => rfl
    | true =>
      have q := dl_tr _ _ _ h e
      rw [dl_irr] at q
      cases q
  · cases e : PySem.W.dataLt (k z) (k x) with
    | false => rfl
    | true =>
      rcases dl_neg _ (k y) _ e with q | q
      · exact h2.symm.trans q |>.symm
      · exact h1.symm.trans q |>.symm
/-- the first of a tuple: a whole number, or a tuple -/
def fstK (fi : Bool) : PyData → Prop
  | .tuple (.int _ :: _) => fi = true
  | .tuple (.tuple _ :: _) => fi = false
  | _ => False
theorem fstB_ok {fi : Bool} {p : PyData} (h : fstB fi p = true) : fstK fi p := by
  unfold fstB at h
  split at h
  · exact h
  · rw [Bool.not_eq_true'] at h; exact h
  · cases h
theorem readsAll_len {h : Heap} : ∀ {vs : List Value} {ds : List PyData} {as : List Addr}, ReadsAll h vs ds as → vs.length = ds.length
  | _, _, _, .nil => rfl
  | _, _, _, .cons _ r => congrArg (· + 1) (readsAll_len r)
section
variable {prog : Program} {w : World} {A : Around} {s : Shared} {vs : List Value} {k : Value → PyData} {fi : Bool}
theorem kat_of {h : Heap} : ∀ {vs : List Value}, (∀ v ∈ vs, ∃ as, Reads h v (k v) as ∧ fstK fi (k v)) → ∃ fs, PySem.W.KatTups h vs fs ∧ fs.length = vs.length ∧ ∀ f ∈ fs, (fi = true ∧ ∃ i t, f = .int i t) ∨ (fi = false ∧ ∃ a o, f = .ref a ∧ h.get? a = some o ∧ o.cls = .type "tuple")
  | [], _ => ⟨[], trivial, rfl, fun _ z => nomatch z⟩
  | v :: vs, hp => by
    obtain ⟨fs, f1, f2, f3⟩ := kat_of (vs := vs) fun u hu => hp u (List.mem_cons_of_mem _ hu)
    obtain ⟨as, r, hf⟩ := hp v List.mem_cons_self
    cases ek : k v with
    | tuple l =>
      rw [ek] at r hf
      cases l with
      | nil => exact hf.elim
      | cons x l =>
        cases r with
        | @tuple a o its n _ as h1 h2 h3 rs =>
          cases hi : its.toList with
          | nil => rw [hi] at rs; cases rs
          | cons f its' =>
            rw [hi] at rs
            have h0 : its[0]? = some f := by rw [← Array.getElem?_toList, hi]; rfl
            refine ⟨f :: fs, ⟨⟨a, o, its, n, rfl, h1, h2, h3, h0⟩, f1⟩, by simp [f2], fun g hg => ?_⟩
            rcases List.mem_cons.mp hg with rfl | hg
            · cases rs with
              | cons rx _ =>
                cases rx with
                | int i t => exact .inl ⟨hf, i, t, rfl⟩
                | tuple q1 q2 q3 q4 => exact .inr ⟨hf, _, _, rfl, q1, q2⟩
                | none => exact hf.elim
                | bool => exact hf.elim
                | str => exact hf.elim
                | list => exact hf.elim
                | dict => exact hf.elim
            · exact f3 g hg
    | none => rw [ek] at hf; exact hf.elim
    | bool => rw [ek] at hf; exact hf.elim
    | int => rw [ek] at hf; exact hf.elim
    | str => rw [ek] at hf; exact hf.elim
    | list => rw [ek] at hf; exact hf.elim
    | dict => rw [ek] at hf; exact hf.elim
theorem data_cmp (hp : ∀ v ∈ vs, ∃ as, Reads s.heap v (k v) as ∧ fstK fi (k v)) (ha : ∀ u ∈ vs, ∀ v ∈ vs, PySem.W.alike (k u) (k v) = true) (hu : ∀ v ∈ vs, A.units + (k v).depth < cLine) :
    SrtO.Cmp prog w A s (tuples' fi) (fun p => p.fst ∈ vs) (SrtO.lt2 (ltK k)) := by
  intro p q hpm hqm
  obtain ⟨as, r1, f1⟩ := hp _ hpm
  obtain ⟨bs, r2, f2⟩ := hp _ hqm
  have al := ha _ hpm _ hqm
  have un := hu _ hpm
  show wpAny (model prog w) A (keyLt' (tuples' fi) p.fst q.fst) (fun r s' => s' = s ∧ r = PySem.W.dataLt (k p.fst) (k q.fst)) (fun _ _ => False) s
  generalize p.fst = x at *
  generalize q.fst = y at *
  cases e1 : k x with
  | tuple l =>
    rw [e1] at r1 f1 al un
    cases e2 : k y with
    | tuple m =>
      rw [e2] at r2 f2 al
      cases r1 with
      | @tuple a o its n _ as h1 h2 h3 rs =>
        cases r2 with
        | @tuple b o' its' n' _ bs h1' h2' h3' rs' =>
          refine PySem.W.kat_lt h1 h3 h1' h3' ?_
          have dl : PyData.depthAll l ≤ (PyData.tuple l).depth := by show _ ≤ PyData.depthAll l + 1; omega
          refine PySem.W.katLex_alike l m 0 its.toList its'.toList as bs rs rs' al (by have : min (PyData.depthAll l) (PyData.depthAll m) ≤ PyData.depthAll l := Nat.min_le_left _ _; omega) (fun hb _ z r t hz ht => ?_) ?_ ?_
          · subst hz
            subst ht
            have f1 : fi = false := f1
            rw [f1] at hb; cases hb
          · rw [← readsAll_len rs, ← readsAll_len rs']; simp
          · exact ⟨rfl, (PySem.W.dataLt_tuple l m).symm⟩
    | none => rw [e2] at f2; exact f2.elim
    | bool => rw [e2] at f2; exact f2.elim
    | int => rw [e2] at f2; exact f2.elim
    | str => rw [e2] at f2; exact f2.elim
    | list => rw [e2] at f2; exact f2.elim
    | dict => rw [e2] at f2; exact f2.elim
  | none => rw [e1] at f1; exact f1.elim
  | bool => rw [e1] at f1; exact f1.elim
  | int => rw [e1] at f1; exact f1.elim
  | str => rw [e1] at f1; exact f1.elim
  | list => rw [e1] at f1; exact f1.elim
  | dict => rw [e1] at f1; exact f1.elim
theorem data_sortable {a : Addr} (h0 : 0 < vs.length) (hp : ∀ v ∈ vs, ∃ as, Reads s.heap v (k v) as ∧ fstK fi (k v) ∧ tyT (k v) = true) (ha : ∀ u ∈ vs, ∀ v ∈ vs, PySem.W.alike (k u) (k v) = true) (hu : ∀ v ∈ vs, A.units + (k v).depth < cLine)
    (hc : ∀ o, s.heap.get? a = some o → o.cls ≠ Value.type "tuple") : SrtO.SortableO prog w A s a vs (ltK k) := by
  intro h' keep
  have hp' : ∀ v ∈ vs, ∃ as, Reads h' v (k v) as ∧ fstK fi (k v) := fun v hv => by
    obtain ⟨as, r, f, t⟩ := hp v hv
    exact ⟨as, reads_mono (fun b o e c => keep b o (fun z => by subst z; exact hc o e c) e) r t, f⟩
  obtain ⟨fs, k1, k2, k3⟩ := kat_of hp'
  refine ⟨tuples' fi, fun Q E q => ?_, data_cmp (s := { heap := h', gens := s.gens, drawn := s.drawn, toks := s.toks, os := s.os }) hp' ha hu⟩
  cases fi with
  | true =>
    refine PySem.W.kat_kind (T := .type "int") (s := { heap := h', gens := s.gens, drawn := s.drawn, toks := s.toks, os := s.os }) k1 (by omega) (fun f hf => ?_) (by decide) q
    rcases k3 f hf with ⟨_, i, t, rfl⟩ | ⟨z, _⟩
    · exact fun A Q E s k q => (show wpAny _ A (pure (Value.type "int")) Q E s from wpAny_pure q)
    · cases z
  | false =>
    refine PySem.W.kat_kind (T := .type "tuple") (s := { heap := h', gens := s.gens, drawn := s.drawn, toks := s.toks, os := s.os }) k1 (by omega) (fun f hf => ?_) (by decide) q
    rcases k3 f hf with ⟨z, _⟩ | ⟨_, b, o, rfl, e, c⟩
    · cases z
    · exact fun A Q E s k q => wpAny_typeOf_ref (k b o e) (by rw [c]; exact q)
theorem sorted_dataO {E : Value → Shared → Prop} {l : Addr} {Q : Value → Shared → Prop} (hl : s.heap.IsList l vs.toArray) (hz : vs.length ≤ sizeLine) (hp : ∀ v ∈ vs, ∃ as, Reads s.heap v (k v) as ∧ fstK fi (k v) ∧ tyT (k v) = true)
    (ha : ∀ u ∈ vs, ∀ v ∈ vs, PySem.W.alike (k u) (k v) = true) (hu : ∀ v ∈ vs, A.in1.in1.units + (k v).depth < cLine)
    (h : ∀ (h' : Heap) (d : Addr) (out : List Value), SrtO.Srtd (ltK k) out → SrtO.Stb (ltK k) out vs → (∀ (b : Addr) (o : Obj), s.heap.get? b = some o → h'.get? b = some o) → s.heap.objs.size ≤ d → (∃ n, h'.get? d = some (seqObj "list" out.toArray n)) →
      Q (Value.ref d) { heap := h', gens := s.gens, drawn := s.drawn, toks := s.toks, os := s.os }) : wpAny (model prog w) A (call (Value.builtin "sorted") [Value.ref l]) Q E s := by
  refine SrtO.sorted_ord (swo_d k) hl hz (fun h2 h₁ a ha' kk => ?_) fun out hs hb => h (sortedAll s.heap vs out.toArray) (s.heap.objs.size + 1) out hs hb (fun b o e => sortedAll_old e) (Nat.le_succ _) (sortedAll_at s.heap vs out.toArray)
  refine data_sortable (fi := fi) (s := { heap := h₁, gens := s.gens, drawn := s.drawn, toks := s.toks, os := s.os }) (by omega) (fun v hv => ?_) ha hu fun o e c => ?_
  · obtain ⟨as, r, f, t⟩ := hp v hv
    exact ⟨as, reads_mono (fun b o e _ => (kk b o e).2) r t, f, t⟩
  · have e : h₁.get? a = some o := e
    rw [ha'] at e
    cases e
    have c2 : Value.type "list" = Value.type "tuple" := c
    exact absurd (Value.type.inj c2) (by decide)
end
/-! ### the order in plain lists -/
section
variable {α β : Type} {lt : α → α → Bool}
theorem insS_split (sw : SrtO.Swo lt) (x : α) : ∀ {l : List α}, SrtO.Srtd lt l → ∃ A B, l = A ++ B ∧ insS lt x l = A ++ x :: B ∧ (∀ a ∈ A, lt a x = true) ∧ ∀ b ∈ B, lt b x = false
  | [], _ => ⟨[], [], rfl, rfl, fun _ z => (nomatch z), fun _ z => nomatch z⟩
  | y :: r, h => by
    obtain ⟨h1, h2⟩ := List.pairwise_cons.mp h
    cases e : lt y x with
    | true =>
      obtain ⟨A, B, e1, e2, e3, e4⟩ := insS_split sw x h2
      refine ⟨y :: A, B, by rw [e1]; rfl, by unfold insS; rw [if_pos e, e2]; rfl, fun a ha => ?_, e4⟩
      rcases List.mem_cons.mp ha with rfl | ha
      · exact e
      · exact e3 a ha
    | false =>
      refine ⟨[], y :: r, rfl, by unfold insS; rw [if_neg (by rw [e]; exact Bool.false_ne_true)]; rfl, fun _ z => (nomatch z), fun b hb => ?_⟩
      rcases List.mem_cons.mp hb with rfl | hb
      · exact e
      · exact sw.tr _ _ _ e (h1 b hb)
theorem insS_ok (sw : SrtO.Swo lt) (x : α) {l : List α} (h : SrtO.Srtd lt l) : SrtO.Srtd lt (insS lt x l) ∧ SrtO.Stb lt (insS lt x l) (x :: l) := by
  obtain ⟨A, B, rfl, e2, e3, e4⟩ := insS_split sw x h
  obtain ⟨p1, p2, p3⟩ := List.pairwise_append.mp h
  rw [e2]
  refine ⟨List.pairwise_append.mpr ⟨p1, List.pairwise_cons.mpr ⟨e4, p2⟩, fun a ha b hb => ?_⟩, ?_⟩
  · rcases List.mem_cons.mp hb with rfl | hb
    · exact sw.asym _ _ (e3 a ha)
    · exact p3 a ha b hb
  · have q := (SrtO.Stb.swap sw (A := A) (B := [x]) fun a ha b hb => by
      simp at hb; subst hb; exact e3 a ha).app (SrtO.Stb.refl B)
    simpa using q
theorem sortS_ok (sw : SrtO.Swo lt) : ∀ l : List α, SrtO.Srtd lt (sortS lt l) ∧ SrtO.Stb lt (sortS lt l) l
  | [] => ⟨List.Pairwise.nil, SrtO.Stb.refl []⟩
  | x :: r => by
    obtain ⟨h1, h2⟩ := sortS_ok sw r
    obtain ⟨h3, h4⟩ := insS_ok sw x h1
    exact ⟨h3, h4.trans ((SrtO.Stb.refl [x]).app h2)⟩
theorem insS_mem {x a : α} : ∀ {l : List α}, a ∈ insS lt x l → a = x ∨ a ∈ l
  | [], h => by unfold insS at h; simp at h; exact .inl h
  | y :: r, h => by
    unfold insS at h
    split at h
    · rcases List.mem_cons.mp h with rfl | h
      · exact .inr List.mem_cons_self
      · exact (insS_mem h).imp id (List.mem_cons_of_mem _)
    · exact List.mem_cons.mp h
theorem sortS_mem {a : α} : ∀ {l : List α}, a ∈ sortS lt l → a ∈ l
  | x :: r, h => by
    rcases insS_mem h with rfl | h
    · exact List.mem_cons_self
    · exact List.mem_cons_of_mem _ (sortS_mem h)
theorem insS_map {lt' : β → β → Bool} {f : α → β} {x : α} : ∀ {l : List α}, (∀ a ∈ l, lt' (f a) (f x) = lt a x) → insS lt' (f x) (l.map f) = (insS lt x l).map f
  | [], _ => rfl
  | y :: r, h => by
    show (if lt' (f y) (f x) = true then f y :: insS lt' (f x) (r.map f) else f x :: f y :: r.map f) = (if lt y x = true then y :: insS lt x r else x :: y :: r).map f
    rw [h y List.mem_cons_self, insS_map fun a ha => h a (List.mem_cons_of_mem _ ha)]
    split <;> rfl
theorem sortS_map {lt' : β → β → Bool} {f : α → β} : ∀ {l : List α}, (∀ a ∈ l, ∀ b ∈ l, lt' (f a) (f b) = lt a b) → sortS lt' (l.map f) = (sortS lt l).map f
  | [], _ => rfl
  | x :: r, h => by
    show insS lt' (f x) (sortS lt' (r.map f)) = (insS lt x (sortS lt r)).map f
    rw [sortS_map fun a ha b hb => h a (List.mem_cons_of_mem _ ha) b (List.mem_cons_of_mem _ hb)]
    exact insS_map fun a ha => h a (List.mem_cons_of_mem _ (sortS_mem ha)) x List.mem_cons_self
theorem sortS_len : ∀ l : List α, (sortS lt l).length = l.length
  | [] => rfl
  | x :: r => by
    have h : ∀ l : List α, (insS lt x l).length = l.length + 1 := by
      intro l
      induction l with
      | nil => rfl
      | cons y r ih =>
        unfold insS
        split
        · rw [List.length_cons, ih, List.length_cons]
        · rfl
    show (insS lt x (sortS lt r)).length = _
    rw [h, sortS_len r]
    rfl
end
end PV
/-! # PV3: readings simulate the evaluator -/
namespace PV
open PySem PySem.Spec PyProof.Rows L2

/-- what stays through the whole law -/
structure Wd where
  P : Program
  w : World
  K : PySem.W.Frag
  mg : Str → Option Value
  base : Heap
  xs : List Str
/-- the error that is raised: of its class, with its field -/
def xrOf (xs : List Str) (K : PySem.W.Frag) (mg : Str → Option Value) (F : Addr → Prop) (H : Hp) (c : Str) (as : List D) (cls : Value) (d : Option Addr) : Prop :=
  c ∈ xs ∧ ∃ C : Addr, mg c = some (.ref C) ∧ cls = .ref C ∧ ((fieldOf c = none ∧ as = [] ∧ d = none) ∨ ∃ f y dd v, fieldOf c = some f ∧ as = [y] ∧ d = some dd ∧ H dd = some (.xd [(f, v)]) ∧ Rp K F H v y)
def Wd.xr (Z : Wd) : (Addr → Prop) → Hp → Str → List D → Value → Option Addr → Prop := xrOf Z.xs Z.K Z.mg
/-- the context of a piece of code -/
structure Gd (Z : Wd) (n : Nat) (N : List Str) (sc : Scope) (W : WX) (X : Cx) : Prop where
  prog : X.prog = Z.P
  w : X.w = Z.w
  K : X.K = Z.K
  mg : X.mg = Z.mg
  base : X.base = Z.base
  hN : X.N = N
  nd : N.Nodup
  hsc : X.env.scope = sc
  calm : X.calm = true
  room : Room n X.A
  tk : Takes X W
  own : PassesOwn (model X.prog X.w) X.A X.env X.xe
theorem Gd.hu {Z : Wd} {n : Nat} {N : List Str} {sc : Scope} {W : WX} {X : Cx} (g : Gd Z n N sc W X) : X.A.units + 65 < cLine := by
  have := g.room.un
  omega

variable {Z : Wd} {n : Nat} {N : List Str} {sc : Scope} {W : WX}
def PostX (Z : Wd) (W : WX) (σ : L2.St) (F : Addr → Prop) (H : Hp) (G : Addr → Prop) (c : Str) (as : List D) (s : Sl) : Prop :=
  ∀ F' H' L' cls d, Stp F H G F' H' → Ok Z.K F' H' G σ s L' → Z.xr F' H' c as cls d → W cls d σ H'
def PostE (Z : Wd) (W : WX) (σ : L2.St) (F : Addr → Prop) (H : Hp) (G : Addr → Prop) (Q : VK) : R M → Prop
  | .ok m s => ∀ v F' H' Lm L', Stp F H G F' H' → Rv Z.K F' H' G v m Lm → Ok Z.K F' H' (with_ G Lm) σ s L' → Q v H'
  | .ex c as s => PostX Z W σ F H G c as s
  | .bad => False
def PostA (Z : Wd) (W : WX) (σ : L2.St) (F : Addr → Prop) (H : Hp) (G : Addr → Prop) (Q : List V → Hp → Prop) : R (List D) → Prop
  | .ok ds s => ∀ vs F' H' L', Stp F H G F' H' → Rps Z.K F' H' vs ds → Ok Z.K F' H' G σ s L' → Q vs H'
  | .ex c as s => PostX Z W σ F H G c as s
  | .bad => False
def PostB (Z : Wd) (W : WX) (σ : L2.St) (F : Addr → Prop) (H : Hp) (G : Addr → Prop) (Q : Bool → Hp → Prop) : R Bool → Prop
  | .ok b s => ∀ F' H' L', Stp F H G F' H' → Ok Z.K F' H' G σ s L' → Q b H'
  | .ex c as s => PostX Z W σ F H G c as s
  | .bad => False
def SimE (Z : Wd) (W : WX) (t : TE) (f : Sl → R M) : Prop := ∀ σ H Q F G s L, Ok Z.K F H G σ s L → PostE Z W σ F H G Q (f s) → t σ H Q
def SimA (Z : Wd) (W : WX) (t : TA) (f : Sl → R (List D)) : Prop := ∀ σ H Q F G s L, Ok Z.K F H G σ s L → PostA Z W σ F H G Q (f s) → t σ H Q
def SimB (Z : Wd) (W : WX) (t : TT) (f : Sl → R Bool) : Prop := ∀ σ H Q F G s L, Ok Z.K F H G σ s L → PostB Z W σ F H G Q (f s) → t σ H Q

theorem PostX.trans {σ : L2.St} {F F1 : Addr → Prop} {H H1 : Hp} {G : Addr → Prop} {c : Str} {as : List D} {s : Sl} (h : PostX Z W σ F H G c as s) (st : Stp F H G F1 H1) : PostX Z W σ F1 H1 G c as s :=
  fun F' H' L' cls d st2 o x => h F' H' L' cls d (st.trans st2) o x
theorem PostX.guard {σ : L2.St} {F : Addr → Prop} {H : Hp} {G G2 : Addr → Prop} {c : Str} {as : List D} {s : Sl} (h : PostX Z W σ F H G c as s) (hg : ∀ a, G a → G2 a) : PostX Z W σ F H G2 c as s :=
  fun F' H' L' cls d st o x => h F' H' L' cls d (st.weak hg) (o.weak hg) x

/-! ### weakening -/
theorem PE.imp' {X : Cx} {e : Expr} {t t' : TE} (h : PE X e t) (i : ∀ σ H Q, t' σ H Q → t σ H Q) : PE X e t' := ⟨fun pins s σ H Q I q => h.run pins s σ H Q I (i σ H Q q)⟩
theorem PT.imp' {X : Cx} {e : Expr} {t t' : TT} (h : PT X e t) (i : ∀ σ H Q, t' σ H Q → t σ H Q) : PT X e t' := ⟨fun pins s σ H Q I q => h.run pins s σ H Q I (i σ H Q q)⟩

def fB (f : Sl → R M) : Sl → R Bool := fun s => (f s).bind fun m s => match m with
  | .d (.bl b) => .ok b s
  | _ => .bad
/-- an expression with its value and its truth -/
def SE (Z : Wd) (n : Nat) (N : List Str) (sc : Scope) (W : WX) (e : Expr) (f : Sl → R M) : Prop :=
  (∃ t, (∀ X, Gd Z n N sc W X → PE X e t) ∧ SimE Z W t f) ∧ ∃ t, (∀ X, Gd Z n N sc W X → PT X e t) ∧ SimB Z W t (fB f)
def tAll : List TE → TA
  | [] => tNil
  | t :: ts => tCons t (tAll ts)
inductive PEs (X : Cx) : List Expr → List TE → Prop where
  | nil : PEs X [] []
  | cons {e : Expr} {t : TE} {es : List Expr} {ts : List TE} (h : PE X e t) (r : PEs X es ts) : PEs X (e :: es) (t :: ts)
def SA (Z : Wd) (n : Nat) (N : List Str) (sc : Scope) (W : WX) (es : List Expr) (f : Sl → R (List D)) : Prop :=
  ∃ ts, (∀ X, Gd Z n N sc W X → PEs X es ts) ∧ SimA Z W (tAll ts) f

def noStar : Expr → Bool
  | .Starred _ _ => false
  | _ => true
theorem star_cons {e : Expr} {es : List Expr} {env : Env} (h : noStar e = true) : starEach (e :: es) env = (false, eval e env) :: starEach es env := by
  cases e <;> first | rfl | cases h
theorem star_none {env : Env} {pos : Pos} : ∀ {es : List Expr}, es.all noStar = true → (backTo pos (starEach es env)).any (·.1) = false
  | [], _ => rfl
  | e :: es, h => by
    rw [List.all_cons, Bool.and_eq_true] at h
    rw [star_cons h.1]
    show (false || (backTo pos (starEach es env)).any (·.1)) = false
    rw [star_none h.2]; rfl
theorem PEs.pa {X : Cx} : ∀ {es : List Expr} {ts : List TE}, PEs X es ts → es.all noStar = true → PA X es (tAll ts)
  | _, _, .nil, _ => pa_nil
  | _, _, .cons h r, hs => by
    rw [List.all_cons, Bool.and_eq_true] at hs
    exact pa_cons h (PEs.pa r hs.2) (star_cons hs.1)

/-! ### lists of arguments -/
theorem simA_nil : SimA Z W tNil (fun s => .ok [] s) := fun σ H Q F G s L o h => h [] F H L Stp.refl .nil o
theorem simA_cons {te : TE} {fe : Sl → R M} {t : TA} {fs : Sl → R (List D)} (he : SimE Z W te fe) (hs : SimA Z W t fs) :
    SimA Z W (tCons te t) (fun s => (fe s).bind fun m s => (fs s).bind fun ds s => .ok (frz m :: ds) s) := by
  intro σ H Q F G s L o h
  refine he σ H _ F G s L o ?_
  dsimp only at h
  cases e1 : fe s with
  | bad => rw [e1] at h; exact h
  | ex c as s1 => rw [e1] at h; exact h
  | ok m s1 =>
    rw [e1] at h
    intro v F1 H1 Lm L1 st rv ok1
    obtain ⟨st2, rp, ok2⟩ := rv.freeze ok1
    have st3 := st.trans st2
    refine hs σ H1 _ _ G s1 L1 ok2 ?_
    have h : PostA Z W σ F H G Q ((fs s1).bind fun ds s => .ok (frz m :: ds) s) := h
    cases e2 : fs s1 with
    | bad => rw [e2] at h; exact h
    | ex c as s2 => rw [e2] at h; exact PostX.trans h st3
    | ok ds s2 =>
      rw [e2] at h
      intro vs F2 H2 L2 st4 rps ok3
      exact h (v :: vs) F2 H2 L2 (st3.trans st4) (.cons (rp.stp st4) rps) ok3
theorem SA.nil : SA Z n N sc W [] (fun s => .ok [] s) := ⟨[], fun _ _ => .nil, simA_nil⟩
theorem SA.cons {e : Expr} {es : List Expr} {fe : Sl → R M} {fs : Sl → R (List D)} (he : SE Z n N sc W e fe) (hs : SA Z n N sc W es fs) :
    SA Z n N sc W (e :: es) (fun s => (fe s).bind fun m s => (fs s).bind fun ds s => .ok (frz m :: ds) s) := by
  obtain ⟨⟨t, h1, h2⟩, _⟩ := he
  obtain ⟨ts, h3, h4⟩ := hs
  exact ⟨t :: ts, fun X g => .cons (h1 X g) (h3 X g), simA_cons h2 h4⟩

/-! ### truth -/
theorem simB_of {t : TE} {f : Sl → R M} (h : SimE Z W t f) : SimB Z W (tB t) (fB f) := by
  intro σ H Q F G s L o p
  refine h σ H _ F G s L o ?_
  unfold fB at p
  cases e : f s with
  | bad => rw [e] at p; exact p
  | ex c as s1 => rw [e] at p; exact p
  | ok m s1 =>
    rw [e] at p
    intro v F1 H1 Lm L1 st rv ok1
    cases m with
    | lst l => exact p.elim
    | tup l => exact p.elim
    | d x =>
      cases x with
      | bl b =>
        cases rv.rep with
        | d r =>
          cases r
          exact ⟨b, rfl, p F1 H1 L1 st (ok1.weak fun _ h => .inl h)⟩
      | _ => exact p.elim
/-- an expression that is not a test of its own form: its truth by its value -/
def plainT : Expr → Bool
  | .UnaryOp .Not _ _ => false
  | .BoolOp _ _ _ => false
  | .IfExp _ _ _ _ => false
  | .Compare _ _ _ _ => false
  | _ => true
theorem plainT_ok {e : Expr} {env : Env} (h : plainT e = true) : ∀ whole, isTrue e env whole = (do let v ← whole; standAt e.pos; holding [v] (truthy v)) := by
  intro whole
  cases e with
  | UnaryOp op x p => cases op <;> first | rfl | cases h
  | BoolOp => cases h
  | IfExp => cases h
  | Compare => cases h
  | _ => rfl
theorem pt_plain {X : Cx} {e : Expr} {t : TE} (h : PE X e t) (p : plainT e = true) : PT X e (tB t) := pt_val h (plainT_ok p)

theorem SE.plain {e : Expr} {f : Sl → R M} {t : TE} (h : ∀ X, Gd Z n N sc W X → PE X e t) (p : plainT e = true) (hs : SimE Z W t f) : SE Z n N sc W e f :=
  ⟨⟨t, h, hs⟩, ⟨tB t, fun X g => pt_plain (h X g) p, simB_of hs⟩⟩
/-! ### constants, names -/
theorem SE.konst {e : Expr} {d : D} {v : V} (h : ∀ X, Gd Z n N sc W X → PE X e (tC v)) (p : plainT e = true) (r : ∀ K F H, Rp K F H v d) : SE Z n N sc W e (fun s => .ok (.d d) s) :=
  .plain h p (fun σ H Q F G s L o q => q v F H [] L Stp.refl ⟨.d (r _ _ _), List.nodup_nil, fun _ z => nomatch z⟩ (o.weak fun _ z => z.elim id fun z => nomatch z))
def visB (sc : Scope) (x : Str) : Bool := match sc.names.lookup x with
  | some .local => true
  | some .cell => true
  | some .free => true
  | _ => false
theorem vis_of {x : Str} (h : visB sc x = true) : Vis sc x := by
  unfold visB at h
  split at h <;> first | exact .inl (by assumption) | exact .inr (.inl (by assumption)) | exact .inr (.inr (by assumption)) | cases h
def locB (sc : Scope) (x : Str) : Bool := match sc.names.lookup x with
  | some .local => true
  | some .cell => true
  | _ => false
theorem loc_of {x : Str} (h : locB sc x = true) : L2.Loc sc x := by
  unfold locB at h
  split at h <;> first | exact .inl (by assumption) | exact .inr (by assumption) | cases h
def dbgB (x : Str) : Bool := !(x == ("__debug__" : Str)) && !(x == ("__classdict__" : Str))
def nameAt (N : List Str) (sc : Scope) (i : Nat) : Expr → Bool
  | .Name x _ => decide (N[i]? = some x) && visB sc x && dbgB x
  | _ => false
theorem plain_nameAt {i : Nat} {e : Expr} (h : nameAt N sc i e = true) : plainT e = true := by
  cases e <;> first | rfl | cases h
theorem pe_nameAt {X : Cx} {i : Nat} {e : Expr} (g : Gd Z n N sc W X) (h : nameAt N sc i e = true) : PE X e (tVar i) := by
  cases e with
  | Name x p =>
    simp only [nameAt, Bool.and_eq_true, decide_eq_true_eq, dbgB, Bool.not_eq_true'] at h
    obtain ⟨⟨h1, h2⟩, h3, h4⟩ := h
    exact pe_var (by rw [g.hN]; exact h1) (by rw [g.hsc]; exact vis_of h2) h3 h4
  | _ => cases h
theorem simE_rd {i : Nat} : SimE Z W (tVar i) (fun s => match s[i]? with
    | some (some (.d x)) => .ok (.d x) s
    | some (some m) => .ok (.d (frz m)) (s.set i (some (.d (frz m))))
    | _ => .bad) := by
  intro σ H Q F G s L o p
  dsimp only at p
  have hi : ∀ m, s[i]? = some (some m) → i < s.length := fun m e => (List.getElem?_eq_some_iff.mp e).1
  have own : ∀ m, s[i]? = some (some m) → PostE Z W σ F H G Q (.ok (.d (frz m)) (s.set i (some (.d (frz m))))) → tVar i σ H Q := by
    intro m e p
    obtain ⟨v, Li, L', h1, rv, ok1⟩ := o.take e
    obtain ⟨st, rp, ok2⟩ := rv.freeze ok1
    obtain ⟨L2, h3, hp⟩ := ok2.rep.put (m := .d (frz m)) (v := v) (Li := []) (by rw [List.getElem?_set_self (hi m e)]) (.d rp)
    rw [List.set_set] at h3
    have e4 : σ.set i (some v) = σ := by
      apply List.ext_getElem?
      intro j
      by_cases hj : i = j
      · subst hj
        rw [List.getElem?_set_self (List.getElem?_eq_some_iff.mp h1).1, h1]
      · rw [List.getElem?_set_ne hj]
    rw [e4] at h3
    have hp' : L2.Perm L' := by simpa using hp
    refine ⟨v, h1, p v _ H [] L2 st ⟨.d rp, List.nodup_nil, fun _ z => nomatch z⟩ ⟨ok2.wf, h3, hp'.nodup_iff.mpr ok2.nd, fun a ha => ?_⟩⟩
    have ha' : G a := ha.elim id fun z => nomatch z
    exact ⟨(ok2.gd a ha').1, (ok2.gd a ha').2.1, fun z => (ok2.gd a ha').2.2 (hp'.mem_iff.mp z)⟩
  split at p
  · rename_i x e
    obtain ⟨v, h1, h2⟩ := o.read e
    exact ⟨v, h1, p v F H [] L Stp.refl ⟨.d h2, List.nodup_nil, fun _ z => nomatch z⟩ (o.weak fun _ z => z.elim id fun z => nomatch z)⟩
  · rename_i m _ e
    exact own m e p
  · exact p.elim
theorem SE.rd {i : Nat} {e : Expr} (h : nameAt N sc i e = true) : SE Z n N sc W e (fun s => match s[i]? with
    | some (some (.d x)) => .ok (.d x) s
    | some (some m) => .ok (.d (frz m)) (s.set i (some (.d (frz m))))
    | _ => .bad) := .plain (fun X g => pe_nameAt g h) (plain_nameAt h) simE_rd
theorem SE.mv {i : Nat} {e : Expr} (h : nameAt N sc i e = true) : SE Z n N sc W e (fun s => match s[i]? with
    | some (some (.d x)) => .ok (.d x) s
    | some (some m) => .ok m (s.set i none)
    | _ => .bad) := by
  refine .plain (fun X g => pe_nameAt g h) (plain_nameAt h) ?_
  intro σ H Q F G s L o p
  dsimp only at p
  split at p
  · rename_i x e
    obtain ⟨v, h1, h2⟩ := o.read e
    exact ⟨v, h1, p v F H [] L Stp.refl ⟨.d h2, List.nodup_nil, fun _ z => nomatch z⟩ (o.weak fun _ z => z.elim id fun z => nomatch z)⟩
  · rename_i m _ e
    obtain ⟨v, Li, L', h1, rv, ok1⟩ := o.take e
    exact ⟨v, h1, p v F H Li L' Stp.refl rv ok1⟩
  · exact p.elim
end PV
/-! # PV4: expressions but operators: and, or, not, if, displays, slots by place -/
namespace PV
open PySem PySem.Spec PyProof.Rows L2
variable {Z : Wd} {n : Nat} {N : List Str} {sc : Scope} {W : WX}

theorem PostE.trans {σ : L2.St} {F F1 : Addr → Prop} {H H1 : Hp} {G : Addr → Prop} {Q : VK} {r : R M} (h : PostE Z W σ F H G Q r) (st : Stp F H G F1 H1) : PostE Z W σ F1 H1 G Q r := by
  cases r with
  | bad => exact h
  | ex c as s => exact PostX.trans h st
  | ok m s => exact fun v F' H' Lm L' st2 rv o => h v F' H' Lm L' (st.trans st2) rv o
theorem PostB.trans {σ : L2.St} {F F1 : Addr → Prop} {H H1 : Hp} {G : Addr → Prop} {Q : Bool → Hp → Prop} {r : R Bool} (h : PostB Z W σ F H G Q r) (st : Stp F H G F1 H1) : PostB Z W σ F1 H1 G Q r := by
  cases r with
  | bad => exact h
  | ex c as s => exact PostX.trans h st
  | ok m s => exact fun F' H' L' st2 o => h F' H' L' (st.trans st2) o
theorem Rv.of_d {K : PySem.W.Frag} {F : Addr → Prop} {H : Hp} {G : Addr → Prop} {v : V} {x : D} {L : List Addr} (r : Rv K F H G v (.d x) L) : Rp K F H v x ∧ L = [] := by
  obtain ⟨r, _, _⟩ := r
  cases r with
  | d r => exact ⟨r, rfl⟩
theorem Rv.d {K : PySem.W.Frag} {F : Addr → Prop} {H : Hp} {G : Addr → Prop} {v : V} {x : D} (r : Rp K F H v x) : Rv K F H G v (.d x) [] := ⟨.d r, List.nodup_nil, fun _ z => nomatch z⟩
theorem Ok.nil {K : PySem.W.Frag} {F : Addr → Prop} {H : Hp} {G : Addr → Prop} {σ : L2.St} {s : Sl} {L : List Addr} (o : Ok K F H G σ s L) : Ok K F H (with_ G []) σ s L := o.weak fun _ z => z.elim id fun z => nomatch z
theorem Ok.base {K : PySem.W.Frag} {F : Addr → Prop} {H : Hp} {G : Addr → Prop} {σ : L2.St} {s : Sl} {L Lm : List Addr} (o : Ok K F H (with_ G Lm) σ s L) : Ok K F H G σ s L := o.weak fun _ z => .inl z

/-- the value is a flag, then one goes on -/
theorem simE_flag {t t2 : TE} {f : Sl → R M} {k : Bool → Sl → R M} {kt : Bool → TE} (h : SimE Z W t f) (hk : ∀ b, SimE Z W (kt b) (k b)) (i : ∀ σ H Q, t σ H (fun x H1 => ∃ c, x = .bl c ∧ kt c σ H1 Q) → t2 σ H Q) :
    SimE Z W t2 (fun s => (f s).bind fun m s => match m with | .d (.bl b) => k b s | _ => .bad) := by
  intro σ H Q F G s L o p
  refine i σ H Q (h σ H _ F G s L o ?_)
  dsimp only at p
  cases e : f s with
  | bad => rw [e] at p; exact p
  | ex c as s1 => rw [e] at p; exact p
  | ok m s1 =>
    rw [e] at p
    intro v F1 H1 Lm L1 st rv ok1
    cases m with
    | lst l => exact p.elim
    | tup l => exact p.elim
    | d x =>
      cases x with
      | bl b =>
        obtain ⟨r, rfl⟩ := rv.of_d
        cases r
        have p : PostE Z W σ F H G Q (k b s1) := p
        exact ⟨b, rfl, hk b σ H1 Q F1 G s1 L1 ok1.base (p.trans st)⟩
      | _ => exact p.elim
theorem simE_bl (b : Bool) : SimE Z W (tC (.bl b)) (fun s => .ok (.d (.bl b)) s) := fun σ H Q F G s L o q => q _ F H [] L Stp.refl (.d (.bl b)) o.nil
/-- the test is a flag, then one goes on -/
theorem simB_flag {t t2 : TT} {f : Sl → R Bool} {k : Bool → Sl → R Bool} {kt : Bool → TT} (h : SimB Z W t f) (hk : ∀ b, SimB Z W (kt b) (k b)) (i : ∀ σ H Q, t σ H (fun c H1 => kt c σ H1 Q) → t2 σ H Q) :
    SimB Z W t2 (fun s => (f s).bind fun b s => k b s) := by
  intro σ H Q F G s L o p
  refine i σ H Q (h σ H _ F G s L o ?_)
  dsimp only at p
  cases e : f s with
  | bad => rw [e] at p; exact p
  | ex c as s1 => rw [e] at p; exact p
  | ok b s1 =>
    rw [e] at p
    intro F1 H1 L1 st ok1
    have p : PostB Z W σ F H G Q (k b s1) := p
    exact hk b σ H1 Q F1 G s1 L1 ok1 (p.trans st)
theorem simB_yes (b : Bool) : SimB Z W (fun _ H Q => Q b H) (fun s => .ok b s) := fun σ H Q F G s L o q => q F H L Stp.refl o
theorem SimB.congr {t : TT} {f g : Sl → R Bool} (h : SimB Z W t f) (e : ∀ s, g s = f s) : SimB Z W t g := by
  have : g = f := funext e
  rw [this]; exact h
/-- a test is a flag, then an expression -/
theorem simTE_flag {t : TT} {t2 : TE} {f : Sl → R M} {k : Bool → Sl → R M} {kt : Bool → TE} (h : SimB Z W t (fB f)) (hk : ∀ b, SimE Z W (kt b) (k b)) (i : ∀ σ H Q, t σ H (fun c H1 => kt c σ H1 Q) → t2 σ H Q) :
    SimE Z W t2 (fun s => (f s).bind fun m s => match m with | .d (.bl b) => k b s | _ => .bad) := by
  intro σ H Q F G s L o p
  refine i σ H Q (h σ H _ F G s L o ?_)
  dsimp only at p
  unfold fB
  cases e : f s with
  | bad => rw [e] at p; exact p
  | ex c as s1 => rw [e] at p; exact p
  | ok m s1 =>
    rw [e] at p
    cases m with
    | lst l => exact p.elim
    | tup l => exact p.elim
    | d x =>
      cases x with
      | bl b =>
        intro F1 H1 L1 st ok1
        have p : PostE Z W σ F H G Q (k b s1) := p
        exact hk b σ H1 Q F1 G s1 L1 ok1 (p.trans st)
      | _ => exact p.elim
theorem fB_bind {f : Sl → R M} {k : Bool → Sl → R M} (s : Sl) : fB (fun s => (f s).bind fun m s => match m with | .d (.bl b) => k b s | _ => .bad) s = (fB f s).bind fun b s => fB (k b) s := by
  unfold fB
  dsimp only
  cases e : f s with
  | bad => rfl
  | ex c as s1 => rfl
  | ok m s1 =>
    cases m with
    | lst l => rfl
    | tup l => rfl
    | d x => cases x <;> rfl
theorem SE.not {e : Expr} {f : Sl → R M} {pos : Pos} (h : SE Z n N sc W e f) :
    SE Z n N sc W (.UnaryOp .Not e pos) (fun s => (f s).bind fun m s => match m with | .d (.bl b) => .ok (.d (.bl (!b))) s | _ => .bad) := by
  obtain ⟨⟨t, h1, h2⟩, ⟨tt, h3, h4⟩⟩ := h
  refine ⟨⟨tNotV t, fun X g => pe_not (h1 X g), simE_flag (kt := fun c => tC (.bl (!c))) h2 (fun b => simE_bl _) fun _ _ _ q => q⟩,
    ⟨tNot tt, fun X g => pt_not (h3 X g), ?_⟩⟩
  exact SimB.congr (simB_flag (t2 := tNot tt) (kt := fun c => fun _ H Q => Q (!c) H) h4 (fun b => simB_yes (!b)) fun _ _ _ q => q) fun s => fB_bind s
/-! ### and, or -/
def SBo (Z : Wd) (n : Nat) (N : List Str) (sc : Scope) (W : WX) (op : BoolOp) (es : List Expr) (pos : Pos) (f : Sl → R M) : Prop :=
  (∃ t, (∀ X, Gd Z n N sc W X → PE X (.BoolOp op es pos) t) ∧ SimE Z W t f) ∧ ∃ t, (∀ X, Gd Z n N sc W X → PW X (.BoolOp op es pos) t) ∧ SimB Z W t (fB f)
theorem SBo.se {op : BoolOp} {es : List Expr} {pos : Pos} {f : Sl → R M} (h : SBo Z n N sc W op es pos f) : SE Z n N sc W (.BoolOp op es pos) f := ⟨h.1, let ⟨t, h1, h2⟩ := h.2; ⟨t, fun X g => (h1 X g).pt, h2⟩⟩
theorem SBo.one {op : BoolOp} {e : Expr} {pos : Pos} {f : Sl → R M} (h : SE Z n N sc W e f) : SBo Z n N sc W op [e] pos f := by
  obtain ⟨⟨t, h1, h2⟩, ⟨tt, h3, h4⟩⟩ := h
  refine ⟨⟨t, fun X g => pe_one (h1 X g), h2⟩, ⟨tt, fun X g => ?_, h4⟩⟩
  cases op
  · exact pw_and1 (h3 X g)
  · exact pw_or1 (h3 X g)
theorem SBo.and {a b : Expr} {es : List Expr} {pos : Pos} {f k : Sl → R M} (h : SE Z n N sc W a f) (hr : SBo Z n N sc W .And (b :: es) pos k) :
    SBo Z n N sc W .And (a :: b :: es) pos (fun s => (f s).bind fun m s => match m with | .d (.bl c) => if c = true then k s else .ok (.d (.bl c)) s | _ => .bad) := by
  obtain ⟨⟨t, h1, h2⟩, ⟨tt, h3, h4⟩⟩ := h
  obtain ⟨⟨u, r1, r2⟩, ⟨uu, r3, r4⟩⟩ := hr
  have kk : ∀ c : Bool, SimE Z W (fun σ H Q => if c = true then u σ H Q else Q (.bl false) H) (fun s => if c = true then k s else .ok (.d (.bl c)) s) := by
    intro c
    cases c with
    | true => exact r2
    | false => exact simE_bl false
  have kb : ∀ c : Bool, SimB Z W (fun σ H Q => if c = true then uu σ H Q else Q false H) (fB fun s => if c = true then k s else .ok (.d (.bl c)) s) := by
    intro c
    cases c with
    | true => exact r4
    | false => exact simB_yes false
  exact ⟨⟨tAndV t u, fun X g => pe_and (h1 X g) (r1 X g), simE_flag (k := fun c s => if c = true then k s else .ok (.d (.bl c)) s) h2 kk fun _ _ _ q => q⟩,
    ⟨tAnd tt uu, fun X g => pw_and (h3 X g) (r3 X g), SimB.congr (simB_flag (t2 := tAnd tt uu) (k := fun c => fB fun s => if c = true then k s else .ok (.d (.bl c)) s) h4 kb fun _ _ _ q => q) fun s => fB_bind (k := fun c s => if c = true then k s else .ok (.d (.bl c)) s) s⟩⟩
theorem SBo.or {a b : Expr} {es : List Expr} {pos : Pos} {f k : Sl → R M} (h : SE Z n N sc W a f) (hr : SBo Z n N sc W .Or (b :: es) pos k) :
    SBo Z n N sc W .Or (a :: b :: es) pos (fun s => (f s).bind fun m s => match m with | .d (.bl c) => if c = false then k s else .ok (.d (.bl c)) s | _ => .bad) := by
  obtain ⟨⟨t, h1, h2⟩, ⟨tt, h3, h4⟩⟩ := h
  obtain ⟨⟨u, r1, r2⟩, ⟨uu, r3, r4⟩⟩ := hr
  have kk : ∀ c : Bool, SimE Z W (fun σ H Q => if c = true then Q (.bl true) H else u σ H Q) (fun s => if c = false then k s else .ok (.d (.bl c)) s) := by
    intro c
    cases c with
    | false => exact r2
    | true => exact simE_bl true
  have kb : ∀ c : Bool, SimB Z W (fun σ H Q => if c = true then Q true H else uu σ H Q) (fB fun s => if c = false then k s else .ok (.d (.bl c)) s) := by
    intro c
    cases c with
    | false => exact r4
    | true => exact simB_yes true
  exact ⟨⟨tOrV t u, fun X g => pe_or (h1 X g) (r1 X g), simE_flag (k := fun c s => if c = false then k s else .ok (.d (.bl c)) s) h2 kk fun _ _ _ q => q⟩,
    ⟨tOr tt uu, fun X g => pw_or (h3 X g) (r3 X g), SimB.congr (simB_flag (t2 := tOr tt uu) (k := fun c => fB fun s => if c = false then k s else .ok (.d (.bl c)) s) h4 kb fun _ _ _ q => q) fun s => fB_bind (k := fun c s => if c = false then k s else .ok (.d (.bl c)) s) s⟩⟩
/-! ### a if c else b -/
theorem pt_ifExp {X : Cx} {c a b : Expr} {tc ta tb : TT} {pos : Pos} (hc : PT X c tc) (ha : PT X a ta) (hb : PT X b tb) : PT X (.IfExp c a b pos) (fun σ H Q => tc σ H fun k H1 => if k = true then ta σ H1 Q else tb σ H1 Q) := by
  refine ⟨fun pins s σ H Q I h => ?_⟩
  show wpAny _ _ (do if ← isTrue c X.env (eval c X.env) then isTrue a X.env (eval a X.env) else isTrue b X.env (eval b X.env)) _ _ _
  refine wpAny_bind (thn (hc.run pins s σ H _ I h) fun k s1 ⟨H1, I1, q1⟩ => ?_)
  cases k with
  | true => exact ha.run pins s1 σ H1 Q I1 (by simpa using q1)
  | false => exact hb.run pins s1 σ H1 Q I1 (by simpa using q1)
theorem SE.ite {c a b : Expr} {fc fa fb : Sl → R M} {pos : Pos} (hc : SE Z n N sc W c fc) (ha : SE Z n N sc W a fa) (hb : SE Z n N sc W b fb) :
    SE Z n N sc W (.IfExp c a b pos) (fun s => (fc s).bind fun m s => match m with | .d (.bl true) => fa s | .d (.bl false) => fb s | _ => .bad) := by
  obtain ⟨_, ⟨tt, h3, h4⟩⟩ := hc
  obtain ⟨⟨t1, a1, a2⟩, ⟨t2, a3, a4⟩⟩ := ha
  obtain ⟨⟨u1, b1, b2⟩, ⟨u2, b3, b4⟩⟩ := hb
  have e0 : ∀ s, ((fc s).bind fun m s => match m with | .d (.bl true) => fa s | .d (.bl false) => fb s | _ => .bad) = ((fc s).bind fun m s => match m with | .d (.bl k) => (if k = true then fa s else fb s) | _ => .bad) := by
    intro s
    cases e : fc s with
    | bad => rfl
    | ex c as s1 => rfl
    | ok m s1 =>
      cases m with
      | lst l => rfl
      | tup l => rfl
      | d x => cases x with
        | bl k => cases k <;> rfl
        | _ => rfl
  rw [show (fun s => ((fc s).bind fun m s => match m with | .d (.bl true) => fa s | .d (.bl false) => fb s | _ => .bad)) = _ from funext e0]
  have kk : ∀ k : Bool, SimE Z W (fun σ H Q => if k = true then t1 σ H Q else u1 σ H Q) (fun s => if k = true then fa s else fb s) := by
    intro k
    cases k with
    | true => exact a2
    | false => exact b2
  have kb : ∀ k : Bool, SimB Z W (fun σ H Q => if k = true then t2 σ H Q else u2 σ H Q) (fB fun s => if k = true then fa s else fb s) := by
    intro k
    cases k with
    | true => exact a4
    | false => exact b4
  exact ⟨⟨tIf tt t1 u1, fun X g => pe_ifExp (h3 X g) (a1 X g) (b1 X g), simTE_flag (k := fun k s => if k = true then fa s else fb s) h4 kk fun _ _ _ q => q⟩,
    ⟨_, fun X g => pt_ifExp (h3 X g) (a3 X g) (b3 X g), SimB.congr (simB_flag (k := fun k => fB fun s => if k = true then fa s else fb s) h4 kb fun _ _ _ q => q) fun s => fB_bind (k := fun k s => if k = true then fa s else fb s) s⟩⟩
end PV
/-! # PV5: operators by values -/
namespace PV
open PySem PySem.Spec PyProof.Rows L2
variable {Z : Wd} {n : Nat} {N : List Str} {sc : Scope} {W : WX}

abbrev Pst (K : PySem.W.Frag) (F : Addr → Prop) (H : Hp) (G : Addr → Prop) (m : M) (Q : VK) : Prop :=
  ∀ v F' H' Lm, Stp F H G F' H' → (∀ a, F' a → H' a ≠ none) → Rv K F' H' G v m Lm → Q v H'
def OpK (Z : Wd) (o : Op) (rr : List V → Hp → VK → Prop) : Prop :=
  ∀ F H G vs ds m Q, (∀ a, F a → H a ≠ none) → (∀ a, G a → H a ≠ none ∧ ¬ F a) → Rps Z.K F H vs ds → prim o ds = some m → Pst Z.K F H G m Q → rr vs H Q
theorem simE_op {t : TA} {f : Sl → R (List D)} {o : Op} {rr : List V → Hp → VK → Prop} (h : SimA Z W t f) (k : OpK Z o rr) :
    SimE Z W (fun σ H Q => t σ H fun vs H' => rr vs H' Q) (fun s => (f s).bind fun ds s => match prim o ds with | some m => .ok m s | none => .bad) := by
  intro σ H Q F G s L ok p
  refine h σ H _ F G s L ok ?_
  dsimp only at p
  cases e : f s with
  | bad => rw [e] at p; exact p
  | ex c as s1 => rw [e] at p; exact p
  | ok ds s1 =>
    rw [e] at p
    intro vs F1 H1 L1 st rps ok1
    have p : PostE Z W σ F H G Q (match prim o ds with | some m => .ok m s1 | none => .bad) := p
    cases e2 : prim o ds with
    | none => rw [e2] at p; exact p.elim
    | some m =>
      rw [e2] at p
      refine k F1 H1 (with_ G L1) vs ds m Q ok1.wf ok1.all rps e2 fun v F2 H2 Lm st2 wf rv => ?_
      have ok2 := ok1.step st2 wf
      have nf := rv.rep.notF
      refine p v F2 H2 Lm L1 (st.trans (st2.weak fun _ z => .inl z)) ⟨rv.rep, rv.nd, fun a ha z => rv.gd a ha (.inl z)⟩ ⟨wf, ok2.rep, ok2.nd, fun a ha => ?_⟩
      rcases ha with z | z
      · exact ok2.gd a z
      · exact ⟨(nf a z).2, (nf a z).1, fun q => rv.gd a z (.inr q)⟩

section
variable {K : PySem.W.Frag} {F : Addr → Prop} {H : Hp} {G : Addr → Prop} {Q : VK} {vs : List V} {ds : List D} {v : V} {x : D}
theorem pst_d (wf : ∀ a, F a → H a ≠ none) (q : Pst K F H G (.d x) Q) (r : Rp K F H v x) : Q v H := q v F H [] Stp.refl wf (.d r)
theorem wf_upd {p : Addr} {o : HO} (wf : ∀ a, F a → H a ≠ none) : ∀ a, F a → upd H p o a ≠ none := fun a h => by
  by_cases e : a = p
  · rw [e, upd_same]; exact fun z => nomatch z
  · rw [upd_ne e]; exact wf a h
theorem pst_T (wf : ∀ a, F a → H a ≠ none) (hg : ∀ a, G a → H a ≠ none ∧ ¬ F a) (q : Pst K F H G (.d (.tup ds)) Q) (r : Rps K F H vs ds) (z : vs.length ≤ sizeLine) :
    ∀ p, H p = none → Q (.ref p) (upd H p (.tup vs)) := fun p hp => by
  have st : Stp F H G F (upd H p (.tup vs)) := Stp.new wf (fun a h => (hg a h).1) hp
  exact q _ F _ [] st (wf_upd wf) (.d (.tup upd_same z (r.stp st)))
theorem pst_L (wf : ∀ a, F a → H a ≠ none) (hg : ∀ a, G a → H a ≠ none ∧ ¬ F a) (q : Pst K F H G (.lst (ds.map .d)) Q) (r : Rps K F H vs ds) (z : vs.length ≤ sizeLine) :
    ∀ p, H p = none → Q (.ref p) (upd H p (.lst vs)) := fun p hp => by
  have st : Stp F H G F (upd H p (.lst vs)) := Stp.new wf (fun a h => (hg a h).1) hp
  refine q _ F _ [p] st (wf_upd wf) ⟨.lst (fun z => wf p z hp) upd_same z (Rms.ofD (r.stp st)), List.nodup_cons.mpr ⟨(fun z => nomatch z), List.nodup_nil⟩, fun a ha z => ?_⟩
  have e : a = p := by simpa using ha
  exact (hg a z).1 (e ▸ hp)
theorem rp_int {i : Int} (r : Rp K F H v (.int i)) : v = .int i := by cases r; rfl
theorem rp_bl {i : Bool} (r : Rp K F H v (.bl i)) : v = .bl i := by cases r; rfl
theorem rp_str {i : Str} (r : Rp K F H v (.str i)) : v = .str i := by cases r; rfl
theorem rp_tup (r : Rp K F H v (.tup ds)) : ∃ a vs, v = .ref a ∧ H a = some (.tup vs) ∧ vs.length ≤ sizeLine ∧ Rps K F H vs ds := by
  cases r with
  | tup h z r => exact ⟨_, _, rfl, h, z, r⟩
theorem rp_lst (r : Rp K F H v (.lst ds)) : ∃ a vs, v = .ref a ∧ H a = some (.lst vs) ∧ vs.length ≤ sizeLine ∧ Rps K F H vs ds := by
  cases r with
  | lst _ h z r => exact ⟨_, _, rfl, h, z, r⟩
theorem rps1 {d : D} (r : Rps K F H vs [d]) : ∃ v, vs = [v] ∧ Rp K F H v d := by
  cases r with
  | cons h r => cases r; exact ⟨_, rfl, h⟩
theorem rps2 {d e : D} (r : Rps K F H vs [d, e]) : ∃ v u, vs = [v, u] ∧ Rp K F H v d ∧ Rp K F H u e := by
  cases r with
  | cons h r =>
    obtain ⟨u, rfl, h2⟩ := rps1 r
    exact ⟨_, _, rfl, h, h2⟩
theorem rps3 {d e f : D} (r : Rps K F H vs [d, e, f]) : ∃ v u w, vs = [v, u, w] ∧ Rp K F H v d ∧ Rp K F H u e ∧ Rp K F H w f := by
  cases r with
  | cons h r =>
    obtain ⟨u, w, rfl, h2, h3⟩ := rps2 r
    exact ⟨_, _, _, rfl, h, h2, h3⟩
theorem sqT {a : Addr} (h : H a = some (.tup vs)) : SqT K H a vs := .inl (.inl h)
theorem sqL {a : Addr} (h : H a = some (.lst vs)) : SqL K H a vs := .inl (.inl h)
end

def r1 (r : V → Hp → VK → Prop) : List V → Hp → VK → Prop := fun vs H Q => match vs with
  | [x] => r x H Q
  | _ => False
def r2 (r : R2) : List V → Hp → VK → Prop := fun vs H Q => match vs with
  | [x, y] => r x y H Q
  | _ => False
abbrev orR (r r' : R2) : R2 := fun x y H Q => r x y H Q ∨ r' x y H Q

/-! ### arithmetic -/
theorem two_of {α : Type} {p : List D → Option α} {ds : List D} {m : α} (h : p ds = some m) (hp : ∀ l : List D, l.length ≠ 2 → p l = none) : ∃ x y, ds = [x, y] := by
  match ds, h with
  | [x, y], _ => exact ⟨x, y, rfl⟩
  | [], h => rw [hp [] (by decide)] at h; cases h
  | [x], h => rw [hp [x] (by simp)] at h; cases h
  | x :: y :: z :: r, h => rw [hp _ (by simp)] at h; cases h
theorem len_rep {l : List D} {k : Nat} : ((List.replicate k l).flatten).length = k * l.length := by
  induction k with
  | zero => simp
  | succ k ih => rw [List.replicate_succ, List.flatten_cons, List.length_append, ih, Nat.succ_mul]; omega
theorem rps_rep {K : PySem.W.Frag} {F : Addr → Prop} {H : Hp} {vs : List V} {ds : List D} (r : Rps K F H vs ds) : ∀ k : Nat, Rps K F H (List.replicate k vs).flatten (List.replicate k ds).flatten
  | 0 => .nil
  | k + 1 => by rw [List.replicate_succ, List.replicate_succ, List.flatten_cons, List.flatten_cons]; exact r.append (rps_rep r k)
theorem vlen_rep {l : List V} {k : Nat} : ((List.replicate k l).flatten).length = k * l.length := by
  induction k with
  | zero => simp
  | succ k ih => rw [List.replicate_succ, List.flatten_cons, List.length_append, ih, Nat.succ_mul]; omega

def rAdd : R2 := orR (rI0 fun i j => .int (i + j)) (orR (rCatA Z.K) (orR rCat fun x y H Q => ∃ i j, x = .str i ∧ y = .str j ∧ i.length + j.length ≤ sizeLine ∧ Q (.str (i ++ j)) H))
theorem opk_add : OpK Z .add (r2 (rAdd (Z := Z))) := by
  intro F H G vs ds m Q wf hg rps h q
  show r2 _ vs H Q
  change pAdd ds = some m at h
  unfold pAdd at h
  split at h
  · rename_i i j
    obtain ⟨v, u, rfl, ra, rb⟩ := rps2 rps
    cases h
    cases rp_int ra
    cases rp_int rb
    exact .inl ⟨i, j, rfl, rfl, pst_d wf q (.int _)⟩
  · rename_i a b
    obtain ⟨v, u, rfl, ra, rb⟩ := rps2 rps
    split at h
    · rename_i hz
      cases h
      obtain ⟨p, xs, rfl, h1, z1, q1⟩ := rp_tup ra
      obtain ⟨p2, ys, rfl, h2, z2, q2⟩ := rp_tup rb
      have l1 := q1.len
      have l2 := q2.len
      have hz : a.length + b.length ≤ 16777216 := hz
      refine .inr (.inl ⟨p, p2, xs, ys, rfl, rfl, sqT h1, sqT h2, by rw [sizeLine_eq]; omega, fun e => ?_, fun _ e => ?_, fun _ _ => pst_T wf hg q (q1.append q2) (by rw [List.length_append, sizeLine_eq]; omega)⟩)
      · subst e
        cases q1
        exact pst_d wf q rb
      · subst e
        cases q2
        rw [List.append_nil] at q
        exact pst_d wf q ra
    · cases h
  · rename_i a b
    obtain ⟨v, u, rfl, ra, rb⟩ := rps2 rps
    split at h
    · rename_i hz
      cases h
      obtain ⟨p, xs, rfl, h1, z1, q1⟩ := rp_lst ra
      obtain ⟨p2, ys, rfl, h2, z2, q2⟩ := rp_lst rb
      have l1 := q1.len
      have l2 := q2.len
      have hz : a.length + b.length ≤ 16777216 := hz
      exact .inr (.inr (.inl ⟨p, p2, xs, ys, rfl, rfl, h1, h2, by rw [sizeLine_eq]; omega, pst_L wf hg q (q1.append q2) (by rw [List.length_append, sizeLine_eq]; omega)⟩))
    · cases h
  · rename_i a b
    obtain ⟨v, u, rfl, ra, rb⟩ := rps2 rps
    split at h
    · rename_i hz
      cases h
      cases rp_str ra
      cases rp_str rb
      exact .inr (.inr (.inr ⟨a, b, rfl, rfl, by rw [sizeLine_eq]; exact hz, pst_d wf q (.str _)⟩))
    · cases h
  · cases h
theorem opk_sub : OpK Z .sub (r2 (rI0 fun i j => .int (i - j))) := by
  intro F H G vs ds m Q wf hg rps h q
  change pSub ds = some m at h
  unfold pSub at h
  split at h
  · rename_i i j
    obtain ⟨v, u, rfl, ra, rb⟩ := rps2 rps
    cases h
    cases rp_int ra
    cases rp_int rb
    exact ⟨i, j, rfl, rfl, pst_d wf q (.int _)⟩
  · cases h
theorem opk_fdiv : OpK Z .fdiv (r2 (rI CDivW fun i j => .int (i / j))) := by
  intro F H G vs ds m Q wf hg rps h q
  change pDiv ds = some m at h
  unfold pDiv at h
  split at h
  · rename_i i j
    obtain ⟨v, u, rfl, ra, rb⟩ := rps2 rps
    split at h
    · rename_i hc
      cases h
      cases rp_int ra
      cases rp_int rb
      exact ⟨i, j, rfl, rfl, hc, pst_d wf q (.int _)⟩
    · cases h
  · cases h
theorem opk_mod : OpK Z .mod (r2 (rI (fun _ j => 0 < j) fun i j => .int (i % j))) := by
  intro F H G vs ds m Q wf hg rps h q
  change pMod ds = some m at h
  unfold pMod at h
  split at h
  · rename_i i j
    obtain ⟨v, u, rfl, ra, rb⟩ := rps2 rps
    split at h
    · rename_i hc
      cases h
      cases rp_int ra
      cases rp_int rb
      exact ⟨i, j, rfl, rfl, hc, pst_d wf q (.int _)⟩
    · cases h
  · cases h
theorem opk_pow : OpK Z .pow (r2 (rI CPow fun i j => .int (i ^ j.toNat))) := by
  intro F H G vs ds m Q wf hg rps h q
  change pPow ds = some m at h
  unfold pPow at h
  split at h
  · rename_i i j
    obtain ⟨v, u, rfl, ra, rb⟩ := rps2 rps
    split at h
    · rename_i hc
      cases h
      cases rp_int ra
      cases rp_int rb
      exact ⟨i, j, rfl, rfl, hc, pst_d wf q (.int _)⟩
    · cases h
  · cases h
theorem opk_neg : OpK Z .neg (r1 (rU fun i => .int (-i))) := by
  intro F H G vs ds m Q wf hg rps h q
  change pNeg ds = some m at h
  unfold pNeg at h
  split at h
  · rename_i i
    obtain ⟨v, rfl, ra⟩ := rps1 rps
    cases h
    cases rp_int ra
    exact ⟨i, rfl, pst_d wf q (.int _)⟩
  · cases h
theorem opk_cmp {o : Op} {f : Int → Int → Bool} (ho : ∀ ds, prim o ds = cmpI f ds) : OpK Z o (r2 (rI0 fun i j => .bl (f i j))) := by
  intro F H G vs ds m Q wf hg rps h q
  rw [ho] at h
  unfold cmpI at h
  split at h
  · rename_i i j
    obtain ⟨v, u, rfl, ra, rb⟩ := rps2 rps
    cases h
    cases rp_int ra
    cases rp_int rb
    exact ⟨i, j, rfl, rfl, pst_d wf q (.bl _)⟩
  · cases h
/-! ### tuple * 1 -/
theorem tuple_mul1W (l : Addr) (items : Array Value) (n : Nat) (dd : Option Addr) (sl : Array (Option Value)) (x : Int) (u : Tok) (c0 : (decide (x < -(2 ^ 63)) || decide (x ≥ 2 ^ 63)) = false) (c1 : (items.isEmpty || x == 1) = true) :
    Meets (Builtin.«tuple.__mul__» ⟨[.ref l, .int x u], []⟩) (fun _ R s => s.heap.get? l = some { cls := .type "tuple", dict := dd, data := .seq items n, slots := sl } ∧
      R (.ok (.ret (Value.ref l))) s) :=
  .of_wp fun prog w A R s h => by
    obtain ⟨hp, g, d, tk, os⟩ := s
    obtain ⟨hl, h⟩ := h
    have f1 := AutoSeq1.idx_int
    wp_walk using wpAny_loadPart' hl
    repeat (first
      | (refine wpAny_ite_false (decide_eq_false (by rw [c0]; exact Bool.false_ne_true)) ?_; wp_walk using wpAny_loadPart' hl)
      | (refine wpAny_ite_true (decide_eq_true c1) ?_; wp_walk using wpAny_loadPart' hl))
    exact ⟨_, rfl, h⟩
def rRep1 (K : PySem.W.Frag) : R2 := fun x y H Q => ∃ l xs, x = .ref l ∧ y = .int 1 ∧ SqT K H l xs ∧ Q (.ref l) H
theorem op_rep1 {X : Cx} : OpR X (binaryOp .Mult) (rRep1 X.K) := by
  intro pins s σ H x y v u Q I rx ry h
  obtain ⟨l, xs, rfl, rfl, hT, q⟩ := h
  cases rx
  obtain ⟨t, rfl⟩ := ry
  obtain ⟨its, r, ⟨⟨cls, dd, data, sl⟩, ho, hc, n, hd⟩, hs⟩ := I.tuple hT
  simp only at hc hd
  subst hc hd
  have c1 : (its.toArray.isEmpty || ((1 : Int) == 1)) = true := by simp
  refine wpAny_binaryOp_repeat_ref (T := "tuple") (U := "int") (by decide) ⟨_, ho, rfl⟩ (fun s' => typeIs_int s' 1 t) noFill_tuple_mul F.fills_int_mul F.slot_int_rmul repeat_tuple F.slot_int_index.lookup
    (call_meets F.slot_int_rmul (typeIs_int s 1 t) F.entry_int_rmul (F.args_int_rmul_2 _ _) (int_rmul_tuple 1 t l its.toArray n dd sl)
      ⟨ho, rfl, ⟨_, ho, rfl⟩, call_meets F.slot_tuple_mul ⟨_, ho, rfl⟩ F.entry_tuple_mul (F.args_tuple_mul_2 _ _) (tuple_mul1W l its.toArray n dd sl 1 t (by decide) c1) ⟨ho, ?_⟩⟩)
  exact ⟨.ref l, H, I, rfl, q⟩
def rMul : R2 := orR (rI CMulW fun i j => .int (i * j)) (orR (rI CMul fun i j => .int (i * j)) (orR (rRepT Z.K) (orR (rRep1 Z.K) rRep)))
theorem opk_mul : OpK Z .mul (r2 (rMul (Z := Z))) := by
  intro F H G vs ds m Q wf hg rps h q
  show r2 _ vs H Q
  change pMul ds = some m at h
  unfold pMul at h
  split at h
  · rename_i i j
    obtain ⟨v, u, rfl, ra, rb⟩ := rps2 rps
    split at h
    · rename_i hc
      cases h
      cases rp_int ra
      cases rp_int rb
      rcases hc with hc | hc
      · exact .inl ⟨i, j, rfl, rfl, hc, pst_d wf q (.int _)⟩
      · exact .inr (.inl ⟨i, j, rfl, rfl, hc, pst_d wf q (.int _)⟩)
    · cases h
  · rename_i a k
    obtain ⟨v, u, rfl, ra, rb⟩ := rps2 rps
    split at h
    · rename_i hc
      cases h
      cases rp_int rb
      obtain ⟨p, xs, rfl, h1, z1, q1⟩ := rp_tup ra
      have l1 := q1.len
      obtain ⟨hne, k1, k2, k3⟩ := hc
      by_cases e : k = 1
      · subst e
        refine .inr (.inr (.inr (.inl ⟨p, xs, rfl, rfl, sqT h1, pst_d wf q ?_⟩)))
        have e2 : repD a 1 = a := by simp [repD]
        rw [e2]; exact ra
      · refine .inr (.inr (.inl ⟨p, k, xs, rfl, rfl, sqT h1, fun e => hne ?_, by omega, k2, by omega, ?_⟩))
        · subst e
          exact List.eq_nil_of_length_eq_zero l1.symm
        · refine pst_T wf hg q (rps_rep q1 k.toNat) ?_
          rw [vlen_rep, sizeLine_eq]
          have a1 : k.toNat * xs.length ≤ 1000 * 1000 := Nat.mul_le_mul (by omega) (by omega)
          omega
    · cases h
  · rename_i a k
    obtain ⟨v, u, rfl, ra, rb⟩ := rps2 rps
    split at h
    · rename_i hc
      cases h
      cases rp_int rb
      obtain ⟨p, xs, rfl, h1, z1, q1⟩ := rp_lst ra
      have l1 := q1.len
      obtain ⟨k1, k2, k3⟩ := hc
      have k3 : a.length * k.toNat ≤ 16777216 := k3
      have k4 : xs.length * k.toNat ≤ 16777216 := by rw [l1]; exact k3
      refine .inr (.inr (.inr (.inr ⟨p, k, xs, rfl, rfl, h1, by omega, by omega, by rw [sizeLine_eq]; exact k4, pst_L wf hg q (rps_rep q1 k.toNat) ?_⟩)))
      rw [vlen_rep, sizeLine_eq, Nat.mul_comm]
      exact k4
    · cases h
  · cases h
/-! ### ==, in -/
mutual
theorem dp_of {K : PySem.W.Frag} {F : Addr → Prop} {H : Hp} : ∀ {v : V} {d : D} {p : PyData}, Rp K F H v d → toP d = some p → Dp K H v p
  | _, _, _, .non, h => by cases h; exact .non
  | _, _, _, .bl b, h => by cases h; exact .bl b
  | _, _, _, .int i, h => by cases h; exact .int i
  | _, _, _, .str x, h => by cases h; exact .str x
  | _, _, p, .tup (ds := ds) h1 _ r, h => by
    have h : (toPs ds).map PyData.tuple = some p := h
    cases e : toPs ds with
    | none => rw [e] at h; cases h
    | some ps => rw [e] at h; cases h; exact .tup (sqT h1) (dps_of r e)
  | _, _, p, .lst (ds := ds) _ h1 _ r, h => by
    have h : (toPs ds).map PyData.list = some p := h
    cases e : toPs ds with
    | none => rw [e] at h; cases h
    | some ps => rw [e] at h; cases h; exact .lst (sqL h1) (dps_of r e)
  | _, _, _, .scrK _ _, h => by cases h
  | _, _, _, .scr _ _ _, h => by cases h
  | _, _, _, .dct _ _ _, h => by cases h
theorem dps_of {K : PySem.W.Frag} {F : Addr → Prop} {H : Hp} : ∀ {vs : List V} {ds : List D} {ps : List PyData}, Rps K F H vs ds → toPs ds = some ps → DpAll K H vs ps
  | _, _, _, .nil, h => by cases h; exact .nil
  | _, _, ps, .cons (d := d) (ds := ds) h1 r, h => by
    have h : (match toP d, toPs ds with | some x, some xs => some (x :: xs) | _, _ => none) = some ps := h
    cases e : toP d with
    | none => rw [e] at h; cases h
    | some x =>
      cases e2 : toPs ds with
      | none => rw [e, e2] at h; cases h
      | some xs =>
        rw [e, e2] at h
        cases h
        exact .cons (dp_of h1 e) (dps_of r e2)
end
theorem eqD_some {x y : D} {b : Bool} (h : eqD x y = some b) : ∃ p q, toP x = some p ∧ toP y = some q ∧ SeqAt.shaped p = true ∧ SeqAt.shaped q = true ∧ b = PyData.eqv p q := by
  unfold eqD at h
  split at h
  · rename_i p q e1 e2
    split at h
    · rename_i hs
      cases h
      exact ⟨p, q, e1, e2, hs.1, hs.2, rfl⟩
    · cases h
  · cases h
theorem opk_eq : OpK Z .eq (r2 (rEqD Z.K)) := by
  intro F H G vs ds m Q wf hg rps h q
  change pEq false ds = some m at h
  unfold pEq at h
  split at h
  · rename_i x y
    obtain ⟨v, u, rfl, ra, rb⟩ := rps2 rps
    cases e : eqD x y with
    | none => rw [e] at h; cases h
    | some b =>
      rw [e] at h
      cases h
      obtain ⟨p1, p2, e1, e2, s1, s2, rfl⟩ := eqD_some e
      refine ⟨p1, p2, dp_of ra e1, dp_of rb e2, s1, s2, pst_d wf q ?_⟩
      rw [Bool.bne_false]; exact .bl _
  · cases h
theorem opk_ne : OpK Z .ne (r2 (rNeD Z.K)) := by
  intro F H G vs ds m Q wf hg rps h q
  change pEq true ds = some m at h
  unfold pEq at h
  split at h
  · rename_i x y
    obtain ⟨v, u, rfl, ra, rb⟩ := rps2 rps
    cases e : eqD x y with
    | none => rw [e] at h; cases h
    | some b =>
      rw [e] at h
      cases h
      obtain ⟨p1, p2, e1, e2, s1, s2, rfl⟩ := eqD_some e
      refine ⟨p1, p2, dp_of ra e1, dp_of rb e2, s1, s2, pst_d wf q ?_⟩
      rw [Bool.bne_true]; exact .bl _
  · cases h
end PV
/-! # PV6: operators by values, more -/
namespace HT2
open PySem PySem.Spec PyProof.Rows L2 HT
variable {prog : Program} {w : World} {A : Around} {E : Value → Shared → Prop} {s : Shared}
theorem sliceApplied_rev {sl : Addr} {t : Tok} {n : Nat} {Q : Int × Int × Nat → Shared → Prop} (hs : s.heap.IsSliceOf sl .none .none (.int (-1) t))
    (h : Q ((n : Int) - 1, -1, n) s) : wpAny (model prog w) A (Builtin.Slice.sliceApplied (.ref sl) (pure (n : Int))) Q E s := by
  obtain ⟨os, hos, hcs, hds⟩ := id hs
  unfold Builtin.Slice.sliceApplied Builtin.Slice.sliceFields
  refine wpAny_bind (wpAny_bind (wpAny_field hos hds (x := .none) rfl (wpAny_bind (wpAny_field hos hds (x := .none) rfl (wpAny_bind (wpAny_field hos hds (x := .int (-1) t) rfl (wpAny_pure ?_)))))))
  refine wpAny_bind (slicePart_ (o := some (-1)) (.int (-1) t) ?_)
  show wpAny _ _ (if ((-1 : Int) == 0) = true then _ else _) _ _ s
  rw [if_neg (by decide)]
  refine wpAny_bind (slicePart_none (wpAny_bind (slicePart_none (wpAny_bind (wpAny_pure ?_)))))
  show wpAny _ _ (match Builtin.Slice.sliceAdjust none none (-1) (n : Int) with | (lo, hi) => pure (lo, (-1 : Int), Builtin.Slice.slicePlaces lo hi (-1))) _ _ s
  have e1 : Builtin.Slice.sliceAdjust none none (-1) (n : Int) = ((n : Int) - 1, -1) := by
    unfold Builtin.Slice.sliceAdjust
    simp
  have e2 : Builtin.Slice.slicePlaces ((n : Int) - 1) (-1) (-1) = n := by
    unfold Builtin.Slice.slicePlaces
    have h1 : ¬ ((-1 : Int) > 0) := by omega
    simp only [h1, if_false]
    by_cases h0 : n = 0
    · subst h0; simp
    · split
      · simp
      · omega
  rw [e1]
  show wpAny _ _ (pure ((n : Int) - 1, (-1 : Int), Builtin.Slice.slicePlaces ((n : Int) - 1) (-1) (-1))) _ _ s
  rw [e2]
  exact wpAny_pure h
theorem fm_congr {α β : Type} {f g : α → Option β} : ∀ {l : List α}, (∀ m ∈ l, f m = g m) → l.filterMap f = l.filterMap g
  | [], _ => rfl
  | a :: l, h => by rw [List.filterMap_cons, List.filterMap_cons, h a List.mem_cons_self, fm_congr fun m hm => h m (List.mem_cons_of_mem _ hm)]
theorem pick_rev (xs : Array Value) : ((List.range xs.size).filterMap fun (m : Nat) => xs[(((xs.size : Nat) : Int) - 1 + (m : Int) * (-1)).toNat]?).toArray = xs.toList.reverse.toArray := by
  have e : (List.range xs.size).filterMap (fun (m : Nat) => xs[(((xs.size : Nat) : Int) - 1 + (m : Int) * (-1)).toNat]?) = ((List.range xs.size).map (fun k => xs.size - 1 - k)).filterMap (xs[·]?) := by
    rw [List.filterMap_map]
    refine fm_congr fun m hm => ?_
    have hm := List.mem_range.mp hm
    have e2 : (((xs.size : Nat) : Int) - 1 + (m : Int) * (-1)).toNat = xs.size - 1 - m := by omega
    rw [e2]
    rfl
  rw [e, PySem.W.krv_range, List.filterMap_reverse, PySem.W.krv_all]
theorem getItem_tuple_rev {t sl : Addr} {items : Array Value} {tk : Tok} {Q : Value → Shared → Prop} (ht : IsTup s.heap t items) (hs : s.heap.IsSliceOf sl .none .none (.int (-1) tk))
    (h : Q (.ref s.heap.objs.size) { s with heap := s.heap.push { cls := .type "tuple", data := .seq items.toList.reverse.toArray } })
    (hsz : items.size ≤ sizeLine) : wpAny (model prog w) A (getItem (.ref t) (.ref sl)) Q E s := by
  have htake : sizeOk (.seq items.toList.reverse.toArray) := by
    show (items.toList.reverse).toArray.size ≤ sizeLine
    rw [List.size_toArray, List.length_reverse, Array.length_toList]
    omega
  obtain ⟨os, hos, hcs, hds⟩ := id hs
  have hTs : s.TypeIs (.ref sl) "slice" := ⟨os, hos, hcs⟩
  unfold getItem
  try with_reducible refine wpAny_holding ?_
  first | refine wpAny_bind (wpAny_pure ?_) | skip
  refine wpAny_bind (wpAny_sequenceKey ht.typeIs (by decide) ?_)
  refine wpAny_bind (wpAny_callSpecial?_slot (name := Str.ofString "__getitem__") ht.typeIs PyProof.Rows.slot_tuple_getitem
    (wpAny_call_entry PyProof.Rows.slot_tuple_getitem ht.typeIs entry_tuple_getitem ?_ (args_tuple_getitem _ _)))
  show wpAny _ _ (Builtin.Tuple.tupleItemsOf (.ref t) >>= _) _ _ s
  refine wpAny_bind (tupleItemsOf_ ht ?_)
  refine wpAny_bind (wpAny_typeOf hTs ?_)
  rw [if_pos (by decide)]
  refine wpAny_bind (sliceApplied_rev hs ?_)
  have hno : ¬ ((((items.size : Nat) : Int) - 1 == 0 && (-1 : Int) == 1 && items.size == items.size) = true) := by
    intro q
    rw [Bool.and_eq_true, Bool.and_eq_true] at q
    have q1 : (-1 : Int) = 1 := eq_of_beq q.1.2
    omega
  show wpAny _ _ (if (((items.size : Nat) : Int) - 1 == 0 && (-1 : Int) == 1 && items.size == items.size) = true then _ else _) _ _ s
  rw [if_neg hno, pick_rev]
  first
    | exact wpAny_bind (m := Builtin.Tuple.tupleExact _) (wpAny_newObj_type (wpAny_pure ⟨_, rfl, wpAny_pure h⟩) htake)
    | exact wpAny_bind (m := Builtin.Tuple.tupleExact _) (wpAny_newObj_type (wpAny_bind (wpAny_pure (wpAny_pure ⟨_, rfl, wpAny_pure h⟩))) htake)
    | exact wpAny_bind (wpAny_bind (m := Builtin.Tuple.tupleExact _) (wpAny_newObj_type (wpAny_pure (wpAny_pure ⟨_, rfl, wpAny_pure h⟩)) htake))
    | exact wpAny_bind (wpAny_bind (m := Builtin.Tuple.tupleExact _) (wpAny_newObj_type (wpAny_pure ⟨_, rfl, wpAny_pure h⟩) htake))
end HT2
namespace PV
open PySem PySem.Spec PyProof.Rows L2
variable {Z : Wd} {n : Nat} {N : List Str} {sc : Scope} {W : WX}
def rRev (K : PySem.W.Frag) : V → Hp → VK → Prop := fun x H Q => (∃ a xs, x = .ref a ∧ SqL K H a xs ∧ ∀ p, H p = none → Q (.ref p) (upd H p (.lst xs.reverse))) ∨
  ∃ a xs, x = .ref a ∧ SqT K H a xs ∧ ∀ p, H p = none → Q (.ref p) (upd H p (.tup xs.reverse))
theorem pe_rev {X : Cx} {e : Expr} {te : TE} {k : Nat} {p1 p2 p3 pos : Pos} (he : PE X e te) : PE X (.Subscript e (.Slice none none (some (.UnaryOp .USub (.Constant (.int 1) k p1) p2)) p3) pos) (tUn (rRev X.K) te) := by
  refine ⟨fun pins s σ H Q I h => ?_⟩
  refine Subscript_ (thn (he.run pins s σ H _ I h) fun v s1 ⟨x, H1, I1, r1, q1⟩ => ?_)
  have hst : PO X (some (.UnaryOp .USub (.Constant (.int 1) k p1) p2)) (tPart (tUn (rU fun i => .int (-i)) (tC (.int 1)))) := po_some (pe_un un_neg pe_int)
  refine wpAny_Slice (thn (po_none.run pins s1 σ H1 (fun o H2 => o = none ∧ H2 = H1) I1 ⟨rfl, rfl⟩) fun vl s2 ⟨l, H2, I2, pl, el, e2⟩ => ?_)
  subst el e2
  refine thn (po_none.run pins s2 σ H2 (fun o H3 => o = none ∧ H3 = H2) I2 ⟨rfl, rfl⟩) fun vu s3 ⟨u, H3, I3, pu, eu, e3⟩ => ?_
  subst eu e3
  refine thn (hst.run pins s3 σ H3 (fun o H4 => o = some (-1) ∧ H4 = H3) I3 ⟨1, rfl, -1, rfl, rfl, rfl⟩) fun vs s4 ⟨o, H4, I4, ps, eo, e4⟩ => ?_
  subst eo e4
  have I5 : Inv X pins σ H4 { s4 with heap := s4.heap.push { cls := .type "slice", data := .fields #[vl, vu, vs] } } := I4.kept (t' := s4.toks) fun b ob q => Heap.get?_push_of_some _ q
  rcases q1 with ⟨a, xs, ex, hx, q⟩ | ⟨a, xs, ex, hx, q⟩
  · subst ex
    cases r1
    obtain ⟨its, r, ht, hz⟩ := I5.list hx
    have hlen := r.length
    show wpAny (model X.prog X.w) X.A (subscriptTail e (.Slice none none (some (.UnaryOp .USub (.Constant (.int 1) k p1) p2)) p3) (.ref a) (.ref s4.heap.objs.size)) (EP X pins σ Q) X.xe { s4 with heap := s4.heap.push { cls := .type "slice", data := .fields #[vl, vu, vs] } }
    refine tail_any (ops := [.ref a, .ref s4.heap.objs.size]) ht.isList.typeIs (PySem.slot_list_getitem.lookup) ?_ (by with_unfolding_all rfl)
    refine wpAny_getItem_list_slice ht.isList (Heap.IsSliceOf.new _ vl vu vs) pl pu ps (by decide) ?_ (by rw [List.size_toArray]; omega)
    rw [PySem.W.krv_pick]
    refine ⟨.ref _, _, I5.laid (t' := s4.toks) (o := .lst xs.reverse) (fun b ob q => Heap.get?_push_of_some _ q) (Nat.le_refl _) ?_, rfl, q _ (I5.hok.fresh (Nat.le_refl _))⟩
    exact ⟨by rw [List.length_reverse]; exact hz, _, 0, r.reverse, Heap.get?_push_size _ rfl⟩
  · subst ex
    cases r1
    obtain ⟨its, r, ht, hz⟩ := I5.tuple hx
    have hlen := r.length
    cases pl
    cases pu
    cases ps with
    | int i t =>
    show wpAny (model X.prog X.w) X.A (subscriptTail e (.Slice none none (some (.UnaryOp .USub (.Constant (.int 1) k p1) p2)) p3) (.ref a) (.ref s4.heap.objs.size)) (EP X pins σ Q) X.xe { s4 with heap := s4.heap.push { cls := .type "slice", data := .fields #[.none, .none, .int (-1) t] } }
    refine tail_any (ops := [.ref a, .ref s4.heap.objs.size]) ht.typeIs (PyProof.Rows.slot_tuple_getitem.lookup) ?_ (by with_unfolding_all rfl)
    refine HT2.getItem_tuple_rev ht (Heap.IsSliceOf.new _ .none .none (.int (-1) t)) ?_ (by rw [List.size_toArray]; omega)
    refine ⟨.ref _, _, I5.laid (t' := s4.toks) (o := .tup xs.reverse) (fun b ob q => Heap.get?_push_of_some _ q) (Nat.le_refl _) ?_, rfl, q _ (I5.hok.fresh (Nat.le_refl _))⟩
    exact ⟨by rw [List.length_reverse]; exact hz, _, r.reverse, IsTup.new _ _⟩
theorem opk_rev : OpK Z .rev (r1 (rRev Z.K)) := by
  intro F H G vs ds m Q wf hg rps h q
  change pRev ds = some m at h
  unfold pRev at h
  split at h
  · rename_i l
    obtain ⟨v, rfl, ra⟩ := rps1 rps
    cases h
    obtain ⟨p, xs, rfl, h1, z1, q1⟩ := rp_lst ra
    exact .inl ⟨p, xs, rfl, sqL h1, pst_L wf hg q q1.rev (by rw [List.length_reverse]; exact z1)⟩
  · rename_i l
    obtain ⟨v, rfl, ra⟩ := rps1 rps
    cases h
    obtain ⟨p, xs, rfl, h1, z1, q1⟩ := rp_tup ra
    exact .inr ⟨p, xs, rfl, sqT h1, pst_T wf hg q q1.rev (by rw [List.length_reverse]; exact z1)⟩
  · cases h
end PV
/-! # PV7: operators by values, the rest -/
namespace PV
open PySem PySem.Spec PyProof.Rows L2
variable {Z : Wd} {n : Nat} {N : List Str} {sc : Scope} {W : WX}
/-! ### in -/
def rInT (K : PySem.W.Frag) (neg : Bool) : R2 := fun x y H Q => ∃ d ds, Dp K H x d ∧ Dp K H y (.tuple ds) ∧ SeqAt.shaped d = true ∧ SeqAt.shaped (.list ds) = true ∧ Q (.bl ((ds.any fun z => PyData.eqv z d) != neg)) H
theorem op_inT {X : Cx} (hu : X.A.units + 65 < cLine) : OpR X (compareOp .In) (rInT X.K false) := by
  intro pins s σ H x y v u Q I rx ry h
  obtain ⟨d, ds, hd, he, sd, se, q⟩ := h
  obtain ⟨as, r1⟩ := Dp.reads I d x v hd rx
  obtain ⟨bs, r2⟩ := Dp.reads I (.tuple ds) y u he ry
  rw [Bool.bne_false] at q
  exact SeqAt.in_tuple_reads r2 r1 (SeqAt.canLay_of_shaped se) (SeqAt.canLay_of_shaped sd) (room_in_shaped sd hu) ⟨.bl _, H, I, rfl, q⟩
theorem op_notInT {X : Cx} (hu : X.A.units + 65 < cLine) : OpR X (compareOp .NotIn) (rInT X.K true) := by
  intro pins s σ H x y v u Q I rx ry h
  obtain ⟨d, ds, hd, he, sd, se, q⟩ := h
  obtain ⟨as, r1⟩ := Dp.reads I d x v hd rx
  obtain ⟨bs, r2⟩ := Dp.reads I (.tuple ds) y u he ry
  rw [Bool.bne_true] at q
  exact SeqAt.notIn_tuple_reads r2 r1 (SeqAt.canLay_of_shaped se) (SeqAt.canLay_of_shaped sd) (room_in_shaped sd hu) ⟨.bl _, H, I, rfl, q⟩
theorem inD_some {x : D} {l : List D} {b : Bool} (h : inD x l = some b) : ∃ p ps, toP x = some p ∧ toPs l = some ps ∧ SeqAt.shaped p = true ∧ SeqAt.shaped (.list ps) = true ∧ b = ps.any fun z => PyData.eqv z p := by
  unfold inD at h
  split at h
  · rename_i p q e1 e2
    split at h
    · rename_i hs
      cases h
      exact ⟨p, q, e1, e2, hs.1, hs.2, rfl⟩
    · cases h
  · cases h
theorem opk_in : OpK Z .isin (r2 (orR (rInT Z.K false) (rInD Z.K))) := by
  intro F H G vs ds m Q wf hg rps h q
  show r2 _ vs H Q
  change pIn false ds = some m at h
  unfold pIn at h
  split at h
  · rename_i x l
    obtain ⟨v, u, rfl, ra, rb⟩ := rps2 rps
    cases e : inD x l with
    | none => rw [e] at h; cases h
    | some b =>
      rw [e] at h
      cases h
      obtain ⟨p1, p2, e1, e2, s1, s2, rfl⟩ := inD_some e
      exact .inl ⟨p1, p2, dp_of ra e1, dp_of rb (p := .tuple p2) (by show (toPs l).map PyData.tuple = _; rw [e2]; rfl), s1, s2, pst_d wf q (.bl _)⟩
  · rename_i x l
    obtain ⟨v, u, rfl, ra, rb⟩ := rps2 rps
    cases e : inD x l with
    | none => rw [e] at h; cases h
    | some b =>
      rw [e] at h
      cases h
      obtain ⟨p1, p2, e1, e2, s1, s2, rfl⟩ := inD_some e
      refine .inr ⟨p1, p2, dp_of ra e1, dp_of rb (p := .list p2) (by show (toPs l).map PyData.list = _; rw [e2]; rfl), s1, s2, pst_d wf q ?_⟩
      rw [Bool.bne_false]; exact .bl _
  · cases h
theorem opk_notin : OpK Z .notin (r2 (orR (rInT Z.K true) (rNotInD Z.K))) := by
  intro F H G vs ds m Q wf hg rps h q
  show r2 _ vs H Q
  change pIn true ds = some m at h
  unfold pIn at h
  split at h
  · rename_i x l
    obtain ⟨v, u, rfl, ra, rb⟩ := rps2 rps
    cases e : inD x l with
    | none => rw [e] at h; cases h
    | some b =>
      rw [e] at h
      cases h
      obtain ⟨p1, p2, e1, e2, s1, s2, rfl⟩ := inD_some e
      exact .inl ⟨p1, p2, dp_of ra e1, dp_of rb (p := .tuple p2) (by show (toPs l).map PyData.tuple = _; rw [e2]; rfl), s1, s2, pst_d wf q (.bl _)⟩
  · rename_i x l
    obtain ⟨v, u, rfl, ra, rb⟩ := rps2 rps
    cases e : inD x l with
    | none => rw [e] at h; cases h
    | some b =>
      rw [e] at h
      cases h
      obtain ⟨p1, p2, e1, e2, s1, s2, rfl⟩ := inD_some e
      refine .inr ⟨p1, p2, dp_of ra e1, dp_of rb (p := .list p2) (by show (toPs l).map PyData.list = _; rw [e2]; rfl), s1, s2, pst_d wf q ?_⟩
      rw [Bool.bne_true]; exact .bl _
  · cases h
/-! ### is -/
theorem non_of {K : PySem.W.Frag} {F : Addr → Prop} {H : Hp} {v : V} {d : D} (r : Rp K F H v d) : decide (v = .non) = isNon d := by
  cases r <;> rfl
theorem opk_isN : OpK Z .isN (r1 fun x H Q => V.non = V.non ∧ Q (.bl (decide (x = .non))) H) := by
  intro F H G vs ds m Q wf hg rps h q
  change pIsN false ds = some m at h
  unfold pIsN at h
  split at h
  · rename_i d
    obtain ⟨v, rfl, ra⟩ := rps1 rps
    cases h
    refine ⟨rfl, ?_⟩
    rw [non_of ra]
    rw [Bool.bne_false] at q
    exact pst_d wf q (.bl _)
  · cases h
theorem opk_notN : OpK Z .notN (r1 fun x H Q => V.non = V.non ∧ Q (.bl (!decide (x = .non))) H) := by
  intro F H G vs ds m Q wf hg rps h q
  change pIsN true ds = some m at h
  unfold pIsN at h
  split at h
  · rename_i d
    obtain ⟨v, rfl, ra⟩ := rps1 rps
    cases h
    refine ⟨rfl, ?_⟩
    rw [non_of ra]
    rw [Bool.bne_true] at q
    exact pst_d wf q (.bl _)
  · cases h
theorem opk_isB {b : Bool} : OpK Z (.isB b) (r1 fun x H Q => rIsB x (.bl b) H Q) := by
  intro F H G vs ds m Q wf hg rps h q
  change pIsB false b ds = some m at h
  unfold pIsB at h
  split at h
  · rename_i c
    obtain ⟨v, rfl, ra⟩ := rps1 rps
    cases h
    cases rp_bl ra
    refine ⟨c, b, rfl, rfl, ?_⟩
    have e : decide (c = b) = ((c == b) != false) := by cases c <;> cases b <;> rfl
    rw [e]
    exact pst_d wf q (.bl _)
  · cases h
theorem opk_notB {b : Bool} : OpK Z (.notB b) (r1 fun x H Q => rNotB x (.bl b) H Q) := by
  intro F H G vs ds m Q wf hg rps h q
  change pIsB true b ds = some m at h
  unfold pIsB at h
  split at h
  · rename_i c
    obtain ⟨v, rfl, ra⟩ := rps1 rps
    cases h
    cases rp_bl ra
    refine ⟨c, b, rfl, rfl, ?_⟩
    have e : (!decide (c = b)) = ((c == b) != true) := by cases c <;> cases b <;> rfl
    rw [e]
    exact pst_d wf q (.bl _)
  · cases h
/-! ### subscripts, slices -/
theorem atI_get {l : List D} {vs : List V} {i : Int} {d : D} (e : vs.length = l.length) (h : atI l i = some d) : ∃ j, ixN l.length i = some j ∧ l[j]? = some d ∧ atI vs i = vs[j]? := by
  unfold atI at h
  cases q : ixN l.length i with
  | none => rw [q] at h; cases h
  | some j =>
    rw [q] at h
    refine ⟨j, rfl, h, ?_⟩
    unfold atI
    rw [e, q]
    rfl
theorem opk_ix : OpK Z .ix (r2 (orR (rIxL Z.K) (rIxT Z.K))) := by
  intro F H G vs ds m Q wf hg rps h q
  show r2 _ vs H Q
  change pIx ds = some m at h
  unfold pIx at h
  split at h
  · rename_i l i
    obtain ⟨v, u, rfl, ra, rb⟩ := rps2 rps
    cases rp_int rb
    obtain ⟨p, xs, rfl, h1, z1, q1⟩ := rp_tup ra
    cases e : atI l i with
    | none => rw [e] at h; cases h
    | some d =>
      rw [e] at h
      cases h
      obtain ⟨j, e1, e2, e3⟩ := atI_get q1.len e
      obtain ⟨w, e4, r4⟩ := q1.get e2
      exact .inr ⟨p, xs, i, w, rfl, rfl, sqT h1, e3.trans e4, pst_d wf q r4⟩
  · rename_i l i
    obtain ⟨v, u, rfl, ra, rb⟩ := rps2 rps
    cases rp_int rb
    obtain ⟨p, xs, rfl, h1, z1, q1⟩ := rp_lst ra
    cases e : atI l i with
    | none => rw [e] at h; cases h
    | some d =>
      rw [e] at h
      cases h
      obtain ⟨j, e1, e2, e3⟩ := atI_get q1.len e
      obtain ⟨w, e4, r4⟩ := q1.get e2
      exact .inl ⟨p, xs, i, w, rfl, rfl, sqL h1, e3.trans e4, pst_d wf q r4⟩
  · cases h
theorem Rps.cut {K : PySem.W.Frag} {F : Addr → Prop} {H : Hp} {vs : List V} {ds : List D} (r : Rps K F H vs ds) (lo hi : Option Int) : Rps K F H (cutV vs lo hi) (cutG ds lo hi) := by
  unfold cutV cutG
  rw [r.len]
  exact (r.drop _).take _
def rSl (K : PySem.W.Frag) (lo hi : Bool) : List V → Hp → VK → Prop := fun vs H Q => match lo, hi, vs with
  | true, true, [x, a, b] => ∃ i, a = .int i ∧ ∃ j, b = .int j ∧ (rSlL K x (some i) (some j) H Q ∨ rSlA K x (some i) (some j) H Q)
  | true, false, [x, a] => ∃ i, a = .int i ∧ (rSlL K x (some i) none H Q ∨ rSlA K x (some i) none H Q)
  | false, true, [x, b] => ∃ j, b = .int j ∧ (rSlL K x none (some j) H Q ∨ rSlA K x none (some j) H Q)
  | _, _, _ => False
theorem cutG_whole {l : List D} {lo hi : Option Int} (h : HT.sIx l.length 0 lo = 0 ∧ HT.sIx l.length l.length hi = l.length) : cutG l lo hi = l := by
  unfold cutG
  rw [h.1, h.2]
  simp
theorem scr_sql {K : PySem.W.Frag} {F : Addr → Prop} {H : Hp} {v : V} {ns : List Int} (r : Rp K F H v (.scr ns)) : ∃ a, v = .ref a ∧ SqL K H a (ns.map V.int) ∧ ns.length ≤ sizeLine := by
  cases r with
  | scrK h z => exact ⟨_, rfl, h H, z⟩
  | scr f h z => exact ⟨_, rfl, .inl h, z⟩
theorem rps_ints {K : PySem.W.Frag} {F : Addr → Prop} {H : Hp} : ∀ ns : List Int, Rps K F H (ns.map V.int) (ns.map D.int)
  | [] => .nil
  | i :: r => .cons (.int i) (rps_ints r)
theorem pcut_ok {F : Addr → Prop} {H : Hp} {G : Addr → Prop} {v : V} {d : D} {m : M} {Q : VK} {lo hi : Option Int} (wf : ∀ a, F a → H a ≠ none) (hg : ∀ a, G a → H a ≠ none ∧ ¬ F a) (ra : Rp Z.K F H v d) (h : pCut lo hi d = some m) (q : Pst Z.K F H G m Q) :
    rSlL Z.K v lo hi H Q ∨ rSlA Z.K v lo hi H Q := by
  unfold pCut at h
  split at h
  · rename_i l
    cases h
    obtain ⟨p, xs, rfl, h1, z1, q1⟩ := rp_tup ra
    refine .inr ⟨p, xs, rfl, sqT h1, fun e => ?_, fun e => pst_T wf hg q (q1.cut lo hi) (Nat.le_trans (cutV_length _ _ _) z1)⟩
    rw [q1.len] at e
    rw [cutG_whole e] at q
    exact pst_d wf q ra
  · rename_i l
    cases h
    obtain ⟨p, xs, rfl, h1, z1, q1⟩ := rp_lst ra
    exact .inl ⟨p, xs, rfl, sqL h1, pst_L wf hg q (q1.cut lo hi) (Nat.le_trans (cutV_length _ _ _) z1)⟩
  · rename_i l
    cases h
    obtain ⟨p, rfl, hs, hz⟩ := scr_sql ra
    have e : (cutG l lo hi).map (fun i => M.d (.int i)) = (cutG (l.map D.int) lo hi).map M.d := by
      unfold cutG
      simp only [List.map_take, List.map_drop, List.map_map, List.length_map]
      rfl
    rw [e] at q
    refine .inl ⟨p, l.map V.int, rfl, hs, fun b hb => ?_⟩
    refine pst_L wf hg q ((rps_ints l).cut lo hi) ?_ b hb
    exact Nat.le_trans (cutV_length _ _ _) (by rw [List.length_map]; exact hz)
  · cases h
theorem opk_sl {lo hi : Bool} : OpK Z (.sl lo hi) (rSl Z.K lo hi) := by
  intro F H G vs ds m Q wf hg rps h q
  change pSl lo hi ds = some m at h
  unfold pSl at h
  split at h
  · obtain ⟨v, u, w, rfl, ra, rb, rc⟩ := rps3 rps
    cases rp_int rb
    cases rp_int rc
    exact ⟨_, rfl, _, rfl, pcut_ok wf hg ra h q⟩
  · obtain ⟨v, u, rfl, ra, rb⟩ := rps2 rps
    cases rp_int rb
    exact ⟨_, rfl, pcut_ok wf hg ra h q⟩
  · obtain ⟨v, u, rfl, ra, rb⟩ := rps2 rps
    cases rp_int rb
    exact ⟨_, rfl, pcut_ok wf hg ra h q⟩
  · cases h
/-! ### calls of built-ins -/
def rLen1 (K : PySem.W.Frag) : List V → Hp → VK → Prop := fun xs H Q => ∃ p ys, xs = [.ref p] ∧ (SqL K H p ys ∨ SqT K H p ys) ∧ Q (.int ys.length) H
theorem opk_len : OpK Z .len (rLen1 Z.K) := by
  intro F H G vs ds m Q wf hg rps h q
  change pLen ds = some m at h
  unfold pLen at h
  split at h
  · obtain ⟨v, rfl, ra⟩ := rps1 rps
    cases h
    obtain ⟨p, xs, rfl, h1, z1, q1⟩ := rp_tup ra
    refine ⟨p, xs, rfl, .inr (sqT h1), ?_⟩
    rw [q1.len]
    exact pst_d wf q (.int _)
  · obtain ⟨v, rfl, ra⟩ := rps1 rps
    cases h
    obtain ⟨p, xs, rfl, h1, z1, q1⟩ := rp_lst ra
    refine ⟨p, xs, rfl, .inl (sqL h1), ?_⟩
    rw [q1.len]
    exact pst_d wf q (.int _)
  · cases h
def rTuple1 (K : PySem.W.Frag) : List V → Hp → VK → Prop := fun xs H Q => ∃ p ys, xs = [.ref p] ∧ ((SqL K H p ys ∧ ∀ l, H l = none → Q (.ref l) (upd H l (.tup ys))) ∨ (SqT K H p ys ∧ Q (.ref p) H))
theorem opk_tuple : OpK Z .tuple (rTuple1 Z.K) := by
  intro F H G vs ds m Q wf hg rps h q
  change pTuple ds = some m at h
  unfold pTuple at h
  split at h
  · obtain ⟨v, rfl, ra⟩ := rps1 rps
    cases h
    obtain ⟨p, xs, rfl, h1, z1, q1⟩ := rp_lst ra
    exact ⟨p, xs, rfl, .inl ⟨sqL h1, pst_T wf hg q q1 z1⟩⟩
  · obtain ⟨v, rfl, ra⟩ := rps1 rps
    cases h
    obtain ⟨p, xs, rfl, h1, z1, q1⟩ := rp_tup ra
    exact ⟨p, xs, rfl, .inr ⟨sqT h1, pst_d wf q ra⟩⟩
  · cases h
def rList1 (K : PySem.W.Frag) : List V → Hp → VK → Prop := fun xs H Q => ∃ p ys, xs = [.ref p] ∧ (SqL K H p ys ∨ SqT K H p ys) ∧ ∀ l, H l = none → Q (.ref l) (upd H l (.lst ys))
theorem opk_list : OpK Z .list (rList1 Z.K) := by
  intro F H G vs ds m Q wf hg rps h q
  change pList ds = some m at h
  unfold pList at h
  split at h
  · obtain ⟨v, rfl, ra⟩ := rps1 rps
    cases h
    obtain ⟨p, xs, rfl, h1, z1, q1⟩ := rp_lst ra
    exact ⟨p, xs, rfl, .inl (sqL h1), pst_L wf hg q q1 z1⟩
  · obtain ⟨v, rfl, ra⟩ := rps1 rps
    cases h
    obtain ⟨p, xs, rfl, h1, z1, q1⟩ := rp_tup ra
    exact ⟨p, xs, rfl, .inr (sqT h1), pst_L wf hg q q1 z1⟩
  · cases h
def rInt1 : List V → Hp → VK → Prop := fun xs H Q => (∃ i, xs = [.int i] ∧ Q (.int i) H) ∨ ∃ k, xs = [.bl k] ∧ Q (.int (if k then 1 else 0)) H
theorem opk_int : OpK Z .int rInt1 := by
  intro F H G vs ds m Q wf hg rps h q
  change pInt ds = some m at h
  unfold pInt at h
  split at h
  · obtain ⟨v, rfl, ra⟩ := rps1 rps
    cases h
    cases rp_int ra
    exact .inl ⟨_, rfl, pst_d wf q (.int _)⟩
  · obtain ⟨v, rfl, ra⟩ := rps1 rps
    cases h
    cases rp_bl ra
    exact .inr ⟨_, rfl, pst_d wf q (.int _)⟩
  · cases h
def rAbs1 : List V → Hp → VK → Prop := fun xs H Q => ∃ i, xs = [.int i] ∧ Q (.int (if i < 0 then -i else i)) H
theorem opk_abs : OpK Z .abs rAbs1 := by
  intro F H G vs ds m Q wf hg rps h q
  change pAbs ds = some m at h
  unfold pAbs at h
  split at h
  · obtain ⟨v, rfl, ra⟩ := rps1 rps
    cases h
    cases rp_int ra
    exact ⟨_, rfl, pst_d wf q (.int _)⟩
  · cases h
def rMin22 : List V → Hp → VK → Prop := fun xs H Q => ∃ i j, xs = [.int i, .int j] ∧ Q (.int (if j < i then j else i)) H
theorem opk_min2 : OpK Z .min2 rMin22 := by
  intro F H G vs ds m Q wf hg rps h q
  change pMin2 ds = some m at h
  unfold pMin2 at h
  split at h
  · obtain ⟨v, u, rfl, ra, rb⟩ := rps2 rps
    cases h
    cases rp_int ra
    cases rp_int rb
    exact ⟨_, _, rfl, pst_d wf q (.int _)⟩
  · cases h
def rMax22 : List V → Hp → VK → Prop := fun xs H Q => ∃ i j, xs = [.int i, .int j] ∧ Q (.int (if j > i then j else i)) H
theorem opk_max2 : OpK Z .max2 rMax22 := by
  intro F H G vs ds m Q wf hg rps h q
  change pMax2 ds = some m at h
  unfold pMax2 at h
  split at h
  · obtain ⟨v, u, rfl, ra, rb⟩ := rps2 rps
    cases h
    cases rp_int ra
    cases rp_int rb
    exact ⟨_, _, rfl, pst_d wf q (.int _)⟩
  · cases h
theorem rps_bls {K : PySem.W.Frag} {F : Addr → Prop} {H : Hp} : ∀ {ds : List D} {vs : List V} {bs : List Bool}, Rps K F H vs ds → blsD ds = some bs → vs = bs.map V.bl
  | [], _, _, .nil, h => by cases h; rfl
  | d :: ds, _, bs, .cons r rs, h => by
    cases d with
    | bl b =>
      have h : (blsD ds).map (b :: ·) = some bs := h
      cases e : blsD ds with
      | none => rw [e] at h; cases h
      | some bs' =>
        rw [e] at h
        cases h
        cases rp_bl r
        rw [rps_bls rs e]
        rfl
    | _ => cases h
theorem rps_intsD {K : PySem.W.Frag} {F : Addr → Prop} {H : Hp} : ∀ {ds : List D} {vs : List V} {bs : List Int}, Rps K F H vs ds → intsD ds = some bs → vs = bs.map V.int
  | [], _, _, .nil, h => by cases h; rfl
  | d :: ds, _, bs, .cons r rs, h => by
    cases d with
    | int b =>
      have h : (intsD ds).map (b :: ·) = some bs := h
      cases e : intsD ds with
      | none => rw [e] at h; cases h
      | some bs' =>
        rw [e] at h
        cases h
        cases rp_int r
        rw [rps_intsD rs e]
        rfl
    | _ => cases h
theorem opk_all : OpK Z .all (rAll Z.K) := by
  intro F H G vs ds m Q wf hg rps h q
  change pAll false ds = some m at h
  unfold pAll at h
  split at h
  · rename_i l
    obtain ⟨v, rfl, ra⟩ := rps1 rps
    cases e : blsD l with
    | none => rw [e] at h; cases h
    | some bs =>
      rw [e] at h
      cases h
      obtain ⟨p, xs, rfl, h1, z1, q1⟩ := rp_lst ra
      cases rps_bls q1 e
      exact ⟨p, bs, rfl, sqL h1, pst_d wf q (.bl _)⟩
  · cases h
theorem opk_any : OpK Z .any (rAny Z.K) := by
  intro F H G vs ds m Q wf hg rps h q
  change pAll true ds = some m at h
  unfold pAll at h
  split at h
  · rename_i l
    obtain ⟨v, rfl, ra⟩ := rps1 rps
    cases e : blsD l with
    | none => rw [e] at h; cases h
    | some bs =>
      rw [e] at h
      cases h
      obtain ⟨p, xs, rfl, h1, z1, q1⟩ := rp_lst ra
      cases rps_bls q1 e
      exact ⟨p, bs, rfl, sqL h1, pst_d wf q (.bl _)⟩
  · cases h
theorem opk_sum : OpK Z .sum (rSum Z.K) := by
  intro F H G vs ds m Q wf hg rps h q
  change pSum ds = some m at h
  unfold pSum at h
  split at h
  · rename_i l
    obtain ⟨v, rfl, ra⟩ := rps1 rps
    cases e : intsD l with
    | none => rw [e] at h; cases h
    | some bs =>
      rw [e] at h
      cases h
      obtain ⟨p, xs, rfl, h1, z1, q1⟩ := rp_lst ra
      cases rps_intsD q1 e
      exact ⟨p, bs, rfl, sqL h1, pst_d wf q (.int _)⟩
  · cases h
theorem opk_tupd : OpK Z .tupd (fun vs H Q => vs.length ≤ sizeLine ∧ ∀ p, H p = none → Q (.ref p) (upd H p (.tup vs))) := by
  intro F H G vs ds m Q wf hg rps h q
  change pTupd ds = some m at h
  unfold pTupd at h
  split at h
  · rename_i hz
    cases h
    have hz : ds.length ≤ 16777216 := hz
    have z : vs.length ≤ sizeLine := by rw [rps.len, sizeLine_eq]; exact hz
    exact ⟨z, pst_T wf hg q rps z⟩
  · cases h
/-! ### isinstance -/
theorem ty_of {F : Addr → Prop} {H : Hp} {v : V} {d : D} (r : Rp Z.K F H v d) : TyX Z.K H v (.type (tyD d)) := by
  cases r with
  | non => exact .base .non
  | bl b => exact .base (.bl b)
  | int i => exact .base (.int i)
  | str x => exact .base (.str x)
  | tup h z r => exact .base (.tup h)
  | lst f h z r => exact .base (.lst h)
  | dct f h r => exact .base (.dK h)
  | scrK h z =>
    rcases h (fun _ => none) with (h | ⟨o, h⟩) | ⟨o, its, n, h1, h2, _⟩
    · cases h
    · cases h
    · exact .kList h1 h2
  | scr f h z =>
    rcases h with h | ⟨o, h⟩
    · exact .base (.lst h)
    · exact .base (.frz h)
def allTys : List String := ["NoneType", "bool", "int", "str", "tuple", "list", "dict"]
theorem ty_in (d : D) : tyD d ∈ allTys := by cases d <;> simp [tyD, allTys]
theorem kit_tab : ∀ t ∈ allTys, ∀ u ∈ okTys, kitB t u = some (u == t || (u == "int" && t == "bool")) := by decide +kernel
theorem kit_one {K : PySem.W.Frag} {t u : String} (h1 : t ∈ allTys) (h2 : u ∈ okTys) : PySem.W.kitOne K (.type t) (.type u) = some (u == t || (u == "int" && t == "bool")) := kit_ty (kit_tab t h1 u h2)
theorem kit_any {K : PySem.W.Frag} {t : String} (h1 : t ∈ allTys) : ∀ ts : List String, ts.all (fun u => okTys.contains u) = true → PySem.W.kitAny K (.type t) (ts.map Value.type) = some (isiD t ts)
  | [], _ => rfl
  | u :: ts, h => by
    rw [List.all_cons, Bool.and_eq_true] at h
    have hu : u ∈ okTys := by simpa using h.1
    have ih := kit_any (K := K) h1 ts h.2
    show PySem.W.kitAny K (.type t) (.type u :: ts.map Value.type) = some ((u == t || (u == "int" && t == "bool")) || isiD t ts)
    refine kitAny_cons (kit_one h1 hu) (fun e => ?_) (fun e => ?_)
    · rw [e, Bool.false_or]; exact ih
    · rw [e]; rfl
def rIsiO (K : PySem.W.Frag) (t : String) : List V → Hp → VK → Prop := r1 fun x H Q => rIsi K [x, .ty t] H Q
def rIsiM (K : PySem.W.Frag) (ts : List String) : List V → Hp → VK → Prop := r1 fun x H Q => (ts.map V.ty).length ≤ sizeLine ∧ ∀ p, H p = none → rIsiT K [x, .ref p] (upd H p (.tup (ts.map V.ty))) Q
theorem cls_tys : ∀ ts : List String, Paired ClsV (ts.map V.ty) (ts.map Value.type)
  | [] => .nil
  | t :: ts => .cons (.ty t) (cls_tys ts)
theorem opk_isi1 {t : String} : OpK Z (.isi true [t]) (rIsiO Z.K t) := by
  intro F H G vs ds m Q wf hg rps h q
  change pIsi true [t] ds = some m at h
  unfold pIsi at h
  split at h
  · rename_i d
    obtain ⟨v, rfl, ra⟩ := rps1 rps
    split at h
    · rename_i hc
      cases h
      have hu : t ∈ okTys := by simpa using hc.1
      refine ⟨v, .ty t, _, _, _, rfl, .ty t, ty_of ra, kit_one (ty_in d) hu, ?_⟩
      have e : (t == tyD d || (t == "int" && tyD d == "bool")) = isiD (tyD d) [t] := by simp [isiD]
      rw [e]
      exact pst_d wf q (.bl _)
    · cases h
  · cases h
theorem opk_isiM {ts : List String} : OpK Z (.isi false ts) (rIsiM Z.K ts) := by
  intro F H G vs ds m Q wf hg rps h q
  change pIsi false ts ds = some m at h
  unfold pIsi at h
  split at h
  · rename_i d
    obtain ⟨v, rfl, ra⟩ := rps1 rps
    split at h
    · rename_i hc
      cases h
      have hl : (ts.map V.ty).length ≤ sizeLine := by
        rw [List.length_map, sizeLine_eq]
        exact hc.2.2
      refine ⟨hl, fun p hp => ?_⟩
      have st : Stp F H G F (upd H p (.tup (ts.map V.ty))) := Stp.new wf (fun a h => (hg a h).1) hp
      exact ⟨v, p, ts.map V.ty, _, ts.map Value.type, _, rfl, upd_same, cls_tys ts, ty_of (ra.stp st), kit_any (ty_in d) ts hc.1, q _ F _ [] st (wf_upd wf) (.d (.bl _))⟩
    · cases h
  · cases h
end PV
namespace PV
open PySem PySem.Spec PyProof.Rows L2
/-- set(t) of a tuple of whole numbers -/
def rSetI (K : PySem.W.Frag) (w : World) : List V → Hp → VK → Prop := fun vs H Q => ∃ (a : Addr) (ns : List Int), vs = [.ref a] ∧ SqT K H a (ns.map V.int) ∧ ns.length < 60 ∧
  ∀ (p : Addr) (c : Nat), H p = none → c ≤ ns.length → Q (.ref p) (upd H p (SetO w p (fun j => decide (j ∈ ns)) c))
theorem ints_vals : ∀ {ns : List Int} {its : List Value}, Vals (ns.map V.int) its → IntsAre its ns
  | [], its, h => by cases h; exact .nil
  | n :: ns, its, h => by
    cases h with
    | cons h1 h2 =>
      obtain ⟨t, rfl⟩ := h1
      exact .cons n t (ints_vals h2)
theorem vals1 {v : V} {us : List Value} (h : Vals [v] us) : ∃ u, us = [u] ∧ RelV v u := by
  cases h with
  | cons h1 h2 => cases h2; exact ⟨_, rfl, h1⟩
theorem cr_setI {X : Cx} (hc : X.calm = true) : CallR X (.type "set") (rSetI X.K X.w) := by
  intro pins s σ H xs us Q I hv h
  obtain ⟨a, ns, rfl, hs, hl, hq⟩ := h
  obtain ⟨u, rfl, hu⟩ := vals1 hv
  cases hu
  obtain ⟨its, v1, t1, z1⟩ := I.tuple hs
  refine call_set_tupI ns (I.ok.hd hc) t1 (ints_vals v1) (by show ns.length + 1 < 4096; omega) fun h' tk c hr hcl hk => ?_
  exact ⟨.ref s.heap.objs.size, _, I.laid hk (Nat.le_refl _) (setO_new hr), rfl, hq _ c I.fresh hcl⟩
theorem ints_get {its : List Value} {ns : List Int} (h : IntsAre its ns) : its.length = ns.length ∧ ∀ (i : Nat) (v : Value), its[i]? = some v → ∃ t, v = .int (ns.getD i 0) t := by
  induction h with
  | nil => exact ⟨rfl, fun i v h => by simp at h⟩
  | cons n t r ih =>
    refine ⟨congrArg (· + 1) ih.1, fun i v h => ?_⟩
    cases i with
    | zero =>
      have h : some (Value.int n t) = some v := h
      cases h
      exact ⟨t, rfl⟩
    | succ i =>
      obtain ⟨t, e⟩ := ih.2 i v (by simpa using h)
      exact ⟨t, by rw [e]; rfl⟩
theorem get_lt {h : Heap} {a : Addr} {o : Obj} (e : h.get? a = some o) : a < h.objs.size := by
  by_cases c : a < h.objs.size
  · exact c
  · exfalso
    unfold Heap.get? at e
    rw [Array.getElem?_eq_none (Nat.le_of_not_lt c)] at e
    cases e
def rMaxT (K : PySem.W.Frag) : List V → Hp → VK → Prop := fun vs H Q => ∃ (a : Addr) (ns : List Int), vs = [.ref a] ∧ SqT K H a (ns.map V.int) ∧ 0 < ns.length ∧ ∀ m, m ∈ ns → (∀ y, y ∈ ns → y ≤ m) → Q (.int m) H
theorem cr_maxT {X : Cx} (hc : X.calm = true) : CallR X (.builtin "max") (rMaxT X.K) := by
  intro pins s σ H xs us Q I hv h
  obtain ⟨a, ns, rfl, hs, hl, hq⟩ := h
  obtain ⟨u, rfl, hu⟩ := vals1 hv
  cases hu
  obtain ⟨its, v1, t1, z1⟩ := I.tuple hs
  have ia := ints_vals v1
  obtain ⟨il, ig⟩ := ints_get ia
  have hax : a < s.heap.objs.size := by
    obtain ⟨o, ho, _⟩ := t1
    exact get_lt ho
  refine call_max_walk (wpAny_pyIter_tuple t1 ?_)
  refine ⟨s.heap.objs.size, [s.heap.objs.size, a], [s.heap.objs.size], its.toArray.size, fun i v => its.toArray[i]? = some v, fun i h => h.IsTupleIter s.heap.objs.size a i ∧ h.IsTuple a its.toArray, fun i j => decide (ns.getD i 0 > ns.getD j 0), rfl,
    Walks.tuple (A := X.A.in1) (I.ok.hd hc) _ a (Nat.ne_of_lt hax) its.toArray, ⟨⟨_, Heap.get?_push_size _ rfl, rfl, rfl⟩, ?_⟩, fun b hb => ?_, by rw [List.size_toArray, il]; exact hl, CmpOf.ints_gt (fun i => ns.getD i 0) (fun i v h => ig i v (by simpa using h)), fun v h' tk hv hk => ?_⟩
  · obtain ⟨o, ho, c1, c2⟩ := t1
    exact ⟨o, Heap.get?_push_of_some _ ho, c1, c2⟩
  · rw [Heap.size_push]
    rcases List.mem_cons.mp hb with rfl | hb
    · exact Nat.lt_succ_self _
    · have : b = a := by simpa using hb
      subst this
      exact Nat.lt_succ_of_lt hax
  · have hv2 : its[argBest (fun i j => decide (ns.getD i 0 > ns.getD j 0)) (its.toArray.size - 1)]? = some v := by simpa using hv
    obtain ⟨tv, rfl⟩ := ig _ v hv2
    obtain ⟨b1, b2⟩ := argBest_gt (fun i => ns.getD i 0) (its.toArray.size - 1)
    rw [List.size_toArray, il] at b1 b2 hv2 ⊢
    have hlt : argBest (fun i j => decide (ns.getD i 0 > ns.getD j 0)) (ns.length - 1) < ns.length := by omega
    refine ⟨.int _, H, I.kept fun b o ho => hk b o (fun hb => ?_) (Heap.get?_push_of_some _ ho), ⟨tv, rfl⟩, hq _ ?_ fun y hy => ?_⟩
    · have : b = s.heap.objs.size := by simpa using hb
      subst this
      exact absurd (get_lt ho) (Nat.lt_irrefl _)
    · rw [List.getD_eq_getElem?_getD, List.getElem?_eq_getElem hlt]
      exact List.getElem_mem hlt
    · obtain ⟨j, hj⟩ := List.getElem?_of_mem hy
      have hj2 : j < ns.length := (List.getElem?_eq_some_iff.mp hj).1
      have := b2 j (by omega)
      rw [List.getD_eq_getElem?_getD (l := ns) (i := j), hj] at this
      exact this
end PV
/-! # PV7b: sorted, set, max, min, list(range) -/
namespace PV
open PySem PySem.Spec PyProof.Rows L2
variable {Z : Wd}
theorem insU_mem {k x : Int} : ∀ {l : List Int}, k ∈ insU x l ↔ k = x ∨ k ∈ l
  | [] => by simp [insU]
  | y :: r => by
    unfold insU
    split
    · simp
    · split
      · rename_i e; subst e; simp
      · rw [List.mem_cons, insU_mem, List.mem_cons]
        constructor
        · rintro (h | h | h) <;> simp [h]
        · rintro (h | h | h) <;> simp [h]
theorem insU_pw {x : Int} : ∀ {l : List Int}, l.Pairwise (· < ·) → (insU x l).Pairwise (· < ·)
  | [], _ => by simp [insU]
  | y :: r, h => by
    have h2 := List.pairwise_cons.mp h
    unfold insU
    split
    · rename_i c
      refine List.pairwise_cons.mpr ⟨fun z hz => ?_, h⟩
      rcases List.mem_cons.mp hz with rfl | hz
      · exact c
      · exact Int.lt_trans c (h2.1 z hz)
    · split
      · exact h
      · rename_i c1 c2
        refine List.pairwise_cons.mpr ⟨fun z hz => ?_, insU_pw h2.2⟩
        rcases insU_mem.mp hz with rfl | hz
        · omega
        · exact h2.1 z hz
theorem sortU_mem {k : Int} : ∀ {l : List Int}, k ∈ sortU l ↔ k ∈ l
  | [] => Iff.rfl
  | x :: r => by
    show k ∈ insU x (sortU r) ↔ _
    rw [insU_mem, sortU_mem, List.mem_cons]
theorem sortU_pw : ∀ {l : List Int}, (sortU l).Pairwise (· < ·)
  | [] => List.Pairwise.nil
  | x :: r => insU_pw sortU_pw
theorem pw_uniq : ∀ {a b : List Int}, a.Pairwise (· < ·) → b.Pairwise (· < ·) → (∀ k, k ∈ a ↔ k ∈ b) → a = b
  | [], [], _, _, _ => rfl
  | [], y :: b, _, _, h => absurd ((h y).mpr List.mem_cons_self) (fun z => nomatch z)
  | x :: a, [], _, _, h => absurd ((h x).mp List.mem_cons_self) (fun z => nomatch z)
  | x :: a, y :: b, h1, h2, h => by
    have a1 := List.pairwise_cons.mp h1
    have a2 := List.pairwise_cons.mp h2
    have e : x = y := by
      rcases List.mem_cons.mp ((h x).mp List.mem_cons_self) with e | e
      · exact e
      · rcases List.mem_cons.mp ((h y).mpr List.mem_cons_self) with e2 | e2
        · exact e2.symm
        · have := a2.1 x e
          have := a1.1 y e2
          omega
    subst e
    rw [pw_uniq a1.2 a2.2 fun k => ?_]
    constructor
    · intro hk
      rcases List.mem_cons.mp ((h k).mp (List.mem_cons_of_mem _ hk)) with e | e
      · have := a1.1 k hk; omega
      · exact e
    · intro hk
      rcases List.mem_cons.mp ((h k).mpr (List.mem_cons_of_mem _ hk)) with e | e
      · have := a2.1 k hk; omega
      · exact e
theorem insI_perm {x : Int} : ∀ {l : List Int}, (insI x l).Perm (x :: l)
  | [] => List.Perm.refl _
  | y :: r => by
    unfold insI
    split
    · exact List.Perm.refl _
    · exact (List.Perm.cons y insI_perm).trans (List.Perm.swap x y r)
theorem insI_pw {x : Int} : ∀ {l : List Int}, l.Pairwise (· ≤ ·) → (insI x l).Pairwise (· ≤ ·)
  | [], _ => by simp [insI]
  | y :: r, h => by
    have h2 := List.pairwise_cons.mp h
    unfold insI
    split
    · rename_i c
      refine List.pairwise_cons.mpr ⟨fun z hz => ?_, h⟩
      rcases List.mem_cons.mp hz with rfl | hz
      · exact c
      · exact Int.le_trans c (h2.1 z hz)
    · rename_i c
      refine List.pairwise_cons.mpr ⟨fun z hz => ?_, insI_pw h2.2⟩
      rcases List.mem_cons.mp (insI_perm.mem_iff.mp hz) with rfl | hz
      · omega
      · exact h2.1 z hz
theorem sortI_perm : ∀ {l : List Int}, (sortI l).Perm l
  | [] => List.Perm.refl _
  | x :: r => insI_perm.trans (List.Perm.cons x sortI_perm)
theorem sortI_pw : ∀ {l : List Int}, (sortI l).Pairwise (· ≤ ·)
  | [] => List.Pairwise.nil
  | x :: r => insI_pw sortI_pw
theorem perm_uniq : ∀ {a b : List Int}, a.Pairwise (· ≤ ·) → b.Pairwise (· ≤ ·) → a.Perm b → a = b
  | [], b, _, _, h => (List.Perm.nil_eq h)
  | x :: a, [], _, _, h => absurd h.length_eq (by simp)
  | x :: a, y :: b, h1, h2, h => by
    have a1 := List.pairwise_cons.mp h1
    have a2 := List.pairwise_cons.mp h2
    have e : x = y := by
      rcases List.mem_cons.mp (h.mem_iff.mp List.mem_cons_self) with e | e
      · exact e
      · rcases List.mem_cons.mp (h.mem_iff.mpr List.mem_cons_self) with e2 | e2
        · exact e2.symm
        · have := a2.1 x e
          have := a1.1 y e2
          omega
    subst e
    rw [perm_uniq a1.2 a2.2 ((List.perm_cons x).mp h)]
theorem maxI_spec : ∀ (l : List Int) (m : Int), (maxI m l = m ∨ maxI m l ∈ l) ∧ m ≤ maxI m l ∧ ∀ y ∈ l, y ≤ maxI m l
  | [], m => ⟨.inl rfl, Int.le_refl _, fun _ z => nomatch z⟩
  | x :: r, m => by
    obtain ⟨h1, h2, h3⟩ := maxI_spec r (if m < x then x else m)
    unfold maxI
    refine ⟨?_, ?_, fun y hy => ?_⟩
    · rcases h1 with e | e
      · rw [e]
        split
        · exact .inr List.mem_cons_self
        · exact .inl rfl
      · exact .inr (List.mem_cons_of_mem _ e)
    · refine Int.le_trans ?_ h2
      split <;> omega
    · rcases List.mem_cons.mp hy with rfl | hy
      · refine Int.le_trans ?_ h2
        split <;> omega
      · exact h3 y hy
theorem minI_spec : ∀ (l : List Int) (m : Int), (minI m l = m ∨ minI m l ∈ l) ∧ minI m l ≤ m ∧ ∀ y ∈ l, minI m l ≤ y
  | [], m => ⟨.inl rfl, Int.le_refl _, fun _ z => nomatch z⟩
  | x :: r, m => by
    obtain ⟨h1, h2, h3⟩ := minI_spec r (if x < m then x else m)
    unfold minI
    refine ⟨?_, ?_, fun y hy => ?_⟩
    · rcases h1 with e | e
      · rw [e]
        split
        · exact .inr List.mem_cons_self
        · exact .inl rfl
      · exact .inr (List.mem_cons_of_mem _ e)
    · refine Int.le_trans h2 ?_
      split <;> omega
    · rcases List.mem_cons.mp hy with rfl | hy
      · refine Int.le_trans h2 ?_
        split <;> omega
      · exact h3 y hy
theorem max_eq {n m : Int} {r : List Int} (h1 : m ∈ n :: r) (h2 : ∀ y, y ∈ n :: r → y ≤ m) : m = maxI n r := by
  obtain ⟨a, b, c⟩ := maxI_spec r n
  have hm : maxI n r ∈ n :: r := a.elim (fun e => by rw [e]; exact List.mem_cons_self) (fun e => List.mem_cons_of_mem _ e)
  have := h2 _ hm
  rcases List.mem_cons.mp h1 with e | e
  · omega
  · have := c m e; omega
theorem min_eq {n m : Int} {r : List Int} (h1 : m ∈ n :: r) (h2 : ∀ y, y ∈ n :: r → m ≤ y) : m = minI n r := by
  obtain ⟨a, b, c⟩ := minI_spec r n
  have hm : minI n r ∈ n :: r := a.elim (fun e => by rw [e]; exact List.mem_cons_self) (fun e => List.mem_cons_of_mem _ e)
  have := h2 _ hm
  rcases List.mem_cons.mp h1 with e | e
  · omega
  · have := c m e; omega
theorem rps_ofInts {K : PySem.W.Frag} {F : Addr → Prop} {H : Hp} : ∀ ns : List Int, Rps K F H (ns.map V.int) (ns.map D.int)
  | [] => .nil
  | n :: ns => .cons (.int n) (rps_ofInts ns)
theorem CallR.or {X : Cx} {f : Value} {r1 r2 : List V → Hp → VK → Prop} (h1 : CallR X f r1) (h2 : CallR X f r2) : CallR X f (fun vs H Q => r1 vs H Q ∨ r2 vs H Q) :=
  fun pins s σ H xs us Q I hv h => h.elim (fun h => h1 pins s σ H xs us Q I hv h) (fun h => h2 pins s σ H xs us Q I hv h)
def rMax1 (K : PySem.W.Frag) : List V → Hp → VK → Prop := fun vs H Q => rMax K vs H Q ∨ rMaxT K vs H Q
theorem opk_max1 : OpK Z .max1 (rMax1 Z.K) := by
  intro F H G vs ds m Q wf hg rps h q
  change pMax1 ds = some m at h
  unfold pMax1 at h
  split at h
  · rename_i l
    obtain ⟨v, rfl, ra⟩ := rps1 rps
    split at h
    · rename_i n r e
      cases h
      obtain ⟨p, xs, rfl, h1, z1, q1⟩ := rp_lst ra
      cases rps_intsD q1 e
      refine .inl ⟨p, n :: r, rfl, sqL h1, Nat.succ_pos _, fun m h1 h2 => ?_⟩
      rw [max_eq h1 h2]
      exact pst_d wf q (.int _)
    · cases h
  · rename_i l
    obtain ⟨v, rfl, ra⟩ := rps1 rps
    split at h
    · rename_i n r e
      cases h
      obtain ⟨p, xs, rfl, h1, z1, q1⟩ := rp_tup ra
      cases rps_intsD q1 e
      refine .inr ⟨p, n :: r, rfl, sqT h1, Nat.succ_pos _, fun m h1 h2 => ?_⟩
      rw [max_eq h1 h2]
      exact pst_d wf q (.int _)
    · cases h
  · cases h
theorem opk_min1 : OpK Z .min1 (rMin Z.K) := by
  intro F H G vs ds m Q wf hg rps h q
  change pMin1 ds = some m at h
  unfold pMin1 at h
  split at h
  · rename_i l
    obtain ⟨v, rfl, ra⟩ := rps1 rps
    split at h
    · rename_i n r e
      cases h
      obtain ⟨p, xs, rfl, h1, z1, q1⟩ := rp_lst ra
      cases rps_intsD q1 e
      refine ⟨p, n :: r, rfl, sqL h1, Nat.succ_pos _, fun m h1 h2 => ?_⟩
      rw [min_eq h1 h2]
      exact pst_d wf q (.int _)
    · cases h
  · cases h
def rSortedDat (K : PySem.W.Frag) : List V → Hp → VK → Prop := fun vs H Q => ∃ (a : Addr) (xs : List V) (ps : List PyData) (fi : Bool), vs = [V.ref a] ∧ SqL K H a xs ∧ DpAll K H xs ps ∧ (∀ p ∈ ps, fstK fi p ∧ tyT p = true ∧ p.depth ≤ 60) ∧ (∀ p ∈ ps, ∀ q ∈ ps, PySem.W.alike p q = true) ∧
  ∀ p, H p = none → Q (.ref p) (upd H p (.lst ((sortS (fun a b => PySem.W.dataLt a.2 b.2) (xs.zip ps)).map (·.1))))
theorem dp_len {K : PySem.W.Frag} {H : Hp} : ∀ {xs : List V} {ps : List PyData}, DpAll K H xs ps → xs.length = ps.length
  | _, _, .nil => rfl
  | _, _, .cons _ r => congrArg (· + 1) (dp_len r)
theorem dp_zip {K : PySem.W.Frag} {H : Hp} : ∀ {xs : List V} {ps : List PyData} {us : List Value}, DpAll K H xs ps → Vals xs us → ∀ z ∈ us.zip ps, ∃ x, RelV x z.1 ∧ Dp K H x z.2
  | _, _, _, .nil, _, z, hz => by simp at hz
  | _, _, _, .cons h r, .cons rv rs, z, hz => by
    rw [List.zip_cons_cons] at hz
    rcases List.mem_cons.mp hz with rfl | hz
    · exact ⟨_, rv, h⟩
    · exact dp_zip r rs z hz
theorem dp_ref {K : PySem.W.Frag} {H : Hp} {fi : Bool} : ∀ {xs : List V} {ps : List PyData}, DpAll K H xs ps → (∀ p ∈ ps, fstK fi p) → ∀ x ∈ xs, ∃ a, x = V.ref a
  | _, _, .nil, _, x, hx => nomatch hx
  | _, _, .cons h r, hp, x, hx => by
    rcases List.mem_cons.mp hx with rfl | hx
    · have q := hp _ List.mem_cons_self
      cases h with
      | tup => exact ⟨_, rfl⟩
      | lst => exact ⟨_, rfl⟩
      | non => exact q.elim
      | bl => exact q.elim
      | int => exact q.elim
      | str => exact q.elim
    · exact dp_ref r (fun p hp' => hp p (List.mem_cons_of_mem _ hp')) x hx
open Classical in
noncomputable def keyOf (l : List (Value × PyData)) (u : Value) : PyData := if h : ∃ p, (u, p) ∈ l then h.choose else .none
theorem keyOf_eq {l : List (Value × PyData)} (hu : ∀ u p q, (u, p) ∈ l → (u, q) ∈ l → p = q) {z : Value × PyData} (hz : z ∈ l) : keyOf l z.1 = z.2 := by
  have h : ∃ p, (z.1, p) ∈ l := ⟨z.2, hz⟩
  unfold keyOf
  rw [dif_pos h]
  exact hu _ _ _ h.choose_spec hz
theorem zip_fst {α β : Type} : ∀ {l : List α} {m : List β}, l.length = m.length → (l.zip m).map (·.1) = l
  | [], [], _ => rfl
  | a :: l, b :: m, h => by rw [List.zip_cons_cons, List.map_cons, zip_fst (by simpa using h)]
theorem zip_snd {α β : Type} : ∀ {l : List α} {m : List β}, l.length = m.length → (l.zip m).map (·.2) = m
  | [], [], _ => rfl
  | a :: l, b :: m, h => by rw [List.zip_cons_cons, List.map_cons, zip_snd (by simpa using h)]
theorem zip_map_l {α β γ : Type} (f : α → γ) : ∀ (l : List α) (m : List β), (l.map f).zip m = (l.zip m).map fun z => (f z.1, z.2)
  | [], _ => by simp
  | _ :: _, [] => by simp
  | a :: l, b :: m => by rw [List.map_cons, List.zip_cons_cons, List.zip_cons_cons, List.map_cons, zip_map_l f l m]
theorem cr_sortedDat {X : Cx} (hx : X.A.units + 65 < cLine) : CallR X (.builtin "sorted") (rSortedDat X.K) := by
  intro pins s σ H vs us Q I r h
  obtain ⟨a, xs, ps, fi, rfl, hs, hd, hp, ha, q⟩ := h
  obtain ⟨its, rv, hl, hz⟩ := I.list hs
  obtain ⟨u, rfl, ru⟩ := L2.vals1 r
  have ru : u = Value.ref a := ru
  subst ru
  obtain ⟨e1, e2⟩ := refs_back rv (dp_ref hd fun p hp' => (hp p hp').1)
  have hlen : its.length = ps.length := (Vals.length rv).symm.trans (dp_len hd)
  have rd : ∀ z ∈ its.zip ps, ∃ as, Reads s.heap z.1 z.2 as := fun z hz => by
    obtain ⟨x, rx, dx⟩ := dp_zip hd rv z hz
    exact Dp.reads I z.2 x z.1 dx rx
  have hps : ∀ z ∈ its.zip ps, z.2 ∈ ps := fun z hz => (List.of_mem_zip (a := z.1) (b := z.2) hz).2
  have uq : ∀ u p q, (u, p) ∈ its.zip ps → (u, q) ∈ its.zip ps → p = q := fun u p q h1 h2 => by
    obtain ⟨as, r1⟩ := rd _ h1
    obtain ⟨bs, r2⟩ := rd _ h2
    exact PySem.W.alike_unique p q u as bs (ha p (hps _ h1) q (hps _ h2)) r1 r2
  have hk : ∀ z ∈ its.zip ps, keyOf (its.zip ps) z.1 = z.2 := fun z hz => keyOf_eq uq hz
  have mem : ∀ v ∈ its, ∃ p, (v, p) ∈ its.zip ps := fun v hv => by
    have : v ∈ (its.zip ps).map (·.1) := by rw [zip_fst hlen]; exact hv
    obtain ⟨z, hz, rfl⟩ := List.mem_map.mp this
    exact ⟨z.2, hz⟩
  have lenX : its.length = xs.length := (Vals.length rv).symm
  refine sorted_dataO (k := keyOf (its.zip ps)) (fi := fi) hl.isList (by rw [lenX]; exact hz) (fun v hv => ?_) (fun v hv u hu => ?_) (fun v hv => ?_) fun h' d out h1 h2 kp hd' hn => ?_
  · obtain ⟨p, hp'⟩ := mem v hv
    obtain ⟨as, r1⟩ := rd _ hp'
    have e := hk _ hp'
    dsimp only at e
    rw [e]
    exact ⟨as, r1, (hp p (hps _ hp')).1, (hp p (hps _ hp')).2.1⟩
  · obtain ⟨p, hp'⟩ := mem v hv
    obtain ⟨q', hq'⟩ := mem u hu
    have e := hk _ hp'
    have e' := hk _ hq'
    dsimp only at e e'
    rw [e, e']
    exact ha p (hps _ hp') q' (hps _ hq')
  · obtain ⟨p, hp'⟩ := mem v hv
    have e := hk _ hp'
    dsimp only at e
    rw [e]
    have := (hp p (hps _ hp')).2.2
    show X.A.units + 1 + 1 + p.depth < cLine
    omega
  · obtain ⟨n, hn⟩ := hn
    have so := sortS_ok (swo_d (keyOf (its.zip ps))) its
    have eo : out = sortS (fun u v => PySem.W.dataLt (keyOf (its.zip ps) u) (keyOf (its.zip ps) v)) its := SrtO.stb_uniq (swo_d (keyOf (its.zip ps))) h1 so.1 (h2.trans ⟨so.2.perm.symm, fun x => (so.2.cls x).symm⟩)
    have es : sortS (fun u v => PySem.W.dataLt (keyOf (its.zip ps) u) (keyOf (its.zip ps) v)) ((its.zip ps).map (·.1)) = (sortS (fun a b => PySem.W.dataLt a.2 b.2) (its.zip ps)).map (·.1) := sortS_map fun a ha b hb => by rw [hk a ha, hk b hb]
    rw [zip_fst hlen] at es
    have ez : xs.zip ps = (its.zip ps).map fun z => (backV z.1, z.2) := by
      rw [e1]
      exact zip_map_l backV its ps
    have ey : (sortS (fun a b => PySem.W.dataLt a.2 b.2) (xs.zip ps)).map (·.1) = out.map backV := by
      rw [ez, sortS_map (lt := fun a b => PySem.W.dataLt a.2 b.2) fun a _ b _ => rfl, eo, es, List.map_map, List.map_map]
      rfl
    have h3 : ∀ u ∈ out, ∃ a, u = Value.ref a := fun u hu => e2 u (h2.perm.mem_iff.mp hu)
    refine ⟨.ref d, upd H d (.lst (out.map backV)), I.laid kp hd' ⟨?_, out, n, vals_back h3, hn⟩, rfl, ?_⟩
    · rw [List.length_map, h2.len, lenX]; exact hz
    · rw [← ey]
      exact q d (HOk.fresh I.hok hd')
theorem cr_or {X : Cx} {f : Value} {r1 r2 : List V → Hp → VK → Prop} (h1 : CallR X f r1) (h2 : CallR X f r2) : CallR X f (fun vs H Q => r1 vs H Q ∨ r2 vs H Q) := fun pins s σ H vs us Q I r h => h.elim (h1 pins s σ H vs us Q I r) (h2 pins s σ H vs us Q I r)
theorem toPs_map : ∀ {l : List D} {ps : List PyData}, toPs l = some ps → ps = l.map toPD
  | [], ps, h => by cases h; rfl
  | d :: r, ps, h => by
    have h : (match toP d, toPs r with | some x, some xs => some (x :: xs) | _, _ => none) = some ps := h
    cases e : toP d with
    | none => rw [e] at h; cases h
    | some x =>
      rw [e] at h
      cases e2 : toPs r with
      | none => rw [e2] at h; cases h
      | some xs =>
        rw [e2] at h
        cases h
        rw [toPs_map e2, List.map_cons]
        have : toPD d = x := by unfold toPD; rw [e]; rfl
        rw [this]
theorem rps_pairs {K : PySem.W.Frag} {F : Addr → Prop} {H : Hp} : ∀ {l : List (V × D)}, (∀ z ∈ l, Rp K F H z.1 z.2) → Rps K F H (l.map (·.1)) (l.map (·.2))
  | [], _ => .nil
  | z :: l, h => .cons (h z List.mem_cons_self) (rps_pairs fun y hy => h y (List.mem_cons_of_mem _ hy))
theorem rps_zip {K : PySem.W.Frag} {F : Addr → Prop} {H : Hp} : ∀ {xs : List V} {l : List D}, Rps K F H xs l → ∀ z ∈ xs.zip l, Rp K F H z.1 z.2
  | _, _, .nil, z, hz => by simp at hz
  | _, _, .cons h r, z, hz => by
    rw [List.zip_cons_cons] at hz
    rcases List.mem_cons.mp hz with rfl | hz
    · exact h
    · exact rps_zip r z hz
theorem zip_map_r {α β γ : Type} (f : β → γ) : ∀ (l : List α) (m : List β), l.zip (m.map f) = (l.zip m).map fun z => (z.1, f z.2)
  | [], _ => by simp
  | _ :: _, [] => by simp
  | a :: l, b :: m => by rw [List.map_cons, List.zip_cons_cons, List.zip_cons_cons, List.map_cons, zip_map_r f l m]
theorem opk_sorted : OpK Z .sorted (fun vs H Q => rSortedI Z.K vs H Q ∨ rSortedDat Z.K vs H Q) := by
  intro F H G vs ds m Q wf hg rps h q
  change pSorted ds = some m at h
  unfold pSorted at h
  split at h
  · rename_i l
    obtain ⟨v, rfl, ra⟩ := rps1 rps
    cases e : intsD l with
    | some ns =>
      rw [e] at h
      cases h
      obtain ⟨p, xs, rfl, h1, z1, q1⟩ := rp_lst ra
      cases rps_intsD q1 e
      refine .inl ⟨p, ns, rfl, sqL h1, fun ns' p2 hp hs hn => ?_⟩
      rw [perm_uniq hs sortI_pw (hp.trans sortI_perm.symm)]
      refine pst_L wf hg q (rps_ofInts _) ?_ p2 hn
      rw [List.length_map, sortI_perm.length_eq]
      rw [List.length_map] at z1
      exact z1
    | none =>
      rw [e] at h
      cases e2 : toPs l with
      | none => rw [e2] at h; cases h
      | some ps =>
        rw [e2] at h
        have h : (if okSort ps = true then some (M.lst ((sortD l).map M.d)) else none) = some m := h
        split at h
        case isFalse => cases h
        rename_i ho
        cases h
        obtain ⟨p, xs, rfl, h1, z1, q1⟩ := rp_lst ra
        unfold okSort at ho
        rw [Bool.and_eq_true, Bool.or_eq_true] at ho
        obtain ⟨ho1, ho2⟩ := ho
        have hf : ∃ fi, ∀ p ∈ ps, fstK fi p ∧ tyT p = true ∧ p.depth ≤ 60 := by
          rcases ho1 with ho1 | ho1
          · refine ⟨true, fun p hp => ?_⟩
            have := List.all_eq_true.mp ho1 p hp
            simp only [Bool.and_eq_true, decide_eq_true_eq] at this
            exact ⟨fstB_ok this.1, this.2⟩
          · refine ⟨false, fun p hp => ?_⟩
            have := List.all_eq_true.mp ho1 p hp
            simp only [Bool.and_eq_true, decide_eq_true_eq] at this
            exact ⟨fstB_ok this.1, this.2⟩
        obtain ⟨fi, hf⟩ := hf
        refine .inr ⟨p, xs, ps, fi, rfl, sqL h1, dps_of q1 e2, hf, fun p hp q hq => List.all_eq_true.mp (List.all_eq_true.mp ho2 p hp) q hq, ?_⟩
        have lenX : xs.length = l.length := q1.len
        have ew : xs.zip ps = (xs.zip l).map fun z => (z.1, toPD z.2) := by rw [toPs_map e2]; exact zip_map_r toPD xs l
        have e1 : (sortS (fun a b => PySem.W.dataLt a.2 b.2) (xs.zip ps)).map (·.1) = (sortS (fun a b => PySem.W.dataLt (toPD a.2) (toPD b.2)) (xs.zip l)).map (·.1) := by
          rw [ew, sortS_map (lt := fun a b => PySem.W.dataLt (toPD a.2) (toPD b.2)) fun a _ b _ => rfl, List.map_map]
          rfl
        have e3 : sortD l = (sortS (fun a b => PySem.W.dataLt (toPD a.2) (toPD b.2)) (xs.zip l)).map (·.2) := by
          unfold sortD
          rw [← sortS_map (lt' := fun a b => PySem.W.dataLt (toPD a) (toPD b)) (f := fun z : V × D => z.2) (fun a _ b _ => rfl), zip_snd lenX]
        rw [e1]
        rw [e3] at q
        refine pst_L wf hg q (rps_pairs fun z hz => rps_zip q1 z (sortS_mem hz)) ?_
        rw [List.length_map, sortS_len, List.length_zip, lenX, Nat.min_self, ← lenX]
        exact z1
  · cases h
def rSset (K : PySem.W.Frag) (w : World) : List V → Hp → VK → Prop := fun vs H Q => rSetI K w vs H fun x H1 => rSortedSet w [x] H1 Q
theorem sortU_len : ∀ l : List Int, (sortU l).length ≤ l.length
  | [] => Nat.le_refl _
  | x :: r => by
    have h : ∀ l : List Int, (insU x l).length ≤ l.length + 1 := by
      intro l
      induction l with
      | nil => exact Nat.le_refl _
      | cons y s ih =>
        unfold insU
        split
        · exact Nat.le_refl _
        · split
          · exact Nat.le_succ _
          · show (insU x s).length + 1 ≤ s.length + 1 + 1; omega
    have h1 := h (sortU r)
    have h2 := sortU_len r
    show (insU x (sortU r)).length ≤ r.length + 1
    omega
theorem opk_sset : OpK Z .sset (rSset Z.K Z.w) := by
  intro F H G vs ds m Q wf hg rps h q
  change pSset ds = some m at h
  unfold pSset at h
  split at h
  · rename_i l
    obtain ⟨v, rfl, ra⟩ := rps1 rps
    split at h
    · rename_i ns e
      split at h
      · rename_i hl
        cases h
        obtain ⟨a, xs, rfl, h1, z1, q1⟩ := rp_tup ra
        cases rps_intsD q1 e
        refine ⟨a, ns, rfl, sqT h1, hl, fun p c hp hc => ?_⟩
        refine ⟨p, _, c, rfl, upd_same, by omega, fun ns' p2 hs hm hn hp2 => ?_⟩
        have en : ns' = sortU ns := pw_uniq hs sortU_pw fun k => by rw [hm k, decide_eq_true_eq, sortU_mem]
        subst en
        have st1 : Stp F H G F (upd H p (SetO Z.w p (fun j => decide (j ∈ ns)) c)) := Stp.new wf (fun a h => (hg a h).1) hp
        have wf1 := wf_upd (p := p) (o := SetO Z.w p (fun j => decide (j ∈ ns)) c) wf
        have hg1 : ∀ a, G a → upd H p (SetO Z.w p (fun j => decide (j ∈ ns)) c) a ≠ none ∧ ¬ F a := fun a ha => ⟨st1.trk a (hg a ha).1, (hg a ha).2⟩
        refine pst_L wf1 hg1 (fun v F' H' Lm st w r => q v F' H' Lm (st1.trans st) w r) (rps_ofInts _) ?_ p2 hp2
        rw [List.length_map, sizeLine_eq]
        have := sortU_len ns
        omega
      · cases h
    · cases h
  · cases h
def rLrange : List V → Hp → VK → Prop
  | [x], H, Q => ∃ n : Int, x = .int n ∧ RgOk 0 n ∧ ∀ q, H q = none → Q (.ref q) (upd H q (.lst (rgV 0 n)))
  | _, _, _ => False
theorem opk_lrange : OpK Z .lrange rLrange := by
  intro F H G vs ds m Q wf hg rps h q
  change pLrange ds = some m at h
  unfold pLrange at h
  split at h
  · rename_i n
    obtain ⟨v, rfl, ra⟩ := rps1 rps
    split at h
    · rename_i hc
      cases h
      cases rp_int ra
      have e62 : (2 : Int) ^ 62 = 4611686018427387904 := by decide
      rw [e62] at hc
      refine ⟨n, rfl, ⟨by omega, by omega, by omega, by omega, by omega⟩, fun p hp => ?_⟩
      have er : Rps Z.K F H (rgV 0 n) ((List.range n.toNat).map fun (i : Nat) => D.int (0 + (i : Int))) := by
        unfold rgV
        rw [Int.sub_zero]
        generalize List.range n.toNat = l
        induction l with
        | nil => exact .nil
        | cons a l ih => exact .cons (.int _) ih
      refine pst_L wf hg q er ?_ p hp
      rw [er.len, List.length_map, List.length_range, sizeLine_eq]
      omega
    · cases h
  · cases h
def rTrange : List V → Hp → VK → Prop
  | [x], H, Q => ∃ n : Int, x = .int n ∧ RgOk 0 n ∧ ∀ q, H q = none → Q (.ref q) (upd H q (.tup (rgV 0 n)))
  | _, _, _ => False
theorem opk_trange : OpK Z .trange rTrange := by
  intro F H G vs ds m Q wf hg rps h q
  change pTrange ds = some m at h
  unfold pTrange at h
  split at h
  · rename_i n
    obtain ⟨v, rfl, ra⟩ := rps1 rps
    split at h
    · rename_i hc
      cases h
      cases rp_int ra
      have e62 : (2 : Int) ^ 62 = 4611686018427387904 := by decide
      rw [e62] at hc
      have er : Rps Z.K F H (rgV 0 n) ((List.range n.toNat).map fun (i : Nat) => D.int (0 + (i : Int))) := by
        unfold rgV
        rw [Int.sub_zero]
        generalize List.range n.toNat = l
        induction l with
        | nil => exact .nil
        | cons a l ih => exact .cons (.int _) ih
      refine ⟨n, rfl, ⟨by omega, by omega, by omega, by omega, by omega⟩, pst_T wf hg q er ?_⟩
      rw [er.len, List.length_map, List.length_range, sizeLine_eq]
      omega
    · cases h
  · cases h
end PV
/-! # PV8: the syntax of operators -/
namespace PV
open PySem PySem.Spec PyProof.Rows L2
variable {Z : Wd} {n : Nat} {N : List Str} {sc : Scope} {W : WX}
def glB (sc : Scope) (x : Str) : Bool := decide (sc.names.lookup x = some .globalImplicit)
/-- names of built-ins that the module leaves free -/
def bnames : List Str := ["isinstance", "len", "range", "zip", "enumerate", "tuple", "list", "int", "bool", "str", "dict", "abs", "min", "max", "all", "any", "sum", "sorted", "set", "repr"]
def binA (op : Operator) : Expr → Option (List Expr)
  | .BinOp a o b _ => if o = op then some [a, b] else none
  | _ => none
def cmpA (op : CmpOp) : Expr → Option (List Expr)
  | .Compare a [o] [b] _ => if o = op ∧ behindInMarks op b = false then some [a, b] else none
  | _ => none
def isNA (op : CmpOp) : Expr → Option (List Expr)
  | .Compare a [o] [.Constant .none _ _] _ => if o = op then some [a] else none
  | _ => none
def isBA (op : CmpOp) (k : Bool) : Expr → Option (List Expr)
  | .Compare a [o] [.Constant (.bool b) _ _] _ => if o = op ∧ b = k then some [a] else none
  | _ => none
def callA (sc : Scope) (x : Str) (k : Nat) : Expr → Option (List Expr)
  | .Call (.Name y _) as [] _ => if y = x ∧ glB sc x = true ∧ as.all noStar = true ∧ as.length = k + 1 then some as else none
  | _ => none
def plainIx : Expr → Bool
  | .Slice _ _ _ _ => false
  | .Constant _ _ _ => true
  | .Name _ _ => true
  | .BinOp _ _ _ _ => true
  | .UnaryOp _ _ _ => true
  | .Call _ _ _ _ => true
  | .Subscript _ _ _ => true
  | .Attribute _ _ _ => true
  | _ => false
def ixA : Expr → Option (List Expr)
  | .Subscript a b _ => if plainIx b = true then some [a, b] else none
  | _ => none
def revA : Expr → Option (List Expr)
  | .Subscript a (.Slice none none (some (.UnaryOp .USub (.Constant (.int 1) _ _) _)) _) _ => some [a]
  | _ => none
def slA : Bool → Bool → Expr → Option (List Expr)
  | true, false, .Subscript a (.Slice (some l) none none _) _ => some [a, l]
  | false, true, .Subscript a (.Slice none (some h) none _) _ => some [a, h]
  | _, _, _ => none
def negA : Expr → Option (List Expr)
  | .UnaryOp .USub a _ => some [a]
  | _ => none
def tyName (sc : Scope) (t : String) : Expr → Bool
  | .Name y _ => decide (y = Str.ofString t) && glB sc y && okTys.contains t
  | _ => false
def tyNames (sc : Scope) : List String → List Expr → Bool
  | [], [] => true
  | t :: ts, e :: es => tyName sc t e && tyNames sc ts es
  | _, _ => false
def isiA (sc : Scope) : Bool → List String → Expr → Option (List Expr)
  | true, [t], .Call (.Name y _) [a, c] [] _ => if y = "isinstance" ∧ glB sc y = true ∧ noStar a = true ∧ tyName sc t c = true then some [a] else none
  | false, ts, .Call (.Name y _) [a, .Tuple cs _ _] [] _ => if y = "isinstance" ∧ glB sc y = true ∧ noStar a = true ∧ tyNames sc ts cs = true then some [a] else none
  | _, _, _ => none
def tupA : Expr → Option (List Expr)
  | .Tuple es _ _ => if es.all noStar = true then some es else none
  | _ => none
def two (sc : Scope) (f g : Str) : Expr → Option (List Expr)
  | .Call (.Name x _) [.Call (.Name y _) [a] [] _] [] _ => if x = f ∧ y = g ∧ glB sc f = true ∧ glB sc g = true ∧ noStar a = true then some [a] else none
  | _ => none
def opArgs (sc : Scope) : Op → Expr → Option (List Expr)
  | .add => binA .Add
  | .sub => binA .Sub
  | .mul => binA .Mult
  | .fdiv => binA .FloorDiv
  | .mod => binA .Mod
  | .pow => binA .Pow
  | .neg => negA
  | .lt => cmpA .Lt
  | .le => cmpA .LtE
  | .gt => cmpA .Gt
  | .ge => cmpA .GtE
  | .eq => cmpA .Eq
  | .ne => cmpA .NotEq
  | .isin => cmpA .In
  | .notin => cmpA .NotIn
  | .isN => isNA .Is
  | .notN => isNA .IsNot
  | .isB b => isBA .Is b
  | .notB b => isBA .IsNot b
  | .ix => ixA
  | .rev => revA
  | .sl lo hi => slA lo hi
  | .len => callA sc "len" 0
  | .tuple => callA sc "tuple" 0
  | .list => callA sc "list" 0
  | .int => callA sc "int" 0
  | .abs => callA sc "abs" 0
  | .min2 => callA sc "min" 1
  | .max2 => callA sc "max" 1
  | .all => callA sc "all" 0
  | .any => callA sc "any" 0
  | .sum => callA sc "sum" 0
  | .sset => two sc "sorted" "set"
  | .sorted => callA sc "sorted" 0
  | .max1 => callA sc "max" 0
  | .min1 => callA sc "min" 0
  | .lrange => two sc "list" "range"
  | .trange => two sc "tuple" "range"
  | .isi one ts => isiA sc one ts
  | .tupd => tupA
/-- the module's names -/
structure Wok (Z : Wd) : Prop where
  free : ∀ x ∈ bnames, Z.mg x = none
def OpS (Z : Wd) (n : Nat) (N : List Str) (sc : Scope) (W : WX) (o : Op) : Prop :=
  ∀ es ast, opArgs sc o ast = some es → ∃ rr, OpK Z o rr ∧ ∀ ts X, Gd Z n N sc W X → PEs X es ts →
    PE X ast (fun σ H Q => tAll ts σ H fun vs H' => rr vs H' Q) ∧ PT X ast (tB (fun σ H Q => tAll ts σ H fun vs H' => rr vs H' Q))
theorem ops_plain {o : Op} (h : ∀ es ast, opArgs sc o ast = some es → plainT ast = true ∧ ∃ rr, OpK Z o rr ∧ ∀ ts X, Gd Z n N sc W X → PEs X es ts → PE X ast (fun σ H Q => tAll ts σ H fun vs H' => rr vs H' Q)) : OpS Z n N sc W o := by
  intro es ast e
  obtain ⟨p, rr, k, q⟩ := h es ast e
  exact ⟨rr, k, fun ts X g hs => ⟨q ts X g hs, pt_plain (q ts X g hs) p⟩⟩
theorem pes1 {X : Cx} {a : Expr} {ts : List TE} (h : PEs X [a] ts) : ∃ t, ts = [t] ∧ PE X a t := by
  cases h with
  | cons h r => cases r; exact ⟨_, rfl, h⟩
theorem pes2 {X : Cx} {a b : Expr} {ts : List TE} (h : PEs X [a, b] ts) : ∃ t u, ts = [t, u] ∧ PE X a t ∧ PE X b u := by
  cases h with
  | cons h r =>
    obtain ⟨u, rfl, h2⟩ := pes1 r
    exact ⟨_, _, rfl, h, h2⟩
theorem pes3 {X : Cx} {a b c : Expr} {ts : List TE} (h : PEs X [a, b, c] ts) : ∃ t u w, ts = [t, u, w] ∧ PE X a t ∧ PE X b u ∧ PE X c w := by
  cases h with
  | cons h r =>
    obtain ⟨u, w, rfl, h2, h3⟩ := pes2 r
    exact ⟨_, _, _, rfl, h, h2, h3⟩
theorem binA_some {op : Operator} {ast : Expr} {es : List Expr} (h : binA op ast = some es) : ∃ a b p, ast = .BinOp a op b p ∧ es = [a, b] := by
  unfold binA at h
  split at h
  · split at h
    · rename_i e
      subst e
      cases h
      exact ⟨_, _, _, rfl, rfl⟩
    · cases h
  · cases h
theorem cmpA_some {op : CmpOp} {ast : Expr} {es : List Expr} (h : cmpA op ast = some es) : ∃ a b p, ast = .Compare a [op] [b] p ∧ es = [a, b] ∧ behindInMarks op b = false := by
  unfold cmpA at h
  split at h
  · split at h
    · rename_i e
      obtain ⟨rfl, e⟩ := e
      cases h
      exact ⟨_, _, _, rfl, rfl, e⟩
    · cases h
  · cases h
theorem ops_bin {o : Op} {op : Operator} {r : R2} (e : ∀ ast, opArgs sc o ast = binA op ast) (k : OpK Z o (r2 r)) (ho : ∀ X, Gd Z n N sc W X → OpR X (binaryOp op) r) : OpS Z n N sc W o := by
  refine ops_plain fun es ast h => ?_
  rw [e] at h
  obtain ⟨a, b, p, rfl, rfl⟩ := binA_some h
  refine ⟨rfl, _, k, fun ts X g hs => ?_⟩
  obtain ⟨t, u, rfl, h1, h2⟩ := pes2 hs
  exact pe_op (ho X g) h1 h2
theorem ops_cmp {o : Op} {op : CmpOp} {r : R2} (e : ∀ ast, opArgs sc o ast = cmpA op ast) (k : OpK Z o (r2 r)) (ho : ∀ X, Gd Z n N sc W X → OpR X (compareOp op) r) : OpS Z n N sc W o := by
  intro es ast h
  rw [e] at h
  obtain ⟨a, b, p, rfl, rfl, hm⟩ := cmpA_some h
  refine ⟨_, k, fun ts X g hs => ?_⟩
  obtain ⟨t, u, rfl, h1, h2⟩ := pes2 hs
  exact ⟨pe_cmpR (ho X g) h1 h2 hm, pt_cmpR (ho X g) h1 h2 hm⟩
theorem isNA_some {op : CmpOp} {ast : Expr} {es : List Expr} (h : isNA op ast = some es) : ∃ a k p p2, ast = .Compare a [op] [.Constant .none k p] p2 ∧ es = [a] := by
  unfold isNA at h
  split at h
  · split at h
    · rename_i e
      subst e
      cases h
      exact ⟨_, _, _, _, rfl, rfl⟩
    · cases h
  · cases h
theorem isBA_some {op : CmpOp} {b : Bool} {ast : Expr} {es : List Expr} (h : isBA op b ast = some es) : ∃ a k p p2, ast = .Compare a [op] [.Constant (.bool b) k p] p2 ∧ es = [a] := by
  unfold isBA at h
  split at h
  · split at h
    · rename_i e
      obtain ⟨rfl, rfl⟩ := e
      cases h
      exact ⟨_, _, _, _, rfl, rfl⟩
    · cases h
  · cases h
theorem ops_isN : OpS Z n N sc W .isN := by
  intro es ast h
  obtain ⟨a, k, p, p2, rfl, rfl⟩ := isNA_some h
  refine ⟨_, opk_isN, fun ts X g hs => ?_⟩
  obtain ⟨t, rfl, h1⟩ := pes1 hs
  exact ⟨pe_cmpR op_isN h1 pe_non (nomark _), pt_cmpR op_isN h1 pe_non (nomark _)⟩
theorem ops_notN : OpS Z n N sc W .notN := by
  intro es ast h
  obtain ⟨a, k, p, p2, rfl, rfl⟩ := isNA_some h
  refine ⟨_, opk_notN, fun ts X g hs => ?_⟩
  obtain ⟨t, rfl, h1⟩ := pes1 hs
  exact ⟨pe_cmpR op_notN h1 pe_non (nomark _), pt_cmpR op_notN h1 pe_non (nomark _)⟩
theorem ops_isB {b : Bool} : OpS Z n N sc W (.isB b) := by
  intro es ast h
  obtain ⟨a, k, p, p2, rfl, rfl⟩ := isBA_some h
  refine ⟨_, opk_isB, fun ts X g hs => ?_⟩
  obtain ⟨t, rfl, h1⟩ := pes1 hs
  exact ⟨pe_cmpR op_isBl h1 pe_bl (nomark _), pt_cmpR op_isBl h1 pe_bl (nomark _)⟩
theorem ops_notB {b : Bool} : OpS Z n N sc W (.notB b) := by
  intro es ast h
  obtain ⟨a, k, p, p2, rfl, rfl⟩ := isBA_some h
  refine ⟨_, opk_notB, fun ts X g hs => ?_⟩
  obtain ⟨t, rfl, h1⟩ := pes1 hs
  exact ⟨pe_cmpR op_notBl h1 pe_bl (nomark _), pt_cmpR op_notBl h1 pe_bl (nomark _)⟩
theorem ops_neg : OpS Z n N sc W .neg := by
  refine ops_plain fun es ast h => ?_
  change negA ast = some es at h
  unfold negA at h
  split at h
  · cases h
    refine ⟨rfl, _, opk_neg, fun ts X g hs => ?_⟩
    obtain ⟨t, rfl, h1⟩ := pes1 hs
    exact pe_un un_neg h1
  · cases h
theorem plainIx_ok {b : Expr} (h : plainIx b = true) : PlainIx b := by
  intro o i
  cases b <;> first | rfl | cases h
theorem ops_ix : OpS Z n N sc W .ix := by
  refine ops_plain fun es ast h => ?_
  change ixA ast = some es at h
  unfold ixA at h
  split at h
  · split at h
    · rename_i hp
      cases h
      refine ⟨rfl, _, opk_ix, fun ts X g hs => ?_⟩
      obtain ⟨t, u, rfl, h1, h2⟩ := pes2 hs
      rw [← g.K]
      exact pe_ix (ix_list.or ix_tup) h1 h2 (plainIx_ok hp)
    · cases h
  · cases h
theorem ops_rev : OpS Z n N sc W .rev := by
  refine ops_plain fun es ast h => ?_
  change revA ast = some es at h
  unfold revA at h
  split at h
  · cases h
    refine ⟨rfl, _, opk_rev, fun ts X g hs => ?_⟩
    obtain ⟨t, rfl, h1⟩ := pes1 hs
    rw [← g.K]
    exact pe_rev h1
  · cases h
theorem ops_sl {lo hi : Bool} : OpS Z n N sc W (.sl lo hi) := by
  refine ops_plain fun es ast h => ?_
  change slA lo hi ast = some es at h
  unfold slA at h
  split at h
  · cases h
    refine ⟨rfl, _, opk_sl, fun ts X g hs => ?_⟩
    obtain ⟨t, u, rfl, h1, h2⟩ := pes2 hs
    rw [← g.K]
    exact pe_slice (sl_list.or sl_tupA) h1 (po_some h2) po_none
  · cases h
    refine ⟨rfl, _, opk_sl, fun ts X g hs => ?_⟩
    obtain ⟨t, u, rfl, h1, h2⟩ := pes2 hs
    rw [← g.K]
    exact pe_slice (sl_list.or sl_tupA) h1 po_none (po_some h2)
  · cases h
theorem gl_of {X : Cx} {x : Str} (g : Gd Z n N sc W X) (h : glB sc x = true) : Gl X x := by
  show X.env.scope.names.lookup x = _
  rw [g.hsc]
  exact of_decide_eq_true h
theorem callA_some {x : Str} {k : Nat} {ast : Expr} {es : List Expr} (h : callA sc x k ast = some es) : ∃ p p2 a as, ast = .Call (.Name x p) (a :: as) [] p2 ∧ es = a :: as ∧ glB sc x = true ∧ (a :: as).all noStar = true ∧ as.length = k := by
  unfold callA at h
  split at h
  · rename_i y p as p2
    split at h
    · rename_i e
      obtain ⟨rfl, e1, e2, e3⟩ := e
      cases as with
      | nil => cases e3
      | cons a as =>
        cases h
        exact ⟨_, _, a, as, rfl, rfl, e1, e2, by simpa using e3⟩
    · cases h
  · cases h
theorem all_cons_ns {a : Expr} {as : List Expr} (h : (a :: as).all noStar = true) : noStar a = true ∧ as.all noStar = true := by
  rw [List.all_cons, Bool.and_eq_true] at h; exact h
theorem ops_callB {o : Op} {x : Str} {id : String} {k : Nat} {rr : List V → Hp → VK → Prop} (hz : Wok Z) (hx : x ∈ bnames) (e : ∀ ast, opArgs sc o ast = callA sc x k ast) (kk : OpK Z o rr)
    (hc : ∀ X, Gd Z n N sc W X → CallR X (.builtin id) rr) (hv : bootBuiltins x = some (.builtin id)) (hn : x ≠ "__name__" := by decide) (hdb : (x == ("__debug__" : Str)) = false := by decide) : OpS Z n N sc W o := by
  refine ops_plain fun es ast h => ?_
  rw [e] at h
  obtain ⟨p, p2, a, as, rfl, rfl, h1, h2, _⟩ := callA_some h
  refine ⟨rfl, rr, kk, fun ts X g hs => ?_⟩
  exact pe_callB (hc X g) (gl_of g h1) (by rw [g.mg]; exact hz.free x hx) hv (hs.pa h2) hn hdb (star_cons (all_cons_ns h2).1) (star_none (all_cons_ns h2).2)
theorem ops_callT {o : Op} {x : Str} {id : String} {k : Nat} {rr : List V → Hp → VK → Prop} (hz : Wok Z) (hx : x ∈ bnames) (e : ∀ ast, opArgs sc o ast = callA sc x k ast) (kk : OpK Z o rr)
    (hc : ∀ X, Gd Z n N sc W X → CallR X (.type id) rr) (hv : bootBuiltins x = some (.type id)) (hn : x ≠ "__name__" := by decide) (hdb : (x == ("__debug__" : Str)) = false := by decide) : OpS Z n N sc W o := by
  refine ops_plain fun es ast h => ?_
  rw [e] at h
  obtain ⟨p, p2, a, as, rfl, rfl, h1, h2, _⟩ := callA_some h
  refine ⟨rfl, rr, kk, fun ts X g hs => ?_⟩
  exact pe_callTy (hc X g) (gl_of g h1) (by rw [g.mg]; exact hz.free x hx) hv (hs.pa h2) hn hdb (star_cons (all_cons_ns h2).1) (star_none (all_cons_ns h2).2)
theorem boot_tys : ∀ t ∈ okTys, bootBuiltins (Str.ofString t) = some (.type t) := by decide +kernel
theorem nm_tys : ∀ t ∈ okTys, Str.ofString t ≠ ("__name__" : Str) ∧ (Str.ofString t == ("__debug__" : Str)) = false ∧ Str.ofString t ∈ bnames := by decide +kernel
theorem pe_ty {X : Cx} {t : String} {e : Expr} (hz : Wok Z) (g : Gd Z n N sc W X) (h : tyName sc t e = true) : PE X e (tC (.ty t)) := by
  cases e with
  | Name y p =>
    simp only [tyName, Bool.and_eq_true, decide_eq_true_eq] at h
    obtain ⟨⟨rfl, h2⟩, h3⟩ := h
    have ht : t ∈ okTys := by simpa using h3
    obtain ⟨n1, n2, n3⟩ := nm_tys t ht
    exact pe_bltn (gl_of g h2) (by rw [g.mg]; exact hz.free _ n3) (boot_tys t ht) (show RelV (.ty t) (.type t) from rfl) n1 n2
  | _ => cases h
theorem tys_star : ∀ {ts : List String} {cs : List Expr}, tyNames sc ts cs = true → cs.all noStar = true
  | [], [], _ => rfl
  | t :: ts, c :: cs, h => by
    simp only [tyNames, Bool.and_eq_true] at h
    rw [List.all_cons, tys_star h.2, Bool.and_true]
    cases c <;> first | rfl | cases h.1
  | [], _ :: _, h => by cases h
  | _ :: _, [], h => by cases h
theorem pe_tys {X : Cx} (hz : Wok Z) (g : Gd Z n N sc W X) : ∀ {ts : List String} {cs : List Expr}, tyNames sc ts cs = true → PEs X cs (ts.map fun t => tC (.ty t))
  | [], [], _ => .nil
  | t :: ts, c :: cs, h => by
    simp only [tyNames, Bool.and_eq_true] at h
    exact .cons (pe_ty hz g h.1) (pe_tys hz g h.2)
  | [], _ :: _, h => by cases h
  | _ :: _, [], h => by cases h
theorem tAll_tys (σ : L2.St) (H : Hp) (Q : List V → Hp → Prop) : ∀ ts : List String, tAll (ts.map fun t => tC (.ty t)) σ H Q = Q (ts.map V.ty) H := by
  intro ts
  induction ts generalizing Q with
  | nil => rfl
  | cons t ts ih => exact ih fun xs H => Q (.ty t :: xs) H
theorem ops_isi {one : Bool} {ts : List String} (hz : Wok Z) : OpS Z n N sc W (.isi one ts) := by
  refine ops_plain fun es ast h => ?_
  change isiA sc one ts ast = some es at h
  unfold isiA at h
  split at h
  · rename_i t y p a c p2
    split at h
    · rename_i e
      obtain ⟨rfl, e1, e2, e3⟩ := e
      cases h
      refine ⟨rfl, _, opk_isi1, fun ts X g hs => ?_⟩
      obtain ⟨u, rfl, h1⟩ := pes1 hs
      have e4 : noStar c = true := by cases c <;> first | rfl | cases e3
      have pe := pe_callB (x := "isinstance") (p := p) (pos := p2) (r := rIsi X.K) call_isi (gl_of g e1) (by rw [g.mg]; exact hz.free _ (by decide +kernel)) (by decide +kernel) (pa_cons h1 (pa_cons (pe_ty hz g e3) pa_nil (star_cons e4)) (star_cons e2)) (by decide) (by decide) (star_cons e2) (star_none (by rw [List.all_cons, e4]; rfl))
      rw [g.K] at pe
      exact pe
    · cases h
  · rename_i y p a cs k p3 p2
    split at h
    · rename_i e
      obtain ⟨rfl, e1, e2, e3⟩ := e
      cases h
      refine ⟨rfl, _, opk_isiM, fun us X g hs => ?_⟩
      obtain ⟨u, rfl, h1⟩ := pes1 hs
      have pe := pe_callB (x := "isinstance") (p := p) (pos := p2) (r := rIsiT X.K) call_isiT (gl_of g e1) (by rw [g.mg]; exact hz.free _ (by decide +kernel)) (by decide +kernel) (pa_cons h1 (pa_cons (pe_tup (x1 := k) (pos := p3) ((pe_tys hz g e3).pa (tys_star e3))) pa_nil (star_cons rfl)) (star_cons e2)) (by decide) (by decide) (star_cons e2) (star_none rfl)
      rw [g.K] at pe
      refine PE.imp' pe fun σ H Q q => ?_
      show u σ H fun x H1 => tAll (ts.map fun t => tC (.ty t)) σ H1 fun xs H2 => xs.length ≤ sizeLine ∧ ∀ p, H2 p = none → rIsiT Z.K [x, .ref p] (upd H2 p (.tup xs)) Q
      simp only [tAll_tys]
      exact q
    · cases h
  · cases h
theorem ops_tupd : OpS Z n N sc W .tupd := by
  refine ops_plain fun es ast h => ?_
  change tupA ast = some es at h
  unfold tupA at h
  split at h
  · split at h
    · rename_i hs
      cases h
      refine ⟨rfl, _, opk_tupd, fun ts X g hp => ?_⟩
      exact pe_tup (hp.pa hs)
    · cases h
  · cases h
theorem two_some {f g : Str} {ast : Expr} {es : List Expr} (h : two sc f g ast = some es) : ∃ p p1 a p2 p3, ast = .Call (.Name f p) [.Call (.Name g p1) [a] [] p2] [] p3 ∧ es = [a] ∧ glB sc f = true ∧ glB sc g = true ∧ noStar a = true := by
  unfold two at h
  split at h
  · split at h
    · rename_i e
      obtain ⟨rfl, rfl, e1, e2, e3⟩ := e
      cases h
      exact ⟨_, _, _, _, _, rfl, rfl, e1, e2, e3⟩
    · cases h
  · cases h
theorem ops_sset (hz : Wok Z) : OpS Z n N sc W .sset := by
  refine ops_plain fun es ast h => ?_
  change two sc "sorted" "set" ast = some es at h
  obtain ⟨p, p1, a, p2, p3, rfl, rfl, h1, h2, h3⟩ := two_some h
  refine ⟨rfl, _, opk_sset, fun ts X g hs => ?_⟩
  obtain ⟨t, rfl, ha⟩ := pes1 hs
  have inner := pe_callTy (x := "set") (p := p1) (pos := p2) (cr_setI g.calm) (gl_of g h2) (by rw [g.mg]; exact hz.free _ (by decide +kernel)) (by decide +kernel) (pa_cons ha pa_nil (star_cons h3)) (by decide) (by decide) (star_cons h3) (star_none rfl)
  have outer := pe_callB (x := "sorted") (p := p) (pos := p3) (cr_sortedSet g.calm) (gl_of g h1) (by rw [g.mg]; exact hz.free _ (by decide +kernel)) (by decide +kernel) (pa_cons inner pa_nil (star_cons rfl)) (by decide) (by decide) (star_cons rfl) (star_none rfl)
  rw [g.K, g.w] at outer
  exact PE.imp' outer fun σ H Q q => q
theorem ops_lrange (hz : Wok Z) : OpS Z n N sc W .lrange := by
  refine ops_plain fun es ast h => ?_
  change two sc "list" "range" ast = some es at h
  obtain ⟨p, p1, a, p2, p3, rfl, rfl, h1, h2, h3⟩ := two_some h
  refine ⟨rfl, _, opk_lrange, fun ts X g hs => ?_⟩
  obtain ⟨t, rfl, ha⟩ := pes1 hs
  have inner := prg_1 (p := p1) (pos := p2) (gl_of g h2) (by rw [g.mg]; exact hz.free _ (by decide +kernel)) ha (na := star_cons h3)
  have outer := pe_listRg (p := p) (pos := p3) g.calm (gl_of g h1) (by rw [g.mg]; exact hz.free _ (by decide +kernel)) inner (star_cons rfl)
  exact PE.imp' outer fun σ H Q q => q
theorem ops_trange (hz : Wok Z) : OpS Z n N sc W .trange := by
  refine ops_plain fun es ast h => ?_
  change two sc "tuple" "range" ast = some es at h
  obtain ⟨p, p1, a, p2, p3, rfl, rfl, h1, h2, h3⟩ := two_some h
  refine ⟨rfl, _, opk_trange, fun ts X g hs => ?_⟩
  obtain ⟨t, rfl, ha⟩ := pes1 hs
  have inner := prg_1 (p := p1) (pos := p2) (gl_of g h2) (by rw [g.mg]; exact hz.free _ (by decide +kernel)) ha (na := star_cons h3)
  have outer := pe_tupRg (p := p) (pos := p3) g.calm (gl_of g h1) (by rw [g.mg]; exact hz.free _ (by decide +kernel)) inner (star_cons rfl)
  exact PE.imp' outer fun σ H Q q => q
theorem Gd.hu64 {X : Cx} (g : Gd Z n N sc W X) : X.A.units + 64 < cLine := Nat.lt_trans (Nat.lt_succ_self _) g.hu
theorem ops_all (hz : Wok Z) : ∀ o : Op, OpS Z n N sc W o
  | .add => ops_bin (fun _ => rfl) opk_add fun X g => by unfold rAdd; rw [← g.K]; exact op_add.or (op_catA.or (op_cat.or op_add_str))
  | .sub => ops_bin (fun _ => rfl) opk_sub fun X g => op_sub
  | .mul => ops_bin (fun _ => rfl) opk_mul fun X g => by unfold rMul; rw [← g.K]; exact op_mulW.or (op_mul.or (op_repT.or (op_rep1.or op_rep)))
  | .fdiv => ops_bin (fun _ => rfl) opk_fdiv fun X g => op_fdivW
  | .mod => ops_bin (fun _ => rfl) opk_mod fun X g => op_mod
  | .pow => ops_bin (fun _ => rfl) opk_pow fun X g => op_pow
  | .neg => ops_neg
  | .lt => ops_cmp (fun _ => rfl) (opk_cmp fun _ => rfl) fun X g => op_lt
  | .le => ops_cmp (fun _ => rfl) (opk_cmp fun _ => rfl) fun X g => op_le
  | .gt => ops_cmp (fun _ => rfl) (opk_cmp fun _ => rfl) fun X g => op_gt
  | .ge => ops_cmp (fun _ => rfl) (opk_cmp fun _ => rfl) fun X g => op_ge
  | .eq => ops_cmp (fun _ => rfl) opk_eq fun X g => g.K ▸ op_eqD g.hu64
  | .ne => ops_cmp (fun _ => rfl) opk_ne fun X g => g.K ▸ op_neD g.hu64
  | .isin => ops_cmp (fun _ => rfl) opk_in fun X g => g.K ▸ (op_inT g.hu).or (op_inD g.hu)
  | .notin => ops_cmp (fun _ => rfl) opk_notin fun X g => g.K ▸ (op_notInT g.hu).or (op_notInD g.hu)
  | .isN => ops_isN
  | .notN => ops_notN
  | .isB b => ops_isB
  | .notB b => ops_notB
  | .ix => ops_ix
  | .rev => ops_rev
  | .sl lo hi => ops_sl
  | .len => ops_callB (id := "len") hz (by decide +kernel) (fun _ => rfl) opk_len (fun X g => g.K ▸ call_len_seq) (by decide +kernel)
  | .tuple => ops_callT (id := "tuple") hz (by decide +kernel) (fun _ => rfl) opk_tuple (fun X g => g.K ▸ call_tuple_of) (by decide +kernel)
  | .list => ops_callT (id := "list") hz (by decide +kernel) (fun _ => rfl) opk_list (fun X g => g.K ▸ call_list_of) (by decide +kernel)
  | .int => ops_callT (id := "int") hz (by decide +kernel) (fun _ => rfl) opk_int (fun X g => call_int1) (by decide +kernel)
  | .abs => ops_callB (id := "abs") hz (by decide +kernel) (fun _ => rfl) opk_abs (fun X g => call_abs) (by decide +kernel)
  | .min2 => ops_callB (id := "min") hz (by decide +kernel) (fun _ => rfl) opk_min2 (fun X g => call_min2 g.calm) (by decide +kernel)
  | .max2 => ops_callB (id := "max") hz (by decide +kernel) (fun _ => rfl) opk_max2 (fun X g => call_max2 g.calm) (by decide +kernel)
  | .all => ops_callB (id := "all") hz (by decide +kernel) (fun _ => rfl) opk_all (fun X g => g.K ▸ cr_all g.calm) (by decide +kernel)
  | .any => ops_callB (id := "any") hz (by decide +kernel) (fun _ => rfl) opk_any (fun X g => g.K ▸ cr_any g.calm) (by decide +kernel)
  | .sum => ops_callB (id := "sum") hz (by decide +kernel) (fun _ => rfl) opk_sum (fun X g => g.K ▸ cr_sum g.calm) (by decide +kernel)
  | .sorted => ops_callB (id := "sorted") hz (by decide +kernel) (fun _ => rfl) opk_sorted (fun X g => g.K ▸ cr_or cr_sortedI (cr_sortedDat g.hu)) (by decide +kernel)
  | .max1 => ops_callB (id := "max") hz (by decide +kernel) (fun _ => rfl) opk_max1 (fun X g => g.K ▸ (cr_max g.calm).or (cr_maxT g.calm)) (by decide +kernel)
  | .min1 => ops_callB (id := "min") hz (by decide +kernel) (fun _ => rfl) opk_min1 (fun X g => g.K ▸ cr_min g.calm) (by decide +kernel)
  | .sset => ops_sset hz
  | .lrange => ops_lrange hz
  | .trange => ops_trange hz
  | .isi one ts => ops_isi hz
  | .tupd => ops_tupd
theorem SE.op {o : Op} {es : List Expr} {ast : Expr} {f : Sl → R (List D)} (hz : Wok Z) (h : SA Z n N sc W es f) (e : opArgs sc o ast = some es) :
    SE Z n N sc W ast (fun s => (f s).bind fun ds s => match prim o ds with | some m => .ok m s | none => .bad) := by
  obtain ⟨ts, h1, h2⟩ := h
  obtain ⟨rr, k, q⟩ := ops_all (n := n) (N := N) (sc := sc) (W := W) hz o es ast e
  have sim := simE_op h2 k
  exact ⟨⟨_, fun X g => (q ts X g (h1 X g)).1, sim⟩, ⟨_, fun X g => (q ts X g (h1 X g)).2, simB_of sim⟩⟩
end PV
/-! # PV9: displays, slots by place, calls -/
namespace PV
open PySem PySem.Spec PyProof.Rows L2
variable {Z : Wd} {n : Nat} {N : List Str} {sc : Scope} {W : WX}
theorem SE.lst {es : List Expr} {pos : Pos} {f : Sl → R (List D)} (h : SA Z n N sc W es f) (hs : es.all noStar = true) :
    SE Z n N sc W (.List es pos) (fun s => (f s).bind fun ds s => if ds.length ≤ szl then .ok (.lst (ds.map .d)) s else .bad) := by
  obtain ⟨ts, h1, h2⟩ := h
  refine .plain (t := tLst (tAll ts)) (fun X g => pe_lst ((h1 X g).pa hs)) rfl ?_
  intro σ H Q F G s L ok p
  refine h2 σ H _ F G s L ok ?_
  dsimp only at p
  cases e : f s with
  | bad => rw [e] at p; exact p
  | ex c as s1 => rw [e] at p; exact p
  | ok ds s1 =>
    rw [e] at p
    intro vs F1 H1 L1 st rps ok1
    have p : PostE Z W σ F H G Q (if ds.length ≤ szl then .ok (.lst (ds.map .d)) s1 else .bad) := p
    split at p
    · rename_i hz
      have hz : ds.length ≤ 16777216 := hz
      have z : vs.length ≤ sizeLine := by rw [rps.len, sizeLine_eq]; exact hz
      refine ⟨z, fun q hq => ?_⟩
      have st2 : Stp F1 H1 (with_ G L1) F1 (upd H1 q (.lst vs)) := Stp.new ok1.wf (fun a h => (ok1.all a h).1) hq
      have ok2 := ok1.step st2 (wf_upd ok1.wf)
      refine p (.ref q) F1 _ [q] L1 (st.trans (st2.weak fun _ z => .inl z)) ⟨.lst (fun z => ok1.wf q z hq) upd_same z (Rms.ofD (rps.stp st2)), List.nodup_cons.mpr ⟨(fun z => nomatch z), List.nodup_nil⟩, fun a ha z => ?_⟩ ⟨ok2.wf, ok2.rep, ok2.nd, fun a ha => ?_⟩
      · have e : a = q := by simpa using ha
        exact (ok1.gd a z).1 (e ▸ hq)
      · rcases ha with z | z
        · exact ok2.gd a z
        · have e : a = q := by simpa using z
          subst e
          exact ⟨(by rw [upd_same]; exact (fun z => nomatch z)), fun z => ok1.wf a z hq, fun z => (ok1.notF a z).2 hq⟩
    · exact p.elim
theorem SE.dct0 {pos : Pos} : SE Z n N sc W (.Dict [] [] pos) (fun s => .ok (.d (.dct [])) s) := by
  refine .plain (t := tDNewK) (fun X g => pe_dnewK) rfl ?_
  intro σ H Q F G s L ok p q hq
  have st : Stp F H (with_ G L) F (upd H q (.dK [])) := Stp.new ok.wf (fun a h => (ok.all a h).1) hq
  have ok1 := ok.step st (wf_upd ok.wf)
  have st2 : Stp F (upd H q (.dK [])) (with_ G L) (with_ F [q]) (upd H q (.dK [])) := Stp.freeze fun a ha z => by
    have e : a = q := by simpa using ha
    exact (ok.all a z).1 (e ▸ hq)
  have ok2 := ok1.step st2 fun a ha => by
    rcases ha with z | z
    · exact ok1.wf a z
    · have e : a = q := by simpa using z
      rw [e, upd_same]; exact fun z => nomatch z
  exact p (.ref q) _ _ [] L ((st.trans st2).weak fun _ z => .inl z) (.d (.dct (.inr List.mem_cons_self) upd_same .nil)) ok2.nil
theorem SE.dct1 {e : Expr} {k : Str} {kk : Nat} {p1 pos : Pos} {f : Sl → R M} (h : SE Z n N sc W e f) :
    SE Z n N sc W (.Dict [some (.Constant (.str k) kk p1)] [e] pos) (fun s => (f s).bind fun m s => .ok (.d (.dct [(.str k, frz m)])) s) := by
  obtain ⟨⟨t, h1, h2⟩, _⟩ := h
  refine .plain (t := tDisp [(tC (.str k), t)]) (fun X g => pe_disp (pps_cons pe_str (h1 X g) pps_nil) rfl rfl (fun z => nomatch z) (Nat.le_of_ble_eq_true rfl)) rfl ?_
  intro σ H Q F G s L ok p q hq
  have st : Stp F H (with_ G L) F (upd H q (.dK [])) := Stp.new ok.wf (fun a h => (ok.all a h).1) hq
  have ok1 := ok.step st (wf_upd ok.wf)
  have nG : ¬ G q := fun z => (ok.gd q z).1 hq
  have nF : ¬ F q := fun z => ok.wf q z hq
  have nL : q ∉ L := fun z => (ok.notF q z).2 hq
  have ok1' : Ok Z.K F (upd H q (.dK [])) (with_ G [q]) σ s L := ⟨ok1.wf, ok1.rep, ok1.nd, fun a ha => by
    rcases ha with z | z
    · exact ok1.gd a z
    · have e : a = q := by simpa using z
      subst e
      exact ⟨(by rw [upd_same]; exact (fun z => nomatch z)), nF, nL⟩⟩
  show t σ (upd H q (.dK [])) fun y H2 => H2 q = some (.dK []) ∧ ∃ kvs : List (Key × V), [(V.str k, y)] = kvs.map (fun kv => (kV kv.1, kv.2)) ∧ kvs.length ≤ 15 ∧ Q (.ref q) (upd H2 q (.dK (mergeK [] kvs)))
  refine h2 σ _ _ F (with_ G [q]) s L ok1' ?_
  dsimp only at p
  have stw : Stp F H G F (upd H q (.dK [])) := st.weak fun _ z => .inl z
  cases e : f s with
  | bad => rw [e] at p; exact p
  | ex c as s1 =>
    rw [e] at p
    exact PostX.guard (PostX.trans p stw) fun _ z => .inl z
  | ok m s1 =>
    rw [e] at p
    intro v F2 H2 Lm L2 st2 rv ok2
    have hq2 : H2 q = some (.dK []) := (st2.grd q (.inr List.mem_cons_self)).1.trans upd_same
    obtain ⟨st3, rp, ok3⟩ := rv.freeze ok2
    refine ⟨hq2, [(.inr k, v)], rfl, by show 1 ≤ 15; decide, ?_⟩
    show Q (.ref q) (upd H2 q (.dK [(.inr k, v)]))
    have nF3 : ¬ with_ F2 Lm q := fun z => z.elim (fun z => nF ((st2.grd q (.inr List.mem_cons_self)).2 z)) fun z => rv.gd q z (.inr List.mem_cons_self)
    have nL2 : q ∉ L2 := fun z => (ok3.gd q (.inr List.mem_cons_self)).2.2 z
    have st4 : Stp (with_ F2 Lm) H2 (with_ G L2) (with_ F2 Lm) (upd H2 q (.dK [(.inr k, v)])) := Stp.write nF3 (fun z => z.elim nG nL2) (fun xs z => by rw [hq2] at z; cases z)
    have ok3' : Ok Z.K (with_ F2 Lm) H2 G σ s1 L2 := ok3.weak fun _ z => .inl z
    have ok4 := ok3'.step st4 (wf_upd ok3.wf)
    have st5 : Stp (with_ F2 Lm) (upd H2 q (.dK [(.inr k, v)])) (with_ G L2) (with_ (with_ F2 Lm) [q]) (upd H2 q (.dK [(.inr k, v)])) := Stp.freeze fun a ha z => by
      have e : a = q := by simpa using ha
      subst e
      exact z.elim nG nL2
    have ok5 := ok4.step st5 fun a ha => by
      rcases ha with z | z
      · exact ok4.wf a z
      · have e : a = q := by simpa using z
        rw [e, upd_same]; exact fun z => nomatch z
    have stA : Stp F H G F2 H2 := stw.trans (st2.weak fun _ z => .inl z)
    have stB : Stp F H G (with_ F2 Lm) H2 := stA.trans (st3.weak fun _ z => .inl z)
    have stC : Stp F H G (with_ (with_ F2 Lm) [q]) (upd H2 q (.dK [(.inr k, v)])) := stB.trans ((st4.trans st5).weak fun _ z => .inl z)
    exact p (.ref q) _ _ [] L2 stC (.d (.dct (.inr List.mem_cons_self) upd_same (.cons (k := .inr k) ((rp.stp st4).stp st5) .nil))) ok5.nil

/-! ### len(x), x[i] of a slot, without freezing it -/
theorem lst_len {K : PySem.W.Frag} {F : Addr → Prop} {H : Hp} {v : V} {ms : List M} {L : List Addr} (r : Rm K F H v (.lst ms) L) : ∃ a vs L', v = .ref a ∧ L = a :: L' ∧ ¬ F a ∧ H a = some (.lst vs) ∧ vs.length ≤ sizeLine ∧ Rms K F H vs ms L' := by
  cases r with
  | lst n h z r => exact ⟨_, _, _, rfl, rfl, n, h, z, r⟩
theorem Ok.look {K : PySem.W.Frag} {F : Addr → Prop} {H : Hp} {G : Addr → Prop} {σ : L2.St} {s : Sl} {L : List Addr} {i : Nat} {m : M} (o : Ok K F H G σ s L) (e : s[i]? = some (some m)) : ∃ v Li, σ[i]? = some (some v) ∧ Rm K F H v m Li := by
  obtain ⟨v, Li, L', h1, h2, h3, p⟩ := o.rep.get e
  exact ⟨v, Li, h1, h2⟩
def lenpA (N : List Str) (sc : Scope) (i : Nat) : Expr → Bool
  | .Call (.Name y _) [a] [] _ => decide (y = "len") && glB sc y && nameAt N sc i a
  | _ => false
theorem ns_nameAt {i : Nat} {e : Expr} (h : nameAt N sc i e = true) : noStar e = true := by
  cases e <;> first | rfl | cases h
theorem SE.lenp {i : Nat} {ast : Expr} (hz : Wok Z) (h : lenpA N sc i ast = true) : SE Z n N sc W ast (fun s => match s[i]? with
    | some (some (.lst ms)) => .ok (.d (.int ms.length)) s
    | some (some (.d (.lst ds))) => .ok (.d (.int ds.length)) s
    | some (some (.d (.tup ds))) => .ok (.d (.int ds.length)) s
    | _ => .bad) := by
  unfold lenpA at h
  split at h
  · rename_i y p a p2
    simp only [Bool.and_eq_true, decide_eq_true_eq] at h
    obtain ⟨⟨rfl, e1⟩, e2⟩ := h
    refine .plain (t := tCB (rLen1 Z.K) (tCons (tVar i) tNil)) (fun X g => ?_) rfl ?_
    · rw [← g.K]
      exact pe_callB call_len_seq (gl_of g e1) (by rw [g.mg]; exact hz.free _ (by decide +kernel)) (by decide +kernel) (pa_cons (pe_nameAt g e2) pa_nil (star_cons (ns_nameAt e2))) (by decide) (by decide) (star_cons (ns_nameAt e2)) (star_none rfl)
    · intro σ H Q F G s L ok p
      dsimp only at p
      have fin : ∀ k : Nat, PostE Z W σ F H G Q (.ok (.d (.int k)) s) → Q (.int k) H := fun k q => q (.int k) F H [] L Stp.refl (.d (.int _)) ok.nil
      split at p
      · rename_i ms e
        obtain ⟨v, Li, e3, r⟩ := ok.look e
        obtain ⟨a, vs, L', rfl, rfl, _, h1, z, rs⟩ := lst_len r
        refine ⟨_, e3, a, vs, rfl, .inl (sqL h1), ?_⟩
        rw [rs.len]
        exact fin _ p
      · rename_i ds e
        obtain ⟨v, e3, r⟩ := ok.read e
        obtain ⟨a, vs, rfl, h1, z, rs⟩ := rp_lst r
        refine ⟨_, e3, a, vs, rfl, .inl (sqL h1), ?_⟩
        rw [rs.len]
        exact fin _ p
      · rename_i ds e
        obtain ⟨v, e3, r⟩ := ok.read e
        obtain ⟨a, vs, rfl, h1, z, rs⟩ := rp_tup r
        refine ⟨_, e3, a, vs, rfl, .inr (sqT h1), ?_⟩
        rw [rs.len]
        exact fin _ p
      · exact p.elim
  · cases h
theorem filled_val {K : PySem.W.Frag} {F : Addr → Prop} {H : Hp} {G : Addr → Prop} {σ : L2.St} {s : Sl} {L : List Addr} {i : Nat} (o : Ok K F H G σ s L) (h : filled s i = true) : ∃ v, σ[i]? = some (some v) := by
  unfold filled at h
  split at h
  · rename_i m e
    obtain ⟨v, Li, h1, _⟩ := o.look e
    exact ⟨v, h1⟩
  · cases h
def ixpA (N : List Str) (sc : Scope) (i : Nat) : Expr → Option Expr
  | .Subscript a b _ => if nameAt N sc i a = true ∧ plainIx b = true then some b else none
  | _ => none
theorem Rms.get {K : PySem.W.Frag} {F : Addr → Prop} {H : Hp} : ∀ {vs : List V} {ms : List M} {L : List Addr} {j : Nat} {m : M}, Rms K F H vs ms L → ms[j]? = some m → ∃ v Li, vs[j]? = some v ∧ Rm K F H v m Li
  | _, _, _, _, _, .nil, e => by simp at e
  | _, _, _, 0, m, .cons h r, e => by
    have e2 := Option.some.inj e
    subst e2
    exact ⟨_, _, rfl, h⟩
  | _, _, _, j + 1, m, .cons h r, e => by
    obtain ⟨v, Li, h1, h2⟩ := Rms.get (j := j) (m := m) r e
    exact ⟨v, Li, h1, h2⟩
theorem atI_getG {α : Type} {l : List α} {vs : List V} {i : Int} {d : α} (e : vs.length = l.length) (h : atI l i = some d) : ∃ j, ixN l.length i = some j ∧ l[j]? = some d ∧ atI vs i = vs[j]? := by
  unfold atI at h
  cases q : ixN l.length i with
  | none => rw [q] at h; cases h
  | some j =>
    rw [q] at h
    refine ⟨j, rfl, h, ?_⟩
    unfold atI
    rw [e, q]
    rfl
theorem SE.ixp {i : Nat} {ast b : Expr} {f : Sl → R M} (hb : SE Z n N sc W b f) (h : ixpA N sc i ast = some b) : SE Z n N sc W ast (fun s => if filled s i = true then (f s).bind fun m s => match frz m, s[i]? with
    | .int j, some (some (.lst ms)) => (match atI ms j with
      | some (.d x) => .ok (.d x) s
      | _ => .bad)
    | .int j, some (some (.d (.lst ds))) => (match atI ds j with
      | some x => .ok (.d x) s
      | _ => .bad)
    | .int j, some (some (.d (.tup ds))) => (match atI ds j with
      | some x => .ok (.d x) s
      | _ => .bad)
    | _, _ => .bad
    else .bad) := by
  unfold ixpA at h
  split at h
  · rename_i a b' p2
    split at h
    · rename_i e
      obtain ⟨e1, e2⟩ := e
      cases h
      obtain ⟨⟨t, h1, h2⟩, _⟩ := hb
      refine .plain (t := tOp (orR (rIxL Z.K) (rIxT Z.K)) (tVar i) t) (fun X g => ?_) rfl ?_
      · rw [← g.K]
        exact pe_ix (ix_list.or ix_tup) (pe_nameAt g e1) (h1 X g) (plainIx_ok e2)
      · intro σ H Q F G s L ok p
        dsimp only at p
        split at p
        · rename_i hf
          obtain ⟨v0, ev0⟩ := filled_val ok hf
          refine ⟨v0, ev0, h2 σ H _ F G s L ok ?_⟩
          cases e : f s with
          | bad => rw [e] at p; exact p
          | ex c as s1 => rw [e] at p; exact p
          | ok m s1 =>
            rw [e] at p
            intro v F1 H1 Lm L1 st rv ok1
            obtain ⟨st2, rp, ok2⟩ := rv.freeze ok1
            have st3 := st.trans st2
            have p : PostE Z W σ F H G Q (match frz m, s1[i]? with
              | .int j, some (some (.lst ms)) => (match atI ms j with
                | some (.d x) => .ok (.d x) s1
                | _ => .bad)
              | .int j, some (some (.d (.lst ds))) => (match atI ds j with
                | some x => .ok (.d x) s1
                | _ => .bad)
              | .int j, some (some (.d (.tup ds))) => (match atI ds j with
                | some x => .ok (.d x) s1
                | _ => .bad)
              | _, _ => .bad) := p
            have fin : ∀ x w, PostE Z W σ F H G Q (.ok (.d x) s1) → Rp Z.K (with_ F1 Lm) H1 w x → Q w H1 := fun x w q r => q w _ H1 [] L1 st3 (.d r) ok2.nil
            split at p
            · rename_i j ms e3 e4
              rw [e3] at rp
              cases rp_int rp
              obtain ⟨v, Li, e5, r⟩ := ok2.look e4
              rw [ev0] at e5
              cases e5
              obtain ⟨a1, vs, L', rfl, rfl, _, h3, z, rs⟩ := lst_len r
              split at p
              · rename_i x e6
                obtain ⟨k, q1, q2, q3⟩ := atI_getG rs.len e6
                obtain ⟨w, Lw, q4, q5⟩ := rs.get q2
                cases q5 with
                | d q5 => exact .inl ⟨a1, vs, j, w, rfl, rfl, sqL h3, q3.trans q4, fin x w p q5⟩
              · exact p.elim
            · rename_i j ds e3 e4
              rw [e3] at rp
              cases rp_int rp
              obtain ⟨v, e5, r⟩ := ok2.read e4
              rw [ev0] at e5
              cases e5
              obtain ⟨a1, vs, rfl, h3, z, rs⟩ := rp_lst r
              split at p
              · rename_i x e6
                obtain ⟨k, q1, q2, q3⟩ := atI_getG rs.len e6
                obtain ⟨w, q4, q5⟩ := rs.get q2
                exact .inl ⟨a1, vs, j, w, rfl, rfl, sqL h3, q3.trans q4, fin x w p q5⟩
              · exact p.elim
            · rename_i j ds e3 e4
              rw [e3] at rp
              cases rp_int rp
              obtain ⟨v, e5, r⟩ := ok2.read e4
              rw [ev0] at e5
              cases e5
              obtain ⟨a1, vs, rfl, h3, z, rs⟩ := rp_tup r
              split at p
              · rename_i x e6
                obtain ⟨k, q1, q2, q3⟩ := atI_getG rs.len e6
                obtain ⟨w, q4, q5⟩ := rs.get q2
                exact .inr ⟨a1, vs, j, w, rfl, rfl, sqT h3, q3.trans q4, fin x w p q5⟩
              · exact p.elim
            · exact p.elim
        · exact p.elim
    · cases h
  · cases h
/-- (c, e): a tuple whose second part is kept as it is -/
def konV : D → Option V
  | .non => some .non
  | .bl b => some (.bl b)
  | .int i => some (.int i)
  | .str x => some (.str x)
  | _ => none
def konT : D → Expr → Bool
  | .non, .Constant .none _ _ => true
  | .bl b, .Constant (.bool c) _ _ => b == c
  | .int i, .Constant (.int j) _ _ => decide (i = j)
  | .str x, .Constant (.str y) _ _ => decide (x = y)
  | _, _ => false
theorem konT_ok {d : D} {a : Expr} (h : konT d a = true) : ∃ v, (∀ X : Cx, PE X a (tC v)) ∧ (∀ K F H, Rp K F H v d) ∧ noStar a = true := by
  unfold konT at h
  split at h
  · exact ⟨_, fun X => pe_non, fun _ _ _ => .non, rfl⟩
  · obtain rfl := eq_of_beq h
    exact ⟨_, fun X => pe_bl, fun _ _ _ => .bl _, rfl⟩
  · obtain rfl := of_decide_eq_true h
    exact ⟨_, fun X => pe_int, fun _ _ _ => .int _, rfl⟩
  · obtain rfl := of_decide_eq_true h
    exact ⟨_, fun X => pe_str, fun _ _ _ => .str _, rfl⟩
  · cases h
theorem SE.tupk {d : D} {a b : Expr} {k : Nat} {pos : Pos} {f : Sl → R M} (ha : konT d a = true) (hs : noStar b = true) (h : SE Z n N sc W b f) : SE Z n N sc W (.Tuple [a, b] k pos) (fun s => (f s).bind fun m s => .ok (.tup [.d d, m]) s) := by
  obtain ⟨v, v1, v2, v3⟩ := konT_ok ha
  obtain ⟨⟨t, h1, h2⟩, _⟩ := h
  refine .plain (t := tTup (tAll [tC v, t])) (fun X g => pe_tup (PEs.pa (.cons (v1 X) (.cons (h1 X g) .nil)) (by simp [v3, hs]))) rfl ?_
  intro σ H Q F G s L ok p
  refine h2 σ H _ F G s L ok ?_
  dsimp only at p
  cases e : f s with
  | bad => rw [e] at p; exact p
  | ex c as s1 => rw [e] at p; exact p
  | ok m s1 =>
    rw [e] at p
    intro w F1 H1 Lm L1 st rv ok1
    refine ⟨by show 2 ≤ sizeLine; rw [sizeLine_eq]; decide, fun q hq => ?_⟩
    have st2 : Stp F1 H1 (with_ (with_ G Lm) L1) F1 (upd H1 q (.tup [v, w])) := Stp.new ok1.wf (fun a h => (ok1.all a h).1) hq
    have ok2 := ok1.step st2 (wf_upd ok1.wf)
    have rw2 : Rm Z.K F1 (upd H1 q (.tup [v, w])) w m Lm := rv.rep.mono st2.fro st2.tup fun a ha => st2.grd a (.inl (.inr ha))
    have rm : Rm Z.K F1 (upd H1 q (.tup [v, w])) (.ref q) (.tup [.d d, m]) Lm := by
      have := Rm.tup (K := Z.K) (F := F1) (H := upd H1 q (.tup [v, w])) (a := q) upd_same (by show 2 ≤ sizeLine; rw [sizeLine_eq]; decide) (Rms.cons (L1 := []) (.d (v2 _ _ _)) (Rms.cons rw2 .nil))
      simpa using this
    exact p (.ref q) F1 _ Lm L1 (st.trans (st2.weak fun _ z => .inl (.inl z))) ⟨rm, rv.nd, rv.gd⟩ ok2
end PV
/-! # PV10: calls of the text's defs -/
namespace PV
open PySem PySem.Spec PyProof.Rows L2
variable {Z : Wd} {n : Nat} {N : List Str} {sc : Scope} {W : WX}
/-- what a call has made -/
def PostC (Z : Wd) (vs : List V) (F : Addr → Prop) (H : Hp) (G : Addr → Prop) (Q : VK) (E : XK) : CR → Prop
  | .ok m outs => ∀ v F' H' Lm L', Stp F H G F' H' → Rv Z.K F' H' G v m Lm → Ok Z.K F' H' (with_ G Lm) ((vs.take outs.length).map some) (outs.map some) L' → Q v H'
  | .ex c as outs => ∀ F' H' L' cls d, Stp F H G F' H' → Ok Z.K F' H' G ((vs.take outs.length).map some) (outs.map some) L' → Z.xr F' H' c as cls d → E cls d H'
  | .bad => False
/-- the promise of a def: its evaluation -/
def spF (Z : Wd) (call : Str → List M → CR) (f : Str) (ps : List Str) : Sp := fun vs H Q E =>
  vs.length = ps.length ∧ ∃ F G L ms, Ok Z.K F H G (vs.map some) (ms.map some) L ∧ PostC Z vs F H G Q E (call f ms)
/-- the defs that the evaluator knows are in the text, and do as it says -/
def Know (Z : Wd) (T : Tab) (n : Nat) : Prop := ∀ f g, T.fn f = some g → ∃ fa fd, Z.mg f = some (.ref fa) ∧ PySem.W.keepIn Z.K (.ref fa) = true ∧ Binds Z.K fd g.ps [] ∧
  FnOk Z.P Z.w Z.K Z.mg Z.base (L2.CX Z.P Z.w) n fa fd g.ps (spF Z (evCall T n) f g.ps)

inductive Vbs (σ : L2.St) : List Nat → List V → Prop where
  | nil : Vbs σ [] []
  | cons {b : Nat} {v : V} {bs : List Nat} {vs : List V} (h : σ[b]? = some (some v)) (r : Vbs σ bs vs) : Vbs σ (b :: bs) (v :: vs)
theorem vbs_of {K : PySem.W.Frag} {F : Addr → Prop} {H : Hp} {G : Addr → Prop} {σ : L2.St} {s : Sl} {L : List Addr} (o : Ok K F H G σ s L) : ∀ {bs : List Nat}, bs.all (filled s) = true → ∃ vs, Vbs σ bs vs
  | [], _ => ⟨[], .nil⟩
  | b :: bs, h => by
    rw [List.all_cons, Bool.and_eq_true] at h
    obtain ⟨v, e⟩ := filled_val o h.1
    obtain ⟨vs, r⟩ := vbs_of o h.2
    exact ⟨v :: vs, .cons e r⟩
theorem tAll_vars {σ : L2.St} {H : Hp} {ts : List TE} : ∀ {bs : List Nat} {vs : List V} {Q : List V → Hp → Prop}, Vbs σ bs vs → tAll ts σ H (fun xs H' => Q (vs ++ xs) H') → tAll (bs.map tVar ++ ts) σ H Q
  | _, _, _, .nil, h => h
  | _, _, Q, .cons e r, h => ⟨_, e, tAll_vars (Q := fun xs H' => Q (_ :: xs) H') r h⟩
theorem set_self {σ : L2.St} {i : Nat} {v : V} (h : σ[i]? = some (some v)) : σ.set i (some v) = σ := by
  apply List.ext_getElem?
  intro j
  by_cases hj : i = j
  · subst hj
    rw [List.getElem?_set_self (List.getElem?_eq_some_iff.mp h).1, h]
  · rw [List.getElem?_set_ne hj]
section
variable {K : PySem.W.Frag} {F F' : Addr → Prop} {H H' : Hp} {G : Addr → Prop} {σ : L2.St}
theorem lend_ok : ∀ {bs : List Nat} {vs : List V} {s s' : Sl} {ms : List M} {G : Addr → Prop} {L : List Addr}, Vbs σ bs vs → lend bs s = some (ms, s') → Ok K F H G σ s L →
    ∃ Lb L', Rms K F H vs ms Lb ∧ Lb.Nodup ∧ (∀ a ∈ Lb, ¬ G a) ∧ Ok K F H (with_ G Lb) σ s' L'
  | _, _, s, s', ms, G, L, .nil, h, o => by
    cases h
    exact ⟨[], L, .nil, List.nodup_nil, fun _ z => (nomatch z), o.nil⟩
  | _, _, s, s', ms, G, L, .cons (b := b) (bs := bs) (vs := vs) e r, h, o => by
    unfold lend at h
    split at h
    · rename_i x e1
      cases e2 : lend bs s with
      | none => rw [e2] at h; cases h
      | some q =>
        rw [e2] at h
        cases h
        obtain ⟨Lb, L', h1, h2, h3, h4⟩ := lend_ok r (by rw [e2]) o
        obtain ⟨v, e3, rp⟩ := o.read e1
        rw [e] at e3
        cases e3
        exact ⟨Lb, L', Rms.cons (L1 := []) (.d rp) h1, h2, h3, h4⟩
    · rename_i m _ e1
      obtain ⟨v, Li, L1, e3, rv, o1⟩ := o.take e1
      rw [e] at e3
      cases e3
      cases e2 : lend bs (s.set b none) with
      | none => rw [e2] at h; cases h
      | some q =>
        rw [e2] at h
        cases h
        obtain ⟨Lb, L', h1, h2, h3, h4⟩ := lend_ok r (by rw [e2]) o1
        refine ⟨Li ++ Lb, L', .cons rv.rep h1, List.nodup_append.mpr ⟨rv.nd, h2, fun a ha c hc e => ?_⟩, fun a ha z => ?_, h4.weak fun a z => ?_⟩
        · exact h3 c hc (.inr (e ▸ ha))
        · rcases List.mem_append.mp ha with q | q
          · exact rv.gd a q z
          · exact h3 a q (.inl z)
        · rcases z with z | z
          · exact .inl (.inl z)
          · rcases List.mem_append.mp z with q | q
            · exact .inl (.inr q)
            · exact .inr q
    · cases h
theorem Rms.toRs : ∀ {vs : List V} {ms : List M} {L : List Addr}, Rms K F H vs ms L → Rs K F H (vs.map some) (ms.map some) L
  | _, _, _, .nil => .nil
  | _, _, _, .cons h r => .on h (Rms.toRs r)
theorem give_ok : ∀ {bs : List Nat} {vs ws : List V} {outs : List M} {s : Sl} {G : Addr → Prop} {L Lo : List Addr}, Vbs σ bs vs → bs.length ≤ outs.length →
    Rs K F H (((vs ++ ws).take outs.length).map some) (outs.map some) Lo → Lo.Nodup → (∀ a ∈ Lo, ¬ G a) → Ok K F H (with_ G Lo) σ s L → (∀ b ∈ bs, b < s.length) → ∃ L', Ok K F H G σ (giveBack bs outs s) L'
  | _, _, _, outs, s, G, L, Lo, .nil, _, _, _, _, o, _ => ⟨L, by
    have e : giveBack [] outs s = s := by cases outs <;> rfl
    rw [e]; exact o.base⟩
  | _, _, ws, [], s, G, L, Lo, .cons e r, hl, _, _, _, _, _ => by simp at hl
  | _, _, ws, m :: outs, s, G, L, Lo, .cons (b := b) (v := v) (bs := bs) (vs := vs) e r, hl, h, nd, ng, o, hb => by
    have h : Rs K F H (some v :: ((vs ++ ws).take outs.length).map some) (some m :: outs.map some) Lo := h
    cases h with
    | @on _ _ _ _ L1 L2 h1 h2 =>
      obtain ⟨n1, n2, n3⟩ := List.nodup_append.mp nd
      have rv : Rv K F H (with_ G L2) v m L1 := ⟨h1, n1, fun a ha z => z.elim (ng a (List.mem_append_left _ ha)) fun z => n3 a ha a z rfl⟩
      have o1 : Ok K F H (with_ (with_ G L2) L1) σ s L := o.weak fun a z => by
        rcases z with (z | z) | z
        · exact .inl z
        · exact .inr (List.mem_append_right _ z)
        · exact .inr (List.mem_append_left _ z)
      obtain ⟨L3, o2⟩ := Ok.store (i := b) o1 rv (hb b List.mem_cons_self)
      rw [set_self e] at o2
      show ∃ L', Ok K F H G σ (giveBack bs outs (s.set b (some m))) L'
      exact give_ok r (by simpa using hl) h2 n2 (fun a ha => ng a (List.mem_append_right _ ha)) o2 fun c hc => by rw [List.length_set]; exact hb c (List.mem_cons_of_mem _ hc)
theorem lend_len : ∀ {bs : List Nat} {s s' : Sl} {ms : List M}, lend bs s = some (ms, s') → s'.length = s.length
  | [], s, s', ms, h => by cases h; rfl
  | b :: bs, s, s', ms, h => by
    unfold lend at h
    split at h
    · cases e2 : lend bs s with
      | none => rw [e2] at h; cases h
      | some q =>
        rw [e2] at h
        cases h
        exact lend_len e2
    · cases e2 : lend bs (s.set b none) with
      | none => rw [e2] at h; cases h
      | some q =>
        rw [e2] at h
        cases h
        rw [lend_len e2, List.length_set]
    · cases h
theorem vbs_lt {K : PySem.W.Frag} {s : Sl} {L : List Addr} (r : Rs K F H σ s L) : ∀ {bs : List Nat} {vs : List V}, Vbs σ bs vs → ∀ b ∈ bs, b < s.length
  | _, _, .nil, _, h => nomatch h
  | _, _, .cons e t, b, h => by
    rcases List.mem_cons.mp h with h | h
    · subst h
      rw [← r.len]
      exact (List.getElem?_eq_some_iff.mp e).1
    · exact vbs_lt r t b h
end
/-- the arguments: names that are lent, then expressions -/
def namesAt (N : List Str) (sc : Scope) : List Nat → List Expr → Bool
  | [], [] => true
  | b :: bs, e :: es => nameAt N sc b e && namesAt N sc bs es
  | _, _ => false
def callF (sc : Scope) (N : List Str) (f : Str) (bs : List Nat) : Expr → Option (List Expr)
  | .Call (.Name y _) (a :: as) [] _ => if y = f ∧ glB sc y = true ∧ (y == ("__debug__" : Str)) = false ∧ (a :: as).all noStar = true ∧ namesAt N sc bs ((a :: as).take bs.length) = true then some ((a :: as).drop bs.length) else none
  | _ => none
theorem pes_names {X : Cx} (g : Gd Z n N sc W X) : ∀ {bs : List Nat} {es : List Expr}, namesAt N sc bs es = true → PEs X es (bs.map tVar)
  | [], [], _ => .nil
  | b :: bs, e :: es, h => by
    simp only [namesAt, Bool.and_eq_true] at h
    exact .cons (pe_nameAt g h.1) (pes_names g h.2)
  | [], _ :: _, h => by cases h
  | _ :: _, [], h => by cases h
theorem PEs.append {X : Cx} : ∀ {es es2 : List Expr} {ts ts2 : List TE}, PEs X es ts → PEs X es2 ts2 → PEs X (es ++ es2) (ts ++ ts2)
  | _, _, _, _, .nil, s => s
  | _, _, _, _, .cons h r, s => .cons h (PEs.append r s)
theorem SE.call {T : Tab} {f : Str} {g : Fn} {bs : List Nat} {es : List Expr} {ast : Expr} {fs : Sl → R (List D)} (hk : Know Z T n) (hg : T.fn f = some g) (h : SA Z n N sc W es fs) (e : callF sc N f bs ast = some es) :
    SE Z n N sc W ast (fun s => if bs.all (filled s) = true then (fs s).bind fun ds s => match lend bs s with
      | some (ms, s) => (match evCall T n f (ms ++ ds.map M.d) with
        | .ok m outs => if bs.length ≤ outs.length then .ok m (giveBack bs outs s) else .bad
        | .ex c as outs => if bs.length ≤ outs.length then .ex c as (giveBack bs outs s) else .bad
        | .bad => .bad)
      | none => .bad
      else .bad) := by
  obtain ⟨ts, h1, h2⟩ := h
  obtain ⟨fa, fd, m1, m2, m3, m4⟩ := hk f g hg
  unfold callF at e
  split at e
  · rename_i y p a as p2
    split at e
    · rename_i hc
      obtain ⟨rfl, c1, c0, c2, c3⟩ := hc
      cases e
      refine .plain (t := tCallS (spF Z (evCall T n) y g.ps) (WE W) (tAll (bs.map tVar ++ ts))) (fun X gx => ?_) rfl ?_
      · have pa : PA X (a :: as) (tAll (bs.map tVar ++ ts)) := by
          have q := (pes_names gx c3).append (h1 X gx)
          rw [List.take_append_drop] at q
          exact q.pa c2
        refine pe_callS (by rw [gx.prog, gx.w, gx.K, gx.mg, gx.base]; exact m4) gx.room (gl_of gx c1) (by rw [gx.mg]; exact m1) (by rw [gx.K]; exact m2) (by rw [gx.K]; exact m3) (fun σ => ?_) pa c0 (star_cons (all_cons_ns c2).1) (star_none (all_cons_ns c2).2)
        rw [← gx.prog, ← gx.w]
        exact passAt gx.tk σ
      · intro σ H Q F G s L ok p0
        dsimp only at p0
        split at p0
        · rename_i hf
          obtain ⟨vbs, hv⟩ := vbs_of ok hf
          refine tAll_vars hv ?_
          refine h2 σ H _ F G s L ok ?_
          cases e : fs s with
          | bad => rw [e] at p0; exact p0
          | ex c as s1 => rw [e] at p0; exact p0
          | ok ds s1 =>
            rw [e] at p0
            intro vs F1 H1 L1 st rps ok1
            have p : PostE Z W σ F H G Q (match lend bs s1 with
              | some (ms, s) => (match evCall T n y (ms ++ ds.map M.d) with
                | .ok m outs => if bs.length ≤ outs.length then .ok m (giveBack bs outs s) else .bad
                | .ex c as outs => if bs.length ≤ outs.length then .ex c as (giveBack bs outs s) else .bad
                | .bad => .bad)
              | none => .bad) := p0
            cases e1 : lend bs s1 with
            | none => rw [e1] at p; exact p.elim
            | some q =>
              obtain ⟨ms, s2⟩ := q
              rw [e1] at p
              obtain ⟨Lb, L2, r1, nd1, ng1, ok2⟩ := lend_ok hv e1 ok1
              have p : PostE Z W σ F H G Q (match evCall T n y (ms ++ ds.map M.d) with
                | .ok m outs => if bs.length ≤ outs.length then .ok m (giveBack bs outs s2) else .bad
                | .ex c as outs => if bs.length ≤ outs.length then .ex c as (giveBack bs outs s2) else .bad
                | .bad => .bad) := p
              have rA : Rms Z.K F1 H1 (vbs ++ vs) (ms ++ ds.map M.d) Lb := by
                have := r1.append (Rms.ofD rps)
                rw [List.append_nil] at this
                exact this
              have okA : Ok Z.K F1 H1 (with_ G L2) ((vbs ++ vs).map some) ((ms ++ ds.map M.d).map some) Lb := ⟨ok1.wf, rA.toRs, nd1, fun a ha => by
                rcases ha with z | z
                · exact ⟨(ok2.gd a (.inl z)).1, (ok2.gd a (.inl z)).2.1, fun q => ng1 a q z⟩
                · exact ⟨(ok2.notF a z).2, (ok2.notF a z).1, fun q => (ok2.gd a (.inr q)).2.2 z⟩⟩
              have hlen : (vbs ++ vs).length = g.ps.length := by
                rw [rA.len]
                cases n with
                | zero => exact p.elim
                | succ k =>
                  by_cases hq : (ms ++ ds.map M.d).length = g.ps.length
                  · exact hq
                  · have ez : evCall T (k + 1) y (ms ++ ds.map M.d) = .bad := by
                      show (match T.fn y with | some g => _ | none => _) = _
                      rw [hg]
                      show (if (ms ++ ds.map M.d).length = g.ps.length then _ else _) = _
                      rw [if_neg hq]
                    rw [ez] at p
                    exact p.elim
              refine ⟨hlen, F1, with_ G L2, Lb, ms ++ ds.map M.d, okA, ?_⟩
              have hb2 : ∀ b ∈ bs, b < s2.length := vbs_lt ok2.rep hv
              cases e2 : evCall T n y (ms ++ ds.map M.d) with
              | bad => rw [e2] at p; exact p.elim
              | ok m outs =>
                rw [e2] at p
                have p : PostE Z W σ F H G Q (if bs.length ≤ outs.length then .ok m (giveBack bs outs s2) else .bad) := p
                split at p
                · rename_i hl
                  intro v F2 H2 Lm Lo st2 rv ok3
                  have ok4 : Ok Z.K F2 H2 G σ s2 L2 := (ok2.weak fun _ z => .inl z).step st2 ok3.wf
                  have ok5 : Ok Z.K F2 H2 (with_ (with_ G Lm) Lo) σ s2 L2 := ⟨ok4.wf, ok4.rep, ok4.nd, fun a ha => by
                    rcases ha with (z | z) | z
                    · exact ok4.gd a z
                    · exact ⟨(ok3.gd a (.inr z)).1, (ok3.gd a (.inr z)).2.1, fun q => rv.gd a z (.inr q)⟩
                    · exact ⟨(ok3.notF a z).2, (ok3.notF a z).1, fun q => (ok3.gd a (.inl (.inr q))).2.2 z⟩⟩
                  obtain ⟨L3, ok6⟩ := give_ok hv hl ok3.rep ok3.nd (fun a ha z => (ok3.gd a (z.elim (fun z => .inl (.inl z)) fun z => .inr z)).2.2 ha) ok5 hb2
                  exact p v F2 H2 Lm L3 (st.trans (st2.weak fun _ z => .inl z)) ⟨rv.rep, rv.nd, fun a ha z => rv.gd a ha (.inl z)⟩ ok6
                · exact p.elim
              | ex c as outs =>
                rw [e2] at p
                have p : PostE Z W σ F H G Q (if bs.length ≤ outs.length then .ex c as (giveBack bs outs s2) else .bad) := p
                split at p
                · rename_i hl
                  intro F2 H2 Lo cls d st2 ok3 hx
                  have ok4 : Ok Z.K F2 H2 G σ s2 L2 := (ok2.weak fun _ z => .inl z).step st2 ok3.wf
                  have ok5 : Ok Z.K F2 H2 (with_ G Lo) σ s2 L2 := ⟨ok4.wf, ok4.rep, ok4.nd, fun a ha => by
                    rcases ha with z | z
                    · exact ok4.gd a z
                    · exact ⟨(ok3.notF a z).2, (ok3.notF a z).1, fun q => (ok3.gd a (.inr q)).2.2 z⟩⟩
                  obtain ⟨L3, ok6⟩ := give_ok hv hl ok3.rep ok3.nd (fun a ha z => (ok3.gd a (.inl z)).2.2 ha) ok5 hb2
                  exact p F2 H2 L3 cls d (st.trans (st2.weak fun _ z => .inl z)) ok6 hx
                · exact p.elim
        · exact p0.elim
    · cases e
  · cases e
/-- f(x, ..), x lent for the call alone: f tells a flag -/
theorem SE.callp {T : Tab} {f : Str} {g : Fn} {i : Nat} {es : List Expr} {ast : Expr} {fs : Sl → R (List D)} (hk : Know Z T n) (hg : T.fn f = some g) (h : SA Z n N sc W es fs) (e : callF sc N f [i] ast = some es) :
    SE Z n N sc W ast (fun s => if filled s i = true then (fs s).bind fun ds s => (match s[i]? with
      | some (some m) => (match evCall T n f (.d (frz m) :: ds.map M.d) with
        | .ok (.d (.bl r)) _ => .ok (.d (.bl r)) s
        | _ => .bad)
      | _ => .bad)
      else .bad) := by
  obtain ⟨ts, h1, h2⟩ := h
  obtain ⟨fa, fd, m1, m2, m3, m4⟩ := hk f g hg
  unfold callF at e
  split at e
  case h_2 => cases e
  rename_i y p a as p2
  split at e
  case isFalse => cases e
  rename_i hc
  obtain ⟨rfl, c1, c0, c2, c3⟩ := hc
  cases e
  refine .plain (t := tCallS (spF Z (evCall T n) y g.ps) (WE W) (tAll ([i].map tVar ++ ts))) (fun X gx => ?_) rfl ?_
  · have pa : PA X (a :: as) (tAll ([i].map tVar ++ ts)) := by
      have q := (pes_names gx c3).append (h1 X gx)
      rw [List.take_append_drop] at q
      exact q.pa c2
    refine pe_callS (by rw [gx.prog, gx.w, gx.K, gx.mg, gx.base]; exact m4) gx.room (gl_of gx c1) (by rw [gx.mg]; exact m1) (by rw [gx.K]; exact m2) (by rw [gx.K]; exact m3) (fun σ => ?_) pa c0 (star_cons (all_cons_ns c2).1) (star_none (all_cons_ns c2).2)
    rw [← gx.prog, ← gx.w]
    exact passAt gx.tk σ
  · intro σ H Q F G s L ok p0
    dsimp only at p0
    split at p0
    case isFalse => exact p0.elim
    rename_i hf
    obtain ⟨w, hw⟩ := filled_val ok hf
    refine tAll_vars (bs := [i]) (.cons hw .nil) ?_
    refine h2 σ H _ F G s L ok ?_
    cases e : fs s with
    | bad => rw [e] at p0; exact p0
    | ex c as s1 => rw [e] at p0; exact p0
    | ok ds s1 =>
      rw [e] at p0
      intro vs F1 H1 L1 st rps ok1
      have p : PostE Z W σ F H G Q (match s1[i]? with
        | some (some m) => (match evCall T n y (.d (frz m) :: ds.map M.d) with
          | .ok (.d (.bl r)) _ => .ok (.d (.bl r)) s1
          | _ => .bad)
        | _ => .bad) := p0
      split at p
      case h_2 => exact p.elim
      rename_i m em
      obtain ⟨v, Li, L', q1, q2, q3, q4⟩ := ok1.rep.get em
      have q1 : some (some w) = some (some v) := hw.symm.trans q1
      cases q1
      have nd := q4.nodup_iff.mp ok1.nd
      have gdA : ∀ a, a ∈ L' → ¬ F1 a ∧ H1 a ≠ none ∧ a ∉ Li := fun a ha => ⟨(q3.notF a ha).1, (q3.notF a ha).2, fun z => (List.nodup_append.mp nd).2.2 a z a ha rfl⟩
      have stF : Stp F1 H1 G (with_ F1 Li) H1 := Stp.freeze fun a ha z => (ok1.gd a z).2.2 (q4.mem_iff.mpr (List.mem_append_left _ ha))
      have rp : Rp Z.K (with_ F1 Li) H1 w (frz m) := Rm.frz (fun a h => .inl h) q2 fun a h => .inr h
      have rpsF : Rps Z.K (with_ F1 Li) H1 vs ds := rps.stp stF
      have rA : Rms Z.K (with_ F1 Li) H1 (w :: vs) (.d (frz m) :: ds.map M.d) [] := Rms.cons (L1 := []) (L2 := []) (.d rp) (Rms.ofD rpsF)
      have okA : Ok Z.K (with_ F1 Li) H1 (with_ G L') ((w :: vs).map some) ((M.d (frz m) :: ds.map M.d).map some) [] := ⟨fun a ha => ha.elim (ok1.wf a) fun z => (q2.notF a z).2, rA.toRs, List.nodup_nil, fun a ha => by
        rcases ha with z | z
        · exact ⟨(ok1.gd a z).1, fun q => q.elim (ok1.gd a z).2.1 fun q => (ok1.gd a z).2.2 (q4.mem_iff.mpr (List.mem_append_left _ q)), fun q => nomatch q⟩
        · exact ⟨(gdA a z).2.1, fun q => q.elim (gdA a z).1 (gdA a z).2.2, fun q => nomatch q⟩⟩
      have hlen : (w :: vs).length = g.ps.length := by
        rw [rA.len]
        cases n with
        | zero => exact p.elim
        | succ k =>
          by_cases hq : (M.d (frz m) :: ds.map M.d).length = g.ps.length
          · exact hq
          · have ez : evCall T (k + 1) y (.d (frz m) :: ds.map M.d) = .bad := by
              show (match T.fn y with | some g => _ | none => _) = _
              rw [hg]
              show (if (M.d (frz m) :: ds.map M.d).length = g.ps.length then _ else _) = _
              rw [if_neg hq]
            rw [ez] at p
            exact p.elim
      refine ⟨hlen, _, with_ G L', [], _, okA, ?_⟩
      cases e2 : evCall T n y (.d (frz m) :: ds.map M.d) with
      | bad => rw [e2] at p; exact p.elim
      | ex c as outs => rw [e2] at p; exact p.elim
      | ok m2 outs =>
        rw [e2] at p
        have p : PostE Z W σ F H G Q (match (CR.ok m2 outs) with
          | .ok (.d (.bl r)) _ => .ok (.d (.bl r)) s1
          | _ => .bad) := p
        split at p
        case h_2 => exact p.elim
        rename_i r outs' er
        cases er
        intro v' F3 H3 Lm Lo st2 rv ok3
        have hr : Rp Z.K F1 H3 v' (.bl r) := by
          cases rv.rep with
          | d q => cases q; exact .bl r
        have same : ∀ a, F1 a → H3 a = H1 a := fun a ha => (st2.fro a (.inl ha)).2
        have stB : Stp F1 H1 G F1 H3 := ⟨fun a ha => ⟨ha, same a ha⟩, st2.tup, fun a ha => ⟨(st2.grd a (.inl ha)).1, id⟩, st2.trk⟩
        have ok4 : Ok Z.K F1 H3 G σ s1 L1 := ⟨fun a ha => by rw [same a ha]; exact ok1.wf a ha, ok1.rep.mono (fun a ha => ⟨ha, same a ha⟩) st2.tup fun a ha => ⟨by
          rcases List.mem_append.mp (q4.mem_iff.mp ha) with z | z
          · exact (st2.fro a (.inr z)).2
          · exact (st2.grd a (.inr z)).1, id⟩, ok1.nd, fun a ha => ⟨by rw [(st2.grd a (.inl ha)).1]; exact (ok1.gd a ha).1, (ok1.gd a ha).2.1, (ok1.gd a ha).2.2⟩⟩
        exact p v' F1 H3 [] L1 (st.trans stB) ⟨.d hr, List.nodup_nil, fun _ z => nomatch z⟩ ok4.nil
end PV
/-! # PV32: enumerate of a tuple -/
namespace PV
open PySem PySem.Spec PyProof.Rows L2
theorem app_arg {M : Model} {A : Around} {β : Type} {f : Bool → Sem β} {Q : β → Shared → Prop} {E : Value → Shared → Prop} {s : Shared} (h : ∀ b, wpAny M A (f b) Q E s) (b : Bool) : wpAny M A (f b) Q E s := h b
theorem newRec_wp {M : Model} {A : Around} {E : Value → Shared → Prop} {s : Shared} {Q : Value → Shared → Prop} {x : Addr}
    (h : Q (Value.ref s.heap.objs.size) { heap := s.heap.push { cls := Value.type "enumerate", data := Data.fields #[Value.none, Value.bool false, Value.ref x, rawInt 0, Value.none, Value.none] }, gens := s.gens, drawn := s.drawn, toks := s.toks, os := s.os }) :
    wpAny M A (Builtin.SmallTypes.newRecord (Value.type "enumerate") (Builtin.SmallTypes.ownedTupleFields ++ [Value.ref x, rawInt 0, Value.none, Value.none])) Q E s := by
  have hn : ¬ ((Builtin.SmallTypes.ownedTupleFields ++ [Value.ref x, rawInt 0, Value.none, Value.none]).toArray.size > sizeLine + 2) := by
    rw [sizeLine_eq]
    show ¬ (6 > 16777216 + 2)
    omega
  show wpAny M A (newObj (Value.type "enumerate") (Data.fields (Builtin.SmallTypes.ownedTupleFields ++ [Value.ref x, rawInt 0, Value.none, Value.none]).toArray)) Q E s
  unfold newObj
  dsimp only
  rw [if_neg hn]
  refine wpAny_bind ?_
  refine wpAny_alloc' ?_
  exact wpAny_pure h
theorem meets_enumT (t : Addr) (items : Array Value) :
    Meets (Builtin.«enumerate.__new__» { pos := [Value.type "enumerate", Value.ref t] }) fun x R s =>
      s.heap.IsTuple t items ∧
        R (Except.ok (Flow.ret (Value.ref (s.heap.push { cls := Value.type "tuple_iterator", data := Data.fields #[Value.ref t, Value.int 0 0] }).objs.size)))
          { heap := (s.heap.push { cls := Value.type "tuple_iterator", data := Data.fields #[Value.ref t, Value.int 0 0] }).push { cls := Value.type "enumerate", data := Data.fields #[Value.none, Value.bool false, Value.ref s.heap.objs.size, rawInt 0, Value.none, Value.none] }, gens := s.gens, drawn := s.drawn, toks := s.toks, os := s.os } := by
  refine Meets.of_wp fun prog w A R s h => ?_
  obtain ⟨hp, g, d, tk, os⟩ := s
  obtain ⟨ht, h⟩ := h
  have hsub := sub_enumerate
  refine wpAny_bind ?_
  refine wpAny_bind ?_
  refine wpAny_pure ?_
  refine wpAny_ite_false (Eq.refl (decide ((!true) = true))) ?_
  refine wpAny_bind ?_
  refine wpAny_of_eq hsub ?_
  refine wpAny_ite_false (Eq.refl (decide ((!true) = true))) ?_
  refine wpAny_pure ?_
  refine wpAny_ite_true (Eq.refl (decide ((Value.type "enumerate" == Value.type "enumerate") = true))) ?_
  refine wpAny_bind ?_
  refine wpAny_bind ?_
  refine wpAny_stack_any fun st => ?_
  refine wpAny_pure ?_
  split
  · rename_i c _ _ _ _ _
    cases hb : (c == Value.type "enumerate") with
    | false =>
        refine wpAny_ite_false (Eq.refl (decide (false = true))) ?_
        refine wpAny_bind ?_
        refine wpAny_of_eq (show _ = pure (Value.ref t, none) from rfl) ?_
        refine wpAny_bind ?_
        refine wpAny_pyIter_tuple ht ?_
        refine wpAny_bind ?_
        show wpAny _ _ (Builtin.SmallTypes.newRecord (Value.type "enumerate") (Builtin.SmallTypes.ownedTupleFields ++ [Value.ref hp.objs.size, rawInt 0, Value.none, Value.none])) _ _ _
        refine newRec_wp ?_
        exact wpAny_pure ⟨_, rfl, h⟩
    | true =>
        refine wpAny_ite_true (Eq.refl (decide (true = true))) ?_
        refine wpAny_bind ?_
        refine wpAny_pure ?_
        refine wpAny_bind ?_
        refine wpAny_pyIter_tuple ht ?_
        refine wpAny_bind ?_
        show wpAny _ _ (Builtin.SmallTypes.newRecord (Value.type "enumerate") (Builtin.SmallTypes.ownedTupleFields ++ [Value.ref hp.objs.size, rawInt 0, Value.none, Value.none])) _ _ _
        refine newRec_wp ?_
        exact wpAny_pure ⟨_, rfl, h⟩
  · 
    refine wpAny_ite_false (Eq.refl (decide (false = true))) ?_
    refine wpAny_bind ?_
    refine wpAny_of_eq (show _ = pure (Value.ref t, none) from rfl) ?_
    refine wpAny_bind ?_
    refine wpAny_pyIter_tuple ht ?_
    refine wpAny_bind ?_
    show wpAny _ _ (Builtin.SmallTypes.newRecord (Value.type "enumerate") (Builtin.SmallTypes.ownedTupleFields ++ [Value.ref hp.objs.size, rawInt 0, Value.none, Value.none])) _ _ _
    refine newRec_wp ?_
    exact wpAny_pure ⟨_, rfl, h⟩
theorem call_enumT {prog : Program} {w : World} {A : Around} {E : Value → Shared → Prop} {s : Shared} {l : Addr} {items : Array Value} {Q : Value → Shared → Prop} (hl : s.heap.IsTuple l items)
    (h : ∀ h' : Heap, IsEnum h' (s.heap.objs.size + 1) s.heap.objs.size 0 Value.none → h'.IsTupleIter s.heap.objs.size l 0 → h'.objs.size = s.heap.objs.size + 2 → (∀ (b : Addr) (o : Obj), s.heap.get? b = some o → h'.get? b = some o) →
      Q (Value.ref (s.heap.objs.size + 1)) { heap := h', gens := s.gens, drawn := s.drawn, toks := s.toks, os := s.os }) : wpAny (model prog w) A (call (Value.type "enumerate") [Value.ref l]) Q E s := by
  refine callType_new F.called_enumerate (by decide) (F.typeCall_enumerate_1 (Value.ref l)) (F.newCall_enumerate_1 (Value.ref l)) (fun obj => F.args_object_init_2 obj (Value.ref l)) F.entry_enumerate_new (meets_enumT l items) ⟨hl, ?_⟩
  have hz := Heap.size_push s.heap { cls := Value.type "tuple_iterator", data := Data.fields #[Value.ref l, Value.int 0 0] }
  have he := Heap.get?_push_size (o := { cls := Value.type "enumerate", data := Data.fields #[Value.none, Value.bool false, Value.ref s.heap.objs.size, rawInt 0, Value.none, Value.none] }) (s.heap.push { cls := Value.type "tuple_iterator", data := Data.fields #[Value.ref l, Value.int 0 0] }) rfl
  have he2 := he
  rw [hz] at he2
  show Shared.TypeIs _ (Value.ref (s.heap.push _).objs.size) "enumerate" ∧ Q (Value.ref (s.heap.push _).objs.size) _
  rw [hz]
  refine ⟨⟨_, he2, rfl⟩, h _ he2 ⟨_, Heap.get?_push_of_some _ (Heap.get?_push_size s.heap rfl), rfl, rfl⟩ (by rw [Heap.size_push, hz]) fun b o x => Heap.get?_push_of_some _ (Heap.get?_push_of_some _ x)⟩
theorem draws_tup {prog : Program} {w : World} {A : Around} (hh : A.handled = none) (it l : Addr) (hne : l ≠ it) (items : Array Value) :
    Draws prog w A it [it, l] items.size (fun i v => items[i]? = some v) fun i h => h.IsTupleIter it l i ∧ h.IsTuple l items where
  live := fun i h st => let ⟨⟨o, q, _⟩, _⟩ := st; ⟨o, q⟩
  frame := fun i h h' st k => by
    obtain ⟨hi, o, q1, q2⟩ := st
    exact ⟨hi.at fun o q => k it (by simp) o q, o, k l (by simp) o q1, q2⟩
  item := fun i s Q E hi st h => by
    obtain ⟨h1, h2⟩ := st
    have hx : items[i]? = some items[i] := Array.getElem?_eq_getElem hi
    refine RZ.nextOf_tuple_item h1 h2 hx fun h' q1 q2 => h _ h' s.toks hx ⟨q1, ?_⟩ q2
    obtain ⟨o, e1, e2⟩ := h2
    exact ⟨o, (q2.2 l hne).trans e1, e2⟩
  done := fun s Q E st h => by
    obtain ⟨h1, h2⟩ := st
    exact RZ.nextOf_tuple_end hh h1 h2 (by simp) h
theorem draws_end {prog : Program} {w : World} {A : Around} (hh : A.handled = none) (it l : Addr) (items : Array Value) (k : Nat) (hk : items.size ≤ k) :
    Draws prog w A it [it, l] k (fun _ _ => True) fun i h => i = k ∧ h.IsTupleIter it l k ∧ h.IsTuple l items where
  live := fun i h st => let ⟨_, ⟨o, q, _⟩, _⟩ := st; ⟨o, q⟩
  frame := fun i h h' st k => by
    obtain ⟨e, hi, o, q1, q2⟩ := st
    exact ⟨e, hi.at fun o q => k it (by simp) o q, o, k l (by simp) o q1, q2⟩
  item := fun i s Q E hi st h => by
    obtain ⟨e, _⟩ := st
    omega
  done := fun s Q E st h => by
    obtain ⟨_, h1, h2⟩ := st
    exact RZ.nextOf_tuple_end hh h1 h2 (by simp [hk]) h
def Itet (K : PySem.W.Frag) (a : Addr) : It where
  go := fun i H => ∃ xs x, SqT K H a xs ∧ xs[i]? = some x
  yld := fun i H v H' => ∃ T x, v = V.ref T ∧ H T = none ∧ H' = upd H T (HO.tup [V.int (i : Nat), x]) ∧ ∀ xs, SqT K H a xs → xs[i]? = some x
  stop := fun i H => ∃ xs, SqT K H a xs ∧ xs.length ≤ i
theorem turn_enumT {P : Program} {w : World} {K : PySem.W.Frag} {elts : List Expr} {kk : Nat} {tpos : Pos} (a e it : Addr) :
    Turn P w K (.Tuple elts kk tpos) (Itet K a) [e, it] e fun i h => (∃ old, IsEnum h e it (i : Nat) old) ∧ h.IsTupleIter it a i ∧ e ≠ it ∧ a ≠ e ∧ a ≠ it where
  mem := by simp
  obj := fun i h st b hb => by
    obtain ⟨⟨old, he⟩, ⟨o, ho, hc, hd⟩, _⟩ := st
    simp at hb
    rcases hb with rfl | rfl
    · exact ⟨_, he, fun v q => nomatch q⟩
    · exact ⟨o, ho, fun v q => by rw [hd] at q; cases q⟩
  keep := fun i h h' st k => by
    obtain ⟨⟨old, he⟩, hi, hne⟩ := st
    exact ⟨⟨old, k e (by simp) _ he⟩, hi.at fun o q => k it (by simp) o q, hne⟩
  item := fun X hP hw hK hc i pins s σ H E I hf st hg => by
    subst hP
    subst hw
    subst hK
    obtain ⟨⟨old, he⟩, hit, hne, hae, hai⟩ := st
    obtain ⟨xs, x, hq, hx⟩ := hg
    obtain ⟨its, rv, p, hz⟩ := I.tuple hq
    obtain ⟨u, hu, ru⟩ := Vals.get rv hx
    have hel := Heap.lt_size he
    have hil : it < s.heap.objs.size := by obtain ⟨o, q, _⟩ := hit; exact Heap.lt_size q
    have hT : s.heap.IsTuple a its.toArray := by obtain ⟨o, e1, e2, n, e3⟩ := p; exact ⟨o, e1, e2, n, e3⟩
    have hi : i < its.toArray.size := by have := (List.getElem?_eq_some_iff.mp hu).1; simpa using this
    refine wpAny_pyNext_enum_itemD (draws_tup (show X.A.in1.handled = none from I.ok.hd hc) it a hai its.toArray) he ⟨hit, hT⟩ hi hne (by simp; exact ⟨hne, fun z => hae z.symm⟩) fun x' h' tk hx' ho hst hTt hsz hk => ?_
    have hx' : its[i]? = some x' := by simpa using hx'
    rw [hu] at hx'
    cases hx'
    refine ⟨Value.ref s.heap.objs.size, rfl, wpAny_letOwnedTupleGo_enum ho fun h'' he' sb => ?_⟩
    have hT2 : h''.get? s.heap.objs.size = _ := (sb.2 s.heap.objs.size (Nat.ne_of_gt hel)).trans hTt
    have new : ObjOk X.prog X.w (upd H s.heap.objs.size (HO.tup [V.int (i : Nat), x])) h'' s.heap.objs.size (HO.tup [V.int (i : Nat), x]) := ⟨by show 2 ≤ sizeLine; rw [sizeLine_eq]; decide, [Value.int (i : Nat) tk, u], .cons ⟨tk, rfl⟩ (.cons ru .nil), _, hT2, rfl, 0, rfl⟩
    have I1 := I.turnedNew (h' := h'') (t' := tk + 1) (ch := [e, it]) (fun b ob hb q => by
      simp at hb
      exact (sb.2 b hb.1).trans (hk b ob hb.1 hb.2 q)) hf (Nat.le_refl _) new
    refine ⟨V.ref s.heap.objs.size, upd H s.heap.objs.size (HO.tup [V.int (i : Nat), x]), I1, rfl, ⟨s.heap.objs.size, x, rfl, HOk.fresh I.hok (Nat.le_refl _), rfl, fun ys hy => ?_⟩, ⟨⟨u, he'⟩, hst.1.at fun o q => (sb.2 it (Ne.symm hne)).trans q, hne, hae, hai⟩, fun b hb => ?_⟩
    · rw [I.tuple_inj hy hq]; exact hx
    · have hb' : b < s.heap.objs.size := by
        simp at hb
        rcases hb with rfl | rfl
        · exact hel
        · exact hil
      rw [upd_ne (Nat.ne_of_lt hb')]
      exact (hf b hb).1
  done := fun X hP hw hK hc i pins s σ H E I hf st hg => by
    subst hP
    subst hw
    subst hK
    obtain ⟨⟨old, he⟩, hit, hne, hae, hai⟩ := st
    obtain ⟨xs, hq, hx⟩ := hg
    obtain ⟨its, rv, p, hz⟩ := I.tuple hq
    have hT : s.heap.IsTuple a its.toArray := by obtain ⟨o, e1, e2, n, e3⟩ := p; exact ⟨o, e1, e2, n, e3⟩
    obtain ⟨f0, f1, f2, f3, f4, f5⟩ := hf it (by simp)
    have hl := Vals.length rv
    exact wpAny_pyNext_enum_endD (draws_end (show X.A.in1.handled = none from I.ok.hd hc) it a its.toArray i (by simp; omega)) he ⟨rfl, hit, hT⟩ fun h' eb => ⟨rfl, I.turned (fun b o hb q => eb b o hb q) f0 f1 f3 f4 f5⟩
  self := fun A i s Q E st h => let ⟨⟨_, he⟩, _⟩ := st; wpAny_pyIter_enum he h
def iEnumA (K : PySem.W.Frag) (ta : TA) : TI := fun σ H R => ta σ H fun vs H1 => ∃ a xs, vs = [V.ref a] ∧ ((SqL K H1 a xs ∧ R (Ite K a) H1) ∨ (SqT K H1 a xs ∧ R (Itet K a) H1))
theorem pi_enumA {X : Cx} {e : PySem.Expr} {ta : TA} {p pos tpos : Pos} {elts : List PySem.Expr} {kk : Nat} (hg : Gl X (Str.ofString "enumerate")) (hm : X.mg (Str.ofString "enumerate") = none) (ha : PA X [e] ta) (hs : starEach [e] X.env = [(false, eval e X.env)]) :
    PI X (Expr.Tuple elts kk tpos) ((Expr.Name (Str.ofString "enumerate") p).Call [e] [] pos) (iEnumA X.K ta) := by
  refine ⟨fun pins s σ H R I h => Call_ (ld_blt I hg hm boot_enumerate (PyProof.Rows.callWith_type1 (thn (ha.run pos pins s σ H (fun vs H1 => ∃ a xs, vs = [V.ref a] ∧ ((SqL X.K H1 a xs ∧ R (Ite X.K a) H1) ∨ (SqT X.K H1 a xs ∧ R (Itet X.K a) H1))) I h) fun us s1 x => ?_) hs))⟩
  obtain ⟨vs, H1, I1, r1, a, xs, rfl, hq⟩ := x
  obtain ⟨u, rfl, ru⟩ := L2.vals1 r1
  have ru : u = Value.ref a := ru
  subst ru
  have fp : ∀ b ∈ [s1.heap.objs.size + 1, s1.heap.objs.size], FpOk X pins H1 b := fun b hb => by
    simp at hb
    have hle : s1.heap.objs.size ≤ b := by
      rcases hb with rfl | rfl
      · exact Nat.le_succ _
      · exact Nat.le_refl _
    exact I1.fpOk hle (HOk.fresh I1.hok hle)
  rcases hq with ⟨hq, q⟩ | ⟨hq, q⟩
  · obtain ⟨its, rv, p', hz⟩ := I1.list hq
    refine call_enumerate_list p'.isList fun h' he hit hsz hk => wpAny_pyIter_enum he ?_
    have I2 := I1.kept (h' := h') (t' := s1.toks) hk
    exact ⟨s1.heap.objs.size + 1, [s1.heap.objs.size + 1, s1.heap.objs.size], _, Ite X.K a, H1, rfl, I2, turn_enum a (s1.heap.objs.size + 1) s1.heap.objs.size, ⟨⟨Value.none, he⟩, hit, Nat.succ_ne_self _⟩, fp, q⟩
  · obtain ⟨its, rv, p', hz⟩ := I1.tuple hq
    have hT : s1.heap.IsTuple a its.toArray := by obtain ⟨o, e1, e2, n, e3⟩ := p'; exact ⟨o, e1, e2, n, e3⟩
    have hal : a < s1.heap.objs.size := by obtain ⟨o, e1, _⟩ := p'; exact Heap.lt_size e1
    refine call_enumT hT fun h' he hit hsz hk => wpAny_pyIter_enum he ?_
    have I2 := I1.kept (h' := h') (t' := s1.toks) hk
    exact ⟨s1.heap.objs.size + 1, [s1.heap.objs.size + 1, s1.heap.objs.size], _, Itet X.K a, H1, rfl, I2, turn_enumT a (s1.heap.objs.size + 1) s1.heap.objs.size, ⟨⟨Value.none, he⟩, hit, Nat.succ_ne_self _, Nat.ne_of_lt (Nat.lt_succ_of_lt hal), Nat.ne_of_lt hal⟩, fp, q⟩
end PV
/-! # PV11: what is walked, targets -/
namespace PV
open PySem PySem.Spec PyProof.Rows L2
variable {Z : Wd} {n : Nat} {N : List Str} {sc : Scope} {W : WX}
structure ItOk (K : PySem.W.Frag) (J : It) (its : List D) (Iv : (Addr → Prop) → Hp → Prop) : Prop where
  keep : ∀ F H G F' H', Iv F H → Stp F H G F' H' → Iv F' H'
  go : ∀ i F H, Iv F H → i < its.length → J.go i H
  stop : ∀ i F H, Iv F H → its.length ≤ i → J.stop i H
  yld : ∀ i F H G x H', Iv F H → (∀ a, F a → H a ≠ none) → (∀ a, G a → H a ≠ none) → J.yld i H x H' → i < its.length → ∃ d, its[i]? = some d ∧ Stp F H G F H' ∧ Rp K F H' x d
def IkK (Z : Wd) (ik : IK) (ri : List V → Hp → (It → Hp → Prop) → Prop) : Prop :=
  ∀ F H vs ds its R, Rps Z.K F H vs ds → items ik ds = some its → (∀ J Iv, ItOk Z.K J its Iv → Iv F H → its.length ≤ sizeLine → R J H) → ri vs H R
section
variable {K : PySem.W.Frag}
theorem itok_list {a : Addr} {vs : List V} {its : List D} : ItOk K (Itl K a) its (fun F H => F a ∧ H a = some (.lst vs) ∧ Rps K F H vs its) where
  keep := fun F H G F' H' ⟨h1, h2, h3⟩ st => ⟨(st.fro a h1).1, (st.fro a h1).2.trans h2, h3.stp st⟩
  go := fun i F H ⟨h1, h2, h3⟩ hi => by
    have hi : i < vs.length := by rw [h3.len]; exact hi
    exact ⟨vs, vs[i], sqL h2, by rw [List.getElem?_eq_getElem hi]⟩
  stop := fun i F H ⟨h1, h2, h3⟩ hi => ⟨vs, sqL h2, by rw [h3.len]; exact hi⟩
  yld := fun i F H G x H' ⟨h1, h2, h3⟩ wf hg hy hi => by
    obtain ⟨rfl, f⟩ := hy
    obtain ⟨d, e⟩ : ∃ d, its[i]? = some d := ⟨its[i], by rw [List.getElem?_eq_getElem hi]⟩
    obtain ⟨v, e2, r⟩ := h3.get e
    have e3 := f vs (sqL h2)
    rw [e2] at e3
    cases e3
    exact ⟨d, e, Stp.refl, r⟩
theorem itok_tup {a : Addr} {vs : List V} {its : List D} : ItOk K (Itt K a) its (fun F H => H a = some (.tup vs) ∧ Rps K F H vs its) where
  keep := fun F H G F' H' ⟨h2, h3⟩ st => ⟨st.tup a vs h2, h3.stp st⟩
  go := fun i F H ⟨h2, h3⟩ hi => by
    have hi : i < vs.length := by rw [h3.len]; exact hi
    exact ⟨vs, vs[i], sqT h2, by rw [List.getElem?_eq_getElem hi]⟩
  stop := fun i F H ⟨h2, h3⟩ hi => ⟨vs, sqT h2, by rw [h3.len]; exact hi⟩
  yld := fun i F H G x H' ⟨h2, h3⟩ wf hg hy hi => by
    obtain ⟨rfl, f⟩ := hy
    obtain ⟨d, e⟩ : ∃ d, its[i]? = some d := ⟨its[i], by rw [List.getElem?_eq_getElem hi]⟩
    obtain ⟨v, e2, r⟩ := h3.get e
    have e3 := f vs (sqT h2)
    rw [e2] at e3
    cases e3
    exact ⟨d, e, Stp.refl, r⟩
theorem itok_range {lo : Int} {k : Nat} : ItOk K (Itr lo k) ((List.range k).map fun (i : Nat) => D.int (lo + (i : Int))) (fun _ _ => True) where
  keep := fun _ _ _ _ _ _ _ => trivial
  go := fun i F H _ hi => by
    have hi : i < k := by simpa using hi
    exact hi
  stop := fun i F H _ hi => by
    have hi : k ≤ i := by simpa using hi
    exact hi
  yld := fun i F H G x H' _ wf hg hy hi => by
    obtain ⟨rfl, rfl⟩ := hy
    have hi : i < k := by simpa using hi
    refine ⟨.int (lo + i), ?_, Stp.refl, .int _⟩
    rw [List.getElem?_map, List.getElem?_range hi]
    rfl
theorem zw_get {a b : List D} {i : Nat} {u v : D} (h1 : a[i]? = some u) (h2 : b[i]? = some v) : (List.zipWith (fun u v => D.tup [u, v]) a b)[i]? = some (.tup [u, v]) := by
  rw [List.getElem?_zipWith, h1, h2]
theorem len2 {x y : V} : [x, y].length ≤ sizeLine := by rw [sizeLine_eq]; exact (by decide : 2 ≤ 16777216)
theorem itok_zip {a b : Addr} {vs ws : List V} {xs ys : List D} : ItOk K (Itz K a b) (List.zipWith (fun u v => .tup [u, v]) xs ys) (fun F H => F a ∧ F b ∧ H a = some (.lst vs) ∧ H b = some (.lst ws) ∧ Rps K F H vs xs ∧ Rps K F H ws ys) where
  keep := fun F H G F' H' ⟨f1, f2, h1, h2, h3, h4⟩ st => ⟨(st.fro a f1).1, (st.fro b f2).1, (st.fro a f1).2.trans h1, (st.fro b f2).2.trans h2, h3.stp st, h4.stp st⟩
  go := fun i F H ⟨f1, f2, h1, h2, h3, h4⟩ hi => by
    rw [List.length_zipWith] at hi
    have i1 : i < vs.length := by rw [h3.len]; omega
    have i2 : i < ws.length := by rw [h4.len]; omega
    exact ⟨vs, ws, vs[i], ws[i], sqL h1, sqL h2, by rw [List.getElem?_eq_getElem i1], by rw [List.getElem?_eq_getElem i2]⟩
  stop := fun i F H ⟨f1, f2, h1, h2, h3, h4⟩ hi => ⟨vs, ws, sqL h1, sqL h2, by
    rw [List.length_zipWith] at hi
    rw [h3.len, h4.len]
    omega⟩
  yld := fun i F H G x H' ⟨f1, f2, h1, h2, h3, h4⟩ wf hg hy hi => by
    obtain ⟨T, x1, x2, rfl, nT, rfl, g1, g2⟩ := hy
    rw [List.length_zipWith] at hi
    obtain ⟨d, e⟩ : ∃ d, xs[i]? = some d := ⟨xs[i]'(by omega), by rw [List.getElem?_eq_getElem]⟩
    obtain ⟨d2, e2⟩ : ∃ d, ys[i]? = some d := ⟨ys[i]'(by omega), by rw [List.getElem?_eq_getElem]⟩
    obtain ⟨v, q1, r1⟩ := h3.get e
    obtain ⟨v2, q2, r2⟩ := h4.get e2
    have e3 := g1 vs (sqL h1)
    rw [q1] at e3
    obtain rfl := Option.some.inj e3
    have e4 := g2 ws (sqL h2)
    rw [q2] at e4
    obtain rfl := Option.some.inj e4
    have st : Stp F H G F (upd H T (.tup [v, v2])) := Stp.new wf hg nT
    exact ⟨_, zw_get e e2, st, .tup upd_same len2 (.cons (r1.stp st) (.cons (r2.stp st) .nil))⟩
theorem itok_zipT {a b : Addr} {vs ws : List V} {xs ys : List D} : ItOk K (RZ.ItzT K a b) (List.zipWith (fun u v => .tup [u, v]) xs ys) (fun F H => H a = some (.tup vs) ∧ H b = some (.tup ws) ∧ Rps K F H vs xs ∧ Rps K F H ws ys) where
  keep := fun F H G F' H' ⟨h1, h2, h3, h4⟩ st => ⟨st.tup a vs h1, st.tup b ws h2, h3.stp st, h4.stp st⟩
  go := fun i F H ⟨h1, h2, h3, h4⟩ hi => by
    rw [List.length_zipWith] at hi
    have i1 : i < vs.length := by rw [h3.len]; omega
    have i2 : i < ws.length := by rw [h4.len]; omega
    exact ⟨vs, ws, vs[i], ws[i], sqT h1, sqT h2, by rw [List.getElem?_eq_getElem i1], by rw [List.getElem?_eq_getElem i2]⟩
  stop := fun i F H ⟨h1, h2, h3, h4⟩ hi => ⟨vs, ws, sqT h1, sqT h2, by
    rw [List.length_zipWith] at hi
    rw [h3.len, h4.len]
    omega⟩
  yld := fun i F H G x H' ⟨h1, h2, h3, h4⟩ wf hg hy hi => by
    obtain ⟨T, x1, x2, rfl, nT, rfl, g1, g2⟩ := hy
    rw [List.length_zipWith] at hi
    obtain ⟨d, e⟩ : ∃ d, xs[i]? = some d := ⟨xs[i]'(by omega), by rw [List.getElem?_eq_getElem]⟩
    obtain ⟨d2, e2⟩ : ∃ d, ys[i]? = some d := ⟨ys[i]'(by omega), by rw [List.getElem?_eq_getElem]⟩
    obtain ⟨v, q1, r1⟩ := h3.get e
    obtain ⟨v2, q2, r2⟩ := h4.get e2
    have e3 := g1 vs (sqT h1)
    rw [q1] at e3
    obtain rfl := Option.some.inj e3
    have e4 := g2 ws (sqT h2)
    rw [q2] at e4
    obtain rfl := Option.some.inj e4
    have st : Stp F H G F (upd H T (.tup [v, v2])) := Stp.new wf hg nT
    exact ⟨_, zw_get e e2, st, .tup upd_same len2 (.cons (r1.stp st) (.cons (r2.stp st) .nil))⟩
theorem itok_enum {a : Addr} {vs : List V} {xs : List D} : ItOk K (Ite K a) (xs.mapIdx fun i d => .tup [.int (i : Nat), d]) (fun F H => F a ∧ H a = some (.lst vs) ∧ Rps K F H vs xs) where
  keep := fun F H G F' H' ⟨h1, h2, h3⟩ st => ⟨(st.fro a h1).1, (st.fro a h1).2.trans h2, h3.stp st⟩
  go := fun i F H ⟨h1, h2, h3⟩ hi => by
    have hi : i < vs.length := by rw [h3.len]; simpa using hi
    exact ⟨vs, vs[i], sqL h2, by rw [List.getElem?_eq_getElem hi]⟩
  stop := fun i F H ⟨h1, h2, h3⟩ hi => ⟨vs, sqL h2, by rw [h3.len]; simpa using hi⟩
  yld := fun i F H G x H' ⟨h1, h2, h3⟩ wf hg hy hi => by
    obtain ⟨T, x1, rfl, nT, rfl, g1⟩ := hy
    have hi : i < xs.length := by simpa using hi
    obtain ⟨d, e⟩ : ∃ d, xs[i]? = some d := ⟨xs[i], by rw [List.getElem?_eq_getElem hi]⟩
    obtain ⟨v, q1, r1⟩ := h3.get e
    have e3 := g1 vs (sqL h2)
    rw [q1] at e3
    obtain rfl := Option.some.inj e3
    have st : Stp F H G F (upd H T (.tup [.int (i : Nat), v])) := Stp.new wf hg nT
    refine ⟨.tup [.int (i : Nat), d], ?_, st, .tup upd_same len2 (.cons (.int _) (.cons (r1.stp st) .nil))⟩
    rw [List.getElem?_mapIdx, e]
    rfl
theorem itok_enumT {a : Addr} {vs : List V} {xs : List D} : ItOk K (Itet K a) (xs.mapIdx fun i d => .tup [.int (i : Nat), d]) (fun F H => H a = some (.tup vs) ∧ Rps K F H vs xs) where
  keep := fun F H G F' H' ⟨h2, h3⟩ st => ⟨st.tup a vs h2, h3.stp st⟩
  go := fun i F H ⟨h2, h3⟩ hi => by
    have hi : i < vs.length := by rw [h3.len]; simpa using hi
    exact ⟨vs, vs[i], sqT h2, by rw [List.getElem?_eq_getElem hi]⟩
  stop := fun i F H ⟨h2, h3⟩ hi => ⟨vs, sqT h2, by rw [h3.len]; simpa using hi⟩
  yld := fun i F H G x H' ⟨h2, h3⟩ wf hg hy hi => by
    obtain ⟨T, x1, rfl, nT, rfl, g1⟩ := hy
    have hi : i < xs.length := by simpa using hi
    obtain ⟨d, e⟩ : ∃ d, xs[i]? = some d := ⟨xs[i], by rw [List.getElem?_eq_getElem hi]⟩
    obtain ⟨v, q1, r1⟩ := h3.get e
    have e3 := g1 vs (sqT h2)
    rw [q1] at e3
    obtain rfl := Option.some.inj e3
    have st : Stp F H G F (upd H T (.tup [.int (i : Nat), v])) := Stp.new wf hg nT
    refine ⟨.tup [.int (i : Nat), d], ?_, st, .tup upd_same len2 (.cons (.int _) (.cons (r1.stp st) .nil))⟩
    rw [List.getElem?_mapIdx, e]
    rfl
end
/-! ### the kinds -/
def rSeq (K : PySem.W.Frag) : List V → Hp → (It → Hp → Prop) → Prop := fun vs H R => match vs with
  | [x] => (∃ a, x = .ref a ∧ (∃ xs, SqL K H a xs) ∧ R (Itl K a) H) ∨ ∃ a, x = .ref a ∧ (∃ xs, SqT K H a xs) ∧ R (Itt K a) H
  | _ => False
theorem pi_seq {X : Cx} {tg l : Expr} {tl : TE} (hl : PE X l tl) : PI X tg l (fun σ H R => tAll [tl] σ H fun vs H1 => rSeq X.K vs H1 R) := by
  refine ⟨fun pins s σ H R I h => ?_⟩
  refine thn (hl.run pins s σ H _ I h) fun v s1 ⟨x, H1, I1, r1, q1⟩ => ?_
  rcases q1 with ⟨a, e, ⟨xs, hq⟩, q⟩ | ⟨a, e, ⟨xs, hq⟩, q⟩
  · subst e
    cases r1
    obtain ⟨its, rv, p, hz⟩ := I1.list hq
    refine wpAny_pyIter_list p.isList ?_
    refine ⟨s1.heap.objs.size, [s1.heap.objs.size], _, _, H1, rfl, I1.kept (t' := s1.toks) fun b o e => Heap.get?_push_of_some _ e, turn_list a _, ⟨_, Heap.get?_push_size _ rfl, rfl, rfl⟩, fun b hb => ?_, q⟩
    have e : b = s1.heap.objs.size := by simpa using hb
    subst e
    exact I1.fpOk (Nat.le_refl _) (I1.hok.fresh (Nat.le_refl _))
  · subst e
    cases r1
    obtain ⟨its, rv, p, hz⟩ := I1.tuple hq
    refine wpAny_pyIter_tuple (show s1.heap.IsTuple a its.toArray from p) ?_
    refine ⟨s1.heap.objs.size, [s1.heap.objs.size], _, _, H1, rfl, I1.kept (t' := s1.toks) fun b o e => Heap.get?_push_of_some _ e, turn_tuple a _, ⟨_, Heap.get?_push_size _ rfl, rfl, rfl⟩, fun b hb => ?_, q⟩
    have e : b = s1.heap.objs.size := by simpa using hb
    subst e
    exact I1.fpOk (Nat.le_refl _) (I1.hok.fresh (Nat.le_refl _))
theorem rp_lstF {K : PySem.W.Frag} {F : Addr → Prop} {H : Hp} {v : V} {ds : List D} (r : Rp K F H v (.lst ds)) : ∃ a vs, v = .ref a ∧ F a ∧ H a = some (.lst vs) ∧ vs.length ≤ sizeLine ∧ Rps K F H vs ds := by
  cases r with
  | lst f h z r => exact ⟨_, _, rfl, f, h, z, r⟩
theorem ikk_seq : IkK Z .seq (rSeq Z.K) := by
  intro F H vs ds its R rps h q
  change itSeq ds = some its at h
  unfold itSeq at h
  split at h
  · obtain ⟨v, rfl, ra⟩ := rps1 rps
    cases h
    obtain ⟨a, xs, rfl, f, h1, z, r⟩ := rp_lstF ra
    exact .inl ⟨a, rfl, ⟨xs, sqL h1⟩, q _ _ itok_list ⟨f, h1, r⟩ (by rw [← r.len]; exact z)⟩
  · obtain ⟨v, rfl, ra⟩ := rps1 rps
    cases h
    obtain ⟨a, xs, rfl, h1, z, r⟩ := rp_tup ra
    exact .inr ⟨a, rfl, ⟨xs, sqT h1⟩, q _ _ itok_tup ⟨h1, r⟩ (by rw [← r.len]; exact z)⟩
  · cases h
def rR1 : List V → Hp → (It → Hp → Prop) → Prop := fun vs H1 R => ∃ j : Int, vs = [.int j] ∧ -(2 ^ 62) ≤ j ∧ j < 2 ^ 62 ∧ R (Itr 0 j.toNat) H1
theorem ikk_r1 : IkK Z .range1 rR1 := by
  intro F H vs ds its R rps h q
  change itR1 ds = some its at h
  unfold itR1 at h
  split at h
  · obtain ⟨v, rfl, ra⟩ := rps1 rps
    split at h
    · rename_i hc
      cases h
      cases rp_int ra
      refine ⟨_, rfl, hc.1, by omega, q _ _ itok_range trivial ?_⟩
      rw [List.length_map, List.length_range, sizeLine_eq]
      omega
    · cases h
  · cases h
def rR2 : List V → Hp → (It → Hp → Prop) → Prop := fun vs H1 R => ∃ i j : Int, vs = [.int i, .int j] ∧ (-(2 ^ 62) ≤ i ∧ i < 2 ^ 62 ∧ -(2 ^ 62) ≤ j ∧ j < 2 ^ 62) ∧ R (Itr i (j - i).toNat) H1
theorem ikk_r2 : IkK Z .range2 rR2 := by
  intro F H vs ds its R rps h q
  change itR2 ds = some its at h
  unfold itR2 at h
  split at h
  · obtain ⟨v, u, rfl, ra, rb⟩ := rps2 rps
    split at h
    · rename_i hc
      cases h
      cases rp_int ra
      cases rp_int rb
      refine ⟨_, _, rfl, ⟨hc.1, hc.2.1, hc.2.2.1, hc.2.2.2.1⟩, q _ _ itok_range trivial ?_⟩
      rw [List.length_map, List.length_range, sizeLine_eq]
      omega
    · cases h
  · cases h
def rZipI (K : PySem.W.Frag) : List V → Hp → (It → Hp → Prop) → Prop := fun vs H1 R => ∃ a b xs ys, vs = [.ref a, .ref b] ∧ ((SqL K H1 a xs ∧ SqL K H1 b ys ∧ R (Itz K a b) H1) ∨ (SqT K H1 a xs ∧ SqT K H1 b ys ∧ R (RZ.ItzT K a b) H1))
theorem zw_len (a b : List D) : (List.zipWith (fun u v => D.tup [u, v]) a b).length ≤ a.length := by
  rw [List.length_zipWith]; omega
theorem ikk_zip : IkK Z .zip (rZipI Z.K) := by
  intro F H vs ds its R rps h q
  change itZip ds = some its at h
  unfold itZip at h
  split at h
  · obtain ⟨v, u, rfl, ra, rb⟩ := rps2 rps
    cases h
    obtain ⟨a, xs, rfl, h1, z, r⟩ := rp_tup ra
    obtain ⟨b, ys, rfl, h2, z2, r2⟩ := rp_tup rb
    exact ⟨a, b, xs, ys, rfl, .inr ⟨sqT h1, sqT h2, q _ _ itok_zipT ⟨h1, h2, r, r2⟩ (Nat.le_trans (zw_len _ _) (by rw [← r.len]; exact z))⟩⟩
  · obtain ⟨v, u, rfl, ra, rb⟩ := rps2 rps
    cases h
    obtain ⟨a, xs, rfl, f1, h1, z, r⟩ := rp_lstF ra
    obtain ⟨b, ys, rfl, f2, h2, z2, r2⟩ := rp_lstF rb
    exact ⟨a, b, xs, ys, rfl, .inl ⟨sqL h1, sqL h2, q _ _ itok_zip ⟨f1, f2, h1, h2, r, r2⟩ (Nat.le_trans (zw_len _ _) (by rw [← r.len]; exact z))⟩⟩
  · cases h
def rEnumI (K : PySem.W.Frag) : List V → Hp → (It → Hp → Prop) → Prop := fun vs H1 R => ∃ a xs, vs = [.ref a] ∧ ((SqL K H1 a xs ∧ R (Ite K a) H1) ∨ (SqT K H1 a xs ∧ R (Itet K a) H1))
theorem ikk_enum : IkK Z .enum (rEnumI Z.K) := by
  intro F H vs ds its R rps h q
  change itEnum ds = some its at h
  unfold itEnum at h
  split at h
  · obtain ⟨v, rfl, ra⟩ := rps1 rps
    cases h
    obtain ⟨a, xs, rfl, f, h1, z, r⟩ := rp_lstF ra
    exact ⟨a, xs, rfl, .inl ⟨sqL h1, q _ _ itok_enum ⟨f, h1, r⟩ (by rw [List.length_mapIdx, ← r.len]; exact z)⟩⟩
  · obtain ⟨v, rfl, ra⟩ := rps1 rps
    cases h
    obtain ⟨a, xs, rfl, h1, z, r⟩ := rp_tup ra
    exact ⟨a, xs, rfl, .inr ⟨sqT h1, q _ _ itok_enumT ⟨h1, r⟩ (by rw [List.length_mapIdx, ← r.len]; exact z)⟩⟩
  · cases h
/-- the syntax of what is walked -/
def isTupE : Expr → Bool
  | .Tuple _ _ _ => true
  | _ => false
def noSet : Expr → Bool
  | .Set _ _ _ => false
  | _ => true
theorem noSet_ok {e : Expr} {env : Env} (h : noSet e = true) : ∀ x, foldedSetIterable e env x = pure x := by
  intro x
  cases e <;> first | rfl | cases h
def ikA (sc : Scope) : IK → Expr → Expr → Option (List Expr)
  | .seq, _, e => if noSet e = true then some [e] else none
  | .range1, _, e => callA sc "range" 0 e
  | .range2, _, e => callA sc "range" 1 e
  | .zip, t, e => if isTupE t = true then callA sc "zip" 1 e else none
  | .enum, t, e => if isTupE t = true then callA sc "enumerate" 0 e else none
def IkS (Z : Wd) (n : Nat) (N : List Str) (sc : Scope) (W : WX) (ik : IK) : Prop :=
  ∀ es tg ast, ikA sc ik tg ast = some es → noSet ast = true ∧ ∃ ri, IkK Z ik ri ∧ ∀ ts X, Gd Z n N sc W X → PEs X es ts → PI X tg ast (fun σ H R => tAll ts σ H fun vs H' => ri vs H' R)
theorem iks_all (hz : Wok Z) : ∀ ik, IkS Z n N sc W ik := by
  intro ik es tg ast h
  cases ik with
  | seq =>
    change (if noSet ast = true then some [ast] else none) = some es at h
    split at h
    · rename_i hs
      cases h
      refine ⟨hs, _, ikk_seq, fun ts X g hp => ?_⟩
      obtain ⟨t, rfl, h1⟩ := pes1 hp
      rw [← g.K]
      exact pi_seq h1
    · cases h
  | range1 =>
    obtain ⟨p, p2, a, as, rfl, rfl, h1, h2, h3⟩ := callA_some h
    refine ⟨rfl, _, ikk_r1, fun ts X g hp => ?_⟩
    cases as with
    | cons => cases h3
    | nil => exact pi_range1 (gl_of g h1) (by rw [g.mg]; exact hz.free _ (by decide +kernel)) (hp.pa h2) (by rw [star_cons (all_cons_ns h2).1]; rfl)
  | range2 =>
    obtain ⟨p, p2, a, as, rfl, rfl, h1, h2, h3⟩ := callA_some h
    refine ⟨rfl, _, ikk_r2, fun ts X g hp => ?_⟩
    match as, h3 with
    | [b], _ =>
      have h4 := all_cons_ns h2
      exact pi_range2 (gl_of g h1) (by rw [g.mg]; exact hz.free _ (by decide +kernel)) (hp.pa h2) (by rw [star_cons h4.1, star_cons (all_cons_ns h4.2).1]; rfl) (by rw [star_cons (all_cons_ns h4.2).1]; rfl)
  | zip =>
    change (if isTupE tg = true then callA sc "zip" 1 ast else none) = some es at h
    split at h
    · rename_i ht
      obtain ⟨p, p2, a, as, rfl, rfl, h1, h2, h3⟩ := callA_some h
      refine ⟨rfl, _, ikk_zip, fun ts X g hp => ?_⟩
      match as, h3 with
      | [b], _ =>
        cases tg with
        | Tuple elts kk tpos =>
          rw [← g.K]
          exact RZ.pi_zipA (gl_of g h1) (by rw [g.mg]; exact hz.free _ (by decide +kernel)) (hp.pa h2) (star_cons (all_cons_ns h2).1) (star_none (all_cons_ns h2).2)
        | _ => cases ht
    · cases h
  | enum =>
    change (if isTupE tg = true then callA sc "enumerate" 0 ast else none) = some es at h
    split at h
    · rename_i ht
      obtain ⟨p, p2, a, as, rfl, rfl, h1, h2, h3⟩ := callA_some h
      refine ⟨rfl, _, ikk_enum, fun ts X g hp => ?_⟩
      cases as with
      | cons => cases h3
      | nil =>
        cases tg with
        | Tuple elts kk tpos =>
          rw [← g.K]
          exact pi_enumA (gl_of g h1) (by rw [g.mg]; exact hz.free _ (by decide +kernel)) (hp.pa h2) (by rw [star_cons (all_cons_ns h2).1]; rfl)
        | _ => cases ht
    · cases h
/-- a walked thing simulates the evaluator -/
def PostI (Z : Wd) (W : WX) (σ : L2.St) (F : Addr → Prop) (H : Hp) (G : Addr → Prop) (R' : It → Hp → Prop) : R (List D) → Prop
  | .ok its s => ∀ J Iv F' H' L', Stp F H G F' H' → Ok Z.K F' H' G σ s L' → ItOk Z.K J its Iv → Iv F' H' → its.length ≤ sizeLine → R' J H'
  | .ex c as s => PostX Z W σ F H G c as s
  | .bad => False
def SimI (Z : Wd) (W : WX) (t : TI) (f : Sl → R (List D)) : Prop := ∀ σ H Q F G s L, Ok Z.K F H G σ s L → PostI Z W σ F H G Q (f s) → t σ H Q
def fI (ik : IK) (f : Sl → R (List D)) : Sl → R (List D) := fun s => (f s).bind fun ds s => match items ik ds with
  | some its => .ok its s
  | none => .bad
def SI (Z : Wd) (n : Nat) (N : List Str) (sc : Scope) (W : WX) (tg iter : Expr) (f : Sl → R (List D)) : Prop :=
  noSet iter = true ∧ ∃ wi, (∀ X, Gd Z n N sc W X → PI X tg iter wi) ∧ SimI Z W wi f
theorem SI.mk {ik : IK} {tg iter : Expr} {es : List Expr} {f : Sl → R (List D)} (hz : Wok Z) (h : SA Z n N sc W es f) (e : ikA sc ik tg iter = some es) : SI Z n N sc W tg iter (fI ik f) := by
  obtain ⟨ts, h1, h2⟩ := h
  obtain ⟨hs, ri, k, q⟩ := iks_all (n := n) (N := N) (sc := sc) (W := W) hz ik es tg iter e
  refine ⟨hs, _, fun X g => q ts X g (h1 X g), ?_⟩
  intro σ H Q F G s L ok p
  refine h2 σ H _ F G s L ok ?_
  unfold fI at p
  cases e : f s with
  | bad => rw [e] at p; exact p
  | ex c as s1 => rw [e] at p; exact p
  | ok ds s1 =>
    rw [e] at p
    intro vs F1 H1 L1 st rps ok1
    have p : PostI Z W σ F H G Q (match items ik ds with | some its => .ok its s1 | none => .bad) := p
    cases e2 : items ik ds with
    | none => rw [e2] at p; exact p.elim
    | some its =>
      rw [e2] at p
      exact k F1 H1 vs ds its _ rps e2 fun J Iv i1 i2 i3 => p J Iv F1 H1 L1 st ok1 i1 i2 i3
end PV
/-! # PV12: targets, comprehensions -/
namespace PV
open PySem PySem.Spec PyProof.Rows L2
variable {Z : Wd} {n : Nat} {N : List Str} {sc : Scope} {W : WX}
/-- behind a store: the other slots are as they were -/
structure Agr (pins : Nat) (vars : List Nat) (σ σ' : L2.St) : Prop where
  len : σ'.length = σ.length
  out : ∀ i, i ∉ vars → σ'[i]? = σ[i]?
  pin : ∀ i, i < pins → σ'[i]? = σ[i]?
theorem Agr.refl {pins : Nat} {vars : List Nat} {σ : L2.St} : Agr pins vars σ σ := ⟨rfl, fun _ _ => rfl, fun _ _ => rfl⟩
theorem Agr.trans {pins : Nat} {v1 v2 : List Nat} {σ σ1 σ2 : L2.St} (a : Agr pins v1 σ σ1) (b : Agr pins v2 σ1 σ2) : Agr pins (v1 ++ v2) σ σ2 :=
  ⟨b.len.trans a.len, fun i h => (b.out i fun z => h (List.mem_append_right _ z)).trans (a.out i fun z => h (List.mem_append_left _ z)), fun i h => (b.pin i h).trans (a.pin i h)⟩
def SimG (K : PySem.W.Frag) (pins : Nat) (g : TG) (tg : Tg) : Prop := ∀ σ H Qg F G Lm s s' L v m, Ok K F H (with_ G Lm) σ s L → Rv K F H G v m Lm → bindT pins tg m s = some s' →
  (∀ σ' F' L', Stp F H G F' H → Ok K F' H G σ' s' L' → Agr pins tg.vars σ σ' → Qg σ' H) → g v σ H Qg
def SimGs (K : PySem.W.Frag) (pins : Nat) (g : TGs) (ts : List Tg) : Prop := ∀ σ H Qg F G s s' L vs ds, Ok K F H G σ s L → Rps K F H vs ds → bindTs pins ts ds s = some s' →
  (∀ σ' F' L', Stp F H G F' H → Ok K F' H G σ' s' L' → Agr pins (varss ts) σ σ' → Qg σ' H) → g vs σ H Qg
theorem bindTs_len {pins : Nat} : ∀ {ts : List Tg} {ds : List D} {s s' : Sl}, bindTs pins ts ds s = some s' → ts.length = ds.length
  | [], [], _, _, _ => rfl
  | [], _ :: _, _, _, h => by unfold bindTs at h; cases h
  | _ :: _, [], _, _, h => by unfold bindTs at h; cases h
  | t :: ts, d :: ds, s, s', h => by
    unfold bindTs at h
    cases e1 : bindT pins t (.d d) s with
    | none => rw [e1] at h; cases h
    | some s1 =>
      rw [e1] at h
      rw [List.length_cons, List.length_cons, bindTs_len h]
mutual
def tgA (N : List Str) (bd : Str → Bool) : Tg → Expr → Bool
  | .nm i, .Name x _ => decide (N[i]? = some x) && bd x
  | .tp ts, .Tuple es _ _ => tgAs N bd ts es
  | _, _ => false
def tgAs (N : List Str) (bd : Str → Bool) : List Tg → List Expr → Bool
  | [], [] => true
  | t :: ts, e :: es => tgA N bd t e && tgAs N bd ts es
  | _, _ => false
end
theorem tgA_star : ∀ {bd : Str → Bool} {t : Tg} {e : Expr}, tgA N bd t e = true → noStar e = true := by
  intro bd t e h
  cases e <;> first | rfl | (cases t <;> cases h)
theorem tgAs_star {bd : Str → Bool} : ∀ {ts : List Tg} {es : List Expr}, tgAs N bd ts es = true → es.all noStar = true ∧ ts.length = es.length
  | [], [], _ => ⟨rfl, rfl⟩
  | t :: ts, e :: es, h => by
    simp only [tgAs, Bool.and_eq_true] at h
    obtain ⟨h1, h2⟩ := tgAs_star h.2
    exact ⟨by rw [List.all_cons, tgA_star h.1, h1]; rfl, by rw [List.length_cons, List.length_cons, h2]⟩
  | [], _ :: _, h => by cases h
  | _ :: _, [], h => by cases h
theorem asgn_cons {e : Expr} {es : List Expr} {env : Env} (h : noStar e = true) : assignEach (e :: es) env = (false, assign e env) :: assignEach es env := by
  cases e <;> first | rfl | cases h
theorem asgn_none {env : Env} : ∀ {es : List Expr}, es.all noStar = true → (assignEach es env).findIdx? (·.1) = none ∧ (assignEach es env).length = es.length
  | [], _ => ⟨rfl, rfl⟩
  | e :: es, h => by
    have h := all_cons_ns h
    rw [asgn_cons h.1]
    obtain ⟨h1, h2⟩ := asgn_none (env := env) h.2
    refine ⟨?_, by rw [List.length_cons, List.length_cons, h2]⟩
    rw [List.findIdx?_cons, h1]
    rfl
theorem simG_nm {K : PySem.W.Frag} {pins i : Nat} : SimG K pins (gName i) (.nm i) := by
  intro σ H Qg F G Lm s s' L v m ok rv h q
  unfold bindT at h
  split at h
  · rename_i hc
    cases h
    obtain ⟨L', ok1⟩ := Ok.store (i := i) ok rv hc.1
    refine q _ F L' Stp.refl ok1 ⟨by rw [List.length_set], fun j hj => ?_, fun j hj => ?_⟩
    · have hj : j ≠ i := by simpa [Tg.vars] using hj
      rw [List.getElem?_set_ne (Ne.symm hj)]
    · rw [List.getElem?_set_ne (by omega)]
  · cases h
/-- a class of contexts in which the names that bd tells may be stored -/
structure Bdc (Z : Wd) (N : List Str) (bd : Str → Bool) (C : Cx → Prop) : Prop where
  hN : ∀ X, C X → X.N = N
  nd : N.Nodup
  K : ∀ X, C X → X.K = Z.K
  calm : ∀ X, C X → X.calm = true
  fnl : ∀ X, C X → ∀ x, bd x = true → L2.Loc X.env.scope x ∧ (X.fn x = true ∨ X.env.scope.names.lookup x = some .local)
section
variable {bd : Str → Bool} {C : Cx → Prop} (b : Bdc Z N bd C)
include b
mutual
theorem tg_ok : ∀ (t : Tg) (e : Expr), tgA N bd t e = true → ∃ g, (∀ X, C X → PG X e g) ∧ ∀ pins, SimG Z.K pins g t
  | .nm i, .Name x p, h => by
    simp only [tgA, Bool.and_eq_true, decide_eq_true_eq] at h
    refine ⟨gName i, fun X g => ?_, fun pins => simG_nm⟩
    have hl := b.fnl X g x h.2
    exact pg_name (by rw [b.hN X g]; exact b.nd) (by rw [b.hN X g]; exact h.1) hl.1 hl.2
  | .tp ts, .Tuple es k p, h => by
    have h : tgAs N bd ts es = true := h
    obtain ⟨gs, h1, h2⟩ := tgs_ok ts es h
    obtain ⟨s1, s2⟩ := tgAs_star h
    refine ⟨gTup Z.K ts.length gs, fun X g => ?_, fun pins => ?_⟩
    · rw [← b.K X g]
      exact pg_tup (b.calm X g) (h1 X g) (by rw [(asgn_none s1).2, s2]) (asgn_none s1).1
    · intro σ H Qg F G Lm s s' L v m ok rv hb q
      obtain ⟨st, rp, ok1⟩ := rv.freeze ok
      unfold bindT at hb
      split at hb
      · rename_i ds e
        rw [e] at rp
        obtain ⟨a, vs, rfl, ha, z, r⟩ := rp_tup rp
        have hl : vs.length = ts.length := by
          rw [r.len]
          exact (bindTs_len hb).symm
        exact ⟨a, vs, rfl, sqT ha, hl, h2 pins σ H Qg _ G s s' L vs ds ok1 r hb fun σ' F' L' st2 ok2 ag => q σ' F' L' (st.trans st2) ok2 ag⟩
      · cases hb
  | .nm i, .Tuple _ _ _, h => by cases h
  | .tp ts, .Name _ _, h => by cases h
  | .nm i, .BoolOp _ _ _, h => by cases h
  | .nm i, .NamedExpr _ _ _, h => by cases h
  | .nm i, .BinOp _ _ _ _, h => by cases h
  | .nm i, .UnaryOp _ _ _, h => by cases h
  | .nm i, .Lambda _ _ _ _, h => by cases h
  | .nm i, .IfExp _ _ _ _, h => by cases h
  | .nm i, .Dict _ _ _, h => by cases h
  | .nm i, .Set _ _ _, h => by cases h
  | .nm i, .ListComp _ _ _ _, h => by cases h
  | .nm i, .SetComp _ _ _ _, h => by cases h
  | .nm i, .DictComp _ _ _ _ _, h => by cases h
  | .nm i, .GeneratorExp _ _ _ _, h => by cases h
  | .nm i, .Await _ _, h => by cases h
  | .nm i, .Yield _ _, h => by cases h
  | .nm i, .YieldFrom _ _, h => by cases h
  | .nm i, .Compare _ _ _ _, h => by cases h
  | .nm i, .Call _ _ _ _, h => by cases h
  | .nm i, .FormattedValue _ _ _ _, h => by cases h
  | .nm i, .JoinedStr _ _, h => by cases h
  | .nm i, .Constant _ _ _, h => by cases h
  | .nm i, .Attribute _ _ _, h => by cases h
  | .nm i, .Subscript _ _ _, h => by cases h
  | .nm i, .Starred _ _, h => by cases h
  | .nm i, .List _ _, h => by cases h
  | .nm i, .Slice _ _ _ _, h => by cases h
  | .tp i, .BoolOp _ _ _, h => by cases h
  | .tp i, .NamedExpr _ _ _, h => by cases h
  | .tp i, .BinOp _ _ _ _, h => by cases h
  | .tp i, .UnaryOp _ _ _, h => by cases h
  | .tp i, .Lambda _ _ _ _, h => by cases h
  | .tp i, .IfExp _ _ _ _, h => by cases h
  | .tp i, .Dict _ _ _, h => by cases h
  | .tp i, .Set _ _ _, h => by cases h
  | .tp i, .ListComp _ _ _ _, h => by cases h
  | .tp i, .SetComp _ _ _ _, h => by cases h
  | .tp i, .DictComp _ _ _ _ _, h => by cases h
  | .tp i, .GeneratorExp _ _ _ _, h => by cases h
  | .tp i, .Await _ _, h => by cases h
  | .tp i, .Yield _ _, h => by cases h
  | .tp i, .YieldFrom _ _, h => by cases h
  | .tp i, .Compare _ _ _ _, h => by cases h
  | .tp i, .Call _ _ _ _, h => by cases h
  | .tp i, .FormattedValue _ _ _ _, h => by cases h
  | .tp i, .JoinedStr _ _, h => by cases h
  | .tp i, .Constant _ _ _, h => by cases h
  | .tp i, .Attribute _ _ _, h => by cases h
  | .tp i, .Subscript _ _ _, h => by cases h
  | .tp i, .Starred _ _, h => by cases h
  | .tp i, .List _ _, h => by cases h
  | .tp i, .Slice _ _ _ _, h => by cases h
theorem tgs_ok : ∀ (ts : List Tg) (es : List Expr), tgAs N bd ts es = true → ∃ g, (∀ X, C X → PGs X es g) ∧ ∀ pins, SimGs Z.K pins g ts
  | [], [], _ => by
    refine ⟨gNil, fun X g => pgs_nil, fun pins => ?_⟩
    intro σ H Qg F G s s' L vs ds ok rps h q
    cases ds with
    | nil =>
      cases rps
      unfold bindTs at h
      cases h
      exact ⟨rfl, q σ F L Stp.refl ok Agr.refl⟩
    | cons d ds => unfold bindTs at h; cases h
  | t :: ts, e :: es, h => by
    simp only [tgAs, Bool.and_eq_true] at h
    obtain ⟨g1, h1, h2⟩ := tg_ok t e h.1
    obtain ⟨g2, h3, h4⟩ := tgs_ok ts es h.2
    refine ⟨gCons g1 g2, fun X g => pgs_cons (h1 X g) (h3 X g) ?_, fun pins => ?_⟩
    · rw [asgn_cons (tgA_star h.1)]
      rfl
    · intro σ H Qg F G s s' L vs ds ok rps hb q
      cases ds with
      | nil => unfold bindTs at hb; cases hb
      | cons d ds =>
        cases rps with
        | cons r rs =>
          unfold bindTs at hb
          cases e1 : bindT pins t (.d d) s with
          | none => rw [e1] at hb; cases hb
          | some s1 =>
            rw [e1] at hb
            refine ⟨_, _, rfl, h2 pins σ H _ F G [] s s1 L _ (.d d) ok.nil (.d r) e1 fun σ' F' L' st ok1 a1 => ?_⟩
            exact h4 pins σ' H Qg F' G s1 s' L' _ ds ok1 (rs.stp st) hb fun σ2 F2 L2 st2 ok2 a2 => q σ2 F2 L2 (st.trans st2) ok2 (a1.trans a2)
  | [], _ :: _, h => by cases h
  | _ :: _, [], h => by cases h
end
end
/-! ### slots of a block -/
theorem Rs.anyAll {K : PySem.W.Frag} {F : Addr → Prop} {H : Hp} : ∀ {σ σ' : L2.St} {s : Sl} {L : List Addr}, Rs K F H σ s L → σ'.length = σ.length → (∀ i : Nat, σ'[i]? = σ[i]? ∨ s[i]? = some none) → Rs K F H σ' s L
  | _, [], _, _, .nil, _, _ => .nil
  | _, _ :: _, _, _, .nil, h, _ => by simp at h
  | _, [], _, _, .off _, h, _ => by simp at h
  | _, [], _, _, .on _ _, h, _ => by simp at h
  | _, o :: σ', _, _, .off r, h, q => .off (Rs.anyAll r (by simpa using h) fun i => q (i + 1))
  | _, o :: σ', _, _, .on (v := v) h1 r, h, q => by
    have e : o = some v := by
      rcases q 0 with e | e
      · exact Option.some.inj e
      · simp at e
    subst e
    exact .on h1 (Rs.anyAll r (by simpa using h) fun i => q (i + 1))
theorem wipe_out' {σ : L2.St} {i : Nat} : ∀ {vs : List Nat}, i ∉ vs → (wipe σ vs)[i]? = σ[i]?
  | [], _ => rfl
  | v :: vs, h => by
    show ((wipe σ vs).set v none)[i]? = σ[i]?
    rw [List.getElem?_set_ne (Ne.symm (fun e => h (by rw [e]; exact List.mem_cons_self)))]
    exact wipe_out' fun z => h (List.mem_cons_of_mem _ z)
theorem wipe_in {σ : L2.St} {i : Nat} : ∀ {vs : List Nat}, i ∈ vs → i < σ.length → (wipe σ vs)[i]? = some none
  | [], h, _ => nomatch h
  | v :: vs, h, hl => by
    show ((wipe σ vs).set v none)[i]? = some none
    by_cases e : v = i
    · subst e
      rw [List.getElem?_set_self (by rw [wipe_length]; exact hl)]
    · rw [List.getElem?_set_ne e]
      exact wipe_in ((List.mem_cons.mp h).resolve_left fun z => e z.symm) hl
theorem wipe_eq {σ σ' : L2.St} {vs : List Nat} (hl : σ'.length = σ.length) (h : ∀ i, i ∉ vs → σ'[i]? = σ[i]?) : wipe σ' vs = wipe σ vs := by
  apply List.ext_getElem?
  intro i
  by_cases hi : i ∈ vs
  · by_cases hk : i < σ.length
    · rw [wipe_in hi (by rw [hl]; exact hk), wipe_in hi hk]
    · rw [List.getElem?_eq_none (by rw [wipe_length, hl]; omega), List.getElem?_eq_none (by rw [wipe_length]; omega)]
  · rw [wipe_out' hi, wipe_out' hi, h i hi]
theorem wipe_wipe {σ : L2.St} {vs : List Nat} : wipe (wipe σ vs) vs = wipe σ vs := wipe_eq (wipe_length _ _) fun _ h => wipe_out' h
theorem wipes_len (s : Sl) : ∀ vs : List Nat, (wipes s vs).length = s.length
  | [] => rfl
  | v :: vs => by unfold wipes; rw [List.length_set, wipes_len s vs]
theorem wipes_in {s : Sl} {i : Nat} : ∀ {vs : List Nat}, i ∈ vs → i < s.length → (wipes s vs)[i]? = some none
  | [], h, _ => nomatch h
  | v :: vs, h, hl => by
    show ((wipes s vs).set v none)[i]? = some none
    by_cases e : v = i
    · subst e
      rw [List.getElem?_set_self (by rw [wipes_len]; exact hl)]
    · rw [List.getElem?_set_ne e]
      exact wipes_in ((List.mem_cons.mp h).resolve_left fun z => e z.symm) hl
theorem Ok.wipes {K : PySem.W.Frag} {F : Addr → Prop} {H : Hp} {G : Addr → Prop} {σ : L2.St} {s : Sl} {L : List Addr} (o : Ok K F H G σ s L) : ∀ vs : List Nat, ∃ L', Ok K F H G σ (PV.wipes s vs) L' ∧ L'.Sublist L
  | [] => ⟨L, o, List.Sublist.refl _⟩
  | v :: vs => by
    obtain ⟨L1, o1, s1⟩ := Ok.wipes o vs
    obtain ⟨L2, o2, s2⟩ := o1.clear v
    exact ⟨L2, o2, s2.trans s1⟩
theorem Ok.reslot {K : PySem.W.Frag} {F : Addr → Prop} {H : Hp} {G : Addr → Prop} {σ σ' : L2.St} {s : Sl} {L : List Addr} (o : Ok K F H G σ s L) (hl : σ'.length = σ.length) (h : ∀ i : Nat, σ'[i]? = σ[i]? ∨ s[i]? = some none) : Ok K F H G σ' s L :=
  ⟨o.wf, o.rep.anyAll hl h, o.nd, o.gd⟩
/-- a plain slot is set to a frozen datum, or emptied -/
theorem Rs.setd {K : PySem.W.Frag} {F : Addr → Prop} {H : Hp} {x : D} {u : V} : ∀ {σ : L2.St} {s : Sl} {L : List Addr} {i : Nat}, Rs K F H σ s L → plainAt s i = true → σ[i]? = some (some u) → Rp K F H u x → Rs K F H σ (s.set i (some (.d x))) L
  | _, _, _, i, .nil, h, e, r => by simp at e
  | _, _, _, 0, .off q, h, e, r => by
    have e := Option.some.inj e
    subst e
    exact Rs.on (L1 := []) (.d r) q
  | _, _, _, 0, .on (m := m) h1 q, h, e, r => by
    have e := Option.some.inj e
    cases e
    cases h1 with
    | d r2 => exact Rs.on (L1 := []) (.d r) q
    | lst => cases h
    | tup => cases h
  | _, _, _, i + 1, .off q, h, e, r => .off (Rs.setd q h e r)
  | _, _, _, i + 1, .on h1 q, h, e, r => .on h1 (Rs.setd q h e r)
theorem Rs.setn {K : PySem.W.Frag} {F : Addr → Prop} {H : Hp} : ∀ {σ : L2.St} {s : Sl} {L : List Addr} {i : Nat}, Rs K F H σ s L → plainAt s i = true → Rs K F H σ (s.set i none) L
  | _, _, _, i, .nil, h => by simp [plainAt] at h
  | _, _, _, 0, .off q, h => .off q
  | _, _, _, 0, .on h1 q, h => by
    cases h1 with
    | d r2 => exact .off q
    | lst => cases h
    | tup => cases h
  | _, _, _, i + 1, .off q, h => .off (Rs.setn q h)
  | _, _, _, i + 1, .on h1 q, h => .on h1 (Rs.setn q h)
theorem plain_set {s : Sl} {i j : Nat} {o : Option M} (h : plainAt s i = true) (ho : o = none ∨ ∃ x, o = some (.d x)) : plainAt (s.set j o) i = true := by
  unfold plainAt at h ⊢
  by_cases e : j = i
  · subst e
    by_cases hl : j < s.length
    · rw [List.getElem?_set_self hl]
      rcases ho with rfl | ⟨x, rfl⟩ <;> rfl
    · rw [List.getElem?_eq_none (by omega)] at h
      cases h
  · rw [List.getElem?_set_ne e]
    exact h
/-- behind the block the own names hold what they held -/
theorem backs_ok {K : PySem.W.Frag} {F0 F : Addr → Prop} {H0 H : Hp} {G G0 : Addr → Prop} {σ : L2.St} {s0 s : Sl} {L0 L : List Addr} (o0 : Ok K F0 H0 G0 σ s0 L0) (st : Stp F0 H0 G0 F H) (o : Ok K F H G σ s L) : ∀ (vs : List Nat), vs.all (plainAt s0) = true → vs.all (plainAt s) = true →
    Ok K F H G σ (backs s0 s vs) L ∧ ∀ i, plainAt s i = true → plainAt (backs s0 s vs) i = true
  | [], _, _ => ⟨o, fun _ h => h⟩
  | v :: vs, h0, h => by
    rw [List.all_cons, Bool.and_eq_true] at h0 h
    obtain ⟨o1, p1⟩ := backs_ok o0 st o vs h0.2 h.2
    have pv := p1 v h.1
    show Ok K F H G σ ((backs s0 s vs).set v (s0.getD v none)) L ∧ _
    have h00 := h0.1
    unfold plainAt at h00
    split at h00
    · rename_i e
      have e1 : s0.getD v none = none := by rw [List.getD_eq_getElem?_getD, e]; rfl
      refine ⟨?_, fun i hi => ?_⟩
      · rw [e1]
        exact ⟨o1.wf, o1.rep.setn pv, o1.nd, o1.gd⟩
      · show plainAt ((backs s0 s vs).set v (s0.getD v none)) i = true
        rw [e1]
        exact plain_set (p1 i hi) (.inl rfl)
    · rename_i x e
      obtain ⟨u, e2, r⟩ := o0.read e
      have e1 : s0.getD v none = some (.d x) := by rw [List.getD_eq_getElem?_getD, e]; rfl
      refine ⟨?_, fun i hi => ?_⟩
      · rw [e1]
        exact ⟨o1.wf, o1.rep.setd pv e2 (r.stp st), o1.nd, o1.gd⟩
      · show plainAt ((backs s0 s vs).set v (s0.getD v none)) i = true
        rw [e1]
        exact plain_set (p1 i hi) (.inr ⟨x, rfl⟩)
    · cases h00
end PV
/-! # PV13: comprehensions -/
namespace PV
open PySem PySem.Spec PyProof.Rows L2
variable {Z : Wd} {n : Nat} {N : List Str} {sc : Scope} {W : WX}
abbrev W0 : WX := fun _ _ _ _ => False
theorem gd_blk {X : Cx} (g : Gd Z n N sc W X) (s : Shared) (H : Hp) (scope : Scope) (C : Addr) (cl : List (Str × Addr)) (fp : List Addr) :
    Gd Z n N (relS scope sc) W0 (X.blk s H scope (compEnvC scope cl C X.env) fp) :=
  ⟨g.prog, g.w, g.K, g.mg, g.base, g.hN, g.nd, by show relS scope X.env.scope = _; rw [g.hsc], g.calm, g.room, takes0, PassesOwn.never⟩
def blkB (scope : Scope) (x : Str) : Bool := decide (scope.names.lookup x = some .local)
theorem bdc_blk {scope : Scope} (nd : N.Nodup) : Bdc Z N (blkB scope) (fun X' => ∃ X s H C cl fp, Gd Z n N sc W X ∧ X' = X.blk s H scope (compEnvC scope cl C X.env) fp) where
  hN := fun _ ⟨X, s, H, C, cl, fp, g, e⟩ => by subst e; exact g.hN
  nd := nd
  K := fun _ ⟨X, s, H, C, cl, fp, g, e⟩ => by subst e; exact g.K
  calm := fun _ ⟨X, s, H, C, cl, fp, g, e⟩ => by subst e; exact g.calm
  fnl := fun _ ⟨X, s, H, C, cl, fp, g, e⟩ x h => by
    subst e
    have h : scope.names.lookup x = some .local := of_decide_eq_true h
    have k : (relS scope X.env.scope).names.lookup x = some .local := lookup_relS_keep (by decide) h
    exact ⟨.inl k, .inr k⟩
/-- the element of a turn -/
def lcTurn (pins : Nat) (tg : Tg) (fif : Sl → R Bool) (fe : Sl → R M) (d : D) (s : Sl) : R (Option D) := match bindT pins tg (.d d) s with
  | some s => (fif s).bind fun b s => if b = true then (fe s).bind fun m s => .ok (some (frz m)) (wipes s tg.vars) else .ok none (wipes s tg.vars)
  | none => .bad
def lcRes (s0 : Sl) (vars : List Nat) (acc : List D) (r : R (List D)) : R M := match r with
  | .ok ds s1 => .ok (.lst ((acc ++ ds).map M.d)) (backs s0 s1 vars)
  | _ => .bad
def fLc (pins : Nat) (tg : Tg) (fi : Sl → R (List D)) (fif : Sl → R Bool) (fe : Sl → R M) : Sl → R M := fun s => (fi s).bind fun its s =>
  if tg.vars.all (plainAt s) = true then lcRes s tg.vars [] (loopC (lcTurn pins tg fif fe) its (wipes s tg.vars)) else .bad
theorem lcRes_cons (s0 : Sl) (vars : List Nat) (acc : List D) (x : D) (r : R (List D)) : lcRes s0 vars acc (r.bind fun ds s => .ok (x :: ds) s) = lcRes s0 vars (acc ++ [x]) r := by
  cases r with
  | bad => rfl
  | ex c as s => rfl
  | ok ds s =>
    show R.ok (M.lst ((acc ++ (x :: ds)).map M.d)) _ = R.ok (M.lst ((acc ++ [x] ++ ds).map M.d)) _
    rw [List.append_assoc]
    rfl
theorem lcRes_same (s0 : Sl) (vars : List Nat) (acc : List D) (r : R (List D)) : lcRes s0 vars acc (r.bind fun ds s => .ok ds s) = lcRes s0 vars acc r := by
  cases r <;> rfl
theorem plain_lt {s : Sl} {i : Nat} (h : plainAt s i = true) : i < s.length := by
  unfold plainAt at h
  by_cases hl : i < s.length
  · exact hl
  · rw [List.getElem?_eq_none (by omega)] at h
    cases h
theorem none_plain {s : Sl} {i : Nat} (h : s[i]? = some none) : plainAt s i = true := by unfold plainAt; rw [h]
theorem drop_get {α : Type} {l : List α} {i : Nat} {d : α} (h : l[i]? = some d) : l.drop i = d :: l.drop (i + 1) := by
  obtain ⟨hi, e⟩ := List.getElem?_eq_some_iff.mp h
  rw [List.drop_eq_getElem_cons hi, e]
theorem Ok.more {K : PySem.W.Frag} {F : Addr → Prop} {H : Hp} {G : Addr → Prop} {σ : L2.St} {s : Sl} {L : List Addr} {D : Addr} (o : Ok K F H G σ s L) (h1 : H D ≠ none) (h2 : ¬ F D) (h3 : D ∉ L) : Ok K F H (with_ G [D]) σ s L :=
  ⟨o.wf, o.rep, o.nd, fun a ha => by
    rcases ha with z | z
    · exact o.gd a z
    · have e : a = D := by simpa using z
      subst e
      exact ⟨h1, h2, h3⟩⟩
theorem simE_lc {pins : Nat} {tg : Tg} {wi : TI} {g : TG} {tt : TT} {te : TE} {fi : Sl → R (List D)} {fif : Sl → R Bool} {fe : Sl → R M}
    (hi : SimI Z W wi fi) (hg : SimG Z.K pins g tg) (ht : SimB Z W0 tt fif) (he : SimE Z W0 te fe) : SimE Z W (tLc wi g tt te tg.vars) (fLc pins tg fi fif fe) := by
  intro σ H Q F G s L ok p
  refine hi σ H _ F G s L ok ?_
  unfold fLc at p
  cases e : fi s with
  | bad => rw [e] at p; exact p
  | ex c as s1 => rw [e] at p; exact p
  | ok its s1 =>
    rw [e] at p
    have p : PostE Z W σ F H G Q (if tg.vars.all (plainAt s1) = true then lcRes s1 tg.vars [] (loopC (lcTurn pins tg fif fe) its (wipes s1 tg.vars)) else .bad) := p
    intro J Iv F1 H1 L1 st ok1 io iv hz
    split at p
    case isFalse => exact p.elim
    rename_i hpl
    intro D hD
    have nG : ¬ G D := fun z => (ok1.gd D z).1 hD
    have vlt : ∀ v ∈ tg.vars, v < s1.length := fun v hv => plain_lt (List.all_eq_true.mp hpl v hv)
    have wl : ∀ s : Sl, s.length = s1.length → ∀ v ∈ tg.vars, (wipes s tg.vars)[v]? = some none := fun s hs v hv => wipes_in hv (by rw [hs]; exact vlt v hv)
    refine ⟨fun i m Hc => m = its.length - i ∧ i ≤ its.length ∧ ∃ F2 L2 s2 vacc dacc, Stp F1 H1 G F2 Hc ∧ Ok Z.K F2 Hc (with_ G [D]) (wipe σ tg.vars) s2 L2 ∧ (∀ v ∈ tg.vars, s2[v]? = some none) ∧ s2.length = s1.length ∧
      Hc D = some (.lst vacc) ∧ Rps Z.K F2 Hc vacc dacc ∧ vacc.length ≤ i ∧ Iv F2 Hc ∧ PostE Z W σ F H G Q (lcRes s1 tg.vars dacc (loopC (lcTurn pins tg fif fe) (its.drop i) s2)), ⟨its.length, by simp, Nat.zero_le _, ?_⟩, ?_⟩
    · obtain ⟨L2, ok2, sub⟩ := ok1.wipes tg.vars
      have ok3 : Ok Z.K F1 H1 G (wipe σ tg.vars) (wipes s1 tg.vars) L2 := ok2.reslot (wipe_length _ _) fun i => by
        by_cases h : i ∈ tg.vars
        · exact .inr (wl s1 rfl i h)
        · exact .inl (wipe_out' h)
      have st2 : Stp F1 H1 (with_ G L2) F1 (upd H1 D (.lst [])) := Stp.new ok3.wf (fun a h => (ok3.all a h).1) hD
      have ok4 := (ok3.step st2 (wf_upd ok3.wf)).more (D := D) (by rw [upd_same]; exact (fun z => nomatch z)) (fun z => ok3.wf D z hD) (fun z => (ok3.notF D z).2 hD)
      exact ⟨F1, L2, wipes s1 tg.vars, [], [], st2.weak fun _ z => .inl z, ok4, wl s1 rfl, wipes_len _ _, upd_same, .nil, Nat.le_refl _, io.keep _ _ _ _ _ iv st2, p⟩
    · rintro i m Hc ⟨rfl, hile, F2, L2, s2, vacc, dacc, st2, ok2, hn, hs2, hDc, racc, hlen, iv2, p⟩
      have nF2 : ¬ F2 D := (ok2.gd D (.inr List.mem_cons_self)).2.1
      by_cases hlt : i < its.length
      · refine .inr ⟨io.go i F2 Hc iv2 hlt, fun Hn => _, fun H' h => ⟨its.length - (i + 1), by omega, h⟩, fun x H3 hy => ?_⟩
        obtain ⟨d, ed, st3, rp⟩ := io.yld i F2 Hc (with_ (with_ G [D]) L2) x H3 iv2 ok2.wf (fun a h => (ok2.all a h).1) hy hlt
        have wf3 : ∀ a, F2 a → H3 a ≠ none := fun a h => st3.trk a (ok2.wf a h)
        have ok3 := ok2.step st3 wf3
        have iv3 := io.keep _ _ _ _ _ iv2 st3
        rw [drop_get ed] at p
        have p : PostE Z W σ F H G Q (lcRes s1 tg.vars dacc ((lcTurn pins tg fif fe d s2).bind fun o s => (loopC (lcTurn pins tg fif fe) (its.drop (i + 1)) s).bind fun ds s => .ok (match o with | some x => x :: ds | none => ds) s)) := p
        unfold lcTurn at p
        cases eb : bindT pins tg (.d d) s2 with
        | none => rw [eb] at p; exact p.elim
        | some s3 =>
          rw [eb] at p
          refine hg (wipe σ tg.vars) H3 _ F2 (with_ G [D]) [] s2 s3 L2 x (.d d) ok3.nil (.d rp) eb fun σ4 F4 L4 st4 ok4 ag => ⟨?_, ?_⟩
          · exact (wipe_eq ag.len ag.out).trans wipe_wipe
          refine ht σ4 H3 _ F4 (with_ G [D]) s3 L4 ok4 ?_
          have l4 : s3.length = s1.length := by
            rw [← ok4.rep.len, ag.len, ok2.rep.len, hs2]
          have p : PostE Z W σ F H G Q (lcRes s1 tg.vars dacc (((fif s3).bind fun b s => if b = true then (fe s).bind fun m s => .ok (some (frz m)) (wipes s tg.vars) else .ok none (wipes s tg.vars)).bind fun o s => (loopC (lcTurn pins tg fif fe) (its.drop (i + 1)) s).bind fun ds s => .ok (match o with | some x => x :: ds | none => ds) s)) := p
          cases ef : fif s3 with
          | bad => rw [ef] at p; exact p.elim
          | ex c as s5 => rw [ef] at p; exact p.elim
          | ok b s5 =>
            rw [ef] at p
            intro F5 H5 L5 st5 ok5
            have l5 : s5.length = s1.length := by rw [← ok5.rep.len, ok4.rep.len, l4]
            have stA : Stp F1 H1 G F5 H5 := ((st2.trans (st3.weak fun _ z => .inl (.inl z))).trans (st4.weak fun _ z => .inl z)).trans (st5.weak fun _ z => .inl z)
            have iv5 := io.keep _ _ _ _ _ (io.keep _ _ _ _ _ iv3 st4) st5
            have hD5 : H5 D = some (.lst vacc) := ((st5.grd D (.inr List.mem_cons_self)).1.trans ((st4.grd D (.inr List.mem_cons_self)).1.trans (st3.grd D (.inl (.inr List.mem_cons_self))).1)).trans hDc
            have racc5 : Rps Z.K F5 H5 vacc dacc := ((racc.stp st3).stp st4).stp st5
            cases b with
            | false =>
              show if false = true then _ else _
              rw [if_neg Bool.false_ne_true]
              have p : PostE Z W σ F H G Q (lcRes s1 tg.vars dacc ((loopC (lcTurn pins tg fif fe) (its.drop (i + 1)) (wipes s5 tg.vars)).bind fun ds s => .ok ds s)) := p
              rw [lcRes_same] at p
              obtain ⟨L6, ok6, _⟩ := ok5.wipes tg.vars
              have ok7 : Ok Z.K F5 H5 (with_ G [D]) (wipe σ tg.vars) (wipes s5 tg.vars) L6 := ok6.reslot ag.len.symm fun j => by
                by_cases h : j ∈ tg.vars
                · exact .inr (wl s5 l5 j h)
                · exact .inl (ag.out j h).symm
              exact ⟨rfl, hlt, F5, L6, wipes s5 tg.vars, vacc, dacc, stA, ok7, wl s5 l5, by rw [wipes_len, l5], hD5, racc5, by omega, iv5, p⟩
            | true =>
              show if true = true then _ else _
              rw [if_pos rfl]
              have p : PostE Z W σ F H G Q (lcRes s1 tg.vars dacc (((fe s5).bind fun m s => .ok (some (frz m)) (wipes s tg.vars)).bind fun o s => (loopC (lcTurn pins tg fif fe) (its.drop (i + 1)) s).bind fun ds s => .ok (match o with | some x => x :: ds | none => ds) s)) := p
              refine he σ4 H5 _ F5 (with_ G [D]) s5 L5 ok5 ?_
              cases ee : fe s5 with
              | bad => rw [ee] at p; exact p.elim
              | ex c as s6 => rw [ee] at p; exact p.elim
              | ok m6 s6 =>
                rw [ee] at p
                intro y F6 H6 Lm L6 st6 rv ok6
                have p : PostE Z W σ F H G Q (lcRes s1 tg.vars dacc ((loopC (lcTurn pins tg fif fe) (its.drop (i + 1)) (wipes s6 tg.vars)).bind fun ds s => .ok (frz m6 :: ds) s)) := p
                rw [lcRes_cons] at p
                have l6 : s6.length = s1.length := by rw [← ok6.rep.len, ok4.rep.len, l4]
                obtain ⟨st7, ry, ok7⟩ := rv.freeze ok6
                have hD6 : H6 D = some (.lst vacc) := (st6.grd D (.inr List.mem_cons_self)).1.trans hD5
                have hlv : vacc.length < sizeLine := by omega
                refine ⟨vacc, hD6, hlv, ?_⟩
                have nF7 : ¬ with_ F6 Lm D := (ok7.gd D (.inr List.mem_cons_self)).2.1
                have nL6 : D ∉ L6 := (ok7.gd D (.inr List.mem_cons_self)).2.2
                have stw : Stp (with_ F6 Lm) H6 (with_ G L6) (with_ F6 Lm) (upd H6 D (.lst (vacc ++ [y]))) := Stp.write nF7 (fun z => z.elim nG nL6) (fun xs z => by rw [hD6] at z; cases z)
                have ok8 := ((ok7.weak fun _ z => .inl z : Ok Z.K (with_ F6 Lm) H6 G σ4 s6 L6).step stw (wf_upd ok7.wf)).more (D := D) (by rw [upd_same]; exact (fun z => nomatch z)) nF7 nL6
                obtain ⟨L9, ok9, _⟩ := ok8.wipes tg.vars
                have ok10 : Ok Z.K (with_ F6 Lm) (upd H6 D (.lst (vacc ++ [y]))) (with_ G [D]) (wipe σ tg.vars) (wipes s6 tg.vars) L9 := ok9.reslot ag.len.symm fun j => by
                  by_cases h : j ∈ tg.vars
                  · exact .inr (wl s6 l6 j h)
                  · exact .inl (ag.out j h).symm
                have stB : Stp F1 H1 G (with_ F6 Lm) (upd H6 D (.lst (vacc ++ [y]))) := ((stA.trans (st6.weak fun _ z => .inl z)).trans (st7.weak fun _ z => .inl z)).trans (stw.weak fun _ z => .inl z)
                have iv9 := io.keep _ _ _ _ _ (io.keep _ _ _ _ _ (io.keep _ _ _ _ _ iv5 st6) st7) stw
                have racc9 : Rps Z.K (with_ F6 Lm) (upd H6 D (.lst (vacc ++ [y]))) (vacc ++ [y]) (dacc ++ [frz m6]) := (((racc5.stp st6).stp st7).append (.cons ry .nil)).stp stw
                exact ⟨rfl, hlt, with_ F6 Lm, L9, wipes s6 tg.vars, vacc ++ [y], dacc ++ [frz m6], stB, ok10, wl s6 l6, by rw [wipes_len, l6], upd_same, racc9, by rw [List.length_append]; show vacc.length + 1 ≤ i + 1; omega, iv9, p⟩
      · have ei : i = its.length := by omega
        subst ei
        refine .inl ⟨io.stop _ F2 Hc iv2 (Nat.le_refl _), ?_⟩
        rw [List.drop_length] at p
        have p : PostE Z W σ F H G Q (.ok (.lst ((dacc ++ []).map M.d)) (backs s1 s2 tg.vars)) := p
        rw [List.append_nil] at p
        have ok3 : Ok Z.K F2 Hc (with_ G [D]) σ s2 L2 := ok2.reslot (wipe_length _ _).symm fun j => by
          by_cases h : j ∈ tg.vars
          · exact .inr (hn j h)
          · exact .inl (wipe_out' h).symm
        have ok4 := (backs_ok ok1 st2 ok3 tg.vars hpl (List.all_eq_true.mpr fun v hv => none_plain (hn v hv))).1
        exact p (.ref D) F2 Hc [D] L2 (st.trans st2) ⟨.lst nF2 hDc (by omega) (Rms.ofD racc), List.nodup_cons.mpr ⟨(fun z => nomatch z), List.nodup_nil⟩, fun a ha z => by
          have e : a = D := by simpa using ha
          subst e
          exact nG z⟩ ok4
end PV
/-! # PV14: statements -/
namespace PV
open PySem PySem.Spec PyProof.Rows L2
variable {Z : Wd} {n : Nat} {N : List Str} {sc : Scope} {W : WX} {pins : Nat}
structure GdS (Z : Wd) (n : Nat) (N : List Str) (sc : Scope) (W : WX) (X : Cx) : Prop where
  g : Gd Z n N sc W X
  fnl : ∀ x, L2.Loc sc x → X.fn x = true ∨ X.env.scope.names.lookup x = some .local
  stk : X.stack = X.env :: X.outer
  frm : X.env.frame = some X.env.locals
structure PinS (pins : Nat) (σ σ' : L2.St) : Prop where
  len : σ'.length = σ.length
  pin : ∀ i, i < pins → σ'[i]? = σ[i]?
theorem PinS.refl {σ : L2.St} : PinS pins σ σ := ⟨rfl, fun _ _ => rfl⟩
theorem PinS.trans {σ σ1 σ2 : L2.St} (a : PinS pins σ σ1) (b : PinS pins σ1 σ2) : PinS pins σ σ2 := ⟨b.len.trans a.len, fun i h => (b.pin i h).trans (a.pin i h)⟩
theorem Agr.pinS {vars : List Nat} {σ σ1 : L2.St} (a : Agr pins vars σ σ1) : PinS pins σ σ1 := ⟨a.len, a.pin⟩
def PostS (Z : Wd) (W : WX) (pins : Nat) (σ : L2.St) (F : Addr → Prop) (H : Hp) (G : Addr → Prop) (D : Ends) : O → Prop
  | .nx s => ∀ σ' F' H' L', Stp F H G F' H' → Ok Z.K F' H' G σ' s L' → PinS pins σ σ' → D.nx σ' H'
  | .brk s => ∀ σ' F' H' L', Stp F H G F' H' → Ok Z.K F' H' G σ' s L' → PinS pins σ σ' → D.bk σ' H'
  | .cnt s => ∀ σ' F' H' L', Stp F H G F' H' → Ok Z.K F' H' G σ' s L' → PinS pins σ σ' → D.ct σ' H'
  | .ret m s => ∀ v σ' F' H' Lm L', Stp F H G F' H' → Rv Z.K F' H' G v m Lm → Ok Z.K F' H' (with_ G Lm) σ' s L' → PinS pins σ σ' → D.rt v H'
  | .ex c as s => ∀ σ' F' H' L' cls d, Stp F H G F' H' → Ok Z.K F' H' G σ' s L' → PinS pins σ σ' → Z.xr F' H' c as cls d → W cls d σ' H'
  | .bad => False
theorem PostS.trans {σ σ1 : L2.St} {F F1 : Addr → Prop} {H H1 : Hp} {G : Addr → Prop} {D : Ends} {o : O} (h : PostS Z W pins σ F H G D o) (st : Stp F H G F1 H1) (ps : PinS pins σ σ1) : PostS Z W pins σ1 F1 H1 G D o := by
  cases o with
  | nx s => exact fun σ' F' H' L' a b c => h σ' F' H' L' (st.trans a) b (ps.trans c)
  | brk s => exact fun σ' F' H' L' a b c => h σ' F' H' L' (st.trans a) b (ps.trans c)
  | cnt s => exact fun σ' F' H' L' a b c => h σ' F' H' L' (st.trans a) b (ps.trans c)
  | ret m s => exact fun v σ' F' H' Lm L' a r b c => h v σ' F' H' Lm L' (st.trans a) r b (ps.trans c)
  | ex c as s => exact fun σ' F' H' L' cls d a b c => h σ' F' H' L' cls d (st.trans a) b (ps.trans c)
  | bad => exact h
def SimS (Z : Wd) (W : WX) (pins : Nat) (t : TS) (f : Sl → O) : Prop := ∀ σ H D F G s L, Ok Z.K F H G σ s L → PostS Z W pins σ F H G D (f s) → t D σ H
def SS (Z : Wd) (n : Nat) (N : List Str) (sc : Scope) (W : WX) (pins : Nat) (st : Stmt) (f : Sl → O) : Prop := ∃ t, (∀ X, GdS Z n N sc W X → PS X st t) ∧ SimS Z W pins t f
def SSs (Z : Wd) (n : Nat) (N : List Str) (sc : Scope) (W : WX) (pins : Nat) (st : List Stmt) (f : Sl → O) : Prop := ∃ t, (∀ X, GdS Z n N sc W X → PSs X st t) ∧ SimS Z W pins t f
theorem SSs.nil : SSs Z n N sc W pins [] (fun s => .nx s) := ⟨tNext, fun X g => pss_nil, fun σ H D F G s L ok p => p σ F H L Stp.refl ok PinS.refl⟩
theorem SSs.cons {st : Stmt} {sts : List Stmt} {f k : Sl → O} (h : SS Z n N sc W pins st f) (hr : SSs Z n N sc W pins sts k) : SSs Z n N sc W pins (st :: sts) (fun s => (f s).then_ k) := by
  obtain ⟨t, h1, h2⟩ := h
  obtain ⟨u, r1, r2⟩ := hr
  refine ⟨tSeq t u, fun X g => pss_cons (h1 X g) (r1 X g), ?_⟩
  intro σ H D F G s L ok p
  refine h2 σ H _ F G s L ok ?_
  dsimp only at p
  cases e : f s with
  | nx s1 =>
    rw [e] at p
    have p : PostS Z W pins σ F H G D (k s1) := p
    exact fun σ1 F1 H1 L1 st ok1 ps => r2 σ1 H1 D F1 G s1 L1 ok1 (p.trans st ps)
  | brk s1 => rw [e] at p; exact p
  | cnt s1 => rw [e] at p; exact p
  | ret m s1 => rw [e] at p; exact p
  | ex c as s1 => rw [e] at p; exact p
  | bad => rw [e] at p; exact p
/-! ### one expression, then something -/
theorem postX_S {σ : L2.St} {F : Addr → Prop} {H : Hp} {G : Addr → Prop} {De : Ends} {c : Str} {as : List D} {s : Sl} (p : PostS Z W pins σ F H G De (.ex c as s)) : PostX Z W σ F H G c as s :=
  fun F' H' L' cls d st o x => p σ F' H' L' cls d st o PinS.refl x
theorem bdc_S : ∀ (_ : N.Nodup), Bdc Z N (locB sc) (GdS Z n N sc W) := fun nd => {
  hN := fun X g => g.g.hN
  nd := nd
  K := fun X g => g.g.K
  calm := fun X g => g.g.calm
  fnl := fun X g x h => by
    have l := loc_of h
    exact ⟨by rw [g.g.hsc]; exact l, g.fnl x l⟩ }
/-- what a plain assignment wants of the text -/
def swB (sc : Scope) (y : Str) (py p : Pos) (s : Scope) : Bool := (sc.names.lookup y == some .local) && (py.line == p.line) && !(s.names.any fun (n, k) => n == y && (k == .local || k == .cell))
def swpB (sc : Scope) (ts : List Expr) : Bool :=
  let line := (ts.head?.map (·.pos.line)).getD 0
  let names := ts.filterMap fun
    | .Name id pos => if sc.names.lookup id == some .local && pos.line == line then some id else none
    | _ => none
  !(ts.length == 2 || ts.length == 3) || names.length != ts.length
def asgB (sc : Scope) : Expr → Expr → Bool
  | .Name y py, .ListComp _ _ s p => !(swB sc y py p s)
  | _, .SetComp _ _ _ _ => false
  | _, .DictComp _ _ _ _ _ => false
  | .Tuple ts _ _, .Tuple vs _ _ => swpB sc ts || vs.all (foldedForSure 8)
  | .List _ _, .Tuple _ _ _ => false
  | .Tuple _ _ _, .List _ _ => true
  | .Name _ _, _ => true
  | .Tuple _ _ _, _ => true
  | .Subscript _ _ _, _ => true
  | _, _ => false
theorem swaps_lc {elt : Expr} {gs : List Comprehension} {s : Scope} {p py : Pos} {y : Str} {l : Nat} {env : Env} (h : swB env.scope y py p s = false) : swapsWith (.ListComp elt gs s p) (some (.Name y py)) l env = pure false := by
  show (pure (env.blockKind == .function && env.kindOf y == some .local && py.line == p.line && !(s.names.any fun (n, k) => n == y && (k == .local || k == .cell))) : Sem Bool) = pure false
  have e : (env.blockKind == .function && env.kindOf y == some .local && py.line == p.line && !(s.names.any fun (n, k) => n == y && (k == .local || k == .cell))) = (env.blockKind == .function && swB env.scope y py p s) := by
    unfold swB
    show (env.blockKind == .function && env.scope.names.lookup y == some .local && py.line == p.line && !(s.names.any fun (n, k) => n == y && (k == .local || k == .cell))) = _
    simp only [Bool.and_assoc]
  rw [e, h, Bool.and_false]
theorem swapped_none {ts vs : List Expr} {k k2 : Nat} {p p2 : Pos} {env : Env} (h : swpB env.scope ts = true) : swappedStores [.Tuple ts k p] (.Tuple vs k2 p2) env = pure none := by
  unfold swpB at h
  simp only [Bool.or_eq_true] at h
  unfold swappedStores
  show (if (!(ts.length == 2 || ts.length == 3) || vs.length != ts.length || env.blockKind != .function) = true then (pure none : Sem (Option (List Str))) else _) = _
  split
  · rfl
  · rename_i h1
    split
    · rfl
    · rcases h with h | h
      · exact absurd (by rw [h]; rfl) h1
      · dsimp only [Env.kindOf]
        rw [if_pos (by rw [Bool.or_eq_true]; exact .inl h)]
theorem swapped_none2 {ts vs : List Expr} {k k2 : Nat} {p p2 : Pos} {env : Env} (h : vs.all (foldedForSure 8) = true) : swappedStores [.Tuple ts k p] (.Tuple vs k2 p2) env = pure none := by
  unfold swappedStores
  show (if (!(ts.length == 2 || ts.length == 3) || vs.length != ts.length || env.blockKind != .function) = true then (pure none : Sem (Option (List Str))) else _) = _
  split
  · rfl
  · split
    · rfl
    · dsimp only
      split
      · rfl
      · first | rfl | exact if_pos h
theorem asgB_ok {tg e : Expr} {l : Nat} {env : Env} (h : asgB env.scope tg e = true) : swapsWithSole [tg] e l env = pure false ∧ swappedStores [tg] e env = pure none := by
  cases tg with
  | Name y py =>
    cases e with
    | ListComp elt gs s p =>
      refine ⟨swaps_lc (l := l) (env := env) ?_, rfl⟩
      have h : (!(swB env.scope y py p s)) = true := h
      simpa using h
    | SetComp => cases h
    | DictComp => cases h
    | _ => exact ⟨rfl, rfl⟩
  | Tuple ts k p =>
    cases e with
    | SetComp => cases h
    | DictComp => cases h
    | Tuple vs k2 p2 =>
      have h : (swpB env.scope ts || vs.all (foldedForSure 8)) = true := h
      rw [Bool.or_eq_true] at h
      exact ⟨rfl, h.elim swapped_none swapped_none2⟩
    | _ => exact ⟨rfl, rfl⟩
  | Subscript a b p =>
    cases e with
    | SetComp => cases h
    | DictComp => cases h
    | _ => exact ⟨rfl, rfl⟩
  | _ => cases e <;> cases h
theorem simS_asg {te : TE} {g : TG} {f : Sl → R M} {tg : Tg} (h : SimE Z W te f) (hg : SimG Z.K pins g tg) :
    SimS Z W pins (tAsg te g) (fun s => (f s).thenS fun m s => match bindT pins tg m s with | some s => .nx s | none => .bad) := by
  intro σ H De F G s L ok p
  refine h σ H _ F G s L ok ?_
  dsimp only at p
  cases e : f s with
  | bad => rw [e] at p; exact p
  | ex c as s1 => rw [e] at p; exact postX_S p
  | ok m s1 =>
    rw [e] at p
    intro v F1 H1 Lm L1 st rv ok1
    have p : PostS Z W pins σ F H G De (match bindT pins tg m s1 with | some s => .nx s | none => .bad) := p
    cases eb : bindT pins tg m s1 with
    | none => rw [eb] at p; exact p.elim
    | some s2 =>
      rw [eb] at p
      exact hg σ H1 De.nx F1 G Lm s1 s2 L1 v m ok1 rv eb fun σ' F' L' st2 ok2 ag => p σ' F' H1 L' (st.trans st2) ok2 ag.pinS
theorem SS.asg {tgE e : Expr} {pos : Pos} {f : Sl → R M} {tg : Tg} (nd : N.Nodup) (h : SE Z n N sc W e f) (ht : tgA N (locB sc) tg tgE = true) (ha : asgB sc tgE e = true) :
    SS Z n N sc W pins (.Assign [tgE] e pos) (fun s => (f s).thenS fun m s => match bindT pins tg m s with | some s => .nx s | none => .bad) := by
  obtain ⟨⟨t, h1, h2⟩, _⟩ := h
  obtain ⟨g, h3, h4⟩ := tg_ok (bdc_S (Z := Z) (n := n) (sc := sc) (W := W) nd) tg tgE ht
  refine ⟨tAsg t g, fun X gx => ?_, simS_asg h2 (h4 pins)⟩
  have q := asgB_ok (env := X.env) (l := pos.line) (by rw [gx.g.hsc]; exact ha)
  exact ps_asg (h1 X gx.g) (h3 X gx) q.1 q.2 (by rw [asgn_cons (tgA_star ht)]; rfl)
/-- a, b = e1, e2: the model's own order of stores -/
def parN (sc : Scope) (ts : List Expr) : List Str :=
  ts.filterMap fun
    | .Name id pos => if sc.names.lookup id == some .local && pos.line == (ts.head?.map (·.pos.line)).getD 0 then some id else none
    | _ => none
def parB (sc : Scope) (ts vs : List Expr) : Bool :=
  (ts.length == 2 || ts.length == 3) && (vs.length == ts.length && ((parN sc ts).length == ts.length && ((parN sc ts).eraseDups.length == (parN sc ts).length && (!(vs.all (foldedForSure 8)) && (!(vs.all (constantsAlone 8)) && vs.all noStar)))))
theorem any_star {vs : List Expr} (h : vs.all noStar = true) : (vs.any fun | .Starred .. => true | _ => false) = false := by
  induction vs with
  | nil => rfl
  | cons v vs ih =>
    have h := all_cons_ns h
    rw [List.any_cons, ih h.2, Bool.or_false]
    cases v <;> first | rfl | cases h.1
theorem swapped_some {ts vs : List Expr} {pt : Pos} {kt k2 : Nat} {p2 : Pos} {env : Env} (hk : env.blockKind = .function) (h : parB env.scope ts vs = true) :
    swappedStores [.Tuple ts kt pt] (.Tuple vs k2 p2) env = pure (some (parN env.scope ts)) := by
  unfold parB at h
  simp only [Bool.and_eq_true, Bool.not_eq_true'] at h
  obtain ⟨a1, a2, a3, a4, a5, a6, a7⟩ := h
  unfold swappedStores
  have c1 : ¬ ((!(ts.length == 2 || ts.length == 3) || vs.length != ts.length || env.blockKind != .function) = true) := by
    rw [a1, hk]
    have e : (vs.length != ts.length) = false := by unfold bne; rw [a2]; rfl
    rw [e]
    decide
  show (if (!(ts.length == 2 || ts.length == 3) || vs.length != ts.length || env.blockKind != .function) = true then (pure none : Sem (Option (List Str))) else _) = _
  rw [if_neg c1]
  have c2 : ¬ ((vs.any fun | .Starred .. => true | _ => false) = true) := by rw [any_star a7]; exact Bool.false_ne_true
  refine (if_neg c2).trans ?_
  have c3 : ¬ (((parN env.scope ts).length != ts.length || (parN env.scope ts).eraseDups.length != (parN env.scope ts).length) = true) := by
    have e : ((parN env.scope ts).length != ts.length) = false := by unfold bne; rw [a3]; rfl
    have e2 : ((parN env.scope ts).eraseDups.length != (parN env.scope ts).length) = false := by unfold bne; rw [a4]; rfl
    rw [e, e2]
    decide
  refine (if_neg c3).trans ?_
  refine (if_neg (by rw [a5]; exact Bool.false_ne_true)).trans ?_
  exact (if_neg (by rw [a6]; exact Bool.false_ne_true)).trans rfl
theorem parN_two {x y : Str} {px py : Pos} {vs : List Expr} (h : parB sc [.Name x px, .Name y py] vs = true) : parN sc [.Name x px, .Name y py] = [x, y] ∧ sc.names.lookup x = some .local ∧ sc.names.lookup y = some .local := by
  unfold parB at h
  simp only [Bool.and_eq_true] at h
  obtain ⟨_, _, a3, _⟩ := h
  unfold parN at a3 ⊢
  simp only [List.filterMap_cons, List.filterMap_nil] at a3 ⊢
  by_cases c1 : ((sc.names.lookup x == some .local && px.line == (([Expr.Name x px, Expr.Name y py].head?.map (·.pos.line)).getD 0)) = true)
  · by_cases c2 : ((sc.names.lookup y == some .local && py.line == (([Expr.Name x px, Expr.Name y py].head?.map (·.pos.line)).getD 0)) = true)
    · rw [if_pos c1, if_pos c2]
      rw [Bool.and_eq_true] at c1 c2
      exact ⟨rfl, eq_of_beq c1.1, eq_of_beq c2.1⟩
    · rw [if_pos c1, if_neg c2] at a3
      cases a3
  · by_cases c2 : ((sc.names.lookup y == some .local && py.line == (([Expr.Name x px, Expr.Name y py].head?.map (·.pos.line)).getD 0)) = true)
    · rw [if_neg c1, if_pos c2] at a3
      cases a3
    · rw [if_neg c1, if_neg c2] at a3
      cases a3
def nm2 (N : List Str) (is : List Nat) : List Expr → Bool
  | [.Name x _, .Name y _] => match is with
    | [i, j] => decide (N[i]? = some x) && decide (N[j]? = some y) && decide (i ≠ j)
    | _ => false
  | _ => false
theorem SS.par2 {ts vs : List Expr} {kt k2 : Nat} {pt p2 pos : Pos} {is : List Nat} {f : Sl → R (List D)} (hk : sc.kind = .function) (h : SA Z n N sc W vs f) (hp : parB sc ts vs = true) (hn : nm2 N is ts = true) :
    SS Z n N sc W pins (.Assign [.Tuple ts kt pt] (.Tuple vs k2 p2) pos) (fun s => (f s).thenS fun ds s => match bindPar pins is ds s with | some s => .nx s | none => .bad) := by
  unfold nm2 at hn
  split at hn
  case h_2 => cases hn
  rename_i x px y py
  split at hn
  case h_2 => cases hn
  rename_i i j
  simp only [Bool.and_eq_true, decide_eq_true_eq] at hn
  obtain ⟨⟨n1, n2⟩, n3⟩ := hn
  obtain ⟨tts, h1, h2⟩ := h
  obtain ⟨e1, l1, l2⟩ := parN_two hp
  have hv : vs.all noStar = true := by
    unfold parB at hp
    simp only [Bool.and_eq_true] at hp
    exact hp.2.2.2.2.2.2
  have hl : ∃ a b, vs = [a, b] := by
    unfold parB at hp
    simp only [Bool.and_eq_true] at hp
    have q := eq_of_beq hp.2.1
    match vs, q with
    | [a, b], _ => exact ⟨a, b, rfl⟩
  obtain ⟨a, b, rfl⟩ := hl
  refine ⟨tPar i j (tAll tts), fun X gx => ?_, ?_⟩
  · have hw := swapped_some (env := X.env) (pt := pt) (kt := kt) (k2 := k2) (p2 := p2) (by unfold Env.blockKind; rw [gx.g.hsc, hk]; rfl) (by rw [gx.g.hsc]; exact hp)
    rw [gx.g.hsc, e1] at hw
    exact ps_par gx.g.calm (by rw [gx.g.hN]; exact gx.g.nd) (by rw [gx.g.hN]; exact n1) (by rw [gx.g.hN]; exact n2) n3 (by rw [gx.g.hsc]; exact l1) (by rw [gx.g.hsc]; exact l2) ((h1 X gx.g).pa hv) hw
  · intro σ H De F G s L ok p
    refine h2 σ H _ F G s L ok ?_
    dsimp only at p
    cases e : f s with
    | bad => rw [e] at p; exact p
    | ex c as s1 => rw [e] at p; exact postX_S p
    | ok ds s1 =>
      rw [e] at p
      intro us F1 H1 L1 st rps ok1
      have p : PostS Z W pins σ F H G De (match bindPar pins [i, j] ds s1 with | some s => .nx s | none => .bad) := p
      match ds, p with
      | [], p => unfold bindPar at p; exact p.elim
      | [d], p =>
        exfalso
        unfold bindPar at p
        cases e2 : bindT pins (.nm i) (.d d) s1 with
        | none => rw [e2] at p; exact p
        | some s2 =>
          rw [e2] at p
          have p : PostS Z W pins σ F H G De (match bindPar pins [j] [] s2 with | some s => .nx s | none => .bad) := p
          unfold bindPar at p
          exact p
      | [d1, d2], p =>
        obtain ⟨u, v, rfl, r1, r2⟩ := rps2 rps
        unfold bindPar at p
        cases e2 : bindT pins (.nm i) (.d d1) s1 with
        | none => rw [e2] at p; exact p.elim
        | some s2 =>
          rw [e2] at p
          have p : PostS Z W pins σ F H G De (match bindPar pins [j] [d2] s2 with | some s => .nx s | none => .bad) := p
          unfold bindPar at p
          cases e3 : bindT pins (.nm j) (.d d2) s2 with
          | none => rw [e3] at p; exact p.elim
          | some s3 =>
            rw [e3] at p
            have p : PostS Z W pins σ F H G De (match bindPar pins [] [] s3 with | some s => .nx s | none => .bad) := p
            unfold bindPar at p
            refine ⟨u, v, rfl, ?_⟩
            refine simG_nm σ H1 (fun σ' H' => De.nx (σ'.set j (some v)) H') F1 G [] s1 s2 L1 u (.d d1) ok1.nil (.d r1) e2 fun σ1 F2 L2 st2 ok2 a1 => ?_
            refine simG_nm σ1 H1 De.nx F2 G [] s2 s3 L2 v (.d d2) ok2.nil (.d (r2.stp st2)) e3 fun σ2 F3 L3 st3 ok3 a2 => ?_
            exact p σ2 F3 H1 L3 ((st.trans st2).trans st3) ok3 (a1.pinS.trans a2.pinS)
      | d1 :: d2 :: d3 :: r, p =>
        exfalso
        cases rps with
        | cons _ r1 => cases r1 with
          | cons _ r2 =>
            have hh : True := trivial
            unfold bindPar at p
            cases e2 : bindT pins (.nm i) (.d d1) s1 with
            | none => rw [e2] at p; exact p
            | some s2 =>
              rw [e2] at p
              have p : PostS Z W pins σ F H G De (match bindPar pins [j] (d2 :: d3 :: r) s2 with | some s => .nx s | none => .bad) := p
              unfold bindPar at p
              cases e3 : bindT pins (.nm j) (.d d2) s2 with
              | none => rw [e3] at p; exact p
              | some s3 =>
                rw [e3] at p
                have p : PostS Z W pins σ F H G De (match bindPar pins [] (d3 :: r) s3 with | some s => .nx s | none => .bad) := p
                unfold bindPar at p
                exact p
end PV
/-! # PV15: statements that write into a list; plain statements -/
namespace PV
open PySem PySem.Spec PyProof.Rows L2
variable {Z : Wd} {n : Nat} {N : List Str} {sc : Scope} {W : WX} {pins : Nat}
section
variable {K : PySem.W.Frag} {F : Addr → Prop} {H : Hp} {G : Addr → Prop} {σ : L2.St} {s : Sl} {L : List Addr}
theorem Rms.setD {v : V} {x : D} (hx : Rp K F H v x) : ∀ {vs : List V} {ms : List M} {L : List Addr} (j : Nat), Rms K F H vs ms L → ∃ L', Rms K F H (vs.set j v) (ms.set j (.d x)) L' ∧ L'.Sublist L
  | _, _, _, j, .nil => ⟨[], by simpa using Rms.nil, List.Sublist.refl _⟩
  | _, _, _, 0, .cons (L1 := L1) h r => ⟨_, Rms.cons (.d hx) r, by simpa using List.sublist_append_right L1 _⟩
  | _, _, _, j + 1, .cons (L1 := L1) h r => by
    obtain ⟨L', h2, hs⟩ := Rms.setD hx j r
    exact ⟨L1 ++ L', .cons h h2, List.Sublist.append (List.Sublist.refl _) hs⟩
/-- a list in a slot is written -/
theorem Ok.mut {i : Nat} {ms : List M} (ok : Ok K F H G σ s L) (e : s[i]? = some (some (.lst ms))) :
    ∃ a vs Lv, σ[i]? = some (some (.ref a)) ∧ H a = some (.lst vs) ∧ Rms K F H vs ms Lv ∧
      ∀ vs' ms' Lv', Rms K F H vs' ms' Lv' → Lv'.Sublist Lv → vs'.length ≤ sizeLine →
        ∃ L', Stp F H G F (upd H a (.lst vs')) ∧ Ok K F (upd H a (.lst vs')) G σ (s.set i (some (.lst ms'))) L' := by
  have hi : i < s.length := (List.getElem?_eq_some_iff.mp e).1
  obtain ⟨v, Li, L1, h1, rv, ok1⟩ := ok.take e
  obtain ⟨rr, rnd, rgd⟩ := rv
  cases rr with
  | @lst a vs _ Lv nf h z r =>
    obtain ⟨na, nLv⟩ := List.nodup_cons.mp rnd
    refine ⟨a, vs, Lv, h1, h, r, fun vs' ms' Lv' r' sub hz => ?_⟩
    have ga : ¬ G a := rgd a List.mem_cons_self
    have a1 : a ∉ L1 := (ok1.gd a (.inr List.mem_cons_self)).2.2
    have st : Stp F H (with_ (with_ G Lv) L1) F (upd H a (.lst vs')) := Stp.write nf (fun q => q.elim (fun q => q.elim ga na) a1) (fun xs q => by rw [h] at q; cases q)
    have ok2 : Ok K F (upd H a (.lst vs')) (with_ G Lv) σ (s.set i none) L1 :=
      (ok1.weak fun b q => q.elim .inl fun q => .inr (List.mem_cons_of_mem _ q)).step st (wf_upd ok1.wf)
    have ok3 : Ok K F (upd H a (.lst vs')) (with_ G (a :: Lv')) σ (s.set i none) L1 := ⟨ok2.wf, ok2.rep, ok2.nd, fun b q => by
      rcases q with q | q
      · exact ok2.gd b (.inl q)
      · rcases List.mem_cons.mp q with rfl | q
        · exact ⟨by rw [upd_same]; exact (fun q => nomatch q), nf, a1⟩
        · exact ok2.gd b (.inr (sub.subset q))⟩
    have rm : Rms K F (upd H a (.lst vs')) vs' ms' Lv' := Rms.mono st.fro st.tup r' fun b hb => st.grd b (.inl (.inr (sub.subset hb)))
    have rv2 : Rv K F (upd H a (.lst vs')) G (.ref a) (.lst ms') (a :: Lv') := ⟨.lst nf upd_same hz rm, List.nodup_cons.mpr ⟨fun q => na (sub.subset q), nLv.sublist sub⟩, fun b hb => by
      rcases List.mem_cons.mp hb with rfl | hb
      · exact ga
      · exact rgd b (List.mem_cons_of_mem _ (sub.subset hb))⟩
    obtain ⟨L', ok4⟩ := ok3.store rv2 (i := i) (by rw [List.length_set]; exact hi)
    rw [List.set_set, set_self h1] at ok4
    exact ⟨L', st.weak fun _ q => .inl (.inl q), ok4⟩
end
theorem isLst_get {s : Sl} {i : Nat} (h : isLst s i = true) : ∃ ms, s[i]? = some (some (.lst ms)) := by
  unfold isLst at h
  split at h
  · rename_i ms e; exact ⟨ms, e⟩
  · cases h
/-! ### append, extend -/
def appA (N : List Str) (sc : Scope) (nm : Str) (i : Nat) (arg : Expr → Bool) : Stmt → Bool
  | .Expr (.Call (.Attribute o a p) [e] [] cp) _ => decide (a = nm) && nameAt N sc i o && (p.endLine == cp.line) && noStar e && arg e
  | _ => false
theorem attr_base {N : List Str} {sc : Scope} {i : Nat} {o : Expr} {nm : Str} {env : Env} {w : Sem Value} (h : nameAt N sc i o = true) : attributeBase o nm env w = w := by
  cases o with
  | Name => rfl
  | _ => cases h
theorem SS.app {i : Nat} {st : Stmt} {f : Sl → R M} (h : appA N sc ("append" : Str) i (fun _ => true) st = true) (he : ∀ e, (∃ o a p cp q, st = .Expr (.Call (.Attribute o a p) [e] [] cp) q) → SE Z n N sc W e f) :
    SS Z n N sc W pins st (fun s => if isLst s i = true then (f s).thenS fun m s => match s[i]? with
      | some (some (.lst ms)) => if ms.length < szl then .nx (s.set i (some (.lst (ms ++ [.d (frz m)])))) else .bad
      | _ => .bad
      else .bad) := by
  unfold appA at h
  split at h
  case h_2 => cases h
  rename_i o a p e cp q
  simp only [Bool.and_eq_true, decide_eq_true_eq] at h
  obtain ⟨⟨⟨⟨rfl, e1⟩, e2⟩, e3⟩, _⟩ := h
  obtain ⟨⟨t, h1, h2⟩, _⟩ := he e ⟨o, _, p, cp, q, rfl⟩
  refine ⟨tDrop (tBM Z.K "list" rAppend (tVar i) (tCons t tNil)), fun X g => ?_, ?_⟩
  · rw [← g.g.K]
    exact ps_expr (pe_bm PySem.F.plainAttrs_list PySem.F.slot_list_append PySem.F.type_list_append mt_append (pe_nameAt g.g e1) (pa_cons (h1 X g.g) pa_nil (star_cons e3)) (attr_base e1) (by rw [star_cons e3]; rfl) e2 (star_cons e3) rfl) rfl
  · intro σ H De F G s L ok p
    dsimp only at p
    split at p
    case isFalse => exact p.elim
    rename_i hl
    obtain ⟨ms0, hms0⟩ := isLst_get hl
    obtain ⟨a0, vs0, Lv0, g1, g2, _⟩ := ok.mut hms0
    refine ⟨.ref a0, g1, .inl ⟨rfl, vs0, sqL g2⟩, ?_⟩
    refine h2 σ H _ F G s L ok ?_
    cases e : f s with
    | bad => rw [e] at p; exact p
    | ex c as s1 => rw [e] at p; exact postX_S p
    | ok m s1 =>
      rw [e] at p
      intro v F1 H1 Lm L1 st rv ok1
      have p : PostS Z W pins σ F H G De (match s1[i]? with
        | some (some (.lst ms)) => if ms.length < szl then .nx (s1.set i (some (.lst (ms ++ [.d (frz m)])))) else .bad
        | _ => .bad) := p
      split at p
      case h_2 => exact p.elim
      rename_i ms ems
      split at p
      case isFalse => exact p.elim
      rename_i hlt
      obtain ⟨st2, rp, ok2⟩ := rv.freeze ok1
      obtain ⟨a, vs, Lv, k1, k2, k3, k4⟩ := ok2.mut ems
      rw [g1] at k1
      cases k1
      have hz : vs.length < sizeLine := by rw [k3.len, sizeLine_eq]; exact hlt
      obtain ⟨L', st3, ok3⟩ := k4 (vs ++ [v]) (ms ++ [.d (frz m)]) (Lv ++ []) (k3.append (Rms.cons (L1 := []) (L2 := []) (.d rp) .nil)) (by rw [List.append_nil]; exact List.Sublist.refl _) (by rw [List.length_append]; exact hz)
      exact ⟨a0, vs, v, rfl, rfl, k2, hz, p σ _ _ L' ((st.trans st2).trans st3) ok3 PinS.refl⟩
theorem SS.ext {i : Nat} {st : Stmt} {f : Sl → R M} (h : appA N sc ("extend" : Str) i (fun _ => true) st = true) (he : ∀ e, (∃ o a p cp q, st = .Expr (.Call (.Attribute o a p) [e] [] cp) q) → SE Z n N sc W e f) :
    SS Z n N sc W pins st (fun s => if isLst s i = true then (f s).thenS fun m s => match s[i]?, frz m with
      | some (some (.lst ms)), .lst ds => if ms.length + ds.length ≤ szl then .nx (s.set i (some (.lst (ms ++ ds.map .d)))) else .bad
      | _, _ => .bad
      else .bad) := by
  unfold appA at h
  split at h
  case h_2 => cases h
  rename_i o a p e cp q
  simp only [Bool.and_eq_true, decide_eq_true_eq] at h
  obtain ⟨⟨⟨⟨rfl, e1⟩, e2⟩, e3⟩, _⟩ := h
  obtain ⟨⟨t, h1, h2⟩, _⟩ := he e ⟨o, _, p, cp, q, rfl⟩
  refine ⟨tDrop (tBM Z.K "list" rExtend (tVar i) (tCons t tNil)), fun X g => ?_, ?_⟩
  · rw [← g.g.K]
    exact ps_expr (pe_bm PySem.F.plainAttrs_list PySem.F.slot_list_extend PySem.F.type_list_extend mt_extend (pe_nameAt g.g e1) (pa_cons (h1 X g.g) pa_nil (star_cons e3)) (attr_base e1) (by rw [star_cons e3]; rfl) e2 (star_cons e3) rfl) rfl
  · intro σ H De F G s L ok p
    dsimp only at p
    split at p
    case isFalse => exact p.elim
    rename_i hl
    obtain ⟨ms0, hms0⟩ := isLst_get hl
    obtain ⟨a0, vs0, Lv0, g1, g2, _⟩ := ok.mut hms0
    refine ⟨.ref a0, g1, .inl ⟨rfl, vs0, sqL g2⟩, ?_⟩
    refine h2 σ H _ F G s L ok ?_
    cases e : f s with
    | bad => rw [e] at p; exact p
    | ex c as s1 => rw [e] at p; exact postX_S p
    | ok m s1 =>
      rw [e] at p
      intro v F1 H1 Lm L1 st rv ok1
      have p : PostS Z W pins σ F H G De (match s1[i]?, frz m with
        | some (some (.lst ms)), .lst ds => if ms.length + ds.length ≤ szl then .nx (s1.set i (some (.lst (ms ++ ds.map .d)))) else .bad
        | _, _ => .bad) := p
      split at p
      case h_2 => exact p.elim
      rename_i ms ds ems efr
      split at p
      case isFalse => exact p.elim
      rename_i hlt
      obtain ⟨st2, rp, ok2⟩ := rv.freeze ok1
      rw [efr] at rp
      obtain ⟨b, ws, rfl, hb, hbz, rws⟩ := rp_lst rp
      obtain ⟨a, vs, Lv, k1, k2, k3, k4⟩ := ok2.mut ems
      rw [g1] at k1
      cases k1
      have hz : vs.length + ws.length ≤ sizeLine := by rw [k3.len, rws.len, sizeLine_eq]; exact hlt
      obtain ⟨L', st3, ok3⟩ := k4 (vs ++ ws) (ms ++ ds.map .d) (Lv ++ []) (k3.append (Rms.ofD rws)) (by rw [List.append_nil]; exact List.Sublist.refl _) (by rw [List.length_append]; exact hz)
      exact ⟨a0, b, vs, ws, rfl, rfl, k2, hb, hz, p σ _ _ L' ((st.trans st2).trans st3) ok3 PinS.refl⟩
/-! ### x[i] = e -/
def notSl : Expr → Bool
  | .Slice _ _ _ _ => false
  | .Starred _ _ => false
  | _ => true
theorem asg_sub {i : Nat} {o ix : Expr} {p : Pos} {env : Env} (h : nameAt N sc i o = true) (hs : notSl ix = true) (v : Value) : assign (.Subscript o ix p) env v = (do
    let ov ← holding [v] (eval o env)
    let iv ← holding [v, ov] (eval ix env)
    standAt p
    holding [v, ov, iv] (setItem ov iv v)
    release [v, ov, iv] []) := by
  cases o with
  | Name x q => cases ix <;> first | rfl | cases hs
  | _ => cases h
theorem SS.seti {i : Nat} {o ix e : Expr} {p pos : Pos} {f g : Sl → R M} (ho : nameAt N sc i o = true) (hix : SE Z n N sc W ix g) (he : SE Z n N sc W e f) (hsl : notSl ix = true) (ha : asgB sc (.Subscript o ix p) e = true) :
    SS Z n N sc W pins (.Assign [.Subscript o ix p] e pos) (fun s => (f s).thenS fun m s => if filled s i = true then (g s).thenS fun j s => match frz j, s[i]? with
      | .int j, some (some (.lst ms)) => (match ixN ms.length j with
        | some n => .nx (s.set i (some (.lst (ms.set n (.d (frz m))))))
        | none => .bad)
      | _, _ => .bad
      else .bad) := by
  obtain ⟨⟨t, h1, h2⟩, _⟩ := he
  obtain ⟨⟨u, h3, h4⟩, _⟩ := hix
  refine ⟨tAsg t (gSub (tVar i) u rSetL), fun X gx => ?_, ?_⟩
  · have q := asgB_ok (env := X.env) (l := pos.line) (by rw [gx.g.hsc]; exact ha)
    exact ps_asg (h1 X gx.g) (pg_sub (pe_nameAt gx.g ho) (h3 X gx.g) set_list (asg_sub ho hsl)) q.1 q.2 rfl
  · intro σ H De F G s L ok p
    refine h2 σ H _ F G s L ok ?_
    dsimp only at p
    cases e : f s with
    | bad => rw [e] at p; exact p
    | ex c as s1 => rw [e] at p; exact postX_S p
    | ok m s1 =>
      rw [e] at p
      intro v F1 H1 Lm L1 st rv ok1
      have p : PostS Z W pins σ F H G De (if filled s1 i = true then (g s1).thenS fun j s => match frz j, s[i]? with
        | .int j, some (some (.lst ms)) => (match ixN ms.length j with
          | some n => .nx (s.set i (some (.lst (ms.set n (.d (frz m))))))
          | none => .bad)
        | _, _ => .bad
        else .bad) := p
      split at p
      case isFalse => exact p.elim
      rename_i hf
      obtain ⟨st2, rp, ok2⟩ := rv.freeze ok1
      obtain ⟨v0, hv0⟩ := filled_val ok2 hf
      refine ⟨v0, hv0, ?_⟩
      refine h4 σ H1 _ _ G s1 L1 ok2 ?_
      cases e2 : g s1 with
      | bad => rw [e2] at p; exact p
      | ex c as s2 => rw [e2] at p; exact postX_S (p.trans (st.trans st2) PinS.refl)
      | ok j s2 =>
        rw [e2] at p
        intro w F2 H2 Lj L2 st3 rvj ok3
        have p : PostS Z W pins σ F H G De (match frz j, s2[i]? with
          | .int j, some (some (.lst ms)) => (match ixN ms.length j with
            | some n => .nx (s2.set i (some (.lst (ms.set n (.d (frz m))))))
            | none => .bad)
          | _, _ => .bad) := p
        split at p
        case h_2 => exact p.elim
        rename_i j0 ms ej ems
        split at p
        case h_2 => exact p.elim
        rename_i k ek
        obtain ⟨st4, rpj, ok4⟩ := rvj.freeze ok3
        rw [ej] at rpj
        cases rpj
        obtain ⟨a, vs, Lv, k1, k2, k3, k4⟩ := ok4.mut ems
        rw [hv0] at k1
        cases k1
        obtain ⟨Lv', r', sub⟩ := Rms.setD ((rp.stp st3).stp st4) k k3
        have hz : vs.length ≤ sizeLine := by
          obtain ⟨_, _, _, q1, q2⟩ := ok4.take ems
          obtain ⟨qr, _, _⟩ := q2.1
          rw [hv0] at q1
          cases q1
          cases qr with
          | lst n h z r => rw [k2] at h; cases h; exact z
        obtain ⟨L', st5, ok5⟩ := k4 _ _ _ r' sub (by rw [List.length_set]; exact hz)
        exact ⟨a, vs, j0, k, rfl, rfl, k2, by rw [k3.len]; exact ek, p σ _ _ L' ((((st.trans st2).trans st3).trans st4).trans st5) ok5 PinS.refl⟩
end PV
/-! # PV16: plain statements, loops -/
namespace PV
open PySem PySem.Spec PyProof.Rows L2
variable {Z : Wd} {n : Nat} {N : List Str} {sc : Scope} {W : WX} {pins : Nat}
theorem SS.pass {pos : Pos} : SS Z n N sc W pins (.Pass pos) (fun s => .nx s) := ⟨tNext, fun X g => ps_pass, fun σ H D F G s L ok p => p σ F H L Stp.refl ok PinS.refl⟩
theorem SS.brk {pos : Pos} : SS Z n N sc W pins (.Break pos) (fun s => .brk s) := ⟨tBreak, fun X g => ps_break, fun σ H D F G s L ok p => p σ F H L Stp.refl ok PinS.refl⟩
theorem SS.cnt {pos : Pos} : SS Z n N sc W pins (.Continue pos) (fun s => .cnt s) := ⟨tCont, fun X g => ps_continue, fun σ H D F G s L ok p => p σ F H L Stp.refl ok PinS.refl⟩
theorem SS.retN {pos : Pos} : SS Z n N sc W pins (.Return none pos) (fun s => .ret (.d .non) s) :=
  ⟨tRetN, fun X g => ps_retN, fun σ H D F G s L ok p => p .non σ F H [] L Stp.refl ⟨.d .non, List.nodup_nil, fun _ z => nomatch z⟩ ok.nil PinS.refl⟩
theorem SS.ret {e : Expr} {pos : Pos} {f : Sl → R M} (h : SE Z n N sc W e f) : SS Z n N sc W pins (.Return (some e) pos) (fun s => (f s).thenS fun m s => .ret m s) := by
  obtain ⟨⟨t, h1, h2⟩, _⟩ := h
  refine ⟨tRet t, fun X g => ps_ret (h1 X g.g), fun σ H De F G s L ok p => h2 σ H _ F G s L ok ?_⟩
  dsimp only at p
  cases e : f s with
  | bad => rw [e] at p; exact p
  | ex c as s1 => rw [e] at p; exact postX_S p
  | ok m s1 => rw [e] at p; exact fun v F1 H1 Lm L1 st rv ok1 => p v σ F1 H1 Lm L1 st rv ok1 PinS.refl
/-- what no set is swapped into -/
def exB : Expr → Bool
  | .SetComp _ _ _ _ => false
  | .DictComp _ _ _ _ _ => false
  | .ListComp _ _ _ _ => false
  | _ => true
theorem SS.ex {e : Expr} {pos : Pos} {f : Sl → R M} (h : SE Z n N sc W e f) (hb : exB e = true) : SS Z n N sc W pins (.Expr e pos) (fun s => (f s).thenS fun _ s => .nx s) := by
  obtain ⟨⟨t, h1, h2⟩, _⟩ := h
  refine ⟨tDrop t, fun X g => ps_expr (h1 X g.g) (by cases e <;> first | rfl | cases hb), fun σ H De F G s L ok p => h2 σ H _ F G s L ok ?_⟩
  dsimp only at p
  cases e : f s with
  | bad => rw [e] at p; exact p
  | ex c as s1 => rw [e] at p; exact postX_S p
  | ok m s1 => rw [e] at p; exact fun v F1 H1 Lm L1 st rv ok1 => p σ F1 H1 L1 st (ok1.weak fun _ z => .inl z) PinS.refl
theorem SS.ite {c : Expr} {a b : List Stmt} {pos : Pos} {f : Sl → R M} {g k : Sl → O} (h : SE Z n N sc W c f) (ha : SSs Z n N sc W pins a g) (hb : SSs Z n N sc W pins b k) :
    SS Z n N sc W pins (.If c a b pos) (fun s => (fB f s).thenS fun t s => if t = true then g s else k s) := by
  obtain ⟨_, ⟨t, h1, h2⟩⟩ := h
  obtain ⟨ta, a1, a2⟩ := ha
  obtain ⟨tb, b1, b2⟩ := hb
  refine ⟨tIfS t ta tb, fun X g => ps_if (h1 X g.g) (a1 X g) (b1 X g), fun σ H De F G s L ok p => h2 σ H _ F G s L ok ?_⟩
  dsimp only at p
  cases e : fB f s with
  | bad => rw [e] at p; exact p
  | ex c as s1 => rw [e] at p; exact postX_S p
  | ok t s1 =>
    rw [e] at p
    intro F1 H1 L1 st ok1
    cases t with
    | true => exact a2 σ H1 De F1 G s1 L1 ok1 (PostS.trans p st PinS.refl)
    | false => exact b2 σ H1 De F1 G s1 L1 ok1 (PostS.trans p st PinS.refl)
/-! ### x op= e -/
def augO (o : Op) : Operator → Bool
  | .Add => match o with | .add => true | _ => false
  | .Sub => match o with | .sub => true | _ => false
  | .Mult => match o with | .mul => true | _ => false
  | _ => false
theorem iop_mulW {X : Cx} : OpR X (inplaceOp Operator.Mult) (rI CMulW fun i j => V.int (i * j)) := opI fun _ _ _ _ _ _ _ hc q => imul_int q (CMulW.ok hc)
def augA (N : List Str) (sc : Scope) (i : Nat) : Expr → Bool
  | .Name x _ => decide (N[i]? = some x) && locB sc x
  | _ => false
theorem aug_op {o : Op} {op : Operator} (h : augO o op = true) : ∃ r : R2, (∀ X : Cx, OpR X (inplaceOp op) r) ∧ ∀ x y z H Q, augI o x y = some z → Q (.int z) H → r (.int x) (.int y) H Q := by
  cases op with
  | Add => cases o with
    | add => exact ⟨_, fun X => iop_add, fun x y z H Q e q => ⟨x, y, rfl, rfl, by cases e; exact q⟩⟩
    | _ => cases h
  | Sub => cases o with
    | sub => exact ⟨_, fun X => iop_sub, fun x y z H Q e q => ⟨x, y, rfl, rfl, by cases e; exact q⟩⟩
    | _ => cases h
  | Mult => cases o with
    | mul =>
      refine ⟨_, fun X => iop_mulW, fun x y z H Q e q => ?_⟩
      have e : (if x.natAbs.log2 + y.natAbs.log2 < 1000000 then some (x * y) else none) = some z := e
      split at e
      · rename_i hc
        cases e
        exact ⟨x, y, rfl, rfl, hc, q⟩
      · cases e
    | _ => cases h
  | _ => cases h
theorem SS.aug {i : Nat} {o : Op} {op : Operator} {nm e : Expr} {pos : Pos} {f : Sl → R M} (nd : N.Nodup) (hn : augA N sc i nm = true) (ho : augO o op = true) (he : SE Z n N sc W e f) :
    SS Z n N sc W pins (.AugAssign nm op e pos) (fun s => match s[i]? with
      | some (some (.d (.int x))) => (f s).thenS fun m s => (match frz m with
        | .int y => (match augI o x y with
          | some z => (match bindT pins (.nm i) (.d (.int z)) s with
            | some s => .nx s
            | none => .bad)
          | none => .bad)
        | _ => .bad)
      | _ => .bad) := by
  cases nm with
  | Name x px =>
    simp only [augA, Bool.and_eq_true, decide_eq_true_eq] at hn
    obtain ⟨n1, n2⟩ := hn
    obtain ⟨⟨t, h1, h2⟩, _⟩ := he
    obtain ⟨r, r1, r2⟩ := aug_op ho
    refine ⟨tAug i t r, fun X g => ?_, fun σ H De F G s L ok p => ?_⟩
    · exact ps_aug (by rw [g.g.hN]; exact g.g.nd) (by rw [g.g.hN]; exact n1) (by rw [g.g.hsc]; exact loc_of n2) (h1 X g.g) (r1 X) (g.fnl x (loc_of n2))
    · dsimp only at p
      split at p
      case h_2 => exact p.elim
      rename_i x0 ex
      obtain ⟨v0, e0, rp0⟩ := ok.read ex
      cases rp0
      refine ⟨_, e0, h2 σ H _ F G s L ok ?_⟩
      cases e : f s with
      | bad => rw [e] at p; exact p
      | ex c as s1 => rw [e] at p; exact postX_S p
      | ok m s1 =>
        rw [e] at p
        intro v F1 H1 Lm L1 st rv ok1
        have p : PostS Z W pins σ F H G De (match frz m with
          | .int y => (match augI o x0 y with
            | some z => (match bindT pins (.nm i) (.d (.int z)) s1 with
              | some s => .nx s
              | none => .bad)
            | none => .bad)
          | _ => .bad) := p
        obtain ⟨st2, rp, ok2⟩ := rv.freeze ok1
        split at p
        case h_2 => exact p.elim
        rename_i y ey
        rw [ey] at rp
        cases rp
        split at p
        case h_2 => exact p.elim
        rename_i z ez
        split at p
        case h_2 => exact p.elim
        rename_i s2 es
        refine r2 _ _ _ _ _ ez ?_
        exact simG_nm σ H1 De.nx _ G [] s1 s2 L1 (.int z) (.d (.int z)) ok2.nil ⟨.d (.int _), List.nodup_nil, fun _ z => nomatch z⟩ es fun σ1 F2 L2 st3 ok3 a1 => p σ1 F2 H1 L2 ((st.trans st2).trans st3) ok3 a1.pinS
  | _ => cases hn
/-! ### while -/
theorem whileO_some {t : Sl → R Bool} {f : Sl → O} {s : Sl} (h : whileO t f s ≠ .bad) : ∃ n, whileN t f n s = some (whileO t f s) := by
  unfold whileO at h ⊢
  split at h
  · rename_i c
    rw [dif_pos c]
    exact ⟨c.choose, c.choose_spec.choose_spec⟩
  · exact absurd rfl h
theorem SS.whl {c : Expr} {b : List Stmt} {pos : Pos} {f : Sl → R M} {k : Sl → O} (h : SE Z n N sc W c f) (hb : SSs Z n N sc W pins b k) :
    SS Z n N sc W pins (.While c b [] pos) (fun s => whileO (fB f) k s) := by
  obtain ⟨_, ⟨t, h1, h2⟩⟩ := h
  obtain ⟨tb, b1, b2⟩ := hb
  refine ⟨tWhile t tb, fun X g => ps_while g.g.own (h1 X g.g) (b1 X g), fun σ0 H0 De F0 G s0 L0 ok0 p => ?_⟩
  dsimp only at p
  have hne : whileO (fB f) k s0 ≠ .bad := fun e => by rw [e] at p; exact p
  obtain ⟨m0, hm0⟩ := whileO_some hne
  refine ⟨fun m σ H => ∃ F s L o, Stp F0 H0 G F H ∧ Ok Z.K F H G σ s L ∧ PinS pins σ0 σ ∧ whileN (fB f) k m s = some o ∧ PostS Z W pins σ0 F0 H0 G De o, ⟨m0, F0, s0, L0, _, Stp.refl, ok0, PinS.refl, hm0, p⟩, ?_⟩
  rintro m σ H ⟨F, s, L, o, st, ok, ps, hm, po⟩
  cases m with
  | zero => cases hm
  | succ m =>
    refine h2 σ H _ F G s L ok ?_
    unfold whileN at hm
    cases e : fB f s with
    | bad => rw [e] at hm; cases hm
    | ex c as s1 =>
      rw [e] at hm
      cases hm
      have po := PostS.trans po st ps
      exact postX_S po
    | ok tv s1 =>
      rw [e] at hm
      intro F1 H1 L1 st1 ok1
      cases tv with
      | false =>
        cases hm
        exact po σ F1 H1 L1 (st.trans st1) ok1 ps
      | true =>
        refine ⟨fun σ' H' => ∃ F s L o, Stp F0 H0 G F H' ∧ Ok Z.K F H' G σ' s L ∧ PinS pins σ0 σ' ∧ whileN (fB f) k m s = some o ∧ PostS Z W pins σ0 F0 H0 G De o, fun σ' H' q => ⟨m, Nat.lt_succ_self m, q⟩, ?_⟩
        refine b2 σ H1 _ F1 G s1 L1 ok1 ?_
        have hm : (match k s1 with
          | .nx s => whileN (fB f) k m s
          | .cnt s => whileN (fB f) k m s
          | .brk s => some (.nx s)
          | .bad => none
          | o => some o) = some o := hm
        cases ek : k s1 with
        | bad => rw [ek] at hm; cases hm
        | nx s2 =>
          rw [ek] at hm
          exact fun σ' F' H' L' a b c => ⟨F', s2, L', o, (st.trans st1).trans a, b, ps.trans c, hm, po⟩
        | cnt s2 =>
          rw [ek] at hm
          exact fun σ' F' H' L' a b c => ⟨F', s2, L', o, (st.trans st1).trans a, b, ps.trans c, hm, po⟩
        | brk s2 =>
          rw [ek] at hm
          cases hm
          exact fun σ' F' H' L' a b c => po σ' F' H' L' ((st.trans st1).trans a) b (ps.trans c)
        | ret m2 s2 =>
          rw [ek] at hm
          cases hm
          exact fun v σ' F' H' Lm L' a r b c => po v σ' F' H' Lm L' ((st.trans st1).trans a) r b (ps.trans c)
        | ex c as s2 =>
          rw [ek] at hm
          cases hm
          exact fun σ' F' H' L' cls d a b c => po σ' F' H' L' cls d ((st.trans st1).trans a) b (ps.trans c)
/-! ### for -/
def stepS (pins : Nat) (tg : Tg) (k : Sl → O) (d : D) (s : Sl) : O := match bindT pins tg (.d d) s with
  | some s => k s
  | none => .bad
theorem SS.forr {tgE iter : Expr} {b : List Stmt} {pos : Pos} {tg : Tg} {fi : Sl → R (List D)} {k : Sl → O} (nd : N.Nodup) (hi : SI Z n N sc W tgE iter fi) (ht : tgA N (locB sc) tg tgE = true) (hb : SSs Z n N sc W pins b k) :
    SS Z n N sc W pins (.For tgE iter b [] pos) (fun s => (fi s).thenS fun its s => loopS (fun d s => match bindT pins tg (.d d) s with
      | some s => k s
      | none => .bad) its s) := by
  obtain ⟨ns, wi, h1, h2⟩ := hi
  obtain ⟨g, g1, g2⟩ := tg_ok (bdc_S (Z := Z) (n := n) (sc := sc) (W := W) nd) tg tgE ht
  obtain ⟨tb, b1, b2⟩ := hb
  refine ⟨tFor wi g tb, fun X gx => ps_for gx.g.own gx.g.calm (h1 X gx.g) (g1 X gx) (b1 X gx) (noSet_ok ns), fun σ0 H0 De F0 G s0 L0 ok0 p => ?_⟩
  have p : PostS Z W pins σ0 F0 H0 G De ((fi s0).thenS fun its s => loopS (stepS pins tg k) its s) := p
  refine h2 σ0 H0 _ F0 G s0 L0 ok0 ?_
  cases e : fi s0 with
  | bad => rw [e] at p; exact p
  | ex c as s1 => rw [e] at p; exact postX_S p
  | ok its s1 =>
    rw [e] at p
    have p : PostS Z W pins σ0 F0 H0 G De (loopS (stepS pins tg k) its s1) := p
    intro J Iv F1 H1 L1 st1 ok1 io iv hz
    refine ⟨fun i m σ H => m = its.length - i ∧ i ≤ its.length ∧ ∃ F s L, Stp F1 H1 G F H ∧ Ok Z.K F H G σ s L ∧ PinS pins σ0 σ ∧ Iv F H ∧ PostS Z W pins σ0 F0 H0 G De (loopS (stepS pins tg k) (its.drop i) s), ⟨its.length, by simp, Nat.zero_le _, F1, s1, L1, Stp.refl, ok1, PinS.refl, iv, p⟩, ?_⟩
    rintro i m σ H ⟨rfl, hile, F, s, L, st, ok, ps, iv, p⟩
    by_cases hlt : i < its.length
    · refine .inr ⟨io.go i F H iv hlt, fun σ' H' => ∃ F s L, Stp F1 H1 G F H' ∧ Ok Z.K F H' G σ' s L ∧ PinS pins σ0 σ' ∧ Iv F H' ∧ PostS Z W pins σ0 F0 H0 G De (loopS (stepS pins tg k) (its.drop (i + 1)) s), fun σ' H' h => ⟨its.length - (i + 1), by omega, rfl, hlt, h⟩, fun x H3 hy => ?_⟩
      obtain ⟨d, ed, st3, rp⟩ := io.yld i F H (with_ G L) x H3 iv ok.wf (fun a h => (ok.all a h).1) hy hlt
      have ok3 := ok.step st3 fun a h => st3.trk a (ok.wf a h)
      have iv3 := io.keep _ _ _ _ _ iv st3
      rw [drop_get ed] at p
      unfold loopS at p
      have p : PostS Z W pins σ0 F0 H0 G De (match stepS pins tg k d s with
        | .nx s => loopS (stepS pins tg k) (its.drop (i + 1)) s
        | .cnt s => loopS (stepS pins tg k) (its.drop (i + 1)) s
        | .brk s => .nx s
        | o => o) := p
      unfold stepS at p
      cases eb : bindT pins tg (.d d) s with
      | none => rw [eb] at p; exact p.elim
      | some s3 =>
        rw [eb] at p
        refine g2 pins σ H3 _ F G [] s s3 L x (.d d) ok3.nil ⟨.d rp, List.nodup_nil, fun _ z => nomatch z⟩ eb fun σ4 F4 L4 st4 ok4 ag => ?_
        have stA : Stp F0 H0 G F4 H3 := ((st1.trans st).trans (st3.weak fun _ z => .inl z)).trans st4
        have ivA := io.keep _ _ _ _ _ iv3 st4
        have psA : PinS pins σ0 σ4 := ps.trans ag.pinS
        refine b2 σ4 H3 _ F4 G s3 L4 ok4 ?_
        have p : PostS Z W pins σ0 F0 H0 G De (match k s3 with
          | .nx s => loopS (stepS pins tg k) (its.drop (i + 1)) s
          | .cnt s => loopS (stepS pins tg k) (its.drop (i + 1)) s
          | .brk s => .nx s
          | o => o) := p
        have stB : Stp F1 H1 G F4 H3 := (st.trans (st3.weak fun _ z => .inl z)).trans st4
        cases ek : k s3 with
        | bad => rw [ek] at p; exact p
        | nx s5 =>
          rw [ek] at p
          exact fun σ' F' H' L' a b c => ⟨F', s5, L', stB.trans a, b, psA.trans c, io.keep _ _ _ _ _ ivA a, p⟩
        | cnt s5 =>
          rw [ek] at p
          exact fun σ' F' H' L' a b c => ⟨F', s5, L', stB.trans a, b, psA.trans c, io.keep _ _ _ _ _ ivA a, p⟩
        | brk s5 => rw [ek] at p; exact fun σ' F' H' L' a b c => p σ' F' H' L' (stA.trans a) b (psA.trans c)
        | ret m2 s5 => rw [ek] at p; exact fun v σ' F' H' Lm L' a r b c => p v σ' F' H' Lm L' (stA.trans a) r b (psA.trans c)
        | ex c as s5 => rw [ek] at p; exact fun σ' F' H' L' cls d a b c => p σ' F' H' L' cls d (stA.trans a) b (psA.trans c)
    · have ei : i = its.length := by omega
      subst ei
      refine .inl ⟨io.stop _ F H iv (Nat.le_refl _), ?_⟩
      rw [List.drop_length] at p
      exact p σ F H L (st1.trans st) ok ps
end PV
/-! # PV17: chains of comparisons, comprehensions put together -/
namespace PV
open PySem PySem.Spec PyProof.Rows L2
variable {Z : Wd} {n : Nat} {N : List Str} {sc : Scope} {W : WX} {pins : Nat}
def cmpO : Op → CmpOp → Bool
  | .lt, .Lt => true
  | .le, .LtE => true
  | .gt, .Gt => true
  | .ge, .GtE => true
  | _, _ => false
theorem cmpO_ok {o : Op} {op : CmpOp} (h : cmpO o op = true) : ∃ f : Int → Int → Bool, (∀ X : Cx, OpR X (compareOp op) (rI0 fun i j => .bl (f i j))) ∧ ∀ ds, prim o ds = cmpI f ds := by
  unfold cmpO at h
  split at h
  · exact ⟨_, fun X => op_lt, fun _ => rfl⟩
  · exact ⟨_, fun X => op_le, fun _ => rfl⟩
  · exact ⟨_, fun X => op_gt, fun _ => rfl⟩
  · exact ⟨_, fun X => op_ge, fun _ => rfl⟩
  · cases h
theorem simT_of {t : TE} {f : Sl → R M} (h : SimE Z W t f) : SimB Z W (tTest t) (fB f) := by
  intro σ H Q F G s L o p
  refine h σ H _ F G s L o ?_
  unfold fB at p
  cases e : f s with
  | bad => rw [e] at p; exact p
  | ex c as s1 => rw [e] at p; exact p
  | ok m s1 =>
    rw [e] at p
    intro v F1 H1 Lm L1 st rv ok1
    cases m with
    | lst l => exact p.elim
    | tup l => exact p.elim
    | d x =>
      cases x with
      | bl b =>
        cases rv.rep with
        | d r =>
          cases r
          exact ⟨b, rfl, p F1 H1 L1 st (ok1.weak fun _ h => .inl h)⟩
      | _ => exact p.elim
theorem cmpI_bl {f : Int → Int → Bool} {x y : D} {m : M} (h : cmpI f [x, y] = some m) : ∃ i j, x = .int i ∧ y = .int j ∧ m = .d (.bl (f i j)) := by
  cases x with
  | int i => cases y with
    | int j => exact ⟨i, j, rfl, rfl, (Option.some.inj h).symm⟩
    | _ => cases h
  | _ => cases h
theorem simE_chain {ta tb tc : TE} {fa fb fc : Sl → R M} {o1 o2 : Op} {g1 g2 : Int → Int → Bool} (e1 : ∀ ds, prim o1 ds = cmpI g1 ds) (e2 : ∀ ds, prim o2 ds = cmpI g2 ds)
    (ha : SimE Z W ta fa) (hb : SimE Z W tb fb) (hc : SimE Z W tc fc) : SimE Z W (tChain (rI0 fun i j => .bl (g1 i j)) (rI0 fun i j => .bl (g2 i j)) ta tb tc) (fun s => (fa s).bind fun x s => (fb s).bind fun y s => match prim o1 [frz x, frz y] with
      | some (.d (.bl true)) => (fc s).bind fun z s => (match prim o2 [frz y, frz z] with
        | some (.d (.bl r)) => .ok (.d (.bl r)) s
        | _ => .bad)
      | some (.d (.bl false)) => .ok (.d (.bl false)) s
      | _ => .bad) := by
  intro σ H Q F G s L ok p
  refine ha σ H _ F G s L ok ?_
  dsimp only at p
  cases e : fa s with
  | bad => rw [e] at p; exact p
  | ex c as s1 => rw [e] at p; exact p
  | ok x s1 =>
    rw [e] at p
    intro v F1 H1 Lm L1 st rv ok1
    obtain ⟨st2, rp, ok2⟩ := rv.freeze ok1
    have p : PostE Z W σ F H G Q ((fb s1).bind fun y s => match prim o1 [frz x, frz y] with
      | some (.d (.bl true)) => (fc s).bind fun z s => (match prim o2 [frz y, frz z] with
        | some (.d (.bl r)) => .ok (.d (.bl r)) s
        | _ => .bad)
      | some (.d (.bl false)) => .ok (.d (.bl false)) s
      | _ => .bad) := p
    have p := p.trans (st.trans st2)
    refine hb σ H1 _ _ G s1 L1 ok2 ?_
    cases e3 : fb s1 with
    | bad => rw [e3] at p; exact p
    | ex c as s2 => rw [e3] at p; exact p
    | ok y s2 =>
      rw [e3] at p
      intro w F2 H2 Ln L2 st3 rvy ok3
      obtain ⟨st4, rpy, ok4⟩ := rvy.freeze ok3
      have p : PostE Z W σ (with_ F1 Lm) H1 G Q (match prim o1 [frz x, frz y] with
        | some (.d (.bl true)) => (fc s2).bind fun z s => (match prim o2 [frz y, frz z] with
          | some (.d (.bl r)) => .ok (.d (.bl r)) s
          | _ => .bad)
        | some (.d (.bl false)) => .ok (.d (.bl false)) s2
        | _ => .bad) := p
      have p := p.trans (st3.trans st4)
      have rpx := (rp.stp st3).stp st4
      have hp : ∃ i j, frz x = .int i ∧ frz y = .int j := by
        cases eq : prim o1 [frz x, frz y] with
        | none => rw [eq] at p; exact p.elim
        | some m =>
          rw [e1] at eq
          obtain ⟨i, j, q1, q2, _⟩ := cmpI_bl eq
          exact ⟨i, j, q1, q2⟩
      obtain ⟨i, j, q1, q2⟩ := hp
      rw [q1] at rpx
      rw [q2] at rpy
      cases rpx
      cases rpy
      refine ⟨i, j, rfl, rfl, g1 i j, rfl, ?_⟩
      rw [q1, q2, e1] at p
      have p : PostE Z W σ _ H2 G Q (match some (M.d (.bl (g1 i j))) with
        | some (.d (.bl true)) => (fc s2).bind fun z s => (match prim o2 [.int j, frz z] with
          | some (.d (.bl r)) => .ok (.d (.bl r)) s
          | _ => .bad)
        | some (.d (.bl false)) => .ok (.d (.bl false)) s2
        | _ => .bad) := p
      cases eg : g1 i j with
      | false =>
        rw [eg] at p
        rw [if_neg Bool.false_ne_true]
        exact p (.bl false) _ H2 [] L2 Stp.refl ⟨.d (.bl _), List.nodup_nil, fun _ z => nomatch z⟩ ok4.nil
      | true =>
        rw [eg] at p
        rw [if_pos rfl]
        have p : PostE Z W σ _ H2 G Q ((fc s2).bind fun z s => (match prim o2 [.int j, frz z] with
          | some (.d (.bl r)) => .ok (.d (.bl r)) s
          | _ => .bad)) := p
        refine hc σ H2 _ _ G s2 L2 ok4 ?_
        cases e5 : fc s2 with
        | bad => rw [e5] at p; exact p
        | ex c as s3 => rw [e5] at p; exact p
        | ok z s3 =>
          rw [e5] at p
          intro u F3 H3 Lz L3 st5 rvz ok5
          obtain ⟨st6, rpz, ok6⟩ := rvz.freeze ok5
          have p : PostE Z W σ _ H2 G Q (match prim o2 [.int j, frz z] with
            | some (.d (.bl r)) => .ok (.d (.bl r)) s3
            | _ => .bad) := p
          have p := p.trans (st5.trans st6)
          cases eq : prim o2 [.int j, frz z] with
          | none => rw [eq] at p; exact p.elim
          | some m =>
            rw [eq] at p
            rw [e2] at eq
            obtain ⟨i2, k, q3, q4, rfl⟩ := cmpI_bl eq
            cases q3
            rw [q4] at rpz
            cases rpz
            exact ⟨j, k, rfl, rfl, p (.bl _) _ H3 [] L3 Stp.refl ⟨.d (.bl _), List.nodup_nil, fun _ z => nomatch z⟩ ok6.nil⟩
theorem SE.chain {a b c : Expr} {op op' : CmpOp} {o1 o2 : Op} {pos : Pos} {fa fb fc : Sl → R M} (h1 : cmpO o1 op = true) (h2 : cmpO o2 op' = true) (ha : SE Z n N sc W a fa) (hb : SE Z n N sc W b fb) (hc : SE Z n N sc W c fc) (hm : lastMarks [op, op'] [b, c] = false) :
    SE Z n N sc W (.Compare a [op, op'] [b, c] pos) (fun s => (fa s).bind fun x s => (fb s).bind fun y s => match prim o1 [frz x, frz y] with
      | some (.d (.bl true)) => (fc s).bind fun z s => (match prim o2 [frz y, frz z] with
        | some (.d (.bl r)) => .ok (.d (.bl r)) s
        | _ => .bad)
      | some (.d (.bl false)) => .ok (.d (.bl false)) s
      | _ => .bad) := by
  obtain ⟨g1, o1', e1⟩ := cmpO_ok h1
  obtain ⟨g2, o2', e2⟩ := cmpO_ok h2
  obtain ⟨⟨ta, a1, a2⟩, _⟩ := ha
  obtain ⟨⟨tb, b1, b2⟩, _⟩ := hb
  obtain ⟨⟨tc, c1, c2⟩, _⟩ := hc
  have sim := simE_chain e1 e2 a2 b2 c2
  exact ⟨⟨_, fun X g => pe_chain (o1' X) (o2' X) (a1 X g) (b1 X g) (c1 X g) hm, sim⟩, ⟨_, fun X g => pt_chain (o1' X) (o2' X) (a1 X g) (b1 X g) (c1 X g) hm, simT_of sim⟩⟩
/-! ### comprehensions -/
def SIf (Z : Wd) (n : Nat) (N : List Str) (sc : Scope) (W : WX) (ifs : List Expr) (f : Sl → R Bool) : Prop := ∃ tt, (∀ X, Gd Z n N sc W X → PTs X ifs tt) ∧ SimB Z W tt f
theorem SIf.nil : SIf Z n N sc W [] (fun s => .ok true s) := ⟨tYes, fun X g => pts_nil, simB_yes true⟩
theorem SIf.one {c : Expr} {f : Sl → R M} (h : SE Z n N sc W c f) : SIf Z n N sc W [c] (fB f) := by
  obtain ⟨_, ⟨t, h1, h2⟩⟩ := h
  exact ⟨t, fun X g => pts_one (h1 X g), h2⟩
def ownOf (N : List Str) (tg : Tg) : List (Str × Nat) := tg.vars.map fun i => (N.getD i ("" : Str), i)
theorem ownOf_snd (N : List Str) (tg : Tg) : (ownOf N tg).map (fun x => x.2) = tg.vars := by
  unfold ownOf
  rw [List.map_map]
  exact List.map_id _
/-- a comprehension's parts -/
def LC (Z : Wd) (n : Nat) (N : List Str) (sc : Scope) (W : WX) (elt tg iter : Expr) (ifs : List Expr) (scope : Scope) (f : Sl → R M) : Prop :=
  ∃ wi g tt te own, noSet iter = true ∧ BlkOk N sc scope own ∧ (∀ X, Gd Z n N sc W X → PI X tg iter wi) ∧
    (∀ X, Gd Z n N sc W X → ∀ (s : Shared) (H : Hp) (C : Addr) (cl : List (Str × Addr)) (fp : List Addr), PG (X.blk s H scope (compEnvC scope cl C X.env) fp) tg g) ∧
    (∀ X, Gd Z n N sc W X → ∀ (s : Shared) (H : Hp) (C : Addr) (cl : List (Str × Addr)) (fp : List Addr), PTs (X.blk s H scope (compEnvC scope cl C X.env) fp) ifs tt) ∧
    (∀ X, Gd Z n N sc W X → ∀ (s : Shared) (H : Hp) (C : Addr) (cl : List (Str × Addr)) (fp : List Addr), PE (X.blk s H scope (compEnvC scope cl C X.env) fp) elt te) ∧
    SimE Z W (tLc wi g tt te (own.map fun x => x.2)) f
theorem LC.mk {elt tgE iter : Expr} {ifs : List Expr} {scope : Scope} {tg : Tg} {fi : Sl → R (List D)} {fif : Sl → R Bool} {fe : Sl → R M} (nd : N.Nodup) (hi : SI Z n N sc W tgE iter fi)
    (hb : blkC N sc scope (ownOf N tg) = true) (ht : tgA N (blkB scope) tg tgE = true) (hf : SIf Z n N (relS scope sc) W0 ifs fif) (he : SE Z n N (relS scope sc) W0 elt fe) :
    LC Z n N sc W elt tgE iter ifs scope (fLc pins tg fi fif fe) := by
  obtain ⟨ns, wi, h1, h2⟩ := hi
  obtain ⟨g, g1, g2⟩ := tg_ok (bdc_blk (Z := Z) (n := n) (sc := sc) (W := W) (scope := scope) nd) tg tgE ht
  obtain ⟨tt, f1, f2⟩ := hf
  obtain ⟨⟨te, e1, e2⟩, _⟩ := he
  refine ⟨wi, g, tt, te, ownOf N tg, ns, blkOk_by hb, h1, fun X gx s H C cl fp => g1 _ ⟨X, s, H, C, cl, fp, gx, rfl⟩, fun X gx s H C cl fp => f1 _ (gd_blk gx s H scope C cl fp), fun X gx s H C cl fp => e1 _ (gd_blk gx s H scope C cl fp), ?_⟩
  rw [ownOf_snd]
  exact simE_lc h2 (g2 pins) f2 e2
theorem LC.se {elt tg iter : Expr} {ifs : List Expr} {scope : Scope} {pos : Pos} {f : Sl → R M} (h : LC Z n N sc W elt tg iter ifs scope f) : SE Z n N sc W (.ListComp elt [⟨tg, iter, ifs, 0⟩] scope pos) f := by
  obtain ⟨wi, g, tt, te, own, ns, hb, h1, h2, h3, h4, h5⟩ := h
  exact .plain (fun X gx => pe_lc gx.calm (by rw [gx.hN]; exact gx.nd) (h1 X gx) (by rw [gx.hN, gx.hsc]; exact hb) (h2 X gx) (h3 X gx) (h4 X gx) (noSet_ok ns)) rfl h5
/-- y = [..]: the model may take y's own place for it -/
def swD (sc : Scope) : Expr → Expr → Bool
  | .Name y py, .ListComp _ _ s p => swB sc y py p s
  | _, _ => false
theorem swaps_lc1 {elt : Expr} {gs : List Comprehension} {s : Scope} {p py : Pos} {y : Str} {l : Nat} {env : Env} (hk : env.blockKind = .function) (h : swB env.scope y py p s = true) : swapsWith (.ListComp elt gs s p) (some (.Name y py)) l env = pure true := by
  show (pure (env.blockKind == .function && env.kindOf y == some .local && py.line == p.line && !(s.names.any fun (n, k) => n == y && (k == .local || k == .cell))) : Sem Bool) = pure true
  have e : (env.blockKind == .function && env.kindOf y == some .local && py.line == p.line && !(s.names.any fun (n, k) => n == y && (k == .local || k == .cell))) = (env.blockKind == .function && swB env.scope y py p s) := by
    unfold swB
    show (env.blockKind == .function && env.scope.names.lookup y == some .local && py.line == p.line && !(s.names.any fun (n, k) => n == y && (k == .local || k == .cell))) = _
    simp only [Bool.and_assoc]
  rw [e, h, hk]
  rfl
theorem SS.setLc {elt tgE iter : Expr} {ifs : List Expr} {scope : Scope} {p pos py : Pos} {y : Str} {i : Nat} {f : Sl → R M} (hk : sc.kind = .function) (h : LC Z n N sc W elt tgE iter ifs scope f) (hy : N[i]? = some y) (hs : swB sc y py p scope = true) :
    SS Z n N sc W pins (.Assign [.Name y py] (.ListComp elt [⟨tgE, iter, ifs, 0⟩] scope p) pos) (fun s => (f s).thenS fun m s => match bindT pins (.nm i) m s with | some s => .nx s | none => .bad) := by
  obtain ⟨wi, g, tt, te, own, ns, hb, h1, h2, h3, h4, h5⟩ := h
  refine ⟨tAsg (tLc wi g tt te (own.map fun x => x.2)) (gName i), fun X gx => ?_, simS_asg h5 simG_nm⟩
  have hs2 := hs
  unfold swB at hs2
  simp only [Bool.and_eq_true] at hs2
  exact ps_setLc gx.g.calm (by rw [gx.g.hN]; exact gx.g.nd) (by rw [gx.g.hN]; exact hy) (by rw [gx.g.hsc]; exact eq_of_beq hs2.1.1) (swaps_lc1 (by unfold Env.blockKind; rw [gx.g.hsc, hk]; rfl) (by rw [gx.g.hsc]; exact hs)) (h1 X gx.g) (by rw [gx.g.hN, gx.g.hsc]; exact hb) (h2 X gx.g) (h3 X gx.g) (h4 X gx.g) (noSet_ok ns)
end PV
namespace PV
open PySem PySem.Spec PyProof.Rows L2
/-- C.m(e, ..), C a class, m a def of it -/
theorem pe_cinit {X : Cx} {o : Expr} {m : Str} {e : Expr} {es : List Expr} {pos apos : Pos} {C g : Addr} {mc : Value} {ta : TA} {CX : CXT} {k : Nat} {fd : FuncData} {ps : List Str} {sp : Sp} {E : XK} {pl : Sem Bool}
  (po : PE X o (tC (.ref C))) (r : ClX.CRead X.K C mc) (v : ClX.CVal X.K C mc m (.ref g) (.ref g)) (F : FnOk X.prog X.w X.K X.mg X.base CX k g fd ps sp) (hr : Room k X.A) (hb : Binds X.K fd ps []) (hx : Passes CX X E) (kp : W.keepIn X.K (.ref g) = true) (pa : PA X (e :: es) ta)
  (h1 : starEach (e :: es) X.env = (false, eval e X.env) :: starEach es X.env) (h2 : ((backTo pos (starEach es X.env)).any fun x => x.fst) = false)
  (he : eval ((o.Attribute m apos).Call (e :: es) [] pos) X.env = do
            let ov ← eval o X.env
            standAt apos.atName
            let __x ← holding [ov] (getMethod ov m pl)
            match __x with
              | (f, first) =>
                callWith pos f first (backTo pos (starEach (e :: es) X.env)) (backToKw pos (keywordEach [] X.env))) : PE X ((o.Attribute m apos).Call (e :: es) [] pos) (tCall sp [] E ta) := by
  refine ⟨fun pins s σ H Q I q => ?_⟩
  rw [he]
  refine wpAny_bind (wpAny_mono (po.run pins s σ H (fun x H1 => x = .ref C ∧ H1 = H) I ⟨rfl, rfl⟩) (fun u s1 hu => ?_) (fun _ _ h => h))
  obtain ⟨x, H1, I1, rx, rfl, rfl⟩ := hu
  cases rx
  refine wpAny_bind (wpAny_standAt ?_)
  refine wpAny_bind (wpAny_holding (W.method_cls I1.kIn r.ga (ClX.getcval_ok I1 r v fun s2 I2 => ?_)))
  refine W.callWith_K (K := X.K) I2.kIn kp ?_ h1 h2
  refine wpAny_mono (pa.run pos pins s2 σ H1 (fun vs H2 => sp (vs ++ []) H2 Q E) I2 q) (fun us s3 hu => ?_) (fun _ _ h => h)
  obtain ⟨vs, H2, I3, hv, hs⟩ := hu
  exact ⟨I3.kIn, run_fn F hr hb .nil hx I3 hv hs⟩
end PV
/-! # PV27: one try with plain clauses and clauses `as`, mixed -/
namespace PV
open PySem PySem.Spec PyProof.Rows L2
abbrev Hd := Value × Option Nat × (Addr → Value → Option Addr → TS)
def endsAs (i : Nat) (D : Ends) : Ends := { nx := fun σ H => D.nx (List.set σ i none) H, rt := D.rt, bk := fun σ H => D.bk (List.set σ i none) H, ct := fun σ H => D.ct (List.set σ i none) H }
def wMix (K : PySem.W.Frag) (Wout : WX) (D : Ends) : List Hd → WX
  | [] => Wout
  | (c, none, ts) :: r => fun cls d σ H => ∃ b, PySem.W.exmOne K cls c = some b ∧ (b = true → ∀ a, H a = none → ts a cls d D σ H) ∧ (b = false → wMix K Wout D r cls d σ H)
  | (c, some i, ts) :: r => fun cls d σ H => ∃ b, PySem.W.exmOne K cls c = some b ∧ (b = true → ∀ a, H a = none → ts a cls d (endsAs i D) (List.set σ i (some (V.ref a))) H) ∧ (b = false → wMix K Wout D r cls d σ H)
inductive HdsM (X : Cx) : List ExceptHandler → List Hd → Prop where
  | nil : HdsM X [] []
  | pl {x : Str} {c : Value} {ts : Addr → Value → Option Addr → TS} {b₀ : Stmt} {suite : List Stmt} {np pos' : Pos} {hds : List ExceptHandler} {l : List Hd} (hc : Names X x c)
      (hs : ∀ (a : Addr) (oe : Obj) (cls : Value) (d : Option Addr) (pn : List (Addr × Obj)), Zc cls d oe → (∃ vs, oe.data = Data.fields vs) → PSs (X.suite a ((a, oe) :: pn)) (b₀ :: suite) (ts a cls d)) (r : HdsM X hds l) :
      HdsM X (ExceptHandler.ExceptHandler (some (Expr.Name x np)) none (b₀ :: suite) pos' :: hds) ((c, none, ts) :: l)
  | as {x n : Str} {i : Nat} {c : Value} {ts : Addr → Value → Option Addr → TS} {b₀ : Stmt} {suite : List Stmt} {np pos' : Pos} {hds : List ExceptHandler} {l : List Hd} (hc : Names X x c) (hi : X.N[i]? = some n) (hn : X.env.kindOf n = some NameKind.local)
      (hs : ∀ (a : Addr) (oe : Obj) (cls : Value) (d : Option Addr) (pn : List (Addr × Obj)), Zc cls d oe → (∃ vs, oe.data = Data.fields vs) → PSs (X.suite a ((a, oe) :: pn)) (b₀ :: suite) (ts a cls d)) (r : HdsM X hds l) :
      HdsM X (ExceptHandler.ExceptHandler (some (Expr.Name x np)) (some n) (b₀ :: suite) pos' :: hds) ((c, some i, ts) :: l)
section
variable {X : Cx}
theorem test_ok {x : Str} {c : Value} {np : Pos} {pins : List (Addr × Obj)} {σ : L2.St} {H : Hp} {s : Shared} {Q : Value → Shared → Prop} {E : Value → Shared → Prop} {a : Addr} {pn : List (Addr × Obj)} (S : L2.Inv (X.suite a pn) pins σ H s) (hc : Names X x c) (q : Q c s) :
    wpAny (model X.prog X.w) (X.A.mark (some (Value.ref a))) (eval (Expr.Name x np) X.env) Q E s := by
  obtain ⟨hg, hd, h⟩ := hc
  rcases h with hm | ⟨hm, hv, hn⟩
  · exact ld_glob S hg hm q hd
  · exact ld_blt S hg hm hv q hn hd
theorem hd_mix (hf : X.env.frame = some X.env.locals) (hs : X.stack = X.env :: X.outer) (hN : X.N.Nodup) {Wout : WX} (tk : Takes X Wout) {D : Ends} {pins : List (Addr × Obj)} {σ : L2.St} {H : Hp} {sI s : Shared} {B : Heap} {a : Addr} {cls : Value} {d : Option Addr}
    (J : L2.Inv X pins σ H sI) (nb : ∀ (b : Addr) (o : Obj), sI.heap.get? b = some o → ¬b ∈ frs X.stack → B.get? b = some o) (up : sI.heap.UpToSlots s.heap) (os : s.os = sI.os) (ag : AllBare s.gens)
    (fl : HandSPX.FlyingZ B (X.env :: X.outer) a (Zc cls d) s.heap) (na : H a = none) {hds : List ExceptHandler} {l : List Hd} (hh : HdsM X hds l) :
    wMix X.K Wout D l cls d σ H → wpAny (model X.prog X.w) X.A (handleBy (Value.ref a) X.env hds) (SP X pins D) X.xe s := by
  have ok := J.ok
  have land : ∀ {s2 : Shared}, HandSPX.FlyingZ B (X.env :: X.outer) a (Zc cls d) s2.heap → sI.heap.UpToSlots s2.heap → s2.os = sI.os → AllBare s2.gens → ∃ oe, s2.heap.get? a = some oe ∧ Zc cls d oe ∧ (∃ vs, oe.data = Data.fields vs) ∧ L2.Inv (X.suite a ((a, oe) :: (X.pn ++ pins))) [] σ H s2 := by
    intro s2 fl2 up2 os2 ag2
    have J3 : L2.Inv X pins σ H s2 := J.landed nb fl2.1 up2 os2 ag2
    obtain ⟨oe, vs, he, hz, hd⟩ := fl2.there
    have nfr : a ∉ frs (X.env :: X.outer) := by
      intro hm
      obtain ⟨_, o', e', hnf⟩ := Heap.FunFrames.mem fl2.2.2.1 hm
      rw [he] at e'
      cases e'
      exact hnf vs hd
    refine ⟨oe, he, hz, ⟨vs, hd⟩, J3.suite he hd na (fun z => nfr ?_) (fun hm => nfr ?_)⟩
    · exact List.mem_filterMap.mpr ⟨X.env, List.mem_cons_self, by rw [hf, z]⟩
    · obtain ⟨e, he2, q⟩ := List.mem_filterMap.mp hm
      exact List.mem_filterMap.mpr ⟨e, List.mem_cons_of_mem _ he2, q⟩
  obtain ⟨oe3, he3, hz3, hd3, S3⟩ := land fl up os ag
  induction hh with
  | nil =>
    intro w
    refine wpAny_handleBy_nil ?_
    obtain ⟨k1, k2, k3, oe, vs, T, oT, ts', he, hz, hd, h1, hr⟩ := id fl
    refine wpAny_bind (wpAny_field he hd h1 ?_)
    dsimp only
    rw [if_neg (by simp)]
    refine wpAny_bind ?_
    rw [hf]
    refine HandSPX.setFlight_upZ fl fun h4 hh4 up4 => wpAny_throw (tk (.ref a) _ ⟨a, B, sI, pins, σ, H, cls, d, rfl, J, nb, up.trans up4, .inr (.inr (by rw [hs]; exact hh4)), na, os, ag, w⟩)
  | @pl x c ts b₀ suite np pos' hds l hc hsu r ih =>
    rintro ⟨b, hb, hyes, hno⟩
    refine wpAny_handleBy_cons (codeAny_handlers_test (test_ok S3 hc ?_)) (by exact fun z => nomatch z)
    have LT : PySem.W.Looks (model X.prog X.w) s.heap (typeOf (Value.ref a)) cls := fun A Q E s k q => wpAny_typeOf_ref (k a oe3 he3) (by rw [hz3.1]; exact q)
    refine PySem.W.Looks.here (PySem.W.exm_one (M := model X.prog X.w) (K := X.K) (show X.K.In s.heap from S3.kIn) LT hb) ?_
    cases b with
    | false => exact ih (hno rfl)
    | true =>
      refine codeAny_handlers_suite (HandSPX.lands_againZ fl fun h4 fl4 up4 => ?_)
      obtain ⟨oe4, he4, hz4, hd4, S4⟩ := land (s2 := { heap := h4, gens := s.gens, drawn := s.drawn, toks := s.toks, os := s.os }) fl4 (up.trans up4) os ag
      refine wpAny_mono ((hsu a oe4 cls d (X.pn ++ pins) hz4 hd4).run [] _ σ H D S4 (hyes rfl a na)) (fun f s6 hsp => ?_) (fun _ _ z => z.elim)
      cases f with
      | next => obtain ⟨σ6, H6, S6, q6⟩ := hsp; exact ⟨σ6, H6, S6.unsuite ok, q6⟩
      | brk => obtain ⟨σ6, H6, S6, q6⟩ := hsp; exact ⟨σ6, H6, S6.unsuite ok, q6⟩
      | cont => obtain ⟨σ6, H6, S6, q6⟩ := hsp; exact ⟨σ6, H6, S6.unsuite ok, q6⟩
      | ret u => obtain ⟨v, σ6, H6, S6, rv, q6⟩ := hsp; exact ⟨v, σ6, H6, S6.unsuite ok, rv, q6⟩
  | @as x n i c ts b₀ suite np pos' hds l hc hi hn hsu r ih =>
    rintro ⟨b, hb, hyes, hno⟩
    refine wpAny_handleBy_cons (codeAny_handlers_test (test_ok S3 hc ?_)) (by exact fun z => nomatch z)
    have LT : PySem.W.Looks (model X.prog X.w) s.heap (typeOf (Value.ref a)) cls := fun A Q E s k q => wpAny_typeOf_ref (k a oe3 he3) (by rw [hz3.1]; exact q)
    refine PySem.W.Looks.here (PySem.W.exm_one (M := model X.prog X.w) (K := X.K) (show X.K.In s.heap from S3.kIn) LT hb) ?_
    cases b with
    | false => exact ih (hno rfl)
    | true =>
      refine codeAny_handlers_suite_as (HandSPX.lands_againZ fl fun h4 fl4 up4 => ?_)
      obtain ⟨oe4, he4, hz4, hd4, S4⟩ := land (s2 := { heap := h4, gens := s.gens, drawn := s.drawn, toks := s.toks, os := s.os }) fl4 (up.trans up4) os ag
      refine store_ok (X := X.suite a ((a, oe4) :: (X.pn ++ pins))) S4 hN hi (.inl hn) (v := V.ref a) rfl (fun s5 S5 => ?_) (.inr hn)
      refine wpAny_mono ((hsu a oe4 cls d (X.pn ++ pins) hz4 hd4).run [] s5 _ H (endsAs i D) S5 (hyes rfl a na)) (fun f s6 hsp => ?_) (fun _ _ z => z.elim)
      cases f with
      | next => obtain ⟨σ6, H6, S6, q6⟩ := hsp; exact gone_ok (S6.unsuite ok) hN hi hn fun s7 J7 => ⟨_, H6, J7, q6⟩
      | brk => obtain ⟨σ6, H6, S6, q6⟩ := hsp; exact gone_ok (S6.unsuite ok) hN hi hn fun s7 J7 => ⟨_, H6, J7, q6⟩
      | cont => obtain ⟨σ6, H6, S6, q6⟩ := hsp; exact gone_ok (S6.unsuite ok) hN hi hn fun s7 J7 => ⟨_, H6, J7, q6⟩
      | ret u => obtain ⟨v, σ6, H6, S6, rv, q6⟩ := hsp; exact gone_ok (S6.unsuite ok) hN hi hn fun s7 J7 => ⟨v, _, H6, J7, rv, q6⟩
theorem ps_try_mix {body : List Stmt} {h₀ : ExceptHandler} {hds : List ExceptHandler} {l : List Hd} {pos : Pos} {tb : WX → TS} {Wout : WX} (hs : X.stack = X.env :: X.outer) (hf : X.env.frame = some X.env.locals) (hN : X.N.Nodup) (tk : Takes X Wout)
    (hb : ∀ (W : WX) (pn : List (Addr × Obj)) (xe : Value → Shared → Prop), Takes (X.tr pn xe) W → PassesOwn (model X.prog X.w) X.A X.env xe → PSs (X.tr pn xe) body (tb W)) (hh : HdsM X (h₀ :: hds) l) :
    PS X (Stmt.Try body (h₀ :: hds) [] [] pos) fun D σ H => tb (wMix X.K Wout D l) D σ H := by
  refine ⟨fun pins s σ H D I h => ?_⟩
  have ok := I.ok
  have hfr : X.A.frames = some (X.env :: X.outer) := by rw [ok.frames, hs]
  refine wpAny_Try_except (wpAny_mono ((hb (wMix X.K Wout D l) (X.pn ++ pins) (fun e s₁ => wpAny (model X.prog X.w) X.A (noteFrame e X.env) (fun _ s₂ => wpAny (model X.prog X.w) X.A (setFlight e none) (fun _ s₃ => wpAny (model X.prog X.w) X.A (handleBy e X.env (h₀ :: hds)) (SP X pins D) X.xe s₃) X.xe s₂) X.xe s₁) ?_ PassesOwn.looking).run [] s σ H D (I.toTry _) h) ?_ (fun _ _ z => z))
  · rintro u s' ⟨a, B, sI, pins', σ', H', cls, d, rfl, J', nb, up, sky, na, os, ag, w⟩
    have J := J'.ofTry ok
    refine Sky.land Zc.steady hfr hf (by rw [← hs]; exact sky) fun h3 fl3 up3 => ?_
    exact hd_mix (s := { heap := h3, gens := s'.gens, drawn := s'.drawn, toks := s'.toks, os := s'.os }) hf hs hN tk J nb (up.trans up3) os ag fl3 na hh w
  · intro f s1 hsp
    cases f with
    | next => obtain ⟨σ6, H6, S6, q6⟩ := hsp; exact wpAny_execs_nil ⟨σ6, H6, S6.ofTry ok, q6⟩
    | brk => obtain ⟨σ6, H6, S6, q6⟩ := hsp; exact ⟨σ6, H6, S6.ofTry ok, q6⟩
    | cont => obtain ⟨σ6, H6, S6, q6⟩ := hsp; exact ⟨σ6, H6, S6.ofTry ok, q6⟩
    | ret u => obtain ⟨v, σ6, H6, S6, rv, q6⟩ := hsp; exact ⟨v, σ6, H6, S6.ofTry ok, rv, q6⟩
end
end PV
/-! # PV28: an exception made without arguments, whose `__init__` is the text's own -/
namespace PV
open PySem PySem.Spec PyProof.Rows L2
theorem mk_end1 {X : Cx} {pins : List (Addr × Obj)} {σ : L2.St} {H1 : Hp} {Q : XK} {hp hp2 h2 : Heap} {g1 g2 : Array GenState} {d1 d2 : Drawn} {t1 t2 : Nat} {os1 os2 : OsState} {a C : Addr} (T : Raises X (Value.ref C))
    (I1 : L2.Inv X pins σ H1 { heap := hp, gens := g1, drawn := d1, toks := t1, os := os1 }) (ha : hp.objs.size ≤ a) (k : ∀ (b : Addr) (o : Obj), hp.get? b = some o → hp2.get? b = some o)
    (un : Un (frs X.stack) [] (upd H1 a (exo a C none)) (upd H1 a (exo a C none)) hp2 h2) (hok : HOk X.prog X.w (upd H1 a (exo a C none)) h2) (ho : os2 = os1) (hb : AllBare g2) (q : Q (Value.ref C) none H1) :
    MkP X pins σ Q (Value.ref a) { heap := h2, gens := g2, drawn := d2, toks := t2, os := os2 } := by
  obtain ⟨t0, hoe⟩ := exo_at hok upd_same
  have hn : H1 a = none := HOk.fresh I1.hok ha
  obtain ⟨G, g1', g2'⟩ := restrict h2 fun b => decide (b ≠ a)
  have gk : ∀ b, b ≠ a → G.get? b = h2.get? b := fun b hb => g1' b (decide_eq_true hb)
  have ge : G.get? a = none := g2' a (by simp)
  have nha : ∀ {b : Addr} {o : Obj}, hp.get? b = some o → b ≠ a := fun z => Nat.ne_of_lt (Nat.lt_of_lt_of_le (Heap.lt_size z) ha)
  have up : ∀ {b : Addr}, b ≠ a → H1 b = none → upd H1 a (exo a C none) b = none := fun hb n => by rw [upd_ne hb]; exact n
  have U : Un (frs X.stack) [] H1 H1 hp G := {
    keep := fun b o z n hf hx => by rw [gk b (nha z)]; exact un.keep b o (k b o z) (up (nha z) n) hf hx
    slot := fun b o z n hf hx => by rw [gk b (nha z)]; exact un.slot b o (k b o z) (up (nha z) n) hf hx
    free := fun b o z n hx => n
    there := fun b o z hx => by rw [gk b (nha z)]; exact un.there b o (k b o z) hx
    tups := fun b xs z => z
    frzs := fun b o v z => z
    tbls := fun b ps z => ⟨#[], by rw [Array.append_empty]; exact z⟩ }
  have hok3 : HOk X.prog X.w H1 G := by
    intro b o z
    have hba : b ≠ a := fun e => by rw [e, hn] at z; cases z
    have ea : upd H1 a (exo a C none) a = some (exo a C none) := upd_same
    refine ObjOk.stay (hok b o (by rw [upd_ne hba]; exact z)) (fun c v hc y => ?_) (fun c hc => ?_) (fun c xs hc => ?_)
    · have hca : c ≠ a := by
        rcases hc with hc | hc
        · rw [hc]; exact hba
        · exact at_ne ea hc exo_own
      rw [gk c hca]; exact y
    · rw [upd_ne (at_ne ea hc exo_own)] at hc; exact hc
    · rw [upd_ne (at_ne ea hc exo_tup)] at hc; exact hc
  have J := I1.call' (ch := []) (s' := { heap := G, gens := g2, drawn := d2, toks := t2, os := os2 }) ho U hok3 hb fun b z => nomatch z
  exact ⟨a, _, _, _, H1, .ref C, none, rfl, J, fun b o z => by
    by_cases hba : b = a
    · have z : G.get? b = some o := z
      rw [hba, ge] at z; cases z
    · exact (gk b hba).symm.trans z, ge, hoe, ⟨rfl, rfl⟩, rfl, rfl, hn, rfl, hb, T, q⟩
def tMk0 (C : Addr) (sp : Sp) : L2.St → Hp → XK → Prop := fun σ H1 Q => ∀ a : Addr, H1 a = none →
  sp [V.ref a] (upd H1 a (exo a C none)) (fun v H2 => v = V.non ∧ H2 = upd H1 a (exo a C none) ∧ Q (Value.ref C) none H1) fun _ _ _ => False
theorem pmk_oex0 {X : Cx} {p pos : Pos} {CX : CXT} {x : Str} {C fI : Addr} {k : Nat} {fd : FuncData} {ps : List Str} {sp : Sp} (T : OexC X.K C) (iC : PySem.W.findIn X.K (Value.ref C) (Str.ofString "__init__") = some (some (Value.ref fI))) (tI : PySem.W.typeIn X.K (Value.ref fI) = some (Value.type "function"))
    (F1 : FnOk X.prog X.w X.K X.mg X.base CX k fI fd ps sp) (hr : Room (k + 1) X.A) (hb : Binds X.K fd ps []) (hx : Passes CX X fun _ _ _ => False) (hg : Gl X x) (hm : X.mg x = some (Value.ref C)) (hdb : (x == Str.ofString "__debug__") = false) :
    PMk X ((Expr.Name x p).Call [] [] pos) (tMk0 C sp) := by
  intro pins s σ H Q I h
  obtain ⟨nm, q, N, bs, bm, sn, sub, ab, col, dd, k0, k1, k2, k3, k5, hC, hbm⟩ := T.cls
  refine wpAny_Call_Name_kw (ld_glob I hg hm (PySem.W.callWith_K0 I.kIn T.kC ?_) hdb)
  obtain ⟨hp, g, dr, tk, os⟩ := s
  have I1 := I
  have hsz := Nat.le_succ hp.objs.size
  have hn := HOk.fresh I1.hok hsz
  have hq := h (hp.objs.size + 1) hn
  have kk : ∀ (b : Addr) (o : Obj), hp.get? b = some o → ((hp.push (PySem.W.kdv_tup [])).push (HandSPX.excO C hp.objs.size)).get? b = some o := fun b o e => Heap.get?_push_of_some (HandSPX.excO C hp.objs.size) (Heap.get?_push_of_some (PySem.W.kdv_tup []) e)
  have hget : ((hp.push (PySem.W.kdv_tup [])).push (HandSPX.excO C hp.objs.size)).get? (hp.objs.size + 1) = some (HandSPX.excO C hp.objs.size) := Heap.get?_push_at (by simp [Heap.size_push]) rfl
  have I2 := Inv.laid (t' := tk) I1 kk hsz (exo_ok (H := upd H (hp.objs.size + 1) (exo (hp.objs.size + 1) C none)) hget)
  have hl := F1.len _ _ _ _ hq
  refine wpAny_call (HandSPX.call_own F.excBase_ValueError (fun Y => HandSPX.refsVE_contains Y bm hbm) (I1.kIn C (excClassObj nm q C N bs bm true sn sub ab col dd k0 k1 k2 k3 k5 "ValueError.__new__") hC) (PySem.W.looks_findIn I1.kIn iC) (fun self => PySem.W.bind_fn I1.kIn self tI) (rest := []) (by simp) ?_)
  refine codeAny_mono (F1.run (X.A.under (Code.builtin "type.__call__" { pos := [Value.ref C] })) X.stack _ (upd H (hp.objs.size + 1) (exo (hp.objs.size + 1) C none)) { pos := [Value.ref (hp.objs.size + 1)] } [Value.ref (hp.objs.size + 1)] [V.ref (hp.objs.size + 1)] _ _ (Room.make hr C [] []) (Env0.make (Inv.env0 I2) C [] []) (hb _ [Value.ref (hp.objs.size + 1)] (Inv.kIn I2) (by rw [← hl]; rfl)) (Paired.cons rfl Paired.nil) hq) fun r s' hq' => ?_
  cases r with
  | error er => exact hx pins σ _ _ er s' I2 hq'
  | ok fl =>
    cases fl with
    | next => exact hq'.elim
    | brk => exact hq'.elim
    | cont => exact hq'.elim
    | ret u =>
      obtain ⟨v, H2, os2, bare2, un2, hok2, rv, ev, e2, q2⟩ := hq'
      subst ev
      subst e2
      obtain ⟨h2, g2, d2, t2, os'⟩ := s'
      exact ⟨rv, mk_end1 (raises_own T.exC T.tyC) I1 hsz kk un2 hok2 os2 bare2 q2⟩
end PV
/-! # PV29: raise, try -/
namespace PV
open PySem PySem.Spec PyProof.Rows L2
variable {Z : Wd} {n : Nat} {N : List Str} {sc : Scope} {W : WX} {pins : Nat}
/-- what an `__init__` promises -/
def IniSp (c : Str) (C : Addr) (sp : Sp) : Prop := match fieldOf c with
  | none => ∀ (a : Addr) (H : Hp) (Q : VK) (E : XK), H a = some (exo a C none) → Q .non H → sp [.ref a] H Q E
  | some f => ∀ (a : Addr) (y : V) (H : Hp) (Q : VK) (E : XK), H a = some (exo a C none) → (∀ dx, H dx = none → dx ≠ a → Q .non (upd (upd H dx (exd dx [(f, y)])) a (exo a C (some dx)))) → sp [.ref a, y] H Q E
structure ExR (Z : Wd) (c : Str) (C : Addr) : Prop where
  hm : Z.mg c = some (.ref C)
  oex : OexC Z.K C
  ini : ∃ fI fd ps sp, PySem.W.findIn Z.K (.ref C) "__init__" = some (some (.ref fI)) ∧ PySem.W.typeIn Z.K (.ref fI) = some (.type "function") ∧ Binds Z.K fd ps [] ∧ FnOk Z.P Z.w Z.K Z.mg Z.base (L2.CX Z.P Z.w) 2 fI fd ps sp ∧ IniSp c C sp
  xf : ∀ f, fieldOf c = some f → XfC Z.K C ∧ PySem.W.findIn Z.K (.ref C) f = some none
structure KnowX (Z : Wd) (T : Tab) : Prop where
  xs : Z.xs = T.exc
  ex : ∀ c ∈ T.exc, ∃ C, ExR Z c C
  exm : ∀ c ∈ T.exc, ∀ h ∈ T.exc, ∀ C B : Addr, Z.mg c = some (.ref C) → Z.mg h = some (.ref B) → PySem.W.exmOne Z.K (.ref C) (.ref B) = some (exmB h c)
theorem cx_no {P : Program} {w : World} {l : List Env} {H : Hp} {s : Shared} {e : Value} {s' : Shared} (h : L2.CX P w l H s (fun _ _ _ => False) e s') : False := by
  obtain ⟨_, _, _, _, _, _, _, _, _, _, _, _, h⟩ := h
  exact h
theorem SS.never {a : Stmt} : SS Z n N sc W pins a (fun _ => .bad) := ⟨fun _ _ _ => False, fun X g => ⟨fun pins s σ H D I q => q.elim⟩, fun σ H D F G s L ok p => p⟩
theorem room3 {X : Cx} (g : Gd Z n N sc W X) (h : 3 ≤ n) : Room (2 + 1) X.A := ⟨g.room.hd, by have := g.room.dp; omega, by have := g.room.un; omega⟩
/-- raise C(..) -/
def raiseA (sc : Scope) (c : Str) : Stmt → Option (List Expr)
  | .Raise (some (.Call (.Name x _) args [] _)) none _ => if x = c ∧ glB sc x = true ∧ (x == ("__debug__" : Str)) = false ∧ args.all noStar = true then some args else none
  | _ => none
theorem okEx_one {c f : Str} {ds : List PV.D} (h : okEx c ds = true) (hf : fieldOf c = some f) : ∃ y, ds = [y] := by
  unfold okEx at h
  rw [hf] at h
  match ds, h with
  | [y], _ => exact ⟨y, rfl⟩
theorem SS.raise0 {T : Tab} {c : Str} {a : Stmt} (kx : KnowX Z T) (hc : c ∈ T.exc) (e : raiseA sc c a = some []) (hf : fieldOf c = none) :
    SS Z n N sc W pins a (fun s => if 3 ≤ n then .ex c [] s else .bad) := by
  by_cases h3 : 3 ≤ n
  case neg => rw [funext fun s => if_neg h3]; exact SS.never
  rw [funext fun s => if_pos h3]
  obtain ⟨C, X0⟩ := kx.ex c hc
  obtain ⟨fI, fd, ps, sp, i1, i2, i3, i4, i5⟩ := X0.ini
  have hcx : c ∈ Z.xs := by rw [kx.xs]; exact hc
  unfold raiseA at e
  split at e
  case h_2 => cases e
  rename_i x p args p2 pos
  split at e
  case isFalse => cases e
  rename_i q
  obtain ⟨rfl, c1, c0, c2⟩ := q
  cases e
  unfold IniSp at i5
  rw [hf] at i5
  refine ⟨_, fun X g => ps_raise g.g.calm g.g.tk (pmk_oex0 (by rw [g.g.K]; exact X0.oex) (by rw [g.g.K]; exact i1) (by rw [g.g.K]; exact i2) (by rw [g.g.prog, g.g.w, g.g.K, g.g.mg, g.g.base]; exact i4) (room3 g.g h3) (by rw [g.g.K]; exact i3) (fun _ _ _ _ _ _ _ z => (cx_no z).elim) (gl_of g.g c1) (by rw [g.g.mg]; exact X0.hm) c0), ?_⟩
  intro σ H D F G s L ok p
  intro a ha
  exact i5 a _ _ _ upd_same ⟨rfl, rfl, p σ F H L (.ref C) none Stp.refl ok PinS.refl ⟨hcx, C, X0.hm, rfl, .inl ⟨hf, rfl, rfl⟩⟩⟩
theorem SS.raise1 {T : Tab} {c : Str} {a : Stmt} {e1 : Expr} {fs : Sl → R (List D)} {f : Str} (kx : KnowX Z T) (hc : c ∈ T.exc) (h : SA Z n N sc W [e1] fs) (e : raiseA sc c a = some [e1]) (hf : fieldOf c = some f) :
    SS Z n N sc W pins a (fun s => if 3 ≤ n then (fs s).thenS fun ds s => if okEx c ds = true then .ex c ds s else .bad else .bad) := by
  by_cases h3 : 3 ≤ n
  case neg => rw [funext fun s => if_neg h3]; exact SS.never
  rw [funext fun s => if_pos h3]
  obtain ⟨C, X0⟩ := kx.ex c hc
  obtain ⟨fI, fd, ps, sp, i1, i2, i3, i4, i5⟩ := X0.ini
  have hcx : c ∈ Z.xs := by rw [kx.xs]; exact hc
  unfold raiseA at e
  split at e
  case h_2 => cases e
  rename_i x p args p2 pos
  split at e
  case isFalse => cases e
  rename_i q
  obtain ⟨rfl, c1, c0, c2⟩ := q
  cases e
  obtain ⟨ts, h1, h2⟩ := h
  unfold IniSp at i5
  rw [hf] at i5
  have s1 : noStar e1 = true := by simpa using c2
  refine ⟨_, fun X g => ps_raise g.g.calm g.g.tk (pmk_oex (ds := []) (dvs := []) (by rw [g.g.K]; exact X0.oex) (by rw [g.g.K]; exact i1) (by rw [g.g.K]; exact i2) (by rw [g.g.prog, g.g.w, g.g.K, g.g.mg, g.g.base]; exact i4) (room3 g.g h3) (by rw [g.g.K]; exact i3) .nil (fun _ _ _ _ _ _ _ z => (cx_no z).elim) (gl_of g.g c1) (by rw [g.g.mg]; exact X0.hm) ((h1 X g.g).pa c2) c0 (star_cons s1) (star_none rfl)), ?_⟩
  intro σ H D F G s L ok p
  dsimp only at p ⊢
  refine h2 σ H _ F G s L ok ?_
  cases ef : fs s with
  | bad => rw [ef] at p; exact p
  | ex c' as s1 => rw [ef] at p; exact postX_S p
  | ok ds s1 =>
    rw [ef] at p
    intro vs F1 H1 L1 st rps ok1
    have p : PostS Z W pins σ F H G D (if okEx x ds = true then .ex x ds s1 else .bad) := p
    split at p
    case isFalse => exact p.elim
    rename_i ho
    obtain ⟨y, rfl⟩ := okEx_one ho hf
    cases rps with
    | cons r1 r2 =>
      cases r2
      rename_i v
      refine ⟨by simp, fun a ha => ?_⟩
      refine i5 a v _ _ _ upd_same fun dx hd hda => ?_
      have hd1 : H1 dx = none := by rw [← hd, upd_ne hda]
      refine ⟨rfl, dx, [(f, v)], upd_same, by rw [upd_ne hda, upd_same], hd1, ?_⟩
      have eH : upd (del (upd (upd (upd H1 a (exo a C none)) dx (exd dx [(f, v)])) a (exo a C (some dx))) a) dx (HO.xd [(f, v)]) = upd H1 dx (HO.xd [(f, v)]) := by
        funext b
        by_cases h1 : b = dx
        · rw [h1, upd_same, upd_same]
        · rw [upd_ne h1, upd_ne h1]
          by_cases h2 : b = a
          · rw [h2, del_same, ha]
          · rw [del_ne h2, upd_ne h2, upd_ne h1, upd_ne h2]
      rw [eH]
      have st2 : Stp F1 H1 (with_ G L1) F1 (upd H1 dx (HO.xd [(f, v)])) := Stp.new ok1.wf (fun a h => (ok1.all a h).1) hd1
      exact p σ F1 _ L1 (.ref C) (some dx) (st.trans (st2.weak fun _ z => .inl z)) (ok1.step st2 fun a h => st2.trk a (ok1.wf a h)) PinS.refl ⟨hcx, C, X0.hm, rfl, .inr ⟨f, _, dx, v, hf, rfl, rfl, upd_same, r1.stp st2⟩⟩
/-! ### try -/
theorem Rs.setOff {K : PySem.W.Frag} {F : Addr → Prop} {H : Hp} {o : Option V} : ∀ {σ : L2.St} {s : Sl} {L : List Addr} {i : Nat}, Rs K F H σ s L → s[i]? = some none → Rs K F H (σ.set i o) s L
  | _, _, _, i, .nil, e => by simp at e
  | _, _, _, 0, .off r, e => .off r
  | _, _, _, 0, .on h r, e => by simp at e
  | _, _, _, i + 1, .off r, e => .off (Rs.setOff r (by simpa using e))
  | _, _, _, i + 1, .on h r, e => .on h (Rs.setOff r (by simpa using e))
theorem Ok.setOff {K : PySem.W.Frag} {F : Addr → Prop} {H : Hp} {G : Addr → Prop} {σ : L2.St} {s : Sl} {L : List Addr} {i : Nat} {o : Option V} (k : Ok K F H G σ s L) (e : s[i]? = some none) : Ok K F H G (σ.set i o) s L := ⟨k.wf, k.rep.setOff e, k.nd, k.gd⟩
theorem emptyAt_some {s : Sl} {i : Nat} (h : emptyAt s i = true) : s[i]? = some none := by
  unfold emptyAt at h
  split at h
  · assumption
  · cases h
def konA' : D → Expr → Bool
  | .non, .Constant .none _ _ => true
  | .bl b, .Constant (.bool c) _ _ => b == c
  | .int i, .Constant (.int j) _ _ => decide (i = j)
  | .str x, .Constant (.str y) _ _ => decide (x = y)
  | _, _ => false
/-- an atom of a suite -/
def haA (N : List Str) (sc : Scope) (c : Str) (i : Option Nat) : HA → Expr → Bool
  | .k d, a => konA' d a
  | .fld f, a => match i, a with
    | some i, .Attribute o g _ => decide (g = f) && (decide (fieldOf c = some f) && nameAt N sc i o)
    | _, _ => false
def haAs (N : List Str) (sc : Scope) (c : Str) (i : Option Nat) : List HA → List Expr → Bool
  | [], [] => true
  | h :: r, a :: as => haA N sc c i h a && haAs N sc c i r as
  | _, _ => false
def heA' (N : List Str) (sc : Scope) (c : Str) (i : Option Nat) : HE → Expr → Bool
  | .at_ x, a => haA N sc c i x a && (match a with | .Attribute _ _ _ => true | .Constant _ _ _ => true | _ => false)
  | .tup l, .Tuple es _ _ => haAs N sc c i l es && es.all noStar
  | _, _ => false
/-- what stands behind a clause's test: the data and where they lie -/
structure Caught (Z : Wd) (c : Str) (C : Addr) (c' : Str) (as : List D) (F : Addr → Prop) (H : Hp) (cls : Value) (d : Option Addr) : Prop where
  fl : ∀ f, fieldOf c = some f → c' = c ∧ cls = .ref C ∧ ∃ y dd v, as = [y] ∧ d = some dd ∧ H dd = some (.xd [(f, v)]) ∧ Rp Z.K F H v y
section
variable {i : Option Nat} {c : Str} {C : Addr}
/-- an atom's reading tells a value that is the atom's data, the heap as it is -/
theorem ha_ok {x : HA} {a : Expr} (hC : ∀ f, fieldOf c = some f → XfC Z.K C ∧ PySem.W.findIn Z.K (.ref C) f = some none) (h : haA N sc c i x a = true) : ∃ t : Addr → Value → Option Addr → TE,
    (∀ X, Gd Z n N sc W X → ∀ b oe cls d pn, Zc cls d oe → (∃ vs, oe.data = Data.fields vs) → PE (X.suite b ((b, oe) :: pn)) a (t b cls d)) ∧
    ∀ c' b cls d σ H Q F as y, (∀ k, i = some k → σ[k]? = some (some (V.ref b))) → Caught Z c C c' as F H cls d → heA c' as x = some y → (∀ v, Rp Z.K F H v y → Q v H) → t b cls d σ H Q := by
  cases x with
  | k D0 =>
    have one : ∀ v : V, (∀ X : Cx, PE X a (tC v)) → (∀ K F H, Rp K F H v D0) → ∃ t : Addr → Value → Option Addr → TE, (∀ X, Gd Z n N sc W X → ∀ b oe cls d pn, Zc cls d oe → (∃ vs, oe.data = Data.fields vs) → PE (X.suite b ((b, oe) :: pn)) a (t b cls d)) ∧
        ∀ c' b cls d σ H Q F as y, (∀ k, i = some k → σ[k]? = some (some (V.ref b))) → Caught Z c C c' as F H cls d → heA c' as (.k D0) = some y → (∀ v, Rp Z.K F H v y → Q v H) → t b cls d σ H Q := by
      intro v hp hr
      refine ⟨fun _ _ _ => tC v, fun X g b oe cls d pn _ _ => hp _, fun c' b cls d σ H Q F as y _ _ e q => ?_⟩
      cases e
      exact q v (hr _ _ _)
    have h : konA' D0 a = true := h
    unfold konA' at h
    split at h
    · exact one .non (fun X => pe_non) (fun _ _ _ => .non)
    · obtain rfl := eq_of_beq h
      exact one _ (fun X => pe_bl) (fun _ _ _ => .bl _)
    · obtain rfl := of_decide_eq_true h
      exact one _ (fun X => pe_int) (fun _ _ _ => .int _)
    · obtain rfl := of_decide_eq_true h
      exact one _ (fun X => pe_str) (fun _ _ _ => .str _)
    · cases h
  | fld f =>
    cases i with
    | none => cases h
    | some k =>
    obtain ⟨o, g, pos, rfl⟩ : ∃ o g pos, a = .Attribute o g pos := by cases a <;> first | exact ⟨_, _, _, rfl⟩ | cases h
    have h : (decide (g = f) && (decide (fieldOf c = some f) && nameAt N sc k o)) = true := h
    simp only [Bool.and_eq_true, decide_eq_true_eq] at h
    obtain ⟨rfl, h2, h3⟩ := h
    obtain ⟨x1, x2⟩ := hC g h2
    refine ⟨fun b cls d => tXf b cls d C g (tVar k), fun X g0 b oe cls d pn hz hf => ?_, fun c' b cls d σ H Q F as y hi ct e q => ?_⟩
    · refine pe_xf (by show XfC X.K C; rw [g0.K]; exact x1) (by show PySem.W.findIn X.K _ _ = _; rw [g0.K]; exact x2) hz hf ?_ ?_
      · cases o with
        | Name z p =>
          simp only [nameAt, Bool.and_eq_true, decide_eq_true_eq, dbgB, Bool.not_eq_true'] at h3
          obtain ⟨⟨h31, h32⟩, h33, h34⟩ := h3
          exact pe_var (by show X.N[k]? = _; rw [g0.hN]; exact h31) (by show Vis X.env.scope _; rw [g0.hsc]; exact vis_of h32) h33 h34
        | _ => cases h3
      · cases o with
        | Name z p => rfl
        | _ => cases h3
    · obtain ⟨rfl, hcls, y', dd, v, rfl, rfl, hd, r⟩ := ct.fl g h2
      have e : (if fieldOf c' = some g then [y'].head? else none) = some y := e
      rw [if_pos h2] at e
      cases e
      exact ⟨_, hi k rfl, rfl, hcls, dd, _, v, rfl, hd, by simp, q v r⟩
theorem has_ok (hC : ∀ f, fieldOf c = some f → XfC Z.K C ∧ PySem.W.findIn Z.K (.ref C) f = some none) : ∀ {l : List HA} {as : List Expr}, haAs N sc c i l as = true → ∃ t : Addr → Value → Option Addr → List TE,
    (∀ X, Gd Z n N sc W X → ∀ b oe cls d pn, Zc cls d oe → (∃ vs, oe.data = Data.fields vs) → PEs (X.suite b ((b, oe) :: pn)) as (t b cls d)) ∧
    ∀ c' b cls d σ H Q F ds ys, (∀ k, i = some k → σ[k]? = some (some (V.ref b))) → Caught Z c C c' ds F H cls d → heAs c' ds l = some ys → (∀ vs, Rps Z.K F H vs ys → Q vs H) → tAll (t b cls d) σ H Q
  | [], [], _ => ⟨fun _ _ _ => [], fun X g b oe cls d pn _ _ => .nil, fun c' b cls d σ H Q F ds ys _ _ e q => by
    cases e
    exact q [] .nil⟩
  | h :: r, a :: as, hh => by
    simp only [haAs, Bool.and_eq_true] at hh
    obtain ⟨t, t1, t2⟩ := ha_ok (n := n) (W := W) hC hh.1
    obtain ⟨ts, s1, s2⟩ := has_ok hC hh.2
    refine ⟨fun b cls d => t b cls d :: ts b cls d, fun X g b oe cls d pn hz hf => .cons (t1 X g b oe cls d pn hz hf) (s1 X g b oe cls d pn hz hf), fun c' b cls d σ H Q F ds ys hi ct e q => ?_⟩
    unfold heAs at e
    cases e1 : heA c' ds h with
    | none => rw [e1] at e; cases e
    | some y =>
      rw [e1] at e
      cases e2 : heAs c' ds r with
      | none => rw [e2] at e; cases e
      | some ys2 =>
        rw [e2] at e
        cases e
        exact t2 c' b cls d σ H _ F ds y hi ct e1 fun v rv => s2 c' b cls d σ H _ F ds ys2 hi ct e2 fun vs rvs => q (v :: vs) (.cons rv rvs)
  | [], _ :: _, h => by cases h
  | _ :: _, [], h => by cases h
theorem he_ok {x : HE} {a : Expr} (hC : ∀ f, fieldOf c = some f → XfC Z.K C ∧ PySem.W.findIn Z.K (.ref C) f = some none) (h : heA' N sc c i x a = true) : ∃ t : Addr → Value → Option Addr → TE,
    (∀ X, Gd Z n N sc W X → ∀ b oe cls d pn, Zc cls d oe → (∃ vs, oe.data = Data.fields vs) → PE (X.suite b ((b, oe) :: pn)) a (t b cls d)) ∧
    ∀ c' b cls d σ H Q F G ds y, (∀ a, F a → H a ≠ none) → (∀ a, G a → H a ≠ none) → (∀ k, i = some k → σ[k]? = some (some (V.ref b))) → Caught Z c C c' ds F H cls d → heV c' ds x = some y →
      (∀ v H', Stp F H G F H' → Rp Z.K F H' v y → Q v H') → t b cls d σ H Q := by
  cases x with
  | at_ x =>
    have h : (haA N sc c i x a && _) = true := h
    rw [Bool.and_eq_true] at h
    obtain ⟨t, t1, t2⟩ := ha_ok (n := n) (W := W) hC h.1
    exact ⟨t, t1, fun c' b cls d σ H Q F G ds y _ _ hi ct e q => t2 c' b cls d σ H Q F ds y hi ct e fun v rv => q v H Stp.refl rv⟩
  | tup l =>
    cases a with
    | Tuple es k pos =>
      have h : (haAs N sc c i l es && es.all noStar) = true := h
      rw [Bool.and_eq_true] at h
      obtain ⟨ts, s1, s2⟩ := has_ok (n := n) (W := W) hC h.1
      refine ⟨fun b cls d => tTup (tAll (ts b cls d)), fun X g b oe cls d pn hz hf => pe_tup ((s1 X g b oe cls d pn hz hf).pa h.2), fun c' b cls d σ H Q F G ds y wf hg hi ct e q => ?_⟩
      have e : ((heAs c' ds l).bind fun ds => if ds.length ≤ szl then some (D.tup ds) else none) = some y := e
      cases e2 : heAs c' ds l with
      | none => rw [e2] at e; cases e
      | some ys =>
        rw [e2] at e
        have e : (if ys.length ≤ szl then some (D.tup ys) else none) = some y := e
        split at e
        case isFalse => cases e
        rename_i hz
        cases e
        refine s2 c' b cls d σ H _ F ds ys hi ct e2 fun vs rvs => ?_
        have hz2 : vs.length ≤ sizeLine := by rw [rvs.len, sizeLine_eq]; exact hz
        refine ⟨hz2, fun p hp => ?_⟩
        have st : Stp F H G F (upd H p (.tup vs)) := Stp.new wf hg hp
        exact q _ _ st (.tup upd_same hz2 (rvs.stp st))
    | _ => cases h
end
def hdI (N : List Str) (sc : Scope) : Option Nat → Option Str → Bool
  | none, none => true
  | some i, some nm => decide (N[i]? = some nm) && decide (sc.names.lookup nm = some .local)
  | _, _ => false
def hdA (T : Tab) (N : List Str) (sc : Scope) (h : Hdl) : ExceptHandler → Bool
  | .ExceptHandler (some (.Name x _)) name [.Assign [.Name y _] e _] _ => decide (x = h.c) && (T.exc.contains h.c && (glB sc x && (!(x == ("__debug__" : Str)) && (hdI N sc h.i name && (decide (N[h.j]? = some y) && (locB sc y && heA' N sc h.c h.i h.he e))))))
  | _ => false
def hdsA (T : Tab) (N : List Str) (sc : Scope) : List Hdl → List ExceptHandler → Bool
  | [], [] => true
  | h :: r, a :: as => hdA T N sc h a && hdsA T N sc r as
  | _, _ => false
theorem fld_mark : fieldOf "MarkError" = none := by decide +kernel
theorem exmB_fld {h c f : Str} (e : exmB h c = true) (hf : fieldOf h = some f) : c = h := by
  unfold exmB at e
  rw [Bool.or_eq_true, decide_eq_true_eq, decide_eq_true_eq] at e
  rcases e with e | e
  · exact e.symm
  · rw [e, fld_mark] at hf; cases hf
def tsOf (t : Addr → Value → Option Addr → TE) (j : Nat) : Addr → Value → Option Addr → TS := fun a cls d => tSeq (tAsg (t a cls d) (gName j)) tNext
theorem hds_ok {T : Tab} (kx : KnowX Z T) (nd : N.Nodup) : ∀ {hs : List Hdl} {hds : List ExceptHandler}, hdsA T N sc hs hds = true → ∃ l : List Hd,
    (∀ X, GdS Z n N sc W X → HdsM X hds l) ∧ ∀ D σ H F G s L c' as cls d, Ok Z.K F H G σ s L → Z.xr F H c' as cls d → PostS Z W pins σ F H G D (evH pins c' as hs s) → wMix Z.K W D l cls d σ H
  | [], [], _ => ⟨[], fun X g => .nil, fun D σ H F G s L c' as cls d ok x p => p σ F H L cls d Stp.refl ok PinS.refl x⟩
  | [], _ :: _, h => by cases h
  | _ :: _, [], h => by cases h
  | h :: r, a :: as0, hh => by
    have hh : (hdA T N sc h a && hdsA T N sc r as0) = true := hh
    rw [Bool.and_eq_true] at hh
    obtain ⟨h1, h2⟩ := hh
    obtain ⟨l, l1, l2⟩ := hds_ok (T := T) kx nd h2
    unfold hdA at h1
    split at h1
    case h_2 => cases h1
    rename_i x np name y py e pe pos'
    simp only [Bool.and_eq_true, decide_eq_true_eq, Bool.not_eq_true'] at h1
    obtain ⟨rfl, a1, a2, a3, a4, a5, a6, a7⟩ := h1
    have a1 : h.c ∈ T.exc := by simpa using a1
    obtain ⟨B, XB⟩ := kx.ex _ a1
    obtain ⟨t, t1, t2⟩ : ∃ t : Addr → Value → Option Addr → TE, (∀ X, Gd Z n N sc W X → ∀ b oe cls d pn, Zc cls d oe → (∃ vs, oe.data = Data.fields vs) → PE (X.suite b ((b, oe) :: pn)) e (t b cls d)) ∧
        ∀ c' b cls d σ H Q F G ds y, (∀ a, F a → H a ≠ none) → (∀ a, G a → H a ≠ none) → (∀ k, h.i = some k → σ[k]? = some (some (V.ref b))) → Caught Z h.c B c' ds F H cls d → heV c' ds h.he = some y →
          (∀ v H', Stp F H G F H' → Rp Z.K F H' v y → Q v H') → t b cls d σ H Q := he_ok (n := n) (W := W) XB.xf a7
    have hsw : ∀ (l : Nat) (env : Env), swapsWith e (some (.Name y py)) l env = pure false := by
      intro l env
      cases e <;> first | rfl | (cases hx : h.he <;> rw [hx] at a7 <;> first | cases a7 | (simp [heA'] at a7))
    have suite : ∀ X, GdS Z n N sc W X → ∀ (a : Addr) (oe : Obj) (cls : Value) (d : Option Addr) (pn : List (Addr × Obj)), Zc cls d oe → (∃ vs, oe.data = Data.fields vs) → PSs (X.suite a ((a, oe) :: pn)) [.Assign [.Name y py] e pe] (tsOf t h.j a cls d) := by
      intro X g a oe cls d pn hz hf
      exact pss_cons (ps_set (X := X.suite a ((a, oe) :: pn)) (by show X.N.Nodup; rw [g.g.hN]; exact nd) (by show X.N[h.j]? = _; rw [g.g.hN]; exact a5) (by show L2.Loc X.env.scope y; rw [g.g.hsc]; exact loc_of a6) (t1 X g.g a oe cls d pn hz hf) (hsw _ _) (g.fnl y (loc_of a6))) pss_nil
    have nm : ∀ X, GdS Z n N sc W X → Names X h.c (.ref B) := fun X g => ⟨gl_of g.g a2, a3, .inl (by rw [g.g.mg]; exact XB.hm)⟩
    have exm : ∀ F H c' as cls d, Z.xr F H c' as cls d → PySem.W.exmOne Z.K cls (.ref B) = some (exmB h.c c') ∧ (exmB h.c c' = true → Caught Z h.c B c' as F H cls d) := by
      rintro F H c' as cls d ⟨hx, C, hm, rfl, hx2⟩
      refine ⟨kx.exm c' (by rw [← kx.xs]; exact hx) h.c a1 C B hm XB.hm, fun he => ⟨fun f hf => ?_⟩⟩
      have ec := exmB_fld he hf
      subst ec
      have eC : (Value.ref C) = .ref B := Option.some.inj (hm.symm.trans XB.hm)
      refine ⟨rfl, eC, ?_⟩
      rcases hx2 with ⟨hn, _⟩ | ⟨f', y, dd, v, hf', rfl, rfl, hd, rv⟩
      · rw [hn] at hf; cases hf
      · rw [hf'] at hf; cases hf; exact ⟨y, dd, v, rfl, rfl, hd, rv⟩
    cases hi : h.i with
    | none =>
      rw [hi] at a4
      cases name with
      | some => cases a4
      | none =>
      refine ⟨(.ref B, none, tsOf t h.j) :: l, fun X g => .pl (nm X g) (suite X g) (l1 X g), fun D σ H F G s L c' as cls d ok x p => ?_⟩
      obtain ⟨q1, q2⟩ := exm F H c' as cls d x
      refine ⟨_, q1, fun hb a ha => ?_, fun hb => l2 D σ H F G s L c' as cls d ok x ?_⟩
      · unfold evH at p
        rw [if_pos hb, hi, if_pos rfl] at p
        cases ev : heV c' as h.he with
        | none => rw [ev] at p; exact p.elim
        | some v0 =>
          rw [ev] at p
          have p : PostS Z W pins σ F H G D (match bindT pins (.nm h.j) (.d v0) s with | some s => .nx s | none => .bad) := p
          refine t2 c' a cls d σ H _ F (with_ G L) as v0 ok.wf (fun a h => (ok.all a h).1) (fun k hk => by rw [hi] at hk; cases hk) (q2 hb) ev fun v H' st rv => ?_
          have ok1 := ok.step st fun a h => st.trk a (ok.wf a h)
          cases eb : bindT pins (.nm h.j) (.d v0) s with
          | none => rw [eb] at p; exact p.elim
          | some s2 =>
            rw [eb] at p
            exact simG_nm σ H' D.nx F G [] s s2 L v (.d v0) ok1.nil ⟨.d rv, List.nodup_nil, fun _ z => nomatch z⟩ eb fun σ1 F2 L2 st3 ok3 ag => p σ1 F2 H' L2 ((st.weak fun _ z => .inl z).trans st3) ok3 ag.pinS
      · unfold evH at p
        rw [if_neg (by rw [hb]; exact Bool.false_ne_true)] at p
        exact p
    | some i =>
      rw [hi] at a4
      cases name with
      | none => cases a4
      | some nm0 =>
      simp only [hdI, Bool.and_eq_true, decide_eq_true_eq] at a4
      refine ⟨(.ref B, some i, tsOf t h.j) :: l, fun X g => .as (nm X g) (by rw [g.g.hN]; exact a4.1) (by show X.env.scope.names.lookup nm0 = _; rw [g.g.hsc]; exact a4.2) (suite X g) (l1 X g), fun D σ H F G s L c' as cls d ok x p => ?_⟩
      obtain ⟨q1, q2⟩ := exm F H c' as cls d x
      refine ⟨_, q1, fun hb a ha => ?_, fun hb => l2 D σ H F G s L c' as cls d ok x ?_⟩
      · unfold evH at p
        rw [if_pos hb, hi] at p
        have p : PostS Z W pins σ F H G D (if (emptyAt s i && (decide (i ≠ h.j) && decide (pins ≤ i))) = true then
          (match heV c' as h.he with
          | some v => (match bindT pins (.nm h.j) (.d v) s with
            | some s => .nx s
            | none => .bad)
          | none => .bad) else .bad) := p
        split at p
        case isFalse => exact p.elim
        rename_i hg
        simp only [Bool.and_eq_true, decide_eq_true_eq] at hg
        obtain ⟨g1, g2, g3⟩ := hg
        have g1 := emptyAt_some g1
        have hil : i < σ.length := by
          rw [ok.rep.len]
          exact (List.getElem?_eq_some_iff.mp g1).1
        cases ev : heV c' as h.he with
        | none => rw [ev] at p; exact p.elim
        | some v0 =>
          rw [ev] at p
          have p : PostS Z W pins σ F H G D (match bindT pins (.nm h.j) (.d v0) s with | some s => .nx s | none => .bad) := p
          have okA := ok.setOff (o := some (V.ref a)) g1
          refine t2 c' a cls d (σ.set i (some (V.ref a))) H _ F (with_ G L) as v0 okA.wf (fun a h => (okA.all a h).1) (fun k hk => by rw [hi] at hk; cases hk; rw [List.getElem?_set_self hil]) (q2 hb) ev fun v H' st rv => ?_
          have ok1 := okA.step st fun a h => st.trk a (okA.wf a h)
          cases eb : bindT pins (.nm h.j) (.d v0) s with
          | none => rw [eb] at p; exact p.elim
          | some s2 =>
            rw [eb] at p
            refine simG_nm (σ.set i (some (V.ref a))) H' _ F G [] s s2 L v (.d v0) ok1.nil ⟨.d rv, List.nodup_nil, fun _ z => nomatch z⟩ eb fun σ1 F2 L2 st3 ok3 ag => ?_
            have e2 : s2[i]? = some none := by
              unfold bindT at eb
              split at eb
              · cases eb
                rw [List.getElem?_set_ne (Ne.symm g2)]
                exact g1
              · cases eb
            refine p (σ1.set i none) F2 H' L2 ((st.weak fun _ z => .inl z).trans st3) (ok3.setOff e2) ⟨?_, fun k hk => ?_⟩
            · rw [List.length_set, ag.pinS.len, List.length_set]
            · rw [List.getElem?_set_ne (by omega), ag.pinS.pin k hk, List.getElem?_set_ne (by omega)]
      · unfold evH at p
        rw [if_neg (by rw [hb]; exact Bool.false_ne_true)] at p
        exact p
theorem SS.tryx {T : Tab} (kx : KnowX Z T) (nd : N.Nodup) {b : List Stmt} {k : Sl → O} {hs : List Hdl} {hds : List ExceptHandler} {pos : Pos} (hb : ∀ W, SSs Z n N sc W pins b k) (hh : hdsA T N sc hs hds = true) (hne : hds.isEmpty = false) :
    SS Z n N sc W pins (.Try b hds [] [] pos) (fun s => match k s with
      | .ex c as s => evH pins c as hs s
      | o => o) := by
  cases hds with
  | nil => cases hne
  | cons h0 hds =>
  obtain ⟨l, l1, l2⟩ := hds_ok (n := n) (W := W) (pins := pins) kx nd hh
  refine ⟨fun D σ H => (hb (wMix Z.K W D l)).choose D σ H, fun X g => ?_, fun σ H D F G s L ok p => ?_⟩
  · have q := ps_try_mix (pos := pos) (tb := fun W => (hb W).choose) g.stk g.frm (by rw [g.g.hN]; exact nd) g.g.tk (fun W pn xe tk own => (hb W).choose_spec.1 _ ⟨⟨g.g.prog, g.g.w, g.g.K, g.g.mg, g.g.base, g.g.hN, nd, g.g.hsc, g.g.calm, g.g.room, tk, own⟩, g.fnl, g.stk, g.frm⟩) (l1 X g)
    rw [g.g.K] at q
    exact q
  · refine (hb (wMix Z.K W D l)).choose_spec.2 σ H D F G s L ok ?_
    dsimp only at p
    cases e : k s with
    | nx s1 => rw [e] at p; exact p
    | brk s1 => rw [e] at p; exact p
    | cnt s1 => rw [e] at p; exact p
    | ret m s1 => rw [e] at p; exact p
    | bad => rw [e] at p; exact p
    | ex c as s1 =>
      rw [e] at p
      intro σ' F' H' L' cls d st ok1 ps x
      exact l2 D σ' H' F' G s1 L' c as cls d ok1 x (PostS.trans p st ps)
/-! ### a, b = e1, e2, the values kept as they are -/
theorem SS.parm {ts : List Expr} {a b : Expr} {kt k2 : Nat} {pt p2 pos : Pos} {i j : Nat} {fa fb : Sl → R M} (hk : sc.kind = .function) (ha : SE Z n N sc W a fa) (hb : SE Z n N sc W b fb) (hp : parB sc ts [a, b] = true) (hn : nm2 N [i, j] ts = true) :
    SS Z n N sc W pins (.Assign [.Tuple ts kt pt] (.Tuple [a, b] k2 p2) pos) (fun s => (fa s).thenS fun m s => (fb s).thenS fun m2 s => match bindT pins (.nm i) m s with
      | some s => (match bindT pins (.nm j) m2 s with
        | some s => .nx s
        | none => .bad)
      | none => .bad) := by
  unfold nm2 at hn
  split at hn
  case h_2 => cases hn
  rename_i x px y py
  simp only [Bool.and_eq_true, decide_eq_true_eq] at hn
  obtain ⟨⟨n1, n2⟩, n3⟩ := hn
  obtain ⟨⟨t1, a1, a2⟩, _⟩ := ha
  obtain ⟨⟨t2, b1, b2⟩, _⟩ := hb
  obtain ⟨e1, l1, l2⟩ := parN_two hp
  have hv : [a, b].all noStar = true := by
    unfold parB at hp
    simp only [Bool.and_eq_true] at hp
    exact hp.2.2.2.2.2.2
  refine ⟨tPar i j (tAll [t1, t2]), fun X gx => ?_, ?_⟩
  · have hw := swapped_some (env := X.env) (pt := pt) (kt := kt) (k2 := k2) (p2 := p2) (by unfold Env.blockKind; rw [gx.g.hsc, hk]; rfl) (by rw [gx.g.hsc]; exact hp)
    rw [gx.g.hsc, e1] at hw
    exact ps_par gx.g.calm (by rw [gx.g.hN]; exact gx.g.nd) (by rw [gx.g.hN]; exact n1) (by rw [gx.g.hN]; exact n2) n3 (by rw [gx.g.hsc]; exact l1) (by rw [gx.g.hsc]; exact l2) ((PEs.cons (a1 X gx.g) (.cons (b1 X gx.g) .nil)).pa hv) hw
  · intro σ H De F G s L ok p
    refine a2 σ H _ F G s L ok ?_
    dsimp only at p
    cases e : fa s with
    | bad => rw [e] at p; exact p
    | ex c as s1 => rw [e] at p; exact postX_S p
    | ok m s1 =>
      rw [e] at p
      intro v F1 H1 Lm L1 st rv ok1
      have p : PostS Z W pins σ F H G De ((fb s1).thenS fun m2 s => match bindT pins (.nm i) m s with
        | some s => (match bindT pins (.nm j) m2 s with
          | some s => .nx s
          | none => .bad)
        | none => .bad) := p
      refine b2 σ H1 _ F1 (with_ G Lm) s1 L1 ok1 ?_
      cases e2 : fb s1 with
      | bad => rw [e2] at p; exact p
      | ex c as s2 => rw [e2] at p; exact ((postX_S p).trans st).guard fun _ z => .inl z
      | ok m2 s2 =>
        rw [e2] at p
        intro w F2 H2 Lm2 L2 st2 rv2 ok2
        have p : PostS Z W pins σ F H G De (match bindT pins (.nm i) m s2 with
          | some s => (match bindT pins (.nm j) m2 s with
            | some s => .nx s
            | none => .bad)
          | none => .bad) := p
        cases e3 : bindT pins (.nm i) m s2 with
        | none => rw [e3] at p; exact p.elim
        | some s3 =>
          rw [e3] at p
          have p : PostS Z W pins σ F H G De (match bindT pins (.nm j) m2 s3 with
            | some s => .nx s
            | none => .bad) := p
          cases e4 : bindT pins (.nm j) m2 s3 with
          | none => rw [e4] at p; exact p.elim
          | some s4 =>
            rw [e4] at p
            refine ⟨v, w, rfl, ?_⟩
            have rvA : Rv Z.K F2 H2 (with_ G Lm2) v m Lm := ⟨rv.rep.mono st2.fro st2.tup fun a ha => st2.grd a (.inr ha), rv.nd, fun a ha z => z.elim (rv.gd a ha) fun z => rv2.gd a z (.inr ha)⟩
            have okA : Ok Z.K F2 H2 (with_ (with_ G Lm2) Lm) σ s2 L2 := ok2.weak fun a z => by
              rcases z with (z | z) | z
              · exact .inl (.inl z)
              · exact .inr z
              · exact .inl (.inr z)
            refine simG_nm σ H2 (fun σ' H' => De.nx (σ'.set j (some w)) H') F2 (with_ G Lm2) Lm s2 s3 L2 v m okA rvA e3 fun σ1 F3 L3 st3 ok3 g1 => ?_
            have rvB : Rv Z.K F3 H2 G w m2 Lm2 := ⟨rv2.rep.mono st3.fro st3.tup fun a ha => st3.grd a (.inr ha), rv2.nd, fun a ha z => rv2.gd a ha (.inl z)⟩
            refine simG_nm σ1 H2 De.nx F3 G Lm2 s3 s4 L3 w m2 ok3 rvB e4 fun σ2 F4 L4 st4 ok4 g2 => ?_
            exact p σ2 F4 H2 L4 (((st.trans (st2.weak fun _ z => .inl z)).trans (st3.weak fun _ z => .inl z)).trans st4) ok4 (g1.pinS.trans g2.pinS)
/-! ### x[c].append(e): x is done with -/
def appxA (N : List Str) (sc : Scope) (i j : Nat) : Stmt → Option Expr
  | .Expr (.Call (.Attribute (.Subscript o (.Constant (.int c) _ _) _) nm p) [e] [] cp) _ => if nm = "append" ∧ nameAt N sc i o = true ∧ c = (j : Int) ∧ (p.endLine == cp.line) = true ∧ noStar e = true then some e else none
  | _ => none
theorem atI_nat' {α : Type} {x : α} (l : List α) (j : Nat) (h : l[j]? = some x) : atI l (j : Int) = some x := by
  have hj : j < l.length := (List.getElem?_eq_some_iff.mp h).1
  unfold L2.atI L2.ixN
  rw [if_pos (by omega), if_pos (by omega)]
  simpa using h
theorem Rms.getL {K : PySem.W.Frag} {F : Addr → Prop} {H : Hp} : ∀ {vs : List V} {ms : List M} {L : List Addr} {j : Nat} {m : M}, Rms K F H vs ms L → ms[j]? = some m → ∃ v Li, vs[j]? = some v ∧ Rm K F H v m Li ∧ ∀ a ∈ Li, a ∈ L
  | _, _, _, j, m, .nil, e => by simp at e
  | _, _, _, 0, m, .cons (L1 := L1) h r, e => by
    simp at e
    subst e
    exact ⟨_, L1, rfl, h, fun a ha => List.mem_append_left _ ha⟩
  | _, _, _, j + 1, m, .cons h r, e => by
    obtain ⟨v, Li, h1, h2, h3⟩ := Rms.getL (j := j) (m := m) r (by simpa using e)
    exact ⟨v, Li, by simpa using h1, h2, fun a ha => List.mem_append_right _ (h3 a ha)⟩
theorem SS.appx {i j : Nat} {st : Stmt} {e : Expr} {f : Sl → R M} (h : appxA N sc i j st = some e) (he : SE Z n N sc W e f) :
    SS Z n N sc W pins st (fun s => if isTupL s i j = true then (f s).thenS fun m s => match s[i]? with
      | some (some (.tup ms)) => (match ms[j]? with
        | some (.lst l) => if l.length < szl then .nx (s.set i none) else .bad
        | _ => .bad)
      | _ => .bad
      else .bad) := by
  unfold appxA at h
  split at h
  case h_2 => cases h
  rename_i o c k1 p1 p2 nm p e0 cp q
  split at h
  case isFalse => cases h
  rename_i hc
  obtain ⟨rfl, e1, rfl, e2, e3⟩ := hc
  cases h
  obtain ⟨⟨t, h1, h2⟩, _⟩ := he
  refine ⟨tDrop (tBM Z.K "list" rAppend (tOp (rIxT Z.K) (tVar i) (tC (.int (j : Int)))) (tCons t tNil)), fun X g => ?_, ?_⟩
  · rw [← g.g.K]
    exact ps_expr (pe_bm PySem.F.plainAttrs_list PySem.F.slot_list_append PySem.F.type_list_append mt_append (pe_ix ix_tup (pe_nameAt g.g e1) pe_int (plainIx_ok rfl)) (pa_cons (h1 X g.g) pa_nil (star_cons e3)) rfl (by rw [star_cons e3]; rfl) e2 (star_cons e3) rfl) rfl
  · intro σ H De F G s L ok p
    dsimp only at p
    split at p
    case isFalse => exact p.elim
    rename_i hf
    unfold isTupL at hf
    split at hf
    case h_2 => cases hf
    rename_i ms0 em0
    split at hf
    case h_2 => cases hf
    rename_i l0 el0
    obtain ⟨v0, Lv0, _, g1, g2, _⟩ := ok.rep.get em0
    cases g2 with
    | @tup p0 vs0 _ _ gh gz gr =>
    obtain ⟨w0, Lw0, w1, w2, _⟩ := gr.getL el0
    cases w2 with
    | @lst b ws _ Lb nb hb zb rb =>
    have hj : atI vs0 (j : Int) = some (.ref b) := by rw [atI_nat' vs0 j w1]
    refine ⟨.ref p0, g1, p0, vs0, (j : Int), .ref b, rfl, rfl, sqT gh, hj, .inl ⟨rfl, ws, sqL hb⟩, ?_⟩
    refine h2 σ H _ F G s L ok ?_
    cases e : f s with
    | bad => rw [e] at p; exact p
    | ex c as s1 => rw [e] at p; exact postX_S p
    | ok m s1 =>
      rw [e] at p
      intro v F1 H1 Lm L1 st rv ok1
      have p : PostS Z W pins σ F H G De (match s1[i]? with
        | some (some (.tup ms)) => (match ms[j]? with
          | some (.lst l) => if l.length < szl then .nx (s1.set i none) else .bad
          | _ => .bad)
        | _ => .bad) := p
      split at p
      case h_2 => exact p.elim
      rename_i ms em
      split at p
      case h_2 => exact p.elim
      rename_i l el
      split at p
      case isFalse => exact p.elim
      rename_i hlt
      obtain ⟨st2, rp, ok2⟩ := rv.freeze ok1
      obtain ⟨v', Li, L3, k1, rv2, ok3⟩ := ok2.take em
      rw [g1] at k1
      cases k1
      obtain ⟨rr, rnd, rgd⟩ := rv2
      cases rr with
      | @tup _ vs _ _ gh2 gz2 gr2 =>
      have e5 : H1 p0 = some (.tup vs0) := st.tup p0 vs0 gh
      rw [gh2] at e5
      cases e5
      obtain ⟨w0', Lw', x1, x2, x3⟩ := gr2.getL el
      rw [w1] at x1
      cases x1
      cases x2 with
      | @lst _ ws1 _ Lb1 nb1 hb1 zb1 rb1 =>
      have hz : ws1.length < sizeLine := by rw [rb1.len, sizeLine_eq]; exact hlt
      have bi : b ∈ Li := x3 b List.mem_cons_self
      have st3 : Stp (with_ F1 Lm) H1 (with_ G L3) (with_ F1 Lm) (upd H1 b (.lst (ws1 ++ [v]))) := Stp.write nb1 (fun z => z.elim (rgd b bi) (ok3.gd b (.inr bi)).2.2) (fun xs q => by rw [hb1] at q; cases q)
      have ok4 : Ok Z.K (with_ F1 Lm) (upd H1 b (.lst (ws1 ++ [v]))) G σ (s1.set i none) L3 := (ok3.weak fun _ z => .inl z).step st3 fun a h => st3.trk a (ok3.wf a h)
      exact ⟨b, ws1, v, rfl, rfl, hb1, hz, p σ _ _ L3 ((st.trans st2).trans (st3.weak fun _ z => .inl z)) ok4 PinS.refl⟩
end PV
/-! # PV18: the checker, and that it is sound -/
namespace PV
open PySem PySem.Spec PyProof.Rows L2
def konA : D → Expr → Bool
  | .non, .Constant .none _ _ => true
  | .bl b, .Constant (.bool c) _ _ => b == c
  | .int i, .Constant (.int j) _ _ => decide (i = j)
  | .str x, .Constant (.str y) _ _ => decide (x = y)
  | _, _ => false
def glA (sc : Scope) (x : Str) : Expr → Bool
  | .Name y _ => decide (y = x) && glB sc y && !(y == ("__debug__" : Str))
  | _ => false
def bopO : Bool → BoolOp → Bool
  | true, .And => true
  | false, .Or => true
  | _, _ => false
mutual
def chkE (T : Tab) (N : List Str) (sc : Scope) : E → Expr → Bool
  | .k d, a => konA d a
  | .gl x, a => glA sc x a
  | .rd i, a => nameAt N sc i a
  | .mv i, a => nameAt N sc i a
  | .lenp i, a => lenpA N sc i a
  | .ixp i e, a => match ixpA N sc i a with
    | some b => chkE T N sc e b
    | none => false
  | .op o as, a => match opArgs sc o a with
    | some es => chkEs T N sc as es
    | none => false
  | .lst as, a => match a with
    | .List es _ => es.all noStar && chkEs T N sc as es
    | _ => false
  | .tupk d e, a => match a with
    | .Tuple [x, y] _ _ => konT d x && (noStar y && chkE T N sc e y)
    | _ => false
  | .dct0, a => match a with
    | .Dict [] [] _ => true
    | _ => false
  | .dct1 k e, a => match a with
    | .Dict [some (.Constant (.str x) _ _)] [b] _ => decide (x = k) && chkE T N sc e b
    | _ => false
  | .bop isAnd as, a => match a with
    | .BoolOp op es _ => bopO isAnd op && chkB T N sc as es
    | _ => false
  | .not e, a => match a with
    | .UnaryOp .Not b _ => chkE T N sc e b
    | _ => false
  | .ite c x y, a => match a with
    | .IfExp c' x' y' _ => chkE T N sc c c' && (chkE T N sc x x' && chkE T N sc y y')
    | _ => false
  | .chain o1 o2 x y z, a => match a with
    | .Compare x' [op, op'] [y', z'] _ => cmpO o1 op && (cmpO o2 op' && (!(lastMarks [op, op'] [y', z']) && (chkE T N sc x x' && (chkE T N sc y y' && chkE T N sc z z'))))
    | _ => false
  | .call f bs as, a => match callF sc N f bs a with
    | some es => (T.fn f).isSome && chkEs T N sc as es
    | none => false
  | .callp f i as, a => match callF sc N f [i] a with
    | some es => (T.fn f).isSome && chkEs T N sc as es
    | none => false
  | .lc elt tg ik ias ifs, a => match a with
    | .ListComp elt' [⟨tgE, iter, ifs', 0⟩] scope _ => (match ikA sc ik tgE iter with
      | some es => chkEs T N sc ias es && (blkC N sc scope (ownOf N tg) && (tgA N (blkB scope) tg tgE && (chkI T N (relS scope sc) ifs ifs' && chkE T N (relS scope sc) elt elt')))
      | none => false)
    | _ => false
def chkEs (T : Tab) (N : List Str) (sc : Scope) : List E → List Expr → Bool
  | [], as => match as with
    | [] => true
    | _ => false
  | e :: es, as => match as with
    | a :: as => chkE T N sc e a && chkEs T N sc es as
    | _ => false
def chkB (T : Tab) (N : List Str) (sc : Scope) : List E → List Expr → Bool
  | [], _ => false
  | e :: es, as => match as with
    | [a] => chkE T N sc e a && es.isEmpty
    | a :: as => chkE T N sc e a && chkB T N sc es as
    | _ => false
def chkI (T : Tab) (N : List Str) (sc : Scope) : List E → List Expr → Bool
  | [], as => match as with
    | [] => true
    | _ => false
  | e :: es, as => match as with
    | [a] => chkE T N sc e a && es.isEmpty
    | _ => false
end
mutual
def chkS (T : Tab) (N : List Str) (sc : Scope) : S → Stmt → Bool
  | .raise c as, st => match raiseA sc c st with
    | some es => T.exc.contains c && (match fieldOf c, as, es with
      | none, [], [] => true
      | some _, [e], [a] => chkE T N sc e a
      | _, _, _ => false)
    | none => false
  | .tryx b hs, st => match st with
    | .Try b' hds [] [] _ => chkSs T N sc b b' && (hdsA T N sc hs hds && !hds.isEmpty)
    | _ => false
  | .asg tg e, st => match st with
    | .Assign [t] a _ => chkE T N sc e a && (match swD sc t a with
      | true => (match tg, e, t with
        | .nm i, .lc _ _ _ _ _, .Name y _ => decide (N[i]? = some y)
        | _, _, _ => false)
      | false => tgA N (locB sc) tg t && asgB sc t a)
    | _ => false
  | .par is es, st => match st with
    | .Assign [.Tuple ts _ _] (.Tuple vs _ _) _ => parB sc ts vs && (nm2 N is ts && chkEs T N sc es vs)
    | _ => false
  | .parm i j a b, st => match st with
    | .Assign [.Tuple ts _ _] (.Tuple [a', b'] _ _) _ => parB sc ts [a', b'] && (nm2 N [i, j] ts && (chkE T N sc a a' && chkE T N sc b b'))
    | _ => false
  | .seti i ix e, st => match st with
    | .Assign [.Subscript o ix' p] a _ => nameAt N sc i o && (notSl ix' && (asgB sc (.Subscript o ix' p) a && (chkE T N sc ix ix' && chkE T N sc e a)))
    | _ => false
  | .aug i o e, st => match st with
    | .AugAssign nm op a _ => augA N sc i nm && (augO o op && chkE T N sc e a)
    | _ => false
  | .app i e, st => appA N sc ("append" : Str) i (fun a => chkE T N sc e a) st
  | .appx i j e, st => match appxA N sc i j st with
    | some a => chkE T N sc e a
    | none => false
  | .ext i e, st => appA N sc ("extend" : Str) i (fun a => chkE T N sc e a) st
  | .ex e, st => match st with
    | .Expr a _ => exB a && chkE T N sc e a
    | _ => false
  | .ite c x y, st => match st with
    | .If c' x' y' _ => chkE T N sc c c' && (chkSs T N sc x x' && chkSs T N sc y y')
    | _ => false
  | .ret e, st => match st with
    | .Return (some a) _ => chkE T N sc e a
    | _ => false
  | .retN, st => match st with
    | .Return none _ => true
    | _ => false
  | .whl c b, st => match st with
    | .While c' b' [] _ => chkE T N sc c c' && chkSs T N sc b b'
    | _ => false
  | .forr tg ik ias b, st => match st with
    | .For tgE iter b' [] _ => (match ikA sc ik tgE iter with
      | some es => chkEs T N sc ias es && (tgA N (locB sc) tg tgE && chkSs T N sc b b')
      | none => false)
    | _ => false
  | .brk, st => match st with
    | .Break _ => true
    | _ => false
  | .cnt, st => match st with
    | .Continue _ => true
    | _ => false
  | .pass, st => match st with
    | .Pass _ => true
    | _ => false
def chkSs (T : Tab) (N : List Str) (sc : Scope) : List S → List Stmt → Bool
  | [], as => match as with
    | [] => true
    | _ => false
  | e :: es, as => match as with
    | a :: as => chkS T N sc e a && chkSs T N sc es as
    | _ => false
end
def KnowG (Z : Wd) (T : Tab) : Prop := ∀ x d, T.glob x = some d → ∃ v u, Z.mg x = some u ∧ RelV v u ∧ ∀ K F H, Rp K F H v d
variable {Z : Wd} {n : Nat} {N : List Str} {pins : Nat} {T : Tab}
theorem SE.congr {sc : Scope} {W : WX} {e : Expr} {f g : Sl → R M} (h : SE Z n N sc W e f) (q : ∀ s, g s = f s) : SE Z n N sc W e g := by rw [funext q]; exact h
theorem SA.congr {sc : Scope} {W : WX} {e : List Expr} {f g : Sl → R (List D)} (h : SA Z n N sc W e f) (q : ∀ s, g s = f s) : SA Z n N sc W e g := by rw [funext q]; exact h
theorem kon_ok {sc : Scope} {W : WX} {d : D} {a : Expr} (h : konA d a = true) : SE Z n N sc W a (fun s => .ok (.d d) s) := by
  unfold konA at h
  split at h
  · exact .konst (fun X g => pe_non) rfl (fun _ _ _ => .non)
  · obtain rfl := eq_of_beq h
    exact .konst (fun X g => pe_bl) rfl (fun _ _ _ => .bl _)
  · obtain rfl := of_decide_eq_true h
    exact .konst (fun X g => pe_int) rfl (fun _ _ _ => .int _)
  · obtain rfl := of_decide_eq_true h
    exact .konst (fun X g => pe_str) rfl (fun _ _ _ => .str _)
  · cases h
theorem SE.gl {sc : Scope} {W : WX} {x : Str} {a : Expr} (kg : KnowG Z T) (h : glA sc x a = true) : SE Z n N sc W a (fun s => match T.glob x with | some d => .ok (.d d) s | none => .bad) := by
  cases a with
  | Name y p =>
    simp only [glA, Bool.and_eq_true, decide_eq_true_eq, Bool.not_eq_true'] at h
    obtain ⟨⟨rfl, h1⟩, h2⟩ := h
    cases e : T.glob y with
    | none =>
      refine .plain (t := fun _ _ _ => False) (fun X g => ⟨fun pins s σ H Q I q => q.elim⟩) rfl (fun σ H Q F G s L o q => q)
    | some d =>
      obtain ⟨v, u, q1, q2, q3⟩ := kg y d e
      exact .konst (fun X g => pe_glob (gl_of g h1) (by rw [g.mg]; exact q1) q2 h2) rfl q3
  | _ => cases h
theorem lc_eq {C : Cc} {elt : E} {tg : Tg} {ik : IK} {ias ifs : List E} (s : Sl) : ev C (.lc elt tg ik ias ifs) s = fLc C.pins tg (fI ik (evs C ias)) (evi C ifs) (ev C elt) s := by
  rw [ev]
  unfold fLc fI
  cases evs C ias s with
  | bad => rfl
  | ex c as s => rfl
  | ok ds s =>
    show (match items ik ds with | some its => _ | none => _) = R.bind (match items ik ds with | some its => .ok its s | none => .bad) _
    cases items ik ds with
    | none => rfl
    | some its =>
      show (if tg.vars.all (plainAt s) = true then _ else _) = if tg.vars.all (plainAt s) = true then lcRes s tg.vars [] (loopC (lcTurn C.pins tg (evi C ifs) (ev C elt)) its (wipes s tg.vars)) else .bad
      split
      · show (match loopC (lcTurn C.pins tg (evi C ifs) (ev C elt)) its (wipes s tg.vars) with | .ok ds s1 => _ | _ => _) = _
        cases loopC (lcTurn C.pins tg (evi C ifs) (ev C elt)) its (wipes s tg.vars) <;> rfl
      · rfl
section
variable (hz : Wok Z) (nd : N.Nodup) (kg : KnowG Z T) (kn : Know Z T n)
include hz nd kg kn
mutual
theorem chkE_ok : ∀ (e : E) (sc : Scope) (W : WX) (a : Expr), chkE T N sc e a = true → SE Z n N sc W a (ev ⟨evCall T n, pins, T.glob, n⟩ e)
  | .k d, sc, W, a, h => by
    unfold chkE at h
    exact (kon_ok h).congr fun s => by unfold ev; rfl
  | .gl x, sc, W, a, h => by
    unfold chkE at h
    exact (SE.gl kg h).congr fun s => by unfold ev; rfl
  | .rd i, sc, W, a, h => by
    unfold chkE at h
    exact (SE.rd h).congr fun s => by unfold ev; rfl
  | .mv i, sc, W, a, h => by
    unfold chkE at h
    exact (SE.mv h).congr fun s => by unfold ev; rfl
  | .lenp i, sc, W, a, h => by
    unfold chkE at h
    exact (SE.lenp hz h).congr fun s => by unfold ev; rfl
  | .ixp i e, sc, W, a, h => by
    unfold chkE at h
    split at h
    · rename_i b eb
      exact (SE.ixp (chkE_ok e sc W b h) eb).congr fun s => by rw [ev] <;> rfl
    · cases h
  | .op o as, sc, W, a, h => by
    unfold chkE at h
    split at h
    · rename_i es eb
      exact (SE.op hz (chkEs_ok as sc W es h) eb).congr fun s => by rw [ev] <;> rfl
    · cases h
  | .lst as, sc, W, a, h => by
    unfold chkE at h
    split at h
    · rename_i es p
      rw [Bool.and_eq_true] at h
      exact (SE.lst (chkEs_ok as sc W es h.2) h.1).congr fun s => by rw [ev] <;> rfl
    · cases h
  | .tupk d e, sc, W, a, h => by
    unfold chkE at h
    split at h
    · rename_i x y k p
      simp only [Bool.and_eq_true] at h
      exact (SE.tupk h.1 h.2.1 (chkE_ok e sc W y h.2.2)).congr fun s => by rw [ev] <;> rfl
    · cases h
  | .dct0, sc, W, a, h => by
    unfold chkE at h
    split at h
    · exact SE.dct0.congr fun s => by rw [ev] <;> rfl
    · cases h
  | .dct1 k e, sc, W, a, h => by
    unfold chkE at h
    split at h
    · rename_i x kk p1 b p
      rw [Bool.and_eq_true, decide_eq_true_eq] at h
      obtain ⟨rfl, h⟩ := h
      exact (SE.dct1 (chkE_ok e sc W b h)).congr fun s => by rw [ev] <;> rfl
    · cases h
  | .bop isAnd as, sc, W, a, h => by
    unfold chkE at h
    split at h
    · rename_i op es p
      rw [Bool.and_eq_true] at h
      exact (chkB_ok as sc W isAnd op es p h.1 h.2).se.congr fun s => by rw [ev] <;> rfl
    · cases h
  | .not e, sc, W, a, h => by
    unfold chkE at h
    split at h
    · rename_i b p
      exact (SE.not (chkE_ok e sc W b h)).congr fun s => by rw [ev] <;> rfl
    · cases h
  | .ite c x y, sc, W, a, h => by
    unfold chkE at h
    split at h
    · rename_i c' x' y' p
      simp only [Bool.and_eq_true] at h
      exact (SE.ite (chkE_ok c sc W c' h.1) (chkE_ok x sc W x' h.2.1) (chkE_ok y sc W y' h.2.2)).congr fun s => by rw [ev] <;> rfl
    · cases h
  | .chain o1 o2 x y z, sc, W, a, h => by
    unfold chkE at h
    split at h
    · rename_i x' op op' y' z' p
      simp only [Bool.and_eq_true, Bool.not_eq_true'] at h
      obtain ⟨h1, h2, h3, h4, h5, h6⟩ := h
      exact (SE.chain h1 h2 (chkE_ok x sc W x' h4) (chkE_ok y sc W y' h5) (chkE_ok z sc W z' h6) h3).congr fun s => by rw [ev] <;> rfl
    · cases h
  | .call f bs as, sc, W, a, h => by
    unfold chkE at h
    split at h
    · rename_i es eb
      rw [Bool.and_eq_true] at h
      obtain ⟨g, eg⟩ := Option.isSome_iff_exists.mp h.1
      exact (SE.call kn eg (chkEs_ok as sc W es h.2) eb).congr fun s => by rw [ev] <;> rfl
    · cases h
  | .callp f i as, sc, W, a, h => by
    unfold chkE at h
    split at h
    · rename_i es eb
      rw [Bool.and_eq_true] at h
      obtain ⟨g, eg⟩ := Option.isSome_iff_exists.mp h.1
      exact (SE.callp kn eg (chkEs_ok as sc W es h.2) eb).congr fun s => by rw [ev] <;> rfl
    · cases h
  | .lc elt tg ik ias ifs, sc, W, a, h => by
    unfold chkE at h
    split at h
    · rename_i elt' tgE iter ifs' scope p
      split at h
      · rename_i es eb
        simp only [Bool.and_eq_true] at h
        obtain ⟨h1, h2, h3, h4, h5⟩ := h
        have lc := LC.mk (pins := pins) (W := W) nd (SI.mk hz (chkEs_ok ias sc W es h1) eb) h2 h3 (chkI_ok ifs (relS scope sc) W0 ifs' h4) (chkE_ok elt (relS scope sc) W0 elt' h5)
        exact lc.se.congr fun s => lc_eq s
      · cases h
    · cases h
theorem chkEs_ok : ∀ (es : List E) (sc : Scope) (W : WX) (as : List Expr), chkEs T N sc es as = true → SA Z n N sc W as (evs ⟨evCall T n, pins, T.glob, n⟩ es)
  | [], sc, W, as, h => by
    unfold chkEs at h
    split at h
    · exact SA.nil.congr fun s => by rw [evs]
    · cases h
  | e :: es, sc, W, as, h => by
    unfold chkEs at h
    split at h
    · rename_i a as
      rw [Bool.and_eq_true] at h
      exact (SA.cons (chkE_ok e sc W a h.1) (chkEs_ok es sc W as h.2)).congr fun s => by rw [evs]
    · cases h
theorem chkB_ok : ∀ (es : List E) (sc : Scope) (W : WX) (isAnd : Bool) (op : BoolOp) (as : List Expr) (p : Pos), bopO isAnd op = true → chkB T N sc es as = true → SBo Z n N sc W op as p (evb ⟨evCall T n, pins, T.glob, n⟩ isAnd es)
  | [], sc, W, isAnd, op, as, p, ho, h => by
    unfold chkB at h
    cases h
  | e :: es, sc, W, isAnd, op, as, p, ho, h => by
    unfold chkB at h
    split at h
    · rename_i a
      rw [Bool.and_eq_true] at h
      cases es with
      | cons => cases h.2
      | nil =>
        have q := SBo.one (op := op) (pos := p) (chkE_ok e sc W a h.1)
        have e2 : evb ⟨evCall T n, pins, T.glob, n⟩ isAnd [e] = ev ⟨evCall T n, pins, T.glob, n⟩ e := funext fun s => by rw [evb]
        rw [e2]
        exact q
    · rename_i a as hne
      rw [Bool.and_eq_true] at h
      have q1 := chkE_ok e sc W a h.1
      have q2 := chkB_ok es sc W isAnd op as p ho h.2
      cases as with
      | nil => exact (hne rfl).elim
      | cons a2 as =>
        cases es with
        | nil => unfold chkB at h; cases h.2
        | cons e2 es =>
          cases isAnd with
          | true =>
            cases op with
            | Or => cases ho
            | And =>
              have q3 := SBo.and q1 q2
              have e3 : evb ⟨evCall T n, pins, T.glob, n⟩ true (e :: e2 :: es) = _ := funext fun s => by rw [evb]; exact (fun z => nomatch z)
              rw [e3]
              exact q3
          | false =>
            cases op with
            | And => cases ho
            | Or =>
              have q3 := SBo.or q1 q2
              have e3 : evb ⟨evCall T n, pins, T.glob, n⟩ false (e :: e2 :: es) = _ := funext fun s => by rw [evb]; exact (fun z => nomatch z)
              rw [e3]
              exact q3
    · cases h
theorem chkI_ok : ∀ (es : List E) (sc : Scope) (W : WX) (as : List Expr), chkI T N sc es as = true → SIf Z n N sc W as (evi ⟨evCall T n, pins, T.glob, n⟩ es)
  | [], sc, W, as, h => by
    unfold chkI at h
    split at h
    · have e2 : evi ⟨evCall T n, pins, T.glob, n⟩ [] = fun s => .ok true s := funext fun s => by rw [evi]
      rw [e2]
      exact SIf.nil
    · cases h
  | e :: es, sc, W, as, h => by
    unfold chkI at h
    split at h
    · rename_i a
      rw [Bool.and_eq_true] at h
      cases es with
      | cons => cases h.2
      | nil =>
        have q := SIf.one (chkE_ok e sc W a h.1)
        have e2 : evi ⟨evCall T n, pins, T.glob, n⟩ [e] = fB (ev ⟨evCall T n, pins, T.glob, n⟩ e) := funext fun s => by rw [evi]; rfl
        rw [e2]
        exact q
    · cases h
end
end
end PV
/-! # PV19: the checker of statements is sound -/
namespace PV
open PySem PySem.Spec PyProof.Rows L2
variable {Z : Wd} {n : Nat} {N : List Str} {pins : Nat} {T : Tab} {sc : Scope} {W : WX}
theorem SS.congr {e : Stmt} {f g : Sl → O} (h : SS Z n N sc W pins e f) (q : ∀ s, g s = f s) : SS Z n N sc W pins e g := by rw [funext q]; exact h
theorem SSs.congr {e : List Stmt} {f g : Sl → O} (h : SSs Z n N sc W pins e f) (q : ∀ s, g s = f s) : SSs Z n N sc W pins e g := by rw [funext q]; exact h
theorem appA_mono {nm : Str} {i : Nat} {f : Expr → Bool} {st : Stmt} (h : appA N sc nm i f st = true) : appA N sc nm i (fun _ => true) st = true ∧ ∀ e, (∃ o a p cp q, st = .Expr (.Call (.Attribute o a p) [e] [] cp) q) → f e = true := by
  unfold appA at h ⊢
  split at h
  case h_2 => cases h
  rename_i o a p e cp q
  simp only [Bool.and_eq_true] at h
  refine ⟨by simp only [Bool.and_eq_true]; exact ⟨h.1, trivial⟩, ?_⟩
  rintro e2 ⟨o2, a2, p2, cp2, q2, eq⟩
  cases eq
  exact h.2
section
variable (hz : Wok Z) (nd : N.Nodup) (kg : KnowG Z T) (kx : KnowX Z T) (kn : Know Z T n) (hk : sc.kind = .function)
include hz nd kg kx kn hk
mutual
theorem chkS_ok : ∀ (st : S) (W : WX) (a : Stmt), chkS T N sc st a = true → SS Z n N sc W pins a (evS ⟨evCall T n, pins, T.glob, n⟩ st)
  | .raise c as, W, a, h => by
    unfold chkS at h
    split at h
    case h_2 => cases h
    rename_i es e
    rw [Bool.and_eq_true] at h
    obtain ⟨h1, h2⟩ := h
    have h1 : c ∈ T.exc := by simpa using h1
    split at h2
    · rename_i hf
      exact (SS.raise0 (pins := pins) kx h1 e hf).congr fun s => by
        rw [evS, evs]
        show (if 3 ≤ n then (if okEx c [] = true then _ else _) else _) = _
        have ho : okEx c [] = true := by unfold okEx; rw [hf]
        rw [if_pos ho]
    · rename_i f e1 a1 hf
      have hE := chkE_ok (pins := pins) hz nd kg kn e1 sc W a1 h2
      have hA : SA Z n N sc W [a1] (evs ⟨evCall T n, pins, T.glob, n⟩ [e1]) := (SA.cons hE SA.nil).congr fun s => by
        rw [evs]
        rfl
      exact (SS.raise1 (pins := pins) kx h1 hA e hf).congr fun s => by rw [evS] <;> rfl
    · cases h2
  | .tryx b hs, W, a, h => by
    unfold chkS at h
    split at h
    case h_2 => cases h
    rename_i b' hds pos
    simp only [Bool.and_eq_true, Bool.not_eq_true'] at h
    exact (SS.tryx (pins := pins) kx nd (fun W => chkSs_ok b W b' h.1) h.2.1 h.2.2).congr fun s => by rw [evS] <;> rfl
  | .asg tg e, W, a, h => by
    unfold chkS at h
    split at h
    · rename_i t x p
      rw [Bool.and_eq_true] at h
      obtain ⟨h1, h2⟩ := h
      split at h2
      · rename_i hsw
        split at h2
        · rename_i i elt tg' ik ias ifs y py
          have hy := of_decide_eq_true h2
          cases x with
          | ListComp elt' gs scope p2 =>
            have hsw : swB sc y py p2 scope = true := hsw
            unfold chkE at h1
            split at h1
            · rename_i _ elt2 tgE iter ifs' scope2 p3 eq
              cases eq
              split at h1
              · rename_i es eb
                simp only [Bool.and_eq_true] at h1
                obtain ⟨h1, h2, h3, h4, h5⟩ := h1
                have lc := LC.mk (pins := pins) (W := W) nd (SI.mk hz (chkEs_ok (pins := pins) hz nd kg kn ias sc W es h1) eb) h2 h3 (chkI_ok (pins := pins) hz nd kg kn ifs (relS scope sc) W0 ifs' h4) (chkE_ok (pins := pins) hz nd kg kn elt (relS scope sc) W0 elt' h5)
                refine (SS.setLc (pos := p) (pins := pins) hk lc hy hsw).congr fun s => ?_
                rw [evS, lc_eq] <;> rfl
              · cases h1
            · cases h1
          | _ => cases hsw
        · cases h2
      · rename_i hsw
        rw [Bool.and_eq_true] at h2
        exact (SS.asg (pins := pins) nd (chkE_ok (pins := pins) hz nd kg kn e sc W x h1) h2.1 h2.2).congr fun s => by rw [evS] <;> rfl
    · cases h
  | .par is es, W, a, h => by
    unfold chkS at h
    split at h
    · rename_i ts kt pt vs k2 p2 p
      simp only [Bool.and_eq_true] at h
      exact (SS.par2 (pins := pins) hk (chkEs_ok (pins := pins) hz nd kg kn es sc W vs h.2.2) h.1 h.2.1).congr fun s => by rw [evS] <;> rfl
    · cases h
  | .parm i j x y, W, a, h => by
    unfold chkS at h
    split at h
    · rename_i ts kt pt x' y' k2 p2 p
      simp only [Bool.and_eq_true] at h
      exact (SS.parm (pins := pins) hk (chkE_ok (pins := pins) hz nd kg kn x sc W x' h.2.2.1) (chkE_ok (pins := pins) hz nd kg kn y sc W y' h.2.2.2) h.1 h.2.1).congr fun s => by rw [evS] <;> rfl
    · cases h
  | .seti i ix e, W, a, h => by
    unfold chkS at h
    split at h
    · rename_i o ix' p x p2
      simp only [Bool.and_eq_true] at h
      obtain ⟨h1, h2, h3, h4, h5⟩ := h
      exact (SS.seti (pins := pins) h1 (chkE_ok (pins := pins) hz nd kg kn ix sc W ix' h4) (chkE_ok (pins := pins) hz nd kg kn e sc W x h5) h2 h3).congr fun s => by rw [evS] <;> rfl
    · cases h
  | .aug i o e, W, a, h => by
    unfold chkS at h
    split at h
    · rename_i nm op x p
      simp only [Bool.and_eq_true] at h
      exact (SS.aug (pins := pins) nd h.1 h.2.1 (chkE_ok (pins := pins) hz nd kg kn e sc W x h.2.2)).congr fun s => by rw [evS] <;> rfl
    · cases h
  | .app i e, W, a, h => by
    unfold chkS at h
    obtain ⟨h1, h2⟩ := appA_mono h
    exact (SS.app (pins := pins) h1 fun x hx => chkE_ok (pins := pins) hz nd kg kn e sc W x (h2 x hx)).congr fun s => by rw [evS] <;> rfl
  | .appx i j e, W, a, h => by
    unfold chkS at h
    split at h
    · rename_i x eb
      exact (SS.appx (pins := pins) eb (chkE_ok (pins := pins) hz nd kg kn e sc W x h)).congr fun s => by rw [evS] <;> rfl
    · cases h
  | .ext i e, W, a, h => by
    unfold chkS at h
    obtain ⟨h1, h2⟩ := appA_mono h
    exact (SS.ext (pins := pins) h1 fun x hx => chkE_ok (pins := pins) hz nd kg kn e sc W x (h2 x hx)).congr fun s => by rw [evS] <;> rfl
  | .ex e, W, a, h => by
    unfold chkS at h
    split at h
    · rename_i x p
      rw [Bool.and_eq_true] at h
      exact (SS.ex (pins := pins) (chkE_ok (pins := pins) hz nd kg kn e sc W x h.2) h.1).congr fun s => by rw [evS] <;> rfl
    · cases h
  | .ite c x y, W, a, h => by
    unfold chkS at h
    split at h
    · rename_i c' x' y' p
      simp only [Bool.and_eq_true] at h
      exact (SS.ite (pins := pins) (chkE_ok (pins := pins) hz nd kg kn c sc W c' h.1) (chkSs_ok x W x' h.2.1) (chkSs_ok y W y' h.2.2)).congr fun s => by rw [evS] <;> rfl
    · cases h
  | .ret e, W, a, h => by
    unfold chkS at h
    split at h
    · rename_i x p
      exact (SS.ret (pins := pins) (chkE_ok (pins := pins) hz nd kg kn e sc W x h)).congr fun s => by rw [evS] <;> rfl
    · cases h
  | .retN, W, a, h => by
    unfold chkS at h
    split at h
    · exact SS.retN.congr fun s => by rw [evS] <;> rfl
    · cases h
  | .whl c b, W, a, h => by
    unfold chkS at h
    split at h
    · rename_i c' b' p
      rw [Bool.and_eq_true] at h
      exact (SS.whl (pins := pins) (chkE_ok (pins := pins) hz nd kg kn c sc W c' h.1) (chkSs_ok b W b' h.2)).congr fun s => by rw [evS] <;> rfl
    · cases h
  | .forr tg ik ias b, W, a, h => by
    unfold chkS at h
    split at h
    · rename_i tgE iter b' p
      split at h
      · rename_i es eb
        simp only [Bool.and_eq_true] at h
        refine (SS.forr (pins := pins) nd (SI.mk hz (chkEs_ok (pins := pins) hz nd kg kn ias sc W es h.1) eb) h.2.1 (chkSs_ok b W b' h.2.2)).congr fun s => ?_
        rw [evS]
        unfold fI
        cases evs ⟨evCall T n, pins, T.glob, n⟩ ias s with
        | bad => rfl
        | ex c as s => rfl
        | ok ds s =>
          show (match items ik ds with | some its => _ | none => _) = R.thenS (match items ik ds with | some its => .ok its s | none => .bad) _
          cases items ik ds <;> rfl
      · cases h
    · cases h
  | .brk, W, a, h => by
    unfold chkS at h
    split at h
    · exact SS.brk.congr fun s => by rw [evS] <;> rfl
    · cases h
  | .cnt, W, a, h => by
    unfold chkS at h
    split at h
    · exact SS.cnt.congr fun s => by rw [evS] <;> rfl
    · cases h
  | .pass, W, a, h => by
    unfold chkS at h
    split at h
    · exact SS.pass.congr fun s => by rw [evS] <;> rfl
    · cases h
theorem chkSs_ok : ∀ (st : List S) (W : WX) (a : List Stmt), chkSs T N sc st a = true → SSs Z n N sc W pins a (evSs ⟨evCall T n, pins, T.glob, n⟩ st)
  | [], W, a, h => by
    unfold chkSs at h
    split at h
    · exact SSs.nil.congr fun s => by rw [evSs] <;> rfl
    · cases h
  | e :: es, W, as, h => by
    unfold chkSs at h
    split at h
    · rename_i a as
      rw [Bool.and_eq_true] at h
      exact (SSs.cons (chkS_ok e W a h.1) (chkSs_ok es W as h.2)).congr fun s => by rw [evSs] <;> rfl
    · cases h
end
end
end PV
/-! # PV20: the defs of a text do as the evaluator says -/
namespace PV
open PySem PySem.Spec PyProof.Rows L2
section
variable {K : PySem.W.Frag} {F : Addr → Prop} {H : Hp} {G : Addr → Prop}
theorem Rs.takeN : ∀ {σ : L2.St} {s : Sl} {L : List Addr} (k : Nat), Rs K F H σ s L → ∃ L', Rs K F H (σ.take k) (s.take k) L' ∧ L'.Sublist L
  | _, _, L, 0, _ => ⟨[], .nil, List.nil_sublist _⟩
  | _, _, _, k + 1, .nil => ⟨[], .nil, List.nil_sublist _⟩
  | _, _, _, k + 1, .off r => by
    obtain ⟨L', h, hs⟩ := Rs.takeN k r
    exact ⟨L', .off h, hs⟩
  | _, _, _, k + 1, .on (L1 := L1) h r => by
    obtain ⟨L', h2, hs⟩ := Rs.takeN k r
    exact ⟨L1 ++ L', .on h h2, List.Sublist.append (List.Sublist.refl _) hs⟩
theorem Rs.nones : ∀ k, Rs K F H (List.replicate k none) (List.replicate k none) []
  | 0 => .nil
  | k + 1 => .off (Rs.nones k)
theorem Rs.pad (k : Nat) : ∀ {σ : L2.St} {s : Sl} {L : List Addr}, Rs K F H σ s L → Rs K F H (σ ++ List.replicate k none) (s ++ List.replicate k none) L
  | _, _, _, .nil => Rs.nones k
  | _, _, _, .off r => .off (Rs.pad k r)
  | _, _, _, .on h r => .on h (Rs.pad k r)
theorem outsOf_spec : ∀ {k : Nat} {s : Sl} {os : List M}, outsOf k s = some os → s.take k = os.map some ∧ os.length = k
  | 0, s, os, h => by
    unfold outsOf at h
    cases h
    exact ⟨rfl, rfl⟩
  | k + 1, [], os, h => by unfold outsOf at h; cases h
  | k + 1, none :: s, os, h => by unfold outsOf at h; cases h
  | k + 1, some m :: s, os, h => by
    unfold outsOf at h
    cases e : outsOf k s with
    | none => rw [e] at h; cases h
    | some os2 =>
      rw [e] at h
      cases h
      obtain ⟨h1, h2⟩ := outsOf_spec e
      exact ⟨by rw [List.take_succ_cons, h1]; rfl, by rw [List.length_cons, h2]⟩
theorem Ok.outs {pins : Nat} {σ0 σ : L2.St} {s : Sl} {L : List Addr} {os : List M} {vs : List V} (o : Ok K F H G σ s L) (ps : PinS pins σ0 σ) (h : outsOf pins s = some os) (hv : σ0.take pins = (vs.take pins).map some) :
    ∃ L', Ok K F H G ((vs.take os.length).map some) (os.map some) L' := by
  obtain ⟨h1, h2⟩ := outsOf_spec h
  obtain ⟨L', h3, h4⟩ := o.rep.takeN pins
  have e : σ.take pins = σ0.take pins := by
    apply List.ext_getElem?
    intro i
    by_cases hi : i < pins
    · rw [List.getElem?_take_of_lt hi, List.getElem?_take_of_lt hi]
      exact ps.pin i hi
    · rw [List.getElem?_take_eq_none (by omega), List.getElem?_take_eq_none (by omega)]
  rw [e, hv, h1] at h3
  rw [h2]
  exact ⟨L', o.wf, h3, o.nd.sublist h4, fun a ha => ⟨(o.gd a ha).1, (o.gd a ha).2.1, fun z => (o.gd a ha).2.2 (h4.subset z)⟩⟩
end
/-- a def stands in the text -/
structure FnAt (Z : Wd) (T : Tab) (f : Str) (g : Fn) where
  fa : Addr
  fd : FuncData
  qual : Str
  params : Arguments
  body : List Stmt
  scope : Scope
  hm : Z.mg f = some (.ref fa)
  fun_ : FunD Z.K f qual params body scope [] [] fa fd
  sco : FnScope g.ns g.ps scope
  bind : Binds Z.K fd g.ps []
  chk : chkSs T g.ns scope g.body body = true
  pin : g.pins ≤ g.ps.length
variable {Z : Wd} {T : Tab}
theorem fn_ok {n : Nat} {f : Str} {g : Fn} (hz : Wok Z) (kg : KnowG Z T) (kx : KnowX Z T) (kn : Know Z T n) (e : T.fn f = some g) (A : FnAt Z T f g) : FnOk Z.P Z.w Z.K Z.mg Z.base (L2.CX Z.P Z.w) (n + 1) A.fa A.fd g.ps (spF Z (evCall T (n + 1)) f g.ps) := by
    refine A.fun_.ok A.sco (fun vs H Q E h => h.1) fun cdv Ar outer s H vs Q E hr h => ?_
    obtain ⟨hl, F, G, L, ms, ok, p⟩ := h
    obtain ⟨t, t1, t2⟩ := chkSs_ok (pins := g.pins) hz A.sco.nd kg kx kn A.sco.kind g.body (fun cls d _ H => E cls d H) A.body A.chk
    refine ⟨t, t1 _ ⟨⟨rfl, rfl, rfl, rfl, rfl, rfl, A.sco.nd, rfl, rfl, hr, takes_of rfl rfl rfl rfl, passes_of rfl⟩, fun x _ => .inl rfl, rfl, rfl⟩, ?_⟩
    have hlen : ms.length = vs.length := by
      have := ok.rep.len
      simpa using this.symm
    have hst : L2.start g.ns vs = vs.map some ++ List.replicate (g.ns.length - ms.length) none := by
      rw [hlen]
      rfl
    rw [hst]
    have ok2 : Ok Z.K F H G (vs.map some ++ List.replicate (g.ns.length - ms.length) none) (ms.map some ++ List.replicate (g.ns.length - ms.length) none) L := ⟨ok.wf, ok.rep.pad _, ok.nd, ok.gd⟩
    have htk : (vs.map some ++ List.replicate (g.ns.length - ms.length) none).take g.pins = (vs.take g.pins).map some := by
      have := A.pin
      rw [List.take_append_of_le_length (by rw [List.length_map, hl]; exact this), List.map_take]
    refine t2 _ H _ F G _ L ok2 ?_
    unfold evCall at p
    rw [e] at p
    have p : PostC Z vs F H G Q E (if ms.length = g.ps.length then finish g.pins (evSs ⟨evCall T n, g.pins, T.glob, n⟩ g.body (ms.map some ++ List.replicate (g.ns.length - ms.length) none)) else .bad) := p
    rw [if_pos (hlen.trans hl)] at p
    cases eo : evSs ⟨evCall T n, g.pins, T.glob, n⟩ g.body (ms.map some ++ List.replicate (g.ns.length - ms.length) none) with
    | bad => rw [eo] at p; exact p
    | brk s1 => rw [eo] at p; exact p.elim
    | cnt s1 => rw [eo] at p; exact p.elim
    | nx s1 =>
      rw [eo] at p
      unfold finish at p
      intro σ' F' H' L' st okk ps
      cases eu : outsOf g.pins s1 with
      | none => simp only [eu] at p; exact p.elim
      | some os =>
        simp only [eu] at p
        obtain ⟨L2, ok3⟩ := okk.outs ps eu htk
        exact p V.non F' H' [] L2 st ⟨.d .non, List.nodup_nil, fun _ z => nomatch z⟩ ok3.nil
    | ret m s1 =>
      rw [eo] at p
      unfold finish at p
      intro v σ' F' H' Lm L' st rv okk ps
      cases eu : outsOf g.pins s1 with
      | none => simp only [eu] at p; exact p.elim
      | some os =>
        simp only [eu] at p
        obtain ⟨L2, ok3⟩ := okk.outs ps eu htk
        exact p v F' H' Lm L2 st rv ok3
    | ex c as s1 =>
      rw [eo] at p
      unfold finish at p
      intro σ' F' H' L' cls d st okk ps x
      cases eu : outsOf g.pins s1 with
      | none => simp only [eu] at p; exact p.elim
      | some os =>
        simp only [eu] at p
        obtain ⟨L2, ok3⟩ := okk.outs ps eu htk
        exact p F' H' L2 cls d st ok3 x
theorem know_all (hz : Wok Z) (kg : KnowG Z T) (kx : KnowX Z T) (hf : ∀ f g, T.fn f = some g → Nonempty (FnAt Z T f g)) : ∀ n, Know Z T n
  | 0 => fun f g e => by
    obtain ⟨A⟩ := hf f g e
    refine ⟨A.fa, A.fd, A.hm, A.fun_.kp, A.bind, fun vs H Q E h => h.1, fun A outer s H args us vs Q E hr he hb hv h => ?_⟩
    obtain ⟨_, F, G, L, ms, _, p⟩ := h
    exact p.elim
  | n + 1 => fun f g e => by
    obtain ⟨A⟩ := hf f g e
    exact ⟨A.fa, A.fd, A.hm, A.fun_.kp, A.bind, fn_ok hz kg kx (know_all hz kg kx hf n) e A⟩
end PV
/-! # PV30: the classes of errors of a text -/
namespace PV
open PySem PySem.Spec PyProof.Rows L2
def scB (N P : List Str) (sc : Scope) : Bool :=
  (match sc.kind with | .function => true | _ => false) && (!sc.isCoroutine && (!sc.isGenerator && (decide N.Nodup && (decide (N.take P.length = P) && (P.all (locB sc) && sc.names.all fun y => match y.2 with | .free => false | _ => true)))))
theorem sc_ok {N P : List Str} {sc : Scope} (h : scB N P sc = true) : FnScope N P sc := by
  unfold scB at h
  simp only [Bool.and_eq_true, Bool.not_eq_true', decide_eq_true_eq] at h
  obtain ⟨h1, h2, h3, h4, h5, h6, h7⟩ := h
  refine ⟨?_, h2, h3, h4, h5, fun x hx => loc_of (List.all_eq_true.mp h6 x hx), fun y hy e => ?_⟩
  · split at h1
    · assumption
    · cases h1
  · have := List.all_eq_true.mp h7 y hy
    rw [e] at this
    cases this
def BindP (params : Arguments) (ps : List Str) : Prop := ∀ (x qual : Str) (body : List Stmt) (scope : Scope) (kV doc pm : Value) (an : Option Addr) (cdv ct : Value) (us : List Value), us.length = ps.length → bindArgs (PySem.W.fnOf x qual params body scope Value.none kV doc pm an cdv ct) { pos := us } = pure (ps.zip us)
/-! ### what is looked at in the heap -/
def oexB (K : PySem.W.Frag) (C : Addr) : Bool := match List.lookup C K with
  | some ⟨.type t, _, .cls ⟨_, _, .ref C' :: bm, _, _, hd, _, _, _, _, del⟩, sl⟩ => decide (t = "type") && (decide (C' = C) && (hd && (!del && (HandSPX.refsVE bm && (match sl.toList with
    | [_, _, _, _, some (.builtin n), _] => decide (n = "ValueError.__new__")
    | _ => false)))))
  | _ => false
theorem oexB_ok {K : PySem.W.Frag} {C : Addr} (h : oexB K C = true) : ∃ nm q N bs bm sn sub ab col dd k0 k1 k2 k3 k5, List.lookup C K = some (excClassObj nm q C N bs bm true sn sub ab col dd k0 k1 k2 k3 k5 "ValueError.__new__") ∧ HandSPX.refsVE bm = true := by
  unfold oexB at h
  split at h
  case h_2 => cases h
  rename_i t dd nm bs C' bm N q hd sn sub ab col del sl e
  simp only [Bool.and_eq_true, Bool.not_eq_true', decide_eq_true_eq] at h
  obtain ⟨rfl, rfl, rfl, rfl, h5, h6⟩ := h
  split at h6
  case h_2 => cases h6
  rename_i k0 k1 k2 k3 n k5 es
  have h6 := of_decide_eq_true h6
  subst h6
  have es2 : sl = #[k0, k1, k2, k3, some (.builtin "ValueError.__new__"), k5] := Array.toList_inj.mp (by rw [es])
  subst es2
  exact ⟨nm, q, N, bs, bm, sn, sub, ab, col, dd, k0, k1, k2, k3, k5, e, h5⟩
def fcB (o : Option PySem.W.CFound) (u : Value) : Bool := match o with
  | some (.val v) => decide (v = u)
  | _ => false
theorem fcB_ok {o : Option PySem.W.CFound} {u : Value} (h : fcB o u = true) : o = some (.val u) := by
  unfold fcB at h
  split at h
  · rw [of_decide_eq_true h]
  · cases h
/-- the class whose `__init__` a class has -/
def iniOf (own : List Str) (c : Str) : Str := if own.contains c = true then c else "MarkError"
def iniAt (K : PySem.W.Frag) (own : List Str) (c : Str) : Addr := He.ma K (He.ga K (iniOf own c)) "__init__"
def exOne (own : List Str) (K : PySem.W.Frag) (c : Str) : Bool :=
  oexB K (He.ga K c) && (He.eqO (PySem.W.findIn K (.ref (He.ga K c)) "__setattr__") (some (some (.builtin "object.__setattr__"))) && (decide (PySem.W.subIn K (.ref (He.ga K c)) (.type "BaseException") = some true) && (decide (PySem.W.typeIn K (.ref (He.ga K c)) = some (.type "type")) && (PySem.W.keepIn K (.ref (He.ga K c)) &&
  (He.eqO (PySem.W.findIn K (.ref (He.ga K c)) "__init__") (some (some (.ref (iniAt K own c)))) && (decide (PySem.W.typeIn K (.ref (iniAt K own c)) = some (.type "function")) && (match fieldOf c with
  | none => decide (iniOf own c = "MarkError")
  | some f => own.contains c && (He.eqO (PySem.W.findIn K (.ref (He.ga K c)) "__getattribute__") (some (some (.builtin "BaseException.__getattribute__"))) && (He.eqO (PySem.W.findIn K (.ref (He.ga K c)) "__getattr__") (some none) && (PySem.W.hasDictIn K (He.ga K c) && He.eqO (PySem.W.findIn K (.ref (He.ga K c)) f) (some none)))))))))))
def xcB (own xs : List Str) (K : PySem.W.Frag) : Bool := xs.isEmpty || ((own.contains "MarkError" && PySem.W.readsIn K (He.ga K "MarkError") (.type "type") && (He.eqO (PySem.W.specialIn K (.ref (He.ga K "MarkError")) "__getattribute__") (some (some (.builtin "type.__getattribute__"))) && (fcB (PySem.W.findCls K (.ref (He.ga K "MarkError")) (.type "type") "__init__") (.ref (He.ma K (He.ga K "MarkError") "__init__")) &&
  fcB (PySem.W.findCls K (.type "ValueError") (.type "type") "__init__") (.builtin "ValueError.__init__")))) && (xs.all (exOne own K) && xs.all fun c => xs.all fun h => decide (PySem.W.exmOne K (.ref (He.ga K c)) (.ref (He.ga K h)) = some (exmB h c))))
/-! ### the two kinds of `__init__` -/
def iniPs (c : Str) : List Str := match fieldOf c with
  | none => ["self"]
  | some f => ["self", f]
def iniB0 (sc : Scope) : List Stmt → Bool
  | [.Expr (.Call (.Attribute (.Name v _) m p2) [a] [] p4) _] => decide (v = "ValueError") && (decide (m = "__init__") && (glB sc v && (nameAt ["self"] sc 0 a && p2.endLine == p4.line)))
  | _ => false
def iniB1 (f : Str) (sc : Scope) : List Stmt → Bool
  | [.Expr (.Call (.Attribute (.Name v _) m p2) [a] [] p4) _, .Assign [.Attribute o g _] b _] => decide (v = "MarkError") && (decide (m = "__init__") && (glB sc v && ((nameAt ["self", f] sc 0 a && p2.endLine == p4.line) && (decide (g = f) && (nameAt ["self", f] sc 0 o && nameAt ["self", f] sc 1 b)))))
  | _ => false
def iniB (c : Str) (sc : Scope) (b : List Stmt) : Bool := scB (iniPs c) (iniPs c) sc && (match fieldOf c with
  | none => decide (c = "MarkError") && iniB0 sc b
  | some f => iniB1 f sc b)
def sp0 (K : PySem.W.Frag) : Sp := fun vs H Q _ => ∃ a C, vs = [.ref a] ∧ OexC K C ∧ H a = some (exo a C none) ∧ Q .non H
def sp1 (K : PySem.W.Frag) (f : Str) : Sp := fun vs H Q _ => ∃ a C y, vs = [.ref a, y] ∧ OexC K C ∧ PySem.W.findIn K (.ref C) f = some none ∧ H a = some (exo a C none) ∧ ∀ dx, H dx = none → dx ≠ a → Q .non (upd (upd H dx (exd dx [(f, y)])) a (exo a C (some dx)))
theorem meth_eq {v m : Str} {p1 p2 p4 : Pos} {y : Str} {py : Pos} {env : Env} (h : (p2.endLine == p4.line) = true) : eval (((Expr.Name v p1).Attribute m p2).Call [Expr.Name y py] [] p4) env = (do
            let ov ← eval (Expr.Name v p1) env
            standAt p2.atName
            let __x ← holding [ov] (getMethod ov m (do
              let b ← importBound (Expr.Name v p1) env
              pure (b.getD true)))
            match __x with
              | (f, first) =>
                callWith p4 f first (backTo p4 (starEach [Expr.Name y py] env)) (backToKw p4 (keywordEach [] env))) := by
  have e : eval (((Expr.Name v p1).Attribute m p2).Call [Expr.Name y py] [] p4) env = (do
      let ov ← eval (Expr.Name v p1) env
      standAt p2.atName
      methodCall (Expr.Name v p1) m p2 p4 env ov 1 (backTo p4 (starEach [Expr.Name y py] env)) (backToKw p4 (keywordEach [] env))) := rfl
  rw [e]
  have hp : methodCallPos true (Expr.Name v p1) env p2 p4 = pure p4 := by
    unfold methodCallPos
    rw [if_pos (by rw [h]; rfl)]
  congr 1
  funext ov
  congr 1
  funext _
  show (do
    let __x ← holding [ov] (calleeOf true (Expr.Name v p1) env ov m)
    match __x with
      | (f, first) => do
        let callPos ← methodCallPos true (Expr.Name v p1) env p2 p4
        callWith callPos f first (backTo p4 (starEach [Expr.Name y py] env)) (backToKw p4 (keywordEach [] env))) = _
  rw [hp]
  rfl
section
variable {P : Program} {w : World} {K : PySem.W.Frag} {mg : Str → Option Value} {base : Heap}
theorem nameAt_name {N : List Str} {sc : Scope} {i : Nat} {e : Expr} (h : nameAt N sc i e = true) : ∃ x p, e = .Name x p := by
  cases e <;> first | exact ⟨_, _, rfl⟩ | cases h
theorem ini0_ok {k : Nat} {x qual : Str} {params : Arguments} {body : List Stmt} {scope : Scope} {f : Addr} {fd : FuncData} (F : FunD K x qual params body scope [] [] f fd) (hs : scB ["self"] ["self"] scope = true) (hb : iniB0 scope body = true)
    (hm : mg "ValueError" = none) (hv : PySem.W.findCls K (.type "ValueError") (.type "type") "__init__" = some (.val (.builtin "ValueError.__init__"))) : FnOk P w K mg base (L2.CX P w) (k + 1) f fd ["self"] (sp0 K) := by
  have S := sc_ok hs
  refine F.ok S (fun vs H Q E h => by obtain ⟨a, C, rfl, _⟩ := h; rfl) fun cdv Ar outer s H vs Q E hr h => ?_
  unfold iniB0 at hb
  split at hb
  case h_2 => cases hb
  rename_i v p1 m p2 a p4 p5
  simp only [Bool.and_eq_true, decide_eq_true_eq] at hb
  obtain ⟨rfl, rfl, b3, b4, b5⟩ := hb
  have g : Gd ⟨P, w, K, mg, base, []⟩ k ["self"] scope (fun cls d _ H => E cls d H) (cxOf (L2.CX P w) P w K mg base ["self"] qual scope f cdv Ar outer s H E) := ⟨rfl, rfl, rfl, rfl, rfl, rfl, S.nd, rfl, rfl, hr, takes_of rfl rfl rfl rfl, passes_of rfl⟩
  obtain ⟨y, py, rfl⟩ := nameAt_name b4
  have pa : PA _ [Expr.Name y py] (tAll [tVar 0]) := PEs.pa (.cons (pe_nameAt g b4) .nil) rfl
  refine ⟨_, pss_cons (ps_expr (pe_veinit (gl_of g b3) hm hv pa (meth_eq b5))) pss_nil, ?_⟩
  obtain ⟨a, C, rfl, h1, h2, h3⟩ := h
  exact ⟨_, rfl, a, C, [], rfl, by simp, h1, h2, h3⟩
theorem ini1_ok {fl : Str} {k : Nat} {x qual : Str} {params : Arguments} {body : List Stmt} {scope : Scope} {f : Addr} {fd : FuncData} (F : FunD K x qual params body scope [] [] f fd) (hs : scB ["self", fl] ["self", fl] scope = true) (hb : iniB1 fl scope body = true)
    {M gM : Addr} {fdM : FuncData} (hm : mg "MarkError" = some (.ref M)) (r : ClX.CRead K M (.type "type")) (v : ClX.CVal K M (.type "type") "__init__" (.ref gM) (.ref gM)) (FM : FnOk P w K mg base (L2.CX P w) k gM fdM ["self"] (sp0 K)) (bM : Binds K fdM ["self"] []) (kg : PySem.W.keepIn K (.ref gM) = true) :
    FnOk P w K mg base (L2.CX P w) (k + 1) f fd ["self", fl] (sp1 K fl) := by
  have S := sc_ok hs
  refine F.ok S (fun vs H Q E h => by obtain ⟨a, C, y, rfl, _⟩ := h; rfl) fun cdv Ar outer s H vs Q E hr h => ?_
  unfold iniB1 at hb
  split at hb
  case h_2 => cases hb
  rename_i v1 p1 m p2 a p4 p5 o g1 p6 b p7
  simp only [Bool.and_eq_true, decide_eq_true_eq] at hb
  obtain ⟨rfl, rfl, b3, ⟨b4, b5⟩, rfl, b6, b7⟩ := hb
  have g : Gd ⟨P, w, K, mg, base, []⟩ k ["self", g1] scope (fun cls d _ H => E cls d H) (cxOf (L2.CX P w) P w K mg base ["self", g1] qual scope f cdv Ar outer s H E) := ⟨rfl, rfl, rfl, rfl, rfl, rfl, S.nd, rfl, rfl, hr, takes_of rfl rfl rfl rfl, passes_of rfl⟩
  obtain ⟨y, py, rfl⟩ := nameAt_name b4
  obtain ⟨z, pz, rfl⟩ := nameAt_name b6
  obtain ⟨u, pu, rfl⟩ := nameAt_name b7
  have pa : PA _ [Expr.Name y py] (tAll [tVar 0]) := PEs.pa (.cons (pe_nameAt g b4) .nil) rfl
  have po : PE (cxOf (L2.CX P w) P w K mg base ["self", g1] qual scope f cdv Ar outer s H E) (.Name "MarkError" p1) (tC (.ref M)) := pe_glob (gl_of g b3) hm rfl rfl
  refine ⟨_, pss_cons (ps_expr (pe_cinit (CX := L2.CX P w) (E := fun _ _ _ => False) (pl := _) po r v FM hr bM (fun _ _ _ _ _ _ _ z => (cx_no z).elim) kg pa rfl rfl (meth_eq b5))) (pss_cons (ps_ost (pe_nameAt g b6) (pe_nameAt g b7)) pss_nil), ?_⟩
  obtain ⟨a, C, y0, rfl, h1, h2, h3, h4⟩ := h
  refine ⟨_, rfl, a, C, rfl, h1, h3, ?_⟩
  refine ⟨y0, rfl, .ref a, rfl, a, C, rfl, h1, h2, .inl ⟨h3, fun dx hd hda => h4 dx hd hda⟩⟩
end
end PV
/-! # PV21: the end of a law -/
namespace PV
open PySem PySem.Spec PyProof.Rows L2
def okDef (T : Tab) (st : Stmt) (g : Fn) : Bool := scB g.ns g.ps (defScope st) && (chkSs T g.ns (defScope st) g.body (defBody st) && decide (g.pins ≤ g.ps.length))
abbrev DefI : Type := Str × Nat × Fn
/-- a class with an `__init__` of its own: its name, the qualified name, the place -/
abbrev IniI : Type := Str × Str × Nat
def iniSt : Stmt → Stmt
  | .ClassDef _ _ _ (b :: _) _ _ _ _ _ _ _ => b
  | st => st
def tabOf (defs : List DefI) (gints : List (Str × Int)) (xs : List Str) : Tab := ⟨fun f => (defs.lookup f).map fun p => p.2, fun x => (gints.lookup x).map D.int, xs⟩
def dOf (top : Nat → Stmt) (x : DefI) : He.DefD := ⟨(x.1, none), x.1, x.1, defArgs (top x.2.1), defBody (top x.2.1), defScope (top x.2.1), [], []⟩
def iniD (top : Nat → Stmt) (x : IniI) : He.DefD := ⟨(x.1, some "__init__"), "__init__", x.2.1, defArgs (iniSt (top x.2.2)), defBody (iniSt (top x.2.2)), defScope (iniSt (top x.2.2)), [], []⟩
def fnsOf (top : Nat → Stmt) (defs : List DefI) (inis : List IniI) : List He.DefD := defs.map (dOf top) ++ inis.map (iniD top)
def xfacts (xs : List Str) : List He.Fa := if xs.isEmpty = true then [] else .free "ValueError" :: .glo "MarkError" :: xs.map .glo
def factsOf (defs : List DefI) (gints : List (Str × Int)) (xs : List Str) : List He.Fa := defs.map (fun d => He.Fa.glo d.1) ++ (bnames.map He.Fa.free ++ (gints.map (fun p => He.Fa.int p.1 p.2) ++ xfacts xs))
/-- the head's question: the facts, and what the classes of errors are -/
def asX (n : Nat) (g : Addr → Option Obj) : List Addr := He.asD g n ++ [cStatics]
def obsXG (n : Nat) (fa : List He.Fa) (fn : List He.DefD) (own xs : List Str) (g : Addr → Option Obj) : He.AlD × Bool := (He.obsD fa fn (He.frG g (asX n g)), xcB own xs (He.frG g (asX n g)))
def hookX (n : Nat) (fa : List He.Fa) (fn : List He.DefD) (own xs : List Str) : PySem.W.Hook where
  α := He.AlD × Bool
  obs := fun s => obsXG n fa fn own xs s.heap.get?
  val := fun _ => (He.valD fn, true)
  says := fun _ h => ∃ K : PySem.W.Frag, K.In h ∧ He.SaysD fa fn K ∧ xcB own xs K = true
  of := fun _ s e => ⟨He.frG s.heap.get? (asX n s.heap.get?), He.frG_in, congrArg Prod.fst e, congrArg Prod.snd e⟩
  keeps := fun _ h h' y k => let ⟨K, a, b, c⟩ := y; ⟨K, a.keeps k, b, c⟩
theorem obsXG_eq {n : Nat} {fa : List He.Fa} {fn : List He.DefD} {own xs : List Str} {g : Addr → Option Obj} {s : Shared} (h : ∀ a, g a = s.heap.get? a) : obsXG n fa fn own xs g = (hookX n fa fn own xs).obs s := by
  have e : g = s.heap.get? := funext h
  rw [e]
  rfl
theorem lookup_get {α : Type} {x : Str} {y : α} : ∀ {l : List (Str × α)}, l.lookup x = some y → ∃ j : Nat, l[j]? = some (x, y)
  | [], h => by cases h
  | (a, b) :: l, h => by
    rw [List.lookup_cons] at h
    cases e : x == a with
    | true =>
      rw [e] at h
      cases h
      obtain rfl := eq_of_beq e
      exact ⟨0, rfl⟩
    | false =>
      rw [e] at h
      obtain ⟨j, hj⟩ := lookup_get h
      exact ⟨j + 1, by simpa using hj⟩
theorem fact_mem {fa : List He.Fa} {fn : List He.DefD} {K : PySem.W.Frag} (c : He.SaysD fa fn K) {f : He.Fa} (h : f ∈ fa) : He.Fa.ok K f = true := by
  obtain ⟨i, hi⟩ := List.getElem?_of_mem h
  exact c.fact i hi
section
variable {P : Program} {w : World} {K : PySem.W.Frag} {h : Heap} {mg : Str → Option Value} {base : Heap} {top : Nat → Stmt} {defs : List DefI} {gints : List (Str × Int)} {xs : List Str} {inis : List IniI}
theorem fnAt_all (X : K.In h) (G : h.Ns mainGlobals mg) (c : He.SaysD (factsOf defs gints xs) (fnsOf top defs inis) K)
    (hok : (defs.all fun x => okDef (tabOf defs gints xs) (top x.2.1) x.2.2) = true) (hb : ∀ x ∈ defs, BindP (defArgs (top x.2.1)) x.2.2.ps) :
    ∀ f g, (tabOf defs gints xs).fn f = some g → ∃ A : FnAt ⟨P, w, K, mg, base, xs⟩ (tabOf defs gints xs) f g, ∀ (s : Shared) (us : List Value), us.length = g.ps.length → BindsTo s A.fd { pos := us } (g.ps.zip us) := by
  intro f g e
  have e : (defs.lookup f).map (fun p => p.2) = some g := e
  cases e2 : defs.lookup f with
  | none => rw [e2] at e; cases e
  | some p =>
    rw [e2] at e
    obtain ⟨i, g2⟩ := p
    have e3 : g2 = g := Option.some.inj e
    subst e3
    obtain ⟨j, hj⟩ := lookup_get e2
    have hm : (f, i, g2) ∈ defs := List.mem_of_getElem? hj
    have ok := List.all_eq_true.mp hok _ hm
    have hb := hb _ hm
    unfold okDef at ok
    simp only [Bool.and_eq_true, decide_eq_true_eq] at ok
    obtain ⟨o1, o2, o3⟩ := ok
    obtain ⟨fd, F⟩ := c.def_ j (d := dOf top (f, i, g2)) (by unfold fnsOf; rw [List.getElem?_append_left (by rw [List.length_map]; exact (List.getElem?_eq_some_iff.mp hj).1), List.getElem?_map, hj]; rfl)
    have F : FunD K f f (defArgs (top i)) (defBody (top i)) (defScope (top i)) [] [] (He.fAd K (f, none)) fd := F
    have gl := He.glo_ok X G (x := f) (fact_mem c (by unfold factsOf; exact List.mem_append_left _ (List.mem_map.mpr ⟨_, hm, rfl⟩)))
    exact ⟨{ fa := _, fd := fd, qual := f, params := _, body := _, scope := _, hm := gl, fun_ := F, sco := sc_ok o1, bind := F.bindsN (ps := g2.ps) fun kV doc pm an cdv ct us hl => hb f f _ _ kV doc pm an cdv ct us hl, chk := o2, pin := o3 },
      F.bindsA (ps := g2.ps) fun kV doc pm an cdv ct us hl => hb f f _ _ kV doc pm an cdv ct us hl⟩
theorem wok_of (X : K.In h) (G : h.Ns mainGlobals mg) (c : He.SaysD (factsOf defs gints xs) (fnsOf top defs inis) K) : Wok ⟨P, w, K, mg, base, xs⟩ :=
  ⟨fun x hx => He.free_ok X G (fact_mem c (by unfold factsOf; exact List.mem_append_right _ (List.mem_append_left _ (List.mem_map.mpr ⟨x, hx, rfl⟩))))⟩
theorem knowG_of (X : K.In h) (G : h.Ns mainGlobals mg) (c : He.SaysD (factsOf defs gints xs) (fnsOf top defs inis) K) : KnowG ⟨P, w, K, mg, base, xs⟩ (tabOf defs gints xs) := by
  intro x d e
  have e : (gints.lookup x).map D.int = some d := e
  cases e2 : gints.lookup x with
  | none => rw [e2] at e; cases e
  | some i =>
    rw [e2] at e
    cases e
    obtain ⟨j, hj⟩ := lookup_get e2
    have hm : (x, i) ∈ gints := List.mem_of_getElem? hj
    obtain ⟨t, ht⟩ := He.int_ok X G (x := x) (i := i) (fact_mem c (by unfold factsOf; exact List.mem_append_right _ (List.mem_append_right _ (List.mem_append_left _ (List.mem_map.mpr ⟨_, hm, rfl⟩)))))
    exact ⟨.int i, _, ht, ⟨t, rfl⟩, fun _ _ _ => .int _⟩
theorem eqO' {a b : Option (Option Value)} (h : He.eqO a b = true) : a = b := He.eqO_ok h
theorem knowX_of (X : K.In h) (G : h.Ns mainGlobals mg) (c : He.SaysD (factsOf defs gints xs) (fnsOf top defs inis) K) (ex : xcB (inis.map (·.1)) xs K = true)
    (hi : (inis.all fun x => iniB x.1 (defScope (iniSt (top x.2.2))) (defBody (iniSt (top x.2.2)))) = true) (hb : ∀ x ∈ inis, BindP (defArgs (iniSt (top x.2.2))) (iniPs x.1)) : KnowX ⟨P, w, K, mg, base, xs⟩ (tabOf defs gints xs) := by
  cases hx : xs.isEmpty with
  | true =>
    have e : xs = [] := List.isEmpty_iff.mp hx
    subst e
    exact ⟨rfl, fun c z => (nomatch z), fun c z => (nomatch z)⟩
  | false =>
  unfold xcB at ex
  rw [hx] at ex
  simp only [Bool.false_or, Bool.and_eq_true] at ex
  obtain ⟨⟨⟨e0, e1⟩, e2, e3, e4⟩, e5, e6⟩ := ex
  have hfa : ∀ f, f ∈ xfacts xs → He.Fa.ok K f = true := fun f hf => fact_mem c (by unfold factsOf; exact List.mem_append_right _ (List.mem_append_right _ (List.mem_append_right _ hf)))
  have xf : xfacts xs = .free "ValueError" :: .glo "MarkError" :: xs.map .glo := by unfold xfacts; rw [hx]; rfl
  have hVE : mg "ValueError" = none := He.free_ok X G (hfa _ (by rw [xf]; exact List.mem_cons_self))
  have hME : mg "MarkError" = some (.ref (He.ga K "MarkError")) := He.glo_ok X G (hfa _ (by rw [xf]; exact List.mem_cons_of_mem _ List.mem_cons_self))
  have hgl : ∀ d ∈ xs, mg d = some (.ref (He.ga K d)) := fun d hd => He.glo_ok X G (hfa _ (by rw [xf]; exact List.mem_cons_of_mem _ (List.mem_cons_of_mem _ (List.mem_map.mpr ⟨d, hd, rfl⟩))))
  have fnd : ∀ d, (inis.map (·.1)).contains d = true → ∃ qual i fd, FunD K "__init__" qual (defArgs (iniSt (top i))) (defBody (iniSt (top i))) (defScope (iniSt (top i))) [] [] (He.ma K (He.ga K d) "__init__") fd ∧ iniB d (defScope (iniSt (top i))) (defBody (iniSt (top i))) = true ∧ BindP (defArgs (iniSt (top i))) (iniPs d) := by
    intro d hd
    have hd : d ∈ inis.map (·.1) := by simpa using hd
    obtain ⟨x, hx, rfl⟩ := List.mem_map.mp hd
    obtain ⟨d, qual, i⟩ := x
    obtain ⟨j, hj⟩ := List.getElem?_of_mem hx
    obtain ⟨fd, F⟩ := c.def_ (defs.length + j) (d := iniD top (d, qual, i)) (by unfold fnsOf; rw [List.getElem?_append_right (by rw [List.length_map]; omega), List.length_map, Nat.add_sub_cancel_left, List.getElem?_map, hj]; rfl)
    exact ⟨qual, i, fd, F, List.all_eq_true.mp hi _ hx, hb _ hx⟩
  have m0 : fieldOf "MarkError" = none := fld_mark
  -- MarkError.__init__
  obtain ⟨qM, iM, fdM, FM, bM, pM⟩ := fnd "MarkError" e0
  unfold iniB iniPs at bM
  rw [m0] at bM
  simp only [Bool.and_eq_true] at bM
  have pM : BindP (defArgs (iniSt (top iM))) ["self"] := by unfold iniPs at pM; rw [m0] at pM; exact pM
  have bindM : Binds K fdM ["self"] [] := FM.bindsN (ps := ["self"]) fun kV doc pm an cdv ct us hl => pM _ _ _ _ kV doc pm an cdv ct us hl
  have FM1 : ∀ k, FnOk P w K mg base (L2.CX P w) (k + 1) (He.ma K (He.ga K "MarkError") "__init__") fdM ["self"] (sp0 K) := fun k => ini0_ok FM bM.1 bM.2.2 hVE (fcB_ok e4)
  refine ⟨rfl, fun d hd => ?_, fun d hd b hb' C B hC hB => ?_⟩
  · have hd : d ∈ xs := hd
    have o := List.all_eq_true.mp e5 d hd
    unfold exOne at o
    simp only [Bool.and_eq_true, decide_eq_true_eq] at o
    obtain ⟨o1, o2, o3, o4, o5, o6, o7, o8⟩ := o
    have oex : OexC K (He.ga K d) := ⟨oexB_ok o1, eqO' o2, o3, o4, o5⟩
    refine ⟨He.ga K d, hgl d hd, oex, ?_, ?_⟩
    · cases hf : fieldOf d with
      | none =>
        rw [hf] at o8
        have o8 : iniOf (inis.map (·.1)) d = "MarkError" := of_decide_eq_true o8
        unfold iniAt at o6 o7
        rw [o8] at o6 o7
        refine ⟨_, fdM, ["self"], sp0 K, eqO' o6, o7, bindM, FM1 1, ?_⟩
        unfold IniSp
        rw [hf]
        exact fun a H Q E h q => ⟨a, _, rfl, oex, h, q⟩
      | some f =>
        rw [hf] at o8
        simp only [Bool.and_eq_true] at o8
        obtain ⟨p1, p2, p3, p4, p5⟩ := o8
        have ei : iniOf (inis.map (·.1)) d = d := by unfold iniOf; rw [if_pos p1]
        unfold iniAt at o6 o7
        rw [ei] at o6 o7
        obtain ⟨qd, id, fdd, Fd, bd, pd⟩ := fnd d p1
        unfold iniB iniPs at bd
        rw [hf] at bd
        simp only [Bool.and_eq_true] at bd
        have pd : BindP (defArgs (iniSt (top id))) ["self", f] := by unfold iniPs at pd; rw [hf] at pd; exact pd
        have bindD : Binds K fdd ["self", f] [] := Fd.bindsN (ps := ["self", f]) fun kV doc pm an cdv ct us hl => pd _ _ _ _ kV doc pm an cdv ct us hl
        refine ⟨_, fdd, ["self", f], sp1 K f, eqO' o6, o7, bindD, ini1_ok (k := 1) Fd bd.1 bd.2 hME ⟨e1, eqO' e2⟩ ⟨fcB_ok e3, rfl⟩ (FM1 0) bindM FM.kp, ?_⟩
        unfold IniSp
        rw [hf]
        exact fun a y H Q E h q => ⟨a, _, y, rfl, oex, eqO' p5, h, q⟩
    · intro f hf
      rw [hf] at o8
      simp only [Bool.and_eq_true] at o8
      obtain ⟨p1, p2, p3, p4, p5⟩ := o8
      exact ⟨⟨eqO' p2, eqO' p3, o3, p4⟩, eqO' p5⟩
  · have hC : mg d = some (.ref C) := hC
    have hB : mg b = some (.ref B) := hB
    rw [hgl d hd] at hC
    rw [hgl b hb'] at hB
    cases hC
    cases hB
    exact of_decide_eq_true (List.all_eq_true.mp (List.all_eq_true.mp e6 d hd) b hb')
end
theorem scr_ok {Kf : PySem.W.Frag} {H : Hp} {a : Addr} {ns : List Int} (hs : SqL Kf H a (ns.map V.int)) (hz : ns.length ≤ sizeLine) : ∃ F, Ok Kf F H (fun _ => False) [some (.ref a)] [some (.d (.scr ns))] [] := by
  rcases hs with hs | hs
  · refine ⟨fun b => b = a, fun b hb => ?_, Rs.on (L1 := []) (L2 := []) (.d (.scr rfl hs hz)) .nil, List.nodup_nil, fun _ z => z.elim⟩
    obtain rfl := hb
    rcases hs with hs | ⟨o, hs⟩
    · rw [hs]; exact fun z => nomatch z
    · rw [hs]; exact fun z => nomatch z
  · exact ⟨fun _ => False, fun b hb => hb.elim, Rs.on (L1 := []) (L2 := []) (.d (.scrK (fun H' => .inr hs) hz)) .nil, List.nodup_nil, fun _ z => z.elim⟩
theorem walk {l : PySem.W.OpenLaw} {k0 k N i : Nat} {q : Program} {loose : List Str} {XP : (Str → Option Value) → Heap → Prop} {d : DefRec} {top : Nat → Stmt} {defs : List DefI} {gints : List (Str × Int)} {xs : List Str} {inis : List IniI} {g : Fn}
    (hm : l.most = some 63) (hk : k = k0 + 1) (hdf : d.params.defaults = []) (hname : d.name = ("law" : Str)) (hr : Room k callerA)
    (hok : (defs.all fun x => okDef (tabOf defs gints xs) (top x.2.1) x.2.2) = true) (hb : ∀ x ∈ defs, BindP (defArgs (top x.2.1)) x.2.2.ps)
    (hin : (inis.all fun x => iniB x.1 (defScope (iniSt (top x.2.2))) (defBody (iniSt (top x.2.2)))) = true) (hbi : ∀ x ∈ inis, BindP (defArgs (iniSt (top x.2.2))) (iniPs x.1))
    (hl : defs.lookup ("law" : Str) = some (i, g)) (hp : g.ps = [("script" : Str)]) (hpin : g.pins = 0)
    (pure : ∀ ns : List Int, ns.length ≤ 63 → (∀ z ∈ ns, Builtin.Int.intBits z ≤ 1048576) → ∃ outs, evCall (tabOf defs gints xs) k ("law" : Str) [.d (.scr ns)] = .ok (.d (.bl true)) outs) :
    PySem.W.WalkO q loose XP (hookX N (factsOf defs gints xs) (fnsOf top defs inis) (inis.map (·.1)) xs).says l.row.toRowW d [] fun f vs => call f vs := by
  refine LamX.walk_ofTsE (n := 63) (k := k) (x := "script") (CX := fun w => L2.CX l.prog w) hm (by rw [sizeLine_eq]; decide) hdf hr ?_ (fun w H s e s' hh => cx_no hh)
  intro w mg fa h Y G hmg
  obtain ⟨K, KX, c, ex⟩ := Y
  refine ⟨K, KX, ?_⟩
  rw [hname] at hmg
  have hfn : (tabOf defs gints xs).fn ("law" : Str) = some g := by show (defs.lookup ("law" : Str)).map (fun p => p.2) = some g; rw [hl]; rfl
  obtain ⟨A0, B0⟩ := fnAt_all (P := l.prog) (w := w) (base := h) KX G c hok hb ("law" : Str) g hfn
  have e0 : fa = A0.fa := by
    have e : (Value.ref fa) = Value.ref A0.fa := Option.some.inj (hmg.symm.trans A0.hm)
    injection e
  subst e0
  subst hk
  refine ⟨A0.fd, [], spF ⟨l.prog, w, K, mg, h, xs⟩ (evCall (tabOf defs gints xs) (k0 + 1)) ("law" : Str) g.ps, fun _ z => (nomatch z), fun _ z => (nomatch z), fun _ z => (nomatch z), fun s u => ?_, fun H a ns hn hbits _ hs => ?_, fun base KB GB _ => ?_⟩
  · have := B0 s [u] (by rw [hp]; rfl)
    rw [hp] at this
    exact this
  · obtain ⟨F, ok⟩ := scr_ok hs (Nat.le_trans hn (by rw [sizeLine_eq]; decide))
    obtain ⟨outs, eo⟩ := pure ns hn hbits
    refine ⟨by rw [hp]; rfl, F, _, [], [.d (.scr ns)], ok, ?_⟩
    rw [eo]
    intro v F' H' Lm L' st rv _
    cases rv.rep with
    | d r => cases r; rfl
  · have kx : KnowX ⟨l.prog, w, K, mg, base, xs⟩ (tabOf defs gints xs) := knowX_of KX G c ex hin hbi
    have kn : Know ⟨l.prog, w, K, mg, base, xs⟩ (tabOf defs gints xs) k0 := know_all (wok_of KX G c) (knowG_of KX G c) kx (fun f g e => let ⟨A, _⟩ := fnAt_all KX G c hok hb f g e; ⟨A⟩) k0
    have F := fn_ok (wok_of KX G c) (knowG_of KX G c) kx kn hfn { fa := A0.fa, fd := A0.fd, qual := A0.qual, params := A0.params, body := A0.body, scope := A0.scope, hm := A0.hm, fun_ := A0.fun_, sco := A0.sco, bind := A0.bind, chk := A0.chk, pin := A0.pin }
    have F : FnOk l.prog w K mg base (L2.CX l.prog w) (k0 + 1) A0.fa A0.fd g.ps (spF ⟨l.prog, w, K, mg, base, xs⟩ (evCall (tabOf defs gints xs) (k0 + 1)) ("law" : Str) g.ps) := F
    rw [hp] at F ⊢
    exact F
end PV
/-! # PV22: evaluating the IR, in plain Lean -/
namespace PV
open PySem
theorem callS_eq {T : Tab} {n : Nat} {f : Str} {g : Fn} {ms : List M} (h : T.fn f = some g) (hl : ms.length = g.ps.length) :
    evCall T (n + 1) f ms = finish g.pins (evSs ⟨evCall T n, g.pins, T.glob, n⟩ g.body (ms.map some ++ List.replicate (g.ns.length - ms.length) none)) := by
  rw [evCall, h]
  show (if ms.length = g.ps.length then _ else _) = _
  rw [if_pos hl]
@[simp] theorem R.bind_ok {α β : Type} (x : α) (s : Sl) (f : α → Sl → R β) : (R.ok x s).bind f = f x s := (rfl)
@[simp] theorem R.thenS_ok {α : Type} (x : α) (s : Sl) (f : α → Sl → O) : (R.ok x s).thenS f = f x s := (rfl)
@[simp] theorem O.then_nx (s : Sl) (f : Sl → O) : (O.nx s).then_ f = f s := (rfl)
@[simp] theorem O.then_ret (m : M) (s : Sl) (f : Sl → O) : (O.ret m s).then_ f = .ret m s := (rfl)
@[simp] theorem O.then_brk (s : Sl) (f : Sl → O) : (O.brk s).then_ f = .brk s := (rfl)
@[simp] theorem O.then_cnt (s : Sl) (f : Sl → O) : (O.cnt s).then_ f = .cnt s := (rfl)
@[simp] theorem frz_d (d : D) : frz (.d d) = d := (rfl)
@[simp] theorem frz_lst (l : List M) : frz (.lst l) = .lst (frzs l) := (rfl)
@[simp] theorem frzs_map (l : List D) : frzs (l.map .d) = l := frzs_d l
@[simp] theorem frzs_nil : frzs [] = [] := (rfl)
@[simp] theorem frzs_cons (m : M) (l : List M) : frzs (m :: l) = frz m :: frzs l := (rfl)
theorem run1 {C : Cc} {st : S} {r : List S} {s s1 : Sl} {o : O} (h : evS C st s = .nx s1) (hr : evSs C r s1 = o) : evSs C (st :: r) s = o := by rw [evSs, h, ← hr]; exact O.then_nx _ _
theorem runR {C : Cc} {st : S} {r : List S} {s s1 : Sl} {m : M} (h : evS C st s = .ret m s1) : evSs C (st :: r) s = .ret m s1 := by rw [evSs, h]; exact O.then_ret _ _ _
theorem run0 {C : Cc} {s : Sl} : evSs C [] s = .nx s := by rw [evSs]
theorem isi_ok {one : Bool} {ts : List String} {x : D} (h : (ts.all (fun t => okTys.contains t) = true ∧ (one = true → ts.length = 1) ∧ ts.length ≤ szl)) : prim (.isi one ts) [x] = some (.d (.bl (isiD (tyD x) ts))) := if_pos h
@[simp] theorem isi_int (x : D) : prim (.isi true ["int"]) [x] = some (.d (.bl (isiD (tyD x) ["int"]))) := isi_ok (by decide)
@[simp] theorem isi_bool (x : D) : prim (.isi true ["bool"]) [x] = some (.d (.bl (isiD (tyD x) ["bool"]))) := isi_ok (by decide)
@[simp] theorem isi_str (x : D) : prim (.isi true ["str"]) [x] = some (.d (.bl (isiD (tyD x) ["str"]))) := isi_ok (by decide)
@[simp] theorem isi_tuple (x : D) : prim (.isi true ["tuple"]) [x] = some (.d (.bl (isiD (tyD x) ["tuple"]))) := isi_ok (by decide)
@[simp] theorem isi_list (x : D) : prim (.isi true ["list"]) [x] = some (.d (.bl (isiD (tyD x) ["list"]))) := isi_ok (by decide)
@[simp] theorem isi_dict (x : D) : prim (.isi true ["dict"]) [x] = some (.d (.bl (isiD (tyD x) ["dict"]))) := isi_ok (by decide)
@[simp] theorem isi_tl (x : D) : prim (.isi false ["tuple", "list"]) [x] = some (.d (.bl (isiD (tyD x) ["tuple", "list"]))) := isi_ok (by decide)
@[simp] theorem p_add (i j : Int) : prim .add [.int i, .int j] = some (.d (.int (i + j))) := rfl
@[simp] theorem p_sub (i j : Int) : prim .sub [.int i, .int j] = some (.d (.int (i - j))) := rfl
@[simp] theorem p_neg (i : Int) : prim .neg [.int i] = some (.d (.int (-i))) := rfl
@[simp] theorem p_lt (i j : Int) : prim .lt [.int i, .int j] = some (.d (.bl (decide (i < j)))) := rfl
@[simp] theorem p_le (i j : Int) : prim .le [.int i, .int j] = some (.d (.bl (decide (i ≤ j)))) := rfl
@[simp] theorem p_gt (i j : Int) : prim .gt [.int i, .int j] = some (.d (.bl (decide (j < i)))) := rfl
@[simp] theorem p_ge (i j : Int) : prim .ge [.int i, .int j] = some (.d (.bl (decide (j ≤ i)))) := rfl
@[simp] theorem p_isN (x : D) : prim .isN [x] = some (.d (.bl (isNon x))) := by show some (M.d (.bl (isNon x != false))) = _; simp
@[simp] theorem p_notN (x : D) : prim .notN [x] = some (.d (.bl (!isNon x))) := by show some (M.d (.bl (isNon x != true))) = _; simp
@[simp] theorem p_isB (b c : Bool) : prim (.isB b) [.bl c] = some (.d (.bl (c == b))) := by show some (M.d (.bl ((c == b) != false))) = _; simp
@[simp] theorem p_notB (b c : Bool) : prim (.notB b) [.bl c] = some (.d (.bl (!(c == b)))) := by show some (M.d (.bl ((c == b) != true))) = _; simp
@[simp] theorem p_lenT (l : List D) : prim .len [.tup l] = some (.d (.int l.length)) := rfl
@[simp] theorem p_lenL (l : List D) : prim .len [.lst l] = some (.d (.int l.length)) := rfl
@[simp] theorem p_tupleL (l : List D) : prim .tuple [.lst l] = some (.d (.tup l)) := rfl
@[simp] theorem p_tupleT (l : List D) : prim .tuple [.tup l] = some (.d (.tup l)) := rfl
@[simp] theorem p_listT (l : List D) : prim .list [.tup l] = some (.lst (l.map .d)) := rfl
@[simp] theorem p_listL (l : List D) : prim .list [.lst l] = some (.lst (l.map .d)) := rfl
@[simp] theorem p_int (i : Int) : prim .int [.int i] = some (.d (.int i)) := rfl
@[simp] theorem p_abs (i : Int) : prim .abs [.int i] = some (.d (.int (if i < 0 then -i else i))) := rfl
@[simp] theorem p_min2 (i j : Int) : prim .min2 [.int i, .int j] = some (.d (.int (if j < i then j else i))) := rfl
@[simp] theorem p_max2 (i j : Int) : prim .max2 [.int i, .int j] = some (.d (.int (if j > i then j else i))) := rfl
@[simp] theorem p_revT (l : List D) : prim .rev [.tup l] = some (.d (.tup l.reverse)) := rfl
@[simp] theorem p_revL (l : List D) : prim .rev [.lst l] = some (.lst (l.reverse.map .d)) := rfl
theorem p_tupd {l : List D} (h : l.length ≤ szl) : prim .tupd l = some (.d (.tup l)) := if_pos h
theorem p_all {l : List D} {bs : List Bool} (h : l = bs.map .bl) : prim .all [.lst l] = some (.d (.bl (bs.all id))) := by
  subst h
  have e : ∀ bs : List Bool, blsD (bs.map D.bl) = some bs := by
    intro bs
    induction bs with
    | nil => rfl
    | cons b bs ih => show (blsD (bs.map D.bl)).map (b :: ·) = _; rw [ih]; rfl
  show (blsD (bs.map D.bl)).map (fun bs => M.d (.bl (if false = true then bs.any id else bs.all id))) = _
  rw [e]
  rfl
theorem p_mod {i j : Int} (h : 0 < j) : prim .mod [.int i, .int j] = some (.d (.int (i % j))) := if_pos h
theorem p_fdiv {i j : Int} (h : 0 < j ∧ j.natAbs.log2 < 9000) : prim .fdiv [.int i, .int j] = some (.d (.int (i / j))) := if_pos h
theorem p_pow {i j : Int} (h : 0 ≤ j ∧ j ≤ 1000000 ∧ i.natAbs < 2 ^ 64) : prim .pow [.int i, .int j] = some (.d (.int (i ^ j.toNat))) := if_pos h
theorem p_mulR {i j : Int} (h : -2 ^ 64 < j ∧ j < 2 ^ 64) : prim .mul [.int i, .int j] = some (.d (.int (i * j))) := if_pos (.inr (.inr h))
theorem p_mulL {i j : Int} (h : -2 ^ 64 < i ∧ i < 2 ^ 64) : prim .mul [.int i, .int j] = some (.d (.int (i * j))) := if_pos (.inr (.inl h))
theorem eqD_int (i j : Int) : eqD (.int i) (.int j) = some (decide (i = j)) := by
  show (if SeqAt.shaped (.int i) = true ∧ SeqAt.shaped (.int j) = true then some (PyData.eqv (.int i) (.int j)) else none) = _
  rw [if_pos ⟨rfl, rfl⟩]
  rfl
@[simp] theorem p_eqI (i j : Int) : prim .eq [.int i, .int j] = some (.d (.bl (decide (i = j)))) := by
  show (eqD (.int i) (.int j)).map (fun b => M.d (.bl (b != false))) = _
  rw [eqD_int]; simp
@[simp] theorem p_neI (i j : Int) : prim .ne [.int i, .int j] = some (.d (.bl (decide (i ≠ j)))) := by
  show (eqD (.int i) (.int j)).map (fun b => M.d (.bl (b != true))) = _
  rw [eqD_int]; simp
theorem eqD_bl (i j : Bool) : eqD (.bl i) (.bl j) = some (i == j) := by cases i <;> cases j <;> rfl
@[simp] theorem p_eqB (i j : Bool) : prim .eq [.bl i, .bl j] = some (.d (.bl (i == j))) := by
  show (eqD (.bl i) (.bl j)).map (fun b => M.d (.bl (b != false))) = _
  rw [eqD_bl]; simp
@[simp] theorem p_neB (i j : Bool) : prim .ne [.bl i, .bl j] = some (.d (.bl (i != j))) := by
  show (eqD (.bl i) (.bl j)).map (fun b => M.d (.bl (b != true))) = _
  rw [eqD_bl]; cases i <;> cases j <;> rfl
end PV
/-! # PV23: loops and comprehensions of the IR, in plain Lean -/
namespace PV
open PySem
@[simp] theorem fin_ret0 (m : M) (s : Sl) : finish 0 (.ret m s) = .ok m [] := (rfl)
@[simp] theorem fin_ret1 (m x : M) (s : Sl) : finish 1 (.ret m (some x :: s)) = .ok m [x] := (rfl)
@[simp] theorem fin_ret2 (m x y : M) (s : Sl) : finish 2 (.ret m (some x :: some y :: s)) = .ok m [x, y] := (rfl)
@[simp] theorem fin_nx0 (s : Sl) : finish 0 (.nx s) = .ok (.d .non) [] := (rfl)
@[simp] theorem fin_nx1 (x : M) (s : Sl) : finish 1 (.nx (some x :: s)) = .ok (.d .non) [x] := (rfl)
@[simp] theorem p_ixT (l : List D) (i : Int) : prim .ix [.tup l, .int i] = (L2.atI l i).map .d := rfl
@[simp] theorem p_ixL (l : List D) (i : Int) : prim .ix [.lst l, .int i] = (L2.atI l i).map .d := rfl
theorem atI_nat {α : Type} (l : List α) (i : Nat) (h : i < l.length) : L2.atI l (i : Int) = l[i]? := by
  unfold L2.atI L2.ixN
  have h1 : (0 : Int) ≤ (i : Int) := Int.natCast_nonneg i
  have h2 : (i : Int) < (l.length : Int) := by omega
  simp [h1, h2]
theorem atI_int {α : Type} (l : List α) (i : Int) (h1 : 0 ≤ i) (h2 : i < l.length) : L2.atI l i = l[i.toNat]? := by
  obtain ⟨k, rfl⟩ := Int.eq_ofNat_of_zero_le h1
  exact atI_nat l k (by omega)
@[simp] theorem atI_zero {α : Type} (a : α) (l : List α) : L2.atI (a :: l) 0 = some a := atI_nat (a :: l) 0 (by simp)
@[simp] theorem atI_one {α : Type} (a b : α) (l : List α) : L2.atI (a :: b :: l) 1 = some b := atI_nat (a :: b :: l) 1 (by simp)
@[simp] theorem atI_two {α : Type} (a b c : α) (l : List α) : L2.atI (a :: b :: c :: l) 2 = some c := atI_nat (a :: b :: c :: l) 2 (by simp)
@[simp] theorem atI_three {α : Type} (a b c d : α) (l : List α) : L2.atI (a :: b :: c :: d :: l) 3 = some d := atI_nat (a :: b :: c :: d :: l) 3 (by simp)
@[simp] theorem atI_four {α : Type} (a b c d e : α) (l : List α) : L2.atI (a :: b :: c :: d :: e :: l) 4 = some e := atI_nat (a :: b :: c :: d :: e :: l) 4 (by simp)
theorem it_r1 {n : Int} (h1 : -(2 ^ 62) ≤ n) (h2 : n ≤ 16777216) : items .range1 [.int n] = some ((List.range n.toNat).map fun (i : Nat) => D.int (0 + (i : Int))) := if_pos ⟨h1, h2⟩
theorem it_r2 {a b : Int} (h1 : -(2 ^ 62) ≤ a) (h2 : a < 2 ^ 62) (h3 : -(2 ^ 62) ≤ b) (h4 : b < 2 ^ 62) (h5 : b - a ≤ 16777216) : items .range2 [.int a, .int b] = some ((List.range (b - a).toNat).map fun (i : Nat) => D.int (a + (i : Int))) := if_pos ⟨h1, h2, h3, h4, h5⟩
theorem atI_mem {α : Type} {l : List α} {r : Int} (h1 : 0 ≤ r) (h2 : r < l.length) : ∃ d ∈ l, L2.atI l r = some d := by
  rw [atI_int l r h1 h2]
  have h : r.toNat < l.length := by omega
  exact ⟨l[r.toNat], List.getElem_mem h, List.getElem?_eq_getElem h⟩
theorem cut_from {α : Type} (l : List α) {i : Int} (h : 0 ≤ i) : cutG l (some i) none = l.drop i.toNat := by
  unfold cutG HT.sIx
  have h1 : ¬ i < 0 := by omega
  simp only [h1, if_false]
  by_cases h2 : i.toNat ≤ l.length
  · rw [Nat.min_eq_left h2, List.take_of_length_le (by rw [List.length_drop]; exact Nat.le_refl _)]
  · rw [Nat.min_eq_right (by omega), List.drop_eq_nil_of_le (Nat.le_refl _), List.drop_eq_nil_of_le (by omega), List.take_nil]
theorem cut_to {α : Type} (l : List α) {i : Int} (h : 0 ≤ i) : cutG l none (some i) = l.take i.toNat := by
  unfold cutG HT.sIx
  have h1 : ¬ i < 0 := by omega
  simp only [h1, if_false, List.drop_zero, Nat.sub_zero]
  by_cases h2 : i.toNat ≤ l.length
  · rw [Nat.min_eq_left h2]
  · rw [Nat.min_eq_right (by omega), List.take_of_length_le (Nat.le_refl _), List.take_of_length_le (by omega)]
theorem p_from (l : List D) {i : Int} (h : 0 ≤ i) : prim (.sl true false) [.tup l, .int i] = some (.d (.tup (l.drop i.toNat))) := by
  rw [← cut_from l h]; rfl
theorem p_to (l : List D) {i : Int} (h : 0 ≤ i) : prim (.sl false true) [.tup l, .int i] = some (.d (.tup (l.take i.toNat))) := by
  rw [← cut_to l h]; rfl
@[simp] theorem frzs_comp {α : Type} (f : α → D) (l : List α) : frzs (l.map (M.d ∘ f)) = l.map f := by rw [← List.map_map]; exact frzs_d _
@[simp] theorem frzs_take {α : Type} (f : α → M) (k : Nat) (l : List α) : frzs ((l.map f).take k) = (frzs (l.map f)).take k := by
  rw [← List.map_take]
  induction l generalizing k with
  | nil => cases k <;> rfl
  | cons a l ih =>
    cases k with
    | zero => rfl
    | succ k => show frz (f a) :: frzs ((l.take k).map f) = frz (f a) :: (frzs (l.map f)).take k; rw [ih]
theorem loopC_map {f : D → Sl → R (Option D)} {g : D → D} {s : Sl} : ∀ {ds : List D}, (∀ d ∈ ds, f d s = .ok (some (g d)) s) → loopC f ds s = .ok (ds.map g) s
  | [], _ => rfl
  | d :: ds, h => by
    unfold loopC
    rw [h d List.mem_cons_self]
    show R.bind (loopC f ds s) _ = _
    rw [loopC_map fun x hx => h x (List.mem_cons_of_mem _ hx)]
    rfl
theorem lc_map {C : Cc} {elt : E} {tg : Tg} {ik : IK} {ias : List E} {s s1 : Sl} {ds its : List D} {g : D → D} (hi : evs C ias s = .ok ds s1) (hit : items ik ds = some its) (hp : tg.vars.all (plainAt s1) = true)
    (hb : ∀ d ∈ its, ∃ s2 m s3, bindT C.pins tg (.d d) (wipes s1 tg.vars) = some s2 ∧ ev C elt s2 = .ok m s3 ∧ frz m = g d ∧ wipes s3 tg.vars = wipes s1 tg.vars) :
    ev C (.lc elt tg ik ias []) s = .ok (.lst ((its.map g).map .d)) (backs s1 (wipes s1 tg.vars) tg.vars) := by
  rw [lc_eq]
  unfold fLc fI
  rw [hi]
  show R.bind (match items ik ds with | some its => .ok its s1 | none => .bad) _ = _
  rw [hit]
  show (if tg.vars.all (plainAt s1) = true then _ else _) = _
  rw [if_pos hp]
  have e : loopC (lcTurn C.pins tg (evi C []) (ev C elt)) its (wipes s1 tg.vars) = .ok (its.map g) (wipes s1 tg.vars) := loopC_map fun d hd => by
    obtain ⟨s2, m, s3, h1, h2, h3, h4⟩ := hb d hd
    unfold lcTurn
    rw [h1]
    have e1 : evi C [] s2 = .ok true s2 := by rw [evi]
    simp [e1, h2, h3, h4]
  rw [e]
  rfl
theorem all_lc {C : Cc} {elt : E} {tg : Tg} {ik : IK} {ias : List E} {s s1 : Sl} {ds its : List D} {p : D → Bool} (hi : evs C ias s = .ok ds s1) (hit : items ik ds = some its) (hp : tg.vars.all (plainAt s1) = true)
    (hb : ∀ d ∈ its, ∃ s2 m s3, bindT C.pins tg (.d d) (wipes s1 tg.vars) = some s2 ∧ ev C elt s2 = .ok m s3 ∧ frz m = .bl (p d) ∧ wipes s3 tg.vars = wipes s1 tg.vars) :
    ev C (.op .all [.lc elt tg ik ias []]) s = .ok (.d (.bl (its.all p))) (backs s1 (wipes s1 tg.vars) tg.vars) := by
  have e := lc_map (C := C) (elt := elt) hi hit hp (g := fun d => .bl (p d)) hb
  have e2 : ∀ s, evs C [] s = .ok [] s := fun s => by rw [evs]
  rw [ev, evs, e]
  simp only [R.bind_ok, e2, frz_lst, frzs_map]
  rw [p_all (bs := its.map p) (by rw [List.map_map]; rfl), List.all_map]
  rfl
theorem forr_eq {C : Cc} {tg : Tg} {ik : IK} {ias : List E} {b : List S} {s s1 : Sl} {ds its : List D} (hi : evs C ias s = .ok ds s1) (hit : items ik ds = some its) : evS C (.forr tg ik ias b) s = loopS (stepS C.pins tg (evSs C b)) its s1 := by
  rw [evS, hi]
  show (match items ik ds with | some its => _ | none => _) = _
  rw [hit]
  rfl
theorem loopS_ret {f : D → Sl → O} {m : M} {P : Sl → Prop} {p : D → Bool} : ∀ {ds : List D} {s : Sl}, P s → (∀ d ∈ ds, ∀ s, P s → (p d = true ∧ ∃ s', f d s = .nx s' ∧ P s') ∨ (p d = false ∧ ∃ s', f d s = .ret m s')) →
    (ds.all p = true ∧ ∃ s', loopS f ds s = .nx s' ∧ P s') ∨ (ds.all p = false ∧ ∃ s', loopS f ds s = .ret m s')
  | [], s, hs, h => .inl ⟨rfl, s, rfl, hs⟩
  | d :: ds, s, hs, h => by
    rcases h d List.mem_cons_self s hs with ⟨h1, s', h2, h3⟩ | ⟨h1, s', h2⟩
    · rcases loopS_ret h3 (fun x hx => h x (List.mem_cons_of_mem _ hx)) with ⟨k1, s2, k2, k3⟩ | ⟨k1, s2, k2⟩
      · exact .inl ⟨by rw [List.all_cons, h1, k1]; rfl, s2, by unfold loopS; rw [h2]; exact k2, k3⟩
      · exact .inr ⟨by rw [List.all_cons, h1, k1]; rfl, s2, by unfold loopS; rw [h2]; exact k2⟩
    · exact .inr ⟨by rw [List.all_cons, h1]; rfl, s', by unfold loopS; rw [h2]⟩
theorem loopS_pre {f : D → Sl → O} {P : List D → Sl → Prop} {N : Nat} : ∀ {ds pre : List D} {s : Sl}, P pre s → pre.length + ds.length ≤ N → (∀ pre d s, d ∈ ds → pre.length < N → P pre s → ∃ s', f d s = .nx s' ∧ P (pre ++ [d]) s') → ∃ s', loopS f ds s = .nx s' ∧ P (pre ++ ds) s'
  | [], pre, s, hs, hN, h => ⟨s, rfl, by rw [List.append_nil]; exact hs⟩
  | d :: ds, pre, s, hs, hN, h => by
    rw [List.length_cons] at hN
    obtain ⟨s', h1, h2⟩ := h pre d s List.mem_cons_self (by omega) hs
    obtain ⟨s2, h3, h4⟩ := loopS_pre (ds := ds) (pre := pre ++ [d]) h2 (by rw [List.length_append]; show pre.length + 1 + ds.length ≤ N; omega) (fun pre x s hx => h pre x s (List.mem_cons_of_mem _ hx))
    exact ⟨s2, by unfold loopS; rw [h1]; exact h3, by rw [List.append_assoc] at h4; exact h4⟩
/-- a loop that always goes on -/
theorem loopS_inv {f : D → Sl → O} {P : Nat → Sl → Prop} : ∀ {ds : List D} {s : Sl} {i : Nat}, P i s → (∀ d ∈ ds, ∀ i s, P i s → ∃ s', f d s = .nx s' ∧ P (i + 1) s') → ∃ s', loopS f ds s = .nx s' ∧ P (i + ds.length) s'
  | [], s, i, hs, h => ⟨s, rfl, hs⟩
  | d :: ds, s, i, hs, h => by
    obtain ⟨s', h1, h2⟩ := h d List.mem_cons_self i s hs
    obtain ⟨s2, h3, h4⟩ := loopS_inv h2 (fun x hx => h x (List.mem_cons_of_mem _ hx))
    refine ⟨s2, by unfold loopS; rw [h1]; exact h3, ?_⟩
    rw [List.length_cons, Nat.add_comm ds.length 1, ← Nat.add_assoc]
    exact h4
end PV
/-! # PV24: while, in plain Lean -/
namespace PV
open PySem
theorem whileN_mono {t : Sl → R Bool} {f : Sl → O} : ∀ {n m : Nat} {s : Sl} {o : O}, n ≤ m → whileN t f n s = some o → whileN t f m s = some o
  | 0, _, _, _, _, h => by cases h
  | n + 1, 0, _, _, h, _ => absurd h (Nat.not_succ_le_zero n)
  | n + 1, m + 1, s, o, hle, h => by
    have ih : ∀ {s : Sl} {o : O}, whileN t f n s = some o → whileN t f m s = some o := fun h => whileN_mono (Nat.le_of_succ_le_succ hle) h
    unfold whileN at h ⊢
    cases e : t s with
    | bad => rw [e] at h; cases h
    | ex c as s1 => rw [e] at h; exact h
    | ok b s1 =>
      rw [e] at h
      cases b with
      | false => exact h
      | true =>
        have h : (match f s1 with
          | .nx s => whileN t f n s
          | .cnt s => whileN t f n s
          | .brk s => some (.nx s)
          | .bad => none
          | o => some o) = some o := h
        show (match f s1 with
          | .nx s => whileN t f m s
          | .cnt s => whileN t f m s
          | .brk s => some (.nx s)
          | .bad => none
          | o => some o) = some o
        cases ef : f s1 with
        | nx s2 => rw [ef] at h; exact ih h
        | cnt s2 => rw [ef] at h; exact ih h
        | brk s2 => rw [ef] at h; exact h
        | bad => rw [ef] at h; cases h
        | ret m2 s2 => rw [ef] at h; exact h
        | ex c as s2 => rw [ef] at h; exact h
theorem whileO_of {t : Sl → R Bool} {f : Sl → O} {n : Nat} {s : Sl} {o : O} (h : whileN t f n s = some o) : whileO t f s = o := by
  unfold whileO
  have c : ∃ n o, whileN t f n s = some o := ⟨n, o, h⟩
  rw [dif_pos c]
  have h2 := c.choose_spec.choose_spec
  have h3 := whileN_mono (Nat.le_max_left n c.choose) h
  have h4 := whileN_mono (Nat.le_max_right n c.choose) h2
  rw [h3] at h4
  exact (Option.some.inj h4).symm
theorem whileN_go {t : Sl → R Bool} {f : Sl → O} {n : Nat} {s s1 s2 : Sl} {o : O} (h1 : t s = .ok true s1) (h2 : f s1 = .nx s2) (h3 : whileN t f n s2 = some o) : whileN t f (n + 1) s = some o := by
  rw [whileN, h1]
  show (match f s1 with
    | .nx s => whileN t f n s
    | .cnt s => whileN t f n s
    | .brk s => some (.nx s)
    | .bad => none
    | o => some o) = some o
  rw [h2]
  exact h3
theorem whileN_end {t : Sl → R Bool} {f : Sl → O} {n : Nat} {s s1 : Sl} (h1 : t s = .ok false s1) : whileN t f (n + 1) s = some (.nx s1) := by
  rw [whileN, h1]
/-- a while that counts something down -/
theorem whileO_inv {t : Sl → R Bool} {f : Sl → O} {P : Nat → Sl → Prop} {Q : Sl → Prop}
    (h : ∀ k s, P k s → (∃ s1, t s = .ok false s1 ∧ Q s1) ∨ ∃ s1 s2 k2, t s = .ok true s1 ∧ f s1 = .nx s2 ∧ k2 < k ∧ P k2 s2) {k : Nat} {s : Sl} (hs : P k s) : ∃ s', whileO t f s = .nx s' ∧ Q s' := by
  have main : ∀ k s, P k s → ∃ n s', whileN t f n s = some (.nx s') ∧ Q s' := by
    intro k
    induction k using Nat.strongRecOn with
    | _ k ih =>
      intro s hs
      rcases h k s hs with ⟨s1, h1, h2⟩ | ⟨s1, s2, k2, h1, h2, h3, h4⟩
      · exact ⟨1, s1, whileN_end h1, h2⟩
      · obtain ⟨n, s', h5, h6⟩ := ih k2 h3 s2 h4
        exact ⟨n + 1, s', whileN_go h1 h2 h5, h6⟩
  obtain ⟨n, s', h1, h2⟩ := main k s hs
  exact ⟨s', whileO_of h1, h2⟩
theorem whl_eq {C : Cc} {c : E} {b : List S} {s : Sl} : evS C (.whl c b) s = whileO (fun s => evt C c s) (fun s => evSs C b s) s := by rw [evS]
theorem loopC_filt {f : D → Sl → R (Option D)} {g : D → D} {p : D → Bool} {s : Sl} : ∀ {ds : List D}, (∀ d ∈ ds, f d s = .ok (if p d = true then some (g d) else none) s) → loopC f ds s = .ok ((ds.filter p).map g) s
  | [], _ => rfl
  | d :: ds, h => by
    unfold loopC
    rw [h d List.mem_cons_self]
    show R.bind (loopC f ds s) _ = _
    rw [loopC_filt fun x hx => h x (List.mem_cons_of_mem _ hx)]
    by_cases c : p d = true
    · rw [if_pos c, List.filter_cons_of_pos c]; rfl
    · rw [if_neg c, List.filter_cons_of_neg c]; rfl
theorem lc_filt {C : Cc} {elt c : E} {tg : Tg} {ik : IK} {ias : List E} {s s1 : Sl} {ds its : List D} {g : D → D} {p : D → Bool} (hi : evs C ias s = .ok ds s1) (hit : items ik ds = some its) (hp : tg.vars.all (plainAt s1) = true)
    (hb : ∀ d ∈ its, ∃ s2 s3, bindT C.pins tg (.d d) (wipes s1 tg.vars) = some s2 ∧ ev C c s2 = .ok (.d (.bl (p d))) s3 ∧ (p d = false → wipes s3 tg.vars = wipes s1 tg.vars) ∧ (p d = true → ∃ m s4, ev C elt s3 = .ok m s4 ∧ frz m = g d ∧ wipes s4 tg.vars = wipes s1 tg.vars)) :
    ev C (.lc elt tg ik ias [c]) s = .ok (.lst (((its.filter p).map g).map .d)) (backs s1 (wipes s1 tg.vars) tg.vars) := by
  rw [lc_eq]
  unfold fLc fI
  rw [hi]
  show R.bind (match items ik ds with | some its => .ok its s1 | none => .bad) _ = _
  rw [hit]
  show (if tg.vars.all (plainAt s1) = true then _ else _) = _
  rw [if_pos hp]
  have e : loopC (lcTurn C.pins tg (evi C [c]) (ev C elt)) its (wipes s1 tg.vars) = .ok ((its.filter p).map g) (wipes s1 tg.vars) := loopC_filt fun d hd => by
    obtain ⟨s2, s3, h1, h2, h3, h4⟩ := hb d hd
    have e1 : evi C [c] s2 = .ok (p d) s3 := by rw [evi, h2]; rfl
    unfold lcTurn
    rw [h1]
    cases hpd : p d with
    | false =>
      rw [hpd] at e1
      simp [e1, h3 hpd]
    | true =>
      obtain ⟨m, s4, h5, h6, h7⟩ := h4 hpd
      rw [hpd] at e1
      simp [e1, h5, h6, h7]
  rw [e]
  rfl
end PV
/-! # PV25: == of plain data -/
namespace PV
open PySem
theorem loopC_inv {f : D → Sl → R (Option D)} {P : Sl → Prop} {Rr : D → Prop} : ∀ {ds : List D} {s : Sl}, P s → (∀ d ∈ ds, ∀ s, P s → ∃ x s', f d s = .ok (some x) s' ∧ Rr x ∧ P s') → ∃ (xs : List D) (s' : Sl), loopC f ds s = .ok xs s' ∧ xs.length = ds.length ∧ (∀ x ∈ xs, Rr x) ∧ P s'
  | [], s, hs, _ => ⟨[], s, rfl, rfl, (fun _ z => nomatch z), hs⟩
  | d :: ds, s, hs, h => by
    obtain ⟨x, s1, h1, h2, h3⟩ := h d List.mem_cons_self s hs
    obtain ⟨xs, s2, k1, k2, k3, k4⟩ := loopC_inv h3 (fun y hy => h y (List.mem_cons_of_mem _ hy))
    refine ⟨x :: xs, s2, ?_, congrArg (· + 1) k2, fun y hy => ?_, k4⟩
    · unfold loopC
      rw [h1]
      show R.bind (loopC f ds s1) _ = _
      rw [k1]
      rfl
    · rcases List.mem_cons.mp hy with rfl | hy
      · exact h2
      · exact k3 y hy
/-- a comprehension whose elements change what they stand beside -/
theorem lc_inv {C : Cc} {elt : E} {tg : Tg} {ik : IK} {ias : List E} {s s1 : Sl} {ds its : List D} {P : Sl → Prop} {Rr : D → Prop} (hi : evs C ias s = .ok ds s1) (hit : items ik ds = some its) (hp : tg.vars.all (plainAt s1) = true) (h0 : P (wipes s1 tg.vars))
    (hb : ∀ d ∈ its, ∀ s, P s → ∃ s2 m s3, bindT C.pins tg (.d d) s = some s2 ∧ ev C elt s2 = .ok m s3 ∧ Rr (frz m) ∧ P (wipes s3 tg.vars)) :
    ∃ (xs : List D) (s' : Sl), ev C (.lc elt tg ik ias []) s = .ok (.lst (xs.map .d)) (backs s1 s' tg.vars) ∧ xs.length = its.length ∧ (∀ x ∈ xs, Rr x) ∧ P s' := by
  rw [lc_eq]
  unfold fLc fI
  rw [hi]
  show ∃ (xs : List D) (s' : Sl), R.bind (match items ik ds with | some its => .ok its s1 | none => .bad) _ = _ ∧ _
  rw [hit]
  show ∃ (xs : List D) (s' : Sl), (if tg.vars.all (plainAt s1) = true then _ else _) = _ ∧ _
  rw [if_pos hp]
  obtain ⟨xs, s', e, h1, h2, h3⟩ := loopC_inv (f := lcTurn C.pins tg (evi C []) (ev C elt)) (P := P) (Rr := Rr) h0 (fun d hd s hs => by
    obtain ⟨s2, m, s3, h1, h2, h3, h4⟩ := hb d hd s hs
    have e1 : evi C [] s2 = .ok true s2 := by rw [evi]
    refine ⟨frz m, wipes s3 tg.vars, ?_, h3, h4⟩
    unfold lcTurn
    rw [h1]
    simp [e1, h2])
  rw [e]
  exact ⟨xs, s', rfl, h1, h2, h3⟩
theorem toPs_ints : ∀ l : List Int, toPs (l.map D.int) = some (l.map PyData.int)
  | [] => rfl
  | a :: l => by
    show (match toP (D.int a), toPs (l.map D.int) with | some x, some xs => some (x :: xs) | _, _ => none) = _
    rw [toPs_ints l]
    rfl
theorem toPs_bls : ∀ l : List Bool, toPs (l.map D.bl) = some (l.map PyData.bool)
  | [] => rfl
  | a :: l => by
    show (match toP (D.bl a), toPs (l.map D.bl) with | some x, some xs => some (x :: xs) | _, _ => none) = _
    rw [toPs_bls l]
    rfl
theorem eqd_str {x y : Str} (hx : PyData.strOk x = true) (hy : PyData.strOk y = true) : eqD (.str x) (.str y) = some (x == y) := by
  have sx : SeqAt.shaped (.str x) = true := by rw [SeqAt.shaped.eq_def, PyData.canLay0.eq_def, PyData.depth.eq_def]; simp [hx]
  have sy : SeqAt.shaped (.str y) = true := by rw [SeqAt.shaped.eq_def, PyData.canLay0.eq_def, PyData.depth.eq_def]; simp [hy]
  show (if SeqAt.shaped (.str x) = true ∧ SeqAt.shaped (.str y) = true then some (PyData.eqv (.str x) (.str y)) else none) = _
  rw [if_pos ⟨sx, sy⟩]
  rfl
theorem p_eqS {x y : Str} (hx : PyData.strOk x = true) (hy : PyData.strOk y = true) : prim .eq [.str x, .str y] = some (.d (.bl (x == y))) := by
  show (eqD (.str x) (.str y)).map (fun b => M.d (.bl (b != false))) = _
  rw [eqd_str hx hy]; simp
theorem lay_ints : ∀ l : List Int, PyData.canLayAll0 (l.map PyData.int) = true ∧ PyData.depthAll (l.map PyData.int) = 0
  | [] => ⟨rfl, rfl⟩
  | a :: l => by
    obtain ⟨h1, h2⟩ := lay_ints l
    rw [List.map_cons, PyData.canLayAll0.eq_def, PyData.depthAll.eq_def]
    simp [h1, h2, PyData.canLay0.eq_def, PyData.depth.eq_def]
theorem lay_bls : ∀ l : List Bool, PyData.canLayAll0 (l.map PyData.bool) = true ∧ PyData.depthAll (l.map PyData.bool) = 0
  | [] => ⟨rfl, rfl⟩
  | a :: l => by
    obtain ⟨h1, h2⟩ := lay_bls l
    rw [List.map_cons, PyData.canLayAll0.eq_def, PyData.depthAll.eq_def]
    simp [h1, h2, PyData.canLay0.eq_def, PyData.depth.eq_def]
theorem eqv_ints : ∀ a b : List Int, PyData.eqvAll (a.map PyData.int) (b.map PyData.int) = decide (a = b)
  | [], [] => by rw [PyData.eqvAll.eq_def]; simp
  | [], b :: bs => by rw [PyData.eqvAll.eq_def]; simp
  | a :: as, [] => by rw [PyData.eqvAll.eq_def]; simp
  | a :: as, b :: bs => by
    rw [PyData.eqvAll.eq_def]
    show (PyData.eqv (.int a) (.int b) && PyData.eqvAll (as.map PyData.int) (bs.map PyData.int)) = _
    rw [eqv_ints as bs, PyData.eqv.eq_def]
    by_cases h1 : a = b <;> by_cases h2 : as = bs <;> simp [h1, h2]
theorem eqv_bls : ∀ a b : List Bool, PyData.eqvAll (a.map PyData.bool) (b.map PyData.bool) = decide (a = b)
  | [], [] => by rw [PyData.eqvAll.eq_def]; simp
  | [], b :: bs => by rw [PyData.eqvAll.eq_def]; simp
  | a :: as, [] => by rw [PyData.eqvAll.eq_def]; simp
  | a :: as, b :: bs => by
    rw [PyData.eqvAll.eq_def]
    show (PyData.eqv (.bool a) (.bool b) && PyData.eqvAll (as.map PyData.bool) (bs.map PyData.bool)) = _
    rw [eqv_bls as bs, PyData.eqv.eq_def]
    by_cases h1 : a = b <;> by_cases h2 : as = bs <;> simp [h1, h2]
theorem shaped_l {l : List PyData} (h : PyData.canLayAll0 l = true ∧ PyData.depthAll l = 0) : SeqAt.shaped (.list l) = true := by
  rw [SeqAt.shaped.eq_def, PyData.canLay0.eq_def, PyData.depth.eq_def]
  simp [h.1, h.2]
theorem eqD_ints (a b : List Int) : eqD (.lst (a.map .int)) (.lst (b.map .int)) = some (decide (a = b)) := by
  have h1 : toP (.lst (a.map .int)) = some (.list (a.map PyData.int)) := by show (toPs (a.map D.int)).map PyData.list = _; rw [toPs_ints]; rfl
  have h2 : toP (.lst (b.map .int)) = some (.list (b.map PyData.int)) := by show (toPs (b.map D.int)).map PyData.list = _; rw [toPs_ints]; rfl
  unfold eqD
  rw [h1, h2]
  show (if SeqAt.shaped (.list (a.map PyData.int)) = true ∧ SeqAt.shaped (.list (b.map PyData.int)) = true then some (PyData.eqv (.list (a.map PyData.int)) (.list (b.map PyData.int))) else none) = _
  rw [if_pos ⟨shaped_l (lay_ints a), shaped_l (lay_ints b)⟩, PyData.eqv.eq_def]
  exact congrArg some (eqv_ints a b)
theorem eqD_bls (a b : List Bool) : eqD (.lst (a.map .bl)) (.lst (b.map .bl)) = some (decide (a = b)) := by
  have h1 : toP (.lst (a.map .bl)) = some (.list (a.map PyData.bool)) := by show (toPs (a.map D.bl)).map PyData.list = _; rw [toPs_bls]; rfl
  have h2 : toP (.lst (b.map .bl)) = some (.list (b.map PyData.bool)) := by show (toPs (b.map D.bl)).map PyData.list = _; rw [toPs_bls]; rfl
  unfold eqD
  rw [h1, h2]
  show (if SeqAt.shaped (.list (a.map PyData.bool)) = true ∧ SeqAt.shaped (.list (b.map PyData.bool)) = true then some (PyData.eqv (.list (a.map PyData.bool)) (.list (b.map PyData.bool))) else none) = _
  rw [if_pos ⟨shaped_l (lay_bls a), shaped_l (lay_bls b)⟩, PyData.eqv.eq_def]
  exact congrArg some (eqv_bls a b)
theorem p_neIs (a b : List Int) : prim .ne [.lst (a.map .int), .lst (b.map .int)] = some (.d (.bl (!decide (a = b)))) := by
  show (eqD (.lst (a.map .int)) (.lst (b.map .int))).map (fun b => M.d (.bl (b != true))) = _
  rw [eqD_ints]; simp
theorem p_eqBs (a b : List Bool) : prim .eq [.lst (a.map .bl), .lst (b.map .bl)] = some (.d (.bl (decide (a = b)))) := by
  show (eqD (.lst (a.map .bl)) (.lst (b.map .bl))).map (fun b => M.d (.bl (b != false))) = _
  rw [eqD_bls]; simp
theorem intsD_map : ∀ l : List Int, intsD (l.map .int) = some l
  | [] => rfl
  | a :: l => by show (intsD (l.map .int)).map (a :: ·) = _; rw [intsD_map l]; rfl
theorem p_sset {l : List Int} (h : l.length < 60) : prim .sset [.tup (l.map .int)] = some (.lst (((sortU l).map D.int).map .d)) := by
  show (match intsD (l.map .int) with | some ns => if ns.length < 60 then some (intsM (sortU ns)) else none | none => none) = _
  rw [intsD_map]
  exact if_pos h
theorem p_max1 (n : Int) (r : List Int) : prim .max1 [.tup (.int n :: r.map .int)] = some (.d (.int (maxI n r))) := by
  have e := intsD_map (n :: r)
  show (match intsD ((n :: r).map .int) with | some (n :: r) => some (M.d (.int (maxI n r))) | _ => none) = _
  rw [e]
theorem p_lrange {n : Int} (h : -(2 ^ 62) ≤ n ∧ n ≤ 16777216) : prim .lrange [.int n] = some (.lst (((List.range n.toNat).map fun (i : Nat) => D.int (0 + (i : Int))).map .d)) := if_pos h
end PV
namespace PV
namespace K03
open PySem PySem.Spec PyProof.Rows L2
def top (i : Nat) : Stmt := PySem.Challenge.pw_wrotelast_k03_standings_behind_a_write.main.body.getD i (.Pass ⟨0, 0, 0, 0⟩)
/- is_integer: thing 0 -/
def is_integer_s1 : S := .ret (.bop true [.op (.isi true ["int"]) [.rd 0], .not (.op (.isi true ["bool"]) [.rd 0])])
def f_is_integer : Fn := ⟨["thing"], ["thing"], 0, [is_integer_s1]⟩
/- is_between: thing 0, least 1, most 2 -/
def is_between_s1 : S := .ret (.bop true [.call "is_integer" [] [.rd 0], .chain .le .le (.rd 1) (.rd 0) (.rd 2)])
def f_is_between : Fn := ⟨["thing", "least", "most"], ["thing", "least", "most"], 0, [is_between_s1]⟩
/- is_pair: thing 0 -/
def is_pair_s1 : S := .ret (.bop true [.op (.isi true ["tuple"]) [.rd 0], .op .eq [.op .len [.rd 0], .k (.int 2)]])
def f_is_pair : Fn := ⟨["thing"], ["thing"], 0, [is_pair_s1]⟩
/- does_ascend: things 0, at 1 -/
def does_ascend_e1 : E := .op .lt [.op .ix [.rd 0, .op .sub [.rd 1, .k (.int 1)]], .op .ix [.rd 0, .rd 1]]
def does_ascend_a2 : E := .op .all [.lc does_ascend_e1 (.nm 1) .range2 [.k (.int 1), .op .len [.rd 0]] []]
def does_ascend_s3 : S := .ret (does_ascend_a2)
def f_does_ascend : Fn := ⟨["things"], ["things", "at"], 0, [does_ascend_s3]⟩
/- are_marks: group 0, thing 1, cells 2, marks 3, mark 4 -/
def are_marks_s1 : S := .asg (.tp [(.nm 2), (.nm 3)]) (.rd 0)
def are_marks_s2 : S := .ret (.k (.bl false))
def are_marks_b3 : List S := [are_marks_s2]
def are_marks_s4 : S := .ite (.bop false [.not (.op (.isi true ["tuple"]) [.rd 1]), .op .ne [.op .len [.rd 1], .rd 2]]) are_marks_b3 []
def are_marks_e5 : E := .call "is_between" [] [.rd 4, .k (.int 0), .op .sub [.rd 3, .k (.int 1)]]
def are_marks_a6 : E := .op .all [.lc are_marks_e5 (.nm 4) .seq [.rd 1] []]
def are_marks_s7 : S := .ret (.bop true [are_marks_a6, .call "does_ascend" [] [.rd 1]])
def f_are_marks : Fn := ⟨["group", "thing"], ["group", "thing", "cells", "marks", "mark"], 0, [are_marks_s1, are_marks_s4, are_marks_s7]⟩
/- is_standing: shape 0, thing 1, group 2, marks 3 -/
def is_standing_s1 : S := .ret (.k (.bl false))
def is_standing_b2 : List S := [is_standing_s1]
def is_standing_s3 : S := .ite (.bop false [.not (.op (.isi true ["tuple"]) [.rd 1]), .op .ne [.op .len [.rd 1], .op .len [.rd 0]]]) is_standing_b2 []
def is_standing_e4 : E := .call "are_marks" [] [.rd 2, .rd 3]
def is_standing_a5 : E := .op .all [.lc is_standing_e4 (.tp [(.nm 2), (.nm 3)]) .zip [.rd 0, .rd 1] []]
def is_standing_s6 : S := .ret (is_standing_a5)
def f_is_standing : Fn := ⟨["shape", "thing"], ["shape", "thing", "group", "marks"], 0, [is_standing_s3, is_standing_s6]⟩
/- check_standing: shape 0, thing 1 -/
def check_standing_s1 : S := .raise "NoStanding" []
def check_standing_b2 : List S := [check_standing_s1]
def check_standing_s3 : S := .ite (.not (.call "is_standing" [] [.rd 0, .rd 1])) check_standing_b2 []
def f_check_standing : Fn := ⟨["shape", "thing"], ["shape", "thing"], 0, [check_standing_s3]⟩
/- is_name: standing 0, thing 1 -/
def is_name_s1 : S := .ret (.k (.bl false))
def is_name_b2 : List S := [is_name_s1]
def is_name_s3 : S := .ite (.bop false [.not (.call "is_pair" [] [.rd 1]), .not (.call "is_between" [] [.op .ix [.rd 1, .k (.int 0)], .k (.int 0), .op .sub [.op .len [.rd 0], .k (.int 1)]])]) is_name_b2 []
def is_name_s4 : S := .ret (.bop true [.call "is_integer" [] [.op .ix [.rd 1, .k (.int 1)]], .op .isin [.op .ix [.rd 1, .k (.int 1)], .op .ix [.rd 0, .op .ix [.rd 1, .k (.int 0)]]]])
def f_is_name : Fn := ⟨["standing", "thing"], ["standing", "thing"], 0, [is_name_s3, is_name_s4]⟩
/- with_marks: standing 0, group 1, marks 2 -/
def with_marks_s1 : S := .ret (.op .add [.op .add [.op (.sl false true) [.rd 0, .rd 1], .op .tupd [.op .tuple [.op .sorted [.rd 2]]]], .op (.sl true false) [.rd 0, .op .add [.rd 1, .k (.int 1)]]])
def f_with_marks : Fn := ⟨["standing", "group", "marks"], ["standing", "group", "marks"], 0, [with_marks_s1]⟩
/- line_of: standing 0, name 1, others 2, other 3 -/
def line_of_e1 : E := .rd 3
def line_of_s2 : S := .asg (.nm 2) (.lc line_of_e1 (.nm 3) .seq [.op .ix [.rd 0, .op .ix [.rd 1, .k (.int 0)]]] [.op .ne [.rd 3, .op .ix [.rd 1, .k (.int 1)]]])
def line_of_s3 : S := .ret (.op .tupd [.op .ix [.rd 1, .k (.int 0)], .call "with_marks" [] [.rd 0, .op .ix [.rd 1, .k (.int 0)], .rd 2]])
def f_line_of : Fn := ⟨["standing", "name"], ["standing", "name", "others", "other"], 0, [line_of_s2, line_of_s3]⟩
/- points_of: shape 0, line 1, free 2, group 3, rest 4, mark 5 -/
def points_of_s1 : S := .asg (.tp [(.nm 3), (.nm 4)]) (.rd 1)
def points_of_e2 : E := .rd 5
def points_of_s3 : S := .asg (.nm 2) (.lc points_of_e2 (.nm 5) .range1 [.op .ix [.op .ix [.rd 0, .rd 3], .k (.int 1)]] [.op .notin [.rd 5, .op .ix [.rd 4, .rd 3]]])
def points_of_e4 : E := .call "with_marks" [] [.rd 4, .rd 3, .op .add [.op .list [.op .ix [.rd 4, .rd 3]], .lst [.rd 5]]]
def points_of_s5 : S := .ret (.op .sorted [.lc points_of_e4 (.nm 5) .seq [.rd 2] []])
def f_points_of : Fn := ⟨["shape", "line"], ["shape", "line", "free", "group", "rest", "mark"], 0, [points_of_s1, points_of_s3, points_of_s5]⟩
/- behind_write: shape 0, standing 1, name 2, cells 3, marks 4 -/
def behind_write_s1 : S := .ex (.call "check_standing" [] [.rd 0, .rd 1])
def behind_write_s2 : S := .raise "NoName" []
def behind_write_b3 : List S := [behind_write_s2]
def behind_write_s4 : S := .ite (.not (.call "is_name" [] [.rd 1, .rd 2])) behind_write_b3 []
def behind_write_s5 : S := .asg (.tp [(.nm 3), (.nm 4)]) (.op .ix [.rd 0, .op .ix [.rd 2, .k (.int 0)]])
def behind_write_s6 : S := .raise "TooMany" [.gl "MOST_STANDINGS"]
def behind_write_b7 : List S := [behind_write_s6]
def behind_write_s8 : S := .ite (.op .gt [.op .add [.op .sub [.rd 4, .rd 3], .k (.int 1)], .gl "MOST_STANDINGS"]) behind_write_b7 []
def behind_write_s9 : S := .ret (.call "points_of" [] [.rd 0, .call "line_of" [] [.rd 1, .rd 2]])
def f_behind_write : Fn := ⟨["shape", "standing", "name"], ["shape", "standing", "name", "cells", "marks"], 0, [behind_write_s1, behind_write_s4, behind_write_s5, behind_write_s8, behind_write_s9]⟩
/- _law_hand: script 0, cells 1, cell 2 -/
def law_hand_e1 : E := .op .abs [.op .int [.rd 2]]
def law_hand_s2 : S := .asg (.nm 1) (.lc law_hand_e1 (.nm 2) .seq [.op (.sl false true) [.rd 0, .k (.int 63)]] [])
def law_hand_s3 : S := .ret (.lst [.rd 1, .k (.int 0), .k (.int 0), .op .add [.k (.int 57), .op .mul [.k (.int 11), .op .len [.rd 1]]], .k (.int 0)])
def f_law_hand : Fn := ⟨["script"], ["script", "cells", "cell"], 0, [law_hand_s2, law_hand_s3]⟩
/- _law_draw: hand 0, many 1, number 2, cell 3, digit 4 -/
def law_draw_s1 : S := .asg (.nm 3) (.op .ix [.ixp 0 (.k (.int 0)), .ixp 0 (.k (.int 1))])
def law_draw_s2 : S := .seti 0 (.k (.int 1)) (.op .add [.ixp 0 (.k (.int 1)), .k (.int 1)])
def law_draw_s3 : S := .seti 0 (.k (.int 3)) (.op .mod [.op .int [.op .add [.op .add [.op .mul [.ixp 0 (.k (.int 3)), .k (.int 69621)], .rd 3], .k (.int 29)]], .k (.int 2147483629)])
def law_draw_s4 : S := .seti 0 (.k (.int 2)) (.rd 3)
def law_draw_b5 : List S := [law_draw_s4]
def law_draw_s6 : S := .ite (.op .ge [.rd 3, .op .pow [.k (.int 10), .k (.int 18)]]) law_draw_b5 []
def law_draw_b7 : List S := [law_draw_s1, law_draw_s2, law_draw_s3, law_draw_s6]
def law_draw_s8 : S := .ite (.bop true [.op .eq [.ixp 0 (.k (.int 2)), .k (.int 0)], .op .lt [.ixp 0 (.k (.int 1)), .op .len [.ixp 0 (.k (.int 0))]]]) law_draw_b7 []
def law_draw_s9 : S := .asg (.nm 4) (.op .mod [.op .int [.ixp 0 (.k (.int 2))], .rd 1])
def law_draw_s10 : S := .seti 0 (.k (.int 2)) (.op .fdiv [.ixp 0 (.k (.int 2)), .rd 1])
def law_draw_s11 : S := .ret (.mv 4)
def law_draw_b12 : List S := [law_draw_s9, law_draw_s10, law_draw_s11]
def law_draw_s13 : S := .ite (.op .gt [.ixp 0 (.k (.int 2)), .k (.int 0)]) law_draw_b12 []
def law_draw_s14 : S := .seti 0 (.k (.int 4)) (.op .add [.ixp 0 (.k (.int 4)), .k (.int 1)])
def law_draw_s15 : S := .asg (.nm 2) (.op .mod [.op .int [.op .mul [.op .int [.op .add [.ixp 0 (.k (.int 3)), .op .mul [.k (.int 7919), .ixp 0 (.k (.int 4))]]], .k (.int 48271)]], .k (.int 2147483647)])
def law_draw_s16 : S := .asg (.nm 2) (.op .mod [.op .int [.op .mul [.rd 2, .op .add [.op .fdiv [.rd 2, .k (.int 1009)], .k (.int 69621)]]], .k (.int 2147483647)])
def law_draw_s17 : S := .asg (.nm 2) (.op .mod [.op .int [.op .mul [.rd 2, .op .add [.op .fdiv [.rd 2, .k (.int 2003)], .k (.int 40692)]]], .k (.int 2147483399)])
def law_draw_s18 : S := .ret (.op .mod [.op .int [.op .fdiv [.rd 2, .k (.int 16)]], .rd 1])
def f_law_draw : Fn := ⟨["hand", "many"], ["hand", "many", "number", "cell", "digit"], 1, [law_draw_s8, law_draw_s13, law_draw_s14, law_draw_s15, law_draw_s16, law_draw_s17, law_draw_s18]⟩
/- _law_some: hand 0, things 1 -/
def law_some_s1 : S := .ret (.op .ix [.rd 1, .call "_law_draw" [0] [.op .len [.rd 1]]])
def f_law_some : Fn := ⟨["hand", "things"], ["hand", "things"], 1, [law_some_s1]⟩
/- _law_is: got 0, due 1, one 2, other 3 -/
def law_is_s1 : S := .ret (.k (.bl false))
def law_is_b2 : List S := [law_is_s1]
def law_is_s3 : S := .ite (.bop false [.op .ne [.op (.isi true ["tuple"]) [.rd 0], .op (.isi true ["tuple"]) [.rd 1]], .op .ne [.op (.isi true ["list"]) [.rd 0], .op (.isi true ["list"]) [.rd 1]]]) law_is_b2 []
def law_is_e4 : E := .call "_law_is" [] [.rd 2, .rd 3]
def law_is_a5 : E := .op .all [.lc law_is_e4 (.tp [(.nm 2), (.nm 3)]) .zip [.rd 0, .rd 1] []]
def law_is_s6 : S := .ret (.bop true [.op .eq [.op .len [.rd 0], .op .len [.rd 1]], law_is_a5])
def law_is_b7 : List S := [law_is_s3, law_is_s6]
def law_is_s8 : S := .ite (.op (.isi false ["tuple", "list"]) [.rd 1]) law_is_b7 []
def law_is_s9 : S := .ret (.bop true [.op .isN [.rd 1], .op .isN [.rd 0]])
def law_is_b10 : List S := [law_is_s9]
def law_is_s11 : S := .ite (.bop false [.op .isN [.rd 1], .op .isN [.rd 0]]) law_is_b10 []
def law_is_s12 : S := .ret (.k (.bl false))
def law_is_b13 : List S := [law_is_s12]
def law_is_s14 : S := .ite (.bop false [.op .ne [.op (.isi true ["bool"]) [.rd 0], .op (.isi true ["bool"]) [.rd 1]], .op .ne [.op (.isi true ["int"]) [.rd 0], .op (.isi true ["int"]) [.rd 1]]]) law_is_b13 []
def law_is_s15 : S := .ret (.bop true [.op .eq [.op (.isi true ["str"]) [.rd 0], .op (.isi true ["str"]) [.rd 1]], .op .eq [.rd 0, .rd 1]])
def f_law_is : Fn := ⟨["got", "due"], ["got", "due", "one", "other"], 0, [law_is_s8, law_is_s11, law_is_s14, law_is_s15]⟩
/- _law_deep: hand 0, thing 1, turn 2 -/
def law_deep_s1 : S := .asg (.nm 1) (.op .ix [.lst [.lst [.rd 1], .op .tupd [.rd 1], .dct1 "a" (.rd 1), .lst [.rd 1, .k (.int 0)]], .call "_law_draw" [0] [.k (.int 4)]])
def law_deep_b2 : List S := [law_deep_s1]
def law_deep_s3 : S := .forr (.nm 2) .range1 [.op .add [.k (.int 1), .call "_law_draw" [0] [.k (.int 30)]]] law_deep_b2
def law_deep_s4 : S := .ret (.rd 1)
def f_law_deep : Fn := ⟨["hand", "thing"], ["hand", "thing", "turn"], 1, [law_deep_s3, law_deep_s4]⟩
/- _law_combos: k 0, m 1, found 2, turn 3, longer 4, marks 5, first 6, one 7 -/
def law_combos_s1 : S := .asg (.nm 2) (.lst [.op .tupd []])
def law_combos_s2 : S := .asg (.nm 4) (.lst [])
def law_combos_s3 : S := .asg (.nm 6) (.ite (.op .gt [.op .len [.rd 5], .k (.int 0)]) (.op .add [.op .ix [.rd 5, .op .neg [.k (.int 1)]], .k (.int 1)]) (.k (.int 0)))
def law_combos_e4 : E := .op .add [.rd 5, .op .tupd [.rd 7]]
def law_combos_s5 : S := .ext 4 (.lc law_combos_e4 (.nm 7) .range2 [.rd 6, .rd 0] [])
def law_combos_b6 : List S := [law_combos_s3, law_combos_s5]
def law_combos_s7 : S := .forr (.nm 5) .seq [.rd 2] law_combos_b6
def law_combos_s8 : S := .asg (.nm 2) (.mv 4)
def law_combos_b9 : List S := [law_combos_s2, law_combos_s7, law_combos_s8]
def law_combos_s10 : S := .forr (.nm 3) .range1 [.rd 1] law_combos_b9
def law_combos_s11 : S := .ret (.mv 2)
def f_law_combos : Fn := ⟨["k", "m"], ["k", "m", "found", "turn", "longer", "marks", "first", "one"], 0, [law_combos_s1, law_combos_s10, law_combos_s11]⟩
/- _law_standings: shape 0, found 1, m 2, k 3, longer 4, groups 5, marks 6 -/
def law_standings_s1 : S := .asg (.nm 1) (.lst [.op .tupd []])
def law_standings_s2 : S := .asg (.nm 4) (.lst [])
def law_standings_e3 : E := .op .add [.rd 5, .op .tupd [.rd 6]]
def law_standings_s4 : S := .ext 4 (.lc law_standings_e3 (.nm 6) .seq [.call "_law_combos" [] [.rd 3, .rd 2]] [])
def law_standings_b5 : List S := [law_standings_s4]
def law_standings_s6 : S := .forr (.nm 5) .seq [.rd 1] law_standings_b5
def law_standings_s7 : S := .asg (.nm 1) (.mv 4)
def law_standings_b8 : List S := [law_standings_s2, law_standings_s6, law_standings_s7]
def law_standings_s9 : S := .forr (.tp [(.nm 2), (.nm 3)]) .seq [.rd 0] law_standings_b8
def law_standings_s10 : S := .ret (.mv 1)
def f_law_standings : Fn := ⟨["shape"], ["shape", "found", "m", "k", "longer", "groups", "marks"], 0, [law_standings_s1, law_standings_s9, law_standings_s10]⟩
/- _law_names: standing 0, found 1, group 2, marks 3, mark 4 -/
def law_names_s1 : S := .asg (.nm 1) (.lst [])
def law_names_e2 : E := .op .tupd [.rd 2, .rd 4]
def law_names_s3 : S := .ext 1 (.lc law_names_e2 (.nm 4) .seq [.rd 3] [])
def law_names_b4 : List S := [law_names_s3]
def law_names_s5 : S := .forr (.tp [(.nm 2), (.nm 3)]) .enum [.rd 0] law_names_b4
def law_names_s6 : S := .ret (.mv 1)
def f_law_names : Fn := ⟨["standing"], ["standing", "found", "group", "marks", "mark"], 0, [law_names_s1, law_names_s5, law_names_s6]⟩
/- _law_marks: shape 0, standing 1, name 2, k 3, others 4, one 5 -/
def law_marks_s1 : S := .asg (.tp [.nm 3, .nm 4]) (.op .tupd [.op .ix [.op .ix [.rd 0, .op .ix [.rd 2, .k (.int 0)]], .k (.int 1)], .op .ix [.rd 1, .op .ix [.rd 2, .k (.int 0)]]])
def law_marks_e2 : E := .rd 5
def law_marks_s3 : S := .ret (.lc law_marks_e2 (.nm 5) .range1 [.rd 3] [.bop false [.op .eq [.rd 5, .op .ix [.rd 2, .k (.int 1)]], .op .notin [.rd 5, .rd 4]]])
def f_law_marks : Fn := ⟨["shape", "standing", "name"], ["shape", "standing", "name", "k", "others", "one"], 0, [law_marks_s1, law_marks_s3]⟩
/- _law_behind: standing 0, name 1, mark 2, group 3, left 4, one 5 -/
def law_behind_s1 : S := .asg (.nm 3) (.op .ix [.rd 1, .k (.int 0)])
def law_behind_e2 : E := .rd 5
def law_behind_s3 : S := .asg (.nm 4) (.lc law_behind_e2 (.nm 5) .seq [.op .ix [.rd 0, .rd 3]] [.op .ne [.rd 5, .op .ix [.rd 1, .k (.int 1)]]])
def law_behind_s4 : S := .ret (.op .add [.op .add [.op (.sl false true) [.rd 0, .rd 3], .op .tupd [.op .tuple [.op .sorted [.op .add [.rd 4, .lst [.rd 2]]]]]], .op (.sl true false) [.rd 0, .op .add [.rd 3, .k (.int 1)]]])
def f_law_behind : Fn := ⟨["standing", "name", "mark"], ["standing", "name", "mark", "group", "left", "one"], 0, [law_behind_s1, law_behind_s3, law_behind_s4]⟩
/- _law_shape: hand 0, most 1, turn 2, many 3, found 4, m 5, k 6, size 7 -/
def law_shape_s1 : S := .parm 3 4 (.k (.int 1)) (.lst [])
def law_shape_s2 : S := .asg (.nm 5) (.op .add [.k (.int 1), .call "_law_draw" [0] [.k (.int 3)]])
def law_shape_s3 : S := .asg (.nm 6) (.op .add [.rd 5, .call "_law_draw" [0] [.k (.int 4)]])
def law_shape_s4 : S := .asg (.nm 7) (.op .len [.call "_law_combos" [] [.rd 6, .rd 5]])
def law_shape_s5 : S := .app 4 (.op .tupd [.rd 5, .rd 6])
def law_shape_s6 : S := .asg (.nm 3) (.op .mul [.rd 3, .rd 7])
def law_shape_b7 : List S := [law_shape_s5, law_shape_s6]
def law_shape_s8 : S := .ite (.op .le [.op .mul [.rd 3, .rd 7], .rd 1]) law_shape_b7 []
def law_shape_b9 : List S := [law_shape_s2, law_shape_s3, law_shape_s4, law_shape_s8]
def law_shape_s10 : S := .forr (.nm 2) .range1 [.op .add [.k (.int 1), .call "_law_draw" [0] [.k (.int 3)]]] law_shape_b9
def law_shape_s11 : S := .ret (.ite (.op .gt [.lenp 4, .k (.int 0)]) (.op .tuple [.rd 4]) (.op .tupd [.op .tupd [.k (.int 1), .k (.int 2)]]))
def f_law_shape : Fn := ⟨["hand", "most"], ["hand", "most", "turn", "many", "found", "m", "k", "size"], 1, [law_shape_s1, law_shape_s10, law_shape_s11]⟩
/- _law_told: shape 0, standing 1, name 2, found 3, error 4 -/
def law_told_s1 : S := .asg (.nm 3) (.k .non)
def law_told_s2 : S := .asg (.nm 3) (.tupk ((.str "told")) (.call "behind_write" [] [.rd 0, .rd 1, .rd 2]))
def law_told_b3 : List S := [law_told_s2]
def law_told_s4 : S := .tryx law_told_b3 [⟨"NoStanding", none, 3, .tup [.k (.str "standing")]⟩, ⟨"NoName", none, 3, .tup [.k (.str "name")]⟩, ⟨"TooMany", some 4, 3, .tup [.k (.str "many"), .fld "most"]⟩, ⟨"MarkError", none, 3, .tup [.k (.str "other")]⟩]
def law_told_s5 : S := .ret (.mv 3)
def f_law_told : Fn := ⟨["shape", "standing", "name"], ["shape", "standing", "name", "found", "error"], 0, [law_told_s1, law_told_s4, law_told_s5]⟩
/- _law_due: shape 0, standing 1, name 2, marks 3, mark 4 -/
def law_due_s1 : S := .asg (.nm 3) (.call "_law_marks" [] [.rd 0, .rd 1, .rd 2])
def law_due_e2 : E := .call "_law_behind" [] [.rd 1, .rd 2, .rd 4]
def law_due_s3 : S := .ret (.op .tupd [.k (.str "told"), .op .sorted [.lc law_due_e2 (.nm 4) .seq [.rd 3] []]])
def f_law_due : Fn := ⟨["shape", "standing", "name"], ["shape", "standing", "name", "marks", "mark"], 0, [law_due_s1, law_due_s3]⟩
/- _law_no_standing: hand 0, standing 1, marks 2, some 3 -/
def law_no_standing_s1 : S := .asg (.nm 2) (.op .ix [.rd 1, .k (.int 0)])
def law_no_standing_s2 : S := .asg (.nm 3) (.lst [.k .non, .k (.int 0), .op .tupd [], .op .list [.rd 1], .op (.sl true false) [.rd 1, .k (.int 1)], .op .add [.rd 1, .op .tupd [.rd 2]], .k (.str "x"), .dct0, .k (.bl true)])
def law_no_standing_s3 : S := .asg (.nm 3) (.op .add [.rd 3, .lst [.op .add [.op .tupd [.op .add [.rd 2, .op .tupd [.k (.int 99)]]], .op (.sl true false) [.rd 1, .k (.int 1)]], .op .add [.op .tupd [.op .add [.op .rev [.rd 2], .op .tupd [.op .neg [.k (.int 1)]]]], .op (.sl true false) [.rd 1, .k (.int 1)]]]])
def law_no_standing_s4 : S := .asg (.nm 3) (.op .add [.rd 3, .lst [.op .add [.op .tupd [.op .mul [.op .tupd [.k (.bl true)], .op .len [.rd 2]]], .op (.sl true false) [.rd 1, .k (.int 1)]], .call "_law_deep" [0] [.rd 1]]])
def law_no_standing_s5 : S := .ret (.call "_law_some" [0] [.rd 3])
def f_law_no_standing : Fn := ⟨["hand", "standing"], ["hand", "standing", "marks", "some"], 1, [law_no_standing_s1, law_no_standing_s2, law_no_standing_s3, law_no_standing_s4, law_no_standing_s5]⟩
/- _law_no_name: hand 0, shape 1, standing 2, group 3, free 4, some 5, one 6 -/
def law_no_name_s1 : S := .asg (.nm 3) (.call "_law_draw" [0] [.op .len [.rd 1]])
def law_no_name_e2 : E := .rd 6
def law_no_name_s3 : S := .asg (.nm 4) (.lc law_no_name_e2 (.nm 6) .range1 [.op .ix [.op .ix [.rd 1, .rd 3], .k (.int 1)]] [.op .notin [.rd 6, .op .ix [.rd 2, .rd 3]]])
def law_no_name_s4 : S := .asg (.nm 5) (.lst [.k .non, .k (.int 0), .op .tupd [], .op .tupd [.k (.int 0)], .op .tupd [.op .len [.rd 1], .k (.int 0)], .op .tupd [.op .neg [.k (.int 1)], .k (.int 0)], .op .tupd [.rd 3, .op .ix [.op .ix [.rd 1, .rd 3], .k (.int 1)]], .op .tupd [.rd 3, .op .neg [.k (.int 1)]], .k (.str "x"), .dct0])
def law_no_name_s5 : S := .asg (.nm 5) (.op .add [.rd 5, .lst [.lst [.rd 3, .op .ix [.op .ix [.rd 2, .rd 3], .k (.int 0)]], .op .tupd [.rd 3, .k .non], .op .tupd [.k (.bl true), .k (.int 0)], .op .tupd [.rd 3, .k (.bl true)], .call "_law_deep" [0] [.k (.int 0)]]])
def law_no_name_e6 : E := .op .tupd [.rd 3, .rd 6]
def law_no_name_s7 : S := .asg (.nm 5) (.op .add [.op .add [.rd 5, .lst [.op .tupd [.rd 3, .op .ix [.op .ix [.rd 2, .rd 3], .k (.int 0)], .k (.int 0)]]], .lc law_no_name_e6 (.nm 6) .seq [.op (.sl false true) [.rd 4, .k (.int 2)]] []])
def law_no_name_s8 : S := .ret (.call "_law_some" [0] [.rd 5])
def f_law_no_name : Fn := ⟨["hand", "shape", "standing"], ["hand", "shape", "standing", "group", "free", "some", "one"], 1, [law_no_name_s1, law_no_name_s3, law_no_name_s4, law_no_name_s5, law_no_name_s7, law_no_name_s8]⟩
/- _law_are_great_right: hand 0, m 1, shape 2, name 3, standing 4, wide 5 -/
def law_are_great_right_s1 : S := .asg (.nm 1) (.op .add [.k (.int 1), .call "_law_draw" [0] [.k (.int 3)]])
def law_are_great_right_s2 : S := .asg (.nm 2) (.op .tupd [.op .tupd [.k (.int 1), .k (.int 2)], .op .tupd [.rd 1, .op .add [.k (.int 4095), .rd 1]]])
def law_are_great_right_s3 : S := .par [4, 5] [.op .tupd [.op .tupd [.k (.int 0)], .op .trange [.rd 1]], .op .tupd [.op .tupd [.k (.int 1), .k (.int 2)], .op .tupd [.rd 1, .op .add [.k (.int 4096), .rd 1]]]]
def law_are_great_right_s4 : S := .asg (.nm 3) (.op .tupd [.k (.int 1), .call "_law_draw" [0] [.rd 1]])
def law_are_great_right_s5 : S := .ret (.k (.bl false))
def law_are_great_right_b6 : List S := [law_are_great_right_s5]
def law_are_great_right_s7 : S := .ite (.not (.call "_law_is" [] [.call "_law_told" [] [.rd 2, .rd 4, .rd 3], .call "_law_due" [] [.rd 2, .rd 4, .rd 3]])) law_are_great_right_b6 []
def law_are_great_right_s8 : S := .ret (.k (.bl false))
def law_are_great_right_b9 : List S := [law_are_great_right_s8]
def law_are_great_right_s10 : S := .ite (.bop false [.op .ne [.call "_law_told" [] [.rd 5, .rd 4, .rd 3], .op .tupd [.k (.str "many"), .k (.int 4096)]], .op .ne [.op .ix [.call "_law_told" [] [.rd 5, .rd 4, .op .tupd [.k (.int 0), .k (.int 0)]], .k (.int 0)], .k (.str "told")]]) law_are_great_right_b9 []
def law_are_great_right_s11 : S := .ret (.k (.bl false))
def law_are_great_right_b12 : List S := [law_are_great_right_s11]
def law_are_great_right_s13 : S := .ite (.bop false [.op .ne [.call "_law_told" [] [.rd 5, .rd 4, .op .tupd [.k (.int 1), .op .add [.rd 1, .k (.int 5)]]], .op .tupd [.k (.str "name")]], .op .ne [.call "_law_told" [] [.rd 5, .k .non, .k .non], .op .tupd [.k (.str "standing")]]]) law_are_great_right_b12 []
def law_are_great_right_s14 : S := .ret (.op .eq [.call "_law_told" [] [.op .tupd [.op .tupd [.k (.int 2), .op .pow [.k (.int 10), .k (.int 30)]]], .op .tupd [.op .tupd [.k (.int 0), .op .sub [.op .pow [.k (.int 10), .k (.int 30)], .k (.int 1)]]], .op .tupd [.k (.int 0), .op .sub [.op .pow [.k (.int 10), .k (.int 30)], .k (.int 1)]]], .op .tupd [.k (.str "many"), .k (.int 4096)]])
def f_law_are_great_right : Fn := ⟨["hand"], ["hand", "m", "shape", "name", "standing", "wide"], 1, [law_are_great_right_s1, law_are_great_right_s2, law_are_great_right_s3, law_are_great_right_s4, law_are_great_right_s7, law_are_great_right_s10, law_are_great_right_s13, law_are_great_right_s14]⟩
/- law: script 0, hand 1, turn 2, due 3, shape 4, standing 5, name 6, wrong 7, got 8 -/
def law_s1 : S := .asg (.nm 1) (.call "_law_hand" [] [.rd 0])
def law_s2 : S := .asg (.nm 4) (.call "_law_shape" [1] [.k (.int 300)])
def law_s3 : S := .asg (.nm 5) (.call "_law_some" [1] [.call "_law_standings" [] [.rd 4]])
def law_s4 : S := .asg (.nm 8) (.call "_law_told" [] [.rd 4, .rd 5, .rd 6])
def law_s5 : S := .ret (.k (.bl false))
def law_b6 : List S := [law_s5]
def law_s7 : S := .ite (.not (.callp "_law_is" 8 [.call "_law_due" [] [.rd 4, .rd 5, .rd 6]])) law_b6 []
def law_s8 : S := .appx 8 1 (.k .non)
def law_s9 : S := .ret (.k (.bl false))
def law_b10 : List S := [law_s9]
def law_s11 : S := .ite (.not (.call "_law_is" [] [.call "_law_told" [] [.rd 4, .rd 5, .rd 6], .call "_law_due" [] [.rd 4, .rd 5, .rd 6]])) law_b10 []
def law_b12 : List S := [law_s4, law_s7, law_s8, law_s11]
def law_s13 : S := .forr (.nm 6) .seq [.call "_law_names" [] [.rd 5]] law_b12
def law_s14 : S := .asg (.nm 7) (.call "_law_no_name" [1] [.rd 4, .rd 5])
def law_s15 : S := .ret (.k (.bl false))
def law_b16 : List S := [law_s15]
def law_s17 : S := .ite (.not (.call "_law_is" [] [.call "_law_told" [] [.rd 4, .rd 5, .rd 7], .op .tupd [.k (.str "name")]])) law_b16 []
def law_s18 : S := .ret (.k (.bl false))
def law_b19 : List S := [law_s18]
def law_s20 : S := .ite (.not (.call "_law_is" [] [.call "_law_told" [] [.rd 4, .call "_law_no_standing" [1] [.rd 5], .rd 7], .op .tupd [.k (.str "standing")]])) law_b19 []
def law_b21 : List S := [law_s2, law_s3, law_s13, law_s14, law_s17, law_s20]
def law_s22 : S := .forr (.nm 2) .range1 [.k (.int 5)] law_b21
def law_s23 : S := .ret (.k (.bl false))
def law_b24 : List S := [law_s23]
def law_s25 : S := .ite (.bop true [.op .eq [.call "_law_draw" [1] [.k (.int 8)], .k (.int 0)], .not (.call "_law_are_great_right" [1] [])]) law_b24 []
def law_s26 : S := .asg (.nm 3) (.op .tupd [.k (.str "told"), .lst [.op .tupd [.op .tupd [.k (.int 0), .k (.int 1), .k (.int 3)]], .op .tupd [.op .tupd [.k (.int 0), .k (.int 2), .k (.int 3)]], .op .tupd [.op .tupd [.k (.int 0), .k (.int 3), .k (.int 4)]]]])
def law_s27 : S := .ret (.call "_law_is" [] [.call "_law_told" [] [.op .tupd [.op .tupd [.k (.int 3), .k (.int 5)]], .op .tupd [.op .tupd [.k (.int 0), .k (.int 1), .k (.int 3)]], .op .tupd [.k (.int 0), .k (.int 1)]], .rd 3])
def f_law : Fn := ⟨["script"], ["script", "hand", "turn", "due", "shape", "standing", "name", "wrong", "got"], 0, [law_s1, law_s22, law_s25, law_s26, law_s27]⟩
def defs : List (Str × Nat × Fn) := [("is_integer", 7, f_is_integer),
  ("is_between", 8, f_is_between),
  ("is_pair", 9, f_is_pair),
  ("does_ascend", 10, f_does_ascend),
  ("are_marks", 11, f_are_marks),
  ("is_standing", 12, f_is_standing),
  ("check_standing", 13, f_check_standing),
  ("is_name", 14, f_is_name),
  ("with_marks", 15, f_with_marks),
  ("line_of", 16, f_line_of),
  ("points_of", 17, f_points_of),
  ("behind_write", 18, f_behind_write),
  ("_law_hand", 20, f_law_hand),
  ("_law_draw", 21, f_law_draw),
  ("_law_some", 22, f_law_some),
  ("_law_is", 23, f_law_is),
  ("_law_deep", 24, f_law_deep),
  ("_law_combos", 25, f_law_combos),
  ("_law_standings", 26, f_law_standings),
  ("_law_names", 27, f_law_names),
  ("_law_marks", 28, f_law_marks),
  ("_law_behind", 29, f_law_behind),
  ("_law_shape", 30, f_law_shape),
  ("_law_told", 31, f_law_told),
  ("_law_due", 32, f_law_due),
  ("_law_no_standing", 33, f_law_no_standing),
  ("_law_no_name", 34, f_law_no_name),
  ("_law_are_great_right", 35, f_law_are_great_right),
  ("law", 36, f_law)]
def gints : List (Str × Int) := [("MOST_STANDINGS", 4096)]
def xs : List Str := ["MarkError", "NoStanding", "NoName", "TooMany"]
def inis : List (Str × Str × Nat) := [("MarkError", "MarkError.__init__", 1), ("TooMany", "TooMany.__init__", 4)]

abbrev T : Tab := tabOf defs gints xs
theorem chk : (defs.all fun x => okDef (tabOf defs gints xs) (top x.2.1) x.2.2) = true := by decide +kernel
theorem chki : (inis.all fun x => iniB x.1 (defScope (iniSt (top x.2.2))) (defBody (iniSt (top x.2.2)))) = true := by decide +kernel
end K03
end PV
namespace PV
namespace K03
open PySem PySem.Spec PyProof.Rows L2
theorem binds : ∀ x ∈ defs, BindP (defArgs (top x.2.1)) x.2.2.ps := by
  unfold defs
  repeat' refine List.forall_mem_cons.mpr ⟨fun x qual body scope kV doc pm an cdv ct us hl => ?_, ?_⟩
  all_goals first
    | exact (fun _ z => nomatch z)
    | exact (match us, hl with | [_], _ => rfl)
    | exact (match us, hl with | [_, _], _ => rfl)
    | exact (match us, hl with | [_, _, _], _ => rfl)
theorem bindi : ∀ x ∈ inis, BindP (defArgs (iniSt (top x.2.2))) (iniPs x.1) := by
  unfold inis
  repeat' refine List.forall_mem_cons.mpr ⟨fun x qual body scope kV doc pm an cdv ct us hl => ?_, ?_⟩
  all_goals first
    | exact (fun _ z => nomatch z)
    | exact (match us, hl with | [_], _ => rfl)
    | exact (match us, hl with | [_, _], _ => rfl)
abbrev R : PySem.W.OpenRow := PySem.W.OpenLaw.row PySem.Challenge.rw_wrotelast_k03_standings_behind_a_write
abbrev fa : List He.Fa := factsOf defs gints xs
abbrev fn : List He.DefD := fnsOf top defs inis
abbrev hk : PySem.W.Hook := hookX 4 fa fn (inis.map (·.1)) xs
def ob (s : PySem.W.SharedT) : He.AlD × Bool := obsXG 4 fa fn (inis.map (·.1)) xs (HandSHeadRun.getT s)
theorem ob_eq (s : PySem.W.SharedT) : ob s = hk.obs s.abs := obsXG_eq (HandSHeadRun.getT_eq s)
def loose : List Str := ("MarkError" :: "NoStanding" :: "NoName" :: "TooMany" :: "MOST_STANDINGS" :: "is_integer" :: "is_between" :: "is_pair" :: "does_ascend" :: "are_marks" :: "is_standing" :: "check_standing" :: "is_name" :: "with_marks" :: "line_of" :: "points_of" :: "behind_write" :: "_law_hand" :: "_law_draw" :: "_law_some" :: "_law_is" :: "_law_deep" :: "_law_combos" :: "_law_standings" :: "_law_names" :: "_law_marks" :: "_law_behind" :: "_law_shape" :: "_law_told" :: "_law_due" :: "_law_no_standing" :: "_law_no_name" :: "_law_are_great_right" :: "law" :: [])
theorem run (w : World) : HandSHeadRun.RunEq R (PySem.W.view R.prog [36]) hk ob 5000 loose w := by
  intro os
  kernel_rfl
end K03
end PV
namespace PV
namespace K03
open PySem
noncomputable abbrev CC (n : Nat) (p : Nat) : Cc := ⟨evCall T n, p, T.glob, n⟩
@[simp] theorem g1 : T.glob "MOST_STANDINGS" = some (.int 4096) := rfl
def btw (x : D) (lo hi : Int) : Bool := match x with | .int i => decide (lo ≤ i) && decide (i ≤ hi) | _ => false
def isInt (x : D) : Bool := match x with | .int _ => true | _ => false
theorem is_integer (n : Nat) (x : D) : evCall T (n + 1) "is_integer" [.d x] = .ok (.d (.bl (isInt x))) [] := by
  rw [callS_eq (g := f_is_integer) rfl rfl]
  cases x <;> simp [evSs, evS, ev, evs, evb, evi, evt, bindT, bindTs, wipes, Tg.vars, varss, lend, giveBack, filled, plainAt, isLst, backs, f_is_integer, is_integer_s1, isiD, tyD, isInt]
theorem is_between (n : Nat) (x : D) (lo hi : Int) : evCall T (n + 2) "is_between" [.d x, .d (.int lo), .d (.int hi)] = .ok (.d (.bl (btw x lo hi))) [] := by
  rw [callS_eq (g := f_is_between) rfl rfl]
  cases x with
  | int i =>
    by_cases h : lo ≤ i <;> simp [evSs, evS, ev, evs, evb, evi, evt, bindT, bindTs, wipes, Tg.vars, varss, lend, giveBack, filled, plainAt, isLst, backs, f_is_between, is_between_s1, is_integer, isInt, btw, h]
  | _ => simp [evSs, evS, ev, evs, evb, evi, evt, bindT, bindTs, wipes, Tg.vars, varss, lend, giveBack, filled, plainAt, isLst, backs, f_is_between, is_between_s1, is_integer, isInt, btw]
def isPair (x : D) : Bool := match x with | .tup l => decide (l.length = 2) | _ => false
theorem is_pair (n : Nat) (x : D) : evCall T (n + 1) "is_pair" [.d x] = .ok (.d (.bl (isPair x))) [] := by
  rw [callS_eq (g := f_is_pair) rfl rfl]
  cases x <;> simp [evSs, evS, ev, evs, evb, evi, evt, bindT, bindTs, wipes, Tg.vars, varss, lend, giveBack, filled, plainAt, isLst, backs, f_is_pair, is_pair_s1, isiD, tyD, isPair]
  omega
def rg (a : Int) (k : Nat) : List D := (List.range k).map fun (i : Nat) => D.int (a + (i : Int))
theorem map_getI {l : List Int} {i : Int} (h1 : 0 ≤ i) (h2 : i < l.length) : L2.atI (l.map D.int) i = some (.int (l.getD i.toNat 0)) := by
  rw [atI_int _ _ h1 (by simpa using h2), List.getElem?_map]
  have : i.toNat < l.length := by omega
  simp [evSs, evS, ev, evs, evb, evi, evt, bindT, bindTs, wipes, Tg.vars, varss, lend, giveBack, filled, plainAt, isLst, backs, this]
end K03
end PV
namespace PV
namespace K03
open PySem
abbrev hM (cs : List Int) (p b sd c : Int) : M := .lst [.d (.lst (cs.map .int)), .d (.int p), .d (.int b), .d (.int sd), .d (.int c)]
def Hand (h : M) : Prop := ∃ cs p b sd c, h = hM cs p b sd c ∧ (∀ z ∈ cs, 0 ≤ z) ∧ 0 ≤ p ∧ 0 ≤ b
theorem p_scr (ns : List Int) : prim (.sl false true) [.scr ns, .int 63] = some (.lst (((ns.take 63).map D.int).map .d)) := by
  show some (M.lst ((cutG ns none (some 63)).map fun i => .d (.int i))) = _
  rw [cut_to ns (by decide), List.map_map]
  rfl
theorem law_hand (n : Nat) (ns : List Int) : ∃ h, evCall T (n + 1) "_law_hand" [.d (.scr ns)] = .ok h [] ∧ Hand h := by
  rw [callS_eq (g := f_law_hand) rfl rfl]
  have e := lc_map (C := CC n 0) (elt := law_hand_e1) (tg := .nm 2) (ik := .seq) (ias := [.op (.sl false true) [.rd 0, .k (.int 63)]]) (s := [some (.d (.scr ns)), none, none]) (s1 := [some (.d (.scr ns)), none, none])
    (ds := [.lst ((ns.take 63).map D.int)]) (its := (ns.take 63).map D.int) (g := fun d => match d with | .int i => .int (if i < 0 then -i else i) | d => d) (by simp [evSs, evS, ev, evs, evb, evi, evt, bindT, bindTs, wipes, Tg.vars, varss, lend, giveBack, filled, plainAt, isLst, backs, p_scr]) rfl (by simp [evSs, evS, ev, evs, evb, evi, evt, bindT, bindTs, wipes, Tg.vars, varss, lend, giveBack, filled, plainAt, isLst, backs]) (fun d hd => by
      obtain ⟨i, _, rfl⟩ := List.mem_map.mp hd
      exact ⟨[some (.d (.scr ns)), none, some (.d (.int i))], .d (.int (if i < 0 then -i else i)), [some (.d (.scr ns)), none, some (.d (.int i))], by simp [evSs, evS, ev, evs, evb, evi, evt, bindT, bindTs, wipes, Tg.vars, varss, lend, giveBack, filled, plainAt, isLst, backs], by simp [evSs, evS, ev, evs, evb, evi, evt, bindT, bindTs, wipes, Tg.vars, varss, lend, giveBack, filled, plainAt, isLst, backs, law_hand_e1], rfl, by simp [evSs, evS, ev, evs, evb, evi, evt, bindT, bindTs, wipes, Tg.vars, varss, lend, giveBack, filled, plainAt, isLst, backs]⟩)
  have e0 : ((ns.take 63).map D.int).map (fun d => match d with | .int i => D.int (if i < 0 then -i else i) | d => d) = ((ns.take 63).map fun i => if i < 0 then -i else i).map D.int := by
    rw [List.map_map, List.map_map]; rfl
  rw [e0] at e
  have e1 : evS (CC n 0) law_hand_s2 [some (.d (.scr ns)), none, none] = .nx [some (.d (.scr ns)), some (.lst ((((ns.take 63).map fun i => if i < 0 then -i else i).map D.int).map .d)), none] := by
    unfold law_hand_s2
    rw [evS, e]
    simp [evSs, evS, ev, evs, evb, evi, evt, bindT, bindTs, wipes, Tg.vars, varss, lend, giveBack, filled, plainAt, isLst, backs]
  have pm := p_mulL (i := 11) (j := ((((ns.take 63).map fun i => if i < 0 then -i else i).length : Nat) : Int)) (by decide)
  have e2 : ∃ s1, evS (CC n 0) law_hand_s3 [some (.d (.scr ns)), some (.lst ((((ns.take 63).map fun i => if i < 0 then -i else i).map D.int).map .d)), none] = .ret (hM ((ns.take 63).map fun i => if i < 0 then -i else i) 0 0 (57 + 11 * ((((ns.take 63).map fun i => if i < 0 then -i else i).length : Nat) : Int)) 0) s1 := by
    generalize ((ns.take 63).map fun i => if i < 0 then -i else i) = cs at pm
    have h5 : 5 ≤ szl := by decide
    exact ⟨[some (.d (.scr ns)), some (.d (.lst (cs.map D.int))), none], by simp [evSs, evS, ev, evs, evb, evi, evt, bindT, bindTs, wipes, Tg.vars, varss, lend, giveBack, filled, plainAt, isLst, backs, law_hand_s3, pm, h5]⟩
  obtain ⟨s1, e2⟩ := e2
  show ∃ h, finish 0 (evSs (CC n 0) [law_hand_s2, law_hand_s3] [some (.d (.scr ns)), none, none]) = .ok h [] ∧ Hand h
  rw [run1 e1 (runR e2), fin_ret0]
  refine ⟨_, rfl, _, 0, 0, _, 0, rfl, fun z hz => ?_, by decide, by decide⟩
  obtain ⟨i, _, rfl⟩ := List.mem_map.mp hz
  show 0 ≤ if i < 0 then -i else i
  split <;> omega
end K03
end PV
namespace PV
namespace K03
open PySem
theorem small64 {i : Int} (h1 : 0 ≤ i) (h2 : i < 4294967296) : -2 ^ 64 < i ∧ i < 2 ^ 64 := by
  have e : (2 : Int) ^ 64 = 18446744073709551616 := by decide
  rw [e]
  omega
@[simp] theorem ixN1 : L2.ixN 5 1 = some 1 := by decide
@[simp] theorem ixN2 : L2.ixN 5 2 = some 2 := by decide
@[simp] theorem ixN3 : L2.ixN 5 3 = some 3 := by decide
@[simp] theorem ixN4 : L2.ixN 5 4 = some 4 := by decide
theorem pow1018 : prim .pow [.int 10, .int 18] = some (.d (.int (10 ^ 18))) := p_pow (by decide)
theorem draw_8 (n : Nat) (cs : List Int) (p b sd c many : Int) (hc : ∀ z ∈ cs, 0 ≤ z) (hp : 0 ≤ p) (hb : 0 ≤ b) :
    ∃ p' b' sd' o, evS (CC n 1) law_draw_s8 [some (hM cs p b sd c), some (.d (.int many)), none, none, none] = .nx [some (hM cs p' b' sd' c), some (.d (.int many)), none, o, none] ∧ 0 ≤ p' ∧ 0 ≤ b' := by
  by_cases h1 : b = 0
  · by_cases h2 : p < (cs.length : Int)
    · have a1 := map_getI (l := cs) (i := p) hp h2
      have hz : 0 ≤ cs.getD p.toNat 0 := by
        have hlt : p.toNat < cs.length := by omega
        have e : cs.getD p.toNat 0 = cs[p.toNat] := by rw [List.getD_eq_getElem?_getD, List.getElem?_eq_getElem hlt]; rfl
        rw [e]
        exact hc _ (List.getElem_mem hlt)
      generalize cs.getD p.toNat 0 = cell at a1 hz
      have e1 : evS (CC n 1) law_draw_s1 [some (hM cs p b sd c), some (.d (.int many)), none, none, none] = .nx [some (hM cs p b sd c), some (.d (.int many)), none, some (.d (.int cell)), none] := by
        simp [evSs, evS, ev, evs, evb, evi, evt, bindT, bindTs, wipes, Tg.vars, varss, lend, giveBack, filled, plainAt, isLst, backs, law_draw_s1, a1]
      have e2 : evS (CC n 1) law_draw_s2 [some (hM cs p b sd c), some (.d (.int many)), none, some (.d (.int cell)), none] = .nx [some (hM cs (p + 1) b sd c), some (.d (.int many)), none, some (.d (.int cell)), none] := by
        simp [evSs, evS, ev, evs, evb, evi, evt, bindT, bindTs, wipes, Tg.vars, varss, lend, giveBack, filled, plainAt, isLst, backs, law_draw_s2]
      have pm := p_mulR (i := sd) (j := 69621) (small64 (by decide) (by decide))
      have pd := p_mod (i := sd * 69621 + cell + 29) (j := 2147483629) (by decide)
      have e3 : evS (CC n 1) law_draw_s3 [some (hM cs (p + 1) b sd c), some (.d (.int many)), none, some (.d (.int cell)), none] = .nx [some (hM cs (p + 1) b ((sd * 69621 + cell + 29) % 2147483629) c), some (.d (.int many)), none, some (.d (.int cell)), none] := by
        simp [evSs, evS, ev, evs, evb, evi, evt, bindT, bindTs, wipes, Tg.vars, varss, lend, giveBack, filled, plainAt, isLst, backs, law_draw_s3, pm, pd]
      generalize (sd * 69621 + cell + 29) % 2147483629 = sd2 at e3
      by_cases h3 : (10 : Int) ^ 18 ≤ cell
      · have e4 : evS (CC n 1) law_draw_s6 [some (hM cs (p + 1) b sd2 c), some (.d (.int many)), none, some (.d (.int cell)), none] = .nx [some (hM cs (p + 1) cell sd2 c), some (.d (.int many)), none, some (.d (.int cell)), none] := by
          simp [evSs, evS, ev, evs, evb, evi, evt, bindT, bindTs, wipes, Tg.vars, varss, lend, giveBack, filled, plainAt, isLst, backs, -Int.reducePow, law_draw_s6, law_draw_b5, law_draw_s4, pow1018, h3]
        refine ⟨p + 1, cell, sd2, some (.d (.int cell)), ?_, by omega, hz⟩
        have eb : evSs (CC n 1) law_draw_b7 [some (hM cs p b sd c), some (.d (.int many)), none, none, none] = .nx [some (hM cs (p + 1) cell sd2 c), some (.d (.int many)), none, some (.d (.int cell)), none] := run1 e1 (run1 e2 (run1 e3 (run1 e4 run0)))
        simp [evSs, evS, ev, evs, evb, evi, evt, bindT, bindTs, wipes, Tg.vars, varss, lend, giveBack, filled, plainAt, isLst, backs, law_draw_s8, h1, h2]
        rw [h1] at eb
        exact eb
      · have e4 : evS (CC n 1) law_draw_s6 [some (hM cs (p + 1) b sd2 c), some (.d (.int many)), none, some (.d (.int cell)), none] = .nx [some (hM cs (p + 1) b sd2 c), some (.d (.int many)), none, some (.d (.int cell)), none] := by
          simp [evSs, evS, ev, evs, evb, evi, evt, bindT, bindTs, wipes, Tg.vars, varss, lend, giveBack, filled, plainAt, isLst, backs, -Int.reducePow, law_draw_s6, law_draw_b5, law_draw_s4, pow1018, h3]
        refine ⟨p + 1, b, sd2, some (.d (.int cell)), ?_, by omega, hb⟩
        have eb : evSs (CC n 1) law_draw_b7 [some (hM cs p b sd c), some (.d (.int many)), none, none, none] = .nx [some (hM cs (p + 1) b sd2 c), some (.d (.int many)), none, some (.d (.int cell)), none] := run1 e1 (run1 e2 (run1 e3 (run1 e4 run0)))
        simp [evSs, evS, ev, evs, evb, evi, evt, bindT, bindTs, wipes, Tg.vars, varss, lend, giveBack, filled, plainAt, isLst, backs, law_draw_s8, h1, h2]
        rw [h1] at eb
        exact eb
    · exact ⟨p, b, sd, none, by simp [evSs, evS, ev, evs, evb, evi, evt, bindT, bindTs, wipes, Tg.vars, varss, lend, giveBack, filled, plainAt, isLst, backs, law_draw_s8, h1, h2], hp, hb⟩
  · exact ⟨p, b, sd, none, by simp [evSs, evS, ev, evs, evb, evi, evt, bindT, bindTs, wipes, Tg.vars, varss, lend, giveBack, filled, plainAt, isLst, backs, law_draw_s8, h1], hp, hb⟩
theorem draw (n : Nat) (h : M) (many : Int) (hh : Hand h) (hm : 1 ≤ many) (hl : many < 2 ^ 4000) :
    ∃ r h', evCall T (n + 1) "_law_draw" [h, .d (.int many)] = .ok (.d (.int r)) [h'] ∧ Hand h' ∧ 0 ≤ r ∧ r < many := by
  obtain ⟨cs, p, b, sd, c, rfl, hc, hp, hb⟩ := hh
  rw [callS_eq (g := f_law_draw) rfl rfl]
  show ∃ r h', finish 1 (evSs (CC n 1) [law_draw_s8, law_draw_s13, law_draw_s14, law_draw_s15, law_draw_s16, law_draw_s17, law_draw_s18] [some (hM cs p b sd c), some (.d (.int many)), none, none, none]) = _ ∧ _
  obtain ⟨p1, b1, sd1, o, e8, hp1, hb1⟩ := draw_8 n cs p b sd c many hc hp hb
  by_cases hpos : 0 < b1
  · have q1 := p_mod (i := b1) (j := many) (by omega)
    have hlog : many.natAbs.log2 < 9000 := by
      have h1 : many.natAbs < 2 ^ 4000 := by
        have h3 : ((2 ^ 4000 : Nat) : Int) = (2 : Int) ^ 4000 := by exact Int.natCast_pow 2 4000
        omega
      have h2 : many.natAbs ≠ 0 := by omega
      have := (Nat.log2_lt h2).mpr h1
      omega
    have q2 := p_fdiv (i := b1) (j := many) ⟨by omega, hlog⟩
    have e9 : evS (CC n 1) law_draw_s9 [some (hM cs p1 b1 sd1 c), some (.d (.int many)), none, o, none] = .nx [some (hM cs p1 b1 sd1 c), some (.d (.int many)), none, o, some (.d (.int (b1 % many)))] := by
      simp [evSs, evS, ev, evs, evb, evi, evt, bindT, bindTs, wipes, Tg.vars, varss, lend, giveBack, filled, plainAt, isLst, backs, law_draw_s9, q1]
    have e10 : evS (CC n 1) law_draw_s10 [some (hM cs p1 b1 sd1 c), some (.d (.int many)), none, o, some (.d (.int (b1 % many)))] = .nx [some (hM cs p1 (b1 / many) sd1 c), some (.d (.int many)), none, o, some (.d (.int (b1 % many)))] := by
      simp [evSs, evS, ev, evs, evb, evi, evt, bindT, bindTs, wipes, Tg.vars, varss, lend, giveBack, filled, plainAt, isLst, backs, law_draw_s10, q2]
    have e11 : evS (CC n 1) law_draw_s11 [some (hM cs p1 (b1 / many) sd1 c), some (.d (.int many)), none, o, some (.d (.int (b1 % many)))] = .ret (.d (.int (b1 % many))) [some (hM cs p1 (b1 / many) sd1 c), some (.d (.int many)), none, o, some (.d (.int (b1 % many)))] := by
      simp [evSs, evS, ev, evs, evb, evi, evt, bindT, bindTs, wipes, Tg.vars, varss, lend, giveBack, filled, plainAt, isLst, backs, law_draw_s11]
    have eb : evSs (CC n 1) law_draw_b12 [some (hM cs p1 b1 sd1 c), some (.d (.int many)), none, o, none] = .ret (.d (.int (b1 % many))) [some (hM cs p1 (b1 / many) sd1 c), some (.d (.int many)), none, o, some (.d (.int (b1 % many)))] := run1 e9 (run1 e10 (runR e11))
    have e13 : evS (CC n 1) law_draw_s13 [some (hM cs p1 b1 sd1 c), some (.d (.int many)), none, o, none] = .ret (.d (.int (b1 % many))) [some (hM cs p1 (b1 / many) sd1 c), some (.d (.int many)), none, o, some (.d (.int (b1 % many)))] := by
      simp [evSs, evS, ev, evs, evb, evi, evt, bindT, bindTs, wipes, Tg.vars, varss, lend, giveBack, filled, plainAt, isLst, backs, law_draw_s13, hpos]
      exact eb
    rw [run1 e8 (runR e13), fin_ret1]
    exact ⟨_, _, rfl, ⟨cs, p1, b1 / many, sd1, c, rfl, hc, hp1, Int.ediv_nonneg hb1 (by omega)⟩, Int.emod_nonneg _ (by omega), Int.emod_lt_of_pos _ (by omega)⟩
  · have e13 : evS (CC n 1) law_draw_s13 [some (hM cs p1 b1 sd1 c), some (.d (.int many)), none, o, none] = .nx [some (hM cs p1 b1 sd1 c), some (.d (.int many)), none, o, none] := by
      simp [evSs, evS, ev, evs, evb, evi, evt, bindT, bindTs, wipes, Tg.vars, varss, lend, giveBack, filled, plainAt, isLst, backs, law_draw_s13, hpos]
    have e14 : evS (CC n 1) law_draw_s14 [some (hM cs p1 b1 sd1 c), some (.d (.int many)), none, o, none] = .nx [some (hM cs p1 b1 sd1 (c + 1)), some (.d (.int many)), none, o, none] := by
      simp [evSs, evS, ev, evs, evb, evi, evt, bindT, bindTs, wipes, Tg.vars, varss, lend, giveBack, filled, plainAt, isLst, backs, law_draw_s14]
    have m1 := p_mulL (i := 7919) (j := c + 1) (small64 (by decide) (by decide))
    have m2 := p_mulR (i := sd1 + 7919 * (c + 1)) (j := 48271) (small64 (by decide) (by decide))
    have m3 := p_mod (i := (sd1 + 7919 * (c + 1)) * 48271) (j := 2147483647) (by decide)
    have e15 : ∃ r, evS (CC n 1) law_draw_s15 [some (hM cs p1 b1 sd1 (c + 1)), some (.d (.int many)), none, o, none] = .nx [some (hM cs p1 b1 sd1 (c + 1)), some (.d (.int many)), some (.d (.int r)), o, none] ∧ 0 ≤ r ∧ r < 2147483647 :=
      ⟨_, by simp [evSs, evS, ev, evs, evb, evi, evt, bindT, bindTs, wipes, Tg.vars, varss, lend, giveBack, filled, plainAt, isLst, backs, law_draw_s15, m1, m2, m3]; rfl, Int.emod_nonneg _ (by decide), Int.emod_lt_of_pos _ (by decide)⟩
    obtain ⟨r1, e15, a1, a2⟩ := e15
    have d1 := p_fdiv (i := r1) (j := 1009) ⟨by decide, by decide⟩
    have m4 := p_mulL (i := r1) (j := r1 / 1009 + 69621) (small64 a1 (by omega))
    have m5 := p_mod (i := r1 * (r1 / 1009 + 69621)) (j := 2147483647) (by decide)
    have e16 : ∃ r, evS (CC n 1) law_draw_s16 [some (hM cs p1 b1 sd1 (c + 1)), some (.d (.int many)), some (.d (.int r1)), o, none] = .nx [some (hM cs p1 b1 sd1 (c + 1)), some (.d (.int many)), some (.d (.int r)), o, none] ∧ 0 ≤ r ∧ r < 2147483647 :=
      ⟨_, by simp [evSs, evS, ev, evs, evb, evi, evt, bindT, bindTs, wipes, Tg.vars, varss, lend, giveBack, filled, plainAt, isLst, backs, law_draw_s16, d1, m4, m5]; rfl, Int.emod_nonneg _ (by decide), Int.emod_lt_of_pos _ (by decide)⟩
    obtain ⟨r2, e16, b1', b2'⟩ := e16
    have d2 := p_fdiv (i := r2) (j := 2003) ⟨by decide, by decide⟩
    have m6 := p_mulL (i := r2) (j := r2 / 2003 + 40692) (small64 b1' (by omega))
    have m7 := p_mod (i := r2 * (r2 / 2003 + 40692)) (j := 2147483399) (by decide)
    have e17 : ∃ r, evS (CC n 1) law_draw_s17 [some (hM cs p1 b1 sd1 (c + 1)), some (.d (.int many)), some (.d (.int r2)), o, none] = .nx [some (hM cs p1 b1 sd1 (c + 1)), some (.d (.int many)), some (.d (.int r)), o, none] :=
      ⟨_, by simp [evSs, evS, ev, evs, evb, evi, evt, bindT, bindTs, wipes, Tg.vars, varss, lend, giveBack, filled, plainAt, isLst, backs, law_draw_s17, d2, m6, m7]; rfl⟩
    obtain ⟨r3, e17⟩ := e17
    have d3 := p_fdiv (i := r3) (j := 16) ⟨by decide, by decide⟩
    have m8 := p_mod (i := r3 / 16) (j := many) (by omega)
    have e18 : evS (CC n 1) law_draw_s18 [some (hM cs p1 b1 sd1 (c + 1)), some (.d (.int many)), some (.d (.int r3)), o, none] = .ret (.d (.int (r3 / 16 % many))) [some (hM cs p1 b1 sd1 (c + 1)), some (.d (.int many)), some (.d (.int r3)), o, none] := by
      simp [evSs, evS, ev, evs, evb, evi, evt, bindT, bindTs, wipes, Tg.vars, varss, lend, giveBack, filled, plainAt, isLst, backs, law_draw_s18, d3, m8]
    rw [run1 e8 (run1 e13 (run1 e14 (run1 e15 (run1 e16 (run1 e17 (runR e18)))))), fin_ret1]
    exact ⟨_, _, rfl, ⟨cs, p1, b1, sd1, c + 1, rfl, hc, hp1, hb1⟩, Int.emod_nonneg _ (by omega), Int.emod_lt_of_pos _ (by omega)⟩
end K03
end PV
namespace PV
namespace K03
open PySem
abbrev HH (ms : List M) : Prop := Hand (.lst ms)
theorem drawH (n : Nat) {ms : List M} {many : Int} (hh : HH ms) (hm : 1 ≤ many) (hl : many < 2 ^ 4000) :
    ∃ r ms', evCall T (n + 1) "_law_draw" [.lst ms, .d (.int many)] = .ok (.d (.int r)) [.lst ms'] ∧ HH ms' ∧ 0 ≤ r ∧ r < many := by
  obtain ⟨r, h', e, ⟨cs, p, b, sd, c, rfl, h2⟩, h3⟩ := draw n _ many hh hm hl
  exact ⟨r, _, e, ⟨cs, p, b, sd, c, rfl, h2⟩, h3⟩
theorem lt4000 {i : Int} (h : i ≤ 16777216) : i < 2 ^ 4000 := by
  have h1 : (2 : Int) ^ 24 ≤ 2 ^ 4000 := by
    have : (2 : Nat) ^ 24 ≤ 2 ^ 4000 := Nat.pow_le_pow_right (by decide) (by decide)
    have h2 : ((2 ^ 24 : Nat) : Int) = (2 : Int) ^ 24 := Int.natCast_pow 2 24
    have h3 : ((2 ^ 4000 : Nat) : Int) = (2 : Int) ^ 4000 := Int.natCast_pow 2 4000
    omega
  have h2 : (2 : Int) ^ 24 = 16777216 := by decide
  have h3 : (2 : Int) ^ 24 < 2 ^ 4000 := by
    have : (2 : Nat) ^ 24 < 2 ^ 4000 := Nat.pow_lt_pow_right (by decide) (by decide)
    have h2 : ((2 ^ 24 : Nat) : Int) = (2 : Int) ^ 24 := Int.natCast_pow 2 24
    have h3 : ((2 ^ 4000 : Nat) : Int) = (2 : Int) ^ 4000 := Int.natCast_pow 2 4000
    omega
  omega
theorem some_L (n : Nat) {ms : List M} {l : List D} (hh : HH ms) (hl : l ≠ []) (hz : l.length ≤ 16777216) :
    ∃ d ms', d ∈ l ∧ evCall T (n + 2) "_law_some" [.lst ms, .d (.lst l)] = .ok (.d d) [.lst ms'] ∧ HH ms' := by
  have hpos : 1 ≤ (l.length : Int) := by
    have := List.length_pos_iff.mpr hl
    omega
  obtain ⟨r, ms', e, h1, h2, h3⟩ := drawH n hh hpos (lt4000 (by omega))
  obtain ⟨d, hd, ed⟩ := atI_mem h2 h3
  refine ⟨d, ms', hd, ?_, h1⟩
  rw [callS_eq (g := f_law_some) rfl rfl]
  have e1 : evS (CC (n + 1) 1) law_some_s1 [some (.lst ms), some (.d (.lst l))] = .ret (.d d) [some (.lst ms'), some (.d (.lst l))] := by simp [evSs, evS, ev, evs, evb, evi, evt, szl, bindT, bindTs, wipes, Tg.vars, varss, lend, giveBack, filled, plainAt, isLst, backs, law_some_s1, e, ed]
  show finish 1 (evSs (CC (n + 1) 1) [law_some_s1] [some (.lst ms), some (.d (.lst l))]) = _
  rw [runR e1, fin_ret1]
theorem some_T (n : Nat) {ms : List M} {l : List D} (hh : HH ms) (hl : l ≠ []) (hz : l.length ≤ 16777216) :
    ∃ d ms', d ∈ l ∧ evCall T (n + 2) "_law_some" [.lst ms, .d (.tup l)] = .ok (.d d) [.lst ms'] ∧ HH ms' := by
  have hpos : 1 ≤ (l.length : Int) := by
    have := List.length_pos_iff.mpr hl
    omega
  obtain ⟨r, ms', e, h1, h2, h3⟩ := drawH n hh hpos (lt4000 (by omega))
  obtain ⟨d, hd, ed⟩ := atI_mem h2 h3
  refine ⟨d, ms', hd, ?_, h1⟩
  rw [callS_eq (g := f_law_some) rfl rfl]
  have e1 : evS (CC (n + 1) 1) law_some_s1 [some (.lst ms), some (.d (.tup l))] = .ret (.d d) [some (.lst ms'), some (.d (.tup l))] := by simp [evSs, evS, ev, evs, evb, evi, evt, szl, bindT, bindTs, wipes, Tg.vars, varss, lend, giveBack, filled, plainAt, isLst, backs, law_some_s1, e, ed]
  show finish 1 (evSs (CC (n + 1) 1) [law_some_s1] [some (.lst ms), some (.d (.tup l))]) = _
  rw [runR e1, fin_ret1]
/-- wrapped that many times -/
inductive Dp (x : D) : Nat → D → Prop
  | zero : Dp x 0 x
  | succ {n : Nat} {d y : D} : Dp x n d → y ∈ [D.lst [d], D.tup [d], D.dct [(D.str "a", d)], D.lst [d, D.int 0]] → Dp x (n + 1) y
theorem deep (n : Nat) {ms : List M} (hh : HH ms) (x : D) : ∃ k d ms', Dp x (k + 1) d ∧ evCall T (n + 2) "_law_deep" [.lst ms, .d x] = .ok (.d d) [.lst ms'] ∧ HH ms' := by
  rw [callS_eq (g := f_law_deep) rfl rfl]
  obtain ⟨r, ms1, e, h1, h2, h3⟩ := drawH n (many := 30) hh (by decide) (lt4000 (by decide))
  have e1 : evS (CC (n + 1) 1) law_deep_s3 [some (.lst ms), some (.d x), none] = loopS (stepS 1 (.nm 2) (evSs (CC (n + 1) 1) law_deep_b2)) ((List.range (1 + r).toNat).map fun (i : Nat) => D.int (0 + (i : Int))) [some (.lst ms1), some (.d x), none] :=
    forr_eq (ds := [.int (1 + r)]) (by simp [evSs, evS, ev, evs, evb, evi, evt, szl, bindT, bindTs, wipes, Tg.vars, varss, lend, giveBack, filled, plainAt, isLst, backs, e]) (it_r1 (by omega) (by omega))
  have e2 := loopS_inv (f := stepS 1 (.nm 2) (evSs (CC (n + 1) 1) law_deep_b2)) (P := fun k s => ∃ ms d o, s = [some (.lst ms), some (.d d), o] ∧ HH ms ∧ Dp x k d) (ds := (List.range (1 + r).toNat).map fun (i : Nat) => D.int (0 + (i : Int))) (i := 0)
    (s := [some (.lst ms1), some (.d x), none]) ⟨ms1, x, none, rfl, h1, .zero⟩ (fun i hi k s hp => by
      obtain ⟨ms, d, o, rfl, hm, hd⟩ := hp
      obtain ⟨r, ms2, e, h1, h2, h3⟩ := drawH n (many := 4) hm (by decide) (lt4000 (by decide))
      obtain ⟨y, hy, ey⟩ := atI_mem (l := [D.lst [d], D.tup [d], D.dct [(D.str "a", d)], D.lst [d, D.int 0]]) h2 h3
      exact ⟨[some (.lst ms2), some (.d y), some (.d i)], by simp [evSs, evS, ev, evs, evb, evi, evt, szl, bindT, bindTs, wipes, Tg.vars, varss, lend, giveBack, filled, plainAt, isLst, backs, stepS, law_deep_b2, law_deep_s1, p_tupd, e, ey], ms2, y, _, rfl, h1, .succ hd hy⟩)
  obtain ⟨s', h4, ms2, d, o, rfl, h5, hd⟩ := e2
  have e3 : evS (CC (n + 1) 1) law_deep_s4 [some (.lst ms2), some (.d d), o] = .ret (.d d) [some (.lst ms2), some (.d d), o] := by simp [evSs, evS, ev, evs, evb, evi, evt, szl, bindT, bindTs, wipes, Tg.vars, varss, lend, giveBack, filled, plainAt, isLst, backs, law_deep_s4]
  have hk : 0 + ((List.range (1 + r).toNat).map fun (i : Nat) => D.int (0 + (i : Int))).length = r.toNat + 1 := by simp [evSs, evS, ev, evs, evb, evi, evt, szl, bindT, bindTs, wipes, Tg.vars, varss, lend, giveBack, filled, plainAt, isLst, backs]; omega
  rw [hk] at hd
  refine ⟨r.toNat, d, ms2, hd, ?_, h5⟩
  show finish 1 (evSs (CC (n + 1) 1) [law_deep_s3, law_deep_s4] [some (.lst ms), some (.d x), none]) = _
  rw [run1 (e1.trans h4) (runR e3), fin_ret1]
end K03
end PV
namespace PV
namespace K03
/-! the plain side: how many lots there are, and which -/
def ch : Nat → Nat → Nat
  | _, 0 => 1
  | 0, _ + 1 => 0
  | n + 1, r + 1 => ch n r + ch n (r + 1)
@[simp] theorem ch_zero (n : Nat) : ch n 0 = 1 := by cases n <;> rfl
theorem ch_lt : ∀ {n r : Nat}, n < r → ch n r = 0
  | 0, r + 1, _ => rfl
  | n + 1, r + 1, h => by
    show ch n r + ch n (r + 1) = 0
    rw [ch_lt (by omega), ch_lt (by omega)]
theorem ch_self : ∀ n : Nat, ch n n = 1
  | 0 => rfl
  | n + 1 => by
    show ch n n + ch n (n + 1) = 1
    rw [ch_self n, ch_lt (by omega)]
/-- the next one of a row -/
theorem ch_step : ∀ n r : Nat, ch n (r + 1) * (r + 1) = ch n r * (n - r)
  | 0, 0 => rfl
  | 0, r + 1 => by simp [ch]
  | n + 1, 0 => by
    have h := ch_step n 0
    show (ch n 0 + ch n 1) * 1 = ch (n + 1) 0 * (n + 1)
    simp at h ⊢
    omega
  | n + 1, r + 1 => by
    have h1 := ch_step n r
    have h2 := ch_step n (r + 1)
    show (ch n (r + 1) + ch n (r + 2)) * (r + 1 + 1) = (ch n r + ch n (r + 1)) * (n + 1 - (r + 1))
    by_cases h : r + 1 ≤ n
    · obtain ⟨d, rfl⟩ : ∃ d, n = r + 1 + d := ⟨n - (r + 1), by omega⟩
      have e1 : r + 1 + d - r = d + 1 := by omega
      have e2 : r + 1 + d - (r + 1) = d := by omega
      have e3 : r + 1 + d + 1 - (r + 1) = d + 1 := by omega
      rw [e1] at h1
      rw [e2] at h2
      rw [e3]
      rw [Nat.add_mul, h2, Nat.add_mul]
      rw [← h1]
      rw [Nat.mul_add (ch (r + 1 + d) (r + 1)) d 1, Nat.mul_add (ch (r + 1 + d) (r + 1)) (r + 1) 1, Nat.add_assoc]
      congr 1
      exact Nat.add_comm _ _
    · have h3 : n - r = 0 ∨ n = r := by omega
      rw [ch_lt (n := n) (r := r + 1) (by omega), ch_lt (n := n) (r := r + 2) (by omega)]
      have e : n + 1 - (r + 1) = n - r := by omega
      rw [e]
      simp only [Nat.add_zero, Nat.zero_mul]
      rw [← h1, ch_lt (n := n) (r := r + 1) (by omega)]
      simp
theorem ch_pos : ∀ {n r : Nat}, r ≤ n → 1 ≤ ch n r
  | n, 0, _ => by simp
  | n + 1, r + 1, h => by
    show 1 ≤ ch n r + ch n (r + 1)
    have := ch_pos (n := n) (r := r) (by omega)
    omega
theorem ch_diag (n r : Nat) : ch n r ≤ ch (n + 1) (r + 1) := by
  show ch n r ≤ ch n r + ch n (r + 1)
  omega
theorem ch_diags : ∀ (d n r : Nat), ch n r ≤ ch (n + d) (r + d)
  | 0, n, r => Nat.le_refl _
  | d + 1, n, r => Nat.le_trans (ch_diags d n r) (ch_diag (n + d) (r + d))
theorem ch_one : ∀ n : Nat, ch n 1 = n
  | 0 => rfl
  | n + 1 => by
    show ch n 0 + ch n 1 = n + 1
    rw [ch_one n, ch_zero]
    omega
theorem ch_base {b c : Nat} (h : 1 ≤ c) : b + 1 ≤ ch (b + c) c := by
  obtain ⟨d, rfl⟩ : ∃ d, c = 1 + d := ⟨c - 1, by omega⟩
  have h1 := ch_diags d (b + 1) 1
  rw [ch_one] at h1
  have e : b + 1 + d = b + (1 + d) := by omega
  rw [e] at h1
  exact h1
theorem ch_two : ∀ n r : Nat, ch n r ≤ 2 ^ n
  | n, 0 => by rw [ch_zero]; exact Nat.one_le_two_pow
  | 0, r + 1 => by show 0 ≤ _; omega
  | n + 1, r + 1 => by
    show ch n r + ch n (r + 1) ≤ 2 ^ (n + 1)
    have h1 := ch_two n r
    have h2 := ch_two n (r + 1)
    rw [Nat.pow_succ]
    omega
theorem ch_le (n r : Nat) : ch n (r + 1) ≤ ch n r * n := by
  have h := ch_step n r
  have h1 : ch n (r + 1) ≤ ch n (r + 1) * (r + 1) := Nat.le_mul_of_pos_right _ (by omega)
  have h2 : ch n r * (n - r) ≤ ch n r * n := Nat.mul_le_mul_left _ (by omega)
  omega
theorem ch_pow (n : Nat) : ∀ r, ch n r ≤ n ^ r
  | 0 => by simp
  | r + 1 => by
    rw [Nat.pow_succ]
    exact Nat.le_trans (ch_le n r) (Nat.mul_le_mul_right _ (ch_pow n r))
def fac : Nat → Nat
  | 0 => 1
  | n + 1 => fac n * (n + 1)
theorem fac_pos : ∀ n, 0 < fac n
  | 0 => by decide
  | n + 1 => Nat.mul_pos (fac_pos n) (by omega)
theorem ff_step (n r : Nat) : ch n r * fac r * (n - r) = ch n (r + 1) * fac (r + 1) := by
  show _ = ch n (r + 1) * (fac r * (r + 1))
  rw [Nat.mul_right_comm, ← ch_step n r, Nat.mul_right_comm, Nat.mul_assoc]
theorem ff_pow (n : Nat) : ∀ r, ch n r * fac r ≤ n ^ r
  | 0 => by simp [fac]
  | r + 1 => by
    rw [← ff_step, Nat.pow_succ]
    exact Nat.mul_le_mul (ff_pow n r) (by omega)
/-! ### the lots -/
def first (l : List Nat) : Nat := match l.getLast? with
  | some x => x + 1
  | none => 0
def ext (b : Nat) (l : List Nat) : List (List Nat) := (List.range (b - first l)).map fun i => l ++ [first l + i]
@[simp] theorem first_snoc (l : List Nat) (x : Nat) : first (l ++ [x]) = x + 1 := by unfold first; simp
/-- the ascending lots of r of those from f on and below k -/
def asc (k : Nat) : Nat → Nat → List (List Nat)
  | _, 0 => [[]]
  | f, r + 1 => (List.range (k - f)).flatMap fun i => (asc k (f + i + 1) r).map ((f + i) :: ·)
theorem ext_nil {b : Nat} {l : List Nat} (h : b ≤ first l) : ext b l = [] := by
  unfold ext
  have : b - first l = 0 := by omega
  rw [this]; rfl
theorem range_flat {α : Type} (n : Nat) (g : Nat → List α) : (List.range (n + 1)).flatMap g = g 0 ++ (List.range n).flatMap fun i => g (i + 1) := by
  rw [List.range_succ_eq_map, List.flatMap_cons, List.flatMap_map]
theorem asc_len : ∀ (r n f k : Nat), k - f = n → (asc k f r).length = ch n r
  | 0, n, f, k, _ => by simp [asc]
  | r + 1, 0, f, k, h => by simp [asc, h, ch]
  | r + 1, n + 1, f, k, h => by
    have h1 := asc_len r n (f + 1) k (by omega)
    have h2 := asc_len (r + 1) n (f + 1) k (by omega)
    have e : asc k f (r + 1) = (asc k (f + 0 + 1) r).map ((f + 0) :: ·) ++ asc k (f + 1) (r + 1) := by
      show (List.range (k - f)).flatMap _ = _
      rw [h, range_flat]
      congr 1
      show _ = (List.range (k - (f + 1))).flatMap _
      have e3 : k - (f + 1) = n := by omega
      rw [e3]
      congr 1
      funext i
      have e4 : f + (i + 1) = f + 1 + i := by omega
      rw [e4]
    rw [e, List.length_append, List.length_map, h2]
    show (asc k (f + 1) r).length + _ = _
    rw [h1]
    rfl
theorem asc_bd : ∀ {r f k : Nat} {l : List Nat}, l ∈ asc k f r → ∀ x ∈ l, x < k
  | 0, f, k, l, h => by
    simp [asc] at h
    subst h
    exact fun _ z => nomatch z
  | r + 1, f, k, l, h => by
    obtain ⟨i, hi, hl⟩ := List.mem_flatMap.mp h
    obtain ⟨l2, h2, rfl⟩ := List.mem_map.mp hl
    have hi := List.mem_range.mp hi
    intro x hx
    rcases List.mem_cons.mp hx with rfl | hx
    · omega
    · exact asc_bd h2 x hx
theorem first_le {l : List Nat} {k : Nat} (h : ∀ x ∈ l, x < k) : first l ≤ k := by
  unfold first
  split
  · rename_i x e
    exact h x (List.mem_of_getLast? e)
  · omega
/-- going on from a lot -/
def itU (k : Nat) : Nat → List (List Nat) → List (List Nat)
  | 0, L => L
  | t + 1, L => (itU k t L).flatMap (ext k)
theorem itU_in (k : Nat) : ∀ (t : Nat) (L : List (List Nat)), itU k (t + 1) L = itU k t (L.flatMap (ext k))
  | 0, L => rfl
  | t + 1, L => by
    show (itU k (t + 1) L).flatMap (ext k) = (itU k t (L.flatMap (ext k))).flatMap (ext k)
    rw [itU_in k t L]
theorem itU_flat (k : Nat) : ∀ (t : Nat) {α : Type} (L : List α) (g : α → List (List Nat)), itU k t (L.flatMap g) = L.flatMap fun x => itU k t (g x)
  | 0, _, L, g => rfl
  | t + 1, _, L, g => by
    show (itU k t (L.flatMap g)).flatMap (ext k) = L.flatMap fun x => (itU k t (g x)).flatMap (ext k)
    rw [itU_flat k t L g, List.flatMap_assoc]
theorem itU_map (k : Nat) : ∀ (r : Nat) (l : List Nat), itU k r [l] = (asc k (first l) r).map (l ++ ·)
  | 0, l => by simp [itU, asc]
  | r + 1, l => by
    rw [itU_in]
    have e : [l].flatMap (ext k) = (List.range (k - first l)).flatMap fun i => [l ++ [first l + i]] := by
      simp [ext, List.flatMap_singleton']
      rw [← List.map_eq_flatMap]
    rw [e, itU_flat]
    show _ = ((List.range (k - first l)).flatMap fun i => (asc k (first l + i + 1) r).map ((first l + i) :: ·)).map (l ++ ·)
    rw [List.map_flatMap]
    congr 1
    funext i
    rw [itU_map k r, first_snoc, List.map_map]
    congr 1
    funext x
    simp
theorem itU_asc (k r : Nat) : itU k r [[]] = asc k 0 r := by
  rw [itU_map]
  show (asc k 0 r).map _ = _
  simp
/-- by bounds that grow -/
def lp (b : Nat) : Nat → List (List Nat)
  | 0 => [[]]
  | t + 1 => (lp b t).flatMap (ext (b + t + 1))
theorem lp_key : ∀ (t f K : Nat) (p : List Nat), first p = f → f ≤ K + 1 → (asc K f t).flatMap (fun l => ext (K + 1) (p ++ l)) = (asc (K + 1) f t).flatMap fun l => ext (K + 1) (p ++ l)
  | 0, f, K, p, _, _ => rfl
  | t + 1, f, K, p, hp, hf => by
    show ((List.range (K - f)).flatMap fun i => (asc K (f + i + 1) t).map ((f + i) :: ·)).flatMap _ = ((List.range (K + 1 - f)).flatMap fun i => (asc (K + 1) (f + i + 1) t).map ((f + i) :: ·)).flatMap _
    rw [List.flatMap_assoc, List.flatMap_assoc]
    have same : ∀ i, i < K - f → ((asc K (f + i + 1) t).map ((f + i) :: ·)).flatMap (fun l => ext (K + 1) (p ++ l)) = ((asc (K + 1) (f + i + 1) t).map ((f + i) :: ·)).flatMap (fun l => ext (K + 1) (p ++ l)) := by
      intro i hi
      rw [List.flatMap_map, List.flatMap_map]
      have := lp_key t (f + i + 1) K (p ++ [f + i]) (first_snoc _ _) (by omega)
      simpa using this
    by_cases h : f ≤ K
    · have e : K + 1 - f = (K - f) + 1 := by omega
      rw [e, List.range_succ, List.flatMap_append]
      have last : [K - f].flatMap (fun i => ((asc (K + 1) (f + i + 1) t).map ((f + i) :: ·)).flatMap fun l => ext (K + 1) (p ++ l)) = [] := by
        have e1 : f + (K - f) = K := by omega
        simp only [List.flatMap_cons, List.flatMap_nil, List.append_nil, e1]
        cases t with
        | zero => simp [asc]; exact ext_nil (by rw [first_snoc]; omega)
        | succ t => simp [asc]
      rw [last, List.append_nil]
      have h2 : ∀ (m : Nat), m ≤ K - f → (List.range m).flatMap (fun i => ((asc K (f + i + 1) t).map ((f + i) :: ·)).flatMap fun l => ext (K + 1) (p ++ l)) = (List.range m).flatMap fun i => ((asc (K + 1) (f + i + 1) t).map ((f + i) :: ·)).flatMap fun l => ext (K + 1) (p ++ l) := by
        intro m
        induction m with
        | zero => intro _; rfl
        | succ m ih =>
          intro hm
          rw [List.range_succ, List.flatMap_append, List.flatMap_append, ih (by omega)]
          simp only [List.flatMap_cons, List.flatMap_nil, List.append_nil]
          rw [same m (by omega)]
      exact h2 _ (Nat.le_refl _)
    · have e1 : K - f = 0 := by omega
      have e2 : K + 1 - f = 0 := by omega
      rw [e1, e2]
      rfl
theorem lp_asc (b : Nat) : ∀ t, lp b t = asc (b + t) 0 t
  | 0 => rfl
  | t + 1 => by
    show (lp b t).flatMap (ext (b + t + 1)) = asc (b + (t + 1)) 0 (t + 1)
    rw [lp_asc b t]
    have h := lp_key t 0 (b + t) [] rfl (by omega)
    simp only [List.nil_append] at h
    have e : (asc (b + t) 0 t).flatMap (ext (b + t + 1)) = (asc (b + t + 1) 0 t).flatMap (ext (b + t + 1)) := h
    rw [e, ← itU_asc, ← itU_asc]
    rfl
end K03
end PV
namespace PV
namespace K03
open PySem
/-! ### how many -/
theorem log_le {x N : Nat} (h : x ≤ 2 ^ N) : x.log2 ≤ N := by
  by_cases hx : x = 0
  · subst hx; simp [evSs, evS, ev, evs, evb, evi, evt, szl, bindPar, bindT, bindTs, wipes, Tg.vars, varss, lend, giveBack, filled, plainAt, isLst, backs]
  · have : x.log2 < N + 1 := (Nat.log2_lt hx).mpr (Nat.lt_of_le_of_lt h (Nat.pow_lt_pow_right (by decide) (Nat.lt_succ_self N)))
    omega
theorem p_mulW {i j : Nat} {N M : Nat} (hi : i ≤ 2 ^ N) (hj : j ≤ 2 ^ M) (h : N + M < 1000000) : prim .mul [.int (i : Int), .int (j : Int)] = some (.d (.int ((i * j : Nat) : Int))) := by
  have e : ((i * j : Nat) : Int) = (i : Int) * (j : Int) := by push_cast; rfl
  rw [e]
  refine if_pos (.inl ?_)
  have h1 := log_le hi
  have h2 := log_le hj
  simp only [Int.natAbs_natCast]
  omega
theorem augW {i j : Nat} {N M : Nat} (hi : i ≤ 2 ^ N) (hj : j ≤ 2 ^ M) (h : N + M < 1000000) : augI .mul (i : Int) (j : Int) = some ((i * j : Nat) : Int) := by
  have e : ((i * j : Nat) : Int) = (i : Int) * (j : Int) := by push_cast; rfl
  rw [e]
  refine if_pos ?_
  have h1 := log_le hi
  have h2 := log_le hj
  simp only [Int.natAbs_natCast]
  omega
/-- a size that a group may have: marks to 10 ** 30 -/
theorem ten30 : (10 : Nat) ^ 30 ≤ 2 ^ 100 := by decide +kernel
theorem pow_b {k : Nat} (hk : k ≤ 10 ^ 30) {r : Nat} : k ^ r ≤ 2 ^ (100 * r) := by
  rw [Nat.pow_mul]
  exact Nat.pow_le_pow_left (Nat.le_trans hk ten30) r
theorem ch_b {k : Nat} (hk : k ≤ 10 ^ 30) {r : Nat} (hr : r ≤ 8) : ch k r ≤ 2 ^ 800 := Nat.le_trans (ch_pow k r) (Nat.le_trans (pow_b hk) (Nat.pow_le_pow_right (by decide) (by omega)))
theorem ff_b {k : Nat} (hk : k ≤ 10 ^ 30) {r : Nat} (hr : r ≤ 8) : ch k r * fac r ≤ 2 ^ 800 := Nat.le_trans (ff_pow k r) (Nat.le_trans (pow_b hk) (Nat.pow_le_pow_right (by decide) (by omega)))
theorem rgN (n : Nat) : (List.range (n : Int).toNat).map (fun (i : Nat) => D.int (0 + (i : Int))) = (List.range n).map fun i : Nat => D.int (i : Int) := by
  rw [Int.toNat_natCast]
  congr 1
  funext i
  rw [Int.zero_add]
theorem loop_rg {f : D → Sl → O} {P : Nat → Sl → Prop} : ∀ {n i : Nat} {s : Sl}, P i s → (∀ j s, i ≤ j → j < i + n → P j s → ∃ s', f (.int (j : Int)) s = .nx s' ∧ P (j + 1) s') → ∃ s', loopS f ((List.range n).map fun j : Nat => D.int ((i + j : Nat) : Int)) s = .nx s' ∧ P (i + n) s'
  | 0, i, s, hp, _ => ⟨s, rfl, hp⟩
  | n + 1, i, s, hp, h => by
    obtain ⟨s1, e1, p1⟩ := h i s (Nat.le_refl _) (by omega) hp
    obtain ⟨s2, e2, p2⟩ := loop_rg (f := f) (P := P) (n := n) (i := i + 1) p1 fun j s h1 h2 => h j s (by omega) (by omega)
    refine ⟨s2, ?_, by have : i + (n + 1) = i + 1 + n := by omega
                       rw [this]; exact p2⟩
    rw [List.range_succ_eq_map, List.map_cons, List.map_map]
    show (match f (.int ((i + 0 : Nat) : Int)) s with
      | .nx s => loopS f _ s
      | .cnt s => loopS f _ s
      | .brk s => .nx s
      | o => o) = _
    rw [Nat.add_zero, e1]
    show loopS f _ s1 = _
    rw [← e2]
    congr 1
    apply List.map_congr_left
    intro j _
    show D.int ((i + (j + 1) : Nat) : Int) = D.int ((i + 1 + j : Nat) : Int)
    have : i + (j + 1) = i + 1 + j := by omega
    rw [this]
theorem loop_rg0 {f : D → Sl → O} {P : Nat → Sl → Prop} {n : Nat} {s : Sl} (hp : P 0 s) (h : ∀ j s, j < n → P j s → ∃ s', f (.int (j : Int)) s = .nx s' ∧ P (j + 1) s') : ∃ s', loopS f ((List.range n).map fun j : Nat => D.int (j : Int)) s = .nx s' ∧ P n s' := by
  obtain ⟨s', e, p⟩ := loop_rg (f := f) (P := P) (n := n) (i := 0) hp fun j s _ h2 => h j s (by omega)
  refine ⟨s', ?_, by rw [Nat.zero_add] at p; exact p⟩
  rw [← e]
  congr 1
  apply List.map_congr_left
  intro j _
  rw [Nat.zero_add]
/-- a group: how many cells, how many marks -/
abbrev G := Nat × Nat
def gp (g : G) : D := .tup [.int (g.1 : Int), .int (g.2 : Int)]
def okS (g : G) : Prop := 1 ≤ g.1 ∧ g.1 ≤ 8 ∧ g.1 ≤ g.2 ∧ g.2 ≤ 10 ^ 30
def many : List G → Nat
  | [] => 1
  | g :: r => ch g.2 g.1 * many r
theorem many_b : ∀ {gs : List G}, (∀ g ∈ gs, okS g) → many gs ≤ 2 ^ (800 * gs.length)
  | [], _ => by simp [evSs, evS, ev, evs, evb, evi, evt, szl, bindPar, bindT, bindTs, wipes, Tg.vars, varss, lend, giveBack, filled, plainAt, isLst, backs, many]
  | g :: r, h => by
    have h1 := h g List.mem_cons_self
    have h2 := many_b fun g hg => h g (List.mem_cons_of_mem _ hg)
    show ch g.2 g.1 * many r ≤ _
    have e : 2 ^ (800 * (g :: r).length) = 2 ^ 800 * 2 ^ (800 * r.length) := by rw [← Nat.pow_add]; congr 1; simp [evSs, evS, ev, evs, evb, evi, evt, szl, bindPar, bindT, bindTs, wipes, Tg.vars, varss, lend, giveBack, filled, plainAt, isLst, backs]; omega
    rw [e]
    exact Nat.mul_le_mul (ch_b h1.2.2.2 h1.2.1) h2
theorem many_app : ∀ (a b : List G), many (a ++ b) = many a * many b
  | [], b => by simp [evSs, evS, ev, evs, evb, evi, evt, szl, bindPar, bindT, bindTs, wipes, Tg.vars, varss, lend, giveBack, filled, plainAt, isLst, backs, many]
  | g :: a, b => by
    show ch g.2 g.1 * many (a ++ b) = ch g.2 g.1 * many a * many b
    rw [many_app a b, Nat.mul_assoc]
theorem many_pos : ∀ {gs : List G}, (∀ g ∈ gs, okS g) → 1 ≤ many gs
  | [], _ => by simp [evSs, evS, ev, evs, evb, evi, evt, szl, bindPar, bindT, bindTs, wipes, Tg.vars, varss, lend, giveBack, filled, plainAt, isLst, backs, many]
  | g :: r, h => Nat.mul_pos (ch_pos (h g List.mem_cons_self).2.2.1) (many_pos fun g hg => h g (List.mem_cons_of_mem _ hg))
/-- a loop over the groups -/
theorem loop_gs {f : D → Sl → O} {P : List G → Sl → Prop} : ∀ {gs pre : List G} {s : Sl}, P pre s → (∀ a g b s, pre ++ gs = a ++ g :: b → P a s → ∃ s', f (gp g) s = .nx s' ∧ P (a ++ [g]) s') → ∃ s', loopS f (gs.map gp) s = .nx s' ∧ P (pre ++ gs) s'
  | [], pre, s, hp, _ => ⟨s, rfl, by rw [List.append_nil]; exact hp⟩
  | g :: gs, pre, s, hp, h => by
    obtain ⟨s1, e1, p1⟩ := h pre g gs s rfl hp
    obtain ⟨s2, e2, p2⟩ := loop_gs (f := f) (P := P) (gs := gs) (pre := pre ++ [g]) p1 fun a x b s e => h a x b s (by rw [← e]; simp [evSs, evS, ev, evs, evb, evi, evt, szl, bindPar, bindT, bindTs, wipes, Tg.vars, varss, lend, giveBack, filled, plainAt, isLst, backs])
    refine ⟨s2, ?_, by simpa using p2⟩
    show (match f (gp g) s with
      | .nx s => loopS f (gs.map gp) s
      | .cnt s => loopS f (gs.map gp) s
      | .brk s => .nx s
      | o => o) = _
    rw [e1]
    exact e2
end K03
end PV
namespace PV
namespace K03
open PySem
/-! ### the lots as the text has them -/
def lotD (l : List Nat) : D := .tup (l.map fun x : Nat => D.int (x : Int))
/-- an own list -/
def own (l : List D) : M := .lst (l.map .d)
@[simp] theorem frz_own (l : List D) : frz (own l) = .lst l := by unfold own; rw [frz_lst, frzs_map]
theorem ext_map (b : Nat) (l : List Nat) : (ext b l).map lotD = ((List.range (((b : Int) - ((first l : Nat) : Int)).toNat)).map fun (i : Nat) => D.int (((first l : Nat) : Int) + (i : Int))).map fun d => D.tup (l.map (fun x : Nat => D.int (x : Int)) ++ [d]) := by
  unfold ext
  have e : ((b : Int) - ((first l : Nat) : Int)).toNat = b - first l := by omega
  rw [e, List.map_map, List.map_map]
  apply List.map_congr_left
  intro i _
  simp [evSs, evS, ev, evs, evb, evi, evt, szl, bindPar, bindT, bindTs, wipes, Tg.vars, varss, lend, giveBack, filled, plainAt, isLst, backs, lotD]
/-- the first mark that may follow a lot -/
theorem first_eq (l : List Nat) : (match l.getLast? with | some x => ((x : Int) + 1) | none => 0) = ((first l : Nat) : Int) := by
  unfold first
  cases l.getLast? <;> simp [evSs, evS, ev, evs, evb, evi, evt, szl, bindPar, bindT, bindTs, wipes, Tg.vars, varss, lend, giveBack, filled, plainAt, isLst, backs]
theorem atI_last (l : List Nat) (x : Nat) : L2.atI ((l ++ [x]).map fun x : Nat => D.int (x : Int)) (-1) = some (.int (x : Int)) := by
  have ix : L2.ixN (l.length + 1) (-1) = some l.length := by
    unfold L2.ixN
    rw [if_neg (by omega), if_pos (by omega)]
    congr 1
    omega
  unfold L2.atI
  simp [evSs, evS, ev, evs, evb, evi, evt, szl, bindPar, bindT, bindTs, wipes, Tg.vars, varss, lend, giveBack, filled, plainAt, isLst, backs, ix]
theorem p_addT1 {l : List D} {d : D} (h : l.length + 1 ≤ szl) : prim .add [.tup l, .tup [d]] = some (.d (.tup (l ++ [d]))) := if_pos h
abbrev rngF (b f : Nat) : List D := (List.range (((b : Int) - ((f : Nat) : Int)).toNat)).map fun (i : Nat) => D.int (((f : Nat) : Int) + (i : Int))
theorem ext_nx {C : Cc} {i : Nat} {e : E} {s s1 : Sl} {m : M} {ms : List M} {ds : List D} (h0 : isLst s i = true) (he : ev C e s = .ok m s1) (h1 : s1[i]? = some (some (.lst ms))) (h2 : frz m = .lst ds) (hz : ms.length + ds.length ≤ szl) :
    evS C (.ext i e) s = .nx (s1.set i (some (.lst (ms ++ ds.map M.d)))) := by
  rw [evS, if_pos h0, he]
  show (match s1[i]?, frz m with
    | some (some (.lst ms)), .lst ds => if ms.length + ds.length ≤ szl then O.nx (s1.set i (some (.lst (ms ++ ds.map M.d)))) else .bad
    | _, _ => .bad) = _
  rw [h1, h2]
  exact if_pos hz
theorem combos_turn (n k m : Nat) {l : List Nat} {acc : List D} {F Tt x5 x6 : Option M} (hk : k ≤ 16777216) (hf : first l ≤ 16777216) (hl : l.length + 1 ≤ szl) (ha : acc.length + (ext k l).length ≤ szl) :
    stepS 0 (.nm 5) (evSs (CC n 0) law_combos_b6) (lotD l) [some (.d (.int (k : Int))), some (.d (.int (m : Int))), F, Tt, some (own acc), x5, x6, none] =
      .nx [some (.d (.int (k : Int))), some (.d (.int (m : Int))), F, Tt, some (own (acc ++ (ext k l).map lotD)), some (.d (lotD l)), some (.d (.int ((first l : Nat) : Int))), none] := by
  have e3 : evS (CC n 0) law_combos_s3 [some (.d (.int (k : Int))), some (.d (.int (m : Int))), F, Tt, some (own acc), some (.d (lotD l)), x6, none] = .nx [some (.d (.int (k : Int))), some (.d (.int (m : Int))), F, Tt, some (own acc), some (.d (lotD l)), some (.d (.int ((first l : Nat) : Int))), none] := by
    rcases List.eq_nil_or_concat l with rfl | ⟨l', x, rfl⟩
    · simp [evSs, evS, ev, evs, evb, evi, evt, szl, bindPar, bindT, bindTs, wipes, Tg.vars, varss, lend, giveBack, filled, plainAt, isLst, backs, law_combos_s3, lotD, first]
    · have h1 := atI_last l' x
      have h2 : 0 < ((l' ++ [x]).map fun x : Nat => D.int (x : Int)).length := by simp [evSs, evS, ev, evs, evb, evi, evt, szl, bindPar, bindT, bindTs, wipes, Tg.vars, varss, lend, giveBack, filled, plainAt, isLst, backs]
      rw [List.concat_eq_append]
      simp only [lotD] at *
      generalize ((l' ++ [x]).map fun x : Nat => D.int (x : Int)) = L1 at h1 h2 ⊢
      simp [evSs, evS, ev, evs, evb, evi, evt, szl, bindPar, bindT, bindTs, wipes, Tg.vars, varss, lend, giveBack, filled, plainAt, isLst, backs, law_combos_s3, h1, h2]
  have e5 := lc_map (C := CC n 0) (elt := law_combos_e4) (tg := .nm 7) (ik := .range2) (ias := [.rd 6, .rd 0]) (s := [some (.d (.int (k : Int))), some (.d (.int (m : Int))), F, Tt, some (own acc), some (.d (lotD l)), some (.d (.int ((first l : Nat) : Int))), none])
    (s1 := [some (.d (.int (k : Int))), some (.d (.int (m : Int))), F, Tt, some (own acc), some (.d (lotD l)), some (.d (.int ((first l : Nat) : Int))), none]) (ds := [.int ((first l : Nat) : Int), .int (k : Int)]) (its := rngF k (first l)) (g := fun d => D.tup (l.map (fun x : Nat => D.int (x : Int)) ++ [d])) (by simp [evSs, evS, ev, evs, evb, evi, evt, szl, bindPar, bindT, bindTs, wipes, Tg.vars, varss, lend, giveBack, filled, plainAt, isLst, backs])
    (it_r2 (by omega) (by omega) (by omega) (by omega) (by omega)) (by simp [evSs, evS, ev, evs, evb, evi, evt, szl, bindPar, bindT, bindTs, wipes, Tg.vars, varss, lend, giveBack, filled, plainAt, isLst, backs]) (fun d hd => by
      have hp := p_addT1 (l := l.map fun x : Nat => D.int (x : Int)) (d := d) (by simpa using hl)
      exact ⟨[some (.d (.int (k : Int))), some (.d (.int (m : Int))), F, Tt, some (own acc), some (.d (lotD l)), some (.d (.int ((first l : Nat) : Int))), some (.d d)], .d (.tup (l.map (fun x : Nat => D.int (x : Int)) ++ [d])), [some (.d (.int (k : Int))), some (.d (.int (m : Int))), F, Tt, some (own acc), some (.d (lotD l)), some (.d (.int ((first l : Nat) : Int))), some (.d d)], by simp [evSs, evS, ev, evs, evb, evi, evt, szl, bindPar, bindT, bindTs, wipes, Tg.vars, varss, lend, giveBack, filled, plainAt, isLst, backs], by
        simp only [lotD]
        generalize (l.map fun x : Nat => D.int (x : Int)) = L1 at hp ⊢
        simp [evSs, evS, ev, evs, evb, evi, evt, szl, bindPar, bindT, bindTs, wipes, Tg.vars, varss, lend, giveBack, filled, plainAt, isLst, backs, law_combos_e4, p_tupd, hp], rfl, by simp [evSs, evS, ev, evs, evb, evi, evt, szl, bindPar, bindT, bindTs, wipes, Tg.vars, varss, lend, giveBack, filled, plainAt, isLst, backs]⟩)
  rw [← ext_map] at e5
  have hlen : ((ext k l).map lotD).length = (ext k l).length := by simp [evSs, evS, ev, evs, evb, evi, evt, szl, bindPar, bindT, bindTs, wipes, Tg.vars, varss, lend, giveBack, filled, plainAt, isLst, backs]
  have e6 : evS (CC n 0) law_combos_s5 [some (.d (.int (k : Int))), some (.d (.int (m : Int))), F, Tt, some (own acc), some (.d (lotD l)), some (.d (.int ((first l : Nat) : Int))), none] = .nx [some (.d (.int (k : Int))), some (.d (.int (m : Int))), F, Tt, some (own (acc ++ (ext k l).map lotD)), some (.d (lotD l)), some (.d (.int ((first l : Nat) : Int))), none] := by
    rw [← hlen] at ha
    generalize (ext k l).map lotD = L2 at e5 ha ⊢
    generalize lotD l = L1 at e5 ⊢
    unfold own at e5 ⊢
    have ha2 : (acc.map M.d).length + L2.length ≤ szl := by simpa using ha
    have q := ext_nx (i := 4) (ms := acc.map M.d) (ds := L2) (by rfl) e5 (by rfl) (by simp [evSs, evS, ev, evs, evb, evi, evt, szl, bindPar, bindT, bindTs, wipes, Tg.vars, varss, lend, giveBack, filled, plainAt, isLst, backs]) ha2
    unfold law_combos_s5
    rw [q]
    simp [evSs, evS, ev, evs, evb, evi, evt, szl, bindPar, bindT, bindTs, wipes, Tg.vars, varss, lend, giveBack, filled, plainAt, isLst, backs]
  show (match bindT 0 (.nm 5) (.d (lotD l)) [some (.d (.int (k : Int))), some (.d (.int (m : Int))), F, Tt, some (own acc), x5, x6, none] with | some s => evSs (CC n 0) [law_combos_s3, law_combos_s5] s | none => .bad) = _
  rw [show bindT 0 (.nm 5) (.d (lotD l)) [some (.d (.int (k : Int))), some (.d (.int (m : Int))), F, Tt, some (own acc), x5, x6, none] = some [some (.d (.int (k : Int))), some (.d (.int (m : Int))), F, Tt, some (own acc), some (.d (lotD l)), x6, none] from by simp [evSs, evS, ev, evs, evb, evi, evt, szl, bindPar, bindT, bindTs, wipes, Tg.vars, varss, lend, giveBack, filled, plainAt, isLst, backs, bindT]]
  show evSs (CC n 0) [law_combos_s3, law_combos_s5] _ = _
  rw [run1 e3 (run1 e6 run0)]
end K03
end PV
namespace PV
namespace K03
open PySem
theorem loop_turns {α β : Type} {f : D → Sl → O} {S : List D → Option M → Option M → Sl} {dA : α → D} {dB : β → D} {g : α → List β} {Pl : α → Prop}
    (h : ∀ l acc x5 x6, Pl l → acc.length + (g l).length ≤ szl → ∃ y5 y6, f (dA l) (S acc x5 x6) = .nx (S (acc ++ (g l).map dB) y5 y6)) :
    ∀ (ls : List α) (acc : List D) (x5 x6 : Option M), (∀ l ∈ ls, Pl l) → acc.length + (ls.flatMap g).length ≤ szl → ∃ y5 y6, loopS f (ls.map dA) (S acc x5 x6) = .nx (S (acc ++ (ls.flatMap g).map dB) y5 y6)
  | [], acc, x5, x6, _, _ => ⟨x5, x6, by simp [evSs, evS, ev, evs, evb, evi, evt, szl, bindPar, bindT, bindTs, wipes, Tg.vars, varss, lend, giveBack, filled, plainAt, isLst, backs, loopS]⟩
  | l :: ls, acc, x5, x6, hp, hz => by
    rw [List.flatMap_cons, List.length_append] at hz
    obtain ⟨y5, y6, e1⟩ := h l acc x5 x6 (hp l List.mem_cons_self) (by omega)
    obtain ⟨z5, z6, e2⟩ := loop_turns h ls (acc ++ (g l).map dB) y5 y6 (fun x hx => hp x (List.mem_cons_of_mem _ hx)) (by rw [List.length_append, List.length_map]; omega)
    refine ⟨z5, z6, ?_⟩
    show (match f (dA l) (S acc x5 x6) with
      | .nx s => loopS f (ls.map dA) s
      | .cnt s => loopS f (ls.map dA) s
      | .brk s => .nx s
      | o => o) = _
    rw [e1]
    show loopS f (ls.map dA) _ = _
    rw [e2, List.flatMap_cons, List.map_append, List.append_assoc]
theorem asc_size : ∀ {r f k : Nat} {l : List Nat}, l ∈ asc k f r → l.length = r
  | 0, f, k, l, h => by
    simp [evSs, evS, ev, evs, evb, evi, evt, szl, bindPar, bindT, bindTs, wipes, Tg.vars, varss, lend, giveBack, filled, plainAt, isLst, backs, asc] at h
    subst h; rfl
  | r + 1, f, k, l, h => by
    obtain ⟨i, hi, hl⟩ := List.mem_flatMap.mp h
    obtain ⟨l2, h2, rfl⟩ := List.mem_map.mp hl
    rw [List.length_cons, asc_size h2]
theorem mv_nx {C : Cc} {s : Sl} {i j : Nat} {l : List M} (h : s[j]? = some (some (.lst l))) (hi : i < s.length) (hp : C.pins ≤ i) : evS C (.asg (.nm i) (.mv j)) s = .nx ((s.set j none).set i (some (.lst l))) := by
  rw [evS, ev, h]
  show (match (if i < (s.set j none).length ∧ C.pins ≤ i then some ((s.set j none).set i (some (M.lst l))) else none) with
    | some s => O.nx s
    | none => .bad) = _
  rw [if_pos ⟨by rw [List.length_set]; exact hi, hp⟩]
theorem combos_outer (n k m t : Nat) {L : List (List Nat)} {Tt x5 x6 : Option M} (hk : k ≤ 16777216) (hL : ∀ l ∈ L, first l ≤ 16777216 ∧ l.length + 1 ≤ szl) (hz : (L.flatMap (ext k)).length ≤ szl) :
    ∃ y5 y6, stepS 0 (.nm 3) (evSs (CC n 0) law_combos_b9) (.int (t : Int)) [some (.d (.int (k : Int))), some (.d (.int (m : Int))), some (own (L.map lotD)), Tt, none, x5, x6, none] =
      .nx [some (.d (.int (k : Int))), some (.d (.int (m : Int))), some (own ((L.flatMap (ext k)).map lotD)), some (.d (.int (t : Int))), none, y5, y6, none] := by
  obtain ⟨y5, y6, e7⟩ := loop_turns (f := stepS 0 (.nm 5) (evSs (CC n 0) law_combos_b6)) (dA := lotD) (dB := lotD) (g := ext k) (Pl := fun l => first l ≤ 16777216 ∧ l.length + 1 ≤ szl)
    (S := fun acc x5 x6 => [some (.d (.int (k : Int))), some (.d (.int (m : Int))), some (.d (.lst (L.map lotD))), some (.d (.int (t : Int))), some (own acc), x5, x6, none])
    (fun l acc x5 x6 hp hz => ⟨_, _, combos_turn n k m hk hp.1 hp.2 hz⟩) L [] x5 x6 hL (by simpa using hz)
  refine ⟨y5, y6, ?_⟩
  have e2 : evS (CC n 0) law_combos_s2 [some (.d (.int (k : Int))), some (.d (.int (m : Int))), some (own (L.map lotD)), some (.d (.int (t : Int))), none, x5, x6, none] = .nx [some (.d (.int (k : Int))), some (.d (.int (m : Int))), some (own (L.map lotD)), some (.d (.int (t : Int))), some (own []), x5, x6, none] := by
    generalize own (L.map lotD) = L1
    simp [evSs, evS, ev, evs, evb, evi, evt, szl, bindPar, bindT, bindTs, wipes, Tg.vars, varss, lend, giveBack, filled, plainAt, isLst, backs, law_combos_s2, own]
  have e3 : evS (CC n 0) law_combos_s7 [some (.d (.int (k : Int))), some (.d (.int (m : Int))), some (own (L.map lotD)), some (.d (.int (t : Int))), some (own []), x5, x6, none] = loopS (stepS 0 (.nm 5) (evSs (CC n 0) law_combos_b6)) (L.map lotD) [some (.d (.int (k : Int))), some (.d (.int (m : Int))), some (.d (.lst (L.map lotD))), some (.d (.int (t : Int))), some (own []), x5, x6, none] := by
    refine forr_eq (ds := [.lst (L.map lotD)]) ?_ rfl
    generalize L.map lotD = L1
    simp [evSs, evS, ev, evs, evb, evi, evt, szl, bindPar, bindT, bindTs, wipes, Tg.vars, varss, lend, giveBack, filled, plainAt, isLst, backs, own]
  have e8 : evS (CC n 0) law_combos_s8 _ = _ := mv_nx (C := CC n 0) (s := [some (.d (.int (k : Int))), some (.d (.int (m : Int))), some (.d (.lst (L.map lotD))), some (.d (.int (t : Int))), some (own ([] ++ (L.flatMap (ext k)).map lotD)), y5, y6, none]) (i := 2) (j := 4) (l := ((L.flatMap (ext k)).map lotD).map M.d) rfl (by simp [evSs, evS, ev, evs, evb, evi, evt, szl, bindPar, bindT, bindTs, wipes, Tg.vars, varss, lend, giveBack, filled, plainAt, isLst, backs]) (Nat.zero_le _)
  show (match bindT 0 (.nm 3) (.d (.int (t : Int))) [some (.d (.int (k : Int))), some (.d (.int (m : Int))), some (own (L.map lotD)), Tt, none, x5, x6, none] with | some s => evSs (CC n 0) [law_combos_s2, law_combos_s7, law_combos_s8] s | none => .bad) = _
  rw [show bindT 0 (.nm 3) (.d (.int (t : Int))) [some (.d (.int (k : Int))), some (.d (.int (m : Int))), some (own (L.map lotD)), Tt, none, x5, x6, none] = some [some (.d (.int (k : Int))), some (.d (.int (m : Int))), some (own (L.map lotD)), some (.d (.int (t : Int))), none, x5, x6, none] from by simp [evSs, evS, ev, evs, evb, evi, evt, szl, bindPar, bindT, bindTs, wipes, Tg.vars, varss, lend, giveBack, filled, plainAt, isLst, backs, bindT]]
  show evSs (CC n 0) [law_combos_s2, law_combos_s7, law_combos_s8] _ = _
  rw [run1 e2 (run1 (e3.trans e7) (run1 e8 run0))]
  rfl
theorem law_combos (n : Nat) {k m : Nat} (hk : k ≤ 16777216) (hm : m ≤ 8) (hz : ∀ j, j ≤ m → ch k j ≤ szl) : evCall T (n + 1) "_law_combos" [.d (.int (k : Int)), .d (.int (m : Int))] = .ok (own ((asc k 0 m).map lotD)) [] := by
  rw [callS_eq (g := f_law_combos) rfl rfl]
  show finish 0 (evSs (CC n 0) [law_combos_s1, law_combos_s10, law_combos_s11] [some (.d (.int (k : Int))), some (.d (.int (m : Int))), none, none, none, none, none, none]) = _
  have e1 : evS (CC n 0) law_combos_s1 [some (.d (.int (k : Int))), some (.d (.int (m : Int))), none, none, none, none, none, none] = .nx [some (.d (.int (k : Int))), some (.d (.int (m : Int))), some (own ([[]].map lotD)), none, none, none, none, none] := by
    simp [evSs, evS, ev, evs, evb, evi, evt, szl, bindPar, bindT, bindTs, wipes, Tg.vars, varss, lend, giveBack, filled, plainAt, isLst, backs, law_combos_s1, own, lotD, p_tupd]
  have e2 : evS (CC n 0) law_combos_s10 [some (.d (.int (k : Int))), some (.d (.int (m : Int))), some (own ([[]].map lotD)), none, none, none, none, none] = loopS (stepS 0 (.nm 3) (evSs (CC n 0) law_combos_b9)) ((List.range m).map fun j : Nat => D.int (j : Int)) [some (.d (.int (k : Int))), some (.d (.int (m : Int))), some (own ([[]].map lotD)), none, none, none, none, none] := by
    rw [← rgN]
    refine forr_eq (ds := [.int (m : Int)]) ?_ (it_r1 (by omega) (by omega))
    generalize own ([[]].map lotD) = L1
    simp [evSs, evS, ev, evs, evb, evi, evt, szl, bindPar, bindT, bindTs, wipes, Tg.vars, varss, lend, giveBack, filled, plainAt, isLst, backs]
  obtain ⟨s', e3, Tt, y5, y6, rfl⟩ := loop_rg0 (f := stepS 0 (.nm 3) (evSs (CC n 0) law_combos_b9)) (P := fun j s => ∃ Tt y5 y6, s = [some (.d (.int (k : Int))), some (.d (.int (m : Int))), some (own ((itU k j [[]]).map lotD)), Tt, none, y5, y6, none]) (n := m) (s := [some (.d (.int (k : Int))), some (.d (.int (m : Int))), some (own ([[]].map lotD)), none, none, none, none, none]) ⟨none, none, none, rfl⟩ (fun j s hj hp => by
    obtain ⟨Tt, x5, x6, rfl⟩ := hp
    obtain ⟨y5, y6, e⟩ := combos_outer n k m j (L := itU k j [[]]) (Tt := Tt) (x5 := x5) (x6 := x6) hk (fun l hl => by
      rw [itU_asc] at hl
      have h1 := asc_bd hl
      have h2 := asc_size hl
      have h3 := first_le h1
      refine ⟨by omega, ?_⟩
      show l.length + 1 ≤ 16777216
      omega) (by
      show (itU k (j + 1) [[]]).length ≤ szl
      rw [itU_asc, asc_len (j + 1) k 0 k (by omega)]
      exact hz (j + 1) (by omega))
    exact ⟨_, e, _, y5, y6, rfl⟩)
  have e4 : evS (CC n 0) law_combos_s11 [some (.d (.int (k : Int))), some (.d (.int (m : Int))), some (own ((itU k m [[]]).map lotD)), Tt, none, y5, y6, none] = .ret (own ((asc k 0 m).map lotD)) [some (.d (.int (k : Int))), some (.d (.int (m : Int))), none, Tt, none, y5, y6, none] := by
    rw [itU_asc]
    generalize (asc k 0 m).map lotD = L1
    simp [evSs, evS, ev, evs, evb, evi, evt, szl, bindPar, bindT, bindTs, wipes, Tg.vars, varss, lend, giveBack, filled, plainAt, isLst, backs, law_combos_s11, own]
  rw [run1 e1 (run1 (e2.trans e3) (runR e4)), fin_ret0]
end K03
end PV
namespace PV
namespace K03
open PySem
def sD (s : List (List Nat)) : D := .tup (s.map lotD)
def addG (L : List (List (List Nat))) (g : G) : List (List (List Nat)) := L.flatMap fun s => (asc g.2 0 g.1).map fun l => s ++ [l]
def stds (gs : List G) : List (List (List Nat)) := gs.foldl addG [[]]
theorem stds_snoc (a : List G) (g : G) : stds (a ++ [g]) = addG (stds a) g := by unfold stds; rw [List.foldl_append]; rfl
theorem addG_len (L : List (List (List Nat))) (g : G) : (addG L g).length = L.length * ch g.2 g.1 := by
  unfold addG
  have h : (asc g.2 0 g.1).length = ch g.2 g.1 := asc_len _ _ _ _ (by omega)
  induction L with
  | nil => simp [evSs, evS, ev, evs, evb, evi, evt, szl, bindPar, bindT, bindTs, wipes, Tg.vars, varss, lend, giveBack, filled, plainAt, isLst, backs]
  | cons s L ih =>
    rw [List.flatMap_cons, List.length_append, ih, List.length_map, h, List.length_cons, Nat.add_mul, Nat.one_mul, Nat.add_comm]
theorem foldl_len : ∀ (gs : List G) (L : List (List (List Nat))), (gs.foldl addG L).length = L.length * many gs
  | [], L => by simp [evSs, evS, ev, evs, evb, evi, evt, szl, bindPar, bindT, bindTs, wipes, Tg.vars, varss, lend, giveBack, filled, plainAt, isLst, backs, many]
  | g :: gs, L => by
    rw [List.foldl_cons, foldl_len gs, addG_len]
    show _ = L.length * (ch g.2 g.1 * many gs)
    rw [Nat.mul_assoc]
theorem stds_len (gs : List G) : (stds gs).length = many gs := by
  unfold stds
  rw [foldl_len]
  simp [evSs, evS, ev, evs, evb, evi, evt, szl, bindPar, bindT, bindTs, wipes, Tg.vars, varss, lend, giveBack, filled, plainAt, isLst, backs]
theorem stds_in : ∀ {gs : List G} {L : List (List (List Nat))} {k : Nat}, (∀ s ∈ L, s.length = k) → ∀ s ∈ gs.foldl addG L, s.length = k + gs.length
  | [], L, k, h => fun s hs => h s hs
  | g :: gs, L, k, h => fun s hs => by
    have := stds_in (gs := gs) (L := addG L g) (k := k + 1) (fun s hs => by
      obtain ⟨x, hx, hl⟩ := List.mem_flatMap.mp hs
      obtain ⟨l, _, rfl⟩ := List.mem_map.mp hl
      rw [List.length_append, h x hx]
      rfl) s hs
    rw [this, List.length_cons]
    omega
theorem stds_size {gs : List G} {s : List (List Nat)} (h : s ∈ stds gs) : s.length = gs.length := by
  have := stds_in (gs := gs) (L := [[]]) (k := 0) (fun s hs => by simp [evSs, evS, ev, evs, evb, evi, evt, szl, bindPar, bindT, bindTs, wipes, Tg.vars, varss, lend, giveBack, filled, plainAt, isLst, backs] at hs; subst hs; rfl) s h
  omega
@[simp] theorem fin_ex0 (c : Str) (as : List D) (s : Sl) : finish 0 (.ex c as s) = .ex c as [] := (rfl)
theorem many_pre {a b : List G} {g : G} (h : ∀ x ∈ a ++ g :: b, okS x) : many (a ++ [g]) ≤ many (a ++ g :: b) ∧ ch g.2 g.1 ≤ many (a ++ g :: b) := by
  have e : a ++ g :: b = (a ++ [g]) ++ b := by simp [evSs, evS, ev, evs, evb, evi, evt, szl, bindPar, bindT, bindTs, wipes, Tg.vars, varss, lend, giveBack, filled, plainAt, isLst, backs]
  rw [e, many_app (a ++ [g]) b]
  have h1 := many_pos (gs := b) fun x hx => h x (by simp [evSs, evS, ev, evs, evb, evi, evt, szl, bindPar, bindT, bindTs, wipes, Tg.vars, varss, lend, giveBack, filled, plainAt, isLst, backs, hx])
  have h2 := many_pos (gs := a) fun x hx => h x (by simp [evSs, evS, ev, evs, evb, evi, evt, szl, bindPar, bindT, bindTs, wipes, Tg.vars, varss, lend, giveBack, filled, plainAt, isLst, backs, hx])
  have h3 : many (a ++ [g]) = many a * ch g.2 g.1 := by rw [many_app]; simp [evSs, evS, ev, evs, evb, evi, evt, szl, bindPar, bindT, bindTs, wipes, Tg.vars, varss, lend, giveBack, filled, plainAt, isLst, backs, many]
  refine ⟨Nat.le_mul_of_pos_right _ h1, ?_⟩
  rw [h3]
  exact Nat.le_trans (Nat.le_mul_of_pos_left _ h2) (Nat.le_mul_of_pos_right _ h1)
def smallS (g : G) : Prop := okS g ∧ (g.2 ≤ 6 ∨ g.1 = 1)
theorem combosG (n : Nat) {g : G} (hg : smallS g) (hz : ch g.2 g.1 ≤ 4096) : evCall T (n + 1) "_law_combos" [.d (.int (g.2 : Int)), .d (.int (g.1 : Int))] = .ok (own ((asc g.2 0 g.1).map lotD)) [] := by
  obtain ⟨c, k⟩ := g
  obtain ⟨⟨h1, h2, h3, h4⟩, h5⟩ := hg
  dsimp only at *
  rcases h5 with h5 | rfl
  · refine law_combos n (by omega) h2 fun j hj => ?_
    have h6 := ch_two k j
    have h7 : 2 ^ k ≤ 2 ^ 6 := Nat.pow_le_pow_right (by decide) h5
    show _ ≤ 16777216
    omega
  · rw [ch_one] at hz
    refine law_combos n (by omega) h2 fun j hj => ?_
    have h6 : j = 0 ∨ j = 1 := by omega
    show _ ≤ 16777216
    rcases h6 with rfl | rfl
    · rw [ch_zero]; omega
    · rw [ch_one]; omega
theorem sD_map (s : List (List Nat)) (ls : List (List Nat)) : (ls.map fun l => s ++ [l]).map sD = (ls.map lotD).map fun d => D.tup (s.map lotD ++ [d]) := by
  rw [List.map_map, List.map_map]
  apply List.map_congr_left
  intro l _
  simp [evSs, evS, ev, evs, evb, evi, evt, szl, bindPar, bindT, bindTs, wipes, Tg.vars, varss, lend, giveBack, filled, plainAt, isLst, backs, sD]
end K03
end PV
namespace PV
namespace K03
open PySem
theorem lstd_turn (n : Nat) {G0 : D} {F : Option M} {g : G} {s : List (List Nat)} {acc : List D} {x5 : Option M} (hg : smallS g) (hz : ch g.2 g.1 ≤ 4096) (hs : s.length + 1 ≤ szl) (ha : acc.length + (asc g.2 0 g.1).length ≤ szl) :
    stepS 0 (.nm 5) (evSs (CC (n + 1) 0) law_standings_b5) (sD s) [some (.d G0), F, some (.d (.int (g.1 : Int))), some (.d (.int (g.2 : Int))), some (own acc), x5, none] =
      .nx [some (.d G0), F, some (.d (.int (g.1 : Int))), some (.d (.int (g.2 : Int))), some (own (acc ++ ((asc g.2 0 g.1).map fun l => s ++ [l]).map sD)), some (.d (sD s)), none] := by
  have hc := combosG n hg hz
  obtain ⟨L, hL⟩ : ∃ L, L = (asc g.2 0 g.1).map lotD := ⟨_, rfl⟩
  rw [← hL] at hc
  have e5 := lc_map (C := CC (n + 1) 0) (elt := law_standings_e3) (tg := .nm 6) (ik := .seq) (ias := [.call "_law_combos" [] [.rd 3, .rd 2]]) (s := [some (.d G0), F, some (.d (.int (g.1 : Int))), some (.d (.int (g.2 : Int))), some (own acc), some (.d (sD s)), none])
    (s1 := [some (.d G0), F, some (.d (.int (g.1 : Int))), some (.d (.int (g.2 : Int))), some (own acc), some (.d (sD s)), none]) (ds := [.lst L]) (its := L) (g := fun d => D.tup (s.map lotD ++ [d])) (by simp [evSs, evS, ev, evs, evb, evi, evt, szl, bindPar, bindT, bindTs, wipes, Tg.vars, varss, lend, giveBack, filled, plainAt, isLst, backs, lend, hc, giveBack]) rfl (by simp [evSs, evS, ev, evs, evb, evi, evt, szl, bindPar, bindT, bindTs, wipes, Tg.vars, varss, lend, giveBack, filled, plainAt, isLst, backs]) (fun d hd => by
      have hp := p_addT1 (l := s.map lotD) (d := d) (by simpa using hs)
      exact ⟨[some (.d G0), F, some (.d (.int (g.1 : Int))), some (.d (.int (g.2 : Int))), some (own acc), some (.d (sD s)), some (.d d)], .d (.tup (s.map lotD ++ [d])), [some (.d G0), F, some (.d (.int (g.1 : Int))), some (.d (.int (g.2 : Int))), some (own acc), some (.d (sD s)), some (.d d)], by simp [evSs, evS, ev, evs, evb, evi, evt, szl, bindPar, bindT, bindTs, wipes, Tg.vars, varss, lend, giveBack, filled, plainAt, isLst, backs], by
        simp only [sD]
        generalize s.map lotD = L1 at hp ⊢
        simp [evSs, evS, ev, evs, evb, evi, evt, szl, bindPar, bindT, bindTs, wipes, Tg.vars, varss, lend, giveBack, filled, plainAt, isLst, backs, law_standings_e3, p_tupd, hp], rfl, by simp [evSs, evS, ev, evs, evb, evi, evt, szl, bindPar, bindT, bindTs, wipes, Tg.vars, varss, lend, giveBack, filled, plainAt, isLst, backs]⟩)
  have hlen : (L.map fun d => D.tup (s.map lotD ++ [d])).length = (asc g.2 0 g.1).length := by rw [hL]; simp [evSs, evS, ev, evs, evb, evi, evt, szl, bindPar, bindT, bindTs, wipes, Tg.vars, varss, lend, giveBack, filled, plainAt, isLst, backs]
  have e6 : evS (CC (n + 1) 0) law_standings_s4 [some (.d G0), F, some (.d (.int (g.1 : Int))), some (.d (.int (g.2 : Int))), some (own acc), some (.d (sD s)), none] = .nx [some (.d G0), F, some (.d (.int (g.1 : Int))), some (.d (.int (g.2 : Int))), some (own (acc ++ ((asc g.2 0 g.1).map fun l => s ++ [l]).map sD)), some (.d (sD s)), none] := by
    rw [sD_map, ← hL]
    rw [← hlen] at ha
    generalize (L.map fun d => D.tup (s.map lotD ++ [d])) = L2 at e5 ha ⊢
    generalize sD s = L1 at e5 ⊢
    unfold own at e5 ⊢
    have ha2 : (acc.map M.d).length + L2.length ≤ szl := by simpa using ha
    have q := ext_nx (i := 4) (ms := acc.map M.d) (ds := L2) (by rfl) e5 (by rfl) (by simp [evSs, evS, ev, evs, evb, evi, evt, szl, bindPar, bindT, bindTs, wipes, Tg.vars, varss, lend, giveBack, filled, plainAt, isLst, backs]) ha2
    unfold law_standings_s4
    rw [q]
    simp [evSs, evS, ev, evs, evb, evi, evt, szl, bindPar, bindT, bindTs, wipes, Tg.vars, varss, lend, giveBack, filled, plainAt, isLst, backs]
  show (match bindT 0 (.nm 5) (.d (sD s)) [some (.d G0), F, some (.d (.int (g.1 : Int))), some (.d (.int (g.2 : Int))), some (own acc), x5, none] with | some s => evSs (CC (n + 1) 0) [law_standings_s4] s | none => .bad) = _
  rw [show bindT 0 (.nm 5) (.d (sD s)) [some (.d G0), F, some (.d (.int (g.1 : Int))), some (.d (.int (g.2 : Int))), some (own acc), x5, none] = some [some (.d G0), F, some (.d (.int (g.1 : Int))), some (.d (.int (g.2 : Int))), some (own acc), some (.d (sD s)), none] from by simp [evSs, evS, ev, evs, evb, evi, evt, szl, bindPar, bindT, bindTs, wipes, Tg.vars, varss, lend, giveBack, filled, plainAt, isLst, backs, bindT]]
  show evSs (CC (n + 1) 0) [law_standings_s4] _ = _
  rw [run1 e6 run0]
theorem lstd_outer (n : Nat) {G0 : D} {a : List G} {g : G} {x2 x3 x5 : Option M} (hg : smallS g) (hz : ch g.2 g.1 ≤ 4096) (ha : a.length + 1 ≤ szl) (hm : many (a ++ [g]) ≤ szl) :
    ∃ y5, stepS 0 (.tp [.nm 2, .nm 3]) (evSs (CC (n + 1) 0) law_standings_b8) (gp g) [some (.d G0), some (own ((stds a).map sD)), x2, x3, none, x5, none] =
      .nx [some (.d G0), some (own ((stds (a ++ [g])).map sD)), some (.d (.int (g.1 : Int))), some (.d (.int (g.2 : Int))), none, y5, none] := by
  have hsz : ([] : List D).length + ((stds a).flatMap fun s => (asc g.2 0 g.1).map fun l => s ++ [l]).length ≤ szl := by
    have e : ((stds a).flatMap fun s => (asc g.2 0 g.1).map fun l => s ++ [l]) = stds (a ++ [g]) := (stds_snoc a g).symm
    rw [e, stds_len]
    simpa using hm
  obtain ⟨y5, y6, e8⟩ := loop_turns (f := stepS 0 (.nm 5) (evSs (CC (n + 1) 0) law_standings_b5)) (dA := sD) (dB := sD) (g := fun s => (asc g.2 0 g.1).map fun l => s ++ [l]) (Pl := fun s => s.length + 1 ≤ szl)
    (S := fun acc x5 x6 => [some (.d G0), some (.d (.lst ((stds a).map sD))), some (.d (.int (g.1 : Int))), some (.d (.int (g.2 : Int))), some (own acc), x5, none])
    (fun s acc x5 x6 hp hz2 => ⟨_, none, lstd_turn n hg hz hp (by rw [List.length_map] at hz2; exact hz2)⟩) (stds a) [] x5 none (fun s hs => by rw [stds_size hs]; exact ha) hsz
  have e9 : ((stds a).flatMap fun s => (asc g.2 0 g.1).map fun l => s ++ [l]) = stds (a ++ [g]) := (stds_snoc a g).symm
  rw [e9] at e8
  refine ⟨y5, ?_⟩
  have e4 : evS (CC (n + 1) 0) law_standings_s2 [some (.d G0), some (own ((stds a).map sD)), some (.d (.int (g.1 : Int))), some (.d (.int (g.2 : Int))), none, x5, none] = .nx [some (.d G0), some (own ((stds a).map sD)), some (.d (.int (g.1 : Int))), some (.d (.int (g.2 : Int))), some (own []), x5, none] := by
    generalize own ((stds a).map sD) = L1
    simp [evSs, evS, ev, evs, evb, evi, evt, szl, bindPar, bindT, bindTs, wipes, Tg.vars, varss, lend, giveBack, filled, plainAt, isLst, backs, law_standings_s2, own]
  have e5 : evS (CC (n + 1) 0) law_standings_s6 [some (.d G0), some (own ((stds a).map sD)), some (.d (.int (g.1 : Int))), some (.d (.int (g.2 : Int))), some (own []), x5, none] = loopS (stepS 0 (.nm 5) (evSs (CC (n + 1) 0) law_standings_b5)) ((stds a).map sD) [some (.d G0), some (.d (.lst ((stds a).map sD))), some (.d (.int (g.1 : Int))), some (.d (.int (g.2 : Int))), some (own []), x5, none] := by
    refine forr_eq (ds := [.lst ((stds a).map sD)]) ?_ rfl
    generalize (stds a).map sD = L1
    simp [evSs, evS, ev, evs, evb, evi, evt, szl, bindPar, bindT, bindTs, wipes, Tg.vars, varss, lend, giveBack, filled, plainAt, isLst, backs, own]
  have e10 : evS (CC (n + 1) 0) law_standings_s7 _ = _ := mv_nx (C := CC (n + 1) 0) (s := [some (.d G0), some (.d (.lst ((stds a).map sD))), some (.d (.int (g.1 : Int))), some (.d (.int (g.2 : Int))), some (own ([] ++ (stds (a ++ [g])).map sD)), y5, none]) (i := 1) (j := 4) (l := ((stds (a ++ [g])).map sD).map M.d) rfl (by simp [evSs, evS, ev, evs, evb, evi, evt, szl, bindPar, bindT, bindTs, wipes, Tg.vars, varss, lend, giveBack, filled, plainAt, isLst, backs]) (Nat.zero_le _)
  show (match bindT 0 (.tp [.nm 2, .nm 3]) (.d (gp g)) [some (.d G0), some (own ((stds a).map sD)), x2, x3, none, x5, none] with | some s => evSs (CC (n + 1) 0) [law_standings_s2, law_standings_s6, law_standings_s7] s | none => .bad) = _
  rw [show bindT 0 (.tp [.nm 2, .nm 3]) (.d (gp g)) [some (.d G0), some (own ((stds a).map sD)), x2, x3, none, x5, none] = some [some (.d G0), some (own ((stds a).map sD)), some (.d (.int (g.1 : Int))), some (.d (.int (g.2 : Int))), none, x5, none] from by simp [evSs, evS, ev, evs, evb, evi, evt, szl, bindPar, bindT, bindTs, wipes, Tg.vars, varss, lend, giveBack, filled, plainAt, isLst, backs, bindT, bindTs, gp]]
  show evSs (CC (n + 1) 0) [law_standings_s2, law_standings_s6, law_standings_s7] _ = _
  rw [run1 e4 (run1 (e5.trans e8) (run1 e10 run0))]
  rfl
theorem law_standings (n : Nat) {gs : List G} (h : ∀ g ∈ gs, smallS g) (hl : gs.length ≤ 8) (hc : many gs ≤ 4096) : evCall T (n + 2) "_law_standings" [.d (.tup (gs.map gp))] = .ok (own ((stds gs).map sD)) [] := by
  rw [callS_eq (g := f_law_standings) rfl rfl]
  show finish 0 (evSs (CC (n + 1) 0) [law_standings_s1, law_standings_s9, law_standings_s10] [some (.d (.tup (gs.map gp))), none, none, none, none, none, none]) = _
  have e2 : evS (CC (n + 1) 0) law_standings_s1 [some (.d (.tup (gs.map gp))), none, none, none, none, none, none] = .nx [some (.d (.tup (gs.map gp))), some (own ((stds []).map sD)), none, none, none, none, none] := by
    generalize D.tup (gs.map gp) = G1
    simp [evSs, evS, ev, evs, evb, evi, evt, szl, bindPar, bindT, bindTs, wipes, Tg.vars, varss, lend, giveBack, filled, plainAt, isLst, backs, law_standings_s1, own, stds, sD, p_tupd]
  have e3 : evS (CC (n + 1) 0) law_standings_s9 [some (.d (.tup (gs.map gp))), some (own ((stds []).map sD)), none, none, none, none, none] = loopS (stepS 0 (.tp [.nm 2, .nm 3]) (evSs (CC (n + 1) 0) law_standings_b8)) (gs.map gp) [some (.d (.tup (gs.map gp))), some (own ((stds []).map sD)), none, none, none, none, none] := by
    refine forr_eq (ds := [.tup (gs.map gp)]) ?_ rfl
    generalize own ((stds []).map sD) = L1
    simp [evSs, evS, ev, evs, evb, evi, evt, szl, bindPar, bindT, bindTs, wipes, Tg.vars, varss, lend, giveBack, filled, plainAt, isLst, backs]
  obtain ⟨s', e4, x2, x3, x5, rfl⟩ := loop_gs (f := stepS 0 (.tp [.nm 2, .nm 3]) (evSs (CC (n + 1) 0) law_standings_b8)) (gs := gs) (pre := []) (P := fun pre s => ∃ x2 x3 x5, s = [some (.d (.tup (gs.map gp))), some (own ((stds pre).map sD)), x2, x3, none, x5, none]) (s := [some (.d (.tup (gs.map gp))), some (own ((stds []).map sD)), none, none, none, none, none]) ⟨none, none, none, rfl⟩ (fun a g b s e hp => by
    obtain ⟨x2, x3, x5, rfl⟩ := hp
    have e : gs = a ++ g :: b := e
    have hp := many_pre (a := a) (g := g) (b := b) (by rw [← e]; exact fun x hx => (h x hx).1)
    rw [← e] at hp
    have hal : a.length ≤ 8 := by rw [e] at hl; simp [evSs, evS, ev, evs, evb, evi, evt, szl, bindPar, bindT, bindTs, wipes, Tg.vars, varss, lend, giveBack, filled, plainAt, isLst, backs] at hl; omega
    obtain ⟨y5, e5⟩ := lstd_outer n (G0 := .tup (gs.map gp)) (a := a) (g := g) (x2 := x2) (x3 := x3) (x5 := x5) (h g (by rw [e]; simp [evSs, evS, ev, evs, evb, evi, evt, szl, bindPar, bindT, bindTs, wipes, Tg.vars, varss, lend, giveBack, filled, plainAt, isLst, backs])) (by omega) (by show a.length + 1 ≤ 16777216; omega) (by show _ ≤ 16777216; omega)
    exact ⟨_, e5, _, _, y5, rfl⟩)
  have e6 : evS (CC (n + 1) 0) law_standings_s10 [some (.d (.tup (gs.map gp))), some (own ((stds ([] ++ gs)).map sD)), x2, x3, none, x5, none] = .ret (own ((stds gs).map sD)) [some (.d (.tup (gs.map gp))), none, x2, x3, none, x5, none] := by
    rw [List.nil_append]
    generalize (stds gs).map sD = L1
    generalize D.tup (gs.map gp) = G1
    simp [evSs, evS, ev, evs, evb, evi, evt, szl, bindPar, bindT, bindTs, wipes, Tg.vars, varss, lend, giveBack, filled, plainAt, isLst, backs, law_standings_s10, own]
  rw [run1 e2 (run1 (e3.trans e4) (runR e6)), fin_ret0]
/-! ### the same -/
end K03
end PV
namespace PV
namespace K03
open PySem
def ascB : List Int → Bool
  | a :: b :: r => decide (a < b) && ascB (b :: r)
  | _ => true
theorem asc_iff : ∀ l : List Int, ascB l = true ↔ ∀ i : Nat, i + 1 < l.length → l.getD i 0 < l.getD (i + 1) 0
  | [] => by simp [evSs, evS, ev, evs, evb, evi, evt, bindT, bindTs, wipes, Tg.vars, varss, lend, giveBack, filled, plainAt, isLst, backs, ascB]
  | [a] => by simp [evSs, evS, ev, evs, evb, evi, evt, bindT, bindTs, wipes, Tg.vars, varss, lend, giveBack, filled, plainAt, isLst, backs, ascB]
  | a :: b :: r => by
    have ih := asc_iff (b :: r)
    simp only [ascB, Bool.and_eq_true, decide_eq_true_eq]
    rw [ih]
    constructor
    · rintro ⟨h1, h2⟩ i hi
      cases i with
      | zero => simpa using h1
      | succ i => have := h2 i (by simpa using hi); simpa using this
    · intro h
      refine ⟨by simpa using h 0 (by simp [evSs, evS, ev, evs, evb, evi, evt, bindT, bindTs, wipes, Tg.vars, varss, lend, giveBack, filled, plainAt, isLst, backs]), fun i hi => ?_⟩
      have := h (i + 1) (by simpa using hi)
      simpa using this
def ascP (l : List Int) (d : D) : Bool := match d with | .int i => decide (l.getD (i - 1).toNat 0 < l.getD i.toNat 0) | _ => false
theorem asc_range (l : List Int) : (rg 1 ((l.length : Int) - 1).toNat).all (ascP l) = ascB l := by
  rw [Bool.eq_iff_iff, asc_iff]
  unfold rg
  simp only [List.all_map, List.all_eq_true, List.mem_range, Function.comp, ascP, decide_eq_true_eq]
  constructor
  · intro h i hi
    have := h i (by omega)
    have e1 : (1 + (i : Int) - 1).toNat = i := by omega
    have e2 : (1 + (i : Int)).toNat = i + 1 := by omega
    rw [e1, e2] at this
    exact this
  · intro h i hi
    have e1 : (1 + (i : Int) - 1).toNat = i := by omega
    have e2 : (1 + (i : Int)).toNat = i + 1 := by omega
    rw [e1, e2]
    exact h i (by omega)
theorem does_ascend (n : Nat) (l : List Int) (hl : l.length ≤ 1000) : evCall T (n + 1) "does_ascend" [.d (.tup (l.map .int))] = .ok (.d (.bl (ascB l))) [] := by
  rw [callS_eq (g := f_does_ascend) rfl rfl]
  have e : ev (CC n 0) does_ascend_a2 [some (.d (.tup (l.map .int))), none] = .ok (.d (.bl ((rg 1 ((l.length : Int) - 1).toNat).all (ascP l)))) [some (.d (.tup (l.map .int))), none] := by
    refine all_lc (ds := [.int 1, .int l.length]) (s1 := [some (.d (.tup (l.map .int))), none]) (its := rg 1 ((l.length : Int) - 1).toNat) (p := ascP l) (by simp [evSs, evS, ev, evs, evb, evi, evt, bindT, bindTs, wipes, Tg.vars, varss, lend, giveBack, filled, plainAt, isLst, backs]) ?_ (by simp [evSs, evS, ev, evs, evb, evi, evt, bindT, bindTs, wipes, Tg.vars, varss, lend, giveBack, filled, plainAt, isLst, backs]) fun d hd => ?_
    · exact it_r2 (by omega) (by omega) (by omega) (by omega) (by omega)
    · unfold rg at hd
      rw [List.mem_map] at hd
      obtain ⟨i, hi, rfl⟩ := hd
      rw [List.mem_range] at hi
      have a1 := map_getI (l := l) (i := 1 + (i : Int) - 1) (by omega) (by omega)
      have a2 := map_getI (l := l) (i := 1 + (i : Int)) (by omega) (by omega)
      exact ⟨[some (.d (.tup (l.map .int))), some (.d (.int (1 + i)))], .d (.bl (ascP l (.int (1 + i)))), [some (.d (.tup (l.map .int))), some (.d (.int (1 + i)))], by simp [evSs, evS, ev, evs, evb, evi, evt, bindT, bindTs, wipes, Tg.vars, varss, lend, giveBack, filled, plainAt, isLst, backs], by simp [evSs, evS, ev, evs, evb, evi, evt, bindT, bindTs, wipes, Tg.vars, varss, lend, giveBack, filled, plainAt, isLst, backs, does_ascend_e1, a1, a2, ascP], rfl, by simp [evSs, evS, ev, evs, evb, evi, evt, bindT, bindTs, wipes, Tg.vars, varss, lend, giveBack, filled, plainAt, isLst, backs]⟩
  rw [asc_range] at e
  simp [evSs, evS, ev, evs, evb, evi, evt, bindT, bindTs, wipes, Tg.vars, varss, lend, giveBack, filled, plainAt, isLst, backs, f_does_ascend, does_ascend_s3, e]
def intsOf : List D → List Int
  | [] => []
  | .int i :: r => i :: intsOf r
  | _ :: r => intsOf r
theorem ints_btw {lo hi : Int} : ∀ {l : List D}, l.all (fun x => btw x lo hi) = true → l = (intsOf l).map .int
  | [], _ => rfl
  | d :: r, h => by
    rw [List.all_cons, Bool.and_eq_true] at h
    cases d with
    | int i => show D.int i :: r = D.int i :: (intsOf r).map .int; rw [← ints_btw h.2]
    | _ => cases h.1
def mrk (m k : Int) (x : D) : Bool := match x with | .tup l => decide ((l.length : Int) = m) && (l.all (fun y => btw y 0 (k - 1)) && ascB (intsOf l)) | _ => false
abbrev gD (m k : Int) : D := .tup [.int m, .int k]
theorem are_marks_a (n : Nat) (l : List D) (m k : Int) : ev (CC (n + 2) 0) are_marks_a6 [some (.d (gD m k)), some (.d (.tup l)), some (.d (.int m)), some (.d (.int k)), none] = .ok (.d (.bl (l.all fun y => btw y 0 (k - 1)))) [some (.d (gD m k)), some (.d (.tup l)), some (.d (.int m)), some (.d (.int k)), none] := by
  refine all_lc (ds := [.tup l]) (s1 := [some (.d (gD m k)), some (.d (.tup l)), some (.d (.int m)), some (.d (.int k)), none]) (its := l) (p := fun y => btw y 0 (k - 1)) (by simp [evSs, evS, ev, evs, evb, evi, evt, bindT, bindTs, wipes, Tg.vars, varss, lend, giveBack, filled, plainAt, isLst, backs]) rfl (by simp [evSs, evS, ev, evs, evb, evi, evt, bindT, bindTs, wipes, Tg.vars, varss, lend, giveBack, filled, plainAt, isLst, backs]) fun d hd => ?_
  exact ⟨[some (.d (gD m k)), some (.d (.tup l)), some (.d (.int m)), some (.d (.int k)), some (.d d)], .d (.bl (btw d 0 (k - 1))), [some (.d (gD m k)), some (.d (.tup l)), some (.d (.int m)), some (.d (.int k)), some (.d d)], by simp [evSs, evS, ev, evs, evb, evi, evt, bindT, bindTs, wipes, Tg.vars, varss, lend, giveBack, filled, plainAt, isLst, backs], by simp [evSs, evS, ev, evs, evb, evi, evt, bindT, bindTs, wipes, Tg.vars, varss, lend, giveBack, filled, plainAt, isLst, backs, are_marks_e5, is_between], rfl, by simp [evSs, evS, ev, evs, evb, evi, evt, bindT, bindTs, wipes, Tg.vars, varss, lend, giveBack, filled, plainAt, isLst, backs]⟩
theorem are_marks (n : Nat) (m k : Int) (hm : m ≤ 1000) (x : D) : evCall T (n + 3) "are_marks" [.d (gD m k), .d x] = .ok (.d (.bl (mrk m k x))) [] := by
  rw [callS_eq (g := f_are_marks) rfl rfl]
  show finish 0 (evSs (CC (n + 2) 0) [are_marks_s1, are_marks_s4, are_marks_s7] [some (.d (gD m k)), some (.d x), none, none, none]) = _
  have e1 : evS (CC (n + 2) 0) are_marks_s1 [some (.d (gD m k)), some (.d x), none, none, none] = .nx [some (.d (gD m k)), some (.d x), some (.d (.int m)), some (.d (.int k)), none] := by simp [evSs, evS, ev, evs, evb, evi, evt, bindT, bindTs, wipes, Tg.vars, varss, lend, giveBack, filled, plainAt, isLst, backs, are_marks_s1]
  by_cases hx : ∃ l : List D, x = .tup l ∧ (l.length : Int) = m
  · obtain ⟨l, rfl, h1⟩ := hx
    have e2 : evS (CC (n + 2) 0) are_marks_s4 [some (.d (gD m k)), some (.d (.tup l)), some (.d (.int m)), some (.d (.int k)), none] = .nx [some (.d (gD m k)), some (.d (.tup l)), some (.d (.int m)), some (.d (.int k)), none] := by
      simp [evSs, evS, ev, evs, evb, evi, evt, bindT, bindTs, wipes, Tg.vars, varss, lend, giveBack, filled, plainAt, isLst, backs, are_marks_s4, isiD, tyD, h1]
    have ea := are_marks_a n l m k
    have e3 : evS (CC (n + 2) 0) are_marks_s7 [some (.d (gD m k)), some (.d (.tup l)), some (.d (.int m)), some (.d (.int k)), none] = .ret (.d (.bl (mrk m k (.tup l)))) [some (.d (gD m k)), some (.d (.tup l)), some (.d (.int m)), some (.d (.int k)), none] := by
      by_cases h2 : (l.all fun y => btw y 0 (k - 1)) = true
      · have e3 := does_ascend (n + 1) (intsOf l) (by have := ints_btw h2; have := congrArg List.length this; simp [evSs, evS, ev, evs, evb, evi, evt, bindT, bindTs, wipes, Tg.vars, varss, lend, giveBack, filled, plainAt, isLst, backs] at this; omega)
        rw [← ints_btw h2] at e3
        simp [evSs, evS, ev, evs, evb, evi, evt, bindT, bindTs, wipes, Tg.vars, varss, lend, giveBack, filled, plainAt, isLst, backs, are_marks_s7, mrk, h1, ea, h2, e3]
      · have h2 : (l.all fun y => btw y 0 (k - 1)) = false := by simpa using h2
        simp [evSs, evS, ev, evs, evb, evi, evt, bindT, bindTs, wipes, Tg.vars, varss, lend, giveBack, filled, plainAt, isLst, backs, are_marks_s7, mrk, h1, ea, h2]
    rw [run1 e1 (run1 e2 (runR e3)), fin_ret0]
  · have hm : mrk m k x = false := by
      cases x with
      | tup l => simp [evSs, evS, ev, evs, evb, evi, evt, bindT, bindTs, wipes, Tg.vars, varss, lend, giveBack, filled, plainAt, isLst, backs, mrk]; exact fun h => absurd ⟨l, rfl, h⟩ hx
      | _ => rfl
    have e2 : evS (CC (n + 2) 0) are_marks_s4 [some (.d (gD m k)), some (.d x), some (.d (.int m)), some (.d (.int k)), none] = .ret (.d (.bl false)) [some (.d (gD m k)), some (.d x), some (.d (.int m)), some (.d (.int k)), none] := by
      cases x with
      | tup l =>
        have h1 : ¬ (l.length : Int) = m := fun h => hx ⟨l, rfl, h⟩
        simp [evSs, evS, ev, evs, evb, evi, evt, bindT, bindTs, wipes, Tg.vars, varss, lend, giveBack, filled, plainAt, isLst, backs, are_marks_s4, are_marks_b3, are_marks_s2, isiD, tyD, h1]
      | _ => simp [evSs, evS, ev, evs, evb, evi, evt, bindT, bindTs, wipes, Tg.vars, varss, lend, giveBack, filled, plainAt, isLst, backs, are_marks_s4, are_marks_b3, are_marks_s2, isiD, tyD]
    rw [run1 e1 (runR e2), fin_ret0, hm]
abbrev gI (g : Int × Int) : D := gD g.1 g.2
def pm (d : D) : Bool := match d with | .tup [.tup [.int m, .int k], y] => mrk m k y | _ => false
abbrev zw (a b : List D) : List D := List.zipWith (fun u v => D.tup [u, v]) a b
theorem zw_mem {d : D} : ∀ {a b : List D}, d ∈ zw a b → ∃ u v, u ∈ a ∧ v ∈ b ∧ d = .tup [u, v]
  | [], _, h => by simp [evSs, evS, ev, evs, evb, evi, evt, bindT, bindTs, wipes, Tg.vars, varss, lend, giveBack, filled, plainAt, isLst, backs, zw] at h
  | _ :: _, [], h => by simp [evSs, evS, ev, evs, evb, evi, evt, bindT, bindTs, wipes, Tg.vars, varss, lend, giveBack, filled, plainAt, isLst, backs, zw] at h
  | u :: a, v :: b, h => by
    rcases List.mem_cons.mp h with h | h
    · exact ⟨u, v, List.mem_cons_self, List.mem_cons_self, h⟩
    · obtain ⟨u, v, h1, h2, h3⟩ := zw_mem h
      exact ⟨u, v, List.mem_cons_of_mem _ h1, List.mem_cons_of_mem _ h2, h3⟩
def std (gs : List (Int × Int)) (x : D) : Bool := match x with | .tup l => decide (l.length = gs.length) && (zw (gs.map gI) l).all pm | _ => false
theorem is_standing_a (n : Nat) (gs : List (Int × Int)) (hg : ∀ g ∈ gs, g.1 ≤ 1000) (l : List D) :
    ev (CC (n + 3) 0) is_standing_a5 [some (.d (.tup (gs.map gI))), some (.d (.tup l)), none, none] = .ok (.d (.bl ((zw (gs.map gI) l).all pm))) [some (.d (.tup (gs.map gI))), some (.d (.tup l)), none, none] := by
  refine all_lc (ds := [.tup (gs.map gI), .tup l]) (s1 := [some (.d (.tup (gs.map gI))), some (.d (.tup l)), none, none]) (its := zw (gs.map gI) l) (p := pm) (by simp [evSs, evS, ev, evs, evb, evi, evt, bindT, bindTs, wipes, Tg.vars, varss, lend, giveBack, filled, plainAt, isLst, backs]) rfl (by simp [evSs, evS, ev, evs, evb, evi, evt, bindT, bindTs, wipes, Tg.vars, varss, lend, giveBack, filled, plainAt, isLst, backs]) fun d hd => ?_
  obtain ⟨u, v, h1, h2, rfl⟩ := zw_mem hd
  obtain ⟨g, hg1, rfl⟩ := List.mem_map.mp h1
  have e := are_marks n g.1 g.2 (hg g hg1) v
  exact ⟨[some (.d (.tup (gs.map gI))), some (.d (.tup l)), some (.d (gI g)), some (.d v)], .d (.bl (mrk g.1 g.2 v)), [some (.d (.tup (gs.map gI))), some (.d (.tup l)), some (.d (gI g)), some (.d v)], by simp [evSs, evS, ev, evs, evb, evi, evt, bindT, bindTs, wipes, Tg.vars, varss, lend, giveBack, filled, plainAt, isLst, backs], by simp [evSs, evS, ev, evs, evb, evi, evt, bindT, bindTs, wipes, Tg.vars, varss, lend, giveBack, filled, plainAt, isLst, backs, is_standing_e4, e], rfl, by simp [evSs, evS, ev, evs, evb, evi, evt, bindT, bindTs, wipes, Tg.vars, varss, lend, giveBack, filled, plainAt, isLst, backs]⟩
theorem is_standing (n : Nat) (gs : List (Int × Int)) (hg : ∀ g ∈ gs, g.1 ≤ 1000) (x : D) : evCall T (n + 4) "is_standing" [.d (.tup (gs.map gI)), .d x] = .ok (.d (.bl (std gs x))) [] := by
  rw [callS_eq (g := f_is_standing) rfl rfl]
  show finish 0 (evSs (CC (n + 3) 0) [is_standing_s3, is_standing_s6] [some (.d (.tup (gs.map gI))), some (.d x), none, none]) = _
  by_cases hx : ∃ l : List D, x = .tup l ∧ l.length = gs.length
  · obtain ⟨l, rfl, h1⟩ := hx
    have e1 : evS (CC (n + 3) 0) is_standing_s3 [some (.d (.tup (gs.map gI))), some (.d (.tup l)), none, none] = .nx [some (.d (.tup (gs.map gI))), some (.d (.tup l)), none, none] := by
      simp [evSs, evS, ev, evs, evb, evi, evt, bindT, bindTs, wipes, Tg.vars, varss, lend, giveBack, filled, plainAt, isLst, backs, is_standing_s3, isiD, tyD, h1]
    have e2 : evS (CC (n + 3) 0) is_standing_s6 [some (.d (.tup (gs.map gI))), some (.d (.tup l)), none, none] = .ret (.d (.bl (std gs (.tup l)))) [some (.d (.tup (gs.map gI))), some (.d (.tup l)), none, none] := by
      have ea := is_standing_a n gs hg l
      simp [evSs, evS, ev, evs, evb, evi, evt, bindT, bindTs, wipes, Tg.vars, varss, lend, giveBack, filled, plainAt, isLst, backs, is_standing_s6, ea, std, h1]
    rw [run1 e1 (runR e2), fin_ret0]
  · have hm : std gs x = false := by
      cases x with
      | tup l => simp [evSs, evS, ev, evs, evb, evi, evt, bindT, bindTs, wipes, Tg.vars, varss, lend, giveBack, filled, plainAt, isLst, backs, std]; exact fun h => absurd ⟨l, rfl, h⟩ hx
      | _ => rfl
    have e1 : evS (CC (n + 3) 0) is_standing_s3 [some (.d (.tup (gs.map gI))), some (.d x), none, none] = .ret (.d (.bl false)) [some (.d (.tup (gs.map gI))), some (.d x), none, none] := by
      cases x with
      | tup l =>
        have h1 : ¬ (l.length : Int) = gs.length := fun h => hx ⟨l, rfl, by omega⟩
        have h1' : ¬ l.length = gs.length := fun h => hx ⟨l, rfl, h⟩
        simp [evSs, evS, ev, evs, evb, evi, evt, bindT, bindTs, wipes, Tg.vars, varss, lend, giveBack, filled, plainAt, isLst, backs, is_standing_s3, is_standing_b2, is_standing_s1, isiD, tyD, h1, h1']
      | _ => simp [evSs, evS, ev, evs, evb, evi, evt, bindT, bindTs, wipes, Tg.vars, varss, lend, giveBack, filled, plainAt, isLst, backs, is_standing_s3, is_standing_b2, is_standing_s1, isiD, tyD]
    rw [runR e1, fin_ret0, hm]

/-- the same, of the groups as they are here -/
def gi (g : G) : Int × Int := ((g.1 : Int), (g.2 : Int))
theorem gI_map (gs : List G) : (gs.map gi).map gI = gs.map gp := by
  rw [List.map_map]; rfl
def stdG (gs : List G) (x : D) : Bool := std (gs.map gi) x
theorem is_standingG (n : Nat) (gs : List G) (hg : ∀ g ∈ gs, g.1 ≤ 1000) (x : D) : evCall T (n + 4) "is_standing" [.d (.tup (gs.map gp)), .d x] = .ok (.d (.bl (stdG gs x))) [] := by
  rw [← gI_map]
  refine is_standing n (gs.map gi) (fun g hg' => ?_) x
  obtain ⟨a, ha, rfl⟩ := List.mem_map.mp hg'
  have := hg a ha
  show (a.1 : Int) ≤ 1000
  omega
end K03
end PV
namespace PV
namespace K03
open PySem
/-! ### what a standing is -/
def okL (g : G) (l : List Nat) : Prop := l.length = g.1 ∧ l.Pairwise (· < ·) ∧ ∀ x ∈ l, x < g.2
def okSt : List G → List (List Nat) → Prop
  | [], [] => True
  | g :: gs, l :: s => okL g l ∧ okSt gs s
  | _, _ => False
theorem okSt_len : ∀ {gs : List G} {s : List (List Nat)}, okSt gs s → s.length = gs.length
  | [], [], _ => rfl
  | g :: gs, l :: s, h => congrArg (· + 1) (okSt_len h.2)
  | [], _ :: _, h => h.elim
  | _ :: _, [], h => h.elim
theorem okSt_get : ∀ {gs : List G} {s : List (List Nat)} {i : Nat}, okSt gs s → (h : i < gs.length) → ∃ g l, gs[i]? = some g ∧ s[i]? = some l ∧ okL g l
  | g :: gs, l :: s, 0, h, _ => ⟨g, l, rfl, rfl, h.1⟩
  | g :: gs, l :: s, i + 1, h, hi => by
    obtain ⟨g', l', h1, h2, h3⟩ := okSt_get (i := i) h.2 (by simpa using hi)
    exact ⟨g', l', by simpa using h1, by simpa using h2, h3⟩
  | [], _, _, _, hi => by simp at hi
  | _ :: _, [], _, h, _ => h.elim
theorem okSt_snoc : ∀ {gs : List G} {s : List (List Nat)} {g : G} {l : List Nat}, okSt gs s → okL g l → okSt (gs ++ [g]) (s ++ [l])
  | [], [], _, _, _, h => ⟨h, trivial⟩
  | g :: gs, l :: s, _, _, h, h2 => ⟨h.1, okSt_snoc h.2 h2⟩
  | [], _ :: _, _, _, h, _ => h.elim
  | _ :: _, [], _, _, h, _ => h.elim
theorem asc_up : ∀ {r f k : Nat} {l : List Nat}, l ∈ asc k f r → l.Pairwise (· < ·) ∧ ∀ x ∈ l, f ≤ x
  | 0, f, k, l, h => by
    simp [asc] at h
    subst h
    exact ⟨.nil, fun _ z => (nomatch z)⟩
  | r + 1, f, k, l, h => by
    obtain ⟨i, hi, hl⟩ := List.mem_flatMap.mp h
    obtain ⟨l2, h2, rfl⟩ := List.mem_map.mp hl
    obtain ⟨p1, p2⟩ := asc_up h2
    refine ⟨List.pairwise_cons.mpr ⟨fun x hx => by have := p2 x hx; omega, p1⟩, fun x hx => ?_⟩
    rcases List.mem_cons.mp hx with rfl | hx
    · omega
    · have := p2 x hx; omega
theorem foldl_ok : ∀ {gs pre : List G} {L : List (List (List Nat))}, (∀ s ∈ L, okSt pre s) → ∀ s ∈ gs.foldl addG L, okSt (pre ++ gs) s
  | [], pre, L, h, s, hs => by rw [List.append_nil]; exact h s hs
  | g :: gs, pre, L, h, s, hs => by
    have := foldl_ok (gs := gs) (pre := pre ++ [g]) (L := addG L g) (fun t ht => by
      obtain ⟨s0, h0, ht⟩ := List.mem_flatMap.mp ht
      obtain ⟨l, hl, rfl⟩ := List.mem_map.mp ht
      exact okSt_snoc (h s0 h0) ⟨asc_size hl, (asc_up hl).1, asc_bd hl⟩) s hs
    simpa using this
theorem stds_ok {gs : List G} {s : List (List Nat)} (h : s ∈ stds gs) : okSt gs s := foldl_ok (pre := []) (L := [[]]) (fun s hs => by simp at hs; subst hs; exact trivial) s h
/-! the numbers -/
def up (l : List Nat) : List Int := l.map fun x : Nat => (x : Int)
def tI (l : List Int) : D := .tup (l.map .int)
theorem lotD_up (l : List Nat) : lotD l = tI (up l) := by unfold lotD tI up; rw [List.map_map]; rfl
theorem ints_up (l : List Int) : intsOf (l.map .int) = l := by
  induction l with
  | nil => rfl
  | cons a l ih => show a :: intsOf (l.map .int) = _; rw [ih]
theorem ascB_up : ∀ {l : List Nat}, l.Pairwise (· < ·) → ascB (up l) = true
  | [], _ => rfl
  | [a], _ => rfl
  | a :: b :: l, h => by
    obtain ⟨h1, h2⟩ := List.pairwise_cons.mp h
    have := h1 b List.mem_cons_self
    have ih := ascB_up h2
    show (decide ((a : Int) < (b : Int)) && ascB (up (b :: l))) = true
    rw [ih]
    simp [this]
theorem btw_up {l : List Nat} {k : Nat} (h : ∀ x ∈ l, x < k) : ((up l).map D.int).all (fun y => btw y 0 ((k : Int) - 1)) = true := by
  rw [List.all_eq_true]
  intro d hd
  obtain ⟨i, hi, rfl⟩ := List.mem_map.mp hd
  obtain ⟨x, hx, rfl⟩ := List.mem_map.mp hi
  have := h x hx
  simp [btw]
  omega
theorem mrk_ok {g : G} {l : List Nat} (h : okL g l) : mrk (g.1 : Int) (g.2 : Int) (lotD l) = true := by
  rw [lotD_up]
  show (decide ((((up l).map D.int).length : Int) = (g.1 : Int)) && (((up l).map D.int).all (fun y => btw y 0 ((g.2 : Int) - 1)) && ascB (intsOf ((up l).map D.int)))) = true
  rw [btw_up h.2.2, ints_up, ascB_up h.2.1]
  simp [up, h.1]
theorem stdG_tup (gs : List G) (l : List D) : stdG gs (.tup l) = (decide (l.length = gs.length) && (zw (gs.map gp) l).all pm) := by
  unfold stdG
  show (decide (l.length = (gs.map gi).length) && (zw ((gs.map gi).map gI) l).all pm) = _
  rw [gI_map, List.length_map]
theorem pm_gp (g : G) (y : D) : pm (.tup [gp g, y]) = mrk (g.1 : Int) (g.2 : Int) y := rfl
theorem stdG_ok {gs : List G} {s : List (List Nat)} (h : okSt gs s) : stdG gs (sD s) = true := by
  have e : (zw (gs.map gp) (s.map lotD)).all pm = true := by
    induction gs generalizing s with
    | nil => cases s <;> rfl
    | cons g gs ih =>
      cases s with
      | nil => rfl
      | cons l s =>
        show (pm (.tup [gp g, lotD l]) && (zw (gs.map gp) (s.map lotD)).all pm) = true
        rw [pm_gp, mrk_ok h.1, ih h.2]; rfl
  unfold sD
  rw [stdG_tup, e]
  simp [okSt_len h]
theorem stdG_len {gs : List G} {l : List D} (h : l.length ≠ gs.length) : stdG gs (.tup l) = false := by
  rw [stdG_tup]; simp [h]
theorem stdG_hd {g : G} {gs : List G} {y : D} {l : List D} (h : mrk (g.1 : Int) (g.2 : Int) y = false) : stdG (g :: gs) (.tup (y :: l)) = false := by
  rw [stdG_tup]
  show (_ && (pm (.tup [gp g, y]) && (zw (gs.map gp) l).all pm)) = false
  rw [pm_gp, h]
  simp
theorem mrk_len {m k : Int} {l : List D} (h : (l.length : Int) ≠ m) : mrk m k (.tup l) = false := by
  show (decide ((l.length : Int) = m) && _) = false
  rw [decide_eq_false h]; rfl
theorem mrk_mem {m k : Int} {l : List D} {y : D} (h : y ∈ l) (hy : ∀ i, y ≠ .int i) : mrk m k (.tup l) = false := by
  have : (l.all fun y => btw y 0 (k - 1)) = false := by
    rw [Bool.eq_false_iff]
    intro h2
    have := List.all_eq_true.mp h2 y h
    cases y with
    | int i => exact hy i rfl
    | _ => cases this
  show (decide ((l.length : Int) = m) && ((l.all fun y => btw y 0 (k - 1)) && _)) = false
  rw [this]; simp
/-- no whole number, and no tuple of whole numbers -/
def Odd (d : D) : Prop := (∀ i, d ≠ .int i) ∧ ∀ l, d = .tup l → ∃ y ∈ l, ∀ i, y ≠ .int i
theorem odd_wrap {d y : D} (h : Odd d) (hy : y ∈ [D.lst [d], D.tup [d], D.dct [(D.str "a", d)], D.lst [d, D.int 0]]) : Odd y := by
  simp at hy
  rcases hy with rfl | rfl | rfl | rfl
  · exact ⟨fun i z => (nomatch z), fun l z => (nomatch z)⟩
  · exact ⟨fun i z => (nomatch z), fun l z => by cases z; exact ⟨d, List.mem_cons_self, h.1⟩⟩
  · exact ⟨fun i z => (nomatch z), fun l z => (nomatch z)⟩
  · exact ⟨fun i z => (nomatch z), fun l z => (nomatch z)⟩
theorem odd_dp {x : D} (h : Odd x) : ∀ {k : Nat} {d : D}, Dp x k d → Odd d
  | 0, _, .zero => h
  | k + 1, _, .succ hd hy => odd_wrap (odd_dp h hd) hy
theorem odd_std {s : List (List Nat)} (h : s ≠ []) : Odd (sD s) := by
  refine ⟨fun i z => (nomatch z), fun l z => ?_⟩
  cases z
  cases s with
  | nil => exact absurd rfl h
  | cons a s => exact ⟨lotD a, List.mem_cons_self, fun i z => (nomatch z)⟩
theorem stdG_dp {g : G} {gs : List G} {x d : D} {k : Nat} (hx : Odd x) (h : Dp x (k + 1) d) : stdG (g :: gs) d = false := by
  cases h with
  | succ hd hy =>
    have ho := odd_dp hx hd
    simp at hy
    rcases hy with rfl | rfl | rfl | rfl
    · rfl
    · refine stdG_hd ?_
      rename_i d'
      cases d' with
      | tup l =>
        obtain ⟨y, hy, hi⟩ := ho.2 l rfl
        exact mrk_mem hy hi
      | _ => rfl
    · rfl
    · rfl
end K03
end PV
namespace PV
namespace K03
open PySem
theorem inD_ints (c : Int) (l : List Int) : inD (.int c) (l.map .int) = some (decide (c ∈ l)) := by
  have sw : SeqAt.shaped (.int c) = true := by rw [SeqAt.shaped.eq_def, PyData.canLay0.eq_def, PyData.depth.eq_def]; simp [evSs, evS, ev, evs, evb, evi, evt, bindT, bindTs, wipes, Tg.vars, varss, lend, giveBack, filled, plainAt, isLst, backs]
  unfold inD
  rw [toPs_ints]
  show (if SeqAt.shaped (.int c) = true ∧ SeqAt.shaped (.list (l.map PyData.int)) = true then some ((l.map PyData.int).any fun b => PyData.eqv b (.int c)) else none) = _
  rw [if_pos ⟨sw, shaped_l (lay_ints l)⟩]
  congr 1
  rw [Bool.eq_iff_iff, List.any_eq_true, decide_eq_true_iff]
  constructor
  · rintro ⟨b, hb, e⟩
    obtain ⟨i, hi, rfl⟩ := List.mem_map.mp hb
    rw [PyData.eqv.eq_def] at e
    have e : (i == c) = true := e
    rw [beq_iff_eq] at e
    exact e ▸ hi
  · intro h
    refine ⟨.int c, List.mem_map.mpr ⟨c, h, rfl⟩, ?_⟩
    rw [PyData.eqv.eq_def]
    exact beq_self_eq_true c
@[simp] theorem p_inI (c : Int) (l : List Int) : prim .isin [.int c, .tup (l.map .int)] = some (.d (.bl (decide (c ∈ l)))) := by
  show (inD (.int c) (l.map .int)).map (fun b => M.d (.bl (b != false))) = _
  rw [inD_ints]; simp [evSs, evS, ev, evs, evb, evi, evt, bindT, bindTs, wipes, Tg.vars, varss, lend, giveBack, filled, plainAt, isLst, backs]
@[simp] theorem p_notinI (c : Int) (l : List Int) : prim .notin [.int c, .tup (l.map .int)] = some (.d (.bl (!decide (c ∈ l)))) := by
  show (inD (.int c) (l.map .int)).map (fun b => M.d (.bl (b != true))) = _
  rw [inD_ints]; simp [evSs, evS, ev, evs, evb, evi, evt, bindT, bindTs, wipes, Tg.vars, varss, lend, giveBack, filled, plainAt, isLst, backs]
theorem sD_at {s : List (List Nat)} {i : Nat} (h : i < s.length) : L2.atI (s.map lotD) (i : Int) = some (tI (up (s.getD i []))) := by
  rw [atI_nat _ _ (by simpa using h), List.getElem?_map]
  simp [evSs, evS, ev, evs, evb, evi, evt, bindT, bindTs, wipes, Tg.vars, varss, lend, giveBack, filled, plainAt, isLst, backs, h, lotD_up]
def nmB (s : List (List Nat)) (x : D) : Bool := match x with
  | .tup [.int g, .int c] => decide (0 ≤ g) && decide (g ≤ (s.length : Int) - 1) && decide (c ∈ up (s.getD g.toNat []))
  | _ => false
theorem is_name (n : Nat) (s : List (List Nat)) (x : D) : evCall T (n + 3) "is_name" [.d (sD s), .d x] = .ok (.d (.bl (nmB s x))) [] := by
  rw [callS_eq (g := f_is_name) rfl rfl]
  show finish 0 (evSs (CC (n + 2) 0) [is_name_s3, is_name_s4] [some (.d (sD s)), some (.d x)]) = _
  have hlen : prim .len [sD s] = some (.d (.int s.length)) := by unfold sD; rw [p_lenT, List.length_map]
  have no : isPair x = false → nmB s x = false := by
    intro h
    unfold nmB
    split
    · cases h
    · rfl
  have pr := is_pair (n + 1) x
  by_cases hp : isPair x = true
  · cases x with
    | tup l =>
      match l, hp with
      | [a, b], hp =>
        have bt := is_between n a 0 ((s.length : Int) - 1)
        rw [hp] at pr
        have e3 : evS (CC (n + 2) 0) is_name_s3 [some (.d (sD s)), some (.d (.tup [a, b]))] = if btw a 0 ((s.length : Int) - 1) = true then .nx [some (.d (sD s)), some (.d (.tup [a, b]))] else .ret (.d (.bl false)) [some (.d (sD s)), some (.d (.tup [a, b]))] := by
          generalize sD s = S1 at hlen ⊢
          cases hb : btw a 0 ((s.length : Int) - 1) <;> simp [evSs, evS, ev, evs, evb, evi, evt, bindT, bindTs, wipes, Tg.vars, varss, lend, giveBack, filled, plainAt, isLst, backs, is_name_s3, is_name_b2, is_name_s1, pr, bt, hb, hlen]
        by_cases hb : btw a 0 ((s.length : Int) - 1) = true
        · rw [if_pos hb] at e3
          cases a with
          | int g =>
            simp only [btw, Bool.and_eq_true, decide_eq_true_eq] at hb
            obtain ⟨i, rfl⟩ : ∃ i : Nat, g = (i : Int) := ⟨g.toNat, by omega⟩
            have hi : i < s.length := by omega
            have ea := sD_at hi
            have ic := is_integer (n + 1) b
            have e4 : evS (CC (n + 2) 0) is_name_s4 [some (.d (sD s)), some (.d (.tup [.int (i : Int), b]))] = .ret (.d (.bl (nmB s (.tup [.int (i : Int), b])))) [some (.d (sD s)), some (.d (.tup [.int (i : Int), b]))] := by
              unfold sD
              generalize s.map lotD = S1 at ea ⊢
              cases b with
              | int c => simp [evSs, evS, ev, evs, evb, evi, evt, bindT, bindTs, wipes, Tg.vars, varss, lend, giveBack, filled, plainAt, isLst, backs, is_name_s4, ic, isInt, ea, tI, nmB, hb]
              | _ => simp [evSs, evS, ev, evs, evb, evi, evt, bindT, bindTs, wipes, Tg.vars, varss, lend, giveBack, filled, plainAt, isLst, backs, is_name_s4, ic, isInt, nmB]
            rw [run1 e3 (runR e4), fin_ret0]
          | _ => cases hb
        · rw [if_neg hb] at e3
          have hn : nmB s (.tup [a, b]) = false := by
            cases a with
            | int g =>
              have hb2 : (decide (0 ≤ g) && decide (g ≤ (s.length : Int) - 1)) = false := by simpa [btw] using hb
              cases b with
              | int c => show (decide (0 ≤ g) && decide (g ≤ (s.length : Int) - 1) && _) = false; rw [hb2]; rfl
              | _ => rfl
            | _ => rfl
          rw [runR e3, fin_ret0, hn]
    | _ => cases hp
  · have hp : isPair x = false := by simpa using hp
    rw [hp] at pr
    have e3 : evS (CC (n + 2) 0) is_name_s3 [some (.d (sD s)), some (.d x)] = .ret (.d (.bl false)) [some (.d (sD s)), some (.d x)] := by
      generalize sD s = S1
      simp [evSs, evS, ev, evs, evb, evi, evt, bindT, bindTs, wipes, Tg.vars, varss, lend, giveBack, filled, plainAt, isLst, backs, is_name_s3, is_name_b2, is_name_s1, pr]
    rw [runR e3, fin_ret0, no hp]
theorem nm_ok {s : List (List Nat)} {i c : Nat} {l : List Nat} (h : s[i]? = some l) (hc : c ∈ l) : nmB s (.tup [.int (i : Int), .int (c : Int)]) = true := by
  have hi : i < s.length := by
    rcases Nat.lt_or_ge i s.length with h1 | h1
    · exact h1
    · rw [List.getElem?_eq_none h1] at h; cases h
  show (decide (0 ≤ (i : Int)) && decide ((i : Int) ≤ (s.length : Int) - 1) && decide ((c : Int) ∈ up (s.getD (i : Int).toNat []))) = true
  have e : s.getD (i : Int).toNat [] = l := by rw [Int.toNat_natCast, List.getD_eq_getElem?_getD, h]; rfl
  rw [e]
  have : (c : Int) ∈ up l := List.mem_map.mpr ⟨c, hc, rfl⟩
  simp [evSs, evS, ev, evs, evb, evi, evt, bindT, bindTs, wipes, Tg.vars, varss, lend, giveBack, filled, plainAt, isLst, backs, this]
  omega
theorem nm_one (s : List (List Nat)) (d : D) : nmB s (.tup [d]) = false := by cases d <;> rfl
theorem nm_dp {s : List (List Nat)} {d : D} {k : Nat} {x : D} (h : Dp x (k + 1) d) : nmB s d = false := by
  cases h with
  | succ _ hy =>
    simp [evSs, evS, ev, evs, evb, evi, evt, bindT, bindTs, wipes, Tg.vars, varss, lend, giveBack, filled, plainAt, isLst, backs] at hy
    rcases hy with rfl | rfl | rfl | rfl
    · rfl
    · exact nm_one _ _
    · rfl
    · rfl
end K03
end PV
namespace PV
namespace K03
open PySem
/-! ### the same -/
def leaf (d : D) : Prop := (∃ i, d = .int i) ∨ ∃ x, d = .str x ∧ PyData.strOk x = true
def isOk : Nat → D → Prop
  | 0, d => leaf d
  | k + 1, d => leaf d ∨ (∃ l, d = .tup l ∧ ∀ x ∈ l, isOk k x) ∨ ∃ l, d = .lst l ∧ ∀ x ∈ l, isOk k x
theorem law_isI (n : Nat) (i : Int) : evCall T (n + 1) "_law_is" [.d (.int i), .d (.int i)] = .ok (.d (.bl true)) [] := by
  rw [callS_eq (g := f_law_is) rfl rfl]
  show finish 0 (evSs (CC n 0) [law_is_s8, law_is_s11, law_is_s14, law_is_s15] [some (.d (.int i)), some (.d (.int i)), none, none]) = _
  have e1 : evS (CC n 0) law_is_s8 [some (.d (.int i)), some (.d (.int i)), none, none] = .nx [some (.d (.int i)), some (.d (.int i)), none, none] := by simp [evSs, evS, ev, evs, evb, evi, evt, szl, bindPar, bindT, bindTs, wipes, Tg.vars, varss, lend, giveBack, filled, plainAt, isLst, backs, law_is_s8, isiD, tyD]
  have e2 : evS (CC n 0) law_is_s11 [some (.d (.int i)), some (.d (.int i)), none, none] = .nx [some (.d (.int i)), some (.d (.int i)), none, none] := by simp [evSs, evS, ev, evs, evb, evi, evt, szl, bindPar, bindT, bindTs, wipes, Tg.vars, varss, lend, giveBack, filled, plainAt, isLst, backs, law_is_s11, isNon]
  have e3 : evS (CC n 0) law_is_s14 [some (.d (.int i)), some (.d (.int i)), none, none] = .nx [some (.d (.int i)), some (.d (.int i)), none, none] := by simp [evSs, evS, ev, evs, evb, evi, evt, szl, bindPar, bindT, bindTs, wipes, Tg.vars, varss, lend, giveBack, filled, plainAt, isLst, backs, law_is_s14, isiD, tyD]
  have e4 : evS (CC n 0) law_is_s15 [some (.d (.int i)), some (.d (.int i)), none, none] = .ret (.d (.bl true)) [some (.d (.int i)), some (.d (.int i)), none, none] := by simp [evSs, evS, ev, evs, evb, evi, evt, szl, bindPar, bindT, bindTs, wipes, Tg.vars, varss, lend, giveBack, filled, plainAt, isLst, backs, law_is_s15, isiD, tyD]
  rw [run1 e1 (run1 e2 (run1 e3 (runR e4))), fin_ret0]
theorem law_isS (n : Nat) {x : Str} (hx : PyData.strOk x = true) : evCall T (n + 1) "_law_is" [.d (.str x), .d (.str x)] = .ok (.d (.bl true)) [] := by
  rw [callS_eq (g := f_law_is) rfl rfl]
  have q := p_eqS hx hx
  show finish 0 (evSs (CC n 0) [law_is_s8, law_is_s11, law_is_s14, law_is_s15] [some (.d (.str x)), some (.d (.str x)), none, none]) = _
  have e1 : evS (CC n 0) law_is_s8 [some (.d (.str x)), some (.d (.str x)), none, none] = .nx [some (.d (.str x)), some (.d (.str x)), none, none] := by simp [evSs, evS, ev, evs, evb, evi, evt, szl, bindPar, bindT, bindTs, wipes, Tg.vars, varss, lend, giveBack, filled, plainAt, isLst, backs, law_is_s8, isiD, tyD]
  have e2 : evS (CC n 0) law_is_s11 [some (.d (.str x)), some (.d (.str x)), none, none] = .nx [some (.d (.str x)), some (.d (.str x)), none, none] := by simp [evSs, evS, ev, evs, evb, evi, evt, szl, bindPar, bindT, bindTs, wipes, Tg.vars, varss, lend, giveBack, filled, plainAt, isLst, backs, law_is_s11, isNon]
  have e3 : evS (CC n 0) law_is_s14 [some (.d (.str x)), some (.d (.str x)), none, none] = .nx [some (.d (.str x)), some (.d (.str x)), none, none] := by simp [evSs, evS, ev, evs, evb, evi, evt, szl, bindPar, bindT, bindTs, wipes, Tg.vars, varss, lend, giveBack, filled, plainAt, isLst, backs, law_is_s14, isiD, tyD]
  have e4 : evS (CC n 0) law_is_s15 [some (.d (.str x)), some (.d (.str x)), none, none] = .ret (.d (.bl true)) [some (.d (.str x)), some (.d (.str x)), none, none] := by simp [evSs, evS, ev, evs, evb, evi, evt, szl, bindPar, bindT, bindTs, wipes, Tg.vars, varss, lend, giveBack, filled, plainAt, isLst, backs, law_is_s15, isiD, tyD, q]
  rw [run1 e1 (run1 e2 (run1 e3 (runR e4))), fin_ret0]
theorem zip_self : ∀ l : List D, ∀ d ∈ List.zipWith (fun u v => D.tup [u, v]) l l, ∃ x ∈ l, d = .tup [x, x]
  | [], d, h => by simp [evSs, evS, ev, evs, evb, evi, evt, szl, bindPar, bindT, bindTs, wipes, Tg.vars, varss, lend, giveBack, filled, plainAt, isLst, backs] at h
  | x :: l, d, h => by
    rw [List.zipWith_cons_cons] at h
    rcases List.mem_cons.mp h with rfl | h
    · exact ⟨x, List.mem_cons_self, rfl⟩
    · obtain ⟨y, hy, e⟩ := zip_self l d h
      exact ⟨y, List.mem_cons_of_mem _ hy, e⟩
theorem law_isF (n : Nat) {d : D} (h : leaf d) : evCall T (n + 1) "_law_is" [.d d, .d d] = .ok (.d (.bl true)) [] := by
  rcases h with ⟨i, rfl⟩ | ⟨x, rfl, hx⟩
  · exact law_isI n i
  · exact law_isS n hx
theorem law_is : ∀ (k n : Nat) {d : D}, isOk k d → evCall T (n + k + 1) "_law_is" [.d d, .d d] = .ok (.d (.bl true)) []
  | 0, n, d, h => law_isF n h
  | k + 1, n, d, h => by
    rcases h with h | ⟨l, rfl, h⟩ | ⟨l, rfl, h⟩
    · exact law_isF _ h
    · rw [callS_eq (g := f_law_is) rfl rfl]
      show finish 0 (evSs (CC (n + k + 1) 0) [law_is_s8, law_is_s11, law_is_s14, law_is_s15] [some (.d (.tup l)), some (.d (.tup l)), none, none]) = _
      have ea : ev (CC (n + k + 1) 0) law_is_a5 [some (.d (.tup l)), some (.d (.tup l)), none, none] = .ok (.d (.bl true)) [some (.d (.tup l)), some (.d (.tup l)), none, none] := by
        have := all_lc (C := CC (n + k + 1) 0) (elt := law_is_e4) (tg := .tp [.nm 2, .nm 3]) (ik := .zip) (ias := [.rd 0, .rd 1]) (s := [some (.d (.tup l)), some (.d (.tup l)), none, none]) (s1 := [some (.d (.tup l)), some (.d (.tup l)), none, none]) (ds := [.tup l, .tup l]) (its := List.zipWith (fun u v => .tup [u, v]) l l) (p := fun _ => true) (by simp [evSs, evS, ev, evs, evb, evi, evt, szl, bindPar, bindT, bindTs, wipes, Tg.vars, varss, lend, giveBack, filled, plainAt, isLst, backs]) rfl (by simp [evSs, evS, ev, evs, evb, evi, evt, szl, bindPar, bindT, bindTs, wipes, Tg.vars, varss, lend, giveBack, filled, plainAt, isLst, backs, Tg.vars, varss]) (fun d hd => by
          obtain ⟨x, hx, rfl⟩ := zip_self l d hd
          have q := law_is k n (h x hx)
          generalize D.tup l = L1
          exact ⟨[some (.d L1), some (.d L1), some (.d x), some (.d x)], .d (.bl true), [some (.d L1), some (.d L1), some (.d x), some (.d x)], by simp [evSs, evS, ev, evs, evb, evi, evt, szl, bindPar, bindT, bindTs, wipes, Tg.vars, varss, lend, giveBack, filled, plainAt, isLst, backs, bindT, bindTs, Tg.vars, varss, wipes], by simp [evSs, evS, ev, evs, evb, evi, evt, szl, bindPar, bindT, bindTs, wipes, Tg.vars, varss, lend, giveBack, filled, plainAt, isLst, backs, law_is_e4, lend, giveBack, q], rfl, by simp [evSs, evS, ev, evs, evb, evi, evt, szl, bindPar, bindT, bindTs, wipes, Tg.vars, varss, lend, giveBack, filled, plainAt, isLst, backs, Tg.vars, varss, wipes]⟩)
        have e : (List.zipWith (fun u v => D.tup [u, v]) l l).all (fun _ => true) = true := by simp [evSs, evS, ev, evs, evb, evi, evt, szl, bindPar, bindT, bindTs, wipes, Tg.vars, varss, lend, giveBack, filled, plainAt, isLst, backs]
        rw [e] at this
        exact this
      have e1 : evS (CC (n + k + 1) 0) law_is_s8 [some (.d (.tup l)), some (.d (.tup l)), none, none] = .ret (.d (.bl true)) [some (.d (.tup l)), some (.d (.tup l)), none, none] := by
        simp [evSs, evS, ev, evs, evb, evi, evt, szl, bindPar, bindT, bindTs, wipes, Tg.vars, varss, lend, giveBack, filled, plainAt, isLst, backs, law_is_s8, law_is_b7, law_is_s3, law_is_s6, isiD, tyD, ea]
      rw [runR e1, fin_ret0]
    · rw [callS_eq (g := f_law_is) rfl rfl]
      show finish 0 (evSs (CC (n + k + 1) 0) [law_is_s8, law_is_s11, law_is_s14, law_is_s15] [some (.d (.lst l)), some (.d (.lst l)), none, none]) = _
      have ea : ev (CC (n + k + 1) 0) law_is_a5 [some (.d (.lst l)), some (.d (.lst l)), none, none] = .ok (.d (.bl true)) [some (.d (.lst l)), some (.d (.lst l)), none, none] := by
        have := all_lc (C := CC (n + k + 1) 0) (elt := law_is_e4) (tg := .tp [.nm 2, .nm 3]) (ik := .zip) (ias := [.rd 0, .rd 1]) (s := [some (.d (.lst l)), some (.d (.lst l)), none, none]) (s1 := [some (.d (.lst l)), some (.d (.lst l)), none, none]) (ds := [.lst l, .lst l]) (its := List.zipWith (fun u v => .tup [u, v]) l l) (p := fun _ => true) (by simp [evSs, evS, ev, evs, evb, evi, evt, szl, bindPar, bindT, bindTs, wipes, Tg.vars, varss, lend, giveBack, filled, plainAt, isLst, backs]) rfl (by simp [evSs, evS, ev, evs, evb, evi, evt, szl, bindPar, bindT, bindTs, wipes, Tg.vars, varss, lend, giveBack, filled, plainAt, isLst, backs, Tg.vars, varss]) (fun d hd => by
          obtain ⟨x, hx, rfl⟩ := zip_self l d hd
          have q := law_is k n (h x hx)
          generalize D.lst l = L1
          exact ⟨[some (.d L1), some (.d L1), some (.d x), some (.d x)], .d (.bl true), [some (.d L1), some (.d L1), some (.d x), some (.d x)], by simp [evSs, evS, ev, evs, evb, evi, evt, szl, bindPar, bindT, bindTs, wipes, Tg.vars, varss, lend, giveBack, filled, plainAt, isLst, backs, bindT, bindTs, Tg.vars, varss, wipes], by simp [evSs, evS, ev, evs, evb, evi, evt, szl, bindPar, bindT, bindTs, wipes, Tg.vars, varss, lend, giveBack, filled, plainAt, isLst, backs, law_is_e4, lend, giveBack, q], rfl, by simp [evSs, evS, ev, evs, evb, evi, evt, szl, bindPar, bindT, bindTs, wipes, Tg.vars, varss, lend, giveBack, filled, plainAt, isLst, backs, Tg.vars, varss, wipes]⟩)
        have e : (List.zipWith (fun u v => D.tup [u, v]) l l).all (fun _ => true) = true := by simp [evSs, evS, ev, evs, evb, evi, evt, szl, bindPar, bindT, bindTs, wipes, Tg.vars, varss, lend, giveBack, filled, plainAt, isLst, backs]
        rw [e] at this
        exact this
      have e1 : evS (CC (n + k + 1) 0) law_is_s8 [some (.d (.lst l)), some (.d (.lst l)), none, none] = .ret (.d (.bl true)) [some (.d (.lst l)), some (.d (.lst l)), none, none] := by
        simp [evSs, evS, ev, evs, evb, evi, evt, szl, bindPar, bindT, bindTs, wipes, Tg.vars, varss, lend, giveBack, filled, plainAt, isLst, backs, law_is_s8, law_is_b7, law_is_s3, law_is_s6, isiD, tyD, ea]
      rw [runR e1, fin_ret0]

def sI (t : List (List Int)) : D := .tup (t.map tI)
theorem ok_I (i : Int) : isOk 0 (.int i) := .inl ⟨i, rfl⟩
theorem ok_tI (l : List Int) : isOk 1 (tI l) := .inr (.inl ⟨_, rfl, fun x hx => by obtain ⟨y, _, rfl⟩ := List.mem_map.mp hx; exact ok_I _⟩)
theorem ok_sI (t : List (List Int)) : isOk 2 (sI t) := .inr (.inl ⟨_, rfl, fun x hx => by obtain ⟨y, _, rfl⟩ := List.mem_map.mp hx; exact ok_tI y⟩)
theorem sD_sI (s : List (List Nat)) : sD s = sI (s.map up) := by
  unfold sD sI; rw [List.map_map]; congr 1; apply List.map_congr_left; intro l _; exact lotD_up l
/-! ### sorted -/
theorem p_sortI (ms : List Int) : prim .sorted [.lst (ms.map .int)] = some (intsM (sortI ms)) := by
  show (match intsD (ms.map .int) with
    | some ns => some (intsM (sortI ns))
    | none => match toPs (ms.map .int) with
      | some ps => if okSort ps = true then some (M.lst ((sortD (ms.map .int)).map .d)) else none
      | none => none) = _
  rw [intsD_map]
theorem insI_mem {x y : Int} : ∀ {l : List Int}, y ∈ insI x l → y = x ∨ y ∈ l
  | [], h => by simp [evSs, evS, ev, evs, evb, evi, evt, szl, bindPar, bindT, bindTs, wipes, Tg.vars, varss, lend, giveBack, filled, plainAt, isLst, backs, insI] at h; exact .inl h
  | a :: l, h => by
    unfold insI at h
    split at h
    · exact List.mem_cons.mp h
    · rcases List.mem_cons.mp h with rfl | h
      · exact .inr List.mem_cons_self
      · rcases insI_mem h with h | h
        · exact .inl h
        · exact .inr (List.mem_cons_of_mem _ h)
theorem sortI_id : ∀ {l : List Int}, l.Pairwise (· < ·) → sortI l = l
  | [], _ => rfl
  | a :: l, h => by
    obtain ⟨h1, h2⟩ := List.pairwise_cons.mp h
    show insI a (sortI l) = _
    rw [sortI_id h2]
    cases l with
    | nil => rfl
    | cons b l =>
      have := h1 b List.mem_cons_self
      unfold insI
      rw [if_pos (by omega)]
theorem insS_mem {α : Type} {lt : α → α → Bool} {x y : α} : ∀ {l : List α}, y ∈ insS lt x l → y = x ∨ y ∈ l
  | [], h => by simp [evSs, evS, ev, evs, evb, evi, evt, szl, bindPar, bindT, bindTs, wipes, Tg.vars, varss, lend, giveBack, filled, plainAt, isLst, backs, insS] at h; exact .inl h
  | a :: l, h => by
    unfold insS at h
    split at h
    · rcases List.mem_cons.mp h with rfl | h
      · exact .inr List.mem_cons_self
      · rcases insS_mem h with h | h
        · exact .inl h
        · exact .inr (List.mem_cons_of_mem _ h)
    · exact List.mem_cons.mp h
theorem sortS_mem {α : Type} {lt : α → α → Bool} {y : α} : ∀ {l : List α}, y ∈ sortS lt l → y ∈ l
  | [], h => h
  | a :: l, h => by
    rcases insS_mem (show y ∈ insS lt a (sortS lt l) from h) with rfl | h
    · exact List.mem_cons_self
    · exact List.mem_cons_of_mem _ (sortS_mem h)
theorem insS_len {α : Type} (lt : α → α → Bool) (x : α) : ∀ l : List α, (insS lt x l).length = l.length + 1
  | [] => rfl
  | a :: l => by
    unfold insS
    split
    · rw [List.length_cons, insS_len lt x l]; rfl
    · rfl
theorem sortS_len {α : Type} (lt : α → α → Bool) : ∀ l : List α, (sortS lt l).length = l.length
  | [] => rfl
  | a :: l => by show (insS lt a (sortS lt l)).length = _; rw [insS_len, sortS_len lt l]; rfl
def tP (l : List Int) : PyData := .tuple (l.map .int)
theorem toP_tI (l : List Int) : toP (tI l) = some (tP l) := by
  show (toPs (l.map D.int)).map PyData.tuple = _
  rw [toPs_ints]; rfl
theorem toPs_tI : ∀ t : List (List Int), toPs (t.map tI) = some (t.map tP)
  | [] => rfl
  | l :: t => by
    show (match toP (tI l), toPs (t.map tI) with | some x, some xs => some (x :: xs) | _, _ => none) = _
    rw [toP_tI, toPs_tI t]; rfl
def sP (t : List (List Int)) : PyData := .tuple (t.map tP)
theorem toP_sI (t : List (List Int)) : toP (sI t) = some (sP t) := by
  show (toPs (t.map tI)).map PyData.tuple = _
  rw [toPs_tI]; rfl
theorem toPs_sI : ∀ L : List (List (List Int)), toPs (L.map sI) = some (L.map sP)
  | [] => rfl
  | t :: L => by
    show (match toP (sI t), toPs (L.map sI) with | some x, some xs => some (x :: xs) | _, _ => none) = _
    rw [toP_sI, toPs_sI L]; rfl
theorem tyTs_ints : ∀ l : List Int, tyTs (l.map .int) = true
  | [] => rfl
  | a :: l => by show (tyT (.int a) && tyTs (l.map .int)) = true; rw [tyTs_ints l]; rfl
theorem tyTs_tP : ∀ t : List (List Int), tyTs (t.map tP) = true
  | [] => rfl
  | l :: t => by show (tyTs (l.map .int) && tyTs (t.map tP)) = true; rw [tyTs_ints, tyTs_tP t]; rfl
theorem dep_tP : ∀ t : List (List Int), PyData.depthAll (t.map tP) ≤ 1
  | [] => by rw [List.map_nil, PyData.depthAll.eq_def]; decide
  | l :: t => by
    have h := dep_tP t
    rw [List.map_cons, PyData.depthAll.eq_def]
    show max (PyData.depth (tP l)) (PyData.depthAll (t.map tP)) ≤ 1
    have : PyData.depth (tP l) = 1 := by
      unfold tP
      rw [PyData.depth.eq_def]
      show PyData.depthAll (l.map PyData.int) + 1 = 1
      rw [(lay_ints l).2]
    omega
theorem al_ints : ∀ a b : List Int, PySem.W.alikeAll (a.map .int) (b.map .int) = true
  | [], _ => by rw [List.map_nil, PySem.W.alikeAll.eq_def]
  | _ :: _, [] => by rw [List.map_nil, List.map_cons, PySem.W.alikeAll.eq_def]
  | a :: as, b :: bs => by
    rw [List.map_cons, List.map_cons, PySem.W.alikeAll.eq_def]
    show (PySem.W.alike (.int a) (.int b) && PySem.W.alikeAll (as.map .int) (bs.map .int)) = true
    rw [al_ints as bs, PySem.W.alike.eq_def]; rfl
theorem al_tP : ∀ a b : List (List Int), PySem.W.alikeAll (a.map tP) (b.map tP) = true
  | [], _ => by rw [List.map_nil, PySem.W.alikeAll.eq_def]
  | _ :: _, [] => by rw [List.map_nil, List.map_cons, PySem.W.alikeAll.eq_def]
  | a :: as, b :: bs => by
    rw [List.map_cons, List.map_cons, PySem.W.alikeAll.eq_def]
    show (PySem.W.alike (tP a) (tP b) && PySem.W.alikeAll (as.map tP) (bs.map tP)) = true
    rw [al_tP as bs]
    unfold tP
    rw [PySem.W.alike.eq_def]
    show (PySem.W.alikeAll (a.map .int) (b.map .int) && true) = true
    rw [al_ints]; rfl
theorem okSort_sP {L : List (List (List Int))} (h : ∀ t ∈ L, t ≠ []) : okSort (L.map sP) = true := by
  have h1 : ((L.map sP).all fun p => fstB false p && (tyT p && decide (p.depth ≤ 60))) = true := by
    rw [List.all_eq_true]
    intro p hp
    obtain ⟨t, ht, rfl⟩ := List.mem_map.mp hp
    have d := dep_tP t
    have e1 : tyT (sP t) = true := tyTs_tP t
    have e2 : PyData.depth (sP t) ≤ 60 := by
      unfold sP
      rw [PyData.depth.eq_def]
      show PyData.depthAll (t.map tP) + 1 ≤ 60
      omega
    have e3 : fstB false (sP t) = true := by
      cases t with
      | nil => exact absurd rfl (h _ ht)
      | cons l t => rfl
    rw [e1, e3]
    simp [evSs, evS, ev, evs, evb, evi, evt, szl, bindPar, bindT, bindTs, wipes, Tg.vars, varss, lend, giveBack, filled, plainAt, isLst, backs, e2]
  have h2 : ((L.map sP).all fun p => (L.map sP).all fun q => PySem.W.alike p q) = true := by
    rw [List.all_eq_true]
    intro p hp
    rw [List.all_eq_true]
    intro q hq
    obtain ⟨t, _, rfl⟩ := List.mem_map.mp hp
    obtain ⟨u, _, rfl⟩ := List.mem_map.mp hq
    unfold sP
    rw [PySem.W.alike.eq_def]
    exact al_tP t u
  unfold okSort
  rw [h1, h2]
  simp [evSs, evS, ev, evs, evb, evi, evt, szl, bindPar, bindT, bindTs, wipes, Tg.vars, varss, lend, giveBack, filled, plainAt, isLst, backs]
theorem p_sortS {L : List (List (List Int))} (h : ∀ t ∈ L, t ≠ []) : ∃ R : List D, prim .sorted [.lst (L.map sI)] = some (own R) ∧ (∀ d ∈ R, ∃ t, d = sI t) ∧ R.length = L.length := by
  cases L with
  | nil => exact ⟨[], rfl, fun _ z => (nomatch z), rfl⟩
  | cons t L =>
    refine ⟨sortD ((t :: L).map sI), ?_, fun d hd => ?_, by unfold sortD; rw [sortS_len, List.length_map]⟩
    · show (match intsD ((t :: L).map sI) with
        | some ns => some (intsM (sortI ns))
        | none => match toPs ((t :: L).map sI) with
          | some ps => if okSort ps = true then some (M.lst ((sortD ((t :: L).map sI)).map .d)) else none
          | none => none) = _
      have e : intsD ((t :: L).map sI) = none := rfl
      rw [e, toPs_sI]
      exact if_pos (okSort_sP h)
    · obtain ⟨t, _, rfl⟩ := List.mem_map.mp (sortS_mem hd)
      exact ⟨t, rfl⟩
theorem ok_list {R : List D} (h : ∀ d ∈ R, ∃ t, d = sI t) : isOk 3 (.lst R) := .inr (.inr ⟨_, rfl, fun x hx => by obtain ⟨t, rfl⟩ := h x hx; exact ok_sI t⟩)
end K03
end PV
namespace PV
namespace K03
open PySem
def upd {α : Type} (L : List α) (i : Nat) (d : α) : List α := L.take i ++ [d] ++ L.drop (i + 1)
theorem upd_map {α β : Type} (f : α → β) (L : List α) (i : Nat) (d : α) : (upd L i d).map f = upd (L.map f) i (f d) := by
  unfold upd; simp [evSs, evS, ev, evs, evb, evi, evt, szl, bindPar, bindT, bindTs, wipes, Tg.vars, varss, lend, giveBack, filled, plainAt, isLst, backs]
theorem upd_upd {α : Type} {L : List α} {i : Nat} (h : i < L.length) (d e : α) : upd (upd L i d) i e = upd L i e := by
  unfold upd
  have h1 : (L.take i).length = i := by rw [List.length_take]; omega
  have h2 : (List.take i L ++ [d] ++ List.drop (i + 1) L).take i = L.take i := by
    rw [List.append_assoc, List.take_append_of_le_length (by omega)]
    exact List.take_of_length_le (by omega)
  have h3 : (List.take i L ++ [d] ++ List.drop (i + 1) L).drop (i + 1) = L.drop (i + 1) := by
    rw [List.drop_append_of_le_length (by simp [evSs, evS, ev, evs, evb, evi, evt, szl, bindPar, bindT, bindTs, wipes, Tg.vars, varss, lend, giveBack, filled, plainAt, isLst, backs]; omega)]
    rw [List.drop_of_length_le (by simp [evSs, evS, ev, evs, evb, evi, evt, szl, bindPar, bindT, bindTs, wipes, Tg.vars, varss, lend, giveBack, filled, plainAt, isLst, backs]; omega)]
    rfl
  rw [h2, h3]
theorem upd_at {α : Type} {L : List α} {i : Nat} (h : i < L.length) (d : α) : (upd L i d)[i]? = some d := by
  unfold upd
  have h1 : (L.take i).length = i := by rw [List.length_take]; omega
  rw [List.append_assoc, List.getElem?_append_right (by omega), h1]
  simp [evSs, evS, ev, evs, evb, evi, evt, szl, bindPar, bindT, bindTs, wipes, Tg.vars, varss, lend, giveBack, filled, plainAt, isLst, backs]
theorem upd_len {α : Type} {L : List α} {i : Nat} (h : i < L.length) (d : α) : (upd L i d).length = L.length := by
  unfold upd; simp [evSs, evS, ev, evs, evb, evi, evt, szl, bindPar, bindT, bindTs, wipes, Tg.vars, varss, lend, giveBack, filled, plainAt, isLst, backs]; omega
theorem p_addT {a b : List D} (h : a.length + b.length ≤ szl) : prim .add [.tup a, .tup b] = some (.d (.tup (a ++ b))) := if_pos h
theorem p_addL {a b : List D} (h : a.length + b.length ≤ szl) : prim .add [.lst a, .lst b] = some (.lst ((a ++ b).map .d)) := if_pos h
theorem frz_ints (l : List Int) : frz (intsM l) = .lst (l.map .int) := by unfold intsM; rw [frz_lst, frzs_map]
theorem with_marks (n : Nat) {L : List D} {i : Nat} (ms : List Int) (hi : i < L.length) (hL : L.length + 2 ≤ szl) : evCall T (n + 1) "with_marks" [.d (.tup L), .d (.int (i : Int)), .d (.lst (ms.map .int))] = .ok (.d (.tup (upd L i (tI (sortI ms))))) [] := by
  rw [callS_eq (g := f_with_marks) rfl rfl]
  have h1 := p_to L (i := (i : Int)) (by omega)
  have h2 := p_from L (i := (i : Int) + 1) (by omega)
  have h3 := p_sortI ms
  have e0 : ((i : Int) + 1).toNat = i + 1 := by omega
  rw [Int.toNat_natCast] at h1
  rw [e0] at h2
  have a1 := p_addT (a := L.take i) (b := [tI (sortI ms)]) (by have : L.length + 2 ≤ 16777216 := hL; simp [evSs, evS, ev, evs, evb, evi, evt, szl, bindPar, bindT, bindTs, wipes, Tg.vars, varss, lend, giveBack, filled, plainAt, isLst, backs]; omega)
  have a2 := p_addT (a := L.take i ++ [tI (sortI ms)]) (b := L.drop (i + 1)) (by have : L.length + 2 ≤ 16777216 := hL; simp [evSs, evS, ev, evs, evb, evi, evt, szl, bindPar, bindT, bindTs, wipes, Tg.vars, varss, lend, giveBack, filled, plainAt, isLst, backs]; omega)
  have f1 := frz_ints (sortI ms)
  have e1 : evS (CC n 0) with_marks_s1 [some (.d (.tup L)), some (.d (.int (i : Int))), some (.d (.lst (ms.map .int)))] = .ret (.d (.tup (upd L i (tI (sortI ms))))) [some (.d (.tup L)), some (.d (.int (i : Int))), some (.d (.lst (ms.map .int)))] := by
    generalize intsM (sortI ms) = I1 at h3 f1
    generalize ms.map D.int = L2 at h3 ⊢
    unfold upd
    unfold tI at a1 a2 ⊢
    generalize (sortI ms).map D.int = L3 at f1 a1 a2 ⊢
    generalize L.take i = L4 at h1 a1 a2 ⊢
    generalize L.drop (i + 1) = L5 at h2 a2 ⊢
    have a1' : prim .add [.tup L4, .tup [.tup L3]] = some (.d (.tup (L4 ++ [.tup L3]))) := a1
    simp [evSs, evS, ev, evs, evb, evi, evt, szl, bindPar, bindT, bindTs, wipes, Tg.vars, varss, lend, giveBack, filled, plainAt, isLst, backs, with_marks_s1, h1, h2, h3, f1, p_tupd, a1', a2, -List.append_assoc]
  show finish 0 (evSs (CC n 0) [with_marks_s1] [some (.d (.tup L)), some (.d (.int (i : Int))), some (.d (.lst (ms.map .int)))]) = _
  rw [runR e1, fin_ret0]
abbrev nD (i : Nat) (c : Int) : D := .tup [.int (i : Int), .int c]
def rid (c : Int) (l : List Int) : List Int := l.filter fun x => !decide (x = c)
def pne (c : Int) (d : D) : Bool := match d with | .int x => !decide (x = c) | _ => false
theorem rid_map (c : Int) (l : List Int) : ((l.map D.int).filter (pne c)).map id = (rid c l).map D.int := by
  rw [List.map_id, List.filter_map]; rfl
theorem atL {L : List D} {i : Nat} {d : D} (h : L[i]? = some d) : L2.atI L (i : Int) = some d := by
  have hi : i < L.length := by
    rcases Nat.lt_or_ge i L.length with h1 | h1
    · exact h1
    · rw [List.getElem?_eq_none h1] at h; cases h
  rw [atI_nat _ _ hi, h]
theorem lt_of_at {α : Type} {L : List α} {i : Nat} {d : α} (h : L[i]? = some d) : i < L.length := by
  rcases Nat.lt_or_ge i L.length with h1 | h1
  · exact h1
  · rw [List.getElem?_eq_none h1] at h; cases h
theorem line_of (n : Nat) {L : List D} {i : Nat} {c : Int} {li : List Int} (h : L[i]? = some (tI li)) (hL : L.length + 2 ≤ szl) : evCall T (n + 2) "line_of" [.d (.tup L), .d (nD i c)] = .ok (.d (.tup [.int (i : Int), .tup (upd L i (tI (sortI (rid c li))))])) [] := by
  rw [callS_eq (g := f_line_of) rfl rfl]
  have ha := atL h
  have hi := lt_of_at h
  have w := with_marks n (rid c li) hi hL
  have e := lc_filt (C := CC (n + 1) 0) (elt := line_of_e1) (c := .op .ne [.rd 3, .op .ix [.rd 1, .k (.int 1)]]) (tg := .nm 3) (ik := .seq) (ias := [.op .ix [.rd 0, .op .ix [.rd 1, .k (.int 0)]]]) (s := [some (.d (.tup L)), some (.d (nD i c)), none, none]) (s1 := [some (.d (.tup L)), some (.d (nD i c)), none, none])
    (ds := [tI li]) (its := li.map .int) (g := id) (p := pne c) (by simp [evSs, evS, ev, evs, evb, evi, evt, szl, bindPar, bindT, bindTs, wipes, Tg.vars, varss, lend, giveBack, filled, plainAt, isLst, backs, ha]) rfl (by simp [evSs, evS, ev, evs, evb, evi, evt, szl, bindPar, bindT, bindTs, wipes, Tg.vars, varss, lend, giveBack, filled, plainAt, isLst, backs]) (fun d hd => by
      obtain ⟨x, _, rfl⟩ := List.mem_map.mp hd
      refine ⟨[some (.d (.tup L)), some (.d (nD i c)), none, some (.d (.int x))], [some (.d (.tup L)), some (.d (nD i c)), none, some (.d (.int x))], by simp [evSs, evS, ev, evs, evb, evi, evt, szl, bindPar, bindT, bindTs, wipes, Tg.vars, varss, lend, giveBack, filled, plainAt, isLst, backs, bindT], by simp [evSs, evS, ev, evs, evb, evi, evt, szl, bindPar, bindT, bindTs, wipes, Tg.vars, varss, lend, giveBack, filled, plainAt, isLst, backs, pne], fun _ => by simp [evSs, evS, ev, evs, evb, evi, evt, szl, bindPar, bindT, bindTs, wipes, Tg.vars, varss, lend, giveBack, filled, plainAt, isLst, backs], fun _ => ⟨.d (.int x), [some (.d (.tup L)), some (.d (nD i c)), none, some (.d (.int x))], by simp [evSs, evS, ev, evs, evb, evi, evt, szl, bindPar, bindT, bindTs, wipes, Tg.vars, varss, lend, giveBack, filled, plainAt, isLst, backs, line_of_e1], rfl, by simp [evSs, evS, ev, evs, evb, evi, evt, szl, bindPar, bindT, bindTs, wipes, Tg.vars, varss, lend, giveBack, filled, plainAt, isLst, backs]⟩⟩)
  rw [rid_map] at e
  have s2 : evS (CC (n + 1) 0) line_of_s2 [some (.d (.tup L)), some (.d (nD i c)), none, none] = .nx [some (.d (.tup L)), some (.d (nD i c)), some (.lst (((rid c li).map D.int).map .d)), none] := by
    unfold line_of_s2
    rw [evS, e]
    simp [evSs, evS, ev, evs, evb, evi, evt, szl, bindPar, bindT, bindTs, wipes, Tg.vars, varss, lend, giveBack, filled, plainAt, isLst, backs, bindT]
  have s3 : evS (CC (n + 1) 0) line_of_s3 [some (.d (.tup L)), some (.d (nD i c)), some (.lst (((rid c li).map D.int).map .d)), none] = .ret (.d (.tup [.int (i : Int), .tup (upd L i (tI (sortI (rid c li))))])) [some (.d (.tup L)), some (.d (nD i c)), some (.d (.lst ((rid c li).map D.int))), none] := by
    generalize (rid c li).map D.int = L1 at w ⊢
    generalize upd L i (tI (sortI (rid c li))) = L2 at w ⊢
    simp [evSs, evS, ev, evs, evb, evi, evt, szl, bindPar, bindT, bindTs, wipes, Tg.vars, varss, lend, giveBack, filled, plainAt, isLst, backs, line_of_s3, lend, giveBack, w, p_tupd]
  show finish 0 (evSs (CC (n + 1) 0) [line_of_s2, line_of_s3] [some (.d (.tup L)), some (.d (nD i c)), none, none]) = _
  rw [run1 s2 (runR s3), fin_ret0]
/-- the free marks -/
def ups (k : Nat) : List Int := (List.range k).map fun j : Nat => (j : Int)
def fre (k : Nat) (oi : List Int) : List Int := (ups k).filter fun x => !decide (x ∈ oi)
def pno (oi : List Int) (d : D) : Bool := match d with | .int x => !decide (x ∈ oi) | _ => false
theorem fre_map (k : Nat) (oi : List Int) : (((ups k).map D.int).filter (pno oi)).map id = (fre k oi).map D.int := by
  rw [List.map_id, List.filter_map]; rfl
theorem ups_it {k : Nat} (h : k ≤ 16777216) : items .range1 [.int (k : Int)] = some ((ups k).map .int) := by
  rw [it_r1 (by omega) (by omega), rgN]
  unfold ups
  rw [List.map_map]; rfl
theorem points_of (n : Nat) {gs : List G} {L : List D} {i : Nat} {g : G} {oi : List Int} {R : List D} (hg : gs[i]? = some g) (h : L[i]? = some (tI oi)) (hL : L.length + 2 ≤ szl) (ho : oi.length + 1 ≤ szl) (hk : g.2 ≤ 16777216)
    (hR : prim .sorted [.lst ((fre g.2 oi).map fun mk => D.tup (upd L i (tI (sortI (oi ++ [mk])))))] = some (own R)) :
    evCall T (n + 2) "points_of" [.d (.tup (gs.map gp)), .d (.tup [.int (i : Int), .tup L])] = .ok (own R) [] := by
  rw [callS_eq (g := f_points_of) rfl rfl]
  have ha := atL h
  have hi := lt_of_at h
  have hga : L2.atI (gs.map gp) (i : Int) = some (gp g) := atL (by rw [List.getElem?_map, hg]; rfl)
  generalize gs.map gp = GS at hga ⊢
  show finish 0 (evSs (CC (n + 1) 0) [points_of_s1, points_of_s3, points_of_s5] [some (.d (.tup GS)), some (.d (.tup [.int (i : Int), .tup L])), none, none, none, none]) = _
  generalize hl : D.tup [.int (i : Int), .tup L] = LN
  have s1 : evS (CC (n + 1) 0) points_of_s1 [some (.d (.tup GS)), some (.d LN), none, none, none, none] = .nx [some (.d (.tup GS)), some (.d LN), none, some (.d (.int (i : Int))), some (.d (.tup L)), none] := by
    subst hl
    simp [evSs, evS, ev, evs, evb, evi, evt, szl, bindPar, bindT, bindTs, wipes, Tg.vars, varss, lend, giveBack, filled, plainAt, isLst, backs, points_of_s1, bindT, bindTs]
  have e := lc_filt (C := CC (n + 1) 0) (elt := points_of_e2) (c := .op .notin [.rd 5, .op .ix [.rd 4, .rd 3]]) (tg := .nm 5) (ik := .range1) (ias := [.op .ix [.op .ix [.rd 0, .rd 3], .k (.int 1)]]) (s := [some (.d (.tup GS)), some (.d LN), none, some (.d (.int (i : Int))), some (.d (.tup L)), none]) (s1 := [some (.d (.tup GS)), some (.d LN), none, some (.d (.int (i : Int))), some (.d (.tup L)), none])
    (ds := [.int (g.2 : Int)]) (its := (ups g.2).map .int) (g := id) (p := pno oi) (by simp [evSs, evS, ev, evs, evb, evi, evt, szl, bindPar, bindT, bindTs, wipes, Tg.vars, varss, lend, giveBack, filled, plainAt, isLst, backs, hga, gp]) (ups_it hk) (by simp [evSs, evS, ev, evs, evb, evi, evt, szl, bindPar, bindT, bindTs, wipes, Tg.vars, varss, lend, giveBack, filled, plainAt, isLst, backs]) (fun d hd => by
      obtain ⟨x, _, rfl⟩ := List.mem_map.mp hd
      have ha2 : L2.atI L (i : Int) = some (.tup (oi.map .int)) := ha
      refine ⟨[some (.d (.tup GS)), some (.d LN), none, some (.d (.int (i : Int))), some (.d (.tup L)), some (.d (.int x))], [some (.d (.tup GS)), some (.d LN), none, some (.d (.int (i : Int))), some (.d (.tup L)), some (.d (.int x))], by simp [evSs, evS, ev, evs, evb, evi, evt, szl, bindPar, bindT, bindTs, wipes, Tg.vars, varss, lend, giveBack, filled, plainAt, isLst, backs, bindT], by simp [evSs, evS, ev, evs, evb, evi, evt, szl, bindPar, bindT, bindTs, wipes, Tg.vars, varss, lend, giveBack, filled, plainAt, isLst, backs, pno, ha2], fun _ => by simp [evSs, evS, ev, evs, evb, evi, evt, szl, bindPar, bindT, bindTs, wipes, Tg.vars, varss, lend, giveBack, filled, plainAt, isLst, backs], fun _ => ⟨.d (.int x), [some (.d (.tup GS)), some (.d LN), none, some (.d (.int (i : Int))), some (.d (.tup L)), some (.d (.int x))], by simp [evSs, evS, ev, evs, evb, evi, evt, szl, bindPar, bindT, bindTs, wipes, Tg.vars, varss, lend, giveBack, filled, plainAt, isLst, backs, points_of_e2], rfl, by simp [evSs, evS, ev, evs, evb, evi, evt, szl, bindPar, bindT, bindTs, wipes, Tg.vars, varss, lend, giveBack, filled, plainAt, isLst, backs]⟩⟩)
  rw [fre_map] at e
  have s3 : evS (CC (n + 1) 0) points_of_s3 [some (.d (.tup GS)), some (.d LN), none, some (.d (.int (i : Int))), some (.d (.tup L)), none] = .nx [some (.d (.tup GS)), some (.d LN), some (.lst (((fre g.2 oi).map D.int).map .d)), some (.d (.int (i : Int))), some (.d (.tup L)), none] := by
    unfold points_of_s3
    rw [evS, e]
    simp [evSs, evS, ev, evs, evb, evi, evt, szl, bindPar, bindT, bindTs, wipes, Tg.vars, varss, lend, giveBack, filled, plainAt, isLst, backs, bindT]
  have e2 := lc_map (C := CC (n + 1) 0) (elt := points_of_e4) (tg := .nm 5) (ik := .seq) (ias := [.rd 2]) (s := [some (.d (.tup GS)), some (.d LN), some (.lst (((fre g.2 oi).map D.int).map .d)), some (.d (.int (i : Int))), some (.d (.tup L)), none]) (s1 := [some (.d (.tup GS)), some (.d LN), some (.d (.lst ((fre g.2 oi).map D.int))), some (.d (.int (i : Int))), some (.d (.tup L)), none])
    (ds := [.lst ((fre g.2 oi).map D.int)]) (its := (fre g.2 oi).map D.int) (g := fun d => match d with | .int mk => D.tup (upd L i (tI (sortI (oi ++ [mk])))) | d => d) (by
      generalize (fre g.2 oi).map D.int = L1
      simp [evSs, evS, ev, evs, evb, evi, evt, szl, bindPar, bindT, bindTs, wipes, Tg.vars, varss, lend, giveBack, filled, plainAt, isLst, backs]) rfl (by simp [evSs, evS, ev, evs, evb, evi, evt, szl, bindPar, bindT, bindTs, wipes, Tg.vars, varss, lend, giveBack, filled, plainAt, isLst, backs]) (fun d hd => by
      obtain ⟨x, _, rfl⟩ := List.mem_map.mp hd
      have w := with_marks n (oi ++ [x]) hi hL
      have ha2 : L2.atI L (i : Int) = some (.tup (oi.map .int)) := ha
      have ad := p_addL (a := oi.map .int) (b := [D.int x]) (by simpa using ho)
      have mp : (oi ++ [x]).map D.int = oi.map D.int ++ [D.int x] := by simp [evSs, evS, ev, evs, evb, evi, evt, szl, bindPar, bindT, bindTs, wipes, Tg.vars, varss, lend, giveBack, filled, plainAt, isLst, backs]
      rw [mp] at w
      refine ⟨[some (.d (.tup GS)), some (.d LN), some (.d (.lst ((fre g.2 oi).map D.int))), some (.d (.int (i : Int))), some (.d (.tup L)), some (.d (.int x))], .d (.tup (upd L i (tI (sortI (oi ++ [x]))))), [some (.d (.tup GS)), some (.d LN), some (.d (.lst ((fre g.2 oi).map D.int))), some (.d (.int (i : Int))), some (.d (.tup L)), some (.d (.int x))], by simp [evSs, evS, ev, evs, evb, evi, evt, szl, bindPar, bindT, bindTs, wipes, Tg.vars, varss, lend, giveBack, filled, plainAt, isLst, backs, bindT], ?_, rfl, by simp [evSs, evS, ev, evs, evb, evi, evt, szl, bindPar, bindT, bindTs, wipes, Tg.vars, varss, lend, giveBack, filled, plainAt, isLst, backs]⟩
      generalize (fre g.2 oi).map D.int = L1
      generalize oi.map D.int = L2 at ha2 ad w
      generalize D.tup (upd L i (tI (sortI (oi ++ [x])))) = D3 at w ⊢
      have ad2 : frz (M.lst ((L2 ++ [D.int x]).map M.d)) = D.lst (L2 ++ [D.int x]) := by rw [frz_lst, frzs_map]
      generalize M.lst ((L2 ++ [D.int x]).map M.d) = M4 at ad ad2
      simp [evSs, evS, ev, evs, evb, evi, evt, szl, bindPar, bindT, bindTs, wipes, Tg.vars, varss, lend, giveBack, filled, plainAt, isLst, backs, points_of_e4, lend, giveBack, ha2, ad, ad2, w])
  have em : ((fre g.2 oi).map D.int).map (fun d => match d with | .int mk => D.tup (upd L i (tI (sortI (oi ++ [mk])))) | d => d) = (fre g.2 oi).map fun mk => D.tup (upd L i (tI (sortI (oi ++ [mk])))) := by rw [List.map_map]; rfl
  rw [em] at e2
  have s5 : evS (CC (n + 1) 0) points_of_s5 [some (.d (.tup GS)), some (.d LN), some (.lst (((fre g.2 oi).map D.int).map .d)), some (.d (.int (i : Int))), some (.d (.tup L)), none] = .ret (own R) [some (.d (.tup GS)), some (.d LN), some (.d (.lst ((fre g.2 oi).map D.int))), some (.d (.int (i : Int))), some (.d (.tup L)), none] := by
    unfold points_of_s5
    generalize (fre g.2 oi).map D.int = L1 at e2 ⊢
    generalize ((fre g.2 oi).map fun mk => D.tup (upd L i (tI (sortI (oi ++ [mk]))))) = L2 at e2 hR
    generalize own R = R1 at hR ⊢
    rw [evS, ev, evs, e2]
    simp [evSs, evS, ev, evs, evb, evi, evt, szl, bindPar, bindT, bindTs, wipes, Tg.vars, varss, lend, giveBack, filled, plainAt, isLst, backs, hR]
  rw [run1 s1 (run1 s3 (runR s5)), fin_ret0]
end K03
end PV
namespace PV
namespace K03
open PySem
@[simp] theorem frz_tup (l : List M) : frz (.tup l) = .tup (frzs l) := rfl
theorem raise_eq {C : Cc} {c : Str} {as : List E} {ds : List D} {s s1 : Sl} (hl : 3 ≤ C.lvl) (h : evs C as s = .ok ds s1) (ho : okEx c ds = true) : evS C (.raise c as) s = .ex c ds s1 := by
  rw [evS, if_pos hl, h]
  show (if okEx c ds = true then O.ex c ds s1 else .bad) = _
  exact if_pos ho
theorem runX {C : Cc} {st : S} {r : List S} {s s1 : Sl} {c : Str} {as : List D} (h : evS C st s = .ex c as s1) : evSs C (st :: r) s = .ex c as s1 := by rw [evSs, h]; rfl
/-! ### the marks, by the law -/
def mlk (k : Nat) (c : Int) (li : List Int) : List Int := (ups k).filter fun x => decide (x = c) || !decide (x ∈ li)
def pml (c : Int) (li : List Int) (d : D) : Bool := match d with | .int x => decide (x = c) || !decide (x ∈ li) | _ => false
theorem mlk_map (k : Nat) (c : Int) (li : List Int) : (((ups k).map D.int).filter (pml c li)).map id = (mlk k c li).map D.int := by
  rw [List.map_id, List.filter_map]; rfl
theorem mlk_fre (k : Nat) (c : Int) (li : List Int) : mlk k c li = fre k (rid c li) := by
  unfold mlk fre
  apply List.filter_congr
  intro x _
  unfold rid
  by_cases h1 : x = c
  · simp [evSs, evS, ev, evs, evb, evi, evt, szl, bindPar, bindT, bindTs, wipes, Tg.vars, varss, lend, giveBack, filled, plainAt, isLst, backs, h1]
  · simp [evSs, evS, ev, evs, evb, evi, evt, szl, bindPar, bindT, bindTs, wipes, Tg.vars, varss, lend, giveBack, filled, plainAt, isLst, backs, h1]
theorem law_marks (n : Nat) {gs : List G} {L : List D} {i : Nat} {g : G} {c : Int} {li : List Int} (hg : gs[i]? = some g) (h : L[i]? = some (tI li)) (hk : g.2 ≤ 16777216) :
    evCall T (n + 1) "_law_marks" [.d (.tup (gs.map gp)), .d (.tup L), .d (nD i c)] = .ok (own ((mlk g.2 c li).map D.int)) [] := by
  rw [callS_eq (g := f_law_marks) rfl rfl]
  have ha := atL h
  have ha2 : L2.atI L (i : Int) = some (.tup (li.map .int)) := ha
  have hga : L2.atI (gs.map gp) (i : Int) = some (gp g) := atL (by rw [List.getElem?_map, hg]; rfl)
  generalize gs.map gp = GS at hga ⊢
  show finish 0 (evSs (CC n 0) [law_marks_s1, law_marks_s3] [some (.d (.tup GS)), some (.d (.tup L)), some (.d (nD i c)), none, none, none]) = _
  have s1 : evS (CC n 0) law_marks_s1 [some (.d (.tup GS)), some (.d (.tup L)), some (.d (nD i c)), none, none, none] = .nx [some (.d (.tup GS)), some (.d (.tup L)), some (.d (nD i c)), some (.d (.int (g.2 : Int))), some (.d (tI li)), none] := by
    simp [evSs, evS, ev, evs, evb, evi, evt, szl, bindPar, bindT, bindTs, wipes, Tg.vars, varss, lend, giveBack, filled, plainAt, isLst, backs, law_marks_s1, bindT, bindTs, hga, gp, ha, p_tupd]
  have e := lc_filt (C := CC n 0) (elt := law_marks_e2) (c := .bop false [.op .eq [.rd 5, .op .ix [.rd 2, .k (.int 1)]], .op .notin [.rd 5, .rd 4]]) (tg := .nm 5) (ik := .range1) (ias := [.rd 3]) (s := [some (.d (.tup GS)), some (.d (.tup L)), some (.d (nD i c)), some (.d (.int (g.2 : Int))), some (.d (tI li)), none]) (s1 := [some (.d (.tup GS)), some (.d (.tup L)), some (.d (nD i c)), some (.d (.int (g.2 : Int))), some (.d (tI li)), none])
    (ds := [.int (g.2 : Int)]) (its := (ups g.2).map .int) (g := id) (p := pml c li) (by simp [evSs, evS, ev, evs, evb, evi, evt, szl, bindPar, bindT, bindTs, wipes, Tg.vars, varss, lend, giveBack, filled, plainAt, isLst, backs]) (ups_it hk) (by simp [evSs, evS, ev, evs, evb, evi, evt, szl, bindPar, bindT, bindTs, wipes, Tg.vars, varss, lend, giveBack, filled, plainAt, isLst, backs]) (fun d hd => by
      obtain ⟨x, _, rfl⟩ := List.mem_map.mp hd
      refine ⟨[some (.d (.tup GS)), some (.d (.tup L)), some (.d (nD i c)), some (.d (.int (g.2 : Int))), some (.d (tI li)), some (.d (.int x))], [some (.d (.tup GS)), some (.d (.tup L)), some (.d (nD i c)), some (.d (.int (g.2 : Int))), some (.d (tI li)), some (.d (.int x))], by simp [evSs, evS, ev, evs, evb, evi, evt, szl, bindPar, bindT, bindTs, wipes, Tg.vars, varss, lend, giveBack, filled, plainAt, isLst, backs, bindT], ?_, fun _ => by simp [evSs, evS, ev, evs, evb, evi, evt, szl, bindPar, bindT, bindTs, wipes, Tg.vars, varss, lend, giveBack, filled, plainAt, isLst, backs], fun _ => ⟨.d (.int x), [some (.d (.tup GS)), some (.d (.tup L)), some (.d (nD i c)), some (.d (.int (g.2 : Int))), some (.d (tI li)), some (.d (.int x))], by simp [evSs, evS, ev, evs, evb, evi, evt, szl, bindPar, bindT, bindTs, wipes, Tg.vars, varss, lend, giveBack, filled, plainAt, isLst, backs, law_marks_e2], rfl, by simp [evSs, evS, ev, evs, evb, evi, evt, szl, bindPar, bindT, bindTs, wipes, Tg.vars, varss, lend, giveBack, filled, plainAt, isLst, backs]⟩⟩
      by_cases hx : x = c
      · simp [evSs, evS, ev, evs, evb, evi, evt, szl, bindPar, bindT, bindTs, wipes, Tg.vars, varss, lend, giveBack, filled, plainAt, isLst, backs, pml, hx]
      · simp [evSs, evS, ev, evs, evb, evi, evt, szl, bindPar, bindT, bindTs, wipes, Tg.vars, varss, lend, giveBack, filled, plainAt, isLst, backs, pml, hx, tI])
  rw [mlk_map] at e
  have s3 : evS (CC n 0) law_marks_s3 [some (.d (.tup GS)), some (.d (.tup L)), some (.d (nD i c)), some (.d (.int (g.2 : Int))), some (.d (tI li)), none] = .ret (own ((mlk g.2 c li).map D.int)) [some (.d (.tup GS)), some (.d (.tup L)), some (.d (nD i c)), some (.d (.int (g.2 : Int))), some (.d (tI li)), none] := by
    unfold law_marks_s3
    rw [evS, e]
    simp [evSs, evS, ev, evs, evb, evi, evt, szl, bindPar, bindT, bindTs, wipes, Tg.vars, varss, lend, giveBack, filled, plainAt, isLst, backs, own]
  rw [run1 s1 (runR s3), fin_ret0]
theorem law_behind (n : Nat) {L : List D} {i : Nat} {c mk : Int} {li : List Int} (h : L[i]? = some (tI li)) (hL : L.length + 2 ≤ szl) (ho : li.length + 1 ≤ szl) :
    evCall T (n + 1) "_law_behind" [.d (.tup L), .d (nD i c), .d (.int mk)] = .ok (.d (.tup (upd L i (tI (sortI (rid c li ++ [mk])))))) [] := by
  rw [callS_eq (g := f_law_behind) rfl rfl]
  have ha := atL h
  have hi := lt_of_at h
  show finish 0 (evSs (CC n 0) [law_behind_s1, law_behind_s3, law_behind_s4] [some (.d (.tup L)), some (.d (nD i c)), some (.d (.int mk)), none, none, none]) = _
  have s1 : evS (CC n 0) law_behind_s1 [some (.d (.tup L)), some (.d (nD i c)), some (.d (.int mk)), none, none, none] = .nx [some (.d (.tup L)), some (.d (nD i c)), some (.d (.int mk)), some (.d (.int (i : Int))), none, none] := by
    simp [evSs, evS, ev, evs, evb, evi, evt, szl, bindPar, bindT, bindTs, wipes, Tg.vars, varss, lend, giveBack, filled, plainAt, isLst, backs, law_behind_s1, bindT]
  have e := lc_filt (C := CC n 0) (elt := law_behind_e2) (c := .op .ne [.rd 5, .op .ix [.rd 1, .k (.int 1)]]) (tg := .nm 5) (ik := .seq) (ias := [.op .ix [.rd 0, .rd 3]]) (s := [some (.d (.tup L)), some (.d (nD i c)), some (.d (.int mk)), some (.d (.int (i : Int))), none, none]) (s1 := [some (.d (.tup L)), some (.d (nD i c)), some (.d (.int mk)), some (.d (.int (i : Int))), none, none])
    (ds := [tI li]) (its := li.map .int) (g := id) (p := pne c) (by simp [evSs, evS, ev, evs, evb, evi, evt, szl, bindPar, bindT, bindTs, wipes, Tg.vars, varss, lend, giveBack, filled, plainAt, isLst, backs, ha]) rfl (by simp [evSs, evS, ev, evs, evb, evi, evt, szl, bindPar, bindT, bindTs, wipes, Tg.vars, varss, lend, giveBack, filled, plainAt, isLst, backs]) (fun d hd => by
      obtain ⟨x, _, rfl⟩ := List.mem_map.mp hd
      refine ⟨[some (.d (.tup L)), some (.d (nD i c)), some (.d (.int mk)), some (.d (.int (i : Int))), none, some (.d (.int x))], [some (.d (.tup L)), some (.d (nD i c)), some (.d (.int mk)), some (.d (.int (i : Int))), none, some (.d (.int x))], by simp [evSs, evS, ev, evs, evb, evi, evt, szl, bindPar, bindT, bindTs, wipes, Tg.vars, varss, lend, giveBack, filled, plainAt, isLst, backs, bindT], by simp [evSs, evS, ev, evs, evb, evi, evt, szl, bindPar, bindT, bindTs, wipes, Tg.vars, varss, lend, giveBack, filled, plainAt, isLst, backs, pne], fun _ => by simp [evSs, evS, ev, evs, evb, evi, evt, szl, bindPar, bindT, bindTs, wipes, Tg.vars, varss, lend, giveBack, filled, plainAt, isLst, backs], fun _ => ⟨.d (.int x), [some (.d (.tup L)), some (.d (nD i c)), some (.d (.int mk)), some (.d (.int (i : Int))), none, some (.d (.int x))], by simp [evSs, evS, ev, evs, evb, evi, evt, szl, bindPar, bindT, bindTs, wipes, Tg.vars, varss, lend, giveBack, filled, plainAt, isLst, backs, law_behind_e2], rfl, by simp [evSs, evS, ev, evs, evb, evi, evt, szl, bindPar, bindT, bindTs, wipes, Tg.vars, varss, lend, giveBack, filled, plainAt, isLst, backs]⟩⟩)
  rw [rid_map] at e
  have s3 : evS (CC n 0) law_behind_s3 [some (.d (.tup L)), some (.d (nD i c)), some (.d (.int mk)), some (.d (.int (i : Int))), none, none] = .nx [some (.d (.tup L)), some (.d (nD i c)), some (.d (.int mk)), some (.d (.int (i : Int))), some (.lst (((rid c li).map D.int).map .d)), none] := by
    unfold law_behind_s3
    rw [evS, e]
    simp [evSs, evS, ev, evs, evb, evi, evt, szl, bindPar, bindT, bindTs, wipes, Tg.vars, varss, lend, giveBack, filled, plainAt, isLst, backs, bindT]
  have h1 := p_to L (i := (i : Int)) (by omega)
  have h2 := p_from L (i := (i : Int) + 1) (by omega)
  have h3 := p_sortI (rid c li ++ [mk])
  have e0 : ((i : Int) + 1).toNat = i + 1 := by omega
  rw [Int.toNat_natCast] at h1
  rw [e0] at h2
  have hrl : (rid c li).length ≤ li.length := List.length_filter_le _ _
  have ad := p_addL (a := (rid c li).map .int) (b := [D.int mk]) (by simp [evSs, evS, ev, evs, evb, evi, evt, szl, bindPar, bindT, bindTs, wipes, Tg.vars, varss, lend, giveBack, filled, plainAt, isLst, backs]; have : li.length + 1 ≤ 16777216 := ho; omega)
  have mp : (rid c li ++ [mk]).map D.int = (rid c li).map D.int ++ [D.int mk] := by simp [evSs, evS, ev, evs, evb, evi, evt, szl, bindPar, bindT, bindTs, wipes, Tg.vars, varss, lend, giveBack, filled, plainAt, isLst, backs]
  rw [mp] at h3
  have a1 := p_addT (a := L.take i) (b := [tI (sortI (rid c li ++ [mk]))]) (by have : L.length + 2 ≤ 16777216 := hL; simp [evSs, evS, ev, evs, evb, evi, evt, szl, bindPar, bindT, bindTs, wipes, Tg.vars, varss, lend, giveBack, filled, plainAt, isLst, backs]; omega)
  have a2 := p_addT (a := L.take i ++ [tI (sortI (rid c li ++ [mk]))]) (b := L.drop (i + 1)) (by have : L.length + 2 ≤ 16777216 := hL; simp [evSs, evS, ev, evs, evb, evi, evt, szl, bindPar, bindT, bindTs, wipes, Tg.vars, varss, lend, giveBack, filled, plainAt, isLst, backs]; omega)
  have f1 := frz_ints (sortI (rid c li ++ [mk]))
  have s4 : evS (CC n 0) law_behind_s4 [some (.d (.tup L)), some (.d (nD i c)), some (.d (.int mk)), some (.d (.int (i : Int))), some (.lst (((rid c li).map D.int).map .d)), none] = .ret (.d (.tup (upd L i (tI (sortI (rid c li ++ [mk])))))) [some (.d (.tup L)), some (.d (nD i c)), some (.d (.int mk)), some (.d (.int (i : Int))), some (.d (.lst ((rid c li).map D.int))), none] := by
    generalize intsM (sortI (rid c li ++ [mk])) = I1 at h3 f1
    generalize (rid c li).map D.int = L2 at h3 ad ⊢
    have ad2 : frz (M.lst ((L2 ++ [D.int mk]).map M.d)) = D.lst (L2 ++ [D.int mk]) := by rw [frz_lst, frzs_map]
    generalize M.lst ((L2 ++ [D.int mk]).map M.d) = M4 at ad ad2
    unfold upd
    unfold tI at a1 a2 ⊢
    generalize (sortI (rid c li ++ [mk])).map D.int = L3 at f1 a1 a2 ⊢
    generalize L.take i = L4 at h1 a1 a2 ⊢
    generalize L.drop (i + 1) = L5 at h2 a2 ⊢
    have a1' : prim .add [.tup L4, .tup [.tup L3]] = some (.d (.tup (L4 ++ [.tup L3]))) := a1
    simp [evSs, evS, ev, evs, evb, evi, evt, szl, bindPar, bindT, bindTs, wipes, Tg.vars, varss, lend, giveBack, filled, plainAt, isLst, backs, law_behind_s4, h1, h2, h3, f1, p_tupd, a1', a2, ad, ad2, -List.append_assoc]
  rw [run1 s1 (run1 s3 (runR s4)), fin_ret0]
/-- the standings behind a write, in no order -/
def PL (k : Nat) (c : Int) (li : List Int) (L : List D) (i : Nat) : List D := (fre k (rid c li)).map fun mk => D.tup (upd L i (tI (sortI (rid c li ++ [mk]))))
theorem PL_sorted (k : Nat) (c : Int) (li : List Int) (t : List (List Int)) (i : Nat) : ∃ R : List D, prim .sorted [.lst (PL k c li (t.map tI) i)] = some (own R) ∧ (∀ d ∈ R, ∃ t, d = sI t) ∧ R.length ≤ k := by
  have e : PL k c li (t.map tI) i = ((fre k (rid c li)).map fun mk => upd t i (sortI (rid c li ++ [mk]))).map sI := by
    unfold PL
    rw [List.map_map]
    apply List.map_congr_left
    intro mk _
    show D.tup (upd (t.map tI) i (tI (sortI (rid c li ++ [mk])))) = sI (upd t i (sortI (rid c li ++ [mk])))
    unfold sI
    rw [upd_map]
  rw [e]
  obtain ⟨R, h1, h2, h3⟩ := p_sortS (L := (fre k (rid c li)).map fun mk => upd t i (sortI (rid c li ++ [mk]))) fun u hu => by
    obtain ⟨mk, _, rfl⟩ := List.mem_map.mp hu
    unfold upd
    simp [evSs, evS, ev, evs, evb, evi, evt, szl, bindPar, bindT, bindTs, wipes, Tg.vars, varss, lend, giveBack, filled, plainAt, isLst, backs]
  refine ⟨R, h1, h2, ?_⟩
  rw [h3, List.length_map]
  refine Nat.le_trans (List.length_filter_le _ _) ?_
  unfold ups
  simp [evSs, evS, ev, evs, evb, evi, evt, szl, bindPar, bindT, bindTs, wipes, Tg.vars, varss, lend, giveBack, filled, plainAt, isLst, backs]
theorem law_due (n : Nat) {gs : List G} {L : List D} {i : Nat} {g : G} {c : Int} {li : List Int} {R : List D} (hg : gs[i]? = some g) (h : L[i]? = some (tI li)) (hk : g.2 ≤ 16777216) (hL : L.length + 2 ≤ szl) (ho : li.length + 1 ≤ szl) (hR : prim .sorted [.lst (PL g.2 c li L i)] = some (own R)) :
    evCall T (n + 2) "_law_due" [.d (.tup (gs.map gp)), .d (.tup L), .d (nD i c)] = .ok (.d (.tup [.str "told", .lst R])) [] := by
  rw [callS_eq (g := f_law_due) rfl rfl]
  have hm := law_marks n (c := c) hg h hk
  rw [mlk_fre] at hm
  have hb := fun mk => law_behind n (c := c) (mk := mk) h hL ho
  unfold PL at hR
  generalize D.tup (gs.map gp) = G1 at hm ⊢
  show finish 0 (evSs (CC (n + 1) 0) [law_due_s1, law_due_s3] [some (.d G1), some (.d (.tup L)), some (.d (nD i c)), none, none]) = _
  have s1 : evS (CC (n + 1) 0) law_due_s1 [some (.d G1), some (.d (.tup L)), some (.d (nD i c)), none, none] = .nx [some (.d G1), some (.d (.tup L)), some (.d (nD i c)), some (own ((fre g.2 (rid c li)).map D.int)), none] := by
    generalize own ((fre g.2 (rid c li)).map D.int) = O1 at hm ⊢
    simp [evSs, evS, ev, evs, evb, evi, evt, szl, bindPar, bindT, bindTs, wipes, Tg.vars, varss, lend, giveBack, filled, plainAt, isLst, backs, law_due_s1, lend, giveBack, hm, bindT]
  have e2 := lc_map (C := CC (n + 1) 0) (elt := law_due_e2) (tg := .nm 4) (ik := .seq) (ias := [.rd 3]) (s := [some (.d G1), some (.d (.tup L)), some (.d (nD i c)), some (own ((fre g.2 (rid c li)).map D.int)), none]) (s1 := [some (.d G1), some (.d (.tup L)), some (.d (nD i c)), some (.d (.lst ((fre g.2 (rid c li)).map D.int))), none])
    (ds := [.lst ((fre g.2 (rid c li)).map D.int)]) (its := (fre g.2 (rid c li)).map D.int) (g := fun d => match d with | .int mk => D.tup (upd L i (tI (sortI (rid c li ++ [mk])))) | d => d) (by
      generalize (fre g.2 (rid c li)).map D.int = L1
      simp [evSs, evS, ev, evs, evb, evi, evt, szl, bindPar, bindT, bindTs, wipes, Tg.vars, varss, lend, giveBack, filled, plainAt, isLst, backs, own]) rfl (by simp [evSs, evS, ev, evs, evb, evi, evt, szl, bindPar, bindT, bindTs, wipes, Tg.vars, varss, lend, giveBack, filled, plainAt, isLst, backs]) (fun d hd => by
      obtain ⟨x, _, rfl⟩ := List.mem_map.mp hd
      have w := hb x
      refine ⟨[some (.d G1), some (.d (.tup L)), some (.d (nD i c)), some (.d (.lst ((fre g.2 (rid c li)).map D.int))), some (.d (.int x))], .d (.tup (upd L i (tI (sortI (rid c li ++ [x]))))), [some (.d G1), some (.d (.tup L)), some (.d (nD i c)), some (.d (.lst ((fre g.2 (rid c li)).map D.int))), some (.d (.int x))], by simp [evSs, evS, ev, evs, evb, evi, evt, szl, bindPar, bindT, bindTs, wipes, Tg.vars, varss, lend, giveBack, filled, plainAt, isLst, backs, bindT], ?_, rfl, by simp [evSs, evS, ev, evs, evb, evi, evt, szl, bindPar, bindT, bindTs, wipes, Tg.vars, varss, lend, giveBack, filled, plainAt, isLst, backs]⟩
      generalize (fre g.2 (rid c li)).map D.int = L1
      generalize D.tup (upd L i (tI (sortI (rid c li ++ [x])))) = D3 at w ⊢
      simp [evSs, evS, ev, evs, evb, evi, evt, szl, bindPar, bindT, bindTs, wipes, Tg.vars, varss, lend, giveBack, filled, plainAt, isLst, backs, law_due_e2, lend, giveBack, w])
  have em : ((fre g.2 (rid c li)).map D.int).map (fun d => match d with | .int mk => D.tup (upd L i (tI (sortI (rid c li ++ [mk])))) | d => d) = (fre g.2 (rid c li)).map fun mk => D.tup (upd L i (tI (sortI (rid c li ++ [mk])))) := by rw [List.map_map]; rfl
  rw [em] at e2
  have s3 : evS (CC (n + 1) 0) law_due_s3 [some (.d G1), some (.d (.tup L)), some (.d (nD i c)), some (own ((fre g.2 (rid c li)).map D.int)), none] = .ret (.d (.tup [.str "told", .lst R])) [some (.d G1), some (.d (.tup L)), some (.d (nD i c)), some (.d (.lst ((fre g.2 (rid c li)).map D.int))), none] := by
    unfold law_due_s3
    have fR := frz_own R
    generalize own ((fre g.2 (rid c li)).map D.int) = O1 at e2 ⊢
    generalize (fre g.2 (rid c li)).map D.int = L1 at e2 ⊢
    generalize ((fre g.2 (rid c li)).map fun mk => D.tup (upd L i (tI (sortI (rid c li ++ [mk]))))) = L2 at e2 hR
    generalize own R = R1 at hR fR
    have e3 : ev (CC (n + 1) 0) (.op .sorted [.lc law_due_e2 (.nm 4) .seq [.rd 3] []]) [some (.d G1), some (.d (.tup L)), some (.d (nD i c)), some O1, none] = .ok R1 [some (.d G1), some (.d (.tup L)), some (.d (nD i c)), some (.d (.lst L1)), none] := by
      rw [ev, evs, e2]
      simp [evSs, evS, ev, evs, evb, evi, evt, szl, bindPar, bindT, bindTs, wipes, Tg.vars, varss, lend, giveBack, filled, plainAt, isLst, backs, hR]
    generalize E.op .sorted [.lc law_due_e2 (.nm 4) .seq [.rd 3] []] = X at e3 ⊢
    simp [evSs, evS, ev, evs, evb, evi, evt, szl, bindPar, bindT, bindTs, wipes, Tg.vars, varss, lend, giveBack, filled, plainAt, isLst, backs, e3, fR, p_tupd]
  rw [run1 s1 (runR s3), fin_ret0]
end K03
end PV
namespace PV
namespace K03
open PySem
theorem check_bad (n : Nat) {gs : List G} (hg : ∀ g ∈ gs, g.1 ≤ 1000) {x : D} (h : stdG gs x = false) : evCall T (n + 5) "check_standing" [.d (.tup (gs.map gp)), .d x] = .ex "NoStanding" [] [] := by
  rw [callS_eq (g := f_check_standing) rfl rfl]
  have hs := is_standingG n gs hg x
  rw [h] at hs
  generalize D.tup (gs.map gp) = G1 at hs ⊢
  show finish 0 (evSs (CC (n + 4) 0) [check_standing_s3] [some (.d G1), some (.d x)]) = _
  have e0 : evS (CC (n + 4) 0) check_standing_s1 [some (.d G1), some (.d x)] = .ex "NoStanding" [] [some (.d G1), some (.d x)] := raise_eq (by show 3 ≤ n + 4; omega) (by rw [evs]) (by decide +kernel)
  have e1 : evS (CC (n + 4) 0) check_standing_s3 [some (.d G1), some (.d x)] = .ex "NoStanding" [] [some (.d G1), some (.d x)] := by
    have et : evt (CC (n + 4) 0) (.not (.call "is_standing" [] [.rd 0, .rd 1])) [some (.d G1), some (.d x)] = .ok true [some (.d G1), some (.d x)] := by simp [evSs, evS, ev, evs, evb, evi, evt, szl, bindPar, bindT, bindTs, wipes, Tg.vars, varss, lend, giveBack, filled, plainAt, isLst, backs, lend, giveBack, hs]
    unfold check_standing_s3
    rw [evS, et]
    exact runX (r := []) e0
  rw [runX e1, fin_ex0]
theorem check_ok (n : Nat) {gs : List G} (hg : ∀ g ∈ gs, g.1 ≤ 1000) {x : D} (h : stdG gs x = true) : evCall T (n + 5) "check_standing" [.d (.tup (gs.map gp)), .d x] = .ok (.d .non) [] := by
  rw [callS_eq (g := f_check_standing) rfl rfl]
  have hs := is_standingG n gs hg x
  rw [h] at hs
  generalize D.tup (gs.map gp) = G1 at hs ⊢
  show finish 0 (evSs (CC (n + 4) 0) [check_standing_s3] [some (.d G1), some (.d x)]) = _
  have e1 : evS (CC (n + 4) 0) check_standing_s3 [some (.d G1), some (.d x)] = .nx [some (.d G1), some (.d x)] := by
    simp [evSs, evS, ev, evs, evb, evi, evt, szl, bindPar, bindT, bindTs, wipes, Tg.vars, varss, lend, giveBack, filled, plainAt, isLst, backs, check_standing_s3, lend, giveBack, hs]
  rw [run1 e1 run0, fin_nx0]
abbrev s5 (a b c : D) (x y : Option M) : Sl := [some (.d a), some (.d b), some (.d c), x, y]
theorem bw_std (n : Nat) {gs : List G} (hg : ∀ g ∈ gs, g.1 ≤ 1000) {x nm : D} (h : stdG gs x = false) : evCall T (n + 6) "behind_write" [.d (.tup (gs.map gp)), .d x, .d nm] = .ex "NoStanding" [] [] := by
  rw [callS_eq (g := f_behind_write) rfl rfl]
  have hc := check_bad n hg h
  generalize D.tup (gs.map gp) = G1 at hc ⊢
  show finish 0 (evSs (CC (n + 5) 0) [behind_write_s1, behind_write_s4, behind_write_s5, behind_write_s8, behind_write_s9] (s5 G1 x nm none none)) = _
  have e1 : evS (CC (n + 5) 0) behind_write_s1 (s5 G1 x nm none none) = .ex "NoStanding" [] (s5 G1 x nm none none) := by
    unfold behind_write_s1
    rw [evS, ev]
    simp [evSs, evS, ev, evs, evb, evi, evt, szl, bindPar, bindT, bindTs, wipes, Tg.vars, varss, lend, giveBack, filled, plainAt, isLst, backs, lend, hc, giveBack]
    rfl
  rw [runX e1, fin_ex0]
theorem bw_1 (n : Nat) {G1 x nm : D} (hc : evCall T (n + 5) "check_standing" [.d G1, .d x] = .ok (.d .non) []) : evS (CC (n + 5) 0) behind_write_s1 (s5 G1 x nm none none) = .nx (s5 G1 x nm none none) := by
  unfold behind_write_s1
  rw [evS, ev]
  simp [evSs, evS, ev, evs, evb, evi, evt, szl, bindPar, bindT, bindTs, wipes, Tg.vars, varss, lend, giveBack, filled, plainAt, isLst, backs, lend, hc, giveBack]
theorem bw_name (n : Nat) {gs : List G} (hg : ∀ g ∈ gs, g.1 ≤ 1000) {s : List (List Nat)} {nm : D} (h : okSt gs s) (hn : nmB s nm = false) : evCall T (n + 6) "behind_write" [.d (.tup (gs.map gp)), .d (sD s), .d nm] = .ex "NoName" [] [] := by
  rw [callS_eq (g := f_behind_write) rfl rfl]
  have hc := check_ok n hg (stdG_ok h)
  have hi := is_name (n + 2) s nm
  rw [hn] at hi
  generalize D.tup (gs.map gp) = G1 at hc ⊢
  generalize sD s = S1 at hc hi ⊢
  show finish 0 (evSs (CC (n + 5) 0) [behind_write_s1, behind_write_s4, behind_write_s5, behind_write_s8, behind_write_s9] (s5 G1 S1 nm none none)) = _
  have e0 : evS (CC (n + 5) 0) behind_write_s2 (s5 G1 S1 nm none none) = .ex "NoName" [] (s5 G1 S1 nm none none) := raise_eq (by show 3 ≤ n + 5; omega) (by rw [evs]) (by decide +kernel)
  have e4 : evS (CC (n + 5) 0) behind_write_s4 (s5 G1 S1 nm none none) = .ex "NoName" [] (s5 G1 S1 nm none none) := by
    have et : evt (CC (n + 5) 0) (.not (.call "is_name" [] [.rd 1, .rd 2])) (s5 G1 S1 nm none none) = .ok true (s5 G1 S1 nm none none) := by simp [evSs, evS, ev, evs, evb, evi, evt, szl, bindPar, bindT, bindTs, wipes, Tg.vars, varss, lend, giveBack, filled, plainAt, isLst, backs, lend, giveBack, hi]
    unfold behind_write_s4
    rw [evS, et]
    exact runX (r := []) e0
  rw [run1 (bw_1 n hc) (runX e4), fin_ex0]
theorem bw_many (n : Nat) {gs : List G} (hg : ∀ g ∈ gs, g.1 ≤ 1000) {s : List (List Nat)} {i c : Nat} {g : G} {l : List Nat} (h : okSt gs s) (h1 : gs[i]? = some g) (h2 : s[i]? = some l) (h3 : c ∈ l) (hb : 4096 < (g.2 : Int) - (g.1 : Int) + 1) :
    evCall T (n + 6) "behind_write" [.d (.tup (gs.map gp)), .d (sD s), .d (nD i c)] = .ex "TooMany" [.int 4096] [] := by
  rw [callS_eq (g := f_behind_write) rfl rfl]
  have hc := check_ok n hg (stdG_ok h)
  have hi := is_name (n + 2) s (nD i c)
  rw [nm_ok h2 h3] at hi
  have hga : L2.atI (gs.map gp) (i : Int) = some (gp g) := atL (by rw [List.getElem?_map, h1]; rfl)
  generalize gs.map gp = GS at hc hga ⊢
  generalize sD s = S1 at hc hi ⊢
  show finish 0 (evSs (CC (n + 5) 0) [behind_write_s1, behind_write_s4, behind_write_s5, behind_write_s8, behind_write_s9] (s5 (.tup GS) S1 (nD i c) none none)) = _
  have e4 : evS (CC (n + 5) 0) behind_write_s4 (s5 (.tup GS) S1 (nD i c) none none) = .nx (s5 (.tup GS) S1 (nD i c) none none) := by
    simp [evSs, evS, ev, evs, evb, evi, evt, szl, bindPar, bindT, bindTs, wipes, Tg.vars, varss, lend, giveBack, filled, plainAt, isLst, backs, behind_write_s4, lend, giveBack, hi]
  have e5 : evS (CC (n + 5) 0) behind_write_s5 (s5 (.tup GS) S1 (nD i c) none none) = .nx (s5 (.tup GS) S1 (nD i c) (some (.d (.int (g.1 : Int)))) (some (.d (.int (g.2 : Int))))) := by
    simp [evSs, evS, ev, evs, evb, evi, evt, szl, bindPar, bindT, bindTs, wipes, Tg.vars, varss, lend, giveBack, filled, plainAt, isLst, backs, behind_write_s5, hga, gp, bindT, bindTs]
  have e6 : evS (CC (n + 5) 0) behind_write_s6 (s5 (.tup GS) S1 (nD i c) (some (.d (.int (g.1 : Int)))) (some (.d (.int (g.2 : Int))))) = .ex "TooMany" [.int 4096] (s5 (.tup GS) S1 (nD i c) (some (.d (.int (g.1 : Int)))) (some (.d (.int (g.2 : Int))))) := raise_eq (by show 3 ≤ n + 5; omega) (by simp [evSs, evS, ev, evs, evb, evi, evt, szl, bindPar, bindT, bindTs, wipes, Tg.vars, varss, lend, giveBack, filled, plainAt, isLst, backs]) (by decide +kernel)
  have e8 : evS (CC (n + 5) 0) behind_write_s8 (s5 (.tup GS) S1 (nD i c) (some (.d (.int (g.1 : Int)))) (some (.d (.int (g.2 : Int))))) = .ex "TooMany" [.int 4096] (s5 (.tup GS) S1 (nD i c) (some (.d (.int (g.1 : Int)))) (some (.d (.int (g.2 : Int))))) := by
    have et : evt (CC (n + 5) 0) (.op .gt [.op .add [.op .sub [.rd 4, .rd 3], .k (.int 1)], .gl "MOST_STANDINGS"]) (s5 (.tup GS) S1 (nD i c) (some (.d (.int (g.1 : Int)))) (some (.d (.int (g.2 : Int))))) = .ok true (s5 (.tup GS) S1 (nD i c) (some (.d (.int (g.1 : Int)))) (some (.d (.int (g.2 : Int))))) := by simp [evSs, evS, ev, evs, evb, evi, evt, szl, bindPar, bindT, bindTs, wipes, Tg.vars, varss, lend, giveBack, filled, plainAt, isLst, backs, hb]
    unfold behind_write_s8
    rw [evS, et]
    exact runX (r := []) e6
  rw [run1 (bw_1 n hc) (run1 e4 (run1 e5 (runX e8))), fin_ex0]
theorem up_pw {l : List Nat} (h : l.Pairwise (· < ·)) : (up l).Pairwise (· < ·) := by
  unfold up
  rw [List.pairwise_map]
  exact h.imp fun h => by omega
theorem bw_ok (n : Nat) {gs : List G} (hg : ∀ g ∈ gs, g.1 ≤ 1000) (hl : gs.length ≤ 1000) {s : List (List Nat)} {i c : Nat} {g : G} {l : List Nat} {R : List D} (h : okSt gs s) (h1 : gs[i]? = some g) (h2 : s[i]? = some l) (h3 : c ∈ l) (hb : (g.2 : Int) - (g.1 : Int) + 1 ≤ 4096) (hR : prim .sorted [.lst (PL g.2 c (up l) (s.map lotD) i)] = some (own R)) :
    evCall T (n + 6) "behind_write" [.d (.tup (gs.map gp)), .d (sD s), .d (nD i c)] = .ok (own R) [] := by
  rw [callS_eq (g := f_behind_write) rfl rfl]
  have hc := check_ok n hg (stdG_ok h)
  have hi := is_name (n + 2) s (nD i c)
  rw [nm_ok h2 h3] at hi
  have hga : L2.atI (gs.map gp) (i : Int) = some (gp g) := atL (by rw [List.getElem?_map, h1]; rfl)
  have hlen : (s.map lotD).length = gs.length := by rw [List.length_map, okSt_len h]
  have hsz : (s.map lotD).length + 2 ≤ szl := by show _ ≤ 16777216; omega
  have hat : (s.map lotD)[i]? = some (tI (up l)) := by rw [List.getElem?_map, h2]; exact congrArg some (lotD_up l)
  have hig := lt_of_at h1
  obtain ⟨g', l', q1, q2, ok⟩ := okSt_get h hig
  rw [h1] at q1
  rw [h2] at q2
  cases q1
  cases q2
  have hg1 := hg g (List.mem_of_getElem? h1)
  have rl : (rid (c : Int) (up l)).length ≤ 1000 := Nat.le_trans (List.length_filter_le _ _) (by unfold up; rw [List.length_map, ok.1]; exact hg1)
  have lo := line_of (n + 3) (c := (c : Int)) hat hsz
  have rs : sortI (rid (c : Int) (up l)) = rid (c : Int) (up l) := sortI_id ((up_pw ok.2.1).filter _)
  rw [rs] at lo
  have hiL := lt_of_at hat
  have po := points_of (n + 3) (L := upd (s.map lotD) i (tI (rid (c : Int) (up l)))) (oi := rid (c : Int) (up l)) (R := R) h1 (upd_at hiL _) (by rw [upd_len hiL]; exact hsz) (by show _ ≤ 16777216; omega) (by omega) (by
    rw [← hR]
    unfold PL
    congr 3
    apply List.map_congr_left
    intro mk _
    rw [upd_upd hiL])
  generalize gs.map gp = GS at hc hga po ⊢
  have sde : sD s = .tup (s.map lotD) := rfl
  rw [← sde] at lo
  generalize sD s = S1 at hc hi lo ⊢
  generalize D.tup (upd (s.map lotD) i (tI (rid (c : Int) (up l)))) = U1 at lo po
  generalize own R = R1 at po ⊢
  show finish 0 (evSs (CC (n + 5) 0) [behind_write_s1, behind_write_s4, behind_write_s5, behind_write_s8, behind_write_s9] (s5 (.tup GS) S1 (nD i c) none none)) = _
  have e4 : evS (CC (n + 5) 0) behind_write_s4 (s5 (.tup GS) S1 (nD i c) none none) = .nx (s5 (.tup GS) S1 (nD i c) none none) := by
    simp [evSs, evS, ev, evs, evb, evi, evt, szl, bindPar, bindT, bindTs, wipes, Tg.vars, varss, lend, giveBack, filled, plainAt, isLst, backs, behind_write_s4, lend, giveBack, hi]
  have e5 : evS (CC (n + 5) 0) behind_write_s5 (s5 (.tup GS) S1 (nD i c) none none) = .nx (s5 (.tup GS) S1 (nD i c) (some (.d (.int (g.1 : Int)))) (some (.d (.int (g.2 : Int))))) := by
    simp [evSs, evS, ev, evs, evb, evi, evt, szl, bindPar, bindT, bindTs, wipes, Tg.vars, varss, lend, giveBack, filled, plainAt, isLst, backs, behind_write_s5, hga, gp, bindT, bindTs]
  have hb2 : ¬ (4096 < (g.2 : Int) - (g.1 : Int) + 1) := by omega
  have e8 : evS (CC (n + 5) 0) behind_write_s8 (s5 (.tup GS) S1 (nD i c) (some (.d (.int (g.1 : Int)))) (some (.d (.int (g.2 : Int))))) = .nx (s5 (.tup GS) S1 (nD i c) (some (.d (.int (g.1 : Int)))) (some (.d (.int (g.2 : Int))))) := by
    simp [evSs, evS, ev, evs, evb, evi, evt, szl, bindPar, bindT, bindTs, wipes, Tg.vars, varss, lend, giveBack, filled, plainAt, isLst, backs, behind_write_s8, hb2]
  have e9 : evS (CC (n + 5) 0) behind_write_s9 (s5 (.tup GS) S1 (nD i c) (some (.d (.int (g.1 : Int)))) (some (.d (.int (g.2 : Int))))) = .ret R1 (s5 (.tup GS) S1 (nD i c) (some (.d (.int (g.1 : Int)))) (some (.d (.int (g.2 : Int))))) := by
    simp [evSs, evS, ev, evs, evb, evi, evt, szl, bindPar, bindT, bindTs, wipes, Tg.vars, varss, lend, giveBack, filled, plainAt, isLst, backs, behind_write_s9, lend, giveBack, lo, po]
  rw [run1 (bw_1 n hc) (run1 e4 (run1 e5 (run1 e8 (runR e9)))), fin_ret0]
/-! ### what the law is told -/
abbrev hds : List Hdl := [⟨"NoStanding", none, 3, .tup [.k (.str "standing")]⟩, ⟨"NoName", none, 3, .tup [.k (.str "name")]⟩, ⟨"TooMany", some 4, 3, .tup [.k (.str "many"), .fld "most"]⟩, ⟨"MarkError", none, 3, .tup [.k (.str "other")]⟩]
theorem told_ex (n : Nat) {G1 S1 N1 v : D} {c : Str} {as : List D} (h : evCall T n "behind_write" [.d G1, .d S1, .d N1] = .ex c as []) (hv : ∀ a b d : D, evH 0 c as hds (s5 a b d (some (.d .non)) none) = .nx (s5 a b d (some (.d v)) none)) :
    evCall T (n + 1) "_law_told" [.d G1, .d S1, .d N1] = .ok (.d v) [] := by
  rw [callS_eq (g := f_law_told) rfl rfl]
  show finish 0 (evSs (CC n 0) [law_told_s1, law_told_s4, law_told_s5] (s5 G1 S1 N1 none none)) = _
  have e1 : evS (CC n 0) law_told_s1 (s5 G1 S1 N1 none none) = .nx (s5 G1 S1 N1 (some (.d .non)) none) := by simp [evSs, evS, ev, evs, evb, evi, evt, szl, bindPar, bindT, bindTs, wipes, Tg.vars, varss, lend, giveBack, filled, plainAt, isLst, backs, law_told_s1, bindT]
  have e2 : evS (CC n 0) law_told_s2 (s5 G1 S1 N1 (some (.d .non)) none) = .ex c as (s5 G1 S1 N1 (some (.d .non)) none) := by
    unfold law_told_s2
    rw [evS, ev, ev]
    simp [evSs, evS, ev, evs, evb, evi, evt, szl, bindPar, bindT, bindTs, wipes, Tg.vars, varss, lend, giveBack, filled, plainAt, isLst, backs, lend, h, giveBack]
    rfl
  have e4 : evS (CC n 0) law_told_s4 (s5 G1 S1 N1 (some (.d .non)) none) = .nx (s5 G1 S1 N1 (some (.d v)) none) := by
    unfold law_told_s4
    rw [evS, show evSs (CC n 0) law_told_b3 (s5 G1 S1 N1 (some (.d .non)) none) = _ from runX e2]
    exact hv _ _ _
  have e5 : evS (CC n 0) law_told_s5 (s5 G1 S1 N1 (some (.d v)) none) = .ret (.d v) (s5 G1 S1 N1 (some (.d v)) none) := by simp [evSs, evS, ev, evs, evb, evi, evt, szl, bindPar, bindT, bindTs, wipes, Tg.vars, varss, lend, giveBack, filled, plainAt, isLst, backs, law_told_s5]
  rw [run1 e1 (run1 e4 (runR e5)), fin_ret0]
theorem told_ok (n : Nat) {G1 S1 N1 : D} {R : List D} (h : evCall T n "behind_write" [.d G1, .d S1, .d N1] = .ok (own R) []) :
    evCall T (n + 1) "_law_told" [.d G1, .d S1, .d N1] = .ok (.tup [.d (.str "told"), own R]) [] := by
  rw [callS_eq (g := f_law_told) rfl rfl]
  show finish 0 (evSs (CC n 0) [law_told_s1, law_told_s4, law_told_s5] (s5 G1 S1 N1 none none)) = _
  have e1 : evS (CC n 0) law_told_s1 (s5 G1 S1 N1 none none) = .nx (s5 G1 S1 N1 (some (.d .non)) none) := by simp [evSs, evS, ev, evs, evb, evi, evt, szl, bindPar, bindT, bindTs, wipes, Tg.vars, varss, lend, giveBack, filled, plainAt, isLst, backs, law_told_s1, bindT]
  have e2 : evS (CC n 0) law_told_s2 (s5 G1 S1 N1 (some (.d .non)) none) = .nx (s5 G1 S1 N1 (some (.tup [.d (.str "told"), own R])) none) := by
    generalize own R = R1 at h ⊢
    simp [evSs, evS, ev, evs, evb, evi, evt, szl, bindPar, bindT, bindTs, wipes, Tg.vars, varss, lend, giveBack, filled, plainAt, isLst, backs, law_told_s2, lend, giveBack, h, bindT]
  have e4 : evS (CC n 0) law_told_s4 (s5 G1 S1 N1 (some (.d .non)) none) = .nx (s5 G1 S1 N1 (some (.tup [.d (.str "told"), own R])) none) := by
    unfold law_told_s4
    rw [evS, show evSs (CC n 0) law_told_b3 (s5 G1 S1 N1 (some (.d .non)) none) = _ from run1 e2 run0]
  have e5 : evS (CC n 0) law_told_s5 (s5 G1 S1 N1 (some (.tup [.d (.str "told"), own R])) none) = .ret (.tup [.d (.str "told"), own R]) (s5 G1 S1 N1 none none) := by
    generalize own R = R1
    simp [evSs, evS, ev, evs, evb, evi, evt, szl, bindPar, bindT, bindTs, wipes, Tg.vars, varss, lend, giveBack, filled, plainAt, isLst, backs, law_told_s5]
  rw [run1 e1 (run1 e4 (runR e5)), fin_ret0]
theorem hv_std (a b d : D) : evH 0 "NoStanding" [] hds (s5 a b d (some (.d .non)) none) = .nx (s5 a b d (some (.d (.tup [.str "standing"]))) none) := by
  unfold evH
  rw [if_pos (by decide +kernel)]
  rfl
theorem hv_name (a b d : D) : evH 0 "NoName" [] hds (s5 a b d (some (.d .non)) none) = .nx (s5 a b d (some (.d (.tup [.str "name"]))) none) := by
  unfold evH
  rw [if_neg (by decide +kernel)]
  unfold evH
  rw [if_pos (by decide +kernel)]
  rfl
theorem hv_many (a b d : D) : evH 0 "TooMany" [.int 4096] hds (s5 a b d (some (.d .non)) none) = .nx (s5 a b d (some (.d (.tup [.str "many", .int 4096]))) none) := by
  unfold evH
  rw [if_neg (by decide +kernel)]
  unfold evH
  rw [if_neg (by decide +kernel)]
  unfold evH
  rw [if_pos (by decide +kernel)]
  have e1 : heA "TooMany" [.int 4096] (.fld "most") = some (.int 4096) := by
    show (if fieldOf "TooMany" = some "most" then [D.int 4096].head? else none) = _
    exact if_pos (by decide +kernel)
  have ev : heV "TooMany" [.int 4096] (.tup [.k (.str "many"), .fld "most"]) = some (.tup [.str "many", .int 4096]) := by
    show ((some (D.str "many")).bind fun d => ((heA "TooMany" [.int 4096] (.fld "most")).bind fun d2 => (some []).map (d2 :: ·)).map (d :: ·)).bind (fun ds => if ds.length ≤ szl then some (D.tup ds) else none) = _
    rw [e1]
    rfl
  show (if (emptyAt (s5 a b d (some (.d .non)) none) 4 && (decide (4 ≠ 3) && decide (0 ≤ 4))) = true then (match heV "TooMany" [.int 4096] (.tup [.k (.str "many"), .fld "most"]) with
        | some v => (match bindT 0 (.nm 3) (.d v) (s5 a b d (some (.d .non)) none) with
          | some s => O.nx s
          | none => .bad)
        | none => .bad) else .bad) = _
  rw [ev]
  rfl
theorem told_std (n : Nat) {gs : List G} (hg : ∀ g ∈ gs, g.1 ≤ 1000) {x nm : D} (h : stdG gs x = false) : evCall T (n + 7) "_law_told" [.d (.tup (gs.map gp)), .d x, .d nm] = .ok (.d (.tup [.str "standing"])) [] := told_ex _ (bw_std n hg h) hv_std
theorem told_name (n : Nat) {gs : List G} (hg : ∀ g ∈ gs, g.1 ≤ 1000) {s : List (List Nat)} {nm : D} (h : okSt gs s) (hn : nmB s nm = false) : evCall T (n + 7) "_law_told" [.d (.tup (gs.map gp)), .d (sD s), .d nm] = .ok (.d (.tup [.str "name"])) [] := told_ex _ (bw_name n hg h hn) hv_name
theorem told_many (n : Nat) {gs : List G} (hg : ∀ g ∈ gs, g.1 ≤ 1000) {s : List (List Nat)} {i c : Nat} {g : G} {l : List Nat} (h : okSt gs s) (h1 : gs[i]? = some g) (h2 : s[i]? = some l) (h3 : c ∈ l) (hb : 4096 < (g.2 : Int) - (g.1 : Int) + 1) :
    evCall T (n + 7) "_law_told" [.d (.tup (gs.map gp)), .d (sD s), .d (nD i c)] = .ok (.d (.tup [.str "many", .int 4096])) [] := told_ex _ (bw_many n hg h h1 h2 h3 hb) hv_many
/-- told and due: the same list -/
theorem told_due (n : Nat) {gs : List G} (hg : ∀ g ∈ gs, g.1 ≤ 1000) (hl : gs.length ≤ 1000) {s : List (List Nat)} {i c : Nat} {g : G} {l : List Nat} (h : okSt gs s) (h1 : gs[i]? = some g) (h2 : s[i]? = some l) (h3 : c ∈ l) (hb : (g.2 : Int) - (g.1 : Int) + 1 ≤ 4096) :
    ∃ R : List D, evCall T (n + 7) "_law_told" [.d (.tup (gs.map gp)), .d (sD s), .d (nD i c)] = .ok (.tup [.d (.str "told"), own R]) [] ∧ evCall T (n + 7) "_law_due" [.d (.tup (gs.map gp)), .d (sD s), .d (nD i c)] = .ok (.d (.tup [.str "told", .lst R])) [] ∧ isOk 4 (.tup [.str "told", .lst R])
      ∧ R.length ≤ g.2 := by
  have em : s.map lotD = (s.map up).map tI := by rw [List.map_map]; apply List.map_congr_left; intro l _; exact lotD_up l
  obtain ⟨R, hR, hr, hlR⟩ := PL_sorted g.2 c (up l) (s.map up) i
  rw [← em] at hR
  have hlen : (s.map lotD).length = gs.length := by rw [List.length_map, okSt_len h]
  have hat : (s.map lotD)[i]? = some (tI (up l)) := by rw [List.getElem?_map, h2]; exact congrArg some (lotD_up l)
  obtain ⟨g', l', q1, q2, ok⟩ := okSt_get h (lt_of_at h1)
  rw [h1] at q1
  rw [h2] at q2
  cases q1
  cases q2
  have hg1 := hg g (List.mem_of_getElem? h1)
  refine ⟨R, told_ok _ (bw_ok n hg hl h h1 h2 h3 hb hR), law_due (n + 5) h1 hat (by omega) (by show _ ≤ 16777216; omega) (by show _ ≤ 16777216; unfold up; rw [List.length_map, ok.1]; omega) hR, ?_, hlR⟩
  refine .inr (.inl ⟨_, rfl, fun x hx => ?_⟩)
  simp [evSs, evS, ev, evs, evb, evi, evt, szl, bindPar, bindT, bindTs, wipes, Tg.vars, varss, lend, giveBack, filled, plainAt, isLst, backs] at hx
  rcases hx with rfl | rfl
  · exact .inl (.inr ⟨_, rfl, by decide +kernel⟩)
  · exact ok_list hr
end K03
end PV
namespace PV
namespace K03
open PySem
theorem enum_mem {L : List D} {d : D} (h : d ∈ L.mapIdx fun i d => D.tup [.int (i : Nat), d]) : ∃ (i : Nat) (x : D), L[i]? = some x ∧ d = .tup [.int (i : Int), x] := by
  obtain ⟨i, hi, rfl⟩ := List.mem_mapIdx.mp h
  exact ⟨i, L[i], List.getElem?_eq_getElem hi, rfl⟩
def isNm (s : List (List Nat)) (d : D) : Prop := ∃ (i c : Nat) (l : List Nat), d = nD i c ∧ s[i]? = some l ∧ c ∈ l
theorem law_names (n : Nat) {s : List (List Nat)} (hs : s.length ≤ 1000) (hl : ∀ l ∈ s, l.length ≤ 1000) : ∃ N : List D, evCall T (n + 1) "_law_names" [.d (sD s)] = .ok (own N) [] ∧ ∀ d ∈ N, isNm s d := by
  rw [callS_eq (g := f_law_names) rfl rfl]
  obtain ⟨S1, hS1⟩ : ∃ S1, S1 = s.map lotD := ⟨_, rfl⟩
  have sde : sD s = .tup S1 := by rw [hS1]; rfl
  rw [sde]
  have e1 : evS (CC n 0) law_names_s1 [some (.d (.tup S1)), none, none, none, none] = .nx [some (.d (.tup S1)), some (own []), none, none, none] := by simp [evSs, evS, ev, evs, evb, evi, evt, szl, bindPar, bindT, bindTs, wipes, Tg.vars, varss, lend, giveBack, filled, plainAt, isLst, backs, law_names_s1, own, bindT]
  have e2 : evS (CC n 0) law_names_s5 [some (.d (.tup S1)), some (own []), none, none, none] = loopS (stepS 0 (.tp [.nm 2, .nm 3]) (evSs (CC n 0) law_names_b4)) (S1.mapIdx fun i d => D.tup [.int (i : Nat), d]) [some (.d (.tup S1)), some (own []), none, none, none] :=
    forr_eq (ds := [.tup S1]) (by simp [evSs, evS, ev, evs, evb, evi, evt, szl, bindPar, bindT, bindTs, wipes, Tg.vars, varss, lend, giveBack, filled, plainAt, isLst, backs]) rfl
  have e3 := loopS_pre (f := stepS 0 (.tp [.nm 2, .nm 3]) (evSs (CC n 0) law_names_b4)) (N := 1000) (P := fun pre sl => ∃ (N : List D) (x2 x3 : Option M), sl = [some (.d (.tup S1)), some (own N), x2, x3, none] ∧ N.length ≤ 1000 * pre.length ∧ ∀ d ∈ N, isNm s d) (ds := S1.mapIdx fun i d => D.tup [.int (i : Nat), d]) (pre := []) (s := [some (.d (.tup S1)), some (own []), none, none, none]) ⟨[], none, none, rfl, Nat.le_refl _, fun _ z => (nomatch z)⟩ (by rw [hS1]; simp [evSs, evS, ev, evs, evb, evi, evt, szl, bindPar, bindT, bindTs, wipes, Tg.vars, varss, lend, giveBack, filled, plainAt, isLst, backs]; exact hs) (fun pre d sl hd hj hp => by
      obtain ⟨i, x, hx, rfl⟩ := enum_mem hd
      obtain ⟨N, x2, x3, rfl, hN, hall⟩ := hp
      rw [hS1, List.getElem?_map] at hx
      cases hsi : s[i]? with
      | none => rw [hsi] at hx; cases hx
      | some l =>
        rw [hsi] at hx
        cases hx
        have hll := hl l (List.mem_of_getElem? hsi)
        have e5 := lc_map (C := CC n 0) (elt := law_names_e2) (tg := .nm 4) (ik := .seq) (ias := [.rd 3]) (s := [some (.d (.tup S1)), some (own N), some (.d (.int (i : Int))), some (.d (lotD l)), none])
          (s1 := [some (.d (.tup S1)), some (own N), some (.d (.int (i : Int))), some (.d (lotD l)), none]) (ds := [lotD l]) (its := l.map fun x : Nat => D.int (x : Int)) (g := fun d => D.tup [.int (i : Int), d]) (by simp [evSs, evS, ev, evs, evb, evi, evt, szl, bindPar, bindT, bindTs, wipes, Tg.vars, varss, lend, giveBack, filled, plainAt, isLst, backs]) rfl (by simp [evSs, evS, ev, evs, evb, evi, evt, szl, bindPar, bindT, bindTs, wipes, Tg.vars, varss, lend, giveBack, filled, plainAt, isLst, backs]) (fun d hd => by
            exact ⟨[some (.d (.tup S1)), some (own N), some (.d (.int (i : Int))), some (.d (lotD l)), some (.d d)], .d (.tup [.int (i : Int), d]), [some (.d (.tup S1)), some (own N), some (.d (.int (i : Int))), some (.d (lotD l)), some (.d d)], by simp [evSs, evS, ev, evs, evb, evi, evt, szl, bindPar, bindT, bindTs, wipes, Tg.vars, varss, lend, giveBack, filled, plainAt, isLst, backs, bindT], by simp [evSs, evS, ev, evs, evb, evi, evt, szl, bindPar, bindT, bindTs, wipes, Tg.vars, varss, lend, giveBack, filled, plainAt, isLst, backs, law_names_e2, p_tupd], rfl, by simp [evSs, evS, ev, evs, evb, evi, evt, szl, bindPar, bindT, bindTs, wipes, Tg.vars, varss, lend, giveBack, filled, plainAt, isLst, backs]⟩)
        obtain ⟨X, hX⟩ : ∃ X, X = (l.map fun x : Nat => D.int (x : Int)).map fun d => D.tup [.int (i : Int), d] := ⟨_, rfl⟩
        have hXl : X.length = l.length := by rw [hX]; simp [evSs, evS, ev, evs, evb, evi, evt, szl, bindPar, bindT, bindTs, wipes, Tg.vars, varss, lend, giveBack, filled, plainAt, isLst, backs]
        have hXm : ∀ d ∈ X, isNm s d := fun d hd => by
          rw [hX] at hd
          obtain ⟨y, hy, rfl⟩ := List.mem_map.mp hd
          obtain ⟨c, hc, rfl⟩ := List.mem_map.mp hy
          exact ⟨i, c, l, rfl, hsi, hc⟩
        rw [← hX] at e5
        have e6 : evS (CC n 0) law_names_s3 [some (.d (.tup S1)), some (own N), some (.d (.int (i : Int))), some (.d (lotD l)), none] = .nx [some (.d (.tup S1)), some (own (N ++ X)), some (.d (.int (i : Int))), some (.d (lotD l)), none] := by
          generalize lotD l = L1 at e5 ⊢
          unfold own at e5 ⊢
          have ha2 : (N.map M.d).length + X.length ≤ szl := by rw [List.length_map, hXl]; show _ ≤ 16777216; omega
          have q := ext_nx (i := 1) (ms := N.map M.d) (ds := X) (by rfl) e5 (by rfl) (by simp [evSs, evS, ev, evs, evb, evi, evt, szl, bindPar, bindT, bindTs, wipes, Tg.vars, varss, lend, giveBack, filled, plainAt, isLst, backs]) ha2
          unfold law_names_s3
          rw [q]
          simp [evSs, evS, ev, evs, evb, evi, evt, szl, bindPar, bindT, bindTs, wipes, Tg.vars, varss, lend, giveBack, filled, plainAt, isLst, backs]
        refine ⟨[some (.d (.tup S1)), some (own (N ++ X)), some (.d (.int (i : Int))), some (.d (lotD l)), none], ?_, ⟨N ++ X, _, _, rfl, by rw [List.length_append, List.length_append, hXl]; show _ ≤ 1000 * (pre.length + 1); omega, fun d hd => ?_⟩⟩
        · have eb : bindT 0 (.tp [.nm 2, .nm 3]) (.d (.tup [.int (i : Int), lotD l])) [some (.d (.tup S1)), some (own N), x2, x3, none] = some [some (.d (.tup S1)), some (own N), some (.d (.int (i : Int))), some (.d (lotD l)), none] := by
            simp [evSs, evS, ev, evs, evb, evi, evt, szl, bindPar, bindT, bindTs, wipes, Tg.vars, varss, lend, giveBack, filled, plainAt, isLst, backs, bindT, bindTs]
          show (match bindT 0 (.tp [.nm 2, .nm 3]) (.d (.tup [.int (i : Int), lotD l])) [some (.d (.tup S1)), some (own N), x2, x3, none] with | some s => evSs (CC n 0) [law_names_s3] s | none => .bad) = _
          rw [eb]
          exact run1 e6 run0
        · rcases List.mem_append.mp hd with hd | hd
          · exact hall d hd
          · exact hXm d hd
      )
  obtain ⟨s', e4, N, x2, x3, rfl, _, hall⟩ := e3
  have e5 : evS (CC n 0) law_names_s6 [some (.d (.tup S1)), some (own N), x2, x3, none] = .ret (own N) [some (.d (.tup S1)), none, x2, x3, none] := by simp [evSs, evS, ev, evs, evb, evi, evt, szl, bindPar, bindT, bindTs, wipes, Tg.vars, varss, lend, giveBack, filled, plainAt, isLst, backs, law_names_s6, own]
  refine ⟨N, ?_, hall⟩
  show finish 0 (evSs (CC n 0) [law_names_s1, law_names_s5, law_names_s6] [some (.d (.tup S1)), none, none, none, none]) = _
  rw [run1 e1 (run1 (e2.trans e4) (runR e5)), fin_ret0]
end K03
end PV
namespace PV
namespace K03
open PySem
theorem p_rep {a : List D} {m : Nat} (h : a ≠ [] ∧ 1 ≤ (m : Int) ∧ (m : Int) ≤ 1000 ∧ a.length ≤ 1000) : prim .mul [.tup a, .int (m : Int)] = some (.d (.tup (repD a (m : Int)))) := if_pos h
theorem nm_out {s : List (List Nat)} {i : Nat} {c : Int} {l : List Nat} (h : s[i]? = some l) (hc : c ∉ up l) : nmB s (.tup [.int (i : Int), .int c]) = false := by
  have e : s.getD (i : Int).toNat [] = l := by rw [Int.toNat_natCast, List.getD_eq_getElem?_getD, h]; rfl
  show (_ && decide (c ∈ up (s.getD (i : Int).toNat []))) = false
  rw [e, decide_eq_false hc, Bool.and_false]
theorem ns_all (n : Nat) {ms : List M} (hh : HH ms) {g : G} {gs : List G} {s : List (List Nat)} (h : okSt (g :: gs) s) (hg : 1 ≤ g.1 ∧ g.1 ≤ 1000) (hz : s.length ≤ 1000) :
    ∃ (d : D) (ms' : List M), evCall T (n + 3) "_law_no_standing" [.lst ms, .d (sD s)] = .ok (.d d) [.lst ms'] ∧ HH ms' ∧ stdG (g :: gs) d = false := by
  cases s with
  | nil => exact h.elim
  | cons l s =>
    have hl := h.1.1
    have hlen := okSt_len h
    obtain ⟨k, dd, ms1, hd, ed, h1⟩ := deep n hh (sD (l :: s))
    have hdp := stdG_dp (gs := gs) (g := g) (odd_std (s := l :: s) (by simp [evSs, evS, ev, evs, evb, evi, evt, szl, bindPar, bindT, bindTs, wipes, Tg.vars, varss, lend, giveBack, filled, plainAt, isLst, backs])) hd
    obtain ⟨lI, hlI⟩ : ∃ lI, lI = l.map fun x : Nat => D.int (x : Int) := ⟨_, rfl⟩
    obtain ⟨L', hL'⟩ : ∃ L', L' = s.map lotD := ⟨_, rfl⟩
    have esd : sD (l :: s) = .tup (.tup lI :: L') := by rw [hlI, hL']; rfl
    have nlI : lI.length = g.1 := by rw [hlI, List.length_map, hl]
    have nL' : L'.length = gs.length := by rw [hL', List.length_map]; simpa using hlen
    have zL' : L'.length ≤ 999 := by rw [hL', List.length_map]; simp [evSs, evS, ev, evs, evb, evi, evt, szl, bindPar, bindT, bindTs, wipes, Tg.vars, varss, lend, giveBack, filled, plainAt, isLst, backs] at hz; omega
    rw [esd] at ed ⊢
    have ne : lI ≠ [] := fun z => by rw [z] at nlI; simp [evSs, evS, ev, evs, evb, evi, evt, szl, bindPar, bindT, bindTs, wipes, Tg.vars, varss, lend, giveBack, filled, plainAt, isLst, backs] at nlI; omega
    obtain ⟨rp, hrp⟩ : ∃ rp, rp = repD [D.bl true] ((lI.length : Nat) : Int) := ⟨_, rfl⟩
    have pr := p_rep (a := [D.bl true]) (m := lI.length) ⟨by simp [evSs, evS, ev, evs, evb, evi, evt, szl, bindPar, bindT, bindTs, wipes, Tg.vars, varss, lend, giveBack, filled, plainAt, isLst, backs], by omega, by omega, by simp [evSs, evS, ev, evs, evb, evi, evt, szl, bindPar, bindT, bindTs, wipes, Tg.vars, varss, lend, giveBack, filled, plainAt, isLst, backs]⟩
    rw [← hrp] at pr
    have mrp : D.bl true ∈ rp := by
      rw [hrp]
      unfold repD
      rw [Int.toNat_natCast, nlI]
      obtain ⟨m, hm⟩ : ∃ m, g.1 = m + 1 := ⟨g.1 - 1, by omega⟩
      rw [hm, List.replicate_succ]
      simp [evSs, evS, ev, evs, evb, evi, evt, szl, bindPar, bindT, bindTs, wipes, Tg.vars, varss, lend, giveBack, filled, plainAt, isLst, backs]
    have pf : prim (.sl true false) [.tup (.tup lI :: L'), .int 1] = some (.d (.tup L')) := p_from (.tup lI :: L') (i := 1) (by decide)
    obtain ⟨Ls, hLs⟩ : ∃ Ls, Ls = [D.non, .int 0, .tup [], .lst (.tup lI :: L'), .tup L', .tup (.tup lI :: L' ++ [.tup lI]), .str "x", .dct [], .bl true] := ⟨_, rfl⟩
    obtain ⟨Lt, hLt⟩ : ∃ Lt, Lt = [D.tup ([.tup (lI ++ [.int 99])] ++ L'), .tup ([.tup (lI.reverse ++ [.int (-1)])] ++ L')] := ⟨_, rfl⟩
    obtain ⟨Lu, hLu⟩ : ∃ Lu, Lu = [D.tup ([.tup rp] ++ L'), dd] := ⟨_, rfl⟩
    have s1 : evS (CC (n + 2) 1) law_no_standing_s1 [some (.lst ms), some (.d (.tup (.tup lI :: L'))), none, none] = .nx [some (.lst ms), some (.d (.tup (.tup lI :: L'))), some (.d (.tup lI)), none] := by
      simp [evSs, evS, ev, evs, evb, evi, evt, szl, bindPar, bindT, bindTs, wipes, Tg.vars, varss, lend, giveBack, filled, plainAt, isLst, backs, law_no_standing_s1, bindT]
    have a1 := p_addT (a := .tup lI :: L') (b := [.tup lI]) (by show _ ≤ 16777216; simp [evSs, evS, ev, evs, evb, evi, evt, szl, bindPar, bindT, bindTs, wipes, Tg.vars, varss, lend, giveBack, filled, plainAt, isLst, backs]; omega)
    have s2 : evS (CC (n + 2) 1) law_no_standing_s2 [some (.lst ms), some (.d (.tup (.tup lI :: L'))), some (.d (.tup lI)), none] = .nx [some (.lst ms), some (.d (.tup (.tup lI :: L'))), some (.d (.tup lI)), some (own Ls)] := by
      rw [hLs]
      generalize hq : D.tup lI :: L' = Q at a1 pf
      have nq : prim .list [.tup Q] = some (own Q) := rfl
      have fq := frz_own Q
      generalize own Q = Q2 at nq fq
      simp [evSs, evS, ev, evs, evb, evi, evt, szl, bindPar, bindT, bindTs, wipes, Tg.vars, varss, lend, giveBack, filled, plainAt, isLst, backs, law_no_standing_s2, a1, pf, nq, fq, p_tupd, bindT, own]
    have b1 := p_addT (a := lI) (b := [D.int 99]) (by show _ ≤ 16777216; simp [evSs, evS, ev, evs, evb, evi, evt, szl, bindPar, bindT, bindTs, wipes, Tg.vars, varss, lend, giveBack, filled, plainAt, isLst, backs]; omega)
    have b2 := p_addT (a := [D.tup (lI ++ [.int 99])]) (b := L') (by show _ ≤ 16777216; simp [evSs, evS, ev, evs, evb, evi, evt, szl, bindPar, bindT, bindTs, wipes, Tg.vars, varss, lend, giveBack, filled, plainAt, isLst, backs]; omega)
    have b3 := p_addT (a := lI.reverse) (b := [D.int (-1)]) (by show _ ≤ 16777216; simp [evSs, evS, ev, evs, evb, evi, evt, szl, bindPar, bindT, bindTs, wipes, Tg.vars, varss, lend, giveBack, filled, plainAt, isLst, backs]; omega)
    have b4 := p_addT (a := [D.tup (lI.reverse ++ [.int (-1)])]) (b := L') (by show _ ≤ 16777216; simp [evSs, evS, ev, evs, evb, evi, evt, szl, bindPar, bindT, bindTs, wipes, Tg.vars, varss, lend, giveBack, filled, plainAt, isLst, backs]; omega)
    have b5 := p_addT (a := [D.tup rp]) (b := L') (by show _ ≤ 16777216; simp [evSs, evS, ev, evs, evb, evi, evt, szl, bindPar, bindT, bindTs, wipes, Tg.vars, varss, lend, giveBack, filled, plainAt, isLst, backs]; omega)
    have c1 : prim .add [.lst Ls, .lst Lt] = some (own (Ls ++ Lt)) := p_addL (by rw [hLs, hLt]; simp [evSs, evS, ev, evs, evb, evi, evt, szl, bindPar, bindT, bindTs, wipes, Tg.vars, varss, lend, giveBack, filled, plainAt, isLst, backs])
    have c2 : prim .add [.lst (Ls ++ Lt), .lst Lu] = some (own (Ls ++ Lt ++ Lu)) := p_addL (by rw [hLs, hLt, hLu]; simp [evSs, evS, ev, evs, evb, evi, evt, szl, bindPar, bindT, bindTs, wipes, Tg.vars, varss, lend, giveBack, filled, plainAt, isLst, backs])
    have s3 : evS (CC (n + 2) 1) law_no_standing_s3 [some (.lst ms), some (.d (.tup (.tup lI :: L'))), some (.d (.tup lI)), some (own Ls)] = .nx [some (.lst ms), some (.d (.tup (.tup lI :: L'))), some (.d (.tup lI)), some (own (Ls ++ Lt))] := by
      generalize own (Ls ++ Lt) = O2 at c1 ⊢
      rw [hLt] at c1
      generalize D.tup lI :: L' = Q at pf
      generalize lI ++ [D.int 99] = l1 at b1 b2 c1
      generalize lI.reverse ++ [D.int (-1)] = l2 at b3 b4 c1
      generalize [D.tup l1] ++ L' = l3 at b2 c1
      generalize [D.tup l2] ++ L' = l4 at b4 c1
      unfold own
      simp [evSs, evS, ev, evs, evb, evi, evt, szl, bindPar, bindT, bindTs, wipes, Tg.vars, varss, lend, giveBack, filled, plainAt, isLst, backs, law_no_standing_s3, pf, b1, b2, b3, b4, c1, p_tupd, bindT]
    have s4 : evS (CC (n + 2) 1) law_no_standing_s4 [some (.lst ms), some (.d (.tup (.tup lI :: L'))), some (.d (.tup lI)), some (own (Ls ++ Lt))] = .nx [some (.lst ms1), some (.d (.tup (.tup lI :: L'))), some (.d (.tup lI)), some (own (Ls ++ Lt ++ Lu))] := by
      generalize own (Ls ++ Lt ++ Lu) = O3 at c2 ⊢
      rw [hLu] at c2
      generalize Ls ++ Lt = Q3 at c2 ⊢
      generalize D.tup lI :: L' = Q at pf ed
      generalize [D.tup rp] ++ L' = l5 at b5 c2
      have pr2 : prim .mul [.tup [.bl true], .int (lI.length : Int)] = some (.d (.tup rp)) := pr
      unfold own
      simp [evSs, evS, ev, evs, evb, evi, evt, szl, bindPar, bindT, bindTs, wipes, Tg.vars, varss, lend, giveBack, filled, plainAt, isLst, backs, law_no_standing_s4, pf, b5, pr2, c2, p_tupd, bindT, lend, giveBack, ed]
    obtain ⟨d, ms2, hm, e5, h2⟩ := some_L n (l := Ls ++ Lt ++ Lu) h1 (by rw [hLs]; simp [evSs, evS, ev, evs, evb, evi, evt, szl, bindPar, bindT, bindTs, wipes, Tg.vars, varss, lend, giveBack, filled, plainAt, isLst, backs]) (by rw [hLs, hLt, hLu]; simp [evSs, evS, ev, evs, evb, evi, evt, szl, bindPar, bindT, bindTs, wipes, Tg.vars, varss, lend, giveBack, filled, plainAt, isLst, backs])
    have s5' : evS (CC (n + 2) 1) law_no_standing_s5 [some (.lst ms1), some (.d (.tup (.tup lI :: L'))), some (.d (.tup lI)), some (own (Ls ++ Lt ++ Lu))] = .ret (.d d) [some (.lst ms2), some (.d (.tup (.tup lI :: L'))), some (.d (.tup lI)), some (.d (.lst (Ls ++ Lt ++ Lu)))] := by
      generalize Ls ++ Lt ++ Lu = Q at e5 ⊢
      unfold own
      simp [evSs, evS, ev, evs, evb, evi, evt, szl, bindPar, bindT, bindTs, wipes, Tg.vars, varss, lend, giveBack, filled, plainAt, isLst, backs, law_no_standing_s5, lend, giveBack, e5]
    refine ⟨d, ms2, ?_, h2, ?_⟩
    · rw [callS_eq (g := f_law_no_standing) rfl rfl]
      show finish 1 (evSs (CC (n + 2) 1) [law_no_standing_s1, law_no_standing_s2, law_no_standing_s3, law_no_standing_s4, law_no_standing_s5] [some (.lst ms), some (.d (.tup (.tup lI :: L'))), none, none]) = _
      rw [run1 s1 (run1 s2 (run1 s3 (run1 s4 (runR s5')))), fin_ret1]
    · have hm : d ∈ Ls ∨ d ∈ Lt ∨ d ∈ Lu := by
        rcases List.mem_append.mp hm with hm | hm
        · rcases List.mem_append.mp hm with hm | hm
          · exact .inl hm
          · exact .inr (.inl hm)
        · exact .inr (.inr hm)
      have long : ∀ (l2 : List D), l2.length ≠ g.1 → mrk (g.1 : Int) (g.2 : Int) (.tup l2) = false := fun l2 h => mrk_len (by omega)
      rcases hm with hm | hm | hm
      · rw [hLs] at hm
        simp only [List.mem_cons, List.mem_nil_iff, or_false] at hm
        rcases hm with rfl | rfl | rfl | rfl | rfl | rfl | rfl | rfl | rfl
        · rfl
        · rfl
        · exact stdG_len (by simp [evSs, evS, ev, evs, evb, evi, evt, szl, bindPar, bindT, bindTs, wipes, Tg.vars, varss, lend, giveBack, filled, plainAt, isLst, backs])
        · rfl
        · exact stdG_len (by rw [nL']; simp [evSs, evS, ev, evs, evb, evi, evt, szl, bindPar, bindT, bindTs, wipes, Tg.vars, varss, lend, giveBack, filled, plainAt, isLst, backs])
        · exact stdG_len (by simp [evSs, evS, ev, evs, evb, evi, evt, szl, bindPar, bindT, bindTs, wipes, Tg.vars, varss, lend, giveBack, filled, plainAt, isLst, backs, nL'])
        · rfl
        · rfl
        · rfl
      · rw [hLt] at hm
        simp only [List.mem_cons, List.mem_nil_iff, or_false] at hm
        rcases hm with rfl | rfl
        · exact stdG_hd (long _ (by simp [evSs, evS, ev, evs, evb, evi, evt, szl, bindPar, bindT, bindTs, wipes, Tg.vars, varss, lend, giveBack, filled, plainAt, isLst, backs, nlI]))
        · exact stdG_hd (long _ (by simp [evSs, evS, ev, evs, evb, evi, evt, szl, bindPar, bindT, bindTs, wipes, Tg.vars, varss, lend, giveBack, filled, plainAt, isLst, backs, nlI]))
      · rw [hLu] at hm
        simp only [List.mem_cons, List.mem_nil_iff, or_false] at hm
        rcases hm with rfl | rfl
        · exact stdG_hd (mrk_mem mrp fun i z => nomatch z)
        · exact hdp
end K03
end PV
namespace PV
namespace K03
open PySem
theorem p_toL (l : List D) {i : Int} (h : 0 ≤ i) : prim (.sl false true) [.lst l, .int i] = some (own (l.take i.toNat)) := by
  show some (M.lst ((cutG l none (some i)).map .d)) = _
  rw [cut_to l h]; rfl
theorem nn_all (n : Nat) {ms : List M} (hh : HH ms) {gs : List G} {s : List (List Nat)} (h : okSt gs s) (hne : gs ≠ []) (hg : ∀ g ∈ gs, 1 ≤ g.1 ∧ g.2 ≤ 10000) (hz : gs.length ≤ 1000) :
    ∃ (d : D) (ms' : List M), evCall T (n + 3) "_law_no_name" [.lst ms, .d (.tup (gs.map gp)), .d (sD s)] = .ok (.d d) [.lst ms'] ∧ HH ms' ∧ nmB s d = false := by
  have hpos : 0 < gs.length := List.length_pos_iff.mpr hne
  obtain ⟨r, ms1, e1, h1, r1, r2⟩ := drawH (n + 1) (many := (gs.length : Int)) hh (by omega) (lt4000 (by omega))
  obtain ⟨i, rfl⟩ : ∃ i : Nat, r = (i : Int) := ⟨r.toNat, by omega⟩
  have hi : i < gs.length := by omega
  obtain ⟨g, l, hgi, hsi, ok⟩ := okSt_get h hi
  have hgg := hg g (List.mem_of_getElem? hgi)
  have hlen := okSt_len h
  obtain ⟨k, dd, ms2, hd, ed, h2⟩ := deep n h1 (.int 0)
  have hdp := nm_dp (s := s) hd
  have hga : L2.atI (gs.map gp) (i : Int) = some (gp g) := atL (by rw [List.getElem?_map, hgi]; rfl)
  have hgl : (gs.map gp).length = gs.length := List.length_map _
  have hla : L2.atI (s.map lotD) (i : Int) = some (tI (up l)) := atL (by rw [List.getElem?_map, hsi]; exact congrArg some (lotD_up l))
  obtain ⟨c0, lr, hl0⟩ : ∃ c0 lr, l = c0 :: lr := by
    cases l with
    | nil => have := ok.1; simp [evSs, evS, ev, evs, evb, evi, evt, szl, bindPar, bindT, bindTs, wipes, Tg.vars, varss, lend, giveBack, filled, plainAt, isLst, backs] at this; omega
    | cons a b => exact ⟨a, b, rfl⟩
  have hl2 : L2.atI ((up l).map D.int) 0 = some (.int (c0 : Int)) := by rw [hl0]; exact atI_zero _ _
  obtain ⟨F, hF⟩ : ∃ F, F = (fre g.2 (up l)).map D.int := ⟨_, rfl⟩
  have hFl : F.length ≤ 10000 := by
    rw [hF, List.length_map]
    refine Nat.le_trans (List.length_filter_le _ _) ?_
    unfold ups
    simp [evSs, evS, ev, evs, evb, evi, evt, szl, bindPar, bindT, bindTs, wipes, Tg.vars, varss, lend, giveBack, filled, plainAt, isLst, backs]
    exact hgg.2
  have esd : sD s = .tup (s.map lotD) := rfl
  rw [esd]
  generalize s.map lotD = S1 at hla ⊢
  obtain ⟨G1, hG1⟩ : ∃ G1, G1 = gs.map gp := ⟨_, rfl⟩
  rw [← hG1] at hga hgl ⊢
  have lenG : prim .len [.tup G1] = some (.d (.int (gs.length : Int))) := by rw [p_lenT, hgl]
  have s1 : evS (CC (n + 2) 1) law_no_name_s1 [some (.lst ms), some (.d (.tup G1)), some (.d (.tup S1)), none, none, none, none] = .nx [some (.lst ms1), some (.d (.tup G1)), some (.d (.tup S1)), some (.d (.int (i : Int))), none, none, none] := by
    simp [evSs, evS, ev, evs, evb, evi, evt, szl, bindPar, bindT, bindTs, wipes, Tg.vars, varss, lend, giveBack, filled, plainAt, isLst, backs, law_no_name_s1, lend, giveBack, lenG, e1, bindT, -p_lenT]
  have e := lc_filt (C := CC (n + 2) 1) (elt := law_no_name_e2) (c := .op .notin [.rd 6, .op .ix [.rd 2, .rd 3]]) (tg := .nm 6) (ik := .range1) (ias := [.op .ix [.op .ix [.rd 1, .rd 3], .k (.int 1)]]) (s := [some (.lst ms1), some (.d (.tup G1)), some (.d (.tup S1)), some (.d (.int (i : Int))), none, none, none]) (s1 := [some (.lst ms1), some (.d (.tup G1)), some (.d (.tup S1)), some (.d (.int (i : Int))), none, none, none])
    (ds := [.int (g.2 : Int)]) (its := (ups g.2).map .int) (g := id) (p := pno (up l)) (by simp [evSs, evS, ev, evs, evb, evi, evt, szl, bindPar, bindT, bindTs, wipes, Tg.vars, varss, lend, giveBack, filled, plainAt, isLst, backs, hga, gp]) (ups_it (by omega)) (by simp [evSs, evS, ev, evs, evb, evi, evt, szl, bindPar, bindT, bindTs, wipes, Tg.vars, varss, lend, giveBack, filled, plainAt, isLst, backs]) (fun d hd => by
      obtain ⟨x, _, rfl⟩ := List.mem_map.mp hd
      have ha2 : L2.atI S1 (i : Int) = some (.tup ((up l).map .int)) := hla
      refine ⟨[some (.lst ms1), some (.d (.tup G1)), some (.d (.tup S1)), some (.d (.int (i : Int))), none, none, some (.d (.int x))], [some (.lst ms1), some (.d (.tup G1)), some (.d (.tup S1)), some (.d (.int (i : Int))), none, none, some (.d (.int x))], by simp [evSs, evS, ev, evs, evb, evi, evt, szl, bindPar, bindT, bindTs, wipes, Tg.vars, varss, lend, giveBack, filled, plainAt, isLst, backs, bindT], by simp [evSs, evS, ev, evs, evb, evi, evt, szl, bindPar, bindT, bindTs, wipes, Tg.vars, varss, lend, giveBack, filled, plainAt, isLst, backs, pno, ha2], fun _ => by simp [evSs, evS, ev, evs, evb, evi, evt, szl, bindPar, bindT, bindTs, wipes, Tg.vars, varss, lend, giveBack, filled, plainAt, isLst, backs], fun _ => ⟨.d (.int x), [some (.lst ms1), some (.d (.tup G1)), some (.d (.tup S1)), some (.d (.int (i : Int))), none, none, some (.d (.int x))], by simp [evSs, evS, ev, evs, evb, evi, evt, szl, bindPar, bindT, bindTs, wipes, Tg.vars, varss, lend, giveBack, filled, plainAt, isLst, backs, law_no_name_e2], rfl, by simp [evSs, evS, ev, evs, evb, evi, evt, szl, bindPar, bindT, bindTs, wipes, Tg.vars, varss, lend, giveBack, filled, plainAt, isLst, backs]⟩⟩)
  rw [fre_map, ← hF] at e
  have s3 : evS (CC (n + 2) 1) law_no_name_s3 [some (.lst ms1), some (.d (.tup G1)), some (.d (.tup S1)), some (.d (.int (i : Int))), none, none, none] = .nx [some (.lst ms1), some (.d (.tup G1)), some (.d (.tup S1)), some (.d (.int (i : Int))), some (own F), none, none] := by
    unfold law_no_name_s3
    rw [evS, e]
    simp [evSs, evS, ev, evs, evb, evi, evt, szl, bindPar, bindT, bindTs, wipes, Tg.vars, varss, lend, giveBack, filled, plainAt, isLst, backs, bindT, own]
  obtain ⟨Ls, hLs⟩ : ∃ Ls, Ls = [D.non, .int 0, .tup [], .tup [.int 0], .tup [.int (gs.length : Int), .int 0], .tup [.int (-1), .int 0], .tup [.int (i : Int), .int (g.2 : Int)], .tup [.int (i : Int), .int (-1)], .str "x", .dct []] := ⟨_, rfl⟩
  obtain ⟨Lt, hLt⟩ : ∃ Lt, Lt = [D.lst [.int (i : Int), .int (c0 : Int)], .tup [.int (i : Int), .non], .tup [.bl true, .int 0], .tup [.int (i : Int), .bl true], dd] := ⟨_, rfl⟩
  obtain ⟨Lu, hLu⟩ : ∃ Lu, Lu = [D.tup [.int (i : Int), .int (c0 : Int), .int 0]] := ⟨_, rfl⟩
  obtain ⟨Lv, hLv⟩ : ∃ Lv, Lv = (F.take 2).map fun d => D.tup [.int (i : Int), d] := ⟨_, rfl⟩
  have lv2 : Lv.length ≤ 2 := by rw [hLv]; simp [evSs, evS, ev, evs, evb, evi, evt, szl, bindPar, bindT, bindTs, wipes, Tg.vars, varss, lend, giveBack, filled, plainAt, isLst, backs]; omega
  have c1 : prim .add [.lst Ls, .lst Lt] = some (own (Ls ++ Lt)) := p_addL (by rw [hLs, hLt]; simp [evSs, evS, ev, evs, evb, evi, evt, szl, bindPar, bindT, bindTs, wipes, Tg.vars, varss, lend, giveBack, filled, plainAt, isLst, backs])
  have c2 : prim .add [.lst (Ls ++ Lt), .lst Lu] = some (own (Ls ++ Lt ++ Lu)) := p_addL (by rw [hLs, hLt, hLu]; simp [evSs, evS, ev, evs, evb, evi, evt, szl, bindPar, bindT, bindTs, wipes, Tg.vars, varss, lend, giveBack, filled, plainAt, isLst, backs])
  have c3 : prim .add [.lst (Ls ++ Lt ++ Lu), .lst Lv] = some (own (Ls ++ Lt ++ Lu ++ Lv)) := p_addL (by rw [hLs, hLt, hLu]; show _ ≤ 16777216; simp [evSs, evS, ev, evs, evb, evi, evt, szl, bindPar, bindT, bindTs, wipes, Tg.vars, varss, lend, giveBack, filled, plainAt, isLst, backs]; omega)
  have s4 : evS (CC (n + 2) 1) law_no_name_s4 [some (.lst ms1), some (.d (.tup G1)), some (.d (.tup S1)), some (.d (.int (i : Int))), some (own F), none, none] = .nx [some (.lst ms1), some (.d (.tup G1)), some (.d (.tup S1)), some (.d (.int (i : Int))), some (own F), some (own Ls), none] := by
    rw [hLs]
    unfold own
    simp [evSs, evS, ev, evs, evb, evi, evt, szl, bindPar, bindT, bindTs, wipes, Tg.vars, varss, lend, giveBack, filled, plainAt, isLst, backs, law_no_name_s4, lenG, -p_lenT, hga, gp, p_tupd, bindT]
  have s5' : evS (CC (n + 2) 1) law_no_name_s5 [some (.lst ms1), some (.d (.tup G1)), some (.d (.tup S1)), some (.d (.int (i : Int))), some (own F), some (own Ls), none] = .nx [some (.lst ms2), some (.d (.tup G1)), some (.d (.tup S1)), some (.d (.int (i : Int))), some (own F), some (own (Ls ++ Lt)), none] := by
    generalize own (Ls ++ Lt) = O2 at c1 ⊢
    rw [hLt] at c1
    have ha2 : L2.atI S1 (i : Int) = some (.tup ((up l).map .int)) := hla
    generalize own F = O3
    unfold own
    simp [evSs, evS, ev, evs, evb, evi, evt, szl, bindPar, bindT, bindTs, wipes, Tg.vars, varss, lend, giveBack, filled, plainAt, isLst, backs, law_no_name_s5, ha2, hl2, c1, p_tupd, bindT, lend, giveBack, ed]
  have e6 := lc_map (C := CC (n + 2) 1) (elt := law_no_name_e6) (tg := .nm 6) (ik := .seq) (ias := [.op (.sl false true) [.rd 4, .k (.int 2)]]) (s := [some (.lst ms2), some (.d (.tup G1)), some (.d (.tup S1)), some (.d (.int (i : Int))), some (own F), some (.d (.lst (Ls ++ Lt))), none]) (s1 := [some (.lst ms2), some (.d (.tup G1)), some (.d (.tup S1)), some (.d (.int (i : Int))), some (.d (.lst F)), some (.d (.lst (Ls ++ Lt))), none])
    (ds := [.lst (F.take 2)]) (its := F.take 2) (g := fun d => D.tup [.int (i : Int), d]) (by
      have pt : prim (.sl false true) [.lst F, .int 2] = some (own (F.take 2)) := p_toL F (i := 2) (by decide)
      have ft := frz_own (F.take 2)
      generalize own (F.take 2) = O4 at pt ft
      generalize Ls ++ Lt = Q
      unfold own
      simp [evSs, evS, ev, evs, evb, evi, evt, szl, bindPar, bindT, bindTs, wipes, Tg.vars, varss, lend, giveBack, filled, plainAt, isLst, backs, pt, ft]) rfl (by simp [evSs, evS, ev, evs, evb, evi, evt, szl, bindPar, bindT, bindTs, wipes, Tg.vars, varss, lend, giveBack, filled, plainAt, isLst, backs]) (fun d hd => by
      generalize Ls ++ Lt = Q
      exact ⟨[some (.lst ms2), some (.d (.tup G1)), some (.d (.tup S1)), some (.d (.int (i : Int))), some (.d (.lst F)), some (.d (.lst Q)), some (.d d)], .d (.tup [.int (i : Int), d]), [some (.lst ms2), some (.d (.tup G1)), some (.d (.tup S1)), some (.d (.int (i : Int))), some (.d (.lst F)), some (.d (.lst Q)), some (.d d)], by simp [evSs, evS, ev, evs, evb, evi, evt, szl, bindPar, bindT, bindTs, wipes, Tg.vars, varss, lend, giveBack, filled, plainAt, isLst, backs, bindT], by simp [evSs, evS, ev, evs, evb, evi, evt, szl, bindPar, bindT, bindTs, wipes, Tg.vars, varss, lend, giveBack, filled, plainAt, isLst, backs, law_no_name_e6, p_tupd], rfl, by simp [evSs, evS, ev, evs, evb, evi, evt, szl, bindPar, bindT, bindTs, wipes, Tg.vars, varss, lend, giveBack, filled, plainAt, isLst, backs]⟩)
  rw [← hLv] at e6
  have s7 : evS (CC (n + 2) 1) law_no_name_s7 [some (.lst ms2), some (.d (.tup G1)), some (.d (.tup S1)), some (.d (.int (i : Int))), some (own F), some (own (Ls ++ Lt)), none] = .nx [some (.lst ms2), some (.d (.tup G1)), some (.d (.tup S1)), some (.d (.int (i : Int))), some (.d (.lst F)), some (own (Ls ++ Lt ++ Lu ++ Lv)), none] := by
    have fv := frz_own Lv
    have f2 := frz_own (Ls ++ Lt ++ Lu)
    generalize own (Ls ++ Lt ++ Lu ++ Lv) = O2 at c3 ⊢
    generalize own (Ls ++ Lt ++ Lu) = O5 at c2 f2
    rw [hLu] at c2
    have ha2 : L2.atI S1 (i : Int) = some (.tup ((up l).map .int)) := hla
    generalize hO6 : own F = O6 at e6 ⊢
    generalize Ls ++ Lt ++ Lu = Q2 at c3 f2
    generalize Ls ++ Lt = Q at c2 e6 ⊢
    unfold law_no_name_s7
    have ee : ev (CC (n + 2) 1) (.op .add [.rd 5, .lst [.op .tupd [.rd 3, .op .ix [.op .ix [.rd 2, .rd 3], .k (.int 0)], .k (.int 0)]]]) [some (.lst ms2), some (.d (.tup G1)), some (.d (.tup S1)), some (.d (.int (i : Int))), some O6, some (own Q), none] = .ok O5 [some (.lst ms2), some (.d (.tup G1)), some (.d (.tup S1)), some (.d (.int (i : Int))), some O6, some (.d (.lst Q)), none] := by
      unfold own
      simp [evSs, evS, ev, evs, evb, evi, evt, szl, bindPar, bindT, bindTs, wipes, Tg.vars, varss, lend, giveBack, filled, plainAt, isLst, backs, ha2, hl2, c2, p_tupd]
    generalize E.op .add [.rd 5, .lst [.op .tupd [.rd 3, .op .ix [.op .ix [.rd 2, .rd 3], .k (.int 0)], .k (.int 0)]]] = X1 at ee ⊢
    generalize E.lc law_no_name_e6 (.nm 6) .seq [.op (.sl false true) [.rd 4, .k (.int 2)]] [] = X2 at e6 ⊢
    have e6' : ev (CC (n + 2) 1) X2 [some (.lst ms2), some (.d (.tup G1)), some (.d (.tup S1)), some (.d (.int (i : Int))), some O6, some (.d (.lst Q)), none] = .ok (own Lv) [some (.lst ms2), some (.d (.tup G1)), some (.d (.tup S1)), some (.d (.int (i : Int))), some (.d (.lst F)), some (.d (.lst Q)), none] := by
      rw [e6]
      simp [evSs, evS, ev, evs, evb, evi, evt, szl, bindPar, bindT, bindTs, wipes, Tg.vars, varss, lend, giveBack, filled, plainAt, isLst, backs, own]
    generalize own Lv = O7 at e6' fv
    simp [evSs, evS, ev, evs, evb, evi, evt, szl, bindPar, bindT, bindTs, wipes, Tg.vars, varss, lend, giveBack, filled, plainAt, isLst, backs, ee, e6', f2, fv, c3, bindT]
  obtain ⟨d, ms3, hm, e8, h3⟩ := some_L n (l := Ls ++ Lt ++ Lu ++ Lv) h2 (by rw [hLs]; simp [evSs, evS, ev, evs, evb, evi, evt, szl, bindPar, bindT, bindTs, wipes, Tg.vars, varss, lend, giveBack, filled, plainAt, isLst, backs]) (by rw [hLs, hLt, hLu]; simp [evSs, evS, ev, evs, evb, evi, evt, szl, bindPar, bindT, bindTs, wipes, Tg.vars, varss, lend, giveBack, filled, plainAt, isLst, backs]; omega)
  have s8 : evS (CC (n + 2) 1) law_no_name_s8 [some (.lst ms2), some (.d (.tup G1)), some (.d (.tup S1)), some (.d (.int (i : Int))), some (.d (.lst F)), some (own (Ls ++ Lt ++ Lu ++ Lv)), none] = .ret (.d d) [some (.lst ms3), some (.d (.tup G1)), some (.d (.tup S1)), some (.d (.int (i : Int))), some (.d (.lst F)), some (.d (.lst (Ls ++ Lt ++ Lu ++ Lv))), none] := by
    generalize Ls ++ Lt ++ Lu ++ Lv = Q at e8 ⊢
    unfold own
    simp [evSs, evS, ev, evs, evb, evi, evt, szl, bindPar, bindT, bindTs, wipes, Tg.vars, varss, lend, giveBack, filled, plainAt, isLst, backs, law_no_name_s8, lend, giveBack, e8]
  refine ⟨d, ms3, ?_, h3, ?_⟩
  · rw [callS_eq (g := f_law_no_name) rfl rfl]
    show finish 1 (evSs (CC (n + 2) 1) [law_no_name_s1, law_no_name_s3, law_no_name_s4, law_no_name_s5, law_no_name_s7, law_no_name_s8] [some (.lst ms), some (.d (.tup G1)), some (.d (.tup S1)), none, none, none, none]) = _
    rw [run1 s1 (run1 s3 (run1 s4 (run1 s5' (run1 s7 (runR s8))))), fin_ret1]
  · have hm : d ∈ Ls ∨ d ∈ Lt ∨ d ∈ Lu ∨ d ∈ Lv := by
      simp only [List.mem_append] at hm
      rcases hm with ((hm | hm) | hm) | hm
      · exact .inl hm
      · exact .inr (.inl hm)
      · exact .inr (.inr (.inl hm))
      · exact .inr (.inr (.inr hm))
    rcases hm with hm | hm | hm | hm
    · rw [hLs] at hm
      simp only [List.mem_cons, List.mem_nil_iff, or_false] at hm
      rcases hm with rfl | rfl | rfl | rfl | rfl | rfl | rfl | rfl | rfl | rfl
      · rfl
      · rfl
      · rfl
      · rfl
      · show (decide (0 ≤ (gs.length : Int)) && decide ((gs.length : Int) ≤ (s.length : Int) - 1) && _) = false
        have : ¬ (gs.length : Int) ≤ (s.length : Int) - 1 := by omega
        rw [decide_eq_false this]
        simp [evSs, evS, ev, evs, evb, evi, evt, szl, bindPar, bindT, bindTs, wipes, Tg.vars, varss, lend, giveBack, filled, plainAt, isLst, backs]
      · show (decide (0 ≤ (-1 : Int)) && decide ((-1 : Int) ≤ (s.length : Int) - 1) && decide ((0 : Int) ∈ up (s.getD (-1 : Int).toNat []))) = false
        rw [decide_eq_false (by decide : ¬ (0 : Int) ≤ -1)]
        simp [evSs, evS, ev, evs, evb, evi, evt, szl, bindPar, bindT, bindTs, wipes, Tg.vars, varss, lend, giveBack, filled, plainAt, isLst, backs]
      · refine nm_out hsi fun z => ?_
        obtain ⟨x, hx, e⟩ := List.mem_map.mp z
        have := ok.2.2 x hx
        omega
      · refine nm_out hsi fun z => ?_
        obtain ⟨x, hx, e⟩ := List.mem_map.mp z
        omega
      · rfl
      · rfl
    · rw [hLt] at hm
      simp only [List.mem_cons, List.mem_nil_iff, or_false] at hm
      rcases hm with rfl | rfl | rfl | rfl | rfl
      · rfl
      · rfl
      · rfl
      · rfl
      · exact hdp
    · rw [hLu] at hm
      simp only [List.mem_cons, List.mem_nil_iff, or_false] at hm
      subst hm
      rfl
    · rw [hLv] at hm
      obtain ⟨y, hy, rfl⟩ := List.mem_map.mp hm
      have hy := List.mem_of_mem_take hy
      rw [hF] at hy
      obtain ⟨x, hx, rfl⟩ := List.mem_map.mp hy
      refine nm_out hsi fun z => ?_
      have := (List.mem_filter.mp hx).2
      simp [evSs, evS, ev, evs, evb, evi, evt, szl, bindPar, bindT, bindTs, wipes, Tg.vars, varss, lend, giveBack, filled, plainAt, isLst, backs] at this
      exact this z
end K03
end PV
namespace PV
namespace K03
open PySem
def smallQ (g : G) : Prop := okS g ∧ g.2 ≤ 6
theorem smallQ_S {g : G} (h : smallQ g) : smallS g := ⟨h.1, .inl h.2⟩
theorem shape_turn (n : Nat) {ms : List M} {mo j : Nat} {gs : List G} {x2 x5 x6 x7 : Option M} (hh : HH ms) (hmo : mo ≤ 400) (hm : many gs ≤ mo) (hg : ∀ g ∈ gs, smallQ g) (hl : gs.length ≤ j) (hj : j ≤ 3) :
    ∃ (gs' : List G) (ms' : List M) (y5 y6 y7 : Option M), stepS 1 (.nm 2) (evSs (CC (n + 1) 1) law_shape_b9) (.int (j : Int)) [some (.lst ms), some (.d (.int (mo : Int))), x2, some (.d (.int ((many gs : Nat) : Int))), some (own (gs.map gp)), x5, x6, x7] =
      .nx [some (.lst ms'), some (.d (.int (mo : Int))), some (.d (.int (j : Int))), some (.d (.int ((many gs' : Nat) : Int))), some (own (gs'.map gp)), y5, y6, y7] ∧ HH ms' ∧ many gs' ≤ mo ∧ (∀ g ∈ gs', smallQ g) ∧ gs'.length ≤ j + 1 := by
  obtain ⟨r, ms1, e1, h1, r1, r2⟩ := drawH n (many := 3) hh (by decide) (lt4000 (by decide))
  obtain ⟨q, ms2, e2, h2, q1, q2⟩ := drawH n (many := 4) h1 (by decide) (lt4000 (by decide))
  obtain ⟨m, k, hm1, hm2, hk1, hk2, em, ek⟩ : ∃ m k : Nat, 1 ≤ m ∧ m ≤ 3 ∧ m ≤ k ∧ k ≤ 6 ∧ 1 + r = (m : Int) ∧ (m : Int) + q = (k : Int) := ⟨(1 + r).toNat, (1 + r + q).toNat, by omega, by omega, by omega, by omega, by omega, by omega⟩
  have hb : k ≤ 10 ^ 30 := Nat.le_trans hk2 (by decide)
  have hs : smallQ (m, k) := ⟨⟨hm1, by show m ≤ 8; omega, hk1, hb⟩, hk2⟩
  have hz : ch k m ≤ 64 := Nat.le_trans (ch_two k m) (Nat.le_trans (Nat.pow_le_pow_right (by decide) hk2) (by decide))
  have hc := combosG n (smallQ_S hs) (by show ch k m ≤ 4096; omega)
  have hlen : ((asc k 0 m).map lotD).length = ch k m := by rw [List.length_map]; exact asc_len m k 0 k (by omega)
  have hc : evCall T (n + 1) "_law_combos" [.d (.int (k : Int)), .d (.int (m : Int))] = .ok (own ((asc k 0 m).map lotD)) [] := hc
  have m1 := p_mulW (i := many gs) (j := ch k m) (N := 10) (M := 6) (by omega) (by omega) (by decide)
  have s2 : evS (CC (n + 1) 1) law_shape_s2 [some (.lst ms), some (.d (.int (mo : Int))), some (.d (.int (j : Int))), some (.d (.int ((many gs : Nat) : Int))), some (own (gs.map gp)), x5, x6, x7] = .nx [some (.lst ms1), some (.d (.int (mo : Int))), some (.d (.int (j : Int))), some (.d (.int ((many gs : Nat) : Int))), some (own (gs.map gp)), some (.d (.int (m : Int))), x6, x7] := by
    generalize own (gs.map gp) = L1
    simp [evSs, evS, ev, evs, evb, evi, evt, szl, bindPar, bindT, bindTs, wipes, Tg.vars, varss, lend, giveBack, filled, plainAt, isLst, backs, law_shape_s2, lend, giveBack, e1, em]
  have s3 : evS (CC (n + 1) 1) law_shape_s3 [some (.lst ms1), some (.d (.int (mo : Int))), some (.d (.int (j : Int))), some (.d (.int ((many gs : Nat) : Int))), some (own (gs.map gp)), some (.d (.int (m : Int))), x6, x7] = .nx [some (.lst ms2), some (.d (.int (mo : Int))), some (.d (.int (j : Int))), some (.d (.int ((many gs : Nat) : Int))), some (own (gs.map gp)), some (.d (.int (m : Int))), some (.d (.int (k : Int))), x7] := by
    generalize own (gs.map gp) = L1
    simp [evSs, evS, ev, evs, evb, evi, evt, szl, bindPar, bindT, bindTs, wipes, Tg.vars, varss, lend, giveBack, filled, plainAt, isLst, backs, law_shape_s3, lend, giveBack, e2, ek]
  have s4 : evS (CC (n + 1) 1) law_shape_s4 [some (.lst ms2), some (.d (.int (mo : Int))), some (.d (.int (j : Int))), some (.d (.int ((many gs : Nat) : Int))), some (own (gs.map gp)), some (.d (.int (m : Int))), some (.d (.int (k : Int))), x7] = .nx [some (.lst ms2), some (.d (.int (mo : Int))), some (.d (.int (j : Int))), some (.d (.int ((many gs : Nat) : Int))), some (own (gs.map gp)), some (.d (.int (m : Int))), some (.d (.int (k : Int))), some (.d (.int ((ch k m : Nat) : Int)))] := by
    generalize own (gs.map gp) = L1
    generalize (asc k 0 m).map lotD = L2 at hc hlen
    simp [evSs, evS, ev, evs, evb, evi, evt, szl, bindPar, bindT, bindTs, wipes, Tg.vars, varss, lend, giveBack, filled, plainAt, isLst, backs, law_shape_s4, lend, giveBack, hc, hlen]
  have start : ∀ o, evSs (CC (n + 1) 1) [law_shape_s8] [some (.lst ms2), some (.d (.int (mo : Int))), some (.d (.int (j : Int))), some (.d (.int ((many gs : Nat) : Int))), some (own (gs.map gp)), some (.d (.int (m : Int))), some (.d (.int (k : Int))), some (.d (.int ((ch k m : Nat) : Int)))] = o →
      stepS 1 (.nm 2) (evSs (CC (n + 1) 1) law_shape_b9) (.int (j : Int)) [some (.lst ms), some (.d (.int (mo : Int))), x2, some (.d (.int ((many gs : Nat) : Int))), some (own (gs.map gp)), x5, x6, x7] = o := by
    intro o ho
    show (match bindT 1 (.nm 2) (.d (.int (j : Int))) [some (.lst ms), some (.d (.int (mo : Int))), x2, some (.d (.int ((many gs : Nat) : Int))), some (own (gs.map gp)), x5, x6, x7] with | some s => evSs (CC (n + 1) 1) [law_shape_s2, law_shape_s3, law_shape_s4, law_shape_s8] s | none => .bad) = _
    rw [show bindT 1 (.nm 2) (.d (.int (j : Int))) [some (.lst ms), some (.d (.int (mo : Int))), x2, some (.d (.int ((many gs : Nat) : Int))), some (own (gs.map gp)), x5, x6, x7] = some [some (.lst ms), some (.d (.int (mo : Int))), some (.d (.int (j : Int))), some (.d (.int ((many gs : Nat) : Int))), some (own (gs.map gp)), x5, x6, x7] from by simp [evSs, evS, ev, evs, evb, evi, evt, szl, bindPar, bindT, bindTs, wipes, Tg.vars, varss, lend, giveBack, filled, plainAt, isLst, backs, bindT]]
    show evSs (CC (n + 1) 1) [law_shape_s2, law_shape_s3, law_shape_s4, law_shape_s8] _ = _
    exact run1 s2 (run1 s3 (run1 s4 ho))
  by_cases hle : many gs * ch k m ≤ mo
  · have e4 : many (gs ++ [(m, k)]) = many gs * ch k m := by rw [many_app]; simp [evSs, evS, ev, evs, evb, evi, evt, szl, bindPar, bindT, bindTs, wipes, Tg.vars, varss, lend, giveBack, filled, plainAt, isLst, backs, many]
    have hle2 : ((many gs * ch k m : Nat) : Int) ≤ (mo : Int) := by omega
    have hgl : (gs.map gp).length < 16777216 := by rw [List.length_map]; omega
    have s8 : evS (CC (n + 1) 1) law_shape_s8 [some (.lst ms2), some (.d (.int (mo : Int))), some (.d (.int (j : Int))), some (.d (.int ((many gs : Nat) : Int))), some (own (gs.map gp)), some (.d (.int (m : Int))), some (.d (.int (k : Int))), some (.d (.int ((ch k m : Nat) : Int)))] = .nx [some (.lst ms2), some (.d (.int (mo : Int))), some (.d (.int (j : Int))), some (.d (.int ((many gs * ch k m : Nat) : Int))), some (own (gs.map gp ++ [D.tup [.int (m : Int), .int (k : Int)]])), some (.d (.int (m : Int))), some (.d (.int (k : Int))), some (.d (.int ((ch k m : Nat) : Int)))] := by
      have et : evt (CC (n + 1) 1) (.op .le [.op .mul [.rd 3, .rd 7], .rd 1]) [some (.lst ms2), some (.d (.int (mo : Int))), some (.d (.int (j : Int))), some (.d (.int ((many gs : Nat) : Int))), some (own (gs.map gp)), some (.d (.int (m : Int))), some (.d (.int (k : Int))), some (.d (.int ((ch k m : Nat) : Int)))] = .ok true [some (.lst ms2), some (.d (.int (mo : Int))), some (.d (.int (j : Int))), some (.d (.int ((many gs : Nat) : Int))), some (own (gs.map gp)), some (.d (.int (m : Int))), some (.d (.int (k : Int))), some (.d (.int ((ch k m : Nat) : Int)))] := by
        generalize own (gs.map gp) = L1
        simp [evSs, evS, ev, evs, evb, evi, evt, szl, bindPar, bindT, bindTs, wipes, Tg.vars, varss, lend, giveBack, filled, plainAt, isLst, backs, m1, hle2, -Int.natCast_mul]
      have s5 : evS (CC (n + 1) 1) law_shape_s5 [some (.lst ms2), some (.d (.int (mo : Int))), some (.d (.int (j : Int))), some (.d (.int ((many gs : Nat) : Int))), some (own (gs.map gp)), some (.d (.int (m : Int))), some (.d (.int (k : Int))), some (.d (.int ((ch k m : Nat) : Int)))] = .nx [some (.lst ms2), some (.d (.int (mo : Int))), some (.d (.int (j : Int))), some (.d (.int ((many gs : Nat) : Int))), some (own (gs.map gp ++ [D.tup [.int (m : Int), .int (k : Int)]])), some (.d (.int (m : Int))), some (.d (.int (k : Int))), some (.d (.int ((ch k m : Nat) : Int)))] := by
        generalize gs.map gp = L1 at hgl ⊢
        unfold own
        simp [evSs, evS, ev, evs, evb, evi, evt, szl, bindPar, bindT, bindTs, wipes, Tg.vars, varss, lend, giveBack, filled, plainAt, isLst, backs, law_shape_s5, isLst, p_tupd, hgl]
      have s6 : evS (CC (n + 1) 1) law_shape_s6 [some (.lst ms2), some (.d (.int (mo : Int))), some (.d (.int (j : Int))), some (.d (.int ((many gs : Nat) : Int))), some (own (gs.map gp ++ [D.tup [.int (m : Int), .int (k : Int)]])), some (.d (.int (m : Int))), some (.d (.int (k : Int))), some (.d (.int ((ch k m : Nat) : Int)))] = .nx [some (.lst ms2), some (.d (.int (mo : Int))), some (.d (.int (j : Int))), some (.d (.int ((many gs * ch k m : Nat) : Int))), some (own (gs.map gp ++ [D.tup [.int (m : Int), .int (k : Int)]])), some (.d (.int (m : Int))), some (.d (.int (k : Int))), some (.d (.int ((ch k m : Nat) : Int)))] := by
        generalize own (gs.map gp ++ [D.tup [.int (m : Int), .int (k : Int)]]) = L1
        simp [evSs, evS, ev, evs, evb, evi, evt, szl, bindPar, bindT, bindTs, wipes, Tg.vars, varss, lend, giveBack, filled, plainAt, isLst, backs, law_shape_s6, m1, -Int.natCast_mul]
      unfold law_shape_s8
      rw [evS, et]
      show evSs (CC (n + 1) 1) [law_shape_s5, law_shape_s6] _ = _
      exact run1 s5 (run1 s6 run0)
    refine ⟨gs ++ [(m, k)], ms2, some (.d (.int (m : Int))), some (.d (.int (k : Int))), some (.d (.int ((ch k m : Nat) : Int))), start _ ?_, h2, by omega, fun g hx => ?_, by simp [evSs, evS, ev, evs, evb, evi, evt, szl, bindPar, bindT, bindTs, wipes, Tg.vars, varss, lend, giveBack, filled, plainAt, isLst, backs]; omega⟩
    · rw [run1 s8 run0, e4, List.map_append]
      rfl
    · rcases List.mem_append.mp hx with hx | hx
      · exact hg g hx
      · simp [evSs, evS, ev, evs, evb, evi, evt, szl, bindPar, bindT, bindTs, wipes, Tg.vars, varss, lend, giveBack, filled, plainAt, isLst, backs] at hx
        subst hx
        exact hs
  · have hle2 : ¬ ((many gs * ch k m : Nat) : Int) ≤ (mo : Int) := by omega
    refine ⟨gs, ms2, some (.d (.int (m : Int))), some (.d (.int (k : Int))), some (.d (.int ((ch k m : Nat) : Int))), start _ ?_, h2, hm, hg, by omega⟩
    generalize own (gs.map gp) = L1
    simp [evSs, evS, ev, evs, evb, evi, evt, szl, bindPar, bindT, bindTs, wipes, Tg.vars, varss, lend, giveBack, filled, plainAt, isLst, backs, law_shape_s8, m1, hle2, -Int.natCast_mul]
theorem law_shape (n : Nat) {ms : List M} {mo : Nat} (hh : HH ms) (h1 : 2 ≤ mo) (hmo : mo ≤ 400) : ∃ (gs : List G) (ms' : List M), evCall T (n + 2) "_law_shape" [.lst ms, .d (.int (mo : Int))] = .ok (.d (.tup (gs.map gp))) [.lst ms'] ∧ HH ms' ∧ (∀ g ∈ gs, smallQ g) ∧ gs ≠ [] ∧ gs.length ≤ 8 ∧ many gs ≤ 4096 := by
  rw [callS_eq (g := f_law_shape) rfl rfl]
  obtain ⟨r, ms1, e0, hh1, r1, r2⟩ := drawH n (many := 3) hh (by decide) (lt4000 (by decide))
  obtain ⟨t, ht, et⟩ : ∃ t : Nat, t ≤ 3 ∧ 1 + r = (t : Int) := ⟨(1 + r).toNat, by omega, by omega⟩
  have e1 : evS (CC (n + 1) 1) law_shape_s1 [some (.lst ms), some (.d (.int (mo : Int))), none, none, none, none, none, none] = .nx [some (.lst ms), some (.d (.int (mo : Int))), none, some (.d (.int 1)), some (own []), none, none, none] := by
    simp [evSs, evS, ev, evs, evb, evi, evt, szl, bindPar, bindT, bindTs, wipes, Tg.vars, varss, lend, giveBack, filled, plainAt, isLst, backs, law_shape_s1, own, bindT]
  have e2 : evS (CC (n + 1) 1) law_shape_s10 [some (.lst ms), some (.d (.int (mo : Int))), none, some (.d (.int 1)), some (own []), none, none, none] = loopS (stepS 1 (.nm 2) (evSs (CC (n + 1) 1) law_shape_b9)) ((List.range t).map fun j : Nat => D.int (j : Int)) [some (.lst ms1), some (.d (.int (mo : Int))), none, some (.d (.int 1)), some (own []), none, none, none] := by
    rw [← rgN]
    refine forr_eq (ds := [.int (t : Int)]) ?_ (it_r1 (by omega) (by omega))
    generalize own [] = L1
    simp [evSs, evS, ev, evs, evb, evi, evt, szl, bindPar, bindT, bindTs, wipes, Tg.vars, varss, lend, giveBack, filled, plainAt, isLst, backs, lend, giveBack, e0, et]
  obtain ⟨s', e3, gs, ms2, x2, x5, x6, x7, rfl, h2, hm, hg, hl⟩ := loop_rg0 (f := stepS 1 (.nm 2) (evSs (CC (n + 1) 1) law_shape_b9)) (P := fun j s => ∃ (gs : List G) (ms : List M) (x2 x5 x6 x7 : Option M), s = [some (.lst ms), some (.d (.int (mo : Int))), x2, some (.d (.int ((many gs : Nat) : Int))), some (own (gs.map gp)), x5, x6, x7] ∧ HH ms ∧ many gs ≤ mo ∧ (∀ g ∈ gs, smallQ g) ∧ gs.length ≤ j) (n := t) (s := [some (.lst ms1), some (.d (.int (mo : Int))), none, some (.d (.int 1)), some (own []), none, none, none]) ⟨[], ms1, none, none, none, none, rfl, hh1, by show 1 ≤ mo; omega, fun _ z => (nomatch z), Nat.le_refl _⟩ (fun j s hj hp => by
    obtain ⟨gs, ms, x2, x5, x6, x7, rfl, hh, hm, hg, hl⟩ := hp
    obtain ⟨gs', ms', y5, y6, y7, e, q1, q2, q3, q4⟩ := shape_turn n (j := j) (x2 := x2) (x5 := x5) (x6 := x6) (x7 := x7) hh hmo hm hg hl (by omega)
    exact ⟨_, e, gs', ms', _, y5, y6, y7, rfl, q1, q2, q3, q4⟩)
  cases gs with
  | nil =>
    refine ⟨[(1, 2)], ms2, ?_, h2, fun g hx => ?_, by simp [evSs, evS, ev, evs, evb, evi, evt, szl, bindPar, bindT, bindTs, wipes, Tg.vars, varss, lend, giveBack, filled, plainAt, isLst, backs], by simp [evSs, evS, ev, evs, evb, evi, evt, szl, bindPar, bindT, bindTs, wipes, Tg.vars, varss, lend, giveBack, filled, plainAt, isLst, backs], by decide⟩
    · have e4 : evS (CC (n + 1) 1) law_shape_s11 [some (.lst ms2), some (.d (.int (mo : Int))), x2, some (.d (.int ((many [] : Nat) : Int))), some (own (([] : List G).map gp)), x5, x6, x7] = .ret (.d (.tup ([((1, 2) : G)].map gp))) [some (.lst ms2), some (.d (.int (mo : Int))), x2, some (.d (.int ((many [] : Nat) : Int))), some (own (([] : List G).map gp)), x5, x6, x7] := by
        simp [evSs, evS, ev, evs, evb, evi, evt, szl, bindPar, bindT, bindTs, wipes, Tg.vars, varss, lend, giveBack, filled, plainAt, isLst, backs, law_shape_s11, own, p_tupd, gp]
      show finish 1 (evSs (CC (n + 1) 1) [law_shape_s1, law_shape_s10, law_shape_s11] [some (.lst ms), some (.d (.int (mo : Int))), none, none, none, none, none, none]) = _
      rw [run1 e1 (run1 (e2.trans e3) (runR e4)), fin_ret1]
    · simp [evSs, evS, ev, evs, evb, evi, evt, szl, bindPar, bindT, bindTs, wipes, Tg.vars, varss, lend, giveBack, filled, plainAt, isLst, backs] at hx
      subst hx
      exact ⟨⟨by decide, by decide, by decide, by decide⟩, by decide⟩
  | cons g0 gs =>
    refine ⟨g0 :: gs, ms2, ?_, h2, hg, by simp [evSs, evS, ev, evs, evb, evi, evt, szl, bindPar, bindT, bindTs, wipes, Tg.vars, varss, lend, giveBack, filled, plainAt, isLst, backs], by omega, by omega⟩
    have hpos : 0 < ((g0 :: gs).map gp).length := by simp [evSs, evS, ev, evs, evb, evi, evt, szl, bindPar, bindT, bindTs, wipes, Tg.vars, varss, lend, giveBack, filled, plainAt, isLst, backs]
    have e4 : evS (CC (n + 1) 1) law_shape_s11 [some (.lst ms2), some (.d (.int (mo : Int))), x2, some (.d (.int ((many (g0 :: gs) : Nat) : Int))), some (own ((g0 :: gs).map gp)), x5, x6, x7] = .ret (.d (.tup ((g0 :: gs).map gp))) [some (.lst ms2), some (.d (.int (mo : Int))), x2, some (.d (.int ((many (g0 :: gs) : Nat) : Int))), some (.d (.lst ((g0 :: gs).map gp))), x5, x6, x7] := by
      generalize (g0 :: gs).map gp = L1 at hpos ⊢
      simp [evSs, evS, ev, evs, evb, evi, evt, szl, bindPar, bindT, bindTs, wipes, Tg.vars, varss, lend, giveBack, filled, plainAt, isLst, backs, law_shape_s11, own, hpos]
    show finish 1 (evSs (CC (n + 1) 1) [law_shape_s1, law_shape_s10, law_shape_s11] [some (.lst ms), some (.d (.int (mo : Int))), none, none, none, none, none, none]) = _
    rw [run1 e1 (run1 (e2.trans e3) (runR e4)), fin_ret1]
end K03
end PV
namespace PV
namespace K03
open PySem
theorem eqD_of {x y : D} {a b : PyData} {r : Bool} (h1 : toP x = some a) (h2 : toP y = some b) (s1 : SeqAt.shaped a = true) (s2 : SeqAt.shaped b = true) (e : PyData.eqv a b = r) : eqD x y = some r := by
  unfold eqD
  rw [h1, h2]
  show (if SeqAt.shaped a = true ∧ SeqAt.shaped b = true then some (PyData.eqv a b) else none) = _
  rw [if_pos ⟨s1, s2⟩, e]
theorem p_neD {x y : D} {r : Bool} (h : eqD x y = some r) : prim .ne [x, y] = some (.d (.bl (!r))) := by
  show (eqD x y).map (fun b => M.d (.bl (b != true))) = _
  rw [h]; cases r <;> rfl
theorem p_eqD {x y : D} {r : Bool} (h : eqD x y = some r) : prim .eq [x, y] = some (.d (.bl r)) := by
  show (eqD x y).map (fun b => M.d (.bl (b != false))) = _
  rw [h]; cases r <;> rfl
abbrev dMany : D := .tup [.str "many", .int 4096]
abbrev dName : D := .tup [.str "name"]
abbrev dStd : D := .tup [.str "standing"]
theorem eq_many : eqD dMany dMany = some true := eqD_of (a := .tuple [.str "many", .int 4096]) rfl rfl (by decide +kernel) (by decide +kernel) (by decide +kernel)
theorem eq_name : eqD dName dName = some true := eqD_of (a := .tuple [.str "name"]) rfl rfl (by decide +kernel) (by decide +kernel) (by decide +kernel)
theorem eq_std : eqD dStd dStd = some true := eqD_of (a := .tuple [.str "standing"]) rfl rfl (by decide +kernel) (by decide +kernel) (by decide +kernel)
theorem eq_told : eqD (.str "told") (.str "told") = some true := eqD_of (a := .str "told") rfl rfl (by decide +kernel) (by decide +kernel) (by decide +kernel)
theorem pow1030 : prim .pow [.int 10, .int 30] = some (.d (.int (10 ^ 30))) := p_pow (by decide)
theorem trange_sD (m : Nat) (h : m ≤ 1000) : prim .trange [.int (m : Int)] = some (.d (lotD (List.range m))) := by
  show pTrange [.int (m : Int)] = _
  have q : pTrange [.int (m : Int)] = some (.d (.tup ((List.range (m : Int).toNat).map fun (i : Nat) => D.int (0 + (i : Int))))) := if_pos ⟨by omega, by omega⟩
  rw [q, rgN]
  rfl
theorem great (n : Nat) {ms : List M} (hh : HH ms) : ∃ ms', evCall T (n + 8) "_law_are_great_right" [.lst ms] = .ok (.d (.bl true)) [.lst ms'] ∧ HH ms' := by
  obtain ⟨r, ms1, e1, h1, r1, r2⟩ := drawH (n + 6) (many := 3) hh (by decide) (lt4000 (by decide))
  obtain ⟨m, m1, m2, em⟩ : ∃ m : Nat, 1 ≤ m ∧ m ≤ 3 ∧ 1 + r = (m : Int) := ⟨(1 + r).toNat, by omega, by omega, by omega⟩
  obtain ⟨q, ms2, e2, h2, q1, q2⟩ := drawH (n + 6) (many := (m : Int)) h1 (by omega) (lt4000 (by omega))
  obtain ⟨c, hc, rfl⟩ : ∃ c : Nat, c < m ∧ q = (c : Int) := ⟨q.toNat, by omega, by omega⟩
  obtain ⟨gA, hgA⟩ : ∃ gA : List G, gA = [(1, 2), (m, 4095 + m)] := ⟨_, rfl⟩
  obtain ⟨gB, hgB⟩ : ∃ gB : List G, gB = [(1, 2), (m, 4096 + m)] := ⟨_, rfl⟩
  have nA : ∀ g ∈ gA, g.1 ≤ 1000 := fun g hg => by
    rw [hgA] at hg; simp [evSs, evS, ev, evs, evb, evi, evt, szl, bindPar, bindT, bindTs, wipes, Tg.vars, varss, lend, giveBack, filled, plainAt, isLst, backs] at hg; rcases hg with rfl | rfl
    · decide
    · show m ≤ 1000; omega
  have nB : ∀ g ∈ gB, g.1 ≤ 1000 := fun g hg => by
    rw [hgB] at hg; simp [evSs, evS, ev, evs, evb, evi, evt, szl, bindPar, bindT, bindTs, wipes, Tg.vars, varss, lend, giveBack, filled, plainAt, isLst, backs] at hg; rcases hg with rfl | rfl
    · decide
    · show m ≤ 1000; omega
  have k0 : okL (1, 2) [0] := ⟨rfl, by simp [evSs, evS, ev, evs, evb, evi, evt, szl, bindPar, bindT, bindTs, wipes, Tg.vars, varss, lend, giveBack, filled, plainAt, isLst, backs], fun x hx => by simp [evSs, evS, ev, evs, evb, evi, evt, szl, bindPar, bindT, bindTs, wipes, Tg.vars, varss, lend, giveBack, filled, plainAt, isLst, backs] at hx; subst hx; decide⟩
  have kr : ∀ K : Nat, okL (m, K + m) (List.range m) := fun K => ⟨List.length_range, List.pairwise_lt_range, fun x hx => by have := List.mem_range.mp hx; show x < K + m; omega⟩
  have okA : okSt gA [[0], List.range m] := by rw [hgA]; exact ⟨k0, kr 4095, trivial⟩
  have okB : okSt gB [[0], List.range m] := by rw [hgB]; exact ⟨k0, kr 4096, trivial⟩
  have t1 := told_due n nA (by rw [hgA]; show 2 ≤ 1000; decide) (i := 1) (c := c) (g := (m, 4095 + m)) (l := List.range m) okA (by rw [hgA]; rfl) rfl (List.mem_range.mpr hc) (by show ((4095 + m : Nat) : Int) - (m : Int) + 1 ≤ 4096; omega)
  obtain ⟨R, t1, d1, ok1, _⟩ := t1
  have is1 := law_is 4 (n + 2) ok1
  have t2 := told_many n nB (i := 1) (c := c) (g := (m, 4096 + m)) (l := List.range m) okB (by rw [hgB]; rfl) rfl (List.mem_range.mpr hc) (by show 4096 < ((4096 + m : Nat) : Int) - (m : Int) + 1; omega)
  have t3 := told_due n nB (by rw [hgB]; show 2 ≤ 1000; decide) (i := 0) (c := 0) (g := (1, 2)) (l := [0]) okB (by rw [hgB]; rfl) rfl (by simp [evSs, evS, ev, evs, evb, evi, evt, szl, bindPar, bindT, bindTs, wipes, Tg.vars, varss, lend, giveBack, filled, plainAt, isLst, backs]) (by decide)
  obtain ⟨R3, t3, _, _, _⟩ := t3
  have nmf : nmB [[0], List.range m] (nD 1 ((m : Int) + 5)) = false := nm_out (i := 1) (l := List.range m) rfl fun z => by
    obtain ⟨x, hx, e⟩ := List.mem_map.mp z
    have := List.mem_range.mp hx
    omega
  have t4 := told_name n nB okB nmf
  have t5 := told_std n nB (x := .non) (nm := .non) rfl
  have t6 := told_many n (gs := [(2, 10 ^ 30)]) (s := [[0, 10 ^ 30 - 1]]) (fun g hg => by simp only [List.mem_cons, List.mem_nil_iff, or_false] at hg; subst hg; show 2 ≤ 1000; decide) (i := 0) (c := 10 ^ 30 - 1) (g := (2, 10 ^ 30)) (l := [0, 10 ^ 30 - 1])
    ⟨⟨rfl, by simp only [List.pairwise_cons, List.mem_cons, List.mem_nil_iff, or_false]; exact ⟨fun x hx => by subst hx; decide, ⟨fun _ z => z.elim, List.Pairwise.nil⟩⟩, fun x hx => by simp only [List.mem_cons, List.mem_nil_iff, or_false] at hx; rcases hx with rfl | rfl <;> decide⟩, trivial⟩ rfl rfl (List.mem_cons_of_mem _ List.mem_cons_self) (by decide +kernel)
  have g6 : D.tup (([(2, 10 ^ 30)] : List G).map gp) = .tup [.tup [.int 2, .int (10 ^ 30)]] := rfl
  have sd6 : sD [[0, 10 ^ 30 - 1]] = .tup [.tup [.int 0, .int (10 ^ 30 - 1)]] := rfl
  have nd6 : nD 0 (((10 ^ 30 - 1 : Nat)) : Int) = .tup [.int 0, .int (10 ^ 30 - 1)] := rfl
  rw [g6, sd6, nd6] at t6
  have gAe : D.tup (gA.map gp) = .tup [.tup [.int 1, .int 2], .tup [.int (m : Int), .int (4095 + (m : Int))]] := by rw [hgA]; simp [evSs, evS, ev, evs, evb, evi, evt, szl, bindPar, bindT, bindTs, wipes, Tg.vars, varss, lend, giveBack, filled, plainAt, isLst, backs, gp]
  have gBe : D.tup (gB.map gp) = .tup [.tup [.int 1, .int 2], .tup [.int (m : Int), .int (4096 + (m : Int))]] := by rw [hgB]; simp [evSs, evS, ev, evs, evb, evi, evt, szl, bindPar, bindT, bindTs, wipes, Tg.vars, varss, lend, giveBack, filled, plainAt, isLst, backs, gp]
  have sde : sD [[0], List.range m] = .tup [.tup [.int 0], lotD (List.range m)] := rfl
  have ptr := trange_sD m (by omega)
  have s1 : evS (CC (n + 7) 1) law_are_great_right_s1 [some (.lst ms), none, none, none, none, none] = .nx [some (.lst ms1), some (.d (.int (m : Int))), none, none, none, none] := by
    simp [evSs, evS, ev, evs, evb, evi, evt, szl, bindPar, bindT, bindTs, wipes, Tg.vars, varss, lend, giveBack, filled, plainAt, isLst, backs, law_are_great_right_s1, lend, giveBack, e1, em, bindT]
  have s2 : evS (CC (n + 7) 1) law_are_great_right_s2 [some (.lst ms1), some (.d (.int (m : Int))), none, none, none, none] = .nx [some (.lst ms1), some (.d (.int (m : Int))), some (.d (.tup (gA.map gp))), none, none, none] := by
    rw [gAe]
    simp [evSs, evS, ev, evs, evb, evi, evt, szl, bindPar, bindT, bindTs, wipes, Tg.vars, varss, lend, giveBack, filled, plainAt, isLst, backs, law_are_great_right_s2, p_tupd, bindT]
  have s3 : evS (CC (n + 7) 1) law_are_great_right_s3 [some (.lst ms1), some (.d (.int (m : Int))), some (.d (.tup (gA.map gp))), none, none, none] = .nx [some (.lst ms1), some (.d (.int (m : Int))), some (.d (.tup (gA.map gp))), none, some (.d (sD [[0], List.range m])), some (.d (.tup (gB.map gp)))] := by
    rw [gBe, sde]
    generalize D.tup (gA.map gp) = G1
    generalize lotD (List.range m) = Q at ptr ⊢
    simp [evSs, evS, ev, evs, evb, evi, evt, szl, bindPar, bindT, bindTs, wipes, Tg.vars, varss, lend, giveBack, filled, plainAt, isLst, backs, law_are_great_right_s3, p_tupd, bindT, ptr]
  generalize D.tup (gA.map gp) = G1 at t1 d1 s2 s3
  generalize D.tup (gB.map gp) = G2 at t2 t3 t4 t5 s3
  generalize sD [[0], List.range m] = S1 at t1 d1 t2 t3 t4 s3
  have s4 : evS (CC (n + 7) 1) law_are_great_right_s4 [some (.lst ms1), some (.d (.int (m : Int))), some (.d G1), none, some (.d S1), some (.d G2)] = .nx [some (.lst ms2), some (.d (.int (m : Int))), some (.d G1), some (.d (nD 1 c)), some (.d S1), some (.d G2)] := by
    simp [evSs, evS, ev, evs, evb, evi, evt, szl, bindPar, bindT, bindTs, wipes, Tg.vars, varss, lend, giveBack, filled, plainAt, isLst, backs, law_are_great_right_s4, lend, giveBack, e2, p_tupd, bindT]
  have f1 : frz (.tup [.d (.str "told"), own R]) = .tup [.str "told", .lst R] := by
    rw [frz_tup, frzs_cons, frzs_cons, frz_own]; rfl
  have f3 : frz (.tup [.d (.str "told"), own R3]) = .tup [.str "told", .lst R3] := by
    rw [frz_tup, frzs_cons, frzs_cons, frz_own]; rfl
  generalize M.tup [.d (.str "told"), own R] = M1 at t1 f1
  generalize M.tup [.d (.str "told"), own R3] = M3 at t3 f3
  generalize D.tup [.str "told", .lst R] = D1 at d1 is1 f1
  have nd : nD 1 (c : Int) = .tup [.int 1, .int (c : Int)] := rfl
  have s7 : evS (CC (n + 7) 1) law_are_great_right_s7 [some (.lst ms2), some (.d (.int (m : Int))), some (.d G1), some (.d (nD 1 c)), some (.d S1), some (.d G2)] = .nx [some (.lst ms2), some (.d (.int (m : Int))), some (.d G1), some (.d (nD 1 c)), some (.d S1), some (.d G2)] := by
    generalize nD 1 (c : Int) = N1 at t1 d1 ⊢
    simp [evSs, evS, ev, evs, evb, evi, evt, szl, bindPar, bindT, bindTs, wipes, Tg.vars, varss, lend, giveBack, filled, plainAt, isLst, backs, law_are_great_right_s7, lend, giveBack, t1, d1, f1, is1]
  have pm := p_neD eq_many
  have pt := p_neD eq_told
  have pn := p_neD eq_name
  have ps := p_neD eq_std
  have pe := p_eqD eq_many
  have s10 : evS (CC (n + 7) 1) law_are_great_right_s10 [some (.lst ms2), some (.d (.int (m : Int))), some (.d G1), some (.d (nD 1 c)), some (.d S1), some (.d G2)] = .nx [some (.lst ms2), some (.d (.int (m : Int))), some (.d G1), some (.d (nD 1 c)), some (.d S1), some (.d G2)] := by
    generalize nD 1 (c : Int) = N1 at t2 ⊢
    have t3' : evCall T (n + 7) "_law_told" [.d G2, .d S1, .d (.tup [.int 0, .int 0])] = .ok M3 [] := t3
    simp [evSs, evS, ev, evs, evb, evi, evt, szl, bindPar, bindT, bindTs, wipes, Tg.vars, varss, lend, giveBack, filled, plainAt, isLst, backs, law_are_great_right_s10, lend, giveBack, t2, t3', f3, pm, pt, p_tupd]
  have s13 : evS (CC (n + 7) 1) law_are_great_right_s13 [some (.lst ms2), some (.d (.int (m : Int))), some (.d G1), some (.d (nD 1 c)), some (.d S1), some (.d G2)] = .nx [some (.lst ms2), some (.d (.int (m : Int))), some (.d G1), some (.d (nD 1 c)), some (.d S1), some (.d G2)] := by
    generalize nD 1 (c : Int) = N1
    have t4' : evCall T (n + 7) "_law_told" [.d G2, .d S1, .d (.tup [.int 1, .int ((m : Int) + 5)])] = .ok (.d dName) [] := t4
    simp [evSs, evS, ev, evs, evb, evi, evt, szl, bindPar, bindT, bindTs, wipes, Tg.vars, varss, lend, giveBack, filled, plainAt, isLst, backs, law_are_great_right_s13, lend, giveBack, t4', t5, pn, ps, p_tupd]
  have s14 : evS (CC (n + 7) 1) law_are_great_right_s14 [some (.lst ms2), some (.d (.int (m : Int))), some (.d G1), some (.d (nD 1 c)), some (.d S1), some (.d G2)] = .ret (.d (.bl true)) [some (.lst ms2), some (.d (.int (m : Int))), some (.d G1), some (.d (nD 1 c)), some (.d S1), some (.d G2)] := by
    generalize nD 1 (c : Int) = N1
    simp [evSs, evS, ev, evs, evb, evi, evt, szl, bindPar, bindT, bindTs, wipes, Tg.vars, varss, lend, giveBack, filled, plainAt, isLst, backs, law_are_great_right_s14, lend, giveBack, t6, pe, p_tupd, pow1030, -Int.reducePow, -Int.reduceSub]
  refine ⟨ms2, ?_, h2⟩
  rw [callS_eq (g := f_law_are_great_right) rfl rfl]
  show finish 1 (evSs (CC (n + 7) 1) [law_are_great_right_s1, law_are_great_right_s2, law_are_great_right_s3, law_are_great_right_s4, law_are_great_right_s7, law_are_great_right_s10, law_are_great_right_s13, law_are_great_right_s14] [some (.lst ms), none, none, none, none, none]) = _
  rw [run1 s1 (run1 s2 (run1 s3 (run1 s4 (run1 s7 (run1 s10 (run1 s13 (runR s14))))))), fin_ret1]
end K03
end PV
namespace PV
namespace K03
open PySem
abbrev s9 (sc : D) (h : List M) (t : Option M) (G S : Option M) (nm w : Option M) : Sl := [some (.d sc), some (.lst h), t, none, G, S, nm, w, none]
theorem appx_eq {C : Cc} {i : Nat} {s : Sl} {a : M} {l : List M} (h : s[i]? = some (some (.tup [a, .lst l]))) (hl : l.length < szl) : evS C (.appx i 1 (.k .non)) s = .nx (s.set i none) := by
  rw [evS, if_pos (by unfold isTupL; rw [h]; rfl), ev]
  show (match s[i]? with
    | some (some (.tup ms)) => (match ms[1]? with
      | some (M.lst l) => if l.length < szl then O.nx (s.set i none) else O.bad
      | _ => O.bad)
    | _ => O.bad) = _
  rw [h]
  show (if l.length < szl then O.nx (s.set i none) else O.bad) = _
  exact if_pos hl
theorem name_turn (n : Nat) {sc : D} {hm : List M} {t x6 x7 : Option M} {gs : List G} {s : List (List Nat)} (hg : ∀ g ∈ gs, smallQ g) (hl : gs.length ≤ 8) (h : okSt gs s) {d : D} (hd : isNm s d) :
    stepS 0 (.nm 6) (evSs (CC (n + 7) 0) law_b12) d (s9 sc hm t (some (.d (.tup (gs.map gp)))) (some (.d (sD s))) x6 x7) = .nx (s9 sc hm t (some (.d (.tup (gs.map gp)))) (some (.d (sD s))) (some (.d d)) x7) := by
  obtain ⟨i, c, l, rfl, hsi, hc⟩ := hd
  have hi : i < gs.length := by rw [← okSt_len h]; exact lt_of_at hsi
  obtain ⟨g, l', hgi, hsi', ok⟩ := okSt_get h hi
  rw [hsi] at hsi'
  cases hsi'
  have hgm := hg g (List.mem_of_getElem? hgi)
  obtain ⟨R, t1, d1, ok1, hR⟩ := told_due n (fun g hx => by have := (hg g hx).1.2.1; omega) (by omega) h hgi hsi hc (by have := hgm.2; omega)
  have is1 := law_is 4 (n + 2) ok1
  generalize D.tup (gs.map gp) = G1 at t1 d1 ⊢
  generalize sD s = S1 at t1 d1 ⊢
  generalize nD i (c : Int) = N1 at t1 d1 ⊢
  have f1 : frz (.tup [.d (.str "told"), own R]) = .tup [.str "told", .lst R] := by
    rw [frz_tup, frzs_cons, frzs_cons, frz_own]; rfl
  generalize D.tup [.str "told", .lst R] = D1 at d1 is1 f1
  have s4 : evS (CC (n + 7) 0) law_s4 (s9 sc hm t (some (.d G1)) (some (.d S1)) (some (.d N1)) x7) = .nx [some (.d sc), some (.lst hm), t, none, some (.d G1), some (.d S1), some (.d N1), x7, some (.tup [.d (.str "told"), own R])] := by
    generalize own R = R1 at t1 ⊢
    simp [evSs, evS, ev, evs, evb, evi, evt, szl, bindPar, bindT, bindTs, wipes, Tg.vars, varss, lend, giveBack, filled, plainAt, isLst, backs, law_s4, lend, giveBack, t1, bindT]
  have ec : ev (CC (n + 7) 0) (.callp "_law_is" 8 [.call "_law_due" [] [.rd 4, .rd 5, .rd 6]]) [some (.d sc), some (.lst hm), t, none, some (.d G1), some (.d S1), some (.d N1), x7, some (.tup [.d (.str "told"), own R])] = .ok (.d (.bl true)) [some (.d sc), some (.lst hm), t, none, some (.d G1), some (.d S1), some (.d N1), x7, some (.tup [.d (.str "told"), own R])] := by
    generalize M.tup [.d (.str "told"), own R] = M1 at f1 ⊢
    rw [ev]
    rw [if_pos (by rfl)]
    simp [evSs, evS, ev, evs, evb, evi, evt, szl, bindPar, bindT, bindTs, wipes, Tg.vars, varss, lend, giveBack, filled, plainAt, isLst, backs, lend, giveBack, d1, f1, is1]
  have s7 : evS (CC (n + 7) 0) law_s7 [some (.d sc), some (.lst hm), t, none, some (.d G1), some (.d S1), some (.d N1), x7, some (.tup [.d (.str "told"), own R])] = .nx [some (.d sc), some (.lst hm), t, none, some (.d G1), some (.d S1), some (.d N1), x7, some (.tup [.d (.str "told"), own R])] := by
    have et : evt (CC (n + 7) 0) (.not (.callp "_law_is" 8 [.call "_law_due" [] [.rd 4, .rd 5, .rd 6]])) [some (.d sc), some (.lst hm), t, none, some (.d G1), some (.d S1), some (.d N1), x7, some (.tup [.d (.str "told"), own R])] = .ok false [some (.d sc), some (.lst hm), t, none, some (.d G1), some (.d S1), some (.d N1), x7, some (.tup [.d (.str "told"), own R])] := by
      rw [evt, ev, ec]
      · simp [evSs, evS, ev, evs, evb, evi, evt, szl, bindPar, bindT, bindTs, wipes, Tg.vars, varss, lend, giveBack, filled, plainAt, isLst, backs]
    unfold law_s7
    rw [evS, et]
    simp [evSs, evS, ev, evs, evb, evi, evt, szl, bindPar, bindT, bindTs, wipes, Tg.vars, varss, lend, giveBack, filled, plainAt, isLst, backs]
  have s8 : evS (CC (n + 7) 0) law_s8 [some (.d sc), some (.lst hm), t, none, some (.d G1), some (.d S1), some (.d N1), x7, some (.tup [.d (.str "told"), own R])] = .nx (s9 sc hm t (some (.d G1)) (some (.d S1)) (some (.d N1)) x7) :=
    appx_eq (i := 8) (a := .d (.str "told")) (l := R.map .d) rfl (by rw [List.length_map]; have := hgm.2; show _ < 16777216; omega)
  have s11 : evS (CC (n + 7) 0) law_s11 (s9 sc hm t (some (.d G1)) (some (.d S1)) (some (.d N1)) x7) = .nx (s9 sc hm t (some (.d G1)) (some (.d S1)) (some (.d N1)) x7) := by
    generalize M.tup [.d (.str "told"), own R] = M1 at t1 f1
    simp [evSs, evS, ev, evs, evb, evi, evt, szl, bindPar, bindT, bindTs, wipes, Tg.vars, varss, lend, giveBack, filled, plainAt, isLst, backs, law_s11, lend, giveBack, t1, d1, f1, is1]
  show (match bindT 0 (.nm 6) (.d N1) (s9 sc hm t (some (.d G1)) (some (.d S1)) x6 x7) with | some s => evSs (CC (n + 7) 0) [law_s4, law_s7, law_s8, law_s11] s | none => .bad) = _
  rw [show bindT 0 (.nm 6) (.d N1) (s9 sc hm t (some (.d G1)) (some (.d S1)) x6 x7) = some (s9 sc hm t (some (.d G1)) (some (.d S1)) (some (.d N1)) x7) from by simp [evSs, evS, ev, evs, evb, evi, evt, szl, bindPar, bindT, bindTs, wipes, Tg.vars, varss, lend, giveBack, filled, plainAt, isLst, backs, bindT]]
  show evSs (CC (n + 7) 0) [law_s4, law_s7, law_s8, law_s11] _ = _
  rw [run1 s4 (run1 s7 (run1 s8 (run1 s11 run0)))]
theorem names_loop (n : Nat) {sc : D} {hm : List M} {t x7 : Option M} {gs : List G} {s : List (List Nat)} (hg : ∀ g ∈ gs, smallQ g) (hl : gs.length ≤ 8) (h : okSt gs s) : ∀ (N : List D) (x6 : Option M), (∀ d ∈ N, isNm s d) →
    ∃ y6, loopS (stepS 0 (.nm 6) (evSs (CC (n + 7) 0) law_b12)) N (s9 sc hm t (some (.d (.tup (gs.map gp)))) (some (.d (sD s))) x6 x7) = .nx (s9 sc hm t (some (.d (.tup (gs.map gp)))) (some (.d (sD s))) y6 x7)
  | [], x6, _ => ⟨x6, rfl⟩
  | d :: N, x6, hN => by
    obtain ⟨y6, e⟩ := names_loop n hg hl h N (some (.d d)) fun x hx => hN x (List.mem_cons_of_mem _ hx)
    refine ⟨y6, ?_⟩
    show (match stepS 0 (.nm 6) (evSs (CC (n + 7) 0) law_b12) d (s9 sc hm t (some (.d (.tup (gs.map gp)))) (some (.d (sD s))) x6 x7) with
      | .nx s => loopS _ N s
      | .cnt s => loopS _ N s
      | .brk s => .nx s
      | o => o) = _
    rw [name_turn n hg hl h (hN d List.mem_cons_self)]
    exact e
theorem law_turn (n : Nat) {sc d : D} {ms : List M} {x2 x4 x5 x6 x7 : Option M} (hh : HH ms) : ∃ (ms' : List M) (y4 y5 y6 y7 : Option M), stepS 0 (.nm 2) (evSs (CC (n + 7) 0) law_b21) d (s9 sc ms x2 x4 x5 x6 x7) = .nx (s9 sc ms' (some (.d d)) y4 y5 y6 y7) ∧ HH ms' := by
  obtain ⟨gs, ms1, e2, h1, hg, hne, hl, hm⟩ := law_shape (n + 5) (mo := 300) hh (by decide) (by decide)
  have hS : ∀ g ∈ gs, smallS g := fun g hx => smallQ_S (hg g hx)
  have e3 := law_standings (n + 5) hS hl hm
  have hpos : (stds gs).length ≠ 0 := by
    rw [stds_len]
    have := many_pos fun g hx => (hS g hx).1
    omega
  obtain ⟨sd, ms2, hmem, e4, h2⟩ := some_L (n + 5) (l := (stds gs).map sD) h1 (by intro z; rw [List.map_eq_nil_iff] at z; rw [z] at hpos; exact hpos rfl) (by rw [List.length_map, stds_len]; omega)
  obtain ⟨s, hs, rfl⟩ := List.mem_map.mp hmem
  have ok := stds_ok hs
  have hlen := okSt_len ok
  have hnm : ∀ l ∈ s, l.length ≤ 1000 := fun l hx => by
    obtain ⟨i, hi, rfl⟩ := List.getElem_of_mem hx
    obtain ⟨g, l', q1, q2, q3⟩ := okSt_get (i := i) ok (by omega)
    rw [List.getElem?_eq_getElem hi] at q2
    cases q2
    have := (hg g (List.mem_of_getElem? q1)).1.2.1
    rw [q3.1]; omega
  obtain ⟨N, e5, hN⟩ := law_names (n + 6) (s := s) (by omega) hnm
  obtain ⟨wd, ms3, e6, h3, hw⟩ := nn_all (n + 4) h2 ok hne (fun g hx => ⟨(hg g hx).1.1, by have := (hg g hx).2; omega⟩) (by omega)
  have hg1000 : ∀ g ∈ gs, g.1 ≤ 1000 := fun g hx => by have := (hg g hx).1.2.1; omega
  have t1 := told_name n hg1000 ok hw
  have nsx : ∃ (d : D) (ms' : List M), evCall T (n + 7) "_law_no_standing" [.lst ms3, .d (sD s)] = .ok (.d d) [.lst ms'] ∧ HH ms' ∧ stdG gs d = false := by
    cases gs with
    | nil => exact absurd rfl hne
    | cons g gs =>
      have hg0 := (hg g List.mem_cons_self).1
      exact ns_all (n + 4) h3 ok ⟨hg0.1, by have := hg0.2.1; omega⟩ (by omega)
  obtain ⟨nd, ms4, e7, h4, hnd⟩ := nsx
  have t2 := told_std n (nm := wd) hg1000 hnd
  have okn : isOk 1 (D.tup [.str "name"]) := .inr (.inl ⟨_, rfl, fun x hx => by simp [evSs, evS, ev, evs, evb, evi, evt, szl, bindPar, bindT, bindTs, wipes, Tg.vars, varss, lend, giveBack, filled, plainAt, isLst, backs] at hx; subst hx; exact .inr ⟨_, rfl, by decide +kernel⟩⟩)
  have oks : isOk 1 (D.tup [.str "standing"]) := .inr (.inl ⟨_, rfl, fun x hx => by simp [evSs, evS, ev, evs, evb, evi, evt, szl, bindPar, bindT, bindTs, wipes, Tg.vars, varss, lend, giveBack, filled, plainAt, isLst, backs] at hx; subst hx; exact .inr ⟨_, rfl, by decide +kernel⟩⟩)
  have i1 := law_is 1 (n + 5) okn
  have i2 := law_is 1 (n + 5) oks
  obtain ⟨y6, eL⟩ := names_loop n (sc := sc) (hm := ms2) (t := some (.d d)) (x7 := x7) hg hl ok N x6 hN
  refine ⟨ms4, some (.d (.tup (gs.map gp))), some (.d (sD s)), y6, some (.d wd), ?_, h4⟩
  have e2 : evCall T (n + 7) "_law_shape" [.lst ms, .d (.int 300)] = .ok (.d (.tup (gs.map gp))) [.lst ms1] := e2
  generalize D.tup (gs.map gp) = G1 at e2 e3 e6 t1 t2 eL ⊢
  generalize (stds gs).map sD = L1 at e3 e4
  generalize sD s = S1 at e4 e5 e6 t1 e7 eL ⊢
  have s2 : evS (CC (n + 7) 0) law_s2 (s9 sc ms (some (.d d)) x4 x5 x6 x7) = .nx (s9 sc ms1 (some (.d d)) (some (.d G1)) x5 x6 x7) := by
    simp [evSs, evS, ev, evs, evb, evi, evt, szl, bindPar, bindT, bindTs, wipes, Tg.vars, varss, lend, giveBack, filled, plainAt, isLst, backs, law_s2, lend, giveBack, e2, bindT]
  have s3 : evS (CC (n + 7) 0) law_s3 (s9 sc ms1 (some (.d d)) (some (.d G1)) x5 x6 x7) = .nx (s9 sc ms2 (some (.d d)) (some (.d G1)) (some (.d S1)) x6 x7) := by
    have fo := frz_own L1
    generalize own L1 = O1 at e3 fo
    simp [evSs, evS, ev, evs, evb, evi, evt, szl, bindPar, bindT, bindTs, wipes, Tg.vars, varss, lend, giveBack, filled, plainAt, isLst, backs, law_s3, lend, giveBack, e3, fo, e4, bindT]
  have s13 : evS (CC (n + 7) 0) law_s13 (s9 sc ms2 (some (.d d)) (some (.d G1)) (some (.d S1)) x6 x7) = .nx (s9 sc ms2 (some (.d d)) (some (.d G1)) (some (.d S1)) y6 x7) := by
    rw [← eL]
    refine forr_eq (ds := [.lst N]) ?_ rfl
    have fo := frz_own N
    generalize own N = O1 at e5 fo
    simp [evSs, evS, ev, evs, evb, evi, evt, szl, bindPar, bindT, bindTs, wipes, Tg.vars, varss, lend, giveBack, filled, plainAt, isLst, backs, lend, giveBack, e5, fo]
  have s14 : evS (CC (n + 7) 0) law_s14 (s9 sc ms2 (some (.d d)) (some (.d G1)) (some (.d S1)) y6 x7) = .nx (s9 sc ms3 (some (.d d)) (some (.d G1)) (some (.d S1)) y6 (some (.d wd))) := by
    simp [evSs, evS, ev, evs, evb, evi, evt, szl, bindPar, bindT, bindTs, wipes, Tg.vars, varss, lend, giveBack, filled, plainAt, isLst, backs, law_s14, lend, giveBack, e6, bindT]
  have s17 : evS (CC (n + 7) 0) law_s17 (s9 sc ms3 (some (.d d)) (some (.d G1)) (some (.d S1)) y6 (some (.d wd))) = .nx (s9 sc ms3 (some (.d d)) (some (.d G1)) (some (.d S1)) y6 (some (.d wd))) := by
    simp [evSs, evS, ev, evs, evb, evi, evt, szl, bindPar, bindT, bindTs, wipes, Tg.vars, varss, lend, giveBack, filled, plainAt, isLst, backs, law_s17, lend, giveBack, t1, i1, p_tupd]
  have s20 : evS (CC (n + 7) 0) law_s20 (s9 sc ms3 (some (.d d)) (some (.d G1)) (some (.d S1)) y6 (some (.d wd))) = .nx (s9 sc ms4 (some (.d d)) (some (.d G1)) (some (.d S1)) y6 (some (.d wd))) := by
    simp [evSs, evS, ev, evs, evb, evi, evt, szl, bindPar, bindT, bindTs, wipes, Tg.vars, varss, lend, giveBack, filled, plainAt, isLst, backs, law_s20, lend, giveBack, e7, t2, i2, p_tupd]
  show (match bindT 0 (.nm 2) (.d d) (s9 sc ms x2 x4 x5 x6 x7) with | some s => evSs (CC (n + 7) 0) [law_s2, law_s3, law_s13, law_s14, law_s17, law_s20] s | none => .bad) = _
  rw [show bindT 0 (.nm 2) (.d d) (s9 sc ms x2 x4 x5 x6 x7) = some (s9 sc ms (some (.d d)) x4 x5 x6 x7) from by simp [evSs, evS, ev, evs, evb, evi, evt, szl, bindPar, bindT, bindTs, wipes, Tg.vars, varss, lend, giveBack, filled, plainAt, isLst, backs, bindT]]
  show evSs (CC (n + 7) 0) [law_s2, law_s3, law_s13, law_s14, law_s17, law_s20] _ = _
  rw [run1 s2 (run1 s3 (run1 s13 (run1 s14 (run1 s17 (run1 s20 run0)))))]
theorem last_due : ∃ R : List D, evCall T 8 "_law_told" [.d (.tup [.tup [.int 3, .int 5]]), .d (.tup [.tup [.int 0, .int 1, .int 3]]), .d (.tup [.int 0, .int 1])] = .ok (.tup [.d (.str "told"), own R]) [] ∧ R = [.tup [.tup [.int 0, .int 1, .int 3]], .tup [.tup [.int 0, .int 2, .int 3]], .tup [.tup [.int 0, .int 3, .int 4]]] := by
  have ok : okSt [(3, 5)] [[0, 1, 3]] := ⟨⟨rfl, by simp [evSs, evS, ev, evs, evb, evi, evt, szl, bindPar, bindT, bindTs, wipes, Tg.vars, varss, lend, giveBack, filled, plainAt, isLst, backs], fun x hx => by simp [evSs, evS, ev, evs, evb, evi, evt, szl, bindPar, bindT, bindTs, wipes, Tg.vars, varss, lend, giveBack, filled, plainAt, isLst, backs] at hx; rcases hx with rfl | rfl | rfl <;> decide⟩, trivial⟩
  have hR : prim .sorted [.lst (PL 5 ((1 : Nat) : Int) (up [0, 1, 3]) ([[0, 1, 3]].map lotD) 0)] = some (own [.tup [.tup [.int 0, .int 1, .int 3]], .tup [.tup [.int 0, .int 2, .int 3]], .tup [.tup [.int 0, .int 3, .int 4]]]) := by rfl
  exact ⟨_, told_ok 7 (bw_ok 1 (gs := [(3, 5)]) (s := [[0, 1, 3]]) (i := 0) (c := 1) (g := (3, 5)) (l := [0, 1, 3]) (fun g hg => by simp [evSs, evS, ev, evs, evb, evi, evt, szl, bindPar, bindT, bindTs, wipes, Tg.vars, varss, lend, giveBack, filled, plainAt, isLst, backs] at hg; subst hg; decide) (by decide) ok rfl rfl (by simp [evSs, evS, ev, evs, evb, evi, evt, szl, bindPar, bindT, bindTs, wipes, Tg.vars, varss, lend, giveBack, filled, plainAt, isLst, backs]) (by decide) hR), rfl⟩
end K03
end PV
namespace PV
namespace K03
open PySem
theorem pure (ns : List Int) : ∃ outs, evCall T 9 "law" [.d (.scr ns)] = .ok (.d (.bl true)) outs := by
  rw [callS_eq (g := f_law) rfl rfl]
  obtain ⟨h, e1, ⟨cs, p, b, sd, c, rfl, hc⟩⟩ := law_hand 7 ns
  obtain ⟨ms, hms⟩ : ∃ ms, hM cs p b sd c = .lst ms := ⟨_, rfl⟩
  have hh : HH ms := by rw [HH, ← hms]; exact ⟨cs, p, b, sd, c, rfl, hc⟩
  rw [hms] at e1
  have s1 : evS (CC 8 0) law_s1 [some (.d (.scr ns)), none, none, none, none, none, none, none, none] = .nx (s9 (.scr ns) ms none none none none none) := by
    simp [evSs, evS, ev, evs, evb, evi, evt, szl, bindPar, bindT, bindTs, wipes, Tg.vars, varss, lend, giveBack, filled, plainAt, isLst, backs, law_s1, lend, giveBack, e1]
  have e14 : evS (CC 8 0) law_s22 (s9 (.scr ns) ms none none none none none) = loopS (stepS 0 (.nm 2) (evSs (CC 8 0) law_b21)) ((List.range 5).map fun j : Nat => D.int (j : Int)) (s9 (.scr ns) ms none none none none none) := by
    have q := rgN 5
    rw [← q]
    refine forr_eq (ds := [.int 5]) (by simp [evSs, evS, ev, evs, evb, evi, evt, szl, bindPar, bindT, bindTs, wipes, Tg.vars, varss, lend, giveBack, filled, plainAt, isLst, backs]) (it_r1 (by decide) (by decide))
  obtain ⟨s', e15, ms1, x2, x4, x5, x6, x7, rfl, h1⟩ := loop_rg0 (f := stepS 0 (.nm 2) (evSs (CC 8 0) law_b21)) (P := fun j s => ∃ (ms : List M) (x2 x4 x5 x6 x7 : Option M), s = s9 (.scr ns) ms x2 x4 x5 x6 x7 ∧ HH ms) (n := 5) (s := s9 (.scr ns) ms none none none none none) ⟨ms, none, none, none, none, none, rfl, hh⟩ (fun j s hj hp => by
    obtain ⟨ms, x2, x4, x5, x6, x7, rfl, hh⟩ := hp
    obtain ⟨ms', y4, y5, y6, y7, e, h'⟩ := law_turn 1 (sc := .scr ns) (d := .int (j : Int)) (x2 := x2) (x4 := x4) (x5 := x5) (x6 := x6) (x7 := x7) hh
    exact ⟨_, e, ms', _, y4, y5, y6, y7, rfl, h'⟩)
  obtain ⟨r, ms2, e16, h2, r1, r2⟩ := drawH 7 (many := 8) h1 (by decide) (lt4000 (by decide))
  obtain ⟨ms3, e17, h3⟩ := great 0 h2
  have s25 : ∃ ms4, evS (CC 8 0) law_s25 (s9 (.scr ns) ms1 x2 x4 x5 x6 x7) = .nx (s9 (.scr ns) ms4 x2 x4 x5 x6 x7) := by
    by_cases hr : r = 0
    · exact ⟨ms3, by simp [evSs, evS, ev, evs, evb, evi, evt, szl, bindPar, bindT, bindTs, wipes, Tg.vars, varss, lend, giveBack, filled, plainAt, isLst, backs, law_s25, lend, giveBack, e16, hr, e17]⟩
    · exact ⟨ms2, by simp [evSs, evS, ev, evs, evb, evi, evt, szl, bindPar, bindT, bindTs, wipes, Tg.vars, varss, lend, giveBack, filled, plainAt, isLst, backs, law_s25, lend, giveBack, e16, hr]⟩
  obtain ⟨ms4, s25⟩ := s25
  obtain ⟨D1, hD1⟩ : ∃ D1, D1 = D.tup [.str "told", .lst [.tup [.tup [.int 0, .int 1, .int 3]], .tup [.tup [.int 0, .int 2, .int 3]], .tup [.tup [.int 0, .int 3, .int 4]]]] := ⟨_, rfl⟩
  have s26 : evS (CC 8 0) law_s26 (s9 (.scr ns) ms4 x2 x4 x5 x6 x7) = .nx [some (.d (.scr ns)), some (.lst ms4), x2, some (.d D1), x4, x5, x6, x7, none] := by
    rw [hD1]
    simp [evSs, evS, ev, evs, evb, evi, evt, szl, bindPar, bindT, bindTs, wipes, Tg.vars, varss, lend, giveBack, filled, plainAt, isLst, backs, law_s26, p_tupd]
  obtain ⟨R, t1, hR⟩ := last_due
  have f1 : frz (.tup [.d (.str "told"), own R]) = D1 := by
    rw [frz_tup, frzs_cons, frzs_cons, frz_own, hR, hD1]; rfl
  generalize M.tup [.d (.str "told"), own R] = M1 at t1 f1
  have ok1 : isOk 4 D1 := by
    rw [hD1]
    refine .inr (.inl ⟨_, rfl, fun x hx => ?_⟩)
    simp only [List.mem_cons, List.mem_nil_iff, or_false] at hx
    rcases hx with rfl | rfl
    · exact .inl (.inr ⟨_, rfl, by decide +kernel⟩)
    · refine ok_list fun d hd => ?_
      simp only [List.mem_cons, List.mem_nil_iff, or_false] at hd
      rcases hd with rfl | rfl | rfl
      · exact ⟨[[0, 1, 3]], rfl⟩
      · exact ⟨[[0, 2, 3]], rfl⟩
      · exact ⟨[[0, 3, 4]], rfl⟩
  have is1 := law_is 4 3 ok1
  have s27 : evS (CC 8 0) law_s27 [some (.d (.scr ns)), some (.lst ms4), x2, some (.d D1), x4, x5, x6, x7, none] = .ret (.d (.bl true)) [some (.d (.scr ns)), some (.lst ms4), x2, some (.d D1), x4, x5, x6, x7, none] := by
    clear hD1
    simp [evSs, evS, ev, evs, evb, evi, evt, szl, bindPar, bindT, bindTs, wipes, Tg.vars, varss, lend, giveBack, filled, plainAt, isLst, backs, law_s27, lend, giveBack, t1, f1, is1, p_tupd]
  refine ⟨[], ?_⟩
  show finish 0 (evSs (CC 8 0) [law_s1, law_s22, law_s25, law_s26, law_s27] [some (.d (.scr ns)), none, none, none, none, none, none, none, none]) = _
  rw [run1 s1 (run1 (e14.trans e15) (run1 s25 (run1 s26 (runR s27)))), fin_ret0]
end K03
end PV
open PySem PySem.W PySem.Calls PyProof.Rows
theorem PySem.Challenge.cw_wrotelast_k03_standings_behind_a_write_holds : PySem.Challenge.rw_wrotelast_k03_standings_behind_a_write.Holds := by
  w_on; o_law
  refine HandSHeadRun.head_any (r := OpenLaw.row PySem.Challenge.rw_wrotelast_k03_standings_behind_a_write) (q := view (OpenLaw.row PySem.Challenge.rw_wrotelast_k03_standings_behind_a_write).prog [36]) (H := PV.K03.hk) (ob := PV.K03.ob) (M := 5000) (loose := PV.K03.loose) (d := HandSHeadRun.topDef (OpenLaw.row PySem.Challenge.rw_wrotelast_k03_standings_behind_a_write).prog 36) (kwd := []) PV.K03.ob_eq
    (by kernel_rfl) (fun s => by kernel_rfl) PV.K03.run (by kernel_rfl) (by kernel_rfl) (by kernel_rfl) (by rfl) (by first | assumption | decide +kernel) (by decide +kernel) ⟨rfl, rfl, rfl, rfl, rfl, by decide +kernel⟩ ?hw ?hc
  case hw => w_witness2
  case hc =>
    exact PV.walk (l := PySem.Challenge.rw_wrotelast_k03_standings_behind_a_write) (k := 9) (k0 := 8) (N := 4) (i := 36) (top := PV.K03.top) (defs := PV.K03.defs) (gints := PV.K03.gints) (xs := PV.K03.xs) (inis := PV.K03.inis) (g := PV.K03.f_law) rfl rfl (by kernel_rfl) (by kernel_rfl) ⟨rfl, by decide, by decide⟩ PV.K03.chk PV.K03.binds PV.K03.chki PV.K03.bindi (by rfl) rfl rfl (fun ns _ _ => PV.K03.pure ns)
