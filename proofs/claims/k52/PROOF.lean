import PyProof.Rows.All
import Wide.All
import OpenK.AllK
import Wide.FinOn
import PySem.Challenge.RW_pebblewebs_k52_stacks
import HandS.ForMost
import HandS.ForExc
import HandS.Lambda
import HandS.Wide
import HandS.Deep
import HandS.TupLe
import HandS.TupAny
import HandS.TupMul
import PyProof.P3In
import HandS.IsInst
import HandS.TupLen
import HandS.Flow
import HandS.CallLocal
import PyProof.Rows.SumAny
import KE.DataMinMax
import HandS.Style
import KE.KRevSl
import HandS.ExcIs
import HandS.HotCalls
import HandS.EndTab
import KE.KNestM
import KE.SortData
import HandS.SortInts
import HandS.More
set_option Elab.async false
set_option linter.all false
set_option maxRecDepth 100000
set_option maxHeartbeats 4000000
set_option autoImplicit false
/-! PB0: plain data D, what stands for it in the heap (Rep), frames of data (FR), a call in a part of the heap (narrow, widen). -/
namespace PB
open PySem PySem.Spec PyProof.Rows L2 LamX

/-- plain data -/
inductive D where
  | non | bl (b : Bool) | int (i : Int) | str (x : Str) | ty (n : String)
  /-- a def or a class of the module, by its name -/
  | fn (x : Str)
  | lst (xs : List D) | tup (xs : List D)
  /-- the script: read, never written -/
  | scr (ns : List Int)
  | dk (kvs : List (Key × D)) | dt (kvs : List (List Key × D))
  /-- a caught exception: where it stands, its class's name -/
  | exc (a : Addr) (x : Str)

/-- what a call comes to: data, an error of the class of this name, or nothing that is told -/
inductive R (α : Type) where
  | ok (a : α) | err (x : Str) | stuck
@[inline] def R.bind {α β : Type} (m : R α) (n : α → R β) : R β := match m with
  | .ok a => n a
  | .err x => .err x
  | .stuck => .stuck
instance : Monad R where
  pure := R.ok
  bind := R.bind
@[simp] theorem R.bind_ok {α β : Type} (a : α) (n : α → R β) : (R.ok a).bind n = n a := rfl
@[simp] theorem R.bind_err {α β : Type} (x : Str) (n : α → R β) : (R.err x : R α).bind n = R.err x := rfl
@[simp] theorem R.bind_stuck {α β : Type} (n : α → R β) : (R.stuck : R α).bind n = R.stuck := rfl

/-- the module's facts that data lean on -/
structure Ct where
  K : PySem.W.Frag
  mg : Str → Option Value
  T : List (Addr × Str)

mutual
inductive Rep (c : Ct) (H : Hp) : V → D → Prop
  | non : Rep c H .non .non
  | bl (b : Bool) : Rep c H (.bl b) (.bl b)
  | int (i : Int) : Rep c H (.int i) (.int i)
  | str (x : Str) : Rep c H (.str x) (.str x)
  | ty (n : String) : Rep c H (.ty n) (.ty n)
  | fn {f : Addr} {x : Str} (h : c.mg x = some (.ref f)) : Rep c H (.ref f) (.fn x)
  | exc (a : Addr) (x : Str) : Rep c H (.ref a) (.exc a x)
  | scr {a : Addr} {ns : List Int} (h : SqL c.K H a (ns.map V.int)) : Rep c H (.ref a) (.scr ns)
  | lst {a : Addr} {vs : List V} {ds : List D} (h : H a = some (.lst vs)) (r : Reps c H vs ds) : Rep c H (.ref a) (.lst ds)
  | tup {a : Addr} {vs : List V} {ds : List D} (h : H a = some (.tup vs)) (r : Reps c H vs ds) : Rep c H (.ref a) (.tup ds)
  | dk {a : Addr} {kvs : List (Key × V)} {es : List (Key × D)} (h : Rd H a (.dK kvs)) (hk : kvs.map (·.1) = es.map (·.1)) (r : Reps c H (kvs.map (·.2)) (es.map (·.2))) : Rep c H (.ref a) (.dk es)
  | dt {a : Addr} {kvs : List (List Key × V)} {es : List (List Key × D)} (h : Rd H a (.dT kvs)) (hk : kvs.map (·.1) = es.map (·.1)) (r : Reps c H (kvs.map (·.2)) (es.map (·.2))) : Rep c H (.ref a) (.dt es)
inductive Reps (c : Ct) (H : Hp) : List V → List D → Prop
  | nil : Reps c H [] []
  | cons {v : V} {d : D} {vs : List V} {ds : List D} (h : Rep c H v d) (r : Reps c H vs ds) : Reps c H (v :: vs) (d :: ds)
end

theorem rd_ext {H H' : Hp} (e : ExtN H H') {a : Addr} {u : HO} (n : ∀ ps, u ≠ .tbl ps) (h : Rd H a u) : Rd H' a u := by
  rcases h with h | ⟨o, h⟩
  · exact .inl (e _ _ h n)
  · exact .inr ⟨o, e _ _ h (fun ps q => by cases q)⟩
theorem sqL_ext {K : PySem.W.Frag} {H H' : Hp} (e : ExtN H H') {a : Addr} {xs : List V} (h : SqL K H a xs) : SqL K H' a xs := by
  rcases h with h | h
  · exact .inl (rd_ext e (fun ps q => by cases q) h)
  · exact .inr h
theorem sqT_ext {K : PySem.W.Frag} {H H' : Hp} (e : ExtN H H') {a : Addr} {xs : List V} (h : SqT K H a xs) : SqT K H' a xs := by
  rcases h with h | h
  · exact .inl (rd_ext e (fun ps q => by cases q) h)
  · exact .inr h
section
variable {c : Ct} {H H' : Hp}
mutual
theorem Rep.ext (e : ExtN H H') : ∀ {v : V} {d : D}, Rep c H v d → Rep c H' v d
  | _, _, .non => .non
  | _, _, .bl b => .bl b
  | _, _, .int i => .int i
  | _, _, .str x => .str x
  | _, _, .ty n => .ty n
  | _, _, .fn h => .fn h
  | _, _, .exc a x => .exc a x
  | _, _, .scr h => .scr (sqL_ext e h)
  | _, _, .lst h r => .lst (e _ _ h (fun ps q => by cases q)) (Reps.ext e r)
  | _, _, .tup h r => .tup (e _ _ h (fun ps q => by cases q)) (Reps.ext e r)
  | _, _, .dk h hk r => .dk (rd_ext e (fun ps q => by cases q) h) hk (Reps.ext e r)
  | _, _, .dt h hk r => .dt (rd_ext e (fun ps q => by cases q) h) hk (Reps.ext e r)
theorem Reps.ext (e : ExtN H H') : ∀ {vs : List V} {ds : List D}, Reps c H vs ds → Reps c H' vs ds
  | _, _, .nil => .nil
  | _, _, .cons h r => .cons (Rep.ext e h) (Reps.ext e r)
end
theorem Reps.length : ∀ {vs : List V} {ds : List D}, Reps c H vs ds → vs.length = ds.length
  | _, _, .nil => rfl
  | _, _, .cons _ r => by rw [List.length_cons, List.length_cons, Reps.length r]
theorem Reps.get : ∀ {vs : List V} {ds : List D} {i : Nat} {d : D}, Reps c H vs ds → ds[i]? = some d → ∃ v, vs[i]? = some v ∧ Rep c H v d
  | _, _, _, _, .nil, e => by simp at e
  | _, _, 0, _, .cons h _, e => by simp at e; subst e; exact ⟨_, rfl, h⟩
  | _, _, i + 1, d, .cons _ r, e => by
    obtain ⟨v, h1, h2⟩ := Reps.get (i := i) (d := d) r (by simpa using e)
    exact ⟨v, by simpa using h1, h2⟩
theorem Reps.getV : ∀ {vs : List V} {ds : List D} {i : Nat} {v : V}, Reps c H vs ds → vs[i]? = some v → ∃ d, ds[i]? = some d ∧ Rep c H v d
  | _, _, _, _, .nil, e => by simp at e
  | _, _, 0, _, .cons h _, e => by simp at e; subst e; exact ⟨_, rfl, h⟩
  | _, _, i + 1, v, .cons _ r, e => by
    obtain ⟨d, h1, h2⟩ := Reps.getV (i := i) (v := v) r (by simpa using e)
    exact ⟨d, by simpa using h1, h2⟩
theorem Reps.append : ∀ {vs ws : List V} {ds es : List D}, Reps c H vs ds → Reps c H ws es → Reps c H (vs ++ ws) (ds ++ es)
  | _, _, _, _, .nil, s => s
  | _, _, _, _, .cons h r, s => .cons h (Reps.append r s)
theorem Reps.take : ∀ {vs : List V} {ds : List D} (n : Nat), Reps c H vs ds → Reps c H (vs.take n) (ds.take n)
  | _, _, 0, _ => .nil
  | _, _, _ + 1, .nil => .nil
  | _, _, n + 1, .cons h r => .cons h (Reps.take n r)
theorem Reps.drop : ∀ {vs : List V} {ds : List D} (n : Nat), Reps c H vs ds → Reps c H (vs.drop n) (ds.drop n)
  | _, _, 0, r => r
  | _, _, _ + 1, .nil => .nil
  | _, _, n + 1, .cons _ r => Reps.drop n r
theorem Reps.reverse : ∀ {vs : List V} {ds : List D}, Reps c H vs ds → Reps c H vs.reverse ds.reverse
  | _, _, .nil => .nil
  | _, _, .cons h r => by
    rw [List.reverse_cons, List.reverse_cons]
    exact (Reps.reverse r).append (.cons h .nil)
theorem Reps.set : ∀ {vs : List V} {ds : List D} {v : V} {d : D} (i : Nat), Reps c H vs ds → Rep c H v d → Reps c H (vs.set i v) (ds.set i d)
  | _, _, _, _, _, .nil, _ => .nil
  | _, _, _, _, 0, .cons _ r, h => .cons h r
  | _, _, _, _, i + 1, .cons q r, h => .cons q (Reps.set i r h)
theorem Reps.eraseIdx : ∀ {vs : List V} {ds : List D} (i : Nat), Reps c H vs ds → Reps c H (vs.eraseIdx i) (ds.eraseIdx i)
  | _, _, _, .nil => .nil
  | _, _, 0, .cons _ r => r
  | _, _, i + 1, .cons q r => .cons q (Reps.eraseIdx i r)
theorem Reps.dropLast : ∀ {vs : List V} {ds : List D}, Reps c H vs ds → Reps c H vs.dropLast ds.dropLast
  | _, _, .nil => .nil
  | _, _, .cons _ .nil => .nil
  | _, _, .cons h (.cons h2 r) => .cons h (Reps.dropLast (.cons h2 r))
theorem Reps.replicate (n : Nat) {v : V} {d : D} (h : Rep c H v d) : Reps c H (List.replicate n v) (List.replicate n d) := by
  induction n with
  | zero => exact .nil
  | succ n ih => exact .cons h ih
theorem Reps.ints : ∀ {vs : List V} {ns : List Int}, Reps c H vs (ns.map D.int) → vs = ns.map V.int
  | _, [], .nil => rfl
  | _, _ :: _, .cons h r => by
    cases h
    rw [Reps.ints r]
    rfl
theorem Reps.of_ints : ∀ (ns : List Int), Reps c H (ns.map V.int) (ns.map D.int)
  | [] => .nil
  | n :: ns => .cons (.int n) (Reps.of_ints ns)
theorem Reps.bls : ∀ {vs : List V} {bs : List Bool}, Reps c H vs (bs.map D.bl) → vs = bs.map V.bl
  | _, [], .nil => rfl
  | _, _ :: _, .cons h r => by
    cases h
    rw [Reps.bls r]
    rfl
theorem Reps.strs : ∀ {vs : List V} {bs : List Str}, Reps c H vs (bs.map D.str) → vs = bs.map V.str
  | _, [], .nil => rfl
  | _, _ :: _, .cons h r => by
    cases h
    rw [Reps.strs r]
    rfl
theorem Reps.of_strs : ∀ (ns : List Str), Reps c H (ns.map V.str) (ns.map D.str)
  | [] => .nil
  | n :: ns => .cons (.str n) (Reps.of_strs ns)
end

/-- what a list or dict of the frame's own holds: its items stand in F -/
def Own (c : Ct) (F : Hp) : Option HO → D → Prop
  | some (.lst vs), .lst ds => Reps c F vs ds
  | some (.dK kvs), .dk es => kvs.map (·.1) = es.map (·.1) ∧ Reps c F (kvs.map (·.2)) (es.map (·.2))
  | some (.dT kvs), .dt es => kvs.map (·.1) = es.map (·.1) ∧ Reps c F (kvs.map (·.2)) (es.map (·.2))
  | _, _ => False
theorem Own.ext {c : Ct} {F F' : Hp} (e : ExtN F F') {o : Option HO} {d : D} (h : Own c F o d) : Own c F' o d := by
  unfold Own at h ⊢
  split at h
  · exact h.ext e
  · exact ⟨h.1, h.2.ext e⟩
  · exact ⟨h.1, h.2.ext e⟩
  · exact h.elim
def IsMut : HO → Prop
  | .lst _ => True
  | .dK _ => True
  | .dT _ => True
  | _ => False
theorem Own.mut {c : Ct} {F : Hp} {o : Option HO} {d : D} (h : Own c F o d) : ∃ u, o = some u ∧ IsMut u := by
  unfold Own at h
  split at h
  · exact ⟨_, rfl, trivial⟩
  · exact ⟨_, rfl, trivial⟩
  · exact ⟨_, rfl, trivial⟩
  · exact h.elim
theorem Own.som {c : Ct} {F : Hp} {o : Option HO} {d : D} (h : Own c F o d) : o ≠ none := fun q => by
  obtain ⟨u, e, _⟩ := h.mut
  rw [q] at e
  cases e

/-- a slot of data: unset, data that stay, a list or dict of the frame's own -/
inductive Sl where
  | un | fz (d : D) | ow (d : D)
  /-- a list of lists, all the frame's own -/
  | om (rss : List (List D))
abbrev Fr := List Sl

/-- where a frame begins: the heap, and the objects of the frame's own that stand in no slot -/
structure Bs where
  h : Hp
  ex : List (Addr × D)
/-- at p a list of the lists at qs: the frame's own, as they stand -/
def Mat (c : Ct) (F H : Hp) (p : Addr) (qs : List Addr) (rss : List (List D)) : Prop :=
  F p = none ∧ H p = some (.lst (qs.map V.ref)) ∧ (p :: qs).Nodup ∧ Paired (fun q rs => F q = none ∧ ∃ vs, H q = some (.lst vs) ∧ Reps c F vs rs) qs rss
/-- an address of such a list -/
def OmAt (H : Hp) (σ : L2.St) (ρ : Fr) (b : Addr) : Prop := ∃ (i : Nat) (rss : List (List D)) (p : Addr) (qs : List Addr), ρ[i]? = some (Sl.om rss) ∧ σ[i]? = some (some (V.ref p)) ∧ H p = some (.lst (qs.map V.ref)) ∧ b ∈ p :: qs
def OmOk (c : Ct) (B : Bs) (F H : Hp) (σ : L2.St) (ρ : Fr) : Prop := ∀ (i : Nat) (rss : List (List D)), ρ[i]? = some (Sl.om rss) →
  (∃ p qs, σ[i]? = some (some (V.ref p)) ∧ Mat c F H p qs rss) ∧ (∀ (j : Nat) (s : List (List D)), ρ[j]? = some (Sl.om s) → j = i) ∧ ∀ b, OmAt H σ ρ b → (∀ (j : Nat) (e : D), ρ[j]? = some (Sl.ow e) → σ[j]? ≠ some (some (V.ref b))) ∧ ∀ e, (b, e) ∉ B.ex
theorem refs_inj : ∀ {a b : List Addr}, a.map V.ref = b.map V.ref → a = b
  | [], [], _ => rfl
  | [], _ :: _, h => by cases h
  | _ :: _, [], h => by cases h
  | x :: a, y :: b, h => by
    rw [List.map_cons, List.map_cons, List.cons.injEq] at h
    rw [V.ref.inj h.1, refs_inj h.2]
section
variable {c : Ct} {B B' : Bs} {F F' H H' : Hp} {σ σ' : L2.St} {ρ ρ' : Fr} {b : Addr}
theorem rows_own : ∀ {qs : List Addr} {rss : List (List D)}, Paired (fun q rs => F q = none ∧ ∃ vs, H q = some (.lst vs) ∧ Reps c F vs rs) qs rss → ∀ q ∈ qs, F q = none ∧ H q ≠ none
  | _, _, .nil, q, h => by cases h
  | _, _, .cons r rs, q, h => by
    rcases List.mem_cons.mp h with rfl | h
    · obtain ⟨h1, vs, h2, _⟩ := r
      exact ⟨h1, by rw [h2]; exact fun z => by cases z⟩
    · exact rows_own rs q h
theorem OmOk.same (o : OmOk c B F H σ ρ) {i : Nat} {rss : List (List D)} {p : Addr} {qs : List Addr} (h1 : ρ[i]? = some (Sl.om rss)) (h2 : σ[i]? = some (some (V.ref p))) (h3 : H p = some (.lst (qs.map V.ref))) : Mat c F H p qs rss := by
  obtain ⟨⟨p', qs', hp, m⟩, _⟩ := o i rss h1
  rw [h2] at hp
  cases hp
  have := m.2.1
  rw [h3] at this
  have e : qs = qs' := refs_inj (HO.lst.inj (Option.some.inj this))
  rw [e]
  exact m
theorem OmOk.own (o : OmOk c B F H σ ρ) (h : OmAt H σ ρ b) : F b = none ∧ H b ≠ none := by
  obtain ⟨i, rss, p, qs, h1, h2, h3, hb⟩ := h
  have m := o.same h1 h2 h3
  rcases List.mem_cons.mp hb with rfl | hb
  · exact ⟨m.1, by rw [h3]; exact fun z => by cases z⟩
  · exact rows_own m.2.2.2 b hb
theorem OmOk.sep (o : OmOk c B F H σ ρ) (h : OmAt H σ ρ b) : (∀ (j : Nat) (e : D), ρ[j]? = some (Sl.ow e) → σ[j]? ≠ some (some (V.ref b))) ∧ ∀ e, (b, e) ∉ B.ex := by
  obtain ⟨i, rss, p, qs, h1, h2, h3, hb⟩ := id h
  exact (o i rss h1).2.2 b h
theorem rows_keep (e : ExtN F F') : ∀ {qs : List Addr} {rss : List (List D)}, Paired (fun q rs => F q = none ∧ ∃ vs, H q = some (.lst vs) ∧ Reps c F vs rs) qs rss → (∀ q ∈ qs, F' q = none ∧ H' q = H q) →
    Paired (fun q rs => F' q = none ∧ ∃ vs, H' q = some (.lst vs) ∧ Reps c F' vs rs) qs rss
  | _, _, .nil, _ => .nil
  | _, _, .cons ⟨h1, vs, h2, h3⟩ rs, h => .cons ⟨(h _ List.mem_cons_self).1, vs, by rw [(h _ List.mem_cons_self).2]; exact h2, h3.ext e⟩ (rows_keep e rs fun q hq => h q (List.mem_cons_of_mem _ hq))
theorem OmOk.keep (o : OmOk c B F H σ ρ) (e : ExtN F F') (hs : ∀ (i : Nat) (rss : List (List D)), ρ'[i]? = some (Sl.om rss) → ρ[i]? = some (Sl.om rss) ∧ σ'[i]? = σ[i]?) (hk : ∀ b, OmAt H σ ρ b → F' b = none ∧ H' b = H b)
    (hw : ∀ b, OmAt H σ ρ b → ∀ (j : Nat) (e : D), ρ'[j]? = some (Sl.ow e) → σ'[j]? ≠ some (some (V.ref b))) (hx : ∀ b, OmAt H σ ρ b → ∀ e, (b, e) ∉ B'.ex) : OmOk c B' F' H' σ' ρ' := by
  have back : ∀ b, OmAt H' σ' ρ' b → OmAt H σ ρ b := fun b ⟨i, rss, p, qs, h1, h2, h3, hb⟩ => by
    obtain ⟨k1, k2⟩ := hs i rss h1
    rw [k2] at h2
    obtain ⟨⟨p', qs', hp, m⟩, _⟩ := o i rss k1
    rw [h2] at hp
    cases hp
    have at_ : OmAt H σ ρ p := ⟨i, rss, p, qs', k1, h2, m.2.1, List.mem_cons_self⟩
    rw [(hk p at_).2] at h3
    exact ⟨i, rss, p, qs, k1, h2, h3, hb⟩
  intro i rss h
  obtain ⟨k1, k2⟩ := hs i rss h
  obtain ⟨⟨p, qs, hp, m⟩, hu, _⟩ := o i rss k1
  have at_ : ∀ b ∈ p :: qs, OmAt H σ ρ b := fun b hb => ⟨i, rss, p, qs, k1, hp, m.2.1, hb⟩
  refine ⟨⟨p, qs, by rw [k2]; exact hp, (hk p (at_ p List.mem_cons_self)).1, by rw [(hk p (at_ p List.mem_cons_self)).2]; exact m.2.1, m.2.2.1, rows_keep e m.2.2.2 fun q hq => hk q (at_ q (List.mem_cons_of_mem _ hq))⟩, fun j s hj => ?_, fun b hb => ⟨hw b (back b hb), hx b (back b hb)⟩⟩
  exact hu j s (hs j s hj).1
end
structure FR (c : Ct) (H0 : Bs) (F H : Hp) (σ : L2.St) (ρ : Fr) : Prop where
  ext : ExtN H0.h F
  tabs : Tabs c.T F
  sub : ∀ b o, F b = some o → H b = some o
  rest : ∀ b o, H b = some o → F b = none → IsMut o
  len : σ.length = ρ.length
  fz : ∀ (i : Nat) (d : D), ρ[i]? = some (Sl.fz d) → ∃ v : V, σ[i]? = some (some v) ∧ Rep c F v d
  ow : ∀ (i : Nat) (d : D), ρ[i]? = some (Sl.ow d) → ∃ p : Addr, σ[i]? = some (some (V.ref p)) ∧ F p = none ∧ Own c F (H p) d
  dis : ∀ (i j : Nat) (p : Addr) (d e : D), ρ[i]? = some (Sl.ow d) → ρ[j]? = some (Sl.ow e) → σ[i]? = some (some (V.ref p)) → σ[j]? = some (some (V.ref p)) → i = j
  exo : ∀ (p : Addr) (d : D), (p, d) ∈ H0.ex → F p = none ∧ Own c F (H p) d
  exs : ∀ (p : Addr) (d : D), (p, d) ∈ H0.ex → ∀ (j : Nat) (e : D), ρ[j]? = some (Sl.ow e) → σ[j]? ≠ some (some (V.ref p))
  exd : (H0.ex.map (·.1)).Nodup
  om : OmOk c H0 F H σ ρ

section
variable {c : Ct} {H0 : Bs} {F H F' H' : Hp} {σ : L2.St} {ρ : Fr} {p : Addr} {d : D}
theorem FR.extH (fr : FR c H0 F H σ ρ) : ExtN F H := fun b o e _ => fr.sub b o e
theorem FR.nun (fr : FR c H0 F H σ ρ) {b : Addr} (h : H b = none) : F b = none := by
  cases q : F b with
  | none => rfl
  | some o => rw [fr.sub b o q] at h; cases h

/-- what is read as data: it stands, or it is the frame's own -/
def RepB (c : Ct) (F : Hp) (σ : L2.St) (ρ : Fr) (v : V) (d : D) : Prop := Rep c F v d ∨ ∃ (i : Nat) (p : Addr), v = .ref p ∧ ρ[i]? = some (Sl.ow d) ∧ σ[i]? = some (some (V.ref p))
theorem Rep.b {v : V} {d : D} (h : Rep c F v d) : RepB c F σ ρ v d := .inl h
theorem RepB.ext {v : V} {d : D} (h : RepB c F σ ρ v d) (e : ExtN F F') : RepB c F' σ ρ v d := h.elim (fun h => .inl (h.ext e)) .inr
theorem RepB.own (fr : FR c H0 F H σ ρ) {v : V} {d : D} (hb : RepB c F σ ρ v d) : Rep c F v d ∨ ∃ p, v = .ref p ∧ F p = none ∧ Own c F (H p) d := by
  rcases hb with h | ⟨i, p, rfl, h1, h2⟩
  · exact .inl h
  · obtain ⟨q, h3, h4, h5⟩ := fr.ow i d h1
    rw [h2] at h3
    cases h3
    exact .inr ⟨p, rfl, h4, h5⟩
theorem RepB.lst (fr : FR c H0 F H σ ρ) {v : V} {ds : List D} (hb : RepB c F σ ρ v (.lst ds)) : ∃ a vs, v = .ref a ∧ H a = some (.lst vs) ∧ Reps c F vs ds := by
  rcases hb.own fr with h | ⟨p, rfl, hp, ho⟩
  · cases h with
    | lst h r => exact ⟨_, _, rfl, fr.sub _ _ h, r⟩
  · cases e : H p with
    | none => rw [e] at ho; exact ho.elim
    | some o =>
      rw [e] at ho
      cases o with
      | lst vs => exact ⟨p, vs, rfl, e, ho⟩
      | _ => exact ho.elim
theorem RepB.scr (fr : FR c H0 F H σ ρ) {v : V} {ns : List Int} (hb : RepB c F σ ρ v (.scr ns)) : ∃ a, v = .ref a ∧ SqL c.K H a (ns.map V.int) := by
  rcases hb.own fr with h | ⟨p, rfl, hp, ho⟩
  · cases h with
    | scr h => exact ⟨_, rfl, sqL_ext fr.extH h⟩
  · unfold Own at ho
    split at ho <;> first | exact ho.elim | (rename_i q; cases q)
theorem RepB.tup (fr : FR c H0 F H σ ρ) {v : V} {ds : List D} (hb : RepB c F σ ρ v (.tup ds)) : ∃ a vs, v = .ref a ∧ H a = some (.tup vs) ∧ F a = some (.tup vs) ∧ Reps c F vs ds := by
  rcases hb.own fr with h | ⟨p, rfl, hp, ho⟩
  · cases h with
    | tup h r => exact ⟨_, _, rfl, fr.sub _ _ h, h, r⟩
  · unfold Own at ho
    split at ho <;> first | exact ho.elim | (rename_i q; cases q)
theorem RepB.dk (fr : FR c H0 F H σ ρ) {v : V} {es : List (Key × D)} (hb : RepB c F σ ρ v (.dk es)) : ∃ a kvs, v = .ref a ∧ Rd H a (.dK kvs) ∧ kvs.map (·.1) = es.map (·.1) ∧ Reps c F (kvs.map (·.2)) (es.map (·.2)) := by
  rcases hb.own fr with h | ⟨p, rfl, hp, ho⟩
  · cases h with
    | dk h hk r => exact ⟨_, _, rfl, rd_ext fr.extH (fun ps q => by cases q) h, hk, r⟩
  · cases e : H p with
    | none => rw [e] at ho; exact ho.elim
    | some o =>
      rw [e] at ho
      cases o with
      | dK kvs => exact ⟨p, kvs, rfl, .inl e, ho.1, ho.2⟩
      | _ => exact ho.elim
theorem RepB.dt (fr : FR c H0 F H σ ρ) {v : V} {es : List (List Key × D)} (hb : RepB c F σ ρ v (.dt es)) : ∃ a kvs, v = .ref a ∧ Rd H a (.dT kvs) ∧ kvs.map (·.1) = es.map (·.1) ∧ Reps c F (kvs.map (·.2)) (es.map (·.2)) := by
  rcases hb.own fr with h | ⟨p, rfl, hp, ho⟩
  · cases h with
    | dt h hk r => exact ⟨_, _, rfl, rd_ext fr.extH (fun ps q => by cases q) h, hk, r⟩
  · cases e : H p with
    | none => rw [e] at ho; exact ho.elim
    | some o =>
      rw [e] at ho
      cases o with
      | dT kvs => exact ⟨p, kvs, rfl, .inl e, ho.1, ho.2⟩
      | _ => exact ho.elim
theorem RepB.int (fr : FR c H0 F H σ ρ) {v : V} {i : Int} (hb : RepB c F σ ρ v (.int i)) : v = .int i := by
  rcases hb.own fr with h | ⟨p, rfl, hp, ho⟩
  · cases h; rfl
  · unfold Own at ho
    split at ho <;> first | exact ho.elim | (rename_i q; cases q)
theorem RepB.bl (fr : FR c H0 F H σ ρ) {v : V} {i : Bool} (hb : RepB c F σ ρ v (.bl i)) : v = .bl i := by
  rcases hb.own fr with h | ⟨p, rfl, hp, ho⟩
  · cases h; rfl
  · unfold Own at ho
    split at ho <;> first | exact ho.elim | (rename_i q; cases q)
theorem RepB.str (fr : FR c H0 F H σ ρ) {v : V} {i : Str} (hb : RepB c F σ ρ v (.str i)) : v = .str i := by
  rcases hb.own fr with h | ⟨p, rfl, hp, ho⟩
  · cases h; rfl
  · unfold Own at ho
    split at ho <;> first | exact ho.elim | (rename_i q; cases q)
theorem RepB.non (fr : FR c H0 F H σ ρ) {v : V} (hb : RepB c F σ ρ v .non) : v = .non := by
  rcases hb.own fr with h | ⟨p, rfl, hp, ho⟩
  · cases h; rfl
  · unfold Own at ho
    split at ho <;> first | exact ho.elim | (rename_i q; cases q)
theorem RepB.ty (fr : FR c H0 F H σ ρ) {v : V} {n : String} (hb : RepB c F σ ρ v (.ty n)) : v = .ty n := by
  rcases hb.own fr with h | ⟨p, rfl, hp, ho⟩
  · cases h; rfl
  · unfold Own at ho
    split at ho <;> first | exact ho.elim | (rename_i q; cases q)
theorem RepB.fn (fr : FR c H0 F H σ ρ) {v : V} {x : Str} (hb : RepB c F σ ρ v (.fn x)) : ∃ f, v = .ref f ∧ c.mg x = some (.ref f) := by
  rcases hb.own fr with h | ⟨p, rfl, hp, ho⟩
  · cases h with
    | fn h => exact ⟨_, rfl, h⟩
  · unfold Own at ho
    split at ho <;> first | exact ho.elim | (rename_i q; cases q)
/-- in the whole heap -/
theorem RepB.whole (fr : FR c H0 F H σ ρ) {v : V} {d : D} (hb : RepB c F σ ρ v d) : Rep c H v d := by
  rcases hb.own fr with h | ⟨p, rfl, hp, ho⟩
  · exact h.ext fr.extH
  · cases e : H p with
    | none => rw [e] at ho; exact ho.elim
    | some o =>
      rw [e] at ho
      unfold Own at ho
      split at ho
      · rename_i q
        cases q
        exact .lst e (ho.ext fr.extH)
      · rename_i q
        cases q
        exact .dk (.inl e) ho.1 (ho.2.ext fr.extH)
      · rename_i q
        cases q
        exact .dt (.inl e) ho.1 (ho.2.ext fr.extH)
      · exact ho.elim

/-! ### new objects -/
theorem ext_upd {F : Hp} {p : Addr} {o : HO} (h : F p = none) : ExtN F (upd F p o) := fun b u e _ => by
  rw [upd_ne (ne_of_none e h)]
  exact e
theorem sub_upd {F H : Hp} {p : Addr} {o : HO} (sub : ∀ b o, F b = some o → H b = some o) : ∀ b u, upd F p o b = some u → upd H p o b = some u := fun b u e => by
  by_cases hb : b = p
  · subst hb
    rw [upd_same] at e ⊢
    exact e
  · rw [upd_ne hb] at e ⊢
    exact sub b u e
/-- a new object that stays -/
theorem FR.newF (fr : FR c H0 F H σ ρ) {p : Addr} {o : HO} (hp : H p = none) : FR c H0 (upd F p o) (upd H p o) σ ρ := by
  have hF : F p = none := fr.nun hp
  have e : ExtN F (upd F p o) := ext_upd hF
  refine ⟨fr.ext.trans e, fr.tabs.ext fun b u q => by rw [upd_ne (ne_of_none q hF)]; exact q, sub_upd fr.sub, fun b u h1 h2 => ?_, fr.len, fun i d h => ?_, fun i d h => ?_, fr.dis, fun q d h => ?_, fr.exs, fr.exd, fr.om.keep e (fun i rss h => ⟨h, rfl⟩) (fun b hb => by
    have n : b ≠ p := fun z => (fr.om.own hb).2 (z ▸ hp)
    rw [upd_ne n, upd_ne n]
    exact ⟨(fr.om.own hb).1, rfl⟩) (fun b hb => (fr.om.sep hb).1) fun b hb => (fr.om.sep hb).2⟩
  · have hb : b ≠ p := fun z => by rw [z, upd_same] at h2; cases h2
    rw [upd_ne hb] at h1 h2
    exact fr.rest b u h1 h2
  · obtain ⟨v, h1, h2⟩ := fr.fz i d h
    exact ⟨v, h1, h2.ext e⟩
  · obtain ⟨q, h1, h2, h3⟩ := fr.ow i d h
    have hq : q ≠ p := fun z => by rw [z, hp] at h3; exact h3.elim
    refine ⟨q, h1, by rw [upd_ne hq]; exact h2, ?_⟩
    rw [upd_ne hq]
    exact h3.ext e
  · obtain ⟨h2, h3⟩ := fr.exo q d h
    have hq : q ≠ p := fun z => by rw [z, hp] at h3; exact h3.elim
    refine ⟨by rw [upd_ne hq]; exact h2, ?_⟩
    rw [upd_ne hq]
    exact h3.ext e
/-- a new object of the frame's own -/
theorem FR.newO (fr : FR c H0 F H σ ρ) {p : Addr} {o : HO} (hp : H p = none) (hm : IsMut o) : FR c H0 F (upd H p o) σ ρ := by
  have hF : F p = none := fr.nun hp
  refine ⟨fr.ext, fr.tabs, fun b u e => by rw [upd_ne (ne_of_none e hF)]; exact fr.sub b u e, fun b u h1 h2 => ?_, fr.len, fr.fz, fun i d h => ?_, fr.dis, fun q d h => ?_, fr.exs, fr.exd, fr.om.keep (.refl F) (fun i rss h => ⟨h, rfl⟩) (fun b hb => by
    have n : b ≠ p := fun z => (fr.om.own hb).2 (z ▸ hp)
    rw [upd_ne n]
    exact ⟨(fr.om.own hb).1, rfl⟩) (fun b hb => (fr.om.sep hb).1) fun b hb => (fr.om.sep hb).2⟩
  · by_cases hb : b = p
    · rw [hb, upd_same] at h1
      cases h1
      exact hm
    · rw [upd_ne hb] at h1
      exact fr.rest b u h1 h2
  · obtain ⟨q, h1, h2, h3⟩ := fr.ow i d h
    have hq : q ≠ p := fun z => by rw [z, hp] at h3; exact h3.elim
    refine ⟨q, h1, h2, ?_⟩
    rw [upd_ne hq]
    exact h3
  · obtain ⟨h2, h3⟩ := fr.exo q d h
    have hq : q ≠ p := fun z => by rw [z, hp] at h3; exact h3.elim
    refine ⟨h2, ?_⟩
    rw [upd_ne hq]
    exact h3
/-- an object of the frame's own, not in a slot -/
def NewAt (c : Ct) (H0 : Bs) (F H : Hp) (σ : L2.St) (ρ : Fr) (p : Addr) (d : D) : Prop :=
  F p = none ∧ Own c F (H p) d ∧ (∀ (j : Nat) (e : D), ρ[j]? = some (Sl.ow e) → σ[j]? ≠ some (some (V.ref p))) ∧ (∀ (q : Addr) (e : D), (q, e) ∈ H0.ex → q ≠ p) ∧ ¬ OmAt H σ ρ p
theorem FR.newAt (fr : FR c H0 F H σ ρ) {p : Addr} {o : HO} {d : D} (hp : H p = none) (ho : Own c F (some o) d) : NewAt c H0 F (upd H p o) σ ρ p d := by
  refine ⟨fr.nun hp, by rw [upd_same]; exact ho, fun j e h z => ?_, fun q e h z => ?_, fun ⟨i, rss, p', qs, h1, h2, h3, hb⟩ => ?_⟩
  · obtain ⟨q, h1, h2, h3⟩ := fr.ow j e h
    rw [h1] at z
    cases z
    rw [hp] at h3
    exact h3.elim
  · have h3 := (fr.exo q e h).2
    rw [z, hp] at h3
    exact h3.elim
  · obtain ⟨⟨p2, qs2, hp2, m⟩, _⟩ := fr.om i rss h1
    rw [h2] at hp2
    cases hp2
    have n : p' ≠ p := fun z => by
      have := m.2.1
      rw [z, hp] at this
      cases this
    rw [upd_ne n] at h3
    exact (fr.om.own ⟨i, rss, p', qs, h1, h2, h3, hb⟩).2 hp
/-- it stays from now on -/
theorem FR.freeze (fr : FR c H0 F H σ ρ) {p : Addr} {d : D} (n : NewAt c H0 F H σ ρ p d) : ∃ F', ExtN F F' ∧ FR c H0 F' H σ ρ ∧ Rep c F' (.ref p) d := by
  obtain ⟨hF, ho, hs, hx, hm⟩ := n
  obtain ⟨u, eu, mu⟩ := ho.mut
  have e : ExtN F (upd F p u) := ext_upd hF
  refine ⟨upd F p u, e, ⟨fr.ext.trans e, fr.tabs.ext fun b v q => by rw [upd_ne (ne_of_none q hF)]; exact q, fun b v q => ?_, fun b v h1 h2 => ?_, fr.len, fun i d h => ?_, fun i d h => ?_, fr.dis, fun q d h => ?_, fr.exs, fr.exd, fr.om.keep e (fun i rss h => ⟨h, rfl⟩) (fun b hb => by
    have n : b ≠ p := fun z => hm (z ▸ hb)
    rw [upd_ne n]
    exact ⟨(fr.om.own hb).1, rfl⟩) (fun b hb => (fr.om.sep hb).1) fun b hb => (fr.om.sep hb).2⟩, ?_⟩
  · by_cases hb : b = p
    · rw [hb, upd_same] at q
      cases q
      rw [hb]
      exact eu
    · rw [upd_ne hb] at q
      exact fr.sub b v q
  · have hb : b ≠ p := fun z => by rw [z, upd_same] at h2; cases h2
    rw [upd_ne hb] at h2
    exact fr.rest b v h1 h2
  · obtain ⟨v, h1, h2⟩ := fr.fz i d h
    exact ⟨v, h1, h2.ext e⟩
  · obtain ⟨q, h1, h2, h3⟩ := fr.ow i d h
    have hq : q ≠ p := fun z => hs i d h (z ▸ h1)
    exact ⟨q, h1, by rw [upd_ne hq]; exact h2, h3.ext e⟩
  · obtain ⟨h2, h3⟩ := fr.exo q d h
    exact ⟨by rw [upd_ne (hx q d h)]; exact h2, h3.ext e⟩
  · rw [eu] at ho
    unfold Own at ho
    split at ho
    · rename_i q
      cases q
      exact .lst upd_same (ho.ext e)
    · rename_i q
      cases q
      exact .dk (.inl upd_same) ho.1 (ho.2.ext e)
    · rename_i q
      cases q
      exact .dt (.inl upd_same) ho.1 (ho.2.ext e)
    · exact ho.elim

/-! ### slots -/
theorem FR.getF (fr : FR c H0 F H σ ρ) {i : Nat} {d : D} (h : ρ[i]? = some (.fz d)) : ∃ v, σ[i]? = some (some v) ∧ Rep c F v d := fr.fz i d h
theorem atNe {ρ : Fr} {i j : Nat} {s t : Sl} (hst : s ≠ t) (h : (ρ.set i s)[j]? = some t) : j ≠ i ∧ ρ[j]? = some t := by
  by_cases hj : j = i
  · subst hj
    by_cases hl : j < ρ.length
    · rw [List.getElem?_set_self hl] at h
      exact absurd (Option.some.inj h) hst
    · rw [List.getElem?_eq_none (by simpa using hl)] at h
      cases h
  · rw [List.getElem?_set_ne (Ne.symm hj)] at h
    exact ⟨hj, h⟩
theorem FR.setF (fr : FR c H0 F H σ ρ) {i : Nat} {v : V} {d : D} (h : Rep c F v d) : FR c H0 F H (σ.set i (some v)) (ρ.set i (.fz d)) := by
  have ne : ∀ (j : Nat) (e : D), (ρ.set i (Sl.fz d))[j]? = some (.ow e) → j ≠ i ∧ ρ[j]? = some (.ow e) := fun j e q => by
    by_cases hj : j = i
    · subst hj
      by_cases hl : j < ρ.length
      · rw [List.getElem?_set_self hl] at q; cases q
      · rw [List.getElem?_eq_none (by simpa using hl)] at q; cases q
    · rw [List.getElem?_set_ne (Ne.symm hj)] at q
      exact ⟨hj, q⟩
  refine ⟨fr.ext, fr.tabs, fr.sub, fr.rest, by rw [List.length_set, List.length_set]; exact fr.len, fun j e q => ?_, fun j e q => ?_, fun j k p e1 e2 q1 q2 r1 r2 => ?_, fr.exo, fun p d' hp j e q => by
      obtain ⟨hj, q'⟩ := ne j e q
      rw [List.getElem?_set_ne (Ne.symm hj)]
      exact fr.exs p d' hp j e q', fr.exd, fr.om.keep (.refl F) (fun j rss q => ⟨(atNe (by intro z; cases z) q).2, List.getElem?_set_ne (Ne.symm (atNe (by intro z; cases z) q).1)⟩) (fun b hb => ⟨(fr.om.own hb).1, rfl⟩) (fun b hb j e q => by
        obtain ⟨n, q'⟩ := atNe (by intro z; cases z) q
        rw [List.getElem?_set_ne (Ne.symm n)]
        exact (fr.om.sep hb).1 j e q') fun b hb => (fr.om.sep hb).2⟩
  · by_cases hj : j = i
    · subst hj
      by_cases hl : j < ρ.length
      · rw [List.getElem?_set_self hl] at q
        cases q
        exact ⟨v, by rw [List.getElem?_set_self (by rw [fr.len]; exact hl)], h⟩
      · rw [List.getElem?_eq_none (by simpa using hl)] at q; cases q
    · rw [List.getElem?_set_ne (Ne.symm hj)] at q ⊢
      exact fr.fz j e q
  · obtain ⟨hj, q'⟩ := ne j e q
    rw [List.getElem?_set_ne (Ne.symm hj)]
    exact fr.ow j e q'
  · obtain ⟨h1, q1'⟩ := ne j e1 q1
    obtain ⟨h2, q2'⟩ := ne k e2 q2
    rw [List.getElem?_set_ne (Ne.symm h1)] at r1
    rw [List.getElem?_set_ne (Ne.symm h2)] at r2
    exact fr.dis j k p e1 e2 q1' q2' r1 r2
theorem FR.setO (fr : FR c H0 F H σ ρ) {i : Nat} {p : Addr} {d : D} (n : NewAt c H0 F H σ ρ p d) : FR c H0 F H (σ.set i (some (.ref p))) (ρ.set i (.ow d)) := by
  obtain ⟨hF, ho, hs, hx, hm⟩ := n
  have ne : ∀ (j : Nat) (e : D), j ≠ i → (ρ.set i (Sl.ow d))[j]? = some (.ow e) → ρ[j]? = some (.ow e) := fun j e hj q => by
    rw [List.getElem?_set_ne (Ne.symm hj)] at q
    exact q
  refine ⟨fr.ext, fr.tabs, fr.sub, fr.rest, by rw [List.length_set, List.length_set]; exact fr.len, fun j e q => ?_, fun j e q => ?_, fun j k q' e1 e2 q1 q2 r1 r2 => ?_, fr.exo, fun q d' hq j e z => by
      by_cases hj : j = i
      · subst hj
        by_cases hl : j < σ.length
        · rw [List.getElem?_set_self hl]
          intro w
          cases w
          exact hx _ _ hq rfl
        · rw [List.getElem?_eq_none (by simpa using hl)]
          intro w
          cases w
      · rw [List.getElem?_set_ne (Ne.symm hj)]
        exact fr.exs q d' hq j e (ne j e hj z), fr.exd, fr.om.keep (.refl F) (fun j rss q => ⟨(atNe (by intro z; cases z) q).2, List.getElem?_set_ne (Ne.symm (atNe (by intro z; cases z) q).1)⟩) (fun b hb => ⟨(fr.om.own hb).1, rfl⟩) (fun b hb j e q => by
        by_cases hj : j = i
        · subst hj
          by_cases hl : j < σ.length
          · rw [List.getElem?_set_self hl]
            intro w
            cases w
            exact hm hb
          · rw [List.getElem?_eq_none (by simpa using hl)]
            intro w
            cases w
        · rw [List.getElem?_set_ne (Ne.symm hj)] at q ⊢
          exact (fr.om.sep hb).1 j e q) fun b hb => (fr.om.sep hb).2⟩
  · by_cases hj : j = i
    · subst hj
      by_cases hl : j < ρ.length
      · rw [List.getElem?_set_self hl] at q
        cases q
      · rw [List.getElem?_eq_none (by simpa using hl)] at q; cases q
    · rw [List.getElem?_set_ne (Ne.symm hj)] at q ⊢
      exact fr.fz j e q
  · by_cases hj : j = i
    · subst hj
      by_cases hl : j < ρ.length
      · rw [List.getElem?_set_self hl] at q
        cases q
        exact ⟨p, by rw [List.getElem?_set_self (by rw [fr.len]; exact hl)], hF, ho⟩
      · rw [List.getElem?_eq_none (by simpa using hl)] at q; cases q
    · rw [List.getElem?_set_ne (Ne.symm hj)] at q ⊢
      exact fr.ow j e q
  · by_cases h1 : j = i
    · by_cases h2 : k = i
      · rw [h1, h2]
      · have q2' := ne k e2 h2 q2
        rw [List.getElem?_set_ne (Ne.symm h2)] at r2
        subst h1
        by_cases hl : j < σ.length
        · rw [List.getElem?_set_self hl] at r1
          cases r1
          exact absurd r2 (hs k e2 q2')
        · rw [List.getElem?_eq_none (by simpa using hl)] at r1; cases r1
    · have q1' := ne j e1 h1 q1
      rw [List.getElem?_set_ne (Ne.symm h1)] at r1
      by_cases h2 : k = i
      · subst h2
        by_cases hl : k < σ.length
        · rw [List.getElem?_set_self hl] at r2
          cases r2
          exact absurd r1 (hs j e1 q1')
        · rw [List.getElem?_eq_none (by simpa using hl)] at r2; cases r2
      · have q2' := ne k e2 h2 q2
        rw [List.getElem?_set_ne (Ne.symm h2)] at r2
        exact fr.dis j k q' e1 e2 q1' q2' r1 r2
/-- a slot of the frame's own is written -/
theorem FR.mutO (fr : FR c H0 F H σ ρ) {i : Nat} {p : Addr} {d d' : D} {o : HO} (h : ρ[i]? = some (.ow d)) (hp : σ[i]? = some (some (.ref p))) (ho : Own c F (some o) d') : FR c H0 F (upd H p o) σ (ρ.set i (.ow d')) := by
  obtain ⟨p', h1, hF, ho0⟩ := fr.ow i d h
  rw [hp] at h1
  cases h1
  have hl : i < ρ.length := (List.getElem?_eq_some_iff.mp h).1
  refine ⟨fr.ext, fr.tabs, fun b u e => by rw [upd_ne (ne_of_none e hF)]; exact fr.sub b u e, fun b u q1 q2 => ?_, by rw [List.length_set]; exact fr.len, fun j e q => ?_, fun j e q => ?_, fun j k q' e1 e2 q1 q2 r1 r2 => ?_, fun q d2 hq => ?_, fun q d2 hq j e z => ?_, fr.exd, fr.om.keep (.refl F) (fun j rss q => ⟨(atNe (by intro z; cases z) q).2, rfl⟩) (fun b hb => by
      have n : b ≠ p := fun z => (fr.om.sep hb).1 i d h (by rw [hp, z])
      rw [upd_ne n]
      exact ⟨(fr.om.own hb).1, rfl⟩) (fun b hb j e q => by
      by_cases hj : j = i
      · rw [hj]
        exact (fr.om.sep hb).1 i d h
      · rw [List.getElem?_set_ne (Ne.symm hj)] at q
        exact (fr.om.sep hb).1 j e q) fun b hb => (fr.om.sep hb).2⟩
  · by_cases hb : b = p
    · rw [hb, upd_same] at q1
      cases q1
      obtain ⟨u, e, m⟩ := ho.mut
      cases e
      exact m
    · rw [upd_ne hb] at q1
      exact fr.rest b u q1 q2
  · by_cases hj : j = i
    · subst hj
      rw [List.getElem?_set_self hl] at q
      cases q
    · rw [List.getElem?_set_ne (Ne.symm hj)] at q
      exact fr.fz j e q
  · by_cases hj : j = i
    · subst hj
      rw [List.getElem?_set_self hl] at q
      cases q
      exact ⟨p, hp, hF, by rw [upd_same]; exact ho⟩
    · rw [List.getElem?_set_ne (Ne.symm hj)] at q
      obtain ⟨q2, h1, h2, h3⟩ := fr.ow j e q
      have hne : q2 ≠ p := fun z => hj (fr.dis j i p e d q h (z ▸ h1) hp)
      exact ⟨q2, h1, h2, by rw [upd_ne hne]; exact h3⟩
  · have key : ∀ (m : Nat) e, (ρ.set i (Sl.ow d'))[m]? = some (.ow e) → ∃ e', ρ[m]? = some (.ow e') := fun m e q => by
      by_cases hj : m = i
      · exact ⟨d, hj ▸ h⟩
      · rw [List.getElem?_set_ne (Ne.symm hj)] at q
        exact ⟨e, q⟩
    obtain ⟨f1, g1⟩ := key j e1 q1
    obtain ⟨f2, g2⟩ := key k e2 q2
    exact fr.dis j k q' f1 f2 g1 g2 r1 r2
  · obtain ⟨h2, h3⟩ := fr.exo q d2 hq
    have hne : q ≠ p := fun w => fr.exs q d2 hq i d h (by rw [hp, w])
    exact ⟨h2, by rw [upd_ne hne]; exact h3⟩
  · by_cases hj : j = i
    · rw [hj]
      exact fr.exs q d2 hq i d h
    · rw [List.getElem?_set_ne (Ne.symm hj)] at z
      exact fr.exs q d2 hq j e z
/-- a slot of the frame's own stays from now on -/
theorem FR.freezeS (fr : FR c H0 F H σ ρ) {i : Nat} {d : D} (h : ρ[i]? = some (.ow d)) : ∃ F', ExtN F F' ∧ FR c H0 F' H σ (ρ.set i (.fz d)) := by
  obtain ⟨p, hp, hF, ho⟩ := fr.ow i d h
  have hl : i < ρ.length := (List.getElem?_eq_some_iff.mp h).1
  have ne : ∀ (j : Nat) (e : D), (ρ.set i Sl.un)[j]? = some (.ow e) → j ≠ i ∧ ρ[j]? = some (.ow e) := fun j e q => by
    by_cases hj : j = i
    · subst hj
      rw [List.getElem?_set_self hl] at q; cases q
    · rw [List.getElem?_set_ne (Ne.symm hj)] at q
      exact ⟨hj, q⟩
  have fr1 : FR c H0 F H σ (ρ.set i .un) := by
    refine ⟨fr.ext, fr.tabs, fr.sub, fr.rest, by rw [List.length_set]; exact fr.len, fun j e q => ?_, fun j e q => ?_, fun j k p e1 e2 q1 q2 r1 r2 => ?_, fr.exo, fun q d2 hq j e z => fr.exs q d2 hq j e (ne j e z).2, fr.exd, fr.om.keep (.refl F) (fun j rss q => ⟨(atNe (by intro z; cases z) q).2, rfl⟩) (fun b hb => ⟨(fr.om.own hb).1, rfl⟩) (fun b hb j e q => (fr.om.sep hb).1 j e (ne j e q).2) fun b hb => (fr.om.sep hb).2⟩
    · by_cases hj : j = i
      · subst hj
        rw [List.getElem?_set_self hl] at q
        cases q
      · rw [List.getElem?_set_ne (Ne.symm hj)] at q
        exact fr.fz j e q
    · exact fr.ow j e (ne j e q).2
    · exact fr.dis j k p e1 e2 (ne j e1 q1).2 (ne k e2 q2).2 r1 r2
  obtain ⟨F', e, fr2, r⟩ := fr1.freeze (p := p) (d := d) ⟨hF, ho, fun j e q z => by
    obtain ⟨hj, q'⟩ := ne j e q
    exact hj (fr.dis j i p e d q' h z hp), fun q e hq w => fr.exs q e hq i d h (by rw [hp, w]), fun ⟨j, rss, p2, qs, h1, h2, h3, hb⟩ => (fr.om.sep ⟨j, rss, p2, qs, (atNe (by intro z; cases z) h1).2, h2, h3, hb⟩).1 i d h hp⟩
  refine ⟨F', e, ?_⟩
  have z := fr2.setF (i := i) r
  rw [List.set_set] at z
  have hz : σ.set i (some (V.ref p)) = σ := by
    refine List.ext_getElem? fun j => ?_
    by_cases hj : i = j
    · subst hj
      rw [List.getElem?_set_self (by rw [fr.len]; exact hl), hp]
    · rw [List.getElem?_set_ne hj]
  rw [hz] at z
  exact z
theorem FR.wipe1 (fr : FR c H0 F H σ ρ) (i : Nat) : FR c H0 F H (σ.set i Option.none) (ρ.set i .un) := by
  have neF : ∀ (j : Nat) (s : Sl), s ≠ .un → (ρ.set i Sl.un)[j]? = some s → j ≠ i ∧ ρ[j]? = some s := fun j s hs q => by
    by_cases hj : j = i
    · subst hj
      by_cases hl : j < ρ.length
      · rw [List.getElem?_set_self hl] at q; cases q; exact absurd rfl hs
      · rw [List.getElem?_eq_none (by simpa using hl)] at q; cases q
    · rw [List.getElem?_set_ne (Ne.symm hj)] at q
      exact ⟨hj, q⟩
  refine ⟨fr.ext, fr.tabs, fr.sub, fr.rest, by rw [List.length_set, List.length_set]; exact fr.len, fun j e q => ?_, fun j e q => ?_, fun j k p e1 e2 q1 q2 r1 r2 => ?_, fr.exo, fun q d2 hq j e z => by
      obtain ⟨hj, q'⟩ := neF j _ (by intro z; cases z) z
      rw [List.getElem?_set_ne (Ne.symm hj)]
      exact fr.exs q d2 hq j e q', fr.exd, fr.om.keep (.refl F) (fun j rss q => ⟨(atNe (by intro z; cases z) q).2, List.getElem?_set_ne (Ne.symm (atNe (by intro z; cases z) q).1)⟩) (fun b hb => ⟨(fr.om.own hb).1, rfl⟩) (fun b hb j e q => by
        obtain ⟨n, q'⟩ := atNe (by intro z; cases z) q
        rw [List.getElem?_set_ne (Ne.symm n)]
        exact (fr.om.sep hb).1 j e q') fun b hb => (fr.om.sep hb).2⟩
  · obtain ⟨hj, q'⟩ := neF j _ (by intro z; cases z) q
    rw [List.getElem?_set_ne (Ne.symm hj)]
    exact fr.fz j e q'
  · obtain ⟨hj, q'⟩ := neF j _ (by intro z; cases z) q
    rw [List.getElem?_set_ne (Ne.symm hj)]
    exact fr.ow j e q'
  · obtain ⟨h1, q1'⟩ := neF j _ (by intro z; cases z) q1
    obtain ⟨h2, q2'⟩ := neF k _ (by intro z; cases z) q2
    rw [List.getElem?_set_ne (Ne.symm h1)] at r1
    rw [List.getElem?_set_ne (Ne.symm h2)] at r2
    exact fr.dis j k p e1 e2 q1' q2' r1 r2
theorem rows_rep {F' : Hp} (e : ExtN F F') : ∀ {qs : List Addr} {rss : List (List D)}, Paired (fun q rs => F q = none ∧ ∃ vs, H q = some (.lst vs) ∧ Reps c F vs rs) qs rss → (∀ q ∈ qs, F' q = H q) → Reps c F' (qs.map V.ref) (rss.map D.lst)
  | _, _, .nil, _ => .nil
  | _, _, .cons ⟨h1, vs, h2, h3⟩ rs, h => .cons (.lst ((h _ List.mem_cons_self).trans h2) (h3.ext e)) (rows_rep e rs fun q hq => h q (List.mem_cons_of_mem _ hq))
/-- a list of lists of the frame's own stays from now on -/
theorem FR.freezeM (fr : FR c H0 F H σ ρ) {i : Nat} {rss : List (List D)} (h : ρ[i]? = some (.om rss)) : ∃ F', ExtN F F' ∧ FR c H0 F' H σ (ρ.set i (.fz (.lst (rss.map D.lst)))) := by
  obtain ⟨⟨p, qs, hp, m⟩, hu, _⟩ := fr.om i rss h
  have hl : i < ρ.length := (List.getElem?_eq_some_iff.mp h).1
  have at_ : ∀ b ∈ p :: qs, OmAt H σ ρ b := fun b hb => ⟨i, rss, p, qs, h, hp, m.2.1, hb⟩
  have own : ∀ b ∈ p :: qs, F b = none := fun b hb => (fr.om.own (at_ b hb)).1
  let F' : Hp := fun b => if b ∈ p :: qs then H b else F b
  have in_ : ∀ b ∈ p :: qs, F' b = H b := fun b hb => if_pos hb
  have out : ∀ b, b ∉ p :: qs → F' b = F b := fun b hb => if_neg hb
  have e : ExtN F F' := fun b o q _ => by
    rw [out b fun hb => by rw [own b hb] at q; cases q]
    exact q
  have ne : ∀ (j : Nat) (t : Sl), t ≠ .fz (.lst (rss.map D.lst)) → (ρ.set i (Sl.fz (.lst (rss.map D.lst))))[j]? = some t → j ≠ i ∧ ρ[j]? = some t := fun j t ht q => atNe (Ne.symm ht) q
  refine ⟨F', e, fr.ext.trans e, fr.tabs.ext fun b o q => ?_, fun b o q => ?_, fun b o h1 h2 => ?_, by rw [List.length_set]; exact fr.len, fun j d q => ?_, fun j d q => ?_, fun j k p2 d1 d2 q1 q2 r1 r2 => ?_, fun q d hq => ?_, fun q d hq j e2 z => ?_, fr.exd, fun j r q => ?_⟩
  · rw [out b fun hb => by rw [own b hb] at q; cases q]
    exact q
  · by_cases hb : b ∈ p :: qs
    · rw [in_ b hb] at q
      exact q
    · rw [out b hb] at q
      exact fr.sub b o q
  · by_cases hb : b ∈ p :: qs
    · rw [in_ b hb, h1] at h2
      cases h2
    · rw [out b hb] at h2
      exact fr.rest b o h1 h2
  · by_cases hj : j = i
    · subst hj
      rw [List.getElem?_set_self hl] at q
      cases q
      exact ⟨.ref p, hp, .lst ((in_ p List.mem_cons_self).trans m.2.1) (rows_rep e m.2.2.2 fun q hq => in_ q (List.mem_cons_of_mem _ hq))⟩
    · rw [List.getElem?_set_ne (Ne.symm hj)] at q
      obtain ⟨v, h1, h2⟩ := fr.fz j d q
      exact ⟨v, h1, h2.ext e⟩
  · have q' := (ne j _ (by intro z; cases z) q).2
    obtain ⟨p2, h1, h2, h3⟩ := fr.ow j d q'
    refine ⟨p2, h1, ?_, h3.ext e⟩
    rw [out p2 fun hb => (fr.om.sep (at_ p2 hb)).1 j d q' h1]
    exact h2
  · exact fr.dis j k p2 d1 d2 (ne j _ (by intro z; cases z) q1).2 (ne k _ (by intro z; cases z) q2).2 r1 r2
  · obtain ⟨h2, h3⟩ := fr.exo q d hq
    refine ⟨?_, h3.ext e⟩
    rw [out q fun hb => (fr.om.sep (at_ q hb)).2 d hq]
    exact h2
  · exact fr.exs q d hq j e2 (ne j _ (by intro z; cases z) z).2
  · obtain ⟨hj, q'⟩ := ne j _ (by intro z; cases z) q
    exact absurd (hu j r q') hj
/-- the objects that stand in no slot, in another order -/
theorem FR.perm (fr : FR c H0 F H σ ρ) {ex : List (Addr × D)} (hp : H0.ex.Perm ex) : FR c ⟨H0.h, ex⟩ F H σ ρ :=
  ⟨fr.ext, fr.tabs, fr.sub, fr.rest, fr.len, fr.fz, fr.ow, fr.dis, fun p d h => fr.exo p d (hp.mem_iff.mpr h), fun p d h => fr.exs p d (hp.mem_iff.mpr h), (hp.map _).nodup_iff.mp fr.exd,
    fr.om.keep (.refl F) (fun j r q => ⟨q, rfl⟩) (fun b hb => ⟨(fr.om.own hb).1, rfl⟩) (fun b hb => (fr.om.sep hb).1) fun b hb e h => (fr.om.sep hb).2 e (hp.mem_iff.mpr h)⟩
/-- no list of lists stands in a slot -/
def noOm (ρ : Fr) : Bool := ρ.all fun s => match s with
  | .om _ => false
  | _ => true
theorem noOm_at {ρ : Fr} (h : noOm ρ = true) {i : Nat} {r : List (List D)} : ρ[i]? ≠ some (.om r) := fun e => by
  have := List.all_eq_true.mp h _ (List.mem_of_getElem? e)
  cases this
def exRows (qs : List Addr) (rss : List (List D)) : List (Addr × D) := qs.zipWith (fun q r => (q, D.lst r)) rss
theorem rows_ex {B : Bs} : ∀ {qs : List Addr} {rss : List (List D)}, qs.length = rss.length → (∀ x ∈ exRows qs rss, F x.1 = none ∧ Own c F (H x.1) x.2) → Paired (fun q rs => F q = none ∧ ∃ vs, H q = some (.lst vs) ∧ Reps c F vs rs) qs rss
  | [], [], _, _ => .nil
  | q :: qs, r :: rss, hl, h => by
    refine .cons ?_ (rows_ex (B := B) (by simpa using hl) fun x hx => h x (List.mem_cons_of_mem _ hx))
    obtain ⟨h1, h2⟩ := h (q, .lst r) List.mem_cons_self
    refine ⟨h1, ?_⟩
    unfold Own at h2
    split at h2
    · rename_i e1 e2
      cases e2
      exact ⟨_, e1, h2⟩
    · rename_i e; cases e
    · rename_i e; cases e
    · exact h2.elim
theorem exRows_fst : ∀ {qs : List Addr} {rss : List (List D)}, qs.length = rss.length → (exRows qs rss).map (·.1) = qs
  | [], [], _ => rfl
  | q :: qs, r :: rss, h => by
    show q :: (exRows qs rss).map (·.1) = _
    rw [exRows_fst (by simpa using h)]
theorem reps_pts : ∀ {vs : List V} {qs : List Addr}, Reps c F vs (qs.map fun q => D.exc q "") → vs = qs.map V.ref
  | _, [], .nil => rfl
  | _, q :: qs, .cons h r => by
    cases h
    rw [reps_pts r]
    rfl
/-- the rows and their list come into a slot -/
theorem FR.setM {qs : List Addr} {rss : List (List D)} (fr : FR c ⟨H0.h, (p, .lst (qs.map fun q => D.exc q "")) :: (exRows qs rss ++ H0.ex)⟩ F H σ ρ) {i : Nat} (hl : qs.length = rss.length) (hi : i < ρ.length) (hn : noOm ρ = true) : FR c H0 F H (σ.set i (some (.ref p))) (ρ.set i (.om rss)) := by
  have e1 : ∀ (j : Nat) (t : Sl), t ≠ .om rss → (ρ.set i (Sl.om rss))[j]? = some t → j ≠ i ∧ ρ[j]? = some t := fun j t ht q => atNe (Ne.symm ht) q
  have mx : ∀ b ∈ p :: qs, ∃ d, (b, d) ∈ (p, .lst (qs.map fun q => D.exc q "")) :: (exRows qs rss ++ H0.ex) := fun b hb => by
    rcases List.mem_cons.mp hb with rfl | hb
    · exact ⟨_, List.mem_cons_self⟩
    · rw [← exRows_fst hl] at hb
      obtain ⟨x, hx, rfl⟩ := List.mem_map.mp hb
      exact ⟨x.2, List.mem_cons_of_mem _ (List.mem_append_left _ hx)⟩
  have nd : (p :: qs ++ H0.ex.map (·.1)).Nodup := by
    have := fr.exd
    rw [List.map_cons, List.map_append, exRows_fst hl] at this
    exact this
  have hp := fr.exo p _ List.mem_cons_self
  have hH : H p = some (.lst (qs.map V.ref)) := by
    have ho := hp.2
    unfold Own at ho
    split at ho
    · rename_i e2 e3
      cases e3
      rw [e2, reps_pts ho]
    · rename_i e; cases e
    · rename_i e; cases e
    · exact ho.elim
  have hm : Mat c F H p qs rss := ⟨hp.1, hH, (List.nodup_append.mp nd).1, rows_ex (B := H0) hl fun x hx => fr.exo x.1 x.2 (List.mem_cons_of_mem _ (List.mem_append_left _ hx))⟩
  have hs : (σ.set i (some (V.ref p)))[i]? = some (some (V.ref p)) := List.getElem?_set_self (by rw [fr.len]; exact hi)
  refine ⟨fr.ext, fr.tabs, fr.sub, fr.rest, by rw [List.length_set, List.length_set]; exact fr.len, fun j d q => ?_, fun j d q => ?_, fun j k p2 d1 d2 q1 q2 r1 r2 => ?_, fun q d hq => fr.exo q d (List.mem_cons_of_mem _ (List.mem_append_right _ hq)), fun q d hq j e2 z => ?_, (List.nodup_append.mp nd).2.1, fun j r q => ?_⟩
  · obtain ⟨hj, q'⟩ := e1 j _ (by intro z; cases z) q
    rw [List.getElem?_set_ne (Ne.symm hj)]
    exact fr.fz j d q'
  · obtain ⟨hj, q'⟩ := e1 j _ (by intro z; cases z) q
    rw [List.getElem?_set_ne (Ne.symm hj)]
    exact fr.ow j d q'
  · obtain ⟨h1, q1'⟩ := e1 j _ (by intro z; cases z) q1
    obtain ⟨h2, q2'⟩ := e1 k _ (by intro z; cases z) q2
    rw [List.getElem?_set_ne (Ne.symm h1)] at r1
    rw [List.getElem?_set_ne (Ne.symm h2)] at r2
    exact fr.dis j k p2 d1 d2 q1' q2' r1 r2
  · obtain ⟨hj, z'⟩ := e1 j _ (by intro z; cases z) z
    rw [List.getElem?_set_ne (Ne.symm hj)]
    exact fr.exs q d (List.mem_cons_of_mem _ (List.mem_append_right _ hq)) j e2 z'
  · have only : ∀ (j : Nat) (r : List (List D)), (ρ.set i (Sl.om rss))[j]? = some (Sl.om r) → j = i ∧ r = rss := fun j r q => by
      by_cases hj : j = i
      · subst hj
        rw [List.getElem?_set_self hi] at q
        cases q
        exact ⟨rfl, rfl⟩
      · rw [List.getElem?_set_ne (Ne.symm hj)] at q
        exact absurd q (noOm_at hn)
    obtain ⟨rfl, rfl⟩ := only j r q
    refine ⟨⟨p, qs, hs, hm⟩, fun k s hk => (only k s hk).1, fun b ⟨j2, r2, p2, qs2, g1, g2, g3, g4⟩ => ?_⟩
    obtain ⟨rfl, rfl⟩ := only j2 r2 g1
    rw [hs] at g2
    cases g2
    rw [hH] at g3
    have eq2 : qs = qs2 := refs_inj (HO.lst.inj (Option.some.inj g3))
    subst eq2
    obtain ⟨d, hd⟩ := mx b g4
    refine ⟨fun k e2 hk => ?_, fun e2 he => ?_⟩
    · obtain ⟨hk2, hk'⟩ := e1 k _ (by intro z; cases z) hk
      rw [List.getElem?_set_ne (Ne.symm hk2)]
      exact fr.exs b d hd k e2 hk'
    · exact (List.nodup_append.mp nd).2.2 b g4 b (List.mem_map.mpr ⟨_, he, rfl⟩) rfl
theorem rows_upd {q : Addr} {vs : List V} {rs : List D} (hr : Reps c F vs rs) : ∀ {qs : List Addr} {rss : List (List D)} {j : Nat}, Paired (fun q rs => F q = none ∧ ∃ vs, H q = some (.lst vs) ∧ Reps c F vs rs) qs rss → qs.Nodup → qs[j]? = some q →
    Paired (fun b rs => F b = none ∧ ∃ us, upd H q (.lst vs) b = some (.lst us) ∧ Reps c F us rs) qs (rss.set j rs)
  | _, _, _, .nil, _, _ => .nil
  | a :: qs, r :: rss, 0, .cons ⟨h1, us, h2, h3⟩ t, nd, hq => by
    cases hq
    have nd := List.nodup_cons.mp nd
    refine .cons ⟨h1, vs, upd_same, hr⟩ ?_
    exact rows_upd_ne nd.1 t
  | a :: qs, r :: rss, j + 1, .cons ⟨h1, us, h2, h3⟩ t, nd, hq => by
    have nd := List.nodup_cons.mp nd
    have hq : qs[j]? = some q := hq
    refine .cons ⟨h1, us, ?_, h3⟩ (rows_upd hr t nd.2 hq)
    rw [upd_ne (fun z => nd.1 (by rw [z]; exact List.mem_of_getElem? hq))]
    exact h2
where
  rows_upd_ne {q : Addr} {vs : List V} : ∀ {qs : List Addr} {rss : List (List D)}, q ∉ qs → Paired (fun q rs => F q = none ∧ ∃ vs, H q = some (.lst vs) ∧ Reps c F vs rs) qs rss → Paired (fun b rs => F b = none ∧ ∃ us, upd H q (.lst vs) b = some (.lst us) ∧ Reps c F us rs) qs rss
    | _, _, _, .nil => .nil
    | a :: qs, _, hn, .cons ⟨h1, us, h2, h3⟩ t => .cons ⟨h1, us, by rw [upd_ne fun z => hn (by rw [← z]; exact List.mem_cons_self)]; exact h2, h3⟩ (rows_upd_ne (fun h => hn (List.mem_cons_of_mem _ h)) t)
theorem rows_len : ∀ {qs : List Addr} {rss : List (List D)}, Paired (fun q rs => F q = none ∧ ∃ vs, H q = some (.lst vs) ∧ Reps c F vs rs) qs rss → qs.length = rss.length
  | _, _, .nil => rfl
  | _, _, .cons _ t => by rw [List.length_cons, List.length_cons, rows_len t]
theorem rows_get : ∀ {qs : List Addr} {rss : List (List D)} {j : Nat} {rs : List D}, Paired (fun q rs => F q = none ∧ ∃ vs, H q = some (.lst vs) ∧ Reps c F vs rs) qs rss → rss[j]? = some rs → ∃ q vs, qs[j]? = some q ∧ H q = some (.lst vs) ∧ Reps c F vs rs
  | _, _, _, _, .nil, h => by simp at h
  | _, _, 0, _, .cons ⟨h1, us, h2, h3⟩ t, h => by
    cases h
    exact ⟨_, us, rfl, h2, h3⟩
  | _, _, j + 1, _, .cons _ t, h => rows_get (j := j) t h
/-- a row of a list of lists is written -/
theorem FR.mutM (fr : FR c H0 F H σ ρ) {i j : Nat} {rss : List (List D)} {p q : Addr} {qs : List Addr} {vs : List V} {rs : List D} (h : ρ[i]? = some (.om rss)) (hp : σ[i]? = some (some (.ref p))) (hH : H p = some (.lst (qs.map V.ref))) (hq : qs[j]? = some q) (hr : Reps c F vs rs) :
    FR c H0 F (upd H q (.lst vs)) σ (ρ.set i (.om (rss.set j rs))) := by
  have m := fr.om.same h hp hH
  have hl : i < ρ.length := (List.getElem?_eq_some_iff.mp h).1
  have hu := (fr.om i rss h).2.1
  have at_ : ∀ b ∈ p :: qs, OmAt H σ ρ b := fun b hb => ⟨i, rss, p, qs, h, hp, hH, hb⟩
  have qm : q ∈ p :: qs := List.mem_cons_of_mem _ (List.mem_of_getElem? hq)
  have oq := fr.om.own (at_ q qm)
  have sq := fr.om.sep (at_ q qm)
  have e1 : ∀ (k : Nat) (t : Sl), t ≠ .om (rss.set j rs) → (ρ.set i (Sl.om (rss.set j rs)))[k]? = some t → k ≠ i ∧ ρ[k]? = some t := fun k t ht z => atNe (Ne.symm ht) z
  have nd := List.nodup_cons.mp m.2.2.1
  have hpq : p ≠ q := fun z => nd.1 (z ▸ List.mem_of_getElem? hq)
  refine ⟨fr.ext, fr.tabs, fun b u e => by rw [upd_ne (ne_of_none e oq.1)]; exact fr.sub b u e, fun b u q1 q2 => ?_, by rw [List.length_set]; exact fr.len, fun k d z => ?_, fun k d z => ?_, fun k l p2 d1 d2 q1 q2 r1 r2 => ?_, fun b d hb => ?_, fun b d hb k e2 z => ?_, fr.exd, fun k r z => ?_⟩
  · by_cases hb : b = q
    · rw [hb, upd_same] at q1
      cases q1
      trivial
    · rw [upd_ne hb] at q1
      exact fr.rest b u q1 q2
  · exact fr.fz k d (e1 k _ (by intro z; cases z) z).2
  · have z' := (e1 k _ (by intro z; cases z) z).2
    obtain ⟨p2, h1, h2, h3⟩ := fr.ow k d z'
    have hne : p2 ≠ q := fun w => sq.1 k d z' (w ▸ h1)
    exact ⟨p2, h1, h2, by rw [upd_ne hne]; exact h3⟩
  · exact fr.dis k l p2 d1 d2 (e1 k _ (by intro z; cases z) q1).2 (e1 l _ (by intro z; cases z) q2).2 r1 r2
  · obtain ⟨h2, h3⟩ := fr.exo b d hb
    have hne : b ≠ q := fun w => sq.2 d (w ▸ hb)
    exact ⟨h2, by rw [upd_ne hne]; exact h3⟩
  · exact fr.exs b d hb k e2 (e1 k _ (by intro z; cases z) z).2
  · have only : ∀ (k : Nat) (r : List (List D)), (ρ.set i (Sl.om (rss.set j rs)))[k]? = some (Sl.om r) → k = i ∧ r = rss.set j rs := fun k r z => by
      by_cases hk : k = i
      · subst hk
        rw [List.getElem?_set_self hl] at z
        cases z
        exact ⟨rfl, rfl⟩
      · rw [List.getElem?_set_ne (Ne.symm hk)] at z
        exact absurd (hu k r z) hk
    obtain ⟨rfl, rfl⟩ := only k r z
    refine ⟨⟨p, qs, hp, m.1, by rw [upd_ne hpq]; exact hH, m.2.2.1, rows_upd hr m.2.2.2 nd.2 hq⟩, fun k s hk => (only k s hk).1, fun b ⟨j2, r2, p2, qs2, g1, g2, g3, g4⟩ => ?_⟩
    obtain ⟨rfl, rfl⟩ := only j2 r2 g1
    rw [hp] at g2
    cases g2
    rw [upd_ne hpq] at g3
    have ob := fr.om.sep ⟨_, rss, p, qs2, h, hp, g3, g4⟩
    exact ⟨fun l e2 hl2 => ob.1 l e2 (e1 l _ (by intro z; cases z) hl2).2, ob.2⟩
/-- one more object of the frame's own, in no slot -/
abbrev Bs.push (B : Bs) (p : Addr) (d : D) : Bs := ⟨B.h, (p, d) :: B.ex⟩
theorem FR.push (fr : FR c H0 F H σ ρ) {p : Addr} {d : D} (n : NewAt c H0 F H σ ρ p d) : FR c (H0.push p d) F H σ ρ := by
  obtain ⟨hF, ho, hs, hx, hm⟩ := n
  refine ⟨fr.ext, fr.tabs, fr.sub, fr.rest, fr.len, fr.fz, fr.ow, fr.dis, fun q e h => ?_, fun q e h => ?_, ?_, fr.om.keep (.refl F) (fun j rss q => ⟨q, rfl⟩) (fun b hb => ⟨(fr.om.own hb).1, rfl⟩) (fun b hb => (fr.om.sep hb).1) fun b hb e h => by
    rcases List.mem_cons.mp h with h | h
    · cases h
      exact hm hb
    · exact (fr.om.sep hb).2 e h⟩
  · rcases List.mem_cons.mp h with h | h
    · cases h
      exact ⟨hF, ho⟩
    · exact fr.exo q e h
  · rcases List.mem_cons.mp h with h | h
    · cases h
      exact hs
    · exact fr.exs q e h
  · refine List.nodup_cons.mpr ⟨fun h => ?_, fr.exd⟩
    obtain ⟨⟨q, e⟩, h1, h2⟩ := List.mem_map.mp h
    exact hx q e h1 h2
theorem FR.pop (fr : FR c (H0.push p d) F H σ ρ) : FR c H0 F H σ ρ ∧ NewAt c H0 F H σ ρ p d := by
  refine ⟨⟨fr.ext, fr.tabs, fr.sub, fr.rest, fr.len, fr.fz, fr.ow, fr.dis, fun q e h => fr.exo q e (List.mem_cons_of_mem _ h), fun q e h => fr.exs q e (List.mem_cons_of_mem _ h), (List.nodup_cons.mp fr.exd).2, fr.om.keep (.refl F) (fun j rss q => ⟨q, rfl⟩) (fun b hb => ⟨(fr.om.own hb).1, rfl⟩) (fun b hb => (fr.om.sep hb).1) fun b hb e h => (fr.om.sep hb).2 e (List.mem_cons_of_mem _ h)⟩, ?_⟩
  obtain ⟨h1, h2⟩ := fr.exo p d List.mem_cons_self
  refine ⟨h1, h2, fr.exs p d List.mem_cons_self, fun q e h z => ?_, fun hb => (fr.om.sep hb).2 d List.mem_cons_self⟩
  exact (List.nodup_cons.mp fr.exd).1 (List.mem_map.mpr ⟨(q, e), h, z⟩)
theorem FR.mutE (fr : FR c (H0.push p d) F H σ ρ) {o : HO} {d' : D} (ho : Own c F (some o) d') : FR c (H0.push p d') F (upd H p o) σ ρ := by
  obtain ⟨fr1, hF, hO, hs, hx, hm⟩ := fr.pop
  refine FR.push ⟨fr1.ext, fr1.tabs, fun b u e => by rw [upd_ne (ne_of_none e hF)]; exact fr1.sub b u e, fun b u q1 q2 => ?_, fr1.len, fr1.fz, fun i e h => ?_, fr1.dis, fun q e h => ?_, fr1.exs, fr1.exd, fr1.om.keep (.refl F) (fun j rss q => ⟨q, rfl⟩) (fun b hb => by
    have n : b ≠ p := fun z => hm (z ▸ hb)
    rw [upd_ne n]
    exact ⟨(fr1.om.own hb).1, rfl⟩) (fun b hb => (fr1.om.sep hb).1) fun b hb => (fr1.om.sep hb).2⟩ ⟨hF, by rw [upd_same]; exact ho, hs, hx, fun ⟨i, rss, p', qs, h1, h2, h3, hb⟩ => by
    obtain ⟨⟨p2, qs2, hp2, m⟩, _⟩ := fr1.om i rss h1
    rw [h2] at hp2
    cases hp2
    have n : p' ≠ p := fun z => hm ⟨i, rss, p', qs2, h1, h2, m.2.1, by rw [z]; exact List.mem_cons_self⟩
    rw [upd_ne n] at h3
    exact hm ⟨i, rss, p', qs, h1, h2, h3, hb⟩⟩
  · by_cases hb : b = p
    · rw [hb, upd_same] at q1
      cases q1
      obtain ⟨u, e, m⟩ := ho.mut
      cases e
      exact m
    · rw [upd_ne hb] at q1
      exact fr1.rest b u q1 q2
  · obtain ⟨q, h1, h2, h3⟩ := fr1.ow i e h
    have hq : q ≠ p := fun z => hs i e h (z ▸ h1)
    exact ⟨q, h1, h2, by rw [upd_ne hq]; exact h3⟩
  · obtain ⟨h2, h3⟩ := fr1.exo q e h
    exact ⟨h2, by rw [upd_ne (hx q e h)]; exact h3⟩
end
end PB

namespace PB
open PySem PySem.Spec PyProof.Rows L2 LamX

/-! ### a part of the heap -/
def restPins (h : Heap) (F H : Hp) : List (Addr × Obj) := (List.range h.objs.size).filterMap fun b => if (F b).isNone && (H b).isSome then (h.get? b).map fun o => (b, o) else none
theorem mem_restPins {h : Heap} {F H : Hp} {b : Addr} {o : Obj} (h1 : F b = none) (h2 : H b ≠ none) (h3 : h.get? b = some o) : (b, o) ∈ restPins h F H := by
  refine List.mem_filterMap.mpr ⟨b, List.mem_range.mpr (Heap.lt_size h3), ?_⟩
  have : (H b).isSome = true := by
    cases e : H b with
    | none => exact absurd e h2
    | some _ => rfl
  rw [h1, this, h3]
  rfl
theorem of_restPins {h : Heap} {F H : Hp} {p : Addr × Obj} (hp : p ∈ restPins h F H) : F p.1 = none ∧ (∃ o, H p.1 = some o) ∧ h.get? p.1 = some p.2 := by
  obtain ⟨b, _, e⟩ := List.mem_filterMap.mp hp
  split at e
  · rename_i hc
    simp only [Bool.and_eq_true, Option.isNone_iff_eq_none, Option.isSome_iff_exists] at hc
    cases q : h.get? b with
    | none => rw [q] at e; cases e
    | some u =>
      rw [q] at e
      simp only [Option.map_some, Option.some.injEq] at e
      subst e
      exact ⟨hc.1, hc.2, q⟩
  · cases e
/-- F', and the rest of H as it was -/
def mrg (F F' H : Hp) : Hp := fun b => if (F b).isNone && (H b).isSome then H b else F' b
theorem mrg_rest {F F' H : Hp} {b : Addr} (h1 : F b = none) (h2 : H b ≠ none) : mrg F F' H b = H b := by
  unfold mrg
  have : (H b).isSome = true := by
    cases e : H b with
    | none => exact absurd e h2
    | some _ => rfl
  rw [h1, this]
  rfl
theorem mrg_in {F F' H : Hp} {b : Addr} (h1 : F b ≠ none) : mrg F F' H b = F' b := by
  unfold mrg
  cases e : F b with
  | none => exact absurd e h1
  | some _ => rfl
theorem mrg_new {F F' H : Hp} {b : Addr} (h2 : H b = none) : mrg F F' H b = F' b := by
  unfold mrg
  rw [h2]
  simp
section
variable {X : Cx} {pins : List (Addr × Obj)} {σ : L2.St} {F F' H : Hp} {s s' : Shared}
theorem objOk_mut {P : Program} {w : World} {h : Heap} {a : Addr} {o : HO} (m : IsMut o) (x : ObjOk P w H h a o) : ∃ ob, h.get? a = some ob ∧ ∀ v, ob.data ≠ .cell v := by
  cases o with
  | lst xs =>
    obtain ⟨_, its, n, _, e⟩ := x
    exact ⟨_, e, fun v z => by cases z⟩
  | dK kvs =>
    obtain ⟨_, _, vs, _, ob, es, ep, e, _, hd, _⟩ := x
    exact ⟨ob, e, fun v z => by rw [hd] at z; cases z⟩
  | dT kvs =>
    obtain ⟨_, _, xs, _, ob, es, ep, e, _, hd, _⟩ := x
    exact ⟨ob, e, fun v z => by rw [hd] at z; cases z⟩
  | _ => exact m.elim
/-- a mutable object is kept where its own object is -/
theorem objOk_keep {P : Program} {w : World} {H' : Hp} {h h' : Heap} {a : Addr} {o : HO} (m : IsMut o) (x : ObjOk P w H h a o) (k : ∀ u, h.get? a = some u → h'.get? a = some u) (ht : ∀ b xs, H b = some (.tup xs) → H' b = some (.tup xs)) : ObjOk P w H' h' a o := by
  cases o with
  | lst xs => obtain ⟨z, its, n, r, e⟩ := x; exact ⟨z, its, n, r, k _ e⟩
  | dK kvs => obtain ⟨z, y, vs, r, ob, es, ep, e, c⟩ := x; exact ⟨z, y, vs, r, ob, es, ep, k _ e, c⟩
  | dT kvs =>
    obtain ⟨z, y, xs, r, ob, es, ep, e, c⟩ := x
    exact ⟨z, y, xs, Paired.mapP r fun p q z => ⟨z.1, ht _ _ z.2.1, z.2.2⟩, ob, es, ep, k _ e, c⟩
  | _ => exact m.elim
theorem fs_free (I : Inv X pins σ H s) {b : Addr} (hb : b ∈ X.fs) : H b = none := by
  obtain ⟨_, o, ho, _⟩ := I.ok.funs.mem hb
  exact I.base.free b o ho (I.ok.frf b hb) fun z => I.ok.exfs b z hb
/-- the rest of the heap is out of sight, pinned -/
theorem narrow (I : Inv X pins σ H s) (sub : ∀ b o, F b = some o → H b = some o) (rest : ∀ b o, H b = some o → F b = none → IsMut o) : Inv X (pins ++ restPins s.heap F H) σ F s := by
  have nF : ∀ b, H b = none → F b = none := fun b e => by
    cases q : F b with
    | none => rfl
    | some o => rw [sub b o q] at e; cases e
  have keep : ∀ b o, H b = some o → ¬ IsMut o → F b = some o := fun b o e m => by
    cases q : F b with
    | none => exact absurd (rest b o e q) m
    | some u => rw [sub b u q] at e; rw [e]
  refine ⟨I.ok, I.os, I.bare, ⟨I.base.keep, I.base.slot, fun b o e n hx => nF b (I.base.free b o e n hx), I.base.there, fun b xs e => keep b _ (I.base.tups b xs e) (fun z => z), fun b o u e => keep b _ (I.base.frzs b o u e) (fun z => z), fun b ps e => ?_⟩,
    I.loc, I.cell, nF _ I.free, fun x c e => nF _ (I.freeC x c e), fun p hp => ?_, fun b o e => ?_, I.len⟩
  · obtain ⟨m, e'⟩ := I.base.tbls b ps e
    exact ⟨m, keep b _ e' (fun z => z)⟩
  · rw [← List.append_assoc] at hp
    rcases List.mem_append.mp hp with hp | hp
    · obtain ⟨h1, h2, h3⟩ := I.pin p hp
      exact ⟨h1, nF _ h2, h3⟩
    · obtain ⟨h1, ⟨o, h2⟩, h3⟩ := of_restPins hp
      have m := rest _ _ h2 h1
      obtain ⟨ob, e, d⟩ := objOk_mut m (I.hok _ _ h2)
      rw [h3] at e
      cases e
      refine ⟨h3, h1, fun z => ?_, fun z => ?_, d⟩
      · rw [z, I.free] at h2; cases h2
      · rw [fs_free I z] at h2; cases h2
  · exact (I.hok b o (sub b o e)).stay (fun _ _ _ q => q) (fun b' q => keep b' _ q (fun z => z)) fun b' xs q => keep b' _ q (fun z => z)
/-- back: the rest is as it was -/
theorem widen (I : Inv X pins σ H s) (sub : ∀ b o, F b = some o → H b = some o) (rest : ∀ b o, H b = some o → F b = none → IsMut o) (J : Inv X (pins ++ restPins s.heap F H) σ F' s') (ext : ∀ b xs, F b = some (.tup xs) → F' b = some (.tup xs)) :
    Inv X pins σ (mrg F F' H) s' := by
  have keep : ∀ b o, H b = some o → ¬ IsMut o → F b = some o := fun b o e m => by
    cases q : F b with
    | none => exact absurd (rest b o e q) m
    | some u => rw [sub b u q] at e; rw [e]
  have pinR : ∀ b o, F b = none → H b = some o → ∃ ob, s.heap.get? b = some ob ∧ s'.heap.get? b = some ob ∧ F' b = none := fun b o h1 h2 => by
    have m := rest _ _ h2 h1
    obtain ⟨ob, e, d⟩ := objOk_mut m (I.hok _ _ h2)
    have hp := mem_restPins (h := s.heap) (H := H) h1 (by rw [h2]; exact fun z => by cases z) e
    obtain ⟨j1, j2, _⟩ := J.pin (b, ob) (List.mem_append_right _ (List.mem_append_right _ hp))
    exact ⟨ob, e, j1, j2⟩
  have inF : ∀ b o, F' b = some o → mrg F F' H b = some o := fun b o e => by
    cases q : F b with
    | some u => rw [mrg_in (by rw [q]; exact fun z => by cases z)]; exact e
    | none =>
      cases q2 : H b with
      | none => rw [mrg_new q2]; exact e
      | some u =>
        obtain ⟨_, _, _, z⟩ := pinR b u q q2
        rw [e] at z; cases z
  have nM : ∀ b, F' b = none → H b = none → mrg F F' H b = none := fun b e1 e2 => by rw [mrg_new e2]; exact e1
  have tupM : ∀ b xs, H b = some (.tup xs) → mrg F F' H b = some (.tup xs) := fun b xs e => inF _ _ (ext _ _ (keep b _ e (fun z => z)))
  refine ⟨J.ok, J.os, J.bare, ⟨J.base.keep, J.base.slot, fun b o e n hx => nM b (J.base.free b o e n hx) (I.base.free b o e n hx), J.base.there, fun b xs e => inF _ _ (J.base.tups b xs e), fun b o u e => inF _ _ (J.base.frzs b o u e), fun b ps e => ?_⟩,
    J.loc, J.cell, nM _ J.free I.free, fun x c e => nM _ (J.freeC x c e) (I.freeC x c e), fun p hp => ?_, fun b o e => ?_, J.len⟩
  · obtain ⟨m, e'⟩ := J.base.tbls b ps e
    exact ⟨m, inF _ _ e'⟩
  · have hp' : p ∈ X.pn ++ (pins ++ restPins s.heap F H) := by
      rw [← List.append_assoc]
      exact List.mem_append_left _ hp
    obtain ⟨h1, h2, h3⟩ := J.pin p hp'
    exact ⟨h1, nM _ h2 (I.pin p hp).2.1, h3⟩
  · by_cases hF : F b = none
    · cases hH : H b with
      | none =>
        rw [mrg_new hH] at e
        exact (J.hok b o e).stay (fun _ _ _ q => q) (fun b' q => inF _ _ q) fun b' xs q => inF _ _ q
      | some u =>
        rw [mrg_rest hF (by rw [hH]; exact fun z => by cases z), hH] at e
        cases e
        obtain ⟨ob, e1, e2, _⟩ := pinR b o hF hH
        exact objOk_keep (rest _ _ hH hF) (I.hok b o hH) (fun u' q => by rw [e1] at q; cases q; exact e2) tupM
    · rw [mrg_in hF] at e
      exact (J.hok b o e).stay (fun _ _ _ q => q) (fun b' q => inF _ _ q) fun b' xs q => inF _ _ q
end
section
variable {c : Ct} {H0 : Bs} {F H F' : Hp} {σ : L2.St} {ρ : Fr}
theorem FR.mrg (fr : FR c H0 F H σ ρ) (e : ExtN F F') (t : Tabs c.T F') (n : ∀ b o, H b = some o → F b = none → F' b = none) : FR c H0 F' (mrg F F' H) σ ρ := by
  refine ⟨fr.ext.trans e, t, fun b o q => ?_, fun b o h1 h2 => ?_, fr.len, fun i d h => ?_, fun i d h => ?_, fr.dis, fun p d h => ?_, fr.exs, fr.exd, fr.om.keep e (fun i rss h => ⟨h, rfl⟩) (fun b hb => by
    obtain ⟨h1, h2⟩ := fr.om.own hb
    refine ⟨?_, mrg_rest h1 h2⟩
    cases q2 : H b with
    | none => exact absurd q2 h2
    | some u => exact n b u q2 h1) (fun b hb => (fr.om.sep hb).1) fun b hb => (fr.om.sep hb).2⟩
  · cases q1 : F b with
    | some u => rw [mrg_in (by rw [q1]; exact fun z => by cases z)]; exact q
    | none =>
      cases q2 : H b with
      | none => rw [mrg_new q2]; exact q
      | some u => rw [n b u q2 q1] at q; cases q
  · cases q1 : F b with
    | some u => rw [mrg_in (by rw [q1]; exact fun z => by cases z), h2] at h1; cases h1
    | none =>
      cases q2 : H b with
      | none => rw [mrg_new q2, h2] at h1; cases h1
      | some u =>
        rw [mrg_rest q1 (by rw [q2]; exact fun z => by cases z), q2] at h1
        cases h1
        exact fr.rest b o q2 q1
  · obtain ⟨v, h1, h2⟩ := fr.fz i d h
    exact ⟨v, h1, h2.ext e⟩
  · obtain ⟨p, h1, h2, h3⟩ := fr.ow i d h
    have hp : H p ≠ none := h3.som
    refine ⟨p, h1, ?_, ?_⟩
    · cases q2 : H p with
      | none => exact absurd q2 hp
      | some u => exact n p u q2 h2
    · rw [mrg_rest h2 hp]
      exact h3.ext e
  · obtain ⟨h2, h3⟩ := fr.exo p d h
    have hp : H p ≠ none := h3.som
    refine ⟨?_, ?_⟩
    · cases q2 : H p with
      | none => exact absurd q2 hp
      | some u => exact n p u q2 h2
    · rw [mrg_rest h2 hp]
      exact h3.ext e
end

/-! ### the judgement -/
/-- an outcome: where it is told, k of it, in every heap that it may leave -/
def Out {α : Type} (c : Ct) (E : XK) (H0 : Bs) (F : Hp) (σ : L2.St) (ρ : Fr) (m : R α) (k : α → Hp → Hp → Prop) : Prop :=
  match m with
  | .ok a => ∀ F' H', ExtN F F' → FR c H0 F' H' σ ρ → k a F' H'
  | .err x => ∀ C H', c.mg x = some (.ref C) → ExtN H0.h H' → Tabs c.T H' → E (.ref C) none H'
  | .stuck => False
section
variable {α β : Type} {c : Ct} {E : XK} {H0 : Bs} {F F1 H : Hp} {σ : L2.St} {ρ : Fr} {m : R α} {k k' : α → Hp → Hp → Prop}
theorem Out.split {n : α → R β} {k : β → Hp → Hp → Prop} (o : Out c E H0 F σ ρ (m.bind n) k) : Out c E H0 F σ ρ m fun a F' _ => Out c E H0 F' σ ρ (n a) k := by
  cases m with
  | ok a =>
    intro F' H' e fr
    have o' : Out c E H0 F σ ρ (n a) k := o
    show Out c E H0 F' σ ρ (n a) k
    cases q : n a with
    | ok b =>
      rw [q] at o'
      exact fun F2 H2 e2 fr2 => o' F2 H2 (e.trans e2) fr2
    | err x =>
      rw [q] at o'
      exact o'
    | stuck =>
      rw [q] at o'
      exact o'
  | err x => exact o
  | stuck => exact o
theorem Out.imp (o : Out c E H0 F σ ρ m k) (h : ∀ a F' H', ExtN F F' → FR c H0 F' H' σ ρ → k a F' H' → k' a F' H') : Out c E H0 F σ ρ m k' := by
  cases m with
  | ok a => exact fun F' H' e fr => h a F' H' e fr (o F' H' e fr)
  | err x => exact o
  | stuck => exact o
theorem Out.here (o : Out c E H0 F σ ρ m k) (fr : FR c H0 F H σ ρ) {a : α} (e : m = .ok a) : k a F H := by
  subst e
  exact o F H (.refl F) fr
end
/-- how a value is told: it stays; it is read; it is new -/
inductive Kd where
  | f | b | n
def Tell (c : Ct) (H0 : Bs) (σ : L2.St) (ρ : Fr) (k : Kd) (v : V) (d : D) (F H : Hp) : Prop := match k with
  | .f => Rep c F v d
  | .b => RepB c F σ ρ v d
  | .n => ∃ p, v = .ref p ∧ NewAt c H0 F H σ ρ p d
/-- e comes to f of the frame -/
def tK (c : Ct) (E : XK) (k : Kd) (f : Fr → R D) : TE := fun σ H Q => ∃ H0 F ρ, FR c H0 F H σ ρ ∧ Out c E H0 F σ ρ (f ρ) fun d F' H' => ∀ v, Tell c H0 σ ρ k v d F' H' → Q v H'
def tKs (c : Ct) (E : XK) (f : Fr → R (List D)) : TA := fun σ H Q => ∃ H0 F ρ, FR c H0 F H σ ρ ∧ Out c E H0 F σ ρ (f ρ) fun ds F' H' => ∀ vs, Reps c F' vs ds → Q vs H'
def tT (c : Ct) (E : XK) (f : Fr → R Bool) : TT := fun σ H Q => ∃ H0 F ρ, FR c H0 F H σ ρ ∧ Out c E H0 F σ ρ (f ρ) fun b F' H' => Q b H'
abbrev ct (X : Cx) (T : List (Addr × Str)) : Ct := ⟨X.K, X.mg, T⟩
theorem PE.mono {X : Cx} {e : Expr} {t t' : TE} (h : PE X e t) (i : ∀ σ H Q, t' σ H Q → t σ H Q) : PE X e t' := ⟨fun pins s σ H Q I q => h.run pins s σ H Q I (i σ H Q q)⟩
theorem PT.mono {X : Cx} {e : Expr} {t t' : TT} (h : PT X e t) (i : ∀ σ H Q, t' σ H Q → t σ H Q) : PT X e t' := ⟨fun pins s σ H Q I q => h.run pins s σ H Q I (i σ H Q q)⟩
theorem PW.mono {X : Cx} {e : Expr} {t t' : TT} (h : PW X e t) (i : ∀ σ H Q, t' σ H Q → t σ H Q) : PW X e t' := ⟨fun wh pins s σ H Q I q => h.run wh pins s σ H Q I (i σ H Q q)⟩
theorem PA.mono {X : Cx} {e : List Expr} {t t' : TA} (h : PA X e t) (i : ∀ σ H Q, t' σ H Q → t σ H Q) : PA X e t' := ⟨fun pos pins s σ H Q I q => h.run pos pins s σ H Q I (i σ H Q q)⟩
theorem PS.mono {X : Cx} {e : Stmt} {t t' : TS} (h : PS X e t) (i : ∀ D σ H, t' D σ H → t D σ H) : PS X e t' := ⟨fun pins s σ H D I q => h.run pins s σ H D I (i D σ H q)⟩
theorem PSs.mono {X : Cx} {e : List Stmt} {t t' : TS} (h : PSs X e t) (i : ∀ D σ H, t' D σ H → t D σ H) : PSs X e t' := ⟨fun pins s σ H D I q => h.run pins s σ H D I (i D σ H q)⟩
/-- the judgement: X, the tables, the wish of errors, the kind -/
abbrev P (X : Cx) (T : List (Addr × Str)) (E : XK) (k : Kd) (e : Expr) (f : Fr → R D) : Prop := PE X e (tK (ct X T) E k f)
abbrev Ps (X : Cx) (T : List (Addr × Str)) (E : XK) (es : List Expr) (f : Fr → R (List D)) : Prop := PA X es (tKs (ct X T) E f)
abbrev Pt (X : Cx) (T : List (Addr × Str)) (E : XK) (e : Expr) (f : Fr → R Bool) : Prop := PT X e (tT (ct X T) E f)
abbrev Pw (X : Cx) (T : List (Addr × Str)) (E : XK) (e : Expr) (f : Fr → R Bool) : Prop := PW X e (tT (ct X T) E f)

section
variable {X : Cx} {T : List (Addr × Str)} {E : XK} {e a b : Expr} {f g : Fr → R D} {k : Kd}
/-- what stays may be read -/
theorem p_b (h : P X T E .f e f) : P X T E .b e f := PE.mono h fun σ H Q ⟨H0, F, ρ, fr, o⟩ => ⟨H0, F, ρ, fr, o.imp fun d F' H' _ _ q v r => q v (.inl r)⟩
/-- what is new may stay -/
theorem p_f (h : P X T E .n e f) : P X T E .f e f := PE.mono h fun σ H Q ⟨H0, F, ρ, fr, o⟩ => ⟨H0, F, ρ, fr, by
  revert o
  cases f ρ with
  | ok d =>
    intro o F' H' e fr' v ⟨p, hv, n⟩
    subst hv
    obtain ⟨F2, e2, fr2, r⟩ := fr'.freeze n
    exact o F2 H' (e.trans e2) fr2 _ r
  | err x => exact id
  | stuck => exact id⟩
theorem p_nb (h : P X T E .n e f) : P X T E .b e f := p_b (p_f h)

/-! ### names, constants -/
def eC (d : D) : Fr → R D := fun _ => .ok d
def eV (i : Nat) : Fr → R D := fun ρ => match ρ[i]? with
  | some (.fz d) => .ok d
  | _ => .stuck
def eVb (i : Nat) : Fr → R D := fun ρ => match ρ[i]? with
  | some (.fz d) => .ok d
  | some (.ow d) => .ok d
  | _ => .stuck
theorem p_c {v : V} {d : D} (h : PE X e (tC v)) (r : ∀ H, Rep (ct X T) H v d) : P X T E .f e (eC d) := PE.mono h fun σ H Q ⟨H0, F, ρ, fr, o⟩ => o.here fr rfl v (r F)
variable {j : Nat} {pos : Pos}
theorem p_int {i : Int} : P X T E .f (.Constant (.int i) j pos) (eC (.int i)) := p_c pe_int fun _ => .int i
theorem p_bl {i : Bool} : P X T E .f (.Constant (.bool i) j pos) (eC (.bl i)) := p_c pe_bl fun _ => .bl i
theorem p_non : P X T E .f (.Constant .none j pos) (eC .non) := p_c pe_non fun _ => .non
theorem p_str {x : Str} : P X T E .f (.Constant (.str x) j pos) (eC (.str x)) := p_c pe_str fun _ => .str x
/-- a def or class of the module as a value -/
theorem p_fn {x : Str} {fa : Addr} (hg : Gl X x) (hm : X.mg x = some (.ref fa)) (hd : (x == ("__debug__" : Str)) = false := by decide) : P X T E .f (.Name x pos) (eC (.fn x)) := p_c (pe_glob hg hm (v := .ref fa) rfl hd) fun _ => .fn hm
/-- a whole number of the module -/
theorem p_gint {x : Str} {i : Int} {t : Tok} (hg : Gl X x) (hm : X.mg x = some (.int i t)) (hd : (x == ("__debug__" : Str)) = false := by decide) : P X T E .f (.Name x pos) (eC (.int i)) := p_c (pe_glob hg hm (v := .int i) ⟨t, rfl⟩ hd) fun _ => .int i
theorem p_gstr {x y : Str} {t : Tok} (hg : Gl X x) (hm : X.mg x = some (.str y t)) (hd : (x == ("__debug__" : Str)) = false := by decide) : P X T E .f (.Name x pos) (eC (.str y)) := p_c (pe_glob hg hm (v := .str y) ⟨t, rfl⟩ hd) fun _ => .str y
/-- a built-in class as a value -/
theorem p_ty {x : Str} {n : String} (hg : Gl X x) (hm : X.mg x = none) (hv : bootBuiltins x = some (.type n)) (hn : x ≠ "__name__" := by decide) (hd : (x == ("__debug__" : Str)) = false := by decide) : P X T E .f (.Name x pos) (eC (.ty n)) :=
  p_c (pe_bltn hg hm hv (v := .ty n) rfl hn hd) fun _ => .ty n
theorem p_v (i : Nat) {x : Str} (hN : X.N[i]? = some x := by rfl) (hv : Vis X.env.scope x := by first | exact Or.inl rfl | exact Or.inr (Or.inl rfl) | exact Or.inr (Or.inr rfl)) (hd : (x == ("__debug__" : Str)) = false := by decide)
    (hcd : (x == ("__classdict__" : Str)) = false := by decide) : P X T E .f (.Name x pos) (eV i) := PE.mono (pv i hN hv hd hcd) fun σ H Q ⟨H0, F, ρ, fr, o⟩ => by
  unfold eV at o
  split at o
  · rename_i d h
    obtain ⟨v, h1, h2⟩ := fr.fz i d h
    exact ⟨v, h1, o F H (.refl F) fr v h2⟩
  · exact o.elim
theorem p_vb (i : Nat) {x : Str} (hN : X.N[i]? = some x := by rfl) (hv : Vis X.env.scope x := by first | exact Or.inl rfl | exact Or.inr (Or.inl rfl) | exact Or.inr (Or.inr rfl)) (hd : (x == ("__debug__" : Str)) = false := by decide)
    (hcd : (x == ("__classdict__" : Str)) = false := by decide) : P X T E .b (.Name x pos) (eVb i) := PE.mono (pv i hN hv hd hcd) fun σ H Q ⟨H0, F, ρ, fr, o⟩ => by
  unfold eVb at o
  split at o
  · rename_i d h
    obtain ⟨v, h1, h2⟩ := fr.fz i d h
    exact ⟨v, h1, o F H (.refl F) fr v (.inl h2)⟩
  · rename_i d h
    obtain ⟨p, h1, h2, h3⟩ := fr.ow i d h
    exact ⟨.ref p, h1, o F H (.refl F) fr _ (.inr ⟨i, p, rfl, h, h1⟩)⟩
  · exact o.elim

/-! ### two-place operations -/
def e2 (op : D → D → R D) (f g : Fr → R D) : Fr → R D := fun ρ => (f ρ).bind fun x => (g ρ).bind fun y => op x y
def e1 (op : D → R D) (f : Fr → R D) : Fr → R D := fun ρ => (f ρ).bind op
/-- what op makes of data is what r makes of values -/
def OpS (c : Ct) (k : Kd) (r : R2) (op : D → D → R D) : Prop := ∀ (H0 : Bs) (F H : Hp) (σ : L2.St) (ρ : Fr) (E : XK) (v w : V) (x y : D) (Q : VK), FR c H0 F H σ ρ → RepB c F σ ρ v x → RepB c F σ ρ w y →
  Out c E H0 F σ ρ (op x y) (fun d F' H' => ∀ v, Tell c H0 σ ρ k v d F' H' → Q v H') → r v w H Q
def UnS (c : Ct) (k : Kd) (r : V → Hp → VK → Prop) (op : D → R D) : Prop := ∀ (H0 : Bs) (F H : Hp) (σ : L2.St) (ρ : Fr) (E : XK) (v : V) (x : D) (Q : VK), FR c H0 F H σ ρ → RepB c F σ ρ v x →
  Out c E H0 F σ ρ (op x) (fun d F' H' => ∀ v, Tell c H0 σ ρ k v d F' H' → Q v H') → r v H Q
theorem p_op {op : Operator} {r : R2} {o : D → D → R D} (ho : OpR X (binaryOp op) r) (hs : OpS (ct X T) k r o) (ha : P X T E .b a f) (hb : P X T E .b b g) : P X T E k (.BinOp a op b pos) (e2 o f g) :=
  PE.mono (pe_op ho ha hb) fun σ H Q ⟨H0, F, ρ, fr, ou⟩ => ⟨H0, F, ρ, fr, ou.split.imp fun x F1 H1 e1 fr1 o1 v rv => ⟨H0, F1, ρ, fr1, o1.split.imp fun y F2 H2 e2 fr2 o2 w rw => hs H0 F2 H2 σ ρ E v w x y Q fr2 (rv.ext e2) rw o2⟩⟩
theorem p_un {op : UnaryOp} {r : V → Hp → VK → Prop} {o : D → R D} (ho : UnR X (unaryOp op) r) (hs : UnS (ct X T) k r o) (ha : P X T E .b a f) : P X T E k (.UnaryOp op a pos) (e1 o f) :=
  PE.mono (pe_un ho ha) fun σ H Q ⟨H0, F, ρ, fr, ou⟩ => ⟨H0, F, ρ, fr, ou.split.imp fun x F1 H1 e1 fr1 o1 v rv => hs H0 F1 H1 σ ρ E v x Q fr1 rv o1⟩
end
end PB

namespace PB
open PySem PySem.Spec PyProof.Rows L2 LamX

/-! ### data as the library's data -/
mutual
def D.py : D → PyData
  | .non => .none
  | .bl b => .bool b
  | .int i => .int i
  | .str x => .str x
  | .lst xs => .list (D.pys xs)
  | .tup xs => .tuple (D.pys xs)
  | .ty _ => .dict []
  | .fn _ => .dict []
  | .exc _ _ => .dict []
  | .scr _ => .dict []
  | .dk _ => .dict []
  | .dt _ => .dict []
def D.pys : List D → List PyData
  | [] => []
  | x :: xs => x.py :: D.pys xs
end
theorem D.pys_map : ∀ xs : List D, D.pys xs = xs.map D.py
  | [] => by simp only [D.pys, List.map_nil]
  | x :: xs => by simp only [D.pys, List.map_cons, D.pys_map xs]
section
variable {c : Ct} {H : Hp}
mutual
theorem Rep.dp : ∀ {v : V} {d : D}, Rep c H v d → d.py.canLay0 = true → Dp c.K H v d.py
  | _, _, .non, _ => by rw [D.py]; exact .non
  | _, _, .bl b, _ => by rw [D.py]; exact .bl b
  | _, _, .int i, _ => by rw [D.py]; exact .int i
  | _, _, .str x, _ => by rw [D.py]; exact .str x
  | _, _, .ty n, h => by rw [D.py, PyData.canLay0] at h; cases h
  | _, _, .fn _, h => by rw [D.py, PyData.canLay0] at h; cases h
  | _, _, .exc _ _, h => by rw [D.py, PyData.canLay0] at h; cases h
  | _, _, .scr _, h => by rw [D.py, PyData.canLay0] at h; cases h
  | _, _, .dk _ _ _, h => by rw [D.py, PyData.canLay0] at h; cases h
  | _, _, .dt _ _ _, h => by rw [D.py, PyData.canLay0] at h; cases h
  | _, _, .lst h r, l => by
    rw [D.py] at l ⊢
    rw [PyData.canLay0] at l
    exact .lst (.of h) (Reps.dp r l)
  | _, _, .tup h r, l => by
    rw [D.py] at l ⊢
    rw [PyData.canLay0] at l
    exact .tup (.of h) (Reps.dp r l)
theorem Reps.dp : ∀ {vs : List V} {ds : List D}, Reps c H vs ds → PyData.canLayAll0 (D.pys ds) = true → DpAll c.K H vs (D.pys ds)
  | _, _, .nil, _ => by rw [D.pys]; exact .nil
  | _, _, .cons h r, l => by
    rw [D.pys] at l ⊢
    rw [PyData.canLayAll0, Bool.and_eq_true] at l
    exact .cons (Rep.dp h l.1) (Reps.dp r l.2)
end
end

/-! ### operations on data -/
def addD : D → D → R D
  | .int i, .int j => .ok (.int (i + j))
  | .str x, .str y => if x.length + y.length ≤ sizeLine then .ok (.str (x ++ y)) else .stuck
  | .lst xs, .lst ys => if xs.length + ys.length ≤ sizeLine then .ok (.lst (xs ++ ys)) else .stuck
  | .tup xs, .tup ys => if xs.length + ys.length ≤ sizeLine then .ok (.tup (xs ++ ys)) else .stuck
  | _, _ => .stuck
def subD : D → D → R D
  | .int i, .int j => .ok (.int (i - j))
  | _, _ => .stuck
def mulD : D → D → R D
  | .int i, .int j => if i.natAbs < 2 ^ 64 ∨ j.natAbs < 2 ^ 64 then .ok (.int (i * j)) else .stuck
  | .lst xs, .int k => if 0 ≤ k ∧ k ≤ 2 ^ 20 ∧ xs.length * k.toNat ≤ sizeLine then .ok (.lst (List.replicate k.toNat xs).flatten) else .stuck
  | .tup xs, .int k => if 0 ≤ k ∧ k ≤ 1000 ∧ xs.length ≤ 1000 then .ok (.tup (List.replicate k.toNat xs).flatten)
      else .stuck
  | _, _ => .stuck
def fdivD : D → D → R D
  | .int i, .int j => if 0 < j ∧ j < 2 ^ 4000 then .ok (.int (i / j)) else .stuck
  | _, _ => .stuck
def modD : D → D → R D
  | .int i, .int j => if 0 < j then .ok (.int (i % j)) else .stuck
  | _, _ => .stuck
def powD : D → D → R D
  | .int i, .int j => if 0 ≤ j ∧ j ≤ 1000000 ∧ i.natAbs < 2 ^ 64 then .ok (.int (i ^ j.toNat)) else .stuck
  | _, _ => .stuck
def shlD : D → D → R D
  | .int i, .int j => if 0 ≤ j ∧ j ≤ 1000000 ∧ i.natAbs < 2 ^ 64 then .ok (.int (i * 2 ^ j.toNat)) else .stuck
  | _, _ => .stuck
def negD : D → R D
  | .int i => .ok (.int (-i))
  | _ => .stuck
def cmpD (p : Int → Int → Bool) : D → D → R D
  | .int i, .int j => .ok (.bl (p i j))
  | _, _ => .stuck
/-- the ints of data that are ints -/
def D.ints : List D → Option (List Int)
  | [] => some []
  | .int i :: r => (D.ints r).map (i :: ·)
  | _ :: _ => none
def ltD : D → D → R D
  | .int i, .int j => .ok (.bl (decide (i < j)))
  | .tup xs, .tup ys => match D.ints xs, D.ints ys with
    | some ns, some ms => .ok (.bl (HT.lexLt ns ms))
    | _, _ => .stuck
  | _, _ => .stuck
/-- ns <= ms, item by item -/
def leTI (ns ms : List Int) : Bool := Ob.lexAt (fun j => decide (ns.getD j 0 = ms.getD j 0)) (fun j => decide (ns.getD j 0 ≤ ms.getD j 0)) (decide (ns.length ≤ ms.length)) 0 (min ns.length ms.length)
def leD : D → D → R D
  | .int i, .int j => .ok (.bl (decide (i ≤ j)))
  | .tup xs, .tup ys => match D.ints xs, D.ints ys with
    | some ns, some ms => .ok (.bl (leTI ns ms))
    | _, _ => .stuck
  | _, _ => .stuck
def gtD : D → D → R D := cmpD fun i j => decide (j < i)
def geD : D → D → R D := cmpD fun i j => decide (j ≤ i)
def eqD (x y : D) : R D := if SeqAt.shaped x.py = true ∧ SeqAt.shaped y.py = true then .ok (.bl (PyData.eqv x.py y.py)) else .stuck
def neD (x y : D) : R D := if SeqAt.shaped x.py = true ∧ SeqAt.shaped y.py = true then .ok (.bl (!PyData.eqv x.py y.py)) else .stuck
theorem D.ints_map : ∀ {xs : List D} {ns : List Int}, D.ints xs = some ns → xs = ns.map D.int
  | [], ns, h => by
    rw [D.ints] at h
    cases h
    rfl
  | x :: r, ns, h => by
    cases x <;> rw [D.ints] at h <;> first | cases h | skip
    cases q : D.ints r with
    | none => rw [q] at h; cases h
    | some ms =>
      rw [q] at h
      cases h
      rw [D.ints_map q]
      rfl
theorem D.ints_of (ns : List Int) : D.ints (ns.map D.int) = some ns := by
  induction ns with
  | nil => rfl
  | cons n ns ih => simp only [List.map_cons, D.ints, ih, Option.map_some]

section
variable {c : Ct} {E : XK} {H0 : Bs} {F H : Hp} {σ : L2.St} {ρ : Fr} {Q : VK} {p : Addr} {vs : List V} {ds : List D}
/-- a new list, a new tuple as a value -/
theorem new_lst (fr : FR c H0 F H σ ρ) (r : Reps c F vs ds) (o : Out c E H0 F σ ρ (.ok (.lst ds)) fun d F' H' => ∀ v, Tell c H0 σ ρ .f v d F' H' → Q v H') (hp : H p = none) : Q (.ref p) (upd H p (.lst vs)) := by
  have e : ExtN F (upd F p (.lst vs)) := ext_upd (fr.nun hp)
  exact o _ _ e (fr.newF hp) _ (.lst upd_same (r.ext e))
theorem new_tup (fr : FR c H0 F H σ ρ) (r : Reps c F vs ds) (o : Out c E H0 F σ ρ (.ok (.tup ds)) fun d F' H' => ∀ v, Tell c H0 σ ρ .f v d F' H' → Q v H') (hp : H p = none) : Q (.ref p) (upd H p (.tup vs)) := by
  have e : ExtN F (upd F p (.tup vs)) := ext_upd (fr.nun hp)
  exact o _ _ e (fr.newF hp) _ (.tup upd_same (r.ext e))
/-- a new list of the frame's own -/
theorem new_own (fr : FR c H0 F H σ ρ) (r : Reps c F vs ds) (o : Out c E H0 F σ ρ (.ok (.lst ds)) fun d F' H' => ∀ v, Tell c H0 σ ρ .n v d F' H' → Q v H') (hp : H p = none) : Q (.ref p) (upd H p (.lst vs)) :=
  o F _ (.refl F) (fr.newO (o := .lst vs) hp trivial) _ ⟨p, rfl, fr.newAt hp r⟩
theorem Reps.nil_of {ds : List D} (r : Reps c F [] ds) : ds = [] := by cases r; rfl
theorem Reps.nil_iff (r : Reps c F vs ds) : vs = [] ↔ ds = [] := by
  cases r with
  | nil => simp
  | cons _ _ => simp
theorem Reps.flat (n : Nat) (r : Reps c F vs ds) : Reps c F (List.replicate n vs).flatten (List.replicate n ds).flatten := by
  induction n with
  | zero => exact .nil
  | succ n ih =>
    rw [List.replicate_succ, List.replicate_succ, List.flatten_cons, List.flatten_cons]
    exact r.append ih
end

section
variable {X : Cx} {T : List (Addr × Str)} {c : Ct} {k : Kd}
theorem s_add : OpS (ct X T) .f (fun x y H Q => rI0 (fun i j => .int (i + j)) x y H Q ∨ (∃ i j, x = V.str i ∧ y = V.str j ∧ i.length + j.length ≤ sizeLine ∧ Q (.str (i ++ j)) H) ∨ rCat x y H Q ∨ rCatA X.K x y H Q) addD := by
  intro H0 F H σ ρ E v w x y Q fr rx ry o
  unfold addD at o
  split at o
  · cases rx.int fr
    cases ry.int fr
    exact .inl ⟨_, _, rfl, rfl, o.here fr rfl _ (.int _)⟩
  · split at o
    · rename_i hl
      cases rx.str fr
      cases ry.str fr
      exact .inr (.inl ⟨_, _, rfl, rfl, hl, o.here fr rfl _ (.str _)⟩)
    · exact o.elim
  · split at o
    · rename_i xs ys hl
      obtain ⟨a, vs, rfl, h1, r1⟩ := rx.lst fr
      obtain ⟨b, ws, rfl, h2, r2⟩ := ry.lst fr
      exact .inr (.inr (.inl ⟨a, b, vs, ws, rfl, rfl, h1, h2, by rw [r1.length, r2.length]; exact hl, fun p hp => new_lst fr (r1.append r2) o hp⟩))
    · exact o.elim
  · split at o
    · rename_i xs ys hl
      obtain ⟨a, vs, rfl, h1, h1', r1⟩ := rx.tup fr
      obtain ⟨b, ws, rfl, h2, h2', r2⟩ := ry.tup fr
      refine .inr (.inr (.inr ⟨a, b, vs, ws, rfl, rfl, .of h1, .of h2, by rw [r1.length, r2.length]; exact hl, fun e => ?_, fun _ e => ?_, fun _ _ p hp => new_tup fr (r1.append r2) o hp⟩))
      · rw [r1.nil_iff.mp e] at o
        exact o.here fr rfl _ (.tup h2' r2)
      · rw [r2.nil_iff.mp e, List.append_nil] at o
        exact o.here fr rfl _ (.tup h1' r1)
    · exact o.elim
  · exact o.elim
theorem s_int {g : Int → Int → Int} {o : D → D → R D} (h : ∀ x y, (∃ i j, x = .int i ∧ y = .int j ∧ o x y = .ok (.int (g i j))) ∨ o x y = .stuck) : OpS (ct X T) .f (rI0 fun i j => .int (g i j)) o := by
  intro H0 F H σ ρ E v w x y Q fr rx ry ou
  rcases h x y with ⟨i, j, rfl, rfl, e⟩ | e
  · cases rx.int fr
    cases ry.int fr
    rw [e] at ou
    exact ⟨_, _, rfl, rfl, ou.here fr rfl _ (.int _)⟩
  · rw [e] at ou
    exact ou.elim
theorem s_intC {C : Int → Int → Prop} {g : Int → Int → Int} {o : D → D → R D} (h : ∀ x y, (∃ i j, x = .int i ∧ y = .int j ∧ C i j ∧ o x y = .ok (.int (g i j))) ∨ o x y = .stuck) : OpS (ct X T) .f (rI C fun i j => .int (g i j)) o := by
  intro H0 F H σ ρ E v w x y Q fr rx ry ou
  rcases h x y with ⟨i, j, rfl, rfl, hc, e⟩ | e
  · cases rx.int fr
    cases ry.int fr
    rw [e] at ou
    exact ⟨_, _, rfl, rfl, hc, ou.here fr rfl _ (.int _)⟩
  · rw [e] at ou
    exact ou.elim
theorem s_bl {g : Int → Int → Bool} : OpS (ct X T) .f (rI0 fun i j => .bl (g i j)) (cmpD g) := by
  intro H0 F H σ ρ E v w x y Q fr rx ry o
  unfold cmpD at o
  split at o
  · cases rx.int fr
    cases ry.int fr
    exact ⟨_, _, rfl, rfl, o.here fr rfl _ (.bl _)⟩
  · exact o.elim
theorem s_sub : OpS (ct X T) .f (rI0 fun i j => .int (i - j)) subD := s_int fun x y => by
  cases x <;> first | exact .inr rfl | (cases y <;> first | exact .inr rfl | exact .inl ⟨_, _, rfl, rfl, rfl⟩)
theorem s_fdiv : OpS (ct X T) .f (rI CDivW fun i j => .int (i / j)) fdivD := s_intC fun x y => by
  cases x <;> first | exact .inr rfl | (cases y <;> first | exact .inr rfl | skip)
  rename_i i j
  by_cases h : 0 < j ∧ j < 2 ^ 4000
  · exact .inl ⟨i, j, rfl, rfl, wide_div (b := 4000) h.1 (by have := h.1; have := h.2; omega) (by decide) (by decide), if_pos h⟩
  · exact .inr (if_neg h)
theorem s_mod : OpS (ct X T) .f (rI (fun _ j => 0 < j) fun i j => .int (i % j)) modD := s_intC fun x y => by
  cases x <;> first | exact .inr rfl | (cases y <;> first | exact .inr rfl | skip)
  rename_i i j
  by_cases h : 0 < j
  · exact .inl ⟨i, j, rfl, rfl, h, if_pos h⟩
  · exact .inr (if_neg h)
theorem s_pow : OpS (ct X T) .f (rI CPow fun i j => .int (i ^ j.toNat)) powD := s_intC fun x y => by
  cases x <;> first | exact .inr rfl | (cases y <;> first | exact .inr rfl | skip)
  rename_i i j
  by_cases h : 0 ≤ j ∧ j ≤ 1000000 ∧ i.natAbs < 2 ^ 64
  · exact .inl ⟨i, j, rfl, rfl, h, if_pos h⟩
  · exact .inr (if_neg h)
theorem s_shl : OpS (ct X T) .f (rI CPow fun i j => .int (i * 2 ^ j.toNat)) shlD := s_intC fun x y => by
  cases x <;> first | exact .inr rfl | (cases y <;> first | exact .inr rfl | skip)
  rename_i i j
  by_cases h : 0 ≤ j ∧ j ≤ 1000000 ∧ i.natAbs < 2 ^ 64
  · exact .inl ⟨i, j, rfl, rfl, h, if_pos h⟩
  · exact .inr (if_neg h)
theorem s_neg : UnS (ct X T) .f (rU fun i => .int (-i)) negD := by
  intro H0 F H σ ρ E v x Q fr rx o
  unfold negD at o
  split at o
  · cases rx.int fr
    exact ⟨_, rfl, o.here fr rfl _ (.int _)⟩
  · exact o.elim
theorem Rep.ints_of {F : Hp} {vs : List V} {ds : List D} {ns : List Int} (r : Reps c F vs ds) (h : D.ints ds = some ns) : vs = ns.map V.int := by
  rw [D.ints_map h] at r
  exact r.ints
theorem s_lt : OpS (ct X T) .f (fun x y H Q => rI0 (fun i j => .bl (decide (i < j))) x y H Q ∨ rLtT X.K x y H Q) ltD := by
  intro H0 F H σ ρ E v w x y Q fr rx ry o
  unfold ltD at o
  split at o
  · cases rx.int fr
    cases ry.int fr
    exact .inl ⟨_, _, rfl, rfl, o.here fr rfl _ (.bl _)⟩
  · split at o
    · rename_i xs ys ns ms e1 e2
      obtain ⟨a, vs, rfl, h1, h1', r1⟩ := rx.tup fr
      obtain ⟨b, ws, rfl, h2, h2', r2⟩ := ry.tup fr
      cases Rep.ints_of r1 e1
      cases Rep.ints_of r2 e2
      exact .inr ⟨a, b, ns, ms, rfl, rfl, .of h1, .of h2, o.here fr rfl _ (.bl _)⟩
    · exact o.elim
  · exact o.elim
theorem s_le : OpS (ct X T) .f (fun x y H Q => rI0 (fun i j => .bl (decide (i ≤ j))) x y H Q ∨ rLeT X.K x y H Q) leD := by
  intro H0 F H σ ρ E v w x y Q fr rx ry o
  unfold leD at o
  split at o
  · cases rx.int fr
    cases ry.int fr
    exact .inl ⟨_, _, rfl, rfl, o.here fr rfl _ (.bl _)⟩
  · split at o
    · rename_i xs ys ns ms e1 e2
      obtain ⟨a, vs, rfl, h1, h1', r1⟩ := rx.tup fr
      obtain ⟨b, ws, rfl, h2, h2', r2⟩ := ry.tup fr
      cases Rep.ints_of r1 e1
      cases Rep.ints_of r2 e2
      exact .inr ⟨a, b, ns, ms, rfl, rfl, .of h1, .of h2, o.here fr rfl _ (.bl _)⟩
    · exact o.elim
  · exact o.elim
theorem s_eq : OpS (ct X T) .f (rEqD X.K) eqD := by
  intro H0 F H σ ρ E v w x y Q fr rx ry o
  unfold eqD at o
  split at o
  · rename_i h
    have r1 := Rep.dp (rx.whole fr) (SeqAt.canLay_of_shaped h.1)
    have r2 := Rep.dp (ry.whole fr) (SeqAt.canLay_of_shaped h.2)
    exact ⟨_, _, r1, r2, h.1, h.2, o.here fr rfl _ (.bl _)⟩
  · exact o.elim
theorem s_ne : OpS (ct X T) .f (rNeD X.K) neD := by
  intro H0 F H σ ρ E v w x y Q fr rx ry o
  unfold neD at o
  split at o
  · rename_i h
    have r1 := Rep.dp (rx.whole fr) (SeqAt.canLay_of_shaped h.1)
    have r2 := Rep.dp (ry.whole fr) (SeqAt.canLay_of_shaped h.2)
    exact ⟨_, _, r1, r2, h.1, h.2, o.here fr rfl _ (.bl _)⟩
  · exact o.elim
end
end PB

namespace PB
open PySem PySem.Spec PyProof.Rows L2 LamX
/-! ### tuple * int, the two small cases -/
theorem tuple_mul1 (l : Addr) (items : Array Value) (n : Nat) (dd : Option Addr) (sl : Array (Option Value)) (x : Int) (u : Tok) (c0 : (decide (x < -(2 ^ 63)) || decide (x ≥ 2 ^ 63)) = false) (c1 : (items.isEmpty || x == 1) = true) :
    Meets (Builtin.«tuple.__mul__» ⟨[.ref l, .int x u], []⟩) (fun _ R s => s.heap.get? l = some { cls := .type "tuple", dict := dd, data := .seq items n, slots := sl } ∧ R (.ok (.ret (Value.ref l))) s) :=
  .of_wp fun prog w A R s h => by
    obtain ⟨hp, g, d, tk, os⟩ := s
    obtain ⟨hl, h⟩ := h
    have f1 := AutoSeq1.idx_int
    wp_walk using wpAny_loadPart' hl
    repeat (first
      | (refine wpAny_ite_false (decide_eq_false (by rw [c0]; exact Bool.false_ne_true)) ?_; wp_walk using wpAny_loadPart' hl)
      | (refine wpAny_ite_true (decide_eq_true (by rw [c1])) ?_; wp_walk using wpAny_loadPart' hl))
    exact ⟨_, rfl, h⟩
theorem tuple_mul0 (l : Addr) (items : Array Value) (n : Nat) (dd : Option Addr) (sl : Array (Option Value)) (x : Int) (u : Tok) (c0 : (decide (x < -(2 ^ 63)) || decide (x ≥ 2 ^ 63)) = false) (c1 : (items.isEmpty || x == 1) = false) (c2 : (decide (x ≤ 0) || items.isEmpty) = true) :
    Meets (Builtin.«tuple.__mul__» ⟨[.ref l, .int x u], []⟩) (fun _ R s => s.heap.get? l = some { cls := .type "tuple", dict := dd, data := .seq items n, slots := sl } ∧
      R (.ok (.ret (Value.ref s.heap.objs.size))) { s with heap := s.heap.push { cls := Value.type "tuple", data := Data.seq #[] }, toks := s.toks }) :=
  .of_wp fun prog w A R s h => by
    obtain ⟨hp, g, d, tk, os⟩ := s
    obtain ⟨hl, h⟩ := h
    have f1 := AutoSeq1.idx_int
    wp_walk using wpAny_loadPart' hl
    repeat (first
      | (refine wpAny_ite_false (decide_eq_false (by rw [c0]; exact Bool.false_ne_true)) ?_; wp_walk using wpAny_loadPart' hl)
      | (refine wpAny_ite_false (decide_eq_false (by rw [c1]; exact Bool.false_ne_true)) ?_; wp_walk using wpAny_loadPart' hl)
      | (refine wpAny_ite_true (decide_eq_true (by rw [c2])) ?_; wp_walk using wpAny_loadPart' hl))
    exact ⟨_, rfl, h⟩
/-- tuple * k, whatever k -/
def rRepA (K : PySem.W.Frag) : R2 := fun x y H Q => ∃ l k xs, x = .ref l ∧ y = .int k ∧ SqT K H l xs ∧ k ≤ 1000 ∧ -1000 ≤ k ∧ xs.length ≤ 1000 ∧
  ((xs = [] ∨ k = 1) → Q (.ref l) H) ∧ (xs ≠ [] → k ≤ 0 → ∀ p, H p = none → Q (.ref p) (upd H p (.tup []))) ∧ (xs ≠ [] → 2 ≤ k → ∀ p, H p = none → Q (.ref p) (upd H p (.tup (List.replicate k.toNat xs).flatten)))
theorem op_repA {X : Cx} : OpR X (binaryOp .Mult) (rRepA X.K) := by
  intro pins s σ H x y v u Q I rx ry h
  obtain ⟨l, k, xs, e1, e2, hT, h1, h0, hz, q1, q0, q2⟩ := h
  by_cases hx : xs = [] ∨ k = 1
  · have q := q1 hx
    subst e1 e2
    cases rx
    obtain ⟨t, rfl⟩ := ry
    obtain ⟨its, r, ⟨⟨cls, dd, data, sl⟩, ho, hc, n, hd⟩, hs⟩ := I.tuple hT
    simp only at hc hd
    subst hc hd
    have c0 : (decide (k < -(2 ^ 63)) || decide (k ≥ 2 ^ 63)) = false := by
      rw [decide_eq_false (by omega), decide_eq_false (by omega)] <;> rfl
    have c1 : (its.toArray.isEmpty || k == 1) = true := by
      rcases hx with hx | hx
      · rw [hx] at r
        cases r
        rfl
      · rw [hx]
        simp
    exact wpAny_binaryOp_repeat_ref (T := "tuple") (U := "int") (by decide) ⟨_, ho, rfl⟩ (fun s' => typeIs_int s' k t) noFill_tuple_mul F.fills_int_mul F.slot_int_rmul repeat_tuple F.slot_int_index.lookup
      (call_meets F.slot_int_rmul (typeIs_int s k t) F.entry_int_rmul (F.args_int_rmul_2 _ _) (int_rmul_tuple k t l its.toArray n dd sl)
        ⟨ho, rfl, ⟨_, ho, rfl⟩, call_meets F.slot_tuple_mul ⟨_, ho, rfl⟩ F.entry_tuple_mul (F.args_tuple_mul_2 _ _) (tuple_mul1 l its.toArray n dd sl k t c0 c1) ⟨ho, ⟨.ref l, H, I, rfl, q⟩⟩⟩)
  · have hx1 : xs ≠ [] := fun e => hx (.inl e)
    have hk : k ≠ 1 := fun e => hx (.inr e)
    by_cases h2 : 2 ≤ k
    · exact op_repT pins s σ H x y v u Q I rx ry ⟨l, k, xs, e1, e2, hT, hx1, h2, h1, hz, q2 hx1 h2⟩
    · have hk0 : k ≤ 0 := by omega
      have q := q0 hx1 hk0
      subst e1 e2
      cases rx
      obtain ⟨t, rfl⟩ := ry
      obtain ⟨its, r, ⟨⟨cls, dd, data, sl⟩, ho, hc, n, hd⟩, hs⟩ := I.tuple hT
      simp only at hc hd
      subst hc hd
      have hn : its ≠ [] := fun e => hx1 (by
        rw [e] at r
        cases r
        rfl)
      have hi : its.toArray.isEmpty = false := by
        cases its with
        | nil => exact absurd rfl hn
        | cons a b => rfl
      have c0 : (decide (k < -(2 ^ 63)) || decide (k ≥ 2 ^ 63)) = false := by
        rw [decide_eq_false (by omega), decide_eq_false (by omega)] <;> rfl
      have c1 : (its.toArray.isEmpty || k == 1) = false := by
        rw [hi, Bool.false_or]
        exact beq_eq_false_iff_ne.mpr (by omega)
      have c2 : (decide (k ≤ 0) || its.toArray.isEmpty) = true := by
        rw [decide_eq_true hk0]
        rfl
      refine wpAny_binaryOp_repeat_ref (T := "tuple") (U := "int") (by decide) ⟨_, ho, rfl⟩ (fun s' => typeIs_int s' k t) noFill_tuple_mul F.fills_int_mul F.slot_int_rmul repeat_tuple F.slot_int_index.lookup
        (call_meets F.slot_int_rmul (typeIs_int s k t) F.entry_int_rmul (F.args_int_rmul_2 _ _) (int_rmul_tuple k t l its.toArray n dd sl)
          ⟨ho, rfl, ⟨_, ho, rfl⟩, call_meets F.slot_tuple_mul ⟨_, ho, rfl⟩ F.entry_tuple_mul (F.args_tuple_mul_2 _ _) (tuple_mul0 l its.toArray n dd sl k t c0 c1 c2) ⟨ho, ?_⟩⟩)
      refine ⟨.ref s.heap.objs.size, _, I.laid (t' := s.toks) (o := .tup []) (fun b ob q => Heap.get?_push_of_some _ q) (Nat.le_refl _) ?_, rfl, q _ (I.hok.fresh (Nat.le_refl _))⟩
      exact ⟨Nat.zero_le _, [], .nil, IsTup.new _ _⟩
/-- x in t, t a tuple, the items of any depth -/
def rInDT (K : PySem.W.Frag) (no : Bool) : R2 := fun x y H Q => ∃ d ds, Dp K H x d ∧ Dp K H y (.tuple ds) ∧ SeqAt.shaped d = true ∧ SeqAt.shaped (.tuple ds) = true ∧ Q (.bl (no != ds.any fun z => PyData.eqv z d)) H
theorem room_in_shapedT {A : Around} {d : PyData} {n : Nat} (h : SeqAt.shaped d = true) (hu : A.units + 65 < cLine) : A.units + 1 + min n d.depth < cLine := by
  have h1 := SeqAt.depth_of_shaped h
  have h2 : min n d.depth ≤ d.depth := Nat.min_le_right _ _
  omega
theorem op_inDT {X : Cx} (hu : X.A.units + 65 < cLine) : OpR X (compareOp .In) (rInDT X.K false) := by
  intro pins s σ H x y v u Q I rx ry h
  obtain ⟨d, ds, hd, he, sd, se, q⟩ := h
  obtain ⟨as, r1⟩ := Dp.reads I d x v hd rx
  obtain ⟨bs, r2⟩ := Dp.reads I (.tuple ds) y u he ry
  exact SeqAt.in_tuple_reads r2 r1 (SeqAt.canLay_of_shaped se) (SeqAt.canLay_of_shaped sd) (room_in_shapedT sd hu) ⟨.bl _, H, I, by rw [Bool.false_bne]; rfl, q⟩
theorem op_notInDT {X : Cx} (hu : X.A.units + 65 < cLine) : OpR X (compareOp .NotIn) (rInDT X.K true) := by
  intro pins s σ H x y v u Q I rx ry h
  obtain ⟨d, ds, hd, he, sd, se, q⟩ := h
  obtain ⟨as, r1⟩ := Dp.reads I d x v hd rx
  obtain ⟨bs, r2⟩ := Dp.reads I (.tuple ds) y u he ry
  exact SeqAt.notIn_tuple_reads r2 r1 (SeqAt.canLay_of_shaped se) (SeqAt.canLay_of_shaped sd) (room_in_shapedT sd hu) ⟨.bl _, H, I, by rw [Bool.true_bne]; rfl, q⟩
end PB

namespace PB
open PySem PySem.Spec PyProof.Rows L2 LamX

/-! ### dicts -/
section
variable {κ : Type} [DecidableEq κ]
def valD (es : List (κ × D)) (k : κ) : Option D := (es.find? fun kv => decide (kv.1 = k)).map (·.2)
def putD (es : List (κ × D)) (k : κ) (d : D) : List (κ × D) :=
  if (es.any fun kv => decide (kv.1 = k)) = true then es.map (fun kv => if kv.1 = k then (kv.1, d) else kv) else es ++ [(k, d)]
variable {c : Ct} {F : Hp}
theorem val_rep (k : κ) : ∀ {kvs : List (κ × V)} {es : List (κ × D)}, kvs.map (·.1) = es.map (·.1) → Reps c F (kvs.map (·.2)) (es.map (·.2)) →
    (valD es k = none ∧ valV kvs k = none) ∨ ∃ v d, valD es k = some d ∧ valV kvs k = some v ∧ Rep c F v d
  | [], [], _, _ => .inl ⟨rfl, rfl⟩
  | [], _ :: _, h, _ => by simp at h
  | _ :: _, [], h, _ => by simp at h
  | p :: kvs, q :: es, h, r => by
    simp only [List.map_cons, List.cons.injEq] at h
    obtain ⟨h1, h2⟩ := h
    cases r with
    | cons rp rr =>
      by_cases e : p.1 = k
      · refine .inr ⟨p.2, q.2, ?_, valV_pos e, rp⟩
        unfold valD
        rw [List.find?_cons, show decide (q.1 = k) = true from decide_eq_true (h1 ▸ e)]
        rfl
      · have e' : ¬ q.1 = k := fun z => e (h1.trans z)
        rw [valV_neg e]
        have : valD (q :: es) k = valD es k := by
          unfold valD
          rw [List.find?_cons, show decide (q.1 = k) = false from decide_eq_false e']
        rw [this]
        exact val_rep k h2 rr
theorem any_keys {α β : Type} (k : κ) : ∀ {kvs : List (κ × α)} {es : List (κ × β)}, kvs.map (·.1) = es.map (·.1) → (kvs.any fun kv => decide (kv.1 = k)) = es.any fun kv => decide (kv.1 = k)
  | [], [], _ => rfl
  | [], _ :: _, h => by simp at h
  | _ :: _, [], h => by simp at h
  | p :: kvs, q :: es, h => by
    simp only [List.map_cons, List.cons.injEq] at h
    rw [List.any_cons, List.any_cons, h.1, any_keys k h.2]
theorem put_keys {α β : Type} {kvs : List (κ × α)} {es : List (κ × β)} (k : κ) (v : α) (d : β) (f : κ × α → κ × α) (g : κ × β → κ × β) (hf : ∀ p, (f p).1 = p.1) (hg : ∀ p, (g p).1 = p.1) (h : kvs.map (·.1) = es.map (·.1)) : (kvs.map f).map (·.1) = (es.map g).map (·.1) := by
  rw [List.map_map, List.map_map]
  have e1 : ((fun x : κ × α => x.1) ∘ f) = fun x => x.1 := funext hf
  have e2 : ((fun x : κ × β => x.1) ∘ g) = fun x => x.1 := funext hg
  rw [e1, e2, h]
theorem repl_rep (k : κ) {v : V} {d : D} (rv : Rep c F v d) : ∀ {kvs : List (κ × V)} {es : List (κ × D)}, kvs.map (·.1) = es.map (·.1) → Reps c F (kvs.map (·.2)) (es.map (·.2)) →
    Reps c F ((kvs.map fun kv => if kv.1 = k then (kv.1, v) else kv).map (·.2)) ((es.map fun kv => if kv.1 = k then (kv.1, d) else kv).map (·.2))
  | [], [], _, _ => .nil
  | [], _ :: _, h, _ => by simp at h
  | _ :: _, [], h, _ => by simp at h
  | p :: kvs, q :: es, h, r => by
    simp only [List.map_cons, List.cons.injEq] at h
    obtain ⟨h1, h2⟩ := h
    cases r with
    | cons rp rr =>
      simp only [List.map_cons]
      refine .cons ?_ (repl_rep k rv h2 rr)
      by_cases e : p.1 = k
      · rw [if_pos e, if_pos (h1 ▸ e)]
        exact rv
      · rw [if_neg e, if_neg (fun z => e (h1.trans z))]
        exact rp
theorem put_rep {kvs : List (κ × V)} {es : List (κ × D)} {k : κ} {v : V} {d : D} (h : kvs.map (·.1) = es.map (·.1)) (r : Reps c F (kvs.map (·.2)) (es.map (·.2))) (rv : Rep c F v d) :
    (putK kvs k v).map (·.1) = (putD es k d).map (·.1) ∧ Reps c F ((putK kvs k v).map (·.2)) ((putD es k d).map (·.2)) := by
  unfold putK putD
  rw [any_keys k h]
  by_cases e : (es.any fun kv => decide (kv.1 = k)) = true
  · rw [if_pos e, if_pos e]
    exact ⟨put_keys k v d _ _ (fun p => by split <;> rfl) (fun p => by split <;> rfl) h, repl_rep k rv h r⟩
  · rw [if_neg e, if_neg e]
    refine ⟨by simp [h], ?_⟩
    rw [List.map_append, List.map_append]
    exact r.append (.cons rv .nil)
end
def D.key : D → Option Key
  | .int i => some (.inl i)
  | .str x => some (.inr x)
  | _ => none
def D.keys : List D → Option (List Key)
  | [] => some []
  | x :: r => match x.key, D.keys r with
    | some k, some ks => some (k :: ks)
    | _, _ => none
def D.tkey : D → Option (List Key)
  | .tup xs => D.keys xs
  | _ => none
def keyD : Key → D
  | .inl i => .int i
  | .inr x => .str x
section
variable {c : Ct} {H0 : Bs} {F H : Hp} {σ : L2.St} {ρ : Fr}
theorem rep_key {v : V} {x : D} {k : Key} (fr : FR c H0 F H σ ρ) (r : RepB c F σ ρ v x) (h : x.key = some k) : v = kV k := by
  cases x <;> first | (cases h; done) | skip
  · cases h
    exact r.int fr
  · cases h
    exact r.str fr
theorem reps_keys : ∀ {vs : List V} {ds : List D} {ks : List Key}, Reps c F vs ds → D.keys ds = some ks → vs = ks.map kV
  | _, _, _, .nil, h => by cases h; rfl
  | _, _, _, .cons (d := d) (ds := ds) hd r, h => by
    rw [D.keys] at h
    cases e1 : d.key with
    | none => rw [e1] at h; cases h
    | some k =>
      cases e2 : D.keys ds with
      | none => rw [e1, e2] at h; cases h
      | some ks =>
        rw [e1, e2] at h
        cases h
        rw [reps_keys r e2, List.map_cons]
        congr 1
        cases d <;> first | (cases e1; done) | skip
        · cases e1; cases hd; rfl
        · cases e1; cases hd; rfl
theorem rep_tkey {v : V} {x : D} {k : List Key} (fr : FR c H0 F H σ ρ) (r : RepB c F σ ρ v x) (h : x.tkey = some k) : ∃ b, v = .ref b ∧ H b = some (.tup (k.map kV)) ∧ F b = some (.tup (k.map kV)) := by
  cases x <;> first | (cases h; done) | skip
  rename_i ds
  obtain ⟨b, vs, rfl, h1, h2, r⟩ := r.tup fr
  rw [reps_keys r h] at h1 h2
  exact ⟨b, rfl, h1, h2⟩
end

/-! ### in, subscripts -/
def inD (x y : D) : R D := match y with
  | .lst ds => if SeqAt.shaped x.py = true ∧ SeqAt.shaped y.py = true then .ok (.bl (ds.any fun z => PyData.eqv z.py x.py)) else .stuck
  | .tup ds => if SeqAt.shaped x.py = true ∧ SeqAt.shaped y.py = true then .ok (.bl (ds.any fun z => PyData.eqv z.py x.py)) else .stuck
  | .dk es => match x.key with
    | some k => .ok (.bl (valD es k).isSome)
    | none => .stuck
  | .dt es => match x.tkey with
    | some k => .ok (.bl (valD es k).isSome)
    | none => .stuck
  | .str z => match x with
    | .str ⟨a⟩ => match a.toList with
      | [n] => .ok (.bl (decide (n ∈ z.cps.toList)))
      | _ => .stuck
    | _ => .stuck
  | _ => .stuck
def notB : D → R D
  | .bl b => .ok (.bl (!b))
  | _ => .stuck
def notInD (x y : D) : R D := (inD x y).bind notB
def rDIn : R2 := fun y x H Q => ∃ a o, x = .ref a ∧ DGet H a y o ∧ Q (.bl o.isSome) H
def rDNotIn : R2 := fun y x H Q => ∃ a o, x = .ref a ∧ DGet H a y o ∧ Q (.bl (!o.isSome)) H
theorem op_dIn {X : Cx} (hu : X.A.units + 1 < cLine) : OpR X (compareOp .In) rDIn := by
  intro pins s σ H y x iv u Q I ry rx h
  obtain ⟨a, o, rfl, g, q⟩ := h
  obtain rfl : u = Value.ref a := rx
  exact d_in hu I g ry fun s3 I3 => ⟨.bl o.isSome, H, I3, rfl, q⟩
theorem op_dNotIn {X : Cx} (hu : X.A.units + 1 < cLine) : OpR X (compareOp .NotIn) rDNotIn := by
  intro pins s σ H y x iv u Q I ry rx h
  obtain ⟨a, o, rfl, g, q⟩ := h
  obtain rfl : u = Value.ref a := rx
  exact d_notIn hu I g ry fun s3 I3 => ⟨.bl (!o.isSome), H, I3, rfl, q⟩
def rIxDct : R2 := fun x y H Q => ∃ a v, x = .ref a ∧ DGet H a y (some v) ∧ Q v H
theorem ix_dct {X : Cx} (hu : X.A.units + 1 < cLine) : IxR X rIxDct := by
  intro value slice pins s σ H x y v u Q I rx ry h hs
  obtain ⟨a, r, rfl, g, q⟩ := h
  obtain rfl : v = Value.ref a := rx
  exact tail_any (dict_typeIs I g) slot_dict_getitem.lookup (d_getItem hu I g ry fun w' s3 I3 rw' => ⟨r, H, I3, rw', q⟩) hs
def atD {α : Type} (xs : List α) (i : Int) : Option α := (ixN xs.length i).bind fun j => xs[j]?
def ixD (x y : D) : R D := match x with
  | .lst ds => match y with
    | .int i => match atD ds i with
      | some d => .ok d
      | none => .stuck
    | _ => .stuck
  | .tup ds => match y with
    | .int i => match atD ds i with
      | some d => .ok d
      | none => .stuck
    | _ => .stuck
  | .scr ns => match y with
    | .int i => match atD ns i with
      | some n => .ok (.int n)
      | none => .stuck
    | _ => .stuck
  | .str z => match y with
    | .int i => match atD z.cps.toList i with
      | some n => if z.length ≤ sizeLine then .ok (.str ⟨#[n]⟩) else .stuck
      | none => .stuck
    | _ => .stuck
  | .dk es => match y.key with
    | some k => match valD es k with
      | some d => .ok d
      | none => .stuck
    | none => .stuck
  | .dt es => match y.tkey with
    | some k => match valD es k with
      | some d => .ok d
      | none => .stuck
    | none => .stuck
  | _ => .stuck
section
variable {X : Cx} {T : List (Addr × Str)} {c : Ct} {H0 : Bs} {F H : Hp} {σ : L2.St} {ρ : Fr}
theorem any_pys (xs : List D) (p : PyData → Bool) : (D.pys xs).any p = xs.any fun z => p z.py := by
  rw [D.pys_map, List.any_map]
  rfl
theorem dget_k (fr : FR c H0 F H σ ρ) {v w : V} {es : List (Key × D)} {y : D} {k : Key} (rx : RepB c F σ ρ v (.dk es)) (ry : RepB c F σ ρ w y) (hk : y.key = some k) :
    ∃ a, v = .ref a ∧ ((valD es k = none ∧ DGet H a w none) ∨ ∃ u d, valD es k = some d ∧ DGet H a w (some u) ∧ Rep c F u d) := by
  obtain ⟨a, kvs, rfl, h1, h2, r⟩ := rx.dk fr
  have e := rep_key fr ry hk
  refine ⟨a, rfl, ?_⟩
  rcases val_rep k h2 r with ⟨e1, e2⟩ | ⟨u, d, e1, e2, r⟩
  · exact .inl ⟨e1, .inl ⟨kvs, k, h1, e, e2.symm⟩⟩
  · exact .inr ⟨u, d, e1, .inl ⟨kvs, k, h1, e, e2.symm⟩, r⟩
theorem dget_t (fr : FR c H0 F H σ ρ) {v w : V} {es : List (List Key × D)} {y : D} {k : List Key} (rx : RepB c F σ ρ v (.dt es)) (ry : RepB c F σ ρ w y) (hk : y.tkey = some k) :
    ∃ a, v = .ref a ∧ ((valD es k = none ∧ DGet H a w none) ∨ ∃ u d, valD es k = some d ∧ DGet H a w (some u) ∧ Rep c F u d) := by
  obtain ⟨a, kvs, rfl, h1, h2, r⟩ := rx.dt fr
  obtain ⟨b, e, eb, _⟩ := rep_tkey fr ry hk
  refine ⟨a, rfl, ?_⟩
  rcases val_rep k h2 r with ⟨e1, e2⟩ | ⟨u, d, e1, e2, r⟩
  · exact .inl ⟨e1, .inr ⟨kvs, k, b, h1, e, eb, e2.symm⟩⟩
  · exact .inr ⟨u, d, e1, .inr ⟨kvs, k, b, h1, e, eb, e2.symm⟩, r⟩
theorem s_in : OpS (ct X T) .f (fun x y H Q => rInD X.K x y H Q ∨ rInDT X.K false x y H Q ∨ rDIn x y H Q ∨ (∃ (c : Nat) (z : Str), x = .str ⟨#[c]⟩ ∧ y = .str z ∧ Q (.bl (decide (c ∈ z.cps.toList))) H)) inD := by
  intro H0 F H σ ρ E v w x y Q fr rx ry o
  unfold inD at o
  split at o
  · split at o
    · rename_i ds h
      have r1 := Rep.dp (rx.whole fr) (SeqAt.canLay_of_shaped h.1)
      have r2 := Rep.dp (ry.whole fr) (SeqAt.canLay_of_shaped h.2)
      rw [D.py] at r2 h
      exact .inl ⟨_, _, r1, r2, h.1, h.2, o.here fr rfl _ (by rw [any_pys]; exact .bl _)⟩
    · exact o.elim
  · split at o
    · rename_i ds h
      have r1 := Rep.dp (rx.whole fr) (SeqAt.canLay_of_shaped h.1)
      have r2 := Rep.dp (ry.whole fr) (SeqAt.canLay_of_shaped h.2)
      rw [D.py] at r2 h
      exact .inr (.inl ⟨_, _, r1, r2, h.1, h.2, o.here fr rfl _ (by rw [any_pys, Bool.false_bne]; exact .bl _)⟩)
    · exact o.elim
  · split at o
    · rename_i es k hk
      obtain ⟨a, rfl, h⟩ := dget_k fr ry rx hk
      refine .inr (.inr (.inl ?_))
      rcases h with ⟨e1, g⟩ | ⟨u, d, e1, g, r⟩
      · rw [e1] at o
        exact ⟨a, _, rfl, g, o.here fr rfl _ (.bl _)⟩
      · rw [e1] at o
        exact ⟨a, _, rfl, g, o.here fr rfl _ (.bl _)⟩
    · exact o.elim
  · split at o
    · rename_i es k hk
      obtain ⟨a, rfl, h⟩ := dget_t fr ry rx hk
      refine .inr (.inr (.inl ?_))
      rcases h with ⟨e1, g⟩ | ⟨u, d, e1, g, r⟩
      · rw [e1] at o
        exact ⟨a, _, rfl, g, o.here fr rfl _ (.bl _)⟩
      · rw [e1] at o
        exact ⟨a, _, rfl, g, o.here fr rfl _ (.bl _)⟩
    · exact o.elim
  · split at o
    · split at o
      · rename_i z _ a _ n hn
        cases rx.str fr
        cases ry.str fr
        have ea : a = #[n] := by
          cases a
          simp only at hn
          rw [hn]
        subst ea
        exact .inr (.inr (.inr ⟨n, z, rfl, rfl, o.here fr rfl _ (.bl _)⟩))
      · exact o.elim
    · exact o.elim
  · exact o.elim
theorem s_notin : OpS (ct X T) .f (fun x y H Q => rNotInD X.K x y H Q ∨ rInDT X.K true x y H Q ∨ rDNotIn x y H Q ∨ (∃ (c : Nat) (z : Str), x = .str ⟨#[c]⟩ ∧ y = .str z ∧ Q (.bl (!decide (c ∈ z.cps.toList))) H)) notInD := by
  intro H0 F H σ ρ E v w x y Q fr rx ry o
  unfold notInD inD at o
  split at o
  · split at o
    · rename_i ds h
      have r1 := Rep.dp (rx.whole fr) (SeqAt.canLay_of_shaped h.1)
      have r2 := Rep.dp (ry.whole fr) (SeqAt.canLay_of_shaped h.2)
      rw [D.py] at r2 h
      exact .inl ⟨_, _, r1, r2, h.1, h.2, Out.here (m := .ok _) o fr rfl _ (by rw [any_pys]; exact .bl _)⟩
    · exact o.elim
  · split at o
    · rename_i ds h
      have r1 := Rep.dp (rx.whole fr) (SeqAt.canLay_of_shaped h.1)
      have r2 := Rep.dp (ry.whole fr) (SeqAt.canLay_of_shaped h.2)
      rw [D.py] at r2 h
      exact .inr (.inl ⟨_, _, r1, r2, h.1, h.2, Out.here (m := .ok _) o fr rfl _ (by rw [any_pys, Bool.true_bne]; exact .bl _)⟩)
    · exact o.elim
  · split at o
    · rename_i es k hk
      obtain ⟨a, rfl, h⟩ := dget_k fr ry rx hk
      refine .inr (.inr (.inl ?_))
      rcases h with ⟨e1, g⟩ | ⟨u, d, e1, g, r⟩
      · rw [e1] at o
        exact ⟨a, _, rfl, g, Out.here (m := .ok _) o fr rfl _ (.bl _)⟩
      · rw [e1] at o
        exact ⟨a, _, rfl, g, Out.here (m := .ok _) o fr rfl _ (.bl _)⟩
    · exact o.elim
  · split at o
    · rename_i es k hk
      obtain ⟨a, rfl, h⟩ := dget_t fr ry rx hk
      refine .inr (.inr (.inl ?_))
      rcases h with ⟨e1, g⟩ | ⟨u, d, e1, g, r⟩
      · rw [e1] at o
        exact ⟨a, _, rfl, g, Out.here (m := .ok _) o fr rfl _ (.bl _)⟩
      · rw [e1] at o
        exact ⟨a, _, rfl, g, Out.here (m := .ok _) o fr rfl _ (.bl _)⟩
    · exact o.elim
  · split at o
    · split at o
      · rename_i z _ a _ n hn
        cases rx.str fr
        cases ry.str fr
        have ea : a = #[n] := by
          cases a
          simp only at hn
          rw [hn]
        subst ea
        exact .inr (.inr (.inr ⟨n, z, rfl, rfl, Out.here (m := .ok _) o fr rfl _ (.bl _)⟩))
      · exact o.elim
    · exact o.elim
  · exact o.elim
theorem at_rep {vs : List V} {ds : List D} {i : Int} {d : D} (r : Reps c F vs ds) (h : atD ds i = some d) : ∃ v, atI vs i = some v ∧ Rep c F v d := by
  unfold atD at h
  unfold atI
  rw [r.length]
  cases e : ixN ds.length i with
  | none => rw [e] at h; cases h
  | some j =>
    rw [e] at h
    exact r.get h
theorem s_ix : OpS (ct X T) .f (fun x y H Q => rIx X.K x y H Q ∨ rIxDct x y H Q) ixD := by
  intro H0 F H σ ρ E v w x y Q fr rx ry o
  unfold ixD at o
  split at o
  · split at o
    · split at o
      · rename_i ds _ i _ d hd
        obtain ⟨a, vs, rfl, h1, r⟩ := rx.lst fr
        cases ry.int fr
        obtain ⟨u, hu, ru⟩ := at_rep r hd
        exact .inl (.inl ⟨a, vs, i, u, rfl, rfl, .of h1, hu, o.here fr rfl _ ru⟩)
      · exact o.elim
    · exact o.elim
  · split at o
    · split at o
      · rename_i ds _ i _ d hd
        obtain ⟨a, vs, rfl, h1, _, r⟩ := rx.tup fr
        cases ry.int fr
        obtain ⟨u, hu, ru⟩ := at_rep r hd
        exact .inl (.inr (.inl ⟨a, vs, i, u, rfl, rfl, .of h1, hu, o.here fr rfl _ ru⟩))
      · exact o.elim
    · exact o.elim
  · split at o
    · split at o
      · rename_i ns _ i _ n hd
        obtain ⟨a, rfl, h1⟩ := rx.scr fr
        cases ry.int fr
        refine .inl (.inl ⟨a, _, i, .int n, rfl, rfl, h1, ?_, o.here fr rfl _ (.int _)⟩)
        unfold atD at hd
        unfold atI
        rw [List.length_map]
        cases e : ixN ns.length i with
        | none => rw [e] at hd; cases hd
        | some j =>
          rw [e] at hd
          show (ns.map V.int)[j]? = _
          rw [List.getElem?_map, show ns[j]? = some n from hd]
          rfl
      · exact o.elim
    · exact o.elim
  · split at o
    · split at o
      · rename_i z _ i _ n hd
        split at o
        · rename_i hz
          cases rx.str fr
          cases ry.int fr
          exact .inl (.inr (.inr ⟨z, i, n, rfl, rfl, hz, hd, o.here fr rfl _ (.str _)⟩))
        · exact o.elim
      · exact o.elim
    · exact o.elim
  · split at o
    · rename_i es k hk
      split at o
      · rename_i d hd
        obtain ⟨a, rfl, h⟩ := dget_k fr rx ry hk
        rcases h with ⟨e1, g⟩ | ⟨u, d', e1, g, r⟩
        · rw [hd] at e1; cases e1
        · rw [hd] at e1
          cases e1
          exact .inr ⟨a, u, rfl, g, o.here fr rfl _ r⟩
      · exact o.elim
    · exact o.elim
  · split at o
    · rename_i es k hk
      split at o
      · rename_i d hd
        obtain ⟨a, rfl, h⟩ := dget_t fr rx ry hk
        rcases h with ⟨e1, g⟩ | ⟨u, d', e1, g, r⟩
        · rw [hd] at e1; cases e1
        · rw [hd] at e1
          cases e1
          exact .inr ⟨a, u, rfl, g, o.here fr rfl _ r⟩
      · exact o.elim
    · exact o.elim
  · exact o.elim
theorem s_mul : OpS (ct X T) .f (fun x y H Q => rI CMul (fun i j => .int (i * j)) x y H Q ∨ rRep x y H Q ∨ rRepA X.K x y H Q) mulD := by
  intro H0 F H σ ρ E v w x y Q fr rx ry o
  unfold mulD at o
  split at o
  · split at o
    · rename_i i j h
      cases rx.int fr
      cases ry.int fr
      exact .inl ⟨i, j, rfl, rfl, h.elim (fun h => .inl ⟨by omega, by omega⟩) (fun h => .inr ⟨by omega, by omega⟩), o.here fr rfl _ (.int _)⟩
    · exact o.elim
  · split at o
    · rename_i xs k h
      obtain ⟨a, vs, rfl, h1, r⟩ := rx.lst fr
      cases ry.int fr
      exact .inr (.inl ⟨a, k, vs, rfl, rfl, h1, by omega, by omega, by rw [r.length]; exact h.2.2, fun p hp => new_lst fr (r.flat _) o hp⟩)
    · exact o.elim
  · split at o
    · rename_i xs k h
      obtain ⟨a, vs, rfl, h1, h1', r⟩ := rx.tup fr
      cases ry.int fr
      exact .inr (.inr ⟨a, k, vs, rfl, rfl, .of h1, h.2.1, by omega, by rw [r.length]; exact h.2.2, fun hk => by
          rcases hk with hk | hk
          · have e0 := r.nil_iff.mp hk
            subst e0
            have : (List.replicate k.toNat ([] : List D)).flatten = [] := by simp
            rw [this] at o
            exact o.here fr rfl _ (.tup h1' r)
          · subst hk
            have : (List.replicate (1 : Int).toNat xs).flatten = xs := by simp
            rw [this] at o
            exact o.here fr rfl _ (.tup h1' r), fun _ hk p hp => by
          have : (List.replicate k.toNat xs).flatten = [] := by
            rw [show k.toNat = 0 by omega]
            rfl
          rw [this] at o
          exact new_tup fr .nil o hp, fun _ _ p hp => new_tup fr (r.flat _) o hp⟩)
    · exact o.elim
  · exact o.elim
end
end PB

namespace PB
open PySem PySem.Spec PyProof.Rows L2 LamX
section
variable {X : Cx} {T : List (Addr × Str)} {E : XK} {e a b d : Expr} {es rest : List Expr} {f g h : Fr → R D} {k : Kd} {pos : Pos} {j : Nat}
theorem Room.u64 {A : Around} (hr : Room j A) : A.units + 64 < cLine := hr.units
theorem Room.u65 {A : Around} (hr : Room j A) : A.units + 65 < cLine := by have := hr.un; omega
theorem Room.u1 {A : Around} (hr : Room j A) : A.units + 1 < cLine := by have := hr.un; omega

/-! ### operators -/
theorem p_add (ha : P X T E .b a f) (hb : P X T E .b b g) : P X T E .f (.BinOp a .Add b pos) (e2 addD f g) := p_op (OpR.or op_add (OpR.or op_add_str (OpR.or op_cat op_catA))) s_add ha hb
theorem p_sub (ha : P X T E .b a f) (hb : P X T E .b b g) : P X T E .f (.BinOp a .Sub b pos) (e2 subD f g) := p_op op_sub s_sub ha hb
theorem p_mul (ha : P X T E .b a f) (hb : P X T E .b b g) : P X T E .f (.BinOp a .Mult b pos) (e2 mulD f g) := p_op (OpR.or op_mul (OpR.or op_rep op_repA)) s_mul ha hb
theorem p_fdiv (ha : P X T E .b a f) (hb : P X T E .b b g) : P X T E .f (.BinOp a .FloorDiv b pos) (e2 fdivD f g) := p_op op_fdivW s_fdiv ha hb
theorem p_mod (ha : P X T E .b a f) (hb : P X T E .b b g) : P X T E .f (.BinOp a .Mod b pos) (e2 modD f g) := p_op op_mod s_mod ha hb
theorem p_pow (ha : P X T E .b a f) (hb : P X T E .b b g) : P X T E .f (.BinOp a .Pow b pos) (e2 powD f g) := p_op op_pow s_pow ha hb
theorem p_shl (ha : P X T E .b a f) (hb : P X T E .b b g) : P X T E .f (.BinOp a .LShift b pos) (e2 shlD f g) := p_op op_shl s_shl ha hb
theorem p_neg (ha : P X T E .b a f) : P X T E .f (.UnaryOp .USub a pos) (e1 negD f) := p_un un_neg s_neg ha
/-- a list of the frame's own, put together -/
def catND : D → D → R D
  | .lst xs, .lst ys => if xs.length + ys.length ≤ sizeLine then .ok (.lst (xs ++ ys)) else .stuck
  | _, _ => .stuck
def repND : D → D → R D
  | .lst xs, .int k => if 0 ≤ k ∧ k ≤ 2 ^ 20 ∧ xs.length * k.toNat ≤ sizeLine then .ok (.lst (List.replicate k.toNat xs).flatten) else .stuck
  | _, _ => .stuck
theorem p_catN (ha : P X T E .b a f) (hb : P X T E .b b g) : P X T E .n (.BinOp a .Add b pos) (e2 catND f g) := p_op op_cat (fun H0 F H σ ρ E v w x y Q fr rx ry o => by
  unfold catND at o
  split at o
  · split at o
    · rename_i xs ys hl
      obtain ⟨a, vs, rfl, h1, r1⟩ := rx.lst fr
      obtain ⟨b, ws, rfl, h2, r2⟩ := ry.lst fr
      exact ⟨a, b, vs, ws, rfl, rfl, h1, h2, by rw [r1.length, r2.length]; exact hl, fun p hp => new_own fr (r1.append r2) o hp⟩
    · exact o.elim
  · exact o.elim) ha hb
theorem p_repN (ha : P X T E .b a f) (hb : P X T E .b b g) : P X T E .n (.BinOp a .Mult b pos) (e2 repND f g) := p_op op_rep (fun H0 F H σ ρ E v w x y Q fr rx ry o => by
  unfold repND at o
  split at o
  · split at o
    · rename_i xs k h
      obtain ⟨a, vs, rfl, h1, r⟩ := rx.lst fr
      cases ry.int fr
      exact ⟨a, k, vs, rfl, rfl, h1, by omega, by omega, by rw [r.length]; exact h.2.2, fun p hp => new_own fr (r.flat _) o hp⟩
    · exact o.elim
  · exact o.elim) ha hb

/-! ### comparisons -/
theorem p_cmp {op : CmpOp} {r : R2} {o : D → D → R D} (ho : OpR X (compareOp op) r) (hs : OpS (ct X T) k r o) (ha : P X T E .b a f) (hb : P X T E .b b g) (hm : behindInMarks op b = false) : P X T E k (.Compare a [op] [b] pos) (e2 o f g) :=
  PE.mono (pe_cmpR ho ha hb hm) fun σ H Q ⟨H0, F, ρ, fr, ou⟩ => ⟨H0, F, ρ, fr, ou.split.imp fun x F1 H1 e1 fr1 o1 v rv => ⟨H0, F1, ρ, fr1, o1.split.imp fun y F2 H2 e2 fr2 o2 w rw => hs H0 F2 H2 σ ρ E v w x y Q fr2 (rv.ext e2) rw o2⟩⟩
def asB : D → R Bool
  | .bl b => .ok b
  | _ => .stuck
def tB (f : Fr → R D) : Fr → R Bool := fun ρ => (f ρ).bind asB
theorem out_asB {c : Ct} {H0 : Bs} {F : Hp} {σ : L2.St} {ρ : Fr} {m : R D} {Q : Bool → Hp → Prop} (o : Out c E H0 F σ ρ (m.bind asB) fun b _ H' => Q b H') : Out c E H0 F σ ρ m fun d F' H' => ∀ v, Tell c H0 σ ρ .f v d F' H' → ∃ b, v = .bl b ∧ Q b H' :=
  o.split.imp fun d F' H' e fr o' v r => by
    cases d <;> first | exact o'.elim | skip
    cases r
    exact ⟨_, rfl, Out.here (m := .ok _) o' fr rfl⟩
theorem t_cmp {op : CmpOp} {r : R2} {o : D → D → R D} (ho : OpR X (compareOp op) r) (hs : OpS (ct X T) .f r o) (ha : P X T E .b a f) (hb : P X T E .b b g) (hm : behindInMarks op b = false) : Pt X T E (.Compare a [op] [b] pos) (tB (e2 o f g)) :=
  PT.mono (pt_cmpR ho ha hb hm) fun σ H Q ⟨H0, F, ρ, fr, ou⟩ => ⟨H0, F, ρ, fr, (out_asB ou).split.imp fun x F1 H1 e1 fr1 o1 v rv => ⟨H0, F1, ρ, fr1, o1.split.imp fun y F2 H2 e2 fr2 o2 w rw => hs H0 F2 H2 σ ρ E v w x y _ fr2 (rv.ext e2) rw o2⟩⟩
theorem r_lt (hr : Room j X.A) : OpR X (compareOp .Lt) (fun x y H Q => rI0 (fun i j => .bl (decide (i < j))) x y H Q ∨ rLtT X.K x y H Q) := OpR.or (opB0 fun _ _ _ _ _ _ _ q => lt_int q) (op_ltT hr.units0)
theorem r_le (hr : Room j X.A) : OpR X (compareOp .LtE) (fun x y H Q => rI0 (fun i j => .bl (decide (i ≤ j))) x y H Q ∨ rLeT X.K x y H Q) := OpR.or (opB0 fun _ _ _ _ _ _ _ q => le_int q) (op_leT hr.units0)
theorem r_gt : OpR X (compareOp .Gt) (rI0 fun i j => .bl (decide (j < i))) := opB0 fun _ _ _ _ _ _ _ q => gt_int q
theorem r_ge : OpR X (compareOp .GtE) (rI0 fun i j => .bl (decide (j ≤ i))) := opB0 fun _ _ _ _ _ _ _ q => ge_int q
theorem r_in (hr : Room j X.A) : OpR X (compareOp .In) (fun x y H Q => rInD X.K x y H Q ∨ rInDT X.K false x y H Q ∨ rDIn x y H Q ∨ (∃ (c : Nat) (z : Str), x = .str ⟨#[c]⟩ ∧ y = .str z ∧ Q (.bl (decide (c ∈ z.cps.toList))) H)) :=
  OpR.or (op_inD (Room.u65 hr)) (OpR.or (op_inDT (Room.u65 hr)) (OpR.or (op_dIn (Room.u1 hr)) op_in_sign))
theorem r_notin (hr : Room j X.A) : OpR X (compareOp .NotIn) (fun x y H Q => rNotInD X.K x y H Q ∨ rInDT X.K true x y H Q ∨ rDNotIn x y H Q ∨ (∃ (c : Nat) (z : Str), x = .str ⟨#[c]⟩ ∧ y = .str z ∧ Q (.bl (!decide (c ∈ z.cps.toList))) H)) :=
  OpR.or (op_notInD (Room.u65 hr)) (OpR.or (op_notInDT (Room.u65 hr)) (OpR.or (op_dNotIn (Room.u1 hr)) op_notIn_sign))
theorem p_lt (hr : Room j X.A) (ha : P X T E .b a f) (hb : P X T E .b b g) : P X T E .f (.Compare a [.Lt] [b] pos) (e2 ltD f g) := p_cmp (r_lt hr) s_lt ha hb (nomark _)
theorem p_le (hr : Room j X.A) (ha : P X T E .b a f) (hb : P X T E .b b g) : P X T E .f (.Compare a [.LtE] [b] pos) (e2 leD f g) := p_cmp (r_le hr) s_le ha hb (nomark _)
theorem p_gt (ha : P X T E .b a f) (hb : P X T E .b b g) : P X T E .f (.Compare a [.Gt] [b] pos) (e2 gtD f g) := p_cmp r_gt s_bl ha hb (nomark _)
theorem p_ge (ha : P X T E .b a f) (hb : P X T E .b b g) : P X T E .f (.Compare a [.GtE] [b] pos) (e2 geD f g) := p_cmp r_ge s_bl ha hb (nomark _)
theorem p_eq (hr : Room j X.A) (ha : P X T E .b a f) (hb : P X T E .b b g) : P X T E .f (.Compare a [.Eq] [b] pos) (e2 eqD f g) := p_cmp (op_eqD (Room.u64 hr)) s_eq ha hb (nomark _)
theorem p_ne (hr : Room j X.A) (ha : P X T E .b a f) (hb : P X T E .b b g) : P X T E .f (.Compare a [.NotEq] [b] pos) (e2 neD f g) := p_cmp (op_neD (Room.u64 hr)) s_ne ha hb (nomark _)
theorem p_in (hr : Room j X.A) (ha : P X T E .b a f) (hb : P X T E .b b g) (hm : behindInMarks .In b = false) : P X T E .f (.Compare a [.In] [b] pos) (e2 inD f g) := p_cmp (r_in hr) s_in ha hb hm
theorem p_notin (hr : Room j X.A) (ha : P X T E .b a f) (hb : P X T E .b b g) (hm : behindInMarks .NotIn b = false) : P X T E .f (.Compare a [.NotIn] [b] pos) (e2 notInD f g) := p_cmp (r_notin hr) s_notin ha hb hm
theorem t_lt (hr : Room j X.A) (ha : P X T E .b a f) (hb : P X T E .b b g) : Pt X T E (.Compare a [.Lt] [b] pos) (tB (e2 ltD f g)) := t_cmp (r_lt hr) s_lt ha hb (nomark _)
theorem t_le (hr : Room j X.A) (ha : P X T E .b a f) (hb : P X T E .b b g) : Pt X T E (.Compare a [.LtE] [b] pos) (tB (e2 leD f g)) := t_cmp (r_le hr) s_le ha hb (nomark _)
theorem t_gt (ha : P X T E .b a f) (hb : P X T E .b b g) : Pt X T E (.Compare a [.Gt] [b] pos) (tB (e2 gtD f g)) := t_cmp r_gt s_bl ha hb (nomark _)
theorem t_ge (ha : P X T E .b a f) (hb : P X T E .b b g) : Pt X T E (.Compare a [.GtE] [b] pos) (tB (e2 geD f g)) := t_cmp r_ge s_bl ha hb (nomark _)
theorem t_eq (hr : Room j X.A) (ha : P X T E .b a f) (hb : P X T E .b b g) : Pt X T E (.Compare a [.Eq] [b] pos) (tB (e2 eqD f g)) := t_cmp (op_eqD (Room.u64 hr)) s_eq ha hb (nomark _)
theorem t_ne (hr : Room j X.A) (ha : P X T E .b a f) (hb : P X T E .b b g) : Pt X T E (.Compare a [.NotEq] [b] pos) (tB (e2 neD f g)) := t_cmp (op_neD (Room.u64 hr)) s_ne ha hb (nomark _)
theorem t_in (hr : Room j X.A) (ha : P X T E .b a f) (hb : P X T E .b b g) (hm : behindInMarks .In b = false) : Pt X T E (.Compare a [.In] [b] pos) (tB (e2 inD f g)) := t_cmp (r_in hr) s_in ha hb hm
theorem t_notin (hr : Room j X.A) (ha : P X T E .b a f) (hb : P X T E .b b g) (hm : behindInMarks .NotIn b = false) : Pt X T E (.Compare a [.NotIn] [b] pos) (tB (e2 notInD f g)) := t_cmp (r_notin hr) s_notin ha hb hm
/-- a is None, a is not None; of two truths -/
def isNonD : D → R D
  | .non => .ok (.bl true)
  | .ty _ => .ok (.bl false)
  | .fn _ => .ok (.bl false)
  | _ => .ok (.bl false)
def isntNonD : D → R D
  | .non => .ok (.bl true)
  | _ => .ok (.bl true)
def isNon : D → Bool
  | .non => true
  | _ => false
theorem rep_non {c : Ct} {H0 : Bs} {F H : Hp} {σ : L2.St} {ρ : Fr} {v : V} {x : D} (fr : FR c H0 F H σ ρ) (r : RepB c F σ ρ v x) : decide (v = V.non) = isNon x := by
  have r := r.whole fr
  cases r <;> simp [isNon]
theorem p_isN {j' pos'} (ha : P X T E .b a f) : P X T E .f (.Compare a [.Is] [.Constant .none j' pos'] pos) (e1 (fun x => .ok (.bl (isNon x))) f) :=
  PE.mono (pe_cmp (pc_isN ha) rfl) fun σ H Q ⟨H0, F, ρ, fr, ou⟩ => ⟨H0, F, ρ, fr, ou.split.imp fun x F1 H1 e1 fr1 o1 v rv => by
    show Q (.bl (decide (v = V.non))) H1
    rw [rep_non fr1 rv]
    exact o1.here fr1 rfl _ (.bl _)⟩
theorem p_notN {j' pos'} (ha : P X T E .b a f) : P X T E .f (.Compare a [.IsNot] [.Constant .none j' pos'] pos) (e1 (fun x => .ok (.bl (!isNon x))) f) :=
  PE.mono (pe_cmp (pc_notN ha) rfl) fun σ H Q ⟨H0, F, ρ, fr, ou⟩ => ⟨H0, F, ρ, fr, ou.split.imp fun x F1 H1 e1 fr1 o1 v rv => by
    show Q (.bl (!decide (v = V.non))) H1
    rw [rep_non fr1 rv]
    exact o1.here fr1 rfl _ (.bl _)⟩
theorem t_isN {j' pos'} (ha : P X T E .b a f) : Pt X T E (.Compare a [.Is] [.Constant .none j' pos'] pos) (fun ρ => (f ρ).bind fun x => .ok (isNon x)) :=
  PT.mono (pt_cmp (pc_isN ha) rfl) fun σ H Q ⟨H0, F, ρ, fr, ou⟩ => ⟨H0, F, ρ, fr, ou.split.imp fun x F1 H1 e1 fr1 o1 v rv => by
    show ∃ c, V.bl (decide (v = V.non)) = V.bl c ∧ Q c H1
    rw [rep_non fr1 rv]
    exact ⟨_, rfl, o1.here fr1 rfl⟩⟩
theorem t_notN {j' pos'} (ha : P X T E .b a f) : Pt X T E (.Compare a [.IsNot] [.Constant .none j' pos'] pos) (fun ρ => (f ρ).bind fun x => .ok (!isNon x)) :=
  PT.mono (pt_cmp (pc_notN ha) rfl) fun σ H Q ⟨H0, F, ρ, fr, ou⟩ => ⟨H0, F, ρ, fr, ou.split.imp fun x F1 H1 e1 fr1 o1 v rv => by
    show ∃ c, V.bl (!decide (v = V.non)) = V.bl c ∧ Q c H1
    rw [rep_non fr1 rv]
    exact ⟨_, rfl, o1.here fr1 rfl⟩⟩
def isBD : D → D → R D
  | .bl a, .bl b => .ok (.bl (decide (a = b)))
  | _, _ => .stuck
theorem p_isB (ha : P X T E .b a f) (hb : P X T E .b b g) : P X T E .f (.Compare a [.Is] [b] pos) (e2 isBD f g) := p_cmp op_is_bl (fun H0 F H σ ρ E v w x y Q fr rx ry o => by
  unfold isBD at o
  split at o
  · cases rx.bl fr
    cases ry.bl fr
    exact ⟨_, _, rfl, rfl, o.here fr rfl _ (.bl _)⟩
  · exact o.elim) ha hb (nomark _)
/-- a < b <= d -/
def e3c (o o' : D → D → R D) (f g h : Fr → R D) : Fr → R D := fun ρ => (f ρ).bind fun x => (g ρ).bind fun y => (o x y).bind fun z => match z with
  | .bl true => (h ρ).bind fun w => o' y w
  | .bl false => .ok (.bl false)
  | _ => .stuck
theorem p_chain {op op' : CmpOp} {r r' : R2} {o o' : D → D → R D} (ho : OpR X (compareOp op) r) (hs : OpS (ct X T) .f r o) (ho' : OpR X (compareOp op') r') (hs' : OpS (ct X T) .f r' o') (ha : P X T E .b a f) (hb : P X T E .b b g) (hd : P X T E .b d h)
    (hm : lastMarks [op, op'] [b, d] = false := by with_unfolding_all rfl) : P X T E .f (.Compare a [op, op'] [b, d] pos) (e3c o o' f g h) :=
  PE.mono (pe_chain ho ho' ha hb hd hm) fun σ H Q ⟨H0, F, ρ, fr, ou⟩ => ⟨H0, F, ρ, fr, ou.split.imp fun x F1 H1 e1 fr1 o1 v rv => ⟨H0, F1, ρ, fr1, o1.split.imp fun y F2 H2 e2 fr2 o2 w rw =>
    hs H0 F2 H2 σ ρ E v w x y _ fr2 (rv.ext e2) rw (o2.split.imp fun z F3 H3 e3 fr3 o3 u ru => by
      cases z <;> first | exact o3.elim | skip
      rename_i c
      cases ru
      refine ⟨c, rfl, ?_⟩
      cases c with
      | true =>
        rw [if_pos rfl]
        exact ⟨H0, F3, ρ, fr3, Out.imp (Out.split o3) fun u F4 H4 e4 fr4 o4 w2 rw2 => hs' H0 F4 H4 σ ρ E w w2 y u Q fr4 (rw.ext (e3.trans e4)) rw2 o4⟩
      | false =>
        rw [if_neg Bool.false_ne_true]
        exact Out.here (m := .ok _) o3 fr3 rfl _ (.bl _))⟩⟩

/-! ### truth, and, or, not, if -/
def truD : D → R Bool
  | .non => .ok false
  | .bl b => .ok b
  | .int i => .ok (i != 0)
  | .str y => if y.length ≤ sizeLine then .ok ((y.length : Int) != 0) else .stuck
  | .lst xs => .ok (!xs.isEmpty)
  | .tup xs => .ok (!xs.isEmpty)
  | _ => .stuck
theorem tru_rep {c : Ct} {H0 : Bs} {F H : Hp} {σ : L2.St} {ρ : Fr} {v : V} {x : D} {b : Bool} (fr : FR c H0 F H σ ρ) (r : RepB c F σ ρ v x) (e : truD x = .ok b) : TruV c.K v H b := by
  cases x <;> first | (cases e; done) | skip
  · cases r.non fr
    cases e
    rfl
  · cases r.bl fr
    cases e
    rfl
  · cases r.int fr
    cases e
    rfl
  · cases r.str fr
    rename_i y
    have e : (if y.length ≤ sizeLine then R.ok ((y.length : Int) != 0) else R.stuck) = R.ok b := e
    split at e
    · rename_i h
      cases e
      exact ⟨h, rfl⟩
    · cases e
  · obtain ⟨a, vs, rfl, h1, r⟩ := r.lst fr
    cases e
    refine .inl ⟨vs, .of h1, ?_⟩
    cases r <;> rfl
  · obtain ⟨a, vs, rfl, h1, h2, r⟩ := r.tup fr
    cases e
    refine .inr (.inl ⟨vs, .of h1, ?_⟩)
    cases r <;> rfl
def tV (f : Fr → R D) : Fr → R Bool := fun ρ => (f ρ).bind truD
theorem out_tru {c : Ct} {α : Type} {H0 : Bs} {F H : Hp} {σ : L2.St} {ρ : Fr} {x : D} {n : Bool → R α} {k : α → Hp → Hp → Prop} (o : Out c E H0 F σ ρ ((truD x).bind n) k) : ∃ b, truD x = .ok b ∧ Out c E H0 F σ ρ (n b) k := by
  cases e : truD x with
  | ok b => rw [e] at o; exact ⟨b, rfl, o⟩
  | err y =>
    cases x <;> first | (cases e; done) | skip
    rename_i z
    have e : (if z.length ≤ sizeLine then R.ok ((z.length : Int) != 0) else R.stuck) = R.err y := e
    split at e <;> cases e
  | stuck => rw [e] at o; exact o.elim
/-- a value as a test -/
theorem t_v (ha : P X T E .b a f) (he : ∀ whole, isTrue a X.env whole = (do let v ← whole; standAt a.pos; holding [v] (truthy v)) := by intro _; rfl) : Pt X T E a (tV f) :=
  PT.mono (pt_truth ha he) fun σ H Q ⟨H0, F, ρ, fr, ou⟩ => ⟨H0, F, ρ, fr, ou.split.imp fun x F1 H1 e1 fr1 o1 v rv => by
    have o1' : Out (ct X T) E H0 F1 σ ρ ((truD x).bind fun b => .ok b) fun b _ H' => Q b H' := by
      cases e : truD x <;> (rw [e] at o1; exact o1)
    obtain ⟨b, e, o2⟩ := out_tru (H := H1) o1'
    exact ⟨b, tru_rep fr1 rv e, o2.here fr1 rfl⟩⟩
def tAndR (s t : Fr → R Bool) : Fr → R Bool := fun ρ => (s ρ).bind fun b => if b = true then t ρ else .ok false
def tOrR (s t : Fr → R Bool) : Fr → R Bool := fun ρ => (s ρ).bind fun b => if b = true then .ok true else t ρ
def tNotR (s : Fr → R Bool) : Fr → R Bool := fun ρ => (s ρ).bind fun b => .ok (!b)
variable {s t : Fr → R Bool}
theorem w_and1 (ha : Pt X T E a s) : Pw X T E (.BoolOp .And [a] pos) s := pw_and1 ha
theorem w_or1 (ha : Pt X T E a s) : Pw X T E (.BoolOp .Or [a] pos) s := pw_or1 ha
theorem w_and (ha : Pt X T E a s) (hb : Pw X T E (.BoolOp .And (b :: rest) pos) t) : Pw X T E (.BoolOp .And (a :: b :: rest) pos) (tAndR s t) :=
  PW.mono (pw_and ha hb) fun σ H Q ⟨H0, F, ρ, fr, ou⟩ => ⟨H0, F, ρ, fr, ou.split.imp fun c F1 H1 e1 fr1 o1 => by
    cases c with
    | true => exact ⟨H0, F1, ρ, fr1, o1⟩
    | false => exact Out.here (m := .ok _) o1 fr1 rfl⟩
theorem w_or (ha : Pt X T E a s) (hb : Pw X T E (.BoolOp .Or (b :: rest) pos) t) : Pw X T E (.BoolOp .Or (a :: b :: rest) pos) (tOrR s t) :=
  PW.mono (pw_or ha hb) fun σ H Q ⟨H0, F, ρ, fr, ou⟩ => ⟨H0, F, ρ, fr, ou.split.imp fun c F1 H1 e1 fr1 o1 => by
    cases c with
    | true => exact Out.here (m := .ok _) o1 fr1 rfl
    | false => exact ⟨H0, F1, ρ, fr1, o1⟩⟩
theorem t_w (h : Pw X T E a s) : Pt X T E a s := PW.pt h
theorem t_not (ha : Pt X T E a s) : Pt X T E (.UnaryOp .Not a pos) (tNotR s) :=
  PT.mono (pt_not ha) fun σ H Q ⟨H0, F, ρ, fr, ou⟩ => ⟨H0, F, ρ, fr, ou.split.imp fun c F1 H1 e1 fr1 o1 => Out.here (m := .ok _) o1 fr1 rfl⟩
def eIf (s : Fr → R Bool) (f g : Fr → R D) : Fr → R D := fun ρ => (s ρ).bind fun b => if b = true then f ρ else g ρ
theorem p_if (hc : Pt X T E d s) (ha : P X T E k a f) (hb : P X T E k b g) : P X T E k (.IfExp d a b pos) (eIf s f g) :=
  PE.mono (pe_ifExp hc ha hb) fun σ H Q ⟨H0, F, ρ, fr, ou⟩ => ⟨H0, F, ρ, fr, ou.split.imp fun c F1 H1 e1 fr1 o1 => by
    cases c with
    | true => exact ⟨H0, F1, ρ, fr1, o1⟩
    | false => exact ⟨H0, F1, ρ, fr1, o1⟩⟩
def eAnd (f g : Fr → R D) : Fr → R D := fun ρ => (f ρ).bind fun x => (truD x).bind fun b => if b = true then g ρ else .ok x
def eOr (f g : Fr → R D) : Fr → R D := fun ρ => (f ρ).bind fun x => (truD x).bind fun b => if b = true then .ok x else g ρ
theorem p_one {op} (ha : P X T E k a f) : P X T E k (.BoolOp op [a] pos) f := pe_one ha
theorem p_and (ha : P X T E .f a f) (hb : P X T E .f (.BoolOp .And (b :: rest) pos) g) : P X T E .f (.BoolOp .And (a :: b :: rest) pos) (eAnd f g) :=
  PE.mono (pe_andT ha hb) fun σ H Q ⟨H0, F, ρ, fr, ou⟩ => ⟨H0, F, ρ, fr, ou.split.imp fun x F1 H1 e1 fr1 o1 v rv => by
    obtain ⟨c, e, o2⟩ := out_tru (H := H1) o1
    refine ⟨c, tru_rep fr1 (.inl rv) e, ?_⟩
    cases c with
    | true => exact ⟨H0, F1, ρ, fr1, o2⟩
    | false => exact Out.here (m := .ok _) o2 fr1 rfl _ rv⟩
theorem p_or (ha : P X T E .f a f) (hb : P X T E .f (.BoolOp .Or (b :: rest) pos) g) : P X T E .f (.BoolOp .Or (a :: b :: rest) pos) (eOr f g) :=
  PE.mono (pe_orT ha hb) fun σ H Q ⟨H0, F, ρ, fr, ou⟩ => ⟨H0, F, ρ, fr, ou.split.imp fun x F1 H1 e1 fr1 o1 v rv => by
    obtain ⟨c, e, o2⟩ := out_tru (H := H1) o1
    refine ⟨c, tru_rep fr1 (.inl rv) e, ?_⟩
    cases c with
    | true => exact Out.here (m := .ok _) o2 fr1 rfl _ rv
    | false => exact ⟨H0, F1, ρ, fr1, o2⟩⟩
def eNot (f : Fr → R D) : Fr → R D := fun ρ => (f ρ).bind fun x => (truD x).bind fun b => .ok (.bl (!b))
theorem p_not (ha : P X T E .b a f) : P X T E .f (.UnaryOp .Not a pos) (eNot f) :=
  PE.mono (pe_notT ha) fun σ H Q ⟨H0, F, ρ, fr, ou⟩ => ⟨H0, F, ρ, fr, ou.split.imp fun x F1 H1 e1 fr1 o1 v rv => by
    obtain ⟨c, e, o2⟩ := out_tru (H := H1) o1
    exact ⟨c, tru_rep fr1 rv e, Out.here (m := .ok _) o2 fr1 rfl _ (.bl _)⟩⟩

/-! ### lists of expressions, displays, subscripts -/
def xNil : Fr → R (List D) := fun _ => .ok []
def xCons (f : Fr → R D) (fs : Fr → R (List D)) : Fr → R (List D) := fun ρ => (f ρ).bind fun x => (fs ρ).bind fun xs => .ok (x :: xs)
variable {fs : Fr → R (List D)}
theorem x_nil : Ps X T E [] xNil := PA.mono pa_nil fun σ H Q ⟨H0, F, ρ, fr, ou⟩ => Out.here (m := .ok _) ou fr rfl _ .nil
theorem x_cons (ha : P X T E .f e f) (hr : Ps X T E es fs) (hs : starEach (e :: es) X.env = (false, eval e X.env) :: starEach es X.env := by rfl) : Ps X T E (e :: es) (xCons f fs) :=
  PA.mono (pa_cons ha hr hs) fun σ H Q ⟨H0, F, ρ, fr, ou⟩ => ⟨H0, F, ρ, fr, ou.split.imp fun x F1 H1 e1 fr1 o1 v rv => ⟨H0, F1, ρ, fr1, o1.split.imp fun xs F2 H2 e2 fr2 o2 vs rvs => Out.here (m := .ok _) o2 fr2 rfl _ (.cons (rv.ext e2) rvs)⟩⟩
/-- read, not kept -/
def RepsB (c : Ct) (F : Hp) (σ : L2.St) (ρ : Fr) (vs : List V) (ds : List D) : Prop := Paired (RepB c F σ ρ) vs ds
theorem RepsB.ext {c : Ct} {F F' : Hp} {σ : L2.St} {ρ : Fr} {vs : List V} {ds : List D} (h : RepsB c F σ ρ vs ds) (e : ExtN F F') : RepsB c F' σ ρ vs ds := Paired.mapP h fun _ _ r => r.ext e
def tKb (c : Ct) (E : XK) (f : Fr → R (List D)) : TA := fun σ H Q => ∃ H0 F ρ, FR c H0 F H σ ρ ∧ Out c E H0 F σ ρ (f ρ) fun ds F' H' => ∀ vs, RepsB c F' σ ρ vs ds → Q vs H'
abbrev Pb (X : Cx) (T : List (Addr × Str)) (E : XK) (es : List Expr) (f : Fr → R (List D)) : Prop := PA X es (tKb (ct X T) E f)
theorem b_nil : Pb X T E [] xNil := PA.mono pa_nil fun σ H Q ⟨H0, F, ρ, fr, ou⟩ => Out.here (m := .ok _) ou fr rfl _ .nil
theorem b_cons (ha : P X T E .b e f) (hr : Pb X T E es fs) (hs : starEach (e :: es) X.env = (false, eval e X.env) :: starEach es X.env := by rfl) : Pb X T E (e :: es) (xCons f fs) :=
  PA.mono (pa_cons ha hr hs) fun σ H Q ⟨H0, F, ρ, fr, ou⟩ => ⟨H0, F, ρ, fr, ou.split.imp fun x F1 H1 e1 fr1 o1 v rv => ⟨H0, F1, ρ, fr1, o1.split.imp fun xs F2 H2 e2 fr2 o2 vs rvs => Out.here (m := .ok _) o2 fr2 rfl _ (.cons (rv.ext e2) rvs)⟩⟩
def eTup (fs : Fr → R (List D)) : Fr → R D := fun ρ => (fs ρ).bind fun xs => if xs.length ≤ sizeLine then .ok (.tup xs) else .stuck
def eLst (fs : Fr → R (List D)) : Fr → R D := fun ρ => (fs ρ).bind fun xs => if xs.length ≤ sizeLine then .ok (.lst xs) else .stuck
theorem p_tup {x1} (h : Ps X T E es fs) : P X T E .f (.Tuple es x1 pos) (eTup fs) :=
  PE.mono (pe_tup h) fun σ H Q ⟨H0, F, ρ, fr, ou⟩ => ⟨H0, F, ρ, fr, ou.split.imp fun xs F1 H1 e1 fr1 o1 vs rv => by
    split at o1
    · rename_i hl
      exact ⟨by rw [rv.length]; exact hl, fun p hp => new_tup fr1 rv o1 hp⟩
    · exact o1.elim⟩
theorem p_lst (h : Ps X T E es fs) : P X T E .n (.List es pos) (eLst fs) :=
  PE.mono (pe_lst h) fun σ H Q ⟨H0, F, ρ, fr, ou⟩ => ⟨H0, F, ρ, fr, ou.split.imp fun xs F1 H1 e1 fr1 o1 vs rv => by
    split at o1
    · rename_i hl
      exact ⟨by rw [rv.length]; exact hl, fun p hp => new_own fr1 rv o1 hp⟩
    · exact o1.elim⟩
theorem p_ix (hr : Room j X.A) (ha : P X T E .b a f) (hb : P X T E .b b g) (hs : PlainIx b := by exact fun _ _ => rfl) : P X T E .f (.Subscript a b pos) (e2 ixD f g) :=
  PE.mono (pe_ix (IxR.or ix_seq (ix_dct (Room.u1 hr))) ha hb hs) fun σ H Q ⟨H0, F, ρ, fr, ou⟩ => ⟨H0, F, ρ, fr, ou.split.imp fun x F1 H1 e1 fr1 o1 v rv => ⟨H0, F1, ρ, fr1, o1.split.imp fun y F2 H2 e2 fr2 o2 w rw => s_ix H0 F2 H2 σ ρ E v w x y Q fr2 (rv.ext e2) rw o2⟩⟩
/-! ### slices -/
def cutD {α : Type} (xs : List α) (lo hi : Option Int) : List α := (xs.drop (HT.sIx xs.length 0 lo)).take (HT.sIx xs.length xs.length hi - HT.sIx xs.length 0 lo)
theorem cut_rep {c : Ct} {F : Hp} {vs : List V} {ds : List D} (r : Reps c F vs ds) (lo hi : Option Int) : Reps c F (cutV vs lo hi) (cutD ds lo hi) := by
  unfold cutV cutD
  rw [r.length]
  exact (r.drop _).take _
def oNone : Fr → R (Option Int) := fun _ => .ok none
def oSome (f : Fr → R D) : Fr → R (Option Int) := fun ρ => (f ρ).bind fun x => match x with
  | .int i => .ok (some i)
  | _ => .stuck
def tO (c : Ct) (E : XK) (f : Fr → R (Option Int)) : TO := fun σ H Q => ∃ H0 F ρ, FR c H0 F H σ ρ ∧ Out c E H0 F σ ρ (f ρ) fun o F' H' => Q o H'
abbrev Po (X : Cx) (T : List (Addr × Str)) (E : XK) (e : Option Expr) (f : Fr → R (Option Int)) : Prop := PO X e (tO (ct X T) E f)
theorem PO.mono {X : Cx} {e : Option Expr} {t t' : TO} (h : PO X e t) (i : ∀ σ H Q, t' σ H Q → t σ H Q) : PO X e t' := ⟨fun pins s σ H Q I q => h.run pins s σ H Q I (i σ H Q q)⟩
theorem o_none : Po X T E none oNone := PO.mono po_none fun σ H Q ⟨H0, F, ρ, fr, ou⟩ => Out.here (m := .ok _) ou fr rfl
theorem o_some (ha : P X T E .b e f) : Po X T E (some e) (oSome f) := PO.mono (po_some ha) fun σ H Q ⟨H0, F, ρ, fr, ou⟩ => ⟨H0, F, ρ, fr, ou.split.imp fun x F1 H1 e1 fr1 o1 v rv => by
  cases x <;> first | exact o1.elim | skip
  cases rv.int fr1
  exact ⟨_, rfl, Out.here (m := .ok _) o1 fr1 rfl⟩⟩
def slD (x : D) (lo hi : Option Int) : R D := match x with
  | .lst ds => .ok (.lst (cutD ds lo hi))
  | .tup ds => .ok (.tup (cutD ds lo hi))
  | .scr ns => .ok (.lst ((cutD ns lo hi).map D.int))
  | .str z => if z.length ≤ sizeLine then .ok (.str (cutS z lo hi)) else .stuck
  | _ => .stuck
def slN (x : D) (lo hi : Option Int) : R D := match x with
  | .lst ds => .ok (.lst (cutD ds lo hi))
  | .scr ns => .ok (.lst ((cutD ns lo hi).map D.int))
  | _ => .stuck
def eSl (op : D → Option Int → Option Int → R D) (f : Fr → R D) (lo hi : Fr → R (Option Int)) : Fr → R D := fun ρ => (f ρ).bind fun x => (lo ρ).bind fun l => (hi ρ).bind fun u => op x l u
variable {lo hi : Option Expr} {fl fh : Fr → R (Option Int)} {p2 : Pos}
theorem cut_map {α β : Type} (g : α → β) (xs : List α) (lo hi : Option Int) : cutD (xs.map g) lo hi = (cutD xs lo hi).map g := by
  unfold cutD
  rw [List.length_map, List.map_take, List.map_drop]
theorem cutV_eq (xs : List V) (lo hi : Option Int) : cutV xs lo hi = cutD xs lo hi := rfl
theorem p_sl (ha : P X T E .b e f) (hl : Po X T E lo fl) (hh : Po X T E hi fh) : P X T E .f (.Subscript e (.Slice lo hi none p2) pos) (eSl slD f fl fh) :=
  PE.mono (pe_slice (SlR.or sl_list (SlR.or sl_tupA sl_str)) ha hl hh) fun σ H Q ⟨H0, F, ρ, fr, ou⟩ => ⟨H0, F, ρ, fr, ou.split.imp fun x F1 H1 e1 fr1 o1 v rv => ⟨H0, F1, ρ, fr1, o1.split.imp fun l F2 H2 e2 fr2 o2 => ⟨H0, F2, ρ, fr2, o2.split.imp fun u F3 H3 e3 fr3 o3 => by
    have rv := (rv.ext e2).ext e3
    unfold slD at o3
    split at o3
    · obtain ⟨p, vs, rfl, h1, r⟩ := rv.lst fr3
      exact .inl ⟨p, vs, rfl, .of h1, fun q hq => new_lst fr3 (cut_rep r l u) o3 hq⟩
    · rename_i ds _
      obtain ⟨p, vs, rfl, h1, h1', r⟩ := rv.tup fr3
      refine .inr (.inl ⟨p, vs, rfl, .of h1, fun hw => ?_, fun _ q hq => new_tup fr3 (cut_rep r l u) o3 hq⟩)
      have : cutD ds l u = ds := by
        unfold cutD
        rw [← r.length, hw.1, hw.2]
        simp [r.length]
      rw [this] at o3
      exact o3.here fr3 rfl _ (.tup h1' r)
    · obtain ⟨p, rfl, h1⟩ := rv.scr fr3
      refine .inl ⟨p, _, rfl, h1, fun q hq => ?_⟩
      rw [cutV_eq, cut_map]
      exact new_lst fr3 (Reps.of_ints _) o3 hq
    · split at o3
      · rename_i hz
        cases rv.str fr3
        exact .inr (.inr ⟨_, rfl, hz, o3.here fr3 rfl _ (.str _)⟩)
      · exact o3.elim
    · exact o3.elim⟩⟩⟩
theorem p_slN (ha : P X T E .b e f) (hl : Po X T E lo fl) (hh : Po X T E hi fh) : P X T E .n (.Subscript e (.Slice lo hi none p2) pos) (eSl slN f fl fh) :=
  PE.mono (pe_slice sl_list ha hl hh) fun σ H Q ⟨H0, F, ρ, fr, ou⟩ => ⟨H0, F, ρ, fr, ou.split.imp fun x F1 H1 e1 fr1 o1 v rv => ⟨H0, F1, ρ, fr1, o1.split.imp fun l F2 H2 e2 fr2 o2 => ⟨H0, F2, ρ, fr2, o2.split.imp fun u F3 H3 e3 fr3 o3 => by
    have rv := (rv.ext e2).ext e3
    unfold slN at o3
    split at o3
    · obtain ⟨p, vs, rfl, h1, r⟩ := rv.lst fr3
      exact ⟨p, vs, rfl, .of h1, fun q hq => new_own fr3 (cut_rep r l u) o3 hq⟩
    · obtain ⟨p, rfl, h1⟩ := rv.scr fr3
      refine ⟨p, _, rfl, h1, fun q hq => ?_⟩
      rw [cutV_eq, cut_map]
      exact new_own fr3 (Reps.of_ints _) o3 hq
    · exact o3.elim⟩⟩⟩
end
end PB

namespace PB
open PySem PySem.Spec PyProof.Rows L2 LamX
/-! ### built-in functions -/
/-- what o makes of data is what r makes of values -/
def CallS (c : Ct) (k : Kd) (r : List V → Hp → VK → Prop) (o : List D → R D) : Prop := ∀ (H0 : Bs) (F H : Hp) (σ : L2.St) (ρ : Fr) (E : XK) (vs : List V) (ds : List D) (Q : VK), FR c H0 F H σ ρ → RepsB c F σ ρ vs ds →
  Out c E H0 F σ ρ (o ds) (fun d F' H' => ∀ v, Tell c H0 σ ρ k v d F' H' → Q v H') → r vs H Q
def eB (o : List D → R D) (fs : Fr → R (List D)) : Fr → R D := fun ρ => (fs ρ).bind o
section
variable {X : Cx} {T : List (Addr × Str)} {E : XK} {e a b d : Expr} {es rest : List Expr} {f g h : Fr → R D} {fs : Fr → R (List D)} {k : Kd} {p pos : Pos} {j : Nat} {x : Str} {idb Ty : String} {r : List V → Hp → VK → Prop} {o : List D → R D}
theorem p_blt (hc : CallR X (.builtin idb) r) (hs : CallS (ct X T) k r o) (hg : Gl X x) (hm : X.mg x = none) (hv : bootBuiltins x = some (.builtin idb)) (ha : Pb X T E (e :: es) fs) (hn : x ≠ "__name__" := by decide) (hdb : (x == ("__debug__" : Str)) = false := by decide)
    (he : starEach (e :: es) X.env = (false, eval e X.env) :: starEach es X.env := by rfl) (hpl : (backTo pos (starEach es X.env)).any (·.1) = false := by rfl) : P X T E k (.Call (.Name x p) (e :: es) [] pos) (eB o fs) :=
  PE.mono (pe_callB hc hg hm hv ha hn hdb he hpl) fun σ H Q ⟨H0, F, ρ, fr, ou⟩ => ⟨H0, F, ρ, fr, ou.split.imp fun ds F1 H1 e1 fr1 o1 vs rv => hs H0 F1 H1 σ ρ E vs ds Q fr1 rv o1⟩
theorem p_bty (hc : CallR X (.type Ty) r) (hs : CallS (ct X T) k r o) (hg : Gl X x) (hm : X.mg x = none) (hv : bootBuiltins x = some (.type Ty)) (ha : Pb X T E (e :: es) fs) (hn : x ≠ "__name__" := by decide) (hdb : (x == ("__debug__" : Str)) = false := by decide)
    (he : starEach (e :: es) X.env = (false, eval e X.env) :: starEach es X.env := by rfl) (hpl : (backTo pos (starEach es X.env)).any (·.1) = false := by rfl) : P X T E k (.Call (.Name x p) (e :: es) [] pos) (eB o fs) :=
  PE.mono (pe_callTy hc hg hm hv ha hn hdb he hpl) fun σ H Q ⟨H0, F, ρ, fr, ou⟩ => ⟨H0, F, ρ, fr, ou.split.imp fun ds F1 H1 e1 fr1 o1 vs rv => hs H0 F1 H1 σ ρ E vs ds Q fr1 rv o1⟩

/-! len -/
def lenD : List D → R D
  | [.lst xs] => .ok (.int xs.length)
  | [.tup xs] => .ok (.int xs.length)
  | [.scr xs] => .ok (.int xs.length)
  | [.str x] => if x.length ≤ sizeLine then .ok (.int x.length) else .stuck
  | [.dk es] => .ok (.int es.length)
  | [.dt es] => .ok (.int es.length)
  | _ => .stuck
theorem call_lenR : CallR X (.builtin "len") (fun xs H Q => (∃ a kvs, xs = [V.ref a] ∧ Rd H a (.dK kvs) ∧ Q (.int kvs.length) H) ∨ (∃ a kvs, xs = [V.ref a] ∧ Rd H a (.dT kvs) ∧ Q (.int kvs.length) H)) := by
  intro pins s σ H xs us Q I r h
  rcases h with ⟨a, kvs, rfl, ha, q⟩ | ⟨a, kvs, rfl, ha, q⟩
  · obtain ⟨u, rfl, ru⟩ := vals1 r
    cases ru
    exact d_len I ha fun t s' I' => ⟨.int kvs.length, H, I', ⟨t, rfl⟩, q⟩
  · obtain ⟨u, rfl, rx⟩ := vals1 r
    obtain rfl : u = .ref a := rx
    obtain ⟨z, hd, ys, rel, dd⟩ := dt_rd I.hok ha
    have hl : kvs.length = ys.length := Paired.length rel
    refine call_len_dictH hd dd (by rw [← hl]; rw [sizeLine_eq] at z; omega) ?_
    rw [← hl]
    exact ⟨.int ((kvs.length : Nat) : Int), H, I.tok _, ⟨_, rfl⟩, q⟩
theorem keys_len {κ : Type} {kvs : List (κ × V)} {es : List (κ × D)} (h : kvs.map (·.1) = es.map (·.1)) : kvs.length = es.length := by
  have := congrArg List.length h
  simpa using this
theorem reps1 {c : Ct} {F : Hp} {σ : L2.St} {ρ : Fr} {vs : List V} {d : D} (r : RepsB c F σ ρ vs [d]) : ∃ v, vs = [v] ∧ RepB c F σ ρ v d := by
  cases r with
  | cons h t => cases t; exact ⟨_, rfl, h⟩
theorem reps2 {c : Ct} {F : Hp} {σ : L2.St} {ρ : Fr} {vs : List V} {d e : D} (r : RepsB c F σ ρ vs [d, e]) : ∃ v w, vs = [v, w] ∧ RepB c F σ ρ v d ∧ RepB c F σ ρ w e := by
  cases r with
  | cons h t =>
    cases t with
    | cons h2 t2 => cases t2; exact ⟨_, _, rfl, h, h2⟩
theorem s_len : CallS (ct X T) .f (fun xs H Q => (∃ x n, xs = [x] ∧ LenV X.K x H n ∧ Q (.int n) H) ∨ ((∃ a kvs, xs = [V.ref a] ∧ Rd H a (.dK kvs) ∧ Q (.int kvs.length) H) ∨ (∃ a kvs, xs = [V.ref a] ∧ Rd H a (.dT kvs) ∧ Q (.int kvs.length) H))) lenD := by
  intro H0 F H σ ρ E vs ds Q fr rv o
  unfold lenD at o
  split at o
  · obtain ⟨v, rfl, r⟩ := reps1 rv
    obtain ⟨a, ws, rfl, h1, r⟩ := r.lst fr
    exact .inl ⟨_, _, rfl, .inl ⟨ws, .of h1, rfl⟩, by rw [r.length]; exact o.here fr rfl _ (.int _)⟩
  · obtain ⟨v, rfl, r⟩ := reps1 rv
    obtain ⟨a, ws, rfl, h1, h2, r⟩ := r.tup fr
    exact .inl ⟨_, _, rfl, .inr ⟨ws, .of h1, rfl⟩, by rw [r.length]; exact o.here fr rfl _ (.int _)⟩
  · obtain ⟨v, rfl, r⟩ := reps1 rv
    obtain ⟨a, rfl, h1⟩ := r.scr fr
    exact .inl ⟨_, _, rfl, .inl ⟨_, h1, rfl⟩, by rw [List.length_map]; exact o.here fr rfl _ (.int _)⟩
  · split at o
    · rename_i hz
      obtain ⟨v, rfl, r⟩ := reps1 rv
      cases r.str fr
      exact .inl ⟨_, _, rfl, ⟨hz, rfl⟩, o.here fr rfl _ (.int _)⟩
    · exact o.elim
  · obtain ⟨v, rfl, r⟩ := reps1 rv
    obtain ⟨a, kvs, rfl, h1, h2, r⟩ := r.dk fr
    exact .inr (.inl ⟨a, kvs, rfl, h1, by rw [keys_len h2]; exact o.here fr rfl _ (.int _)⟩)
  · obtain ⟨v, rfl, r⟩ := reps1 rv
    obtain ⟨a, kvs, rfl, h1, h2, r⟩ := r.dt fr
    exact .inr (.inr ⟨a, kvs, rfl, h1, by rw [keys_len h2]; exact o.here fr rfl _ (.int _)⟩)
  · exact o.elim
theorem p_len (hm : X.mg "len" = none) (ha : Pb X T E [a] fs) (hg : Gl X "len" := by rfl) (he : starEach [a] X.env = (false, eval a X.env) :: starEach [] X.env := by rfl) : P X T E .f (.Call (.Name "len" p) [a] [] pos) (eB lenD fs) :=
  p_blt (CallR.or call_len call_lenR) s_len hg hm PySem.boot_len ha (by decide) (by decide) he rfl

/-! isinstance -/
def tyN : D → Option String
  | .non => some "NoneType"
  | .bl _ => some "bool"
  | .int _ => some "int"
  | .str _ => some "str"
  | .lst _ => some "list"
  | .scr _ => some "list"
  | .tup _ => some "tuple"
  | .dk _ => some "dict"
  | _ => none
def isiD : List D → R D
  | [x, .ty n] => match tyN x with
    | some t => match kitB t n with
      | some b => .ok (.bl b)
      | none => .stuck
    | none => .stuck
  | _ => .stuck
theorem ty_rep {c : Ct} {H0 : Bs} {F H : Hp} {σ : L2.St} {ρ : Fr} {v : V} {x : D} {n : String} (fr : FR c H0 F H σ ρ) (r : RepB c F σ ρ v x) (h : tyN x = some n) : TyX c.K H v (.type n) := by
  cases x <;> first | (cases h; done) | (cases h)
  · cases r.non fr; exact .base .non
  · cases r.bl fr; exact .base (.bl _)
  · cases r.int fr; exact .base (.int _)
  · cases r.str fr; exact .base (.str _)
  · obtain ⟨a, ws, rfl, h1, r⟩ := r.lst fr
    exact .base (.lst h1)
  · obtain ⟨a, ws, rfl, h1, h2, r⟩ := r.tup fr
    exact .base (.tup h1)
  · obtain ⟨a, rfl, h1⟩ := r.scr fr
    rcases h1 with (h1 | ⟨o, h1⟩) | ⟨o, its, n, h1, h2, _⟩
    · exact .base (.lst h1)
    · exact .base (.frz h1)
    · exact .kList h1 h2
  · obtain ⟨a, kvs, rfl, h1, h2, r⟩ := r.dk fr
    rcases h1 with h1 | ⟨o, h1⟩
    · exact .base (.dK h1)
    · exact .fDict h1
theorem s_isi : CallS (ct X T) .f (rIsi X.K) isiD := by
  intro H0 F H σ ρ E vs ds Q fr rv o
  unfold isiD at o
  split at o
  · split at o
    · rename_i n _ t ht
      split at o
      · rename_i b hb
        obtain ⟨v, w, rfl, r1, r2⟩ := reps2 rv
        cases r2.ty fr
        exact ⟨v, _, _, _, b, rfl, .ty n, ty_rep fr r1 ht, kit_ty hb, o.here fr rfl _ (.bl _)⟩
      · exact o.elim
    · exact o.elim
  · exact o.elim
theorem p_isi (hm : X.mg "isinstance" = none) (ha : Pb X T E (a :: es) fs) (hg : Gl X "isinstance" := by rfl) (he : starEach (a :: es) X.env = (false, eval a X.env) :: starEach es X.env := by rfl) (hpl : (backTo pos (starEach es X.env)).any (·.1) = false := by rfl) :
    P X T E .f (.Call (.Name "isinstance" p) (a :: es) [] pos) (eB isiD fs) :=
  p_blt call_isi s_isi hg hm (by decide +kernel) ha (by decide) (by decide) he hpl

/-! all, any -/
def D.bls : List D → Option (List Bool)
  | [] => some []
  | .bl b :: r => (D.bls r).map (b :: ·)
  | _ :: _ => none
theorem D.bls_map : ∀ {xs : List D} {ns : List Bool}, D.bls xs = some ns → xs = ns.map D.bl
  | [], ns, h => by
    rw [D.bls] at h
    cases h
    rfl
  | x :: r, ns, h => by
    cases x <;> rw [D.bls] at h <;> first | cases h | skip
    cases q : D.bls r with
    | none => rw [q] at h; cases h
    | some ms =>
      rw [q] at h
      cases h
      rw [D.bls_map q]
      rfl
theorem D.bls_of (ns : List Bool) : D.bls (ns.map D.bl) = some ns := by
  induction ns with
  | nil => rfl
  | cons n ns ih => simp only [List.map_cons, D.bls, ih, Option.map_some]
def allD : List D → R D
  | [.lst xs] => match D.bls xs with
    | some bs => .ok (.bl (bs.all id))
    | none => .stuck
  | _ => .stuck
def anyD : List D → R D
  | [.lst xs] => match D.bls xs with
    | some bs => .ok (.bl (bs.any id))
    | none => .stuck
  | _ => .stuck
theorem s_all : CallS (ct X T) .f (rAll X.K) allD := by
  intro H0 F H σ ρ E vs ds Q fr rv o
  unfold allD at o
  split at o
  · split at o
    · rename_i bs hb
      obtain ⟨v, rfl, r⟩ := reps1 rv
      obtain ⟨a, ws, rfl, h1, r⟩ := r.lst fr
      rw [D.bls_map hb] at r
      cases r.bls
      exact ⟨a, bs, rfl, .of h1, o.here fr rfl _ (.bl _)⟩
    · exact o.elim
  · exact o.elim
theorem s_any : CallS (ct X T) .f (rAny X.K) anyD := by
  intro H0 F H σ ρ E vs ds Q fr rv o
  unfold anyD at o
  split at o
  · split at o
    · rename_i bs hb
      obtain ⟨v, rfl, r⟩ := reps1 rv
      obtain ⟨a, ws, rfl, h1, r⟩ := r.lst fr
      rw [D.bls_map hb] at r
      cases r.bls
      exact ⟨a, bs, rfl, .of h1, o.here fr rfl _ (.bl _)⟩
    · exact o.elim
  · exact o.elim
theorem p_all (hm : X.mg "all" = none) (hc : X.calm = true) (ha : Pb X T E [a] fs) (hg : Gl X "all" := by rfl) (he : starEach [a] X.env = (false, eval a X.env) :: starEach [] X.env := by rfl) : P X T E .f (.Call (.Name "all" p) [a] [] pos) (eB allD fs) :=
  p_blt (cr_all hc) s_all hg hm (by decide +kernel) ha (by decide) (by decide) he rfl
theorem p_any (hm : X.mg "any" = none) (hc : X.calm = true) (ha : Pb X T E [a] fs) (hg : Gl X "any" := by rfl) (he : starEach [a] X.env = (false, eval a X.env) :: starEach [] X.env := by rfl) : P X T E .f (.Call (.Name "any" p) [a] [] pos) (eB anyD fs) :=
  p_blt (cr_any hc) s_any hg hm (by decide +kernel) ha (by decide) (by decide) he rfl

/-! int, bool, abs, list, tuple, sum -/
def intD : List D → R D
  | [.int i] => .ok (.int i)
  | [.bl b] => .ok (.int (if b then 1 else 0))
  | _ => .stuck
theorem s_intc : CallS (ct X T) .f (fun xs H Q => (∃ i, xs = [.int i] ∧ Q (.int i) H) ∨ ∃ k, xs = [.bl k] ∧ Q (.int (if k then 1 else 0)) H) intD := by
  intro H0 F H σ ρ E vs ds Q fr rv o
  unfold intD at o
  split at o
  · obtain ⟨v, rfl, r⟩ := reps1 rv
    cases r.int fr
    exact .inl ⟨_, rfl, o.here fr rfl _ (.int _)⟩
  · obtain ⟨v, rfl, r⟩ := reps1 rv
    cases r.bl fr
    exact .inr ⟨_, rfl, o.here fr rfl _ (.int _)⟩
  · exact o.elim
theorem p_intc (hm : X.mg "int" = none) (ha : Pb X T E [a] fs) (hg : Gl X "int" := by rfl) (he : starEach [a] X.env = (false, eval a X.env) :: starEach [] X.env := by rfl) : P X T E .f (.Call (.Name "int" p) [a] [] pos) (eB intD fs) :=
  p_bty call_int1 s_intc hg hm (by decide +kernel) ha (by decide) (by decide) he rfl
def absD : List D → R D
  | [.int i] => .ok (.int (if i < 0 then -i else i))
  | _ => .stuck
theorem s_abs : CallS (ct X T) .f (fun xs H Q => ∃ i, xs = [.int i] ∧ Q (.int (if i < 0 then -i else i)) H) absD := by
  intro H0 F H σ ρ E vs ds Q fr rv o
  unfold absD at o
  split at o
  · obtain ⟨v, rfl, r⟩ := reps1 rv
    cases r.int fr
    exact ⟨_, rfl, o.here fr rfl _ (.int _)⟩
  · exact o.elim
theorem p_abs (hm : X.mg "abs" = none) (ha : Pb X T E [a] fs) (hg : Gl X "abs" := by rfl) (he : starEach [a] X.env = (false, eval a X.env) :: starEach [] X.env := by rfl) : P X T E .f (.Call (.Name "abs" p) [a] [] pos) (eB absD fs) :=
  p_blt call_abs s_abs hg hm (by decide +kernel) ha (by decide) (by decide) he rfl
def listD : List D → R D
  | [.lst xs] => .ok (.lst xs)
  | [.tup xs] => .ok (.lst xs)
  | [.scr xs] => .ok (.lst (xs.map D.int))
  | _ => .stuck
theorem s_list : CallS (ct X T) .n (fun xs H Q => ∃ p ys, xs = [.ref p] ∧ (SqL X.K H p ys ∨ SqT X.K H p ys) ∧ ∀ l, H l = none → Q (.ref l) (upd H l (.lst ys))) listD := by
  intro H0 F H σ ρ E vs ds Q fr rv o
  unfold listD at o
  split at o
  · obtain ⟨v, rfl, r⟩ := reps1 rv
    obtain ⟨a, ws, rfl, h1, r⟩ := r.lst fr
    exact ⟨a, ws, rfl, .inl (.of h1), fun l hl => new_own fr r o hl⟩
  · obtain ⟨v, rfl, r⟩ := reps1 rv
    obtain ⟨a, ws, rfl, h1, h2, r⟩ := r.tup fr
    exact ⟨a, ws, rfl, .inr (.of h1), fun l hl => new_own fr r o hl⟩
  · obtain ⟨v, rfl, r⟩ := reps1 rv
    obtain ⟨a, rfl, h1⟩ := r.scr fr
    exact ⟨a, _, rfl, .inl h1, fun l hl => new_own fr (Reps.of_ints _) o hl⟩
  · exact o.elim
theorem p_list (hm : X.mg "list" = none) (ha : Pb X T E [a] fs) (hg : Gl X "list" := by rfl) (he : starEach [a] X.env = (false, eval a X.env) :: starEach [] X.env := by rfl) : P X T E .n (.Call (.Name "list" p) [a] [] pos) (eB listD fs) :=
  p_bty call_list_of s_list hg hm (by decide +kernel) ha (by decide) (by decide) he rfl
def tupleD : List D → R D
  | [.lst xs] => .ok (.tup xs)
  | [.tup xs] => .ok (.tup xs)
  | _ => .stuck
theorem s_tuple : CallS (ct X T) .f (fun xs H Q => ∃ p ys, xs = [.ref p] ∧ ((SqL X.K H p ys ∧ ∀ l, H l = none → Q (.ref l) (upd H l (.tup ys))) ∨ (SqT X.K H p ys ∧ Q (.ref p) H))) tupleD := by
  intro H0 F H σ ρ E vs ds Q fr rv o
  unfold tupleD at o
  split at o
  · obtain ⟨v, rfl, r⟩ := reps1 rv
    obtain ⟨a, ws, rfl, h1, r⟩ := r.lst fr
    exact ⟨a, ws, rfl, .inl ⟨.of h1, fun l hl => new_tup fr r o hl⟩⟩
  · obtain ⟨v, rfl, r⟩ := reps1 rv
    obtain ⟨a, ws, rfl, h1, h2, r⟩ := r.tup fr
    exact ⟨a, ws, rfl, .inr ⟨.of h1, o.here fr rfl _ (.tup h2 r)⟩⟩
  · exact o.elim
theorem p_tuple (hm : X.mg "tuple" = none) (ha : Pb X T E [a] fs) (hg : Gl X "tuple" := by rfl) (he : starEach [a] X.env = (false, eval a X.env) :: starEach [] X.env := by rfl) : P X T E .f (.Call (.Name "tuple" p) [a] [] pos) (eB tupleD fs) :=
  p_bty call_tuple_of s_tuple hg hm (by decide +kernel) ha (by decide) (by decide) he rfl
end

/-! ### defs: what they promise -/
/-- a call with the data ds ends as m tells -/
def OutC (c : Ct) (H : Hp) (Q : VK) (E : XK) (m : R D) : Prop := match m with
  | .ok d => ∀ v H', ExtN H H' → Tabs c.T H' → Rep c H' v d → Q v H'
  | .err x => ∀ C H', c.mg x = some (.ref C) → ExtN H H' → Tabs c.T H' → E (.ref C) none H'
  | .stuck => False
def spD (c : Ct) (n : Nat) (m : List D → R D) : Sp := fun vs H Q E => ∃ ds, ds.length = n ∧ Reps c H vs ds ∧ Tabs c.T H ∧ OutC c H Q E (m ds)
/-- the def x of the module is m, at level k -/
structure Kn (P : Program) (w : World) (K : PySem.W.Frag) (mg : Str → Option Value) (base : Heap) (T : List (Addr × Str)) (x : Str) (k n : Nat) (m : List D → R D) : Prop where
  ex : ∃ (fa : Addr) (fd : FuncData) (ps : List Str), mg x = some (.ref fa) ∧ FnOk P w K mg base (L2.CX P w) k fa fd ps (spD ⟨K, mg, T⟩ n m) ∧ PySem.W.keepIn K (.ref fa) = true ∧ Binds K fd ps []
theorem Kn.mono {P : Program} {w : World} {K : PySem.W.Frag} {mg : Str → Option Value} {base : Heap} {T : List (Addr × Str)} {x : Str} {k k' n : Nat} {m : List D → R D} (h : Kn P w K mg base T x k n m) (hk : k ≤ k') : Kn P w K mg base T x k' n m := by
  obtain ⟨fa, fd, ps, h1, h2, h3, h4⟩ := h.ex
  exact ⟨fa, fd, ps, h1, h2.mono hk, h3, h4⟩
section
variable {X : Cx} {T : List (Addr × Str)} {E : XK} {e a b d : Expr} {es rest : List Expr} {f g h : Fr → R D} {fs : Fr → R (List D)} {p pos : Pos} {j k n : Nat} {x : Str} {m : List D → R D}
/-- the callee runs in the part of the heap that stays -/
theorem run_in {pins : List (Addr × Obj)} {σ : L2.St} {ρ : Fr} {H0 : Bs} {F H : Hp} {s : Shared} {Q : VK} {us : List Value} {vs : List V} {ds : List D} {fa : Addr} {fd : FuncData} {ps : List Str} (Fn : FnOk X.prog X.w X.K X.mg X.base (L2.CX X.prog X.w) k fa fd ps (spD (ct X T) n m)) (hr : Room k X.A) (hb : Binds X.K fd ps [])
    (tk : Takes X (fun cls d _ H => E cls d H)) (I : Inv X pins σ H s) (fr : FR (ct X T) H0 F H σ ρ) (rv : Vals vs us) (rd : Reps (ct X T) F vs ds) (hn : ds.length = n) (o : Out (ct X T) E H0 F σ ρ (m ds) fun d F' H' => ∀ v, Tell (ct X T) H0 σ ρ .f v d F' H' → Q v H') :
    wpAny (model X.prog X.w) X.A (call (.ref fa) us) (EP X pins σ Q) X.xe s := by
  have J := narrow I fr.sub fr.rest
  refine thn (run_fn (Q := fun v F' => ∃ d, m ds = .ok d ∧ ExtN F F' ∧ Tabs T F' ∧ Rep (ct X T) F' v d) (E := E) (ds := []) (dvs := []) Fn hr hb .nil (fun pins' σ' H' s' e' s'' I' c => passes_call tk (fun _ _ _ _ z => z) pins' σ' H' s' e' s'' I' c) J rv ?_) fun u s' hh => ?_
  · rw [List.append_nil]
    refine ⟨ds, hn, rd, fr.tabs, ?_⟩
    revert o
    cases hm : m ds with
    | ok d => exact fun o v H' e t r => ⟨d, rfl, e, t, r⟩
    | err y => exact fun o C H' hC e t => o C H' hC (fr.ext.trans e) t
    | stuck => exact fun o => o.elim
  · obtain ⟨v, F', I', r, d, hd, e, t, hr'⟩ := hh
    have I2 := widen I fr.sub fr.rest I' fun b xs q => e b _ q (fun ps z => by cases z)
    have nR : ∀ b o, H b = some o → F b = none → F' b = none := fun b o q1 q2 => by
      obtain ⟨ob, e', d⟩ := objOk_mut (fr.rest b o q1 q2) (I.hok b o q1)
      have hp := mem_restPins (h := s.heap) (H := H) q2 (by rw [q1]; exact fun z => by cases z) e'
      exact (I'.pin (b, ob) (List.mem_append_right _ (List.mem_append_right _ hp))).2.1
    rw [hd] at o
    exact ⟨v, _, I2, r, o F' _ e (fr.mrg e t nR) v hr'⟩
/-- so many arguments -/
def Lens (fs : Fr → R (List D)) (n : Nat) : Prop := ∀ ρ ds, fs ρ = .ok ds → ds.length = n
theorem lens_nil : Lens xNil 0 := fun ρ ds h => by cases h; rfl
theorem lens_cons {f : Fr → R D} {fs : Fr → R (List D)} {n : Nat} (h : Lens fs n) : Lens (xCons f fs) (n + 1) := fun ρ ds q => by
  unfold xCons at q
  cases e1 : f ρ with
  | ok x =>
    cases e2 : fs ρ with
    | ok xs =>
      rw [e1, e2] at q
      cases q
      rw [List.length_cons, h ρ xs e2]
    | err y => rw [e1, e2] at q; cases q
    | stuck => rw [e1, e2] at q; cases q
  | err y => rw [e1] at q; cases q
  | stuck => rw [e1] at q; cases q
/-- f(e, ..) -/
theorem p_call (K : Kn X.prog X.w X.K X.mg X.base T x k n m) (hr : Room k X.A) (tk : Takes X (fun cls d _ H => E cls d H)) (ha : Ps X T E (e :: es) fs) (hg : Gl X x := by rfl) (hl : (e :: es).length = n := by rfl) (hdb : (x == ("__debug__" : Str)) = false := by decide)
    (he : starEach (e :: es) X.env = (false, eval e X.env) :: starEach es X.env := by rfl) (hpl : (backTo pos (starEach es X.env)).any (·.1) = false := by rfl) (hfs : Lens fs n := by repeat (first | exact lens_nil | apply lens_cons)) :
    P X T E .f (.Call (.Name x p) (e :: es) [] pos) (eB m fs) := by
  obtain ⟨fa, fd, ps, hm, Fn, hk, hb⟩ := K.ex
  refine ⟨fun pins s σ H Q I q => ?_⟩
  obtain ⟨H0, F, ρ, fr, ou⟩ := q
  refine wpAny_Call_Name_kw (ld_glob I hg hm ?_ hdb)
  refine PySem.W.callWith_K (h₀ := X.base) I.ok.mod.kin hk (thn (ha.run pos pins s σ H (fun vs H1 => ∃ ds F1, fs ρ = .ok ds ∧ Reps (ct X T) F1 vs ds ∧ FR (ct X T) H0 F1 H1 σ ρ ∧ Out (ct X T) E H0 F1 σ ρ (m ds) fun d F' H' => ∀ v, Tell (ct X T) H0 σ ρ .f v d F' H' → Q v H') I ⟨H0, F, ρ, fr, ?_⟩) fun us s1 hh => ?_) he hpl
  · revert ou
    unfold eB
    cases hq : fs ρ with
    | ok ds => exact fun ou F1 H1 e1 fr1 vs rv => ⟨ds, F1, rfl, rv, fr1, (Out.split (m := .ok ds) ou) F1 H1 e1 fr1⟩
    | err y => exact id
    | stuck => exact id
  · obtain ⟨vs, H1, I1, r, ds, F1, hq, rv, fr1, o1⟩ := hh
    exact ⟨I1.kIn, run_in Fn hr hb tk I1 fr1 r rv (hfs ρ ds hq) o1⟩
end
end PB

namespace PB
open PySem PySem.Spec PyProof.Rows L2 LamX
/-! ### statements -/
/-- where a statement leaves off: behind it, handed back, at a break, a continue, an error -/
inductive O where
  | nx (ρ : Fr) | rt (d : D) | bk (ρ : Fr) | cn (ρ : Fr) | er (x : Str) | stuck
def OutS (c : Ct) (E : XK) (H0 : Bs) (F : Hp) (W : Ends) : O → Prop
  | .nx ρ => ∀ σ F' H', ExtN F F' → FR c H0 F' H' σ ρ → W.nx σ H'
  | .bk ρ => ∀ σ F' H', ExtN F F' → FR c H0 F' H' σ ρ → W.bk σ H'
  | .cn ρ => ∀ σ F' H', ExtN F F' → FR c H0 F' H' σ ρ → W.ct σ H'
  | .rt d => ∀ v H', ExtN H0.h H' → Tabs c.T H' → Rep c H' v d → W.rt v H'
  | .er x => ∀ C H', c.mg x = some (.ref C) → ExtN H0.h H' → Tabs c.T H' → E (.ref C) none H'
  | .stuck => False
def tS (c : Ct) (E : XK) (g : Fr → O) : TS := fun W σ H => ∃ H0 F ρ, FR c H0 F H σ ρ ∧ OutS c E H0 F W (g ρ)
abbrev S (X : Cx) (T : List (Addr × Str)) (E : XK) (st : Stmt) (g : Fr → O) : Prop := PS X st (tS (ct X T) E g)
abbrev Ss (X : Cx) (T : List (Addr × Str)) (E : XK) (st : List Stmt) (g : Fr → O) : Prop := PSs X st (tS (ct X T) E g)
section
variable {α : Type} {c : Ct} {E : XK} {H0 : Bs} {F F1 H : Hp} {W W' : Ends} {σ : L2.St} {ρ : Fr}
theorem OutS.ext (e : ExtN F F1) {o : O} (h : OutS c E H0 F W o) : OutS c E H0 F1 W o := by
  cases o with
  | nx ρ => exact fun σ F' H' e' fr => h σ F' H' (e.trans e') fr
  | bk ρ => exact fun σ F' H' e' fr => h σ F' H' (e.trans e') fr
  | cn ρ => exact fun σ F' H' e' fr => h σ F' H' (e.trans e') fr
  | rt d => exact h
  | er x => exact h
  | stuck => exact h
def sLet (f : Fr → R α) (k : α → Fr → O) : Fr → O := fun ρ => match f ρ with
  | .ok a => k a ρ
  | .err x => .er x
  | .stuck => .stuck
theorem out_s {f : Fr → R α} {k : α → Fr → O} (h : OutS c E H0 F W (sLet f k ρ)) : Out c E H0 F σ ρ (f ρ) fun a F' _ => OutS c E H0 F' W (k a ρ) := by
  unfold sLet at h
  cases q : f ρ with
  | ok a => rw [q] at h; exact fun F' H' e fr => OutS.ext e h
  | err x => rw [q] at h; exact h
  | stuck => rw [q] at h; exact h
theorem OutS.nx {ρ' : Fr} {σ' : L2.St} (h : OutS c E H0 F W (.nx ρ')) (fr : FR c H0 F H σ' ρ') : W.nx σ' H := h σ' F H (.refl F) fr
end
def sNil : Fr → O := fun ρ => .nx ρ
def sSeq (g h : Fr → O) : Fr → O := fun ρ => match g ρ with
  | .nx ρ' => h ρ'
  | o => o
section
variable {X : Cx} {T : List (Addr × Str)} {E : XK} {e a b d : Expr} {es : List Expr} {st : Stmt} {rest sa sb : List Stmt} {f : Fr → R D} {s : Fr → R Bool} {g h : Fr → O} {k : Kd} {p pos pos' : Pos} {i j : Nat} {x : Str}
theorem ss_nil : Ss X T E [] sNil := PSs.mono pss_nil fun W σ H ⟨H0, F, ρ, fr, ou⟩ => OutS.nx ou fr
theorem out_seq {c : Ct} {H0 : Bs} {F : Hp} {W : Ends} {o : O} (h : Fr → O) (ou : OutS c E H0 F W (match o with | .nx ρ' => h ρ' | o => o)) : OutS c E H0 F { W with nx := tS c E h W } o := by
  cases o with
  | nx ρ' => exact fun σ F' H' e fr => ⟨H0, F', ρ', fr, OutS.ext e ou⟩
  | bk ρ => exact ou
  | cn ρ => exact ou
  | rt d => exact ou
  | er x => exact ou
  | stuck => exact ou
theorem ss_cons (h1 : S X T E st g) (h2 : Ss X T E rest h) : Ss X T E (st :: rest) (sSeq g h) :=
  PSs.mono (pss_cons h1 h2) fun W σ H ⟨H0, F, ρ, fr, ou⟩ => ⟨H0, F, ρ, fr, out_seq h ou⟩
theorem ss_one (h1 : S X T E st g) : Ss X T E [st] g := pss_one h1
theorem s_pass : S X T E (.Pass pos) sNil := PS.mono ps_pass fun W σ H ⟨H0, F, ρ, fr, ou⟩ => OutS.nx ou fr
theorem s_break : S X T E (.Break pos) (fun ρ => .bk ρ) := PS.mono ps_break fun W σ H ⟨H0, F, ρ, fr, ou⟩ => ou σ F H (.refl F) fr
theorem s_continue : S X T E (.Continue pos) (fun ρ => .cn ρ) := PS.mono ps_continue fun W σ H ⟨H0, F, ρ, fr, ou⟩ => ou σ F H (.refl F) fr
/-- e as a statement -/
def sEx (f : Fr → R D) : Fr → O := sLet f fun _ ρ => .nx ρ
theorem s_expr (ha : P X T E .b e f) (hs : swapsWith e none pos.line X.env = pure false := by rfl) : S X T E (.Expr e pos) (sEx f) :=
  PS.mono (ps_expr ha hs) fun W σ H ⟨H0, F, ρ, fr, ou⟩ => ⟨H0, F, ρ, fr, (out_s ou).imp fun d F' H' e fr' o v r => OutS.nx o fr'⟩
def sRet (f : Fr → R D) : Fr → O := sLet f fun d _ => .rt d
theorem s_ret (ha : P X T E .b e f) : S X T E (.Return (some e) pos) (sRet f) :=
  PS.mono (ps_ret ha) fun W σ H ⟨H0, F, ρ, fr, ou⟩ => ⟨H0, F, ρ, fr, (out_s ou).imp fun d F' H' e fr' o v r => o v H' (fr'.ext.trans fr'.extH) (fr'.tabs.ext fr'.sub) (RepB.whole fr' r)⟩
theorem s_retN : S X T E (.Return none pos) (fun _ => .rt .non) :=
  PS.mono ps_retN fun W σ H ⟨H0, F, ρ, fr, ou⟩ => ou _ H (fr.ext.trans fr.extH) (fr.tabs.ext fr.sub) .non
def sIf (s : Fr → R Bool) (g h : Fr → O) : Fr → O := sLet s fun b ρ => if b = true then g ρ else h ρ
theorem s_if (hc : Pt X T E d s) (ha : Ss X T E sa g) (hb : Ss X T E sb h) : S X T E (.If d sa sb pos) (sIf s g h) :=
  PS.mono (ps_if hc ha hb) fun W σ H ⟨H0, F, ρ, fr, ou⟩ => ⟨H0, F, ρ, fr, (out_s ou).imp fun b F' H' e fr' o => by
    cases b with
    | true => exact ⟨H0, F', ρ, fr', o⟩
    | false => exact ⟨H0, F', ρ, fr', o⟩⟩
/-! ### targets -/
/-- only the slots in is are other -/
def Keeps (is : List Nat) (σ σ' : L2.St) : Prop := σ'.length = σ.length ∧ ∀ j, j ∉ is → σ'[j]? = σ[j]?
def tG (c : Ct) (is : List Nat) (g : D → Fr → R Fr) : TG := fun v σ H Q => ∃ H0 F ρ d ρ', FR c H0 F H σ ρ ∧ Rep c F v d ∧ g d ρ = .ok ρ' ∧ ∀ σ', Keeps is σ σ' → FR c H0 F H σ' ρ' → Q σ' H
def tGs (c : Ct) (is : List Nat) (g : List D → Fr → R Fr) : TGs := fun vs σ H Q => ∃ H0 F ρ ds ρ', FR c H0 F H σ ρ ∧ Reps c F vs ds ∧ g ds ρ = .ok ρ' ∧ ∀ σ', Keeps is σ σ' → FR c H0 F H σ' ρ' → Q σ' H
abbrev G (X : Cx) (T : List (Addr × Str)) (tg : Expr) (is : List Nat) (g : D → Fr → R Fr) : Prop := PG X tg (tG (ct X T) is g)
abbrev Gs (X : Cx) (T : List (Addr × Str)) (tg : List Expr) (is : List Nat) (g : List D → Fr → R Fr) : Prop := PGs X tg (tGs (ct X T) is g)
theorem PG.mono {X : Cx} {e : Expr} {t t' : TG} (h : PG X e t) (i : ∀ v σ H Q, t' v σ H Q → t v σ H Q) : PG X e t' := ⟨fun pins s σ H v u Q I r q => h.run pins s σ H v u Q I r (i v σ H Q q)⟩
theorem PGs.mono {X : Cx} {e : List Expr} {t t' : TGs} (h : PGs X e t) (i : ∀ v σ H Q, t' v σ H Q → t v σ H Q) : PGs X e t' := ⟨fun pins s σ H v u Q I r q => h.run pins s σ H v u Q I r (i v σ H Q q)⟩
def gN (i : Nat) : D → Fr → R Fr := fun d ρ => .ok (ρ.set i (.fz d))
def gNil' : List D → Fr → R Fr := fun ds ρ => match ds with
  | [] => .ok ρ
  | _ => .stuck
def gCons' (g : D → Fr → R Fr) (h : List D → Fr → R Fr) : List D → Fr → R Fr := fun ds ρ => match ds with
  | d :: r => (g d ρ).bind (h r)
  | [] => .stuck
def gT (n : Nat) (h : List D → Fr → R Fr) : D → Fr → R Fr := fun d ρ => match d with
  | .tup ds => if ds.length = n then h ds ρ else .stuck
  | _ => .stuck
theorem keeps_set (σ : L2.St) (i : Nat) (v : Option V) : Keeps [i] σ (σ.set i v) := ⟨by rw [List.length_set], fun j hj => List.getElem?_set_ne (fun e => hj (by rw [e]; exact List.mem_singleton.mpr rfl))⟩
theorem g_n (hN : X.N.Nodup) (hi : X.N[i]? = some x := by rfl) (hx : Loc X.env.scope x := by first | exact Or.inl rfl | exact Or.inr rfl) (hf : X.fn x = true ∨ X.env.scope.names.lookup x = some .local := by first | exact Or.inl rfl | exact Or.inr rfl) : G X T (.Name x pos) [i] (gN i) :=
  PG.mono (pg_name hN hi hx hf) fun v σ H Q ⟨H0, F, ρ, d, ρ', fr, r, e, q⟩ => by
    cases e
    exact q _ (keeps_set σ i _) (fr.setF r)
theorem gs_nil : Gs X T [] [] gNil' := PGs.mono pgs_nil fun vs σ H Q ⟨H0, F, ρ, ds, ρ', fr, r, e, q⟩ => by
  cases r with
  | nil =>
    cases e
    exact ⟨rfl, q σ ⟨rfl, fun _ _ => rfl⟩ fr⟩
  | cons _ _ => cases e
theorem gs_cons {is js : List Nat} {g : D → Fr → R Fr} {h : List D → Fr → R Fr} (h1 : G X T e is g) (h2 : Gs X T es js h) (hs : (assignEach (e :: es) X.env).map (·.2) = assign e X.env :: (assignEach es X.env).map (·.2) := by rfl) : Gs X T (e :: es) (is ++ js) (gCons' g h) :=
  PGs.mono (pgs_cons h1 h2 hs) fun vs σ H Q ⟨H0, F, ρ, ds, ρ', fr, r, eq, q⟩ => by
    cases r with
    | nil => cases eq
    | @cons v d vs ds hv r =>
      have eq : (g d ρ).bind (h ds) = .ok ρ' := eq
      cases q1 : g d ρ with
      | ok ρ1 =>
        rw [q1] at eq
        exact ⟨_, _, rfl, H0, F, ρ, _, ρ1, fr, hv, q1, fun σ1 k1 fr1 => ⟨H0, F, ρ1, _, ρ', fr1, r, eq, fun σ2 k2 fr2 => q σ2 ⟨k2.1.trans k1.1, fun j hj => (k2.2 j fun z => hj (List.mem_append_right _ z)).trans (k1.2 j fun z => hj (List.mem_append_left _ z))⟩ fr2⟩⟩
      | err y => rw [q1] at eq; cases eq
      | stuck => rw [q1] at eq; cases eq
theorem g_t {is : List Nat} {n kk : Nat} {h : List D → Fr → R Fr} (hc : X.calm = true) (hh : Gs X T es is h) (hn : (assignEach es X.env).length = n := by rfl) (hst : (assignEach es X.env).findIdx? (·.1) = none := by rfl) : G X T (.Tuple es kk pos) is (gT n h) :=
  PG.mono (pg_tup hc hh hn hst) fun v σ H Q ⟨H0, F, ρ, d, ρ', fr, r, e, q⟩ => by
    unfold gT at e
    cases r with
    | @tup a vs ds h1 r =>
      have e : (if ds.length = n then h ds ρ else R.stuck) = R.ok ρ' := e
      by_cases hl : ds.length = n
      · rw [if_pos hl] at e
        exact ⟨a, vs, rfl, .of (fr.sub _ _ h1), by rw [r.length]; exact hl, H0, F, ρ, ds, ρ', fr, r, e, q⟩
      · rw [if_neg hl] at e
        cases e
    | _ => cases e
/-- g raises nothing -/
def GE (g : D → Fr → R Fr) : Prop := ∀ d ρ y, g d ρ ≠ .err y
def GEs (g : List D → Fr → R Fr) : Prop := ∀ d ρ y, g d ρ ≠ .err y
theorem ge_n (i : Nat) : GE (gN i) := fun d ρ y h => by cases h
theorem ges_nil : GEs gNil' := fun d ρ y h => by unfold gNil' at h; split at h <;> cases h
theorem ges_cons {g : D → Fr → R Fr} {h : List D → Fr → R Fr} (h1 : GE g) (h2 : GEs h) : GEs (gCons' g h) := fun d ρ y e => by
  unfold gCons' at e
  split at e
  · rename_i d r
    cases q : g d ρ with
    | ok ρ1 => rw [q] at e; exact h2 _ _ _ e
    | err z => exact h1 _ _ _ q
    | stuck => rw [q] at e; cases e
  · cases e
theorem ge_t {n : Nat} {h : List D → Fr → R Fr} (h1 : GEs h) : GE (gT n h) := fun d ρ y e => by
  unfold gT at e
  split at e
  · split at e
    · exact h1 _ _ _ e
    · cases e
  · cases e
/-! ### assignments -/
def sSet (i : Nat) (f : Fr → R D) : Fr → O := sLet f fun d ρ => .nx (ρ.set i (.fz d))
def sOwn (i : Nat) (f : Fr → R D) : Fr → O := sLet f fun d ρ => .nx (ρ.set i (.ow d))
theorem s_set (hN : X.N.Nodup) (ha : P X T E .f e f) (hi : X.N[i]? = some x := by rfl) (hx : Loc X.env.scope x := by first | exact Or.inl rfl | exact Or.inr rfl) (hf : X.fn x = true ∨ X.env.scope.names.lookup x = some .local := by first | exact Or.inl rfl | exact Or.inr rfl) (hs : swapsWith e (some (.Name x pos')) pos.line X.env = pure false := by rfl) : S X T E (.Assign [.Name x pos'] e pos) (sSet i f) :=
  PS.mono (ps_set hN hi hx ha hs hf) fun W σ H ⟨H0, F, ρ, fr, ou⟩ => ⟨H0, F, ρ, fr, (out_s ou).imp fun d F' H' e fr' o v r => OutS.nx o (fr'.setF r)⟩
theorem s_own (hN : X.N.Nodup) (ha : P X T E .n e f) (hi : X.N[i]? = some x := by rfl) (hx : Loc X.env.scope x := by first | exact Or.inl rfl | exact Or.inr rfl) (hf : X.fn x = true ∨ X.env.scope.names.lookup x = some .local := by first | exact Or.inl rfl | exact Or.inr rfl) (hs : swapsWith e (some (.Name x pos')) pos.line X.env = pure false := by rfl) : S X T E (.Assign [.Name x pos'] e pos) (sOwn i f) :=
  PS.mono (ps_set hN hi hx ha hs hf) fun W σ H ⟨H0, F, ρ, fr, ou⟩ => ⟨H0, F, ρ, fr, (out_s ou).imp fun d F' H' e fr' o v ⟨p, hv, n⟩ => by
    subst hv
    exact OutS.nx o (fr'.setO n)⟩
def sTup (g : D → Fr → R Fr) (f : Fr → R D) : Fr → O := sLet f fun d => sLet (g d) fun ρ' _ => .nx ρ'
theorem s_tup {tg : Expr} {is : List Nat} {g : D → Fr → R Fr} (hg : G X T tg is g) (ha : P X T E .f e f) (hs : swapsWithSole [tg] e pos.line X.env = pure false := by rfl) (hw : swappedStores [tg] e X.env = pure none := by rfl)
    (h1 : (assignEach [tg] X.env).map (·.2) = [assign tg X.env] := by rfl) (hne : GE g := by repeat (first | exact ge_n _ | exact ges_nil | apply ge_t | apply ges_cons)) : S X T E (.Assign [tg] e pos) (sTup g f) :=
  PS.mono (ps_asg ha hg hs hw h1) fun W σ H ⟨H0, F, ρ, fr, ou⟩ => ⟨H0, F, ρ, fr, (out_s ou).imp fun d F' H' e fr' o v r => by
    have o2 : Out (ct X T) E H0 F' σ ρ (g d ρ) fun a F2 _ => OutS (ct X T) E H0 F2 W ((fun ρ' (_ : Fr) => O.nx ρ') a ρ) := out_s o
    cases q : g d ρ with
    | ok ρ' =>
      rw [q] at o2
      exact ⟨H0, F', ρ, d, ρ', fr', r, q, fun σ' _ fr2 => OutS.nx (o2 F' H' (.refl F') fr') fr2⟩
    | err y => exact absurd q (hne d ρ y)
    | stuck => rw [q] at o2; exact o2.elim⟩
/-- the frame's own list or dict at i stays from now on -/
def frz (i : Nat) : Fr → Fr := fun ρ => match ρ[i]? with
  | some (.ow d) => ρ.set i (.fz d)
  | some (.om rss) => ρ.set i (.fz (.lst (rss.map D.lst)))
  | _ => ρ
theorem frz_fr {c : Ct} {H0 : Bs} {F H : Hp} {σ : L2.St} {ρ : Fr} (i : Nat) (fr : FR c H0 F H σ ρ) : ∃ F', ExtN F F' ∧ FR c H0 F' H σ (frz i ρ) := by
  unfold frz
  split
  · rename_i d h
    exact fr.freezeS h
  · rename_i rss h
    exact fr.freezeM h
  · exact ⟨F, .refl F, fr⟩
theorem ss_frz (i : Nat) (h1 : Ss X T E rest g) : Ss X T E rest (fun ρ => g (frz i ρ)) := PSs.mono h1 fun W σ H ⟨H0, F, ρ, fr, ou⟩ => by
  obtain ⟨F', e, fr'⟩ := frz_fr i fr
  exact ⟨H0, F', frz i ρ, fr', OutS.ext e ou⟩
/-! ### the frame's own lists and dicts are changed -/
def getL (i : Nat) : Fr → R (List D) := fun ρ => match ρ[i]? with
  | some (.ow (.lst xs)) => .ok xs
  | _ => .stuck
def getK (i : Nat) : Fr → R (List (Key × D)) := fun ρ => match ρ[i]? with
  | some (.ow (.dk xs)) => .ok xs
  | _ => .stuck
def getT (i : Nat) : Fr → R (List (List Key × D)) := fun ρ => match ρ[i]? with
  | some (.ow (.dt xs)) => .ok xs
  | _ => .stuck
theorem own_lst {c : Ct} {F : Hp} {o : Option HO} {xs : List D} (h : Own c F o (.lst xs)) : ∃ vs, o = some (.lst vs) ∧ Reps c F vs xs := by
  unfold Own at h
  split at h
  · rename_i q
    cases q
    exact ⟨_, rfl, h⟩
  · rename_i q; cases q
  · rename_i q; cases q
  · exact h.elim
theorem own_dk {c : Ct} {F : Hp} {o : Option HO} {xs : List (Key × D)} (h : Own c F o (.dk xs)) : ∃ vs, o = some (.dK vs) ∧ vs.map (·.1) = xs.map (·.1) ∧ Reps c F (vs.map (·.2)) (xs.map (·.2)) := by
  unfold Own at h
  split at h
  · rename_i q; cases q
  · rename_i q
    cases q
    exact ⟨_, rfl, h⟩
  · rename_i q; cases q
  · exact h.elim
theorem own_dt {c : Ct} {F : Hp} {o : Option HO} {xs : List (List Key × D)} (h : Own c F o (.dt xs)) : ∃ vs, o = some (.dT vs) ∧ vs.map (·.1) = xs.map (·.1) ∧ Reps c F (vs.map (·.2)) (xs.map (·.2)) := by
  unfold Own at h
  split at h
  · rename_i q; cases q
  · rename_i q; cases q
  · rename_i q
    cases q
    exact ⟨_, rfl, h⟩
  · exact h.elim
theorem getL_at {ρ : Fr} {i : Nat} {xs : List D} (h : getL i ρ = .ok xs) : ρ[i]? = some (.ow (.lst xs)) := by
  unfold getL at h
  split at h
  · rename_i h'
    cases h
    exact h'
  · cases h
theorem getK_at {ρ : Fr} {i : Nat} {xs : List (Key × D)} (h : getK i ρ = .ok xs) : ρ[i]? = some (.ow (.dk xs)) := by
  unfold getK at h
  split at h
  · rename_i h'
    cases h
    exact h'
  · cases h
theorem getT_at {ρ : Fr} {i : Nat} {xs : List (List Key × D)} (h : getT i ρ = .ok xs) : ρ[i]? = some (.ow (.dt xs)) := by
  unfold getT at h
  split at h
  · rename_i h'
    cases h
    exact h'
  · cases h
theorem FR.lstAt {c : Ct} {H0 : Bs} {F H : Hp} {σ : L2.St} {ρ : Fr} {i : Nat} {xs : List D} (fr : FR c H0 F H σ ρ) (h : ρ[i]? = some (.ow (.lst xs))) : ∃ p vs, σ[i]? = some (some (V.ref p)) ∧ H p = some (.lst vs) ∧ Reps c F vs xs := by
  obtain ⟨p, h1, h2, h3⟩ := fr.ow i _ h
  obtain ⟨vs, e, r⟩ := own_lst h3
  exact ⟨p, vs, h1, e, r⟩
theorem out_get {c : Ct} {H0 : Bs} {F : Hp} {W : Ends} {α : Type} {get : Fr → R α} {k : α → Fr → O} {ρ : Fr} (hg : ∀ y, get ρ ≠ .err y) (o : OutS c E H0 F W (sLet get k ρ)) : ∃ a, get ρ = .ok a ∧ OutS c E H0 F W (k a ρ) := by
  unfold sLet at o
  cases q : get ρ with
  | ok a => rw [q] at o; exact ⟨a, rfl, o⟩
  | err y => exact absurd q (hg y)
  | stuck => rw [q] at o; exact o.elim
theorem getL_ne {i : Nat} {ρ : Fr} (y : Str) : getL i ρ ≠ .err y := fun h => by unfold getL at h; split at h <;> cases h
theorem getK_ne {i : Nat} {ρ : Fr} (y : Str) : getK i ρ ≠ .err y := fun h => by unfold getK at h; split at h <;> cases h
theorem getT_ne {i : Nat} {ρ : Fr} (y : Str) : getT i ρ ≠ .err y := fun h => by unfold getT at h; split at h <;> cases h
/-- xs.append(e) as a statement -/
def sApp (i : Nat) (f : Fr → R D) : Fr → O := sLet (getL i) fun xs => sLet f fun x ρ => if xs.length < sizeLine then .nx (ρ.set i (.ow (.lst (xs ++ [x])))) else .stuck
theorem s_app (i : Nat) {y : Str} {ap cp np : Pos} (ha : P X T E .f e f) (hN : X.N[i]? = some y := by rfl) (hv : Vis X.env.scope y := by first | exact Or.inl rfl | exact Or.inr (Or.inl rfl) | exact Or.inr (Or.inr rfl)) (hd : (y == ("__debug__" : Str)) = false := by decide)
    (hcd : (y == ("__classdict__" : Str)) = false := by decide) (hs : swapsWith (.Call (.Attribute (.Name y np) "append" ap) [e] [] cp) none pos.line X.env = pure false := by rfl)
    (hbase : attributeBase (.Name y np) "append" X.env (eval (.Name y np) X.env) = eval (.Name y np) X.env := by rfl)
    (hfew : ((backTo cp (starEach [e] X.env)).all (fun x => !x.1) && (backToKw cp (keywordEach [] X.env)).all (fun x => x.1.isSome)
      && decide ([e].length + ([] : List Keyword).length + (if ([] : List Keyword).isEmpty then 0 else 1) < 30)) = true := by rfl)
    (hline : (ap.endLine == cp.line) = true := by rfl) (hs' : starEach [e] X.env = (false, eval e X.env) :: starEach [] X.env := by rfl) : S X T E (.Expr (.Call (.Attribute (.Name y np) "append" ap) [e] [] cp) pos) (sApp i f) := by
  refine PS.mono (ps_expr (pe_bm PySem.F.plainAttrs_list PySem.F.slot_list_append PySem.F.type_list_append mt_append (pv i hN hv hd hcd) (pa_cons ha pa_nil hs') hbase hfew hline hs' rfl) hs) fun W σ H ⟨H0, F, ρ, fr, ou⟩ => ?_
  obtain ⟨xs, hx, o1⟩ := out_get getL_ne ou
  have hρ := getL_at hx
  obtain ⟨p, vs, hp, hH, r⟩ := fr.lstAt hρ
  refine ⟨.ref p, hp, .inl ⟨rfl, vs, .of hH⟩, H0, F, ρ, fr, (out_s o1).imp fun x F' H' e' fr' o2 v rv => ?_⟩
  obtain ⟨p', vs', hp', hH', r'⟩ := fr'.lstAt hρ
  rw [hp] at hp'
  cases hp'
  split at o2
  · rename_i hz
    exact ⟨p, vs', v, rfl, rfl, hH', by rw [r'.length]; exact hz, OutS.nx o2 (fr'.mutO hρ hp (r'.append (.cons rv .nil)))⟩
  · exact o2.elim
/-- xs.extend(e) -/
def sExt (i : Nat) (f : Fr → R D) : Fr → O := sLet (getL i) fun xs => sLet f fun x ρ => match x with
  | .lst ys => if xs.length + ys.length ≤ sizeLine then .nx (ρ.set i (.ow (.lst (xs ++ ys)))) else .stuck
  | _ => .stuck
theorem s_ext (i : Nat) {y : Str} {ap cp np : Pos} (ha : P X T E .f e f) (hN : X.N[i]? = some y := by rfl) (hv : Vis X.env.scope y := by first | exact Or.inl rfl | exact Or.inr (Or.inl rfl) | exact Or.inr (Or.inr rfl)) (hd : (y == ("__debug__" : Str)) = false := by decide)
    (hcd : (y == ("__classdict__" : Str)) = false := by decide) (hs : swapsWith (.Call (.Attribute (.Name y np) "extend" ap) [e] [] cp) none pos.line X.env = pure false := by rfl)
    (hbase : attributeBase (.Name y np) "extend" X.env (eval (.Name y np) X.env) = eval (.Name y np) X.env := by rfl)
    (hfew : ((backTo cp (starEach [e] X.env)).all (fun x => !x.1) && (backToKw cp (keywordEach [] X.env)).all (fun x => x.1.isSome)
      && decide ([e].length + ([] : List Keyword).length + (if ([] : List Keyword).isEmpty then 0 else 1) < 30)) = true := by rfl)
    (hline : (ap.endLine == cp.line) = true := by rfl) (hs' : starEach [e] X.env = (false, eval e X.env) :: starEach [] X.env := by rfl) : S X T E (.Expr (.Call (.Attribute (.Name y np) "extend" ap) [e] [] cp) pos) (sExt i f) := by
  refine PS.mono (ps_expr (pe_bm PySem.F.plainAttrs_list PySem.F.slot_list_extend PySem.F.type_list_extend mt_extend (pv i hN hv hd hcd) (pa_cons ha pa_nil hs') hbase hfew hline hs' rfl) hs) fun W σ H ⟨H0, F, ρ, fr, ou⟩ => ?_
  obtain ⟨xs, hx, o1⟩ := out_get getL_ne ou
  have hρ := getL_at hx
  obtain ⟨p, vs, hp, hH, r⟩ := fr.lstAt hρ
  refine ⟨.ref p, hp, .inl ⟨rfl, vs, .of hH⟩, H0, F, ρ, fr, (out_s o1).imp fun x F' H' e' fr' o2 v rv => ?_⟩
  obtain ⟨p', vs', hp', hH', r'⟩ := fr'.lstAt hρ
  rw [hp] at hp'
  cases hp'
  split at o2
  · split at o2
    · rename_i hz
      cases rv with
      | lst h1 r2 => exact ⟨p, _, vs', _, rfl, rfl, hH', fr'.sub _ _ h1, by rw [r'.length, r2.length]; exact hz, OutS.nx o2 (fr'.mutO hρ hp (r'.append r2))⟩
    · exact o2.elim
  · exact o2.elim
/-- x = xs.pop() -/
def sPop (i k : Nat) : Fr → O := sLet (getL i) fun xs ρ => match xs.getLast? with
  | some x => .nx ((ρ.set i (.ow (.lst xs.dropLast))).set k (.fz x))
  | none => .stuck
theorem s_pop (i k : Nat) {y z : Str} {ap cp np pz : Pos} (hik : i ≠ k) (hNd : X.N.Nodup) (hk : X.N[k]? = some z := by rfl) (hx : Loc X.env.scope z := by first | exact Or.inl rfl | exact Or.inr rfl) (hf : X.fn z = true ∨ X.env.scope.names.lookup z = some .local := by first | exact Or.inl rfl | exact Or.inr rfl) (hN : X.N[i]? = some y := by rfl)
    (hv : Vis X.env.scope y := by first | exact Or.inl rfl | exact Or.inr (Or.inl rfl) | exact Or.inr (Or.inr rfl)) (hd : (y == ("__debug__" : Str)) = false := by decide)
    (hcd : (y == ("__classdict__" : Str)) = false := by decide) (hs : swapsWith (.Call (.Attribute (.Name y np) "pop" ap) [] [] cp) (some (.Name z pz)) pos.line X.env = pure false := by rfl)
    (hbase : attributeBase (.Name y np) "pop" X.env (eval (.Name y np) X.env) = eval (.Name y np) X.env := by rfl) (hline : (ap.endLine == cp.line) = true := by rfl) : S X T E (.Assign [.Name z pz] (.Call (.Attribute (.Name y np) "pop" ap) [] [] cp) pos) (sPop i k) := by
  refine PS.mono (ps_set hNd hk hx (pe_bm0 PySem.F.plainAttrs_list PySem.F.slot_list_pop PySem.F.type_list_pop mt_pop (pv i hN hv hd hcd) hbase hline) hs hf) fun W σ H ⟨H0, F, ρ, fr, ou⟩ => ?_
  obtain ⟨xs, hx, o1⟩ := out_get getL_ne ou
  have hρ := getL_at hx
  obtain ⟨p, vs, hp, hH, r⟩ := fr.lstAt hρ
  refine ⟨.ref p, hp, .inl ⟨rfl, vs, .of hH⟩, ?_⟩
  split at o1
  · rename_i x hl
    rw [List.getLast?_eq_getElem?, ← r.length] at hl
    obtain ⟨v, hv1, rv⟩ := r.get hl
    refine ⟨p, vs, v, rfl, rfl, hH, hv1, ?_⟩
    exact OutS.nx o1 ((fr.mutO (o := .lst vs.dropLast) (d' := .lst xs.dropLast) hρ hp r.dropLast).setF rv)
  · exact o1.elim
/-- xs[a] = e -/
def sSetL (i : Nat) (a f : Fr → R D) : Fr → O := sLet f fun x => sLet (getL i) fun xs => sLet a fun n ρ => match n with
  | .int n => match ixN xs.length n with
    | some j => .nx (ρ.set i (.ow (.lst (xs.set j x))))
    | none => .stuck
  | _ => .stuck
/-- d[a] = e -/
def sSetK (i : Nat) (a f : Fr → R D) : Fr → O := sLet f fun x => sLet (getK i) fun es => sLet a fun n ρ => match n.key with
  | some k => if es.length < sizeLine then .nx (ρ.set i (.ow (.dk (putD es k x)))) else .stuck
  | none => .stuck
def sSetT (i : Nat) (a f : Fr → R D) : Fr → O := sLet f fun x => sLet (getT i) fun es => sLet a fun n ρ => match n.tkey with
  | some k => if es.length < sizeLine then .nx (ρ.set i (.ow (.dt (putD es k x)))) else .stuck
  | none => .stuck
theorem s_setL (i : Nat) {y : Str} {np sp : Pos} {fa : Fr → R D} (ha : P X T E .b a fa) (he : P X T E .f e f) (hN : X.N[i]? = some y := by rfl) (hv : Vis X.env.scope y := by first | exact Or.inl rfl | exact Or.inr (Or.inl rfl) | exact Or.inr (Or.inr rfl)) (hd : (y == ("__debug__" : Str)) = false := by decide)
    (hcd : (y == ("__classdict__" : Str)) = false := by decide)
    (hasg : ∀ v, assign (.Subscript (.Name y np) a sp) X.env v = (do
      let ov ← holding [v] (eval (.Name y np) X.env)
      let iv ← holding [v, ov] (eval a X.env)
      standAt sp
      holding [v, ov, iv] (setItem ov iv v)
      release [v, ov, iv] []) := by intro _; rfl)
    (hs : swapsWithSole [.Subscript (.Name y np) a sp] e pos.line X.env = pure false := by rfl) (hw : swappedStores [.Subscript (.Name y np) a sp] e X.env = pure none := by rfl)
    (h1 : (assignEach [.Subscript (.Name y np) a sp] X.env).map (·.2) = [assign (.Subscript (.Name y np) a sp) X.env] := by rfl) : S X T E (.Assign [.Subscript (.Name y np) a sp] e pos) (sSetL i fa f) := by
  refine PS.mono (ps_asg he (pg_sub (pv i hN hv hd hcd) ha set_list hasg) hs hw h1) fun W σ H ⟨H0, F, ρ, fr, ou⟩ => ⟨H0, F, ρ, fr, (out_s ou).imp fun x F1 H1 e1 fr1 o1 v rv => ?_⟩
  obtain ⟨xs, hx, o2⟩ := out_get getL_ne o1
  have hρ := getL_at hx
  obtain ⟨p, vs, hp, hH, r⟩ := fr1.lstAt hρ
  refine ⟨.ref p, hp, H0, F1, ρ, fr1, (out_s o2).imp fun n F2 H2 e2 fr2 o3 w rw => ?_⟩
  obtain ⟨p', vs', hp', hH', r'⟩ := fr2.lstAt hρ
  rw [hp] at hp'
  cases hp'
  split at o3
  · split at o3
    · rename_i j hj
      cases RepB.int fr2 rw
      exact ⟨p, vs', _, j, rfl, rfl, hH', by rw [r'.length]; exact hj, OutS.nx o3 (fr2.mutO hρ hp (r'.set j (rv.ext e2)))⟩
    · exact o3.elim
  · exact o3.elim
theorem s_setK (i : Nat) {y : Str} {np sp : Pos} {fa : Fr → R D} (hr : Room j X.A) (ha : P X T E .b a fa) (he : P X T E .f e f) (hN : X.N[i]? = some y := by rfl) (hv : Vis X.env.scope y := by first | exact Or.inl rfl | exact Or.inr (Or.inl rfl) | exact Or.inr (Or.inr rfl)) (hd : (y == ("__debug__" : Str)) = false := by decide)
    (hcd : (y == ("__classdict__" : Str)) = false := by decide) (hs : swapsWith e (some (.Subscript (.Name y np) a sp)) pos.line X.env = pure false := by rfl) : S X T E (.Assign [.Subscript (.Name y np) a sp] e pos) (sSetK i fa f) := by
  refine PS.mono (ps_dput (Room.u1 hr) (pv i hN hv hd hcd) ha he hs) fun W σ H ⟨H0, F, ρ, fr, ou⟩ => ⟨H0, F, ρ, fr, (out_s ou).imp fun x F1 H1 e1 fr1 o1 v rv => ?_⟩
  obtain ⟨xs, hx, o2⟩ := out_get getK_ne o1
  have hρ := getK_at hx
  obtain ⟨p, hp, hF, ho⟩ := fr1.ow i _ hρ
  refine ⟨.ref p, hp, H0, F1, ρ, fr1, (out_s o2).imp fun n F2 H2 e2 fr2 o3 w rw => ?_⟩
  obtain ⟨p', hp', hF', ho'⟩ := fr2.ow i _ hρ
  rw [hp] at hp'
  cases hp'
  obtain ⟨kvs, eH, hk, r⟩ := own_dk ho'
  split at o3
  · rename_i k hkey
    split at o3
    · rename_i hz
      have ek := rep_key fr2 rw hkey
      exact ⟨p, _, rfl, .inl ⟨kvs, k, eH, ek, by rw [keys_len hk]; exact hz, rfl⟩, OutS.nx o3 (fr2.mutO hρ hp (put_rep hk r (rv.ext e2)))⟩
    · exact o3.elim
  · exact o3.elim
theorem s_setT (i : Nat) {y : Str} {np sp : Pos} {fa : Fr → R D} (hr : Room j X.A) (ha : P X T E .b a fa) (he : P X T E .f e f) (hN : X.N[i]? = some y := by rfl) (hv : Vis X.env.scope y := by first | exact Or.inl rfl | exact Or.inr (Or.inl rfl) | exact Or.inr (Or.inr rfl)) (hd : (y == ("__debug__" : Str)) = false := by decide)
    (hcd : (y == ("__classdict__" : Str)) = false := by decide) (hs : swapsWith e (some (.Subscript (.Name y np) a sp)) pos.line X.env = pure false := by rfl) : S X T E (.Assign [.Subscript (.Name y np) a sp] e pos) (sSetT i fa f) := by
  refine PS.mono (ps_dput (Room.u1 hr) (pv i hN hv hd hcd) ha he hs) fun W σ H ⟨H0, F, ρ, fr, ou⟩ => ⟨H0, F, ρ, fr, (out_s ou).imp fun x F1 H1 e1 fr1 o1 v rv => ?_⟩
  obtain ⟨xs, hx, o2⟩ := out_get getT_ne o1
  have hρ := getT_at hx
  obtain ⟨p, hp, hF, ho⟩ := fr1.ow i _ hρ
  refine ⟨.ref p, hp, H0, F1, ρ, fr1, (out_s o2).imp fun n F2 H2 e2 fr2 o3 w rw => ?_⟩
  obtain ⟨p', hp', hF', ho'⟩ := fr2.ow i _ hρ
  rw [hp] at hp'
  cases hp'
  obtain ⟨kvs, eH, hk, r⟩ := own_dt ho'
  split at o3
  · rename_i k hkey
    split at o3
    · rename_i hz
      obtain ⟨b, ek, eb, _⟩ := rep_tkey fr2 rw hkey
      exact ⟨p, _, rfl, .inr ⟨kvs, k, b, eH, ek, eb, by rw [keys_len hk]; exact hz, rfl⟩, OutS.nx o3 (fr2.mutO hρ hp (put_rep hk r (rv.ext e2)))⟩
    · exact o3.elim
  · exact o3.elim
end
end PB

namespace PB
open PySem PySem.Spec PyProof.Rows L2 LamX
/-! ### what is walked -/
/-- J walks the data ds -/
structure DW (c : Ct) (F : Hp) (J : It) (ds : List D) : Prop where
  len : ds.length ≤ sizeLine
  go : ∀ i H, ExtN F H → i < ds.length → J.go i H
  stop : ∀ i H, ExtN F H → ds.length ≤ i → J.stop i H
  yld : ∀ (i : Nat) (d : D) (H0 : Bs) (F1 H : Hp) (σ : L2.St) (ρ : Fr) (x : V) (H' : Hp), ExtN F F1 → FR c H0 F1 H σ ρ → ds[i]? = some d → J.yld i H x H' → ∃ F2, ExtN F1 F2 ∧ FR c H0 F2 H' σ ρ ∧ Rep c F2 x d
def tI (c : Ct) (E : XK) (f : Fr → R (List D)) : TI := fun σ H R => ∃ H0 F ρ, FR c H0 F H σ ρ ∧ Out c E H0 F σ ρ (f ρ) fun ds F' H' => ∀ J, DW c F' J ds → R J H'
abbrev I (X : Cx) (T : List (Addr × Str)) (E : XK) (tg e : Expr) (f : Fr → R (List D)) : Prop := PI X tg e (tI (ct X T) E f)
theorem PI.mono {X : Cx} {tg e : Expr} {t t' : TI} (h : PI X tg e t) (i : ∀ σ H Q, t' σ H Q → t σ H Q) : PI X tg e t' := ⟨fun pins s σ H Q I q => h.run pins s σ H Q I (i σ H Q q)⟩
theorem extN_of {F1 H : Hp} (sub : ∀ b o, F1 b = some o → H b = some o) : ExtN F1 H := fun b o e _ => sub b o e
theorem dw_list {c : Ct} {F : Hp} {a : Addr} {vs : List V} {ds : List D} (h : SqL c.K F a vs) (r : Reps c F vs ds) (hl : ds.length ≤ sizeLine) (inj : ∀ H, ExtN F H → True) : DW c F (Itl c.K a) ds where
  len := hl
  go := fun i H e hi => by
    obtain ⟨v, hv, _⟩ := r.get (i := i) (d := ds[i]) (by simp [hi])
    exact ⟨vs, v, sqL_ext e h, hv⟩
  stop := fun i H e hi => ⟨vs, sqL_ext e h, by rw [r.length]; exact hi⟩
  yld := fun i d H0 F1 H σ ρ x H' e fr hd y => by
    obtain ⟨rfl, q⟩ := y
    obtain ⟨v, hv, rv⟩ := r.get hd
    have hx := q vs (sqL_ext (e.trans fr.extH) h)
    rw [hv] at hx
    cases hx
    exact ⟨F1, .refl F1, fr, rv.ext e⟩
theorem dw_tup {c : Ct} {F : Hp} {a : Addr} {vs : List V} {ds : List D} (h : SqT c.K F a vs) (r : Reps c F vs ds) (hl : ds.length ≤ sizeLine) : DW c F (Itt c.K a) ds where
  len := hl
  go := fun i H e hi => by
    obtain ⟨v, hv, _⟩ := r.get (i := i) (d := ds[i]) (by simp [hi])
    exact ⟨vs, v, sqT_ext e h, hv⟩
  stop := fun i H e hi => ⟨vs, sqT_ext e h, by rw [r.length]; exact hi⟩
  yld := fun i d H0 F1 H σ ρ x H' e fr hd y => by
    obtain ⟨rfl, q⟩ := y
    obtain ⟨v, hv, rv⟩ := r.get hd
    have hx := q vs (sqT_ext (e.trans fr.extH) h)
    rw [hv] at hx
    cases hx
    exact ⟨F1, .refl F1, fr, rv.ext e⟩
def intsD (lo : Int) (n : Nat) : List D := (List.range n).map fun (i : Nat) => D.int (lo + i)
def intsC (lo c : Int) (n : Nat) : List D := (List.range n).map fun (i : Nat) => D.int (lo + i * c)
theorem dw_range {c : Ct} {F : Hp} {lo : Int} {n : Nat} (hn : n ≤ sizeLine) : DW c F (Itr lo n) (intsD lo n) where
  len := by unfold intsD; rw [List.length_map, List.length_range]; exact hn
  go := fun i H e hi => by unfold intsD at hi; rw [List.length_map, List.length_range] at hi; exact hi
  stop := fun i H e hi => by unfold intsD at hi; rw [List.length_map, List.length_range] at hi; exact hi
  yld := fun i d H0 F1 H σ ρ x H' e fr hd y => by
    obtain ⟨rfl, rfl⟩ := y
    unfold intsD at hd
    rw [List.getElem?_map] at hd
    by_cases hi : i < n
    · rw [List.getElem?_range hi] at hd
      cases hd
      exact ⟨F1, .refl F1, fr, .int _⟩
    · rw [List.getElem?_eq_none (by simpa using hi)] at hd
      cases hd
theorem dw_rangeC {c : Ct} {F : Hp} {lo st : Int} {n : Nat} (hn : n ≤ sizeLine) : DW c F (Itc lo st n) (intsC lo st n) where
  len := by unfold intsC; rw [List.length_map, List.length_range]; exact hn
  go := fun i H e hi => by unfold intsC at hi; rw [List.length_map, List.length_range] at hi; exact hi
  stop := fun i H e hi => by unfold intsC at hi; rw [List.length_map, List.length_range] at hi; exact hi
  yld := fun i d H0 F1 H σ ρ x H' e fr hd y => by
    obtain ⟨rfl, rfl⟩ := y
    unfold intsC at hd
    rw [List.getElem?_map] at hd
    by_cases hi : i < n
    · rw [List.getElem?_range hi] at hd
      cases hd
      exact ⟨F1, .refl F1, fr, .int _⟩
    · rw [List.getElem?_eq_none (by simpa using hi)] at hd
      cases hd
theorem dw_str {c : Ct} {F : Hp} {x : Str} (hn : x.cps.size ≤ sizeLine) : DW c F (Its x) (x.cps.toList.map fun n => D.str ⟨#[n]⟩) where
  len := by rw [List.length_map, Array.length_toList]; exact hn
  go := fun i H e hi => by rw [List.length_map, Array.length_toList] at hi; exact hi
  stop := fun i H e hi => by rw [List.length_map, Array.length_toList] at hi; exact hi
  yld := fun i d H0 F1 H σ ρ x' H' e fr hd y => by
    obtain ⟨rfl, n, hn, rfl⟩ := y
    rw [List.getElem?_map, Array.getElem?_toList, hn] at hd
    cases hd
    exact ⟨F1, .refl F1, fr, .str _⟩
section
variable {X : Cx} {T : List (Addr × Str)} {E : XK} {tg e a b d : Expr} {es : List Expr} {f g h : Fr → R D} {fs : Fr → R (List D)} {k : Kd} {p pos pos' : Pos} {i j : Nat} {x : Str}
def itemsD : D → R (List D)
  | .lst ds => .ok ds
  | .tup ds => .ok ds
  | .scr ns => .ok (ns.map D.int)
  | .str x => if x.cps.size ≤ sizeLine then .ok (x.cps.toList.map fun n => D.str ⟨#[n]⟩) else .stuck
  | _ => .stuck
def eIt (f : Fr → R D) : Fr → R (List D) := fun ρ => (f ρ).bind itemsD
theorem itemsD_ne (d : D) (y : Str) : itemsD d ≠ .err y := fun h => by
  unfold itemsD at h
  split at h <;> first | (cases h; done) | (split at h <;> cases h)
/-- a list, a tuple, a text, the script, walked -/
theorem i_seq (ha : P X T E .f e f) : I X T E tg e (eIt f) := by
  refine ⟨fun pins s σ H R Iv hh => ?_⟩
  obtain ⟨H0, F, ρ, fr, ou⟩ := hh
  refine thn (ha.run pins s σ H (fun v H' => ∃ F' d ds, FR (ct X T) H0 F' H' σ ρ ∧ Rep (ct X T) F' v d ∧ itemsD d = .ok ds ∧ ∀ J, DW (ct X T) F' J ds → R J H') Iv ⟨H0, F, ρ, fr, ?_⟩) fun v s1 ⟨x, H1, I1, r1, q1⟩ => ?_
  · refine (Out.split ou).imp fun d F' H' e' fr' o v r => ?_
    cases q : itemsD d with
    | ok ds =>
      rw [q] at o
      exact ⟨F', d, ds, fr', r, q, o.here fr' rfl⟩
    | err y => exact absurd q (itemsD_ne d y)
    | stuck => rw [q] at o; exact o.elim
  · obtain ⟨F', d, ds, fr', r, q, w⟩ := q1
    have fin : ∀ {it : Addr} {o : Obj} {J : It} {tn : Nat → Heap → Prop}, True := fun {_ _ _ _} => trivial
    cases r with
    | @lst a vs ds' h1 r =>
      cases q
      cases r1
      have hq : SqL X.K H1 a vs := .of (fr'.sub _ _ h1)
      obtain ⟨its, rv, p, hz⟩ := I1.list hq
      refine wpAny_pyIter_list p.isList ?_
      refine ⟨s1.heap.objs.size, [s1.heap.objs.size], _, _, H1, rfl, I1.kept (t' := s1.toks) fun b o e => Heap.get?_push_of_some _ e, turn_list a _, ⟨_, Heap.get?_push_size _ rfl, rfl, rfl⟩, fun b hb => ?_, w _ (dw_list (.of h1) r (by rw [← r.length]; exact hz) fun _ _ => trivial)⟩
      have e : b = s1.heap.objs.size := by simpa using hb
      subst e
      exact I1.fpOk (Nat.le_refl _) (I1.hok.fresh (Nat.le_refl _))
    | @scr a ns h1 =>
      cases q
      cases r1
      have hq : SqL X.K H1 a (ns.map V.int) := sqL_ext fr'.extH h1
      obtain ⟨its, rv, p, hz⟩ := I1.list hq
      refine wpAny_pyIter_list p.isList ?_
      refine ⟨s1.heap.objs.size, [s1.heap.objs.size], _, _, H1, rfl, I1.kept (t' := s1.toks) fun b o e => Heap.get?_push_of_some _ e, turn_list a _, ⟨_, Heap.get?_push_size _ rfl, rfl, rfl⟩, fun b hb => ?_, w _ (dw_list h1 (Reps.of_ints ns) (by rw [List.length_map] at hz ⊢; exact hz) fun _ _ => trivial)⟩
      have e : b = s1.heap.objs.size := by simpa using hb
      subst e
      exact I1.fpOk (Nat.le_refl _) (I1.hok.fresh (Nat.le_refl _))
    | @tup a vs ds' h1 r =>
      cases q
      cases r1
      have hq : SqT X.K H1 a vs := .of (fr'.sub _ _ h1)
      obtain ⟨its, rv, p, hz⟩ := I1.tuple hq
      refine wpAny_pyIter_tuple (show s1.heap.IsTuple a its.toArray from p) ?_
      refine ⟨s1.heap.objs.size, [s1.heap.objs.size], _, _, H1, rfl, I1.kept (t' := s1.toks) fun b o e => Heap.get?_push_of_some _ e, turn_tuple a _, ⟨_, Heap.get?_push_size _ rfl, rfl, rfl⟩, fun b hb => ?_, w _ (dw_tup (.of h1) r (by rw [← r.length]; exact hz))⟩
      have e : b = s1.heap.objs.size := by simpa using hb
      subst e
      exact I1.fpOk (Nat.le_refl _) (I1.hok.fresh (Nat.le_refl _))
    | str x =>
      obtain ⟨t, rfl⟩ := r1
      have q : (if x.cps.size ≤ sizeLine then PB.R.ok (x.cps.toList.map fun n => D.str ⟨#[n]⟩) else PB.R.stuck) = PB.R.ok ds := q
      split at q
      · rename_i hz
        cases q
        cases ha : x.cps.all (· < 128)
        · exact wpAny_pyIter_wide ha (pi_one (tk := s1.toks) I1 _ (turn_str _ x t "str_iterator" (.inr rfl)) ⟨_, Heap.get?_push_size _ rfl, rfl, rfl⟩ (w _ (dw_str hz)))
        · exact wpAny_pyIter_ascii ha (pi_one (tk := s1.toks) I1 _ (turn_str _ x t "str_ascii_iterator" (.inl rfl)) ⟨_, Heap.get?_push_size _ rfl, rfl, rfl⟩ (w _ (dw_str hz)))
      · cases q
    | _ => cases q
def rng1D : List D → R (List D)
  | [.int j] => if -(2 ^ 20) ≤ j ∧ j ≤ 2 ^ 20 then .ok (intsD 0 j.toNat) else .stuck
  | _ => .stuck
def rng2D : List D → R (List D)
  | [.int i, .int j] => if -(2 ^ 20) ≤ i ∧ i ≤ 2 ^ 20 ∧ -(2 ^ 20) ≤ j ∧ j ≤ 2 ^ 20 then .ok (intsD i (j - i).toNat) else .stuck
  | _ => .stuck
def rng3D : List D → R (List D)
  | [.int i, .int j, .int k] => if -(2 ^ 20) ≤ i ∧ i ≤ 2 ^ 20 ∧ -(2 ^ 20) ≤ j ∧ j ≤ 2 ^ 20 ∧ k ≠ 0 ∧ k.natAbs < 2 ^ 20 ∧ Builtin.Range.small i j k = true ∧ (Builtin.Range.rangeSize i j k).toNat ≤ sizeLine ∧ 0 ≤ Builtin.Range.rangeSize i j k then .ok (intsC i k (Builtin.Range.rangeSize i j k).toNat) else .stuck
  | _ => .stuck
def eIts (o : List D → R (List D)) (fs : Fr → R (List D)) : Fr → R (List D) := fun ρ => (fs ρ).bind o
theorem szl : (2 ^ 21 : Nat) ≤ sizeLine := by rw [sizeLine_eq]; decide
theorem i_rng1 (hm : X.mg "range" = none) (ha : Pb X T E [a] fs) (hg : Gl X "range" := by rfl) (hs : starEach [a] X.env = [(false, eval a X.env)] := by rfl) : I X T E tg (.Call (.Name "range" p) [a] [] pos) (eIts rng1D fs) :=
  PI.mono (pi_range1 hg hm ha hs) fun σ H R ⟨H0, F, ρ, fr, ou⟩ => ⟨H0, F, ρ, fr, (Out.split ou).imp fun ds F' H' e fr' o vs rv => by
    unfold rng1D at o
    split at o
    · split at o
      · rename_i hj
        obtain ⟨v, rfl, r⟩ := reps1 rv
        cases r.int fr'
        exact ⟨_, rfl, by omega, by omega, o.here fr' rfl _ (dw_range (Nat.le_trans (by omega) szl))⟩
      · exact o.elim
    · exact o.elim⟩
theorem i_rng2 (hm : X.mg "range" = none) (ha : Pb X T E [a, b] fs) (hg : Gl X "range" := by rfl) (hs : starEach [a, b] X.env = [(false, eval a X.env), (false, eval b X.env)] := by rfl) (hs2 : starEach [b] X.env = [(false, eval b X.env)] := by rfl) : I X T E tg (.Call (.Name "range" p) [a, b] [] pos) (eIts rng2D fs) :=
  PI.mono (pi_range2 hg hm ha hs hs2) fun σ H R ⟨H0, F, ρ, fr, ou⟩ => ⟨H0, F, ρ, fr, (Out.split ou).imp fun ds F' H' e fr' o vs rv => by
    unfold rng2D at o
    split at o
    · split at o
      · rename_i hj
        obtain ⟨v, w, rfl, r1, r2⟩ := reps2 rv
        cases r1.int fr'
        cases r2.int fr'
        exact ⟨_, _, rfl, ⟨by omega, by omega, by omega, by omega⟩, o.here fr' rfl _ (dw_range (Nat.le_trans (by omega) szl))⟩
      · exact o.elim
    · exact o.elim⟩
theorem reps3 {c : Ct} {F : Hp} {σ : L2.St} {ρ : Fr} {vs : List V} {d e f : D} (r : RepsB c F σ ρ vs [d, e, f]) : ∃ v w u, vs = [v, w, u] ∧ RepB c F σ ρ v d ∧ RepB c F σ ρ w e ∧ RepB c F σ ρ u f := by
  cases r with
  | cons h t =>
    obtain ⟨w, u, rfl, h2, h3⟩ := reps2 t
    exact ⟨_, _, _, rfl, h, h2, h3⟩
theorem i_rng3 (hm : X.mg "range" = none) (ha : Pb X T E [a, b, d] fs) (hg : Gl X "range" := by rfl) (hs : starEach [a, b, d] X.env = (false, eval a X.env) :: starEach [b, d] X.env := by rfl) (hpl : (backTo pos (starEach [b, d] X.env)).any (·.1) = false := by rfl) : I X T E tg (.Call (.Name "range" p) [a, b, d] [] pos) (eIts rng3D fs) :=
  PI.mono (pi_range3 hg hm ha hs hpl) fun σ H R ⟨H0, F, ρ, fr, ou⟩ => ⟨H0, F, ρ, fr, (Out.split ou).imp fun ds F' H' e fr' o vs rv => by
    unfold rng3D at o
    split at o
    · split at o
      · rename_i hj
        obtain ⟨v, w, u, rfl, r1, r2, r3⟩ := reps3 rv
        cases r1.int fr'
        cases r2.int fr'
        cases r3.int fr'
        exact ⟨_, _, _, _, rfl, ⟨hj.2.2.2.2.1, by omega, hj.2.2.2.2.2.2.1, by omega⟩, o.here fr' rfl _ (dw_rangeC hj.2.2.2.2.2.2.2.1)⟩
      · exact o.elim
    · exact o.elim⟩
end

/-! ### for, while -/
/-- behind a turn -/
def loopO (k : Fr → O) : O → O
  | .nx ρ => k ρ
  | .cn ρ => k ρ
  | .bk ρ => .nx ρ
  | .rt d => .rt d
  | .er x => .er x
  | .stuck => .stuck
def forD (g : D → Fr → R Fr) (b : Fr → O) : List D → Fr → O
  | [], ρ => .nx ρ
  | d :: ds, ρ => match g d ρ with
    | .ok ρ1 => loopO (forD g b ds) (b ρ1)
    | _ => .stuck
def sFor (f : Fr → R (List D)) (g : D → Fr → R Fr) (b : Fr → O) : Fr → O := sLet f fun ds => forD g b ds
def whileN (t : Fr → R Bool) (b : Fr → O) : Nat → Fr → O
  | 0, _ => .stuck
  | n + 1, ρ => match t ρ with
    | .ok c => if c = true then loopO (whileN t b n) (b ρ) else .nx ρ
    | .err x => .er x
    | .stuck => .stuck
open Classical in
noncomputable def whileD (t : Fr → R Bool) (b : Fr → O) (ρ : Fr) : O := if h : ∃ n, whileN t b n ρ ≠ .stuck then whileN t b h.choose ρ else .stuck
theorem whileN_up {t : Fr → R Bool} {b : Fr → O} : ∀ (n k : Nat) (ρ : Fr), whileN t b n ρ ≠ .stuck → whileN t b (n + k) ρ = whileN t b n ρ
  | 0, _, _, h => absurd rfl h
  | n + 1, k, ρ, h => by
    rw [Nat.succ_add]
    unfold whileN at h ⊢
    cases q0 : t ρ with
    | ok c =>
      rw [q0] at h
      cases c with
      | false => rfl
      | true =>
        have h : loopO (whileN t b n) (b ρ) ≠ .stuck := h
        show loopO (whileN t b (n + k)) (b ρ) = loopO (whileN t b n) (b ρ)
        cases q : b ρ with
        | nx ρ2 => rw [q] at h; exact whileN_up n k ρ2 h
        | cn ρ2 => rw [q] at h; exact whileN_up n k ρ2 h
        | _ => rfl
    | err x => rfl
    | stuck => rfl
theorem whileD_eq {t : Fr → R Bool} {b : Fr → O} {ρ : Fr} {o : O} (n : Nat) (h : whileN t b n ρ = o) (ho : o ≠ .stuck) : whileD t b ρ = o := by
  have he : ∃ n, whileN t b n ρ ≠ .stuck := ⟨n, by rw [h]; exact ho⟩
  unfold whileD
  rw [dif_pos he]
  rcases Nat.le_total n he.choose with q | q
  · have := whileN_up (t := t) (b := b) n (he.choose - n) ρ (by rw [h]; exact ho)
    rw [Nat.add_sub_cancel' q] at this
    rw [this, h]
  · have := whileN_up (t := t) (b := b) he.choose (n - he.choose) ρ he.choose_spec
    rw [Nat.add_sub_cancel' q] at this
    rw [← this, h]
section
variable {X : Cx} {T : List (Addr × Str)} {E : XK} {tg e a b d : Expr} {body : List Stmt} {f : Fr → R (List D)} {s : Fr → R Bool} {g : D → Fr → R Fr} {h : Fr → O} {is : List Nat} {pos : Pos}
theorem s_for (hp : PassesOwn (model X.prog X.w) X.A X.env X.xe) (hc : X.calm = true) (hi : I X T E tg e f) (hg : G X T tg is g) (hb : Ss X T E body h) (hs : ∀ x, foldedSetIterable e X.env x = pure x := by intro _; rfl) : S X T E (.For tg e body [] pos) (sFor f g h) := by
  refine PS.mono (ps_for hp hc hi hg hb hs) fun W σ H ⟨H0, F, ρ, fr, ou⟩ => ⟨H0, F, ρ, fr, (out_s ou).imp fun ds F1 H1 e1 fr1 o1 J dw => ?_⟩
  refine ⟨fun i m σ' H' => m = ds.length - i ∧ i ≤ ds.length ∧ ∃ F' ρ', ExtN F1 F' ∧ FR (ct X T) H0 F' H' σ' ρ' ∧ OutS (ct X T) E H0 F' W (forD g h (ds.drop i) ρ'), ⟨_, rfl, Nat.zero_le _, F1, ρ, .refl F1, fr1, by rw [List.drop_zero]; exact o1⟩, ?_⟩
  rintro i m σ' H' ⟨rfl, hi, F', ρ', e2, fr2, o2⟩
  by_cases hlt : i < ds.length
  · refine .inr ⟨dw.go i H' (e2.trans fr2.extH) hlt, fun σ2 H2 => i + 1 ≤ ds.length ∧ ∃ F' ρ', ExtN F1 F' ∧ FR (ct X T) H0 F' H2 σ2 ρ' ∧ OutS (ct X T) E H0 F' W (forD g h (ds.drop (i + 1)) ρ'), fun σ2 H2 ⟨q1, q2⟩ => ⟨ds.length - (i + 1), by omega, rfl, q1, q2⟩, fun x H2 y => ?_⟩
    have hd : ds[i]? = some ds[i] := by simp [hlt]
    obtain ⟨F2, e3, fr3, rx⟩ := dw.yld i _ H0 F' H' σ' ρ' x H2 e2 fr2 hd y
    rw [List.drop_eq_getElem_cons hlt] at o2
    unfold forD at o2
    cases q : g ds[i] ρ' with
    | ok ρ1 =>
      rw [q] at o2
      refine ⟨H0, F2, ρ', _, ρ1, fr3, rx, q, fun σ3 _ fr4 => ⟨H0, F2, ρ1, fr4, ?_⟩⟩
      have o3 : OutS (ct X T) E H0 F2 W (loopO (forD g h (ds.drop (i + 1))) (h ρ1)) := OutS.ext e3 o2
      revert o3
      cases h ρ1 with
      | nx ρ2 => exact fun o3 σ4 F4 H4 e4 fr5 => ⟨hlt, F4, ρ2, (e2.trans e3).trans e4, fr5, OutS.ext e4 o3⟩
      | cn ρ2 => exact fun o3 σ4 F4 H4 e4 fr5 => ⟨hlt, F4, ρ2, (e2.trans e3).trans e4, fr5, OutS.ext e4 o3⟩
      | bk ρ2 => exact fun o3 => o3
      | rt d => exact fun o3 => o3
      | er x => exact fun o3 => o3
      | stuck => exact fun o3 => o3
    | err y => rw [q] at o2; exact o2.elim
    | stuck => rw [q] at o2; exact o2.elim
  · have e : i = ds.length := by omega
    subst e
    rw [List.drop_length] at o2
    exact .inl ⟨dw.stop _ H' (e2.trans fr2.extH) (Nat.le_refl _), OutS.nx o2 fr2⟩
noncomputable def sWhile (t : Fr → R Bool) (b : Fr → O) : Fr → O := whileD t b
theorem s_while (hp : PassesOwn (model X.prog X.w) X.A X.env X.xe) (hc : Pt X T E e s) (hb : Ss X T E body h) : S X T E (.While e body [] pos) (sWhile s h) := by
  refine PS.mono (ps_while hp hc hb) fun W σ H ⟨H0, F, ρ, fr, ou⟩ => ?_
  unfold sWhile whileD at ou
  split at ou
  · rename_i hn
    generalize hn.choose = n0 at ou
    refine ⟨fun m σ' H' => ∃ F' ρ', FR (ct X T) H0 F' H' σ' ρ' ∧ OutS (ct X T) E H0 F' W (whileN s h m ρ'), ⟨n0, F, ρ, fr, ou⟩, ?_⟩
    rintro m σ' H' ⟨F', ρ', fr', o'⟩
    cases m with
    | zero => exact o'.elim
    | succ n =>
      unfold whileN at o'
      refine ⟨H0, F', ρ', fr', ?_⟩
      have o2 : OutS (ct X T) E H0 F' W (sLet s (fun c _ => if c = true then loopO (whileN s h n) (h ρ') else .nx ρ') ρ') := by
        unfold sLet
        revert o'
        cases s ρ' <;> exact id
      refine (out_s o2).imp fun c F2 H2 e2 fr2 o3 => ?_
      cases c with
      | true =>
        refine ⟨fun σ3 H3 => ∃ F' ρ', FR (ct X T) H0 F' H3 σ3 ρ' ∧ OutS (ct X T) E H0 F' W (whileN s h n ρ'), fun σ3 H3 q => ⟨n, Nat.lt_succ_self n, q⟩, H0, F2, ρ', fr2, ?_⟩
        have o3 : OutS (ct X T) E H0 F2 W (loopO (whileN s h n) (h ρ')) := o3
        revert o3
        cases h ρ' with
        | nx ρ2 => exact fun o3 σ4 F4 H4 e4 fr5 => ⟨F4, ρ2, fr5, OutS.ext e4 o3⟩
        | cn ρ2 => exact fun o3 σ4 F4 H4 e4 fr5 => ⟨F4, ρ2, fr5, OutS.ext e4 o3⟩
        | bk ρ2 => exact fun o3 => o3
        | rt d => exact fun o3 => o3
        | er x => exact fun o3 => o3
        | stuck => exact fun o3 => o3
      | false => exact OutS.nx (ρ' := ρ') o3 fr2
  · exact ou.elim
end

/-! ### list comprehensions -/
def wipeF (ρ : Fr) : List Nat → Fr
  | [] => ρ
  | v :: vs => (wipeF ρ vs).set v .un
theorem FR.wipe {c : Ct} {H0 : Bs} {F H : Hp} {σ : L2.St} {ρ : Fr} (fr : FR c H0 F H σ ρ) : ∀ vs : List Nat, FR c H0 F H (wipe σ vs) (wipeF ρ vs)
  | [] => fr
  | v :: vs => (FR.wipe fr vs).wipe1 v
/-- the items that are kept, each by f -/
def lcD (g : D → Fr → R Fr) (s : Fr → R Bool) (f : Fr → R D) (ρ : Fr) : List D → R (List D)
  | [] => .ok []
  | d :: ds => match g d ρ with
    | .ok ρ1 => match s ρ1 with
      | .ok b => if b = true then (match f ρ1 with
        | .ok x => (lcD g s f ρ ds).bind fun xs => .ok (x :: xs)
        | _ => .stuck) else lcD g s f ρ ds
      | _ => .stuck
    | _ => .stuck
/-- none of these slots holds the frame's own -/
def noOw (vs : List Nat) (ρ : Fr) : Bool := vs.all fun v => match ρ[v]? with
  | some (.ow _) => false
  | some (.om _) => false
  | _ => true
theorem noOw_at {vs : List Nat} {ρ : Fr} (h : noOw vs ρ = true) : ∀ j, j ∈ vs → (∀ d, ρ[j]? ≠ some (Sl.ow d)) ∧ ∀ r, ρ[j]? ≠ some (Sl.om r) := fun j hj => by
  have := List.all_eq_true.mp h j hj
  refine ⟨fun d e => ?_, fun r e => ?_⟩
  · rw [e] at this
    cases this
  · rw [e] at this
    cases this
def eLc (vs : List Nat) (it : Fr → R (List D)) (g : D → Fr → R Fr) (s : Fr → R Bool) (f : Fr → R D) : Fr → R D := fun ρ => (it ρ).bind fun ds => if noOw vs ρ = true then (lcD g s f (wipeF ρ vs) ds).bind fun xs => .ok (.lst xs) else .stuck
theorem wipe_keep (σ : L2.St) (j : Nat) : ∀ (is : List Nat), j ∉ is → (wipe σ is)[j]? = σ[j]?
  | [], _ => rfl
  | v :: vs, hj => by
    unfold wipe
    rw [List.getElem?_set_ne (fun e => hj (by rw [e]; exact List.mem_cons_self)), wipe_keep σ j vs fun h => hj (List.mem_cons_of_mem _ h)]
theorem wipeF_keep (ρ : Fr) (j : Nat) : ∀ (is : List Nat), j ∉ is → (wipeF ρ is)[j]? = ρ[j]?
  | [], _ => rfl
  | v :: vs, hj => by
    unfold wipeF
    rw [List.getElem?_set_ne (fun e => hj (by rw [e]; exact List.mem_cons_self)), wipeF_keep ρ j vs fun h => hj (List.mem_cons_of_mem _ h)]
theorem keeps_wipe {is : List Nat} {σ σ' : L2.St} (k : Keeps is σ σ') : wipe σ' is = wipe σ is := by
  have hw : ∀ (is : List Nat) (σ : L2.St) (j : Nat), (wipe σ is)[j]? = if j ∈ is then (if j < σ.length then some none else none) else σ[j]? := by
    intro is
    induction is with
    | nil => intro σ j; simp [wipe]
    | cons v vs ih =>
      intro σ j
      unfold wipe
      rw [List.getElem?_set, ih, wipe_length]
      by_cases h : v = j
      · subst h
        simp
      · have h' : ¬ j = v := fun e => h e.symm
        simp [h, h']
  refine List.ext_getElem? fun j => ?_
  rw [hw, hw, k.1]
  split
  · rfl
  · rename_i h
    exact k.2 j h
/-- g changes these slots alone -/
def GK (is : List Nat) (g : D → Fr → R Fr) : Prop := ∀ d ρ ρ', g d ρ = .ok ρ' → ∀ j, j ∉ is → ρ'[j]? = ρ[j]?
def GKs (is : List Nat) (g : List D → Fr → R Fr) : Prop := ∀ d ρ ρ', g d ρ = .ok ρ' → ∀ j, j ∉ is → ρ'[j]? = ρ[j]?
theorem gk_n (i : Nat) : GK [i] (gN i) := fun d ρ ρ' h j hj => by
  cases h
  exact List.getElem?_set_ne fun e => hj (by rw [e]; exact List.mem_singleton.mpr rfl)
theorem gks_nil : GKs [] gNil' := fun d ρ ρ' h j hj => by
  unfold gNil' at h
  split at h
  · cases h; rfl
  · cases h
theorem gks_cons {is js : List Nat} {g : D → Fr → R Fr} {h : List D → Fr → R Fr} (h1 : GK is g) (h2 : GKs js h) : GKs (is ++ js) (gCons' g h) := fun d ρ ρ' e j hj => by
  unfold gCons' at e
  split at e
  · rename_i d r
    cases q : g d ρ with
    | ok ρ1 =>
      rw [q] at e
      exact (h2 r ρ1 ρ' e j fun z => hj (List.mem_append_right _ z)).trans (h1 d ρ ρ1 q j fun z => hj (List.mem_append_left _ z))
    | err y => rw [q] at e; cases e
    | stuck => rw [q] at e; cases e
  · cases e
theorem gk_t {is : List Nat} {n : Nat} {h : List D → Fr → R Fr} (h1 : GKs is h) : GK is (gT n h) := fun d ρ ρ' e j hj => by
  unfold gT at e
  split at e
  · split at e
    · exact h1 _ ρ ρ' e j hj
    · cases e
  · cases e
theorem FR.back {c : Ct} {B B' : Bs} {F H F5 H5 : Hp} {σ σ3 : L2.St} {ρ ρ1 : Fr} {vs : List Nat} (fr0 : FR c B F H σ ρ) (fr : FR c B' F5 H5 σ3 ρ1) (e : ExtN F F5) (ks : ∀ j, j ∉ vs → σ3[j]? = σ[j]?) (kr : ∀ j, j ∉ vs → ρ1[j]? = ρ[j]?)
    (no : ∀ j, j ∈ vs → (∀ d, ρ[j]? ≠ some (Sl.ow d)) ∧ ∀ r, ρ[j]? ≠ some (Sl.om r)) : FR c B' F5 H5 σ ρ := by
  have nv : ∀ (j : Nat) (d : D), ρ[j]? = some (Sl.ow d) → j ∉ vs := fun j d q h => (no j h).1 d q
  refine ⟨fr.ext, fr.tabs, fr.sub, fr.rest, fr0.len, fun i d h => ?_, fun i d h => ?_, fr0.dis, fr.exo, fun p d hp j e' h => ?_, fr.exd, fr.om.keep (.refl F5) (fun j r q => by
    have hj : j ∉ vs := fun h => (no j h).2 r q
    exact ⟨by rw [kr j hj]; exact q, (ks j hj).symm⟩) (fun b hb => ⟨(fr.om.own hb).1, rfl⟩) (fun b hb j e' q => by
    have hj := nv j e' q
    rw [← ks j hj]
    exact (fr.om.sep hb).1 j e' (by rw [kr j hj]; exact q)) fun b hb => (fr.om.sep hb).2⟩
  · obtain ⟨v, h1, h2⟩ := fr0.fz i d h
    exact ⟨v, h1, h2.ext e⟩
  · have hi := nv i d h
    obtain ⟨p, h1, h2⟩ := fr.ow i d (by rw [kr i hi]; exact h)
    rw [ks i hi] at h1
    exact ⟨p, h1, h2⟩
  · have hj := nv j e' h
    have := fr.exs p d hp j e' (by rw [kr j hj]; exact h)
    rw [ks j hj] at this
    exact this
/-- a clause's tests -/
abbrev Pts (X : Cx) (T : List (Addr × Str)) (E : XK) (ifs : List Expr) (f : Fr → R Bool) : Prop := PTs X ifs (tT (ct X T) E f)
def tAll : Fr → R Bool := fun _ => .ok true
theorem PTs.mono {X : Cx} {ifs : List Expr} {t t' : TT} (h : PTs X ifs t) (i : ∀ σ H Q, t' σ H Q → t σ H Q) : PTs X ifs t' := ⟨fun pins s σ H Q I q => h.run pins s σ H Q I (i σ H Q q)⟩
theorem c_nil {X : Cx} {T : List (Addr × Str)} {E : XK} : Pts X T E [] tAll := PTs.mono pts_nil fun σ H Q ⟨H0, F, ρ, fr, ou⟩ => Out.here (m := .ok _) ou fr rfl
theorem c_one {X : Cx} {T : List (Addr × Str)} {E : XK} {e : Expr} {s : Fr → R Bool} (h : Pt X T E e s) : Pts X T E [e] s := pts_one h
section
variable {X : Cx} {T : List (Addr × Str)} {E : XK} {tg elt iter : Expr} {ifs : List Expr} {scope : Scope} {own : List (Str × Nat)} {pos : Pos} {it : Fr → R (List D)} {g : D → Fr → R Fr} {s : Fr → R Bool} {f : Fr → R D}
/-- no wish: nothing is raised -/
abbrev EN : XK := fun _ _ _ => False
theorem lcD_ne {ρ : Fr} (y : Str) : ∀ ds, lcD g s f ρ ds ≠ .err y
  | [] => fun h => by cases h
  | d :: ds => fun h => by
    unfold lcD at h
    split at h
    · split at h
      · split at h
        · split at h
          · cases q2 : lcD g s f ρ ds with
            | ok xs => rw [q2] at h; cases h
            | err z => exact lcD_ne z ds q2
            | stuck => rw [q2] at h; cases h
          · cases h
        · exact lcD_ne y ds h
      · cases h
    · cases h
theorem lc_read {c : Ct} {H0 : Bs} {F H : Hp} {σ : L2.St} {ρ : Fr} {vs : List Nat} {E : XK} {Q : VK} (gk : GK vs g) (fr : FR c H0 F H σ ρ) (ou : Out c E H0 F σ ρ (eLc vs it g s f ρ) fun d F' H' => ∀ v, Tell c H0 σ ρ .n v d F' H' → Q v H') :
    tLc (tI c E it) (tG c vs g) (tT c EN s) (tK c EN .f f) vs σ H Q := by
  refine ⟨H0, F, ρ, fr, ou.split.imp fun ds F1 H1 e1 fr1 o1 J dw L hD => ?_⟩
  split at o1
  · rename_i hno
    have no := noOw_at hno
    cases q : lcD g s f (wipeF ρ vs) ds with
    | err y => exact (lcD_ne y ds q).elim
    | stuck => rw [q] at o1; exact o1.elim
    | ok xs =>
      rw [q] at o1
      have n0 : NewAt c H0 F1 (upd H1 L (.lst [])) σ ρ L (.lst []) := fr1.newAt hD .nil
      have frD := (fr1.newO (o := .lst []) hD trivial).push n0
      refine ⟨fun i m H' => m = ds.length - i ∧ i ≤ ds.length ∧ ∃ F' acc ys, ExtN F1 F' ∧ FR c (H0.push L (.lst acc)) F' H' σ ρ ∧ acc.length ≤ i ∧ lcD g s f (wipeF ρ vs) (ds.drop i) = .ok ys ∧ acc ++ ys = xs,
        ⟨_, rfl, Nat.zero_le _, F1, [], xs, .refl F1, frD, Nat.le_refl _, by rw [List.drop_zero]; exact q, rfl⟩, ?_⟩
      rintro i m H' ⟨rfl, hi, F', acc, ys, e2, fr2, hz, hy, hx⟩
      by_cases hlt : i < ds.length
      · refine .inr ⟨dw.go i H' (e2.trans fr2.extH) hlt, fun H2 => i + 1 ≤ ds.length ∧ ∃ F' acc ys, ExtN F1 F' ∧ FR c (H0.push L (.lst acc)) F' H2 σ ρ ∧ acc.length ≤ i + 1 ∧ lcD g s f (wipeF ρ vs) (ds.drop (i + 1)) = .ok ys ∧ acc ++ ys = xs, fun H2 ⟨q1, q2⟩ => ⟨ds.length - (i + 1), by omega, rfl, q1, q2⟩, fun x H2 y => ?_⟩
        have hd : ds[i]? = some ds[i] := by simp [hlt]
        obtain ⟨F2, e3, fr3, rx⟩ := dw.yld i _ _ F' H' σ ρ x H2 e2 fr2 hd y
        rw [List.drop_eq_getElem_cons hlt] at hy
        unfold lcD at hy
        cases hg : g ds[i] (wipeF ρ vs) with
        | err y => rw [hg] at hy; cases hy
        | stuck => rw [hg] at hy; cases hy
        | ok ρ1 =>
          rw [hg] at hy
          refine ⟨H0.push L (.lst acc), F2, wipeF ρ vs, _, ρ1, fr3.wipe vs, rx, hg, fun σ3 k3 fr4 => ⟨?_, H0.push L (.lst acc), F2, ρ1, fr4, ?_⟩⟩
          · have hw : Keeps vs σ (wipe σ vs) := ⟨wipe_length σ vs, fun j hj => wipe_keep σ j vs hj⟩
            exact (keeps_wipe k3).trans (keeps_wipe hw)
          · have ks : ∀ j, j ∉ vs → σ3[j]? = σ[j]? := fun j hj => (k3.2 j hj).trans (wipe_keep σ j vs hj)
            have kr : ∀ j, j ∉ vs → ρ1[j]? = ρ[j]? := fun j hj => (gk _ _ _ hg j hj).trans (wipeF_keep ρ j vs hj)
            cases hs : s ρ1 with
            | err y => simp only [hs] at hy; cases hy
            | stuck => simp only [hs] at hy; cases hy
            | ok b =>
              simp only [hs] at hy
              intro F4 H4 e4 fr5
              cases b with
              | false =>
                rw [if_neg Bool.false_ne_true]
                have hy : lcD g s f (wipeF ρ vs) (ds.drop (i + 1)) = .ok ys := hy
                exact ⟨hlt, F4, acc, ys, (e2.trans e3).trans e4, fr3.back fr5 e4 ks kr no, Nat.le_succ_of_le hz, hy, hx⟩
              | true =>
                rw [if_pos rfl]
                rw [if_pos rfl] at hy
                refine ⟨_, F4, ρ1, fr5, ?_⟩
                cases hf : f ρ1 with
                | err y => simp only [hf] at hy; cases hy
                | stuck => simp only [hf] at hy; cases hy
                | ok x' =>
                  simp only [hf] at hy
                  cases hr : lcD g s f (wipeF ρ vs) (ds.drop (i + 1)) with
                  | err y => rw [hr] at hy; cases hy
                  | stuck => rw [hr] at hy; cases hy
                  | ok zs =>
                    rw [hr] at hy
                    cases hy
                    intro F6 H6 e6 fr7 v rv
                    obtain ⟨hL, ho⟩ := fr7.exo L (.lst acc) List.mem_cons_self
                    obtain ⟨ws, eL, r⟩ := own_lst ho
                    have fr8 := fr7.mutE (o := .lst (ws ++ [v])) (d' := .lst (acc ++ [x'])) (r.append (.cons rv .nil))
                    refine ⟨ws, eL, ?_, hlt, F6, acc ++ [x'], zs, ((e2.trans e3).trans e4).trans e6, fr3.back fr8 (e4.trans e6) ks kr no, ?_, rfl, ?_⟩
                    · rw [r.length]
                      have := dw.len
                      omega
                    · rw [List.length_append, List.length_cons, List.length_nil]
                      omega
                    · rw [List.append_assoc]
                      exact hx
      · have e : i = ds.length := by omega
        subst e
        rw [List.drop_length] at hy
        cases hy
        rw [List.append_nil] at hx
        subst hx
        obtain ⟨fr3, n3⟩ := fr2.pop
        have o1 : Out c E H0 F1 σ ρ (.ok (.lst acc)) fun d F' H' => ∀ v, Tell c H0 σ ρ .n v d F' H' → Q v H' := o1
        exact .inl ⟨dw.stop _ H' (e2.trans fr2.extH) (Nat.le_refl _), o1 F' H' e2 fr3 _ ⟨L, rfl, n3⟩⟩
  · exact o1.elim
/-- [elt for tg in iter if ..] -/
theorem p_lc (hc : X.calm = true) (hN : X.N.Nodup) (gk : GK (own.map (·.2)) g) (hi : I X T E tg iter it) (ok : BlkOk X.N X.env.scope scope own)
    (hg : ∀ (s : Shared) (H : Hp) (C : Addr) (cl : List (Str × Addr)) (fp : List Addr), G (X.blk s H scope (compEnvC scope cl C X.env) fp) T tg (own.map (·.2)) g)
    (ht : ∀ (s' : Shared) (H : Hp) (C : Addr) (cl : List (Str × Addr)) (fp : List Addr), Pts (X.blk s' H scope (compEnvC scope cl C X.env) fp) T EN ifs s)
    (he : ∀ (s : Shared) (H : Hp) (C : Addr) (cl : List (Str × Addr)) (fp : List Addr), P (X.blk s H scope (compEnvC scope cl C X.env) fp) T EN .f elt f) (hs : ∀ x, foldedSetIterable iter X.env x = pure x := by intro _; rfl) :
    P X T E .n (.ListComp elt [⟨tg, iter, ifs, 0⟩] scope pos) (eLc (own.map (·.2)) it g s f) :=
  PE.mono (pe_lc hc hN hi ok hg ht he hs) fun σ H Q ⟨H0, F, ρ, fr, ou⟩ => lc_read gk fr ou
/-- y = [elt for tg in iter if ..]; the list is the frame's own -/
theorem s_lcO {i : Nat} {y : Str} {py spos : Pos} (hc : X.calm = true) (hN : X.N.Nodup) (gk : GK (own.map (·.2)) g) (hi : I X T E tg iter it) (ok : BlkOk X.N X.env.scope scope own)
    (hg : ∀ (s : Shared) (H : Hp) (C : Addr) (cl : List (Str × Addr)) (fp : List Addr), G (X.blk s H scope (compEnvC scope cl C X.env) fp) T tg (own.map (·.2)) g)
    (ht : ∀ (s' : Shared) (H : Hp) (C : Addr) (cl : List (Str × Addr)) (fp : List Addr), Pts (X.blk s' H scope (compEnvC scope cl C X.env) fp) T EN ifs s)
    (he : ∀ (s : Shared) (H : Hp) (C : Addr) (cl : List (Str × Addr)) (fp : List Addr), P (X.blk s H scope (compEnvC scope cl C X.env) fp) T EN .f elt f) (hsw : swapsWith (.ListComp elt [⟨tg, iter, ifs, 0⟩] scope pos) (some (.Name y py)) spos.line X.env = pure true := by exact sw_true rfl rfl rfl (by decide +kernel)) (hy : X.N[i]? = some y := by rfl) (hyl : X.env.scope.names.lookup y = some .local := by rfl) (hs : ∀ x, foldedSetIterable iter X.env x = pure x := by intro _; rfl) :
    S X T E (.Assign [.Name y py] (.ListComp elt [⟨tg, iter, ifs, 0⟩] scope pos) spos) (sOwn i (eLc (own.map (·.2)) it g s f)) :=
  PS.mono (ps_setLc hc hN hy hyl hsw hi ok hg ht he hs) fun W σ H ⟨H0, F, ρ, fr, ou⟩ => lc_read (E := E) gk fr ((out_s ou).imp fun d F' H' e fr' o v ⟨p, hv, n⟩ => by
    subst hv
    exact OutS.nx o (fr'.setO n))
theorem s_lcF {i : Nat} {y : Str} {py spos : Pos} (hc : X.calm = true) (hN : X.N.Nodup) (gk : GK (own.map (·.2)) g) (hi : I X T E tg iter it) (ok : BlkOk X.N X.env.scope scope own)
    (hg : ∀ (s : Shared) (H : Hp) (C : Addr) (cl : List (Str × Addr)) (fp : List Addr), G (X.blk s H scope (compEnvC scope cl C X.env) fp) T tg (own.map (·.2)) g)
    (ht : ∀ (s' : Shared) (H : Hp) (C : Addr) (cl : List (Str × Addr)) (fp : List Addr), Pts (X.blk s' H scope (compEnvC scope cl C X.env) fp) T EN ifs s)
    (he : ∀ (s : Shared) (H : Hp) (C : Addr) (cl : List (Str × Addr)) (fp : List Addr), P (X.blk s H scope (compEnvC scope cl C X.env) fp) T EN .f elt f) (hsw : swapsWith (.ListComp elt [⟨tg, iter, ifs, 0⟩] scope pos) (some (.Name y py)) spos.line X.env = pure true := by exact sw_true rfl rfl rfl (by decide +kernel)) (hy : X.N[i]? = some y := by rfl) (hyl : X.env.scope.names.lookup y = some .local := by rfl) (hs : ∀ x, foldedSetIterable iter X.env x = pure x := by intro _; rfl) :
    S X T E (.Assign [.Name y py] (.ListComp elt [⟨tg, iter, ifs, 0⟩] scope pos) spos) (sSet i (eLc (own.map (·.2)) it g s f)) :=
  PS.mono (ps_setLc hc hN hy hyl hsw hi ok hg ht he hs) fun W σ H ⟨H0, F, ρ, fr, ou⟩ => lc_read (E := E) gk fr (by
    have o1 : Out (ct X T) E H0 F σ ρ (eLc (own.map (·.2)) it g s f ρ) fun a F' _ => OutS (ct X T) E H0 F' W (O.nx (ρ.set i (.fz a))) := out_s ou
    revert o1
    cases eLc (own.map (·.2)) it g s f ρ with
    | ok d =>
      intro o1 F' H' e fr' v ⟨p, hv, n⟩
      subst hv
      obtain ⟨F2, e2, fr2, r⟩ := fr'.freeze n
      exact OutS.nx (o1 F2 H' (e.trans e2) fr2) (fr2.setF r)
    | err x => exact id
    | stuck => exact id)
end
end PB

namespace PB
open PySem PySem.Spec PyProof.Rows L2 LamX
/-! ### raise -/
/-- an own class of errors without __init__ -/
structure ExK (K : PySem.W.Frag) (mg : Str → Option Value) (x : Str) : Prop where
  ex : ∃ C, mg x = some (.ref C) ∧ PySem.W.excIn K C [.type "ValueError", .type "Exception", .type "BaseException", .type "object"] "ValueError.__new__" = true ∧ PySem.W.keepIn K (.ref C) = true ∧ PySem.W.subIn K (.ref C) (.type "BaseException") = some true ∧ PySem.W.typeIn K (.ref C) = some (.type "type")
section
variable {X : Cx} {T : List (Addr × Str)} {E : XK} {x m : Str} {p p2 pos pos2 : Pos} {j : Nat}
theorem s_raise (K : ExK X.K X.mg x) (hc : X.calm = true) (tk : Takes X (fun cls d _ H => E cls d H)) (hg : Gl X x := by rfl) (hdb : (x == ("__debug__" : Str)) = false := by decide) : S X T E (.Raise (some (.Call (.Name x p) [.Constant (.str m) j p2] [] pos)) none pos2) (fun _ => .er x) := by
  obtain ⟨C, h1, h2, h3, h4, h5⟩ := K.ex
  exact PS.mono (ps_raise hc tk (pmk_own PySem.F.excBase_ValueError h2 h1 h3 (raises_own h4 h5) hg hdb)) fun W σ H ⟨H0, F, ρ, fr, ou⟩ => ou C H h1 (fr.ext.trans fr.extH) (fr.tabs.ext fr.sub)
end
/-! ### a def of the module -/
def startF (n : Nat) (ds : List D) : Fr := ds.map .fz ++ List.replicate (n - ds.length) .un
/-- what a body comes to -/
def endO : O → R D
  | .nx _ => .ok .non
  | .rt d => .ok d
  | .er x => .err x
  | _ => .stuck
def runD (N n : Nat) (g : Fr → O) : List D → R D := fun ds => if ds.length = n then endO (g (startF N ds)) else .stuck
theorem start_get {ds : List D} {n i : Nat} {s : Sl} (h : (startF n ds)[i]? = some s) : (∃ d, s = .fz d ∧ ds[i]? = some d) ∨ s = .un := by
  unfold startF at h
  by_cases hi : i < ds.length
  · rw [List.getElem?_append_left (by simpa using hi), List.getElem?_map] at h
    cases e : ds[i]? with
    | none => rw [e] at h; cases h
    | some d => rw [e] at h; cases h; exact .inl ⟨d, rfl, rfl⟩
  · rw [List.getElem?_append_right (by simpa using hi), List.getElem?_replicate] at h
    split at h
    · cases h; exact .inr rfl
    · cases h
theorem fr_start {c : Ct} {H : Hp} {vs : List V} {ds : List D} (N : List Str) (r : Reps c H vs ds) (t : Tabs c.T H) : FR c ⟨H, []⟩ H H (L2.start N vs) (startF N.length ds) := by
  refine ⟨.refl H, t, fun _ _ h => h, fun b o h1 h2 => (by rw [h1] at h2; cases h2), ?_, fun i d h => ?_, fun i d h => ?_, fun i j p d e h => ?_, fun p d h => (by cases h), fun p d h => (by cases h), List.nodup_nil, fun i r h => (by
    rcases start_get h with ⟨d', e, hd⟩ | e <;> cases e)⟩
  · unfold L2.start startF
    rw [List.length_append, List.length_append, List.length_map, List.length_map, List.length_replicate, List.length_replicate, r.length]
  · rcases start_get h with ⟨d', e, hd⟩ | e
    · cases e
      obtain ⟨v, hv, rv⟩ := r.get hd
      refine ⟨v, ?_, rv⟩
      unfold L2.start
      rw [List.getElem?_append_left (by rw [List.length_map]; exact (List.getElem?_eq_some_iff.mp hv).1), List.getElem?_map, hv]
      rfl
    · cases e
  · rcases start_get h with ⟨d', e, hd⟩ | e <;> cases e
  · rcases start_get h with ⟨d', e, hd⟩ | e <;> cases e
section
variable {P : Program} {w : World} {K : PySem.W.Frag} {mg : Str → Option Value} {base : Heap} {T : List (Addr × Str)}
theorem fn_mk {x : Str} {st : Stmt} {fa : Addr} {fd : FuncData} {N ps : List Str} {k : Nat} {g : Fr → O} (Fu : Fun K x x st fa fd) (Sc : FnScope N ps (defScope st))
    (body : ∀ (cdv : Value) (A : Around) (outer : List Env) (s : Shared) (H : Hp) (E : XK), Room k (A.deeper (envOfC x (defScope st) s.heap.objs.size fa cdv)) → Ss (cxOf (L2.CX P w) P w K mg base N x (defScope st) fa cdv A outer s H E) T E (defBody st) g) :
    FnOk P w K mg base (L2.CX P w) (k + 1) fa fd ps (spD ⟨K, mg, T⟩ ps.length (runD N.length ps.length g)) := by
  refine Fu.okX Sc (fun vs H Q E ⟨ds, h1, h2, _⟩ => by rw [h2.length, h1]) (fun cdv A outer s H vs Q E hr ⟨ds, h1, h2, h3, h4⟩ => ?_)
  refine ⟨_, body cdv A outer s H E hr, ⟨H, []⟩, H, startF N.length ds, fr_start N h2 h3, ?_⟩
  unfold runD at h4
  rw [if_pos h1] at h4
  revert h4
  cases g (startF N.length ds) with
  | nx ρ => exact fun h4 σ F' H' e fr => h4 .non H' (fr.ext.trans fr.extH) (fr.tabs.ext fr.sub) .non
  | rt d => exact fun h4 v H' e t r => h4 v H' e t r
  | er y => exact fun h4 C H' hC e t => h4 C H' hC e t
  | bk ρ => exact fun h4 => h4.elim
  | cn ρ => exact fun h4 => h4.elim
  | stuck => exact fun h4 => h4
theorem kn_mk {x : Str} {st : Stmt} {fa : Addr} {fd : FuncData} {N ps : List Str} {k : Nat} {g : Fr → O} (Fu : Fun K x x st fa fd) (Sc : FnScope N ps (defScope st)) (hm : mg x = some (.ref fa)) (hb : Binds K fd ps [])
    (body : ∀ (cdv : Value) (A : Around) (outer : List Env) (s : Shared) (H : Hp) (E : XK), Room k (A.deeper (envOfC x (defScope st) s.heap.objs.size fa cdv)) → Ss (cxOf (L2.CX P w) P w K mg base N x (defScope st) fa cdv A outer s H E) T E (defBody st) g) :
    Kn P w K mg base T x (k + 1) ps.length (runD N.length ps.length g) :=
  ⟨fa, fd, ps, hm, fn_mk Fu Sc body, Fu.kp, hb⟩
/-- the law's own promise: a script of at most 63 numbers, the answer True -/
def spLaw (K : PySem.W.Frag) : Sp := fun vs H Q _ => ∃ (a : Addr) (ns : List Int), vs = [.ref a] ∧ SqL K H a (ns.map V.int) ∧ ns.length ≤ 63 ∧ ∀ H', Q (.bl true) H'
theorem law_fn {fa : Addr} {fd : FuncData} {ps : List Str} {k : Nat} {m : List D → R D} (h : FnOk P w K mg base (L2.CX P w) k fa fd ps (spD ⟨K, mg, []⟩ 1 m)) (hm : ∀ ns : List Int, ns.length ≤ 63 → m [.scr ns] = .ok (.bl true)) :
    FnOk P w K mg base (L2.CX P w) k fa fd ps (spLaw K) := h.imp fun vs H Q E ⟨a, ns, e, hS, hl, q⟩ => ⟨[.scr ns], rfl, e ▸ .cons (.scr hS) .nil, fun p hp => (by cases hp), (by
      rw [hm ns hl]
      intro v H' _ _ r
      cases r
      exact q H')⟩
end
/-! ### a def as a value, called -/
abbrev Tb := List (Str × Nat × (List D → R D))
def lookT (tb : Tb) (f : D) : R (List D → R D) := match f with
  | .fn x => match tb.lookup x with
    | some (n, m) => .ok fun ds => if ds.length = n then m ds else .stuck
    | none => .stuck
  | _ => .stuck
theorem lookT_ok {tb : Tb} {f : D} {q : List D → R D} (h : lookT tb f = .ok q) : ∃ x n m, f = .fn x ∧ tb.lookup x = some (n, m) ∧ q = fun ds => if ds.length = n then m ds else .stuck := by
  unfold lookT at h
  split at h
  · split at h
    · rename_i hl
      cases h
      exact ⟨_, _, _, rfl, hl, rfl⟩
    · cases h
  · cases h
theorem lookT_ne {tb : Tb} {f : D} (y : Str) : lookT tb f ≠ .err y := fun h => by
  unfold lookT at h
  split at h
  · split at h <;> cases h
  · cases h
/-- all of the table are defs of the module, at level k -/
def KnT (P : Program) (w : World) (K : PySem.W.Frag) (mg : Str → Option Value) (base : Heap) (T : List (Addr × Str)) (k : Nat) (tb : Tb) : Prop := ∀ x n m, tb.lookup x = some (n, m) → Kn P w K mg base T x k n m
section
variable {P : Program} {w : World} {K : PySem.W.Frag} {mg : Str → Option Value} {base : Heap} {T : List (Addr × Str)} {k j n : Nat} {x : Str} {m : List D → R D} {tb : Tb}
theorem knT_nil : KnT P w K mg base T k [] := fun x n m h => by cases h
theorem knT_cons (h : Kn P w K mg base T x j n m) (hj : j ≤ k) (t : KnT P w K mg base T k tb) : KnT P w K mg base T k ((x, n, m) :: tb) := fun y n' m' e => by
  rw [List.lookup_cons] at e
  cases hb : y == x with
  | true =>
    rw [hb] at e
    cases e
    have : y = x := by simpa using hb
    subst this
    exact h.mono hj
  | false =>
    rw [hb] at e
    exact t y n' m' e
end
def eBV (i : Nat) (tb : Tb) (fs : Fr → R (List D)) : Fr → R D := fun ρ => (eV i ρ).bind fun f => (lookT tb f).bind fun m => (fs ρ).bind m
section
variable {X : Cx} {T : List (Addr × Str)} {E : XK} {e : Expr} {es : List Expr} {fs : Fr → R (List D)} {p pos : Pos} {i k : Nat} {x : Str} {tb : Tb}
theorem p_callV (i : Nat) (Kt : KnT X.prog X.w X.K X.mg X.base T k tb) (hr : Room k X.A) (tk : Takes X (fun cls d _ H => E cls d H)) (ha : Ps X T E (e :: es) fs) (hN : X.N[i]? = some x := by rfl)
    (hv : Vis X.env.scope x := by first | exact Or.inl rfl | exact Or.inr (Or.inl rfl) | exact Or.inr (Or.inr rfl)) (hdb : (x == ("__debug__" : Str)) = false := by decide) (hcd : (x == ("__classdict__" : Str)) = false := by decide)
    (he : starEach (e :: es) X.env = (false, eval e X.env) :: starEach es X.env := by rfl) (hpl : (backTo pos (starEach es X.env)).any (·.1) = false := by rfl) :
    P X T E .f (.Call (.Name x p) (e :: es) [] pos) (eBV i tb fs) := by
  refine ⟨fun pins s σ H Q I q => ?_⟩
  obtain ⟨H0, F, ρ, fr, ou⟩ := q
  have hV : P X T E .f (.Name x p) (eV i) := p_v i hN hv hdb hcd
  refine wpAny_Call_Name_kw (thn (hV.run pins s σ H (fun v H1 => ∃ f F1, Rep (ct X T) F1 v f ∧ FR (ct X T) H0 F1 H1 σ ρ ∧ Out (ct X T) E H0 F1 σ ρ ((lookT tb f).bind fun m => (fs ρ).bind m) fun d F' H' => ∀ v, Tell (ct X T) H0 σ ρ .f v d F' H' → Q v H') I ⟨H0, F, ρ, fr, ?_⟩) fun u s1 ⟨v, H1, I1, r1, q1⟩ => ?_)
  · revert ou
    unfold eBV
    cases hq : eV i ρ with
    | ok f => exact fun ou F1 H1 e1 fr1 v rv => ⟨f, F1, rv, fr1, (Out.split (m := .ok f) ou) F1 H1 e1 fr1⟩
    | err y => exact id
    | stuck => exact id
  · obtain ⟨f, F1, rf, fr1, o1⟩ := q1
    cases hq : lookT tb f with
    | err y => exact absurd hq (lookT_ne y)
    | stuck => rw [hq] at o1; exact o1.elim
    | ok q =>
      rw [hq] at o1
      have o1 : Out (ct X T) E H0 F1 σ ρ ((fs ρ).bind q) fun d F' H' => ∀ v, Tell (ct X T) H0 σ ρ .f v d F' H' → Q v H' := o1
      obtain ⟨y, n, m, rfl, hl, rfl⟩ := lookT_ok hq
      obtain ⟨fa, fd, ps, hm, Fn, hk, hb⟩ := (Kt y n m hl).ex
      cases rf with
      | fn h =>
        have hm' : X.mg y = some (.ref _) := h
        rw [hm] at hm'
        cases hm'
        cases r1
        refine PySem.W.callWith_K (h₀ := X.base) I1.ok.mod.kin hk (thn (ha.run pos pins s1 σ H1 (fun vs H2 => ∃ ds F2, Reps (ct X T) F2 vs ds ∧ FR (ct X T) H0 F2 H2 σ ρ ∧ Out (ct X T) E H0 F2 σ ρ (if ds.length = n then m ds else .stuck) fun d F' H' => ∀ v, Tell (ct X T) H0 σ ρ .f v d F' H' → Q v H') I1 ⟨H0, F1, ρ, fr1, ?_⟩) fun us s2 hh => ?_) he hpl
        · exact o1.split.imp fun ds F2 H2 e2 fr2 o2 vs rv => ⟨ds, F2, rv, fr2, o2⟩
        · obtain ⟨vs, H2, I2, r, ds, F2, rv, fr2, o2⟩ := hh
          by_cases hn : ds.length = n
          · rw [if_pos hn] at o2
            exact ⟨I2.kIn, run_in Fn hr hb tk I2 fr2 r rv hn o2⟩
          · rw [if_neg hn] at o2
            exact o2.elim
end
end PB
namespace PB
open PySem PySem.Spec PyProof.Rows L2 LamX
section
variable {X : Cx} {T : List (Addr × Str)} {E : XK} {rest : List Stmt} {g : Fr → O} {pos : Pos}
def sFrz (i : Nat) (g : Fr → O) : Fr → O := fun ρ => g (frz i ρ)
theorem p_gint' {x : Str} {i : Int} (hg : Gl X x) (hm : ∃ t, X.mg x = some (.int i t)) (hd : (x == ("__debug__" : Str)) = false := by decide) : P X T E .f (.Name x pos) (eC (.int i)) := by
  obtain ⟨t, h⟩ := hm
  exact p_gint hg h hd
theorem p_gstr' {x y : Str} (hg : Gl X x) (hm : ∃ t, X.mg x = some (.str y t)) (hd : (x == ("__debug__" : Str)) = false := by decide) : P X T E .f (.Name x pos) (eC (.str y)) := by
  obtain ⟨t, h⟩ := hm
  exact p_gstr hg h hd
theorem p_fn' {x : Str} (hg : Gl X x) (hm : ∃ fa, X.mg x = some (.ref fa)) (hd : (x == ("__debug__" : Str)) = false := by decide) : P X T E .f (.Name x pos) (eC (.fn x)) := by
  obtain ⟨t, h⟩ := hm
  exact p_fn hg h hd
end
section
variable {X : Cx} {T : List (Addr × Str)} {E : XK} {a b d : Expr} {f g h : Fr → R D} {pos : Pos}
theorem t_isB (ha : P X T E .b a f) (hb : P X T E .b b g) : Pt X T E (.Compare a [.Is] [b] pos) (tB (e2 isBD f g)) := t_cmp op_is_bl (fun H0 F H σ ρ E v w x y Q fr rx ry o => by
  unfold isBD at o
  split at o
  · cases rx.bl fr
    cases ry.bl fr
    exact ⟨_, _, rfl, rfl, o.here fr rfl _ (.bl _)⟩
  · exact o.elim) ha hb (nomark _)
theorem t_chain {op op' : CmpOp} {r r' : R2} {o o' : D → D → R D} (ho : OpR X (compareOp op) r) (hs : OpS (ct X T) .f r o) (ho' : OpR X (compareOp op') r') (hs' : OpS (ct X T) .f r' o') (ha : P X T E .b a f) (hb : P X T E .b b g) (hd : P X T E .b d h)
    (hm : lastMarks [op, op'] [b, d] = false := by with_unfolding_all rfl) : Pt X T E (.Compare a [op, op'] [b, d] pos) (tB (e3c o o' f g h)) :=
  PT.mono (pt_chain ho ho' ha hb hd hm) fun σ H Q ⟨H0, F, ρ, fr, ou⟩ => ⟨H0, F, ρ, fr, (out_asB ou).split.imp fun x F1 H1 e1 fr1 o1 v rv => ⟨H0, F1, ρ, fr1, o1.split.imp fun y F2 H2 e2 fr2 o2 w rw =>
    hs H0 F2 H2 σ ρ E v w x y _ fr2 (rv.ext e2) rw (o2.split.imp fun z F3 H3 e3 fr3 o3 u ru => by
      cases z <;> first | exact o3.elim | skip
      rename_i c
      cases ru
      refine ⟨c, rfl, ?_⟩
      cases c with
      | true =>
        rw [if_pos rfl]
        exact ⟨H0, F3, ρ, fr3, Out.imp (Out.split o3) fun u F4 H4 e4 fr4 o4 w2 rw2 => hs' H0 F4 H4 σ ρ E w w2 y u _ fr4 (rw.ext (e3.trans e4)) rw2 o4⟩
      | false =>
        rw [if_neg Bool.false_ne_true]
        exact Out.here (m := .ok _) o3 fr3 rfl _ (.bl _))⟩⟩
end
end PB

namespace PB
open PySem PySem.Spec PyProof.Rows L2 LamX
/-! ### PB9: what mirrors come to -/
theorem runD_eq {N n : Nat} {g : Fr → O} {ds : List D} (h : ds.length = n) : runD N n g ds = endO (g (startF N ds)) := if_pos h
theorem seq_nx {g h : Fr → O} {ρ ρ' : Fr} (e : g ρ = .nx ρ') : sSeq g h ρ = h ρ' := by unfold sSeq; rw [e]
theorem seq_rt {g h : Fr → O} {ρ : Fr} {d : D} (e : g ρ = .rt d) : sSeq g h ρ = .rt d := by unfold sSeq; rw [e]
theorem seq_er {g h : Fr → O} {ρ : Fr} {x : Str} (e : g ρ = .er x) : sSeq g h ρ = .er x := by unfold sSeq; rw [e]
theorem if_t {s : Fr → R Bool} {g h : Fr → O} {ρ : Fr} (e : s ρ = .ok true) : sIf s g h ρ = g ρ := by unfold sIf sLet; rw [e]; rfl
theorem if_f {s : Fr → R Bool} {g h : Fr → O} {ρ : Fr} (e : s ρ = .ok false) : sIf s g h ρ = h ρ := by unfold sIf sLet; rw [e]; rfl
theorem for_eq {f : Fr → R (List D)} {g : D → Fr → R Fr} {b : Fr → O} {ρ : Fr} {ds : List D} (e : f ρ = .ok ds) : sFor f g b ρ = forD g b ds ρ := by unfold sFor sLet; rw [e]
theorem forD_cons {g : D → Fr → R Fr} {b : Fr → O} {d : D} {ds : List D} {ρ ρ1 : Fr} (e : g d ρ = .ok ρ1) : forD g b (d :: ds) ρ = loopO (forD g b ds) (b ρ1) := by
  rw [forD, e]
/-- a loop that keeps I, or ends where a turn ends with o -/
theorem forD_inv {g : D → Fr → R Fr} {b : Fr → O} (I : List D → Fr → Prop) (post : O → Prop) (hend : ∀ ρ, I [] ρ → post (.nx ρ))
    (step : ∀ d ds ρ, I (d :: ds) ρ → ∃ ρ1, g d ρ = .ok ρ1 ∧ ((∃ ρ2, b ρ1 = .nx ρ2 ∧ I ds ρ2) ∨ (∃ ρ2, b ρ1 = .cn ρ2 ∧ I ds ρ2) ∨ (∃ ρ2, b ρ1 = .bk ρ2 ∧ post (.nx ρ2)) ∨ (∃ v, b ρ1 = .rt v ∧ post (.rt v)) ∨ (∃ x, b ρ1 = .er x ∧ post (.er x)))) :
    ∀ ds ρ, I ds ρ → post (forD g b ds ρ)
  | [], ρ, h => hend ρ h
  | d :: ds, ρ, h => by
    obtain ⟨ρ1, e1, h1⟩ := step d ds ρ h
    rw [forD_cons e1]
    rcases h1 with ⟨ρ2, e, i⟩ | ⟨ρ2, e, i⟩ | ⟨ρ2, e, i⟩ | ⟨v, e, i⟩ | ⟨x, e, i⟩ <;> rw [e]
    · exact forD_inv I post hend step ds ρ2 i
    · exact forD_inv I post hend step ds ρ2 i
    · exact i
    · exact i
    · exact i
theorem intsD_zero (lo : Int) : intsD lo 0 = [] := rfl
theorem intsD_succ (lo : Int) (n : Nat) : intsD lo (n + 1) = .int lo :: intsD (lo + 1) n := by
  unfold intsD
  rw [List.range_succ_eq_map, List.map_cons, List.map_map]
  refine congr (congrArg List.cons (by rw [show lo + ((0 : Nat) : Int) = lo by omega])) (List.map_congr_left fun i _ => ?_)
  show D.int (lo + ((i + 1 : Nat) : Int)) = D.int (lo + 1 + (i : Int))
  congr 1
  omega
/-! the draw that all laws have -/
noncomputable def drawM : List D → R D := runD 6 3
  (sSeq (sIf (tB (e2 geD (eVb 0) (e2 powD (eC (.int 10)) (eC (.int 18))))) (sSeq (sSet 3 (eV 0))
    (sSeq (sFor (eIts rng1D (xCons (eVb 1) xNil)) (gN 4) (sSet 3 (e2 fdivD (eVb 3) (eVb 2))))
    (sRet (e2 modD (eVb 3) (eVb 2))))) sNil)
    (sSeq (sSet 5 (e2 modD (e2 mulD (e2 addD (e2 addD (e2 modD (eVb 0) (eC (.int 1000000007))) (e2 mulD (eC (.int 1009)) (eVb 1))) (eC (.int 17))) (eC (.int 69621))) (eC (.int 2147483647))))
    (sSeq (sSet 5 (e2 modD (e2 addD (e2 addD (e2 mulD (eVb 5) (eVb 5)) (e2 mulD (eC (.int 40503)) (eVb 1))) (eC (.int 5))) (eC (.int 2147483629))))
    (sRet (e2 modD (e2 fdivD (e2 modD (e2 mulD (eVb 5) (eC (.int 48271))) (eC (.int 2147483647))) (eC (.int 32))) (eVb 2))))))
def divN (b : Int) : Nat → Int → Int
  | 0, l => l
  | n + 1, l => divN b n (l / b)
def drw (c k b : Int) : Int := if 10 ^ 18 ≤ c then divN b k.toNat c % b else
  ((((c % 1000000007 + 1009 * k + 17) * 69621 % 2147483647) * ((c % 1000000007 + 1009 * k + 17) * 69621 % 2147483647) + 40503 * k + 5) % 2147483629) * 48271 % 2147483647 / 32 % b
theorem drw_lt {c k b : Int} (h : 0 < b) : 0 ≤ drw c k b ∧ drw c k b < b := by
  unfold drw
  split
  · exact ⟨Int.emod_nonneg _ (by omega), Int.emod_lt_of_pos _ h⟩
  · exact ⟨Int.emod_nonneg _ (by omega), Int.emod_lt_of_pos _ h⟩
theorem draw_loop {c k : D} {b : Int} (h0 : 0 < b) (h1 : b < 2 ^ 4000) {y : Sl} : ∀ (ds : List D) (l : Int) (x : Sl), ∃ x', forD (gN 4) (sSet 3 (e2 fdivD (eVb 3) (eVb 2))) ds [.fz c, .fz k, .fz (.int b), .fz (.int l), x, y] = .nx [.fz c, .fz k, .fz (.int b), .fz (.int (divN b ds.length l)), x', y]
  | [], l, x => ⟨x, rfl⟩
  | d :: ds, l, x => by
    obtain ⟨x', h⟩ := draw_loop h0 h1 (c := c) (k := k) (y := y) ds (l / b) (.fz d)
    refine ⟨x', ?_⟩
    rw [forD_cons (ρ1 := [.fz c, .fz k, .fz (.int b), .fz (.int l), .fz d, y]) rfl]
    have e : sSet 3 (e2 fdivD (eVb 3) (eVb 2)) [.fz c, .fz k, .fz (.int b), .fz (.int l), .fz d, y] = .nx [.fz c, .fz k, .fz (.int b), .fz (.int (l / b)), .fz d, y] := by
      simp only [sSet, sLet, e2, eVb, List.getElem?_cons_succ, List.getElem?_cons_zero, R.bind_ok, fdivD, if_pos (show 0 < b ∧ b < 2 ^ 4000 from ⟨h0, h1⟩), List.set_cons_succ, List.set_cons_zero]
    rw [e]
    exact h
theorem draw_eq {c k b : Int} (hk : 0 ≤ k) (hk2 : k ≤ 2 ^ 20) (h0 : 0 < b) (h1 : b < 2 ^ 4000) : drawM [.int c, .int k, .int b] = .ok (.int (drw c k b)) := by
  unfold drawM drw
  refine (runD_eq (by rfl)).trans ?_
  have s0 : startF 6 [D.int c, .int k, .int b] = [.fz (.int c), .fz (.int k), .fz (.int b), .un, .un, .un] := rfl
  rw [s0]
  have t0 : tB (e2 geD (eVb 0) (e2 powD (eC (.int 10)) (eC (.int 18)))) [.fz (.int c), .fz (.int k), .fz (.int b), .un, .un, .un] = .ok (decide (10 ^ 18 ≤ c)) := rfl
  by_cases hc : 10 ^ 18 ≤ c
  · rw [if_pos hc, decide_eq_true hc] at *
    have e1 : sFor (eIts rng1D (xCons (eVb 1) xNil)) (gN 4) (sSet 3 (e2 fdivD (eVb 3) (eVb 2))) [.fz (.int c), .fz (.int k), .fz (.int b), .fz (.int c), .un, .un] = forD (gN 4) (sSet 3 (e2 fdivD (eVb 3) (eVb 2))) (intsD 0 k.toNat) [.fz (.int c), .fz (.int k), .fz (.int b), .fz (.int c), .un, .un] := by
      refine for_eq ?_
      show rng1D [.int k] = _
      rw [rng1D, if_pos ⟨by omega, hk2⟩]
    obtain ⟨x', e2⟩ := draw_loop (c := .int c) (k := .int k) h0 h1 (y := .un) (intsD 0 k.toNat) c .un
    have hl : (intsD 0 k.toNat).length = k.toNat := by unfold intsD; rw [List.length_map, List.length_range]
    rw [hl] at e2
    rw [seq_rt (d := .int (divN b k.toNat c % b))]
    · rfl
    rw [if_t t0, seq_nx (show sSet 3 (eV 0) [.fz (.int c), .fz (.int k), .fz (.int b), .un, .un, .un] = .nx [.fz (.int c), .fz (.int k), .fz (.int b), .fz (.int c), .un, .un] from rfl), seq_nx (e1.trans e2)]
    show sRet (PB.e2 modD (eVb 3) (eVb 2)) _ = _
    simp only [sRet, sLet, PB.e2, eVb, List.getElem?_cons_succ, List.getElem?_cons_zero, R.bind_ok, modD, if_pos h0]
  · rw [if_neg hc, decide_eq_false hc] at *
    rw [seq_nx (if_f (h := sNil) t0)]
    have p1 : (0 : Int) < 1000000007 := by decide
    have p2 : (0 : Int) < 2147483647 := by decide
    have p3 : (0 : Int) < 2147483629 := by decide
    have m1 := Int.emod_nonneg c (show (1000000007 : Int) ≠ 0 by decide)
    have m2 := Int.emod_lt_of_pos c p1
    generalize ha : (c % 1000000007 + 1009 * k + 17) * 69621 % 2147483647 = a
    have a1 : 0 ≤ a := by rw [← ha]; exact Int.emod_nonneg _ (by decide)
    have a2 : a < 2147483647 := by rw [← ha]; exact Int.emod_lt_of_pos _ p2
    have aN : a.natAbs < 2 ^ 64 := by omega
    generalize hb : (a * a + 40503 * k + 5) % 2147483629 = d
    have d1 : 0 ≤ d := by rw [← hb]; exact Int.emod_nonneg _ (by decide)
    have d2 : d < 2147483629 := by rw [← hb]; exact Int.emod_lt_of_pos _ p3
    simp only [sSeq, sNil, sSet, sRet, sLet, e2, eVb, eC, List.getElem?_cons_succ, List.getElem?_cons_zero, R.bind_ok, modD, addD, mulD, fdivD, List.set_cons_succ, List.set_cons_zero, if_pos p1, if_pos p2, if_pos p3, if_pos (show (1009 : Int).natAbs < 2 ^ 64 ∨ k.natAbs < 2 ^ 64 from Or.inl (by decide)),
      if_pos (show (c % 1000000007 + 1009 * k + 17).natAbs < 2 ^ 64 ∨ (69621 : Int).natAbs < 2 ^ 64 from Or.inr (by decide)), if_pos (show (40503 : Int).natAbs < 2 ^ 64 ∨ k.natAbs < 2 ^ 64 from Or.inl (by decide)), ha, if_pos (show a.natAbs < 2 ^ 64 ∨ a.natAbs < 2 ^ 64 from Or.inl aN), hb,
      if_pos (show d.natAbs < 2 ^ 64 ∨ (48271 : Int).natAbs < 2 ^ 64 from Or.inr (by decide)), if_pos (show (0 : Int) < 32 ∧ (32 : Int) < 2 ^ 4000 from ⟨by decide, by decide⟩), if_pos h0, endO]
end PB
namespace PB
/-! a law's range by evaluation -/
def isT : R D → Bool
  | .ok (.bl true) => true
  | _ => false
theorem isT_eq {r : R D} (h : isT r = true) : r = .ok (.bl true) := by
  unfold isT at h
  split at h
  · rfl
  · cases h
def allT (f : Nat → Bool) : Nat → Bool
  | 0 => true
  | n + 1 => f n && allT f n
theorem allT_at {f : Nat → Bool} : ∀ {n : Nat}, allT f n = true → ∀ k, k < n → f k = true
  | n + 1, h, k, hk => by
    rw [allT, Bool.and_eq_true] at h
    by_cases e : k = n
    · rw [e]; exact h.1
    · exact allT_at h.2 k (by omega)
end PB
namespace PB
open PySem PySem.Spec PyProof.Rows L2 LamX
theorem lst_ok {fs : Fr → R (List D)} {ρ : Fr} {xs : List D} (h : fs ρ = .ok xs) (hl : xs.length ≤ sizeLine := by decide) : eLst fs ρ = .ok (.lst xs) := by
  unfold eLst
  rw [h]
  exact if_pos hl
theorem tup_ok {fs : Fr → R (List D)} {ρ : Fr} {xs : List D} (h : fs ρ = .ok xs) (hl : xs.length ≤ sizeLine := by decide) : eTup fs ρ = .ok (.tup xs) := by
  unfold eTup
  rw [h]
  exact if_pos hl
def mkTup (xs : List D) : R D := if xs.length ≤ sizeLine then .ok (.tup xs) else .stuck
def mkLst (xs : List D) : R D := if xs.length ≤ sizeLine then .ok (.lst xs) else .stuck
theorem mkTup_ok {xs : List D} (h : Nat.ble xs.length 64 = true) : mkTup xs = .ok (.tup xs) := if_pos (Nat.le_trans (Nat.le_of_ble_eq_true h) (by decide))
theorem mkLst_ok {xs : List D} (h : Nat.ble xs.length 64 = true) : mkLst xs = .ok (.lst xs) := if_pos (Nat.le_trans (Nat.le_of_ble_eq_true h) (by decide))
theorem mkL0 : mkLst [] = .ok (.lst []) := if_pos (show 0 ≤ sizeLine by decide)
theorem mkT0 : mkTup [] = .ok (.tup []) := if_pos (show 0 ≤ sizeLine by decide)
theorem mkL1 {a : D} : mkLst [a] = .ok (.lst [a]) := if_pos (show 1 ≤ sizeLine by decide)
theorem mkT1 {a : D} : mkTup [a] = .ok (.tup [a]) := if_pos (show 1 ≤ sizeLine by decide)
theorem mkL2 {a b : D} : mkLst [a, b] = .ok (.lst [a, b]) := if_pos (show 2 ≤ sizeLine by decide)
theorem mkT2 {a b : D} : mkTup [a, b] = .ok (.tup [a, b]) := if_pos (show 2 ≤ sizeLine by decide)
theorem mkL3 {a b c : D} : mkLst [a, b, c] = .ok (.lst [a, b, c]) := if_pos (show 3 ≤ sizeLine by decide)
theorem mkT3 {a b c : D} : mkTup [a, b, c] = .ok (.tup [a, b, c]) := if_pos (show 3 ≤ sizeLine by decide)
theorem mkL4 {a b c d : D} : mkLst [a, b, c, d] = .ok (.lst [a, b, c, d]) := if_pos (show 4 ≤ sizeLine by decide)
theorem mkT4 {a b c d : D} : mkTup [a, b, c, d] = .ok (.tup [a, b, c, d]) := if_pos (show 4 ≤ sizeLine by decide)
theorem mkL5 {a b c d e : D} : mkLst [a, b, c, d, e] = .ok (.lst [a, b, c, d, e]) := if_pos (show 5 ≤ sizeLine by decide)
theorem mkT5 {a b c d e : D} : mkTup [a, b, c, d, e] = .ok (.tup [a, b, c, d, e]) := if_pos (show 5 ≤ sizeLine by decide)
theorem mkL6 {a b c d e f : D} : mkLst [a, b, c, d, e, f] = .ok (.lst [a, b, c, d, e, f]) := if_pos (show 6 ≤ sizeLine by decide)
theorem mkT6 {a b c d e f : D} : mkTup [a, b, c, d, e, f] = .ok (.tup [a, b, c, d, e, f]) := if_pos (show 6 ≤ sizeLine by decide)
theorem mkL7 {a b c d e f g : D} : mkLst [a, b, c, d, e, f, g] = .ok (.lst [a, b, c, d, e, f, g]) := if_pos (show 7 ≤ sizeLine by decide)
theorem mkT7 {a b c d e f g : D} : mkTup [a, b, c, d, e, f, g] = .ok (.tup [a, b, c, d, e, f, g]) := if_pos (show 7 ≤ sizeLine by decide)
theorem mkL8 {a b c d e f g h : D} : mkLst [a, b, c, d, e, f, g, h] = .ok (.lst [a, b, c, d, e, f, g, h]) := if_pos (show 8 ≤ sizeLine by decide)
theorem mkT8 {a b c d e f g h : D} : mkTup [a, b, c, d, e, f, g, h] = .ok (.tup [a, b, c, d, e, f, g, h]) := if_pos (show 8 ≤ sizeLine by decide)
theorem add_i {i j : Int} : addD (.int i) (.int j) = .ok (.int (i + j)) := rfl
theorem sub_i {i j : Int} : subD (.int i) (.int j) = .ok (.int (i - j)) := rfl
theorem mul_i {i j : Int} (h : i.natAbs < 2 ^ 64 ∨ j.natAbs < 2 ^ 64) : mulD (.int i) (.int j) = .ok (.int (i * j)) := if_pos h
theorem mod_i {i j : Int} (h : 0 < j) : modD (.int i) (.int j) = .ok (.int (i % j)) := if_pos h
theorem fdiv_i {i j : Int} (h : 0 < j ∧ j < 2 ^ 4000) : fdivD (.int i) (.int j) = .ok (.int (i / j)) := if_pos h
theorem lt_i {i j : Int} : ltD (.int i) (.int j) = .ok (.bl (decide (i < j))) := rfl
theorem le_i {i j : Int} : leD (.int i) (.int j) = .ok (.bl (decide (i ≤ j))) := rfl
theorem gt_i {i j : Int} : gtD (.int i) (.int j) = .ok (.bl (decide (j < i))) := rfl
theorem ge_i {i j : Int} : geD (.int i) (.int j) = .ok (.bl (decide (j ≤ i))) := rfl
theorem eq_i {i j : Int} : eqD (.int i) (.int j) = .ok (.bl (i == j)) := rfl
theorem ne_i {i j : Int} : neD (.int i) (.int j) = .ok (.bl (!(i == j))) := rfl
theorem tru_b {b : Bool} : truD (.bl b) = .ok b := rfl
theorem tru_i {i : Int} : truD (.int i) = .ok (i != 0) := rfl
theorem tru_n : truD .non = .ok false := rfl
theorem as_b {b : Bool} : asB (.bl b) = .ok b := rfl
theorem tru_l {xs : List D} : truD (.lst xs) = .ok (!xs.isEmpty) := rfl
theorem tru_t {xs : List D} : truD (.tup xs) = .ok (!xs.isEmpty) := rfl
/-! what stands at a frame, opened -/
theorem bindO {α β : Type} (a : α) (n : α → R β) : (R.ok a).bind n = n a := by unfold R.bind; rfl
section
variable {ρ : Fr} {d : D} {i : Nat} {f g h : Fr → R D} {fs : Fr → R (List D)} {s t : Fr → R Bool} {a b : Fr → O} {o2 o2' : D → D → R D} {o1 : D → R D} {ob : List D → R D} {ol : List D → R (List D)} {lo hi : Fr → R (Option Int)} {os : D → Option Int → Option Int → R D}
theorem apC : eC d ρ = .ok d := by unfold eC; rfl
theorem apV : eV i ρ = match ρ[i]? with | some (.fz d) => .ok d | _ => .stuck := by unfold eV; rfl
theorem apVb : eVb i ρ = match ρ[i]? with | some (.fz d) => .ok d | some (.ow d) => .ok d | _ => .stuck := by unfold eVb; rfl
theorem ap2 : e2 o2 f g ρ = (f ρ).bind fun x => (g ρ).bind fun y => o2 x y := by unfold e2; rfl
theorem ap1 : e1 o1 f ρ = (f ρ).bind o1 := by unfold e1; rfl
theorem apB : eB ob fs ρ = (fs ρ).bind ob := by unfold eB; rfl
theorem apN : xNil ρ = .ok [] := by unfold xNil; rfl
theorem apX : xCons f fs ρ = (f ρ).bind fun x => (fs ρ).bind fun xs => .ok (x :: xs) := by unfold xCons; rfl
theorem aptB : tB f ρ = (f ρ).bind asB := by unfold PB.tB; rfl
theorem aptV : tV f ρ = (f ρ).bind truD := by unfold PB.tV; rfl
theorem apAnd : tAndR s t ρ = (s ρ).bind fun b => if b = true then t ρ else .ok false := by unfold tAndR; rfl
theorem apOr : tOrR s t ρ = (s ρ).bind fun b => if b = true then .ok true else t ρ := by unfold tOrR; rfl
theorem apNot : tNotR s ρ = (s ρ).bind fun b => .ok (!b) := by unfold tNotR; rfl
theorem apeIf : eIf s f g ρ = (s ρ).bind fun b => if b = true then f ρ else g ρ := by unfold eIf; rfl
theorem apeAnd : eAnd f g ρ = (f ρ).bind fun x => (truD x).bind fun b => if b = true then g ρ else .ok x := by unfold eAnd; rfl
theorem apeOr : eOr f g ρ = (f ρ).bind fun x => (truD x).bind fun b => if b = true then .ok x else g ρ := by unfold eOr; rfl
theorem apeNot : eNot f ρ = (f ρ).bind fun x => (truD x).bind fun b => .ok (.bl (!b)) := by unfold eNot; rfl
theorem apTup : eTup fs ρ = (fs ρ).bind mkTup := by unfold eTup; rfl
theorem apLst : eLst fs ρ = (fs ρ).bind mkLst := by unfold eLst; rfl
theorem apIt : eIt f ρ = (f ρ).bind itemsD := by unfold eIt; rfl
theorem apIts : eIts ol fs ρ = (fs ρ).bind ol := by unfold eIts; rfl
theorem apoN : oNone ρ = .ok none := by unfold oNone; rfl
theorem apoS : oSome f ρ = (f ρ).bind fun x => match x with | .int i => .ok (some i) | _ => .stuck := by unfold oSome; rfl
theorem apSl : eSl os f lo hi ρ = (f ρ).bind fun x => (lo ρ).bind fun l => (hi ρ).bind fun u => os x l u := by unfold eSl; rfl
theorem ap3 : e3c o2 o2' f g h ρ = (f ρ).bind fun x => (g ρ).bind fun y => (o2 x y).bind fun z => match z with
  | .bl true => (h ρ).bind fun w => o2' y w
  | .bl false => .ok (.bl false)
  | _ => .stuck := by unfold e3c; rfl
theorem apsN : sNil ρ = .nx ρ := by unfold sNil; rfl
theorem apSeq : sSeq a b ρ = match a ρ with | .nx ρ' => b ρ' | o => o := by unfold sSeq; rfl
theorem apSet : sSet i f ρ = match f ρ with | .ok d => .nx (ρ.set i (.fz d)) | .err x => .er x | .stuck => .stuck := by unfold sSet sLet; cases f ρ <;> rfl
theorem apOwn : sOwn i f ρ = match f ρ with | .ok d => .nx (ρ.set i (.ow d)) | .err x => .er x | .stuck => .stuck := by unfold sOwn sLet; cases f ρ <;> rfl
theorem apRet : sRet f ρ = match f ρ with | .ok d => .rt d | .err x => .er x | .stuck => .stuck := by unfold sRet sLet; cases f ρ <;> rfl
theorem apEx : sEx f ρ = match f ρ with | .ok d => .nx ρ | .err x => .er x | .stuck => .stuck := by unfold sEx sLet; cases f ρ <;> rfl
theorem apIf : sIf s a b ρ = match s ρ with | .ok c => if c = true then a ρ else b ρ | .err x => .er x | .stuck => .stuck := by unfold sIf sLet; cases s ρ <;> rfl
theorem apFrz : sFrz i a ρ = a (frz i ρ) := by unfold sFrz; rfl
theorem apT : tAll ρ = .ok true := by unfold tAll; rfl
theorem apgN : gN i d ρ = .ok (ρ.set i (.fz d)) := by unfold gN; rfl
end
end PB

namespace PB
open PySem PySem.Spec PyProof.Rows L2 LamX
/-! ### PB10: sum, min, max -/
theorem valsAt {ns : List Int} {its : List Value} (r : Vals (ns.map V.int) its) {i : Nat} {v : Value} (h : its.toArray[i]? = some v) : ∃ t, v = .int (ns.getD i 0) t := by
  induction ns generalizing its i with
  | nil => cases r; simp at h
  | cons n ns ih =>
    cases r with
    | cons h1 h2 =>
      cases i with
      | zero =>
        rename_i u us
        have h : u = v := by simpa using h
        subst h
        exact h1
      | succ i =>
        rename_i u us
        have h : us.toArray[i]? = some v := by simpa using h
        have := ih h2 h
        simpa using this
def seqV (K : PySem.W.Frag) (H : Hp) (a : Addr) (xs : List V) : Prop := SqL K H a xs ∨ SqT K H a xs
def rSum (K : PySem.W.Frag) : List V → Hp → VK → Prop := fun vs H Q => ∃ (a : Addr) (ns : List Int), vs = [V.ref a] ∧ seqV K H a (ns.map V.int) ∧ Q (.int ns.sum) H
theorem preSum_take (ns : List Int) : ∀ k, preSum (fun i => ns.getD i 0) k = (ns.take k).sum
  | 0 => by simp [preSum]
  | k + 1 => by
    rw [preSum, preSum_take ns k, List.take_add_one, List.sum_append]
    congr 1
    rw [List.getD_eq_getElem?_getD]
    cases ns[k]? <;> simp
def minI (n : Int) (ns : List Int) : Int := ns.foldl (fun m x => if x < m then x else m) n
def maxI (n : Int) (ns : List Int) : Int := ns.foldl (fun m x => if x > m then x else m) n
theorem best_min (n : Int) (ns : List Int) : ∀ k, k ≤ ns.length → (n :: ns).getD (argBest (fun i j => decide ((n :: ns).getD i 0 < (n :: ns).getD j 0)) k) 0 = minI n (ns.take k)
  | 0, _ => by simp [argBest, minI]
  | k + 1, hk => by
    have ih := best_min n ns k (by omega)
    have hk' : k < ns.length := by omega
    unfold argBest
    rw [List.take_add_one, List.getElem?_eq_getElem hk', minI, List.foldl_append]
    show _ = (if ns[k] < minI n (ns.take k) then ns[k] else minI n (ns.take k))
    have e : (n :: ns).getD (k + 1) 0 = ns[k] := by simp [hk']
    rw [ih, e]
    by_cases c : ns[k] < minI n (ns.take k)
    · rw [decide_eq_true c, if_pos rfl, if_pos c, e]
    · rw [decide_eq_false c, if_neg Bool.false_ne_true, if_neg c, ih]
theorem best_max (n : Int) (ns : List Int) : ∀ k, k ≤ ns.length → (n :: ns).getD (argBest (fun i j => decide ((n :: ns).getD i 0 > (n :: ns).getD j 0)) k) 0 = maxI n (ns.take k)
  | 0, _ => by simp [argBest, maxI]
  | k + 1, hk => by
    have ih := best_max n ns k (by omega)
    have hk' : k < ns.length := by omega
    unfold argBest
    rw [List.take_add_one, List.getElem?_eq_getElem hk', maxI, List.foldl_append]
    show _ = (if ns[k] > maxI n (ns.take k) then ns[k] else maxI n (ns.take k))
    have e : (n :: ns).getD (k + 1) 0 = ns[k] := by simp [hk']
    rw [ih, e]
    by_cases c : ns[k] > maxI n (ns.take k)
    · rw [decide_eq_true c, if_pos rfl, if_pos c, e]
    · rw [decide_eq_false c, if_neg Bool.false_ne_true, if_neg c, ih]
def rMinI (K : PySem.W.Frag) : List V → Hp → VK → Prop := fun vs H Q => ∃ (a : Addr) (n : Int) (ns : List Int), vs = [V.ref a] ∧ seqV K H a ((n :: ns).map V.int) ∧ Q (.int (minI n ns)) H
def rMaxI (K : PySem.W.Frag) : List V → Hp → VK → Prop := fun vs H Q => ∃ (a : Addr) (n : Int) (ns : List Int), vs = [V.ref a] ∧ seqV K H a ((n :: ns).map V.int) ∧ Q (.int (maxI n ns)) H
theorem isTup_of {h : Heap} {a : Addr} {items : Array Value} (t : IsTup h a items) : h.IsTuple a items := by
  obtain ⟨o, e, c, n, d⟩ := t
  exact ⟨o, e, c, n, d⟩
section
variable {X : Cx}
theorem notIn1 {s : Shared} {b : Addr} {ob : Obj} {x : Obj} (eo : s.heap.get? b = some ob) : b ∉ [s.heap.objs.size] := fun hm => absurd (Heap.lt_size eo) ((List.mem_singleton.mp hm) ▸ Nat.lt_irrefl _)
theorem iter_seq {P : Program} {w : World} {A : Around} {E : Value → Shared → Prop} {Q : Value → Shared → Prop} {K : PySem.W.Frag} {pins : List (Addr × Obj)} {σ : L2.St} {H : Hp} {s : Shared} {a : Addr} {vs : List V} (hh : A.handled = none) (I : Inv X pins σ H s) (hs : seqV X.K H a vs)
    (h : ∀ (its : List Value) (s₂ : Shared) (o : Obj) (fp : List Addr) (St : Nat → Heap → Prop), Vals vs its → s₂ = { s with heap := s.heap.push o } → Walks P w A s.heap.objs.size fp [s.heap.objs.size] its.toArray.size (fun i v => its.toArray[i]? = some v) St → St 0 s₂.heap → (∀ b ∈ fp, b < s₂.heap.objs.size) → Q (.ref s.heap.objs.size) s₂) :
    wpAny (model P w) A (pyIter (.ref a)) Q E s := by
  rcases hs with hs | hs
  · obtain ⟨its, rv, hl, _⟩ := I.list hs
    have hl := hl.isList
    have hlt : a < s.heap.objs.size := by obtain ⟨_, e, _⟩ := hl; exact Heap.lt_size e
    refine wpAny_pyIter_list hl (h its _ _ _ _ rv rfl (Walks.list (A := A) hh _ a (Nat.ne_of_lt hlt) its.toArray) ⟨⟨_, Heap.get?_push_size _ rfl, rfl, rfl⟩, hl.push _⟩ (fun b hb => ?_))
    show b < (s.heap.push _).objs.size
    rw [Heap.size_push]
    rcases List.mem_cons.mp hb with rfl | hb
    · exact Nat.lt_succ_self _
    · rcases List.mem_cons.mp hb with rfl | hb
      · exact Nat.lt_succ_of_lt hlt
      · cases hb
  · obtain ⟨its, rv, hl, _⟩ := I.tuple hs
    have hl := isTup_of hl
    have hlt : a < s.heap.objs.size := by obtain ⟨_, e, _⟩ := hl; exact Heap.lt_size e
    refine wpAny_pyIter_tuple hl (h its _ _ _ _ rv rfl (Walks.tuple (A := A) hh _ a (Nat.ne_of_lt hlt) its.toArray) ⟨⟨_, Heap.get?_push_size _ rfl, rfl, rfl⟩, hl.push _⟩ (fun b hb => ?_))
    show b < (s.heap.push _).objs.size
    rw [Heap.size_push]
    rcases List.mem_cons.mp hb with rfl | hb
    · exact Nat.lt_succ_self _
    · rcases List.mem_cons.mp hb with rfl | hb
      · exact Nat.lt_succ_of_lt hlt
      · cases hb
theorem old1 {s : Shared} {o : Obj} {h' : Heap} (hk : ∀ b ob, b ∉ [s.heap.objs.size] → (s.heap.push o).get? b = some ob → h'.get? b = some ob) : ∀ b ob, s.heap.get? b = some ob → h'.get? b = some ob := fun b ob e =>
  hk b ob (fun hm => absurd (Heap.lt_size e) ((List.mem_singleton.mp hm) ▸ Nat.lt_irrefl _)) (Heap.get?_push_of_some _ e)
theorem cr_sum (hc : X.calm = true) : CallR X (.builtin "sum") (rSum X.K) := by
  intro pins s σ H vs us Q I r h
  obtain ⟨a, ns, rfl, hs, q⟩ := h
  rw [Vals.ref1 r]
  refine call_sum_walkG (iter_seq (A := X.A.in1) (K := X.K) (I.ok.hd hc) I hs fun its s₂ o fp St rv e2 W st hfp => ?_)
  subst e2
  refine ⟨_, _, _, _, _, _, fun i => ns.getD i 0, rfl, W, st, hfp, fun i v hv => valsAt rv hv, fun h' tk t' hk => ?_⟩
  refine ⟨.int ns.sum, H, I.kept (old1 hk), ⟨t', ?_⟩, q⟩
  have hlen : its.toArray.size = ns.length := by have := rv.length; simpa using this.symm
  rw [hlen, preSum_take, List.take_length]
theorem cr_min (hc : X.calm = true) : CallR X (.builtin "min") (rMinI X.K) := by
  intro pins s σ H vs us Q I r h
  obtain ⟨a, n, ns, rfl, hs, q⟩ := h
  rw [Vals.ref1 r]
  refine call_min_walk (iter_seq (A := X.A.in1) (K := X.K) (I.ok.hd hc) I hs fun its s₂ o fp St rv e2 W st hfp => ?_)
  subst e2
  have hlen : its.toArray.size = ns.length + 1 := by have := rv.length; simpa using this.symm
  refine ⟨_, _, _, _, _, _, _, rfl, W, st, hfp, by rw [hlen]; exact Nat.succ_pos _, CmpOf.ints_lt (fun i => (n :: ns).getD i 0) (fun i v hv => valsAt rv hv), fun v h' tk hP hk => ?_⟩
  obtain ⟨t, e⟩ := valsAt rv hP
  refine ⟨.int (minI n ns), H, I.kept (old1 hk), ⟨t, ?_⟩, q⟩
  rw [e, hlen, Nat.add_sub_cancel, best_min n ns ns.length (Nat.le_refl _), List.take_length]
theorem cr_max (hc : X.calm = true) : CallR X (.builtin "max") (rMaxI X.K) := by
  intro pins s σ H vs us Q I r h
  obtain ⟨a, n, ns, rfl, hs, q⟩ := h
  rw [Vals.ref1 r]
  refine call_max_walk (iter_seq (A := X.A.in1) (K := X.K) (I.ok.hd hc) I hs fun its s₂ o fp St rv e2 W st hfp => ?_)
  subst e2
  have hlen : its.toArray.size = ns.length + 1 := by have := rv.length; simpa using this.symm
  refine ⟨_, _, _, _, _, _, _, rfl, W, st, hfp, by rw [hlen]; exact Nat.succ_pos _, CmpOf.ints_gt (fun i => (n :: ns).getD i 0) (fun i v hv => valsAt rv hv), fun v h' tk hP hk => ?_⟩
  obtain ⟨t, e⟩ := valsAt rv hP
  refine ⟨.int (maxI n ns), H, I.kept (old1 hk), ⟨t, ?_⟩, q⟩
  rw [e, hlen, Nat.add_sub_cancel, best_max n ns ns.length (Nat.le_refl _), List.take_length]
end
end PB
namespace PB
open PySem PySem.Spec PyProof.Rows L2 LamX
def seqI : D → Option (List Int)
  | .lst xs => D.ints xs
  | .tup xs => D.ints xs
  | .scr ns => some ns
  | _ => none
theorem repb_ints {c : Ct} {H0 : Bs} {F H : Hp} {σ : L2.St} {ρ : Fr} {v : V} {d : D} {ns : List Int} (fr : FR c H0 F H σ ρ) (r : RepB c F σ ρ v d) (h : seqI d = some ns) : ∃ a, v = .ref a ∧ seqV c.K H a (ns.map V.int) := by
  unfold seqI at h
  split at h
  · obtain ⟨a, vs, rfl, h1, r1⟩ := r.lst fr
    rw [D.ints_map h] at r1
    cases r1.ints
    exact ⟨a, rfl, .inl (.of h1)⟩
  · obtain ⟨a, vs, rfl, h1, _, r1⟩ := r.tup fr
    rw [D.ints_map h] at r1
    cases r1.ints
    exact ⟨a, rfl, .inr (.of h1)⟩
  · cases h
    obtain ⟨a, rfl, h1⟩ := r.scr fr
    exact ⟨a, rfl, .inl h1⟩
  · cases h
def sumD : List D → R D
  | [d] => match seqI d with
    | some ns => .ok (.int ns.sum)
    | none => .stuck
  | _ => .stuck
def minD : List D → R D
  | [d] => match seqI d with
    | some (n :: ns) => .ok (.int (minI n ns))
    | _ => .stuck
  | _ => .stuck
def maxD : List D → R D
  | [d] => match seqI d with
    | some (n :: ns) => .ok (.int (maxI n ns))
    | _ => .stuck
  | _ => .stuck
def min2D : List D → R D
  | [.int i, .int j] => .ok (.int (if j < i then j else i))
  | _ => .stuck
def max2D : List D → R D
  | [.int i, .int j] => .ok (.int (if j > i then j else i))
  | _ => .stuck
section
variable {X : Cx} {T : List (Addr × Str)} {E : XK} {a b : Expr} {fs : Fr → R (List D)} {p pos : Pos} {j : Nat}
theorem s_sum : CallS (ct X T) .f (rSum X.K) sumD := by
  intro H0 F H σ ρ E vs ds Q fr rv o
  unfold sumD at o
  split at o
  · split at o
    · rename_i ns hn
      obtain ⟨v, rfl, r⟩ := reps1 rv
      obtain ⟨a, rfl, h1⟩ := repb_ints fr r hn
      exact ⟨a, ns, rfl, h1, o.here fr rfl _ (.int _)⟩
    · exact o.elim
  · exact o.elim
theorem s_min : CallS (ct X T) .f (rMinI X.K) minD := by
  intro H0 F H σ ρ E vs ds Q fr rv o
  unfold minD at o
  split at o
  · split at o
    · rename_i n ns hn
      obtain ⟨v, rfl, r⟩ := reps1 rv
      obtain ⟨a, rfl, h1⟩ := repb_ints fr r hn
      exact ⟨a, n, ns, rfl, h1, o.here fr rfl _ (.int _)⟩
    · exact o.elim
  · exact o.elim
theorem s_max : CallS (ct X T) .f (rMaxI X.K) maxD := by
  intro H0 F H σ ρ E vs ds Q fr rv o
  unfold maxD at o
  split at o
  · split at o
    · rename_i n ns hn
      obtain ⟨v, rfl, r⟩ := reps1 rv
      obtain ⟨a, rfl, h1⟩ := repb_ints fr r hn
      exact ⟨a, n, ns, rfl, h1, o.here fr rfl _ (.int _)⟩
    · exact o.elim
  · exact o.elim
theorem s_max2 : CallS (ct X T) .f (fun xs H Q => ∃ i j, xs = [.int i, .int j] ∧ Q (.int (if j > i then j else i)) H) max2D := by
  intro H0 F H σ ρ E vs ds Q fr rv o
  unfold max2D at o
  split at o
  · obtain ⟨v, w, rfl, r1, r2⟩ := reps2 rv
    cases r1.int fr
    cases r2.int fr
    exact ⟨_, _, rfl, o.here fr rfl _ (.int _)⟩
  · exact o.elim
theorem s_min2 : CallS (ct X T) .f (fun xs H Q => ∃ i j, xs = [.int i, .int j] ∧ Q (.int (if j < i then j else i)) H) min2D := by
  intro H0 F H σ ρ E vs ds Q fr rv o
  unfold min2D at o
  split at o
  · obtain ⟨v, w, rfl, r1, r2⟩ := reps2 rv
    cases r1.int fr
    cases r2.int fr
    exact ⟨_, _, rfl, o.here fr rfl _ (.int _)⟩
  · exact o.elim
theorem p_sum (hm : X.mg "sum" = none) (hc : X.calm = true) (ha : Pb X T E [a] fs) (hg : Gl X "sum" := by rfl) (he : starEach [a] X.env = (false, eval a X.env) :: starEach [] X.env := by rfl) : P X T E .f (.Call (.Name "sum" p) [a] [] pos) (eB sumD fs) :=
  p_blt (cr_sum hc) s_sum hg hm (by decide +kernel) ha (by decide) (by decide) he rfl
theorem p_min (hm : X.mg "min" = none) (hc : X.calm = true) (ha : Pb X T E [a] fs) (hg : Gl X "min" := by rfl) (he : starEach [a] X.env = (false, eval a X.env) :: starEach [] X.env := by rfl) : P X T E .f (.Call (.Name "min" p) [a] [] pos) (eB minD fs) :=
  p_blt (cr_min hc) s_min hg hm (by decide +kernel) ha (by decide) (by decide) he rfl
theorem p_max (hm : X.mg "max" = none) (hc : X.calm = true) (ha : Pb X T E [a] fs) (hg : Gl X "max" := by rfl) (he : starEach [a] X.env = (false, eval a X.env) :: starEach [] X.env := by rfl) : P X T E .f (.Call (.Name "max" p) [a] [] pos) (eB maxD fs) :=
  p_blt (cr_max hc) s_max hg hm (by decide +kernel) ha (by decide) (by decide) he rfl
theorem p_max2 (hm : X.mg "max" = none) (hc : X.calm = true) (ha : Pb X T E [a, b] fs) (hg : Gl X "max" := by rfl) (he : starEach [a, b] X.env = (false, eval a X.env) :: starEach [b] X.env := by rfl) (hpl : (backTo pos (starEach [b] X.env)).any (·.1) = false := by rfl) : P X T E .f (.Call (.Name "max" p) [a, b] [] pos) (eB max2D fs) :=
  p_blt (call_max2 hc) s_max2 hg hm (by decide +kernel) ha (by decide) (by decide) he hpl
theorem p_min2 (hm : X.mg "min" = none) (hc : X.calm = true) (ha : Pb X T E [a, b] fs) (hg : Gl X "min" := by rfl) (he : starEach [a, b] X.env = (false, eval a X.env) :: starEach [b] X.env := by rfl) (hpl : (backTo pos (starEach [b] X.env)).any (·.1) = false := by rfl) : P X T E .f (.Call (.Name "min" p) [a, b] [] pos) (eB min2D fs) :=
  p_blt (call_min2 hc) s_min2 hg hm (by decide +kernel) ha (by decide) (by decide) he hpl
end
end PB

namespace HT
open PySem PySem.Spec PyProof.Rows L2 PySem.W
section
variable {prog : Program} {w : World} {A : Around} {E : Value → Shared → Prop} {s : Shared}
theorem adjust_rev (n : Nat) : Builtin.Slice.sliceAdjust none none (-1) (n : Int) = ((n : Int) - 1, -1) := by
  unfold Builtin.Slice.sliceAdjust
  rfl
theorem places_rev (n : Nat) : Builtin.Slice.slicePlaces ((n : Int) - 1) (-1) (-1) = n := by
  unfold Builtin.Slice.slicePlaces
  have h1 : ¬ ((-1 : Int) > 0) := by omega
  simp only [h1, if_false]
  split
  · rw [show (- -1 : Int) = 1 by decide, Int.ediv_one]; omega
  · omega
theorem fm_congr {α β : Type} {f g : α → Option β} : ∀ {l : List α}, (∀ x ∈ l, f x = g x) → l.filterMap f = l.filterMap g
  | [], _ => rfl
  | x :: l, h => by
    rw [List.filterMap_cons, List.filterMap_cons, h x List.mem_cons_self, fm_congr fun y hy => h y (List.mem_cons_of_mem _ hy)]
theorem pick_rev (xs : Array Value) : ((List.range xs.size).filterMap fun (m : Nat) => xs[((xs.size : Int) - 1 + (m : Int) * -1).toNat]?).toArray = xs.toList.reverse.toArray := by
  have e : (List.range xs.size).filterMap (fun (m : Nat) => xs[((xs.size : Int) - 1 + (m : Int) * -1).toNat]?) = ((List.range xs.size).map fun k => xs.size - 1 - k).filterMap (xs[·]?) := by
    rw [List.filterMap_map]
    refine fm_congr fun m hm => ?_
    have := List.mem_range.mp hm
    show xs[((xs.size : Int) - 1 + (m : Int) * -1).toNat]? = xs[xs.size - 1 - m]?
    congr 1
    omega
  rw [e, krv_range, List.filterMap_reverse, krv_all]
theorem sliceApplied_rev {sl : Addr} {t : Tok} {n : Nat} {Q : Int × Int × Nat → Shared → Prop} (hs : s.heap.IsSliceOf sl .none .none (.int (-1) t))
    (h : Q ((n : Int) - 1, -1, n) s) : wpAny (model prog w) A (Builtin.Slice.sliceApplied (.ref sl) (pure (n : Int))) Q E s := by
  obtain ⟨os, hos, hcs, hds⟩ := id hs
  unfold Builtin.Slice.sliceApplied Builtin.Slice.sliceFields
  refine wpAny_bind (wpAny_bind (wpAny_field hos hds (x := .none) rfl (wpAny_bind (wpAny_field hos hds (x := .none) rfl (wpAny_bind (wpAny_field hos hds (x := .int (-1) t) rfl (wpAny_pure ?_)))))))
  refine wpAny_bind (slicePart_int ?_)
  show wpAny _ _ (if ((-1 : Int) == 0) = true then _ else _) _ _ s
  rw [if_neg (by decide)]
  refine wpAny_bind (slicePart_none (wpAny_bind (slicePart_none (wpAny_bind (wpAny_pure ?_)))))
  show wpAny _ _ (match Builtin.Slice.sliceAdjust none none (-1) (n : Int) with | (lo, hi) => pure (lo, (-1 : Int), Builtin.Slice.slicePlaces lo hi (-1))) _ _ s
  rw [adjust_rev n]
  show wpAny _ _ (pure ((n : Int) - 1, (-1 : Int), Builtin.Slice.slicePlaces ((n : Int) - 1) (-1) (-1))) _ _ s
  rw [places_rev]
  exact wpAny_pure h
theorem getItem_tuple_rev {t sl : Addr} {k : Tok} {items : Array Value} {Q : Value → Shared → Prop} (ht : IsTup s.heap t items) (hs : s.heap.IsSliceOf sl .none .none (.int (-1) k))
    (h : Q (.ref s.heap.objs.size) { s with heap := s.heap.push { cls := .type "tuple", data := .seq items.toList.reverse.toArray } })
    (hsz : items.size ≤ sizeLine) : wpAny (model prog w) A (getItem (.ref t) (.ref sl)) Q E s := by
  have htake : sizeOk (.seq items.toList.reverse.toArray) := by
    show items.toList.reverse.toArray.size ≤ sizeLine
    rw [List.size_toArray, List.length_reverse, Array.length_toList]
    exact hsz
  obtain ⟨os, hos, hcs, hds⟩ := id hs
  have hTs : s.TypeIs (.ref sl) "slice" := ⟨os, hos, hcs⟩
  unfold getItem
  try with_reducible refine wpAny_holding ?_
  first | refine wpAny_bind (wpAny_pure ?_) | skip
  refine wpAny_bind (wpAny_sequenceKey ht.typeIs (by decide) ?_)
  refine wpAny_bind (wpAny_callSpecial?_slot (name := Str.ofString "__getitem__") ht.typeIs PyProof.Rows.slot_tuple_getitem
    (wpAny_call_entry PyProof.Rows.slot_tuple_getitem ht.typeIs entry_tuple_getitem ?_ (args_tuple_getitem _ _)))
  show wpAny _ _ (Builtin.Tuple.tupleItemsOf (.ref t) >>= _) _ _ s
  refine wpAny_bind (tupleItemsOf_ ht ?_)
  refine wpAny_bind (wpAny_typeOf hTs ?_)
  rw [if_pos (by decide)]
  refine wpAny_bind (sliceApplied_rev hs ?_)
  have hno : ¬ ((((items.size : Int) - 1) == 0 && (-1 : Int) == 1 && items.size == items.size) = true) := by
    intro q
    rw [Bool.and_eq_true, Bool.and_eq_true] at q
    exact absurd q.1.2 (by decide)
  show wpAny _ _ (if (((items.size : Int) - 1) == 0 && (-1 : Int) == 1 && items.size == items.size) = true then _ else _) _ _ s
  rw [if_neg hno, pick_rev]
  first
    | exact wpAny_bind (m := Builtin.Tuple.tupleExact _) (wpAny_newObj_type (wpAny_pure ⟨_, rfl, wpAny_pure h⟩) htake)
    | exact wpAny_bind (m := Builtin.Tuple.tupleExact _) (wpAny_newObj_type (wpAny_bind (wpAny_pure (wpAny_pure ⟨_, rfl, wpAny_pure h⟩))) htake)
    | exact wpAny_bind (wpAny_bind (m := Builtin.Tuple.tupleExact _) (wpAny_newObj_type (wpAny_pure (wpAny_pure ⟨_, rfl, wpAny_pure h⟩)) htake))
    | exact wpAny_bind (wpAny_bind (m := Builtin.Tuple.tupleExact _) (wpAny_newObj_type (wpAny_pure ⟨_, rfl, wpAny_pure h⟩) htake))
end
end HT
namespace PB
open PySem PySem.Spec PyProof.Rows L2 LamX
section
variable {X : Cx}
/-- xs[::-1] of a list or of a tuple: all anew -/
def tRev (K : PySem.W.Frag) (te : TE) : TE := fun σ H Q => te σ H fun x H1 => ∃ a xs, x = .ref a ∧ ((SqL K H1 a xs ∧ ∀ p, H1 p = none → Q (.ref p) (upd H1 p (.lst xs.reverse))) ∨ (SqT K H1 a xs ∧ ∀ p, H1 p = none → Q (.ref p) (upd H1 p (.tup xs.reverse))))
theorem pe_rev {e : Expr} {te : TE} {k : Nat} {p1 p2 p3 pos : Pos} (he : PE X e te) : PE X (.Subscript e (.Slice none none (some (.UnaryOp .USub (.Constant (.int 1) k p1) p2)) p3) pos) (tRev X.K te) := by
  refine ⟨fun pins s σ H Q I h => ?_⟩
  refine Subscript_ (thn (he.run pins s σ H _ I h) fun v s1 ⟨x, H1, I1, r1, q1⟩ => ?_)
  obtain ⟨a, xs, ex, q⟩ := q1
  subst ex
  cases r1
  have hst : PO X (some (.UnaryOp .USub (.Constant (.int 1) k p1) p2)) (tPart (tUn (rU fun i => .int (-i)) (tC (.int 1)))) := po_some (pe_un un_neg pe_int)
  refine wpAny_Slice (thn (po_none.run pins s1 σ H1 (fun o H2 => o = none ∧ H2 = H1) I1 ⟨rfl, rfl⟩) fun vl s2 ⟨l, H2, I2, pl, el, e2⟩ => ?_)
  subst el e2
  refine thn (po_none.run pins s2 σ H2 (fun o H3 => o = none ∧ H3 = H2) I2 ⟨rfl, rfl⟩) fun vu s3 ⟨u, H3, I3, pu, eu, e3⟩ => ?_
  subst eu e3
  refine thn (hst.run pins s3 σ H3 (fun o H4 => o = some (-1) ∧ H4 = H3) I3 ⟨1, rfl, -1, rfl, rfl, rfl⟩) fun vs s4 ⟨o, H4, I4, ps, eo, e4⟩ => ?_
  subst eo e4
  have I5 : Inv X pins σ H4 { s4 with heap := s4.heap.push { cls := .type "slice", data := .fields #[vl, vu, vs] } } := I4.kept (t' := s4.toks) fun b ob q => Heap.get?_push_of_some _ q
  show wpAny (model X.prog X.w) X.A (subscriptTail e (.Slice none none (some (.UnaryOp .USub (.Constant (.int 1) k p1) p2)) p3) (.ref a) (.ref s4.heap.objs.size)) (EP X pins σ Q) X.xe { s4 with heap := s4.heap.push { cls := .type "slice", data := .fields #[vl, vu, vs] } }
  rcases q with ⟨hx, q⟩ | ⟨hx, q⟩
  · obtain ⟨its, r, ht, hz⟩ := I5.list hx
    have hlen := r.length
    refine tail_any (ops := [.ref a, .ref s4.heap.objs.size]) ht.isList.typeIs (PySem.slot_list_getitem.lookup) ?_ (by with_unfolding_all rfl)
    refine wpAny_getItem_list_slice ht.isList (Heap.IsSliceOf.new _ vl vu vs) pl pu ps (by decide) ?_ (by rw [List.size_toArray]; omega)
    rw [PySem.W.krv_pick]
    refine ⟨.ref _, _, I5.laid (t' := s4.toks) (o := .lst xs.reverse) (fun b ob q => Heap.get?_push_of_some _ q) (Nat.le_refl _) ?_, rfl, q _ (I5.hok.fresh (Nat.le_refl _))⟩
    exact ⟨by rw [List.length_reverse]; exact hz, _, 0, r.reverse, Heap.get?_push_size _ rfl⟩
  · obtain ⟨its, r, ht, hz⟩ := I5.tuple hx
    have hlen := r.length
    refine tail_any (ops := [.ref a, .ref s4.heap.objs.size]) ht.typeIs (PyProof.Rows.slot_tuple_getitem.lookup) ?_ (by with_unfolding_all rfl)
    cases pl
    cases pu
    cases ps
    refine HT.getItem_tuple_rev ht (Heap.IsSliceOf.new _ _ _ _) ?_ (by rw [List.size_toArray]; omega)
    refine ⟨.ref _, _, I5.laid (t' := s4.toks) (o := .tup xs.reverse) (fun b ob q => Heap.get?_push_of_some _ q) (Nat.le_refl _) ?_, rfl, q _ (I5.hok.fresh (Nat.le_refl _))⟩
    exact ⟨by rw [List.length_reverse]; exact hz, _, r.reverse, _, Heap.get?_push_size _ rfl, rfl, _, rfl⟩
end
def revD : D → R D
  | .lst xs => .ok (.lst xs.reverse)
  | .tup xs => .ok (.tup xs.reverse)
  | .scr ns => .ok (.lst (ns.reverse.map D.int))
  | _ => .stuck
def revND : D → R D
  | .lst xs => .ok (.lst xs.reverse)
  | .scr ns => .ok (.lst (ns.reverse.map D.int))
  | _ => .stuck
section
variable {X : Cx} {T : List (Addr × Str)} {E : XK} {e : Expr} {f : Fr → R D} {k : Nat} {p1 p2 p3 pos : Pos}
theorem p_rev (ha : P X T E .b e f) : P X T E .f (.Subscript e (.Slice none none (some (.UnaryOp .USub (.Constant (.int 1) k p1) p2)) p3) pos) (e1 revD f) :=
  PE.mono (pe_rev ha) fun σ H Q ⟨H0, F, ρ, fr, ou⟩ => ⟨H0, F, ρ, fr, ou.split.imp fun x F1 H1 e1 fr1 o1 v rv => by
    unfold revD at o1
    split at o1
    · obtain ⟨p, vs, rfl, h1, r⟩ := rv.lst fr1
      exact ⟨p, vs, rfl, .inl ⟨.of h1, fun q hq => new_lst fr1 r.reverse o1 hq⟩⟩
    · obtain ⟨p, vs, rfl, h1, _, r⟩ := rv.tup fr1
      exact ⟨p, vs, rfl, .inr ⟨.of h1, fun q hq => new_tup fr1 r.reverse o1 hq⟩⟩
    · obtain ⟨p, rfl, h1⟩ := rv.scr fr1
      refine ⟨p, _, rfl, .inl ⟨h1, fun q hq => ?_⟩⟩
      rw [← List.map_reverse]
      exact new_lst fr1 (Reps.of_ints _) o1 hq
    · exact o1.elim⟩
theorem p_revN (ha : P X T E .b e f) : P X T E .n (.Subscript e (.Slice none none (some (.UnaryOp .USub (.Constant (.int 1) k p1) p2)) p3) pos) (e1 revND f) :=
  PE.mono (pe_rev ha) fun σ H Q ⟨H0, F, ρ, fr, ou⟩ => ⟨H0, F, ρ, fr, ou.split.imp fun x F1 H1 e1 fr1 o1 v rv => by
    unfold revND at o1
    split at o1
    · obtain ⟨p, vs, rfl, h1, r⟩ := rv.lst fr1
      exact ⟨p, vs, rfl, .inl ⟨.of h1, fun q hq => new_own fr1 r.reverse o1 hq⟩⟩
    · obtain ⟨p, rfl, h1⟩ := rv.scr fr1
      refine ⟨p, _, rfl, .inl ⟨h1, fun q hq => ?_⟩⟩
      rw [← List.map_reverse]
      exact new_own fr1 (Reps.of_ints _) o1 hq
    · exact o1.elim⟩
/-! a, b = x, y -/
def sPar (i j : Nat) (fs : Fr → R (List D)) : Fr → O := sLet fs fun ds ρ => match ds with
  | [x, y] => .nx ((ρ.set i (.fz x)).set j (.fz y))
  | _ => .stuck
theorem s_par {i j : Nat} {x y : Str} {a b : Expr} {fs : Fr → R (List D)} {px py pt : Pos} {kt k2 pt2} (hc : X.calm = true) (hN : X.N.Nodup) (hij : i ≠ j) (ha : Ps X T E [a, b] fs) (hi : X.N[i]? = some x := by rfl) (hj : X.N[j]? = some y := by rfl)
    (hx : X.env.scope.names.lookup x = some .local := by rfl) (hy : X.env.scope.names.lookup y = some .local := by rfl)
    (hw : swappedStores [.Tuple [.Name x px, .Name y py] kt pt] (.Tuple [a, b] k2 pt2) X.env = pure (some [x, y]) := by rfl)
    (hs : swapsWithSole [.Tuple [.Name x px, .Name y py] kt pt] (.Tuple [a, b] k2 pt2) pos.line X.env = pure false := by rfl) :
    S X T E (.Assign [.Tuple [.Name x px, .Name y py] kt pt] (.Tuple [a, b] k2 pt2) pos) (sPar i j fs) :=
  PS.mono (ps_par hc hN hi hj hij hx hy ha hw hs) fun W σ H ⟨H0, F, ρ, fr, ou⟩ => ⟨H0, F, ρ, fr, (out_s ou).imp fun ds F' H' e fr' o vs rv => by
    split at o
    · cases rv with
      | cons r1 rest =>
        cases rest with
        | cons r2 rest =>
          cases rest
          exact ⟨_, _, rfl, OutS.nx o ((fr'.setF r1).setF r2)⟩
    · exact o.elim⟩
end
end PB
namespace PB
open PySem PySem.Spec PyProof.Rows L2 LamX
def isntBD : D → D → R D
  | .bl a, .bl b => .ok (.bl (!decide (a = b)))
  | _, _ => .stuck
section
variable {X : Cx} {T : List (Addr × Str)} {E : XK} {a b : Expr} {f g : Fr → R D} {pos : Pos}
theorem s_isntB : OpS (ct X T) .f rNotB isntBD := fun H0 F H σ ρ E v w x y Q fr rx ry o => by
  unfold isntBD at o
  split at o
  · cases rx.bl fr
    cases ry.bl fr
    exact ⟨_, _, rfl, rfl, o.here fr rfl _ (.bl _)⟩
  · exact o.elim
theorem p_isntB (ha : P X T E .b a f) (hb : P X T E .b b g) : P X T E .f (.Compare a [.IsNot] [b] pos) (e2 isntBD f g) := p_cmp op_notBl s_isntB ha hb (nomark _)
theorem t_isntB (ha : P X T E .b a f) (hb : P X T E .b b g) : Pt X T E (.Compare a [.IsNot] [b] pos) (tB (e2 isntBD f g)) := t_cmp op_notBl s_isntB ha hb (nomark _)
end
end PB

namespace PB
open PySem PySem.Spec PyProof.Rows L2 LamX
/-! ### PB12: dicts -/
section
variable {X : Cx} {T : List (Addr × Str)} {E : XK} {pos : Pos} {c : Ct} {H0 : Bs} {F H : Hp} {σ : L2.St} {ρ : Fr} {p : Addr} {Q : VK}
theorem p_dnewK : P X T E .n (.Dict [] [] pos) (eC (.dk [])) := PE.mono pe_dnewK fun σ H Q ⟨H0, F, ρ, fr, o⟩ => fun p hp =>
  o F _ (.refl F) (fr.newO (o := .dK []) hp trivial) _ ⟨p, rfl, fr.newAt hp ⟨rfl, .nil⟩⟩
theorem p_dnewT : P X T E .n (.Dict [] [] pos) (eC (.dt [])) := PE.mono pe_dnewT fun σ H Q ⟨H0, F, ρ, fr, o⟩ => fun p hp =>
  o F _ (.refl F) (fr.newO (o := .dT []) hp trivial) _ ⟨p, rfl, fr.newAt hp ⟨rfl, .nil⟩⟩
end
end PB

namespace PB
open PySem PySem.Spec PyProof.Rows L2 LamX
/-! ### PB13: plain laws of the mirrors' words -/
theorem ints_ok (ns : List Int) : D.ints (ns.map D.int) = some ns := by
  induction ns with
  | nil => rfl
  | cons n ns ih => rw [List.map_cons, D.ints, ih]; rfl
theorem seqI_l (ns : List Int) : seqI (.lst (ns.map D.int)) = some ns := ints_ok ns
theorem seqI_t (ns : List Int) : seqI (.tup (ns.map D.int)) = some ns := ints_ok ns
theorem sum_l (ns : List Int) : sumD [.lst (ns.map D.int)] = .ok (.int ns.sum) := by
  show (match seqI (.lst (ns.map D.int)) with | some ns => R.ok (D.int ns.sum) | none => R.stuck) = _
  rw [seqI_l]
theorem sum_t (ns : List Int) : sumD [.tup (ns.map D.int)] = .ok (.int ns.sum) := by
  show (match seqI (.tup (ns.map D.int)) with | some ns => R.ok (D.int ns.sum) | none => R.stuck) = _
  rw [seqI_t]
theorem isi_ii {i : Int} : isiD [.int i, .ty "int"] = .ok (.bl true) := rfl
theorem isi_ib {i : Int} : isiD [.int i, .ty "bool"] = .ok (.bl false) := rfl
theorem isi_it {i : Int} : isiD [.int i, .ty "tuple"] = .ok (.bl false) := rfl
theorem isi_tt {xs : List D} : isiD [.tup xs, .ty "tuple"] = .ok (.bl true) := rfl
theorem isi_ll {xs : List D} : isiD [.lst xs, .ty "list"] = .ok (.bl true) := rfl
theorem isi_bb {b : Bool} : isiD [.bl b, .ty "bool"] = .ok (.bl true) := rfl
theorem len_l {xs : List D} : lenD [.lst xs] = .ok (.int xs.length) := rfl
theorem len_t {xs : List D} : lenD [.tup xs] = .ok (.int xs.length) := rfl
theorem len_s {ns : List Int} : lenD [.scr ns] = .ok (.int ns.length) := rfl
theorem it_l {xs : List D} : itemsD (.lst xs) = .ok xs := rfl
theorem it_t {xs : List D} : itemsD (.tup xs) = .ok xs := rfl
theorem atD_nat {α : Type} {xs : List α} {k : Nat} (h : k < xs.length) : atD xs (k : Int) = some xs[k] := by
  unfold atD ixN
  rw [if_pos (by omega), if_pos (by omega)]
  show xs[(k : Int).toNat]? = _
  rw [Int.toNat_natCast, List.getElem?_eq_getElem h]
theorem ix_l {xs : List D} {k : Nat} (h : k < xs.length) : ixD (.lst xs) (.int (k : Int)) = .ok xs[k] := by
  show (match atD xs (k : Int) with | some d => R.ok d | none => R.stuck) = _
  rw [atD_nat h]
theorem ix_t {xs : List D} {k : Nat} (h : k < xs.length) : ixD (.tup xs) (.int (k : Int)) = .ok xs[k] := by
  show (match atD xs (k : Int) with | some d => R.ok d | none => R.stuck) = _
  rw [atD_nat h]
theorem ix_li {ns : List Int} {k : Nat} (h : k < ns.length) : ixD (.lst (ns.map D.int)) (.int (k : Int)) = .ok (.int ns[k]) := by
  rw [ix_l (by rw [List.length_map]; exact h), List.getElem_map]
theorem ix_ti {ns : List Int} {k : Nat} (h : k < ns.length) : ixD (.tup (ns.map D.int)) (.int (k : Int)) = .ok (.int ns[k]) := by
  rw [ix_t (by rw [List.length_map]; exact h), List.getElem_map]
theorem cut_to {α : Type} {xs : List α} {k : Nat} : cutD xs none (some (k : Int)) = xs.take k := by
  unfold cutD
  have e : HT.sIx xs.length xs.length (some (k : Int)) = min k xs.length := HT.sIx_nat _ _ _
  rw [HT.sIx_none, e, List.drop_zero, Nat.sub_zero]
  by_cases h : k ≤ xs.length
  · rw [Nat.min_eq_left h]
  · rw [Nat.min_eq_right (by omega), List.take_length, List.take_of_length_le (by omega)]
theorem cut_from {α : Type} {xs : List α} {k : Nat} : cutD xs (some (k : Int)) none = xs.drop k := by
  unfold cutD
  have e : HT.sIx xs.length 0 (some (k : Int)) = min k xs.length := HT.sIx_nat _ _ _
  rw [HT.sIx_none, e]
  by_cases h : k ≤ xs.length
  · rw [Nat.min_eq_left h, List.take_of_length_le (by rw [List.length_drop]; omega)]
  · rw [Nat.min_eq_right (by omega), List.drop_length, List.drop_eq_nil_of_le (by omega), List.take_nil]
theorem add_l {xs ys : List D} (h : xs.length + ys.length ≤ 2 ^ 21) : addD (.lst xs) (.lst ys) = .ok (.lst (xs ++ ys)) := if_pos (Nat.le_trans h szl)
theorem add_t {xs ys : List D} (h : xs.length + ys.length ≤ 2 ^ 21) : addD (.tup xs) (.tup ys) = .ok (.tup (xs ++ ys)) := if_pos (Nat.le_trans h szl)
theorem rng1_ok {n : Nat} (h : n ≤ 2 ^ 20) : rng1D [.int (n : Int)] = .ok (intsD 0 n) := by
  rw [rng1D, if_pos ⟨by omega, by omega⟩, Int.toNat_natCast]
theorem rng1_int {n : Int} (h0 : 0 ≤ n) (h : n ≤ 2 ^ 20) : rng1D [.int n] = .ok (intsD 0 n.toNat) := by
  rw [rng1D, if_pos ⟨by omega, by omega⟩]
theorem rng2_int {m n : Int} (h0 : -(2 ^ 20) ≤ m ∧ m ≤ 2 ^ 20 ∧ -(2 ^ 20) ≤ n ∧ n ≤ 2 ^ 20) : rng2D [.int m, .int n] = .ok (intsD m (n - m).toNat) := by
  rw [rng2D, if_pos h0]
/-- a loop over numbers that keeps I k -/
theorem for_rng {g : D → Fr → R Fr} {b : Fr → O} : ∀ {n : Nat} {lo : Int} {ρ : Fr} (I : Nat → Fr → Prop), I 0 ρ →
    (∀ (k : Nat) (ρ : Fr), k < n → I k ρ → ∃ ρ1 ρ2, g (.int (lo + k)) ρ = .ok ρ1 ∧ (b ρ1 = .nx ρ2 ∨ b ρ1 = .cn ρ2) ∧ I (k + 1) ρ2) → ∃ ρ', forD g b (intsD lo n) ρ = .nx ρ' ∧ I n ρ'
  | 0, lo, ρ, I, h0, step => ⟨ρ, rfl, h0⟩
  | n + 1, lo, ρ, I, h0, step => by
    obtain ⟨ρ1, ρ2, e1, e2, i2⟩ := step 0 ρ (Nat.succ_pos n) h0
    have e1 : g (.int lo) ρ = .ok ρ1 := by
      rw [show lo + ((0 : Nat) : Int) = lo by omega] at e1
      exact e1
    rw [intsD_succ, forD_cons e1]
    have e3 : loopO (forD g b (intsD (lo + 1) n)) (b ρ1) = forD g b (intsD (lo + 1) n) ρ2 := by
      rcases e2 with e2 | e2 <;> rw [e2] <;> rfl
    rw [e3]
    refine for_rng (fun k => I (k + 1)) i2 fun k ρ hk hi => ?_
    have := step (k + 1) ρ (by omega) hi
    rw [show lo + ((k + 1 : Nat) : Int) = lo + 1 + (k : Int) by omega] at this
    exact this
theorem for_list {g : D → Fr → R Fr} {b : Fr → O} : ∀ {ds : List D} {ρ : Fr} (I : Nat → Fr → Prop), I 0 ρ →
    (∀ (k : Nat) (d : D) (ρ : Fr), ds[k]? = some d → I k ρ → ∃ ρ1 ρ2, g d ρ = .ok ρ1 ∧ (b ρ1 = .nx ρ2 ∨ b ρ1 = .cn ρ2) ∧ I (k + 1) ρ2) → ∃ ρ', forD g b ds ρ = .nx ρ' ∧ I ds.length ρ'
  | [], ρ, I, h0, step => ⟨ρ, rfl, h0⟩
  | d :: ds, ρ, I, h0, step => by
    obtain ⟨ρ1, ρ2, e1, e2, i2⟩ := step 0 d ρ rfl h0
    rw [forD_cons e1]
    have e3 : loopO (forD g b ds) (b ρ1) = forD g b ds ρ2 := by
      rcases e2 with e2 | e2 <;> rw [e2] <;> rfl
    rw [e3]
    exact for_list (fun k => I (k + 1)) i2 fun k d ρ hk hi => step (k + 1) d ρ hk hi
/-- a loop that ends early, or not -/
theorem for_listE {g : D → Fr → R Fr} {b : Fr → O} {post : O → Prop} : ∀ {ds : List D} {ρ : Fr} (I : Nat → Fr → Prop), I 0 ρ → (∀ ρ', I ds.length ρ' → post (.nx ρ')) →
    (∀ (k : Nat) (d : D) (ρ : Fr), ds[k]? = some d → I k ρ → ∃ ρ1, g d ρ = .ok ρ1 ∧ ((∃ ρ2, (b ρ1 = .nx ρ2 ∨ b ρ1 = .cn ρ2) ∧ I (k + 1) ρ2) ∨ (∃ v, b ρ1 = .rt v ∧ post (.rt v)) ∨ (∃ x, b ρ1 = .er x ∧ post (.er x)) ∨ (∃ ρ2, b ρ1 = .bk ρ2 ∧ post (.nx ρ2)))) → post (forD g b ds ρ)
  | [], ρ, I, h0, hE, step => hE ρ h0
  | d :: ds, ρ, I, h0, hE, step => by
    obtain ⟨ρ1, e1, h⟩ := step 0 d ρ rfl h0
    rw [forD_cons e1]
    rcases h with ⟨ρ2, e2, i2⟩ | ⟨v, e2, p⟩ | ⟨x, e2, p⟩ | ⟨ρ2, e2, p⟩
    · have e3 : loopO (forD g b ds) (b ρ1) = forD g b ds ρ2 := by
        rcases e2 with e2 | e2 <;> rw [e2] <;> rfl
      rw [e3]
      exact for_listE (fun k => I (k + 1)) i2 hE fun k d ρ hk hi => step (k + 1) d ρ hk hi
    · rw [e2]; exact p
    · rw [e2]; exact p
    · rw [e2]; exact p
theorem ints_get {lo : Int} {n k : Nat} {d : D} (h : (intsD lo n)[k]? = some d) : k < n ∧ d = .int (lo + k) := by
  unfold intsD at h
  rw [List.getElem?_map] at h
  by_cases hk : k < n
  · rw [List.getElem?_range hk] at h
    cases h
    exact ⟨hk, rfl⟩
  · rw [List.getElem?_eq_none (by rw [List.length_range]; omega)] at h
    cases h
theorem ints_len {lo : Int} {n : Nat} : (intsD lo n).length = n := by unfold intsD; rw [List.length_map, List.length_range]
theorem lc_filter {g : D → Fr → R Fr} {s : Fr → R Bool} {f : Fr → R D} {ρ : Fr} (p : D → Bool) (φ : D → D) : ∀ {ds : List D}, (∀ d, d ∈ ds → ∃ ρ1, g d ρ = .ok ρ1 ∧ s ρ1 = .ok (p d) ∧ (p d = true → f ρ1 = .ok (φ d))) → lcD g s f ρ ds = .ok ((ds.filter p).map φ)
  | [], _ => rfl
  | d :: ds, h => by
    obtain ⟨ρ1, e1, e2, e3⟩ := h d List.mem_cons_self
    have ih := lc_filter p φ fun x hx => h x (List.mem_cons_of_mem _ hx)
    rw [lcD, e1]
    simp only []
    rw [e2]
    simp only []
    cases hp : p d with
    | true => rw [if_pos rfl, e3 hp, ih, List.filter_cons_of_pos hp]; rfl
    | false => rw [if_neg Bool.false_ne_true, ih, List.filter_cons_of_neg (by rw [hp]; exact Bool.false_ne_true)]
theorem lc_map {g : D → Fr → R Fr} {f : Fr → R D} {ρ : Fr} (φ : D → D) {ds : List D} (h : ∀ d, d ∈ ds → ∃ ρ1, g d ρ = .ok ρ1 ∧ f ρ1 = .ok (φ d)) : lcD g tAll f ρ ds = .ok (ds.map φ) := by
  have := lc_filter (g := g) (s := tAll) (f := f) (ρ := ρ) (fun _ => true) φ (ds := ds) fun d hd => by
    obtain ⟨ρ1, e1, e2⟩ := h d hd
    exact ⟨ρ1, e1, rfl, fun _ => e2⟩
  rw [this, List.filter_eq_self.mpr fun _ _ => rfl]
theorem eLc_ok {vs : List Nat} {it : Fr → R (List D)} {g : D → Fr → R Fr} {s : Fr → R Bool} {f : Fr → R D} {ρ : Fr} {ds xs : List D} (h1 : it ρ = .ok ds) (h2 : noOw vs ρ = true) (h3 : lcD g s f (wipeF ρ vs) ds = .ok xs) : eLc vs it g s f ρ = .ok (.lst xs) := by
  unfold eLc
  rw [h1]
  show (if noOw vs ρ = true then _ else _) = _
  rw [if_pos h2, h3]
  rfl
theorem all_ok {bs : List Bool} : allD [.lst (bs.map D.bl)] = .ok (.bl (bs.all id)) := by
  show (match D.bls (bs.map D.bl) with | some bs => R.ok (D.bl (bs.all id)) | none => R.stuck) = _
  rw [D.bls_of]
theorem any_ok {bs : List Bool} : anyD [.lst (bs.map D.bl)] = .ok (.bl (bs.any id)) := by
  show (match D.bls (bs.map D.bl) with | some bs => R.ok (D.bl (bs.any id)) | none => R.stuck) = _
  rw [D.bls_of]
end PB
namespace PB
theorem fdiv_s {i j : Int} (h : 0 < j) (h2 : j < 1000000000) : fdivD (.int i) (.int j) = .ok (.int (i / j)) := fdiv_i ⟨h, Int.lt_trans h2 (by decide +kernel)⟩
theorem mul_s {i j : Int} (h : i.natAbs < 1000000000) : mulD (.int i) (.int j) = .ok (.int (i * j)) := mul_i (.inl (Nat.lt_trans h (by decide)))
theorem mul_s' {i j : Int} (h : j.natAbs < 1000000000) : mulD (.int i) (.int j) = .ok (.int (i * j)) := mul_i (.inr (Nat.lt_trans h (by decide)))
end PB
namespace PB
theorem sl_l {ds : List D} {lo hi : Option Int} : slD (.lst ds) lo hi = .ok (.lst (cutD ds lo hi)) := rfl
theorem sl_t {ds : List D} {lo hi : Option Int} : slD (.tup ds) lo hi = .ok (.tup (cutD ds lo hi)) := rfl
theorem sl_s {ns : List Int} {lo hi : Option Int} : slD (.scr ns) lo hi = .ok (.lst ((cutD ns lo hi).map D.int)) := rfl
theorem rev_l {ds : List D} : revD (.lst ds) = .ok (.lst ds.reverse) := rfl
theorem rev_t {ds : List D} : revD (.tup ds) = .ok (.tup ds.reverse) := rfl
theorem list_l {ds : List D} : listD [.lst ds] = .ok (.lst ds) := rfl
theorem list_t {ds : List D} : listD [.tup ds] = .ok (.lst ds) := rfl
theorem tup_l {ds : List D} : tupleD [.lst ds] = .ok (.tup ds) := rfl
theorem tup_t {ds : List D} : tupleD [.tup ds] = .ok (.tup ds) := rfl
theorem cut_toM {ns : List Int} {k : Nat} : cutD (ns.map D.int) none (some (k : Int)) = (ns.take k).map D.int := by rw [cut_to, List.map_take]
theorem cut_fromM {ns : List Int} {k : Nat} : cutD (ns.map D.int) (some (k : Int)) none = (ns.drop k).map D.int := by rw [cut_from, List.map_drop]
theorem revM {ns : List Int} : (ns.map D.int).reverse = ns.reverse.map D.int := by rw [List.map_reverse]
theorem add_li {ns ms : List Int} (h : ns.length + ms.length ≤ 2 ^ 21) : addD (.lst (ns.map D.int)) (.lst (ms.map D.int)) = .ok (.lst ((ns ++ ms).map D.int)) := by
  rw [add_l (by rw [List.length_map, List.length_map]; exact h), List.map_append]
theorem one_l {n : Int} : [D.int n] = [n].map D.int := rfl
end PB
namespace PB
open PySem PySem.Spec PyProof.Rows L2 LamX
theorem rng3_up {a b c : Int} {m : Nat} (ha : -(2 ^ 20) ≤ a ∧ a ≤ 2 ^ 20) (hb : -(2 ^ 20) ≤ b ∧ b ≤ 2 ^ 20) (hc : 0 < c ∧ c < 1000) (hm : (if a < b then (b - a - 1) / c + 1 else 0) = (m : Int)) (hm2 : m ≤ 2 ^ 21) : rng3D [.int a, .int b, .int c] = .ok (intsC a c m) := by
  have e : Builtin.Range.rangeSize a b c = (m : Int) := by
    unfold Builtin.Range.rangeSize
    rw [if_pos (by omega)]
    exact hm
  have s : Builtin.Range.small a b c = true := by
    have f : ∀ x : Int, -(2 ^ 40) ≤ x → x ≤ 2 ^ 40 → Builtin.Range.rangeFitsLong x = true := fun x h1 h2 => by
      unfold Builtin.Range.rangeFitsLong
      rw [Bool.and_eq_true, decide_eq_true_eq, decide_eq_true_eq]
      omega
    unfold Builtin.Range.small
    rw [e, f a (by omega) (by omega), f b (by omega) (by omega), f c (by omega) (by omega), f m (by omega) (by omega), if_pos (by omega), f (b + (c - 1)) (by omega) (by omega)]
    simp
  rw [rng3D, if_pos ⟨ha.1, ha.2, hb.1, hb.2, by omega, by omega, s, by rw [e, Int.toNat_natCast]; exact Nat.le_trans hm2 szl, by rw [e]; omega⟩, e, Int.toNat_natCast]

theorem intsC_len {a c : Int} {m : Nat} : (intsC a c m).length = m := by unfold intsC; rw [List.length_map, List.length_range]
theorem intsC_get {lo c : Int} {n k : Nat} {d : D} (h : (intsC lo c n)[k]? = some d) : k < n ∧ d = .int (lo + k * c) := by
  unfold intsC at h
  rw [List.getElem?_map] at h
  by_cases hk : k < n
  · rw [List.getElem?_range hk] at h
    cases h
    exact ⟨hk, rfl⟩
  · rw [List.getElem?_eq_none (by rw [List.length_range]; omega)] at h
    cases h
theorem sLet_ok {α : Type} {f : Fr → R α} {k : α → Fr → O} {ρ : Fr} {a : α} (h : f ρ = .ok a) : sLet f k ρ = k a ρ := by unfold sLet; rw [h]
theorem setL_ok {i : Nat} {a f : Fr → R D} {ρ : Fr} {xs : List D} {n : Nat} {z : Int} {x : D} (h1 : f ρ = .ok x) (h2 : ρ[i]? = some (.ow (.lst xs))) (h3 : a ρ = .ok (.int z)) (hz : z = (n : Int)) (hn : n < xs.length) : sSetL i a f ρ = .nx (ρ.set i (.ow (.lst (xs.set n x)))) := by
  subst hz
  have g : getL i ρ = .ok xs := by unfold getL; rw [h2]
  unfold sSetL
  rw [sLet_ok h1, sLet_ok g, sLet_ok h3]
  show (match ixN xs.length (n : Int) with | some j => O.nx (ρ.set i (.ow (.lst (xs.set j x)))) | none => .stuck) = _
  unfold ixN
  rw [if_pos (by omega), if_pos (by omega), Int.toNat_natCast]
/-- the ints f 0 .. f (n - 1) -/
def LF (f : Nat → Int) (n : Nat) : List Int := (List.range n).map f
theorem LF_len {f : Nat → Int} {n : Nat} : (LF f n).length = n := by unfold LF; rw [List.length_map, List.length_range]
theorem LF_get {f : Nat → Int} {n k : Nat} (h : k < (LF f n).length) : (LF f n)[k] = f k := by
  simp [LF]
theorem LF_congr {f g : Nat → Int} {n : Nat} (h : ∀ k, k < n → f k = g k) : LF f n = LF g n := List.map_congr_left fun k hk => h k (List.mem_range.mp hk)
theorem LF_set {f : Nat → Int} {n j : Nat} {x : Int} : (LF f n).set j x = LF (fun i => if i = j then x else f i) n := by
  refine List.ext_getElem (by rw [List.length_set, LF_len, LF_len]) fun i h1 h2 => ?_
  rw [List.getElem_set, LF_get, LF_get]
  by_cases e : j = i
  · rw [if_pos e, if_pos e.symm]
  · rw [if_neg e, if_neg (Ne.symm e)]
theorem LF_setD {f : Nat → Int} {n j : Nat} {x : Int} : ((LF f n).map D.int).set j (.int x) = (LF (fun i => if i = j then x else f i) n).map D.int := by
  rw [← LF_set, List.map_set]
end PB
namespace PB
theorem apBV {i : Nat} {tb : Tb} {fs : Fr → R (List D)} {ρ : Fr} : eBV i tb fs ρ = (eV i ρ).bind fun f => (lookT tb f).bind fun m => (fs ρ).bind m := by unfold eBV; rfl
theorem minI_ge {b : Int} : ∀ (ns : List Int) (n : Int), b ≤ n → (∀ x ∈ ns, b ≤ x) → b ≤ minI n ns
  | [], n, h, _ => h
  | x :: ns, n, h, hs => by
    show b ≤ minI (if x < n then x else n) ns
    refine minI_ge ns _ ?_ fun y hy => hs y (List.mem_cons_of_mem _ hy)
    split
    · exact hs x List.mem_cons_self
    · exact h
theorem min_t {n : Int} {ns : List Int} : minD [.tup ((n :: ns).map D.int)] = .ok (.int (minI n ns)) := by
  show (match seqI (.tup ((n :: ns).map D.int)) with | some (n :: ns) => R.ok (D.int (minI n ns)) | _ => R.stuck) = _
  rw [seqI_t]
theorem min_l {n : Int} {ns : List Int} : minD [.lst ((n :: ns).map D.int)] = .ok (.int (minI n ns)) := by
  show (match seqI (.lst ((n :: ns).map D.int)) with | some (n :: ns) => R.ok (D.int (minI n ns)) | _ => R.stuck) = _
  rw [seqI_l]
theorem max_t {n : Int} {ns : List Int} : maxD [.tup ((n :: ns).map D.int)] = .ok (.int (maxI n ns)) := by
  show (match seqI (.tup ((n :: ns).map D.int)) with | some (n :: ns) => R.ok (D.int (maxI n ns)) | _ => R.stuck) = _
  rw [seqI_t]
theorem max_l {n : Int} {ns : List Int} : maxD [.lst ((n :: ns).map D.int)] = .ok (.int (maxI n ns)) := by
  show (match seqI (.lst ((n :: ns).map D.int)) with | some (n :: ns) => R.ok (D.int (maxI n ns)) | _ => R.stuck) = _
  rw [seqI_l]
theorem max2_i {i j : Int} : max2D [.int i, .int j] = .ok (.int (if j > i then j else i)) := rfl
theorem min2_i {i j : Int} : min2D [.int i, .int j] = .ok (.int (if j < i then j else i)) := rfl
end PB

namespace PB
open PySem PySem.Spec PyProof.Rows L2 LamX
/-! ### PB14: the other draw; numbers, ties, webs -/
noncomputable def drawN : List D → R D := runD 6 3
  (sSeq (sIf (tB (e2 geD (eVb 0) (e2 powD (eC (.int 10)) (eC (.int 18))))) (sSeq (sSet 3 (eV 0))
    (sSeq (sFor (eIts rng1D (xCons (eVb 1) xNil)) (gN 4) (sSeq (sIf (tB (e2 eqD (eVb 3) (eC (.int 0)))) (sRet (eC (.int 0))) sNil)
    (sSet 3 (e2 fdivD (eVb 3) (eVb 2)))))
    (sRet (e2 modD (eVb 3) (eVb 2))))) sNil)
    (sSeq (sSet 5 (e2 modD (e2 mulD (e2 addD (e2 addD (e2 modD (eVb 0) (eC (.int 1000000007))) (e2 mulD (eC (.int 1009)) (eVb 1))) (eC (.int 17))) (eC (.int 69621))) (eC (.int 2147483647))))
    (sSeq (sSet 5 (e2 modD (e2 addD (e2 addD (e2 mulD (eVb 5) (eVb 5)) (e2 mulD (eC (.int 40503)) (eVb 1))) (eC (.int 5))) (eC (.int 2147483629))))
    (sRet (e2 modD (e2 fdivD (e2 modD (e2 mulD (eVb 5) (eC (.int 48271))) (eC (.int 2147483647))) (eC (.int 32))) (eVb 2))))))
theorem divN_zero (b : Int) : ∀ n, divN b n 0 = 0
  | 0 => rfl
  | n + 1 => by rw [divN, Int.zero_ediv, divN_zero b n]
theorem drawN_loop {c k : D} {b : Int} (h0 : 0 < b) (h1 : b < 1000000000) {y : Sl} : ∀ (ds : List D) (l : Int) (x : Sl),
    (∃ x', forD (gN 4) (sSeq (sIf (tB (e2 eqD (eVb 3) (eC (.int 0)))) (sRet (eC (.int 0))) sNil) (sSet 3 (e2 fdivD (eVb 3) (eVb 2)))) ds [.fz c, .fz k, .fz (.int b), .fz (.int l), x, y] = .nx [.fz c, .fz k, .fz (.int b), .fz (.int (divN b ds.length l)), x', y]) ∨
    (forD (gN 4) (sSeq (sIf (tB (e2 eqD (eVb 3) (eC (.int 0)))) (sRet (eC (.int 0))) sNil) (sSet 3 (e2 fdivD (eVb 3) (eVb 2)))) ds [.fz c, .fz k, .fz (.int b), .fz (.int l), x, y] = .rt (.int 0) ∧ divN b ds.length l = 0)
  | [], l, x => .inl ⟨x, rfl⟩
  | d :: ds, l, x => by
    rw [forD_cons (ρ1 := [.fz c, .fz k, .fz (.int b), .fz (.int l), .fz d, y]) rfl]
    by_cases hl : l = 0
    · subst hl
      refine .inr ⟨?_, divN_zero b _⟩
      simp (disch := omega) only [apC, apV, apVb, ap2, ap1, apB, apN, apX, aptB, aptV, apAnd, apOr, apNot, apeIf, apeAnd, apeOr, apeNot, apTup, apLst, apIt, apIts, apoN, apoS, apSl, ap3, apsN, apSeq, apSet, apOwn, apRet, apEx, apIf, apFrz, apT, apgN, List.getElem?_cons_succ, List.getElem?_cons_zero, List.set_cons_succ, List.set_cons_zero, apBV, max2_i, min2_i, bindO, fdiv_s, mod_i, mul_s, mul_s', isi_ii, isi_ib, isi_it, isi_tt, isi_ll, isi_bb, len_l, len_t, len_s, it_l, it_t, mkL0, mkL1, mkL2, mkL3, mkL4, mkL5, mkL6, mkL7, mkL8, mkT0, mkT1, mkT2, mkT3, mkT4, mkT5, mkT6, mkT7, mkT8, add_i, sub_i, lt_i, le_i, gt_i, ge_i, eq_i, ne_i, tru_b, tru_i, tru_n, as_b, tru_l, tru_t, if_true, if_false, beq_self_eq_true]
      rfl
    · have e : sSeq (sIf (tB (e2 eqD (eVb 3) (eC (.int 0)))) (sRet (eC (.int 0))) sNil) (sSet 3 (e2 fdivD (eVb 3) (eVb 2))) [.fz c, .fz k, .fz (.int b), .fz (.int l), .fz d, y] = .nx [.fz c, .fz k, .fz (.int b), .fz (.int (l / b)), .fz d, y] := by
        simp (disch := omega) only [apC, apV, apVb, ap2, ap1, apB, apN, apX, aptB, aptV, apAnd, apOr, apNot, apeIf, apeAnd, apeOr, apeNot, apTup, apLst, apIt, apIts, apoN, apoS, apSl, ap3, apsN, apSeq, apSet, apOwn, apRet, apEx, apIf, apFrz, apT, apgN, List.getElem?_cons_succ, List.getElem?_cons_zero, List.set_cons_succ, List.set_cons_zero, apBV, max2_i, min2_i, bindO, fdiv_s, mod_i, mul_s, mul_s', isi_ii, isi_ib, isi_it, isi_tt, isi_ll, isi_bb, len_l, len_t, len_s, it_l, it_t, mkL0, mkL1, mkL2, mkL3, mkL4, mkL5, mkL6, mkL7, mkL8, mkT0, mkT1, mkT2, mkT3, mkT4, mkT5, mkT6, mkT7, mkT8, add_i, sub_i, lt_i, le_i, gt_i, ge_i, eq_i, ne_i, tru_b, tru_i, tru_n, as_b, tru_l, tru_t, if_true, if_false, beq_eq_false_iff_ne.mpr hl, Bool.false_eq_true]
      rw [e]
      exact drawN_loop h0 h1 ds (l / b) (.fz d)
theorem drawN_eq {c k b : Int} (hk : 0 ≤ k) (hk2 : k ≤ 2 ^ 20) (h0 : 0 < b) (h1 : b < 1000000000) : drawN [.int c, .int k, .int b] = .ok (.int (drw c k b)) := by
  by_cases hc : 10 ^ 18 ≤ c
  · unfold drawN drw
    refine (runD_eq (by rfl)).trans ?_
    have s0 : startF 6 [D.int c, .int k, .int b] = [.fz (.int c), .fz (.int k), .fz (.int b), .un, .un, .un] := rfl
    rw [s0]
    have t0 : tB (e2 geD (eVb 0) (e2 powD (eC (.int 10)) (eC (.int 18)))) [.fz (.int c), .fz (.int k), .fz (.int b), .un, .un, .un] = .ok (decide (10 ^ 18 ≤ c)) := rfl
    rw [if_pos hc, decide_eq_true hc] at *
    have hi : eIts rng1D (xCons (eVb 1) xNil) [.fz (.int c), .fz (.int k), .fz (.int b), .fz (.int c), .un, .un] = .ok (intsD 0 k.toNat) := by
      show rng1D [.int k] = _
      exact rng1_int hk hk2
    have hs : sSet 3 (eV 0) [.fz (.int c), .fz (.int k), .fz (.int b), .un, .un, .un] = .nx [.fz (.int c), .fz (.int k), .fz (.int b), .fz (.int c), .un, .un] := rfl
    rcases drawN_loop (c := .int c) (k := .int k) h0 h1 (y := .un) (intsD 0 k.toNat) c .un with ⟨x', e2⟩ | ⟨e2, e3⟩
    · rw [ints_len] at e2
      rw [seq_rt (d := .int (divN b k.toNat c % b))]
      · rfl
      rw [if_t t0, seq_nx hs, seq_nx ((for_eq hi).trans e2)]
      simp (disch := omega) only [apC, apV, apVb, ap2, ap1, apB, apN, apX, aptB, aptV, apAnd, apOr, apNot, apeIf, apeAnd, apeOr, apeNot, apTup, apLst, apIt, apIts, apoN, apoS, apSl, ap3, apsN, apSeq, apSet, apOwn, apRet, apEx, apIf, apFrz, apT, apgN, List.getElem?_cons_succ, List.getElem?_cons_zero, List.set_cons_succ, List.set_cons_zero, apBV, max2_i, min2_i, bindO, fdiv_s, mod_i, mul_s, mul_s', isi_ii, isi_ib, isi_it, isi_tt, isi_ll, isi_bb, len_l, len_t, len_s, it_l, it_t, mkL0, mkL1, mkL2, mkL3, mkL4, mkL5, mkL6, mkL7, mkL8, mkT0, mkT1, mkT2, mkT3, mkT4, mkT5, mkT6, mkT7, mkT8, add_i, sub_i, lt_i, le_i, gt_i, ge_i, eq_i, ne_i, tru_b, tru_i, tru_n, as_b, tru_l, tru_t, if_true, if_false]
    · rw [ints_len] at e3
      rw [e3, Int.zero_emod]
      rw [seq_rt (d := .int 0)]
      · rfl
      rw [if_t t0, seq_nx hs, seq_rt ((for_eq hi).trans e2)]
  · have e : drawN [.int c, .int k, .int b] = drawM [.int c, .int k, .int b] := by
      unfold drawN drawM
      refine (runD_eq (by rfl)).trans ((?_ : endO _ = endO _).trans (runD_eq (by rfl)).symm)
      have s0 : startF 6 [D.int c, .int k, .int b] = [.fz (.int c), .fz (.int k), .fz (.int b), .un, .un, .un] := rfl
      have t0 : tB (e2 geD (eVb 0) (e2 powD (eC (.int 10)) (eC (.int 18)))) [.fz (.int c), .fz (.int k), .fz (.int b), .un, .un, .un] = .ok (decide (10 ^ 18 ≤ c)) := rfl
      rw [decide_eq_false hc] at t0
      rw [s0, seq_nx (if_f (h := sNil) t0), seq_nx (if_f (h := sNil) t0)]
    rw [e]
    exact draw_eq hk hk2 h0 (Int.lt_trans h1 (by decide +kernel))
end PB

namespace PB
open PySem PySem.Spec PyProof.Rows L2 LamX
/-! ### PB15: numbers, ties, webs -/
noncomputable def o_is_number : List D → R D := runD 3 3
  (sRet (eAnd (eB isiD (xCons (eVb 0) (xCons (eC (.ty "int")) xNil))) (eAnd (eNot (eB isiD (xCons (eVb 0) (xCons (eC (.ty "bool")) xNil)))) (e3c leD ltD (eVb 1) (eVb 0) (eVb 2)))))
noncomputable def o_is_tie : List D → R D := runD 3 2
  (sSeq (sIf (tOrR (tNotR (tV (eB isiD (xCons (eVb 1) (xCons (eC (.ty "tuple")) xNil))))) (tB (e2 neD (eB lenD (xCons (eVb 1) xNil)) (eC (.int 2))))) (sRet (eC (.bl false))) sNil)
    (sRet (eAnd (eB allD (xCons (eLc [2] (eIt (eV 1)) (gN 2) tAll (eB o_is_number (xCons (eV 2) (xCons (eC (.int 0)) (xCons (eV 0) xNil))))) xNil)) (e2 ltD (e2 ixD (eVb 1) (eC (.int 0))) (e2 ixD (eVb 1) (eC (.int 1)))))))
noncomputable def o_rises : List D → R D := runD 2 1
  (sRet (eB allD (xCons (eLc [1] (eIts rng1D (xCons (e2 subD (eB lenD (xCons (eVb 0) xNil)) (eC (.int 1))) xNil)) (gN 1) tAll (e2 ltD (e2 ixD (eVb 0) (eVb 1)) (e2 ixD (eVb 0) (e2 addD (eVb 1) (eC (.int 1)))))) xNil)))
noncomputable def o_is_web : List D → R D := runD 2 1
  (sSeq (sIf (tOrR (tNotR (tV (eB isiD (xCons (eVb 0) (xCons (eC (.ty "tuple")) xNil))))) (tOrR (tB (e2 neD (eB lenD (xCons (eVb 0) xNil)) (eC (.int 2)))) (tNotR (tV (eB o_is_number (xCons (e2 ixD (eVb 0) (eC (.int 0))) (xCons (eC (.int 1)) (xCons (e2 addD (eC (.int 40)) (eC (.int 1))) xNil)))))))) (sRet (eC (.bl false))) sNil)
    (sSeq (sIf (tOrR (tNotR (tV (eB isiD (xCons (e2 ixD (eVb 0) (eC (.int 1))) (xCons (eC (.ty "tuple")) xNil))))) (tNotR (tV (eB allD (xCons (eLc [1] (eIt (e2 ixD (eVb 0) (eC (.int 1)))) (gN 1) tAll (eB o_is_tie (xCons (e2 ixD (eVb 0) (eC (.int 0))) (xCons (eV 1) xNil)))) xNil))))) (sRet (eC (.bl false))) sNil)
    (sRet (eB o_rises (xCons (e2 ixD (eVb 0) (eC (.int 1))) xNil)))))
/-- values that isinstance tells of -/
def Ty (d : D) : Prop := tyN d ≠ none
def numB (a b : Int) : D → Bool
  | .int i => decide (a ≤ i) && decide (i < b)
  | _ => false
theorem isi_tuple {d : D} (h : Ty d) : isiD [d, .ty "tuple"] = .ok (.bl (match d with | .tup _ => true | _ => false)) := by
  cases d <;> first | rfl | exact absurd rfl h
theorem num_ok {d : D} (h : Ty d) (a b : Int) : o_is_number [d, .int a, .int b] = .ok (.bl (numB a b d)) := by
  refine (runD_eq (by rfl)).trans ?_
  rw [show startF 3 [d, .int a, .int b] = [.fz d, .fz (.int a), .fz (.int b)] from rfl]
  cases d <;> first | exact absurd rfl h | skip
  case int i =>
    simp (disch := omega) only [apC, apV, apVb, ap2, ap1, apB, apN, apX, aptB, aptV, apAnd, apOr, apNot, apeIf, apeAnd, apeOr, apeNot, apTup, apLst, apIt, apIts, apoN, apoS, apSl, ap3, apsN, apSeq, apSet, apOwn, apRet, apEx, apIf, apFrz, apT, apgN, List.getElem?_cons_succ, List.getElem?_cons_zero, List.set_cons_succ, List.set_cons_zero, apBV, max2_i, min2_i, bindO, fdiv_s, mod_i, mul_s, mul_s', isi_ii, isi_ib, isi_it, isi_tt, isi_ll, isi_bb, len_l, len_t, len_s, it_l, it_t, mkL0, mkL1, mkL2, mkL3, mkL4, mkL5, mkL6, mkL7, mkL8, mkT0, mkT1, mkT2, mkT3, mkT4, mkT5, mkT6, mkT7, mkT8, add_i, sub_i, lt_i, le_i, gt_i, ge_i, eq_i, ne_i, tru_b, tru_i, tru_n, as_b, tru_l, tru_t, if_true, if_false, apeAnd, apeNot]
    show _ = R.ok (D.bl (decide (a ≤ i) && decide (i < b)))
    by_cases h : a ≤ i
    · rw [decide_eq_true h]
      rfl
    · rw [decide_eq_false h]
      rfl
  all_goals rfl
theorem lc_two {g : D → Fr → R Fr} {f : Fr → R D} {ρ ρ1 ρ2 : Fr} {x y u v : D} (h1 : g x ρ = .ok ρ1) (h2 : f ρ1 = .ok u) (h3 : g y ρ = .ok ρ2) (h4 : f ρ2 = .ok v) : lcD g tAll f ρ [x, y] = .ok [u, v] := by
  unfold lcD
  rw [h1]
  simp only []
  rw [h2]
  unfold lcD
  rw [h3]
  simp only []
  rw [h4]
  rfl
def tieB (n : Int) : D → Bool
  | .tup [.int a, .int b] => (decide (0 ≤ a) && decide (a < n)) && (decide (0 ≤ b) && decide (b < n)) && decide (a < b)
  | _ => false
theorem numB_int {a b : Int} {d : D} (h : numB a b d = true) : ∃ i, d = .int i ∧ a ≤ i ∧ i < b := by
  cases d <;> first | (cases h; done) | skip
  case int i =>
    have h : (decide (a ≤ i) && decide (i < b)) = true := h
    rw [Bool.and_eq_true, decide_eq_true_eq, decide_eq_true_eq] at h
    exact ⟨i, rfl, h.1, h.2⟩
theorem isi_notup {d : D} (h : Ty d) (h2 : ∀ xs, d ≠ .tup xs) : isiD [d, .ty "tuple"] = .ok (.bl false) := by
  cases d <;> first | rfl | exact absurd rfl h | exact absurd rfl (h2 _)
theorem tie_len {n : Int} {xs : List D} (h : xs.length ≠ 2) : tieB n (.tup xs) = false := by
  match xs, h with
  | [], _ => rfl
  | [a], _ => cases a <;> rfl
  | [_, _], h => exact absurd rfl h
  | a :: b :: _ :: _, _ => cases a <;> cases b <;> rfl
theorem tie_ok {n : Int} {d : D} (h : Ty d) (hi : ∀ xs, d = .tup xs → ∀ x ∈ xs, Ty x) : o_is_tie [.int n, d] = .ok (.bl (tieB n d)) := by
  refine (runD_eq (by rfl)).trans ?_
  rw [show startF 3 [.int n, d] = [.fz (.int n), .fz d, .un] from rfl]
  by_cases ht : ∃ xs, d = .tup xs
  · obtain ⟨xs, rfl⟩ := ht
    by_cases hl : xs.length = 2
    · obtain ⟨x, y, rfl⟩ : ∃ x y, xs = [x, y] := by
        match xs, hl with
        | [x, y], _ => exact ⟨x, y, rfl⟩
      have hx := hi _ rfl x List.mem_cons_self
      have hy := hi _ rfl y (List.mem_cons_of_mem _ List.mem_cons_self)
      have hc : eLc [2] (eIt (eV 1)) (gN 2) tAll (eB o_is_number (xCons (eV 2) (xCons (eC (.int 0)) (xCons (eV 0) xNil)))) [.fz (.int n), .fz (.tup [x, y]), .un] = .ok (.lst ([numB 0 n x, numB 0 n y].map D.bl)) := by
        refine eLc_ok (ds := [x, y]) rfl rfl ?_
        have e1 : eB o_is_number (xCons (eV 2) (xCons (eC (.int 0)) (xCons (eV 0) xNil))) [.fz (.int n), .fz (.tup [x, y]), .fz x] = .ok (.bl (numB 0 n x)) := by
          simp (disch := omega) only [apC, apV, apVb, ap2, ap1, apB, apN, apX, aptB, aptV, apAnd, apOr, apNot, apeIf, apeAnd, apeOr, apeNot, apTup, apLst, apIt, apIts, apoN, apoS, apSl, ap3, apsN, apSeq, apSet, apOwn, apRet, apEx, apIf, apFrz, apT, apgN, List.getElem?_cons_succ, List.getElem?_cons_zero, List.set_cons_succ, List.set_cons_zero, apBV, max2_i, min2_i, bindO, fdiv_s, mod_i, mul_s, mul_s', isi_ii, isi_ib, isi_it, isi_tt, isi_ll, isi_bb, len_l, len_t, len_s, it_l, it_t, mkL0, mkL1, mkL2, mkL3, mkL4, mkL5, mkL6, mkL7, mkL8, mkT0, mkT1, mkT2, mkT3, mkT4, mkT5, mkT6, mkT7, mkT8, add_i, sub_i, lt_i, le_i, gt_i, ge_i, eq_i, ne_i, tru_b, tru_i, tru_n, as_b, tru_l, tru_t, if_true, if_false, num_ok hx]
        have e2 : eB o_is_number (xCons (eV 2) (xCons (eC (.int 0)) (xCons (eV 0) xNil))) [.fz (.int n), .fz (.tup [x, y]), .fz y] = .ok (.bl (numB 0 n y)) := by
          simp (disch := omega) only [apC, apV, apVb, ap2, ap1, apB, apN, apX, aptB, aptV, apAnd, apOr, apNot, apeIf, apeAnd, apeOr, apeNot, apTup, apLst, apIt, apIts, apoN, apoS, apSl, ap3, apsN, apSeq, apSet, apOwn, apRet, apEx, apIf, apFrz, apT, apgN, List.getElem?_cons_succ, List.getElem?_cons_zero, List.set_cons_succ, List.set_cons_zero, apBV, max2_i, min2_i, bindO, fdiv_s, mod_i, mul_s, mul_s', isi_ii, isi_ib, isi_it, isi_tt, isi_ll, isi_bb, len_l, len_t, len_s, it_l, it_t, mkL0, mkL1, mkL2, mkL3, mkL4, mkL5, mkL6, mkL7, mkL8, mkT0, mkT1, mkT2, mkT3, mkT4, mkT5, mkT6, mkT7, mkT8, add_i, sub_i, lt_i, le_i, gt_i, ge_i, eq_i, ne_i, tru_b, tru_i, tru_n, as_b, tru_l, tru_t, if_true, if_false, num_ok hy]
        exact lc_two rfl e1 rfl e2
      have ht : tOrR (tNotR (tV (eB isiD (xCons (eVb 1) (xCons (eC (.ty "tuple")) xNil))))) (tB (e2 neD (eB lenD (xCons (eVb 1) xNil)) (eC (.int 2)))) [.fz (.int n), .fz (.tup [x, y]), .un] = .ok false := by
        simp (disch := omega) only [apC, apV, apVb, ap2, ap1, apB, apN, apX, aptB, aptV, apAnd, apOr, apNot, apeIf, apeAnd, apeOr, apeNot, apTup, apLst, apIt, apIts, apoN, apoS, apSl, ap3, apsN, apSeq, apSet, apOwn, apRet, apEx, apIf, apFrz, apT, apgN, List.getElem?_cons_succ, List.getElem?_cons_zero, List.set_cons_succ, List.set_cons_zero, apBV, max2_i, min2_i, bindO, fdiv_s, mod_i, mul_s, mul_s', isi_ii, isi_ib, isi_it, isi_tt, isi_ll, isi_bb, len_l, len_t, len_s, it_l, it_t, mkL0, mkL1, mkL2, mkL3, mkL4, mkL5, mkL6, mkL7, mkL8, mkT0, mkT1, mkT2, mkT3, mkT4, mkT5, mkT6, mkT7, mkT8, add_i, sub_i, lt_i, le_i, gt_i, ge_i, eq_i, ne_i, tru_b, tru_i, tru_n, as_b, tru_l, tru_t, if_true, if_false]
        rfl
      rw [seq_nx ((if_f (h := sNil) ht).trans rfl)]
      have ha := all_ok (bs := [numB 0 n x, numB 0 n y])
      by_cases c : (numB 0 n x && numB 0 n y) = true
      · rw [Bool.and_eq_true] at c
        obtain ⟨i, rfl, _, _⟩ := numB_int c.1
        obtain ⟨j, rfl, _, _⟩ := numB_int c.2
        have i0 : ixD (.tup [.int i, .int j]) (.int 0) = .ok (.int i) := rfl
        have i1 : ixD (.tup [.int i, .int j]) (.int 1) = .ok (.int j) := rfl
        have hall : ([numB 0 n (.int i), numB 0 n (.int j)].all id) = true := by
          show (numB 0 n (.int i) && (numB 0 n (.int j) && true)) = true
          rw [c.1, c.2]
          rfl
        simp (disch := omega) only [apC, apV, apVb, ap2, ap1, apB, apN, apX, aptB, aptV, apAnd, apOr, apNot, apeIf, apeAnd, apeOr, apeNot, apTup, apLst, apIt, apIts, apoN, apoS, apSl, ap3, apsN, apSeq, apSet, apOwn, apRet, apEx, apIf, apFrz, apT, apgN, List.getElem?_cons_succ, List.getElem?_cons_zero, List.set_cons_succ, List.set_cons_zero, apBV, max2_i, min2_i, bindO, fdiv_s, mod_i, mul_s, mul_s', isi_ii, isi_ib, isi_it, isi_tt, isi_ll, isi_bb, len_l, len_t, len_s, it_l, it_t, mkL0, mkL1, mkL2, mkL3, mkL4, mkL5, mkL6, mkL7, mkL8, mkT0, mkT1, mkT2, mkT3, mkT4, mkT5, mkT6, mkT7, mkT8, add_i, sub_i, lt_i, le_i, gt_i, ge_i, eq_i, ne_i, tru_b, tru_i, tru_n, as_b, tru_l, tru_t, if_true, if_false, apeAnd, hc, ha, hall, i0, i1]
        have : tieB n (.tup [.int i, .int j]) = decide (i < j) := by
          show (numB 0 n (.int i) && numB 0 n (.int j) && decide (i < j)) = _
          rw [c.1, c.2]
          rfl
        rw [this]
        rfl
      · have hall : ([numB 0 n x, numB 0 n y].all id) = false := by
          show (numB 0 n x && (numB 0 n y && true)) = false
          rw [Bool.and_true]
          exact Bool.eq_false_iff.mpr c
        simp (disch := omega) only [apC, apV, apVb, ap2, ap1, apB, apN, apX, aptB, aptV, apAnd, apOr, apNot, apeIf, apeAnd, apeOr, apeNot, apTup, apLst, apIt, apIts, apoN, apoS, apSl, ap3, apsN, apSeq, apSet, apOwn, apRet, apEx, apIf, apFrz, apT, apgN, List.getElem?_cons_succ, List.getElem?_cons_zero, List.set_cons_succ, List.set_cons_zero, apBV, max2_i, min2_i, bindO, fdiv_s, mod_i, mul_s, mul_s', isi_ii, isi_ib, isi_it, isi_tt, isi_ll, isi_bb, len_l, len_t, len_s, it_l, it_t, mkL0, mkL1, mkL2, mkL3, mkL4, mkL5, mkL6, mkL7, mkL8, mkT0, mkT1, mkT2, mkT3, mkT4, mkT5, mkT6, mkT7, mkT8, add_i, sub_i, lt_i, le_i, gt_i, ge_i, eq_i, ne_i, tru_b, tru_i, tru_n, as_b, tru_l, tru_t, if_true, if_false, apeAnd, hc, ha, hall, Bool.false_eq_true]
        have : tieB n (.tup [x, y]) = false := by
          cases e : tieB n (.tup [x, y]) with
          | false => rfl
          | true =>
            exfalso
            cases x <;> cases y <;> first | (cases e; done) | skip
            rename_i a b
            have e : (numB 0 n (.int a) && numB 0 n (.int b) && decide (a < b)) = true := e
            rw [Bool.and_eq_true] at e
            exact c e.1
        rw [this]
        rfl
    · have ht : tOrR (tNotR (tV (eB isiD (xCons (eVb 1) (xCons (eC (.ty "tuple")) xNil))))) (tB (e2 neD (eB lenD (xCons (eVb 1) xNil)) (eC (.int 2)))) [.fz (.int n), .fz (.tup xs), .un] = .ok true := by
        have : ((xs.length : Int) == 2) = false := beq_eq_false_iff_ne.mpr (by omega)
        simp (disch := omega) only [apC, apV, apVb, ap2, ap1, apB, apN, apX, aptB, aptV, apAnd, apOr, apNot, apeIf, apeAnd, apeOr, apeNot, apTup, apLst, apIt, apIts, apoN, apoS, apSl, ap3, apsN, apSeq, apSet, apOwn, apRet, apEx, apIf, apFrz, apT, apgN, List.getElem?_cons_succ, List.getElem?_cons_zero, List.set_cons_succ, List.set_cons_zero, apBV, max2_i, min2_i, bindO, fdiv_s, mod_i, mul_s, mul_s', isi_ii, isi_ib, isi_it, isi_tt, isi_ll, isi_bb, len_l, len_t, len_s, it_l, it_t, mkL0, mkL1, mkL2, mkL3, mkL4, mkL5, mkL6, mkL7, mkL8, mkT0, mkT1, mkT2, mkT3, mkT4, mkT5, mkT6, mkT7, mkT8, add_i, sub_i, lt_i, le_i, gt_i, ge_i, eq_i, ne_i, tru_b, tru_i, tru_n, as_b, tru_l, tru_t, if_true, if_false, this]
        rfl
      rw [seq_rt ((if_t ht).trans rfl), tie_len hl]
      rfl
  · have ht2 : tOrR (tNotR (tV (eB isiD (xCons (eVb 1) (xCons (eC (.ty "tuple")) xNil))))) (tB (e2 neD (eB lenD (xCons (eVb 1) xNil)) (eC (.int 2)))) [.fz (.int n), .fz d, .un] = .ok true := by
      simp (disch := omega) only [apC, apV, apVb, ap2, ap1, apB, apN, apX, aptB, aptV, apAnd, apOr, apNot, apeIf, apeAnd, apeOr, apeNot, apTup, apLst, apIt, apIts, apoN, apoS, apSl, ap3, apsN, apSeq, apSet, apOwn, apRet, apEx, apIf, apFrz, apT, apgN, List.getElem?_cons_succ, List.getElem?_cons_zero, List.set_cons_succ, List.set_cons_zero, apBV, max2_i, min2_i, bindO, fdiv_s, mod_i, mul_s, mul_s', isi_ii, isi_ib, isi_it, isi_tt, isi_ll, isi_bb, len_l, len_t, len_s, it_l, it_t, mkL0, mkL1, mkL2, mkL3, mkL4, mkL5, mkL6, mkL7, mkL8, mkT0, mkT1, mkT2, mkT3, mkT4, mkT5, mkT6, mkT7, mkT8, add_i, sub_i, lt_i, le_i, gt_i, ge_i, eq_i, ne_i, tru_b, tru_i, tru_n, as_b, tru_l, tru_t, if_true, if_false, isi_notup h (fun xs e => ht ⟨xs, e⟩)]
      rfl
    rw [seq_rt ((if_t ht2).trans rfl)]
    have : tieB n d = false := by
      cases d <;> first | rfl | exact absurd ⟨_, rfl⟩ ht
    rw [this]
    rfl
def tieD (p : Int × Int) : D := .tup [.int p.1, .int p.2]
def ltP (a b : Int × Int) : Bool := HT.lexLt [a.1, a.2] [b.1, b.2]
def risesB : List (Int × Int) → Bool
  | a :: b :: r => ltP a b && risesB (b :: r)
  | _ => true
theorem rises_range : ∀ ps : List (Int × Int), ((List.range (ps.length - 1)).map fun k => ltP (ps.getD k (0, 0)) (ps.getD (k + 1) (0, 0))).all id = risesB ps
  | [] => rfl
  | [a] => rfl
  | a :: b :: r => by
    have ih := rises_range (b :: r)
    rw [risesB, ← ih]
    show ((List.range ((b :: r).length - 1 + 1)).map _).all id = _
    rw [List.range_succ_eq_map, List.map_cons, List.all_cons, List.map_map]
    rfl
theorem lt_tt {p q : Int × Int} : ltD (tieD p) (tieD q) = .ok (.bl (ltP p q)) := rfl
theorem rises_ok {ps : List (Int × Int)} (hl : ps.length ≤ 2 ^ 20) : o_rises [.tup (ps.map tieD)] = .ok (.bl (risesB ps)) := by
  refine (runD_eq (by rfl)).trans ?_
  rw [show startF 2 [.tup (ps.map tieD)] = [.fz (.tup (ps.map tieD)), .un] from rfl]
  have hr : eIts rng1D (xCons (e2 subD (eB lenD (xCons (eVb 0) xNil)) (eC (.int 1))) xNil) [.fz (.tup (ps.map tieD)), .un] = .ok (intsD 0 (ps.length - 1)) := by
    have e : rng1D [.int ((ps.length : Int) - 1)] = .ok (intsD 0 (ps.length - 1)) := by
      rw [rng1D, if_pos ⟨by omega, by omega⟩]
      congr 1
      congr 1
      omega
    simp (disch := omega) only [apC, apV, apVb, ap2, ap1, apB, apN, apX, aptB, aptV, apAnd, apOr, apNot, apeIf, apeAnd, apeOr, apeNot, apTup, apLst, apIt, apIts, apoN, apoS, apSl, ap3, apsN, apSeq, apSet, apOwn, apRet, apEx, apIf, apFrz, apT, apgN, List.getElem?_cons_succ, List.getElem?_cons_zero, List.set_cons_succ, List.set_cons_zero, apBV, max2_i, min2_i, bindO, fdiv_s, mod_i, mul_s, mul_s', isi_ii, isi_ib, isi_it, isi_tt, isi_ll, isi_bb, len_l, len_t, len_s, it_l, it_t, mkL0, mkL1, mkL2, mkL3, mkL4, mkL5, mkL6, mkL7, mkL8, mkT0, mkT1, mkT2, mkT3, mkT4, mkT5, mkT6, mkT7, mkT8, add_i, sub_i, lt_i, le_i, gt_i, ge_i, eq_i, ne_i, tru_b, tru_i, tru_n, as_b, tru_l, tru_t, if_true, if_false, List.length_map, e]
  have hc : eLc [1] (eIts rng1D (xCons (e2 subD (eB lenD (xCons (eVb 0) xNil)) (eC (.int 1))) xNil)) (gN 1) tAll (e2 ltD (e2 ixD (eVb 0) (eVb 1)) (e2 ixD (eVb 0) (e2 addD (eVb 1) (eC (.int 1))))) [.fz (.tup (ps.map tieD)), .un] = .ok (.lst (((List.range (ps.length - 1)).map fun k => ltP (ps.getD k (0, 0)) (ps.getD (k + 1) (0, 0))).map D.bl)) := by
    refine (eLc_ok hr rfl (lc_map (fun d => match d with | .int i => .bl (ltP (ps.getD i.toNat (0, 0)) (ps.getD (i.toNat + 1) (0, 0))) | _ => .non) fun d hd => ?_)).trans ?_
    · obtain ⟨k, hk, rfl⟩ := List.mem_map.mp (show d ∈ (List.range (ps.length - 1)).map fun (i : Nat) => D.int (0 + i) from hd)
      have hk := List.mem_range.mp hk
      refine ⟨[.fz (.tup (ps.map tieD)), .fz (.int (0 + k))], rfl, ?_⟩
      rw [Int.zero_add]
      have i1 : ixD (.tup (ps.map tieD)) (.int (k : Int)) = .ok (tieD (ps.getD k (0, 0))) := by
        rw [ix_t (by rw [List.length_map]; omega), List.getElem_map, List.getD_eq_getElem?_getD, List.getElem?_eq_getElem (by omega)]
        rfl
      have i2 : ixD (.tup (ps.map tieD)) (.int ((k : Int) + 1)) = .ok (tieD (ps.getD (k + 1) (0, 0))) := by
        rw [show ((k : Int) + 1) = ((k + 1 : Nat) : Int) by omega, ix_t (by rw [List.length_map]; omega), List.getElem_map, List.getD_eq_getElem?_getD, List.getElem?_eq_getElem (by omega)]
        rfl
      simp (disch := omega) only [apC, apV, apVb, ap2, ap1, apB, apN, apX, aptB, aptV, apAnd, apOr, apNot, apeIf, apeAnd, apeOr, apeNot, apTup, apLst, apIt, apIts, apoN, apoS, apSl, ap3, apsN, apSeq, apSet, apOwn, apRet, apEx, apIf, apFrz, apT, apgN, List.getElem?_cons_succ, List.getElem?_cons_zero, List.set_cons_succ, List.set_cons_zero, apBV, max2_i, min2_i, bindO, fdiv_s, mod_i, mul_s, mul_s', isi_ii, isi_ib, isi_it, isi_tt, isi_ll, isi_bb, len_l, len_t, len_s, it_l, it_t, mkL0, mkL1, mkL2, mkL3, mkL4, mkL5, mkL6, mkL7, mkL8, mkT0, mkT1, mkT2, mkT3, mkT4, mkT5, mkT6, mkT7, mkT8, add_i, sub_i, lt_i, le_i, gt_i, ge_i, eq_i, ne_i, tru_b, tru_i, tru_n, as_b, tru_l, tru_t, if_true, if_false, i1, i2, lt_tt]
      rfl
    · congr 2
      unfold intsD
      rw [List.map_map, List.map_map]
      refine List.map_congr_left fun k _ => ?_
      show D.bl (ltP (ps.getD (0 + (k : Int)).toNat (0, 0)) (ps.getD ((0 + (k : Int)).toNat + 1) (0, 0))) = _
      rw [Int.zero_add, Int.toNat_natCast]
      rfl
  have ha := all_ok (bs := (List.range (ps.length - 1)).map fun k => ltP (ps.getD k (0, 0)) (ps.getD (k + 1) (0, 0)))
  rw [rises_range] at ha
  simp (disch := omega) only [apC, apV, apVb, ap2, ap1, apB, apN, apX, aptB, aptV, apAnd, apOr, apNot, apeIf, apeAnd, apeOr, apeNot, apTup, apLst, apIt, apIts, apoN, apoS, apSl, ap3, apsN, apSeq, apSet, apOwn, apRet, apEx, apIf, apFrz, apT, apgN, List.getElem?_cons_succ, List.getElem?_cons_zero, List.set_cons_succ, List.set_cons_zero, apBV, max2_i, min2_i, bindO, fdiv_s, mod_i, mul_s, mul_s', isi_ii, isi_ib, isi_it, isi_tt, isi_ll, isi_bb, len_l, len_t, len_s, it_l, it_t, mkL0, mkL1, mkL2, mkL3, mkL4, mkL5, mkL6, mkL7, mkL8, mkT0, mkT1, mkT2, mkT3, mkT4, mkT5, mkT6, mkT7, mkT8, add_i, sub_i, lt_i, le_i, gt_i, ge_i, eq_i, ne_i, tru_b, tru_i, tru_n, as_b, tru_l, tru_t, if_true, if_false, hc, ha]
  rfl
def pairD : D → Int × Int
  | .tup [.int a, .int b] => (a, b)
  | _ => (0, 0)
theorem tieB_tie {n : Int} {d : D} (h : tieB n d = true) : d = tieD (pairD d) ∧ 0 ≤ (pairD d).1 ∧ (pairD d).1 < (pairD d).2 ∧ (pairD d).2 < n := by
  unfold tieB at h
  split at h
  · rename_i a b
    simp only [Bool.and_eq_true, decide_eq_true_eq] at h
    exact ⟨rfl, h.1.1.1, h.2, h.1.2.2⟩
  · cases h
theorem ties_all {n : Int} : ∀ {ts : List D}, ts.all (tieB n) = true → ts = (ts.map pairD).map tieD
  | [], _ => rfl
  | t :: ts, h => by
    rw [List.all_cons, Bool.and_eq_true] at h
    rw [List.map_cons, List.map_cons, ← ties_all h.2, ← (tieB_tie h.1).1]
def webB : D → Bool
  | .tup [.int n, .tup ts] => decide (1 ≤ n) && decide (n < 41) && ts.all (tieB n) && risesB (ts.map pairD)
  | _ => false
/-- what is_web may be asked of -/
structure Tame (d : D) : Prop where
  ty : Ty d
  it : ∀ xs, d = .tup xs → ∀ x ∈ xs, Ty x
  tt : ∀ xs ts, d = .tup xs → .tup ts ∈ xs → ts.length ≤ 2 ^ 20 ∧ ∀ t ∈ ts, Ty t ∧ ∀ us, t = .tup us → ∀ u ∈ us, Ty u
theorem lc_ties {n : Int} {c : Sl} {x : D} : ∀ {ts : List D}, (∀ t ∈ ts, Ty t ∧ ∀ us, t = .tup us → ∀ u ∈ us, Ty u) → lcD (gN 1) tAll (eB o_is_tie (xCons (e2 ixD (eVb 0) (eC (.int 0))) (xCons (eV 1) xNil))) [.fz (.tup [.int n, x]), .un] ts = .ok ((ts.map (tieB n)).map D.bl) := fun {ts} h => by
  rw [lc_map (fun d => .bl (tieB n d)) fun d hd => ?_, List.map_map]
  · rfl
  · refine ⟨_, rfl, ?_⟩
    have i0 : ixD (.tup [.int n, x]) (.int 0) = .ok (.int n) := rfl
    have t := tie_ok (n := n) (h d hd).1 (h d hd).2
    simp (disch := omega) only [apC, apV, apVb, ap2, ap1, apB, apN, apX, aptB, aptV, apAnd, apOr, apNot, apeIf, apeAnd, apeOr, apeNot, apTup, apLst, apIt, apIts, apoN, apoS, apSl, ap3, apsN, apSeq, apSet, apOwn, apRet, apEx, apIf, apFrz, apT, apgN, List.getElem?_cons_succ, List.getElem?_cons_zero, List.set_cons_succ, List.set_cons_zero, apBV, max2_i, min2_i, bindO, fdiv_s, mod_i, mul_s, mul_s', isi_ii, isi_ib, isi_it, isi_tt, isi_ll, isi_bb, len_l, len_t, len_s, it_l, it_t, mkL0, mkL1, mkL2, mkL3, mkL4, mkL5, mkL6, mkL7, mkL8, mkT0, mkT1, mkT2, mkT3, mkT4, mkT5, mkT6, mkT7, mkT8, add_i, sub_i, lt_i, le_i, gt_i, ge_i, eq_i, ne_i, tru_b, tru_i, tru_n, as_b, tru_l, tru_t, if_true, if_false, i0, t]
theorem web_ok {d : D} (h : Tame d) : o_is_web [d] = .ok (.bl (webB d)) := by
  refine (runD_eq (by rfl)).trans ?_
  rw [show startF 2 [d] = [.fz d, .un] from rfl]
  have T1 : ∀ c : Bool, tOrR (tNotR (tV (eB isiD (xCons (eVb 0) (xCons (eC (.ty "tuple")) xNil))))) (tOrR (tB (e2 neD (eB lenD (xCons (eVb 0) xNil)) (eC (.int 2)))) (tNotR (tV (eB o_is_number (xCons (e2 ixD (eVb 0) (eC (.int 0))) (xCons (eC (.int 1)) (xCons (e2 addD (eC (.int 40)) (eC (.int 1))) xNil))))))) [.fz d, .un] = .ok true → webB d = false → endO (sSeq (sIf (tOrR (tNotR (tV (eB isiD (xCons (eVb 0) (xCons (eC (.ty "tuple")) xNil))))) (tOrR (tB (e2 neD (eB lenD (xCons (eVb 0) xNil)) (eC (.int 2)))) (tNotR (tV (eB o_is_number (xCons (e2 ixD (eVb 0) (eC (.int 0))) (xCons (eC (.int 1)) (xCons (e2 addD (eC (.int 40)) (eC (.int 1))) xNil)))))))) (sRet (eC (.bl false))) sNil)
    (sSeq (sIf (tOrR (tNotR (tV (eB isiD (xCons (e2 ixD (eVb 0) (eC (.int 1))) (xCons (eC (.ty "tuple")) xNil))))) (tNotR (tV (eB allD (xCons (eLc [1] (eIt (e2 ixD (eVb 0) (eC (.int 1)))) (gN 1) tAll (eB o_is_tie (xCons (e2 ixD (eVb 0) (eC (.int 0))) (xCons (eV 1) xNil)))) xNil))))) (sRet (eC (.bl false))) sNil)
    (sRet (eB o_rises (xCons (e2 ixD (eVb 0) (eC (.int 1))) xNil)))) [.fz d, .un]) = .ok (.bl (webB d)) := fun _ e w => by
    rw [seq_rt ((if_t e).trans rfl), w]
    rfl
  by_cases ht : ∃ xs, d = .tup xs
  · obtain ⟨xs, rfl⟩ := ht
    by_cases hl : xs.length = 2
    · obtain ⟨x, y, rfl⟩ : ∃ x y, xs = [x, y] := by
        match xs, hl with
        | [x, y], _ => exact ⟨x, y, rfl⟩
      have hx := h.it _ rfl x List.mem_cons_self
      have hy := h.it _ rfl y (List.mem_cons_of_mem _ List.mem_cons_self)
      have i0 : ixD (.tup [x, y]) (.int 0) = .ok x := rfl
      have i1 : ixD (.tup [x, y]) (.int 1) = .ok y := rfl
      have l2 : neD (.int ([x, y].length : Nat)) (.int 2) = .ok (.bl false) := rfl
      cases hb : numB 1 (40 + 1) x with
      | false =>
        refine T1 true ?_ ?_
        · simp (disch := omega) only [apC, apV, apVb, ap2, ap1, apB, apN, apX, aptB, aptV, apAnd, apOr, apNot, apeIf, apeAnd, apeOr, apeNot, apTup, apLst, apIt, apIts, apoN, apoS, apSl, ap3, apsN, apSeq, apSet, apOwn, apRet, apEx, apIf, apFrz, apT, apgN, List.getElem?_cons_succ, List.getElem?_cons_zero, List.set_cons_succ, List.set_cons_zero, apBV, max2_i, min2_i, bindO, fdiv_s, mod_i, mul_s, mul_s', isi_ii, isi_ib, isi_it, isi_tt, isi_ll, isi_bb, len_l, len_t, len_s, it_l, it_t, mkL0, mkL1, mkL2, mkL3, mkL4, mkL5, mkL6, mkL7, mkL8, mkT0, mkT1, mkT2, mkT3, mkT4, mkT5, mkT6, mkT7, mkT8, add_i, sub_i, lt_i, le_i, gt_i, ge_i, eq_i, ne_i, tru_b, tru_i, tru_n, as_b, tru_l, tru_t, if_true, if_false, i0, l2, num_ok hx, hb, Bool.not_true, Bool.not_false, Bool.false_eq_true]
        · cases x <;> first | rfl | skip
          case int n =>
            have hb : (decide (1 ≤ n) && decide (n < 41)) = false := hb
            cases y <;> first | rfl | skip
            show (decide (1 ≤ n) && decide (n < 41) && _ && _) = false
            rw [hb]
            rfl
      | true =>
        obtain ⟨n, rfl, n1, n2⟩ := numB_int hb
        have t1 : tOrR (tNotR (tV (eB isiD (xCons (eVb 0) (xCons (eC (.ty "tuple")) xNil))))) (tOrR (tB (e2 neD (eB lenD (xCons (eVb 0) xNil)) (eC (.int 2)))) (tNotR (tV (eB o_is_number (xCons (e2 ixD (eVb 0) (eC (.int 0))) (xCons (eC (.int 1)) (xCons (e2 addD (eC (.int 40)) (eC (.int 1))) xNil))))))) [.fz (.tup [.int n, y]), .un] = .ok false := by
          simp (disch := omega) only [apC, apV, apVb, ap2, ap1, apB, apN, apX, aptB, aptV, apAnd, apOr, apNot, apeIf, apeAnd, apeOr, apeNot, apTup, apLst, apIt, apIts, apoN, apoS, apSl, ap3, apsN, apSeq, apSet, apOwn, apRet, apEx, apIf, apFrz, apT, apgN, List.getElem?_cons_succ, List.getElem?_cons_zero, List.set_cons_succ, List.set_cons_zero, apBV, max2_i, min2_i, bindO, fdiv_s, mod_i, mul_s, mul_s', isi_ii, isi_ib, isi_it, isi_tt, isi_ll, isi_bb, len_l, len_t, len_s, it_l, it_t, mkL0, mkL1, mkL2, mkL3, mkL4, mkL5, mkL6, mkL7, mkL8, mkT0, mkT1, mkT2, mkT3, mkT4, mkT5, mkT6, mkT7, mkT8, add_i, sub_i, lt_i, le_i, gt_i, ge_i, eq_i, ne_i, tru_b, tru_i, tru_n, as_b, tru_l, tru_t, if_true, if_false, i0, l2, num_ok hx, hb, Bool.not_true, Bool.not_false, Bool.false_eq_true]
        rw [seq_nx ((if_f (h := sNil) t1).trans rfl)]
        by_cases hty : ∃ ts, y = .tup ts
        · obtain ⟨ts, rfl⟩ := hty
          obtain ⟨hl, hts⟩ := h.tt _ ts rfl (List.mem_cons_of_mem _ List.mem_cons_self)
          have hc : eLc [1] (eIt (e2 ixD (eVb 0) (eC (.int 1)))) (gN 1) tAll (eB o_is_tie (xCons (e2 ixD (eVb 0) (eC (.int 0))) (xCons (eV 1) xNil))) [.fz (.tup [.int n, .tup ts]), .un] = .ok (.lst ((ts.map (tieB n)).map D.bl)) := eLc_ok (ds := ts) rfl rfl (lc_ties (c := .un) hts)
          have ha := all_ok (bs := ts.map (tieB n))
          have hall : (ts.map (tieB n)).all id = ts.all (tieB n) := by rw [List.all_map]; rfl
          rw [hall] at ha
          have hw : webB (.tup [.int n, .tup ts]) = (ts.all (tieB n) && risesB (ts.map pairD)) := by
            show (decide (1 ≤ n) && decide (n < 41) && _ && _) = _
            rw [decide_eq_true n1, decide_eq_true (show n < 41 by omega)]
            rfl
          cases hA : ts.all (tieB n) with
          | false =>
            have t2 : tOrR (tNotR (tV (eB isiD (xCons (e2 ixD (eVb 0) (eC (.int 1))) (xCons (eC (.ty "tuple")) xNil))))) (tNotR (tV (eB allD (xCons (eLc [1] (eIt (e2 ixD (eVb 0) (eC (.int 1)))) (gN 1) tAll (eB o_is_tie (xCons (e2 ixD (eVb 0) (eC (.int 0))) (xCons (eV 1) xNil)))) xNil)))) [.fz (.tup [.int n, .tup ts]), .un] = .ok true := by
              simp (disch := omega) only [apC, apV, apVb, ap2, ap1, apB, apN, apX, aptB, aptV, apAnd, apOr, apNot, apeIf, apeAnd, apeOr, apeNot, apTup, apLst, apIt, apIts, apoN, apoS, apSl, ap3, apsN, apSeq, apSet, apOwn, apRet, apEx, apIf, apFrz, apT, apgN, List.getElem?_cons_succ, List.getElem?_cons_zero, List.set_cons_succ, List.set_cons_zero, apBV, max2_i, min2_i, bindO, fdiv_s, mod_i, mul_s, mul_s', isi_ii, isi_ib, isi_it, isi_tt, isi_ll, isi_bb, len_l, len_t, len_s, it_l, it_t, mkL0, mkL1, mkL2, mkL3, mkL4, mkL5, mkL6, mkL7, mkL8, mkT0, mkT1, mkT2, mkT3, mkT4, mkT5, mkT6, mkT7, mkT8, add_i, sub_i, lt_i, le_i, gt_i, ge_i, eq_i, ne_i, tru_b, tru_i, tru_n, as_b, tru_l, tru_t, if_true, if_false, i1, hc, ha, hA, Bool.not_true, Bool.not_false, Bool.false_eq_true]
            rw [seq_rt ((if_t t2).trans rfl), hw, hA]
            rfl
          | true =>
            have t2 : tOrR (tNotR (tV (eB isiD (xCons (e2 ixD (eVb 0) (eC (.int 1))) (xCons (eC (.ty "tuple")) xNil))))) (tNotR (tV (eB allD (xCons (eLc [1] (eIt (e2 ixD (eVb 0) (eC (.int 1)))) (gN 1) tAll (eB o_is_tie (xCons (e2 ixD (eVb 0) (eC (.int 0))) (xCons (eV 1) xNil)))) xNil)))) [.fz (.tup [.int n, .tup ts]), .un] = .ok false := by
              simp (disch := omega) only [apC, apV, apVb, ap2, ap1, apB, apN, apX, aptB, aptV, apAnd, apOr, apNot, apeIf, apeAnd, apeOr, apeNot, apTup, apLst, apIt, apIts, apoN, apoS, apSl, ap3, apsN, apSeq, apSet, apOwn, apRet, apEx, apIf, apFrz, apT, apgN, List.getElem?_cons_succ, List.getElem?_cons_zero, List.set_cons_succ, List.set_cons_zero, apBV, max2_i, min2_i, bindO, fdiv_s, mod_i, mul_s, mul_s', isi_ii, isi_ib, isi_it, isi_tt, isi_ll, isi_bb, len_l, len_t, len_s, it_l, it_t, mkL0, mkL1, mkL2, mkL3, mkL4, mkL5, mkL6, mkL7, mkL8, mkT0, mkT1, mkT2, mkT3, mkT4, mkT5, mkT6, mkT7, mkT8, add_i, sub_i, lt_i, le_i, gt_i, ge_i, eq_i, ne_i, tru_b, tru_i, tru_n, as_b, tru_l, tru_t, if_true, if_false, i1, hc, ha, hA, Bool.not_true, Bool.not_false, Bool.false_eq_true]
            rw [seq_nx ((if_f (h := sNil) t2).trans rfl), hw, hA]
            have r := rises_ok (ps := ts.map pairD) (by rw [List.length_map]; exact hl)
            rw [← ties_all hA] at r
            simp (disch := omega) only [apC, apV, apVb, ap2, ap1, apB, apN, apX, aptB, aptV, apAnd, apOr, apNot, apeIf, apeAnd, apeOr, apeNot, apTup, apLst, apIt, apIts, apoN, apoS, apSl, ap3, apsN, apSeq, apSet, apOwn, apRet, apEx, apIf, apFrz, apT, apgN, List.getElem?_cons_succ, List.getElem?_cons_zero, List.set_cons_succ, List.set_cons_zero, apBV, max2_i, min2_i, bindO, fdiv_s, mod_i, mul_s, mul_s', isi_ii, isi_ib, isi_it, isi_tt, isi_ll, isi_bb, len_l, len_t, len_s, it_l, it_t, mkL0, mkL1, mkL2, mkL3, mkL4, mkL5, mkL6, mkL7, mkL8, mkT0, mkT1, mkT2, mkT3, mkT4, mkT5, mkT6, mkT7, mkT8, add_i, sub_i, lt_i, le_i, gt_i, ge_i, eq_i, ne_i, tru_b, tru_i, tru_n, as_b, tru_l, tru_t, if_true, if_false, i1, r]
            rfl
        · have t2 : tOrR (tNotR (tV (eB isiD (xCons (e2 ixD (eVb 0) (eC (.int 1))) (xCons (eC (.ty "tuple")) xNil))))) (tNotR (tV (eB allD (xCons (eLc [1] (eIt (e2 ixD (eVb 0) (eC (.int 1)))) (gN 1) tAll (eB o_is_tie (xCons (e2 ixD (eVb 0) (eC (.int 0))) (xCons (eV 1) xNil)))) xNil)))) [.fz (.tup [.int n, y]), .un] = .ok true := by
            simp (disch := omega) only [apC, apV, apVb, ap2, ap1, apB, apN, apX, aptB, aptV, apAnd, apOr, apNot, apeIf, apeAnd, apeOr, apeNot, apTup, apLst, apIt, apIts, apoN, apoS, apSl, ap3, apsN, apSeq, apSet, apOwn, apRet, apEx, apIf, apFrz, apT, apgN, List.getElem?_cons_succ, List.getElem?_cons_zero, List.set_cons_succ, List.set_cons_zero, apBV, max2_i, min2_i, bindO, fdiv_s, mod_i, mul_s, mul_s', isi_ii, isi_ib, isi_it, isi_tt, isi_ll, isi_bb, len_l, len_t, len_s, it_l, it_t, mkL0, mkL1, mkL2, mkL3, mkL4, mkL5, mkL6, mkL7, mkL8, mkT0, mkT1, mkT2, mkT3, mkT4, mkT5, mkT6, mkT7, mkT8, add_i, sub_i, lt_i, le_i, gt_i, ge_i, eq_i, ne_i, tru_b, tru_i, tru_n, as_b, tru_l, tru_t, if_true, if_false, i1, isi_notup hy (fun ts e => hty ⟨ts, e⟩), Bool.not_false]
          rw [seq_rt ((if_t t2).trans rfl)]
          have : webB (.tup [.int n, y]) = false := by
            cases y <;> first | rfl | exact absurd ⟨_, rfl⟩ hty
          rw [this]
          rfl
    · refine T1 true ?_ ?_
      · have : ((xs.length : Int) == 2) = false := beq_eq_false_iff_ne.mpr (by omega)
        simp (disch := omega) only [apC, apV, apVb, ap2, ap1, apB, apN, apX, aptB, aptV, apAnd, apOr, apNot, apeIf, apeAnd, apeOr, apeNot, apTup, apLst, apIt, apIts, apoN, apoS, apSl, ap3, apsN, apSeq, apSet, apOwn, apRet, apEx, apIf, apFrz, apT, apgN, List.getElem?_cons_succ, List.getElem?_cons_zero, List.set_cons_succ, List.set_cons_zero, apBV, max2_i, min2_i, bindO, fdiv_s, mod_i, mul_s, mul_s', isi_ii, isi_ib, isi_it, isi_tt, isi_ll, isi_bb, len_l, len_t, len_s, it_l, it_t, mkL0, mkL1, mkL2, mkL3, mkL4, mkL5, mkL6, mkL7, mkL8, mkT0, mkT1, mkT2, mkT3, mkT4, mkT5, mkT6, mkT7, mkT8, add_i, sub_i, lt_i, le_i, gt_i, ge_i, eq_i, ne_i, tru_b, tru_i, tru_n, as_b, tru_l, tru_t, if_true, if_false, this, Bool.not_false, Bool.not_true, Bool.false_eq_true]
      · match xs, hl with
        | [], _ => rfl
        | [a], _ => cases a <;> rfl
        | [_, _], h => exact absurd rfl h
        | a :: b :: _ :: _, _ => cases a <;> cases b <;> rfl
  · refine T1 true ?_ ?_
    · simp (disch := omega) only [apC, apV, apVb, ap2, ap1, apB, apN, apX, aptB, aptV, apAnd, apOr, apNot, apeIf, apeAnd, apeOr, apeNot, apTup, apLst, apIt, apIts, apoN, apoS, apSl, ap3, apsN, apSeq, apSet, apOwn, apRet, apEx, apIf, apFrz, apT, apgN, List.getElem?_cons_succ, List.getElem?_cons_zero, List.set_cons_succ, List.set_cons_zero, apBV, max2_i, min2_i, bindO, fdiv_s, mod_i, mul_s, mul_s', isi_ii, isi_ib, isi_it, isi_tt, isi_ll, isi_bb, len_l, len_t, len_s, it_l, it_t, mkL0, mkL1, mkL2, mkL3, mkL4, mkL5, mkL6, mkL7, mkL8, mkT0, mkT1, mkT2, mkT3, mkT4, mkT5, mkT6, mkT7, mkT8, add_i, sub_i, lt_i, le_i, gt_i, ge_i, eq_i, ne_i, tru_b, tru_i, tru_n, as_b, tru_l, tru_t, if_true, if_false, isi_notup h.ty (fun xs e => ht ⟨xs, e⟩), Bool.not_false]
    · cases d <;> first | rfl | exact absurd ⟨_, rfl⟩ ht
end PB

namespace PB
open PySem PySem.Spec PyProof.Rows L2 LamX
/-! ### PB16: what many laws share (out of k01's plain law) -/
theorem pair_lt (p q : Int × Int) : leTI [p.1, p.2] [q.1, q.2] = !ltP q p := by
  unfold leTI ltP
  rw [HT.lexLt_cons, HT.lexLt_cons, HT.lexLt_nil_nil]
  show Ob.lexAt _ _ _ 0 2 = _
  rw [Ob.lexAt_succ, Ob.lexAt_succ, Ob.lexAt_zero]
  show (if decide (p.1 = q.1) = true then (if decide (p.2 = q.2) = true then true else decide (p.2 ≤ q.2)) else decide (p.1 ≤ q.1)) = _
  by_cases h1 : p.1 = q.1
  · rw [if_pos (decide_eq_true h1), if_pos h1.symm]
    by_cases h2 : p.2 = q.2
    · rw [if_pos (decide_eq_true h2), if_pos h2.symm]
      rfl
    · rw [if_neg (by rw [decide_eq_true_eq]; exact h2), if_neg (fun e => h2 e.symm)]
      rw [Bool.eq_iff_iff, decide_eq_true_eq, Bool.not_eq_true', decide_eq_false_iff_not]
      omega
  · rw [if_neg (by rw [decide_eq_true_eq]; exact h1), if_neg (fun e => h1 e.symm)]
    rw [Bool.eq_iff_iff, decide_eq_true_eq, Bool.not_eq_true', decide_eq_false_iff_not]
    omega
theorem le_tieD (p q : Int × Int) : leD (tieD p) (tieD q) = .ok (.bl (!ltP q p)) := by
  rw [← pair_lt]
  rfl
theorem app_ok {i : Nat} {f : Fr → R D} {ρ : Fr} {xs : List D} {x : D} (h1 : ρ[i]? = some (.ow (.lst xs))) (h2 : f ρ = .ok x) (hl : xs.length < 2 ^ 20) : sApp i f ρ = .nx (ρ.set i (.ow (.lst (xs ++ [x])))) := by
  have g : getL i ρ = .ok xs := by unfold getL; rw [h1]
  unfold sApp
  rw [sLet_ok g, sLet_ok h2]
  exact if_pos (Nat.lt_of_lt_of_le hl (Nat.le_trans (by decide) szl))
def TL (t : D) : Prop := Ty t ∧ ∀ us, t = .tup us → ∀ u ∈ us, Ty u
def Part (x : D) : Prop := Ty x ∧ ∀ ts, x = .tup ts → ts.length ≤ 2 ^ 20 ∧ ∀ t ∈ ts, TL t
theorem ty_i {i : Int} : Ty (.int i) := fun h => by cases h
theorem ty_b {i : Bool} : Ty (.bl i) := fun h => by cases h
theorem ty_n : Ty .non := fun h => by cases h
theorem ty_s {x : Str} : Ty (.str x) := fun h => by cases h
theorem ty_l {x : List D} : Ty (.lst x) := fun h => by cases h
theorem ty_t {x : List D} : Ty (.tup x) := fun h => by cases h
theorem ty_k {x : _} : Ty (.dk x) := fun h => by cases h
theorem tl_of {d : D} (h : Ty d) (n : ∀ xs, d ≠ .tup xs) : TL d := ⟨h, fun us e => absurd e (n us)⟩
theorem tl_t {xs : List D} (h : ∀ x ∈ xs, Ty x) : TL (.tup xs) := ⟨ty_t, fun us e => by cases e; exact h⟩
theorem part_of {d : D} (h : Ty d) (n : ∀ xs, d ≠ .tup xs) : Part d := ⟨h, fun us e => absurd e (n us)⟩
theorem part_i {i : Int} : Part (.int i) := part_of ty_i fun _ e => by cases e
theorem part_t {ts : List D} (hl : ts.length ≤ 2 ^ 20) (h : ∀ t ∈ ts, TL t) : Part (.tup ts) := ⟨ty_t, fun us e => by cases e; exact ⟨hl, h⟩⟩
theorem tame_t {xs : List D} (h : ∀ x ∈ xs, Part x) : Tame (.tup xs) := ⟨ty_t, fun us e => by cases e; exact fun x hx => (h x hx).1, fun us ts e hm => by
  cases e
  exact (h _ hm).2 ts rfl⟩
theorem tame_of {d : D} (h : Ty d) (n : ∀ xs, d ≠ .tup xs) : Tame d := ⟨h, fun us e => absurd e (n us), fun us _ e => absurd e (n us)⟩
theorem tame_2 {x y : D} (h1 : Part x) (h2 : Part y) : Tame (.tup [x, y]) := tame_t fun z hz => by
  rcases List.mem_cons.mp hz with rfl | hz
  · exact h1
  · rw [List.mem_singleton.mp hz]; exact h2
theorem tl_tie (p : Int × Int) : TL (tieD p) := tl_t fun x hx => by
  rcases List.mem_cons.mp hx with rfl | hx
  · exact ty_i
  · rw [List.mem_singleton.mp hx]; exact ty_i
theorem tl_ties {ps : List (Int × Int)} : ∀ t ∈ ps.map tieD, TL t := fun t ht => by
  obtain ⟨p, _, rfl⟩ := List.mem_map.mp ht
  exact tl_tie p
theorem mkL9 {a b c d e f g h i : D} : mkLst [a, b, c, d, e, f, g, h, i] = .ok (.lst [a, b, c, d, e, f, g, h, i]) := if_pos (show 9 ≤ sizeLine by decide)
theorem mkL10 {a b c d e f g h i j : D} : mkLst [a, b, c, d, e, f, g, h, i, j] = .ok (.lst [a, b, c, d, e, f, g, h, i, j]) := if_pos (show 10 ≤ sizeLine by decide)
theorem cat_l {xs ys : List D} (h : xs.length + ys.length ≤ 2 ^ 21) : catND (.lst xs) (.lst ys) = .ok (.lst (xs ++ ys)) := if_pos (Nat.le_trans h szl)
theorem mem_all {P : D → Prop} {xs : List D} {i : Nat} (h : ∀ x ∈ xs, P x) (hi : i < xs.length) : P xs[i] := h _ (List.getElem_mem hi)
noncomputable def o_cell_at : List D → R D := runD 2 2
  (sSeq (sIf (tB (e2 ltD (eVb 1) (eB lenD (xCons (eVb 0) xNil)))) (sRet (e2 ixD (eVb 0) (eVb 1))) sNil)
    (sRet (eC (.int 0))))
theorem cell_eq (ns : List Int) (k : Nat) : ∃ c : Int, o_cell_at [.scr ns, .int k] = .ok (.int c) := by
  have e : o_cell_at [.scr ns, .int k] = endO (sSeq (sIf (tB (e2 ltD (eVb 1) (eB lenD (xCons (eVb 0) xNil)))) (sRet (e2 ixD (eVb 0) (eVb 1))) sNil) (sRet (eC (.int 0))) [.fz (.scr ns), .fz (.int k)]) := runD_eq (by rfl)
  rw [e]
  have t : tB (e2 ltD (eVb 1) (eB lenD (xCons (eVb 0) xNil))) [.fz (.scr ns), .fz (.int k)] = .ok (decide ((k : Int) < ns.length)) := by
    simp (disch := omega) only [apC, apV, apVb, ap2, ap1, apB, apN, apX, aptB, aptV, apAnd, apOr, apNot, apeIf, apeAnd, apeOr, apeNot, apTup, apLst, apIt, apIts, apoN, apoS, apSl, ap3, apsN, apSeq, apSet, apOwn, apRet, apEx, apIf, apFrz, apT, apgN, List.getElem?_cons_succ, List.getElem?_cons_zero, List.set_cons_succ, List.set_cons_zero, apBV, max2_i, min2_i, bindO, fdiv_s, mod_i, mul_s, mul_s', isi_ii, isi_ib, isi_it, isi_tt, isi_ll, isi_bb, len_l, len_t, len_s, it_l, it_t, mkL0, mkL1, mkL2, mkL3, mkL4, mkL5, mkL6, mkL7, mkL8, mkT0, mkT1, mkT2, mkT3, mkT4, mkT5, mkT6, mkT7, mkT8, add_i, sub_i, lt_i, le_i, gt_i, ge_i, eq_i, ne_i, tru_b, tru_i, tru_n, as_b, tru_l, tru_t, if_true, if_false]
  by_cases h : (k : Int) < ns.length
  · rw [decide_eq_true h] at t
    have i : ixD (.scr ns) (.int k) = .ok (.int ns[k]) := by
      show (match atD ns (k : Int) with | some n => R.ok (D.int n) | none => R.stuck) = _
      rw [atD_nat (by omega)]
    have r : sRet (e2 ixD (eVb 0) (eVb 1)) [.fz (.scr ns), .fz (.int k)] = .rt (.int ns[k]) := by
      simp (disch := omega) only [apC, apV, apVb, ap2, ap1, apB, apN, apX, aptB, aptV, apAnd, apOr, apNot, apeIf, apeAnd, apeOr, apeNot, apTup, apLst, apIt, apIts, apoN, apoS, apSl, ap3, apsN, apSeq, apSet, apOwn, apRet, apEx, apIf, apFrz, apT, apgN, List.getElem?_cons_succ, List.getElem?_cons_zero, List.set_cons_succ, List.set_cons_zero, apBV, max2_i, min2_i, bindO, fdiv_s, mod_i, mul_s, mul_s', isi_ii, isi_ib, isi_it, isi_tt, isi_ll, isi_bb, len_l, len_t, len_s, it_l, it_t, mkL0, mkL1, mkL2, mkL3, mkL4, mkL5, mkL6, mkL7, mkL8, mkT0, mkT1, mkT2, mkT3, mkT4, mkT5, mkT6, mkT7, mkT8, add_i, sub_i, lt_i, le_i, gt_i, ge_i, eq_i, ne_i, tru_b, tru_i, tru_n, as_b, tru_l, tru_t, if_true, if_false, i]
    exact ⟨ns[k], by rw [seq_rt ((if_t t).trans r)]; rfl⟩
  · rw [decide_eq_false h] at t
    exact ⟨0, by rw [seq_nx ((if_f (h := sNil) t).trans rfl)]; rfl⟩
theorem lc_ex {g : D → Fr → R Fr} {f : Fr → R D} {ρ : Fr} (P : D → Prop) : ∀ {ds : List D}, (∀ d ∈ ds, ∃ ρ1 x, g d ρ = .ok ρ1 ∧ f ρ1 = .ok x ∧ P x) → ∃ xs, lcD g tAll f ρ ds = .ok xs ∧ (∀ x ∈ xs, P x) ∧ xs.length = ds.length
  | [], _ => ⟨[], rfl, fun x hx => (by cases hx), rfl⟩
  | d :: ds, h => by
    obtain ⟨ρ1, x, e1, e2, p⟩ := h d List.mem_cons_self
    obtain ⟨xs, e3, q, l⟩ := lc_ex P fun y hy => h y (List.mem_cons_of_mem _ hy)
    refine ⟨x :: xs, ?_, fun y hy => ?_, by rw [List.length_cons, l, List.length_cons]⟩
    · unfold lcD
      rw [e1]
      simp only []
      unfold tAll
      simp only []
      rw [e2]
      unfold tAll at e3
      rw [e3]
      rfl
    · rcases List.mem_cons.mp hy with rfl | hy
      · exact p
      · exact q y hy
theorem cut_len {xs : List D} {lo hi : Option Int} : (cutD xs lo hi).length ≤ xs.length := by
  unfold cutD
  rw [List.length_take, List.length_drop]
  omega
theorem cut_mem {xs : List D} {lo hi : Option Int} {x : D} (h : x ∈ cutD xs lo hi) : x ∈ xs := List.mem_of_mem_drop (List.mem_of_mem_take h)
theorem ne_b (b : Bool) : neD (.bl b) (.bl b) = .ok (.bl false) := by cases b <;> rfl
end PB

namespace PB
open PySem PySem.Spec PyProof.Rows L2 LamX
/-! ### PB17: d.get(k, e) -/
def dictB : D → R Unit
  | .dk _ => .ok ()
  | .dt _ => .ok ()
  | _ => .stuck
def getD2 (x y z : D) : R D := match x with
  | .dk es => match y.key with
    | some k => .ok ((valD es k).getD z)
    | none => .stuck
  | .dt es => match y.tkey with
    | some k => .ok ((valD es k).getD z)
    | none => .stuck
  | _ => .stuck
def eGet2 (f g h : Fr → R D) : Fr → R D := fun ρ => (f ρ).bind fun x => (dictB x).bind fun _ => (g ρ).bind fun y => (h ρ).bind fun z => getD2 x y z
theorem apGet2 {f g h : Fr → R D} {ρ : Fr} : eGet2 f g h ρ = (f ρ).bind fun x => (dictB x).bind fun _ => (g ρ).bind fun y => (h ρ).bind fun z => getD2 x y z := by unfold eGet2; rfl
section
variable {X : Cx} {T : List (Addr × Str)} {E : XK} {o a b : Expr} {f g h : Fr → R D} {apos cpos : Pos} {j : Nat}
theorem p_get2 (hr : Room j X.A) (ho : P X T E .b o f) (ha : P X T E .b a g) (hb : P X T E .f b h) (hbase : attributeBase o "get" X.env (eval o X.env) = eval o X.env := by rfl)
    (hfew : ((backTo cpos (starEach [a, b] X.env)).all (fun x => !x.1) && (backToKw cpos (keywordEach [] X.env)).all (fun x => x.1.isSome)
      && decide (([a, b] : List Expr).length + ([] : List Keyword).length + (if ([] : List Keyword).isEmpty then 0 else 1) < 30)) = true := by rfl)
    (hline : (apos.endLine == cpos.line) = true := by rfl) (htrees : backTo cpos (starEach [a, b] X.env) = [(false, eval a X.env), (false, eval b X.env)] := by rfl) :
    P X T E .f (.Call (.Attribute o "get" apos) [a, b] [] cpos) (eGet2 f g h) :=
  PE.mono (pe_dget2 (Room.u1 hr) ho ha hb ⟨hbase, hfew, hline, htrees⟩) fun σ H Q ⟨H0, F, ρ, fr, ou⟩ => ⟨H0, F, ρ, fr, ou.split.imp fun x F1 H1 e1 fr1 o1 v rv => by
    cases x <;> first | exact o1.elim | skip
    · rename_i es
      obtain ⟨p, kvs, rfl, h1, _⟩ := rv.dk fr1
      refine ⟨p, rfl, .inl ⟨kvs, h1⟩, H0, F1, ρ, fr1, Out.imp (Out.split (m := g ρ) o1) fun y F2 H2 e2 fr2 o2 w rw => ⟨H0, F2, ρ, fr2, o2.split.imp fun z F3 H3 e3 fr3 o3 u ru => ?_⟩⟩
      have o3 : Out (ct X T) E H0 F3 σ ρ (match y.key with | some k => R.ok ((valD es k).getD z) | none => .stuck) _ := o3
      cases hk : y.key with
      | none => rw [hk] at o3; exact o3.elim
      | some k =>
        rw [hk] at o3
        have o3 : Out (ct X T) E H0 F3 σ ρ (R.ok ((valD es k).getD z)) _ := o3
        obtain ⟨q, e, hh⟩ := dget_k fr3 ((rv.ext e2).ext e3) (rw.ext e3) hk
        cases e
        rcases hh with ⟨e1, gg⟩ | ⟨u', d, e1, gg, r⟩
        · rw [e1] at o3
          exact ⟨_, gg, o3.here fr3 rfl _ ru⟩
        · rw [e1] at o3
          exact ⟨_, gg, o3.here fr3 rfl _ r⟩
    · rename_i es
      obtain ⟨p, kvs, rfl, h1, _⟩ := rv.dt fr1
      refine ⟨p, rfl, .inr ⟨kvs, h1⟩, H0, F1, ρ, fr1, Out.imp (Out.split (m := g ρ) o1) fun y F2 H2 e2 fr2 o2 w rw => ⟨H0, F2, ρ, fr2, o2.split.imp fun z F3 H3 e3 fr3 o3 u ru => ?_⟩⟩
      have o3 : Out (ct X T) E H0 F3 σ ρ (match y.tkey with | some k => R.ok ((valD es k).getD z) | none => .stuck) _ := o3
      cases hk : y.tkey with
      | none => rw [hk] at o3; exact o3.elim
      | some k =>
        rw [hk] at o3
        have o3 : Out (ct X T) E H0 F3 σ ρ (R.ok ((valD es k).getD z)) _ := o3
        obtain ⟨q, e, hh⟩ := dget_t fr3 ((rv.ext e2).ext e3) (rw.ext e3) hk
        cases e
        rcases hh with ⟨e1, gg⟩ | ⟨u', d, e1, gg, r⟩
        · rw [e1] at o3
          exact ⟨_, gg, o3.here fr3 rfl _ ru⟩
        · rw [e1] at o3
          exact ⟨_, gg, o3.here fr3 rfl _ r⟩⟩
end
end PB

namespace PB
open PySem PySem.Spec PyProof.Rows L2 LamX
/-! ### PB18: {k: v}, {k: v, l: w} -/
theorem out_push {α : Type} {c : Ct} {E : XK} {H0 : Bs} {F : Hp} {σ : L2.St} {ρ : Fr} {p : Addr} {d : D} {m : R α} {k k' : α → Hp → Hp → Prop} (o : Out c E H0 F σ ρ m k) (i : ∀ a F' H', ExtN F F' → FR c (H0.push p d) F' H' σ ρ → k a F' H' → k' a F' H') : Out c E (H0.push p d) F σ ρ m k' := by
  cases m with
  | ok a => exact fun F' H' e fr => i a F' H' e fr (o F' H' e fr.pop.1)
  | err x => exact o
  | stuck => exact o
theorem own_nilK {c : Ct} {F : Hp} {o : Option HO} (h : Own c F o (.dk [])) : o = some (.dK []) := by
  cases o with
  | none => exact h.elim
  | some u =>
    cases u <;> first | exact h.elim | skip
    rename_i kvs
    have h : kvs.map (·.1) = ([] : List (Key × D)).map (·.1) ∧ _ := h
    have : kvs = [] := by simpa using h.1
    rw [this]
def mkD1 (k v : D) : R D := match k.key with
  | some a => .ok (.dk [(a, v)])
  | none => .stuck
def mkD2 (k v l w : D) : R D := match k.key, l.key with
  | some a, some b => .ok (.dk (putD [(a, v)] b w))
  | _, _ => .stuck
def eD1 (f g : Fr → R D) : Fr → R D := fun ρ => (f ρ).bind fun k => (g ρ).bind fun v => mkD1 k v
theorem apD1 {f g : Fr → R D} {ρ : Fr} : eD1 f g ρ = (f ρ).bind fun k => (g ρ).bind fun v => mkD1 k v := by unfold eD1; rfl
section
variable {X : Cx} {T : List (Addr × Str)} {E : XK} {a b : Expr} {f g : Fr → R D} {pos : Pos}
theorem p_d1 (ha : P X T E .f a f) (hb : P X T E .f b g) : P X T E .n (.Dict [some a] [b] pos) (eD1 f g) :=
  PE.mono (pe_disp (pps_cons ha hb pps_nil) rfl rfl (by simp) (show 1 ≤ 15 by decide)) fun σ H Q ⟨H0, F, ρ, fr, ou⟩ => fun p hp => by
    have fr0 := (fr.newO (o := .dK []) hp trivial).push (fr.newAt (o := .dK []) (d := .dk []) hp ⟨rfl, .nil⟩)
    refine ⟨H0.push p (.dk []), F, ρ, fr0, out_push (Out.split (m := f ρ) ou) fun x F1 H1 e1 fr1 o1 v rv => ⟨H0.push p (.dk []), F1, ρ, fr1, out_push (Out.split (m := g ρ) o1) fun y F2 H2 e2 fr2 o2 w rw => ?_⟩⟩
    have o2 : Out (ct X T) E H0 F2 σ ρ (mkD1 x y) _ := o2
    unfold mkD1 at o2
    cases hk : x.key with
    | none => rw [hk] at o2; exact o2.elim
    | some k =>
      rw [hk] at o2
      have o2 : Out (ct X T) E H0 F2 σ ρ (R.ok (D.dk [(k, y)])) _ := o2
      obtain ⟨fr3, n3⟩ := fr2.pop
      have hv := rep_key fr3 (.inl (Rep.ext e2 rv)) hk
      have hpp : H2 p = some (.dK []) := own_nilK n3.2.1
      refine ⟨hpp, [(k, w)], by rw [hv]; rfl, (show 1 ≤ 15 by decide), ?_⟩
      have fr4 := fr2.mutE (o := .dK [(k, w)]) (d' := .dk [(k, y)]) ⟨rfl, .cons rw .nil⟩
      obtain ⟨fr5, n5⟩ := fr4.pop
      exact o2 F2 _ (.refl F2) fr5 _ ⟨p, rfl, n5⟩
def eD2 (f g h i : Fr → R D) : Fr → R D := fun ρ => (f ρ).bind fun k => (g ρ).bind fun v => (h ρ).bind fun l => (i ρ).bind fun w => mkD2 k v l w
theorem apD2 {f g h i : Fr → R D} {ρ : Fr} : eD2 f g h i ρ = (f ρ).bind fun k => (g ρ).bind fun v => (h ρ).bind fun l => (i ρ).bind fun w => mkD2 k v l w := by unfold eD2; rfl
theorem own_put1 {c : Ct} {F : Hp} {k l : Key} {v w : V} {x y : D} (rv : Rep c F v x) (rw' : Rep c F w y) : Own c F (some (.dK (mergeK [] [(k, v), (l, w)]))) (.dk (putD [(k, x)] l y)) := by
  have e : mergeK [] [(k, v), (l, w)] = putK [(k, v)] l w := by
    simp [mergeK, putK]
  rw [e]
  show (putK [(k, v)] l w).map (·.1) = (putD [(k, x)] l y).map (·.1) ∧ Reps c F ((putK [(k, v)] l w).map (·.2)) ((putD [(k, x)] l y).map (·.2))
  by_cases h : k = l
  · subst h
    have e1 : putK [(k, v)] k w = [(k, w)] := by simp [putK]
    have e2 : putD [(k, x)] k y = [(k, y)] := by simp [putD]
    rw [e1, e2]
    exact ⟨rfl, .cons rw' .nil⟩
  · have e1 : putK [(k, v)] l w = [(k, v), (l, w)] := by simp [putK, h]
    have e2 : putD [(k, x)] l y = [(k, x), (l, y)] := by simp [putD, h]
    rw [e1, e2]
    exact ⟨rfl, .cons rv (.cons rw' .nil)⟩
theorem p_d2 {a2 b2 : Expr} {h i : Fr → R D} (ha : P X T E .f a f) (hb : P X T E .f b g) (ha2 : P X T E .f a2 h) (hb2 : P X T E .f b2 i) : P X T E .n (.Dict [some a, some a2] [b, b2] pos) (eD2 f g h i) :=
  PE.mono (pe_disp (pps_cons ha hb (pps_cons ha2 hb2 pps_nil)) rfl rfl (by simp) (show 2 ≤ 15 by decide)) fun σ H Q ⟨H0, F, ρ, fr, ou⟩ => fun p hp => by
    have fr0 := (fr.newO (o := .dK []) hp trivial).push (fr.newAt (o := .dK []) (d := .dk []) hp ⟨rfl, .nil⟩)
    refine ⟨H0.push p (.dk []), F, ρ, fr0, out_push (Out.split (m := f ρ) ou) fun x F1 H1 e1 fr1 o1 v rv => ⟨H0.push p (.dk []), F1, ρ, fr1, out_push (Out.split (m := g ρ) o1) fun y F2 H2 e2 fr2 o2 w rw =>
      ⟨H0.push p (.dk []), F2, ρ, fr2, out_push (Out.split (m := h ρ) o2) fun z F3 H3 e3 fr3 o3 v2 rv2 => ⟨H0.push p (.dk []), F3, ρ, fr3, out_push (Out.split (m := i ρ) o3) fun t F4 H4 e4 fr4 o4 w2 rw2 => ?_⟩⟩⟩⟩
    have o4 : Out (ct X T) E H0 F4 σ ρ (mkD2 x y z t) _ := o4
    unfold mkD2 at o4
    cases hk : x.key with
    | none => rw [hk] at o4; exact o4.elim
    | some k =>
      cases hl : z.key with
      | none => rw [hk, hl] at o4; exact o4.elim
      | some l =>
        rw [hk, hl] at o4
        have o4 : Out (ct X T) E H0 F4 σ ρ (R.ok (D.dk (putD [(k, y)] l t))) _ := o4
        obtain ⟨fr5, n5⟩ := fr4.pop
        have hv := rep_key fr5 (.inl (Rep.ext e4 (Rep.ext e3 (Rep.ext e2 rv)))) hk
        have hv2 := rep_key fr5 (.inl (Rep.ext e4 rv2)) hl
        have hpp : H4 p = some (.dK []) := own_nilK n5.2.1
        refine ⟨hpp, [(k, w), (l, w2)], by rw [hv, hv2]; rfl, (show 2 ≤ 15 by decide), ?_⟩
        have fr6 := fr4.mutE (o := .dK (mergeK [] [(k, w), (l, w2)])) (d' := .dk (putD [(k, y)] l t)) (own_put1 (Rep.ext e4 (Rep.ext e3 rw)) rw2)
        obtain ⟨fr7, n7⟩ := fr6.pop
        exact o4 F4 _ (.refl F4) fr7 _ ⟨p, rfl, n7⟩
end
end PB

namespace PB
open PySem PySem.Spec PyProof.Rows L2 LamX
/-! ### PB19: enumerate -/
def enumD (ds : List D) : List D := (List.range ds.length).map fun (i : Nat) => .tup [.int i, ds.getD i .non]
def enmD : List D → R (List D)
  | [.lst ds] => if ds.length ≤ sizeLine then .ok (enumD ds) else .stuck
  | [.scr ns] => if ns.length ≤ sizeLine then .ok (enumD (ns.map D.int)) else .stuck
  | _ => .stuck
theorem enum_len {ds : List D} : (enumD ds).length = ds.length := by unfold enumD; rw [List.length_map, List.length_range]
theorem dw_enum {c : Ct} {F : Hp} {a : Addr} {vs : List V} {ds : List D} (h : SqL c.K F a vs) (r : Reps c F vs ds) (hl : ds.length ≤ sizeLine) : DW c F (Ite c.K a) (enumD ds) where
  len := by rw [enum_len]; exact hl
  go := fun i H e hi => by
    rw [enum_len] at hi
    obtain ⟨v, hv, _⟩ := r.get (i := i) (d := ds[i]) (by simp [hi])
    exact ⟨vs, v, sqL_ext e h, hv⟩
  stop := fun i H e hi => ⟨vs, sqL_ext e h, by rw [r.length]; rw [enum_len] at hi; exact hi⟩
  yld := fun i d H0 F1 H σ ρ x H' e fr hd y => by
    obtain ⟨t, z, rfl, hT, rfl, q⟩ := y
    have hi : i < ds.length := by
      have := (List.getElem?_eq_some_iff.mp hd).1
      rw [enum_len] at this
      exact this
    obtain ⟨v, hv, rv⟩ := r.get (i := i) (d := ds[i]) (by simp [hi])
    have hx := q vs (sqL_ext (e.trans fr.extH) h)
    rw [hv] at hx
    cases hx
    have hd' : d = .tup [.int i, ds[i]] := by
      unfold enumD at hd
      rw [List.getElem?_map, List.getElem?_range hi] at hd
      have hd : some (D.tup [.int i, ds.getD i .non]) = some d := hd
      cases hd
      rw [List.getD_eq_getElem?_getD, List.getElem?_eq_getElem hi]
      rfl
    subst hd'
    have rz : Reps c F1 [.int i, z] [.int i, ds[i]] := .cons (.int _) (.cons (rv.ext e) .nil)
    have e2 : ExtN F1 (upd F1 t (.tup [.int (i : Nat), z])) := ext_upd (fr.nun hT)
    exact ⟨_, e2, fr.newF hT, .tup upd_same (rz.ext e2)⟩
section
variable {X : Cx} {T : List (Addr × Str)} {E : XK} {a : Expr} {elts : List Expr} {fs : Fr → R (List D)} {p pos tpos : Pos} {kk : Nat}
theorem i_enum (hm : X.mg "enumerate" = none) (ha : Ps X T E [a] fs) (hg : Gl X "enumerate" := by rfl) (hs : starEach [a] X.env = [(false, eval a X.env)] := by rfl) : I X T E (.Tuple elts kk tpos) (.Call (.Name "enumerate" p) [a] [] pos) (eIts enmD fs) :=
  PI.mono (pi_enum hg hm ha hs) fun σ H R ⟨H0, F, ρ, fr, ou⟩ => ⟨H0, F, ρ, fr, (Out.split ou).imp fun ds F' H' e fr' o vs rv => by
    unfold enmD at o
    split at o
    · split at o
      · rename_i hz
        cases rv with
        | cons r rest =>
          cases rest
          cases r with
          | lst h1 r => exact ⟨_, _, rfl, .of (fr'.sub _ _ h1), o.here fr' rfl _ (dw_enum (.of h1) r hz)⟩
      · exact o.elim
    · split at o
      · rename_i hz
        cases rv with
        | cons r rest =>
          cases rest
          cases r with
          | scr h1 => exact ⟨_, _, rfl, sqL_ext fr'.extH h1, o.here fr' rfl _ (dw_enum h1 (Reps.of_ints _) (by rw [List.length_map]; exact hz))⟩
      · exact o.elim
    · exact o.elim⟩
end
end PB

namespace PB
open PySem PySem.Spec PyProof.Rows L2 LamX
/-! ### PB20: rows of places, pebbles brought (out of k63) -/
noncomputable def o_need_length : List D → R D := runD 2 2
  (sIf (tNotR (tV (eB o_is_number (xCons (eV 0) (xCons (eV 1) (xCons (e2 addD (eC (.int 300)) (eC (.int 1))) xNil)))))) (fun _ => .er "NoNumber") sNil)
noncomputable def o_brought : List D → R D := runD 3 1
  (sSeq (sSet 1 (eC (.int 0)))
    (sSeq (sFor (eIt (eV 0)) (gN 2) (sSet 1 (e2 addD (e2 fdivD (eVb 1) (eC (.int 2))) (eVb 2))))
    (sRet (eVb 1))))
noncomputable def o_whole : List D → R D := runD 1 1
  (sRet (eAnd (eB isiD (xCons (eVb 0) (xCons (eC (.ty "int")) xNil))) (eNot (eB isiD (xCons (eVb 0) (xCons (eC (.ty "bool")) xNil))))))
def brt (f : Int) (ps : List Int) : Int := ps.foldl (fun f p => f / 2 + p) f
theorem brought_loop (x : Sl) : ∀ (ps : List Int) (f : Int) (y : Sl), ∃ y', forD (gN 2) (sSet 1 (e2 addD (e2 fdivD (eVb 1) (eC (.int 2))) (eVb 2))) (ps.map D.int) [x, .fz (.int f), y] = .nx [x, .fz (.int (brt f ps)), y']
  | [], f, y => ⟨y, rfl⟩
  | p :: ps, f, y => by
    obtain ⟨y', h⟩ := brought_loop x ps (f / 2 + p) (.fz (.int p))
    refine ⟨y', ?_⟩
    rw [List.map_cons, forD_cons (ρ1 := [x, .fz (.int f), .fz (.int p)]) rfl]
    simp (disch := omega) only [apC, apV, apVb, ap2, ap1, apB, apN, apX, aptB, aptV, apAnd, apOr, apNot, apeIf, apeAnd, apeOr, apeNot, apTup, apLst, apIt, apIts, apoN, apoS, apSl, ap3, apsN, apSeq, apSet, apOwn, apRet, apEx, apIf, apFrz, apT, apgN, List.getElem?_cons_succ, List.getElem?_cons_zero, List.set_cons_succ, List.set_cons_zero, apBV, max2_i, min2_i, bindO, fdiv_s, mod_i, mul_s, mul_s', isi_ii, isi_ib, isi_it, isi_tt, isi_ll, isi_bb, len_l, len_t, len_s, it_l, it_t, mkL0, mkL1, mkL2, mkL3, mkL4, mkL5, mkL6, mkL7, mkL8, mkT0, mkT1, mkT2, mkT3, mkT4, mkT5, mkT6, mkT7, mkT8, add_i, sub_i, lt_i, le_i, gt_i, ge_i, eq_i, ne_i, tru_b, tru_i, tru_n, as_b, tru_l, tru_t, if_true, if_false]
    exact h
theorem brought_eq (ps : List Int) : o_brought [.lst (ps.map D.int)] = .ok (.int (brt 0 ps)) := by
  refine (runD_eq (by rfl)).trans ?_
  obtain ⟨y', h⟩ := brought_loop (.fz (.lst (ps.map D.int))) ps 0 .un
  rw [show startF 3 [D.lst (ps.map D.int)] = [.fz (.lst (ps.map D.int)), .un, .un] from rfl, seq_nx (show sSet 1 (eC (.int 0)) [.fz (.lst (ps.map D.int)), .un, .un] = .nx [.fz (.lst (ps.map D.int)), .fz (.int 0), .un] from rfl), seq_nx ((for_eq (show eIt (eV 0) [.fz (.lst (ps.map D.int)), .fz (.int 0), .un] = .ok (ps.map D.int) from rfl)).trans h)]
  rfl
theorem need_eq (n a : Int) (h1 : a ≤ n) (h2 : n ≤ 300) : o_need_length [.int n, .int a] = .ok .non := by
  refine (runD_eq (by rfl)).trans ?_
  rw [show startF 2 [D.int n, .int a] = [.fz (.int n), .fz (.int a)] from rfl]
  have w := num_ok (d := .int n) (fun h => by cases h) a (300 + 1)
  have e : numB a (300 + 1) (.int n) = true := by
    show (decide (a ≤ n) && decide (n < 300 + 1)) = true
    rw [decide_eq_true h1, decide_eq_true (show n < 300 + 1 by omega)]
    rfl
  rw [e] at w
  simp (disch := omega) only [apC, apV, apVb, ap2, ap1, apB, apN, apX, aptB, aptV, apAnd, apOr, apNot, apeIf, apeAnd, apeOr, apeNot, apTup, apLst, apIt, apIts, apoN, apoS, apSl, ap3, apsN, apSeq, apSet, apOwn, apRet, apEx, apIf, apFrz, apT, apgN, List.getElem?_cons_succ, List.getElem?_cons_zero, List.set_cons_succ, List.set_cons_zero, apBV, max2_i, min2_i, bindO, fdiv_s, mod_i, mul_s, mul_s', isi_ii, isi_ib, isi_it, isi_tt, isi_ll, isi_bb, len_l, len_t, len_s, it_l, it_t, mkL0, mkL1, mkL2, mkL3, mkL4, mkL5, mkL6, mkL7, mkL8, mkT0, mkT1, mkT2, mkT3, mkT4, mkT5, mkT6, mkT7, mkT8, add_i, sub_i, lt_i, le_i, gt_i, ge_i, eq_i, ne_i, tru_b, tru_i, tru_n, as_b, tru_l, tru_t, if_true, if_false, w]
  rfl
theorem brt_app (f : Int) (l : List Int) (x : Int) : brt f (l ++ [x]) = brt f l / 2 + x := by
  unfold brt
  rw [List.foldl_append]
  rfl
theorem brt_nn : ∀ (l : List Int) (f : Int), 0 ≤ f → (∀ x ∈ l, 0 ≤ x) → 0 ≤ brt f l
  | [], f, h, _ => h
  | x :: l, f, h, hs => by
    have := hs x List.mem_cons_self
    exact brt_nn l (f / 2 + x) (by omega) fun y hy => hs y (List.mem_cons_of_mem _ hy)
theorem brt_two {l : List Int} {y : Int} (hl : ∀ x ∈ l, 0 ≤ x) (hy : 2 ≤ y) : 1 ≤ brt 0 (l ++ [y] ++ [0]) := by
  rw [brt_app, brt_app]
  have := brt_nn l 0 (by decide) hl
  omega
theorem brt_zero {l : List Int} (hl : ∀ x ∈ l, 0 ≤ x) : 0 ≤ brt 0 (l ++ [0]) := by
  rw [brt_app]
  have := brt_nn l 0 (by decide) hl
  omega
theorem whole_eq (i : Int) : o_whole [.int i] = .ok (.bl true) := rfl
end PB

namespace PB
open PySem PySem.Spec PyProof.Rows L2 LamX
/-! ### PB21: a caught error, isinstance of it, list.count, list.index -/
def isSub (x y : Str) : Bool := x == y || y == "PebbleError"
/-- what K says of the errors of the class x, asked of the classes ys -/
structure ExcX (K : PySem.W.Frag) (mg : Str → Option Value) (ys : List Str) (x : Str) : Prop where
  ex : ∃ C, mg x = some (.ref C) ∧ L2.ExcC K C ∧ (∀ y ∈ ys, ∃ D, mg y = some (.ref D) ∧ PySem.W.kitOne K (.ref C) (.ref D) = some (isSub x y)) ∧ PySem.W.kitOne K (.ref C) (.type "ValueError") = some true ∧
    ∀ D, mg "PebbleError" = some (.ref D) → PySem.W.exmOne K (.ref C) (.ref D) = some true
theorem isE_call {X : Cx} {a C : Addr} {oe : Obj} (hp : (a, oe) ∈ X.pn) (hE : L2.ExcC X.K C) (hz : L2.Zc (.ref C) none oe) (hf : ∃ vs, oe.data = .fields vs) : CallR X (.builtin "isinstance") (rIsE X.K C a) := by
  intro pins s σ H xs us Q Iv r hh
  obtain ⟨cc, cv, bb, rfl, hcv, e1, q⟩ := hh
  obtain ⟨u1, u2, rfl, r1, r2⟩ := vals2 r
  obtain rfl : u1 = Value.ref a := r1
  obtain rfl : u2 = cv := hcv _ r2
  have g := (Iv.pin (a, oe) (List.mem_append_left _ hp)).1
  have J : PySem.W.InstAt s.heap a oe C none := by
    obtain ⟨vs, hv⟩ := hf
    obtain ⟨o1, o2, o3, o4⟩ := oe
    obtain ⟨z1, z2⟩ := hz
    dsimp only at z1 z2 hv
    subst z1 z2 hv
    exact ⟨g, rfl, rfl, trivial⟩
  exact PySem.W.kia_one (PySem.W.handS_kitx_exc hE.hg hE.hk hE.hs hE.hd hE.ha hE.hn hE.ht hE.hm) Iv.kIn J e1 (fun z => by cases z) fun tk => ⟨.bl bb, H, Iv.kept (t' := tk) fun _ _ z => z, rfl, q⟩
def isED (a : Addr) (x : Str) (ys : List Str) : List D → R D
  | [.exc b z, .fn y] => if b = a ∧ z = x ∧ y ∈ ys then .ok (.bl (isSub x y)) else .stuck
  | [.exc b z, .ty n] => if b = a ∧ z = x ∧ n = "ValueError" then .ok (.bl true) else .stuck
  | _ => .stuck
section
variable {X : Cx} {T : List (Addr × Str)} {E : XK} {e o d : Expr} {es : List Expr} {f g : Fr → R D} {fs : Fr → R (List D)} {p pos apos cpos : Pos} {a C : Addr} {oe : Obj} {x : Str} {ys : List Str} {j : Nat}
theorem own_exc {c : Ct} {F : Hp} {o : Option HO} {b : Addr} {z : Str} (h : Own c F o (.exc b z)) : False := by
  unfold Own at h
  split at h <;> first | exact h | (rename_i q; cases q)
theorem exc_at {c : Ct} {H0 : Bs} {F H : Hp} {σ : L2.St} {ρ : Fr} {v : V} {b : Addr} {z : Str} (fr : FR c H0 F H σ ρ) (r : RepB c F σ ρ v (.exc b z)) : v = .ref b := by
  rcases r with r | ⟨i, p, hv, hr, hs⟩
  · cases r
    rfl
  · obtain ⟨q, hq, hF, ho⟩ := fr.ow i _ hr
    exact (own_exc ho).elim
/-- where the caught error stands -/
structure ExcAt (X : Cx) (ys : List Str) (a : Addr) (x : Str) : Prop where
  ex : ∃ C oe, X.mg x = some (.ref C) ∧ (a, oe) ∈ X.pn ∧ L2.ExcC X.K C ∧ L2.Zc (.ref C) none oe ∧ (∃ vs, oe.data = .fields vs) ∧ (∀ y ∈ ys, ∃ D, X.mg y = some (.ref D) ∧ PySem.W.kitOne X.K (.ref C) (.ref D) = some (isSub x y)) ∧ PySem.W.kitOne X.K (.ref C) (.type "ValueError") = some true
theorem p_isE (K : ExcAt X ys a x) (hm : X.mg "isinstance" = none) (ha : Pb X T E (e :: es) fs) (hg : Gl X "isinstance" := by rfl) (he : starEach (e :: es) X.env = (false, eval e X.env) :: starEach es X.env := by rfl) (hpl : (backTo pos (starEach es X.env)).any (·.1) = false := by rfl) :
    P X T E .f (.Call (.Name "isinstance" p) (e :: es) [] pos) (eB (isED a x ys) fs) := by
  obtain ⟨C, oe, h1, h2, h3, h4, h5, h6, h7⟩ := K.ex
  refine p_blt (isE_call h2 h3 h4 h5) (fun H0 F H σ ρ E vs ds Q fr rv o => ?_) hg hm (by decide +kernel) ha (by decide) (by decide) he hpl
  unfold isED at o
  split at o
  · split at o
    · rename_i b z y h
      obtain ⟨rfl, rfl, hy⟩ := h
      obtain ⟨v, w, rfl, r1, r2⟩ := reps2 rv
      obtain ⟨D, hD, hk⟩ := h6 y hy
      obtain ⟨fa, rfl, hfa⟩ := r2.fn fr
      have hfa : X.mg y = some (.ref fa) := hfa
      rw [hD] at hfa
      cases hfa
      have ev := exc_at fr r1
      subst ev
      exact ⟨_, _, _, rfl, fun u hu => hu, hk, o.here fr rfl _ (.bl _)⟩
    · exact o.elim
  · split at o
    · rename_i b z n h
      obtain ⟨rfl, rfl, rfl⟩ := h
      obtain ⟨v, w, rfl, r1, r2⟩ := reps2 rv
      cases r2.ty fr
      have ev := exc_at fr r1
      subst ev
      exact ⟨_, _, _, rfl, fun u hu => hu, h7, o.here fr rfl _ (.bl _)⟩
    · exact o.elim
  · exact o.elim
end
/-! list.count -/
def backF : Value → V
  | .bool b => .bl b
  | .int i _ => .int i
  | .str x _ => .str x
  | .none => .non
  | _ => .ty ""
theorem backF_of {v : V} {u : Value} (r : RelV v u) (f : flatV v = true) : backF u = v := by
  cases v with
  | non => cases r; rfl
  | bl b => cases r; rfl
  | int i => obtain ⟨t, rfl⟩ := r; rfl
  | str x => obtain ⟨t, rfl⟩ := r; rfl
  | _ => cases f
def rCountV (K : PySem.W.Frag) : V → List V → Hp → VK → Prop := fun x xs H Q => ∃ (a : Addr) (ys : List V) (y : V), x = V.ref a ∧ xs = [y] ∧ SqL K H a ys ∧ flatV y = true ∧ ys.all flatV = true ∧ Q (.int (ys.countP (eqV · y) : Nat)) H
theorem countP_back {y : V} : ∀ {ys : List V} {us : List Value}, Vals ys us → ys.all flatV = true → us.countP (fun u => eqV (backF u) y) = ys.countP (eqV · y)
  | _, _, .nil, _ => rfl
  | _, _, .cons r rs, f => by
    rw [List.all_cons, Bool.and_eq_true] at f
    rw [List.countP_cons, List.countP_cons, countP_back rs f.2, backF_of r f.1]
theorem mt_countV {X : Cx} : MtR X "list.count" (rCountV X.K) := by
  intro pins s σ H x xs v us Q Iv rx rxs hh
  obtain ⟨a, ys, y, rfl, rfl, hs, fy, fys, q⟩ := hh
  cases rx
  obtain ⟨u, rfl, ru⟩ := rxs.one
  obtain ⟨its, rv, ⟨⟨c1, c2, c3, c4⟩, n, ho, hc, hdn, hd⟩, hlen⟩ := Iv.list hs
  dsimp only at hc hd
  subst hc hd
  refine call_meets PySem.F.slot_list_count ⟨_, ho, rfl⟩ PySem.F.entry_list_count (PySem.F.args_list_count_2 _ _) (SeqAt.list_countAt a its.toArray n c2 c4 u fun w => eqV (backF w) y) ⟨ho, fun w hw => ?_, ?_⟩
  · obtain ⟨i, hi, e⟩ := List.getElem_of_mem (show w ∈ its by simpa using hw)
    have hl := rv.length
    obtain ⟨u', hu', r'⟩ := rv.get (i := i) (x := ys[i]'(by omega)) (by simp)
    rw [List.getElem?_eq_getElem hi, e] at hu'
    cases hu'
    have fz : flatV (ys[i]'(by omega)) = true := List.all_eq_true.mp fys _ (List.getElem_mem _)
    rw [backF_of r' fz]
    exact eqAt_V r' ru fz fy
  · rw [show its.toArray.toList = its from rfl, countP_back rv fys]
    exact ⟨.int _, H, Iv.tok _, ⟨_, rfl⟩, q⟩
/-- flat data: None, truths, ints, texts -/
def flD : D → Option V
  | .non => some .non
  | .bl b => some (.bl b)
  | .int i => some (.int i)
  | .str x => some (.str x)
  | _ => none
def flDs : List D → Option (List V)
  | [] => some []
  | x :: r => match flD x, flDs r with
    | some v, some vs => some (v :: vs)
    | _, _ => none
theorem flD_flat {d : D} {v : V} (h : flD d = some v) : flatV v = true := by
  cases d <;> first | (cases h; rfl) | cases h
theorem flDs_flat : ∀ {ds : List D} {vs : List V}, flDs ds = some vs → vs.all flatV = true
  | [], _, h => by cases h; rfl
  | x :: r, vs, h => by
    rw [flDs] at h
    cases e1 : flD x with
    | none => rw [e1] at h; cases h
    | some v =>
      cases e2 : flDs r with
      | none => rw [e1, e2] at h; cases h
      | some ws =>
        rw [e1, e2] at h
        cases h
        rw [List.all_cons, flD_flat e1, flDs_flat e2]
        rfl
section
variable {c : Ct} {H0 : Bs} {F H : Hp} {σ : L2.St} {ρ : Fr}
theorem flD_rep {v w : V} {d : D} (r : Rep c F v d) (h : flD d = some w) : v = w := by
  cases r <;> first | (cases h; rfl) | cases h
theorem flDs_rep : ∀ {vs ws : List V} {ds : List D}, Reps c F vs ds → flDs ds = some ws → vs = ws
  | _, _, _, .nil, h => by cases h; rfl
  | _, _, _, .cons (d := d) (ds := ds) hd r, h => by
    rw [flDs] at h
    cases e1 : flD d with
    | none => rw [e1] at h; cases h
    | some v =>
      cases e2 : flDs ds with
      | none => rw [e1, e2] at h; cases h
      | some ws =>
        rw [e1, e2] at h
        cases h
        rw [flD_rep hd e1, flDs_rep r e2]
end
def lstB : D → R Unit
  | .lst _ => .ok ()
  | _ => .stuck
/-- the place of the first one -/
def ixOf (p : V → Bool) : List V → Option Nat
  | [] => none
  | v :: r => if p v = true then some 0 else (ixOf p r).map (· + 1)
theorem ixOf_some {p : V → Bool} : ∀ {vs : List V} {j : Nat}, ixOf p vs = some j → ∃ z, vs[j]? = some z ∧ p z = true ∧ ∀ m z', m < j → vs[m]? = some z' → p z' = false
  | [], _, h => by cases h
  | v :: r, j, h => by
    unfold ixOf at h
    by_cases hv : p v = true
    · rw [if_pos hv] at h
      cases h
      exact ⟨v, rfl, hv, fun m z' hm => by omega⟩
    · rw [if_neg hv] at h
      cases e : ixOf p r with
      | none => rw [e] at h; cases h
      | some i =>
        rw [e] at h
        cases h
        obtain ⟨z, h1, h2, h3⟩ := ixOf_some e
        refine ⟨z, h1, h2, fun m z' hm hz => ?_⟩
        cases m with
        | zero =>
          cases hz
          exact Bool.eq_false_iff.mpr hv
        | succ m => exact h3 m z' (by show m < i; have : m + 1 < i + 1 := hm; omega) hz
def cntD (x y : D) : R D := match x with
  | .lst ds => match flDs ds, flD y with
    | some vs, some v => .ok (.int (vs.countP (eqV · v) : Nat))
    | _, _ => .stuck
  | _ => .stuck
def idxD (x y : D) : R D := match x with
  | .lst ds => match flDs ds, flD y with
    | some vs, some v => match ixOf (eqV · v) vs with
      | some j => .ok (.int (j : Nat))
      | none => .stuck
    | _, _ => .stuck
  | _ => .stuck
def eLm (op : D → D → R D) (f g : Fr → R D) : Fr → R D := fun ρ => (f ρ).bind fun x => (lstB x).bind fun _ => (g ρ).bind fun y => op x y
theorem apLm {op : D → D → R D} {f g : Fr → R D} {ρ : Fr} : eLm op f g ρ = (f ρ).bind fun x => (lstB x).bind fun _ => (g ρ).bind fun y => op x y := by unfold eLm; rfl
section
variable {X : Cx} {T : List (Addr × Str)} {E : XK} {e o : Expr} {f g : Fr → R D} {apos cpos : Pos}
theorem p_lm {m : Str} {id : String} {r : V → List V → Hp → VK → Prop} {op : D → D → R D} (slot : Slot "list" m id) (hty : typeOf (.builtin id) = pure (.type "method_descriptor")) (hm : MtR X id r)
    (hs : OpS (ct X T) .f (fun v w H Q => r v [w] H Q) op) (ho : P X T E .b o f) (ha : P X T E .f e g) (hbase : attributeBase o m X.env (eval o X.env) = eval o X.env)
    (hfew : ((backTo cpos (starEach [e] X.env)).all (fun x => !x.1) && (backToKw cpos (keywordEach [] X.env)).all (fun x => x.1.isSome)
      && decide ([e].length + ([] : List Keyword).length + (if ([] : List Keyword).isEmpty then 0 else 1) < 30)) = true)
    (hline : (apos.endLine == cpos.line) = true) (hs' : starEach [e] X.env = (false, eval e X.env) :: starEach [] X.env) : P X T E .f (.Call (.Attribute o m apos) [e] [] cpos) (eLm op f g) :=
  PE.mono (pe_bm PySem.F.plainAttrs_list slot hty hm ho (pa_cons ha pa_nil hs') hbase hfew hline hs' rfl) fun σ H Q ⟨H0, F, ρ, fr, ou⟩ => ⟨H0, F, ρ, fr, ou.split.imp fun x F1 H1 e1 fr1 o1 v rv => by
    cases x <;> first | exact o1.elim | skip
    obtain ⟨a, vs, rfl, hH, _⟩ := rv.lst fr1
    exact ⟨.inl ⟨rfl, vs, .of hH⟩, H0, F1, ρ, fr1, Out.imp (Out.split (m := g ρ) o1) fun y F2 H2 e2 fr2 o2 w rw => hs H0 F2 H2 σ ρ E _ w _ y Q fr2 (rv.ext e2) (.inl rw) o2⟩⟩
theorem s_cnt : OpS (ct X T) .f (fun v w H Q => rCountV X.K v [w] H Q) cntD := by
  intro H0 F H σ ρ E v w x y Q fr rx ry o
  unfold cntD at o
  split at o
  · rename_i ds
    cases e1 : flDs ds with
    | none => rw [e1] at o; exact o.elim
    | some vs =>
      cases e2 : flD y with
      | none => rw [e1, e2] at o; exact o.elim
      | some z =>
        rw [e1, e2] at o
        obtain ⟨a, us, rfl, hH, rr⟩ := rx.lst fr
        have ez := flD_rep (ry.whole fr) e2
        subst ez
        have eu := flDs_rep rr e1
        subst eu
        exact ⟨a, _, _, rfl, rfl, .of hH, flD_flat e2, flDs_flat e1, Out.here (m := .ok _) o fr rfl _ (.int _)⟩
  · exact o.elim
theorem s_idx : OpS (ct X T) .f (fun v w H Q => rIndex X.K v [w] H Q) idxD := by
  intro H0 F H σ ρ E v w x y Q fr rx ry o
  unfold idxD at o
  split at o
  · rename_i ds
    cases e1 : flDs ds with
    | none => rw [e1] at o; exact o.elim
    | some vs =>
      cases e2 : flD y with
      | none => rw [e1, e2] at o; exact o.elim
      | some z =>
        cases e3 : ixOf (eqV · z) vs with
        | none =>
          rw [e1, e2] at o
          dsimp only at o
          rw [e3] at o
          exact o.elim
        | some j =>
          rw [e1, e2] at o
          dsimp only at o
          rw [e3] at o
          obtain ⟨a, us, rfl, hH, rr⟩ := rx.lst fr
          have ez := flD_rep (ry.whole fr) e2
          subst ez
          have eu := flDs_rep rr e1
          subst eu
          obtain ⟨z', h1, h2, h3⟩ := ixOf_some e3
          exact ⟨a, _, _, j, z', rfl, rfl, .of hH, flD_flat e2, flDs_flat e1, h1, h2, h3, Out.here (m := .ok _) o fr rfl _ (.int _)⟩
  · exact o.elim
theorem p_cnt (ho : P X T E .b o f) (ha : P X T E .f e g) (hbase : attributeBase o "count" X.env (eval o X.env) = eval o X.env := by rfl)
    (hfew : ((backTo cpos (starEach [e] X.env)).all (fun x => !x.1) && (backToKw cpos (keywordEach [] X.env)).all (fun x => x.1.isSome)
      && decide ([e].length + ([] : List Keyword).length + (if ([] : List Keyword).isEmpty then 0 else 1) < 30)) = true := by rfl)
    (hline : (apos.endLine == cpos.line) = true := by rfl) (hs' : starEach [e] X.env = (false, eval e X.env) :: starEach [] X.env := by rfl) : P X T E .f (.Call (.Attribute o "count" apos) [e] [] cpos) (eLm cntD f g) :=
  p_lm PySem.F.slot_list_count PySem.F.type_list_count mt_countV s_cnt ho ha hbase hfew hline hs'
theorem p_idx (ho : P X T E .b o f) (ha : P X T E .f e g) (hbase : attributeBase o "index" X.env (eval o X.env) = eval o X.env := by rfl)
    (hfew : ((backTo cpos (starEach [e] X.env)).all (fun x => !x.1) && (backToKw cpos (keywordEach [] X.env)).all (fun x => x.1.isSome)
      && decide ([e].length + ([] : List Keyword).length + (if ([] : List Keyword).isEmpty then 0 else 1) < 30)) = true := by rfl)
    (hline : (apos.endLine == cpos.line) = true := by rfl) (hs' : starEach [e] X.env = (false, eval e X.env) :: starEach [] X.env := by rfl) : P X T E .f (.Call (.Attribute o "index" apos) [e] [] cpos) (eLm idxD f g) :=
  p_lm PySem.F.slot_list_index PySem.F.type_list_index mt_index s_idx ho ha hbase hfew hline hs'
end
end PB

namespace PB
open PySem PySem.Spec PyProof.Rows L2 LamX
/-! ### PB22: x(lambda: e), x a def that tells the word of a refusal -/
section
variable {X : Cx} {T : List (Addr × Str)} {E : XK} {e a b d : Expr} {es : List Expr} {f g : Fr → R D} {fs : Fr → R (List D)} {p pos apos cpos : Pos} {j : Nat}
theorem t_neU (hu : X.A.units + 65 < cLine) (ha : P X T E .b a f) (hb : P X T E .b b g) : Pt X T E (.Compare a [.NotEq] [b] pos) (tB (e2 neD f g)) := t_cmp (op_neD (by omega)) s_ne ha hb (nomark _)
theorem p_ixU (hu : X.A.units + 65 < cLine) (ha : P X T E .b a f) (hb : P X T E .b b g) (hs : PlainIx b := by exact fun _ _ => rfl) : P X T E .f (.Subscript a b pos) (e2 ixD f g) :=
  PE.mono (pe_ix (IxR.or ix_seq (ix_dct (by omega))) ha hb hs) fun σ H Q ⟨H0, F, ρ, fr, ou⟩ => ⟨H0, F, ρ, fr, ou.split.imp fun x F1 H1 e1 fr1 o1 v rv => ⟨H0, F1, ρ, fr1, o1.split.imp fun y F2 H2 e2 fr2 o2 w rw => s_ix H0 F2 H2 σ ρ E v w x y Q fr2 (rv.ext e2) rw o2⟩⟩
end
theorem RoomH.u65 {k : Nat} {A : Around} (hr : L2H.RoomH k A) : A.units + 65 < cLine := by have := hr.un; omega
/-- a def that tells of the error it gets: called in the suite alone -/
structure ClsAt (P : Program) (w : World) (K : PySem.W.Frag) (mg : Str → Option Value) (base : Heap) (T : List (Addr × Str)) (x : Str) (k : Nat) (ys : List Str) (m : Addr → Str → List D → R D) : Prop where
  ex : ∃ (fa : Addr) (fd : FuncData) (st : Stmt) (N : List Str) (n : Str), mg x = some (.ref fa) ∧ L2.Fun K x x st fa fd ∧ FnScope N [n] (defScope st) ∧ Binds K fd [n] [] ∧
    ∀ (cdv : Value) (A : Around) (outer : List Env) (s : Shared) (H : Hp) (a : Addr) (oe : Obj) (z : Str), ExcAt (L2H.cxH C8.CX0 P w K mg base N x (defScope st) fa cdv A outer s H C8.E0 (a, oe)) ys a z →
      L2H.RoomH k (A.deeper (envOfC x (defScope st) s.heap.objs.size fa cdv)) → ∃ g : Fr → O, m a z = runD N.length 1 g ∧ Ss (L2H.cxH C8.CX0 P w K mg base N x (defScope st) fa cdv A outer s H C8.E0 (a, oe)) T EN (defBody st) g
theorem cls_mk {P : Program} {w : World} {K : PySem.W.Frag} {mg : Str → Option Value} {base : Heap} {T : List (Addr × Str)} {x n : Str} {k : Nat} {ys N : List Str} {st : Stmt} {g : Addr → Str → Fr → O} {m : Addr → Str → List D → R D}
    (hd : ∃ fa fd, mg x = some (.ref fa) ∧ L2.Fun K x x st fa fd ∧ Binds K fd [n] []) (Sc : FnScope N [n] (defScope st)) (hm : ∀ a z, m a z = runD N.length 1 (g a z))
    (body : ∀ (fa : Addr) (cdv : Value) (A : Around) (outer : List Env) (s : Shared) (H : Hp) (a : Addr) (oe : Obj) (z : Str), ExcAt (L2H.cxH C8.CX0 P w K mg base N x (defScope st) fa cdv A outer s H C8.E0 (a, oe)) ys a z →
      L2H.RoomH k (A.deeper (envOfC x (defScope st) s.heap.objs.size fa cdv)) → Ss (L2H.cxH C8.CX0 P w K mg base N x (defScope st) fa cdv A outer s H C8.E0 (a, oe)) T EN (defBody st) (g a z)) : ClsAt P w K mg base T x k ys m := by
  obtain ⟨fa, fd, h1, h2, h3⟩ := hd
  exact ⟨fa, fd, st, N, n, h1, h2, Sc, h3, fun cdv A outer s H a oe z hE hr => ⟨g a z, hm a z, body fa cdv A outer s H a oe z hE hr⟩⟩
section
variable {X : Cx} {pins : List (Addr × Obj)} {σ : L2.St} {H : Hp} {s : Shared} {Q : VK} {a fa : Addr} {oe : Obj} {k : Nat} {x n : Str} {st : Stmt} {fd : FuncData} {N : List Str}
theorem run_suite (hp : (a, oe) ∈ X.pn) (hr : L2H.RoomH (k + 1) X.A) (Fu : L2.Fun X.K x x st fa fd) (Sc : FnScope N [n] (defScope st)) (hb : Binds X.K fd [n] []) (Iv : Inv X pins σ H s)
    (hbody : ∀ cdv : Value, L2H.RoomH k (X.A.deeper (envOfC x (defScope st) s.heap.objs.size fa cdv)) → ∃ t, PSs (L2H.cxH C8.CX0 X.prog X.w X.K X.mg X.base N x (defScope st) fa cdv X.A X.stack s H C8.E0 (a, oe)) (defBody st) t ∧ t { nx := fun _ H' => Q .non H', rt := Q } (L2.start N [.ref a]) H) :
    wpAny (model X.prog X.w) X.A (call (.ref fa) [.ref a]) (EP X pins σ Q) X.xe s := by
  obtain ⟨oc, od, kV, doc, pm, an, cdv, ct, osl, rfl, lk, hcd⟩ := Fu.ex
  have e0 := Iv.env0
  have KX : X.K.In s.heap := Iv.kIn
  have lim := e0.mod.nolimit.keeps fun b o e => (e0.bs b o e).1
  have P1 := Iv.pin (a, oe) (List.mem_append_left _ hp)
  have hpin : L2H.PinOk X.stack H s (a, oe) := ⟨P1.1, P1.2.1, fun hm => by
    rcases List.mem_cons.mp (Iv.stkSub a hm) with z | z
    · exact P1.2.2.1 z
    · exact P1.2.2.2.1 z, P1.2.2.2.2⟩
  have hk : ∀ y ∈ [n].zip [Value.ref a], (defScope st).names.lookup y.1 = some .local ∨ ((defScope st).names.lookup y.1 = some .cell ∧ ((cellsFrom (s.heap.objs.size + 1) (defScope st).names []).lookup y.1).isSome = true) := fun ⟨m, v⟩ hy => by
    rcases Sc.par m (List.of_mem_zip hy).1 with q | q
    · exact .inl q
    · exact .inr ⟨q, PySem.W.cellsFrom_some _ _ _ (.inl q)⟩
  have rc : codeAny (model X.prog X.w) X.A (.call (.ref fa) ⟨[.ref a], []⟩) (CR C8.CX0 X.stack X.prog X.w H s Q C8.E0) s := by
    refine codeAny_call_function hr.depth (KX _ _ lk) rfl Sc.co Sc.gen rfl (PySem.W.codeRec_of KX hcd) (hb s [.ref a] KX rfl _ _ _ _ ?_)
    refine wpAny_newFunctionEnv_cells Sc.kind hk fun env he s1 xx => ?_
    subst he
    obtain ⟨t, ht, hq⟩ := hbody cdv (hr.deeper _)
    refine ⟨lim.keeps xx.toInCall.keep, codeAny_func ?_⟩
    have J := L2H.inv_startH (CX := C8.CX0) (E := C8.E0) (vs := [.ref a]) Sc hpin e0 rfl (.cons rfl .nil) xx
    refine wpAny_mono (ht.run [] s1 _ H _ J hq) (fun fl s' hs => ?_) fun _ _ z => z
    cases fl with
    | next =>
      obtain ⟨σ', H', J', q⟩ := hs
      exact ⟨V.non, H', J'.os, J'.bare, J'.base, J'.hok, rfl, q⟩
    | ret u =>
      obtain ⟨v, σ', H', J', rv, q⟩ := hs
      exact ⟨v, H', J'.os, J'.bare, J'.base, J'.hok, rv, q⟩
    | brk =>
      obtain ⟨_, _, _, q⟩ := hs
      exact q.elim
    | cont =>
      obtain ⟨_, _, _, q⟩ := hs
      exact q.elim
  refine wpAny_call (codeAny_mono rc fun r s' hq => ?_)
  cases r with
  | error e => exact (show False from hq).elim
  | ok fl =>
    cases fl with
    | ret u => exact Iv.after hq
    | _ => exact (show False from hq).elim
end
/-- what a def makes of the call that it gets: "told", or the word of the refusal -/
def TTref (K : PySem.W.Frag) (mg : Str → Option Value) (T : List (Addr × Str)) (ys : List Str) (m : Addr → Str → List D → R D) : (XK → Hp → VK → Prop) → Hp → VK → Prop := fun tl H Q =>
  tl (fun cls d H' => d = none ∧ ∃ (x : Str) (C : Addr) (w : Str), mg x = some (.ref C) ∧ cls = .ref C ∧ ExcX K mg ys x ∧ Tabs T H' ∧ (∀ a, m a x [.exc a x] = .ok (.str w)) ∧ ∀ H'', ExtN H' H'' → Tabs T H'' → Q (.str w) H'') H fun _ H' => ∃ v, some (some (V.str "told")) = some (some v) ∧ Q v H'
theorem ref_gives {X : Cx} {T : List (Addr × Str)} {k : Nat} {ys : List Str} {m : Addr → Str → List D → R D} {Ng : List Str} {x a wd e q cx : Str} {sg : Scope} {g : Addr} {cdg : Value} {j1 : Nat} {pw p1 pa p2 p3 p4 p5 p6 p7 p8 p9 p10 p11 p12 p13 p14 : Pos}
    (C : ClsAt X.prog X.w X.K X.mg X.base T cx k ys m) (hr : Room (k + 2) X.A) (hN : Ng = [a, wd, e]) (hnd : Ng.Nodup) (hpe : ∃ D, X.mg "PebbleError" = some (.ref D))
    (hl1 : sg.names.lookup wd = some .local) (hl2 : sg.names.lookup e = some .local) (hge : sg.names.lookup ("PebbleError" : Str) = some .globalImplicit) (hgc : sg.names.lookup cx = some .globalImplicit)
    (hde : (e == ("__debug__" : Str)) = false := by decide) (hde2 : (e == ("__classdict__" : Str)) = false := by decide) (hdw : (wd == ("__debug__" : Str)) = false := by decide) (hdw2 : (wd == ("__classdict__" : Str)) = false := by decide) (hdc : (cx == ("__debug__" : Str)) = false := by decide) :
    GivesTo X Ng x sg g cdg [.Assign [.Name wd pw] (.Constant (.str "told") j1 p1) pa, .Try [.Expr (.Call (.Name a p2) [] [] p3) p4] [.ExceptHandler (some (.Name "PebbleError" p5)) (some e) [.Assign [.Name wd p6] (.Call (.Name cx p7) [.Name e p8] [] p9) p10] p11] [] [] p12, .Return (some (.Name wd p13)) p14] a q (TTref X.K X.mg T ys m) := by
  intro f c' s H Q tl act hc h
  obtain ⟨D, hD⟩ := hpe
  have h0 : ∀ v : V, L2.start Ng [v] = [some v, none, none] := fun v => by
    rw [hN]
    rfl
  have n1 : Ng[1]? = some wd := by rw [hN]; rfl
  have n2 : Ng[2]? = some e := by rw [hN]; rfl
  obtain ⟨fa, fd, st, N, n, hmg, Fu, Sc, hb, hbody⟩ := C.ex
  let Xg := (cxOf C8.CX0 X.prog X.w X.K X.mg X.base Ng x sg g cdg X.A X.stack s H C8.E0).nox
  have hNg : Xg.N = Ng := rfl
  -- the suite
  have suite : ∀ (b : Addr) (oe : Obj) (cls : Value) (dd : Option Addr) (pn : List (Addr × Obj)), Zc cls dd oe → (∃ vs, oe.data = .fields vs) → PSs (Xg.suite b ((b, oe) :: pn)) [.Assign [.Name wd p6] (.Call (.Name cx p7) [.Name e p8] [] p9) p10]
      (fun W σ H => dd = none ∧ ∃ (z : Str) (Cc : Addr) (w : Str), X.mg z = some (.ref Cc) ∧ cls = .ref Cc ∧ ExcX X.K X.mg ys z ∧ Tabs T H ∧ (∀ a, m a z [.exc a z] = .ok (.str w)) ∧ (σ.length = 3 → σ[2]? = some (some (.ref b)) ∧ ∀ H'', ExtN H H'' → Tabs T H'' → W.nx (σ.set 1 (some (.str w))) H'')) := fun b oe cls dd pn hz hf => by
    refine ⟨fun pins s' σ H' W Iv hh => ?_⟩
    obtain ⟨rfl, z, Cc, w, hmz, rfl, hX, hT, hmw, hw⟩ := hh
    have hlen : σ.length = 3 := Iv.len.trans (by show Ng.length = 3; rw [hN]; rfl)
    obtain ⟨hs2, hw⟩ := hw hlen
    have hcall : PE (Xg.suite b ((b, oe) :: pn)) (.Call (.Name cx p7) [.Name e p8] [] p9) (fun σ H Q => σ[2]? = some (some (V.ref b)) ∧ Tabs T H ∧ ∀ H'', ExtN H H'' → Tabs T H'' → Q (.str w) H'') := by
      refine ⟨fun pins2 s2 σ2 H2 Q2 I2 h2 => ?_⟩
      obtain ⟨hσ, hT2, hQ2⟩ := h2
      refine wpAny_Call_Name_kw (ld_glob I2 (show Gl (Xg.suite b ((b, oe) :: pn)) cx from hgc) (show (Xg.suite b ((b, oe) :: pn)).mg cx = _ from hmg) ?_ hdc)
      have ha : PA (Xg.suite b ((b, oe) :: pn)) [.Name e p8] _ := pa_cons (pv 2 n2 (.inl hl2) hde hde2) pa_nil rfl
      refine PySem.W.callWith_K (h₀ := X.base) I2.ok.mod.kin Fu.kp (thn (ha.run p9 pins2 s2 σ2 H2 (fun vs H3 => vs = [V.ref b] ∧ H3 = H2) I2 ⟨.ref b, hσ, rfl, rfl⟩) fun us s3 hh => ?_) rfl rfl
      obtain ⟨vs, H3, I3, r3, e3, e4⟩ := hh
      subst e3 e4
      obtain ⟨u, rfl, ru⟩ := vals1 r3
      obtain rfl : u = Value.ref b := ru
      have hr2 : L2H.RoomH (k + 1) (Xg.suite b ((b, oe) :: pn)).A := by
        have z := (L2H.roomH_of hr).deeper (envOfC x sg s.heap.objs.size g cdg)
        exact ⟨z.dp, z.un⟩
      refine ⟨I3.kIn, run_suite (k := k) List.mem_cons_self hr2 Fu Sc hb I3 fun cdv hr3 => ?_⟩
      have hEA : ExcAt (L2H.cxH C8.CX0 X.prog X.w X.K X.mg X.base N cx (defScope st) fa cdv (Xg.suite b ((b, oe) :: pn)).A (Xg.suite b ((b, oe) :: pn)).stack s3 H3 C8.E0 (b, oe)) ys b z := by
        obtain ⟨C2, q1, q2, q3, q4, q5⟩ := hX.ex
        rw [hmz] at q1
        cases q1
        exact ⟨_, oe, hmz, List.mem_cons_self, q2, hz, hf, q3, q4⟩
      obtain ⟨gg, hgg, hS⟩ := hbody cdv _ _ s3 H3 b oe z hEA hr3
      refine ⟨_, hS, ⟨H3, []⟩, H3, startF N.length [.exc b z], fr_start (c := ⟨X.K, X.mg, T⟩) N (.cons (.exc b z) .nil) hT2, ?_⟩
      have hm2 := hmw b
      rw [hgg, runD_eq (by rfl)] at hm2
      revert hm2
      cases gg (startF N.length [.exc b z]) with
      | rt d =>
        intro hm2 v H4 e4 t4 r4
        have hm2 : R.ok d = R.ok (PB.D.str w) := hm2
        cases hm2
        cases r4
        exact hQ2 H4 e4 t4
      | nx ρ => intro hm2; cases hm2
      | er y => intro hm2; cases hm2
      | bk ρ => intro hm2; cases hm2
      | cn ρ => intro hm2; cases hm2
      | stuck => intro hm2; cases hm2
    have hset := pss_one (ps_set (X := Xg.suite b ((b, oe) :: pn)) (pos := p10) (pos' := p6) hnd n1 (.inl hl1) hcall rfl (.inr hl1))
    exact hset.run pins s' σ H' W Iv ⟨hs2, hT, hw⟩
  have names : Names Xg "PebbleError" (.ref D) := ⟨hge, by decide, .inl hD⟩
  have htry := ps_try_as (X := Xg) (x := "PebbleError") (n := e) (c := .ref D) (i := 2) (np := p5) (pos := p12) (pos' := p11) (body := [.Expr (.Call (.Name a p2) [] [] p3) p4])
    (tb := fun W D σ H => ∃ Ech : XK, (∀ cls d σ' H', Ech cls d H' → W cls d σ' H') ∧ σ[0]? = some (some (.ref f)) ∧ H c' = some (CodeO c' q) ∧ tl Ech H fun _ H' => D.nx σ H') rfl rfl hnd n2 hl2 names L2.takes0
    (fun W pn xe tk _ => ⟨fun pins s' σ H' D Iv hh => by
      obtain ⟨Ech, hW, q1, q2, q3⟩ := hh
      have hp := act W pn xe Ech p2 p3 tk hW
      exact (pss_one (ps_expr (pos := p4) hp rfl)).run pins s' σ H' D Iv ⟨q1, q2, q3⟩⟩) suite
  refine ⟨_, pss_cons (ps_set (X := Xg) hnd n1 (.inl hl1) pe_str rfl (.inr hl1)) (pss_cons htry (pss_one (ps_ret (pv 1 n1 (.inl hl1) hdw hdw2)))), ?_⟩
  show ∃ Ech : XK, _ ∧ _ ∧ _ ∧ _
  rw [h0]
  refine ⟨_, fun cls d σ' H' hh => ?_, rfl, hc, h⟩
  obtain ⟨rfl, z, Cc, w, hmz, rfl, hX, hT, hmw, hq⟩ := hh
  obtain ⟨C2, q1, q2, q3, q4, q5⟩ := id hX.ex
  rw [hmz] at q1
  cases q1
  refine ⟨true, q5 D hD, fun _ b hb2 => ⟨rfl, z, Cc, w, hmz, rfl, hX, hT, hmw, fun hlen => ?_⟩, fun z => by cases z⟩
  rw [List.length_set] at hlen
  refine ⟨by rw [List.getElem?_set_self (by omega)], fun H'' e2 t2 => ⟨V.str w, ?_, hq H'' e2 t2⟩⟩
  rw [List.getElem?_set_ne (by decide), List.getElem?_set_self (by rw [List.length_set]; omega)]
/-- what the lambda may read: what stays -/
def dropO (ρ : Fr) : Fr := ρ.map fun s => match s with
  | .fz d => .fz d
  | _ => .un
theorem dropO_at {ρ : Fr} {i : Nat} {s : Sl} (h : (dropO ρ)[i]? = some s) : (∃ d, s = .fz d ∧ ρ[i]? = some (.fz d)) ∨ s = .un := by
  unfold dropO at h
  rw [List.getElem?_map] at h
  cases e : ρ[i]? with
  | none => rw [e] at h; cases h
  | some t =>
    rw [e] at h
    cases t with
    | fz d => cases h; exact .inl ⟨d, rfl, rfl⟩
    | un => cases h; exact .inr rfl
    | ow d => cases h; exact .inr rfl
    | om d => cases h; exact .inr rfl
theorem FR.dropped {c : Ct} {B : Bs} {F H H1 : Hp} {σ : L2.St} {ρ : Fr} (fr : FR c B F H σ ρ) (e : ExtN F H1) (t : Tabs c.T H1) : FR c ⟨H1, []⟩ H1 H1 σ (dropO ρ) := by
  refine ⟨.refl H1, t, fun _ _ h => h, fun b o h1 h2 => (by rw [h1] at h2; cases h2), ?_, fun i d h => ?_, fun i d h => ?_, fun i j p d e h => ?_, fun p d h => (by cases h), fun p d h => (by cases h), List.nodup_nil, fun i r h => (by
    rcases dropO_at h with ⟨d', e1, h1⟩ | e1 <;> cases e1)⟩
  · rw [fr.len]
    unfold dropO
    rw [List.length_map]
  · rcases dropO_at h with ⟨d', e1, h1⟩ | e1
    · cases e1
      obtain ⟨v, q1, q2⟩ := fr.fz i d h1
      exact ⟨v, q1, q2.ext e⟩
    · cases e1
  · rcases dropO_at h with ⟨d', e1, h1⟩ | e1 <;> cases e1
  · rcases dropO_at h with ⟨d', e1, h1⟩ | e1 <;> cases e1
def eRef (wd : List (Str × Str)) (f : Fr → R D) : Fr → R D := fun ρ => match f (dropO ρ) with
  | .ok _ => .ok (.str "told")
  | .err x => match wd.lookup x with
    | some w => .ok (.str w)
    | none => .stuck
  | .stuck => .stuck
/-- the code object of a def and its table -/
structure TabX (X : Cx) (T : List (Addr × Str)) (q : Str) : Prop where
  ex : ∃ c P, X.env.code = .ref c ∧ TabB X.base X.mg c P ∧ (P, q) ∈ T ∧ ∀ p ∈ T, p.1 = P → p.2 = q
section
variable {X : Cx} {T : List (Addr × Str)} {E : XK}
theorem p_ref {x a : Str} {st : Stmt} {Ng ys : List Str} {k : Nat} {m : Addr → Str → List D → R D} {wd : List (Str × Str)} {params : Arguments} {body : Expr} {scope : Scope} {f : Fr → R D} {p lpos pos : Pos}
    (hd : ∃ fa fd, X.mg x = some (.ref fa) ∧ L2.Fun X.K x x st fa fd ∧ Binds X.K fd [a] []) (Sg : FnScope Ng [a] (defScope st)) (hNg : Ng[0]? = some a) (hva : Vis (defScope st) a)
    (hG : ∀ g cdg, GivesTo X Ng x (defScope st) g cdg (defBody st) a (X.env.qual ++ "<lambda>") (TTref X.K X.mg T ys m))
    (tb : TabX X T (X.env.qual ++ "<lambda>")) (hr : Room (k + 2) X.A) (hw : ∀ z w, wd.lookup z = some w → ExcX X.K X.mg ys z ∧ ∀ a, m a z [.exc a z] = .ok (.str w))
    (hbody : ∀ (A : Around) (outer : List Env) (s : Shared) (H : Hp) (E : XK) (f' c' : Addr), Room k (A.deeper (lamEnv X scope s.heap.objs.size f' c')) → P (lamCx X A outer s H E scope f' c') T E .f body f)
    (hg : Gl X x := by rfl) (L : LamS X.env.scope scope := by exact lamS_by (by decide +kernel)) (hdef : defaultsOf params X.env = ([], []) := by rfl)
    (hbind : ∀ (q : Str) (cl : List (Str × Addr)) (pm cv ctv : Value), bindArgs (PySem.W.kla_fn "<lambda>" q params body scope cl pm cv ctv) ⟨[], []⟩ = pure [] := by intros; rfl)
    (hdb : (x == ("__debug__" : Str)) = false := by decide) (hda : (a == ("__debug__" : Str)) = false := by decide) (hdc : (a == ("__classdict__" : Str)) = false := by decide) :
    P X T E .f (.Call (.Name x p) [.Lambda params body scope lpos] [] pos) (eRef wd f) := by
  obtain ⟨g, fd, hm, Fu, hb⟩ := hd
  obtain ⟨oc, od, kV, doc, pm, an, cdv, ct0, osl, rfl, lk, hcd⟩ := Fu.ex
  obtain ⟨c, Pt, hcode, TB, hmT, hu⟩ := tb.ex
  have hl := pe_lamcall (p := p) (lpos := lpos) (pos := pos) (t := fun E => tK (ct X T) E .f f) hg hm Fu.kp lk hcd hb Sg hNg hva (hG g cdv) TB hcode hmT hu hr L hdef hbind (fun A outer s H E f' c' hr' => hbody A outer s H E f' c' hr') hdb hda hdc
  refine ⟨fun pins s σ H Q Iv hh => ?_⟩
  obtain ⟨H0, F, ρ, fr, ou⟩ := hh
  have J := narrow Iv fr.sub fr.rest
  refine thn (hl.run (pins ++ restPins s.heap F H) s σ F (fun v F' => ∃ w, v = V.str w ∧ eRef wd f ρ = .ok (.str w) ∧ ExtN F F' ∧ Tabs T F') J ⟨fr.tabs, fun H1 e1 t1 => ?_⟩) fun u s' hh => ?_
  · refine ⟨⟨H1, []⟩, H1, dropO ρ, fr.dropped (c := ct X T) e1 t1, ?_⟩
    revert ou
    unfold eRef
    cases hf : f (dropO ρ) with
    | ok d => exact fun _ F' H' e fr' v r => ⟨_, rfl, "told", rfl, rfl, e1.trans (fr'.ext.trans fr'.extH), fr'.tabs.ext fr'.sub⟩
    | err z =>
      dsimp only
      cases hz : wd.lookup z with
      | none => exact fun o => o.elim
      | some w =>
        obtain ⟨hX, hmw⟩ := hw z w hz
        exact fun _ C H' hC e t => ⟨rfl, z, C, w, hC, rfl, hX, t, hmw, fun H'' e2 t2 => ⟨w, rfl, rfl, e1.trans (e.trans e2), t2⟩⟩
    | stuck => exact fun o => o.elim
  · obtain ⟨v, F', I', r, w, rfl, he, e, t⟩ := hh
    have I2 := widen Iv fr.sub fr.rest I' fun b xs q => e b _ q (fun ps z => by cases z)
    have nR : ∀ b o, H b = some o → F b = none → F' b = none := fun b o q1 q2 => by
      obtain ⟨ob, e', d⟩ := objOk_mut (fr.rest b o q1 q2) (Iv.hok b o q1)
      have hp := mem_restPins (h := s.heap) (H := H) q2 (by rw [q1]; exact fun z => by cases z) e'
      exact (I'.pin (b, ob) (List.mem_append_right _ (List.mem_append_right _ hp))).2.1
    rw [he] at ou
    exact ⟨_, _, I2, r, ou F' _ e (fr.mrg e t nR) _ (.str w)⟩
end
end PB

namespace PB
open PySem PySem.Spec PyProof.Rows L2 LamX
/-! ### PB23: slots are forgotten; defs with their code object; the law's end with tables -/
section
variable {c : Ct} {H0 : Bs} {F H : Hp} {σ : L2.St} {ρ : Fr}
theorem set_un {ρ : Fr} {i j : Nat} {s : Sl} (hs : s ≠ .un) (h : (ρ.set i Sl.un)[j]? = some s) : ρ[j]? = some s := by
  by_cases hj : j = i
  · subst hj
    by_cases hl : j < ρ.length
    · rw [List.getElem?_set_self hl] at h
      cases h
      exact absurd rfl hs
    · rw [List.getElem?_eq_none (by simpa using hl)] at h
      cases h
  · rw [List.getElem?_set_ne (Ne.symm hj)] at h
    exact h
theorem FR.drop (fr : FR c H0 F H σ ρ) (i : Nat) : FR c H0 F H σ (ρ.set i .un) :=
  ⟨fr.ext, fr.tabs, fr.sub, fr.rest, by rw [List.length_set]; exact fr.len, fun j d h => fr.fz j d (set_un (by intro z; cases z) h), fun j d h => fr.ow j d (set_un (by intro z; cases z) h),
    fun j k p d e h1 h2 => fr.dis j k p d e (set_un (by intro z; cases z) h1) (set_un (by intro z; cases z) h2), fr.exo, fun p d hp j e h => fr.exs p d hp j e (set_un (by intro z; cases z) h), fr.exd,
    fr.om.keep (.refl F) (fun j r q => ⟨set_un (by intro z; cases z) q, rfl⟩) (fun b hb => ⟨(fr.om.own hb).1, rfl⟩) (fun b hb j e q => (fr.om.sep hb).1 j e (set_un (by intro z; cases z) q)) fun b hb => (fr.om.sep hb).2⟩
theorem FR.drops (fr : FR c H0 F H σ ρ) : ∀ is : List Nat, FR c H0 F H σ (wipeF ρ is)
  | [] => fr
  | i :: is => (FR.drops fr is).drop i
end
def wipO (is : List Nat) : O → O
  | .nx ρ => .nx (wipeF ρ is)
  | .cn ρ => .cn (wipeF ρ is)
  | .bk ρ => .bk (wipeF ρ is)
  | .rt d => .rt d
  | .er x => .er x
  | .stuck => .stuck
/-- a block behind which these slots are forgotten -/
def sEnd (is : List Nat) (g : Fr → O) : Fr → O := fun ρ => wipO is (g ρ)
theorem apEnd {is : List Nat} {g : Fr → O} {ρ : Fr} : sEnd is g ρ = wipO is (g ρ) := by unfold sEnd; rfl
section
variable {X : Cx} {T : List (Addr × Str)} {E : XK} {rest : List Stmt} {g : Fr → O}
theorem out_wip {c : Ct} {E : XK} {H0 : Bs} {F : Hp} {W : Ends} {o : O} (is : List Nat) (h : OutS c E H0 F W (wipO is o)) : OutS c E H0 F W o := by
  cases o with
  | nx ρ => exact fun σ F' H' e fr => h σ F' H' e (fr.drops is)
  | cn ρ => exact fun σ F' H' e fr => h σ F' H' e (fr.drops is)
  | bk ρ => exact fun σ F' H' e fr => h σ F' H' e (fr.drops is)
  | rt d => exact h
  | er x => exact h
  | stuck => exact h
theorem ss_end (is : List Nat) (h1 : Ss X T E rest g) : Ss X T E rest (sEnd is g) := PSs.mono h1 fun W σ H ⟨H0, F, ρ, fr, ou⟩ => ⟨H0, F, ρ, fr, out_wip is ou⟩
end
/-- a def whose code object stands at c -/
structure FunC (K : PySem.W.Frag) (x : Str) (st : Stmt) (fa : Addr) (fd : FuncData) (c : Addr) : Prop where
  ex : ∃ (oc : Value) (od : Option Addr) (kV doc pm : Value) (an : Option Addr) (ct : Value) (osl : Array (Option Value)),
    fd = PySem.W.fnOf x x (defArgs st) (defBody st) (defScope st) .none kV doc pm an (.ref c) ct ∧ K.lookup fa = some ⟨oc, od, .func fd, osl⟩ ∧ PySem.W.codeIn K (.ref c) x = true
  kp : PySem.W.keepIn K (.ref fa) = true
section
variable {P : Program} {w : World} {K : PySem.W.Frag} {mg : Str → Option Value} {base : Heap} {T : List (Addr × Str)} {x : Str} {st : Stmt} {fa c : Addr} {fd : FuncData} {N ps : List Str} {k : Nat} {g : Fr → O}
theorem funC_mk {oc : Value} {od an : Option Addr} {osl : Array (Option Value)} {kV doc pm ct : Value} (l : K.lookup fa = some ⟨oc, od, .func (PySem.W.fnOf x x (defArgs st) (defBody st) (defScope st) .none kV doc pm an (.ref c) ct), osl⟩)
    (h : PySem.W.codeIn K (.ref c) x = true) (kp : PySem.W.keepIn K (.ref fa) = true) : FunC K x st fa (PySem.W.fnOf x x (defArgs st) (defBody st) (defScope st) .none kV doc pm an (.ref c) ct) c := ⟨⟨oc, od, kV, doc, pm, an, ct, osl, rfl, l, h⟩, kp⟩
theorem FunC.fun (F : FunC K x st fa fd c) : L2.Fun K x x st fa fd := by
  obtain ⟨oc, od, kV, doc, pm, an, ct, osl, e, l, h⟩ := F.ex
  exact ⟨⟨oc, od, kV, doc, pm, an, .ref c, ct, osl, e, l, h⟩, F.kp⟩
theorem fn_mkC (Fu : FunC K x st fa fd c) (Sc : FnScope N ps (defScope st))
    (body : ∀ (A : Around) (outer : List Env) (s : Shared) (H : Hp) (E : XK), Room k (A.deeper (envOfC x (defScope st) s.heap.objs.size fa (.ref c))) → Ss (cxOf (L2.CX P w) P w K mg base N x (defScope st) fa (.ref c) A outer s H E) T E (defBody st) g) :
    FnOk P w K mg base (L2.CX P w) (k + 1) fa fd ps (spD ⟨K, mg, T⟩ ps.length (runD N.length ps.length g)) := by
  obtain ⟨oc, od, kV, doc, pm, an, ct, osl, rfl, lk, hcd⟩ := Fu.ex
  refine fn_of lk hcd Sc (fun vs H Q E ⟨ds, h1, h2, _⟩ => by rw [h2.length, h1]) fun A outer s H vs Q E hr ⟨ds, h1, h2, h3, h4⟩ => ?_
  refine ⟨_, body A outer s H E hr, ⟨H, []⟩, H, startF N.length ds, fr_start N h2 h3, ?_⟩
  unfold runD at h4
  rw [if_pos h1] at h4
  revert h4
  cases g (startF N.length ds) with
  | nx ρ => exact fun h4 σ F' H' e fr => h4 .non H' (fr.ext.trans fr.extH) (fr.tabs.ext fr.sub) .non
  | rt d => exact fun h4 v H' e t r => h4 v H' e t r
  | er y => exact fun h4 C H' hC e t => h4 C H' hC e t
  | bk ρ => exact fun h4 => h4.elim
  | cn ρ => exact fun h4 => h4.elim
  | stuck => exact fun h4 => h4
theorem kn_mkC (Fu : FunC K x st fa fd c) (Sc : FnScope N ps (defScope st)) (hm : mg x = some (.ref fa)) (hb : Binds K fd ps [])
    (body : ∀ (A : Around) (outer : List Env) (s : Shared) (H : Hp) (E : XK), Room k (A.deeper (envOfC x (defScope st) s.heap.objs.size fa (.ref c))) → Ss (cxOf (L2.CX P w) P w K mg base N x (defScope st) fa (.ref c) A outer s H E) T E (defBody st) g) :
    Kn P w K mg base T x (k + 1) ps.length (runD N.length ps.length g) := ⟨fa, fd, ps, hm, fn_mkC Fu Sc body, Fu.kp, hb⟩
/-- a def with its code object and the table of that -/
structure DefT (K : PySem.W.Frag) (mg : Str → Option Value) (base : Heap) (T : List (Addr × Str)) (x : Str) (st : Stmt) (ps : List Str) : Prop where
  ex : ∃ (fa : Addr) (fd : FuncData) (c Pt : Addr), mg x = some (.ref fa) ∧ FunC K x st fa fd c ∧ Binds K fd ps [] ∧ TabB base mg c Pt ∧ (Pt, x ++ ".<locals>." ++ "<lambda>") ∈ T ∧ ∀ p ∈ T, p.1 = Pt → p.2 = x ++ ".<locals>." ++ "<lambda>"
end
end PB

namespace PB
open PySem PySem.Spec PyProof.Rows L2 LamX
/-! ### PB24: the end of a law with lambdas -/
def ys14 : List Str := ["NoWeb", "NoPlace", "NoNumber", "NoStanding", "NoMove", "NoRun", "NotWhole", "NotTree", "NoPaper", "TooMany", "NoDemands", "NoText", "NoDeed", "NoRow"]
def ysX : List Str := ["NoWeb", "NoPlace", "NoNumber", "NoStanding", "NoMove", "NoRun", "NotWhole", "NotTree", "NoPaper", "TooMany", "NoDemands", "NoText", "NoDeed", "NoRow", "PebbleError"]
/-- a scope's names seen from the scope in which it stands -/
abbrev rscp (scope sc : Scope) : Scope := relabel scope { (default : Env) with scope := sc }
open PySem.W in
def excOne (K : Frag) (pe : Addr) (ys : List (Str × Addr)) (x : Str) (C : Addr) : Bool :=
  (findIn K (.ref C) "__getattribute__" == some (some (.builtin "BaseException.__getattribute__"))) && (findIn K (.ref C) "__getattr__" == some none) && (subIn K (.ref C) (.type "BaseException") == some true) && hasDictIn K C &&
  (findIn K (.ref C) "__class__" == some (some (.builtin "object.__class__"))) && (mroIn K C (.type "object") == some true) && (kitOne K (.ref C) (.type "ValueError") == some true) && (exmOne K (.ref C) (.ref pe) == some true) &&
  ys.all fun y => kitOne K (.ref C) (.ref y.2) == some (isSub x y.1)
open PySem.W in
def excChk (K : Frag) (pe : Addr) (xs ys : List (Str × Addr)) : Bool :=
  (specialIn K (.builtin "object.__class__") "__get__" == some (some (.builtin "getset_descriptor.__get__"))) && (takesIn K (.builtin "object.__class__") == some true) && xs.all fun p => excOne K pe ys p.1 p.2
theorem exc_of {K : PySem.W.Frag} {mg : Str → Option Value} {pe : Addr} {xs ys : List (Str × Addr)} (h : excChk K pe xs ys = true) (hy : ∀ y ∈ ys, mg y.1 = some (.ref y.2)) (hx : ∀ x ∈ xs, mg x.1 = some (.ref x.2)) (hpe : mg "PebbleError" = some (.ref pe)) (hn : ys.map (·.1) = ysX) :
    ∀ z ∈ xs.map (·.1), ExcX K mg ysX z := fun z hz => by
  obtain ⟨p, hp, rfl⟩ := List.mem_map.mp hz
  unfold excChk at h
  rw [Bool.and_eq_true, Bool.and_eq_true] at h
  have h1 := List.all_eq_true.mp h.2 p hp
  unfold excOne at h1
  simp only [Bool.and_eq_true, beq_iff_eq] at h1
  obtain ⟨⟨⟨⟨⟨⟨⟨⟨a1, a2⟩, a3⟩, a4⟩, a5⟩, a6⟩, a7⟩, a8⟩, a9⟩ := h1
  refine ⟨p.2, hx p hp, ⟨a1, a2, a3, a4, a5, by simpa using h.1.1, by simpa using h.1.2, a6⟩, fun y hy2 => ?_, a7, fun D hD => ?_⟩
  · rw [← hn] at hy2
    obtain ⟨r, hr, rfl⟩ := List.mem_map.mp hy2
    have := List.all_eq_true.mp a9 r hr
    exact ⟨r.2, hy r hr, by simpa using this⟩
  · rw [hpe] at hD
    cases hD
    exact a8
/-- what stands in a code object -/
def CodeV (vs : Array Value) (c Pt : Addr) : Prop := ∃ (file : Str) (tf : Tok) (flags : Int) (tg : Tok) (inF : Bool) (text : Int) (tt : Tok), vs[11]? = some (.ref Pt) ∧ vs.getD 11 .none = .ref Pt ∧ vs.getD 18 .none = .str file tf ∧ vs.getD 7 .none = .int flags tg ∧ vs.getD 9 .none = .bool inF ∧ vs.getD 10 .none = .int text tt ∧ c ≠ Pt
theorem codeHd_mk {K : PySem.W.Frag} {h : Heap} {c Pt : Addr} {od : Option Addr} {vs : Array Value} {sl : Array (Option Value)} (X : K.In h) (k : K.lookup c = some ⟨.type "code", od, .fields vs, sl⟩) (v : CodeV vs c Pt) : PySem.W.CodeHd h c Pt := by
  obtain ⟨file, tf, flags, tg, inF, text, tt, h1, h2, h3, h4, h5, h6, h7⟩ := v
  exact ⟨_, vs, file, tf, flags, tg, inF, text, tt, X _ _ k, rfl, rfl, h1, h2, h3, h4, h5, h6, h7⟩
/-- the law's own promise, with tables -/
def spLawT (K : PySem.W.Frag) (T : List (Addr × Str)) : Sp := fun vs H Q _ => ∃ (a : Addr) (ns : List Int), vs = [.ref a] ∧ SqL K H a (ns.map V.int) ∧ ns.length ≤ 63 ∧ Tabs T H ∧ ∀ H', Q (.bl true) H'
section
variable {P : Program} {w : World} {K : PySem.W.Frag} {mg : Str → Option Value} {base : Heap} {T : List (Addr × Str)}
theorem law_fnT {fa : Addr} {fd : FuncData} {ps : List Str} {k : Nat} {m : List D → R D} (h : FnOk P w K mg base (L2.CX P w) k fa fd ps (spD ⟨K, mg, T⟩ 1 m)) (hm : ∀ ns : List Int, ns.length ≤ 63 → m [.scr ns] = .ok (.bl true)) :
    FnOk P w K mg base (L2.CX P w) k fa fd ps (spLawT K T) := h.imp fun vs H Q E ⟨a, ns, e, hS, hl, hT, q⟩ => ⟨[.scr ns], rfl, e ▸ .cons (.scr hS) .nil, hT, (by
      rw [hm ns hl]
      intro v H' _ _ r
      cases r
      exact q H')⟩
end
/-- code objects, their tables, the names in them -/
def csOf (ts : List (Addr × Addr × Str)) : List (Addr × Addr) := ts.map fun t => (t.1, t.2.1)
def tsOf (ts : List (Addr × Addr × Str)) : List (Addr × Str) := ts.map fun t => (t.2.1, t.2.2)
theorem tabs_of {ts : List (Addr × Addr × Str)} {H : Hp} (h : ∀ p ∈ csOf ts, H p.2 = some (.tbl #[])) : Tabs (tsOf ts) H := fun p hp => by
  obtain ⟨t, ht, rfl⟩ := List.mem_map.mp hp
  exact TabS.nil (h (t.1, t.2.1) (List.mem_map.mpr ⟨t, ht, rfl⟩))
theorem ts_mem {ts : List (Addr × Addr × Str)} {c Pt : Addr} {q : Str} (h : (c, Pt, q) ∈ ts) : (Pt, q) ∈ tsOf ts := List.mem_map.mpr ⟨_, h, rfl⟩
theorem cs_mem {ts : List (Addr × Addr × Str)} {c Pt : Addr} {q : Str} (h : (c, Pt, q) ∈ ts) : (c, Pt) ∈ csOf ts := List.mem_map.mpr ⟨_, h, rfl⟩
theorem ts_one {ts : List (Addr × Addr × Str)} {c Pt : Addr} {q : Str} (h : (c, Pt, q) ∈ ts) (nd : (ts.map fun t => t.2.1).Nodup) : ∀ p ∈ tsOf ts, p.1 = Pt → p.2 = q := fun p hp e => by
  obtain ⟨t, ht, rfl⟩ := List.mem_map.mp hp
  have e : t.2.1 = Pt := e
  show t.2.2 = q
  obtain ⟨i, hi, ei⟩ := List.getElem_of_mem ht
  obtain ⟨j, hj, ej⟩ := List.getElem_of_mem h
  have hij : i = j := by
    refine (List.getElem_inj (xs := ts.map fun t => t.2.1) (h₀ := by simpa using hi) (h₁ := by simpa using hj) nd).mp ?_
    rw [List.getElem_map, List.getElem_map, ei, ej, e]
  subst hij
  rw [ei] at ej
  rw [ej]
end PB
namespace PB
open PySem
theorem al_nil {α : Type} {Q : α → Prop} : ∀ p ∈ ([] : List α), Q p := fun p hp => by cases hp
theorem al_cons {α : Type} {Q : α → Prop} {a : α} {xs : List α} (h : Q a) (t : ∀ p ∈ xs, Q p) : ∀ p ∈ a :: xs, Q p := fun p hp => by
  rcases List.mem_cons.mp hp with rfl | hp
  · exact h
  · exact t p hp
theorem ca_nil {Q : Addr × Addr → Prop} : ∀ p ∈ csOf [], Q p := fun p hp => by cases hp
theorem ca_cons {Q : Addr × Addr → Prop} {c Pt : Addr} {q : Str} {ts : List (Addr × Addr × Str)} (h : Q (c, Pt)) (t : ∀ p ∈ csOf ts, Q p) : ∀ p ∈ csOf ((c, Pt, q) :: ts), Q p := al_cons h t
end PB

namespace PB
open PySem PySem.Spec PyProof.Rows L2 LamX
/-! ### PB25: sorted of whole numbers and of tuples of whole numbers; xs.insert -/
def leI (a b : Int) : Bool := decide (a ≤ b)
def leR (a b : List Int) : Bool := decide (a ≤ b)
def rowD (r : List Int) : D := .tup (r.map D.int)
def rowOf : D → Option (List Int)
  | .tup xs => match D.ints xs with
    | some (n :: ns) => some (n :: ns)
    | _ => none
  | _ => none
def rowsOf : List D → Option (List (List Int))
  | [] => some []
  | x :: r => match rowOf x, rowsOf r with
    | some a, some as => some (a :: as)
    | _, _ => none
theorem rowOf_eq {d : D} {r : List Int} (h : rowOf d = some r) : d = rowD r ∧ r ≠ [] := by
  unfold rowOf at h
  split at h
  · split at h
    · rename_i xs n ns e
      cases h
      exact ⟨congrArg D.tup (D.ints_map e), by simp⟩
    · cases h
  · cases h
theorem rowsOf_eq : ∀ {ds : List D} {rs : List (List Int)}, rowsOf ds = some rs → ds = rs.map rowD ∧ ∀ r ∈ rs, r ≠ []
  | [], _, h => by cases h; exact ⟨rfl, fun r hr => by cases hr⟩
  | x :: t, rs, h => by
    rw [rowsOf] at h
    cases e1 : rowOf x with
    | none => rw [e1] at h; cases h
    | some a =>
      cases e2 : rowsOf t with
      | none => rw [e1, e2] at h; cases h
      | some as =>
        rw [e1, e2] at h
        cases h
        obtain ⟨h1, h2⟩ := rowOf_eq e1
        obtain ⟨h3, h4⟩ := rowsOf_eq e2
        refine ⟨by rw [h1, h3]; rfl, fun r hr => ?_⟩
        rcases List.mem_cons.mp hr with rfl | hr
        · exact h2
        · exact h4 r hr
def sortL (xs : List D) : R D := match D.ints xs with
  | some ns => .ok (.lst ((ns.mergeSort leI).map D.int))
  | none => match rowsOf xs with
    | some rs => .ok (.lst ((rs.mergeSort leR).map rowD))
    | none => .stuck
def sortedD : List D → R D
  | [.lst xs] => sortL xs
  | [.tup xs] => sortL xs
  | _ => .stuck
theorem dataLe_rowsT {β : Type} (x : β → List Int) : PySem.W.dataLe false (fun b => PyData.tuple ((x b).map .int)) = fun p q => leR (x p) (x q) := by
  funext p q
  have e := congrFun (congrFun (PySem.W.dataLe_rows (β := β) x) p) q
  have t : PySem.W.dataLt (.tuple ((x q).map .int)) (.tuple ((x p).map .int)) = PySem.W.dataLt (.list ((x q).map .int)) (.list ((x p).map .int)) := by rw [PySem.W.dataLt_tuple, PySem.W.dataLt_list]
  show (!PySem.W.dataLt (.tuple ((x q).map .int)) (.tuple ((x p).map .int))) = _
  rw [t]
  exact e
theorem py_row (r : List Int) : (rowD r).py = .tuple (r.map .int) := by
  show D.py (.tup (r.map D.int)) = _
  rw [D.py, D.pys_map, List.map_map]
  refine congrArg PyData.tuple (List.map_congr_left fun i _ => ?_)
  show D.py (.int i) = _
  rw [D.py]
theorem lay_row (r : List Int) : (rowD r).py.canLay0 = true := by
  rw [py_row, PyData.canLay0]
  induction r with
  | nil => simp [PyData.canLayAll0]
  | cons i r ih => rw [List.map_cons, PyData.canLayAll0, PyData.canLay0, ih]; rfl
theorem depth_row (r : List Int) : (PyData.tuple (r.map .int)).depth ≤ 1 := by
  have e := PySem.W.depth_ints r
  rw [PyData.depth, e]
  exact Nat.le_refl _
def rSortI2 (K : PySem.W.Frag) : List V → Hp → VK → Prop := fun vs H Q => ∃ (a : Addr) (ns : List Int), vs = [V.ref a] ∧ SqL K H a (ns.map V.int) ∧ ∀ p, H p = none → Q (.ref p) (upd H p (.lst ((ns.mergeSort leI).map V.int)))
theorem sorted_unique {ns ms : List Int} (h1 : ms.Perm ns) (h2 : ms.Pairwise (· ≤ ·)) : ms = ns.mergeSort leI := by
  have p : ms.Perm (ns.mergeSort leI) := h1.trans (List.mergeSort_perm ns leI).symm
  have s : (ns.mergeSort leI).Pairwise fun a b => a ≤ b := (List.pairwise_mergeSort (le := leI) (fun a b c h1 h2 => by unfold leI at *; simp only [decide_eq_true_eq] at *; omega) (fun a b => by unfold leI; simp only [Bool.or_eq_true, decide_eq_true_eq]; omega) ns).imp fun {a b} h => by unfold leI at h; simpa using h
  exact p.eq_of_pairwise (le := (· ≤ ·)) (fun a b _ _ h1 h2 => Int.le_antisymm h1 h2) h2 s
theorem cr_sortI2 {X : Cx} : CallR X (.builtin "sorted") (rSortI2 X.K) := by
  intro pins s σ H vs us Q Iv r hh
  obtain ⟨a, ns, rfl, hs, q⟩ := hh
  exact cr_sortedI pins s σ H _ us Q Iv r ⟨a, ns, rfl, hs, fun ms p h1 h2 hp => by rw [sorted_unique h1 h2]; exact q p hp⟩
/-- a sorted list of tuples; F: the part of the heap that stays -/
def rSortR (K : PySem.W.Frag) (mg : Str → Option Value) (T : List (Addr × Str)) : List V → Hp → VK → Prop := fun xs H Q => ∃ (a : Addr) (F : Hp) (vs : List V) (rs : List (List Int)), xs = [V.ref a] ∧ SqL K H a vs ∧ ExtN F H ∧ Reps ⟨K, mg, T⟩ F vs (rs.map rowD) ∧ (∀ r ∈ rs, r ≠ []) ∧
  ∀ (ws : List V) (p : Addr), Reps ⟨K, mg, T⟩ F ws ((rs.mergeSort leR).map rowD) → H p = none → Q (.ref p) (upd H p (.lst ws))
theorem each_of {c : Ct} {F : Hp} : ∀ {vs : List V} {us : List Value} {rs : List (List Int)}, Vals vs us → Reps c F vs (rs.map rowD) → PySem.W.EachIs (fun u r => ∃ v, RelV v u ∧ Rep c F v (rowD r)) us rs
  | _, _, [], .nil, .nil => .nil
  | _, _, r :: rs, .cons h t, .cons h2 t2 => .cons ⟨_, h, h2⟩ (each_of t t2)
theorem of_each {c : Ct} {F : Hp} : ∀ {us : List Value} {rs : List (List Int)}, PySem.W.EachIs (fun u r => ∃ v, RelV v u ∧ Rep c F v (rowD r)) us rs → ∃ vs, Vals vs us ∧ Reps c F vs (rs.map rowD)
  | _, _, .nil => ⟨[], .nil, .nil⟩
  | _, _, .cons ⟨v, h1, h2⟩ t => by
    obtain ⟨vs, h3, h4⟩ := of_each t
    exact ⟨v :: vs, .cons h1 h3, .cons h2 h4⟩
theorem cr_sortR {X : Cx} {T : List (Addr × Str)} (hu : X.A.units + 65 < cLine) : CallR X (.builtin "sorted") (rSortR X.K X.mg T) := by
  intro pins s σ H xs us Q Iv r hh
  obtain ⟨a, F, vs, rs, rfl, hs, hF, hr, hne, q⟩ := hh
  rw [Vals.ref1 r]
  obtain ⟨its, rv, hl, hz⟩ := Iv.list hs
  have hlen : rs.length = its.length := by
    have e1 := hr.length
    have e2 := rv.length
    rw [List.length_map] at e1
    omega
  have E1 := each_of rv hr
  refine PySem.W.sorted_data (R := fun u r => ∃ v, RelV v u ∧ Rep ⟨X.K, X.mg, T⟩ F v (rowD r)) (enc := fun r => PyData.tuple (r.map .int)) hl.isList E1 ?g1 ?g2 ?g3 ?g4 ?g5 ?g6
  case g1 =>
    refine E1.mono fun u r hh => ?_
    obtain ⟨v, h1, h2⟩ := hh
    have := Dp.reads Iv (rowD r).py v u (Rep.dp (h2.ext hF) (lay_row r)) h1
    rw [py_row] at this
    exact this
  case g2 =>
    refine PySem.W.AllAlike.of fun b b' => ?_
    rw [PySem.W.alike]
    exact PySem.W.alike_ints b b'
  case g3 =>
    refine .inl fun d hd => ?_
    obtain ⟨b, hb, rfl⟩ := List.mem_map.mp hd
    cases b with
    | nil => exact absurd rfl (hne _ hb)
    | cons i b => exact ⟨_, _, rfl⟩
  case g4 =>
    rw [hlen, ← rv.length]
    exact hz
  case g5 =>
    intro b hb
    have := depth_row b
    omega
  case g6 =>
    intro out ho eo
    have e := dataLe_rowsT (β := List Int) fun r => r
    rw [e] at eo
    obtain ⟨ws, h1, h2⟩ := of_each eo
    obtain ⟨ep, he'⟩ := PyProof.Rows.sortedAll_at s.heap its out.toArray
    have hl2 : ws.length ≤ sizeLine := by
      rw [h1.length, ho, hlen, ← rv.length]
      exact hz
    exact ⟨.ref _, upd H (s.heap.objs.size + 1) (.lst ws), Iv.laid (t' := s.toks) (fun _ _ => PyProof.Rows.sortedAll_old) (Nat.le_succ _) ⟨hl2, out, ep, h1, he'⟩, rfl, q ws _ h2 (Iv.hok.fresh (Nat.le_succ _))⟩
/-! the same of a tuple -/
theorem each_g {β : Type} (f : β → D) {c : Ct} {F : Hp} : ∀ {vs : List V} {us : List Value} {rs : List β}, Vals vs us → Reps c F vs (rs.map f) → PySem.W.EachIs (fun u r => ∃ v, RelV v u ∧ Rep c F v (f r)) us rs
  | _, _, [], .nil, .nil => .nil
  | _, _, r :: rs, .cons h t, .cons h2 t2 => .cons ⟨_, h, h2⟩ (each_g f t t2)
theorem g_each {β : Type} (f : β → D) {c : Ct} {F : Hp} : ∀ {us : List Value} {rs : List β}, PySem.W.EachIs (fun u r => ∃ v, RelV v u ∧ Rep c F v (f r)) us rs → ∃ vs, Vals vs us ∧ Reps c F vs (rs.map f)
  | _, _, .nil => ⟨[], .nil, .nil⟩
  | _, _, .cons ⟨v, h1, h2⟩ t => by
    obtain ⟨vs, h3, h4⟩ := g_each f t
    exact ⟨v :: vs, .cons h1 h3, .cons h2 h4⟩
def rSortG {β : Type} (f : β → D) (le : β → β → Bool) (okk : List β → Prop) (K : PySem.W.Frag) (mg : Str → Option Value) (T : List (Addr × Str)) : List V → Hp → VK → Prop := fun xs H Q => ∃ (a : Addr) (F : Hp) (vs : List V) (bs : List β), xs = [V.ref a] ∧ H a = some (.tup vs) ∧ ExtN F H ∧ Reps ⟨K, mg, T⟩ F vs (bs.map f) ∧ okk bs ∧
  ∀ (ws : List V) (p : Addr), Reps ⟨K, mg, T⟩ F ws ((bs.mergeSort le).map f) → H p = none → Q (.ref p) (upd H p (.lst ws))
theorem cr_sortG {β : Type} {f : β → D} {enc : β → PyData} {le : β → β → Bool} {okk : List β → Prop} {X : Cx} {T : List (Addr × Str)} (hu : X.A.units + 65 < cLine) (hpy : ∀ b, (f b).py = enc b) (hlay : ∀ b, (f b).py.canLay0 = true) (hal : ∀ b b', PySem.W.alike (enc b) (enc b') = true) (hdep : ∀ b, (enc b).depth ≤ 1)
    (hk : ∀ bs, okk bs → PySem.W.Sortable (bs.map enc)) (hle : PySem.W.dataLe false enc = le) : CallR X (.builtin "sorted") (rSortG f le okk X.K X.mg T) := by
  intro pins s σ H xs us Q Iv r hh
  obtain ⟨a, F, vs, bs, rfl, ha, hF, hr, hok, q⟩ := hh
  rw [Vals.ref1 r]
  obtain ⟨hz, its, rv, o, ho, hc, n, hd⟩ := Iv.hok a _ ha
  have hlen : bs.length = its.length := by
    have e1 := hr.length
    have e2 := rv.length
    rw [List.length_map] at e1
    omega
  have hL : its.length ≤ sizeLine := by rw [← rv.length]; exact hz
  refine call_function_entry_kw PyProof.Rows.kind_sorted PyProof.Rows.plain_sorted PyProof.Rows.entry_sorted (PyProof.Rows.args_sorted1 _) ?_
  unfold Builtin.«sorted»
  refine wpAny_bind (m := checkCount "sorted" 1 1 _) (wpAny_pure ?_)
  refine wpAny_bind (wpAny_collect_seq a (.inr rfl) ho hc hd (fun h' hkp => ?_) (by rw [List.size_toArray]; exact hL))
  have I2 : Inv X pins σ H { s with heap := h' } := Iv.kept (t' := s.toks) hkp
  rw [show its.toArray.toList = its by simp]
  refine wpAny_bind (wpAny_newList ?_ hL)
  dsimp only
  have hob : (h'.push { cls := .type "list", data := .seq its.toArray }).get? h'.objs.size = some (seqObj "list" its.toArray 0) := Heap.get?_push_size _ rfl
  have E1 := each_g f rv hr
  have kp : ∀ b u, h'.get? b = some u → (PySem.W.sortingHeap (h'.push { cls := .type "list", data := .seq its.toArray }) h'.objs.size its).get? b = some u := fun b u e => PySem.W.sortingHeap_old (Nat.ne_of_lt (Heap.lt_size e)) (Heap.get?_push_of_some _ e)
  have E2 : PySem.W.EachIs (fun v b => ∃ as, Reads (PySem.W.sortingHeap (h'.push { cls := .type "list", data := .seq its.toArray }) h'.objs.size its) v (enc b) as) its bs := E1.mono fun u b hh => by
    obtain ⟨v, h1, h2⟩ := hh
    have := Dp.reads I2 (f b).py v u (Rep.dp (h2.ext hF) (hlay b)) h1
    rw [hpy] at this
    obtain ⟨as, rr⟩ := this
    exact ⟨as, PyProof.Rows.Reads.keeps kp rr⟩
  have al : PySem.W.AllAlike (bs.map enc) := PySem.W.AllAlike.of hal
  refine wpAny_bind (wpAny_holding (wpAny_call_entry_kw PyProof.Rows.slot_list_sort ⟨_, hob, rfl⟩ PyProof.Rows.entry_list_sort ?body (PyProof.Rows.args_list_sort _)))
  case body =>
    show wpAny (model X.prog X.w) X.A.in1.in1 (Builtin.«list.sort» ⟨[.ref h'.objs.size], []⟩) _ _ _
    refine PySem.W.list_sort_vals (κ := PySem.W.dataKind (PySem.W.sortingHeap (h'.push { cls := .type "list", data := .seq its.toArray }) h'.objs.size its) (bs.map enc)) hob
      (PySem.W.SortsAt.data (PySem.W.each_map (R := fun v d => ∃ as, Reads (PySem.W.sortingHeap (h'.push { cls := .type "list", data := .seq its.toArray }) h'.objs.size its) v d as) enc E2) al (hk bs hok) (fun d hd => ?_)) hL ?_
    · obtain ⟨b, _, rfl⟩ := List.mem_map.mp hd
      have := hdep b
      show X.A.units + 1 + 1 + (enc b).depth < cLine
      omega
    · refine ⟨_, rfl, wpAny_pure ?_⟩
      have eo := PySem.W.sortVals_data (R := fun u r => ∃ v, RelV v u ∧ Rep ⟨X.K, X.mg, T⟩ F v (f r)) false E1 E2 al
      rw [hle] at eo
      generalize PySem.W.sortVals (PySem.W.dataKind (PySem.W.sortingHeap (h'.push { cls := .type "list", data := .seq its.toArray }) h'.objs.size its) (bs.map enc)) false its its = out at eo
      obtain ⟨ws, h1, h2⟩ := g_each f eo
      obtain ⟨ep, he'⟩ := PyProof.Rows.sortedHeap_at (vs := its) (out := out.toArray) hob
      have hl2 : ws.length ≤ sizeLine := by
        have e1 := h2.length
        rw [List.length_map, (List.mergeSort_perm _ _).length_eq] at e1
        omega
      have kk : ∀ b u, h'.get? b = some u → (PyProof.Rows.sortedHeap (h'.push { cls := .type "list", data := .seq its.toArray }) h'.objs.size its out.toArray).get? b = some u := fun b u e => by
        have hlt := Heap.lt_size e
        rw [PyProof.Rows.sortedHeap_old (Nat.ne_of_lt hlt) (Heap.lt_size (Heap.get?_push_of_some _ e))]
        exact Heap.get?_push_of_some _ e
      exact ⟨_, rfl, .ref h'.objs.size, upd H h'.objs.size (.lst ws), I2.laid (t' := s.toks) kk (Nat.le_refl _) ⟨hl2, out, ep, h1, he'⟩, rfl, q ws _ h2 (I2.hok.fresh (Nat.le_refl _))⟩
def okT (_ : List Int) : Prop := True
def okR (rs : List (List Int)) : Prop := ∀ r ∈ rs, r ≠ []
theorem cr_sortTI {X : Cx} {T : List (Addr × Str)} (hu : X.A.units + 65 < cLine) : CallR X (.builtin "sorted") (rSortG D.int leI okT X.K X.mg T) :=
  cr_sortG (enc := fun n => PyData.int n) hu (fun b => by rw [D.py]) (fun b => by rw [D.py, PyData.canLay0]) (fun _ _ => by rw [PySem.W.alike]) (fun b => by rw [PyData.depth]; exact Nat.zero_le _)
    (fun bs _ => .inr fun d hd => by
      obtain ⟨b, _, rfl⟩ := List.mem_map.mp hd
      exact ⟨(fun e => (by cases e)), fun xs e => (by cases e)⟩) (PySem.W.dataLe_int fun n => n)
theorem cr_sortTR {X : Cx} {T : List (Addr × Str)} (hu : X.A.units + 65 < cLine) : CallR X (.builtin "sorted") (rSortG rowD leR okR X.K X.mg T) :=
  cr_sortG (enc := fun r => PyData.tuple (r.map .int)) hu py_row lay_row (fun b b' => by
    rw [PySem.W.alike]
    exact PySem.W.alike_ints b b') depth_row
    (fun bs hb => .inl fun d hd => by
      obtain ⟨b, hb2, rfl⟩ := List.mem_map.mp hd
      cases b with
      | nil => exact absurd rfl (hb _ hb2)
      | cons i b => exact ⟨_, _, rfl⟩) (dataLe_rowsT (β := List Int) fun r => r)
section
variable {X : Cx} {T : List (Addr × Str)} {E : XK} {a : Expr} {fs : Fr → R (List D)} {p pos : Pos} {j : Nat}
theorem s_sorted : CallS (ct X T) .n (fun xs H Q => (rSortI2 X.K xs H Q ∨ rSortR X.K X.mg T xs H Q) ∨ (rSortG D.int leI okT X.K X.mg T xs H Q ∨ rSortG rowD leR okR X.K X.mg T xs H Q)) sortedD := by
  intro H0 F H σ ρ E vs ds Q fr rv o
  unfold sortedD at o
  split at o
  · unfold sortL at o
    split at o
    · rename_i xs ns hn
      obtain ⟨v, rfl, r⟩ := reps1 rv
      obtain ⟨a, ws, rfl, h1, r1⟩ := r.lst fr
      rw [D.ints_map hn] at r1
      cases r1.ints
      exact .inl (.inl ⟨a, ns, rfl, .of h1, fun p hp => new_own fr (Reps.of_ints _) o hp⟩)
    · split at o
      · rename_i xs _ rs hr
        obtain ⟨v, rfl, r⟩ := reps1 rv
        obtain ⟨a, ws, rfl, h1, r1⟩ := r.lst fr
        obtain ⟨e1, e2⟩ := rowsOf_eq hr
        rw [e1] at r1
        exact .inl (.inr ⟨a, F, ws, rs, rfl, .of h1, fr.extH, r1, e2, fun us p hus hp => new_own fr hus o hp⟩)
      · exact o.elim
  · unfold sortL at o
    split at o
    · rename_i xs ns hn
      obtain ⟨v, rfl, r⟩ := reps1 rv
      obtain ⟨a, ws, rfl, h1, _, r1⟩ := r.tup fr
      rw [D.ints_map hn] at r1
      exact .inr (.inl ⟨a, F, ws, ns, rfl, h1, fr.extH, r1, trivial, fun us p hus hp => new_own fr hus o hp⟩)
    · split at o
      · rename_i xs _ rs hr
        obtain ⟨v, rfl, r⟩ := reps1 rv
        obtain ⟨a, ws, rfl, h1, _, r1⟩ := r.tup fr
        obtain ⟨e1, e2⟩ := rowsOf_eq hr
        rw [e1] at r1
        exact .inr (.inr ⟨a, F, ws, rs, rfl, h1, fr.extH, r1, e2, fun us p hus hp => new_own fr hus o hp⟩)
      · exact o.elim
  · exact o.elim
theorem p_sorted (hm : X.mg "sorted" = none) (hr : Room j X.A) (ha : Pb X T E [a] fs) (hg : Gl X "sorted" := by rfl) (he : starEach [a] X.env = (false, eval a X.env) :: starEach [] X.env := by rfl) : P X T E .n (.Call (.Name "sorted" p) [a] [] pos) (eB sortedD fs) :=
  p_blt (CallR.or (CallR.or cr_sortI2 (cr_sortR (Room.u65 hr))) (CallR.or (cr_sortTI (Room.u65 hr)) (cr_sortTR (Room.u65 hr)))) s_sorted hg hm (by decide +kernel) ha (by decide) (by decide) he rfl
end
end PB

namespace PB
open PySem PySem.Spec PyProof.Rows L2 LamX
/-! ### PB26: lists of lists of the frame's own; xs.insert -/
def getM (i : Nat) : Fr → R (List (List D)) := fun ρ => match ρ[i]? with
  | some (.om rss) => .ok rss
  | _ => .stuck
theorem getM_at {ρ : Fr} {i : Nat} {rss : List (List D)} (h : getM i ρ = .ok rss) : ρ[i]? = some (.om rss) := by
  unfold getM at h
  split at h
  · rename_i h'
    cases h
    exact h'
  · cases h
theorem getM_ne {i : Nat} {ρ : Fr} (y : Str) : getM i ρ ≠ .err y := fun h => by unfold getM at h; split at h <;> cases h
theorem FR.matAt {c : Ct} {H0 : Bs} {F H : Hp} {σ : L2.St} {ρ : Fr} {i : Nat} {rss : List (List D)} (fr : FR c H0 F H σ ρ) (h : ρ[i]? = some (.om rss)) : ∃ (p : Addr) (qs : List Addr), σ[i]? = some (some (V.ref p)) ∧ H p = some (.lst (qs.map V.ref)) ∧ qs.length = rss.length ∧
    ∀ (j : Nat) (rs : List D), rss[j]? = some rs → ∃ q vs, qs[j]? = some q ∧ H q = some (.lst vs) ∧ Reps c F vs rs := by
  obtain ⟨⟨p, qs, hp, m⟩, _⟩ := fr.om i rss h
  exact ⟨p, qs, hp, m.2.1, rows_len m.2.2.2, fun j rs hj => rows_get m.2.2.2 hj⟩
/-- the row at n -/
def rowAt (rss : List (List D)) (n : D) : R (Nat × List D) := match n with
  | .int n => match ixN rss.length n with
    | some j => match rss[j]? with
      | some rs => .ok (j, rs)
      | none => .stuck
    | none => .stuck
  | _ => .stuck
theorem rowAt_ok {rss : List (List D)} {n : D} {j : Nat} {rs : List D} (h : rowAt rss n = .ok (j, rs)) : ∃ i, n = .int i ∧ ixN rss.length i = some j ∧ rss[j]? = some rs := by
  cases n <;> first | (cases h; done) | skip
  rename_i i
  have h : (match ixN rss.length i with | some j => (match rss[j]? with | some rs => R.ok (j, rs) | none => R.stuck) | none => R.stuck) = R.ok (j, rs) := h
  cases e1 : ixN rss.length i with
  | none => rw [e1] at h; cases h
  | some k =>
    rw [e1] at h
    dsimp only at h
    cases e2 : rss[k]? with
    | none => rw [e2] at h; cases h
    | some r =>
      rw [e2] at h
      cases h
      exact ⟨i, rfl, e1, e2⟩
theorem rowAt_ne {rss : List (List D)} {n : D} (y : Str) : rowAt rss n ≠ .err y := fun h => by
  unfold rowAt at h
  split at h
  · split at h
    · split at h <;> cases h
    · cases h
  · cases h
/-- x[a].append(e): x, a, e names -/
def sAppM (i ja je : Nat) : Fr → O := sLet (getM i) fun rss => sLet (eV ja) fun n => sLet (fun _ => rowAt rss n) fun jr => sLet (eV je) fun x ρ => if jr.2.length < sizeLine then .nx (ρ.set i (.om (rss.set jr.1 (jr.2 ++ [x])))) else .stuck
/-- x[a][b] = e: x, a, b names -/
def sSetM (i ja jb : Nat) (f : Fr → R D) : Fr → O := sLet f fun x => sLet (getM i) fun rss => sLet (eV ja) fun n => sLet (fun _ => rowAt rss n) fun jr => sLet (eV jb) fun m ρ => match m with
  | .int m => match ixN jr.2.length m with
    | some k => .nx (ρ.set i (.om (rss.set jr.1 (jr.2.set k x))))
    | none => .stuck
  | _ => .stuck
/-- x[a][b] -/
def eIxM (i ja jb : Nat) : Fr → R D := fun ρ => (getM i ρ).bind fun rss => (eV ja ρ).bind fun n => (rowAt rss n).bind fun jr => (eV jb ρ).bind fun m => match m with
  | .int m => match atD jr.2 m with
    | some x => .ok x
    | none => .stuck
  | _ => .stuck
theorem apIxM {i ja jb : Nat} {ρ : Fr} : eIxM i ja jb ρ = (getM i ρ).bind fun rss => (eV ja ρ).bind fun n => (rowAt rss n).bind fun jr => (eV jb ρ).bind fun m => match m with
  | .int m => match atD jr.2 m with
    | some x => .ok x
    | none => .stuck
  | _ => .stuck := by unfold eIxM; rfl
theorem eV_ok {j : Nat} {ρ : Fr} {d : D} (h : eV j ρ = .ok d) : ρ[j]? = some (.fz d) := by
  unfold eV at h
  split at h
  · rename_i e
    cases h
    exact e
  · cases h
theorem eV_ne {j : Nat} {ρ : Fr} (y : Str) : eV j ρ ≠ .err y := fun h => by unfold eV at h; split at h <;> cases h
theorem atI_row {rss : List (List D)} {qs : List Addr} {i : Int} {j : Nat} {q : Addr} (hl : qs.length = rss.length) (h : ixN rss.length i = some j) (hq : qs[j]? = some q) : atI (qs.map V.ref) i = some (V.ref q) := by
  unfold atI
  rw [List.length_map, hl, h]
  show (qs.map V.ref)[j]? = _
  rw [List.getElem?_map, hq]
  rfl
section
variable {X : Cx} {T : List (Addr × Str)} {E : XK} {e : Expr} {f : Fr → R D} {pos : Pos}
/-- the row that x[a] comes to -/
theorem row_read {c : Ct} {B : Bs} {F H : Hp} {σ : L2.St} {ρ : Fr} {i ja : Nat} {rss : List (List D)} {n : D} {j : Nat} {rs : List D} {Q : VK} (fr : FR c B F H σ ρ) (hρ : ρ[i]? = some (.om rss)) (ha : ρ[ja]? = some (.fz n)) (hj : rowAt rss n = .ok (j, rs))
    (hQ : ∀ (p : Addr) (qs : List Addr) (q : Addr) (vs : List V), σ[i]? = some (some (V.ref p)) → H p = some (.lst (qs.map V.ref)) → qs[j]? = some q → H q = some (.lst vs) → Reps c F vs rs → Q (.ref q) H) : tOp (rIx X.K) (tVar i) (tVar ja) σ H Q := by
  obtain ⟨p, qs, hp, hH, hl, hrow⟩ := fr.matAt hρ
  obtain ⟨i2, rfl, h1, h2⟩ := rowAt_ok hj
  obtain ⟨q, vs, hq, hHq, hr⟩ := hrow j rs h2
  obtain ⟨w, hw, rw'⟩ := fr.fz ja _ ha
  cases rw'
  exact ⟨.ref p, hp, .int i2, hw, .inl ⟨p, _, i2, .ref q, rfl, rfl, .of hH, atI_row hl h1 hq, hQ p qs q vs hp hH hq hHq hr⟩⟩
theorem p_ixM (i ja jb : Nat) {y za zb : Str} {np na nb p2 : Pos} (hN : X.N[i]? = some y := by rfl) (hv : Vis X.env.scope y := by first | exact Or.inl rfl | exact Or.inr (Or.inl rfl) | exact Or.inr (Or.inr rfl)) (hd : (y == ("__debug__" : Str)) = false := by decide)
    (hcd : (y == ("__classdict__" : Str)) = false := by decide) (hNa : X.N[ja]? = some za := by rfl) (hva : Vis X.env.scope za := by first | exact Or.inl rfl | exact Or.inr (Or.inl rfl) | exact Or.inr (Or.inr rfl)) (hda : (za == ("__debug__" : Str)) = false := by decide)
    (hcda : (za == ("__classdict__" : Str)) = false := by decide) (hNb : X.N[jb]? = some zb := by rfl) (hvb : Vis X.env.scope zb := by first | exact Or.inl rfl | exact Or.inr (Or.inl rfl) | exact Or.inr (Or.inr rfl)) (hdb : (zb == ("__debug__" : Str)) = false := by decide)
    (hcdb : (zb == ("__classdict__" : Str)) = false := by decide) : P X T E .f (.Subscript (.Subscript (.Name y np) (.Name za na) p2) (.Name zb nb) pos) (eIxM i ja jb) :=
  PE.mono (pe_ix ix_seq (pe_ix ix_seq (pv i hN hv hd hcd) (pv ja hNa hva hda hcda) (fun _ _ => rfl)) (pv jb hNb hvb hdb hcdb) (fun _ _ => rfl)) fun σ H Q ⟨H0, F, ρ, fr, ou⟩ => by
    unfold eIxM at ou
    cases hg : getM i ρ with
    | err z => exact absurd hg (getM_ne z)
    | stuck => rw [hg] at ou; exact ou.elim
    | ok rss =>
    cases hn : eV ja ρ with
    | err z => exact absurd hn (eV_ne z)
    | stuck => rw [hg, R.bind_ok, hn] at ou; exact ou.elim
    | ok n =>
    cases hj : rowAt rss n with
    | err z => exact absurd hj (rowAt_ne z)
    | stuck => rw [hg, R.bind_ok, hn, R.bind_ok, hj] at ou; exact ou.elim
    | ok jr =>
    cases hm : eV jb ρ with
    | err z => exact absurd hm (eV_ne z)
    | stuck => rw [hg, R.bind_ok, hn, R.bind_ok, hj, R.bind_ok, hm] at ou; exact ou.elim
    | ok m =>
    obtain ⟨j, rs⟩ := jr
    rw [hg, R.bind_ok, hn, R.bind_ok, hj, R.bind_ok, hm, R.bind_ok] at ou
    obtain ⟨w, hw, rw'⟩ := fr.fz jb _ (eV_ok hm)
    cases m <;> first | exact ou.elim | skip
    rename_i m
    cases rw'
    refine row_read fr (getM_at hg) (eV_ok hn) hj fun p qs q vs hp hH hq hHq hr => ⟨.int m, hw, ?_⟩
    have ou : Out (ct X T) E H0 F σ ρ (match atD rs m with | some x => R.ok x | none => .stuck) fun d F' H' => ∀ v, Tell (ct X T) H0 σ ρ .f v d F' H' → Q v H' := ou
    cases hx : atD rs m with
    | none => rw [hx] at ou; exact ou.elim
    | some x =>
      rw [hx] at ou
      obtain ⟨u, hu, ru⟩ := at_rep hr hx
      exact .inl ⟨q, vs, m, u, rfl, rfl, .of hHq, hu, Out.here (m := .ok x) ou fr rfl _ ru⟩
theorem s_appM (i ja je : Nat) {y za ze : Str} {np na ne p2 ap cp : Pos} (hN : X.N[i]? = some y := by rfl) (hv : Vis X.env.scope y := by first | exact Or.inl rfl | exact Or.inr (Or.inl rfl) | exact Or.inr (Or.inr rfl)) (hd : (y == ("__debug__" : Str)) = false := by decide)
    (hcd : (y == ("__classdict__" : Str)) = false := by decide) (hNa : X.N[ja]? = some za := by rfl) (hva : Vis X.env.scope za := by first | exact Or.inl rfl | exact Or.inr (Or.inl rfl) | exact Or.inr (Or.inr rfl)) (hda : (za == ("__debug__" : Str)) = false := by decide)
    (hcda : (za == ("__classdict__" : Str)) = false := by decide) (hNe : X.N[je]? = some ze := by rfl) (hve : Vis X.env.scope ze := by first | exact Or.inl rfl | exact Or.inr (Or.inl rfl) | exact Or.inr (Or.inr rfl)) (hde : (ze == ("__debug__" : Str)) = false := by decide)
    (hcde : (ze == ("__classdict__" : Str)) = false := by decide)
    (hs : swapsWith (.Call (.Attribute (.Subscript (.Name y np) (.Name za na) p2) "append" ap) [.Name ze ne] [] cp) none pos.line X.env = pure false := by rfl)
    (hbase : attributeBase (.Subscript (.Name y np) (.Name za na) p2) "append" X.env (eval (.Subscript (.Name y np) (.Name za na) p2) X.env) = eval (.Subscript (.Name y np) (.Name za na) p2) X.env := by rfl)
    (hfew : ((backTo cp (starEach [.Name ze ne] X.env)).all (fun x => !x.1) && (backToKw cp (keywordEach [] X.env)).all (fun x => x.1.isSome)
      && decide (([.Name ze ne] : List Expr).length + ([] : List Keyword).length + (if ([] : List Keyword).isEmpty then 0 else 1) < 30)) = true := by rfl)
    (hline : (ap.endLine == cp.line) = true := by rfl) (hs' : starEach [.Name ze ne] X.env = (false, eval (.Name ze ne) X.env) :: starEach [] X.env := by rfl) :
    S X T E (.Expr (.Call (.Attribute (.Subscript (.Name y np) (.Name za na) p2) "append" ap) [.Name ze ne] [] cp) pos) (sAppM i ja je) := by
  refine PS.mono (ps_expr (pe_bm PySem.F.plainAttrs_list PySem.F.slot_list_append PySem.F.type_list_append mt_append (pe_ix ix_seq (pv i hN hv hd hcd) (pv ja hNa hva hda hcda) (fun _ _ => rfl)) (pa_cons (pv je hNe hve hde hcde) pa_nil hs') hbase hfew hline hs' rfl) hs) fun W σ H ⟨H0, F, ρ, fr, ou⟩ => ?_
  obtain ⟨rss, hg, o1⟩ := out_get getM_ne ou
  obtain ⟨n, hn, o2⟩ := out_get eV_ne o1
  obtain ⟨⟨j, rs⟩, hj, o3⟩ := out_get (get := fun _ => rowAt rss n) (ρ := ρ) rowAt_ne o2
  obtain ⟨x, hx, o4⟩ := out_get eV_ne o3
  refine row_read fr (getM_at hg) (eV_ok hn) hj fun p qs q vs hp hH hq hHq hr => ?_
  obtain ⟨w, hw, rx⟩ := fr.fz je _ (eV_ok hx)
  dsimp only at o4
  split at o4
  · rename_i hz
    refine ⟨.inl ⟨rfl, vs, .of hHq⟩, w, hw, q, vs, w, rfl, rfl, hHq, by rw [hr.length]; exact hz, ?_⟩
    exact OutS.nx o4 (fr.mutM (getM_at hg) hp hH hq (hr.append (.cons rx .nil)))
  · exact o4.elim
theorem s_setM (i ja jb : Nat) {y za zb : Str} {np na nb p2 sp : Pos} (he : P X T E .f e f) (hN : X.N[i]? = some y := by rfl) (hv : Vis X.env.scope y := by first | exact Or.inl rfl | exact Or.inr (Or.inl rfl) | exact Or.inr (Or.inr rfl)) (hd : (y == ("__debug__" : Str)) = false := by decide)
    (hcd : (y == ("__classdict__" : Str)) = false := by decide) (hNa : X.N[ja]? = some za := by rfl) (hva : Vis X.env.scope za := by first | exact Or.inl rfl | exact Or.inr (Or.inl rfl) | exact Or.inr (Or.inr rfl)) (hda : (za == ("__debug__" : Str)) = false := by decide)
    (hcda : (za == ("__classdict__" : Str)) = false := by decide) (hNb : X.N[jb]? = some zb := by rfl) (hvb : Vis X.env.scope zb := by first | exact Or.inl rfl | exact Or.inr (Or.inl rfl) | exact Or.inr (Or.inr rfl)) (hdb : (zb == ("__debug__" : Str)) = false := by decide)
    (hcdb : (zb == ("__classdict__" : Str)) = false := by decide)
    (hasg : ∀ v, assign (.Subscript (.Subscript (.Name y np) (.Name za na) p2) (.Name zb nb) sp) X.env v = (do
      let ov ← holding [v] (eval (.Subscript (.Name y np) (.Name za na) p2) X.env)
      let iv ← holding [v, ov] (eval (.Name zb nb) X.env)
      standAt sp
      holding [v, ov, iv] (setItem ov iv v)
      release [v, ov, iv] []) := by intro _; rfl)
    (hs : swapsWithSole [.Subscript (.Subscript (.Name y np) (.Name za na) p2) (.Name zb nb) sp] e pos.line X.env = pure false := by rfl) (hw : swappedStores [.Subscript (.Subscript (.Name y np) (.Name za na) p2) (.Name zb nb) sp] e X.env = pure none := by rfl)
    (h1 : (assignEach [.Subscript (.Subscript (.Name y np) (.Name za na) p2) (.Name zb nb) sp] X.env).map (·.2) = [assign (.Subscript (.Subscript (.Name y np) (.Name za na) p2) (.Name zb nb) sp) X.env] := by rfl) :
    S X T E (.Assign [.Subscript (.Subscript (.Name y np) (.Name za na) p2) (.Name zb nb) sp] e pos) (sSetM i ja jb f) := by
  refine PS.mono (ps_asg he (pg_sub (pe_ix ix_seq (pv i hN hv hd hcd) (pv ja hNa hva hda hcda) (fun _ _ => rfl)) (pv jb hNb hvb hdb hcdb) set_list hasg) hs hw h1) fun W σ H ⟨H0, F, ρ, fr, ou⟩ => ⟨H0, F, ρ, fr, (out_s ou).imp fun x F1 H1 e1 fr1 o1 v rv => ?_⟩
  obtain ⟨rss, hg, o2⟩ := out_get getM_ne o1
  obtain ⟨n, hn, o3⟩ := out_get eV_ne o2
  obtain ⟨⟨j, rs⟩, hj, o4⟩ := out_get (get := fun _ => rowAt rss n) (ρ := ρ) rowAt_ne o3
  obtain ⟨m, hm, o5⟩ := out_get eV_ne o4
  refine row_read fr1 (getM_at hg) (eV_ok hn) hj fun p qs q vs hp hH hq hHq hr => ?_
  obtain ⟨w, hw2, rw'⟩ := fr1.fz jb _ (eV_ok hm)
  cases m <;> first | exact o5.elim | skip
  rename_i m
  cases rw'
  dsimp only at o5
  split at o5
  · rename_i k hk
    exact ⟨.int m, hw2, q, vs, m, k, rfl, rfl, hHq, by rw [hr.length]; exact hk, OutS.nx o5 (fr1.mutM (getM_at hg) hp hH hq (hr.set k rv))⟩
  · exact o5.elim
end
/-! x = [row for tg in it]: the rows are new lists -/
def lstsD : List D → Option (List (List D))
  | [] => some []
  | .lst r :: xs => (lstsD xs).map (r :: ·)
  | _ :: _ => none
theorem lstsD_eq : ∀ {xs : List D} {rss : List (List D)}, lstsD xs = some rss → xs = rss.map D.lst
  | [], _, h => by cases h; rfl
  | x :: xs, rss, h => by
    cases x <;> first | (cases h; done) | skip
    rename_i r
    have h : (lstsD xs).map (r :: ·) = some rss := h
    cases e : lstsD xs with
    | none => rw [e] at h; cases h
    | some rs =>
      rw [e] at h
      cases h
      rw [lstsD_eq e]
      rfl
def sLcM (i : Nat) (f : Fr → R D) : Fr → O := sLet f fun d ρ => match d with
  | .lst xs => match lstsD xs with
    | some rss => if noOm ρ = true then .nx (ρ.set i (.om rss)) else .stuck
    | none => .stuck
  | _ => .stuck
theorem exRows_snoc : ∀ {qs : List Addr} {rss : List (List D)} {q : Addr} {r : List D}, qs.length = rss.length → exRows (qs ++ [q]) (rss ++ [r]) = exRows qs rss ++ [(q, .lst r)]
  | [], [], _, _, _ => rfl
  | a :: qs, b :: rss, q, r, h => by
    show (a, D.lst b) :: exRows (qs ++ [q]) (rss ++ [r]) = _
    rw [exRows_snoc (by simpa using h)]
    rfl
theorem lcD_rows {g : D → Fr → R Fr} {s : Fr → R Bool} {f : Fr → R D} {ρ : Fr} {d : D} {ds ys : List D} {ρ1 : Fr} {b : Bool} (h : lcD g s f ρ (d :: ds) = .ok ys) (hg : g d ρ = .ok ρ1) (hs : s ρ1 = .ok b) : (b = true ∧ ∃ x zs, f ρ1 = .ok x ∧ lcD g s f ρ ds = .ok zs ∧ ys = x :: zs) ∨ (b = false ∧ lcD g s f ρ ds = .ok ys) := by
  unfold lcD at h
  rw [hg] at h
  dsimp only at h
  rw [hs] at h
  dsimp only at h
  cases b with
  | false => exact .inr ⟨rfl, h⟩
  | true =>
    rw [if_pos rfl] at h
    cases hf : f ρ1 with
    | err y => rw [hf] at h; cases h
    | stuck => rw [hf] at h; cases h
    | ok x =>
      rw [hf] at h
      dsimp only at h
      cases hr : lcD g s f ρ ds with
      | err y => rw [hr] at h; cases h
      | stuck => rw [hr] at h; cases h
      | ok zs =>
        rw [hr] at h
        cases h
        exact .inl ⟨rfl, x, zs, rfl, rfl, rfl⟩
theorem lcM_read {c : Ct} {it : Fr → R (List D)} {g : D → Fr → R Fr} {s : Fr → R Bool} {f : Fr → R D} {H0 : Bs} {F H : Hp} {σ : L2.St} {ρ : Fr} {vs : List Nat} {E : XK} {W : Ends} {i : Nat} (gk : GK vs g) (hi : i < ρ.length) (fr : FR c H0 F H σ ρ) (ou : OutS c E H0 F W (sLcM i (eLc vs it g s f) ρ)) :
    tLc (tI c E it) (tG c vs g) (tT c EN s) (tK c EN .n f) vs σ H (fun x H1 => gName i x σ H1 W.nx) := by
  have o0 : Out c E H0 F σ ρ (eLc vs it g s f ρ) fun d F' _ => OutS c E H0 F' W ((fun (d : D) (ρ : Fr) => match d with
    | .lst xs => match lstsD xs with
      | some rss => if noOm ρ = true then O.nx (ρ.set i (.om rss)) else .stuck
      | none => .stuck
    | _ => .stuck) d ρ) := out_s ou
  refine ⟨H0, F, ρ, fr, o0.split.imp fun ds F1 H1 e1 fr1 o1 J dw L hD => ?_⟩
  split at o1
  · rename_i hno
    have no := noOw_at hno
    cases q : lcD g s f (wipeF ρ vs) ds with
    | err y => exact (lcD_ne y ds q).elim
    | stuck => rw [q] at o1; exact o1.elim
    | ok xs =>
      rw [q] at o1
      have o1 : OutS c E H0 F1 W (match lstsD xs with | some rss => if noOm ρ = true then O.nx (ρ.set i (.om rss)) else .stuck | none => .stuck) := Out.here (m := R.ok (D.lst xs)) o1 fr1 rfl
      cases hl : lstsD xs with
      | none => rw [hl] at o1; exact o1.elim
      | some all =>
      rw [hl] at o1
      dsimp only at o1
      have hnm : noOm ρ = true := by
        cases h : noOm ρ with
        | true => rfl
        | false =>
          rw [h, if_neg Bool.false_ne_true] at o1
          exact o1.elim
      rw [if_pos hnm] at o1
      have hx0 := lstsD_eq hl
      have n0 : NewAt c H0 F1 (upd H1 L (.lst [])) σ ρ L (.lst (([] : List Addr).map fun q => D.exc q "")) := fr1.newAt hD .nil
      have frD := (fr1.newO (o := .lst []) hD trivial).push n0
      refine ⟨fun k m H' => m = ds.length - k ∧ k ≤ ds.length ∧ ∃ F' qs rss ys, ExtN F1 F' ∧ FR c ⟨H0.h, (L, .lst (qs.map fun q => D.exc q "")) :: (exRows qs rss ++ H0.ex)⟩ F' H' σ ρ ∧ qs.length = rss.length ∧ rss.length ≤ k ∧ lcD g s f (wipeF ρ vs) (ds.drop k) = .ok ys ∧ rss.map D.lst ++ ys = xs,
        ⟨_, rfl, Nat.zero_le _, F1, [], [], xs, .refl F1, frD, rfl, Nat.le_refl _, by rw [List.drop_zero]; exact q, rfl⟩, ?_⟩
      rintro k m H' ⟨rfl, hk, F', qs, rss, ys, e2, fr2, hqr, hz, hy, hx⟩
      by_cases hlt : k < ds.length
      · refine .inr ⟨dw.go k H' (e2.trans fr2.extH) hlt, fun H2 => k + 1 ≤ ds.length ∧ ∃ F' qs rss ys, ExtN F1 F' ∧ FR c ⟨H0.h, (L, .lst (qs.map fun q => D.exc q "")) :: (exRows qs rss ++ H0.ex)⟩ F' H2 σ ρ ∧ qs.length = rss.length ∧ rss.length ≤ k + 1 ∧ lcD g s f (wipeF ρ vs) (ds.drop (k + 1)) = .ok ys ∧ rss.map D.lst ++ ys = xs,
          fun H2 ⟨q1, q2⟩ => ⟨ds.length - (k + 1), by omega, rfl, q1, q2⟩, fun x H2 y => ?_⟩
        have hd : ds[k]? = some ds[k] := by simp [hlt]
        obtain ⟨F2, e3, fr3, rx⟩ := dw.yld k _ _ F' H' σ ρ x H2 e2 fr2 hd y
        rw [List.drop_eq_getElem_cons hlt] at hy
        cases hg : g ds[k] (wipeF ρ vs) with
        | err y => unfold lcD at hy; rw [hg] at hy; cases hy
        | stuck => unfold lcD at hy; rw [hg] at hy; cases hy
        | ok ρ1 =>
          refine ⟨_, F2, wipeF ρ vs, _, ρ1, fr3.wipe vs, rx, hg, fun σ3 k3 fr4 => ⟨?_, _, F2, ρ1, fr4, ?_⟩⟩
          · have hw : Keeps vs σ (wipe σ vs) := ⟨wipe_length σ vs, fun j hj => wipe_keep σ j vs hj⟩
            exact (keeps_wipe k3).trans (keeps_wipe hw)
          · have ks : ∀ j, j ∉ vs → σ3[j]? = σ[j]? := fun j hj => (k3.2 j hj).trans (wipe_keep σ j vs hj)
            have kr : ∀ j, j ∉ vs → ρ1[j]? = ρ[j]? := fun j hj => (gk _ _ _ hg j hj).trans (wipeF_keep ρ j vs hj)
            cases hs : s ρ1 with
            | err y => unfold lcD at hy; rw [hg] at hy; dsimp only at hy; rw [hs] at hy; cases hy
            | stuck => unfold lcD at hy; rw [hg] at hy; dsimp only at hy; rw [hs] at hy; cases hy
            | ok b =>
              intro F4 H4 e4 fr5
              rcases lcD_rows hy hg hs with ⟨rfl, x', zs, hf, hr, rfl⟩ | ⟨rfl, hy⟩
              · rw [if_pos rfl]
                refine ⟨_, F4, ρ1, fr5, ?_⟩
                rw [hf]
                intro F6 H6 e6 fr7 v rv
                obtain ⟨q', rfl, n7⟩ := rv
                obtain ⟨rs, rfl⟩ : ∃ rs, x' = D.lst rs := by
                  have hm : x' ∈ xs := by rw [← hx]; exact List.mem_append_right _ List.mem_cons_self
                  rw [hx0] at hm
                  obtain ⟨rs, _, e⟩ := List.mem_map.mp hm
                  exact ⟨rs, e.symm⟩
                obtain ⟨hL, ho⟩ := fr7.exo L _ List.mem_cons_self
                obtain ⟨ws, eL, rr⟩ := own_lst ho
                have fr8 := fr7.push n7
                have fr9 := fr8.perm (ex := (L, D.lst (qs.map fun q => D.exc q "")) :: (exRows (qs ++ [q']) (rss ++ [rs]) ++ H0.ex)) (by
                  rw [exRows_snoc hqr]
                  show List.Perm ((q', D.lst rs) :: (L, D.lst (qs.map fun q => D.exc q "")) :: (exRows qs rss ++ H0.ex)) _
                  refine (List.Perm.swap _ _ _).trans (.cons _ ?_)
                  rw [List.append_assoc]
                  exact List.perm_middle.symm)
                have fr10 : FR c ⟨H0.h, (L, D.lst ((qs ++ [q']).map fun q => D.exc q "")) :: (exRows (qs ++ [q']) (rss ++ [rs]) ++ H0.ex)⟩ F6 (upd H6 L (.lst (ws ++ [V.ref q']))) σ3 ρ1 :=
                  FR.mutE (H0 := ⟨H0.h, exRows (qs ++ [q']) (rss ++ [rs]) ++ H0.ex⟩) (p := L) (d := .lst (qs.map fun q => D.exc q "")) fr9 (o := .lst (ws ++ [V.ref q'])) (d' := .lst ((qs ++ [q']).map fun q => D.exc q "")) (by
                    show Reps c F6 (ws ++ [V.ref q']) ((qs ++ [q']).map fun q => D.exc q "")
                    rw [List.map_append]
                    exact rr.append (.cons (.exc q' "") .nil))
                refine ⟨ws, eL, ?_, hlt, F6, qs ++ [q'], rss ++ [rs], zs, ((e2.trans e3).trans e4).trans e6, fr3.back fr10 (e4.trans e6) ks kr no, by rw [List.length_append, List.length_append, hqr]; rfl, ?_, hr, ?_⟩
                · have h1 := rr.length
                  rw [List.length_map] at h1
                  have := dw.len
                  omega
                · rw [List.length_append, List.length_cons, List.length_nil]
                  omega
                · rw [List.map_append, List.append_assoc]
                  exact hx
              · rw [if_neg Bool.false_ne_true]
                exact ⟨hlt, F4, qs, rss, ys, (e2.trans e3).trans e4, fr3.back fr5 e4 ks kr no, hqr, Nat.le_succ_of_le hz, hy, hx⟩
      · have e : k = ds.length := by omega
        subst e
        rw [List.drop_length] at hy
        cases hy
        rw [List.append_nil] at hx
        have er : rss = all := by
          have h := hx.trans hx0
          have inj : ∀ {a b : List (List D)}, a.map D.lst = b.map D.lst → a = b := fun {a b} h => by
            induction a generalizing b with
            | nil => cases b with
              | nil => rfl
              | cons _ _ => cases h
            | cons x a ih => cases b with
              | nil => cases h
              | cons y b =>
                rw [List.map_cons, List.map_cons, List.cons.injEq] at h
                rw [D.lst.inj h.1, ih h.2]
          exact inj h
        subst er
        exact .inl ⟨dw.stop _ H' (e2.trans fr2.extH) (Nat.le_refl _), o1 _ F' H' e2 (FR.setM fr2 hqr hi hnm)⟩
  · exact o1.elim
section
variable {X : Cx} {T : List (Addr × Str)} {E : XK} {tg elt iter : Expr} {ifs : List Expr} {scope : Scope} {own : List (Str × Nat)} {pos : Pos} {it : Fr → R (List D)} {g : D → Fr → R Fr} {s : Fr → R Bool} {f : Fr → R D}
theorem s_lcM {i : Nat} {y : Str} {py spos : Pos} (hc : X.calm = true) (hN : X.N.Nodup) (gk : GK (own.map (·.2)) g) (hi : I X T E tg iter it) (ok : BlkOk X.N X.env.scope scope own)
    (hg : ∀ (s : Shared) (H : Hp) (C : Addr) (cl : List (Str × Addr)) (fp : List Addr), G (X.blk s H scope (compEnvC scope cl C X.env) fp) T tg (own.map (·.2)) g)
    (ht : ∀ (s' : Shared) (H : Hp) (C : Addr) (cl : List (Str × Addr)) (fp : List Addr), Pts (X.blk s' H scope (compEnvC scope cl C X.env) fp) T EN ifs s)
    (he : ∀ (s : Shared) (H : Hp) (C : Addr) (cl : List (Str × Addr)) (fp : List Addr), P (X.blk s H scope (compEnvC scope cl C X.env) fp) T EN .n elt f) (hsw : swapsWith (.ListComp elt [⟨tg, iter, ifs, 0⟩] scope pos) (some (.Name y py)) spos.line X.env = pure true := by exact sw_true rfl rfl rfl (by decide +kernel)) (hy : X.N[i]? = some y := by rfl) (hyl : X.env.scope.names.lookup y = some .local := by rfl) (hs : ∀ x, foldedSetIterable iter X.env x = pure x := by intro _; rfl) :
    S X T E (.Assign [.Name y py] (.ListComp elt [⟨tg, iter, ifs, 0⟩] scope pos) spos) (sLcM i (eLc (own.map (·.2)) it g s f)) := by
  refine ⟨fun pins st σ H D Iv hh => ?_⟩
  obtain ⟨H0, F, ρ, fr, ou⟩ := hh
  have hil : i < ρ.length := by
    rw [← fr.len, Iv.len]
    exact (List.getElem?_eq_some_iff.mp hy).1
  exact (ps_setLc hc hN hy hyl hsw hi ok hg ht he hs).run pins st σ H D Iv (lcM_read (c := ct X T) gk hil fr ou)
end
/-! x.insert(a, e) -/
def sIns (i : Nat) (a f : Fr → R D) : Fr → O := sLet (getL i) fun xs => sLet a fun n => sLet f fun x ρ => match n with
  | .int n => if 0 ≤ n ∧ n < 2 ^ 63 ∧ xs.length < sizeLine then .nx (ρ.set i (.ow (.lst (xs.take n.toNat ++ [x] ++ xs.drop n.toNat)))) else .stuck
  | _ => .stuck
section
variable {X : Cx} {T : List (Addr × Str)} {E : XK} {a e : Expr} {fa f : Fr → R D} {pos : Pos}
theorem s_ins (i : Nat) {y : Str} {ap cp np : Pos} (ha : P X T E .f a fa) (he : P X T E .f e f) (hN : X.N[i]? = some y := by rfl) (hv : Vis X.env.scope y := by first | exact Or.inl rfl | exact Or.inr (Or.inl rfl) | exact Or.inr (Or.inr rfl)) (hd : (y == ("__debug__" : Str)) = false := by decide)
    (hcd : (y == ("__classdict__" : Str)) = false := by decide) (hs : swapsWith (.Call (.Attribute (.Name y np) "insert" ap) [a, e] [] cp) none pos.line X.env = pure false := by rfl)
    (hbase : attributeBase (.Name y np) "insert" X.env (eval (.Name y np) X.env) = eval (.Name y np) X.env := by rfl)
    (hfew : ((backTo cp (starEach [a, e] X.env)).all (fun x => !x.1) && (backToKw cp (keywordEach [] X.env)).all (fun x => x.1.isSome)
      && decide ([a, e].length + ([] : List Keyword).length + (if ([] : List Keyword).isEmpty then 0 else 1) < 30)) = true := by rfl)
    (hline : (ap.endLine == cp.line) = true := by rfl) (hs' : starEach [a, e] X.env = (false, eval a X.env) :: starEach [e] X.env := by rfl) (hs2 : starEach [e] X.env = (false, eval e X.env) :: starEach [] X.env := by rfl) (hpl : (backTo cp (starEach [e] X.env)).any (·.1) = false := by rfl) : S X T E (.Expr (.Call (.Attribute (.Name y np) "insert" ap) [a, e] [] cp) pos) (sIns i fa f) := by
  refine PS.mono (ps_expr (pe_bm PySem.F.plainAttrs_list PySem.F.slot_list_insert PySem.F.type_list_insert mt_insert (pv i hN hv hd hcd) (pa_cons ha (pa_cons he pa_nil hs2) hs') hbase hfew hline hs' hpl) hs) fun W σ H ⟨H0, F, ρ, fr, ou⟩ => ?_
  obtain ⟨xs, hx, o1⟩ := out_get getL_ne ou
  have hρ := getL_at hx
  obtain ⟨p, vs, hp, hH, r⟩ := fr.lstAt hρ
  refine ⟨.ref p, hp, .inl ⟨rfl, vs, .of hH⟩, H0, F, ρ, fr, (out_s o1).imp fun n F1 H1 e1 fr1 o2 w rw' => ⟨H0, F1, ρ, fr1, (out_s o2).imp fun x F2 H2 e2 fr2 o3 v rv => ?_⟩⟩
  obtain ⟨p', vs', hp', hH', r'⟩ := fr2.lstAt hρ
  rw [hp] at hp'
  cases hp'
  split at o3
  · split at o3
    · rename_i hz
      cases rw'
      exact ⟨p, vs', _, v, rfl, rfl, hH', by rw [r'.length]; exact hz.2.2, hz.1, hz.2.1, OutS.nx o3 (fr2.mutO hρ hp (((r'.take _).append (.cons rv .nil)).append (r'.drop _)))⟩
    · exact o3.elim
  · exact o3.elim
end
end PB

namespace PB
open PySem PySem.Spec PyProof.Rows L2 LamX
/-! ### PB27: more opening lemmas -/
theorem bindE {α β : Type} (x : Str) (n : α → R β) : (R.err x : R α).bind n = .err x := by unfold R.bind; rfl
theorem wip_nx {is : List Nat} {ρ : Fr} : wipO is (.nx ρ) = .nx (wipeF ρ is) := by unfold wipO; rfl
theorem wip_rt {is : List Nat} {d : D} : wipO is (.rt d) = .rt d := by unfold wipO; rfl
theorem wip_er {is : List Nat} {x : Str} : wipO is (.er x) = .er x := by unfold wipO; rfl
theorem wipeF_nil {ρ : Fr} : wipeF ρ [] = ρ := by unfold wipeF; rfl
theorem wipeF_cons {ρ : Fr} {v : Nat} {vs : List Nat} : wipeF ρ (v :: vs) = (wipeF ρ vs).set v .un := by rw [wipeF]
theorem lstB_l {xs : List D} : lstB (.lst xs) = .ok () := by unfold lstB; rfl
theorem endO_rt {d : D} : endO (.rt d) = .ok d := by unfold endO; rfl
theorem endO_nx {ρ : Fr} : endO (.nx ρ) = .ok .non := by unfold endO; rfl
theorem endO_er {x : Str} : endO (.er x) = .err x := by unfold endO; rfl
theorem frz_fz {i : Nat} {ρ : Fr} : frz i ρ = match ρ[i]? with
  | some (.ow d) => ρ.set i (.fz d)
  | some (.om rss) => ρ.set i (.fz (.lst (rss.map D.lst)))
  | _ => ρ := by unfold frz; rfl
theorem isNon_n : isNon .non = true := by unfold isNon; rfl
theorem eq_ib {i j : Int} : eqD (.int i) (.int j) = .ok (.bl (decide (i = j))) := by
  rw [eq_i]
  rfl
theorem ne_ib {i j : Int} : neD (.int i) (.int j) = .ok (.bl (!decide (i = j))) := by
  rw [ne_i]
  rfl
/-- a body whose end is known -/
theorem go_nx {g h : Fr → O} {ρ ρ' : Fr} {o : O} (h1 : g ρ = .nx ρ') (h2 : h ρ' = o) : sSeq g h ρ = o := by rw [seq_nx h1, h2]
/-! a loop whose frames are told by a state -/
theorem for_fold {St : Type} {g : D → Fr → R Fr} {b : Fr → O} (fr : St → Fr) (step : St → D → St) : ∀ {ds : List D} {s : St}, (∀ d s, d ∈ ds → ∃ ρ1, g d (fr s) = .ok ρ1 ∧ b ρ1 = .nx (fr (step s d))) → forD g b ds (fr s) = .nx (fr (ds.foldl step s))
  | [], s, _ => rfl
  | d :: ds, s, h => by
    obtain ⟨ρ1, h1, h2⟩ := h d s List.mem_cons_self
    rw [forD_cons h1, h2]
    show forD g b ds (fr (step s d)) = _
    rw [for_fold fr step fun d s hd => h d s (List.mem_cons_of_mem _ hd)]
    rfl
/-- .. with what is kept of the state -/
theorem for_foldI {St : Type} {g : D → Fr → R Fr} {b : Fr → O} (fr : St → Fr) (step : St → D → St) (I : St → Prop) : ∀ {ds : List D} {s : St}, I s → (∀ d s, d ∈ ds → I s → (∃ ρ1, g d (fr s) = .ok ρ1 ∧ b ρ1 = .nx (fr (step s d))) ∧ I (step s d)) → forD g b ds (fr s) = .nx (fr (ds.foldl step s)) ∧ I (ds.foldl step s)
  | [], s, h0, _ => ⟨rfl, h0⟩
  | d :: ds, s, h0, h => by
    obtain ⟨⟨ρ1, h1, h2⟩, h3⟩ := h d s List.mem_cons_self h0
    rw [forD_cons h1, h2]
    show forD g b ds (fr (step s d)) = _ ∧ _
    exact for_foldI fr step I h3 fun d s hd => h d s (List.mem_cons_of_mem _ hd)
/-- a loop that goes through: each turn keeps I -/
theorem for_all {g : D → Fr → R Fr} {b : Fr → O} {ρ : Fr} : ∀ {ds : List D}, (∀ d ∈ ds, ∃ ρ1, g d ρ = .ok ρ1 ∧ b ρ1 = .nx ρ) → forD g b ds ρ = .nx ρ
  | [], _ => rfl
  | d :: ds, h => by
    obtain ⟨ρ1, h1, h2⟩ := h d List.mem_cons_self
    rw [forD_cons h1, h2]
    exact for_all fun d hd => h d (List.mem_cons_of_mem _ hd)
theorem for_go {f : Fr → R (List D)} {g : D → Fr → R Fr} {b : Fr → O} {ρ : Fr} {ds : List D} {o : O} (e : f ρ = .ok ds) (h : forD g b ds ρ = o) : sFor f g b ρ = o := (for_eq e).trans h
/-! opening an append, a tuple's names -/
def appO (i : Nat) (ρ : Fr) (o : Option Sl) (r : R D) : O := match o with
  | some (.ow (.lst xs)) => match r with
    | .ok x => if xs.length < sizeLine then .nx (ρ.set i (.ow (.lst (xs ++ [x])))) else .stuck
    | .err x => .er x
    | .stuck => .stuck
  | _ => .stuck
theorem apsApp {i : Nat} {f : Fr → R D} {ρ : Fr} : sApp i f ρ = appO i ρ ρ[i]? (f ρ) := by
  unfold sApp sLet getL
  cases h : ρ[i]? with
  | none => rfl
  | some s =>
    cases s with
    | ow d =>
      cases d <;> try rfl
      dsimp only
      cases f ρ <;> rfl
    | _ => rfl
theorem appO_ok {i : Nat} {ρ : Fr} {xs : List D} {x : D} (hl : xs.length < 2 ^ 20) : appO i ρ (some (.ow (.lst xs))) (.ok x) = .nx (ρ.set i (.ow (.lst (xs ++ [x])))) := if_pos (Nat.lt_of_lt_of_le hl (Nat.le_trans (by decide) szl))
theorem appO_er {i : Nat} {ρ : Fr} {xs : List D} {x : String} : appO i ρ (some (.ow (.lst xs))) (.err x) = .er x := rfl
def tupO (g : D → Fr → R Fr) (ρ : Fr) (r : R D) : O := match r with
  | .ok d => match g d ρ with
    | .ok ρ' => .nx ρ'
    | .err x => .er x
    | .stuck => .stuck
  | .err x => .er x
  | .stuck => .stuck
theorem apsTup {g : D → Fr → R Fr} {f : Fr → R D} {ρ : Fr} : sTup g f ρ = tupO g ρ (f ρ) := by
  unfold sTup sLet tupO
  cases f ρ with
  | ok d =>
    dsimp only
    cases g d ρ <;> rfl
  | _ => rfl
theorem tupO_2 {i j : Nat} {ρ : Fr} {x y : D} : tupO (gT 2 (gCons' (gN i) (gCons' (gN j) gNil'))) ρ (.ok (.tup [x, y])) = .nx ((ρ.set i (.fz x)).set j (.fz y)) := rfl
theorem tupO_3 {i j k : Nat} {ρ : Fr} {x y z : D} : tupO (gT 3 (gCons' (gN i) (gCons' (gN j) (gCons' (gN k) gNil')))) ρ (.ok (.tup [x, y, z])) = .nx (((ρ.set i (.fz x)).set j (.fz y)).set k (.fz z)) := rfl
theorem negI {i : Int} : negD (.int i) = .ok (.int (-i)) := rfl
theorem cut_toD {xs : List D} {z : Int} (h : 0 ≤ z) : cutD xs none (some z) = xs.take z.toNat := by
  have := cut_to (xs := xs) (k := z.toNat)
  rwa [show ((z.toNat : Nat) : Int) = z by omega] at this
theorem cut_fromD {xs : List D} {z : Int} (h : 0 ≤ z) : cutD xs (some z) none = xs.drop z.toNat := by
  have := cut_from (xs := xs) (k := z.toNat)
  rwa [show ((z.toNat : Nat) : Int) = z by omega] at this
theorem mkL11 {a0 a1 a2 a3 a4 a5 a6 a7 a8 a9 a10 : D} : mkLst [a0, a1, a2, a3, a4, a5, a6, a7, a8, a9, a10] = .ok (.lst [a0, a1, a2, a3, a4, a5, a6, a7, a8, a9, a10]) := if_pos (show 11 ≤ sizeLine by decide)
theorem mkL12 {a0 a1 a2 a3 a4 a5 a6 a7 a8 a9 a10 a11 : D} : mkLst [a0, a1, a2, a3, a4, a5, a6, a7, a8, a9, a10, a11] = .ok (.lst [a0, a1, a2, a3, a4, a5, a6, a7, a8, a9, a10, a11]) := if_pos (show 12 ≤ sizeLine by decide)
theorem mkL13 {a0 a1 a2 a3 a4 a5 a6 a7 a8 a9 a10 a11 a12 : D} : mkLst [a0, a1, a2, a3, a4, a5, a6, a7, a8, a9, a10, a11, a12] = .ok (.lst [a0, a1, a2, a3, a4, a5, a6, a7, a8, a9, a10, a11, a12]) := if_pos (show 13 ≤ sizeLine by decide)
theorem mkL14 {a0 a1 a2 a3 a4 a5 a6 a7 a8 a9 a10 a11 a12 a13 : D} : mkLst [a0, a1, a2, a3, a4, a5, a6, a7, a8, a9, a10, a11, a12, a13] = .ok (.lst [a0, a1, a2, a3, a4, a5, a6, a7, a8, a9, a10, a11, a12, a13]) := if_pos (show 14 ≤ sizeLine by decide)
theorem mkL15 {a0 a1 a2 a3 a4 a5 a6 a7 a8 a9 a10 a11 a12 a13 a14 : D} : mkLst [a0, a1, a2, a3, a4, a5, a6, a7, a8, a9, a10, a11, a12, a13, a14] = .ok (.lst [a0, a1, a2, a3, a4, a5, a6, a7, a8, a9, a10, a11, a12, a13, a14]) := if_pos (show 15 ≤ sizeLine by decide)
theorem mkL16 {a0 a1 a2 a3 a4 a5 a6 a7 a8 a9 a10 a11 a12 a13 a14 a15 : D} : mkLst [a0, a1, a2, a3, a4, a5, a6, a7, a8, a9, a10, a11, a12, a13, a14, a15] = .ok (.lst [a0, a1, a2, a3, a4, a5, a6, a7, a8, a9, a10, a11, a12, a13, a14, a15]) := if_pos (show 16 ≤ sizeLine by decide)
/-! opening a refusal -/
def refO (wd : List (Str × Str)) (r : R D) : R D := match r with
  | .ok _ => .ok (.str "told")
  | .err x => match wd.lookup x with
    | some w => .ok (.str w)
    | none => .stuck
  | .stuck => .stuck
theorem apRef {wd : List (Str × Str)} {f : Fr → R D} {ρ : Fr} : eRef wd f ρ = refO wd (f (dropO ρ)) := by
  unfold eRef refO
  rfl
theorem refO_ok {wd : List (Str × Str)} {d : D} : refO wd (.ok d) = .ok (.str "told") := rfl
theorem dro_fz {d : D} {ρ : Fr} : dropO (.fz d :: ρ) = .fz d :: dropO ρ := rfl
theorem dro_un {ρ : Fr} : dropO (.un :: ρ) = .un :: dropO ρ := rfl
theorem dro_ow {d : D} {ρ : Fr} : dropO (.ow d :: ρ) = .un :: dropO ρ := rfl
theorem dro_nil : dropO [] = [] := rfl
end PB

namespace PB
open PySem PySem.Spec PyProof.Rows L2 LamX
noncomputable def w_is_number_S : Fr → O :=
  (sRet (eAnd (eB isiD (xCons (eVb 0) (xCons (eC (.ty "int")) xNil))) (eAnd (eNot (eB isiD (xCons (eVb 0) (xCons (eC (.ty "bool")) xNil)))) (e3c leD ltD (eVb 1) (eVb 0) (eVb 2)))))
noncomputable def w_is_number : List D → R D := runD 3 3 w_is_number_S
noncomputable def w_is_tie_C1 : Fr → R D := (eLc [2] (eIt (eV 1)) (gN 2) tAll (eB w_is_number (xCons (eV 2) (xCons (eC (.int 0)) (xCons (eV 0) xNil)))))
noncomputable def w_is_tie_S : Fr → O :=
  (sSeq (sIf (tOrR (tNotR (tV (eB isiD (xCons (eVb 1) (xCons (eC (.ty "tuple")) xNil))))) (tB (e2 neD (eB lenD (xCons (eVb 1) xNil)) (eC (.int 2))))) (sRet (eC (.bl false))) sNil)
    (sRet (eAnd (eB allD (xCons w_is_tie_C1 xNil)) (e2 ltD (e2 ixD (eVb 1) (eC (.int 0))) (e2 ixD (eVb 1) (eC (.int 1)))))))
noncomputable def w_is_tie : List D → R D := runD 3 2 w_is_tie_S
noncomputable def w_rises_C1 : Fr → R D := (eLc [1] (eIts rng1D (xCons (e2 subD (eB lenD (xCons (eVb 0) xNil)) (eC (.int 1))) xNil)) (gN 1) tAll (e2 ltD (e2 ixD (eVb 0) (eVb 1)) (e2 ixD (eVb 0) (e2 addD (eVb 1) (eC (.int 1))))))
noncomputable def w_rises_S : Fr → O :=
  (sRet (eB allD (xCons w_rises_C1 xNil)))
noncomputable def w_rises : List D → R D := runD 2 1 w_rises_S
noncomputable def w_is_web_C1 : Fr → R D := (eLc [1] (eIt (e2 ixD (eVb 0) (eC (.int 1)))) (gN 1) tAll (eB w_is_tie (xCons (e2 ixD (eVb 0) (eC (.int 0))) (xCons (eV 1) xNil))))
noncomputable def w_is_web_S : Fr → O :=
  (sSeq (sIf (tOrR (tNotR (tV (eB isiD (xCons (eVb 0) (xCons (eC (.ty "tuple")) xNil))))) (tOrR (tB (e2 neD (eB lenD (xCons (eVb 0) xNil)) (eC (.int 2)))) (tNotR (tV (eB w_is_number (xCons (e2 ixD (eVb 0) (eC (.int 0))) (xCons (eC (.int 1)) (xCons (e2 addD (eC (.int 40)) (eC (.int 1))) xNil)))))))) (sRet (eC (.bl false))) sNil)
    (sSeq (sIf (tOrR (tNotR (tV (eB isiD (xCons (e2 ixD (eVb 0) (eC (.int 1))) (xCons (eC (.ty "tuple")) xNil))))) (tNotR (tV (eB allD (xCons w_is_web_C1 xNil))))) (sRet (eC (.bl false))) sNil)
    (sRet (eB w_rises (xCons (e2 ixD (eVb 0) (eC (.int 1))) xNil)))))
noncomputable def w_is_web : List D → R D := runD 2 1 w_is_web_S
noncomputable def w_law_cell_at_S : Fr → O :=
  (sSeq (sIf (tB (e2 ltD (eVb 1) (eB lenD (xCons (eVb 0) xNil)))) (sRet (e2 ixD (eVb 0) (eVb 1))) sNil)
    (sRet (eC (.int 0))))
noncomputable def w_law_cell_at : List D → R D := runD 2 2 w_law_cell_at_S
noncomputable def w_law_draw_B1 : Fr → O := (sEnd [4] (sSeq (sIf (tB (e2 eqD (eVb 3) (eC (.int 0)))) (sRet (eC (.int 0))) sNil)
    (sSet 3 (e2 fdivD (eVb 3) (eVb 2)))))
noncomputable def w_law_draw_L1 : Fr → O := (sFor (eIts rng1D (xCons (eVb 1) xNil)) (gN 4) w_law_draw_B1)
noncomputable def w_law_draw_S : Fr → O :=
  (sSeq (sIf (tB (e2 geD (eVb 0) (e2 powD (eC (.int 10)) (eC (.int 18))))) (sSeq (sSet 3 (eV 0))
    (sSeq w_law_draw_L1
    (sRet (e2 modD (eVb 3) (eVb 2))))) sNil)
    (sSeq (sSet 5 (e2 modD (e2 mulD (e2 addD (e2 addD (e2 modD (eVb 0) (eC (.int 1000000007))) (e2 mulD (eC (.int 1009)) (eVb 1))) (eC (.int 17))) (eC (.int 69621))) (eC (.int 2147483647))))
    (sSeq (sSet 5 (e2 modD (e2 addD (e2 addD (e2 mulD (eVb 5) (eVb 5)) (e2 mulD (eC (.int 40503)) (eVb 1))) (eC (.int 5))) (eC (.int 2147483629))))
    (sRet (e2 modD (e2 fdivD (e2 modD (e2 mulD (eVb 5) (eC (.int 48271))) (eC (.int 2147483647))) (eC (.int 32))) (eVb 2))))))
noncomputable def w_law_draw : List D → R D := runD 6 3 w_law_draw_S
theorem go_w_law_draw (x0 x1 x2 : D) : w_law_draw [x0, x1, x2] = endO (w_law_draw_S [.fz x0, .fz x1, .fz x2, .un, .un, .un]) := runD_eq rfl
noncomputable def w_law_web_B1 : Fr → O := (sEnd [6] (sIf (tB (e2 ltD (eB w_law_draw (xCons (eV 0) (xCons (e2 addD (e2 addD (eC (.int 3)) (e2 mulD (eC (.int 41)) (eVb 5))) (eVb 6)) (xCons (eC (.int 8)) xNil)))) (eVb 3))) (sApp 4 (eTup (xCons (eV 5) (xCons (eV 6) xNil)))) sNil))
noncomputable def w_law_web_L1 : Fr → O := (sFor (eIts rng2D (xCons (e2 addD (eVb 5) (eC (.int 1))) (xCons (eVb 2) xNil))) (gN 6) w_law_web_B1)
noncomputable def w_law_web_B2 : Fr → O := (sEnd [5, 6] w_law_web_L1)
noncomputable def w_law_web_L2 : Fr → O := (sFor (eIts rng1D (xCons (eVb 2) xNil)) (gN 5) w_law_web_B2)
noncomputable def w_law_web_S : Fr → O :=
  (sSeq (sSet 2 (e2 addD (eC (.int 1)) (eB w_law_draw (xCons (eV 0) (xCons (eC (.int 0)) (xCons (eV 1) xNil))))))
    (sSeq (sSet 3 (e2 addD (eC (.int 1)) (eB w_law_draw (xCons (eV 0) (xCons (eC (.int 1)) (xCons (eC (.int 6)) xNil))))))
    (sSeq (sOwn 4 (eLst xNil))
    (sSeq w_law_web_L2
    (sRet (eTup (xCons (eV 2) (xCons (eB tupleD (xCons (eVb 4) xNil)) xNil))))))))
noncomputable def w_law_web : List D → R D := runD 7 2 w_law_web_S
theorem go_w_law_web (x0 x1 : D) : w_law_web [x0, x1] = endO (w_law_web_S [.fz x0, .fz x1, .un, .un, .un, .un, .un]) := runD_eq rfl
noncomputable def w_need_web_S : Fr → O :=
  (sIf (tNotR (tV (eB w_is_web (xCons (eV 0) xNil)))) (fun _ => .er "NoWeb") sNil)
noncomputable def w_need_web : List D → R D := runD 1 1 w_need_web_S
theorem go_w_need_web (x0 : D) : w_need_web [x0] = endO (w_need_web_S [.fz x0]) := runD_eq rfl
noncomputable def w_need_place_S : Fr → O :=
  (sIf (tNotR (tV (eB w_is_number (xCons (eV 1) (xCons (eC (.int 0)) (xCons (e2 ixD (eVb 0) (eC (.int 0))) xNil)))))) (fun _ => .er "NoPlace") sNil)
noncomputable def w_need_place : List D → R D := runD 2 2 w_need_place_S
theorem go_w_need_place (x0 x1 : D) : w_need_place [x0, x1] = endO (w_need_place_S [.fz x0, .fz x1]) := runD_eq rfl
noncomputable def w_near_C1 : Fr → R D := (eLc [2] (eIts rng1D (xCons (e2 ixD (eVb 0) (eC (.int 0))) xNil)) (gN 2) tAll (eLst xNil))
noncomputable def w_near_B1 : Fr → O := (sEnd [3, 4] (sSeq (sAppM 1 3 4)
    (sAppM 1 4 3)))
noncomputable def w_near_L1 : Fr → O := (sFor (eIt (e2 ixD (eVb 0) (eC (.int 1)))) (gT 2 (gCons' (gN 3) (gCons' (gN 4) gNil'))) w_near_B1)
noncomputable def w_near_C2 : Fr → R D := (eLc [5] (eIt (eV 1)) (gN 5) tAll (eB sortedD (xCons (eVb 5) xNil)))
noncomputable def w_near_S : Fr → O :=
  (sSeq (sLcM 1 w_near_C1)
    (sSeq w_near_L1
    (sFrz 1 (sRet w_near_C2))))
noncomputable def w_near : List D → R D := runD 6 1 w_near_S
theorem go_w_near (x0 : D) : w_near [x0] = endO (w_near_S [.fz x0, .un, .un, .un, .un, .un]) := runD_eq rfl
noncomputable def w_steps_from_B1 : Fr → O := (sEnd [6] (sIf (tB (e2 notInD (eVb 6) (eVb 3))) (sSeq (sSetK 3 (eVb 6) (e2 addD (e2 ixD (eVb 3) (e2 ixD (eVb 4) (eVb 5))) (eC (.int 1))))
    (sApp 4 (eV 6))) sNil))
noncomputable def w_steps_from_L1 : Fr → O := (sFor (eIt (e2 ixD (eVb 2) (e2 ixD (eVb 4) (eVb 5)))) (gN 6) w_steps_from_B1)
noncomputable def w_steps_from_T1 : Fr → R Bool := (tB (e2 ltD (eVb 5) (eB lenD (xCons (eVb 4) xNil))))
noncomputable def w_steps_from_B2 : Fr → O := (sEnd [6] (sSeq w_steps_from_L1
    (sSet 5 (e2 addD (eVb 5) (eC (.int 1))))))
noncomputable def w_steps_from_L2 : Fr → O := (sWhile w_steps_from_T1 w_steps_from_B2)
noncomputable def w_steps_from_S : Fr → O :=
  (sSeq (sSet 2 (eB w_near (xCons (eV 0) xNil)))
    (sSeq (sOwn 3 (eD1 (eV 1) (eC (.int 0))))
    (sSeq (sOwn 4 (eLst (xCons (eV 1) xNil)))
    (sSeq (sSet 5 (eC (.int 0)))
    (sSeq w_steps_from_L2
    (sRet (eVb 3)))))))
noncomputable def w_steps_from : List D → R D := runD 7 2 w_steps_from_S
theorem go_w_steps_from (x0 x1 : D) : w_steps_from [x0, x1] = endO (w_steps_from_S [.fz x0, .fz x1, .un, .un, .un, .un, .un]) := runD_eq rfl
noncomputable def w_hangs_together_S : Fr → O :=
  (sRet (e2 eqD (eB lenD (xCons (eB w_steps_from (xCons (eV 0) (xCons (eC (.int 0)) xNil))) xNil)) (e2 ixD (eVb 0) (eC (.int 0)))))
noncomputable def w_hangs_together : List D → R D := runD 1 1 w_hangs_together_S
theorem go_w_hangs_together (x0 : D) : w_hangs_together [x0] = endO (w_hangs_together_S [.fz x0]) := runD_eq rfl
noncomputable def w_is_whole_S : Fr → O :=
  (sSeq (sEx (eB w_need_web (xCons (eV 0) xNil)))
    (sRet (eB w_hangs_together (xCons (eV 0) xNil))))
noncomputable def w_is_whole : List D → R D := runD 1 1 w_is_whole_S
theorem go_w_is_whole (x0 : D) : w_is_whole [x0] = endO (w_is_whole_S [.fz x0]) := runD_eq rfl
noncomputable def w_need_whole_S : Fr → O :=
  (sIf (tNotR (tV (eB w_is_whole (xCons (eV 0) xNil)))) (fun _ => .er "NotWhole") sNil)
noncomputable def w_need_whole : List D → R D := runD 1 1 w_need_whole_S
theorem go_w_need_whole (x0 : D) : w_need_whole [x0] = endO (w_need_whole_S [.fz x0]) := runD_eq rfl
noncomputable def w_law_tree_C1 : Fr → R D := (eLc [6] (eIts rng1D (xCons (eVb 2) xNil)) (gN 6) tAll (eTup (xCons (eB w_law_draw (xCons (eV 0) (xCons (e2 addD (eC (.int 2000)) (eVb 6)) (xCons (eC (.int 97)) xNil)))) (xCons (eV 6) xNil))))
noncomputable def w_law_tree_C2 : Fr → R D := (eLc [5] (eIt (eB sortedD (xCons w_law_tree_C1 xNil))) (gN 5) tAll (e2 ixD (eVb 5) (eC (.int 1))))
noncomputable def w_law_tree_B1 : Fr → O := (sEnd [6, 8] (sSeq (sSet 8 (e2 ixD (eLst (xCons (e2 subD (eVb 6) (eC (.int 1))) (xCons (e2 fdivD (eVb 6) (eC (.int 2))) (xCons (e2 fdivD (eVb 6) (eC (.int 4))) (xCons (eB w_law_draw (xCons (eV 0) (xCons (e2 addD (eC (.int 2100)) (eVb 6)) (xCons (eV 6) xNil)))) xNil))))) (eVb 3)))
    (sSeq (sIf (tB (e2 eqD (eB w_law_draw (xCons (eV 0) (xCons (e2 addD (eC (.int 2200)) (eVb 6)) (xCons (eC (.int 4)) xNil)))) (eC (.int 0)))) (sSet 8 (eB w_law_draw (xCons (eV 0) (xCons (e2 addD (eC (.int 2300)) (eVb 6)) (xCons (eV 6) xNil))))) sNil)
    (sApp 7 (eTup (xCons (eB min2D (xCons (e2 ixD (eVb 4) (eVb 8)) (xCons (e2 ixD (eVb 4) (eVb 6)) xNil))) (xCons (eB max2D (xCons (e2 ixD (eVb 4) (eVb 8)) (xCons (e2 ixD (eVb 4) (eVb 6)) xNil))) xNil)))))))
noncomputable def w_law_tree_L1 : Fr → O := (sFor (eIts rng2D (xCons (eC (.int 1)) (xCons (eVb 2) xNil))) (gN 6) w_law_tree_B1)
noncomputable def w_law_tree_S : Fr → O :=
  (sSeq (sSet 2 (e2 addD (eC (.int 1)) (eB w_law_draw (xCons (eV 0) (xCons (eC (.int 0)) (xCons (eV 1) xNil))))))
    (sSeq (sSet 3 (eB w_law_draw (xCons (eV 0) (xCons (eC (.int 1)) (xCons (eC (.int 4)) xNil)))))
    (sSeq (sSet 4 w_law_tree_C2)
    (sSeq (sOwn 7 (eLst xNil))
    (sSeq w_law_tree_L1
    (sRet (eTup (xCons (eV 2) (xCons (eB tupleD (xCons (eB sortedD (xCons (eVb 7) xNil)) xNil)) xNil)))))))))
noncomputable def w_law_tree : List D → R D := runD 9 2 w_law_tree_S
theorem go_w_law_tree (x0 x1 : D) : w_law_tree [x0, x1] = endO (w_law_tree_S [.fz x0, .fz x1, .un, .un, .un, .un, .un, .un, .un]) := runD_eq rfl
noncomputable def w_law_nigh_C1 : Fr → R D := (eLc [2] (eIts rng1D (xCons (e2 ixD (eVb 0) (eC (.int 0))) xNil)) (gN 2) tAll (eLst xNil))
noncomputable def w_law_nigh_B1 : Fr → O := (sEnd [3, 4] (sSeq (sAppM 1 3 4)
    (sAppM 1 4 3)))
noncomputable def w_law_nigh_L1 : Fr → O := (sFor (eIt (e2 ixD (eVb 0) (eC (.int 1)))) (gT 2 (gCons' (gN 3) (gCons' (gN 4) gNil'))) w_law_nigh_B1)
noncomputable def w_law_nigh_C2 : Fr → R D := (eLc [5] (eIt (eV 1)) (gN 5) tAll (eB sortedD (xCons (eVb 5) xNil)))
noncomputable def w_law_nigh_S : Fr → O :=
  (sSeq (sLcM 1 w_law_nigh_C1)
    (sSeq w_law_nigh_L1
    (sFrz 1 (sRet w_law_nigh_C2))))
noncomputable def w_law_nigh : List D → R D := runD 6 1 w_law_nigh_S
noncomputable def w_law_steps_B1 : Fr → O := (sEnd [6] (sIf (fun ρ => ((e2 ixD (eVb 3) (eVb 6)) ρ).bind fun x => .ok (isNon x)) (sSetL 3 (eVb 6) (e2 addD (eVb 4) (eC (.int 1)))) sNil))
noncomputable def w_law_steps_L1 : Fr → O := (sFor (eIt (e2 ixD (eVb 2) (eVb 5))) (gN 6) w_law_steps_B1)
noncomputable def w_law_steps_B2 : Fr → O := (sEnd [5, 6] (sIf (tB (e2 eqD (e2 ixD (eVb 3) (eVb 5)) (eVb 4))) w_law_steps_L1 sNil))
noncomputable def w_law_steps_L2 : Fr → O := (sFor (eIts rng1D (xCons (e2 ixD (eVb 0) (eC (.int 0))) xNil)) (gN 5) w_law_steps_B2)
noncomputable def w_law_steps_B3 : Fr → O := (sEnd [4, 5, 6] w_law_steps_L2)
noncomputable def w_law_steps_L3 : Fr → O := (sFor (eIts rng1D (xCons (e2 ixD (eVb 0) (eC (.int 0))) xNil)) (gN 4) w_law_steps_B3)
noncomputable def w_law_steps_S : Fr → O :=
  (sSeq (sSet 2 (eB w_law_nigh (xCons (eV 0) xNil)))
    (sSeq (sOwn 3 (e2 repND (eLst (xCons (eC .non) xNil)) (e2 ixD (eVb 0) (eC (.int 0)))))
    (sSeq (sSetL 3 (eVb 1) (eC (.int 0)))
    (sSeq w_law_steps_L3
    (sRet (eVb 3))))))
noncomputable def w_law_steps : List D → R D := runD 7 2 w_law_steps_S
theorem go_w_law_steps (x0 x1 : D) : w_law_steps [x0, x1] = endO (w_law_steps_S [.fz x0, .fz x1, .un, .un, .un, .un, .un]) := runD_eq rfl
noncomputable def w_law_no_web_v2_S : Fr → O :=
  (sSeq (sTup (gT 2 (gCons' (gN 3) (gCons' (gN 4) gNil'))) (eV 2))
    (sSeq (sSet 5 (eB w_law_draw (xCons (eV 0) (xCons (e2 addD (eVb 1) (eC (.int 2))) (xCons (e2 addD (eB lenD (xCons (eVb 4) xNil)) (eC (.int 1))) xNil)))))
    (sSeq (sSet 6 (e2 ixD (e2 addD (eVb 4) (eTup (xCons (eTup (xCons (eC (.int 0)) (xCons (eC (.int 1)) xNil))) xNil))) (eC (.int 0))))
    (sSeq (sSet 7 (eLst (xCons (eTup (xCons (e2 ixD (eVb 6) (eC (.int 1))) (xCons (e2 ixD (eVb 6) (eC (.int 0))) xNil))) (xCons (eTup (xCons (eC (.int 0)) (xCons (eV 3) xNil))) (xCons (eTup (xCons (eC (.bl true)) (xCons (eC (.int 1)) xNil))) (xCons (eTup (xCons (eC (.int 0)) (xCons (eC (.int 0)) xNil))) (xCons (eLst (xCons (eC (.int 0)) (xCons (eC (.int 1)) xNil))) (xCons (eTup (xCons (eC (.int 0)) xNil)) (xCons (eC .non) (xCons (eTup (xCons (e1 negD (eC (.int 1))) (xCons (eC (.int 0)) xNil))) (xCons (eTup (xCons (eC (.int 0)) (xCons (eC (.int 1)) (xCons (eC (.int 2)) xNil)))) (xCons (eTup (xCons (eC (.str "0")) (xCons (eC (.int 1)) xNil))) xNil))))))))))))
    (sSeq (sOwn 8 (eLst (xCons (eTup (xCons (eC (.int 0)) (xCons (eTup xNil) xNil))) (xCons (eTup (xCons (eC (.int 41)) (xCons (eTup xNil) xNil))) (xCons (eTup (xCons (eC (.bl true)) (xCons (eTup xNil) xNil))) (xCons (eTup (xCons (e1 negD (eC (.int 1))) (xCons (eTup xNil) xNil))) (xCons (eC .non) (xCons (eLst (xCons (eV 3) (xCons (eV 4) xNil))) (xCons (eTup (xCons (eV 3) (xCons (eB listD (xCons (eVb 4) xNil)) xNil))) (xCons (eTup (xCons (eV 3) xNil)) (xCons (eC (.str "1")) xNil)))))))))))
    (sSeq (sOwn 8 (e2 catND (eVb 8) (eLst (xCons (eC (.int 7)) (xCons (eC (.dk [])) (xCons (eTup (xCons (eV 3) (xCons (eV 4) (xCons (eTup xNil) xNil)))) (xCons (eTup (xCons (eV 3) (xCons (e2 addD (eVb 4) (eTup (xCons (eTup (xCons (eC (.int 0)) (xCons (eV 3) xNil))) xNil))) xNil))) (xCons (eTup (xCons (eC (.str "1")) (xCons (eTup xNil) xNil))) (xCons (eTup (xCons (eV 3) (xCons (eC .non) xNil))) xNil)))))))))
    (sSeq (sApp 8 (eTup (xCons (eV 3) (xCons (e2 addD (e2 addD (eSl slD (eVb 4) oNone (oSome (eVb 5))) (eTup (xCons (e2 ixD (eVb 7) (eB w_law_draw (xCons (eV 0) (xCons (e2 addD (eVb 1) (eC (.int 1))) (xCons (eC (.int 10)) xNil))))) xNil))) (eSl slD (eVb 4) (oSome (eVb 5)) oNone)) xNil))))
    (sRet (e2 ixD (eVb 8) (e2 modD (eB w_law_draw (xCons (eV 0) (xCons (eV 1) (xCons (eC (.int 19)) xNil)))) (eC (.int 16))))))))))))
noncomputable def w_law_no_web_v2 : List D → R D := runD 9 3 w_law_no_web_v2_S
theorem go_w_law_no_web_v2 (x0 x1 x2 : D) : w_law_no_web_v2 [x0, x1, x2] = endO (w_law_no_web_v2_S [.fz x0, .fz x1, .fz x2, .un, .un, .un, .un, .un, .un]) := runD_eq rfl
noncomputable def w_stands_C1 : Fr → R D := (eLc [2] (eIt (eV 1)) (gN 2) tAll (eB w_is_number (xCons (eV 2) (xCons (eC (.int 0)) (xCons (eC (.int 1000000000000000000000000000000000000000000000000000000000000)) xNil)))))
noncomputable def w_stands_S : Fr → O :=
  (sSeq (sIf (tOrR (tNotR (tV (eB isiD (xCons (eVb 1) (xCons (eC (.ty "tuple")) xNil))))) (tB (e2 neD (eB lenD (xCons (eVb 1) xNil)) (e2 ixD (eVb 0) (eC (.int 0)))))) (sRet (eC (.bl false))) sNil)
    (sRet (eB allD (xCons w_stands_C1 xNil))))
noncomputable def w_stands : List D → R D := runD 3 2 w_stands_S
theorem go_w_stands (x0 x1 : D) : w_stands [x0, x1] = endO (w_stands_S [.fz x0, .fz x1, .un]) := runD_eq rfl
noncomputable def w_is_standing_S : Fr → O :=
  (sSeq (sEx (eB w_need_web (xCons (eV 0) xNil)))
    (sRet (eB w_stands (xCons (eV 0) (xCons (eV 1) xNil)))))
noncomputable def w_is_standing : List D → R D := runD 2 2 w_is_standing_S
theorem go_w_is_standing (x0 x1 : D) : w_is_standing [x0, x1] = endO (w_is_standing_S [.fz x0, .fz x1]) := runD_eq rfl
noncomputable def w_need_standing_S : Fr → O :=
  (sIf (tNotR (tV (eB w_stands (xCons (eV 0) (xCons (eV 1) xNil))))) (fun _ => .er "NoStanding") sNil)
noncomputable def w_need_standing : List D → R D := runD 2 2 w_need_standing_S
theorem go_w_need_standing (x0 x1 : D) : w_need_standing [x0, x1] = endO (w_need_standing_S [.fz x0, .fz x1]) := runD_eq rfl
noncomputable def w_total_S : Fr → O :=
  (sSeq (sEx (eB w_need_web (xCons (eV 0) xNil)))
    (sSeq (sEx (eB w_need_standing (xCons (eV 0) (xCons (eV 1) xNil))))
    (sRet (eB sumD (xCons (eVb 1) xNil)))))
noncomputable def w_total : List D → R D := runD 2 2 w_total_S
theorem go_w_total (x0 x1 : D) : w_total [x0, x1] = endO (w_total_S [.fz x0, .fz x1]) := runD_eq rfl
noncomputable def w_law_standing_B1 : Fr → O := (sEnd [6, 7, 8] (sSeq (sSet 7 (eB w_law_draw (xCons (eV 0) (xCons (e2 addD (e2 addD (eVb 1) (eC (.int 2))) (e2 mulD (eC (.int 2)) (eVb 6))) (xCons (e2 addD (eVb 4) (eC (.int 1))) xNil)))))
    (sSeq (sSet 8 (eB w_law_draw (xCons (eV 0) (xCons (e2 addD (e2 addD (eVb 1) (eC (.int 1))) (e2 mulD (eC (.int 2)) (eVb 6))) (xCons (eV 2) xNil)))))
    (sSeq (sSetL 5 (eVb 8) (e2 addD (e2 ixD (eVb 5) (eVb 8)) (eVb 7)))
    (sSet 4 (e2 subD (eVb 4) (eVb 7)))))))
noncomputable def w_law_standing_L1 : Fr → O := (sFor (eIts rng1D (xCons (eC (.int 4)) xNil)) (gN 6) w_law_standing_B1)
noncomputable def w_law_standing_S : Fr → O :=
  (sSeq (sSet 4 (eB w_law_draw (xCons (eV 0) (xCons (eV 1) (xCons (e2 addD (eVb 3) (eC (.int 1))) xNil)))))
    (sSeq (sOwn 5 (e2 repND (eLst (xCons (eC (.int 0)) xNil)) (eVb 2)))
    (sSeq w_law_standing_L1
    (sSeq (sSet 8 (eB w_law_draw (xCons (eV 0) (xCons (e2 addD (eVb 1) (eC (.int 9))) (xCons (eV 2) xNil)))))
    (sSeq (sSetL 5 (eVb 8) (e2 addD (e2 ixD (eVb 5) (eVb 8)) (eVb 4)))
    (sRet (eB tupleD (xCons (eVb 5) xNil))))))))
noncomputable def w_law_standing : List D → R D := runD 9 4 w_law_standing_S
theorem go_w_law_standing (x0 x1 x2 x3 : D) : w_law_standing [x0, x1, x2, x3] = endO (w_law_standing_S [.fz x0, .fz x1, .fz x2, .fz x3, .un, .un, .un, .un, .un]) := runD_eq rfl
noncomputable def w_law_no_standing_S : Fr → O :=
  (sSeq (sSet 3 (eB w_law_draw (xCons (eV 0) (xCons (e2 addD (eVb 1) (eC (.int 2))) (xCons (eV 2) xNil)))))
    (sSeq (sSet 4 (e2 mulD (eTup (xCons (eC (.int 2)) xNil)) (eVb 2)))
    (sSeq (sSet 5 (e2 ixD (eLst (xCons (e1 negD (eC (.int 1))) (xCons (eC (.bl true)) (xCons (eC .non) (xCons (eC (.str "2")) (xCons (eTup (xCons (eC (.int 2)) xNil)) (xCons (eLst (xCons (eC (.int 2)) xNil)) (xCons (e1 negD (e2 powD (eC (.int 10)) (eC (.int 25)))) xNil)))))))) (eB w_law_draw (xCons (eV 0) (xCons (e2 addD (eVb 1) (eC (.int 1))) (xCons (eC (.int 7)) xNil))))))
    (sSeq (sOwn 6 (eLst (xCons (e2 addD (e2 addD (eSl slD (eVb 4) oNone (oSome (eVb 3))) (eTup (xCons (eV 5) xNil))) (eSl slD (eVb 4) (oSome (e2 addD (eVb 3) (eC (.int 1)))) oNone)) (xCons (eSl slD (eVb 4) (oSome (eC (.int 1))) oNone) (xCons (e2 addD (eVb 4) (eTup (xCons (eC (.int 0)) xNil))) (xCons (eB listD (xCons (eVb 4) xNil)) (xCons (eC .non) (xCons (eC (.int 5)) (xCons (eC (.dk [])) (xCons (eC (.str "2")) xNil))))))))))
    (sSeq (sApp 6 (eTup (xCons (eV 4) xNil)))
    (sRet (e2 ixD (eVb 6) (e2 ixD (eLst (xCons (eC (.int 0)) (xCons (eC (.int 0)) (xCons (eC (.int 0)) (xCons (eC (.int 1)) (xCons (eC (.int 2)) (xCons (eC (.int 3)) (xCons (eC (.int 4)) (xCons (eC (.int 5)) (xCons (eC (.int 6)) (xCons (eC (.int 7)) (xCons (eC (.int 8)) xNil)))))))))))) (eB w_law_draw (xCons (eV 0) (xCons (eV 1) (xCons (eC (.int 11)) xNil))))))))))))
noncomputable def w_law_no_standing : List D → R D := runD 7 3 w_law_no_standing_S
theorem go_w_law_no_standing (x0 x1 x2 : D) : w_law_no_standing [x0, x1, x2] = endO (w_law_no_standing_S [.fz x0, .fz x1, .fz x2, .un, .un, .un, .un]) := runD_eq rfl
noncomputable def w_law_nigh_v2_C1 : Fr → R D := (eLc [2] (eIts rng1D (xCons (e2 ixD (eVb 0) (eC (.int 0))) xNil)) (gN 2) tAll (eLst xNil))
noncomputable def w_law_nigh_v2_B1 : Fr → O := (sEnd [3, 4] (sSeq (sAppM 1 3 4)
    (sAppM 1 4 3)))
noncomputable def w_law_nigh_v2_L1 : Fr → O := (sFor (eIt (e2 ixD (eVb 0) (eC (.int 1)))) (gT 2 (gCons' (gN 3) (gCons' (gN 4) gNil'))) w_law_nigh_v2_B1)
noncomputable def w_law_nigh_v2_C2 : Fr → R D := (eLc [5] (eIt (eV 1)) (gN 5) tAll (eB sortedD (xCons (eVb 5) xNil)))
noncomputable def w_law_nigh_v2_S : Fr → O :=
  (sSeq (sLcM 1 w_law_nigh_v2_C1)
    (sSeq w_law_nigh_v2_L1
    (sFrz 1 (sRet w_law_nigh_v2_C2))))
noncomputable def w_law_nigh_v2 : List D → R D := runD 6 1 w_law_nigh_v2_S
noncomputable def w_law_steps_v2_B1 : Fr → O := (sEnd [6] (sIf (fun ρ => ((e2 ixD (eVb 3) (eVb 6)) ρ).bind fun x => .ok (isNon x)) (sSetL 3 (eVb 6) (e2 addD (eVb 4) (eC (.int 1)))) sNil))
noncomputable def w_law_steps_v2_L1 : Fr → O := (sFor (eIt (e2 ixD (eVb 2) (eVb 5))) (gN 6) w_law_steps_v2_B1)
noncomputable def w_law_steps_v2_B2 : Fr → O := (sEnd [5, 6] (sIf (tB (e2 eqD (e2 ixD (eVb 3) (eVb 5)) (eVb 4))) w_law_steps_v2_L1 sNil))
noncomputable def w_law_steps_v2_L2 : Fr → O := (sFor (eIts rng1D (xCons (e2 ixD (eVb 0) (eC (.int 0))) xNil)) (gN 5) w_law_steps_v2_B2)
noncomputable def w_law_steps_v2_B3 : Fr → O := (sEnd [4, 5, 6] w_law_steps_v2_L2)
noncomputable def w_law_steps_v2_L3 : Fr → O := (sFor (eIts rng1D (xCons (e2 ixD (eVb 0) (eC (.int 0))) xNil)) (gN 4) w_law_steps_v2_B3)
noncomputable def w_law_steps_v2_S : Fr → O :=
  (sSeq (sSet 2 (eB w_law_nigh_v2 (xCons (eV 0) xNil)))
    (sSeq (sOwn 3 (e2 repND (eLst (xCons (eC .non) xNil)) (e2 ixD (eVb 0) (eC (.int 0)))))
    (sSeq (sSetL 3 (eVb 1) (eC (.int 0)))
    (sSeq w_law_steps_v2_L3
    (sRet (eVb 3))))))
noncomputable def w_law_steps_v2 : List D → R D := runD 7 2 w_law_steps_v2_S
noncomputable def w_is_tree_S : Fr → O :=
  (sSeq (sEx (eB w_need_web (xCons (eV 0) xNil)))
    (sRet (eAnd (eB w_hangs_together (xCons (eV 0) xNil)) (e2 eqD (eB lenD (xCons (e2 ixD (eVb 0) (eC (.int 1))) xNil)) (e2 subD (e2 ixD (eVb 0) (eC (.int 0))) (eC (.int 1)))))))
noncomputable def w_is_tree : List D → R D := runD 1 1 w_is_tree_S
theorem go_w_is_tree (x0 : D) : w_is_tree [x0] = endO (w_is_tree_S [.fz x0]) := runD_eq rfl
noncomputable def w_good_demands_C1 : Fr → R D := (eLc [2] (eIt (eV 1)) (gN 2) tAll (eB w_is_number (xCons (eV 2) (xCons (eC (.int 1)) (xCons (e2 addD (eC (.int 1000)) (eC (.int 1))) xNil)))))
noncomputable def w_good_demands_S : Fr → O :=
  (sSeq (sIf (tOrR (tNotR (tV (eB isiD (xCons (eVb 1) (xCons (eC (.ty "tuple")) xNil))))) (tB (e2 neD (eB lenD (xCons (eVb 1) xNil)) (e2 ixD (eVb 0) (eC (.int 0)))))) (sRet (eC (.bl false))) sNil)
    (sRet (eB allD (xCons w_good_demands_C1 xNil))))
noncomputable def w_good_demands : List D → R D := runD 3 2 w_good_demands_S
theorem go_w_good_demands (x0 x1 : D) : w_good_demands [x0, x1] = endO (w_good_demands_S [.fz x0, .fz x1, .un]) := runD_eq rfl
noncomputable def w_are_demands_S : Fr → O :=
  (sSeq (sEx (eB w_need_whole (xCons (eV 0) xNil)))
    (sRet (eB w_good_demands (xCons (eV 0) (xCons (eV 1) xNil)))))
noncomputable def w_are_demands : List D → R D := runD 2 2 w_are_demands_S
theorem go_w_are_demands (x0 x1 : D) : w_are_demands [x0, x1] = endO (w_are_demands_S [.fz x0, .fz x1]) := runD_eq rfl
noncomputable def w_law_draw_v2_B1 : Fr → O := (sEnd [4] (sSet 3 (e2 fdivD (eVb 3) (eVb 2))))
noncomputable def w_law_draw_v2_L1 : Fr → O := (sFor (eIts rng1D (xCons (eVb 1) xNil)) (gN 4) w_law_draw_v2_B1)
noncomputable def w_law_draw_v2_S : Fr → O :=
  (sSeq (sIf (tB (e2 geD (eVb 0) (e2 powD (eC (.int 10)) (eC (.int 18))))) (sSeq (sSet 3 (eV 0))
    (sSeq w_law_draw_v2_L1
    (sRet (e2 modD (eVb 3) (eVb 2))))) sNil)
    (sSeq (sSet 5 (e2 modD (e2 mulD (e2 addD (e2 addD (e2 modD (eVb 0) (eC (.int 1000000007))) (e2 mulD (eC (.int 1009)) (eVb 1))) (eC (.int 17))) (eC (.int 69621))) (eC (.int 2147483647))))
    (sSeq (sSet 5 (e2 modD (e2 addD (e2 addD (e2 mulD (eVb 5) (eVb 5)) (e2 mulD (eC (.int 40503)) (eVb 1))) (eC (.int 5))) (eC (.int 2147483629))))
    (sRet (e2 modD (e2 fdivD (e2 modD (e2 mulD (eVb 5) (eC (.int 48271))) (eC (.int 2147483647))) (eC (.int 32))) (eVb 2))))))
noncomputable def w_law_draw_v2 : List D → R D := runD 6 3 w_law_draw_v2_S
theorem go_w_law_draw_v2 (x0 x1 x2 : D) : w_law_draw_v2 [x0, x1, x2] = endO (w_law_draw_v2_S [.fz x0, .fz x1, .fz x2, .un, .un, .un]) := runD_eq rfl
noncomputable def w_law_whole_v2_S : Fr → O :=
  (sRet (eAnd (eB isiD (xCons (eVb 0) (xCons (eC (.ty "int")) xNil))) (eNot (eB isiD (xCons (eVb 0) (xCons (eC (.ty "bool")) xNil))))))
noncomputable def w_law_whole_v2 : List D → R D := runD 1 1 w_law_whole_v2_S
theorem go_w_law_whole_v2 (x0 : D) : w_law_whole_v2 [x0] = endO (w_law_whole_v2_S [.fz x0]) := runD_eq rfl
noncomputable def w_law_turn_B1 : Fr → O := (sEnd [3] (sIns 2 (eB w_law_draw_v2 (xCons (eV 0) (xCons (e2 addD (eC (.int 100)) (eVb 3)) (xCons (e2 addD (eVb 3) (eC (.int 1))) xNil)))) (eV 3)))
noncomputable def w_law_turn_L1 : Fr → O := (sFor (eIts rng1D (xCons (eVb 1) xNil)) (gN 3) w_law_turn_B1)
noncomputable def w_law_turn_S : Fr → O :=
  (sSeq (sOwn 2 (eLst xNil))
    (sSeq w_law_turn_L1
    (sRet (eVb 2))))
noncomputable def w_law_turn : List D → R D := runD 4 2 w_law_turn_S
theorem go_w_law_turn (x0 x1 : D) : w_law_turn [x0, x1] = endO (w_law_turn_S [.fz x0, .fz x1, .un, .un]) := runD_eq rfl
noncomputable def w_law_tree_v2_B1 : Fr → O := (sEnd [6, 7] (sSeq (sSet 7 (e2 ixD (eLst (xCons (e2 subD (eVb 6) (eC (.int 1))) (xCons (eC (.int 0)) (xCons (eB w_law_draw_v2 (xCons (eV 0) (xCons (e2 addD (eC (.int 2)) (eVb 6)) (xCons (eV 6) xNil)))) (xCons (eB max2D (xCons (eC (.int 0)) (xCons (e2 subD (e2 subD (eVb 6) (eC (.int 1))) (eB w_law_draw_v2 (xCons (eV 0) (xCons (e2 addD (eC (.int 2)) (eVb 6)) (xCons (eC (.int 3)) xNil))))) xNil))) (xCons (e2 fdivD (eVb 6) (eC (.int 2))) xNil)))))) (eVb 3)))
    (sApp 5 (eTup (xCons (eB min2D (xCons (e2 ixD (eVb 4) (eVb 6)) (xCons (e2 ixD (eVb 4) (eVb 7)) xNil))) (xCons (eB max2D (xCons (e2 ixD (eVb 4) (eVb 6)) (xCons (e2 ixD (eVb 4) (eVb 7)) xNil))) xNil))))))
noncomputable def w_law_tree_v2_L1 : Fr → O := (sFor (eIts rng2D (xCons (eC (.int 1)) (xCons (eVb 2) xNil))) (gN 6) w_law_tree_v2_B1)
noncomputable def w_law_tree_v2_S : Fr → O :=
  (sSeq (sSet 2 (e2 addD (eC (.int 1)) (eB w_law_draw_v2 (xCons (eV 0) (xCons (eC (.int 0)) (xCons (eV 1) xNil))))))
    (sSeq (sSet 3 (eB w_law_draw_v2 (xCons (eV 0) (xCons (eC (.int 1)) (xCons (eC (.int 5)) xNil)))))
    (sSeq (sSet 4 (eB w_law_turn (xCons (eV 0) (xCons (eV 2) xNil))))
    (sSeq (sOwn 5 (eLst xNil))
    (sSeq w_law_tree_v2_L1
    (sRet (eTup (xCons (eV 2) (xCons (eB tupleD (xCons (eB sortedD (xCons (eVb 5) xNil)) xNil)) xNil)))))))))
noncomputable def w_law_tree_v2 : List D → R D := runD 8 2 w_law_tree_v2_S
theorem go_w_law_tree_v2 (x0 x1 : D) : w_law_tree_v2 [x0, x1] = endO (w_law_tree_v2_S [.fz x0, .fz x1, .un, .un, .un, .un, .un, .un]) := runD_eq rfl
noncomputable def w_law_web_v2_B1 : Fr → O := (sEnd [8] (sSeq (sSet 6 (e2 addD (eVb 6) (eC (.int 1))))
    (sIf (tAndR (tB (e2 notInD (eTup (xCons (eV 7) (xCons (eV 8) xNil))) (eVb 3))) (tB (e2 ltD (eB w_law_draw_v2 (xCons (eV 0) (xCons (e2 addD (eC (.int 200)) (e2 modD (eVb 6) (eC (.int 300)))) (xCons (eC (.int 8)) xNil)))) (eVb 4)))) (sApp 5 (eTup (xCons (eV 7) (xCons (eV 8) xNil)))) sNil)))
noncomputable def w_law_web_v2_L1 : Fr → O := (sFor (eIts rng2D (xCons (e2 addD (eVb 7) (eC (.int 1))) (xCons (eVb 2) xNil))) (gN 8) w_law_web_v2_B1)
noncomputable def w_law_web_v2_B2 : Fr → O := (sEnd [7, 8] w_law_web_v2_L1)
noncomputable def w_law_web_v2_L2 : Fr → O := (sFor (eIts rng1D (xCons (eVb 2) xNil)) (gN 7) w_law_web_v2_B2)
noncomputable def w_law_web_v2_S : Fr → O :=
  (sSeq (sTup (gT 2 (gCons' (gN 2) (gCons' (gN 3) gNil'))) (eB w_law_tree_v2 (xCons (eV 0) (xCons (eV 1) xNil))))
    (sSeq (sSet 4 (e2 ixD (eLst (xCons (eC (.int 0)) (xCons (eC (.int 1)) (xCons (eC (.int 3)) (xCons (eC (.int 6)) (xCons (eC (.int 8)) xNil)))))) (eB w_law_draw_v2 (xCons (eV 0) (xCons (eC (.int 60)) (xCons (eC (.int 5)) xNil))))))
    (sSeq (sOwn 5 (eB listD (xCons (eVb 3) xNil)))
    (sSeq (sSet 6 (eC (.int 0)))
    (sSeq w_law_web_v2_L2
    (sRet (eTup (xCons (eV 2) (xCons (eB tupleD (xCons (eB sortedD (xCons (eVb 5) xNil)) xNil)) xNil)))))))))
noncomputable def w_law_web_v2 : List D → R D := runD 9 2 w_law_web_v2_S
theorem go_w_law_web_v2 (x0 x1 : D) : w_law_web_v2 [x0, x1] = endO (w_law_web_v2_S [.fz x0, .fz x1, .un, .un, .un, .un, .un, .un, .un]) := runD_eq rfl
noncomputable def w_law_demands_C1 : Fr → R D := (eLc [4] (eIts rng1D (xCons (eVb 1) xNil)) (gN 4) tAll (e2 addD (eC (.int 1)) (eB w_law_draw_v2 (xCons (eV 0) (xCons (e2 addD (eC (.int 161)) (eVb 4)) (xCons (e2 ixD (eLst (xCons (eC (.int 1)) (xCons (eC (.int 4)) (xCons (eC (.int 1000)) (xCons (eC (.int 1)) xNil))))) (eVb 2)) xNil))))))
noncomputable def w_law_demands_S : Fr → O :=
  (sSeq (sSet 2 (eB w_law_draw_v2 (xCons (eV 0) (xCons (eC (.int 160)) (xCons (eC (.int 4)) xNil)))))
    (sSeq (sOwn 3 w_law_demands_C1)
    (sSeq (sIf (tB (e2 eqD (eVb 2) (eC (.int 3)))) (sSetL 3 (eB w_law_draw_v2 (xCons (eV 0) (xCons (eC (.int 159)) (xCons (eV 1) xNil)))) (eC (.int 1000))) sNil)
    (sRet (eB tupleD (xCons (eVb 3) xNil))))))
noncomputable def w_law_demands : List D → R D := runD 5 2 w_law_demands_S
theorem go_w_law_demands (x0 x1 : D) : w_law_demands [x0, x1] = endO (w_law_demands_S [.fz x0, .fz x1, .un, .un, .un]) := runD_eq rfl
noncomputable def w_law_are_demands_C1 : Fr → R D := (eLc [2] (eIt (eV 1)) (gN 2) tAll (eAnd (eB w_law_whole_v2 (xCons (eV 2) xNil)) (e3c leD leD (eC (.int 1)) (eVb 2) (eC (.int 1000)))))
noncomputable def w_law_are_demands_S : Fr → O :=
  (sSeq (sIf (tOrR (tNotR (tV (eB isiD (xCons (eVb 1) (xCons (eC (.ty "tuple")) xNil))))) (tB (e2 neD (eB lenD (xCons (eVb 1) xNil)) (e2 ixD (eVb 0) (eC (.int 0)))))) (sRet (eC (.bl false))) sNil)
    (sRet (eB allD (xCons w_law_are_demands_C1 xNil))))
noncomputable def w_law_are_demands : List D → R D := runD 3 2 w_law_are_demands_S
theorem go_w_law_are_demands (x0 x1 : D) : w_law_are_demands [x0, x1] = endO (w_law_are_demands_S [.fz x0, .fz x1, .un]) := runD_eq rfl
noncomputable def w_need_demands_S : Fr → O :=
  (sIf (tNotR (tV (eB w_good_demands (xCons (eV 0) (xCons (eV 1) xNil))))) (fun _ => .er "NoDemands") sNil)
noncomputable def w_need_demands : List D → R D := runD 2 2 w_need_demands_S
theorem go_w_need_demands (x0 x1 : D) : w_need_demands [x0, x1] = endO (w_need_demands_S [.fz x0, .fz x1]) := runD_eq rfl
noncomputable def w_stack_of_C1 : Fr → R D := (eLc [4] (eIts rng1D (xCons (e2 ixD (eVb 0) (eC (.int 0))) xNil)) (gN 4) tAll (e2 shlD (e2 ixD (eVb 1) (eVb 4)) (e2 ixD (eVb 3) (eVb 4))))
noncomputable def w_stack_of_S : Fr → O :=
  (sSeq (sSet 3 (eB w_steps_from (xCons (eV 0) (xCons (eV 2) xNil))))
    (sRet (eB sumD (xCons w_stack_of_C1 xNil))))
noncomputable def w_stack_of : List D → R D := runD 5 3 w_stack_of_S
theorem go_w_stack_of (x0 x1 x2 : D) : w_stack_of [x0, x1, x2] = endO (w_stack_of_S [.fz x0, .fz x1, .fz x2, .un, .un]) := runD_eq rfl
noncomputable def w_stack_S : Fr → O :=
  (sSeq (sEx (eB w_need_whole (xCons (eV 0) xNil)))
    (sSeq (sEx (eB w_need_demands (xCons (eV 0) (xCons (eV 1) xNil))))
    (sSeq (sEx (eB w_need_place (xCons (eV 0) (xCons (eV 2) xNil))))
    (sRet (eB w_stack_of (xCons (eV 0) (xCons (eV 1) (xCons (eV 2) xNil))))))))
noncomputable def w_stack : List D → R D := runD 3 3 w_stack_S
theorem go_w_stack (x0 x1 x2 : D) : w_stack [x0, x1, x2] = endO (w_stack_S [.fz x0, .fz x1, .fz x2]) := runD_eq rfl
noncomputable def w_most_stacked_C1 : Fr → R D := (eLc [3] (eIts rng1D (xCons (e2 ixD (eVb 0) (eC (.int 0))) xNil)) (gN 3) tAll (eB w_stack_of (xCons (eV 0) (xCons (eV 1) (xCons (eV 3) xNil)))))
noncomputable def w_most_stacked_S : Fr → O :=
  (sSeq (sSet 2 w_most_stacked_C1)
    (sRet (eTup (xCons (eB maxD (xCons (eVb 2) xNil)) (xCons (eLm idxD (eVb 2) (eB maxD (xCons (eVb 2) xNil))) xNil)))))
noncomputable def w_most_stacked : List D → R D := runD 4 2 w_most_stacked_S
theorem go_w_most_stacked (x0 x1 : D) : w_most_stacked [x0, x1] = endO (w_most_stacked_S [.fz x0, .fz x1, .un, .un]) := runD_eq rfl
noncomputable def w_greatest_stack_S : Fr → O :=
  (sSeq (sEx (eB w_need_whole (xCons (eV 0) xNil)))
    (sSeq (sEx (eB w_need_demands (xCons (eV 0) (xCons (eV 1) xNil))))
    (sRet (eB w_most_stacked (xCons (eV 0) (xCons (eV 1) xNil))))))
noncomputable def w_greatest_stack : List D → R D := runD 2 2 w_greatest_stack_S
theorem go_w_greatest_stack (x0 x1 : D) : w_greatest_stack [x0, x1] = endO (w_greatest_stack_S [.fz x0, .fz x1]) := runD_eq rfl
noncomputable def w_stack_worst_C1 : Fr → R D := (eLc [4] (eIts rng1D (xCons (e2 ixD (eVb 0) (eC (.int 0))) xNil)) (gN 4) tAll (eIf (tB (e2 eqD (eVb 4) (eVb 3))) (e2 subD (eVb 2) (eC (.int 1))) (eC (.int 0))))
noncomputable def w_stack_worst_S : Fr → O :=
  (sSeq (sTup (gT 2 (gCons' (gN 2) (gCons' (gN 3) gNil'))) (eB w_greatest_stack (xCons (eV 0) (xCons (eV 1) xNil))))
    (sRet (eB tupleD (xCons w_stack_worst_C1 xNil))))
noncomputable def w_stack_worst : List D → R D := runD 5 2 w_stack_worst_S
theorem go_w_stack_worst (x0 x1 : D) : w_stack_worst [x0, x1] = endO (w_stack_worst_S [.fz x0, .fz x1, .un, .un, .un]) := runD_eq rfl
noncomputable def w_law_near_C1 : Fr → R D := (eLc [2, 3] (eIt (e2 ixD (eVb 0) (eC (.int 1)))) (gT 2 (gCons' (gN 2) (gCons' (gN 3) gNil'))) (tB (e2 inD (eVb 1) (eTup (xCons (eV 2) (xCons (eV 3) xNil))))) (e2 subD (e2 addD (eVb 2) (eVb 3)) (eVb 1)))
noncomputable def w_law_near_S : Fr → O :=
  (sRet w_law_near_C1)
noncomputable def w_law_near : List D → R D := runD 4 2 w_law_near_S
theorem go_w_law_near (x0 x1 : D) : w_law_near [x0, x1] = endO (w_law_near_S [.fz x0, .fz x1, .un, .un]) := runD_eq rfl
noncomputable def w_law_far_from_B1 : Fr → O := (sEnd [5] (sIf (tB (e2 notInD (eVb 5) (eVb 2))) (sSeq (sSetK 2 (eVb 5) (e2 addD (e2 ixD (eVb 2) (e2 ixD (eVb 3) (eVb 4))) (eC (.int 1))))
    (sApp 3 (eV 5))) sNil))
noncomputable def w_law_far_from_L1 : Fr → O := (sFor (eIt (eB w_law_near (xCons (eV 0) (xCons (e2 ixD (eVb 3) (eVb 4)) xNil)))) (gN 5) w_law_far_from_B1)
noncomputable def w_law_far_from_T1 : Fr → R Bool := (tB (e2 ltD (eVb 4) (eB lenD (xCons (eVb 3) xNil))))
noncomputable def w_law_far_from_B2 : Fr → O := (sEnd [5] (sSeq w_law_far_from_L1
    (sSet 4 (e2 addD (eVb 4) (eC (.int 1))))))
noncomputable def w_law_far_from_L2 : Fr → O := (sWhile w_law_far_from_T1 w_law_far_from_B2)
noncomputable def w_law_far_from_S : Fr → O :=
  (sSeq (sOwn 2 (eD1 (eV 1) (eC (.int 0))))
    (sSeq (sOwn 3 (eLst (xCons (eV 1) xNil)))
    (sSeq (sSet 4 (eC (.int 0)))
    (sSeq w_law_far_from_L2
    (sRet (eVb 2))))))
noncomputable def w_law_far_from : List D → R D := runD 6 2 w_law_far_from_S
theorem go_w_law_far_from (x0 x1 : D) : w_law_far_from [x0, x1] = endO (w_law_far_from_S [.fz x0, .fz x1, .un, .un, .un, .un]) := runD_eq rfl
noncomputable def w_law_doubled_B1 : Fr → O := (sEnd [2] (sSet 0 (e2 addD (eVb 0) (eVb 0))))
noncomputable def w_law_doubled_L1 : Fr → O := (sFor (eIts rng1D (xCons (eVb 1) xNil)) (gN 2) w_law_doubled_B1)
noncomputable def w_law_doubled_S : Fr → O :=
  (sSeq w_law_doubled_L1
    (sRet (eVb 0)))
noncomputable def w_law_doubled : List D → R D := runD 3 2 w_law_doubled_S
theorem go_w_law_doubled (x0 x1 : D) : w_law_doubled [x0, x1] = endO (w_law_doubled_S [.fz x0, .fz x1, .un]) := runD_eq rfl
noncomputable def w_law_k52_C1 : Fr → R D := (eLc [8] (eIts rng1D (xCons (e2 ixD (eVb 3) (eC (.int 0))) xNil)) (gN 8) tAll (eB w_law_doubled (xCons (e2 ixD (eVb 4) (eVb 8)) (xCons (e2 ixD (eVb 7) (eVb 8)) xNil))))
noncomputable def w_law_k52_B1 : Fr → O := (sEnd [6, 7, 9] (sSeq (sSet 7 (eB w_law_far_from (xCons (eV 3) (xCons (eV 6) xNil))))
    (sSeq (sApp 5 (eB sumD (xCons w_law_k52_C1 xNil)))
    (sSeq (sSet 9 (eB w_stack (xCons (eV 3) (xCons (eV 4) (xCons (eV 6) xNil)))))
    (sIf (tOrR (tNotR (tV (eB w_law_whole_v2 (xCons (eV 9) xNil)))) (tB (e2 neD (eVb 9) (e2 ixD (eVb 5) (e1 negD (eC (.int 1))))))) (sRet (eC (.bl false))) sNil)))))
noncomputable def w_law_k52_L1 : Fr → O := (sFor (eIts rng1D (xCons (e2 ixD (eVb 3) (eC (.int 0))) xNil)) (gN 6) w_law_k52_B1)
noncomputable def w_law_k52_B2 : Fr → O := (sEnd [1, 2, 3, 4, 5, 6, 7, 9, 10, 11] (sSeq (sSet 2 (eB w_law_cell_at (xCons (eV 0) (xCons (eV 1) xNil))))
    (sSeq (sSet 3 (eB w_law_web_v2 (xCons (eV 2) (xCons (e2 ixD (eLst (xCons (eC (.int 40)) (xCons (eC (.int 12)) (xCons (eC (.int 6)) xNil)))) (eB w_law_draw_v2 (xCons (eV 2) (xCons (eC (.int 155)) (xCons (eC (.int 3)) xNil))))) xNil))))
    (sSeq (sSet 4 (eB w_law_demands (xCons (eV 2) (xCons (e2 ixD (eVb 3) (eC (.int 0))) xNil))))
    (sSeq (sOwn 5 (eLst xNil))
    (sSeq w_law_k52_L1
    (sSeq (sSet 10 (eLm idxD (eVb 5) (eB maxD (xCons (eVb 5) xNil))))
    (sSeq (sSet 9 (eB w_greatest_stack (xCons (eV 3) (xCons (eV 4) xNil))))
    (sSeq (sIf (tOrR (tNotR (tV (eB isiD (xCons (eVb 9) (xCons (eC (.ty "tuple")) xNil))))) (tOrR (tB (e2 neD (eVb 9) (eTup (xCons (eB maxD (xCons (eVb 5) xNil)) (xCons (eV 10) xNil))))) (tNotR (tV (eB w_law_whole_v2 (xCons (e2 ixD (eVb 9) (eC (.int 0))) xNil)))))) (sRet (eC (.bl false))) sNil)
    (sSeq (sOwn 11 (e2 repND (eLst (xCons (eC (.int 0)) xNil)) (e2 ixD (eVb 3) (eC (.int 0)))))
    (sSeq (sSetL 11 (eVb 10) (e2 subD (eB maxD (xCons (eVb 5) xNil)) (eC (.int 1))))
    (sIf (tB (e2 neD (eB w_stack_worst (xCons (eV 3) (xCons (eV 4) xNil))) (eB tupleD (xCons (eVb 11) xNil)))) (sRet (eC (.bl false))) sNil))))))))))))
noncomputable def w_law_k52_L2 : Fr → O := (sFor (eIts rng1D (xCons (eB max2D (xCons (eC (.int 1)) (xCons (eB min2D (xCons (eB lenD (xCons (eVb 0) xNil)) (xCons (eC (.int 6)) xNil))) xNil))) xNil)) (gN 1) w_law_k52_B2)
noncomputable def w_law_k52_S : Fr → O :=
  (sSeq w_law_k52_L2
    (sRet (eAnd (e2 eqD (eB w_greatest_stack (xCons (eTup (xCons (eC (.int 3)) (xCons (eTup (xCons (eTup (xCons (eC (.int 0)) (xCons (eC (.int 1)) xNil))) (xCons (eTup (xCons (eC (.int 1)) (xCons (eC (.int 2)) xNil))) xNil))) xNil))) (xCons (eTup (xCons (eC (.int 1)) (xCons (eC (.int 1)) (xCons (eC (.int 1)) xNil)))) xNil))) (eTup (xCons (eC (.int 7)) (xCons (eC (.int 0)) xNil)))) (e2 eqD (eB w_stack_worst (xCons (eTup (xCons (eC (.int 1)) (xCons (eTup xNil) xNil))) (xCons (eTup (xCons (eC (.int 5)) xNil)) xNil))) (eTup (xCons (eC (.int 4)) xNil))))))
noncomputable def w_law_k52 : List D → R D := runD 12 1 w_law_k52_S
theorem go_w_law_k52 (x0 : D) : w_law_k52 [x0] = endO (w_law_k52_S [.fz x0, .un, .un, .un, .un, .un, .un, .un, .un, .un, .un, .un]) := runD_eq rfl
noncomputable def w_law_near_v2_C1 : Fr → R D := (eLc [2, 3] (eIt (e2 ixD (eVb 0) (eC (.int 1)))) (gT 2 (gCons' (gN 2) (gCons' (gN 3) gNil'))) (tB (e2 inD (eVb 1) (eTup (xCons (eV 2) (xCons (eV 3) xNil))))) (e2 subD (e2 addD (eVb 2) (eVb 3)) (eVb 1)))
noncomputable def w_law_near_v2_S : Fr → O :=
  (sRet w_law_near_v2_C1)
noncomputable def w_law_near_v2 : List D → R D := runD 4 2 w_law_near_v2_S
noncomputable def w_law_far_from_v2_B1 : Fr → O := (sEnd [5] (sIf (tB (e2 notInD (eVb 5) (eVb 2))) (sSeq (sSetK 2 (eVb 5) (e2 addD (e2 ixD (eVb 2) (e2 ixD (eVb 3) (eVb 4))) (eC (.int 1))))
    (sApp 3 (eV 5))) sNil))
noncomputable def w_law_far_from_v2_L1 : Fr → O := (sFor (eIt (eB w_law_near_v2 (xCons (eV 0) (xCons (e2 ixD (eVb 3) (eVb 4)) xNil)))) (gN 5) w_law_far_from_v2_B1)
noncomputable def w_law_far_from_v2_T1 : Fr → R Bool := (tB (e2 ltD (eVb 4) (eB lenD (xCons (eVb 3) xNil))))
noncomputable def w_law_far_from_v2_B2 : Fr → O := (sEnd [5] (sSeq w_law_far_from_v2_L1
    (sSet 4 (e2 addD (eVb 4) (eC (.int 1))))))
noncomputable def w_law_far_from_v2_L2 : Fr → O := (sWhile w_law_far_from_v2_T1 w_law_far_from_v2_B2)
noncomputable def w_law_far_from_v2_S : Fr → O :=
  (sSeq (sOwn 2 (eD1 (eV 1) (eC (.int 0))))
    (sSeq (sOwn 3 (eLst (xCons (eV 1) xNil)))
    (sSeq (sSet 4 (eC (.int 0)))
    (sSeq w_law_far_from_v2_L2
    (sRet (eVb 2))))))
noncomputable def w_law_far_from_v2 : List D → R D := runD 6 2 w_law_far_from_v2_S
noncomputable def w_need_length_S : Fr → O :=
  (sIf (tNotR (tV (eB w_is_number (xCons (eV 0) (xCons (eV 1) (xCons (e2 addD (eC (.int 300)) (eC (.int 1))) xNil)))))) (fun _ => .er "NoNumber") sNil)
noncomputable def w_need_length : List D → R D := runD 2 2 w_need_length_S
theorem go_w_need_length (x0 x1 : D) : w_need_length [x0, x1] = endO (w_need_length_S [.fz x0, .fz x1]) := runD_eq rfl
end PB


namespace PB
open PySem PySem.Spec PyProof.Rows L2 LamX
/-! ### S1: what the draws, is_number, is_web, the needs come to -/
theorem fdiv_b {i j : Int} (h : 0 < j) (h2 : j ≤ 1000000000000000) : fdivD (.int i) (.int j) = .ok (.int (i / j)) := fdiv_i ⟨h, Int.lt_of_le_of_lt h2 (by decide +kernel)⟩
theorem pow18 : powD (.int 10) (.int 18) = .ok (.int (10 ^ 18)) := rfl
theorem pow9 : powD (.int 10) (.int 9) = .ok (.int 1000000000) := rfl
/-- the part behind the first test of both draws -/
theorem draw_tail {c k b : Int} (h0 : 0 < b) {x3 x4 : Sl} {g : Fr → O} (hg : g = (sSeq (sSet 5 (e2 modD (e2 mulD (e2 addD (e2 addD (e2 modD (eVb 0) (eC (.int 1000000007))) (e2 mulD (eC (.int 1009)) (eVb 1))) (eC (.int 17))) (eC (.int 69621))) (eC (.int 2147483647))))
    (sSeq (sSet 5 (e2 modD (e2 addD (e2 addD (e2 mulD (eVb 5) (eVb 5)) (e2 mulD (eC (.int 40503)) (eVb 1))) (eC (.int 5))) (eC (.int 2147483629))))
    (sRet (e2 modD (e2 fdivD (e2 modD (e2 mulD (eVb 5) (eC (.int 48271))) (eC (.int 2147483647))) (eC (.int 32))) (eVb 2)))))) : ¬ 10 ^ 18 ≤ c → g [.fz (.int c), .fz (.int k), .fz (.int b), x3, x4, .un] = .rt (.int (drw c k b)) := fun hc => by
  subst hg
  unfold drw
  rw [if_neg hc]
  have p2 : (0 : Int) < 2147483647 := by decide
  generalize ha : (c % 1000000007 + 1009 * k + 17) * 69621 % 2147483647 = a
  have a1 : 0 ≤ a := by rw [← ha]; exact Int.emod_nonneg _ (by decide)
  have a2 : a < 2147483647 := by rw [← ha]; exact Int.emod_lt_of_pos _ p2
  have m1 : mulD (.int a) (.int a) = .ok (.int (a * a)) := mul_i (.inl (by omega))
  generalize hb : (a * a + 40503 * k + 5) % 2147483629 = d
  have d1 : 0 ≤ d := by rw [← hb]; exact Int.emod_nonneg _ (by decide)
  have d2 : d < 2147483629 := by rw [← hb]; exact Int.emod_lt_of_pos _ (by decide)
  simp (disch := first | omega | decide | (simp only [List.length_cons, List.length_nil, List.length_append, List.length_map, List.length_take, List.length_drop]; omega)) only [apC, apV, apVb, ap2, ap1, apB, apN, apX, aptB, aptV, apAnd, apOr, apNot, apeIf, apeAnd, apeOr, apeNot, apTup, apLst, apIt, apIts, apoN, apoS, apSl, ap3, apsN, apSeq, apSet, apOwn, apRet, apEx, apIf, apFrz, apT, apgN, apEnd, apLm, apGet2, apD1, apD2, apBV, wip_nx, wip_rt, wip_er, frz_fz, wipeF_cons, wipeF_nil, lstB_l, List.getElem?_cons_succ, List.getElem?_cons_zero, List.set_cons_succ, List.set_cons_zero, max2_i, min2_i, bindO, bindE, fdiv_s, mod_i, mul_s, mul_s', isi_ii, isi_ib, isi_it, isi_tt, isi_ll, isi_bb, len_l, len_t, len_s, it_l, it_t, mkL0, mkL1, mkL2, mkL3, mkL4, mkL5, mkL6, mkL7, mkL8, mkT0, mkT1, mkT2, mkT3, mkT4, mkT5, mkT6, mkT7, mkT8, add_i, sub_i, lt_i, le_i, gt_i, ge_i, eq_ib, ne_ib, decide_true, decide_false, tru_b, tru_i, tru_n, as_b, tru_l, tru_t, if_true, if_false, Bool.not_true, Bool.not_false, Bool.false_eq_true, list_l, list_t, tup_l, tup_t, endO_rt, endO_nx, endO_er, isNon_n, mkL9, mkL10, mkL11, mkL12, mkL13, mkL14, mkL15, mkL16, apsApp, appO_ok, appO_er, apsTup, tupO_2, tupO_3, negI, sl_t, cut_toD, cut_fromD, List.cons_append, List.nil_append, apRef, refO_ok, dro_fz, dro_un, dro_ow, dro_nil, ha, m1, hb, fdiv_b]
theorem drawN_loop2 {c k : D} {b : Int} (h0 : 0 < b) (h1 : b ≤ 1000000000000000) {y : Sl} : ∀ (ds : List D) (l : Int),
    (forD (gN 4) w_law_draw_B1 ds [.fz c, .fz k, .fz (.int b), .fz (.int l), .un, y] = .nx [.fz c, .fz k, .fz (.int b), .fz (.int (divN b ds.length l)), .un, y]) ∨
    (forD (gN 4) w_law_draw_B1 ds [.fz c, .fz k, .fz (.int b), .fz (.int l), .un, y] = .rt (.int 0) ∧ divN b ds.length l = 0)
  | [], l => .inl rfl
  | d :: ds, l => by
    rw [forD_cons (ρ1 := [.fz c, .fz k, .fz (.int b), .fz (.int l), .fz d, y]) rfl]
    by_cases hl : l = 0
    · subst hl
      refine .inr ⟨?_, divN_zero b _⟩
      unfold w_law_draw_B1
      simp (disch := first | omega | decide | (simp only [List.length_cons, List.length_nil, List.length_append, List.length_map, List.length_take, List.length_drop]; omega)) only [apC, apV, apVb, ap2, ap1, apB, apN, apX, aptB, aptV, apAnd, apOr, apNot, apeIf, apeAnd, apeOr, apeNot, apTup, apLst, apIt, apIts, apoN, apoS, apSl, ap3, apsN, apSeq, apSet, apOwn, apRet, apEx, apIf, apFrz, apT, apgN, apEnd, apLm, apGet2, apD1, apD2, apBV, wip_nx, wip_rt, wip_er, frz_fz, wipeF_cons, wipeF_nil, lstB_l, List.getElem?_cons_succ, List.getElem?_cons_zero, List.set_cons_succ, List.set_cons_zero, max2_i, min2_i, bindO, bindE, fdiv_s, mod_i, mul_s, mul_s', isi_ii, isi_ib, isi_it, isi_tt, isi_ll, isi_bb, len_l, len_t, len_s, it_l, it_t, mkL0, mkL1, mkL2, mkL3, mkL4, mkL5, mkL6, mkL7, mkL8, mkT0, mkT1, mkT2, mkT3, mkT4, mkT5, mkT6, mkT7, mkT8, add_i, sub_i, lt_i, le_i, gt_i, ge_i, eq_ib, ne_ib, decide_true, decide_false, tru_b, tru_i, tru_n, as_b, tru_l, tru_t, if_true, if_false, Bool.not_true, Bool.not_false, Bool.false_eq_true, list_l, list_t, tup_l, tup_t, endO_rt, endO_nx, endO_er, isNon_n, mkL9, mkL10, mkL11, mkL12, mkL13, mkL14, mkL15, mkL16, apsApp, appO_ok, appO_er, apsTup, tupO_2, tupO_3, negI, sl_t, cut_toD, cut_fromD, List.cons_append, List.nil_append, apRef, refO_ok, dro_fz, dro_un, dro_ow, dro_nil]
      rfl
    · have e : w_law_draw_B1 [.fz c, .fz k, .fz (.int b), .fz (.int l), .fz d, y] = .nx [.fz c, .fz k, .fz (.int b), .fz (.int (l / b)), .un, y] := by
        unfold w_law_draw_B1
        simp (disch := first | omega | decide | (simp only [List.length_cons, List.length_nil, List.length_append, List.length_map, List.length_take, List.length_drop]; omega)) only [apC, apV, apVb, ap2, ap1, apB, apN, apX, aptB, aptV, apAnd, apOr, apNot, apeIf, apeAnd, apeOr, apeNot, apTup, apLst, apIt, apIts, apoN, apoS, apSl, ap3, apsN, apSeq, apSet, apOwn, apRet, apEx, apIf, apFrz, apT, apgN, apEnd, apLm, apGet2, apD1, apD2, apBV, wip_nx, wip_rt, wip_er, frz_fz, wipeF_cons, wipeF_nil, lstB_l, List.getElem?_cons_succ, List.getElem?_cons_zero, List.set_cons_succ, List.set_cons_zero, max2_i, min2_i, bindO, bindE, fdiv_s, mod_i, mul_s, mul_s', isi_ii, isi_ib, isi_it, isi_tt, isi_ll, isi_bb, len_l, len_t, len_s, it_l, it_t, mkL0, mkL1, mkL2, mkL3, mkL4, mkL5, mkL6, mkL7, mkL8, mkT0, mkT1, mkT2, mkT3, mkT4, mkT5, mkT6, mkT7, mkT8, add_i, sub_i, lt_i, le_i, gt_i, ge_i, eq_ib, ne_ib, decide_true, decide_false, tru_b, tru_i, tru_n, as_b, tru_l, tru_t, if_true, if_false, Bool.not_true, Bool.not_false, Bool.false_eq_true, list_l, list_t, tup_l, tup_t, endO_rt, endO_nx, endO_er, isNon_n, mkL9, mkL10, mkL11, mkL12, mkL13, mkL14, mkL15, mkL16, apsApp, appO_ok, appO_er, apsTup, tupO_2, tupO_3, negI, sl_t, cut_toD, cut_fromD, List.cons_append, List.nil_append, apRef, refO_ok, dro_fz, dro_un, dro_ow, dro_nil, decide_eq_false hl, fdiv_b]
      rw [e]
      exact drawN_loop2 h0 h1 ds (l / b)
theorem drawM_loop2 {c k : D} {b : Int} (h0 : 0 < b) (h1 : b ≤ 1000000000000000) {y : Sl} : ∀ (ds : List D) (l : Int),
    forD (gN 4) w_law_draw_v2_B1 ds [.fz c, .fz k, .fz (.int b), .fz (.int l), .un, y] = .nx [.fz c, .fz k, .fz (.int b), .fz (.int (divN b ds.length l)), .un, y]
  | [], l => rfl
  | d :: ds, l => by
    rw [forD_cons (ρ1 := [.fz c, .fz k, .fz (.int b), .fz (.int l), .fz d, y]) rfl]
    have e : w_law_draw_v2_B1 [.fz c, .fz k, .fz (.int b), .fz (.int l), .fz d, y] = .nx [.fz c, .fz k, .fz (.int b), .fz (.int (l / b)), .un, y] := by
      unfold w_law_draw_v2_B1
      simp (disch := first | omega | decide | (simp only [List.length_cons, List.length_nil, List.length_append, List.length_map, List.length_take, List.length_drop]; omega)) only [apC, apV, apVb, ap2, ap1, apB, apN, apX, aptB, aptV, apAnd, apOr, apNot, apeIf, apeAnd, apeOr, apeNot, apTup, apLst, apIt, apIts, apoN, apoS, apSl, ap3, apsN, apSeq, apSet, apOwn, apRet, apEx, apIf, apFrz, apT, apgN, apEnd, apLm, apGet2, apD1, apD2, apBV, wip_nx, wip_rt, wip_er, frz_fz, wipeF_cons, wipeF_nil, lstB_l, List.getElem?_cons_succ, List.getElem?_cons_zero, List.set_cons_succ, List.set_cons_zero, max2_i, min2_i, bindO, bindE, fdiv_s, mod_i, mul_s, mul_s', isi_ii, isi_ib, isi_it, isi_tt, isi_ll, isi_bb, len_l, len_t, len_s, it_l, it_t, mkL0, mkL1, mkL2, mkL3, mkL4, mkL5, mkL6, mkL7, mkL8, mkT0, mkT1, mkT2, mkT3, mkT4, mkT5, mkT6, mkT7, mkT8, add_i, sub_i, lt_i, le_i, gt_i, ge_i, eq_ib, ne_ib, decide_true, decide_false, tru_b, tru_i, tru_n, as_b, tru_l, tru_t, if_true, if_false, Bool.not_true, Bool.not_false, Bool.false_eq_true, list_l, list_t, tup_l, tup_t, endO_rt, endO_nx, endO_er, isNon_n, mkL9, mkL10, mkL11, mkL12, mkL13, mkL14, mkL15, mkL16, apsApp, appO_ok, appO_er, apsTup, tupO_2, tupO_3, negI, sl_t, cut_toD, cut_fromD, List.cons_append, List.nil_append, apRef, refO_ok, dro_fz, dro_un, dro_ow, dro_nil, fdiv_b]
    rw [e]
    exact drawM_loop2 h0 h1 ds (l / b)
theorem draw_1 {c k b : Int} (hk : 0 ≤ k ∧ k ≤ 1000000) (h0 : 0 < b ∧ b ≤ 1000000000000000) : w_law_draw [.int c, .int k, .int b] = .ok (.int (drw c k b)) := by
  rw [go_w_law_draw]
  unfold w_law_draw_S
  have t0 : tB (e2 geD (eVb 0) (e2 powD (eC (.int 10)) (eC (.int 18)))) [.fz (.int c), .fz (.int k), .fz (.int b), .un, .un, .un] = .ok (decide (10 ^ 18 ≤ c)) := rfl
  by_cases hc : 10 ^ 18 ≤ c
  · rw [decide_eq_true hc] at t0
    have hi : eIts rng1D (xCons (eVb 1) xNil) [.fz (.int c), .fz (.int k), .fz (.int b), .fz (.int c), .un, .un] = .ok (intsD 0 k.toNat) := by
      show rng1D [.int k] = _
      exact rng1_int hk.1 (by omega)
    have e3 : drw c k b = divN b k.toNat c % b := by unfold drw; rw [if_pos hc]
    rcases drawN_loop2 (c := .int c) (k := .int k) h0.1 h0.2 (y := .un) (intsD 0 k.toNat) c with e2 | ⟨e2, e4⟩
    · rw [ints_len] at e2
      have e5 : w_law_draw_L1 [.fz (.int c), .fz (.int k), .fz (.int b), .fz (.int c), .un, .un] = _ := (for_eq hi).trans e2
      rw [e3]
      simp (disch := first | omega | decide | (simp only [List.length_cons, List.length_nil, List.length_append, List.length_map, List.length_take, List.length_drop]; omega)) only [apC, apV, apVb, ap2, ap1, apB, apN, apX, aptB, aptV, apAnd, apOr, apNot, apeIf, apeAnd, apeOr, apeNot, apTup, apLst, apIt, apIts, apoN, apoS, apSl, ap3, apsN, apSeq, apSet, apOwn, apRet, apEx, apIf, apFrz, apT, apgN, apEnd, apLm, apGet2, apD1, apD2, apBV, wip_nx, wip_rt, wip_er, frz_fz, wipeF_cons, wipeF_nil, lstB_l, List.getElem?_cons_succ, List.getElem?_cons_zero, List.set_cons_succ, List.set_cons_zero, max2_i, min2_i, bindO, bindE, fdiv_s, mod_i, mul_s, mul_s', isi_ii, isi_ib, isi_it, isi_tt, isi_ll, isi_bb, len_l, len_t, len_s, it_l, it_t, mkL0, mkL1, mkL2, mkL3, mkL4, mkL5, mkL6, mkL7, mkL8, mkT0, mkT1, mkT2, mkT3, mkT4, mkT5, mkT6, mkT7, mkT8, add_i, sub_i, lt_i, le_i, gt_i, ge_i, eq_ib, ne_ib, decide_true, decide_false, tru_b, tru_i, tru_n, as_b, tru_l, tru_t, if_true, if_false, Bool.not_true, Bool.not_false, Bool.false_eq_true, list_l, list_t, tup_l, tup_t, endO_rt, endO_nx, endO_er, isNon_n, mkL9, mkL10, mkL11, mkL12, mkL13, mkL14, mkL15, mkL16, apsApp, appO_ok, appO_er, apsTup, tupO_2, tupO_3, negI, sl_t, cut_toD, cut_fromD, List.cons_append, List.nil_append, apRef, refO_ok, dro_fz, dro_un, dro_ow, dro_nil, pow18, decide_eq_true hc, e5]
    · rw [ints_len] at e4
      have e5 : w_law_draw_L1 [.fz (.int c), .fz (.int k), .fz (.int b), .fz (.int c), .un, .un] = _ := (for_eq hi).trans e2
      rw [e3, e4, Int.zero_emod]
      simp (disch := first | omega | decide | (simp only [List.length_cons, List.length_nil, List.length_append, List.length_map, List.length_take, List.length_drop]; omega)) only [apC, apV, apVb, ap2, ap1, apB, apN, apX, aptB, aptV, apAnd, apOr, apNot, apeIf, apeAnd, apeOr, apeNot, apTup, apLst, apIt, apIts, apoN, apoS, apSl, ap3, apsN, apSeq, apSet, apOwn, apRet, apEx, apIf, apFrz, apT, apgN, apEnd, apLm, apGet2, apD1, apD2, apBV, wip_nx, wip_rt, wip_er, frz_fz, wipeF_cons, wipeF_nil, lstB_l, List.getElem?_cons_succ, List.getElem?_cons_zero, List.set_cons_succ, List.set_cons_zero, max2_i, min2_i, bindO, bindE, fdiv_s, mod_i, mul_s, mul_s', isi_ii, isi_ib, isi_it, isi_tt, isi_ll, isi_bb, len_l, len_t, len_s, it_l, it_t, mkL0, mkL1, mkL2, mkL3, mkL4, mkL5, mkL6, mkL7, mkL8, mkT0, mkT1, mkT2, mkT3, mkT4, mkT5, mkT6, mkT7, mkT8, add_i, sub_i, lt_i, le_i, gt_i, ge_i, eq_ib, ne_ib, decide_true, decide_false, tru_b, tru_i, tru_n, as_b, tru_l, tru_t, if_true, if_false, Bool.not_true, Bool.not_false, Bool.false_eq_true, list_l, list_t, tup_l, tup_t, endO_rt, endO_nx, endO_er, isNon_n, mkL9, mkL10, mkL11, mkL12, mkL13, mkL14, mkL15, mkL16, apsApp, appO_ok, appO_er, apsTup, tupO_2, tupO_3, negI, sl_t, cut_toD, cut_fromD, List.cons_append, List.nil_append, apRef, refO_ok, dro_fz, dro_un, dro_ow, dro_nil, pow18, decide_eq_true hc, e5]
  · rw [decide_eq_false hc] at t0
    rw [seq_nx (if_f (h := sNil) t0), draw_tail h0.1 rfl hc]
    rfl
theorem draw_2 {c k b : Int} (hk : 0 ≤ k ∧ k ≤ 1000000) (h0 : 0 < b ∧ b ≤ 1000000000000000) : w_law_draw_v2 [.int c, .int k, .int b] = .ok (.int (drw c k b)) := by
  rw [go_w_law_draw_v2]
  unfold w_law_draw_v2_S
  have t0 : tB (e2 geD (eVb 0) (e2 powD (eC (.int 10)) (eC (.int 18)))) [.fz (.int c), .fz (.int k), .fz (.int b), .un, .un, .un] = .ok (decide (10 ^ 18 ≤ c)) := rfl
  by_cases hc : 10 ^ 18 ≤ c
  · rw [decide_eq_true hc] at t0
    have hi : eIts rng1D (xCons (eVb 1) xNil) [.fz (.int c), .fz (.int k), .fz (.int b), .fz (.int c), .un, .un] = .ok (intsD 0 k.toNat) := by
      show rng1D [.int k] = _
      exact rng1_int hk.1 (by omega)
    have e3 : drw c k b = divN b k.toNat c % b := by unfold drw; rw [if_pos hc]
    have e2 := drawM_loop2 (c := .int c) (k := .int k) h0.1 h0.2 (y := .un) (intsD 0 k.toNat) c
    rw [ints_len] at e2
    have e5 : w_law_draw_v2_L1 [.fz (.int c), .fz (.int k), .fz (.int b), .fz (.int c), .un, .un] = _ := (for_eq hi).trans e2
    rw [e3]
    simp (disch := first | omega | decide | (simp only [List.length_cons, List.length_nil, List.length_append, List.length_map, List.length_take, List.length_drop]; omega)) only [apC, apV, apVb, ap2, ap1, apB, apN, apX, aptB, aptV, apAnd, apOr, apNot, apeIf, apeAnd, apeOr, apeNot, apTup, apLst, apIt, apIts, apoN, apoS, apSl, ap3, apsN, apSeq, apSet, apOwn, apRet, apEx, apIf, apFrz, apT, apgN, apEnd, apLm, apGet2, apD1, apD2, apBV, wip_nx, wip_rt, wip_er, frz_fz, wipeF_cons, wipeF_nil, lstB_l, List.getElem?_cons_succ, List.getElem?_cons_zero, List.set_cons_succ, List.set_cons_zero, max2_i, min2_i, bindO, bindE, fdiv_s, mod_i, mul_s, mul_s', isi_ii, isi_ib, isi_it, isi_tt, isi_ll, isi_bb, len_l, len_t, len_s, it_l, it_t, mkL0, mkL1, mkL2, mkL3, mkL4, mkL5, mkL6, mkL7, mkL8, mkT0, mkT1, mkT2, mkT3, mkT4, mkT5, mkT6, mkT7, mkT8, add_i, sub_i, lt_i, le_i, gt_i, ge_i, eq_ib, ne_ib, decide_true, decide_false, tru_b, tru_i, tru_n, as_b, tru_l, tru_t, if_true, if_false, Bool.not_true, Bool.not_false, Bool.false_eq_true, list_l, list_t, tup_l, tup_t, endO_rt, endO_nx, endO_er, isNon_n, mkL9, mkL10, mkL11, mkL12, mkL13, mkL14, mkL15, mkL16, apsApp, appO_ok, appO_er, apsTup, tupO_2, tupO_3, negI, sl_t, cut_toD, cut_fromD, List.cons_append, List.nil_append, apRef, refO_ok, dro_fz, dro_un, dro_ow, dro_nil, pow18, decide_eq_true hc, e5]
  · rw [decide_eq_false hc] at t0
    rw [seq_nx (if_f (h := sNil) t0), draw_tail h0.1 rfl hc]
    rfl
theorem w_num {d : D} (h : Ty d) (a b : Int) : w_is_number [d, .int a, .int b] = .ok (.bl (numB a b d)) := num_ok h a b
theorem w_num_i {i a b : Int} : w_is_number [.int i, .int a, .int b] = .ok (.bl (decide (a ≤ i) && decide (i < b))) := w_num ty_i a b
theorem w_tie {n : Int} {d : D} (h : TL d) : w_is_tie [.int n, d] = .ok (.bl (tieB n d)) := tie_ok h.1 h.2
theorem w_web {d : D} (h : Tame d) : w_is_web [d] = .ok (.bl (webB d)) := web_ok h
theorem w_rise {ps : List (Int × Int)} (hl : ps.length ≤ 2 ^ 20) : w_rises [.tup (ps.map tieD)] = .ok (.bl (risesB ps)) := rises_ok hl
theorem w_cell (ns : List Int) (k : Nat) : ∃ c : Int, w_law_cell_at [.scr ns, .int k] = .ok (.int c) := cell_eq ns k
theorem need_len {d : D} (h : Ty d) (a : Int) : w_need_length [d, .int a] = if numB a 301 d = true then .ok .non else .err "NoNumber" := by
  rw [go_w_need_length]
  unfold w_need_length_S
  have w := w_num h a 301
  rw [show (301 : Int) = 300 + 1 from rfl] at w
  cases e : numB a 301 d with
  | true =>
    rw [show (301 : Int) = 300 + 1 from rfl] at e
    rw [e] at w
    simp (disch := first | omega | decide | (simp only [List.length_cons, List.length_nil, List.length_append, List.length_map, List.length_take, List.length_drop]; omega)) only [apC, apV, apVb, ap2, ap1, apB, apN, apX, aptB, aptV, apAnd, apOr, apNot, apeIf, apeAnd, apeOr, apeNot, apTup, apLst, apIt, apIts, apoN, apoS, apSl, ap3, apsN, apSeq, apSet, apOwn, apRet, apEx, apIf, apFrz, apT, apgN, apEnd, apLm, apGet2, apD1, apD2, apBV, wip_nx, wip_rt, wip_er, frz_fz, wipeF_cons, wipeF_nil, lstB_l, List.getElem?_cons_succ, List.getElem?_cons_zero, List.set_cons_succ, List.set_cons_zero, max2_i, min2_i, bindO, bindE, fdiv_s, mod_i, mul_s, mul_s', isi_ii, isi_ib, isi_it, isi_tt, isi_ll, isi_bb, len_l, len_t, len_s, it_l, it_t, mkL0, mkL1, mkL2, mkL3, mkL4, mkL5, mkL6, mkL7, mkL8, mkT0, mkT1, mkT2, mkT3, mkT4, mkT5, mkT6, mkT7, mkT8, add_i, sub_i, lt_i, le_i, gt_i, ge_i, eq_ib, ne_ib, decide_true, decide_false, tru_b, tru_i, tru_n, as_b, tru_l, tru_t, if_true, if_false, Bool.not_true, Bool.not_false, Bool.false_eq_true, list_l, list_t, tup_l, tup_t, endO_rt, endO_nx, endO_er, isNon_n, mkL9, mkL10, mkL11, mkL12, mkL13, mkL14, mkL15, mkL16, apsApp, appO_ok, appO_er, apsTup, tupO_2, tupO_3, negI, sl_t, cut_toD, cut_fromD, List.cons_append, List.nil_append, apRef, refO_ok, dro_fz, dro_un, dro_ow, dro_nil, w]
  | false =>
    rw [show (301 : Int) = 300 + 1 from rfl] at e
    rw [e] at w
    simp (disch := first | omega | decide | (simp only [List.length_cons, List.length_nil, List.length_append, List.length_map, List.length_take, List.length_drop]; omega)) only [apC, apV, apVb, ap2, ap1, apB, apN, apX, aptB, aptV, apAnd, apOr, apNot, apeIf, apeAnd, apeOr, apeNot, apTup, apLst, apIt, apIts, apoN, apoS, apSl, ap3, apsN, apSeq, apSet, apOwn, apRet, apEx, apIf, apFrz, apT, apgN, apEnd, apLm, apGet2, apD1, apD2, apBV, wip_nx, wip_rt, wip_er, frz_fz, wipeF_cons, wipeF_nil, lstB_l, List.getElem?_cons_succ, List.getElem?_cons_zero, List.set_cons_succ, List.set_cons_zero, max2_i, min2_i, bindO, bindE, fdiv_s, mod_i, mul_s, mul_s', isi_ii, isi_ib, isi_it, isi_tt, isi_ll, isi_bb, len_l, len_t, len_s, it_l, it_t, mkL0, mkL1, mkL2, mkL3, mkL4, mkL5, mkL6, mkL7, mkL8, mkT0, mkT1, mkT2, mkT3, mkT4, mkT5, mkT6, mkT7, mkT8, add_i, sub_i, lt_i, le_i, gt_i, ge_i, eq_ib, ne_ib, decide_true, decide_false, tru_b, tru_i, tru_n, as_b, tru_l, tru_t, if_true, if_false, Bool.not_true, Bool.not_false, Bool.false_eq_true, list_l, list_t, tup_l, tup_t, endO_rt, endO_nx, endO_er, isNon_n, mkL9, mkL10, mkL11, mkL12, mkL13, mkL14, mkL15, mkL16, apsApp, appO_ok, appO_er, apsTup, tupO_2, tupO_3, negI, sl_t, cut_toD, cut_fromD, List.cons_append, List.nil_append, apRef, refO_ok, dro_fz, dro_un, dro_ow, dro_nil, w]
end PB

namespace PB
open PySem PySem.Spec PyProof.Rows L2 LamX
/-! ### S2: webs and standings -/
structure WebOk (n : Int) (ps : List (Int × Int)) : Prop where
  lo : 1 ≤ n
  hi : n ≤ 40
  ties : ∀ p ∈ ps, 0 ≤ p.1 ∧ p.1 < p.2 ∧ p.2 < n
  rise : risesB ps = true
abbrev webD (n : Int) (ps : List (Int × Int)) : D := .tup [.int n, .tup (ps.map tieD)]
theorem tieB_of {n : Int} {p : Int × Int} (h : 0 ≤ p.1 ∧ p.1 < p.2 ∧ p.2 < n) : tieB n (tieD p) = true := by
  show ((decide (0 ≤ p.1) && decide (p.1 < n)) && (decide (0 ≤ p.2) && decide (p.2 < n)) && decide (p.1 < p.2)) = true
  simp only [Bool.and_eq_true, decide_eq_true_eq]
  omega
theorem pairs_back (ps : List (Int × Int)) : (ps.map tieD).map pairD = ps := by
  rw [List.map_map]
  exact (List.map_congr_left fun p _ => rfl).trans (List.map_id ps)
theorem webB_of {n : Int} {ps : List (Int × Int)} (w : WebOk n ps) : webB (webD n ps) = true := by
  show (decide (1 ≤ n) && decide (n < 41) && (ps.map tieD).all (tieB n) && risesB ((ps.map tieD).map pairD)) = true
  rw [pairs_back, w.rise, decide_eq_true w.lo, decide_eq_true (show n < 41 by have := w.hi; omega), List.all_eq_true.mpr fun d hd => ?_]
  · rfl
  · obtain ⟨p, hp, rfl⟩ := List.mem_map.mp hd
    exact tieB_of (w.ties p hp)
theorem webB_inv {d : D} (h : webB d = true) : ∃ n ps, d = webD n ps ∧ WebOk n ps := by
  unfold webB at h
  split at h
  · rename_i n ts
    simp only [Bool.and_eq_true, decide_eq_true_eq] at h
    obtain ⟨⟨⟨h1, h2⟩, h3⟩, h4⟩ := h
    refine ⟨n, ts.map pairD, by show _ = D.tup [.int n, .tup ((ts.map pairD).map tieD)]; rw [← ties_all h3], h1, by omega, fun p hp => ?_, h4⟩
    obtain ⟨t, ht, rfl⟩ := List.mem_map.mp hp
    exact (tieB_tie (List.all_eq_true.mp h3 t ht)).2
  · cases h
/-- rising pairs of places below m are no more than m * m -/
theorem rises_len {m : Int} (hm : 0 ≤ m) : ∀ {ps : List (Int × Int)} {p : Int × Int}, risesB (p :: ps) = true → (∀ q ∈ p :: ps, 0 ≤ q.1 ∧ q.1 < m ∧ 0 ≤ q.2 ∧ q.2 < m) → (ps.length : Int) + 1 + (p.1 * m + p.2) ≤ m * m
  | [], p, _, hb => by
    obtain ⟨h1, h2, h3, h4⟩ := hb p List.mem_cons_self
    have : p.1 * m ≤ (m - 1) * m := Int.mul_le_mul_of_nonneg_right (by omega) hm
    rw [Int.sub_mul, Int.one_mul] at this
    simp only [List.length_nil]
    omega
  | q :: ps, p, h, hb => by
    have h : (ltP p q && risesB (q :: ps)) = true := h
    rw [Bool.and_eq_true] at h
    have ih := rises_len hm h.2 fun r hr => hb r (List.mem_cons_of_mem _ hr)
    obtain ⟨h1, h2, h3, h4⟩ := hb p List.mem_cons_self
    obtain ⟨k1, k2, k3, k4⟩ := hb q (List.mem_cons_of_mem _ List.mem_cons_self)
    have hl : p.1 < q.1 ∨ (p.1 = q.1 ∧ p.2 < q.2) := by
      have := h.1
      unfold ltP at this
      rw [HT.lexLt_cons, HT.lexLt_cons, HT.lexLt_nil_nil] at this
      by_cases e1 : p.1 = q.1
      · rw [if_pos e1] at this
        by_cases e2 : p.2 = q.2
        · rw [if_pos e2] at this
          cases this
        · rw [if_neg e2, decide_eq_true_eq] at this
          exact .inr ⟨e1, this⟩
      · rw [if_neg e1, decide_eq_true_eq] at this
        exact .inl this
    have step : p.1 * m + p.2 < q.1 * m + q.2 := by
      rcases hl with hl | ⟨e, hl⟩
      · have : (p.1 + 1) * m ≤ q.1 * m := Int.mul_le_mul_of_nonneg_right (by omega) hm
        rw [Int.add_mul, Int.one_mul] at this
        omega
      · rw [e]
        omega
    rw [List.length_cons]
    omega
theorem WebOk.len {n : Int} {ps : List (Int × Int)} (w : WebOk n ps) : ps.length ≤ 1600 := by
  cases ps with
  | nil => simp
  | cons p ps =>
    have h := rises_len (m := 40) (by decide) w.rise fun q hq => by
      have := w.ties q hq
      have := w.hi
      omega
    have := w.ties p List.mem_cons_self
    have e : (40 : Int) * 40 = 1600 := by decide
    rw [e] at h
    rw [List.length_cons]
    omega
theorem WebOk.tame {n : Int} {ps : List (Int × Int)} (w : WebOk n ps) : Tame (webD n ps) := tame_2 part_i (part_t (by rw [List.length_map]; have := w.len; omega) tl_ties)
theorem need_web {d : D} (h : Tame d) : w_need_web [d] = if webB d = true then .ok .non else .err "NoWeb" := by
  have e := w_web h
  rw [go_w_need_web]
  unfold w_need_web_S
  cases hb : webB d <;> rw [hb] at e <;> simp (disch := first | omega | decide | (simp only [List.length_cons, List.length_nil, List.length_append, List.length_map, List.length_take, List.length_drop]; omega)) only [apC, apV, apVb, ap2, ap1, apB, apN, apX, aptB, aptV, apAnd, apOr, apNot, apeIf, apeAnd, apeOr, apeNot, apTup, apLst, apIt, apIts, apoN, apoS, apSl, ap3, apsN, apSeq, apSet, apOwn, apRet, apEx, apIf, apFrz, apT, apgN, apEnd, apLm, apGet2, apD1, apD2, apBV, wip_nx, wip_rt, wip_er, frz_fz, wipeF_cons, wipeF_nil, lstB_l, List.getElem?_cons_succ, List.getElem?_cons_zero, List.set_cons_succ, List.set_cons_zero, max2_i, min2_i, bindO, bindE, fdiv_s, mod_i, mul_s, mul_s', isi_ii, isi_ib, isi_it, isi_tt, isi_ll, isi_bb, len_l, len_t, len_s, it_l, it_t, mkL0, mkL1, mkL2, mkL3, mkL4, mkL5, mkL6, mkL7, mkL8, mkT0, mkT1, mkT2, mkT3, mkT4, mkT5, mkT6, mkT7, mkT8, add_i, sub_i, lt_i, le_i, gt_i, ge_i, eq_ib, ne_ib, decide_true, decide_false, tru_b, tru_i, tru_n, as_b, tru_l, tru_t, if_true, if_false, Bool.not_true, Bool.not_false, Bool.false_eq_true, list_l, list_t, tup_l, tup_t, endO_rt, endO_nx, endO_er, isNon_n, mkL9, mkL10, mkL11, mkL12, mkL13, mkL14, mkL15, mkL16, apsApp, appO_ok, appO_er, apsTup, tupO_2, tupO_3, negI, sl_t, cut_toD, cut_fromD, List.cons_append, List.nil_append, apRef, refO_ok, dro_fz, dro_un, dro_ow, dro_nil, e]
theorem need_web_ok {n : Int} {ps : List (Int × Int)} (w : WebOk n ps) : w_need_web [webD n ps] = .ok .non := by
  rw [need_web w.tame, webB_of w, if_pos rfl]
theorem need_web_no {d : D} (h : Tame d) (hb : webB d = false) : w_need_web [d] = .err "NoWeb" := by
  rw [need_web h, hb, if_neg Bool.false_ne_true]
/-- whether data are a standing of n places -/
def standB (n : Int) : D → Bool
  | .tup xs => decide ((xs.length : Int) = n) && xs.all (numB 0 1000000000000000000000000000000000000000000000000000000000000)
  | _ => false
theorem lc_all {g : D → Fr → R Fr} {f : Fr → R D} {ρ : Fr} {vs : List Nat} {it : Fr → R (List D)} (p : D → Bool) {ds : List D} (h1 : it ρ = .ok ds) (h2 : noOw vs ρ = true) (h : ∀ d ∈ ds, ∃ ρ1, g d (wipeF ρ vs) = .ok ρ1 ∧ f ρ1 = .ok (.bl (p d))) : eLc vs it g tAll f ρ = .ok (.lst ((ds.map p).map D.bl)) := by
  refine (eLc_ok h1 h2 (lc_map (fun d => .bl (p d)) h)).trans ?_
  rw [List.map_map]
  rfl
theorem all_map_id {α : Type} (p : α → Bool) (ds : List α) : (ds.map p).all id = ds.all p := by rw [List.all_map]; rfl
theorem ix0 {x : D} {xs : List D} : ixD (.tup (x :: xs)) (.int 0) = .ok x := ix_t (xs := x :: xs) (k := 0) (by rw [List.length_cons]; omega)
theorem ix1 {x y : D} {xs : List D} : ixD (.tup (x :: y :: xs)) (.int 1) = .ok y := ix_t (xs := x :: y :: xs) (k := 1) (by rw [List.length_cons, List.length_cons]; omega)
theorem ixl0 {x : D} {xs : List D} : ixD (.lst (x :: xs)) (.int 0) = .ok x := ix_l (xs := x :: xs) (k := 0) (by rw [List.length_cons]; omega)
theorem stand_eq {n : Int} {y d : D} (h : TL d) : w_stands [.tup [.int n, y], d] = .ok (.bl (standB n d)) := by
  rw [go_w_stands]
  unfold w_stands_S
  by_cases ht : ∃ xs, d = .tup xs
  · obtain ⟨xs, rfl⟩ := ht
    by_cases hl : (xs.length : Int) = n
    · have c : w_stands_C1 [.fz (.tup [.int n, y]), .fz (.tup xs), .un] = .ok (.lst ((xs.map (numB 0 1000000000000000000000000000000000000000000000000000000000000)).map D.bl)) := lc_all _ rfl rfl fun d hd => ⟨_, rfl, by
        have := w_num (h.2 xs rfl d hd) 0 1000000000000000000000000000000000000000000000000000000000000
        simp (disch := first | omega | decide | (simp only [List.length_cons, List.length_nil, List.length_append, List.length_map, List.length_take, List.length_drop]; omega)) only [apC, apV, apVb, ap2, ap1, apB, apN, apX, aptB, aptV, apAnd, apOr, apNot, apeIf, apeAnd, apeOr, apeNot, apTup, apLst, apIt, apIts, apoN, apoS, apSl, ap3, apsN, apSeq, apSet, apOwn, apRet, apEx, apIf, apFrz, apT, apgN, apEnd, apLm, apGet2, apD1, apD2, apBV, wip_nx, wip_rt, wip_er, frz_fz, wipeF_cons, wipeF_nil, lstB_l, List.getElem?_cons_succ, List.getElem?_cons_zero, List.set_cons_succ, List.set_cons_zero, max2_i, min2_i, bindO, bindE, fdiv_s, mod_i, mul_s, mul_s', isi_ii, isi_ib, isi_it, isi_tt, isi_ll, isi_bb, len_l, len_t, len_s, it_l, it_t, mkL0, mkL1, mkL2, mkL3, mkL4, mkL5, mkL6, mkL7, mkL8, mkT0, mkT1, mkT2, mkT3, mkT4, mkT5, mkT6, mkT7, mkT8, add_i, sub_i, lt_i, le_i, gt_i, ge_i, eq_ib, ne_ib, decide_true, decide_false, tru_b, tru_i, tru_n, as_b, tru_l, tru_t, if_true, if_false, Bool.not_true, Bool.not_false, Bool.false_eq_true, list_l, list_t, tup_l, tup_t, endO_rt, endO_nx, endO_er, isNon_n, mkL9, mkL10, mkL11, mkL12, mkL13, mkL14, mkL15, mkL16, apsApp, appO_ok, appO_er, apsTup, tupO_2, tupO_3, negI, sl_t, cut_toD, cut_fromD, List.cons_append, List.nil_append, apRef, refO_ok, dro_fz, dro_un, dro_ow, dro_nil, this]⟩
      simp (disch := first | omega | decide | (simp only [List.length_cons, List.length_nil, List.length_append, List.length_map, List.length_take, List.length_drop]; omega)) only [apC, apV, apVb, ap2, ap1, apB, apN, apX, aptB, aptV, apAnd, apOr, apNot, apeIf, apeAnd, apeOr, apeNot, apTup, apLst, apIt, apIts, apoN, apoS, apSl, ap3, apsN, apSeq, apSet, apOwn, apRet, apEx, apIf, apFrz, apT, apgN, apEnd, apLm, apGet2, apD1, apD2, apBV, wip_nx, wip_rt, wip_er, frz_fz, wipeF_cons, wipeF_nil, lstB_l, List.getElem?_cons_succ, List.getElem?_cons_zero, List.set_cons_succ, List.set_cons_zero, max2_i, min2_i, bindO, bindE, fdiv_s, mod_i, mul_s, mul_s', isi_ii, isi_ib, isi_it, isi_tt, isi_ll, isi_bb, len_l, len_t, len_s, it_l, it_t, mkL0, mkL1, mkL2, mkL3, mkL4, mkL5, mkL6, mkL7, mkL8, mkT0, mkT1, mkT2, mkT3, mkT4, mkT5, mkT6, mkT7, mkT8, add_i, sub_i, lt_i, le_i, gt_i, ge_i, eq_ib, ne_ib, decide_true, decide_false, tru_b, tru_i, tru_n, as_b, tru_l, tru_t, if_true, if_false, Bool.not_true, Bool.not_false, Bool.false_eq_true, list_l, list_t, tup_l, tup_t, endO_rt, endO_nx, endO_er, isNon_n, mkL9, mkL10, mkL11, mkL12, mkL13, mkL14, mkL15, mkL16, apsApp, appO_ok, appO_er, apsTup, tupO_2, tupO_3, negI, sl_t, cut_toD, cut_fromD, List.cons_append, List.nil_append, apRef, refO_ok, dro_fz, dro_un, dro_ow, dro_nil, ix0, decide_eq_true hl, c, all_ok, all_map_id]
      show _ = R.ok (D.bl (decide ((xs.length : Int) = n) && _))
      rw [decide_eq_true hl]
      rfl
    · simp (disch := first | omega | decide | (simp only [List.length_cons, List.length_nil, List.length_append, List.length_map, List.length_take, List.length_drop]; omega)) only [apC, apV, apVb, ap2, ap1, apB, apN, apX, aptB, aptV, apAnd, apOr, apNot, apeIf, apeAnd, apeOr, apeNot, apTup, apLst, apIt, apIts, apoN, apoS, apSl, ap3, apsN, apSeq, apSet, apOwn, apRet, apEx, apIf, apFrz, apT, apgN, apEnd, apLm, apGet2, apD1, apD2, apBV, wip_nx, wip_rt, wip_er, frz_fz, wipeF_cons, wipeF_nil, lstB_l, List.getElem?_cons_succ, List.getElem?_cons_zero, List.set_cons_succ, List.set_cons_zero, max2_i, min2_i, bindO, bindE, fdiv_s, mod_i, mul_s, mul_s', isi_ii, isi_ib, isi_it, isi_tt, isi_ll, isi_bb, len_l, len_t, len_s, it_l, it_t, mkL0, mkL1, mkL2, mkL3, mkL4, mkL5, mkL6, mkL7, mkL8, mkT0, mkT1, mkT2, mkT3, mkT4, mkT5, mkT6, mkT7, mkT8, add_i, sub_i, lt_i, le_i, gt_i, ge_i, eq_ib, ne_ib, decide_true, decide_false, tru_b, tru_i, tru_n, as_b, tru_l, tru_t, if_true, if_false, Bool.not_true, Bool.not_false, Bool.false_eq_true, list_l, list_t, tup_l, tup_t, endO_rt, endO_nx, endO_er, isNon_n, mkL9, mkL10, mkL11, mkL12, mkL13, mkL14, mkL15, mkL16, apsApp, appO_ok, appO_er, apsTup, tupO_2, tupO_3, negI, sl_t, cut_toD, cut_fromD, List.cons_append, List.nil_append, apRef, refO_ok, dro_fz, dro_un, dro_ow, dro_nil, ix0, decide_eq_false hl]
      show _ = R.ok (D.bl (decide ((xs.length : Int) = n) && _))
      rw [decide_eq_false hl]
      rfl
  · simp (disch := first | omega | decide | (simp only [List.length_cons, List.length_nil, List.length_append, List.length_map, List.length_take, List.length_drop]; omega)) only [apC, apV, apVb, ap2, ap1, apB, apN, apX, aptB, aptV, apAnd, apOr, apNot, apeIf, apeAnd, apeOr, apeNot, apTup, apLst, apIt, apIts, apoN, apoS, apSl, ap3, apsN, apSeq, apSet, apOwn, apRet, apEx, apIf, apFrz, apT, apgN, apEnd, apLm, apGet2, apD1, apD2, apBV, wip_nx, wip_rt, wip_er, frz_fz, wipeF_cons, wipeF_nil, lstB_l, List.getElem?_cons_succ, List.getElem?_cons_zero, List.set_cons_succ, List.set_cons_zero, max2_i, min2_i, bindO, bindE, fdiv_s, mod_i, mul_s, mul_s', isi_ii, isi_ib, isi_it, isi_tt, isi_ll, isi_bb, len_l, len_t, len_s, it_l, it_t, mkL0, mkL1, mkL2, mkL3, mkL4, mkL5, mkL6, mkL7, mkL8, mkT0, mkT1, mkT2, mkT3, mkT4, mkT5, mkT6, mkT7, mkT8, add_i, sub_i, lt_i, le_i, gt_i, ge_i, eq_ib, ne_ib, decide_true, decide_false, tru_b, tru_i, tru_n, as_b, tru_l, tru_t, if_true, if_false, Bool.not_true, Bool.not_false, Bool.false_eq_true, list_l, list_t, tup_l, tup_t, endO_rt, endO_nx, endO_er, isNon_n, mkL9, mkL10, mkL11, mkL12, mkL13, mkL14, mkL15, mkL16, apsApp, appO_ok, appO_er, apsTup, tupO_2, tupO_3, negI, sl_t, cut_toD, cut_fromD, List.cons_append, List.nil_append, apRef, refO_ok, dro_fz, dro_un, dro_ow, dro_nil, isi_notup h.1 (fun xs e => ht ⟨xs, e⟩)]
    cases d <;> first | rfl | exact absurd ⟨_, rfl⟩ ht
theorem need_stand {n : Int} {y d : D} (h : TL d) : w_need_standing [.tup [.int n, y], d] = if standB n d = true then .ok .non else .err "NoStanding" := by
  have e := stand_eq (n := n) (y := y) h
  rw [go_w_need_standing]
  unfold w_need_standing_S
  cases hb : standB n d <;> rw [hb] at e <;> simp (disch := first | omega | decide | (simp only [List.length_cons, List.length_nil, List.length_append, List.length_map, List.length_take, List.length_drop]; omega)) only [apC, apV, apVb, ap2, ap1, apB, apN, apX, aptB, aptV, apAnd, apOr, apNot, apeIf, apeAnd, apeOr, apeNot, apTup, apLst, apIt, apIts, apoN, apoS, apSl, ap3, apsN, apSeq, apSet, apOwn, apRet, apEx, apIf, apFrz, apT, apgN, apEnd, apLm, apGet2, apD1, apD2, apBV, wip_nx, wip_rt, wip_er, frz_fz, wipeF_cons, wipeF_nil, lstB_l, List.getElem?_cons_succ, List.getElem?_cons_zero, List.set_cons_succ, List.set_cons_zero, max2_i, min2_i, bindO, bindE, fdiv_s, mod_i, mul_s, mul_s', isi_ii, isi_ib, isi_it, isi_tt, isi_ll, isi_bb, len_l, len_t, len_s, it_l, it_t, mkL0, mkL1, mkL2, mkL3, mkL4, mkL5, mkL6, mkL7, mkL8, mkT0, mkT1, mkT2, mkT3, mkT4, mkT5, mkT6, mkT7, mkT8, add_i, sub_i, lt_i, le_i, gt_i, ge_i, eq_ib, ne_ib, decide_true, decide_false, tru_b, tru_i, tru_n, as_b, tru_l, tru_t, if_true, if_false, Bool.not_true, Bool.not_false, Bool.false_eq_true, list_l, list_t, tup_l, tup_t, endO_rt, endO_nx, endO_er, isNon_n, mkL9, mkL10, mkL11, mkL12, mkL13, mkL14, mkL15, mkL16, apsApp, appO_ok, appO_er, apsTup, tupO_2, tupO_3, negI, sl_t, cut_toD, cut_fromD, List.cons_append, List.nil_append, apRef, refO_ok, dro_fz, dro_un, dro_ow, dro_nil, e]
theorem need_stand_no {n : Int} {y d : D} (h : TL d) (hb : standB n d = false) : w_need_standing [.tup [.int n, y], d] = .err "NoStanding" := by
  rw [need_stand h, hb, if_neg Bool.false_ne_true]
/-- a standing as numbers -/
abbrev stD (ss : List Int) : D := .tup (ss.map D.int)
structure StOk (n : Int) (ss : List Int) : Prop where
  len : (ss.length : Int) = n
  num : ∀ s ∈ ss, 0 ≤ s ∧ s < 1000000000000000000000000000000000000000000000000000000000000
theorem tl_st (ss : List Int) : TL (stD ss) := tl_t fun x hx => by
  obtain ⟨i, _, rfl⟩ := List.mem_map.mp hx
  exact ty_i
theorem standB_of {n : Int} {ss : List Int} (s : StOk n ss) : standB n (stD ss) = true := by
  show (decide (((ss.map D.int).length : Int) = n) && (ss.map D.int).all _) = true
  rw [List.length_map, decide_eq_true s.len, List.all_eq_true.mpr fun d hd => ?_]
  · rfl
  · obtain ⟨i, hi, rfl⟩ := List.mem_map.mp hd
    show (decide (0 ≤ i) && decide (i < _)) = true
    rw [decide_eq_true (s.num i hi).1, decide_eq_true (s.num i hi).2]
    rfl
theorem standB_inv {n : Int} {d : D} (h : standB n d = true) : ∃ ss, d = stD ss ∧ StOk n ss := by
  cases d <;> first | (cases h; done) | skip
  rename_i xs
  have h : (decide ((xs.length : Int) = n) && xs.all (numB 0 1000000000000000000000000000000000000000000000000000000000000)) = true := h
  rw [Bool.and_eq_true, decide_eq_true_eq] at h
  obtain ⟨h1, h2⟩ := h
  have : ∀ {xs : List D}, xs.all (numB 0 1000000000000000000000000000000000000000000000000000000000000) = true → ∃ ss : List Int, xs = ss.map D.int ∧ ∀ s ∈ ss, 0 ≤ s ∧ s < 1000000000000000000000000000000000000000000000000000000000000 := by
    intro xs
    induction xs with
    | nil => exact fun _ => ⟨[], rfl, fun s hs => by cases hs⟩
    | cons x xs ih =>
      intro h
      rw [List.all_cons, Bool.and_eq_true] at h
      obtain ⟨i, rfl, i1, i2⟩ := numB_int h.1
      obtain ⟨ss, rfl, hs⟩ := ih h.2
      refine ⟨i :: ss, rfl, fun s hm => ?_⟩
      rcases List.mem_cons.mp hm with rfl | hm
      · exact ⟨i1, i2⟩
      · exact hs s hm
  obtain ⟨ss, rfl, hs⟩ := this h2
  exact ⟨ss, rfl, by rw [← h1, List.length_map], hs⟩
theorem need_stand_ok {n : Int} {y : D} {ss : List Int} (s : StOk n ss) : w_need_standing [.tup [.int n, y], stD ss] = .ok .non := by
  rw [need_stand (tl_st ss), standB_of s, if_pos rfl]
theorem is_standing_ok {n : Int} {ps : List (Int × Int)} {d : D} (w : WebOk n ps) (h : TL d) : w_is_standing [webD n ps, d] = .ok (.bl (standB n d)) := by
  rw [go_w_is_standing]
  unfold w_is_standing_S
  simp (disch := first | omega | decide | (simp only [List.length_cons, List.length_nil, List.length_append, List.length_map, List.length_take, List.length_drop]; omega)) only [apC, apV, apVb, ap2, ap1, apB, apN, apX, aptB, aptV, apAnd, apOr, apNot, apeIf, apeAnd, apeOr, apeNot, apTup, apLst, apIt, apIts, apoN, apoS, apSl, ap3, apsN, apSeq, apSet, apOwn, apRet, apEx, apIf, apFrz, apT, apgN, apEnd, apLm, apGet2, apD1, apD2, apBV, wip_nx, wip_rt, wip_er, frz_fz, wipeF_cons, wipeF_nil, lstB_l, List.getElem?_cons_succ, List.getElem?_cons_zero, List.set_cons_succ, List.set_cons_zero, max2_i, min2_i, bindO, bindE, fdiv_s, mod_i, mul_s, mul_s', isi_ii, isi_ib, isi_it, isi_tt, isi_ll, isi_bb, len_l, len_t, len_s, it_l, it_t, mkL0, mkL1, mkL2, mkL3, mkL4, mkL5, mkL6, mkL7, mkL8, mkT0, mkT1, mkT2, mkT3, mkT4, mkT5, mkT6, mkT7, mkT8, add_i, sub_i, lt_i, le_i, gt_i, ge_i, eq_ib, ne_ib, decide_true, decide_false, tru_b, tru_i, tru_n, as_b, tru_l, tru_t, if_true, if_false, Bool.not_true, Bool.not_false, Bool.false_eq_true, list_l, list_t, tup_l, tup_t, endO_rt, endO_nx, endO_er, isNon_n, mkL9, mkL10, mkL11, mkL12, mkL13, mkL14, mkL15, mkL16, apsApp, appO_ok, appO_er, apsTup, tupO_2, tupO_3, negI, sl_t, cut_toD, cut_fromD, List.cons_append, List.nil_append, apRef, refO_ok, dro_fz, dro_un, dro_ow, dro_nil, need_web_ok w, stand_eq h]
theorem total_ok {n : Int} {ps : List (Int × Int)} {ss : List Int} (w : WebOk n ps) (s : StOk n ss) : w_total [webD n ps, stD ss] = .ok (.int ss.sum) := by
  rw [go_w_total]
  unfold w_total_S
  simp (disch := first | omega | decide | (simp only [List.length_cons, List.length_nil, List.length_append, List.length_map, List.length_take, List.length_drop]; omega)) only [apC, apV, apVb, ap2, ap1, apB, apN, apX, aptB, aptV, apAnd, apOr, apNot, apeIf, apeAnd, apeOr, apeNot, apTup, apLst, apIt, apIts, apoN, apoS, apSl, ap3, apsN, apSeq, apSet, apOwn, apRet, apEx, apIf, apFrz, apT, apgN, apEnd, apLm, apGet2, apD1, apD2, apBV, wip_nx, wip_rt, wip_er, frz_fz, wipeF_cons, wipeF_nil, lstB_l, List.getElem?_cons_succ, List.getElem?_cons_zero, List.set_cons_succ, List.set_cons_zero, max2_i, min2_i, bindO, bindE, fdiv_s, mod_i, mul_s, mul_s', isi_ii, isi_ib, isi_it, isi_tt, isi_ll, isi_bb, len_l, len_t, len_s, it_l, it_t, mkL0, mkL1, mkL2, mkL3, mkL4, mkL5, mkL6, mkL7, mkL8, mkT0, mkT1, mkT2, mkT3, mkT4, mkT5, mkT6, mkT7, mkT8, add_i, sub_i, lt_i, le_i, gt_i, ge_i, eq_ib, ne_ib, decide_true, decide_false, tru_b, tru_i, tru_n, as_b, tru_l, tru_t, if_true, if_false, Bool.not_true, Bool.not_false, Bool.false_eq_true, list_l, list_t, tup_l, tup_t, endO_rt, endO_nx, endO_er, isNon_n, mkL9, mkL10, mkL11, mkL12, mkL13, mkL14, mkL15, mkL16, apsApp, appO_ok, appO_er, apsTup, tupO_2, tupO_3, negI, sl_t, cut_toD, cut_fromD, List.cons_append, List.nil_append, apRef, refO_ok, dro_fz, dro_un, dro_ow, dro_nil, need_web_ok w, need_stand_ok s, sum_t]
theorem need_place_eq {n : Int} {y d : D} (h : Ty d) : w_need_place [.tup [.int n, y], d] = if numB 0 n d = true then .ok .non else .err "NoPlace" := by
  have e := w_num h 0 n
  rw [go_w_need_place]
  unfold w_need_place_S
  cases hb : numB 0 n d <;> rw [hb] at e <;> simp (disch := first | omega | decide | (simp only [List.length_cons, List.length_nil, List.length_append, List.length_map, List.length_take, List.length_drop]; omega)) only [apC, apV, apVb, ap2, ap1, apB, apN, apX, aptB, aptV, apAnd, apOr, apNot, apeIf, apeAnd, apeOr, apeNot, apTup, apLst, apIt, apIts, apoN, apoS, apSl, ap3, apsN, apSeq, apSet, apOwn, apRet, apEx, apIf, apFrz, apT, apgN, apEnd, apLm, apGet2, apD1, apD2, apBV, wip_nx, wip_rt, wip_er, frz_fz, wipeF_cons, wipeF_nil, lstB_l, List.getElem?_cons_succ, List.getElem?_cons_zero, List.set_cons_succ, List.set_cons_zero, max2_i, min2_i, bindO, bindE, fdiv_s, mod_i, mul_s, mul_s', isi_ii, isi_ib, isi_it, isi_tt, isi_ll, isi_bb, len_l, len_t, len_s, it_l, it_t, mkL0, mkL1, mkL2, mkL3, mkL4, mkL5, mkL6, mkL7, mkL8, mkT0, mkT1, mkT2, mkT3, mkT4, mkT5, mkT6, mkT7, mkT8, add_i, sub_i, lt_i, le_i, gt_i, ge_i, eq_ib, ne_ib, decide_true, decide_false, tru_b, tru_i, tru_n, as_b, tru_l, tru_t, if_true, if_false, Bool.not_true, Bool.not_false, Bool.false_eq_true, list_l, list_t, tup_l, tup_t, endO_rt, endO_nx, endO_er, isNon_n, mkL9, mkL10, mkL11, mkL12, mkL13, mkL14, mkL15, mkL16, apsApp, appO_ok, appO_er, apsTup, tupO_2, tupO_3, negI, sl_t, cut_toD, cut_fromD, List.cons_append, List.nil_append, apRef, refO_ok, dro_fz, dro_un, dro_ow, dro_nil, ix0, e]
end PB

namespace PB
open PySem PySem.Spec PyProof.Rows L2 LamX
/-! ### S3: the laws' webs and standings (the first kind) -/
theorem for_rngF {g : D → Fr → R Fr} {b : Fr → O} (fr : Nat → Fr) : ∀ {n : Nat} {lo : Int}, (∀ k, k < n → ∃ ρ1, g (.int (lo + k)) (fr k) = .ok ρ1 ∧ b ρ1 = .nx (fr (k + 1))) → forD g b (intsD lo n) (fr 0) = .nx (fr n) := fun {n lo} h => by
  obtain ⟨ρ', e, i⟩ := for_rng (g := g) (b := b) (n := n) (lo := lo) (ρ := fr 0) (fun k ρ => ρ = fr k) rfl fun k ρ hk hi => by
    obtain ⟨ρ1, e1, e2⟩ := h k hk
    exact ⟨ρ1, fr (k + 1), by rw [hi]; exact e1, .inl e2, rfl⟩
  rw [e, i]
theorem for_listF {g : D → Fr → R Fr} {b : Fr → O} (fr : Nat → Fr) {ds : List D} (h : ∀ k d, ds[k]? = some d → ∃ ρ1, g d (fr k) = .ok ρ1 ∧ b ρ1 = .nx (fr (k + 1))) : forD g b ds (fr 0) = .nx (fr ds.length) := by
  obtain ⟨ρ', e, i⟩ := for_list (g := g) (b := b) (ds := ds) (ρ := fr 0) (fun k ρ => ρ = fr k) rfl fun k d ρ hk hi => by
    obtain ⟨ρ1, e1, e2⟩ := h k d hk
    exact ⟨ρ1, fr (k + 1), by rw [hi]; exact e1, .inl e2, rfl⟩
  rw [e, i]
theorem pick {xs : List D} {t : Int} (h : 0 ≤ t ∧ t < xs.length) {Q : D → Prop} (q : ∀ x ∈ xs, Q x) : ∃ x, ixD (.lst xs) (.int t) = .ok x ∧ Q x := by
  have hk : t.toNat < xs.length := by omega
  refine ⟨xs[t.toNat], ?_, q _ (List.getElem_mem hk)⟩
  have := ix_l hk
  rwa [show ((t.toNat : Nat) : Int) = t by omega] at this
theorem ltP_iff {p q : Int × Int} : ltP p q = true ↔ p.1 < q.1 ∨ (p.1 = q.1 ∧ p.2 < q.2) := by
  unfold ltP
  rw [HT.lexLt_cons, HT.lexLt_cons, HT.lexLt_nil_nil]
  by_cases e1 : p.1 = q.1
  · rw [if_pos e1]
    by_cases e2 : p.2 = q.2
    · rw [if_pos e2]
      constructor
      · intro h; cases h
      · rintro (h | ⟨_, h⟩) <;> omega
    · rw [if_neg e2, decide_eq_true_eq]
      constructor
      · intro h; exact .inr ⟨e1, h⟩
      · rintro (h | ⟨_, h⟩) <;> omega
  · rw [if_neg e1, decide_eq_true_eq]
    constructor
    · intro h; exact .inl h
    · rintro (h | ⟨h, _⟩)
      · exact h
      · exact absurd h e1
theorem rises_of : ∀ {ps : List (Int × Int)}, ps.Pairwise (fun p q => ltP p q = true) → risesB ps = true
  | [], _ => rfl
  | [a], _ => rfl
  | a :: b :: r, h => by
    have h := List.pairwise_cons.mp h
    show (ltP a b && risesB (b :: r)) = true
    rw [h.1 b List.mem_cons_self, rises_of h.2]
    rfl
/-- the ties of one place with those behind it, by a test -/
def rowP (p : Nat → Nat → Bool) (i m : Nat) : List (Int × Int) := ((List.range m).filter (p i)).map fun (j : Nat) => ((i : Int), (i : Int) + 1 + (j : Int))
def allP (p : Nat → Nat → Bool) (N k : Nat) : List (Int × Int) := (List.range k).flatMap fun i => rowP p i (N - (i + 1))
theorem rowP_succ {p : Nat → Nat → Bool} {i m : Nat} : rowP p i (m + 1) = rowP p i m ++ if p i m = true then [((i : Int), (i : Int) + 1 + (m : Int))] else [] := by
  unfold rowP
  rw [List.range_succ, List.filter_append, List.map_append]
  congr 1
  by_cases h : p i m = true
  · rw [if_pos h, List.filter_cons_of_pos h]
    rfl
  · rw [if_neg h, List.filter_cons_of_neg h]
    rfl
theorem allP_succ {p : Nat → Nat → Bool} {N k : Nat} : allP p N (k + 1) = allP p N k ++ rowP p k (N - (k + 1)) := by
  unfold allP
  rw [List.range_succ, List.flatMap_append, List.flatMap_cons, List.flatMap_nil, List.append_nil]
theorem rowP_len {p : Nat → Nat → Bool} {i m : Nat} : (rowP p i m).length ≤ m := by
  unfold rowP
  rw [List.length_map]
  refine Nat.le_trans (List.length_filter_le _ _) ?_
  rw [List.length_range]
  exact Nat.le_refl _
theorem allP_len {p : Nat → Nat → Bool} {N : Nat} : ∀ {k : Nat}, (allP p N k).length ≤ k * N
  | 0 => by simp [allP]
  | k + 1 => by
    rw [allP_succ, List.length_append, Nat.add_mul, Nat.one_mul]
    have h1 := allP_len (p := p) (N := N) (k := k)
    have h2 := rowP_len (p := p) (i := k) (m := N - (k + 1))
    omega
theorem mem_rowP {p : Nat → Nat → Bool} {i m : Nat} {x : Int × Int} (h : x ∈ rowP p i m) : ∃ j, j < m ∧ x = ((i : Int), (i : Int) + 1 + (j : Int)) := by
  obtain ⟨j, hj, rfl⟩ := List.mem_map.mp h
  exact ⟨j, List.mem_range.mp (List.mem_filter.mp hj).1, rfl⟩
theorem mem_allP {p : Nat → Nat → Bool} {N k : Nat} {x : Int × Int} (h : x ∈ allP p N k) : ∃ i j, i < k ∧ j < N - (i + 1) ∧ x = ((i : Int), (i : Int) + 1 + (j : Int)) := by
  obtain ⟨i, hi, hx⟩ := List.mem_flatMap.mp h
  obtain ⟨j, hj, e⟩ := mem_rowP hx
  exact ⟨i, j, List.mem_range.mp hi, hj, e⟩
theorem rowP_pw {p : Nat → Nat → Bool} {i : Nat} : ∀ {m : Nat}, (rowP p i m).Pairwise fun a b => ltP a b = true
  | 0 => by simp [rowP]
  | m + 1 => by
    rw [rowP_succ]
    refine List.pairwise_append.mpr ⟨rowP_pw, ?_, fun a ha b hb => ?_⟩
    · split <;> simp
    · obtain ⟨j, hj, rfl⟩ := mem_rowP ha
      split at hb
      · rw [List.mem_singleton.mp hb]
        exact ltP_iff.mpr (.inr ⟨rfl, by dsimp only; omega⟩)
      · cases hb
theorem allP_pw {p : Nat → Nat → Bool} {N : Nat} : ∀ {k : Nat}, (allP p N k).Pairwise fun a b => ltP a b = true
  | 0 => by simp [allP]
  | k + 1 => by
    rw [allP_succ]
    refine List.pairwise_append.mpr ⟨allP_pw, rowP_pw, fun a ha b hb => ?_⟩
    obtain ⟨i, j, hi, hj, rfl⟩ := mem_allP ha
    obtain ⟨j', hj', rfl⟩ := mem_rowP hb
    exact ltP_iff.mpr (.inl (by dsimp only; omega))
theorem allP_web {p : Nat → Nat → Bool} {n : Int} (h1 : 1 ≤ n) (h2 : n ≤ 40) : WebOk n (allP p n.toNat n.toNat) := ⟨h1, h2, fun x hx => by
  obtain ⟨i, j, hi, hj, rfl⟩ := mem_allP hx
  dsimp only
  omega, rises_of allP_pw⟩
def webP (c : Int) (i j : Nat) : Bool := decide (drw c (3 + 41 * (i : Int) + ((i : Int) + 1 + (j : Int))) 8 < 1 + drw c 1 6)
theorem webInner {c m n : Int} {i : Nat} {acc : List (Int × Int)} (hi : (i : Int) < n) (hn : n ≤ 40) (ha : acc.length ≤ 1600) :
    w_law_web_L1 [.fz (.int c), .fz (.int m), .fz (.int n), .fz (.int (1 + drw c 1 6)), .ow (.lst (acc.map tieD)), .fz (.int (i : Int)), .un] = .nx [.fz (.int c), .fz (.int m), .fz (.int n), .fz (.int (1 + drw c 1 6)), .ow (.lst ((acc ++ rowP (webP c) i (n.toNat - (i + 1))).map tieD)), .fz (.int (i : Int)), .un] := by
  have hr : eIts rng2D (xCons (e2 addD (eVb 5) (eC (.int 1))) (xCons (eVb 2) xNil)) [.fz (.int c), .fz (.int m), .fz (.int n), .fz (.int (1 + drw c 1 6)), .ow (.lst (acc.map tieD)), .fz (.int (i : Int)), .un] = .ok (intsD ((i : Int) + 1) (n.toNat - (i + 1))) := by
    have e := rng2_int (m := (i : Int) + 1) (n := n) (by omega)
    rw [show (n - ((i : Int) + 1)).toNat = n.toNat - (i + 1) by omega] at e
    simp (disch := first | omega | decide | (simp only [List.length_cons, List.length_nil, List.length_append, List.length_map, List.length_take, List.length_drop]; omega)) only [apC, apV, apVb, ap2, ap1, apB, apN, apX, aptB, aptV, apAnd, apOr, apNot, apeIf, apeAnd, apeOr, apeNot, apTup, apLst, apIt, apIts, apoN, apoS, apSl, ap3, apsN, apSeq, apSet, apOwn, apRet, apEx, apIf, apFrz, apT, apgN, apEnd, apLm, apGet2, apD1, apD2, apBV, wip_nx, wip_rt, wip_er, frz_fz, wipeF_cons, wipeF_nil, lstB_l, List.getElem?_cons_succ, List.getElem?_cons_zero, List.set_cons_succ, List.set_cons_zero, max2_i, min2_i, bindO, bindE, fdiv_s, mod_i, mul_s, mul_s', isi_ii, isi_ib, isi_it, isi_tt, isi_ll, isi_bb, len_l, len_t, len_s, it_l, it_t, mkL0, mkL1, mkL2, mkL3, mkL4, mkL5, mkL6, mkL7, mkL8, mkT0, mkT1, mkT2, mkT3, mkT4, mkT5, mkT6, mkT7, mkT8, add_i, sub_i, lt_i, le_i, gt_i, ge_i, eq_ib, ne_ib, decide_true, decide_false, tru_b, tru_i, tru_n, as_b, tru_l, tru_t, if_true, if_false, Bool.not_true, Bool.not_false, Bool.false_eq_true, list_l, list_t, tup_l, tup_t, endO_rt, endO_nx, endO_er, isNon_n, mkL9, mkL10, mkL11, mkL12, mkL13, mkL14, mkL15, mkL16, apsApp, appO_ok, appO_er, apsTup, tupO_2, tupO_3, negI, sl_t, cut_toD, cut_fromD, List.cons_append, List.nil_append, apRef, refO_ok, dro_fz, dro_un, dro_ow, dro_nil, e]
  refine for_go hr ?_
  have h := for_rngF (g := gN 6) (b := w_law_web_B1) (n := n.toNat - (i + 1)) (lo := (i : Int) + 1) (fun k => [.fz (.int c), .fz (.int m), .fz (.int n), .fz (.int (1 + drw c 1 6)), .ow (.lst ((acc ++ rowP (webP c) i k).map tieD)), .fz (.int (i : Int)), .un]) fun k hk => ⟨_, rfl, ?_⟩
  · have e0 : acc ++ rowP (webP c) i 0 = acc := by simp [rowP]
    rw [e0] at h
    exact h
  · have d := draw_1 (c := c) (k := 3 + 41 * (i : Int) + ((i : Int) + 1 + (k : Int))) (b := 8) (by omega) (by decide)
    have hl := rowP_len (p := webP c) (i := i) (m := k)
    unfold w_law_web_B1
    by_cases hp : drw c (3 + 41 * (i : Int) + ((i : Int) + 1 + (k : Int))) 8 < 1 + drw c 1 6
    · have hw : webP c i k = true := decide_eq_true hp
      have ap := app_ok (i := 4) (f := eTup (xCons (eV 5) (xCons (eV 6) xNil))) (ρ := [.fz (.int c), .fz (.int m), .fz (.int n), .fz (.int (1 + drw c 1 6)), .ow (.lst ((acc ++ rowP (webP c) i k).map tieD)), .fz (.int (i : Int)), .fz (.int ((i : Int) + 1 + (k : Int)))]) (x := tieD ((i : Int), (i : Int) + 1 + (k : Int))) rfl (by simp (disch := first | omega | decide | (simp only [List.length_cons, List.length_nil, List.length_append, List.length_map, List.length_take, List.length_drop]; omega)) only [apC, apV, apVb, ap2, ap1, apB, apN, apX, aptB, aptV, apAnd, apOr, apNot, apeIf, apeAnd, apeOr, apeNot, apTup, apLst, apIt, apIts, apoN, apoS, apSl, ap3, apsN, apSeq, apSet, apOwn, apRet, apEx, apIf, apFrz, apT, apgN, apEnd, apLm, apGet2, apD1, apD2, apBV, wip_nx, wip_rt, wip_er, frz_fz, wipeF_cons, wipeF_nil, lstB_l, List.getElem?_cons_succ, List.getElem?_cons_zero, List.set_cons_succ, List.set_cons_zero, max2_i, min2_i, bindO, bindE, fdiv_s, mod_i, mul_s, mul_s', isi_ii, isi_ib, isi_it, isi_tt, isi_ll, isi_bb, len_l, len_t, len_s, it_l, it_t, mkL0, mkL1, mkL2, mkL3, mkL4, mkL5, mkL6, mkL7, mkL8, mkT0, mkT1, mkT2, mkT3, mkT4, mkT5, mkT6, mkT7, mkT8, add_i, sub_i, lt_i, le_i, gt_i, ge_i, eq_ib, ne_ib, decide_true, decide_false, tru_b, tru_i, tru_n, as_b, tru_l, tru_t, if_true, if_false, Bool.not_true, Bool.not_false, Bool.false_eq_true, list_l, list_t, tup_l, tup_t, endO_rt, endO_nx, endO_er, isNon_n, mkL9, mkL10, mkL11, mkL12, mkL13, mkL14, mkL15, mkL16, apsApp, appO_ok, appO_er, apsTup, tupO_2, tupO_3, negI, sl_t, cut_toD, cut_fromD, List.cons_append, List.nil_append, apRef, refO_ok, dro_fz, dro_un, dro_ow, dro_nil]; rfl) (by rw [List.length_map, List.length_append]; omega)
      simp (disch := first | omega | decide | (simp only [List.length_cons, List.length_nil, List.length_append, List.length_map, List.length_take, List.length_drop]; omega)) only [apC, apV, apVb, ap2, ap1, apB, apN, apX, aptB, aptV, apAnd, apOr, apNot, apeIf, apeAnd, apeOr, apeNot, apTup, apLst, apIt, apIts, apoN, apoS, apSl, ap3, apsN, apSeq, apSet, apOwn, apRet, apEx, apIf, apFrz, apT, apgN, apEnd, apLm, apGet2, apD1, apD2, apBV, wip_nx, wip_rt, wip_er, frz_fz, wipeF_cons, wipeF_nil, lstB_l, List.getElem?_cons_succ, List.getElem?_cons_zero, List.set_cons_succ, List.set_cons_zero, max2_i, min2_i, bindO, bindE, fdiv_s, mod_i, mul_s, mul_s', isi_ii, isi_ib, isi_it, isi_tt, isi_ll, isi_bb, len_l, len_t, len_s, it_l, it_t, mkL0, mkL1, mkL2, mkL3, mkL4, mkL5, mkL6, mkL7, mkL8, mkT0, mkT1, mkT2, mkT3, mkT4, mkT5, mkT6, mkT7, mkT8, add_i, sub_i, lt_i, le_i, gt_i, ge_i, eq_ib, ne_ib, decide_true, decide_false, tru_b, tru_i, tru_n, as_b, tru_l, tru_t, if_true, if_false, Bool.not_true, Bool.not_false, Bool.false_eq_true, list_l, list_t, tup_l, tup_t, endO_rt, endO_nx, endO_er, isNon_n, mkL9, mkL10, mkL11, mkL12, mkL13, mkL14, mkL15, mkL16, apsApp, appO_ok, appO_er, apsTup, tupO_2, tupO_3, negI, sl_t, cut_toD, cut_fromD, List.cons_append, List.nil_append, apRef, refO_ok, dro_fz, dro_un, dro_ow, dro_nil, d, decide_eq_true hp, ap]
      rw [rowP_succ, hw, if_pos rfl, ← List.append_assoc, List.map_append (l₂ := [_])]
      rfl
    · have hw : webP c i k = false := decide_eq_false hp
      simp (disch := first | omega | decide | (simp only [List.length_cons, List.length_nil, List.length_append, List.length_map, List.length_take, List.length_drop]; omega)) only [apC, apV, apVb, ap2, ap1, apB, apN, apX, aptB, aptV, apAnd, apOr, apNot, apeIf, apeAnd, apeOr, apeNot, apTup, apLst, apIt, apIts, apoN, apoS, apSl, ap3, apsN, apSeq, apSet, apOwn, apRet, apEx, apIf, apFrz, apT, apgN, apEnd, apLm, apGet2, apD1, apD2, apBV, wip_nx, wip_rt, wip_er, frz_fz, wipeF_cons, wipeF_nil, lstB_l, List.getElem?_cons_succ, List.getElem?_cons_zero, List.set_cons_succ, List.set_cons_zero, max2_i, min2_i, bindO, bindE, fdiv_s, mod_i, mul_s, mul_s', isi_ii, isi_ib, isi_it, isi_tt, isi_ll, isi_bb, len_l, len_t, len_s, it_l, it_t, mkL0, mkL1, mkL2, mkL3, mkL4, mkL5, mkL6, mkL7, mkL8, mkT0, mkT1, mkT2, mkT3, mkT4, mkT5, mkT6, mkT7, mkT8, add_i, sub_i, lt_i, le_i, gt_i, ge_i, eq_ib, ne_ib, decide_true, decide_false, tru_b, tru_i, tru_n, as_b, tru_l, tru_t, if_true, if_false, Bool.not_true, Bool.not_false, Bool.false_eq_true, list_l, list_t, tup_l, tup_t, endO_rt, endO_nx, endO_er, isNon_n, mkL9, mkL10, mkL11, mkL12, mkL13, mkL14, mkL15, mkL16, apsApp, appO_ok, appO_er, apsTup, tupO_2, tupO_3, negI, sl_t, cut_toD, cut_fromD, List.cons_append, List.nil_append, apRef, refO_ok, dro_fz, dro_un, dro_ow, dro_nil, d, decide_eq_false hp]
      rw [rowP_succ, hw, if_neg Bool.false_ne_true, List.append_nil]
theorem web1 (c m : Int) (h : 1 ≤ m ∧ m ≤ 40) : ∃ n ps, w_law_web [.int c, .int m] = .ok (webD n ps) ∧ WebOk n ps ∧ n ≤ m := by
  have d0 := draw_1 (c := c) (k := 0) (b := m) (by decide) (by omega)
  have d1 := draw_1 (c := c) (k := 1) (b := 6) (by decide) (by decide)
  have l0 := drw_lt (c := c) (k := 0) (b := m) (by omega)
  generalize hn : 1 + drw c 0 m = n
  have hn1 : 1 ≤ n := by omega
  have hn2 : n ≤ 40 := by omega
  refine ⟨n, allP (webP c) n.toNat n.toNat, ?_, allP_web hn1 hn2, by omega⟩
  rw [go_w_law_web]
  unfold w_law_web_S
  have lp : w_law_web_L2 [.fz (.int c), .fz (.int m), .fz (.int n), .fz (.int (1 + drw c 1 6)), .ow (.lst []), .un, .un] = .nx [.fz (.int c), .fz (.int m), .fz (.int n), .fz (.int (1 + drw c 1 6)), .ow (.lst ((allP (webP c) n.toNat n.toNat).map tieD)), .un, .un] := by
    refine for_go (ds := intsD 0 n.toNat) (by
      have := rng1_int (n := n) (by omega) (by omega)
      simp (disch := first | omega | decide | (simp only [List.length_cons, List.length_nil, List.length_append, List.length_map, List.length_take, List.length_drop]; omega)) only [apC, apV, apVb, ap2, ap1, apB, apN, apX, aptB, aptV, apAnd, apOr, apNot, apeIf, apeAnd, apeOr, apeNot, apTup, apLst, apIt, apIts, apoN, apoS, apSl, ap3, apsN, apSeq, apSet, apOwn, apRet, apEx, apIf, apFrz, apT, apgN, apEnd, apLm, apGet2, apD1, apD2, apBV, wip_nx, wip_rt, wip_er, frz_fz, wipeF_cons, wipeF_nil, lstB_l, List.getElem?_cons_succ, List.getElem?_cons_zero, List.set_cons_succ, List.set_cons_zero, max2_i, min2_i, bindO, bindE, fdiv_s, mod_i, mul_s, mul_s', isi_ii, isi_ib, isi_it, isi_tt, isi_ll, isi_bb, len_l, len_t, len_s, it_l, it_t, mkL0, mkL1, mkL2, mkL3, mkL4, mkL5, mkL6, mkL7, mkL8, mkT0, mkT1, mkT2, mkT3, mkT4, mkT5, mkT6, mkT7, mkT8, add_i, sub_i, lt_i, le_i, gt_i, ge_i, eq_ib, ne_ib, decide_true, decide_false, tru_b, tru_i, tru_n, as_b, tru_l, tru_t, if_true, if_false, Bool.not_true, Bool.not_false, Bool.false_eq_true, list_l, list_t, tup_l, tup_t, endO_rt, endO_nx, endO_er, isNon_n, mkL9, mkL10, mkL11, mkL12, mkL13, mkL14, mkL15, mkL16, apsApp, appO_ok, appO_er, apsTup, tupO_2, tupO_3, negI, sl_t, cut_toD, cut_fromD, List.cons_append, List.nil_append, apRef, refO_ok, dro_fz, dro_un, dro_ow, dro_nil, this]) ?_
    refine for_rngF (g := gN 5) (b := w_law_web_B2) (lo := 0) (fun k => [.fz (.int c), .fz (.int m), .fz (.int n), .fz (.int (1 + drw c 1 6)), .ow (.lst ((allP (webP c) n.toNat k).map tieD)), .un, .un]) fun k hk => ⟨_, rfl, ?_⟩
    have e := webInner (c := c) (m := m) (n := n) (i := k) (acc := allP (webP c) n.toNat k) (by omega) hn2 (by
      have h1 := allP_len (p := webP c) (N := n.toNat) (k := k)
      have h2 : k * n.toNat ≤ 40 * 40 := Nat.mul_le_mul (by omega) (by omega)
      omega)
    unfold w_law_web_B2
    simp (disch := first | omega | decide | (simp only [List.length_cons, List.length_nil, List.length_append, List.length_map, List.length_take, List.length_drop]; omega)) only [apC, apV, apVb, ap2, ap1, apB, apN, apX, aptB, aptV, apAnd, apOr, apNot, apeIf, apeAnd, apeOr, apeNot, apTup, apLst, apIt, apIts, apoN, apoS, apSl, ap3, apsN, apSeq, apSet, apOwn, apRet, apEx, apIf, apFrz, apT, apgN, apEnd, apLm, apGet2, apD1, apD2, apBV, wip_nx, wip_rt, wip_er, frz_fz, wipeF_cons, wipeF_nil, lstB_l, List.getElem?_cons_succ, List.getElem?_cons_zero, List.set_cons_succ, List.set_cons_zero, max2_i, min2_i, bindO, bindE, fdiv_s, mod_i, mul_s, mul_s', isi_ii, isi_ib, isi_it, isi_tt, isi_ll, isi_bb, len_l, len_t, len_s, it_l, it_t, mkL0, mkL1, mkL2, mkL3, mkL4, mkL5, mkL6, mkL7, mkL8, mkT0, mkT1, mkT2, mkT3, mkT4, mkT5, mkT6, mkT7, mkT8, add_i, sub_i, lt_i, le_i, gt_i, ge_i, eq_ib, ne_ib, decide_true, decide_false, tru_b, tru_i, tru_n, as_b, tru_l, tru_t, if_true, if_false, Bool.not_true, Bool.not_false, Bool.false_eq_true, list_l, list_t, tup_l, tup_t, endO_rt, endO_nx, endO_er, isNon_n, mkL9, mkL10, mkL11, mkL12, mkL13, mkL14, mkL15, mkL16, apsApp, appO_ok, appO_er, apsTup, tupO_2, tupO_3, negI, sl_t, cut_toD, cut_fromD, List.cons_append, List.nil_append, apRef, refO_ok, dro_fz, dro_un, dro_ow, dro_nil, Int.zero_add, e]
    rw [allP_succ]
  simp (disch := first | omega | decide | (simp only [List.length_cons, List.length_nil, List.length_append, List.length_map, List.length_take, List.length_drop]; omega)) only [apC, apV, apVb, ap2, ap1, apB, apN, apX, aptB, aptV, apAnd, apOr, apNot, apeIf, apeAnd, apeOr, apeNot, apTup, apLst, apIt, apIts, apoN, apoS, apSl, ap3, apsN, apSeq, apSet, apOwn, apRet, apEx, apIf, apFrz, apT, apgN, apEnd, apLm, apGet2, apD1, apD2, apBV, wip_nx, wip_rt, wip_er, frz_fz, wipeF_cons, wipeF_nil, lstB_l, List.getElem?_cons_succ, List.getElem?_cons_zero, List.set_cons_succ, List.set_cons_zero, max2_i, min2_i, bindO, bindE, fdiv_s, mod_i, mul_s, mul_s', isi_ii, isi_ib, isi_it, isi_tt, isi_ll, isi_bb, len_l, len_t, len_s, it_l, it_t, mkL0, mkL1, mkL2, mkL3, mkL4, mkL5, mkL6, mkL7, mkL8, mkT0, mkT1, mkT2, mkT3, mkT4, mkT5, mkT6, mkT7, mkT8, add_i, sub_i, lt_i, le_i, gt_i, ge_i, eq_ib, ne_ib, decide_true, decide_false, tru_b, tru_i, tru_n, as_b, tru_l, tru_t, if_true, if_false, Bool.not_true, Bool.not_false, Bool.false_eq_true, list_l, list_t, tup_l, tup_t, endO_rt, endO_nx, endO_er, isNon_n, mkL9, mkL10, mkL11, mkL12, mkL13, mkL14, mkL15, mkL16, apsApp, appO_ok, appO_er, apsTup, tupO_2, tupO_3, negI, sl_t, cut_toD, cut_fromD, List.cons_append, List.nil_append, apRef, refO_ok, dro_fz, dro_un, dro_ow, dro_nil, d0, d1, hn, lp]
theorem rep_l {x : Int} {n : Nat} (h : n ≤ 2 ^ 20) : repND (.lst [.int x]) (.int n) = .ok (.lst ((List.replicate n x).map D.int)) := by
  have hc : [D.int x].length * (n : Int).toNat ≤ sizeLine := by
    rw [Int.toNat_natCast, List.length_singleton, Nat.one_mul]
    exact Nat.le_trans h (Nat.le_trans (by decide) szl)
  refine (if_pos ⟨by omega, by omega, hc⟩).trans ?_
  · rw [Int.toNat_natCast]
    have e : (List.replicate n [D.int x]).flatten = (List.replicate n x).map D.int := by
      clear h hc
      induction n with
      | zero => rfl
      | succ k ih => rw [List.replicate_succ, List.flatten_cons, ih, List.replicate_succ, List.map_cons]; rfl
    rw [e]
theorem rep_tI {x : Int} {k : Nat} (h : k ≤ 1000) : mulD (.tup [.int x]) (.int k) = .ok (stD (List.replicate k x)) := by
  refine (if_pos ⟨by omega, by omega, show 1 ≤ 1000 by decide⟩).trans ?_
  rw [Int.toNat_natCast]
  have e : (List.replicate k [D.int x]).flatten = (List.replicate k x).map D.int := by
    clear h
    induction k with
    | zero => rfl
    | succ k ih => rw [List.replicate_succ, List.flatten_cons, ih, List.replicate_succ, List.map_cons]; rfl
  rw [e]
theorem sum_set {ss : List Int} {i : Nat} {x : Int} (h : i < ss.length) : (ss.set i x).sum = ss.sum - ss[i] + x := by
  induction ss generalizing i with
  | nil => simp at h
  | cons a ss ih =>
    cases i with
    | zero => simp only [List.set_cons_zero, List.sum_cons, List.getElem_cons_zero]; omega
    | succ i =>
      have := ih (i := i) (by simpa using h)
      simp only [List.set_cons_succ, List.sum_cons, List.getElem_cons_succ, this]
      omega
theorem setI {i : Nat} {a f : Fr → R D} {ρ : Fr} {ss : List Int} {z x : Int} (h1 : f ρ = .ok (.int x)) (h2 : ρ[i]? = some (.ow (.lst (ss.map D.int)))) (h3 : a ρ = .ok (.int z)) (hz : 0 ≤ z ∧ z < ss.length) : sSetL i a f ρ = .nx (ρ.set i (.ow (.lst ((ss.set z.toNat x).map D.int)))) := by
  rw [setL_ok (n := z.toNat) h1 h2 h3 (by omega) (by rw [List.length_map]; omega), List.map_set]
theorem ixI {ss : List Int} {z : Int} (hz : 0 ≤ z ∧ z < ss.length) : ixD (.lst (ss.map D.int)) (.int z) = .ok (.int (ss[z.toNat]'(by omega))) := by
  have := ix_li (ns := ss) (k := z.toNat) (by omega)
  rwa [show ((z.toNat : Nat) : Int) = z by omega] at this
theorem ixT {ss : List Int} {z : Int} (hz : 0 ≤ z ∧ z < ss.length) : ixD (.tup (ss.map D.int)) (.int z) = .ok (.int (ss[z.toNat]'(by omega))) := by
  have := ix_ti (ns := ss) (k := z.toNat) (by omega)
  rwa [show ((z.toNat : Nat) : Int) = z by omega] at this
/-- a list of n numbers from 0 on that come to t -/
structure PileOk (n t : Int) (ss : List Int) : Prop where
  len : (ss.length : Int) = n
  nn : ∀ s ∈ ss, 0 ≤ s
  sum : ss.sum = t
theorem mem_le_sum : ∀ {ss : List Int}, (∀ s ∈ ss, 0 ≤ s) → ∀ s ∈ ss, s ≤ ss.sum
  | [], _, s, h => by cases h
  | a :: ss, hn, s, h => by
    have h0 := hn a List.mem_cons_self
    have hs : 0 ≤ ss.sum := by
      clear h
      have : ∀ {l : List Int}, (∀ s ∈ l, 0 ≤ s) → 0 ≤ l.sum := by
        intro l
        induction l with
        | nil => intro _; simp
        | cons b l ih =>
          intro h
          rw [List.sum_cons]
          have := h b List.mem_cons_self
          have := ih fun s hs => h s (List.mem_cons_of_mem _ hs)
          omega
      exact this fun s hs => hn s (List.mem_cons_of_mem _ hs)
    rw [List.sum_cons]
    rcases List.mem_cons.mp h with rfl | h
    · omega
    · have := mem_le_sum (fun s hs => hn s (List.mem_cons_of_mem _ hs)) s h
      omega
theorem PileOk.st {n t : Int} {ss : List Int} (p : PileOk n t ss) (h : t < 1000000000000000000000000000000000000000000000000000000000000) : StOk n ss := ⟨p.len, fun s hs => ⟨p.nn s hs, by have := mem_le_sum p.nn s hs; rw [p.sum] at this; omega⟩⟩
theorem PileOk.add {n t x : Int} {ss : List Int} (p : PileOk n t ss) {z : Int} (hz : 0 ≤ z ∧ z < ss.length) (hx : 0 ≤ ss[z.toNat]'(by omega) + x) : PileOk n (t + x) (ss.set z.toNat (ss[z.toNat]'(by omega) + x)) := by
  refine ⟨by rw [List.length_set]; exact p.len, fun s hs => ?_, ?_⟩
  · rcases List.mem_or_eq_of_mem_set hs with h | rfl
    · exact p.nn s h
    · exact hx
  · rw [sum_set (by omega), p.sum]
    omega
theorem pile0 (n : Nat) : PileOk n 0 (List.replicate n 0) := ⟨by rw [List.length_replicate], fun s hs => by rw [(List.mem_replicate.mp hs).2]; omega, by
  induction n with
  | zero => rfl
  | succ n ih => rw [List.replicate_succ, List.sum_cons, ih]; rfl⟩
theorem standing1 (c a n m : Int) (ha : 0 ≤ a ∧ a ≤ 100000) (hn : 1 ≤ n ∧ n ≤ 40) (hm : 0 ≤ m ∧ m ≤ 1000000) : ∃ ss t, w_law_standing [.int c, .int a, .int n, .int m] = .ok (stD ss) ∧ PileOk n t ss ∧ t ≤ m := by
  have d0 := draw_1 (c := c) (k := a) (b := m + 1) (by omega) (by omega)
  have l0 := drw_lt (c := c) (k := a) (b := m + 1) (by omega)
  generalize drw c a (m + 1) = t at d0 l0
  have rp := rep_l (x := 0) (n := n.toNat) (by omega)
  rw [show ((n.toNat : Nat) : Int) = n by omega] at rp
  obtain ⟨N, hN⟩ : ∃ N : Nat, n = N := ⟨n.toNat, by omega⟩
  have lp := for_rng (g := gN 6) (b := w_law_standing_B1) (n := 4) (lo := 0) (ρ := [.fz (.int c), .fz (.int a), .fz (.int n), .fz (.int m), .fz (.int t), .ow (.lst ((List.replicate n.toNat 0).map D.int)), .un, .un, .un])
    (fun k ρ => ∃ ss left, ρ = [.fz (.int c), .fz (.int a), .fz (.int n), .fz (.int m), .fz (.int left), .ow (.lst (ss.map D.int)), .un, .un, .un] ∧ PileOk n (t - left) ss ∧ 0 ≤ left ∧ left ≤ t)
    ⟨_, t, rfl, by rw [Int.sub_self, hN]; exact pile0 _, by omega, by omega⟩ fun k ρ hk hi => by
      obtain ⟨ss, left, rfl, hp, h1, h2⟩ := hi
      have d1 := draw_1 (c := c) (k := a + 2 + 2 * (k : Int)) (b := left + 1) (by omega) (by omega)
      have l1 := drw_lt (c := c) (k := a + 2 + 2 * (k : Int)) (b := left + 1) (by omega)
      have d2 := draw_1 (c := c) (k := a + 1 + 2 * (k : Int)) (b := n) (by omega) (by omega)
      have l2 := drw_lt (c := c) (k := a + 1 + 2 * (k : Int)) (b := n) (by omega)
      generalize drw c (a + 2 + 2 * (k : Int)) (left + 1) = x at d1 l1
      generalize drw c (a + 1 + 2 * (k : Int)) n = z at d2 l2
      have hz : 0 ≤ z ∧ z < ss.length := by rw [hp.len]; omega
      have hzz := hp.nn (ss[z.toNat]'(by omega)) (List.getElem_mem _)
      refine ⟨_, [.fz (.int c), .fz (.int a), .fz (.int n), .fz (.int m), .fz (.int (left - x)), .ow (.lst ((ss.set z.toNat (ss[z.toNat]'(by omega) + x)).map D.int)), .un, .un, .un], rfl, .inl ?_, _, left - x, rfl, ?_, by omega, by omega⟩
      · have st := setI (i := 5) (a := eVb 8) (f := e2 addD (e2 ixD (eVb 5) (eVb 8)) (eVb 7)) (ρ := [.fz (.int c), .fz (.int a), .fz (.int n), .fz (.int m), .fz (.int left), .ow (.lst (ss.map D.int)), .fz (.int (0 + (k : Int))), .fz (.int x), .fz (.int z)]) (z := z) (x := ss[z.toNat]'(by omega) + x) (by simp (disch := first | omega | decide | (simp only [List.length_cons, List.length_nil, List.length_append, List.length_map, List.length_take, List.length_drop]; omega)) only [apC, apV, apVb, ap2, ap1, apB, apN, apX, aptB, aptV, apAnd, apOr, apNot, apeIf, apeAnd, apeOr, apeNot, apTup, apLst, apIt, apIts, apoN, apoS, apSl, ap3, apsN, apSeq, apSet, apOwn, apRet, apEx, apIf, apFrz, apT, apgN, apEnd, apLm, apGet2, apD1, apD2, apBV, wip_nx, wip_rt, wip_er, frz_fz, wipeF_cons, wipeF_nil, lstB_l, List.getElem?_cons_succ, List.getElem?_cons_zero, List.set_cons_succ, List.set_cons_zero, max2_i, min2_i, bindO, bindE, fdiv_s, mod_i, mul_s, mul_s', isi_ii, isi_ib, isi_it, isi_tt, isi_ll, isi_bb, len_l, len_t, len_s, it_l, it_t, mkL0, mkL1, mkL2, mkL3, mkL4, mkL5, mkL6, mkL7, mkL8, mkT0, mkT1, mkT2, mkT3, mkT4, mkT5, mkT6, mkT7, mkT8, add_i, sub_i, lt_i, le_i, gt_i, ge_i, eq_ib, ne_ib, decide_true, decide_false, tru_b, tru_i, tru_n, as_b, tru_l, tru_t, if_true, if_false, Bool.not_true, Bool.not_false, Bool.false_eq_true, list_l, list_t, tup_l, tup_t, endO_rt, endO_nx, endO_er, isNon_n, mkL9, mkL10, mkL11, mkL12, mkL13, mkL14, mkL15, mkL16, apsApp, appO_ok, appO_er, apsTup, tupO_2, tupO_3, negI, sl_t, cut_toD, cut_fromD, List.cons_append, List.nil_append, apRef, refO_ok, dro_fz, dro_un, dro_ow, dro_nil, ixI hz]) rfl rfl hz
        rw [Int.zero_add] at st
        unfold w_law_standing_B1
        simp (disch := first | omega | decide | (simp only [List.length_cons, List.length_nil, List.length_append, List.length_map, List.length_take, List.length_drop]; omega)) only [apC, apV, apVb, ap2, ap1, apB, apN, apX, aptB, aptV, apAnd, apOr, apNot, apeIf, apeAnd, apeOr, apeNot, apTup, apLst, apIt, apIts, apoN, apoS, apSl, ap3, apsN, apSeq, apSet, apOwn, apRet, apEx, apIf, apFrz, apT, apgN, apEnd, apLm, apGet2, apD1, apD2, apBV, wip_nx, wip_rt, wip_er, frz_fz, wipeF_cons, wipeF_nil, lstB_l, List.getElem?_cons_succ, List.getElem?_cons_zero, List.set_cons_succ, List.set_cons_zero, max2_i, min2_i, bindO, bindE, fdiv_s, mod_i, mul_s, mul_s', isi_ii, isi_ib, isi_it, isi_tt, isi_ll, isi_bb, len_l, len_t, len_s, it_l, it_t, mkL0, mkL1, mkL2, mkL3, mkL4, mkL5, mkL6, mkL7, mkL8, mkT0, mkT1, mkT2, mkT3, mkT4, mkT5, mkT6, mkT7, mkT8, add_i, sub_i, lt_i, le_i, gt_i, ge_i, eq_ib, ne_ib, decide_true, decide_false, tru_b, tru_i, tru_n, as_b, tru_l, tru_t, if_true, if_false, Bool.not_true, Bool.not_false, Bool.false_eq_true, list_l, list_t, tup_l, tup_t, endO_rt, endO_nx, endO_er, isNon_n, mkL9, mkL10, mkL11, mkL12, mkL13, mkL14, mkL15, mkL16, apsApp, appO_ok, appO_er, apsTup, tupO_2, tupO_3, negI, sl_t, cut_toD, cut_fromD, List.cons_append, List.nil_append, apRef, refO_ok, dro_fz, dro_un, dro_ow, dro_nil, Int.zero_add, d1, d2, st]
      · have := hp.add hz (x := x) (by omega)
        rw [show t - (left - x) = t - left + x by omega]
        exact this
  obtain ⟨ρ', e, ss, left, rfl, hp, h1, h2⟩ := lp
  have el : w_law_standing_L1 [.fz (.int c), .fz (.int a), .fz (.int n), .fz (.int m), .fz (.int t), .ow (.lst ((List.replicate n.toNat 0).map D.int)), .un, .un, .un] = _ := (for_eq (show eIts rng1D (xCons (eC (.int 4)) xNil) _ = .ok (intsD 0 4) from rfl)).trans e
  have d2 := draw_1 (c := c) (k := a + 9) (b := n) (by omega) (by omega)
  have l2 := drw_lt (c := c) (k := a + 9) (b := n) (by omega)
  generalize drw c (a + 9) n = z at d2 l2
  have hz : 0 ≤ z ∧ z < ss.length := by rw [hp.len]; omega
  have hzz := hp.nn (ss[z.toNat]'(by omega)) (List.getElem_mem _)
  refine ⟨ss.set z.toNat (ss[z.toNat]'(by omega) + left), t, ?_, ?_, by omega⟩
  · have st := setI (i := 5) (a := eVb 8) (f := e2 addD (e2 ixD (eVb 5) (eVb 8)) (eVb 4)) (ρ := [.fz (.int c), .fz (.int a), .fz (.int n), .fz (.int m), .fz (.int left), .ow (.lst (ss.map D.int)), .un, .un, .fz (.int z)]) (z := z) (x := ss[z.toNat]'(by omega) + left) (by simp (disch := first | omega | decide | (simp only [List.length_cons, List.length_nil, List.length_append, List.length_map, List.length_take, List.length_drop]; omega)) only [apC, apV, apVb, ap2, ap1, apB, apN, apX, aptB, aptV, apAnd, apOr, apNot, apeIf, apeAnd, apeOr, apeNot, apTup, apLst, apIt, apIts, apoN, apoS, apSl, ap3, apsN, apSeq, apSet, apOwn, apRet, apEx, apIf, apFrz, apT, apgN, apEnd, apLm, apGet2, apD1, apD2, apBV, wip_nx, wip_rt, wip_er, frz_fz, wipeF_cons, wipeF_nil, lstB_l, List.getElem?_cons_succ, List.getElem?_cons_zero, List.set_cons_succ, List.set_cons_zero, max2_i, min2_i, bindO, bindE, fdiv_s, mod_i, mul_s, mul_s', isi_ii, isi_ib, isi_it, isi_tt, isi_ll, isi_bb, len_l, len_t, len_s, it_l, it_t, mkL0, mkL1, mkL2, mkL3, mkL4, mkL5, mkL6, mkL7, mkL8, mkT0, mkT1, mkT2, mkT3, mkT4, mkT5, mkT6, mkT7, mkT8, add_i, sub_i, lt_i, le_i, gt_i, ge_i, eq_ib, ne_ib, decide_true, decide_false, tru_b, tru_i, tru_n, as_b, tru_l, tru_t, if_true, if_false, Bool.not_true, Bool.not_false, Bool.false_eq_true, list_l, list_t, tup_l, tup_t, endO_rt, endO_nx, endO_er, isNon_n, mkL9, mkL10, mkL11, mkL12, mkL13, mkL14, mkL15, mkL16, apsApp, appO_ok, appO_er, apsTup, tupO_2, tupO_3, negI, sl_t, cut_toD, cut_fromD, List.cons_append, List.nil_append, apRef, refO_ok, dro_fz, dro_un, dro_ow, dro_nil, ixI hz]) rfl rfl hz
    rw [go_w_law_standing]
    unfold w_law_standing_S
    simp (disch := first | omega | decide | (simp only [List.length_cons, List.length_nil, List.length_append, List.length_map, List.length_take, List.length_drop]; omega)) only [apC, apV, apVb, ap2, ap1, apB, apN, apX, aptB, aptV, apAnd, apOr, apNot, apeIf, apeAnd, apeOr, apeNot, apTup, apLst, apIt, apIts, apoN, apoS, apSl, ap3, apsN, apSeq, apSet, apOwn, apRet, apEx, apIf, apFrz, apT, apgN, apEnd, apLm, apGet2, apD1, apD2, apBV, wip_nx, wip_rt, wip_er, frz_fz, wipeF_cons, wipeF_nil, lstB_l, List.getElem?_cons_succ, List.getElem?_cons_zero, List.set_cons_succ, List.set_cons_zero, max2_i, min2_i, bindO, bindE, fdiv_s, mod_i, mul_s, mul_s', isi_ii, isi_ib, isi_it, isi_tt, isi_ll, isi_bb, len_l, len_t, len_s, it_l, it_t, mkL0, mkL1, mkL2, mkL3, mkL4, mkL5, mkL6, mkL7, mkL8, mkT0, mkT1, mkT2, mkT3, mkT4, mkT5, mkT6, mkT7, mkT8, add_i, sub_i, lt_i, le_i, gt_i, ge_i, eq_ib, ne_ib, decide_true, decide_false, tru_b, tru_i, tru_n, as_b, tru_l, tru_t, if_true, if_false, Bool.not_true, Bool.not_false, Bool.false_eq_true, list_l, list_t, tup_l, tup_t, endO_rt, endO_nx, endO_er, isNon_n, mkL9, mkL10, mkL11, mkL12, mkL13, mkL14, mkL15, mkL16, apsApp, appO_ok, appO_er, apsTup, tupO_2, tupO_3, negI, sl_t, cut_toD, cut_fromD, List.cons_append, List.nil_append, apRef, refO_ok, dro_fz, dro_un, dro_ow, dro_nil, d0, rp, el, d2, st]
  · have := hp.add hz (x := left) (by omega)
    rw [show t - left + left = t by omega] at this
    exact this
theorem bind_i {α : Type} {i : Int} {n : Option Int → R α} : ((R.ok (D.int i)).bind fun x => match x with | .int i => R.ok (some i) | _ => .stuck).bind n = n (some i) := by unfold R.bind; rfl
theorem num25 : negD (.int (10 ^ 25)) = .ok (.int (-(10 ^ 25))) := rfl
theorem pow25 : powD (.int 10) (.int 25) = .ok (.int (10 ^ 25)) := rfl
theorem standB_len {n : Int} {xs : List D} (h : (xs.length : Int) ≠ n) : standB n (.tup xs) = false := by
  show (decide ((xs.length : Int) = n) && _) = false
  rw [decide_eq_false h]
  rfl
theorem standB_odd {n : Int} {xs : List D} {x : D} (h : x ∈ xs) (hx : numB 0 1000000000000000000000000000000000000000000000000000000000000 x = false) : standB n (.tup xs) = false := by
  show (_ && xs.all _) = false
  rw [Bool.and_eq_false_iff]
  refine .inr ?_
  rw [← Bool.not_eq_true, List.all_eq_true]
  intro h2
  rw [h2 x h] at hx
  cases hx
theorem add_tt {xs ys : List D} (h : xs.length + ys.length ≤ 1000000) : addD (.tup xs) (.tup ys) = .ok (.tup (xs ++ ys)) := add_t (by omega)
theorem app_at {i : Nat} {f : Fr → R D} {ρ : Fr} {xs : List D} {x : D} {o : O} (h1 : ρ[i]? = some (.ow (.lst xs))) (h2 : f ρ = .ok x) (hl : xs.length < 2 ^ 20) (ho : .nx (ρ.set i (.ow (.lst (xs ++ [x])))) = o) : sApp i f ρ = o := by rw [app_ok h1 h2 hl, ho]
/-- no great numbers -/
def Si (x : D) : Prop := ∀ i, x = .int i → i < 1000000000000000000000000000000000000000000000000000000000000
def Sm (d : D) : Prop := ∀ xs, d = .tup xs → ∀ x ∈ xs, Si x
def isI : D → Bool
  | .int _ => true
  | _ => false
theorem si_i {i : Int} (h : i < 1000000000000000000000000000000000000000000000000000000000000) : Si (.int i) := fun j e => by cases e; exact h
theorem si_o {x : D} (h : isI x = false) : Si x := fun j e => by subst e; cases h
theorem sm_t {xs : List D} (h : ∀ x ∈ xs, Si x) : Sm (.tup xs) := fun us e => by cases e; exact h
theorem no_standing1 (c a n : Int) (ha : 0 ≤ a ∧ a ≤ 100000) (hn : 1 ≤ n ∧ n ≤ 40) : ∃ d, w_law_no_standing [.int c, .int a, .int n] = .ok d ∧ TL d ∧ standB n d = false ∧ Sm d := by
  have d0 := draw_1 (c := c) (k := a + 2) (b := n) (by omega) (by omega)
  have l0 := drw_lt (c := c) (k := a + 2) (b := n) (by omega)
  have d1 := draw_1 (c := c) (k := a + 1) (b := 7) (by omega) (by omega)
  have l1 := drw_lt (c := c) (k := a + 1) (b := 7) (by omega)
  have d2 := draw_1 (c := c) (k := a) (b := 11) (by omega) (by omega)
  have l2 := drw_lt (c := c) (k := a) (b := 11) (by omega)
  generalize drw c (a + 2) n = z at d0 l0
  generalize drw c (a + 1) 7 = u at d1 l1
  generalize drw c a 11 = v at d2 l2
  have rp := rep_tI (x := 2) (k := n.toNat) (by omega)
  rw [show ((n.toNat : Nat) : Int) = n by omega] at rp
  unfold stD at rp
  obtain ⟨odd, ho, hq1, hq2, hq3⟩ := pick (xs := [.int (-1), .bl true, .non, .str "2", .tup [.int 2], .lst [.int 2], .int (-(10 ^ 25))]) (t := u) l1 (Q := fun x => Ty x ∧ numB 0 1000000000000000000000000000000000000000000000000000000000000 x = false ∧ Si x)
    (al_cons ⟨ty_i, rfl, si_i (by decide)⟩ (al_cons ⟨ty_b, rfl, si_o rfl⟩ (al_cons ⟨ty_n, rfl, si_o rfl⟩ (al_cons ⟨ty_s, rfl, si_o rfl⟩ (al_cons ⟨ty_t, rfl, si_o rfl⟩ (al_cons ⟨ty_l, rfl, si_o rfl⟩ (al_cons ⟨ty_i, rfl, si_i (by decide +kernel)⟩ al_nil)))))))
  obtain ⟨w, hw, hw2⟩ := pick (xs := [.int 0, .int 0, .int 0, .int 1, .int 2, .int 3, .int 4, .int 5, .int 6, .int 7, .int 8]) (t := v) l2 (Q := fun x => ∃ i, x = .int i ∧ 0 ≤ i ∧ i < 9)
    (al_cons ⟨_, rfl, by decide⟩ (al_cons ⟨_, rfl, by decide⟩ (al_cons ⟨_, rfl, by decide⟩ (al_cons ⟨_, rfl, by decide⟩ (al_cons ⟨_, rfl, by decide⟩ (al_cons ⟨_, rfl, by decide⟩ (al_cons ⟨_, rfl, by decide⟩ (al_cons ⟨_, rfl, by decide⟩ (al_cons ⟨_, rfl, by decide⟩ (al_cons ⟨_, rfl, by decide⟩ (al_cons ⟨_, rfl, by decide⟩ al_nil)))))))))))
  obtain ⟨i, rfl, hi⟩ := hw2
  generalize hg : (List.replicate n.toNat (2 : Int)).map D.int = good at *
  have gl : good.length = n.toNat := by rw [← hg, List.length_map, List.length_replicate]
  have gt : ∀ x ∈ good, Ty x := fun x hx => by
    rw [← hg] at hx
    obtain ⟨j, _, rfl⟩ := List.mem_map.mp hx
    exact ty_i
  have e1 : addD (.tup (good.take z.toNat)) (.tup [odd]) = .ok (.tup (good.take z.toNat ++ [odd])) := add_tt (by rw [List.length_take, List.length_singleton]; omega)
  have e2 : addD (.tup (good.take z.toNat ++ [odd])) (.tup (good.drop (z + 1).toNat)) = .ok (.tup (good.take z.toNat ++ [odd] ++ good.drop (z + 1).toNat)) := add_tt (by rw [List.length_append, List.length_take, List.length_singleton, List.length_drop]; omega)
  have e3 : addD (.tup good) (.tup [.int 0]) = .ok (.tup (good ++ [.int 0])) := add_tt (by rw [List.length_singleton]; omega)
  have gs : ∀ x ∈ good, Si x := fun x hx => by
    rw [← hg] at hx
    obtain ⟨j, hj, rfl⟩ := List.mem_map.mp hx
    rw [(List.mem_replicate.mp hj).2]
    exact si_i (by decide)
  obtain ⟨d, hd, q1, q2, q3⟩ := pick (xs := [.tup (good.take z.toNat ++ [odd] ++ good.drop (z + 1).toNat), .tup (good.drop (1 : Int).toNat), .tup (good ++ [.int 0]), .lst good, .non, .int 5, .dk [], .str "2", .tup [.tup good]]) (t := i) hi (Q := fun x => TL x ∧ standB n x = false ∧ Sm x)
    (al_cons ⟨tl_t fun x hx => by
        rcases List.mem_append.mp hx with hx | hx
        · rcases List.mem_append.mp hx with hx | hx
          · exact gt x (List.mem_of_mem_take hx)
          · rw [List.mem_singleton.mp hx]
            exact hq1
        · exact gt x (List.mem_of_mem_drop hx), standB_odd (List.mem_append_left _ (List.mem_append_right _ List.mem_cons_self)) hq2, sm_t fun x hx => by
        rcases List.mem_append.mp hx with hx | hx
        · rcases List.mem_append.mp hx with hx | hx
          · exact gs x (List.mem_of_mem_take hx)
          · rw [List.mem_singleton.mp hx]
            exact hq3
        · exact gs x (List.mem_of_mem_drop hx)⟩
    (al_cons ⟨tl_t fun x hx => gt x (List.mem_of_mem_drop hx), standB_len (by rw [List.length_drop]; omega), sm_t fun x hx => gs x (List.mem_of_mem_drop hx)⟩
    (al_cons ⟨tl_t fun x hx => by
        rcases List.mem_append.mp hx with hx | hx
        · exact gt x hx
        · rw [List.mem_singleton.mp hx]
          exact ty_i, standB_len (by rw [List.length_append, List.length_singleton]; omega), sm_t fun x hx => by
        rcases List.mem_append.mp hx with hx | hx
        · exact gs x hx
        · rw [List.mem_singleton.mp hx]
          exact si_i (by decide)⟩
    (al_cons ⟨tl_of ty_l fun _ e => (by cases e), rfl, fun _ e => (by cases e)⟩ (al_cons ⟨tl_of ty_n fun _ e => (by cases e), rfl, fun _ e => (by cases e)⟩ (al_cons ⟨tl_of ty_i fun _ e => (by cases e), rfl, fun _ e => (by cases e)⟩ (al_cons ⟨tl_of ty_k fun _ e => (by cases e), rfl, fun _ e => (by cases e)⟩ (al_cons ⟨tl_of ty_s fun _ e => (by cases e), rfl, fun _ e => (by cases e)⟩
    (al_cons ⟨tl_t fun x hx => by rw [List.mem_singleton.mp hx]; exact ty_t, standB_odd List.mem_cons_self rfl, sm_t (al_cons (si_o rfl) al_nil)⟩ al_nil)))))))))
  refine ⟨d, ?_, q1, q2, q3⟩
  rw [go_w_law_no_standing]
  unfold w_law_no_standing_S
  simp (disch := first | omega | decide | (simp only [List.length_cons, List.length_nil, List.length_append, List.length_map, List.length_take, List.length_drop]; omega)) only [apC, apV, apVb, ap2, ap1, apB, apN, apX, aptB, aptV, apAnd, apOr, apNot, apeIf, apeAnd, apeOr, apeNot, apTup, apLst, apIt, apIts, apoN, apoS, apSl, ap3, apsN, apSeq, apSet, apOwn, apRet, apEx, apIf, apFrz, apT, apgN, apEnd, apLm, apGet2, apD1, apD2, apBV, wip_nx, wip_rt, wip_er, frz_fz, wipeF_cons, wipeF_nil, lstB_l, List.getElem?_cons_succ, List.getElem?_cons_zero, List.set_cons_succ, List.set_cons_zero, max2_i, min2_i, bindO, bindE, fdiv_s, mod_i, mul_s, mul_s', isi_ii, isi_ib, isi_it, isi_tt, isi_ll, isi_bb, len_l, len_t, len_s, it_l, it_t, mkL0, mkL1, mkL2, mkL3, mkL4, mkL5, mkL6, mkL7, mkL8, mkT0, mkT1, mkT2, mkT3, mkT4, mkT5, mkT6, mkT7, mkT8, add_i, sub_i, lt_i, le_i, gt_i, ge_i, eq_ib, ne_ib, decide_true, decide_false, tru_b, tru_i, tru_n, as_b, tru_l, tru_t, if_true, if_false, Bool.not_true, Bool.not_false, Bool.false_eq_true, list_l, list_t, tup_l, tup_t, endO_rt, endO_nx, endO_er, isNon_n, mkL9, mkL10, mkL11, mkL12, mkL13, mkL14, mkL15, mkL16, apsApp, appO_ok, appO_er, apsTup, tupO_2, tupO_3, negI, sl_t, cut_toD, cut_fromD, List.cons_append, List.nil_append, apRef, refO_ok, dro_fz, dro_un, dro_ow, dro_nil, mkL11, d0, d1, d2, rp, negI, pow25, ho, sl_t, cut_toD l0.1, cut_fromD (show (0 : Int) ≤ z + 1 by omega), cut_fromD (show (0 : Int) ≤ 1 by decide), e1, e2, e3, hw, hd]
end PB

namespace PB
open PySem PySem.Spec PyProof.Rows L2 LamX
/-! ### S4: no webs (the second kind) -/
theorem webB_odd {n : Int} {xs : List D} {x : D} (h : x ∈ xs) (hx : tieB n x = false) : webB (.tup [.int n, .tup xs]) = false := by
  show (decide (1 ≤ n) && decide (n < 41) && xs.all (tieB n) && _) = false
  rw [Bool.and_eq_false_iff, Bool.and_eq_false_iff]
  refine .inl (.inr ?_)
  rw [← Bool.not_eq_true, List.all_eq_true]
  intro h2
  rw [h2 x h] at hx
  cases hx
theorem tieB_n {n i j : Int} (h : ¬ (0 ≤ i ∧ i < j ∧ j < n)) : tieB n (.tup [.int i, .int j]) = false := by
  show ((decide (0 ≤ i) && decide (i < n)) && (decide (0 ≤ j) && decide (j < n)) && decide (i < j)) = false
  rw [← Bool.not_eq_true]
  simp only [Bool.and_eq_true, decide_eq_true_eq]
  omega
theorem tl_p {x y : D} (h1 : Ty x) (h2 : Ty y) : TL (.tup [x, y]) := tl_t fun z hz => by
  rcases List.mem_cons.mp hz with rfl | hz
  · exact h1
  · rw [List.mem_singleton.mp hz]; exact h2
theorem part_0 {x : D} (h : Ty x) (n : ∀ xs, x ≠ .tup xs) : Part x := ⟨h, fun ts e => absurd e (n ts)⟩
theorem cut_toD' {xs : List D} {z : Int} (h : 0 ≤ z) : cutD xs none (some z) = xs.take z.toNat := cut_toD h
theorem no_web2 (c a n : Int) (ps : List (Int × Int)) (w : WebOk n ps) (ha : 0 ≤ a ∧ a ≤ 100000) : ∃ d, w_law_no_web_v2 [.int c, .int a, webD n ps] = .ok d ∧ Tame d ∧ webB d = false := by
  have lo := w.lo
  have hi := w.hi
  have hl := w.len
  have d0 := draw_1 (c := c) (k := a + 2) (b := (ps.length : Int) + 1) (by omega) (by omega)
  have l0 := drw_lt (c := c) (k := a + 2) (b := (ps.length : Int) + 1) (by omega)
  have d1 := draw_1 (c := c) (k := a + 1) (b := 10) (by omega) (by omega)
  have l1 := drw_lt (c := c) (k := a + 1) (b := 10) (by omega)
  have d2 := draw_1 (c := c) (k := a) (b := 19) (by omega) (by omega)
  have l2 := drw_lt (c := c) (k := a) (b := 19) (by omega)
  generalize drw c (a + 2) ((ps.length : Int) + 1) = z at d0 l0
  generalize drw c (a + 1) 10 = u at d1 l1
  generalize drw c a 19 = v at d2 l2
  have hm : 0 ≤ v % 16 ∧ v % 16 < 16 := by omega
  have m1 : modD (.int v) (.int 16) = .ok (.int (v % 16)) := mod_i (by omega)
  generalize v % 16 = v at hm m1
  have hw0 := w.ties
  -- the first tie
  obtain ⟨p, hp, hp1⟩ : ∃ p : Int × Int, ixD (.tup (ps.map tieD ++ [.tup [.int 0, .int 1]])) (.int 0) = .ok (tieD p) ∧ p.1 < p.2 := by
    cases hps : ps with
    | nil => exact ⟨(0, 1), rfl, by decide⟩
    | cons q qs =>
      refine ⟨q, ?_, ?_⟩
      · rw [List.map_cons, List.cons_append]
        exact ix0
      · have := hw0 q (by rw [hps]; exact List.mem_cons_self)
        omega
  have x0 : addD (.tup (ps.map tieD)) (.tup [.tup [.int 0, .int 1]]) = .ok (.tup (ps.map tieD ++ [.tup [.int 0, .int 1]])) := add_tt (by rw [List.length_map, List.length_singleton]; omega)
  have i0 : ixD (tieD p) (.int 0) = .ok (.int p.1) := rfl
  have i1 : ixD (tieD p) (.int 1) = .ok (.int p.2) := rfl
  have ll : lenD [.tup (ps.map tieD)] = .ok (.int ps.length) := by rw [len_t, List.length_map]
  generalize hg : ps.map tieD = ts at *
  have gl : ts.length = ps.length := by rw [← hg, List.length_map]
  have gt : ∀ x ∈ ts, TL x := fun x hx => by rw [← hg] at hx; exact tl_ties x hx
  obtain ⟨odd, ho, q1, q2⟩ := pick (xs := [.tup [.int p.2, .int p.1], .tup [.int 0, .int n], .tup [.bl true, .int 1], .tup [.int 0, .int 0], .lst [.int 0, .int 1], .tup [.int 0], .non, .tup [.int (-1), .int 0], .tup [.int 0, .int 1, .int 2], .tup [.str "0", .int 1]]) (t := u) l1 (Q := fun x => TL x ∧ tieB n x = false)
    (al_cons ⟨tl_p ty_i ty_i, tieB_n (by omega)⟩ (al_cons ⟨tl_p ty_i ty_i, tieB_n (by omega)⟩ (al_cons ⟨tl_p ty_b ty_i, rfl⟩ (al_cons ⟨tl_p ty_i ty_i, tieB_n (by omega)⟩
    (al_cons ⟨tl_of ty_l fun _ e => (by cases e), rfl⟩ (al_cons ⟨tl_t (al_cons ty_i al_nil), rfl⟩ (al_cons ⟨tl_of ty_n fun _ e => (by cases e), rfl⟩ (al_cons ⟨tl_p ty_i ty_i, tieB_n (by omega)⟩
    (al_cons ⟨tl_t (al_cons ty_i (al_cons ty_i (al_cons ty_i al_nil))), rfl⟩ (al_cons ⟨tl_p ty_s ty_i, rfl⟩ al_nil))))))))))
  have x1 : addD (.tup (ts.take z.toNat)) (.tup [odd]) = .ok (.tup (ts.take z.toNat ++ [odd])) := add_tt (by rw [List.length_take, List.length_singleton]; omega)
  have x2 : addD (.tup (ts.take z.toNat ++ [odd])) (.tup (ts.drop z.toNat)) = .ok (.tup (ts.take z.toNat ++ [odd] ++ ts.drop z.toNat)) := add_tt (by rw [List.length_append, List.length_take, List.length_singleton, List.length_drop]; omega)
  have x3 : addD (.tup ts) (.tup [.tup [.int 0, .int n]]) = .ok (.tup (ts ++ [.tup [.int 0, .int n]])) := add_tt (by rw [List.length_singleton]; omega)
  have tt : Part (.tup ts) := part_t (by omega) gt
  have t0 : Part (.tup []) := part_t (by decide) al_nil
  obtain ⟨d, hd, r1, r2⟩ := pick (xs := [.tup [.int 0, .tup []], .tup [.int 41, .tup []], .tup [.bl true, .tup []], .tup [.int (-1), .tup []], .non, .lst [.int n, .tup ts], .tup [.int n, .lst ts], .tup [.int n], .str "1",
      .int 7, .dk [], .tup [.int n, .tup ts, .tup []], .tup [.int n, .tup (ts ++ [.tup [.int 0, .int n]])], .tup [.str "1", .tup []], .tup [.int n, .non], .tup [.int n, .tup (ts.take z.toNat ++ [odd] ++ ts.drop z.toNat)]]) (t := v) hm (Q := fun x => Tame x ∧ webB x = false)
    (al_cons ⟨tame_2 part_i t0, rfl⟩ (al_cons ⟨tame_2 part_i t0, rfl⟩ (al_cons ⟨tame_2 (part_0 ty_b fun _ e => (by cases e)) t0, rfl⟩ (al_cons ⟨tame_2 part_i t0, rfl⟩ (al_cons ⟨tame_of ty_n fun _ e => (by cases e), rfl⟩
    (al_cons ⟨tame_of ty_l fun _ e => (by cases e), rfl⟩ (al_cons ⟨tame_2 part_i (part_0 ty_l fun _ e => (by cases e)), rfl⟩ (al_cons ⟨tame_t (al_cons part_i al_nil), rfl⟩ (al_cons ⟨tame_of ty_s fun _ e => (by cases e), rfl⟩
    (al_cons ⟨tame_of ty_i fun _ e => (by cases e), rfl⟩ (al_cons ⟨tame_of ty_k fun _ e => (by cases e), rfl⟩ (al_cons ⟨tame_t (al_cons part_i (al_cons tt (al_cons t0 al_nil))), rfl⟩
    (al_cons ⟨tame_2 part_i (part_t (by rw [List.length_append, List.length_singleton]; omega) fun x hx => by
        rcases List.mem_append.mp hx with hx | hx
        · exact gt x hx
        · rw [List.mem_singleton.mp hx]; exact tl_p ty_i ty_i), webB_odd (List.mem_append_right _ List.mem_cons_self) (tieB_n (by omega))⟩
    (al_cons ⟨tame_2 (part_0 ty_s fun _ e => (by cases e)) t0, rfl⟩ (al_cons ⟨tame_2 part_i (part_0 ty_n fun _ e => (by cases e)), rfl⟩
    (al_cons ⟨tame_2 part_i (part_t (by rw [List.length_append, List.length_append, List.length_take, List.length_singleton, List.length_drop]; omega) fun x hx => by
        rcases List.mem_append.mp hx with hx | hx
        · rcases List.mem_append.mp hx with hx | hx
          · exact gt x (List.mem_of_mem_take hx)
          · rw [List.mem_singleton.mp hx]
            exact q1
        · exact gt x (List.mem_of_mem_drop hx)), webB_odd (List.mem_append_left _ (List.mem_append_right _ List.mem_cons_self)) q2⟩ al_nil))))))))))))))))
  refine ⟨d, ?_, r1, r2⟩
  have cc := cat_l (xs := [.tup [.int 0, .tup []], .tup [.int 41, .tup []], .tup [.bl true, .tup []], .tup [.int (-1), .tup []], .non, .lst [.int n, .tup ts], .tup [.int n, .lst ts], .tup [.int n], .str "1"])
    (ys := [.int 7, .dk [], .tup [.int n, .tup ts, .tup []], .tup [.int n, .tup (ts ++ [.tup [.int 0, .int n]])], .tup [.str "1", .tup []], .tup [.int n, .non]]) (show 9 + 6 ≤ 2 ^ 21 by decide)
  rw [go_w_law_no_web_v2]
  unfold w_law_no_web_v2_S
  simp (disch := first | omega | decide | (simp only [List.length_cons, List.length_nil, List.length_append, List.length_map, List.length_take, List.length_drop]; omega)) only [apC, apV, apVb, ap2, ap1, apB, apN, apX, aptB, aptV, apAnd, apOr, apNot, apeIf, apeAnd, apeOr, apeNot, apTup, apLst, apIt, apIts, apoN, apoS, apSl, ap3, apsN, apSeq, apSet, apOwn, apRet, apEx, apIf, apFrz, apT, apgN, apEnd, apLm, apGet2, apD1, apD2, apBV, wip_nx, wip_rt, wip_er, frz_fz, wipeF_cons, wipeF_nil, lstB_l, List.getElem?_cons_succ, List.getElem?_cons_zero, List.set_cons_succ, List.set_cons_zero, max2_i, min2_i, bindO, bindE, fdiv_s, mod_i, mul_s, mul_s', isi_ii, isi_ib, isi_it, isi_tt, isi_ll, isi_bb, len_l, len_t, len_s, it_l, it_t, mkL0, mkL1, mkL2, mkL3, mkL4, mkL5, mkL6, mkL7, mkL8, mkT0, mkT1, mkT2, mkT3, mkT4, mkT5, mkT6, mkT7, mkT8, add_i, sub_i, lt_i, le_i, gt_i, ge_i, eq_ib, ne_ib, decide_true, decide_false, tru_b, tru_i, tru_n, as_b, tru_l, tru_t, if_true, if_false, Bool.not_true, Bool.not_false, Bool.false_eq_true, list_l, list_t, tup_l, tup_t, endO_rt, endO_nx, endO_er, isNon_n, mkL9, mkL10, mkL11, mkL12, mkL13, mkL14, mkL15, mkL16, apsApp, appO_ok, appO_er, apsTup, tupO_2, tupO_3, negI, sl_t, cut_toD, cut_fromD, List.cons_append, List.nil_append, apRef, refO_ok, dro_fz, dro_un, dro_ow, dro_nil, hg, d0, d2, m1, ll, x0, hp, i0, i1, x3, cc, d1, ho, x1, x2, hd]
end PB

namespace PB
open PySem PySem.Spec PyProof.Rows L2 LamX
/-! ### S5: data alike -/
def Shd (k : Nat) (d : D) : Prop := d.py.canLay0 = true ∧ d.py.depth ≤ k
theorem shd_i {k : Nat} {i : Int} : Shd k (.int i) := ⟨rfl, Nat.zero_le _⟩
theorem shd_b {k : Nat} {i : Bool} : Shd k (.bl i) := ⟨rfl, Nat.zero_le _⟩
theorem shd_n {k : Nat} : Shd k .non := ⟨rfl, Nat.zero_le _⟩
theorem shd_s {k : Nat} {x : Str} (h : (PyData.str x).canLay0 = true) : Shd k (.str x) := ⟨h, Nat.zero_le _⟩
theorem shd_all {k : Nat} : ∀ {xs : List D}, (∀ x ∈ xs, Shd k x) → PyData.canLayAll0 (D.pys xs) = true ∧ PyData.depthAll (D.pys xs) ≤ k
  | [], _ => ⟨rfl, Nat.zero_le _⟩
  | x :: xs, h => by
    have h1 := h x List.mem_cons_self
    have h2 := shd_all fun y hy => h y (List.mem_cons_of_mem _ hy)
    constructor
    · rw [D.pys, PyData.canLayAll0, h1.1, h2.1]; rfl
    · rw [D.pys, PyData.depthAll]; exact Nat.max_le.mpr ⟨h1.2, h2.2⟩
theorem shd_t {k : Nat} {xs : List D} (h : ∀ x ∈ xs, Shd k x) : Shd (k + 1) (.tup xs) := by
  have a := shd_all h
  constructor
  · rw [D.py, PyData.canLay0]; exact a.1
  · rw [D.py, PyData.depth]; exact Nat.succ_le_succ a.2
theorem shd_l {k : Nat} {xs : List D} (h : ∀ x ∈ xs, Shd k x) : Shd (k + 1) (.lst xs) := by
  have a := shd_all h
  constructor
  · rw [D.py, PyData.canLay0]; exact a.1
  · rw [D.py, PyData.depth]; exact Nat.succ_le_succ a.2
theorem shd_is {k : Nat} (ns : List Int) : ∀ x ∈ ns.map D.int, Shd k x := fun x hx => by
  obtain ⟨i, _, rfl⟩ := List.mem_map.mp hx
  exact shd_i
theorem Shd.up {j k : Nat} {d : D} (h : Shd j d) (l : j ≤ k) : Shd k d := ⟨h.1, Nat.le_trans h.2 l⟩
theorem Shd.sh {k : Nat} {d : D} (h : Shd k d) (l : k ≤ 64) : SeqAt.shaped d.py = true := by
  show (_ && decide _) = true
  rw [h.1, decide_eq_true (Nat.le_trans h.2 l)]
  rfl
theorem eq_of {j k : Nat} {x y : D} (h1 : Shd j x) (h2 : Shd k y) (l1 : j ≤ 64) (l2 : k ≤ 64) : eqD x y = .ok (.bl (PyData.eqv x.py y.py)) := if_pos ⟨h1.sh l1, h2.sh l2⟩
theorem ne_of {j k : Nat} {x y : D} (h1 : Shd j x) (h2 : Shd k y) (l1 : j ≤ 64) (l2 : k ≤ 64) : neD x y = .ok (.bl (!PyData.eqv x.py y.py)) := if_pos ⟨h1.sh l1, h2.sh l2⟩
theorem eq_self {k : Nat} {x : D} (h : Shd k x) (l : k ≤ 64) : eqD x x = .ok (.bl true) := by rw [eq_of h h l l, PySem.SeqAt.eqv_refl _ h.1]
theorem ne_self {k : Nat} {x : D} (h : Shd k x) (l : k ≤ 64) : neD x x = .ok (.bl false) := by rw [ne_of h h l l, PySem.SeqAt.eqv_refl _ h.1]; rfl
theorem eqvAll_is : ∀ {xs ys : List Int}, PyData.eqvAll (D.pys (xs.map D.int)) (D.pys (ys.map D.int)) = decide (xs = ys)
  | [], [] => rfl
  | [], _ :: _ => rfl
  | _ :: _, [] => rfl
  | x :: xs, y :: ys => by
    rw [List.map_cons, List.map_cons, D.pys, D.pys, PyData.eqvAll, eqvAll_is, D.py, D.py, PyData.eqv]
    by_cases h : x = y
    · subst h
      rw [beq_self_eq_true, Bool.true_and]
      by_cases h2 : xs = ys
      · rw [decide_eq_true h2, decide_eq_true (by rw [h2])]
      · rw [decide_eq_false h2, decide_eq_false fun e => h2 (List.cons.inj e).2]
    · rw [beq_eq_false_iff_ne.mpr h, Bool.false_and, decide_eq_false fun e => h (List.cons.inj e).1]
theorem eqv_ti {xs ys : List Int} : PyData.eqv (stD xs).py (stD ys).py = decide (xs = ys) := by rw [D.py, D.py, PyData.eqv, eqvAll_is]
theorem eqv_li {xs ys : List Int} : PyData.eqv (D.lst (xs.map D.int)).py (D.lst (ys.map D.int)).py = decide (xs = ys) := by rw [D.py, D.py, PyData.eqv, eqvAll_is]
theorem shd_st (ss : List Int) : Shd 1 (stD ss) := shd_t (k := 0) (shd_is ss)
theorem shd_li (ss : List Int) : Shd 1 (D.lst (ss.map D.int)) := shd_l (k := 0) (shd_is ss)
theorem eq_st {xs ys : List Int} : eqD (stD xs) (stD ys) = .ok (.bl (decide (xs = ys))) := by rw [eq_of (shd_st xs) (shd_st ys) (by decide) (by decide), eqv_ti]
theorem ne_st {xs ys : List Int} : neD (stD xs) (stD ys) = .ok (.bl (!decide (xs = ys))) := by rw [ne_of (shd_st xs) (shd_st ys) (by decide) (by decide), eqv_ti]
theorem eq_li {xs ys : List Int} : eqD (.lst (xs.map D.int)) (.lst (ys.map D.int)) = .ok (.bl (decide (xs = ys))) := by rw [eq_of (shd_li xs) (shd_li ys) (by decide) (by decide), eqv_li]
theorem ne_li {xs ys : List Int} : neD (.lst (xs.map D.int)) (.lst (ys.map D.int)) = .ok (.bl (!decide (xs = ys))) := by rw [ne_of (shd_li xs) (shd_li ys) (by decide) (by decide), eqv_li]
theorem shd_tie (p : Int × Int) : Shd 1 (tieD p) := shd_t (k := 0) (al_cons shd_i (al_cons shd_i al_nil))
theorem shd_ties (ps : List (Int × Int)) : ∀ x ∈ ps.map tieD, Shd 1 x := fun x hx => by
  obtain ⟨p, _, rfl⟩ := List.mem_map.mp hx
  exact shd_tie p
theorem shd_web (n : Int) (ps : List (Int × Int)) : Shd 3 (webD n ps) := shd_t (k := 2) (al_cons shd_i (al_cons (shd_t (k := 1) (shd_ties ps)) al_nil))
theorem mem_ints {lo : Int} {n : Nat} {d : D} (h : d ∈ intsD lo n) : ∃ k : Nat, k < n ∧ d = .int (lo + k) := by
  obtain ⟨k, hk, e⟩ := List.getElem_of_mem h
  obtain ⟨h1, h2⟩ := ints_get (d := d) (by rw [List.getElem?_eq_getElem hk, e])
  exact ⟨k, h1, h2⟩
theorem ne_w_web : neD (.str "web") (.str "web") = .ok (.bl false) := ne_self (k := 0) (shd_s (by kernel_rfl)) (by decide)
theorem eq_w_web : eqD (.str "web") (.str "web") = .ok (.bl true) := eq_self (k := 0) (shd_s (by kernel_rfl)) (by decide)
theorem shw_web {k : Nat} : Shd k (.str "web") := shd_s (by kernel_rfl)
theorem ne_w_place : neD (.str "place") (.str "place") = .ok (.bl false) := ne_self (k := 0) (shd_s (by kernel_rfl)) (by decide)
theorem eq_w_place : eqD (.str "place") (.str "place") = .ok (.bl true) := eq_self (k := 0) (shd_s (by kernel_rfl)) (by decide)
theorem shw_place {k : Nat} : Shd k (.str "place") := shd_s (by kernel_rfl)
theorem ne_w_count : neD (.str "count") (.str "count") = .ok (.bl false) := ne_self (k := 0) (shd_s (by kernel_rfl)) (by decide)
theorem eq_w_count : eqD (.str "count") (.str "count") = .ok (.bl true) := eq_self (k := 0) (shd_s (by kernel_rfl)) (by decide)
theorem shw_count {k : Nat} : Shd k (.str "count") := shd_s (by kernel_rfl)
theorem ne_w_number : neD (.str "number") (.str "number") = .ok (.bl false) := ne_self (k := 0) (shd_s (by kernel_rfl)) (by decide)
theorem eq_w_number : eqD (.str "number") (.str "number") = .ok (.bl true) := eq_self (k := 0) (shd_s (by kernel_rfl)) (by decide)
theorem shw_number {k : Nat} : Shd k (.str "number") := shd_s (by kernel_rfl)
theorem ne_w_standing : neD (.str "standing") (.str "standing") = .ok (.bl false) := ne_self (k := 0) (shd_s (by kernel_rfl)) (by decide)
theorem eq_w_standing : eqD (.str "standing") (.str "standing") = .ok (.bl true) := eq_self (k := 0) (shd_s (by kernel_rfl)) (by decide)
theorem shw_standing {k : Nat} : Shd k (.str "standing") := shd_s (by kernel_rfl)
theorem ne_w_move : neD (.str "move") (.str "move") = .ok (.bl false) := ne_self (k := 0) (shd_s (by kernel_rfl)) (by decide)
theorem eq_w_move : eqD (.str "move") (.str "move") = .ok (.bl true) := eq_self (k := 0) (shd_s (by kernel_rfl)) (by decide)
theorem shw_move {k : Nat} : Shd k (.str "move") := shd_s (by kernel_rfl)
theorem ne_w_run : neD (.str "run") (.str "run") = .ok (.bl false) := ne_self (k := 0) (shd_s (by kernel_rfl)) (by decide)
theorem eq_w_run : eqD (.str "run") (.str "run") = .ok (.bl true) := eq_self (k := 0) (shd_s (by kernel_rfl)) (by decide)
theorem shw_run {k : Nat} : Shd k (.str "run") := shd_s (by kernel_rfl)
theorem ne_w_whole : neD (.str "whole") (.str "whole") = .ok (.bl false) := ne_self (k := 0) (shd_s (by kernel_rfl)) (by decide)
theorem eq_w_whole : eqD (.str "whole") (.str "whole") = .ok (.bl true) := eq_self (k := 0) (shd_s (by kernel_rfl)) (by decide)
theorem shw_whole {k : Nat} : Shd k (.str "whole") := shd_s (by kernel_rfl)
theorem ne_w_pieces : neD (.str "pieces") (.str "pieces") = .ok (.bl false) := ne_self (k := 0) (shd_s (by kernel_rfl)) (by decide)
theorem eq_w_pieces : eqD (.str "pieces") (.str "pieces") = .ok (.bl true) := eq_self (k := 0) (shd_s (by kernel_rfl)) (by decide)
theorem shw_pieces {k : Nat} : Shd k (.str "pieces") := shd_s (by kernel_rfl)
theorem ne_w_tree : neD (.str "tree") (.str "tree") = .ok (.bl false) := ne_self (k := 0) (shd_s (by kernel_rfl)) (by decide)
theorem eq_w_tree : eqD (.str "tree") (.str "tree") = .ok (.bl true) := eq_self (k := 0) (shd_s (by kernel_rfl)) (by decide)
theorem shw_tree {k : Nat} : Shd k (.str "tree") := shd_s (by kernel_rfl)
theorem ne_w_paper : neD (.str "paper") (.str "paper") = .ok (.bl false) := ne_self (k := 0) (shd_s (by kernel_rfl)) (by decide)
theorem eq_w_paper : eqD (.str "paper") (.str "paper") = .ok (.bl true) := eq_self (k := 0) (shd_s (by kernel_rfl)) (by decide)
theorem shw_paper {k : Nat} : Shd k (.str "paper") := shd_s (by kernel_rfl)
theorem ne_w_many : neD (.str "many") (.str "many") = .ok (.bl false) := ne_self (k := 0) (shd_s (by kernel_rfl)) (by decide)
theorem eq_w_many : eqD (.str "many") (.str "many") = .ok (.bl true) := eq_self (k := 0) (shd_s (by kernel_rfl)) (by decide)
theorem shw_many {k : Nat} : Shd k (.str "many") := shd_s (by kernel_rfl)
theorem ne_w_demands : neD (.str "demands") (.str "demands") = .ok (.bl false) := ne_self (k := 0) (shd_s (by kernel_rfl)) (by decide)
theorem eq_w_demands : eqD (.str "demands") (.str "demands") = .ok (.bl true) := eq_self (k := 0) (shd_s (by kernel_rfl)) (by decide)
theorem shw_demands {k : Nat} : Shd k (.str "demands") := shd_s (by kernel_rfl)
theorem ne_w_text : neD (.str "text") (.str "text") = .ok (.bl false) := ne_self (k := 0) (shd_s (by kernel_rfl)) (by decide)
theorem eq_w_text : eqD (.str "text") (.str "text") = .ok (.bl true) := eq_self (k := 0) (shd_s (by kernel_rfl)) (by decide)
theorem shw_text {k : Nat} : Shd k (.str "text") := shd_s (by kernel_rfl)
theorem ne_w_deed : neD (.str "deed") (.str "deed") = .ok (.bl false) := ne_self (k := 0) (shd_s (by kernel_rfl)) (by decide)
theorem eq_w_deed : eqD (.str "deed") (.str "deed") = .ok (.bl true) := eq_self (k := 0) (shd_s (by kernel_rfl)) (by decide)
theorem shw_deed {k : Nat} : Shd k (.str "deed") := shd_s (by kernel_rfl)
theorem ne_w_line : neD (.str "line") (.str "line") = .ok (.bl false) := ne_self (k := 0) (shd_s (by kernel_rfl)) (by decide)
theorem eq_w_line : eqD (.str "line") (.str "line") = .ok (.bl true) := eq_self (k := 0) (shd_s (by kernel_rfl)) (by decide)
theorem shw_line {k : Nat} : Shd k (.str "line") := shd_s (by kernel_rfl)
theorem ne_w_row : neD (.str "row") (.str "row") = .ok (.bl false) := ne_self (k := 0) (shd_s (by kernel_rfl)) (by decide)
theorem eq_w_row : eqD (.str "row") (.str "row") = .ok (.bl true) := eq_self (k := 0) (shd_s (by kernel_rfl)) (by decide)
theorem shw_row {k : Nat} : Shd k (.str "row") := shd_s (by kernel_rfl)
theorem ne_w_told : neD (.str "told") (.str "told") = .ok (.bl false) := ne_self (k := 0) (shd_s (by kernel_rfl)) (by decide)
theorem eq_w_told : eqD (.str "told") (.str "told") = .ok (.bl true) := eq_self (k := 0) (shd_s (by kernel_rfl)) (by decide)
theorem shw_told {k : Nat} : Shd k (.str "told") := shd_s (by kernel_rfl)
theorem ne_w_odd : neD (.str "odd") (.str "odd") = .ok (.bl false) := ne_self (k := 0) (shd_s (by kernel_rfl)) (by decide)
theorem eq_w_odd : eqD (.str "odd") (.str "odd") = .ok (.bl true) := eq_self (k := 0) (shd_s (by kernel_rfl)) (by decide)
theorem shw_odd {k : Nat} : Shd k (.str "odd") := shd_s (by kernel_rfl)
theorem shd_rep {k n : Nat} {x : D} (h : Shd k x) : Shd (k + 1) (.lst (List.replicate n x)) := shd_l fun y hy => by rw [(List.mem_replicate.mp hy).2]; exact h
theorem rng_turns (ns : List Int) (m : Int) (hm : 0 ≤ m ∧ m ≤ 1000) (ρ : Fr) : ∃ t, eIts rng1D (xCons (eB max2D (xCons (eC (.int 1)) (xCons (eB min2D (xCons (eB lenD (xCons (eVb 0) xNil)) (xCons (eC (.int m)) xNil))) xNil))) xNil) (.fz (.scr ns) :: ρ) = .ok (intsD 0 t) := by
  have r : ∃ t, rng1D [.int (if (if m < (ns.length : Int) then m else (ns.length : Int)) > 1 then (if m < (ns.length : Int) then m else (ns.length : Int)) else 1)] = .ok (intsD 0 t) := by
    refine ⟨_, rng1_int ?_ ?_⟩ <;> (split <;> split <;> omega)
  obtain ⟨t, r⟩ := r
  exact ⟨t, by simp (disch := first | omega | decide | (simp only [List.length_cons, List.length_nil, List.length_append, List.length_map, List.length_take, List.length_drop]; omega)) only [apC, apV, apVb, ap2, ap1, apB, apN, apX, aptB, aptV, apAnd, apOr, apNot, apeIf, apeAnd, apeOr, apeNot, apTup, apLst, apIt, apIts, apoN, apoS, apSl, ap3, apsN, apSeq, apSet, apOwn, apRet, apEx, apIf, apFrz, apT, apgN, apEnd, apLm, apGet2, apD1, apD2, apBV, wip_nx, wip_rt, wip_er, frz_fz, wipeF_cons, wipeF_nil, lstB_l, List.getElem?_cons_succ, List.getElem?_cons_zero, List.set_cons_succ, List.set_cons_zero, max2_i, min2_i, bindO, bindE, fdiv_s, mod_i, mul_s, mul_s', isi_ii, isi_ib, isi_it, isi_tt, isi_ll, isi_bb, len_l, len_t, len_s, it_l, it_t, mkL0, mkL1, mkL2, mkL3, mkL4, mkL5, mkL6, mkL7, mkL8, mkT0, mkT1, mkT2, mkT3, mkT4, mkT5, mkT6, mkT7, mkT8, add_i, sub_i, lt_i, le_i, gt_i, ge_i, eq_ib, ne_ib, decide_true, decide_false, tru_b, tru_i, tru_n, as_b, tru_l, tru_t, if_true, if_false, Bool.not_true, Bool.not_false, Bool.false_eq_true, list_l, list_t, tup_l, tup_t, endO_rt, endO_nx, endO_er, isNon_n, mkL9, mkL10, mkL11, mkL12, mkL13, mkL14, mkL15, mkL16, apsApp, appO_ok, appO_er, apsTup, tupO_2, tupO_3, negI, sl_t, cut_toD, cut_fromD, List.cons_append, List.nil_append, apRef, refO_ok, dro_fz, dro_un, dro_ow, dro_nil, r]⟩
/-- the loop of a law that goes through -/
theorem law_turns {ns : List Int} {m : Int} (hm : 0 ≤ m ∧ m ≤ 1000) {i : Nat} {b : Fr → O} {ρ : Fr} (h : ∀ k : Nat, b ((Sl.fz (.scr ns) :: ρ).set i (.fz (.int k))) = .nx (.fz (.scr ns) :: ρ)) :
    sFor (eIts rng1D (xCons (eB max2D (xCons (eC (.int 1)) (xCons (eB min2D (xCons (eB lenD (xCons (eVb 0) xNil)) (xCons (eC (.int m)) xNil))) xNil))) xNil)) (gN i) b (.fz (.scr ns) :: ρ) = .nx (.fz (.scr ns) :: ρ) := by
  obtain ⟨t, e⟩ := rng_turns ns m hm ρ
  refine for_go e (for_rngF (fun _ => .fz (.scr ns) :: ρ) fun k hk => ⟨_, rfl, ?_⟩)
  rw [Int.zero_add]
  exact h k
end PB

namespace PB
open PySem PySem.Spec PyProof.Rows L2 LamX
/-! ### S6: neighbours -/
theorem sorted_i (ns : List Int) : sortedD [.lst (ns.map D.int)] = .ok (.lst ((ns.mergeSort leI).map D.int)) := by
  unfold sortedD sortL
  dsimp only
  rw [D.ints_of]
theorem sorted_ti (ns : List Int) : sortedD [.tup (ns.map D.int)] = .ok (.lst ((ns.mergeSort leI).map D.int)) := by
  unfold sortedD sortL
  dsimp only
  rw [D.ints_of]
theorem mem_sort {ns : List Int} {v : Int} : v ∈ ns.mergeSort leI ↔ v ∈ ns := (List.mergeSort_perm ns leI).mem_iff
theorem appM_ok {i ja je : Nat} {ρ : Fr} {rss : List (List D)} {k : Nat} {x : D} (h1 : ρ[i]? = some (.om rss)) (h2 : ρ[ja]? = some (.fz (.int (k : Int)))) (hk : k < rss.length) (h3 : ρ[je]? = some (.fz x)) (hl : rss[k].length < 2 ^ 20) : sAppM i ja je ρ = .nx (ρ.set i (.om (rss.set k (rss[k] ++ [x])))) := by
  have g1 : getM i ρ = .ok rss := by unfold getM; rw [h1]
  have g2 : eV ja ρ = .ok (.int (k : Int)) := by unfold eV; rw [h2]
  have g3 : rowAt rss (.int (k : Int)) = .ok (k, rss[k]) := by
    unfold rowAt
    dsimp only
    rw [show ixN rss.length (k : Int) = some k by unfold ixN; rw [if_pos (show (0 : Int) ≤ (k : Int) by omega)]; rw [if_pos (show ((k : Nat) : Int) < (rss.length : Nat) by omega), Int.toNat_natCast]]
    dsimp only
    rw [List.getElem?_eq_getElem hk]
  have g4 : eV je ρ = .ok x := by unfold eV; rw [h3]
  unfold sAppM
  rw [sLet_ok g1, sLet_ok g2, sLet_ok g3, sLet_ok g4]
  exact if_pos (Nat.lt_of_lt_of_le hl (Nat.le_trans (by decide) szl))
/-- the rows of a list of lists -/
def rowL (R : List (List Int)) (i : Nat) : List Int := (R[i]?).getD []
def addAt (R : List (List Int)) (k : Nat) (v : Int) : List (List Int) := R.set k (rowL R k ++ [v])
theorem len_addAt {R : List (List Int)} {k : Nat} {v : Int} : (addAt R k v).length = R.length := List.length_set
theorem row_addAt {R : List (List Int)} {k i : Nat} {v : Int} (hk : k < R.length) : rowL (addAt R k v) i = if i = k then rowL R i ++ [v] else rowL R i := by
  unfold addAt
  by_cases h : i = k
  · subst h
    rw [if_pos rfl]
    unfold rowL
    rw [List.getElem?_set_self hk]
    rfl
  · rw [if_neg h]
    unfold rowL
    rw [List.getElem?_set_ne (fun e => h e.symm)]
def addTie (R : List (List Int)) (p : Int × Int) : List (List Int) := addAt (addAt R p.1.toNat p.2) p.2.toNat p.1
theorem len_addTie {R : List (List Int)} {p : Int × Int} : (addTie R p).length = R.length := by unfold addTie; rw [len_addAt, len_addAt]
theorem len_ties : ∀ {ps : List (Int × Int)} {R : List (List Int)}, (ps.foldl addTie R).length = R.length
  | [], R => rfl
  | p :: ps, R => by rw [List.foldl_cons, len_ties, len_addTie]
theorem mem_addTie {R : List (List Int)} {p : Int × Int} {i : Nat} {v : Int} (h1 : 0 ≤ p.1 ∧ p.1 < R.length) (h2 : 0 ≤ p.2 ∧ p.2 < R.length) : v ∈ rowL (addTie R p) i ↔ v ∈ rowL R i ∨ (p.1 = i ∧ p.2 = v) ∨ (p.2 = i ∧ p.1 = v) := by
  obtain ⟨a, ha⟩ : ∃ a : Nat, p.1 = a := ⟨p.1.toNat, by omega⟩
  obtain ⟨b, hb⟩ : ∃ b : Nat, p.2 = b := ⟨p.2.toNat, by omega⟩
  unfold addTie
  rw [row_addAt (by rw [len_addAt]; omega), row_addAt (by omega), ha, hb, Int.toNat_natCast, Int.toNat_natCast]
  have qa : ((a : Int) = i) ↔ i = a := by omega
  have qb : ((b : Int) = i) ↔ i = b := by omega
  rw [qa, qb]
  by_cases x : i = a <;> by_cases y : i = b
  · rw [if_pos y, if_pos x, List.mem_append, List.mem_append, List.mem_singleton, List.mem_singleton, or_assoc]
    refine or_congr Iff.rfl (or_congr ⟨fun h => ⟨x, h.symm⟩, fun h => h.2.symm⟩ ⟨fun h => ⟨y, h.symm⟩, fun h => h.2.symm⟩)
  · rw [if_neg y, if_pos x, List.mem_append, List.mem_singleton]
    exact or_congr Iff.rfl ⟨fun h => .inl ⟨x, h.symm⟩, fun h => h.elim (fun h => h.2.symm) fun h => absurd h.1 y⟩
  · rw [if_pos y, if_neg x, List.mem_append, List.mem_singleton]
    exact or_congr Iff.rfl ⟨fun h => .inr ⟨y, h.symm⟩, fun h => h.elim (fun h => absurd h.1 x) fun h => h.2.symm⟩
  · rw [if_neg y, if_neg x]
    exact ⟨.inl, fun h => h.elim id fun h => h.elim (fun h => absurd h.1 x) fun h => absurd h.1 y⟩
theorem mem_ties : ∀ {ps : List (Int × Int)} {R : List (List Int)} {i : Nat} {v : Int}, (∀ p ∈ ps, (0 ≤ p.1 ∧ p.1 < R.length) ∧ (0 ≤ p.2 ∧ p.2 < R.length)) → (v ∈ rowL (ps.foldl addTie R) i ↔ v ∈ rowL R i ∨ ∃ p ∈ ps, (p.1 = i ∧ p.2 = v) ∨ (p.2 = i ∧ p.1 = v))
  | [], R, i, v, _ => by simp
  | p :: ps, R, i, v, h => by
    have hp := h p List.mem_cons_self
    rw [List.foldl_cons, mem_ties fun q hq => by rw [len_addTie]; exact h q (List.mem_cons_of_mem _ hq), mem_addTie hp.1 hp.2]
    constructor
    · rintro ((h | h) | ⟨q, hq, h⟩)
      · exact .inl h
      · exact .inr ⟨p, List.mem_cons_self, h⟩
      · exact .inr ⟨q, List.mem_cons_of_mem _ hq, h⟩
    · rintro (h' | ⟨q, hq, h'⟩)
      · exact .inl (.inl h')
      · rcases List.mem_cons.mp hq with rfl | hq
        · exact .inl (.inr h')
        · exact .inr ⟨q, hq, h'⟩
/-- two places tied -/
def Adj (ps : List (Int × Int)) (u v : Int) : Prop := (u, v) ∈ ps ∨ (v, u) ∈ ps
theorem Adj.symm {ps : List (Int × Int)} {u v : Int} (h : Adj ps u v) : Adj ps v u := h.elim .inr .inl
theorem WebOk.adj {n : Int} {ps : List (Int × Int)} (w : WebOk n ps) {u v : Int} (h : Adj ps u v) : (0 ≤ u ∧ u < n) ∧ (0 ≤ v ∧ v < n) ∧ u ≠ v := by
  rcases h with h | h <;> (have := w.ties _ h; dsimp only at this; omega)
def nearR (n : Int) (ps : List (Int × Int)) : List (List Int) := ps.foldl addTie (List.replicate n.toNat [])
def nearL (n : Int) (ps : List (Int × Int)) : List (List Int) := (nearR n ps).map fun r => r.mergeSort leI
theorem nearR_len {n : Int} {ps : List (Int × Int)} : (nearR n ps).length = n.toNat := by unfold nearR; rw [len_ties, List.length_replicate]
theorem nearL_len {n : Int} {ps : List (Int × Int)} : (nearL n ps).length = n.toNat := by unfold nearL; rw [List.length_map, nearR_len]
theorem nearL_mem {n : Int} {ps : List (Int × Int)} (w : WebOk n ps) {i : Nat} {v : Int} : v ∈ rowL (nearL n ps) i ↔ Adj ps i v := by
  have e : rowL (nearL n ps) i = (rowL (nearR n ps) i).mergeSort leI := by
    unfold rowL nearL
    rw [List.getElem?_map]
    cases (nearR n ps)[i]? with
    | none => simp
    | some r => rfl
  rw [e, mem_sort]
  unfold nearR
  rw [mem_ties fun p hp => by
    rw [List.length_replicate]
    have := w.ties p hp
    omega]
  constructor
  · rintro (h | ⟨p, hp, h | h⟩)
    · unfold rowL at h
      rw [List.getElem?_replicate] at h
      split at h <;> cases h
    · exact .inl (by rw [← h.1, ← h.2]; exact hp)
    · exact .inr (by rw [← h.1, ← h.2]; exact hp)
  · rintro (h | h)
    · exact .inr ⟨_, h, .inl ⟨rfl, rfl⟩⟩
    · exact .inr ⟨_, h, .inr ⟨rfl, rfl⟩⟩
theorem row_len_addTie {R : List (List Int)} {p : Int × Int} {i : Nat} (h1 : 0 ≤ p.1 ∧ p.1 < R.length) (h2 : 0 ≤ p.2 ∧ p.2 < R.length) : (rowL (addTie R p) i).length ≤ (rowL R i).length + 2 := by
  unfold addTie
  rw [row_addAt (by rw [len_addAt]; omega), row_addAt (by omega)]
  split <;> split <;> (try simp only [List.length_append, List.length_singleton]) <;> omega
theorem rowL_get {R : List (List Int)} {k : Nat} (h : k < R.length) : rowL R k = R[k] := by
  unfold rowL
  rw [List.getElem?_eq_getElem h]
  rfl
theorem near_turn {R : List (List Int)} {p : Int × Int} {x : D} (h1 : 0 ≤ p.1 ∧ p.1 < R.length) (h2 : 0 ≤ p.2 ∧ p.2 < R.length) (hl : ∀ i, (rowL R i).length ≤ 5000) :
    w_near_B1 [.fz x, .om (R.map (·.map D.int)), .un, .fz (.int p.1), .fz (.int p.2), .un] = .nx [.fz x, .om ((addTie R p).map (·.map D.int)), .un, .un, .un, .un] := by
  have ap : ∀ {R : List (List Int)} {k : Nat} {v : Int} {ja je : Nat} {ρ : Fr}, ρ[1]? = some (.om (R.map (·.map D.int))) → ρ[ja]? = some (.fz (.int (k : Int))) → k < R.length → ρ[je]? = some (.fz (.int v)) → (rowL R k).length ≤ 6000 → sAppM 1 ja je ρ = .nx (ρ.set 1 (.om ((addAt R k v).map (·.map D.int)))) := fun {R k v ja je ρ} a b c d e => by
    rw [appM_ok a b (by rw [List.length_map]; exact c) d (by
      rw [List.getElem_map, List.length_map]
      rw [rowL_get c] at e
      exact Nat.lt_of_le_of_lt e (by decide))]
    unfold addAt
    rw [List.map_set, List.getElem_map, rowL_get c, List.map_append]
    rfl
  obtain ⟨a, ha⟩ : ∃ a : Nat, p.1 = a := ⟨p.1.toNat, by omega⟩
  obtain ⟨b, hb⟩ : ∃ b : Nat, p.2 = b := ⟨p.2.toNat, by omega⟩
  unfold w_near_B1 addTie
  rw [ha, hb, Int.toNat_natCast, Int.toNat_natCast]
  have l1 := hl a
  have s1 := ap (R := R) (k := a) (v := (b : Int)) (ja := 3) (je := 4) (ρ := [.fz x, .om (R.map (·.map D.int)), .un, .fz (.int (a : Int)), .fz (.int (b : Int)), .un]) rfl rfl (by omega) rfl (by omega)
  have l2 : (rowL (addAt R a (b : Int)) b).length ≤ 6000 := by
    rw [row_addAt (by omega)]
    have := hl b
    split <;> (try simp only [List.length_append, List.length_singleton]) <;> omega
  have s2 := ap (R := addAt R a (b : Int)) (k := b) (v := (a : Int)) (ja := 4) (je := 3) (ρ := [.fz x, .om ((addAt R a (b : Int)).map (·.map D.int)), .un, .fz (.int (a : Int)), .fz (.int (b : Int)), .un]) rfl rfl (by rw [len_addAt]; omega) rfl l2
  simp (disch := first | omega | decide | (simp only [List.length_cons, List.length_nil, List.length_append, List.length_map, List.length_take, List.length_drop]; omega)) only [apC, apV, apVb, ap2, ap1, apB, apN, apX, aptB, aptV, apAnd, apOr, apNot, apeIf, apeAnd, apeOr, apeNot, apTup, apLst, apIt, apIts, apoN, apoS, apSl, ap3, apsN, apSeq, apSet, apOwn, apRet, apEx, apIf, apFrz, apT, apgN, apEnd, apLm, apGet2, apD1, apD2, apBV, wip_nx, wip_rt, wip_er, frz_fz, wipeF_cons, wipeF_nil, lstB_l, List.getElem?_cons_succ, List.getElem?_cons_zero, List.set_cons_succ, List.set_cons_zero, max2_i, min2_i, bindO, bindE, fdiv_s, mod_i, mul_s, mul_s', isi_ii, isi_ib, isi_it, isi_tt, isi_ll, isi_bb, len_l, len_t, len_s, it_l, it_t, mkL0, mkL1, mkL2, mkL3, mkL4, mkL5, mkL6, mkL7, mkL8, mkT0, mkT1, mkT2, mkT3, mkT4, mkT5, mkT6, mkT7, mkT8, add_i, sub_i, lt_i, le_i, gt_i, ge_i, eq_ib, ne_ib, decide_true, decide_false, tru_b, tru_i, tru_n, as_b, tru_l, tru_t, if_true, if_false, Bool.not_true, Bool.not_false, Bool.false_eq_true, list_l, list_t, tup_l, tup_t, endO_rt, endO_nx, endO_er, isNon_n, mkL9, mkL10, mkL11, mkL12, mkL13, mkL14, mkL15, mkL16, apsApp, appO_ok, appO_er, apsTup, tupO_2, tupO_3, negI, sl_t, cut_toD, cut_fromD, List.cons_append, List.nil_append, apRef, refO_ok, dro_fz, dro_un, dro_ow, dro_nil, s1, s2]
theorem near_loop {x : D} : ∀ {ps : List (Int × Int)} {R : List (List Int)} {m : Nat}, (∀ p ∈ ps, (0 ≤ p.1 ∧ p.1 < R.length) ∧ (0 ≤ p.2 ∧ p.2 < R.length)) → (∀ i, (rowL R i).length ≤ m) → m + 2 * ps.length ≤ 5000 →
    forD (gT 2 (gCons' (gN 3) (gCons' (gN 4) gNil'))) w_near_B1 (ps.map tieD) [.fz x, .om (R.map (·.map D.int)), .un, .un, .un, .un] = .nx [.fz x, .om ((ps.foldl addTie R).map (·.map D.int)), .un, .un, .un, .un]
  | [], R, m, _, _, _ => rfl
  | p :: ps, R, m, h, hl, hm => by
    have hp := h p List.mem_cons_self
    have hl' : ps.length + 1 = (p :: ps).length := rfl
    rw [List.map_cons, forD_cons (ρ1 := [.fz x, .om (R.map (·.map D.int)), .un, .fz (.int p.1), .fz (.int p.2), .un]) rfl, near_turn hp.1 hp.2 fun i => by have := hl i; omega]
    show forD _ _ (ps.map tieD) [.fz x, .om ((addTie R p).map (·.map D.int)), .un, .un, .un, .un] = _
    rw [near_loop (R := addTie R p) (m := m + 2) (fun q hq => by rw [len_addTie]; exact h q (List.mem_cons_of_mem _ hq)) (fun i => by have := row_len_addTie (R := R) (p := p) (i := i) hp.1 hp.2; have := hl i; omega) (by omega)]
    rfl
theorem lsts_rep (n : Nat) : lstsD (List.replicate n (.lst [])) = some (List.replicate n []) := by
  induction n with
  | zero => rfl
  | succ n ih =>
    rw [List.replicate_succ, List.replicate_succ]
    unfold lstsD
    rw [ih]
    rfl
theorem near_ok {n : Int} {ps : List (Int × Int)} (w : WebOk n ps) : w_near [webD n ps] = .ok (.lst ((nearL n ps).map fun r => .lst (r.map D.int))) := by
  have lo := w.lo
  have hi := w.hi
  have hl := w.len
  have c1 : w_near_C1 [.fz (webD n ps), .un, .un, .un, .un, .un] = .ok (.lst (List.replicate n.toNat (.lst []))) := by
    have r := rng1_int (n := n) (by omega) (by omega)
    refine Eq.trans (eLc_ok (ds := intsD 0 n.toNat) (by simp (disch := first | omega | decide | (simp only [List.length_cons, List.length_nil, List.length_append, List.length_map, List.length_take, List.length_drop]; omega)) only [apC, apV, apVb, ap2, ap1, apB, apN, apX, aptB, aptV, apAnd, apOr, apNot, apeIf, apeAnd, apeOr, apeNot, apTup, apLst, apIt, apIts, apoN, apoS, apSl, ap3, apsN, apSeq, apSet, apOwn, apRet, apEx, apIf, apFrz, apT, apgN, apEnd, apLm, apGet2, apD1, apD2, apBV, wip_nx, wip_rt, wip_er, frz_fz, wipeF_cons, wipeF_nil, lstB_l, List.getElem?_cons_succ, List.getElem?_cons_zero, List.set_cons_succ, List.set_cons_zero, max2_i, min2_i, bindO, bindE, fdiv_s, mod_i, mul_s, mul_s', isi_ii, isi_ib, isi_it, isi_tt, isi_ll, isi_bb, len_l, len_t, len_s, it_l, it_t, mkL0, mkL1, mkL2, mkL3, mkL4, mkL5, mkL6, mkL7, mkL8, mkT0, mkT1, mkT2, mkT3, mkT4, mkT5, mkT6, mkT7, mkT8, add_i, sub_i, lt_i, le_i, gt_i, ge_i, eq_ib, ne_ib, decide_true, decide_false, tru_b, tru_i, tru_n, as_b, tru_l, tru_t, if_true, if_false, Bool.not_true, Bool.not_false, Bool.false_eq_true, list_l, list_t, tup_l, tup_t, endO_rt, endO_nx, endO_er, isNon_n, mkL9, mkL10, mkL11, mkL12, mkL13, mkL14, mkL15, mkL16, apsApp, appO_ok, appO_er, apsTup, tupO_2, tupO_3, negI, sl_t, cut_toD, cut_fromD, List.cons_append, List.nil_append, apRef, refO_ok, dro_fz, dro_un, dro_ow, dro_nil, ix0, r]) rfl (lc_map (fun _ => .lst []) fun d _ => ⟨_, rfl, rfl⟩)) ?_
    rw [List.map_const', ints_len]
  have s1 : sLcM 1 w_near_C1 [.fz (webD n ps), .un, .un, .un, .un, .un] = .nx [.fz (webD n ps), .om ((List.replicate n.toNat ([] : List Int)).map (·.map D.int)), .un, .un, .un, .un] := by
    unfold sLcM
    rw [sLet_ok c1]
    dsimp only
    rw [lsts_rep]
    rw [List.map_replicate]
    rfl
  have lp : w_near_L1 [.fz (webD n ps), .om ((List.replicate n.toNat ([] : List Int)).map (·.map D.int)), .un, .un, .un, .un] = .nx [.fz (webD n ps), .om ((nearR n ps).map (·.map D.int)), .un, .un, .un, .un] := by
    refine for_go (ds := ps.map tieD) (by simp (disch := first | omega | decide | (simp only [List.length_cons, List.length_nil, List.length_append, List.length_map, List.length_take, List.length_drop]; omega)) only [apC, apV, apVb, ap2, ap1, apB, apN, apX, aptB, aptV, apAnd, apOr, apNot, apeIf, apeAnd, apeOr, apeNot, apTup, apLst, apIt, apIts, apoN, apoS, apSl, ap3, apsN, apSeq, apSet, apOwn, apRet, apEx, apIf, apFrz, apT, apgN, apEnd, apLm, apGet2, apD1, apD2, apBV, wip_nx, wip_rt, wip_er, frz_fz, wipeF_cons, wipeF_nil, lstB_l, List.getElem?_cons_succ, List.getElem?_cons_zero, List.set_cons_succ, List.set_cons_zero, max2_i, min2_i, bindO, bindE, fdiv_s, mod_i, mul_s, mul_s', isi_ii, isi_ib, isi_it, isi_tt, isi_ll, isi_bb, len_l, len_t, len_s, it_l, it_t, mkL0, mkL1, mkL2, mkL3, mkL4, mkL5, mkL6, mkL7, mkL8, mkT0, mkT1, mkT2, mkT3, mkT4, mkT5, mkT6, mkT7, mkT8, add_i, sub_i, lt_i, le_i, gt_i, ge_i, eq_ib, ne_ib, decide_true, decide_false, tru_b, tru_i, tru_n, as_b, tru_l, tru_t, if_true, if_false, Bool.not_true, Bool.not_false, Bool.false_eq_true, list_l, list_t, tup_l, tup_t, endO_rt, endO_nx, endO_er, isNon_n, mkL9, mkL10, mkL11, mkL12, mkL13, mkL14, mkL15, mkL16, apsApp, appO_ok, appO_er, apsTup, tupO_2, tupO_3, negI, sl_t, cut_toD, cut_fromD, List.cons_append, List.nil_append, apRef, refO_ok, dro_fz, dro_un, dro_ow, dro_nil, ix1]) (near_loop (m := 0) (fun p hp => by rw [List.length_replicate]; have := w.ties p hp; omega) (fun i => ?_) (by omega))
    unfold rowL
    rw [List.getElem?_replicate]
    split <;> exact Nat.le_refl _
  have c2 : w_near_C2 [.fz (webD n ps), .fz (.lst (((nearR n ps).map (·.map D.int)).map D.lst)), .un, .un, .un, .un] = .ok (.lst ((nearL n ps).map fun r => .lst (r.map D.int))) := by
    refine Eq.trans (eLc_ok (ds := ((nearR n ps).map (·.map D.int)).map D.lst) rfl rfl (lc_map (fun d => match sortedD [d] with | .ok y => y | _ => .non) fun d hd => ?_)) ?_
    · obtain ⟨r, hr, rfl⟩ := List.mem_map.mp hd
      obtain ⟨ns, hn, rfl⟩ := List.mem_map.mp hr
      refine ⟨_, rfl, ?_⟩
      simp (disch := first | omega | decide | (simp only [List.length_cons, List.length_nil, List.length_append, List.length_map, List.length_take, List.length_drop]; omega)) only [apC, apV, apVb, ap2, ap1, apB, apN, apX, aptB, aptV, apAnd, apOr, apNot, apeIf, apeAnd, apeOr, apeNot, apTup, apLst, apIt, apIts, apoN, apoS, apSl, ap3, apsN, apSeq, apSet, apOwn, apRet, apEx, apIf, apFrz, apT, apgN, apEnd, apLm, apGet2, apD1, apD2, apBV, wip_nx, wip_rt, wip_er, frz_fz, wipeF_cons, wipeF_nil, lstB_l, List.getElem?_cons_succ, List.getElem?_cons_zero, List.set_cons_succ, List.set_cons_zero, max2_i, min2_i, bindO, bindE, fdiv_s, mod_i, mul_s, mul_s', isi_ii, isi_ib, isi_it, isi_tt, isi_ll, isi_bb, len_l, len_t, len_s, it_l, it_t, mkL0, mkL1, mkL2, mkL3, mkL4, mkL5, mkL6, mkL7, mkL8, mkT0, mkT1, mkT2, mkT3, mkT4, mkT5, mkT6, mkT7, mkT8, add_i, sub_i, lt_i, le_i, gt_i, ge_i, eq_ib, ne_ib, decide_true, decide_false, tru_b, tru_i, tru_n, as_b, tru_l, tru_t, if_true, if_false, Bool.not_true, Bool.not_false, Bool.false_eq_true, list_l, list_t, tup_l, tup_t, endO_rt, endO_nx, endO_er, isNon_n, mkL9, mkL10, mkL11, mkL12, mkL13, mkL14, mkL15, mkL16, apsApp, appO_ok, appO_er, apsTup, tupO_2, tupO_3, negI, sl_t, cut_toD, cut_fromD, List.cons_append, List.nil_append, apRef, refO_ok, dro_fz, dro_un, dro_ow, dro_nil, sorted_i]
    · unfold nearL
      rw [List.map_map, List.map_map, List.map_map]
      congr 2
      refine List.map_congr_left fun r _ => ?_
      show (match sortedD [.lst (r.map D.int)] with | .ok y => y | _ => D.non) = _
      rw [sorted_i]
      rfl
  have fz : frz 1 [.fz (webD n ps), .om ((nearR n ps).map (·.map D.int)), .un, .un, .un, .un] = [.fz (webD n ps), .fz (.lst (((nearR n ps).map (·.map D.int)).map D.lst)), .un, .un, .un, .un] := rfl
  rw [go_w_near]
  unfold w_near_S
  rw [seq_nx s1, seq_nx lp]
  show endO (sRet w_near_C2 (frz 1 _)) = _
  rw [fz]
  simp (disch := first | omega | decide | (simp only [List.length_cons, List.length_nil, List.length_append, List.length_map, List.length_take, List.length_drop]; omega)) only [apC, apV, apVb, ap2, ap1, apB, apN, apX, aptB, aptV, apAnd, apOr, apNot, apeIf, apeAnd, apeOr, apeNot, apTup, apLst, apIt, apIts, apoN, apoS, apSl, ap3, apsN, apSeq, apSet, apOwn, apRet, apEx, apIf, apFrz, apT, apgN, apEnd, apLm, apGet2, apD1, apD2, apBV, wip_nx, wip_rt, wip_er, frz_fz, wipeF_cons, wipeF_nil, lstB_l, List.getElem?_cons_succ, List.getElem?_cons_zero, List.set_cons_succ, List.set_cons_zero, max2_i, min2_i, bindO, bindE, fdiv_s, mod_i, mul_s, mul_s', isi_ii, isi_ib, isi_it, isi_tt, isi_ll, isi_bb, len_l, len_t, len_s, it_l, it_t, mkL0, mkL1, mkL2, mkL3, mkL4, mkL5, mkL6, mkL7, mkL8, mkT0, mkT1, mkT2, mkT3, mkT4, mkT5, mkT6, mkT7, mkT8, add_i, sub_i, lt_i, le_i, gt_i, ge_i, eq_ib, ne_ib, decide_true, decide_false, tru_b, tru_i, tru_n, as_b, tru_l, tru_t, if_true, if_false, Bool.not_true, Bool.not_false, Bool.false_eq_true, list_l, list_t, tup_l, tup_t, endO_rt, endO_nx, endO_er, isNon_n, mkL9, mkL10, mkL11, mkL12, mkL13, mkL14, mkL15, mkL16, apsApp, appO_ok, appO_er, apsTup, tupO_2, tupO_3, negI, sl_t, cut_toD, cut_fromD, List.cons_append, List.nil_append, apRef, refO_ok, dro_fz, dro_un, dro_ow, dro_nil, c2]
end PB

namespace PB
open PySem PySem.Spec PyProof.Rows L2 LamX
/-! ### S7: steps from a place -/
theorem while_do {St : Type} {t : Fr → R Bool} {b : Fr → O} (fr : St → Fr) (I : St → Prop) (μ : St → Nat)
    (h : ∀ s, I s → t (fr s) = .ok false ∨ (t (fr s) = .ok true ∧ ∃ s', b (fr s) = .nx (fr s') ∧ I s' ∧ μ s' < μ s)) {s : St} (h0 : I s) :
    ∃ s', sWhile t b (fr s) = .nx (fr s') ∧ I s' ∧ t (fr s') = .ok false := by
  have go : ∀ (m : Nat) (s : St), μ s ≤ m → I s → ∃ k s', whileN t b k (fr s) = .nx (fr s') ∧ I s' ∧ t (fr s') = .ok false := by
    intro m
    induction m with
    | zero =>
      intro s hm hi
      rcases h s hi with e | ⟨_, s', _, _, l⟩
      · exact ⟨1, s, by unfold whileN; rw [e]; rfl, hi, e⟩
      · omega
    | succ m ih =>
      intro s hm hi
      rcases h s hi with e | ⟨e, s', e2, i2, l⟩
      · exact ⟨1, s, by unfold whileN; rw [e]; rfl, hi, e⟩
      · obtain ⟨k, s2, q1, q2, q3⟩ := ih s' (by omega) i2
        refine ⟨k + 1, s2, ?_, q2, q3⟩
        unfold whileN
        rw [e, e2]
        exact q1
  obtain ⟨k, s', e, i, q⟩ := go (μ s) s (Nat.le_refl _) h0
  exact ⟨s', whileD_eq k e (fun x => by cases x), i, q⟩
theorem len_le : ∀ {n : Nat} {l : List Int}, l.Nodup → (∀ x ∈ l, 0 ≤ x ∧ x < n) → l.length ≤ n
  | 0, l, _, h => by
    cases l with
    | nil => exact Nat.le_refl _
    | cons a l => have := h a List.mem_cons_self; omega
  | n + 1, l, hn, h => by
    have := len_le (n := n) (l := l.erase (n : Int)) (hn.erase _) fun x hx => by
      have a := hn.mem_erase_iff.mp hx
      have := h x a.2
      have := a.1
      omega
    have := List.length_erase_le (a := (n : Int)) (l := l)
    have l2 : l.length ≤ (l.erase (n : Int)).length + 1 := by
      rw [List.length_erase]
      split <;> omega
    omega
/-- a dict of places and numbers -/
def kd (es : List (Int × Int)) : List (Key × D) := es.map fun e => (.inl e.1, .int e.2)
theorem kd_len {es : List (Int × Int)} : (kd es).length = es.length := List.length_map _
theorem val_kd {v : Int} : ∀ {es : List (Int × Int)}, valD (kd es) (.inl v) = (es.find? fun e => decide (e.1 = v)).map fun e => D.int e.2
  | [] => rfl
  | e :: es => by
    have ih := val_kd (v := v) (es := es)
    unfold valD at ih ⊢
    show ((((Sum.inl e.1 : Key), D.int e.2) :: kd es).find? _).map _ = _
    rw [List.find?_cons, List.find?_cons]
    by_cases h : e.1 = v
    · have h1 : decide ((Sum.inl e.1 : Key) = Sum.inl v) = true := decide_eq_true (by rw [h])
      dsimp only
      rw [h1, decide_eq_true h]
      rfl
    · have h1 : decide ((Sum.inl e.1 : Key) = Sum.inl v) = false := decide_eq_false fun e' => h (Sum.inl.inj e')
      dsimp only
      rw [h1, decide_eq_false h]
      exact ih
theorem find_of : ∀ {es : List (Int × Int)} {v d : Int}, (es.map (·.1)).Nodup → (v, d) ∈ es → es.find? (fun e => decide (e.1 = v)) = some (v, d)
  | e :: es, v, d, hn, h => by
    have hn := List.nodup_cons.mp hn
    rw [List.find?_cons]
    rcases List.mem_cons.mp h with rfl | h
    · rw [decide_eq_true rfl]
    · have : ¬ e.1 = v := fun q => hn.1 (List.mem_map.mpr ⟨_, h, q.symm⟩)
      rw [decide_eq_false this]
      exact find_of hn.2 h
theorem find_no {es : List (Int × Int)} {v : Int} (h : v ∉ es.map (·.1)) : es.find? (fun e => decide (e.1 = v)) = none := by
  rw [List.find?_eq_none]
  intro e he q
  exact h (List.mem_map.mpr ⟨e, he, of_decide_eq_true q⟩)
theorem val_at {es : List (Int × Int)} {v d : Int} (hn : (es.map (·.1)).Nodup) (h : (v, d) ∈ es) : valD (kd es) (.inl v) = some (.int d) := by
  rw [val_kd, find_of hn h]; rfl
theorem val_no {es : List (Int × Int)} {v : Int} (h : v ∉ es.map (·.1)) : valD (kd es) (.inl v) = none := by
  rw [val_kd, find_no h]; rfl
theorem ix_kd {es : List (Int × Int)} {v d : Int} (hn : (es.map (·.1)).Nodup) (h : (v, d) ∈ es) : ixD (.dk (kd es)) (.int v) = .ok (.int d) := by
  show (match valD (kd es) (.inl v) with | some d => R.ok d | none => .stuck) = _
  rw [val_at hn h]
theorem notin_kd {es : List (Int × Int)} {v : Int} : notInD (.int v) (.dk (kd es)) = .ok (.bl (!decide (v ∈ es.map (·.1)))) := by
  show ((R.ok (D.bl (valD (kd es) (.inl v)).isSome)).bind notB) = _
  by_cases h : v ∈ es.map (·.1)
  · obtain ⟨e, he, rfl⟩ := List.mem_map.mp h
    have : (valD (kd es) (.inl e.1)).isSome = true := by
      rw [val_kd]
      cases q : es.find? fun x => decide (x.1 = e.1) with
      | some x => rfl
      | none => exact absurd (decide_eq_true rfl) (List.find?_eq_none.mp q e he)
    rw [this, decide_eq_true h]
    rfl
  · rw [val_no h, decide_eq_false h]
    rfl
theorem put_kd {es : List (Int × Int)} {v d : Int} (h : v ∉ es.map (·.1)) : putD (kd es) (.inl v) (.int d) = kd (es ++ [(v, d)]) := by
  unfold putD
  rw [if_neg fun q => by
    obtain ⟨x, hx, e⟩ := List.any_eq_true.mp q
    obtain ⟨y, hy, rfl⟩ := List.mem_map.mp hx
    exact h (List.mem_map.mpr ⟨y, hy, Sum.inl.inj (of_decide_eq_true e)⟩)]
  unfold kd
  rw [List.map_append]
  rfl
theorem setK_new {i : Nat} {a f : Fr → R D} {ρ : Fr} {es : List (Int × Int)} {v d : Int} (h1 : f ρ = .ok (.int d)) (h2 : ρ[i]? = some (.ow (.dk (kd es)))) (h3 : a ρ = .ok (.int v)) (hn : v ∉ es.map (·.1)) (hl : es.length < 2 ^ 20) : sSetK i a f ρ = .nx (ρ.set i (.ow (.dk (kd (es ++ [(v, d)]))))) := by
  have g : getK i ρ = .ok (kd es) := by unfold getK; rw [h2]
  unfold sSetK
  rw [sLet_ok h1, sLet_ok g, sLet_ok h3]
  show (if (kd es).length < sizeLine then O.nx (ρ.set i (.ow (.dk (putD (kd es) (.inl v) (.int d))))) else .stuck) = _
  rw [if_pos (by rw [kd_len]; exact Nat.lt_of_lt_of_le hl (Nat.le_trans (by decide) szl)), put_kd hn]
theorem len_kd {es : List (Int × Int)} : lenD [.dk (kd es)] = .ok (.int es.length) := by
  show R.ok (D.int ((kd es).length : Int)) = _
  rw [kd_len]
/-- the places found from one -/
def scan (d : Int) (es : List (Int × Int)) (vs : List Int) : List (Int × Int) := vs.foldl (fun es v => if v ∈ es.map (·.1) then es else es ++ [(v, d + 1)]) es
theorem scan_cons {d : Int} {es : List (Int × Int)} {v : Int} {vs : List Int} : scan d es (v :: vs) = scan d (if v ∈ es.map (·.1) then es else es ++ [(v, d + 1)]) vs := rfl
theorem scan_spec {d : Int} : ∀ {vs : List Int} {es : List (Int × Int)}, (es.map (·.1)).Nodup → ∃ l, scan d es vs = es ++ l ∧ (∀ x ∈ l, x.2 = d + 1 ∧ x.1 ∈ vs) ∧ ((es ++ l).map (·.1)).Nodup ∧ ∀ v ∈ vs, v ∈ (es ++ l).map (·.1)
  | [], es, hn => ⟨[], by rw [List.append_nil]; rfl, fun x hx => (by cases hx), by rwa [List.append_nil], fun x hx => (by cases hx)⟩
  | v :: vs, es, hn => by
    rw [scan_cons]
    by_cases h : v ∈ es.map (·.1)
    · rw [if_pos h]
      obtain ⟨l, e, a, b, c⟩ := scan_spec (d := d) (vs := vs) hn
      refine ⟨l, e, fun x hx => ⟨(a x hx).1, List.mem_cons_of_mem _ (a x hx).2⟩, b, fun y hy => ?_⟩
      rcases List.mem_cons.mp hy with rfl | hy
      · rw [List.map_append]; exact List.mem_append_left _ h
      · exact c y hy
    · rw [if_neg h]
      have hn2 : ((es ++ [(v, d + 1)]).map (·.1)).Nodup := by
        rw [List.map_append]
        refine List.nodup_append.mpr ⟨hn, by simp, fun a ha b hb => ?_⟩
        rw [List.mem_singleton.mp hb]
        exact fun q => h (by have q : a = v := q; rw [← q]; exact ha)
      obtain ⟨l, e, a, b, c⟩ := scan_spec (d := d) (vs := vs) hn2
      refine ⟨(v, d + 1) :: l, ?_, fun x hx => ?_, ?_, fun y hy => ?_⟩
      · rw [e, List.append_assoc]; rfl
      · rcases List.mem_cons.mp hx with rfl | hx
        · exact ⟨rfl, List.mem_cons_self⟩
        · exact ⟨(a x hx).1, List.mem_cons_of_mem _ (a x hx).2⟩
      · rw [List.append_assoc] at b
        exact b
      · rw [List.append_assoc] at c
        rcases List.mem_cons.mp hy with rfl | hy
        · rw [List.map_append]
          exact List.mem_append_right _ List.mem_cons_self
        · exact c y hy
/-- how far the places are from p -/
structure Dist (n : Int) (ps : List (Int × Int)) (p : Int) (es : List (Int × Int)) : Prop where
  nd : (es.map (·.1)).Nodup
  start : (p, 0) ∈ es
  rng : ∀ e ∈ es, (0 ≤ e.1 ∧ e.1 < n) ∧ 0 ≤ e.2
  step : ∀ u d v, (u, d) ∈ es → Adj ps u v → ∃ d', (v, d') ∈ es ∧ d' ≤ d + 1
  pred : ∀ e ∈ es, e = (p, 0) ∨ ∃ u, Adj ps u e.1 ∧ (u, e.2 - 1) ∈ es
structure Walk (n : Int) (ps : List (Int × Int)) (p : Int) (s : Nat × List (Int × Int)) : Prop where
  le : s.1 ≤ s.2.length
  nd : (s.2.map (·.1)).Nodup
  start : s.2[0]? = some (p, 0)
  rng : ∀ e ∈ s.2, (0 ≤ e.1 ∧ e.1 < n) ∧ 0 ≤ e.2
  mono : s.2.Pairwise fun a b => a.2 ≤ b.2
  bound : ∀ u d, s.2[s.1]? = some (u, d) → ∀ e ∈ s.2, e.2 ≤ d + 1
  step : ∀ k u d v, k < s.1 → s.2[k]? = some (u, d) → Adj ps u v → ∃ d', (v, d') ∈ s.2 ∧ d' ≤ d + 1
  pred : ∀ e ∈ s.2, e = (p, 0) ∨ ∃ u, Adj ps u e.1 ∧ (u, e.2 - 1) ∈ s.2
theorem Walk.len {n : Int} {ps : List (Int × Int)} {p : Int} {s : Nat × List (Int × Int)} (w : Walk n ps p s) : s.2.length ≤ n.toNat := by
  have := len_le (n := n.toNat) (l := s.2.map (·.1)) w.nd fun x hx => by
    obtain ⟨e, he, rfl⟩ := List.mem_map.mp hx
    have := (w.rng e he).1
    omega
  rwa [List.length_map] at this
theorem Walk.next {n : Int} {ps : List (Int × Int)} {p : Int} {a : Nat} {es : List (Int × Int)} (w : Walk n ps p (a, es)) (W : WebOk n ps) {u d : Int} (hu : es[a]? = some (u, d)) {vs : List Int} (hv : ∀ v, v ∈ vs ↔ Adj ps u v) : Walk n ps p (a + 1, scan d es vs) := by
  obtain ⟨l, e, q1, q2, q3⟩ := scan_spec (d := d) (vs := vs) w.nd
  have hum : (u, d) ∈ es := List.mem_of_getElem? hu
  have ha : a < es.length := (List.getElem?_eq_some_iff.mp hu).1
  have hd := (w.rng _ hum).2
  have bd : ∀ x ∈ es ++ l, x.2 ≤ d + 1 := fun x hx => by
    rcases List.mem_append.mp hx with hx | hx
    · exact w.bound u d hu x hx
    · rw [(q1 x hx).1]; exact Int.le_refl _
  have mn : (es ++ l).Pairwise fun a b => a.2 ≤ b.2 := by
    refine List.pairwise_append.mpr ⟨w.mono, ?_, fun x hx y hy => by rw [(q1 y hy).1]; exact w.bound u d hu x hx⟩
    refine List.Pairwise.imp_of_mem (R := fun _ _ => True) (fun {x y} hx hy _ => ?_) (List.pairwise_of_forall (fun _ _ => trivial))
    rw [(q1 x hx).1, (q1 y hy).1]
    exact Int.le_refl _
  rw [e]
  refine ⟨by dsimp only; rw [List.length_append]; omega, q2, ?_, fun x hx => ?_, mn, fun u' d' h' x hx => ?_, fun k u' d' v hk h' hadj => ?_, fun x hx => ?_⟩
  · dsimp only
    rw [List.getElem?_append_left (by omega)]
    exact w.start
  · rcases List.mem_append.mp hx with hx | hx
    · exact w.rng x hx
    · have := W.adj ((hv x.1).mp (q1 x hx).2)
      exact ⟨this.2.1, by rw [(q1 x hx).1]; omega⟩
  · have h1 := bd x hx
    have hlt : a + 1 < (es ++ l).length := (List.getElem?_eq_some_iff.mp h').1
    have h2 := (List.pairwise_iff_getElem.mp mn) a (a + 1) (by omega) hlt (by omega)
    have e1 : (es ++ l)[a]'(by omega) = (u, d) := by
      have : (es ++ l)[a]? = some (u, d) := by rw [List.getElem?_append_left ha]; exact hu
      exact (List.getElem?_eq_some_iff.mp this).2
    have e2 : (es ++ l)[a + 1]'hlt = (u', d') := (List.getElem?_eq_some_iff.mp h').2
    rw [e1, e2] at h2
    dsimp only at h2
    omega
  · dsimp only at hk h' ⊢
    have hk2 : k < es.length := by omega
    rw [List.getElem?_append_left hk2] at h'
    by_cases hka : k = a
    · subst hka
      rw [hu] at h'
      cases h'
      obtain ⟨y, hy, rfl⟩ := List.mem_map.mp (q3 v ((hv v).mpr hadj))
      exact ⟨y.2, hy, bd y hy⟩
    · obtain ⟨d2, m, b⟩ := w.step k u' d' v (show k < a by omega) h' hadj
      exact ⟨d2, List.mem_append_left _ m, b⟩
  · rcases List.mem_append.mp hx with hx | hx
    · rcases w.pred x hx with h | ⟨y, h1, h2⟩
      · exact .inl h
      · exact .inr ⟨y, h1, List.mem_append_left _ h2⟩
    · refine .inr ⟨u, (hv x.1).mp (q1 x hx).2, List.mem_append_left _ ?_⟩
      rw [(q1 x hx).1, show d + 1 - 1 = d by omega]
      exact hum
theorem Walk.dist {n : Int} {ps : List (Int × Int)} {p : Int} {es : List (Int × Int)} (w : Walk n ps p (es.length, es)) : Dist n ps p es := by
  refine ⟨w.nd, List.mem_of_getElem? w.start, w.rng, fun u d v hm ha => ?_, w.pred⟩
  obtain ⟨k, hk, e⟩ := List.getElem_of_mem hm
  exact w.step k u d v hk (by rw [List.getElem?_eq_getElem hk, e]) ha
theorem steps_inner {x0 x1 x2 : D} {a : Nat} {u d n : Int} (hn : n ≤ 40) : ∀ {vs : List Int} {es : List (Int × Int)}, es[a]? = some (u, d) → (es.map (·.1)).Nodup → (∀ e ∈ es, 0 ≤ e.1 ∧ e.1 < n) → (∀ v ∈ vs, 0 ≤ v ∧ v < n) →
    forD (gN 6) w_steps_from_B1 (vs.map D.int) [.fz x0, .fz x1, .fz x2, .ow (.dk (kd es)), .ow (.lst ((es.map (·.1)).map D.int)), .fz (.int (a : Int)), .un] = .nx [.fz x0, .fz x1, .fz x2, .ow (.dk (kd (scan d es vs))), .ow (.lst (((scan d es vs).map (·.1)).map D.int)), .fz (.int (a : Int)), .un]
  | [], es, _, _, _, _ => rfl
  | v :: vs, es, hu, hnd, hr, hv => by
    have hlen : es.length ≤ 40 := by
      have := len_le (n := 40) (l := es.map (·.1)) hnd fun x hx => by
        obtain ⟨e, he, rfl⟩ := List.mem_map.mp hx
        have := hr e he
        omega
      rwa [List.length_map] at this
    have ha : a < es.length := (List.getElem?_eq_some_iff.mp hu).1
    have hum : (u, d) ∈ es := List.mem_of_getElem? hu
    rw [List.map_cons, forD_cons (ρ1 := [.fz x0, .fz x1, .fz x2, .ow (.dk (kd es)), .ow (.lst ((es.map (·.1)).map D.int)), .fz (.int (a : Int)), .fz (.int v)]) rfl, scan_cons]
    by_cases h : v ∈ es.map (·.1)
    · have ni := notin_kd (es := es) (v := v)
      rw [decide_eq_true h] at ni
      have b : w_steps_from_B1 [.fz x0, .fz x1, .fz x2, .ow (.dk (kd es)), .ow (.lst ((es.map (·.1)).map D.int)), .fz (.int (a : Int)), .fz (.int v)] = .nx [.fz x0, .fz x1, .fz x2, .ow (.dk (kd es)), .ow (.lst ((es.map (·.1)).map D.int)), .fz (.int (a : Int)), .un] := by
        unfold w_steps_from_B1
        simp (disch := first | omega | decide | (simp only [List.length_cons, List.length_nil, List.length_append, List.length_map, List.length_take, List.length_drop]; omega)) only [apC, apV, apVb, ap2, ap1, apB, apN, apX, aptB, aptV, apAnd, apOr, apNot, apeIf, apeAnd, apeOr, apeNot, apTup, apLst, apIt, apIts, apoN, apoS, apSl, ap3, apsN, apSeq, apSet, apOwn, apRet, apEx, apIf, apFrz, apT, apgN, apEnd, apLm, apGet2, apD1, apD2, apBV, wip_nx, wip_rt, wip_er, frz_fz, wipeF_cons, wipeF_nil, lstB_l, List.getElem?_cons_succ, List.getElem?_cons_zero, List.set_cons_succ, List.set_cons_zero, max2_i, min2_i, bindO, bindE, fdiv_s, mod_i, mul_s, mul_s', isi_ii, isi_ib, isi_it, isi_tt, isi_ll, isi_bb, len_l, len_t, len_s, it_l, it_t, mkL0, mkL1, mkL2, mkL3, mkL4, mkL5, mkL6, mkL7, mkL8, mkT0, mkT1, mkT2, mkT3, mkT4, mkT5, mkT6, mkT7, mkT8, add_i, sub_i, lt_i, le_i, gt_i, ge_i, eq_ib, ne_ib, decide_true, decide_false, tru_b, tru_i, tru_n, as_b, tru_l, tru_t, if_true, if_false, Bool.not_true, Bool.not_false, Bool.false_eq_true, list_l, list_t, tup_l, tup_t, endO_rt, endO_nx, endO_er, isNon_n, mkL9, mkL10, mkL11, mkL12, mkL13, mkL14, mkL15, mkL16, apsApp, appO_ok, appO_er, apsTup, tupO_2, tupO_3, negI, sl_t, cut_toD, cut_fromD, List.cons_append, List.nil_append, apRef, refO_ok, dro_fz, dro_un, dro_ow, dro_nil, ni]
      rw [b, if_pos h]
      exact steps_inner hn hu hnd hr fun y hy => hv y (List.mem_cons_of_mem _ hy)
    · have ni := notin_kd (es := es) (v := v)
      rw [decide_eq_false h] at ni
      have ix : ixD (.lst ((es.map (·.1)).map D.int)) (.int (a : Int)) = .ok (.int u) := by
        rw [ix_li (by rw [List.length_map]; exact ha)]
        congr 2
        rw [List.getElem_map]
        rw [(List.getElem?_eq_some_iff.mp hu).2]
      have b : w_steps_from_B1 [.fz x0, .fz x1, .fz x2, .ow (.dk (kd es)), .ow (.lst ((es.map (·.1)).map D.int)), .fz (.int (a : Int)), .fz (.int v)] = .nx [.fz x0, .fz x1, .fz x2, .ow (.dk (kd (es ++ [(v, d + 1)]))), .ow (.lst (((es ++ [(v, d + 1)]).map (·.1)).map D.int)), .fz (.int (a : Int)), .un] := by
        have sk := setK_new (i := 3) (a := eVb 6) (f := e2 addD (e2 ixD (eVb 3) (e2 ixD (eVb 4) (eVb 5))) (eC (.int 1))) (ρ := [.fz x0, .fz x1, .fz x2, .ow (.dk (kd es)), .ow (.lst ((es.map (·.1)).map D.int)), .fz (.int (a : Int)), .fz (.int v)]) (es := es) (v := v) (d := d + 1) (by simp (disch := first | omega | decide | (simp only [List.length_cons, List.length_nil, List.length_append, List.length_map, List.length_take, List.length_drop]; omega)) only [apC, apV, apVb, ap2, ap1, apB, apN, apX, aptB, aptV, apAnd, apOr, apNot, apeIf, apeAnd, apeOr, apeNot, apTup, apLst, apIt, apIts, apoN, apoS, apSl, ap3, apsN, apSeq, apSet, apOwn, apRet, apEx, apIf, apFrz, apT, apgN, apEnd, apLm, apGet2, apD1, apD2, apBV, wip_nx, wip_rt, wip_er, frz_fz, wipeF_cons, wipeF_nil, lstB_l, List.getElem?_cons_succ, List.getElem?_cons_zero, List.set_cons_succ, List.set_cons_zero, max2_i, min2_i, bindO, bindE, fdiv_s, mod_i, mul_s, mul_s', isi_ii, isi_ib, isi_it, isi_tt, isi_ll, isi_bb, len_l, len_t, len_s, it_l, it_t, mkL0, mkL1, mkL2, mkL3, mkL4, mkL5, mkL6, mkL7, mkL8, mkT0, mkT1, mkT2, mkT3, mkT4, mkT5, mkT6, mkT7, mkT8, add_i, sub_i, lt_i, le_i, gt_i, ge_i, eq_ib, ne_ib, decide_true, decide_false, tru_b, tru_i, tru_n, as_b, tru_l, tru_t, if_true, if_false, Bool.not_true, Bool.not_false, Bool.false_eq_true, list_l, list_t, tup_l, tup_t, endO_rt, endO_nx, endO_er, isNon_n, mkL9, mkL10, mkL11, mkL12, mkL13, mkL14, mkL15, mkL16, apsApp, appO_ok, appO_er, apsTup, tupO_2, tupO_3, negI, sl_t, cut_toD, cut_fromD, List.cons_append, List.nil_append, apRef, refO_ok, dro_fz, dro_un, dro_ow, dro_nil, ix, ix_kd hnd hum]) rfl rfl h (by omega)
        unfold w_steps_from_B1
        simp (disch := first | omega | decide | (simp only [List.length_cons, List.length_nil, List.length_append, List.length_map, List.length_take, List.length_drop]; omega)) only [apC, apV, apVb, ap2, ap1, apB, apN, apX, aptB, aptV, apAnd, apOr, apNot, apeIf, apeAnd, apeOr, apeNot, apTup, apLst, apIt, apIts, apoN, apoS, apSl, ap3, apsN, apSeq, apSet, apOwn, apRet, apEx, apIf, apFrz, apT, apgN, apEnd, apLm, apGet2, apD1, apD2, apBV, wip_nx, wip_rt, wip_er, frz_fz, wipeF_cons, wipeF_nil, lstB_l, List.getElem?_cons_succ, List.getElem?_cons_zero, List.set_cons_succ, List.set_cons_zero, max2_i, min2_i, bindO, bindE, fdiv_s, mod_i, mul_s, mul_s', isi_ii, isi_ib, isi_it, isi_tt, isi_ll, isi_bb, len_l, len_t, len_s, it_l, it_t, mkL0, mkL1, mkL2, mkL3, mkL4, mkL5, mkL6, mkL7, mkL8, mkT0, mkT1, mkT2, mkT3, mkT4, mkT5, mkT6, mkT7, mkT8, add_i, sub_i, lt_i, le_i, gt_i, ge_i, eq_ib, ne_ib, decide_true, decide_false, tru_b, tru_i, tru_n, as_b, tru_l, tru_t, if_true, if_false, Bool.not_true, Bool.not_false, Bool.false_eq_true, list_l, list_t, tup_l, tup_t, endO_rt, endO_nx, endO_er, isNon_n, mkL9, mkL10, mkL11, mkL12, mkL13, mkL14, mkL15, mkL16, apsApp, appO_ok, appO_er, apsTup, tupO_2, tupO_3, negI, sl_t, cut_toD, cut_fromD, List.cons_append, List.nil_append, apRef, refO_ok, dro_fz, dro_un, dro_ow, dro_nil, ni, sk]
        rw [List.map_append, List.map_append]
        rfl
      rw [b, if_neg h]
      refine steps_inner hn (by rw [List.getElem?_append_left ha]; exact hu) ?_ (fun e he => ?_) fun y hy => hv y (List.mem_cons_of_mem _ hy)
      · rw [List.map_append]
        refine List.nodup_append.mpr ⟨hnd, by simp, fun x hx y hy => ?_⟩
        rw [List.mem_singleton.mp hy]
        exact fun q => h (by have q : x = v := q; rw [← q]; exact hx)
      · rcases List.mem_append.mp he with he | he
        · exact hr e he
        · rw [List.mem_singleton.mp he]
          exact hv v List.mem_cons_self
theorem mkD1_i {i : Int} {d : D} : mkD1 (.int i) d = .ok (.dk [(.inl i, d)]) := rfl
theorem steps_ok {n : Int} {ps : List (Int × Int)} (W : WebOk n ps) {p : Int} (hp : 0 ≤ p ∧ p < n) : ∃ es, w_steps_from [webD n ps, .int p] = .ok (.dk (kd es)) ∧ Dist n ps p es := by
  have lo := W.lo
  have hi := W.hi
  have fr0 : Walk n ps p (0, [(p, 0)]) := ⟨Nat.zero_le _, by simp, rfl, fun e he => by rw [List.mem_singleton.mp he]; exact ⟨hp, Int.le_refl _⟩, by simp, fun u d h e he => by
    cases h
    rw [List.mem_singleton.mp he]
    show (0 : Int) ≤ 0 + 1
    decide, fun k u d v hk => absurd hk (Nat.not_lt_zero _), fun e he => .inl (List.mem_singleton.mp he)⟩
  obtain ⟨⟨a, es⟩, e1, w, e2⟩ := while_do (t := w_steps_from_T1) (b := w_steps_from_B2)
    (fun s : Nat × List (Int × Int) => [.fz (webD n ps), .fz (.int p), .fz (.lst ((nearL n ps).map fun r => .lst (r.map D.int))), .ow (.dk (kd s.2)), .ow (.lst ((s.2.map (·.1)).map D.int)), .fz (.int (s.1 : Int)), .un])
    (Walk n ps p) (fun s => n.toNat - s.1) (fun ⟨a, es⟩ w => by
      have hlen := w.len
      have hle := w.le
      dsimp only at hlen hle
      have t : w_steps_from_T1 [.fz (webD n ps), .fz (.int p), .fz (.lst ((nearL n ps).map fun r => .lst (r.map D.int))), .ow (.dk (kd es)), .ow (.lst ((es.map (·.1)).map D.int)), .fz (.int (a : Int)), .un] = .ok (decide ((a : Int) < es.length)) := by
        unfold w_steps_from_T1
        simp (disch := first | omega | decide | (simp only [List.length_cons, List.length_nil, List.length_append, List.length_map, List.length_take, List.length_drop]; omega)) only [apC, apV, apVb, ap2, ap1, apB, apN, apX, aptB, aptV, apAnd, apOr, apNot, apeIf, apeAnd, apeOr, apeNot, apTup, apLst, apIt, apIts, apoN, apoS, apSl, ap3, apsN, apSeq, apSet, apOwn, apRet, apEx, apIf, apFrz, apT, apgN, apEnd, apLm, apGet2, apD1, apD2, apBV, wip_nx, wip_rt, wip_er, frz_fz, wipeF_cons, wipeF_nil, lstB_l, List.getElem?_cons_succ, List.getElem?_cons_zero, List.set_cons_succ, List.set_cons_zero, max2_i, min2_i, bindO, bindE, fdiv_s, mod_i, mul_s, mul_s', isi_ii, isi_ib, isi_it, isi_tt, isi_ll, isi_bb, len_l, len_t, len_s, it_l, it_t, mkL0, mkL1, mkL2, mkL3, mkL4, mkL5, mkL6, mkL7, mkL8, mkT0, mkT1, mkT2, mkT3, mkT4, mkT5, mkT6, mkT7, mkT8, add_i, sub_i, lt_i, le_i, gt_i, ge_i, eq_ib, ne_ib, decide_true, decide_false, tru_b, tru_i, tru_n, as_b, tru_l, tru_t, if_true, if_false, Bool.not_true, Bool.not_false, Bool.false_eq_true, list_l, list_t, tup_l, tup_t, endO_rt, endO_nx, endO_er, isNon_n, mkL9, mkL10, mkL11, mkL12, mkL13, mkL14, mkL15, mkL16, apsApp, appO_ok, appO_er, apsTup, tupO_2, tupO_3, negI, sl_t, cut_toD, cut_fromD, List.cons_append, List.nil_append, apRef, refO_ok, dro_fz, dro_un, dro_ow, dro_nil, List.length_map]
      by_cases h : a < es.length
      · rw [decide_eq_true (show (a : Int) < es.length by omega)] at t
        refine .inr ⟨t, ?_⟩
        obtain ⟨u, d, hu⟩ : ∃ u d, es[a]? = some (u, d) := ⟨es[a].1, es[a].2, List.getElem?_eq_getElem h⟩
        have hum : (u, d) ∈ es := List.mem_of_getElem? hu
        have hur := (w.rng _ hum).1
        dsimp only at hur
        have hk : u.toNat < (nearL n ps).length := by rw [nearL_len]; omega
        have ix : ixD (.lst ((es.map (·.1)).map D.int)) (.int (a : Int)) = .ok (.int u) := by
          rw [ix_li (by rw [List.length_map]; exact h)]
          congr 2
          rw [List.getElem_map]
          rw [(List.getElem?_eq_some_iff.mp hu).2]
        have ix2 : ixD (.lst ((nearL n ps).map fun r => .lst (r.map D.int))) (.int u) = .ok (.lst ((rowL (nearL n ps) u.toNat).map D.int)) := by
          have := ix_l (xs := (nearL n ps).map fun r => D.lst (r.map D.int)) (k := u.toNat) (by rw [List.length_map]; exact hk)
          rw [show ((u.toNat : Nat) : Int) = u by omega, List.getElem_map, ← rowL_get hk] at this
          exact this
        have hv : ∀ v, v ∈ rowL (nearL n ps) u.toNat ↔ Adj ps u v := fun v => by
          have := nearL_mem W (i := u.toNat) (v := v)
          rwa [show ((u.toNat : Nat) : Int) = u by omega] at this
        refine ⟨(a + 1, scan d es (rowL (nearL n ps) u.toNat)), ?_, w.next W hu hv, by dsimp only; omega⟩
        have lp : w_steps_from_L1 [.fz (webD n ps), .fz (.int p), .fz (.lst ((nearL n ps).map fun r => .lst (r.map D.int))), .ow (.dk (kd es)), .ow (.lst ((es.map (·.1)).map D.int)), .fz (.int (a : Int)), .un] = .nx [.fz (webD n ps), .fz (.int p), .fz (.lst ((nearL n ps).map fun r => .lst (r.map D.int))), .ow (.dk (kd (scan d es (rowL (nearL n ps) u.toNat)))), .ow (.lst (((scan d es (rowL (nearL n ps) u.toNat)).map (·.1)).map D.int)), .fz (.int (a : Int)), .un] :=
          for_go (ds := (rowL (nearL n ps) u.toNat).map D.int) (by simp (disch := first | omega | decide | (simp only [List.length_cons, List.length_nil, List.length_append, List.length_map, List.length_take, List.length_drop]; omega)) only [apC, apV, apVb, ap2, ap1, apB, apN, apX, aptB, aptV, apAnd, apOr, apNot, apeIf, apeAnd, apeOr, apeNot, apTup, apLst, apIt, apIts, apoN, apoS, apSl, ap3, apsN, apSeq, apSet, apOwn, apRet, apEx, apIf, apFrz, apT, apgN, apEnd, apLm, apGet2, apD1, apD2, apBV, wip_nx, wip_rt, wip_er, frz_fz, wipeF_cons, wipeF_nil, lstB_l, List.getElem?_cons_succ, List.getElem?_cons_zero, List.set_cons_succ, List.set_cons_zero, max2_i, min2_i, bindO, bindE, fdiv_s, mod_i, mul_s, mul_s', isi_ii, isi_ib, isi_it, isi_tt, isi_ll, isi_bb, len_l, len_t, len_s, it_l, it_t, mkL0, mkL1, mkL2, mkL3, mkL4, mkL5, mkL6, mkL7, mkL8, mkT0, mkT1, mkT2, mkT3, mkT4, mkT5, mkT6, mkT7, mkT8, add_i, sub_i, lt_i, le_i, gt_i, ge_i, eq_ib, ne_ib, decide_true, decide_false, tru_b, tru_i, tru_n, as_b, tru_l, tru_t, if_true, if_false, Bool.not_true, Bool.not_false, Bool.false_eq_true, list_l, list_t, tup_l, tup_t, endO_rt, endO_nx, endO_er, isNon_n, mkL9, mkL10, mkL11, mkL12, mkL13, mkL14, mkL15, mkL16, apsApp, appO_ok, appO_er, apsTup, tupO_2, tupO_3, negI, sl_t, cut_toD, cut_fromD, List.cons_append, List.nil_append, apRef, refO_ok, dro_fz, dro_un, dro_ow, dro_nil, ix, ix2]) (steps_inner hi hu w.nd (fun e he => (w.rng e he).1) fun v hv' => (W.adj ((hv v).mp hv')).2.1)
        unfold w_steps_from_B2
        simp (disch := first | omega | decide | (simp only [List.length_cons, List.length_nil, List.length_append, List.length_map, List.length_take, List.length_drop]; omega)) only [apC, apV, apVb, ap2, ap1, apB, apN, apX, aptB, aptV, apAnd, apOr, apNot, apeIf, apeAnd, apeOr, apeNot, apTup, apLst, apIt, apIts, apoN, apoS, apSl, ap3, apsN, apSeq, apSet, apOwn, apRet, apEx, apIf, apFrz, apT, apgN, apEnd, apLm, apGet2, apD1, apD2, apBV, wip_nx, wip_rt, wip_er, frz_fz, wipeF_cons, wipeF_nil, lstB_l, List.getElem?_cons_succ, List.getElem?_cons_zero, List.set_cons_succ, List.set_cons_zero, max2_i, min2_i, bindO, bindE, fdiv_s, mod_i, mul_s, mul_s', isi_ii, isi_ib, isi_it, isi_tt, isi_ll, isi_bb, len_l, len_t, len_s, it_l, it_t, mkL0, mkL1, mkL2, mkL3, mkL4, mkL5, mkL6, mkL7, mkL8, mkT0, mkT1, mkT2, mkT3, mkT4, mkT5, mkT6, mkT7, mkT8, add_i, sub_i, lt_i, le_i, gt_i, ge_i, eq_ib, ne_ib, decide_true, decide_false, tru_b, tru_i, tru_n, as_b, tru_l, tru_t, if_true, if_false, Bool.not_true, Bool.not_false, Bool.false_eq_true, list_l, list_t, tup_l, tup_t, endO_rt, endO_nx, endO_er, isNon_n, mkL9, mkL10, mkL11, mkL12, mkL13, mkL14, mkL15, mkL16, apsApp, appO_ok, appO_er, apsTup, tupO_2, tupO_3, negI, sl_t, cut_toD, cut_fromD, List.cons_append, List.nil_append, apRef, refO_ok, dro_fz, dro_un, dro_ow, dro_nil, lp]
        rfl
      · rw [decide_eq_false (show ¬ (a : Int) < es.length by omega)] at t
        exact .inl t) (s := (0, [(p, 0)])) fr0
  have ha : a = es.length := by
    have hle := w.le
    dsimp only at hle e2
    have t : w_steps_from_T1 [.fz (webD n ps), .fz (.int p), .fz (.lst ((nearL n ps).map fun r => .lst (r.map D.int))), .ow (.dk (kd es)), .ow (.lst ((es.map (·.1)).map D.int)), .fz (.int (a : Int)), .un] = .ok (decide ((a : Int) < es.length)) := by
      unfold w_steps_from_T1
      simp (disch := first | omega | decide | (simp only [List.length_cons, List.length_nil, List.length_append, List.length_map, List.length_take, List.length_drop]; omega)) only [apC, apV, apVb, ap2, ap1, apB, apN, apX, aptB, aptV, apAnd, apOr, apNot, apeIf, apeAnd, apeOr, apeNot, apTup, apLst, apIt, apIts, apoN, apoS, apSl, ap3, apsN, apSeq, apSet, apOwn, apRet, apEx, apIf, apFrz, apT, apgN, apEnd, apLm, apGet2, apD1, apD2, apBV, wip_nx, wip_rt, wip_er, frz_fz, wipeF_cons, wipeF_nil, lstB_l, List.getElem?_cons_succ, List.getElem?_cons_zero, List.set_cons_succ, List.set_cons_zero, max2_i, min2_i, bindO, bindE, fdiv_s, mod_i, mul_s, mul_s', isi_ii, isi_ib, isi_it, isi_tt, isi_ll, isi_bb, len_l, len_t, len_s, it_l, it_t, mkL0, mkL1, mkL2, mkL3, mkL4, mkL5, mkL6, mkL7, mkL8, mkT0, mkT1, mkT2, mkT3, mkT4, mkT5, mkT6, mkT7, mkT8, add_i, sub_i, lt_i, le_i, gt_i, ge_i, eq_ib, ne_ib, decide_true, decide_false, tru_b, tru_i, tru_n, as_b, tru_l, tru_t, if_true, if_false, Bool.not_true, Bool.not_false, Bool.false_eq_true, list_l, list_t, tup_l, tup_t, endO_rt, endO_nx, endO_er, isNon_n, mkL9, mkL10, mkL11, mkL12, mkL13, mkL14, mkL15, mkL16, apsApp, appO_ok, appO_er, apsTup, tupO_2, tupO_3, negI, sl_t, cut_toD, cut_fromD, List.cons_append, List.nil_append, apRef, refO_ok, dro_fz, dro_un, dro_ow, dro_nil, List.length_map]
    rw [t] at e2
    have := of_decide_eq_false (R.ok.inj e2)
    omega
  subst ha
  refine ⟨es, ?_, w.dist⟩
  have lp : w_steps_from_L2 [.fz (webD n ps), .fz (.int p), .fz (.lst ((nearL n ps).map fun r => .lst (r.map D.int))), .ow (.dk (kd [(p, 0)])), .ow (.lst [.int p]), .fz (.int 0), .un] = .nx [.fz (webD n ps), .fz (.int p), .fz (.lst ((nearL n ps).map fun r => .lst (r.map D.int))), .ow (.dk (kd es)), .ow (.lst ((es.map (·.1)).map D.int)), .fz (.int (es.length : Int)), .un] := e1
  rw [go_w_steps_from]
  unfold w_steps_from_S
  have dd : D.dk (kd [(p, 0)]) = .dk [(.inl p, .int 0)] := rfl
  rw [dd] at lp
  simp (disch := first | omega | decide | (simp only [List.length_cons, List.length_nil, List.length_append, List.length_map, List.length_take, List.length_drop]; omega)) only [apC, apV, apVb, ap2, ap1, apB, apN, apX, aptB, aptV, apAnd, apOr, apNot, apeIf, apeAnd, apeOr, apeNot, apTup, apLst, apIt, apIts, apoN, apoS, apSl, ap3, apsN, apSeq, apSet, apOwn, apRet, apEx, apIf, apFrz, apT, apgN, apEnd, apLm, apGet2, apD1, apD2, apBV, wip_nx, wip_rt, wip_er, frz_fz, wipeF_cons, wipeF_nil, lstB_l, List.getElem?_cons_succ, List.getElem?_cons_zero, List.set_cons_succ, List.set_cons_zero, max2_i, min2_i, bindO, bindE, fdiv_s, mod_i, mul_s, mul_s', isi_ii, isi_ib, isi_it, isi_tt, isi_ll, isi_bb, len_l, len_t, len_s, it_l, it_t, mkL0, mkL1, mkL2, mkL3, mkL4, mkL5, mkL6, mkL7, mkL8, mkT0, mkT1, mkT2, mkT3, mkT4, mkT5, mkT6, mkT7, mkT8, add_i, sub_i, lt_i, le_i, gt_i, ge_i, eq_ib, ne_ib, decide_true, decide_false, tru_b, tru_i, tru_n, as_b, tru_l, tru_t, if_true, if_false, Bool.not_true, Bool.not_false, Bool.false_eq_true, list_l, list_t, tup_l, tup_t, endO_rt, endO_nx, endO_er, isNon_n, mkL9, mkL10, mkL11, mkL12, mkL13, mkL14, mkL15, mkL16, apsApp, appO_ok, appO_er, apsTup, tupO_2, tupO_3, negI, sl_t, cut_toD, cut_fromD, List.cons_append, List.nil_append, apRef, refO_ok, dro_fz, dro_un, dro_ow, dro_nil, near_ok W, mkD1_i, lp]
theorem sub_len : ∀ {l m : List Int}, l.Nodup → (∀ x ∈ l, x ∈ m) → l.length ≤ m.length
  | [], m, _, _ => Nat.zero_le _
  | a :: l, m, hn, h => by
    have hn := List.nodup_cons.mp hn
    have := sub_len (l := l) (m := m.erase a) hn.2 fun x hx => (List.mem_erase_of_ne (show x ≠ a from fun e => hn.1 (by rw [← e]; exact hx))).mpr (h x (List.mem_cons_of_mem _ hx))
    rw [List.length_erase_of_mem (h a List.mem_cons_self)] at this
    have := List.length_pos_of_mem (h a List.mem_cons_self)
    rw [List.length_cons]
    omega
/-- a web in one piece -/
def Whole (n : Int) (ps : List (Int × Int)) : Prop := ∀ S : Int → Prop, S 0 → (∀ u v, S u → Adj ps u v → S v) → ∀ v, 0 ≤ v ∧ v < n → S v
theorem Dist.in_ {n : Int} {ps : List (Int × Int)} {p : Int} {es : List (Int × Int)} (h : Dist n ps p es) {S : Int → Prop} (h0 : S p) (hs : ∀ u v, S u → Adj ps u v → S v) : ∀ e ∈ es, S e.1 := by
  have go : ∀ (m : Nat) (e : Int × Int), e ∈ es → e.2.toNat ≤ m → S e.1 := by
    intro m
    induction m with
    | zero =>
      intro e he hm
      rcases h.pred e he with rfl | ⟨u, ha, hu⟩
      · exact h0
      · have := (h.rng _ hu).2
        dsimp only at this
        omega
    | succ m ih =>
      intro e he hm
      rcases h.pred e he with rfl | ⟨u, ha, hu⟩
      · exact h0
      · have := (h.rng _ hu).2
        dsimp only at this
        exact hs u e.1 (ih (u, e.2 - 1) hu (by dsimp only; omega)) ha
  exact fun e he => go _ e he (Nat.le_refl _)
theorem Dist.all_of {n : Int} {ps : List (Int × Int)} {p : Int} {es : List (Int × Int)} (h : Dist n ps p es) (hl : (es.length : Int) = n) : ∀ v, 0 ≤ v ∧ v < n → v ∈ es.map (·.1) := fun v hv => by
  refine Classical.byContradiction fun hc => ?_
  have := len_le (n := n.toNat) (l := v :: es.map (·.1)) (List.nodup_cons.mpr ⟨hc, h.nd⟩) fun x hx => by
    rcases List.mem_cons.mp hx with rfl | hx
    · omega
    · obtain ⟨e, he, rfl⟩ := List.mem_map.mp hx
      have := (h.rng e he).1
      omega
  rw [List.length_cons, List.length_map] at this
  omega
theorem Dist.len_of {n : Int} {ps : List (Int × Int)} {p : Int} {es : List (Int × Int)} (h : Dist n ps p es) (hn : 0 ≤ n) (ha : ∀ v, 0 ≤ v ∧ v < n → v ∈ es.map (·.1)) : (es.length : Int) = n := by
  have h1 := len_le (n := n.toNat) (l := es.map (·.1)) h.nd fun x hx => by
    obtain ⟨e, he, rfl⟩ := List.mem_map.mp hx
    have := (h.rng e he).1
    omega
  have h2 := sub_len (l := (List.range n.toNat).map fun (i : Nat) => (i : Int)) (m := es.map (·.1)) (by
    refine List.Pairwise.map _ (fun a b (hab : a ≠ b) => ?_) List.nodup_range
    exact fun e => hab (by omega)) fun x hx => by
    obtain ⟨i, hi, rfl⟩ := List.mem_map.mp hx
    have := List.mem_range.mp hi
    exact ha _ (by omega)
  rw [List.length_map] at h1 h2
  rw [List.length_map, List.length_range] at h2
  omega
theorem Dist.whole {n : Int} {ps : List (Int × Int)} {es : List (Int × Int)} (h : Dist n ps 0 es) (hn : 0 ≤ n) : (es.length : Int) = n ↔ Whole n ps := by
  constructor
  · intro hl S h0 hs v hv
    obtain ⟨e, he, rfl⟩ := List.mem_map.mp (h.all_of hl v hv)
    exact h.in_ h0 hs e he
  · intro w
    refine h.len_of hn fun v hv => w (fun v => v ∈ es.map (·.1)) (List.mem_map.mpr ⟨_, h.start, rfl⟩) (fun u v hu ha => ?_) v hv
    obtain ⟨e, he, rfl⟩ := List.mem_map.mp hu
    obtain ⟨d', hm, _⟩ := h.step e.1 e.2 v he ha
    exact List.mem_map.mpr ⟨_, hm, rfl⟩
/-- .. from any place -/
theorem Whole.from_ {n : Int} {ps : List (Int × Int)} (w : Whole n ps) {p : Int} (hp : 0 ≤ p ∧ p < n) {S : Int → Prop} (h0 : S p) (hs : ∀ u v, S u → Adj ps u v → S v) : ∀ v, 0 ≤ v ∧ v < n → S v := by
  have q : S 0 := by
    have := w (fun v => S v → S 0) id (fun u v h ha hv => h (hs v u hv ha.symm)) p hp
    exact this h0
  exact w S q hs
theorem Dist.full {n : Int} {ps : List (Int × Int)} {p : Int} {es : List (Int × Int)} (h : Dist n ps p es) (w : Whole n ps) (hp : 0 ≤ p ∧ p < n) : ∀ v, 0 ≤ v ∧ v < n → ∃ d, (v, d) ∈ es := fun v hv => by
  have := w.from_ hp (S := fun v => ∃ d, (v, d) ∈ es) ⟨0, h.start⟩ (fun u v ⟨d, hu⟩ ha => by
    obtain ⟨d', hm, _⟩ := h.step u d v hu ha
    exact ⟨d', hm⟩) v hv
  exact this
theorem Dist.uniq_le {n : Int} {ps : List (Int × Int)} {p : Int} {es es' : List (Int × Int)} (h : Dist n ps p es) (h' : Dist n ps p es') : ∀ v d, (v, d) ∈ es → ∃ d', (v, d') ∈ es' ∧ d' ≤ d := by
  have go : ∀ (m : Nat) (v d : Int), (v, d) ∈ es → d.toNat ≤ m → ∃ d', (v, d') ∈ es' ∧ d' ≤ d := by
    intro m
    induction m with
    | zero =>
      intro v d hm hd
      rcases h.pred _ hm with e | ⟨u, ha, hu⟩
      · cases e
        exact ⟨0, h'.start, Int.le_refl _⟩
      · have := (h.rng _ hu).2
        dsimp only at this
        omega
    | succ m ih =>
      intro v d hm hd
      rcases h.pred _ hm with e | ⟨u, ha, hu⟩
      · cases e
        exact ⟨0, h'.start, Int.le_refl _⟩
      · have := (h.rng _ hu).2
        dsimp only at this hu ha
        obtain ⟨d1, m1, l1⟩ := ih u (d - 1) hu (by omega)
        obtain ⟨d2, m2, l2⟩ := h'.step u d1 v m1 ha
        exact ⟨d2, m2, by omega⟩
  exact fun v d hm => go _ v d hm (Nat.le_refl _)
theorem nd_eq {es : List (Int × Int)} (hn : (es.map (·.1)).Nodup) {v d d' : Int} (h : (v, d) ∈ es) (h' : (v, d') ∈ es) : d = d' := by
  have a := find_of hn h
  rw [find_of hn h'] at a
  cases a
  rfl
/-- how far is told once -/
theorem Dist.uniq {n : Int} {ps : List (Int × Int)} {p : Int} {es es' : List (Int × Int)} (h : Dist n ps p es) (h' : Dist n ps p es') {v d : Int} (hm : (v, d) ∈ es) : (v, d) ∈ es' := by
  obtain ⟨d1, m1, l1⟩ := h.uniq_le h' v d hm
  obtain ⟨d2, m2, l2⟩ := h'.uniq_le h v d1 m1
  have := nd_eq h.nd hm m2
  have : d1 = d := by omega
  subst this
  exact m1
theorem hangs_eq {n : Int} {ps : List (Int × Int)} (W : WebOk n ps) : ∃ b, w_hangs_together [webD n ps] = .ok (.bl b) ∧ (b = true ↔ Whole n ps) := by
  have lo := W.lo
  obtain ⟨es, e, h⟩ := steps_ok W (p := 0) (by omega)
  refine ⟨decide ((es.length : Int) = n), ?_, by rw [decide_eq_true_eq]; exact h.whole (by omega)⟩
  rw [go_w_hangs_together]
  unfold w_hangs_together_S
  simp (disch := first | omega | decide | (simp only [List.length_cons, List.length_nil, List.length_append, List.length_map, List.length_take, List.length_drop]; omega)) only [apC, apV, apVb, ap2, ap1, apB, apN, apX, aptB, aptV, apAnd, apOr, apNot, apeIf, apeAnd, apeOr, apeNot, apTup, apLst, apIt, apIts, apoN, apoS, apSl, ap3, apsN, apSeq, apSet, apOwn, apRet, apEx, apIf, apFrz, apT, apgN, apEnd, apLm, apGet2, apD1, apD2, apBV, wip_nx, wip_rt, wip_er, frz_fz, wipeF_cons, wipeF_nil, lstB_l, List.getElem?_cons_succ, List.getElem?_cons_zero, List.set_cons_succ, List.set_cons_zero, max2_i, min2_i, bindO, bindE, fdiv_s, mod_i, mul_s, mul_s', isi_ii, isi_ib, isi_it, isi_tt, isi_ll, isi_bb, len_l, len_t, len_s, it_l, it_t, mkL0, mkL1, mkL2, mkL3, mkL4, mkL5, mkL6, mkL7, mkL8, mkT0, mkT1, mkT2, mkT3, mkT4, mkT5, mkT6, mkT7, mkT8, add_i, sub_i, lt_i, le_i, gt_i, ge_i, eq_ib, ne_ib, decide_true, decide_false, tru_b, tru_i, tru_n, as_b, tru_l, tru_t, if_true, if_false, Bool.not_true, Bool.not_false, Bool.false_eq_true, list_l, list_t, tup_l, tup_t, endO_rt, endO_nx, endO_er, isNon_n, mkL9, mkL10, mkL11, mkL12, mkL13, mkL14, mkL15, mkL16, apsApp, appO_ok, appO_er, apsTup, tupO_2, tupO_3, negI, sl_t, cut_toD, cut_fromD, List.cons_append, List.nil_append, apRef, refO_ok, dro_fz, dro_un, dro_ow, dro_nil, e, len_kd, ix0, eq_ib]
theorem is_whole_eq {n : Int} {ps : List (Int × Int)} (W : WebOk n ps) : ∃ b, w_is_whole [webD n ps] = .ok (.bl b) ∧ (b = true ↔ Whole n ps) := by
  obtain ⟨b, e, h⟩ := hangs_eq W
  refine ⟨b, ?_, h⟩
  rw [go_w_is_whole]
  unfold w_is_whole_S
  simp (disch := first | omega | decide | (simp only [List.length_cons, List.length_nil, List.length_append, List.length_map, List.length_take, List.length_drop]; omega)) only [apC, apV, apVb, ap2, ap1, apB, apN, apX, aptB, aptV, apAnd, apOr, apNot, apeIf, apeAnd, apeOr, apeNot, apTup, apLst, apIt, apIts, apoN, apoS, apSl, ap3, apsN, apSeq, apSet, apOwn, apRet, apEx, apIf, apFrz, apT, apgN, apEnd, apLm, apGet2, apD1, apD2, apBV, wip_nx, wip_rt, wip_er, frz_fz, wipeF_cons, wipeF_nil, lstB_l, List.getElem?_cons_succ, List.getElem?_cons_zero, List.set_cons_succ, List.set_cons_zero, max2_i, min2_i, bindO, bindE, fdiv_s, mod_i, mul_s, mul_s', isi_ii, isi_ib, isi_it, isi_tt, isi_ll, isi_bb, len_l, len_t, len_s, it_l, it_t, mkL0, mkL1, mkL2, mkL3, mkL4, mkL5, mkL6, mkL7, mkL8, mkT0, mkT1, mkT2, mkT3, mkT4, mkT5, mkT6, mkT7, mkT8, add_i, sub_i, lt_i, le_i, gt_i, ge_i, eq_ib, ne_ib, decide_true, decide_false, tru_b, tru_i, tru_n, as_b, tru_l, tru_t, if_true, if_false, Bool.not_true, Bool.not_false, Bool.false_eq_true, list_l, list_t, tup_l, tup_t, endO_rt, endO_nx, endO_er, isNon_n, mkL9, mkL10, mkL11, mkL12, mkL13, mkL14, mkL15, mkL16, apsApp, appO_ok, appO_er, apsTup, tupO_2, tupO_3, negI, sl_t, cut_toD, cut_fromD, List.cons_append, List.nil_append, apRef, refO_ok, dro_fz, dro_un, dro_ow, dro_nil, need_web_ok W, e]
theorem is_whole_no {d : D} (h : Tame d) (hb : webB d = false) : w_is_whole [d] = .err "NoWeb" := by
  rw [go_w_is_whole]
  unfold w_is_whole_S
  simp (disch := first | omega | decide | (simp only [List.length_cons, List.length_nil, List.length_append, List.length_map, List.length_take, List.length_drop]; omega)) only [apC, apV, apVb, ap2, ap1, apB, apN, apX, aptB, aptV, apAnd, apOr, apNot, apeIf, apeAnd, apeOr, apeNot, apTup, apLst, apIt, apIts, apoN, apoS, apSl, ap3, apsN, apSeq, apSet, apOwn, apRet, apEx, apIf, apFrz, apT, apgN, apEnd, apLm, apGet2, apD1, apD2, apBV, wip_nx, wip_rt, wip_er, frz_fz, wipeF_cons, wipeF_nil, lstB_l, List.getElem?_cons_succ, List.getElem?_cons_zero, List.set_cons_succ, List.set_cons_zero, max2_i, min2_i, bindO, bindE, fdiv_s, mod_i, mul_s, mul_s', isi_ii, isi_ib, isi_it, isi_tt, isi_ll, isi_bb, len_l, len_t, len_s, it_l, it_t, mkL0, mkL1, mkL2, mkL3, mkL4, mkL5, mkL6, mkL7, mkL8, mkT0, mkT1, mkT2, mkT3, mkT4, mkT5, mkT6, mkT7, mkT8, add_i, sub_i, lt_i, le_i, gt_i, ge_i, eq_ib, ne_ib, decide_true, decide_false, tru_b, tru_i, tru_n, as_b, tru_l, tru_t, if_true, if_false, Bool.not_true, Bool.not_false, Bool.false_eq_true, list_l, list_t, tup_l, tup_t, endO_rt, endO_nx, endO_er, isNon_n, mkL9, mkL10, mkL11, mkL12, mkL13, mkL14, mkL15, mkL16, apsApp, appO_ok, appO_er, apsTup, tupO_2, tupO_3, negI, sl_t, cut_toD, cut_fromD, List.cons_append, List.nil_append, apRef, refO_ok, dro_fz, dro_un, dro_ow, dro_nil, need_web_no h hb]
theorem need_whole_ok {n : Int} {ps : List (Int × Int)} (W : WebOk n ps) (h : Whole n ps) : w_need_whole [webD n ps] = .ok .non := by
  obtain ⟨b, e, q⟩ := is_whole_eq W
  rw [q.mpr h] at e
  rw [go_w_need_whole]
  unfold w_need_whole_S
  simp (disch := first | omega | decide | (simp only [List.length_cons, List.length_nil, List.length_append, List.length_map, List.length_take, List.length_drop]; omega)) only [apC, apV, apVb, ap2, ap1, apB, apN, apX, aptB, aptV, apAnd, apOr, apNot, apeIf, apeAnd, apeOr, apeNot, apTup, apLst, apIt, apIts, apoN, apoS, apSl, ap3, apsN, apSeq, apSet, apOwn, apRet, apEx, apIf, apFrz, apT, apgN, apEnd, apLm, apGet2, apD1, apD2, apBV, wip_nx, wip_rt, wip_er, frz_fz, wipeF_cons, wipeF_nil, lstB_l, List.getElem?_cons_succ, List.getElem?_cons_zero, List.set_cons_succ, List.set_cons_zero, max2_i, min2_i, bindO, bindE, fdiv_s, mod_i, mul_s, mul_s', isi_ii, isi_ib, isi_it, isi_tt, isi_ll, isi_bb, len_l, len_t, len_s, it_l, it_t, mkL0, mkL1, mkL2, mkL3, mkL4, mkL5, mkL6, mkL7, mkL8, mkT0, mkT1, mkT2, mkT3, mkT4, mkT5, mkT6, mkT7, mkT8, add_i, sub_i, lt_i, le_i, gt_i, ge_i, eq_ib, ne_ib, decide_true, decide_false, tru_b, tru_i, tru_n, as_b, tru_l, tru_t, if_true, if_false, Bool.not_true, Bool.not_false, Bool.false_eq_true, list_l, list_t, tup_l, tup_t, endO_rt, endO_nx, endO_er, isNon_n, mkL9, mkL10, mkL11, mkL12, mkL13, mkL14, mkL15, mkL16, apsApp, appO_ok, appO_er, apsTup, tupO_2, tupO_3, negI, sl_t, cut_toD, cut_fromD, List.cons_append, List.nil_append, apRef, refO_ok, dro_fz, dro_un, dro_ow, dro_nil, e]
theorem need_whole_not {n : Int} {ps : List (Int × Int)} (W : WebOk n ps) (h : ¬ Whole n ps) : w_need_whole [webD n ps] = .err "NotWhole" := by
  obtain ⟨b, e, q⟩ := is_whole_eq W
  have : b = false := by
    cases b with
    | false => rfl
    | true => exact absurd (q.mp rfl) h
  rw [this] at e
  rw [go_w_need_whole]
  unfold w_need_whole_S
  simp (disch := first | omega | decide | (simp only [List.length_cons, List.length_nil, List.length_append, List.length_map, List.length_take, List.length_drop]; omega)) only [apC, apV, apVb, ap2, ap1, apB, apN, apX, aptB, aptV, apAnd, apOr, apNot, apeIf, apeAnd, apeOr, apeNot, apTup, apLst, apIt, apIts, apoN, apoS, apSl, ap3, apsN, apSeq, apSet, apOwn, apRet, apEx, apIf, apFrz, apT, apgN, apEnd, apLm, apGet2, apD1, apD2, apBV, wip_nx, wip_rt, wip_er, frz_fz, wipeF_cons, wipeF_nil, lstB_l, List.getElem?_cons_succ, List.getElem?_cons_zero, List.set_cons_succ, List.set_cons_zero, max2_i, min2_i, bindO, bindE, fdiv_s, mod_i, mul_s, mul_s', isi_ii, isi_ib, isi_it, isi_tt, isi_ll, isi_bb, len_l, len_t, len_s, it_l, it_t, mkL0, mkL1, mkL2, mkL3, mkL4, mkL5, mkL6, mkL7, mkL8, mkT0, mkT1, mkT2, mkT3, mkT4, mkT5, mkT6, mkT7, mkT8, add_i, sub_i, lt_i, le_i, gt_i, ge_i, eq_ib, ne_ib, decide_true, decide_false, tru_b, tru_i, tru_n, as_b, tru_l, tru_t, if_true, if_false, Bool.not_true, Bool.not_false, Bool.false_eq_true, list_l, list_t, tup_l, tup_t, endO_rt, endO_nx, endO_er, isNon_n, mkL9, mkL10, mkL11, mkL12, mkL13, mkL14, mkL15, mkL16, apsApp, appO_ok, appO_er, apsTup, tupO_2, tupO_3, negI, sl_t, cut_toD, cut_fromD, List.cons_append, List.nil_append, apRef, refO_ok, dro_fz, dro_un, dro_ow, dro_nil, e]
theorem need_whole_no {d : D} (h : Tame d) (hb : webB d = false) : w_need_whole [d] = .err "NoWeb" := by
  rw [go_w_need_whole]
  unfold w_need_whole_S
  simp (disch := first | omega | decide | (simp only [List.length_cons, List.length_nil, List.length_append, List.length_map, List.length_take, List.length_drop]; omega)) only [apC, apV, apVb, ap2, ap1, apB, apN, apX, aptB, aptV, apAnd, apOr, apNot, apeIf, apeAnd, apeOr, apeNot, apTup, apLst, apIt, apIts, apoN, apoS, apSl, ap3, apsN, apSeq, apSet, apOwn, apRet, apEx, apIf, apFrz, apT, apgN, apEnd, apLm, apGet2, apD1, apD2, apBV, wip_nx, wip_rt, wip_er, frz_fz, wipeF_cons, wipeF_nil, lstB_l, List.getElem?_cons_succ, List.getElem?_cons_zero, List.set_cons_succ, List.set_cons_zero, max2_i, min2_i, bindO, bindE, fdiv_s, mod_i, mul_s, mul_s', isi_ii, isi_ib, isi_it, isi_tt, isi_ll, isi_bb, len_l, len_t, len_s, it_l, it_t, mkL0, mkL1, mkL2, mkL3, mkL4, mkL5, mkL6, mkL7, mkL8, mkT0, mkT1, mkT2, mkT3, mkT4, mkT5, mkT6, mkT7, mkT8, add_i, sub_i, lt_i, le_i, gt_i, ge_i, eq_ib, ne_ib, decide_true, decide_false, tru_b, tru_i, tru_n, as_b, tru_l, tru_t, if_true, if_false, Bool.not_true, Bool.not_false, Bool.false_eq_true, list_l, list_t, tup_l, tup_t, endO_rt, endO_nx, endO_er, isNon_n, mkL9, mkL10, mkL11, mkL12, mkL13, mkL14, mkL15, mkL16, apsApp, appO_ok, appO_er, apsTup, tupO_2, tupO_3, negI, sl_t, cut_toD, cut_fromD, List.cons_append, List.nil_append, apRef, refO_ok, dro_fz, dro_un, dro_ow, dro_nil, is_whole_no h hb]
end PB

namespace PB
open PySem PySem.Spec PyProof.Rows L2 LamX
/-! ### S8: trees and webs of the laws -/
theorem ltP_def {p q : Int × Int} : ltP p q = true ↔ p.1 < q.1 ∨ (p.1 = q.1 ∧ p.2 < q.2) := ltP_iff
theorem leR_pair {p q : Int × Int} : leR [p.1, p.2] [q.1, q.2] = true ↔ p.1 < q.1 ∨ (p.1 = q.1 ∧ p.2 ≤ q.2) := by
  unfold leR
  rw [decide_eq_true_eq]
  show ¬ ([q.1, q.2] < [p.1, p.2]) ↔ _
  rw [List.cons_lt_cons_iff, List.cons_lt_cons_iff]
  have : ¬ (([] : List Int) < []) := List.not_lt_nil _
  constructor
  · intro h
    by_cases h1 : p.1 < q.1
    · exact .inl h1
    · refine .inr ⟨?_, ?_⟩
      · by_cases h2 : q.1 < p.1
        · exact absurd (.inl h2) h
        · omega
      · by_cases h2 : q.2 < p.2
        · exact absurd (.inr ⟨by
            by_cases h3 : q.1 < p.1
            · exact absurd (.inl h3) h
            · omega, .inl h2⟩) h
        · omega
  · rintro (h1 | ⟨h1, h2⟩) (h3 | ⟨h3, h4 | ⟨h4, h5⟩⟩)
    · omega
    · omega
    · omega
    · omega
    · omega
    · exact this h5
def sortT (T : List (Int × Int)) : List (Int × Int) := T.mergeSort fun p q => leR [p.1, p.2] [q.1, q.2]
theorem sortT_perm (T : List (Int × Int)) : (sortT T).Perm T := List.mergeSort_perm _ _
theorem sortT_mem {T : List (Int × Int)} {p : Int × Int} : p ∈ sortT T ↔ p ∈ T := (sortT_perm T).mem_iff
theorem sortT_le (T : List (Int × Int)) : (sortT T).Pairwise fun p q => leR [p.1, p.2] [q.1, q.2] = true := List.pairwise_mergeSort (fun a b c h1 h2 => by
  rw [leR_pair] at *
  omega) (fun a b => by
  rw [Bool.or_eq_true, leR_pair, leR_pair]
  omega) T
theorem sortT_lt {T : List (Int × Int)} (h : T.Nodup) : (sortT T).Pairwise fun p q => ltP p q = true := by
  have n : (sortT T).Nodup := (sortT_perm T).nodup_iff.mpr h
  refine ((sortT_le T).and n).imp fun {p q} a => ?_
  obtain ⟨a1, a2⟩ := a
  rw [leR_pair] at a1
  rw [ltP_iff]
  have : p.1 = q.1 → p.2 = q.2 → p = q := fun e1 e2 => Prod.ext e1 e2
  by_cases e1 : p.1 = q.1
  · by_cases e2 : p.2 = q.2
    · exact absurd (this e1 e2) a2
    · omega
  · omega
theorem rows_ties : ∀ T : List (Int × Int), rowsOf (T.map tieD) = some (T.map fun p => [p.1, p.2])
  | [] => rfl
  | p :: T => by
    rw [List.map_cons, List.map_cons]
    unfold rowsOf
    rw [rows_ties T]
    rfl
theorem sorted_ties (T : List (Int × Int)) : sortedD [.lst (T.map tieD)] = .ok (.lst ((sortT T).map tieD)) := by
  cases T with
  | nil =>
    have e : sortT [] = [] := by unfold sortT; exact List.mergeSort_nil
    have := sorted_i []
    rw [List.mergeSort_nil] at this
    rw [e]
    exact this
  | cons p T =>
    show (match D.ints (tieD p :: T.map tieD) with | some ns => R.ok (D.lst ((ns.mergeSort leI).map D.int)) | none => match rowsOf (tieD p :: T.map tieD) with | some rs => R.ok (D.lst ((rs.mergeSort leR).map rowD)) | none => R.stuck) = _
    have e1 : D.ints (tieD p :: T.map tieD) = none := by
      unfold tieD
      rw [D.ints]
      intro i h
      cases h
    rw [e1]
    dsimp only
    have e2 := rows_ties (p :: T)
    rw [List.map_cons] at e2
    rw [e2]
    dsimp only
    have e3 : (((p :: T).map fun p => [p.1, p.2]).mergeSort leR) = (sortT (p :: T)).map fun p => [p.1, p.2] := by
      unfold sortT
      exact (List.map_mergeSort (r := fun p q => leR [p.1, p.2] [q.1, q.2]) (s := leR) (f := fun p : Int × Int => [p.1, p.2]) (l := p :: T) fun _ _ _ _ => rfl).symm
    rw [e3, List.map_map]
    rfl
theorem sorted_tties (T : List (Int × Int)) : sortedD [.tup (T.map tieD)] = .ok (.lst ((sortT T).map tieD)) := sorted_ties T
theorem web_sort {n : Int} {T : List (Int × Int)} (h1 : 1 ≤ n) (h2 : n ≤ 40) (ht : ∀ p ∈ T, 0 ≤ p.1 ∧ p.1 < p.2 ∧ p.2 < n) (hn : T.Nodup) : WebOk n (sortT T) := ⟨h1, h2, fun p hp => ht p (sortT_mem.mp hp), rises_of (sortT_lt hn)⟩
/-- all places, in some order -/
structure OrdOk (n : Int) (o : List Int) : Prop where
  len : (o.length : Int) = n
  nd : o.Nodup
  rng : ∀ x ∈ o, 0 ≤ x ∧ x < n
theorem OrdOk.full {n : Int} {o : List Int} (h : OrdOk n o) : ∀ v, 0 ≤ v ∧ v < n → v ∈ o := fun v hv => by
  refine Classical.byContradiction fun hc => ?_
  have := len_le (n := n.toNat) (l := v :: o) (List.nodup_cons.mpr ⟨hc, h.nd⟩) fun x hx => by
    rcases List.mem_cons.mp hx with rfl | hx
    · omega
    · have := h.rng x hx
      omega
  have hl := h.len
  rw [List.length_cons] at this
  omega
theorem nd_inj {o : List Int} (h : o.Nodup) {i j : Nat} {a : Int} (hi : o[i]? = some a) (hj : o[j]? = some a) : i = j := by
  obtain ⟨h1, e1⟩ := List.getElem?_eq_some_iff.mp hi
  obtain ⟨h2, e2⟩ := List.getElem?_eq_some_iff.mp hj
  rcases Nat.lt_trichotomy i j with l | l | l
  · exact absurd (e1.trans e2.symm) (List.pairwise_iff_getElem.mp h i j h1 h2 l)
  · exact l
  · exact absurd (e2.trans e1.symm) (List.pairwise_iff_getElem.mp h j i h2 h1 l)
def mmT (a b : Int) : Int × Int := (if b < a then b else a, if b > a then b else a)
theorem mmT_comm (a b : Int) : mmT a b = mmT b a := by
  unfold mmT
  refine Prod.ext ?_ ?_ <;> dsimp only <;> split <;> split <;> omega
theorem mmT_or (a b : Int) : mmT a b = (a, b) ∧ a ≤ b ∨ mmT a b = (b, a) ∧ b < a := by
  unfold mmT
  by_cases h : b < a
  · exact .inr ⟨by rw [if_pos h, if_neg (by omega)], h⟩
  · by_cases h2 : b > a
    · exact .inl ⟨by rw [if_neg h, if_pos h2], by omega⟩
    · exact .inl ⟨by rw [if_neg h, if_neg h2, show a = b by omega], by omega⟩
/-- ties that hang each next place of an order on one before it -/
def Grown (o : List Int) (T : List (Int × Int)) : Prop := ∀ k, k < T.length → ∃ u a b, u ≤ k ∧ o[k + 1]? = some a ∧ o[u]? = some b ∧ T[k]? = some (mmT a b)
theorem Grown.nil {o : List Int} : Grown o [] := fun k h => absurd h (Nat.not_lt_zero _)
theorem Grown.snoc {o : List Int} {T : List (Int × Int)} (g : Grown o T) {u : Nat} {a b : Int} (hu : u ≤ T.length) (ha : o[T.length + 1]? = some a) (hb : o[u]? = some b) : Grown o (T ++ [mmT a b]) := fun k h => by
  rw [List.length_append, List.length_singleton] at h
  by_cases hk : k < T.length
  · obtain ⟨u', a', b', q1, q2, q3, q4⟩ := g k hk
    exact ⟨u', a', b', q1, q2, q3, by rw [List.getElem?_append_left hk]; exact q4⟩
  · obtain rfl : k = T.length := by omega
    exact ⟨u, a, b, hu, ha, hb, by rw [List.getElem?_append_right (Nat.le_refl _), Nat.sub_self]; rfl⟩
theorem Grown.valid {n : Int} {o : List Int} {T : List (Int × Int)} (g : Grown o T) (h : OrdOk n o) : ∀ p ∈ T, 0 ≤ p.1 ∧ p.1 < p.2 ∧ p.2 < n := fun p hp => by
  obtain ⟨k, hk, e⟩ := List.getElem_of_mem hp
  obtain ⟨u, a, b, q1, q2, q3, q4⟩ := g k hk
  rw [List.getElem?_eq_getElem hk, e] at q4
  cases q4
  have ra := h.rng a (List.mem_of_getElem? q2)
  have rb := h.rng b (List.mem_of_getElem? q3)
  have : a ≠ b := fun e => by
    subst e
    have := nd_inj h.nd q2 q3
    omega
  rcases mmT_or a b with ⟨e, l⟩ | ⟨e, l⟩ <;> rw [e] <;> dsimp only <;> omega
theorem Grown.nodup {n : Int} {o : List Int} {T : List (Int × Int)} (g : Grown o T) (h : OrdOk n o) : T.Nodup := by
  refine List.pairwise_iff_getElem.mpr fun i j hi hj hij e => ?_
  obtain ⟨u, a, b, q1, q2, q3, q4⟩ := g i hi
  obtain ⟨u', a', b', r1, r2, r3, r4⟩ := g j hj
  rw [List.getElem?_eq_getElem hi] at q4
  rw [List.getElem?_eq_getElem hj, ← e] at r4
  rw [q4] at r4
  have r4 : mmT a b = mmT a' b' := Option.some.inj r4
  have : a' = a ∨ a' = b := by
    rcases mmT_or a b with ⟨e1, l1⟩ | ⟨e1, l1⟩ <;> rcases mmT_or a' b' with ⟨e2, l2⟩ | ⟨e2, l2⟩ <;> rw [e1, e2] at r4 <;> cases r4 <;> simp
  rcases this with rfl | rfl
  · have := nd_inj h.nd q2 r2
    omega
  · have := nd_inj h.nd q3 r2
    omega
theorem Grown.whole {n : Int} {o : List Int} {T ps : List (Int × Int)} (g : Grown o T) (h : OrdOk n o) (hn : 1 ≤ n) (hl : (T.length : Int) + 1 = n) (hs : ∀ p ∈ T, p ∈ ps) : Whole n ps := by
  intro S h0 hS
  have hol := h.len
  have adj : ∀ k, k < T.length → ∃ u a b, u ≤ k ∧ o[k + 1]? = some a ∧ o[u]? = some b ∧ Adj ps a b := fun k hk => by
    obtain ⟨u, a, b, q1, q2, q3, q4⟩ := g k hk
    refine ⟨u, a, b, q1, q2, q3, ?_⟩
    have hm := hs _ (List.mem_of_getElem? q4)
    rcases mmT_or a b with ⟨e, _⟩ | ⟨e, _⟩ <;> rw [e] at hm
    · exact .inl hm
    · exact .inr hm
  obtain ⟨r, hr⟩ : ∃ r, o[0]? = some r := ⟨o[0]'(by omega), List.getElem?_eq_getElem _⟩
  have all : ∀ (m j : Nat) (a : Int), j ≤ m → o[j]? = some a → (S a ↔ S r) := by
    intro m
    induction m with
    | zero =>
      intro j a hj ha
      obtain rfl : j = 0 := by omega
      rw [hr] at ha
      cases ha
      exact Iff.rfl
    | succ m ih =>
      intro j a hj ha
      by_cases h0 : j = 0
      · subst h0
        rw [hr] at ha
        cases ha
        exact Iff.rfl
      · have hjl := (List.getElem?_eq_some_iff.mp ha).1
        obtain ⟨u, a', b, q1, q2, q3, q4⟩ := adj (j - 1) (by omega)
        rw [show j - 1 + 1 = j by omega, ha] at q2
        cases q2
        have := ih u b (by omega) q3
        exact ⟨fun s => this.mp (hS _ _ s q4), fun s => hS _ _ (this.mpr s) q4.symm⟩
  have any : ∀ v, 0 ≤ v ∧ v < n → (S v ↔ S r) := fun v hv => by
    obtain ⟨j, hj, e⟩ := List.getElem_of_mem (h.full v hv)
    exact all j j v (Nat.le_refl _) (by rw [List.getElem?_eq_getElem hj, e])
  exact fun v hv => (any v hv).mpr ((any 0 (by omega)).mp h0)
theorem ins_ok {i : Nat} {a f : Fr → R D} {ρ : Fr} {xs : List D} {z : Int} {x : D} (h1 : ρ[i]? = some (.ow (.lst xs))) (h2 : a ρ = .ok (.int z)) (h3 : f ρ = .ok x) (hz : 0 ≤ z ∧ z < 2 ^ 63) (hl : xs.length < 2 ^ 20) : sIns i a f ρ = .nx (ρ.set i (.ow (.lst (xs.take z.toNat ++ [x] ++ xs.drop z.toNat)))) := by
  have g : getL i ρ = .ok xs := by unfold getL; rw [h1]
  unfold sIns
  rw [sLet_ok g, sLet_ok h2, sLet_ok h3]
  exact if_pos ⟨hz.1, hz.2, Nat.lt_of_lt_of_le hl (Nat.le_trans (by decide) szl)⟩
theorem ord_ins {k : Nat} {l : List Int} {z : Nat} (h : OrdOk k l) : OrdOk ((k + 1 : Nat) : Int) (l.take z ++ [(k : Int)] ++ l.drop z) := by
  have p : (l.take z ++ [(k : Int)] ++ l.drop z).Perm ((k : Int) :: l) := by
    rw [List.append_assoc]
    have := List.perm_middle (a := (k : Int)) (l₁ := l.take z) (l₂ := l.drop z)
    rw [List.take_append_drop] at this
    exact this
  refine ⟨?_, p.nodup_iff.mpr (List.nodup_cons.mpr ⟨fun hk => ?_, h.nd⟩), fun x hx => ?_⟩
  · rw [p.length_eq, List.length_cons]
    have := h.len
    omega
  · have := h.rng _ hk
    omega
  · rcases List.mem_cons.mp (p.mem_iff.mp hx) with rfl | hx
    · omega
    · have := h.rng x hx
      omega
theorem turn_ok (c n : Int) (hn : 0 ≤ n ∧ n ≤ 40) : ∃ o, w_law_turn [.int c, .int n] = .ok (.lst (o.map D.int)) ∧ OrdOk n o := by
  obtain ⟨N, rfl⟩ : ∃ N : Nat, n = N := ⟨n.toNat, by omega⟩
  obtain ⟨ρ', e, l, rfl, hl⟩ := for_rng (g := gN 3) (b := w_law_turn_B1) (n := N) (lo := 0) (ρ := [.fz (.int c), .fz (.int (N : Int)), .ow (.lst []), .un])
    (fun k ρ => ∃ l : List Int, ρ = [.fz (.int c), .fz (.int (N : Int)), .ow (.lst (l.map D.int)), .un] ∧ OrdOk k l) ⟨[], rfl, rfl, by simp, fun x hx => (by cases hx)⟩ fun k ρ hk hi => by
      obtain ⟨l, rfl, h⟩ := hi
      have d := draw_2 (c := c) (k := 100 + (k : Int)) (b := (k : Int) + 1) (by omega) (by omega)
      have dl := drw_lt (c := c) (k := 100 + (k : Int)) (b := (k : Int) + 1) (by omega)
      have hll := h.len
      generalize drw c (100 + (k : Int)) ((k : Int) + 1) = z at d dl
      refine ⟨_, _, rfl, .inl ?_, l.take z.toNat ++ [(k : Int)] ++ l.drop z.toNat, rfl, ord_ins h⟩
      have s := ins_ok (i := 2) (a := eB w_law_draw_v2 (xCons (eV 0) (xCons (e2 addD (eC (.int 100)) (eVb 3)) (xCons (e2 addD (eVb 3) (eC (.int 1))) xNil)))) (f := eV 3) (ρ := [.fz (.int c), .fz (.int (N : Int)), .ow (.lst (l.map D.int)), .fz (.int (k : Int))]) (xs := l.map D.int) (z := z) (x := .int (k : Int)) rfl (by simp (disch := first | omega | decide | (simp only [List.length_cons, List.length_nil, List.length_append, List.length_map, List.length_take, List.length_drop]; omega)) only [apC, apV, apVb, ap2, ap1, apB, apN, apX, aptB, aptV, apAnd, apOr, apNot, apeIf, apeAnd, apeOr, apeNot, apTup, apLst, apIt, apIts, apoN, apoS, apSl, ap3, apsN, apSeq, apSet, apOwn, apRet, apEx, apIf, apFrz, apT, apgN, apEnd, apLm, apGet2, apD1, apD2, apBV, wip_nx, wip_rt, wip_er, frz_fz, wipeF_cons, wipeF_nil, lstB_l, List.getElem?_cons_succ, List.getElem?_cons_zero, List.set_cons_succ, List.set_cons_zero, max2_i, min2_i, bindO, bindE, fdiv_s, mod_i, mul_s, mul_s', isi_ii, isi_ib, isi_it, isi_tt, isi_ll, isi_bb, len_l, len_t, len_s, it_l, it_t, mkL0, mkL1, mkL2, mkL3, mkL4, mkL5, mkL6, mkL7, mkL8, mkT0, mkT1, mkT2, mkT3, mkT4, mkT5, mkT6, mkT7, mkT8, add_i, sub_i, lt_i, le_i, gt_i, ge_i, eq_ib, ne_ib, decide_true, decide_false, tru_b, tru_i, tru_n, as_b, tru_l, tru_t, if_true, if_false, Bool.not_true, Bool.not_false, Bool.false_eq_true, list_l, list_t, tup_l, tup_t, endO_rt, endO_nx, endO_er, isNon_n, mkL9, mkL10, mkL11, mkL12, mkL13, mkL14, mkL15, mkL16, apsApp, appO_ok, appO_er, apsTup, tupO_2, tupO_3, negI, sl_t, cut_toD, cut_fromD, List.cons_append, List.nil_append, apRef, refO_ok, dro_fz, dro_un, dro_ow, dro_nil, d]) rfl (by omega) (by rw [List.length_map]; omega)
      rw [Int.zero_add]
      unfold w_law_turn_B1
      simp (disch := first | omega | decide | (simp only [List.length_cons, List.length_nil, List.length_append, List.length_map, List.length_take, List.length_drop]; omega)) only [apC, apV, apVb, ap2, ap1, apB, apN, apX, aptB, aptV, apAnd, apOr, apNot, apeIf, apeAnd, apeOr, apeNot, apTup, apLst, apIt, apIts, apoN, apoS, apSl, ap3, apsN, apSeq, apSet, apOwn, apRet, apEx, apIf, apFrz, apT, apgN, apEnd, apLm, apGet2, apD1, apD2, apBV, wip_nx, wip_rt, wip_er, frz_fz, wipeF_cons, wipeF_nil, lstB_l, List.getElem?_cons_succ, List.getElem?_cons_zero, List.set_cons_succ, List.set_cons_zero, max2_i, min2_i, bindO, bindE, fdiv_s, mod_i, mul_s, mul_s', isi_ii, isi_ib, isi_it, isi_tt, isi_ll, isi_bb, len_l, len_t, len_s, it_l, it_t, mkL0, mkL1, mkL2, mkL3, mkL4, mkL5, mkL6, mkL7, mkL8, mkT0, mkT1, mkT2, mkT3, mkT4, mkT5, mkT6, mkT7, mkT8, add_i, sub_i, lt_i, le_i, gt_i, ge_i, eq_ib, ne_ib, decide_true, decide_false, tru_b, tru_i, tru_n, as_b, tru_l, tru_t, if_true, if_false, Bool.not_true, Bool.not_false, Bool.false_eq_true, list_l, list_t, tup_l, tup_t, endO_rt, endO_nx, endO_er, isNon_n, mkL9, mkL10, mkL11, mkL12, mkL13, mkL14, mkL15, mkL16, apsApp, appO_ok, appO_er, apsTup, tupO_2, tupO_3, negI, sl_t, cut_toD, cut_fromD, List.cons_append, List.nil_append, apRef, refO_ok, dro_fz, dro_un, dro_ow, dro_nil, s]
      rw [List.map_append, List.map_append, List.map_take, List.map_drop]
      rfl
  refine ⟨l, ?_, hl⟩
  have lp : w_law_turn_L1 [.fz (.int c), .fz (.int (N : Int)), .ow (.lst []), .un] = .nx [.fz (.int c), .fz (.int (N : Int)), .ow (.lst (l.map D.int)), .un] := for_go (by
    have r := rng1_int (n := (N : Int)) (by omega) (by omega)
    rw [Int.toNat_natCast] at r
    simp (disch := first | omega | decide | (simp only [List.length_cons, List.length_nil, List.length_append, List.length_map, List.length_take, List.length_drop]; omega)) only [apC, apV, apVb, ap2, ap1, apB, apN, apX, aptB, aptV, apAnd, apOr, apNot, apeIf, apeAnd, apeOr, apeNot, apTup, apLst, apIt, apIts, apoN, apoS, apSl, ap3, apsN, apSeq, apSet, apOwn, apRet, apEx, apIf, apFrz, apT, apgN, apEnd, apLm, apGet2, apD1, apD2, apBV, wip_nx, wip_rt, wip_er, frz_fz, wipeF_cons, wipeF_nil, lstB_l, List.getElem?_cons_succ, List.getElem?_cons_zero, List.set_cons_succ, List.set_cons_zero, max2_i, min2_i, bindO, bindE, fdiv_s, mod_i, mul_s, mul_s', isi_ii, isi_ib, isi_it, isi_tt, isi_ll, isi_bb, len_l, len_t, len_s, it_l, it_t, mkL0, mkL1, mkL2, mkL3, mkL4, mkL5, mkL6, mkL7, mkL8, mkT0, mkT1, mkT2, mkT3, mkT4, mkT5, mkT6, mkT7, mkT8, add_i, sub_i, lt_i, le_i, gt_i, ge_i, eq_ib, ne_ib, decide_true, decide_false, tru_b, tru_i, tru_n, as_b, tru_l, tru_t, if_true, if_false, Bool.not_true, Bool.not_false, Bool.false_eq_true, list_l, list_t, tup_l, tup_t, endO_rt, endO_nx, endO_er, isNon_n, mkL9, mkL10, mkL11, mkL12, mkL13, mkL14, mkL15, mkL16, apsApp, appO_ok, appO_er, apsTup, tupO_2, tupO_3, negI, sl_t, cut_toD, cut_fromD, List.cons_append, List.nil_append, apRef, refO_ok, dro_fz, dro_un, dro_ow, dro_nil, r]) e
  rw [go_w_law_turn]
  unfold w_law_turn_S
  simp (disch := first | omega | decide | (simp only [List.length_cons, List.length_nil, List.length_append, List.length_map, List.length_take, List.length_drop]; omega)) only [apC, apV, apVb, ap2, ap1, apB, apN, apX, aptB, aptV, apAnd, apOr, apNot, apeIf, apeAnd, apeOr, apeNot, apTup, apLst, apIt, apIts, apoN, apoS, apSl, ap3, apsN, apSeq, apSet, apOwn, apRet, apEx, apIf, apFrz, apT, apgN, apEnd, apLm, apGet2, apD1, apD2, apBV, wip_nx, wip_rt, wip_er, frz_fz, wipeF_cons, wipeF_nil, lstB_l, List.getElem?_cons_succ, List.getElem?_cons_zero, List.set_cons_succ, List.set_cons_zero, max2_i, min2_i, bindO, bindE, fdiv_s, mod_i, mul_s, mul_s', isi_ii, isi_ib, isi_it, isi_tt, isi_ll, isi_bb, len_l, len_t, len_s, it_l, it_t, mkL0, mkL1, mkL2, mkL3, mkL4, mkL5, mkL6, mkL7, mkL8, mkT0, mkT1, mkT2, mkT3, mkT4, mkT5, mkT6, mkT7, mkT8, add_i, sub_i, lt_i, le_i, gt_i, ge_i, eq_ib, ne_ib, decide_true, decide_false, tru_b, tru_i, tru_n, as_b, tru_l, tru_t, if_true, if_false, Bool.not_true, Bool.not_false, Bool.false_eq_true, list_l, list_t, tup_l, tup_t, endO_rt, endO_nx, endO_er, isNon_n, mkL9, mkL10, mkL11, mkL12, mkL13, mkL14, mkL15, mkL16, apsApp, appO_ok, appO_er, apsTup, tupO_2, tupO_3, negI, sl_t, cut_toD, cut_fromD, List.cons_append, List.nil_append, apRef, refO_ok, dro_fz, dro_un, dro_ow, dro_nil, lp]
theorem ix_o {o : List Int} {k : Nat} {a : Int} (h : o[k]? = some a) : ixD (.lst (o.map D.int)) (.int (k : Int)) = .ok (.int a) := by
  obtain ⟨hk, e⟩ := List.getElem?_eq_some_iff.mp h
  rw [ix_li hk, e]
theorem int_eq {i j : Int} (h : i = j) : D.int i = .int j := by rw [h]
theorem tree2 (c m : Int) (hm : 1 ≤ m ∧ m ≤ 40) : ∃ n o T, w_law_tree_v2 [.int c, .int m] = .ok (webD n (sortT T)) ∧ (1 ≤ n ∧ n ≤ m) ∧ OrdOk n o ∧ Grown o T ∧ (T.length : Int) + 1 = n := by
  have d0 := draw_2 (c := c) (k := 0) (b := m) (by decide) (by omega)
  have l0 := drw_lt (c := c) (k := 0) (b := m) (by omega)
  generalize hn : 1 + drw c 0 m = n
  have d1 := draw_2 (c := c) (k := 1) (b := 5) (by decide) (by decide)
  have l1 := drw_lt (c := c) (k := 1) (b := 5) (by decide)
  generalize drw c 1 5 = kind at d1 l1
  obtain ⟨o, ho, hO⟩ := turn_ok c n (by omega)
  have hol := hO.len
  obtain ⟨ρ', e, T, rfl, hl, g⟩ := for_rng (g := gN 6) (b := w_law_tree_v2_B1) (n := (n - 1).toNat) (lo := 1) (ρ := [.fz (.int c), .fz (.int m), .fz (.int n), .fz (.int kind), .fz (.lst (o.map D.int)), .ow (.lst []), .un, .un])
    (fun k ρ => ∃ T : List (Int × Int), ρ = [.fz (.int c), .fz (.int m), .fz (.int n), .fz (.int kind), .fz (.lst (o.map D.int)), .ow (.lst (T.map tieD)), .un, .un] ∧ T.length = k ∧ Grown o T) ⟨[], rfl, rfl, Grown.nil⟩ fun k ρ hk hi => by
      obtain ⟨T, rfl, hl, g⟩ := hi
      have e2 := draw_2 (c := c) (k := 2 + (1 + (k : Int))) (b := 1 + (k : Int)) (by omega) (by omega)
      have q2 := drw_lt (c := c) (k := 2 + (1 + (k : Int))) (b := 1 + (k : Int)) (by omega)
      have e3 := draw_2 (c := c) (k := 2 + (1 + (k : Int))) (b := 3) (by omega) (by omega)
      have q3 := drw_lt (c := c) (k := 2 + (1 + (k : Int))) (b := 3) (by omega)
      generalize drw c (2 + (1 + (k : Int))) (1 + (k : Int)) = r2 at e2 q2
      generalize drw c (2 + (1 + (k : Int))) 3 = r3 at e3 q3
      obtain ⟨x, hx, u, rfl, hu⟩ := pick (xs := [.int (1 + (k : Int) - 1), .int 0, .int r2, .int (if 1 + (k : Int) - 1 - r3 > 0 then 1 + (k : Int) - 1 - r3 else 0), .int ((1 + (k : Int)) / 2)]) (t := kind) l1 (Q := fun x => ∃ u : Nat, x = .int u ∧ u ≤ k)
        (al_cons ⟨k, int_eq (by omega), Nat.le_refl _⟩ (al_cons ⟨0, rfl, Nat.zero_le _⟩ (al_cons ⟨r2.toNat, int_eq (by omega), by omega⟩ (al_cons ⟨(if 1 + (k : Int) - 1 - r3 > 0 then 1 + (k : Int) - 1 - r3 else 0).toNat, int_eq (by split <;> omega), by split <;> omega⟩ (al_cons ⟨((1 + (k : Int)) / 2).toNat, int_eq (by omega), by omega⟩ al_nil)))))
      obtain ⟨a, ha⟩ : ∃ a, o[k + 1]? = some a := ⟨o[k + 1]'(by omega), List.getElem?_eq_getElem _⟩
      obtain ⟨b, hb⟩ : ∃ b, o[u]? = some b := ⟨o[u]'(by omega), List.getElem?_eq_getElem _⟩
      refine ⟨_, _, rfl, .inl ?_, T ++ [mmT a b], rfl, by rw [List.length_append, List.length_singleton, hl], g.snoc (by omega) (by rw [hl]; exact ha) hb⟩
      have i1 := ix_o ha
      rw [show ((k + 1 : Nat) : Int) = 1 + (k : Int) by omega] at i1
      have i2 := ix_o hb
      unfold w_law_tree_v2_B1
      simp (disch := first | omega | decide | (simp only [List.length_cons, List.length_nil, List.length_append, List.length_map, List.length_take, List.length_drop]; omega)) only [apC, apV, apVb, ap2, ap1, apB, apN, apX, aptB, aptV, apAnd, apOr, apNot, apeIf, apeAnd, apeOr, apeNot, apTup, apLst, apIt, apIts, apoN, apoS, apSl, ap3, apsN, apSeq, apSet, apOwn, apRet, apEx, apIf, apFrz, apT, apgN, apEnd, apLm, apGet2, apD1, apD2, apBV, wip_nx, wip_rt, wip_er, frz_fz, wipeF_cons, wipeF_nil, lstB_l, List.getElem?_cons_succ, List.getElem?_cons_zero, List.set_cons_succ, List.set_cons_zero, max2_i, min2_i, bindO, bindE, fdiv_s, mod_i, mul_s, mul_s', isi_ii, isi_ib, isi_it, isi_tt, isi_ll, isi_bb, len_l, len_t, len_s, it_l, it_t, mkL0, mkL1, mkL2, mkL3, mkL4, mkL5, mkL6, mkL7, mkL8, mkT0, mkT1, mkT2, mkT3, mkT4, mkT5, mkT6, mkT7, mkT8, add_i, sub_i, lt_i, le_i, gt_i, ge_i, eq_ib, ne_ib, decide_true, decide_false, tru_b, tru_i, tru_n, as_b, tru_l, tru_t, if_true, if_false, Bool.not_true, Bool.not_false, Bool.false_eq_true, list_l, list_t, tup_l, tup_t, endO_rt, endO_nx, endO_er, isNon_n, mkL9, mkL10, mkL11, mkL12, mkL13, mkL14, mkL15, mkL16, apsApp, appO_ok, appO_er, apsTup, tupO_2, tupO_3, negI, sl_t, cut_toD, cut_fromD, List.cons_append, List.nil_append, apRef, refO_ok, dro_fz, dro_un, dro_ow, dro_nil, e2, e3, fdiv_b, hx, i1, i2]
      rw [List.map_append]
      rfl
  refine ⟨n, o, T, ?_, by omega, hO, g, by omega⟩
  have lp : w_law_tree_v2_L1 [.fz (.int c), .fz (.int m), .fz (.int n), .fz (.int kind), .fz (.lst (o.map D.int)), .ow (.lst []), .un, .un] = .nx [.fz (.int c), .fz (.int m), .fz (.int n), .fz (.int kind), .fz (.lst (o.map D.int)), .ow (.lst (T.map tieD)), .un, .un] := for_go (by
    have r := rng2_int (m := 1) (n := n) (by omega)
    simp (disch := first | omega | decide | (simp only [List.length_cons, List.length_nil, List.length_append, List.length_map, List.length_take, List.length_drop]; omega)) only [apC, apV, apVb, ap2, ap1, apB, apN, apX, aptB, aptV, apAnd, apOr, apNot, apeIf, apeAnd, apeOr, apeNot, apTup, apLst, apIt, apIts, apoN, apoS, apSl, ap3, apsN, apSeq, apSet, apOwn, apRet, apEx, apIf, apFrz, apT, apgN, apEnd, apLm, apGet2, apD1, apD2, apBV, wip_nx, wip_rt, wip_er, frz_fz, wipeF_cons, wipeF_nil, lstB_l, List.getElem?_cons_succ, List.getElem?_cons_zero, List.set_cons_succ, List.set_cons_zero, max2_i, min2_i, bindO, bindE, fdiv_s, mod_i, mul_s, mul_s', isi_ii, isi_ib, isi_it, isi_tt, isi_ll, isi_bb, len_l, len_t, len_s, it_l, it_t, mkL0, mkL1, mkL2, mkL3, mkL4, mkL5, mkL6, mkL7, mkL8, mkT0, mkT1, mkT2, mkT3, mkT4, mkT5, mkT6, mkT7, mkT8, add_i, sub_i, lt_i, le_i, gt_i, ge_i, eq_ib, ne_ib, decide_true, decide_false, tru_b, tru_i, tru_n, as_b, tru_l, tru_t, if_true, if_false, Bool.not_true, Bool.not_false, Bool.false_eq_true, list_l, list_t, tup_l, tup_t, endO_rt, endO_nx, endO_er, isNon_n, mkL9, mkL10, mkL11, mkL12, mkL13, mkL14, mkL15, mkL16, apsApp, appO_ok, appO_er, apsTup, tupO_2, tupO_3, negI, sl_t, cut_toD, cut_fromD, List.cons_append, List.nil_append, apRef, refO_ok, dro_fz, dro_un, dro_ow, dro_nil, r]) e
  rw [go_w_law_tree_v2]
  unfold w_law_tree_v2_S
  simp (disch := first | omega | decide | (simp only [List.length_cons, List.length_nil, List.length_append, List.length_map, List.length_take, List.length_drop]; omega)) only [apC, apV, apVb, ap2, ap1, apB, apN, apX, aptB, aptV, apAnd, apOr, apNot, apeIf, apeAnd, apeOr, apeNot, apTup, apLst, apIt, apIts, apoN, apoS, apSl, ap3, apsN, apSeq, apSet, apOwn, apRet, apEx, apIf, apFrz, apT, apgN, apEnd, apLm, apGet2, apD1, apD2, apBV, wip_nx, wip_rt, wip_er, frz_fz, wipeF_cons, wipeF_nil, lstB_l, List.getElem?_cons_succ, List.getElem?_cons_zero, List.set_cons_succ, List.set_cons_zero, max2_i, min2_i, bindO, bindE, fdiv_s, mod_i, mul_s, mul_s', isi_ii, isi_ib, isi_it, isi_tt, isi_ll, isi_bb, len_l, len_t, len_s, it_l, it_t, mkL0, mkL1, mkL2, mkL3, mkL4, mkL5, mkL6, mkL7, mkL8, mkT0, mkT1, mkT2, mkT3, mkT4, mkT5, mkT6, mkT7, mkT8, add_i, sub_i, lt_i, le_i, gt_i, ge_i, eq_ib, ne_ib, decide_true, decide_false, tru_b, tru_i, tru_n, as_b, tru_l, tru_t, if_true, if_false, Bool.not_true, Bool.not_false, Bool.false_eq_true, list_l, list_t, tup_l, tup_t, endO_rt, endO_nx, endO_er, isNon_n, mkL9, mkL10, mkL11, mkL12, mkL13, mkL14, mkL15, mkL16, apsApp, appO_ok, appO_er, apsTup, tupO_2, tupO_3, negI, sl_t, cut_toD, cut_fromD, List.cons_append, List.nil_append, apRef, refO_ok, dro_fz, dro_un, dro_ow, dro_nil, d0, hn, d1, ho, lp, sorted_ties]
end PB

namespace PB
open PySem PySem.Spec PyProof.Rows L2 LamX
/-! ### S9: a tree with more ties -/
theorem tie_eqv {p q : Int × Int} : PyData.eqv (tieD q).py (tieD p).py = decide (q = p) := by
  have := eqv_ti (xs := [q.1, q.2]) (ys := [p.1, p.2])
  have e : decide ([q.1, q.2] = [p.1, p.2]) = decide (q = p) := by
    by_cases h : q = p
    · subst h; simp
    · rw [decide_eq_false h, decide_eq_false]
      intro e
      have e1 := (List.cons.inj e).1
      have e2 := (List.cons.inj (List.cons.inj e).2).1
      exact h (Prod.ext e1 e2)
  rw [← e]
  exact this
theorem any_ties {p : Int × Int} : ∀ {T : List (Int × Int)}, ((T.map tieD).any fun z => PyData.eqv z.py (tieD p).py) = decide (p ∈ T)
  | [] => rfl
  | q :: T => by
    rw [List.map_cons, List.any_cons, any_ties, tie_eqv]
    by_cases h : q = p
    · subst h
      rw [decide_eq_true rfl, decide_eq_true List.mem_cons_self]
      rfl
    · rw [decide_eq_false h, Bool.false_or]
      by_cases h2 : p ∈ T
      · rw [decide_eq_true h2, decide_eq_true (List.mem_cons_of_mem _ h2)]
      · rw [decide_eq_false h2, decide_eq_false fun e => (List.mem_cons.mp e).elim (fun e => h e.symm) h2]
theorem in_ties {p : Int × Int} {T : List (Int × Int)} : inD (tieD p) (.tup (T.map tieD)) = .ok (.bl (decide (p ∈ T))) := by
  rw [← any_ties]
  exact if_pos ⟨(shd_tie p).sh (by decide), (shd_t (k := 1) (shd_ties T)).sh (by decide)⟩
theorem notin_ties {p : Int × Int} {T : List (Int × Int)} : notInD (tieD p) (.tup (T.map tieD)) = .ok (.bl (!decide (p ∈ T))) := by
  show (inD _ _).bind notB = _
  rw [in_ties]
  rfl
/-- ties put to others, rising, none twice, all below (i, j) -/
def More (n : Int) (S X : List (Int × Int)) (i j : Int) : Prop := X.Pairwise (fun p q => ltP p q = true) ∧ ∀ x ∈ X, x ∉ S ∧ (0 ≤ x.1 ∧ x.1 < x.2 ∧ x.2 < n) ∧ (x.1 < i ∨ (x.1 = i ∧ x.2 < j))
theorem More.len {n : Int} {S X : List (Int × Int)} {i j : Int} (m : More n S X i j) (h1 : 1 ≤ n) (h2 : n ≤ 40) : X.length ≤ 1600 := (show WebOk n X from ⟨h1, h2, fun p hp => (m.2 p hp).2.1, rises_of m.1⟩).len
theorem More.snoc {n : Int} {S X : List (Int × Int)} {i j : Int} (m : More n S X i j) (hs : (i, j) ∉ S) (h : 0 ≤ i ∧ i < j ∧ j < n) : More n S (X ++ [(i, j)]) i (j + 1) := by
  refine ⟨List.pairwise_append.mpr ⟨m.1, by simp, fun x hx y hy => ?_⟩, fun x hx => ?_⟩
  · rw [List.mem_singleton.mp hy, ltP_iff]
    exact (m.2 x hx).2.2
  · rcases List.mem_append.mp hx with hx | hx
    · obtain ⟨a, b, c⟩ := m.2 x hx
      exact ⟨a, b, by omega⟩
    · rw [List.mem_singleton.mp hx]
      exact ⟨hs, h, by dsimp only; omega⟩
theorem More.up {n : Int} {S X : List (Int × Int)} {i j i' j' : Int} (m : More n S X i j) (h : i < i' ∨ (i = i' ∧ j ≤ j')) : More n S X i' j' := ⟨m.1, fun x hx => by
  obtain ⟨a, b, c⟩ := m.2 x hx
  exact ⟨a, b, by omega⟩⟩
theorem web2 (c m : Int) (hm : 1 ≤ m ∧ m ≤ 40) : ∃ n ps, w_law_web_v2 [.int c, .int m] = .ok (webD n ps) ∧ WebOk n ps ∧ Whole n ps ∧ n ≤ m := by
  obtain ⟨n, o, T, ht, hn, hO, g, hl⟩ := tree2 c m hm
  have d := draw_2 (c := c) (k := 60) (b := 5) (by decide) (by decide)
  have dl := drw_lt (c := c) (k := 60) (b := 5) (by decide)
  generalize drw c 60 5 = v at d dl
  obtain ⟨x, hx, thick, rfl⟩ := pick (xs := [.int 0, .int 1, .int 3, .int 6, .int 8]) (t := v) dl (Q := fun x => ∃ i, x = .int i) (al_cons ⟨_, rfl⟩ (al_cons ⟨_, rfl⟩ (al_cons ⟨_, rfl⟩ (al_cons ⟨_, rfl⟩ (al_cons ⟨_, rfl⟩ al_nil)))))
  obtain ⟨N, hN⟩ : ∃ N : Nat, n = N := ⟨n.toNat, by omega⟩
  have wT := web_sort (n := n) (T := T) hn.1 (by omega) (g.valid hO) (g.nodup hO)
  have lT := wT.len
  generalize hS : sortT T = S at *
  have inner : ∀ (i : Nat) (spot : Int) (X : List (Int × Int)), (i : Int) < n → More n S X i ((i : Int) + 1) → ∃ spot' X', w_law_web_v2_L1 [.fz (.int c), .fz (.int m), .fz (.int n), .fz (.tup (S.map tieD)), .fz (.int thick), .ow (.lst ((S ++ X).map tieD)), .fz (.int spot), .fz (.int (i : Int)), .un] = .nx [.fz (.int c), .fz (.int m), .fz (.int n), .fz (.tup (S.map tieD)), .fz (.int thick), .ow (.lst ((S ++ X').map tieD)), .fz (.int spot'), .fz (.int (i : Int)), .un] ∧ More n S X' ((i : Int) + 1) 0 := by
    intro i spot X hi hX
    obtain ⟨ρ', e, spot', X', rfl, hX'⟩ := for_rng (g := gN 8) (b := w_law_web_v2_B1) (n := (n - ((i : Int) + 1)).toNat) (lo := (i : Int) + 1) (ρ := [.fz (.int c), .fz (.int m), .fz (.int n), .fz (.tup (S.map tieD)), .fz (.int thick), .ow (.lst ((S ++ X).map tieD)), .fz (.int spot), .fz (.int (i : Int)), .un])
      (fun k ρ => ∃ (spot : Int) (X : List (Int × Int)), ρ = [.fz (.int c), .fz (.int m), .fz (.int n), .fz (.tup (S.map tieD)), .fz (.int thick), .ow (.lst ((S ++ X).map tieD)), .fz (.int spot), .fz (.int (i : Int)), .un] ∧ More n S X i ((i : Int) + 1 + (k : Int))) ⟨spot, X, rfl, hX.up (by omega)⟩ fun k ρ hk hI => by
        obtain ⟨spot, X, rfl, hX⟩ := hI
        have e2 := draw_2 (c := c) (k := 200 + (spot + 1) % 300) (b := 8) (by omega) (by decide)
        generalize drw c (200 + (spot + 1) % 300) 8 = r at e2
        have ni := notin_ties (p := ((i : Int), (i : Int) + 1 + (k : Int))) (T := S)
        have hXl := hX.len hn.1 (by omega)
        have td : tieD ((i : Int), (i : Int) + 1 + (k : Int)) = .tup [.int (i : Int), .int ((i : Int) + 1 + (k : Int))] := rfl
        rw [td] at ni
        have no : ∀ b : Bool, notInD (.tup [.int (i : Int), .int ((i : Int) + 1 + (k : Int))]) (.tup (S.map tieD)) = .ok (.bl b) → (b = false ∨ decide (r < thick) = false) → w_law_web_v2_B1 [.fz (.int c), .fz (.int m), .fz (.int n), .fz (.tup (S.map tieD)), .fz (.int thick), .ow (.lst ((S ++ X).map tieD)), .fz (.int spot), .fz (.int (i : Int)), .fz (.int ((i : Int) + 1 + (k : Int)))] = .nx [.fz (.int c), .fz (.int m), .fz (.int n), .fz (.tup (S.map tieD)), .fz (.int thick), .ow (.lst ((S ++ X).map tieD)), .fz (.int (spot + 1)), .fz (.int (i : Int)), .un] := fun b ni hb => by
          unfold w_law_web_v2_B1
          cases b with
          | false => simp (disch := first | omega | decide | (simp only [List.length_cons, List.length_nil, List.length_append, List.length_map, List.length_take, List.length_drop]; omega)) only [apC, apV, apVb, ap2, ap1, apB, apN, apX, aptB, aptV, apAnd, apOr, apNot, apeIf, apeAnd, apeOr, apeNot, apTup, apLst, apIt, apIts, apoN, apoS, apSl, ap3, apsN, apSeq, apSet, apOwn, apRet, apEx, apIf, apFrz, apT, apgN, apEnd, apLm, apGet2, apD1, apD2, apBV, wip_nx, wip_rt, wip_er, frz_fz, wipeF_cons, wipeF_nil, lstB_l, List.getElem?_cons_succ, List.getElem?_cons_zero, List.set_cons_succ, List.set_cons_zero, max2_i, min2_i, bindO, bindE, fdiv_s, mod_i, mul_s, mul_s', isi_ii, isi_ib, isi_it, isi_tt, isi_ll, isi_bb, len_l, len_t, len_s, it_l, it_t, mkL0, mkL1, mkL2, mkL3, mkL4, mkL5, mkL6, mkL7, mkL8, mkT0, mkT1, mkT2, mkT3, mkT4, mkT5, mkT6, mkT7, mkT8, add_i, sub_i, lt_i, le_i, gt_i, ge_i, eq_ib, ne_ib, decide_true, decide_false, tru_b, tru_i, tru_n, as_b, tru_l, tru_t, if_true, if_false, Bool.not_true, Bool.not_false, Bool.false_eq_true, list_l, list_t, tup_l, tup_t, endO_rt, endO_nx, endO_er, isNon_n, mkL9, mkL10, mkL11, mkL12, mkL13, mkL14, mkL15, mkL16, apsApp, appO_ok, appO_er, apsTup, tupO_2, tupO_3, negI, sl_t, cut_toD, cut_fromD, List.cons_append, List.nil_append, apRef, refO_ok, dro_fz, dro_un, dro_ow, dro_nil, ni]
          | true =>
            rcases hb with hb | hb
            · cases hb
            · simp (disch := first | omega | decide | (simp only [List.length_cons, List.length_nil, List.length_append, List.length_map, List.length_take, List.length_drop]; omega)) only [apC, apV, apVb, ap2, ap1, apB, apN, apX, aptB, aptV, apAnd, apOr, apNot, apeIf, apeAnd, apeOr, apeNot, apTup, apLst, apIt, apIts, apoN, apoS, apSl, ap3, apsN, apSeq, apSet, apOwn, apRet, apEx, apIf, apFrz, apT, apgN, apEnd, apLm, apGet2, apD1, apD2, apBV, wip_nx, wip_rt, wip_er, frz_fz, wipeF_cons, wipeF_nil, lstB_l, List.getElem?_cons_succ, List.getElem?_cons_zero, List.set_cons_succ, List.set_cons_zero, max2_i, min2_i, bindO, bindE, fdiv_s, mod_i, mul_s, mul_s', isi_ii, isi_ib, isi_it, isi_tt, isi_ll, isi_bb, len_l, len_t, len_s, it_l, it_t, mkL0, mkL1, mkL2, mkL3, mkL4, mkL5, mkL6, mkL7, mkL8, mkT0, mkT1, mkT2, mkT3, mkT4, mkT5, mkT6, mkT7, mkT8, add_i, sub_i, lt_i, le_i, gt_i, ge_i, eq_ib, ne_ib, decide_true, decide_false, tru_b, tru_i, tru_n, as_b, tru_l, tru_t, if_true, if_false, Bool.not_true, Bool.not_false, Bool.false_eq_true, list_l, list_t, tup_l, tup_t, endO_rt, endO_nx, endO_er, isNon_n, mkL9, mkL10, mkL11, mkL12, mkL13, mkL14, mkL15, mkL16, apsApp, appO_ok, appO_er, apsTup, tupO_2, tupO_3, negI, sl_t, cut_toD, cut_fromD, List.cons_append, List.nil_append, apRef, refO_ok, dro_fz, dro_un, dro_ow, dro_nil, ni, e2, hb]
        by_cases h1 : ((i : Int), (i : Int) + 1 + (k : Int)) ∈ S
        · rw [decide_eq_true h1] at ni
          exact ⟨_, _, rfl, .inl (no _ ni (.inl rfl)), spot + 1, X, rfl, hX.up (by omega)⟩
        · rw [decide_eq_false h1] at ni
          by_cases h2 : r < thick
          · refine ⟨_, [.fz (.int c), .fz (.int m), .fz (.int n), .fz (.tup (S.map tieD)), .fz (.int thick), .ow (.lst ((S ++ (X ++ [((i : Int), (i : Int) + 1 + (k : Int))])).map tieD)), .fz (.int (spot + 1)), .fz (.int (i : Int)), .un], rfl, .inl ?_, spot + 1, _, rfl, (hX.snoc h1 (by omega)).up (by omega)⟩
            unfold w_law_web_v2_B1
            simp (disch := first | omega | decide | (simp only [List.length_cons, List.length_nil, List.length_append, List.length_map, List.length_take, List.length_drop]; omega)) only [apC, apV, apVb, ap2, ap1, apB, apN, apX, aptB, aptV, apAnd, apOr, apNot, apeIf, apeAnd, apeOr, apeNot, apTup, apLst, apIt, apIts, apoN, apoS, apSl, ap3, apsN, apSeq, apSet, apOwn, apRet, apEx, apIf, apFrz, apT, apgN, apEnd, apLm, apGet2, apD1, apD2, apBV, wip_nx, wip_rt, wip_er, frz_fz, wipeF_cons, wipeF_nil, lstB_l, List.getElem?_cons_succ, List.getElem?_cons_zero, List.set_cons_succ, List.set_cons_zero, max2_i, min2_i, bindO, bindE, fdiv_s, mod_i, mul_s, mul_s', isi_ii, isi_ib, isi_it, isi_tt, isi_ll, isi_bb, len_l, len_t, len_s, it_l, it_t, mkL0, mkL1, mkL2, mkL3, mkL4, mkL5, mkL6, mkL7, mkL8, mkT0, mkT1, mkT2, mkT3, mkT4, mkT5, mkT6, mkT7, mkT8, add_i, sub_i, lt_i, le_i, gt_i, ge_i, eq_ib, ne_ib, decide_true, decide_false, tru_b, tru_i, tru_n, as_b, tru_l, tru_t, if_true, if_false, Bool.not_true, Bool.not_false, Bool.false_eq_true, list_l, list_t, tup_l, tup_t, endO_rt, endO_nx, endO_er, isNon_n, mkL9, mkL10, mkL11, mkL12, mkL13, mkL14, mkL15, mkL16, apsApp, appO_ok, appO_er, apsTup, tupO_2, tupO_3, negI, sl_t, cut_toD, cut_fromD, List.cons_append, List.nil_append, apRef, refO_ok, dro_fz, dro_un, dro_ow, dro_nil, ni, e2, decide_eq_true h2]
            rw [← List.append_assoc, List.map_append (l₂ := [_])]
            rfl
          · exact ⟨_, _, rfl, .inl (no _ ni (.inr (decide_eq_false h2))), spot + 1, X, rfl, hX.up (by omega)⟩
    refine ⟨spot', X', for_go (by
      have r := rng2_int (m := (i : Int) + 1) (n := n) (by omega)
      simp (disch := first | omega | decide | (simp only [List.length_cons, List.length_nil, List.length_append, List.length_map, List.length_take, List.length_drop]; omega)) only [apC, apV, apVb, ap2, ap1, apB, apN, apX, aptB, aptV, apAnd, apOr, apNot, apeIf, apeAnd, apeOr, apeNot, apTup, apLst, apIt, apIts, apoN, apoS, apSl, ap3, apsN, apSeq, apSet, apOwn, apRet, apEx, apIf, apFrz, apT, apgN, apEnd, apLm, apGet2, apD1, apD2, apBV, wip_nx, wip_rt, wip_er, frz_fz, wipeF_cons, wipeF_nil, lstB_l, List.getElem?_cons_succ, List.getElem?_cons_zero, List.set_cons_succ, List.set_cons_zero, max2_i, min2_i, bindO, bindE, fdiv_s, mod_i, mul_s, mul_s', isi_ii, isi_ib, isi_it, isi_tt, isi_ll, isi_bb, len_l, len_t, len_s, it_l, it_t, mkL0, mkL1, mkL2, mkL3, mkL4, mkL5, mkL6, mkL7, mkL8, mkT0, mkT1, mkT2, mkT3, mkT4, mkT5, mkT6, mkT7, mkT8, add_i, sub_i, lt_i, le_i, gt_i, ge_i, eq_ib, ne_ib, decide_true, decide_false, tru_b, tru_i, tru_n, as_b, tru_l, tru_t, if_true, if_false, Bool.not_true, Bool.not_false, Bool.false_eq_true, list_l, list_t, tup_l, tup_t, endO_rt, endO_nx, endO_er, isNon_n, mkL9, mkL10, mkL11, mkL12, mkL13, mkL14, mkL15, mkL16, apsApp, appO_ok, appO_er, apsTup, tupO_2, tupO_3, negI, sl_t, cut_toD, cut_fromD, List.cons_append, List.nil_append, apRef, refO_ok, dro_fz, dro_un, dro_ow, dro_nil, r]) e, hX'.up (by omega)⟩
  obtain ⟨ρ', e, spot', X, rfl, hX⟩ := for_rng (g := gN 7) (b := w_law_web_v2_B2) (n := n.toNat) (lo := 0) (ρ := [.fz (.int c), .fz (.int m), .fz (.int n), .fz (.tup (S.map tieD)), .fz (.int thick), .ow (.lst (S.map tieD)), .fz (.int 0), .un, .un])
    (fun k ρ => ∃ (spot : Int) (X : List (Int × Int)), ρ = [.fz (.int c), .fz (.int m), .fz (.int n), .fz (.tup (S.map tieD)), .fz (.int thick), .ow (.lst ((S ++ X).map tieD)), .fz (.int spot), .un, .un] ∧ More n S X (k : Int) 0) ⟨0, [], by rw [List.append_nil], by simp, fun x hx => (by cases hx)⟩ fun k ρ hk hI => by
      obtain ⟨spot, X, rfl, hX⟩ := hI
      obtain ⟨spot', X', e, hX'⟩ := inner k spot X (by omega) ⟨hX.1, fun x hx => by
        obtain ⟨a, b, c⟩ := hX.2 x hx
        exact ⟨a, b, by omega⟩⟩
      refine ⟨_, [.fz (.int c), .fz (.int m), .fz (.int n), .fz (.tup (S.map tieD)), .fz (.int thick), .ow (.lst ((S ++ X').map tieD)), .fz (.int spot'), .un, .un], rfl, .inl ?_, spot', X', rfl, hX'⟩
      rw [Int.zero_add]
      unfold w_law_web_v2_B2
      simp (disch := first | omega | decide | (simp only [List.length_cons, List.length_nil, List.length_append, List.length_map, List.length_take, List.length_drop]; omega)) only [apC, apV, apVb, ap2, ap1, apB, apN, apX, aptB, aptV, apAnd, apOr, apNot, apeIf, apeAnd, apeOr, apeNot, apTup, apLst, apIt, apIts, apoN, apoS, apSl, ap3, apsN, apSeq, apSet, apOwn, apRet, apEx, apIf, apFrz, apT, apgN, apEnd, apLm, apGet2, apD1, apD2, apBV, wip_nx, wip_rt, wip_er, frz_fz, wipeF_cons, wipeF_nil, lstB_l, List.getElem?_cons_succ, List.getElem?_cons_zero, List.set_cons_succ, List.set_cons_zero, max2_i, min2_i, bindO, bindE, fdiv_s, mod_i, mul_s, mul_s', isi_ii, isi_ib, isi_it, isi_tt, isi_ll, isi_bb, len_l, len_t, len_s, it_l, it_t, mkL0, mkL1, mkL2, mkL3, mkL4, mkL5, mkL6, mkL7, mkL8, mkT0, mkT1, mkT2, mkT3, mkT4, mkT5, mkT6, mkT7, mkT8, add_i, sub_i, lt_i, le_i, gt_i, ge_i, eq_ib, ne_ib, decide_true, decide_false, tru_b, tru_i, tru_n, as_b, tru_l, tru_t, if_true, if_false, Bool.not_true, Bool.not_false, Bool.false_eq_true, list_l, list_t, tup_l, tup_t, endO_rt, endO_nx, endO_er, isNon_n, mkL9, mkL10, mkL11, mkL12, mkL13, mkL14, mkL15, mkL16, apsApp, appO_ok, appO_er, apsTup, tupO_2, tupO_3, negI, sl_t, cut_toD, cut_fromD, List.cons_append, List.nil_append, apRef, refO_ok, dro_fz, dro_un, dro_ow, dro_nil, e]
  have lp : w_law_web_v2_L2 [.fz (.int c), .fz (.int m), .fz (.int n), .fz (.tup (S.map tieD)), .fz (.int thick), .ow (.lst (S.map tieD)), .fz (.int 0), .un, .un] = .nx [.fz (.int c), .fz (.int m), .fz (.int n), .fz (.tup (S.map tieD)), .fz (.int thick), .ow (.lst ((S ++ X).map tieD)), .fz (.int spot'), .un, .un] := for_go (by
    have r := rng1_int (n := n) (by omega) (by omega)
    simp (disch := first | omega | decide | (simp only [List.length_cons, List.length_nil, List.length_append, List.length_map, List.length_take, List.length_drop]; omega)) only [apC, apV, apVb, ap2, ap1, apB, apN, apX, aptB, aptV, apAnd, apOr, apNot, apeIf, apeAnd, apeOr, apeNot, apTup, apLst, apIt, apIts, apoN, apoS, apSl, ap3, apsN, apSeq, apSet, apOwn, apRet, apEx, apIf, apFrz, apT, apgN, apEnd, apLm, apGet2, apD1, apD2, apBV, wip_nx, wip_rt, wip_er, frz_fz, wipeF_cons, wipeF_nil, lstB_l, List.getElem?_cons_succ, List.getElem?_cons_zero, List.set_cons_succ, List.set_cons_zero, max2_i, min2_i, bindO, bindE, fdiv_s, mod_i, mul_s, mul_s', isi_ii, isi_ib, isi_it, isi_tt, isi_ll, isi_bb, len_l, len_t, len_s, it_l, it_t, mkL0, mkL1, mkL2, mkL3, mkL4, mkL5, mkL6, mkL7, mkL8, mkT0, mkT1, mkT2, mkT3, mkT4, mkT5, mkT6, mkT7, mkT8, add_i, sub_i, lt_i, le_i, gt_i, ge_i, eq_ib, ne_ib, decide_true, decide_false, tru_b, tru_i, tru_n, as_b, tru_l, tru_t, if_true, if_false, Bool.not_true, Bool.not_false, Bool.false_eq_true, list_l, list_t, tup_l, tup_t, endO_rt, endO_nx, endO_er, isNon_n, mkL9, mkL10, mkL11, mkL12, mkL13, mkL14, mkL15, mkL16, apsApp, appO_ok, appO_er, apsTup, tupO_2, tupO_3, negI, sl_t, cut_toD, cut_fromD, List.cons_append, List.nil_append, apRef, refO_ok, dro_fz, dro_un, dro_ow, dro_nil, r]) e
  have hnd : (S ++ X).Nodup := List.nodup_append.mpr ⟨by rw [← hS]; exact (sortT_perm T).nodup_iff.mpr (g.nodup hO), hX.1.imp fun {a b} h e => by
      subst e
      rw [ltP_iff] at h
      omega, fun a ha b hb e => (hX.2 b hb).1 (e ▸ ha)⟩
  refine ⟨n, sortT (S ++ X), ?_, web_sort hn.1 (by omega) (fun p hp => ?_) hnd, g.whole hO hn.1 hl fun p hp => ?_, hn.2⟩
  · rw [go_w_law_web_v2]
    unfold w_law_web_v2_S
    simp (disch := first | omega | decide | (simp only [List.length_cons, List.length_nil, List.length_append, List.length_map, List.length_take, List.length_drop]; omega)) only [apC, apV, apVb, ap2, ap1, apB, apN, apX, aptB, aptV, apAnd, apOr, apNot, apeIf, apeAnd, apeOr, apeNot, apTup, apLst, apIt, apIts, apoN, apoS, apSl, ap3, apsN, apSeq, apSet, apOwn, apRet, apEx, apIf, apFrz, apT, apgN, apEnd, apLm, apGet2, apD1, apD2, apBV, wip_nx, wip_rt, wip_er, frz_fz, wipeF_cons, wipeF_nil, lstB_l, List.getElem?_cons_succ, List.getElem?_cons_zero, List.set_cons_succ, List.set_cons_zero, max2_i, min2_i, bindO, bindE, fdiv_s, mod_i, mul_s, mul_s', isi_ii, isi_ib, isi_it, isi_tt, isi_ll, isi_bb, len_l, len_t, len_s, it_l, it_t, mkL0, mkL1, mkL2, mkL3, mkL4, mkL5, mkL6, mkL7, mkL8, mkT0, mkT1, mkT2, mkT3, mkT4, mkT5, mkT6, mkT7, mkT8, add_i, sub_i, lt_i, le_i, gt_i, ge_i, eq_ib, ne_ib, decide_true, decide_false, tru_b, tru_i, tru_n, as_b, tru_l, tru_t, if_true, if_false, Bool.not_true, Bool.not_false, Bool.false_eq_true, list_l, list_t, tup_l, tup_t, endO_rt, endO_nx, endO_er, isNon_n, mkL9, mkL10, mkL11, mkL12, mkL13, mkL14, mkL15, mkL16, apsApp, appO_ok, appO_er, apsTup, tupO_2, tupO_3, negI, sl_t, cut_toD, cut_fromD, List.cons_append, List.nil_append, apRef, refO_ok, dro_fz, dro_un, dro_ow, dro_nil, ht, d, hx, lp, sorted_ties]
  · rcases List.mem_append.mp hp with hp | hp
    · exact wT.ties p hp
    · exact (hX.2 p hp).2.1
  · refine sortT_mem.mpr (List.mem_append_left _ ?_)
    rw [← hS]
    exact sortT_mem.mpr hp
end PB

namespace PB
open PySem PySem.Spec PyProof.Rows L2 LamX
/-! ### S10: demands -/
def demB (n : Int) : D → Bool
  | .tup xs => decide ((xs.length : Int) = n) && xs.all (numB 1 (1000 + 1))
  | _ => false
theorem good_dem {n : Int} {y d : D} (h : TL d) : w_good_demands [.tup [.int n, y], d] = .ok (.bl (demB n d)) := by
  rw [go_w_good_demands]
  unfold w_good_demands_S
  by_cases ht : ∃ xs, d = .tup xs
  · obtain ⟨xs, rfl⟩ := ht
    by_cases hl : (xs.length : Int) = n
    · have c : w_good_demands_C1 [.fz (.tup [.int n, y]), .fz (.tup xs), .un] = .ok (.lst ((xs.map (numB 1 (1000 + 1))).map D.bl)) := lc_all _ rfl rfl fun d hd => ⟨_, rfl, by
        have := w_num (h.2 xs rfl d hd) 1 (1000 + 1)
        simp (disch := first | omega | decide | (simp only [List.length_cons, List.length_nil, List.length_append, List.length_map, List.length_take, List.length_drop]; omega)) only [apC, apV, apVb, ap2, ap1, apB, apN, apX, aptB, aptV, apAnd, apOr, apNot, apeIf, apeAnd, apeOr, apeNot, apTup, apLst, apIt, apIts, apoN, apoS, apSl, ap3, apsN, apSeq, apSet, apOwn, apRet, apEx, apIf, apFrz, apT, apgN, apEnd, apLm, apGet2, apD1, apD2, apBV, wip_nx, wip_rt, wip_er, frz_fz, wipeF_cons, wipeF_nil, lstB_l, List.getElem?_cons_succ, List.getElem?_cons_zero, List.set_cons_succ, List.set_cons_zero, max2_i, min2_i, bindO, bindE, fdiv_s, mod_i, mul_s, mul_s', isi_ii, isi_ib, isi_it, isi_tt, isi_ll, isi_bb, len_l, len_t, len_s, it_l, it_t, mkL0, mkL1, mkL2, mkL3, mkL4, mkL5, mkL6, mkL7, mkL8, mkT0, mkT1, mkT2, mkT3, mkT4, mkT5, mkT6, mkT7, mkT8, add_i, sub_i, lt_i, le_i, gt_i, ge_i, eq_ib, ne_ib, decide_true, decide_false, tru_b, tru_i, tru_n, as_b, tru_l, tru_t, if_true, if_false, Bool.not_true, Bool.not_false, Bool.false_eq_true, list_l, list_t, tup_l, tup_t, endO_rt, endO_nx, endO_er, isNon_n, mkL9, mkL10, mkL11, mkL12, mkL13, mkL14, mkL15, mkL16, apsApp, appO_ok, appO_er, apsTup, tupO_2, tupO_3, negI, sl_t, cut_toD, cut_fromD, List.cons_append, List.nil_append, apRef, refO_ok, dro_fz, dro_un, dro_ow, dro_nil, this]⟩
      simp (disch := first | omega | decide | (simp only [List.length_cons, List.length_nil, List.length_append, List.length_map, List.length_take, List.length_drop]; omega)) only [apC, apV, apVb, ap2, ap1, apB, apN, apX, aptB, aptV, apAnd, apOr, apNot, apeIf, apeAnd, apeOr, apeNot, apTup, apLst, apIt, apIts, apoN, apoS, apSl, ap3, apsN, apSeq, apSet, apOwn, apRet, apEx, apIf, apFrz, apT, apgN, apEnd, apLm, apGet2, apD1, apD2, apBV, wip_nx, wip_rt, wip_er, frz_fz, wipeF_cons, wipeF_nil, lstB_l, List.getElem?_cons_succ, List.getElem?_cons_zero, List.set_cons_succ, List.set_cons_zero, max2_i, min2_i, bindO, bindE, fdiv_s, mod_i, mul_s, mul_s', isi_ii, isi_ib, isi_it, isi_tt, isi_ll, isi_bb, len_l, len_t, len_s, it_l, it_t, mkL0, mkL1, mkL2, mkL3, mkL4, mkL5, mkL6, mkL7, mkL8, mkT0, mkT1, mkT2, mkT3, mkT4, mkT5, mkT6, mkT7, mkT8, add_i, sub_i, lt_i, le_i, gt_i, ge_i, eq_ib, ne_ib, decide_true, decide_false, tru_b, tru_i, tru_n, as_b, tru_l, tru_t, if_true, if_false, Bool.not_true, Bool.not_false, Bool.false_eq_true, list_l, list_t, tup_l, tup_t, endO_rt, endO_nx, endO_er, isNon_n, mkL9, mkL10, mkL11, mkL12, mkL13, mkL14, mkL15, mkL16, apsApp, appO_ok, appO_er, apsTup, tupO_2, tupO_3, negI, sl_t, cut_toD, cut_fromD, List.cons_append, List.nil_append, apRef, refO_ok, dro_fz, dro_un, dro_ow, dro_nil, ix0, decide_eq_true hl, c, all_ok, all_map_id]
      show _ = R.ok (D.bl (decide ((xs.length : Int) = n) && _))
      rw [decide_eq_true hl]
      rfl
    · simp (disch := first | omega | decide | (simp only [List.length_cons, List.length_nil, List.length_append, List.length_map, List.length_take, List.length_drop]; omega)) only [apC, apV, apVb, ap2, ap1, apB, apN, apX, aptB, aptV, apAnd, apOr, apNot, apeIf, apeAnd, apeOr, apeNot, apTup, apLst, apIt, apIts, apoN, apoS, apSl, ap3, apsN, apSeq, apSet, apOwn, apRet, apEx, apIf, apFrz, apT, apgN, apEnd, apLm, apGet2, apD1, apD2, apBV, wip_nx, wip_rt, wip_er, frz_fz, wipeF_cons, wipeF_nil, lstB_l, List.getElem?_cons_succ, List.getElem?_cons_zero, List.set_cons_succ, List.set_cons_zero, max2_i, min2_i, bindO, bindE, fdiv_s, mod_i, mul_s, mul_s', isi_ii, isi_ib, isi_it, isi_tt, isi_ll, isi_bb, len_l, len_t, len_s, it_l, it_t, mkL0, mkL1, mkL2, mkL3, mkL4, mkL5, mkL6, mkL7, mkL8, mkT0, mkT1, mkT2, mkT3, mkT4, mkT5, mkT6, mkT7, mkT8, add_i, sub_i, lt_i, le_i, gt_i, ge_i, eq_ib, ne_ib, decide_true, decide_false, tru_b, tru_i, tru_n, as_b, tru_l, tru_t, if_true, if_false, Bool.not_true, Bool.not_false, Bool.false_eq_true, list_l, list_t, tup_l, tup_t, endO_rt, endO_nx, endO_er, isNon_n, mkL9, mkL10, mkL11, mkL12, mkL13, mkL14, mkL15, mkL16, apsApp, appO_ok, appO_er, apsTup, tupO_2, tupO_3, negI, sl_t, cut_toD, cut_fromD, List.cons_append, List.nil_append, apRef, refO_ok, dro_fz, dro_un, dro_ow, dro_nil, ix0, decide_eq_false hl]
      show _ = R.ok (D.bl (decide ((xs.length : Int) = n) && _))
      rw [decide_eq_false hl]
      rfl
  · simp (disch := first | omega | decide | (simp only [List.length_cons, List.length_nil, List.length_append, List.length_map, List.length_take, List.length_drop]; omega)) only [apC, apV, apVb, ap2, ap1, apB, apN, apX, aptB, aptV, apAnd, apOr, apNot, apeIf, apeAnd, apeOr, apeNot, apTup, apLst, apIt, apIts, apoN, apoS, apSl, ap3, apsN, apSeq, apSet, apOwn, apRet, apEx, apIf, apFrz, apT, apgN, apEnd, apLm, apGet2, apD1, apD2, apBV, wip_nx, wip_rt, wip_er, frz_fz, wipeF_cons, wipeF_nil, lstB_l, List.getElem?_cons_succ, List.getElem?_cons_zero, List.set_cons_succ, List.set_cons_zero, max2_i, min2_i, bindO, bindE, fdiv_s, mod_i, mul_s, mul_s', isi_ii, isi_ib, isi_it, isi_tt, isi_ll, isi_bb, len_l, len_t, len_s, it_l, it_t, mkL0, mkL1, mkL2, mkL3, mkL4, mkL5, mkL6, mkL7, mkL8, mkT0, mkT1, mkT2, mkT3, mkT4, mkT5, mkT6, mkT7, mkT8, add_i, sub_i, lt_i, le_i, gt_i, ge_i, eq_ib, ne_ib, decide_true, decide_false, tru_b, tru_i, tru_n, as_b, tru_l, tru_t, if_true, if_false, Bool.not_true, Bool.not_false, Bool.false_eq_true, list_l, list_t, tup_l, tup_t, endO_rt, endO_nx, endO_er, isNon_n, mkL9, mkL10, mkL11, mkL12, mkL13, mkL14, mkL15, mkL16, apsApp, appO_ok, appO_er, apsTup, tupO_2, tupO_3, negI, sl_t, cut_toD, cut_fromD, List.cons_append, List.nil_append, apRef, refO_ok, dro_fz, dro_un, dro_ow, dro_nil, isi_notup h.1 (fun xs e => ht ⟨xs, e⟩)]
    cases d <;> first | rfl | exact absurd ⟨_, rfl⟩ ht
theorem whole2 {d : D} (h : Ty d) : w_law_whole_v2 [d] = .ok (.bl (isI d)) := by
  rw [go_w_law_whole_v2]
  cases d <;> first | exact absurd rfl h | rfl
theorem law_dem_el {d x0 x1 : D} (h : Ty d) : (eAnd (eB w_law_whole_v2 (xCons (eV 2) xNil)) (e3c leD leD (eC (.int 1)) (eVb 2) (eC (.int 1000)))) [.fz x0, .fz x1, .fz d] = .ok (.bl (numB 1 (1000 + 1) d)) := by
  have e := whole2 h
  cases d <;> first | exact absurd rfl h | skip
  case int i =>
    show _ = R.ok (D.bl (decide (1 ≤ i) && decide (i < 1000 + 1)))
    have e : w_law_whole_v2 [D.int i] = .ok (.bl true) := e
    by_cases h1 : 1 ≤ i <;> by_cases h2 : i ≤ 1000
    · simp (disch := first | omega | decide | (simp only [List.length_cons, List.length_nil, List.length_append, List.length_map, List.length_take, List.length_drop]; omega)) only [apC, apV, apVb, ap2, ap1, apB, apN, apX, aptB, aptV, apAnd, apOr, apNot, apeIf, apeAnd, apeOr, apeNot, apTup, apLst, apIt, apIts, apoN, apoS, apSl, ap3, apsN, apSeq, apSet, apOwn, apRet, apEx, apIf, apFrz, apT, apgN, apEnd, apLm, apGet2, apD1, apD2, apBV, wip_nx, wip_rt, wip_er, frz_fz, wipeF_cons, wipeF_nil, lstB_l, List.getElem?_cons_succ, List.getElem?_cons_zero, List.set_cons_succ, List.set_cons_zero, max2_i, min2_i, bindO, bindE, fdiv_s, mod_i, mul_s, mul_s', isi_ii, isi_ib, isi_it, isi_tt, isi_ll, isi_bb, len_l, len_t, len_s, it_l, it_t, mkL0, mkL1, mkL2, mkL3, mkL4, mkL5, mkL6, mkL7, mkL8, mkT0, mkT1, mkT2, mkT3, mkT4, mkT5, mkT6, mkT7, mkT8, add_i, sub_i, lt_i, le_i, gt_i, ge_i, eq_ib, ne_ib, decide_true, decide_false, tru_b, tru_i, tru_n, as_b, tru_l, tru_t, if_true, if_false, Bool.not_true, Bool.not_false, Bool.false_eq_true, list_l, list_t, tup_l, tup_t, endO_rt, endO_nx, endO_er, isNon_n, mkL9, mkL10, mkL11, mkL12, mkL13, mkL14, mkL15, mkL16, apsApp, appO_ok, appO_er, apsTup, tupO_2, tupO_3, negI, sl_t, cut_toD, cut_fromD, List.cons_append, List.nil_append, apRef, refO_ok, dro_fz, dro_un, dro_ow, dro_nil, e, decide_eq_true h1, decide_eq_true h2, decide_eq_true (show i < 1000 + 1 by omega)]
      rfl
    · simp (disch := first | omega | decide | (simp only [List.length_cons, List.length_nil, List.length_append, List.length_map, List.length_take, List.length_drop]; omega)) only [apC, apV, apVb, ap2, ap1, apB, apN, apX, aptB, aptV, apAnd, apOr, apNot, apeIf, apeAnd, apeOr, apeNot, apTup, apLst, apIt, apIts, apoN, apoS, apSl, ap3, apsN, apSeq, apSet, apOwn, apRet, apEx, apIf, apFrz, apT, apgN, apEnd, apLm, apGet2, apD1, apD2, apBV, wip_nx, wip_rt, wip_er, frz_fz, wipeF_cons, wipeF_nil, lstB_l, List.getElem?_cons_succ, List.getElem?_cons_zero, List.set_cons_succ, List.set_cons_zero, max2_i, min2_i, bindO, bindE, fdiv_s, mod_i, mul_s, mul_s', isi_ii, isi_ib, isi_it, isi_tt, isi_ll, isi_bb, len_l, len_t, len_s, it_l, it_t, mkL0, mkL1, mkL2, mkL3, mkL4, mkL5, mkL6, mkL7, mkL8, mkT0, mkT1, mkT2, mkT3, mkT4, mkT5, mkT6, mkT7, mkT8, add_i, sub_i, lt_i, le_i, gt_i, ge_i, eq_ib, ne_ib, decide_true, decide_false, tru_b, tru_i, tru_n, as_b, tru_l, tru_t, if_true, if_false, Bool.not_true, Bool.not_false, Bool.false_eq_true, list_l, list_t, tup_l, tup_t, endO_rt, endO_nx, endO_er, isNon_n, mkL9, mkL10, mkL11, mkL12, mkL13, mkL14, mkL15, mkL16, apsApp, appO_ok, appO_er, apsTup, tupO_2, tupO_3, negI, sl_t, cut_toD, cut_fromD, List.cons_append, List.nil_append, apRef, refO_ok, dro_fz, dro_un, dro_ow, dro_nil, e, decide_eq_true h1, decide_eq_false h2, decide_eq_false (show ¬ i < 1000 + 1 by omega)]
      rfl
    · simp (disch := first | omega | decide | (simp only [List.length_cons, List.length_nil, List.length_append, List.length_map, List.length_take, List.length_drop]; omega)) only [apC, apV, apVb, ap2, ap1, apB, apN, apX, aptB, aptV, apAnd, apOr, apNot, apeIf, apeAnd, apeOr, apeNot, apTup, apLst, apIt, apIts, apoN, apoS, apSl, ap3, apsN, apSeq, apSet, apOwn, apRet, apEx, apIf, apFrz, apT, apgN, apEnd, apLm, apGet2, apD1, apD2, apBV, wip_nx, wip_rt, wip_er, frz_fz, wipeF_cons, wipeF_nil, lstB_l, List.getElem?_cons_succ, List.getElem?_cons_zero, List.set_cons_succ, List.set_cons_zero, max2_i, min2_i, bindO, bindE, fdiv_s, mod_i, mul_s, mul_s', isi_ii, isi_ib, isi_it, isi_tt, isi_ll, isi_bb, len_l, len_t, len_s, it_l, it_t, mkL0, mkL1, mkL2, mkL3, mkL4, mkL5, mkL6, mkL7, mkL8, mkT0, mkT1, mkT2, mkT3, mkT4, mkT5, mkT6, mkT7, mkT8, add_i, sub_i, lt_i, le_i, gt_i, ge_i, eq_ib, ne_ib, decide_true, decide_false, tru_b, tru_i, tru_n, as_b, tru_l, tru_t, if_true, if_false, Bool.not_true, Bool.not_false, Bool.false_eq_true, list_l, list_t, tup_l, tup_t, endO_rt, endO_nx, endO_er, isNon_n, mkL9, mkL10, mkL11, mkL12, mkL13, mkL14, mkL15, mkL16, apsApp, appO_ok, appO_er, apsTup, tupO_2, tupO_3, negI, sl_t, cut_toD, cut_fromD, List.cons_append, List.nil_append, apRef, refO_ok, dro_fz, dro_un, dro_ow, dro_nil, e, decide_eq_false h1]
      rfl
    · omega
  all_goals (unfold isI at e; simp (disch := first | omega | decide | (simp only [List.length_cons, List.length_nil, List.length_append, List.length_map, List.length_take, List.length_drop]; omega)) only [apC, apV, apVb, ap2, ap1, apB, apN, apX, aptB, aptV, apAnd, apOr, apNot, apeIf, apeAnd, apeOr, apeNot, apTup, apLst, apIt, apIts, apoN, apoS, apSl, ap3, apsN, apSeq, apSet, apOwn, apRet, apEx, apIf, apFrz, apT, apgN, apEnd, apLm, apGet2, apD1, apD2, apBV, wip_nx, wip_rt, wip_er, frz_fz, wipeF_cons, wipeF_nil, lstB_l, List.getElem?_cons_succ, List.getElem?_cons_zero, List.set_cons_succ, List.set_cons_zero, max2_i, min2_i, bindO, bindE, fdiv_s, mod_i, mul_s, mul_s', isi_ii, isi_ib, isi_it, isi_tt, isi_ll, isi_bb, len_l, len_t, len_s, it_l, it_t, mkL0, mkL1, mkL2, mkL3, mkL4, mkL5, mkL6, mkL7, mkL8, mkT0, mkT1, mkT2, mkT3, mkT4, mkT5, mkT6, mkT7, mkT8, add_i, sub_i, lt_i, le_i, gt_i, ge_i, eq_ib, ne_ib, decide_true, decide_false, tru_b, tru_i, tru_n, as_b, tru_l, tru_t, if_true, if_false, Bool.not_true, Bool.not_false, Bool.false_eq_true, list_l, list_t, tup_l, tup_t, endO_rt, endO_nx, endO_er, isNon_n, mkL9, mkL10, mkL11, mkL12, mkL13, mkL14, mkL15, mkL16, apsApp, appO_ok, appO_er, apsTup, tupO_2, tupO_3, negI, sl_t, cut_toD, cut_fromD, List.cons_append, List.nil_append, apRef, refO_ok, dro_fz, dro_un, dro_ow, dro_nil, e]; rfl)
theorem law_dem {n : Int} {y d : D} (h : TL d) : w_law_are_demands [.tup [.int n, y], d] = .ok (.bl (demB n d)) := by
  rw [go_w_law_are_demands]
  unfold w_law_are_demands_S
  by_cases ht : ∃ xs, d = .tup xs
  · obtain ⟨xs, rfl⟩ := ht
    by_cases hl : (xs.length : Int) = n
    · have c : w_law_are_demands_C1 [.fz (.tup [.int n, y]), .fz (.tup xs), .un] = .ok (.lst ((xs.map (numB 1 (1000 + 1))).map D.bl)) := lc_all _ rfl rfl fun d hd => ⟨_, rfl, law_dem_el (h.2 xs rfl d hd)⟩
      simp (disch := first | omega | decide | (simp only [List.length_cons, List.length_nil, List.length_append, List.length_map, List.length_take, List.length_drop]; omega)) only [apC, apV, apVb, ap2, ap1, apB, apN, apX, aptB, aptV, apAnd, apOr, apNot, apeIf, apeAnd, apeOr, apeNot, apTup, apLst, apIt, apIts, apoN, apoS, apSl, ap3, apsN, apSeq, apSet, apOwn, apRet, apEx, apIf, apFrz, apT, apgN, apEnd, apLm, apGet2, apD1, apD2, apBV, wip_nx, wip_rt, wip_er, frz_fz, wipeF_cons, wipeF_nil, lstB_l, List.getElem?_cons_succ, List.getElem?_cons_zero, List.set_cons_succ, List.set_cons_zero, max2_i, min2_i, bindO, bindE, fdiv_s, mod_i, mul_s, mul_s', isi_ii, isi_ib, isi_it, isi_tt, isi_ll, isi_bb, len_l, len_t, len_s, it_l, it_t, mkL0, mkL1, mkL2, mkL3, mkL4, mkL5, mkL6, mkL7, mkL8, mkT0, mkT1, mkT2, mkT3, mkT4, mkT5, mkT6, mkT7, mkT8, add_i, sub_i, lt_i, le_i, gt_i, ge_i, eq_ib, ne_ib, decide_true, decide_false, tru_b, tru_i, tru_n, as_b, tru_l, tru_t, if_true, if_false, Bool.not_true, Bool.not_false, Bool.false_eq_true, list_l, list_t, tup_l, tup_t, endO_rt, endO_nx, endO_er, isNon_n, mkL9, mkL10, mkL11, mkL12, mkL13, mkL14, mkL15, mkL16, apsApp, appO_ok, appO_er, apsTup, tupO_2, tupO_3, negI, sl_t, cut_toD, cut_fromD, List.cons_append, List.nil_append, apRef, refO_ok, dro_fz, dro_un, dro_ow, dro_nil, ix0, decide_eq_true hl, c, all_ok, all_map_id]
      show _ = R.ok (D.bl (decide ((xs.length : Int) = n) && _))
      rw [decide_eq_true hl]
      rfl
    · simp (disch := first | omega | decide | (simp only [List.length_cons, List.length_nil, List.length_append, List.length_map, List.length_take, List.length_drop]; omega)) only [apC, apV, apVb, ap2, ap1, apB, apN, apX, aptB, aptV, apAnd, apOr, apNot, apeIf, apeAnd, apeOr, apeNot, apTup, apLst, apIt, apIts, apoN, apoS, apSl, ap3, apsN, apSeq, apSet, apOwn, apRet, apEx, apIf, apFrz, apT, apgN, apEnd, apLm, apGet2, apD1, apD2, apBV, wip_nx, wip_rt, wip_er, frz_fz, wipeF_cons, wipeF_nil, lstB_l, List.getElem?_cons_succ, List.getElem?_cons_zero, List.set_cons_succ, List.set_cons_zero, max2_i, min2_i, bindO, bindE, fdiv_s, mod_i, mul_s, mul_s', isi_ii, isi_ib, isi_it, isi_tt, isi_ll, isi_bb, len_l, len_t, len_s, it_l, it_t, mkL0, mkL1, mkL2, mkL3, mkL4, mkL5, mkL6, mkL7, mkL8, mkT0, mkT1, mkT2, mkT3, mkT4, mkT5, mkT6, mkT7, mkT8, add_i, sub_i, lt_i, le_i, gt_i, ge_i, eq_ib, ne_ib, decide_true, decide_false, tru_b, tru_i, tru_n, as_b, tru_l, tru_t, if_true, if_false, Bool.not_true, Bool.not_false, Bool.false_eq_true, list_l, list_t, tup_l, tup_t, endO_rt, endO_nx, endO_er, isNon_n, mkL9, mkL10, mkL11, mkL12, mkL13, mkL14, mkL15, mkL16, apsApp, appO_ok, appO_er, apsTup, tupO_2, tupO_3, negI, sl_t, cut_toD, cut_fromD, List.cons_append, List.nil_append, apRef, refO_ok, dro_fz, dro_un, dro_ow, dro_nil, ix0, decide_eq_false hl]
      show _ = R.ok (D.bl (decide ((xs.length : Int) = n) && _))
      rw [decide_eq_false hl]
      rfl
  · simp (disch := first | omega | decide | (simp only [List.length_cons, List.length_nil, List.length_append, List.length_map, List.length_take, List.length_drop]; omega)) only [apC, apV, apVb, ap2, ap1, apB, apN, apX, aptB, aptV, apAnd, apOr, apNot, apeIf, apeAnd, apeOr, apeNot, apTup, apLst, apIt, apIts, apoN, apoS, apSl, ap3, apsN, apSeq, apSet, apOwn, apRet, apEx, apIf, apFrz, apT, apgN, apEnd, apLm, apGet2, apD1, apD2, apBV, wip_nx, wip_rt, wip_er, frz_fz, wipeF_cons, wipeF_nil, lstB_l, List.getElem?_cons_succ, List.getElem?_cons_zero, List.set_cons_succ, List.set_cons_zero, max2_i, min2_i, bindO, bindE, fdiv_s, mod_i, mul_s, mul_s', isi_ii, isi_ib, isi_it, isi_tt, isi_ll, isi_bb, len_l, len_t, len_s, it_l, it_t, mkL0, mkL1, mkL2, mkL3, mkL4, mkL5, mkL6, mkL7, mkL8, mkT0, mkT1, mkT2, mkT3, mkT4, mkT5, mkT6, mkT7, mkT8, add_i, sub_i, lt_i, le_i, gt_i, ge_i, eq_ib, ne_ib, decide_true, decide_false, tru_b, tru_i, tru_n, as_b, tru_l, tru_t, if_true, if_false, Bool.not_true, Bool.not_false, Bool.false_eq_true, list_l, list_t, tup_l, tup_t, endO_rt, endO_nx, endO_er, isNon_n, mkL9, mkL10, mkL11, mkL12, mkL13, mkL14, mkL15, mkL16, apsApp, appO_ok, appO_er, apsTup, tupO_2, tupO_3, negI, sl_t, cut_toD, cut_fromD, List.cons_append, List.nil_append, apRef, refO_ok, dro_fz, dro_un, dro_ow, dro_nil, isi_notup h.1 (fun xs e => ht ⟨xs, e⟩)]
    cases d <;> first | rfl | exact absurd ⟨_, rfl⟩ ht
/-- demands as numbers -/
structure DemOk (n : Int) (ws : List Int) : Prop where
  len : (ws.length : Int) = n
  num : ∀ w ∈ ws, 1 ≤ w ∧ w ≤ 1000
theorem demB_of {n : Int} {ws : List Int} (s : DemOk n ws) : demB n (stD ws) = true := by
  show (decide (((ws.map D.int).length : Int) = n) && (ws.map D.int).all _) = true
  rw [List.length_map, decide_eq_true s.len, List.all_eq_true.mpr fun d hd => ?_]
  · rfl
  · obtain ⟨i, hi, rfl⟩ := List.mem_map.mp hd
    have := s.num i hi
    show (decide (1 ≤ i) && decide (i < 1000 + 1)) = true
    rw [decide_eq_true this.1, decide_eq_true (show i < 1000 + 1 by omega)]
    rfl
theorem are_dem {n : Int} {ps : List (Int × Int)} {d : D} (w : WebOk n ps) (W : Whole n ps) (h : TL d) : w_are_demands [webD n ps, d] = .ok (.bl (demB n d)) := by
  rw [go_w_are_demands]
  unfold w_are_demands_S
  simp (disch := first | omega | decide | (simp only [List.length_cons, List.length_nil, List.length_append, List.length_map, List.length_take, List.length_drop]; omega)) only [apC, apV, apVb, ap2, ap1, apB, apN, apX, aptB, aptV, apAnd, apOr, apNot, apeIf, apeAnd, apeOr, apeNot, apTup, apLst, apIt, apIts, apoN, apoS, apSl, ap3, apsN, apSeq, apSet, apOwn, apRet, apEx, apIf, apFrz, apT, apgN, apEnd, apLm, apGet2, apD1, apD2, apBV, wip_nx, wip_rt, wip_er, frz_fz, wipeF_cons, wipeF_nil, lstB_l, List.getElem?_cons_succ, List.getElem?_cons_zero, List.set_cons_succ, List.set_cons_zero, max2_i, min2_i, bindO, bindE, fdiv_s, mod_i, mul_s, mul_s', isi_ii, isi_ib, isi_it, isi_tt, isi_ll, isi_bb, len_l, len_t, len_s, it_l, it_t, mkL0, mkL1, mkL2, mkL3, mkL4, mkL5, mkL6, mkL7, mkL8, mkT0, mkT1, mkT2, mkT3, mkT4, mkT5, mkT6, mkT7, mkT8, add_i, sub_i, lt_i, le_i, gt_i, ge_i, eq_ib, ne_ib, decide_true, decide_false, tru_b, tru_i, tru_n, as_b, tru_l, tru_t, if_true, if_false, Bool.not_true, Bool.not_false, Bool.false_eq_true, list_l, list_t, tup_l, tup_t, endO_rt, endO_nx, endO_er, isNon_n, mkL9, mkL10, mkL11, mkL12, mkL13, mkL14, mkL15, mkL16, apsApp, appO_ok, appO_er, apsTup, tupO_2, tupO_3, negI, sl_t, cut_toD, cut_fromD, List.cons_append, List.nil_append, apRef, refO_ok, dro_fz, dro_un, dro_ow, dro_nil, need_whole_ok w W, good_dem h]
theorem need_dem_ok {n : Int} {y : D} {ws : List Int} (h : DemOk n ws) : w_need_demands [.tup [.int n, y], stD ws] = .ok .non := by
  have e := good_dem (n := n) (y := y) (tl_st ws)
  rw [demB_of h] at e
  rw [go_w_need_demands]
  unfold w_need_demands_S
  simp (disch := first | omega | decide | (simp only [List.length_cons, List.length_nil, List.length_append, List.length_map, List.length_take, List.length_drop]; omega)) only [apC, apV, apVb, ap2, ap1, apB, apN, apX, aptB, aptV, apAnd, apOr, apNot, apeIf, apeAnd, apeOr, apeNot, apTup, apLst, apIt, apIts, apoN, apoS, apSl, ap3, apsN, apSeq, apSet, apOwn, apRet, apEx, apIf, apFrz, apT, apgN, apEnd, apLm, apGet2, apD1, apD2, apBV, wip_nx, wip_rt, wip_er, frz_fz, wipeF_cons, wipeF_nil, lstB_l, List.getElem?_cons_succ, List.getElem?_cons_zero, List.set_cons_succ, List.set_cons_zero, max2_i, min2_i, bindO, bindE, fdiv_s, mod_i, mul_s, mul_s', isi_ii, isi_ib, isi_it, isi_tt, isi_ll, isi_bb, len_l, len_t, len_s, it_l, it_t, mkL0, mkL1, mkL2, mkL3, mkL4, mkL5, mkL6, mkL7, mkL8, mkT0, mkT1, mkT2, mkT3, mkT4, mkT5, mkT6, mkT7, mkT8, add_i, sub_i, lt_i, le_i, gt_i, ge_i, eq_ib, ne_ib, decide_true, decide_false, tru_b, tru_i, tru_n, as_b, tru_l, tru_t, if_true, if_false, Bool.not_true, Bool.not_false, Bool.false_eq_true, list_l, list_t, tup_l, tup_t, endO_rt, endO_nx, endO_er, isNon_n, mkL9, mkL10, mkL11, mkL12, mkL13, mkL14, mkL15, mkL16, apsApp, appO_ok, appO_er, apsTup, tupO_2, tupO_3, negI, sl_t, cut_toD, cut_fromD, List.cons_append, List.nil_append, apRef, refO_ok, dro_fz, dro_un, dro_ow, dro_nil, e]
theorem need_dem_no {n : Int} {y d : D} (h : TL d) (hb : demB n d = false) : w_need_demands [.tup [.int n, y], d] = .err "NoDemands" := by
  have e := good_dem (n := n) (y := y) h
  rw [hb] at e
  rw [go_w_need_demands]
  unfold w_need_demands_S
  simp (disch := first | omega | decide | (simp only [List.length_cons, List.length_nil, List.length_append, List.length_map, List.length_take, List.length_drop]; omega)) only [apC, apV, apVb, ap2, ap1, apB, apN, apX, aptB, aptV, apAnd, apOr, apNot, apeIf, apeAnd, apeOr, apeNot, apTup, apLst, apIt, apIts, apoN, apoS, apSl, ap3, apsN, apSeq, apSet, apOwn, apRet, apEx, apIf, apFrz, apT, apgN, apEnd, apLm, apGet2, apD1, apD2, apBV, wip_nx, wip_rt, wip_er, frz_fz, wipeF_cons, wipeF_nil, lstB_l, List.getElem?_cons_succ, List.getElem?_cons_zero, List.set_cons_succ, List.set_cons_zero, max2_i, min2_i, bindO, bindE, fdiv_s, mod_i, mul_s, mul_s', isi_ii, isi_ib, isi_it, isi_tt, isi_ll, isi_bb, len_l, len_t, len_s, it_l, it_t, mkL0, mkL1, mkL2, mkL3, mkL4, mkL5, mkL6, mkL7, mkL8, mkT0, mkT1, mkT2, mkT3, mkT4, mkT5, mkT6, mkT7, mkT8, add_i, sub_i, lt_i, le_i, gt_i, ge_i, eq_ib, ne_ib, decide_true, decide_false, tru_b, tru_i, tru_n, as_b, tru_l, tru_t, if_true, if_false, Bool.not_true, Bool.not_false, Bool.false_eq_true, list_l, list_t, tup_l, tup_t, endO_rt, endO_nx, endO_er, isNon_n, mkL9, mkL10, mkL11, mkL12, mkL13, mkL14, mkL15, mkL16, apsApp, appO_ok, appO_er, apsTup, tupO_2, tupO_3, negI, sl_t, cut_toD, cut_fromD, List.cons_append, List.nil_append, apRef, refO_ok, dro_fz, dro_un, dro_ow, dro_nil, e]
theorem dem_ok (c n : Int) (hn : 1 ≤ n ∧ n ≤ 40) : ∃ ws, w_law_demands [.int c, .int n] = .ok (stD ws) ∧ DemOk n ws := by
  have d0 := draw_2 (c := c) (k := 160) (b := 4) (by decide) (by decide)
  have l0 := drw_lt (c := c) (k := 160) (b := 4) (by decide)
  generalize drw c 160 4 = kind at d0 l0
  have d1 := draw_2 (c := c) (k := 159) (b := n) (by decide) (by omega)
  have l1 := drw_lt (c := c) (k := 159) (b := n) (by omega)
  generalize drw c 159 n = z at d1 l1
  obtain ⟨x, hx, b, rfl, hb⟩ := pick (xs := [.int 1, .int 4, .int 1000, .int 1]) (t := kind) l0 (Q := fun x => ∃ i, x = .int i ∧ 1 ≤ i ∧ i ≤ 1000) (al_cons ⟨_, rfl, by decide⟩ (al_cons ⟨_, rfl, by decide⟩ (al_cons ⟨_, rfl, by decide⟩ (al_cons ⟨_, rfl, by decide⟩ al_nil))))
  have c1 : w_law_demands_C1 [.fz (.int c), .fz (.int n), .fz (.int kind), .un, .un] = .ok (.lst (((List.range n.toNat).map fun (k : Nat) => 1 + drw c (161 + (k : Int)) b).map D.int)) := by
    have r := rng1_int (n := n) (by omega) (by omega)
    refine Eq.trans (eLc_ok (ds := intsD 0 n.toNat) (by simp (disch := first | omega | decide | (simp only [List.length_cons, List.length_nil, List.length_append, List.length_map, List.length_take, List.length_drop]; omega)) only [apC, apV, apVb, ap2, ap1, apB, apN, apX, aptB, aptV, apAnd, apOr, apNot, apeIf, apeAnd, apeOr, apeNot, apTup, apLst, apIt, apIts, apoN, apoS, apSl, ap3, apsN, apSeq, apSet, apOwn, apRet, apEx, apIf, apFrz, apT, apgN, apEnd, apLm, apGet2, apD1, apD2, apBV, wip_nx, wip_rt, wip_er, frz_fz, wipeF_cons, wipeF_nil, lstB_l, List.getElem?_cons_succ, List.getElem?_cons_zero, List.set_cons_succ, List.set_cons_zero, max2_i, min2_i, bindO, bindE, fdiv_s, mod_i, mul_s, mul_s', isi_ii, isi_ib, isi_it, isi_tt, isi_ll, isi_bb, len_l, len_t, len_s, it_l, it_t, mkL0, mkL1, mkL2, mkL3, mkL4, mkL5, mkL6, mkL7, mkL8, mkT0, mkT1, mkT2, mkT3, mkT4, mkT5, mkT6, mkT7, mkT8, add_i, sub_i, lt_i, le_i, gt_i, ge_i, eq_ib, ne_ib, decide_true, decide_false, tru_b, tru_i, tru_n, as_b, tru_l, tru_t, if_true, if_false, Bool.not_true, Bool.not_false, Bool.false_eq_true, list_l, list_t, tup_l, tup_t, endO_rt, endO_nx, endO_er, isNon_n, mkL9, mkL10, mkL11, mkL12, mkL13, mkL14, mkL15, mkL16, apsApp, appO_ok, appO_er, apsTup, tupO_2, tupO_3, negI, sl_t, cut_toD, cut_fromD, List.cons_append, List.nil_append, apRef, refO_ok, dro_fz, dro_un, dro_ow, dro_nil, r]) rfl (lc_map (fun d => match d with | .int k => .int (1 + drw c (161 + k) b) | d => d) fun d hd => ?_)) ?_
    · obtain ⟨k, hk, rfl⟩ := mem_ints hd
      have d2 := draw_2 (c := c) (k := 161 + (0 + (k : Int))) (b := b) (by omega) (by omega)
      refine ⟨_, rfl, ?_⟩
      simp (disch := first | omega | decide | (simp only [List.length_cons, List.length_nil, List.length_append, List.length_map, List.length_take, List.length_drop]; omega)) only [apC, apV, apVb, ap2, ap1, apB, apN, apX, aptB, aptV, apAnd, apOr, apNot, apeIf, apeAnd, apeOr, apeNot, apTup, apLst, apIt, apIts, apoN, apoS, apSl, ap3, apsN, apSeq, apSet, apOwn, apRet, apEx, apIf, apFrz, apT, apgN, apEnd, apLm, apGet2, apD1, apD2, apBV, wip_nx, wip_rt, wip_er, frz_fz, wipeF_cons, wipeF_nil, lstB_l, List.getElem?_cons_succ, List.getElem?_cons_zero, List.set_cons_succ, List.set_cons_zero, max2_i, min2_i, bindO, bindE, fdiv_s, mod_i, mul_s, mul_s', isi_ii, isi_ib, isi_it, isi_tt, isi_ll, isi_bb, len_l, len_t, len_s, it_l, it_t, mkL0, mkL1, mkL2, mkL3, mkL4, mkL5, mkL6, mkL7, mkL8, mkT0, mkT1, mkT2, mkT3, mkT4, mkT5, mkT6, mkT7, mkT8, add_i, sub_i, lt_i, le_i, gt_i, ge_i, eq_ib, ne_ib, decide_true, decide_false, tru_b, tru_i, tru_n, as_b, tru_l, tru_t, if_true, if_false, Bool.not_true, Bool.not_false, Bool.false_eq_true, list_l, list_t, tup_l, tup_t, endO_rt, endO_nx, endO_er, isNon_n, mkL9, mkL10, mkL11, mkL12, mkL13, mkL14, mkL15, mkL16, apsApp, appO_ok, appO_er, apsTup, tupO_2, tupO_3, negI, sl_t, cut_toD, cut_fromD, List.cons_append, List.nil_append, apRef, refO_ok, dro_fz, dro_un, dro_ow, dro_nil, hx, d2]
    · unfold intsD
      rw [List.map_map, List.map_map]
      congr 2
      refine List.map_congr_left fun k _ => ?_
      show D.int (1 + drw c (161 + (0 + (k : Int))) b) = D.int (1 + drw c (161 + (k : Int)) b)
      rw [Int.zero_add]
  have hq : DemOk n ((List.range n.toNat).map fun (k : Nat) => 1 + drw c (161 + (k : Int)) b) := ⟨by rw [List.length_map, List.length_range]; omega, fun w hw => by
    obtain ⟨k, _, rfl⟩ := List.mem_map.mp hw
    have := drw_lt (c := c) (k := 161 + (k : Int)) (b := b) (by omega)
    omega⟩
  generalize ((List.range n.toNat).map fun (k : Nat) => 1 + drw c (161 + (k : Int)) b) = ws at c1 hq
  have hz : 0 ≤ z ∧ z < ws.length := by rw [hq.len]; exact l1
  by_cases h3 : kind = 3
  · refine ⟨ws.set z.toNat 1000, ?_, by rw [List.length_set]; exact hq.len, fun w hw => ?_⟩
    · have s := setI (i := 3) (a := eB w_law_draw_v2 (xCons (eV 0) (xCons (eC (.int 159)) (xCons (eV 1) xNil)))) (f := eC (.int 1000)) (ρ := [.fz (.int c), .fz (.int n), .fz (.int kind), .ow (.lst (ws.map D.int)), .un]) (z := z) (x := 1000) rfl rfl (by simp (disch := first | omega | decide | (simp only [List.length_cons, List.length_nil, List.length_append, List.length_map, List.length_take, List.length_drop]; omega)) only [apC, apV, apVb, ap2, ap1, apB, apN, apX, aptB, aptV, apAnd, apOr, apNot, apeIf, apeAnd, apeOr, apeNot, apTup, apLst, apIt, apIts, apoN, apoS, apSl, ap3, apsN, apSeq, apSet, apOwn, apRet, apEx, apIf, apFrz, apT, apgN, apEnd, apLm, apGet2, apD1, apD2, apBV, wip_nx, wip_rt, wip_er, frz_fz, wipeF_cons, wipeF_nil, lstB_l, List.getElem?_cons_succ, List.getElem?_cons_zero, List.set_cons_succ, List.set_cons_zero, max2_i, min2_i, bindO, bindE, fdiv_s, mod_i, mul_s, mul_s', isi_ii, isi_ib, isi_it, isi_tt, isi_ll, isi_bb, len_l, len_t, len_s, it_l, it_t, mkL0, mkL1, mkL2, mkL3, mkL4, mkL5, mkL6, mkL7, mkL8, mkT0, mkT1, mkT2, mkT3, mkT4, mkT5, mkT6, mkT7, mkT8, add_i, sub_i, lt_i, le_i, gt_i, ge_i, eq_ib, ne_ib, decide_true, decide_false, tru_b, tru_i, tru_n, as_b, tru_l, tru_t, if_true, if_false, Bool.not_true, Bool.not_false, Bool.false_eq_true, list_l, list_t, tup_l, tup_t, endO_rt, endO_nx, endO_er, isNon_n, mkL9, mkL10, mkL11, mkL12, mkL13, mkL14, mkL15, mkL16, apsApp, appO_ok, appO_er, apsTup, tupO_2, tupO_3, negI, sl_t, cut_toD, cut_fromD, List.cons_append, List.nil_append, apRef, refO_ok, dro_fz, dro_un, dro_ow, dro_nil, d1]) hz
      rw [go_w_law_demands]
      unfold w_law_demands_S
      simp (disch := first | omega | decide | (simp only [List.length_cons, List.length_nil, List.length_append, List.length_map, List.length_take, List.length_drop]; omega)) only [apC, apV, apVb, ap2, ap1, apB, apN, apX, aptB, aptV, apAnd, apOr, apNot, apeIf, apeAnd, apeOr, apeNot, apTup, apLst, apIt, apIts, apoN, apoS, apSl, ap3, apsN, apSeq, apSet, apOwn, apRet, apEx, apIf, apFrz, apT, apgN, apEnd, apLm, apGet2, apD1, apD2, apBV, wip_nx, wip_rt, wip_er, frz_fz, wipeF_cons, wipeF_nil, lstB_l, List.getElem?_cons_succ, List.getElem?_cons_zero, List.set_cons_succ, List.set_cons_zero, max2_i, min2_i, bindO, bindE, fdiv_s, mod_i, mul_s, mul_s', isi_ii, isi_ib, isi_it, isi_tt, isi_ll, isi_bb, len_l, len_t, len_s, it_l, it_t, mkL0, mkL1, mkL2, mkL3, mkL4, mkL5, mkL6, mkL7, mkL8, mkT0, mkT1, mkT2, mkT3, mkT4, mkT5, mkT6, mkT7, mkT8, add_i, sub_i, lt_i, le_i, gt_i, ge_i, eq_ib, ne_ib, decide_true, decide_false, tru_b, tru_i, tru_n, as_b, tru_l, tru_t, if_true, if_false, Bool.not_true, Bool.not_false, Bool.false_eq_true, list_l, list_t, tup_l, tup_t, endO_rt, endO_nx, endO_er, isNon_n, mkL9, mkL10, mkL11, mkL12, mkL13, mkL14, mkL15, mkL16, apsApp, appO_ok, appO_er, apsTup, tupO_2, tupO_3, negI, sl_t, cut_toD, cut_fromD, List.cons_append, List.nil_append, apRef, refO_ok, dro_fz, dro_un, dro_ow, dro_nil, d0, c1, eq_ib, decide_eq_true h3, s]
    · rcases List.mem_or_eq_of_mem_set hw with h | rfl
      · exact hq.num w h
      · decide
  · refine ⟨ws, ?_, hq⟩
    rw [go_w_law_demands]
    unfold w_law_demands_S
    simp (disch := first | omega | decide | (simp only [List.length_cons, List.length_nil, List.length_append, List.length_map, List.length_take, List.length_drop]; omega)) only [apC, apV, apVb, ap2, ap1, apB, apN, apX, aptB, aptV, apAnd, apOr, apNot, apeIf, apeAnd, apeOr, apeNot, apTup, apLst, apIt, apIts, apoN, apoS, apSl, ap3, apsN, apSeq, apSet, apOwn, apRet, apEx, apIf, apFrz, apT, apgN, apEnd, apLm, apGet2, apD1, apD2, apBV, wip_nx, wip_rt, wip_er, frz_fz, wipeF_cons, wipeF_nil, lstB_l, List.getElem?_cons_succ, List.getElem?_cons_zero, List.set_cons_succ, List.set_cons_zero, max2_i, min2_i, bindO, bindE, fdiv_s, mod_i, mul_s, mul_s', isi_ii, isi_ib, isi_it, isi_tt, isi_ll, isi_bb, len_l, len_t, len_s, it_l, it_t, mkL0, mkL1, mkL2, mkL3, mkL4, mkL5, mkL6, mkL7, mkL8, mkT0, mkT1, mkT2, mkT3, mkT4, mkT5, mkT6, mkT7, mkT8, add_i, sub_i, lt_i, le_i, gt_i, ge_i, eq_ib, ne_ib, decide_true, decide_false, tru_b, tru_i, tru_n, as_b, tru_l, tru_t, if_true, if_false, Bool.not_true, Bool.not_false, Bool.false_eq_true, list_l, list_t, tup_l, tup_t, endO_rt, endO_nx, endO_er, isNon_n, mkL9, mkL10, mkL11, mkL12, mkL13, mkL14, mkL15, mkL16, apsApp, appO_ok, appO_er, apsTup, tupO_2, tupO_3, negI, sl_t, cut_toD, cut_fromD, List.cons_append, List.nil_append, apRef, refO_ok, dro_fz, dro_un, dro_ow, dro_nil, d0, c1, eq_ib, decide_eq_false h3]
end PB

namespace PB
open PySem PySem.Spec PyProof.Rows L2 LamX
/-! ### S11: the laws' own steps -/
theorem nigh_near : w_law_nigh = w_near := rfl
theorem nigh2_near : w_law_nigh_v2 = w_near := rfl
theorem steps2_steps : w_law_steps_v2 = w_law_steps := rfl
def oD : Option Int → D
  | none => .non
  | some d => .int d
def atO (f : List (Option Int)) (v : Nat) : Option Int := (f[v]?).getD none
theorem atO_set {f : List (Option Int)} {v w : Nat} {x : Option Int} (h : v < f.length) : atO (f.set v x) w = if w = v then x else atO f w := by
  unfold atO
  by_cases e : w = v
  · subst e
    rw [if_pos rfl, List.getElem?_set_self h]
    rfl
  · rw [if_neg e, List.getElem?_set_ne (fun q => e q.symm)]
theorem ix_oD {f : List (Option Int)} {v : Nat} (h : v < f.length) : ixD (.lst (f.map oD)) (.int (v : Int)) = .ok (oD (atO f v)) := by
  rw [ix_l (by rw [List.length_map]; exact h), List.getElem_map]
  unfold atO
  rw [List.getElem?_eq_getElem h]
  rfl
theorem Dist.deep {n : Int} {ps : List (Int × Int)} {p : Int} {es : List (Int × Int)} (h : Dist n ps p es) : ∀ v d, (v, d) ∈ es → d < n := fun v d hm => by
  have all : ∀ (m : Nat) (v : Int), (v, (m : Int)) ∈ es → ∀ j : Nat, j ≤ m → (j : Int) ∈ es.map (·.2) := by
    intro m
    induction m with
    | zero =>
      intro v hv j hj
      obtain rfl : j = 0 := by omega
      exact List.mem_map.mpr ⟨_, hv, rfl⟩
    | succ m ih =>
      intro v hv j hj
      by_cases e : j = m + 1
      · subst e
        exact List.mem_map.mpr ⟨_, hv, rfl⟩
      · rcases h.pred _ hv with q | ⟨u, _, hu⟩
        · cases q
        · dsimp only at hu
          rw [show ((m + 1 : Nat) : Int) - 1 = (m : Int) by omega] at hu
          exact ih u hu j (by omega)
  have hd := (h.rng _ hm).2
  dsimp only at hd
  have := sub_len (l := (List.range (d.toNat + 1)).map fun (i : Nat) => (i : Int)) (m := es.map (·.2)) (by
    refine List.Pairwise.map _ (fun a b (hab : a ≠ b) => ?_) List.nodup_range
    exact fun e => hab (by omega)) fun x hx => by
    obtain ⟨i, hi, rfl⟩ := List.mem_map.mp hx
    have := List.mem_range.mp hi
    exact all d.toNat v (by rw [show ((d.toNat : Nat) : Int) = d by omega]; exact hm) i (by omega)
  rw [List.length_map, List.length_range, List.length_map] at this
  have l := len_le (n := n.toNat) (l := es.map (·.1)) h.nd fun x hx => by
    obtain ⟨e, he, rfl⟩ := List.mem_map.mp hx
    have := (h.rng e he).1
    omega
  rw [List.length_map] at l
  omega
/-- what stands after the turns s and the places below k -/
structure Lev (n : Int) (ps es : List (Int × Int)) (s : Nat) (f : List (Option Int)) : Prop where
  len : (f.length : Int) = n
  sound : ∀ v d, atO f v = some d → ((v : Int), d) ∈ es ∧ d ≤ (s : Int) + 1
  low : ∀ (v : Nat) d, ((v : Int), d) ∈ es → d ≤ (s : Int) → atO f v = some d
theorem Lev.put {n : Int} {ps es : List (Int × Int)} {p : Int} (D0 : Dist n ps p es) (W : WebOk n ps) {s : Nat} {f : List (Option Int)} (L : Lev n ps es s f) {u v : Nat} (hu : ((u : Int), (s : Int)) ∈ es) (ha : Adj ps u v) (hv : atO f v = none) : Lev n ps es s (f.set v (some ((s : Int) + 1))) := by
  have hvr := (W.adj ha).2.1
  have hvl : v < f.length := by have := L.len; omega
  obtain ⟨d', hm, hd⟩ := D0.step u s v hu ha
  have hd2 : d' = (s : Int) + 1 := by
    by_cases q : d' ≤ (s : Int)
    · rw [L.low v d' hm q] at hv
      cases hv
    · omega
  subst hd2
  refine ⟨by rw [List.length_set]; exact L.len, fun w d e => ?_, fun w d hw hl => ?_⟩
  · rw [atO_set hvl] at e
    by_cases q : w = v
    · rw [if_pos q] at e
      cases e
      rw [q]
      exact ⟨hm, Int.le_refl _⟩
    · rw [if_neg q] at e
      exact L.sound w d e
  · rw [atO_set hvl]
    by_cases q : w = v
    · rw [q] at hw
      have := nd_eq D0.nd hw hm
      omega
    · rw [if_neg q]
      exact L.low w d hw hl
/-- none is lost -/
def Keep (f f' : List (Option Int)) : Prop := f'.length = f.length ∧ ∀ v, atO f v ≠ none → atO f' v ≠ none
theorem Keep.refl (f : List (Option Int)) : Keep f f := ⟨rfl, fun _ h => h⟩
theorem Keep.trans {f g h : List (Option Int)} (a : Keep f g) (b : Keep g h) : Keep f h := ⟨b.1.trans a.1, fun v q => b.2 v (a.2 v q)⟩
theorem Keep.put {f : List (Option Int)} {v : Nat} {x : Int} (h : v < f.length) : Keep f (f.set v (some x)) := ⟨List.length_set, fun w q => by
  rw [atO_set h]
  split
  · simp
  · exact q⟩
theorem ls_inner {n : Int} {ps es : List (Int × Int)} {p : Int} (D0 : Dist n ps p es) (W : WebOk n ps) {x0 x1 x2 : D} {s u : Nat} (hu : ((u : Int), (s : Int)) ∈ es) : ∀ {vs : List Int} {f : List (Option Int)}, Lev n ps es s f → (∀ v ∈ vs, Adj ps u v) →
    ∃ f', forD (gN 6) w_law_steps_B1 (vs.map D.int) [.fz x0, .fz x1, .fz x2, .ow (.lst (f.map oD)), .fz (.int (s : Int)), .fz (.int (u : Int)), .un] = .nx [.fz x0, .fz x1, .fz x2, .ow (.lst (f'.map oD)), .fz (.int (s : Int)), .fz (.int (u : Int)), .un] ∧ Lev n ps es s f' ∧ Keep f f' ∧ ∀ v ∈ vs, atO f' v.toNat ≠ none
  | [], f, L, _ => ⟨f, rfl, L, Keep.refl f, fun v hv => (by cases hv)⟩
  | v :: vs, f, L, h => by
    have ha := h v List.mem_cons_self
    have hvr := (W.adj ha).2.1
    obtain ⟨w, rfl⟩ : ∃ w : Nat, v = w := ⟨v.toNat, by omega⟩
    have hwl : w < f.length := by have := L.len; omega
    have ix := ix_oD hwl
    rw [List.map_cons, forD_cons (ρ1 := [.fz x0, .fz x1, .fz x2, .ow (.lst (f.map oD)), .fz (.int (s : Int)), .fz (.int (u : Int)), .fz (.int (w : Int))]) rfl]
    have one : ∃ f', w_law_steps_B1 [.fz x0, .fz x1, .fz x2, .ow (.lst (f.map oD)), .fz (.int (s : Int)), .fz (.int (u : Int)), .fz (.int (w : Int))] = .nx [.fz x0, .fz x1, .fz x2, .ow (.lst (f'.map oD)), .fz (.int (s : Int)), .fz (.int (u : Int)), .un] ∧ Lev n ps es s f' ∧ Keep f f' ∧ atO f' w ≠ none := by
      cases q : atO f w with
      | none =>
        rw [q] at ix
        have ix : ixD (.lst (f.map oD)) (.int (w : Int)) = .ok .non := ix
        refine ⟨f.set w (some ((s : Int) + 1)), ?_, L.put D0 W hu ha q, Keep.put hwl, by rw [atO_set hwl, if_pos rfl]; simp⟩
        have st := setL_ok (i := 3) (a := eVb 6) (f := e2 addD (eVb 4) (eC (.int 1))) (ρ := [.fz x0, .fz x1, .fz x2, .ow (.lst (f.map oD)), .fz (.int (s : Int)), .fz (.int (u : Int)), .fz (.int (w : Int))]) (xs := f.map oD) (n := w) (z := (w : Int)) (x := .int ((s : Int) + 1)) (by simp (disch := first | omega | decide | (simp only [List.length_cons, List.length_nil, List.length_append, List.length_map, List.length_take, List.length_drop]; omega)) only [apC, apV, apVb, ap2, ap1, apB, apN, apX, aptB, aptV, apAnd, apOr, apNot, apeIf, apeAnd, apeOr, apeNot, apTup, apLst, apIt, apIts, apoN, apoS, apSl, ap3, apsN, apSeq, apSet, apOwn, apRet, apEx, apIf, apFrz, apT, apgN, apEnd, apLm, apGet2, apD1, apD2, apBV, wip_nx, wip_rt, wip_er, frz_fz, wipeF_cons, wipeF_nil, lstB_l, List.getElem?_cons_succ, List.getElem?_cons_zero, List.set_cons_succ, List.set_cons_zero, max2_i, min2_i, bindO, bindE, fdiv_s, mod_i, mul_s, mul_s', isi_ii, isi_ib, isi_it, isi_tt, isi_ll, isi_bb, len_l, len_t, len_s, it_l, it_t, mkL0, mkL1, mkL2, mkL3, mkL4, mkL5, mkL6, mkL7, mkL8, mkT0, mkT1, mkT2, mkT3, mkT4, mkT5, mkT6, mkT7, mkT8, add_i, sub_i, lt_i, le_i, gt_i, ge_i, eq_ib, ne_ib, decide_true, decide_false, tru_b, tru_i, tru_n, as_b, tru_l, tru_t, if_true, if_false, Bool.not_true, Bool.not_false, Bool.false_eq_true, list_l, list_t, tup_l, tup_t, endO_rt, endO_nx, endO_er, isNon_n, mkL9, mkL10, mkL11, mkL12, mkL13, mkL14, mkL15, mkL16, apsApp, appO_ok, appO_er, apsTup, tupO_2, tupO_3, negI, sl_t, cut_toD, cut_fromD, List.cons_append, List.nil_append, apRef, refO_ok, dro_fz, dro_un, dro_ow, dro_nil]) rfl rfl rfl (by rw [List.length_map]; exact hwl)
        have sm : (f.map oD).set w (.int ((s : Int) + 1)) = (f.set w (some ((s : Int) + 1))).map oD := by rw [List.map_set]; rfl
        rw [sm] at st
        unfold w_law_steps_B1
        simp (disch := first | omega | decide | (simp only [List.length_cons, List.length_nil, List.length_append, List.length_map, List.length_take, List.length_drop]; omega)) only [apC, apV, apVb, ap2, ap1, apB, apN, apX, aptB, aptV, apAnd, apOr, apNot, apeIf, apeAnd, apeOr, apeNot, apTup, apLst, apIt, apIts, apoN, apoS, apSl, ap3, apsN, apSeq, apSet, apOwn, apRet, apEx, apIf, apFrz, apT, apgN, apEnd, apLm, apGet2, apD1, apD2, apBV, wip_nx, wip_rt, wip_er, frz_fz, wipeF_cons, wipeF_nil, lstB_l, List.getElem?_cons_succ, List.getElem?_cons_zero, List.set_cons_succ, List.set_cons_zero, max2_i, min2_i, bindO, bindE, fdiv_s, mod_i, mul_s, mul_s', isi_ii, isi_ib, isi_it, isi_tt, isi_ll, isi_bb, len_l, len_t, len_s, it_l, it_t, mkL0, mkL1, mkL2, mkL3, mkL4, mkL5, mkL6, mkL7, mkL8, mkT0, mkT1, mkT2, mkT3, mkT4, mkT5, mkT6, mkT7, mkT8, add_i, sub_i, lt_i, le_i, gt_i, ge_i, eq_ib, ne_ib, decide_true, decide_false, tru_b, tru_i, tru_n, as_b, tru_l, tru_t, if_true, if_false, Bool.not_true, Bool.not_false, Bool.false_eq_true, list_l, list_t, tup_l, tup_t, endO_rt, endO_nx, endO_er, isNon_n, mkL9, mkL10, mkL11, mkL12, mkL13, mkL14, mkL15, mkL16, apsApp, appO_ok, appO_er, apsTup, tupO_2, tupO_3, negI, sl_t, cut_toD, cut_fromD, List.cons_append, List.nil_append, apRef, refO_ok, dro_fz, dro_un, dro_ow, dro_nil, ix, isNon, st]
      | some d =>
        rw [q] at ix
        have ix : ixD (.lst (f.map oD)) (.int (w : Int)) = .ok (.int d) := ix
        refine ⟨f, ?_, L, Keep.refl f, by rw [q]; simp⟩
        unfold w_law_steps_B1
        simp (disch := first | omega | decide | (simp only [List.length_cons, List.length_nil, List.length_append, List.length_map, List.length_take, List.length_drop]; omega)) only [apC, apV, apVb, ap2, ap1, apB, apN, apX, aptB, aptV, apAnd, apOr, apNot, apeIf, apeAnd, apeOr, apeNot, apTup, apLst, apIt, apIts, apoN, apoS, apSl, ap3, apsN, apSeq, apSet, apOwn, apRet, apEx, apIf, apFrz, apT, apgN, apEnd, apLm, apGet2, apD1, apD2, apBV, wip_nx, wip_rt, wip_er, frz_fz, wipeF_cons, wipeF_nil, lstB_l, List.getElem?_cons_succ, List.getElem?_cons_zero, List.set_cons_succ, List.set_cons_zero, max2_i, min2_i, bindO, bindE, fdiv_s, mod_i, mul_s, mul_s', isi_ii, isi_ib, isi_it, isi_tt, isi_ll, isi_bb, len_l, len_t, len_s, it_l, it_t, mkL0, mkL1, mkL2, mkL3, mkL4, mkL5, mkL6, mkL7, mkL8, mkT0, mkT1, mkT2, mkT3, mkT4, mkT5, mkT6, mkT7, mkT8, add_i, sub_i, lt_i, le_i, gt_i, ge_i, eq_ib, ne_ib, decide_true, decide_false, tru_b, tru_i, tru_n, as_b, tru_l, tru_t, if_true, if_false, Bool.not_true, Bool.not_false, Bool.false_eq_true, list_l, list_t, tup_l, tup_t, endO_rt, endO_nx, endO_er, isNon_n, mkL9, mkL10, mkL11, mkL12, mkL13, mkL14, mkL15, mkL16, apsApp, appO_ok, appO_er, apsTup, tupO_2, tupO_3, negI, sl_t, cut_toD, cut_fromD, List.cons_append, List.nil_append, apRef, refO_ok, dro_fz, dro_un, dro_ow, dro_nil, ix, isNon]
    obtain ⟨f1, e1, L1, K1, n1⟩ := one
    obtain ⟨f2, e2, L2, K2, n2⟩ := ls_inner D0 W hu (vs := vs) L1 fun v hv => h v (List.mem_cons_of_mem _ hv)
    refine ⟨f2, by rw [e1]; exact e2, L2, K1.trans K2, fun y hy => ?_⟩
    rcases List.mem_cons.mp hy with rfl | hy
    · exact K2.2 _ (by rw [Int.toNat_natCast]; exact n1)
    · exact n2 y hy
theorem ls_mid {n : Int} {ps es : List (Int × Int)} {p : Int} (D0 : Dist n ps p es) (W : WebOk n ps) {s : Nat} {f : List (Option Int)} (L : Lev n ps es s f) :
    ∃ f', w_law_steps_L2 [.fz (webD n ps), .fz (.int p), .fz (.lst ((nearL n ps).map fun r => .lst (r.map D.int))), .ow (.lst (f.map oD)), .fz (.int (s : Int)), .un, .un] = .nx [.fz (webD n ps), .fz (.int p), .fz (.lst ((nearL n ps).map fun r => .lst (r.map D.int))), .ow (.lst (f'.map oD)), .fz (.int (s : Int)), .un, .un] ∧ Lev n ps es (s + 1) f' := by
  have lo := W.lo
  have hi := W.hi
  obtain ⟨ρ', e, f', rfl, L', P⟩ := for_rng (g := gN 5) (b := w_law_steps_B2) (n := n.toNat) (lo := 0) (ρ := [.fz (webD n ps), .fz (.int p), .fz (.lst ((nearL n ps).map fun r => .lst (r.map D.int))), .ow (.lst (f.map oD)), .fz (.int (s : Int)), .un, .un])
    (fun k ρ => ∃ f : List (Option Int), ρ = [.fz (webD n ps), .fz (.int p), .fz (.lst ((nearL n ps).map fun r => .lst (r.map D.int))), .ow (.lst (f.map oD)), .fz (.int (s : Int)), .un, .un] ∧ Lev n ps es s f ∧ ∀ u : Nat, u < k → ((u : Int), (s : Int)) ∈ es → ∀ v : Nat, Adj ps u v → atO f v ≠ none)
    ⟨f, rfl, L, fun u hu => absurd hu (Nat.not_lt_zero _)⟩ fun k ρ hk hI => by
      obtain ⟨f, rfl, L, P⟩ := hI
      have hkl : k < f.length := by have := L.len; omega
      have ix := ix_oD hkl
      rw [Int.zero_add]
      by_cases q : atO f k = some (s : Int)
      · have hu := (L.sound k s q).1
        rw [q] at ix
        have ix : ixD (.lst (f.map oD)) (.int (k : Int)) = .ok (.int (s : Int)) := ix
        have hv : ∀ v, v ∈ rowL (nearL n ps) k ↔ Adj ps k v := fun v => nearL_mem W
        have hkn : k < (nearL n ps).length := by rw [nearL_len]; omega
        obtain ⟨f', e, L', K, N⟩ := ls_inner D0 W (x0 := webD n ps) (x1 := .int p) (x2 := .lst ((nearL n ps).map fun r => .lst (r.map D.int))) hu (vs := rowL (nearL n ps) k) L fun v h => (hv v).mp h
        have ix2 : ixD (.lst ((nearL n ps).map fun r => .lst (r.map D.int))) (.int (k : Int)) = .ok (.lst ((rowL (nearL n ps) k).map D.int)) := by
          rw [ix_l (xs := (nearL n ps).map fun r => D.lst (r.map D.int)) (k := k) (by rw [List.length_map]; exact hkn), List.getElem_map, ← rowL_get hkn]
        have lp : w_law_steps_L1 [.fz (webD n ps), .fz (.int p), .fz (.lst ((nearL n ps).map fun r => .lst (r.map D.int))), .ow (.lst (f.map oD)), .fz (.int (s : Int)), .fz (.int (k : Int)), .un] = _ := for_go (ds := (rowL (nearL n ps) k).map D.int) (by simp (disch := first | omega | decide | (simp only [List.length_cons, List.length_nil, List.length_append, List.length_map, List.length_take, List.length_drop]; omega)) only [apC, apV, apVb, ap2, ap1, apB, apN, apX, aptB, aptV, apAnd, apOr, apNot, apeIf, apeAnd, apeOr, apeNot, apTup, apLst, apIt, apIts, apoN, apoS, apSl, ap3, apsN, apSeq, apSet, apOwn, apRet, apEx, apIf, apFrz, apT, apgN, apEnd, apLm, apGet2, apD1, apD2, apBV, wip_nx, wip_rt, wip_er, frz_fz, wipeF_cons, wipeF_nil, lstB_l, List.getElem?_cons_succ, List.getElem?_cons_zero, List.set_cons_succ, List.set_cons_zero, max2_i, min2_i, bindO, bindE, fdiv_s, mod_i, mul_s, mul_s', isi_ii, isi_ib, isi_it, isi_tt, isi_ll, isi_bb, len_l, len_t, len_s, it_l, it_t, mkL0, mkL1, mkL2, mkL3, mkL4, mkL5, mkL6, mkL7, mkL8, mkT0, mkT1, mkT2, mkT3, mkT4, mkT5, mkT6, mkT7, mkT8, add_i, sub_i, lt_i, le_i, gt_i, ge_i, eq_ib, ne_ib, decide_true, decide_false, tru_b, tru_i, tru_n, as_b, tru_l, tru_t, if_true, if_false, Bool.not_true, Bool.not_false, Bool.false_eq_true, list_l, list_t, tup_l, tup_t, endO_rt, endO_nx, endO_er, isNon_n, mkL9, mkL10, mkL11, mkL12, mkL13, mkL14, mkL15, mkL16, apsApp, appO_ok, appO_er, apsTup, tupO_2, tupO_3, negI, sl_t, cut_toD, cut_fromD, List.cons_append, List.nil_append, apRef, refO_ok, dro_fz, dro_un, dro_ow, dro_nil, ix2]) e
        refine ⟨_, [.fz (webD n ps), .fz (.int p), .fz (.lst ((nearL n ps).map fun r => .lst (r.map D.int))), .ow (.lst (f'.map oD)), .fz (.int (s : Int)), .un, .un], rfl, .inl ?_, f', rfl, L', fun u hu2 hs v ha => ?_⟩
        · unfold w_law_steps_B2
          simp (disch := first | omega | decide | (simp only [List.length_cons, List.length_nil, List.length_append, List.length_map, List.length_take, List.length_drop]; omega)) only [apC, apV, apVb, ap2, ap1, apB, apN, apX, aptB, aptV, apAnd, apOr, apNot, apeIf, apeAnd, apeOr, apeNot, apTup, apLst, apIt, apIts, apoN, apoS, apSl, ap3, apsN, apSeq, apSet, apOwn, apRet, apEx, apIf, apFrz, apT, apgN, apEnd, apLm, apGet2, apD1, apD2, apBV, wip_nx, wip_rt, wip_er, frz_fz, wipeF_cons, wipeF_nil, lstB_l, List.getElem?_cons_succ, List.getElem?_cons_zero, List.set_cons_succ, List.set_cons_zero, max2_i, min2_i, bindO, bindE, fdiv_s, mod_i, mul_s, mul_s', isi_ii, isi_ib, isi_it, isi_tt, isi_ll, isi_bb, len_l, len_t, len_s, it_l, it_t, mkL0, mkL1, mkL2, mkL3, mkL4, mkL5, mkL6, mkL7, mkL8, mkT0, mkT1, mkT2, mkT3, mkT4, mkT5, mkT6, mkT7, mkT8, add_i, sub_i, lt_i, le_i, gt_i, ge_i, eq_ib, ne_ib, decide_true, decide_false, tru_b, tru_i, tru_n, as_b, tru_l, tru_t, if_true, if_false, Bool.not_true, Bool.not_false, Bool.false_eq_true, list_l, list_t, tup_l, tup_t, endO_rt, endO_nx, endO_er, isNon_n, mkL9, mkL10, mkL11, mkL12, mkL13, mkL14, mkL15, mkL16, apsApp, appO_ok, appO_er, apsTup, tupO_2, tupO_3, negI, sl_t, cut_toD, cut_fromD, List.cons_append, List.nil_append, apRef, refO_ok, dro_fz, dro_un, dro_ow, dro_nil, ix, eq_ib, lp]
        · by_cases hk2 : u = k
          · subst hk2
            have := N v ((hv v).mpr ha)
            rwa [Int.toNat_natCast] at this
          · exact K.2 v (P u (by omega) hs v ha)
      · have te : eqD (oD (atO f k)) (.int (s : Int)) = .ok (.bl false) := by
          cases q2 : atO f k with
          | none => rfl
          | some d =>
            rw [q2] at q
            show eqD (.int d) (.int (s : Int)) = _
            rw [eq_ib, decide_eq_false fun e => q (by rw [e])]
        refine ⟨_, [.fz (webD n ps), .fz (.int p), .fz (.lst ((nearL n ps).map fun r => .lst (r.map D.int))), .ow (.lst (f.map oD)), .fz (.int (s : Int)), .un, .un], rfl, .inl ?_, f, rfl, L, fun u hu2 hs v ha => ?_⟩
        · unfold w_law_steps_B2
          simp (disch := first | omega | decide | (simp only [List.length_cons, List.length_nil, List.length_append, List.length_map, List.length_take, List.length_drop]; omega)) only [apC, apV, apVb, ap2, ap1, apB, apN, apX, aptB, aptV, apAnd, apOr, apNot, apeIf, apeAnd, apeOr, apeNot, apTup, apLst, apIt, apIts, apoN, apoS, apSl, ap3, apsN, apSeq, apSet, apOwn, apRet, apEx, apIf, apFrz, apT, apgN, apEnd, apLm, apGet2, apD1, apD2, apBV, wip_nx, wip_rt, wip_er, frz_fz, wipeF_cons, wipeF_nil, lstB_l, List.getElem?_cons_succ, List.getElem?_cons_zero, List.set_cons_succ, List.set_cons_zero, max2_i, min2_i, bindO, bindE, fdiv_s, mod_i, mul_s, mul_s', isi_ii, isi_ib, isi_it, isi_tt, isi_ll, isi_bb, len_l, len_t, len_s, it_l, it_t, mkL0, mkL1, mkL2, mkL3, mkL4, mkL5, mkL6, mkL7, mkL8, mkT0, mkT1, mkT2, mkT3, mkT4, mkT5, mkT6, mkT7, mkT8, add_i, sub_i, lt_i, le_i, gt_i, ge_i, eq_ib, ne_ib, decide_true, decide_false, tru_b, tru_i, tru_n, as_b, tru_l, tru_t, if_true, if_false, Bool.not_true, Bool.not_false, Bool.false_eq_true, list_l, list_t, tup_l, tup_t, endO_rt, endO_nx, endO_er, isNon_n, mkL9, mkL10, mkL11, mkL12, mkL13, mkL14, mkL15, mkL16, apsApp, appO_ok, appO_er, apsTup, tupO_2, tupO_3, negI, sl_t, cut_toD, cut_fromD, List.cons_append, List.nil_append, apRef, refO_ok, dro_fz, dro_un, dro_ow, dro_nil, ix, te]
        · by_cases hk2 : u = k
          · subst hk2
            exact absurd (L.low u s hs (Int.le_refl _)) q
          · exact P u (by omega) hs v ha
  refine ⟨f', for_go (by
    have r := rng1_int (n := n) (by omega) (by omega)
    simp (disch := first | omega | decide | (simp only [List.length_cons, List.length_nil, List.length_append, List.length_map, List.length_take, List.length_drop]; omega)) only [apC, apV, apVb, ap2, ap1, apB, apN, apX, aptB, aptV, apAnd, apOr, apNot, apeIf, apeAnd, apeOr, apeNot, apTup, apLst, apIt, apIts, apoN, apoS, apSl, ap3, apsN, apSeq, apSet, apOwn, apRet, apEx, apIf, apFrz, apT, apgN, apEnd, apLm, apGet2, apD1, apD2, apBV, wip_nx, wip_rt, wip_er, frz_fz, wipeF_cons, wipeF_nil, lstB_l, List.getElem?_cons_succ, List.getElem?_cons_zero, List.set_cons_succ, List.set_cons_zero, max2_i, min2_i, bindO, bindE, fdiv_s, mod_i, mul_s, mul_s', isi_ii, isi_ib, isi_it, isi_tt, isi_ll, isi_bb, len_l, len_t, len_s, it_l, it_t, mkL0, mkL1, mkL2, mkL3, mkL4, mkL5, mkL6, mkL7, mkL8, mkT0, mkT1, mkT2, mkT3, mkT4, mkT5, mkT6, mkT7, mkT8, add_i, sub_i, lt_i, le_i, gt_i, ge_i, eq_ib, ne_ib, decide_true, decide_false, tru_b, tru_i, tru_n, as_b, tru_l, tru_t, if_true, if_false, Bool.not_true, Bool.not_false, Bool.false_eq_true, list_l, list_t, tup_l, tup_t, endO_rt, endO_nx, endO_er, isNon_n, mkL9, mkL10, mkL11, mkL12, mkL13, mkL14, mkL15, mkL16, apsApp, appO_ok, appO_er, apsTup, tupO_2, tupO_3, negI, sl_t, cut_toD, cut_fromD, List.cons_append, List.nil_append, apRef, refO_ok, dro_fz, dro_un, dro_ow, dro_nil, ix0, r]) e, L'.len, fun v d h => ?_, fun v d hm hd => ?_⟩
  · have := L'.sound v d h
    exact ⟨this.1, by omega⟩
  · by_cases hs : d ≤ (s : Int)
    · exact L'.low v d hm hs
    · have hd2 : d = (s : Int) + 1 := by omega
      subst hd2
      rcases D0.pred _ hm with q | ⟨u, ha, hu⟩
      · cases q
      · dsimp only at ha hu
        rw [show (s : Int) + 1 - 1 = (s : Int) by omega] at hu
        have hur := (D0.rng _ hu).1
        dsimp only at hur
        obtain ⟨u', rfl⟩ : ∃ u' : Nat, u = u' := ⟨u.toNat, by omega⟩
        have := P u' (by omega) hu v ha
        cases q : atO f' v with
        | none => exact absurd q this
        | some d' =>
          have := nd_eq D0.nd (L'.sound v d' q).1 hm
          rw [this]
theorem law_steps_ok {n : Int} {ps es : List (Int × Int)} (W : WebOk n ps) {p : Int} (hp : 0 ≤ p ∧ p < n) (D0 : Dist n ps p es) : ∃ f, w_law_steps [webD n ps, .int p] = .ok (.lst (f.map oD)) ∧ (f.length : Int) = n ∧ ∀ (v : Nat) d, atO f v = some d ↔ ((v : Int), d) ∈ es := by
  have lo := W.lo
  have hi := W.hi
  have rp : repND (.lst [.non]) (.int n) = .ok (.lst ((List.replicate n.toNat (none : Option Int)).map oD)) := by
    have h : n.toNat ≤ 2 ^ 20 := by omega
    have hc : [D.non].length * n.toNat ≤ sizeLine := by
      rw [List.length_singleton, Nat.one_mul]
      exact Nat.le_trans h (Nat.le_trans (by decide) szl)
    refine (if_pos ⟨by omega, by omega, hc⟩).trans ?_
    · have e : ∀ m : Nat, (List.replicate m [D.non]).flatten = (List.replicate m (none : Option Int)).map oD := by
        intro m
        induction m with
        | zero => rfl
        | succ k ih => rw [List.replicate_succ, List.flatten_cons, ih, List.replicate_succ, List.map_cons]; rfl
      rw [e]
  have hpl : p.toNat < (List.replicate n.toNat (none : Option Int)).length := by rw [List.length_replicate]; omega
  have hnone : ∀ v, atO (List.replicate n.toNat (none : Option Int)) v = none := fun v => by
    unfold atO
    rw [List.getElem?_replicate]
    split <;> rfl
  have st := setL_ok (i := 3) (a := eV 1) (f := eC (.int 0)) (ρ := [.fz (webD n ps), .fz (.int p), .fz (.lst ((nearL n ps).map fun r => .lst (r.map D.int))), .ow (.lst ((List.replicate n.toNat (none : Option Int)).map oD)), .un, .un, .un]) (xs := (List.replicate n.toNat (none : Option Int)).map oD) (n := p.toNat) (z := p) (x := .int 0) rfl rfl rfl (by omega) (by rw [List.length_map]; exact hpl)
  have st' := setL_ok (i := 3) (a := eVb 1) (f := eC (.int 0)) (ρ := [.fz (webD n ps), .fz (.int p), .fz (.lst ((nearL n ps).map fun r => .lst (r.map D.int))), .ow (.lst ((List.replicate n.toNat (none : Option Int)).map oD)), .un, .un, .un]) (xs := (List.replicate n.toNat (none : Option Int)).map oD) (n := p.toNat) (z := p) (x := .int 0) rfl rfl rfl (by omega) (by rw [List.length_map]; exact hpl)
  have sm : ((List.replicate n.toNat (none : Option Int)).map oD).set p.toNat (.int 0) = ((List.replicate n.toNat (none : Option Int)).set p.toNat (some 0)).map oD := by rw [List.map_set]; rfl
  rw [sm] at st st'
  have L0 : Lev n ps es 0 ((List.replicate n.toNat (none : Option Int)).set p.toNat (some 0)) := by
    refine ⟨by rw [List.length_set, List.length_replicate]; omega, fun v d e => ?_, fun v d hm hd => ?_⟩
    · rw [atO_set hpl, hnone] at e
      split at e
      · rename_i q
        cases e
        rw [q, show ((p.toNat : Nat) : Int) = p by omega]
        exact ⟨D0.start, by decide⟩
      · cases e
    · have := (D0.rng _ hm).2
      dsimp only at this
      obtain rfl : d = 0 := by omega
      rcases D0.pred _ hm with q | ⟨u, _, hu⟩
      · cases q
        rw [atO_set hpl, if_pos (by omega)]
      · have := (D0.rng _ hu).2
        dsimp only at this
        omega
  generalize (List.replicate n.toNat (none : Option Int)).set p.toNat (some 0) = f0 at st st' L0
  obtain ⟨ρ', e, f, rfl, L⟩ := for_rng (g := gN 4) (b := w_law_steps_B3) (n := n.toNat) (lo := 0) (ρ := [.fz (webD n ps), .fz (.int p), .fz (.lst ((nearL n ps).map fun r => .lst (r.map D.int))), .ow (.lst (f0.map oD)), .un, .un, .un])
    (fun k ρ => ∃ f : List (Option Int), ρ = [.fz (webD n ps), .fz (.int p), .fz (.lst ((nearL n ps).map fun r => .lst (r.map D.int))), .ow (.lst (f.map oD)), .un, .un, .un] ∧ Lev n ps es k f) ⟨f0, rfl, L0⟩ fun k ρ hk hI => by
      obtain ⟨f, rfl, L⟩ := hI
      obtain ⟨f', e, L'⟩ := ls_mid D0 W L
      refine ⟨_, [.fz (webD n ps), .fz (.int p), .fz (.lst ((nearL n ps).map fun r => .lst (r.map D.int))), .ow (.lst (f'.map oD)), .un, .un, .un], rfl, .inl ?_, f', rfl, L'⟩
      rw [Int.zero_add]
      unfold w_law_steps_B3
      simp (disch := first | omega | decide | (simp only [List.length_cons, List.length_nil, List.length_append, List.length_map, List.length_take, List.length_drop]; omega)) only [apC, apV, apVb, ap2, ap1, apB, apN, apX, aptB, aptV, apAnd, apOr, apNot, apeIf, apeAnd, apeOr, apeNot, apTup, apLst, apIt, apIts, apoN, apoS, apSl, ap3, apsN, apSeq, apSet, apOwn, apRet, apEx, apIf, apFrz, apT, apgN, apEnd, apLm, apGet2, apD1, apD2, apBV, wip_nx, wip_rt, wip_er, frz_fz, wipeF_cons, wipeF_nil, lstB_l, List.getElem?_cons_succ, List.getElem?_cons_zero, List.set_cons_succ, List.set_cons_zero, max2_i, min2_i, bindO, bindE, fdiv_s, mod_i, mul_s, mul_s', isi_ii, isi_ib, isi_it, isi_tt, isi_ll, isi_bb, len_l, len_t, len_s, it_l, it_t, mkL0, mkL1, mkL2, mkL3, mkL4, mkL5, mkL6, mkL7, mkL8, mkT0, mkT1, mkT2, mkT3, mkT4, mkT5, mkT6, mkT7, mkT8, add_i, sub_i, lt_i, le_i, gt_i, ge_i, eq_ib, ne_ib, decide_true, decide_false, tru_b, tru_i, tru_n, as_b, tru_l, tru_t, if_true, if_false, Bool.not_true, Bool.not_false, Bool.false_eq_true, list_l, list_t, tup_l, tup_t, endO_rt, endO_nx, endO_er, isNon_n, mkL9, mkL10, mkL11, mkL12, mkL13, mkL14, mkL15, mkL16, apsApp, appO_ok, appO_er, apsTup, tupO_2, tupO_3, negI, sl_t, cut_toD, cut_fromD, List.cons_append, List.nil_append, apRef, refO_ok, dro_fz, dro_un, dro_ow, dro_nil, e]
  have lp : w_law_steps_L3 [.fz (webD n ps), .fz (.int p), .fz (.lst ((nearL n ps).map fun r => .lst (r.map D.int))), .ow (.lst (f0.map oD)), .un, .un, .un] = .nx [.fz (webD n ps), .fz (.int p), .fz (.lst ((nearL n ps).map fun r => .lst (r.map D.int))), .ow (.lst (f.map oD)), .un, .un, .un] := for_go (by
    have r := rng1_int (n := n) (by omega) (by omega)
    simp (disch := first | omega | decide | (simp only [List.length_cons, List.length_nil, List.length_append, List.length_map, List.length_take, List.length_drop]; omega)) only [apC, apV, apVb, ap2, ap1, apB, apN, apX, aptB, aptV, apAnd, apOr, apNot, apeIf, apeAnd, apeOr, apeNot, apTup, apLst, apIt, apIts, apoN, apoS, apSl, ap3, apsN, apSeq, apSet, apOwn, apRet, apEx, apIf, apFrz, apT, apgN, apEnd, apLm, apGet2, apD1, apD2, apBV, wip_nx, wip_rt, wip_er, frz_fz, wipeF_cons, wipeF_nil, lstB_l, List.getElem?_cons_succ, List.getElem?_cons_zero, List.set_cons_succ, List.set_cons_zero, max2_i, min2_i, bindO, bindE, fdiv_s, mod_i, mul_s, mul_s', isi_ii, isi_ib, isi_it, isi_tt, isi_ll, isi_bb, len_l, len_t, len_s, it_l, it_t, mkL0, mkL1, mkL2, mkL3, mkL4, mkL5, mkL6, mkL7, mkL8, mkT0, mkT1, mkT2, mkT3, mkT4, mkT5, mkT6, mkT7, mkT8, add_i, sub_i, lt_i, le_i, gt_i, ge_i, eq_ib, ne_ib, decide_true, decide_false, tru_b, tru_i, tru_n, as_b, tru_l, tru_t, if_true, if_false, Bool.not_true, Bool.not_false, Bool.false_eq_true, list_l, list_t, tup_l, tup_t, endO_rt, endO_nx, endO_er, isNon_n, mkL9, mkL10, mkL11, mkL12, mkL13, mkL14, mkL15, mkL16, apsApp, appO_ok, appO_er, apsTup, tupO_2, tupO_3, negI, sl_t, cut_toD, cut_fromD, List.cons_append, List.nil_append, apRef, refO_ok, dro_fz, dro_un, dro_ow, dro_nil, ix0, r]) e
  refine ⟨f, ?_, L.len, fun v d => ⟨fun h => (L.sound v d h).1, fun h => L.low v d h (by have := D0.deep v d h; omega)⟩⟩
  rw [go_w_law_steps]
  unfold w_law_steps_S
  simp (disch := first | omega | decide | (simp only [List.length_cons, List.length_nil, List.length_append, List.length_map, List.length_take, List.length_drop]; omega)) only [apC, apV, apVb, ap2, ap1, apB, apN, apX, aptB, aptV, apAnd, apOr, apNot, apeIf, apeAnd, apeOr, apeNot, apTup, apLst, apIt, apIts, apoN, apoS, apSl, ap3, apsN, apSeq, apSet, apOwn, apRet, apEx, apIf, apFrz, apT, apgN, apEnd, apLm, apGet2, apD1, apD2, apBV, wip_nx, wip_rt, wip_er, frz_fz, wipeF_cons, wipeF_nil, lstB_l, List.getElem?_cons_succ, List.getElem?_cons_zero, List.set_cons_succ, List.set_cons_zero, max2_i, min2_i, bindO, bindE, fdiv_s, mod_i, mul_s, mul_s', isi_ii, isi_ib, isi_it, isi_tt, isi_ll, isi_bb, len_l, len_t, len_s, it_l, it_t, mkL0, mkL1, mkL2, mkL3, mkL4, mkL5, mkL6, mkL7, mkL8, mkT0, mkT1, mkT2, mkT3, mkT4, mkT5, mkT6, mkT7, mkT8, add_i, sub_i, lt_i, le_i, gt_i, ge_i, eq_ib, ne_ib, decide_true, decide_false, tru_b, tru_i, tru_n, as_b, tru_l, tru_t, if_true, if_false, Bool.not_true, Bool.not_false, Bool.false_eq_true, list_l, list_t, tup_l, tup_t, endO_rt, endO_nx, endO_er, isNon_n, mkL9, mkL10, mkL11, mkL12, mkL13, mkL14, mkL15, mkL16, apsApp, appO_ok, appO_er, apsTup, tupO_2, tupO_3, negI, sl_t, cut_toD, cut_fromD, List.cons_append, List.nil_append, apRef, refO_ok, dro_fz, dro_un, dro_ow, dro_nil, nigh_near, near_ok W, ix0, rp, st, st', lp]
end PB

namespace PB
open PySem PySem.Spec PyProof.Rows L2 LamX
/-! ### S12: trees of the first kind; is_tree; parts of webs -/
theorem tree1 (c m : Int) (hm : 1 ≤ m ∧ m ≤ 40) : ∃ n o T, w_law_tree [.int c, .int m] = .ok (webD n (sortT T)) ∧ (1 ≤ n ∧ n ≤ m) ∧ OrdOk n o ∧ Grown o T ∧ (T.length : Int) + 1 = n := by
  have d0 := draw_1 (c := c) (k := 0) (b := m) (by decide) (by omega)
  have l0 := drw_lt (c := c) (k := 0) (b := m) (by omega)
  generalize hn : 1 + drw c 0 m = n
  have d1 := draw_1 (c := c) (k := 1) (b := 4) (by decide) (by decide)
  have l1 := drw_lt (c := c) (k := 1) (b := 4) (by decide)
  generalize drw c 1 4 = kind at d1 l1
  have c1 : w_law_tree_C1 [.fz (.int c), .fz (.int m), .fz (.int n), .fz (.int kind), .un, .un, .un, .un, .un] = .ok (.lst (((List.range n.toNat).map fun (k : Nat) => (drw c (2000 + (k : Int)) 97, (k : Int))).map tieD)) := by
    have r := rng1_int (n := n) (by omega) (by omega)
    refine Eq.trans (eLc_ok (ds := intsD 0 n.toNat) (by simp (disch := first | omega | decide | (simp only [List.length_cons, List.length_nil, List.length_append, List.length_map, List.length_take, List.length_drop]; omega)) only [apC, apV, apVb, ap2, ap1, apB, apN, apX, aptB, aptV, apAnd, apOr, apNot, apeIf, apeAnd, apeOr, apeNot, apTup, apLst, apIt, apIts, apoN, apoS, apSl, ap3, apsN, apSeq, apSet, apOwn, apRet, apEx, apIf, apFrz, apT, apgN, apEnd, apLm, apGet2, apD1, apD2, apBV, wip_nx, wip_rt, wip_er, frz_fz, wipeF_cons, wipeF_nil, lstB_l, List.getElem?_cons_succ, List.getElem?_cons_zero, List.set_cons_succ, List.set_cons_zero, max2_i, min2_i, bindO, bindE, fdiv_s, mod_i, mul_s, mul_s', isi_ii, isi_ib, isi_it, isi_tt, isi_ll, isi_bb, len_l, len_t, len_s, it_l, it_t, mkL0, mkL1, mkL2, mkL3, mkL4, mkL5, mkL6, mkL7, mkL8, mkT0, mkT1, mkT2, mkT3, mkT4, mkT5, mkT6, mkT7, mkT8, add_i, sub_i, lt_i, le_i, gt_i, ge_i, eq_ib, ne_ib, decide_true, decide_false, tru_b, tru_i, tru_n, as_b, tru_l, tru_t, if_true, if_false, Bool.not_true, Bool.not_false, Bool.false_eq_true, list_l, list_t, tup_l, tup_t, endO_rt, endO_nx, endO_er, isNon_n, mkL9, mkL10, mkL11, mkL12, mkL13, mkL14, mkL15, mkL16, apsApp, appO_ok, appO_er, apsTup, tupO_2, tupO_3, negI, sl_t, cut_toD, cut_fromD, List.cons_append, List.nil_append, apRef, refO_ok, dro_fz, dro_un, dro_ow, dro_nil, r]) rfl (lc_map (fun d => match d with | .int k => tieD (drw c (2000 + k) 97, k) | d => d) fun d hd => ?_)) ?_
    · obtain ⟨k, hk, rfl⟩ := mem_ints hd
      have d2 := draw_1 (c := c) (k := 2000 + (0 + (k : Int))) (b := 97) (by omega) (by omega)
      refine ⟨_, rfl, ?_⟩
      simp (disch := first | omega | decide | (simp only [List.length_cons, List.length_nil, List.length_append, List.length_map, List.length_take, List.length_drop]; omega)) only [apC, apV, apVb, ap2, ap1, apB, apN, apX, aptB, aptV, apAnd, apOr, apNot, apeIf, apeAnd, apeOr, apeNot, apTup, apLst, apIt, apIts, apoN, apoS, apSl, ap3, apsN, apSeq, apSet, apOwn, apRet, apEx, apIf, apFrz, apT, apgN, apEnd, apLm, apGet2, apD1, apD2, apBV, wip_nx, wip_rt, wip_er, frz_fz, wipeF_cons, wipeF_nil, lstB_l, List.getElem?_cons_succ, List.getElem?_cons_zero, List.set_cons_succ, List.set_cons_zero, max2_i, min2_i, bindO, bindE, fdiv_s, mod_i, mul_s, mul_s', isi_ii, isi_ib, isi_it, isi_tt, isi_ll, isi_bb, len_l, len_t, len_s, it_l, it_t, mkL0, mkL1, mkL2, mkL3, mkL4, mkL5, mkL6, mkL7, mkL8, mkT0, mkT1, mkT2, mkT3, mkT4, mkT5, mkT6, mkT7, mkT8, add_i, sub_i, lt_i, le_i, gt_i, ge_i, eq_ib, ne_ib, decide_true, decide_false, tru_b, tru_i, tru_n, as_b, tru_l, tru_t, if_true, if_false, Bool.not_true, Bool.not_false, Bool.false_eq_true, list_l, list_t, tup_l, tup_t, endO_rt, endO_nx, endO_er, isNon_n, mkL9, mkL10, mkL11, mkL12, mkL13, mkL14, mkL15, mkL16, apsApp, appO_ok, appO_er, apsTup, tupO_2, tupO_3, negI, sl_t, cut_toD, cut_fromD, List.cons_append, List.nil_append, apRef, refO_ok, dro_fz, dro_un, dro_ow, dro_nil, d2]
      rfl
    · unfold intsD
      rw [List.map_map, List.map_map]
      congr 2
      refine List.map_congr_left fun k _ => ?_
      show tieD (drw c (2000 + (0 + (k : Int))) 97, 0 + (k : Int)) = tieD (drw c (2000 + (k : Int)) 97, (k : Int))
      rw [Int.zero_add]
  generalize hP : (List.range n.toNat).map (fun (k : Nat) => (drw c (2000 + (k : Int)) 97, (k : Int))) = P at c1
  have hO : OrdOk n ((sortT P).map (·.2)) := by
    have p : ((sortT P).map (·.2)).Perm ((List.range n.toNat).map fun (k : Nat) => (k : Int)) := by
      have := (sortT_perm P).map (·.2)
      rw [← hP, List.map_map] at this
      rw [← hP]
      exact this
    refine ⟨by rw [p.length_eq, List.length_map, List.length_range]; omega, p.nodup_iff.mpr (List.Pairwise.map _ (fun a b (hab : a ≠ b) e => hab (by omega)) List.nodup_range), fun x hx => ?_⟩
    obtain ⟨k, hk, rfl⟩ := List.mem_map.mp (p.mem_iff.mp hx)
    have := List.mem_range.mp hk
    omega
  have c2 : w_law_tree_C2 [.fz (.int c), .fz (.int m), .fz (.int n), .fz (.int kind), .un, .un, .un, .un, .un] = .ok (.lst (((sortT P).map (·.2)).map D.int)) := by
    refine Eq.trans (eLc_ok (ds := (sortT P).map tieD) (by simp (disch := first | omega | decide | (simp only [List.length_cons, List.length_nil, List.length_append, List.length_map, List.length_take, List.length_drop]; omega)) only [apC, apV, apVb, ap2, ap1, apB, apN, apX, aptB, aptV, apAnd, apOr, apNot, apeIf, apeAnd, apeOr, apeNot, apTup, apLst, apIt, apIts, apoN, apoS, apSl, ap3, apsN, apSeq, apSet, apOwn, apRet, apEx, apIf, apFrz, apT, apgN, apEnd, apLm, apGet2, apD1, apD2, apBV, wip_nx, wip_rt, wip_er, frz_fz, wipeF_cons, wipeF_nil, lstB_l, List.getElem?_cons_succ, List.getElem?_cons_zero, List.set_cons_succ, List.set_cons_zero, max2_i, min2_i, bindO, bindE, fdiv_s, mod_i, mul_s, mul_s', isi_ii, isi_ib, isi_it, isi_tt, isi_ll, isi_bb, len_l, len_t, len_s, it_l, it_t, mkL0, mkL1, mkL2, mkL3, mkL4, mkL5, mkL6, mkL7, mkL8, mkT0, mkT1, mkT2, mkT3, mkT4, mkT5, mkT6, mkT7, mkT8, add_i, sub_i, lt_i, le_i, gt_i, ge_i, eq_ib, ne_ib, decide_true, decide_false, tru_b, tru_i, tru_n, as_b, tru_l, tru_t, if_true, if_false, Bool.not_true, Bool.not_false, Bool.false_eq_true, list_l, list_t, tup_l, tup_t, endO_rt, endO_nx, endO_er, isNon_n, mkL9, mkL10, mkL11, mkL12, mkL13, mkL14, mkL15, mkL16, apsApp, appO_ok, appO_er, apsTup, tupO_2, tupO_3, negI, sl_t, cut_toD, cut_fromD, List.cons_append, List.nil_append, apRef, refO_ok, dro_fz, dro_un, dro_ow, dro_nil, c1, sorted_ties]) rfl (lc_map (fun d => match d with | .tup [_, y] => y | d => d) fun d hd => ?_)) ?_
    · obtain ⟨p, _, rfl⟩ := List.mem_map.mp hd
      refine ⟨_, rfl, ?_⟩
      have : ixD (tieD p) (.int 1) = .ok (.int p.2) := rfl
      simp (disch := first | omega | decide | (simp only [List.length_cons, List.length_nil, List.length_append, List.length_map, List.length_take, List.length_drop]; omega)) only [apC, apV, apVb, ap2, ap1, apB, apN, apX, aptB, aptV, apAnd, apOr, apNot, apeIf, apeAnd, apeOr, apeNot, apTup, apLst, apIt, apIts, apoN, apoS, apSl, ap3, apsN, apSeq, apSet, apOwn, apRet, apEx, apIf, apFrz, apT, apgN, apEnd, apLm, apGet2, apD1, apD2, apBV, wip_nx, wip_rt, wip_er, frz_fz, wipeF_cons, wipeF_nil, lstB_l, List.getElem?_cons_succ, List.getElem?_cons_zero, List.set_cons_succ, List.set_cons_zero, max2_i, min2_i, bindO, bindE, fdiv_s, mod_i, mul_s, mul_s', isi_ii, isi_ib, isi_it, isi_tt, isi_ll, isi_bb, len_l, len_t, len_s, it_l, it_t, mkL0, mkL1, mkL2, mkL3, mkL4, mkL5, mkL6, mkL7, mkL8, mkT0, mkT1, mkT2, mkT3, mkT4, mkT5, mkT6, mkT7, mkT8, add_i, sub_i, lt_i, le_i, gt_i, ge_i, eq_ib, ne_ib, decide_true, decide_false, tru_b, tru_i, tru_n, as_b, tru_l, tru_t, if_true, if_false, Bool.not_true, Bool.not_false, Bool.false_eq_true, list_l, list_t, tup_l, tup_t, endO_rt, endO_nx, endO_er, isNon_n, mkL9, mkL10, mkL11, mkL12, mkL13, mkL14, mkL15, mkL16, apsApp, appO_ok, appO_er, apsTup, tupO_2, tupO_3, negI, sl_t, cut_toD, cut_fromD, List.cons_append, List.nil_append, apRef, refO_ok, dro_fz, dro_un, dro_ow, dro_nil, this]
      rfl
    · rw [List.map_map, List.map_map]
      congr 2
  generalize (sortT P).map (·.2) = o at hO c2
  have hol := hO.len
  obtain ⟨ρ', e, T, rfl, hl, g⟩ := for_rng (g := gN 6) (b := w_law_tree_B1) (n := (n - 1).toNat) (lo := 1) (ρ := [.fz (.int c), .fz (.int m), .fz (.int n), .fz (.int kind), .fz (.lst (o.map D.int)), .un, .un, .ow (.lst []), .un])
    (fun k ρ => ∃ T : List (Int × Int), ρ = [.fz (.int c), .fz (.int m), .fz (.int n), .fz (.int kind), .fz (.lst (o.map D.int)), .un, .un, .ow (.lst (T.map tieD)), .un] ∧ T.length = k ∧ Grown o T) ⟨[], rfl, rfl, Grown.nil⟩ fun k ρ hk hi => by
      obtain ⟨T, rfl, hl, g⟩ := hi
      have e2 := draw_1 (c := c) (k := 2100 + (1 + (k : Int))) (b := 1 + (k : Int)) (by omega) (by omega)
      have q2 := drw_lt (c := c) (k := 2100 + (1 + (k : Int))) (b := 1 + (k : Int)) (by omega)
      have e3 := draw_1 (c := c) (k := 2200 + (1 + (k : Int))) (b := 4) (by omega) (by omega)
      have e4 := draw_1 (c := c) (k := 2300 + (1 + (k : Int))) (b := 1 + (k : Int)) (by omega) (by omega)
      have q4 := drw_lt (c := c) (k := 2300 + (1 + (k : Int))) (b := 1 + (k : Int)) (by omega)
      generalize drw c (2100 + (1 + (k : Int))) (1 + (k : Int)) = r2 at e2 q2
      generalize drw c (2200 + (1 + (k : Int))) 4 = r3 at e3
      generalize drw c (2300 + (1 + (k : Int))) (1 + (k : Int)) = r4 at e4 q4
      obtain ⟨x, hx, u, rfl, hu⟩ := pick (xs := [.int (1 + (k : Int) - 1), .int ((1 + (k : Int)) / 2), .int ((1 + (k : Int)) / 4), .int r2]) (t := kind) l1 (Q := fun x => ∃ u : Nat, x = .int u ∧ u ≤ k)
        (al_cons ⟨k, int_eq (by omega), Nat.le_refl _⟩ (al_cons ⟨((1 + (k : Int)) / 2).toNat, int_eq (by omega), by omega⟩ (al_cons ⟨((1 + (k : Int)) / 4).toNat, int_eq (by omega), by omega⟩ (al_cons ⟨r2.toNat, int_eq (by omega), by omega⟩ al_nil))))
      obtain ⟨a, ha⟩ : ∃ a, o[k + 1]? = some a := ⟨o[k + 1]'(by omega), List.getElem?_eq_getElem _⟩
      have i1 := ix_o ha
      rw [show ((k + 1 : Nat) : Int) = 1 + (k : Int) by omega] at i1
      by_cases h3 : r3 = 0
      · obtain ⟨v, rfl⟩ : ∃ v : Nat, r4 = v := ⟨r4.toNat, by omega⟩
        obtain ⟨b, hb⟩ : ∃ b, o[v]? = some b := ⟨o[v]'(by omega), List.getElem?_eq_getElem _⟩
        have i2 := ix_o hb
        refine ⟨_, _, rfl, .inl ?_, T ++ [mmT b a], rfl, by rw [List.length_append, List.length_singleton, hl], by rw [mmT_comm]; exact g.snoc (by omega) (by rw [hl]; exact ha) hb⟩
        unfold w_law_tree_B1
        simp (disch := first | omega | decide | (simp only [List.length_cons, List.length_nil, List.length_append, List.length_map, List.length_take, List.length_drop]; omega)) only [apC, apV, apVb, ap2, ap1, apB, apN, apX, aptB, aptV, apAnd, apOr, apNot, apeIf, apeAnd, apeOr, apeNot, apTup, apLst, apIt, apIts, apoN, apoS, apSl, ap3, apsN, apSeq, apSet, apOwn, apRet, apEx, apIf, apFrz, apT, apgN, apEnd, apLm, apGet2, apD1, apD2, apBV, wip_nx, wip_rt, wip_er, frz_fz, wipeF_cons, wipeF_nil, lstB_l, List.getElem?_cons_succ, List.getElem?_cons_zero, List.set_cons_succ, List.set_cons_zero, max2_i, min2_i, bindO, bindE, fdiv_s, mod_i, mul_s, mul_s', isi_ii, isi_ib, isi_it, isi_tt, isi_ll, isi_bb, len_l, len_t, len_s, it_l, it_t, mkL0, mkL1, mkL2, mkL3, mkL4, mkL5, mkL6, mkL7, mkL8, mkT0, mkT1, mkT2, mkT3, mkT4, mkT5, mkT6, mkT7, mkT8, add_i, sub_i, lt_i, le_i, gt_i, ge_i, eq_ib, ne_ib, decide_true, decide_false, tru_b, tru_i, tru_n, as_b, tru_l, tru_t, if_true, if_false, Bool.not_true, Bool.not_false, Bool.false_eq_true, list_l, list_t, tup_l, tup_t, endO_rt, endO_nx, endO_er, isNon_n, mkL9, mkL10, mkL11, mkL12, mkL13, mkL14, mkL15, mkL16, apsApp, appO_ok, appO_er, apsTup, tupO_2, tupO_3, negI, sl_t, cut_toD, cut_fromD, List.cons_append, List.nil_append, apRef, refO_ok, dro_fz, dro_un, dro_ow, dro_nil, e2, e3, fdiv_b, hx, eq_ib, decide_eq_true h3, e4, i1, i2]
        rw [List.map_append]
        rfl
      · obtain ⟨b, hb⟩ : ∃ b, o[u]? = some b := ⟨o[u]'(by omega), List.getElem?_eq_getElem _⟩
        have i2 := ix_o hb
        refine ⟨_, _, rfl, .inl ?_, T ++ [mmT b a], rfl, by rw [List.length_append, List.length_singleton, hl], by rw [mmT_comm]; exact g.snoc (by omega) (by rw [hl]; exact ha) hb⟩
        unfold w_law_tree_B1
        simp (disch := first | omega | decide | (simp only [List.length_cons, List.length_nil, List.length_append, List.length_map, List.length_take, List.length_drop]; omega)) only [apC, apV, apVb, ap2, ap1, apB, apN, apX, aptB, aptV, apAnd, apOr, apNot, apeIf, apeAnd, apeOr, apeNot, apTup, apLst, apIt, apIts, apoN, apoS, apSl, ap3, apsN, apSeq, apSet, apOwn, apRet, apEx, apIf, apFrz, apT, apgN, apEnd, apLm, apGet2, apD1, apD2, apBV, wip_nx, wip_rt, wip_er, frz_fz, wipeF_cons, wipeF_nil, lstB_l, List.getElem?_cons_succ, List.getElem?_cons_zero, List.set_cons_succ, List.set_cons_zero, max2_i, min2_i, bindO, bindE, fdiv_s, mod_i, mul_s, mul_s', isi_ii, isi_ib, isi_it, isi_tt, isi_ll, isi_bb, len_l, len_t, len_s, it_l, it_t, mkL0, mkL1, mkL2, mkL3, mkL4, mkL5, mkL6, mkL7, mkL8, mkT0, mkT1, mkT2, mkT3, mkT4, mkT5, mkT6, mkT7, mkT8, add_i, sub_i, lt_i, le_i, gt_i, ge_i, eq_ib, ne_ib, decide_true, decide_false, tru_b, tru_i, tru_n, as_b, tru_l, tru_t, if_true, if_false, Bool.not_true, Bool.not_false, Bool.false_eq_true, list_l, list_t, tup_l, tup_t, endO_rt, endO_nx, endO_er, isNon_n, mkL9, mkL10, mkL11, mkL12, mkL13, mkL14, mkL15, mkL16, apsApp, appO_ok, appO_er, apsTup, tupO_2, tupO_3, negI, sl_t, cut_toD, cut_fromD, List.cons_append, List.nil_append, apRef, refO_ok, dro_fz, dro_un, dro_ow, dro_nil, e2, e3, fdiv_b, hx, eq_ib, decide_eq_false h3, i1, i2]
        rw [List.map_append]
        rfl
  refine ⟨n, o, T, ?_, by omega, hO, g, by omega⟩
  have lp : w_law_tree_L1 [.fz (.int c), .fz (.int m), .fz (.int n), .fz (.int kind), .fz (.lst (o.map D.int)), .un, .un, .ow (.lst []), .un] = .nx [.fz (.int c), .fz (.int m), .fz (.int n), .fz (.int kind), .fz (.lst (o.map D.int)), .un, .un, .ow (.lst (T.map tieD)), .un] := for_go (by
    have r := rng2_int (m := 1) (n := n) (by omega)
    simp (disch := first | omega | decide | (simp only [List.length_cons, List.length_nil, List.length_append, List.length_map, List.length_take, List.length_drop]; omega)) only [apC, apV, apVb, ap2, ap1, apB, apN, apX, aptB, aptV, apAnd, apOr, apNot, apeIf, apeAnd, apeOr, apeNot, apTup, apLst, apIt, apIts, apoN, apoS, apSl, ap3, apsN, apSeq, apSet, apOwn, apRet, apEx, apIf, apFrz, apT, apgN, apEnd, apLm, apGet2, apD1, apD2, apBV, wip_nx, wip_rt, wip_er, frz_fz, wipeF_cons, wipeF_nil, lstB_l, List.getElem?_cons_succ, List.getElem?_cons_zero, List.set_cons_succ, List.set_cons_zero, max2_i, min2_i, bindO, bindE, fdiv_s, mod_i, mul_s, mul_s', isi_ii, isi_ib, isi_it, isi_tt, isi_ll, isi_bb, len_l, len_t, len_s, it_l, it_t, mkL0, mkL1, mkL2, mkL3, mkL4, mkL5, mkL6, mkL7, mkL8, mkT0, mkT1, mkT2, mkT3, mkT4, mkT5, mkT6, mkT7, mkT8, add_i, sub_i, lt_i, le_i, gt_i, ge_i, eq_ib, ne_ib, decide_true, decide_false, tru_b, tru_i, tru_n, as_b, tru_l, tru_t, if_true, if_false, Bool.not_true, Bool.not_false, Bool.false_eq_true, list_l, list_t, tup_l, tup_t, endO_rt, endO_nx, endO_er, isNon_n, mkL9, mkL10, mkL11, mkL12, mkL13, mkL14, mkL15, mkL16, apsApp, appO_ok, appO_er, apsTup, tupO_2, tupO_3, negI, sl_t, cut_toD, cut_fromD, List.cons_append, List.nil_append, apRef, refO_ok, dro_fz, dro_un, dro_ow, dro_nil, r]) e
  rw [go_w_law_tree]
  unfold w_law_tree_S
  simp (disch := first | omega | decide | (simp only [List.length_cons, List.length_nil, List.length_append, List.length_map, List.length_take, List.length_drop]; omega)) only [apC, apV, apVb, ap2, ap1, apB, apN, apX, aptB, aptV, apAnd, apOr, apNot, apeIf, apeAnd, apeOr, apeNot, apTup, apLst, apIt, apIts, apoN, apoS, apSl, ap3, apsN, apSeq, apSet, apOwn, apRet, apEx, apIf, apFrz, apT, apgN, apEnd, apLm, apGet2, apD1, apD2, apBV, wip_nx, wip_rt, wip_er, frz_fz, wipeF_cons, wipeF_nil, lstB_l, List.getElem?_cons_succ, List.getElem?_cons_zero, List.set_cons_succ, List.set_cons_zero, max2_i, min2_i, bindO, bindE, fdiv_s, mod_i, mul_s, mul_s', isi_ii, isi_ib, isi_it, isi_tt, isi_ll, isi_bb, len_l, len_t, len_s, it_l, it_t, mkL0, mkL1, mkL2, mkL3, mkL4, mkL5, mkL6, mkL7, mkL8, mkT0, mkT1, mkT2, mkT3, mkT4, mkT5, mkT6, mkT7, mkT8, add_i, sub_i, lt_i, le_i, gt_i, ge_i, eq_ib, ne_ib, decide_true, decide_false, tru_b, tru_i, tru_n, as_b, tru_l, tru_t, if_true, if_false, Bool.not_true, Bool.not_false, Bool.false_eq_true, list_l, list_t, tup_l, tup_t, endO_rt, endO_nx, endO_er, isNon_n, mkL9, mkL10, mkL11, mkL12, mkL13, mkL14, mkL15, mkL16, apsApp, appO_ok, appO_er, apsTup, tupO_2, tupO_3, negI, sl_t, cut_toD, cut_fromD, List.cons_append, List.nil_append, apRef, refO_ok, dro_fz, dro_un, dro_ow, dro_nil, d0, hn, d1, c2, lp, sorted_ties]
theorem is_tree_eq {n : Int} {ps : List (Int × Int)} (W : WebOk n ps) : ∃ b, w_is_tree [webD n ps] = .ok (.bl b) ∧ (b = true ↔ Whole n ps ∧ (ps.length : Int) = n - 1) := by
  obtain ⟨b, e, h⟩ := hangs_eq W
  rw [go_w_is_tree]
  unfold w_is_tree_S
  have ll : lenD [.tup (ps.map tieD)] = .ok (.int ps.length) := by rw [len_t, List.length_map]
  cases b with
  | false =>
    refine ⟨false, ?_, ⟨fun q => (by cases q), fun q => h.mpr q.1⟩⟩
    simp (disch := first | omega | decide | (simp only [List.length_cons, List.length_nil, List.length_append, List.length_map, List.length_take, List.length_drop]; omega)) only [apC, apV, apVb, ap2, ap1, apB, apN, apX, aptB, aptV, apAnd, apOr, apNot, apeIf, apeAnd, apeOr, apeNot, apTup, apLst, apIt, apIts, apoN, apoS, apSl, ap3, apsN, apSeq, apSet, apOwn, apRet, apEx, apIf, apFrz, apT, apgN, apEnd, apLm, apGet2, apD1, apD2, apBV, wip_nx, wip_rt, wip_er, frz_fz, wipeF_cons, wipeF_nil, lstB_l, List.getElem?_cons_succ, List.getElem?_cons_zero, List.set_cons_succ, List.set_cons_zero, max2_i, min2_i, bindO, bindE, fdiv_s, mod_i, mul_s, mul_s', isi_ii, isi_ib, isi_it, isi_tt, isi_ll, isi_bb, len_l, len_t, len_s, it_l, it_t, mkL0, mkL1, mkL2, mkL3, mkL4, mkL5, mkL6, mkL7, mkL8, mkT0, mkT1, mkT2, mkT3, mkT4, mkT5, mkT6, mkT7, mkT8, add_i, sub_i, lt_i, le_i, gt_i, ge_i, eq_ib, ne_ib, decide_true, decide_false, tru_b, tru_i, tru_n, as_b, tru_l, tru_t, if_true, if_false, Bool.not_true, Bool.not_false, Bool.false_eq_true, list_l, list_t, tup_l, tup_t, endO_rt, endO_nx, endO_er, isNon_n, mkL9, mkL10, mkL11, mkL12, mkL13, mkL14, mkL15, mkL16, apsApp, appO_ok, appO_er, apsTup, tupO_2, tupO_3, negI, sl_t, cut_toD, cut_fromD, List.cons_append, List.nil_append, apRef, refO_ok, dro_fz, dro_un, dro_ow, dro_nil, need_web_ok W, e]
  | true =>
    refine ⟨decide ((ps.length : Int) = n - 1), ?_, ?_⟩
    · simp (disch := first | omega | decide | (simp only [List.length_cons, List.length_nil, List.length_append, List.length_map, List.length_take, List.length_drop]; omega)) only [apC, apV, apVb, ap2, ap1, apB, apN, apX, aptB, aptV, apAnd, apOr, apNot, apeIf, apeAnd, apeOr, apeNot, apTup, apLst, apIt, apIts, apoN, apoS, apSl, ap3, apsN, apSeq, apSet, apOwn, apRet, apEx, apIf, apFrz, apT, apgN, apEnd, apLm, apGet2, apD1, apD2, apBV, wip_nx, wip_rt, wip_er, frz_fz, wipeF_cons, wipeF_nil, lstB_l, List.getElem?_cons_succ, List.getElem?_cons_zero, List.set_cons_succ, List.set_cons_zero, max2_i, min2_i, bindO, bindE, fdiv_s, mod_i, mul_s, mul_s', isi_ii, isi_ib, isi_it, isi_tt, isi_ll, isi_bb, len_l, len_t, len_s, it_l, it_t, mkL0, mkL1, mkL2, mkL3, mkL4, mkL5, mkL6, mkL7, mkL8, mkT0, mkT1, mkT2, mkT3, mkT4, mkT5, mkT6, mkT7, mkT8, add_i, sub_i, lt_i, le_i, gt_i, ge_i, eq_ib, ne_ib, decide_true, decide_false, tru_b, tru_i, tru_n, as_b, tru_l, tru_t, if_true, if_false, Bool.not_true, Bool.not_false, Bool.false_eq_true, list_l, list_t, tup_l, tup_t, endO_rt, endO_nx, endO_er, isNon_n, mkL9, mkL10, mkL11, mkL12, mkL13, mkL14, mkL15, mkL16, apsApp, appO_ok, appO_er, apsTup, tupO_2, tupO_3, negI, sl_t, cut_toD, cut_fromD, List.cons_append, List.nil_append, apRef, refO_ok, dro_fz, dro_un, dro_ow, dro_nil, need_web_ok W, e, ix0, ix1, ll, eq_ib]
    · rw [decide_eq_true_eq]
      exact ⟨fun q => ⟨h.mp rfl, q⟩, fun q => q.2⟩
theorem is_tree_no {d : D} (h : Tame d) (hb : webB d = false) : w_is_tree [d] = .err "NoWeb" := by
  rw [go_w_is_tree]
  unfold w_is_tree_S
  simp (disch := first | omega | decide | (simp only [List.length_cons, List.length_nil, List.length_append, List.length_map, List.length_take, List.length_drop]; omega)) only [apC, apV, apVb, ap2, ap1, apB, apN, apX, aptB, aptV, apAnd, apOr, apNot, apeIf, apeAnd, apeOr, apeNot, apTup, apLst, apIt, apIts, apoN, apoS, apSl, ap3, apsN, apSeq, apSet, apOwn, apRet, apEx, apIf, apFrz, apT, apgN, apEnd, apLm, apGet2, apD1, apD2, apBV, wip_nx, wip_rt, wip_er, frz_fz, wipeF_cons, wipeF_nil, lstB_l, List.getElem?_cons_succ, List.getElem?_cons_zero, List.set_cons_succ, List.set_cons_zero, max2_i, min2_i, bindO, bindE, fdiv_s, mod_i, mul_s, mul_s', isi_ii, isi_ib, isi_it, isi_tt, isi_ll, isi_bb, len_l, len_t, len_s, it_l, it_t, mkL0, mkL1, mkL2, mkL3, mkL4, mkL5, mkL6, mkL7, mkL8, mkT0, mkT1, mkT2, mkT3, mkT4, mkT5, mkT6, mkT7, mkT8, add_i, sub_i, lt_i, le_i, gt_i, ge_i, eq_ib, ne_ib, decide_true, decide_false, tru_b, tru_i, tru_n, as_b, tru_l, tru_t, if_true, if_false, Bool.not_true, Bool.not_false, Bool.false_eq_true, list_l, list_t, tup_l, tup_t, endO_rt, endO_nx, endO_er, isNon_n, mkL9, mkL10, mkL11, mkL12, mkL13, mkL14, mkL15, mkL16, apsApp, appO_ok, appO_er, apsTup, tupO_2, tupO_3, negI, sl_t, cut_toD, cut_fromD, List.cons_append, List.nil_append, apRef, refO_ok, dro_fz, dro_un, dro_ow, dro_nil, need_web_no h hb]
theorem rises_all : ∀ {ps : List (Int × Int)} {p : Int × Int}, risesB (p :: ps) = true → ∀ q ∈ ps, ltP p q = true
  | [], _, _, q, hq => (by cases hq)
  | a :: ps, p, h, q, hq => by
    have h : (ltP p a && risesB (a :: ps)) = true := h
    rw [Bool.and_eq_true] at h
    rcases List.mem_cons.mp hq with rfl | hq
    · exact h.1
    · have := rises_all h.2 q hq
      have h1 := h.1
      rw [ltP_iff] at *
      omega
theorem rises_pw : ∀ {ps : List (Int × Int)}, risesB ps = true → ps.Pairwise fun p q => ltP p q = true
  | [], _ => .nil
  | [p], _ => by simp
  | p :: a :: ps, h => by
    refine List.pairwise_cons.mpr ⟨rises_all h, rises_pw ?_⟩
    have h : (ltP p a && risesB (a :: ps)) = true := h
    rw [Bool.and_eq_true] at h
    exact h.2
theorem WebOk.nodup {n : Int} {ps : List (Int × Int)} (w : WebOk n ps) : ps.Nodup := (rises_pw w.rise).imp fun {a b} h e => by
  subst e
  rw [ltP_iff] at h
  omega
theorem WebOk.sub {n : Int} {ps qs : List (Int × Int)} (w : WebOk n ps) (h : qs.Sublist ps) : WebOk n qs := ⟨w.lo, w.hi, fun p hp => w.ties p (h.subset hp), rises_of ((rises_pw w.rise).sublist h)⟩
theorem cut_sub {α : Type} {xs : List α} {lo hi : Option Int} : (cutD xs lo hi).Sublist xs := (List.take_sublist _ _).trans (List.drop_sublist _ _)
theorem cut_mapG {α β : Type} (f : α → β) {xs : List α} {lo hi : Option Int} : cutD (xs.map f) lo hi = (cutD xs lo hi).map f := by
  unfold cutD
  rw [List.length_map, List.map_take, List.map_drop]
theorem WebOk.add {n : Int} {ps : List (Int × Int)} (w : WebOk n ps) {p : Int × Int} (hp : 0 ≤ p.1 ∧ p.1 < p.2 ∧ p.2 < n) (hn : p ∉ ps) : WebOk n (sortT (ps ++ [p])) := web_sort w.lo w.hi (fun q hq => by
  rcases List.mem_append.mp hq with hq | hq
  · exact w.ties q hq
  · rw [List.mem_singleton.mp hq]; exact hp) (List.nodup_append.mpr ⟨w.nodup, by simp, fun a ha b hb e => hn (by
    rw [← List.mem_singleton.mp hb, ← e]
    exact ha)⟩)
theorem ext_ok {i : Nat} {f : Fr → R D} {ρ : Fr} {xs ys : List D} (h1 : ρ[i]? = some (.ow (.lst xs))) (h2 : f ρ = .ok (.lst ys)) (hl : xs.length + ys.length ≤ 2 ^ 20) : sExt i f ρ = .nx (ρ.set i (.ow (.lst (xs ++ ys)))) := by
  have g : getL i ρ = .ok xs := by unfold getL; rw [h1]
  unfold sExt
  rw [sLet_ok g, sLet_ok h2]
  exact if_pos (Nat.le_trans hl (Nat.le_trans (by decide) szl))
theorem steps_none {n : Int} {ps : List (Int × Int)} (W : WebOk n ps) : ∃ f b, w_law_steps [webD n ps, .int 0] = .ok (.lst f) ∧ notInD .non (.lst f) = .ok (.bl b) ∧ (b = true ↔ Whole n ps) := by
  have lo := W.lo
  obtain ⟨es, _, D0⟩ := steps_ok W (p := 0) (by omega)
  obtain ⟨f, e, hl, hf⟩ := law_steps_ok W (p := 0) (by omega) D0
  have sh : ∀ x ∈ f.map oD, Shd 0 x := fun x hx => by
    obtain ⟨o, _, rfl⟩ := List.mem_map.mp hx
    cases o
    · exact shd_n
    · exact shd_i
  have an : ((f.map oD).any fun z => PyData.eqv z.py D.non.py) = decide (none ∈ f) := by
    clear e hl hf sh
    induction f with
    | nil => rfl
    | cons o f ih =>
      rw [List.map_cons, List.any_cons, ih]
      cases o with
      | none =>
        rw [decide_eq_true (show none ∈ none :: f from List.mem_cons_self)]
        rfl
      | some d =>
        have : PyData.eqv (oD (some d)).py D.non.py = false := rfl
        rw [this, Bool.false_or]
        by_cases h : none ∈ f
        · rw [decide_eq_true h, decide_eq_true (List.mem_cons_of_mem _ h)]
        · rw [decide_eq_false h, decide_eq_false fun q => (List.mem_cons.mp q).elim (fun q => by cases q) h]
  refine ⟨f.map oD, !decide (none ∈ f), e, ?_, ?_⟩
  · show (inD _ _).bind notB = _
    have : inD .non (.lst (f.map oD)) = .ok (.bl (decide (none ∈ f))) := by
      rw [← an]
      exact if_pos ⟨(shd_n (k := 0)).sh (by decide), (shd_l (k := 0) sh).sh (by decide)⟩
    rw [this]
    rfl
  · rw [Bool.not_eq_true', decide_eq_false_iff_not]
    constructor
    · intro hn
      refine (D0.whole (by omega)).mp (D0.len_of (by omega) fun v hv => ?_)
      have hv2 : v.toNat < f.length := by omega
      cases q : atO f v.toNat with
      | none =>
        refine absurd ?_ hn
        unfold atO at q
        rw [List.getElem?_eq_getElem hv2] at q
        have q : f[v.toNat] = none := q
        rw [← q]
        exact List.getElem_mem hv2
      | some d =>
        have := (hf v.toNat d).mp q
        rw [show ((v.toNat : Nat) : Int) = v by omega] at this
        exact List.mem_map.mpr ⟨_, this, rfl⟩
    · intro hw hn
      obtain ⟨k, hk, q⟩ := List.getElem_of_mem hn
      obtain ⟨d, hd⟩ := D0.full hw (by omega) (k : Int) (by omega)
      have := (hf k d).mpr hd
      unfold atO at this
      rw [List.getElem?_eq_getElem hk, q] at this
      cases this
end PB

namespace PB
open PySem PySem.Spec PyProof.Rows L2 LamX
/-! ### S13: the laws' own walk; stacks -/
theorem in_pair {u a b : Int} : inD (.int u) (.tup [.int a, .int b]) = .ok (.bl (decide (a = u) || decide (b = u))) := by
  have h : inD (.int u) (.tup [.int a, .int b]) = .ok (.bl ([D.int a, D.int b].any fun z => PyData.eqv z.py (D.int u).py)) := by
    show (if SeqAt.shaped (D.int u).py = true ∧ SeqAt.shaped (D.tup [.int a, .int b]).py = true then R.ok (D.bl ([D.int a, D.int b].any fun z => PyData.eqv z.py (D.int u).py)) else .stuck) = _
    exact if_pos ⟨(shd_i (k := 0)).sh (by decide), (shd_t (k := 0) (al_cons shd_i (al_cons shd_i al_nil))).sh (by decide)⟩
  rw [h]
  have e : ∀ a : Int, PyData.eqv (D.int a).py (D.int u).py = decide (a = u) := fun a => by
    rw [D.py, D.py, PyData.eqv]
    by_cases h : a = u
    · rw [decide_eq_true h, h, beq_self_eq_true]
    · rw [decide_eq_false h, beq_eq_false_iff_ne.mpr h]
  rw [List.any_cons, List.any_cons, List.any_nil, e, e, Bool.or_false]
theorem law_near_ok {n : Int} {ps : List (Int × Int)} (W : WebOk n ps) (u : Int) : ∃ vs : List Int, w_law_near [webD n ps, .int u] = .ok (.lst (vs.map D.int)) ∧ ∀ v, v ∈ vs ↔ Adj ps u v := by
  refine ⟨(ps.filter fun p => decide (p.1 = u) || decide (p.2 = u)).map fun p => p.1 + p.2 - u, ?_, fun v => ?_⟩
  · have c1 : w_law_near_C1 [.fz (webD n ps), .fz (.int u), .un, .un] = .ok (.lst (((ps.filter fun p => decide (p.1 = u) || decide (p.2 = u)).map fun p => p.1 + p.2 - u).map D.int)) := by
      refine Eq.trans (eLc_ok (ds := ps.map tieD) (by simp (disch := first | omega | decide | (simp only [List.length_cons, List.length_nil, List.length_append, List.length_map, List.length_take, List.length_drop]; omega)) only [apC, apV, apVb, ap2, ap1, apB, apN, apX, aptB, aptV, apAnd, apOr, apNot, apeIf, apeAnd, apeOr, apeNot, apTup, apLst, apIt, apIts, apoN, apoS, apSl, ap3, apsN, apSeq, apSet, apOwn, apRet, apEx, apIf, apFrz, apT, apgN, apEnd, apLm, apGet2, apD1, apD2, apBV, wip_nx, wip_rt, wip_er, frz_fz, wipeF_cons, wipeF_nil, lstB_l, List.getElem?_cons_succ, List.getElem?_cons_zero, List.set_cons_succ, List.set_cons_zero, max2_i, min2_i, bindO, bindE, fdiv_s, mod_i, mul_s, mul_s', isi_ii, isi_ib, isi_it, isi_tt, isi_ll, isi_bb, len_l, len_t, len_s, it_l, it_t, mkL0, mkL1, mkL2, mkL3, mkL4, mkL5, mkL6, mkL7, mkL8, mkT0, mkT1, mkT2, mkT3, mkT4, mkT5, mkT6, mkT7, mkT8, add_i, sub_i, lt_i, le_i, gt_i, ge_i, eq_ib, ne_ib, decide_true, decide_false, tru_b, tru_i, tru_n, as_b, tru_l, tru_t, if_true, if_false, Bool.not_true, Bool.not_false, Bool.false_eq_true, list_l, list_t, tup_l, tup_t, endO_rt, endO_nx, endO_er, isNon_n, mkL9, mkL10, mkL11, mkL12, mkL13, mkL14, mkL15, mkL16, apsApp, appO_ok, appO_er, apsTup, tupO_2, tupO_3, negI, sl_t, cut_toD, cut_fromD, List.cons_append, List.nil_append, apRef, refO_ok, dro_fz, dro_un, dro_ow, dro_nil, ix1]) rfl (lc_filter (fun d => decide ((pairD d).1 = u) || decide ((pairD d).2 = u)) (fun d => .int ((pairD d).1 + (pairD d).2 - u)) fun d hd => ?_)) ?_
      · obtain ⟨p, _, rfl⟩ := List.mem_map.mp hd
        refine ⟨[.fz (webD n ps), .fz (.int u), .fz (.int p.1), .fz (.int p.2)], rfl, ?_, fun _ => ?_⟩
        · simp (disch := first | omega | decide | (simp only [List.length_cons, List.length_nil, List.length_append, List.length_map, List.length_take, List.length_drop]; omega)) only [apC, apV, apVb, ap2, ap1, apB, apN, apX, aptB, aptV, apAnd, apOr, apNot, apeIf, apeAnd, apeOr, apeNot, apTup, apLst, apIt, apIts, apoN, apoS, apSl, ap3, apsN, apSeq, apSet, apOwn, apRet, apEx, apIf, apFrz, apT, apgN, apEnd, apLm, apGet2, apD1, apD2, apBV, wip_nx, wip_rt, wip_er, frz_fz, wipeF_cons, wipeF_nil, lstB_l, List.getElem?_cons_succ, List.getElem?_cons_zero, List.set_cons_succ, List.set_cons_zero, max2_i, min2_i, bindO, bindE, fdiv_s, mod_i, mul_s, mul_s', isi_ii, isi_ib, isi_it, isi_tt, isi_ll, isi_bb, len_l, len_t, len_s, it_l, it_t, mkL0, mkL1, mkL2, mkL3, mkL4, mkL5, mkL6, mkL7, mkL8, mkT0, mkT1, mkT2, mkT3, mkT4, mkT5, mkT6, mkT7, mkT8, add_i, sub_i, lt_i, le_i, gt_i, ge_i, eq_ib, ne_ib, decide_true, decide_false, tru_b, tru_i, tru_n, as_b, tru_l, tru_t, if_true, if_false, Bool.not_true, Bool.not_false, Bool.false_eq_true, list_l, list_t, tup_l, tup_t, endO_rt, endO_nx, endO_er, isNon_n, mkL9, mkL10, mkL11, mkL12, mkL13, mkL14, mkL15, mkL16, apsApp, appO_ok, appO_er, apsTup, tupO_2, tupO_3, negI, sl_t, cut_toD, cut_fromD, List.cons_append, List.nil_append, apRef, refO_ok, dro_fz, dro_un, dro_ow, dro_nil, in_pair]
          rfl
        · simp (disch := first | omega | decide | (simp only [List.length_cons, List.length_nil, List.length_append, List.length_map, List.length_take, List.length_drop]; omega)) only [apC, apV, apVb, ap2, ap1, apB, apN, apX, aptB, aptV, apAnd, apOr, apNot, apeIf, apeAnd, apeOr, apeNot, apTup, apLst, apIt, apIts, apoN, apoS, apSl, ap3, apsN, apSeq, apSet, apOwn, apRet, apEx, apIf, apFrz, apT, apgN, apEnd, apLm, apGet2, apD1, apD2, apBV, wip_nx, wip_rt, wip_er, frz_fz, wipeF_cons, wipeF_nil, lstB_l, List.getElem?_cons_succ, List.getElem?_cons_zero, List.set_cons_succ, List.set_cons_zero, max2_i, min2_i, bindO, bindE, fdiv_s, mod_i, mul_s, mul_s', isi_ii, isi_ib, isi_it, isi_tt, isi_ll, isi_bb, len_l, len_t, len_s, it_l, it_t, mkL0, mkL1, mkL2, mkL3, mkL4, mkL5, mkL6, mkL7, mkL8, mkT0, mkT1, mkT2, mkT3, mkT4, mkT5, mkT6, mkT7, mkT8, add_i, sub_i, lt_i, le_i, gt_i, ge_i, eq_ib, ne_ib, decide_true, decide_false, tru_b, tru_i, tru_n, as_b, tru_l, tru_t, if_true, if_false, Bool.not_true, Bool.not_false, Bool.false_eq_true, list_l, list_t, tup_l, tup_t, endO_rt, endO_nx, endO_er, isNon_n, mkL9, mkL10, mkL11, mkL12, mkL13, mkL14, mkL15, mkL16, apsApp, appO_ok, appO_er, apsTup, tupO_2, tupO_3, negI, sl_t, cut_toD, cut_fromD, List.cons_append, List.nil_append, apRef, refO_ok, dro_fz, dro_un, dro_ow, dro_nil]
          rfl
      · rw [List.filter_map, List.map_map, List.map_map]
        rfl
    rw [go_w_law_near]
    unfold w_law_near_S
    simp (disch := first | omega | decide | (simp only [List.length_cons, List.length_nil, List.length_append, List.length_map, List.length_take, List.length_drop]; omega)) only [apC, apV, apVb, ap2, ap1, apB, apN, apX, aptB, aptV, apAnd, apOr, apNot, apeIf, apeAnd, apeOr, apeNot, apTup, apLst, apIt, apIts, apoN, apoS, apSl, ap3, apsN, apSeq, apSet, apOwn, apRet, apEx, apIf, apFrz, apT, apgN, apEnd, apLm, apGet2, apD1, apD2, apBV, wip_nx, wip_rt, wip_er, frz_fz, wipeF_cons, wipeF_nil, lstB_l, List.getElem?_cons_succ, List.getElem?_cons_zero, List.set_cons_succ, List.set_cons_zero, max2_i, min2_i, bindO, bindE, fdiv_s, mod_i, mul_s, mul_s', isi_ii, isi_ib, isi_it, isi_tt, isi_ll, isi_bb, len_l, len_t, len_s, it_l, it_t, mkL0, mkL1, mkL2, mkL3, mkL4, mkL5, mkL6, mkL7, mkL8, mkT0, mkT1, mkT2, mkT3, mkT4, mkT5, mkT6, mkT7, mkT8, add_i, sub_i, lt_i, le_i, gt_i, ge_i, eq_ib, ne_ib, decide_true, decide_false, tru_b, tru_i, tru_n, as_b, tru_l, tru_t, if_true, if_false, Bool.not_true, Bool.not_false, Bool.false_eq_true, list_l, list_t, tup_l, tup_t, endO_rt, endO_nx, endO_er, isNon_n, mkL9, mkL10, mkL11, mkL12, mkL13, mkL14, mkL15, mkL16, apsApp, appO_ok, appO_er, apsTup, tupO_2, tupO_3, negI, sl_t, cut_toD, cut_fromD, List.cons_append, List.nil_append, apRef, refO_ok, dro_fz, dro_un, dro_ow, dro_nil, c1]
  · rw [List.mem_map]
    constructor
    · rintro ⟨p, hp, rfl⟩
      have hp := List.mem_filter.mp hp
      rw [Bool.or_eq_true, decide_eq_true_eq, decide_eq_true_eq] at hp
      rcases hp.2 with h | h
      · refine .inl ?_
        rw [show (u, p.1 + p.2 - u) = p from Prod.ext h.symm (by dsimp only; omega)]
        exact hp.1
      · refine .inr ?_
        rw [show (p.1 + p.2 - u, u) = p from Prod.ext (by dsimp only; omega) h.symm]
        exact hp.1
    · rintro (h | h)
      · exact ⟨(u, v), List.mem_filter.mpr ⟨h, by simp⟩, by dsimp only; omega⟩
      · exact ⟨(v, u), List.mem_filter.mpr ⟨h, by simp⟩, by dsimp only; omega⟩
theorem far_inner {x0 x1 : D} {a : Nat} {u d n : Int} (hn : n ≤ 40) : ∀ {vs : List Int} {es : List (Int × Int)}, es[a]? = some (u, d) → (es.map (·.1)).Nodup → (∀ e ∈ es, 0 ≤ e.1 ∧ e.1 < n) → (∀ v ∈ vs, 0 ≤ v ∧ v < n) →
    forD (gN 5) w_law_far_from_B1 (vs.map D.int) [.fz x0, .fz x1, .ow (.dk (kd es)), .ow (.lst ((es.map (·.1)).map D.int)), .fz (.int (a : Int)), .un] = .nx [.fz x0, .fz x1, .ow (.dk (kd (scan d es vs))), .ow (.lst (((scan d es vs).map (·.1)).map D.int)), .fz (.int (a : Int)), .un]
  | [], es, _, _, _, _ => rfl
  | v :: vs, es, hu, hnd, hr, hv => by
    have hlen : es.length ≤ 40 := by
      have := len_le (n := 40) (l := es.map (·.1)) hnd fun x hx => by
        obtain ⟨e, he, rfl⟩ := List.mem_map.mp hx
        have := hr e he
        omega
      rwa [List.length_map] at this
    have ha : a < es.length := (List.getElem?_eq_some_iff.mp hu).1
    have hum : (u, d) ∈ es := List.mem_of_getElem? hu
    rw [List.map_cons, forD_cons (ρ1 := [.fz x0, .fz x1, .ow (.dk (kd es)), .ow (.lst ((es.map (·.1)).map D.int)), .fz (.int (a : Int)), .fz (.int v)]) rfl, scan_cons]
    by_cases h : v ∈ es.map (·.1)
    · have ni := notin_kd (es := es) (v := v)
      rw [decide_eq_true h] at ni
      have b : w_law_far_from_B1 [.fz x0, .fz x1, .ow (.dk (kd es)), .ow (.lst ((es.map (·.1)).map D.int)), .fz (.int (a : Int)), .fz (.int v)] = .nx [.fz x0, .fz x1, .ow (.dk (kd es)), .ow (.lst ((es.map (·.1)).map D.int)), .fz (.int (a : Int)), .un] := by
        unfold w_law_far_from_B1
        simp (disch := first | omega | decide | (simp only [List.length_cons, List.length_nil, List.length_append, List.length_map, List.length_take, List.length_drop]; omega)) only [apC, apV, apVb, ap2, ap1, apB, apN, apX, aptB, aptV, apAnd, apOr, apNot, apeIf, apeAnd, apeOr, apeNot, apTup, apLst, apIt, apIts, apoN, apoS, apSl, ap3, apsN, apSeq, apSet, apOwn, apRet, apEx, apIf, apFrz, apT, apgN, apEnd, apLm, apGet2, apD1, apD2, apBV, wip_nx, wip_rt, wip_er, frz_fz, wipeF_cons, wipeF_nil, lstB_l, List.getElem?_cons_succ, List.getElem?_cons_zero, List.set_cons_succ, List.set_cons_zero, max2_i, min2_i, bindO, bindE, fdiv_s, mod_i, mul_s, mul_s', isi_ii, isi_ib, isi_it, isi_tt, isi_ll, isi_bb, len_l, len_t, len_s, it_l, it_t, mkL0, mkL1, mkL2, mkL3, mkL4, mkL5, mkL6, mkL7, mkL8, mkT0, mkT1, mkT2, mkT3, mkT4, mkT5, mkT6, mkT7, mkT8, add_i, sub_i, lt_i, le_i, gt_i, ge_i, eq_ib, ne_ib, decide_true, decide_false, tru_b, tru_i, tru_n, as_b, tru_l, tru_t, if_true, if_false, Bool.not_true, Bool.not_false, Bool.false_eq_true, list_l, list_t, tup_l, tup_t, endO_rt, endO_nx, endO_er, isNon_n, mkL9, mkL10, mkL11, mkL12, mkL13, mkL14, mkL15, mkL16, apsApp, appO_ok, appO_er, apsTup, tupO_2, tupO_3, negI, sl_t, cut_toD, cut_fromD, List.cons_append, List.nil_append, apRef, refO_ok, dro_fz, dro_un, dro_ow, dro_nil, ni]
      rw [b, if_pos h]
      exact far_inner hn hu hnd hr fun y hy => hv y (List.mem_cons_of_mem _ hy)
    · have ni := notin_kd (es := es) (v := v)
      rw [decide_eq_false h] at ni
      have ix : ixD (.lst ((es.map (·.1)).map D.int)) (.int (a : Int)) = .ok (.int u) := by
        rw [ix_li (by rw [List.length_map]; exact ha)]
        congr 2
        rw [List.getElem_map]
        rw [(List.getElem?_eq_some_iff.mp hu).2]
      have b : w_law_far_from_B1 [.fz x0, .fz x1, .ow (.dk (kd es)), .ow (.lst ((es.map (·.1)).map D.int)), .fz (.int (a : Int)), .fz (.int v)] = .nx [.fz x0, .fz x1, .ow (.dk (kd (es ++ [(v, d + 1)]))), .ow (.lst (((es ++ [(v, d + 1)]).map (·.1)).map D.int)), .fz (.int (a : Int)), .un] := by
        have sk := setK_new (i := 2) (a := eVb 5) (f := e2 addD (e2 ixD (eVb 2) (e2 ixD (eVb 3) (eVb 4))) (eC (.int 1))) (ρ := [.fz x0, .fz x1, .ow (.dk (kd es)), .ow (.lst ((es.map (·.1)).map D.int)), .fz (.int (a : Int)), .fz (.int v)]) (es := es) (v := v) (d := d + 1) (by simp (disch := first | omega | decide | (simp only [List.length_cons, List.length_nil, List.length_append, List.length_map, List.length_take, List.length_drop]; omega)) only [apC, apV, apVb, ap2, ap1, apB, apN, apX, aptB, aptV, apAnd, apOr, apNot, apeIf, apeAnd, apeOr, apeNot, apTup, apLst, apIt, apIts, apoN, apoS, apSl, ap3, apsN, apSeq, apSet, apOwn, apRet, apEx, apIf, apFrz, apT, apgN, apEnd, apLm, apGet2, apD1, apD2, apBV, wip_nx, wip_rt, wip_er, frz_fz, wipeF_cons, wipeF_nil, lstB_l, List.getElem?_cons_succ, List.getElem?_cons_zero, List.set_cons_succ, List.set_cons_zero, max2_i, min2_i, bindO, bindE, fdiv_s, mod_i, mul_s, mul_s', isi_ii, isi_ib, isi_it, isi_tt, isi_ll, isi_bb, len_l, len_t, len_s, it_l, it_t, mkL0, mkL1, mkL2, mkL3, mkL4, mkL5, mkL6, mkL7, mkL8, mkT0, mkT1, mkT2, mkT3, mkT4, mkT5, mkT6, mkT7, mkT8, add_i, sub_i, lt_i, le_i, gt_i, ge_i, eq_ib, ne_ib, decide_true, decide_false, tru_b, tru_i, tru_n, as_b, tru_l, tru_t, if_true, if_false, Bool.not_true, Bool.not_false, Bool.false_eq_true, list_l, list_t, tup_l, tup_t, endO_rt, endO_nx, endO_er, isNon_n, mkL9, mkL10, mkL11, mkL12, mkL13, mkL14, mkL15, mkL16, apsApp, appO_ok, appO_er, apsTup, tupO_2, tupO_3, negI, sl_t, cut_toD, cut_fromD, List.cons_append, List.nil_append, apRef, refO_ok, dro_fz, dro_un, dro_ow, dro_nil, ix, ix_kd hnd hum]) rfl rfl h (by omega)
        unfold w_law_far_from_B1
        simp (disch := first | omega | decide | (simp only [List.length_cons, List.length_nil, List.length_append, List.length_map, List.length_take, List.length_drop]; omega)) only [apC, apV, apVb, ap2, ap1, apB, apN, apX, aptB, aptV, apAnd, apOr, apNot, apeIf, apeAnd, apeOr, apeNot, apTup, apLst, apIt, apIts, apoN, apoS, apSl, ap3, apsN, apSeq, apSet, apOwn, apRet, apEx, apIf, apFrz, apT, apgN, apEnd, apLm, apGet2, apD1, apD2, apBV, wip_nx, wip_rt, wip_er, frz_fz, wipeF_cons, wipeF_nil, lstB_l, List.getElem?_cons_succ, List.getElem?_cons_zero, List.set_cons_succ, List.set_cons_zero, max2_i, min2_i, bindO, bindE, fdiv_s, mod_i, mul_s, mul_s', isi_ii, isi_ib, isi_it, isi_tt, isi_ll, isi_bb, len_l, len_t, len_s, it_l, it_t, mkL0, mkL1, mkL2, mkL3, mkL4, mkL5, mkL6, mkL7, mkL8, mkT0, mkT1, mkT2, mkT3, mkT4, mkT5, mkT6, mkT7, mkT8, add_i, sub_i, lt_i, le_i, gt_i, ge_i, eq_ib, ne_ib, decide_true, decide_false, tru_b, tru_i, tru_n, as_b, tru_l, tru_t, if_true, if_false, Bool.not_true, Bool.not_false, Bool.false_eq_true, list_l, list_t, tup_l, tup_t, endO_rt, endO_nx, endO_er, isNon_n, mkL9, mkL10, mkL11, mkL12, mkL13, mkL14, mkL15, mkL16, apsApp, appO_ok, appO_er, apsTup, tupO_2, tupO_3, negI, sl_t, cut_toD, cut_fromD, List.cons_append, List.nil_append, apRef, refO_ok, dro_fz, dro_un, dro_ow, dro_nil, ni, sk]
        rw [List.map_append, List.map_append]
        rfl
      rw [b, if_neg h]
      refine far_inner hn (by rw [List.getElem?_append_left ha]; exact hu) ?_ (fun e he => ?_) fun y hy => hv y (List.mem_cons_of_mem _ hy)
      · rw [List.map_append]
        refine List.nodup_append.mpr ⟨hnd, by simp, fun x hx y hy => ?_⟩
        rw [List.mem_singleton.mp hy]
        exact fun q => h (by have q : x = v := q; rw [← q]; exact hx)
      · rcases List.mem_append.mp he with he | he
        · exact hr e he
        · rw [List.mem_singleton.mp he]
          exact hv v List.mem_cons_self
theorem far_ok {n : Int} {ps : List (Int × Int)} (W : WebOk n ps) {p : Int} (hp : 0 ≤ p ∧ p < n) : ∃ es, w_law_far_from [webD n ps, .int p] = .ok (.dk (kd es)) ∧ Dist n ps p es := by
  have lo := W.lo
  have hi := W.hi
  have fr0 : Walk n ps p (0, [(p, 0)]) := ⟨Nat.zero_le _, by simp, rfl, fun e he => by rw [List.mem_singleton.mp he]; exact ⟨hp, Int.le_refl _⟩, by simp, fun u d h e he => by
    cases h
    rw [List.mem_singleton.mp he]
    show (0 : Int) ≤ 0 + 1
    decide, fun k u d v hk => absurd hk (Nat.not_lt_zero _), fun e he => .inl (List.mem_singleton.mp he)⟩
  obtain ⟨⟨a, es⟩, e1, w, e2⟩ := while_do (t := w_law_far_from_T1) (b := w_law_far_from_B2)
    (fun s : Nat × List (Int × Int) => [.fz (webD n ps), .fz (.int p), .ow (.dk (kd s.2)), .ow (.lst ((s.2.map (·.1)).map D.int)), .fz (.int (s.1 : Int)), .un])
    (Walk n ps p) (fun s => n.toNat - s.1) (fun ⟨a, es⟩ w => by
      have hlen := w.len
      have hle := w.le
      dsimp only at hlen hle
      have t : w_law_far_from_T1 [.fz (webD n ps), .fz (.int p), .ow (.dk (kd es)), .ow (.lst ((es.map (·.1)).map D.int)), .fz (.int (a : Int)), .un] = .ok (decide ((a : Int) < es.length)) := by
        unfold w_law_far_from_T1
        simp (disch := first | omega | decide | (simp only [List.length_cons, List.length_nil, List.length_append, List.length_map, List.length_take, List.length_drop]; omega)) only [apC, apV, apVb, ap2, ap1, apB, apN, apX, aptB, aptV, apAnd, apOr, apNot, apeIf, apeAnd, apeOr, apeNot, apTup, apLst, apIt, apIts, apoN, apoS, apSl, ap3, apsN, apSeq, apSet, apOwn, apRet, apEx, apIf, apFrz, apT, apgN, apEnd, apLm, apGet2, apD1, apD2, apBV, wip_nx, wip_rt, wip_er, frz_fz, wipeF_cons, wipeF_nil, lstB_l, List.getElem?_cons_succ, List.getElem?_cons_zero, List.set_cons_succ, List.set_cons_zero, max2_i, min2_i, bindO, bindE, fdiv_s, mod_i, mul_s, mul_s', isi_ii, isi_ib, isi_it, isi_tt, isi_ll, isi_bb, len_l, len_t, len_s, it_l, it_t, mkL0, mkL1, mkL2, mkL3, mkL4, mkL5, mkL6, mkL7, mkL8, mkT0, mkT1, mkT2, mkT3, mkT4, mkT5, mkT6, mkT7, mkT8, add_i, sub_i, lt_i, le_i, gt_i, ge_i, eq_ib, ne_ib, decide_true, decide_false, tru_b, tru_i, tru_n, as_b, tru_l, tru_t, if_true, if_false, Bool.not_true, Bool.not_false, Bool.false_eq_true, list_l, list_t, tup_l, tup_t, endO_rt, endO_nx, endO_er, isNon_n, mkL9, mkL10, mkL11, mkL12, mkL13, mkL14, mkL15, mkL16, apsApp, appO_ok, appO_er, apsTup, tupO_2, tupO_3, negI, sl_t, cut_toD, cut_fromD, List.cons_append, List.nil_append, apRef, refO_ok, dro_fz, dro_un, dro_ow, dro_nil, List.length_map]
      by_cases h : a < es.length
      · rw [decide_eq_true (show (a : Int) < es.length by omega)] at t
        refine .inr ⟨t, ?_⟩
        obtain ⟨u, d, hu⟩ : ∃ u d, es[a]? = some (u, d) := ⟨es[a].1, es[a].2, List.getElem?_eq_getElem h⟩
        have hum : (u, d) ∈ es := List.mem_of_getElem? hu
        have hur := (w.rng _ hum).1
        dsimp only at hur
        have ix : ixD (.lst ((es.map (·.1)).map D.int)) (.int (a : Int)) = .ok (.int u) := by
          rw [ix_li (by rw [List.length_map]; exact h)]
          congr 2
          rw [List.getElem_map]
          rw [(List.getElem?_eq_some_iff.mp hu).2]
        obtain ⟨vs, e3, hv⟩ := law_near_ok W u
        refine ⟨(a + 1, scan d es vs), ?_, w.next W hu hv, by dsimp only; omega⟩
        have lp : w_law_far_from_L1 [.fz (webD n ps), .fz (.int p), .ow (.dk (kd es)), .ow (.lst ((es.map (·.1)).map D.int)), .fz (.int (a : Int)), .un] = .nx [.fz (webD n ps), .fz (.int p), .ow (.dk (kd (scan d es vs))), .ow (.lst (((scan d es vs).map (·.1)).map D.int)), .fz (.int (a : Int)), .un] :=
          for_go (ds := vs.map D.int) (by simp (disch := first | omega | decide | (simp only [List.length_cons, List.length_nil, List.length_append, List.length_map, List.length_take, List.length_drop]; omega)) only [apC, apV, apVb, ap2, ap1, apB, apN, apX, aptB, aptV, apAnd, apOr, apNot, apeIf, apeAnd, apeOr, apeNot, apTup, apLst, apIt, apIts, apoN, apoS, apSl, ap3, apsN, apSeq, apSet, apOwn, apRet, apEx, apIf, apFrz, apT, apgN, apEnd, apLm, apGet2, apD1, apD2, apBV, wip_nx, wip_rt, wip_er, frz_fz, wipeF_cons, wipeF_nil, lstB_l, List.getElem?_cons_succ, List.getElem?_cons_zero, List.set_cons_succ, List.set_cons_zero, max2_i, min2_i, bindO, bindE, fdiv_s, mod_i, mul_s, mul_s', isi_ii, isi_ib, isi_it, isi_tt, isi_ll, isi_bb, len_l, len_t, len_s, it_l, it_t, mkL0, mkL1, mkL2, mkL3, mkL4, mkL5, mkL6, mkL7, mkL8, mkT0, mkT1, mkT2, mkT3, mkT4, mkT5, mkT6, mkT7, mkT8, add_i, sub_i, lt_i, le_i, gt_i, ge_i, eq_ib, ne_ib, decide_true, decide_false, tru_b, tru_i, tru_n, as_b, tru_l, tru_t, if_true, if_false, Bool.not_true, Bool.not_false, Bool.false_eq_true, list_l, list_t, tup_l, tup_t, endO_rt, endO_nx, endO_er, isNon_n, mkL9, mkL10, mkL11, mkL12, mkL13, mkL14, mkL15, mkL16, apsApp, appO_ok, appO_er, apsTup, tupO_2, tupO_3, negI, sl_t, cut_toD, cut_fromD, List.cons_append, List.nil_append, apRef, refO_ok, dro_fz, dro_un, dro_ow, dro_nil, ix, e3]) (far_inner hi hu w.nd (fun e he => (w.rng e he).1) fun v hv' => (W.adj ((hv v).mp hv')).2.1)
        unfold w_law_far_from_B2
        simp (disch := first | omega | decide | (simp only [List.length_cons, List.length_nil, List.length_append, List.length_map, List.length_take, List.length_drop]; omega)) only [apC, apV, apVb, ap2, ap1, apB, apN, apX, aptB, aptV, apAnd, apOr, apNot, apeIf, apeAnd, apeOr, apeNot, apTup, apLst, apIt, apIts, apoN, apoS, apSl, ap3, apsN, apSeq, apSet, apOwn, apRet, apEx, apIf, apFrz, apT, apgN, apEnd, apLm, apGet2, apD1, apD2, apBV, wip_nx, wip_rt, wip_er, frz_fz, wipeF_cons, wipeF_nil, lstB_l, List.getElem?_cons_succ, List.getElem?_cons_zero, List.set_cons_succ, List.set_cons_zero, max2_i, min2_i, bindO, bindE, fdiv_s, mod_i, mul_s, mul_s', isi_ii, isi_ib, isi_it, isi_tt, isi_ll, isi_bb, len_l, len_t, len_s, it_l, it_t, mkL0, mkL1, mkL2, mkL3, mkL4, mkL5, mkL6, mkL7, mkL8, mkT0, mkT1, mkT2, mkT3, mkT4, mkT5, mkT6, mkT7, mkT8, add_i, sub_i, lt_i, le_i, gt_i, ge_i, eq_ib, ne_ib, decide_true, decide_false, tru_b, tru_i, tru_n, as_b, tru_l, tru_t, if_true, if_false, Bool.not_true, Bool.not_false, Bool.false_eq_true, list_l, list_t, tup_l, tup_t, endO_rt, endO_nx, endO_er, isNon_n, mkL9, mkL10, mkL11, mkL12, mkL13, mkL14, mkL15, mkL16, apsApp, appO_ok, appO_er, apsTup, tupO_2, tupO_3, negI, sl_t, cut_toD, cut_fromD, List.cons_append, List.nil_append, apRef, refO_ok, dro_fz, dro_un, dro_ow, dro_nil, lp]
        rfl
      · rw [decide_eq_false (show ¬ (a : Int) < es.length by omega)] at t
        exact .inl t) (s := (0, [(p, 0)])) fr0
  have ha : a = es.length := by
    have hle := w.le
    dsimp only at hle e2
    have t : w_law_far_from_T1 [.fz (webD n ps), .fz (.int p), .ow (.dk (kd es)), .ow (.lst ((es.map (·.1)).map D.int)), .fz (.int (a : Int)), .un] = .ok (decide ((a : Int) < es.length)) := by
      unfold w_law_far_from_T1
      simp (disch := first | omega | decide | (simp only [List.length_cons, List.length_nil, List.length_append, List.length_map, List.length_take, List.length_drop]; omega)) only [apC, apV, apVb, ap2, ap1, apB, apN, apX, aptB, aptV, apAnd, apOr, apNot, apeIf, apeAnd, apeOr, apeNot, apTup, apLst, apIt, apIts, apoN, apoS, apSl, ap3, apsN, apSeq, apSet, apOwn, apRet, apEx, apIf, apFrz, apT, apgN, apEnd, apLm, apGet2, apD1, apD2, apBV, wip_nx, wip_rt, wip_er, frz_fz, wipeF_cons, wipeF_nil, lstB_l, List.getElem?_cons_succ, List.getElem?_cons_zero, List.set_cons_succ, List.set_cons_zero, max2_i, min2_i, bindO, bindE, fdiv_s, mod_i, mul_s, mul_s', isi_ii, isi_ib, isi_it, isi_tt, isi_ll, isi_bb, len_l, len_t, len_s, it_l, it_t, mkL0, mkL1, mkL2, mkL3, mkL4, mkL5, mkL6, mkL7, mkL8, mkT0, mkT1, mkT2, mkT3, mkT4, mkT5, mkT6, mkT7, mkT8, add_i, sub_i, lt_i, le_i, gt_i, ge_i, eq_ib, ne_ib, decide_true, decide_false, tru_b, tru_i, tru_n, as_b, tru_l, tru_t, if_true, if_false, Bool.not_true, Bool.not_false, Bool.false_eq_true, list_l, list_t, tup_l, tup_t, endO_rt, endO_nx, endO_er, isNon_n, mkL9, mkL10, mkL11, mkL12, mkL13, mkL14, mkL15, mkL16, apsApp, appO_ok, appO_er, apsTup, tupO_2, tupO_3, negI, sl_t, cut_toD, cut_fromD, List.cons_append, List.nil_append, apRef, refO_ok, dro_fz, dro_un, dro_ow, dro_nil, List.length_map]
    rw [t] at e2
    have := of_decide_eq_false (R.ok.inj e2)
    omega
  subst ha
  refine ⟨es, ?_, w.dist⟩
  have lp : w_law_far_from_L2 [.fz (webD n ps), .fz (.int p), .ow (.dk (kd [(p, 0)])), .ow (.lst [.int p]), .fz (.int 0), .un] = .nx [.fz (webD n ps), .fz (.int p), .ow (.dk (kd es)), .ow (.lst ((es.map (·.1)).map D.int)), .fz (.int (es.length : Int)), .un] := e1
  rw [go_w_law_far_from]
  unfold w_law_far_from_S
  have dd : D.dk (kd [(p, 0)]) = .dk [(.inl p, .int 0)] := rfl
  rw [dd] at lp
  simp (disch := first | omega | decide | (simp only [List.length_cons, List.length_nil, List.length_append, List.length_map, List.length_take, List.length_drop]; omega)) only [apC, apV, apVb, ap2, ap1, apB, apN, apX, aptB, aptV, apAnd, apOr, apNot, apeIf, apeAnd, apeOr, apeNot, apTup, apLst, apIt, apIts, apoN, apoS, apSl, ap3, apsN, apSeq, apSet, apOwn, apRet, apEx, apIf, apFrz, apT, apgN, apEnd, apLm, apGet2, apD1, apD2, apBV, wip_nx, wip_rt, wip_er, frz_fz, wipeF_cons, wipeF_nil, lstB_l, List.getElem?_cons_succ, List.getElem?_cons_zero, List.set_cons_succ, List.set_cons_zero, max2_i, min2_i, bindO, bindE, fdiv_s, mod_i, mul_s, mul_s', isi_ii, isi_ib, isi_it, isi_tt, isi_ll, isi_bb, len_l, len_t, len_s, it_l, it_t, mkL0, mkL1, mkL2, mkL3, mkL4, mkL5, mkL6, mkL7, mkL8, mkT0, mkT1, mkT2, mkT3, mkT4, mkT5, mkT6, mkT7, mkT8, add_i, sub_i, lt_i, le_i, gt_i, ge_i, eq_ib, ne_ib, decide_true, decide_false, tru_b, tru_i, tru_n, as_b, tru_l, tru_t, if_true, if_false, Bool.not_true, Bool.not_false, Bool.false_eq_true, list_l, list_t, tup_l, tup_t, endO_rt, endO_nx, endO_er, isNon_n, mkL9, mkL10, mkL11, mkL12, mkL13, mkL14, mkL15, mkL16, apsApp, appO_ok, appO_er, apsTup, tupO_2, tupO_3, negI, sl_t, cut_toD, cut_fromD, List.cons_append, List.nil_append, apRef, refO_ok, dro_fz, dro_un, dro_ow, dro_nil, mkD1_i, lp]
theorem near2_near : w_law_near_v2 = w_law_near := rfl
theorem far2_far : w_law_far_from_v2 = w_law_far_from := rfl
theorem ix_last {xs : List D} {x : D} : ixD (.lst (xs ++ [x])) (.int (-1)) = .ok x := by
  show (match atD (xs ++ [x]) (-1) with | some d => R.ok d | none => R.stuck) = _
  have : atD (xs ++ [x]) (-1) = some x := by
    unfold atD ixN
    rw [if_neg (by decide), if_pos (by rw [List.length_append, List.length_singleton]; omega)]
    show (xs ++ [x])[(-1 + ((xs ++ [x]).length : Int)).toNat]? = _
    rw [List.length_append, List.length_singleton, show (-1 + ((xs.length + 1 : Nat) : Int)).toNat = xs.length by omega, List.getElem?_append_right (Nat.le_refl _), Nat.sub_self]
    rfl
  rw [this]
theorem doubled_ok (x : Int) (k : Nat) (hk : k ≤ 1000) : w_law_doubled [.int x, .int (k : Int)] = .ok (.int (x * 2 ^ k)) := by
  have e := for_rngF (g := gN 2) (b := w_law_doubled_B1) (n := k) (lo := 0) (fun j => [.fz (.int (x * 2 ^ j)), .fz (.int (k : Int)), .un]) fun j hj => ⟨_, rfl, by
    unfold w_law_doubled_B1
    simp (disch := first | omega | decide | (simp only [List.length_cons, List.length_nil, List.length_append, List.length_map, List.length_take, List.length_drop]; omega)) only [apC, apV, apVb, ap2, ap1, apB, apN, apX, aptB, aptV, apAnd, apOr, apNot, apeIf, apeAnd, apeOr, apeNot, apTup, apLst, apIt, apIts, apoN, apoS, apSl, ap3, apsN, apSeq, apSet, apOwn, apRet, apEx, apIf, apFrz, apT, apgN, apEnd, apLm, apGet2, apD1, apD2, apBV, wip_nx, wip_rt, wip_er, frz_fz, wipeF_cons, wipeF_nil, lstB_l, List.getElem?_cons_succ, List.getElem?_cons_zero, List.set_cons_succ, List.set_cons_zero, max2_i, min2_i, bindO, bindE, fdiv_s, mod_i, mul_s, mul_s', isi_ii, isi_ib, isi_it, isi_tt, isi_ll, isi_bb, len_l, len_t, len_s, it_l, it_t, mkL0, mkL1, mkL2, mkL3, mkL4, mkL5, mkL6, mkL7, mkL8, mkT0, mkT1, mkT2, mkT3, mkT4, mkT5, mkT6, mkT7, mkT8, add_i, sub_i, lt_i, le_i, gt_i, ge_i, eq_ib, ne_ib, decide_true, decide_false, tru_b, tru_i, tru_n, as_b, tru_l, tru_t, if_true, if_false, Bool.not_true, Bool.not_false, Bool.false_eq_true, list_l, list_t, tup_l, tup_t, endO_rt, endO_nx, endO_er, isNon_n, mkL9, mkL10, mkL11, mkL12, mkL13, mkL14, mkL15, mkL16, apsApp, appO_ok, appO_er, apsTup, tupO_2, tupO_3, negI, sl_t, cut_toD, cut_fromD, List.cons_append, List.nil_append, apRef, refO_ok, dro_fz, dro_un, dro_ow, dro_nil]
    rw [show x * 2 ^ j + x * 2 ^ j = x * 2 ^ (j + 1) by rw [Int.pow_succ, ← Int.mul_assoc]; omega]⟩
  have lp : w_law_doubled_L1 [.fz (.int x), .fz (.int (k : Int)), .un] = .nx [.fz (.int (x * 2 ^ k)), .fz (.int (k : Int)), .un] := by
    have e0 : x * 2 ^ 0 = x := by rw [Int.pow_zero, Int.mul_one]
    rw [e0] at e
    exact for_go (by
      have r := rng1_int (n := (k : Int)) (by omega) (by omega)
      rw [Int.toNat_natCast] at r
      simp (disch := first | omega | decide | (simp only [List.length_cons, List.length_nil, List.length_append, List.length_map, List.length_take, List.length_drop]; omega)) only [apC, apV, apVb, ap2, ap1, apB, apN, apX, aptB, aptV, apAnd, apOr, apNot, apeIf, apeAnd, apeOr, apeNot, apTup, apLst, apIt, apIts, apoN, apoS, apSl, ap3, apsN, apSeq, apSet, apOwn, apRet, apEx, apIf, apFrz, apT, apgN, apEnd, apLm, apGet2, apD1, apD2, apBV, wip_nx, wip_rt, wip_er, frz_fz, wipeF_cons, wipeF_nil, lstB_l, List.getElem?_cons_succ, List.getElem?_cons_zero, List.set_cons_succ, List.set_cons_zero, max2_i, min2_i, bindO, bindE, fdiv_s, mod_i, mul_s, mul_s', isi_ii, isi_ib, isi_it, isi_tt, isi_ll, isi_bb, len_l, len_t, len_s, it_l, it_t, mkL0, mkL1, mkL2, mkL3, mkL4, mkL5, mkL6, mkL7, mkL8, mkT0, mkT1, mkT2, mkT3, mkT4, mkT5, mkT6, mkT7, mkT8, add_i, sub_i, lt_i, le_i, gt_i, ge_i, eq_ib, ne_ib, decide_true, decide_false, tru_b, tru_i, tru_n, as_b, tru_l, tru_t, if_true, if_false, Bool.not_true, Bool.not_false, Bool.false_eq_true, list_l, list_t, tup_l, tup_t, endO_rt, endO_nx, endO_er, isNon_n, mkL9, mkL10, mkL11, mkL12, mkL13, mkL14, mkL15, mkL16, apsApp, appO_ok, appO_er, apsTup, tupO_2, tupO_3, negI, sl_t, cut_toD, cut_fromD, List.cons_append, List.nil_append, apRef, refO_ok, dro_fz, dro_un, dro_ow, dro_nil, r]) e
  rw [go_w_law_doubled]
  unfold w_law_doubled_S
  simp (disch := first | omega | decide | (simp only [List.length_cons, List.length_nil, List.length_append, List.length_map, List.length_take, List.length_drop]; omega)) only [apC, apV, apVb, ap2, ap1, apB, apN, apX, aptB, aptV, apAnd, apOr, apNot, apeIf, apeAnd, apeOr, apeNot, apTup, apLst, apIt, apIts, apoN, apoS, apSl, ap3, apsN, apSeq, apSet, apOwn, apRet, apEx, apIf, apFrz, apT, apgN, apEnd, apLm, apGet2, apD1, apD2, apBV, wip_nx, wip_rt, wip_er, frz_fz, wipeF_cons, wipeF_nil, lstB_l, List.getElem?_cons_succ, List.getElem?_cons_zero, List.set_cons_succ, List.set_cons_zero, max2_i, min2_i, bindO, bindE, fdiv_s, mod_i, mul_s, mul_s', isi_ii, isi_ib, isi_it, isi_tt, isi_ll, isi_bb, len_l, len_t, len_s, it_l, it_t, mkL0, mkL1, mkL2, mkL3, mkL4, mkL5, mkL6, mkL7, mkL8, mkT0, mkT1, mkT2, mkT3, mkT4, mkT5, mkT6, mkT7, mkT8, add_i, sub_i, lt_i, le_i, gt_i, ge_i, eq_ib, ne_ib, decide_true, decide_false, tru_b, tru_i, tru_n, as_b, tru_l, tru_t, if_true, if_false, Bool.not_true, Bool.not_false, Bool.false_eq_true, list_l, list_t, tup_l, tup_t, endO_rt, endO_nx, endO_er, isNon_n, mkL9, mkL10, mkL11, mkL12, mkL13, mkL14, mkL15, mkL16, apsApp, appO_ok, appO_er, apsTup, tupO_2, tupO_3, negI, sl_t, cut_toD, cut_fromD, List.cons_append, List.nil_append, apRef, refO_ok, dro_fz, dro_un, dro_ow, dro_nil, lp]
/-- what the demands come to, brought from all places -/
def farOf (es : List (Int × Int)) (v : Int) : Int := ((es.find? fun e => decide (e.1 = v)).map (·.2)).getD 0
theorem farOf_eq {es : List (Int × Int)} (hn : (es.map (·.1)).Nodup) {v d : Int} (h : (v, d) ∈ es) : farOf es v = d := by
  unfold farOf
  rw [find_of hn h]
  rfl
def stackL (ws : List Int) (es : List (Int × Int)) : List Int := (List.range ws.length).map fun (j : Nat) => ws.getD j 0 * 2 ^ (farOf es (j : Int)).toNat
theorem stackL_uniq {n : Int} {ps : List (Int × Int)} {p : Int} {es es' : List (Int × Int)} (h : Dist n ps p es) (h' : Dist n ps p es') (W : Whole n ps) (hp : 0 ≤ p ∧ p < n) {ws : List Int} (hl : (ws.length : Int) = n) : stackL ws es = stackL ws es' := by
  unfold stackL
  refine List.map_congr_left fun j hj => ?_
  have := List.mem_range.mp hj
  obtain ⟨d, hd⟩ := h.full W hp (j : Int) (by omega)
  rw [farOf_eq h.nd hd, farOf_eq h'.nd (h.uniq h' hd)]
theorem shl_i {i j : Int} (h : 0 ≤ j ∧ j ≤ 1000000) (hi : i.natAbs < 2 ^ 64) : shlD (.int i) (.int j) = .ok (.int (i * 2 ^ j.toNat)) := if_pos ⟨h.1, h.2, hi⟩
theorem getD_get {ws : List Int} {j : Nat} (h : j < ws.length) : ws.getD j 0 = ws[j] := by
  rw [List.getD_eq_getElem?_getD, List.getElem?_eq_getElem h]
  rfl
theorem stack_of_ok {n : Int} {ps : List (Int × Int)} (W : WebOk n ps) (H : Whole n ps) {ws : List Int} (dm : DemOk n ws) {p : Int} (hp : 0 ≤ p ∧ p < n) : ∃ es, Dist n ps p es ∧ w_stack_of [webD n ps, stD ws, .int p] = .ok (.int (stackL ws es).sum) := by
  have lo := W.lo
  have hi := W.hi
  have hl := dm.len
  obtain ⟨es, e, h⟩ := steps_ok W hp
  refine ⟨es, h, ?_⟩
  have c : w_stack_of_C1 [.fz (webD n ps), .fz (stD ws), .fz (.int p), .fz (.dk (kd es)), .un] = .ok (.lst ((stackL ws es).map D.int)) := by
    have r := rng1_int (n := n) (by omega) (by omega)
    refine Eq.trans (eLc_ok (ds := intsD 0 n.toNat) (by simp (disch := first | omega | decide | (simp only [List.length_cons, List.length_nil, List.length_append, List.length_map, List.length_take, List.length_drop]; omega)) only [apC, apV, apVb, ap2, ap1, apB, apN, apX, aptB, aptV, apAnd, apOr, apNot, apeIf, apeAnd, apeOr, apeNot, apTup, apLst, apIt, apIts, apoN, apoS, apSl, ap3, apsN, apSeq, apSet, apOwn, apRet, apEx, apIf, apFrz, apT, apgN, apEnd, apLm, apGet2, apD1, apD2, apBV, wip_nx, wip_rt, wip_er, frz_fz, wipeF_cons, wipeF_nil, lstB_l, List.getElem?_cons_succ, List.getElem?_cons_zero, List.set_cons_succ, List.set_cons_zero, max2_i, min2_i, bindO, bindE, fdiv_s, mod_i, mul_s, mul_s', isi_ii, isi_ib, isi_it, isi_tt, isi_ll, isi_bb, len_l, len_t, len_s, it_l, it_t, mkL0, mkL1, mkL2, mkL3, mkL4, mkL5, mkL6, mkL7, mkL8, mkT0, mkT1, mkT2, mkT3, mkT4, mkT5, mkT6, mkT7, mkT8, add_i, sub_i, lt_i, le_i, gt_i, ge_i, eq_ib, ne_ib, decide_true, decide_false, tru_b, tru_i, tru_n, as_b, tru_l, tru_t, if_true, if_false, Bool.not_true, Bool.not_false, Bool.false_eq_true, list_l, list_t, tup_l, tup_t, endO_rt, endO_nx, endO_er, isNon_n, mkL9, mkL10, mkL11, mkL12, mkL13, mkL14, mkL15, mkL16, apsApp, appO_ok, appO_er, apsTup, tupO_2, tupO_3, negI, sl_t, cut_toD, cut_fromD, List.cons_append, List.nil_append, apRef, refO_ok, dro_fz, dro_un, dro_ow, dro_nil, ix0, r]) rfl (lc_map (fun d => match d with | .int k => .int (ws.getD k.toNat 0 * 2 ^ (farOf es k).toNat) | d => d) fun d hd => ?_)) ?_
    · obtain ⟨k, hk, rfl⟩ := mem_ints hd
      rw [Int.zero_add]
      obtain ⟨d, hm⟩ := h.full H hp (k : Int) (by omega)
      have hd := h.deep _ _ hm
      have hd0 := (h.rng _ hm).2
      dsimp only at hd0
      have hkl : k < ws.length := by omega
      have i1 := ix_ti hkl
      have i2 := ix_kd h.nd hm
      have hw := dm.num _ (List.getElem_mem hkl)
      have sh := shl_i (i := ws[k]) (j := d) (by omega) (by omega)
      refine ⟨_, rfl, ?_⟩
      simp (disch := first | omega | decide | (simp only [List.length_cons, List.length_nil, List.length_append, List.length_map, List.length_take, List.length_drop]; omega)) only [apC, apV, apVb, ap2, ap1, apB, apN, apX, aptB, aptV, apAnd, apOr, apNot, apeIf, apeAnd, apeOr, apeNot, apTup, apLst, apIt, apIts, apoN, apoS, apSl, ap3, apsN, apSeq, apSet, apOwn, apRet, apEx, apIf, apFrz, apT, apgN, apEnd, apLm, apGet2, apD1, apD2, apBV, wip_nx, wip_rt, wip_er, frz_fz, wipeF_cons, wipeF_nil, lstB_l, List.getElem?_cons_succ, List.getElem?_cons_zero, List.set_cons_succ, List.set_cons_zero, max2_i, min2_i, bindO, bindE, fdiv_s, mod_i, mul_s, mul_s', isi_ii, isi_ib, isi_it, isi_tt, isi_ll, isi_bb, len_l, len_t, len_s, it_l, it_t, mkL0, mkL1, mkL2, mkL3, mkL4, mkL5, mkL6, mkL7, mkL8, mkT0, mkT1, mkT2, mkT3, mkT4, mkT5, mkT6, mkT7, mkT8, add_i, sub_i, lt_i, le_i, gt_i, ge_i, eq_ib, ne_ib, decide_true, decide_false, tru_b, tru_i, tru_n, as_b, tru_l, tru_t, if_true, if_false, Bool.not_true, Bool.not_false, Bool.false_eq_true, list_l, list_t, tup_l, tup_t, endO_rt, endO_nx, endO_er, isNon_n, mkL9, mkL10, mkL11, mkL12, mkL13, mkL14, mkL15, mkL16, apsApp, appO_ok, appO_er, apsTup, tupO_2, tupO_3, negI, sl_t, cut_toD, cut_fromD, List.cons_append, List.nil_append, apRef, refO_ok, dro_fz, dro_un, dro_ow, dro_nil, i1, i2, sh]
      rw [Int.toNat_natCast, getD_get hkl, farOf_eq h.nd hm]
    · unfold intsD stackL
      rw [List.map_map, List.map_map, show n.toNat = ws.length by omega]
      congr 2
      refine List.map_congr_left fun k _ => ?_
      show D.int (ws.getD (0 + (k : Int)).toNat 0 * 2 ^ (farOf es (0 + (k : Int))).toNat) = D.int (ws.getD k 0 * 2 ^ (farOf es (k : Int)).toNat)
      rw [Int.zero_add, Int.toNat_natCast]
  rw [go_w_stack_of]
  unfold w_stack_of_S
  simp (disch := first | omega | decide | (simp only [List.length_cons, List.length_nil, List.length_append, List.length_map, List.length_take, List.length_drop]; omega)) only [apC, apV, apVb, ap2, ap1, apB, apN, apX, aptB, aptV, apAnd, apOr, apNot, apeIf, apeAnd, apeOr, apeNot, apTup, apLst, apIt, apIts, apoN, apoS, apSl, ap3, apsN, apSeq, apSet, apOwn, apRet, apEx, apIf, apFrz, apT, apgN, apEnd, apLm, apGet2, apD1, apD2, apBV, wip_nx, wip_rt, wip_er, frz_fz, wipeF_cons, wipeF_nil, lstB_l, List.getElem?_cons_succ, List.getElem?_cons_zero, List.set_cons_succ, List.set_cons_zero, max2_i, min2_i, bindO, bindE, fdiv_s, mod_i, mul_s, mul_s', isi_ii, isi_ib, isi_it, isi_tt, isi_ll, isi_bb, len_l, len_t, len_s, it_l, it_t, mkL0, mkL1, mkL2, mkL3, mkL4, mkL5, mkL6, mkL7, mkL8, mkT0, mkT1, mkT2, mkT3, mkT4, mkT5, mkT6, mkT7, mkT8, add_i, sub_i, lt_i, le_i, gt_i, ge_i, eq_ib, ne_ib, decide_true, decide_false, tru_b, tru_i, tru_n, as_b, tru_l, tru_t, if_true, if_false, Bool.not_true, Bool.not_false, Bool.false_eq_true, list_l, list_t, tup_l, tup_t, endO_rt, endO_nx, endO_er, isNon_n, mkL9, mkL10, mkL11, mkL12, mkL13, mkL14, mkL15, mkL16, apsApp, appO_ok, appO_er, apsTup, tupO_2, tupO_3, negI, sl_t, cut_toD, cut_fromD, List.cons_append, List.nil_append, apRef, refO_ok, dro_fz, dro_un, dro_ow, dro_nil, e, c, sum_l]
theorem need_place_ok {n : Int} {y : D} {p : Int} (hp : 0 ≤ p ∧ p < n) : w_need_place [.tup [.int n, y], .int p] = .ok .non := by
  rw [need_place_eq ty_i, if_pos]
  show (decide (0 ≤ p) && decide (p < n)) = true
  rw [decide_eq_true hp.1, decide_eq_true hp.2]
  rfl
theorem maxI_in : ∀ {ns : List Int} {n : Int}, maxI n ns ∈ n :: ns
  | [], n => by unfold maxI; simp
  | m :: ns, n => by
    show maxI (if m > n then m else n) ns ∈ n :: m :: ns
    have := maxI_in (ns := ns) (n := if m > n then m else n)
    first
    | exact (List.mem_cons.mp this).elim (fun e => by rw [e]; split <;> simp) fun h => List.mem_cons_of_mem _ (List.mem_cons_of_mem _ h)
theorem flDs_is : ∀ ns : List Int, flDs (ns.map D.int) = some (ns.map V.int)
  | [] => rfl
  | n :: ns => by
    rw [List.map_cons, List.map_cons]
    unfold flDs
    rw [flDs_is ns]
    rfl
theorem ixOf_is {m : Int} : ∀ {ns : List Int}, m ∈ ns → ∃ j, ixOf (eqV · (.int m)) (ns.map V.int) = some j ∧ j < ns.length
  | n :: ns, h => by
    rw [List.map_cons]
    unfold ixOf
    by_cases e : n = m
    · have : eqV (.int n) (.int m) = true := by show (n == m) = true; rw [e, beq_self_eq_true]
      exact ⟨0, if_pos this, by rw [List.length_cons]; omega⟩
    · have : eqV (.int n) (.int m) = false := by show (n == m) = false; rw [beq_eq_false_iff_ne.mpr e]
      obtain ⟨j, hj, hl⟩ := ixOf_is (ns := ns) ((List.mem_cons.mp h).elim (fun q => absurd q.symm e) id)
      refine ⟨j + 1, ?_, by rw [List.length_cons]; omega⟩
      rw [if_neg (by rw [this]; exact Bool.false_ne_true), hj]
      rfl
theorem idx_is {ns : List Int} {m : Int} (h : m ∈ ns) : ∃ j : Nat, idxD (.lst (ns.map D.int)) (.int m) = .ok (.int (j : Int)) ∧ j < ns.length := by
  obtain ⟨j, hj, hl⟩ := ixOf_is h
  refine ⟨j, ?_, hl⟩
  show (match flDs (ns.map D.int), flD (.int m) with | some vs, some v => (match ixOf (eqV · v) vs with | some j => R.ok (D.int (j : Nat)) | none => R.stuck) | _, _ => R.stuck) = _
  rw [flDs_is]
  show (match ixOf (eqV · (.int m)) (ns.map V.int) with | some j => R.ok (D.int (j : Nat)) | none => R.stuck) = _
  rw [hj]
theorem max_is {ns : List Int} (h : ns ≠ []) : ∃ m, maxD [.lst (ns.map D.int)] = .ok (.int m) ∧ m ∈ ns := by
  cases ns with
  | nil => exact absurd rfl h
  | cons n ns => exact ⟨_, max_l, maxI_in⟩
end PB

namespace PB
open PySem PySem.Spec PyProof.Rows L2 LamX
/-! ### S14: greatest stacks -/
open Classical in
noncomputable def stackN (n : Int) (ps : List (Int × Int)) (ws : List Int) (p : Int) : Int := if h : ∃ es, Dist n ps p es then (stackL ws h.choose).sum else 0
theorem stackN_eq {n : Int} {ps : List (Int × Int)} {p : Int} {es : List (Int × Int)} (h : Dist n ps p es) (W : Whole n ps) (hp : 0 ≤ p ∧ p < n) {ws : List Int} (hl : (ws.length : Int) = n) : stackN n ps ws p = (stackL ws es).sum := by
  unfold stackN
  rw [dif_pos ⟨es, h⟩]
  have e : ∃ es, Dist n ps p es := ⟨es, h⟩
  rw [stackL_uniq e.choose_spec h W hp hl]
theorem stack_of_N {n : Int} {ps : List (Int × Int)} (W : WebOk n ps) (H : Whole n ps) {ws : List Int} (dm : DemOk n ws) {p : Int} (hp : 0 ≤ p ∧ p < n) : w_stack_of [webD n ps, stD ws, .int p] = .ok (.int (stackN n ps ws p)) := by
  obtain ⟨es, h, e⟩ := stack_of_ok W H dm hp
  rw [e, stackN_eq h H hp dm.len]
theorem stack_N {n : Int} {ps : List (Int × Int)} (W : WebOk n ps) (H : Whole n ps) {ws : List Int} (dm : DemOk n ws) {p : Int} (hp : 0 ≤ p ∧ p < n) : w_stack [webD n ps, stD ws, .int p] = .ok (.int (stackN n ps ws p)) := by
  rw [go_w_stack]
  unfold w_stack_S
  simp (disch := first | omega | decide | (simp only [List.length_cons, List.length_nil, List.length_append, List.length_map, List.length_take, List.length_drop]; omega)) only [apC, apV, apVb, ap2, ap1, apB, apN, apX, aptB, aptV, apAnd, apOr, apNot, apeIf, apeAnd, apeOr, apeNot, apTup, apLst, apIt, apIts, apoN, apoS, apSl, ap3, apsN, apSeq, apSet, apOwn, apRet, apEx, apIf, apFrz, apT, apgN, apEnd, apLm, apGet2, apD1, apD2, apBV, wip_nx, wip_rt, wip_er, frz_fz, wipeF_cons, wipeF_nil, lstB_l, List.getElem?_cons_succ, List.getElem?_cons_zero, List.set_cons_succ, List.set_cons_zero, max2_i, min2_i, bindO, bindE, fdiv_s, mod_i, mul_s, mul_s', isi_ii, isi_ib, isi_it, isi_tt, isi_ll, isi_bb, len_l, len_t, len_s, it_l, it_t, mkL0, mkL1, mkL2, mkL3, mkL4, mkL5, mkL6, mkL7, mkL8, mkT0, mkT1, mkT2, mkT3, mkT4, mkT5, mkT6, mkT7, mkT8, add_i, sub_i, lt_i, le_i, gt_i, ge_i, eq_ib, ne_ib, decide_true, decide_false, tru_b, tru_i, tru_n, as_b, tru_l, tru_t, if_true, if_false, Bool.not_true, Bool.not_false, Bool.false_eq_true, list_l, list_t, tup_l, tup_t, endO_rt, endO_nx, endO_er, isNon_n, mkL9, mkL10, mkL11, mkL12, mkL13, mkL14, mkL15, mkL16, apsApp, appO_ok, appO_er, apsTup, tupO_2, tupO_3, negI, sl_t, cut_toD, cut_fromD, List.cons_append, List.nil_append, apRef, refO_ok, dro_fz, dro_un, dro_ow, dro_nil, need_whole_ok W H, need_dem_ok dm, need_place_ok hp, stack_of_N W H dm hp]
noncomputable def stacksN (n : Int) (ps : List (Int × Int)) (ws : List Int) : List Int := (List.range n.toNat).map fun (k : Nat) => stackN n ps ws (k : Int)
theorem stacksN_len {n : Int} {ps : List (Int × Int)} {ws : List Int} : (stacksN n ps ws).length = n.toNat := by unfold stacksN; rw [List.length_map, List.length_range]
theorem greatest_N {n : Int} {ps : List (Int × Int)} (W : WebOk n ps) (H : Whole n ps) {ws : List Int} (dm : DemOk n ws) {m j : Int} (hm : maxD [.lst ((stacksN n ps ws).map D.int)] = .ok (.int m)) (hj : idxD (.lst ((stacksN n ps ws).map D.int)) (.int m) = .ok (.int j)) : w_greatest_stack [webD n ps, stD ws] = .ok (.tup [.int m, .int j]) := by
  have lo := W.lo
  have hi := W.hi
  have c : w_most_stacked_C1 [.fz (webD n ps), .fz (stD ws), .un, .un] = .ok (.lst ((stacksN n ps ws).map D.int)) := by
    have r := rng1_int (n := n) (by omega) (by omega)
    refine Eq.trans (eLc_ok (ds := intsD 0 n.toNat) (by simp (disch := first | omega | decide | (simp only [List.length_cons, List.length_nil, List.length_append, List.length_map, List.length_take, List.length_drop]; omega)) only [apC, apV, apVb, ap2, ap1, apB, apN, apX, aptB, aptV, apAnd, apOr, apNot, apeIf, apeAnd, apeOr, apeNot, apTup, apLst, apIt, apIts, apoN, apoS, apSl, ap3, apsN, apSeq, apSet, apOwn, apRet, apEx, apIf, apFrz, apT, apgN, apEnd, apLm, apGet2, apD1, apD2, apBV, wip_nx, wip_rt, wip_er, frz_fz, wipeF_cons, wipeF_nil, lstB_l, List.getElem?_cons_succ, List.getElem?_cons_zero, List.set_cons_succ, List.set_cons_zero, max2_i, min2_i, bindO, bindE, fdiv_s, mod_i, mul_s, mul_s', isi_ii, isi_ib, isi_it, isi_tt, isi_ll, isi_bb, len_l, len_t, len_s, it_l, it_t, mkL0, mkL1, mkL2, mkL3, mkL4, mkL5, mkL6, mkL7, mkL8, mkT0, mkT1, mkT2, mkT3, mkT4, mkT5, mkT6, mkT7, mkT8, add_i, sub_i, lt_i, le_i, gt_i, ge_i, eq_ib, ne_ib, decide_true, decide_false, tru_b, tru_i, tru_n, as_b, tru_l, tru_t, if_true, if_false, Bool.not_true, Bool.not_false, Bool.false_eq_true, list_l, list_t, tup_l, tup_t, endO_rt, endO_nx, endO_er, isNon_n, mkL9, mkL10, mkL11, mkL12, mkL13, mkL14, mkL15, mkL16, apsApp, appO_ok, appO_er, apsTup, tupO_2, tupO_3, negI, sl_t, cut_toD, cut_fromD, List.cons_append, List.nil_append, apRef, refO_ok, dro_fz, dro_un, dro_ow, dro_nil, ix0, r]) rfl (lc_map (fun d => match d with | .int k => .int (stackN n ps ws k) | d => d) fun d hd => ?_)) ?_
    · obtain ⟨k, hk, rfl⟩ := mem_ints hd
      have e := stack_of_N W H dm (p := 0 + (k : Int)) (by omega)
      refine ⟨_, rfl, ?_⟩
      simp (disch := first | omega | decide | (simp only [List.length_cons, List.length_nil, List.length_append, List.length_map, List.length_take, List.length_drop]; omega)) only [apC, apV, apVb, ap2, ap1, apB, apN, apX, aptB, aptV, apAnd, apOr, apNot, apeIf, apeAnd, apeOr, apeNot, apTup, apLst, apIt, apIts, apoN, apoS, apSl, ap3, apsN, apSeq, apSet, apOwn, apRet, apEx, apIf, apFrz, apT, apgN, apEnd, apLm, apGet2, apD1, apD2, apBV, wip_nx, wip_rt, wip_er, frz_fz, wipeF_cons, wipeF_nil, lstB_l, List.getElem?_cons_succ, List.getElem?_cons_zero, List.set_cons_succ, List.set_cons_zero, max2_i, min2_i, bindO, bindE, fdiv_s, mod_i, mul_s, mul_s', isi_ii, isi_ib, isi_it, isi_tt, isi_ll, isi_bb, len_l, len_t, len_s, it_l, it_t, mkL0, mkL1, mkL2, mkL3, mkL4, mkL5, mkL6, mkL7, mkL8, mkT0, mkT1, mkT2, mkT3, mkT4, mkT5, mkT6, mkT7, mkT8, add_i, sub_i, lt_i, le_i, gt_i, ge_i, eq_ib, ne_ib, decide_true, decide_false, tru_b, tru_i, tru_n, as_b, tru_l, tru_t, if_true, if_false, Bool.not_true, Bool.not_false, Bool.false_eq_true, list_l, list_t, tup_l, tup_t, endO_rt, endO_nx, endO_er, isNon_n, mkL9, mkL10, mkL11, mkL12, mkL13, mkL14, mkL15, mkL16, apsApp, appO_ok, appO_er, apsTup, tupO_2, tupO_3, negI, sl_t, cut_toD, cut_fromD, List.cons_append, List.nil_append, apRef, refO_ok, dro_fz, dro_un, dro_ow, dro_nil, e]
    · unfold intsD stacksN
      rw [List.map_map, List.map_map]
      congr 2
      refine List.map_congr_left fun k _ => ?_
      show D.int (stackN n ps ws (0 + (k : Int))) = D.int (stackN n ps ws (k : Int))
      rw [Int.zero_add]
  have m1 : w_most_stacked [webD n ps, stD ws] = .ok (.tup [.int m, .int j]) := by
    rw [go_w_most_stacked]
    unfold w_most_stacked_S
    simp (disch := first | omega | decide | (simp only [List.length_cons, List.length_nil, List.length_append, List.length_map, List.length_take, List.length_drop]; omega)) only [apC, apV, apVb, ap2, ap1, apB, apN, apX, aptB, aptV, apAnd, apOr, apNot, apeIf, apeAnd, apeOr, apeNot, apTup, apLst, apIt, apIts, apoN, apoS, apSl, ap3, apsN, apSeq, apSet, apOwn, apRet, apEx, apIf, apFrz, apT, apgN, apEnd, apLm, apGet2, apD1, apD2, apBV, wip_nx, wip_rt, wip_er, frz_fz, wipeF_cons, wipeF_nil, lstB_l, List.getElem?_cons_succ, List.getElem?_cons_zero, List.set_cons_succ, List.set_cons_zero, max2_i, min2_i, bindO, bindE, fdiv_s, mod_i, mul_s, mul_s', isi_ii, isi_ib, isi_it, isi_tt, isi_ll, isi_bb, len_l, len_t, len_s, it_l, it_t, mkL0, mkL1, mkL2, mkL3, mkL4, mkL5, mkL6, mkL7, mkL8, mkT0, mkT1, mkT2, mkT3, mkT4, mkT5, mkT6, mkT7, mkT8, add_i, sub_i, lt_i, le_i, gt_i, ge_i, eq_ib, ne_ib, decide_true, decide_false, tru_b, tru_i, tru_n, as_b, tru_l, tru_t, if_true, if_false, Bool.not_true, Bool.not_false, Bool.false_eq_true, list_l, list_t, tup_l, tup_t, endO_rt, endO_nx, endO_er, isNon_n, mkL9, mkL10, mkL11, mkL12, mkL13, mkL14, mkL15, mkL16, apsApp, appO_ok, appO_er, apsTup, tupO_2, tupO_3, negI, sl_t, cut_toD, cut_fromD, List.cons_append, List.nil_append, apRef, refO_ok, dro_fz, dro_un, dro_ow, dro_nil, c, hm, hj]
  rw [go_w_greatest_stack]
  unfold w_greatest_stack_S
  simp (disch := first | omega | decide | (simp only [List.length_cons, List.length_nil, List.length_append, List.length_map, List.length_take, List.length_drop]; omega)) only [apC, apV, apVb, ap2, ap1, apB, apN, apX, aptB, aptV, apAnd, apOr, apNot, apeIf, apeAnd, apeOr, apeNot, apTup, apLst, apIt, apIts, apoN, apoS, apSl, ap3, apsN, apSeq, apSet, apOwn, apRet, apEx, apIf, apFrz, apT, apgN, apEnd, apLm, apGet2, apD1, apD2, apBV, wip_nx, wip_rt, wip_er, frz_fz, wipeF_cons, wipeF_nil, lstB_l, List.getElem?_cons_succ, List.getElem?_cons_zero, List.set_cons_succ, List.set_cons_zero, max2_i, min2_i, bindO, bindE, fdiv_s, mod_i, mul_s, mul_s', isi_ii, isi_ib, isi_it, isi_tt, isi_ll, isi_bb, len_l, len_t, len_s, it_l, it_t, mkL0, mkL1, mkL2, mkL3, mkL4, mkL5, mkL6, mkL7, mkL8, mkT0, mkT1, mkT2, mkT3, mkT4, mkT5, mkT6, mkT7, mkT8, add_i, sub_i, lt_i, le_i, gt_i, ge_i, eq_ib, ne_ib, decide_true, decide_false, tru_b, tru_i, tru_n, as_b, tru_l, tru_t, if_true, if_false, Bool.not_true, Bool.not_false, Bool.false_eq_true, list_l, list_t, tup_l, tup_t, endO_rt, endO_nx, endO_er, isNon_n, mkL9, mkL10, mkL11, mkL12, mkL13, mkL14, mkL15, mkL16, apsApp, appO_ok, appO_er, apsTup, tupO_2, tupO_3, negI, sl_t, cut_toD, cut_fromD, List.cons_append, List.nil_append, apRef, refO_ok, dro_fz, dro_un, dro_ow, dro_nil, need_whole_ok W H, need_dem_ok dm, m1]
theorem stack_worst_N {n : Int} {ps : List (Int × Int)} (W : WebOk n ps) (H : Whole n ps) {ws : List Int} (dm : DemOk n ws) {m : Int} {j : Nat} (hm : maxD [.lst ((stacksN n ps ws).map D.int)] = .ok (.int m)) (hj : idxD (.lst ((stacksN n ps ws).map D.int)) (.int m) = .ok (.int (j : Int))) : w_stack_worst [webD n ps, stD ws] = .ok (stD ((List.replicate n.toNat 0).set j (m - 1))) := by
  have lo := W.lo
  have hi := W.hi
  have g := greatest_N W H dm hm hj
  have c : w_stack_worst_C1 [.fz (webD n ps), .fz (stD ws), .fz (.int m), .fz (.int (j : Int)), .un] = .ok (.lst (((List.replicate n.toNat 0).set j (m - 1)).map D.int)) := by
    have r := rng1_int (n := n) (by omega) (by omega)
    refine Eq.trans (eLc_ok (ds := intsD 0 n.toNat) (by simp (disch := first | omega | decide | (simp only [List.length_cons, List.length_nil, List.length_append, List.length_map, List.length_take, List.length_drop]; omega)) only [apC, apV, apVb, ap2, ap1, apB, apN, apX, aptB, aptV, apAnd, apOr, apNot, apeIf, apeAnd, apeOr, apeNot, apTup, apLst, apIt, apIts, apoN, apoS, apSl, ap3, apsN, apSeq, apSet, apOwn, apRet, apEx, apIf, apFrz, apT, apgN, apEnd, apLm, apGet2, apD1, apD2, apBV, wip_nx, wip_rt, wip_er, frz_fz, wipeF_cons, wipeF_nil, lstB_l, List.getElem?_cons_succ, List.getElem?_cons_zero, List.set_cons_succ, List.set_cons_zero, max2_i, min2_i, bindO, bindE, fdiv_s, mod_i, mul_s, mul_s', isi_ii, isi_ib, isi_it, isi_tt, isi_ll, isi_bb, len_l, len_t, len_s, it_l, it_t, mkL0, mkL1, mkL2, mkL3, mkL4, mkL5, mkL6, mkL7, mkL8, mkT0, mkT1, mkT2, mkT3, mkT4, mkT5, mkT6, mkT7, mkT8, add_i, sub_i, lt_i, le_i, gt_i, ge_i, eq_ib, ne_ib, decide_true, decide_false, tru_b, tru_i, tru_n, as_b, tru_l, tru_t, if_true, if_false, Bool.not_true, Bool.not_false, Bool.false_eq_true, list_l, list_t, tup_l, tup_t, endO_rt, endO_nx, endO_er, isNon_n, mkL9, mkL10, mkL11, mkL12, mkL13, mkL14, mkL15, mkL16, apsApp, appO_ok, appO_er, apsTup, tupO_2, tupO_3, negI, sl_t, cut_toD, cut_fromD, List.cons_append, List.nil_append, apRef, refO_ok, dro_fz, dro_un, dro_ow, dro_nil, ix0, r]) rfl (lc_map (fun d => match d with | .int k => .int (if k = (j : Int) then m - 1 else 0) | d => d) fun d hd => ?_)) ?_
    · obtain ⟨k, hk, rfl⟩ := mem_ints hd
      refine ⟨_, rfl, ?_⟩
      by_cases h : 0 + (k : Int) = (j : Int)
      · simp (disch := first | omega | decide | (simp only [List.length_cons, List.length_nil, List.length_append, List.length_map, List.length_take, List.length_drop]; omega)) only [apC, apV, apVb, ap2, ap1, apB, apN, apX, aptB, aptV, apAnd, apOr, apNot, apeIf, apeAnd, apeOr, apeNot, apTup, apLst, apIt, apIts, apoN, apoS, apSl, ap3, apsN, apSeq, apSet, apOwn, apRet, apEx, apIf, apFrz, apT, apgN, apEnd, apLm, apGet2, apD1, apD2, apBV, wip_nx, wip_rt, wip_er, frz_fz, wipeF_cons, wipeF_nil, lstB_l, List.getElem?_cons_succ, List.getElem?_cons_zero, List.set_cons_succ, List.set_cons_zero, max2_i, min2_i, bindO, bindE, fdiv_s, mod_i, mul_s, mul_s', isi_ii, isi_ib, isi_it, isi_tt, isi_ll, isi_bb, len_l, len_t, len_s, it_l, it_t, mkL0, mkL1, mkL2, mkL3, mkL4, mkL5, mkL6, mkL7, mkL8, mkT0, mkT1, mkT2, mkT3, mkT4, mkT5, mkT6, mkT7, mkT8, add_i, sub_i, lt_i, le_i, gt_i, ge_i, eq_ib, ne_ib, decide_true, decide_false, tru_b, tru_i, tru_n, as_b, tru_l, tru_t, if_true, if_false, Bool.not_true, Bool.not_false, Bool.false_eq_true, list_l, list_t, tup_l, tup_t, endO_rt, endO_nx, endO_er, isNon_n, mkL9, mkL10, mkL11, mkL12, mkL13, mkL14, mkL15, mkL16, apsApp, appO_ok, appO_er, apsTup, tupO_2, tupO_3, negI, sl_t, cut_toD, cut_fromD, List.cons_append, List.nil_append, apRef, refO_ok, dro_fz, dro_un, dro_ow, dro_nil, eq_ib, decide_eq_true h]
        rw [if_pos h]
      · simp (disch := first | omega | decide | (simp only [List.length_cons, List.length_nil, List.length_append, List.length_map, List.length_take, List.length_drop]; omega)) only [apC, apV, apVb, ap2, ap1, apB, apN, apX, aptB, aptV, apAnd, apOr, apNot, apeIf, apeAnd, apeOr, apeNot, apTup, apLst, apIt, apIts, apoN, apoS, apSl, ap3, apsN, apSeq, apSet, apOwn, apRet, apEx, apIf, apFrz, apT, apgN, apEnd, apLm, apGet2, apD1, apD2, apBV, wip_nx, wip_rt, wip_er, frz_fz, wipeF_cons, wipeF_nil, lstB_l, List.getElem?_cons_succ, List.getElem?_cons_zero, List.set_cons_succ, List.set_cons_zero, max2_i, min2_i, bindO, bindE, fdiv_s, mod_i, mul_s, mul_s', isi_ii, isi_ib, isi_it, isi_tt, isi_ll, isi_bb, len_l, len_t, len_s, it_l, it_t, mkL0, mkL1, mkL2, mkL3, mkL4, mkL5, mkL6, mkL7, mkL8, mkT0, mkT1, mkT2, mkT3, mkT4, mkT5, mkT6, mkT7, mkT8, add_i, sub_i, lt_i, le_i, gt_i, ge_i, eq_ib, ne_ib, decide_true, decide_false, tru_b, tru_i, tru_n, as_b, tru_l, tru_t, if_true, if_false, Bool.not_true, Bool.not_false, Bool.false_eq_true, list_l, list_t, tup_l, tup_t, endO_rt, endO_nx, endO_er, isNon_n, mkL9, mkL10, mkL11, mkL12, mkL13, mkL14, mkL15, mkL16, apsApp, appO_ok, appO_er, apsTup, tupO_2, tupO_3, negI, sl_t, cut_toD, cut_fromD, List.cons_append, List.nil_append, apRef, refO_ok, dro_fz, dro_un, dro_ow, dro_nil, eq_ib, decide_eq_false h]
        rw [if_neg h]
    · unfold intsD
      rw [List.map_map]
      congr 1
      refine congrArg D.lst (List.ext_getElem ?_ fun i h1 h2 => ?_)
      · simp
      · simp only [List.length_map, List.length_range] at h1
        simp only [List.getElem_map, List.getElem_range, List.getElem_set, List.getElem_replicate, Function.comp]
        by_cases h : i = j
        · subst h
          simp
        · have h' : ¬ (0 + (i : Int) = (j : Int)) := by omega
          have h'' : ¬ j = i := fun e => h e.symm
          rw [if_neg h', if_neg h'']
  rw [go_w_stack_worst]
  unfold w_stack_worst_S
  simp (disch := first | omega | decide | (simp only [List.length_cons, List.length_nil, List.length_append, List.length_map, List.length_take, List.length_drop]; omega)) only [apC, apV, apVb, ap2, ap1, apB, apN, apX, aptB, aptV, apAnd, apOr, apNot, apeIf, apeAnd, apeOr, apeNot, apTup, apLst, apIt, apIts, apoN, apoS, apSl, ap3, apsN, apSeq, apSet, apOwn, apRet, apEx, apIf, apFrz, apT, apgN, apEnd, apLm, apGet2, apD1, apD2, apBV, wip_nx, wip_rt, wip_er, frz_fz, wipeF_cons, wipeF_nil, lstB_l, List.getElem?_cons_succ, List.getElem?_cons_zero, List.set_cons_succ, List.set_cons_zero, max2_i, min2_i, bindO, bindE, fdiv_s, mod_i, mul_s, mul_s', isi_ii, isi_ib, isi_it, isi_tt, isi_ll, isi_bb, len_l, len_t, len_s, it_l, it_t, mkL0, mkL1, mkL2, mkL3, mkL4, mkL5, mkL6, mkL7, mkL8, mkT0, mkT1, mkT2, mkT3, mkT4, mkT5, mkT6, mkT7, mkT8, add_i, sub_i, lt_i, le_i, gt_i, ge_i, eq_ib, ne_ib, decide_true, decide_false, tru_b, tru_i, tru_n, as_b, tru_l, tru_t, if_true, if_false, Bool.not_true, Bool.not_false, Bool.false_eq_true, list_l, list_t, tup_l, tup_t, endO_rt, endO_nx, endO_er, isNon_n, mkL9, mkL10, mkL11, mkL12, mkL13, mkL14, mkL15, mkL16, apsApp, appO_ok, appO_er, apsTup, tupO_2, tupO_3, negI, sl_t, cut_toD, cut_fromD, List.cons_append, List.nil_append, apRef, refO_ok, dro_fz, dro_un, dro_ow, dro_nil, g, c]
/-- a check of distances -/
def distB (n : Int) (ps : List (Int × Int)) (p : Int) (es : List (Int × Int)) : Bool :=
  decide ((es.map (·.1)).Nodup) && decide ((p, (0 : Int)) ∈ es) && es.all (fun e => decide (0 ≤ e.1) && decide (e.1 < n) && decide (0 ≤ e.2))
    && es.all (fun e => ps.all fun t => (!decide (t.1 = e.1) || es.any fun x => decide (x.1 = t.2) && decide (x.2 ≤ e.2 + 1)) && (!decide (t.2 = e.1) || es.any fun x => decide (x.1 = t.1) && decide (x.2 ≤ e.2 + 1)))
    && es.all (fun e => decide (e = (p, (0 : Int))) || ps.any fun t => (decide (t.2 = e.1) && decide ((t.1, e.2 - 1) ∈ es)) || (decide (t.1 = e.1) && decide ((t.2, e.2 - 1) ∈ es)))
theorem dist_of {n : Int} {ps : List (Int × Int)} {p : Int} {es : List (Int × Int)} (h : distB n ps p es = true) : Dist n ps p es := by
  unfold distB at h
  simp only [Bool.and_eq_true, decide_eq_true_eq, List.all_eq_true, Bool.or_eq_true, Bool.not_eq_true', decide_eq_false_iff_not, List.any_eq_true] at h
  obtain ⟨⟨⟨⟨h1, h2⟩, h3⟩, h4⟩, h5⟩ := h
  refine ⟨h1, h2, fun e he => ⟨(h3 e he).1, (h3 e he).2⟩, fun u d v hm ha => ?_, fun e he => ?_⟩
  · rcases ha with ha | ha
    · rcases (h4 _ hm _ ha).1 with q | ⟨x, hx, q1, q2⟩
      · exact absurd rfl q
      · exact ⟨x.2, by rw [← show x.1 = v from q1]; exact hx, q2⟩
    · rcases (h4 _ hm _ ha).2 with q | ⟨x, hx, q1, q2⟩
      · exact absurd rfl q
      · exact ⟨x.2, by rw [← show x.1 = v from q1]; exact hx, q2⟩
  · rcases h5 e he with q | ⟨t, ht, ⟨q1, q2⟩ | ⟨q1, q2⟩⟩
    · exact .inl q
    · exact .inr ⟨t.1, .inl (by rw [← q1]; exact ht), q2⟩
    · exact .inr ⟨t.2, .inr (by rw [← q1]; exact ht), q2⟩
end PB

namespace K52
open PySem PySem.Spec PyProof.Rows L2 LamX PB
def topS (i : Nat) : Stmt := PySem.Challenge.pw_pebblewebs_k52_stacks.main.body.getD i (.Pass ⟨0, 0, 0, 0⟩)
abbrev st_is_number : Stmt := topS 8
abbrev st_is_tie : Stmt := topS 9
abbrev st_rises : Stmt := topS 10
abbrev st_is_web : Stmt := topS 11
abbrev st_need_web : Stmt := topS 12
abbrev st_need_place : Stmt := topS 13
abbrev st_near : Stmt := topS 14
abbrev st_steps_from : Stmt := topS 15
abbrev st_hangs_together : Stmt := topS 16
abbrev st_is_whole : Stmt := topS 17
abbrev st_need_whole : Stmt := topS 18
abbrev st_good_demands : Stmt := topS 21
abbrev st_need_demands : Stmt := topS 22
abbrev st_stack_of : Stmt := topS 23
abbrev st_stack : Stmt := topS 24
abbrev st_most_stacked : Stmt := topS 25
abbrev st_greatest_stack : Stmt := topS 26
abbrev st_stack_worst : Stmt := topS 27
abbrev st__law_cell_at : Stmt := topS 29
abbrev st__law_draw : Stmt := topS 30
abbrev st__law_whole : Stmt := topS 31
abbrev st__law_turn : Stmt := topS 32
abbrev st__law_tree : Stmt := topS 33
abbrev st__law_web : Stmt := topS 34
abbrev st__law_near : Stmt := topS 35
abbrev st__law_far_from : Stmt := topS 36
abbrev st__law_demands : Stmt := topS 37
abbrev st__law_doubled : Stmt := topS 38
abbrev st_law : Stmt := topS 39
/-- what the top has left -/
structure Fct (K : PySem.W.Frag) (mg : Str → Option Value) (base : Heap) (T : List (Addr × Str)) : Prop where
  d_is_number : ∃ (fa : Addr) (fd : FuncData), mg "is_number" = some (.ref fa) ∧ L2.Fun K "is_number" "is_number" st_is_number fa fd ∧ Binds K fd ["thing", "least", "below"] []
  d_is_tie : ∃ (fa : Addr) (fd : FuncData), mg "is_tie" = some (.ref fa) ∧ L2.Fun K "is_tie" "is_tie" st_is_tie fa fd ∧ Binds K fd ["many", "thing"] []
  d_rises : ∃ (fa : Addr) (fd : FuncData), mg "rises" = some (.ref fa) ∧ L2.Fun K "rises" "rises" st_rises fa fd ∧ Binds K fd ["some"] []
  d_is_web : ∃ (fa : Addr) (fd : FuncData), mg "is_web" = some (.ref fa) ∧ L2.Fun K "is_web" "is_web" st_is_web fa fd ∧ Binds K fd ["thing"] []
  d_need_web : ∃ (fa : Addr) (fd : FuncData), mg "need_web" = some (.ref fa) ∧ L2.Fun K "need_web" "need_web" st_need_web fa fd ∧ Binds K fd ["web"] []
  d_need_place : ∃ (fa : Addr) (fd : FuncData), mg "need_place" = some (.ref fa) ∧ L2.Fun K "need_place" "need_place" st_need_place fa fd ∧ Binds K fd ["web", "place"] []
  d_near : ∃ (fa : Addr) (fd : FuncData), mg "near" = some (.ref fa) ∧ L2.Fun K "near" "near" st_near fa fd ∧ Binds K fd ["web"] []
  d_steps_from : ∃ (fa : Addr) (fd : FuncData), mg "steps_from" = some (.ref fa) ∧ L2.Fun K "steps_from" "steps_from" st_steps_from fa fd ∧ Binds K fd ["web", "place"] []
  d_hangs_together : ∃ (fa : Addr) (fd : FuncData), mg "hangs_together" = some (.ref fa) ∧ L2.Fun K "hangs_together" "hangs_together" st_hangs_together fa fd ∧ Binds K fd ["web"] []
  d_is_whole : ∃ (fa : Addr) (fd : FuncData), mg "is_whole" = some (.ref fa) ∧ L2.Fun K "is_whole" "is_whole" st_is_whole fa fd ∧ Binds K fd ["web"] []
  d_need_whole : ∃ (fa : Addr) (fd : FuncData), mg "need_whole" = some (.ref fa) ∧ L2.Fun K "need_whole" "need_whole" st_need_whole fa fd ∧ Binds K fd ["web"] []
  d_good_demands : ∃ (fa : Addr) (fd : FuncData), mg "good_demands" = some (.ref fa) ∧ L2.Fun K "good_demands" "good_demands" st_good_demands fa fd ∧ Binds K fd ["web", "thing"] []
  d_need_demands : ∃ (fa : Addr) (fd : FuncData), mg "need_demands" = some (.ref fa) ∧ L2.Fun K "need_demands" "need_demands" st_need_demands fa fd ∧ Binds K fd ["web", "demands"] []
  d_stack_of : ∃ (fa : Addr) (fd : FuncData), mg "stack_of" = some (.ref fa) ∧ L2.Fun K "stack_of" "stack_of" st_stack_of fa fd ∧ Binds K fd ["web", "demands", "place"] []
  d_stack : ∃ (fa : Addr) (fd : FuncData), mg "stack" = some (.ref fa) ∧ L2.Fun K "stack" "stack" st_stack fa fd ∧ Binds K fd ["web", "demands", "place"] []
  d_most_stacked : ∃ (fa : Addr) (fd : FuncData), mg "most_stacked" = some (.ref fa) ∧ L2.Fun K "most_stacked" "most_stacked" st_most_stacked fa fd ∧ Binds K fd ["web", "demands"] []
  d_greatest_stack : ∃ (fa : Addr) (fd : FuncData), mg "greatest_stack" = some (.ref fa) ∧ L2.Fun K "greatest_stack" "greatest_stack" st_greatest_stack fa fd ∧ Binds K fd ["web", "demands"] []
  d_stack_worst : ∃ (fa : Addr) (fd : FuncData), mg "stack_worst" = some (.ref fa) ∧ L2.Fun K "stack_worst" "stack_worst" st_stack_worst fa fd ∧ Binds K fd ["web", "demands"] []
  d__law_cell_at : ∃ (fa : Addr) (fd : FuncData), mg "_law_cell_at" = some (.ref fa) ∧ L2.Fun K "_law_cell_at" "_law_cell_at" st__law_cell_at fa fd ∧ Binds K fd ["_law_script", "_law_k"] []
  d__law_draw : ∃ (fa : Addr) (fd : FuncData), mg "_law_draw" = some (.ref fa) ∧ L2.Fun K "_law_draw" "_law_draw" st__law_draw fa fd ∧ Binds K fd ["_law_cell", "_law_k", "_law_bound"] []
  d__law_whole : ∃ (fa : Addr) (fd : FuncData), mg "_law_whole" = some (.ref fa) ∧ L2.Fun K "_law_whole" "_law_whole" st__law_whole fa fd ∧ Binds K fd ["_law_found"] []
  d__law_turn : ∃ (fa : Addr) (fd : FuncData), mg "_law_turn" = some (.ref fa) ∧ L2.Fun K "_law_turn" "_law_turn" st__law_turn fa fd ∧ Binds K fd ["_law_cell", "_law_many"] []
  d__law_tree : ∃ (fa : Addr) (fd : FuncData), mg "_law_tree" = some (.ref fa) ∧ L2.Fun K "_law_tree" "_law_tree" st__law_tree fa fd ∧ Binds K fd ["_law_cell", "_law_most"] []
  d__law_web : ∃ (fa : Addr) (fd : FuncData), mg "_law_web" = some (.ref fa) ∧ L2.Fun K "_law_web" "_law_web" st__law_web fa fd ∧ Binds K fd ["_law_cell", "_law_most"] []
  d__law_near : ∃ (fa : Addr) (fd : FuncData), mg "_law_near" = some (.ref fa) ∧ L2.Fun K "_law_near" "_law_near" st__law_near fa fd ∧ Binds K fd ["_law_web_here", "_law_place"] []
  d__law_far_from : ∃ (fa : Addr) (fd : FuncData), mg "_law_far_from" = some (.ref fa) ∧ L2.Fun K "_law_far_from" "_law_far_from" st__law_far_from fa fd ∧ Binds K fd ["_law_web_here", "_law_place"] []
  d__law_demands : ∃ (fa : Addr) (fd : FuncData), mg "_law_demands" = some (.ref fa) ∧ L2.Fun K "_law_demands" "_law_demands" st__law_demands fa fd ∧ Binds K fd ["_law_cell", "_law_many"] []
  d__law_doubled : ∃ (fa : Addr) (fd : FuncData), mg "_law_doubled" = some (.ref fa) ∧ L2.Fun K "_law_doubled" "_law_doubled" st__law_doubled fa fd ∧ Binds K fd ["_law_many", "_law_times"] []
  d_law : ∃ (fa : Addr) (fd : FuncData), mg "law" = some (.ref fa) ∧ L2.Fun K "law" "law" st_law fa fd ∧ Binds K fd ["_law_script"] []
  b_isinstance : mg "isinstance" = none
  b_int : mg "int" = none
  b_bool : mg "bool" = none
  b_tuple : mg "tuple" = none
  b_len : mg "len" = none
  b_all : mg "all" = none
  b_range : mg "range" = none
  b_sorted : mg "sorted" = none
  b_sum : mg "sum" = none
  b_max : mg "max" = none
  b_min : mg "min" = none
  b_list : mg "list" = none
  e_NoWeb : ExK K mg "NoWeb"
  e_NoPlace : ExK K mg "NoPlace"
  e_NotWhole : ExK K mg "NotWhole"
  e_NoDemands : ExK K mg "NoDemands"
  c_MOST_PLACES : ∃ t, mg "MOST_PLACES" = some (.int 40 t)
  c_MOST_WANTED : ∃ t, mg "MOST_WANTED" = some (.int 1000 t)
section
variable {P : Program} {w : World} {K : PySem.W.Frag} {mg : Str → Option Value} {base : Heap} {T : List (Addr × Str)}
theorem sc_is_number : FnScope ["thing", "least", "below"] ["thing", "least", "below"] (defScope st_is_number) := ⟨rfl, rfl, rfl, by decide +kernel, rfl, by decide +kernel, by decide +kernel⟩
abbrev ns_is_number : List Str := ["thing", "least", "below"]
set_option maxHeartbeats 4000000 in
theorem kn_is_number (F : Fct K mg base T) : Kn P w K mg base T "is_number" 1 3 w_is_number := by
  obtain ⟨fa, fd, hm, Fu, hb⟩ := F.d_is_number
  exact kn_mk (k := 0) Fu sc_is_number hm hb (fun cdv A outer s H E hr =>
    (ss_one (s_ret (p_b (p_and (p_isi F.b_isinstance (b_cons (p_vb 0) (b_cons (p_b (p_ty (by rfl) F.b_int (by decide +kernel))) b_nil))) (p_and (p_not (p_b (p_isi F.b_isinstance (b_cons (p_vb 0) (b_cons (p_b (p_ty (by rfl) F.b_bool (by decide +kernel))) b_nil))))) (p_one (p_chain (r_le hr) s_le (r_lt hr) s_lt (p_vb 1) (p_vb 0) (p_vb 2)))))))))
theorem sc_is_tie : FnScope ["many", "thing", "place"] ["many", "thing"] (defScope st_is_tie) := ⟨rfl, rfl, rfl, by decide +kernel, rfl, by decide +kernel, by decide +kernel⟩
abbrev ns_is_tie : List Str := ["many", "thing", "place"]
set_option maxHeartbeats 4000000 in
theorem kn_is_tie (F : Fct K mg base T) : Kn P w K mg base T "is_tie" 2 2 w_is_tie := by
  obtain ⟨fa, fd, hm, Fu, hb⟩ := F.d_is_tie
  exact kn_mk (k := 1) Fu sc_is_tie hm hb (fun cdv A outer s H E hr =>
    (ss_cons (s_if (t_w (w_or (t_not (t_v (p_b (p_isi F.b_isinstance (b_cons (p_vb 1) (b_cons (p_b (p_ty (by rfl) F.b_tuple (by decide +kernel))) b_nil)))))) (w_or1 (t_ne hr (p_b (p_len F.b_len (b_cons (p_vb 1) b_nil))) (p_b p_int))))) (ss_one (s_ret (p_b p_bl))) ss_nil)
    (ss_one (s_ret (p_b (p_and (p_all F.b_all rfl (b_cons (p_nb (p_lc (own := [("place", 2)]) rfl sc_is_tie.nd (gk_n 2) (i_seq (p_v 1)) (blkOk_by (N := ns_is_tie) (sc := (defScope st_is_tie)) (by decide +kernel)) (fun _ _ _ _ _ => (g_n sc_is_tie.nd)) (fun _ _ _ _ _ => c_nil) (fun _ _ _ _ _ => (p_call ((kn_is_number F).mono (by decide)) hr L2.takes0 (x_cons (p_v 2) (x_cons p_int (x_cons (p_v 0) x_nil))))))) b_nil)) (p_one (p_lt hr (p_b (p_ix hr (p_vb 1) (p_b p_int))) (p_b (p_ix hr (p_vb 1) (p_b p_int)))))))))))
theorem sc_rises : FnScope ["some", "k"] ["some"] (defScope st_rises) := ⟨rfl, rfl, rfl, by decide +kernel, rfl, by decide +kernel, by decide +kernel⟩
abbrev ns_rises : List Str := ["some", "k"]
set_option maxHeartbeats 4000000 in
theorem kn_rises (F : Fct K mg base T) : Kn P w K mg base T "rises" 1 1 w_rises := by
  obtain ⟨fa, fd, hm, Fu, hb⟩ := F.d_rises
  exact kn_mk (k := 0) Fu sc_rises hm hb (fun cdv A outer s H E hr =>
    (ss_one (s_ret (p_b (p_all F.b_all rfl (b_cons (p_nb (p_lc (own := [("k", 1)]) rfl sc_rises.nd (gk_n 1) (i_rng1 F.b_range (b_cons (p_b (p_sub (p_b (p_len F.b_len (b_cons (p_vb 0) b_nil))) (p_b p_int))) b_nil)) (blkOk_by (N := ns_rises) (sc := (defScope st_rises)) (by decide +kernel)) (fun _ _ _ _ _ => (g_n sc_rises.nd)) (fun _ _ _ _ _ => c_nil) (fun _ _ _ _ _ => (p_lt hr (p_b (p_ix hr (p_vb 0) (p_vb 1))) (p_b (p_ix hr (p_vb 0) (p_b (p_add (p_vb 1) (p_b p_int))))))))) b_nil))))))
theorem sc_is_web : FnScope ["thing", "tie"] ["thing"] (defScope st_is_web) := ⟨rfl, rfl, rfl, by decide +kernel, rfl, by decide +kernel, by decide +kernel⟩
abbrev ns_is_web : List Str := ["thing", "tie"]
set_option maxHeartbeats 4000000 in
theorem kn_is_web (F : Fct K mg base T) : Kn P w K mg base T "is_web" 3 1 w_is_web := by
  obtain ⟨fa, fd, hm, Fu, hb⟩ := F.d_is_web
  exact kn_mk (k := 2) Fu sc_is_web hm hb (fun cdv A outer s H E hr =>
    (ss_cons (s_if (t_w (w_or (t_not (t_v (p_b (p_isi F.b_isinstance (b_cons (p_vb 0) (b_cons (p_b (p_ty (by rfl) F.b_tuple (by decide +kernel))) b_nil)))))) (w_or (t_ne hr (p_b (p_len F.b_len (b_cons (p_vb 0) b_nil))) (p_b p_int)) (w_or1 (t_not (t_v (p_b (p_call ((kn_is_number F).mono (by decide)) hr (takes_of rfl rfl rfl rfl) (x_cons (p_ix hr (p_vb 0) (p_b p_int)) (x_cons p_int (x_cons (p_add (p_b (p_gint' (by rfl) F.c_MOST_PLACES)) (p_b p_int)) x_nil))))))))))) (ss_one (s_ret (p_b p_bl))) ss_nil)
    (ss_cons (s_if (t_w (w_or (t_not (t_v (p_b (p_isi F.b_isinstance (b_cons (p_b (p_ix hr (p_vb 0) (p_b p_int))) (b_cons (p_b (p_ty (by rfl) F.b_tuple (by decide +kernel))) b_nil)))))) (w_or1 (t_not (t_v (p_b (p_all F.b_all rfl (b_cons (p_nb (p_lc (own := [("tie", 1)]) rfl sc_is_web.nd (gk_n 1) (i_seq (p_ix hr (p_vb 0) (p_b p_int))) (blkOk_by (N := ns_is_web) (sc := (defScope st_is_web)) (by decide +kernel)) (fun _ _ _ _ _ => (g_n sc_is_web.nd)) (fun _ _ _ _ _ => c_nil) (fun _ _ _ _ _ => (p_call ((kn_is_tie F).mono (by decide)) hr L2.takes0 (x_cons (p_ix hr (p_vb 0) (p_b p_int)) (x_cons (p_v 1) x_nil)))))) b_nil)))))))) (ss_one (s_ret (p_b p_bl))) ss_nil)
    (ss_one (s_ret (p_b (p_call ((kn_rises F).mono (by decide)) hr (takes_of rfl rfl rfl rfl) (x_cons (p_ix hr (p_vb 0) (p_b p_int)) x_nil))))))))
theorem sc_need_web : FnScope ["web"] ["web"] (defScope st_need_web) := ⟨rfl, rfl, rfl, by decide +kernel, rfl, by decide +kernel, by decide +kernel⟩
abbrev ns_need_web : List Str := ["web"]
set_option maxHeartbeats 4000000 in
theorem kn_need_web (F : Fct K mg base T) : Kn P w K mg base T "need_web" 4 1 w_need_web := by
  obtain ⟨fa, fd, hm, Fu, hb⟩ := F.d_need_web
  exact kn_mk (k := 3) Fu sc_need_web hm hb (fun cdv A outer s H E hr =>
    (ss_one (s_if (t_not (t_v (p_b (p_call ((kn_is_web F).mono (by decide)) hr (takes_of rfl rfl rfl rfl) (x_cons (p_v 0) x_nil))))) (ss_one (s_raise F.e_NoWeb rfl (takes_of rfl rfl rfl rfl))) ss_nil)))
theorem sc_need_place : FnScope ["web", "place"] ["web", "place"] (defScope st_need_place) := ⟨rfl, rfl, rfl, by decide +kernel, rfl, by decide +kernel, by decide +kernel⟩
abbrev ns_need_place : List Str := ["web", "place"]
set_option maxHeartbeats 4000000 in
theorem kn_need_place (F : Fct K mg base T) : Kn P w K mg base T "need_place" 2 2 w_need_place := by
  obtain ⟨fa, fd, hm, Fu, hb⟩ := F.d_need_place
  exact kn_mk (k := 1) Fu sc_need_place hm hb (fun cdv A outer s H E hr =>
    (ss_one (s_if (t_not (t_v (p_b (p_call ((kn_is_number F).mono (by decide)) hr (takes_of rfl rfl rfl rfl) (x_cons (p_v 1) (x_cons p_int (x_cons (p_ix hr (p_vb 0) (p_b p_int)) x_nil))))))) (ss_one (s_raise F.e_NoPlace rfl (takes_of rfl rfl rfl rfl))) ss_nil)))
theorem sc_near : FnScope ["web", "found", "place", "one", "other", "some"] ["web"] (defScope st_near) := ⟨rfl, rfl, rfl, by decide +kernel, rfl, by decide +kernel, by decide +kernel⟩
abbrev ns_near : List Str := ["web", "found", "place", "one", "other", "some"]
set_option maxHeartbeats 4000000 in
theorem kn_near (F : Fct K mg base T) : Kn P w K mg base T "near" 1 1 w_near := by
  obtain ⟨fa, fd, hm, Fu, hb⟩ := F.d_near
  exact kn_mk (k := 0) Fu sc_near hm hb (fun cdv A outer s H E hr =>
    (ss_cons (s_lcM (own := [("place", 2)]) rfl sc_near.nd (gk_n 2) (i_rng1 F.b_range (b_cons (p_b (p_ix hr (p_vb 0) (p_b p_int))) b_nil)) (blkOk_by (N := ns_near) (sc := (defScope st_near)) (by decide +kernel)) (fun _ _ _ _ _ => (g_n sc_near.nd)) (fun _ _ _ _ _ => c_nil) (fun _ _ _ _ _ => (p_lst x_nil)))
    (ss_cons (s_for (passes_of rfl) rfl (i_seq (p_ix hr (p_vb 0) (p_b p_int))) (g_t rfl (gs_cons (g_n sc_near.nd) (gs_cons (g_n sc_near.nd) gs_nil))) (ss_end [3, 4] (ss_cons (s_appM 1 3 4)
    (ss_one (s_appM 1 4 3)))))
    (ss_frz 1 (ss_one (s_ret (p_nb (p_lc (own := [("some", 5)]) rfl sc_near.nd (gk_n 5) (i_seq (p_v 1)) (blkOk_by (N := ns_near) (sc := (defScope st_near)) (by decide +kernel)) (fun _ _ _ _ _ => (g_n sc_near.nd)) (fun _ _ _ _ _ => c_nil) (fun _ _ _ _ _ => (p_f (p_sorted F.b_sorted hr (b_cons (p_vb 5) b_nil))))))))))))
theorem sc_steps_from : FnScope ["web", "place", "beside", "found", "order", "at", "other"] ["web", "place"] (defScope st_steps_from) := ⟨rfl, rfl, rfl, by decide +kernel, rfl, by decide +kernel, by decide +kernel⟩
abbrev ns_steps_from : List Str := ["web", "place", "beside", "found", "order", "at", "other"]
set_option maxHeartbeats 4000000 in
theorem kn_steps_from (F : Fct K mg base T) : Kn P w K mg base T "steps_from" 2 2 w_steps_from := by
  obtain ⟨fa, fd, hm, Fu, hb⟩ := F.d_steps_from
  exact kn_mk (k := 1) Fu sc_steps_from hm hb (fun cdv A outer s H E hr =>
    (ss_cons (s_set sc_steps_from.nd (p_call ((kn_near F).mono (by decide)) hr (takes_of rfl rfl rfl rfl) (x_cons (p_v 0) x_nil)))
    (ss_cons (s_own sc_steps_from.nd (p_d1 (p_v 1) p_int))
    (ss_cons (s_own sc_steps_from.nd (p_lst (x_cons (p_v 1) x_nil)))
    (ss_cons (s_set sc_steps_from.nd p_int)
    (ss_cons (s_while (passes_of rfl) (t_lt hr (p_vb 5) (p_b (p_len F.b_len (b_cons (p_vb 4) b_nil)))) (ss_end [6] (ss_cons (s_for (passes_of rfl) rfl (i_seq (p_ix hr (p_vb 2) (p_b (p_ix hr (p_vb 4) (p_vb 5))))) (g_n sc_steps_from.nd) (ss_end [6] (ss_one (s_if (t_notin hr (p_vb 6) (p_vb 3) (by rfl)) (ss_cons (s_setK 3 hr (p_vb 6) (p_add (p_b (p_ix hr (p_vb 3) (p_b (p_ix hr (p_vb 4) (p_vb 5))))) (p_b p_int)))
    (ss_one (s_app 4 (p_v 6)))) ss_nil))))
    (ss_one (s_set sc_steps_from.nd (p_add (p_vb 5) (p_b p_int)))))))
    (ss_one (s_ret (p_vb 3)))))))))
theorem sc_hangs_together : FnScope ["web"] ["web"] (defScope st_hangs_together) := ⟨rfl, rfl, rfl, by decide +kernel, rfl, by decide +kernel, by decide +kernel⟩
abbrev ns_hangs_together : List Str := ["web"]
set_option maxHeartbeats 4000000 in
theorem kn_hangs_together (F : Fct K mg base T) : Kn P w K mg base T "hangs_together" 3 1 w_hangs_together := by
  obtain ⟨fa, fd, hm, Fu, hb⟩ := F.d_hangs_together
  exact kn_mk (k := 2) Fu sc_hangs_together hm hb (fun cdv A outer s H E hr =>
    (ss_one (s_ret (p_b (p_eq hr (p_b (p_len F.b_len (b_cons (p_b (p_call ((kn_steps_from F).mono (by decide)) hr (takes_of rfl rfl rfl rfl) (x_cons (p_v 0) (x_cons p_int x_nil)))) b_nil))) (p_b (p_ix hr (p_vb 0) (p_b p_int))))))))
theorem sc_is_whole : FnScope ["web"] ["web"] (defScope st_is_whole) := ⟨rfl, rfl, rfl, by decide +kernel, rfl, by decide +kernel, by decide +kernel⟩
abbrev ns_is_whole : List Str := ["web"]
set_option maxHeartbeats 4000000 in
theorem kn_is_whole (F : Fct K mg base T) : Kn P w K mg base T "is_whole" 5 1 w_is_whole := by
  obtain ⟨fa, fd, hm, Fu, hb⟩ := F.d_is_whole
  exact kn_mk (k := 4) Fu sc_is_whole hm hb (fun cdv A outer s H E hr =>
    (ss_cons (s_expr (p_b (p_call ((kn_need_web F).mono (by decide)) hr (takes_of rfl rfl rfl rfl) (x_cons (p_v 0) x_nil))))
    (ss_one (s_ret (p_b (p_call ((kn_hangs_together F).mono (by decide)) hr (takes_of rfl rfl rfl rfl) (x_cons (p_v 0) x_nil)))))))
theorem sc_need_whole : FnScope ["web"] ["web"] (defScope st_need_whole) := ⟨rfl, rfl, rfl, by decide +kernel, rfl, by decide +kernel, by decide +kernel⟩
abbrev ns_need_whole : List Str := ["web"]
set_option maxHeartbeats 4000000 in
theorem kn_need_whole (F : Fct K mg base T) : Kn P w K mg base T "need_whole" 6 1 w_need_whole := by
  obtain ⟨fa, fd, hm, Fu, hb⟩ := F.d_need_whole
  exact kn_mk (k := 5) Fu sc_need_whole hm hb (fun cdv A outer s H E hr =>
    (ss_one (s_if (t_not (t_v (p_b (p_call ((kn_is_whole F).mono (by decide)) hr (takes_of rfl rfl rfl rfl) (x_cons (p_v 0) x_nil))))) (ss_one (s_raise F.e_NotWhole rfl (takes_of rfl rfl rfl rfl))) ss_nil)))
theorem sc_good_demands : FnScope ["web", "thing", "one"] ["web", "thing"] (defScope st_good_demands) := ⟨rfl, rfl, rfl, by decide +kernel, rfl, by decide +kernel, by decide +kernel⟩
abbrev ns_good_demands : List Str := ["web", "thing", "one"]
set_option maxHeartbeats 4000000 in
theorem kn_good_demands (F : Fct K mg base T) : Kn P w K mg base T "good_demands" 2 2 w_good_demands := by
  obtain ⟨fa, fd, hm, Fu, hb⟩ := F.d_good_demands
  exact kn_mk (k := 1) Fu sc_good_demands hm hb (fun cdv A outer s H E hr =>
    (ss_cons (s_if (t_w (w_or (t_not (t_v (p_b (p_isi F.b_isinstance (b_cons (p_vb 1) (b_cons (p_b (p_ty (by rfl) F.b_tuple (by decide +kernel))) b_nil)))))) (w_or1 (t_ne hr (p_b (p_len F.b_len (b_cons (p_vb 1) b_nil))) (p_b (p_ix hr (p_vb 0) (p_b p_int))))))) (ss_one (s_ret (p_b p_bl))) ss_nil)
    (ss_one (s_ret (p_b (p_all F.b_all rfl (b_cons (p_nb (p_lc (own := [("one", 2)]) rfl sc_good_demands.nd (gk_n 2) (i_seq (p_v 1)) (blkOk_by (N := ns_good_demands) (sc := (defScope st_good_demands)) (by decide +kernel)) (fun _ _ _ _ _ => (g_n sc_good_demands.nd)) (fun _ _ _ _ _ => c_nil) (fun _ _ _ _ _ => (p_call ((kn_is_number F).mono (by decide)) hr L2.takes0 (x_cons (p_v 2) (x_cons p_int (x_cons (p_add (p_b (p_gint' (by rfl) F.c_MOST_WANTED)) (p_b p_int)) x_nil))))))) b_nil)))))))
theorem sc_need_demands : FnScope ["web", "demands"] ["web", "demands"] (defScope st_need_demands) := ⟨rfl, rfl, rfl, by decide +kernel, rfl, by decide +kernel, by decide +kernel⟩
abbrev ns_need_demands : List Str := ["web", "demands"]
set_option maxHeartbeats 4000000 in
theorem kn_need_demands (F : Fct K mg base T) : Kn P w K mg base T "need_demands" 3 2 w_need_demands := by
  obtain ⟨fa, fd, hm, Fu, hb⟩ := F.d_need_demands
  exact kn_mk (k := 2) Fu sc_need_demands hm hb (fun cdv A outer s H E hr =>
    (ss_one (s_if (t_not (t_v (p_b (p_call ((kn_good_demands F).mono (by decide)) hr (takes_of rfl rfl rfl rfl) (x_cons (p_v 0) (x_cons (p_v 1) x_nil)))))) (ss_one (s_raise F.e_NoDemands rfl (takes_of rfl rfl rfl rfl))) ss_nil)))
theorem sc_stack_of : FnScope ["web", "demands", "place", "steps", "other"] ["web", "demands", "place"] (defScope st_stack_of) := ⟨rfl, rfl, rfl, by decide +kernel, rfl, by decide +kernel, by decide +kernel⟩
abbrev ns_stack_of : List Str := ["web", "demands", "place", "steps", "other"]
set_option maxHeartbeats 4000000 in
theorem kn_stack_of (F : Fct K mg base T) : Kn P w K mg base T "stack_of" 3 3 w_stack_of := by
  obtain ⟨fa, fd, hm, Fu, hb⟩ := F.d_stack_of
  exact kn_mk (k := 2) Fu sc_stack_of hm hb (fun cdv A outer s H E hr =>
    (ss_cons (s_set sc_stack_of.nd (p_call ((kn_steps_from F).mono (by decide)) hr (takes_of rfl rfl rfl rfl) (x_cons (p_v 0) (x_cons (p_v 2) x_nil))))
    (ss_one (s_ret (p_b (p_sum F.b_sum rfl (b_cons (p_nb (p_lc (own := [("other", 4)]) rfl sc_stack_of.nd (gk_n 4) (i_rng1 F.b_range (b_cons (p_b (p_ix hr (p_vb 0) (p_b p_int))) b_nil)) (blkOk_by (N := ns_stack_of) (sc := (defScope st_stack_of)) (by decide +kernel)) (fun _ _ _ _ _ => (g_n sc_stack_of.nd)) (fun _ _ _ _ _ => c_nil) (fun _ _ _ _ _ => (p_shl (p_b (p_ix hr (p_vb 1) (p_vb 4))) (p_b (p_ix hr (p_vb 3) (p_vb 4))))))) b_nil)))))))
theorem sc_stack : FnScope ["web", "demands", "place"] ["web", "demands", "place"] (defScope st_stack) := ⟨rfl, rfl, rfl, by decide +kernel, rfl, by decide +kernel, by decide +kernel⟩
abbrev ns_stack : List Str := ["web", "demands", "place"]
set_option maxHeartbeats 4000000 in
theorem kn_stack (F : Fct K mg base T) : Kn P w K mg base T "stack" 7 3 w_stack := by
  obtain ⟨fa, fd, hm, Fu, hb⟩ := F.d_stack
  exact kn_mk (k := 6) Fu sc_stack hm hb (fun cdv A outer s H E hr =>
    (ss_cons (s_expr (p_b (p_call ((kn_need_whole F).mono (by decide)) hr (takes_of rfl rfl rfl rfl) (x_cons (p_v 0) x_nil))))
    (ss_cons (s_expr (p_b (p_call ((kn_need_demands F).mono (by decide)) hr (takes_of rfl rfl rfl rfl) (x_cons (p_v 0) (x_cons (p_v 1) x_nil)))))
    (ss_cons (s_expr (p_b (p_call ((kn_need_place F).mono (by decide)) hr (takes_of rfl rfl rfl rfl) (x_cons (p_v 0) (x_cons (p_v 2) x_nil)))))
    (ss_one (s_ret (p_b (p_call ((kn_stack_of F).mono (by decide)) hr (takes_of rfl rfl rfl rfl) (x_cons (p_v 0) (x_cons (p_v 1) (x_cons (p_v 2) x_nil)))))))))))
theorem sc_most_stacked : FnScope ["web", "demands", "stacks", "place"] ["web", "demands"] (defScope st_most_stacked) := ⟨rfl, rfl, rfl, by decide +kernel, rfl, by decide +kernel, by decide +kernel⟩
abbrev ns_most_stacked : List Str := ["web", "demands", "stacks", "place"]
set_option maxHeartbeats 4000000 in
theorem kn_most_stacked (F : Fct K mg base T) : Kn P w K mg base T "most_stacked" 4 2 w_most_stacked := by
  obtain ⟨fa, fd, hm, Fu, hb⟩ := F.d_most_stacked
  exact kn_mk (k := 3) Fu sc_most_stacked hm hb (fun cdv A outer s H E hr =>
    (ss_cons (s_lcF (own := [("place", 3)]) rfl sc_most_stacked.nd (gk_n 3) (i_rng1 F.b_range (b_cons (p_b (p_ix hr (p_vb 0) (p_b p_int))) b_nil)) (blkOk_by (N := ns_most_stacked) (sc := (defScope st_most_stacked)) (by decide +kernel)) (fun _ _ _ _ _ => (g_n sc_most_stacked.nd)) (fun _ _ _ _ _ => c_nil) (fun _ _ _ _ _ => (p_call ((kn_stack_of F).mono (by decide)) hr L2.takes0 (x_cons (p_v 0) (x_cons (p_v 1) (x_cons (p_v 3) x_nil))))))
    (ss_one (s_ret (p_b (p_tup (x_cons (p_max F.b_max rfl (b_cons (p_vb 2) b_nil)) (x_cons (p_idx (p_vb 2) (p_max F.b_max rfl (b_cons (p_vb 2) b_nil))) x_nil))))))))
theorem sc_greatest_stack : FnScope ["web", "demands"] ["web", "demands"] (defScope st_greatest_stack) := ⟨rfl, rfl, rfl, by decide +kernel, rfl, by decide +kernel, by decide +kernel⟩
abbrev ns_greatest_stack : List Str := ["web", "demands"]
set_option maxHeartbeats 4000000 in
theorem kn_greatest_stack (F : Fct K mg base T) : Kn P w K mg base T "greatest_stack" 7 2 w_greatest_stack := by
  obtain ⟨fa, fd, hm, Fu, hb⟩ := F.d_greatest_stack
  exact kn_mk (k := 6) Fu sc_greatest_stack hm hb (fun cdv A outer s H E hr =>
    (ss_cons (s_expr (p_b (p_call ((kn_need_whole F).mono (by decide)) hr (takes_of rfl rfl rfl rfl) (x_cons (p_v 0) x_nil))))
    (ss_cons (s_expr (p_b (p_call ((kn_need_demands F).mono (by decide)) hr (takes_of rfl rfl rfl rfl) (x_cons (p_v 0) (x_cons (p_v 1) x_nil)))))
    (ss_one (s_ret (p_b (p_call ((kn_most_stacked F).mono (by decide)) hr (takes_of rfl rfl rfl rfl) (x_cons (p_v 0) (x_cons (p_v 1) x_nil)))))))))
theorem sc_stack_worst : FnScope ["web", "demands", "many", "place", "other"] ["web", "demands"] (defScope st_stack_worst) := ⟨rfl, rfl, rfl, by decide +kernel, rfl, by decide +kernel, by decide +kernel⟩
abbrev ns_stack_worst : List Str := ["web", "demands", "many", "place", "other"]
set_option maxHeartbeats 4000000 in
theorem kn_stack_worst (F : Fct K mg base T) : Kn P w K mg base T "stack_worst" 8 2 w_stack_worst := by
  obtain ⟨fa, fd, hm, Fu, hb⟩ := F.d_stack_worst
  exact kn_mk (k := 7) Fu sc_stack_worst hm hb (fun cdv A outer s H E hr =>
    (ss_cons (s_tup (g_t rfl (gs_cons (g_n sc_stack_worst.nd) (gs_cons (g_n sc_stack_worst.nd) gs_nil))) (p_call ((kn_greatest_stack F).mono (by decide)) hr (takes_of rfl rfl rfl rfl) (x_cons (p_v 0) (x_cons (p_v 1) x_nil))))
    (ss_one (s_ret (p_b (p_tuple F.b_tuple (b_cons (p_nb (p_lc (own := [("other", 4)]) rfl sc_stack_worst.nd (gk_n 4) (i_rng1 F.b_range (b_cons (p_b (p_ix hr (p_vb 0) (p_b p_int))) b_nil)) (blkOk_by (N := ns_stack_worst) (sc := (defScope st_stack_worst)) (by decide +kernel)) (fun _ _ _ _ _ => (g_n sc_stack_worst.nd)) (fun _ _ _ _ _ => c_nil) (fun _ _ _ _ _ => (p_if (t_eq hr (p_vb 4) (p_vb 3)) (p_sub (p_vb 2) (p_b p_int)) p_int)))) b_nil)))))))
theorem sc__law_cell_at : FnScope ["_law_script", "_law_k"] ["_law_script", "_law_k"] (defScope st__law_cell_at) := ⟨rfl, rfl, rfl, by decide +kernel, rfl, by decide +kernel, by decide +kernel⟩
abbrev ns__law_cell_at : List Str := ["_law_script", "_law_k"]
set_option maxHeartbeats 4000000 in
theorem kn__law_cell_at (F : Fct K mg base T) : Kn P w K mg base T "_law_cell_at" 1 2 w_law_cell_at := by
  obtain ⟨fa, fd, hm, Fu, hb⟩ := F.d__law_cell_at
  exact kn_mk (k := 0) Fu sc__law_cell_at hm hb (fun cdv A outer s H E hr =>
    (ss_cons (s_if (t_lt hr (p_vb 1) (p_b (p_len F.b_len (b_cons (p_vb 0) b_nil)))) (ss_one (s_ret (p_b (p_ix hr (p_vb 0) (p_vb 1))))) ss_nil)
    (ss_one (s_ret (p_b p_int)))))
theorem sc__law_draw : FnScope ["_law_cell", "_law_k", "_law_bound", "_law_left", "_law_j", "_law_stir"] ["_law_cell", "_law_k", "_law_bound"] (defScope st__law_draw) := ⟨rfl, rfl, rfl, by decide +kernel, rfl, by decide +kernel, by decide +kernel⟩
abbrev ns__law_draw : List Str := ["_law_cell", "_law_k", "_law_bound", "_law_left", "_law_j", "_law_stir"]
set_option maxHeartbeats 4000000 in
theorem kn__law_draw (F : Fct K mg base T) : Kn P w K mg base T "_law_draw" 1 3 w_law_draw_v2 := by
  obtain ⟨fa, fd, hm, Fu, hb⟩ := F.d__law_draw
  exact kn_mk (k := 0) Fu sc__law_draw hm hb (fun cdv A outer s H E hr =>
    (ss_cons (s_if (t_ge (p_vb 0) (p_b (p_pow (p_b p_int) (p_b p_int)))) (ss_cons (s_set sc__law_draw.nd (p_v 0))
    (ss_cons (s_for (passes_of rfl) rfl (i_rng1 F.b_range (b_cons (p_vb 1) b_nil)) (g_n sc__law_draw.nd) (ss_end [4] (ss_one (s_set sc__law_draw.nd (p_fdiv (p_vb 3) (p_vb 2))))))
    (ss_one (s_ret (p_b (p_mod (p_vb 3) (p_vb 2))))))) ss_nil)
    (ss_cons (s_set sc__law_draw.nd (p_mod (p_b (p_mul (p_b (p_add (p_b (p_add (p_b (p_mod (p_vb 0) (p_b p_int))) (p_b (p_mul (p_b p_int) (p_vb 1))))) (p_b p_int))) (p_b p_int))) (p_b p_int)))
    (ss_cons (s_set sc__law_draw.nd (p_mod (p_b (p_add (p_b (p_add (p_b (p_mul (p_vb 5) (p_vb 5))) (p_b (p_mul (p_b p_int) (p_vb 1))))) (p_b p_int))) (p_b p_int)))
    (ss_one (s_ret (p_b (p_mod (p_b (p_fdiv (p_b (p_mod (p_b (p_mul (p_vb 5) (p_b p_int))) (p_b p_int))) (p_b p_int))) (p_vb 2)))))))))
theorem sc__law_whole : FnScope ["_law_found"] ["_law_found"] (defScope st__law_whole) := ⟨rfl, rfl, rfl, by decide +kernel, rfl, by decide +kernel, by decide +kernel⟩
abbrev ns__law_whole : List Str := ["_law_found"]
set_option maxHeartbeats 4000000 in
theorem kn__law_whole (F : Fct K mg base T) : Kn P w K mg base T "_law_whole" 1 1 w_law_whole_v2 := by
  obtain ⟨fa, fd, hm, Fu, hb⟩ := F.d__law_whole
  exact kn_mk (k := 0) Fu sc__law_whole hm hb (fun cdv A outer s H E hr =>
    (ss_one (s_ret (p_b (p_and (p_isi F.b_isinstance (b_cons (p_vb 0) (b_cons (p_b (p_ty (by rfl) F.b_int (by decide +kernel))) b_nil))) (p_one (p_not (p_b (p_isi F.b_isinstance (b_cons (p_vb 0) (b_cons (p_b (p_ty (by rfl) F.b_bool (by decide +kernel))) b_nil)))))))))))
theorem sc__law_turn : FnScope ["_law_cell", "_law_many", "_law_found", "_law_place"] ["_law_cell", "_law_many"] (defScope st__law_turn) := ⟨rfl, rfl, rfl, by decide +kernel, rfl, by decide +kernel, by decide +kernel⟩
abbrev ns__law_turn : List Str := ["_law_cell", "_law_many", "_law_found", "_law_place"]
set_option maxHeartbeats 4000000 in
theorem kn__law_turn (F : Fct K mg base T) : Kn P w K mg base T "_law_turn" 2 2 w_law_turn := by
  obtain ⟨fa, fd, hm, Fu, hb⟩ := F.d__law_turn
  exact kn_mk (k := 1) Fu sc__law_turn hm hb (fun cdv A outer s H E hr =>
    (ss_cons (s_own sc__law_turn.nd (p_lst x_nil))
    (ss_cons (s_for (passes_of rfl) rfl (i_rng1 F.b_range (b_cons (p_vb 1) b_nil)) (g_n sc__law_turn.nd) (ss_end [3] (ss_one (s_ins 2 (p_call ((kn__law_draw F).mono (by decide)) hr (takes_of rfl rfl rfl rfl) (x_cons (p_v 0) (x_cons (p_add (p_b p_int) (p_vb 3)) (x_cons (p_add (p_vb 3) (p_b p_int)) x_nil)))) (p_v 3)))))
    (ss_one (s_ret (p_vb 2))))))
theorem sc__law_tree : FnScope ["_law_cell", "_law_most", "_law_many", "_law_kind", "_law_order", "_law_ties", "_law_k", "_law_upper"] ["_law_cell", "_law_most"] (defScope st__law_tree) := ⟨rfl, rfl, rfl, by decide +kernel, rfl, by decide +kernel, by decide +kernel⟩
abbrev ns__law_tree : List Str := ["_law_cell", "_law_most", "_law_many", "_law_kind", "_law_order", "_law_ties", "_law_k", "_law_upper"]
set_option maxHeartbeats 4000000 in
theorem kn__law_tree (F : Fct K mg base T) : Kn P w K mg base T "_law_tree" 3 2 w_law_tree_v2 := by
  obtain ⟨fa, fd, hm, Fu, hb⟩ := F.d__law_tree
  exact kn_mk (k := 2) Fu sc__law_tree hm hb (fun cdv A outer s H E hr =>
    (ss_cons (s_set sc__law_tree.nd (p_add (p_b p_int) (p_b (p_call ((kn__law_draw F).mono (by decide)) hr (takes_of rfl rfl rfl rfl) (x_cons (p_v 0) (x_cons p_int (x_cons (p_v 1) x_nil)))))))
    (ss_cons (s_set sc__law_tree.nd (p_call ((kn__law_draw F).mono (by decide)) hr (takes_of rfl rfl rfl rfl) (x_cons (p_v 0) (x_cons p_int (x_cons p_int x_nil)))))
    (ss_cons (s_set sc__law_tree.nd (p_call ((kn__law_turn F).mono (by decide)) hr (takes_of rfl rfl rfl rfl) (x_cons (p_v 0) (x_cons (p_v 2) x_nil))))
    (ss_cons (s_own sc__law_tree.nd (p_lst x_nil))
    (ss_cons (s_for (passes_of rfl) rfl (i_rng2 F.b_range (b_cons (p_b p_int) (b_cons (p_vb 2) b_nil))) (g_n sc__law_tree.nd) (ss_end [6, 7] (ss_cons (s_set sc__law_tree.nd (p_ix hr (p_nb (p_lst (x_cons (p_sub (p_vb 6) (p_b p_int)) (x_cons p_int (x_cons (p_call ((kn__law_draw F).mono (by decide)) hr (takes_of rfl rfl rfl rfl) (x_cons (p_v 0) (x_cons (p_add (p_b p_int) (p_vb 6)) (x_cons (p_v 6) x_nil)))) (x_cons (p_max2 F.b_max rfl (b_cons (p_b p_int) (b_cons (p_b (p_sub (p_b (p_sub (p_vb 6) (p_b p_int))) (p_b (p_call ((kn__law_draw F).mono (by decide)) hr (takes_of rfl rfl rfl rfl) (x_cons (p_v 0) (x_cons (p_add (p_b p_int) (p_vb 6)) (x_cons p_int x_nil))))))) b_nil))) (x_cons (p_fdiv (p_vb 6) (p_b p_int)) x_nil))))))) (p_vb 3)))
    (ss_one (s_app 5 (p_tup (x_cons (p_min2 F.b_min rfl (b_cons (p_b (p_ix hr (p_vb 4) (p_vb 6))) (b_cons (p_b (p_ix hr (p_vb 4) (p_vb 7))) b_nil))) (x_cons (p_max2 F.b_max rfl (b_cons (p_b (p_ix hr (p_vb 4) (p_vb 6))) (b_cons (p_b (p_ix hr (p_vb 4) (p_vb 7))) b_nil))) x_nil))))))))
    (ss_one (s_ret (p_b (p_tup (x_cons (p_v 2) (x_cons (p_tuple F.b_tuple (b_cons (p_nb (p_sorted F.b_sorted hr (b_cons (p_vb 5) b_nil))) b_nil)) x_nil))))))))))))
theorem sc__law_web : FnScope ["_law_cell", "_law_most", "_law_many", "_law_ties", "_law_thick", "_law_found", "_law_spot", "_law_one", "_law_other"] ["_law_cell", "_law_most"] (defScope st__law_web) := ⟨rfl, rfl, rfl, by decide +kernel, rfl, by decide +kernel, by decide +kernel⟩
abbrev ns__law_web : List Str := ["_law_cell", "_law_most", "_law_many", "_law_ties", "_law_thick", "_law_found", "_law_spot", "_law_one", "_law_other"]
set_option maxHeartbeats 4000000 in
theorem kn__law_web (F : Fct K mg base T) : Kn P w K mg base T "_law_web" 4 2 w_law_web_v2 := by
  obtain ⟨fa, fd, hm, Fu, hb⟩ := F.d__law_web
  exact kn_mk (k := 3) Fu sc__law_web hm hb (fun cdv A outer s H E hr =>
    (ss_cons (s_tup (g_t rfl (gs_cons (g_n sc__law_web.nd) (gs_cons (g_n sc__law_web.nd) gs_nil))) (p_call ((kn__law_tree F).mono (by decide)) hr (takes_of rfl rfl rfl rfl) (x_cons (p_v 0) (x_cons (p_v 1) x_nil))))
    (ss_cons (s_set sc__law_web.nd (p_ix hr (p_nb (p_lst (x_cons p_int (x_cons p_int (x_cons p_int (x_cons p_int (x_cons p_int x_nil))))))) (p_b (p_call ((kn__law_draw F).mono (by decide)) hr (takes_of rfl rfl rfl rfl) (x_cons (p_v 0) (x_cons p_int (x_cons p_int x_nil)))))))
    (ss_cons (s_own sc__law_web.nd (p_list F.b_list (b_cons (p_vb 3) b_nil)))
    (ss_cons (s_set sc__law_web.nd p_int)
    (ss_cons (s_for (passes_of rfl) rfl (i_rng1 F.b_range (b_cons (p_vb 2) b_nil)) (g_n sc__law_web.nd) (ss_end [7, 8] (ss_one (s_for (passes_of rfl) rfl (i_rng2 F.b_range (b_cons (p_b (p_add (p_vb 7) (p_b p_int))) (b_cons (p_vb 2) b_nil))) (g_n sc__law_web.nd) (ss_end [8] (ss_cons (s_set sc__law_web.nd (p_add (p_vb 6) (p_b p_int)))
    (ss_one (s_if (t_w (w_and (t_notin hr (p_b (p_tup (x_cons (p_v 7) (x_cons (p_v 8) x_nil)))) (p_vb 3) (by rfl)) (w_and1 (t_lt hr (p_b (p_call ((kn__law_draw F).mono (by decide)) hr (takes_of rfl rfl rfl rfl) (x_cons (p_v 0) (x_cons (p_add (p_b p_int) (p_b (p_mod (p_vb 6) (p_b p_int)))) (x_cons p_int x_nil))))) (p_vb 4))))) (ss_one (s_app 5 (p_tup (x_cons (p_v 7) (x_cons (p_v 8) x_nil))))) ss_nil))))))))
    (ss_one (s_ret (p_b (p_tup (x_cons (p_v 2) (x_cons (p_tuple F.b_tuple (b_cons (p_nb (p_sorted F.b_sorted hr (b_cons (p_vb 5) b_nil))) b_nil)) x_nil))))))))))))
theorem sc__law_near : FnScope ["_law_web_here", "_law_place", "_law_one", "_law_other"] ["_law_web_here", "_law_place"] (defScope st__law_near) := ⟨rfl, rfl, rfl, by decide +kernel, rfl, by decide +kernel, by decide +kernel⟩
abbrev ns__law_near : List Str := ["_law_web_here", "_law_place", "_law_one", "_law_other"]
set_option maxHeartbeats 4000000 in
theorem kn__law_near (F : Fct K mg base T) : Kn P w K mg base T "_law_near" 1 2 w_law_near := by
  obtain ⟨fa, fd, hm, Fu, hb⟩ := F.d__law_near
  exact kn_mk (k := 0) Fu sc__law_near hm hb (fun cdv A outer s H E hr =>
    (ss_one (s_ret (p_nb (p_lc (own := [("_law_one", 2), ("_law_other", 3)]) rfl sc__law_near.nd (gk_t (gks_cons (gk_n 2) (gks_cons (gk_n 3) gks_nil))) (i_seq (p_ix hr (p_vb 0) (p_b p_int))) (blkOk_by (N := ns__law_near) (sc := (defScope st__law_near)) (by decide +kernel)) (fun _ _ _ _ _ => (g_t rfl (gs_cons (g_n sc__law_near.nd) (gs_cons (g_n sc__law_near.nd) gs_nil)))) (fun _ _ _ _ _ => (c_one (t_in hr (p_vb 1) (p_b (p_tup (x_cons (p_v 2) (x_cons (p_v 3) x_nil)))) (by rfl)))) (fun _ _ _ _ _ => (p_sub (p_b (p_add (p_vb 2) (p_vb 3))) (p_vb 1))))))))
theorem sc__law_far_from : FnScope ["_law_web_here", "_law_place", "_law_found", "_law_rows", "_law_at", "_law_other"] ["_law_web_here", "_law_place"] (defScope st__law_far_from) := ⟨rfl, rfl, rfl, by decide +kernel, rfl, by decide +kernel, by decide +kernel⟩
abbrev ns__law_far_from : List Str := ["_law_web_here", "_law_place", "_law_found", "_law_rows", "_law_at", "_law_other"]
set_option maxHeartbeats 4000000 in
theorem kn__law_far_from (F : Fct K mg base T) : Kn P w K mg base T "_law_far_from" 2 2 w_law_far_from := by
  obtain ⟨fa, fd, hm, Fu, hb⟩ := F.d__law_far_from
  exact kn_mk (k := 1) Fu sc__law_far_from hm hb (fun cdv A outer s H E hr =>
    (ss_cons (s_own sc__law_far_from.nd (p_d1 (p_v 1) p_int))
    (ss_cons (s_own sc__law_far_from.nd (p_lst (x_cons (p_v 1) x_nil)))
    (ss_cons (s_set sc__law_far_from.nd p_int)
    (ss_cons (s_while (passes_of rfl) (t_lt hr (p_vb 4) (p_b (p_len F.b_len (b_cons (p_vb 3) b_nil)))) (ss_end [5] (ss_cons (s_for (passes_of rfl) rfl (i_seq (p_call ((kn__law_near F).mono (by decide)) hr (takes_of rfl rfl rfl rfl) (x_cons (p_v 0) (x_cons (p_ix hr (p_vb 3) (p_vb 4)) x_nil)))) (g_n sc__law_far_from.nd) (ss_end [5] (ss_one (s_if (t_notin hr (p_vb 5) (p_vb 2) (by rfl)) (ss_cons (s_setK 2 hr (p_vb 5) (p_add (p_b (p_ix hr (p_vb 2) (p_b (p_ix hr (p_vb 3) (p_vb 4))))) (p_b p_int)))
    (ss_one (s_app 3 (p_v 5)))) ss_nil))))
    (ss_one (s_set sc__law_far_from.nd (p_add (p_vb 4) (p_b p_int)))))))
    (ss_one (s_ret (p_vb 2))))))))
theorem sc__law_demands : FnScope ["_law_cell", "_law_many", "_law_kind", "_law_found", "_law_k"] ["_law_cell", "_law_many"] (defScope st__law_demands) := ⟨rfl, rfl, rfl, by decide +kernel, rfl, by decide +kernel, by decide +kernel⟩
abbrev ns__law_demands : List Str := ["_law_cell", "_law_many", "_law_kind", "_law_found", "_law_k"]
set_option maxHeartbeats 4000000 in
theorem kn__law_demands (F : Fct K mg base T) : Kn P w K mg base T "_law_demands" 2 2 w_law_demands := by
  obtain ⟨fa, fd, hm, Fu, hb⟩ := F.d__law_demands
  exact kn_mk (k := 1) Fu sc__law_demands hm hb (fun cdv A outer s H E hr =>
    (ss_cons (s_set sc__law_demands.nd (p_call ((kn__law_draw F).mono (by decide)) hr (takes_of rfl rfl rfl rfl) (x_cons (p_v 0) (x_cons p_int (x_cons p_int x_nil)))))
    (ss_cons (s_lcO (own := [("_law_k", 4)]) rfl sc__law_demands.nd (gk_n 4) (i_rng1 F.b_range (b_cons (p_vb 1) b_nil)) (blkOk_by (N := ns__law_demands) (sc := (defScope st__law_demands)) (by decide +kernel)) (fun _ _ _ _ _ => (g_n sc__law_demands.nd)) (fun _ _ _ _ _ => c_nil) (fun _ _ _ _ _ => (p_add (p_b p_int) (p_b (p_call ((kn__law_draw F).mono (by decide)) hr L2.takes0 (x_cons (p_v 0) (x_cons (p_add (p_b p_int) (p_vb 4)) (x_cons (p_ix hr (p_nb (p_lst (x_cons p_int (x_cons p_int (x_cons p_int (x_cons p_int x_nil)))))) (p_vb 2)) x_nil))))))))
    (ss_cons (s_if (t_eq hr (p_vb 2) (p_b p_int)) (ss_one (s_setL 3 (p_b (p_call ((kn__law_draw F).mono (by decide)) hr (takes_of rfl rfl rfl rfl) (x_cons (p_v 0) (x_cons p_int (x_cons (p_v 1) x_nil))))) p_int)) ss_nil)
    (ss_one (s_ret (p_b (p_tuple F.b_tuple (b_cons (p_vb 3) b_nil)))))))))
theorem sc__law_doubled : FnScope ["_law_many", "_law_times", "_law_turn_here"] ["_law_many", "_law_times"] (defScope st__law_doubled) := ⟨rfl, rfl, rfl, by decide +kernel, rfl, by decide +kernel, by decide +kernel⟩
abbrev ns__law_doubled : List Str := ["_law_many", "_law_times", "_law_turn_here"]
set_option maxHeartbeats 4000000 in
theorem kn__law_doubled (F : Fct K mg base T) : Kn P w K mg base T "_law_doubled" 1 2 w_law_doubled := by
  obtain ⟨fa, fd, hm, Fu, hb⟩ := F.d__law_doubled
  exact kn_mk (k := 0) Fu sc__law_doubled hm hb (fun cdv A outer s H E hr =>
    (ss_cons (s_for (passes_of rfl) rfl (i_rng1 F.b_range (b_cons (p_vb 1) b_nil)) (g_n sc__law_doubled.nd) (ss_end [2] (ss_one (s_set sc__law_doubled.nd (p_add (p_vb 0) (p_vb 0))))))
    (ss_one (s_ret (p_vb 0)))))
theorem sc_law : FnScope ["_law_script", "_law_k", "_law_cell", "_law_web_here", "_law_demands_here", "_law_due", "_law_place", "_law_off", "_law_other", "_law_found", "_law_best", "_law_told"] ["_law_script"] (defScope st_law) := ⟨rfl, rfl, rfl, by decide +kernel, rfl, by decide +kernel, by decide +kernel⟩
abbrev ns_law : List Str := ["_law_script", "_law_k", "_law_cell", "_law_web_here", "_law_demands_here", "_law_due", "_law_place", "_law_off", "_law_other", "_law_found", "_law_best", "_law_told"]
set_option maxHeartbeats 4000000 in
theorem fn_law (F : Fct K mg base T) {fa : Addr} {fd : FuncData} (Fu : L2.Fun K "law" "law" st_law fa fd) : FnOk P w K mg base (L2.CX P w) 9 fa fd ["_law_script"] (spD ⟨K, mg, T⟩ 1 w_law_k52) :=
  fn_mk (k := 8) Fu sc_law (fun cdv A outer s H E hr =>
    (ss_cons (s_for (passes_of rfl) rfl (i_rng1 F.b_range (b_cons (p_b (p_max2 F.b_max rfl (b_cons (p_b p_int) (b_cons (p_b (p_min2 F.b_min rfl (b_cons (p_b (p_len F.b_len (b_cons (p_vb 0) b_nil))) (b_cons (p_b p_int) b_nil)))) b_nil)))) b_nil)) (g_n sc_law.nd) (ss_end [1, 2, 3, 4, 5, 6, 7, 9, 10, 11] (ss_cons (s_set sc_law.nd (p_call ((kn__law_cell_at F).mono (by decide)) hr (takes_of rfl rfl rfl rfl) (x_cons (p_v 0) (x_cons (p_v 1) x_nil))))
    (ss_cons (s_set sc_law.nd (p_call ((kn__law_web F).mono (by decide)) hr (takes_of rfl rfl rfl rfl) (x_cons (p_v 2) (x_cons (p_ix hr (p_nb (p_lst (x_cons p_int (x_cons p_int (x_cons p_int x_nil))))) (p_b (p_call ((kn__law_draw F).mono (by decide)) hr (takes_of rfl rfl rfl rfl) (x_cons (p_v 2) (x_cons p_int (x_cons p_int x_nil)))))) x_nil))))
    (ss_cons (s_set sc_law.nd (p_call ((kn__law_demands F).mono (by decide)) hr (takes_of rfl rfl rfl rfl) (x_cons (p_v 2) (x_cons (p_ix hr (p_vb 3) (p_b p_int)) x_nil))))
    (ss_cons (s_own sc_law.nd (p_lst x_nil))
    (ss_cons (s_for (passes_of rfl) rfl (i_rng1 F.b_range (b_cons (p_b (p_ix hr (p_vb 3) (p_b p_int))) b_nil)) (g_n sc_law.nd) (ss_end [6, 7, 9] (ss_cons (s_set sc_law.nd (p_call ((kn__law_far_from F).mono (by decide)) hr (takes_of rfl rfl rfl rfl) (x_cons (p_v 3) (x_cons (p_v 6) x_nil))))
    (ss_cons (s_app 5 (p_sum F.b_sum rfl (b_cons (p_nb (p_lc (own := [("_law_other", 8)]) rfl sc_law.nd (gk_n 8) (i_rng1 F.b_range (b_cons (p_b (p_ix hr (p_vb 3) (p_b p_int))) b_nil)) (blkOk_by (N := ns_law) (sc := (defScope st_law)) (by decide +kernel)) (fun _ _ _ _ _ => (g_n sc_law.nd)) (fun _ _ _ _ _ => c_nil) (fun _ _ _ _ _ => (p_call ((kn__law_doubled F).mono (by decide)) hr L2.takes0 (x_cons (p_ix hr (p_vb 4) (p_vb 8)) (x_cons (p_ix hr (p_vb 7) (p_vb 8)) x_nil)))))) b_nil)))
    (ss_cons (s_set sc_law.nd (p_call ((kn_stack F).mono (by decide)) hr (takes_of rfl rfl rfl rfl) (x_cons (p_v 3) (x_cons (p_v 4) (x_cons (p_v 6) x_nil)))))
    (ss_one (s_if (t_w (w_or (t_not (t_v (p_b (p_call ((kn__law_whole F).mono (by decide)) hr (takes_of rfl rfl rfl rfl) (x_cons (p_v 9) x_nil))))) (w_or1 (t_ne hr (p_vb 9) (p_b (p_ix hr (p_vb 5) (p_b (p_neg (p_b p_int))))))))) (ss_one (s_ret (p_b p_bl))) ss_nil)))))))
    (ss_cons (s_set sc_law.nd (p_idx (p_vb 5) (p_max F.b_max rfl (b_cons (p_vb 5) b_nil))))
    (ss_cons (s_set sc_law.nd (p_call ((kn_greatest_stack F).mono (by decide)) hr (takes_of rfl rfl rfl rfl) (x_cons (p_v 3) (x_cons (p_v 4) x_nil))))
    (ss_cons (s_if (t_w (w_or (t_not (t_v (p_b (p_isi F.b_isinstance (b_cons (p_vb 9) (b_cons (p_b (p_ty (by rfl) F.b_tuple (by decide +kernel))) b_nil)))))) (w_or (t_ne hr (p_vb 9) (p_b (p_tup (x_cons (p_max F.b_max rfl (b_cons (p_vb 5) b_nil)) (x_cons (p_v 10) x_nil))))) (w_or1 (t_not (t_v (p_b (p_call ((kn__law_whole F).mono (by decide)) hr (takes_of rfl rfl rfl rfl) (x_cons (p_ix hr (p_vb 9) (p_b p_int)) x_nil))))))))) (ss_one (s_ret (p_b p_bl))) ss_nil)
    (ss_cons (s_own sc_law.nd (p_repN (p_nb (p_lst (x_cons p_int x_nil))) (p_b (p_ix hr (p_vb 3) (p_b p_int)))))
    (ss_cons (s_setL 11 (p_vb 10) (p_sub (p_b (p_max F.b_max rfl (b_cons (p_vb 5) b_nil))) (p_b p_int)))
    (ss_one (s_if (t_ne hr (p_b (p_call ((kn_stack_worst F).mono (by decide)) hr (takes_of rfl rfl rfl rfl) (x_cons (p_v 3) (x_cons (p_v 4) x_nil)))) (p_b (p_tuple F.b_tuple (b_cons (p_vb 11) b_nil)))) (ss_one (s_ret (p_b p_bl))) ss_nil))))))))))))))
    (ss_one (s_ret (p_b (p_and (p_eq hr (p_b (p_call ((kn_greatest_stack F).mono (by decide)) hr (takes_of rfl rfl rfl rfl) (x_cons (p_tup (x_cons p_int (x_cons (p_tup (x_cons (p_tup (x_cons p_int (x_cons p_int x_nil))) (x_cons (p_tup (x_cons p_int (x_cons p_int x_nil))) x_nil))) x_nil))) (x_cons (p_tup (x_cons p_int (x_cons p_int (x_cons p_int x_nil)))) x_nil)))) (p_b (p_tup (x_cons p_int (x_cons p_int x_nil))))) (p_one (p_eq hr (p_b (p_call ((kn_stack_worst F).mono (by decide)) hr (takes_of rfl rfl rfl rfl) (x_cons (p_tup (x_cons p_int (x_cons (p_tup x_nil) x_nil))) (x_cons (p_tup (x_cons p_int x_nil)) x_nil)))) (p_b (p_tup (x_cons p_int x_nil)))))))))))
end
end K52

namespace K52
open PySem PySem.Spec PyProof.Rows L2 LamX PB
theorem place {n : Int} {ps : List (Int × Int)} (W : WebOk n ps) (H : Whole n ps) {ws : List Int} (dm : DemOk n ws) {x0 x1 c : D} {k : Nat} (hk : (k : Int) < n) {due : List Int} (hd : due.length ≤ 1000) :
    w_law_k52_B1 [.fz x0, .fz x1, .fz c, .fz (webD n ps), .fz (stD ws), .ow (.lst (due.map D.int)), .fz (.int (k : Int)), .un, .un, .un, .un, .un] = .nx [.fz x0, .fz x1, .fz c, .fz (webD n ps), .fz (stD ws), .ow (.lst ((due ++ [stackN n ps ws k]).map D.int)), .un, .un, .un, .un, .un, .un] := by
  have lo := W.lo
  have hi := W.hi
  have hl := dm.len
  obtain ⟨es, e, h⟩ := far_ok W (p := (k : Int)) (by omega)
  have c1 : w_law_k52_C1 [.fz x0, .fz x1, .fz c, .fz (webD n ps), .fz (stD ws), .ow (.lst (due.map D.int)), .fz (.int (k : Int)), .fz (.dk (kd es)), .un, .un, .un, .un] = .ok (.lst ((stackL ws es).map D.int)) := by
    have r := rng1_int (n := n) (by omega) (by omega)
    refine Eq.trans (eLc_ok (ds := intsD 0 n.toNat) (by simp (disch := first | omega | decide | (simp only [List.length_cons, List.length_nil, List.length_append, List.length_map, List.length_take, List.length_drop]; omega)) only [apC, apV, apVb, ap2, ap1, apB, apN, apX, aptB, aptV, apAnd, apOr, apNot, apeIf, apeAnd, apeOr, apeNot, apTup, apLst, apIt, apIts, apoN, apoS, apSl, ap3, apsN, apSeq, apSet, apOwn, apRet, apEx, apIf, apFrz, apT, apgN, apEnd, apLm, apGet2, apD1, apD2, apBV, wip_nx, wip_rt, wip_er, frz_fz, wipeF_cons, wipeF_nil, lstB_l, List.getElem?_cons_succ, List.getElem?_cons_zero, List.set_cons_succ, List.set_cons_zero, max2_i, min2_i, bindO, bindE, fdiv_s, mod_i, mul_s, mul_s', isi_ii, isi_ib, isi_it, isi_tt, isi_ll, isi_bb, len_l, len_t, len_s, it_l, it_t, mkL0, mkL1, mkL2, mkL3, mkL4, mkL5, mkL6, mkL7, mkL8, mkT0, mkT1, mkT2, mkT3, mkT4, mkT5, mkT6, mkT7, mkT8, add_i, sub_i, lt_i, le_i, gt_i, ge_i, eq_ib, ne_ib, decide_true, decide_false, tru_b, tru_i, tru_n, as_b, tru_l, tru_t, if_true, if_false, Bool.not_true, Bool.not_false, Bool.false_eq_true, list_l, list_t, tup_l, tup_t, endO_rt, endO_nx, endO_er, isNon_n, mkL9, mkL10, mkL11, mkL12, mkL13, mkL14, mkL15, mkL16, apsApp, appO_ok, appO_er, apsTup, tupO_2, tupO_3, negI, sl_t, cut_toD, cut_fromD, List.cons_append, List.nil_append, apRef, refO_ok, dro_fz, dro_un, dro_ow, dro_nil, ix0, r]) rfl (lc_map (fun d => match d with | .int k => .int (ws.getD k.toNat 0 * 2 ^ (farOf es k).toNat) | d => d) fun d hd => ?_)) ?_
    · obtain ⟨k, hk, rfl⟩ := mem_ints hd
      rw [Int.zero_add]
      obtain ⟨d, hm⟩ := h.full H (by omega) (k : Int) (by omega)
      have hd := h.deep _ _ hm
      have hd0 := (h.rng _ hm).2
      dsimp only at hd0
      have hkl : k < ws.length := by omega
      have i1 := ix_ti hkl
      have i2 := ix_kd h.nd hm
      obtain ⟨d', rfl⟩ : ∃ d' : Nat, d = d' := ⟨d.toNat, by omega⟩
      have sh := doubled_ok ws[k] d' (by omega)
      refine ⟨_, rfl, ?_⟩
      simp (disch := first | omega | decide | (simp only [List.length_cons, List.length_nil, List.length_append, List.length_map, List.length_take, List.length_drop]; omega)) only [apC, apV, apVb, ap2, ap1, apB, apN, apX, aptB, aptV, apAnd, apOr, apNot, apeIf, apeAnd, apeOr, apeNot, apTup, apLst, apIt, apIts, apoN, apoS, apSl, ap3, apsN, apSeq, apSet, apOwn, apRet, apEx, apIf, apFrz, apT, apgN, apEnd, apLm, apGet2, apD1, apD2, apBV, wip_nx, wip_rt, wip_er, frz_fz, wipeF_cons, wipeF_nil, lstB_l, List.getElem?_cons_succ, List.getElem?_cons_zero, List.set_cons_succ, List.set_cons_zero, max2_i, min2_i, bindO, bindE, fdiv_s, mod_i, mul_s, mul_s', isi_ii, isi_ib, isi_it, isi_tt, isi_ll, isi_bb, len_l, len_t, len_s, it_l, it_t, mkL0, mkL1, mkL2, mkL3, mkL4, mkL5, mkL6, mkL7, mkL8, mkT0, mkT1, mkT2, mkT3, mkT4, mkT5, mkT6, mkT7, mkT8, add_i, sub_i, lt_i, le_i, gt_i, ge_i, eq_ib, ne_ib, decide_true, decide_false, tru_b, tru_i, tru_n, as_b, tru_l, tru_t, if_true, if_false, Bool.not_true, Bool.not_false, Bool.false_eq_true, list_l, list_t, tup_l, tup_t, endO_rt, endO_nx, endO_er, isNon_n, mkL9, mkL10, mkL11, mkL12, mkL13, mkL14, mkL15, mkL16, apsApp, appO_ok, appO_er, apsTup, tupO_2, tupO_3, negI, sl_t, cut_toD, cut_fromD, List.cons_append, List.nil_append, apRef, refO_ok, dro_fz, dro_un, dro_ow, dro_nil, i1, i2, sh]
      rw [Int.toNat_natCast, getD_get hkl, farOf_eq h.nd hm, Int.toNat_natCast]
    · unfold intsD stackL
      rw [List.map_map, List.map_map, show n.toNat = ws.length by omega]
      congr 2
      refine List.map_congr_left fun k _ => ?_
      show D.int (ws.getD (0 + (k : Int)).toNat 0 * 2 ^ (farOf es (0 + (k : Int))).toNat) = D.int (ws.getD k 0 * 2 ^ (farOf es (k : Int)).toNat)
      rw [Int.zero_add, Int.toNat_natCast]
  have s := stack_N W H dm (p := (k : Int)) (by omega)
  rw [stackN_eq h H (by omega) hl] at s ⊢
  have il := ix_last (xs := due.map D.int) (x := .int (stackL ws es).sum)
  have wh := whole2 (d := .int (stackL ws es).sum) ty_i
  have wh : w_law_whole_v2 [.int (stackL ws es).sum] = .ok (.bl true) := wh
  unfold w_law_k52_B1
  simp (disch := first | omega | decide | (simp only [List.length_cons, List.length_nil, List.length_append, List.length_map, List.length_take, List.length_drop]; omega)) only [apC, apV, apVb, ap2, ap1, apB, apN, apX, aptB, aptV, apAnd, apOr, apNot, apeIf, apeAnd, apeOr, apeNot, apTup, apLst, apIt, apIts, apoN, apoS, apSl, ap3, apsN, apSeq, apSet, apOwn, apRet, apEx, apIf, apFrz, apT, apgN, apEnd, apLm, apGet2, apD1, apD2, apBV, wip_nx, wip_rt, wip_er, frz_fz, wipeF_cons, wipeF_nil, lstB_l, List.getElem?_cons_succ, List.getElem?_cons_zero, List.set_cons_succ, List.set_cons_zero, max2_i, min2_i, bindO, bindE, fdiv_s, mod_i, mul_s, mul_s', isi_ii, isi_ib, isi_it, isi_tt, isi_ll, isi_bb, len_l, len_t, len_s, it_l, it_t, mkL0, mkL1, mkL2, mkL3, mkL4, mkL5, mkL6, mkL7, mkL8, mkT0, mkT1, mkT2, mkT3, mkT4, mkT5, mkT6, mkT7, mkT8, add_i, sub_i, lt_i, le_i, gt_i, ge_i, eq_ib, ne_ib, decide_true, decide_false, tru_b, tru_i, tru_n, as_b, tru_l, tru_t, if_true, if_false, Bool.not_true, Bool.not_false, Bool.false_eq_true, list_l, list_t, tup_l, tup_t, endO_rt, endO_nx, endO_er, isNon_n, mkL9, mkL10, mkL11, mkL12, mkL13, mkL14, mkL15, mkL16, apsApp, appO_ok, appO_er, apsTup, tupO_2, tupO_3, negI, sl_t, cut_toD, cut_fromD, List.cons_append, List.nil_append, apRef, refO_ok, dro_fz, dro_un, dro_ow, dro_nil, e, c1, sum_l, s, wh, il, ne_ib, decide_eq_true (rfl : (stackL ws es).sum = (stackL ws es).sum)]
  rw [List.map_append]
  rfl
theorem turn2 (ns : List Int) (k : Nat) : w_law_k52_B2 [.fz (.scr ns), .fz (.int k), .un, .un, .un, .un, .un, .un, .un, .un, .un, .un] = .nx [.fz (.scr ns), .un, .un, .un, .un, .un, .un, .un, .un, .un, .un, .un] := by
  obtain ⟨c, hc⟩ := w_cell ns k
  have d0 := draw_2 (c := c) (k := 155) (b := 3) (by decide) (by decide)
  have l0 := drw_lt (c := c) (k := 155) (b := 3) (by decide)
  generalize drw c 155 3 = v at d0 l0
  obtain ⟨x, hx, m, rfl, hm⟩ := pick (xs := [.int 40, .int 12, .int 6]) (t := v) l0 (Q := fun x => ∃ m, x = .int m ∧ 1 ≤ m ∧ m ≤ 40) (al_cons ⟨_, rfl, by decide⟩ (al_cons ⟨_, rfl, by decide⟩ (al_cons ⟨_, rfl, by decide⟩ al_nil)))
  obtain ⟨n, ps, hw, W, H, hn⟩ := web2 c m hm
  have lo := W.lo
  have hi := W.hi
  obtain ⟨ws, hws, dm⟩ := dem_ok c n ⟨lo, hi⟩
  have lp : w_law_k52_L1 [.fz (.scr ns), .fz (.int k), .fz (.int c), .fz (webD n ps), .fz (stD ws), .ow (.lst []), .un, .un, .un, .un, .un, .un] = .nx [.fz (.scr ns), .fz (.int k), .fz (.int c), .fz (webD n ps), .fz (stD ws), .ow (.lst ((stacksN n ps ws).map D.int)), .un, .un, .un, .un, .un, .un] := by
    have r := rng1_int (n := n) (by omega) (by omega)
    refine for_go (ds := intsD 0 n.toNat) (by simp (disch := first | omega | decide | (simp only [List.length_cons, List.length_nil, List.length_append, List.length_map, List.length_take, List.length_drop]; omega)) only [apC, apV, apVb, ap2, ap1, apB, apN, apX, aptB, aptV, apAnd, apOr, apNot, apeIf, apeAnd, apeOr, apeNot, apTup, apLst, apIt, apIts, apoN, apoS, apSl, ap3, apsN, apSeq, apSet, apOwn, apRet, apEx, apIf, apFrz, apT, apgN, apEnd, apLm, apGet2, apD1, apD2, apBV, wip_nx, wip_rt, wip_er, frz_fz, wipeF_cons, wipeF_nil, lstB_l, List.getElem?_cons_succ, List.getElem?_cons_zero, List.set_cons_succ, List.set_cons_zero, max2_i, min2_i, bindO, bindE, fdiv_s, mod_i, mul_s, mul_s', isi_ii, isi_ib, isi_it, isi_tt, isi_ll, isi_bb, len_l, len_t, len_s, it_l, it_t, mkL0, mkL1, mkL2, mkL3, mkL4, mkL5, mkL6, mkL7, mkL8, mkT0, mkT1, mkT2, mkT3, mkT4, mkT5, mkT6, mkT7, mkT8, add_i, sub_i, lt_i, le_i, gt_i, ge_i, eq_ib, ne_ib, decide_true, decide_false, tru_b, tru_i, tru_n, as_b, tru_l, tru_t, if_true, if_false, Bool.not_true, Bool.not_false, Bool.false_eq_true, list_l, list_t, tup_l, tup_t, endO_rt, endO_nx, endO_er, isNon_n, mkL9, mkL10, mkL11, mkL12, mkL13, mkL14, mkL15, mkL16, apsApp, appO_ok, appO_er, apsTup, tupO_2, tupO_3, negI, sl_t, cut_toD, cut_fromD, List.cons_append, List.nil_append, apRef, refO_ok, dro_fz, dro_un, dro_ow, dro_nil, ix0, r]) ?_
    have := for_rngF (g := gN 6) (b := w_law_k52_B1) (n := n.toNat) (lo := 0) (fun j => [.fz (.scr ns), .fz (.int k), .fz (.int c), .fz (webD n ps), .fz (stD ws), .ow (.lst (((List.range j).map fun (k : Nat) => stackN n ps ws (k : Int)).map D.int)), .un, .un, .un, .un, .un, .un]) fun j hj => ⟨_, rfl, by
      have e := place W H dm (x0 := .scr ns) (x1 := .int k) (c := .int c) (k := j) (by omega) (due := (List.range j).map fun (k : Nat) => stackN n ps ws (k : Int)) (by rw [List.length_map, List.length_range]; omega)
      rw [Int.zero_add]
      refine e.trans ?_
      rw [show (List.range (j + 1)).map (fun (k : Nat) => stackN n ps ws (k : Int)) = (List.range j).map (fun (k : Nat) => stackN n ps ws (k : Int)) ++ [stackN n ps ws (j : Int)] by rw [List.range_succ, List.map_append]; rfl]⟩
    exact this
  have hL : stacksN n ps ws ≠ [] := fun e => by
    have := stacksN_len (n := n) (ps := ps) (ws := ws)
    rw [e, List.length_nil] at this
    omega
  obtain ⟨M, hM, hMm⟩ := max_is hL
  obtain ⟨j, hj, hjl⟩ := idx_is hMm
  rw [stacksN_len] at hjl
  have g := greatest_N W H dm hM hj
  have sw := stack_worst_N W H dm hM hj
  have wh : w_law_whole_v2 [.int M] = .ok (.bl true) := whole2 (d := .int M) ty_i
  have ne1 : neD (.tup [.int M, .int (j : Int)]) (.tup [.int M, .int (j : Int)]) = .ok (.bl false) := ne_self (shd_tie (M, (j : Int))) (by decide)
  have rp := rep_l (x := 0) (n := n.toNat) (by omega)
  rw [show ((n.toNat : Nat) : Int) = n by omega] at rp
  have st := setI (i := 11) (a := eVb 10) (f := e2 subD (eB maxD (xCons (eVb 5) xNil)) (eC (.int 1))) (ρ := [.fz (.scr ns), .fz (.int k), .fz (.int c), .fz (webD n ps), .fz (stD ws), .ow (.lst ((stacksN n ps ws).map D.int)), .un, .un, .un, .fz (.tup [.int M, .int (j : Int)]), .fz (.int (j : Int)), .ow (.lst ((List.replicate n.toNat 0).map D.int))]) (ss := List.replicate n.toNat 0) (z := (j : Int)) (x := M - 1) (by simp (disch := first | omega | decide | (simp only [List.length_cons, List.length_nil, List.length_append, List.length_map, List.length_take, List.length_drop]; omega)) only [apC, apV, apVb, ap2, ap1, apB, apN, apX, aptB, aptV, apAnd, apOr, apNot, apeIf, apeAnd, apeOr, apeNot, apTup, apLst, apIt, apIts, apoN, apoS, apSl, ap3, apsN, apSeq, apSet, apOwn, apRet, apEx, apIf, apFrz, apT, apgN, apEnd, apLm, apGet2, apD1, apD2, apBV, wip_nx, wip_rt, wip_er, frz_fz, wipeF_cons, wipeF_nil, lstB_l, List.getElem?_cons_succ, List.getElem?_cons_zero, List.set_cons_succ, List.set_cons_zero, max2_i, min2_i, bindO, bindE, fdiv_s, mod_i, mul_s, mul_s', isi_ii, isi_ib, isi_it, isi_tt, isi_ll, isi_bb, len_l, len_t, len_s, it_l, it_t, mkL0, mkL1, mkL2, mkL3, mkL4, mkL5, mkL6, mkL7, mkL8, mkT0, mkT1, mkT2, mkT3, mkT4, mkT5, mkT6, mkT7, mkT8, add_i, sub_i, lt_i, le_i, gt_i, ge_i, eq_ib, ne_ib, decide_true, decide_false, tru_b, tru_i, tru_n, as_b, tru_l, tru_t, if_true, if_false, Bool.not_true, Bool.not_false, Bool.false_eq_true, list_l, list_t, tup_l, tup_t, endO_rt, endO_nx, endO_er, isNon_n, mkL9, mkL10, mkL11, mkL12, mkL13, mkL14, mkL15, mkL16, apsApp, appO_ok, appO_er, apsTup, tupO_2, tupO_3, negI, sl_t, cut_toD, cut_fromD, List.cons_append, List.nil_append, apRef, refO_ok, dro_fz, dro_un, dro_ow, dro_nil, hM]) rfl rfl (by rw [List.length_replicate]; omega)
  rw [Int.toNat_natCast] at st
  have ne2 := ne_st (xs := (List.replicate n.toNat 0).set j (M - 1)) (ys := (List.replicate n.toNat 0).set j (M - 1))
  rw [decide_eq_true rfl] at ne2
  have ne2 : neD (stD ((List.replicate n.toNat 0).set j (M - 1))) (stD ((List.replicate n.toNat 0).set j (M - 1))) = .ok (.bl false) := ne2
  have it : isiD [.tup [.int M, .int (j : Int)], .ty "tuple"] = .ok (.bl true) := rfl
  have i0 : ixD (.tup [.int M, .int (j : Int)]) (.int 0) = .ok (.int M) := rfl
  unfold w_law_k52_B2
  simp (disch := first | omega | decide | (simp only [List.length_cons, List.length_nil, List.length_append, List.length_map, List.length_take, List.length_drop]; omega)) only [apC, apV, apVb, ap2, ap1, apB, apN, apX, aptB, aptV, apAnd, apOr, apNot, apeIf, apeAnd, apeOr, apeNot, apTup, apLst, apIt, apIts, apoN, apoS, apSl, ap3, apsN, apSeq, apSet, apOwn, apRet, apEx, apIf, apFrz, apT, apgN, apEnd, apLm, apGet2, apD1, apD2, apBV, wip_nx, wip_rt, wip_er, frz_fz, wipeF_cons, wipeF_nil, lstB_l, List.getElem?_cons_succ, List.getElem?_cons_zero, List.set_cons_succ, List.set_cons_zero, max2_i, min2_i, bindO, bindE, fdiv_s, mod_i, mul_s, mul_s', isi_ii, isi_ib, isi_it, isi_tt, isi_ll, isi_bb, len_l, len_t, len_s, it_l, it_t, mkL0, mkL1, mkL2, mkL3, mkL4, mkL5, mkL6, mkL7, mkL8, mkT0, mkT1, mkT2, mkT3, mkT4, mkT5, mkT6, mkT7, mkT8, add_i, sub_i, lt_i, le_i, gt_i, ge_i, eq_ib, ne_ib, decide_true, decide_false, tru_b, tru_i, tru_n, as_b, tru_l, tru_t, if_true, if_false, Bool.not_true, Bool.not_false, Bool.false_eq_true, list_l, list_t, tup_l, tup_t, endO_rt, endO_nx, endO_er, isNon_n, mkL9, mkL10, mkL11, mkL12, mkL13, mkL14, mkL15, mkL16, apsApp, appO_ok, appO_er, apsTup, tupO_2, tupO_3, negI, sl_t, cut_toD, cut_fromD, List.cons_append, List.nil_append, apRef, refO_ok, dro_fz, dro_un, dro_ow, dro_nil, hc, d0, hx, hw, ix0, hws, lp, hM, hj, g, it, ne1, i0, wh, rp, st, sw, ne2]
theorem w0 : WebOk 3 [(0, 1), (1, 2)] := ⟨by decide, by decide, al_cons (by decide) (al_cons (by decide) al_nil), rfl⟩
theorem w1 : WebOk 1 [] := ⟨by decide, by decide, fun p hp => (by cases hp), rfl⟩
theorem law_true (ns : List Int) (_ : ns.length ≤ 63) : w_law_k52 [.scr ns] = .ok (.bl true) := by
  rw [go_w_law_k52]
  unfold w_law_k52_S
  have lp : w_law_k52_L2 [.fz (.scr ns), .un, .un, .un, .un, .un, .un, .un, .un, .un, .un, .un] = .nx [.fz (.scr ns), .un, .un, .un, .un, .un, .un, .un, .un, .un, .un, .un] := law_turns (by decide) (turn2 ns)
  rw [seq_nx lp]
  have a0 : Dist 3 [(0, 1), (1, 2)] 0 [(0, 0), (1, 1), (2, 2)] := dist_of rfl
  have a1 : Dist 3 [(0, 1), (1, 2)] 1 [(1, 0), (0, 1), (2, 1)] := dist_of rfl
  have a2 : Dist 3 [(0, 1), (1, 2)] 2 [(2, 0), (1, 1), (0, 2)] := dist_of rfl
  have H0 : Whole 3 [(0, 1), (1, 2)] := (a0.whole (by decide)).mp rfl
  have m0 : DemOk 3 [1, 1, 1] := ⟨rfl, al_cons (by decide) (al_cons (by decide) (al_cons (by decide) al_nil))⟩
  have s0 : stacksN 3 [(0, 1), (1, 2)] [1, 1, 1] = [7, 5, 7] := by
    show [stackN 3 [(0, 1), (1, 2)] [1, 1, 1] 0, stackN 3 [(0, 1), (1, 2)] [1, 1, 1] 1, stackN 3 [(0, 1), (1, 2)] [1, 1, 1] 2] = _
    rw [stackN_eq a0 H0 (by decide) rfl, stackN_eq a1 H0 (by decide) rfl, stackN_eq a2 H0 (by decide) rfl]
    rfl
  have b0 : Dist 1 [] 0 [(0, 0)] := dist_of rfl
  have H1 : Whole 1 [] := (b0.whole (by decide)).mp rfl
  have m1 : DemOk 1 [5] := ⟨rfl, al_cons (by decide) al_nil⟩
  have s1 : stacksN 1 [] [5] = [5] := by
    show [stackN 1 [] [5] 0] = _
    rw [stackN_eq b0 H1 (by decide) rfl]
    rfl
  have g := greatest_N w0 H0 m0 (m := 7) (j := 0) (by rw [s0]; rfl) (by rw [s0]; rfl)
  have s := stack_worst_N w1 H1 m1 (m := 5) (j := 0) (by rw [s1]; rfl) (by rw [s1]; rfl)
  have g : w_greatest_stack [.tup [.int 3, .tup [.tup [.int 0, .int 1], .tup [.int 1, .int 2]]], .tup [.int 1, .int 1, .int 1]] = .ok (.tup [.int 7, .int 0]) := g
  have s : w_stack_worst [.tup [.int 1, .tup []], .tup [.int 5]] = .ok (.tup [.int 4]) := s
  have q1 : eqD (.tup [.int 7, .int 0]) (.tup [.int 7, .int 0]) = .ok (.bl true) := eq_self (shd_tie (7, 0)) (by decide)
  have q2 : eqD (.tup [.int 4]) (.tup [.int 4]) = .ok (.bl true) := eq_self (shd_st [4]) (by decide)
  simp (disch := first | omega | decide | (simp only [List.length_cons, List.length_nil, List.length_append, List.length_map, List.length_take, List.length_drop]; omega)) only [apC, apV, apVb, ap2, ap1, apB, apN, apX, aptB, aptV, apAnd, apOr, apNot, apeIf, apeAnd, apeOr, apeNot, apTup, apLst, apIt, apIts, apoN, apoS, apSl, ap3, apsN, apSeq, apSet, apOwn, apRet, apEx, apIf, apFrz, apT, apgN, apEnd, apLm, apGet2, apD1, apD2, apBV, wip_nx, wip_rt, wip_er, frz_fz, wipeF_cons, wipeF_nil, lstB_l, List.getElem?_cons_succ, List.getElem?_cons_zero, List.set_cons_succ, List.set_cons_zero, max2_i, min2_i, bindO, bindE, fdiv_s, mod_i, mul_s, mul_s', isi_ii, isi_ib, isi_it, isi_tt, isi_ll, isi_bb, len_l, len_t, len_s, it_l, it_t, mkL0, mkL1, mkL2, mkL3, mkL4, mkL5, mkL6, mkL7, mkL8, mkT0, mkT1, mkT2, mkT3, mkT4, mkT5, mkT6, mkT7, mkT8, add_i, sub_i, lt_i, le_i, gt_i, ge_i, eq_ib, ne_ib, decide_true, decide_false, tru_b, tru_i, tru_n, as_b, tru_l, tru_t, if_true, if_false, Bool.not_true, Bool.not_false, Bool.false_eq_true, list_l, list_t, tup_l, tup_t, endO_rt, endO_nx, endO_er, isNon_n, mkL9, mkL10, mkL11, mkL12, mkL13, mkL14, mkL15, mkL16, apsApp, appO_ok, appO_er, apsTup, tupO_2, tupO_3, negI, sl_t, cut_toD, cut_fromD, List.cons_append, List.nil_append, apRef, refO_ok, dro_fz, dro_un, dro_ow, dro_nil, g, s, q1, q2]
end K52

namespace K52
open PySem PySem.Spec PyProof.Rows L2 LamX PB
set_option maxHeartbeats 8000000 in
theorem all_mk {P : Program} {w : World} {K : PySem.W.Frag} {h : Heap} {mg : Str → Option Value} {fa : Addr} (X : K.In h) (G : h.Ns mainGlobals mg) (hfa : mg "law" = some (.ref fa))
    {f0 : Addr} {od0 an0 : Option Addr} {sl0 : Array (Option Value)} {oc0 kV0 dc0 pm0 ct0 : Value}
    {cd0 : Value}
    {f1 : Addr} {od1 an1 : Option Addr} {sl1 : Array (Option Value)} {oc1 kV1 dc1 pm1 ct1 : Value}
    {cd1 : Value}
    {f2 : Addr} {od2 an2 : Option Addr} {sl2 : Array (Option Value)} {oc2 kV2 dc2 pm2 ct2 : Value}
    {cd2 : Value}
    {f3 : Addr} {od3 an3 : Option Addr} {sl3 : Array (Option Value)} {oc3 kV3 dc3 pm3 ct3 : Value}
    {cd3 : Value}
    {f4 : Addr} {od4 an4 : Option Addr} {sl4 : Array (Option Value)} {oc4 kV4 dc4 pm4 ct4 : Value}
    {cd4 : Value}
    {f5 : Addr} {od5 an5 : Option Addr} {sl5 : Array (Option Value)} {oc5 kV5 dc5 pm5 ct5 : Value}
    {cd5 : Value}
    {f6 : Addr} {od6 an6 : Option Addr} {sl6 : Array (Option Value)} {oc6 kV6 dc6 pm6 ct6 : Value}
    {cd6 : Value}
    {f7 : Addr} {od7 an7 : Option Addr} {sl7 : Array (Option Value)} {oc7 kV7 dc7 pm7 ct7 : Value}
    {cd7 : Value}
    {f8 : Addr} {od8 an8 : Option Addr} {sl8 : Array (Option Value)} {oc8 kV8 dc8 pm8 ct8 : Value}
    {cd8 : Value}
    {f9 : Addr} {od9 an9 : Option Addr} {sl9 : Array (Option Value)} {oc9 kV9 dc9 pm9 ct9 : Value}
    {cd9 : Value}
    {f10 : Addr} {od10 an10 : Option Addr} {sl10 : Array (Option Value)} {oc10 kV10 dc10 pm10 ct10 : Value}
    {cd10 : Value}
    {f11 : Addr} {od11 an11 : Option Addr} {sl11 : Array (Option Value)} {oc11 kV11 dc11 pm11 ct11 : Value}
    {cd11 : Value}
    {f12 : Addr} {od12 an12 : Option Addr} {sl12 : Array (Option Value)} {oc12 kV12 dc12 pm12 ct12 : Value}
    {cd12 : Value}
    {f13 : Addr} {od13 an13 : Option Addr} {sl13 : Array (Option Value)} {oc13 kV13 dc13 pm13 ct13 : Value}
    {cd13 : Value}
    {f14 : Addr} {od14 an14 : Option Addr} {sl14 : Array (Option Value)} {oc14 kV14 dc14 pm14 ct14 : Value}
    {cd14 : Value}
    {f15 : Addr} {od15 an15 : Option Addr} {sl15 : Array (Option Value)} {oc15 kV15 dc15 pm15 ct15 : Value}
    {cd15 : Value}
    {f16 : Addr} {od16 an16 : Option Addr} {sl16 : Array (Option Value)} {oc16 kV16 dc16 pm16 ct16 : Value}
    {cd16 : Value}
    {f17 : Addr} {od17 an17 : Option Addr} {sl17 : Array (Option Value)} {oc17 kV17 dc17 pm17 ct17 : Value}
    {cd17 : Value}
    {f18 : Addr} {od18 an18 : Option Addr} {sl18 : Array (Option Value)} {oc18 kV18 dc18 pm18 ct18 : Value}
    {cd18 : Value}
    {f19 : Addr} {od19 an19 : Option Addr} {sl19 : Array (Option Value)} {oc19 kV19 dc19 pm19 ct19 : Value}
    {cd19 : Value}
    {f20 : Addr} {od20 an20 : Option Addr} {sl20 : Array (Option Value)} {oc20 kV20 dc20 pm20 ct20 : Value}
    {cd20 : Value}
    {f21 : Addr} {od21 an21 : Option Addr} {sl21 : Array (Option Value)} {oc21 kV21 dc21 pm21 ct21 : Value}
    {cd21 : Value}
    {f22 : Addr} {od22 an22 : Option Addr} {sl22 : Array (Option Value)} {oc22 kV22 dc22 pm22 ct22 : Value}
    {cd22 : Value}
    {f23 : Addr} {od23 an23 : Option Addr} {sl23 : Array (Option Value)} {oc23 kV23 dc23 pm23 ct23 : Value}
    {cd23 : Value}
    {f24 : Addr} {od24 an24 : Option Addr} {sl24 : Array (Option Value)} {oc24 kV24 dc24 pm24 ct24 : Value}
    {cd24 : Value}
    {f25 : Addr} {od25 an25 : Option Addr} {sl25 : Array (Option Value)} {oc25 kV25 dc25 pm25 ct25 : Value}
    {cd25 : Value}
    {f26 : Addr} {od26 an26 : Option Addr} {sl26 : Array (Option Value)} {oc26 kV26 dc26 pm26 ct26 : Value}
    {cd26 : Value}
    {f27 : Addr} {od27 an27 : Option Addr} {sl27 : Array (Option Value)} {oc27 kV27 dc27 pm27 ct27 : Value}
    {cd27 : Value}
    {f28 : Addr} {od28 an28 : Option Addr} {sl28 : Array (Option Value)} {oc28 kV28 dc28 pm28 ct28 : Value}
    {cd28 : Value}
    {C0 : Addr}
    {C1 : Addr}
    {C2 : Addr}
    {C3 : Addr}
    (a0 : PySem.W.nsIn K mainGlobals "is_number" = some (some (.ref f0))) (l0 : K.lookup f0 = some ⟨oc0, od0, .func (PySem.W.fnOf "is_number" "is_number" (defArgs st_is_number) (defBody st_is_number) (defScope st_is_number) .none kV0 dc0 pm0 an0 cd0 ct0), sl0⟩) (c0 : PySem.W.codeIn K cd0 "is_number" = true) (k0 : PySem.W.keepIn K (.ref f0) = true)
    (a1 : PySem.W.nsIn K mainGlobals "is_tie" = some (some (.ref f1))) (l1 : K.lookup f1 = some ⟨oc1, od1, .func (PySem.W.fnOf "is_tie" "is_tie" (defArgs st_is_tie) (defBody st_is_tie) (defScope st_is_tie) .none kV1 dc1 pm1 an1 cd1 ct1), sl1⟩) (c1 : PySem.W.codeIn K cd1 "is_tie" = true) (k1 : PySem.W.keepIn K (.ref f1) = true)
    (a2 : PySem.W.nsIn K mainGlobals "rises" = some (some (.ref f2))) (l2 : K.lookup f2 = some ⟨oc2, od2, .func (PySem.W.fnOf "rises" "rises" (defArgs st_rises) (defBody st_rises) (defScope st_rises) .none kV2 dc2 pm2 an2 cd2 ct2), sl2⟩) (c2 : PySem.W.codeIn K cd2 "rises" = true) (k2 : PySem.W.keepIn K (.ref f2) = true)
    (a3 : PySem.W.nsIn K mainGlobals "is_web" = some (some (.ref f3))) (l3 : K.lookup f3 = some ⟨oc3, od3, .func (PySem.W.fnOf "is_web" "is_web" (defArgs st_is_web) (defBody st_is_web) (defScope st_is_web) .none kV3 dc3 pm3 an3 cd3 ct3), sl3⟩) (c3 : PySem.W.codeIn K cd3 "is_web" = true) (k3 : PySem.W.keepIn K (.ref f3) = true)
    (a4 : PySem.W.nsIn K mainGlobals "need_web" = some (some (.ref f4))) (l4 : K.lookup f4 = some ⟨oc4, od4, .func (PySem.W.fnOf "need_web" "need_web" (defArgs st_need_web) (defBody st_need_web) (defScope st_need_web) .none kV4 dc4 pm4 an4 cd4 ct4), sl4⟩) (c4 : PySem.W.codeIn K cd4 "need_web" = true) (k4 : PySem.W.keepIn K (.ref f4) = true)
    (a5 : PySem.W.nsIn K mainGlobals "need_place" = some (some (.ref f5))) (l5 : K.lookup f5 = some ⟨oc5, od5, .func (PySem.W.fnOf "need_place" "need_place" (defArgs st_need_place) (defBody st_need_place) (defScope st_need_place) .none kV5 dc5 pm5 an5 cd5 ct5), sl5⟩) (c5 : PySem.W.codeIn K cd5 "need_place" = true) (k5 : PySem.W.keepIn K (.ref f5) = true)
    (a6 : PySem.W.nsIn K mainGlobals "near" = some (some (.ref f6))) (l6 : K.lookup f6 = some ⟨oc6, od6, .func (PySem.W.fnOf "near" "near" (defArgs st_near) (defBody st_near) (defScope st_near) .none kV6 dc6 pm6 an6 cd6 ct6), sl6⟩) (c6 : PySem.W.codeIn K cd6 "near" = true) (k6 : PySem.W.keepIn K (.ref f6) = true)
    (a7 : PySem.W.nsIn K mainGlobals "steps_from" = some (some (.ref f7))) (l7 : K.lookup f7 = some ⟨oc7, od7, .func (PySem.W.fnOf "steps_from" "steps_from" (defArgs st_steps_from) (defBody st_steps_from) (defScope st_steps_from) .none kV7 dc7 pm7 an7 cd7 ct7), sl7⟩) (c7 : PySem.W.codeIn K cd7 "steps_from" = true) (k7 : PySem.W.keepIn K (.ref f7) = true)
    (a8 : PySem.W.nsIn K mainGlobals "hangs_together" = some (some (.ref f8))) (l8 : K.lookup f8 = some ⟨oc8, od8, .func (PySem.W.fnOf "hangs_together" "hangs_together" (defArgs st_hangs_together) (defBody st_hangs_together) (defScope st_hangs_together) .none kV8 dc8 pm8 an8 cd8 ct8), sl8⟩) (c8 : PySem.W.codeIn K cd8 "hangs_together" = true) (k8 : PySem.W.keepIn K (.ref f8) = true)
    (a9 : PySem.W.nsIn K mainGlobals "is_whole" = some (some (.ref f9))) (l9 : K.lookup f9 = some ⟨oc9, od9, .func (PySem.W.fnOf "is_whole" "is_whole" (defArgs st_is_whole) (defBody st_is_whole) (defScope st_is_whole) .none kV9 dc9 pm9 an9 cd9 ct9), sl9⟩) (c9 : PySem.W.codeIn K cd9 "is_whole" = true) (k9 : PySem.W.keepIn K (.ref f9) = true)
    (a10 : PySem.W.nsIn K mainGlobals "need_whole" = some (some (.ref f10))) (l10 : K.lookup f10 = some ⟨oc10, od10, .func (PySem.W.fnOf "need_whole" "need_whole" (defArgs st_need_whole) (defBody st_need_whole) (defScope st_need_whole) .none kV10 dc10 pm10 an10 cd10 ct10), sl10⟩) (c10 : PySem.W.codeIn K cd10 "need_whole" = true) (k10 : PySem.W.keepIn K (.ref f10) = true)
    (a11 : PySem.W.nsIn K mainGlobals "good_demands" = some (some (.ref f11))) (l11 : K.lookup f11 = some ⟨oc11, od11, .func (PySem.W.fnOf "good_demands" "good_demands" (defArgs st_good_demands) (defBody st_good_demands) (defScope st_good_demands) .none kV11 dc11 pm11 an11 cd11 ct11), sl11⟩) (c11 : PySem.W.codeIn K cd11 "good_demands" = true) (k11 : PySem.W.keepIn K (.ref f11) = true)
    (a12 : PySem.W.nsIn K mainGlobals "need_demands" = some (some (.ref f12))) (l12 : K.lookup f12 = some ⟨oc12, od12, .func (PySem.W.fnOf "need_demands" "need_demands" (defArgs st_need_demands) (defBody st_need_demands) (defScope st_need_demands) .none kV12 dc12 pm12 an12 cd12 ct12), sl12⟩) (c12 : PySem.W.codeIn K cd12 "need_demands" = true) (k12 : PySem.W.keepIn K (.ref f12) = true)
    (a13 : PySem.W.nsIn K mainGlobals "stack_of" = some (some (.ref f13))) (l13 : K.lookup f13 = some ⟨oc13, od13, .func (PySem.W.fnOf "stack_of" "stack_of" (defArgs st_stack_of) (defBody st_stack_of) (defScope st_stack_of) .none kV13 dc13 pm13 an13 cd13 ct13), sl13⟩) (c13 : PySem.W.codeIn K cd13 "stack_of" = true) (k13 : PySem.W.keepIn K (.ref f13) = true)
    (a14 : PySem.W.nsIn K mainGlobals "stack" = some (some (.ref f14))) (l14 : K.lookup f14 = some ⟨oc14, od14, .func (PySem.W.fnOf "stack" "stack" (defArgs st_stack) (defBody st_stack) (defScope st_stack) .none kV14 dc14 pm14 an14 cd14 ct14), sl14⟩) (c14 : PySem.W.codeIn K cd14 "stack" = true) (k14 : PySem.W.keepIn K (.ref f14) = true)
    (a15 : PySem.W.nsIn K mainGlobals "most_stacked" = some (some (.ref f15))) (l15 : K.lookup f15 = some ⟨oc15, od15, .func (PySem.W.fnOf "most_stacked" "most_stacked" (defArgs st_most_stacked) (defBody st_most_stacked) (defScope st_most_stacked) .none kV15 dc15 pm15 an15 cd15 ct15), sl15⟩) (c15 : PySem.W.codeIn K cd15 "most_stacked" = true) (k15 : PySem.W.keepIn K (.ref f15) = true)
    (a16 : PySem.W.nsIn K mainGlobals "greatest_stack" = some (some (.ref f16))) (l16 : K.lookup f16 = some ⟨oc16, od16, .func (PySem.W.fnOf "greatest_stack" "greatest_stack" (defArgs st_greatest_stack) (defBody st_greatest_stack) (defScope st_greatest_stack) .none kV16 dc16 pm16 an16 cd16 ct16), sl16⟩) (c16 : PySem.W.codeIn K cd16 "greatest_stack" = true) (k16 : PySem.W.keepIn K (.ref f16) = true)
    (a17 : PySem.W.nsIn K mainGlobals "stack_worst" = some (some (.ref f17))) (l17 : K.lookup f17 = some ⟨oc17, od17, .func (PySem.W.fnOf "stack_worst" "stack_worst" (defArgs st_stack_worst) (defBody st_stack_worst) (defScope st_stack_worst) .none kV17 dc17 pm17 an17 cd17 ct17), sl17⟩) (c17 : PySem.W.codeIn K cd17 "stack_worst" = true) (k17 : PySem.W.keepIn K (.ref f17) = true)
    (a18 : PySem.W.nsIn K mainGlobals "_law_cell_at" = some (some (.ref f18))) (l18 : K.lookup f18 = some ⟨oc18, od18, .func (PySem.W.fnOf "_law_cell_at" "_law_cell_at" (defArgs st__law_cell_at) (defBody st__law_cell_at) (defScope st__law_cell_at) .none kV18 dc18 pm18 an18 cd18 ct18), sl18⟩) (c18 : PySem.W.codeIn K cd18 "_law_cell_at" = true) (k18 : PySem.W.keepIn K (.ref f18) = true)
    (a19 : PySem.W.nsIn K mainGlobals "_law_draw" = some (some (.ref f19))) (l19 : K.lookup f19 = some ⟨oc19, od19, .func (PySem.W.fnOf "_law_draw" "_law_draw" (defArgs st__law_draw) (defBody st__law_draw) (defScope st__law_draw) .none kV19 dc19 pm19 an19 cd19 ct19), sl19⟩) (c19 : PySem.W.codeIn K cd19 "_law_draw" = true) (k19 : PySem.W.keepIn K (.ref f19) = true)
    (a20 : PySem.W.nsIn K mainGlobals "_law_whole" = some (some (.ref f20))) (l20 : K.lookup f20 = some ⟨oc20, od20, .func (PySem.W.fnOf "_law_whole" "_law_whole" (defArgs st__law_whole) (defBody st__law_whole) (defScope st__law_whole) .none kV20 dc20 pm20 an20 cd20 ct20), sl20⟩) (c20 : PySem.W.codeIn K cd20 "_law_whole" = true) (k20 : PySem.W.keepIn K (.ref f20) = true)
    (a21 : PySem.W.nsIn K mainGlobals "_law_turn" = some (some (.ref f21))) (l21 : K.lookup f21 = some ⟨oc21, od21, .func (PySem.W.fnOf "_law_turn" "_law_turn" (defArgs st__law_turn) (defBody st__law_turn) (defScope st__law_turn) .none kV21 dc21 pm21 an21 cd21 ct21), sl21⟩) (c21 : PySem.W.codeIn K cd21 "_law_turn" = true) (k21 : PySem.W.keepIn K (.ref f21) = true)
    (a22 : PySem.W.nsIn K mainGlobals "_law_tree" = some (some (.ref f22))) (l22 : K.lookup f22 = some ⟨oc22, od22, .func (PySem.W.fnOf "_law_tree" "_law_tree" (defArgs st__law_tree) (defBody st__law_tree) (defScope st__law_tree) .none kV22 dc22 pm22 an22 cd22 ct22), sl22⟩) (c22 : PySem.W.codeIn K cd22 "_law_tree" = true) (k22 : PySem.W.keepIn K (.ref f22) = true)
    (a23 : PySem.W.nsIn K mainGlobals "_law_web" = some (some (.ref f23))) (l23 : K.lookup f23 = some ⟨oc23, od23, .func (PySem.W.fnOf "_law_web" "_law_web" (defArgs st__law_web) (defBody st__law_web) (defScope st__law_web) .none kV23 dc23 pm23 an23 cd23 ct23), sl23⟩) (c23 : PySem.W.codeIn K cd23 "_law_web" = true) (k23 : PySem.W.keepIn K (.ref f23) = true)
    (a24 : PySem.W.nsIn K mainGlobals "_law_near" = some (some (.ref f24))) (l24 : K.lookup f24 = some ⟨oc24, od24, .func (PySem.W.fnOf "_law_near" "_law_near" (defArgs st__law_near) (defBody st__law_near) (defScope st__law_near) .none kV24 dc24 pm24 an24 cd24 ct24), sl24⟩) (c24 : PySem.W.codeIn K cd24 "_law_near" = true) (k24 : PySem.W.keepIn K (.ref f24) = true)
    (a25 : PySem.W.nsIn K mainGlobals "_law_far_from" = some (some (.ref f25))) (l25 : K.lookup f25 = some ⟨oc25, od25, .func (PySem.W.fnOf "_law_far_from" "_law_far_from" (defArgs st__law_far_from) (defBody st__law_far_from) (defScope st__law_far_from) .none kV25 dc25 pm25 an25 cd25 ct25), sl25⟩) (c25 : PySem.W.codeIn K cd25 "_law_far_from" = true) (k25 : PySem.W.keepIn K (.ref f25) = true)
    (a26 : PySem.W.nsIn K mainGlobals "_law_demands" = some (some (.ref f26))) (l26 : K.lookup f26 = some ⟨oc26, od26, .func (PySem.W.fnOf "_law_demands" "_law_demands" (defArgs st__law_demands) (defBody st__law_demands) (defScope st__law_demands) .none kV26 dc26 pm26 an26 cd26 ct26), sl26⟩) (c26 : PySem.W.codeIn K cd26 "_law_demands" = true) (k26 : PySem.W.keepIn K (.ref f26) = true)
    (a27 : PySem.W.nsIn K mainGlobals "_law_doubled" = some (some (.ref f27))) (l27 : K.lookup f27 = some ⟨oc27, od27, .func (PySem.W.fnOf "_law_doubled" "_law_doubled" (defArgs st__law_doubled) (defBody st__law_doubled) (defScope st__law_doubled) .none kV27 dc27 pm27 an27 cd27 ct27), sl27⟩) (c27 : PySem.W.codeIn K cd27 "_law_doubled" = true) (k27 : PySem.W.keepIn K (.ref f27) = true)
    (a28 : PySem.W.nsIn K mainGlobals "law" = some (some (.ref f28))) (l28 : K.lookup f28 = some ⟨oc28, od28, .func (PySem.W.fnOf "law" "law" (defArgs st_law) (defBody st_law) (defScope st_law) .none kV28 dc28 pm28 an28 cd28 ct28), sl28⟩) (c28 : PySem.W.codeIn K cd28 "law" = true) (k28 : PySem.W.keepIn K (.ref f28) = true)
    (z0 : PySem.W.nsIn K mainGlobals "isinstance" = some none)
    (z1 : PySem.W.nsIn K mainGlobals "int" = some none)
    (z2 : PySem.W.nsIn K mainGlobals "bool" = some none)
    (z3 : PySem.W.nsIn K mainGlobals "tuple" = some none)
    (z4 : PySem.W.nsIn K mainGlobals "len" = some none)
    (z5 : PySem.W.nsIn K mainGlobals "all" = some none)
    (z6 : PySem.W.nsIn K mainGlobals "range" = some none)
    (z7 : PySem.W.nsIn K mainGlobals "sorted" = some none)
    (z8 : PySem.W.nsIn K mainGlobals "sum" = some none)
    (z9 : PySem.W.nsIn K mainGlobals "max" = some none)
    (z10 : PySem.W.nsIn K mainGlobals "min" = some none)
    (z11 : PySem.W.nsIn K mainGlobals "list" = some none)
    (e0 : PySem.W.nsIn K mainGlobals "NoWeb" = some (some (.ref C0))) (x0 : PySem.W.excIn K C0 [.type "ValueError", .type "Exception", .type "BaseException", .type "object"] "ValueError.__new__" = true) (ek0 : PySem.W.keepIn K (.ref C0) = true) (es0 : PySem.W.subIn K (.ref C0) (.type "BaseException") = some true) (et0 : PySem.W.typeIn K (.ref C0) = some (.type "type"))
    (e1 : PySem.W.nsIn K mainGlobals "NoPlace" = some (some (.ref C1))) (x1 : PySem.W.excIn K C1 [.type "ValueError", .type "Exception", .type "BaseException", .type "object"] "ValueError.__new__" = true) (ek1 : PySem.W.keepIn K (.ref C1) = true) (es1 : PySem.W.subIn K (.ref C1) (.type "BaseException") = some true) (et1 : PySem.W.typeIn K (.ref C1) = some (.type "type"))
    (e2 : PySem.W.nsIn K mainGlobals "NotWhole" = some (some (.ref C2))) (x2 : PySem.W.excIn K C2 [.type "ValueError", .type "Exception", .type "BaseException", .type "object"] "ValueError.__new__" = true) (ek2 : PySem.W.keepIn K (.ref C2) = true) (es2 : PySem.W.subIn K (.ref C2) (.type "BaseException") = some true) (et2 : PySem.W.typeIn K (.ref C2) = some (.type "type"))
    (e3 : PySem.W.nsIn K mainGlobals "NoDemands" = some (some (.ref C3))) (x3 : PySem.W.excIn K C3 [.type "ValueError", .type "Exception", .type "BaseException", .type "object"] "ValueError.__new__" = true) (ek3 : PySem.W.keepIn K (.ref C3) = true) (es3 : PySem.W.subIn K (.ref C3) (.type "BaseException") = some true) (et3 : PySem.W.typeIn K (.ref C3) = some (.type "type"))
    (yg0 : ∃ t, PySem.W.nsIn K mainGlobals "MOST_PLACES" = some (some (.int 40 t)))
    (yg1 : ∃ t, PySem.W.nsIn K mainGlobals "MOST_WANTED" = some (some (.int 1000 t))) :
    ∃ fd : FuncData, (∀ (s : Shared) (v : Value), BindsTo s fd ⟨[v], []⟩ [("_law_script", v)]) ∧ ∀ base : Heap, K.In base → base.Ns mainGlobals mg → FnOk P w K mg base (L2.CX P w) 9 fa fd ["_law_script"] (spLaw K) := by
  have e := hfa.symm.trans (PySem.W.mg_of X G a28)
  cases e
  refine ⟨PySem.W.fnOf "law" "law" (defArgs st_law) (defBody st_law) (defScope st_law) .none kV28 dc28 pm28 an28 cd28 ct28, fun s v => .of_eq rfl, fun base _ _ => ?_⟩
  have F : Fct K mg base [] := {
    d_is_number := ⟨_, _, PySem.W.mg_of X G a0, fun_mk (st := st_is_number) l0 c0 k0, (fun_mk (st := st_is_number) l0 c0 k0).binds (ps := ["thing", "least", "below"]) fun _ _ _ _ _ _ us hl => match us, hl with | [_, _, _], _ => rfl⟩,
    d_is_tie := ⟨_, _, PySem.W.mg_of X G a1, fun_mk (st := st_is_tie) l1 c1 k1, (fun_mk (st := st_is_tie) l1 c1 k1).binds (ps := ["many", "thing"]) fun _ _ _ _ _ _ us hl => match us, hl with | [_, _], _ => rfl⟩,
    d_rises := ⟨_, _, PySem.W.mg_of X G a2, fun_mk (st := st_rises) l2 c2 k2, (fun_mk (st := st_rises) l2 c2 k2).binds (ps := ["some"]) fun _ _ _ _ _ _ us hl => match us, hl with | [_], _ => rfl⟩,
    d_is_web := ⟨_, _, PySem.W.mg_of X G a3, fun_mk (st := st_is_web) l3 c3 k3, (fun_mk (st := st_is_web) l3 c3 k3).binds (ps := ["thing"]) fun _ _ _ _ _ _ us hl => match us, hl with | [_], _ => rfl⟩,
    d_need_web := ⟨_, _, PySem.W.mg_of X G a4, fun_mk (st := st_need_web) l4 c4 k4, (fun_mk (st := st_need_web) l4 c4 k4).binds (ps := ["web"]) fun _ _ _ _ _ _ us hl => match us, hl with | [_], _ => rfl⟩,
    d_need_place := ⟨_, _, PySem.W.mg_of X G a5, fun_mk (st := st_need_place) l5 c5 k5, (fun_mk (st := st_need_place) l5 c5 k5).binds (ps := ["web", "place"]) fun _ _ _ _ _ _ us hl => match us, hl with | [_, _], _ => rfl⟩,
    d_near := ⟨_, _, PySem.W.mg_of X G a6, fun_mk (st := st_near) l6 c6 k6, (fun_mk (st := st_near) l6 c6 k6).binds (ps := ["web"]) fun _ _ _ _ _ _ us hl => match us, hl with | [_], _ => rfl⟩,
    d_steps_from := ⟨_, _, PySem.W.mg_of X G a7, fun_mk (st := st_steps_from) l7 c7 k7, (fun_mk (st := st_steps_from) l7 c7 k7).binds (ps := ["web", "place"]) fun _ _ _ _ _ _ us hl => match us, hl with | [_, _], _ => rfl⟩,
    d_hangs_together := ⟨_, _, PySem.W.mg_of X G a8, fun_mk (st := st_hangs_together) l8 c8 k8, (fun_mk (st := st_hangs_together) l8 c8 k8).binds (ps := ["web"]) fun _ _ _ _ _ _ us hl => match us, hl with | [_], _ => rfl⟩,
    d_is_whole := ⟨_, _, PySem.W.mg_of X G a9, fun_mk (st := st_is_whole) l9 c9 k9, (fun_mk (st := st_is_whole) l9 c9 k9).binds (ps := ["web"]) fun _ _ _ _ _ _ us hl => match us, hl with | [_], _ => rfl⟩,
    d_need_whole := ⟨_, _, PySem.W.mg_of X G a10, fun_mk (st := st_need_whole) l10 c10 k10, (fun_mk (st := st_need_whole) l10 c10 k10).binds (ps := ["web"]) fun _ _ _ _ _ _ us hl => match us, hl with | [_], _ => rfl⟩,
    d_good_demands := ⟨_, _, PySem.W.mg_of X G a11, fun_mk (st := st_good_demands) l11 c11 k11, (fun_mk (st := st_good_demands) l11 c11 k11).binds (ps := ["web", "thing"]) fun _ _ _ _ _ _ us hl => match us, hl with | [_, _], _ => rfl⟩,
    d_need_demands := ⟨_, _, PySem.W.mg_of X G a12, fun_mk (st := st_need_demands) l12 c12 k12, (fun_mk (st := st_need_demands) l12 c12 k12).binds (ps := ["web", "demands"]) fun _ _ _ _ _ _ us hl => match us, hl with | [_, _], _ => rfl⟩,
    d_stack_of := ⟨_, _, PySem.W.mg_of X G a13, fun_mk (st := st_stack_of) l13 c13 k13, (fun_mk (st := st_stack_of) l13 c13 k13).binds (ps := ["web", "demands", "place"]) fun _ _ _ _ _ _ us hl => match us, hl with | [_, _, _], _ => rfl⟩,
    d_stack := ⟨_, _, PySem.W.mg_of X G a14, fun_mk (st := st_stack) l14 c14 k14, (fun_mk (st := st_stack) l14 c14 k14).binds (ps := ["web", "demands", "place"]) fun _ _ _ _ _ _ us hl => match us, hl with | [_, _, _], _ => rfl⟩,
    d_most_stacked := ⟨_, _, PySem.W.mg_of X G a15, fun_mk (st := st_most_stacked) l15 c15 k15, (fun_mk (st := st_most_stacked) l15 c15 k15).binds (ps := ["web", "demands"]) fun _ _ _ _ _ _ us hl => match us, hl with | [_, _], _ => rfl⟩,
    d_greatest_stack := ⟨_, _, PySem.W.mg_of X G a16, fun_mk (st := st_greatest_stack) l16 c16 k16, (fun_mk (st := st_greatest_stack) l16 c16 k16).binds (ps := ["web", "demands"]) fun _ _ _ _ _ _ us hl => match us, hl with | [_, _], _ => rfl⟩,
    d_stack_worst := ⟨_, _, PySem.W.mg_of X G a17, fun_mk (st := st_stack_worst) l17 c17 k17, (fun_mk (st := st_stack_worst) l17 c17 k17).binds (ps := ["web", "demands"]) fun _ _ _ _ _ _ us hl => match us, hl with | [_, _], _ => rfl⟩,
    d__law_cell_at := ⟨_, _, PySem.W.mg_of X G a18, fun_mk (st := st__law_cell_at) l18 c18 k18, (fun_mk (st := st__law_cell_at) l18 c18 k18).binds (ps := ["_law_script", "_law_k"]) fun _ _ _ _ _ _ us hl => match us, hl with | [_, _], _ => rfl⟩,
    d__law_draw := ⟨_, _, PySem.W.mg_of X G a19, fun_mk (st := st__law_draw) l19 c19 k19, (fun_mk (st := st__law_draw) l19 c19 k19).binds (ps := ["_law_cell", "_law_k", "_law_bound"]) fun _ _ _ _ _ _ us hl => match us, hl with | [_, _, _], _ => rfl⟩,
    d__law_whole := ⟨_, _, PySem.W.mg_of X G a20, fun_mk (st := st__law_whole) l20 c20 k20, (fun_mk (st := st__law_whole) l20 c20 k20).binds (ps := ["_law_found"]) fun _ _ _ _ _ _ us hl => match us, hl with | [_], _ => rfl⟩,
    d__law_turn := ⟨_, _, PySem.W.mg_of X G a21, fun_mk (st := st__law_turn) l21 c21 k21, (fun_mk (st := st__law_turn) l21 c21 k21).binds (ps := ["_law_cell", "_law_many"]) fun _ _ _ _ _ _ us hl => match us, hl with | [_, _], _ => rfl⟩,
    d__law_tree := ⟨_, _, PySem.W.mg_of X G a22, fun_mk (st := st__law_tree) l22 c22 k22, (fun_mk (st := st__law_tree) l22 c22 k22).binds (ps := ["_law_cell", "_law_most"]) fun _ _ _ _ _ _ us hl => match us, hl with | [_, _], _ => rfl⟩,
    d__law_web := ⟨_, _, PySem.W.mg_of X G a23, fun_mk (st := st__law_web) l23 c23 k23, (fun_mk (st := st__law_web) l23 c23 k23).binds (ps := ["_law_cell", "_law_most"]) fun _ _ _ _ _ _ us hl => match us, hl with | [_, _], _ => rfl⟩,
    d__law_near := ⟨_, _, PySem.W.mg_of X G a24, fun_mk (st := st__law_near) l24 c24 k24, (fun_mk (st := st__law_near) l24 c24 k24).binds (ps := ["_law_web_here", "_law_place"]) fun _ _ _ _ _ _ us hl => match us, hl with | [_, _], _ => rfl⟩,
    d__law_far_from := ⟨_, _, PySem.W.mg_of X G a25, fun_mk (st := st__law_far_from) l25 c25 k25, (fun_mk (st := st__law_far_from) l25 c25 k25).binds (ps := ["_law_web_here", "_law_place"]) fun _ _ _ _ _ _ us hl => match us, hl with | [_, _], _ => rfl⟩,
    d__law_demands := ⟨_, _, PySem.W.mg_of X G a26, fun_mk (st := st__law_demands) l26 c26 k26, (fun_mk (st := st__law_demands) l26 c26 k26).binds (ps := ["_law_cell", "_law_many"]) fun _ _ _ _ _ _ us hl => match us, hl with | [_, _], _ => rfl⟩,
    d__law_doubled := ⟨_, _, PySem.W.mg_of X G a27, fun_mk (st := st__law_doubled) l27 c27 k27, (fun_mk (st := st__law_doubled) l27 c27 k27).binds (ps := ["_law_many", "_law_times"]) fun _ _ _ _ _ _ us hl => match us, hl with | [_, _], _ => rfl⟩,
    d_law := ⟨_, _, PySem.W.mg_of X G a28, fun_mk (st := st_law) l28 c28 k28, (fun_mk (st := st_law) l28 c28 k28).binds (ps := ["_law_script"]) fun _ _ _ _ _ _ us hl => match us, hl with | [_], _ => rfl⟩,
    b_isinstance := PySem.W.mg_none_of X G z0,
    b_int := PySem.W.mg_none_of X G z1,
    b_bool := PySem.W.mg_none_of X G z2,
    b_tuple := PySem.W.mg_none_of X G z3,
    b_len := PySem.W.mg_none_of X G z4,
    b_all := PySem.W.mg_none_of X G z5,
    b_range := PySem.W.mg_none_of X G z6,
    b_sorted := PySem.W.mg_none_of X G z7,
    b_sum := PySem.W.mg_none_of X G z8,
    b_max := PySem.W.mg_none_of X G z9,
    b_min := PySem.W.mg_none_of X G z10,
    b_list := PySem.W.mg_none_of X G z11,
    e_NoWeb := ⟨_, PySem.W.mg_of X G e0, x0, ek0, es0, et0⟩,
    e_NoPlace := ⟨_, PySem.W.mg_of X G e1, x1, ek1, es1, et1⟩,
    e_NotWhole := ⟨_, PySem.W.mg_of X G e2, x2, ek2, es2, et2⟩,
    e_NoDemands := ⟨_, PySem.W.mg_of X G e3, x3, ek3, es3, et3⟩,
    c_MOST_PLACES := let ⟨t, h⟩ := yg0; ⟨t, PySem.W.mg_of X G h⟩,
    c_MOST_WANTED := let ⟨t, h⟩ := yg1; ⟨t, PySem.W.mg_of X G h⟩ }
  exact law_fn (fn_law F (fun_mk l28 c28 k28)) law_true
end K52
open PySem PySem.W PyProof.Rows
set_option maxHeartbeats 0 in
theorem PySem.Challenge.cw_pebblewebs_k52_stacks_holds : PySem.Challenge.rw_pebblewebs_k52_stacks.Holds := by
  w_on; o_law; k_head; (case hw => w_witness2)
  k_fill
  refine L2.walk_of (l := PySem.Challenge.rw_pebblewebs_k52_stacks) (n := 63) (k := 9) (x := "_law_script") (CX := fun w => L2.CX PySem.Challenge.pw_pebblewebs_k52_stacks w) (sp := fun w => PB.spLaw _) rfl (by decide) rfl ⟨rfl, by decide, by decide⟩ (fun w h Y => PySem.W.kIn_of Y) ?F (fun _ _ a ns hl _ hS => ⟨a, ns, rfl, hS, hl, fun _ => rfl⟩) (fun _ _ _ _ _ ⟨_, _, _, _, _, _, _, _, _, _, _, _, h⟩ => h)
  case F =>
    intro w mg fa h KX G hmg
    refine' K52.all_mk KX G hmg ?a0 ?l0 ?c0 ?k0 ?a1 ?l1 ?c1 ?k1 ?a2 ?l2 ?c2 ?k2 ?a3 ?l3 ?c3 ?k3 ?a4 ?l4 ?c4 ?k4 ?a5 ?l5 ?c5 ?k5 ?a6 ?l6 ?c6 ?k6 ?a7 ?l7 ?c7 ?k7 ?a8 ?l8 ?c8 ?k8 ?a9 ?l9 ?c9 ?k9 ?a10 ?l10 ?c10 ?k10 ?a11 ?l11 ?c11 ?k11 ?a12 ?l12 ?c12 ?k12 ?a13 ?l13 ?c13 ?k13 ?a14 ?l14 ?c14 ?k14 ?a15 ?l15 ?c15 ?k15 ?a16 ?l16 ?c16 ?k16 ?a17 ?l17 ?c17 ?k17 ?a18 ?l18 ?c18 ?k18 ?a19 ?l19 ?c19 ?k19 ?a20 ?l20 ?c20 ?k20 ?a21 ?l21 ?c21 ?k21 ?a22 ?l22 ?c22 ?k22 ?a23 ?l23 ?c23 ?k23 ?a24 ?l24 ?c24 ?k24 ?a25 ?l25 ?c25 ?k25 ?a26 ?l26 ?c26 ?k26 ?a27 ?l27 ?c27 ?k27 ?a28 ?l28 ?c28 ?k28 ?z0 ?z1 ?z2 ?z3 ?z4 ?z5 ?z6 ?z7 ?z8 ?z9 ?z10 ?z11 ?e0 ?x0 ?ek0 ?es0 ?et0 ?e1 ?x1 ?ek1 ?es1 ?et1 ?e2 ?x2 ?ek2 ?es2 ?et2 ?e3 ?x3 ?ek3 ?es3 ?et3 ?yg0 ?yg1
    (case a0 => k_is)
    (case l0 => k_is)
    (case c0 => k_is)
    (case k0 => k_is)
    (case a1 => k_is)
    (case l1 => k_is)
    (case c1 => k_is)
    (case k1 => k_is)
    (case a2 => k_is)
    (case l2 => k_is)
    (case c2 => k_is)
    (case k2 => k_is)
    (case a3 => k_is)
    (case l3 => k_is)
    (case c3 => k_is)
    (case k3 => k_is)
    (case a4 => k_is)
    (case l4 => k_is)
    (case c4 => k_is)
    (case k4 => k_is)
    (case a5 => k_is)
    (case l5 => k_is)
    (case c5 => k_is)
    (case k5 => k_is)
    (case a6 => k_is)
    (case l6 => k_is)
    (case c6 => k_is)
    (case k6 => k_is)
    (case a7 => k_is)
    (case l7 => k_is)
    (case c7 => k_is)
    (case k7 => k_is)
    (case a8 => k_is)
    (case l8 => k_is)
    (case c8 => k_is)
    (case k8 => k_is)
    (case a9 => k_is)
    (case l9 => k_is)
    (case c9 => k_is)
    (case k9 => k_is)
    (case a10 => k_is)
    (case l10 => k_is)
    (case c10 => k_is)
    (case k10 => k_is)
    (case a11 => k_is)
    (case l11 => k_is)
    (case c11 => k_is)
    (case k11 => k_is)
    (case a12 => k_is)
    (case l12 => k_is)
    (case c12 => k_is)
    (case k12 => k_is)
    (case a13 => k_is)
    (case l13 => k_is)
    (case c13 => k_is)
    (case k13 => k_is)
    (case a14 => k_is)
    (case l14 => k_is)
    (case c14 => k_is)
    (case k14 => k_is)
    (case a15 => k_is)
    (case l15 => k_is)
    (case c15 => k_is)
    (case k15 => k_is)
    (case a16 => k_is)
    (case l16 => k_is)
    (case c16 => k_is)
    (case k16 => k_is)
    (case a17 => k_is)
    (case l17 => k_is)
    (case c17 => k_is)
    (case k17 => k_is)
    (case a18 => k_is)
    (case l18 => k_is)
    (case c18 => k_is)
    (case k18 => k_is)
    (case a19 => k_is)
    (case l19 => k_is)
    (case c19 => k_is)
    (case k19 => k_is)
    (case a20 => k_is)
    (case l20 => k_is)
    (case c20 => k_is)
    (case k20 => k_is)
    (case a21 => k_is)
    (case l21 => k_is)
    (case c21 => k_is)
    (case k21 => k_is)
    (case a22 => k_is)
    (case l22 => k_is)
    (case c22 => k_is)
    (case k22 => k_is)
    (case a23 => k_is)
    (case l23 => k_is)
    (case c23 => k_is)
    (case k23 => k_is)
    (case a24 => k_is)
    (case l24 => k_is)
    (case c24 => k_is)
    (case k24 => k_is)
    (case a25 => k_is)
    (case l25 => k_is)
    (case c25 => k_is)
    (case k25 => k_is)
    (case a26 => k_is)
    (case l26 => k_is)
    (case c26 => k_is)
    (case k26 => k_is)
    (case a27 => k_is)
    (case l27 => k_is)
    (case c27 => k_is)
    (case k27 => k_is)
    (case a28 => k_is)
    (case l28 => k_is)
    (case c28 => k_is)
    (case k28 => k_is)
    (case z0 => k_is)
    (case z1 => k_is)
    (case z2 => k_is)
    (case z3 => k_is)
    (case z4 => k_is)
    (case z5 => k_is)
    (case z6 => k_is)
    (case z7 => k_is)
    (case z8 => k_is)
    (case z9 => k_is)
    (case z10 => k_is)
    (case z11 => k_is)
    (case e0 => k_is)
    (case x0 => k_exc)
    (case ek0 => k_is)
    (case es0 => k_is)
    (case et0 => k_is)
    (case e1 => k_is)
    (case x1 => k_exc)
    (case ek1 => k_is)
    (case es1 => k_is)
    (case et1 => k_is)
    (case e2 => k_is)
    (case x2 => k_exc)
    (case ek2 => k_is)
    (case es2 => k_is)
    (case et2 => k_is)
    (case e3 => k_is)
    (case x3 => k_exc)
    (case ek3 => k_is)
    (case es3 => k_is)
    (case et3 => k_is)
    (case yg0 => exact ⟨_, by k_is⟩)
    (case yg1 => exact ⟨_, by k_is⟩)

