import PyProof.Rows.All
import Wide.All
import OpenK.AllK
import Wide.FinOn
import HandS.ForMost
import HandS.ForExc
import HandS.TupAny
import HandS.TupMul
import HandS.Deep
import HandS.Flow
import KE.DataEq
import KE.DataMinMax
import KE.DataAny
import KE.DataFind
import KE.KTupSum
import KE.SortData
import HandS.WordsDict
import HandS.TupLen
import HandS.Style
import HandS.NoneIn
import HandS.Zip
import KE.GoesEnum
import HandS.ExcOwn
import HandS.HotCalls
import HandS.ExcIs
import HandS.TryOnly
import HandS.Words
import HandS.WordsExc
import HandS.Star
import HandS.Conv
import HandS.Ends
import PySem.Challenge.RW_partedmaps_k32_rings_and_their_cuts
set_option Elab.async false
set_option linter.all false
set_option maxRecDepth 100000
/-! DT: data trees: frames of slots, exclusive containers, the relation with the abstract heap -/
namespace DT
open PySem PySem.Spec PyProof.Rows L2

abbrev D := PyData

/-- an exclusive container -/
inductive Con where
  | lst (xs : List D)
  | dK (kvs : List (Key × D))
  | dT (kvs : List (List Key × D))

inductive Slot where
  | un
  | val (b : Bool) (d : D)
  | own (b : Bool) (c : Con)
  | lk (b : Bool) (c : Con)
  | rol (xs : List D)
  | exn (a : Addr)

/-- an expression's value: data; a new container; the container of slot i -/
inductive Wv where
  | val (d : D)
  | new (c : Con)
  | bor (i : Nat)
  | rol (xs : List D)

abbrev Sl := List Slot

/-- an exception: its class by number; with a field -/
inductive Xn where
  | pl (c : Nat)
  | fld (c : Nat) (f : Str) (i : Int)

inductive Rs (α : Type) where
  | ok (a : α) (s : Sl)
  | ex (x : Xn) (s : Sl)
abbrev M (α : Type) := Sl → Option (Rs α)

/-! ### data and heaps -/
mutual
inductive Dv (K : PySem.W.Frag) (G : Hp) : V → D → Prop
  | non : Dv K G .non .none
  | bl (b : Bool) : Dv K G (.bl b) (.bool b)
  | int (i : Int) : Dv K G (.int i) (.int i)
  | str (x : Str) : Dv K G (.str x) (.str x)
  | lst {a : Addr} {xs : List V} {ds : List D} : G a = some (.lst xs) → DvAll K G xs ds → Dv K G (.ref a) (.list ds)
  | tup {a : Addr} {xs : List V} {ds : List D} : G a = some (.tup xs) → DvAll K G xs ds → Dv K G (.ref a) (.tuple ds)
inductive DvAll (K : PySem.W.Frag) (G : Hp) : List V → List D → Prop
  | nil : DvAll K G [] []
  | cons {v : V} {vs : List V} {d : D} {ds : List D} : Dv K G v d → DvAll K G vs ds → DvAll K G (v :: vs) (d :: ds)
end

section
variable {K : PySem.W.Frag} {G G' H : Hp}
mutual
theorem Dv.mono (s : Same G G') : ∀ {v : V} {d : D}, Dv K G v d → Dv K G' v d
  | _, _, .non => .non
  | _, _, .bl b => .bl b
  | _, _, .int i => .int i
  | _, _, .str x => .str x
  | _, _, .lst h t => .lst (s _ _ h) (DvAll.mono s t)
  | _, _, .tup h t => .tup (s _ _ h) (DvAll.mono s t)
theorem DvAll.mono (s : Same G G') : ∀ {vs : List V} {ds : List D}, DvAll K G vs ds → DvAll K G' vs ds
  | _, _, .nil => .nil
  | _, _, .cons h t => .cons (Dv.mono s h) (DvAll.mono s t)
end
mutual
theorem Dv.dp (s : Same G H) : ∀ {v : V} {d : D}, Dv K G v d → Dp K H v d
  | _, _, .non => .non
  | _, _, .bl b => .bl b
  | _, _, .int i => .int i
  | _, _, .str x => .str x
  | _, _, .lst h t => .lst (.of (s _ _ h)) (DvAll.dp s t)
  | _, _, .tup h t => .tup (.inl (.inl (s _ _ h))) (DvAll.dp s t)
theorem DvAll.dp (s : Same G H) : ∀ {vs : List V} {ds : List D}, DvAll K G vs ds → DpAll K H vs ds
  | _, _, .nil => .nil
  | _, _, .cons h t => .cons (Dv.dp s h) (DvAll.dp s t)
end
theorem DvAll.length : ∀ {vs : List V} {ds : List D}, DvAll K G vs ds → vs.length = ds.length
  | _, _, .nil => rfl
  | _, _, .cons _ t => by simp [DvAll.length t]
theorem DvAll.append : ∀ {vs ws : List V} {ds es : List D}, DvAll K G vs ds → DvAll K G ws es → DvAll K G (vs ++ ws) (ds ++ es)
  | _, _, _, _, .nil, h => h
  | _, _, _, _, .cons a t, h => .cons a (DvAll.append t h)
theorem DvAll.get : ∀ {vs : List V} {ds : List D} {i : Nat} {v : V}, DvAll K G vs ds → vs[i]? = some v → ∃ d, ds[i]? = some d ∧ Dv K G v d
  | _, _, _, _, .nil, e => by simp at e
  | _, _, 0, _, .cons h _, e => by simp at e; subst e; exact ⟨_, rfl, h⟩
  | _, _, i + 1, _, .cons _ t, e => by
    obtain ⟨d, h1, h2⟩ := DvAll.get (i := i) t (by simpa using e)
    exact ⟨d, by simpa using h1, h2⟩
theorem DvAll.get' : ∀ {vs : List V} {ds : List D} {i : Nat} {d : D}, DvAll K G vs ds → ds[i]? = some d → ∃ v, vs[i]? = some v ∧ Dv K G v d
  | _, _, _, _, .nil, e => by simp at e
  | _, _, 0, _, .cons h _, e => by simp at e; subst e; exact ⟨_, rfl, h⟩
  | _, _, i + 1, _, .cons _ t, e => by
    obtain ⟨d, h1, h2⟩ := DvAll.get' (i := i) t (by simpa using e)
    exact ⟨d, by simpa using h1, h2⟩
theorem DvAll.set : ∀ {vs : List V} {ds : List D} {v : V} {d : D} (i : Nat), DvAll K G vs ds → Dv K G v d → DvAll K G (vs.set i v) (ds.set i d)
  | _, _, _, _, _, .nil, _ => .nil
  | _, _, _, _, 0, .cons _ t, h => .cons h t
  | _, _, _, _, i + 1, .cons a t, h => .cons a (DvAll.set i t h)
theorem DvAll.take : ∀ {vs : List V} {ds : List D} (n : Nat), DvAll K G vs ds → DvAll K G (vs.take n) (ds.take n)
  | _, _, 0, _ => .nil
  | _, _, _ + 1, .nil => .nil
  | _, _, n + 1, .cons a t => .cons a (DvAll.take n t)
theorem DvAll.drop : ∀ {vs : List V} {ds : List D} (n : Nat), DvAll K G vs ds → DvAll K G (vs.drop n) (ds.drop n)
  | _, _, 0, h => h
  | _, _, _ + 1, .nil => .nil
  | _, _, n + 1, .cons _ t => DvAll.drop n t
theorem DvAll.reverse {vs : List V} {ds : List D} (h : DvAll K G vs ds) : DvAll K G vs.reverse ds.reverse := by
  induction vs generalizing ds with
  | nil => cases h; exact .nil
  | cons v vs ih =>
    cases h with
    | cons a t => rw [List.reverse_cons, List.reverse_cons]; exact (ih t).append (.cons a .nil)
theorem DvAll.dropLast {vs : List V} {ds : List D} (h : DvAll K G vs ds) : DvAll K G vs.dropLast ds.dropLast := by
  rw [List.dropLast_eq_take, List.dropLast_eq_take, h.length]; exact h.take _
theorem DvAll.eraseIdx : ∀ {vs : List V} {ds : List D} (i : Nat), DvAll K G vs ds → DvAll K G (vs.eraseIdx i) (ds.eraseIdx i)
  | _, _, _, .nil => .nil
  | _, _, 0, .cons _ t => t
  | _, _, i + 1, .cons a t => .cons a (DvAll.eraseIdx i t)
theorem DvAll.rep {vs : List V} {ds : List D} (h : DvAll K G vs ds) : ∀ k : Nat, DvAll K G (List.replicate k vs).flatten (List.replicate k ds).flatten
  | 0 => .nil
  | k + 1 => by rw [List.replicate_succ, List.replicate_succ, List.flatten_cons, List.flatten_cons]; exact h.append (DvAll.rep h k)
theorem DvAll.ints : ∀ {ns : List Int} {vs : List V}, DvAll K G vs (ns.map PyData.int) → vs = ns.map V.int
  | [], _, h => by cases h; rfl
  | n :: ns, _, h => by
    cases h with
    | cons a t => cases a; rw [DvAll.ints t]; rfl
theorem DvAll.of_ints : ∀ (ns : List Int), DvAll K G (ns.map V.int) (ns.map PyData.int)
  | [] => .nil
  | n :: ns => .cons (.int n) (DvAll.of_ints ns)
theorem DvAll.bools : ∀ {ns : List Bool} {vs : List V}, DvAll K G vs (ns.map PyData.bool) → vs = ns.map V.bl
  | [], _, h => by cases h; rfl
  | n :: ns, _, h => by
    cases h with
    | cons a t => cases a; rw [DvAll.bools t]; rfl
theorem DvAll.strs : ∀ {ns : List Str} {vs : List V}, DvAll K G vs (ns.map PyData.str) → vs = ns.map V.str
  | [], _, h => by cases h; rfl
  | n :: ns, _, h => by
    cases h with
    | cons a t => cases a; rw [DvAll.strs t]; rfl
theorem DvAll.of_strs : ∀ (ns : List Str), DvAll K G (ns.map V.str) (ns.map PyData.str)
  | [] => .nil
  | n :: ns => .cons (.str n) (DvAll.of_strs ns)
end

/-- a dict's entries -/
def KD (K : PySem.W.Frag) (G : Hp) {κ : Type} : List (κ × V) → List (κ × D) → Prop := Paired fun p q => p.1 = q.1 ∧ Dv K G p.2 q.2
theorem KD.mono {K : PySem.W.Frag} {G G' : Hp} {κ : Type} {a : List (κ × V)} {b : List (κ × D)} (s : Same G G') (h : KD K G a b) : KD K G' a b := Paired.mapP h fun _ _ z => ⟨z.1, z.2.mono s⟩

def ConAt (K : PySem.W.Frag) (G : Hp) : Con → HO → Prop
  | .lst xs, .lst vs => DvAll K G vs xs
  | .dK kvs, .dK kv => KD K G kv kvs
  | .dT kvs, .dT kv => KD K G kv kvs
  | _, _ => False
theorem ConAt.mono {K : PySem.W.Frag} {G G' : Hp} (s : Same G G') : ∀ {c : Con} {o : HO}, ConAt K G c o → ConAt K G' c o
  | .lst _, .lst _, h => DvAll.mono s h
  | .dK _, .dK _, h => KD.mono s h
  | .dT _, .dT _, h => KD.mono s h
  | .lst _, .tup _, h => h.elim
  | .lst _, .dK _, h => h.elim
  | .lst _, .dT _, h => h.elim
  | .lst _, .set _ _, h => h.elim
  | .lst _, .ins _ _ _, h => h.elim
  | .lst _, .own _, h => h.elim
  | .lst _, .xd _, h => h.elim
  | .lst _, .met _ _, h => h.elim
  | .lst _, .rng _ _, h => h.elim
  | .lst _, .frz _ _, h => h.elim
  | .lst _, .tbl _, h => h.elim
  | .lst _, .ext _, h => h.elim
  | .dK _, .lst _, h => h.elim
  | .dK _, .tup _, h => h.elim
  | .dK _, .dT _, h => h.elim
  | .dK _, .set _ _, h => h.elim
  | .dK _, .ins _ _ _, h => h.elim
  | .dK _, .own _, h => h.elim
  | .dK _, .xd _, h => h.elim
  | .dK _, .met _ _, h => h.elim
  | .dK _, .rng _ _, h => h.elim
  | .dK _, .frz _ _, h => h.elim
  | .dK _, .tbl _, h => h.elim
  | .dK _, .ext _, h => h.elim
  | .dT _, .lst _, h => h.elim
  | .dT _, .tup _, h => h.elim
  | .dT _, .dK _, h => h.elim
  | .dT _, .set _ _, h => h.elim
  | .dT _, .ins _ _ _, h => h.elim
  | .dT _, .own _, h => h.elim
  | .dT _, .xd _, h => h.elim
  | .dT _, .met _ _, h => h.elim
  | .dT _, .rng _ _, h => h.elim
  | .dT _, .frz _ _, h => h.elim
  | .dT _, .tbl _, h => h.elim
  | .dT _, .ext _, h => h.elim
theorem ConAt.lst_inv {K : PySem.W.Frag} {G : Hp} {xs : List D} {o : HO} (h : ConAt K G (.lst xs) o) : ∃ vs, o = .lst vs ∧ DvAll K G vs xs := by
  cases o <;> first | exact ⟨_, rfl, h⟩ | exact h.elim
theorem ConAt.dK_inv {K : PySem.W.Frag} {G : Hp} {xs : List (Key × D)} {o : HO} (h : ConAt K G (.dK xs) o) : ∃ vs, o = .dK vs ∧ KD K G vs xs := by
  cases o <;> first | exact ⟨_, rfl, h⟩ | exact h.elim
theorem ConAt.dT_inv {K : PySem.W.Frag} {G : Hp} {xs : List (List Key × D)} {o : HO} (h : ConAt K G (.dT xs) o) : ∃ vs, o = .dT vs ∧ KD K G vs xs := by
  cases o <;> first | exact ⟨_, rfl, h⟩ | exact h.elim
theorem ConAt.mut {K : PySem.W.Frag} {G : Hp} {c : Con} {o : HO} (h : ConAt K G c o) : Mut (some o) := by
  cases c <;> cases o <;> first | trivial | exact h.elim

/-! ### a frame and the abstract heap -/
/-- a locked container: its address, what it holds, hard (a dict that is walked) or not, its slot -/
structure Lk where
  p : Addr
  c : Con
  h : Bool
  s : Nat
structure Fm where
  H0 : Hp
  fp : Addr → Prop
  q : Nat → Addr
  ls : List Lk
  gz : Addr → Prop

def isOwn : Slot → Bool
  | .own _ _ => true
  | _ => false
def isLk : Slot → Bool
  | .lk _ _ => true
  | _ => false

def SlotAt (K : PySem.W.Frag) (F : Fm) (G : Hp) (ρ : Nat → Addr) (σ : L2.St) (H : Hp) (i : Nat) : Slot → Prop
  | .un => True
  | .val b d => ∃ v, σ[i]? = some (some v) ∧ Dv K G v d ∧ (b = true → v = .ref (F.q i))
  | .own b c => σ[i]? = some (some (.ref (ρ i))) ∧ (b = true → ρ i = F.q i) ∧ ∃ o, H (ρ i) = some o ∧ ConAt K G c o
  | .lk b c => ∃ t ∈ F.ls, t.s = i ∧ t.c = c ∧ (b = true → t.p = F.q i)
  | .rol xs => ∃ a vs, σ[i]? = some (some (.ref a)) ∧ SqL K G a vs ∧ DvAll K G vs xs
  | .exn a => σ[i]? = some (some (.ref a))

/-- an address that is the frame's own: new, or handed in -/
def Mine (F : Fm) (G : Hp) (p : Addr) : Prop := G p = none ∧ (F.H0 p = none ∨ F.fp p)
def isDic : Con → Bool
  | .lst _ => false
  | _ => true
def HoldsAt (K : PySem.W.Frag) (G H : Hp) (p : Addr) (c : Con) (h : Bool) : Prop := ∃ o, ConAt K G c o ∧ (h = false → H p = some o) ∧ (h = true → isDic c = true ∧ ∃ ob, H p = some (.frz ob o))
theorem HoldsAt.ex {K : PySem.W.Frag} {G H : Hp} {p : Addr} {c : Con} {h : Bool} (x : HoldsAt K G H p c h) : ∃ u, H p = some u := by
  obtain ⟨o, _, a, b⟩ := x
  cases h with
  | false => exact ⟨_, a rfl⟩
  | true => obtain ⟨_, ob, e⟩ := b rfl; exact ⟨_, e⟩

structure Rel (K : PySem.W.Frag) (F : Fm) (G : Hp) (ρ : Nat → Addr) (ts : List (Addr × Con)) (ss : Sl) (σ : L2.St) (H : Hp) : Prop where
  sub : Same G H
  frame : ∀ b o, F.H0 b = some o → ¬ F.fp b → H b = some o
  len : ss.length = σ.length
  slot : ∀ i s, ss[i]? = some s → SlotAt K F G ρ σ H i s
  own : ∀ i s, ss[i]? = some s → isOwn s = true → Mine F G (ρ i)
  inj : ∀ i j s t, ss[i]? = some s → ss[j]? = some t → isOwn s = true → isOwn t = true → ρ i = ρ j → i = j
  tmp : ∀ t ∈ ts, (∃ o, H t.1 = some o ∧ ConAt K G t.2 o) ∧ Mine F G t.1 ∧ ∀ i s, ss[i]? = some s → isOwn s = true → ρ i ≠ t.1
  nd : (ts.map (·.1)).Nodup
  lks : ∀ t ∈ F.ls, (∃ b, ss[t.s]? = some (.lk b t.c)) ∧ σ[t.s]? = some (some (.ref t.p)) ∧ HoldsAt K G H t.p t.c t.h ∧ Mine F G t.p ∧ (∀ i s, ss[i]? = some s → isOwn s = true → ρ i ≠ t.p) ∧ ∀ u ∈ ts, u.1 ≠ t.p
  lnd : (F.ls.map (·.s)).Nodup
  lpd : (F.ls.map (·.p)).Nodup
  gro : ∀ b, G b ≠ none → F.H0 b = none ∨ F.fp b ∨ F.gz b

theorem sm_new {G H : Hp} {p : Addr} {o : HO} (s : Same G H) (hp : H p = none) : Same G (upd H p o) := fun b u e => by
  rw [upd_ne (ne_of_none (s b u e) hp)]; exact s b u e
theorem sm_out {G H : Hp} {p : Addr} {o : HO} (s : Same G H) (hp : G p = none) : Same G (upd H p o) := fun b u e => by
  rw [upd_ne (ne_of_none e hp)]; exact s b u e
theorem sm_both {G H : Hp} {p : Addr} {o : HO} (s : Same G H) : Same (upd G p o) (upd H p o) := fun b u e => by
  by_cases hb : b = p
  · subst hb; rw [upd_same] at e ⊢; exact e
  · rw [upd_ne hb] at e ⊢; exact s b u e
theorem sm_grow {G : Hp} {p : Addr} {o : HO} (hp : G p = none) : Same G (upd G p o) := fun b u e => by
  rw [upd_ne (ne_of_none e hp)]; exact e

section
variable {K : PySem.W.Frag} {F : Fm} {G G' : Hp} {ρ : Nat → Addr} {ts : List (Addr × Con)} {ss : Sl} {σ : L2.St} {H H' : Hp} {p : Addr} {c c' : Con} {o : HO} {i : Nat}

theorem Rel.owned (R : Rel K F G ρ ts ss σ H) {s : Slot} (h : ss[i]? = some s) (e : isOwn s = true) : ∃ u, H (ρ i) = some u := by
  have q := R.slot i s h
  cases s with
  | un => cases e
  | val b d => cases e
  | own b c => obtain ⟨_, _, o, h, _⟩ := q; exact ⟨_, h⟩
  | lk b c => cases e
  | rol xs => cases e
  | exn a => cases e

/-- the heap goes on, the owned objects and the frame's ground stand -/
theorem Rel.step (R : Rel K F G ρ ts ss σ H) (S : Addr → Prop) (g : Same G G') (gh : Same G' H') (keep : ∀ b o, H b = some o → ¬ S b → H' b = some o)
    (fz : ∀ b, G b = none → H b ≠ none → ¬ S b → G' b = none) (mine : ∀ b, S b → F.H0 b = none ∨ F.fp b)
    (no : ∀ i s, ss[i]? = some s → isOwn s = true → ¬ S (ρ i)) (nt : ∀ t ∈ ts, ¬ S t.1) (nl : ∀ t ∈ F.ls, ¬ S t.p) : Rel K F G' ρ ts ss σ H' := by
  have km : ∀ b u, H b = some u → ¬ S b → Mine F G b → Mine F G' b := fun b u hb hs ⟨a, z⟩ => ⟨fz b a (by rw [hb]; simp) hs, z⟩
  refine ⟨gh, fun b u e nf => ?_, R.len, fun i s e => ?_, fun i s e w => ?_, R.inj, fun t ht => ?_, R.nd, fun t ht => ?_, R.lnd, R.lpd, fun b e => ?_⟩
  · refine keep b u (R.frame b u e nf) fun z => ?_
    rcases mine b z with y | y
    · rw [y] at e; cases e
    · exact nf y
  · have q := R.slot i s e
    cases s with
    | un => trivial
    | val b d => obtain ⟨v, h1, h2, h3⟩ := q; exact ⟨v, h1, h2.mono g, h3⟩
    | own b c => obtain ⟨h1, h2, o, h3, h4⟩ := q; exact ⟨h1, h2, o, keep _ _ h3 (no i _ e rfl), h4.mono g⟩
    | lk b c => exact q
    | rol xs => obtain ⟨a, vs, h1, h2, h3⟩ := q; exact ⟨a, vs, h1, g.seq h2, h3.mono g⟩
    | exn a => exact q
  · obtain ⟨u, hu⟩ := R.owned e w
    exact km _ u hu (no i s e w) (R.own i s e w)
  · obtain ⟨⟨o, h1, h2⟩, h3, h4⟩ := R.tmp t ht
    exact ⟨⟨o, keep _ _ h1 (nt t ht), h2.mono g⟩, km _ o h1 (nt t ht) h3, h4⟩
  · obtain ⟨h1, h2, h3, h4, h5⟩ := R.lks t ht
    obtain ⟨u, hu⟩ := h3.ex
    obtain ⟨o, a1, a2, a3⟩ := h3
    refine ⟨h1, h2, ⟨o, a1.mono g, fun e => keep _ _ (a2 e) (nl t ht), fun e => ?_⟩, km _ u hu (nl t ht) h4, h5⟩
    obtain ⟨y, ob, z⟩ := a3 e
    exact ⟨y, ob, keep _ _ z (nl t ht)⟩
  · by_cases hs : S b
    · rcases mine b hs with y | y
      · exact .inl y
      · exact .inr (.inl y)
    · cases hG : G b with
      | some u => exact R.gro b (by rw [hG]; simp)
      | none =>
        cases hH : H b with
        | some u => exact absurd (fz b hG (by rw [hH]; simp) hs) e
        | none =>
          cases h0 : F.H0 b with
          | none => exact .inl rfl
          | some u =>
            by_cases hf : F.fp b
            · exact .inr (.inl hf)
            · rw [R.frame b u h0 hf] at hH; cases hH

/-- a new object, frozen at once (a tuple) -/
theorem Rel.frozen (R : Rel K F G ρ ts ss σ H) (hp : H p = none) : Rel K F (upd G p o) ρ ts ss σ (upd H p o) := by
  have gp : G p = none := R.sub.free hp
  refine R.step (fun _ => False) (sm_grow gp) (sm_both R.sub) (fun b u e _ => by rw [upd_ne (ne_of_none e hp)]; exact e) (fun b e n _ => ?_) (fun _ z => z.elim) (fun _ _ _ _ z => z) (fun _ _ z => z) fun _ _ z => z
  rw [upd_ne (fun z => n (by rw [z]; exact hp))]; exact e
theorem Rel.new_mine (R : Rel K F G ρ ts ss σ H) (hp : H p = none) : Mine F G p := by
  refine ⟨R.sub.free hp, ?_⟩
  by_cases f : F.fp p
  · exact .inr f
  · cases e : F.H0 p with
    | none => exact .inl rfl
    | some u => rw [R.frame p u e f] at hp; cases hp
/-- a temporary more -/
theorem Rel.addT (R : Rel K F G ρ ts ss σ H) (h1 : H p = some o) (hc : ConAt K G c o) (hm : Mine F G p) (no : ∀ i s, ss[i]? = some s → isOwn s = true → ρ i ≠ p) (nt : ∀ t ∈ ts, t.1 ≠ p) (nl : ∀ t ∈ F.ls, t.p ≠ p) : Rel K F G ρ ((p, c) :: ts) ss σ H := by
  refine ⟨R.sub, R.frame, R.len, R.slot, R.own, R.inj, fun t ht => ?_, ?_, fun t ht => ?_, R.lnd, R.lpd, R.gro⟩
  · rcases List.mem_cons.mp ht with rfl | ht
    · exact ⟨⟨o, h1, hc⟩, hm, no⟩
    · exact R.tmp t ht
  · rw [List.map_cons, List.nodup_cons]
    refine ⟨fun hm => ?_, R.nd⟩
    obtain ⟨t, ht, e⟩ := List.mem_map.mp hm
    exact nt t ht e
  · obtain ⟨h1, h2, h3, h4, h5, h6⟩ := R.lks t ht
    refine ⟨h1, h2, h3, h4, h5, fun u hu => ?_⟩
    rcases List.mem_cons.mp hu with rfl | hu
    · exact fun e => nl t ht e.symm
    · exact h6 u hu
/-- a new exclusive object -/
theorem Rel.alloc (R : Rel K F G ρ ts ss σ H) (hp : H p = none) (hc : ConAt K G c o) : Rel K F G ρ ((p, c) :: ts) ss σ (upd H p o) := by
  have ne : ∀ {b u}, H b = some u → b ≠ p := fun e => ne_of_none e hp
  have R1 : Rel K F G ρ ts ss σ (upd H p o) := R.step (fun _ => False) (Same.refl G) (sm_new R.sub hp) (fun b u e _ => by rw [upd_ne (ne e)]; exact e) (fun _ e _ _ => e) (fun _ z => z.elim) (fun _ _ _ _ z => z) (fun _ _ z => z) fun _ _ z => z
  refine R1.addT upd_same hc (R.new_mine hp) (fun i s e w => by obtain ⟨u, hu⟩ := R.owned e w; exact ne hu) (fun t ht => ?_) fun t ht => ?_
  · obtain ⟨⟨o, h1, _⟩, _⟩ := R.tmp t ht; exact ne h1
  · obtain ⟨u, hu⟩ := (R.lks t ht).2.2.1.ex; exact ne hu
theorem Rel.drop {t : Addr × Con} (R : Rel K F G ρ (t :: ts) ss σ H) : Rel K F G ρ ts ss σ H :=
  ⟨R.sub, R.frame, R.len, R.slot, R.own, R.inj, fun t ht => R.tmp t (List.mem_cons_of_mem _ ht), (List.nodup_cons.mp R.nd).2, fun t ht => by
    obtain ⟨h1, h2, h3, h4, h5, h6⟩ := R.lks t ht
    exact ⟨h1, h2, h3, h4, h5, fun u hu => h6 u (List.mem_cons_of_mem _ hu)⟩, R.lnd, R.lpd, R.gro⟩
theorem Rel.ntop (R : Rel K F G ρ ((p, c) :: ts) ss σ H) : ∀ t ∈ ts, t.1 ≠ p := fun t ht e => (List.nodup_cons.mp R.nd).1 (List.mem_map.mpr ⟨t, ht, e⟩)
theorem Rel.ltop (R : Rel K F G ρ ((p, c) :: ts) ss σ H) : ∀ t ∈ F.ls, t.p ≠ p := fun t ht e => (R.lks t ht).2.2.2.2.2 _ List.mem_cons_self e.symm
/-- the topmost temporary object changes -/
theorem Rel.mutT (R : Rel K F G ρ ((p, c) :: ts) ss σ H) (hc : ConAt K G c' o) : Rel K F G ρ ((p, c') :: ts) ss σ (upd H p o) := by
  obtain ⟨⟨o0, h1, h2⟩, hm, hno⟩ := R.tmp _ List.mem_cons_self
  have R1 : Rel K F G ρ ts ss σ (upd H p o) := R.drop.step (fun b => b = p) (Same.refl G) (sm_out R.sub hm.1) (fun b u e n => by rw [upd_ne n]; exact e) (fun _ e _ _ => e) (fun b e => by rw [e]; exact hm.2) (fun i s e w => hno i s e w) R.ntop R.ltop
  exact R1.addT upd_same hc hm hno R.ntop R.ltop
/-- a list that was exclusive is frozen -/
theorem Rel.frzT {xs : List D} (R : Rel K F G ρ ((p, .lst xs) :: ts) ss σ H) : ∃ G', Same G G' ∧ Rel K F G' ρ ts ss σ H ∧ Dv K G' (.ref p) (.list xs) := by
  obtain ⟨⟨o0, h1, h2⟩, hm, hno⟩ := R.tmp _ List.mem_cons_self
  obtain ⟨vs, rfl, h2⟩ := h2.lst_inv
  have g : Same G (upd G p (.lst vs)) := sm_grow hm.1
  refine ⟨upd G p (.lst vs), g, R.drop.step (fun b => b = p) g (fun b u e => ?_) (fun b u e _ => e) (fun b e _ n => by rw [upd_ne n]; exact e) (fun b e => by rw [e]; exact hm.2) (fun i s e w => hno i s e w) R.ntop R.ltop, .lst upd_same (h2.mono g)⟩
  by_cases hb : b = p
  · subst hb; rw [upd_same] at e; cases e; exact h1
  · rw [upd_ne hb] at e; exact R.sub b u e

/-- slot i changes to s, its variable to x: it is not locked -/
theorem Rel.putS {s : Slot} {ρ' : Nat → Addr} {σ' : L2.St} (R : Rel K F G ρ ts ss σ H) (hn : ∀ b c, ss[i]? ≠ some (.lk b c)) (hls : isLk s = false) (hρ : ∀ j, j ≠ i → ρ' j = ρ j) (hσ : ∀ j, j ≠ i → σ'[j]? = σ[j]?) (hl : σ'.length = σ.length)
    (hs : i < ss.length → SlotAt K F G ρ' σ' H i s) (ho : isOwn s = true → Mine F G (ρ' i) ∧ (∀ j t, j ≠ i → ss[j]? = some t → isOwn t = true → ρ j ≠ ρ' i) ∧ (∀ t ∈ ts, t.1 ≠ ρ' i) ∧ ∀ t ∈ F.ls, t.p ≠ ρ' i) : Rel K F G ρ' ts (ss.set i s) σ' H := by
  have other : ∀ {j t}, j ≠ i → (ss.set i s)[j]? = some t → ss[j]? = some t := fun {j t} e h => by rwa [List.getElem?_set_ne (Ne.symm e)] at h
  have self : ∀ {t}, (ss.set i s)[i]? = some t → t = s ∧ i < ss.length := fun {t} h => by
    by_cases hi : i < ss.length
    · rw [List.getElem?_set_self hi] at h; cases h; exact ⟨rfl, hi⟩
    · rw [List.getElem?_eq_none (by simpa using hi)] at h; cases h
  refine ⟨R.sub, R.frame, by rw [List.length_set, hl]; exact R.len, fun j t e => ?_, fun j t e w => ?_, fun j k t u e1 e2 w1 w2 z => ?_, fun t ht => ?_, R.nd, fun t ht => ?_, R.lnd, R.lpd, R.gro⟩
  · by_cases hj : j = i
    · subst hj; obtain ⟨rfl, hi⟩ := self e; exact hs hi
    · have q := R.slot j t (other hj e)
      cases t with
      | un => trivial
      | val b d => obtain ⟨v, a1, a2⟩ := q; exact ⟨v, (hσ j hj).trans a1, a2⟩
      | own b c => obtain ⟨a1, a2, a3⟩ := q; exact ⟨by rw [hρ j hj]; exact (hσ j hj).trans a1, by rw [hρ j hj]; exact a2, by rw [hρ j hj]; exact a3⟩
      | lk b c => exact q
      | rol xs => obtain ⟨a, vs, a1, a2⟩ := q; exact ⟨a, vs, (hσ j hj).trans a1, a2⟩
      | exn a => exact (hσ j hj).trans q
  · by_cases hj : j = i
    · subst hj; obtain ⟨rfl, hi⟩ := self e; exact (ho w).1
    · rw [hρ j hj]; exact R.own j t (other hj e) w
  · by_cases hj : j = i
    · by_cases hk : k = i
      · rw [hj, hk]
      · subst hj; obtain ⟨rfl, hi⟩ := self e1; rw [hρ k hk] at z; exact absurd z.symm ((ho w1).2.1 k u hk (other hk e2) w2)
    · by_cases hk : k = i
      · subst hk; obtain ⟨rfl, hi⟩ := self e2; rw [hρ j hj] at z; exact absurd z ((ho w2).2.1 j t hj (other hj e1) w1)
      · rw [hρ j hj, hρ k hk] at z; exact R.inj j k t u (other hj e1) (other hk e2) w1 w2 z
  · obtain ⟨a1, a2, a3⟩ := R.tmp t ht
    refine ⟨a1, a2, fun j u e w => ?_⟩
    by_cases hj : j = i
    · subst hj; obtain ⟨rfl, hi⟩ := self e; exact ((ho w).2.2.1 t ht).symm
    · rw [hρ j hj]; exact a3 j u (other hj e) w
  · obtain ⟨⟨b, h1⟩, h2, h3, h4, h5, h6⟩ := R.lks t ht
    have ne : t.s ≠ i := fun e => hn b t.c (by rw [← e]; exact h1)
    refine ⟨⟨b, by rw [List.getElem?_set_ne (Ne.symm ne)]; exact h1⟩, (hσ _ ne).trans h2, h3, h4, fun j u e w => ?_, h6⟩
    by_cases hj : j = i
    · subst hj; obtain ⟨rfl, hi⟩ := self e; exact ((ho w).2.2.2 t ht).symm
    · rw [hρ j hj]; exact h5 j u (other hj e) w

theorem set_others {α : Type} (l : List α) (i : Nat) (x : α) : ∀ j, j ≠ i → (l.set i x)[j]? = l[j]? := fun j e => List.getElem?_set_ne (Ne.symm e)
/-- slot i's container as the topmost temporary -/
theorem Rel.toT {b : Bool} (R : Rel K F G ρ ts ss σ H) (h : ss[i]? = some (.own b c)) : Rel K F G ρ ((ρ i, c) :: ts) (ss.set i .un) σ H := by
  obtain ⟨h1, h2, o, h3, h4⟩ := R.slot i _ h
  have R1 : Rel K F G ρ ts (ss.set i .un) σ H := R.putS (by rw [h]; intro _ _ e; cases e) rfl (fun _ _ => rfl) (fun _ _ => rfl) rfl (fun _ => trivial) (fun e => by cases e)
  refine R1.addT h3 h4 (R.own i _ h rfl) (fun j s e w => ?_) (fun t ht => ((R.tmp t ht).2.2 i _ h rfl).symm) fun t ht => ((R.lks t ht).2.2.2.2.1 i _ h rfl).symm
  by_cases hj : i = j
  · subst hj
    rw [List.getElem?_set_self (List.getElem?_eq_some_iff.mp h).1] at e; cases e; cases w
  · rw [List.getElem?_set_ne hj] at e
    exact fun z => hj (R.inj i j _ _ h e rfl w z.symm)
/-- what slot i may take in: it is no borrowed one -/
def okSet (ss : Sl) (i : Nat) : Bool := match ss[i]? with
  | some (.un) => true
  | some (.val false _) => true
  | some (.own false _) => true
  | _ => false
theorem okSet_lk (h : okSet ss i = true) : ∀ b c, ss[i]? ≠ some (.lk b c) := fun b c e => by
  unfold okSet at h; rw [e] at h; cases h
def rup (ρ : Nat → Addr) (i : Nat) (p : Addr) : Nat → Addr := fun j => if j = i then p else ρ j
theorem rup_same : rup ρ i p i = p := by simp [rup]
theorem rup_ne {j : Nat} (h : j ≠ i) : rup ρ i p j = ρ j := by simp [rup, h]
/-- the topmost temporary goes into slot i; b: it is the handed-in one -/
theorem Rel.ofT {b : Bool} (R : Rel K F G ρ ((p, c) :: ts) ss σ H) (hn : ∀ b c, ss[i]? ≠ some (.lk b c)) (hb : b = true → p = F.q i) : Rel K F G (rup ρ i p) ts (ss.set i (.own b c)) (σ.set i (some (.ref p))) H := by
  obtain ⟨⟨o, h1, h2⟩, hm, hno⟩ := R.tmp _ List.mem_cons_self
  refine R.drop.putS hn rfl (fun j e => rup_ne e) (set_others _ _ _) (by simp) (fun hi => ⟨?_, by rw [rup_same]; exact hb, o, by rw [rup_same]; exact h1, h2⟩) fun _ => ⟨by rw [rup_same]; exact hm, fun j t e h w => by rw [rup_same]; exact hno j t h w, fun t ht => by rw [rup_same]; exact R.ntop t ht, fun t ht => by rw [rup_same]; exact R.ltop t ht⟩
  rw [rup_same]
  exact List.getElem?_set_self (by rw [← R.len]; exact hi)
/-- data goes into slot i -/
theorem Rel.setV {b : Bool} {v : V} {d : D} (R : Rel K F G ρ ts ss σ H) (hn : ∀ b c, ss[i]? ≠ some (.lk b c)) (hd : Dv K G v d) (hb : b = true → v = .ref (F.q i)) : Rel K F G ρ ts (ss.set i (.val b d)) (σ.set i (some v)) H :=
  R.putS hn rfl (fun _ _ => rfl) (set_others _ _ _) (by simp) (fun hi => ⟨v, List.getElem?_set_self (by rw [← R.len]; exact hi), hd, hb⟩) fun e => by cases e
/-- slot i is forgotten -/
theorem Rel.forget {x : Option V} (R : Rel K F G ρ ts ss σ H) (hn : ∀ b c, ss[i]? ≠ some (.lk b c)) : Rel K F G ρ ts (ss.set i .un) (σ.set i x) H :=
  R.putS hn rfl (fun _ _ => rfl) (set_others _ _ _) (by simp) (fun hi => trivial) fun e => by cases e
theorem Rel.setUn (R : Rel K F G ρ ts ss σ H) (hn : ∀ b c, ss[i]? ≠ some (.lk b c)) : Rel K F G ρ ts (ss.set i .un) σ H :=
  R.putS hn rfl (fun _ _ => rfl) (fun _ _ => rfl) rfl (fun hi => trivial) fun e => by cases e
/-- the variable stays, what is known of it is told anew -/
theorem set_id {α : Type} {l : List α} {i : Nat} {x : α} (h : l[i]? = some x) : l.set i x = l := by
  apply List.ext_getElem?
  intro j
  by_cases hj : i = j
  · subst hj; rw [List.getElem?_set_self (List.getElem?_eq_some_iff.mp h).1, h]
  · rw [List.getElem?_set_ne hj]

/-- slot i's container is locked (h: hard) -/
theorem Rel.lock {b : Bool} (R : Rel K F G ρ ts ss σ H) (h : ss[i]? = some (.own b c)) : Rel K { F with ls := ⟨ρ i, c, false, i⟩ :: F.ls } G ρ ts (ss.set i (.lk b c)) σ H := by
  obtain ⟨h1, h2, o, h3, h4⟩ := R.slot i _ h
  have hi : i < ss.length := (List.getElem?_eq_some_iff.mp h).1
  have nls : ∀ t ∈ F.ls, t.s ≠ i := fun t ht e => by
    obtain ⟨⟨b', z⟩, _⟩ := R.lks t ht
    rw [e, h] at z; cases z
  have other : ∀ {j t}, j ≠ i → (ss.set i (.lk b c))[j]? = some t → ss[j]? = some t := fun {j t} e h => by rwa [List.getElem?_set_ne (Ne.symm e)] at h
  have own' : ∀ {j t}, (ss.set i (.lk b c))[j]? = some t → isOwn t = true → ss[j]? = some t ∧ j ≠ i := fun {j t} e w => by
    by_cases hj : j = i
    · subst hj; rw [List.getElem?_set_self hi] at e; cases e; cases w
    · exact ⟨other hj e, hj⟩
  refine ⟨R.sub, R.frame, by simpa using R.len, fun j t e => ?_, fun j t e w => R.own j t (own' e w).1 w, fun j k t u e1 e2 w1 w2 => R.inj j k t u (own' e1 w1).1 (own' e2 w2).1 w1 w2, fun t ht => ?_, R.nd, fun t ht => ?_, ?_, ?_, R.gro⟩
  · by_cases hj : j = i
    · subst hj; rw [List.getElem?_set_self hi] at e; cases e
      exact ⟨_, List.mem_cons_self, rfl, rfl, h2⟩
    · have q := R.slot j t (other hj e)
      cases t with
      | un => trivial
      | val b d => exact q
      | own b c => exact q
      | lk b c => obtain ⟨u, a1, a2, a3⟩ := q; exact ⟨u, List.mem_cons_of_mem _ a1, a2, a3⟩
      | rol xs => exact q
      | exn a => exact q
  · obtain ⟨a1, a2, a3⟩ := R.tmp t ht
    exact ⟨a1, a2, fun j u e w => a3 j u (own' e w).1 w⟩
  · rcases List.mem_cons.mp ht with rfl | ht
    · refine ⟨⟨b, List.getElem?_set_self hi⟩, h1, ⟨o, h4, fun _ => h3, (fun e => by cases e)⟩, R.own i _ h rfl, fun j t e w z => (own' e w).2 (R.inj j i _ _ (own' e w).1 h w rfl z), fun u hu => ((R.tmp u hu).2.2 i _ h rfl).symm⟩
    · obtain ⟨⟨b', z1⟩, z2, z3, z4, z5, z6⟩ := R.lks t ht
      exact ⟨⟨b', by rw [List.getElem?_set_ne (Ne.symm (nls t ht))]; exact z1⟩, z2, z3, z4, fun j u e w => z5 j u (own' e w).1 w, z6⟩
  · show ((⟨ρ i, c, false, i⟩ :: F.ls).map (·.s)).Nodup
    rw [List.map_cons, List.nodup_cons]
    refine ⟨fun hm => ?_, R.lnd⟩
    obtain ⟨t, ht, e⟩ := List.mem_map.mp hm
    exact nls t ht e
  · show ((⟨ρ i, c, false, i⟩ :: F.ls).map (·.p)).Nodup
    rw [List.map_cons, List.nodup_cons]
    refine ⟨fun hm => ?_, R.lpd⟩
    obtain ⟨t, ht, e⟩ := List.mem_map.mp hm
    exact (R.lks t ht).2.2.2.2.1 i _ h rfl e.symm
/-- .. and unlocked: what stood there stands there -/
theorem Rel.unlock {t : Lk} (R : Rel K { F with ls := t :: F.ls } G ρ ts ss σ H) (hh : t.h = false) : ∃ b, ss[t.s]? = some (.lk b t.c) ∧ σ[t.s]? = some (some (.ref t.p)) ∧ Rel K F G (rup ρ t.s t.p) ts (ss.set t.s (.own b t.c)) σ H := by
  obtain ⟨⟨b, z1⟩, z2, z3, z4, z5, z6⟩ := R.lks t List.mem_cons_self
  obtain ⟨o, a1, a2, _⟩ := z3
  have hi : t.s < ss.length := (List.getElem?_eq_some_iff.mp z1).1
  have nls : ∀ u ∈ F.ls, u.s ≠ t.s := fun u hu e => (List.nodup_cons.mp (show ((t :: F.ls).map (·.s)).Nodup from R.lnd)).1 (List.mem_map.mpr ⟨u, hu, e⟩)
  have npl : ∀ u ∈ F.ls, u.p ≠ t.p := fun u hu e => (List.nodup_cons.mp (show ((t :: F.ls).map (·.p)).Nodup from R.lpd)).1 (List.mem_map.mpr ⟨u, hu, e⟩)
  have other : ∀ {j u}, j ≠ t.s → (ss.set t.s (.own b t.c))[j]? = some u → ss[j]? = some u := fun {j u} e h => by rwa [List.getElem?_set_ne (Ne.symm e)] at h
  have self : ∀ {u}, (ss.set t.s (.own b t.c))[t.s]? = some u → u = .own b t.c := fun {u} h => by rw [List.getElem?_set_self hi] at h; cases h; rfl
  refine ⟨b, z1, z2, R.sub, R.frame, by simpa using R.len, fun j u e => ?_, fun j u e w => ?_, fun j k u v e1 e2 w1 w2 z => ?_, fun u hu => ?_, R.nd, fun u hu => ?_, (List.nodup_cons.mp (show ((t :: F.ls).map (·.s)).Nodup from R.lnd)).2, (List.nodup_cons.mp (show ((t :: F.ls).map (·.p)).Nodup from R.lpd)).2, R.gro⟩
  · by_cases hj : j = t.s
    · subst hj
      rw [self e]
      have q := R.slot t.s _ z1
      obtain ⟨u, u1, u2, u3, u4⟩ := q
      have eu : u = t := by
        rcases List.mem_cons.mp u1 with e | u1
        · exact e
        · exact absurd u2 (nls u u1)
      subst eu
      exact ⟨by rw [rup_same]; exact z2, by rw [rup_same]; exact u4, o, by rw [rup_same]; exact a2 hh, a1⟩
    · have q := R.slot j u (other hj e)
      cases u with
      | un => trivial
      | val b d => exact q
      | own b c => obtain ⟨y1, y2, y3⟩ := q; exact ⟨by rw [rup_ne hj]; exact y1, by rw [rup_ne hj]; exact y2, by rw [rup_ne hj]; exact y3⟩
      | lk b c =>
        obtain ⟨u, u1, u2, u3⟩ := q
        rcases List.mem_cons.mp u1 with rfl | u1
        · exact absurd u2.symm hj
        · exact ⟨u, u1, u2, u3⟩
      | rol xs => exact q
      | exn a => exact q
  · by_cases hj : j = t.s
    · subst hj; rw [rup_same]; exact z4
    · rw [rup_ne hj]; exact R.own j u (other hj e) w
  · by_cases hj : j = t.s
    · by_cases hk : k = t.s
      · rw [hj, hk]
      · subst hj; rw [rup_same, rup_ne hk] at z; exact absurd z.symm (z5 k v (other hk e2) w2)
    · by_cases hk : k = t.s
      · subst hk; rw [rup_same, rup_ne hj] at z; exact absurd z (z5 j u (other hj e1) w1)
      · rw [rup_ne hj, rup_ne hk] at z; exact R.inj j k u v (other hj e1) (other hk e2) w1 w2 z
  · obtain ⟨y1, y2, y3⟩ := R.tmp u hu
    refine ⟨y1, y2, fun j v e w => ?_⟩
    by_cases hj : j = t.s
    · subst hj; rw [rup_same]; exact (z6 u hu).symm
    · rw [rup_ne hj]; exact y3 j v (other hj e) w
  · obtain ⟨⟨b', y1⟩, y2, y3, y4, y5, y6⟩ := R.lks u (List.mem_cons_of_mem _ hu)
    refine ⟨⟨b', by rw [List.getElem?_set_ne (Ne.symm (nls u hu))]; exact y1⟩, y2, y3, y4, fun j v e w => ?_, y6⟩
    by_cases hj : j = t.s
    · subst hj; rw [rup_same]; exact (npl u hu).symm
    · rw [rup_ne hj]; exact y5 j v (other hj e) w
end
end DT
/-! DT: the judgements -/
namespace DT
open PySem PySem.Spec PyProof.Rows L2

structure Gm where
  ca : Nat → Addr

def XnAt (Γ : Gm) (H : Hp) : Xn → Value → Option Addr → Prop
  | .pl c, cls, d => cls = .ref (Γ.ca c) ∧ d = none
  | .fld c f i, cls, d => cls = .ref (Γ.ca c) ∧ ∃ a, d = some a ∧ H a = some (.xd [(f, .int i)])

section
variable (K : PySem.W.Frag) (F : Fm) (G : Hp) (ρ : Nat → Addr)
def RelW (ts : List (Addr × Con)) (ss : Sl) (σ : L2.St) (H : Hp) : Wv → V → Prop
  | .val d, v => Rel K F G ρ ts ss σ H ∧ Dv K G v d
  | .new c, v => ∃ p, v = .ref p ∧ Rel K F G ρ ((p, c) :: ts) ss σ H
  | .bor i, v => Rel K F G ρ ts ss σ H ∧ σ[i]? = some (some v)
  | .rol xs, v => Rel K F G ρ ts ss σ H ∧ ∃ a vs, v = .ref a ∧ SqL K G a vs ∧ DvAll K G vs xs
def RelWs (ss : Sl) (σ : L2.St) (H : Hp) : List (Addr × Con) → List Wv → List V → Prop
  | ts, [], [] => Rel K F G ρ ts ss σ H
  | ts, .val d :: ws, v :: vs => Dv K G v d ∧ RelWs ss σ H ts ws vs
  | ts, .new c :: ws, v :: vs => ∃ p, v = .ref p ∧ RelWs ss σ H ((p, c) :: ts) ws vs
  | ts, .bor i :: ws, v :: vs => σ[i]? = some (some v) ∧ RelWs ss σ H ts ws vs
  | ts, .rol xs :: ws, v :: vs => (∃ a us, v = .ref a ∧ SqL K G a us ∧ DvAll K G us xs) ∧ RelWs ss σ H ts ws vs
  | _, _, _ => False
end
/-- what comes behind: the value, the wish W of exceptions -/
def OutE (K : PySem.W.Frag) (Γ : Gm) (W : WX) (F : Fm) (G : Hp) (ts : List (Addr × Con)) (σ : L2.St) (Q : VK) : Option (Rs Wv) → Prop
  | none => False
  | some (.ok w ss) => ∀ v H' G' ρ', Same G G' → RelW K F G' ρ' ts ss σ H' w v → Q v H'
  | some (.ex x ss) => ∀ H' G' ρ' cls d, Same G G' → Rel K F G' ρ' ts ss σ H' → XnAt Γ H' x cls d → W cls d σ H'
def OutA (K : PySem.W.Frag) (Γ : Gm) (W : WX) (F : Fm) (G : Hp) (ts : List (Addr × Con)) (σ : L2.St) (Q : List V → Hp → Prop) : Option (Rs (List Wv)) → Prop
  | none => False
  | some (.ok ws ss) => ∀ vs H' G' ρ', Same G G' → RelWs K F G' ρ' ss σ H' ts ws vs → Q vs H'
  | some (.ex x ss) => ∀ H' G' ρ' cls d, Same G G' → Rel K F G' ρ' ts ss σ H' → XnAt Γ H' x cls d → W cls d σ H'
def OutT (K : PySem.W.Frag) (Γ : Gm) (W : WX) (F : Fm) (G : Hp) (ts : List (Addr × Con)) (σ : L2.St) (Q : Bool → Hp → Prop) : Option (Rs Bool) → Prop
  | none => False
  | some (.ok b ss) => ∀ H' G' ρ', Same G G' → Rel K F G' ρ' ts ss σ H' → Q b H'
  | some (.ex x ss) => ∀ H' G' ρ' cls d, Same G G' → Rel K F G' ρ' ts ss σ H' → XnAt Γ H' x cls d → W cls d σ H'
def te (K : PySem.W.Frag) (Γ : Gm) (W : WX) (f : M Wv) : TE := fun σ H Q => ∃ F G ρ ts ss, Rel K F G ρ ts ss σ H ∧ OutE K Γ W F G ts σ Q (f ss)
def ta (K : PySem.W.Frag) (Γ : Gm) (W : WX) (f : M (List Wv)) : TA := fun σ H Q => ∃ F G ρ ts ss, Rel K F G ρ ts ss σ H ∧ OutA K Γ W F G ts σ Q (f ss)
def tt (K : PySem.W.Frag) (Γ : Gm) (W : WX) (f : M Bool) : TT := fun σ H Q => ∃ F G ρ ts ss, Rel K F G ρ ts ss σ H ∧ OutT K Γ W F G ts σ Q (f ss)

def DE (Γ : Gm) (X : Cx) (W : WX) (e : Expr) (f : M Wv) : Prop := PE X e (te X.K Γ W f)
def DA (Γ : Gm) (X : Cx) (W : WX) (es : List Expr) (f : M (List Wv)) : Prop := PA X es (ta X.K Γ W f)
def DT' (Γ : Gm) (X : Cx) (W : WX) (e : Expr) (f : M Bool) : Prop := PT X e (tt X.K Γ W f)
def DW (Γ : Gm) (X : Cx) (W : WX) (e : Expr) (f : M Bool) : Prop := PW X e (tt X.K Γ W f)

theorem PE_imp {X : Cx} {e : Expr} {t t' : TE} (h : PE X e t) (i : ∀ σ H Q, t' σ H Q → t σ H Q) : PE X e t' := ⟨fun pins s σ H Q I hw => h.run pins s σ H Q I (i σ H Q hw)⟩
theorem PA_imp {X : Cx} {e : List Expr} {t t' : TA} (h : PA X e t) (i : ∀ σ H Q, t' σ H Q → t σ H Q) : PA X e t' := ⟨fun pos pins s σ H Q I hw => h.run pos pins s σ H Q I (i σ H Q hw)⟩
theorem PT_imp {X : Cx} {e : Expr} {t t' : TT} (h : PT X e t) (i : ∀ σ H Q, t' σ H Q → t σ H Q) : PT X e t' := ⟨fun pins s σ H Q I hw => h.run pins s σ H Q I (i σ H Q hw)⟩
theorem PW_imp {X : Cx} {e : Expr} {t t' : TT} (h : PW X e t) (i : ∀ σ H Q, t' σ H Q → t σ H Q) : PW X e t' := ⟨fun wh pins s σ H Q I hw => h.run wh pins s σ H Q I (i σ H Q hw)⟩
theorem PS_imp {X : Cx} {e : Stmt} {t t' : TS} (h : PS X e t) (i : ∀ D σ H, t' D σ H → t D σ H) : PS X e t' := ⟨fun pins s σ H D I hw => h.run pins s σ H D I (i D σ H hw)⟩
theorem PSs_imp {X : Cx} {e : List Stmt} {t t' : TS} (h : PSs X e t) (i : ∀ D σ H, t' D σ H → t D σ H) : PSs X e t' := ⟨fun pins s σ H D I hw => h.run pins s σ H D I (i D σ H hw)⟩

/-- how the monad goes on -/
def bnd {α β : Type} (m : M α) (k : α → M β) : M β := fun ss => match m ss with
  | none => none
  | some (.ok a s) => k a s
  | some (.ex x s) => some (.ex x s)
def ret {α : Type} (a : α) : M α := fun ss => some (.ok a ss)
def fail {α : Type} : M α := fun _ => none
@[simp] theorem bnd_ret {α β : Type} (a : α) (k : α → M β) : bnd (ret a) k = k a := rfl

section
variable {K : PySem.W.Frag} {Γ : Gm} {W : WX} {F : Fm} {G G' : Hp} {ρ ρ' : Nat → Addr} {ts : List (Addr × Con)} {ss : Sl} {σ : L2.St} {H H' : Hp}

theorem OutE.mono {Q Q' : VK} {r : Option (Rs Wv)} (g : Same G G') (hQ : ∀ v H, Q v H → Q' v H) (h : OutE K Γ W F G ts σ Q r) : OutE K Γ W F G' ts σ Q' r := by
  cases r with
  | none => exact h
  | some r =>
    cases r with
    | ok w s => exact fun v H1 G1 ρ1 g1 q => hQ _ _ (h v H1 G1 ρ1 (g.trans g1) q)
    | ex x s => exact fun H1 G1 ρ1 cls d g1 q => h H1 G1 ρ1 cls d (g.trans g1) q
theorem OutT.mono {Q Q' : Bool → Hp → Prop} {r : Option (Rs Bool)} (g : Same G G') (hQ : ∀ v H, Q v H → Q' v H) (h : OutT K Γ W F G ts σ Q r) : OutT K Γ W F G' ts σ Q' r := by
  cases r with
  | none => exact h
  | some r =>
    cases r with
    | ok w s => exact fun H1 G1 ρ1 g1 q => hQ _ _ (h H1 G1 ρ1 (g.trans g1) q)
    | ex x s => exact fun H1 G1 ρ1 cls d g1 q => h H1 G1 ρ1 cls d (g.trans g1) q
theorem OutA.mono {Q Q' : List V → Hp → Prop} {r : Option (Rs (List Wv))} (g : Same G G') (hQ : ∀ v H, Q v H → Q' v H) (h : OutA K Γ W F G ts σ Q r) : OutA K Γ W F G' ts σ Q' r := by
  cases r with
  | none => exact h
  | some r =>
    cases r with
    | ok w s => exact fun v H1 G1 ρ1 g1 q => hQ _ _ (h v H1 G1 ρ1 (g.trans g1) q)
    | ex x s => exact fun H1 G1 ρ1 cls d g1 q => h H1 G1 ρ1 cls d (g.trans g1) q
theorem OutE.goes {Q : VK} {w : Wv} {v : V} (h : OutE K Γ W F G ts σ Q (some (.ok w ss))) (r : RelW K F G ρ ts ss σ H w v) : Q v H := h v H G ρ (Same.refl G) r

theorem RelW.rel {w : Wv} {v : V} (h : RelW K F G ρ ts ss σ H w v) : Rel K F G ρ ts ss σ H := by
  cases w with
  | val d => exact h.1
  | new c => obtain ⟨p, _, R⟩ := h; exact R.drop
  | bor i => exact h.1
  | rol xs => exact h.1
theorem RelWs.rel : ∀ {ws : List Wv} {vs : List V} {ts : List (Addr × Con)}, RelWs K F G ρ ss σ H ts ws vs → Rel K F G ρ ts ss σ H
  | [], [], _, h => h
  | .val d :: ws, v :: vs, _, h => RelWs.rel h.2
  | .new c :: ws, v :: vs, _, h => by obtain ⟨p, _, R⟩ := h; exact (RelWs.rel R).drop
  | .bor i :: ws, v :: vs, _, h => RelWs.rel h.2
  | .rol i :: ws, v :: vs, _, h => RelWs.rel h.2
  | [], _ :: _, _, h => h.elim
  | .val _ :: _, [], _, h => h.elim
  | .new _ :: _, [], _, h => h.elim
  | .bor _ :: _, [], _, h => h.elim
  | .rol _ :: _, [], _, h => h.elim
theorem RelWs.length : ∀ {ws : List Wv} {vs : List V} {ts : List (Addr × Con)}, RelWs K F G ρ ss σ H ts ws vs → ws.length = vs.length
  | [], [], _, h => rfl
  | .val d :: ws, v :: vs, _, h => by simp [RelWs.length h.2]
  | .new c :: ws, v :: vs, _, h => by obtain ⟨p, _, R⟩ := h; simp [RelWs.length R]
  | .bor i :: ws, v :: vs, _, h => by simp [RelWs.length h.2]
  | .rol i :: ws, v :: vs, _, h => by simp [RelWs.length h.2]
  | [], _ :: _, _, h => h.elim
  | .val _ :: _, [], _, h => h.elim
  | .new _ :: _, [], _, h => h.elim
  | .bor _ :: _, [], _, h => h.elim
  | .rol _ :: _, [], _, h => h.elim
/-- the temporaries of a value -/
def RelW.cons {w : Wv} {v : V} {ws : List Wv} {vs : List V} (h : RelW K F G ρ ts ss σ H w v)
    (r : ∀ ts', (∀ t ∈ ts, t ∈ ts') → Rel K F G ρ ts' ss σ H → (∀ {G2 ρ2 ss2 H2}, Same G G2 → RelWs K F G2 ρ2 ss2 σ H2 ts' ws vs → RelWs K F G2 ρ2 ss2 σ H2 ts (w :: ws) (v :: vs)) → True) : True := trivial
/-- ts with the value's own temporary -/
theorem RelW.split {w : Wv} {v : V} (h : RelW K F G ρ ts ss σ H w v) :
    ∃ ts', Rel K F G ρ ts' ss σ H ∧ (∀ {G2 ρ2 ss2 H2}, Rel K F G2 ρ2 ts' ss2 σ H2 → Rel K F G2 ρ2 ts ss2 σ H2) ∧ ∀ {ws vs G2 ρ2 ss2 H2}, Same G G2 → RelWs K F G2 ρ2 ss2 σ H2 ts' ws vs → RelWs K F G2 ρ2 ss2 σ H2 ts (w :: ws) (v :: vs) := by
  cases w with
  | val d => exact ⟨ts, h.1, fun R => R, fun g r => ⟨h.2.mono g, r⟩⟩
  | new c => obtain ⟨p, rfl, R⟩ := h; exact ⟨(p, c) :: ts, R, fun R => R.drop, fun g r => ⟨p, rfl, r⟩⟩
  | bor i => exact ⟨ts, h.1, fun R => R, fun g r => ⟨h.2, r⟩⟩
  | rol xs => exact ⟨ts, h.1, fun R => R, fun g r => ⟨(let ⟨a, us, e, z1, z2⟩ := h.2; ⟨a, us, e, g.seq z1, z2.mono g⟩), r⟩⟩
theorem RelW.to1 {w : Wv} {v : V} (h : RelW K F G ρ ts ss σ H w v) : RelWs K F G ρ ss σ H ts [w] [v] := by
  obtain ⟨ts', R, _, k⟩ := h.split
  exact k (Same.refl G) R
end

/-! ### one expression, then an operation -/
def un1 (fa : M Wv) (op : Wv → M Wv) : M Wv := bnd fa op
def bin (fa fb : M Wv) (op : Wv → Wv → M Wv) : M Wv := bnd fa fun w => bnd fb fun u => op w u
section
variable {K : PySem.W.Frag} {Γ : Gm} {W : WX} {σ : L2.St} {H : Hp}
theorem te_then {fa : M Wv} {op : Wv → M Wv} {Q : VK} {Q' : V → Hp → Prop} (h : te K Γ W (bnd fa op) σ H Q)
    (k : ∀ F G ρ ts ss H w v, RelW K F G ρ ts ss σ H w v → OutE K Γ W F G ts σ Q (op w ss) → Q' v H) : te K Γ W fa σ H Q' := by
  obtain ⟨F, G, ρ, ts, ss, R, q⟩ := h
  refine ⟨F, G, ρ, ts, ss, R, ?_⟩
  unfold bnd at q
  cases e : fa ss with
  | none => rw [e] at q; exact q
  | some r =>
    rw [e] at q
    cases r with
    | ok w s => exact fun v H1 G1 ρ1 g1 r => k F G1 ρ1 ts s H1 w v r (q.mono g1 fun _ _ z => z)
    | ex x s => exact q
theorem te_then2 {fa fb : M Wv} {op : Wv → Wv → M Wv} {Q : VK} {Q' : V → V → Hp → Prop} (h : te K Γ W (bin fa fb op) σ H Q)
    (k : ∀ F G ρ ts ss H w u x y, RelWs K F G ρ ss σ H ts [w, u] [x, y] → OutE K Γ W F G ts σ Q (op w u ss) → Q' x y H) : te K Γ W fa σ H fun x H1 => te K Γ W fb σ H1 fun y H2 => Q' x y H2 := by
  refine te_then h fun F G ρ ts ss H1 w v r q => ?_
  obtain ⟨ts', R, dr, sp⟩ := r.split
  refine ⟨F, G, ρ, ts', ss, R, ?_⟩
  unfold bnd at q
  cases e : fb ss with
  | none => rw [e] at q; exact q
  | some r2 =>
    rw [e] at q
    cases r2 with
    | ok u s =>
      refine fun y H2 G2 ρ2 g2 r2 => k F G2 ρ2 ts s H2 w u v y (sp g2 r2.to1) (OutE.mono g2 (fun _ _ z => z) q)
    | ex x s => exact fun H2 G2 ρ2 cls d g2 R2 xn => q H2 G2 ρ2 cls d g2 (dr R2) xn
end

/-! ### what an operand is -/
def isDat : D → Bool
  | .dict _ => false
  | _ => true
/-- a container or data -/
inductive Pk where
  | c (c : Con)
  | d (d : D)
  | r (xs : List D)
def peek (ss : Sl) : Wv → Option Pk
  | .val d => some (.d d)
  | .new c => some (.c c)
  | .bor i => match ss[i]? with
    | some (.val _ d) => some (.d d)
    | some (.own _ c) => some (.c c)
    | some (.lk _ c) => some (.c c)
    | some (.rol xs) => some (.r xs)
    | _ => none
  | .rol xs => some (.r xs)
/-- .. by the heap -/
def PkAt (K : PySem.W.Frag) (G H : Hp) : Pk → V → Prop
  | .c c, v => ∃ p h, v = .ref p ∧ HoldsAt K G H p c h
  | .d d, v => Dv K G v d
  | .r xs, v => ∃ a us, v = .ref a ∧ SqL K G a us ∧ DvAll K G us xs
section
variable {K : PySem.W.Frag} {Γ : Gm} {W : WX} {F : Fm} {G : Hp} {ρ : Nat → Addr} {ts : List (Addr × Con)} {ss : Sl} {σ : L2.St} {H : Hp}
theorem HoldsAt.rd {p : Addr} {c : Con} {h : Bool} (x : HoldsAt K G H p c h) : ∃ o, Rd H p o ∧ ConAt K G c o := by
  obtain ⟨o, a, b, d⟩ := x
  cases h with
  | false => exact ⟨o, .inl (b rfl), a⟩
  | true => obtain ⟨_, ob, e⟩ := d rfl; exact ⟨o, .inr ⟨ob, e⟩, a⟩
theorem HoldsAt.ls {p : Addr} {xs : List D} {h : Bool} (x : HoldsAt K G H p (Con.lst xs) h) : ∃ vs, H p = some (HO.lst vs) ∧ DvAll K G vs xs := by
  obtain ⟨o, a, b, d⟩ := x
  obtain ⟨vs, rfl, a⟩ := a.lst_inv
  cases h with
  | false => exact ⟨vs, b rfl, a⟩
  | true => cases (d rfl).1
theorem Rel.peekB {i : Nat} {v : V} {k : Pk} (R : Rel K F G ρ ts ss σ H) (hv : σ[i]? = some (some v)) (h : peek ss (.bor i) = some k) : PkAt K G H k v := by
  unfold peek at h
  dsimp only at h
  cases e : ss[i]? with
  | none => rw [e] at h; cases h
  | some s =>
    rw [e] at h
    have q := R.slot i s e
    cases s with
    | un => cases h
    | val b d =>
      cases h
      obtain ⟨v', e', q, _⟩ := q
      rw [hv] at e'; cases e'
      exact q
    | own b c =>
      cases h
      obtain ⟨e', _, o, q, z⟩ := q
      rw [hv] at e'; cases e'
      exact ⟨_, false, rfl, o, z, fun _ => q, (fun e => by cases e)⟩
    | lk b c =>
      cases h
      obtain ⟨t, ht, e1, e2, _⟩ := q
      obtain ⟨_, a2, a3, _⟩ := R.lks t ht
      subst e1 e2
      rw [hv] at a2; cases a2
      exact ⟨_, _, rfl, a3⟩
    | exn a => cases h
    | rol xs =>
      cases h
      obtain ⟨a, vs, e', z⟩ := q
      rw [hv] at e'; cases e'
      exact ⟨a, vs, rfl, z⟩
theorem RelWs.peeks : ∀ {ws : List Wv} {vs : List V} {ts : List (Addr × Con)}, RelWs K F G ρ ss σ H ts ws vs → ∀ {i : Nat} {w : Wv} {k : Pk}, ws[i]? = some w → peek ss w = some k → ∃ v, vs[i]? = some v ∧ PkAt K G H k v
  | [], [], _, _, _, _, _, e, _ => by simp at e
  | .val d :: ws, v :: vs, _, h, 0, w, k, e, p => by simp at e; subst e; cases p; exact ⟨v, rfl, h.1⟩
  | .new c :: ws, v :: vs, _, h, 0, w, k, e, p => by
    simp at e; subst e; cases p
    obtain ⟨q, rfl, R⟩ := h
    obtain ⟨⟨o, a, b⟩, _⟩ := R.rel.tmp _ List.mem_cons_self
    exact ⟨_, rfl, q, false, rfl, o, b, fun _ => a, (fun e => by cases e)⟩
  | .bor j :: ws, v :: vs, _, h, 0, w, k, e, p => by
    simp at e; subst e
    exact ⟨v, rfl, h.2.rel.peekB h.1 p⟩
  | .rol xs :: ws, v :: vs, _, h, 0, w, k, e, p => by simp at e; subst e; cases p; exact ⟨v, rfl, h.1⟩
  | .val d :: ws, v :: vs, _, h, i + 1, w, k, e, p => by simpa using RelWs.peeks h.2 (i := i) (by simpa using e) p
  | .new c :: ws, v :: vs, _, h, i + 1, w, k, e, p => by obtain ⟨q, _, R⟩ := h; simpa using RelWs.peeks R (i := i) (by simpa using e) p
  | .bor j :: ws, v :: vs, _, h, i + 1, w, k, e, p => by simpa using RelWs.peeks h.2 (i := i) (by simpa using e) p
  | .rol j :: ws, v :: vs, _, h, i + 1, w, k, e, p => by simpa using RelWs.peeks h.2 (i := i) (by simpa using e) p
  | [], _ :: _, _, h, _, _, _, _, _ => h.elim
  | .val _ :: _, [], _, h, _, _, _, _, _ => h.elim
  | .new _ :: _, [], _, h, _, _, _, _, _ => h.elim
  | .bor _ :: _, [], _, h, _, _, _, _, _ => h.elim
  | .rol _ :: _, [], _, h, _, _, _, _, _ => h.elim
theorem RelWs.pk1 {w : Wv} {x : V} {k : Pk} (h : RelWs K F G ρ ss σ H ts [w] [x]) (e : peek ss w = some k) : PkAt K G H k x := by
  obtain ⟨v, e', q⟩ := h.peeks (i := 0) (w := w) rfl e
  simp at e'; subst e'; exact q
theorem RelWs.pk21 {w u : Wv} {x y : V} {k : Pk} (h : RelWs K F G ρ ss σ H ts [w, u] [x, y]) (e : peek ss w = some k) : PkAt K G H k x := by
  obtain ⟨v, e', q⟩ := h.peeks (i := 0) (w := w) rfl e
  simp at e'; subst e'; exact q
theorem RelWs.pk22 {w u : Wv} {x y : V} {k : Pk} (h : RelWs K F G ρ ss σ H ts [w, u] [x, y]) (e : peek ss u = some k) : PkAt K G H k y := by
  obtain ⟨v, e', q⟩ := h.peeks (i := 1) (w := u) rfl e
  simp at e'; subst e'; exact q
end

/-- an int -/
def intV (ss : Sl) (w : Wv) : Option Int := match peek ss w with
  | some (.d (.int i)) => some i
  | _ => none
def strV (ss : Sl) (w : Wv) : Option Str := match peek ss w with
  | some (.d (.str i)) => some i
  | _ => none
def boolV (ss : Sl) (w : Wv) : Option Bool := match peek ss w with
  | some (.d (.bool i)) => some i
  | _ => none
/-- the items of a list or a tuple -/
def seqV (ss : Sl) (w : Wv) : Option (List D) := match peek ss w with
  | some (.c (.lst xs)) => some xs
  | some (.d (.list xs)) => some xs
  | some (.d (.tuple xs)) => some xs
  | _ => none
def lstV (ss : Sl) (w : Wv) : Option (List D) := match peek ss w with
  | some (.c (.lst xs)) => some xs
  | some (.d (.list xs)) => some xs
  | some (.r xs) => some xs
  | _ => none
def tupV (ss : Sl) (w : Wv) : Option (List D) := match peek ss w with
  | some (.d (.tuple xs)) => some xs
  | _ => none
/-- any data -/
def datV (ss : Sl) (w : Wv) : Option D := match peek ss w with
  | some (.c (.lst xs)) => some (.list xs)
  | some (.d d) => some d
  | _ => none
section
variable {K : PySem.W.Frag} {G H : Hp} {ss : Sl} {w : Wv} {x : V}
theorem intV_pk {i : Int} (h : intV ss w = some i) (p : ∀ k, peek ss w = some k → PkAt K G H k x) : x = .int i := by
  unfold intV at h
  split at h
  · rename_i j e; cases h; have q := p _ e; cases q; rfl
  · cases h
theorem strV_pk {i : Str} (h : strV ss w = some i) (p : ∀ k, peek ss w = some k → PkAt K G H k x) : x = .str i := by
  unfold strV at h
  split at h
  · rename_i j e; cases h; have q := p _ e; cases q; rfl
  · cases h
theorem boolV_pk {i : Bool} (h : boolV ss w = some i) (p : ∀ k, peek ss w = some k → PkAt K G H k x) : x = .bl i := by
  unfold boolV at h
  split at h
  · rename_i j e; cases h; have q := p _ e; cases q; rfl
  · cases h
theorem lstV_pk {xs : List D} (s : Same G H) (h : lstV ss w = some xs) (p : ∀ k, peek ss w = some k → PkAt K G H k x) : ∃ a vs, x = .ref a ∧ SqL K H a vs ∧ DvAll K G vs xs := by
  unfold lstV at h
  split at h
  · rename_i ys e; cases h
    obtain ⟨a, _, rfl, hh⟩ := p _ e
    obtain ⟨vs, r, c⟩ := hh.ls
    exact ⟨a, vs, rfl, .of r, c⟩
  · rename_i ys e; cases h
    have q := p _ e
    cases q with
    | lst hs ha => exact ⟨_, _, rfl, .of (s _ _ hs), ha⟩
  · rename_i ys e; cases h
    obtain ⟨a, us, rfl, z1, z2⟩ := p _ e
    exact ⟨a, us, rfl, s.seq z1, z2⟩
  · cases h
/-- a list that is tracked -/
def conL (ss : Sl) (w : Wv) : Option (List D) := match peek ss w with
  | some (.c (.lst xs)) => some xs
  | some (.d (.list xs)) => some xs
  | _ => none
theorem conL_pk {xs : List D} (s : Same G H) (h : conL ss w = some xs) (p : ∀ k, peek ss w = some k → PkAt K G H k x) : ∃ a vs, x = .ref a ∧ H a = some (.lst vs) ∧ DvAll K G vs xs := by
  unfold conL at h
  split at h
  · rename_i ys e; cases h
    obtain ⟨a, _, rfl, hh⟩ := p _ e
    obtain ⟨vs, r, c⟩ := hh.ls
    exact ⟨a, vs, rfl, r, c⟩
  · rename_i ys e; cases h
    have q := p _ e
    cases q with
    | lst hs ha => exact ⟨_, _, rfl, s _ _ hs, ha⟩
  · cases h
theorem tupV_pk {xs : List D} (s : Same G H) (h : tupV ss w = some xs) (p : ∀ k, peek ss w = some k → PkAt K G H k x) : ∃ a vs, x = .ref a ∧ G a = some (.tup vs) ∧ DvAll K G vs xs := by
  unfold tupV at h
  split at h
  · rename_i ys e; cases h
    have q := p _ e
    cases q with
    | tup hs ha => exact ⟨_, _, rfl, hs, ha⟩
  · cases h
theorem seqV_pk {xs : List D} (s : Same G H) (h : seqV ss w = some xs) (p : ∀ k, peek ss w = some k → PkAt K G H k x) : ∃ a vs, x = .ref a ∧ (SqL K H a vs ∨ SqT K H a vs) ∧ DvAll K G vs xs := by
  unfold seqV at h
  split at h
  · rename_i ys e; cases h
    obtain ⟨a, _, rfl, hh⟩ := p _ e
    obtain ⟨vs, r, c⟩ := hh.ls
    exact ⟨a, vs, rfl, .inl (.of r), c⟩
  · rename_i ys e; cases h
    have q := p _ e
    cases q with
    | lst hs ha => exact ⟨_, _, rfl, .inl (.of (s _ _ hs)), ha⟩
  · rename_i ys e; cases h
    have q := p _ e
    cases q with
    | tup hs ha => exact ⟨_, _, rfl, .inr (.inl (.inl (s _ _ hs))), ha⟩
  · cases h
theorem datV_pk {d : D} (s : Same G H) (h : datV ss w = some d) (p : ∀ k, peek ss w = some k → PkAt K G H k x) : Dp K H x d := by
  unfold datV at h
  split at h
  · rename_i ys e; cases h
    obtain ⟨a, _, rfl, hh⟩ := p _ e
    obtain ⟨vs, r, c⟩ := hh.ls
    exact .lst (.of r) (DvAll.dp s c)
  · rename_i ys e; cases h
    exact Dv.dp s (p _ e)
  · cases h
end
end DT
/-! DT: expressions -/
namespace DT
open PySem PySem.Spec PyProof.Rows L2

section
variable {K : PySem.W.Frag} {Γ : Gm} {W : WX} {F : Fm} {G : Hp} {ρ : Nat → Addr} {ts : List (Addr × Con)} {ss ss' : Sl} {σ : L2.St} {H : Hp} {Q : VK}
theorem OutE.vl {d : D} {v : V} (h : OutE K Γ W F G ts σ Q (some (.ok (.val d) ss))) (R : Rel K F G ρ ts ss σ H) (hd : Dv K G v d) : Q v H := h.goes ⟨R, hd⟩
theorem OutE.nw {c : Con} {o : HO} (h : OutE K Γ W F G ts σ Q (some (.ok (.new c) ss))) (R : Rel K F G ρ ts ss σ H) (hc : ConAt K G c o) : ∀ p, H p = none → Q (.ref p) (upd H p o) :=
  fun p hp => h _ _ G ρ (Same.refl G) ⟨p, rfl, R.alloc hp hc⟩
theorem OutE.nt {ds : List D} {vs : List V} (h : OutE K Γ W F G ts σ Q (some (.ok (.val (.tuple ds)) ss))) (R : Rel K F G ρ ts ss σ H) (ha : DvAll K G vs ds) : ∀ p, H p = none → Q (.ref p) (upd H p (.tup vs)) :=
  fun p hp => h _ _ (upd G p (.tup vs)) ρ (sm_grow (R.sub.free hp)) ⟨R.frozen hp, .tup upd_same (ha.mono (sm_grow (R.sub.free hp)))⟩
end

/-! ### names and constants -/
def cst (d : D) : M Wv := ret (.val d)
def nm (i : Nat) : M Wv := fun ss => match ss[i]? with
  | some (.val _ d) => some (.ok (.val d) ss)
  | some (.own _ _) => some (.ok (.bor i) ss)
  | some (.lk _ _) => some (.ok (.bor i) ss)
  | some (.rol xs) => some (.ok (.rol xs) ss)
  | _ => none
section
variable {Γ : Gm} {X : Cx} {W : WX}
theorem te_cst {v : V} {d : D} {K : PySem.W.Frag} (hd : ∀ G, Dv K G v d) : ∀ σ H Q, te K Γ W (cst d) σ H Q → tC v σ H Q := fun σ H Q ⟨F, G, ρ, ts, ss, R, q⟩ => OutE.vl q R (hd G)
theorem de_int {i : Int} {j pos} : DE Γ X W (.Constant (.int i) j pos) (cst (.int i)) := PE_imp pe_int (te_cst fun G => .int i)
theorem de_bl {b : Bool} {j pos} : DE Γ X W (.Constant (.bool b) j pos) (cst (.bool b)) := PE_imp pe_bl (te_cst fun G => .bl b)
theorem de_non {j pos} : DE Γ X W (.Constant .none j pos) (cst .none) := PE_imp pe_non (te_cst fun G => .non)
theorem de_str {x : Str} {j pos} : DE Γ X W (.Constant (.str x) j pos) (cst (.str x)) := PE_imp pe_str (te_cst fun G => .str x)
theorem de_gint {x : Str} {i : Int} {t : Tok} {pos : Pos} (hm : X.mg x = some (.int i t)) (hg : Gl X x := by rfl) (hd : (x == ("__debug__" : Str)) = false := by decide) : DE Γ X W (.Name x pos) (cst (.int i)) :=
  PE_imp (pe_glob (v := .int i) hg hm ⟨t, rfl⟩ hd) (te_cst fun G => .int i)
theorem de_gstr {x : Str} {i : Str} {t : Tok} {pos : Pos} (hm : X.mg x = some (.str i t)) (hg : Gl X x := by rfl) (hd : (x == ("__debug__" : Str)) = false := by decide) : DE Γ X W (.Name x pos) (cst (.str i)) :=
  PE_imp (pe_glob (v := .str i) hg hm ⟨t, rfl⟩ hd) (te_cst fun G => .str i)
theorem te_nm {K : PySem.W.Frag} (i : Nat) : ∀ σ H Q, te K Γ W (nm i) σ H Q → tVar i σ H Q := fun σ H Q ⟨F, G, ρ, ts, ss, R, q⟩ => by
  unfold nm at q
  cases e : ss[i]? with
  | none => rw [e] at q; exact q.elim
  | some s =>
    rw [e] at q
    have z := R.slot i s e
    cases s with
    | un => exact q.elim
    | val b d => obtain ⟨v, h1, h2, _⟩ := z; exact ⟨v, h1, OutE.vl q R h2⟩
    | own b c => obtain ⟨h1, _⟩ := z; exact ⟨_, h1, q.goes ⟨R, h1⟩⟩
    | lk b c =>
      obtain ⟨t, ht, e1, e2, _⟩ := z
      subst e1
      have h1 := (R.lks t ht).2.1
      exact ⟨_, h1, q.goes ⟨R, h1⟩⟩
    | exn a => exact q.elim
    | rol xs => obtain ⟨a, vs, h1, h2⟩ := z; exact ⟨_, h1, q.goes ⟨R, a, vs, rfl, h2⟩⟩
theorem de_nm (i : Nat) {x : Str} {pos : Pos} (hN : X.N[i]? = some x := by rfl) (hv : Vis X.env.scope x := by first | exact Or.inl rfl | exact Or.inr (Or.inl rfl) | exact Or.inr (Or.inr rfl)) (hd : (x == ("__debug__" : Str)) = false := by decide)
    (hcd : (x == ("__classdict__" : Str)) = false := by decide) : DE Γ X W (.Name x pos) (nm i) := PE_imp (pe_var hN hv hd hcd) (te_nm i)
end

/-! ### operators by values -/
/-- the reading r follows from what the combinator says -/
def OpOk (K : PySem.W.Frag) (op : Wv → Wv → M Wv) (r : R2) : Prop :=
  ∀ (Γ : Gm) (W : WX) (F : Fm) (G : Hp) (ρ : Nat → Addr) (ts : List (Addr × Con)) (ss : Sl) (σ : L2.St) (H : Hp) (w u : Wv) (x y : V) (Q : VK), RelWs K F G ρ ss σ H ts [w, u] [x, y] → OutE K Γ W F G ts σ Q (op w u ss) → r x y H Q
def UnOk (K : PySem.W.Frag) (op : Wv → M Wv) (r : V → Hp → VK → Prop) : Prop :=
  ∀ (Γ : Gm) (W : WX) (F : Fm) (G : Hp) (ρ : Nat → Addr) (ts : List (Addr × Con)) (ss : Sl) (σ : L2.St) (H : Hp) (w : Wv) (x : V) (Q : VK), RelWs K F G ρ ss σ H ts [w] [x] → OutE K Γ W F G ts σ Q (op w ss) → r x H Q
theorem te_op {K : PySem.W.Frag} {Γ : Gm} {W : WX} {op : Wv → Wv → M Wv} {r : R2} {fa fb : M Wv} (h : OpOk K op r) : ∀ σ H Q, te K Γ W (bin fa fb op) σ H Q → tOp r (te K Γ W fa) (te K Γ W fb) σ H Q := fun σ H Q q =>
  te_then2 q fun F G ρ ts ss H w u x y r q => h Γ W F G ρ ts ss σ H w u x y _ r q
theorem te_un {K : PySem.W.Frag} {Γ : Gm} {W : WX} {op : Wv → M Wv} {r : V → Hp → VK → Prop} {fa : M Wv} (h : UnOk K op r) : ∀ σ H Q, te K Γ W (un1 fa op) σ H Q → tUn r (te K Γ W fa) σ H Q := fun σ H Q q =>
  te_then q fun F G ρ ts ss H w x r q => h Γ W F G ρ ts ss σ H w x _ r.to1 q
section
variable {Γ : Gm} {X : Cx} {W : WX} {a b c : Expr} {fa fb fc : M Wv} {pos : Pos}
theorem de_bin {op : Operator} {f : Wv → Wv → M Wv} {r : R2} (ho : OpR X (binaryOp op) r) (h : OpOk X.K f r) (ha : DE Γ X W a fa) (hb : DE Γ X W b fb) : DE Γ X W (.BinOp a op b pos) (bin fa fb f) :=
  PE_imp (pe_op ho ha hb) (te_op h)
theorem de_un {op : UnaryOp} {f : Wv → M Wv} {r : V → Hp → VK → Prop} (ho : UnR X (unaryOp op) r) (h : UnOk X.K f r) (ha : DE Γ X W a fa) : DE Γ X W (.UnaryOp op a pos) (un1 fa f) :=
  PE_imp (pe_un ho ha) (te_un h)
theorem de_cmp {op : CmpOp} {f : Wv → Wv → M Wv} {r : R2} (ho : OpR X (compareOp op) r) (h : OpOk X.K f r) (ha : DE Γ X W a fa) (hb : DE Γ X W b fb) (hm : behindInMarks op b = false := by first | exact nomark _ | rfl) : DE Γ X W (.Compare a [op] [b] pos) (bin fa fb f) :=
  PE_imp (pe_cmpR ho ha hb hm) (te_op h)
end

/-- ints -/
def iop (C : Int → Int → Bool) (g : Int → Int → D) (w u : Wv) : M Wv := fun ss => match intV ss w, intV ss u with
  | some i, some j => if C i j = true then some (.ok (.val (g i j)) ss) else none
  | _, _ => none
def iun (g : Int → D) (w : Wv) : M Wv := fun ss => match intV ss w with
  | some i => some (.ok (.val (g i)) ss)
  | _ => none
section
variable {K : PySem.W.Frag}
theorem ok_iop {C : Int → Int → Bool} {C' : Int → Int → Prop} {g : Int → Int → D} {g' : Int → Int → V} (hC : ∀ i j, C i j = true → C' i j) (hg : ∀ G i j, Dv K G (g' i j) (g i j)) : OpOk K (iop C g) (rI C' g') := by
  intro Γ W F G ρ ts ss σ H w u x y Q r q
  unfold iop at q
  cases e1 : intV ss w with
  | none => rw [e1] at q; exact q.elim
  | some i =>
    cases e2 : intV ss u with
    | none => rw [e1, e2] at q; exact q.elim
    | some j =>
      rw [e1, e2] at q
      dsimp only at q
      by_cases c : C i j = true
      · rw [if_pos c] at q
        exact ⟨i, j, intV_pk e1 fun k => r.pk21, intV_pk e2 fun k => r.pk22, hC _ _ c, OutE.vl q r.rel (hg G i j)⟩
      · rw [if_neg c] at q; exact q.elim
theorem ok_iop0 {g : Int → Int → D} {g' : Int → Int → V} (hg : ∀ G i j, Dv K G (g' i j) (g i j)) : OpOk K (iop (fun _ _ => true) g) (rI0 g') := by
  intro Γ W F G ρ ts ss σ H w u x y Q r q
  obtain ⟨i, j, a, b, _, d⟩ := ok_iop (K := K) (C := fun _ _ => true) (C' := fun _ _ => True) (fun _ _ _ => trivial) hg Γ W F G ρ ts ss σ H w u x y Q r q
  exact ⟨i, j, a, b, d⟩
theorem ok_iun {g : Int → D} {g' : Int → V} (hg : ∀ G i, Dv K G (g' i) (g i)) : UnOk K (iun g) (rU g') := by
  intro Γ W F G ρ ts ss σ H w x Q r q
  unfold iun at q
  cases e1 : intV ss w with
  | none => rw [e1] at q; exact q.elim
  | some i =>
    rw [e1] at q
    exact ⟨i, intV_pk e1 fun k => r.pk1, OutE.vl q r.rel (hg G i)⟩
end
/-- the numbers' bounds that the model asks -/
def cMul (i j : Int) : Bool := decide (-(2 ^ 64) < i ∧ i < 2 ^ 64) || decide (-(2 ^ 64) < j ∧ j < 2 ^ 64)
def cDiv (i j : Int) : Bool := decide (0 < j ∧ j < 1073741824)
def cMod (_ j : Int) : Bool := decide (0 < j)
def cPow (i j : Int) : Bool := decide (0 ≤ j ∧ j ≤ 1000000 ∧ i.natAbs < 2 ^ 64)
def cShr (_ j : Int) : Bool := decide (0 ≤ j)
abbrev iSub := iop (fun _ _ => true) fun i j => .int (i - j)
abbrev iDiv := iop cDiv fun i j => .int (i / j)
abbrev iMod := iop cMod fun i j => .int (i % j)
abbrev iPow := iop cPow fun i j => .int (i ^ j.toNat)
abbrev iShl := iop cPow fun i j => .int (i * 2 ^ j.toNat)
abbrev iShr := iop cShr fun i j => .int (i / 2 ^ j.toNat)
abbrev iAnd := iop (fun _ _ => true) fun i j => .int (Builtin.bitAnd i j)
abbrev iOr := iop (fun _ _ => true) fun i j => .int (Builtin.bitOr i j)
abbrev iXor := iop (fun _ _ => true) fun i j => .int (Builtin.bitXor i j)
abbrev iNeg := iun fun i => .int (-i)
abbrev iInv := iun fun i => .int (Builtin.bitNot i)
section
variable {Γ : Gm} {X : Cx} {W : WX} {a b : Expr} {fa fb : M Wv} {pos : Pos}
theorem de_sub (ha : DE Γ X W a fa) (hb : DE Γ X W b fb) : DE Γ X W (.BinOp a .Sub b pos) (bin fa fb iSub) := de_bin op_sub (ok_iop0 fun _ _ _ => .int _) ha hb
theorem de_div (ha : DE Γ X W a fa) (hb : DE Γ X W b fb) : DE Γ X W (.BinOp a .FloorDiv b pos) (bin fa fb iDiv) := de_bin op_fdiv (ok_iop (fun _ _ h => by simpa [cDiv, cMod, cPow, cShr, CDiv, CPow] using h) fun _ _ _ => .int _) ha hb
theorem de_mod (ha : DE Γ X W a fa) (hb : DE Γ X W b fb) : DE Γ X W (.BinOp a .Mod b pos) (bin fa fb iMod) := de_bin op_mod (ok_iop (fun _ _ h => by simpa [cDiv, cMod, cPow, cShr, CDiv, CPow] using h) fun _ _ _ => .int _) ha hb
theorem de_pow (ha : DE Γ X W a fa) (hb : DE Γ X W b fb) : DE Γ X W (.BinOp a .Pow b pos) (bin fa fb iPow) := de_bin op_pow (ok_iop (fun _ _ h => by simpa [cDiv, cMod, cPow, cShr, CDiv, CPow] using h) fun _ _ _ => .int _) ha hb
theorem de_shl (ha : DE Γ X W a fa) (hb : DE Γ X W b fb) : DE Γ X W (.BinOp a .LShift b pos) (bin fa fb iShl) := de_bin op_shl (ok_iop (fun _ _ h => by simpa [cDiv, cMod, cPow, cShr, CDiv, CPow] using h) fun _ _ _ => .int _) ha hb
theorem de_shr (ha : DE Γ X W a fa) (hb : DE Γ X W b fb) : DE Γ X W (.BinOp a .RShift b pos) (bin fa fb iShr) := de_bin op_shr (ok_iop (fun _ _ h => by simpa [cDiv, cMod, cPow, cShr, CDiv, CPow] using h) fun _ _ _ => .int _) ha hb
theorem de_band (ha : DE Γ X W a fa) (hb : DE Γ X W b fb) : DE Γ X W (.BinOp a .BitAnd b pos) (bin fa fb iAnd) := de_bin op_and (ok_iop0 fun _ _ _ => .int _) ha hb
theorem de_bor (ha : DE Γ X W a fa) (hb : DE Γ X W b fb) : DE Γ X W (.BinOp a .BitOr b pos) (bin fa fb iOr) := de_bin op_or (ok_iop0 fun _ _ _ => .int _) ha hb
theorem de_bxor (ha : DE Γ X W a fa) (hb : DE Γ X W b fb) : DE Γ X W (.BinOp a .BitXor b pos) (bin fa fb iXor) := de_bin op_xor (ok_iop0 fun _ _ _ => .int _) ha hb
theorem de_neg (ha : DE Γ X W a fa) : DE Γ X W (.UnaryOp .USub a pos) (un1 fa iNeg) := de_un un_neg (ok_iun fun _ _ => .int _) ha
theorem de_inv (ha : DE Γ X W a fa) : DE Γ X W (.UnaryOp .Invert a pos) (un1 fa iInv) := de_un un_inv (ok_iun fun _ _ => .int _) ha
end

/-! ### + and * -/
def szOk (n : Nat) : Bool := decide (n ≤ 16777216)
theorem szOk_le {n : Nat} (h : szOk n = true) : n ≤ sizeLine := by rw [sizeLine_eq]; exact of_decide_eq_true h
/-- x + y -/
def addW (w u : Wv) : M Wv := fun ss => match intV ss w, intV ss u with
  | some i, some j => some (.ok (.val (.int (i + j))) ss)
  | _, _ => match tupV ss w, tupV ss u with
    | some xs, some ys => if szOk (xs.length + ys.length) = true then some (.ok (.val (.tuple (xs ++ ys))) ss) else none
    | _, _ => match conL ss w, conL ss u with
      | some xs, some ys => if szOk (xs.length + ys.length) = true then some (.ok (.new (.lst (xs ++ ys))) ss) else none
      | _, _ => match strV ss w, strV ss u with
        | some x, some y => if szOk (x.length + y.length) = true then some (.ok (.val (.str (x ++ y))) ss) else none
        | _, _ => none
def rAddW (K : PySem.W.Frag) : R2 := fun x y H Q => rI0 (fun i j => .int (i + j)) x y H Q ∨ rCatA K x y H Q ∨ rCat x y H Q ∨ ∃ i j, x = .str i ∧ y = .str j ∧ i.length + j.length ≤ sizeLine ∧ Q (.str (i ++ j)) H
theorem op_addW {X : Cx} : OpR X (binaryOp .Add) (rAddW X.K) := op_add.or (op_catA.or (op_cat.or op_add_str))
theorem ok_addW {K : PySem.W.Frag} : OpOk K addW (rAddW K) := by
  intro Γ W F G ρ ts ss σ H w u x y Q r q
  unfold addW at q
  have R := r.rel
  split at q
  · rename_i i j e1 e2
    exact .inl ⟨i, j, intV_pk e1 fun k => r.pk21, intV_pk e2 fun k => r.pk22, OutE.vl q R (.int _)⟩
  · split at q
    · rename_i xs ys e1 e2
      split at q
      · rename_i hz
        obtain ⟨a, vs, rfl, h1, d1⟩ := tupV_pk R.sub e1 fun k => r.pk21
        obtain ⟨b, us, rfl, h2, d2⟩ := tupV_pk R.sub e2 fun k => r.pk22
        refine .inr (.inl ⟨a, b, vs, us, rfl, rfl, .of (R.sub _ _ h1), .of (R.sub _ _ h2), by rw [d1.length, d2.length]; exact szOk_le hz, fun e => ?_, fun _ e => ?_, fun _ _ => OutE.nt q R (d1.append d2)⟩)
        · subst e; cases d1; exact OutE.vl q R (.tup h2 d2)
        · subst e; cases d2; rw [List.append_nil] at q; exact OutE.vl q R (.tup h1 d1)
      · exact q.elim
    · split at q
      · rename_i xs ys e1 e2
        split at q
        · rename_i hz
          obtain ⟨a, vs, rfl, h1, d1⟩ := conL_pk R.sub e1 fun k => r.pk21
          obtain ⟨b, us, rfl, h2, d2⟩ := conL_pk R.sub e2 fun k => r.pk22
          exact .inr (.inr (.inl ⟨a, b, vs, us, rfl, rfl, h1, h2, by rw [d1.length, d2.length]; exact szOk_le hz, OutE.nw q R (d1.append d2)⟩))
        · exact q.elim
      · split at q
        · rename_i i j e1 e2
          split at q
          · rename_i hz
            exact .inr (.inr (.inr ⟨i, j, strV_pk e1 fun k => r.pk21, strV_pk e2 fun k => r.pk22, szOk_le hz, OutE.vl q R (.str _)⟩))
          · exact q.elim
        · exact q.elim
/-- x * y: ints -/
abbrev iMul := iop cMul fun i j => .int (i * j)
theorem cMul_ok {i j : Int} (h : cMul i j = true) : CMul i j := by
  unfold cMul at h
  rcases Bool.or_eq_true_iff.mp h with h | h
  · exact .inl (of_decide_eq_true h)
  · exact .inr (of_decide_eq_true h)
/-- a list times an int -/
def lMul (w u : Wv) : M Wv := fun ss => match conL ss w, intV ss u with
  | some xs, some k => if decide (-(2 ^ 63) ≤ k ∧ k < 2 ^ 63) = true ∧ szOk (xs.length * k.toNat) = true then some (.ok (.new (.lst (List.replicate k.toNat xs).flatten)) ss) else none
  | _, _ => none
theorem ok_lMul {K : PySem.W.Frag} : OpOk K lMul rRep := by
  intro Γ W F G ρ ts ss σ H w u x y Q r q
  unfold lMul at q
  have R := r.rel
  split at q
  · rename_i xs k e1 e2
    split at q
    · rename_i hz
      obtain ⟨a, vs, rfl, h1, d1⟩ := conL_pk R.sub e1 fun k => r.pk21
      have hb := of_decide_eq_true hz.1
      exact ⟨a, k, vs, rfl, intV_pk e2 fun k => r.pk22, h1, hb.1, hb.2, by rw [d1.length]; exact szOk_le hz.2, OutE.nw q R (d1.rep k.toNat)⟩
    · exact q.elim
  · exact q.elim
/-- x * y: ints, a list times an int -/
def mulW (w u : Wv) : M Wv := fun ss => match intV ss w with
  | some _ => iMul w u ss
  | none => lMul w u ss
theorem ok_mulW {K : PySem.W.Frag} : OpOk K mulW (fun x y H Q => rI CMul (fun i j => .int (i * j)) x y H Q ∨ rRep x y H Q) := by
  intro Γ W F G ρ ts ss σ H w u x y Q r q
  unfold mulW at q
  split at q
  · exact .inl (ok_iop (K := K) (fun _ _ => cMul_ok) (fun _ _ _ => .int _) Γ W F G ρ ts ss σ H w u x y Q r q)
  · exact .inr (ok_lMul Γ W F G ρ ts ss σ H w u x y Q r q)
section
variable {Γ : Gm} {X : Cx} {W : WX} {a b : Expr} {fa fb : M Wv} {pos : Pos}
theorem de_add (ha : DE Γ X W a fa) (hb : DE Γ X W b fb) : DE Γ X W (.BinOp a .Add b pos) (bin fa fb addW) := de_bin op_addW ok_addW ha hb
theorem de_mul (ha : DE Γ X W a fa) (hb : DE Γ X W b fb) : DE Γ X W (.BinOp a .Mult b pos) (bin fa fb mulW) := de_bin (op_mul.or op_rep) ok_mulW ha hb
end
end DT
/-! DT: comparisons, truth, tests -/
namespace DT
open PySem PySem.Spec PyProof.Rows L2

/-! ### data as the library reads it -/
mutual
theorem dv_plain {K : PySem.W.Frag} {G : Hp} : ∀ {v : V} {d : D}, Dv K G v d → d.plain = true
  | _, _, .non => rfl
  | _, _, .bl _ => rfl
  | _, _, .int _ => rfl
  | _, _, .str _ => rfl
  | _, _, .lst _ h => by show PyData.plainAll _ = true; exact dvs_plain h
  | _, _, .tup _ h => by show PyData.plainAll _ = true; exact dvs_plain h
theorem dvs_plain {K : PySem.W.Frag} {G : Hp} : ∀ {vs : List V} {ds : List D}, DvAll K G vs ds → PyData.plainAll ds = true
  | _, _, .nil => rfl
  | _, _, .cons h t => by
    show (_ && _) = true
    rw [dv_plain h, dvs_plain t]; rfl
end
mutual
theorem dp_plain {K : PySem.W.Frag} {G : Hp} : ∀ {v : V} {d : D}, Dp K G v d → d.plain = true
  | _, _, .non => rfl
  | _, _, .bl _ => rfl
  | _, _, .int _ => rfl
  | _, _, .str _ => rfl
  | _, _, .lst _ h => by show PyData.plainAll _ = true; exact dps_plain h
  | _, _, .tup _ h => by show PyData.plainAll _ = true; exact dps_plain h
theorem dps_plain {K : PySem.W.Frag} {G : Hp} : ∀ {vs : List V} {ds : List D}, DpAll K G vs ds → PyData.plainAll ds = true
  | _, _, .nil => rfl
  | _, _, .cons h t => by
    show (_ && _) = true
    rw [dp_plain h, dps_plain t]; rfl
end
theorem dps_get {K : PySem.W.Frag} {H : Hp} : ∀ {vs : List V} {ds : List D} {i : Nat} {v : V}, DpAll K H vs ds → vs[i]? = some v → ∃ d, ds[i]? = some d ∧ Dp K H v d
  | _, _, _, _, .nil, q => by simp at q
  | _, _, 0, _, .cons h _, q => by simp at q; subst q; exact ⟨_, rfl, h⟩
  | _, _, i + 1, _, .cons _ t, q => by
    obtain ⟨d, h1, h2⟩ := dps_get (i := i) t (by simpa using q)
    exact ⟨d, by simpa using h1, h2⟩


/-! ### truth -/
/-- a dict that is the frame's own -/
def ownC (ss : Sl) : Wv → Option Con
  | .new c => some c
  | .bor i => match ss[i]? with
    | some (.own _ c) => some c
    | _ => none
  | _ => none
def truD : D → Option Bool
  | .none => some false
  | .bool b => some b
  | .int i => some (i != 0)
  | .str x => if szOk x.length = true then some ((x.length : Int) != 0) else none
  | .list xs => some (!xs.isEmpty)
  | .tuple xs => some (!xs.isEmpty)
  | .dict _ => none
def truV (ss : Sl) (w : Wv) : Option Bool := match peek ss w with
  | some (.d d) => truD d
  | some (.c (.lst xs)) => some (!xs.isEmpty)
  | some (.c (.dK _)) => match ownC ss w with
    | some (.dK kvs) => some (!kvs.isEmpty)
    | _ => none
  | _ => none
section
variable {K : PySem.W.Frag} {Γ : Gm} {W : WX} {F : Fm} {G : Hp} {ρ : Nat → Addr} {ts : List (Addr × Con)} {ss ss' : Sl} {σ : L2.St} {H : Hp} {Q : VK}
theorem isEmpty_dv {vs : List V} {ds : List D} (h : DvAll K G vs ds) : (!vs.isEmpty) = !ds.isEmpty := by cases h <;> rfl
theorem isEmpty_kd {κ : Type} {vs : List (κ × V)} {ds : List (κ × D)} (h : KD K G vs ds) : (!vs.isEmpty) = !ds.isEmpty := by cases h <;> rfl
theorem RelWs.own1 {w : Wv} {x : V} {c : Con} (r : RelWs K F G ρ ss σ H ts [w] [x]) (e : ownC ss w = some c) : ∃ p o, x = .ref p ∧ H p = some o ∧ ConAt K G c o := by
  cases w with
  | val d => cases e
  | new c' =>
    cases e
    obtain ⟨p, rfl, R⟩ := r
    have R : Rel K F G ρ ((p, c) :: ts) ss σ H := R
    obtain ⟨⟨o, a, b⟩, _⟩ := R.tmp _ List.mem_cons_self
    exact ⟨p, o, rfl, a, b⟩
  | bor i =>
    obtain ⟨hv, R⟩ := r
    have R : Rel K F G ρ ts ss σ H := R
    unfold ownC at e
    dsimp only at e
    cases h : ss[i]? with
    | none => rw [h] at e; cases e
    | some s =>
      rw [h] at e
      cases s with
      | own b c' =>
        cases e
        obtain ⟨e', _, o, q, z⟩ := R.slot i _ h
        rw [hv] at e'; cases e'
        exact ⟨_, o, rfl, q, z⟩
      | un => cases e
      | val b d => cases e
      | lk b c => cases e
      | exn a => cases e
      | rol xs => cases e
  | rol xs => cases e
theorem truD_ok {d : D} {x : V} {k : Bool} (s : Same G H) (h : Dv K G x d) (e : truD d = some k) : TruV K x H k := by
  cases h with
  | non => cases e; rfl
  | bl b => cases e; rfl
  | int i => cases e; rfl
  | str y =>
    have e : (if szOk y.length = true then some ((y.length : Int) != 0) else none) = some k := e
    split at e
    · rename_i hz; cases e; exact ⟨szOk_le hz, rfl⟩
    · cases e
  | lst hs ha => cases e; exact .inl ⟨_, .of (s _ _ hs), (isEmpty_dv ha).symm⟩
  | tup hs ha => cases e; exact .inr (.inl ⟨_, .of (s _ _ hs), (isEmpty_dv ha).symm⟩)
theorem truV_ok {w : Wv} {x : V} {k : Bool} (r : RelWs K F G ρ ss σ H ts [w] [x]) (e : truV ss w = some k) : TruV K x H k := by
  have R := r.rel
  unfold truV at e
  split at e
  · rename_i d h; exact truD_ok R.sub (r.pk1 h) e
  · rename_i xs h
    cases e
    obtain ⟨p, hh, rfl, q⟩ := r.pk1 h
    obtain ⟨vs, a, b⟩ := q.ls
    exact .inl ⟨vs, .of a, (isEmpty_dv b).symm⟩
  · rename_i kv h
    split at e
    · rename_i kvs h2
      cases e
      obtain ⟨p, o, rfl, a, b⟩ := r.own1 h2
      obtain ⟨vs, rfl, b⟩ := b.dK_inv
      exact .inr (.inr ⟨vs, a, (isEmpty_kd b).symm⟩)
    · cases e
  · cases e
end
/-- a test -/
def tst (f : M Wv) : M Bool := bnd f fun w ss => match truV ss w with
  | some b => some (.ok b ss)
  | none => none
def tstB (f : M Wv) : M Bool := bnd f fun w => match w with
  | .val (.bool b) => ret b
  | _ => fail
section
variable {K : PySem.W.Frag} {Γ : Gm} {W : WX} {σ : L2.St} {H : Hp} {Q : Bool → Hp → Prop}
theorem tt_then {f : M Wv} {op : Wv → M Bool} {Q' : V → Hp → Prop} (h : tt K Γ W (bnd f op) σ H Q)
    (k : ∀ F G ρ ts ss H w v, RelW K F G ρ ts ss σ H w v → OutT K Γ W F G ts σ Q (op w ss) → Q' v H) : te K Γ W f σ H Q' := by
  obtain ⟨F, G, ρ, ts, ss, R, q⟩ := h
  refine ⟨F, G, ρ, ts, ss, R, ?_⟩
  unfold bnd at q
  cases e : f ss with
  | none => rw [e] at q; exact q
  | some r =>
    rw [e] at q
    cases r with
    | ok w s => exact fun v H1 G1 ρ1 g1 r => k F G1 ρ1 ts s H1 w v r (q.mono g1 fun _ _ z => z)
    | ex x s => exact q
theorem tt_tst {f : M Wv} (h : tt K Γ W (tst f) σ H Q) : te K Γ W f σ H fun x H1 => ∃ k, TruV K x H1 k ∧ Q k H1 :=
  tt_then h fun F G ρ ts ss H w v r q => by
    cases e : truV ss w with
    | none => rw [e] at q; exact q.elim
    | some k => rw [e] at q; exact ⟨k, truV_ok r.to1 e, q _ G ρ (Same.refl G) r.rel⟩
theorem tt_tstB {f : M Wv} (h : tt K Γ W (tstB f) σ H Q) : te K Γ W f σ H fun x H1 => ∃ k, x = .bl k ∧ Q k H1 :=
  tt_then h fun F G ρ ts ss H w v r q => by
    cases w with
    | val d =>
      cases d with
      | bool b =>
        obtain ⟨R, dv⟩ := r
        cases dv
        exact ⟨b, rfl, q _ G ρ (Same.refl G) R⟩
      | _ => exact q.elim
    | _ => exact q.elim
end
section
variable {Γ : Gm} {X : Cx} {W : WX} {a b c : Expr} {fa fb fc : M Wv} {ga gb : M Bool} {pos : Pos} {rest : List Expr}
/-- names, calls, subscripts, operators: by truth -/
theorem dt_truth (ha : DE Γ X W a fa) (he : ∀ whole, isTrue a X.env whole = (do let v ← whole; standAt a.pos; holding [v] (truthy v)) := by intro _; rfl) : DT' Γ X W a (tst fa) :=
  PT_imp (pt_truth ha he) fun σ H Q q => tt_tst q
theorem dt_cmp {op : CmpOp} {f : Wv → Wv → M Wv} {r : R2} (ho : OpR X (compareOp op) r) (h : OpOk X.K f r) (ha : DE Γ X W a fa) (hb : DE Γ X W b fb) (hm : behindInMarks op b = false := by first | exact nomark _ | rfl) : DT' Γ X W (.Compare a [op] [b] pos) (tstB (bin fa fb f)) :=
  PT_imp (pt_cmpR ho ha hb hm) fun σ H Q q => te_op h σ H _ (tt_tstB q)
/-! ### and, or, not -/
def andT (f g : M Bool) : M Bool := bnd f fun b => if b = true then g else ret false
def orT (f g : M Bool) : M Bool := bnd f fun b => if b = true then ret true else g
def notT (f : M Bool) : M Bool := bnd f fun b => ret (!b)
theorem tt_bnd {K : PySem.W.Frag} {σ : L2.St} {H : Hp} {f : M Bool} {op : Bool → M Bool} {Q Q' : Bool → Hp → Prop} (h : tt K Γ W (bnd f op) σ H Q)
    (k : ∀ F G ρ ts ss H b, Rel K F G ρ ts ss σ H → OutT K Γ W F G ts σ Q (op b ss) → Q' b H) : tt K Γ W f σ H Q' := by
  obtain ⟨F, G, ρ, ts, ss, R, q⟩ := h
  refine ⟨F, G, ρ, ts, ss, R, ?_⟩
  unfold bnd at q
  cases e : f ss with
  | none => rw [e] at q; exact q
  | some r =>
    rw [e] at q
    cases r with
    | ok b s => exact fun H1 G1 ρ1 g1 r => k F G1 ρ1 ts s H1 b r (q.mono g1 fun _ _ z => z)
    | ex x s => exact q
theorem tt_and {K : PySem.W.Frag} {f g : M Bool} : ∀ σ H Q, tt K Γ W (andT f g) σ H Q → tAnd (tt K Γ W f) (tt K Γ W g) σ H Q := fun σ H Q q => tt_bnd q fun F G ρ ts ss H b R q => by
  cases b with
  | true => exact ⟨F, G, ρ, ts, ss, R, q⟩
  | false => exact q _ G ρ (Same.refl G) R
theorem tt_or {K : PySem.W.Frag} {f g : M Bool} : ∀ σ H Q, tt K Γ W (orT f g) σ H Q → tOr (tt K Γ W f) (tt K Γ W g) σ H Q := fun σ H Q q => tt_bnd q fun F G ρ ts ss H b R q => by
  cases b with
  | false => exact ⟨F, G, ρ, ts, ss, R, q⟩
  | true => exact q _ G ρ (Same.refl G) R
theorem tt_not {K : PySem.W.Frag} {f : M Bool} : ∀ σ H Q, tt K Γ W (notT f) σ H Q → tNot (tt K Γ W f) σ H Q := fun σ H Q q => tt_bnd q fun F G ρ ts ss H b R q => q _ G ρ (Same.refl G) R
theorem dw_and1 (ha : DT' Γ X W a ga) : DW Γ X W (.BoolOp .And [a] pos) ga := pw_and1 ha
theorem dw_or1 (ha : DT' Γ X W a ga) : DW Γ X W (.BoolOp .Or [a] pos) ga := pw_or1 ha
theorem dw_and (ha : DT' Γ X W a ga) (hb : DW Γ X W (.BoolOp .And (b :: rest) pos) gb) : DW Γ X W (.BoolOp .And (a :: b :: rest) pos) (andT ga gb) := PW_imp (pw_and ha hb) tt_and
theorem dw_or (ha : DT' Γ X W a ga) (hb : DW Γ X W (.BoolOp .Or (b :: rest) pos) gb) : DW Γ X W (.BoolOp .Or (a :: b :: rest) pos) (orT ga gb) := PW_imp (pw_or ha hb) tt_or
theorem dt_bool (h : DW Γ X W a ga) : DT' Γ X W a ga := h.pt
theorem dt_not (ha : DT' Γ X W a ga) : DT' Γ X W (.UnaryOp .Not a pos) (notT ga) := PT_imp (pt_not ha) tt_not
/-- .. as values -/
def andV (f g : M Wv) : M Wv := bnd f fun w ss => match truV ss w with
  | some true => g ss
  | some false => some (.ok w ss)
  | none => none
def orV (f g : M Wv) : M Wv := bnd f fun w ss => match truV ss w with
  | some false => g ss
  | some true => some (.ok w ss)
  | none => none
def notV (f : M Wv) : M Wv := bnd f fun w ss => match truV ss w with
  | some b => some (.ok (.val (.bool (!b))) ss)
  | none => none
theorem te_drop {K : PySem.W.Frag} {F : Fm} {G : Hp} {ρ : Nat → Addr} {ts : List (Addr × Con)} {ss : Sl} {σ : L2.St} {H : Hp} {w : Wv} {v : V} {Q : VK} {f : M Wv} (r : RelW K F G ρ ts ss σ H w v) (q : OutE K Γ W F G ts σ Q (f ss)) : te K Γ W f σ H Q := ⟨F, G, ρ, ts, ss, r.rel, q⟩
theorem te_and {K : PySem.W.Frag} {f g : M Wv} : ∀ σ H Q, te K Γ W (andV f g) σ H Q → tAndT K (te K Γ W f) (te K Γ W g) σ H Q := fun σ H Q q => te_then q fun F G ρ ts ss H w v r q => by
  cases e : truV ss w with
  | none => rw [e] at q; exact q.elim
  | some k =>
    rw [e] at q
    refine ⟨k, truV_ok r.to1 e, ?_⟩
    cases k with
    | true => exact te_drop r q
    | false => exact q.goes r
theorem te_or {K : PySem.W.Frag} {f g : M Wv} : ∀ σ H Q, te K Γ W (orV f g) σ H Q → tOrT K (te K Γ W f) (te K Γ W g) σ H Q := fun σ H Q q => te_then q fun F G ρ ts ss H w v r q => by
  cases e : truV ss w with
  | none => rw [e] at q; exact q.elim
  | some k =>
    rw [e] at q
    refine ⟨k, truV_ok r.to1 e, ?_⟩
    cases k with
    | false => exact te_drop r q
    | true => exact q.goes r
theorem te_not {K : PySem.W.Frag} {f : M Wv} : ∀ σ H Q, te K Γ W (notV f) σ H Q → tNotT K (te K Γ W f) σ H Q := fun σ H Q q => te_then q fun F G ρ ts ss H w v r q => by
  cases e : truV ss w with
  | none => rw [e] at q; exact q.elim
  | some k => rw [e] at q; exact ⟨k, truV_ok r.to1 e, OutE.vl q r.rel (.bl _)⟩
theorem de_one {op} (ha : DE Γ X W a fa) : DE Γ X W (.BoolOp op [a] pos) fa := pe_one ha
theorem de_and (ha : DE Γ X W a fa) (hb : DE Γ X W (.BoolOp .And (b :: rest) pos) fb) : DE Γ X W (.BoolOp .And (a :: b :: rest) pos) (andV fa fb) := PE_imp (pe_andT ha hb) te_and
theorem de_or (ha : DE Γ X W a fa) (hb : DE Γ X W (.BoolOp .Or (b :: rest) pos) fb) : DE Γ X W (.BoolOp .Or (a :: b :: rest) pos) (orV fa fb) := PE_imp (pe_orT ha hb) te_or
theorem de_not (ha : DE Γ X W a fa) : DE Γ X W (.UnaryOp .Not a pos) (notV fa) := PE_imp (pe_notT ha) te_not
/-- a if t else b -/
def iteM {α : Type} (t : M Bool) (f g : M α) : M α := bnd t fun b => if b = true then f else g
theorem te_ite {K : PySem.W.Frag} {t : M Bool} {f g : M Wv} : ∀ σ H Q, te K Γ W (iteM t f g) σ H Q → tIf (tt K Γ W t) (te K Γ W f) (te K Γ W g) σ H Q := fun σ H Q q => by
  obtain ⟨F, G, ρ, ts, ss, R, q⟩ := q
  refine ⟨F, G, ρ, ts, ss, R, ?_⟩
  unfold iteM bnd at q
  cases e : t ss with
  | none => rw [e] at q; exact q
  | some r =>
    rw [e] at q
    cases r with
    | ok b s =>
      intro H1 G1 ρ1 g1 R1
      cases b with
      | true => exact ⟨F, G1, ρ1, ts, s, R1, OutE.mono g1 (fun _ _ z => z) q⟩
      | false => exact ⟨F, G1, ρ1, ts, s, R1, OutE.mono g1 (fun _ _ z => z) q⟩
    | ex x s => exact q
theorem de_if (hc : DT' Γ X W c ga) (ha : DE Γ X W a fa) (hb : DE Γ X W b fb) : DE Γ X W (.IfExp c a b pos) (iteM ga fa fb) := PE_imp (pe_ifExp hc ha hb) te_ite
end

/-! ### comparisons by values -/
def dep60 (d : D) : Bool := decide (d.depth ≤ 60)
def rEqP (K : PySem.W.Frag) (neg : Bool) : R2 := fun x y H Q => ∃ d e, Dp K H x d ∧ Dp K H y e ∧ d.depth ≤ 60 ∧ Q (.bl (if neg then !PyData.eqv d e else PyData.eqv d e)) H
def rInP (K : PySem.W.Frag) (neg : Bool) : R2 := fun x y H Q => ∃ d es, Dp K H x d ∧ (Dp K H y (.list es) ∨ Dp K H y (.tuple es)) ∧ d.depth ≤ 60 ∧ Q (.bl (if neg then !(es.any fun z => PyData.eqv z d) else es.any fun z => PyData.eqv z d)) H
section
variable {X : Cx}
theorem op_eqP (hu : X.A.units + 65 < cLine) : OpR X (compareOp .Eq) (rEqP X.K false) := by
  intro pins s σ H x y v u Q I rx ry hyp
  obtain ⟨d, e, dx, dy, dp, fin⟩ := hyp
  obtain ⟨as, r1⟩ := Dp.reads I d x v dx rx
  obtain ⟨bs, r2⟩ := Dp.reads I e y u dy ry
  exact SeqAt.eq_plain r1 r2 (dp_plain dx) (dp_plain dy) (by have := Nat.min_le_left d.depth e.depth; omega) ⟨.bl _, H, I, rfl, fin⟩
theorem op_neP (hu : X.A.units + 65 < cLine) : OpR X (compareOp .NotEq) (rEqP X.K true) := by
  intro pins s σ H x y v u Q I rx ry hyp
  obtain ⟨d, e, dx, dy, dp, fin⟩ := hyp
  obtain ⟨as, r1⟩ := Dp.reads I d x v dx rx
  obtain ⟨bs, r2⟩ := Dp.reads I e y u dy ry
  exact SeqAt.ne_plain r1 r2 (dp_plain dx) (dp_plain dy) (by have := Nat.min_le_left d.depth e.depth; omega) ⟨.bl _, H, I, rfl, fin⟩
theorem dp_items {K : PySem.W.Frag} {H : Hp} {y : V} {es : List D} (h : Dp K H y (.list es) ∨ Dp K H y (.tuple es)) : PyData.plainAll es = true := by
  rcases h with h | h
  · exact dp_plain h
  · exact dp_plain h
theorem op_inP (hu : X.A.units + 65 < cLine) : OpR X (compareOp .In) (rInP X.K false) := by
  intro pins s σ H x y v u Q I rx ry hyp
  obtain ⟨d, es, dx, dy, dp, fin⟩ := hyp
  obtain ⟨as, r1⟩ := Dp.reads I d x v dx rx
  have pl := dp_items dy
  have room : X.A.units + 1 + min (PyData.depthAll es) d.depth < cLine := by have := Nat.min_le_right (PyData.depthAll es) d.depth; omega
  rcases dy with dy | dy
  · obtain ⟨bs, r2⟩ := Dp.reads I _ y u dy ry
    exact SeqAt.in_list_data r2 r1 pl (dp_plain dx) room ⟨.bl _, H, I, rfl, fin⟩
  · obtain ⟨bs, r2⟩ := Dp.reads I _ y u dy ry
    exact SeqAt.in_tuple_data r2 r1 pl (dp_plain dx) room ⟨.bl _, H, I, rfl, fin⟩
theorem op_ninP (hu : X.A.units + 65 < cLine) : OpR X (compareOp .NotIn) (rInP X.K true) := by
  intro pins s σ H x y v u Q I rx ry hyp
  obtain ⟨d, es, dx, dy, dp, fin⟩ := hyp
  obtain ⟨as, r1⟩ := Dp.reads I d x v dx rx
  have pl := dp_items dy
  have room : X.A.units + 1 + min (PyData.depthAll es) d.depth < cLine := by have := Nat.min_le_right (PyData.depthAll es) d.depth; omega
  rcases dy with dy | dy
  · obtain ⟨bs, r2⟩ := Dp.reads I _ y u dy ry
    exact SeqAt.notIn_list_data r2 r1 pl (dp_plain dx) room ⟨.bl _, H, I, rfl, fin⟩
  · obtain ⟨bs, r2⟩ := Dp.reads I _ y u dy ry
    exact SeqAt.notIn_tuple_data r2 r1 pl (dp_plain dx) room ⟨.bl _, H, I, rfl, fin⟩
end
def eqD (neg : Bool) (w u : Wv) : M Wv := fun ss => match datV ss w, datV ss u with
  | some d, some e => if dep60 d = true then some (.ok (.val (.bool (if neg then !PyData.eqv d e else PyData.eqv d e))) ss) else none
  | _, _ => none
theorem ok_eqP {K : PySem.W.Frag} (neg : Bool) : OpOk K (eqD neg) (rEqP K neg) := by
  intro Γ W F G ρ ts ss σ H w u x y Q r q
  unfold eqD at q
  have R := r.rel
  split at q
  · rename_i d e e1 e2
    split at q
    · rename_i hz
      exact ⟨d, e, datV_pk R.sub e1 fun k => r.pk21, datV_pk R.sub e2 fun k => r.pk22, of_decide_eq_true hz, OutE.vl q R (.bl _)⟩
    · exact q.elim
  · exact q.elim
theorem ok_eqD {K : PySem.W.Frag} : OpOk K (eqD false) (rEqP K false) := ok_eqP false
theorem ok_neD {K : PySem.W.Frag} : OpOk K (eqD true) (rEqP K true) := ok_eqP true
/-- x in a list, a tuple -/
def inD (neg : Bool) (w u : Wv) : M Wv := fun ss => match datV ss w, seqV ss u with
  | some d, some es => if dep60 d = true then some (.ok (.val (.bool (if neg then !(es.any fun z => PyData.eqv z d) else es.any fun z => PyData.eqv z d))) ss) else none
  | _, _ => none
theorem ok_inP {K : PySem.W.Frag} (neg : Bool) : OpOk K (inD neg) (rInP K neg) := by
  intro Γ W F G ρ ts ss σ H w u x y Q r q
  unfold inD at q
  have R := r.rel
  split at q
  · rename_i d e e1 e2
    split at q
    · rename_i hz
      obtain ⟨a, vs, rfl, h1, d1⟩ := seqV_pk R.sub e2 fun k => r.pk22
      refine ⟨d, e, datV_pk R.sub e1 fun k => r.pk21, ?_, of_decide_eq_true hz, OutE.vl q R (.bl _)⟩
      rcases h1 with h1 | h1
      · exact .inl (.lst h1 (DvAll.dp R.sub d1))
      · exact .inr (.tup h1 (DvAll.dp R.sub d1))
    · exact q.elim
  · exact q.elim
theorem ok_inD {K : PySem.W.Frag} : OpOk K (inD false) (rInP K false) := ok_inP false
theorem ok_ninD {K : PySem.W.Frag} : OpOk K (inD true) (rInP K true) := ok_inP true
/-- is None -/
def isNonD : D → Bool
  | .none => true
  | _ => false
def isN (neg : Bool) (w u : Wv) : M Wv := fun ss => match w, u with
  | .val d, .val .none => some (.ok (.val (.bool (if neg then !isNonD d else isNonD d))) ss)
  | _, _ => none
theorem isN_dec {K : PySem.W.Frag} {G : Hp} {d : D} {x : V} (h : Dv K G x d) : decide (x = V.non) = isNonD d := by
  cases h <;> first | rfl | (exact decide_eq_false (fun e => by cases e))
theorem ok_isN {K : PySem.W.Frag} : OpOk K (isN false) (fun x y H Q => y = .non ∧ Q (.bl (decide (x = .non))) H) := by
  intro Γ W F G ρ ts ss σ H w u x y Q r q
  have R := r.rel
  unfold isN at q
  split at q
  · rename_i d
    obtain ⟨h1, h2, _⟩ := r
    cases h2
    exact ⟨rfl, by rw [isN_dec h1]; exact OutE.vl q R (.bl _)⟩
  · exact q.elim
theorem ok_notN {K : PySem.W.Frag} : OpOk K (isN true) (fun x y H Q => y = .non ∧ Q (.bl (!decide (x = .non))) H) := by
  intro Γ W F G ρ ts ss σ H w u x y Q r q
  have R := r.rel
  unfold isN at q
  split at q
  · rename_i d
    obtain ⟨h1, h2, _⟩ := r
    cases h2
    exact ⟨rfl, by rw [isN_dec h1]; exact OutE.vl q R (.bl _)⟩
  · exact q.elim
/-- the order of ints, of tuples of ints -/
abbrev iLt := iop (fun _ _ => true) fun i j => .bool (decide (i < j))
abbrev iLe := iop (fun _ _ => true) fun i j => .bool (decide (i ≤ j))
abbrev iGt := iop (fun _ _ => true) fun i j => .bool (decide (j < i))
abbrev iGe := iop (fun _ _ => true) fun i j => .bool (decide (j ≤ i))
section
variable {X : Cx}
theorem ok_iLt {K : PySem.W.Frag} : OpOk K iLt (rI0 fun i j => .bl (decide (i < j))) := ok_iop0 fun _ _ _ => .bl _
theorem ok_iLe {K : PySem.W.Frag} : OpOk K iLe (rI0 fun i j => .bl (decide (i ≤ j))) := ok_iop0 fun _ _ _ => .bl _
theorem ok_iGt {K : PySem.W.Frag} : OpOk K iGt (rI0 fun i j => .bl (decide (j < i))) := ok_iop0 fun _ _ _ => .bl _
theorem ok_iGe {K : PySem.W.Frag} : OpOk K iGe (rI0 fun i j => .bl (decide (j ≤ i))) := ok_iop0 fun _ _ _ => .bl _
end
/-- all items ints -/
def intsOf : List D → Option (List Int)
  | [] => some []
  | .int i :: r => (intsOf r).map (i :: ·)
  | _ :: _ => none
theorem intsOf_eq : ∀ {ds : List D} {ns : List Int}, intsOf ds = some ns → ds = ns.map PyData.int
  | [], _, h => by cases h; rfl
  | .int i :: r, ns, h => by
    unfold intsOf at h
    cases e : intsOf r with
    | none => rw [e] at h; cases h
    | some ms => rw [e] at h; cases h; rw [intsOf_eq e]; rfl
  | .none :: _, _, h => by cases h
  | .bool _ :: _, _, h => by cases h
  | .str _ :: _, _, h => by cases h
  | .list _ :: _, _, h => by cases h
  | .tuple _ :: _, _, h => by cases h
  | .dict _ :: _, _, h => by cases h
theorem intsOf_map : ∀ (ns : List Int), intsOf (ns.map PyData.int) = some ns
  | [] => rfl
  | n :: ns => by show (intsOf (ns.map PyData.int)).map _ = _; rw [intsOf_map ns]; rfl
theorem intsOf_dv {K : PySem.W.Frag} {G : Hp} {vs : List V} {ds : List D} {ns : List Int} (e : intsOf ds = some ns) (h : DvAll K G vs ds) : vs = ns.map V.int := by
  rw [intsOf_eq e] at h; exact h.ints
/-- t < u for tuples of ints, i < j for ints, texts -/
def ltW (w u : Wv) : M Wv := fun ss => match intV ss w with
  | some _ => iLt w u ss
  | none => match tupV ss w, tupV ss u with
    | some xs, some ys => match intsOf xs, intsOf ys with
      | some ns, some ms => some (.ok (.val (.bool (HT.lexLt ns ms))) ss)
      | _, _ => none
    | _, _ => none
theorem ok_ltW {K : PySem.W.Frag} : OpOk K ltW (fun x y H Q => rI0 (fun i j => .bl (decide (i < j))) x y H Q ∨ rLtT K x y H Q) := by
  intro Γ W F G ρ ts ss σ H w u x y Q r q
  have R := r.rel
  unfold ltW at q
  split at q
  · exact .inl (ok_iLt Γ W F G ρ ts ss σ H w u x y Q r q)
  · split at q
    · rename_i xs ys e1 e2
      split at q
      · rename_i ns ms n1 n2
        obtain ⟨a, vs, rfl, h1, d1⟩ := tupV_pk R.sub e1 fun k => r.pk21
        obtain ⟨b, us, rfl, h2, d2⟩ := tupV_pk R.sub e2 fun k => r.pk22
        rw [intsOf_dv n1 d1] at h1
        rw [intsOf_dv n2 d2] at h2
        exact .inr ⟨a, b, ns, ms, rfl, rfl, .of (R.sub _ _ h1), .of (R.sub _ _ h2), OutE.vl q R (.bl _)⟩
      · exact q.elim
    · exact q.elim
section
variable {Γ : Gm} {X : Cx} {W : WX} {a b : Expr} {fa fb : M Wv} {pos : Pos}
theorem de_eq (hr : X.A.units + 65 < cLine) (ha : DE Γ X W a fa) (hb : DE Γ X W b fb) : DE Γ X W (.Compare a [.Eq] [b] pos) (bin fa fb (eqD false)) := de_cmp (op_eqP hr) ok_eqD ha hb
theorem de_ne (hr : X.A.units + 65 < cLine) (ha : DE Γ X W a fa) (hb : DE Γ X W b fb) : DE Γ X W (.Compare a [.NotEq] [b] pos) (bin fa fb (eqD true)) := de_cmp (op_neP hr) ok_neD ha hb
theorem de_in (hr : X.A.units + 65 < cLine) (ha : DE Γ X W a fa) (hb : DE Γ X W b fb) (hm : behindInMarks .In b = false := by rfl) : DE Γ X W (.Compare a [.In] [b] pos) (bin fa fb (inD false)) := de_cmp (op_inP hr) ok_inD ha hb hm
theorem de_nin (hr : X.A.units + 65 < cLine) (ha : DE Γ X W a fa) (hb : DE Γ X W b fb) (hm : behindInMarks .NotIn b = false := by rfl) : DE Γ X W (.Compare a [.NotIn] [b] pos) (bin fa fb (inD true)) := de_cmp (op_ninP hr) ok_ninD ha hb hm
theorem de_is (ha : DE Γ X W a fa) (hb : DE Γ X W b fb) : DE Γ X W (.Compare a [.Is] [b] pos) (bin fa fb (isN false)) := de_cmp op_isN ok_isN ha hb
theorem de_isn (ha : DE Γ X W a fa) (hb : DE Γ X W b fb) : DE Γ X W (.Compare a [.IsNot] [b] pos) (bin fa fb (isN true)) := de_cmp op_notN ok_notN ha hb
theorem de_lt (hu : X.A.units < cLine) (ha : DE Γ X W a fa) (hb : DE Γ X W b fb) : DE Γ X W (.Compare a [.Lt] [b] pos) (bin fa fb ltW) := de_cmp (op_lt.or (op_ltT hu)) ok_ltW ha hb
theorem de_le (ha : DE Γ X W a fa) (hb : DE Γ X W b fb) : DE Γ X W (.Compare a [.LtE] [b] pos) (bin fa fb iLe) := de_cmp op_le ok_iLe ha hb
theorem de_gt (ha : DE Γ X W a fa) (hb : DE Γ X W b fb) : DE Γ X W (.Compare a [.Gt] [b] pos) (bin fa fb iGt) := de_cmp op_gt ok_iGt ha hb
theorem de_ge (ha : DE Γ X W a fa) (hb : DE Γ X W b fb) : DE Γ X W (.Compare a [.GtE] [b] pos) (bin fa fb iGe) := de_cmp op_ge ok_iGe ha hb
theorem dt_eq (hr : X.A.units + 65 < cLine) (ha : DE Γ X W a fa) (hb : DE Γ X W b fb) : DT' Γ X W (.Compare a [.Eq] [b] pos) (tstB (bin fa fb (eqD false))) := dt_cmp (op_eqP hr) ok_eqD ha hb
theorem dt_ne (hr : X.A.units + 65 < cLine) (ha : DE Γ X W a fa) (hb : DE Γ X W b fb) : DT' Γ X W (.Compare a [.NotEq] [b] pos) (tstB (bin fa fb (eqD true))) := dt_cmp (op_neP hr) ok_neD ha hb
theorem dt_in (hr : X.A.units + 65 < cLine) (ha : DE Γ X W a fa) (hb : DE Γ X W b fb) (hm : behindInMarks .In b = false := by rfl) : DT' Γ X W (.Compare a [.In] [b] pos) (tstB (bin fa fb (inD false))) := dt_cmp (op_inP hr) ok_inD ha hb hm
theorem dt_nin (hr : X.A.units + 65 < cLine) (ha : DE Γ X W a fa) (hb : DE Γ X W b fb) (hm : behindInMarks .NotIn b = false := by rfl) : DT' Γ X W (.Compare a [.NotIn] [b] pos) (tstB (bin fa fb (inD true))) := dt_cmp (op_ninP hr) ok_ninD ha hb hm
theorem dt_is (ha : DE Γ X W a fa) (hb : DE Γ X W b fb) : DT' Γ X W (.Compare a [.Is] [b] pos) (tstB (bin fa fb (isN false))) := dt_cmp op_isN ok_isN ha hb
theorem dt_isn (ha : DE Γ X W a fa) (hb : DE Γ X W b fb) : DT' Γ X W (.Compare a [.IsNot] [b] pos) (tstB (bin fa fb (isN true))) := dt_cmp op_notN ok_notN ha hb
theorem dt_lt (hu : X.A.units < cLine) (ha : DE Γ X W a fa) (hb : DE Γ X W b fb) : DT' Γ X W (.Compare a [.Lt] [b] pos) (tstB (bin fa fb ltW)) := dt_cmp (op_lt.or (op_ltT hu)) ok_ltW ha hb
theorem dt_le (ha : DE Γ X W a fa) (hb : DE Γ X W b fb) : DT' Γ X W (.Compare a [.LtE] [b] pos) (tstB (bin fa fb iLe)) := dt_cmp op_le ok_iLe ha hb
theorem dt_gt (ha : DE Γ X W a fa) (hb : DE Γ X W b fb) : DT' Γ X W (.Compare a [.Gt] [b] pos) (tstB (bin fa fb iGt)) := dt_cmp op_gt ok_iGt ha hb
theorem dt_ge (ha : DE Γ X W a fa) (hb : DE Γ X W b fb) : DT' Γ X W (.Compare a [.GtE] [b] pos) (tstB (bin fa fb iGe)) := dt_cmp op_ge ok_iGe ha hb
end

/-! ### chains -/
def chnR (fb : M Wv) (o : Wv → Wv → M Wv) (k : Wv → M Wv) (w : Wv) : M Wv := bnd fb fun u => match u with
  | .val d => bnd (o w (.val d)) fun z => match z with
    | .val (.bool true) => k (.val d)
    | .val (.bool false) => ret (.val (.bool false))
    | _ => fail
  | _ => fail
def chn (fa fb : M Wv) (o : Wv → Wv → M Wv) (k : Wv → M Wv) : M Wv := bnd fa (chnR fb o k)
/-- the last link -/
def lnk (fc : M Wv) (o : Wv → Wv → M Wv) (u : Wv) : M Wv := match u with
  | .val d => bnd fc fun v => o (.val d) v
  | _ => fail
section
variable {K : PySem.W.Frag} {Γ : Gm} {W : WX} {σ : L2.St} {Q : VK}
theorem te_chnR {F : Fm} {G : Hp} {ρ : Nat → Addr} {ts : List (Addr × Con)} {ss : Sl} {H : Hp} {w : Wv} {x : V} {fb : M Wv} {o : Wv → Wv → M Wv} {k : Wv → M Wv} {r : R2} (ho : OpOk K o r) (rw_ : RelW K F G ρ ts ss σ H w x) (q : OutE K Γ W F G ts σ Q (chnR fb o k w ss)) {Q1 : V → Hp → Prop}
    (hk : ∀ F G ρ ts ss H d y, Rel K F G ρ ts ss σ H → Dv K G y d → OutE K Γ W F G ts σ Q (k (.val d) ss) → Q1 y H) :
    te K Γ W fb σ H fun y H2 => r x y H2 fun z H3 => ∃ b, z = .bl b ∧ if b = true then Q1 y H3 else Q (.bl false) H3 := by
  obtain ⟨ts', R, dr, sp⟩ := rw_.split
  refine ⟨F, G, ρ, ts', ss, R, ?_⟩
  unfold chnR bnd at q
  cases e : fb ss with
  | none => rw [e] at q; exact q
  | some r2 =>
    rw [e] at q
    cases r2 with
    | ex x s => exact fun H2 G2 ρ2 cls d g2 R2 xn => q H2 G2 ρ2 cls d g2 (dr R2) xn
    | ok u s =>
      intro y H2 G2 ρ2 g2 ry
      cases u with
      | new c => exact q.elim
      | bor i => exact q.elim
      | rol i => exact q.elim
      | val d =>
        obtain ⟨R2, dv⟩ := ry
        have rws : RelWs K F G2 ρ2 s σ H2 ts [w, .val d] [x, y] := sp g2 (RelW.to1 (w := .val d) ⟨R2, dv⟩)
        refine ho Γ W F G2 ρ2 ts s σ H2 w (.val d) x y _ rws ?_
        dsimp only at q
        cases e2 : o w (.val d) s with
        | none => rw [e2] at q; exact q
        | some r3 =>
          rw [e2] at q
          cases r3 with
          | ex x s => exact fun H3 G3 ρ3 cls d g3 R3 xn => q H3 G3 ρ3 cls d (g2.trans g3) R3 xn
          | ok z s3 =>
            intro zv H3 G3 ρ3 g3 rz
            cases z with
            | new c => exact q.elim
            | bor i => exact q.elim
            | rol i => exact q.elim
            | val dz =>
              obtain ⟨R3, dvz⟩ := rz
              cases dz with
              | bool b =>
                cases dvz
                refine ⟨b, rfl, ?_⟩
                cases b with
                | true => exact hk F G3 ρ3 ts s3 H3 d y R3 (dv.mono g3) (OutE.mono (g2.trans g3) (fun _ _ z => z) q)
                | false => exact (OutE.mono (g2.trans g3) (fun _ _ z => z) q : OutE K Γ W F G3 ts σ Q (some (.ok (.val (.bool false)) s3))).goes (v := .bl false) ⟨R3, .bl false⟩
              | _ => exact q.elim
theorem te_chn {H : Hp} {fa fb : M Wv} {o : Wv → Wv → M Wv} {k : Wv → M Wv} {r : R2} (ho : OpOk K o r) (h : te K Γ W (chn fa fb o k) σ H Q) {Q1 : V → Hp → Prop}
    (hk : ∀ F G ρ ts ss H d y, Rel K F G ρ ts ss σ H → Dv K G y d → OutE K Γ W F G ts σ Q (k (.val d) ss) → Q1 y H) :
    te K Γ W fa σ H fun x H1 => te K Γ W fb σ H1 fun y H2 => r x y H2 fun z H3 => ∃ b, z = .bl b ∧ if b = true then Q1 y H3 else Q (.bl false) H3 :=
  te_then h fun F G ρ ts ss H1 w x rw_ q => te_chnR ho rw_ q hk
theorem te_lnk {fc : M Wv} {o : Wv → Wv → M Wv} {r : R2} (ho : OpOk K o r) : ∀ F G ρ ts ss H d y, Rel K F G ρ ts ss σ H → Dv K G y d → OutE K Γ W F G ts σ Q (lnk fc o (.val d) ss) → te K Γ W fc σ H fun z H2 => r y z H2 Q :=
  fun F G ρ ts ss H d y R dv q => by
    refine ⟨F, G, ρ, ts, ss, R, ?_⟩
    unfold lnk bnd at q
    dsimp only at q
    cases e : fc ss with
    | none => rw [e] at q; exact q
    | some r2 =>
      rw [e] at q
      cases r2 with
      | ex x s => exact q
      | ok u s =>
        intro z H2 G2 ρ2 g2 rz
        exact ho Γ W F G2 ρ2 ts s σ H2 (.val d) u y z Q ⟨dv.mono g2, rz.to1⟩ (OutE.mono g2 (fun _ _ z => z) q)
theorem te_chain {fa fb fc : M Wv} {o o' : Wv → Wv → M Wv} {r r' : R2} (ho : OpOk K o r) (ho' : OpOk K o' r') : ∀ σ H Q, te K Γ W (chn fa fb o (lnk fc o')) σ H Q → tChain r r' (te K Γ W fa) (te K Γ W fb) (te K Γ W fc) σ H Q :=
  fun σ H Q q => te_chn ho q (te_lnk ho')
end
section
variable {Γ : Gm} {X : Cx} {W : WX} {a b c d : Expr} {fa fb fc fd : M Wv} {pos : Pos} {op op' op'' : CmpOp} {r r' r'' : R2} {o o' o'' : Wv → Wv → M Wv}
theorem de_chain (ho : OpR X (compareOp op) r) (k : OpOk X.K o r) (ho' : OpR X (compareOp op') r') (k' : OpOk X.K o' r') (ha : DE Γ X W a fa) (hb : DE Γ X W b fb) (hc : DE Γ X W c fc)
    (hm : lastMarks [op, op'] [b, c] = false := by with_unfolding_all rfl) : DE Γ X W (.Compare a [op, op'] [b, c] pos) (chn fa fb o (lnk fc o')) := PE_imp (pe_chain ho ho' ha hb hc hm) (te_chain k k')
theorem dt_chain (ho : OpR X (compareOp op) r) (k : OpOk X.K o r) (ho' : OpR X (compareOp op') r') (k' : OpOk X.K o' r') (ha : DE Γ X W a fa) (hb : DE Γ X W b fb) (hc : DE Γ X W c fc)
    (hm : lastMarks [op, op'] [b, c] = false := by with_unfolding_all rfl) : DT' Γ X W (.Compare a [op, op'] [b, c] pos) (tstB (chn fa fb o (lnk fc o'))) := PT_imp (pt_chain ho ho' ha hb hc hm) fun σ H Q q => te_chain k k' σ H _ (tt_tstB q)
/-- a op b op' c op'' d -/
def tChain3 (r r' r'' : R2) (ta tb tc td : TE) : TE := fun σ H Q => ta σ H fun x H1 => tb σ H1 fun y H2 => r x y H2 fun z H3 => ∃ k, z = .bl k ∧
  (if k = true then tc σ H3 fun y' H4 => r' y y' H4 fun z' H5 => ∃ k', z' = .bl k' ∧ (if k' = true then td σ H5 fun w' H6 => r'' y' w' H6 Q else Q (.bl false) H5) else Q (.bl false) H3)
theorem pe_chain3 {ta tb tc td : TE} (ho : OpR X (compareOp op) r) (ho' : OpR X (compareOp op') r') (ho'' : OpR X (compareOp op'') r'') (ha : PE X a ta) (hb : PE X b tb) (hc : PE X c tc) (hd : PE X d td)
    (hm : lastMarks [op, op', op''] [b, c, d] = false := by with_unfolding_all rfl) : PE X (.Compare a [op, op', op''] [b, c, d] pos) (tChain3 r r' r'' ta tb tc td) := by
  refine ⟨fun pins s σ H Q I h => ?_⟩
  refine Compare_chain (thn (ha.run pins s σ H _ I h) fun v s1 ⟨x, H1, I1, r1, q1⟩ => chain_link (thn (hb.run pins s1 σ H1 _ I1 q1) fun u s2 ⟨y, H2, I2, r2, q2⟩ =>
    thn (ho pins s2 σ H2 x y v u _ I2 r1 r2 q2) fun d s3 ⟨z, H3, I3, r3, k, e, q3⟩ => ?_)) hm
  subst e
  cases r3
  refine wpAny_truthy_bool ?_
  cases k with
  | false => exact ite_ff ⟨.bl false, H3, I3, rfl, q3⟩
  | true =>
    refine ite_tt (chain_link (thn (hc.run pins s3 σ H3 _ I3 q3) fun u' s4 ⟨y', H4, I4, r4, q4⟩ => thn (ho' pins s4 σ H4 y y' u u' _ I4 r2 r4 q4) fun d' s5 ⟨z', H5, I5, r5, k', e', q5⟩ => ?_))
    subst e'
    cases r5
    refine wpAny_truthy_bool ?_
    cases k' with
    | false => exact ite_ff ⟨.bl false, H5, I5, rfl, q5⟩
    | true => exact ite_tt (chain_last (thn (hd.run pins s5 σ H5 _ I5 q5) fun w' s6 ⟨z', H6, I6, r6, q6⟩ => ho'' pins s6 σ H6 y' z' u' w' Q I6 r4 r6 q6))
theorem pt_chain3 {ta tb tc td : TE} (ho : OpR X (compareOp op) r) (ho' : OpR X (compareOp op') r') (ho'' : OpR X (compareOp op'') r'') (ha : PE X a ta) (hb : PE X b tb) (hc : PE X c tc) (hd : PE X d td)
    (hm : lastMarks [op, op', op''] [b, c, d] = false := by with_unfolding_all rfl) : PT X (.Compare a [op, op', op''] [b, c, d] pos) (tTest (tChain3 r r' r'' ta tb tc td)) := by
  refine ⟨fun pins s σ H Q I h => ?_⟩
  refine isTrue_chain (thn (ha.run pins s σ H _ I h) fun v s1 ⟨x, H1, I1, r1, q1⟩ => test_link (thn (hb.run pins s1 σ H1 _ I1 q1) fun u s2 ⟨y, H2, I2, r2, q2⟩ =>
    thn (ho pins s2 σ H2 x y v u _ I2 r1 r2 q2) fun d s3 ⟨z, H3, I3, r3, k, e, q3⟩ => ?_)) hm
  subst e
  cases r3
  refine wpAny_truthy_bool ?_
  cases k with
  | false =>
    obtain ⟨k', e', q'⟩ := q3
    cases e'
    exact ite_ff ⟨H3, I3, q'⟩
  | true =>
    refine ite_tt (test_link (thn (hc.run pins s3 σ H3 _ I3 q3) fun u' s4 ⟨y', H4, I4, r4, q4⟩ => thn (ho' pins s4 σ H4 y y' u u' _ I4 r2 r4 q4) fun d' s5 ⟨z', H5, I5, r5, k', e', q5⟩ => ?_))
    subst e'
    cases r5
    refine wpAny_truthy_bool ?_
    cases k' with
    | false =>
      obtain ⟨k', e', q'⟩ := q5
      cases e'
      exact ite_ff ⟨H5, I5, q'⟩
    | true =>
      refine ite_tt (test_last (thn (hd.run pins s5 σ H5 _ I5 q5) fun w' s6 ⟨z', H6, I6, r6, q6⟩ => thn (ho'' pins s6 σ H6 y' z' u' w' _ I6 r4 r6 q6) fun d' s7 ⟨z2, H7, I7, r7, k2, e2, q7⟩ => ?_))
      subst e2
      cases r7
      exact wpAny_truthy_bool ⟨H7, I7, q7⟩
theorem te_chain3 {K : PySem.W.Frag} (k : OpOk K o r) (k' : OpOk K o' r') (k'' : OpOk K o'' r'') : ∀ σ H Q, te K Γ W (chn fa fb o (chnR fc o' (lnk fd o''))) σ H Q → tChain3 r r' r'' (te K Γ W fa) (te K Γ W fb) (te K Γ W fc) (te K Γ W fd) σ H Q :=
  fun σ H Q q => te_chn k q fun F G ρ ts ss H d y R dv q => te_chnR (w := .val d) k' ⟨R, dv⟩ q (te_lnk k'')
theorem de_chain3 (ho : OpR X (compareOp op) r) (k : OpOk X.K o r) (ho' : OpR X (compareOp op') r') (k' : OpOk X.K o' r') (ho'' : OpR X (compareOp op'') r'') (k'' : OpOk X.K o'' r'') (ha : DE Γ X W a fa) (hb : DE Γ X W b fb) (hc : DE Γ X W c fc) (hd : DE Γ X W d fd)
    (hm : lastMarks [op, op', op''] [b, c, d] = false := by with_unfolding_all rfl) : DE Γ X W (.Compare a [op, op', op''] [b, c, d] pos) (chn fa fb o (chnR fc o' (lnk fd o''))) := PE_imp (pe_chain3 ho ho' ho'' ha hb hc hd hm) (te_chain3 k k' k'')
theorem dt_chain3 (ho : OpR X (compareOp op) r) (k : OpOk X.K o r) (ho' : OpR X (compareOp op') r') (k' : OpOk X.K o' r') (ho'' : OpR X (compareOp op'') r'') (k'' : OpOk X.K o'' r'') (ha : DE Γ X W a fa) (hb : DE Γ X W b fb) (hc : DE Γ X W c fc) (hd : DE Γ X W d fd)
    (hm : lastMarks [op, op', op''] [b, c, d] = false := by with_unfolding_all rfl) : DT' Γ X W (.Compare a [op, op', op''] [b, c, d] pos) (tstB (chn fa fb o (chnR fc o' (lnk fd o'')))) := PT_imp (pt_chain3 ho ho' ho'' ha hb hc hd hm) fun σ H Q q => te_chain3 k k' k'' σ H _ (tt_tstB q)
end
end DT
/-! DT: argument lists, displays, subscripts, slices, calls of built-ins by values -/
namespace DT
open PySem PySem.Spec PyProof.Rows L2

/-! ### argument lists -/
def anil : M (List Wv) := ret []
def acons (f : M Wv) (g : M (List Wv)) : M (List Wv) := bnd f fun w => bnd g fun ws => ret (w :: ws)
section
variable {K : PySem.W.Frag} {Γ : Gm} {W : WX} {σ : L2.St} {H : Hp}
theorem ta_nil : ∀ σ H Q, ta K Γ W anil σ H Q → tNil σ H Q := fun σ H Q ⟨F, G, ρ, ts, ss, R, q⟩ => q [] H G ρ (Same.refl G) R
theorem ta_cons {f : M Wv} {g : M (List Wv)} : ∀ σ H Q, ta K Γ W (acons f g) σ H Q → tCons (te K Γ W f) (ta K Γ W g) σ H Q := fun σ H Q ⟨F, G, ρ, ts, ss, R, q⟩ => by
  refine ⟨F, G, ρ, ts, ss, R, ?_⟩
  unfold acons bnd at q
  cases e : f ss with
  | none => rw [e] at q; exact q
  | some r =>
    rw [e] at q
    cases r with
    | ex x s => exact q
    | ok w s =>
      intro v H1 G1 ρ1 g1 r1
      obtain ⟨ts', R1, dr, sp⟩ := r1.split
      refine ⟨F, G1, ρ1, ts', s, R1, ?_⟩
      dsimp only at q
      cases e2 : g s with
      | none => rw [e2] at q; exact q
      | some r2 =>
        rw [e2] at q
        cases r2 with
        | ex x s2 => exact fun H2 G2 ρ2 cls d g2 R2 xn => q H2 G2 ρ2 cls d (g1.trans g2) (dr R2) xn
        | ok ws s2 => exact fun vs H2 G2 ρ2 g2 r2 => q (v :: vs) H2 G2 ρ2 (g1.trans g2) (sp g2 r2)
theorem ta_then {g : M (List Wv)} {op : List Wv → M Wv} {Q : VK} {Q' : List V → Hp → Prop} (h : te K Γ W (bnd g op) σ H Q)
    (k : ∀ F G ρ ts ss H ws vs, RelWs K F G ρ ss σ H ts ws vs → OutE K Γ W F G ts σ Q (op ws ss) → Q' vs H) : ta K Γ W g σ H Q' := by
  obtain ⟨F, G, ρ, ts, ss, R, q⟩ := h
  refine ⟨F, G, ρ, ts, ss, R, ?_⟩
  unfold bnd at q
  cases e : g ss with
  | none => rw [e] at q; exact q
  | some r =>
    rw [e] at q
    cases r with
    | ok w s => exact fun v H1 G1 ρ1 g1 r => k F G1 ρ1 ts s H1 w v r (q.mono g1 fun _ _ z => z)
    | ex x s => exact q
end
section
variable {Γ : Gm} {X : Cx} {W : WX} {e : Expr} {es : List Expr} {f : M Wv} {g : M (List Wv)}
theorem da_nil : DA Γ X W [] anil := PA_imp pa_nil ta_nil
theorem da_cons (ha : DE Γ X W e f) (hr : DA Γ X W es g) (hs : starEach (e :: es) X.env = (false, eval e X.env) :: starEach es X.env := by rfl) : DA Γ X W (e :: es) (acons f g) := PA_imp (pa_cons ha hr hs) ta_cons
end

/-! ### containers become data -/
def frzW : Wv → M D
  | .val d => ret d
  | .new (.lst xs) => ret (.list xs)
  | .new _ => fail
  | .rol _ => fail
  | .bor i => fun ss => match ss[i]? with
    | some (.val _ d) => some (.ok d ss)
    | some (.own b (.lst xs)) => some (.ok (.list xs) (ss.set i (.val b (.list xs))))
    | _ => none
def frzAll : List Wv → M (List D)
  | [] => ret []
  | w :: ws => bnd (frzAll ws) fun ds => bnd (frzW w) fun d => ret (d :: ds)
section
variable {K : PySem.W.Frag} {Γ : Gm} {W : WX} {F : Fm} {G : Hp} {ρ : Nat → Addr} {ts : List (Addr × Con)} {ss ss' : Sl} {σ : L2.St} {H : Hp} {Q : VK}
theorem Rel.frzS {i : Nat} {b : Bool} {xs : List D} (R : Rel K F G ρ ts ss σ H) (h : ss[i]? = some (.own b (.lst xs))) : ∃ G', Same G G' ∧ Rel K F G' ρ ts (ss.set i (.val b (.list xs))) σ H ∧ Dv K G' (.ref (ρ i)) (.list xs) := by
  obtain ⟨h1, h2, _⟩ := R.slot i _ h
  obtain ⟨G', g, R', d⟩ := (R.toT h).frzT
  have R2 := R'.putS (i := i) (s := .val b (.list xs)) (ρ' := ρ) (σ' := σ) (fun b c e => by rw [List.getElem?_set_self (List.getElem?_eq_some_iff.mp h).1] at e; cases e) rfl (fun _ _ => rfl) (fun _ _ => rfl) rfl
    (fun _ => ⟨_, h1, d, fun z => by rw [h2 z]⟩) (fun e => by cases e)
  rw [List.set_set] at R2
  exact ⟨G', g, R2, d⟩
theorem frzW_ok {w : Wv} {v : V} {d : D} (r : RelW K F G ρ ts ss σ H w v) (e : frzW w ss = some (.ok d ss')) : ∃ G', Same G G' ∧ Rel K F G' ρ ts ss' σ H ∧ Dv K G' v d := by
  cases w with
  | val d' => cases e; exact ⟨G, Same.refl G, r.1, r.2⟩
  | new c =>
    cases c with
    | lst xs => cases e; obtain ⟨p, rfl, R⟩ := r; exact R.frzT
    | dK _ => cases e
    | dT _ => cases e
  | rol xs => cases e
  | bor i =>
    obtain ⟨R, hv⟩ := r
    unfold frzW at e
    dsimp only at e
    cases h : ss[i]? with
    | none => rw [h] at e; cases e
    | some s =>
      rw [h] at e
      cases s with
      | un => cases e
      | val b d' =>
        cases e
        obtain ⟨v', e', q, _⟩ := R.slot i _ h
        rw [hv] at e'; cases e'
        exact ⟨G, Same.refl G, R, q⟩
      | lk b c => cases e
      | exn a => cases e
      | rol xs => cases e
      | own b c =>
        cases c with
        | lst xs =>
          cases e
          have h1 := (R.slot i _ h).1
          rw [hv] at h1; cases h1
          exact R.frzS h
        | dK _ => cases e
        | dT _ => cases e
theorem frzW_noex {w : Wv} {x : Xn} : frzW w ss ≠ some (.ex x ss') := by
  intro e
  cases w with
  | val d => cases e
  | new c => cases c <;> cases e
  | rol xs => cases e
  | bor i =>
    unfold frzW at e
    dsimp only at e
    split at e <;> cases e
theorem frzAll_noex {x : Xn} : ∀ {ws : List Wv} {ss ss' : Sl}, frzAll ws ss ≠ some (.ex x ss')
  | [], _, _, e => by cases e
  | w :: ws, ss, ss', e => by
    unfold frzAll bnd at e
    split at e
    · cases e
    · dsimp only at e
      split at e
      · cases e
      · cases e
      · rename_i h; exact frzW_noex h
    · rename_i h; cases e; exact frzAll_noex h
theorem frzAll_ok : ∀ {ws : List Wv} {vs : List V} {ds : List D} {ts : List (Addr × Con)} {ss' : Sl}, RelWs K F G ρ ss σ H ts ws vs → frzAll ws ss = some (.ok ds ss') → ∃ G', Same G G' ∧ Rel K F G' ρ ts ss' σ H ∧ DvAll K G' vs ds
  | [], [], ds, ts, ss', r, e => by cases e; exact ⟨G, Same.refl G, r, .nil⟩
  | [], _ :: _, _, _, _, r, _ => r.elim
  | w :: ws, [], _, _, _, r, _ => by cases w <;> exact r.elim
  | w :: ws, v :: vs, ds, ts, ss', r, e => by
    unfold frzAll bnd at e
    split at e
    · cases e
    · rename_i ds1 s1 h1
      dsimp only at e
      split at e
      · cases e
      · rename_i d s2 h2
        cases e
        have fin : ∀ {ts1}, RelWs K F G ρ ss σ H ts1 ws vs → (∀ G1, Same G G1 → Rel K F G1 ρ ts1 s1 σ H → RelW K F G1 ρ ts s1 σ H w v) → ∃ G', Same G G' ∧ Rel K F G' ρ ts ss' σ H ∧ DvAll K G' (v :: vs) (d :: ds1) := fun r1 k => by
          obtain ⟨G1, g1, R1, a1⟩ := frzAll_ok r1 h1
          obtain ⟨G2, g2, R2, a2⟩ := frzW_ok (k G1 g1 R1) h2
          exact ⟨G2, g1.trans g2, R2, .cons a2 (a1.mono g2)⟩
        cases w with
        | val d' => exact fin r.2 fun G1 g1 R1 => ⟨R1, r.1.mono g1⟩
        | new c => obtain ⟨p, rfl, r1⟩ := r; exact fin r1 fun G1 g1 R1 => ⟨p, rfl, R1⟩
        | bor i => exact fin r.2 fun G1 g1 R1 => ⟨R1, r.1⟩
        | rol xs => exact fin r.2 fun G1 g1 R1 => ⟨R1, (let ⟨a, us, e, z1, z2⟩ := r.1; ⟨a, us, e, g1.seq z1, z2.mono g1⟩)⟩
      · rename_i h; exact absurd h frzW_noex
    · rename_i h; exact absurd h frzAll_noex
end

/-! ### displays -/
def mkTup (ws : List Wv) : M Wv := bnd (frzAll ws) fun ds => if szOk ds.length = true then ret (.val (.tuple ds)) else fail
def mkLst (ws : List Wv) : M Wv := bnd (frzAll ws) fun ds => if szOk ds.length = true then ret (.new (.lst ds)) else fail
section
variable {Γ : Gm} {X : Cx} {W : WX} {es : List Expr} {g : M (List Wv)} {pos : Pos}
theorem te_tup {K : PySem.W.Frag} : ∀ σ H Q, te K Γ W (bnd g mkTup) σ H Q → tTup (ta K Γ W g) σ H Q := fun σ H Q q => ta_then q fun F G ρ ts ss H ws vs r q => by
  unfold mkTup bnd at q
  split at q
  · exact q.elim
  · rename_i ds s1 h1
    obtain ⟨G1, g1, R1, a1⟩ := frzAll_ok r h1
    dsimp only at q
    by_cases hz : szOk ds.length = true
    · rw [if_pos hz] at q
      exact ⟨by rw [a1.length]; exact szOk_le hz, OutE.nt (OutE.mono g1 (fun _ _ z => z) q) R1 a1⟩
    · rw [if_neg hz] at q; exact q.elim
  · rename_i h; exact absurd h frzAll_noex
theorem te_lst {K : PySem.W.Frag} : ∀ σ H Q, te K Γ W (bnd g mkLst) σ H Q → tLst (ta K Γ W g) σ H Q := fun σ H Q q => ta_then q fun F G ρ ts ss H ws vs r q => by
  unfold mkLst bnd at q
  split at q
  · exact q.elim
  · rename_i ds s1 h1
    obtain ⟨G1, g1, R1, a1⟩ := frzAll_ok r h1
    dsimp only at q
    by_cases hz : szOk ds.length = true
    · rw [if_pos hz] at q
      exact ⟨by rw [a1.length]; exact szOk_le hz, OutE.nw (OutE.mono g1 (fun _ _ z => z) q) R1 (c := .lst ds) (o := .lst vs) a1⟩
    · rw [if_neg hz] at q; exact q.elim
  · rename_i h; exact absurd h frzAll_noex
theorem de_tup {k} (ha : DA Γ X W es g) : DE Γ X W (.Tuple es k pos) (bnd g mkTup) := PE_imp (pe_tup ha) te_tup
theorem de_lst (ha : DA Γ X W es g) : DE Γ X W (.List es pos) (bnd g mkLst) := PE_imp (pe_lst ha) te_lst
end

/-! ### subscripts -/
/-- an item: of a list, a tuple, a text -/
def ixW (w u : Wv) : M Wv := fun ss => match seqV ss w, intV ss u with
  | some xs, some i => match atI xs i with
    | some d => some (.ok (.val d) ss)
    | none => none
  | _, _ => match strV ss w, intV ss u with
    | some z, some i => if szOk z.length = true then match atI z.cps.toList i with
      | some c => some (.ok (.val (.str ⟨#[c]⟩)) ss)
      | none => none else none
    | _, _ => none
theorem atI_dv {K : PySem.W.Frag} {G : Hp} {vs : List V} {ds : List D} {i : Int} {d : D} (h : DvAll K G vs ds) (e : atI ds i = some d) : ∃ v, atI vs i = some v ∧ Dv K G v d := by
  unfold atI at e ⊢
  rw [h.length]
  cases q : ixN ds.length i with
  | none => rw [q] at e; cases e
  | some j => rw [q] at e; exact h.get' e
theorem ok_ixW {K : PySem.W.Frag} : OpOk K ixW (rIx K) := by
  intro Γ W F G ρ ts ss σ H w u x y Q r q
  have R := r.rel
  unfold ixW at q
  split at q
  · rename_i xs i e1 e2
    split at q
    · rename_i d e3
      obtain ⟨a, vs, rfl, h1, d1⟩ := seqV_pk R.sub e1 fun k => r.pk21
      obtain ⟨v, e4, dv⟩ := atI_dv d1 e3
      rcases h1 with h1 | h1
      · exact .inl ⟨a, vs, i, v, rfl, intV_pk e2 fun k => r.pk22, h1, e4, OutE.vl q R dv⟩
      · exact .inr (.inl ⟨a, vs, i, v, rfl, intV_pk e2 fun k => r.pk22, h1, e4, OutE.vl q R dv⟩)
    · exact q.elim
  · split at q
    · rename_i z i e1 e2
      split at q
      · rename_i hz
        split at q
        · rename_i c e3
          exact .inr (.inr ⟨z, i, c, strV_pk e1 fun k => r.pk21, intV_pk e2 fun k => r.pk22, szOk_le hz, e3, OutE.vl q R (.str _)⟩)
        · exact q.elim
      · exact q.elim
    · exact q.elim
section
variable {Γ : Gm} {X : Cx} {W : WX} {a b : Expr} {fa fb : M Wv} {pos p2 : Pos}
theorem de_ix (ha : DE Γ X W a fa) (hb : DE Γ X W b fb) (hs : PlainIx b := by exact fun _ _ => rfl) : DE Γ X W (.Subscript a b pos) (bin fa fb ixW) := PE_imp (pe_ix ix_seq ha hb hs) (te_op ok_ixW)
end

/-! ### slices -/
/-- a slice's part -/
inductive Pt where
  | no
  | at (f : M Wv)
def ptM : Pt → M (Option Int)
  | .no => ret none
  | .at f => bnd f fun w => match w with
    | .val (.int i) => ret (some i)
    | _ => fail
def cutD (xs : List D) (lo hi : Option Int) : List D := (xs.drop (HT.sIx xs.length 0 lo)).take (HT.sIx xs.length xs.length hi - HT.sIx xs.length 0 lo)
theorem cutD_dv {K : PySem.W.Frag} {G : Hp} {vs : List V} {ds : List D} (h : DvAll K G vs ds) (lo hi : Option Int) : DvAll K G (cutV vs lo hi) (cutD ds lo hi) := by
  unfold cutV cutD
  rw [h.length]
  exact (h.drop _).take _
def slW (w : Wv) (lo hi : Option Int) : M Wv := fun ss => match tupV ss w with
  | some xs => some (.ok (.val (.tuple (cutD xs lo hi))) ss)
  | none => match lstV ss w with
    | some xs => some (.ok (.new (.lst (cutD xs lo hi))) ss)
    | none => none
def slM (f : M Wv) (lo hi : Pt) : M Wv := bnd f fun w => bnd (ptM lo) fun l => bnd (ptM hi) fun h => slW w l h
section
variable {K : PySem.W.Frag} {Γ : Gm} {W : WX} {F : Fm} {G : Hp} {ρ : Nat → Addr} {ts : List (Addr × Con)} {ss ss' : Sl} {σ : L2.St} {H : Hp} {Q : VK}
def tPt (K : PySem.W.Frag) (Γ : Gm) (W : WX) : Pt → TO
  | .no => tNoPart
  | .at f => tPart (te K Γ W f)
theorem te_pt {α : Type} {p : Pt} {R' : Option Int → Hp → Prop} (R : Rel K F G ρ ts ss σ H)
    (hn : ptM p ss ≠ none) (hx : ∀ x s, ptM p ss = some (.ex x s) → ∀ H' G' ρ' cls d, Same G G' → Rel K F G' ρ' ts s σ H' → XnAt Γ H' x cls d → W cls d σ H')
    (hk : ∀ o s, ptM p ss = some (.ok o s) → ∀ H' G' ρ', Same G G' → Rel K F G' ρ' ts s σ H' → R' o H') : tPt K Γ W p σ H R' := by
  cases p with
  | no => exact hk none ss rfl H G ρ (Same.refl G) R
  | «at» f =>
    show te K Γ W f σ H _
    refine ⟨F, G, ρ, ts, ss, R, ?_⟩
    unfold ptM bnd at hn hx hk
    dsimp only at hn hx hk
    cases e : f ss with
    | none => rw [e] at hn; exact absurd rfl hn
    | some r =>
      rw [e] at hn hx hk
      cases r with
      | ex x s => exact hx x s rfl
      | ok w s =>
        intro v H' G' ρ' g r
        cases w with
        | new c => exact absurd rfl hn
        | bor i => exact absurd rfl hn
        | rol i => exact absurd rfl hn
        | val d =>
          obtain ⟨R', dv⟩ := r
          cases d with
          | int i => cases dv; exact ⟨i, rfl, hk (some i) s rfl H' G' ρ' g R'⟩
          | _ => exact absurd rfl hn
end
section
variable {Γ : Gm} {X : Cx} {W : WX} {a lo hi : Expr} {fa fl fh : M Wv} {pos p2 : Pos}
def rSlAL (K : PySem.W.Frag) : V → Option Int → Option Int → Hp → VK → Prop := fun x lo hi H Q => rSlA K x lo hi H Q ∨ rSlL K x lo hi H Q
theorem ok_slW {K : PySem.W.Frag} {F : Fm} {G : Hp} {ρ : Nat → Addr} {ts : List (Addr × Con)} {ss : Sl} {σ : L2.St} {H : Hp} {w : Wv} {x : V} {Q : VK} {l h : Option Int} (r : RelWs K F G ρ ss σ H ts [w] [x]) (q : OutE K Γ W F G ts σ Q (slW w l h ss)) : rSlAL K x l h H Q := by
  have R := r.rel
  unfold slW at q
  split at q
  · rename_i xs e
    obtain ⟨a, vs, rfl, h1, d1⟩ := tupV_pk R.sub e fun k => r.pk1
    refine .inl ⟨a, vs, rfl, .of (R.sub _ _ h1), fun hw => ?_, fun _ => OutE.nt q R (cutD_dv d1 l h)⟩
    have e2 : cutD xs l h = xs := by
      unfold cutD
      rw [d1.length] at hw
      rw [hw.1, hw.2]
      simp
    rw [e2] at q
    exact OutE.vl q R (.tup h1 d1)
  · split at q
    · rename_i xs e
      obtain ⟨a, vs, rfl, h1, d1⟩ := lstV_pk R.sub e fun k => r.pk1
      exact .inr ⟨a, vs, rfl, h1, OutE.nw q R (cutD_dv d1 l h)⟩
    · exact q.elim
theorem te_sl {K : PySem.W.Frag} {lo hi : Pt} : ∀ σ H Q, te K Γ W (slM fa lo hi) σ H Q → tSl (rSlAL K) (te K Γ W fa) (tPt K Γ W lo) (tPt K Γ W hi) σ H Q := fun σ H Q q => te_then q fun F G ρ ts ss H w x r q => by
  obtain ⟨ts', R, dr, sp⟩ := r.split
  unfold bnd at q
  refine te_pt (α := Unit) R (fun e => by rw [e] at q; exact q) (fun xx s e H1 G1 ρ1 cls d g1 R1 xn => ?_) fun l s e H1 G1 ρ1 g1 R1 => ?_
  · rw [e] at q; exact q H1 G1 ρ1 cls d g1 (dr R1) xn
  · rw [e] at q
    dsimp only at q
    refine te_pt (α := Unit) R1 (fun e => by rw [e] at q; exact q) (fun xx s e H2 G2 ρ2 cls d g2 R2 xn => ?_) fun h s e H2 G2 ρ2 g2 R2 => ?_
    · rw [e] at q; exact q H2 G2 ρ2 cls d (g1.trans g2) (dr R2) xn
    · rw [e] at q
      exact ok_slW (sp (ws := []) (vs := []) (g1.trans g2) R2) (OutE.mono (g1.trans g2) (fun _ _ z => z) q)
theorem dpo_no : PO X none (tPt X.K Γ W .no) := po_none
theorem dpo_at {e : Expr} {f : M Wv} (h : DE Γ X W e f) : PO X (some e) (tPt X.K Γ W (.at f)) := po_some h
theorem de_sl {l h : Option Expr} {pl ph : Pt} (ha : DE Γ X W a fa) (hl : PO X l (tPt X.K Γ W pl)) (hh : PO X h (tPt X.K Γ W ph)) : DE Γ X W (.Subscript a (.Slice l h none p2) pos) (slM fa pl ph) :=
  PE_imp (pe_slice (sl_tupA.or sl_list) ha hl hh) te_sl
end

/-! ### calls of built-ins, by values -/
def CalOk (K : PySem.W.Frag) (op : List Wv → M Wv) (r : List V → Hp → VK → Prop) : Prop :=
  ∀ (Γ : Gm) (W : WX) (F : Fm) (G : Hp) (ρ : Nat → Addr) (ts : List (Addr × Con)) (ss : Sl) (σ : L2.St) (H : Hp) (ws : List Wv) (vs : List V) (Q : VK), RelWs K F G ρ ss σ H ts ws vs → OutE K Γ W F G ts σ Q (op ws ss) → r vs H Q
theorem te_cal {K : PySem.W.Frag} {Γ : Gm} {W : WX} {op : List Wv → M Wv} {r : List V → Hp → VK → Prop} {g : M (List Wv)} (h : CalOk K op r) : ∀ σ H Q, te K Γ W (bnd g op) σ H Q → tCB r (ta K Γ W g) σ H Q := fun σ H Q q =>
  ta_then q fun F G ρ ts ss H ws vs r q => h Γ W F G ρ ts ss σ H ws vs _ r q
section
variable {Γ : Gm} {X : Cx} {W : WX} {x : Str} {p pos : Pos} {e : Expr} {es : List Expr} {g : M (List Wv)} {id T : String} {r : List V → Hp → VK → Prop} {op : List Wv → M Wv}
theorem de_callB (hc : CallR X (.builtin id) r) (hk : CalOk X.K op r) (hm : X.mg x = none) (hv : bootBuiltins x = some (.builtin id)) (ha : DA Γ X W (e :: es) g) (hg : Gl X x := by rfl) (hn : x ≠ "__name__" := by decide) (hdb : (x == ("__debug__" : Str)) = false := by decide)
    (he : starEach (e :: es) X.env = (false, eval e X.env) :: starEach es X.env := by rfl) (hpl : (backTo pos (starEach es X.env)).any (·.1) = false := by rfl) : DE Γ X W (.Call (.Name x p) (e :: es) [] pos) (bnd g op) :=
  PE_imp (pe_callB hc hg hm hv ha hn hdb he hpl) (te_cal hk)
theorem de_callT (hc : CallR X (.type T) r) (hk : CalOk X.K op r) (hm : X.mg x = none) (hv : bootBuiltins x = some (.type T)) (ha : DA Γ X W (e :: es) g) (hg : Gl X x := by rfl) (hn : x ≠ "__name__" := by decide) (hdb : (x == ("__debug__" : Str)) = false := by decide)
    (he : starEach (e :: es) X.env = (false, eval e X.env) :: starEach es X.env := by rfl) (hpl : (backTo pos (starEach es X.env)).any (·.1) = false := by rfl) : DE Γ X W (.Call (.Name x p) (e :: es) [] pos) (bnd g op) :=
  PE_imp (pe_callTy hc hg hm hv ha hn hdb he hpl) (te_cal hk)
end
end DT
/-! DT: built-ins by values -/
namespace DT
open PySem PySem.Spec PyProof.Rows L2 PySem.W

/-! ### len -/
def lenW (ws : List Wv) : M Wv := fun ss => match ws with
  | [w] => match seqV ss w with
    | some xs => some (.ok (.val (.int xs.length)) ss)
    | none => match strV ss w with
      | some z => if szOk z.length = true then some (.ok (.val (.int z.length)) ss) else none
      | none => match ownC ss w with
        | some (.dK kvs) => some (.ok (.val (.int kvs.length)) ss)
        | some (.dT kvs) => some (.ok (.val (.int kvs.length)) ss)
        | _ => none
  | _ => none
theorem kd_len {K : PySem.W.Frag} {G : Hp} {κ : Type} {vs : List (κ × V)} {ds : List (κ × D)} (h : KD K G vs ds) : vs.length = ds.length := Paired.length h
theorem one_of {K : PySem.W.Frag} {F : Fm} {G : Hp} {ρ : Nat → Addr} {ts : List (Addr × Con)} {ss : Sl} {σ : L2.St} {H : Hp} {w : Wv} {vs : List V} (r : RelWs K F G ρ ss σ H ts [w] vs) : ∃ x, vs = [x] := by
  have h := r.length
  match vs, h with
  | [x], _ => exact ⟨x, rfl⟩
theorem two_of {K : PySem.W.Frag} {F : Fm} {G : Hp} {ρ : Nat → Addr} {ts : List (Addr × Con)} {ss : Sl} {σ : L2.St} {H : Hp} {w u : Wv} {vs : List V} (r : RelWs K F G ρ ss σ H ts [w, u] vs) : ∃ x y, vs = [x, y] := by
  have h := r.length
  match vs, h with
  | [x, y], _ => exact ⟨x, y, rfl⟩
def rLenW (K : PySem.W.Frag) : List V → Hp → VK → Prop := fun xs H Q => (∃ x n, xs = [x] ∧ LenV K x H n ∧ Q (.int n) H) ∨ (∃ a kvs, xs = [V.ref a] ∧ H a = some (.dK kvs) ∧ Q (.int kvs.length) H) ∨ L2.rLenT xs H Q
theorem cr_lenW {X : Cx} : CallR X (.builtin "len") (rLenW X.K) := call_len.or (call_lenD.or call_len_dT)
theorem ok_lenW {K : PySem.W.Frag} : CalOk K lenW (rLenW K) := by
  intro Γ W F G ρ ts ss σ H ws vs Q r q
  have R := r.rel
  unfold lenW at q
  split at q
  · rename_i w
    obtain ⟨x, rfl⟩ := one_of r
    split at q
    · rename_i xs e1
      obtain ⟨a, vs, rfl, h1, d1⟩ := seqV_pk R.sub e1 fun k => r.pk1
      refine .inl ⟨_, vs.length, rfl, ?_, by rw [d1.length]; exact OutE.vl q R (.int _)⟩
      rcases h1 with h1 | h1
      · exact .inl ⟨vs, h1, rfl⟩
      · exact .inr ⟨vs, h1, rfl⟩
    · split at q
      · rename_i z e1
        split at q
        · rename_i hz
          have ex := strV_pk e1 fun k => r.pk1
          subst ex
          exact .inl ⟨_, z.length, rfl, ⟨szOk_le hz, rfl⟩, OutE.vl q R (.int _)⟩
        · exact q.elim
      · split at q
        · rename_i kvs e1
          obtain ⟨p, o, rfl, a, b⟩ := r.own1 e1
          obtain ⟨kv, rfl, b⟩ := b.dK_inv
          exact .inr (.inl ⟨p, kv, rfl, a, by rw [kd_len b]; exact OutE.vl q R (.int _)⟩)
        · rename_i kvs e1
          obtain ⟨p, o, rfl, a, b⟩ := r.own1 e1
          obtain ⟨kv, rfl, b⟩ := b.dT_inv
          exact .inr (.inr ⟨p, kv, rfl, a, by rw [kd_len b]; exact OutE.vl q R (.int _)⟩)
        · exact q.elim
  · exact q.elim

/-! ### int(x), abs -/
def intW (ws : List Wv) : M Wv := fun ss => match ws with
  | [w] => match intV ss w with
    | some i => some (.ok (.val (.int i)) ss)
    | none => match boolV ss w with
      | some b => some (.ok (.val (.int (if b then 1 else 0))) ss)
      | none => none
  | _ => none
theorem ok_intW {K : PySem.W.Frag} : CalOk K intW (fun xs H Q => (∃ i, xs = [.int i] ∧ Q (.int i) H) ∨ ∃ k, xs = [.bl k] ∧ Q (.int (if k then 1 else 0)) H) := by
  intro Γ W F G ρ ts ss σ H ws vs Q r q
  have R := r.rel
  unfold intW at q
  split at q
  · rename_i w
    obtain ⟨x, rfl⟩ := one_of r
    split at q
    · rename_i i e1
      have ex := intV_pk e1 fun k => r.pk1
      subst ex
      exact .inl ⟨i, rfl, OutE.vl q R (.int _)⟩
    · split at q
      · rename_i b e1
        have ex := boolV_pk e1 fun k => r.pk1
        subst ex
        exact .inr ⟨b, rfl, OutE.vl q R (.int _)⟩
      · exact q.elim
  · exact q.elim
def absW (ws : List Wv) : M Wv := fun ss => match ws with
  | [w] => match intV ss w with
    | some i => some (.ok (.val (.int (if i < 0 then -i else i))) ss)
    | none => none
  | _ => none
theorem ok_absW {K : PySem.W.Frag} : CalOk K absW (fun xs H Q => ∃ i, xs = [.int i] ∧ Q (.int (if i < 0 then -i else i)) H) := by
  intro Γ W F G ρ ts ss σ H ws vs Q r q
  have R := r.rel
  unfold absW at q
  split at q
  · rename_i w
    obtain ⟨x, rfl⟩ := one_of r
    split at q
    · rename_i i e1
      have ex := intV_pk e1 fun k => r.pk1
      subst ex
      exact ⟨i, rfl, OutE.vl q R (.int _)⟩
    · exact q.elim
  · exact q.elim

/-! ### max(a, b), min(a, b) of ints -/
def max2W (w u : Wv) : M Wv := iop (fun _ _ => true) (fun i j => .int (if j > i then j else i)) w u
def min2W (w u : Wv) : M Wv := iop (fun _ _ => true) (fun i j => .int (if j < i then j else i)) w u

/-! ### sum -/
def sumW (ws : List Wv) : M Wv := fun ss => match ws with
  | [w] => match seqV ss w with
    | some xs => match intsOf xs with
      | some ns => some (.ok (.val (.int ns.sum)) ss)
      | none => none
    | none => none
  | _ => none
def rSumTp (K : PySem.W.Frag) : List V → Hp → VK → Prop := fun vs H Q => ∃ (a : Addr) (ns : List Int), vs = [V.ref a] ∧ SqT K H a (ns.map V.int) ∧ Q (.int ns.sum) H
theorem cr_sumTp {X : Cx} (hc : X.calm = true) : CallR X (.builtin "sum") (rSumTp X.K) := by
  intro pins s σ H vs us Q I rv hyp
  obtain ⟨a, ns, rfl, hS, fin⟩ := hyp
  have eus := rv.ref1
  subst eus
  obtain ⟨its, rI, tup, _⟩ := I.tuple hS
  have allI := rI.ints
  obtain ⟨xs, exs⟩ := allI.allInts.items
  have nums : numsOf (intItems xs).toList = ns := by rw [← exs]; exact allI.numsOf
  rw [nums_intItems] at nums
  rw [exs] at tup
  refine ktm_sumG (I.ok.hd hc) tup fun h' tk t' kp => ⟨.int ns.sum, H, I.kept (t' := tk) kp, ⟨t', ?_⟩, fin⟩
  rw [preSum_eq, List.take_of_length_le (by simp), nums]
theorem ok_sumW {K : PySem.W.Frag} : CalOk K sumW (fun vs H Q => rSum K vs H Q ∨ rSumTp K vs H Q) := by
  intro Γ W F G ρ ts ss σ H ws vs Q r q
  have R := r.rel
  unfold sumW at q
  split at q
  · rename_i w
    obtain ⟨x, rfl⟩ := one_of r
    split at q
    · rename_i xs e1
      split at q
      · rename_i ns e2
        obtain ⟨a, vs, rfl, h1, d1⟩ := seqV_pk R.sub e1 fun k => r.pk1
        have e3 := intsOf_dv e2 d1
        subst e3
        rcases h1 with h1 | h1
        · exact .inl ⟨a, ns, rfl, h1, OutE.vl q R (.int _)⟩
        · exact .inr ⟨a, ns, rfl, h1, OutE.vl q R (.int _)⟩
      · exact q.elim
    · exact q.elim
  · exact q.elim

/-! ### max(xs), min(xs) of data -/
/-- all alike, none None -/
def alikeC (xs : List D) : Bool := (intsOf xs).isSome || xs.all fun x => !isNonD x && xs.all fun y => alike x y
theorem alikeC_ok {xs : List D} (h : alikeC xs = true) : AlikeAll xs := by
  unfold alikeC at h
  rcases (Bool.or_eq_true _ _).mp h with h | h
  · obtain ⟨ns, e⟩ := Option.isSome_iff_exists.mp h
    rw [intsOf_eq e]
    refine ⟨fun x hx y hy => ?_, fun x hx => ?_⟩
    · obtain ⟨i, _, rfl⟩ := List.mem_map.mp hx
      obtain ⟨j, _, rfl⟩ := List.mem_map.mp hy
      rfl
    · obtain ⟨i, _, rfl⟩ := List.mem_map.mp hx
      intro e; cases e
  · rw [List.all_eq_true] at h
    refine ⟨fun x hx y hy => ?_, fun x hx e => ?_⟩
    · have q := h x hx
      rw [Bool.and_eq_true, List.all_eq_true] at q
      exact q.2 y hy
    · subst e
      have q := h _ hx
      rw [Bool.and_eq_true] at q
      cases q.1
def depC (n : Nat) (xs : List D) : Bool := decide (PyData.depthAll xs ≤ n)
def extW (mx : Bool) (ws : List Wv) : M Wv := fun ss => match ws with
  | [w] => match seqV ss w with
    | some (x :: xs) => if alikeC (x :: xs) = true ∧ depC 60 (x :: xs) = true then some (.ok (.val (if mx then maxD x xs else minD x xs)) ss) else none
    | _ => none
  | _ => none
def rExt (K : PySem.W.Frag) (f : D → List D → D) : List V → Hp → VK → Prop := fun vs H Q => ∃ (a : Addr) (us : List V) (d : D) (ds : List D), vs = [V.ref a] ∧ (SqL K H a us ∨ SqT K H a us) ∧ DpAll K H us (d :: ds) ∧ AlikeAll (d :: ds) ∧ PyData.depthAll (d :: ds) ≤ 60 ∧
  ∀ (i : Nat) (y : V), us[i]? = some y → (d :: ds)[i]? = some (f d ds) → Q y H
section
variable {X : Cx}
theorem ext_fin {pins : List (Addr × Obj)} {s : Shared} {σ : L2.St} {H : Hp} {Q : VK} {us : List V} {its : List Value} {ds : List D} {e : D} {h' : Heap} {tk : Nat} {i : Nat} {v : Value} {bs : List Addr} (I : L2.Inv X pins σ H s) (rI : Vals us its) (dA : DpAll X.K H us ds)
    (hv : its.toArray[i]? = some v) (hr : Reads h' v e bs) (kp : ∀ b o, s.heap.get? b = some o → h'.get? b = some o) (fin : ∀ (i : Nat) (y : V), us[i]? = some y → ds[i]? = some e → Q y H) : EP X pins σ Q v { s with heap := h', toks := tk } := by
  have hv' : its[i]? = some v := by simpa using hv
  have hlt : i < us.length := by rw [rI.length]; exact (List.getElem?_eq_some_iff.mp hv').1
  have hy : us[i]? = some us[i] := List.getElem?_eq_getElem hlt
  obtain ⟨u, hu, ru⟩ := rI.get hy
  rw [hv'] at hu; cases hu
  obtain ⟨d, hd, dd⟩ := dps_get dA hy
  obtain ⟨as, r1⟩ := Dp.reads I d _ _ dd ru
  have r2 := reads_keeps kp r1
  have ed : d = e := SeqAt.plain_unique d e v _ _ (dp_plain dd) r2 hr
  subst ed
  exact ⟨_, H, I.kept (t' := tk) kp, ru, fin i _ hy hd⟩
theorem cr_maxX (hc : X.calm = true) (hu : X.A.units + 64 < cLine) : CallR X (.builtin "max") (rExt X.K maxD) := by
  intro pins s σ H vs us0 Q I rv hyp
  obtain ⟨a, us, d, ds, rfl, hS, dA, al, dep, fin⟩ := hyp
  have eus := rv.ref1
  subst eus
  have hd := I.ok.hd hc
  rcases hS with hS | hS
  · obtain ⟨its, rI, pl, _⟩ := I.list hS
    obtain ⟨as, rr⟩ := Dp.readsAll I _ _ _ dA rI
    exact max_list_data hd pl.isList (by simpa using rr) al (by omega) fun i v h' tk bs hv hr kp => ext_fin I rI dA hv hr kp fin
  · obtain ⟨its, rI, pl, _⟩ := I.tuple hS
    obtain ⟨as, rr⟩ := Dp.readsAll I _ _ _ dA rI
    exact max_tuple_data hd pl (by simpa using rr) al (by omega) fun i v h' tk bs hv hr kp => ext_fin I rI dA hv hr kp fin
theorem cr_minX (hc : X.calm = true) (hu : X.A.units + 64 < cLine) : CallR X (.builtin "min") (rExt X.K minD) := by
  intro pins s σ H vs us0 Q I rv hyp
  obtain ⟨a, us, d, ds, rfl, hS, dA, al, dep, fin⟩ := hyp
  have eus := rv.ref1
  subst eus
  have hd := I.ok.hd hc
  rcases hS with hS | hS
  · obtain ⟨its, rI, pl, _⟩ := I.list hS
    obtain ⟨as, rr⟩ := Dp.readsAll I _ _ _ dA rI
    exact min_list_data hd pl.isList (by simpa using rr) al (by omega) fun i v h' tk bs hv hr kp => ext_fin I rI dA hv hr kp fin
  · obtain ⟨its, rI, pl, _⟩ := I.tuple hS
    obtain ⟨as, rr⟩ := Dp.readsAll I _ _ _ dA rI
    exact min_tuple_data hd pl (by simpa using rr) al (by omega) fun i v h' tk bs hv hr kp => ext_fin I rI dA hv hr kp fin
end
theorem ok_ext {K : PySem.W.Frag} (mx : Bool) : CalOk K (extW mx) (rExt K (if mx then maxD else minD)) := by
  intro Γ W F G ρ ts ss σ H ws vs Q r q
  have R := r.rel
  unfold extW at q
  split at q
  · rename_i w
    obtain ⟨x, rfl⟩ := one_of r
    split at q
    · rename_i d ds e1
      split at q
      · rename_i hz
        obtain ⟨a, vs, rfl, h1, d1⟩ := seqV_pk R.sub e1 fun k => r.pk1
        refine ⟨a, vs, d, ds, rfl, h1, DvAll.dp R.sub d1, alikeC_ok hz.1, of_decide_eq_true hz.2, fun i y h2 h3 => ?_⟩
        obtain ⟨e, h4, dv⟩ := d1.get h2
        rw [h3] at h4
        cases h4
        refine OutE.vl q R ?_
        cases mx <;> exact dv
      · exact q.elim
    · exact q.elim
  · exact q.elim
/-- max, min with one or two arguments -/
def maxW (ws : List Wv) : M Wv := match ws with
  | [w, u] => max2W w u
  | ws => extW true ws
def minW (ws : List Wv) : M Wv := match ws with
  | [w, u] => min2W w u
  | ws => extW false ws
def rMaxW (K : PySem.W.Frag) : List V → Hp → VK → Prop := fun xs H Q => (∃ i j, xs = [.int i, .int j] ∧ Q (.int (if j > i then j else i)) H) ∨ rExt K maxD xs H Q
def rMinW (K : PySem.W.Frag) : List V → Hp → VK → Prop := fun xs H Q => (∃ i j, xs = [.int i, .int j] ∧ Q (.int (if j < i then j else i)) H) ∨ rExt K minD xs H Q
theorem cr_maxW {X : Cx} (hc : X.calm = true) (hu : X.A.units + 64 < cLine) : CallR X (.builtin "max") (rMaxW X.K) := (call_max2 hc).or (cr_maxX hc hu)
theorem cr_minW {X : Cx} (hc : X.calm = true) (hu : X.A.units + 64 < cLine) : CallR X (.builtin "min") (rMinW X.K) := (call_min2 hc).or (cr_minX hc hu)
theorem ok_maxW {K : PySem.W.Frag} : CalOk K maxW (rMaxW K) := by
  intro Γ W F G ρ ts ss σ H ws vs Q r q
  unfold maxW at q
  split at q
  · rename_i w u
    obtain ⟨x, y, rfl⟩ := two_of r
    obtain ⟨i, j, rfl, rfl, z⟩ := ok_iop0 (K := K) (g := fun i j => .int (if j > i then j else i)) (g' := fun i j => .int (if j > i then j else i)) (fun _ _ _ => .int _) Γ W F G ρ ts ss σ H w u x y Q r q
    exact .inl ⟨i, j, rfl, z⟩
  · exact .inr (ok_ext true Γ W F G ρ ts ss σ H _ vs Q r q)
theorem ok_minW {K : PySem.W.Frag} : CalOk K minW (rMinW K) := by
  intro Γ W F G ρ ts ss σ H ws vs Q r q
  unfold minW at q
  split at q
  · rename_i w u
    obtain ⟨x, y, rfl⟩ := two_of r
    obtain ⟨i, j, rfl, rfl, z⟩ := ok_iop0 (K := K) (g := fun i j => .int (if j < i then j else i)) (g' := fun i j => .int (if j < i then j else i)) (fun _ _ _ => .int _) Γ W F G ρ ts ss σ H w u x y Q r q
    exact .inl ⟨i, j, rfl, z⟩
  · exact .inr (ok_ext false Γ W F G ρ ts ss σ H _ vs Q r q)

/-! ### all, any of bools -/
def boolsOf : List D → Option (List Bool)
  | [] => some []
  | .bool i :: r => (boolsOf r).map (i :: ·)
  | _ :: _ => none
theorem boolsOf_eq : ∀ {ds : List D} {ns : List Bool}, boolsOf ds = some ns → ds = ns.map PyData.bool
  | [], _, h => by cases h; rfl
  | .bool i :: r, ns, h => by
    unfold boolsOf at h
    cases e : boolsOf r with
    | none => rw [e] at h; cases h
    | some ms => rw [e] at h; cases h; rw [boolsOf_eq e]; rfl
  | .none :: _, _, h => by cases h
  | .int _ :: _, _, h => by cases h
  | .str _ :: _, _, h => by cases h
  | .list _ :: _, _, h => by cases h
  | .tuple _ :: _, _, h => by cases h
  | .dict _ :: _, _, h => by cases h
theorem boolsOf_map : ∀ (ns : List Bool), boolsOf (ns.map PyData.bool) = some ns
  | [] => rfl
  | n :: ns => by show (boolsOf (ns.map PyData.bool)).map _ = _; rw [boolsOf_map ns]; rfl
def allW (al : Bool) (ws : List Wv) : M Wv := fun ss => match ws with
  | [w] => match lstV ss w with
    | some xs => match boolsOf xs with
      | some bs => some (.ok (.val (.bool (if al then bs.all id else bs.any id))) ss)
      | none => none
    | none => none
  | _ => none
theorem ok_allW {K : PySem.W.Frag} : CalOk K (allW true) (rAll K) := by
  intro Γ W F G ρ ts ss σ H ws vs Q r q
  have R := r.rel
  unfold allW at q
  split at q
  · rename_i w
    obtain ⟨x, rfl⟩ := one_of r
    split at q
    · rename_i xs e1
      split at q
      · rename_i ns e2
        obtain ⟨a, vs, rfl, h1, d1⟩ := lstV_pk R.sub e1 fun k => r.pk1
        rw [boolsOf_eq e2] at d1
        have e3 := d1.bools
        subst e3
        exact ⟨a, ns, rfl, h1, OutE.vl q R (.bl _)⟩
      · exact q.elim
    · exact q.elim
  · exact q.elim
theorem ok_anyW {K : PySem.W.Frag} : CalOk K (allW false) (rAny K) := by
  intro Γ W F G ρ ts ss σ H ws vs Q r q
  have R := r.rel
  unfold allW at q
  split at q
  · rename_i w
    obtain ⟨x, rfl⟩ := one_of r
    split at q
    · rename_i xs e1
      split at q
      · rename_i ns e2
        obtain ⟨a, vs, rfl, h1, d1⟩ := lstV_pk R.sub e1 fun k => r.pk1
        rw [boolsOf_eq e2] at d1
        have e3 := d1.bools
        subst e3
        exact ⟨a, ns, rfl, h1, OutE.vl q R (.bl _)⟩
      · exact q.elim
    · exact q.elim
  · exact q.elim

/-! ### list(x), tuple(x) of lists and tuples -/
def listW (ws : List Wv) : M Wv := fun ss => match ws with
  | [w] => match seqV ss w with
    | some xs => some (.ok (.new (.lst xs)) ss)
    | none => none
  | _ => none
theorem ok_listW {K : PySem.W.Frag} : CalOk K listW (fun xs H Q => ∃ p ys, xs = [.ref p] ∧ (SqL K H p ys ∨ SqT K H p ys) ∧ ∀ l, H l = none → Q (.ref l) (upd H l (.lst ys))) := by
  intro Γ W F G ρ ts ss σ H ws vs Q r q
  have R := r.rel
  unfold listW at q
  split at q
  · rename_i w
    obtain ⟨x, rfl⟩ := one_of r
    split at q
    · rename_i xs e1
      obtain ⟨a, vs, rfl, h1, d1⟩ := seqV_pk R.sub e1 fun k => r.pk1
      exact ⟨a, vs, rfl, h1, OutE.nw q R (c := .lst xs) (o := .lst vs) d1⟩
    · exact q.elim
  · exact q.elim
def tupleW (ws : List Wv) : M Wv := fun ss => match ws with
  | [w] => match tupV ss w with
    | some xs => some (.ok (.val (.tuple xs)) ss)
    | none => match lstV ss w with
      | some xs => some (.ok (.val (.tuple xs)) ss)
      | none => none
  | _ => none
theorem ok_tupleW {K : PySem.W.Frag} : CalOk K tupleW (fun xs H Q => ∃ p ys, xs = [.ref p] ∧ ((SqL K H p ys ∧ ∀ l, H l = none → Q (.ref l) (upd H l (.tup ys))) ∨ (SqT K H p ys ∧ Q (.ref p) H))) := by
  intro Γ W F G ρ ts ss σ H ws vs Q r q
  have R := r.rel
  unfold tupleW at q
  split at q
  · rename_i w
    obtain ⟨x, rfl⟩ := one_of r
    split at q
    · rename_i xs e1
      obtain ⟨a, vs, rfl, h1, d1⟩ := tupV_pk R.sub e1 fun k => r.pk1
      exact ⟨a, vs, rfl, .inr ⟨.of (R.sub _ _ h1), OutE.vl q R (.tup h1 d1)⟩⟩
    · split at q
      · rename_i xs e1
        obtain ⟨a, vs, rfl, h1, d1⟩ := lstV_pk R.sub e1 fun k => r.pk1
        exact ⟨a, vs, rfl, .inl ⟨h1, OutE.nt q R d1⟩⟩
      · exact q.elim
  · exact q.elim

/-! ### repr of data -/
mutual
theorem noDict_plain : ∀ d : D, d.plain = true → d.hasDict = false
  | .none, _ => rfl
  | .bool _, _ => rfl
  | .int _, _ => rfl
  | .str _, _ => rfl
  | .list xs, h => by show PyData.hasDictAll xs = false; exact noDicts_plain xs h
  | .tuple xs, h => by show PyData.hasDictAll xs = false; exact noDicts_plain xs h
  | .dict _, h => by cases h
theorem noDicts_plain : ∀ ds : List D, PyData.plainAll ds = true → PyData.hasDictAll ds = false
  | [], _ => rfl
  | d :: ds, h => by
    have h' : (d.plain && PyData.plainAll ds) = true := h
    rw [Bool.and_eq_true] at h'
    show (PyData.hasDict d || PyData.hasDictAll ds) = false
    rw [noDict_plain d h'.1, noDicts_plain ds h'.2]; rfl
end
def reprC (d : D) : Bool := PyData.showable d && szOk d.shown.length && decide (d.depth ≤ 60)
def reprW (ws : List Wv) : M Wv := fun ss => match ws with
  | [w] => match datV ss w with
    | some d => if reprC d = true then some (.ok (.val (.str d.shown)) ss) else none
    | none => none
  | _ => none
def rRepr (K : PySem.W.Frag) : List V → Hp → VK → Prop := fun vs H Q => ∃ (x : V) (d : D), vs = [x] ∧ Dp K H x d ∧ reprC d = true ∧ Q (.str d.shown) H
theorem ok_reprW {K : PySem.W.Frag} : CalOk K reprW (rRepr K) := by
  intro Γ W F G ρ ts ss σ H ws vs Q r q
  have R := r.rel
  unfold reprW at q
  split at q
  · rename_i w
    obtain ⟨x, rfl⟩ := one_of r
    split at q
    · rename_i d e1
      split at q
      · rename_i hz
        exact ⟨x, d, rfl, datV_pk R.sub e1 fun k => r.pk1, hz, OutE.vl q R (.str _)⟩
      · exact q.elim
    · exact q.elim
  · exact q.elim
theorem cr_repr {X : Cx} (hg : X.A.guards = some []) (hu : X.A.units + 64 < cLine) : CallR X (.builtin "repr") (rRepr X.K) := by
  intro pins s σ H vs us Q I rv hyp
  obtain ⟨x, d, rfl, dx, ck, fin⟩ := hyp
  obtain ⟨u, rfl, rx⟩ := vals1 rv
  unfold reprC at ck
  rw [Bool.and_eq_true, Bool.and_eq_true] at ck
  obtain ⟨⟨sh, sz⟩, dp⟩ := ck
  have sz' := szOk_le sz
  have dp' := of_decide_eq_true dp
  have rd := Dp.reads I d x u dx rx
  cases dx with
  | non => cases rx; exact PySem.P.repr_of_none ⟨.str _, H, I.tok _, ⟨_, rfl⟩, fin⟩
  | bl b => cases rx; exact PySem.P.repr_of_bool ⟨.str _, H, I.tok _, ⟨_, rfl⟩, fin⟩
  | int i => obtain ⟨t, rfl⟩ := rx; exact PySem.P.repr_of_int (of_decide_eq_true sh) ⟨.str _, H, I.tok _, ⟨_, rfl⟩, fin⟩
  | str z => obtain ⟨t, rfl⟩ := rx; exact PySem.P.repr_of_str ⟨.str _, H, I.tok _, ⟨_, rfl⟩, fin⟩ sz'
  | lst hS ha =>
    cases rx
    obtain ⟨as, r⟩ := rd
    refine repr_of_reads' r sh (PyData.noDict_hsm ?_) hg (by omega) (fun _ _ e => e) (fun h' u tk kp => ⟨.str _, H, I.kept (t' := tk) kp, ⟨_, rfl⟩, fin⟩) sz'
    exact noDict_plain _ (dp_plain (Dp.lst hS ha))
  | tup hS ha =>
    cases rx
    obtain ⟨as, r⟩ := rd
    refine repr_of_reads' r sh (PyData.noDict_hsm ?_) hg (by omega) (fun _ _ e => e) (fun h' u tk kp => ⟨.str _, H, I.kept (t' := tk) kp, ⟨_, rfl⟩, fin⟩) sz'
    exact noDict_plain _ (dp_plain (Dp.tup hS ha))
end DT
/-! DT: statements -/
namespace DT
open PySem PySem.Spec PyProof.Rows L2

/-- how a statement ends -/
inductive SO where
  | nx
  | rt (w : Wv)
  | bk
  | ct
def OutS (K : PySem.W.Frag) (Γ : Gm) (W : WX) (F : Fm) (G : Hp) (ts : List (Addr × Con)) (D : Ends) : Option (Rs SO) → Prop
  | none => False
  | some (.ok .nx ss) => ∀ σ' H' G' ρ', Same G G' → Rel K F G' ρ' ts ss σ' H' → D.nx σ' H'
  | some (.ok .bk ss) => ∀ σ' H' G' ρ', Same G G' → Rel K F G' ρ' ts ss σ' H' → D.bk σ' H'
  | some (.ok .ct ss) => ∀ σ' H' G' ρ', Same G G' → Rel K F G' ρ' ts ss σ' H' → D.ct σ' H'
  | some (.ok (.rt w) ss) => ∀ v σ' H' G' ρ', Same G G' → RelW K F G' ρ' ts ss σ' H' w v → D.rt v H'
  | some (.ex x ss) => ∀ σ' H' G' ρ' cls d, Same G G' → Rel K F G' ρ' ts ss σ' H' → XnAt Γ H' x cls d → W cls d σ' H'
def tS (K : PySem.W.Frag) (Γ : Gm) (W : WX) (f : M SO) : TS := fun D σ H => ∃ F G ρ ts ss, Rel K F G ρ ts ss σ H ∧ OutS K Γ W F G ts D (f ss)
def DS (Γ : Gm) (X : Cx) (W : WX) (st : Stmt) (f : M SO) : Prop := PS X st (tS X.K Γ W f)
def DSs (Γ : Gm) (X : Cx) (W : WX) (st : List Stmt) (f : M SO) : Prop := PSs X st (tS X.K Γ W f)

section
variable {K : PySem.W.Frag} {Γ : Gm} {W : WX} {F : Fm} {G G' : Hp} {ρ : Nat → Addr} {ts : List (Addr × Con)} {ss : Sl} {σ : L2.St} {H : Hp}
theorem OutS.mono {D D' : Ends} {r : Option (Rs SO)} (g : Same G G') (h : OutS K Γ W F G ts D r) (hn : ∀ σ H, D.nx σ H → D'.nx σ H) (hr : ∀ v H, D.rt v H → D'.rt v H) (hb : ∀ σ H, D.bk σ H → D'.bk σ H) (hc : ∀ σ H, D.ct σ H → D'.ct σ H) : OutS K Γ W F G' ts D' r := by
  cases r with
  | none => exact h
  | some r =>
    cases r with
    | ex x s => exact fun σ1 H1 G1 ρ1 cls d g1 q => h σ1 H1 G1 ρ1 cls d (g.trans g1) q
    | ok o s =>
      cases o with
      | nx => exact fun σ1 H1 G1 ρ1 g1 q => hn _ _ (h σ1 H1 G1 ρ1 (g.trans g1) q)
      | bk => exact fun σ1 H1 G1 ρ1 g1 q => hb _ _ (h σ1 H1 G1 ρ1 (g.trans g1) q)
      | ct => exact fun σ1 H1 G1 ρ1 g1 q => hc _ _ (h σ1 H1 G1 ρ1 (g.trans g1) q)
      | rt w => exact fun v σ1 H1 G1 ρ1 g1 q => hr _ _ (h v σ1 H1 G1 ρ1 (g.trans g1) q)
theorem OutS.up {D : Ends} {r : Option (Rs SO)} (g : Same G G') (h : OutS K Γ W F G ts D r) : OutS K Γ W F G' ts D r := h.mono g (fun _ _ z => z) (fun _ _ z => z) (fun _ _ z => z) (fun _ _ z => z)
/-- an expression, then a statement's end -/
theorem tS_then {f : M Wv} {op : Wv → M SO} {D : Ends} {Q' : V → Hp → Prop} (h : tS K Γ W (bnd f op) D σ H)
    (k : ∀ F G ρ ts ss H w v, RelW K F G ρ ts ss σ H w v → OutS K Γ W F G ts D (op w ss) → Q' v H) : te K Γ W f σ H Q' := by
  obtain ⟨F, G, ρ, ts, ss, R, q⟩ := h
  refine ⟨F, G, ρ, ts, ss, R, ?_⟩
  unfold bnd at q
  cases e : f ss with
  | none => rw [e] at q; exact q
  | some r =>
    rw [e] at q
    cases r with
    | ok w s => exact fun v H1 G1 ρ1 g1 r => k F G1 ρ1 ts s H1 w v r (OutS.up g1 q)
    | ex x s => exact fun H1 G1 ρ1 cls d g1 R1 xn => q σ H1 G1 ρ1 cls d g1 R1 xn
theorem tS_thenA {f : M (List Wv)} {op : List Wv → M SO} {D : Ends} {Q' : List V → Hp → Prop} (h : tS K Γ W (bnd f op) D σ H)
    (k : ∀ F G ρ ts ss H w v, RelWs K F G ρ ss σ H ts w v → OutS K Γ W F G ts D (op w ss) → Q' v H) : ta K Γ W f σ H Q' := by
  obtain ⟨F, G, ρ, ts, ss, R, q⟩ := h
  refine ⟨F, G, ρ, ts, ss, R, ?_⟩
  unfold bnd at q
  cases e : f ss with
  | none => rw [e] at q; exact q
  | some r =>
    rw [e] at q
    cases r with
    | ok w s => exact fun v H1 G1 ρ1 g1 r => k F G1 ρ1 ts s H1 w v r (OutS.up g1 q)
    | ex x s => exact fun H1 G1 ρ1 cls d g1 R1 xn => q σ H1 G1 ρ1 cls d g1 R1 xn
theorem tS_thenT {f : M Bool} {op : Bool → M SO} {D : Ends} {Q' : Bool → Hp → Prop} (h : tS K Γ W (bnd f op) D σ H)
    (k : ∀ F G ρ ts ss H b, Rel K F G ρ ts ss σ H → OutS K Γ W F G ts D (op b ss) → Q' b H) : tt K Γ W f σ H Q' := by
  obtain ⟨F, G, ρ, ts, ss, R, q⟩ := h
  refine ⟨F, G, ρ, ts, ss, R, ?_⟩
  unfold bnd at q
  cases e : f ss with
  | none => rw [e] at q; exact q
  | some r =>
    rw [e] at q
    cases r with
    | ok w s => exact fun H1 G1 ρ1 g1 r => k F G1 ρ1 ts s H1 w r (OutS.up g1 q)
    | ex x s => exact fun H1 G1 ρ1 cls d g1 R1 xn => q σ H1 G1 ρ1 cls d g1 R1 xn
end

/-! ### blocks -/
def sq (f g : M SO) : M SO := bnd f fun o => match o with
  | .nx => g
  | o => ret o
def sNx : M SO := ret .nx
def sBk : M SO := ret .bk
def sCt : M SO := ret .ct
def sEx (f : M Wv) : M SO := bnd f fun _ => ret .nx
def sRt (f : M Wv) : M SO := bnd f fun w => ret (.rt w)
def sRtN : M SO := ret (.rt (.val .none))
def sIf (t : M Bool) (f g : M SO) : M SO := bnd t fun b => if b = true then f else g
section
variable {K : PySem.W.Frag} {Γ : Gm} {W : WX}
theorem tS_sq {f g : M SO} : ∀ D σ H, tS K Γ W (sq f g) D σ H → tSeq (tS K Γ W f) (tS K Γ W g) D σ H := fun D σ H ⟨F, G, ρ, ts, ss, R, q⟩ => by
  refine ⟨F, G, ρ, ts, ss, R, ?_⟩
  unfold sq bnd at q
  cases e : f ss with
  | none => rw [e] at q; exact q
  | some r =>
    rw [e] at q
    cases r with
    | ex x s => exact q
    | ok o s =>
      cases o with
      | nx => exact fun σ1 H1 G1 ρ1 g1 R1 => ⟨F, G1, ρ1, ts, s, R1, OutS.up g1 q⟩
      | bk => exact q
      | ct => exact q
      | rt w => exact q
theorem tS_nx : ∀ D σ H, tS K Γ W sNx D σ H → tNext D σ H := fun D σ H ⟨F, G, ρ, ts, ss, R, q⟩ => q σ H G ρ (Same.refl G) R
theorem tS_bk : ∀ D σ H, tS K Γ W sBk D σ H → tBreak D σ H := fun D σ H ⟨F, G, ρ, ts, ss, R, q⟩ => q σ H G ρ (Same.refl G) R
theorem tS_ct : ∀ D σ H, tS K Γ W sCt D σ H → tCont D σ H := fun D σ H ⟨F, G, ρ, ts, ss, R, q⟩ => q σ H G ρ (Same.refl G) R
theorem tS_ex {f : M Wv} : ∀ D σ H, tS K Γ W (sEx f) D σ H → tDrop (te K Γ W f) D σ H := fun D σ H q => tS_then q fun F G ρ ts ss H w v r q => q σ H G ρ (Same.refl G) r.rel
theorem tS_rt {f : M Wv} : ∀ D σ H, tS K Γ W (sRt f) D σ H → tRet (te K Γ W f) D σ H := fun D σ H q => tS_then q fun F G ρ ts ss H w v r q => q v σ H G ρ (Same.refl G) r
theorem tS_rtN : ∀ D σ H, tS K Γ W sRtN D σ H → tRetN D σ H := fun D σ H ⟨F, G, ρ, ts, ss, R, q⟩ => q .non σ H G ρ (Same.refl G) ⟨R, .non⟩
theorem tS_if {t : M Bool} {f g : M SO} : ∀ D σ H, tS K Γ W (sIf t f g) D σ H → tIfS (tt K Γ W t) (tS K Γ W f) (tS K Γ W g) D σ H := fun D σ H q => tS_thenT q fun F G ρ ts ss H b R q => by
  cases b with
  | true => exact ⟨F, G, ρ, ts, ss, R, q⟩
  | false => exact ⟨F, G, ρ, ts, ss, R, q⟩
end
section
variable {Γ : Gm} {X : Cx} {W : WX} {st : Stmt} {rest : List Stmt} {f g : M SO} {e c : Expr} {fe : M Wv} {fc : M Bool} {pos : Pos} {a b : List Stmt}
theorem dss_nil : DSs Γ X W [] sNx := PSs_imp pss_nil tS_nx
theorem dss_one (h : DS Γ X W st f) : DSs Γ X W [st] f := pss_one h
theorem dss_cons (h : DS Γ X W st f) (k : DSs Γ X W rest g) : DSs Γ X W (st :: rest) (sq f g) := PSs_imp (pss_cons h k) tS_sq
theorem ds_pass : DS Γ X W (.Pass pos) sNx := PS_imp ps_pass tS_nx
theorem ds_break : DS Γ X W (.Break pos) sBk := PS_imp ps_break tS_bk
theorem ds_cont : DS Γ X W (.Continue pos) sCt := PS_imp ps_continue tS_ct
theorem ds_doc {x j pos'} : DS Γ X W (.Expr (.Constant (.str x) j pos) pos') sNx := PS_imp ps_doc tS_nx
theorem ds_expr (h : DE Γ X W e fe) (hs : swapsWith e none pos.line X.env = pure false := by rfl) : DS Γ X W (.Expr e pos) (sEx fe) := PS_imp (ps_expr h hs) tS_ex
theorem ds_ret (h : DE Γ X W e fe) : DS Γ X W (.Return (some e) pos) (sRt fe) := PS_imp (ps_ret h) tS_rt
theorem ds_retN : DS Γ X W (.Return none pos) sRtN := PS_imp ps_retN tS_rtN
theorem ds_if (hc : DT' Γ X W c fc) (ha : DSs Γ X W a f) (hb : DSs Γ X W b g) : DS Γ X W (.If c a b pos) (sIf fc f g) := PS_imp (ps_if hc ha hb) tS_if
end

/-! ### stores -/
/-- a value goes into slot i; a container moves -/
def setW (i : Nat) (w : Wv) (ss : Sl) : Option Sl := if okSet ss i = true then match w with
  | .val d => some (ss.set i (.val false d))
  | .new c => some (ss.set i (.own false c))
  | .rol _ => none
  | .bor j => if j = i then none else match ss[j]? with
    | some (.val _ d) => some (ss.set i (.val false d))
    | some (.own false c) => some ((ss.set j .un).set i (.own false c))
    | _ => none
  else none
section
variable {K : PySem.W.Frag} {Γ : Gm} {W : WX} {F : Fm} {G : Hp} {ρ : Nat → Addr} {ts : List (Addr × Con)} {ss ss' : Sl} {σ : L2.St} {H : Hp}
theorem setW_ok {i : Nat} {w : Wv} {v : V} (r : RelW K F G ρ ts ss σ H w v) (e : setW i w ss = some ss') : ∃ ρ', Rel K F G ρ' ts ss' (σ.set i (some v)) H := by
  unfold setW at e
  split at e
  · rename_i hk
    have nl := okSet_lk hk
    cases w with
    | val d => cases e; exact ⟨ρ, r.1.setV nl r.2 (fun z => by cases z)⟩
    | new c => cases e; obtain ⟨p, rfl, R⟩ := r; exact ⟨_, R.ofT nl (fun z => by cases z)⟩
    | rol xs => cases e
    | bor j =>
      obtain ⟨R, hv⟩ := r
      dsimp only at e
      split at e
      · cases e
      · rename_i hj
        cases h : ss[j]? with
        | none => rw [h] at e; cases e
        | some s =>
          rw [h] at e
          cases s with
          | un => cases e
          | lk b c => cases e
          | exn a => cases e
          | rol xs => cases e
          | val b d =>
            cases e
            obtain ⟨v', e', q, _⟩ := R.slot j _ h
            rw [hv] at e'; cases e'
            exact ⟨ρ, R.setV nl q (fun z => by cases z)⟩
          | own b c =>
            cases b with
            | true => cases e
            | false =>
              cases e
              have h1 := (R.slot j _ h).1
              rw [hv] at h1; cases h1
              exact ⟨_, (R.toT h).ofT (fun b c z => by rw [List.getElem?_set_ne hj] at z; exact nl b c z) (fun z => by cases z)⟩
  · cases e
end
def asg (i : Nat) (f : M Wv) : M SO := bnd f fun w ss => match setW i w ss with
  | some s => some (.ok .nx s)
  | none => none
/-- .. a container of another name becomes data -/
def asgZ (i : Nat) (f : M Wv) : M SO := bnd f fun w => bnd (frzW w) fun d ss => match setW i (.val d) ss with
  | some s => some (.ok .nx s)
  | none => none
theorem frz_out {K : PySem.W.Frag} {Γ : Gm} {W : WX} {F : Fm} {G : Hp} {ρ : Nat → Addr} {ts : List (Addr × Con)} {ss : Sl} {σ : L2.St} {H : Hp} {D : Ends} {w : Wv} {v : V} {k : DT.D → M SO} (r : RelW K F G ρ ts ss σ H w v) (q : OutS K Γ W F G ts D (bnd (frzW w) k ss)) :
    ∃ d s G', Same G G' ∧ Rel K F G' ρ ts s σ H ∧ Dv K G' v d ∧ OutS K Γ W F G' ts D (k d s) := by
  unfold bnd at q
  split at q
  · exact q.elim
  · rename_i d s h
    obtain ⟨G1, g1, R1, d1⟩ := frzW_ok r h
    exact ⟨d, s, G1, g1, R1, d1, OutS.up g1 q⟩
  · rename_i h; exact absurd h frzW_noex
section
variable {K : PySem.W.Frag} {Γ : Gm} {W : WX}
theorem tS_asg {i : Nat} {f : M Wv} : ∀ D σ H, tS K Γ W (asg i f) D σ H → tAsg (te K Γ W f) (gName i) D σ H := fun D σ H q => tS_then q fun F G ρ ts ss H w v r q => by
  cases e : setW i w ss with
  | none => rw [e] at q; exact q.elim
  | some s =>
    rw [e] at q
    obtain ⟨ρ', R'⟩ := setW_ok r e
    exact q _ H G ρ' (Same.refl G) R'
theorem tS_asgZ {i : Nat} {f : M Wv} : ∀ D σ H, tS K Γ W (asgZ i f) D σ H → tAsg (te K Γ W f) (gName i) D σ H := fun D σ H q => tS_then q fun F G ρ ts ss H w v r q => by
  obtain ⟨d, s, G1, g1, R1, d1, q⟩ := frz_out r q
  cases e : setW i (.val d) s with
  | none => rw [e] at q; exact q.elim
  | some s2 =>
    rw [e] at q
    obtain ⟨ρ', R'⟩ := setW_ok (w := .val d) ⟨R1, d1⟩ e
    exact q _ H G1 ρ' (Same.refl G1) R'
end
section
variable {Γ : Gm} {X : Cx} {W : WX} {e : Expr} {f : M Wv} {pos pos' : Pos} {x : Str}
theorem ds_asg (i : Nat) (hN : X.N.Nodup) (he : DE Γ X W e f) (hi : X.N[i]? = some x := by rfl) (hx : Loc X.env.scope x := by first | exact Or.inl rfl | exact Or.inr rfl) (hs : swapsWith e (some (.Name x pos')) pos.line X.env = pure false := by rfl)
    (hf : X.fn x = true ∨ X.env.scope.names.lookup x = some .local := by first | exact .inl rfl | exact .inr rfl) : DS Γ X W (.Assign [.Name x pos'] e pos) (asg i f) := PS_imp (ps_set hN hi hx he hs hf) tS_asg
theorem ds_asgZ (i : Nat) (hN : X.N.Nodup) (he : DE Γ X W e f) (hi : X.N[i]? = some x := by rfl) (hx : Loc X.env.scope x := by first | exact Or.inl rfl | exact Or.inr rfl) (hs : swapsWith e (some (.Name x pos')) pos.line X.env = pure false := by rfl)
    (hf : X.fn x = true ∨ X.env.scope.names.lookup x = some .local := by first | exact .inl rfl | exact .inr rfl) : DS Γ X W (.Assign [.Name x pos'] e pos) (asgZ i f) := PS_imp (ps_set hN hi hx he hs hf) tS_asgZ
end

/-! ### targets of data -/
/-- data into slots -/
def setDs : List Nat → List D → Sl → Option Sl
  | [], [], ss => some ss
  | i :: is, d :: ds, ss => if okSet ss i = true then setDs is ds (ss.set i (.val false d)) else none
  | _, _, _ => none
def gN (i : Nat) (d : D) (ss : Sl) : Option Sl := setDs [i] [d] ss
def gT (is : List Nat) (d : D) (ss : Sl) : Option Sl := match d with
  | .tuple ds => setDs is ds ss
  | _ => none
def gL (is : List Nat) (d : D) (ss : Sl) : Option Sl := match d with
  | .list ds => setDs is ds ss
  | _ => none
def tG (K : PySem.W.Frag) (is : List Nat) (g : D → Sl → Option Sl) : TG := fun v σ H Q => ∃ F G ρ ts ss d ss', Rel K F G ρ ts ss σ H ∧ Dv K G v d ∧ g d ss = some ss' ∧
  ∀ σ' ρ', Rel K F G ρ' ts ss' σ' H → (∀ j, j ∉ is → σ'[j]? = σ[j]?) → Q σ' H
def DG (X : Cx) (tg : Expr) (is : List Nat) (g : D → Sl → Option Sl) : Prop := PG X tg (tG X.K is g)
theorem PG_imp {X : Cx} {e : Expr} {t t' : TG} (h : PG X e t) (i : ∀ v σ H Q, t' v σ H Q → t v σ H Q) : PG X e t' := ⟨fun pins s σ H v u Q I r hw => h.run pins s σ H v u Q I r (i v σ H Q hw)⟩
/-- names, one after the other -/
def gNs : List Nat → TGs
  | [] => gNil
  | i :: is => gCons (gName i) (gNs is)
theorem gNs_ok {K : PySem.W.Frag} {F : Fm} {G : Hp} {ts : List (Addr × Con)} {H : Hp} : ∀ {is : List Nat} {vs : List V} {ds : List D} {ρ : Nat → Addr} {ss ss' : Sl} {σ : L2.St} {Q : L2.St → Hp → Prop}, Rel K F G ρ ts ss σ H → DvAll K G vs ds → setDs is ds ss = some ss' →
    (∀ σ' ρ', Rel K F G ρ' ts ss' σ' H → (∀ j, j ∉ is → σ'[j]? = σ[j]?) → Q σ' H) → gNs is vs σ H Q
  | [], vs, [], ρ, ss, ss', σ, Q, R, dv, e, k => by cases dv; cases e; exact ⟨rfl, k σ ρ R fun _ _ => rfl⟩
  | i :: is, vs, d :: ds, ρ, ss, ss', σ, Q, R, dv, e, k => by
    unfold setDs at e
    split at e
    · rename_i hk
      cases dv with
      | cons h t =>
        rename_i v vs
        refine ⟨v, vs, rfl, ?_⟩
        have R1 := R.setV (okSet_lk hk) h (b := false) (fun z => by cases z)
        exact gNs_ok R1 t e fun σ' ρ' R' hj => k σ' ρ' R' fun j hn => by
          rw [hj j fun z => hn (List.mem_cons_of_mem _ z), List.getElem?_set_ne fun z => hn (by rw [z]; exact List.mem_cons_self)]
    · cases e
  | [], vs, _ :: _, _, _, _, _, _, _, _, e, _ => by cases e
  | _ :: _, vs, [], _, _, _, _, _, _, _, e, _ => by cases e
theorem tG_name {K : PySem.W.Frag} {i : Nat} : ∀ v σ H Q, tG K [i] (gN i) v σ H Q → gName i v σ H Q := fun v σ H Q ⟨F, G, ρ, ts, ss, d, ss', R, dv, e, k⟩ => by
  unfold gN setDs at e
  split at e
  · rename_i hk
    cases e
    exact k _ ρ (R.setV (okSet_lk hk) dv (b := false) (fun z => by cases z)) fun j hn => List.getElem?_set_ne fun z => hn (by rw [z]; exact List.mem_cons_self)
  · cases e
theorem setDs_len : ∀ {is : List Nat} {ds : List D} {ss ss' : Sl}, setDs is ds ss = some ss' → ds.length = is.length
  | [], [], _, _, _ => rfl
  | i :: is, d :: ds, ss, ss', e => by
    unfold setDs at e
    split at e
    · simp [setDs_len e]
    · cases e
  | [], _ :: _, _, _, e => by cases e
  | _ :: _, [], _, _, e => by cases e
theorem tG_tup {K : PySem.W.Frag} {is : List Nat} : ∀ v σ H Q, tG K is (gT is) v σ H Q → gTup K is.length (gNs is) v σ H Q := fun v σ H Q ⟨F, G, ρ, ts, ss, d, ss', R, dv, e, k⟩ => by
  cases dv with
  | tup hs ha => exact ⟨_, _, rfl, .of (R.sub _ _ hs), ha.length.trans (setDs_len e), gNs_ok R ha e k⟩
  | _ => cases e
theorem tG_unl {K : PySem.W.Frag} {is : List Nat} : ∀ v σ H Q, tG K is (gL is) v σ H Q → gUnl K is.length (gNs is) v σ H Q := fun v σ H Q ⟨F, G, ρ, ts, ss, d, ss', R, dv, e, k⟩ => by
  cases dv with
  | lst hs ha => exact ⟨_, _, rfl, .of (R.sub _ _ hs), ha.length.trans (setDs_len e), gNs_ok R ha e k⟩
  | _ => cases e
section
variable {Γ : Gm} {X : Cx} {W : WX} {pos : Pos} {x : Str} {e : Expr} {es : List Expr} {f : M Wv} {g : D → Sl → Option Sl} {is : List Nat}
theorem dg_name (i : Nat) (hN : X.N.Nodup) (hi : X.N[i]? = some x := by rfl) (hx : Loc X.env.scope x := by first | exact Or.inl rfl | exact Or.inr rfl) (hf : X.fn x = true ∨ X.env.scope.names.lookup x = some .local := by first | exact .inl rfl | exact .inr rfl) : DG X (.Name x pos) [i] (gN i) :=
  PG_imp (pg_name hN hi hx hf) tG_name
theorem dgs_nil : PGs X [] (gNs []) := pgs_nil
theorem dgs_cons (i : Nat) (hN : X.N.Nodup) (h : PGs X es (gNs is)) (hi : X.N[i]? = some x := by rfl) (hx : Loc X.env.scope x := by first | exact Or.inl rfl | exact Or.inr rfl) (hf : X.fn x = true ∨ X.env.scope.names.lookup x = some .local := by first | exact .inl rfl | exact .inr rfl)
    (hs : (assignEach (.Name x pos :: es) X.env).map (·.2) = assign (.Name x pos) X.env :: (assignEach es X.env).map (·.2) := by rfl) : PGs X (.Name x pos :: es) (gNs (i :: is)) := pgs_cons (pg_name hN hi hx hf) h hs
theorem dg_tup {k : Nat} (hc : X.calm = true) (h : PGs X es (gNs is)) (hn : (assignEach es X.env).length = is.length := by rfl) (hst : (assignEach es X.env).findIdx? (·.1) = none := by rfl) : DG X (.Tuple es k pos) is (gT is) := PG_imp (pg_tup hc h hn hst) tG_tup
/-- target = data -/
def asgD (g : D → Sl → Option Sl) (f : M Wv) : M SO := bnd f fun w => bnd (frzW w) fun d ss => match g d ss with
  | some s => some (.ok .nx s)
  | none => none
theorem tS_asgD {K : PySem.W.Frag} : ∀ D σ H, tS K Γ W (asgD g f) D σ H → tAsg (te K Γ W f) (tG K is g) D σ H := fun D σ H q => tS_then q fun F G ρ ts ss H w v r q => by
  obtain ⟨d, s, G1, g1, R1, d1, q⟩ := frz_out r q
  cases e : g d s with
  | none => rw [e] at q; exact q.elim
  | some s2 => rw [e] at q; exact ⟨F, G1, ρ, ts, s, d, s2, R1, d1, e, fun σ' ρ' R' _ => q σ' H G1 ρ' (Same.refl G1) R'⟩
theorem ds_asgD {tg : Expr} (he : DE Γ X W e f) (hg : DG X tg is g) (hs : swapsWithSole [tg] e pos.line X.env = pure false := by rfl) (hw : swappedStores [tg] e X.env = pure none := by rfl)
    (h1 : (assignEach [tg] X.env).map (·.2) = [assign tg X.env] := by rfl) : DS Γ X W (.Assign [tg] e pos) (asgD g f) := PS_imp (ps_asg he hg hs hw h1) tS_asgD
end
/-! ### a, b = x, y -/
def asgP (is : List Nat) (g : M (List Wv)) : M SO := bnd g fun ws => bnd (frzAll ws) fun ds ss => match setDs is ds ss with
  | some s => some (.ok .nx s)
  | none => none
theorem frzs_out {K : PySem.W.Frag} {Γ : Gm} {W : WX} {F : Fm} {G : Hp} {ρ : Nat → Addr} {ts : List (Addr × Con)} {ss : Sl} {σ : L2.St} {H : Hp} {D : Ends} {ws : List Wv} {vs : List V} {k : List DT.D → M SO} (r : RelWs K F G ρ ss σ H ts ws vs) (q : OutS K Γ W F G ts D (bnd (frzAll ws) k ss)) :
    ∃ ds s G', Same G G' ∧ Rel K F G' ρ ts s σ H ∧ DvAll K G' vs ds ∧ OutS K Γ W F G' ts D (k ds s) := by
  unfold bnd at q
  split at q
  · exact q.elim
  · rename_i d s h
    obtain ⟨G1, g1, R1, d1⟩ := frzAll_ok r h
    exact ⟨d, s, G1, g1, R1, d1, OutS.up g1 q⟩
  · rename_i h; exact absurd h frzAll_noex
section
variable {K : PySem.W.Frag} {Γ : Gm} {W : WX}
theorem tS_par {i j : Nat} {g : M (List Wv)} : ∀ D σ H, tS K Γ W (asgP [i, j] g) D σ H → tPar i j (ta K Γ W g) D σ H := fun D σ H q => tS_thenA q fun F G ρ ts ss H ws vs r q => by
  obtain ⟨ds, s, G1, g1, R1, d1, q⟩ := frzs_out r q
  cases e : setDs [i, j] ds s with
  | none => rw [e] at q; exact q.elim
  | some s2 =>
    rw [e] at q
    have hl := setDs_len e
    match ds, vs, d1, e, hl with
    | [a, b], _, .cons h1 (.cons (v := w) h2 .nil), e, _ =>
      refine ⟨_, _, rfl, ?_⟩
      unfold setDs at e
      split at e
      · rename_i k1
        unfold setDs at e
        split at e
        · rename_i k2
          cases e
          exact q _ H G1 ρ (Same.refl G1) ((R1.setV (okSet_lk k1) h1 (b := false) (fun z => by cases z)).setV (okSet_lk k2) h2 (b := false) (fun z => by cases z))
        · cases e
      · cases e
theorem tS_par3 {i j l : Nat} {g : M (List Wv)} : ∀ D σ H, tS K Γ W (asgP [i, j, l] g) D σ H → tPar3 i j l (ta K Γ W g) D σ H := fun D σ H q => tS_thenA q fun F G ρ ts ss H ws vs r q => by
  obtain ⟨ds, s, G1, g1, R1, d1, q⟩ := frzs_out r q
  cases e : setDs [i, j, l] ds s with
  | none => rw [e] at q; exact q.elim
  | some s2 =>
    rw [e] at q
    have hl := setDs_len e
    match ds, vs, d1, e, hl with
    | [a, b, c], _, .cons h1 (.cons h2 (.cons h3 .nil)), e, _ =>
      refine ⟨_, _, _, rfl, ?_⟩
      unfold setDs at e
      split at e
      · rename_i k1
        unfold setDs at e
        split at e
        · rename_i k2
          unfold setDs at e
          split at e
          · rename_i k3
            cases e
            exact q _ H G1 ρ (Same.refl G1) (((R1.setV (okSet_lk k1) h1 (b := false) (fun z => by cases z)).setV (okSet_lk k2) h2 (b := false) (fun z => by cases z)).setV (okSet_lk k3) h3 (b := false) (fun z => by cases z))
          · cases e
        · cases e
      · cases e
end
section
variable {Γ : Gm} {X : Cx} {W : WX} {a b c : Expr} {g : M (List Wv)} {pos px py pz pt : Pos} {x y z : Str} {kt k2 pt2}
theorem ds_par (i j : Nat) (hc : X.calm = true) (hN : X.N.Nodup) (ha : DA Γ X W [a, b] g) (hi : X.N[i]? = some x := by rfl) (hj : X.N[j]? = some y := by rfl) (hij : i ≠ j := by decide) (hx : X.env.scope.names.lookup x = some .local := by rfl) (hy : X.env.scope.names.lookup y = some .local := by rfl)
    (hw : swappedStores [.Tuple [.Name x px, .Name y py] kt pt] (.Tuple [a, b] k2 pt2) X.env = pure (some [x, y]) := by rfl) (hs : swapsWithSole [.Tuple [.Name x px, .Name y py] kt pt] (.Tuple [a, b] k2 pt2) pos.line X.env = pure false := by rfl) :
    DS Γ X W (.Assign [.Tuple [.Name x px, .Name y py] kt pt] (.Tuple [a, b] k2 pt2) pos) (asgP [i, j] g) := PS_imp (ps_par hc hN hi hj hij hx hy ha hw hs) tS_par
theorem ds_par3 (i j l : Nat) (hc : X.calm = true) (hN : X.N.Nodup) (ha : DA Γ X W [a, b, c] g) (hi : X.N[i]? = some x := by rfl) (hj : X.N[j]? = some y := by rfl) (hl : X.N[l]? = some z := by rfl) (hij : i ≠ j := by decide) (hil : i ≠ l := by decide) (hjl : j ≠ l := by decide) (hx : X.env.scope.names.lookup x = some .local := by rfl) (hy : X.env.scope.names.lookup y = some .local := by rfl) (hz : X.env.scope.names.lookup z = some .local := by rfl)
    (hw : swappedStores [.Tuple [.Name x px, .Name y py, .Name z pz] kt pt] (.Tuple [a, b, c] k2 pt2) X.env = pure (some [x, y, z]) := by rfl) (hs : swapsWithSole [.Tuple [.Name x px, .Name y py, .Name z pz] kt pt] (.Tuple [a, b, c] k2 pt2) pos.line X.env = pure false := by rfl) :
    DS Γ X W (.Assign [.Tuple [.Name x px, .Name y py, .Name z pz] kt pt] (.Tuple [a, b, c] k2 pt2) pos) (asgP [i, j, l] g) := PS_imp (ps_par3 hc hN hi hj hl hij hil hjl hx hy hz ha hw hs) tS_par3
end
/-! ### x op= e -/
def augN (i : Nat) (f : M Wv) (op : Wv → Wv → M Wv) : M SO := fun ss => match ss[i]? with
  | some (.val false d) => bnd f (fun u => bnd (op (.val d) u) fun w ss => match setW i w ss with
    | some s => some (.ok .nx s)
    | none => none) ss
  | _ => none
section
variable {Γ : Gm} {X : Cx} {W : WX} {e : Expr} {f : M Wv} {pos pos' : Pos} {x : Str} {o : Wv → Wv → M Wv} {r : R2} {op : Operator}
theorem tS_aug {K : PySem.W.Frag} {i : Nat} (ho : OpOk K o r) : ∀ D σ H, tS K Γ W (augN i f o) D σ H → tAug i (te K Γ W f) r D σ H := fun D σ H ⟨F, G, ρ, ts, ss, R, q⟩ => by
  unfold augN at q
  split at q
  · rename_i d e1
    obtain ⟨v, hv, dv, _⟩ := R.slot i _ e1
    refine ⟨v, hv, F, G, ρ, ts, ss, R, ?_⟩
    unfold bnd at q
    cases e : f ss with
    | none => rw [e] at q; exact q
    | some rr =>
      rw [e] at q
      cases rr with
      | ex x s => exact fun H1 G1 ρ1 cls d g1 R1 xn => q σ H1 G1 ρ1 cls d g1 R1 xn
      | ok u s =>
        intro y H1 G1 ρ1 g1 ry
        refine ho Γ W F G1 ρ1 ts s σ H1 (.val d) u v y _ ⟨dv.mono g1, ry.to1⟩ ?_
        dsimp only at q
        cases e2 : o (.val d) u s with
        | none => rw [e2] at q; exact q
        | some r3 =>
          rw [e2] at q
          cases r3 with
          | ex x s3 => exact fun H3 G3 ρ3 cls d g3 R3 xn => q σ H3 G3 ρ3 cls d (g1.trans g3) R3 xn
          | ok z s3 =>
            intro zv H3 G3 ρ3 g3 rz
            dsimp only at q
            cases e4 : setW i z s3 with
            | none => rw [e4] at q; exact q.elim
            | some s4 =>
              rw [e4] at q
              obtain ⟨ρ4, R4⟩ := setW_ok rz e4
              exact q _ H3 G3 ρ4 (g1.trans g3) R4
  · exact q.elim
theorem ds_aug (i : Nat) (hN : X.N.Nodup) (ho : OpR X (inplaceOp op) r) (hk : OpOk X.K o r) (he : DE Γ X W e f) (hi : X.N[i]? = some x := by rfl) (hx : Loc X.env.scope x := by first | exact Or.inl rfl | exact Or.inr rfl)
    (hf : X.fn x = true ∨ X.env.scope.names.lookup x = some .local := by first | exact .inl rfl | exact .inr rfl) : DS Γ X W (.AugAssign (.Name x pos') op e pos) (augN i f o) := PS_imp (ps_aug hN hi hx he ho hf) (tS_aug hk)
end
end DT
/-! DT: what changes a container; loops -/
namespace DT
open PySem PySem.Spec PyProof.Rows L2

section
variable {K : PySem.W.Frag} {Γ : Gm} {W : WX} {F : Fm} {G : Hp} {ρ : Nat → Addr} {ts : List (Addr × Con)} {ss ss' : Sl} {σ : L2.St} {H : Hp}
/-- slot i's container changes -/
theorem Rel.mutS {i : Nat} {b : Bool} {c c' : Con} {o : HO} (R : Rel K F G ρ ts ss σ H) (h : ss[i]? = some (.own b c)) (hc : ConAt K G c' o) : Rel K F G (rup ρ i (ρ i)) ts (ss.set i (.own b c')) σ (upd H (ρ i) o) := by
  obtain ⟨h1, h2, _⟩ := R.slot i _ h
  have hi := (List.getElem?_eq_some_iff.mp h).1
  have R2 := ((R.toT h).mutT hc).ofT (i := i) (b := b) (fun b c e => by rw [List.getElem?_set_self hi] at e; cases e) h2
  rw [List.set_set, set_id h1] at R2
  exact R2
end

theorem ref_inj {a b : Addr} (h : (some (some (V.ref a)) : Option (Option V)) = some (some (.ref b))) : a = b := V.ref.inj (Option.some.inj (Option.some.inj h))
/-! ### methods of a slot's container -/
/-- op: from the arguments and the container the new container and the answer -/
abbrev MOp := List D → Con → Option (Con × D)
def mth (i : Nat) (g : M (List Wv)) (op : MOp) : M Wv := fun ss => match ss[i]? with
  | some (.own _ _) => bnd g (fun ws => bnd (frzAll ws) fun ds ss => match ss[i]? with
    | some (.own b c) => match op ds c with
      | some (c', d) => some (.ok (.val d) (ss.set i (.own b c')))
      | none => none
    | _ => none) ss
  | _ => none
/-- the method's rule by values keeps what op says -/
def MthOk (K : PySem.W.Frag) (op : MOp) (r : V → List V → Hp → VK → Prop) : Prop := ∀ (G H : Hp) (a : Addr) (o : HO) (c c' : Con) (xs : List V) (ds : List D) (d : D) (Q : VK), Same G H → H a = some o → ConAt K G c o → DvAll K G xs ds → op ds c = some (c', d) →
  (∀ o' v, ConAt K G c' o' → Dv K G v d → Q v (upd H a o')) → r (.ref a) xs H Q
def isLst : Con → Bool
  | .lst _ => true
  | _ => false
theorem frzO_out {K : PySem.W.Frag} {Γ : Gm} {W : WX} {F : Fm} {G : Hp} {ρ : Nat → Addr} {ts : List (Addr × Con)} {ss : Sl} {σ : L2.St} {H : Hp} {Q : VK} {ws : List Wv} {vs : List V} {k : List DT.D → M Wv} (r : RelWs K F G ρ ss σ H ts ws vs) (q : OutE K Γ W F G ts σ Q (bnd (frzAll ws) k ss)) :
    ∃ ds s G', Same G G' ∧ Rel K F G' ρ ts s σ H ∧ DvAll K G' vs ds ∧ OutE K Γ W F G' ts σ Q (k ds s) := by
  unfold bnd at q
  split at q
  · exact q.elim
  · rename_i d s h
    obtain ⟨G1, g1, R1, d1⟩ := frzAll_ok r h
    exact ⟨d, s, G1, g1, R1, d1, OutE.mono g1 (fun _ _ z => z) q⟩
  · rename_i h; exact absurd h frzAll_noex
/-- what the receiver is -/
def TyOk (K : PySem.W.Frag) (T : String) (P : Con → Bool) : Prop := ∀ (G H : Hp) (a : Addr) (o : HO) (c : Con), P c = true → H a = some o → ConAt K G c o → tyV K T (.ref a) H
theorem ty_list {K : PySem.W.Frag} : TyOk K "list" isLst := fun G H a o c h e k => by
  cases c with
  | lst xs => obtain ⟨vs, rfl, _⟩ := k.lst_inv; exact .inl ⟨rfl, vs, .of e⟩
  | dK _ => cases h
  | dT _ => cases h
theorem ty_dict {K : PySem.W.Frag} : TyOk K "dict" isDic := fun G H a o c h e k => by
  cases c with
  | lst xs => cases h
  | dK kvs => obtain ⟨vs, rfl, _⟩ := k.dK_inv; exact .inr (.inr (.inl ⟨rfl, .inl ⟨vs, e⟩⟩))
  | dT kvs => obtain ⟨vs, rfl, _⟩ := k.dT_inv; exact .inr (.inr (.inl ⟨rfl, .inr ⟨vs, e⟩⟩))
def mthP (P : Con → Bool) (i : Nat) (g : M (List Wv)) (op : MOp) : M Wv := fun ss => match ss[i]? with
  | some (.own _ c) => if P c = true then mth i g op ss else none
  | _ => none
section
variable {K : PySem.W.Frag} {Γ : Gm} {W : WX}
theorem te_mth {T : String} {P : Con → Bool} {i : Nat} {g : M (List Wv)} {op : MOp} {r : V → List V → Hp → VK → Prop} (hT : TyOk K T P) (ho : MthOk K op r) : ∀ σ H Q, te K Γ W (mthP P i g op) σ H Q → tBM K T r (tVar i) (ta K Γ W g) σ H Q := fun σ H Q ⟨F, G, ρ, ts, ss, R, q⟩ => by
  unfold mthP at q
  split at q
  · rename_i b c e
    split at q
    · rename_i hP
      obtain ⟨h1, h2, o, h3, h4⟩ := R.slot i _ e
      refine ⟨_, h1, hT G H _ o c hP h3 h4, F, G, ρ, ts, ss, R, ?_⟩
      unfold mth at q
      rw [e] at q
      dsimp only at q
      unfold bnd at q
      cases e2 : g ss with
      | none => rw [e2] at q; exact q
      | some rr =>
        rw [e2] at q
        cases rr with
        | ex x s => exact q
        | ok ws s =>
          intro vs H1 G1 ρ1 g1 r1
          obtain ⟨ds, s2, G2, g2, R2, d2, q2⟩ := frzO_out r1 (OutE.mono g1 (fun _ _ z => z) q)
          split at q2
          · rename_i b' c2 e3
            split at q2
            · rename_i c' d e4
              obtain ⟨k1, k2, o2, k3, k4⟩ := R2.slot i _ e3
              have ep := ref_inj (h1.symm.trans k1)
              rw [ep]
              exact ho G2 H1 _ o2 c2 c' vs ds d Q R2.sub k3 k4 d2 e4 fun o' v hc hd => q2 v _ G2 _ (Same.refl G2) ⟨R2.mutS e3 hc, hd⟩
            · exact q2.elim
          · exact q2.elim
    · exact q.elim
  · exact q.elim
theorem te_mth0 {T : String} {P : Con → Bool} {i : Nat} {op : MOp} {r : V → List V → Hp → VK → Prop} (hT : TyOk K T P) (ho : MthOk K op r) : ∀ σ H Q, te K Γ W (mthP P i anil op) σ H Q → tBM0 K T r (tVar i) σ H Q := fun σ H Q q => by
  obtain ⟨v, h1, h2, h3⟩ := te_mth hT ho σ H Q q
  obtain ⟨F, G, ρ, ts, ss, R, q⟩ := h3
  exact ⟨v, h1, h2, q [] H G ρ (Same.refl G) R⟩
end
section
variable {Γ : Gm} {X : Cx} {W : WX} {x : Str} {e : Expr} {es : List Expr} {g : M (List Wv)} {name : Str} {p apos cpos : Pos} {T id : String} {r : V → List V → Hp → VK → Prop} {op : MOp} {P : Con → Bool}
theorem de_mth (i : Nat) (pa : PlainAttrs T) (slot : PySem.Slot T name id) (hty : typeOf (.builtin id) = pure (.type "method_descriptor")) (hm : MtR X id r) (hT : TyOk X.K T P) (ho : MthOk X.K op r) (ha : DA Γ X W (e :: es) g)
    (hN : X.N[i]? = some x := by rfl) (hv : Vis X.env.scope x := by first | exact Or.inl rfl | exact Or.inr (Or.inl rfl) | exact Or.inr (Or.inr rfl)) (hd : (x == ("__debug__" : Str)) = false := by decide) (hcd : (x == ("__classdict__" : Str)) = false := by decide)
    (hbase : attributeBase (.Name x p) name X.env (eval (.Name x p) X.env) = eval (.Name x p) X.env := by rfl)
    (hfew : ((backTo cpos (starEach (e :: es) X.env)).all (fun x => !x.1) && (backToKw cpos (keywordEach [] X.env)).all (fun x => x.1.isSome)
      && decide ((e :: es).length + ([] : List Keyword).length + (if ([] : List Keyword).isEmpty then 0 else 1) < 30)) = true := by rfl)
    (hline : (apos.endLine == cpos.line) = true := by rfl) (hs : starEach (e :: es) X.env = (false, eval e X.env) :: starEach es X.env := by rfl) (hplain : (backTo cpos (starEach es X.env)).any (·.1) = false := by rfl) :
    DE Γ X W (.Call (.Attribute (.Name x p) name apos) (e :: es) [] cpos) (mthP P i g op) := PE_imp (pe_bm pa slot hty hm (pe_var hN hv hd hcd) ha hbase hfew hline hs hplain) (te_mth hT ho)
theorem de_mth0 (i : Nat) (pa : PlainAttrs T) (slot : PySem.Slot T name id) (hty : typeOf (.builtin id) = pure (.type "method_descriptor")) (hm : MtR X id r) (hT : TyOk X.K T P) (ho : MthOk X.K op r)
    (hN : X.N[i]? = some x := by rfl) (hv : Vis X.env.scope x := by first | exact Or.inl rfl | exact Or.inr (Or.inl rfl) | exact Or.inr (Or.inr rfl)) (hd : (x == ("__debug__" : Str)) = false := by decide) (hcd : (x == ("__classdict__" : Str)) = false := by decide)
    (hbase : attributeBase (.Name x p) name X.env (eval (.Name x p) X.env) = eval (.Name x p) X.env := by rfl) (hline : (apos.endLine == cpos.line) = true := by rfl) :
    DE Γ X W (.Call (.Attribute (.Name x p) name apos) [] [] cpos) (mthP P i anil op) := PE_imp (pe_bm0 pa slot hty hm (pe_var hN hv hd hcd) hbase hline) (te_mth0 hT ho)
end
def oAppend : MOp := fun ds c => match ds, c with
  | [d], .lst xs => if decide (xs.length < 16777216) = true then some (.lst (xs ++ [d]), .none) else none
  | _, _ => none
def oExtend : MOp := fun ds c => match ds, c with
  | [.list ys], .lst xs => if szOk (xs.length + ys.length) = true then some (.lst (xs ++ ys), .none) else none
  | _, _ => none
def oPop : MOp := fun ds c => match ds, c with
  | [], .lst xs => match xs[xs.length - 1]? with
    | some d => some (.lst xs.dropLast, d)
    | none => none
  | _, _ => none
def oReverse : MOp := fun ds c => match ds, c with
  | [], .lst xs => some (.lst xs.reverse, .none)
  | _, _ => none
theorem ltLine {n : Nat} (h : decide (n < 16777216) = true) : n < sizeLine := by rw [sizeLine_eq]; exact of_decide_eq_true h
section
variable {K : PySem.W.Frag}
theorem ok_append : MthOk K oAppend rAppend := fun G H a o c c' xs ds d Q s h k dv e q => by
  unfold oAppend at e
  split at e
  · rename_i y ys
    split at e
    · rename_i hz
      cases e
      cases dv with
      | cons h1 t =>
        cases t
        obtain ⟨vs, rfl, kv⟩ := k.lst_inv
        exact ⟨a, vs, _, rfl, rfl, h, by rw [kv.length]; exact ltLine hz, q (.lst _) .non (kv.append (.cons h1 .nil)) .non⟩
    · cases e
  · cases e
theorem ok_extend : MthOk K oExtend rExtend := fun G H a o c c' xs ds d Q s h k dv e q => by
  unfold oExtend at e
  split at e
  · rename_i ys us
    split at e
    · rename_i hz
      cases e
      cases dv with
      | cons h1 t =>
        cases t
        cases h1 with
        | lst hb hd =>
          obtain ⟨vs, rfl, kv⟩ := k.lst_inv
          exact ⟨a, _, vs, _, rfl, rfl, h, s _ _ hb, by rw [kv.length, hd.length]; exact szOk_le hz, q (.lst _) .non (kv.append hd) .non⟩
    · cases e
  · cases e
theorem ok_pop : MthOk K oPop rPop := fun G H a o c c' xs ds d Q s h k dv e q => by
  unfold oPop at e
  split at e
  · rename_i ys
    split at e
    · rename_i y hy
      cases e
      cases dv
      obtain ⟨vs, rfl, kv⟩ := k.lst_inv
      rw [← kv.length] at hy
      obtain ⟨v, hv, dv⟩ := kv.get' hy
      exact ⟨a, vs, v, rfl, rfl, h, hv, q (.lst _) v kv.dropLast dv⟩
    · cases e
  · cases e
theorem ok_reverse : MthOk K oReverse rReverse := fun G H a o c c' xs ds d Q s h k dv e q => by
  unfold oReverse at e
  split at e
  · cases e
    cases dv
    obtain ⟨vs, rfl, kv⟩ := k.lst_inv
    exact ⟨a, vs, rfl, rfl, h, q (.lst _) .non kv.reverse .non⟩
  · cases e
end
/-! ### xs[i] = v, xs[i] op= v of a slot's list -/
def setIx (i : Nat) (fv fi : M Wv) : M SO := bnd fv fun w => bnd (frzW w) fun d ss => match ss[i]? with
  | some (.own _ (.lst _)) => bnd fi (fun u ss => match intV ss u, ss[i]? with
    | some k, some (.own b (.lst xs)) => match ixN xs.length k with
      | some j => some (.ok .nx (ss.set i (.own b (.lst (xs.set j d)))))
      | none => none
    | _, _ => none) ss
  | _ => none
section
variable {K : PySem.W.Frag} {Γ : Gm} {W : WX}
theorem tS_setIx {i : Nat} {fv fi : M Wv} : ∀ D σ H, tS K Γ W (setIx i fv fi) D σ H → tAsg (te K Γ W fv) (gSub (tVar i) (te K Γ W fi) rSetL) D σ H := fun D σ H q => tS_then q fun F G ρ ts ss H w v r q => by
  obtain ⟨d, s, G1, g1, R1, d1, q⟩ := frz_out r q
  split at q
  · rename_i b xs e
    obtain ⟨h1, h2, o, h3, h4⟩ := R1.slot i _ e
    refine ⟨_, h1, F, G1, ρ, ts, s, R1, ?_⟩
    unfold bnd at q
    cases e2 : fi s with
    | none => rw [e2] at q; exact q
    | some rr =>
      rw [e2] at q
      cases rr with
      | ex x s => exact fun H1 G1 ρ1 cls d g1 R1 xn => q σ H1 G1 ρ1 cls d g1 R1 xn
      | ok u s2 =>
        intro y H2 G2 ρ2 g2 ry
        dsimp only at q
        split at q
        · rename_i k b' xs' e3 e4
          split at q
          · rename_i j e5
            have R2 := ry.rel
            have ey := intV_pk e3 fun k => (ry.to1).pk1
            subst ey
            obtain ⟨k1, k2, o2, k3, k4⟩ := R2.slot i _ e4
            have ep := ref_inj (h1.symm.trans k1)
            obtain ⟨vs, rfl, kv⟩ := k4.lst_inv
            rw [ep]
            exact ⟨_, vs, k, j, rfl, rfl, k3, by rw [kv.length]; exact e5, q σ _ G2 _ g2 (R2.mutS e4 (c' := .lst (xs'.set j d)) (o := .lst (vs.set j v)) (kv.set j (d1.mono g2)))⟩
          · exact q.elim
        · exact q.elim
  · exact q.elim
/-- xs[i] op= v -/
def augIx (i : Nat) (fi fv : M Wv) (op : Wv → Wv → M Wv) : M SO := fun ss => match ss[i]? with
  | some (.own _ (.lst _)) => bnd fi (fun u ss => match intV ss u, ss[i]? with
    | some k, some (.own _ (.lst xs)) => match atI xs k with
      | some d => bnd fv (fun w => bnd (op (.val d) w) fun z => bnd (frzW z) fun d' ss => match ss[i]? with
        | some (.own b (.lst xs)) => match ixN xs.length k with
          | some j => some (.ok .nx (ss.set i (.own b (.lst (xs.set j d')))))
          | none => none
        | _ => none) ss
      | none => none
    | _, _ => none) ss
  | _ => none
theorem tS_augIx {i : Nat} {fi fv : M Wv} {o : Wv → Wv → M Wv} {r : R2} (ho : OpOk K o r) : ∀ D σ H, tS K Γ W (augIx i fi fv o) D σ H → tAugS (tVar i) (te K Γ W fi) (te K Γ W fv) (rIxL K) r rSetL D σ H := fun D σ H ⟨F, G, ρ, ts, ss, R, q⟩ => by
  unfold augIx at q
  split at q
  · rename_i b xs e
    obtain ⟨h1, h2, oo, h3, h4⟩ := R.slot i _ e
    refine ⟨_, h1, F, G, ρ, ts, ss, R, ?_⟩
    unfold bnd at q
    cases e2 : fi ss with
    | none => rw [e2] at q; exact q
    | some rr =>
      rw [e2] at q
      cases rr with
      | ex x s => exact fun H1 G1 ρ1 cls d g1 R1 xn => q σ H1 G1 ρ1 cls d g1 R1 xn
      | ok u s2 =>
        intro y H2 G2 ρ2 g2 ry
        dsimp only at q
        split at q
        · rename_i k b' xs' e3 e4
          split at q
          · rename_i d e5
            have R2 := ry.rel
            have ey := intV_pk e3 fun k => (ry.to1).pk1
            subst ey
            obtain ⟨k1, k2, o2, k3, k4⟩ := R2.slot i _ e4
            have ep := ref_inj (h1.symm.trans k1)
            obtain ⟨vs, rfl, kv⟩ := k4.lst_inv
            obtain ⟨v, e6, dv⟩ := atI_dv kv e5
            refine ⟨_, vs, k, v, rfl, rfl, .of (by rw [ep]; exact k3), e6, F, G2, ρ2, ts, s2, R2, ?_⟩
            cases e7 : fv s2 with
            | none => rw [e7] at q; exact q
            | some r7 =>
              rw [e7] at q
              cases r7 with
              | ex x s => exact fun H1 G1 ρ1 cls d g1 R1 xn => q σ H1 G1 ρ1 cls d (g2.trans g1) R1 xn
              | ok w s7 =>
                intro yv H7 G7 ρ7 g7 r7
                refine ho Γ W F G7 ρ7 ts s7 σ H7 (.val d) w v yv _ ⟨dv.mono g7, r7.to1⟩ ?_
                dsimp only at q
                cases e8 : o (.val d) w s7 with
                | none => rw [e8] at q; exact q
                | some r8 =>
                  rw [e8] at q
                  cases r8 with
                  | ex x s => exact fun H1 G1 ρ1 cls d g1 R1 xn => q σ H1 G1 ρ1 cls d ((g2.trans g7).trans g1) R1 xn
                  | ok z s8 =>
                    intro zv H8 G8 ρ8 g8 r8
                    obtain ⟨d', s9, G9, g9, R9, d9, q9⟩ := frz_out r8 (OutS.up ((g2.trans g7).trans g8) q)
                    split at q9
                    · rename_i b9 xs9 e9
                      split at q9
                      · rename_i j e10
                        obtain ⟨l1, l2, o9, l3, l4⟩ := R9.slot i _ e9
                        have ep9 := ref_inj (h1.symm.trans l1)
                        rw [ep9]
                        obtain ⟨vs9, rfl, kv9⟩ := l4.lst_inv
                        exact ⟨_, vs9, k, j, rfl, rfl, l3, by rw [kv9.length]; exact e10, q9 σ _ G9 _ (Same.refl G9) (R9.mutS e9 (c' := .lst (xs9.set j d')) (o := .lst (vs9.set j zv)) (kv9.set j d9))⟩
                      · exact q9.elim
                    · exact q9.elim
          · exact q.elim
        · exact q.elim
  · exact q.elim
end
/-- xs[i] by values -/
theorem get_listR {X : Cx} : PGet X (rIxL X.K) := by
  intro pins s σ H o i ov iv Q I ro ri hyp
  obtain ⟨p, xs, k, v, rfl, rfl, hS, hat, fin⟩ := hyp
  cases ro
  obtain ⟨t, rfl⟩ := ri
  obtain ⟨its, rI, pl, hz⟩ := I.list hS
  obtain ⟨j, hj, hx, hlt, lo, hi⟩ := atI_get hat
  obtain ⟨u, hu, ru⟩ := rI.get hx
  have hl := rI.length
  have h63 := line63
  have done : EP X pins σ Q u s := ⟨v, H, I, ru, fin⟩
  by_cases h0 : 0 ≤ k
  · have e1 : k.toNat = j := by
      rw [seqIndex_of h0 hi] at hj
      exact Option.some.inj hj
    exact PySem.wpAny_getItem_list pl.isList h0 (by omega) (by rw [e1]; simpa using hu) done
  · have e1 : (k + (its.toArray.size : Int)).toNat = j := by
      rw [seqIndex_neg (by omega) lo] at hj
      rw [List.size_toArray, ← hl]
      exact Option.some.inj hj
    exact PySem.wpAny_getItem_list_neg pl.isList (by omega) (by rw [List.size_toArray] <;> omega) (by omega) (by rw [e1]; simpa using hu) done
section
variable {Γ : Gm} {X : Cx} {W : WX} {e ie : Expr} {fv fi : M Wv} {pos pos' p : Pos} {x : Str} {o : Wv → Wv → M Wv} {r : R2} {op : Operator}
theorem ds_setIx (i : Nat) (he : DE Γ X W e fv) (hi : DE Γ X W ie fi) (hN : X.N[i]? = some x := by rfl) (hv : Vis X.env.scope x := by first | exact Or.inl rfl | exact Or.inr (Or.inl rfl) | exact Or.inr (Or.inr rfl)) (hd : (x == ("__debug__" : Str)) = false := by decide) (hcd : (x == ("__classdict__" : Str)) = false := by decide)
    (hs : swapsWithSole [.Subscript (.Name x p) ie pos'] e pos.line X.env = pure false := by rfl) (hw : swappedStores [.Subscript (.Name x p) ie pos'] e X.env = pure none := by rfl)
    (h1 : (assignEach [.Subscript (.Name x p) ie pos'] X.env).map (·.2) = [assign (.Subscript (.Name x p) ie pos') X.env] := by rfl)
    (ha : ∀ v, assign (.Subscript (.Name x p) ie pos') X.env v = (do
      let ov ← holding [v] (eval (.Name x p) X.env)
      let iv ← holding [v, ov] (eval ie X.env)
      standAt pos'
      holding [v, ov, iv] (setItem ov iv v)
      release [v, ov, iv] []) := by intro _; rfl) : DS Γ X W (.Assign [.Subscript (.Name x p) ie pos'] e pos) (setIx i fv fi) :=
  PS_imp (ps_asg he (pg_sub (pe_var hN hv hd hcd) hi set_list ha) hs hw h1) tS_setIx
theorem ds_augIx (i : Nat) (ho : OpR X (inplaceOp op) r) (hk : OpOk X.K o r) (hi : DE Γ X W ie fi) (he : DE Γ X W e fv) (hN : X.N[i]? = some x := by rfl) (hv : Vis X.env.scope x := by first | exact Or.inl rfl | exact Or.inr (Or.inl rfl) | exact Or.inr (Or.inr rfl)) (hd : (x == ("__debug__" : Str)) = false := by decide) (hcd : (x == ("__classdict__" : Str)) = false := by decide)
    (ha : ∀ ov iv new, augStore ie ov iv new = (do holding [new, ov, iv] (setItem ov iv new); release [new, ov, iv] []; pure .next) := by intros; rfl) : DS Γ X W (.AugAssign (.Subscript (.Name x p) ie pos') op e pos) (augIx i fi fv o) :=
  PS_imp (ps_augS (pe_var hN hv hd hcd) hi get_listR he ho set_list ha) (tS_augIx hk)
end
end DT
/-! DT: loops and comprehensions -/
namespace DT
open PySem PySem.Spec PyProof.Rows L2

/-- an iterator over data -/
def Wlk (K : PySem.W.Frag) (F : Fm) (G0 : Hp) (J : It) (items : List D) : Prop := ∀ (G : Hp) (ρ : Nat → Addr) (ts : List (Addr × Con)) (ss : Sl) (σ : L2.St) (H : Hp) (i : Nat), Same G0 G → Rel K F G ρ ts ss σ H →
  (∀ d, items[i]? = some d → J.go i H ∧ ∀ x H', J.yld i H x H' → ∃ G', Same G G' ∧ Rel K F G' ρ ts ss σ H' ∧ Dv K G' x d) ∧ (items.length ≤ i → J.stop i H)
def OutI (K : PySem.W.Frag) (Γ : Gm) (W : WX) (F : Fm) (G : Hp) (ts : List (Addr × Con)) (σ : L2.St) (R : It → Hp → Prop) : Option (Rs (List D)) → Prop
  | none => False
  | some (.ok items ss) => ∀ J H' G' ρ', Same G G' → Rel K F G' ρ' ts ss σ H' → Wlk K F G' J items → R J H'
  | some (.ex x ss) => ∀ H' G' ρ' cls d, Same G G' → Rel K F G' ρ' ts ss σ H' → XnAt Γ H' x cls d → W cls d σ H'
def tI (K : PySem.W.Frag) (Γ : Gm) (W : WX) (f : M (List D)) : TI := fun σ H R => ∃ F G ρ ts ss, Rel K F G ρ ts ss σ H ∧ OutI K Γ W F G ts σ R (f ss)
def DI (Γ : Gm) (X : Cx) (W : WX) (tg iter : Expr) (f : M (List D)) : Prop := PI X tg iter (tI X.K Γ W f)
theorem PI_imp {X : Cx} {tg it : Expr} {t t' : TI} (h : PI X tg it t) (i : ∀ σ H R, t' σ H R → t σ H R) : PI X tg it t' := ⟨fun pins s σ H R I hw => h.run pins s σ H R I (i σ H R hw)⟩

/-! ### for -/
def loopF (g : D → Sl → Option Sl) (body : M SO) : List D → M SO
  | [] => sNx
  | d :: ds => fun ss => match g d ss with
    | none => none
    | some s => match body s with
      | none => none
      | some (.ex x s) => some (.ex x s)
      | some (.ok .nx s) => loopF g body ds s
      | some (.ok .ct s) => loopF g body ds s
      | some (.ok .bk s) => some (.ok .nx s)
      | some (.ok (.rt w) s) => some (.ok (.rt w) s)
def forM (fi : M (List D)) (g : D → Sl → Option Sl) (body : M SO) : M SO := bnd fi (loopF g body)
section
variable {K : PySem.W.Frag} {Γ : Gm} {W : WX}
theorem tS_for {fi : M (List D)} {is : List Nat} {g : D → Sl → Option Sl} {body : M SO} : ∀ D σ H, tS K Γ W (forM fi g body) D σ H → tFor (tI K Γ W fi) (tG K is g) (tS K Γ W body) D σ H := fun Ds σ H ⟨F, G, ρ, ts, ss, R, q⟩ => by
  refine ⟨F, G, ρ, ts, ss, R, ?_⟩
  unfold forM bnd at q
  cases e : fi ss with
  | none => rw [e] at q; exact q
  | some r =>
    rw [e] at q
    cases r with
    | ex x s => exact fun H1 G1 ρ1 cls d g1 R1 xn => q σ H1 G1 ρ1 cls d g1 R1 xn
    | ok items s =>
      intro J H1 G1 ρ1 g1 R1 wk
      refine ⟨fun i m σ H => m = items.length - i ∧ i ≤ items.length ∧ ∃ G ρ ss, Same G1 G ∧ Rel K F G ρ ts ss σ H ∧ OutS K Γ W F G ts Ds (loopF g body (items.drop i) ss), ⟨items.length, rfl, Nat.zero_le _, G1, ρ1, s, Same.refl G1, R1, OutS.up g1 q⟩, ?_⟩
      rintro i m σ H ⟨rfl, hi, G2, ρ2, s2, g2, R2, q2⟩
      obtain ⟨w1, w2⟩ := wk G2 ρ2 ts s2 σ H i g2 R2
      by_cases hlt : i < items.length
      · have hd : items[i]? = some items[i] := List.getElem?_eq_getElem hlt
        obtain ⟨go, yl⟩ := w1 _ hd
        rw [List.drop_eq_getElem_cons hlt] at q2
        refine .inr ⟨go, fun σ' H' => ∃ G ρ ss, Same G1 G ∧ Rel K F G ρ ts ss σ' H' ∧ OutS K Γ W F G ts Ds (loopF g body (items.drop (i + 1)) ss), fun σ' H' p => ⟨_, Nat.sub_succ_lt_self _ _ hlt, rfl, hlt, p⟩, fun x H' y => ?_⟩
        obtain ⟨G3, g3, R3, d3⟩ := yl x H' y
        unfold loopF at q2
        cases e3 : g items[i] s2 with
        | none => rw [e3] at q2; exact q2.elim
        | some s3 =>
          rw [e3] at q2
          refine ⟨F, G3, ρ2, ts, s2, items[i], s3, R3, d3, e3, fun σ4 ρ4 R4 _ => ⟨F, G3, ρ4, ts, s3, R4, ?_⟩⟩
          dsimp only at q2
          cases e5 : body s3 with
          | none => rw [e5] at q2; exact q2
          | some r5 =>
            rw [e5] at q2
            cases r5 with
            | ex x s => exact fun σ6 H6 G6 ρ6 cls d g6 R6 xn => q2 σ6 H6 G6 ρ6 cls d (g3.trans g6) R6 xn
            | ok o s5 =>
              cases o with
              | nx => exact fun σ6 H6 G6 ρ6 g6 R6 => ⟨G6, ρ6, s5, (g2.trans g3).trans g6, R6, OutS.up (g3.trans g6) q2⟩
              | ct => exact fun σ6 H6 G6 ρ6 g6 R6 => ⟨G6, ρ6, s5, (g2.trans g3).trans g6, R6, OutS.up (g3.trans g6) q2⟩
              | bk => exact fun σ6 H6 G6 ρ6 g6 R6 => q2 σ6 H6 G6 ρ6 (g3.trans g6) R6
              | rt w => exact fun v σ6 H6 G6 ρ6 g6 R6 => q2 v σ6 H6 G6 ρ6 (g3.trans g6) R6
      · have ei : i = items.length := by omega
        subst ei
        rw [List.drop_length] at q2
        exact .inl ⟨w2 (Nat.le_refl _), q2 σ H G2 ρ2 (Same.refl G2) R2⟩
end
section
variable {Γ : Gm} {X : Cx} {W : WX} {tg iter : Expr} {body : List Stmt} {fi : M (List D)} {is : List Nat} {g : D → Sl → Option Sl} {fb : M SO} {pos : Pos}
theorem ds_for (hp : PassesOwn (model X.prog X.w) X.A X.env X.xe) (hc : X.calm = true) (hi : DI Γ X W tg iter fi) (hg : DG X tg is g) (hb : DSs Γ X W body fb) (hs : ∀ x, foldedSetIterable iter X.env x = pure x := by intro _; rfl) : DS Γ X W (.For tg iter body [] pos) (forM fi g fb) :=
  PS_imp (ps_for hp hc hi hg hb hs) tS_for
end

/-! ### while -/
def whM : Nat → M Bool → M SO → M SO
  | 0, _, _ => fail
  | n + 1, t, body => bnd t fun b => if b = true then fun s => match body s with
      | none => none
      | some (.ex x s) => some (.ex x s)
      | some (.ok .nx s) => whM n t body s
      | some (.ok .ct s) => whM n t body s
      | some (.ok .bk s) => some (.ok .nx s)
      | some (.ok (.rt w) s) => some (.ok (.rt w) s) else sNx
section
variable {K : PySem.W.Frag} {Γ : Gm} {W : WX}
theorem tS_wh {n : Nat} {t : M Bool} {body : M SO} : ∀ D σ H, tS K Γ W (whM n t body) D σ H → tWhile (tt K Γ W t) (tS K Γ W body) D σ H := fun Ds σ H ⟨F, G, ρ, ts, ss, R, q⟩ => by
  refine ⟨fun m σ H => ∃ G ρ ss, Rel K F G ρ ts ss σ H ∧ OutS K Γ W F G ts Ds (whM m t body ss), ⟨n, G, ρ, ss, R, q⟩, ?_⟩
  rintro m σ H ⟨G2, ρ2, s2, R2, q2⟩
  cases m with
  | zero => exact q2.elim
  | succ m =>
    refine ⟨F, G2, ρ2, ts, s2, R2, ?_⟩
    unfold whM bnd at q2
    cases e : t s2 with
    | none => rw [e] at q2; exact q2
    | some r =>
      rw [e] at q2
      cases r with
      | ex x s => exact fun H1 G1 ρ1 cls d g1 R1 xn => q2 σ H1 G1 ρ1 cls d g1 R1 xn
      | ok b s =>
        intro H3 G3 ρ3 g3 R3
        cases b with
        | false => exact q2 σ H3 G3 ρ3 g3 R3
        | true =>
          refine ⟨fun σ' H' => ∃ G ρ ss, Rel K F G ρ ts ss σ' H' ∧ OutS K Γ W F G ts Ds (whM m t body ss), fun σ' H' p => ⟨m, Nat.lt_succ_self m, p⟩, F, G3, ρ3, ts, s, R3, ?_⟩
          dsimp only at q2
          rw [if_pos rfl] at q2
          cases e5 : body s with
          | none => rw [e5] at q2; exact q2
          | some r5 =>
            rw [e5] at q2
            cases r5 with
            | ex x s => exact fun σ6 H6 G6 ρ6 cls d g6 R6 xn => q2 σ6 H6 G6 ρ6 cls d (g3.trans g6) R6 xn
            | ok o s5 =>
              cases o with
              | nx => exact fun σ6 H6 G6 ρ6 g6 R6 => ⟨G6, ρ6, s5, R6, OutS.up (g3.trans g6) q2⟩
              | ct => exact fun σ6 H6 G6 ρ6 g6 R6 => ⟨G6, ρ6, s5, R6, OutS.up (g3.trans g6) q2⟩
              | bk => exact fun σ6 H6 G6 ρ6 g6 R6 => q2 σ6 H6 G6 ρ6 (g3.trans g6) R6
              | rt w => exact fun v σ6 H6 G6 ρ6 g6 R6 => q2 v σ6 H6 G6 ρ6 (g3.trans g6) R6
end
section
variable {Γ : Gm} {X : Cx} {W : WX} {c : Expr} {body : List Stmt} {fc : M Bool} {fb : M SO} {pos : Pos}
theorem ds_while (n : Nat) (hp : PassesOwn (model X.prog X.w) X.A X.env X.xe) (hc : DT' Γ X W c fc) (hb : DSs Γ X W body fb) : DS Γ X W (.While c body [] pos) (whM n fc fb) := PS_imp (ps_while hp hc hb) tS_wh
end

/-! ### what is walked -/
/-- items: a list's or tuple's, frozen -/
def itW : Wv → M (List D)
  | .rol xs => ret xs
  | w => bnd (frzW w) fun d => match d with
    | .list ds => ret ds
    | .tuple ds => ret ds
    | _ => fail
/-- a list or a tuple as it stands -/
def iSeq (K : PySem.W.Frag) (tl : TE) : TI := fun σ H R => tl σ H fun x H1 => ∃ a, x = .ref a ∧ (((∃ xs, SqL K H1 a xs) ∧ R (Itl K a) H1) ∨ ((∃ xs, SqT K H1 a xs) ∧ R (Itt K a) H1))
section
variable {X : Cx} {tg l : Expr} {tl : TE}
theorem pi_seq (hl : PE X l tl) : PI X tg l (iSeq X.K tl) := by
  refine ⟨fun pins s σ H R I hyp => thn (hl.run pins s σ H _ I hyp) fun v s1 ⟨x, H1, I1, r1, a, ea, alt⟩ => ?_⟩
  subst ea
  cases r1
  have own : ∀ b ∈ [s1.heap.objs.size], FpOk X pins H1 b := fun b hb => by
    rw [List.mem_singleton.mp hb]; exact I1.fpOk (Nat.le_refl _) (I1.hok.fresh (Nat.le_refl _))
  rcases alt with ⟨⟨xs, hq⟩, fin⟩ | ⟨⟨xs, hq⟩, fin⟩
  · obtain ⟨its, rI, pl, _⟩ := I1.list hq
    exact wpAny_pyIter_list pl.isList ⟨s1.heap.objs.size, [s1.heap.objs.size], _, _, H1, rfl, I1.kept (t' := s1.toks) fun b o z => Heap.get?_push_of_some _ z, turn_list a _, ⟨_, Heap.get?_push_size _ rfl, rfl, rfl⟩, own, fin⟩
  · obtain ⟨its, rI, pl, _⟩ := I1.tuple hq
    exact wpAny_pyIter_tuple (show s1.heap.IsTuple a its.toArray from pl) ⟨s1.heap.objs.size, [s1.heap.objs.size], _, _, H1, rfl, I1.kept (t' := s1.toks) fun b o z => Heap.get?_push_of_some _ z, turn_tuple a _, ⟨_, Heap.get?_push_size _ rfl, rfl, rfl⟩, own, fin⟩
end
section
variable {K : PySem.W.Frag} {Γ : Gm} {W : WX} {F : Fm} {G : Hp}
theorem wlk_list {a : Addr} {vs : List V} {ds : List D} (h : SqL K G a vs) (d : DvAll K G vs ds) : Wlk K F G (Itl K a) ds := fun G1 ρ ts ss σ H i g R => by
  refine ⟨fun e he => ?_, fun hl => ⟨vs, R.sub.seq (g.seq h), by rw [d.length]; exact hl⟩⟩
  obtain ⟨v, hv, dv⟩ := d.get' he
  refine ⟨⟨vs, v, R.sub.seq (g.seq h), hv⟩, fun x H' y => ?_⟩
  obtain ⟨rfl, y⟩ := y
  have e2 := y vs (R.sub.seq (g.seq h))
  rw [hv] at e2; cases e2
  exact ⟨G1, Same.refl G1, R, dv.mono g⟩
theorem wlk_tup {a : Addr} {vs : List V} {ds : List D} (h : G a = some (.tup vs)) (d : DvAll K G vs ds) : Wlk K F G (Itt K a) ds := fun G1 ρ ts ss σ H i g R => by
  have hq : SqT K H a vs := .of (R.sub _ _ (g _ _ h))
  refine ⟨fun e he => ?_, fun hl => ⟨vs, hq, by rw [d.length]; exact hl⟩⟩
  obtain ⟨v, hv, dv⟩ := d.get' he
  refine ⟨⟨vs, v, hq, hv⟩, fun x H' y => ?_⟩
  obtain ⟨rfl, y⟩ := y
  have e2 := y vs hq
  rw [hv] at e2; cases e2
  exact ⟨G1, Same.refl G1, R, dv.mono g⟩
/-- a walked thing as data -/
theorem itW_ok {ρ : Nat → Addr} {ts : List (Addr × Con)} {ss ss' : Sl} {σ : L2.St} {H : Hp} {w : Wv} {v : V} {ds : List D} (r : RelW K F G ρ ts ss σ H w v) (e : itW w ss = some (.ok ds ss')) :
    ∃ G' a vs, Same G G' ∧ Rel K F G' ρ ts ss' σ H ∧ v = .ref a ∧ DvAll K G' vs ds ∧ (SqL K G' a vs ∨ G' a = some (.tup vs)) := by
  have gen : ∀ {w : Wv}, RelW K F G ρ ts ss σ H w v → (bnd (frzW w) fun d => match d with | .list ds => ret ds | .tuple ds => ret ds | _ => fail) ss = some (.ok ds ss') → ∃ G' a vs, Same G G' ∧ Rel K F G' ρ ts ss' σ H ∧ v = .ref a ∧ DvAll K G' vs ds ∧ (SqL K G' a vs ∨ G' a = some (.tup vs)) := fun {w} r e => by
    unfold bnd at e
    split at e
    · cases e
    · rename_i d s h
      obtain ⟨G1, g1, R1, d1⟩ := frzW_ok r h
      cases d1 with
      | lst ha hd => cases e; exact ⟨G1, _, _, g1, R1, rfl, hd, .inl (.of ha)⟩
      | tup ha hd => cases e; exact ⟨G1, _, _, g1, R1, rfl, hd, .inr ha⟩
      | _ => cases e
    · cases e
  cases w with
  | rol xs => cases e; obtain ⟨R, a, vs, rfl, z1, z2⟩ := r; exact ⟨G, a, vs, Same.refl G, R, rfl, z2, .inl z1⟩
  | val d => exact gen r e
  | new c => exact gen r e
  | bor i => exact gen r e
theorem itW_noex {ss ss' : Sl} {w : Wv} {x : Xn} : itW w ss ≠ some (.ex x ss') := by
  have gen : ∀ {w : Wv}, (bnd (frzW w) fun d => match d with | .list ds => ret ds | .tuple ds => ret ds | _ => fail) ss ≠ some (.ex x ss') := fun {w} e => by
    unfold bnd at e
    split at e
    · cases e
    · rename_i d s h
      cases d <;> cases e
    · rename_i h; exact frzW_noex h
  cases w with
  | rol xs => intro e; cases e
  | val d => exact fun e => gen (w := .val d) e
  | new c => exact fun e => gen (w := .new c) e
  | bor i => exact fun e => gen (w := .bor i) e
theorem tI_seq {f : M Wv} : ∀ σ H R, tI K Γ W (bnd f itW) σ H R → iSeq K (te K Γ W f) σ H R := fun σ H Rr ⟨F, G, ρ, ts, ss, R, q⟩ => by
  refine ⟨F, G, ρ, ts, ss, R, ?_⟩
  unfold bnd at q
  cases e : f ss with
  | none => rw [e] at q; exact q
  | some r =>
    rw [e] at q
    cases r with
    | ex x s => exact q
    | ok w s =>
      intro v H1 G1 ρ1 g1 r1
      dsimp only at q
      cases e2 : itW w s with
      | none => rw [e2] at q; exact q.elim
      | some r2 =>
        cases r2 with
        | ex x s2 => exact absurd e2 itW_noex
        | ok ds s2 =>
          rw [e2] at q
          obtain ⟨G2, a, vs, g2, R2, rfl, d2, alt⟩ := itW_ok r1 e2
          rcases alt with h | h
          · exact ⟨a, rfl, .inl ⟨⟨vs, R2.sub.seq h⟩, q _ H1 G2 ρ1 (g1.trans g2) R2 (wlk_list h d2)⟩⟩
          · exact ⟨a, rfl, .inr ⟨⟨vs, .of (R2.sub _ _ h)⟩, q _ H1 G2 ρ1 (g1.trans g2) R2 (wlk_tup h d2)⟩⟩
end
section
variable {Γ : Gm} {X : Cx} {W : WX} {tg l a b : Expr} {f fa fb : M Wv} {g : M (List Wv)} {p pos tpos : Pos} {elts : List Expr} {kk : Nat}
theorem di_seq (h : DE Γ X W l f) : DI Γ X W tg l (bnd f itW) := PI_imp (pi_seq h) tI_seq
/-! ### range -/
def rngD (lo : Int) (n : Nat) : List D := (List.range n).map fun (i : Nat) => .int (lo + (i : Int))
def rng1W (ws : List Wv) : M (List D) := fun ss => match ws with
  | [w] => match intV ss w with
    | some j => if decide (-(2 ^ 62) ≤ j ∧ j < 2 ^ 62) = true then some (.ok (rngD 0 j.toNat) ss) else none
    | none => none
  | _ => none
def rng2W (ws : List Wv) : M (List D) := fun ss => match ws with
  | [w, u] => match intV ss w, intV ss u with
    | some i, some j => if decide (-(2 ^ 62) ≤ i ∧ i < 2 ^ 62 ∧ -(2 ^ 62) ≤ j ∧ j < 2 ^ 62) = true then some (.ok (rngD i (j - i).toNat) ss) else none
    | _, _ => none
  | _ => none
theorem wlk_rng {K : PySem.W.Frag} {F : Fm} {G : Hp} {lo : Int} {n : Nat} : Wlk K F G (Itr lo n) (rngD lo n) := fun G1 ρ ts ss σ H i g R => by
  refine ⟨fun e he => ?_, fun hl => by simpa [rngD, Itr] using hl⟩
  unfold rngD at he
  rw [List.getElem?_map] at he
  by_cases hi : i < n
  · rw [List.getElem?_range hi] at he
    cases he
    refine ⟨hi, fun x H' y => ?_⟩
    obtain ⟨rfl, rfl⟩ := y
    exact ⟨G1, Same.refl G1, R, .int _⟩
  · rw [List.getElem?_eq_none (by simpa using hi)] at he; cases he
theorem tI_thenA {K : PySem.W.Frag} {σ : L2.St} {H : Hp} {f : M (List Wv)} {op : List Wv → M (List D)} {R : It → Hp → Prop} {Q' : List V → Hp → Prop} (h : tI K Γ W (bnd f op) σ H R)
    (k : ∀ F G ρ ts ss H w v, RelWs K F G ρ ss σ H ts w v → OutI K Γ W F G ts σ R (op w ss) → Q' v H) : ta K Γ W f σ H Q' := by
  obtain ⟨F, G, ρ, ts, ss, R, q⟩ := h
  refine ⟨F, G, ρ, ts, ss, R, ?_⟩
  unfold bnd at q
  cases e : f ss with
  | none => rw [e] at q; exact q
  | some r =>
    rw [e] at q
    cases r with
    | ok w s =>
      refine fun v H1 G1 ρ1 g1 r => k F G1 ρ1 ts s H1 w v r ?_
      dsimp only at q
      cases e2 : op w s with
      | none => rw [e2] at q; exact q
      | some r2 =>
        rw [e2] at q
        cases r2 with
        | ok items s2 => exact fun J H2 G2 ρ2 g2 R2 wk => q J H2 G2 ρ2 (g1.trans g2) R2 wk
        | ex x s2 => exact fun H2 G2 ρ2 cls d g2 R2 xn => q H2 G2 ρ2 cls d (g1.trans g2) R2 xn
    | ex x s => exact q
theorem tI_rng1 {K : PySem.W.Frag} : ∀ σ H R, tI K Γ W (bnd (acons fa anil) rng1W) σ H R → iRng1 (ta K Γ W (acons fa anil)) σ H R := fun σ H Rr q => tI_thenA q fun F G ρ ts ss H ws vs r q => by
  unfold rng1W at q
  split at q
  · rename_i w
    obtain ⟨x, rfl⟩ := one_of r
    split at q
    · rename_i j e
      split at q
      · rename_i hz
        have ex := intV_pk e fun k => r.pk1
        subst ex
        have hz := of_decide_eq_true hz
        exact ⟨j, rfl, hz.1, hz.2, q _ H G ρ (Same.refl G) r.rel wlk_rng⟩
      · exact q.elim
    · exact q.elim
  · exact q.elim
theorem tI_rng2 {K : PySem.W.Frag} : ∀ σ H R, tI K Γ W (bnd (acons fa (acons fb anil)) rng2W) σ H R → iRng2 (ta K Γ W (acons fa (acons fb anil))) σ H R := fun σ H Rr q => tI_thenA q fun F G ρ ts ss H ws vs r q => by
  unfold rng2W at q
  split at q
  · rename_i w u
    obtain ⟨x, y, rfl⟩ := two_of r
    split at q
    · rename_i i j e1 e2
      split at q
      · rename_i hz
        have ex := intV_pk e1 fun k => r.pk21
        have ey := intV_pk e2 fun k => r.pk22
        subst ex ey
        have hz := of_decide_eq_true hz
        exact ⟨i, j, rfl, hz, q _ H G ρ (Same.refl G) r.rel wlk_rng⟩
      · exact q.elim
    · exact q.elim
  · exact q.elim
end
end DT
/-! DT: list comprehensions -/
namespace DT
open PySem PySem.Spec PyProof.Rows L2

section
variable {K : PySem.W.Frag} {F : Fm} {G G' : Hp} {ρ : Nat → Addr} {ts : List (Addr × Con)} {ss ss' : Sl} {σ σ' : L2.St} {H H' : Hp}
/-- some slots are told anew: none of them owns or locks -/
theorem Rel.patch (R : Rel K F G ρ ts ss σ H) (hl : ss'.length = ss.length) (hσ : σ'.length = σ.length)
    (h : ∀ i, (ss'[i]? = ss[i]? ∧ σ'[i]? = σ[i]?) ∨ ((∀ b c, ss[i]? ≠ some (.lk b c)) ∧ ∀ s, ss'[i]? = some s → isOwn s = false ∧ isLk s = false ∧ SlotAt K F G ρ σ' H i s)) : Rel K F G ρ ts ss' σ' H := by
  have own : ∀ {i s}, ss'[i]? = some s → isOwn s = true → ss[i]? = some s := fun {i s} e w => by
    rcases h i with ⟨a, _⟩ | ⟨_, a⟩
    · rw [← a]; exact e
    · rw [(a s e).1] at w; cases w
  refine ⟨R.sub, R.frame, by rw [hl, hσ]; exact R.len, fun i s e => ?_, fun i s e w => R.own i s (own e w) w, fun i j s t e1 e2 w1 w2 => R.inj i j s t (own e1 w1) (own e2 w2) w1 w2, fun t ht => ?_, R.nd, fun t ht => ?_, R.lnd, R.lpd, R.gro⟩
  · rcases h i with ⟨a, b⟩ | ⟨_, a⟩
    · have q := R.slot i s (by rw [← a]; exact e)
      cases s with
      | un => trivial
      | val b' d => obtain ⟨v, z1, z2⟩ := q; exact ⟨v, b.trans z1, z2⟩
      | own b' c => obtain ⟨z1, z2⟩ := q; exact ⟨b.trans z1, z2⟩
      | lk b' c => exact q
      | exn a => exact b.trans q
      | rol xs => obtain ⟨x, vs, z1, z2⟩ := q; exact ⟨x, vs, b.trans z1, z2⟩
    · exact (a s e).2.2
  · obtain ⟨a1, a2, a3⟩ := R.tmp t ht
    exact ⟨a1, a2, fun i s e w => a3 i s (own e w) w⟩
  · obtain ⟨⟨b, h1⟩, h2, h3, h4, h5, h6⟩ := R.lks t ht
    rcases h t.s with ⟨a, c⟩ | ⟨a, _⟩
    · exact ⟨⟨b, by rw [a]; exact h1⟩, c.trans h2, h3, h4, fun i s e w => h5 i s (own e w) w, h6⟩
    · exact absurd h1 (a b t.c)

def wipS : List Nat → Sl → Sl
  | [], ss => ss
  | v :: vs, ss => (wipS vs ss).set v .un
def resS : List Nat → Sl → Sl → Sl
  | [], _, ss => ss
  | v :: vs, s0, ss => (resS vs s0 ss).set v (s0[v]?.getD .un)
def okV : List Nat → Sl → Bool
  | [], _ => true
  | v :: vs, ss => (match ss[v]? with
    | some .un => true
    | some (.val _ _) => true
    | some (.rol _) => true
    | _ => false) && okV vs ss
theorem wipS_len {ss : Sl} : ∀ vs : List Nat, (wipS vs ss).length = ss.length
  | [] => rfl
  | v :: vs => by unfold wipS; rw [List.length_set, wipS_len vs]
theorem resS_len {s0 ss : Sl} : ∀ vs : List Nat, (resS vs s0 ss).length = ss.length
  | [] => rfl
  | v :: vs => by unfold resS; rw [List.length_set, resS_len vs]
theorem wipS_out {ss : Sl} {i : Nat} : ∀ {vs : List Nat}, i ∉ vs → (wipS vs ss)[i]? = ss[i]?
  | [], _ => rfl
  | v :: vs, h => by
    unfold wipS
    rw [List.getElem?_set_ne fun z => h (by rw [← z]; exact List.mem_cons_self)]
    exact wipS_out fun z => h (List.mem_cons_of_mem _ z)
theorem wipS_in {ss : Sl} {i : Nat} {s : Slot} : ∀ {vs : List Nat}, i ∈ vs → (wipS vs ss)[i]? = some s → s = .un
  | v :: vs, h, e => by
    unfold wipS at e
    by_cases hv : v = i
    · subst hv
      have hl := (List.getElem?_eq_some_iff.mp e).1
      rw [List.getElem?_set_self (by simpa using hl)] at e; cases e; rfl
    · rw [List.getElem?_set_ne hv] at e
      rcases List.mem_cons.mp h with z | z
      · exact absurd z.symm hv
      · exact wipS_in z e
theorem resS_out {s0 ss : Sl} {i : Nat} : ∀ {vs : List Nat}, i ∉ vs → (resS vs s0 ss)[i]? = ss[i]?
  | [], _ => rfl
  | v :: vs, h => by
    unfold resS
    rw [List.getElem?_set_ne fun z => h (by rw [← z]; exact List.mem_cons_self)]
    exact resS_out fun z => h (List.mem_cons_of_mem _ z)
theorem resS_in {s0 ss : Sl} {i : Nat} {s : Slot} : ∀ {vs : List Nat}, i ∈ vs → (resS vs s0 ss)[i]? = some s → s = s0[i]?.getD .un
  | v :: vs, h, e => by
    unfold resS at e
    by_cases hv : v = i
    · subst hv
      have hl := (List.getElem?_eq_some_iff.mp e).1
      rw [List.getElem?_set_self (by simpa using hl)] at e; cases e; rfl
    · rw [List.getElem?_set_ne hv] at e
      rcases List.mem_cons.mp h with z | z
      · exact absurd z.symm hv
      · exact resS_in z e
theorem okV_at {ss : Sl} {i : Nat} : ∀ {vs : List Nat}, okV vs ss = true → i ∈ vs → (ss[i]? = some .un ∨ (∃ b d, ss[i]? = some (.val b d)) ∨ ∃ xs, ss[i]? = some (.rol xs))
  | v :: vs, h, m => by
    unfold okV at h
    rw [Bool.and_eq_true] at h
    rcases List.mem_cons.mp m with z | z
    · subst z
      obtain ⟨h, _⟩ := h
      split at h
      · rename_i e; exact .inl e
      · rename_i b d e; exact .inr (.inl ⟨_, _, e⟩)
      · rename_i xs e; exact .inr (.inr ⟨_, e⟩)
      · cases h
    · exact okV_at h.2 z
theorem wipe_out {σ : L2.St} {i : Nat} : ∀ {vs : List Nat}, i ∉ vs → (wipe σ vs)[i]? = σ[i]?
  | [], _ => rfl
  | v :: vs, h => by
    unfold wipe
    rw [List.getElem?_set_ne fun z => h (by rw [← z]; exact List.mem_cons_self)]
    exact wipe_out fun z => h (List.mem_cons_of_mem _ z)
theorem wipe_inn {σ : L2.St} {i : Nat} {x : Option V} : ∀ {vs : List Nat}, i ∈ vs → (wipe σ vs)[i]? = some x → x = none
  | v :: vs, h, e => by
    unfold wipe at e
    by_cases hv : v = i
    · subst hv
      have hl := (List.getElem?_eq_some_iff.mp e).1
      rw [List.getElem?_set_self (by simpa using hl)] at e; cases e; rfl
    · rw [List.getElem?_set_ne hv] at e
      rcases List.mem_cons.mp h with z | z
      · exact absurd z.symm hv
      · exact wipe_inn z e
theorem wipe_same {σ σ' : L2.St} {vs is : List Nat} (hl : σ'.length = (wipe σ vs).length) (h : ∀ j, j ∉ is → σ'[j]? = (wipe σ vs)[j]?) (hi : ∀ j ∈ is, j ∈ vs) : wipe σ' vs = wipe σ vs := by
  apply List.ext_getElem?
  intro j
  by_cases hj : j ∈ vs
  · cases e1 : (wipe σ' vs)[j]? with
    | none =>
      have := List.getElem?_eq_none_iff.mp e1
      rw [wipe_length, hl] at this
      rw [List.getElem?_eq_none this]
    | some x =>
      have l1 := (List.getElem?_eq_some_iff.mp e1).1
      rw [wipe_length, hl] at l1
      rw [wipe_inn hj e1]
      cases e2 : (wipe σ vs)[j]? with
      | none => have := List.getElem?_eq_none_iff.mp e2; omega
      | some y => rw [wipe_inn hj e2]
  · rw [wipe_out hj, h j fun z => hj (hi j z)]
/-- which slots are locked hangs on the frame alone -/
theorem Rel.lk_iff (R : Rel K F G ρ ts ss σ H) {i : Nat} : (∃ b c, ss[i]? = some (.lk b c)) ↔ ∃ t ∈ F.ls, t.s = i := by
  constructor
  · rintro ⟨b, c, e⟩
    obtain ⟨t, h1, h2, _⟩ := R.slot i _ e
    exact ⟨t, h1, h2⟩
  · rintro ⟨t, h1, rfl⟩
    obtain ⟨⟨b, e⟩, _⟩ := R.lks t h1
    exact ⟨b, _, e⟩
theorem Rel.nolk {vs : List Nat} (R : Rel K F G ρ ts ss σ H) (h : okV vs ss = true) : ∀ t ∈ F.ls, t.s ∉ vs := fun t ht m => by
  obtain ⟨⟨b, e⟩, _⟩ := R.lks t ht
  rcases okV_at h m with z | ⟨_, _, z⟩ | ⟨_, z⟩ <;> rw [e] at z <;> cases z
theorem Rel.wipes {vs : List Nat} (R : Rel K F G ρ ts ss σ' H) (h : ∀ t ∈ F.ls, t.s ∉ vs) (hw : wipe σ' vs = wipe σ vs) : Rel K F G ρ ts (wipS vs ss) (wipe σ vs) H := by
  refine R.patch (wipS_len vs) (by rw [← hw, wipe_length]) fun i => ?_
  by_cases hi : i ∈ vs
  · refine .inr ⟨fun b c e => ?_, fun s e => ?_⟩
    · obtain ⟨t, ht, hs⟩ := R.lk_iff.mp ⟨b, c, e⟩
      exact h t ht (by rw [hs]; exact hi)
    · cases wipS_in hi e; exact ⟨rfl, rfl, trivial⟩
  · exact .inl ⟨wipS_out hi, by rw [← hw]; exact wipe_out hi⟩
theorem Rel.resto {vs : List Nat} {ts0 : List (Addr × Con)} {ss0 : Sl} {G0 H0 : Hp} {ρ0 : Nat → Addr} (R : Rel K F G ρ ts ss (wipe σ vs) H) (R0 : Rel K F G0 ρ0 ts0 ss0 σ H0) (g : Same G0 G) (h : okV vs ss0 = true) : Rel K F G ρ ts (resS vs ss0 ss) σ H := by
  refine R.patch (resS_len vs) (by rw [wipe_length]) fun i => ?_
  by_cases hi : i ∈ vs
  · refine .inr ⟨fun b c e => ?_, fun s e => ?_⟩
    · obtain ⟨t, ht, hs⟩ := R.lk_iff.mp ⟨b, c, e⟩
      exact R0.nolk h t ht (by rw [hs]; exact hi)
    · have e := resS_in hi e
      rcases okV_at h hi with z | ⟨b, d, z⟩ | ⟨xs, z⟩
      · rw [z] at e; cases e; exact ⟨rfl, rfl, trivial⟩
      · rw [z] at e; cases e
        obtain ⟨v, z1, z2, z3⟩ := R0.slot i _ z
        exact ⟨rfl, rfl, v, z1, z2.mono g, z3⟩
      · rw [z] at e; cases e
        obtain ⟨a, us, z1, z2, z3⟩ := R0.slot i _ z
        exact ⟨rfl, rfl, a, us, z1, g.seq z2, z3.mono g⟩
  · exact .inl ⟨resS_out hi, (wipe_out hi).symm⟩
end

/-! ### the comprehension -/
def lcL (vs : List Nat) (g : D → Sl → Option Sl) (ft : M Bool) (fe : M Wv) : List D → List D → M (List D)
  | [], acc => ret acc
  | d :: ds, acc => fun ss => match g d ss with
    | none => none
    | some s => match ft s with
      | some (.ok true s) => match bnd fe frzW s with
        | some (.ok y s) => lcL vs g ft fe ds (acc ++ [y]) (wipS vs s)
        | _ => none
      | some (.ok false s) => lcL vs g ft fe ds acc (wipS vs s)
      | _ => none
def lcM (vs : List Nat) (fi : M (List D)) (g : D → Sl → Option Sl) (ft : M Bool) (fe : M Wv) : M Wv := bnd fi fun items ss =>
  if (decide (items.length ≤ sizeLine) && okV vs ss) = true then match lcL vs g ft fe items [] (wipS vs ss) with
    | some (.ok acc s) => some (.ok (.new (.lst acc)) (resS vs ss s))
    | _ => none
  else none
abbrev W0 : WX := fun _ _ _ _ => False
section
variable {K : PySem.W.Frag} {Γ : Gm} {W : WX}
theorem setDs_size : ∀ {is : List Nat} {ds : List D} {ss ss' : Sl}, setDs is ds ss = some ss' → ss'.length = ss.length
  | [], [], _, _, e => by cases e; rfl
  | i :: is, d :: ds, ss, ss', e => by
    unfold setDs at e
    split at e
    · rw [setDs_size e, List.length_set]
    · cases e
  | [], _ :: _, _, _, e => by cases e
  | _ :: _, [], _, _, e => by cases e
/-- an assignment keeps the number of slots -/
def GLen (g : D → Sl → Option Sl) : Prop := ∀ d ss ss', g d ss = some ss' → ss'.length = ss.length
theorem gN_len {i : Nat} : GLen (gN i) := fun _ _ _ e => setDs_size e
theorem gT_len {is : List Nat} : GLen (gT is) := fun d _ _ e => by
  cases d <;> first | exact setDs_size e | cases e
theorem gL_len {is : List Nat} : GLen (gL is) := fun d _ _ e => by
  cases d <;> first | exact setDs_size e | cases e
theorem te_lc {vs is : List Nat} {fi : M (List D)} {g : D → Sl → Option Sl} {ft : M Bool} {fe : M Wv} (his : ∀ j ∈ is, j ∈ vs) (hgl : GLen g) : ∀ σ H Q, te K Γ W (lcM vs fi g ft fe) σ H Q → tLc (tI K Γ W fi) (tG K is g) (tt K Γ W0 ft) (te K Γ W0 fe) vs σ H Q := fun σ H Q ⟨F, G, ρ, ts, ss, R, q⟩ => by
  refine ⟨F, G, ρ, ts, ss, R, ?_⟩
  unfold lcM bnd at q
  cases e : fi ss with
  | none => rw [e] at q; exact q
  | some r =>
    rw [e] at q
    cases r with
    | ex x s => exact q
    | ok items s =>
      intro J H1 G1 ρ1 g1 R1 wk Dl hD
      dsimp only at q
      split at q
      case isFalse => exact q.elim
      rename_i hc
      rw [Bool.and_eq_true] at hc
      obtain ⟨hsz, hok⟩ := hc
      have hsz := of_decide_eq_true hsz
      cases eL : lcL vs g ft fe items [] (wipS vs s) with
      | none => rw [eL] at q; exact q.elim
      | some rL =>
        cases rL with
        | ex x sF => rw [eL] at q; exact q.elim
        | ok accF sF =>
          rw [eL] at q
          have nlk := R1.nolk hok
          refine ⟨fun i m H => m = items.length - i ∧ i ≤ items.length ∧ ∃ G ρ ss acc, acc.length ≤ i ∧ Same G1 G ∧ Rel K F G ρ ((Dl, .lst acc) :: ts) ss (wipe σ vs) H ∧ lcL vs g ft fe (items.drop i) acc ss = some (.ok accF sF),
            ⟨items.length, rfl, Nat.zero_le _, G1, ρ1, wipS vs s, [], Nat.le_refl _, Same.refl G1, (R1.alloc hD (c := .lst []) (o := .lst []) .nil).wipes nlk rfl, eL⟩, ?_⟩
          rintro i m H ⟨rfl, hi, G2, ρ2, s2, acc, hacc, g2, R2, q2⟩
          obtain ⟨w1, w2⟩ := wk G2 ρ2 _ s2 _ H i g2 R2
          by_cases hlt : i < items.length
          · have hd : items[i]? = some items[i] := List.getElem?_eq_getElem hlt
            obtain ⟨go, yl⟩ := w1 _ hd
            rw [List.drop_eq_getElem_cons hlt] at q2
            refine .inr ⟨go, fun H' => ∃ G ρ ss acc, acc.length ≤ i + 1 ∧ Same G1 G ∧ Rel K F G ρ ((Dl, .lst acc) :: ts) ss (wipe σ vs) H' ∧ lcL vs g ft fe (items.drop (i + 1)) acc ss = some (.ok accF sF), fun H' p => ⟨_, Nat.sub_succ_lt_self _ _ hlt, rfl, hlt, p⟩, fun x H' y => ?_⟩
            obtain ⟨G3, g3, R3, d3⟩ := yl x H' y
            unfold lcL at q2
            cases e3 : g items[i] s2 with
            | none => rw [e3] at q2; cases q2
            | some s3 =>
              rw [e3] at q2
              dsimp only at q2
              refine ⟨F, G3, ρ2, _, s2, items[i], s3, R3, d3, e3, fun σ4 ρ4 R4 hj => ?_⟩
              have hw : wipe σ4 vs = wipe σ vs := wipe_same (by rw [← R4.len, hgl _ _ _ e3]; exact R3.len) hj his
              · refine ⟨hw, F, G3, ρ4, _, s3, R4, ?_⟩
                cases e5 : ft s3 with
                | none => rw [e5] at q2; cases q2
                | some r5 =>
                  rw [e5] at q2
                  cases r5 with
                  | ex x s => cases q2
                  | ok b s5 =>
                    intro H6 G6 ρ6 g6 R6
                    cases b with
                    | false =>
                      exact ⟨G6, ρ6, _, acc, Nat.le_succ_of_le hacc, (g2.trans g3).trans g6, R6.wipes nlk hw, q2⟩
                    | true =>
                      dsimp only at q2
                      unfold bnd at q2
                      refine ⟨F, G6, ρ6, _, s5, R6, ?_⟩
                      cases e7 : fe s5 with
                      | none => rw [e7] at q2; cases q2
                      | some r7 =>
                        rw [e7] at q2
                        cases r7 with
                        | ex x s => cases q2
                        | ok w s7 =>
                          intro v H8 G8 ρ8 g8 r8
                          dsimp only at q2
                          cases e9 : frzW w s7 with
                          | none => rw [e9] at q2; cases q2
                          | some r9 =>
                            rw [e9] at q2
                            cases r9 with
                            | ex x s => cases q2
                            | ok yd s9 =>
                              obtain ⟨G9, g9, R9, d9⟩ := frzW_ok r8 e9
                              obtain ⟨⟨o, h1, h2⟩, _⟩ := R9.tmp _ List.mem_cons_self
                              obtain ⟨us, rfl, h2⟩ := h2.lst_inv
                              refine ⟨us, h1, ?_, G9, ρ8, _, acc ++ [yd], ?_, (((g2.trans g3).trans g6).trans g8).trans g9, (R9.mutT (c' := .lst (acc ++ [yd])) (o := .lst (us ++ [v])) (h2.append (.cons d9 .nil))).wipes nlk hw, q2⟩
                              · rw [h2.length]; omega
                              · rw [List.length_append]; show acc.length + 1 ≤ _; omega
          · have ei : i = items.length := by omega
            subst ei
            rw [List.drop_length] at q2
            cases q2
            exact .inl ⟨w2 (Nat.le_refl _), q _ H G2 ρ2 (g1.trans g2) ⟨Dl, rfl, R2.resto R1 g2 hok⟩⟩
/-- a comprehension's tests -/
def DTs (Γ : Gm) (X : Cx) (W : WX) (ifs : List Expr) (f : M Bool) : Prop := PTs X ifs (tt X.K Γ W f)
theorem PTs_imp {X : Cx} {e : List Expr} {t t' : TT} (h : PTs X e t) (i : ∀ σ H Q, t' σ H Q → t σ H Q) : PTs X e t' := ⟨fun pins s σ H Q I hw => h.run pins s σ H Q I (i σ H Q hw)⟩
theorem tt_yes : ∀ σ H Q, tt K Γ W (ret true) σ H Q → tYes σ H Q := fun σ H Q ⟨F, G, ρ, ts, ss, R, q⟩ => q H G ρ (Same.refl G) R
section
variable {X : Cx} {ifs : List Expr} {c : Expr} {fc : M Bool}
theorem dts_nil : DTs Γ X W [] (ret true) := PTs_imp pts_nil tt_yes
theorem dts_one (h : DT' Γ X W c fc) : DTs Γ X W [c] fc := pts_one h
end
section
variable {X : Cx} {elt tg iter : Expr} {ifs : List Expr} {scope : Scope} {own : List (Str × Nat)} {pos : Pos} {fi : M (List D)} {is : List Nat} {g : D → Sl → Option Sl} {ft : M Bool} {fe : M Wv}
theorem de_lc (own : List (Str × Nat)) (hc : X.calm = true) (hN : X.N.Nodup) (hi : DI Γ X W tg iter fi) (ok : BlkOk X.N X.env.scope scope own)
    (hg : ∀ (s : Shared) (H : Hp) (C : Addr) (cl : List (Str × Addr)) (fp : List Addr), DG (X.blk s H scope (compEnvC scope cl C X.env) fp) tg is g)
    (ht : ∀ (s : Shared) (H : Hp) (C : Addr) (cl : List (Str × Addr)) (fp : List Addr), DTs Γ (X.blk s H scope (compEnvC scope cl C X.env) fp) W0 ifs ft)
    (he : ∀ (s : Shared) (H : Hp) (C : Addr) (cl : List (Str × Addr)) (fp : List Addr), DE Γ (X.blk s H scope (compEnvC scope cl C X.env) fp) W0 elt fe)
    (his : ∀ j ∈ is, j ∈ own.map (·.2) := by decide) (hgl : GLen g := by first | exact gN_len | exact gT_len | exact gL_len) (hs : ∀ x, foldedSetIterable iter X.env x = pure x := by intro _; rfl) :
    DE Γ X W (.ListComp elt [⟨tg, iter, ifs, 0⟩] scope pos) (lcM (own.map (·.2)) fi g ft fe) := PE_imp (pe_lc (wi := tI X.K Γ W fi) (g := tG X.K is g) (tt := tt X.K Γ W0 ft) (te := te X.K Γ W0 fe) hc hN hi ok (fun s H C cl fp => hg s H C cl fp) (fun s H C cl fp => ht s H C cl fp) (fun s H C cl fp => he s H C cl fp) hs) (te_lc his hgl)
/-- name = [..] on one line: the list is the name's own -/
theorem ds_setLc (i : Nat) {y : Str} {py spos : Pos} (own : List (Str × Nat)) (hc : X.calm = true) (hN : X.N.Nodup) (hi : DI Γ X W tg iter fi) (ok : BlkOk X.N X.env.scope scope own)
    (hg : ∀ (s : Shared) (H : Hp) (C : Addr) (cl : List (Str × Addr)) (fp : List Addr), DG (X.blk s H scope (compEnvC scope cl C X.env) fp) tg is g)
    (ht : ∀ (s : Shared) (H : Hp) (C : Addr) (cl : List (Str × Addr)) (fp : List Addr), DTs Γ (X.blk s H scope (compEnvC scope cl C X.env) fp) W0 ifs ft)
    (he : ∀ (s : Shared) (H : Hp) (C : Addr) (cl : List (Str × Addr)) (fp : List Addr), DE Γ (X.blk s H scope (compEnvC scope cl C X.env) fp) W0 elt fe)
    (hsw : swapsWith (.ListComp elt [⟨tg, iter, ifs, 0⟩] scope pos) (some (.Name y py)) spos.line X.env = pure true := by rfl)
    (his : ∀ j ∈ is, j ∈ own.map (·.2) := by decide) (hgl : GLen g := by first | exact gN_len | exact gT_len | exact gL_len) (hy : X.N[i]? = some y := by rfl) (hyl : X.env.scope.names.lookup y = some .local := by rfl) (hs : ∀ x, foldedSetIterable iter X.env x = pure x := by intro _; rfl) :
    DS Γ X W (.Assign [.Name y py] (.ListComp elt [⟨tg, iter, ifs, 0⟩] scope pos) spos) (asg i (lcM (own.map (·.2)) fi g ft fe)) :=
  PS_imp (ps_setLc (wi := tI X.K Γ W fi) (g := tG X.K is g) (tt := tt X.K Γ W0 ft) (te := te X.K Γ W0 fe) hc hN hy hyl hsw hi ok (fun s H C cl fp => hg s H C cl fp) (fun s H C cl fp => ht s H C cl fp) (fun s H C cl fp => he s H C cl fp) hs) fun D σ H q => by
    have h := tS_asg D σ H q
    exact te_lc his hgl _ _ _ h
end
end
end DT
/-! DT: enumerate of a tuple; zip and enumerate as iterators over data -/
namespace DT
open PySem PySem.Spec PyProof.Rows L2
open PySem (sub_enumerate)

set_option maxHeartbeats 1000000 in
theorem meets_enum1 {v : Value} {o : Obj} {H : Heap → Prop} (B : Begins v o H) :
    Meets (Builtin.«enumerate.__new__» ⟨[.type "enumerate", v], []⟩) (fun _ R s => H s.heap ∧
      R (.ok (.ret (.ref (s.heap.push o).objs.size))) { s with heap := (s.heap.push o).push { cls := .type "enumerate", data := .fields #[.none, .bool false, .ref s.heap.objs.size, rawInt 0, .none, .none] } }) :=
  .of_wp fun prog w A R s h => by
    obtain ⟨hp, g, dd, tk, os⟩ := s; obtain ⟨h1, h⟩ := h
    have hsub := sub_enumerate
    have qi : ∀ {A' : Around} {E : Value → Shared → Prop} {Q : Value → Shared → Prop}, Q (.ref hp.objs.size) ⟨hp.push o, g, dd, tk, os⟩ → wpAny (model prog w) A' (pyIter v) Q E ⟨hp, g, dd, tk, os⟩ :=
      fun q => B.iter prog w _ _ ⟨hp, g, dd, tk, os⟩ _ h1 q
    wp_walk using qi
    refine wpAny_stack_any fun st => wpAny_pure ?_
    split
    · rename_i c _ _ _ _ _
      cases (c == Value.type "enumerate")
      · wp_walk using qi
        exact ⟨_, rfl, h⟩
      · wp_walk using qi
        exact ⟨_, rfl, h⟩
    · wp_walk using qi
      exact ⟨_, rfl, h⟩
section
variable {prog : Program} {w : World} {A : Around} {E : Value → Shared → Prop} {s : Shared}
theorem enum1_begins {v : Value} {o : Obj} {H : Heap → Prop} {Q : Value → Shared → Prop} (B : Begins v o H) (h1 : H s.heap)
    (h : ∀ h', IsEnum h' (s.heap.objs.size + 1) s.heap.objs.size 0 .none → h'.get? s.heap.objs.size = some o → h'.objs.size = s.heap.objs.size + 2 →
      (∀ b o, s.heap.get? b = some o → h'.get? b = some o) → Q (.ref (s.heap.objs.size + 1)) { s with heap := h' }) :
    wpAny (model prog w) A (call (.type "enumerate") [v]) Q E s := by
  refine callType_new F.called_enumerate (by decide) (F.typeCall_enumerate_1 _) (F.newCall_enumerate_1 _) (fun obj => F.args_object_init_2 obj _) F.entry_enumerate_new (meets_enum1 B) ⟨h1, ?_⟩
  have hz : (s.heap.push o).objs.size = s.heap.objs.size + 1 := Heap.size_push ..
  show _ ∧ _
  rw [hz]
  have he : IsEnum ((s.heap.push o).push { cls := .type "enumerate", data := .fields #[.none, .bool false, .ref s.heap.objs.size, rawInt 0, .none, .none] }) (s.heap.objs.size + 1) s.heap.objs.size 0 .none := by
    have := Heap.get?_push_size (s.heap.push o) (o := { cls := .type "enumerate", data := .fields #[.none, .bool false, .ref s.heap.objs.size, rawInt 0, .none, .none] }) rfl
    rw [hz] at this; exact this
  exact ⟨⟨_, he, rfl⟩, h _ he (Heap.get?_push_of_some _ (Heap.get?_push_size _ B.free)) (by rw [Heap.size_push, hz]) fun b o x => Heap.get?_push_of_some _ (Heap.get?_push_of_some _ x)⟩
end

/-- index and item of the tuple at a -/
def IteT (K : PySem.W.Frag) (a : Addr) : It :=
  ⟨fun i H => ∃ (xs : List V) (x : V), SqT K H a xs ∧ xs[i]? = some x, fun i H v H' => ∃ T x, v = .ref T ∧ H T = none ∧ H' = upd H T (.tup [.int (i : Nat), x]) ∧ ∀ xs, SqT K H a xs → xs[i]? = some x, fun i H => ∃ xs : List V, SqT K H a xs ∧ xs.length ≤ i⟩
theorem turn_enumT {P : Program} {w : World} {K : PySem.W.Frag} {elts : List Expr} {kk : Nat} {tpos : Pos} (a e it : Addr) :
    Turn P w K (.Tuple elts kk tpos) (IteT K a) [e, it] e (fun i h => (∃ old, IsEnum h e it ((i : Nat) : Int) old) ∧ h.IsTupleIter it a i ∧ e ≠ it ∧ e ≠ a ∧ a ≠ it) where
  mem := by simp
  obj := fun i h st b hb => by
    obtain ⟨⟨old, he⟩, ⟨o, ho, hc, hd⟩, _⟩ := st
    have e' : b = e ∨ b = it := by simpa using hb
    rcases e' with z | z
    · rw [z]; exact ⟨_, he, fun v q => nomatch q⟩
    · rw [z]; exact ⟨o, ho, fun v q => by rw [hd] at q; cases q⟩
  keep := fun i h h' st k => let ⟨⟨old, he⟩, hi, hne⟩ := st; ⟨⟨old, k e (by simp) _ he⟩, hi.at fun o q => k it (by simp) o q, hne⟩
  item := by
    intro X hP hw hK hc i pins s σ H E I hf st hg
    subst hP hw hK
    obtain ⟨⟨old, he⟩, hit, hne, hea, hai⟩ := st
    obtain ⟨xs, x, hq, hx⟩ := hg
    obtain ⟨its, rv, p, hz⟩ := I.tuple hq
    obtain ⟨u, hu, ru⟩ := rv.get hx
    have hel : e < s.heap.objs.size := Heap.lt_size he
    have hil : it < s.heap.objs.size := by obtain ⟨_, q, _⟩ := hit; exact Heap.lt_size q
    have D : Draws X.prog X.w X.A.in1 it [it, a] its.toArray.size (fun i v => its.toArray[i]? = some v) (fun i h => h.IsTupleIter it a i ∧ h.IsTuple a its.toArray) :=
      Draws.tuple (show X.A.in1.handled = none from I.ok.hd hc) it a hai its.toArray
    have hlt : i < its.toArray.size := by
      have := (List.getElem?_eq_some_iff.mp hu).1; simpa using this
    refine wpAny_pyNext_enum_itemD D he ⟨hit, p⟩ hlt hne (by simp [hne, hea]) fun x' h' tk hP ho hs' hT hsz hk => ?_
    have ex : x' = u := by
      have hP : its.toArray[i]? = some x' := hP
      rw [show its.toArray[i]? = its[i]? by simp, hu] at hP; cases hP; rfl
    subst ex
    refine ⟨_, rfl, wpAny_letOwnedTupleGo_enum (s := { s with heap := h', toks := tk + 1 }) ho fun h'' he' sb => ?_⟩
    have hT2 : h''.get? s.heap.objs.size = some { cls := .type "tuple", data := .seq #[.int i tk, x'] } := (sb.2 _ (Nat.ne_of_gt hel)).trans hT
    have new : ObjOk X.prog X.w (upd H s.heap.objs.size (.tup [.int (i : Nat), x])) h'' s.heap.objs.size (.tup [.int (i : Nat), x]) :=
      ⟨by show 2 ≤ sizeLine; decide, [.int i tk, x'], .cons ⟨_, rfl⟩ (.cons ru .nil), ⟨_, hT2, rfl, _, rfl⟩⟩
    have I1 : Inv X pins σ (upd H s.heap.objs.size (.tup [.int (i : Nat), x])) { s with heap := h'', toks := tk + 1 } :=
      I.turnedNew (ch := [e, it]) (fun b ob hb q => (sb.2 b (fun z => hb (by simp [z]))).trans (hk b ob (fun z => hb (by simp [z])) (fun z => hb (by simp [z])) q)) hf (Nat.le_refl _) new
    refine ⟨.ref s.heap.objs.size, _, I1, rfl, ⟨_, x, rfl, I.hok.fresh (Nat.le_refl _), rfl, fun ys hy => by rw [I.tuple_inj hy hq]; exact hx⟩, ⟨⟨x', ?_⟩, hs'.1.at fun o q => (sb.2 it (Ne.symm hne)).trans q, hne, hea, hai⟩, fun b hb => ?_⟩
    · have e1 : ((i + 1 : Nat) : Int) = (i : Int) + 1 := by omega
      rw [e1]; exact he'
    · have hb' : b < s.heap.objs.size := by
        have e' : b = e ∨ b = it := by simpa using hb
        rcases e' with z | z
        · rw [z]; exact hel
        · rw [z]; exact hil
      rw [upd_ne (Nat.ne_of_lt hb')]
      exact (hf b hb).1
  done := by
    intro X hP hw hK hc i pins s σ H E I hf st hg
    subst hP hw hK
    obtain ⟨⟨old, he⟩, hit, hne, hea, hai⟩ := st
    obtain ⟨xs, hq, hx⟩ := hg
    obtain ⟨its, rv, p, hz⟩ := I.tuple hq
    obtain ⟨f0, f1, f2, f3, f4, f5⟩ := hf it (by simp)
    have hl := rv.length
    have D : Draws X.prog X.w X.A.in1 it [it, a] 0 (fun _ _ => True) (fun _ h => h.IsTupleIter it a i ∧ h.IsTuple a its.toArray) :=
      { live := fun _ _ st => let ⟨o, ho, _⟩ := st.1; ⟨o, ho⟩
        frame := fun _ _ _ st hk => ⟨st.1.at fun o e => hk it (by simp) o e, st.2.at fun o e => hk a (by simp) o e⟩
        item := fun _ _ _ _ z => absurd z (Nat.not_lt_zero _)
        done := fun s Q E st hE => wpAny_nextOf_tuple_end (show X.A.in1.handled = none from I.ok.hd hc) st.1 st.2 (by rw [show its.toArray[i]? = its[i]? by simp]; exact List.getElem?_eq_none (by omega)) hE }
    exact wpAny_pyNext_enum_endD D he ⟨hit, p⟩ fun h' eb => ⟨rfl, I.turned (t' := s.toks) (fun b o hb q => eb b o hb q) f0 f1 f3 f4 f5⟩
  self := fun A i s Q E st h => let ⟨⟨_, he⟩, _⟩ := st; wpAny_pyIter_enum he h

/-- enumerate of a list or a tuple -/
def iEnumA (K : PySem.W.Frag) (ta : TA) : TI := fun σ H R => ta σ H fun vs H1 => ∃ a, vs = [.ref a] ∧ (((∃ xs, SqL K H1 a xs) ∧ R (Ite K a) H1) ∨ ((∃ xs, SqT K H1 a xs) ∧ R (IteT K a) H1))
theorem pi_enumA {X : Cx} {e : Expr} {ta : TA} {p pos tpos : Pos} {elts : List Expr} {kk : Nat} (hg : Gl X "enumerate") (hm : X.mg "enumerate" = none) (ha : PA X [e] ta) (hs : starEach [e] X.env = [(false, eval e X.env)] := by rfl) :
    PI X (.Tuple elts kk tpos) (.Call (.Name "enumerate" p) [e] [] pos) (iEnumA X.K ta) := by
  refine ⟨fun pins s σ H R I h => ?_⟩
  refine Call_ (ld_blt I hg hm boot_enumerate (PyProof.Rows.callWith_type1 (thn (ha.run pos pins s σ H _ I h) fun us s1 ⟨vs, H1, I1, r1, q1⟩ => ?_) hs rfl))
  obtain ⟨a, ex, alt⟩ := q1
  subst ex
  cases r1 with
  | cons r rr =>
    cases rr
    cases r
    have own : ∀ b ∈ [s1.heap.objs.size + 1, s1.heap.objs.size], FpOk X pins H1 b := fun b hb => by
      have e' : b = s1.heap.objs.size + 1 ∨ b = s1.heap.objs.size := by simpa using hb
      have hle : s1.heap.objs.size ≤ b := by
        rcases e' with z | z
        · rw [z]; exact Nat.le_add_right _ _
        · rw [z]; exact Nat.le_refl _
      exact I1.fpOk hle (I1.hok.fresh hle)
    rcases alt with ⟨⟨xs, hq⟩, q⟩ | ⟨⟨xs, hq⟩, q⟩
    · obtain ⟨its, rv, p', hz⟩ := I1.list hq
      refine call_enumerate_list p'.isList fun h' he hit hsz hk => wpAny_pyIter_enum he ?_
      have I2 : Inv X pins σ H1 { s1 with heap := h' } := I1.kept (t' := s1.toks) hk
      exact ⟨s1.heap.objs.size + 1, [s1.heap.objs.size + 1, s1.heap.objs.size], _, _, H1, rfl, I2, turn_enum a (s1.heap.objs.size + 1) s1.heap.objs.size, ⟨⟨.none, he⟩, hit, Nat.succ_ne_self _⟩, own, q⟩
    · obtain ⟨its, rv, p', hz⟩ := I1.tuple hq
      have p2 : s1.heap.IsTuple a its.toArray := p'
      have hal : a < s1.heap.objs.size := by obtain ⟨_, z, _⟩ := p2; exact Heap.lt_size z
      refine enum1_begins (begins_tuple a its.toArray) p2 fun h' he hit hsz hk => wpAny_pyIter_enum he ?_
      have I2 : Inv X pins σ H1 { s1 with heap := h' } := I1.kept (t' := s1.toks) hk
      exact ⟨s1.heap.objs.size + 1, [s1.heap.objs.size + 1, s1.heap.objs.size], _, _, H1, rfl, I2, turn_enumT a (s1.heap.objs.size + 1) s1.heap.objs.size, ⟨⟨.none, he⟩, ⟨_, hit, rfl, rfl⟩, Nat.succ_ne_self _, Nat.ne_of_gt (Nat.lt_succ_of_lt hal), Nat.ne_of_lt hal⟩, own, q⟩

def zpD : Nat → List D → List D
  | _, [] => []
  | i, d :: ds => .tuple [.int (i : Int), d] :: zpD (i + 1) ds
theorem zpD_get : ∀ (ds : List D) (n i : Nat), (zpD n ds)[i]? = (ds[i]?).map fun d => .tuple [.int ((n + i : Nat) : Int), d]
  | [], _, _ => by simp [zpD]
  | d :: ds, n, 0 => by simp [zpD]
  | d :: ds, n, i + 1 => by
    unfold zpD
    rw [List.getElem?_cons_succ, List.getElem?_cons_succ, zpD_get ds (n + 1) i]
    rw [show n + 1 + i = n + (i + 1) by omega]
theorem zpD_len : ∀ (ds : List D) (n : Nat), (zpD n ds).length = ds.length
  | [], _ => rfl
  | d :: ds, n => by unfold zpD; rw [List.length_cons, List.length_cons, zpD_len]
def enW (ws : List Wv) : M (List D) := match ws with
  | [w] => bnd (itW w) fun ds => ret (zpD 0 ds)
  | _ => fail
def pairD (x y : D) : D := .tuple [x, y]
def ziW (ws : List Wv) : M (List D) := bnd (frzAll ws) fun ds => match ds with
  | [.list xs, .list ys] => ret (List.zipWith pairD xs ys)
  | [.tuple xs, .tuple ys] => ret (List.zipWith pairD xs ys)
  | _ => fail
section
variable {K : PySem.W.Frag} {Γ : Gm} {W : WX} {F : Fm} {G : Hp}
theorem wlk_enL {a : Addr} {vs : List V} {ds : List D} (h : SqL K G a vs) (d : DvAll K G vs ds) : Wlk K F G (Ite K a) (zpD 0 ds) := fun G1 ρ ts ss σ H i g R => by
  refine ⟨fun e he => ?_, fun hl => ⟨vs, R.sub.seq (g.seq h), by rw [d.length, ← zpD_len ds 0]; exact hl⟩⟩
  rw [zpD_get, Option.map_eq_some_iff] at he
  obtain ⟨e, he, rfl⟩ := he
  obtain ⟨v, hv, dv⟩ := d.get' he
  refine ⟨⟨vs, v, R.sub.seq (g.seq h), hv⟩, fun x H' y => ?_⟩
  obtain ⟨T, x, rfl, hT, rfl, y⟩ := y
  have e2 := y vs (R.sub.seq (g.seq h))
  rw [hv] at e2; cases e2
  have gp : G1 T = none := R.sub.free hT
  refine ⟨upd G1 T (.tup [.int (i : Nat), v]), sm_grow gp, R.frozen hT, .tup upd_same (.cons ?_ (.cons ((dv.mono g).mono (sm_grow gp)) .nil))⟩
  rw [Nat.zero_add]; exact .int _
theorem wlk_enT {a : Addr} {vs : List V} {ds : List D} (h : G a = some (.tup vs)) (d : DvAll K G vs ds) : Wlk K F G (IteT K a) (zpD 0 ds) := fun G1 ρ ts ss σ H i g R => by
  have hq : SqT K H a vs := .of (R.sub _ _ (g _ _ h))
  refine ⟨fun e he => ?_, fun hl => ⟨vs, hq, by rw [d.length, ← zpD_len ds 0]; exact hl⟩⟩
  rw [zpD_get, Option.map_eq_some_iff] at he
  obtain ⟨e, he, rfl⟩ := he
  obtain ⟨v, hv, dv⟩ := d.get' he
  refine ⟨⟨vs, v, hq, hv⟩, fun x H' y => ?_⟩
  obtain ⟨T, x, rfl, hT, rfl, y⟩ := y
  have e2 := y vs hq
  rw [hv] at e2; cases e2
  have gp : G1 T = none := R.sub.free hT
  refine ⟨upd G1 T (.tup [.int (i : Nat), v]), sm_grow gp, R.frozen hT, .tup upd_same (.cons ?_ (.cons ((dv.mono g).mono (sm_grow gp)) .nil))⟩
  rw [Nat.zero_add]; exact .int _

theorem zip_get {xs ys : List D} {i : Nat} {e : D} (h : (List.zipWith pairD xs ys)[i]? = some e) : ∃ x y, xs[i]? = some x ∧ ys[i]? = some y ∧ e = pairD x y := by
  rw [List.getElem?_zipWith] at h
  split at h
  · rename_i x y e1 e2; cases h; exact ⟨x, y, e1, e2, rfl⟩
  · cases h
theorem wlk_ziL {a b : Addr} {vs us : List V} {ds es : List D} (h : SqL K G a vs) (d : DvAll K G vs ds) (h2 : SqL K G b us) (d2 : DvAll K G us es) : Wlk K F G (Itz K a b) (List.zipWith pairD ds es) := fun G1 ρ ts ss σ H i g R => by
  have q1 : SqL K H a vs := R.sub.seq (g.seq h)
  have q2 : SqL K H b us := R.sub.seq (g.seq h2)
  refine ⟨fun e he => ?_, fun hl => ⟨vs, us, q1, q2, by rw [List.length_zipWith] at hl; rw [d.length, d2.length]; omega⟩⟩
  obtain ⟨x0, y0, hx, hy, rfl⟩ := zip_get he
  obtain ⟨v, hv, dv⟩ := d.get' hx
  obtain ⟨u, hu, du⟩ := d2.get' hy
  refine ⟨⟨vs, us, v, u, q1, q2, hv, hu⟩, fun x H' y => ?_⟩
  obtain ⟨T, x, y', rfl, hT, rfl, z1, z2⟩ := y
  have e1 := z1 vs q1
  have e2 := z2 us q2
  rw [hv] at e1; cases e1
  rw [hu] at e2; cases e2
  have gp : G1 T = none := R.sub.free hT
  exact ⟨upd G1 T (.tup [v, u]), sm_grow gp, R.frozen hT, .tup upd_same (.cons ((dv.mono g).mono (sm_grow gp)) (.cons ((du.mono g).mono (sm_grow gp)) .nil))⟩
theorem wlk_ziT {a b : Addr} {vs us : List V} {ds es : List D} (h : G a = some (.tup vs)) (d : DvAll K G vs ds) (h2 : G b = some (.tup us)) (d2 : DvAll K G us es) : Wlk K F G (RZ.ItzT K a b) (List.zipWith pairD ds es) := fun G1 ρ ts ss σ H i g R => by
  have q1 : SqT K H a vs := .of (R.sub _ _ (g _ _ h))
  have q2 : SqT K H b us := .of (R.sub _ _ (g _ _ h2))
  refine ⟨fun e he => ?_, fun hl => ⟨vs, us, q1, q2, by rw [List.length_zipWith] at hl; rw [d.length, d2.length]; omega⟩⟩
  obtain ⟨x0, y0, hx, hy, rfl⟩ := zip_get he
  obtain ⟨v, hv, dv⟩ := d.get' hx
  obtain ⟨u, hu, du⟩ := d2.get' hy
  refine ⟨⟨vs, us, v, u, q1, q2, hv, hu⟩, fun x H' y => ?_⟩
  obtain ⟨T, x, y', rfl, hT, rfl, z1, z2⟩ := y
  have e1 := z1 vs q1
  have e2 := z2 us q2
  rw [hv] at e1; cases e1
  rw [hu] at e2; cases e2
  have gp : G1 T = none := R.sub.free hT
  exact ⟨upd G1 T (.tup [v, u]), sm_grow gp, R.frozen hT, .tup upd_same (.cons ((dv.mono g).mono (sm_grow gp)) (.cons ((du.mono g).mono (sm_grow gp)) .nil))⟩
theorem RelWs.un1 {ρ : Nat → Addr} {ts : List (Addr × Con)} {ss : Sl} {σ : L2.St} {H : Hp} {w : Wv} {v : V} (r : RelWs K F G ρ ss σ H ts [w] [v]) : RelW K F G ρ ts ss σ H w v := by
  cases w with
  | val d => exact ⟨r.2, r.1⟩
  | new c => exact r
  | bor i => exact ⟨r.2, r.1⟩
  | rol xs => exact ⟨r.2, r.1⟩
theorem OutI.gg {ts : List (Addr × Con)} {σ : L2.St} {R : It → Hp → Prop} {r : Option (Rs (List D))} {G' : Hp} (g : Same G G') (q : OutI K Γ W F G ts σ R r) : OutI K Γ W F G' ts σ R r := by
  cases r with
  | none => exact q
  | some r => cases r with
    | ok items s => exact fun J H2 G2 ρ2 g2 R2 wk => q J H2 G2 ρ2 (g.trans g2) R2 wk
    | ex x s => exact fun H2 G2 ρ2 cls d g2 R2 xn => q H2 G2 ρ2 cls d (g.trans g2) R2 xn
theorem tI_en {fa : M (List Wv)} : ∀ σ H R, tI K Γ W (bnd fa enW) σ H R → iEnumA K (ta K Γ W fa) σ H R := fun σ H Rr q => tI_thenA q fun F G ρ ts ss H ws vs r q => by
  unfold enW at q
  split at q
  · rename_i w
    obtain ⟨x, rfl⟩ := one_of r
    unfold bnd at q
    cases e : itW w ss with
    | none => rw [e] at q; exact q.elim
    | some r2 =>
      cases r2 with
      | ex x s2 => exact absurd e itW_noex
      | ok ds s2 =>
        rw [e] at q
        obtain ⟨G2, a, us, g2, R2, rfl, d2, alt⟩ := itW_ok r.un1 e
        rcases alt with h | h
        · exact ⟨a, rfl, .inl ⟨⟨us, R2.sub.seq h⟩, q _ H G2 ρ g2 R2 (wlk_enL h d2)⟩⟩
        · exact ⟨a, rfl, .inr ⟨⟨us, .of (R2.sub _ _ h)⟩, q _ H G2 ρ g2 R2 (wlk_enT h d2)⟩⟩
  · exact q.elim
theorem tI_zi {fa : M (List Wv)} : ∀ σ H R, tI K Γ W (bnd fa ziW) σ H R → RZ.iZipA K (ta K Γ W fa) σ H R := fun σ H Rr q => tI_thenA q fun F G ρ ts ss H ws vs r q => by
  unfold ziW bnd at q
  cases e : frzAll ws ss with
  | none => rw [e] at q; exact q.elim
  | some r2 =>
    cases r2 with
    | ex x s2 => exact absurd e frzAll_noex
    | ok ds s2 =>
      rw [e] at q
      obtain ⟨G2, g2, R2, d2⟩ := frzAll_ok r e
      dsimp only at q
      split at q
      · rename_i xs ys
        cases d2 with
        | cons x1 t1 => cases t1 with
          | cons x2 t2 => cases t2; cases x1 with
            | lst h1 a1 => cases x2 with
              | lst h2 a2 => exact ⟨_, _, _, _, rfl, .inl ⟨.of (R2.sub _ _ h1), .of (R2.sub _ _ h2), q _ H G2 ρ g2 R2 (wlk_ziL (.of h1) a1 (.of h2) a2)⟩⟩
      · rename_i xs ys
        cases d2 with
        | cons x1 t1 => cases t1 with
          | cons x2 t2 => cases t2; cases x1 with
            | tup h1 a1 => cases x2 with
              | tup h2 a2 => exact ⟨_, _, _, _, rfl, .inr ⟨.of (R2.sub _ _ h1), .of (R2.sub _ _ h2), q _ H G2 ρ g2 R2 (wlk_ziT h1 a1 h2 a2)⟩⟩
      · exact q.elim
end
section
variable {Γ : Gm} {X : Cx} {W : WX} {tg a b : Expr} {fa fb : M Wv} {ga : M (List Wv)} {p pos tpos : Pos} {elts : List Expr} {kk : Nat}
theorem di_enum (hm : X.mg "enumerate" = none) (ha : DA Γ X W [a] ga) (hg : Gl X "enumerate" := by rfl) (hs : starEach [a] X.env = [(false, eval a X.env)] := by rfl) : DI Γ X W (.Tuple elts kk tpos) (.Call (.Name "enumerate" p) [a] [] pos) (bnd ga enW) :=
  PI_imp (pi_enumA hg hm ha hs) tI_en
theorem di_zip (hm : X.mg "zip" = none) (ha : DA Γ X W [a, b] ga) (hg : Gl X "zip" := by rfl) (hs : starEach [a, b] X.env = (false, eval a X.env) :: starEach [b] X.env := by rfl) (hpl : (backTo pos (starEach [b] X.env)).any (·.1) = false := by rfl) :
    DI Γ X W (.Tuple elts kk tpos) (.Call (.Name "zip" p) [a, b] [] pos) (bnd ga ziW) := PI_imp (RZ.pi_zipA hg hm ha hs hpl) tI_zi
theorem di_rng1 (hm : X.mg "range" = none) (ha : DE Γ X W a fa) (hg : Gl X "range" := by rfl) (hs : starEach [a] X.env = [(false, eval a X.env)] := by rfl) : DI Γ X W tg (.Call (.Name "range" p) [a] [] pos) (bnd (acons fa anil) rng1W) :=
  PI_imp (pi_range1 hg hm (da_cons ha da_nil hs) hs) tI_rng1
theorem di_rng2 (hm : X.mg "range" = none) (ha : DE Γ X W a fa) (hb : DE Γ X W b fb) (hg : Gl X "range" := by rfl) (hs : starEach [a, b] X.env = [(false, eval a X.env), (false, eval b X.env)] := by rfl) (hs2 : starEach [b] X.env = [(false, eval b X.env)] := by rfl) : DI Γ X W tg (.Call (.Name "range" p) [a, b] [] pos) (bnd (acons fa (acons fb anil)) rng2W) :=
  PI_imp (pi_range2 hg hm (da_cons ha (da_cons hb da_nil hs2) (by rw [hs, hs2])) hs hs2) tI_rng2
end
end DT
/-! DT: defs and calls -/
namespace DT
open PySem PySem.Spec PyProof.Rows L2

/-- an argument: data; a container lent; a container given away; a read-only list -/
inductive Ar where
  | val (d : D)
  | own (c : Con)
  | giv (c : Con)
  | rol (xs : List D)
def argS : Ar → Slot
  | .val d => .val false d
  | .own c => .own true c
  | .giv c => .own false c
  | .rol xs => .rol xs
abbrev Fn := List Ar → Option (Rs Wv)
def isOwnA : Ar → Bool
  | .own _ => true
  | .giv _ => true
  | _ => false
def ArAt (K : PySem.W.Frag) (G H : Hp) : Ar → V → Prop
  | .val d, v => Dv K G v d
  | .own c, v => ∃ p o, v = .ref p ∧ H p = some o ∧ ConAt K G c o ∧ G p = none
  | .giv c, v => ∃ p o, v = .ref p ∧ H p = some o ∧ ConAt K G c o ∧ G p = none
  | .rol xs, v => ∃ a us, v = .ref a ∧ SqL K G a us ∧ DvAll K G us xs
/-- the addresses that are handed over -/
def fpOf (as : List Ar) (vs : List V) : Addr → Prop := fun b => ∃ (j : Nat) (a : Ar), as[j]? = some a ∧ isOwnA a = true ∧ vs[j]? = some (.ref b)
/-- what stands behind a lent container -/
def BackAt (K : PySem.W.Frag) (G H : Hp) (p : Addr) : Slot → Prop
  | .own _ c => G p = none ∧ ∃ o, H p = some o ∧ ConAt K G c o
  | .val _ d => Dv K G (.ref p) d
  | _ => False
structure Back (K : PySem.W.Frag) (G H G' H' : Hp) (as : List Ar) (vs : List V) (s' : Sl) : Prop where
  g : Same G G'
  gh : Same G' H'
  keep : ∀ b o, H b = some o → ¬ fpOf as vs b → H' b = some o
  fz : ∀ b, G' b ≠ none → G b ≠ none ∨ H b = none ∨ fpOf as vs b
  at_ : ∀ (j : Nat) (c : Con) (p : Addr) (s : Slot), as[j]? = some (.own c) → vs[j]? = some (.ref p) → s'[j]? = some s → (∃ c', s = .own true c') ∨ (∃ d, s = .val true d) → BackAt K G' H' p s
/-- a def's answer -/
def ValAt (K : PySem.W.Frag) (H G' H' : Hp) (as : List Ar) (vs : List V) (s' : Sl) : Wv → V → Prop
  | .val d, v => Dv K G' v d
  | .new c, v => ∃ p o, v = .ref p ∧ H' p = some o ∧ ConAt K G' c o ∧ G' p = none ∧ (H p = none ∨ fpOf as vs p) ∧ ∀ (j : Nat) (c' : Con), s'[j]? = some (.own true c') → vs[j]? ≠ some (.ref p)
  | _, _ => False
def OutF (K : PySem.W.Frag) (Γ : Gm) (G H : Hp) (as : List Ar) (vs : List V) (Q : VK) (E : XK) : Option (Rs Wv) → Prop
  | none => False
  | some (.ok w s) => ∀ v H' G', Back K G H G' H' as vs s → ValAt K H G' H' as vs s w v → Q v H'
  | some (.ex x s) => ∀ H' G' cls d, Back K G H G' H' as vs s → XnAt Γ H' x cls d → E cls d H'
/-- lent and given containers are different ones -/
def Apart2 (as : List Ar) (vs : List V) : Prop := ∀ (i j : Nat) (a b : Ar) (p : Addr), as[i]? = some a → as[j]? = some b → isOwnA a = true → isOwnA b = true → vs[i]? = some (.ref p) → vs[j]? = some (.ref p) → i = j
/-- a def's promise -/
def spD (K : PySem.W.Frag) (Γ : Gm) (n : Nat) (F : Fn) : Sp := fun vs H Q E => ∃ (as : List Ar) (G : Hp), vs.length = n ∧ as.length = n ∧ Same G H ∧ (∀ (j : Nat) a v, as[j]? = some a → vs[j]? = some v → ArAt K G H a v) ∧ Apart2 as vs ∧ OutF K Γ G H as vs Q E (F as)

/-! ### a def from its body -/
def iniS (N : Nat) (as : List Ar) : Sl := as.map argS ++ List.replicate (N - as.length) .un
/-- the answer leaves the frame -/
def endW : Wv → Sl → Option (Rs Wv)
  | .val d, s => some (.ok (.val d) s)
  | .new c, s => some (.ok (.new c) s)
  | .bor i, s => match s[i]? with
    | some (.val _ d) => some (.ok (.val d) s)
    | some (.own false c) => some (.ok (.new c) (s.set i .un))
    | _ => none
  | .rol _, _ => none
def okBack (as : List Ar) (s : Sl) : Bool := (as.zip s).all fun p => match p.1 with
  | .own _ => match p.2 with
    | .own true _ => true
    | .val true _ => true
    | _ => false
  | _ => true
def endR : Option (Rs SO) → Option (Rs Wv)
  | some (.ok .nx s) => some (.ok (.val .none) s)
  | some (.ok (.rt w) s) => endW w s
  | some (.ex x s) => some (.ex x s)
  | _ => none
def endF (N : Nat) (f : M SO) : Fn := fun as => endR (f (iniS N as))
section
variable {K : PySem.W.Frag} {Γ : Gm}
def adr : V → Addr
  | .ref p => p
  | _ => 0
def fmOf (G H : Hp) (as : List Ar) (vs : List V) : Fm := ⟨H, fpOf as vs, fun j => ((vs[j]?).map adr).getD 0, [], fun b => G b ≠ none⟩
theorem start_at {N : List Str} {vs : List V} {i : Nat} {v : V} (h : vs[i]? = some v) : (L2.start N vs)[i]? = some (some v) := by
  have hi := (List.getElem?_eq_some_iff.mp h).1
  unfold L2.start
  rw [List.getElem?_append_left (by simpa using hi), List.getElem?_map, h]; rfl
theorem iniS_at {N : Nat} {as : List Ar} {i : Nat} {s : Slot} (h : (iniS N as)[i]? = some s) : s = .un ∨ ∃ a, as[i]? = some a ∧ s = argS a := by
  unfold iniS at h
  by_cases hi : i < as.length
  · rw [List.getElem?_append_left (by simpa using hi), List.getElem?_map] at h
    cases e : as[i]? with
    | none => rw [e] at h; cases h
    | some a => rw [e] at h; cases h; exact .inr ⟨a, rfl, rfl⟩
  · rw [List.getElem?_append_right (by simpa using hi), List.getElem?_replicate] at h
    split at h
    · cases h; exact .inl rfl
    · cases h
theorem own_arg {a : Ar} (h : isOwn (argS a) = true) : isOwnA a = true := by cases a <;> first | rfl | cases h
theorem rel_start {N : List Str} {vs : List V} {as : List Ar} {G H : Hp} (hl : vs.length = as.length) (hn : as.length ≤ N.length) (s : Same G H) (h : ∀ (j : Nat) a v, as[j]? = some a → vs[j]? = some v → ArAt K G H a v) (ap : Apart2 as vs) :
    Rel K (fmOf G H as vs) G (fmOf G H as vs).q [] (iniS N.length as) (L2.start N vs) H := by
  have val : ∀ {i : Nat} {a : Ar}, as[i]? = some a → ∃ v, vs[i]? = some v := fun {i a} e => by
    have := (List.getElem?_eq_some_iff.mp e).1
    exact ⟨_, List.getElem?_eq_getElem (by omega)⟩
  have qat : ∀ {i : Nat} {p : Addr}, vs[i]? = some (.ref p) → (fmOf G H as vs).q i = p := fun {i p} e => by
    show ((vs[i]?).map adr).getD 0 = p
    rw [e]; rfl
  have ownat : ∀ {i : Nat} {s : Slot}, (iniS N.length as)[i]? = some s → isOwn s = true → ∃ a p o c, as[i]? = some a ∧ isOwnA a = true ∧ vs[i]? = some (.ref p) ∧ (fmOf G H as vs).q i = p ∧ H p = some o ∧ G p = none ∧ (∃ b, s = .own b c) ∧ ConAt K G c o := fun {i s} e w => by
    rcases iniS_at e with rfl | ⟨a, ha, rfl⟩
    · cases w
    · obtain ⟨v, hv⟩ := val ha
      have q := h i a v ha hv
      cases a with
      | val d => cases w
      | rol xs => cases w
      | own c => obtain ⟨p, o, rfl, z1, z2, z3⟩ := q; exact ⟨_, p, o, c, ha, rfl, hv, qat hv, z1, z3, ⟨_, rfl⟩, z2⟩
      | giv c => obtain ⟨p, o, rfl, z1, z2, z3⟩ := q; exact ⟨_, p, o, c, ha, rfl, hv, qat hv, z1, z3, ⟨_, rfl⟩, z2⟩
  refine ⟨s, fun b o e _ => e, ?_, fun i s e => ?_, fun i s e w => ?_, fun i j s t e1 e2 w1 w2 z => ?_, fun t ht => (by cases ht), List.nodup_nil, fun t ht => (by cases ht), List.nodup_nil, List.nodup_nil, fun b e => .inr (.inr e)⟩
  · unfold iniS L2.start
    rw [List.length_append, List.length_append, List.length_map, List.length_map, List.length_replicate, List.length_replicate, hl]
  · rcases iniS_at e with rfl | ⟨a, ha, rfl⟩
    · trivial
    · obtain ⟨v, hv⟩ := val ha
      have q := h i a v ha hv
      cases a with
      | val d => exact ⟨v, start_at hv, q, fun z => by cases z⟩
      | rol xs => obtain ⟨a, us, rfl, z1, z2⟩ := q; exact ⟨a, us, start_at hv, z1, z2⟩
      | own c => obtain ⟨p, o, rfl, z1, z2, z3⟩ := q; exact ⟨by rw [qat hv]; exact start_at hv, fun _ => rfl, o, by rw [qat hv]; exact z1, z2⟩
      | giv c => obtain ⟨p, o, rfl, z1, z2, z3⟩ := q; exact ⟨by rw [qat hv]; exact start_at hv, fun z => (by cases z), o, by rw [qat hv]; exact z1, z2⟩
  · obtain ⟨a, p, o, c, h1, h2, h3, h4, h5, h6, _⟩ := ownat e w
    rw [h4]; exact ⟨h6, .inr ⟨i, a, h1, h2, h3⟩⟩
  · obtain ⟨a, p, o, c, h1, h2, h3, h4, _⟩ := ownat e1 w1
    obtain ⟨a', p', o', c', h1', h2', h3', h4', _⟩ := ownat e2 w2
    rw [h4, h4'] at z; subst z
    exact ap i j a a' p h1 h1' h2 h2' h3 h3'
/-- the frame's end, told to the caller -/
theorem back_of {as : List Ar} {vs : List V} {G H G' H' : Hp} {ρ : Nat → Addr} {ts : List (Addr × Con)} {ss : Sl} {σ : L2.St} (g : Same G G') (R : Rel K (fmOf G H as vs) G' ρ ts ss σ H') : Back K G H G' H' as vs ss := by
  refine ⟨g, R.sub, R.frame, fun b e => ?_, fun j c p s h1 h2 h3 alt => ?_⟩
  · rcases R.gro b e with z | z | z
    · exact .inr (.inl z)
    · exact .inr (.inr z)
    · exact .inl z
  · have eq : (fmOf G H as vs).q j = p := by show ((vs[j]?).map adr).getD 0 = p; rw [h2]; rfl
    rcases alt with ⟨c', rfl⟩ | ⟨d, rfl⟩
    · obtain ⟨_, z2, o, z3, z4⟩ := R.slot j _ h3
      have z2 := z2 rfl
      have m := (R.own j _ h3 rfl).1
      rw [z2, eq] at z3 m
      exact ⟨m, o, z3, z4⟩
    · obtain ⟨v, z1, z2, z3⟩ := R.slot j _ h3
      have z3 := z3 rfl
      rw [eq] at z3; subst z3
      exact z2
theorem valAt_new {as : List Ar} {vs : List V} {G H G' H' : Hp} {ρ : Nat → Addr} {ss : Sl} {σ : L2.St} {p : Addr} {c : Con} (R : Rel K (fmOf G H as vs) G' ρ [(p, c)] ss σ H') : ValAt K H G' H' as vs ss (.new c) (.ref p) := by
  obtain ⟨⟨o, h1, h2⟩, ⟨h3, h4⟩, h5⟩ := R.tmp _ List.mem_cons_self
  refine ⟨p, o, rfl, h1, h2, h3, h4, fun j c' e z => ?_⟩
  obtain ⟨_, e2, _⟩ := R.slot j _ e
  have e2 := e2 rfl
  have eq : (fmOf G H as vs).q j = p := by show ((vs[j]?).map adr).getD 0 = p; rw [z]; rfl
  exact h5 j _ e rfl (by rw [e2, eq])
theorem outF_of {as : List Ar} {vs : List V} {G H : Hp} {Q : VK} {E : XK} {r : Option (Rs SO)} (q : OutF K Γ G H as vs Q E (endR r)) :
    OutS K Γ (fun cls d _ H => E cls d H) (fmOf G H as vs) G [] { nx := fun _ H' => Q .non H', rt := Q } r := by
  cases r with
  | none => exact q
  | some r =>
    cases r with
    | ex x s => exact fun σ' H' G' ρ' cls d g R xn => q H' G' cls d (back_of g R) xn
    | ok so s =>
      cases so with
      | nx => exact fun σ' H' G' ρ' g R => q .non H' G' (back_of g R) (show Dv K G' .non .none from .non)
      | bk => exact q.elim
      | ct => exact q.elim
      | rt w =>
        cases w with
        | rol xs => exact q.elim
        | val d => exact fun v σ' H' G' ρ' g r => q v H' G' (back_of g r.1) r.2
        | new c =>
          rintro v σ' H' G' ρ' g ⟨p, rfl, R⟩
          exact q _ H' G' (back_of g R) (valAt_new R)
        | bor i =>
          rintro v σ' H' G' ρ' g ⟨R, hv⟩
          unfold endR endW at q
          dsimp only at q
          cases e : s[i]? with
          | none => rw [e] at q; exact q.elim
          | some sl =>
            rw [e] at q
            cases sl with
            | un => exact q.elim
            | lk b c => exact q.elim
            | exn a => exact q.elim
            | rol xs => exact q.elim
            | val b d =>
              obtain ⟨v', e', dv, _⟩ := R.slot i _ e
              rw [hv] at e'; cases e'
              exact q v H' G' (back_of g R) dv
            | own b c =>
              cases b with
              | true => exact q.elim
              | false =>
                have e' := (R.slot i _ e).1
                rw [hv] at e'; cases e'
                have R2 := R.toT e
                exact q _ H' G' (back_of g R2) (valAt_new R2)
end

/-! ### the call's side -/
section
variable {K : PySem.W.Frag} {F : Fm} {G G' : Hp} {ρ : Nat → Addr} {ts : List (Addr × Con)} {ss ss' : Sl} {σ : L2.St} {H H' : Hp}
/-- the frame behind a call: what was lent is told anew -/
theorem Rel.after (R : Rel K F G ρ ts ss σ H) (S : Addr → Prop) (g : Same G G') (gh : Same G' H') (keep : ∀ b o, H b = some o → ¬ S b → H' b = some o) (fz : ∀ b, G' b ≠ none → G b ≠ none ∨ H b = none ∨ S b)
    (mine : ∀ b, S b → F.H0 b = none ∨ F.fp b) (nt : ∀ t ∈ ts, ¬ S t.1) (nl : ∀ t ∈ F.ls, ¬ S t.p) (hl : ss'.length = ss.length)
    (hs : ∀ i s, ss[i]? = some s → (ss'[i]? = some s ∧ (isOwn s = true → ¬ S (ρ i))) ∨ (∃ b c, s = .own b c ∧ ((∃ c', ss'[i]? = some (.own b c') ∧ G' (ρ i) = none ∧ ∃ o, H' (ρ i) = some o ∧ ConAt K G' c' o) ∨ ∃ d, ss'[i]? = some (.val b d) ∧ Dv K G' (.ref (ρ i)) d))) :
    Rel K F G' ρ ts ss' σ H' := by
  have hb : ∀ {i s'}, ss'[i]? = some s' → ∃ s, ss[i]? = some s := fun {i s'} e => by
    have := (List.getElem?_eq_some_iff.mp e).1
    exact ⟨_, List.getElem?_eq_getElem (by omega)⟩
  have own : ∀ {i s'}, ss'[i]? = some s' → isOwn s' = true → ∃ s, ss[i]? = some s ∧ isOwn s = true := fun {i s'} e w => by
    obtain ⟨s, h⟩ := hb e
    rcases hs i s h with ⟨z, _⟩ | ⟨b, c, rfl, _⟩
    · rw [e] at z; cases z; exact ⟨s', h, w⟩
    · exact ⟨_, h, rfl⟩
  have fz' : ∀ b, G b = none → H b ≠ none → ¬ S b → G' b = none := fun b e1 e2 e3 => by
    cases q : G' b with
    | none => rfl
    | some u =>
      rcases fz b (by rw [q]; simp) with z | z | z
      · exact absurd e1 z
      · exact absurd z e2
      · exact absurd z e3
  have km : ∀ b u, H b = some u → ¬ S b → Mine F G b → Mine F G' b := fun b u e n m => ⟨fz' b m.1 (by rw [e]; simp) n, m.2⟩
  refine ⟨gh, fun b u e nf => ?_, by rw [hl]; exact R.len, fun i s' e => ?_, fun i s' e w => ?_, fun i j s t e1 e2 w1 w2 z => ?_, fun t ht => ?_, R.nd, fun t ht => ?_, R.lnd, R.lpd, fun b e => ?_⟩
  · refine keep b u (R.frame b u e nf) fun z => ?_
    rcases mine b z with y | y
    · rw [y] at e; cases e
    · exact nf y
  · obtain ⟨s, h⟩ := hb e
    have q := R.slot i s h
    rcases hs i s h with ⟨z, w⟩ | ⟨b, c, rfl, ⟨c', z, m, o, h1, h2⟩ | ⟨d, z, dv⟩⟩
    · rw [e] at z; cases z
      cases s' with
      | un => trivial
      | val b d => obtain ⟨v, h1, h2, h3⟩ := q; exact ⟨v, h1, h2.mono g, h3⟩
      | own b c => obtain ⟨h1, h2, o, h3, h4⟩ := q; exact ⟨h1, h2, o, keep _ _ h3 (w rfl), h4.mono g⟩
      | lk b c => exact q
      | exn a => exact q
      | rol xs => obtain ⟨a, vs, h1, h2, h3⟩ := q; exact ⟨a, vs, h1, g.seq h2, h3.mono g⟩
    · rw [e] at z; cases z
      exact ⟨q.1, q.2.1, o, h1, h2⟩
    · rw [e] at z; cases z
      exact ⟨_, q.1, dv, fun z => by rw [q.2.1 z]⟩
  · obtain ⟨s, h⟩ := hb e
    rcases hs i s h with ⟨z, w2⟩ | ⟨b, c, rfl, ⟨c', z, m, o, h1, h2⟩ | ⟨d, z, dv⟩⟩
    · rw [e] at z; cases z
      obtain ⟨u, hu⟩ := R.owned h w
      exact km _ u hu (w2 w) (R.own i _ h w)
    · exact ⟨m, (R.own i _ h rfl).2⟩
    · rw [e] at z; cases z; cases w
  · obtain ⟨s1, h1, k1⟩ := own e1 w1
    obtain ⟨s2, h2, k2⟩ := own e2 w2
    exact R.inj i j s1 s2 h1 h2 k1 k2 z
  · obtain ⟨⟨o, h1, h2⟩, h3, h4⟩ := R.tmp t ht
    refine ⟨⟨o, keep _ _ h1 (nt t ht), h2.mono g⟩, km _ o h1 (nt t ht) h3, fun i s' e w => ?_⟩
    obtain ⟨s, h, k⟩ := own e w
    exact h4 i s h k
  · obtain ⟨⟨b, h1⟩, h2, h3, h4, h5, h6⟩ := R.lks t ht
    obtain ⟨u, hu⟩ := h3.ex
    obtain ⟨o, a1, a2, a3⟩ := h3
    refine ⟨⟨b, ?_⟩, h2, ⟨o, a1.mono g, fun e => keep _ _ (a2 e) (nl t ht), fun e => ?_⟩, km _ u hu (nl t ht) h4, fun i s' e w => ?_, h6⟩
    · rcases hs _ _ h1 with ⟨z, _⟩ | ⟨_, _, z, _⟩
      · exact z
      · cases z
    · obtain ⟨y, ob, z⟩ := a3 e
      exact ⟨y, ob, keep _ _ z (nl t ht)⟩
    · obtain ⟨s, h, k⟩ := own e w
      exact h5 i s h k
  · rcases fz b e with z | z | z
    · exact R.gro b z
    · cases h0 : F.H0 b with
      | none => exact .inl rfl
      | some u =>
        by_cases hf : F.fp b
        · exact .inr (.inl hf)
        · rw [R.frame b u h0 hf] at z; cases z
    · rcases mine b z with y | y
      · exact .inl y
      · exact .inr (.inl y)
end

def toAr (ss : Sl) : Wv → Option Ar
  | .val d => some (.val d)
  | .new c => some (.giv c)
  | .rol xs => some (.rol xs)
  | .bor i => match ss[i]? with
    | some (.val _ d) => some (.val d)
    | some (.own _ c) => some (.own c)
    | some (.rol xs) => some (.rol xs)
    | _ => none
def toArs (ss : Sl) : List Wv → Option (List Ar)
  | [] => some []
  | w :: ws => match toAr ss w, toArs ss ws with
    | some a, some as => some (a :: as)
    | _, _ => none
def borI : List Wv → List Nat
  | [] => []
  | .bor i :: ws => i :: borI ws
  | _ :: ws => borI ws
def nodupB : List Nat → Bool
  | [] => true
  | i :: is => !is.contains i && nodupB is
def backS : List Wv → Sl → Sl → Option Sl
  | [], _, ss => some ss
  | .bor i :: ws, s, ss => match ss[i]? with
    | some (.own b _) => match s.head? with
      | some (.own true c') => backS ws s.tail (ss.set i (.own b c'))
      | some (.val true d) => backS ws s.tail (ss.set i (.val b d))
      | _ => none
    | _ => backS ws s.tail ss
  | _ :: ws, s, ss => backS ws s.tail ss
def callM (n : Nat) (f : Fn) (ws : List Wv) : M Wv := fun ss => if (ws.length == n && nodupB (borI ws)) = true then match toArs ss ws with
  | some as => match f as with
    | some (.ok w s) => match backS ws s ss with
      | some ss' => some (.ok w ss')
      | none => none
    | some (.ex x s) => match backS ws s ss with
      | some ss' => some (.ex x ss')
      | none => none
    | none => none
  | none => none else none
theorem mem_borI {i : Nat} : ∀ {ws : List Wv} {j : Nat}, ws[j]? = some (.bor i) → i ∈ borI ws
  | [], _, e => by cases e
  | w :: ws, 0, e => by cases e; exact List.mem_cons_self
  | w :: ws, j + 1, e => by
    have h : i ∈ borI ws := mem_borI (j := j) (by simpa using e)
    cases w <;> first | exact h | exact List.mem_cons_of_mem _ h
theorem nodup_inj {i : Nat} : ∀ {ws : List Wv} {j k : Nat}, nodupB (borI ws) = true → ws[j]? = some (.bor i) → ws[k]? = some (.bor i) → j = k
  | [], _, _, _, e, _ => by cases e
  | w :: ws, 0, 0, _, _, _ => rfl
  | w :: ws, 0, k + 1, h, e1, e2 => by
    cases e1
    have hm : i ∈ borI ws := mem_borI (j := k) (by simpa using e2)
    unfold borI nodupB at h
    simp only [Bool.and_eq_true, Bool.not_eq_true', List.contains_eq_mem, decide_eq_false_iff_not] at h
    exact absurd hm h.1
  | w :: ws, j + 1, 0, h, e1, e2 => by
    cases e2
    have hm : i ∈ borI ws := mem_borI (j := j) (by simpa using e1)
    unfold borI nodupB at h
    simp only [Bool.and_eq_true, Bool.not_eq_true', List.contains_eq_mem, decide_eq_false_iff_not] at h
    exact absurd hm h.1
  | w :: ws, j + 1, k + 1, h, e1, e2 => by
    have h' : nodupB (borI ws) = true := by
      cases w <;> first | exact h | (unfold borI nodupB at h; simp only [Bool.and_eq_true] at h; exact h.2)
    have := nodup_inj (ws := ws) (j := j) (k := k) h' (by simpa using e1) (by simpa using e2)
    omega
theorem backS_len : ∀ {ws : List Wv} {s ss ss' : Sl}, backS ws s ss = some ss' → ss'.length = ss.length
  | [], _, _, _, e => by cases e; rfl
  | w :: ws, s, ss, ss', e => by
    cases w with
    | bor i =>
      unfold backS at e
      split at e
      · split at e
        · rw [backS_len e, List.length_set]
        · rw [backS_len e, List.length_set]
        · cases e
      · exact backS_len e
    | val d => exact backS_len (ws := ws) (s := s.tail) e
    | new c => exact backS_len (ws := ws) (s := s.tail) e
    | rol xs => exact backS_len (ws := ws) (s := s.tail) e
theorem backS_out {i : Nat} : ∀ {ws : List Wv} {s ss ss' : Sl}, backS ws s ss = some ss' → i ∉ borI ws → ss'[i]? = ss[i]?
  | [], _, _, _, e, _ => by cases e; rfl
  | w :: ws, s, ss, ss', e, h => by
    cases w with
    | bor k =>
      have hk : k ≠ i := fun z => h (by rw [z]; exact List.mem_cons_self)
      have hr : i ∉ borI ws := fun z => h (List.mem_cons_of_mem _ z)
      unfold backS at e
      split at e
      · split at e
        · rw [backS_out e hr, List.getElem?_set_ne hk]
        · rw [backS_out e hr, List.getElem?_set_ne hk]
        · cases e
      · exact backS_out e hr
    | val d => exact backS_out (ws := ws) (s := s.tail) e h
    | new c => exact backS_out (ws := ws) (s := s.tail) e h
    | rol xs => exact backS_out (ws := ws) (s := s.tail) e h
theorem tail_at {s : Sl} {j : Nat} : s.tail[j]? = s[j + 1]? := by cases s <;> simp
theorem backS_at {i : Nat} {b : Bool} {c : Con} : ∀ {ws : List Wv} {j : Nat} {s ss ss' : Sl}, nodupB (borI ws) = true → backS ws s ss = some ss' → ws[j]? = some (.bor i) → ss[i]? = some (.own b c) →
    (∃ c', s[j]? = some (.own true c') ∧ ss'[i]? = some (.own b c')) ∨ ∃ d, s[j]? = some (.val true d) ∧ ss'[i]? = some (.val b d)
  | [], _, _, _, _, _, _, e, _ => by cases e
  | w :: ws, 0, s, ss, ss', nd, e, e1, e2 => by
    cases e1
    have hi := (List.getElem?_eq_some_iff.mp e2).1
    have hr : i ∉ borI ws := by
      unfold borI nodupB at nd
      simp only [Bool.and_eq_true, Bool.not_eq_true', List.contains_eq_mem, decide_eq_false_iff_not] at nd
      exact nd.1
    unfold backS at e
    rw [e2] at e
    dsimp only at e
    split at e
    · rename_i c' h0
      refine .inl ⟨_, by rw [← List.head?_eq_getElem?]; exact h0, ?_⟩
      rw [backS_out e hr, List.getElem?_set_self hi]
    · rename_i d h0
      refine .inr ⟨_, by rw [← List.head?_eq_getElem?]; exact h0, ?_⟩
      rw [backS_out e hr, List.getElem?_set_self hi]
    · cases e
  | w :: ws, j + 1, s, ss, ss', nd, e, e1, e2 => by
    have e1 : ws[j]? = some (.bor i) := by simpa using e1
    have nd' : nodupB (borI ws) = true := by
      cases w <;> first | exact nd | (unfold borI nodupB at nd; simp only [Bool.and_eq_true] at nd; exact nd.2)
    rw [← tail_at]
    cases w with
    | bor k =>
      have hk : k ≠ i := fun z => by
        unfold borI nodupB at nd
        simp only [Bool.and_eq_true, Bool.not_eq_true', List.contains_eq_mem, decide_eq_false_iff_not] at nd
        exact nd.1 (by rw [z]; exact mem_borI e1)
      unfold backS at e
      split at e
      · split at e
        · exact backS_at (j := j) nd' e e1 (by rw [List.getElem?_set_ne hk]; exact e2)
        · exact backS_at (j := j) nd' e e1 (by rw [List.getElem?_set_ne hk]; exact e2)
        · cases e
      · exact backS_at (j := j) nd' e e1 e2
    | val d => exact backS_at (ws := ws) (j := j) (s := s.tail) nd' e e1 e2
    | new c => exact backS_at (ws := ws) (j := j) (s := s.tail) nd' e e1 e2
    | rol xs => exact backS_at (ws := ws) (j := j) (s := s.tail) nd' e e1 e2
theorem toArs_len {ss : Sl} : ∀ {ws : List Wv} {as : List Ar}, toArs ss ws = some as → as.length = ws.length
  | [], _, e => by cases e; rfl
  | w :: ws, as, e => by
    unfold toArs at e
    split at e
    · rename_i h; cases e; simp [toArs_len h]
    · cases e
theorem toArs_at {ss : Sl} : ∀ {ws : List Wv} {as : List Ar} {j : Nat} {a : Ar}, toArs ss ws = some as → as[j]? = some a → ∃ w, ws[j]? = some w ∧ toAr ss w = some a
  | [], _, j, a, e, e1 => by cases e; cases e1
  | w :: ws, as, j, a, e, e1 => by
    unfold toArs at e
    split at e
    · rename_i h1 h2
      cases e
      cases j with
      | zero => cases e1; exact ⟨w, rfl, h1⟩
      | succ j => exact toArs_at h2 (j := j) (by simpa using e1)
    · cases e

section
variable {K : PySem.W.Frag} {F : Fm} {G G' : Hp} {ρ : Nat → Addr} {ss ss' : Sl} {σ : L2.St} {H H' : Hp}
/-- values that wait: all new containers are temporaries -/
structure Arr (K : PySem.W.Frag) (F : Fm) (G : Hp) (ρ : Nat → Addr) (ss : Sl) (σ : L2.St) (H : Hp) (ts ts' : List (Addr × Con)) (ws : List Wv) (vs : List V) : Prop where
  R : Rel K F G ρ ts' ss σ H
  sub : ∀ t ∈ ts, t ∈ ts'
  nw : ∀ (j : Nat) (c : Con), ws[j]? = some (.new c) → ∃ p, vs[j]? = some (.ref p) ∧ (p, c) ∈ ts' ∧ ∀ t ∈ ts, t.1 ≠ p
  inj : ∀ (j k : Nat) (c d : Con) (p : Addr), ws[j]? = some (.new c) → ws[k]? = some (.new d) → vs[j]? = some (.ref p) → vs[k]? = some (.ref p) → j = k
  bo : ∀ (j i : Nat), ws[j]? = some (.bor i) → ∃ v, vs[j]? = some v ∧ σ[i]? = some (some v)
  vl : ∀ (j : Nat) (d : D), ws[j]? = some (.val d) → ∃ v, vs[j]? = some v ∧ Dv K G v d
  ro : ∀ (j : Nat) (xs : List D), ws[j]? = some (.rol xs) → ∃ a us, vs[j]? = some (.ref a) ∧ SqL K G a us ∧ DvAll K G us xs
theorem RelWs.arr : ∀ {ws : List Wv} {vs : List V} {ts : List (Addr × Con)}, RelWs K F G ρ ss σ H ts ws vs → ∃ ts', Arr K F G ρ ss σ H ts ts' ws vs
  | [], [], ts, r => ⟨ts, r, fun _ h => h, fun _ _ e => (by cases e), fun _ _ _ _ _ e => (by cases e), fun _ _ e => (by cases e), fun _ _ e => (by cases e), fun _ _ e => (by cases e)⟩
  | [], _ :: _, _, r => r.elim
  | w :: ws, [], _, r => by cases w <;> exact r.elim
  | .val d :: ws, v :: vs, ts, r => by
    obtain ⟨ts', A⟩ := RelWs.arr r.2
    refine ⟨ts', A.R, A.sub, fun j c e => ?_, fun j k c d p e1 e2 e3 e4 => ?_, fun j i e => ?_, fun j d e => ?_, fun j xs e => ?_⟩
    · cases j with
      | zero => cases e
      | succ j => exact A.nw j c (by simpa using e)
    · cases j with
      | zero => cases e1
      | succ j => cases k with
        | zero => cases e2
        | succ k => rw [A.inj j k c d p (by simpa using e1) (by simpa using e2) (by simpa using e3) (by simpa using e4)]
    · cases j with
      | zero => cases e
      | succ j => exact A.bo j i (by simpa using e)
    · cases j with
      | zero => cases e; exact ⟨v, rfl, r.1⟩
      | succ j => exact A.vl j d (by simpa using e)
    · cases j with
      | zero => cases e
      | succ j => exact A.ro j xs (by simpa using e)
  | .bor i0 :: ws, v :: vs, ts, r => by
    obtain ⟨ts', A⟩ := RelWs.arr r.2
    refine ⟨ts', A.R, A.sub, fun j c e => ?_, fun j k c d p e1 e2 e3 e4 => ?_, fun j i e => ?_, fun j d e => ?_, fun j xs e => ?_⟩
    · cases j with
      | zero => cases e
      | succ j => exact A.nw j c (by simpa using e)
    · cases j with
      | zero => cases e1
      | succ j => cases k with
        | zero => cases e2
        | succ k => rw [A.inj j k c d p (by simpa using e1) (by simpa using e2) (by simpa using e3) (by simpa using e4)]
    · cases j with
      | zero => cases e; exact ⟨v, rfl, r.1⟩
      | succ j => exact A.bo j i (by simpa using e)
    · cases j with
      | zero => cases e
      | succ j => exact A.vl j d (by simpa using e)
    · cases j with
      | zero => cases e
      | succ j => exact A.ro j xs (by simpa using e)
  | .rol ys :: ws, v :: vs, ts, r => by
    obtain ⟨ts', A⟩ := RelWs.arr r.2
    refine ⟨ts', A.R, A.sub, fun j c e => ?_, fun j k c d p e1 e2 e3 e4 => ?_, fun j i e => ?_, fun j d e => ?_, fun j xs e => ?_⟩
    · cases j with
      | zero => cases e
      | succ j => exact A.nw j c (by simpa using e)
    · cases j with
      | zero => cases e1
      | succ j => cases k with
        | zero => cases e2
        | succ k => rw [A.inj j k c d p (by simpa using e1) (by simpa using e2) (by simpa using e3) (by simpa using e4)]
    · cases j with
      | zero => cases e
      | succ j => exact A.bo j i (by simpa using e)
    · cases j with
      | zero => cases e
      | succ j => exact A.vl j d (by simpa using e)
    · cases j with
      | zero => cases e; obtain ⟨a, us, rfl, z1, z2⟩ := r.1; exact ⟨a, us, rfl, z1, z2⟩
      | succ j => exact A.ro j xs (by simpa using e)
  | .new c0 :: ws, v :: vs, ts, r => by
    obtain ⟨p0, rfl, r⟩ := r
    have R0 := r.rel
    obtain ⟨ts', A⟩ := RelWs.arr r
    refine ⟨ts', A.R, fun t ht => A.sub t (List.mem_cons_of_mem _ ht), fun j c e => ?_, fun j k c d p e1 e2 e3 e4 => ?_, fun j i e => ?_, fun j d e => ?_, fun j xs e => ?_⟩
    · cases j with
      | zero => cases e; exact ⟨p0, rfl, A.sub _ List.mem_cons_self, R0.ntop⟩
      | succ j =>
        obtain ⟨p, h1, h2, h3⟩ := A.nw j c (by simpa using e)
        exact ⟨p, by simpa using h1, h2, fun t ht => h3 t (List.mem_cons_of_mem _ ht)⟩
    · cases j with
      | zero => cases k with
        | zero => rfl
        | succ k =>
          obtain ⟨q, h1, h2, h3⟩ := A.nw k d (by simpa using e2)
          cases e3
          have e4 : vs[k]? = some (.ref p0) := by simpa using e4
          rw [h1] at e4; cases e4
          exact absurd rfl (h3 _ List.mem_cons_self)
      | succ j => cases k with
        | zero =>
          obtain ⟨q, h1, h2, h3⟩ := A.nw j c (by simpa using e1)
          cases e4
          have e3 : vs[j]? = some (.ref p0) := by simpa using e3
          rw [h1] at e3; cases e3
          exact absurd rfl (h3 _ List.mem_cons_self)
        | succ k => rw [A.inj j k c d p (by simpa using e1) (by simpa using e2) (by simpa using e3) (by simpa using e4)]
    · cases j with
      | zero => cases e
      | succ j => exact A.bo j i (by simpa using e)
    · cases j with
      | zero => cases e
      | succ j => exact A.vl j d (by simpa using e)
    · cases j with
      | zero => cases e
      | succ j => exact A.ro j xs (by simpa using e)
end
end DT
/-! DT: the rule of a call, the rule of a def -/
namespace DT
open PySem PySem.Spec PyProof.Rows L2

section
variable {K : PySem.W.Frag} {Γ : Gm} {W : WX}
theorem borI_mem {i : Nat} : ∀ {ws : List Wv}, i ∈ borI ws → ∃ j : Nat, ws[j]? = some (.bor i)
  | [], h => by cases h
  | .bor k :: ws, h => by
    rcases List.mem_cons.mp h with rfl | h
    · exact ⟨0, rfl⟩
    · obtain ⟨j, hj⟩ := borI_mem h; exact ⟨j + 1, by simpa using hj⟩
  | .val d :: ws, h => by obtain ⟨j, hj⟩ := borI_mem (ws := ws) h; exact ⟨j + 1, by simpa using hj⟩
  | .new d :: ws, h => by obtain ⟨j, hj⟩ := borI_mem (ws := ws) h; exact ⟨j + 1, by simpa using hj⟩
  | .rol d :: ws, h => by obtain ⟨j, hj⟩ := borI_mem (ws := ws) h; exact ⟨j + 1, by simpa using hj⟩
theorem backS_non {i : Nat} : ∀ {ws : List Wv} {s ss ss' : Sl}, backS ws s ss = some ss' → (∀ b c, ss[i]? ≠ some (.own b c)) → ss'[i]? = ss[i]?
  | [], _, _, _, e, _ => by cases e; rfl
  | w :: ws, s, ss, ss', e, h => by
    cases w with
    | bor k =>
      unfold backS at e
      split at e
      · rename_i b c hk
        have hne : k ≠ i := fun z => h b c (by rw [← z]; exact hk)
        split at e
        · rw [backS_non e fun b c => (by rw [List.getElem?_set_ne hne]; exact h b c), List.getElem?_set_ne hne]
        · rw [backS_non e fun b c => (by rw [List.getElem?_set_ne hne]; exact h b c), List.getElem?_set_ne hne]
        · cases e
      · exact backS_non e h
    | val d => exact backS_non (ws := ws) (s := s.tail) e h
    | new c => exact backS_non (ws := ws) (s := s.tail) e h
    | rol xs => exact backS_non (ws := ws) (s := s.tail) e h
theorem te_call {n : Nat} {g : M (List Wv)} {f : Fn} : ∀ σ H Q, te K Γ W (bnd g (callM n f)) σ H Q → tCallS (spD K Γ n f) (WE W) (ta K Γ W g) σ H Q := fun σ H Q q => ta_then q fun F G ρ ts ss H ws vs r q => by
  unfold callM at q
  split at q
  case isFalse => exact q.elim
  rename_i hc
  rw [Bool.and_eq_true, beq_iff_eq] at hc
  obtain ⟨hn, hnd⟩ := hc
  cases ea : toArs ss ws with
  | none => rw [ea] at q; exact q.elim
  | some as =>
    rw [ea] at q
    dsimp only at q
    have hl := r.length
    have hla := toArs_len ea
    obtain ⟨ts', A⟩ := r.arr
    have R := A.R
    have R0 := r.rel
    -- where a container that is handed over lies
    have lies : ∀ {j : Nat} {a : Ar} {p : Addr}, as[j]? = some a → isOwnA a = true → vs[j]? = some (.ref p) →
        (∃ c, ws[j]? = some (.new c) ∧ a = .giv c ∧ (p, c) ∈ ts' ∧ ∀ t ∈ ts, t.1 ≠ p) ∨ ∃ i b c, ws[j]? = some (.bor i) ∧ ss[i]? = some (.own b c) ∧ a = .own c ∧ ρ i = p := fun {j a p} e w hv => by
      obtain ⟨w0, h1, h2⟩ := toArs_at ea e
      cases w0 with
      | val d => cases h2; cases w
      | rol xs => cases h2; cases w
      | new c =>
        cases h2
        obtain ⟨p', z1, z2, z3⟩ := A.nw j c h1
        rw [hv] at z1; cases z1
        exact .inl ⟨c, h1, rfl, z2, z3⟩
      | bor i =>
        unfold toAr at h2
        dsimp only at h2
        cases es : ss[i]? with
        | none => rw [es] at h2; cases h2
        | some s =>
          rw [es] at h2
          cases s with
          | un => cases h2
          | val b d => cases h2; cases w
          | lk b c => cases h2
          | rol xs => cases h2; cases w
          | exn a => cases h2
          | own b c =>
            cases h2
            obtain ⟨v, z1, z2⟩ := A.bo j i h1
            have z3 := (R.slot i _ es).1
            rw [z2] at z3; cases z3
            rw [hv] at z1; cases z1
            exact .inr ⟨i, b, c, h1, es, rfl, rfl⟩
    have mine : ∀ b, fpOf as vs b → Mine F G b := fun p ⟨j, a, h1, h2, h3⟩ => by
      rcases lies h1 h2 h3 with ⟨c, _, _, hm, _⟩ | ⟨i, b, c, _, es, _, rfl⟩
      · exact (R.tmp _ hm).2.1
      · exact R.own i _ es rfl
    have ats : ∀ (j : Nat) a v, as[j]? = some a → vs[j]? = some v → ArAt K G H a v := fun j a v e hv => by
      obtain ⟨w0, h1, h2⟩ := toArs_at ea e
      cases w0 with
      | val d =>
        cases h2
        obtain ⟨v', z1, z2⟩ := A.vl j d h1
        rw [hv] at z1; cases z1; exact z2
      | rol xs =>
        cases h2
        obtain ⟨a, us, z1, z2, z3⟩ := A.ro j xs h1
        rw [hv] at z1; cases z1; exact ⟨a, us, rfl, z2, z3⟩
      | new c =>
        cases h2
        obtain ⟨p, z1, z2, z3⟩ := A.nw j c h1
        rw [hv] at z1; cases z1
        obtain ⟨⟨o, y1, y2⟩, y3, _⟩ := R.tmp _ z2
        exact ⟨p, o, rfl, y1, y2, y3.1⟩
      | bor i =>
        obtain ⟨v', z1, z2⟩ := A.bo j i h1
        rw [hv] at z1; cases z1
        unfold toAr at h2
        dsimp only at h2
        cases es : ss[i]? with
        | none => rw [es] at h2; cases h2
        | some s =>
          rw [es] at h2
          have sl := R.slot i _ es
          cases s with
          | un => cases h2
          | lk b c => cases h2
          | val b d =>
            cases h2
            obtain ⟨v', y1, y2, _⟩ := sl
            rw [z2] at y1; cases y1; exact y2
          | exn a => cases h2
          | rol xs =>
            cases h2
            obtain ⟨a, us, y1, y2, y3⟩ := sl
            rw [z2] at y1; cases y1; exact ⟨a, us, rfl, y2, y3⟩
          | own b c =>
            cases h2
            obtain ⟨y1, _, o, y2, y3⟩ := sl
            rw [z2] at y1; cases y1
            exact ⟨_, o, rfl, y2, y3, (R.own i _ es rfl).1⟩
    have ap : Apart2 as vs := fun i j a b p h1 h2 w1 w2 v1 v2 => by
      rcases lies h1 w1 v1 with ⟨c, k1, _, m1, _⟩ | ⟨i1, b1, c1, k1, es1, _, e1⟩
      · rcases lies h2 w2 v2 with ⟨c', k2, _, m2, _⟩ | ⟨i2, b2, c2, k2, es2, _, e2⟩
        · exact A.inj i j c c' p k1 k2 v1 v2
        · exact absurd e2 ((R.tmp _ m1).2.2 i2 _ es2 rfl)
      · rcases lies h2 w2 v2 with ⟨c', k2, _, m2, _⟩ | ⟨i2, b2, c2, k2, es2, _, e2⟩
        · exact absurd e1 ((R.tmp _ m2).2.2 i1 _ es1 rfl)
        · have : i1 = i2 := R.inj i1 i2 _ _ es1 es2 rfl rfl (e1.trans e2.symm)
          subst this
          exact nodup_inj hnd k1 k2
    have nts : ∀ t ∈ ts, ¬ fpOf as vs t.1 := fun t ht ⟨j, a, h1, h2, h3⟩ => by
      rcases lies h1 h2 h3 with ⟨c, _, _, _, hm⟩ | ⟨i, b, c, _, es, _, e⟩
      · exact hm t ht rfl
      · exact (R0.tmp t ht).2.2 i _ es rfl e
    have nls : ∀ t ∈ F.ls, ¬ fpOf as vs t.p := fun t ht ⟨j, a, h1, h2, h3⟩ => by
      obtain ⟨_, _, _, _, z5, z6⟩ := R.lks t ht
      rcases lies h1 h2 h3 with ⟨c, _, _, hm, _⟩ | ⟨i, b, c, _, es, _, e⟩
      · exact z6 _ hm rfl
      · exact z5 i _ es rfl e
    -- the frame behind it
    have after : ∀ {s ss' : Sl} {H' G' : Hp}, backS ws s ss = some ss' → Back K G H G' H' as vs s → Rel K F G' ρ ts ss' σ H' := fun {s ss' H' G'} eb B => by
      refine R0.after (fpOf as vs) B.g B.gh B.keep B.fz (fun b h => (mine b h).2) nts nls (backS_len eb) fun i sl e => ?_
      by_cases hb : i ∈ borI ws
      · -- lent?
        obtain ⟨j, hj⟩ := borI_mem hb
        cases sl with
        | own b c =>
          obtain ⟨v, z1, z2⟩ := A.bo j i hj
          have z3 := (R.slot i _ e).1
          rw [z2] at z3; cases z3
          have hv : vs[j]? = some (.ref (ρ i)) := z1
          have haj : as[j]? = some (.own c) := by
            have hjl := (List.getElem?_eq_some_iff.mp hj).1
            have h0 : as[j]? = some as[j] := List.getElem?_eq_getElem (by omega)
            obtain ⟨w0, h1, h2⟩ := toArs_at ea h0
            rw [hj] at h1; cases h1
            unfold toAr at h2
            dsimp only at h2
            rw [e] at h2
            rw [h0]; exact h2.symm
          refine .inr ⟨b, c, rfl, ?_⟩
          rcases backS_at hnd eb hj e with ⟨c', k1, k2⟩ | ⟨d, k1, k2⟩
          · obtain ⟨y1, o, y2, y3⟩ := B.at_ j c _ _ haj hv k1 (.inl ⟨c', rfl⟩)
            exact .inl ⟨c', k2, y1, o, y2, y3⟩
          · exact .inr ⟨d, k2, B.at_ j c _ _ haj hv k1 (.inr ⟨d, rfl⟩)⟩
        | un => exact .inl ⟨by rw [backS_non eb fun b c => by rw [e]; intro z; cases z]; exact e, fun w => by cases w⟩
        | val b d => exact .inl ⟨by rw [backS_non eb fun b c => by rw [e]; intro z; cases z]; exact e, fun w => by cases w⟩
        | lk b d => exact .inl ⟨by rw [backS_non eb fun b c => by rw [e]; intro z; cases z]; exact e, fun w => by cases w⟩
        | exn d => exact .inl ⟨by rw [backS_non eb fun b c => by rw [e]; intro z; cases z]; exact e, fun w => by cases w⟩
        | rol d => exact .inl ⟨by rw [backS_non eb fun b c => by rw [e]; intro z; cases z]; exact e, fun w => by cases w⟩
      · exact .inl ⟨by rw [backS_out eb hb]; exact e, fun w ⟨j, a, h1, h2, h3⟩ => by
          rcases lies h1 h2 h3 with ⟨c, _, _, hm, _⟩ | ⟨i', b, c, k1, es, _, e'⟩
          · exact (R.tmp _ hm).2.2 i _ e w rfl
          · have := R.inj i i' _ _ e es w rfl e'.symm
            subst this
            exact hb (mem_borI k1)⟩
    refine ⟨as, G, hl.symm.trans hn, hla.trans hn, R0.sub, ats, ap, ?_⟩
    cases ef : f as with
    | none => rw [ef] at q; exact q.elim
    | some rf =>
      rw [ef] at q
      cases rf with
      | ex x s =>
        dsimp only at q
        cases eb : backS ws s ss with
        | none => rw [eb] at q; exact q.elim
        | some ss' =>
          rw [eb] at q
          exact fun H' G' cls d B xn => q H' G' ρ cls d B.g (after eb B) xn
      | ok w s =>
        dsimp only at q
        cases eb : backS ws s ss with
        | none => rw [eb] at q; exact q.elim
        | some ss' =>
          rw [eb] at q
          intro v H' G' B hv
          have R1 := after eb B
          refine q v H' G' ρ B.g ?_
          cases w with
          | val d => exact ⟨R1, hv⟩
          | bor i => exact hv.elim
          | rol xs => exact hv.elim
          | new c =>
            obtain ⟨p, o, rfl, h1, h2, h3, h4, h5⟩ := hv
            have lent : ∀ {u}, H p = some u → fpOf as vs p := fun e => by
              rcases h4 with z | z
              · rw [e] at z; cases z
              · exact z
            refine ⟨p, rfl, R1.addT h1 h2 ⟨h3, ?_⟩ (fun i s' e w z => ?_) (fun t ht z => ?_) fun t ht z => ?_⟩
            · rcases h4 with z | z
              · cases h0 : F.H0 p with
                | none => exact .inl rfl
                | some u =>
                  by_cases hf : F.fp p
                  · exact .inr hf
                  · rw [R0.frame p u h0 hf] at z; cases z
              · exact (mine p z).2
            · have hsl : ∃ s0, ss[i]? = some s0 := by
                have := (List.getElem?_eq_some_iff.mp e).1
                exact ⟨_, List.getElem?_eq_getElem (by rw [← backS_len eb]; exact this)⟩
              obtain ⟨s0, e0⟩ := hsl
              have w0 : isOwn s0 = true := by
                cases s0 with
                | own b c => rfl
                | un => rw [backS_non eb fun b c => (by rw [e0]; intro z; cases z), e0] at e; cases e; cases w
                | val b d => rw [backS_non eb fun b c => (by rw [e0]; intro z; cases z), e0] at e; cases e; cases w
                | lk b d => rw [backS_non eb fun b c => (by rw [e0]; intro z; cases z), e0] at e; cases e; cases w
                | exn d => rw [backS_non eb fun b c => (by rw [e0]; intro z; cases z), e0] at e; cases e; cases w
                | rol d => rw [backS_non eb fun b c => (by rw [e0]; intro z; cases z), e0] at e; cases e; cases w
              obtain ⟨u, hu⟩ := R0.owned e0 w0
              obtain ⟨j, a, k1, k2, k3⟩ := lent (by rw [← z]; exact hu)
              rcases lies k1 k2 k3 with ⟨c', _, _, hm, _⟩ | ⟨i', b', c', m1, es, _, e'⟩
              · exact (R.tmp _ hm).2.2 i _ e0 w0 z
              · have := R.inj i i' _ _ e0 es w0 rfl (z.trans e'.symm)
                subst this
                rcases backS_at hnd eb m1 es with ⟨c'', y1, _⟩ | ⟨d, _, y2⟩
                · exact h5 j c'' y1 k3
                · rw [e] at y2; cases y2; cases w
            · obtain ⟨⟨o', y1, _⟩, _⟩ := R0.tmp t ht
              exact nts t ht (by rw [z]; exact lent (by rw [← z]; exact y1))
            · obtain ⟨u, hu⟩ := (R0.lks t ht).2.2.1.ex
              exact nls t ht (by rw [z]; exact lent (by rw [← z]; exact hu))
end
end DT
/-! DT: calls of defs, defs from their bodies, raise -/
namespace DT
open PySem PySem.Spec PyProof.Rows L2

/-- a def of the module: how many parameters, what it computes, on how many levels -/
structure DFn (P : Program) (w : World) (K : PySem.W.Frag) (mg : Str → Option Value) (base : Heap) (Γ : Gm) (k : Nat) (x : Str) (n : Nat) (fn : Fn) : Prop where
  ex : ∃ (f : Addr) (fd : FuncData) (ps : List Str), ps.length = n ∧ FnOk P w K mg base (L2.CX P w) k f fd ps (spD K Γ n fn) ∧ mg x = some (.ref f) ∧ PySem.W.keepIn K (.ref f) = true ∧ Binds K fd ps []
theorem DFn.mono {P : Program} {w : World} {K : PySem.W.Frag} {mg : Str → Option Value} {base : Heap} {Γ : Gm} {k j : Nat} {x : Str} {n : Nat} {fn : Fn} (h : DFn P w K mg base Γ k x n fn) (hk : k ≤ j) : DFn P w K mg base Γ j x n fn := by
  obtain ⟨f, fd, ps, h1, h2, h3⟩ := h.ex
  exact ⟨f, fd, ps, h1, h2.mono hk, h3⟩
section
variable {Γ : Gm} {X : Cx} {W : WX} {k n : Nat} {fn : Fn} {x : Str} {p pos : Pos} {e : Expr} {es : List Expr} {g : M (List Wv)}
theorem de_call (h : DFn X.prog X.w X.K X.mg X.base Γ k x n fn) (hr : Room k X.A) (tk : Takes X W) (ha : DA Γ X W (e :: es) g)
    (hg : Gl X x := by rfl) (hdb : (x == ("__debug__" : Str)) = false := by decide) (he : starEach (e :: es) X.env = (false, eval e X.env) :: starEach es X.env := by rfl) (hpl : (backTo pos (starEach es X.env)).any (·.1) = false := by rfl) :
    DE Γ X W (.Call (.Name x p) (e :: es) [] pos) (bnd g (callM n fn)) := by
  obtain ⟨f, fd, ps, h1, h2, h3, h4, h5⟩ := h.ex
  exact PE_imp (pe_callS h2 hr hg h3 h4 h5 (fun σ => passAt tk σ) ha hdb he hpl) te_call
end
/-- a def, told by its body -/
theorem dfn_mk {P : Program} {w : World} {K : PySem.W.Frag} {mg : Str → Option Value} {base : Heap} {Γ : Gm} {k : Nat} {f : Addr} {fd : FuncData} {x : Str} {st : Stmt} {N ps : List Str} {fb : M SO} (hm : mg x = some (.ref f)) (F : L2.Fun K x x st f fd) (hb : Binds K fd ps []) (S : FnScope N ps (L2.defScope st))
    (hbody : ∀ (cdv : Value) (A : Around) (outer : List Env) (s : Shared) (H : Hp) (E : XK), Room k (A.deeper (envOfC x (L2.defScope st) s.heap.objs.size f cdv)) → DSs Γ (cxOf (L2.CX P w) P w K mg base N x (L2.defScope st) f cdv A outer s H E) (fun cls d _ H => E cls d H) (L2.defBody st) fb) :
    DFn P w K mg base Γ (k + 1) x ps.length (endF N.length fb) := by
  refine ⟨f, fd, ps, rfl, F.okX S (fun vs H Q E ⟨_, _, h, _⟩ => h) fun cdv A outer s H vs Q E hr ⟨as, G, h1, h2, sm, ats, ap, q⟩ => ⟨_, hbody cdv A outer s H E hr, ?_⟩, hm, F.kp, hb⟩
  have hN : ps.length ≤ N.length := by have := congrArg List.length S.pre; rw [List.length_take] at this; omega
  exact ⟨_, G, _, [], _, rel_start (h1.trans h2.symm) (by omega) sm ats ap, outF_of q⟩
/-- what a body's context gives -/
theorem takes_cx {P : Program} {w : World} {K : PySem.W.Frag} {mg : Str → Option Value} {base : Heap} {N : List Str} {qual : Str} {scope : Scope} {f : Addr} {cd : Value} {A : Around} {outer : List Env} {s : Shared} {H : Hp} {E : XK} :
    Takes (cxOf (L2.CX P w) P w K mg base N qual scope f cd A outer s H E) (fun cls d _ H => E cls d H) := takes_of rfl rfl rfl rfl
theorem passes_cx {P : Program} {w : World} {K : PySem.W.Frag} {mg : Str → Option Value} {base : Heap} {N : List Str} {qual : Str} {scope : Scope} {f : Addr} {cd : Value} {A : Around} {outer : List Env} {s : Shared} {H : Hp} {E : XK} :
    PassesOwn (model (cxOf (L2.CX P w) P w K mg base N qual scope f cd A outer s H E).prog (cxOf (L2.CX P w) P w K mg base N qual scope f cd A outer s H E).w) (cxOf (L2.CX P w) P w K mg base N qual scope f cd A outer s H E).A (cxOf (L2.CX P w) P w K mg base N qual scope f cd A outer s H E).env (cxOf (L2.CX P w) P w K mg base N qual scope f cd A outer s H E).xe := passes_of rfl
theorem Room.u65 {k : Nat} {A : Around} (r : Room k A) : A.units + 65 < cLine := by have := r.un; omega

/-! ### raise -/
def sRaise (c : Nat) : M SO := fun ss => some (.ex (.pl c) ss)
section
variable {Γ : Gm} {X : Cx} {W : WX} {e : Expr} {pos : Pos}
theorem ds_raise (c : Nat) (hc : X.calm = true) (tk : Takes X W) (he : PMk X e (fun _ H Q => Q (.ref (Γ.ca c)) none H)) : DS Γ X W (.Raise (some e) none pos) (sRaise c) :=
  PS_imp (ps_raise hc tk he) fun D σ H ⟨F, G, ρ, ts, ss, R, q⟩ => q σ H G ρ (.ref (Γ.ca c)) none (Same.refl G) R ⟨rfl, rfl⟩
end
end DT
/-! DT: short names for printed terms -/
namespace DT
open PySem PySem.Spec PyProof.Rows L2
section
variable {X : Cx}
theorem op_ltX (hu : X.A.units < cLine) : OpR X (compareOp .Lt) (fun x y H Q => rI0 (fun i j => .bl (decide (i < j))) x y H Q ∨ rLtT X.K x y H Q) := op_lt.or (op_ltT hu)
theorem cr_sumX (hc : X.calm = true) : CallR X (.builtin "sum") (fun vs H Q => rSum X.K vs H Q ∨ rSumTp X.K vs H Q) := (cr_sum hc).or (cr_sumTp hc)
theorem call_allX (hc : X.calm = true) : CallR X (.builtin "all") (rAll X.K) := cr_all hc
theorem call_anyX (hc : X.calm = true) : CallR X (.builtin "any") (rAny X.K) := cr_any hc
theorem call_tuple_ofX : CallR X (.type "tuple") (fun xs H Q => ∃ p ys, xs = [.ref p] ∧ ((SqL X.K H p ys ∧ ∀ l, H l = none → Q (.ref l) (upd H l (.tup ys))) ∨ (SqT X.K H p ys ∧ Q (.ref p) H))) := call_tuple_of
theorem call_list_ofX : CallR X (.type "list") (fun xs H Q => ∃ p ys, xs = [.ref p] ∧ (SqL X.K H p ys ∨ SqT X.K H p ys) ∧ ∀ l, H l = none → Q (.ref l) (upd H l (.lst ys))) := call_list_of
/-- x += y where numbers or texts stand -/
def addNS (w u : Wv) : M Wv := fun ss => match intV ss w, intV ss u with
  | some i, some j => some (.ok (.val (.int (i + j))) ss)
  | _, _ => none
theorem ok_iAdd {K : PySem.W.Frag} : OpOk K (iop (fun _ _ => true) fun i j => .int (i + j)) (rI0 fun i j => .int (i + j)) := ok_iop0 fun _ _ _ => .int _
theorem ok_iSub {K : PySem.W.Frag} : OpOk K iSub (rI0 fun i j => .int (i - j)) := ok_iop0 fun _ _ _ => .int _
theorem ok_iMul {K : PySem.W.Frag} : OpOk K iMul (rI CMul fun i j => .int (i * j)) := ok_iop (fun i j h => by
  unfold cMul at h
  rw [Bool.or_eq_true, decide_eq_true_eq, decide_eq_true_eq] at h
  exact h) fun _ _ _ => .int _
theorem ok_iDiv {K : PySem.W.Frag} : OpOk K iDiv (rI CDiv fun i j => .int (i / j)) := ok_iop (fun _ _ h => by simpa [cDiv, CDiv] using h) fun _ _ _ => .int _
theorem ok_iMod {K : PySem.W.Frag} : OpOk K iMod (rI (fun _ j => 0 < j) fun i j => .int (i % j)) := ok_iop (fun _ _ h => by simpa [cMod] using h) fun _ _ _ => .int _
end
abbrev iAdd := iop (fun _ _ => true) fun i j => .int (i + j)
/-- an own error class, below ValueError -/
structure ExcT (K : PySem.W.Frag) (mg : Str → Option Value) (x : Str) (C : Addr) : Prop where
  g : mg x = some (.ref C)
  q : PySem.W.excIn K C [.type "ValueError", .type "Exception", .type "BaseException", .type "object"] "ValueError.__new__" = true
  k : PySem.W.keepIn K (.ref C) = true
  s : PySem.W.subIn K (.ref C) (.type "BaseException") = some true
  t : PySem.W.typeIn K (.ref C) = some (.type "type")
theorem ExcT.mk1 {X : Cx} {x m : Str} {C : Addr} {j : Nat} {p p2 pos : Pos} (e : ExcT X.K X.mg x C) (hg : Gl X x := by rfl) (hdb : (x == ("__debug__" : Str)) = false := by decide) :
    PMk X (.Call (.Name x p) [.Constant (.str m) j p2] [] pos) (fun _ H Q => Q (.ref C) none H) := pmk_own PySem.F.excBase_ValueError e.q e.g e.k (raises_own e.s e.t) hg hdb
/-- a comprehension's scope, as a check -/
def blkB (N : List Str) (sc scope : Scope) (own : List (Str × Nat)) : Bool :=
  decide (scope.kind = .function) && (scope.names.all fun y => decide (scope.names.lookup y.1 = some y.2)) && (own.all fun p => decide (N[p.2]? = some p.1)) &&
    (scope.names.all fun y => !decide (y.2 = .free) || (decide (sc.names.lookup y.1 = some .cell) || decide (sc.names.lookup y.1 = some .free))) &&
    scope.names.all fun y => !(decide (y.2 = .local) || decide (y.2 = .cell)) || (own.any (fun p => decide (p.1 = y.1)) || !(N.any fun z => decide (z = y.1)))
theorem blk_ok {N : List Str} {sc scope : Scope} {own : List (Str × Nat)} (h : blkB N sc scope own = true) : BlkOk N sc scope own := by
  unfold blkB at h
  simp only [Bool.and_eq_true, decide_eq_true_eq, List.all_eq_true, Bool.or_eq_true, Bool.not_eq_true', decide_eq_false_iff_not, List.any_eq_true, Bool.or_eq_false_iff, List.any_eq_false] at h
  obtain ⟨⟨⟨⟨h1, h2⟩, h3⟩, h4⟩, h5⟩ := h
  refine ⟨h1, h2, h3, fun y hy e => ?_, fun y hy e => ?_⟩
  · rcases h4 y hy with z | z
    · exact absurd e z
    · exact z
  · rcases h5 y hy with z | z | z
    · rcases e with e | e
      · exact absurd e z.1
      · exact absurd e z.2
    · obtain ⟨p, hp, e'⟩ := z
      exact .inl (List.mem_map.mpr ⟨p, hp, e'⟩)
    · exact .inr fun m => z y.1 m rfl
end DT
/-! DT: starred displays, list(range(..)), menus of defs -/
namespace DT
open PySem PySem.Spec PyProof.Rows L2

/-! ### [*a, ..] -/
def astar (f : M Wv) (g : M (List Wv)) : M (List Wv) := bnd f fun w ss => match seqV ss w with
  | some ds => bnd g (fun ws => ret (ds.map Wv.val ++ ws)) ss
  | none => none
section
variable {K : PySem.W.Frag} {Γ : Gm} {W : WX} {F : Fm} {G : Hp} {ρ : Nat → Addr} {ss : Sl} {σ : L2.St} {H : Hp}
theorem RelWs.vals {ts : List (Addr × Con)} {ws : List Wv} {vs : List V} (r : RelWs K F G ρ ss σ H ts ws vs) : ∀ {xs : List V} {ds : List D}, DvAll K G xs ds → RelWs K F G ρ ss σ H ts (ds.map Wv.val ++ ws) (xs ++ vs)
  | _, _, .nil => r
  | _, _, .cons h t => ⟨h, RelWs.vals r t⟩
theorem ta_star {f : M Wv} {g : M (List Wv)} : ∀ σ H Q, ta K Γ W (astar f g) σ H Q → StX.tStar K (te K Γ W f) (ta K Γ W g) σ H Q := fun σ H Q ⟨F, G, ρ, ts, ss, R, q⟩ => by
  refine ⟨F, G, ρ, ts, ss, R, ?_⟩
  unfold astar bnd at q
  cases e : f ss with
  | none => rw [e] at q; exact q
  | some r =>
    rw [e] at q
    cases r with
    | ex x s => exact q
    | ok w s =>
      intro v H1 G1 ρ1 g1 r1
      dsimp only at q
      split at q
      · rename_i ds es
        obtain ⟨a, vs, rfl, hq, dv⟩ := seqV_pk r1.rel.sub es fun k => r1.to1.pk1
        refine ⟨a, vs, rfl, hq.symm, F, G1, ρ1, ts, s, r1.rel, ?_⟩
        cases e2 : g s with
        | none => rw [e2] at q; exact q
        | some r2 =>
          rw [e2] at q
          cases r2 with
          | ex x s2 => exact fun H2 G2 ρ2 cls d g2 R2 xn => q H2 G2 ρ2 cls d (g1.trans g2) R2 xn
          | ok ws s2 => exact fun us H2 G2 ρ2 g2 r2 => q (vs ++ us) H2 G2 ρ2 (g1.trans g2) (r2.vals (dv.mono g2))
      · exact q.elim
end
section
variable {Γ : Gm} {X : Cx} {W : WX} {e : Expr} {es : List Expr} {f : M Wv} {g : M (List Wv)} {p : Pos}
theorem da_star (ha : DE Γ X W e f) (hr : DA Γ X W es g) (hs : starEach (.Starred e p :: es) X.env = (true, eval e X.env) :: starEach es X.env := by rfl) : DA Γ X W (.Starred e p :: es) (astar f g) := PA_imp (StX.pa_star ha hr hs) ta_star
end

/-! ### list(range(..)) -/
def lrg1 (w : Wv) : M Wv := fun ss => match intV ss w with
  | some n => if decide (-16777216 ≤ n ∧ n ≤ 16777216) = true then some (.ok (.new (.lst (rngD 0 n.toNat))) ss) else none
  | none => none
def lrg2 (w u : Wv) : M Wv := fun ss => match intV ss w, intV ss u with
  | some a, some b => if decide (-8388608 ≤ a ∧ a ≤ 8388608 ∧ -8388608 ≤ b ∧ b ≤ 8388608) = true then some (.ok (.new (.lst (rngD a (b - a).toNat))) ss) else none
  | _, _ => none
theorem dv_rg {K : PySem.W.Frag} {G : Hp} (a b : Int) : DvAll K G (rgV a b) (rngD a (b - a).toNat) := by
  unfold rgV rngD
  generalize List.range (b - a).toNat = l
  induction l with
  | nil => exact .nil
  | cons x l ih => exact .cons (.int _) ih
section
variable {Γ : Gm} {X : Cx} {W : WX} {a b : Expr} {fa fb : M Wv} {p pos p2 pos2 : Pos}
theorem de_lrg1 (hc : X.calm = true) (hm : X.mg "list" = none) (hm2 : X.mg "range" = none) (ha : DE Γ X W a fa) (hg : Gl X "list" := by rfl) (hg2 : Gl X "range" := by rfl) (na : starEach [a] X.env = (false, eval a X.env) :: starEach [] X.env := by rfl)
    (nb : starEach [.Call (.Name "range" p2) [a] [] pos2] X.env = (false, eval (.Call (.Name "range" p2) [a] [] pos2) X.env) :: starEach [] X.env := by rfl) : DE Γ X W (.Call (.Name "list" p) [.Call (.Name "range" p2) [a] [] pos2] [] pos) (un1 fa lrg1) :=
  PE_imp (pe_listRg hc hg hm (prg_1 hg2 hm2 ha na) nb) fun σ H Q q => te_then q fun F G ρ ts ss H w v r q => by
    unfold lrg1 at q
    split at q
    · rename_i n e
      split at q
      · rename_i hz
        have ex := intV_pk e fun k => r.to1.pk1
        subst ex
        have hz := of_decide_eq_true hz
        refine ⟨n, rfl, ⟨by omega, by omega, by omega, by omega, by omega⟩, ?_⟩
        have dv : ConAt X.K G (.lst (rngD 0 n.toNat)) (.lst (rgV 0 n)) := by have := dv_rg (K := X.K) (G := G) 0 n; rwa [Int.sub_zero] at this
        exact OutE.nw q r.rel dv
      · exact q.elim
    · exact q.elim
end

/-! ### [f, g, ..][i](..) -/
/-- an index that only reads the slots -/
structure PureI (X : Cx) (e : Expr) (f : Sl → Option Int) : Prop where
  ex : ∃ t : TE, PE X e t ∧ ∀ (ss : Sl) (σ : L2.St), (∀ (i : Nat) (b : Bool) (n : Int), ss[i]? = some (.val b (.int n)) → σ[i]? = some (some (.int n))) → ∀ (n : Int) (H : Hp) (Q : VK), f ss = some n → Q (.int n) H → t σ H Q
def piN (i : Nat) (ss : Sl) : Option Int := match ss[i]? with
  | some (.val _ (.int n)) => some n
  | _ => none
def piS (f : Sl → Option Int) (c : Int) (ss : Sl) : Option Int := match f ss with
  | some n => some (n - c)
  | none => none
theorem pi_nm {X : Cx} {x : Str} {pos : Pos} (i : Nat) (hN : X.N[i]? = some x := by rfl) (hv : Vis X.env.scope x := by first | exact Or.inl rfl | exact Or.inr (Or.inl rfl) | exact Or.inr (Or.inr rfl)) (hd : (x == ("__debug__" : Str)) = false := by decide)
    (hcd : (x == ("__classdict__" : Str)) = false := by decide) : PureI X (.Name x pos) (piN i) := ⟨⟨_, pe_var hN hv hd hcd, fun ss σ h n H Q e q => by
  unfold piN at e
  split at e
  · rename_i b m es
    cases e
    exact ⟨_, h i _ _ es, q⟩
  · cases e⟩⟩
theorem pi_sub {X : Cx} {a : Expr} {f : Sl → Option Int} {c : Int} {j : Nat} {p pos : Pos} (h : PureI X a f) : PureI X (.BinOp a .Sub (.Constant (.int c) j p) pos) (piS f c) := by
  obtain ⟨t, h1, h2⟩ := h.ex
  refine ⟨_, pe_op op_sub h1 pe_int, fun ss σ k n H Q e q => ?_⟩
  unfold piS at e
  cases ef : f ss with
  | none => rw [ef] at e; cases e
  | some m =>
    rw [ef] at e; cases e
    exact h2 ss σ k m H _ ef ⟨m, c, rfl, rfl, q⟩
structure GoodFn (X : Cx) (Γ : Gm) (k n : Nat) (f : Addr) (fn : Fn) : Prop where
  ex : ∃ (fd : FuncData) (ps : List Str), ps.length = n ∧ FnOk X.prog X.w X.K X.mg X.base (L2.CX X.prog X.w) k f fd ps (spD X.K Γ n fn) ∧ PySem.W.keepIn X.K (.ref f) = true ∧ Binds X.K fd ps []
/-- a display of defs -/
structure MenuOk (X : Cx) (Γ : Gm) (k n : Nat) (es : List Expr) (fns : List Fn) : Prop where
  ex : ∃ fs : List Addr, PA X es (fun σ H Q => Q (fs.map V.ref) H) ∧ fs.length = fns.length ∧ ∀ (i : Nat) (f : Addr) (fn : Fn), fs[i]? = some f → fns[i]? = some fn → GoodFn X Γ k n f fn
theorem menu_nil {X : Cx} {Γ : Gm} {k n : Nat} : MenuOk X Γ k n [] [] := ⟨[], PA_imp pa_nil fun _ _ _ q => q, rfl, fun i f fn e => by cases e⟩
theorem menu_cons {X : Cx} {Γ : Gm} {j k n : Nat} {x : Str} {p : Pos} {es : List Expr} {fn : Fn} {fns : List Fn} (h : DFn X.prog X.w X.K X.mg X.base Γ j x n fn) (hj : j ≤ k) (t : MenuOk X Γ k n es fns) (hg : Gl X x := by rfl) (hdb : (x == ("__debug__" : Str)) = false := by decide)
    (hs : starEach (.Name x p :: es) X.env = (false, eval (.Name x p) X.env) :: starEach es X.env := by rfl) : MenuOk X Γ k n (.Name x p :: es) (fn :: fns) := by
  obtain ⟨f, fd, ps, h1, h2, h3, h4, h5⟩ := h.ex
  obtain ⟨fs, t1, t2, t4⟩ := t.ex
  have hp : PE X (.Name x p) (tC (.ref f)) := ⟨fun pins s σ H Q I q => ld_glob I hg h3 ⟨.ref f, H, I, rfl, q⟩ hdb⟩
  refine ⟨f :: fs, PA_imp (pa_cons hp t1 hs) fun σ H Q q => q, by simp [t2], fun i g gn e1 e2 => ?_⟩
  cases i with
  | zero => cases e1; cases e2; exact ⟨fd, ps, h1, h2.mono hj, h4, h5⟩
  | succ i => exact t4 i g gn (by simpa using e1) (by simpa using e2)
def menuM (n : Nat) (fi : Sl → Option Int) (fns : List Fn) (g : M (List Wv)) : M Wv := fun ss => match fi ss with
  | some i => if decide (0 ≤ i ∧ fns.length ≤ 1000) = true then match fns[i.toNat]? with
    | some fn => bnd g (callM n fn) ss
    | none => none else none
  | none => none
theorem atI_of {xs : List V} {i : Int} {v : V} (h0 : 0 ≤ i) (h : xs[i.toNat]? = some v) : atI xs i = some v := by
  have hl := (List.getElem?_eq_some_iff.mp h).1
  unfold atI ixN
  rw [if_pos h0]
  first
    | (rw [if_pos (by omega)]; exact h)
    | (rw [if_pos hl]; exact h)
section
variable {Γ : Gm} {X : Cx} {W : WX} {k n : Nat} {es args : List Expr} {e ie : Expr} {fns : List Fn} {fi : Sl → Option Int} {g : M (List Wv)} {pl ps pos : Pos}
theorem de_menu (hm : MenuOk X Γ k n es fns) (hi : PureI X ie fi) (hr : Room k X.A) (tk : Takes X W) (ha : DA Γ X W (e :: args) g) (hs : PlainIx ie := by exact fun _ _ => rfl)
    (hc : eval (.Call (.Subscript (.List es pl) ie ps) (e :: args) [] pos) X.env = (do callWith pos (← eval (.Subscript (.List es pl) ie ps) X.env) [] (backTo pos (starEach (e :: args) X.env)) (backToKw pos (keywordEach [] X.env))) := by rfl)
    (he : starEach (e :: args) X.env = (false, eval e X.env) :: starEach args X.env := by rfl) (hpl : (backTo pos (starEach args X.env)).any (·.1) = false := by rfl) :
    DE Γ X W (.Call (.Subscript (.List es pl) ie ps) (e :: args) [] pos) (menuM n fi fns g) := by
  obtain ⟨fs, m1, m2, m4⟩ := hm.ex
  obtain ⟨t, i1, i2⟩ := hi.ex
  refine ⟨fun pins s σ H Q I ⟨F, G, ρ, ts, ss, R, q⟩ => ?_⟩
  unfold menuM at q
  split at q
  · rename_i i ei
    split at q
    · rename_i h0
      obtain ⟨h0, h1k⟩ := of_decide_eq_true h0
      cases ef : fns[i.toNat]? with
      | none => rw [ef] at q; exact q.elim
      | some fn =>
        rw [ef] at q
        have hfi : i.toNat < fs.length := by rw [m2]; exact (List.getElem?_eq_some_iff.mp ef).1
        have hf : fs[i.toNat]? = some fs[i.toNat] := List.getElem?_eq_getElem hfi
        obtain ⟨fd, pss, g1, g2, g3, g4⟩ := (m4 _ _ _ hf ef).ex
        refine Call_ (thn ((pe_ix ix_seq (pe_lst m1) i1 hs).run pins s σ H (fun x H1 => x = .ref fs[i.toNat] ∧ ∃ p, H p = none ∧ H1 = upd H p (.lst (fs.map V.ref))) I ⟨by rw [List.length_map, m2]; rw [sizeLine_eq]; omega, fun p hp => ?_⟩) fun v s1 ⟨x, H1, I1, r, ex, p, hp, eH⟩ => ?_) hc
        · refine i2 ss σ (fun i b n es => ?_) i _ _ ei (.inl ⟨p, _, i, _, rfl, rfl, .of upd_same, atI_of h0 (by rw [List.getElem?_map, hf]; rfl), rfl, p, hp, rfl⟩)
          obtain ⟨v, z1, z2, _⟩ := R.slot i _ es
          cases z2; exact z1
        · subst ex eH
          obtain rfl : v = Value.ref fs[i.toNat] := r
          have R1 : Rel X.K F G ρ ts ss σ (upd H p (.lst (fs.map V.ref))) := R.step (fun _ => False) (Same.refl G) (sm_new R.sub hp) (fun b u e _ => by rw [upd_ne (ne_of_none e hp)]; exact e) (fun _ e _ _ => e) (fun _ z => z.elim) (fun _ _ _ _ z => z) (fun _ _ z => z) fun _ _ z => z
          have h2 := te_call (K := X.K) (Γ := Γ) (W := W) (n := n) (g := g) (f := fn) σ _ Q ⟨F, G, ρ, ts, ss, R1, q⟩
          refine PySem.W.callWith_K (h₀ := X.base) I1.ok.mod.kin g3 (thn (ha.run pos pins s1 σ _ _ I1 h2) fun us s2 ⟨vs, H2, I2, r2, q2⟩ => ⟨I2.kIn, ?_⟩) he hpl
          exact run_fnS g2 hr g4 (passAt tk σ) I2 r2 q2
    · exact q.elim
  · exact q.elim
end
end DT
/-! DT: index and count of a list; a def called with the caught exception -/
namespace DT
open PySem PySem.Spec PyProof.Rows L2

/-! ### found.index(d), found.count(d) -/
theorem upd_self {H : Hp} {a : Addr} {o : HO} (h : H a = some o) : upd H a o = H := by
  funext b
  by_cases hb : b = a
  · subst hb; rw [upd_same, h]
  · rw [upd_ne hb]
def oIndex : MOp := fun ds c => match ds, c with
  | [d], .lst xs => if (SeqAt.shaped (.list xs) && SeqAt.shaped d) = true then match xs.findIdx? (fun z => PyData.eqv z d) with
    | some j => some (.lst xs, .int (j : Nat))
    | none => none else none
  | _, _ => none
theorem ok_index {K : PySem.W.Frag} : MthOk K oIndex (rIndexD K) := fun G H a o c c' xs ds d Q s h k dv e q => by
  unfold oIndex at e
  split at e
  · rename_i d0 ys
    split at e
    · rename_i hs
      rw [Bool.and_eq_true] at hs
      split at e
      · rename_i j hj
        cases e
        obtain ⟨us, rfl, h2⟩ := k.lst_inv
        cases dv with
        | cons hx ht =>
          cases ht
          rw [List.findIdx?_eq_some_iff_getElem] at hj
          obtain ⟨hl, hp, hn⟩ := hj
          have qq := q (.lst us) (.int (j : Nat)) k (.int _)
          rw [upd_self h] at qq
          refine ⟨a, _, d0, ys, j, ys[j], rfl, rfl, .lst (.of h) (h2.dp s), hx.dp s, hs.1, hs.2, List.getElem?_eq_getElem hl, hp, fun m z hm hz => ?_, qq⟩
          have hml : m < ys.length := by omega
          have := hn m hm
          rw [List.getElem?_eq_getElem hml] at hz
          cases hz
          simpa using this
      · cases e
    · cases e
  · cases e
def rCountP (K : PySem.W.Frag) : V → List V → Hp → VK → Prop := fun x xs H Q => ∃ (a : Addr) (y : V) (d : D) (ds : List D), x = V.ref a ∧ xs = [y] ∧ Dp K H (V.ref a) (.list ds) ∧ Dp K H y d ∧ PyData.plainAll ds = true ∧ d.plain = true ∧ d.depth ≤ 60 ∧
  Q (.int ((ds.countP fun z => PyData.eqv z d : Nat) : Int)) H
theorem mt_countP {X : Cx} (hu : X.A.units + 65 < cLine) : MtR X "list.count" (rCountP X.K) := by
  intro pins s σ H x xs v us Q I rx rxs h
  obtain ⟨a, y, d, ds, rfl, rfl, hl, hy, p1, p2, p3, q⟩ := h
  cases rx
  cases rxs with
  | cons ry rt =>
    rename_i uy ut
    cases rt
    obtain ⟨bs, r1⟩ := Dp.reads I d y uy hy ry
    cases hl with
    | lst hs ha =>
      obtain ⟨its, rv, pl, hlen⟩ := I.list hs
      obtain ⟨as, h4⟩ := Dp.readsAll I ds _ its ha rv
      refine PySem.SeqAt.count_list_data (vs := its.toArray) pl.isList (show ReadsAll s.heap its.toArray.toList ds as from h4) r1 p1 p2 (by omega) ⟨.int _, H, I.tok _, ⟨_, rfl⟩, q⟩
def oCount : MOp := fun ds c => match ds, c with
  | [d], .lst xs => if (PyData.plainAll xs && d.plain && dep60 d) = true then some (.lst xs, .int ((xs.countP fun z => PyData.eqv z d : Nat) : Int)) else none
  | _, _ => none
theorem ok_count {K : PySem.W.Frag} : MthOk K oCount (rCountP K) := fun G H a o c c' xs ds d Q s h k dv e q => by
  unfold oCount at e
  split at e
  · rename_i d0 ys
    split at e
    · rename_i hs
      rw [Bool.and_eq_true, Bool.and_eq_true] at hs
      cases e
      obtain ⟨us, rfl, h2⟩ := k.lst_inv
      cases dv with
      | cons hx ht =>
        cases ht
        have qq := q (.lst us) (.int _) k (.int _)
        rw [upd_self h] at qq
        exact ⟨a, _, d0, ys, rfl, rfl, .lst (.of h) (h2.dp s), hx.dp s, hs.1.1, hs.1.2, of_decide_eq_true hs.2, qq⟩
    · cases e
  · cases e

/-! ### a def that is called with the exception at hand -/
structure FnP (P : Program) (w : World) (K : PySem.W.Frag) (mg : Str → Option Value) (base : Heap) (k : Nat) (f : Addr) (fd : FuncData) (ps : List Str) (z : Addr × Obj) (sp : Sp) : Prop where
  arity : ∀ vs H Q E, sp vs H Q E → vs.length = ps.length
  go : ∀ (A : Around) (l : List Env) (s : Shared) (H : Hp) (ar : Args) (us : List Value) (vs : List V) (Q : VK) (E : XK), L2H.RoomH k A → L2H.PinOk l H s z → Env0 P w K mg base A l s H → BindsTo s fd ar (ps.zip us) → Vals vs us → sp vs H Q E →
    codeAny (model P w) A (.call (.ref f) ar) (CR (L2.CX P w) l P w H s Q E) s
/-- such a def by its body -/
theorem fnp_of {P : Program} {w : World} {K : PySem.W.Frag} {mg : Str → Option Value} {base : Heap} {k : Nat} {f : Addr} {fd : FuncData} {x : Str} {st : Stmt} {N ps : List Str} {z : Addr × Obj} {sp : Sp} (F : L2.Fun K x x st f fd) (S : FnScope N ps (L2.defScope st)) (ar : ∀ vs H Q E, sp vs H Q E → vs.length = ps.length)
    (body : ∀ (cdv : Value) (A : Around) (l : List Env) (s : Shared) (H : Hp) (vs : List V) (Q : VK) (E : XK), L2H.RoomH k (A.deeper (envOfC x (L2.defScope st) s.heap.objs.size f cdv)) → sp vs H Q E →
      ∃ t, PSs (L2H.cxH (L2.CX P w) P w K mg base N x (L2.defScope st) f cdv A l s H E z) (L2.defBody st) t ∧ t { nx := fun _ H' => Q .non H', rt := Q } (L2.start N vs) H) : FnP P w K mg base (k + 1) f fd ps z sp := by
  obtain ⟨oc, od, kV, doc, pm, an, cdv, ct, osl, rfl, lkf, code⟩ := F.ex
  refine ⟨ar, fun A l s H arg us vs Q E room pin env bind rv hsp => ?_⟩
  have many := ar _ _ _ _ hsp
  have inK : K.In s.heap := env.mod.kin.keeps fun b o e => (env.bs b o e).1
  have noLim : s.heap.NoLimit := env.mod.nolimit.keeps fun b o e => (env.bs b o e).1
  have kinds : ∀ y ∈ ps.zip us, (L2.defScope st).names.lookup y.1 = some .local ∨ ((L2.defScope st).names.lookup y.1 = some .cell ∧ ((cellsFrom (s.heap.objs.size + 1) (L2.defScope st).names []).lookup y.1).isSome = true) := fun ⟨n, v⟩ hy =>
    (S.par n (List.of_mem_zip hy).1).elim .inl fun q => .inr ⟨q, PySem.W.cellsFrom_some _ _ _ (.inl q)⟩
  refine codeAny_call_function room.depth (inK _ _ lkf) rfl S.co S.gen rfl (PySem.W.codeRec_of inK code) (bind _ _ _ _ ?_)
  refine wpAny_newFunctionEnv_cells S.kind kinds fun env1 he s1 ic => ?_
  subst he
  refine ⟨noLim.keeps ic.toInCall.keep, codeAny_func ?_⟩
  obtain ⟨t, ht, hq⟩ := body cdv A l s H vs Q E (room.deeper _) hsp
  refine wpAny_mono (ht.run [] s1 (L2.start N vs) H _ (L2H.inv_startH S pin env many rv ic) hq) (fun fl s2 hs => ?_) fun e s2 hs => hs
  cases fl with
  | brk => obtain ⟨_, _, _, q⟩ := hs; exact False.elim q
  | cont => obtain ⟨_, _, _, q⟩ := hs; exact False.elim q
  | next => obtain ⟨σ2, H2, J, q⟩ := hs; exact ⟨V.non, H2, J.os, J.bare, J.base, J.hok, rfl, q⟩
  | ret u => obtain ⟨v, σ2, H2, J, r2, q⟩ := hs; exact ⟨v, H2, J.os, J.bare, J.base, J.hok, r2, q⟩
/-- x(e), e the caught exception, within its suite -/
theorem pe_callP {X : Cx} {W : WX} {k : Nat} {f : Addr} {fd : FuncData} {ps : List Str} {sp : Sp} {x : Str} {q pos : Pos} {e : Expr} {t : TA} {z : Addr × Obj} (F : FnP X.prog X.w X.K X.mg X.base k f fd ps z sp) (room : L2H.RoomH k X.A) (hz : z ∈ X.pn) (hm : X.mg x = some (.ref f)) (hk : PySem.W.keepIn X.K (.ref f) = true)
    (hb : Binds X.K fd ps []) (tk : Takes X W) (ha : PA X [e] t) (hg : Gl X x := by rfl) (hd : (x == ("__debug__" : Str)) = false := by decide) (he : starEach [e] X.env = (false, eval e X.env) :: starEach [] X.env := by rfl) (hpl : (backTo pos (starEach [] X.env)).any (·.1) = false := by rfl) :
    PE X (.Call (.Name x q) [e] [] pos) (tCallS sp (WE W) t) := by
  refine ⟨fun pins s σ H Q I h => wpAny_Call_Name_kw (ld_glob I hg hm ?_ hd)⟩
  refine PySem.W.callWith_K (h₀ := X.base) I.ok.mod.kin hk (thn (ha.run pos pins s σ H _ I h) fun us s1 ⟨vs, H1, I1, rv, hs⟩ => ⟨I1.kIn, ?_⟩) he hpl
  have many : us.length = ps.length := by rw [← rv.length]; exact F.arity _ _ _ _ hs
  have bind := hb s1 us I1.kIn (by rw [List.append_nil]; exact many)
  rw [List.append_nil] at bind
  have pn := I1.pin z (List.mem_append_left _ hz)
  refine wpAny_call (codeAny_mono (F.go X.A X.stack s1 H1 ⟨us, []⟩ us vs Q (WE W σ) room ⟨pn.1, pn.2.1, fun m => (List.mem_cons.mp (I1.stkSub z.1 m)).elim pn.2.2.1 pn.2.2.2.1, pn.2.2.2.2⟩ I1.env0 bind rv hs) fun r s2 hr => ?_)
  cases r with
  | error u => exact passAt tk σ pins H1 s1 u s2 I1 hr
  | ok fl =>
    cases fl with
    | ret u => exact I1.after hr
    | next => exact False.elim hr
    | brk => exact False.elim hr
    | cont => exact False.elim hr
/-- isinstance(e, c), e the exception whose object is held -/
theorem call_isP {X : Cx} {a C : Addr} {oe : Obj} (c : ExcC X.K C) (hz : Zc (.ref C) none oe) (hf : ∃ vs, oe.data = .fields vs) (hp : (a, oe) ∈ X.pn) : CallR X (.builtin "isinstance") (rIsE X.K C a) := by
  intro pins s σ H xs us Q I rv h
  obtain ⟨y, cv, b, rfl, hcv, e, q⟩ := h
  cases rv with
  | cons r1 rt =>
    cases rt with
    | cons r2 rn =>
      cases rn
      cases r1
      have ey := hcv _ r2
      subst ey
      have got := (I.pin (a, oe) (List.mem_append.mpr (.inl hp))).1
      obtain ⟨fs, hv⟩ := hf
      have J : PySem.W.InstAt s.heap a oe C none := by
        obtain ⟨p1, p2, p3, p4⟩ := oe
        obtain ⟨k1, k2⟩ := hz
        cases k1; cases k2; cases hv
        exact ⟨got, rfl, rfl, trivial⟩
      exact PySem.W.kia_one (PySem.W.handS_kitx_exc c.hg c.hk c.hs c.hd c.ha c.hn c.ht c.hm) I.kIn J e (fun z => nomatch z) fun tk => ⟨.bl b, H, I.kept (t' := tk) fun _ _ z => z, rfl, q⟩

/-! ### the kinds of errors -/
/-- what the teller of kinds promises -/
def spK (a : Addr) (t : Str) : Sp := fun vs H Q _ => vs = [.ref a] ∧ ∀ H' : Hp, (∀ b o, H b = some o → H' b = some o) → Q (.str t) H'
def isE (a : Addr) (i : Nat) (b : Bool) : M Wv := fun ss => match ss[i]? with
  | some (.exn a') => if a' = a then some (.ok (.val (.bool b)) ss) else none
  | _ => none
theorem isE_at {a : Addr} {i : Nat} {b : Bool} {ss : Sl} (h : ss[i]? = some (.exn a)) : isE a i b ss = some (.ok (.val (.bool b)) ss) := by
  unfold isE; rw [h]; dsimp only; rw [if_pos rfl]
theorem de_isE {Γ : Gm} {X : Cx} {W : WX} {a C T : Addr} {oe : Obj} {b : Bool} {x y : Str} {p p1 p2 pos : Pos} (i : Nat) (c : ExcC X.K C) (hz : Zc (.ref C) none oe) (hf : ∃ vs, oe.data = .fields vs) (hp : (a, oe) ∈ X.pn) (hk : PySem.W.kitOne X.K (.ref C) (.ref T) = some b) (hT : X.mg y = some (.ref T)) (hm : X.mg "isinstance" = none)
    (hv : bootBuiltins "isinstance" = some (.builtin "isinstance")) (hN : X.N[i]? = some x := by rfl) (hvx : Vis X.env.scope x := by first | exact Or.inl rfl | exact Or.inr (Or.inl rfl) | exact Or.inr (Or.inr rfl)) (hd : (x == ("__debug__" : Str)) = false := by decide) (hcd : (x == ("__classdict__" : Str)) = false := by decide)
    (hgy : Gl X y := by rfl) (hdy : (y == ("__debug__" : Str)) = false := by decide) (hg : Gl X "isinstance" := by rfl) (s1 : starEach [.Name x p1, .Name y p2] X.env = (false, eval (.Name x p1) X.env) :: starEach [.Name y p2] X.env := by rfl)
    (s2 : starEach [.Name y p2] X.env = (false, eval (.Name y p2) X.env) :: starEach [] X.env := by rfl) (hpl : (backTo pos (starEach [.Name y p2] X.env)).any (·.1) = false := by rfl) : DE Γ X W (.Call (.Name "isinstance" p) [.Name x p1, .Name y p2] [] pos) (isE a i b) := by
  have hy : PE X (.Name y p2) (tC (.ref T)) := ⟨fun pins s σ H Q I q => ld_glob I hgy hT ⟨.ref T, H, I, rfl, q⟩ hdy⟩
  refine PE_imp (pe_callB (call_isP c hz hf hp) hg hm hv (pa_cons (pe_var hN hvx hd hcd) (pa_cons hy pa_nil s2) s1) (by decide) (by decide) s1 hpl) fun σ H Q ⟨F, G, ρ, ts, ss, R, q⟩ => ?_
  unfold isE at q
  cases e : ss[i]? with
  | none => rw [e] at q; exact q.elim
  | some s =>
    rw [e] at q
    cases s with
    | exn a' =>
      dsimp only at q
      split at q
      · rename_i ea
        subst ea
        exact ⟨.ref a', R.slot i _ e, .ref T, .ref T, b, rfl, fun u r => r, hk, OutE.vl q R (.bl b)⟩
      · exact q.elim
    | _ => exact q.elim
/-- the teller's frame -/
theorem rel_kind {K : PySem.W.Frag} {H : Hp} {a : Addr} {N : List Str} : Rel K ⟨H, fun _ => False, fun _ => 0, [], fun _ => False⟩ (fun _ => none) (fun _ => 0) [] (.exn a :: List.replicate (N.length - 1) .un) (L2.start N [.ref a]) H := by
  have at_ : ∀ {i s}, (Slot.exn a :: List.replicate (N.length - 1) .un)[i]? = some s → (i = 0 ∧ s = .exn a) ∨ s = .un := fun {i s} e => by
    cases i with
    | zero => cases e; exact .inl ⟨rfl, rfl⟩
    | succ i =>
      rw [List.getElem?_cons_succ, List.getElem?_replicate] at e
      split at e
      · cases e; exact .inr rfl
      · cases e
  refine ⟨fun b o e => (by cases e), fun b o e _ => e, by simp [L2.start, List.length_replicate], fun i s e => ?_, fun i s e w => ?_, fun i j s t e _ w _ _ => ?_, fun t ht => (by cases ht), List.nodup_nil, fun t ht => (by cases ht), List.nodup_nil, List.nodup_nil, fun b e => absurd rfl e⟩
  · rcases at_ e with ⟨rfl, rfl⟩ | rfl
    · rfl
    · trivial
  · rcases at_ e with ⟨rfl, rfl⟩ | rfl <;> cases w
  · rcases at_ e with ⟨rfl, rfl⟩ | rfl <;> cases w
theorem fnp_kind {P : Program} {w : World} {K : PySem.W.Frag} {mg : Str → Option Value} {base : Heap} {Γ : Gm} {k : Nat} {f : Addr} {fd : FuncData} {x y : Str} {st : Stmt} {N : List Str} {a : Addr} {oe : Obj} {t : Str} {fb : M SO} {s' : Sl} (F : L2.Fun K x x st f fd) (S : FnScope N [y] (L2.defScope st))
    (ev : fb (.exn a :: List.replicate (N.length - 1) .un) = some (.ok (.rt (.val (.str t))) s'))
    (body : ∀ (cdv : Value) (A : Around) (l : List Env) (s : Shared) (H : Hp) (E : XK), L2H.RoomH k (A.deeper (envOfC x (L2.defScope st) s.heap.objs.size f cdv)) → DSs Γ (L2H.cxH (L2.CX P w) P w K mg base N x (L2.defScope st) f cdv A l s H E (a, oe)) W0 (L2.defBody st) fb) : FnP P w K mg base (k + 1) f fd [y] (a, oe) (spK a t) := by
  refine fnp_of F S (fun vs H Q E h => by rw [h.1]; rfl) fun cdv A l s H vs Q E room ⟨h1, h2⟩ => ⟨_, body cdv A l s H E room, ?_⟩
  subst h1
  refine ⟨_, _, _, [], _, rel_kind (a := a), ?_⟩
  rw [ev]
  rintro v σ' H' G' ρ' g ⟨R, d⟩
  cases d
  exact h2 H' fun b o e => R.frame b o e fun z => z

/-! ### try: .. except E as e: return kind(e) -/
def tryK (i : Nat) (ks : Nat → Option Str) (fb : M SO) : M SO := fun ss => match fb ss with
  | some (.ex (.pl c) s) => match ks c with
    | some t => if decide (i < s.length) = true then some (.ok (.rt (.val (.str t))) s) else none
    | none => none
  | some (.ex (.fld _ _ _) _) => none
  | r => r
def tsK (Γ : Gm) (ks : Nat → Option Str) (i : Nat) (a : Addr) (cls : Value) (d : Option Addr) : TS := fun D σ H => ∃ c t, cls = .ref (Γ.ca c) ∧ d = none ∧ ks c = some t ∧ σ[i]? = some (some (.ref a)) ∧ ∀ H' : Hp, (∀ b o, H b = some o → H' b = some o) → D.rt (.str t) H'
section
variable {Γ : Gm} {X : Cx} {W : WX} {k : Nat} {f CM : Addr} {fd : FuncData} {x n : Str} {ks : Nat → Option Str} {body : List Stmt} {fb : M SO} {np q p1 p2 p3 pos' pos : Pos} {kn : Str}
theorem ds_tryK (i : Nat) (hs : X.stack = X.env :: X.outer) (hf : X.env.frame = some X.env.locals) (hN : X.N.Nodup) (tk : Takes X W) (hc : Names X x (.ref CM)) (hr : Room k X.A)
    (hex : ∀ c t, ks c = some t → PySem.W.exmOne X.K (.ref (Γ.ca c)) (.ref CM) = some true)
    (hkind : ∀ c t a oe, ks c = some t → Zc (.ref (Γ.ca c)) none oe → (∃ vs, oe.data = .fields vs) → FnP X.prog X.w X.K X.mg X.base k f fd ["error"] (a, oe) (spK a t)) (hm : X.mg kn = some (.ref f)) (hk : PySem.W.keepIn X.K (.ref f) = true) (hb : Binds X.K fd ["error"] [])
    (hbody : ∀ (W' : WX) (pn : List (Addr × Obj)) (xe : Value → Shared → Prop), Takes (X.tr pn xe) W' → PassesOwn (model X.prog X.w) X.A X.env xe → DSs Γ (X.tr pn xe) W' body fb)
    (hi : X.N[i]? = some n := by rfl) (hln : X.env.kindOf n = some .local := by rfl) (hd : (n == ("__debug__" : Str)) = false := by decide) (hcd : (n == ("__classdict__" : Str)) = false := by decide) (hg : Gl X kn := by rfl) (hdk : (kn == ("__debug__" : Str)) = false := by decide) :
    DS Γ X W (.Try body [.ExceptHandler (some (.Name x np)) (some n) [.Return (some (.Call (.Name kn q) [.Name n p1] [] p2)) p3] pos'] [] [] pos) (tryK i ks fb) := by
  refine PS_imp (ps_try_as (tb := fun W' => tS X.K Γ W' fb) (ts := tsK Γ ks i) (Wout := W) hs hf hN hi hln hc tk (fun W' pn xe t p => hbody W' pn xe t p) fun a oe cls d pn hz hfl => ?_) fun D σ H ⟨F, G, ρ, ts, ss, R, o⟩ => ⟨F, G, ρ, ts, ss, R, ?_⟩
  · refine ⟨fun pins s σ H D I ⟨c, t, e1, e2, ec, hσ, fin⟩ => ?_⟩
    subst e1 e2
    have P := hkind c t a oe ec hz hfl
    have call := pe_callP (X := X.suite a ((a, oe) :: pn)) (W := fun _ _ _ _ => False) (pos := p2) (q := q) P ⟨hr.dp, hr.un⟩ List.mem_cons_self hm hk hb takes0 (pa_cons (e := .Name n p1) (pe_var (i := i) hi (.inl hln) hd hcd) pa_nil rfl) hg hdk rfl rfl
    exact (pss_one (ps_ret call)).run pins s σ H D I ⟨.ref a, hσ, rfl, fin⟩
  · unfold tryK at o
    cases ef : fb ss with
    | none => rw [ef] at o; exact o
    | some r =>
      rw [ef] at o
      cases r with
      | ok so s => cases so <;> exact o
      | ex z s =>
        cases z with
        | fld c f j => exact o.elim
        | pl c =>
          dsimp only at o
          cases et : ks c with
          | none => rw [et] at o; exact o.elim
          | some t =>
            rw [et] at o
            dsimp only at o
            split at o
            · rename_i hl
              have hl := of_decide_eq_true hl
              rintro σ' H' G' ρ' cls d g R' ⟨rfl, rfl⟩
              refine ⟨true, hex c t et, fun _ a na => ⟨c, t, rfl, rfl, et, List.getElem?_set_self (by rw [← R'.len]; exact hl), fun H2 sub => ?_⟩, fun e => by cases e⟩
              have R2 : Rel X.K F G' ρ' ts s σ' H2 := R'.step (fun _ => False) (Same.refl G') (fun b u e => sub b u (R'.sub b u e)) (fun b u e _ => sub b u e) (fun _ e _ _ => e) (fun _ z => z.elim) (fun _ _ _ _ z => z) (fun _ _ z => z) fun _ _ z => z
              exact o (.str t) σ' H2 G' ρ' g ⟨R2, .str t⟩
            · exact o.elim
end

/-- the teller of kinds, at every error that it tells of -/
structure KFn (P : Program) (w : World) (K : PySem.W.Frag) (mg : Str → Option Value) (base : Heap) (Γ : Gm) (k : Nat) (kn : Str) (ks : Nat → Option Str) : Prop where
  ex : ∃ (f : Addr) (fd : FuncData), mg kn = some (.ref f) ∧ PySem.W.keepIn K (.ref f) = true ∧ Binds K fd ["error"] [] ∧
    ∀ c t a oe, ks c = some t → Zc (.ref (Γ.ca c)) none oe → (∃ vs, oe.data = .fields vs) → FnP P w K mg base k f fd ["error"] (a, oe) (spK a t)
theorem FnP.mono {P : Program} {w : World} {K : PySem.W.Frag} {mg : Str → Option Value} {base : Heap} {k j : Nat} {f : Addr} {fd : FuncData} {ps : List Str} {z : Addr × Obj} {sp : Sp} (h : FnP P w K mg base k f fd ps z sp) (hk : k ≤ j) : FnP P w K mg base j f fd ps z sp :=
  ⟨h.arity, fun A l s H ar us vs Q E r => h.go A l s H ar us vs Q E (r.mono hk)⟩
section
variable {Γ : Gm} {X : Cx} {W : WX} {k j : Nat} {CM : Addr} {x n : Str} {ks : Nat → Option Str} {body : List Stmt} {fb : M SO} {np q p1 p2 p3 pos' pos : Pos} {kn : Str}
theorem ds_try (i : Nat) (h : KFn X.prog X.w X.K X.mg X.base Γ j kn ks) (hj : j ≤ k) (hs : X.stack = X.env :: X.outer) (hf : X.env.frame = some X.env.locals) (hN : X.N.Nodup) (tk : Takes X W) (hr : Room k X.A) (hm : X.mg x = some (.ref CM))
    (hex : ∀ c t, ks c = some t → PySem.W.exmOne X.K (.ref (Γ.ca c)) (.ref CM) = some true)
    (hbody : ∀ (W' : WX) (pn : List (Addr × Obj)) (xe : Value → Shared → Prop), Takes (X.tr pn xe) W' → PassesOwn (model X.prog X.w) X.A X.env xe → DSs Γ (X.tr pn xe) W' body fb)
    (hi : X.N[i]? = some n := by rfl) (hln : X.env.kindOf n = some .local := by rfl) (hd : (n == ("__debug__" : Str)) = false := by decide) (hcd : (n == ("__classdict__" : Str)) = false := by decide) (hg : Gl X kn := by rfl) (hdk : (kn == ("__debug__" : Str)) = false := by decide)
    (hgx : Gl X x := by rfl) (hdx : (x == ("__debug__" : Str)) = false := by decide) :
    DS Γ X W (.Try body [.ExceptHandler (some (.Name x np)) (some n) [.Return (some (.Call (.Name kn q) [.Name n p1] [] p2)) p3] pos'] [] [] pos) (tryK i ks fb) := by
  obtain ⟨f, fd, h1, h2, h3, h4⟩ := h.ex
  exact ds_tryK i hs hf hN tk ⟨hgx, hdx, .inl hm⟩ hr hex (fun c t a oe e z v => (h4 c t a oe e z v).mono hj) h1 h2 h3 hbody hi hln hd hcd hg hdk
end
theorem roomH_u65 {k : Nat} {A : Around} (r : L2H.RoomH k A) : A.units + 65 < cLine := by have := r.un; omega
end DT
/-! DT: the law's own def, at the caller -/
namespace DT
open PySem PySem.Spec PyProof.Rows L2

/-- a def's promise where no repr is under way -/
structure FnG (P : Program) (w : World) (K : PySem.W.Frag) (mg : Str → Option Value) (base : Heap) (k : Nat) (f : Addr) (fd : FuncData) (ps : List Str) (sp : Sp) : Prop where
  go : ∀ (A : Around) (l : List Env) (s : Shared) (H : Hp) (ar : Args) (us : List Value) (vs : List V) (Q : VK) (E : XK), Room k A → A.guards = some [] → Env0 P w K mg base A l s H → BindsTo s fd ar (ps.zip us) → Vals vs us → vs.length = ps.length → sp vs H Q E →
    codeAny (model P w) A (.call (.ref f) ar) (CR (L2.CX P w) l P w H s Q E) s
theorem fng_of {P : Program} {w : World} {K : PySem.W.Frag} {mg : Str → Option Value} {base : Heap} {k : Nat} {f : Addr} {fd : FuncData} {x : Str} {st : Stmt} {N ps : List Str} {sp : Sp} (F : L2.Fun K x x st f fd) (S : FnScope N ps (L2.defScope st))
    (body : ∀ (cdv : Value) (A : Around) (l : List Env) (s : Shared) (H : Hp) (vs : List V) (Q : VK) (E : XK), Room k (A.deeper (envOfC x (L2.defScope st) s.heap.objs.size f cdv)) → A.guards = some [] → sp vs H Q E →
      ∃ t, PSs (cxOf (L2.CX P w) P w K mg base N x (L2.defScope st) f cdv A l s H E) (L2.defBody st) t ∧ t { nx := fun _ H' => Q .non H', rt := Q } (L2.start N vs) H) : FnG P w K mg base (k + 1) f fd ps sp := by
  obtain ⟨oc, od, kV, doc, pm, an, cdv, ct, osl, rfl, lkf, code⟩ := F.ex
  refine ⟨fun A l s H arg us vs Q E room hgd env bind rv many hsp => ?_⟩
  have inK : K.In s.heap := env.mod.kin.keeps fun b o e => (env.bs b o e).1
  have noLim : s.heap.NoLimit := env.mod.nolimit.keeps fun b o e => (env.bs b o e).1
  have kinds : ∀ y ∈ ps.zip us, (L2.defScope st).names.lookup y.1 = some .local ∨ ((L2.defScope st).names.lookup y.1 = some .cell ∧ ((cellsFrom (s.heap.objs.size + 1) (L2.defScope st).names []).lookup y.1).isSome = true) := fun ⟨n, v⟩ hy =>
    (S.par n (List.of_mem_zip hy).1).elim .inl fun q => .inr ⟨q, PySem.W.cellsFrom_some _ _ _ (.inl q)⟩
  refine codeAny_call_function room.depth (inK _ _ lkf) rfl S.co S.gen rfl (PySem.W.codeRec_of inK code) (bind _ _ _ _ ?_)
  refine wpAny_newFunctionEnv_cells S.kind kinds fun env1 he s1 ic => ?_
  subst he
  refine ⟨noLim.keeps ic.toInCall.keep, codeAny_func ?_⟩
  obtain ⟨t, ht, hq⟩ := body cdv A l s H vs Q E (room.deeper _) hgd hsp
  refine wpAny_mono (ht.run [] s1 (L2.start N vs) H _ (inv_start S room.hd env many rv ic) hq) (fun fl s2 hs => ?_) fun e s2 hs => hs
  cases fl with
  | brk => obtain ⟨_, _, _, q⟩ := hs; exact False.elim q
  | cont => obtain ⟨_, _, _, q⟩ := hs; exact False.elim q
  | next => obtain ⟨σ2, H2, J, q⟩ := hs; exact ⟨V.non, H2, J.os, J.bare, J.base, J.hok, rfl, q⟩
  | ret u => obtain ⟨v, σ2, H2, J, r2, q⟩ := hs; exact ⟨v, H2, J.os, J.bare, J.base, J.hok, r2, q⟩
/-- the law's def by its body -/
theorem fng_dt {P : Program} {w : World} {K : PySem.W.Frag} {mg : Str → Option Value} {base : Heap} {Γ : Gm} {k : Nat} {f : Addr} {fd : FuncData} {x : Str} {st : Stmt} {N ps : List Str} {fb : M SO} (F : L2.Fun K x x st f fd) (S : FnScope N ps (L2.defScope st))
    (hbody : ∀ (cdv : Value) (A : Around) (l : List Env) (s : Shared) (H : Hp) (E : XK), Room k (A.deeper (envOfC x (L2.defScope st) s.heap.objs.size f cdv)) → (A.deeper (envOfC x (L2.defScope st) s.heap.objs.size f cdv)).guards = some [] →
      DSs Γ (cxOf (L2.CX P w) P w K mg base N x (L2.defScope st) f cdv A l s H E) (fun cls d _ H => E cls d H) (L2.defBody st) fb) : FnG P w K mg base (k + 1) f fd ps (spD K Γ ps.length (endF N.length fb)) := by
  refine fng_of F S fun cdv A l s H vs Q E hr hgd ⟨as, G, h1, h2, sm, ats, ap, q⟩ => ⟨_, hbody cdv A l s H E hr hgd, ?_⟩
  have hN : ps.length ≤ N.length := by have := congrArg List.length S.pre; rw [List.length_take] at this; omega
  exact ⟨_, G, _, [], _, rel_start (h1.trans h2.symm) (by omega) sm ats ap, outF_of q⟩
/-- what the law's def answers at a script -/
theorem law_sp {K : PySem.W.Frag} {Γ : Gm} {fn : Fn} {H : Hp} {a : Addr} {ns : List Int} {E : XK} {s' : Sl} (h : SqL K H a (ns.map V.int)) (e : fn [.rol (ns.map PyData.int)] = some (.ok (.val (.bool true)) s')) : spD K Γ 1 fn [.ref a] H (fun v _ => v = .bl true) E := by
  refine ⟨[.rol (ns.map PyData.int)], H, rfl, rfl, Same.refl H, fun j x v h1 h2 => ?_, fun i j x y p h1 h2 w1 w2 => ?_, ?_⟩
  · cases j with
    | zero => cases h1; cases h2; exact ⟨a, _, rfl, h, .of_ints ns⟩
    | succ j => cases h1
  · cases i with
    | zero => cases h1; cases w1
    | succ i => cases h1
  · rw [e]
    rintro v H' G' B d
    cases d
    rfl

/-- the script's heap: at most the script itself is told of -/
structure OnlyAt (P : Program) (w : World) (K : PySem.W.Frag) (s : Shared) (a : Addr) (H : Hp) : Prop where
  ok : HOk P w H s.heap
  one : ∀ b u, H b = some u → b = a
  frz : ∀ b u, H b = some u → ∃ ob xs, u = .frz ob (.lst xs)
  out : ∀ b u, H b = some u → K.lookup b = none
/-- the call of the law's def, from such a heap -/
theorem law_at {P : Program} {w : World} {K : PySem.W.Frag} {mg mb : Str → Option Value} {k : Nat} {fa a : Addr} {fd : FuncData} {x : Str} {sp : Sp} {s : Shared} {vs : List Value} {H : Hp} (T : OnlyAt P w K s a H)
    (inK : K.In s.heap) (glob : s.heap.Ns mainGlobals mg) (blt : s.heap.Ns builtinsNs mb) (boot : ∀ y : Str, y ≠ "__name__" → mb y = bootBuiltins y) (noLim : s.heap.NoLimit) (gens : s.gens = #[]) (obj : s.heap.get? a = some { cls := .type "list", data := .seq vs.toArray }) (room : Room k callerA)
    (F : ∀ base : Heap, K.In base → base.Ns mainGlobals mg → FnG P w K mg base k fa fd [x] sp) (bind : ∀ (s : Shared) (u : Value), BindsTo s fd ⟨[u], []⟩ [(x, u)]) (hsp : sp [.ref a] H (fun v _ => v = .bl true) fun _ _ _ => False) :
    codeAny (model P w) callerA (.call (.ref fa) ⟨[.ref a], []⟩) (fun r s' => r = .ok (.ret (.bool true)) ∧ OldK s.heap s'.heap ∧ s'.os = s.os ∧ AllBare s'.gens) s := by
  have down : ∀ {b : Addr} {o : Obj}, s.heap.get? b = some o → (∀ u, H b ≠ some u) → (hidT s.heap H).get? b = some o := fun e n => hidT_get e (by
    cases q : H _ with
    | none => rfl
    | some u => exact absurd q (n u))
  have spaces : ∀ {b : Addr} {m : Str → Option Value}, s.heap.Ns b m → (hidT s.heap H).Ns b m := fun {b m} ⟨o, es, ep, e, d, r⟩ => ⟨o, es, ep, down e fun u z => by
    have hb := T.one b u z
    rw [hb, obj] at e
    obtain rfl := Option.some.inj e
    exact Data.noConfusion (show Data.seq vs.toArray _ = Data.dict es ep from d), d, r⟩
  have inB : K.In (hidT s.heap H) := fun b o e => down (inK b o e) fun u z => by rw [T.out b u z] at e; cases e
  have M : Mod K mg (hidT s.heap H) := ⟨inB, spaces glob, ⟨mb, spaces blt, boot⟩, (let ⟨mc, l1, l2⟩ := noLim; ⟨mc, spaces l1, l2⟩)⟩
  have start : Env0 P w K mg (hidT s.heap H) callerA [] s H := { frames := rfl, mod := M, bs := fun b o e => of_hidT e, bsz := Nat.le_of_eq (hidT_size _ _), funs := trivial, frf := fun b hb => (by cases hb), hok := T.ok, bare := .of_eq gens }
  refine codeAny_mono ((F _ inB (spaces glob)).go callerA [] s H ⟨[.ref a], []⟩ [.ref a] [.ref a] _ _ room rfl start (bind s (.ref a)) (.cons rfl .nil) rfl hsp) fun r s2 hr => ?_
  match r, hr with
  | .error u, ⟨_, _, _, _, _, _, _, _, _, _, _, _, z⟩ => exact z.elim
  | .ok .next, z => exact False.elim z
  | .ok .brk, z => exact False.elim z
  | .ok .cont, z => exact False.elim z
  | .ok (.ret u), ⟨v, H2, os, bare, un, hok2, rv, q⟩ =>
    have q : v = .bl true := q
    subst q
    obtain rfl : u = Value.bool true := rv
    refine ⟨rfl, OldK.of_keep fun b o e => ?_, os, bare⟩
    cases hb : H b with
    | none => exact un.keep b o e hb (fun z => by cases z) (fun z => by cases z)
    | some y =>
      obtain ⟨ob, xs, rfl⟩ := T.frz b y hb
      have old := (T.ok b _ hb).1
      have new := (hok2 b _ (un.frzs b ob _ hb)).1
      rw [e] at old
      obtain rfl := Option.some.inj old
      exact new
/-- .. from the top -/
theorem law_go {P : Program} {w : World} {K : PySem.W.Frag} {mg mb : Str → Option Value} {k : Nat} {fa a : Addr} {fd : FuncData} {x : Str} {sp : Sp} {s : Shared} {vs : List Value} {ns : List Int}
    (inK : K.In s.heap) (glob : s.heap.Ns mainGlobals mg) (blt : s.heap.Ns builtinsNs mb) (boot : ∀ y : Str, y ≠ "__name__" → mb y = bootBuiltins y) (noLim : s.heap.NoLimit) (gens : s.gens = #[]) (obj : s.heap.get? a = some { cls := .type "list", data := .seq vs.toArray }) (whole : IntsAre vs ns) (few : ns.length ≤ sizeLine) (room : Room k callerA)
    (F : ∀ base : Heap, K.In base → base.Ns mainGlobals mg → FnG P w K mg base k fa fd [x] sp) (bind : ∀ (s : Shared) (u : Value), BindsTo s fd ⟨[u], []⟩ [(x, u)]) (hsp : ∀ H : Hp, SqL K H a (ns.map V.int) → sp [.ref a] H (fun v _ => v = .bl true) fun _ _ _ => False) :
    codeAny (model P w) callerA (.call (.ref fa) ⟨[.ref a], []⟩) (fun r s' => r = .ok (.ret (.bool true)) ∧ OldK s.heap s'.heap ∧ s'.os = s.os ∧ AllBare s'.gens) s := by
  have rv := vals_ints whole
  have many : vs.length ≤ sizeLine := by rw [whole.length]; exact few
  cases hk : K.lookup a with
  | some o =>
    have e := (inK a o hk).symm.trans obj
    cases e
    exact law_at (H := fun _ => none) ⟨fun b u z => (by cases z), fun b u z => (by cases z), fun b u z => (by cases z), fun b u z => (by cases z)⟩ inK glob blt boot noLim gens obj room F bind
      (hsp _ (.inr ⟨_, vs.toArray, _, hk, rfl, rfl, rfl, by rw [List.size_toArray]; exact many, by simpa using rv⟩))
  | none =>
    have one : ∀ b u, (if b = a then some (HO.frz { cls := .type "list", data := .seq vs.toArray } (.lst (ns.map V.int))) else none) = some u → b = a ∧ u = .frz { cls := .type "list", data := .seq vs.toArray } (.lst (ns.map V.int)) := fun b u z => by
      by_cases hb : b = a
      · rw [if_pos hb] at z; cases z; exact ⟨hb, rfl⟩
      · rw [if_neg hb] at z; cases z
    refine law_at (H := fun b => if b = a then some (.frz { cls := .type "list", data := .seq vs.toArray } (.lst (ns.map V.int))) else none) ⟨fun b u z => ?_, fun b u z => (one b u z).1, fun b u z => ⟨_, _, (one b u z).2⟩, fun b u z => by rw [(one b u z).1]; exact hk⟩ inK glob blt boot noLim gens obj room F bind
      (hsp _ (.inl (.inr ⟨_, if_pos rfl⟩)))
    obtain ⟨rfl, rfl⟩ := one b u z
    exact ⟨obj, by rw [List.length_map]; exact few, vs, _, rv, obj⟩
/-- the goal behind the head -/
theorem walk_dt {l : PySem.W.OpenLaw} {n k : Nat} {q : Program} {loose : List Str} {XP : (Str → Option Value) → Heap → Prop} {YP : World → Heap → Prop} {d : DefRec} {K : Params → PySem.W.Frag} {Γ : Gm} {fn : Fn} {x : Str} (most : l.most = some n) (small : n ≤ sizeLine) (plain : d.params.defaults = []) (room : Room k callerA) (hY : ∀ (w : World) (h : Heap), YP w h → (K w.params).In h)
    (F : ∀ (w : World) (mg : Str → Option Value) (fa : Addr) (h : Heap), (K w.params).In h → h.Ns mainGlobals mg → mg d.name = some (.ref fa) →
      ∃ (fd : FuncData) (Γ : Gm), (∀ (s : Shared) (u : Value), BindsTo s fd ⟨[u], []⟩ [(x, u)]) ∧ ∀ base : Heap, (K w.params).In base → base.Ns mainGlobals mg → FnG l.prog w (K w.params) mg base k fa fd [x] (spD (K w.params) Γ 1 fn))
    (ans : ∀ ns : List Int, ns.length ≤ n → ∃ s', fn [.rol (ns.map PyData.int)] = some (.ok (.val (.bool true)) s')) : PySem.W.WalkO q loose XP YP l.row.toRowW d [] (fun f vs => PySem.call f vs) := by
  refine Att.attach_call most plain fun w s0 s1 mg mb fa o pm cd doc a vs ns G Y _ _ _ hmg obj whole many gens => ?_
  have inK := hY w _ Y
  obtain ⟨fd, Γ, bind, FF⟩ := F w mg fa _ inK G.T.g hmg
  obtain ⟨s', e⟩ := ans ns many
  exact law_go inK G.T.g G.T.b G.T.builtins G.T.nolimit gens obj whole (Nat.le_trans many small) room FF bind fun H h => law_sp h e
end DT
/-! DT: a tuple times an int -/
namespace DT
open PySem PySem.Spec PyProof.Rows L2

/-- a tuple, many times -/
def rRep2 (K : PySem.W.Frag) : R2 := fun x y H Q => ∃ l k xs, x = .ref l ∧ y = .int k ∧ SqT K H l xs ∧ xs ≠ [] ∧ 2 ≤ k ∧ k ≤ 1000000 ∧ xs.length * k.toNat ≤ 1000000 ∧ ∀ p, H p = none → Q (.ref p) (upd H p (.tup (List.replicate k.toNat xs).flatten))
set_option maxHeartbeats 2000000 in
theorem op_rep2 {X : Cx} : OpR X (binaryOp .Mult) (rRep2 X.K) := by
  intro pins s σ H x y v u Q I rx ry ⟨l, k, xs, ex, ey, hq, ne, k2, km, sz, fin⟩
  subst ex ey
  cases rx
  obtain ⟨tk, rfl⟩ := ry
  obtain ⟨us, rv, ⟨⟨cl, dc, dat, slt⟩, got, isT, m, isS⟩, _⟩ := I.tuple hq
  dsimp only at isT isS
  subst isT isS
  have len : us.length = xs.length := rv.length.symm
  have nil : us.toArray.isEmpty = false := by
    cases us with
    | cons _ _ => rfl
    | nil => exact absurd (List.eq_nil_of_length_eq_zero (show xs.length = 0 from len.symm)) ne
  have asz : us.toArray.size = xs.length := by rw [List.size_toArray, len]
  have prod : ((us.toArray.size : Nat) : Int) * k ≤ 1000000 := by
    rw [asz]
    have hk : k = ((k.toNat : Nat) : Int) := by omega
    rw [hk, ← Int.natCast_mul]
    exact Int.ofNat_le.mpr sz
  have fl : (List.replicate k.toNat us).flatten.length ≤ sizeLine := by
    rw [PyProof.Rows.lm_len_rep_flat, len, sizeLine_eq, Nat.mul_comm]
    omega
  have d1 : (decide (k < -(2 ^ 63)) || decide (k ≥ 2 ^ 63)) = false := by
    rw [Bool.or_eq_false_iff]
    exact ⟨decide_eq_false (by omega), decide_eq_false (by omega)⟩
  have d2 : (us.toArray.isEmpty || k == 1) = false := by
    rw [Bool.or_eq_false_iff]
    exact ⟨nil, beq_eq_false_iff_ne.mpr (by omega)⟩
  have d3 : (decide (k ≤ 0) || us.toArray.isEmpty) = false := by
    rw [Bool.or_eq_false_iff]
    exact ⟨decide_eq_false (by omega), nil⟩
  have d4 : Builtin.Tuple.tupleTooMany (((us.toArray.size : Nat) : Int) * k) = false := by
    unfold Builtin.Tuple.tupleTooMany
    rw [sizeLine_eq]
    exact decide_eq_false (by omega)
  have inner := call_meets (prog := X.prog) (w := X.w) (A := X.A) (E := X.xe) (s := s) (Q := fun z s' => EP X pins σ Q z s') F.slot_tuple_mul (show s.TypeIs (.ref l) "tuple" from ⟨_, got, rfl⟩) F.entry_tuple_mul (F.args_tuple_mul_2 _ _)
    (tuple_mulW l us.toArray m dc slt k tk d1 d2 d3 (by omega) d4 (by rw [size_rep, List.size_toArray]; exact fl)) ⟨got, by
      rw [size_rep]
      exact ⟨.ref s.heap.objs.size, _, I.laid (t' := s.toks) (o := .tup (List.replicate k.toNat xs).flatten) (fun b ob q => Heap.get?_push_of_some _ q) (Nat.le_refl _)
        ⟨by rw [PyProof.Rows.lm_len_rep_flat, sizeLine_eq, Nat.mul_comm]; omega, _, rv.rep k.toNat, IsTup.new _ _⟩, rfl, fin _ (I.hok.fresh (Nat.le_refl _))⟩⟩
  exact wpAny_binaryOp_repeat_ref (T := "tuple") (U := "int") (by decide) ⟨_, got, rfl⟩ (fun s' => typeIs_int s' k tk) noFill_tuple_mul F.fills_int_mul F.slot_int_rmul repeat_tuple F.slot_int_index.lookup
    (call_meets F.slot_int_rmul (typeIs_int s k tk) F.entry_int_rmul (F.args_int_rmul_2 _ _) (int_rmul_tuple k tk l us.toArray m dc slt) ⟨got, rfl, ⟨_, got, rfl⟩, inner⟩)
def tMul (w u : Wv) : M Wv := fun ss => match tupV ss w, intV ss u with
  | some xs, some k => if (!xs.isEmpty && decide (2 ≤ k) && decide (k ≤ 1000000) && decide (xs.length * k.toNat ≤ 1000000)) = true then some (.ok (.val (.tuple (List.replicate k.toNat xs).flatten)) ss) else none
  | _, _ => none
theorem ok_tMul {K : PySem.W.Frag} : OpOk K tMul (rRep2 K) := by
  intro Γ W F G ρ ts ss σ H w u x y Q r q
  unfold tMul at q
  have R := r.rel
  split at q
  · rename_i xs k e1 e2
    split at q
    · rename_i hz
      rw [Bool.and_eq_true, Bool.and_eq_true, Bool.and_eq_true] at hz
      obtain ⟨⟨⟨z1, z2⟩, z3⟩, z4⟩ := hz
      obtain ⟨a, vs, rfl, h1, d1⟩ := tupV_pk R.sub e1 fun k => r.pk21
      refine ⟨a, k, vs, rfl, intV_pk e2 fun k => r.pk22, .of (R.sub _ _ h1), fun e => ?_, of_decide_eq_true z2, of_decide_eq_true z3, by rw [d1.length]; exact of_decide_eq_true z4, OutE.nt q R (d1.rep k.toNat)⟩
      subst e
      cases d1
      cases z1
    · exact q.elim
  · exact q.elim
/-- x * y: ints, a list or a tuple times an int -/
def mulX (w u : Wv) : M Wv := fun ss => match tupV ss w with
  | some _ => tMul w u ss
  | none => mulW w u ss
theorem ok_mulX {K : PySem.W.Frag} : OpOk K mulX (fun x y H Q => (rI CMul (fun i j => .int (i * j)) x y H Q ∨ rRep x y H Q) ∨ rRep2 K x y H Q) := by
  intro Γ W F G ρ ts ss σ H w u x y Q r q
  unfold mulX at q
  split at q
  · exact .inr (ok_tMul Γ W F G ρ ts ss σ H w u x y Q r q)
  · exact .inl (ok_mulW Γ W F G ρ ts ss σ H w u x y Q r q)
section
variable {Γ : Gm} {X : Cx} {W : WX} {a b : Expr} {fa fb : M Wv} {pos : Pos}
theorem de_mulX (ha : DE Γ X W a fa) (hb : DE Γ X W b fb) : DE Γ X W (.BinOp a .Mult b pos) (bin fa fb mulX) := de_bin ((op_mul.or op_rep).or op_rep2) ok_mulX ha hb
end
end DT
/-! DT: steps of evaluation -/
namespace DT
open PySem PySem.Spec PyProof.Rows L2
section
variable {α β : Type} {ss s s' : Sl}
theorem bnd_ok {f : M α} {k : α → M β} {a : α} (h : f ss = some (.ok a s)) : bnd f k ss = k a s := by unfold bnd; rw [h]
theorem bnd_ex {f : M α} {k : α → M β} {x : Xn} (h : f ss = some (.ex x s)) : bnd f k ss = some (.ex x s) := by unfold bnd; rw [h]
theorem sq_nx {f g : M SO} (h : f ss = some (.ok .nx s)) : sq f g ss = g s := by unfold sq; rw [bnd_ok h]
theorem sq_rt {f g : M SO} {w : Wv} (h : f ss = some (.ok (.rt w) s)) : sq f g ss = some (.ok (.rt w) s) := by unfold sq; rw [bnd_ok h]; rfl
theorem sq_bk {f g : M SO} (h : f ss = some (.ok .bk s)) : sq f g ss = some (.ok .bk s) := by unfold sq; rw [bnd_ok h]; rfl
theorem sq_ct {f g : M SO} (h : f ss = some (.ok .ct s)) : sq f g ss = some (.ok .ct s) := by unfold sq; rw [bnd_ok h]; rfl
theorem sq_ex {f g : M SO} {x : Xn} (h : f ss = some (.ex x s)) : sq f g ss = some (.ex x s) := by unfold sq; rw [bnd_ex h]
theorem asg_ok {i : Nat} {f : M Wv} {w : Wv} (h : f ss = some (.ok w s)) (k : setW i w s = some s') : asg i f ss = some (.ok .nx s') := by unfold asg; rw [bnd_ok h, k]
theorem bin_ok {fa fb : M Wv} {op : Wv → Wv → M Wv} {w u : Wv} (h : fa ss = some (.ok w s)) (k : fb s = some (.ok u s')) : bin fa fb op ss = op w u s' := by unfold bin; rw [bnd_ok h, bnd_ok k]
theorem sRt_ok {f : M Wv} {w : Wv} (h : f ss = some (.ok w s)) : sRt f ss = some (.ok (.rt w) s) := by unfold sRt; rw [bnd_ok h]; rfl
theorem sEx_ok {f : M Wv} {w : Wv} (h : f ss = some (.ok w s)) : sEx f ss = some (.ok .nx s) := by unfold sEx; rw [bnd_ok h]; rfl
theorem sIf_t {t : M Bool} {f g : M SO} (h : t ss = some (.ok true s)) : sIf t f g ss = f s := by unfold sIf; rw [bnd_ok h]; rfl
theorem sIf_f {t : M Bool} {f g : M SO} (h : t ss = some (.ok false s)) : sIf t f g ss = g s := by unfold sIf; rw [bnd_ok h]; rfl
theorem iteM_t {t : M Bool} {f g : M α} (h : t ss = some (.ok true s)) : iteM t f g ss = f s := by unfold iteM; rw [bnd_ok h]; rfl
theorem iteM_f {t : M Bool} {f g : M α} (h : t ss = some (.ok false s)) : iteM t f g ss = g s := by unfold iteM; rw [bnd_ok h]; rfl
end
theorem kit_self {K : PySem.W.Frag} {t : Value} : PySem.W.kitOne K t t = some true := by
  unfold PySem.W.kitOne
  rw [if_pos (beq_iff_eq.mpr rfl)]
theorem kit_ne {K : PySem.W.Frag} {C T : Addr} (ne : C ≠ T) (hd : PySem.W.hasDictIn K T = true) (ht : PySem.W.typeIn K (.ref T) = some (.type "type")) (hs : PySem.W.subIn K (.ref C) (.ref T) = some false) : PySem.W.kitOne K (.ref C) (.ref T) = some false := by
  obtain ⟨cd, hc, _⟩ := PySem.W.any_some hd
  unfold PySem.W.kitOne PySem.W.kitCls
  rw [if_neg fun z => ne (Value.ref.inj (beq_iff_eq.mp z))]
  dsimp only
  rw [if_pos (by rw [hc, ht] <;> rfl)]
  exact hs
end DT
/-! DT: plain reasoning about terms -/
namespace DT
open PySem
/-- a slot that may be set -/
def Fr (x : DT.Slot) : Prop := x = .un ∨ ∃ d, x = .val false d
theorem Fr.un : Fr .un := .inl rfl
theorem Fr.val {d : D} : Fr (.val false d) := .inr ⟨d, rfl⟩
/-- a loop: what holds behind i turns -/
theorem loop_list {g : D → Sl → Option Sl} {body : M SO} (P : Nat → Sl → Prop) : ∀ (xs : List D) (k : Nat) {ss : Sl}, P k ss →
    (∀ i ss (h : i < xs.length), P (k + i) ss → ∃ s1 s2, g xs[i] ss = some s1 ∧ (body s1 = some (.ok .nx s2) ∨ body s1 = some (.ok .ct s2)) ∧ P (k + i + 1) s2) → ∃ s', loopF g body xs ss = some (.ok .nx s') ∧ P (k + xs.length) s'
  | [], k, ss, h, _ => ⟨ss, rfl, h⟩
  | x :: xs, k, ss, h, step => by
    obtain ⟨s1, s2, e1, e2, p⟩ := step 0 ss (Nat.zero_lt_succ _) h
    obtain ⟨s', e3, p'⟩ := loop_list P xs (k + 1) (ss := s2) p fun i ss hi q => by
      have := step (i + 1) ss (Nat.succ_lt_succ hi) (by rw [show k + (i + 1) = k + 1 + i by omega]; exact q)
      rw [show k + (i + 1) + 1 = k + 1 + i + 1 by omega] at this
      simpa using this
    refine ⟨s', ?_, by rw [List.length_cons, show k + (xs.length + 1) = k + 1 + xs.length by omega]; exact p'⟩
    unfold loopF
    have e1 : g x ss = some s1 := e1
    rw [e1]
    rcases e2 with e2 | e2 <;> (dsimp only; rw [e2]; exact e3)
theorem rngD_len {lo : Int} {n : Nat} : (rngD lo n).length = n := by simp [rngD]
theorem rngD_get {lo : Int} {n i : Nat} (h : i < (rngD lo n).length) : (rngD lo n)[i] = .int (lo + (i : Int)) := by simp [rngD]
theorem loop_rng {g : D → Sl → Option Sl} {body : M SO} {lo : Int} (P : Nat → Sl → Prop) (n : Nat) {ss : Sl} (h0 : P 0 ss)
    (step : ∀ i ss, i < n → P i ss → ∃ s1 s2, g (.int (lo + (i : Int))) ss = some s1 ∧ (body s1 = some (.ok .nx s2) ∨ body s1 = some (.ok .ct s2)) ∧ P (i + 1) s2) : ∃ s', loopF g body (rngD lo n) ss = some (.ok .nx s') ∧ P n s' := by
  have := loop_list (g := g) (body := body) P (rngD lo n) 0 h0 fun i ss hi p => by
    rw [rngD_get hi]
    rw [rngD_len] at hi
    rw [Nat.zero_add] at p ⊢
    exact step i ss hi p
  rw [rngD_len, Nat.zero_add] at this
  exact this
theorem forM_ok {fi : M (List D)} {g : D → Sl → Option Sl} {body : M SO} {ss s : Sl} {xs : List D} (h : fi ss = some (.ok xs s)) : forM fi g body ss = loopF g body xs s := by unfold forM; rw [bnd_ok h]
/-- a call with data -/
theorem toArs_val (ss : Sl) : ∀ ds : List D, toArs ss (ds.map Wv.val) = some (ds.map Ar.val)
  | [] => rfl
  | d :: ds => by
    rw [List.map_cons, List.map_cons]
    unfold toArs
    rw [toArs_val ss ds]; rfl
theorem borI_val : ∀ ds : List D, borI (ds.map Wv.val) = []
  | [] => rfl
  | d :: ds => by rw [List.map_cons]; exact borI_val ds
theorem backS_val (ss : Sl) : ∀ (ds : List D) (s : Sl), backS (ds.map Wv.val) s ss = some ss
  | [], _ => rfl
  | d :: ds, s => by rw [List.map_cons]; exact backS_val ss ds s.tail
theorem call_val {f : DT.Fn} {w : Wv} {s ss : Sl} (ds : List D) (h : f (ds.map Ar.val) = some (.ok w s)) : callM ds.length f (ds.map Wv.val) ss = some (.ok w ss) := by
  unfold callM
  rw [if_pos (by rw [borI_val, List.length_map]; simp [nodupB]), toArs_val]
  dsimp only
  rw [h]
  dsimp only
  rw [backS_val]
theorem call_valx {f : DT.Fn} {x : Xn} {s ss : Sl} (ds : List D) (h : f (ds.map Ar.val) = some (.ex x s)) : callM ds.length f (ds.map Wv.val) ss = some (.ex x ss) := by
  unfold callM
  rw [if_pos (by rw [borI_val, List.length_map]; simp [nodupB]), toArs_val]
  dsimp only
  rw [h]
  dsimp only
  rw [backS_val]

/-! ### steps with a condition -/
section
variable {ss s s' : Sl}
theorem acons_ok {f : M Wv} {g : M (List Wv)} {w : Wv} {ws : List Wv} (h : f ss = some (.ok w s)) (k : g s = some (.ok ws s')) : acons f g ss = some (.ok (w :: ws) s') := by
  unfold acons; rw [bnd_ok h, bnd_ok k]; rfl
theorem nm_val {i : Nat} {b : Bool} {d : D} (h : ss[i]? = some (.val b d)) : nm i ss = some (.ok (.val d) ss) := by unfold nm; rw [h]
theorem nm_own {i : Nat} {b : Bool} {c : Con} (h : ss[i]? = some (.own b c)) : nm i ss = some (.ok (.bor i) ss) := by unfold nm; rw [h]
theorem rng1_ok {j : Int} (h : -4611686018427387904 ≤ j ∧ j < 4611686018427387904) : rng1W [.val (.int j)] ss = some (.ok (rngD 0 j.toNat) ss) := by
  have e : decide (-(2 ^ 62) ≤ j ∧ j < 2 ^ 62) = true := decide_eq_true (by omega)
  unfold rng1W intV peek
  exact if_pos e
theorem rng2_ok {i j : Int} (h : -4611686018427387904 ≤ i ∧ i < 4611686018427387904) (k : -4611686018427387904 ≤ j ∧ j < 4611686018427387904) : rng2W [.val (.int i), .val (.int j)] ss = some (.ok (rngD i (j - i).toNat) ss) := by
  have e : decide (-(2 ^ 62) ≤ i ∧ i < 2 ^ 62 ∧ -(2 ^ 62) ≤ j ∧ j < 2 ^ 62) = true := decide_eq_true (by omega)
  unfold rng2W intV peek
  exact if_pos e
theorem mul_ok {i j : Int} (h : (-18446744073709551616 < i ∧ i < 18446744073709551616) ∨ (-18446744073709551616 < j ∧ j < 18446744073709551616)) : mulW (.val (.int i)) (.val (.int j)) ss = some (.ok (.val (.int (i * j))) ss) := by
  have e : cMul i j = true := by
    unfold cMul
    rw [Bool.or_eq_true]
    rcases h with h | h
    · exact .inl (decide_eq_true (by omega))
    · exact .inr (decide_eq_true (by omega))
  unfold mulW intV peek
  show iop cMul _ _ _ ss = _
  unfold iop intV peek
  exact if_pos e
theorem div_ok {i j : Int} (h : 0 < j ∧ j < 1073741824) : iDiv (.val (.int i)) (.val (.int j)) ss = some (.ok (.val (.int (i / j))) ss) := by
  have e : cDiv i j = true := decide_eq_true h
  unfold iDiv iop intV peek
  exact if_pos e
theorem mod_ok {i j : Int} (h : 0 < j) : iMod (.val (.int i)) (.val (.int j)) ss = some (.ok (.val (.int (i % j))) ss) := by
  have e : cMod i j = true := decide_eq_true h
  unfold iMod iop intV peek
  exact if_pos e
theorem tstB_ok {f : M Wv} {b : Bool} (h : f ss = some (.ok (.val (.bool b)) s)) : tstB f ss = some (.ok b s) := by unfold tstB; rw [bnd_ok h]; rfl
theorem notT_ok {f : M Bool} {b : Bool} (h : f ss = some (.ok b s)) : notT f ss = some (.ok (!b) s) := by unfold notT; rw [bnd_ok h]; rfl
theorem andT_t {f g : M Bool} (h : f ss = some (.ok true s)) : andT f g ss = g s := by unfold andT; rw [bnd_ok h]; rfl
theorem andT_f {f g : M Bool} (h : f ss = some (.ok false s)) : andT f g ss = some (.ok false s) := by unfold andT; rw [bnd_ok h]; rfl
theorem orT_t {f g : M Bool} (h : f ss = some (.ok true s)) : orT f g ss = some (.ok true s) := by unfold orT; rw [bnd_ok h]; rfl
theorem orT_f {f g : M Bool} (h : f ss = some (.ok false s)) : orT f g ss = g s := by unfold orT; rw [bnd_ok h]; rfl
end
/-! ### comprehensions -/
theorem lc_pure {vs : List Nat} {g : D → Sl → Option Sl} {ft : M Bool} {fe : M Wv} {v : D → D} {ss : Sl} : ∀ (items acc : List D), (∀ d ∈ items, ∃ s1 s2 s3, g d ss = some s1 ∧ ft s1 = some (.ok true s2) ∧ bnd fe frzW s2 = some (.ok (v d) s3) ∧ wipS vs s3 = ss) →
    lcL vs g ft fe items acc ss = some (.ok (acc ++ items.map v) ss)
  | [], acc, _ => by unfold lcL; simp [ret]
  | d :: ds, acc, h => by
    obtain ⟨s1, s2, s3, e1, e2, e3, e4⟩ := h d List.mem_cons_self
    unfold lcL
    rw [e1]
    dsimp only
    rw [e2]
    dsimp only
    rw [e3]
    dsimp only
    rw [e4, lc_pure ds (acc ++ [v d]) fun x hx => h x (List.mem_cons_of_mem _ hx)]
    simp
theorem lcM_ok {vs : List Nat} {fi : M (List D)} {g : D → Sl → Option Sl} {ft : M Bool} {fe : M Wv} {ss s s' : Sl} {items acc : List D} (h : fi ss = some (.ok items s)) (hl : items.length ≤ 16777216) (hv : okV vs s = true) (k : lcL vs g ft fe items [] (wipS vs s) = some (.ok acc s')) :
    lcM vs fi g ft fe ss = some (.ok (.new (.lst acc)) (resS vs s s')) := by
  unfold lcM
  rw [bnd_ok h, if_pos (by rw [Bool.and_eq_true]; exact ⟨decide_eq_true (by rw [sizeLine_eq]; exact hl), hv⟩), k]
/-! ### a def's end -/
section
variable {N : Nat} {f : M SO} {as : List Ar} {s0 s : Sl}
theorem fn_val {d : D} (e : iniS N as = s0) (h : f s0 = some (.ok (.rt (.val d)) s)) : endF N f as = some (.ok (.val d) s) := by unfold endF; rw [e, h]; rfl
theorem fn_new {c : Con} (e : iniS N as = s0) (h : f s0 = some (.ok (.rt (.new c)) s)) : endF N f as = some (.ok (.new c) s) := by unfold endF; rw [e, h]; rfl
theorem fn_nx (e : iniS N as = s0) (h : f s0 = some (.ok .nx s)) : endF N f as = some (.ok (.val .none) s) := by unfold endF; rw [e, h]; rfl
theorem fn_ex {x : Xn} (e : iniS N as = s0) (h : f s0 = some (.ex x s)) : endF N f as = some (.ex x s) := by unfold endF; rw [e, h]; rfl
theorem fn_bor {i : Nat} {c : Con} (e : iniS N as = s0) (h : f s0 = some (.ok (.rt (.bor i)) s)) (k : s[i]? = some (.own false c)) : endF N f as = some (.ok (.new c) (s.set i .un)) := by
  unfold endF
  rw [e, h]
  show endW (.bor i) s = _
  unfold endW
  dsimp only
  rw [k]
end

/-! ### builtins -/
section
variable {ss s s' : Sl}
theorem allW_ok {al : Bool} (bs : List Bool) : allW al [.new (.lst (bs.map PyData.bool))] ss = some (.ok (.val (.bool (if al then bs.all id else bs.any id))) ss) := by
  show (match boolsOf (bs.map PyData.bool) with
      | some bs => some (Rs.ok (Wv.val (.bool (if al then bs.all id else bs.any id))) ss)
      | none => none) = _
  rw [boolsOf_map]
theorem sumW_tup (ns : List Int) : sumW [.val (.tuple (ns.map PyData.int))] ss = some (.ok (.val (.int ns.sum)) ss) := by
  show (match intsOf (ns.map PyData.int) with
      | some ns => some (Rs.ok (Wv.val (.int ns.sum)) ss)
      | none => none) = _
  rw [intsOf_map]
theorem sumW_new (ns : List Int) : sumW [.new (.lst (ns.map PyData.int))] ss = some (.ok (.val (.int ns.sum)) ss) := by
  show (match intsOf (ns.map PyData.int) with
      | some ns => some (Rs.ok (Wv.val (.int ns.sum)) ss)
      | none => none) = _
  rw [intsOf_map]
theorem tst_val {f : M Wv} {b : Bool} (h : f ss = some (.ok (.val (.bool b)) s)) : tst f ss = some (.ok b s) := by
  unfold tst
  rw [bnd_ok h]
  rfl
end
theorem frz_val {f : M Wv} {ss s : Sl} {d : D} (h : f ss = some (.ok (.val d) s)) : bnd f frzW ss = some (.ok d s) := by rw [bnd_ok h]; rfl
theorem map_int_mem {ns : List Int} {d : D} (h : d ∈ ns.map PyData.int) : ∃ i ∈ ns, d = .int i := by
  obtain ⟨i, hi, rfl⟩ := List.mem_map.mp h
  exact ⟨i, hi, rfl⟩

theorem depth_ints : ∀ ns : List Int, PyData.depthAll (ns.map PyData.int) = 0
  | [] => rfl
  | n :: ns => by
    rw [List.map_cons]
    show max _ (PyData.depthAll (ns.map PyData.int)) = 0
    rw [depth_ints ns]; rfl
theorem ext_ints {mx : Bool} {w : Wv} {ss : Sl} {n : Int} {ns : List Int} (h : seqV ss w = some ((n :: ns).map PyData.int)) : extW mx [w] ss = some (.ok (.val (.int (if mx then ns.foldl max n else ns.foldl min n))) ss) := by
  unfold extW
  dsimp only
  rw [h, List.map_cons]
  dsimp only
  rw [if_pos ⟨by unfold alikeC; rw [← List.map_cons, intsOf_map]; rfl, by unfold depC; rw [← List.map_cons, depth_ints]; rfl⟩]
  cases mx
  · rw [PySem.W.minD_ints]; rfl
  · rw [PySem.W.maxD_ints]; rfl
theorem maxW_ints {w : Wv} {ss : Sl} {n : Int} {ns : List Int} (h : seqV ss w = some ((n :: ns).map PyData.int)) : maxW [w] ss = some (.ok (.val (.int (ns.foldl max n))) ss) := ext_ints h
theorem minW_ints {w : Wv} {ss : Sl} {n : Int} {ns : List Int} (h : seqV ss w = some ((n :: ns).map PyData.int)) : minW [w] ss = some (.ok (.val (.int (ns.foldl min n))) ss) := ext_ints h
theorem len_new (xs : List D) (ss : Sl) : lenW [.new (.lst xs)] ss = some (.ok (.val (.int xs.length)) ss) := rfl

/-- a loop that may be left: what holds behind some turns -/
theorem loop_brk {g : D → Sl → Option Sl} {body : M SO} (P : Nat → Sl → Prop) : ∀ (xs : List D) (k : Nat) {ss : Sl}, P k ss →
    (∀ i ss x, x ∈ xs → P i ss → i < k + xs.length → ∃ s1 s2, g x ss = some s1 ∧ (body s1 = some (.ok .nx s2) ∨ body s1 = some (.ok .ct s2) ∨ body s1 = some (.ok .bk s2)) ∧ P (i + 1) s2) → ∃ s' j, loopF g body xs ss = some (.ok .nx s') ∧ j ≤ k + xs.length ∧ P j s'
  | [], k, ss, h, _ => ⟨ss, k, rfl, Nat.le_refl _, h⟩
  | x :: xs, k, ss, h, step => by
    obtain ⟨s1, s2, e1, e2, p⟩ := step k ss x List.mem_cons_self h (by simp)
    rw [List.length_cons]
    unfold loopF
    rw [e1]
    dsimp only
    rcases e2 with e2 | e2 | e2
    · rw [e2]
      obtain ⟨s', j, e3, hj, p'⟩ := loop_brk P xs (k + 1) (ss := s2) p fun i ss y hy q hi => step i ss y (List.mem_cons_of_mem _ hy) q (by rw [List.length_cons]; omega)
      exact ⟨s', j, e3, by omega, p'⟩
    · rw [e2]
      obtain ⟨s', j, e3, hj, p'⟩ := loop_brk P xs (k + 1) (ss := s2) p fun i ss y hy q hi => step i ss y (List.mem_cons_of_mem _ hy) q (by rw [List.length_cons]; omega)
      exact ⟨s', j, e3, by omega, p'⟩
    · rw [e2]
      exact ⟨s2, k + 1, rfl, by omega, p⟩
/-- a draw -/
def Dr (ds : List Int) : Prop := ∀ d ∈ ds, 0 ≤ d ∧ d < 1000
theorem Dr.nil : Dr [] := fun _ h => by cases h
theorem Dr.app {a b : List Int} (h : Dr a) (k : Dr b) : Dr (a ++ b) := fun d m => (List.mem_append.mp m).elim (h d) (k d)
theorem Dr.one {d : Int} (h : 0 ≤ d ∧ d < 1000) : Dr [d] := fun x m => by rw [List.mem_singleton.mp m]; exact h
theorem Dr.mod (x : Int) : 0 ≤ x % 1000 ∧ x % 1000 < 1000 := ⟨Int.emod_nonneg _ (by decide), Int.emod_lt_of_pos _ (by decide)⟩
theorem atI_nat {α : Type} {xs : List α} {i : Nat} {v : α} (h : xs[i]? = some v) : L2.atI xs (i : Int) = some v := by
  have hl := (List.getElem?_eq_some_iff.mp h).1
  unfold L2.atI L2.ixN
  rw [if_pos (Int.natCast_nonneg i), if_pos (by omega), Int.toNat_natCast]
  exact h
theorem int_eq_ok {i j : Int} {ss : Sl} {neg : Bool} : eqD neg (.val (.int i)) (.val (.int j)) ss = some (.ok (.val (.bool (if neg then !(i == j) else (i == j)))) ss) := rfl
theorem int_lt_ok {i j : Int} {ss : Sl} : ltW (.val (.int i)) (.val (.int j)) ss = some (.ok (.val (.bool (decide (i < j)))) ss) := rfl
/-- a comprehension that changes the slots -/
theorem lc_inv {vs : List Nat} {g : D → Sl → Option Sl} {ft : M Bool} {fe : M Wv} (P : Nat → List D → Sl → Prop) : ∀ (items : List D) (k : Nat) (acc : List D) (ss : Sl), P k acc ss →
    (∀ i acc ss d, d ∈ items → i < k + items.length → P i acc ss → ∃ s1 s2 s3 y, g d ss = some s1 ∧ ft s1 = some (.ok true s2) ∧ bnd fe frzW s2 = some (.ok y s3) ∧ P (i + 1) (acc ++ [y]) (wipS vs s3)) →
    ∃ acc' s', lcL vs g ft fe items acc ss = some (.ok acc' s') ∧ P (k + items.length) acc' s'
  | [], k, acc, ss, h, _ => ⟨acc, ss, rfl, h⟩
  | d :: ds, k, acc, ss, h, step => by
    obtain ⟨s1, s2, s3, y, e1, e2, e3, p⟩ := step k acc ss d List.mem_cons_self (by simp) h
    obtain ⟨acc', s', e, p'⟩ := lc_inv P ds (k + 1) (acc ++ [y]) (wipS vs s3) p fun i acc ss x hx hi q => step i acc ss x (List.mem_cons_of_mem _ hx) (by rw [List.length_cons]; omega) q
    refine ⟨acc', s', ?_, by rw [List.length_cons, show k + (ds.length + 1) = k + 1 + ds.length by omega]; exact p'⟩
    unfold lcL
    rw [e1]
    dsimp only
    rw [e2]
    dsimp only
    rw [e3]
    exact e
end DT
namespace DT
open PySem
/-! ### texts of numbers, equality of a thing with itself -/
mutual
theorem eqv_same : ∀ d : D, d.plain = true → PyData.eqv d d = true
  | .none, _ => rfl
  | .bool _, _ => beq_self_eq_true _
  | .int _, _ => beq_self_eq_true _
  | .str x, _ => beq_self_eq_true (a := x) 
  | .list xs, h => by show PyData.eqvAll xs xs = true; exact eqvs_same xs h
  | .tuple xs, h => by show PyData.eqvAll xs xs = true; exact eqvs_same xs h
  | .dict _, h => by cases h
theorem eqvs_same : ∀ ds : List D, PyData.plainAll ds = true → PyData.eqvAll ds ds = true
  | [], _ => rfl
  | d :: ds, h => by
    have h' : (d.plain && PyData.plainAll ds) = true := h
    rw [Bool.and_eq_true] at h'
    show (PyData.eqv d d && PyData.eqvAll ds ds) = true
    rw [eqv_same d h'.1, eqvs_same ds h'.2]; rfl
end
theorem plain_all : ∀ ds : List D, (∀ d ∈ ds, d.plain = true) → PyData.plainAll ds = true
  | [], _ => rfl
  | d :: ds, h => by
    show (d.plain && PyData.plainAll ds) = true
    rw [h d List.mem_cons_self, plain_all ds fun x m => h x (List.mem_cons_of_mem _ m)]; rfl
theorem plain_ints (xs : List Int) : PyData.plainAll (xs.map .int) = true := plain_all _ fun d m => by
  obtain ⟨i, _, rfl⟩ := List.mem_map.mp m
  rfl
theorem dAll_ints : ∀ xs : List Int, PyData.depthAll (xs.map .int) = 0
  | [] => rfl
  | x :: xs => by
    show max (PyData.depth (.int x)) (PyData.depthAll (xs.map .int)) = 0
    rw [dAll_ints xs]; rfl
theorem depth_le (n : Nat) : ∀ ds : List D, (∀ d ∈ ds, d.depth ≤ n) → PyData.depthAll ds ≤ n
  | [], _ => Nat.zero_le _
  | d :: ds, h => by
    show max d.depth (PyData.depthAll ds) ≤ n
    have := h d List.mem_cons_self
    have := depth_le n ds fun x m => h x (List.mem_cons_of_mem _ m)
    omega
/-- all ints are small -/
def Sm (xs : List Int) : Prop := ∀ x ∈ xs, -1267650600228229401496703205376 < x ∧ x < 1267650600228229401496703205376
theorem log_small {x : Int} (h : -1267650600228229401496703205376 < x ∧ x < 1267650600228229401496703205376) : x.natAbs.log2 < 100 := by
  have : x.natAbs < 2 ^ 100 := by
    have : (2 : Nat) ^ 100 = 1267650600228229401496703205376 := by decide
    omega
  by_cases h0 : x.natAbs = 0
  · rw [h0]; decide
  · exact (Nat.log2_lt h0).mpr this
theorem show_ints : ∀ {xs : List Int}, Sm xs → PyData.showableAll (xs.map .int) = true
  | [], _ => rfl
  | x :: xs, h => by
    show (decide (x.natAbs.log2 < 1920) && PyData.showableAll (xs.map .int)) = true
    have := log_small (h x List.mem_cons_self)
    rw [decide_eq_true (show x.natAbs.log2 < 1920 by omega), show_ints fun y m => h y (List.mem_cons_of_mem _ m)]; rfl
def cost : List Str → Nat
  | [] => 0
  | t :: ts => t.length + 2 + cost ts
theorem from_le : ∀ (ts : List Str) (k : Nat) (acc : Str), (textFrom k acc ts).length ≤ acc.length + cost ts
  | [], k, acc => Nat.le_refl _
  | t :: ts, k, acc => by
    have h := from_le ts (k + 1) (acc ++ (if k > 0 then ", " else "" : String) ++ t)
    have e : (acc ++ (if k > 0 then ", " else "" : String) ++ t).length ≤ acc.length + 2 + t.length := by
      rw [strLen_append, strLen_append]
      have : ((if k > 0 then ", " else "" : String) : Str).length ≤ 2 := by split <;> decide
      omega
    show (textFrom (k + 1) _ ts).length ≤ acc.length + (t.length + 2 + cost ts)
    omega
theorem piled_cost : ∀ ts : List Str, piled ts = cost ts
  | [] => rfl
  | t :: ts => by
    unfold piled cost
    rw [← piled_cost ts]
    rfl
theorem list_le (ts : List Str) : (listText ts).length ≤ cost ts + 2 := by
  unfold listText
  rw [strLen_append]
  have := from_le ts 0 "["
  have e1 : ((("[" : String) : Str)).length = 1 := rfl
  have e2 : ((("]" : String) : Str)).length = 1 := rfl
  omega
theorem tuple_le (ts : List Str) : (tupleText ts).length ≤ cost ts + 3 := by
  unfold tupleText
  rw [strLen_append, strLen_append]
  have e1 : ((("(" : String) : Str)).length = 1 := rfl
  have e3 : (((if ts.length == 1 then ",)" else ")" : String) : Str)).length ≤ 2 := by split <;> decide
  cases ts with
  | nil =>
    have : (Str.join ", " []).length = 0 := rfl
    omega
  | cons t ts =>
    have := join_length_add (t :: ts) (fun h => nomatch h)
    rw [piled_cost] at this
    omega
theorem cost_ints : ∀ {xs : List Int}, Sm xs → cost (PyData.shownAll (xs.map .int)) ≤ 103 * xs.length
  | [], _ => Nat.le_refl _
  | x :: xs, h => by
    show (Str.ofString (toString x)).length + 2 + cost (PyData.shownAll (xs.map .int)) ≤ 103 * (xs.length + 1)
    have h1 := cost_ints fun y m => h y (List.mem_cons_of_mem _ m)
    have h2 := int_text_length_le (k := 100) (by decide) (log_small (h x List.mem_cons_self))
    rw [PySem.ofString_length]
    omega
theorem rep_list {xs : List Int} (h : Sm xs) (hl : xs.length ≤ 10000) : reprC (.list (xs.map .int)) = true := by
  unfold reprC
  have h1 : PyData.showable (.list (xs.map .int)) = true := show_ints h
  have h2 : (PyData.shown (.list (xs.map .int))).length ≤ 16777216 := by
    show (listText (PyData.shownAll (xs.map .int))).length ≤ _
    have := list_le (PyData.shownAll (xs.map .int))
    have := cost_ints h
    omega
  have h3 : (PyData.list (xs.map .int)).depth ≤ 60 := by
    show PyData.depthAll (xs.map .int) + 1 ≤ 60
    rw [dAll_ints]; decide
  rw [h1, decide_eq_true h3]
  unfold szOk
  rw [decide_eq_true h2]; rfl
theorem rep_tuple {xs : List Int} (h : Sm xs) (hl : xs.length ≤ 10000) : reprC (.tuple (xs.map .int)) = true := by
  unfold reprC
  have h1 : PyData.showable (.tuple (xs.map .int)) = true := show_ints h
  have h2 : (PyData.shown (.tuple (xs.map .int))).length ≤ 16777216 := by
    show (tupleText (PyData.shownAll (xs.map .int))).length ≤ _
    have := tuple_le (PyData.shownAll (xs.map .int))
    have := cost_ints h
    omega
  have h3 : (PyData.tuple (xs.map .int)).depth ≤ 60 := by
    show PyData.depthAll (xs.map .int) + 1 ≤ 60
    rw [dAll_ints]; decide
  rw [h1, decide_eq_true h3]
  unfold szOk
  rw [decide_eq_true h2]; rfl
theorem repr_ok {w : Wv} {d : D} {ss : Sl} (h : datV ss w = some d) (r : reprC d = true) : reprW [w] ss = some (.ok (.val (.str d.shown)) ss) := by
  unfold reprW
  dsimp only
  rw [h]
  dsimp only
  rw [if_pos r]
theorem eq_ok {neg : Bool} {w u : Wv} {d : D} {ss : Sl} (h1 : datV ss w = some d) (h2 : datV ss u = some d) (hd : d.depth ≤ 60) (hp : d.plain = true) : eqD neg w u ss = some (.ok (.val (.bool (!neg))) ss) := by
  unfold eqD
  rw [h1, h2]
  dsimp only
  unfold dep60
  rw [if_pos (decide_eq_true hd), eqv_same d hp]
  cases neg <;> rfl
end DT
/-! DT: what is known may be forgotten; an own list may be taken as data -/
namespace DT
open PySem PySem.Spec PyProof.Rows L2
def kl1 (i : Nat) (ss : Sl) : Sl := match ss[i]? with
  | some (.lk _ _) => ss
  | _ => ss.set i .un
def klS : List Nat → Sl → Sl
  | [], ss => ss
  | i :: is, ss => klS is (kl1 i ss)
def ghK (is : List Nat) : M SO := fun ss => some (.ok .nx (klS is ss))
def fz1 (i : Nat) (ss : Sl) : Sl := match ss[i]? with
  | some (.own b (.lst xs)) => ss.set i (.val b (.list xs))
  | _ => ss
def ghF (i : Nat) : M SO := fun ss => some (.ok .nx (fz1 i ss))
/-- a value as data -/
def frV (w : Wv) : M Wv := bnd (frzW w) fun d => ret (.val d)
section
variable {K : PySem.W.Frag} {Γ : Gm} {W : WX} {F : Fm} {G G' : Hp} {ρ : Nat → Addr} {ts : List (Addr × Con)} {ss : Sl} {σ : L2.St} {H H' : Hp}
theorem Rel.kl1 {i : Nat} (R : Rel K F G ρ ts ss σ H) : Rel K F G ρ ts (kl1 i ss) σ H := by
  unfold DT.kl1
  split
  · exact R
  · rename_i h
    exact R.setUn fun b c e => h b c e
theorem Rel.klS : ∀ (is : List Nat) {ss : Sl}, Rel K F G ρ ts ss σ H → Rel K F G ρ ts (klS is ss) σ H
  | [], _, R => R
  | i :: is, _, R => Rel.klS is R.kl1
theorem Rel.fz1 {i : Nat} (R : Rel K F G ρ ts ss σ H) : ∃ G', Same G G' ∧ Rel K F G' ρ ts (fz1 i ss) σ H := by
  unfold DT.fz1
  split
  · rename_i h
    obtain ⟨G', g, R', _⟩ := R.frzS h
    exact ⟨G', g, R'⟩
  · exact ⟨G, Same.refl G, R⟩
end
section
variable {Γ : Gm} {X : Cx} {W : WX} {rest : List Stmt} {m : M SO} {e : Expr} {f : M Wv}
theorem dss_k (is : List Nat) (h : DSs Γ X W rest m) : DSs Γ X W rest (sq (ghK is) m) :=
  PSs_imp h fun D σ H ⟨F, G, ρ, ts, ss, R, q⟩ => ⟨F, G, ρ, ts, klS is ss, R.klS is, q⟩
theorem dss_f (i : Nat) (h : DSs Γ X W rest m) : DSs Γ X W rest (sq (ghF i) m) :=
  PSs_imp h fun D σ H ⟨F, G, ρ, ts, ss, R, q⟩ => by
    obtain ⟨G', g, R'⟩ := R.fz1 (i := i)
    exact ⟨F, G', ρ, ts, fz1 i ss, R', OutS.mono g q (fun _ _ z => z) (fun _ _ z => z) (fun _ _ z => z) (fun _ _ z => z)⟩
theorem de_fr (h : DE Γ X W e f) : DE Γ X W e (bnd f frV) :=
  PE_imp h fun σ H Q q => te_then q fun F G ρ ts ss H w v r q => by
    unfold frV at q
    unfold bnd at q
    split at q
    · exact q.elim
    · rename_i d s h
      obtain ⟨G', g, R', dv⟩ := frzW_ok r h
      exact q v H G' ρ g ⟨R', dv⟩
    · rename_i h; exact absurd h frzW_noex
end
end DT
/-! DT: t[::-1], xs[::-1] -/
namespace DT
open PySem PySem.Spec PyProof.Rows L2
section
variable {prog : Program} {w : World} {A : Around} {E : Value → Shared → Prop} {s : Shared}
theorem adj_rev (n : Nat) : Builtin.Slice.sliceAdjust none none (-1) (n : Int) = ((n : Int) - 1, -1) := by
  unfold Builtin.Slice.sliceAdjust
  have h : (-1 : Int) < 0 := by omega
  simp only [h, if_true]
theorem plc_rev (n : Nat) : Builtin.Slice.slicePlaces ((n : Int) - 1) (-1) (-1) = n := by
  unfold Builtin.Slice.slicePlaces
  have h : ¬ ((-1 : Int) > 0) := by omega
  simp only [h, if_false]
  by_cases h0 : (n : Int) - 1 > -1
  · rw [if_pos h0, show (n : Int) - 1 - -1 - 1 = n - 1 by omega, show -(-1 : Int) = 1 by rfl, Int.ediv_one]; omega
  · rw [if_neg h0]; omega
theorem rev_ix (l : List Value) : ∀ k : Nat, k ≤ l.length → ((List.range k).filterMap fun (m : Nat) => l[l.length - 1 - m]?) = (l.drop (l.length - k)).reverse
  | 0, _ => by simp
  | k + 1, h => by
    rw [List.range_succ, List.filterMap_append, rev_ix l k (by omega)]
    have e : l.drop (l.length - (k + 1)) = l[l.length - 1 - k] :: l.drop (l.length - k) := by
      rw [show l.length - (k + 1) = l.length - 1 - k by omega, List.drop_eq_getElem_cons (by omega), show l.length - 1 - k + 1 = l.length - k by omega]
    rw [e, List.reverse_cons]
    congr 1
    simp only [List.filterMap_cons, List.filterMap_nil]
    rw [List.getElem?_eq_getElem (by omega)]
theorem pick_rev (xs : Array Value) : ((List.range xs.size).filterMap fun (m : Nat) => xs[(((xs.size : Int) - 1) + (m : Int) * (-1)).toNat]?).toArray = xs.toList.reverse.toArray := by
  have e : ((List.range xs.size).filterMap fun (m : Nat) => xs[(((xs.size : Int) - 1) + (m : Int) * (-1)).toNat]?) = (List.range xs.toList.length).filterMap fun (m : Nat) => xs.toList[xs.toList.length - 1 - m]? := by
    rw [Array.length_toList]
    have go : ∀ l : List Nat, (∀ m ∈ l, m < xs.size) → (l.filterMap fun (m : Nat) => xs[(((xs.size : Int) - 1) + (m : Int) * (-1)).toNat]?) = l.filterMap fun (m : Nat) => xs.toList[xs.size - 1 - m]? := by
      intro l
      induction l with
      | nil => intro _; rfl
      | cons a l ih =>
        intro hl
        have ha := hl a List.mem_cons_self
        rw [List.filterMap_cons, List.filterMap_cons, ih fun m hm => hl m (List.mem_cons_of_mem _ hm)]
        rw [show (((xs.size : Int) - 1) + (a : Int) * (-1)).toNat = xs.size - 1 - a by omega, Array.getElem?_toList]
    exact go _ fun m hm => List.mem_range.mp hm
  rw [e, rev_ix _ _ (Nat.le_refl _), Nat.sub_self, List.drop_zero]
theorem applied_rev {sl : Addr} {t : Tok} {n : Nat} {Q : Int × Int × Nat → Shared → Prop} (hs : s.heap.IsSliceOf sl .none .none (.int (-1) t))
    (h : Q ((n : Int) - 1, -1, n) s) : wpAny (model prog w) A (Builtin.Slice.sliceApplied (.ref sl) (pure (n : Int))) Q E s := by
  obtain ⟨os, hos, hcs, hds⟩ := id hs
  unfold Builtin.Slice.sliceApplied
  unfold Builtin.Slice.sliceFields
  refine wpAny_bind (wpAny_bind (wpAny_field hos hds (x := .none) rfl (wpAny_bind (wpAny_field hos hds (x := .none) rfl (wpAny_bind (wpAny_field hos hds (x := .int (-1) t) rfl (wpAny_pure ?_)))))))
  refine wpAny_bind (HT.slicePart_ (.int (-1) t) ?_)
  show wpAny _ _ (if ((-1 : Int) == 0) = true then _ else _) _ _ s
  rw [if_neg (by decide)]
  refine wpAny_bind (HT.slicePart_ .none (wpAny_bind (HT.slicePart_ .none (wpAny_bind (wpAny_pure ?_)))))
  show wpAny _ _ (match Builtin.Slice.sliceAdjust none none (-1) (n : Int) with | (lo, hi) => pure (lo, (-1 : Int), Builtin.Slice.slicePlaces lo hi (-1))) _ _ s
  rw [adj_rev n]
  show wpAny _ _ (pure ((n : Int) - 1, (-1 : Int), Builtin.Slice.slicePlaces ((n : Int) - 1) (-1) (-1))) _ _ s
  rw [plc_rev]
  exact wpAny_pure h
theorem getItem_tuple_rev {t sl : Addr} {k : Tok} {items : Array Value} {Q : Value → Shared → Prop} (ht : IsTup s.heap t items) (hs : s.heap.IsSliceOf sl .none .none (.int (-1) k))
    (h : Q (.ref s.heap.objs.size) { s with heap := s.heap.push { cls := .type "tuple", data := .seq items.toList.reverse.toArray } })
    (hsz : items.size ≤ sizeLine) : wpAny (model prog w) A (getItem (.ref t) (.ref sl)) Q E s := by
  have hsize : sizeOk (.seq items.toList.reverse.toArray) := by
    show items.toList.reverse.toArray.size ≤ sizeLine
    rw [List.size_toArray, List.length_reverse, Array.length_toList]
    exact hsz
  obtain ⟨os, hos, hcs, hds⟩ := id hs
  have hT : s.TypeIs (.ref sl) "slice" := ⟨os, hos, hcs⟩
  unfold getItem
  try with_reducible refine wpAny_holding ?_
  first | refine wpAny_bind (wpAny_pure ?_) | skip
  refine wpAny_bind (wpAny_sequenceKey ht.typeIs (by decide) ?_)
  refine wpAny_bind (wpAny_callSpecial?_slot (name := Str.ofString "__getitem__") ht.typeIs PyProof.Rows.slot_tuple_getitem (wpAny_call_entry PyProof.Rows.slot_tuple_getitem ht.typeIs entry_tuple_getitem ?_ (args_tuple_getitem _ _)))
  show wpAny _ _ (Builtin.Tuple.tupleItemsOf (.ref t) >>= _) _ _ s
  refine wpAny_bind (tupleItemsOf_ ht (wpAny_bind (wpAny_typeOf hT ?_)))
  rw [if_pos (by decide)]
  refine wpAny_bind (applied_rev hs ?_)
  have hno : ¬ ((((items.size : Int) - 1) == 0 && (-1 : Int) == 1 && items.size == items.size) = true) := by
    intro q
    rw [Bool.and_eq_true, Bool.and_eq_true] at q
    exact absurd (eq_of_beq q.1.2) (by decide)
  show wpAny _ _ (if (((items.size : Int) - 1) == 0 && (-1 : Int) == 1 && items.size == items.size) = true then _ else _) _ _ s
  rw [if_neg hno, pick_rev]
  first
    | exact wpAny_bind (m := Builtin.Tuple.tupleExact _) (wpAny_newObj_type (wpAny_pure ⟨_, rfl, wpAny_pure h⟩) hsize)
    | exact wpAny_bind (wpAny_bind (m := Builtin.Tuple.tupleExact _) (wpAny_newObj_type (wpAny_pure (wpAny_pure ⟨_, rfl, wpAny_pure h⟩)) hsize))
    | exact wpAny_bind (m := Builtin.Tuple.tupleExact _) (wpAny_newObj_type (wpAny_bind (wpAny_pure (wpAny_pure ⟨_, rfl, wpAny_pure h⟩))) hsize)
    | exact wpAny_bind (wpAny_bind (m := Builtin.Tuple.tupleExact _) (wpAny_newObj_type (wpAny_pure ⟨_, rfl, wpAny_pure h⟩) hsize))
end
/-- .. as a rule of expressions: a list or a tuple turned round -/
def tRev (K : PySem.W.Frag) (te : TE) : TE := fun σ H Q => te σ H fun x H1 => ∃ a xs, x = .ref a ∧ ((SqL K H1 a xs ∧ ∀ p, H1 p = none → Q (.ref p) (upd H1 p (.lst xs.reverse))) ∨ (SqT K H1 a xs ∧ ∀ p, H1 p = none → Q (.ref p) (upd H1 p (.tup xs.reverse))))
section
variable {X : Cx}
theorem pe_rev {e : Expr} {te : TE} {k : Nat} {p1 p2 p3 pos : Pos} (he : PE X e te) : PE X (.Subscript e (.Slice none none (some (.UnaryOp .USub (.Constant (.int 1) k p1) p2)) p3) pos) (tRev X.K te) := by
  refine ⟨fun pins s σ H Q I h => ?_⟩
  refine Subscript_ (thn (he.run pins s σ H _ I h) fun v s1 ⟨x, H1, I1, r1, q1⟩ => ?_)
  obtain ⟨a, xs, ex, q⟩ := q1
  subst ex
  cases r1
  have hst : PO X (some (.UnaryOp .USub (.Constant (.int 1) k p1) p2)) (tPart (tUn (rU fun i => .int (-i)) (tC (.int 1)))) := po_some (pe_un un_neg pe_int)
  refine wpAny_Slice (thn (po_none.run pins s1 σ H1 (fun o H2 => o = none ∧ H2 = H1) I1 ⟨rfl, rfl⟩) fun vl s2 ⟨l, H2, I2, pl, el, e2⟩ => ?_)
  subst el e2
  refine thn (po_none.run pins s2 σ H2 (fun o H3 => o = none ∧ H3 = H2) I2 ⟨rfl, rfl⟩) fun vu s3 ⟨u, H3, I3, pu, eu, e3⟩ => ?_
  subst eu e3
  refine thn (hst.run pins s3 σ H3 (fun o H4 => o = some (-1) ∧ H4 = H3) I3 ⟨1, rfl, -1, rfl, rfl, rfl⟩) fun vs s4 ⟨o, H4, I4, ps, eo, e4⟩ => ?_
  subst eo e4
  have I5 : Inv X pins σ H4 { s4 with heap := s4.heap.push { cls := .type "slice", data := .fields #[vl, vu, vs] } } := I4.kept (t' := s4.toks) fun b ob q => Heap.get?_push_of_some _ q
  show wpAny (model X.prog X.w) X.A (subscriptTail e (.Slice none none (some (.UnaryOp .USub (.Constant (.int 1) k p1) p2)) p3) (.ref a) (.ref s4.heap.objs.size)) (EP X pins σ Q) X.xe { s4 with heap := s4.heap.push { cls := .type "slice", data := .fields #[vl, vu, vs] } }
  rcases q with ⟨hx, q⟩ | ⟨hx, q⟩
  · obtain ⟨its, r, ht, hz⟩ := I5.list hx
    have hlen := r.length
    refine tail_any (ops := [.ref a, .ref s4.heap.objs.size]) ht.isList.typeIs (PySem.slot_list_getitem.lookup) ?_ (by with_unfolding_all rfl)
    refine wpAny_getItem_list_slice ht.isList (Heap.IsSliceOf.new _ vl vu vs) pl pu ps (by decide) ?_ (by rw [List.size_toArray]; omega)
    rw [PySem.W.krv_pick]
    refine ⟨.ref _, _, I5.laid (t' := s4.toks) (o := .lst xs.reverse) (fun b ob q => Heap.get?_push_of_some _ q) (Nat.le_refl _) ?_, rfl, q _ (I5.hok.fresh (Nat.le_refl _))⟩
    exact ⟨by rw [List.length_reverse]; exact hz, _, 0, r.reverse, Heap.get?_push_size _ rfl⟩
  · obtain ⟨its, r, ht, hz⟩ := I5.tuple hx
    have hlen := r.length
    cases pl
    cases pu
    cases ps
    refine tail_any (ops := [.ref a, .ref s4.heap.objs.size]) ht.typeIs (PyProof.Rows.slot_tuple_getitem.lookup) ?_ (by with_unfolding_all rfl)
    refine getItem_tuple_rev ht (Heap.IsSliceOf.new _ _ _ _) ?_ (by rw [List.size_toArray]; omega)
    refine ⟨.ref _, _, I5.laid (t' := s4.toks) (o := .tup xs.reverse) (fun b ob q => Heap.get?_push_of_some _ q) (Nat.le_refl _) ?_, rfl, q _ (I5.hok.fresh (Nat.le_refl _))⟩
    exact ⟨by rw [List.length_reverse]; exact hz, _, r.reverse, IsTup.new _ _⟩
end
/-- turned round -/
def rvW (w : Wv) : M Wv := fun ss => match tupV ss w with
  | some xs => some (.ok (.val (.tuple xs.reverse)) ss)
  | none => match lstV ss w with
    | some xs => some (.ok (.new (.lst xs.reverse)) ss)
    | none => none
section
variable {Γ : Gm} {X : Cx} {W : WX} {a : Expr} {fa : M Wv} {k : Nat} {p1 p2 p3 pos : Pos}
theorem de_rev (ha : DE Γ X W a fa) : DE Γ X W (.Subscript a (.Slice none none (some (.UnaryOp .USub (.Constant (.int 1) k p1) p2)) p3) pos) (un1 fa rvW) :=
  PE_imp (pe_rev ha) fun σ H Q q => te_then q fun F G ρ ts ss H w x r q => by
    have r := r.to1
    have R := r.rel
    unfold rvW at q
    split at q
    · rename_i xs e
      obtain ⟨a, vs, rfl, h1, d1⟩ := tupV_pk R.sub e fun k => r.pk1
      exact ⟨a, vs, rfl, .inr ⟨.of (R.sub _ _ h1), OutE.nt q R d1.reverse⟩⟩
    · split at q
      · rename_i xs e
        obtain ⟨a, vs, rfl, h1, d1⟩ := lstV_pk R.sub e fun k => r.pk1
        exact ⟨a, vs, rfl, .inl ⟨h1, OutE.nw q R d1.reverse⟩⟩
      · exact q.elim
end
theorem pv_rvT {α : Type} {F F' : Sl} {f : M Wv} {w : Wv} {e : α → D} {xs : List α} (h : f F = some (.ok w F')) (hw : tupV F' w = some (xs.map e)) : un1 f rvW F = some (.ok (.val (.tuple (xs.reverse.map e))) F') := by
  unfold un1; rw [bnd_ok h]; unfold rvW; rw [hw]; simp only [List.map_reverse]
theorem pv_rvL {α : Type} {F F' : Sl} {f : M Wv} {w : Wv} {e : α → D} {xs : List α} (h : f F = some (.ok w F')) (hn : tupV F' w = none) (hw : lstV F' w = some (xs.map e)) : un1 f rvW F = some (.ok (.new (.lst (xs.reverse.map e))) F') := by
  unfold un1; rw [bnd_ok h]; unfold rvW; rw [hn]; dsimp only; rw [hw]; simp only [List.map_reverse]
end DT
/-! T: typed mirrors of M-terms -/
namespace DT
open PySem
inductive Ro (α : Type) where
  | bad
  | ok (a : α)
  | ex (x : Xn)
section
variable {α β γ σ τ ω ω' : Type} {X : Sl → Prop}
def Ro.bind : Ro α → (α → Ro β) → Ro β
  | .bad, _ => .bad
  | .ok a, f => f a
  | .ex x, _ => .ex x
@[simp] theorem bind_ok (a : α) (f : α → Ro β) : (Ro.ok a).bind f = f a := by rw [Ro.bind]
@[simp] theorem bind_ex (x : Xn) (f : α → Ro β) : (Ro.ex x).bind f = .ex x := by rw [Ro.bind]
@[simp] theorem bind_bad (f : α → Ro β) : (Ro.bad).bind f = .bad := by rw [Ro.bind]
theorem bind_assoc (p : Ro α) (f : α → Ro β) (g : β → Ro γ) : (p.bind f).bind g = p.bind fun a => (f a).bind g := by cases p <;> rfl
/-- a name for a value -/
def Let (v : α) (f : α → β) : β := f v
@[simp] theorem Let_eq (v : α) (f : α → β) : Let v f = f v := by rw [Let]
def guR (c : Bool) (a : α) : Ro α := if c = true then .ok a else .bad

/-- what a term answers -/
def EvR (X : Sl → Prop) (r : Option (Rs ω)) (p : Ro α) (w : α → ω) (G : α → Sl) : Prop :=
  match p with
  | .bad => True
  | .ok a => r = some (.ok (w a) (G a))
  | .ex x => ∃ s, r = some (.ex x s) ∧ X s
theorem ev_ok {r : Option (Rs ω)} {a : α} {w : α → ω} {G : α → Sl} (h : r = some (.ok (w a) (G a))) : EvR X r (.ok a) w G := h
theorem ev_gu {r : Option (Rs ω)} {c : Bool} {a : α} {w : α → ω} {G : α → Sl} (h : c = true → r = some (.ok (w a) (G a))) : EvR X r (guR c a) w G := by
  unfold guR
  split
  · exact h ‹_›
  · trivial
theorem ev_P {f : M ω} {k : ω → M ω'} {w : ω} {F F' : Sl} {q : Ro β} {w2 : β → ω'} {G : β → Sl} (h : f F = some (.ok w F')) (h2 : EvR X (k w F') q w2 G) : EvR X (bnd f k F) q w2 G := by
  rw [bnd_ok h]; exact h2
theorem ev_E {f : M ω} {k : ω → M ω'} {w : α → ω} {F : Sl} {G1 : α → Sl} {p : Ro α} {q : α → Ro β} {w2 : β → ω'} {G : β → Sl} (h : EvR X (f F) p w G1) (h2 : ∀ a, EvR X (k (w a) (G1 a)) (q a) w2 G) : EvR X (bnd f k F) (p.bind q) w2 G := by
  cases p with
  | bad => trivial
  | ok a => rw [bnd_ok h]; exact h2 a
  | ex x => obtain ⟨s, e, hx⟩ := h; exact ⟨s, bnd_ex e, hx⟩
theorem bnd_P {f : M ω} {k : ω → M ω'} {w : ω} {u : ω'} {F F' F'' : Sl} (h : f F = some (.ok w F')) (h2 : k w F' = some (.ok u F'')) : bnd f k F = some (.ok u F'') := by
  rw [bnd_ok h]; exact h2
/-- a value only, in the shape of a bind -/
theorem ev_map {r : Option (Rs ω)} {p : Ro α} {f : α → β} {w : β → ω} {G : β → Sl} (h : EvR X r p (fun a => w (f a)) (fun a => G (f a))) : EvR X r (p.bind fun a => .ok (f a)) w G := by
  cases p with
  | bad => trivial
  | ok a => exact h
  | ex x => exact h

/-! ### terms of two and of one -/
section
variable {F F' F'' : Sl} {fa fb : M Wv} {op : Wv → Wv → M Wv} {wa wb r : Wv}
theorem pv_bin (ha : fa F = some (.ok wa F')) (hb : fb F' = some (.ok wb F'')) (ho : op wa wb F'' = some (.ok r F'')) : DT.bin fa fb op F = some (.ok r F'') := by
  rw [bin_ok ha hb]; exact ho
theorem ev_binPP {p : Ro α} {w : α → Wv} {G : α → Sl} (ha : fa F = some (.ok wa F')) (hb : fb F' = some (.ok wb F'')) (ho : EvR X (op wa wb F'') p w G) : EvR X (DT.bin fa fb op F) p w G := by
  rw [bin_ok ha hb]; exact ho
theorem ev_binPE {q : Ro β} {wb : β → Wv} {Gb : β → Sl} {p : β → Ro α} {w : α → Wv} {G : α → Sl} (ha : fa F = some (.ok wa F')) (hb : EvR X (fb F') q wb Gb) (ho : ∀ b, EvR X (op wa (wb b) (Gb b)) (p b) w G) : EvR X (DT.bin fa fb op F) (q.bind p) w G :=
  ev_P ha (ev_E hb ho)
theorem ev_binEP {q : Ro β} {wa : β → Wv} {Ga Gb : β → Sl} {wb : β → Wv} {p : β → Ro α} {w : α → Wv} {G : α → Sl} (ha : EvR X (fa F) q wa Ga) (hb : ∀ a, fb (Ga a) = some (.ok (wb a) (Gb a))) (ho : ∀ a, EvR X (op (wa a) (wb a) (Gb a)) (p a) w G) : EvR X (DT.bin fa fb op F) (q.bind p) w G :=
  ev_E ha fun a => ev_P (hb a) (ho a)
theorem ev_binEE {q : Ro β} {wa : β → Wv} {Ga : β → Sl} {q2 : β → Ro γ} {wb : β → γ → Wv} {Gb : β → γ → Sl} {p : β → γ → Ro α} {w : α → Wv} {G : α → Sl} (ha : EvR X (fa F) q wa Ga) (hb : ∀ a, EvR X (fb (Ga a)) (q2 a) (wb a) (Gb a)) (ho : ∀ a b, EvR X (op (wa a) (wb a b) (Gb a b)) (p a b) w G) : EvR X (DT.bin fa fb op F) (q.bind fun a => (q2 a).bind (p a)) w G :=
  ev_E ha fun a => ev_E (hb a) (ho a)
theorem pv_un {op : Wv → M Wv} (ha : fa F = some (.ok wa F')) (ho : op wa F' = some (.ok r F')) : un1 fa op F = some (.ok r F') := by
  unfold un1; rw [bnd_ok ha]; exact ho
theorem ev_unP {op : Wv → M Wv} {p : Ro α} {w : α → Wv} {G : α → Sl} (ha : fa F = some (.ok wa F')) (ho : EvR X (op wa F') p w G) : EvR X (un1 fa op F) p w G := ev_P ha ho
theorem ev_unE {op : Wv → M Wv} {q : Ro β} {wa : β → Wv} {Ga : β → Sl} {p : β → Ro α} {w : α → Wv} {G : α → Sl} (ha : EvR X (fa F) q wa Ga) (ho : ∀ a, EvR X (op (wa a) (Ga a)) (p a) w G) : EvR X (un1 fa op F) (q.bind p) w G := ev_E ha ho
/-! ### arguments -/
variable {g : M (List Wv)} {ws : List Wv}
theorem pa_nil : anil F = some (.ok [] F) := rfl
theorem pa_cons (ha : fa F = some (.ok wa F')) (hg : g F' = some (.ok ws F'')) : acons fa g F = some (.ok (wa :: ws) F'') := acons_ok ha hg
theorem ea_PE {q : Ro β} {wb : β → List Wv} {Gb : β → Sl} (ha : fa F = some (.ok wa F')) (hb : EvR X (g F') q wb Gb) : EvR X (acons fa g F) q (fun b => wa :: wb b) Gb := by
  unfold acons
  refine ev_P ha ?_
  cases q with
  | bad => trivial
  | ok a => exact bnd_P hb rfl
  | ex x => obtain ⟨s, e, hx⟩ := hb; exact ⟨s, bnd_ex e, hx⟩
theorem ea_EP {q : Ro β} {wa : β → Wv} {Ga Gb : β → Sl} {wb : β → List Wv} (ha : EvR X (fa F) q wa Ga) (hb : ∀ a, g (Ga a) = some (.ok (wb a) (Gb a))) : EvR X (acons fa g F) q (fun b => wa b :: wb b) Gb := by
  unfold acons
  cases q with
  | bad => trivial
  | ok a => exact bnd_P ha (bnd_P (hb a) rfl)
  | ex x => obtain ⟨s, e, hx⟩ := ha; exact ⟨s, bnd_ex e, hx⟩
theorem ea_EE {q : Ro β} {wa : β → Wv} {Ga : β → Sl} {q2 : β → Ro γ} {wb : β → γ → List Wv} {Gb : β → γ → Sl} (ha : EvR X (fa F) q wa Ga) (hb : ∀ a, EvR X (g (Ga a)) (q2 a) (wb a) (Gb a)) : EvR X (acons fa g F) (q.bind fun a => (q2 a).bind fun b => .ok (a, b)) (fun z => wa z.1 :: wb z.1 z.2) (fun z => Gb z.1 z.2) := by
  unfold acons
  refine ev_E ha fun a => ?_
  have hb := hb a
  cases e : q2 a with
  | bad => trivial
  | ok b => rw [e] at hb; exact bnd_P hb rfl
  | ex x => rw [e] at hb; obtain ⟨s, e, hx⟩ := hb; exact ⟨s, bnd_ex e, hx⟩
end

/-! ### truths -/
section
variable {F F' F'' : Sl} {f g : M Bool} {a b : Bool} {v : M Wv}
theorem pt_tstB (h : v F = some (.ok (.val (.bool a)) F')) : tstB v F = some (.ok a F') := tstB_ok h
theorem et_tstB {p : Ro β} {w : β → Bool} {G : β → Sl} (h : EvR X (v F) p (fun b => .val (.bool (w b))) G) : EvR X (tstB v F) p w G := by
  cases p with
  | bad => trivial
  | ok a => exact tstB_ok h
  | ex x => obtain ⟨s, e, hx⟩ := h; exact ⟨s, bnd_ex e, hx⟩
theorem pt_tst {w : Wv} (h : v F = some (.ok w F')) (ht : truV F' w = some a) : tst v F = some (.ok a F') := by
  unfold tst; rw [bnd_ok h]; simp only [ht]
theorem et_tst {p : Ro β} {w : β → Wv} {c : β → Bool} {G : β → Sl} (h : EvR X (v F) p w G) (ht : ∀ b, truV (G b) (w b) = some (c b)) : EvR X (tst v F) p c G := by
  cases p with
  | bad => trivial
  | ok a => exact pt_tst h (ht a)
  | ex x => obtain ⟨s, e, hx⟩ := h; exact ⟨s, bnd_ex e, hx⟩
theorem pt_not (h : f F = some (.ok a F')) : notT f F = some (.ok (!a) F') := notT_ok h
theorem et_not {p : Ro β} {w : β → Bool} {G : β → Sl} (h : EvR X (f F) p w G) : EvR X (notT f F) p (fun b => !(w b)) G := by
  cases p with
  | bad => trivial
  | ok a => exact notT_ok h
  | ex x => obtain ⟨s, e, hx⟩ := h; exact ⟨s, bnd_ex e, hx⟩
theorem pt_and (h : f F = some (.ok a F)) (k : g F = some (.ok b F)) : andT f g F = some (.ok (a && b) F) := by
  cases a
  · exact andT_f h
  · rw [andT_t h, k]; rfl
theorem pt_or (h : f F = some (.ok a F)) (k : g F = some (.ok b F)) : orT f g F = some (.ok (a || b) F) := by
  cases a
  · rw [orT_f h, k]; rfl
  · exact orT_t h
/-- the second one is asked only if need be -/
def andR (a : Bool) (p : Ro Bool) : Ro Bool := if a = true then p else .ok false
def orR (a : Bool) (p : Ro Bool) : Ro Bool := if a = true then .ok true else p
@[simp] theorem andR_t (p : Ro Bool) : andR true p = p := by rw [andR]; simp
@[simp] theorem andR_f (p : Ro Bool) : andR false p = .ok false := by rw [andR]; simp
@[simp] theorem orR_t (p : Ro Bool) : orR true p = .ok true := by rw [orR]; simp
@[simp] theorem orR_f (p : Ro Bool) : orR false p = p := by rw [orR]; simp
@[simp] theorem andR_ok (a b : Bool) : andR a (.ok b) = .ok (a && b) := by cases a <;> rfl
@[simp] theorem orR_ok (a b : Bool) : orR a (.ok b) = .ok (a || b) := by cases a <;> rfl
theorem et_andP {p : Ro Bool} (h : f F = some (.ok a F)) (k : EvR X (g F) p id (fun _ => F)) : EvR X (andT f g F) (andR a p) id (fun _ => F) := by
  cases a
  · exact andT_f h
  · rw [andT_t h]; exact k
theorem et_orP {p : Ro Bool} (h : f F = some (.ok a F)) (k : EvR X (g F) p id (fun _ => F)) : EvR X (orT f g F) (orR a p) id (fun _ => F) := by
  cases a
  · rw [orT_f h]; exact k
  · exact orT_t h
theorem et_andE {q p : Ro Bool} (h : EvR X (f F) q id (fun _ => F)) (k : EvR X (g F) p id (fun _ => F)) : EvR X (andT f g F) (q.bind fun a => andR a p) id (fun _ => F) := by
  cases q with
  | bad => trivial
  | ok a => exact et_andP h k
  | ex x => obtain ⟨s, e, hx⟩ := h; exact ⟨s, bnd_ex e, hx⟩
theorem et_orE {q p : Ro Bool} (h : EvR X (f F) q id (fun _ => F)) (k : EvR X (g F) p id (fun _ => F)) : EvR X (orT f g F) (q.bind fun a => orR a p) id (fun _ => F) := by
  cases q with
  | bad => trivial
  | ok a => exact et_orP h k
  | ex x => obtain ⟨s, e, hx⟩ := h; exact ⟨s, bnd_ex e, hx⟩
theorem pv_of_id {p : Ro Bool} {w : Bool → Wv} (v' : M Wv) (h : EvR X (v' F) p w (fun _ => F)) : EvR X (v' F) p w (fun _ => F) := h
/-- and, or of truths as values -/
theorem tru_bool {s : Sl} {b : Bool} : truV s (.val (.bool b)) = some b := rfl
variable {u : M Wv}
theorem pv_and (h : v F = some (.ok (.val (.bool a)) F)) (k : u F = some (.ok (.val (.bool b)) F)) : andV v u F = some (.ok (.val (.bool (a && b))) F) := by
  unfold andV; rw [bnd_ok h]; simp only [tru_bool]
  cases a
  · rfl
  · exact k
theorem pv_or (h : v F = some (.ok (.val (.bool a)) F)) (k : u F = some (.ok (.val (.bool b)) F)) : orV v u F = some (.ok (.val (.bool (a || b))) F) := by
  unfold orV; rw [bnd_ok h]; simp only [tru_bool]
  cases a
  · exact k
  · rfl
theorem ev_andP {p : Ro Bool} (h : v F = some (.ok (.val (.bool a)) F)) (k : EvR X (u F) p (fun b => .val (.bool b)) (fun _ => F)) : EvR X (andV v u F) (andR a p) (fun b => .val (.bool b)) (fun _ => F) := by
  unfold andV; rw [bnd_ok h]; simp only [tru_bool]
  cases a
  · rfl
  · exact k
theorem ev_orP {p : Ro Bool} (h : v F = some (.ok (.val (.bool a)) F)) (k : EvR X (u F) p (fun b => .val (.bool b)) (fun _ => F)) : EvR X (orV v u F) (orR a p) (fun b => .val (.bool b)) (fun _ => F) := by
  unfold orV; rw [bnd_ok h]; simp only [tru_bool]
  cases a
  · exact k
  · rfl
theorem ev_andE {q p : Ro Bool} (h : EvR X (v F) q (fun b => .val (.bool b)) (fun _ => F)) (k : EvR X (u F) p (fun b => .val (.bool b)) (fun _ => F)) : EvR X (andV v u F) (q.bind fun a => andR a p) (fun b => .val (.bool b)) (fun _ => F) := by
  cases q with
  | bad => trivial
  | ok a => exact ev_andP h k
  | ex x => obtain ⟨s, e, hx⟩ := h; exact ⟨s, bnd_ex e, hx⟩
theorem ev_orE {q p : Ro Bool} (h : EvR X (v F) q (fun b => .val (.bool b)) (fun _ => F)) (k : EvR X (u F) p (fun b => .val (.bool b)) (fun _ => F)) : EvR X (orV v u F) (q.bind fun a => orR a p) (fun b => .val (.bool b)) (fun _ => F) := by
  cases q with
  | bad => trivial
  | ok a => exact ev_orP h k
  | ex x => obtain ⟨s, e, hx⟩ := h; exact ⟨s, bnd_ex e, hx⟩
theorem pv_not {w : Wv} (h : v F = some (.ok w F')) (ht : truV F' w = some a) : notV v F = some (.ok (.val (.bool (!a))) F') := by
  unfold notV; rw [bnd_ok h]; simp only [ht]
theorem ev_not {p : Ro β} {w : β → Wv} {c : β → Bool} {G : β → Sl} (h : EvR X (v F) p w G) (ht : ∀ b, truV (G b) (w b) = some (c b)) : EvR X (notV v F) p (fun b => .val (.bool (!(c b)))) G := by
  cases p with
  | bad => trivial
  | ok a => exact pv_not h (ht a)
  | ex x => obtain ⟨s, e, hx⟩ := h; exact ⟨s, bnd_ex e, hx⟩
/-- one or the other -/
theorem pv_ite {w : Bool → Wv} {x y : M Wv} (h : f F = some (.ok a F)) (hx : a = true → x F = some (.ok (w true) F)) (hy : a = false → y F = some (.ok (w false) F)) : iteM f x y F = some (.ok (w a) F) := by
  cases a
  · rw [iteM_f h]; exact hy rfl
  · rw [iteM_t h]; exact hx rfl
theorem pv_iteV {e : α → D} {x y : M Wv} {xv yv : α} (h : f F = some (.ok a F')) (hx : x F' = some (.ok (.val (e xv)) F'')) (hy : y F' = some (.ok (.val (e yv)) F'')) : iteM f x y F = some (.ok (.val (e (if a = true then xv else yv))) F'') := by
  cases a
  · rw [iteM_f h]; exact hy
  · rw [iteM_t h]; exact hx
theorem ev_iteP {x y : M Wv} {p q : Ro α} {w : α → Wv} {G : α → Sl} (h : f F = some (.ok a F')) (hx : EvR X (x F') p w G) (hy : EvR X (y F') q w G) : EvR X (iteM f x y F) (if a = true then p else q) w G := by
  cases a
  · rw [iteM_f h]; exact hy
  · rw [iteM_t h]; exact hx
theorem ev_iteE {x y : M Wv} {r : Ro β} {c : β → Bool} {G1 : β → Sl} {p q : β → Ro α} {w : α → Wv} {G : α → Sl} (h : EvR X (f F) r c G1) (hx : ∀ b, EvR X (x (G1 b)) (p b) w G) (hy : ∀ b, EvR X (y (G1 b)) (q b) w G) : EvR X (iteM f x y F) (r.bind fun b => if c b = true then p b else q b) w G := by
  cases r with
  | bad => trivial
  | ok a => exact ev_iteP h (hx a) (hy a)
  | ex x => obtain ⟨s, e, hx⟩ := h; exact ⟨s, bnd_ex e, hx⟩
end
/-! ### blocks -/
/-- what a block does; t: it never falls through -/
def TG (X : Sl → Prop) (t : Bool) (r : Option (Rs SO)) (p : Ro γ) (R : γ → Rs SO → Prop) : Prop :=
  match p with
  | .bad => True
  | .ok g => ∃ o, r = some o ∧ R g o ∧ (t = true → ∀ s, o ≠ .ok .nx s)
  | .ex x => ∃ s, r = some (.ex x s) ∧ X s
/-- falls through -/
def FT (G : σ → Sl) (s : σ) (o : Rs SO) : Prop := o = .ok .nx (G s)
/-- a loop's turn -/
def LB (G : σ → Sl) (s : σ) (o : Rs SO) : Prop := o = .ok .nx (G s) ∨ o = .ok .ct (G s)
/-- a def's end: its answer, and what stands at the end -/
def RB (w : β → Wv) (C : β → Sl → Prop) (b : β) (o : Rs SO) : Prop := ∃ s, endR (some o) = some (.ok (w b) s) ∧ C b s
/-- falls through or leaves -/
def SR (G : σ → Sl) (R : γ → Rs SO → Prop) : σ ⊕ γ → Rs SO → Prop
  | .inl s, o => o = .ok .nx (G s)
  | .inr g, o => R g o ∧ ∀ s, o ≠ .ok .nx s
section
variable {t : Bool} {F F' : Sl} {a b : M SO} {R : γ → Rs SO → Prop}
theorem tg_P {p : Ro γ} (h : a F = some (.ok .nx F')) (k : TG X t (b F') p R) : TG X t (sq a b F) p R := by rw [sq_nx h]; exact k
theorem tg_let {v : α} {G : α → Sl} {p : α → Ro γ} (h : a F = some (.ok .nx (G v))) (k : ∀ x, TG X t (b (G x)) (p x) R) : TG X t (sq a b F) (Let v p) R := by rw [sq_nx h]; exact k v
theorem tg_E {q : Ro α} {G : α → Sl} {p : α → Ro γ} (h : EvR X (a F) q (fun _ => SO.nx) G) (k : ∀ x, TG X t (b (G x)) (p x) R) : TG X t (sq a b F) (q.bind p) R := by
  cases q with
  | bad => trivial
  | ok x => rw [show sq a b F = b (G x) from sq_nx h]; exact k x
  | ex x => obtain ⟨s, e, hx⟩ := h; exact ⟨s, sq_ex e, hx⟩
theorem tg_B {q : Ro σ} {G : σ → Sl} {p : σ → Ro γ} (h : TG X false (a F) q (FT G)) (k : ∀ x, TG X t (b (G x)) (p x) R) : TG X t (sq a b F) (q.bind p) R := by
  cases q with
  | bad => trivial
  | ok x => obtain ⟨o, e, ho, _⟩ := h; rw [show sq a b F = b (G x) from sq_nx (e.trans (congrArg some ho))]; exact k x
  | ex x => obtain ⟨s, e, hx⟩ := h; exact ⟨s, sq_ex e, hx⟩
theorem sq_lift {o : Rs SO} (e : a F = some o) (h : ∀ s, o ≠ .ok .nx s) : sq a b F = some o := by
  cases o with
  | ex x s => exact sq_ex e
  | ok z s => cases z with
    | nx => exact absurd rfl (h s)
    | rt w => exact sq_rt e
    | bk => exact sq_bk e
    | ct => exact sq_ct e
theorem tg_term {p : Ro γ} (h : TG X true (a F) p R) : TG X t (sq a b F) p R := by
  cases p with
  | bad => trivial
  | ok g => obtain ⟨o, e, r, n⟩ := h; exact ⟨o, sq_lift e (n rfl), r, fun _ => n rfl⟩
  | ex x => obtain ⟨s, e, hx⟩ := h; exact ⟨s, sq_ex e, hx⟩
theorem tg_S {q : Ro (σ ⊕ γ)} {G : σ → Sl} {p : σ → Ro γ} (h : TG X false (a F) q (SR G R)) (k : ∀ x, TG X t (b (G x)) (p x) R) : TG X t (sq a b F) (q.bind (Sum.elim p Ro.ok)) R := by
  cases q with
  | bad => trivial
  | ex x => obtain ⟨s, e, hx⟩ := h; exact ⟨s, sq_ex e, hx⟩
  | ok x => cases x with
    | inl s => obtain ⟨o, e, ho, _⟩ := h; rw [show sq a b F = b (G s) from sq_nx (e.trans (congrArg some ho))]; exact k s
    | inr g => obtain ⟨o, e, ⟨r, n⟩, _⟩ := h; exact ⟨o, sq_lift e n, r, fun _ => n⟩
theorem tg_if {c : M Bool} {v : Bool} {p q : Ro γ} (hc : c F = some (.ok v F')) (ha : TG X t (a F') p R) (hb : TG X t (b F') q R) : TG X t (sIf c a b F) (if v = true then p else q) R := by
  cases v
  · rw [sIf_f hc]; exact hb
  · rw [sIf_t hc]; exact ha
theorem tg_ifE {c : M Bool} {r : Ro β} {v : β → Bool} {G : β → Sl} {p q : β → Ro γ} (hc : EvR X (c F) r v G) (ha : ∀ x, TG X t (a (G x)) (p x) R) (hb : ∀ x, TG X t (b (G x)) (q x) R) : TG X t (sIf c a b F) (r.bind fun x => if v x = true then p x else q x) R := by
  cases r with
  | bad => trivial
  | ok x => exact tg_if hc (ha x) (hb x)
  | ex x => obtain ⟨s, e, hx⟩ := hc; exact ⟨s, bnd_ex e, hx⟩
/-- if c: (leaves); rest -/
theorem tg_ifT {c : M Bool} {v : Bool} {a' : M SO} {p q : Ro γ} (hc : c F = some (.ok v F')) (ha : TG X true (a F') p R) (hb : TG X t (sq a' b F') q R) : TG X t (sq (sIf c a a') b F) (if v = true then p else q) R := by
  have e : sq (sIf c a a') b F = if v = true then sq a b F' else sq a' b F' := by
    cases v
    · show bnd (sIf c a a') _ F = bnd a' _ F'
      unfold bnd
      rw [sIf_f hc]
    · show bnd (sIf c a a') _ F = bnd a _ F'
      unfold bnd
      rw [sIf_t hc]
  rw [e]
  cases v
  · exact hb
  · exact tg_term ha
theorem tg_ifTE {c : M Bool} {r : Ro β} {v : β → Bool} {G : β → Sl} {a' : M SO} {p q : β → Ro γ} (hc : EvR X (c F) r v G) (ha : ∀ x, TG X true (a (G x)) (p x) R) (hb : ∀ x, TG X t (sq a' b (G x)) (q x) R) : TG X t (sq (sIf c a a') b F) (r.bind fun x => if v x = true then p x else q x) R := by
  cases r with
  | bad => trivial
  | ok x => exact tg_ifT hc (ha x) (hb x)
  | ex x => obtain ⟨s, e, hx⟩ := hc; exact ⟨s, sq_ex (bnd_ex e), hx⟩
theorem tg_nxR {p : Ro γ} (h : TG X t (b F) p R) : TG X t (sq sNx b F) p R := by rw [sq_nx rfl]; exact h
/-- the end of a block -/
theorem tg_nx {g : γ} (h : R g (.ok .nx F)) : TG X false (sNx F) (.ok g) R := ⟨_, rfl, h, fun e => by cases e⟩
theorem tg_bk {g : γ} (h : R g (.ok .bk F)) : TG X t (sBk F) (.ok g) R := ⟨_, rfl, h, fun _ s e => by cases e⟩
theorem tg_ct {g : γ} (h : R g (.ok .ct F)) : TG X t (sCt F) (.ok g) R := ⟨_, rfl, h, fun _ s e => by cases e⟩
theorem tg_raise {c : Nat} (hx : X F) : TG X t (sRaise c F) (.ex (.pl c)) R := ⟨_, rfl, hx⟩
theorem tg_rtP {f : M Wv} {w : Wv} {g : γ} (h : f F = some (.ok w F')) (k : R g (.ok (.rt w) F')) : TG X t (sRt f F) (.ok g) R := ⟨_, sRt_ok h, k, fun _ s e => by cases e⟩
theorem tg_rtE {f : M Wv} {p : Ro γ} {w : γ → Wv} {G : γ → Sl} (h : EvR X (f F) p w G) (k : ∀ g, R g (.ok (.rt (w g)) (G g))) : TG X t (sRt f F) p R := by
  cases p with
  | bad => trivial
  | ok g => exact ⟨_, sRt_ok h, k g, fun _ s e => by cases e⟩
  | ex x => obtain ⟨s, e, hx⟩ := h; exact ⟨s, bnd_ex e, hx⟩
theorem tg_rtN {g : γ} (k : R g (.ok (.rt (.val .none)) F)) : TG X t (sRtN F) (.ok g) R := ⟨_, rfl, k, fun _ s e => by cases e⟩
/-- a last statement that falls through -/
theorem tg_lastP {g : γ} (h : a F = some (.ok .nx F')) (k : R g (.ok .nx F')) : TG X false (a F) (.ok g) R := ⟨_, h, k, fun e => by cases e⟩
theorem tg_lastE {q : Ro α} {G : α → Sl} {f : α → γ} (h : EvR X (a F) q (fun _ => SO.nx) G) (k : ∀ x, R (f x) (.ok .nx (G x))) : TG X false (a F) (q.bind fun x => .ok (f x)) R := by
  cases q with
  | bad => trivial
  | ok x => exact ⟨_, h, k x, fun e => by cases e⟩
  | ex x => obtain ⟨s, e, hx⟩ := h; exact ⟨s, e, hx⟩
theorem tg_bind {q : Ro α} {f : α → γ} {R' : α → Rs SO → Prop} (h : TG X t (a F) q R') (k : ∀ x o, R' x o → R (f x) o) : TG X t (a F) (q.bind fun x => .ok (f x)) R := by
  cases q with
  | bad => trivial
  | ok x => obtain ⟨o, e, r, n⟩ := h; exact ⟨o, e, k x o r, n⟩
  | ex x => exact h
end
/-! ### loops -/
def forR : List α → σ → (α → σ → Ro σ) → Ro σ
  | [], s, _ => .ok s
  | x :: xs, s, f => (f x s).bind fun s => forR xs s f
/-- .. that may be left: true -/
def forB : List α → σ → (α → σ → Ro (σ × Bool)) → Ro σ
  | [], s, _ => .ok s
  | x :: xs, s, f => (f x s).bind fun z => if z.2 = true then .ok z.1 else forB xs z.1 f
/-- .. in which the def may end -/
def forT : List α → σ → (α → σ → Ro (σ ⊕ γ)) → Ro (σ ⊕ γ)
  | [], s, _ => .ok (.inl s)
  | x :: xs, s, f => (f x s).bind (Sum.elim (fun s => forT xs s f) fun g => .ok (.inr g))
def LBb (G : σ → Sl) (z : σ × Bool) (o : Rs SO) : Prop := if z.2 = true then o = .ok .bk (G z.1) else (o = .ok .nx (G z.1) ∨ o = .ok .ct (G z.1))
def LBt (G : σ → Sl) (R : γ → Rs SO → Prop) : σ ⊕ γ → Rs SO → Prop
  | .inl s, o => o = .ok .nx (G s) ∨ o = .ok .ct (G s)
  | .inr g, o => R g o ∧ ∃ w s, o = .ok (.rt w) s
section
variable {g : D → Sl → Option Sl} {body : M SO} {e : α → D} {G : σ → Sl} {T : α → σ → Sl}
theorem ev_loop (ht : ∀ x s, g (e x) (G s) = some (T x s)) {f : α → σ → Ro σ} (hb : ∀ x s, TG X false (body (T x s)) (f x s) (LB G)) : ∀ (xs : List α) (s : σ), EvR X (loopF g body (xs.map e) (G s)) (forR xs s f) (fun _ => SO.nx) G
  | [], s => rfl
  | x :: xs, s => by
    have h := hb x s
    unfold forR
    show EvR X (loopF g body (e x :: xs.map e) (G s)) _ _ _
    unfold loopF
    rw [ht x s]
    dsimp only
    cases q : f x s with
    | bad => trivial
    | ex y => rw [q] at h; obtain ⟨z, h, hx⟩ := h; rw [h]; exact ⟨z, rfl, hx⟩
    | ok s' =>
      rw [q] at h
      obtain ⟨o, h, r, _⟩ := h
      rw [h]
      rcases r with r | r <;> (subst r; exact ev_loop ht hb xs s')
theorem ev_loopB (ht : ∀ x s, g (e x) (G s) = some (T x s)) {f : α → σ → Ro (σ × Bool)} (hb : ∀ x s, TG X false (body (T x s)) (f x s) (LBb G)) : ∀ (xs : List α) (s : σ), EvR X (loopF g body (xs.map e) (G s)) (forB xs s f) (fun _ => SO.nx) G
  | [], s => rfl
  | x :: xs, s => by
    have h := hb x s
    unfold forB
    show EvR X (loopF g body (e x :: xs.map e) (G s)) _ _ _
    unfold loopF
    rw [ht x s]
    dsimp only
    cases q : f x s with
    | bad => trivial
    | ex y => rw [q] at h; obtain ⟨z, h, hx⟩ := h; rw [h]; exact ⟨z, rfl, hx⟩
    | ok s' =>
      rw [q] at h
      obtain ⟨o, h, r, _⟩ := h
      rw [h]
      obtain ⟨s', c⟩ := s'
      cases c
      · rcases (show o = .ok .nx (G s') ∨ o = .ok .ct (G s') from r) with r | r <;> (subst r; exact ev_loopB ht hb xs s')
      · have r : o = .ok .bk (G s') := r
        subst r
        rfl
theorem tg_loopT {R : γ → Rs SO → Prop} (ht : ∀ x s, g (e x) (G s) = some (T x s)) {f : α → σ → Ro (σ ⊕ γ)} (hb : ∀ x s, TG X false (body (T x s)) (f x s) (LBt G R)) : ∀ (xs : List α) (s : σ), TG X false (loopF g body (xs.map e) (G s)) (forT xs s f) (SR G R)
  | [], s => ⟨_, rfl, rfl, fun e => by cases e⟩
  | x :: xs, s => by
    have h := hb x s
    unfold forT
    show TG X false (loopF g body (e x :: xs.map e) (G s)) _ _
    unfold loopF
    rw [ht x s]
    dsimp only
    cases q : f x s with
    | bad => trivial
    | ex y => rw [q] at h; obtain ⟨z, h, hx⟩ := h; rw [h]; exact ⟨z, rfl, hx⟩
    | ok z =>
      rw [q] at h
      obtain ⟨o, h, r, _⟩ := h
      rw [h]
      cases z with
      | inl s' => rcases (show o = .ok .nx (G s') ∨ o = .ok .ct (G s') from r) with r | r <;> (subst r; exact tg_loopT ht hb xs s')
      | inr z =>
        obtain ⟨r, w, s'', rfl⟩ := (show R z o ∧ ∃ w s, o = .ok (.rt w) s from r)
        exact ⟨_, rfl, ⟨r, fun s e => by cases e⟩, fun e => by cases e⟩
end
/-- while -/
def whR : Nat → (σ → Ro Bool) → (σ → Ro σ) → σ → Ro σ
  | 0, _, _, _ => .bad
  | n + 1, c, f, s => (c s).bind fun b => if b = true then (f s).bind fun s => whR n c f s else .ok s
def whT : Nat → (σ → Ro Bool) → (σ → Ro (σ ⊕ γ)) → σ → Ro (σ ⊕ γ)
  | 0, _, _, _ => .bad
  | n + 1, c, f, s => (c s).bind fun b => if b = true then (f s).bind (Sum.elim (fun s => whT n c f s) fun g => .ok (.inr g)) else .ok (.inl s)
section
variable {body : M SO} {c : M Bool} {G : σ → Sl} {fc : σ → Ro Bool}
theorem ev_wh {f : σ → Ro σ} (hc : ∀ s, EvR X (c (G s)) (fc s) id (fun _ => G s)) (hb : ∀ s, TG X false (body (G s)) (f s) (LB G)) : ∀ (n : Nat) (s : σ), EvR X (whM n c body (G s)) (whR n fc f s) (fun _ => SO.nx) G
  | 0, s => trivial
  | n + 1, s => by
    unfold whR whM
    refine ev_E (hc s) fun b => ?_
    cases b
    · rfl
    · show EvR X (match body (G s) with
        | none => none
        | some (.ex x s) => some (.ex x s)
        | some (.ok .nx s) => whM n c body s
        | some (.ok .ct s) => whM n c body s
        | some (.ok .bk s) => some (.ok .nx s)
        | some (.ok (.rt w) s) => some (.ok (.rt w) s)) ((f s).bind fun s => whR n fc f s) _ _
      have h := hb s
      cases q : f s with
      | bad => trivial
      | ex y => rw [q] at h; obtain ⟨z, h, hx⟩ := h; rw [h]; exact ⟨z, rfl, hx⟩
      | ok s' =>
        rw [q] at h
        obtain ⟨o, h, r, _⟩ := h
        rw [h]
        rcases r with r | r <;> (subst r; exact ev_wh hc hb n s')
theorem tg_whT {R : γ → Rs SO → Prop} {f : σ → Ro (σ ⊕ γ)} (hc : ∀ s, EvR X (c (G s)) (fc s) id (fun _ => G s)) (hb : ∀ s, TG X false (body (G s)) (f s) (LBt G R)) : ∀ (n : Nat) (s : σ), TG X false (whM n c body (G s)) (whT n fc f s) (SR G R)
  | 0, s => trivial
  | n + 1, s => by
    unfold whT whM bnd
    have hc' := hc s
    cases qc : fc s with
    | bad => trivial
    | ex y => rw [qc] at hc'; obtain ⟨z, hc', hx⟩ := hc'; rw [hc']; exact ⟨z, rfl, hx⟩
    | ok b =>
      rw [qc] at hc'
      rw [show c (G s) = some (.ok b (G s)) from hc']
      cases b
      · exact ⟨_, rfl, rfl, fun e => by cases e⟩
      · show TG X false (match body (G s) with
          | none => none
          | some (.ex x s) => some (.ex x s)
          | some (.ok .nx s) => whM n c body s
          | some (.ok .ct s) => whM n c body s
          | some (.ok .bk s) => some (.ok .nx s)
          | some (.ok (.rt w) s) => some (.ok (.rt w) s)) ((f s).bind (Sum.elim (fun s => whT n fc f s) fun g => .ok (.inr g))) _
        have h := hb s
        cases q : f s with
        | bad => trivial
        | ex y => rw [q] at h; obtain ⟨z, h, hx⟩ := h; rw [h]; exact ⟨z, rfl, hx⟩
        | ok z =>
          rw [q] at h
          obtain ⟨o, h, r, _⟩ := h
          rw [h]
          cases z with
          | inl s' => rcases (show o = .ok .nx (G s') ∨ o = .ok .ct (G s') from r) with r | r <;> (subst r; exact tg_whT hc hb n s')
          | inr z =>
            obtain ⟨r, w, s'', rfl⟩ := (show R z o ∧ ∃ w s, o = .ok (.rt w) s from r)
            exact ⟨_, rfl, ⟨r, fun s e => by cases e⟩, fun e => by cases e⟩
end
end
end DT
/-! T: encodings and operations -/
namespace DT
open PySem
section
variable {α β γ δ σ : Type} {X : Sl → Prop}
/-! ### encodings -/
abbrev eI : Int → D := PyData.int
abbrev eB : Bool → D := PyData.bool
abbrev eS : Str → D := PyData.str
abbrev eN : Unit → D := fun _ => .none
abbrev eD : D → D := fun d => d
abbrev eT (e : α → D) (xs : List α) : D := .tuple (xs.map e)
abbrev eL (e : α → D) (xs : List α) : D := .list (xs.map e)
abbrev e1 (a : α → D) (p : α) : D := .tuple [a p]
abbrev e2 (a : α → D) (b : β → D) (p : α × β) : D := .tuple [a p.1, b p.2]
abbrev e3 (a : α → D) (b : β → D) (c : γ → D) (p : α × β × γ) : D := .tuple [a p.1, b p.2.1, c p.2.2]
abbrev e4 (a : α → D) (b : β → D) (c : γ → D) (d : δ → D) (p : α × β × γ × δ) : D := .tuple [a p.1, b p.2.1, c p.2.2.1, d p.2.2.2]
def eO (e : α → D) : Option α → D
  | none => .none
  | some a => e a
/-- depth and equality -/
structure Ek (k : Nat) (e : α → D) : Prop where
  dep : ∀ a, (e a).depth ≤ k
  eqv : ∀ a b, PyData.eqv (e a) (e b) = true ↔ a = b
theorem Ek.eq [DecidableEq α] {k : Nat} {e : α → D} (h : Ek k e) (a b : α) : PyData.eqv (e a) (e b) = decide (a = b) := by
  rw [Bool.eq_iff_iff, h.eqv, decide_eq_true_iff]
theorem ek_I : Ek 0 eI := ⟨fun _ => Nat.le_refl _, fun a b => by show (a == b) = true ↔ _; exact beq_iff_eq⟩
theorem ek_B : Ek 0 eB := ⟨fun _ => Nat.le_refl _, fun a b => by show (a == b) = true ↔ _; exact beq_iff_eq⟩
theorem ek_S : Ek 0 eS := ⟨fun _ => Nat.le_refl _, fun a b => by show (a == b) = true ↔ _; exact beq_iff_eq⟩
theorem ek_N : Ek 0 eN := ⟨fun _ => Nat.le_refl _, fun a b => by show true = true ↔ _; simp⟩
theorem Ek.mono {k j : Nat} {e : α → D} (h : Ek k e) (hk : k ≤ j) : Ek j e := ⟨fun a => Nat.le_trans (h.dep a) hk, h.eqv⟩
theorem ek_all {k : Nat} {e : α → D} (h : Ek k e) : ∀ xs : List α, PyData.depthAll (xs.map e) ≤ k
  | [] => Nat.zero_le _
  | x :: xs => by
    have := ek_all h xs
    have := h.dep x
    show max (e x).depth (PyData.depthAll (xs.map e)) ≤ k
    omega
theorem ek_eqs {k : Nat} {e : α → D} (h : Ek k e) : ∀ xs ys : List α, PyData.eqvAll (xs.map e) (ys.map e) = true ↔ xs = ys
  | [], [] => by simp [PyData.eqvAll]
  | [], _ :: _ => by simp [PyData.eqvAll]
  | _ :: _, [] => by simp [PyData.eqvAll]
  | x :: xs, y :: ys => by
    show (PyData.eqv (e x) (e y) && PyData.eqvAll (xs.map e) (ys.map e)) = true ↔ _
    rw [Bool.and_eq_true, h.eqv, ek_eqs h xs ys, List.cons.injEq]
theorem ek_T {k : Nat} {e : α → D} (h : Ek k e) : Ek (k + 1) (eT e) := ⟨fun xs => by
  show PyData.depthAll (xs.map e) + 1 ≤ k + 1
  have := ek_all h xs
  omega, fun xs ys => ek_eqs h xs ys⟩
theorem ek_L {k : Nat} {e : α → D} (h : Ek k e) : Ek (k + 1) (eL e) := ⟨fun xs => by
  show PyData.depthAll (xs.map e) + 1 ≤ k + 1
  have := ek_all h xs
  omega, fun xs ys => ek_eqs h xs ys⟩
theorem ek_2 {k j : Nat} {a : α → D} {b : β → D} (h : Ek k a) (g : Ek j b) : Ek (max k j + 1) (e2 a b) := ⟨fun p => by
  have := h.dep p.1
  have := g.dep p.2
  show max (a p.1).depth (max (b p.2).depth 0) + 1 ≤ _
  omega, fun p q => by
  show (PyData.eqv (a p.1) (a q.1) && (PyData.eqv (b p.2) (b q.2) && true)) = true ↔ _
  rw [Bool.and_true, Bool.and_eq_true, h.eqv, g.eqv]
  exact Prod.ext_iff.symm⟩
theorem ek_3 {k j i : Nat} {a : α → D} {b : β → D} {c : γ → D} (h : Ek k a) (g : Ek j b) (f : Ek i c) : Ek (max k (max j i) + 1) (e3 a b c) := ⟨fun p => by
  have := h.dep p.1
  have := g.dep p.2.1
  have := f.dep p.2.2
  show max (a p.1).depth (max (b p.2.1).depth (max (c p.2.2).depth 0)) + 1 ≤ _
  omega, fun p q => by
  show (PyData.eqv (a p.1) (a q.1) && (PyData.eqv (b p.2.1) (b q.2.1) && (PyData.eqv (c p.2.2) (c q.2.2) && true))) = true ↔ _
  rw [Bool.and_true, Bool.and_eq_true, Bool.and_eq_true, h.eqv, g.eqv, f.eqv, Prod.ext_iff, Prod.ext_iff]⟩

/-! ### values -/
variable {F F' : Sl} {w u : Wv} {e : α → D} {xs ys : List α} {i j : Int}
theorem pv_cst (d : D) : cst d F = some (.ok (.val d) F) := rfl
theorem pv_nm {n : Nat} {b : Bool} {d : D} (h : F[n]? = some (.val b d)) : nm n F = some (.ok (.val d) F) := by unfold nm; rw [h]
theorem pv_bor {n : Nat} {b : Bool} {c : Con} (h : F[n]? = some (.own b c)) : nm n F = some (.ok (.bor n) F) := by unfold nm; rw [h]
theorem pv_rol {n : Nat} {xs : List D} (h : F[n]? = some (.rol xs)) : nm n F = some (.ok (.rol xs) F) := by unfold nm; rw [h]
/-! ### numbers -/
@[irreducible] def mulR (i j : Int) : Ro Int := guR (cMul i j) (i * j)
@[irreducible] def divR (i j : Int) : Ro Int := guR (cDiv i j) (i / j)
@[irreducible] def modR (i j : Int) : Ro Int := guR (cMod i j) (i % j)
@[irreducible] def powR (i j : Int) : Ro Int := guR (cPow i j) (i ^ j.toNat)
@[irreducible] def shlR (i j : Int) : Ro Int := guR (cPow i j) (i * 2 ^ j.toNat)
@[irreducible] def shrR (i j : Int) : Ro Int := guR (cShr i j) (i / 2 ^ j.toNat)
theorem cMul_l (h : -18446744073709551616 < i ∧ i < 18446744073709551616) : cMul i j = true := by
  unfold cMul; rw [Bool.or_eq_true]; exact .inl (decide_eq_true (by omega))
theorem cMul_r (h : -18446744073709551616 < j ∧ j < 18446744073709551616) : cMul i j = true := by
  unfold cMul; rw [Bool.or_eq_true]; exact .inr (decide_eq_true (by omega))
theorem mulR_l (h : -18446744073709551616 < i ∧ i < 18446744073709551616) : mulR i j = .ok (i * j) := by unfold mulR; exact if_pos (cMul_l h)
theorem mulR_r (h : -18446744073709551616 < j ∧ j < 18446744073709551616) : mulR i j = .ok (i * j) := by unfold mulR; exact if_pos (cMul_r h)
theorem divR_ok (h : 0 < j ∧ j < 1073741824) : divR i j = .ok (i / j) := by unfold divR; exact if_pos (decide_eq_true h)
theorem modR_ok (h : 0 < j) : modR i j = .ok (i % j) := by unfold modR; exact if_pos (decide_eq_true h)
theorem shlR_ok (h : 0 ≤ j ∧ j ≤ 1000000 ∧ i.natAbs < 18446744073709551616) : shlR i j = .ok (i * 2 ^ j.toNat) := by unfold shlR; exact if_pos (decide_eq_true (by omega))
theorem powR_ok (h : 0 ≤ j ∧ j ≤ 1000000 ∧ i.natAbs < 18446744073709551616) : powR i j = .ok (i ^ j.toNat) := by unfold powR; exact if_pos (decide_eq_true (by omega))
theorem shrR_ok (h : 0 ≤ j) : shrR i j = .ok (i / 2 ^ j.toNat) := by unfold shrR; exact if_pos (decide_eq_true h)
theorem iop_ok {C : Int → Int → Bool} {g : Int → Int → D} (h : C i j = true) : iop C g (.val (.int i)) (.val (.int j)) F = some (.ok (.val (g i j)) F) := by
  unfold iop intV peek; exact if_pos h
theorem o_mul (h : cMul i j = true) : mulW (.val (.int i)) (.val (.int j)) F = some (.ok (.val (.int (i * j))) F) := iop_ok (g := fun i j => .int (i * j)) h
theorem o_div (h : cDiv i j = true) : iDiv (.val (.int i)) (.val (.int j)) F = some (.ok (.val (.int (i / j))) F) := iop_ok h
theorem o_mod (h : cMod i j = true) : iMod (.val (.int i)) (.val (.int j)) F = some (.ok (.val (.int (i % j))) F) := iop_ok h
theorem o_pow (h : cPow i j = true) : iPow (.val (.int i)) (.val (.int j)) F = some (.ok (.val (.int (i ^ j.toNat))) F) := iop_ok h
theorem o_shl (h : cPow i j = true) : iShl (.val (.int i)) (.val (.int j)) F = some (.ok (.val (.int (i * 2 ^ j.toNat))) F) := iop_ok h
theorem o_shr (h : cShr i j = true) : iShr (.val (.int i)) (.val (.int j)) F = some (.ok (.val (.int (i / 2 ^ j.toNat))) F) := iop_ok h
theorem o_imul (h : cMul i j = true) : iMul (.val (.int i)) (.val (.int j)) F = some (.ok (.val (.int (i * j))) F) := iop_ok h
theorem g_mul : EvR X (mulW (.val (.int i)) (.val (.int j)) F) (mulR i j) (fun a => .val (.int a)) (fun _ => F) := by unfold mulR; exact ev_gu o_mul
theorem g_imul : EvR X (iMul (.val (.int i)) (.val (.int j)) F) (mulR i j) (fun a => .val (.int a)) (fun _ => F) := by unfold mulR; exact ev_gu o_imul
theorem g_div : EvR X (iDiv (.val (.int i)) (.val (.int j)) F) (divR i j) (fun a => .val (.int a)) (fun _ => F) := by unfold divR; exact ev_gu o_div
theorem g_mod : EvR X (iMod (.val (.int i)) (.val (.int j)) F) (modR i j) (fun a => .val (.int a)) (fun _ => F) := by unfold modR; exact ev_gu o_mod
theorem g_pow : EvR X (iPow (.val (.int i)) (.val (.int j)) F) (powR i j) (fun a => .val (.int a)) (fun _ => F) := by unfold powR; exact ev_gu o_pow
theorem g_shl : EvR X (iShl (.val (.int i)) (.val (.int j)) F) (shlR i j) (fun a => .val (.int a)) (fun _ => F) := by unfold shlR; exact ev_gu o_shl
theorem g_shr : EvR X (iShr (.val (.int i)) (.val (.int j)) F) (shrR i j) (fun a => .val (.int a)) (fun _ => F) := by unfold shrR; exact ev_gu o_shr
theorem o_max2 : maxW [.val (.int i), .val (.int j)] F = some (.ok (.val (.int (max i j))) F) := by
  show some (Rs.ok (Wv.val (.int (if j > i then j else i))) F) = _
  rw [show (if j > i then j else i) = max i j by split <;> omega]
theorem o_min2 : minW [.val (.int i), .val (.int j)] F = some (.ok (.val (.int (min i j))) F) := by
  show some (Rs.ok (Wv.val (.int (if j < i then j else i))) F) = _
  rw [show (if j < i then j else i) = min i j by split <;> omega]
/-! ### equality, membership -/
section
variable {k : Nat} {a b : α}
theorem dep_ok (he : Ek k e) (hk : k ≤ 60) : dep60 (e a) = true := decide_eq_true (Nat.le_trans (he.dep a) hk)
theorem o_eq [DecidableEq α] (he : Ek k e) (h1 : datV F w = some (e a)) (h2 : datV F u = some (e b)) (hk : k ≤ 60 := by decide) : eqD false w u F = some (.ok (.val (.bool (decide (a = b)))) F) := by
  unfold eqD; rw [h1, h2]; dsimp only; rw [if_pos (dep_ok he hk), he.eq]; rfl
theorem o_ne [DecidableEq α] (he : Ek k e) (h1 : datV F w = some (e a)) (h2 : datV F u = some (e b)) (hk : k ≤ 60 := by decide) : eqD true w u F = some (.ok (.val (.bool (!decide (a = b)))) F) := by
  unfold eqD; rw [h1, h2]; dsimp only; rw [if_pos (dep_ok he hk), he.eq]; rfl
theorem any_in [DecidableEq α] (he : Ek k e) : ((xs.map e).any fun z => PyData.eqv z (e a)) = decide (a ∈ xs) := by
  induction xs with
  | nil => simp
  | cons x xs ih =>
    rw [List.map_cons, List.any_cons, ih, he.eq, Bool.eq_iff_iff, Bool.or_eq_true, decide_eq_true_iff, decide_eq_true_iff, decide_eq_true_iff, List.mem_cons]
    constructor <;> rintro (h | h) <;> simp [h]
theorem o_in [DecidableEq α] (he : Ek k e) (h1 : datV F w = some (e a)) (h2 : seqV F u = some (xs.map e)) (hk : k ≤ 60 := by decide) : inD false w u F = some (.ok (.val (.bool (decide (a ∈ xs)))) F) := by
  unfold inD; rw [h1, h2]; dsimp only; rw [if_pos (dep_ok he hk), any_in he]; rfl
theorem o_nin [DecidableEq α] (he : Ek k e) (h1 : datV F w = some (e a)) (h2 : seqV F u = some (xs.map e)) (hk : k ≤ 60 := by decide) : inD true w u F = some (.ok (.val (.bool (!decide (a ∈ xs)))) F) := by
  unfold inD; rw [h1, h2]; dsimp only; rw [if_pos (dep_ok he hk), any_in he]; rfl
end
/-- equality of any data -/
@[irreducible] def eqR (d c : D) : Ro Bool := guR (dep60 d) (PyData.eqv d c)
theorem g_eq {d c : D} (h1 : datV F w = some d) (h2 : datV F u = some c) : EvR X (eqD false w u F) (eqR d c) (fun b => .val (.bool b)) (fun _ => F) := by
  unfold eqR
  refine ev_gu fun h => ?_
  unfold eqD; rw [h1, h2]; dsimp only; rw [if_pos h]; rfl
theorem g_ne {d c : D} (h1 : datV F w = some d) (h2 : datV F u = some c) : EvR X (eqD true w u F) ((eqR d c).bind fun b => .ok (!b)) (fun b => .val (.bool b)) (fun _ => F) := by
  unfold eqR guR
  split
  · rename_i h
    show eqD true w u F = _
    unfold eqD; rw [h1, h2]; dsimp only; rw [if_pos h]; rfl
  · trivial
/-! ### sequences -/
theorem o_len (h : seqV F w = some (xs.map e)) : lenW [w] F = some (.ok (.val (.int xs.length)) F) := by
  unfold lenW; dsimp only; rw [h]; dsimp only; rw [List.length_map]
theorem tru_seq {t : List D} (h : (peek F w = some (.c (.lst (xs.map e))) ∨ peek F w = some (.d (.list (xs.map e)))) ∨ peek F w = some (.d (.tuple (xs.map e)))) : truV F w = some (!xs.isEmpty) := by
  have q : (xs.map e).isEmpty = xs.isEmpty := by cases xs <;> rfl
  unfold truV
  rcases h with (h | h) | h <;> (rw [h]; simp only [truD, q])
theorem tru_new : truV F (.new (.lst (xs.map e))) = some (!xs.isEmpty) := tru_seq (t := []) (.inl (.inl rfl))
theorem tru_lst : truV F (.val (.list (xs.map e))) = some (!xs.isEmpty) := tru_seq (t := []) (.inl (.inr rfl))
theorem tru_tup : truV F (.val (.tuple (xs.map e))) = some (!xs.isEmpty) := tru_seq (t := []) (.inr rfl)
theorem tru_bor {n : Nat} {b : Bool} (h : F[n]? = some (.own b (.lst (xs.map e)))) : truV F (.bor n) = some (!xs.isEmpty) := tru_seq (t := []) (.inl (.inl (by unfold peek; dsimp only; rw [h])))
theorem atI_map (i : Int) : L2.atI (xs.map e) i = (L2.atI xs i).map e := by
  unfold L2.atI
  rw [List.length_map]
  cases L2.ixN xs.length i with
  | none => rfl
  | some n => exact List.getElem?_map
@[irreducible] def ixR (xs : List α) (i : Int) : Ro α := match L2.atI xs i with
  | some a => .ok a
  | none => .bad
theorem g_ix (h : seqV F w = some (xs.map e)) : EvR X (ixW w (.val (.int i)) F) (ixR xs i) (fun a => .val (e a)) (fun _ => F) := by
  unfold ixR
  cases q : L2.atI xs i with
  | none => trivial
  | some a =>
    show ixW w (.val (.int i)) F = _
    unfold ixW intV peek
    rw [h]
    dsimp only
    rw [atI_map, q]
    rfl
theorem ixR_ok {n : Nat} {a : α} (h : xs[n]? = some a) : ixR xs (n : Int) = .ok a := by
  unfold ixR; rw [atI_nat h]
def cutL (xs : List α) (lo hi : Option Int) : List α := (xs.drop (HT.sIx xs.length 0 lo)).take (HT.sIx xs.length xs.length hi - HT.sIx xs.length 0 lo)
theorem cut_map (lo hi : Option Int) : cutD (xs.map e) lo hi = (cutL xs lo hi).map e := by
  unfold cutD cutL
  rw [List.length_map, ← List.map_drop, ← List.map_take]
section
variable {f : M Wv} {lo hi : Pt} {l h : Option Int}
theorem pt_no : ptM .no F = some (.ok none F) := rfl
theorem pt_at {g : M Wv} (h : g F = some (.ok (.val (.int i)) F')) : ptM (.at g) F = some (.ok (some i) F') := by
  unfold ptM; dsimp only; rw [bnd_ok h]; rfl
theorem pv_slT (hf : f F = some (.ok w F)) (hw : tupV F w = some (xs.map e)) (hl : ptM lo F = some (.ok l F)) (hh : ptM hi F = some (.ok h F)) : slM f lo hi F = some (.ok (.val (.tuple ((cutL xs l h).map e))) F) := by
  unfold slM; rw [bnd_ok hf, bnd_ok hl, bnd_ok hh]; unfold slW; rw [hw]; dsimp only; rw [cut_map]
theorem pv_slL (hf : f F = some (.ok w F)) (hn : tupV F w = none) (hw : lstV F w = some (xs.map e)) (hl : ptM lo F = some (.ok l F)) (hh : ptM hi F = some (.ok h F)) : slM f lo hi F = some (.ok (.new (.lst ((cutL xs l h).map e))) F) := by
  unfold slM; rw [bnd_ok hf, bnd_ok hl, bnd_ok hh]; unfold slW; rw [hn]; dsimp only; rw [hw]; dsimp only; rw [cut_map]
end
theorem o_sum {ns : List Int} (h : seqV F w = some (ns.map eI)) : sumW [w] F = some (.ok (.val (.int ns.sum)) F) := by
  unfold sumW; dsimp only; rw [h]; dsimp only; rw [intsOf_map]
@[irreducible] def maxR : List Int → Ro Int
  | [] => .bad
  | n :: ns => .ok (ns.foldl max n)
@[irreducible] def minR : List Int → Ro Int
  | [] => .bad
  | n :: ns => .ok (ns.foldl min n)
theorem g_max {ns : List Int} (h : seqV F w = some (ns.map eI)) : EvR X (maxW [w] F) (maxR ns) (fun a => .val (.int a)) (fun _ => F) := by
  cases ns with
  | nil => rw [show maxR [] = .bad by unfold maxR; rfl]; trivial
  | cons n ns => unfold maxR; exact maxW_ints h
theorem g_min {ns : List Int} (h : seqV F w = some (ns.map eI)) : EvR X (minW [w] F) (minR ns) (fun a => .val (.int a)) (fun _ => F) := by
  cases ns with
  | nil => rw [show minR [] = .bad by unfold minR; rfl]; trivial
  | cons n ns => unfold minR; exact minW_ints h
theorem o_all {bs : List Bool} (h : lstV F w = some (bs.map eB)) : allW true [w] F = some (.ok (.val (.bool (bs.all id))) F) := by
  unfold allW; dsimp only; rw [h]; dsimp only; rw [boolsOf_map]; rfl
theorem o_any {bs : List Bool} (h : lstV F w = some (bs.map eB)) : allW false [w] F = some (.ok (.val (.bool (bs.any id))) F) := by
  unfold allW; dsimp only; rw [h]; dsimp only; rw [boolsOf_map]; rfl
@[irreducible] def reprR (d : D) : Ro Str := guR (reprC d) d.shown
theorem g_repr {d : D} (h : datV F w = some d) : EvR X (reprW [w] F) (reprR d) (fun a => .val (.str a)) (fun _ => F) := by
  unfold reprR
  refine ev_gu fun c => ?_
  unfold reprW; dsimp only; rw [h]; dsimp only; rw [if_pos c]
/-! ### joining -/
@[irreducible] def szR (n : Nat) (a : α) : Ro α := guR (szOk n) a
theorem szR_ok {n : Nat} {a : α} (h : n ≤ 16777216) : szR n a = .ok a := by unfold szR; exact if_pos (decide_eq_true h)
@[irreducible] def catR (xs ys : List α) : Ro (List α) := guR (szOk (xs.length + ys.length)) (xs ++ ys)
theorem catR_ok (h : xs.length + ys.length ≤ 16777216) : catR xs ys = .ok (xs ++ ys) := by unfold catR; exact if_pos (decide_eq_true h)
theorem g_catT (h1 : peek F w = some (.d (.tuple (xs.map e)))) (h2 : peek F u = some (.d (.tuple (ys.map e)))) : EvR X (addW w u F) (catR xs ys) (fun a => .val (.tuple (a.map e))) (fun _ => F) := by
  unfold catR
  refine ev_gu fun c => ?_
  unfold addW intV tupV
  rw [h1, h2]
  dsimp only
  rw [List.length_map, List.length_map, if_pos c, List.map_append]
theorem g_catL (h1 : conL F w = some (xs.map e)) (h2 : conL F u = some (ys.map e)) (n1 : intV F w = none) (n2 : tupV F w = none) : EvR X (addW w u F) (catR xs ys) (fun a => .new (.lst (a.map e))) (fun _ => F) := by
  unfold catR
  refine ev_gu fun c => ?_
  unfold addW
  rw [n1, n2, h1, h2]
  dsimp only
  rw [List.length_map, List.length_map, if_pos c, List.map_append]
@[irreducible] def repR (xs : List α) (k : Int) : Ro (List α) := guR (decide (-(2 ^ 63) ≤ k ∧ k < 2 ^ 63) && szOk (xs.length * k.toNat)) (List.replicate k.toNat xs).flatten
theorem rep_map (k : Nat) : (List.replicate k (xs.map e)).flatten = ((List.replicate k xs).flatten).map e := by
  rw [List.map_flatten, List.map_replicate]
theorem g_repL {k : Int} (h1 : conL F w = some (xs.map e)) (n1 : intV F w = none) : EvR X (mulW w (.val (.int k)) F) (repR xs k) (fun a => .new (.lst (a.map e))) (fun _ => F) := by
  unfold repR
  refine ev_gu fun c => ?_
  obtain ⟨c1, c2⟩ := (Bool.and_eq_true _ _).mp c
  unfold mulW
  rw [n1]
  unfold lMul intV peek
  rw [h1]
  dsimp only
  rw [List.length_map, if_pos ⟨c1, c2⟩, rep_map]
@[irreducible] def trepR (xs : List α) (k : Int) : Ro (List α) := guR (!xs.isEmpty && decide (2 ≤ k) && decide (k ≤ 1000000) && decide (xs.length * k.toNat ≤ 1000000)) (List.replicate k.toNat xs).flatten
theorem g_trep {k : Int} (h1 : tupV F w = some (xs.map e)) : EvR X (mulX w (.val (.int k)) F) (trepR xs k) (fun a => .val (.tuple (a.map e))) (fun _ => F) := by
  unfold trepR
  refine ev_gu fun c => ?_
  have q : (xs.map e).isEmpty = xs.isEmpty := by cases xs <;> rfl
  unfold mulX
  rw [h1]
  dsimp only
  unfold tMul intV peek
  rw [h1]
  dsimp only
  rw [q, List.length_map, if_pos c, rep_map]
/-! ### what walks -/
def rngL (lo : Int) (n : Nat) : List Int := (List.range n).map fun (i : Nat) => lo + (i : Int)
theorem rng_map (lo : Int) (n : Nat) : rngD lo n = (rngL lo n).map eI := by
  unfold rngD rngL; rw [List.map_map]; rfl
@[irreducible] def rng1R (j : Int) : Ro (List Int) := guR (decide (-4611686018427387904 ≤ j ∧ j < 4611686018427387904)) (rngL 0 j.toNat)
@[irreducible] def rng2R (i j : Int) : Ro (List Int) := guR (decide ((-4611686018427387904 ≤ i ∧ i < 4611686018427387904) ∧ -4611686018427387904 ≤ j ∧ j < 4611686018427387904)) (rngL i (j - i).toNat)
theorem rng1R_ok (h : -4611686018427387904 ≤ j ∧ j < 4611686018427387904) : rng1R j = .ok (rngL 0 j.toNat) := by unfold rng1R; exact if_pos (decide_eq_true h)
theorem rng2R_ok (h : (-4611686018427387904 ≤ i ∧ i < 4611686018427387904) ∧ -4611686018427387904 ≤ j ∧ j < 4611686018427387904) : rng2R i j = .ok (rngL i (j - i).toNat) := by unfold rng2R; exact if_pos (decide_eq_true h)
theorem g_rng1 : EvR X (rng1W [.val (.int j)] F) (rng1R j) (fun xs => xs.map eI) (fun _ => F) := by
  unfold rng1R
  refine ev_gu fun h => ?_
  rw [rng1_ok (of_decide_eq_true h), rng_map]
theorem g_rng2 : EvR X (rng2W [.val (.int i), .val (.int j)] F) (rng2R i j) (fun xs => xs.map eI) (fun _ => F) := by
  unfold rng2R
  refine ev_gu fun h => ?_
  obtain ⟨h1, h2⟩ := of_decide_eq_true h
  rw [rng2_ok h1 h2, rng_map]
theorem o_rng1 (h : -4611686018427387904 ≤ j ∧ j < 4611686018427387904) : rng1W [.val (.int j)] F = some (.ok ((rngL 0 j.toNat).map eI) F) := by rw [rng1_ok h, rng_map]
@[irreducible] def lrgR (n : Int) : Ro (List Int) := guR (decide (-16777216 ≤ n ∧ n ≤ 16777216)) (rngL 0 n.toNat)
theorem g_lrg1 {n : Int} : EvR X (lrg1 (.val (.int n)) F) (lrgR n) (fun xs => .new (.lst (xs.map eI))) (fun _ => F) := by
  unfold lrgR
  refine ev_gu fun h => ?_
  unfold lrg1 intV peek
  dsimp only
  rw [if_pos h, rng_map]
/-- with their places -/
def enL : Nat → List α → List (Int × α)
  | _, [] => []
  | n, x :: xs => ((n : Int), x) :: enL (n + 1) xs
theorem en_map : ∀ (xs : List α) (n : Nat), zpD n (xs.map e) = (enL n xs).map (e2 eI e)
  | [], _ => rfl
  | x :: xs, n => by
    show .tuple [.int (n : Int), e x] :: zpD (n + 1) (xs.map e) = _
    rw [en_map xs (n + 1)]; rfl
theorem zip_map {e' : β → D} : ∀ (xs : List α) (ys : List β), List.zipWith pairD (xs.map e) (ys.map e') = (xs.zip ys).map (e2 e e')
  | [], _ => rfl
  | _ :: _, [] => rfl
  | x :: xs, y :: ys => by
    show pairD (e x) (e' y) :: List.zipWith pairD (xs.map e) (ys.map e') = _
    rw [zip_map xs ys]; rfl
theorem o_en (h : itW w F = some (.ok (xs.map e) F')) : enW [w] F = some (.ok ((enL 0 xs).map (e2 eI e)) F') := by
  show bnd (itW w) (fun ds => ret (zpD 0 ds)) F = _
  rw [bnd_ok h, ← en_map]; rfl
theorem o_ziT {e' : β → D} {zs : List β} {ws : List Wv} (h : frzAll ws F = some (.ok [.tuple (xs.map e), .tuple (zs.map e')] F')) : ziW ws F = some (.ok ((xs.zip zs).map (e2 e e')) F') := by
  unfold ziW; rw [bnd_ok h, ← zip_map]; rfl
theorem o_ziL {e' : β → D} {zs : List β} {ws : List Wv} (h : frzAll ws F = some (.ok [.list (xs.map e), .list (zs.map e')] F')) : ziW ws F = some (.ok ((xs.zip zs).map (e2 e e')) F') := by
  unfold ziW; rw [bnd_ok h, ← zip_map]; rfl
end
end DT
/-! T: statements, comprehensions, calls -/
namespace DT
open PySem
section
variable {α β γ δ σ τ : Type} {X : Sl → Prop}
variable {F F1 F2 F3 : Sl} {w u : Wv} {e : α → D} {xs ys : List α} {i : Nat} {f fa fb : M Wv} {g : M (List Wv)} {p : Ro α} {G G' G1 : α → Sl} {wf : α → Wv}
theorem es_asg (h : EvR X (f F) p wf G) (k : ∀ a, setW i (wf a) (G a) = some (G' a)) : EvR X (asg i f F) p (fun _ => SO.nx) G' := by
  cases p with
  | bad => trivial
  | ok a => exact asg_ok h (k a)
  | ex x => obtain ⟨s, e, hx⟩ := h; exact ⟨s, bnd_ex e, hx⟩
theorem ps_asgP {is : List Nat} {ws : List Wv} {ds : List D} (h : g F = some (.ok ws F1)) (k : frzAll ws F1 = some (.ok ds F2)) (s : setDs is ds F2 = some F3) : asgP is g F = some (.ok .nx F3) := by
  unfold asgP; rw [bnd_ok h, bnd_ok k]; simp only [s]
theorem es_asgP {is : List Nat} {ws : α → List Wv} {ds : α → List D} (h : EvR X (g F) p ws G) (k : ∀ a, frzAll (ws a) (G a) = some (.ok (ds a) (G1 a))) (s : ∀ a, setDs is (ds a) (G1 a) = some (G' a)) : EvR X (asgP is g F) p (fun _ => SO.nx) G' := by
  cases p with
  | bad => trivial
  | ok a => exact ps_asgP h (k a) (s a)
  | ex x => obtain ⟨s, e, hx⟩ := h; exact ⟨s, bnd_ex e, hx⟩
theorem ps_asgD {t : D → Sl → Option Sl} {d : D} (h : f F = some (.ok w F1)) (k : frzW w F1 = some (.ok d F2)) (s : t d F2 = some F3) : asgD t f F = some (.ok .nx F3) := by
  unfold asgD; rw [bnd_ok h, bnd_ok k]; simp only [s]
theorem es_asgD {t : D → Sl → Option Sl} {d : α → D} (h : EvR X (f F) p wf G) (k : ∀ a, frzW (wf a) (G a) = some (.ok (d a) (G1 a))) (s : ∀ a, t (d a) (G1 a) = some (G' a)) : EvR X (asgD t f F) p (fun _ => SO.nx) G' := by
  cases p with
  | bad => trivial
  | ok a => exact ps_asgD h (k a) (s a)
  | ex x => obtain ⟨s, e, hx⟩ := h; exact ⟨s, bnd_ex e, hx⟩
theorem ps_ex (h : f F = some (.ok w F1)) : sEx f F = some (.ok .nx F1) := sEx_ok h
theorem es_ex (h : EvR X (f F) p wf G) : EvR X (sEx f F) p (fun _ => SO.nx) G := by
  cases p with
  | bad => trivial
  | ok a => exact sEx_ok h
  | ex x => obtain ⟨s, e, hx⟩ := h; exact ⟨s, bnd_ex e, hx⟩
theorem ps_aug {d : D} {op : Wv → Wv → M Wv} (h0 : F[i]? = some (.val false d)) (h : f F = some (.ok u F1)) (ho : op (.val d) u F1 = some (.ok w F2)) (s : setW i w F2 = some F3) : augN i f op F = some (.ok .nx F3) := by
  unfold augN; rw [h0]; dsimp only; rw [bnd_ok h, bnd_ok ho]; simp only [s]
theorem es_augP {d : D} {op : Wv → Wv → M Wv} (h0 : F[i]? = some (.val false d)) (h : f F = some (.ok u F1)) (ho : EvR X (op (.val d) u F1) p wf G) (s : ∀ a, setW i (wf a) (G a) = some (G' a)) : EvR X (augN i f op F) p (fun _ => SO.nx) G' := by
  unfold augN; rw [h0]; dsimp only
  refine ev_P h ?_
  cases p with
  | bad => trivial
  | ok a => rw [bnd_ok (show op (.val d) u F1 = _ from ho)]; simp only [s a]; rfl
  | ex x => obtain ⟨s, e, hx⟩ := ho; exact ⟨s, bnd_ex e, hx⟩
theorem es_augE {d : D} {op : Wv → Wv → M Wv} {q : Ro β} {wb : β → Wv} {Gb : β → Sl} {pb : β → Ro α} (h0 : F[i]? = some (.val false d)) (h : EvR X (f F) q wb Gb) (ho : ∀ b, EvR X (op (.val d) (wb b) (Gb b)) (pb b) wf G) (s : ∀ a, setW i (wf a) (G a) = some (G' a)) : EvR X (augN i f op F) (q.bind pb) (fun _ => SO.nx) G' := by
  unfold augN; rw [h0]; dsimp only
  refine ev_E h fun b => ?_
  have ho := ho b
  cases e : pb b with
  | bad => trivial
  | ok a => rw [e] at ho; rw [bnd_ok (show op (.val d) (wb b) (Gb b) = _ from ho)]; simp only [s a]; rfl
  | ex x => rw [e] at ho; obtain ⟨s, e, hx⟩ := ho; exact ⟨s, bnd_ex e, hx⟩
/-! ### methods of lists -/
theorem mth_ok {b : Bool} {c c' : Con} {P : Con → Bool} {op : MOp} {ws : List Wv} {ds : List D} {d : D} (h0 : F[i]? = some (.own b c)) (hP : P c = true) (h : g F = some (.ok ws F1)) (k : frzAll ws F1 = some (.ok ds F2)) (h2 : F2[i]? = some (.own b c)) (ho : op ds c = some (c', d)) : mthP P i g op F = some (.ok (.val d) (F2.set i (.own b c'))) := by
  unfold mthP; rw [h0]; dsimp only; rw [if_pos hP]; unfold mth; rw [h0]; dsimp only; rw [bnd_ok h, bnd_ok k]; simp only [h2, ho]
@[irreducible] def appR (xs : List α) (x : α) : Ro (List α) := guR (decide (xs.length < 16777216)) (xs ++ [x])
theorem appR_ok {x : α} (h : xs.length < 16777216) : appR xs x = .ok (xs ++ [x]) := by unfold appR; exact if_pos (decide_eq_true h)
theorem ev_app {b : Bool} {x : α} {H : List α → Sl} (h0 : F[i]? = some (.own b (.lst (xs.map e)))) (h : f F = some (.ok w F1)) (k : frzAll [w] F1 = some (.ok [e x] F2)) (h2 : F2[i]? = some (.own b (.lst (xs.map e)))) (hH : ∀ zs, F2.set i (.own b (.lst (zs.map e))) = H zs) :
    EvR X (mthP isLst i (acons f anil) oAppend F) (appR xs x) (fun _ => .val .none) H := by
  unfold appR
  refine ev_gu fun c => ?_
  rw [mth_ok (d := .none) (c' := .lst ((xs ++ [x]).map e)) h0 rfl (acons_ok h rfl) k h2 (by
    unfold oAppend; dsimp only; rw [List.length_map, if_pos c, List.map_append]; rfl), hH]
theorem ev_ext {b : Bool} {H : List α → Sl} (h0 : F[i]? = some (.own b (.lst (xs.map e)))) (h : f F = some (.ok w F1)) (k : frzAll [w] F1 = some (.ok [.list (ys.map e)] F2)) (h2 : F2[i]? = some (.own b (.lst (xs.map e)))) (hH : ∀ zs, F2.set i (.own b (.lst (zs.map e))) = H zs) :
    EvR X (mthP isLst i (acons f anil) oExtend F) (catR xs ys) (fun _ => .val .none) H := by
  unfold catR
  refine ev_gu fun c => ?_
  rw [mth_ok (d := .none) (c' := .lst ((xs ++ ys).map e)) h0 rfl (acons_ok h rfl) k h2 (by
    unfold oExtend; dsimp only; rw [List.length_map, List.length_map, if_pos c, List.map_append]), hH]
/-- the last one, and the others -/
@[irreducible] def popR (xs : List α) : Ro (α × List α) := match xs[xs.length - 1]? with
  | some x => .ok (x, xs.dropLast)
  | none => .bad
theorem ev_pop {b : Bool} {H : List α → Sl} (h0 : F[i]? = some (.own b (.lst (xs.map e)))) (hH : ∀ zs, F.set i (.own b (.lst (zs.map e))) = H zs) :
    EvR X (mthP isLst i anil oPop F) (popR xs) (fun z => .val (e z.1)) (fun z => H z.2) := by
  unfold popR
  cases q : xs[xs.length - 1]? with
  | none => trivial
  | some x =>
    show mthP isLst i anil oPop F = _
    rw [mth_ok (d := e x) (c' := .lst (xs.dropLast.map e)) h0 rfl rfl rfl h0 (by
      unfold oPop; dsimp only; rw [List.length_map, List.getElem?_map, q]; simp [List.map_dropLast]), hH]
theorem ps_rev {b : Bool} {H : Sl} (h0 : F[i]? = some (.own b (.lst (xs.map e)))) (hH : F.set i (.own b (.lst (xs.reverse.map e))) = H) : mthP isLst i anil oReverse F = some (.ok (.val .none) H) := by
  rw [mth_ok (d := .none) (c' := .lst (xs.reverse.map e)) h0 rfl rfl rfl h0 (by unfold oReverse; simp [List.map_reverse]), hH]
theorem ixN_len {n m : Nat} (h : n = m) (k : Int) : L2.ixN n k = L2.ixN m k := by rw [h]
/-- an item is set -/
@[irreducible] def setR (xs : List α) (k : Int) (x : α) : Ro (List α) := match L2.ixN xs.length k with
  | some j => .ok (xs.set j x)
  | none => .bad
theorem ev_setIx {b : Bool} {x : α} {k : Int} {fv fi : M Wv} {H : List α → Sl} (hv : fv F = some (.ok w F1)) (hf : frzW w F1 = some (.ok (e x) F2)) (h0 : F2[i]? = some (.own b (.lst (xs.map e)))) (hi : fi F2 = some (.ok (.val (.int k)) F2)) (hH : ∀ zs, F2.set i (.own b (.lst (zs.map e))) = H zs) :
    EvR X (setIx i fv fi F) (setR xs k x) (fun _ => SO.nx) H := by
  unfold setR
  cases q : L2.ixN xs.length k with
  | none => trivial
  | some j =>
    show setIx i fv fi F = _
    unfold setIx
    rw [bnd_ok hv, bnd_ok hf]
    simp only [h0]
    rw [bnd_ok hi]
    unfold intV peek
    simp only [h0, List.length_map, q]
    rw [← List.map_set, hH]
/-! ### comprehensions -/
def lcK (vs : List Nat) (g : D → Sl → Option Sl) (ft : M Bool) (fe : M Wv) (items : List D) : M Wv := fun ss =>
  if (decide (items.length ≤ sizeLine) && okV vs ss) = true then match lcL vs g ft fe items [] (wipS vs ss) with
    | some (.ok acc s) => some (.ok (.new (.lst acc)) (resS vs ss s))
    | _ => none
  else none
theorem lcM_eq (vs : List Nat) (fi : M (List D)) (g : D → Sl → Option Sl) (ft : M Bool) (fe : M Wv) : lcM vs fi g ft fe = bnd fi (lcK vs g ft fe) := rfl
theorem lcK_ok {vs : List Nat} {g : D → Sl → Option Sl} {ft : M Bool} {fe : M Wv} {items acc : List D} {s Fw : Sl} (hl : szOk items.length = true) (hv : okV vs F = true) (hw : wipS vs F = Fw) (h : lcL vs g ft fe items [] Fw = some (.ok acc s)) : lcK vs g ft fe items F = some (.ok (.new (.lst acc)) (resS vs F s)) := by
  unfold lcK
  rw [if_pos (by rw [Bool.and_eq_true]; exact ⟨decide_eq_true (szOk_le hl), hv⟩), hw, h]
theorem lcL_pure {vs : List Nat} {g : D → Sl → Option Sl} {ft : M Bool} {fe : M Wv} {Fw : Sl} {T : α → Sl} {c : α → Bool} {v : α → β} {e' : β → D} (hg : ∀ x, g (e x) Fw = some (T x)) (hc : ∀ x, ft (T x) = some (.ok (c x) (T x))) (he : ∀ x, bnd fe frzW (T x) = some (.ok (e' (v x)) (T x))) (hT : ∀ x, wipS vs (T x) = Fw) :
    ∀ (xs : List α) (acc : List D), lcL vs g ft fe (xs.map e) acc Fw = some (.ok (acc ++ ((xs.filter c).map v).map e') Fw)
  | [], acc => by simp [lcL, ret]
  | x :: xs, acc => by
    show lcL vs g ft fe (e x :: xs.map e) acc Fw = _
    unfold lcL
    rw [hg x]
    dsimp only
    rw [hc x]
    cases q : c x
    · simp only [hT]
      rw [lcL_pure hg hc he hT xs acc, List.filter_cons, q]
      rfl
    · simp only [he, hT]
      rw [lcL_pure hg hc he hT xs (acc ++ [e' (v x)]), List.filter_cons, q]
      simp
variable {vs : List Nat} {t : D → Sl → Option Sl} {ft : M Bool} {fe : M Wv} {Fw : Sl} {T : α → Sl} {c : α → Bool} {v : α → β} {e' : β → D}
theorem ev_lc (hv : okV vs F = true) (hw : wipS vs F = Fw) (hg : ∀ x, t (e x) Fw = some (T x)) (he : ∀ x, bnd fe frzW (T x) = some (.ok (e' (v x)) (T x))) (hT : ∀ x, wipS vs (T x) = Fw) (hr : resS vs F Fw = F2) :
    EvR X (lcK vs t (ret true) fe (xs.map e) F) (szR xs.length (xs.map v)) (fun zs => .new (.lst (zs.map e'))) (fun _ => F2) := by
  unfold szR
  refine ev_gu fun z => ?_
  have := lcL_pure (vs := vs) (g := t) (ft := ret true) (fe := fe) (Fw := Fw) (T := T) (c := fun _ => true) (v := v) (e := e) (e' := e') hg (fun _ => rfl) he hT xs []
  rw [lcK_ok (by rw [List.length_map]; exact z) hv hw this, hr, List.nil_append, List.filter_eq_self.mpr fun _ _ => rfl]
theorem ev_lcF (hv : okV vs F = true) (hw : wipS vs F = Fw) (hg : ∀ x, t (e x) Fw = some (T x)) (hc : ∀ x, ft (T x) = some (.ok (c x) (T x))) (he : ∀ x, bnd fe frzW (T x) = some (.ok (e' (v x)) (T x))) (hT : ∀ x, wipS vs (T x) = Fw) (hr : resS vs F Fw = F2) :
    EvR X (lcK vs t ft fe (xs.map e) F) (szR xs.length ((xs.filter c).map v)) (fun zs => .new (.lst (zs.map e'))) (fun _ => F2) := by
  unfold szR
  refine ev_gu fun z => ?_
  have := lcL_pure (vs := vs) (g := t) (ft := ft) (fe := fe) (Fw := Fw) (T := T) (c := c) (v := v) (e := e) (e' := e') hg hc he hT xs []
  rw [lcK_ok (by rw [List.length_map]; exact z) hv hw this, hr, List.nil_append]
/-- with guards, and what changes from turn to turn -/
def mapS : List α → σ → (α → σ → Ro (β × σ)) → Ro (List β × σ)
  | [], s, _ => .ok ([], s)
  | x :: xs, s, f => (f x s).bind fun z => (mapS xs z.2 f).bind fun r => .ok (z.1 :: r.1, r.2)
def mapR : List α → (α → Ro β) → Ro (List β)
  | [], _ => .ok []
  | x :: xs, f => (f x).bind fun z => (mapR xs f).bind fun r => .ok (z :: r)
def fltR : List α → (α → Ro Bool) → (α → Ro β) → Ro (List β)
  | [], _, _ => .ok []
  | x :: xs, c, f => (c x).bind fun b => if b = true then (f x).bind fun z => (fltR xs c f).bind fun r => .ok (z :: r) else fltR xs c f
/-- no error may leave -/
def Ro.noEx : Ro α → Ro α
  | .ok a => .ok a
  | _ => .bad
@[simp] theorem noEx_ok (a : α) : (Ro.ok a).noEx = .ok a := by rw [Ro.noEx]
theorem lcL_S {vs : List Nat} {g : D → Sl → Option Sl} {fe : M Wv} {Gw : σ → Sl} {T : α → σ → Sl} {f : α → σ → Ro (β × σ)} {T' : α → σ → β × σ → Sl} (hg : ∀ x s, g (e x) (Gw s) = some (T x s)) (he : ∀ x s, EvR (fun _ => True) (bnd fe frzW (T x s)) (f x s) (fun z => e' z.1) (T' x s)) (hT : ∀ x s z, wipS vs (T' x s z) = Gw z.2) :
    ∀ (xs : List α) (s : σ) (acc : List D) (r : List β × σ), mapS xs s f = .ok r → lcL vs g (ret true) fe (xs.map e) acc (Gw s) = some (.ok (acc ++ r.1.map e') (Gw r.2))
  | [], s, acc, r, h => by cases h; simp [lcL, ret]
  | x :: xs, s, acc, r, h => by
    unfold mapS at h
    have he' := he x s
    cases q : f x s with
    | bad => rw [q] at h; cases h
    | ex _ => rw [q] at h; cases h
    | ok z =>
      rw [q] at h he'
      rw [bind_ok] at h
      cases q2 : mapS xs z.2 f with
      | bad => rw [q2] at h; cases h
      | ex _ => rw [q2] at h; cases h
      | ok r2 =>
        rw [q2] at h
        cases h
        show lcL vs g (ret true) fe (e x :: xs.map e) acc (Gw s) = _
        unfold lcL
        rw [hg x s]
        dsimp only [ret]
        rw [show bnd fe frzW (T x s) = some (.ok (e' z.1) (T' x s z)) from he']
        dsimp only
        rw [hT, lcL_S hg he hT xs z.2 _ r2 q2]
        simp
theorem ev_lcS {Gw G2 : σ → Sl} {s0 : σ} {T : α → σ → Sl} {f : α → σ → Ro (β × σ)} {T' : α → σ → β × σ → Sl} (hv : okV vs F = true) (hw : wipS vs F = Gw s0) (hg : ∀ x s, t (e x) (Gw s) = some (T x s)) (he : ∀ x s, EvR (fun _ => True) (bnd fe frzW (T x s)) (f x s) (fun z => e' z.1) (T' x s)) (hT : ∀ x s z, wipS vs (T' x s z) = Gw z.2) (hr : ∀ s, resS vs F (Gw s) = G2 s) :
    EvR X (lcK vs t (ret true) fe (xs.map e) F) ((szR xs.length ()).bind fun _ => (mapS xs s0 f).noEx) (fun z => .new (.lst (z.1.map e'))) (fun z => G2 z.2) := by
  unfold szR guR
  split
  · rename_i z
    rw [bind_ok]
    cases q : mapS xs s0 f with
    | bad => trivial
    | ex _ => trivial
    | ok r =>
      show lcK vs t (ret true) fe (xs.map e) F = _
      rw [lcK_ok (by rw [List.length_map]; exact z) hv hw (lcL_S hg he hT xs s0 [] r q), hr]
      rfl
  · trivial
theorem mapR_S : ∀ (xs : List α) (f : α → Ro β), mapS xs () (fun x _ => (f x).bind fun z => .ok (z, ())) = (mapR xs f).bind fun r => .ok (r, ())
  | [], f => rfl
  | x :: xs, f => by
    unfold mapS mapR
    dsimp only
    cases f x with
    | bad => rfl
    | ex _ => rfl
    | ok z =>
      simp only [bind_ok]
      rw [mapR_S xs f]
      cases mapR xs f <;> rfl
theorem ev_lcR {f : α → Ro β} (hv : okV vs F = true) (hw : wipS vs F = Fw) (hg : ∀ x, t (e x) Fw = some (T x)) (he : ∀ x, EvR (fun _ => True) (bnd fe frzW (T x)) (f x) e' (fun _ => T x)) (hT : ∀ x, wipS vs (T x) = Fw) (hr : resS vs F Fw = F2) :
    EvR X (lcK vs t (ret true) fe (xs.map e) F) ((szR xs.length ()).bind fun _ => (mapR xs f).noEx) (fun z => .new (.lst (z.map e'))) (fun _ => F2) := by
  have := ev_lcS (X := X) (xs := xs) (e := e) (vs := vs) (t := t) (fe := fe) (e' := e') (Gw := fun _ : Unit => Fw) (G2 := fun _ => F2) (s0 := ()) (T := fun x _ => T x) (f := fun x _ => (f x).bind fun z => .ok (z, ())) (T' := fun x _ _ => T x) hv hw (fun x _ => hg x) (fun x _ => by
    have h := he x
    cases q : f x with
    | bad => trivial
    | ok z => rw [q] at h; exact h
    | ex z => rw [q] at h; exact h) (fun x _ _ => hT x) (fun _ => hr)
  rw [mapR_S] at this
  revert this
  unfold szR guR
  split
  · rw [bind_ok, bind_ok]
    cases mapR xs f <;> exact id
  · exact id
theorem lcL_F {Fw : Sl} {T : α → Sl} {c : α → Ro Bool} {f : α → Ro β} (hg : ∀ x, t (e x) Fw = some (T x)) (hc : ∀ x, EvR (fun _ => True) (ft (T x)) (c x) id (fun _ => T x)) (he : ∀ x, EvR (fun _ => True) (bnd fe frzW (T x)) (f x) e' (fun _ => T x)) (hT : ∀ x, wipS vs (T x) = Fw) :
    ∀ (xs : List α) (acc : List D) (r : List β), fltR xs c f = .ok r → lcL vs t ft fe (xs.map e) acc Fw = some (.ok (acc ++ r.map e') Fw)
  | [], acc, r, h => by cases h; simp [lcL, ret]
  | x :: xs, acc, r, h => by
    unfold fltR at h
    have hc' := hc x
    have he' := he x
    show lcL vs t ft fe (e x :: xs.map e) acc Fw = _
    unfold lcL
    rw [hg x]
    dsimp only
    cases q : c x with
    | bad => rw [q] at h; cases h
    | ex _ => rw [q] at h; cases h
    | ok b =>
      rw [q] at h hc'
      rw [bind_ok] at h
      rw [show ft (T x) = some (.ok b (T x)) from hc']
      cases b
      · simp only [hT]
        exact lcL_F hg hc he hT xs acc r h
      · rw [if_pos rfl] at h
        cases q2 : f x with
        | bad => rw [q2] at h; cases h
        | ex _ => rw [q2] at h; cases h
        | ok z =>
          rw [q2] at h he'
          rw [bind_ok] at h
          cases q3 : fltR xs c f with
          | bad => rw [q3] at h; cases h
          | ex _ => rw [q3] at h; cases h
          | ok r2 =>
            rw [q3] at h
            cases h
            simp only [show bnd fe frzW (T x) = some (.ok (e' z) (T x)) from he', hT]
            rw [lcL_F hg hc he hT xs _ r2 q3]
            simp
theorem ev_lcFR {cR : α → Ro Bool} {f : α → Ro β} (hv : okV vs F = true) (hw : wipS vs F = Fw) (hg : ∀ x, t (e x) Fw = some (T x)) (hc : ∀ x, EvR (fun _ => True) (ft (T x)) (cR x) id (fun _ => T x)) (he : ∀ x, EvR (fun _ => True) (bnd fe frzW (T x)) (f x) e' (fun _ => T x)) (hT : ∀ x, wipS vs (T x) = Fw) (hr : resS vs F Fw = F2) :
    EvR X (lcK vs t ft fe (xs.map e) F) ((szR xs.length ()).bind fun _ => (fltR xs cR f).noEx) (fun z => .new (.lst (z.map e'))) (fun _ => F2) := by
  unfold szR guR
  split
  · rename_i z
    rw [bind_ok]
    cases q : fltR xs cR f with
    | bad => trivial
    | ex _ => trivial
    | ok r =>
      show lcK vs t ft fe (xs.map e) F = _
      rw [lcK_ok (by rw [List.length_map]; exact z) hv hw (lcL_F hg hc he hT xs [] r q), hr]
      rfl
  · trivial
/-! ### defs and calls -/
/-- what a def answers; C: what stands at its end -/
def EvF (r : Option (Rs Wv)) (p : Ro β) (w : β → Wv) (C : β → Sl → Prop) : Prop :=
  match p with
  | .bad => True
  | .ok b => ∃ s, r = some (.ok (w b) s) ∧ C b s
  | .ex x => ∃ s, r = some (.ex x s)
theorem tf_mk {N : Nat} {b : M SO} {as : List Ar} {F0 : Sl} {p : Ro β} {w : β → Wv} {C : β → Sl → Prop} {t : Bool} (h0 : iniS N as = F0) (h : TG X t (b F0) p (RB w C)) : EvF (endF N b as) p w C := by
  unfold endF
  rw [h0]
  cases p with
  | bad => trivial
  | ok g => obtain ⟨o, e, ⟨s, r, c⟩, _⟩ := h; rw [e]; exact ⟨s, r, c⟩
  | ex x => obtain ⟨s, e, _⟩ := h; rw [e]; exact ⟨s, rfl⟩
theorem backS_no : ∀ (ws : List Wv) (s ss : Sl), borI ws = [] → backS ws s ss = some ss
  | [], _, _, _ => rfl
  | .val d :: ws, s, ss, h => backS_no ws s.tail ss h
  | .new d :: ws, s, ss, h => backS_no ws s.tail ss h
  | .rol d :: ws, s, ss, h => backS_no ws s.tail ss h
  | .bor d :: ws, s, ss, h => by cases h
theorem tc0 {n : Nat} {f : DT.Fn} {ws : List Wv} {as : List Ar} {p : Ro β} {w : β → Wv} {C : β → Sl → Prop} (hn : (ws.length == n) = true) (hb : borI ws = []) (ha : toArs F ws = some as) (h : EvF (f as) p w C) (hx : X F) : EvR X (callM n f ws F) p w (fun _ => F) := by
  have e0 : callM n f ws F = match f as with
    | some (.ok w s) => some (.ok w F)
    | some (.ex x s) => some (.ex x F)
    | none => none := by
    unfold callM
    rw [if_pos (by rw [hb, hn]; rfl), ha]
    cases q : f as with
    | none => simp only [q]
    | some r => cases r <;> simp only [q, backS_no _ _ _ hb]
  cases p with
  | bad => trivial
  | ok b => obtain ⟨s, e, _⟩ := h; show callM n f ws F = _; rw [e0, e]
  | ex x => obtain ⟨s, e⟩ := h; exact ⟨F, by rw [e0, e], hx⟩
/-- the first argument is lent -/
theorem tc1 {n : Nat} {f : DT.Fn} {ws : List Wv} {as : List Ar} {p : Ro β} {w : β → Wv} {C : β → Sl → Prop} {c' : β → Con} {b0 : Bool} {c0 : Con} {H : β → Sl} (hn : ((Wv.bor i :: ws).length == n) = true) (hb : borI ws = []) (ha : toArs F (.bor i :: ws) = some as) (h : EvF (f as) p w C) (hi : F[i]? = some (.own b0 c0)) (hC : ∀ b s, C b s → s.head? = some (.own true (c' b))) (hH : ∀ b, F.set i (.own b0 (c' b)) = H b) : EvR X (callM n f (.bor i :: ws) F) p.noEx w H := by
  cases p with
  | bad => trivial
  | ex x => trivial
  | ok b =>
    obtain ⟨s, e, hs⟩ := h
    show callM n f (.bor i :: ws) F = _
    unfold callM
    rw [if_pos (by rw [hn]; unfold borI; rw [hb]; rfl), ha]
    simp only [e]
    unfold backS
    rw [hi, hC b s hs]
    simp only [backS_no _ _ _ hb, hH]
/-- any data, taken as a thing of a kind -/
def decI : D → Ro Int
  | .int i => .ok i
  | _ => .bad
def decB : D → Ro Bool
  | .bool i => .ok i
  | _ => .bad
def decS : D → Ro Str
  | .str i => .ok i
  | _ => .bad
def decAll (f : D → Ro α) : List D → Ro (List α)
  | [] => .ok []
  | d :: ds => (f d).bind fun a => (decAll f ds).bind fun r => .ok (a :: r)
def decT (f : D → Ro α) : D → Ro (List α)
  | .tuple ds => decAll f ds
  | _ => .bad
def decL (f : D → Ro α) : D → Ro (List α)
  | .list ds => decAll f ds
  | _ => .bad
def dec2 (f : D → Ro α) (g : D → Ro β) : D → Ro (α × β)
  | .tuple [a, b] => (f a).bind fun x => (g b).bind fun y => .ok (x, y)
  | _ => .bad
def dec3 (f : D → Ro α) (g : D → Ro β) (h : D → Ro γ) : D → Ro (α × β × γ)
  | .tuple [a, b, c] => (f a).bind fun x => (g b).bind fun y => (h c).bind fun z => .ok (x, y, z)
  | _ => .bad
structure DecOk (e : α → D) (f : D → Ro α) : Prop where
  of : ∀ d a, f d = .ok a → d = e a
  to : ∀ a, f (e a) = .ok a
  no : ∀ d x, f d ≠ .ex x
theorem dk_D : DecOk eD Ro.ok := ⟨fun d a h => by cases h; rfl, fun _ => rfl, fun _ _ h => by cases h⟩
theorem dk_I : DecOk eI decI := ⟨fun d a h => by unfold decI at h; split at h <;> cases h; rfl, fun _ => rfl, fun d x h => by unfold decI at h; split at h <;> cases h⟩
theorem dk_B : DecOk eB decB := ⟨fun d a h => by unfold decB at h; split at h <;> cases h; rfl, fun _ => rfl, fun d x h => by unfold decB at h; split at h <;> cases h⟩
theorem dk_S : DecOk eS decS := ⟨fun d a h => by unfold decS at h; split at h <;> cases h; rfl, fun _ => rfl, fun d x h => by unfold decS at h; split at h <;> cases h⟩
theorem bind_okI {p : Ro α} {f : α → Ro β} {b : β} (h : p.bind f = .ok b) : ∃ a, p = .ok a ∧ f a = .ok b := by
  cases p with
  | bad => cases h
  | ex _ => cases h
  | ok a => exact ⟨a, rfl, h⟩
theorem bind_exI {p : Ro α} {f : α → Ro β} {x : Xn} (h : p.bind f = .ex x) : p = .ex x ∨ ∃ a, p = .ok a ∧ f a = .ex x := by
  cases p with
  | bad => cases h
  | ex _ => cases h; exact .inl rfl
  | ok a => exact .inr ⟨a, rfl, h⟩
theorem dk_all {f : D → Ro α} (h : DecOk e f) : (∀ ds xs, decAll f ds = .ok xs → ds = xs.map e) ∧ (∀ xs : List α, decAll f (xs.map e) = .ok xs) ∧ ∀ ds x, decAll f ds ≠ .ex x := by
  refine ⟨fun ds => ?_, fun xs => ?_, fun ds => ?_⟩
  · induction ds with
    | nil => intro xs h; cases h; rfl
    | cons d ds ih =>
      intro xs q
      obtain ⟨a, q1, q⟩ := bind_okI (show (f d).bind _ = _ from q)
      obtain ⟨r, q2, q⟩ := bind_okI q
      cases q
      rw [h.of d a q1, ih r q2]; rfl
  · induction xs with
    | nil => rfl
    | cons x xs ih =>
      show (f (e x)).bind _ = _
      rw [h.to, bind_ok, ih]; rfl
  · induction ds with
    | nil => intro x q; cases q
    | cons d ds ih =>
      intro x q
      rcases bind_exI (show (f d).bind _ = _ from q) with q | ⟨a, _, q⟩
      · exact h.no _ _ q
      · rcases bind_exI q with q | ⟨a, _, q⟩
        · exact ih _ q
        · cases q
theorem dk_T {f : D → Ro α} (h : DecOk e f) : DecOk (eT e) (decT f) := by
  refine ⟨fun d a q => ?_, fun a => (dk_all h).2.1 a, fun d x q => ?_⟩
  · unfold decT at q
    split at q
    · rw [(dk_all h).1 _ _ q]
    · cases q
  · unfold decT at q
    split at q
    · exact (dk_all h).2.2 _ _ q
    · cases q
theorem dk_L {f : D → Ro α} (h : DecOk e f) : DecOk (eL e) (decL f) := by
  refine ⟨fun d a q => ?_, fun a => (dk_all h).2.1 a, fun d x q => ?_⟩
  · unfold decL at q
    split at q
    · rw [(dk_all h).1 _ _ q]
    · cases q
  · unfold decL at q
    split at q
    · exact (dk_all h).2.2 _ _ q
    · cases q
theorem dk_2 {f : D → Ro α} {eb : β → D} {fb : D → Ro β} (h : DecOk e f) (k : DecOk eb fb) : DecOk (e2 e eb) (dec2 f fb) := by
  refine ⟨fun d a q => ?_, fun a => ?_, fun d x q => ?_⟩
  · unfold dec2 at q
    split at q
    · obtain ⟨x, q1, q⟩ := bind_okI q
      obtain ⟨y, q2, q⟩ := bind_okI q
      cases q
      rw [h.of _ _ q1, k.of _ _ q2]
    · cases q
  · show (f (e a.1)).bind _ = _
    rw [h.to, bind_ok, k.to]; rfl
  · unfold dec2 at q
    split at q
    · rcases bind_exI q with q | ⟨a, _, q⟩
      · exact h.no _ _ q
      · rcases bind_exI q with q | ⟨a, _, q⟩
        · exact k.no _ _ q
        · cases q
    · cases q
theorem ev_dec {f : D → Ro α} {d : D} {ω : Type} {r : Option (Rs ω)} {q : α → Ro β} {w2 : β → ω} {H : β → Sl} (h : DecOk e f) (k : ∀ a, d = e a → EvR X r (q a) w2 H) : EvR X r ((f d).bind q) w2 H := by
  cases z : f d with
  | bad => trivial
  | ex x => exact absurd z (h.no d x)
  | ok a => exact k a (h.of d a z)
theorem tf_dec {f : D → Ro α} {d : D} {r : Option (Rs Wv)} {q : α → Ro β} {w2 : β → Wv} {C : β → Sl → Prop} (h : DecOk e f) (k : ∀ a, d = e a → EvF r (q a) w2 C) : EvF r ((f d).bind q) w2 C := by
  cases z : f d with
  | bad => trivial
  | ex x => exact absurd z (h.no d x)
  | ok a => exact k a (h.of d a z)
/-- an error becomes a word -/
def tryR (ks : Nat → Option Str) (p : Ro D) : Ro D := match p with
  | .ok d => .ok d
  | .bad => .bad
  | .ex (.pl c) => match ks c with
    | some t => .ok (.str t)
    | none => .bad
  | .ex (.fld _ _ _) => .bad
theorem tg_try {ks : Nat → Option Str} {b : M SO} {p : Ro D} {t : Bool} {R : D → Rs SO → Prop} {N : Nat} (h : TG (fun s => s.length = N) true (b F) p R) (hi : i < N) (hR : ∀ x s, s.length = N → R (.str x) (.ok (.rt (.val (.str x))) s)) (hx : ∀ d o, R d o → ∀ x s, o ≠ .ex x s) : TG X t (tryK i ks b F) (tryR ks p) R := by
  cases p with
  | bad => trivial
  | ok d =>
    obtain ⟨o, e, r, n⟩ := h
    refine ⟨o, ?_, r, fun _ => n rfl⟩
    unfold tryK
    rw [e]
    cases o with
    | ok z s => cases z <;> rfl
    | ex x s => exact absurd rfl (hx d _ r x s)
  | ex x =>
    cases x with
    | fld c a b => trivial
    | pl c =>
      obtain ⟨s, e, hl⟩ := h
      unfold tryR
      dsimp only
      cases q : ks c with
      | none => trivial
      | some y =>
        refine ⟨.ok (.rt (.val (.str y))) s, ?_, hR y s hl, fun _ s e => by cases e⟩
        unfold tryK
        rw [e]
        dsimp only
        rw [q]
        dsimp only
        rw [if_pos (decide_eq_true (by omega))]
theorem rb_x {w : β → Wv} {C : β → Sl → Prop} (d : β) (o : Rs SO) (h : RB w C d o) (x : Xn) (s : Sl) : o ≠ .ex x s := fun e => by
  obtain ⟨s', q, _⟩ := h
  rw [e] at q
  cases q
/-- one of some defs -/
inductive MenuR (X : Sl → Prop) (k : Nat) (ws : List Wv) (F : Sl) (w : β → Wv) : List DT.Fn → List (Ro β) → Prop
  | nil : MenuR X k ws F w [] []
  | cons {f : DT.Fn} {fs : List DT.Fn} {p : Ro β} {ps : List (Ro β)} (h : EvR X (callM k f ws F) p w (fun _ => F)) (t : MenuR X k ws F w fs ps) : MenuR X k ws F w (f :: fs) (p :: ps)
def menuR (ps : List (Ro β)) (i : Int) : Ro β := if 0 ≤ i then (match ps[i.toNat]? with
  | some p => p
  | none => .bad) else .bad
theorem menuR_at {k : Nat} {ws : List Wv} {w : β → Wv} : ∀ {fs : List DT.Fn} {ps : List (Ro β)} (n : Nat), MenuR X k ws F w fs ps → ∀ p, ps[n]? = some p → ∃ f, fs[n]? = some f ∧ EvR X (callM k f ws F) p w (fun _ => F)
  | _, _, n, .nil, p, h => by cases n <;> cases h
  | _, _, 0, .cons h t, p, q => by cases q; exact ⟨_, rfl, h⟩
  | _, _, n + 1, .cons h t, p, q => by
    obtain ⟨f, a, b⟩ := menuR_at n t p (by simpa using q)
    exact ⟨f, by simpa using a, b⟩
theorem ev_menu {k : Nat} {fi : Sl → Option Int} {fs : List DT.Fn} {ps : List (Ro β)} {ws : List Wv} {w : β → Wv} {n : Int} (hi : fi F = some n) (hl : decide (fs.length ≤ 1000) = true) (hg : g F = some (.ok ws F)) (h : MenuR X k ws F w fs ps) : EvR X (menuM k fi fs g F) (menuR ps n) w (fun _ => F) := by
  unfold menuR
  split
  · rename_i h0
    cases q : ps[n.toNat]? with
    | none => trivial
    | some p =>
      obtain ⟨f, a, b⟩ := menuR_at n.toNat h p q
      have e : menuM k fi fs g F = callM k f ws F := by
        unfold menuM
        rw [hi]
        dsimp only
        rw [if_pos (decide_eq_true ⟨h0, of_decide_eq_true hl⟩), a]
        dsimp only
        rw [bnd_ok hg]
      rw [e]
      exact b
  · trivial
end
end DT
namespace DT
open PySem
section
variable {α β γ δ σ τ ω : Type} {X : Sl → Prop}
variable {F F1 F2 F3 : Sl} {w u : Wv} {e : α → D} {xs ys : List α} {i : Nat} {f fa fb : M Wv}
theorem ev_decR (r : D → Option (Rs ω)) {f : D → Ro α} {d : D} {q : α → Ro β} {w2 : β → ω} {H : β → Sl} (h : DecOk e f) (k : ∀ a, EvR X (r (e a)) (q a) w2 H) : EvR X (r d) ((f d).bind q) w2 H :=
  ev_dec h fun a q => by rw [q]; exact k a
theorem tg_bndP {fi : M (List D)} {g : D → Sl → Option Sl} {body : M SO} {ds : List D} {t : Bool} {p : Ro γ} {R : γ → Rs SO → Prop} (h : fi F = some (.ok ds F1)) (k : TG X t (loopF g body ds F1) p R) : TG X t (forM fi g body F) p R := by
  unfold forM; rw [bnd_ok h]; exact k
theorem tg_bndE {fi : M (List D)} {g : D → Sl → Option Sl} {body : M SO} {q : Ro β} {ds : β → List D} {G : β → Sl} {t : Bool} {p : β → Ro γ} {R : γ → Rs SO → Prop} (h : EvR X (fi F) q ds G) (k : ∀ b, TG X t (loopF g body (ds b) (G b)) (p b) R) : TG X t (forM fi g body F) (q.bind p) R := by
  cases q with
  | bad => trivial
  | ok b => exact tg_bndP h (k b)
  | ex x => obtain ⟨s, e, hx⟩ := h; exact ⟨s, bnd_ex e, hx⟩
theorem tg_rtM {t : Bool} {R : γ → Rs SO → Prop} {q : Ro α} {wf : α → Wv} {G : α → Sl} {g : α → γ} (h : EvR X (f F) q wf G) (k : ∀ a, R (g a) (.ok (.rt (wf a)) (G a))) : TG X t (sRt f F) (q.bind fun a => .ok (g a)) R := by
  cases q with
  | bad => trivial
  | ok a => exact ⟨_, sRt_ok h, k a, fun _ s e => by cases e⟩
  | ex x => obtain ⟨s, e, hx⟩ := h; exact ⟨s, bnd_ex e, hx⟩
/-- if c: rest goes on; else: (leaves) -/
theorem tg_ifF {t : Bool} {R : γ → Rs SO → Prop} {c : M Bool} {v : Bool} {a a' b : M SO} {p q : Ro γ} (hc : c F = some (.ok v F1)) (ha : TG X t (sq a b F1) p R) (hb : TG X true (a' F1) q R) : TG X t (sq (sIf c a a') b F) (if v = true then p else q) R := by
  have e : sq (sIf c a a') b F = if v = true then sq a b F1 else sq a' b F1 := by
    cases v
    · show bnd (sIf c a a') _ F = bnd a' _ F1
      unfold bnd
      rw [sIf_f hc]
    · show bnd (sIf c a a') _ F = bnd a _ F1
      unfold bnd
      rw [sIf_t hc]
  rw [e]
  cases v
  · exact tg_term hb
  · exact ha
/-- a display with stars -/
abbrev vl (e : α → D) (a : α) : Wv := .val (e a)
theorem sa_nil : anil F = some (.ok (([] : List α).map (vl e)) F) := rfl
theorem sa_cons {g : M (List Wv)} {a : α} (h : f F = some (.ok (.val (e a)) F1)) (k : g F1 = some (.ok (xs.map (vl e)) F2)) : acons f g F = some (.ok ((a :: xs).map (vl e)) F2) := acons_ok h k
theorem sa_star {g : M (List Wv)} (h : f F = some (.ok w F1)) (s : seqV F1 w = some (ys.map e)) (k : g F1 = some (.ok (xs.map (vl e)) F2)) : astar f g F = some (.ok ((ys ++ xs).map (vl e)) F2) := by
  unfold astar
  rw [bnd_ok h]
  simp only [s]
  rw [bnd_ok k]
  show some (Rs.ok ((ys.map e).map Wv.val ++ xs.map (vl e)) F2) = _
  rw [List.map_append, List.map_map]; rfl
theorem frz_vl : ∀ (xs : List α), frzAll (xs.map (vl e)) F = some (.ok (xs.map e) F)
  | [] => rfl
  | x :: xs => by
    show bnd (frzAll (xs.map (vl e))) _ F = _
    rw [bnd_ok (frz_vl xs)]; rfl
theorem g_mkT : EvR X (mkTup (xs.map (vl e)) F) (szR xs.length xs) (fun a => .val (.tuple (a.map e))) (fun _ => F) := by
  unfold szR
  refine ev_gu fun c => ?_
  unfold mkTup
  rw [bnd_ok (frz_vl xs), List.length_map, if_pos c]; rfl
theorem g_mkL : EvR X (mkLst (xs.map (vl e)) F) (szR xs.length xs) (fun a => .new (.lst (a.map e))) (fun _ => F) := by
  unfold szR
  refine ev_gu fun c => ?_
  unfold mkLst
  rw [bnd_ok (frz_vl xs), List.length_map, if_pos c]; rfl
/-! ### chains -/
theorem pv_chn {fc : M Wv} {o o2 : Wv → Wv → M Wv} {wa wc : Wv} {d : D} {a b : Bool} (ha : fa F = some (.ok wa F)) (hb : fb F = some (.ok (.val d) F)) (ho : o wa (.val d) F = some (.ok (.val (.bool a)) F)) (hc : fc F = some (.ok wc F)) (ho2 : o2 (.val d) wc F = some (.ok (.val (.bool b)) F)) : chn fa fb o (lnk fc o2) F = some (.ok (.val (.bool (a && b))) F) := by
  unfold chn
  rw [bnd_ok ha]
  unfold chnR
  rw [bnd_ok hb]
  dsimp only
  rw [bnd_ok ho]
  cases a
  · rfl
  · show lnk fc o2 (.val d) F = _
    unfold lnk
    dsimp only
    rw [bnd_ok hc, ho2]; rfl
end
end DT
namespace DT
open PySem
section
variable {α β γ δ σ τ ω ω' : Type} {X : Sl → Prop}
variable {F F1 F2 F3 : Sl} {w u : Wv} {e : α → D} {xs ys : List α} {i : Nat} {f fa fb : M Wv}
theorem et_pt {g : M Wv} {p : Ro β} {v : β → Int} (h : EvR X (g F) p (fun b => .val (.int (v b))) (fun _ => F)) : EvR X (ptM (.at g) F) p (fun b => some (v b)) (fun _ => F) := by
  cases p with
  | bad => trivial
  | ok b => exact pt_at h
  | ex x => obtain ⟨s, e, hx⟩ := h; exact ⟨s, bnd_ex e, hx⟩
theorem o_slT {l h : Option Int} (hw : tupV F w = some (xs.map e)) : slW w l h F = some (.ok (.val (.tuple ((cutL xs l h).map e))) F) := by
  unfold slW; rw [hw]; dsimp only; rw [cut_map]
theorem o_slL {l h : Option Int} (hn : tupV F w = none) (hw : lstV F w = some (xs.map e)) : slW w l h F = some (.ok (.new (.lst ((cutL xs l h).map e))) F) := by
  unfold slW; rw [hn]; dsimp only; rw [hw]; dsimp only; rw [cut_map]
/-- a last step without effect -/
theorem ev_E2 {f : M ω} {k : ω → M ω'} {w : α → ω} {G1 : α → Sl} {p : Ro α} {w2 : α → ω'} {G : α → Sl} (h : EvR X (f F) p w G1) (h2 : ∀ a, k (w a) (G1 a) = some (.ok (w2 a) (G a))) : EvR X (bnd f k F) p w2 G := by
  cases p with
  | bad => trivial
  | ok a => exact bnd_P h (h2 a)
  | ex x => obtain ⟨s, e, hx⟩ := h; exact ⟨s, bnd_ex e, hx⟩
theorem ev_fz {w : α → Wv} {G G' : α → Sl} {p : Ro α} {w2 : α → Wv} (h : EvR X (f F) p w G) (h2 : ∀ a, frV (w a) (G a) = some (.ok (w2 a) (G' a))) : EvR X (bnd f frV F) p w2 G' := ev_E2 h h2
theorem ev_appE {b : Bool} {x : β → α} {w : β → Wv} {p : Ro β} {G F2 : β → Sl} {xs : β → List α} {H : β → List α → Sl} (h : EvR X (f F) p w G) {c0 : Con} (hb : F[i]? = some (.own b c0)) (hl : isLst c0 = true)
    (k : ∀ a, frzAll [w a] (G a) = some (.ok [e (x a)] (F2 a))) (h2 : ∀ a, (F2 a)[i]? = some (.own b (.lst ((xs a).map e)))) (hH : ∀ a zs, (F2 a).set i (.own b (.lst (zs.map e))) = H a zs) :
    EvR X (mthP isLst i (acons f anil) oAppend F) (p.bind fun a => (appR (xs a) (x a)).bind fun zs => .ok (a, zs)) (fun _ => .val .none) (fun z => H z.1 z.2) := by
  cases p with
  | ex y => 
    obtain ⟨s, e, hx⟩ := h
    refine ⟨s, ?_, hx⟩
    unfold mthP
    rw [hb]
    dsimp only
    rw [if_pos hl]
    unfold mth
    rw [hb]
    dsimp only
    exact bnd_ex (bnd_ex e)
  | bad => trivial
  | ok a =>
    rw [bind_ok]
    unfold appR guR
    split
    · rename_i c
      show mthP isLst i (acons f anil) oAppend F = _
      unfold mthP
      rw [hb]
      dsimp only
      rw [if_pos hl]
      unfold mth
      rw [hb]
      dsimp only
      rw [bnd_ok (acons_ok (show f F = _ from h) rfl), bnd_ok (k a)]
      simp only [h2]
      unfold oAppend
      simp only [List.length_map, c, if_true]
      rw [← hH]
      simp
    · trivial
theorem ev_extE {b : Bool} {ys : β → List α} {w : β → Wv} {p : Ro β} {G F2 : β → Sl} {xs : β → List α} {H : β → List α → Sl} (h : EvR X (f F) p w G) {c0 : Con} (hb : F[i]? = some (.own b c0)) (hl : isLst c0 = true)
    (k : ∀ a, frzAll [w a] (G a) = some (.ok [.list ((ys a).map e)] (F2 a))) (h2 : ∀ a, (F2 a)[i]? = some (.own b (.lst ((xs a).map e)))) (hH : ∀ a zs, (F2 a).set i (.own b (.lst (zs.map e))) = H a zs) :
    EvR X (mthP isLst i (acons f anil) oExtend F) (p.bind fun a => (catR (xs a) (ys a)).bind fun zs => .ok (a, zs)) (fun _ => .val .none) (fun z => H z.1 z.2) := by
  cases p with
  | ex y => 
    obtain ⟨s, e, hx⟩ := h
    refine ⟨s, ?_, hx⟩
    unfold mthP
    rw [hb]
    dsimp only
    rw [if_pos hl]
    unfold mth
    rw [hb]
    dsimp only
    exact bnd_ex (bnd_ex e)
  | bad => trivial
  | ok a =>
    rw [bind_ok]
    unfold catR guR
    split
    · rename_i c
      show mthP isLst i (acons f anil) oExtend F = _
      unfold mthP
      rw [hb]
      dsimp only
      rw [if_pos hl]
      unfold mth
      rw [hb]
      dsimp only
      rw [bnd_ok (acons_ok (show f F = _ from h) rfl), bnd_ok (k a)]
      simp only [h2]
      unfold oExtend
      simp only [List.length_map, c, if_true]
      rw [← hH]
      simp
    · trivial
theorem ev_chnPEP {fc : M Wv} {o o2 : Wv → Wv → M Wv} {wa : Wv} {wc : β → Wv} {q : Ro β} {wb : β → D} {a b : β → Bool} (ha : fa F = some (.ok wa F)) (hb : EvR X (fb F) q (fun b => .val (wb b)) (fun _ => F)) (ho : ∀ x, o wa (.val (wb x)) F = some (.ok (.val (.bool (a x))) F)) (hc : ∀ x, fc F = some (.ok (wc x) F)) (ho2 : ∀ x, o2 (.val (wb x)) (wc x) F = some (.ok (.val (.bool (b x))) F)) :
    EvR X (chn fa fb o (lnk fc o2) F) (q.bind fun x => .ok (a x && b x)) (fun b => .val (.bool b)) (fun _ => F) := by
  cases q with
  | bad => trivial
  | ok x => exact pv_chn ha hb (ho x) (hc x) (ho2 x)
  | ex x =>
    obtain ⟨s, e, hx⟩ := hb
    refine ⟨s, ?_, hx⟩
    unfold chn
    rw [bnd_ok ha]
    unfold chnR
    exact bnd_ex e
theorem o_ltT {xs ys : List Int} : ltW (.val (.tuple (xs.map eI))) (.val (.tuple (ys.map eI))) F = some (.ok (.val (.bool (HT.lexLt xs ys))) F) := by
  show (match intsOf (xs.map eI), intsOf (ys.map eI) with
    | some ns, some ms => some (Rs.ok (Wv.val (.bool (HT.lexLt ns ms))) F)
    | _, _ => none) = _
  rw [intsOf_map, intsOf_map]
end
end DT
namespace DT
open PySem
section
variable {α β γ δ σ τ ω ω' : Type} {X : Sl → Prop}
variable {F F1 F2 F3 : Sl} {w u : Wv} {fa fb : M Wv}
theorem ev_chnPPE {fc : M Wv} {o o2 : Wv → Wv → M Wv} {wa : Wv} {d : D} {a : Bool} {q : Ro β} {wc : β → Wv} {b : β → Bool} (ha : fa F = some (.ok wa F)) (hb : fb F = some (.ok (.val d) F)) (ho : o wa (.val d) F = some (.ok (.val (.bool a)) F)) (hc : EvR X (fc F) q wc (fun _ => F)) (ho2 : ∀ x, o2 (.val d) (wc x) F = some (.ok (.val (.bool (b x))) F)) :
    EvR X (chn fa fb o (lnk fc o2) F) (andR a (q.bind fun x => .ok (b x))) (fun b => .val (.bool b)) (fun _ => F) := by
  unfold chn
  rw [bnd_ok ha]
  unfold chnR
  rw [bnd_ok hb]
  dsimp only
  rw [bnd_ok ho]
  cases a
  · rfl
  · show EvR X (lnk fc o2 (.val d) F) (q.bind fun x => .ok (b x)) _ _
    unfold lnk
    exact ev_E hc fun x => ho2 x
end
end DT
namespace DT
open PySem
theorem ev_sl {β : Type} {X : Sl → Prop} {F : Sl} {f : M Wv} {lo hi : Pt} {p : Ro β} {w : β → Wv} {G : β → Sl} (h : EvR X (bnd f (fun w => bnd (ptM lo) fun l => bnd (ptM hi) fun h => slW w l h) F) p w G) : EvR X (slM f lo hi F) p w G := h
end DT
namespace DT
open PySem
section
variable {α β γ : Type} {X : Sl → Prop} {F F1 : Sl} {vs : List Nat} {fi : M (List D)} {g : D → Sl → Option Sl} {ft : M Bool} {fe : M Wv}
theorem ev_lcP {items : List D} {p : Ro β} {w : β → Wv} {G : β → Sl} (h : fi F = some (.ok items F1)) (k : EvR X (lcK vs g ft fe items F1) p w G) : EvR X (lcM vs fi g ft fe F) p w G := by
  rw [lcM_eq]; exact ev_P h k
theorem ev_lcE {q : Ro α} {ds : α → List D} {G1 : α → Sl} {p : α → Ro β} {w : β → Wv} {G : β → Sl} (h : EvR X (fi F) q ds G1) (k : ∀ a, EvR X (lcK vs g ft fe (ds a) (G1 a)) (p a) w G) : EvR X (lcM vs fi g ft fe F) (q.bind p) w G := by
  rw [lcM_eq]; exact ev_E h k
end
end DT
namespace k32
open PySem DT
set_option maxHeartbeats 0
def kindL : List Str := ["!map", "!plan", "!table", "!paper", "!number", "!none", "!large"]
def kinds (c : Nat) : Option Str := kindL[c]?
def b__law_number : M SO := (sq (sIf (tstB (bin (nm 0) (cst (.int 0)) (ltW))) (sRt (bin (cst (.int 0)) (nm 0) iSub)) sNx)
    (sRt (nm 0)))
def f__law_number : DT.Fn := endF 1 b__law_number
def p_law_number (cell : Int) : Ro Int :=
  if (decide (cell < (0 : Int))) = true then .ok ((0 : Int) - cell)
    else .ok cell
theorem s_law_number (cell : Int) : EvF (f__law_number [.val (eI cell)]) (p_law_number cell) (fun (b : Int) => (.val (eI b) : Wv)) (fun (_ : Int) _ => True) :=
  tf_mk (X := fun _ => True) (t := true) (F0 := [.val false (eI cell)]) rfl (tg_ifT (pt_tstB (pv_bin rfl rfl rfl)) (tg_rtP (pv_bin rfl rfl rfl) ⟨_, rfl, trivial⟩)
    (tg_nxR (tg_rtP rfl ⟨_, rfl, trivial⟩)))

def b__law_draws : M SO := (sq (asg 1 (bnd anil mkLst))
    (sq (forM (bnd (nm 0) itW) (gN 2) (sq (asg 3 (bnd (acons (nm 2) anil) (callM 1 f__law_number)))
    (sq (sIf (tstB (bin (nm 3) (cst (.int 1000000000000000000)) (iGe))) (sq (forM (bnd (acons (cst (.int 60)) anil) rng1W) (gN 4) (sq (sIf (tstB (bin (nm 3) (cst (.int 0)) (eqD false))) (sq (ghK [4]) sBk) sNx)
    (sq (sEx (mthP isLst 1 (acons (bin (bnd (acons (nm 3) anil) intW) (cst (.int 1000)) iMod) anil) oAppend))
    (sq (asg 3 (bin (nm 3) (cst (.int 1000)) iDiv))
    (sq (ghK [4]) sNx)))))
    (sq (ghK [3]) sNx)) (sq (asg 5 (bin (bnd (acons (bin (bin (nm 3) (cst (.int 48271)) mulW) (cst (.int 11)) addW) anil) intW) (cst (.int 2147483647)) iMod))
    (sq (asg 6 (bin (bnd (acons (bin (bin (nm 5) (cst (.int 69621)) mulW) (nm 3) addW) anil) intW) (cst (.int 2147483629)) iMod))
    (sq (sEx (mthP isLst 1 (acons (bnd (acons (bin (bnd (acons (nm 3) anil) intW) (cst (.int 1000)) iMod) (acons (bin (bnd (acons (nm 5) anil) intW) (cst (.int 1000)) iMod) (acons (bin (bnd (acons (nm 6) anil) intW) (cst (.int 1000)) iMod) anil))) mkLst) anil) oExtend))
    (sq (ghK [3]) (sq (ghK [5]) (sq (ghK [6]) sNx)))))))
    (sq (ghK [2]) sNx))))
    (sq (sEx (mthP isLst 1 anil oReverse))
    (sRt (nm 1)))))
def f__law_draws : DT.Fn := endF 7 b__law_draws
def p_law_draws (script : (List Int)) : Ro (List Int) :=
  Let ([] : (List Int)) fun (draws : (List Int)) =>
    (forR script draws (fun (cell : Int) (s1 : (List Int)) => ((p_law_number cell).bind fun (rest : Int) =>
    (if (decide ((1000000000000000000 : Int) ≤ rest)) = true then (forB (rngL 0 60) (s1, rest) (fun (k : Int) (s29 : ((List Int) × Int)) => (if (decide (s29.2 = (0 : Int))) = true then .ok ((s29.1, s29.2), true)
    else (appR s29.1 (s29.2 % (1000 : Int))).bind fun (r31 : (List Int)) =>
    Let (s29.2 / (1000 : Int)) fun (rest : Int) =>
    .ok ((r31, rest), false) : Ro (((List Int) × Int) × Bool)))).bind fun (s36 : ((List Int) × Int)) =>
    .ok s36.1
    else Let (((rest * (48271 : Int)) + (11 : Int)) % (2147483647 : Int)) fun (once : Int) =>
    Let (((once * (69621 : Int)) + rest) % (2147483629 : Int)) fun (twice : Int) =>
    (catR s1 ([(rest % (1000 : Int)), (once % (1000 : Int)), (twice % (1000 : Int))] : (List Int))).bind fun (r45 : (List Int)) =>
    .ok r45).bind fun (j28 : (List Int)) =>
    .ok j28 : Ro (List Int)))).bind fun (s53 : (List Int)) =>
    .ok s53.reverse
theorem s_law_draws (script : (List Int)) : EvF (f__law_draws [.rol (script.map eI)]) (p_law_draws script) (fun (b : (List Int)) => (.new (.lst (b.map eI)) : Wv)) (fun (_ : (List Int)) _ => True) :=
  tf_mk (X := fun _ => True) (t := true) (F0 := [.rol (script.map eI), .un, .un, .un, .un, .un, .un]) rfl (tg_let (v := ([] : (List Int))) (G := fun (draws : (List Int)) => ([.rol (script.map eI), .own false (.lst (draws.map eI)), .un, .un, .un, .un, .un] : Sl)) (asg_ok (bnd_P (u := (.new (.lst (([] : (List Int)).map eI)) : Wv)) pa_nil rfl) rfl) fun (draws : (List Int)) =>
    (tg_E (G := (fun (s53 : (List Int)) => ([.rol (script.map eI), .own false (.lst (s53.map eI)), .un, .un, .un, .un, .un] : Sl))) (ev_P (bnd_P (u := script.map eI) rfl rfl) (ev_loop (e := eI) (G := fun (s1 : (List Int)) => ([.rol (script.map eI), .own false (.lst (s1.map eI)), .un, .un, .un, .un, .un] : Sl)) (T := fun (cell : Int) (s1 : (List Int)) => ([.rol (script.map eI), .own false (.lst (s1.map eI)), .val false (eI cell), .un, .un, .un, .un] : Sl)) (f := (fun (cell : Int) (s1 : (List Int)) => ((p_law_number cell).bind fun (rest : Int) =>
    (if (decide ((1000000000000000000 : Int) ≤ rest)) = true then (forB (rngL 0 60) (s1, rest) (fun (k : Int) (s29 : ((List Int) × Int)) => (if (decide (s29.2 = (0 : Int))) = true then .ok ((s29.1, s29.2), true)
    else (appR s29.1 (s29.2 % (1000 : Int))).bind fun (r31 : (List Int)) =>
    Let (s29.2 / (1000 : Int)) fun (rest : Int) =>
    .ok ((r31, rest), false) : Ro (((List Int) × Int) × Bool)))).bind fun (s36 : ((List Int) × Int)) =>
    .ok s36.1
    else Let (((rest * (48271 : Int)) + (11 : Int)) % (2147483647 : Int)) fun (once : Int) =>
    Let (((once * (69621 : Int)) + rest) % (2147483629 : Int)) fun (twice : Int) =>
    (catR s1 ([(rest % (1000 : Int)), (once % (1000 : Int)), (twice % (1000 : Int))] : (List Int))).bind fun (r45 : (List Int)) =>
    .ok r45).bind fun (j28 : (List Int)) =>
    .ok j28 : Ro (List Int)))) (fun _ _ => rfl) (fun (cell : Int) (s1 : (List Int)) => (tg_E (G := (fun (rest : Int) => ([.rol (script.map eI), .own false (.lst (s1.map eI)), .val false (eI cell), .val false (eI rest), .un, .un, .un] : Sl))) (es_asg (wf := (fun (r2 : Int) => (.val (eI r2) : Wv))) (G := (fun (r2 : Int) => ([.rol (script.map eI), .own false (.lst (s1.map eI)), .val false (eI cell), .un, .un, .un, .un] : Sl))) (ev_P (pa_cons rfl pa_nil) (tc0 rfl rfl rfl (s_law_number cell) trivial)) (fun _ => rfl)) fun (rest : Int) =>
    (tg_B (G := fun (j28 : (List Int)) => ([.rol (script.map eI), .own false (.lst (j28.map eI)), .val false (eI cell), .un, .un, .un, .un] : Sl)) (tg_if (pt_tstB (pv_bin rfl rfl rfl)) (tg_E (G := (fun (s36 : ((List Int) × Int)) => ([.rol (script.map eI), .own false (.lst (s36.1.map eI)), .val false (eI cell), .val false (eI s36.2), .un, .un, .un] : Sl))) (ev_P (bnd_P (pa_cons rfl pa_nil) (o_rng1 (j := 60) (by decide))) (ev_loopB (e := eI) (G := fun (s29 : ((List Int) × Int)) => ([.rol (script.map eI), .own false (.lst (s29.1.map eI)), .val false (eI cell), .val false (eI s29.2), .un, .un, .un] : Sl)) (T := fun (k : Int) (s29 : ((List Int) × Int)) => ([.rol (script.map eI), .own false (.lst (s29.1.map eI)), .val false (eI cell), .val false (eI s29.2), .val false (eI k), .un, .un] : Sl)) (f := (fun (k : Int) (s29 : ((List Int) × Int)) => (if (decide (s29.2 = (0 : Int))) = true then .ok ((s29.1, s29.2), true)
    else (appR s29.1 (s29.2 % (1000 : Int))).bind fun (r31 : (List Int)) =>
    Let (s29.2 / (1000 : Int)) fun (rest : Int) =>
    .ok ((r31, rest), false) : Ro (((List Int) × Int) × Bool)))) (fun _ _ => rfl) (fun (k : Int) (s29 : ((List Int) × Int)) => (tg_ifT (pt_tstB (pv_bin rfl rfl (o_eq (a := s29.2) (b := (0 : Int)) ek_I rfl rfl))) (tg_P rfl (tg_bk rfl))
    (tg_nxR (tg_E (G := (fun (r31 : (List Int)) => ([.rol (script.map eI), .own false (.lst (r31.map eI)), .val false (eI cell), .val false (eI s29.2), .val false (eI k), .un, .un] : Sl))) (es_ex (wf := (fun (r31 : (List Int)) => (.val (eN ()) : Wv))) (G := (fun (r31 : (List Int)) => ([.rol (script.map eI), .own false (.lst (r31.map eI)), .val false (eI cell), .val false (eI s29.2), .val false (eI k), .un, .un] : Sl))) (ev_app (e := eI) (x := (s29.2 % (1000 : Int))) (F2 := [.rol (script.map eI), .own false (.lst (s29.1.map eI)), .val false (eI cell), .val false (eI s29.2), .val false (eI k), .un, .un]) (H := fun (l32 : (List Int)) => ([.rol (script.map eI), .own false (.lst (l32.map eI)), .val false (eI cell), .val false (eI s29.2), .val false (eI k), .un, .un] : Sl)) rfl (pv_bin (bnd_P (u := (.val (eI s29.2) : Wv)) (pa_cons rfl pa_nil) rfl) rfl (o_mod rfl)) rfl rfl (fun _ => rfl))) fun (r31 : (List Int)) =>
    (tg_let (v := (s29.2 / (1000 : Int))) (G := fun (rest : Int) => ([.rol (script.map eI), .own false (.lst (r31.map eI)), .val false (eI cell), .val false (eI rest), .val false (eI k), .un, .un] : Sl)) (asg_ok (pv_bin rfl rfl (o_div rfl)) rfl) fun (rest : Int) =>
    (tg_P rfl (tg_nx (.inl rfl)))))))) (rngL 0 60) (s1, rest))) fun (s36 : ((List Int) × Int)) =>
    (tg_P rfl (tg_nx rfl)))
    (tg_let (v := (((rest * (48271 : Int)) + (11 : Int)) % (2147483647 : Int))) (G := fun (once : Int) => ([.rol (script.map eI), .own false (.lst (s1.map eI)), .val false (eI cell), .val false (eI rest), .un, .val false (eI once), .un] : Sl)) (asg_ok (pv_bin (bnd_P (u := (.val (eI ((rest * (48271 : Int)) + (11 : Int))) : Wv)) (pa_cons (pv_bin (pv_bin rfl rfl (o_mul (cMul_r (j := 48271) (by decide)))) rfl rfl) pa_nil) rfl) rfl (o_mod rfl)) rfl) fun (once : Int) =>
    (tg_let (v := (((once * (69621 : Int)) + rest) % (2147483629 : Int))) (G := fun (twice : Int) => ([.rol (script.map eI), .own false (.lst (s1.map eI)), .val false (eI cell), .val false (eI rest), .un, .val false (eI once), .val false (eI twice)] : Sl)) (asg_ok (pv_bin (bnd_P (u := (.val (eI ((once * (69621 : Int)) + rest)) : Wv)) (pa_cons (pv_bin (pv_bin rfl rfl (o_mul (cMul_r (j := 69621) (by decide)))) rfl rfl) pa_nil) rfl) rfl (o_mod rfl)) rfl) fun (twice : Int) =>
    (tg_E (G := (fun (r45 : (List Int)) => ([.rol (script.map eI), .own false (.lst (r45.map eI)), .val false (eI cell), .val false (eI rest), .un, .val false (eI once), .val false (eI twice)] : Sl))) (es_ex (wf := (fun (r45 : (List Int)) => (.val (eN ()) : Wv))) (G := (fun (r45 : (List Int)) => ([.rol (script.map eI), .own false (.lst (r45.map eI)), .val false (eI cell), .val false (eI rest), .un, .val false (eI once), .val false (eI twice)] : Sl))) (ev_ext (e := eI) (ys := ([(rest % (1000 : Int)), (once % (1000 : Int)), (twice % (1000 : Int))] : (List Int))) (F2 := [.rol (script.map eI), .own false (.lst (s1.map eI)), .val false (eI cell), .val false (eI rest), .un, .val false (eI once), .val false (eI twice)]) (H := fun (l46 : (List Int)) => ([.rol (script.map eI), .own false (.lst (l46.map eI)), .val false (eI cell), .val false (eI rest), .un, .val false (eI once), .val false (eI twice)] : Sl)) rfl (bnd_P (u := (.new (.lst (([(rest % (1000 : Int)), (once % (1000 : Int)), (twice % (1000 : Int))] : (List Int)).map eI)) : Wv)) (pa_cons (pv_bin (bnd_P (u := (.val (eI rest) : Wv)) (pa_cons rfl pa_nil) rfl) rfl (o_mod rfl)) (pa_cons (pv_bin (bnd_P (u := (.val (eI once) : Wv)) (pa_cons rfl pa_nil) rfl) rfl (o_mod rfl)) (pa_cons (pv_bin (bnd_P (u := (.val (eI twice) : Wv)) (pa_cons rfl pa_nil) rfl) rfl (o_mod rfl)) pa_nil))) rfl) rfl rfl (fun _ => rfl))) fun (r45 : (List Int)) =>
    (tg_P rfl (tg_P rfl (tg_P rfl (tg_nx rfl)))))))) fun (j28 : (List Int)) =>
    (tg_P rfl (tg_nx (.inl rfl)))))) script draws)) fun (s53 : (List Int)) =>
    (tg_P (F' := [.rol (script.map eI), .own false (.lst (s53.reverse.map eI)), .un, .un, .un, .un, .un]) (ps_ex (ps_rev (e := eI) rfl rfl))
    (tg_rtP rfl ⟨_, rfl, trivial⟩))))

def b__law_next : M SO := (sq (sIf (tst (nm 0)) (sRt (mthP isLst 0 anil oPop)) sNx)
    (sRt (cst (.int 0))))
def f__law_next : DT.Fn := endF 1 b__law_next
def p_law_next (draws : (List Int)) : Ro (Int × (List Int)) :=
  if (!draws.isEmpty) = true then (popR draws).bind fun (r1 : (Int × (List Int))) => .ok (r1.1, r1.2)
    else .ok ((0 : Int), draws)
theorem s_law_next (draws : (List Int)) : EvF (f__law_next [.own (.lst (draws.map eI))]) (p_law_next draws) (fun (b : (Int × (List Int))) => (.val (eI b.1) : Wv)) (fun (b : (Int × (List Int))) s => s.head? = some (.own true (.lst (b.2.map eI)))) :=
  tf_mk (X := fun _ => True) (t := true) (F0 := [.own true (.lst (draws.map eI))]) rfl (tg_ifT (pt_tst rfl (tru_bor rfl)) (tg_rtM (wf := (fun (r1 : (Int × (List Int))) => (.val (eI r1.1) : Wv))) (G := (fun (r1 : (Int × (List Int))) => ([.own true (.lst (r1.2.map eI))] : Sl))) (g := fun (r1 : (Int × (List Int))) => (r1.1, r1.2)) (ev_pop (e := eI) (H := fun (l2 : (List Int)) => ([.own true (.lst (l2.map eI))] : Sl)) rfl (fun _ => rfl)) (fun (r1 : (Int × (List Int))) => ⟨_, rfl, rfl⟩))
    (tg_nxR (tg_rtP rfl ⟨_, rfl, rfl⟩)))

def b__law_more : M SO := (sq (asg 2 (bin (bin (bin (cst (.int 1000)) (bnd (acons (nm 0) anil) (callM 1 f__law_next)) mulW) (bnd (acons (nm 0) anil) (callM 1 f__law_next)) addW) (cst (.int 1)) addW))
    (sq (asg 3 (bnd anil mkLst))
    (sq (forM (bnd (acons (nm 1) anil) rng1W) (gN 4) (sq (asg 2 (bin (bnd (acons (bin (bin (nm 2) (cst (.int 48271)) mulW) (cst (.int 12345)) addW) anil) intW) (cst (.int 2147483647)) iMod))
    (sq (sEx (mthP isLst 3 (acons (bin (bnd (acons (bin (nm 2) (cst (.int 7)) iDiv) anil) intW) (cst (.int 1000)) iMod) anil) oAppend))
    (sq (ghK [4]) sNx))))
    (sRt (bin (nm 3) (nm 0) addW)))))
def f__law_more : DT.Fn := endF 5 b__law_more
def p_law_more (draws : (List Int)) (many : Int) : Ro ((List Int) × (List Int)) :=
  (((((p_law_next draws).noEx).bind fun (r1 : (Int × (List Int))) => .ok (((1000 : Int) * r1.1), r1.2)).bind fun (r3 : (Int × (List Int))) => ((p_law_next r3.2).noEx).bind fun (r4 : (Int × (List Int))) => .ok ((r3.1 + r4.1), r4.2)).bind fun (r6 : (Int × (List Int))) => .ok ((r6.1 + (1 : Int)), r6.2)).bind fun (r8 : (Int × (List Int))) =>
    Let ([] : (List Int)) fun (more : (List Int)) =>
    ((rng1R many).bind fun (r10 : (List Int)) => forR r10 (r8.1, more) (fun (k : Int) (s11 : (Int × (List Int))) => (Let (((s11.1 * (48271 : Int)) + (12345 : Int)) % (2147483647 : Int)) fun (seed : Int) =>
    (appR s11.2 ((seed / (7 : Int)) % (1000 : Int))).bind fun (r16 : (List Int)) =>
    .ok (seed, r16) : Ro (Int × (List Int))))).bind fun (s21 : (Int × (List Int))) =>
    (catR s21.2 r8.2).bind fun (r22 : (List Int)) => .ok (r22, r8.2)
theorem s_law_more (draws : (List Int)) (many : Int) : EvF (f__law_more [.own (.lst (draws.map eI)), .val (eI many)]) (p_law_more draws many) (fun (b : ((List Int) × (List Int))) => (.new (.lst (b.1.map eI)) : Wv)) (fun (b : ((List Int) × (List Int))) s => s.head? = some (.own true (.lst (b.2.map eI)))) :=
  tf_mk (X := fun _ => True) (t := true) (F0 := [.own true (.lst (draws.map eI)), .val false (eI many), .un, .un, .un]) rfl (tg_E (G := (fun (r8 : (Int × (List Int))) => ([.own true (.lst (r8.2.map eI)), .val false (eI many), .val false (eI r8.1), .un, .un] : Sl))) (es_asg (wf := (fun (r8 : (Int × (List Int))) => (.val (eI r8.1) : Wv))) (G := (fun (r8 : (Int × (List Int))) => ([.own true (.lst (r8.2.map eI)), .val false (eI many), .un, .un, .un] : Sl))) (ev_binEP (wa := (fun (r6 : (Int × (List Int))) => (.val (eI r6.1) : Wv))) (Ga := (fun (r6 : (Int × (List Int))) => ([.own true (.lst (r6.2.map eI)), .val false (eI many), .un, .un, .un] : Sl))) (wb := (fun (r6 : (Int × (List Int))) => (.val (eI (1 : Int)) : Wv))) (Gb := (fun (r6 : (Int × (List Int))) => ([.own true (.lst (r6.2.map eI)), .val false (eI many), .un, .un, .un] : Sl))) (ev_binEE (wa := (fun (r3 : (Int × (List Int))) => (.val (eI r3.1) : Wv))) (Ga := (fun (r3 : (Int × (List Int))) => ([.own true (.lst (r3.2.map eI)), .val false (eI many), .un, .un, .un] : Sl))) (wb := fun (r3 : (Int × (List Int))) => (fun (r4 : (Int × (List Int))) => (.val (eI r4.1) : Wv))) (Gb := fun (r3 : (Int × (List Int))) => (fun (r4 : (Int × (List Int))) => ([.own true (.lst (r4.2.map eI)), .val false (eI many), .un, .un, .un] : Sl))) (ev_binPE (wb := (fun (r1 : (Int × (List Int))) => (.val (eI r1.1) : Wv))) (Gb := (fun (r1 : (Int × (List Int))) => ([.own true (.lst (r1.2.map eI)), .val false (eI many), .un, .un, .un] : Sl))) rfl (ev_P (pa_cons rfl pa_nil) (tc1 (H := fun (r1 : (Int × (List Int))) => ([.own true (.lst (r1.2.map eI)), .val false (eI many), .un, .un, .un] : Sl)) (c' := fun (r1 : (Int × (List Int))) => .lst (r1.2.map eI)) rfl rfl rfl (s_law_next draws) rfl (fun _ _ h => h) (fun _ => rfl))) (fun (r1 : (Int × (List Int))) => (ev_ok (o_mul (cMul_l (i := 1000) (by decide)))))) (fun (r3 : (Int × (List Int))) => (ev_P (pa_cons rfl pa_nil) (tc1 (H := fun (r4 : (Int × (List Int))) => ([.own true (.lst (r4.2.map eI)), .val false (eI many), .un, .un, .un] : Sl)) (c' := fun (r4 : (Int × (List Int))) => .lst (r4.2.map eI)) rfl rfl rfl (s_law_next r3.2) rfl (fun _ _ h => h) (fun _ => rfl)))) (fun (r3 : (Int × (List Int))) (r4 : (Int × (List Int))) => (ev_ok rfl))) (fun (r6 : (Int × (List Int))) => rfl) (fun (r6 : (Int × (List Int))) => (ev_ok rfl))) (fun _ => rfl)) fun (r8 : (Int × (List Int))) =>
    (tg_let (v := ([] : (List Int))) (G := fun (more : (List Int)) => ([.own true (.lst (r8.2.map eI)), .val false (eI many), .val false (eI r8.1), .own false (.lst (more.map eI)), .un] : Sl)) (asg_ok (bnd_P (u := (.new (.lst (([] : (List Int)).map eI)) : Wv)) pa_nil rfl) rfl) fun (more : (List Int)) =>
    (tg_E (G := (fun (s21 : (Int × (List Int))) => ([.own true (.lst (r8.2.map eI)), .val false (eI many), .val false (eI s21.1), .own false (.lst (s21.2.map eI)), .un] : Sl))) (ev_E (w := fun (r10 : (List Int)) => r10.map eI) (G1 := (fun (r10 : (List Int)) => ([.own true (.lst (r8.2.map eI)), .val false (eI many), .val false (eI r8.1), .own false (.lst (more.map eI)), .un] : Sl))) (ev_P (pa_cons rfl pa_nil) g_rng1) (fun (r10 : (List Int)) => (ev_loop (e := eI) (G := fun (s11 : (Int × (List Int))) => ([.own true (.lst (r8.2.map eI)), .val false (eI many), .val false (eI s11.1), .own false (.lst (s11.2.map eI)), .un] : Sl)) (T := fun (k : Int) (s11 : (Int × (List Int))) => ([.own true (.lst (r8.2.map eI)), .val false (eI many), .val false (eI s11.1), .own false (.lst (s11.2.map eI)), .val false (eI k)] : Sl)) (f := (fun (k : Int) (s11 : (Int × (List Int))) => (Let (((s11.1 * (48271 : Int)) + (12345 : Int)) % (2147483647 : Int)) fun (seed : Int) =>
    (appR s11.2 ((seed / (7 : Int)) % (1000 : Int))).bind fun (r16 : (List Int)) =>
    .ok (seed, r16) : Ro (Int × (List Int))))) (fun _ _ => rfl) (fun (k : Int) (s11 : (Int × (List Int))) => (tg_let (v := (((s11.1 * (48271 : Int)) + (12345 : Int)) % (2147483647 : Int))) (G := fun (seed : Int) => ([.own true (.lst (r8.2.map eI)), .val false (eI many), .val false (eI seed), .own false (.lst (s11.2.map eI)), .val false (eI k)] : Sl)) (asg_ok (pv_bin (bnd_P (u := (.val (eI ((s11.1 * (48271 : Int)) + (12345 : Int))) : Wv)) (pa_cons (pv_bin (pv_bin rfl rfl (o_mul (cMul_r (j := 48271) (by decide)))) rfl rfl) pa_nil) rfl) rfl (o_mod rfl)) rfl) fun (seed : Int) =>
    (tg_E (G := (fun (r16 : (List Int)) => ([.own true (.lst (r8.2.map eI)), .val false (eI many), .val false (eI seed), .own false (.lst (r16.map eI)), .val false (eI k)] : Sl))) (es_ex (wf := (fun (r16 : (List Int)) => (.val (eN ()) : Wv))) (G := (fun (r16 : (List Int)) => ([.own true (.lst (r8.2.map eI)), .val false (eI many), .val false (eI seed), .own false (.lst (r16.map eI)), .val false (eI k)] : Sl))) (ev_app (e := eI) (x := ((seed / (7 : Int)) % (1000 : Int))) (F2 := [.own true (.lst (r8.2.map eI)), .val false (eI many), .val false (eI seed), .own false (.lst (s11.2.map eI)), .val false (eI k)]) (H := fun (l17 : (List Int)) => ([.own true (.lst (r8.2.map eI)), .val false (eI many), .val false (eI seed), .own false (.lst (l17.map eI)), .val false (eI k)] : Sl)) rfl (pv_bin (bnd_P (u := (.val (eI (seed / (7 : Int))) : Wv)) (pa_cons (pv_bin rfl rfl (o_div rfl)) pa_nil) rfl) rfl (o_mod rfl)) rfl rfl (fun _ => rfl))) fun (r16 : (List Int)) =>
    (tg_P rfl (tg_nx (.inl rfl)))))) r10 (r8.1, more)))) fun (s21 : (Int × (List Int))) =>
    (tg_rtM (wf := (fun (r22 : (List Int)) => (.new (.lst (r22.map eI)) : Wv))) (G := (fun (r22 : (List Int)) => ([.own true (.lst (r8.2.map eI)), .val false (eI many), .val false (eI s21.1), .own false (.lst (s21.2.map eI)), .un] : Sl))) (g := fun (r22 : (List Int)) => (r22, r8.2)) (ev_binPP rfl rfl (g_catL (e := eI) rfl rfl rfl rfl)) (fun (r22 : (List Int)) => ⟨_, rfl, rfl⟩)))))

def b__law_pick : M SO := (sRt (bin (nm 1) (bin (bnd (acons (bnd (acons (nm 0) anil) (callM 1 f__law_next)) anil) intW) (bnd (acons (nm 1) anil) lenW) iMod) ixW))
def f__law_pick : DT.Fn := endF 2 b__law_pick
def p_law_pick {α_a : Type} (draws : (List Int)) (some_ : (List α_a)) : Ro (α_a × (List Int)) :=
  (((((p_law_next draws).noEx).bind fun (r1 : (Int × (List Int))) => .ok (r1.1, r1.2)).bind fun (r3 : (Int × (List Int))) => (modR r3.1 (some_.length : Int)).bind fun (r5 : Int) => .ok (r5, r3.2)).bind fun (r6 : (Int × (List Int))) => (ixR some_ r6.1).bind fun (r7 : α_a) => .ok (r7, r6.2)).bind fun (r8 : (α_a × (List Int))) => .ok (r8.1, r8.2)
theorem s_law_pick {α_a : Type} {e_a : α_a → D} (draws : (List Int)) (some_ : (List α_a)) : EvF (f__law_pick [.own (.lst (draws.map eI)), .val ((eL e_a) some_)]) (p_law_pick draws some_) (fun (b : (α_a × (List Int))) => (.val (e_a b.1) : Wv)) (fun (b : (α_a × (List Int))) s => s.head? = some (.own true (.lst (b.2.map eI)))) :=
  tf_mk (X := fun _ => True) (t := true) (F0 := [.own true (.lst (draws.map eI)), .val false ((eL e_a) some_)]) rfl (tg_rtM (wf := (fun (r8 : (α_a × (List Int))) => (.val (e_a r8.1) : Wv))) (G := (fun (r8 : (α_a × (List Int))) => ([.own true (.lst (r8.2.map eI)), .val false ((eL e_a) some_)] : Sl))) (g := fun (r8 : (α_a × (List Int))) => (r8.1, r8.2)) (ev_binPE (wb := (fun (r6 : (Int × (List Int))) => (.val (eI r6.1) : Wv))) (Gb := (fun (r6 : (Int × (List Int))) => ([.own true (.lst (r6.2.map eI)), .val false ((eL e_a) some_)] : Sl))) rfl (ev_binEP (wa := (fun (r3 : (Int × (List Int))) => (.val (eI r3.1) : Wv))) (Ga := (fun (r3 : (Int × (List Int))) => ([.own true (.lst (r3.2.map eI)), .val false ((eL e_a) some_)] : Sl))) (wb := (fun (r3 : (Int × (List Int))) => (.val (eI (some_.length : Int)) : Wv))) (Gb := (fun (r3 : (Int × (List Int))) => ([.own true (.lst (r3.2.map eI)), .val false ((eL e_a) some_)] : Sl))) (ev_E (w := fun (r1 : (Int × (List Int))) => [.val (eI r1.1)]) (G1 := (fun (r1 : (Int × (List Int))) => ([.own true (.lst (r1.2.map eI)), .val false ((eL e_a) some_)] : Sl))) (ea_EP (wa := (fun (r1 : (Int × (List Int))) => (.val (eI r1.1) : Wv))) (Ga := (fun (r1 : (Int × (List Int))) => ([.own true (.lst (r1.2.map eI)), .val false ((eL e_a) some_)] : Sl))) (wb := fun (r1 : (Int × (List Int))) => []) (Gb := (fun (r1 : (Int × (List Int))) => ([.own true (.lst (r1.2.map eI)), .val false ((eL e_a) some_)] : Sl))) (ev_P (pa_cons rfl pa_nil) (tc1 (H := fun (r1 : (Int × (List Int))) => ([.own true (.lst (r1.2.map eI)), .val false ((eL e_a) some_)] : Sl)) (c' := fun (r1 : (Int × (List Int))) => .lst (r1.2.map eI)) rfl rfl rfl (s_law_next draws) rfl (fun _ _ h => h) (fun _ => rfl))) (fun (r1 : (Int × (List Int))) => pa_nil)) (fun (r1 : (Int × (List Int))) => (ev_ok rfl))) (fun (r3 : (Int × (List Int))) => (bnd_P (u := (.val (eI (some_.length : Int)) : Wv)) (pa_cons rfl pa_nil) (o_len (e := e_a) rfl))) (fun (r3 : (Int × (List Int))) => (ev_map (f := fun (r5 : Int) => (r5, r3.2)) g_mod))) (fun (r6 : (Int × (List Int))) => (ev_map (f := fun (r7 : α_a) => (r7, r6.2)) (g_ix (e := e_a) rfl)))) (fun (r8 : (α_a × (List Int))) => ⟨_, rfl, rfl⟩))

def b__law_weights : M SO := (sq (asg 2 (bnd (acons (nm 0) (acons (bnd (bnd (acons (cst (.int 2)) (acons (cst (.int 6)) (acons (cst (.int 20)) (acons (cst (.int 1000)) anil)))) mkLst) frV) anil)) (callM 2 f__law_pick)))
    (sRt (bnd (acons (lcM [3] (bnd (acons (nm 1) anil) rng1W) (gN 3) (ret true) (bin (bnd (acons (bnd (acons (nm 0) anil) (callM 1 f__law_next)) anil) intW) (nm 2) iMod)) anil) tupleW)))
def f__law_weights : DT.Fn := endF 4 b__law_weights
def p_law_weights (draws : (List Int)) (n : Int) : Ro ((List Int) × (List Int)) :=
  ((p_law_pick draws ([(2 : Int), (6 : Int), (20 : Int), (1000 : Int)] : (List Int))).noEx).bind fun (r1 : (Int × (List Int))) =>
    (((rng1R n).bind fun (r2 : (List Int)) => ((szR r2.length ()).bind fun _ => (mapS r2 r1.2 (fun (place : Int) (s8 : (List Int)) => (((((p_law_next s8).noEx).bind fun (r9 : (Int × (List Int))) => .ok (r9.1, r9.2)).bind fun (r11 : (Int × (List Int))) => (modR r11.1 r1.1).bind fun (r12 : Int) => .ok (r12, r11.2)).bind fun (r13 : (Int × (List Int))) => .ok (r13.1, r13.2) : Ro (Int × (List Int))))).noEx).bind fun (r15 : (List Int × (List Int))) => .ok (r15.1, r15.2)).bind fun (r17 : ((List Int) × (List Int))) => .ok (r17.1, r17.2)).bind fun (r19 : ((List Int) × (List Int))) => .ok (r19.1, r19.2)
theorem s_law_weights (draws : (List Int)) (n : Int) : EvF (f__law_weights [.own (.lst (draws.map eI)), .val (eI n)]) (p_law_weights draws n) (fun (b : ((List Int) × (List Int))) => (.val ((eT eI) b.1) : Wv)) (fun (b : ((List Int) × (List Int))) s => s.head? = some (.own true (.lst (b.2.map eI)))) :=
  tf_mk (X := fun _ => True) (t := true) (F0 := [.own true (.lst (draws.map eI)), .val false (eI n), .un, .un]) rfl (tg_E (G := (fun (r1 : (Int × (List Int))) => ([.own true (.lst (r1.2.map eI)), .val false (eI n), .val false (eI r1.1), .un] : Sl))) (es_asg (wf := (fun (r1 : (Int × (List Int))) => (.val (eI r1.1) : Wv))) (G := (fun (r1 : (Int × (List Int))) => ([.own true (.lst (r1.2.map eI)), .val false (eI n), .un, .un] : Sl))) (ev_P (pa_cons rfl (pa_cons (bnd_P (bnd_P (u := (.new (.lst (([(2 : Int), (6 : Int), (20 : Int), (1000 : Int)] : (List Int)).map eI)) : Wv)) (pa_cons rfl (pa_cons rfl (pa_cons rfl (pa_cons rfl pa_nil)))) rfl) rfl) pa_nil)) (tc1 (H := fun (r1 : (Int × (List Int))) => ([.own true (.lst (r1.2.map eI)), .val false (eI n), .un, .un] : Sl)) (c' := fun (r1 : (Int × (List Int))) => .lst (r1.2.map eI)) rfl rfl rfl (s_law_pick (e_a := eI) draws ([(2 : Int), (6 : Int), (20 : Int), (1000 : Int)] : (List Int))) rfl (fun _ _ h => h) (fun _ => rfl))) (fun _ => rfl)) fun (r1 : (Int × (List Int))) =>
    (tg_rtM (wf := (fun (r19 : ((List Int) × (List Int))) => (.val ((eT eI) r19.1) : Wv))) (G := (fun (r19 : ((List Int) × (List Int))) => ([.own true (.lst (r19.2.map eI)), .val false (eI n), .val false (eI r1.1), .un] : Sl))) (g := fun (r19 : ((List Int) × (List Int))) => (r19.1, r19.2)) (ev_E (w := fun (r17 : ((List Int) × (List Int))) => [.new (.lst (r17.1.map eI))]) (G1 := (fun (r17 : ((List Int) × (List Int))) => ([.own true (.lst (r17.2.map eI)), .val false (eI n), .val false (eI r1.1), .un] : Sl))) (ea_EP (wa := (fun (r17 : ((List Int) × (List Int))) => (.new (.lst (r17.1.map eI)) : Wv))) (Ga := (fun (r17 : ((List Int) × (List Int))) => ([.own true (.lst (r17.2.map eI)), .val false (eI n), .val false (eI r1.1), .un] : Sl))) (wb := fun (r17 : ((List Int) × (List Int))) => []) (Gb := (fun (r17 : ((List Int) × (List Int))) => ([.own true (.lst (r17.2.map eI)), .val false (eI n), .val false (eI r1.1), .un] : Sl))) (ev_lcE (ds := fun (r2 : (List Int)) => r2.map eI) (G1 := (fun (r2 : (List Int)) => ([.own true (.lst (r1.2.map eI)), .val false (eI n), .val false (eI r1.1), .un] : Sl))) (ev_P (pa_cons rfl pa_nil) g_rng1) (fun (r2 : (List Int)) => (ev_map (f := fun (r15 : (List Int × (List Int))) => (r15.1, r15.2)) (ev_lcS (e := eI) (e' := eI) (xs := r2) (s0 := r1.2) (Gw := fun (s8 : (List Int)) => ([.own true (.lst (s8.map eI)), .val false (eI n), .val false (eI r1.1), .un] : Sl)) (G2 := fun (s16 : (List Int)) => ([.own true (.lst (s16.map eI)), .val false (eI n), .val false (eI r1.1), .un] : Sl)) (T := fun (place : Int) (s8 : (List Int)) => ([.own true (.lst (s8.map eI)), .val false (eI n), .val false (eI r1.1), .val false (eI place)] : Sl)) (T' := fun (place : Int) (s8 : (List Int)) (z14 : (Int × (List Int))) => ([.own true (.lst (z14.2.map eI)), .val false (eI n), .val false (eI r1.1), .val false (eI place)] : Sl)) (f := (fun (place : Int) (s8 : (List Int)) => (((((p_law_next s8).noEx).bind fun (r9 : (Int × (List Int))) => .ok (r9.1, r9.2)).bind fun (r11 : (Int × (List Int))) => (modR r11.1 r1.1).bind fun (r12 : Int) => .ok (r12, r11.2)).bind fun (r13 : (Int × (List Int))) => .ok (r13.1, r13.2) : Ro (Int × (List Int))))) rfl rfl (fun _ _ => rfl) (fun (place : Int) (s8 : (List Int)) => (ev_E2 (w := (fun (z14 : (Int × (List Int))) => (.val (eI z14.1) : Wv))) (G1 := (fun (z14 : (Int × (List Int))) => ([.own true (.lst (z14.2.map eI)), .val false (eI n), .val false (eI r1.1), .val false (eI place)] : Sl))) (w2 := fun (z14 : (Int × (List Int))) => (eI z14.1 : D)) (G := (fun (z14 : (Int × (List Int))) => ([.own true (.lst (z14.2.map eI)), .val false (eI n), .val false (eI r1.1), .val false (eI place)] : Sl))) (ev_map (f := fun (r13 : (Int × (List Int))) => (r13.1, r13.2)) (ev_binEP (wa := (fun (r11 : (Int × (List Int))) => (.val (eI r11.1) : Wv))) (Ga := (fun (r11 : (Int × (List Int))) => ([.own true (.lst (r11.2.map eI)), .val false (eI n), .val false (eI r1.1), .val false (eI place)] : Sl))) (wb := (fun (r11 : (Int × (List Int))) => (.val (eI r1.1) : Wv))) (Gb := (fun (r11 : (Int × (List Int))) => ([.own true (.lst (r11.2.map eI)), .val false (eI n), .val false (eI r1.1), .val false (eI place)] : Sl))) (ev_E (w := fun (r9 : (Int × (List Int))) => [.val (eI r9.1)]) (G1 := (fun (r9 : (Int × (List Int))) => ([.own true (.lst (r9.2.map eI)), .val false (eI n), .val false (eI r1.1), .val false (eI place)] : Sl))) (ea_EP (wa := (fun (r9 : (Int × (List Int))) => (.val (eI r9.1) : Wv))) (Ga := (fun (r9 : (Int × (List Int))) => ([.own true (.lst (r9.2.map eI)), .val false (eI n), .val false (eI r1.1), .val false (eI place)] : Sl))) (wb := fun (r9 : (Int × (List Int))) => []) (Gb := (fun (r9 : (Int × (List Int))) => ([.own true (.lst (r9.2.map eI)), .val false (eI n), .val false (eI r1.1), .val false (eI place)] : Sl))) (ev_P (pa_cons rfl pa_nil) (tc1 (H := fun (r9 : (Int × (List Int))) => ([.own true (.lst (r9.2.map eI)), .val false (eI n), .val false (eI r1.1), .val false (eI place)] : Sl)) (c' := fun (r9 : (Int × (List Int))) => .lst (r9.2.map eI)) rfl rfl rfl (s_law_next s8) rfl (fun _ _ h => h) (fun _ => rfl))) (fun (r9 : (Int × (List Int))) => pa_nil)) (fun (r9 : (Int × (List Int))) => (ev_ok rfl))) (fun (r11 : (Int × (List Int))) => rfl) (fun (r11 : (Int × (List Int))) => (ev_map (f := fun (r12 : Int) => (r12, r11.2)) g_mod)))) (fun _ => rfl))) (fun _ _ _ => rfl) (fun _ => rfl))))) (fun (r17 : ((List Int) × (List Int))) => pa_nil)) (fun (r17 : ((List Int) × (List Int))) => (ev_ok rfl))) (fun (r19 : ((List Int) × (List Int))) => ⟨_, rfl, rfl⟩)))

def b__law_all_cuts : M SO := (sq (asg 2 (bnd (acons (bnd anil mkTup) anil) mkLst))
    (sq (forM (bnd (acons (bin (nm 1) (cst (.int 1)) iSub) anil) rng1W) (gN 3) (sq (asg 4 (bnd anil mkLst))
    (sq (forM (bnd (nm 2) itW) (gN 5) (sq (sEx (mthP isLst 4 (acons (lcM [6] (bnd (acons (iteM (tst (nm 5)) (bin (bin (nm 5) (un1 (cst (.int 1)) iNeg) ixW) (cst (.int 1)) addW) (cst (.int 1))) (acons (nm 0) anil)) rng2W) (gN 6) (ret true) (bin (nm 5) (bnd (acons (nm 6) anil) mkTup) addW)) anil) oExtend))
    (sq (ghK [5]) sNx)))
    (sq (asg 2 (nm 4))
    (sq (ghK [3]) sNx)))))
    (sRt (nm 2))))
def f__law_all_cuts : DT.Fn := endF 7 b__law_all_cuts
def p_law_all_cuts (n : Int) (k : Int) : Ro (List (List Int)) :=
  Let ([([] : (List Int))] : (List (List Int))) fun (found : (List (List Int))) =>
    ((rng1R (k - (1 : Int))).bind fun (r4 : (List Int)) => forR r4 found (fun (turn : Int) (s5 : (List (List Int))) => (Let ([] : (List (List Int))) fun (longer : (List (List Int))) =>
    (forR s5 longer (fun (cuts : (List Int)) (s6 : (List (List Int))) => (((((if (!cuts.isEmpty) = true then (ixR cuts (-1 : Int)).bind fun (r9 : Int) => .ok (r9 + (1 : Int)) else .ok (1 : Int)).bind fun (r12 : Int) => rng2R r12 n).bind fun (r13 : (List Int)) => (szR r13.length ()).bind fun _ => (mapR r13 (fun (place : Int) => (catR cuts ([place] : (List Int)) : Ro (List Int)))).noEx).bind fun (r16 : (List (List Int))) => (catR s6 r16).bind fun (l8 : (List (List Int))) => .ok (r16, l8)).bind fun (r7 : ((List (List Int)) × (List (List Int)))) =>
    .ok r7.2 : Ro (List (List Int))))).bind fun (s17 : (List (List Int))) =>
    .ok s17 : Ro (List (List Int))))).bind fun (s18 : (List (List Int))) =>
    .ok s18
theorem s_law_all_cuts (n : Int) (k : Int) : EvF (f__law_all_cuts [.val (eI n), .val (eI k)]) (p_law_all_cuts n k) (fun (b : (List (List Int))) => (.new (.lst (b.map (eT eI))) : Wv)) (fun (_ : (List (List Int))) _ => True) :=
  tf_mk (X := fun _ => True) (t := true) (F0 := [.val false (eI n), .val false (eI k), .un, .un, .un, .un, .un]) rfl (tg_let (v := ([([] : (List Int))] : (List (List Int)))) (G := fun (found : (List (List Int))) => ([.val false (eI n), .val false (eI k), .own false (.lst (found.map (eT eI))), .un, .un, .un, .un] : Sl)) (asg_ok (bnd_P (u := (.new (.lst (([([] : (List Int))] : (List (List Int))).map (eT eI))) : Wv)) (pa_cons (bnd_P (u := (.val ((eT eI) ([] : (List Int))) : Wv)) pa_nil rfl) pa_nil) rfl) rfl) fun (found : (List (List Int))) =>
    (tg_E (G := (fun (s18 : (List (List Int))) => ([.val false (eI n), .val false (eI k), .own false (.lst (s18.map (eT eI))), .un, .un, .un, .un] : Sl))) (ev_E (w := fun (r4 : (List Int)) => r4.map eI) (G1 := (fun (r4 : (List Int)) => ([.val false (eI n), .val false (eI k), .own false (.lst (found.map (eT eI))), .un, .un, .un, .un] : Sl))) (ev_P (pa_cons (pv_bin rfl rfl rfl) pa_nil) g_rng1) (fun (r4 : (List Int)) => (ev_loop (e := eI) (G := fun (s5 : (List (List Int))) => ([.val false (eI n), .val false (eI k), .own false (.lst (s5.map (eT eI))), .un, .un, .un, .un] : Sl)) (T := fun (turn : Int) (s5 : (List (List Int))) => ([.val false (eI n), .val false (eI k), .own false (.lst (s5.map (eT eI))), .val false (eI turn), .un, .un, .un] : Sl)) (f := (fun (turn : Int) (s5 : (List (List Int))) => (Let ([] : (List (List Int))) fun (longer : (List (List Int))) =>
    (forR s5 longer (fun (cuts : (List Int)) (s6 : (List (List Int))) => (((((if (!cuts.isEmpty) = true then (ixR cuts (-1 : Int)).bind fun (r9 : Int) => .ok (r9 + (1 : Int)) else .ok (1 : Int)).bind fun (r12 : Int) => rng2R r12 n).bind fun (r13 : (List Int)) => (szR r13.length ()).bind fun _ => (mapR r13 (fun (place : Int) => (catR cuts ([place] : (List Int)) : Ro (List Int)))).noEx).bind fun (r16 : (List (List Int))) => (catR s6 r16).bind fun (l8 : (List (List Int))) => .ok (r16, l8)).bind fun (r7 : ((List (List Int)) × (List (List Int)))) =>
    .ok r7.2 : Ro (List (List Int))))).bind fun (s17 : (List (List Int))) =>
    .ok s17 : Ro (List (List Int))))) (fun _ _ => rfl) (fun (turn : Int) (s5 : (List (List Int))) => (tg_let (v := ([] : (List (List Int)))) (G := fun (longer : (List (List Int))) => ([.val false (eI n), .val false (eI k), .own false (.lst (s5.map (eT eI))), .val false (eI turn), .own false (.lst (longer.map (eT eI))), .un, .un] : Sl)) (asg_ok (bnd_P (u := (.new (.lst (([] : (List (List Int))).map (eT eI))) : Wv)) pa_nil rfl) rfl) fun (longer : (List (List Int))) =>
    (tg_E (G := (fun (s17 : (List (List Int))) => ([.val false (eI n), .val false (eI k), .val false ((eL (eT eI)) s5), .val false (eI turn), .own false (.lst (s17.map (eT eI))), .un, .un] : Sl))) (ev_P (bnd_P (u := s5.map (eT eI)) rfl rfl) (ev_loop (e := (eT eI)) (G := fun (s6 : (List (List Int))) => ([.val false (eI n), .val false (eI k), .val false ((eL (eT eI)) s5), .val false (eI turn), .own false (.lst (s6.map (eT eI))), .un, .un] : Sl)) (T := fun (cuts : (List Int)) (s6 : (List (List Int))) => ([.val false (eI n), .val false (eI k), .val false ((eL (eT eI)) s5), .val false (eI turn), .own false (.lst (s6.map (eT eI))), .val false ((eT eI) cuts), .un] : Sl)) (f := (fun (cuts : (List Int)) (s6 : (List (List Int))) => (((((if (!cuts.isEmpty) = true then (ixR cuts (-1 : Int)).bind fun (r9 : Int) => .ok (r9 + (1 : Int)) else .ok (1 : Int)).bind fun (r12 : Int) => rng2R r12 n).bind fun (r13 : (List Int)) => (szR r13.length ()).bind fun _ => (mapR r13 (fun (place : Int) => (catR cuts ([place] : (List Int)) : Ro (List Int)))).noEx).bind fun (r16 : (List (List Int))) => (catR s6 r16).bind fun (l8 : (List (List Int))) => .ok (r16, l8)).bind fun (r7 : ((List (List Int)) × (List (List Int)))) =>
    .ok r7.2 : Ro (List (List Int))))) (fun _ _ => rfl) (fun (cuts : (List Int)) (s6 : (List (List Int))) => (tg_E (G := (fun (r7 : ((List (List Int)) × (List (List Int)))) => ([.val false (eI n), .val false (eI k), .val false ((eL (eT eI)) s5), .val false (eI turn), .own false (.lst (r7.2.map (eT eI))), .val false ((eT eI) cuts), .un] : Sl))) (es_ex (wf := (fun (r7 : ((List (List Int)) × (List (List Int)))) => (.val (eN ()) : Wv))) (G := (fun (r7 : ((List (List Int)) × (List (List Int)))) => ([.val false (eI n), .val false (eI k), .val false ((eL (eT eI)) s5), .val false (eI turn), .own false (.lst (r7.2.map (eT eI))), .val false ((eT eI) cuts), .un] : Sl))) (ev_extE (e := (eT eI)) (w := (fun (r16 : (List (List Int))) => (.new (.lst (r16.map (eT eI))) : Wv))) (G := (fun (r16 : (List (List Int))) => ([.val false (eI n), .val false (eI k), .val false ((eL (eT eI)) s5), .val false (eI turn), .own false (.lst (s6.map (eT eI))), .val false ((eT eI) cuts), .un] : Sl))) (ys := fun (r16 : (List (List Int))) => r16) (F2 := (fun (r16 : (List (List Int))) => ([.val false (eI n), .val false (eI k), .val false ((eL (eT eI)) s5), .val false (eI turn), .own false (.lst (s6.map (eT eI))), .val false ((eT eI) cuts), .un] : Sl))) (xs := fun (r16 : (List (List Int))) => s6) (H := fun (r16 : (List (List Int))) (l8 : (List (List Int))) => ([.val false (eI n), .val false (eI k), .val false ((eL (eT eI)) s5), .val false (eI turn), .own false (.lst (l8.map (eT eI))), .val false ((eT eI) cuts), .un] : Sl)) (ev_lcE (ds := fun (r13 : (List Int)) => r13.map eI) (G1 := (fun (r13 : (List Int)) => ([.val false (eI n), .val false (eI k), .val false ((eL (eT eI)) s5), .val false (eI turn), .own false (.lst (s6.map (eT eI))), .val false ((eT eI) cuts), .un] : Sl))) (ev_E (w := fun (r12 : Int) => [.val (eI r12), .val (eI n)]) (G1 := (fun (r12 : Int) => ([.val false (eI n), .val false (eI k), .val false ((eL (eT eI)) s5), .val false (eI turn), .own false (.lst (s6.map (eT eI))), .val false ((eT eI) cuts), .un] : Sl))) (ea_EP (wa := (fun (r12 : Int) => (.val (eI r12) : Wv))) (Ga := (fun (r12 : Int) => ([.val false (eI n), .val false (eI k), .val false ((eL (eT eI)) s5), .val false (eI turn), .own false (.lst (s6.map (eT eI))), .val false ((eT eI) cuts), .un] : Sl))) (wb := fun (r12 : Int) => [.val (eI n)]) (Gb := (fun (r12 : Int) => ([.val false (eI n), .val false (eI k), .val false ((eL (eT eI)) s5), .val false (eI turn), .own false (.lst (s6.map (eT eI))), .val false ((eT eI) cuts), .un] : Sl))) (ev_iteP (w := (fun (r12 : Int) => (.val (eI r12) : Wv))) (G := (fun (r12 : Int) => ([.val false (eI n), .val false (eI k), .val false ((eL (eT eI)) s5), .val false (eI turn), .own false (.lst (s6.map (eT eI))), .val false ((eT eI) cuts), .un] : Sl))) (pt_tst rfl (tru_tup)) (ev_binEP (wa := (fun (r9 : Int) => (.val (eI r9) : Wv))) (Ga := (fun (r9 : Int) => ([.val false (eI n), .val false (eI k), .val false ((eL (eT eI)) s5), .val false (eI turn), .own false (.lst (s6.map (eT eI))), .val false ((eT eI) cuts), .un] : Sl))) (wb := (fun (r9 : Int) => (.val (eI (1 : Int)) : Wv))) (Gb := (fun (r9 : Int) => ([.val false (eI n), .val false (eI k), .val false ((eL (eT eI)) s5), .val false (eI turn), .own false (.lst (s6.map (eT eI))), .val false ((eT eI) cuts), .un] : Sl))) (ev_binPP rfl (pv_un rfl rfl) (g_ix (e := eI) rfl)) (fun (r9 : Int) => rfl) (fun (r9 : Int) => (ev_ok rfl))) (ev_ok rfl)) (fun (r12 : Int) => (pa_cons rfl pa_nil))) (fun _ => g_rng2)) (fun (r13 : (List Int)) => (ev_lcR (e := eI) (e' := (eT eI)) (xs := r13) (Fw := [.val false (eI n), .val false (eI k), .val false ((eL (eT eI)) s5), .val false (eI turn), .own false (.lst (s6.map (eT eI))), .val false ((eT eI) cuts), .un]) (F2 := [.val false (eI n), .val false (eI k), .val false ((eL (eT eI)) s5), .val false (eI turn), .own false (.lst (s6.map (eT eI))), .val false ((eT eI) cuts), .un]) (T := (fun (place : Int) => ([.val false (eI n), .val false (eI k), .val false ((eL (eT eI)) s5), .val false (eI turn), .own false (.lst (s6.map (eT eI))), .val false ((eT eI) cuts), .val false (eI place)] : Sl))) (f := (fun (place : Int) => (catR cuts ([place] : (List Int)) : Ro (List Int)))) rfl rfl (fun _ => rfl) (fun (place : Int) => (ev_E2 (w := (fun (r14 : (List Int)) => (.val ((eT eI) r14) : Wv))) (G1 := (fun (r14 : (List Int)) => ([.val false (eI n), .val false (eI k), .val false ((eL (eT eI)) s5), .val false (eI turn), .own false (.lst (s6.map (eT eI))), .val false ((eT eI) cuts), .val false (eI place)] : Sl))) (w2 := fun (r14 : (List Int)) => ((eT eI) r14 : D)) (G := (fun (r14 : (List Int)) => ([.val false (eI n), .val false (eI k), .val false ((eL (eT eI)) s5), .val false (eI turn), .own false (.lst (s6.map (eT eI))), .val false ((eT eI) cuts), .val false (eI place)] : Sl))) (ev_binPP rfl (bnd_P (u := (.val ((e1 eI) place) : Wv)) (pa_cons rfl pa_nil) rfl) (g_catT (e := eI) rfl rfl)) (fun _ => rfl))) (fun _ => rfl) rfl))) rfl rfl (fun _ => rfl) (fun _ => rfl) (fun _ _ => rfl))) fun (r7 : ((List (List Int)) × (List (List Int)))) =>
    (tg_P rfl (tg_nx (.inl rfl))))) s5 longer)) fun (s17 : (List (List Int))) =>
    (tg_P (F' := [.val false (eI n), .val false (eI k), .own false (.lst (s17.map (eT eI))), .val false (eI turn), .un, .un, .un]) (asg_ok rfl rfl)
    (tg_P rfl (tg_nx (.inl rfl))))))) r4 found))) fun (s18 : (List (List Int))) =>
    (tg_rtP rfl ⟨_, rfl, trivial⟩)))

def b__law_ring_parts : M SO := (sq (asg 2 (bnd (acons (nm 0) anil) lenW))
    (sq (asg 3 (bnd anil mkLst))
    (sq (forM (bnd (acons (bnd (acons (nm 1) anil) lenW) anil) rng1W) (gN 4) (sq (asgP [5, 6] (acons (bin (nm 1) (nm 4) ixW) (acons (iteM (tstB (bin (bin (nm 4) (cst (.int 1)) addW) (bnd (acons (nm 1) anil) lenW) (ltW))) (bin (nm 1) (bin (nm 4) (cst (.int 1)) addW) ixW) (bin (bin (nm 1) (cst (.int 0)) ixW) (nm 2) addW)) anil)))
    (sq (sEx (mthP isLst 3 (acons (bnd (acons (lcM [7] (bnd (acons (nm 5) (acons (nm 6) anil)) rng2W) (gN 7) (ret true) (bin (nm 0) (bin (bnd (acons (nm 7) anil) intW) (nm 2) iMod) ixW)) anil) sumW) anil) oAppend))
    (sq (ghK [4]) (sq (ghK [5]) (sq (ghK [6]) sNx))))))
    (sRt (nm 3)))))
def f__law_ring_parts : DT.Fn := endF 8 b__law_ring_parts
def p_law_ring_parts (weights : (List Int)) (cuts : (List Int)) : Ro (List Int) :=
  Let (weights.length : Int) fun (n : Int) =>
    Let ([] : (List Int)) fun (found : (List Int)) =>
    ((rng1R (cuts.length : Int)).bind fun (r5 : (List Int)) => forR r5 found (fun (at_ : Int) (s6 : (List Int)) => (((ixR cuts at_).bind fun (r7 : Int) => (if (decide ((at_ + (1 : Int)) < (cuts.length : Int))) = true then ixR cuts (at_ + (1 : Int)) else (ixR cuts (0 : Int)).bind fun (r13 : Int) => .ok (r13 + n)).bind fun (r16 : Int) => .ok (r7, r16)).bind fun (z17 : (Int × Int)) =>
    ((((rng2R z17.1 z17.2).bind fun (r20 : (List Int)) => (szR r20.length ()).bind fun _ => (mapR r20 (fun (place : Int) => ((modR place n).bind fun (r22 : Int) => ixR weights r22 : Ro Int))).noEx).bind fun (r26 : (List Int)) => .ok r26.sum).bind fun (r28 : Int) => (appR s6 r28).bind fun (l19 : (List Int)) => .ok (r28, l19)).bind fun (r18 : (Int × (List Int))) =>
    .ok r18.2 : Ro (List Int)))).bind fun (s29 : (List Int)) =>
    .ok s29
theorem s_law_ring_parts (weights : (List Int)) (cuts : (List Int)) : EvF (f__law_ring_parts [.val ((eT eI) weights), .val ((eT eI) cuts)]) (p_law_ring_parts weights cuts) (fun (b : (List Int)) => (.new (.lst (b.map eI)) : Wv)) (fun (_ : (List Int)) _ => True) :=
  tf_mk (X := fun _ => True) (t := true) (F0 := [.val false ((eT eI) weights), .val false ((eT eI) cuts), .un, .un, .un, .un, .un, .un]) rfl (tg_let (v := (weights.length : Int)) (G := fun (n : Int) => ([.val false ((eT eI) weights), .val false ((eT eI) cuts), .val false (eI n), .un, .un, .un, .un, .un] : Sl)) (asg_ok (bnd_P (u := (.val (eI (weights.length : Int)) : Wv)) (pa_cons rfl pa_nil) (o_len (e := eI) rfl)) rfl) fun (n : Int) =>
    (tg_let (v := ([] : (List Int))) (G := fun (found : (List Int)) => ([.val false ((eT eI) weights), .val false ((eT eI) cuts), .val false (eI n), .own false (.lst (found.map eI)), .un, .un, .un, .un] : Sl)) (asg_ok (bnd_P (u := (.new (.lst (([] : (List Int)).map eI)) : Wv)) pa_nil rfl) rfl) fun (found : (List Int)) =>
    (tg_E (G := (fun (s29 : (List Int)) => ([.val false ((eT eI) weights), .val false ((eT eI) cuts), .val false (eI n), .own false (.lst (s29.map eI)), .un, .un, .un, .un] : Sl))) (ev_E (w := fun (r5 : (List Int)) => r5.map eI) (G1 := (fun (r5 : (List Int)) => ([.val false ((eT eI) weights), .val false ((eT eI) cuts), .val false (eI n), .own false (.lst (found.map eI)), .un, .un, .un, .un] : Sl))) (ev_P (pa_cons (bnd_P (u := (.val (eI (cuts.length : Int)) : Wv)) (pa_cons rfl pa_nil) (o_len (e := eI) rfl)) pa_nil) g_rng1) (fun (r5 : (List Int)) => (ev_loop (e := eI) (G := fun (s6 : (List Int)) => ([.val false ((eT eI) weights), .val false ((eT eI) cuts), .val false (eI n), .own false (.lst (s6.map eI)), .un, .un, .un, .un] : Sl)) (T := fun (at_ : Int) (s6 : (List Int)) => ([.val false ((eT eI) weights), .val false ((eT eI) cuts), .val false (eI n), .own false (.lst (s6.map eI)), .val false (eI at_), .un, .un, .un] : Sl)) (f := (fun (at_ : Int) (s6 : (List Int)) => (((ixR cuts at_).bind fun (r7 : Int) => (if (decide ((at_ + (1 : Int)) < (cuts.length : Int))) = true then ixR cuts (at_ + (1 : Int)) else (ixR cuts (0 : Int)).bind fun (r13 : Int) => .ok (r13 + n)).bind fun (r16 : Int) => .ok (r7, r16)).bind fun (z17 : (Int × Int)) =>
    ((((rng2R z17.1 z17.2).bind fun (r20 : (List Int)) => (szR r20.length ()).bind fun _ => (mapR r20 (fun (place : Int) => ((modR place n).bind fun (r22 : Int) => ixR weights r22 : Ro Int))).noEx).bind fun (r26 : (List Int)) => .ok r26.sum).bind fun (r28 : Int) => (appR s6 r28).bind fun (l19 : (List Int)) => .ok (r28, l19)).bind fun (r18 : (Int × (List Int))) =>
    .ok r18.2 : Ro (List Int)))) (fun _ _ => rfl) (fun (at_ : Int) (s6 : (List Int)) => (tg_E (G := (fun (z17 : (Int × Int)) => ([.val false ((eT eI) weights), .val false ((eT eI) cuts), .val false (eI n), .own false (.lst (s6.map eI)), .val false (eI at_), .val false (eI z17.1), .val false (eI z17.2), .un] : Sl))) (es_asgP (ws := fun (z17 : (Int × Int)) => [.val (eI z17.1), .val (eI z17.2)]) (G := (fun (z17 : (Int × Int)) => ([.val false ((eT eI) weights), .val false ((eT eI) cuts), .val false (eI n), .own false (.lst (s6.map eI)), .val false (eI at_), .un, .un, .un] : Sl))) (ds := fun (z17 : (Int × Int)) => [eI z17.1, eI z17.2]) (G1 := (fun (z17 : (Int × Int)) => ([.val false ((eT eI) weights), .val false ((eT eI) cuts), .val false (eI n), .own false (.lst (s6.map eI)), .val false (eI at_), .un, .un, .un] : Sl))) (ea_EE (wa := (fun (r7 : Int) => (.val (eI r7) : Wv))) (Ga := (fun (r7 : Int) => ([.val false ((eT eI) weights), .val false ((eT eI) cuts), .val false (eI n), .own false (.lst (s6.map eI)), .val false (eI at_), .un, .un, .un] : Sl))) (wb := fun (r7 : Int) (r16 : Int) => [.val (eI r16)]) (Gb := fun (r7 : Int) => (fun (r16 : Int) => ([.val false ((eT eI) weights), .val false ((eT eI) cuts), .val false (eI n), .own false (.lst (s6.map eI)), .val false (eI at_), .un, .un, .un] : Sl))) (ev_binPP rfl rfl (g_ix (e := eI) rfl)) (fun (r7 : Int) => (ea_EP (wa := (fun (r16 : Int) => (.val (eI r16) : Wv))) (Ga := (fun (r16 : Int) => ([.val false ((eT eI) weights), .val false ((eT eI) cuts), .val false (eI n), .own false (.lst (s6.map eI)), .val false (eI at_), .un, .un, .un] : Sl))) (wb := fun (r16 : Int) => []) (Gb := (fun (r16 : Int) => ([.val false ((eT eI) weights), .val false ((eT eI) cuts), .val false (eI n), .own false (.lst (s6.map eI)), .val false (eI at_), .un, .un, .un] : Sl))) (ev_iteP (w := (fun (r16 : Int) => (.val (eI r16) : Wv))) (G := (fun (r16 : Int) => ([.val false ((eT eI) weights), .val false ((eT eI) cuts), .val false (eI n), .own false (.lst (s6.map eI)), .val false (eI at_), .un, .un, .un] : Sl))) (pt_tstB (pv_bin (pv_bin rfl rfl rfl) (bnd_P (u := (.val (eI (cuts.length : Int)) : Wv)) (pa_cons rfl pa_nil) (o_len (e := eI) rfl)) rfl)) (ev_binPP rfl (pv_bin rfl rfl rfl) (g_ix (e := eI) rfl)) (ev_binEP (wa := (fun (r13 : Int) => (.val (eI r13) : Wv))) (Ga := (fun (r13 : Int) => ([.val false ((eT eI) weights), .val false ((eT eI) cuts), .val false (eI n), .own false (.lst (s6.map eI)), .val false (eI at_), .un, .un, .un] : Sl))) (wb := (fun (r13 : Int) => (.val (eI n) : Wv))) (Gb := (fun (r13 : Int) => ([.val false ((eT eI) weights), .val false ((eT eI) cuts), .val false (eI n), .own false (.lst (s6.map eI)), .val false (eI at_), .un, .un, .un] : Sl))) (ev_binPP rfl rfl (g_ix (e := eI) rfl)) (fun (r13 : Int) => rfl) (fun (r13 : Int) => (ev_ok rfl)))) (fun (r16 : Int) => pa_nil)))) (fun _ => rfl) (fun _ => rfl)) fun (z17 : (Int × Int)) =>
    (tg_E (G := (fun (r18 : (Int × (List Int))) => ([.val false ((eT eI) weights), .val false ((eT eI) cuts), .val false (eI n), .own false (.lst (r18.2.map eI)), .val false (eI at_), .val false (eI z17.1), .val false (eI z17.2), .un] : Sl))) (es_ex (wf := (fun (r18 : (Int × (List Int))) => (.val (eN ()) : Wv))) (G := (fun (r18 : (Int × (List Int))) => ([.val false ((eT eI) weights), .val false ((eT eI) cuts), .val false (eI n), .own false (.lst (r18.2.map eI)), .val false (eI at_), .val false (eI z17.1), .val false (eI z17.2), .un] : Sl))) (ev_appE (e := eI) (w := (fun (r28 : Int) => (.val (eI r28) : Wv))) (G := (fun (r28 : Int) => ([.val false ((eT eI) weights), .val false ((eT eI) cuts), .val false (eI n), .own false (.lst (s6.map eI)), .val false (eI at_), .val false (eI z17.1), .val false (eI z17.2), .un] : Sl))) (x := fun (r28 : Int) => r28) (F2 := (fun (r28 : Int) => ([.val false ((eT eI) weights), .val false ((eT eI) cuts), .val false (eI n), .own false (.lst (s6.map eI)), .val false (eI at_), .val false (eI z17.1), .val false (eI z17.2), .un] : Sl))) (xs := fun (r28 : Int) => s6) (H := fun (r28 : Int) (l19 : (List Int)) => ([.val false ((eT eI) weights), .val false ((eT eI) cuts), .val false (eI n), .own false (.lst (l19.map eI)), .val false (eI at_), .val false (eI z17.1), .val false (eI z17.2), .un] : Sl)) (ev_E (w := fun (r26 : (List Int)) => [.new (.lst (r26.map eI))]) (G1 := (fun (r26 : (List Int)) => ([.val false ((eT eI) weights), .val false ((eT eI) cuts), .val false (eI n), .own false (.lst (s6.map eI)), .val false (eI at_), .val false (eI z17.1), .val false (eI z17.2), .un] : Sl))) (ea_EP (wa := (fun (r26 : (List Int)) => (.new (.lst (r26.map eI)) : Wv))) (Ga := (fun (r26 : (List Int)) => ([.val false ((eT eI) weights), .val false ((eT eI) cuts), .val false (eI n), .own false (.lst (s6.map eI)), .val false (eI at_), .val false (eI z17.1), .val false (eI z17.2), .un] : Sl))) (wb := fun (r26 : (List Int)) => []) (Gb := (fun (r26 : (List Int)) => ([.val false ((eT eI) weights), .val false ((eT eI) cuts), .val false (eI n), .own false (.lst (s6.map eI)), .val false (eI at_), .val false (eI z17.1), .val false (eI z17.2), .un] : Sl))) (ev_lcE (ds := fun (r20 : (List Int)) => r20.map eI) (G1 := (fun (r20 : (List Int)) => ([.val false ((eT eI) weights), .val false ((eT eI) cuts), .val false (eI n), .own false (.lst (s6.map eI)), .val false (eI at_), .val false (eI z17.1), .val false (eI z17.2), .un] : Sl))) (ev_P (pa_cons rfl (pa_cons rfl pa_nil)) g_rng2) (fun (r20 : (List Int)) => (ev_lcR (e := eI) (e' := eI) (xs := r20) (Fw := [.val false ((eT eI) weights), .val false ((eT eI) cuts), .val false (eI n), .own false (.lst (s6.map eI)), .val false (eI at_), .val false (eI z17.1), .val false (eI z17.2), .un]) (F2 := [.val false ((eT eI) weights), .val false ((eT eI) cuts), .val false (eI n), .own false (.lst (s6.map eI)), .val false (eI at_), .val false (eI z17.1), .val false (eI z17.2), .un]) (T := (fun (place : Int) => ([.val false ((eT eI) weights), .val false ((eT eI) cuts), .val false (eI n), .own false (.lst (s6.map eI)), .val false (eI at_), .val false (eI z17.1), .val false (eI z17.2), .val false (eI place)] : Sl))) (f := (fun (place : Int) => ((modR place n).bind fun (r22 : Int) => ixR weights r22 : Ro Int))) rfl rfl (fun _ => rfl) (fun (place : Int) => (ev_E2 (w := (fun (r24 : Int) => (.val (eI r24) : Wv))) (G1 := (fun (r24 : Int) => ([.val false ((eT eI) weights), .val false ((eT eI) cuts), .val false (eI n), .own false (.lst (s6.map eI)), .val false (eI at_), .val false (eI z17.1), .val false (eI z17.2), .val false (eI place)] : Sl))) (w2 := fun (r24 : Int) => (eI r24 : D)) (G := (fun (r24 : Int) => ([.val false ((eT eI) weights), .val false ((eT eI) cuts), .val false (eI n), .own false (.lst (s6.map eI)), .val false (eI at_), .val false (eI z17.1), .val false (eI z17.2), .val false (eI place)] : Sl))) (ev_binPE (wb := (fun (r22 : Int) => (.val (eI r22) : Wv))) (Gb := (fun (r22 : Int) => ([.val false ((eT eI) weights), .val false ((eT eI) cuts), .val false (eI n), .own false (.lst (s6.map eI)), .val false (eI at_), .val false (eI z17.1), .val false (eI z17.2), .val false (eI place)] : Sl))) rfl (ev_binPP (bnd_P (u := (.val (eI place) : Wv)) (pa_cons rfl pa_nil) rfl) rfl g_mod) (fun (r22 : Int) => (g_ix (e := eI) rfl))) (fun _ => rfl))) (fun _ => rfl) rfl))) (fun (r26 : (List Int)) => pa_nil)) (fun (r26 : (List Int)) => (ev_ok (o_sum rfl)))) rfl rfl (fun _ => rfl) (fun _ => rfl) (fun _ _ => rfl))) fun (r18 : (Int × (List Int))) =>
    (tg_P rfl (tg_P rfl (tg_P rfl (tg_nx (.inl rfl)))))))) r5 found))) fun (s29 : (List Int)) =>
    (tg_rtP rfl ⟨_, rfl, trivial⟩))))

def b_is_row : M SO := (sRt (andV (chn (cst (.int 1)) (bnd (acons (nm 0) anil) lenW) (iLe) (lnk (cst (.int 2000)) (iLe))) (bnd (acons (lcM [1] (bnd (nm 0) itW) (gN 1) (ret true) (chn (cst (.int 0)) (nm 1) (iLe) (lnk (cst (.int 1000000)) (iLe)))) anil) (allW true))))
def f_is_row : DT.Fn := endF 2 b_is_row
def p_is_row (weights : (List Int)) : Ro Bool :=
  andR ((decide ((1 : Int) ≤ (weights.length : Int))) && (decide ((weights.length : Int) ≤ (2000 : Int)))) ((szR weights.length (weights.map (fun (weight : Int) => (((decide ((0 : Int) ≤ weight)) && (decide (weight ≤ (1000000 : Int)))) : Bool)))).bind fun (r6 : (List Bool)) => .ok (r6.all id))
theorem s_is_row (weights : (List Int)) : EvF (f_is_row [.val ((eT eI) weights)]) (p_is_row weights) (fun (b : Bool) => (.val (eB b) : Wv)) (fun (_ : Bool) _ => True) :=
  tf_mk (X := fun _ => True) (t := true) (F0 := [.val false ((eT eI) weights), .un]) rfl (tg_rtE (w := (fun (r9 : Bool) => (.val (eB r9) : Wv))) (G := (fun (r9 : Bool) => ([.val false ((eT eI) weights), .un] : Sl))) (ev_andP (pv_chn rfl (bnd_P (u := (.val (eI (weights.length : Int)) : Wv)) (pa_cons rfl pa_nil) (o_len (e := eI) rfl)) rfl rfl rfl) (ev_E (w := fun (r6 : (List Bool)) => [.new (.lst (r6.map eB))]) (G1 := (fun (r6 : (List Bool)) => ([.val false ((eT eI) weights), .un] : Sl))) (ea_EP (wa := (fun (r6 : (List Bool)) => (.new (.lst (r6.map eB)) : Wv))) (Ga := (fun (r6 : (List Bool)) => ([.val false ((eT eI) weights), .un] : Sl))) (wb := fun (r6 : (List Bool)) => []) (Gb := (fun (r6 : (List Bool)) => ([.val false ((eT eI) weights), .un] : Sl))) (ev_lcP (bnd_P (u := weights.map eI) rfl rfl) (ev_lc (e := eI) (e' := eB) (xs := weights) (Fw := [.val false ((eT eI) weights), .un]) (F2 := [.val false ((eT eI) weights), .un]) (T := (fun (weight : Int) => ([.val false ((eT eI) weights), .val false (eI weight)] : Sl))) (v := (fun (weight : Int) => (((decide ((0 : Int) ≤ weight)) && (decide (weight ≤ (1000000 : Int)))) : Bool))) rfl rfl (fun _ => rfl) (fun (weight : Int) => bnd_P (pv_chn rfl rfl rfl rfl rfl) rfl) (fun _ => rfl) rfl)) (fun (r6 : (List Bool)) => pa_nil)) (fun (r6 : (List Bool)) => (ev_ok (o_all rfl))))) (fun (r9 : Bool) => ⟨_, rfl, trivial⟩))

def b_check_ring : M SO := (sq (sIf (orT (notT (tstB (chn (cst (.int 3)) (bnd (acons (nm 0) anil) lenW) (iLe) (lnk (cst (.int 300)) (iLe))))) (notT (tst (bnd (acons (nm 0) anil) (callM 1 f_is_row))))) (sRaise 0) sNx)
    (sq (sIf (notT (tstB (chn (cst (.int 1)) (nm 1) (iLe) (lnk (bnd (acons (nm 0) anil) lenW) (iLe))))) (sRaise 4) sNx)
    sNx))
def f_check_ring : DT.Fn := endF 2 b_check_ring
def p_check_ring (weights : (List Int)) (k : Int) : Ro Unit :=
  (orR (!((decide ((3 : Int) ≤ (weights.length : Int))) && (decide ((weights.length : Int) ≤ (300 : Int))))) ((p_is_row weights).bind fun (r4 : Bool) => .ok (!r4))).bind fun (r5 : Bool) => if r5 = true then .ex (.pl 0)
    else if (!((decide ((1 : Int) ≤ k)) && (decide (k ≤ (weights.length : Int))))) = true then .ex (.pl 4)
    else .ok ()
theorem s_check_ring (weights : (List Int)) (k : Int) : EvF (f_check_ring [.val ((eT eI) weights), .val (eI k)]) (p_check_ring weights k) (fun (b : Unit) => (.val .none : Wv)) (fun (_ : Unit) _ => True) :=
  tf_mk (X := fun _ => True) (t := false) (F0 := [.val false ((eT eI) weights), .val false (eI k)]) rfl (tg_ifTE (v := fun (r5 : Bool) => r5) (G := (fun (r5 : Bool) => ([.val false ((eT eI) weights), .val false (eI k)] : Sl))) (et_orP (pt_not (pt_tstB (pv_chn rfl (bnd_P (u := (.val (eI (weights.length : Int)) : Wv)) (pa_cons rfl pa_nil) (o_len (e := eI) rfl)) rfl rfl rfl))) (ev_map (f := fun (r4 : Bool) => (!r4)) (w := id) (et_not (w := fun (r4 : Bool) => r4) (G := (fun (r4 : Bool) => ([.val false ((eT eI) weights), .val false (eI k)] : Sl))) (et_tst (w := (fun (r4 : Bool) => (.val (eB r4) : Wv))) (c := fun (r4 : Bool) => r4) (G := (fun (r4 : Bool) => ([.val false ((eT eI) weights), .val false (eI k)] : Sl))) (ev_P (pa_cons rfl pa_nil) (tc0 rfl rfl rfl (s_is_row weights) trivial)) (fun (r4 : Bool) => rfl))))) (fun (r5 : Bool) => (tg_raise trivial))
    (fun (r5 : Bool) => (tg_nxR (tg_ifT (pt_not (pt_tstB (pv_chn rfl rfl rfl (bnd_P (u := (.val (eI (weights.length : Int)) : Wv)) (pa_cons rfl pa_nil) (o_len (e := eI) rfl)) rfl))) (tg_raise trivial)
    (tg_nxR (tg_nx ⟨_, rfl, trivial⟩))))))

def b_starts_for : M SO := (sq (asg 2 (bnd (acons (cst (.int 0)) anil) mkLst))
    (sq (asg 3 (cst (.int 0)))
    (sq (forM (bnd (acons (nm 0) anil) enW) (gT [4, 5]) (sq (sIf (tstB (bin (bin (nm 3) (nm 5) addW) (nm 1) (iGt))) (sq (sEx (mthP isLst 2 (acons (nm 4) anil) oAppend))
    (sq (asg 3 (cst (.int 0)))
    sNx)) sNx)
    (sq (augN 3 (nm 5) iAdd)
    (sq (ghK [4]) (sq (ghK [5]) sNx)))))
    (sRt (nm 2)))))
def f_starts_for : DT.Fn := endF 6 b_starts_for
def p_starts_for (weights : (List Int)) (high : Int) : Ro (List Int) :=
  Let ([(0 : Int)] : (List Int)) fun (found : (List Int)) =>
    (forR (enL 0 weights) (found, (0 : Int)) (fun (x2 : (Int × Int)) (s1 : ((List Int) × Int)) => ((if (decide (high < (s1.2 + x2.2))) = true then (appR s1.1 x2.1).bind fun (r8 : (List Int)) =>
    .ok (r8, (0 : Int))
    else .ok (s1.1, s1.2)).bind fun (j7 : ((List Int) × Int)) =>
    Let (j7.2 + x2.2) fun (here : Int) =>
    .ok (j7.1, here) : Ro ((List Int) × Int)))).bind fun (s10 : ((List Int) × Int)) =>
    .ok s10.1
theorem s_starts_for (weights : (List Int)) (high : Int) : EvF (f_starts_for [.val ((eT eI) weights), .val (eI high)]) (p_starts_for weights high) (fun (b : (List Int)) => (.new (.lst (b.map eI)) : Wv)) (fun (_ : (List Int)) _ => True) :=
  tf_mk (X := fun _ => True) (t := true) (F0 := [.val false ((eT eI) weights), .val false (eI high), .un, .un, .un, .un]) rfl (tg_let (v := ([(0 : Int)] : (List Int))) (G := fun (found : (List Int)) => ([.val false ((eT eI) weights), .val false (eI high), .own false (.lst (found.map eI)), .un, .un, .un] : Sl)) (asg_ok (bnd_P (u := (.new (.lst (([(0 : Int)] : (List Int)).map eI)) : Wv)) (pa_cons rfl pa_nil) rfl) rfl) fun (found : (List Int)) =>
    (tg_P (F' := [.val false ((eT eI) weights), .val false (eI high), .own false (.lst (found.map eI)), .val false (eI (0 : Int)), .un, .un]) (asg_ok rfl rfl)
    (tg_E (G := (fun (s10 : ((List Int) × Int)) => ([.val false ((eT eI) weights), .val false (eI high), .own false (.lst (s10.1.map eI)), .val false (eI s10.2), .un, .un] : Sl))) (ev_P (bnd_P (pa_cons rfl pa_nil) (o_en (e := eI) (F' := [.val false ((eT eI) weights), .val false (eI high), .own false (.lst (found.map eI)), .val false (eI (0 : Int)), .un, .un]) rfl)) (ev_loop (e := (e2 eI eI)) (G := fun (s1 : ((List Int) × Int)) => ([.val false ((eT eI) weights), .val false (eI high), .own false (.lst (s1.1.map eI)), .val false (eI s1.2), .un, .un] : Sl)) (T := fun (x2 : (Int × Int)) (s1 : ((List Int) × Int)) => ([.val false ((eT eI) weights), .val false (eI high), .own false (.lst (s1.1.map eI)), .val false (eI s1.2), .val false (eI x2.1), .val false (eI x2.2)] : Sl)) (f := (fun (x2 : (Int × Int)) (s1 : ((List Int) × Int)) => ((if (decide (high < (s1.2 + x2.2))) = true then (appR s1.1 x2.1).bind fun (r8 : (List Int)) =>
    .ok (r8, (0 : Int))
    else .ok (s1.1, s1.2)).bind fun (j7 : ((List Int) × Int)) =>
    Let (j7.2 + x2.2) fun (here : Int) =>
    .ok (j7.1, here) : Ro ((List Int) × Int)))) (fun _ _ => rfl) (fun (x2 : (Int × Int)) (s1 : ((List Int) × Int)) => (tg_B (G := fun (j7 : ((List Int) × Int)) => ([.val false ((eT eI) weights), .val false (eI high), .own false (.lst (j7.1.map eI)), .val false (eI j7.2), .val false (eI x2.1), .val false (eI x2.2)] : Sl)) (tg_if (pt_tstB (pv_bin (pv_bin rfl rfl rfl) rfl rfl)) (tg_E (G := (fun (r8 : (List Int)) => ([.val false ((eT eI) weights), .val false (eI high), .own false (.lst (r8.map eI)), .val false (eI s1.2), .val false (eI x2.1), .val false (eI x2.2)] : Sl))) (es_ex (wf := (fun (r8 : (List Int)) => (.val (eN ()) : Wv))) (G := (fun (r8 : (List Int)) => ([.val false ((eT eI) weights), .val false (eI high), .own false (.lst (r8.map eI)), .val false (eI s1.2), .val false (eI x2.1), .val false (eI x2.2)] : Sl))) (ev_app (e := eI) (x := x2.1) (F2 := [.val false ((eT eI) weights), .val false (eI high), .own false (.lst (s1.1.map eI)), .val false (eI s1.2), .val false (eI x2.1), .val false (eI x2.2)]) (H := fun (l9 : (List Int)) => ([.val false ((eT eI) weights), .val false (eI high), .own false (.lst (l9.map eI)), .val false (eI s1.2), .val false (eI x2.1), .val false (eI x2.2)] : Sl)) rfl rfl rfl rfl (fun _ => rfl))) fun (r8 : (List Int)) =>
    (tg_P (F' := [.val false ((eT eI) weights), .val false (eI high), .own false (.lst (r8.map eI)), .val false (eI (0 : Int)), .val false (eI x2.1), .val false (eI x2.2)]) (asg_ok rfl rfl)
    (tg_nx rfl)))
    (tg_nx rfl)) fun (j7 : ((List Int) × Int)) =>
    (tg_let (v := (j7.2 + x2.2)) (G := fun (here : Int) => ([.val false ((eT eI) weights), .val false (eI high), .own false (.lst (j7.1.map eI)), .val false (eI here), .val false (eI x2.1), .val false (eI x2.2)] : Sl)) (ps_aug rfl rfl rfl rfl) fun (here : Int) =>
    (tg_P rfl (tg_P rfl (tg_nx (.inl rfl))))))) (enL 0 weights) (found, (0 : Int)))) fun (s10 : ((List Int) × Int)) =>
    (tg_rtP rfl ⟨_, rfl, trivial⟩))))

def b_turned : M SO := (sRt (bnd (astar (slM (nm 0) (.at (nm 1)) .no) (astar (slM (nm 0) .no (.at (nm 1))) anil)) mkTup))
def f_turned : DT.Fn := endF 2 b_turned
def p_turned (weights : (List Int)) (place : Int) : Ro (List Int) :=
  szR ((cutL weights (some place) none) ++ ((cutL weights none (some place)) ++ [])).length ((cutL weights (some place) none) ++ ((cutL weights none (some place)) ++ []))
theorem s_turned (weights : (List Int)) (place : Int) : EvF (f_turned [.val ((eT eI) weights), .val (eI place)]) (p_turned weights place) (fun (b : (List Int)) => (.val ((eT eI) b) : Wv)) (fun (_ : (List Int)) _ => True) :=
  tf_mk (X := fun _ => True) (t := true) (F0 := [.val false ((eT eI) weights), .val false (eI place)]) rfl (tg_rtE (w := (fun (r1 : (List Int)) => (.val ((eT eI) r1) : Wv))) (G := (fun (r1 : (List Int)) => ([.val false ((eT eI) weights), .val false (eI place)] : Sl))) (ev_P (sa_star (e := eI) (pv_slT (e := eI) rfl rfl (pt_at rfl) pt_no) rfl (sa_star (e := eI) (pv_slT (e := eI) rfl rfl pt_no (pt_at rfl)) rfl (sa_nil (e := eI)))) (g_mkT (e := eI))) (fun (r1 : (List Int)) => ⟨_, rfl, trivial⟩))

def b_ring_holds_high : M SO := (sq (asg 3 (bnd (acons (nm 0) (acons (nm 2) anil)) (callM 2 f_starts_for)))
    (sq (sIf (tstB (bin (bnd (acons (nm 3) anil) lenW) (cst (.int 1)) (eqD false))) (sRt (cst (.bool true))) sNx)
    (sRt (bnd (acons (lcM [4] (bnd (acons (cst (.int 1)) (acons (bin (bin (nm 3) (cst (.int 1)) ixW) (cst (.int 1)) addW) anil)) rng2W) (gN 4) (ret true) (bin (bnd (acons (bnd (acons (bnd (acons (nm 0) (acons (nm 4) anil)) (callM 2 f_turned)) (acons (nm 2) anil)) (callM 2 f_starts_for)) anil) lenW) (nm 1) (iLe))) anil) (allW false)))))
def f_ring_holds_high : DT.Fn := endF 5 b_ring_holds_high
def p_ring_holds_high (weights : (List Int)) (k : Int) (high : Int) : Ro Bool :=
  (p_starts_for weights high).bind fun (starts : (List Int)) =>
    if (decide ((starts.length : Int) = (1 : Int))) = true then .ok true
    else ((((ixR starts (1 : Int)).bind fun (r4 : Int) => .ok (r4 + (1 : Int))).bind fun (r6 : Int) => rng2R (1 : Int) r6).bind fun (r7 : (List Int)) => (szR r7.length ()).bind fun _ => (mapR r7 (fun (place : Int) => ((((p_turned weights place).bind fun (r8 : (List Int)) => p_starts_for r8 high).bind fun (r10 : (List Int)) => .ok (r10.length : Int)).bind fun (r12 : Int) => .ok (decide (r12 ≤ k)) : Ro Bool))).noEx).bind fun (r16 : (List Bool)) => .ok (r16.any id)
theorem s_ring_holds_high (weights : (List Int)) (k : Int) (high : Int) : EvF (f_ring_holds_high [.val ((eT eI) weights), .val (eI k), .val (eI high)]) (p_ring_holds_high weights k high) (fun (b : Bool) => (.val (eB b) : Wv)) (fun (_ : Bool) _ => True) :=
  tf_mk (X := fun _ => True) (t := true) (F0 := [.val false ((eT eI) weights), .val false (eI k), .val false (eI high), .un, .un]) rfl (tg_E (G := (fun (starts : (List Int)) => ([.val false ((eT eI) weights), .val false (eI k), .val false (eI high), .own false (.lst (starts.map eI)), .un] : Sl))) (es_asg (wf := (fun (r1 : (List Int)) => (.new (.lst (r1.map eI)) : Wv))) (G := (fun (r1 : (List Int)) => ([.val false ((eT eI) weights), .val false (eI k), .val false (eI high), .un, .un] : Sl))) (ev_P (pa_cons rfl (pa_cons rfl pa_nil)) (tc0 rfl rfl rfl (s_starts_for weights high) trivial)) (fun _ => rfl)) fun (starts : (List Int)) =>
    (tg_ifT (pt_tstB (pv_bin (bnd_P (u := (.val (eI (starts.length : Int)) : Wv)) (pa_cons rfl pa_nil) (o_len (e := eI) rfl)) rfl (o_eq (a := (starts.length : Int)) (b := (1 : Int)) ek_I rfl rfl))) (tg_rtP rfl ⟨_, rfl, trivial⟩)
    (tg_nxR (tg_rtE (w := (fun (r18 : Bool) => (.val (eB r18) : Wv))) (G := (fun (r18 : Bool) => ([.val false ((eT eI) weights), .val false (eI k), .val false (eI high), .own false (.lst (starts.map eI)), .un] : Sl))) (ev_E (w := fun (r16 : (List Bool)) => [.new (.lst (r16.map eB))]) (G1 := (fun (r16 : (List Bool)) => ([.val false ((eT eI) weights), .val false (eI k), .val false (eI high), .own false (.lst (starts.map eI)), .un] : Sl))) (ea_EP (wa := (fun (r16 : (List Bool)) => (.new (.lst (r16.map eB)) : Wv))) (Ga := (fun (r16 : (List Bool)) => ([.val false ((eT eI) weights), .val false (eI k), .val false (eI high), .own false (.lst (starts.map eI)), .un] : Sl))) (wb := fun (r16 : (List Bool)) => []) (Gb := (fun (r16 : (List Bool)) => ([.val false ((eT eI) weights), .val false (eI k), .val false (eI high), .own false (.lst (starts.map eI)), .un] : Sl))) (ev_lcE (ds := fun (r7 : (List Int)) => r7.map eI) (G1 := (fun (r7 : (List Int)) => ([.val false ((eT eI) weights), .val false (eI k), .val false (eI high), .own false (.lst (starts.map eI)), .un] : Sl))) (ev_E (w := fun (r6 : Int) => [.val (eI (1 : Int)), .val (eI r6)]) (G1 := (fun (r6 : Int) => ([.val false ((eT eI) weights), .val false (eI k), .val false (eI high), .own false (.lst (starts.map eI)), .un] : Sl))) (ea_PE rfl (ea_EP (wa := (fun (r6 : Int) => (.val (eI r6) : Wv))) (Ga := (fun (r6 : Int) => ([.val false ((eT eI) weights), .val false (eI k), .val false (eI high), .own false (.lst (starts.map eI)), .un] : Sl))) (wb := fun (r6 : Int) => []) (Gb := (fun (r6 : Int) => ([.val false ((eT eI) weights), .val false (eI k), .val false (eI high), .own false (.lst (starts.map eI)), .un] : Sl))) (ev_binEP (wa := (fun (r4 : Int) => (.val (eI r4) : Wv))) (Ga := (fun (r4 : Int) => ([.val false ((eT eI) weights), .val false (eI k), .val false (eI high), .own false (.lst (starts.map eI)), .un] : Sl))) (wb := (fun (r4 : Int) => (.val (eI (1 : Int)) : Wv))) (Gb := (fun (r4 : Int) => ([.val false ((eT eI) weights), .val false (eI k), .val false (eI high), .own false (.lst (starts.map eI)), .un] : Sl))) (ev_binPP rfl rfl (g_ix (e := eI) rfl)) (fun (r4 : Int) => rfl) (fun (r4 : Int) => (ev_ok rfl))) (fun (r6 : Int) => pa_nil))) (fun _ => g_rng2)) (fun (r7 : (List Int)) => (ev_lcR (e := eI) (e' := eB) (xs := r7) (Fw := [.val false ((eT eI) weights), .val false (eI k), .val false (eI high), .own false (.lst (starts.map eI)), .un]) (F2 := [.val false ((eT eI) weights), .val false (eI k), .val false (eI high), .own false (.lst (starts.map eI)), .un]) (T := (fun (place : Int) => ([.val false ((eT eI) weights), .val false (eI k), .val false (eI high), .own false (.lst (starts.map eI)), .val false (eI place)] : Sl))) (f := (fun (place : Int) => ((((p_turned weights place).bind fun (r8 : (List Int)) => p_starts_for r8 high).bind fun (r10 : (List Int)) => .ok (r10.length : Int)).bind fun (r12 : Int) => .ok (decide (r12 ≤ k)) : Ro Bool))) rfl rfl (fun _ => rfl) (fun (place : Int) => (ev_E2 (w := (fun (r14 : Bool) => (.val (eB r14) : Wv))) (G1 := (fun (r14 : Bool) => ([.val false ((eT eI) weights), .val false (eI k), .val false (eI high), .own false (.lst (starts.map eI)), .val false (eI place)] : Sl))) (w2 := fun (r14 : Bool) => (eB r14 : D)) (G := (fun (r14 : Bool) => ([.val false ((eT eI) weights), .val false (eI k), .val false (eI high), .own false (.lst (starts.map eI)), .val false (eI place)] : Sl))) (ev_binEP (wa := (fun (r12 : Int) => (.val (eI r12) : Wv))) (Ga := (fun (r12 : Int) => ([.val false ((eT eI) weights), .val false (eI k), .val false (eI high), .own false (.lst (starts.map eI)), .val false (eI place)] : Sl))) (wb := (fun (r12 : Int) => (.val (eI k) : Wv))) (Gb := (fun (r12 : Int) => ([.val false ((eT eI) weights), .val false (eI k), .val false (eI high), .own false (.lst (starts.map eI)), .val false (eI place)] : Sl))) (ev_E (w := fun (r10 : (List Int)) => [.new (.lst (r10.map eI))]) (G1 := (fun (r10 : (List Int)) => ([.val false ((eT eI) weights), .val false (eI k), .val false (eI high), .own false (.lst (starts.map eI)), .val false (eI place)] : Sl))) (ea_EP (wa := (fun (r10 : (List Int)) => (.new (.lst (r10.map eI)) : Wv))) (Ga := (fun (r10 : (List Int)) => ([.val false ((eT eI) weights), .val false (eI k), .val false (eI high), .own false (.lst (starts.map eI)), .val false (eI place)] : Sl))) (wb := fun (r10 : (List Int)) => []) (Gb := (fun (r10 : (List Int)) => ([.val false ((eT eI) weights), .val false (eI k), .val false (eI high), .own false (.lst (starts.map eI)), .val false (eI place)] : Sl))) (ev_E (w := fun (r8 : (List Int)) => [.val ((eT eI) r8), .val (eI high)]) (G1 := (fun (r8 : (List Int)) => ([.val false ((eT eI) weights), .val false (eI k), .val false (eI high), .own false (.lst (starts.map eI)), .val false (eI place)] : Sl))) (ea_EP (wa := (fun (r8 : (List Int)) => (.val ((eT eI) r8) : Wv))) (Ga := (fun (r8 : (List Int)) => ([.val false ((eT eI) weights), .val false (eI k), .val false (eI high), .own false (.lst (starts.map eI)), .val false (eI place)] : Sl))) (wb := fun (r8 : (List Int)) => [.val (eI high)]) (Gb := (fun (r8 : (List Int)) => ([.val false ((eT eI) weights), .val false (eI k), .val false (eI high), .own false (.lst (starts.map eI)), .val false (eI place)] : Sl))) (ev_P (pa_cons rfl (pa_cons rfl pa_nil)) (tc0 rfl rfl rfl (s_turned weights place) trivial)) (fun (r8 : (List Int)) => (pa_cons rfl pa_nil))) (fun (r8 : (List Int)) => (tc0 rfl rfl rfl (s_starts_for r8 high) trivial))) (fun (r10 : (List Int)) => pa_nil)) (fun (r10 : (List Int)) => (ev_ok (o_len (e := eI) rfl)))) (fun (r12 : Int) => rfl) (fun (r12 : Int) => (ev_ok rfl))) (fun _ => rfl))) (fun _ => rfl) rfl))) (fun (r16 : (List Bool)) => pa_nil)) (fun (r16 : (List Bool)) => (ev_ok (o_any rfl)))) (fun (r18 : Bool) => ⟨_, rfl, trivial⟩)))))

def b_ring_least_high : M SO := (sq (sEx (bnd (acons (nm 0) (acons (nm 1) anil)) (callM 2 f_check_ring)))
    (sq (asgP [2, 3] (acons (bnd (acons (nm 0) anil) maxW) (acons (bnd (acons (nm 0) anil) sumW) anil)))
    (sq (sIf (tstB (bin (nm 1) (cst (.int 1)) (eqD false))) (sRt (nm 3)) sNx)
    (sq (whM 4000 (tstB (bin (nm 2) (nm 3) (ltW))) (sq (asg 4 (bin (bin (nm 2) (nm 3) addW) (cst (.int 2)) iDiv))
    (sq (sIf (tst (bnd (acons (nm 0) (acons (nm 1) (acons (nm 4) anil))) (callM 3 f_ring_holds_high))) (sq (asg 3 (nm 4))
    sNx) (sq (asg 2 (bin (nm 4) (cst (.int 1)) addW))
    sNx))
    (sq (ghK [4]) sNx))))
    (sRt (nm 2))))))
def f_ring_least_high : DT.Fn := endF 5 b_ring_least_high
def p_ring_least_high (weights : (List Int)) (k : Int) : Ro Int :=
  (p_check_ring weights k).bind fun (r1 : Unit) =>
    (maxR weights).bind fun (r2 : Int) =>
    if (decide (k = (1 : Int))) = true then .ok weights.sum
    else (whR 4000 (fun (s5 : (Int × Int)) => (.ok (decide (s5.1 < s5.2)) : Ro Bool)) (fun (s5 : (Int × Int)) => (Let ((s5.1 + s5.2) / (2 : Int)) fun (middle : Int) =>
    ((p_ring_holds_high weights k middle).bind fun (r9 : Bool) => if r9 = true then .ok (s5.1, middle)
    else Let (middle + (1 : Int)) fun (low : Int) =>
    .ok (low, s5.2)).bind fun (j11 : (Int × Int)) =>
    .ok (j11.1, j11.2) : Ro (Int × Int))) (r2, weights.sum)).bind fun (s13 : (Int × Int)) =>
    .ok s13.1
theorem s_ring_least_high (weights : (List Int)) (k : Int) : EvF (f_ring_least_high [.val ((eT eI) weights), .val (eI k)]) (p_ring_least_high weights k) (fun (b : Int) => (.val (eI b) : Wv)) (fun (_ : Int) _ => True) :=
  tf_mk (X := fun _ => True) (t := true) (F0 := [.val false ((eT eI) weights), .val false (eI k), .un, .un, .un]) rfl (tg_E (G := (fun (r1 : Unit) => ([.val false ((eT eI) weights), .val false (eI k), .un, .un, .un] : Sl))) (es_ex (wf := (fun (r1 : Unit) => (.val (eN r1) : Wv))) (G := (fun (r1 : Unit) => ([.val false ((eT eI) weights), .val false (eI k), .un, .un, .un] : Sl))) (ev_P (pa_cons rfl (pa_cons rfl pa_nil)) (tc0 rfl rfl rfl (s_check_ring weights k) trivial))) fun (r1 : Unit) =>
    (tg_E (G := (fun (r2 : Int) => ([.val false ((eT eI) weights), .val false (eI k), .val false (eI r2), .val false (eI weights.sum), .un] : Sl))) (es_asgP (ws := fun (r2 : Int) => [.val (eI r2), .val (eI weights.sum)]) (G := (fun (r2 : Int) => ([.val false ((eT eI) weights), .val false (eI k), .un, .un, .un] : Sl))) (ds := fun (r2 : Int) => [eI r2, eI weights.sum]) (G1 := (fun (r2 : Int) => ([.val false ((eT eI) weights), .val false (eI k), .un, .un, .un] : Sl))) (ea_EP (wa := (fun (r2 : Int) => (.val (eI r2) : Wv))) (Ga := (fun (r2 : Int) => ([.val false ((eT eI) weights), .val false (eI k), .un, .un, .un] : Sl))) (wb := fun (r2 : Int) => [.val (eI weights.sum)]) (Gb := (fun (r2 : Int) => ([.val false ((eT eI) weights), .val false (eI k), .un, .un, .un] : Sl))) (ev_P (pa_cons rfl pa_nil) (g_max rfl)) (fun (r2 : Int) => (pa_cons (bnd_P (u := (.val (eI weights.sum) : Wv)) (pa_cons rfl pa_nil) (o_sum rfl)) pa_nil))) (fun _ => rfl) (fun _ => rfl)) fun (r2 : Int) =>
    (tg_ifT (pt_tstB (pv_bin rfl rfl (o_eq (a := k) (b := (1 : Int)) ek_I rfl rfl))) (tg_rtP rfl ⟨_, rfl, trivial⟩)
    (tg_nxR (tg_E (G := (fun (s13 : (Int × Int)) => ([.val false ((eT eI) weights), .val false (eI k), .val false (eI s13.1), .val false (eI s13.2), .un] : Sl))) (ev_wh (G := fun (s5 : (Int × Int)) => ([.val false ((eT eI) weights), .val false (eI k), .val false (eI s5.1), .val false (eI s5.2), .un] : Sl)) (fc := (fun (s5 : (Int × Int)) => (.ok (decide (s5.1 < s5.2)) : Ro Bool))) (f := (fun (s5 : (Int × Int)) => (Let ((s5.1 + s5.2) / (2 : Int)) fun (middle : Int) =>
    ((p_ring_holds_high weights k middle).bind fun (r9 : Bool) => if r9 = true then .ok (s5.1, middle)
    else Let (middle + (1 : Int)) fun (low : Int) =>
    .ok (low, s5.2)).bind fun (j11 : (Int × Int)) =>
    .ok (j11.1, j11.2) : Ro (Int × Int)))) (fun (s5 : (Int × Int)) => (ev_ok (pt_tstB (pv_bin rfl rfl rfl)))) (fun (s5 : (Int × Int)) => (tg_let (v := ((s5.1 + s5.2) / (2 : Int))) (G := fun (middle : Int) => ([.val false ((eT eI) weights), .val false (eI k), .val false (eI s5.1), .val false (eI s5.2), .val false (eI middle)] : Sl)) (asg_ok (pv_bin (pv_bin rfl rfl rfl) rfl (o_div rfl)) rfl) fun (middle : Int) =>
    (tg_B (G := fun (j11 : (Int × Int)) => ([.val false ((eT eI) weights), .val false (eI k), .val false (eI j11.1), .val false (eI j11.2), .val false (eI middle)] : Sl)) (tg_ifE (v := fun (r9 : Bool) => r9) (G := (fun (r9 : Bool) => ([.val false ((eT eI) weights), .val false (eI k), .val false (eI s5.1), .val false (eI s5.2), .val false (eI middle)] : Sl))) (et_tst (w := (fun (r9 : Bool) => (.val (eB r9) : Wv))) (c := fun (r9 : Bool) => r9) (G := (fun (r9 : Bool) => ([.val false ((eT eI) weights), .val false (eI k), .val false (eI s5.1), .val false (eI s5.2), .val false (eI middle)] : Sl))) (ev_P (pa_cons rfl (pa_cons rfl (pa_cons rfl pa_nil))) (tc0 rfl rfl rfl (s_ring_holds_high weights k middle) trivial)) (fun (r9 : Bool) => rfl)) (fun (r9 : Bool) => (tg_P (F' := [.val false ((eT eI) weights), .val false (eI k), .val false (eI s5.1), .val false (eI middle), .val false (eI middle)]) (asg_ok rfl rfl)
    (tg_nx rfl)))
    (fun (r9 : Bool) => (tg_let (v := (middle + (1 : Int))) (G := fun (low : Int) => ([.val false ((eT eI) weights), .val false (eI k), .val false (eI low), .val false (eI s5.2), .val false (eI middle)] : Sl)) (asg_ok (pv_bin rfl rfl rfl) rfl) fun (low : Int) =>
    (tg_nx rfl)))) fun (j11 : (Int × Int)) =>
    (tg_P rfl (tg_nx (.inl rfl)))))) 4000 (r2, weights.sum)) fun (s13 : (Int × Int)) =>
    (tg_rtP rfl ⟨_, rfl, trivial⟩))))))

def b_low_places : M SO := (sq (asg 2 (bnd anil mkLst))
    (sq (asg 3 (cst (.int 0)))
    (sq (forM (bnd (acons (nm 0) anil) enW) (gT [4, 5]) (sq (augN 3 (nm 5) iAdd)
    (sq (sIf (tstB (bin (nm 3) (nm 1) (iGe))) (sq (sEx (mthP isLst 2 (acons (nm 4) anil) oAppend))
    (sq (asg 3 (cst (.int 0)))
    sNx)) sNx)
    (sq (ghK [4]) (sq (ghK [5]) sNx)))))
    (sRt (nm 2)))))
def f_low_places : DT.Fn := endF 6 b_low_places
def p_low_places (weights : (List Int)) (low : Int) : Ro (List Int) :=
  Let ([] : (List Int)) fun (found : (List Int)) =>
    (forR (enL 0 weights) (found, (0 : Int)) (fun (x2 : (Int × Int)) (s1 : ((List Int) × Int)) => (Let (s1.2 + x2.2) fun (here : Int) =>
    (if (decide (low ≤ here)) = true then (appR s1.1 x2.1).bind fun (r7 : (List Int)) =>
    .ok (r7, (0 : Int))
    else .ok (s1.1, here)).bind fun (j6 : ((List Int) × Int)) =>
    .ok (j6.1, j6.2) : Ro ((List Int) × Int)))).bind fun (s9 : ((List Int) × Int)) =>
    .ok s9.1
theorem s_low_places (weights : (List Int)) (low : Int) : EvF (f_low_places [.val ((eT eI) weights), .val (eI low)]) (p_low_places weights low) (fun (b : (List Int)) => (.new (.lst (b.map eI)) : Wv)) (fun (_ : (List Int)) _ => True) :=
  tf_mk (X := fun _ => True) (t := true) (F0 := [.val false ((eT eI) weights), .val false (eI low), .un, .un, .un, .un]) rfl (tg_let (v := ([] : (List Int))) (G := fun (found : (List Int)) => ([.val false ((eT eI) weights), .val false (eI low), .own false (.lst (found.map eI)), .un, .un, .un] : Sl)) (asg_ok (bnd_P (u := (.new (.lst (([] : (List Int)).map eI)) : Wv)) pa_nil rfl) rfl) fun (found : (List Int)) =>
    (tg_P (F' := [.val false ((eT eI) weights), .val false (eI low), .own false (.lst (found.map eI)), .val false (eI (0 : Int)), .un, .un]) (asg_ok rfl rfl)
    (tg_E (G := (fun (s9 : ((List Int) × Int)) => ([.val false ((eT eI) weights), .val false (eI low), .own false (.lst (s9.1.map eI)), .val false (eI s9.2), .un, .un] : Sl))) (ev_P (bnd_P (pa_cons rfl pa_nil) (o_en (e := eI) (F' := [.val false ((eT eI) weights), .val false (eI low), .own false (.lst (found.map eI)), .val false (eI (0 : Int)), .un, .un]) rfl)) (ev_loop (e := (e2 eI eI)) (G := fun (s1 : ((List Int) × Int)) => ([.val false ((eT eI) weights), .val false (eI low), .own false (.lst (s1.1.map eI)), .val false (eI s1.2), .un, .un] : Sl)) (T := fun (x2 : (Int × Int)) (s1 : ((List Int) × Int)) => ([.val false ((eT eI) weights), .val false (eI low), .own false (.lst (s1.1.map eI)), .val false (eI s1.2), .val false (eI x2.1), .val false (eI x2.2)] : Sl)) (f := (fun (x2 : (Int × Int)) (s1 : ((List Int) × Int)) => (Let (s1.2 + x2.2) fun (here : Int) =>
    (if (decide (low ≤ here)) = true then (appR s1.1 x2.1).bind fun (r7 : (List Int)) =>
    .ok (r7, (0 : Int))
    else .ok (s1.1, here)).bind fun (j6 : ((List Int) × Int)) =>
    .ok (j6.1, j6.2) : Ro ((List Int) × Int)))) (fun _ _ => rfl) (fun (x2 : (Int × Int)) (s1 : ((List Int) × Int)) => (tg_let (v := (s1.2 + x2.2)) (G := fun (here : Int) => ([.val false ((eT eI) weights), .val false (eI low), .own false (.lst (s1.1.map eI)), .val false (eI here), .val false (eI x2.1), .val false (eI x2.2)] : Sl)) (ps_aug rfl rfl rfl rfl) fun (here : Int) =>
    (tg_B (G := fun (j6 : ((List Int) × Int)) => ([.val false ((eT eI) weights), .val false (eI low), .own false (.lst (j6.1.map eI)), .val false (eI j6.2), .val false (eI x2.1), .val false (eI x2.2)] : Sl)) (tg_if (pt_tstB (pv_bin rfl rfl rfl)) (tg_E (G := (fun (r7 : (List Int)) => ([.val false ((eT eI) weights), .val false (eI low), .own false (.lst (r7.map eI)), .val false (eI here), .val false (eI x2.1), .val false (eI x2.2)] : Sl))) (es_ex (wf := (fun (r7 : (List Int)) => (.val (eN ()) : Wv))) (G := (fun (r7 : (List Int)) => ([.val false ((eT eI) weights), .val false (eI low), .own false (.lst (r7.map eI)), .val false (eI here), .val false (eI x2.1), .val false (eI x2.2)] : Sl))) (ev_app (e := eI) (x := x2.1) (F2 := [.val false ((eT eI) weights), .val false (eI low), .own false (.lst (s1.1.map eI)), .val false (eI here), .val false (eI x2.1), .val false (eI x2.2)]) (H := fun (l8 : (List Int)) => ([.val false ((eT eI) weights), .val false (eI low), .own false (.lst (l8.map eI)), .val false (eI here), .val false (eI x2.1), .val false (eI x2.2)] : Sl)) rfl rfl rfl rfl (fun _ => rfl))) fun (r7 : (List Int)) =>
    (tg_P (F' := [.val false ((eT eI) weights), .val false (eI low), .own false (.lst (r7.map eI)), .val false (eI (0 : Int)), .val false (eI x2.1), .val false (eI x2.2)]) (asg_ok rfl rfl)
    (tg_nx rfl)))
    (tg_nx rfl)) fun (j6 : ((List Int) × Int)) =>
    (tg_P rfl (tg_P rfl (tg_nx (.inl rfl))))))) (enL 0 weights) (found, (0 : Int)))) fun (s9 : ((List Int) × Int)) =>
    (tg_rtP rfl ⟨_, rfl, trivial⟩))))

def b_ring_holds_low : M SO := (sq (asg 3 (bnd (acons (nm 0) (acons (nm 2) anil)) (callM 2 f_low_places)))
    (sq (sIf (notT (tst (nm 3))) (sRt (cst (.bool false))) sNx)
    (sq (asg 4 (lcM [5] (bnd (acons (cst (.int 1)) (acons (bin (bin (nm 3) (cst (.int 0)) ixW) (cst (.int 2)) addW) anil)) rng2W) (gN 5) (ret true) (bin (nm 5) (bnd (acons (nm 0) anil) lenW) iMod)))
    (sRt (bnd (acons (lcM [5] (bnd (nm 4) itW) (gN 5) (ret true) (bin (bnd (acons (bnd (acons (bnd (acons (nm 0) (acons (nm 5) anil)) (callM 2 f_turned)) (acons (nm 2) anil)) (callM 2 f_low_places)) anil) lenW) (nm 1) (iGe))) anil) (allW false))))))
def f_ring_holds_low : DT.Fn := endF 6 b_ring_holds_low
def p_ring_holds_low (weights : (List Int)) (k : Int) (low : Int) : Ro Bool :=
  (p_low_places weights low).bind fun (ends : (List Int)) =>
    if (!(!ends.isEmpty)) = true then .ok false
    else ((((ixR ends (0 : Int)).bind fun (r2 : Int) => .ok (r2 + (2 : Int))).bind fun (r4 : Int) => rng2R (1 : Int) r4).bind fun (r5 : (List Int)) => (szR r5.length ()).bind fun _ => (mapR r5 (fun (place : Int) => (modR place (weights.length : Int) : Ro Int))).noEx).bind fun (places : (List Int)) =>
    ((szR places.length ()).bind fun _ => (mapR places (fun (place : Int) => ((((p_turned weights place).bind fun (r10 : (List Int)) => p_low_places r10 low).bind fun (r12 : (List Int)) => .ok (r12.length : Int)).bind fun (r14 : Int) => .ok (decide (k ≤ r14)) : Ro Bool))).noEx).bind fun (r17 : (List Bool)) => .ok (r17.any id)
theorem s_ring_holds_low (weights : (List Int)) (k : Int) (low : Int) : EvF (f_ring_holds_low [.val ((eT eI) weights), .val (eI k), .val (eI low)]) (p_ring_holds_low weights k low) (fun (b : Bool) => (.val (eB b) : Wv)) (fun (_ : Bool) _ => True) :=
  tf_mk (X := fun _ => True) (t := true) (F0 := [.val false ((eT eI) weights), .val false (eI k), .val false (eI low), .un, .un, .un]) rfl (tg_E (G := (fun (ends : (List Int)) => ([.val false ((eT eI) weights), .val false (eI k), .val false (eI low), .own false (.lst (ends.map eI)), .un, .un] : Sl))) (es_asg (wf := (fun (r1 : (List Int)) => (.new (.lst (r1.map eI)) : Wv))) (G := (fun (r1 : (List Int)) => ([.val false ((eT eI) weights), .val false (eI k), .val false (eI low), .un, .un, .un] : Sl))) (ev_P (pa_cons rfl (pa_cons rfl pa_nil)) (tc0 rfl rfl rfl (s_low_places weights low) trivial)) (fun _ => rfl)) fun (ends : (List Int)) =>
    (tg_ifT (pt_not (pt_tst rfl (tru_bor rfl))) (tg_rtP rfl ⟨_, rfl, trivial⟩)
    (tg_nxR (tg_E (G := (fun (places : (List Int)) => ([.val false ((eT eI) weights), .val false (eI k), .val false (eI low), .own false (.lst (ends.map eI)), .own false (.lst (places.map eI)), .un] : Sl))) (es_asg (wf := (fun (r9 : (List Int)) => (.new (.lst (r9.map eI)) : Wv))) (G := (fun (r9 : (List Int)) => ([.val false ((eT eI) weights), .val false (eI k), .val false (eI low), .own false (.lst (ends.map eI)), .un, .un] : Sl))) (ev_lcE (ds := fun (r5 : (List Int)) => r5.map eI) (G1 := (fun (r5 : (List Int)) => ([.val false ((eT eI) weights), .val false (eI k), .val false (eI low), .own false (.lst (ends.map eI)), .un, .un] : Sl))) (ev_E (w := fun (r4 : Int) => [.val (eI (1 : Int)), .val (eI r4)]) (G1 := (fun (r4 : Int) => ([.val false ((eT eI) weights), .val false (eI k), .val false (eI low), .own false (.lst (ends.map eI)), .un, .un] : Sl))) (ea_PE rfl (ea_EP (wa := (fun (r4 : Int) => (.val (eI r4) : Wv))) (Ga := (fun (r4 : Int) => ([.val false ((eT eI) weights), .val false (eI k), .val false (eI low), .own false (.lst (ends.map eI)), .un, .un] : Sl))) (wb := fun (r4 : Int) => []) (Gb := (fun (r4 : Int) => ([.val false ((eT eI) weights), .val false (eI k), .val false (eI low), .own false (.lst (ends.map eI)), .un, .un] : Sl))) (ev_binEP (wa := (fun (r2 : Int) => (.val (eI r2) : Wv))) (Ga := (fun (r2 : Int) => ([.val false ((eT eI) weights), .val false (eI k), .val false (eI low), .own false (.lst (ends.map eI)), .un, .un] : Sl))) (wb := (fun (r2 : Int) => (.val (eI (2 : Int)) : Wv))) (Gb := (fun (r2 : Int) => ([.val false ((eT eI) weights), .val false (eI k), .val false (eI low), .own false (.lst (ends.map eI)), .un, .un] : Sl))) (ev_binPP rfl rfl (g_ix (e := eI) rfl)) (fun (r2 : Int) => rfl) (fun (r2 : Int) => (ev_ok rfl))) (fun (r4 : Int) => pa_nil))) (fun _ => g_rng2)) (fun (r5 : (List Int)) => (ev_lcR (e := eI) (e' := eI) (xs := r5) (Fw := [.val false ((eT eI) weights), .val false (eI k), .val false (eI low), .own false (.lst (ends.map eI)), .un, .un]) (F2 := [.val false ((eT eI) weights), .val false (eI k), .val false (eI low), .own false (.lst (ends.map eI)), .un, .un]) (T := (fun (place : Int) => ([.val false ((eT eI) weights), .val false (eI k), .val false (eI low), .own false (.lst (ends.map eI)), .un, .val false (eI place)] : Sl))) (f := (fun (place : Int) => (modR place (weights.length : Int) : Ro Int))) rfl rfl (fun _ => rfl) (fun (place : Int) => (ev_E2 (w := (fun (r7 : Int) => (.val (eI r7) : Wv))) (G1 := (fun (r7 : Int) => ([.val false ((eT eI) weights), .val false (eI k), .val false (eI low), .own false (.lst (ends.map eI)), .un, .val false (eI place)] : Sl))) (w2 := fun (r7 : Int) => (eI r7 : D)) (G := (fun (r7 : Int) => ([.val false ((eT eI) weights), .val false (eI k), .val false (eI low), .own false (.lst (ends.map eI)), .un, .val false (eI place)] : Sl))) (ev_binPP rfl (bnd_P (u := (.val (eI (weights.length : Int)) : Wv)) (pa_cons rfl pa_nil) (o_len (e := eI) rfl)) g_mod) (fun _ => rfl))) (fun _ => rfl) rfl))) (fun _ => rfl)) fun (places : (List Int)) =>
    (tg_rtE (w := (fun (r19 : Bool) => (.val (eB r19) : Wv))) (G := (fun (r19 : Bool) => ([.val false ((eT eI) weights), .val false (eI k), .val false (eI low), .own false (.lst (ends.map eI)), .val false ((eL eI) places), .un] : Sl))) (ev_E (w := fun (r17 : (List Bool)) => [.new (.lst (r17.map eB))]) (G1 := (fun (r17 : (List Bool)) => ([.val false ((eT eI) weights), .val false (eI k), .val false (eI low), .own false (.lst (ends.map eI)), .val false ((eL eI) places), .un] : Sl))) (ea_EP (wa := (fun (r17 : (List Bool)) => (.new (.lst (r17.map eB)) : Wv))) (Ga := (fun (r17 : (List Bool)) => ([.val false ((eT eI) weights), .val false (eI k), .val false (eI low), .own false (.lst (ends.map eI)), .val false ((eL eI) places), .un] : Sl))) (wb := fun (r17 : (List Bool)) => []) (Gb := (fun (r17 : (List Bool)) => ([.val false ((eT eI) weights), .val false (eI k), .val false (eI low), .own false (.lst (ends.map eI)), .val false ((eL eI) places), .un] : Sl))) (ev_lcP (bnd_P (u := places.map eI) rfl rfl) (ev_lcR (e := eI) (e' := eB) (xs := places) (Fw := [.val false ((eT eI) weights), .val false (eI k), .val false (eI low), .own false (.lst (ends.map eI)), .val false ((eL eI) places), .un]) (F2 := [.val false ((eT eI) weights), .val false (eI k), .val false (eI low), .own false (.lst (ends.map eI)), .val false ((eL eI) places), .un]) (T := (fun (place : Int) => ([.val false ((eT eI) weights), .val false (eI k), .val false (eI low), .own false (.lst (ends.map eI)), .val false ((eL eI) places), .val false (eI place)] : Sl))) (f := (fun (place : Int) => ((((p_turned weights place).bind fun (r10 : (List Int)) => p_low_places r10 low).bind fun (r12 : (List Int)) => .ok (r12.length : Int)).bind fun (r14 : Int) => .ok (decide (k ≤ r14)) : Ro Bool))) rfl rfl (fun _ => rfl) (fun (place : Int) => (ev_E2 (w := (fun (r16 : Bool) => (.val (eB r16) : Wv))) (G1 := (fun (r16 : Bool) => ([.val false ((eT eI) weights), .val false (eI k), .val false (eI low), .own false (.lst (ends.map eI)), .val false ((eL eI) places), .val false (eI place)] : Sl))) (w2 := fun (r16 : Bool) => (eB r16 : D)) (G := (fun (r16 : Bool) => ([.val false ((eT eI) weights), .val false (eI k), .val false (eI low), .own false (.lst (ends.map eI)), .val false ((eL eI) places), .val false (eI place)] : Sl))) (ev_binEP (wa := (fun (r14 : Int) => (.val (eI r14) : Wv))) (Ga := (fun (r14 : Int) => ([.val false ((eT eI) weights), .val false (eI k), .val false (eI low), .own false (.lst (ends.map eI)), .val false ((eL eI) places), .val false (eI place)] : Sl))) (wb := (fun (r14 : Int) => (.val (eI k) : Wv))) (Gb := (fun (r14 : Int) => ([.val false ((eT eI) weights), .val false (eI k), .val false (eI low), .own false (.lst (ends.map eI)), .val false ((eL eI) places), .val false (eI place)] : Sl))) (ev_E (w := fun (r12 : (List Int)) => [.new (.lst (r12.map eI))]) (G1 := (fun (r12 : (List Int)) => ([.val false ((eT eI) weights), .val false (eI k), .val false (eI low), .own false (.lst (ends.map eI)), .val false ((eL eI) places), .val false (eI place)] : Sl))) (ea_EP (wa := (fun (r12 : (List Int)) => (.new (.lst (r12.map eI)) : Wv))) (Ga := (fun (r12 : (List Int)) => ([.val false ((eT eI) weights), .val false (eI k), .val false (eI low), .own false (.lst (ends.map eI)), .val false ((eL eI) places), .val false (eI place)] : Sl))) (wb := fun (r12 : (List Int)) => []) (Gb := (fun (r12 : (List Int)) => ([.val false ((eT eI) weights), .val false (eI k), .val false (eI low), .own false (.lst (ends.map eI)), .val false ((eL eI) places), .val false (eI place)] : Sl))) (ev_E (w := fun (r10 : (List Int)) => [.val ((eT eI) r10), .val (eI low)]) (G1 := (fun (r10 : (List Int)) => ([.val false ((eT eI) weights), .val false (eI k), .val false (eI low), .own false (.lst (ends.map eI)), .val false ((eL eI) places), .val false (eI place)] : Sl))) (ea_EP (wa := (fun (r10 : (List Int)) => (.val ((eT eI) r10) : Wv))) (Ga := (fun (r10 : (List Int)) => ([.val false ((eT eI) weights), .val false (eI k), .val false (eI low), .own false (.lst (ends.map eI)), .val false ((eL eI) places), .val false (eI place)] : Sl))) (wb := fun (r10 : (List Int)) => [.val (eI low)]) (Gb := (fun (r10 : (List Int)) => ([.val false ((eT eI) weights), .val false (eI k), .val false (eI low), .own false (.lst (ends.map eI)), .val false ((eL eI) places), .val false (eI place)] : Sl))) (ev_P (pa_cons rfl (pa_cons rfl pa_nil)) (tc0 rfl rfl rfl (s_turned weights place) trivial)) (fun (r10 : (List Int)) => (pa_cons rfl pa_nil))) (fun (r10 : (List Int)) => (tc0 rfl rfl rfl (s_low_places r10 low) trivial))) (fun (r12 : (List Int)) => pa_nil)) (fun (r12 : (List Int)) => (ev_ok (o_len (e := eI) rfl)))) (fun (r14 : Int) => rfl) (fun (r14 : Int) => (ev_ok rfl))) (fun _ => rfl))) (fun _ => rfl) rfl)) (fun (r17 : (List Bool)) => pa_nil)) (fun (r17 : (List Bool)) => (ev_ok (o_any rfl)))) (fun (r19 : Bool) => ⟨_, rfl, trivial⟩))))))

def b_ring_greatest_low : M SO := (sq (sEx (bnd (acons (nm 0) (acons (nm 1) anil)) (callM 2 f_check_ring)))
    (sq (asgP [2, 3] (acons (cst (.int 0)) (acons (bnd (acons (nm 0) anil) sumW) anil)))
    (sq (sIf (tstB (bin (nm 1) (cst (.int 1)) (eqD false))) (sRt (nm 3)) sNx)
    (sq (whM 4000 (tstB (bin (nm 2) (nm 3) (ltW))) (sq (asg 4 (bin (bin (bin (nm 2) (nm 3) addW) (cst (.int 1)) addW) (cst (.int 2)) iDiv))
    (sq (sIf (tst (bnd (acons (nm 0) (acons (nm 1) (acons (nm 4) anil))) (callM 3 f_ring_holds_low))) (sq (asg 2 (nm 4))
    sNx) (sq (asg 3 (bin (nm 4) (cst (.int 1)) iSub))
    sNx))
    (sq (ghK [4]) sNx))))
    (sRt (nm 2))))))
def f_ring_greatest_low : DT.Fn := endF 5 b_ring_greatest_low
def p_ring_greatest_low (weights : (List Int)) (k : Int) : Ro Int :=
  (p_check_ring weights k).bind fun (r1 : Unit) =>
    Let ((0 : Int), weights.sum) fun (q3 : (Int × Int)) =>
    if (decide (k = (1 : Int))) = true then .ok q3.2
    else (whR 4000 (fun (s5 : (Int × Int)) => (.ok (decide (s5.1 < s5.2)) : Ro Bool)) (fun (s5 : (Int × Int)) => (Let (((s5.1 + s5.2) + (1 : Int)) / (2 : Int)) fun (middle : Int) =>
    ((p_ring_holds_low weights k middle).bind fun (r10 : Bool) => if r10 = true then .ok (middle, s5.2)
    else Let (middle - (1 : Int)) fun (high : Int) =>
    .ok (s5.1, high)).bind fun (j12 : (Int × Int)) =>
    .ok (j12.1, j12.2) : Ro (Int × Int))) (q3.1, q3.2)).bind fun (s14 : (Int × Int)) =>
    .ok s14.1
theorem s_ring_greatest_low (weights : (List Int)) (k : Int) : EvF (f_ring_greatest_low [.val ((eT eI) weights), .val (eI k)]) (p_ring_greatest_low weights k) (fun (b : Int) => (.val (eI b) : Wv)) (fun (_ : Int) _ => True) :=
  tf_mk (X := fun _ => True) (t := true) (F0 := [.val false ((eT eI) weights), .val false (eI k), .un, .un, .un]) rfl (tg_E (G := (fun (r1 : Unit) => ([.val false ((eT eI) weights), .val false (eI k), .un, .un, .un] : Sl))) (es_ex (wf := (fun (r1 : Unit) => (.val (eN r1) : Wv))) (G := (fun (r1 : Unit) => ([.val false ((eT eI) weights), .val false (eI k), .un, .un, .un] : Sl))) (ev_P (pa_cons rfl (pa_cons rfl pa_nil)) (tc0 rfl rfl rfl (s_check_ring weights k) trivial))) fun (r1 : Unit) =>
    (tg_let (v := ((0 : Int), weights.sum)) (G := fun (q3 : (Int × Int)) => ([.val false ((eT eI) weights), .val false (eI k), .val false (eI q3.1), .val false (eI q3.2), .un] : Sl)) (ps_asgP (pa_cons rfl (pa_cons (bnd_P (u := (.val (eI weights.sum) : Wv)) (pa_cons rfl pa_nil) (o_sum rfl)) pa_nil)) rfl rfl) fun (q3 : (Int × Int)) =>
    (tg_ifT (pt_tstB (pv_bin rfl rfl (o_eq (a := k) (b := (1 : Int)) ek_I rfl rfl))) (tg_rtP rfl ⟨_, rfl, trivial⟩)
    (tg_nxR (tg_E (G := (fun (s14 : (Int × Int)) => ([.val false ((eT eI) weights), .val false (eI k), .val false (eI s14.1), .val false (eI s14.2), .un] : Sl))) (ev_wh (G := fun (s5 : (Int × Int)) => ([.val false ((eT eI) weights), .val false (eI k), .val false (eI s5.1), .val false (eI s5.2), .un] : Sl)) (fc := (fun (s5 : (Int × Int)) => (.ok (decide (s5.1 < s5.2)) : Ro Bool))) (f := (fun (s5 : (Int × Int)) => (Let (((s5.1 + s5.2) + (1 : Int)) / (2 : Int)) fun (middle : Int) =>
    ((p_ring_holds_low weights k middle).bind fun (r10 : Bool) => if r10 = true then .ok (middle, s5.2)
    else Let (middle - (1 : Int)) fun (high : Int) =>
    .ok (s5.1, high)).bind fun (j12 : (Int × Int)) =>
    .ok (j12.1, j12.2) : Ro (Int × Int)))) (fun (s5 : (Int × Int)) => (ev_ok (pt_tstB (pv_bin rfl rfl rfl)))) (fun (s5 : (Int × Int)) => (tg_let (v := (((s5.1 + s5.2) + (1 : Int)) / (2 : Int))) (G := fun (middle : Int) => ([.val false ((eT eI) weights), .val false (eI k), .val false (eI s5.1), .val false (eI s5.2), .val false (eI middle)] : Sl)) (asg_ok (pv_bin (pv_bin (pv_bin rfl rfl rfl) rfl rfl) rfl (o_div rfl)) rfl) fun (middle : Int) =>
    (tg_B (G := fun (j12 : (Int × Int)) => ([.val false ((eT eI) weights), .val false (eI k), .val false (eI j12.1), .val false (eI j12.2), .val false (eI middle)] : Sl)) (tg_ifE (v := fun (r10 : Bool) => r10) (G := (fun (r10 : Bool) => ([.val false ((eT eI) weights), .val false (eI k), .val false (eI s5.1), .val false (eI s5.2), .val false (eI middle)] : Sl))) (et_tst (w := (fun (r10 : Bool) => (.val (eB r10) : Wv))) (c := fun (r10 : Bool) => r10) (G := (fun (r10 : Bool) => ([.val false ((eT eI) weights), .val false (eI k), .val false (eI s5.1), .val false (eI s5.2), .val false (eI middle)] : Sl))) (ev_P (pa_cons rfl (pa_cons rfl (pa_cons rfl pa_nil))) (tc0 rfl rfl rfl (s_ring_holds_low weights k middle) trivial)) (fun (r10 : Bool) => rfl)) (fun (r10 : Bool) => (tg_P (F' := [.val false ((eT eI) weights), .val false (eI k), .val false (eI middle), .val false (eI s5.2), .val false (eI middle)]) (asg_ok rfl rfl)
    (tg_nx rfl)))
    (fun (r10 : Bool) => (tg_let (v := (middle - (1 : Int))) (G := fun (high : Int) => ([.val false ((eT eI) weights), .val false (eI k), .val false (eI s5.1), .val false (eI high), .val false (eI middle)] : Sl)) (asg_ok (pv_bin rfl rfl rfl) rfl) fun (high : Int) =>
    (tg_nx rfl)))) fun (j12 : (Int × Int)) =>
    (tg_P rfl (tg_nx (.inl rfl)))))) 4000 (q3.1, q3.2)) fun (s14 : (Int × Int)) =>
    (tg_rtP rfl ⟨_, rfl, trivial⟩))))))

def b__law_asked : M SO := (tryK 3 kinds
    (sRt (menuM 2 (piN 0) [f_ring_least_high, f_ring_greatest_low] (acons (nm 1) (acons (nm 2) anil)))))
def f__law_asked : DT.Fn := endF 4 b__law_asked
def p_law_asked (way : Int) (weights : (List Int)) (k : Int) : Ro D :=
  tryR kinds (menuR [(p_ring_least_high weights k).bind fun (r1 : Int) => .ok (eI r1), (p_ring_greatest_low weights k).bind fun (r2 : Int) => .ok (eI r2)] way)
theorem s_law_asked (way : Int) (weights : (List Int)) (k : Int) : EvF (f__law_asked [.val (eI way), .val ((eT eI) weights), .val (eI k)]) (p_law_asked way weights k) (fun (b : D) => (.val (eD b) : Wv)) (fun (_ : D) _ => True) :=
  tf_mk (X := fun _ => True) (t := true) (F0 := [.val false (eI way), .val false ((eT eI) weights), .val false (eI k), .un]) rfl (tg_try (N := 4) (tg_rtE (w := (fun (r3 : D) => (.val (eD r3) : Wv))) (G := (fun (r3 : D) => ([.val false (eI way), .val false ((eT eI) weights), .val false (eI k), .un] : Sl))) (ev_menu (n := way) (w := fun (d : D) => (.val d : Wv)) rfl rfl (pa_cons rfl (pa_cons rfl pa_nil)) (.cons (ev_map (f := fun (r1 : Int) => (eI r1 : D)) (w := fun (d : D) => (.val d : Wv)) (tc0 rfl rfl rfl (s_ring_least_high weights k) rfl)) (.cons (ev_map (f := fun (r2 : Int) => (eI r2 : D)) (w := fun (d : D) => (.val d : Wv)) (tc0 rfl rfl rfl (s_ring_greatest_low weights k) rfl)) .nil))) (fun (r3 : D) => ⟨_, rfl, trivial⟩)) (by decide) (fun _ _ _ => ⟨_, rfl, trivial⟩) rb_x)

def b_check_row : M SO := (sq (sIf (notT (tst (bnd (acons (nm 0) anil) (callM 1 f_is_row)))) (sRaise 0) sNx)
    (sq (sIf (notT (tstB (chn (cst (.int 1)) (nm 1) (iLe) (lnk (bnd (acons (nm 0) anil) lenW) (iLe))))) (sRaise 4) sNx)
    sNx))
def f_check_row : DT.Fn := endF 2 b_check_row
def p_check_row (weights : (List Int)) (k : Int) : Ro Unit :=
  (p_is_row weights).bind fun (r1 : Bool) => if (!r1) = true then .ex (.pl 0)
    else if (!((decide ((1 : Int) ≤ k)) && (decide (k ≤ (weights.length : Int))))) = true then .ex (.pl 4)
    else .ok ()
theorem s_check_row (weights : (List Int)) (k : Int) : EvF (f_check_row [.val ((eT eI) weights), .val (eI k)]) (p_check_row weights k) (fun (b : Unit) => (.val .none : Wv)) (fun (_ : Unit) _ => True) :=
  tf_mk (X := fun _ => True) (t := false) (F0 := [.val false ((eT eI) weights), .val false (eI k)]) rfl (tg_ifTE (v := fun (r1 : Bool) => (!r1)) (G := (fun (r1 : Bool) => ([.val false ((eT eI) weights), .val false (eI k)] : Sl))) (et_not (w := fun (r1 : Bool) => r1) (G := (fun (r1 : Bool) => ([.val false ((eT eI) weights), .val false (eI k)] : Sl))) (et_tst (w := (fun (r1 : Bool) => (.val (eB r1) : Wv))) (c := fun (r1 : Bool) => r1) (G := (fun (r1 : Bool) => ([.val false ((eT eI) weights), .val false (eI k)] : Sl))) (ev_P (pa_cons rfl pa_nil) (tc0 rfl rfl rfl (s_is_row weights) trivial)) (fun (r1 : Bool) => rfl))) (fun (r1 : Bool) => (tg_raise trivial))
    (fun (r1 : Bool) => (tg_nxR (tg_ifT (pt_not (pt_tstB (pv_chn rfl rfl rfl (bnd_P (u := (.val (eI (weights.length : Int)) : Wv)) (pa_cons rfl pa_nil) (o_len (e := eI) rfl)) rfl))) (tg_raise trivial)
    (tg_nxR (tg_nx ⟨_, rfl, trivial⟩))))))

def b_least_high : M SO := (sq (sEx (bnd (acons (nm 0) (acons (nm 1) anil)) (callM 2 f_check_row)))
    (sq (asgP [2, 3] (acons (bnd (acons (nm 0) anil) maxW) (acons (bnd (acons (nm 0) anil) sumW) anil)))
    (sq (whM 4000 (tstB (bin (nm 2) (nm 3) (ltW))) (sq (asg 4 (bin (bin (nm 2) (nm 3) addW) (cst (.int 2)) iDiv))
    (sq (sIf (tstB (bin (bnd (acons (bnd (acons (nm 0) (acons (nm 4) anil)) (callM 2 f_starts_for)) anil) lenW) (nm 1) (iLe))) (sq (asg 3 (nm 4))
    sNx) (sq (asg 2 (bin (nm 4) (cst (.int 1)) addW))
    sNx))
    (sq (ghK [4]) sNx))))
    (sRt (nm 2)))))
def f_least_high : DT.Fn := endF 5 b_least_high
def p_least_high (weights : (List Int)) (k : Int) : Ro Int :=
  (p_check_row weights k).bind fun (r1 : Unit) =>
    (maxR weights).bind fun (r2 : Int) =>
    (whR 4000 (fun (s4 : (Int × Int)) => (.ok (decide (s4.1 < s4.2)) : Ro Bool)) (fun (s4 : (Int × Int)) => (Let ((s4.1 + s4.2) / (2 : Int)) fun (middle : Int) =>
    ((((p_starts_for weights middle).bind fun (r8 : (List Int)) => .ok (r8.length : Int)).bind fun (r10 : Int) => .ok (decide (r10 ≤ k))).bind fun (r12 : Bool) => if r12 = true then .ok (s4.1, middle)
    else Let (middle + (1 : Int)) fun (low : Int) =>
    .ok (low, s4.2)).bind fun (j14 : (Int × Int)) =>
    .ok (j14.1, j14.2) : Ro (Int × Int))) (r2, weights.sum)).bind fun (s16 : (Int × Int)) =>
    .ok s16.1
theorem s_least_high (weights : (List Int)) (k : Int) : EvF (f_least_high [.val ((eT eI) weights), .val (eI k)]) (p_least_high weights k) (fun (b : Int) => (.val (eI b) : Wv)) (fun (_ : Int) _ => True) :=
  tf_mk (X := fun _ => True) (t := true) (F0 := [.val false ((eT eI) weights), .val false (eI k), .un, .un, .un]) rfl (tg_E (G := (fun (r1 : Unit) => ([.val false ((eT eI) weights), .val false (eI k), .un, .un, .un] : Sl))) (es_ex (wf := (fun (r1 : Unit) => (.val (eN r1) : Wv))) (G := (fun (r1 : Unit) => ([.val false ((eT eI) weights), .val false (eI k), .un, .un, .un] : Sl))) (ev_P (pa_cons rfl (pa_cons rfl pa_nil)) (tc0 rfl rfl rfl (s_check_row weights k) trivial))) fun (r1 : Unit) =>
    (tg_E (G := (fun (r2 : Int) => ([.val false ((eT eI) weights), .val false (eI k), .val false (eI r2), .val false (eI weights.sum), .un] : Sl))) (es_asgP (ws := fun (r2 : Int) => [.val (eI r2), .val (eI weights.sum)]) (G := (fun (r2 : Int) => ([.val false ((eT eI) weights), .val false (eI k), .un, .un, .un] : Sl))) (ds := fun (r2 : Int) => [eI r2, eI weights.sum]) (G1 := (fun (r2 : Int) => ([.val false ((eT eI) weights), .val false (eI k), .un, .un, .un] : Sl))) (ea_EP (wa := (fun (r2 : Int) => (.val (eI r2) : Wv))) (Ga := (fun (r2 : Int) => ([.val false ((eT eI) weights), .val false (eI k), .un, .un, .un] : Sl))) (wb := fun (r2 : Int) => [.val (eI weights.sum)]) (Gb := (fun (r2 : Int) => ([.val false ((eT eI) weights), .val false (eI k), .un, .un, .un] : Sl))) (ev_P (pa_cons rfl pa_nil) (g_max rfl)) (fun (r2 : Int) => (pa_cons (bnd_P (u := (.val (eI weights.sum) : Wv)) (pa_cons rfl pa_nil) (o_sum rfl)) pa_nil))) (fun _ => rfl) (fun _ => rfl)) fun (r2 : Int) =>
    (tg_E (G := (fun (s16 : (Int × Int)) => ([.val false ((eT eI) weights), .val false (eI k), .val false (eI s16.1), .val false (eI s16.2), .un] : Sl))) (ev_wh (G := fun (s4 : (Int × Int)) => ([.val false ((eT eI) weights), .val false (eI k), .val false (eI s4.1), .val false (eI s4.2), .un] : Sl)) (fc := (fun (s4 : (Int × Int)) => (.ok (decide (s4.1 < s4.2)) : Ro Bool))) (f := (fun (s4 : (Int × Int)) => (Let ((s4.1 + s4.2) / (2 : Int)) fun (middle : Int) =>
    ((((p_starts_for weights middle).bind fun (r8 : (List Int)) => .ok (r8.length : Int)).bind fun (r10 : Int) => .ok (decide (r10 ≤ k))).bind fun (r12 : Bool) => if r12 = true then .ok (s4.1, middle)
    else Let (middle + (1 : Int)) fun (low : Int) =>
    .ok (low, s4.2)).bind fun (j14 : (Int × Int)) =>
    .ok (j14.1, j14.2) : Ro (Int × Int)))) (fun (s4 : (Int × Int)) => (ev_ok (pt_tstB (pv_bin rfl rfl rfl)))) (fun (s4 : (Int × Int)) => (tg_let (v := ((s4.1 + s4.2) / (2 : Int))) (G := fun (middle : Int) => ([.val false ((eT eI) weights), .val false (eI k), .val false (eI s4.1), .val false (eI s4.2), .val false (eI middle)] : Sl)) (asg_ok (pv_bin (pv_bin rfl rfl rfl) rfl (o_div rfl)) rfl) fun (middle : Int) =>
    (tg_B (G := fun (j14 : (Int × Int)) => ([.val false ((eT eI) weights), .val false (eI k), .val false (eI j14.1), .val false (eI j14.2), .val false (eI middle)] : Sl)) (tg_ifE (v := fun (r12 : Bool) => r12) (G := (fun (r12 : Bool) => ([.val false ((eT eI) weights), .val false (eI k), .val false (eI s4.1), .val false (eI s4.2), .val false (eI middle)] : Sl))) (et_tstB (w := fun (r12 : Bool) => r12) (G := (fun (r12 : Bool) => ([.val false ((eT eI) weights), .val false (eI k), .val false (eI s4.1), .val false (eI s4.2), .val false (eI middle)] : Sl))) (ev_binEP (wa := (fun (r10 : Int) => (.val (eI r10) : Wv))) (Ga := (fun (r10 : Int) => ([.val false ((eT eI) weights), .val false (eI k), .val false (eI s4.1), .val false (eI s4.2), .val false (eI middle)] : Sl))) (wb := (fun (r10 : Int) => (.val (eI k) : Wv))) (Gb := (fun (r10 : Int) => ([.val false ((eT eI) weights), .val false (eI k), .val false (eI s4.1), .val false (eI s4.2), .val false (eI middle)] : Sl))) (ev_E (w := fun (r8 : (List Int)) => [.new (.lst (r8.map eI))]) (G1 := (fun (r8 : (List Int)) => ([.val false ((eT eI) weights), .val false (eI k), .val false (eI s4.1), .val false (eI s4.2), .val false (eI middle)] : Sl))) (ea_EP (wa := (fun (r8 : (List Int)) => (.new (.lst (r8.map eI)) : Wv))) (Ga := (fun (r8 : (List Int)) => ([.val false ((eT eI) weights), .val false (eI k), .val false (eI s4.1), .val false (eI s4.2), .val false (eI middle)] : Sl))) (wb := fun (r8 : (List Int)) => []) (Gb := (fun (r8 : (List Int)) => ([.val false ((eT eI) weights), .val false (eI k), .val false (eI s4.1), .val false (eI s4.2), .val false (eI middle)] : Sl))) (ev_P (pa_cons rfl (pa_cons rfl pa_nil)) (tc0 rfl rfl rfl (s_starts_for weights middle) trivial)) (fun (r8 : (List Int)) => pa_nil)) (fun (r8 : (List Int)) => (ev_ok (o_len (e := eI) rfl)))) (fun (r10 : Int) => rfl) (fun (r10 : Int) => (ev_ok rfl)))) (fun (r12 : Bool) => (tg_P (F' := [.val false ((eT eI) weights), .val false (eI k), .val false (eI s4.1), .val false (eI middle), .val false (eI middle)]) (asg_ok rfl rfl)
    (tg_nx rfl)))
    (fun (r12 : Bool) => (tg_let (v := (middle + (1 : Int))) (G := fun (low : Int) => ([.val false ((eT eI) weights), .val false (eI k), .val false (eI low), .val false (eI s4.2), .val false (eI middle)] : Sl)) (asg_ok (pv_bin rfl rfl rfl) rfl) fun (low : Int) =>
    (tg_nx rfl)))) fun (j14 : (Int × Int)) =>
    (tg_P rfl (tg_nx (.inl rfl)))))) 4000 (r2, weights.sum)) fun (s16 : (Int × Int)) =>
    (tg_rtP rfl ⟨_, rfl, trivial⟩))))

def b_greatest_low : M SO := (sq (sEx (bnd (acons (nm 0) (acons (nm 1) anil)) (callM 2 f_check_row)))
    (sq (asgP [2, 3] (acons (cst (.int 0)) (acons (bnd (acons (nm 0) anil) sumW) anil)))
    (sq (whM 4000 (tstB (bin (nm 2) (nm 3) (ltW))) (sq (asg 4 (bin (bin (bin (nm 2) (nm 3) addW) (cst (.int 1)) addW) (cst (.int 2)) iDiv))
    (sq (sIf (tstB (bin (bnd (acons (bnd (acons (nm 0) (acons (nm 4) anil)) (callM 2 f_low_places)) anil) lenW) (nm 1) (iGe))) (sq (asg 2 (nm 4))
    sNx) (sq (asg 3 (bin (nm 4) (cst (.int 1)) iSub))
    sNx))
    (sq (ghK [4]) sNx))))
    (sRt (nm 2)))))
def f_greatest_low : DT.Fn := endF 5 b_greatest_low
def p_greatest_low (weights : (List Int)) (k : Int) : Ro Int :=
  (p_check_row weights k).bind fun (r1 : Unit) =>
    Let ((0 : Int), weights.sum) fun (q3 : (Int × Int)) =>
    (whR 4000 (fun (s4 : (Int × Int)) => (.ok (decide (s4.1 < s4.2)) : Ro Bool)) (fun (s4 : (Int × Int)) => (Let (((s4.1 + s4.2) + (1 : Int)) / (2 : Int)) fun (middle : Int) =>
    ((((p_low_places weights middle).bind fun (r9 : (List Int)) => .ok (r9.length : Int)).bind fun (r11 : Int) => .ok (decide (k ≤ r11))).bind fun (r13 : Bool) => if r13 = true then .ok (middle, s4.2)
    else Let (middle - (1 : Int)) fun (high : Int) =>
    .ok (s4.1, high)).bind fun (j15 : (Int × Int)) =>
    .ok (j15.1, j15.2) : Ro (Int × Int))) (q3.1, q3.2)).bind fun (s17 : (Int × Int)) =>
    .ok s17.1
theorem s_greatest_low (weights : (List Int)) (k : Int) : EvF (f_greatest_low [.val ((eT eI) weights), .val (eI k)]) (p_greatest_low weights k) (fun (b : Int) => (.val (eI b) : Wv)) (fun (_ : Int) _ => True) :=
  tf_mk (X := fun _ => True) (t := true) (F0 := [.val false ((eT eI) weights), .val false (eI k), .un, .un, .un]) rfl (tg_E (G := (fun (r1 : Unit) => ([.val false ((eT eI) weights), .val false (eI k), .un, .un, .un] : Sl))) (es_ex (wf := (fun (r1 : Unit) => (.val (eN r1) : Wv))) (G := (fun (r1 : Unit) => ([.val false ((eT eI) weights), .val false (eI k), .un, .un, .un] : Sl))) (ev_P (pa_cons rfl (pa_cons rfl pa_nil)) (tc0 rfl rfl rfl (s_check_row weights k) trivial))) fun (r1 : Unit) =>
    (tg_let (v := ((0 : Int), weights.sum)) (G := fun (q3 : (Int × Int)) => ([.val false ((eT eI) weights), .val false (eI k), .val false (eI q3.1), .val false (eI q3.2), .un] : Sl)) (ps_asgP (pa_cons rfl (pa_cons (bnd_P (u := (.val (eI weights.sum) : Wv)) (pa_cons rfl pa_nil) (o_sum rfl)) pa_nil)) rfl rfl) fun (q3 : (Int × Int)) =>
    (tg_E (G := (fun (s17 : (Int × Int)) => ([.val false ((eT eI) weights), .val false (eI k), .val false (eI s17.1), .val false (eI s17.2), .un] : Sl))) (ev_wh (G := fun (s4 : (Int × Int)) => ([.val false ((eT eI) weights), .val false (eI k), .val false (eI s4.1), .val false (eI s4.2), .un] : Sl)) (fc := (fun (s4 : (Int × Int)) => (.ok (decide (s4.1 < s4.2)) : Ro Bool))) (f := (fun (s4 : (Int × Int)) => (Let (((s4.1 + s4.2) + (1 : Int)) / (2 : Int)) fun (middle : Int) =>
    ((((p_low_places weights middle).bind fun (r9 : (List Int)) => .ok (r9.length : Int)).bind fun (r11 : Int) => .ok (decide (k ≤ r11))).bind fun (r13 : Bool) => if r13 = true then .ok (middle, s4.2)
    else Let (middle - (1 : Int)) fun (high : Int) =>
    .ok (s4.1, high)).bind fun (j15 : (Int × Int)) =>
    .ok (j15.1, j15.2) : Ro (Int × Int)))) (fun (s4 : (Int × Int)) => (ev_ok (pt_tstB (pv_bin rfl rfl rfl)))) (fun (s4 : (Int × Int)) => (tg_let (v := (((s4.1 + s4.2) + (1 : Int)) / (2 : Int))) (G := fun (middle : Int) => ([.val false ((eT eI) weights), .val false (eI k), .val false (eI s4.1), .val false (eI s4.2), .val false (eI middle)] : Sl)) (asg_ok (pv_bin (pv_bin (pv_bin rfl rfl rfl) rfl rfl) rfl (o_div rfl)) rfl) fun (middle : Int) =>
    (tg_B (G := fun (j15 : (Int × Int)) => ([.val false ((eT eI) weights), .val false (eI k), .val false (eI j15.1), .val false (eI j15.2), .val false (eI middle)] : Sl)) (tg_ifE (v := fun (r13 : Bool) => r13) (G := (fun (r13 : Bool) => ([.val false ((eT eI) weights), .val false (eI k), .val false (eI s4.1), .val false (eI s4.2), .val false (eI middle)] : Sl))) (et_tstB (w := fun (r13 : Bool) => r13) (G := (fun (r13 : Bool) => ([.val false ((eT eI) weights), .val false (eI k), .val false (eI s4.1), .val false (eI s4.2), .val false (eI middle)] : Sl))) (ev_binEP (wa := (fun (r11 : Int) => (.val (eI r11) : Wv))) (Ga := (fun (r11 : Int) => ([.val false ((eT eI) weights), .val false (eI k), .val false (eI s4.1), .val false (eI s4.2), .val false (eI middle)] : Sl))) (wb := (fun (r11 : Int) => (.val (eI k) : Wv))) (Gb := (fun (r11 : Int) => ([.val false ((eT eI) weights), .val false (eI k), .val false (eI s4.1), .val false (eI s4.2), .val false (eI middle)] : Sl))) (ev_E (w := fun (r9 : (List Int)) => [.new (.lst (r9.map eI))]) (G1 := (fun (r9 : (List Int)) => ([.val false ((eT eI) weights), .val false (eI k), .val false (eI s4.1), .val false (eI s4.2), .val false (eI middle)] : Sl))) (ea_EP (wa := (fun (r9 : (List Int)) => (.new (.lst (r9.map eI)) : Wv))) (Ga := (fun (r9 : (List Int)) => ([.val false ((eT eI) weights), .val false (eI k), .val false (eI s4.1), .val false (eI s4.2), .val false (eI middle)] : Sl))) (wb := fun (r9 : (List Int)) => []) (Gb := (fun (r9 : (List Int)) => ([.val false ((eT eI) weights), .val false (eI k), .val false (eI s4.1), .val false (eI s4.2), .val false (eI middle)] : Sl))) (ev_P (pa_cons rfl (pa_cons rfl pa_nil)) (tc0 rfl rfl rfl (s_low_places weights middle) trivial)) (fun (r9 : (List Int)) => pa_nil)) (fun (r9 : (List Int)) => (ev_ok (o_len (e := eI) rfl)))) (fun (r11 : Int) => rfl) (fun (r11 : Int) => (ev_ok rfl)))) (fun (r13 : Bool) => (tg_P (F' := [.val false ((eT eI) weights), .val false (eI k), .val false (eI middle), .val false (eI s4.2), .val false (eI middle)]) (asg_ok rfl rfl)
    (tg_nx rfl)))
    (fun (r13 : Bool) => (tg_let (v := (middle - (1 : Int))) (G := fun (high : Int) => ([.val false ((eT eI) weights), .val false (eI k), .val false (eI s4.1), .val false (eI high), .val false (eI middle)] : Sl)) (asg_ok (pv_bin rfl rfl rfl) rfl) fun (high : Int) =>
    (tg_nx rfl)))) fun (j15 : (Int × Int)) =>
    (tg_P rfl (tg_nx (.inl rfl)))))) 4000 (q3.1, q3.2)) fun (s17 : (Int × Int)) =>
    (tg_rtP rfl ⟨_, rfl, trivial⟩))))

def b__law_flat : M SO := (sq (asg 1 (bnd anil mkLst))
    (sq (forM (bnd (nm 0) itW) (gN 2) (sq (sEx (mthP isLst 1 (acons (nm 2) anil) oExtend))
    (sq (ghK [2]) sNx)))
    (sRt (nm 1))))
def f__law_flat : DT.Fn := endF 3 b__law_flat
def p_law_flat {α_a : Type} (rows : (List (List α_a))) : Ro (List α_a) :=
  Let ([] : (List α_a)) fun (found : (List α_a)) =>
    (forR rows found (fun (row : (List α_a)) (s1 : (List α_a)) => ((catR s1 row).bind fun (r2 : (List α_a)) =>
    .ok r2 : Ro (List α_a)))).bind fun (s4 : (List α_a)) =>
    .ok s4
theorem s_law_flat {α_a : Type} {e_a : α_a → D} (rows : (List (List α_a))) : EvF (f__law_flat [.val ((eL (eL e_a)) rows)]) (p_law_flat rows) (fun (b : (List α_a)) => (.new (.lst (b.map e_a)) : Wv)) (fun (_ : (List α_a)) _ => True) :=
  tf_mk (X := fun _ => True) (t := true) (F0 := [.val false ((eL (eL e_a)) rows), .un, .un]) rfl (tg_let (v := ([] : (List α_a))) (G := fun (found : (List α_a)) => ([.val false ((eL (eL e_a)) rows), .own false (.lst (found.map e_a)), .un] : Sl)) (asg_ok (bnd_P (u := (.new (.lst (([] : (List α_a)).map e_a)) : Wv)) pa_nil rfl) rfl) fun (found : (List α_a)) =>
    (tg_E (G := (fun (s4 : (List α_a)) => ([.val false ((eL (eL e_a)) rows), .own false (.lst (s4.map e_a)), .un] : Sl))) (ev_P (bnd_P (u := rows.map (eL e_a)) rfl rfl) (ev_loop (e := (eL e_a)) (G := fun (s1 : (List α_a)) => ([.val false ((eL (eL e_a)) rows), .own false (.lst (s1.map e_a)), .un] : Sl)) (T := fun (row : (List α_a)) (s1 : (List α_a)) => ([.val false ((eL (eL e_a)) rows), .own false (.lst (s1.map e_a)), .val false ((eL e_a) row)] : Sl)) (f := (fun (row : (List α_a)) (s1 : (List α_a)) => ((catR s1 row).bind fun (r2 : (List α_a)) =>
    .ok r2 : Ro (List α_a)))) (fun _ _ => rfl) (fun (row : (List α_a)) (s1 : (List α_a)) => (tg_E (G := (fun (r2 : (List α_a)) => ([.val false ((eL (eL e_a)) rows), .own false (.lst (r2.map e_a)), .val false ((eL e_a) row)] : Sl))) (es_ex (wf := (fun (r2 : (List α_a)) => (.val (eN ()) : Wv))) (G := (fun (r2 : (List α_a)) => ([.val false ((eL (eL e_a)) rows), .own false (.lst (r2.map e_a)), .val false ((eL e_a) row)] : Sl))) (ev_ext (e := e_a) (ys := row) (F2 := [.val false ((eL (eL e_a)) rows), .own false (.lst (s1.map e_a)), .val false ((eL e_a) row)]) (H := fun (l3 : (List α_a)) => ([.val false ((eL (eL e_a)) rows), .own false (.lst (l3.map e_a)), .val false ((eL e_a) row)] : Sl)) rfl rfl rfl rfl (fun _ => rfl))) fun (r2 : (List α_a)) =>
    (tg_P rfl (tg_nx (.inl rfl))))) rows found)) fun (s4 : (List α_a)) =>
    (tg_rtP rfl ⟨_, rfl, trivial⟩)))

def b_law : M SO := (sq (asg 1 (bnd (acons (nm 0) anil) (callM 1 f__law_draws)))
    (sq (asg 1 (bnd (acons (nm 1) (acons (cst (.int 300)) anil)) (callM 2 f__law_more)))
    (sq (asg 2 (bin (cst (.int 3)) (bin (bnd (acons (bnd (acons (nm 1) anil) (callM 1 f__law_next)) anil) intW) (cst (.int 6)) iMod) addW))
    (sq (asg 3 (bin (cst (.int 1)) (bin (bnd (acons (bnd (acons (nm 1) anil) (callM 1 f__law_next)) anil) intW) (nm 2) iMod) addW))
    (sq (asg 4 (bnd (acons (nm 1) (acons (nm 2) anil)) (callM 2 f__law_weights)))
    (sq (asg 5 (iteM (tstB (bin (nm 3) (cst (.int 1)) (iGt))) (lcM [17] (bnd (bnd (acons (bin (nm 2) (cst (.int 1)) addW) (acons (bin (nm 3) (cst (.int 1)) addW) anil)) (callM 2 f__law_all_cuts)) itW) (gN 17) (ret true) (bnd (acons (nm 4) (acons (bnd (acons (lcM [18] (bnd (nm 17) itW) (gN 18) (ret true) (bin (nm 18) (cst (.int 1)) iSub)) anil) tupleW) anil)) (callM 2 f__law_ring_parts))) (bnd (acons (bnd (acons (bnd (acons (nm 4) anil) sumW) anil) mkLst) anil) mkLst)))
    (sq (asg 6 (bnd (acons (bnd (acons (lcM [19] (bnd (nm 5) itW) (gN 19) (ret true) (bnd (acons (nm 19) anil) maxW)) anil) minW) (acons (bnd (acons (lcM [19] (bnd (nm 5) itW) (gN 19) (ret true) (bnd (acons (nm 19) anil) minW)) anil) maxW) anil)) mkLst))
    (sq (sIf (tstB (bin (bnd (acons (lcM [20] (bnd (acons (cst (.int 2)) anil) rng1W) (gN 20) (ret true) (bnd (acons (nm 20) (acons (nm 4) (acons (nm 3) anil))) (callM 3 f__law_asked))) anil) reprW) (bnd (acons (nm 6) anil) reprW) (eqD true))) (sRt (cst (.bool false))) sNx)
    (sq (asg 7 (bin (cst (.int 9)) (bin (bnd (acons (bnd (acons (nm 1) anil) (callM 1 f__law_next)) anil) intW) (cst (.int 40)) iMod) addW))
    (sq (asgD (gT [8, 9]) (bnd (acons (bnd (acons (lcM [18] (bnd (acons (nm 7) anil) rng1W) (gN 18) (ret true) (bin (bnd (acons (bnd (acons (nm 1) anil) (callM 1 f__law_next)) anil) intW) (cst (.int 100)) iMod)) anil) tupleW) (acons (bin (cst (.int 2)) (bin (bnd (acons (bnd (acons (nm 1) anil) (callM 1 f__law_next)) anil) intW) (cst (.int 6)) iMod) addW) anil)) mkTup))
    (sq (asg 10 (bin (bnd (acons (bnd (acons (nm 1) anil) (callM 1 f__law_next)) anil) intW) (nm 7) iMod))
    (sq (asg 11 (bin (slM (nm 8) (.at (nm 10)) .no) (slM (nm 8) .no (.at (nm 10))) addW))
    (sq (asg 12 (bnd (acons (bnd (acons (nm 8) (acons (nm 9) anil)) (callM 2 f_ring_least_high)) (acons (bnd (acons (nm 8) (acons (nm 9) anil)) (callM 2 f_ring_greatest_low)) anil)) mkLst))
    (sq (asg 13 (lcM [18] (bnd (acons (nm 7) anil) rng1W) (gN 18) (ret true) (bin (slM (nm 8) (.at (nm 18)) .no) (slM (nm 8) .no (.at (nm 18))) addW)))
    (sq (sIf (tstB (bin (nm 12) (bnd (acons (bnd (acons (lcM [21] (bnd (nm 13) itW) (gN 21) (ret true) (bnd (acons (nm 21) (acons (nm 9) anil)) (callM 2 f_least_high))) anil) minW) (acons (bnd (acons (lcM [21] (bnd (nm 13) itW) (gN 21) (ret true) (bnd (acons (nm 21) (acons (nm 9) anil)) (callM 2 f_greatest_low))) anil) maxW) anil)) mkLst) (eqD true))) (sRt (cst (.bool false))) sNx)
    (sq (forM (bnd (bnd (acons (nm 11) (acons (un1 (nm 8) rvW) anil)) mkLst) itW) (gN 14) (sq (sIf (tstB (bin (bnd (acons (bnd (acons (nm 14) (acons (nm 9) anil)) (callM 2 f_ring_least_high)) (acons (bnd (acons (nm 14) (acons (nm 9) anil)) (callM 2 f_ring_greatest_low)) anil)) mkLst) (nm 12) (eqD true))) (sRt (cst (.bool false))) sNx)
    (sq (ghK [14]) sNx)))
    (sq (sIf (orT (tstB (bin (bnd (acons (nm 8) (acons (bin (nm 9) (cst (.int 1)) addW) anil)) (callM 2 f_ring_least_high)) (bin (nm 12) (cst (.int 0)) ixW) (iGt))) (orT (tstB (bin (bnd (acons (nm 8) (acons (bin (nm 9) (cst (.int 1)) addW) anil)) (callM 2 f_ring_greatest_low)) (bin (nm 12) (cst (.int 1)) ixW) (iGt))) (orT (tstB (bin (bin (nm 9) (bin (nm 12) (cst (.int 0)) ixW) mulW) (bnd (acons (nm 8) anil) sumW) (ltW))) (tstB (bin (bin (nm 9) (bin (nm 12) (cst (.int 1)) ixW) mulW) (bnd (acons (nm 8) anil) sumW) (iGt)))))) (sRt (cst (.bool false))) sNx)
    (sq (asg 15 (bnd (acons (bnd (acons (bnd (acons (cst (.int 1)) (acons (cst (.int 2)) (acons (cst (.int 3)) (acons (cst (.int 4)) anil)))) mkTup) (acons (cst (.int 2)) anil)) (callM 2 f_ring_least_high)) (acons (bnd (acons (bnd (acons (cst (.int 1)) (acons (cst (.int 2)) (acons (cst (.int 3)) (acons (cst (.int 4)) anil)))) mkTup) (acons (cst (.int 2)) anil)) (callM 2 f_ring_greatest_low)) (acons (bnd (acons (bnd (acons (cst (.int 5)) (acons (cst (.int 0)) (acons (cst (.int 5)) anil))) mkTup) (acons (cst (.int 2)) anil)) (callM 2 f_ring_least_high)) (acons (bnd (acons (bnd (acons (cst (.int 1)) (acons (cst (.int 1)) (acons (cst (.int 1)) anil))) mkTup) (acons (cst (.int 1)) anil)) (callM 2 f_ring_greatest_low)) (acons (bnd (acons (bnd (acons (cst (.int 0)) (acons (cst (.int 0)) (acons (cst (.int 0)) anil))) mkTup) (acons (cst (.int 3)) anil)) (callM 2 f_ring_least_high)) anil))))) mkLst))
    (sq (sIf (tstB (bin (bnd (acons (nm 15) anil) reprW) (bnd (acons (bnd (acons (cst (.int 5)) (acons (cst (.int 5)) (acons (cst (.int 5)) (acons (cst (.int 3)) (acons (cst (.int 0)) anil))))) mkLst) anil) reprW) (eqD true))) (sRt (cst (.bool false))) sNx)
    (sq (asg 16 (bnd (acons (bnd (lcM [20] (bnd (acons (cst (.int 2)) anil) rng1W) (gN 20) (ret true) (lcM [22] (bnd (bnd (acons (bnd anil mkTup) (acons (bnd (acons (cst (.int 1)) (acons (cst (.int 1)) anil)) mkTup) (acons (bin (bnd (acons (cst (.int 1)) anil) mkTup) (cst (.int 301)) mulX) (acons (bnd (acons (cst (.int 1)) (acons (un1 (cst (.int 1)) iNeg) (acons (cst (.int 1)) anil))) mkTup) (acons (bnd (acons (cst (.int 1000001)) (acons (cst (.int 1)) (acons (cst (.int 1)) anil))) mkTup) anil))))) mkLst) itW) (gN 22) (ret true) (bnd (acons (nm 20) (acons (nm 22) (acons (cst (.int 0)) anil))) (callM 3 f__law_asked)))) frV) anil) (callM 1 f__law_flat)))
    (sRt (andV (bin (nm 16) (bin (bnd (acons (cst (.str "!map")) anil) mkLst) (cst (.int 10)) mulW) (eqD false)) (bin (bnd (acons (bnd (lcM [20] (bnd (acons (cst (.int 2)) anil) rng1W) (gN 20) (ret true) (lcM [23] (bnd (bnd (acons (cst (.int 0)) (acons (bin (nm 2) (cst (.int 1)) addW) anil)) mkLst) itW) (gN 23) (ret true) (bnd (acons (nm 20) (acons (nm 4) (acons (nm 23) anil))) (callM 3 f__law_asked)))) frV) anil) (callM 1 f__law_flat)) (bin (bnd (acons (cst (.str "!number")) anil) mkLst) (cst (.int 4)) mulW) (eqD false))))))))))))))))))))))))
def f_law : DT.Fn := endF 24 b_law
def p_law (script : (List Int)) : Ro Bool :=
  (p_law_draws script).bind fun (draws : (List Int)) =>
    ((p_law_more draws (300 : Int)).noEx).bind fun (r2 : ((List Int) × (List Int))) =>
    (((((p_law_next r2.1).noEx).bind fun (r3 : (Int × (List Int))) => .ok (r3.1, r3.2)).bind fun (r5 : (Int × (List Int))) => .ok ((r5.1 % (6 : Int)), r5.2)).bind fun (r7 : (Int × (List Int))) => .ok (((3 : Int) + r7.1), r7.2)).bind fun (r9 : (Int × (List Int))) =>
    (((((p_law_next r9.2).noEx).bind fun (r10 : (Int × (List Int))) => .ok (r10.1, r10.2)).bind fun (r12 : (Int × (List Int))) => (modR r12.1 r9.1).bind fun (r13 : Int) => .ok (r13, r12.2)).bind fun (r14 : (Int × (List Int))) => .ok (((1 : Int) + r14.1), r14.2)).bind fun (r16 : (Int × (List Int))) =>
    ((p_law_weights r16.2 r9.1).noEx).bind fun (r17 : ((List Int) × (List Int))) =>
    (if (decide ((1 : Int) < r16.1)) = true then (p_law_all_cuts (r9.1 + (1 : Int)) (r16.1 + (1 : Int))).bind fun (r21 : (List (List Int))) => (szR r21.length ()).bind fun _ => (mapR r21 (fun (cuts : (List Int)) => (((szR cuts.length (cuts.map (fun (place : Int) => ((place - (1 : Int)) : Int)))).bind fun (r23 : (List Int)) => .ok r23).bind fun (r25 : (List Int)) => p_law_ring_parts r17.1 r25 : Ro (List Int)))).noEx else .ok ([([r17.1.sum] : (List Int))] : (List (List Int)))).bind fun (parts : (List (List Int))) =>
    (((((szR parts.length ()).bind fun _ => (mapR parts (fun (part : (List Int)) => (maxR part : Ro Int))).noEx).bind fun (r33 : (List Int)) => minR r33).bind fun (r35 : Int) => (((szR parts.length ()).bind fun _ => (mapR parts (fun (part : (List Int)) => (minR part : Ro Int))).noEx).bind fun (r37 : (List Int)) => maxR r37).bind fun (r39 : Int) => .ok (r35, r39)).bind fun (z40 : (Int × Int)) => .ok ([z40.1, z40.2] : (List Int))).bind fun (due : (List Int)) =>
    ((((szR (rngL 0 2).length ()).bind fun _ => (mapR (rngL 0 2) (fun (way : Int) => (p_law_asked way r17.1 r16.1 : Ro D))).noEx).bind fun (r43 : (List D)) => reprR ((eL eD) r43)).bind fun (r45 : Str) => (reprR ((eL eI) due)).bind fun (r46 : Str) => .ok (!decide (r45 = r46))).bind fun (r48 : Bool) => if r48 = true then .ok false
    else (((((p_law_next r17.2).noEx).bind fun (r49 : (Int × (List Int))) => .ok (r49.1, r49.2)).bind fun (r51 : (Int × (List Int))) => .ok ((r51.1 % (40 : Int)), r51.2)).bind fun (r53 : (Int × (List Int))) => .ok (((9 : Int) + r53.1), r53.2)).bind fun (r55 : (Int × (List Int))) =>
    (((((rng1R r55.1).bind fun (r56 : (List Int)) => ((szR r56.length ()).bind fun _ => (mapS r56 r55.2 (fun (place : Int) (s62 : (List Int)) => (((((p_law_next s62).noEx).bind fun (r63 : (Int × (List Int))) => .ok (r63.1, r63.2)).bind fun (r65 : (Int × (List Int))) => .ok ((r65.1 % (100 : Int)), r65.2)).bind fun (r67 : (Int × (List Int))) => .ok (r67.1, r67.2) : Ro (Int × (List Int))))).noEx).bind fun (r69 : (List Int × (List Int))) => .ok (r69.1, r69.2)).bind fun (r71 : ((List Int) × (List Int))) => .ok (r71.1, r71.2)).bind fun (r73 : ((List Int) × (List Int))) => (((((p_law_next r73.2).noEx).bind fun (r74 : (Int × (List Int))) => .ok (r74.1, r74.2)).bind fun (r76 : (Int × (List Int))) => .ok ((r76.1 % (6 : Int)), r76.2)).bind fun (r78 : (Int × (List Int))) => .ok (((2 : Int) + r78.1), r78.2)).bind fun (r80 : (Int × (List Int))) => .ok (r73, r80)).bind fun (z81 : (((List Int) × (List Int)) × (Int × (List Int)))) => .ok ((z81.1.1, z81.2.1), z81.2.2)).bind fun (r82 : (((List Int) × Int) × (List Int))) =>
    ((((p_law_next r82.2).noEx).bind fun (r83 : (Int × (List Int))) => .ok (r83.1, r83.2)).bind fun (r85 : (Int × (List Int))) => (modR r85.1 r55.1).bind fun (r86 : Int) => .ok (r86, r85.2)).bind fun (r87 : (Int × (List Int))) =>
    (catR (cutL r82.1.1 (some r87.1) none) (cutL r82.1.1 none (some r87.1))).bind fun (turned_v : (List Int)) =>
    (((p_ring_least_high r82.1.1 r82.1.2).bind fun (r89 : Int) => (p_ring_greatest_low r82.1.1 r82.1.2).bind fun (r90 : Int) => .ok (r89, r90)).bind fun (z91 : (Int × Int)) => .ok ([z91.1, z91.2] : (List Int))).bind fun (told : (List Int)) =>
    ((rng1R r55.1).bind fun (r93 : (List Int)) => (szR r93.length ()).bind fun _ => (mapR r93 (fun (place : Int) => (catR (cutL r82.1.1 (some place) none) (cutL r82.1.1 none (some place)) : Ro (List Int)))).noEx).bind fun (rows : (List (List Int))) =>
    ((((((szR rows.length ()).bind fun _ => (mapR rows (fun (row : (List Int)) => (p_least_high row r82.1.2 : Ro Int))).noEx).bind fun (r98 : (List Int)) => minR r98).bind fun (r100 : Int) => (((szR rows.length ()).bind fun _ => (mapR rows (fun (row : (List Int)) => (p_greatest_low row r82.1.2 : Ro Int))).noEx).bind fun (r102 : (List Int)) => maxR r102).bind fun (r104 : Int) => .ok (r100, r104)).bind fun (z105 : (Int × Int)) => .ok ([z105.1, z105.2] : (List Int))).bind fun (r106 : (List Int)) => .ok (!decide (told = r106))).bind fun (r108 : Bool) => if r108 = true then .ok false
    else (forT ([turned_v, (r82.1.1).reverse] : (List (List Int))) () (fun (other : (List Int)) (s109 : Unit) => (((((p_ring_least_high other r82.1.2).bind fun (r110 : Int) => (p_ring_greatest_low other r82.1.2).bind fun (r111 : Int) => .ok (r110, r111)).bind fun (z112 : (Int × Int)) => .ok ([z112.1, z112.2] : (List Int))).bind fun (r113 : (List Int)) => .ok (!decide (r113 = told))).bind fun (r115 : Bool) => if r115 = true then .ok (.inr false)
    else .ok (.inl ()) : Ro (Unit ⊕ Bool)))).bind (Sum.elim (fun (s116 : Unit) =>
    (((p_ring_least_high r82.1.1 (r82.1.2 + (1 : Int))).bind fun (r118 : Int) => (ixR told (0 : Int)).bind fun (r119 : Int) => .ok (decide (r119 < r118))).bind fun (r141 : Bool) => orR r141 (((p_ring_greatest_low r82.1.1 (r82.1.2 + (1 : Int))).bind fun (r123 : Int) => (ixR told (1 : Int)).bind fun (r124 : Int) => .ok (decide (r124 < r123))).bind fun (r140 : Bool) => orR r140 ((((ixR told (0 : Int)).bind fun (r127 : Int) => mulR r82.1.2 r127).bind fun (r129 : Int) => .ok (decide (r129 < r82.1.1.sum))).bind fun (r139 : Bool) => orR r139 (((ixR told (1 : Int)).bind fun (r133 : Int) => mulR r82.1.2 r133).bind fun (r135 : Int) => .ok (decide (r82.1.1.sum < r135)))))).bind fun (r142 : Bool) => if r142 = true then .ok false
    else (((p_ring_least_high ([(1 : Int), (2 : Int), (3 : Int), (4 : Int)] : (List Int)) (2 : Int)).bind fun (r143 : Int) => ((p_ring_greatest_low ([(1 : Int), (2 : Int), (3 : Int), (4 : Int)] : (List Int)) (2 : Int)).bind fun (r144 : Int) => ((p_ring_least_high ([(5 : Int), (0 : Int), (5 : Int)] : (List Int)) (2 : Int)).bind fun (r145 : Int) => ((p_ring_greatest_low ([(1 : Int), (1 : Int), (1 : Int)] : (List Int)) (1 : Int)).bind fun (r146 : Int) => (p_ring_least_high ([(0 : Int), (0 : Int), (0 : Int)] : (List Int)) (3 : Int)).bind fun (r147 : Int) => .ok (r146, r147)).bind fun (z148 : (Int × Int)) => .ok (r145, z148)).bind fun (z149 : (Int × (Int × Int))) => .ok (r144, z149)).bind fun (z150 : (Int × (Int × (Int × Int)))) => .ok (r143, z150)).bind fun (z151 : (Int × (Int × (Int × (Int × Int))))) => .ok ([z151.1, z151.2.1, z151.2.2.1, z151.2.2.2.1, z151.2.2.2.2] : (List Int))).bind fun (known : (List Int)) =>
    ((reprR ((eL eI) known)).bind fun (r153 : Str) => (reprR ((eL eI) ([(5 : Int), (5 : Int), (5 : Int), (3 : Int), (0 : Int)] : (List Int)))).bind fun (r154 : Str) => .ok (!decide (r153 = r154))).bind fun (r156 : Bool) => if r156 = true then .ok false
    else (((szR (rngL 0 2).length ()).bind fun _ => (mapR (rngL 0 2) (fun (way : Int) => (((trepR ([(1 : Int)] : (List Int)) (301 : Int)).bind fun (r157 : (List Int)) => .ok ([([] : (List Int)), ([(1 : Int), (1 : Int)] : (List Int)), r157, ([(1 : Int), (-1 : Int), (1 : Int)] : (List Int)), ([(1000001 : Int), (1 : Int), (1 : Int)] : (List Int))] : (List (List Int)))).bind fun (r158 : (List (List Int))) => (szR r158.length ()).bind fun _ => (mapR r158 (fun (bad : (List Int)) => (p_law_asked way bad (0 : Int) : Ro D))).noEx : Ro (List D)))).noEx).bind fun (r162 : (List (List D))) => p_law_flat r162).bind fun (maps : (List D)) =>
    ((repR ([("!map" : Str)] : (List Str)) (10 : Int)).bind fun (r165 : (List Str)) => eqR ((eL eD) maps) ((eL eS) r165)).bind fun (r177 : Bool) => andR r177 ((((szR (rngL 0 2).length ()).bind fun _ => (mapR (rngL 0 2) (fun (way : Int) => ((szR ([(0 : Int), (r9.1 + (1 : Int))] : (List Int)).length ()).bind fun _ => (mapR ([(0 : Int), (r9.1 + (1 : Int))] : (List Int)) (fun (parts_asked : Int) => (p_law_asked way r17.1 parts_asked : Ro D))).noEx : Ro (List D)))).noEx).bind fun (r171 : (List (List D))) => p_law_flat r171).bind fun (r173 : (List D)) => (repR ([("!number" : Str)] : (List Str)) (4 : Int)).bind fun (r174 : (List Str)) => eqR ((eL eD) r173) ((eL eS) r174))) Ro.ok)
theorem s_law (script : (List Int)) : EvF (f_law [.rol (script.map eI)]) (p_law script) (fun (b : Bool) => (.val (eB b) : Wv)) (fun (_ : Bool) _ => True) :=
  tf_mk (X := fun _ => True) (t := true) (F0 := [.rol (script.map eI), .un, .un, .un, .un, .un, .un, .un, .un, .un, .un, .un, .un, .un, .un, .un, .un, .un, .un, .un, .un, .un, .un, .un]) rfl (tg_E (G := (fun (draws : (List Int)) => ([.rol (script.map eI), .own false (.lst (draws.map eI)), .un, .un, .un, .un, .un, .un, .un, .un, .un, .un, .un, .un, .un, .un, .un, .un, .un, .un, .un, .un, .un, .un] : Sl))) (es_asg (wf := (fun (r1 : (List Int)) => (.new (.lst (r1.map eI)) : Wv))) (G := (fun (r1 : (List Int)) => ([.rol (script.map eI), .un, .un, .un, .un, .un, .un, .un, .un, .un, .un, .un, .un, .un, .un, .un, .un, .un, .un, .un, .un, .un, .un, .un] : Sl))) (ev_P (pa_cons rfl pa_nil) (tc0 rfl rfl rfl (s_law_draws script) trivial)) (fun _ => rfl)) fun (draws : (List Int)) =>
    (tg_E (G := (fun (r2 : ((List Int) × (List Int))) => ([.rol (script.map eI), .own false (.lst (r2.1.map eI)), .un, .un, .un, .un, .un, .un, .un, .un, .un, .un, .un, .un, .un, .un, .un, .un, .un, .un, .un, .un, .un, .un] : Sl))) (es_asg (wf := (fun (r2 : ((List Int) × (List Int))) => (.new (.lst (r2.1.map eI)) : Wv))) (G := (fun (r2 : ((List Int) × (List Int))) => ([.rol (script.map eI), .own false (.lst (r2.2.map eI)), .un, .un, .un, .un, .un, .un, .un, .un, .un, .un, .un, .un, .un, .un, .un, .un, .un, .un, .un, .un, .un, .un] : Sl))) (ev_P (pa_cons rfl (pa_cons rfl pa_nil)) (tc1 (H := fun (r2 : ((List Int) × (List Int))) => ([.rol (script.map eI), .own false (.lst (r2.2.map eI)), .un, .un, .un, .un, .un, .un, .un, .un, .un, .un, .un, .un, .un, .un, .un, .un, .un, .un, .un, .un, .un, .un] : Sl)) (c' := fun (r2 : ((List Int) × (List Int))) => .lst (r2.2.map eI)) rfl rfl rfl (s_law_more draws (300 : Int)) rfl (fun _ _ h => h) (fun _ => rfl))) (fun _ => rfl)) fun (r2 : ((List Int) × (List Int))) =>
    (tg_E (G := (fun (r9 : (Int × (List Int))) => ([.rol (script.map eI), .own false (.lst (r9.2.map eI)), .val false (eI r9.1), .un, .un, .un, .un, .un, .un, .un, .un, .un, .un, .un, .un, .un, .un, .un, .un, .un, .un, .un, .un, .un] : Sl))) (es_asg (wf := (fun (r9 : (Int × (List Int))) => (.val (eI r9.1) : Wv))) (G := (fun (r9 : (Int × (List Int))) => ([.rol (script.map eI), .own false (.lst (r9.2.map eI)), .un, .un, .un, .un, .un, .un, .un, .un, .un, .un, .un, .un, .un, .un, .un, .un, .un, .un, .un, .un, .un, .un] : Sl))) (ev_binPE (wb := (fun (r7 : (Int × (List Int))) => (.val (eI r7.1) : Wv))) (Gb := (fun (r7 : (Int × (List Int))) => ([.rol (script.map eI), .own false (.lst (r7.2.map eI)), .un, .un, .un, .un, .un, .un, .un, .un, .un, .un, .un, .un, .un, .un, .un, .un, .un, .un, .un, .un, .un, .un] : Sl))) rfl (ev_binEP (wa := (fun (r5 : (Int × (List Int))) => (.val (eI r5.1) : Wv))) (Ga := (fun (r5 : (Int × (List Int))) => ([.rol (script.map eI), .own false (.lst (r5.2.map eI)), .un, .un, .un, .un, .un, .un, .un, .un, .un, .un, .un, .un, .un, .un, .un, .un, .un, .un, .un, .un, .un, .un] : Sl))) (wb := (fun (r5 : (Int × (List Int))) => (.val (eI (6 : Int)) : Wv))) (Gb := (fun (r5 : (Int × (List Int))) => ([.rol (script.map eI), .own false (.lst (r5.2.map eI)), .un, .un, .un, .un, .un, .un, .un, .un, .un, .un, .un, .un, .un, .un, .un, .un, .un, .un, .un, .un, .un, .un] : Sl))) (ev_E (w := fun (r3 : (Int × (List Int))) => [.val (eI r3.1)]) (G1 := (fun (r3 : (Int × (List Int))) => ([.rol (script.map eI), .own false (.lst (r3.2.map eI)), .un, .un, .un, .un, .un, .un, .un, .un, .un, .un, .un, .un, .un, .un, .un, .un, .un, .un, .un, .un, .un, .un] : Sl))) (ea_EP (wa := (fun (r3 : (Int × (List Int))) => (.val (eI r3.1) : Wv))) (Ga := (fun (r3 : (Int × (List Int))) => ([.rol (script.map eI), .own false (.lst (r3.2.map eI)), .un, .un, .un, .un, .un, .un, .un, .un, .un, .un, .un, .un, .un, .un, .un, .un, .un, .un, .un, .un, .un, .un] : Sl))) (wb := fun (r3 : (Int × (List Int))) => []) (Gb := (fun (r3 : (Int × (List Int))) => ([.rol (script.map eI), .own false (.lst (r3.2.map eI)), .un, .un, .un, .un, .un, .un, .un, .un, .un, .un, .un, .un, .un, .un, .un, .un, .un, .un, .un, .un, .un, .un] : Sl))) (ev_P (pa_cons rfl pa_nil) (tc1 (H := fun (r3 : (Int × (List Int))) => ([.rol (script.map eI), .own false (.lst (r3.2.map eI)), .un, .un, .un, .un, .un, .un, .un, .un, .un, .un, .un, .un, .un, .un, .un, .un, .un, .un, .un, .un, .un, .un] : Sl)) (c' := fun (r3 : (Int × (List Int))) => .lst (r3.2.map eI)) rfl rfl rfl (s_law_next r2.1) rfl (fun _ _ h => h) (fun _ => rfl))) (fun (r3 : (Int × (List Int))) => pa_nil)) (fun (r3 : (Int × (List Int))) => (ev_ok rfl))) (fun (r5 : (Int × (List Int))) => rfl) (fun (r5 : (Int × (List Int))) => (ev_ok (o_mod rfl)))) (fun (r7 : (Int × (List Int))) => (ev_ok rfl))) (fun _ => rfl)) fun (r9 : (Int × (List Int))) =>
    (tg_E (G := (fun (r16 : (Int × (List Int))) => ([.rol (script.map eI), .own false (.lst (r16.2.map eI)), .val false (eI r9.1), .val false (eI r16.1), .un, .un, .un, .un, .un, .un, .un, .un, .un, .un, .un, .un, .un, .un, .un, .un, .un, .un, .un, .un] : Sl))) (es_asg (wf := (fun (r16 : (Int × (List Int))) => (.val (eI r16.1) : Wv))) (G := (fun (r16 : (Int × (List Int))) => ([.rol (script.map eI), .own false (.lst (r16.2.map eI)), .val false (eI r9.1), .un, .un, .un, .un, .un, .un, .un, .un, .un, .un, .un, .un, .un, .un, .un, .un, .un, .un, .un, .un, .un] : Sl))) (ev_binPE (wb := (fun (r14 : (Int × (List Int))) => (.val (eI r14.1) : Wv))) (Gb := (fun (r14 : (Int × (List Int))) => ([.rol (script.map eI), .own false (.lst (r14.2.map eI)), .val false (eI r9.1), .un, .un, .un, .un, .un, .un, .un, .un, .un, .un, .un, .un, .un, .un, .un, .un, .un, .un, .un, .un, .un] : Sl))) rfl (ev_binEP (wa := (fun (r12 : (Int × (List Int))) => (.val (eI r12.1) : Wv))) (Ga := (fun (r12 : (Int × (List Int))) => ([.rol (script.map eI), .own false (.lst (r12.2.map eI)), .val false (eI r9.1), .un, .un, .un, .un, .un, .un, .un, .un, .un, .un, .un, .un, .un, .un, .un, .un, .un, .un, .un, .un, .un] : Sl))) (wb := (fun (r12 : (Int × (List Int))) => (.val (eI r9.1) : Wv))) (Gb := (fun (r12 : (Int × (List Int))) => ([.rol (script.map eI), .own false (.lst (r12.2.map eI)), .val false (eI r9.1), .un, .un, .un, .un, .un, .un, .un, .un, .un, .un, .un, .un, .un, .un, .un, .un, .un, .un, .un, .un, .un] : Sl))) (ev_E (w := fun (r10 : (Int × (List Int))) => [.val (eI r10.1)]) (G1 := (fun (r10 : (Int × (List Int))) => ([.rol (script.map eI), .own false (.lst (r10.2.map eI)), .val false (eI r9.1), .un, .un, .un, .un, .un, .un, .un, .un, .un, .un, .un, .un, .un, .un, .un, .un, .un, .un, .un, .un, .un] : Sl))) (ea_EP (wa := (fun (r10 : (Int × (List Int))) => (.val (eI r10.1) : Wv))) (Ga := (fun (r10 : (Int × (List Int))) => ([.rol (script.map eI), .own false (.lst (r10.2.map eI)), .val false (eI r9.1), .un, .un, .un, .un, .un, .un, .un, .un, .un, .un, .un, .un, .un, .un, .un, .un, .un, .un, .un, .un, .un] : Sl))) (wb := fun (r10 : (Int × (List Int))) => []) (Gb := (fun (r10 : (Int × (List Int))) => ([.rol (script.map eI), .own false (.lst (r10.2.map eI)), .val false (eI r9.1), .un, .un, .un, .un, .un, .un, .un, .un, .un, .un, .un, .un, .un, .un, .un, .un, .un, .un, .un, .un, .un] : Sl))) (ev_P (pa_cons rfl pa_nil) (tc1 (H := fun (r10 : (Int × (List Int))) => ([.rol (script.map eI), .own false (.lst (r10.2.map eI)), .val false (eI r9.1), .un, .un, .un, .un, .un, .un, .un, .un, .un, .un, .un, .un, .un, .un, .un, .un, .un, .un, .un, .un, .un] : Sl)) (c' := fun (r10 : (Int × (List Int))) => .lst (r10.2.map eI)) rfl rfl rfl (s_law_next r9.2) rfl (fun _ _ h => h) (fun _ => rfl))) (fun (r10 : (Int × (List Int))) => pa_nil)) (fun (r10 : (Int × (List Int))) => (ev_ok rfl))) (fun (r12 : (Int × (List Int))) => rfl) (fun (r12 : (Int × (List Int))) => (ev_map (f := fun (r13 : Int) => (r13, r12.2)) g_mod))) (fun (r14 : (Int × (List Int))) => (ev_ok rfl))) (fun _ => rfl)) fun (r16 : (Int × (List Int))) =>
    (tg_E (G := (fun (r17 : ((List Int) × (List Int))) => ([.rol (script.map eI), .own false (.lst (r17.2.map eI)), .val false (eI r9.1), .val false (eI r16.1), .val false ((eT eI) r17.1), .un, .un, .un, .un, .un, .un, .un, .un, .un, .un, .un, .un, .un, .un, .un, .un, .un, .un, .un] : Sl))) (es_asg (wf := (fun (r17 : ((List Int) × (List Int))) => (.val ((eT eI) r17.1) : Wv))) (G := (fun (r17 : ((List Int) × (List Int))) => ([.rol (script.map eI), .own false (.lst (r17.2.map eI)), .val false (eI r9.1), .val false (eI r16.1), .un, .un, .un, .un, .un, .un, .un, .un, .un, .un, .un, .un, .un, .un, .un, .un, .un, .un, .un, .un] : Sl))) (ev_P (pa_cons rfl (pa_cons rfl pa_nil)) (tc1 (H := fun (r17 : ((List Int) × (List Int))) => ([.rol (script.map eI), .own false (.lst (r17.2.map eI)), .val false (eI r9.1), .val false (eI r16.1), .un, .un, .un, .un, .un, .un, .un, .un, .un, .un, .un, .un, .un, .un, .un, .un, .un, .un, .un, .un] : Sl)) (c' := fun (r17 : ((List Int) × (List Int))) => .lst (r17.2.map eI)) rfl rfl rfl (s_law_weights r16.2 r9.1) rfl (fun _ _ h => h) (fun _ => rfl))) (fun _ => rfl)) fun (r17 : ((List Int) × (List Int))) =>
    (tg_E (G := (fun (parts : (List (List Int))) => ([.rol (script.map eI), .own false (.lst (r17.2.map eI)), .val false (eI r9.1), .val false (eI r16.1), .val false ((eT eI) r17.1), .own false (.lst (parts.map (eL eI))), .un, .un, .un, .un, .un, .un, .un, .un, .un, .un, .un, .un, .un, .un, .un, .un, .un, .un] : Sl))) (es_asg (wf := (fun (r31 : (List (List Int))) => (.new (.lst (r31.map (eL eI))) : Wv))) (G := (fun (r31 : (List (List Int))) => ([.rol (script.map eI), .own false (.lst (r17.2.map eI)), .val false (eI r9.1), .val false (eI r16.1), .val false ((eT eI) r17.1), .un, .un, .un, .un, .un, .un, .un, .un, .un, .un, .un, .un, .un, .un, .un, .un, .un, .un, .un] : Sl))) (ev_iteP (w := (fun (r31 : (List (List Int))) => (.new (.lst (r31.map (eL eI))) : Wv))) (G := (fun (r31 : (List (List Int))) => ([.rol (script.map eI), .own false (.lst (r17.2.map eI)), .val false (eI r9.1), .val false (eI r16.1), .val false ((eT eI) r17.1), .un, .un, .un, .un, .un, .un, .un, .un, .un, .un, .un, .un, .un, .un, .un, .un, .un, .un, .un] : Sl))) (pt_tstB (pv_bin rfl rfl rfl)) (ev_lcE (ds := fun (r21 : (List (List Int))) => r21.map (eT eI)) (G1 := (fun (r21 : (List (List Int))) => ([.rol (script.map eI), .own false (.lst (r17.2.map eI)), .val false (eI r9.1), .val false (eI r16.1), .val false ((eT eI) r17.1), .un, .un, .un, .un, .un, .un, .un, .un, .un, .un, .un, .un, .un, .un, .un, .un, .un, .un, .un] : Sl))) (ev_E2 (w := (fun (r21 : (List (List Int))) => (.new (.lst (r21.map (eT eI))) : Wv))) (G1 := (fun (r21 : (List (List Int))) => ([.rol (script.map eI), .own false (.lst (r17.2.map eI)), .val false (eI r9.1), .val false (eI r16.1), .val false ((eT eI) r17.1), .un, .un, .un, .un, .un, .un, .un, .un, .un, .un, .un, .un, .un, .un, .un, .un, .un, .un, .un] : Sl))) (w2 := fun (r21 : (List (List Int))) => r21.map (eT eI)) (G := (fun (r21 : (List (List Int))) => ([.rol (script.map eI), .own false (.lst (r17.2.map eI)), .val false (eI r9.1), .val false (eI r16.1), .val false ((eT eI) r17.1), .un, .un, .un, .un, .un, .un, .un, .un, .un, .un, .un, .un, .un, .un, .un, .un, .un, .un, .un] : Sl))) (ev_P (pa_cons (pv_bin rfl rfl rfl) (pa_cons (pv_bin rfl rfl rfl) pa_nil)) (tc0 rfl rfl rfl (s_law_all_cuts (r9.1 + (1 : Int)) (r16.1 + (1 : Int))) trivial)) (fun _ => rfl)) (fun (r21 : (List (List Int))) => (ev_lcR (e := (eT eI)) (e' := (eL eI)) (xs := r21) (Fw := [.rol (script.map eI), .own false (.lst (r17.2.map eI)), .val false (eI r9.1), .val false (eI r16.1), .val false ((eT eI) r17.1), .un, .un, .un, .un, .un, .un, .un, .un, .un, .un, .un, .un, .un, .un, .un, .un, .un, .un, .un]) (F2 := [.rol (script.map eI), .own false (.lst (r17.2.map eI)), .val false (eI r9.1), .val false (eI r16.1), .val false ((eT eI) r17.1), .un, .un, .un, .un, .un, .un, .un, .un, .un, .un, .un, .un, .un, .un, .un, .un, .un, .un, .un]) (T := (fun (cuts : (List Int)) => ([.rol (script.map eI), .own false (.lst (r17.2.map eI)), .val false (eI r9.1), .val false (eI r16.1), .val false ((eT eI) r17.1), .un, .un, .un, .un, .un, .un, .un, .un, .un, .un, .un, .un, .val false ((eT eI) cuts), .un, .un, .un, .un, .un, .un] : Sl))) (f := (fun (cuts : (List Int)) => (((szR cuts.length (cuts.map (fun (place : Int) => ((place - (1 : Int)) : Int)))).bind fun (r23 : (List Int)) => .ok r23).bind fun (r25 : (List Int)) => p_law_ring_parts r17.1 r25 : Ro (List Int)))) rfl rfl (fun _ => rfl) (fun (cuts : (List Int)) => (ev_E2 (w := (fun (r27 : (List Int)) => (.new (.lst (r27.map eI)) : Wv))) (G1 := (fun (r27 : (List Int)) => ([.rol (script.map eI), .own false (.lst (r17.2.map eI)), .val false (eI r9.1), .val false (eI r16.1), .val false ((eT eI) r17.1), .un, .un, .un, .un, .un, .un, .un, .un, .un, .un, .un, .un, .val false ((eT eI) cuts), .un, .un, .un, .un, .un, .un] : Sl))) (w2 := fun (r27 : (List Int)) => ((eL eI) r27 : D)) (G := (fun (r27 : (List Int)) => ([.rol (script.map eI), .own false (.lst (r17.2.map eI)), .val false (eI r9.1), .val false (eI r16.1), .val false ((eT eI) r17.1), .un, .un, .un, .un, .un, .un, .un, .un, .un, .un, .un, .un, .val false ((eT eI) cuts), .un, .un, .un, .un, .un, .un] : Sl))) (ev_E (w := fun (r25 : (List Int)) => [.val ((eT eI) r17.1), .val ((eT eI) r25)]) (G1 := (fun (r25 : (List Int)) => ([.rol (script.map eI), .own false (.lst (r17.2.map eI)), .val false (eI r9.1), .val false (eI r16.1), .val false ((eT eI) r17.1), .un, .un, .un, .un, .un, .un, .un, .un, .un, .un, .un, .un, .val false ((eT eI) cuts), .un, .un, .un, .un, .un, .un] : Sl))) (ea_PE rfl (ea_EP (wa := (fun (r25 : (List Int)) => (.val ((eT eI) r25) : Wv))) (Ga := (fun (r25 : (List Int)) => ([.rol (script.map eI), .own false (.lst (r17.2.map eI)), .val false (eI r9.1), .val false (eI r16.1), .val false ((eT eI) r17.1), .un, .un, .un, .un, .un, .un, .un, .un, .un, .un, .un, .un, .val false ((eT eI) cuts), .un, .un, .un, .un, .un, .un] : Sl))) (wb := fun (r25 : (List Int)) => []) (Gb := (fun (r25 : (List Int)) => ([.rol (script.map eI), .own false (.lst (r17.2.map eI)), .val false (eI r9.1), .val false (eI r16.1), .val false ((eT eI) r17.1), .un, .un, .un, .un, .un, .un, .un, .un, .un, .un, .un, .un, .val false ((eT eI) cuts), .un, .un, .un, .un, .un, .un] : Sl))) (ev_E (w := fun (r23 : (List Int)) => [.new (.lst (r23.map eI))]) (G1 := (fun (r23 : (List Int)) => ([.rol (script.map eI), .own false (.lst (r17.2.map eI)), .val false (eI r9.1), .val false (eI r16.1), .val false ((eT eI) r17.1), .un, .un, .un, .un, .un, .un, .un, .un, .un, .un, .un, .un, .val false ((eT eI) cuts), .un, .un, .un, .un, .un, .un] : Sl))) (ea_EP (wa := (fun (r23 : (List Int)) => (.new (.lst (r23.map eI)) : Wv))) (Ga := (fun (r23 : (List Int)) => ([.rol (script.map eI), .own false (.lst (r17.2.map eI)), .val false (eI r9.1), .val false (eI r16.1), .val false ((eT eI) r17.1), .un, .un, .un, .un, .un, .un, .un, .un, .un, .un, .un, .un, .val false ((eT eI) cuts), .un, .un, .un, .un, .un, .un] : Sl))) (wb := fun (r23 : (List Int)) => []) (Gb := (fun (r23 : (List Int)) => ([.rol (script.map eI), .own false (.lst (r17.2.map eI)), .val false (eI r9.1), .val false (eI r16.1), .val false ((eT eI) r17.1), .un, .un, .un, .un, .un, .un, .un, .un, .un, .un, .un, .un, .val false ((eT eI) cuts), .un, .un, .un, .un, .un, .un] : Sl))) (ev_lcP (bnd_P (u := cuts.map eI) rfl rfl) (ev_lc (e := eI) (e' := eI) (xs := cuts) (Fw := [.rol (script.map eI), .own false (.lst (r17.2.map eI)), .val false (eI r9.1), .val false (eI r16.1), .val false ((eT eI) r17.1), .un, .un, .un, .un, .un, .un, .un, .un, .un, .un, .un, .un, .val false ((eT eI) cuts), .un, .un, .un, .un, .un, .un]) (F2 := [.rol (script.map eI), .own false (.lst (r17.2.map eI)), .val false (eI r9.1), .val false (eI r16.1), .val false ((eT eI) r17.1), .un, .un, .un, .un, .un, .un, .un, .un, .un, .un, .un, .un, .val false ((eT eI) cuts), .un, .un, .un, .un, .un, .un]) (T := (fun (place : Int) => ([.rol (script.map eI), .own false (.lst (r17.2.map eI)), .val false (eI r9.1), .val false (eI r16.1), .val false ((eT eI) r17.1), .un, .un, .un, .un, .un, .un, .un, .un, .un, .un, .un, .un, .val false ((eT eI) cuts), .val false (eI place), .un, .un, .un, .un, .un] : Sl))) (v := (fun (place : Int) => ((place - (1 : Int)) : Int))) rfl rfl (fun _ => rfl) (fun (place : Int) => bnd_P (pv_bin rfl rfl rfl) rfl) (fun _ => rfl) rfl)) (fun (r23 : (List Int)) => pa_nil)) (fun (r23 : (List Int)) => (ev_ok rfl))) (fun (r25 : (List Int)) => pa_nil))) (fun (r25 : (List Int)) => (tc0 rfl rfl rfl (s_law_ring_parts r17.1 r25) trivial))) (fun _ => rfl))) (fun _ => rfl) rfl))) (ev_ok (bnd_P (u := (.new (.lst (([([r17.1.sum] : (List Int))] : (List (List Int))).map (eL eI))) : Wv)) (pa_cons (bnd_P (u := (.new (.lst (([r17.1.sum] : (List Int)).map eI)) : Wv)) (pa_cons (bnd_P (u := (.val (eI r17.1.sum) : Wv)) (pa_cons rfl pa_nil) (o_sum rfl)) pa_nil) rfl) pa_nil) rfl))) (fun _ => rfl)) fun (parts : (List (List Int))) =>
    (tg_E (G := (fun (due : (List Int)) => ([.rol (script.map eI), .own false (.lst (r17.2.map eI)), .val false (eI r9.1), .val false (eI r16.1), .val false ((eT eI) r17.1), .val false ((eL (eL eI)) parts), .own false (.lst (due.map eI)), .un, .un, .un, .un, .un, .un, .un, .un, .un, .un, .un, .un, .un, .un, .un, .un, .un] : Sl))) (es_asg (wf := (fun (r41 : (List Int)) => (.new (.lst (r41.map eI)) : Wv))) (G := (fun (r41 : (List Int)) => ([.rol (script.map eI), .own false (.lst (r17.2.map eI)), .val false (eI r9.1), .val false (eI r16.1), .val false ((eT eI) r17.1), .val false ((eL (eL eI)) parts), .un, .un, .un, .un, .un, .un, .un, .un, .un, .un, .un, .un, .un, .un, .un, .un, .un, .un] : Sl))) (ev_E (w := fun (z40 : (Int × Int)) => [.val (eI z40.1), .val (eI z40.2)]) (G1 := (fun (z40 : (Int × Int)) => ([.rol (script.map eI), .own false (.lst (r17.2.map eI)), .val false (eI r9.1), .val false (eI r16.1), .val false ((eT eI) r17.1), .val false ((eL (eL eI)) parts), .un, .un, .un, .un, .un, .un, .un, .un, .un, .un, .un, .un, .un, .un, .un, .un, .un, .un] : Sl))) (ea_EE (wa := (fun (r35 : Int) => (.val (eI r35) : Wv))) (Ga := (fun (r35 : Int) => ([.rol (script.map eI), .own false (.lst (r17.2.map eI)), .val false (eI r9.1), .val false (eI r16.1), .val false ((eT eI) r17.1), .val false ((eL (eL eI)) parts), .un, .un, .un, .un, .un, .un, .un, .un, .un, .un, .un, .un, .un, .un, .un, .un, .un, .un] : Sl))) (wb := fun (r35 : Int) (r39 : Int) => [.val (eI r39)]) (Gb := fun (r35 : Int) => (fun (r39 : Int) => ([.rol (script.map eI), .own false (.lst (r17.2.map eI)), .val false (eI r9.1), .val false (eI r16.1), .val false ((eT eI) r17.1), .val false ((eL (eL eI)) parts), .un, .un, .un, .un, .un, .un, .un, .un, .un, .un, .un, .un, .un, .un, .un, .un, .un, .un] : Sl))) (ev_E (w := fun (r33 : (List Int)) => [.new (.lst (r33.map eI))]) (G1 := (fun (r33 : (List Int)) => ([.rol (script.map eI), .own false (.lst (r17.2.map eI)), .val false (eI r9.1), .val false (eI r16.1), .val false ((eT eI) r17.1), .val false ((eL (eL eI)) parts), .un, .un, .un, .un, .un, .un, .un, .un, .un, .un, .un, .un, .un, .un, .un, .un, .un, .un] : Sl))) (ea_EP (wa := (fun (r33 : (List Int)) => (.new (.lst (r33.map eI)) : Wv))) (Ga := (fun (r33 : (List Int)) => ([.rol (script.map eI), .own false (.lst (r17.2.map eI)), .val false (eI r9.1), .val false (eI r16.1), .val false ((eT eI) r17.1), .val false ((eL (eL eI)) parts), .un, .un, .un, .un, .un, .un, .un, .un, .un, .un, .un, .un, .un, .un, .un, .un, .un, .un] : Sl))) (wb := fun (r33 : (List Int)) => []) (Gb := (fun (r33 : (List Int)) => ([.rol (script.map eI), .own false (.lst (r17.2.map eI)), .val false (eI r9.1), .val false (eI r16.1), .val false ((eT eI) r17.1), .val false ((eL (eL eI)) parts), .un, .un, .un, .un, .un, .un, .un, .un, .un, .un, .un, .un, .un, .un, .un, .un, .un, .un] : Sl))) (ev_lcP (bnd_P (u := parts.map (eL eI)) rfl rfl) (ev_lcR (e := (eL eI)) (e' := eI) (xs := parts) (Fw := [.rol (script.map eI), .own false (.lst (r17.2.map eI)), .val false (eI r9.1), .val false (eI r16.1), .val false ((eT eI) r17.1), .val false ((eL (eL eI)) parts), .un, .un, .un, .un, .un, .un, .un, .un, .un, .un, .un, .un, .un, .un, .un, .un, .un, .un]) (F2 := [.rol (script.map eI), .own false (.lst (r17.2.map eI)), .val false (eI r9.1), .val false (eI r16.1), .val false ((eT eI) r17.1), .val false ((eL (eL eI)) parts), .un, .un, .un, .un, .un, .un, .un, .un, .un, .un, .un, .un, .un, .un, .un, .un, .un, .un]) (T := (fun (part : (List Int)) => ([.rol (script.map eI), .own false (.lst (r17.2.map eI)), .val false (eI r9.1), .val false (eI r16.1), .val false ((eT eI) r17.1), .val false ((eL (eL eI)) parts), .un, .un, .un, .un, .un, .un, .un, .un, .un, .un, .un, .un, .un, .val false ((eL eI) part), .un, .un, .un, .un] : Sl))) (f := (fun (part : (List Int)) => (maxR part : Ro Int))) rfl rfl (fun _ => rfl) (fun (part : (List Int)) => (ev_E2 (w := (fun (r32 : Int) => (.val (eI r32) : Wv))) (G1 := (fun (r32 : Int) => ([.rol (script.map eI), .own false (.lst (r17.2.map eI)), .val false (eI r9.1), .val false (eI r16.1), .val false ((eT eI) r17.1), .val false ((eL (eL eI)) parts), .un, .un, .un, .un, .un, .un, .un, .un, .un, .un, .un, .un, .un, .val false ((eL eI) part), .un, .un, .un, .un] : Sl))) (w2 := fun (r32 : Int) => (eI r32 : D)) (G := (fun (r32 : Int) => ([.rol (script.map eI), .own false (.lst (r17.2.map eI)), .val false (eI r9.1), .val false (eI r16.1), .val false ((eT eI) r17.1), .val false ((eL (eL eI)) parts), .un, .un, .un, .un, .un, .un, .un, .un, .un, .un, .un, .un, .un, .val false ((eL eI) part), .un, .un, .un, .un] : Sl))) (ev_P (pa_cons rfl pa_nil) (g_max rfl)) (fun _ => rfl))) (fun _ => rfl) rfl)) (fun (r33 : (List Int)) => pa_nil)) (fun (r33 : (List Int)) => (g_min rfl))) (fun (r35 : Int) => (ea_EP (wa := (fun (r39 : Int) => (.val (eI r39) : Wv))) (Ga := (fun (r39 : Int) => ([.rol (script.map eI), .own false (.lst (r17.2.map eI)), .val false (eI r9.1), .val false (eI r16.1), .val false ((eT eI) r17.1), .val false ((eL (eL eI)) parts), .un, .un, .un, .un, .un, .un, .un, .un, .un, .un, .un, .un, .un, .un, .un, .un, .un, .un] : Sl))) (wb := fun (r39 : Int) => []) (Gb := (fun (r39 : Int) => ([.rol (script.map eI), .own false (.lst (r17.2.map eI)), .val false (eI r9.1), .val false (eI r16.1), .val false ((eT eI) r17.1), .val false ((eL (eL eI)) parts), .un, .un, .un, .un, .un, .un, .un, .un, .un, .un, .un, .un, .un, .un, .un, .un, .un, .un] : Sl))) (ev_E (w := fun (r37 : (List Int)) => [.new (.lst (r37.map eI))]) (G1 := (fun (r37 : (List Int)) => ([.rol (script.map eI), .own false (.lst (r17.2.map eI)), .val false (eI r9.1), .val false (eI r16.1), .val false ((eT eI) r17.1), .val false ((eL (eL eI)) parts), .un, .un, .un, .un, .un, .un, .un, .un, .un, .un, .un, .un, .un, .un, .un, .un, .un, .un] : Sl))) (ea_EP (wa := (fun (r37 : (List Int)) => (.new (.lst (r37.map eI)) : Wv))) (Ga := (fun (r37 : (List Int)) => ([.rol (script.map eI), .own false (.lst (r17.2.map eI)), .val false (eI r9.1), .val false (eI r16.1), .val false ((eT eI) r17.1), .val false ((eL (eL eI)) parts), .un, .un, .un, .un, .un, .un, .un, .un, .un, .un, .un, .un, .un, .un, .un, .un, .un, .un] : Sl))) (wb := fun (r37 : (List Int)) => []) (Gb := (fun (r37 : (List Int)) => ([.rol (script.map eI), .own false (.lst (r17.2.map eI)), .val false (eI r9.1), .val false (eI r16.1), .val false ((eT eI) r17.1), .val false ((eL (eL eI)) parts), .un, .un, .un, .un, .un, .un, .un, .un, .un, .un, .un, .un, .un, .un, .un, .un, .un, .un] : Sl))) (ev_lcP (bnd_P (u := parts.map (eL eI)) rfl rfl) (ev_lcR (e := (eL eI)) (e' := eI) (xs := parts) (Fw := [.rol (script.map eI), .own false (.lst (r17.2.map eI)), .val false (eI r9.1), .val false (eI r16.1), .val false ((eT eI) r17.1), .val false ((eL (eL eI)) parts), .un, .un, .un, .un, .un, .un, .un, .un, .un, .un, .un, .un, .un, .un, .un, .un, .un, .un]) (F2 := [.rol (script.map eI), .own false (.lst (r17.2.map eI)), .val false (eI r9.1), .val false (eI r16.1), .val false ((eT eI) r17.1), .val false ((eL (eL eI)) parts), .un, .un, .un, .un, .un, .un, .un, .un, .un, .un, .un, .un, .un, .un, .un, .un, .un, .un]) (T := (fun (part : (List Int)) => ([.rol (script.map eI), .own false (.lst (r17.2.map eI)), .val false (eI r9.1), .val false (eI r16.1), .val false ((eT eI) r17.1), .val false ((eL (eL eI)) parts), .un, .un, .un, .un, .un, .un, .un, .un, .un, .un, .un, .un, .un, .val false ((eL eI) part), .un, .un, .un, .un] : Sl))) (f := (fun (part : (List Int)) => (minR part : Ro Int))) rfl rfl (fun _ => rfl) (fun (part : (List Int)) => (ev_E2 (w := (fun (r36 : Int) => (.val (eI r36) : Wv))) (G1 := (fun (r36 : Int) => ([.rol (script.map eI), .own false (.lst (r17.2.map eI)), .val false (eI r9.1), .val false (eI r16.1), .val false ((eT eI) r17.1), .val false ((eL (eL eI)) parts), .un, .un, .un, .un, .un, .un, .un, .un, .un, .un, .un, .un, .un, .val false ((eL eI) part), .un, .un, .un, .un] : Sl))) (w2 := fun (r36 : Int) => (eI r36 : D)) (G := (fun (r36 : Int) => ([.rol (script.map eI), .own false (.lst (r17.2.map eI)), .val false (eI r9.1), .val false (eI r16.1), .val false ((eT eI) r17.1), .val false ((eL (eL eI)) parts), .un, .un, .un, .un, .un, .un, .un, .un, .un, .un, .un, .un, .un, .val false ((eL eI) part), .un, .un, .un, .un] : Sl))) (ev_P (pa_cons rfl pa_nil) (g_min rfl)) (fun _ => rfl))) (fun _ => rfl) rfl)) (fun (r37 : (List Int)) => pa_nil)) (fun (r37 : (List Int)) => (g_max rfl))) (fun (r39 : Int) => pa_nil)))) (fun (z40 : (Int × Int)) => (ev_ok rfl))) (fun _ => rfl)) fun (due : (List Int)) =>
    (tg_ifTE (v := fun (r48 : Bool) => r48) (G := (fun (r48 : Bool) => ([.rol (script.map eI), .own false (.lst (r17.2.map eI)), .val false (eI r9.1), .val false (eI r16.1), .val false ((eT eI) r17.1), .val false ((eL (eL eI)) parts), .own false (.lst (due.map eI)), .un, .un, .un, .un, .un, .un, .un, .un, .un, .un, .un, .un, .un, .un, .un, .un, .un] : Sl))) (et_tstB (w := fun (r48 : Bool) => r48) (G := (fun (r48 : Bool) => ([.rol (script.map eI), .own false (.lst (r17.2.map eI)), .val false (eI r9.1), .val false (eI r16.1), .val false ((eT eI) r17.1), .val false ((eL (eL eI)) parts), .own false (.lst (due.map eI)), .un, .un, .un, .un, .un, .un, .un, .un, .un, .un, .un, .un, .un, .un, .un, .un, .un] : Sl))) (ev_binEE (wa := (fun (r45 : Str) => (.val (eS r45) : Wv))) (Ga := (fun (r45 : Str) => ([.rol (script.map eI), .own false (.lst (r17.2.map eI)), .val false (eI r9.1), .val false (eI r16.1), .val false ((eT eI) r17.1), .val false ((eL (eL eI)) parts), .own false (.lst (due.map eI)), .un, .un, .un, .un, .un, .un, .un, .un, .un, .un, .un, .un, .un, .un, .un, .un, .un] : Sl))) (wb := fun (r45 : Str) => (fun (r46 : Str) => (.val (eS r46) : Wv))) (Gb := fun (r45 : Str) => (fun (r46 : Str) => ([.rol (script.map eI), .own false (.lst (r17.2.map eI)), .val false (eI r9.1), .val false (eI r16.1), .val false ((eT eI) r17.1), .val false ((eL (eL eI)) parts), .own false (.lst (due.map eI)), .un, .un, .un, .un, .un, .un, .un, .un, .un, .un, .un, .un, .un, .un, .un, .un, .un] : Sl))) (ev_E (w := fun (r43 : (List D)) => [.new (.lst (r43.map eD))]) (G1 := (fun (r43 : (List D)) => ([.rol (script.map eI), .own false (.lst (r17.2.map eI)), .val false (eI r9.1), .val false (eI r16.1), .val false ((eT eI) r17.1), .val false ((eL (eL eI)) parts), .own false (.lst (due.map eI)), .un, .un, .un, .un, .un, .un, .un, .un, .un, .un, .un, .un, .un, .un, .un, .un, .un] : Sl))) (ea_EP (wa := (fun (r43 : (List D)) => (.new (.lst (r43.map eD)) : Wv))) (Ga := (fun (r43 : (List D)) => ([.rol (script.map eI), .own false (.lst (r17.2.map eI)), .val false (eI r9.1), .val false (eI r16.1), .val false ((eT eI) r17.1), .val false ((eL (eL eI)) parts), .own false (.lst (due.map eI)), .un, .un, .un, .un, .un, .un, .un, .un, .un, .un, .un, .un, .un, .un, .un, .un, .un] : Sl))) (wb := fun (r43 : (List D)) => []) (Gb := (fun (r43 : (List D)) => ([.rol (script.map eI), .own false (.lst (r17.2.map eI)), .val false (eI r9.1), .val false (eI r16.1), .val false ((eT eI) r17.1), .val false ((eL (eL eI)) parts), .own false (.lst (due.map eI)), .un, .un, .un, .un, .un, .un, .un, .un, .un, .un, .un, .un, .un, .un, .un, .un, .un] : Sl))) (ev_lcP (bnd_P (pa_cons rfl pa_nil) (o_rng1 (j := 2) (by decide))) (ev_lcR (e := eI) (e' := eD) (xs := (rngL 0 2)) (Fw := [.rol (script.map eI), .own false (.lst (r17.2.map eI)), .val false (eI r9.1), .val false (eI r16.1), .val false ((eT eI) r17.1), .val false ((eL (eL eI)) parts), .own false (.lst (due.map eI)), .un, .un, .un, .un, .un, .un, .un, .un, .un, .un, .un, .un, .un, .un, .un, .un, .un]) (F2 := [.rol (script.map eI), .own false (.lst (r17.2.map eI)), .val false (eI r9.1), .val false (eI r16.1), .val false ((eT eI) r17.1), .val false ((eL (eL eI)) parts), .own false (.lst (due.map eI)), .un, .un, .un, .un, .un, .un, .un, .un, .un, .un, .un, .un, .un, .un, .un, .un, .un]) (T := (fun (way : Int) => ([.rol (script.map eI), .own false (.lst (r17.2.map eI)), .val false (eI r9.1), .val false (eI r16.1), .val false ((eT eI) r17.1), .val false ((eL (eL eI)) parts), .own false (.lst (due.map eI)), .un, .un, .un, .un, .un, .un, .un, .un, .un, .un, .un, .un, .un, .val false (eI way), .un, .un, .un] : Sl))) (f := (fun (way : Int) => (p_law_asked way r17.1 r16.1 : Ro D))) rfl rfl (fun _ => rfl) (fun (way : Int) => (ev_E2 (w := (fun (r42 : D) => (.val (eD r42) : Wv))) (G1 := (fun (r42 : D) => ([.rol (script.map eI), .own false (.lst (r17.2.map eI)), .val false (eI r9.1), .val false (eI r16.1), .val false ((eT eI) r17.1), .val false ((eL (eL eI)) parts), .own false (.lst (due.map eI)), .un, .un, .un, .un, .un, .un, .un, .un, .un, .un, .un, .un, .un, .val false (eI way), .un, .un, .un] : Sl))) (w2 := fun (r42 : D) => (eD r42 : D)) (G := (fun (r42 : D) => ([.rol (script.map eI), .own false (.lst (r17.2.map eI)), .val false (eI r9.1), .val false (eI r16.1), .val false ((eT eI) r17.1), .val false ((eL (eL eI)) parts), .own false (.lst (due.map eI)), .un, .un, .un, .un, .un, .un, .un, .un, .un, .un, .un, .un, .un, .val false (eI way), .un, .un, .un] : Sl))) (ev_P (pa_cons rfl (pa_cons rfl (pa_cons rfl pa_nil))) (tc0 rfl rfl rfl (s_law_asked way r17.1 r16.1) trivial)) (fun _ => rfl))) (fun _ => rfl) rfl)) (fun (r43 : (List D)) => pa_nil)) (fun (r43 : (List D)) => (g_repr (d := ((eL eD) r43)) rfl))) (fun (r45 : Str) => (ev_P (pa_cons rfl pa_nil) (g_repr (d := ((eL eI) due)) rfl))) (fun (r45 : Str) (r46 : Str) => (ev_ok (o_ne (a := r45) (b := r46) ek_S rfl rfl))))) (fun (r48 : Bool) => (tg_rtP rfl ⟨_, rfl, trivial⟩))
    (fun (r48 : Bool) => (tg_nxR (tg_E (G := (fun (r55 : (Int × (List Int))) => ([.rol (script.map eI), .own false (.lst (r55.2.map eI)), .val false (eI r9.1), .val false (eI r16.1), .val false ((eT eI) r17.1), .val false ((eL (eL eI)) parts), .own false (.lst (due.map eI)), .val false (eI r55.1), .un, .un, .un, .un, .un, .un, .un, .un, .un, .un, .un, .un, .un, .un, .un, .un] : Sl))) (es_asg (wf := (fun (r55 : (Int × (List Int))) => (.val (eI r55.1) : Wv))) (G := (fun (r55 : (Int × (List Int))) => ([.rol (script.map eI), .own false (.lst (r55.2.map eI)), .val false (eI r9.1), .val false (eI r16.1), .val false ((eT eI) r17.1), .val false ((eL (eL eI)) parts), .own false (.lst (due.map eI)), .un, .un, .un, .un, .un, .un, .un, .un, .un, .un, .un, .un, .un, .un, .un, .un, .un] : Sl))) (ev_binPE (wb := (fun (r53 : (Int × (List Int))) => (.val (eI r53.1) : Wv))) (Gb := (fun (r53 : (Int × (List Int))) => ([.rol (script.map eI), .own false (.lst (r53.2.map eI)), .val false (eI r9.1), .val false (eI r16.1), .val false ((eT eI) r17.1), .val false ((eL (eL eI)) parts), .own false (.lst (due.map eI)), .un, .un, .un, .un, .un, .un, .un, .un, .un, .un, .un, .un, .un, .un, .un, .un, .un] : Sl))) rfl (ev_binEP (wa := (fun (r51 : (Int × (List Int))) => (.val (eI r51.1) : Wv))) (Ga := (fun (r51 : (Int × (List Int))) => ([.rol (script.map eI), .own false (.lst (r51.2.map eI)), .val false (eI r9.1), .val false (eI r16.1), .val false ((eT eI) r17.1), .val false ((eL (eL eI)) parts), .own false (.lst (due.map eI)), .un, .un, .un, .un, .un, .un, .un, .un, .un, .un, .un, .un, .un, .un, .un, .un, .un] : Sl))) (wb := (fun (r51 : (Int × (List Int))) => (.val (eI (40 : Int)) : Wv))) (Gb := (fun (r51 : (Int × (List Int))) => ([.rol (script.map eI), .own false (.lst (r51.2.map eI)), .val false (eI r9.1), .val false (eI r16.1), .val false ((eT eI) r17.1), .val false ((eL (eL eI)) parts), .own false (.lst (due.map eI)), .un, .un, .un, .un, .un, .un, .un, .un, .un, .un, .un, .un, .un, .un, .un, .un, .un] : Sl))) (ev_E (w := fun (r49 : (Int × (List Int))) => [.val (eI r49.1)]) (G1 := (fun (r49 : (Int × (List Int))) => ([.rol (script.map eI), .own false (.lst (r49.2.map eI)), .val false (eI r9.1), .val false (eI r16.1), .val false ((eT eI) r17.1), .val false ((eL (eL eI)) parts), .own false (.lst (due.map eI)), .un, .un, .un, .un, .un, .un, .un, .un, .un, .un, .un, .un, .un, .un, .un, .un, .un] : Sl))) (ea_EP (wa := (fun (r49 : (Int × (List Int))) => (.val (eI r49.1) : Wv))) (Ga := (fun (r49 : (Int × (List Int))) => ([.rol (script.map eI), .own false (.lst (r49.2.map eI)), .val false (eI r9.1), .val false (eI r16.1), .val false ((eT eI) r17.1), .val false ((eL (eL eI)) parts), .own false (.lst (due.map eI)), .un, .un, .un, .un, .un, .un, .un, .un, .un, .un, .un, .un, .un, .un, .un, .un, .un] : Sl))) (wb := fun (r49 : (Int × (List Int))) => []) (Gb := (fun (r49 : (Int × (List Int))) => ([.rol (script.map eI), .own false (.lst (r49.2.map eI)), .val false (eI r9.1), .val false (eI r16.1), .val false ((eT eI) r17.1), .val false ((eL (eL eI)) parts), .own false (.lst (due.map eI)), .un, .un, .un, .un, .un, .un, .un, .un, .un, .un, .un, .un, .un, .un, .un, .un, .un] : Sl))) (ev_P (pa_cons rfl pa_nil) (tc1 (H := fun (r49 : (Int × (List Int))) => ([.rol (script.map eI), .own false (.lst (r49.2.map eI)), .val false (eI r9.1), .val false (eI r16.1), .val false ((eT eI) r17.1), .val false ((eL (eL eI)) parts), .own false (.lst (due.map eI)), .un, .un, .un, .un, .un, .un, .un, .un, .un, .un, .un, .un, .un, .un, .un, .un, .un] : Sl)) (c' := fun (r49 : (Int × (List Int))) => .lst (r49.2.map eI)) rfl rfl rfl (s_law_next r17.2) rfl (fun _ _ h => h) (fun _ => rfl))) (fun (r49 : (Int × (List Int))) => pa_nil)) (fun (r49 : (Int × (List Int))) => (ev_ok rfl))) (fun (r51 : (Int × (List Int))) => rfl) (fun (r51 : (Int × (List Int))) => (ev_ok (o_mod rfl)))) (fun (r53 : (Int × (List Int))) => (ev_ok rfl))) (fun _ => rfl)) fun (r55 : (Int × (List Int))) =>
    (tg_E (G := (fun (r82 : (((List Int) × Int) × (List Int))) => ([.rol (script.map eI), .own false (.lst (r82.2.map eI)), .val false (eI r9.1), .val false (eI r16.1), .val false ((eT eI) r17.1), .val false ((eL (eL eI)) parts), .own false (.lst (due.map eI)), .val false (eI r55.1), .val false ((eT eI) r82.1.1), .val false (eI r82.1.2), .un, .un, .un, .un, .un, .un, .un, .un, .un, .un, .un, .un, .un, .un] : Sl))) (es_asgD (wf := (fun (r82 : (((List Int) × Int) × (List Int))) => (.val ((e2 (eT eI) eI) r82.1) : Wv))) (G := (fun (r82 : (((List Int) × Int) × (List Int))) => ([.rol (script.map eI), .own false (.lst (r82.2.map eI)), .val false (eI r9.1), .val false (eI r16.1), .val false ((eT eI) r17.1), .val false ((eL (eL eI)) parts), .own false (.lst (due.map eI)), .val false (eI r55.1), .un, .un, .un, .un, .un, .un, .un, .un, .un, .un, .un, .un, .un, .un, .un, .un] : Sl))) (d := fun (r82 : (((List Int) × Int) × (List Int))) => (e2 (eT eI) eI) r82.1) (G1 := (fun (r82 : (((List Int) × Int) × (List Int))) => ([.rol (script.map eI), .own false (.lst (r82.2.map eI)), .val false (eI r9.1), .val false (eI r16.1), .val false ((eT eI) r17.1), .val false ((eL (eL eI)) parts), .own false (.lst (due.map eI)), .val false (eI r55.1), .un, .un, .un, .un, .un, .un, .un, .un, .un, .un, .un, .un, .un, .un, .un, .un] : Sl))) (ev_E (w := fun (z81 : (((List Int) × (List Int)) × (Int × (List Int)))) => [.val ((eT eI) z81.1.1), .val (eI z81.2.1)]) (G1 := (fun (z81 : (((List Int) × (List Int)) × (Int × (List Int)))) => ([.rol (script.map eI), .own false (.lst (z81.2.2.map eI)), .val false (eI r9.1), .val false (eI r16.1), .val false ((eT eI) r17.1), .val false ((eL (eL eI)) parts), .own false (.lst (due.map eI)), .val false (eI r55.1), .un, .un, .un, .un, .un, .un, .un, .un, .un, .un, .un, .un, .un, .un, .un, .un] : Sl))) (ea_EE (wa := (fun (r73 : ((List Int) × (List Int))) => (.val ((eT eI) r73.1) : Wv))) (Ga := (fun (r73 : ((List Int) × (List Int))) => ([.rol (script.map eI), .own false (.lst (r73.2.map eI)), .val false (eI r9.1), .val false (eI r16.1), .val false ((eT eI) r17.1), .val false ((eL (eL eI)) parts), .own false (.lst (due.map eI)), .val false (eI r55.1), .un, .un, .un, .un, .un, .un, .un, .un, .un, .un, .un, .un, .un, .un, .un, .un] : Sl))) (wb := fun (r73 : ((List Int) × (List Int))) (r80 : (Int × (List Int))) => [.val (eI r80.1)]) (Gb := fun (r73 : ((List Int) × (List Int))) => (fun (r80 : (Int × (List Int))) => ([.rol (script.map eI), .own false (.lst (r80.2.map eI)), .val false (eI r9.1), .val false (eI r16.1), .val false ((eT eI) r17.1), .val false ((eL (eL eI)) parts), .own false (.lst (due.map eI)), .val false (eI r55.1), .un, .un, .un, .un, .un, .un, .un, .un, .un, .un, .un, .un, .un, .un, .un, .un] : Sl))) (ev_E (w := fun (r71 : ((List Int) × (List Int))) => [.new (.lst (r71.1.map eI))]) (G1 := (fun (r71 : ((List Int) × (List Int))) => ([.rol (script.map eI), .own false (.lst (r71.2.map eI)), .val false (eI r9.1), .val false (eI r16.1), .val false ((eT eI) r17.1), .val false ((eL (eL eI)) parts), .own false (.lst (due.map eI)), .val false (eI r55.1), .un, .un, .un, .un, .un, .un, .un, .un, .un, .un, .un, .un, .un, .un, .un, .un] : Sl))) (ea_EP (wa := (fun (r71 : ((List Int) × (List Int))) => (.new (.lst (r71.1.map eI)) : Wv))) (Ga := (fun (r71 : ((List Int) × (List Int))) => ([.rol (script.map eI), .own false (.lst (r71.2.map eI)), .val false (eI r9.1), .val false (eI r16.1), .val false ((eT eI) r17.1), .val false ((eL (eL eI)) parts), .own false (.lst (due.map eI)), .val false (eI r55.1), .un, .un, .un, .un, .un, .un, .un, .un, .un, .un, .un, .un, .un, .un, .un, .un] : Sl))) (wb := fun (r71 : ((List Int) × (List Int))) => []) (Gb := (fun (r71 : ((List Int) × (List Int))) => ([.rol (script.map eI), .own false (.lst (r71.2.map eI)), .val false (eI r9.1), .val false (eI r16.1), .val false ((eT eI) r17.1), .val false ((eL (eL eI)) parts), .own false (.lst (due.map eI)), .val false (eI r55.1), .un, .un, .un, .un, .un, .un, .un, .un, .un, .un, .un, .un, .un, .un, .un, .un] : Sl))) (ev_lcE (ds := fun (r56 : (List Int)) => r56.map eI) (G1 := (fun (r56 : (List Int)) => ([.rol (script.map eI), .own false (.lst (r55.2.map eI)), .val false (eI r9.1), .val false (eI r16.1), .val false ((eT eI) r17.1), .val false ((eL (eL eI)) parts), .own false (.lst (due.map eI)), .val false (eI r55.1), .un, .un, .un, .un, .un, .un, .un, .un, .un, .un, .un, .un, .un, .un, .un, .un] : Sl))) (ev_P (pa_cons rfl pa_nil) g_rng1) (fun (r56 : (List Int)) => (ev_map (f := fun (r69 : (List Int × (List Int))) => (r69.1, r69.2)) (ev_lcS (e := eI) (e' := eI) (xs := r56) (s0 := r55.2) (Gw := fun (s62 : (List Int)) => ([.rol (script.map eI), .own false (.lst (s62.map eI)), .val false (eI r9.1), .val false (eI r16.1), .val false ((eT eI) r17.1), .val false ((eL (eL eI)) parts), .own false (.lst (due.map eI)), .val false (eI r55.1), .un, .un, .un, .un, .un, .un, .un, .un, .un, .un, .un, .un, .un, .un, .un, .un] : Sl)) (G2 := fun (s70 : (List Int)) => ([.rol (script.map eI), .own false (.lst (s70.map eI)), .val false (eI r9.1), .val false (eI r16.1), .val false ((eT eI) r17.1), .val false ((eL (eL eI)) parts), .own false (.lst (due.map eI)), .val false (eI r55.1), .un, .un, .un, .un, .un, .un, .un, .un, .un, .un, .un, .un, .un, .un, .un, .un] : Sl)) (T := fun (place : Int) (s62 : (List Int)) => ([.rol (script.map eI), .own false (.lst (s62.map eI)), .val false (eI r9.1), .val false (eI r16.1), .val false ((eT eI) r17.1), .val false ((eL (eL eI)) parts), .own false (.lst (due.map eI)), .val false (eI r55.1), .un, .un, .un, .un, .un, .un, .un, .un, .un, .un, .val false (eI place), .un, .un, .un, .un, .un] : Sl)) (T' := fun (place : Int) (s62 : (List Int)) (z68 : (Int × (List Int))) => ([.rol (script.map eI), .own false (.lst (z68.2.map eI)), .val false (eI r9.1), .val false (eI r16.1), .val false ((eT eI) r17.1), .val false ((eL (eL eI)) parts), .own false (.lst (due.map eI)), .val false (eI r55.1), .un, .un, .un, .un, .un, .un, .un, .un, .un, .un, .val false (eI place), .un, .un, .un, .un, .un] : Sl)) (f := (fun (place : Int) (s62 : (List Int)) => (((((p_law_next s62).noEx).bind fun (r63 : (Int × (List Int))) => .ok (r63.1, r63.2)).bind fun (r65 : (Int × (List Int))) => .ok ((r65.1 % (100 : Int)), r65.2)).bind fun (r67 : (Int × (List Int))) => .ok (r67.1, r67.2) : Ro (Int × (List Int))))) rfl rfl (fun _ _ => rfl) (fun (place : Int) (s62 : (List Int)) => (ev_E2 (w := (fun (z68 : (Int × (List Int))) => (.val (eI z68.1) : Wv))) (G1 := (fun (z68 : (Int × (List Int))) => ([.rol (script.map eI), .own false (.lst (z68.2.map eI)), .val false (eI r9.1), .val false (eI r16.1), .val false ((eT eI) r17.1), .val false ((eL (eL eI)) parts), .own false (.lst (due.map eI)), .val false (eI r55.1), .un, .un, .un, .un, .un, .un, .un, .un, .un, .un, .val false (eI place), .un, .un, .un, .un, .un] : Sl))) (w2 := fun (z68 : (Int × (List Int))) => (eI z68.1 : D)) (G := (fun (z68 : (Int × (List Int))) => ([.rol (script.map eI), .own false (.lst (z68.2.map eI)), .val false (eI r9.1), .val false (eI r16.1), .val false ((eT eI) r17.1), .val false ((eL (eL eI)) parts), .own false (.lst (due.map eI)), .val false (eI r55.1), .un, .un, .un, .un, .un, .un, .un, .un, .un, .un, .val false (eI place), .un, .un, .un, .un, .un] : Sl))) (ev_map (f := fun (r67 : (Int × (List Int))) => (r67.1, r67.2)) (ev_binEP (wa := (fun (r65 : (Int × (List Int))) => (.val (eI r65.1) : Wv))) (Ga := (fun (r65 : (Int × (List Int))) => ([.rol (script.map eI), .own false (.lst (r65.2.map eI)), .val false (eI r9.1), .val false (eI r16.1), .val false ((eT eI) r17.1), .val false ((eL (eL eI)) parts), .own false (.lst (due.map eI)), .val false (eI r55.1), .un, .un, .un, .un, .un, .un, .un, .un, .un, .un, .val false (eI place), .un, .un, .un, .un, .un] : Sl))) (wb := (fun (r65 : (Int × (List Int))) => (.val (eI (100 : Int)) : Wv))) (Gb := (fun (r65 : (Int × (List Int))) => ([.rol (script.map eI), .own false (.lst (r65.2.map eI)), .val false (eI r9.1), .val false (eI r16.1), .val false ((eT eI) r17.1), .val false ((eL (eL eI)) parts), .own false (.lst (due.map eI)), .val false (eI r55.1), .un, .un, .un, .un, .un, .un, .un, .un, .un, .un, .val false (eI place), .un, .un, .un, .un, .un] : Sl))) (ev_E (w := fun (r63 : (Int × (List Int))) => [.val (eI r63.1)]) (G1 := (fun (r63 : (Int × (List Int))) => ([.rol (script.map eI), .own false (.lst (r63.2.map eI)), .val false (eI r9.1), .val false (eI r16.1), .val false ((eT eI) r17.1), .val false ((eL (eL eI)) parts), .own false (.lst (due.map eI)), .val false (eI r55.1), .un, .un, .un, .un, .un, .un, .un, .un, .un, .un, .val false (eI place), .un, .un, .un, .un, .un] : Sl))) (ea_EP (wa := (fun (r63 : (Int × (List Int))) => (.val (eI r63.1) : Wv))) (Ga := (fun (r63 : (Int × (List Int))) => ([.rol (script.map eI), .own false (.lst (r63.2.map eI)), .val false (eI r9.1), .val false (eI r16.1), .val false ((eT eI) r17.1), .val false ((eL (eL eI)) parts), .own false (.lst (due.map eI)), .val false (eI r55.1), .un, .un, .un, .un, .un, .un, .un, .un, .un, .un, .val false (eI place), .un, .un, .un, .un, .un] : Sl))) (wb := fun (r63 : (Int × (List Int))) => []) (Gb := (fun (r63 : (Int × (List Int))) => ([.rol (script.map eI), .own false (.lst (r63.2.map eI)), .val false (eI r9.1), .val false (eI r16.1), .val false ((eT eI) r17.1), .val false ((eL (eL eI)) parts), .own false (.lst (due.map eI)), .val false (eI r55.1), .un, .un, .un, .un, .un, .un, .un, .un, .un, .un, .val false (eI place), .un, .un, .un, .un, .un] : Sl))) (ev_P (pa_cons rfl pa_nil) (tc1 (H := fun (r63 : (Int × (List Int))) => ([.rol (script.map eI), .own false (.lst (r63.2.map eI)), .val false (eI r9.1), .val false (eI r16.1), .val false ((eT eI) r17.1), .val false ((eL (eL eI)) parts), .own false (.lst (due.map eI)), .val false (eI r55.1), .un, .un, .un, .un, .un, .un, .un, .un, .un, .un, .val false (eI place), .un, .un, .un, .un, .un] : Sl)) (c' := fun (r63 : (Int × (List Int))) => .lst (r63.2.map eI)) rfl rfl rfl (s_law_next s62) rfl (fun _ _ h => h) (fun _ => rfl))) (fun (r63 : (Int × (List Int))) => pa_nil)) (fun (r63 : (Int × (List Int))) => (ev_ok rfl))) (fun (r65 : (Int × (List Int))) => rfl) (fun (r65 : (Int × (List Int))) => (ev_ok (o_mod rfl))))) (fun _ => rfl))) (fun _ _ _ => rfl) (fun _ => rfl))))) (fun (r71 : ((List Int) × (List Int))) => pa_nil)) (fun (r71 : ((List Int) × (List Int))) => (ev_ok rfl))) (fun (r73 : ((List Int) × (List Int))) => (ea_EP (wa := (fun (r80 : (Int × (List Int))) => (.val (eI r80.1) : Wv))) (Ga := (fun (r80 : (Int × (List Int))) => ([.rol (script.map eI), .own false (.lst (r80.2.map eI)), .val false (eI r9.1), .val false (eI r16.1), .val false ((eT eI) r17.1), .val false ((eL (eL eI)) parts), .own false (.lst (due.map eI)), .val false (eI r55.1), .un, .un, .un, .un, .un, .un, .un, .un, .un, .un, .un, .un, .un, .un, .un, .un] : Sl))) (wb := fun (r80 : (Int × (List Int))) => []) (Gb := (fun (r80 : (Int × (List Int))) => ([.rol (script.map eI), .own false (.lst (r80.2.map eI)), .val false (eI r9.1), .val false (eI r16.1), .val false ((eT eI) r17.1), .val false ((eL (eL eI)) parts), .own false (.lst (due.map eI)), .val false (eI r55.1), .un, .un, .un, .un, .un, .un, .un, .un, .un, .un, .un, .un, .un, .un, .un, .un] : Sl))) (ev_binPE (wb := (fun (r78 : (Int × (List Int))) => (.val (eI r78.1) : Wv))) (Gb := (fun (r78 : (Int × (List Int))) => ([.rol (script.map eI), .own false (.lst (r78.2.map eI)), .val false (eI r9.1), .val false (eI r16.1), .val false ((eT eI) r17.1), .val false ((eL (eL eI)) parts), .own false (.lst (due.map eI)), .val false (eI r55.1), .un, .un, .un, .un, .un, .un, .un, .un, .un, .un, .un, .un, .un, .un, .un, .un] : Sl))) rfl (ev_binEP (wa := (fun (r76 : (Int × (List Int))) => (.val (eI r76.1) : Wv))) (Ga := (fun (r76 : (Int × (List Int))) => ([.rol (script.map eI), .own false (.lst (r76.2.map eI)), .val false (eI r9.1), .val false (eI r16.1), .val false ((eT eI) r17.1), .val false ((eL (eL eI)) parts), .own false (.lst (due.map eI)), .val false (eI r55.1), .un, .un, .un, .un, .un, .un, .un, .un, .un, .un, .un, .un, .un, .un, .un, .un] : Sl))) (wb := (fun (r76 : (Int × (List Int))) => (.val (eI (6 : Int)) : Wv))) (Gb := (fun (r76 : (Int × (List Int))) => ([.rol (script.map eI), .own false (.lst (r76.2.map eI)), .val false (eI r9.1), .val false (eI r16.1), .val false ((eT eI) r17.1), .val false ((eL (eL eI)) parts), .own false (.lst (due.map eI)), .val false (eI r55.1), .un, .un, .un, .un, .un, .un, .un, .un, .un, .un, .un, .un, .un, .un, .un, .un] : Sl))) (ev_E (w := fun (r74 : (Int × (List Int))) => [.val (eI r74.1)]) (G1 := (fun (r74 : (Int × (List Int))) => ([.rol (script.map eI), .own false (.lst (r74.2.map eI)), .val false (eI r9.1), .val false (eI r16.1), .val false ((eT eI) r17.1), .val false ((eL (eL eI)) parts), .own false (.lst (due.map eI)), .val false (eI r55.1), .un, .un, .un, .un, .un, .un, .un, .un, .un, .un, .un, .un, .un, .un, .un, .un] : Sl))) (ea_EP (wa := (fun (r74 : (Int × (List Int))) => (.val (eI r74.1) : Wv))) (Ga := (fun (r74 : (Int × (List Int))) => ([.rol (script.map eI), .own false (.lst (r74.2.map eI)), .val false (eI r9.1), .val false (eI r16.1), .val false ((eT eI) r17.1), .val false ((eL (eL eI)) parts), .own false (.lst (due.map eI)), .val false (eI r55.1), .un, .un, .un, .un, .un, .un, .un, .un, .un, .un, .un, .un, .un, .un, .un, .un] : Sl))) (wb := fun (r74 : (Int × (List Int))) => []) (Gb := (fun (r74 : (Int × (List Int))) => ([.rol (script.map eI), .own false (.lst (r74.2.map eI)), .val false (eI r9.1), .val false (eI r16.1), .val false ((eT eI) r17.1), .val false ((eL (eL eI)) parts), .own false (.lst (due.map eI)), .val false (eI r55.1), .un, .un, .un, .un, .un, .un, .un, .un, .un, .un, .un, .un, .un, .un, .un, .un] : Sl))) (ev_P (pa_cons rfl pa_nil) (tc1 (H := fun (r74 : (Int × (List Int))) => ([.rol (script.map eI), .own false (.lst (r74.2.map eI)), .val false (eI r9.1), .val false (eI r16.1), .val false ((eT eI) r17.1), .val false ((eL (eL eI)) parts), .own false (.lst (due.map eI)), .val false (eI r55.1), .un, .un, .un, .un, .un, .un, .un, .un, .un, .un, .un, .un, .un, .un, .un, .un] : Sl)) (c' := fun (r74 : (Int × (List Int))) => .lst (r74.2.map eI)) rfl rfl rfl (s_law_next r73.2) rfl (fun _ _ h => h) (fun _ => rfl))) (fun (r74 : (Int × (List Int))) => pa_nil)) (fun (r74 : (Int × (List Int))) => (ev_ok rfl))) (fun (r76 : (Int × (List Int))) => rfl) (fun (r76 : (Int × (List Int))) => (ev_ok (o_mod rfl)))) (fun (r78 : (Int × (List Int))) => (ev_ok rfl))) (fun (r80 : (Int × (List Int))) => pa_nil)))) (fun (z81 : (((List Int) × (List Int)) × (Int × (List Int)))) => (ev_ok rfl))) (fun _ => rfl) (fun _ => rfl)) fun (r82 : (((List Int) × Int) × (List Int))) =>
    (tg_E (G := (fun (r87 : (Int × (List Int))) => ([.rol (script.map eI), .own false (.lst (r87.2.map eI)), .val false (eI r9.1), .val false (eI r16.1), .val false ((eT eI) r17.1), .val false ((eL (eL eI)) parts), .own false (.lst (due.map eI)), .val false (eI r55.1), .val false ((eT eI) r82.1.1), .val false (eI r82.1.2), .val false (eI r87.1), .un, .un, .un, .un, .un, .un, .un, .un, .un, .un, .un, .un, .un] : Sl))) (es_asg (wf := (fun (r87 : (Int × (List Int))) => (.val (eI r87.1) : Wv))) (G := (fun (r87 : (Int × (List Int))) => ([.rol (script.map eI), .own false (.lst (r87.2.map eI)), .val false (eI r9.1), .val false (eI r16.1), .val false ((eT eI) r17.1), .val false ((eL (eL eI)) parts), .own false (.lst (due.map eI)), .val false (eI r55.1), .val false ((eT eI) r82.1.1), .val false (eI r82.1.2), .un, .un, .un, .un, .un, .un, .un, .un, .un, .un, .un, .un, .un, .un] : Sl))) (ev_binEP (wa := (fun (r85 : (Int × (List Int))) => (.val (eI r85.1) : Wv))) (Ga := (fun (r85 : (Int × (List Int))) => ([.rol (script.map eI), .own false (.lst (r85.2.map eI)), .val false (eI r9.1), .val false (eI r16.1), .val false ((eT eI) r17.1), .val false ((eL (eL eI)) parts), .own false (.lst (due.map eI)), .val false (eI r55.1), .val false ((eT eI) r82.1.1), .val false (eI r82.1.2), .un, .un, .un, .un, .un, .un, .un, .un, .un, .un, .un, .un, .un, .un] : Sl))) (wb := (fun (r85 : (Int × (List Int))) => (.val (eI r55.1) : Wv))) (Gb := (fun (r85 : (Int × (List Int))) => ([.rol (script.map eI), .own false (.lst (r85.2.map eI)), .val false (eI r9.1), .val false (eI r16.1), .val false ((eT eI) r17.1), .val false ((eL (eL eI)) parts), .own false (.lst (due.map eI)), .val false (eI r55.1), .val false ((eT eI) r82.1.1), .val false (eI r82.1.2), .un, .un, .un, .un, .un, .un, .un, .un, .un, .un, .un, .un, .un, .un] : Sl))) (ev_E (w := fun (r83 : (Int × (List Int))) => [.val (eI r83.1)]) (G1 := (fun (r83 : (Int × (List Int))) => ([.rol (script.map eI), .own false (.lst (r83.2.map eI)), .val false (eI r9.1), .val false (eI r16.1), .val false ((eT eI) r17.1), .val false ((eL (eL eI)) parts), .own false (.lst (due.map eI)), .val false (eI r55.1), .val false ((eT eI) r82.1.1), .val false (eI r82.1.2), .un, .un, .un, .un, .un, .un, .un, .un, .un, .un, .un, .un, .un, .un] : Sl))) (ea_EP (wa := (fun (r83 : (Int × (List Int))) => (.val (eI r83.1) : Wv))) (Ga := (fun (r83 : (Int × (List Int))) => ([.rol (script.map eI), .own false (.lst (r83.2.map eI)), .val false (eI r9.1), .val false (eI r16.1), .val false ((eT eI) r17.1), .val false ((eL (eL eI)) parts), .own false (.lst (due.map eI)), .val false (eI r55.1), .val false ((eT eI) r82.1.1), .val false (eI r82.1.2), .un, .un, .un, .un, .un, .un, .un, .un, .un, .un, .un, .un, .un, .un] : Sl))) (wb := fun (r83 : (Int × (List Int))) => []) (Gb := (fun (r83 : (Int × (List Int))) => ([.rol (script.map eI), .own false (.lst (r83.2.map eI)), .val false (eI r9.1), .val false (eI r16.1), .val false ((eT eI) r17.1), .val false ((eL (eL eI)) parts), .own false (.lst (due.map eI)), .val false (eI r55.1), .val false ((eT eI) r82.1.1), .val false (eI r82.1.2), .un, .un, .un, .un, .un, .un, .un, .un, .un, .un, .un, .un, .un, .un] : Sl))) (ev_P (pa_cons rfl pa_nil) (tc1 (H := fun (r83 : (Int × (List Int))) => ([.rol (script.map eI), .own false (.lst (r83.2.map eI)), .val false (eI r9.1), .val false (eI r16.1), .val false ((eT eI) r17.1), .val false ((eL (eL eI)) parts), .own false (.lst (due.map eI)), .val false (eI r55.1), .val false ((eT eI) r82.1.1), .val false (eI r82.1.2), .un, .un, .un, .un, .un, .un, .un, .un, .un, .un, .un, .un, .un, .un] : Sl)) (c' := fun (r83 : (Int × (List Int))) => .lst (r83.2.map eI)) rfl rfl rfl (s_law_next r82.2) rfl (fun _ _ h => h) (fun _ => rfl))) (fun (r83 : (Int × (List Int))) => pa_nil)) (fun (r83 : (Int × (List Int))) => (ev_ok rfl))) (fun (r85 : (Int × (List Int))) => rfl) (fun (r85 : (Int × (List Int))) => (ev_map (f := fun (r86 : Int) => (r86, r85.2)) g_mod))) (fun _ => rfl)) fun (r87 : (Int × (List Int))) =>
    (tg_E (G := (fun (turned_v : (List Int)) => ([.rol (script.map eI), .own false (.lst (r87.2.map eI)), .val false (eI r9.1), .val false (eI r16.1), .val false ((eT eI) r17.1), .val false ((eL (eL eI)) parts), .own false (.lst (due.map eI)), .val false (eI r55.1), .val false ((eT eI) r82.1.1), .val false (eI r82.1.2), .val false (eI r87.1), .val false ((eT eI) turned_v), .un, .un, .un, .un, .un, .un, .un, .un, .un, .un, .un, .un] : Sl))) (es_asg (wf := (fun (r88 : (List Int)) => (.val ((eT eI) r88) : Wv))) (G := (fun (r88 : (List Int)) => ([.rol (script.map eI), .own false (.lst (r87.2.map eI)), .val false (eI r9.1), .val false (eI r16.1), .val false ((eT eI) r17.1), .val false ((eL (eL eI)) parts), .own false (.lst (due.map eI)), .val false (eI r55.1), .val false ((eT eI) r82.1.1), .val false (eI r82.1.2), .val false (eI r87.1), .un, .un, .un, .un, .un, .un, .un, .un, .un, .un, .un, .un, .un] : Sl))) (ev_binPP (pv_slT (e := eI) rfl rfl (pt_at rfl) pt_no) (pv_slT (e := eI) rfl rfl pt_no (pt_at rfl)) (g_catT (e := eI) rfl rfl)) (fun _ => rfl)) fun (turned_v : (List Int)) =>
    (tg_E (G := (fun (told : (List Int)) => ([.rol (script.map eI), .own false (.lst (r87.2.map eI)), .val false (eI r9.1), .val false (eI r16.1), .val false ((eT eI) r17.1), .val false ((eL (eL eI)) parts), .own false (.lst (due.map eI)), .val false (eI r55.1), .val false ((eT eI) r82.1.1), .val false (eI r82.1.2), .val false (eI r87.1), .val false ((eT eI) turned_v), .own false (.lst (told.map eI)), .un, .un, .un, .un, .un, .un, .un, .un, .un, .un, .un] : Sl))) (es_asg (wf := (fun (r92 : (List Int)) => (.new (.lst (r92.map eI)) : Wv))) (G := (fun (r92 : (List Int)) => ([.rol (script.map eI), .own false (.lst (r87.2.map eI)), .val false (eI r9.1), .val false (eI r16.1), .val false ((eT eI) r17.1), .val false ((eL (eL eI)) parts), .own false (.lst (due.map eI)), .val false (eI r55.1), .val false ((eT eI) r82.1.1), .val false (eI r82.1.2), .val false (eI r87.1), .val false ((eT eI) turned_v), .un, .un, .un, .un, .un, .un, .un, .un, .un, .un, .un, .un] : Sl))) (ev_E (w := fun (z91 : (Int × Int)) => [.val (eI z91.1), .val (eI z91.2)]) (G1 := (fun (z91 : (Int × Int)) => ([.rol (script.map eI), .own false (.lst (r87.2.map eI)), .val false (eI r9.1), .val false (eI r16.1), .val false ((eT eI) r17.1), .val false ((eL (eL eI)) parts), .own false (.lst (due.map eI)), .val false (eI r55.1), .val false ((eT eI) r82.1.1), .val false (eI r82.1.2), .val false (eI r87.1), .val false ((eT eI) turned_v), .un, .un, .un, .un, .un, .un, .un, .un, .un, .un, .un, .un] : Sl))) (ea_EE (wa := (fun (r89 : Int) => (.val (eI r89) : Wv))) (Ga := (fun (r89 : Int) => ([.rol (script.map eI), .own false (.lst (r87.2.map eI)), .val false (eI r9.1), .val false (eI r16.1), .val false ((eT eI) r17.1), .val false ((eL (eL eI)) parts), .own false (.lst (due.map eI)), .val false (eI r55.1), .val false ((eT eI) r82.1.1), .val false (eI r82.1.2), .val false (eI r87.1), .val false ((eT eI) turned_v), .un, .un, .un, .un, .un, .un, .un, .un, .un, .un, .un, .un] : Sl))) (wb := fun (r89 : Int) (r90 : Int) => [.val (eI r90)]) (Gb := fun (r89 : Int) => (fun (r90 : Int) => ([.rol (script.map eI), .own false (.lst (r87.2.map eI)), .val false (eI r9.1), .val false (eI r16.1), .val false ((eT eI) r17.1), .val false ((eL (eL eI)) parts), .own false (.lst (due.map eI)), .val false (eI r55.1), .val false ((eT eI) r82.1.1), .val false (eI r82.1.2), .val false (eI r87.1), .val false ((eT eI) turned_v), .un, .un, .un, .un, .un, .un, .un, .un, .un, .un, .un, .un] : Sl))) (ev_P (pa_cons rfl (pa_cons rfl pa_nil)) (tc0 rfl rfl rfl (s_ring_least_high r82.1.1 r82.1.2) trivial)) (fun (r89 : Int) => (ea_EP (wa := (fun (r90 : Int) => (.val (eI r90) : Wv))) (Ga := (fun (r90 : Int) => ([.rol (script.map eI), .own false (.lst (r87.2.map eI)), .val false (eI r9.1), .val false (eI r16.1), .val false ((eT eI) r17.1), .val false ((eL (eL eI)) parts), .own false (.lst (due.map eI)), .val false (eI r55.1), .val false ((eT eI) r82.1.1), .val false (eI r82.1.2), .val false (eI r87.1), .val false ((eT eI) turned_v), .un, .un, .un, .un, .un, .un, .un, .un, .un, .un, .un, .un] : Sl))) (wb := fun (r90 : Int) => []) (Gb := (fun (r90 : Int) => ([.rol (script.map eI), .own false (.lst (r87.2.map eI)), .val false (eI r9.1), .val false (eI r16.1), .val false ((eT eI) r17.1), .val false ((eL (eL eI)) parts), .own false (.lst (due.map eI)), .val false (eI r55.1), .val false ((eT eI) r82.1.1), .val false (eI r82.1.2), .val false (eI r87.1), .val false ((eT eI) turned_v), .un, .un, .un, .un, .un, .un, .un, .un, .un, .un, .un, .un] : Sl))) (ev_P (pa_cons rfl (pa_cons rfl pa_nil)) (tc0 rfl rfl rfl (s_ring_greatest_low r82.1.1 r82.1.2) trivial)) (fun (r90 : Int) => pa_nil)))) (fun (z91 : (Int × Int)) => (ev_ok rfl))) (fun _ => rfl)) fun (told : (List Int)) =>
    (tg_E (G := (fun (rows : (List (List Int))) => ([.rol (script.map eI), .own false (.lst (r87.2.map eI)), .val false (eI r9.1), .val false (eI r16.1), .val false ((eT eI) r17.1), .val false ((eL (eL eI)) parts), .own false (.lst (due.map eI)), .val false (eI r55.1), .val false ((eT eI) r82.1.1), .val false (eI r82.1.2), .val false (eI r87.1), .val false ((eT eI) turned_v), .own false (.lst (told.map eI)), .own false (.lst (rows.map (eT eI))), .un, .un, .un, .un, .un, .un, .un, .un, .un, .un] : Sl))) (es_asg (wf := (fun (r96 : (List (List Int))) => (.new (.lst (r96.map (eT eI))) : Wv))) (G := (fun (r96 : (List (List Int))) => ([.rol (script.map eI), .own false (.lst (r87.2.map eI)), .val false (eI r9.1), .val false (eI r16.1), .val false ((eT eI) r17.1), .val false ((eL (eL eI)) parts), .own false (.lst (due.map eI)), .val false (eI r55.1), .val false ((eT eI) r82.1.1), .val false (eI r82.1.2), .val false (eI r87.1), .val false ((eT eI) turned_v), .own false (.lst (told.map eI)), .un, .un, .un, .un, .un, .un, .un, .un, .un, .un, .un] : Sl))) (ev_lcE (ds := fun (r93 : (List Int)) => r93.map eI) (G1 := (fun (r93 : (List Int)) => ([.rol (script.map eI), .own false (.lst (r87.2.map eI)), .val false (eI r9.1), .val false (eI r16.1), .val false ((eT eI) r17.1), .val false ((eL (eL eI)) parts), .own false (.lst (due.map eI)), .val false (eI r55.1), .val false ((eT eI) r82.1.1), .val false (eI r82.1.2), .val false (eI r87.1), .val false ((eT eI) turned_v), .own false (.lst (told.map eI)), .un, .un, .un, .un, .un, .un, .un, .un, .un, .un, .un] : Sl))) (ev_P (pa_cons rfl pa_nil) g_rng1) (fun (r93 : (List Int)) => (ev_lcR (e := eI) (e' := (eT eI)) (xs := r93) (Fw := [.rol (script.map eI), .own false (.lst (r87.2.map eI)), .val false (eI r9.1), .val false (eI r16.1), .val false ((eT eI) r17.1), .val false ((eL (eL eI)) parts), .own false (.lst (due.map eI)), .val false (eI r55.1), .val false ((eT eI) r82.1.1), .val false (eI r82.1.2), .val false (eI r87.1), .val false ((eT eI) turned_v), .own false (.lst (told.map eI)), .un, .un, .un, .un, .un, .un, .un, .un, .un, .un, .un]) (F2 := [.rol (script.map eI), .own false (.lst (r87.2.map eI)), .val false (eI r9.1), .val false (eI r16.1), .val false ((eT eI) r17.1), .val false ((eL (eL eI)) parts), .own false (.lst (due.map eI)), .val false (eI r55.1), .val false ((eT eI) r82.1.1), .val false (eI r82.1.2), .val false (eI r87.1), .val false ((eT eI) turned_v), .own false (.lst (told.map eI)), .un, .un, .un, .un, .un, .un, .un, .un, .un, .un, .un]) (T := (fun (place : Int) => ([.rol (script.map eI), .own false (.lst (r87.2.map eI)), .val false (eI r9.1), .val false (eI r16.1), .val false ((eT eI) r17.1), .val false ((eL (eL eI)) parts), .own false (.lst (due.map eI)), .val false (eI r55.1), .val false ((eT eI) r82.1.1), .val false (eI r82.1.2), .val false (eI r87.1), .val false ((eT eI) turned_v), .own false (.lst (told.map eI)), .un, .un, .un, .un, .un, .val false (eI place), .un, .un, .un, .un, .un] : Sl))) (f := (fun (place : Int) => (catR (cutL r82.1.1 (some place) none) (cutL r82.1.1 none (some place)) : Ro (List Int)))) rfl rfl (fun _ => rfl) (fun (place : Int) => (ev_E2 (w := (fun (r94 : (List Int)) => (.val ((eT eI) r94) : Wv))) (G1 := (fun (r94 : (List Int)) => ([.rol (script.map eI), .own false (.lst (r87.2.map eI)), .val false (eI r9.1), .val false (eI r16.1), .val false ((eT eI) r17.1), .val false ((eL (eL eI)) parts), .own false (.lst (due.map eI)), .val false (eI r55.1), .val false ((eT eI) r82.1.1), .val false (eI r82.1.2), .val false (eI r87.1), .val false ((eT eI) turned_v), .own false (.lst (told.map eI)), .un, .un, .un, .un, .un, .val false (eI place), .un, .un, .un, .un, .un] : Sl))) (w2 := fun (r94 : (List Int)) => ((eT eI) r94 : D)) (G := (fun (r94 : (List Int)) => ([.rol (script.map eI), .own false (.lst (r87.2.map eI)), .val false (eI r9.1), .val false (eI r16.1), .val false ((eT eI) r17.1), .val false ((eL (eL eI)) parts), .own false (.lst (due.map eI)), .val false (eI r55.1), .val false ((eT eI) r82.1.1), .val false (eI r82.1.2), .val false (eI r87.1), .val false ((eT eI) turned_v), .own false (.lst (told.map eI)), .un, .un, .un, .un, .un, .val false (eI place), .un, .un, .un, .un, .un] : Sl))) (ev_binPP (pv_slT (e := eI) rfl rfl (pt_at rfl) pt_no) (pv_slT (e := eI) rfl rfl pt_no (pt_at rfl)) (g_catT (e := eI) rfl rfl)) (fun _ => rfl))) (fun _ => rfl) rfl))) (fun _ => rfl)) fun (rows : (List (List Int))) =>
    (tg_ifTE (v := fun (r108 : Bool) => r108) (G := (fun (r108 : Bool) => ([.rol (script.map eI), .own false (.lst (r87.2.map eI)), .val false (eI r9.1), .val false (eI r16.1), .val false ((eT eI) r17.1), .val false ((eL (eL eI)) parts), .own false (.lst (due.map eI)), .val false (eI r55.1), .val false ((eT eI) r82.1.1), .val false (eI r82.1.2), .val false (eI r87.1), .val false ((eT eI) turned_v), .own false (.lst (told.map eI)), .val false ((eL (eT eI)) rows), .un, .un, .un, .un, .un, .un, .un, .un, .un, .un] : Sl))) (et_tstB (w := fun (r108 : Bool) => r108) (G := (fun (r108 : Bool) => ([.rol (script.map eI), .own false (.lst (r87.2.map eI)), .val false (eI r9.1), .val false (eI r16.1), .val false ((eT eI) r17.1), .val false ((eL (eL eI)) parts), .own false (.lst (due.map eI)), .val false (eI r55.1), .val false ((eT eI) r82.1.1), .val false (eI r82.1.2), .val false (eI r87.1), .val false ((eT eI) turned_v), .own false (.lst (told.map eI)), .val false ((eL (eT eI)) rows), .un, .un, .un, .un, .un, .un, .un, .un, .un, .un] : Sl))) (ev_binPE (wb := (fun (r106 : (List Int)) => (.new (.lst (r106.map eI)) : Wv))) (Gb := (fun (r106 : (List Int)) => ([.rol (script.map eI), .own false (.lst (r87.2.map eI)), .val false (eI r9.1), .val false (eI r16.1), .val false ((eT eI) r17.1), .val false ((eL (eL eI)) parts), .own false (.lst (due.map eI)), .val false (eI r55.1), .val false ((eT eI) r82.1.1), .val false (eI r82.1.2), .val false (eI r87.1), .val false ((eT eI) turned_v), .own false (.lst (told.map eI)), .val false ((eL (eT eI)) rows), .un, .un, .un, .un, .un, .un, .un, .un, .un, .un] : Sl))) rfl (ev_E (w := fun (z105 : (Int × Int)) => [.val (eI z105.1), .val (eI z105.2)]) (G1 := (fun (z105 : (Int × Int)) => ([.rol (script.map eI), .own false (.lst (r87.2.map eI)), .val false (eI r9.1), .val false (eI r16.1), .val false ((eT eI) r17.1), .val false ((eL (eL eI)) parts), .own false (.lst (due.map eI)), .val false (eI r55.1), .val false ((eT eI) r82.1.1), .val false (eI r82.1.2), .val false (eI r87.1), .val false ((eT eI) turned_v), .own false (.lst (told.map eI)), .val false ((eL (eT eI)) rows), .un, .un, .un, .un, .un, .un, .un, .un, .un, .un] : Sl))) (ea_EE (wa := (fun (r100 : Int) => (.val (eI r100) : Wv))) (Ga := (fun (r100 : Int) => ([.rol (script.map eI), .own false (.lst (r87.2.map eI)), .val false (eI r9.1), .val false (eI r16.1), .val false ((eT eI) r17.1), .val false ((eL (eL eI)) parts), .own false (.lst (due.map eI)), .val false (eI r55.1), .val false ((eT eI) r82.1.1), .val false (eI r82.1.2), .val false (eI r87.1), .val false ((eT eI) turned_v), .own false (.lst (told.map eI)), .val false ((eL (eT eI)) rows), .un, .un, .un, .un, .un, .un, .un, .un, .un, .un] : Sl))) (wb := fun (r100 : Int) (r104 : Int) => [.val (eI r104)]) (Gb := fun (r100 : Int) => (fun (r104 : Int) => ([.rol (script.map eI), .own false (.lst (r87.2.map eI)), .val false (eI r9.1), .val false (eI r16.1), .val false ((eT eI) r17.1), .val false ((eL (eL eI)) parts), .own false (.lst (due.map eI)), .val false (eI r55.1), .val false ((eT eI) r82.1.1), .val false (eI r82.1.2), .val false (eI r87.1), .val false ((eT eI) turned_v), .own false (.lst (told.map eI)), .val false ((eL (eT eI)) rows), .un, .un, .un, .un, .un, .un, .un, .un, .un, .un] : Sl))) (ev_E (w := fun (r98 : (List Int)) => [.new (.lst (r98.map eI))]) (G1 := (fun (r98 : (List Int)) => ([.rol (script.map eI), .own false (.lst (r87.2.map eI)), .val false (eI r9.1), .val false (eI r16.1), .val false ((eT eI) r17.1), .val false ((eL (eL eI)) parts), .own false (.lst (due.map eI)), .val false (eI r55.1), .val false ((eT eI) r82.1.1), .val false (eI r82.1.2), .val false (eI r87.1), .val false ((eT eI) turned_v), .own false (.lst (told.map eI)), .val false ((eL (eT eI)) rows), .un, .un, .un, .un, .un, .un, .un, .un, .un, .un] : Sl))) (ea_EP (wa := (fun (r98 : (List Int)) => (.new (.lst (r98.map eI)) : Wv))) (Ga := (fun (r98 : (List Int)) => ([.rol (script.map eI), .own false (.lst (r87.2.map eI)), .val false (eI r9.1), .val false (eI r16.1), .val false ((eT eI) r17.1), .val false ((eL (eL eI)) parts), .own false (.lst (due.map eI)), .val false (eI r55.1), .val false ((eT eI) r82.1.1), .val false (eI r82.1.2), .val false (eI r87.1), .val false ((eT eI) turned_v), .own false (.lst (told.map eI)), .val false ((eL (eT eI)) rows), .un, .un, .un, .un, .un, .un, .un, .un, .un, .un] : Sl))) (wb := fun (r98 : (List Int)) => []) (Gb := (fun (r98 : (List Int)) => ([.rol (script.map eI), .own false (.lst (r87.2.map eI)), .val false (eI r9.1), .val false (eI r16.1), .val false ((eT eI) r17.1), .val false ((eL (eL eI)) parts), .own false (.lst (due.map eI)), .val false (eI r55.1), .val false ((eT eI) r82.1.1), .val false (eI r82.1.2), .val false (eI r87.1), .val false ((eT eI) turned_v), .own false (.lst (told.map eI)), .val false ((eL (eT eI)) rows), .un, .un, .un, .un, .un, .un, .un, .un, .un, .un] : Sl))) (ev_lcP (bnd_P (u := rows.map (eT eI)) rfl rfl) (ev_lcR (e := (eT eI)) (e' := eI) (xs := rows) (Fw := [.rol (script.map eI), .own false (.lst (r87.2.map eI)), .val false (eI r9.1), .val false (eI r16.1), .val false ((eT eI) r17.1), .val false ((eL (eL eI)) parts), .own false (.lst (due.map eI)), .val false (eI r55.1), .val false ((eT eI) r82.1.1), .val false (eI r82.1.2), .val false (eI r87.1), .val false ((eT eI) turned_v), .own false (.lst (told.map eI)), .val false ((eL (eT eI)) rows), .un, .un, .un, .un, .un, .un, .un, .un, .un, .un]) (F2 := [.rol (script.map eI), .own false (.lst (r87.2.map eI)), .val false (eI r9.1), .val false (eI r16.1), .val false ((eT eI) r17.1), .val false ((eL (eL eI)) parts), .own false (.lst (due.map eI)), .val false (eI r55.1), .val false ((eT eI) r82.1.1), .val false (eI r82.1.2), .val false (eI r87.1), .val false ((eT eI) turned_v), .own false (.lst (told.map eI)), .val false ((eL (eT eI)) rows), .un, .un, .un, .un, .un, .un, .un, .un, .un, .un]) (T := (fun (row : (List Int)) => ([.rol (script.map eI), .own false (.lst (r87.2.map eI)), .val false (eI r9.1), .val false (eI r16.1), .val false ((eT eI) r17.1), .val false ((eL (eL eI)) parts), .own false (.lst (due.map eI)), .val false (eI r55.1), .val false ((eT eI) r82.1.1), .val false (eI r82.1.2), .val false (eI r87.1), .val false ((eT eI) turned_v), .own false (.lst (told.map eI)), .val false ((eL (eT eI)) rows), .un, .un, .un, .un, .un, .un, .un, .val false ((eT eI) row), .un, .un] : Sl))) (f := (fun (row : (List Int)) => (p_least_high row r82.1.2 : Ro Int))) rfl rfl (fun _ => rfl) (fun (row : (List Int)) => (ev_E2 (w := (fun (r97 : Int) => (.val (eI r97) : Wv))) (G1 := (fun (r97 : Int) => ([.rol (script.map eI), .own false (.lst (r87.2.map eI)), .val false (eI r9.1), .val false (eI r16.1), .val false ((eT eI) r17.1), .val false ((eL (eL eI)) parts), .own false (.lst (due.map eI)), .val false (eI r55.1), .val false ((eT eI) r82.1.1), .val false (eI r82.1.2), .val false (eI r87.1), .val false ((eT eI) turned_v), .own false (.lst (told.map eI)), .val false ((eL (eT eI)) rows), .un, .un, .un, .un, .un, .un, .un, .val false ((eT eI) row), .un, .un] : Sl))) (w2 := fun (r97 : Int) => (eI r97 : D)) (G := (fun (r97 : Int) => ([.rol (script.map eI), .own false (.lst (r87.2.map eI)), .val false (eI r9.1), .val false (eI r16.1), .val false ((eT eI) r17.1), .val false ((eL (eL eI)) parts), .own false (.lst (due.map eI)), .val false (eI r55.1), .val false ((eT eI) r82.1.1), .val false (eI r82.1.2), .val false (eI r87.1), .val false ((eT eI) turned_v), .own false (.lst (told.map eI)), .val false ((eL (eT eI)) rows), .un, .un, .un, .un, .un, .un, .un, .val false ((eT eI) row), .un, .un] : Sl))) (ev_P (pa_cons rfl (pa_cons rfl pa_nil)) (tc0 rfl rfl rfl (s_least_high row r82.1.2) trivial)) (fun _ => rfl))) (fun _ => rfl) rfl)) (fun (r98 : (List Int)) => pa_nil)) (fun (r98 : (List Int)) => (g_min rfl))) (fun (r100 : Int) => (ea_EP (wa := (fun (r104 : Int) => (.val (eI r104) : Wv))) (Ga := (fun (r104 : Int) => ([.rol (script.map eI), .own false (.lst (r87.2.map eI)), .val false (eI r9.1), .val false (eI r16.1), .val false ((eT eI) r17.1), .val false ((eL (eL eI)) parts), .own false (.lst (due.map eI)), .val false (eI r55.1), .val false ((eT eI) r82.1.1), .val false (eI r82.1.2), .val false (eI r87.1), .val false ((eT eI) turned_v), .own false (.lst (told.map eI)), .val false ((eL (eT eI)) rows), .un, .un, .un, .un, .un, .un, .un, .un, .un, .un] : Sl))) (wb := fun (r104 : Int) => []) (Gb := (fun (r104 : Int) => ([.rol (script.map eI), .own false (.lst (r87.2.map eI)), .val false (eI r9.1), .val false (eI r16.1), .val false ((eT eI) r17.1), .val false ((eL (eL eI)) parts), .own false (.lst (due.map eI)), .val false (eI r55.1), .val false ((eT eI) r82.1.1), .val false (eI r82.1.2), .val false (eI r87.1), .val false ((eT eI) turned_v), .own false (.lst (told.map eI)), .val false ((eL (eT eI)) rows), .un, .un, .un, .un, .un, .un, .un, .un, .un, .un] : Sl))) (ev_E (w := fun (r102 : (List Int)) => [.new (.lst (r102.map eI))]) (G1 := (fun (r102 : (List Int)) => ([.rol (script.map eI), .own false (.lst (r87.2.map eI)), .val false (eI r9.1), .val false (eI r16.1), .val false ((eT eI) r17.1), .val false ((eL (eL eI)) parts), .own false (.lst (due.map eI)), .val false (eI r55.1), .val false ((eT eI) r82.1.1), .val false (eI r82.1.2), .val false (eI r87.1), .val false ((eT eI) turned_v), .own false (.lst (told.map eI)), .val false ((eL (eT eI)) rows), .un, .un, .un, .un, .un, .un, .un, .un, .un, .un] : Sl))) (ea_EP (wa := (fun (r102 : (List Int)) => (.new (.lst (r102.map eI)) : Wv))) (Ga := (fun (r102 : (List Int)) => ([.rol (script.map eI), .own false (.lst (r87.2.map eI)), .val false (eI r9.1), .val false (eI r16.1), .val false ((eT eI) r17.1), .val false ((eL (eL eI)) parts), .own false (.lst (due.map eI)), .val false (eI r55.1), .val false ((eT eI) r82.1.1), .val false (eI r82.1.2), .val false (eI r87.1), .val false ((eT eI) turned_v), .own false (.lst (told.map eI)), .val false ((eL (eT eI)) rows), .un, .un, .un, .un, .un, .un, .un, .un, .un, .un] : Sl))) (wb := fun (r102 : (List Int)) => []) (Gb := (fun (r102 : (List Int)) => ([.rol (script.map eI), .own false (.lst (r87.2.map eI)), .val false (eI r9.1), .val false (eI r16.1), .val false ((eT eI) r17.1), .val false ((eL (eL eI)) parts), .own false (.lst (due.map eI)), .val false (eI r55.1), .val false ((eT eI) r82.1.1), .val false (eI r82.1.2), .val false (eI r87.1), .val false ((eT eI) turned_v), .own false (.lst (told.map eI)), .val false ((eL (eT eI)) rows), .un, .un, .un, .un, .un, .un, .un, .un, .un, .un] : Sl))) (ev_lcP (bnd_P (u := rows.map (eT eI)) rfl rfl) (ev_lcR (e := (eT eI)) (e' := eI) (xs := rows) (Fw := [.rol (script.map eI), .own false (.lst (r87.2.map eI)), .val false (eI r9.1), .val false (eI r16.1), .val false ((eT eI) r17.1), .val false ((eL (eL eI)) parts), .own false (.lst (due.map eI)), .val false (eI r55.1), .val false ((eT eI) r82.1.1), .val false (eI r82.1.2), .val false (eI r87.1), .val false ((eT eI) turned_v), .own false (.lst (told.map eI)), .val false ((eL (eT eI)) rows), .un, .un, .un, .un, .un, .un, .un, .un, .un, .un]) (F2 := [.rol (script.map eI), .own false (.lst (r87.2.map eI)), .val false (eI r9.1), .val false (eI r16.1), .val false ((eT eI) r17.1), .val false ((eL (eL eI)) parts), .own false (.lst (due.map eI)), .val false (eI r55.1), .val false ((eT eI) r82.1.1), .val false (eI r82.1.2), .val false (eI r87.1), .val false ((eT eI) turned_v), .own false (.lst (told.map eI)), .val false ((eL (eT eI)) rows), .un, .un, .un, .un, .un, .un, .un, .un, .un, .un]) (T := (fun (row : (List Int)) => ([.rol (script.map eI), .own false (.lst (r87.2.map eI)), .val false (eI r9.1), .val false (eI r16.1), .val false ((eT eI) r17.1), .val false ((eL (eL eI)) parts), .own false (.lst (due.map eI)), .val false (eI r55.1), .val false ((eT eI) r82.1.1), .val false (eI r82.1.2), .val false (eI r87.1), .val false ((eT eI) turned_v), .own false (.lst (told.map eI)), .val false ((eL (eT eI)) rows), .un, .un, .un, .un, .un, .un, .un, .val false ((eT eI) row), .un, .un] : Sl))) (f := (fun (row : (List Int)) => (p_greatest_low row r82.1.2 : Ro Int))) rfl rfl (fun _ => rfl) (fun (row : (List Int)) => (ev_E2 (w := (fun (r101 : Int) => (.val (eI r101) : Wv))) (G1 := (fun (r101 : Int) => ([.rol (script.map eI), .own false (.lst (r87.2.map eI)), .val false (eI r9.1), .val false (eI r16.1), .val false ((eT eI) r17.1), .val false ((eL (eL eI)) parts), .own false (.lst (due.map eI)), .val false (eI r55.1), .val false ((eT eI) r82.1.1), .val false (eI r82.1.2), .val false (eI r87.1), .val false ((eT eI) turned_v), .own false (.lst (told.map eI)), .val false ((eL (eT eI)) rows), .un, .un, .un, .un, .un, .un, .un, .val false ((eT eI) row), .un, .un] : Sl))) (w2 := fun (r101 : Int) => (eI r101 : D)) (G := (fun (r101 : Int) => ([.rol (script.map eI), .own false (.lst (r87.2.map eI)), .val false (eI r9.1), .val false (eI r16.1), .val false ((eT eI) r17.1), .val false ((eL (eL eI)) parts), .own false (.lst (due.map eI)), .val false (eI r55.1), .val false ((eT eI) r82.1.1), .val false (eI r82.1.2), .val false (eI r87.1), .val false ((eT eI) turned_v), .own false (.lst (told.map eI)), .val false ((eL (eT eI)) rows), .un, .un, .un, .un, .un, .un, .un, .val false ((eT eI) row), .un, .un] : Sl))) (ev_P (pa_cons rfl (pa_cons rfl pa_nil)) (tc0 rfl rfl rfl (s_greatest_low row r82.1.2) trivial)) (fun _ => rfl))) (fun _ => rfl) rfl)) (fun (r102 : (List Int)) => pa_nil)) (fun (r102 : (List Int)) => (g_max rfl))) (fun (r104 : Int) => pa_nil)))) (fun (z105 : (Int × Int)) => (ev_ok rfl))) (fun (r106 : (List Int)) => (ev_ok (o_ne (a := told) (b := r106) (ek_L ek_I) rfl rfl))))) (fun (r108 : Bool) => (tg_rtP rfl ⟨_, rfl, trivial⟩))
    (fun (r108 : Bool) => (tg_nxR (tg_S (G := (fun (s116 : Unit) => ([.rol (script.map eI), .own false (.lst (r87.2.map eI)), .val false (eI r9.1), .val false (eI r16.1), .val false ((eT eI) r17.1), .val false ((eL (eL eI)) parts), .own false (.lst (due.map eI)), .val false (eI r55.1), .val false ((eT eI) r82.1.1), .val false (eI r82.1.2), .val false (eI r87.1), .val false ((eT eI) turned_v), .own false (.lst (told.map eI)), .val false ((eL (eT eI)) rows), .un, .un, .un, .un, .un, .un, .un, .un, .un, .un] : Sl))) (tg_bndP (bnd_P (u := ([turned_v, (r82.1.1).reverse] : (List (List Int))).map (eT eI)) (bnd_P (u := (.new (.lst (([turned_v, (r82.1.1).reverse] : (List (List Int))).map (eT eI))) : Wv)) (pa_cons rfl (pa_cons (pv_rvT (e := eI) rfl rfl) pa_nil)) rfl) rfl) (tg_loopT (e := (eT eI)) (G := fun (s109 : Unit) => ([.rol (script.map eI), .own false (.lst (r87.2.map eI)), .val false (eI r9.1), .val false (eI r16.1), .val false ((eT eI) r17.1), .val false ((eL (eL eI)) parts), .own false (.lst (due.map eI)), .val false (eI r55.1), .val false ((eT eI) r82.1.1), .val false (eI r82.1.2), .val false (eI r87.1), .val false ((eT eI) turned_v), .own false (.lst (told.map eI)), .val false ((eL (eT eI)) rows), .un, .un, .un, .un, .un, .un, .un, .un, .un, .un] : Sl)) (T := fun (other : (List Int)) (s109 : Unit) => ([.rol (script.map eI), .own false (.lst (r87.2.map eI)), .val false (eI r9.1), .val false (eI r16.1), .val false ((eT eI) r17.1), .val false ((eL (eL eI)) parts), .own false (.lst (due.map eI)), .val false (eI r55.1), .val false ((eT eI) r82.1.1), .val false (eI r82.1.2), .val false (eI r87.1), .val false ((eT eI) turned_v), .own false (.lst (told.map eI)), .val false ((eL (eT eI)) rows), .val false ((eT eI) other), .un, .un, .un, .un, .un, .un, .un, .un, .un] : Sl)) (f := (fun (other : (List Int)) (s109 : Unit) => (((((p_ring_least_high other r82.1.2).bind fun (r110 : Int) => (p_ring_greatest_low other r82.1.2).bind fun (r111 : Int) => .ok (r110, r111)).bind fun (z112 : (Int × Int)) => .ok ([z112.1, z112.2] : (List Int))).bind fun (r113 : (List Int)) => .ok (!decide (r113 = told))).bind fun (r115 : Bool) => if r115 = true then .ok (.inr false)
    else .ok (.inl ()) : Ro (Unit ⊕ Bool)))) (fun _ _ => rfl) (fun (other : (List Int)) (s109 : Unit) => (tg_ifTE (v := fun (r115 : Bool) => r115) (G := (fun (r115 : Bool) => ([.rol (script.map eI), .own false (.lst (r87.2.map eI)), .val false (eI r9.1), .val false (eI r16.1), .val false ((eT eI) r17.1), .val false ((eL (eL eI)) parts), .own false (.lst (due.map eI)), .val false (eI r55.1), .val false ((eT eI) r82.1.1), .val false (eI r82.1.2), .val false (eI r87.1), .val false ((eT eI) turned_v), .own false (.lst (told.map eI)), .val false ((eL (eT eI)) rows), .val false ((eT eI) other), .un, .un, .un, .un, .un, .un, .un, .un, .un] : Sl))) (et_tstB (w := fun (r115 : Bool) => r115) (G := (fun (r115 : Bool) => ([.rol (script.map eI), .own false (.lst (r87.2.map eI)), .val false (eI r9.1), .val false (eI r16.1), .val false ((eT eI) r17.1), .val false ((eL (eL eI)) parts), .own false (.lst (due.map eI)), .val false (eI r55.1), .val false ((eT eI) r82.1.1), .val false (eI r82.1.2), .val false (eI r87.1), .val false ((eT eI) turned_v), .own false (.lst (told.map eI)), .val false ((eL (eT eI)) rows), .val false ((eT eI) other), .un, .un, .un, .un, .un, .un, .un, .un, .un] : Sl))) (ev_binEP (wa := (fun (r113 : (List Int)) => (.new (.lst (r113.map eI)) : Wv))) (Ga := (fun (r113 : (List Int)) => ([.rol (script.map eI), .own false (.lst (r87.2.map eI)), .val false (eI r9.1), .val false (eI r16.1), .val false ((eT eI) r17.1), .val false ((eL (eL eI)) parts), .own false (.lst (due.map eI)), .val false (eI r55.1), .val false ((eT eI) r82.1.1), .val false (eI r82.1.2), .val false (eI r87.1), .val false ((eT eI) turned_v), .own false (.lst (told.map eI)), .val false ((eL (eT eI)) rows), .val false ((eT eI) other), .un, .un, .un, .un, .un, .un, .un, .un, .un] : Sl))) (wb := (fun (r113 : (List Int)) => (.bor 12 : Wv))) (Gb := (fun (r113 : (List Int)) => ([.rol (script.map eI), .own false (.lst (r87.2.map eI)), .val false (eI r9.1), .val false (eI r16.1), .val false ((eT eI) r17.1), .val false ((eL (eL eI)) parts), .own false (.lst (due.map eI)), .val false (eI r55.1), .val false ((eT eI) r82.1.1), .val false (eI r82.1.2), .val false (eI r87.1), .val false ((eT eI) turned_v), .own false (.lst (told.map eI)), .val false ((eL (eT eI)) rows), .val false ((eT eI) other), .un, .un, .un, .un, .un, .un, .un, .un, .un] : Sl))) (ev_E (w := fun (z112 : (Int × Int)) => [.val (eI z112.1), .val (eI z112.2)]) (G1 := (fun (z112 : (Int × Int)) => ([.rol (script.map eI), .own false (.lst (r87.2.map eI)), .val false (eI r9.1), .val false (eI r16.1), .val false ((eT eI) r17.1), .val false ((eL (eL eI)) parts), .own false (.lst (due.map eI)), .val false (eI r55.1), .val false ((eT eI) r82.1.1), .val false (eI r82.1.2), .val false (eI r87.1), .val false ((eT eI) turned_v), .own false (.lst (told.map eI)), .val false ((eL (eT eI)) rows), .val false ((eT eI) other), .un, .un, .un, .un, .un, .un, .un, .un, .un] : Sl))) (ea_EE (wa := (fun (r110 : Int) => (.val (eI r110) : Wv))) (Ga := (fun (r110 : Int) => ([.rol (script.map eI), .own false (.lst (r87.2.map eI)), .val false (eI r9.1), .val false (eI r16.1), .val false ((eT eI) r17.1), .val false ((eL (eL eI)) parts), .own false (.lst (due.map eI)), .val false (eI r55.1), .val false ((eT eI) r82.1.1), .val false (eI r82.1.2), .val false (eI r87.1), .val false ((eT eI) turned_v), .own false (.lst (told.map eI)), .val false ((eL (eT eI)) rows), .val false ((eT eI) other), .un, .un, .un, .un, .un, .un, .un, .un, .un] : Sl))) (wb := fun (r110 : Int) (r111 : Int) => [.val (eI r111)]) (Gb := fun (r110 : Int) => (fun (r111 : Int) => ([.rol (script.map eI), .own false (.lst (r87.2.map eI)), .val false (eI r9.1), .val false (eI r16.1), .val false ((eT eI) r17.1), .val false ((eL (eL eI)) parts), .own false (.lst (due.map eI)), .val false (eI r55.1), .val false ((eT eI) r82.1.1), .val false (eI r82.1.2), .val false (eI r87.1), .val false ((eT eI) turned_v), .own false (.lst (told.map eI)), .val false ((eL (eT eI)) rows), .val false ((eT eI) other), .un, .un, .un, .un, .un, .un, .un, .un, .un] : Sl))) (ev_P (pa_cons rfl (pa_cons rfl pa_nil)) (tc0 rfl rfl rfl (s_ring_least_high other r82.1.2) trivial)) (fun (r110 : Int) => (ea_EP (wa := (fun (r111 : Int) => (.val (eI r111) : Wv))) (Ga := (fun (r111 : Int) => ([.rol (script.map eI), .own false (.lst (r87.2.map eI)), .val false (eI r9.1), .val false (eI r16.1), .val false ((eT eI) r17.1), .val false ((eL (eL eI)) parts), .own false (.lst (due.map eI)), .val false (eI r55.1), .val false ((eT eI) r82.1.1), .val false (eI r82.1.2), .val false (eI r87.1), .val false ((eT eI) turned_v), .own false (.lst (told.map eI)), .val false ((eL (eT eI)) rows), .val false ((eT eI) other), .un, .un, .un, .un, .un, .un, .un, .un, .un] : Sl))) (wb := fun (r111 : Int) => []) (Gb := (fun (r111 : Int) => ([.rol (script.map eI), .own false (.lst (r87.2.map eI)), .val false (eI r9.1), .val false (eI r16.1), .val false ((eT eI) r17.1), .val false ((eL (eL eI)) parts), .own false (.lst (due.map eI)), .val false (eI r55.1), .val false ((eT eI) r82.1.1), .val false (eI r82.1.2), .val false (eI r87.1), .val false ((eT eI) turned_v), .own false (.lst (told.map eI)), .val false ((eL (eT eI)) rows), .val false ((eT eI) other), .un, .un, .un, .un, .un, .un, .un, .un, .un] : Sl))) (ev_P (pa_cons rfl (pa_cons rfl pa_nil)) (tc0 rfl rfl rfl (s_ring_greatest_low other r82.1.2) trivial)) (fun (r111 : Int) => pa_nil)))) (fun (z112 : (Int × Int)) => (ev_ok rfl))) (fun (r113 : (List Int)) => rfl) (fun (r113 : (List Int)) => (ev_ok (o_ne (a := r113) (b := told) (ek_L ek_I) rfl rfl))))) (fun (r115 : Bool) => (tg_rtP rfl ⟨⟨_, rfl, trivial⟩, _, _, rfl⟩))
    (fun (r115 : Bool) => (tg_nxR (tg_P rfl (tg_nx (.inl rfl))))))) ([turned_v, (r82.1.1).reverse] : (List (List Int))) ())) fun (s116 : Unit) =>
    (tg_ifTE (v := fun (r142 : Bool) => r142) (G := (fun (r142 : Bool) => ([.rol (script.map eI), .own false (.lst (r87.2.map eI)), .val false (eI r9.1), .val false (eI r16.1), .val false ((eT eI) r17.1), .val false ((eL (eL eI)) parts), .own false (.lst (due.map eI)), .val false (eI r55.1), .val false ((eT eI) r82.1.1), .val false (eI r82.1.2), .val false (eI r87.1), .val false ((eT eI) turned_v), .own false (.lst (told.map eI)), .val false ((eL (eT eI)) rows), .un, .un, .un, .un, .un, .un, .un, .un, .un, .un] : Sl))) (et_orE (et_tstB (w := fun (r121 : Bool) => r121) (G := (fun (r121 : Bool) => ([.rol (script.map eI), .own false (.lst (r87.2.map eI)), .val false (eI r9.1), .val false (eI r16.1), .val false ((eT eI) r17.1), .val false ((eL (eL eI)) parts), .own false (.lst (due.map eI)), .val false (eI r55.1), .val false ((eT eI) r82.1.1), .val false (eI r82.1.2), .val false (eI r87.1), .val false ((eT eI) turned_v), .own false (.lst (told.map eI)), .val false ((eL (eT eI)) rows), .un, .un, .un, .un, .un, .un, .un, .un, .un, .un] : Sl))) (ev_binEE (wa := (fun (r118 : Int) => (.val (eI r118) : Wv))) (Ga := (fun (r118 : Int) => ([.rol (script.map eI), .own false (.lst (r87.2.map eI)), .val false (eI r9.1), .val false (eI r16.1), .val false ((eT eI) r17.1), .val false ((eL (eL eI)) parts), .own false (.lst (due.map eI)), .val false (eI r55.1), .val false ((eT eI) r82.1.1), .val false (eI r82.1.2), .val false (eI r87.1), .val false ((eT eI) turned_v), .own false (.lst (told.map eI)), .val false ((eL (eT eI)) rows), .un, .un, .un, .un, .un, .un, .un, .un, .un, .un] : Sl))) (wb := fun (r118 : Int) => (fun (r119 : Int) => (.val (eI r119) : Wv))) (Gb := fun (r118 : Int) => (fun (r119 : Int) => ([.rol (script.map eI), .own false (.lst (r87.2.map eI)), .val false (eI r9.1), .val false (eI r16.1), .val false ((eT eI) r17.1), .val false ((eL (eL eI)) parts), .own false (.lst (due.map eI)), .val false (eI r55.1), .val false ((eT eI) r82.1.1), .val false (eI r82.1.2), .val false (eI r87.1), .val false ((eT eI) turned_v), .own false (.lst (told.map eI)), .val false ((eL (eT eI)) rows), .un, .un, .un, .un, .un, .un, .un, .un, .un, .un] : Sl))) (ev_P (pa_cons rfl (pa_cons (pv_bin rfl rfl rfl) pa_nil)) (tc0 rfl rfl rfl (s_ring_least_high r82.1.1 (r82.1.2 + (1 : Int))) trivial)) (fun (r118 : Int) => (ev_binPP rfl rfl (g_ix (e := eI) rfl))) (fun (r118 : Int) (r119 : Int) => (ev_ok rfl)))) (et_orE (et_tstB (w := fun (r126 : Bool) => r126) (G := (fun (r126 : Bool) => ([.rol (script.map eI), .own false (.lst (r87.2.map eI)), .val false (eI r9.1), .val false (eI r16.1), .val false ((eT eI) r17.1), .val false ((eL (eL eI)) parts), .own false (.lst (due.map eI)), .val false (eI r55.1), .val false ((eT eI) r82.1.1), .val false (eI r82.1.2), .val false (eI r87.1), .val false ((eT eI) turned_v), .own false (.lst (told.map eI)), .val false ((eL (eT eI)) rows), .un, .un, .un, .un, .un, .un, .un, .un, .un, .un] : Sl))) (ev_binEE (wa := (fun (r123 : Int) => (.val (eI r123) : Wv))) (Ga := (fun (r123 : Int) => ([.rol (script.map eI), .own false (.lst (r87.2.map eI)), .val false (eI r9.1), .val false (eI r16.1), .val false ((eT eI) r17.1), .val false ((eL (eL eI)) parts), .own false (.lst (due.map eI)), .val false (eI r55.1), .val false ((eT eI) r82.1.1), .val false (eI r82.1.2), .val false (eI r87.1), .val false ((eT eI) turned_v), .own false (.lst (told.map eI)), .val false ((eL (eT eI)) rows), .un, .un, .un, .un, .un, .un, .un, .un, .un, .un] : Sl))) (wb := fun (r123 : Int) => (fun (r124 : Int) => (.val (eI r124) : Wv))) (Gb := fun (r123 : Int) => (fun (r124 : Int) => ([.rol (script.map eI), .own false (.lst (r87.2.map eI)), .val false (eI r9.1), .val false (eI r16.1), .val false ((eT eI) r17.1), .val false ((eL (eL eI)) parts), .own false (.lst (due.map eI)), .val false (eI r55.1), .val false ((eT eI) r82.1.1), .val false (eI r82.1.2), .val false (eI r87.1), .val false ((eT eI) turned_v), .own false (.lst (told.map eI)), .val false ((eL (eT eI)) rows), .un, .un, .un, .un, .un, .un, .un, .un, .un, .un] : Sl))) (ev_P (pa_cons rfl (pa_cons (pv_bin rfl rfl rfl) pa_nil)) (tc0 rfl rfl rfl (s_ring_greatest_low r82.1.1 (r82.1.2 + (1 : Int))) trivial)) (fun (r123 : Int) => (ev_binPP rfl rfl (g_ix (e := eI) rfl))) (fun (r123 : Int) (r124 : Int) => (ev_ok rfl)))) (et_orE (et_tstB (w := fun (r132 : Bool) => r132) (G := (fun (r132 : Bool) => ([.rol (script.map eI), .own false (.lst (r87.2.map eI)), .val false (eI r9.1), .val false (eI r16.1), .val false ((eT eI) r17.1), .val false ((eL (eL eI)) parts), .own false (.lst (due.map eI)), .val false (eI r55.1), .val false ((eT eI) r82.1.1), .val false (eI r82.1.2), .val false (eI r87.1), .val false ((eT eI) turned_v), .own false (.lst (told.map eI)), .val false ((eL (eT eI)) rows), .un, .un, .un, .un, .un, .un, .un, .un, .un, .un] : Sl))) (ev_binEP (wa := (fun (r129 : Int) => (.val (eI r129) : Wv))) (Ga := (fun (r129 : Int) => ([.rol (script.map eI), .own false (.lst (r87.2.map eI)), .val false (eI r9.1), .val false (eI r16.1), .val false ((eT eI) r17.1), .val false ((eL (eL eI)) parts), .own false (.lst (due.map eI)), .val false (eI r55.1), .val false ((eT eI) r82.1.1), .val false (eI r82.1.2), .val false (eI r87.1), .val false ((eT eI) turned_v), .own false (.lst (told.map eI)), .val false ((eL (eT eI)) rows), .un, .un, .un, .un, .un, .un, .un, .un, .un, .un] : Sl))) (wb := (fun (r129 : Int) => (.val (eI r82.1.1.sum) : Wv))) (Gb := (fun (r129 : Int) => ([.rol (script.map eI), .own false (.lst (r87.2.map eI)), .val false (eI r9.1), .val false (eI r16.1), .val false ((eT eI) r17.1), .val false ((eL (eL eI)) parts), .own false (.lst (due.map eI)), .val false (eI r55.1), .val false ((eT eI) r82.1.1), .val false (eI r82.1.2), .val false (eI r87.1), .val false ((eT eI) turned_v), .own false (.lst (told.map eI)), .val false ((eL (eT eI)) rows), .un, .un, .un, .un, .un, .un, .un, .un, .un, .un] : Sl))) (ev_binPE (wb := (fun (r127 : Int) => (.val (eI r127) : Wv))) (Gb := (fun (r127 : Int) => ([.rol (script.map eI), .own false (.lst (r87.2.map eI)), .val false (eI r9.1), .val false (eI r16.1), .val false ((eT eI) r17.1), .val false ((eL (eL eI)) parts), .own false (.lst (due.map eI)), .val false (eI r55.1), .val false ((eT eI) r82.1.1), .val false (eI r82.1.2), .val false (eI r87.1), .val false ((eT eI) turned_v), .own false (.lst (told.map eI)), .val false ((eL (eT eI)) rows), .un, .un, .un, .un, .un, .un, .un, .un, .un, .un] : Sl))) rfl (ev_binPP rfl rfl (g_ix (e := eI) rfl)) (fun (r127 : Int) => g_mul)) (fun (r129 : Int) => (bnd_P (u := (.val (eI r82.1.1.sum) : Wv)) (pa_cons rfl pa_nil) (o_sum rfl))) (fun (r129 : Int) => (ev_ok rfl)))) (et_tstB (w := fun (r138 : Bool) => r138) (G := (fun (r138 : Bool) => ([.rol (script.map eI), .own false (.lst (r87.2.map eI)), .val false (eI r9.1), .val false (eI r16.1), .val false ((eT eI) r17.1), .val false ((eL (eL eI)) parts), .own false (.lst (due.map eI)), .val false (eI r55.1), .val false ((eT eI) r82.1.1), .val false (eI r82.1.2), .val false (eI r87.1), .val false ((eT eI) turned_v), .own false (.lst (told.map eI)), .val false ((eL (eT eI)) rows), .un, .un, .un, .un, .un, .un, .un, .un, .un, .un] : Sl))) (ev_binEP (wa := (fun (r135 : Int) => (.val (eI r135) : Wv))) (Ga := (fun (r135 : Int) => ([.rol (script.map eI), .own false (.lst (r87.2.map eI)), .val false (eI r9.1), .val false (eI r16.1), .val false ((eT eI) r17.1), .val false ((eL (eL eI)) parts), .own false (.lst (due.map eI)), .val false (eI r55.1), .val false ((eT eI) r82.1.1), .val false (eI r82.1.2), .val false (eI r87.1), .val false ((eT eI) turned_v), .own false (.lst (told.map eI)), .val false ((eL (eT eI)) rows), .un, .un, .un, .un, .un, .un, .un, .un, .un, .un] : Sl))) (wb := (fun (r135 : Int) => (.val (eI r82.1.1.sum) : Wv))) (Gb := (fun (r135 : Int) => ([.rol (script.map eI), .own false (.lst (r87.2.map eI)), .val false (eI r9.1), .val false (eI r16.1), .val false ((eT eI) r17.1), .val false ((eL (eL eI)) parts), .own false (.lst (due.map eI)), .val false (eI r55.1), .val false ((eT eI) r82.1.1), .val false (eI r82.1.2), .val false (eI r87.1), .val false ((eT eI) turned_v), .own false (.lst (told.map eI)), .val false ((eL (eT eI)) rows), .un, .un, .un, .un, .un, .un, .un, .un, .un, .un] : Sl))) (ev_binPE (wb := (fun (r133 : Int) => (.val (eI r133) : Wv))) (Gb := (fun (r133 : Int) => ([.rol (script.map eI), .own false (.lst (r87.2.map eI)), .val false (eI r9.1), .val false (eI r16.1), .val false ((eT eI) r17.1), .val false ((eL (eL eI)) parts), .own false (.lst (due.map eI)), .val false (eI r55.1), .val false ((eT eI) r82.1.1), .val false (eI r82.1.2), .val false (eI r87.1), .val false ((eT eI) turned_v), .own false (.lst (told.map eI)), .val false ((eL (eT eI)) rows), .un, .un, .un, .un, .un, .un, .un, .un, .un, .un] : Sl))) rfl (ev_binPP rfl rfl (g_ix (e := eI) rfl)) (fun (r133 : Int) => g_mul)) (fun (r135 : Int) => (bnd_P (u := (.val (eI r82.1.1.sum) : Wv)) (pa_cons rfl pa_nil) (o_sum rfl))) (fun (r135 : Int) => (ev_ok rfl))))))) (fun (r142 : Bool) => (tg_rtP rfl ⟨_, rfl, trivial⟩))
    (fun (r142 : Bool) => (tg_nxR (tg_E (G := (fun (known : (List Int)) => ([.rol (script.map eI), .own false (.lst (r87.2.map eI)), .val false (eI r9.1), .val false (eI r16.1), .val false ((eT eI) r17.1), .val false ((eL (eL eI)) parts), .own false (.lst (due.map eI)), .val false (eI r55.1), .val false ((eT eI) r82.1.1), .val false (eI r82.1.2), .val false (eI r87.1), .val false ((eT eI) turned_v), .own false (.lst (told.map eI)), .val false ((eL (eT eI)) rows), .un, .own false (.lst (known.map eI)), .un, .un, .un, .un, .un, .un, .un, .un] : Sl))) (es_asg (wf := (fun (r152 : (List Int)) => (.new (.lst (r152.map eI)) : Wv))) (G := (fun (r152 : (List Int)) => ([.rol (script.map eI), .own false (.lst (r87.2.map eI)), .val false (eI r9.1), .val false (eI r16.1), .val false ((eT eI) r17.1), .val false ((eL (eL eI)) parts), .own false (.lst (due.map eI)), .val false (eI r55.1), .val false ((eT eI) r82.1.1), .val false (eI r82.1.2), .val false (eI r87.1), .val false ((eT eI) turned_v), .own false (.lst (told.map eI)), .val false ((eL (eT eI)) rows), .un, .un, .un, .un, .un, .un, .un, .un, .un, .un] : Sl))) (ev_E (w := fun (z151 : (Int × (Int × (Int × (Int × Int))))) => [.val (eI z151.1), .val (eI z151.2.1), .val (eI z151.2.2.1), .val (eI z151.2.2.2.1), .val (eI z151.2.2.2.2)]) (G1 := (fun (z151 : (Int × (Int × (Int × (Int × Int))))) => ([.rol (script.map eI), .own false (.lst (r87.2.map eI)), .val false (eI r9.1), .val false (eI r16.1), .val false ((eT eI) r17.1), .val false ((eL (eL eI)) parts), .own false (.lst (due.map eI)), .val false (eI r55.1), .val false ((eT eI) r82.1.1), .val false (eI r82.1.2), .val false (eI r87.1), .val false ((eT eI) turned_v), .own false (.lst (told.map eI)), .val false ((eL (eT eI)) rows), .un, .un, .un, .un, .un, .un, .un, .un, .un, .un] : Sl))) (ea_EE (wa := (fun (r143 : Int) => (.val (eI r143) : Wv))) (Ga := (fun (r143 : Int) => ([.rol (script.map eI), .own false (.lst (r87.2.map eI)), .val false (eI r9.1), .val false (eI r16.1), .val false ((eT eI) r17.1), .val false ((eL (eL eI)) parts), .own false (.lst (due.map eI)), .val false (eI r55.1), .val false ((eT eI) r82.1.1), .val false (eI r82.1.2), .val false (eI r87.1), .val false ((eT eI) turned_v), .own false (.lst (told.map eI)), .val false ((eL (eT eI)) rows), .un, .un, .un, .un, .un, .un, .un, .un, .un, .un] : Sl))) (wb := fun (r143 : Int) (z150 : (Int × (Int × (Int × Int)))) => [.val (eI z150.1), .val (eI z150.2.1), .val (eI z150.2.2.1), .val (eI z150.2.2.2)]) (Gb := fun (r143 : Int) => (fun (z150 : (Int × (Int × (Int × Int)))) => ([.rol (script.map eI), .own false (.lst (r87.2.map eI)), .val false (eI r9.1), .val false (eI r16.1), .val false ((eT eI) r17.1), .val false ((eL (eL eI)) parts), .own false (.lst (due.map eI)), .val false (eI r55.1), .val false ((eT eI) r82.1.1), .val false (eI r82.1.2), .val false (eI r87.1), .val false ((eT eI) turned_v), .own false (.lst (told.map eI)), .val false ((eL (eT eI)) rows), .un, .un, .un, .un, .un, .un, .un, .un, .un, .un] : Sl))) (ev_P (pa_cons (bnd_P (u := (.val ((eT eI) ([(1 : Int), (2 : Int), (3 : Int), (4 : Int)] : (List Int))) : Wv)) (pa_cons rfl (pa_cons rfl (pa_cons rfl (pa_cons rfl pa_nil)))) rfl) (pa_cons rfl pa_nil)) (tc0 rfl rfl rfl (s_ring_least_high ([(1 : Int), (2 : Int), (3 : Int), (4 : Int)] : (List Int)) (2 : Int)) trivial)) (fun (r143 : Int) => (ea_EE (wa := (fun (r144 : Int) => (.val (eI r144) : Wv))) (Ga := (fun (r144 : Int) => ([.rol (script.map eI), .own false (.lst (r87.2.map eI)), .val false (eI r9.1), .val false (eI r16.1), .val false ((eT eI) r17.1), .val false ((eL (eL eI)) parts), .own false (.lst (due.map eI)), .val false (eI r55.1), .val false ((eT eI) r82.1.1), .val false (eI r82.1.2), .val false (eI r87.1), .val false ((eT eI) turned_v), .own false (.lst (told.map eI)), .val false ((eL (eT eI)) rows), .un, .un, .un, .un, .un, .un, .un, .un, .un, .un] : Sl))) (wb := fun (r144 : Int) (z149 : (Int × (Int × Int))) => [.val (eI z149.1), .val (eI z149.2.1), .val (eI z149.2.2)]) (Gb := fun (r144 : Int) => (fun (z149 : (Int × (Int × Int))) => ([.rol (script.map eI), .own false (.lst (r87.2.map eI)), .val false (eI r9.1), .val false (eI r16.1), .val false ((eT eI) r17.1), .val false ((eL (eL eI)) parts), .own false (.lst (due.map eI)), .val false (eI r55.1), .val false ((eT eI) r82.1.1), .val false (eI r82.1.2), .val false (eI r87.1), .val false ((eT eI) turned_v), .own false (.lst (told.map eI)), .val false ((eL (eT eI)) rows), .un, .un, .un, .un, .un, .un, .un, .un, .un, .un] : Sl))) (ev_P (pa_cons (bnd_P (u := (.val ((eT eI) ([(1 : Int), (2 : Int), (3 : Int), (4 : Int)] : (List Int))) : Wv)) (pa_cons rfl (pa_cons rfl (pa_cons rfl (pa_cons rfl pa_nil)))) rfl) (pa_cons rfl pa_nil)) (tc0 rfl rfl rfl (s_ring_greatest_low ([(1 : Int), (2 : Int), (3 : Int), (4 : Int)] : (List Int)) (2 : Int)) trivial)) (fun (r144 : Int) => (ea_EE (wa := (fun (r145 : Int) => (.val (eI r145) : Wv))) (Ga := (fun (r145 : Int) => ([.rol (script.map eI), .own false (.lst (r87.2.map eI)), .val false (eI r9.1), .val false (eI r16.1), .val false ((eT eI) r17.1), .val false ((eL (eL eI)) parts), .own false (.lst (due.map eI)), .val false (eI r55.1), .val false ((eT eI) r82.1.1), .val false (eI r82.1.2), .val false (eI r87.1), .val false ((eT eI) turned_v), .own false (.lst (told.map eI)), .val false ((eL (eT eI)) rows), .un, .un, .un, .un, .un, .un, .un, .un, .un, .un] : Sl))) (wb := fun (r145 : Int) (z148 : (Int × Int)) => [.val (eI z148.1), .val (eI z148.2)]) (Gb := fun (r145 : Int) => (fun (z148 : (Int × Int)) => ([.rol (script.map eI), .own false (.lst (r87.2.map eI)), .val false (eI r9.1), .val false (eI r16.1), .val false ((eT eI) r17.1), .val false ((eL (eL eI)) parts), .own false (.lst (due.map eI)), .val false (eI r55.1), .val false ((eT eI) r82.1.1), .val false (eI r82.1.2), .val false (eI r87.1), .val false ((eT eI) turned_v), .own false (.lst (told.map eI)), .val false ((eL (eT eI)) rows), .un, .un, .un, .un, .un, .un, .un, .un, .un, .un] : Sl))) (ev_P (pa_cons (bnd_P (u := (.val ((eT eI) ([(5 : Int), (0 : Int), (5 : Int)] : (List Int))) : Wv)) (pa_cons rfl (pa_cons rfl (pa_cons rfl pa_nil))) rfl) (pa_cons rfl pa_nil)) (tc0 rfl rfl rfl (s_ring_least_high ([(5 : Int), (0 : Int), (5 : Int)] : (List Int)) (2 : Int)) trivial)) (fun (r145 : Int) => (ea_EE (wa := (fun (r146 : Int) => (.val (eI r146) : Wv))) (Ga := (fun (r146 : Int) => ([.rol (script.map eI), .own false (.lst (r87.2.map eI)), .val false (eI r9.1), .val false (eI r16.1), .val false ((eT eI) r17.1), .val false ((eL (eL eI)) parts), .own false (.lst (due.map eI)), .val false (eI r55.1), .val false ((eT eI) r82.1.1), .val false (eI r82.1.2), .val false (eI r87.1), .val false ((eT eI) turned_v), .own false (.lst (told.map eI)), .val false ((eL (eT eI)) rows), .un, .un, .un, .un, .un, .un, .un, .un, .un, .un] : Sl))) (wb := fun (r146 : Int) (r147 : Int) => [.val (eI r147)]) (Gb := fun (r146 : Int) => (fun (r147 : Int) => ([.rol (script.map eI), .own false (.lst (r87.2.map eI)), .val false (eI r9.1), .val false (eI r16.1), .val false ((eT eI) r17.1), .val false ((eL (eL eI)) parts), .own false (.lst (due.map eI)), .val false (eI r55.1), .val false ((eT eI) r82.1.1), .val false (eI r82.1.2), .val false (eI r87.1), .val false ((eT eI) turned_v), .own false (.lst (told.map eI)), .val false ((eL (eT eI)) rows), .un, .un, .un, .un, .un, .un, .un, .un, .un, .un] : Sl))) (ev_P (pa_cons (bnd_P (u := (.val ((eT eI) ([(1 : Int), (1 : Int), (1 : Int)] : (List Int))) : Wv)) (pa_cons rfl (pa_cons rfl (pa_cons rfl pa_nil))) rfl) (pa_cons rfl pa_nil)) (tc0 rfl rfl rfl (s_ring_greatest_low ([(1 : Int), (1 : Int), (1 : Int)] : (List Int)) (1 : Int)) trivial)) (fun (r146 : Int) => (ea_EP (wa := (fun (r147 : Int) => (.val (eI r147) : Wv))) (Ga := (fun (r147 : Int) => ([.rol (script.map eI), .own false (.lst (r87.2.map eI)), .val false (eI r9.1), .val false (eI r16.1), .val false ((eT eI) r17.1), .val false ((eL (eL eI)) parts), .own false (.lst (due.map eI)), .val false (eI r55.1), .val false ((eT eI) r82.1.1), .val false (eI r82.1.2), .val false (eI r87.1), .val false ((eT eI) turned_v), .own false (.lst (told.map eI)), .val false ((eL (eT eI)) rows), .un, .un, .un, .un, .un, .un, .un, .un, .un, .un] : Sl))) (wb := fun (r147 : Int) => []) (Gb := (fun (r147 : Int) => ([.rol (script.map eI), .own false (.lst (r87.2.map eI)), .val false (eI r9.1), .val false (eI r16.1), .val false ((eT eI) r17.1), .val false ((eL (eL eI)) parts), .own false (.lst (due.map eI)), .val false (eI r55.1), .val false ((eT eI) r82.1.1), .val false (eI r82.1.2), .val false (eI r87.1), .val false ((eT eI) turned_v), .own false (.lst (told.map eI)), .val false ((eL (eT eI)) rows), .un, .un, .un, .un, .un, .un, .un, .un, .un, .un] : Sl))) (ev_P (pa_cons (bnd_P (u := (.val ((eT eI) ([(0 : Int), (0 : Int), (0 : Int)] : (List Int))) : Wv)) (pa_cons rfl (pa_cons rfl (pa_cons rfl pa_nil))) rfl) (pa_cons rfl pa_nil)) (tc0 rfl rfl rfl (s_ring_least_high ([(0 : Int), (0 : Int), (0 : Int)] : (List Int)) (3 : Int)) trivial)) (fun (r147 : Int) => pa_nil)))))))))) (fun (z151 : (Int × (Int × (Int × (Int × Int))))) => (ev_ok rfl))) (fun _ => rfl)) fun (known : (List Int)) =>
    (tg_ifTE (v := fun (r156 : Bool) => r156) (G := (fun (r156 : Bool) => ([.rol (script.map eI), .own false (.lst (r87.2.map eI)), .val false (eI r9.1), .val false (eI r16.1), .val false ((eT eI) r17.1), .val false ((eL (eL eI)) parts), .own false (.lst (due.map eI)), .val false (eI r55.1), .val false ((eT eI) r82.1.1), .val false (eI r82.1.2), .val false (eI r87.1), .val false ((eT eI) turned_v), .own false (.lst (told.map eI)), .val false ((eL (eT eI)) rows), .un, .own false (.lst (known.map eI)), .un, .un, .un, .un, .un, .un, .un, .un] : Sl))) (et_tstB (w := fun (r156 : Bool) => r156) (G := (fun (r156 : Bool) => ([.rol (script.map eI), .own false (.lst (r87.2.map eI)), .val false (eI r9.1), .val false (eI r16.1), .val false ((eT eI) r17.1), .val false ((eL (eL eI)) parts), .own false (.lst (due.map eI)), .val false (eI r55.1), .val false ((eT eI) r82.1.1), .val false (eI r82.1.2), .val false (eI r87.1), .val false ((eT eI) turned_v), .own false (.lst (told.map eI)), .val false ((eL (eT eI)) rows), .un, .own false (.lst (known.map eI)), .un, .un, .un, .un, .un, .un, .un, .un] : Sl))) (ev_binEE (wa := (fun (r153 : Str) => (.val (eS r153) : Wv))) (Ga := (fun (r153 : Str) => ([.rol (script.map eI), .own false (.lst (r87.2.map eI)), .val false (eI r9.1), .val false (eI r16.1), .val false ((eT eI) r17.1), .val false ((eL (eL eI)) parts), .own false (.lst (due.map eI)), .val false (eI r55.1), .val false ((eT eI) r82.1.1), .val false (eI r82.1.2), .val false (eI r87.1), .val false ((eT eI) turned_v), .own false (.lst (told.map eI)), .val false ((eL (eT eI)) rows), .un, .own false (.lst (known.map eI)), .un, .un, .un, .un, .un, .un, .un, .un] : Sl))) (wb := fun (r153 : Str) => (fun (r154 : Str) => (.val (eS r154) : Wv))) (Gb := fun (r153 : Str) => (fun (r154 : Str) => ([.rol (script.map eI), .own false (.lst (r87.2.map eI)), .val false (eI r9.1), .val false (eI r16.1), .val false ((eT eI) r17.1), .val false ((eL (eL eI)) parts), .own false (.lst (due.map eI)), .val false (eI r55.1), .val false ((eT eI) r82.1.1), .val false (eI r82.1.2), .val false (eI r87.1), .val false ((eT eI) turned_v), .own false (.lst (told.map eI)), .val false ((eL (eT eI)) rows), .un, .own false (.lst (known.map eI)), .un, .un, .un, .un, .un, .un, .un, .un] : Sl))) (ev_P (pa_cons rfl pa_nil) (g_repr (d := ((eL eI) known)) rfl)) (fun (r153 : Str) => (ev_P (pa_cons (bnd_P (u := (.new (.lst (([(5 : Int), (5 : Int), (5 : Int), (3 : Int), (0 : Int)] : (List Int)).map eI)) : Wv)) (pa_cons rfl (pa_cons rfl (pa_cons rfl (pa_cons rfl (pa_cons rfl pa_nil))))) rfl) pa_nil) (g_repr (d := ((eL eI) ([(5 : Int), (5 : Int), (5 : Int), (3 : Int), (0 : Int)] : (List Int)))) rfl))) (fun (r153 : Str) (r154 : Str) => (ev_ok (o_ne (a := r153) (b := r154) ek_S rfl rfl))))) (fun (r156 : Bool) => (tg_rtP rfl ⟨_, rfl, trivial⟩))
    (fun (r156 : Bool) => (tg_nxR (tg_E (G := (fun (maps : (List D)) => ([.rol (script.map eI), .own false (.lst (r87.2.map eI)), .val false (eI r9.1), .val false (eI r16.1), .val false ((eT eI) r17.1), .val false ((eL (eL eI)) parts), .own false (.lst (due.map eI)), .val false (eI r55.1), .val false ((eT eI) r82.1.1), .val false (eI r82.1.2), .val false (eI r87.1), .val false ((eT eI) turned_v), .own false (.lst (told.map eI)), .val false ((eL (eT eI)) rows), .un, .own false (.lst (known.map eI)), .own false (.lst (maps.map eD)), .un, .un, .un, .un, .un, .un, .un] : Sl))) (es_asg (wf := (fun (r164 : (List D)) => (.new (.lst (r164.map eD)) : Wv))) (G := (fun (r164 : (List D)) => ([.rol (script.map eI), .own false (.lst (r87.2.map eI)), .val false (eI r9.1), .val false (eI r16.1), .val false ((eT eI) r17.1), .val false ((eL (eL eI)) parts), .own false (.lst (due.map eI)), .val false (eI r55.1), .val false ((eT eI) r82.1.1), .val false (eI r82.1.2), .val false (eI r87.1), .val false ((eT eI) turned_v), .own false (.lst (told.map eI)), .val false ((eL (eT eI)) rows), .un, .own false (.lst (known.map eI)), .un, .un, .un, .un, .un, .un, .un, .un] : Sl))) (ev_E (w := fun (r162 : (List (List D))) => [.val ((eL (eL eD)) r162)]) (G1 := (fun (r162 : (List (List D))) => ([.rol (script.map eI), .own false (.lst (r87.2.map eI)), .val false (eI r9.1), .val false (eI r16.1), .val false ((eT eI) r17.1), .val false ((eL (eL eI)) parts), .own false (.lst (due.map eI)), .val false (eI r55.1), .val false ((eT eI) r82.1.1), .val false (eI r82.1.2), .val false (eI r87.1), .val false ((eT eI) turned_v), .own false (.lst (told.map eI)), .val false ((eL (eT eI)) rows), .un, .own false (.lst (known.map eI)), .un, .un, .un, .un, .un, .un, .un, .un] : Sl))) (ea_EP (wa := (fun (r162 : (List (List D))) => (.val ((eL (eL eD)) r162) : Wv))) (Ga := (fun (r162 : (List (List D))) => ([.rol (script.map eI), .own false (.lst (r87.2.map eI)), .val false (eI r9.1), .val false (eI r16.1), .val false ((eT eI) r17.1), .val false ((eL (eL eI)) parts), .own false (.lst (due.map eI)), .val false (eI r55.1), .val false ((eT eI) r82.1.1), .val false (eI r82.1.2), .val false (eI r87.1), .val false ((eT eI) turned_v), .own false (.lst (told.map eI)), .val false ((eL (eT eI)) rows), .un, .own false (.lst (known.map eI)), .un, .un, .un, .un, .un, .un, .un, .un] : Sl))) (wb := fun (r162 : (List (List D))) => []) (Gb := (fun (r162 : (List (List D))) => ([.rol (script.map eI), .own false (.lst (r87.2.map eI)), .val false (eI r9.1), .val false (eI r16.1), .val false ((eT eI) r17.1), .val false ((eL (eL eI)) parts), .own false (.lst (due.map eI)), .val false (eI r55.1), .val false ((eT eI) r82.1.1), .val false (eI r82.1.2), .val false (eI r87.1), .val false ((eT eI) turned_v), .own false (.lst (told.map eI)), .val false ((eL (eT eI)) rows), .un, .own false (.lst (known.map eI)), .un, .un, .un, .un, .un, .un, .un, .un] : Sl))) (ev_fz (w := (fun (r162 : (List (List D))) => (.new (.lst (r162.map (eL eD))) : Wv))) (G := (fun (r162 : (List (List D))) => ([.rol (script.map eI), .own false (.lst (r87.2.map eI)), .val false (eI r9.1), .val false (eI r16.1), .val false ((eT eI) r17.1), .val false ((eL (eL eI)) parts), .own false (.lst (due.map eI)), .val false (eI r55.1), .val false ((eT eI) r82.1.1), .val false (eI r82.1.2), .val false (eI r87.1), .val false ((eT eI) turned_v), .own false (.lst (told.map eI)), .val false ((eL (eT eI)) rows), .un, .own false (.lst (known.map eI)), .un, .un, .un, .un, .un, .un, .un, .un] : Sl))) (w2 := (fun (r162 : (List (List D))) => (.val ((eL (eL eD)) r162) : Wv))) (G' := (fun (r162 : (List (List D))) => ([.rol (script.map eI), .own false (.lst (r87.2.map eI)), .val false (eI r9.1), .val false (eI r16.1), .val false ((eT eI) r17.1), .val false ((eL (eL eI)) parts), .own false (.lst (due.map eI)), .val false (eI r55.1), .val false ((eT eI) r82.1.1), .val false (eI r82.1.2), .val false (eI r87.1), .val false ((eT eI) turned_v), .own false (.lst (told.map eI)), .val false ((eL (eT eI)) rows), .un, .own false (.lst (known.map eI)), .un, .un, .un, .un, .un, .un, .un, .un] : Sl))) (ev_lcP (bnd_P (pa_cons rfl pa_nil) (o_rng1 (j := 2) (by decide))) (ev_lcR (e := eI) (e' := (eL eD)) (xs := (rngL 0 2)) (Fw := [.rol (script.map eI), .own false (.lst (r87.2.map eI)), .val false (eI r9.1), .val false (eI r16.1), .val false ((eT eI) r17.1), .val false ((eL (eL eI)) parts), .own false (.lst (due.map eI)), .val false (eI r55.1), .val false ((eT eI) r82.1.1), .val false (eI r82.1.2), .val false (eI r87.1), .val false ((eT eI) turned_v), .own false (.lst (told.map eI)), .val false ((eL (eT eI)) rows), .un, .own false (.lst (known.map eI)), .un, .un, .un, .un, .un, .un, .un, .un]) (F2 := [.rol (script.map eI), .own false (.lst (r87.2.map eI)), .val false (eI r9.1), .val false (eI r16.1), .val false ((eT eI) r17.1), .val false ((eL (eL eI)) parts), .own false (.lst (due.map eI)), .val false (eI r55.1), .val false ((eT eI) r82.1.1), .val false (eI r82.1.2), .val false (eI r87.1), .val false ((eT eI) turned_v), .own false (.lst (told.map eI)), .val false ((eL (eT eI)) rows), .un, .own false (.lst (known.map eI)), .un, .un, .un, .un, .un, .un, .un, .un]) (T := (fun (way : Int) => ([.rol (script.map eI), .own false (.lst (r87.2.map eI)), .val false (eI r9.1), .val false (eI r16.1), .val false ((eT eI) r17.1), .val false ((eL (eL eI)) parts), .own false (.lst (due.map eI)), .val false (eI r55.1), .val false ((eT eI) r82.1.1), .val false (eI r82.1.2), .val false (eI r87.1), .val false ((eT eI) turned_v), .own false (.lst (told.map eI)), .val false ((eL (eT eI)) rows), .un, .own false (.lst (known.map eI)), .un, .un, .un, .un, .val false (eI way), .un, .un, .un] : Sl))) (f := (fun (way : Int) => (((trepR ([(1 : Int)] : (List Int)) (301 : Int)).bind fun (r157 : (List Int)) => .ok ([([] : (List Int)), ([(1 : Int), (1 : Int)] : (List Int)), r157, ([(1 : Int), (-1 : Int), (1 : Int)] : (List Int)), ([(1000001 : Int), (1 : Int), (1 : Int)] : (List Int))] : (List (List Int)))).bind fun (r158 : (List (List Int))) => (szR r158.length ()).bind fun _ => (mapR r158 (fun (bad : (List Int)) => (p_law_asked way bad (0 : Int) : Ro D))).noEx : Ro (List D)))) rfl rfl (fun _ => rfl) (fun (way : Int) => (ev_E2 (w := (fun (r161 : (List D)) => (.new (.lst (r161.map eD)) : Wv))) (G1 := (fun (r161 : (List D)) => ([.rol (script.map eI), .own false (.lst (r87.2.map eI)), .val false (eI r9.1), .val false (eI r16.1), .val false ((eT eI) r17.1), .val false ((eL (eL eI)) parts), .own false (.lst (due.map eI)), .val false (eI r55.1), .val false ((eT eI) r82.1.1), .val false (eI r82.1.2), .val false (eI r87.1), .val false ((eT eI) turned_v), .own false (.lst (told.map eI)), .val false ((eL (eT eI)) rows), .un, .own false (.lst (known.map eI)), .un, .un, .un, .un, .val false (eI way), .un, .un, .un] : Sl))) (w2 := fun (r161 : (List D)) => ((eL eD) r161 : D)) (G := (fun (r161 : (List D)) => ([.rol (script.map eI), .own false (.lst (r87.2.map eI)), .val false (eI r9.1), .val false (eI r16.1), .val false ((eT eI) r17.1), .val false ((eL (eL eI)) parts), .own false (.lst (due.map eI)), .val false (eI r55.1), .val false ((eT eI) r82.1.1), .val false (eI r82.1.2), .val false (eI r87.1), .val false ((eT eI) turned_v), .own false (.lst (told.map eI)), .val false ((eL (eT eI)) rows), .un, .own false (.lst (known.map eI)), .un, .un, .un, .un, .val false (eI way), .un, .un, .un] : Sl))) (ev_lcE (ds := fun (r158 : (List (List Int))) => r158.map (eT eI)) (G1 := (fun (r158 : (List (List Int))) => ([.rol (script.map eI), .own false (.lst (r87.2.map eI)), .val false (eI r9.1), .val false (eI r16.1), .val false ((eT eI) r17.1), .val false ((eL (eL eI)) parts), .own false (.lst (due.map eI)), .val false (eI r55.1), .val false ((eT eI) r82.1.1), .val false (eI r82.1.2), .val false (eI r87.1), .val false ((eT eI) turned_v), .own false (.lst (told.map eI)), .val false ((eL (eT eI)) rows), .un, .own false (.lst (known.map eI)), .un, .un, .un, .un, .val false (eI way), .un, .un, .un] : Sl))) (ev_E2 (w := (fun (r158 : (List (List Int))) => (.new (.lst (r158.map (eT eI))) : Wv))) (G1 := (fun (r158 : (List (List Int))) => ([.rol (script.map eI), .own false (.lst (r87.2.map eI)), .val false (eI r9.1), .val false (eI r16.1), .val false ((eT eI) r17.1), .val false ((eL (eL eI)) parts), .own false (.lst (due.map eI)), .val false (eI r55.1), .val false ((eT eI) r82.1.1), .val false (eI r82.1.2), .val false (eI r87.1), .val false ((eT eI) turned_v), .own false (.lst (told.map eI)), .val false ((eL (eT eI)) rows), .un, .own false (.lst (known.map eI)), .un, .un, .un, .un, .val false (eI way), .un, .un, .un] : Sl))) (w2 := fun (r158 : (List (List Int))) => r158.map (eT eI)) (G := (fun (r158 : (List (List Int))) => ([.rol (script.map eI), .own false (.lst (r87.2.map eI)), .val false (eI r9.1), .val false (eI r16.1), .val false ((eT eI) r17.1), .val false ((eL (eL eI)) parts), .own false (.lst (due.map eI)), .val false (eI r55.1), .val false ((eT eI) r82.1.1), .val false (eI r82.1.2), .val false (eI r87.1), .val false ((eT eI) turned_v), .own false (.lst (told.map eI)), .val false ((eL (eT eI)) rows), .un, .own false (.lst (known.map eI)), .un, .un, .un, .un, .val false (eI way), .un, .un, .un] : Sl))) (ev_E (w := fun (r157 : (List Int)) => [.val ((eT eI) ([] : (List Int))), .val ((e2 eI eI) ((1 : Int), (1 : Int))), .val ((eT eI) r157), .val ((e3 eI eI eI) ((1 : Int), (-1 : Int), (1 : Int))), .val ((e3 eI eI eI) ((1000001 : Int), (1 : Int), (1 : Int)))]) (G1 := (fun (r157 : (List Int)) => ([.rol (script.map eI), .own false (.lst (r87.2.map eI)), .val false (eI r9.1), .val false (eI r16.1), .val false ((eT eI) r17.1), .val false ((eL (eL eI)) parts), .own false (.lst (due.map eI)), .val false (eI r55.1), .val false ((eT eI) r82.1.1), .val false (eI r82.1.2), .val false (eI r87.1), .val false ((eT eI) turned_v), .own false (.lst (told.map eI)), .val false ((eL (eT eI)) rows), .un, .own false (.lst (known.map eI)), .un, .un, .un, .un, .val false (eI way), .un, .un, .un] : Sl))) (ea_PE (bnd_P (u := (.val ((eT eI) ([] : (List Int))) : Wv)) pa_nil rfl) (ea_PE (bnd_P (u := (.val ((e2 eI eI) ((1 : Int), (1 : Int))) : Wv)) (pa_cons rfl (pa_cons rfl pa_nil)) rfl) (ea_EP (wa := (fun (r157 : (List Int)) => (.val ((eT eI) r157) : Wv))) (Ga := (fun (r157 : (List Int)) => ([.rol (script.map eI), .own false (.lst (r87.2.map eI)), .val false (eI r9.1), .val false (eI r16.1), .val false ((eT eI) r17.1), .val false ((eL (eL eI)) parts), .own false (.lst (due.map eI)), .val false (eI r55.1), .val false ((eT eI) r82.1.1), .val false (eI r82.1.2), .val false (eI r87.1), .val false ((eT eI) turned_v), .own false (.lst (told.map eI)), .val false ((eL (eT eI)) rows), .un, .own false (.lst (known.map eI)), .un, .un, .un, .un, .val false (eI way), .un, .un, .un] : Sl))) (wb := fun (r157 : (List Int)) => [.val ((e3 eI eI eI) ((1 : Int), (-1 : Int), (1 : Int))), .val ((e3 eI eI eI) ((1000001 : Int), (1 : Int), (1 : Int)))]) (Gb := (fun (r157 : (List Int)) => ([.rol (script.map eI), .own false (.lst (r87.2.map eI)), .val false (eI r9.1), .val false (eI r16.1), .val false ((eT eI) r17.1), .val false ((eL (eL eI)) parts), .own false (.lst (due.map eI)), .val false (eI r55.1), .val false ((eT eI) r82.1.1), .val false (eI r82.1.2), .val false (eI r87.1), .val false ((eT eI) turned_v), .own false (.lst (told.map eI)), .val false ((eL (eT eI)) rows), .un, .own false (.lst (known.map eI)), .un, .un, .un, .un, .val false (eI way), .un, .un, .un] : Sl))) (ev_binPP (bnd_P (u := (.val ((e1 eI) (1 : Int)) : Wv)) (pa_cons rfl pa_nil) rfl) rfl (g_trep (e := eI) rfl)) (fun (r157 : (List Int)) => (pa_cons (bnd_P (u := (.val ((e3 eI eI eI) ((1 : Int), (-1 : Int), (1 : Int))) : Wv)) (pa_cons rfl (pa_cons (pv_un rfl rfl) (pa_cons rfl pa_nil))) rfl) (pa_cons (bnd_P (u := (.val ((e3 eI eI eI) ((1000001 : Int), (1 : Int), (1 : Int))) : Wv)) (pa_cons rfl (pa_cons rfl (pa_cons rfl pa_nil))) rfl) pa_nil)))))) (fun (r157 : (List Int)) => (ev_ok rfl))) (fun _ => rfl)) (fun (r158 : (List (List Int))) => (ev_lcR (e := (eT eI)) (e' := eD) (xs := r158) (Fw := [.rol (script.map eI), .own false (.lst (r87.2.map eI)), .val false (eI r9.1), .val false (eI r16.1), .val false ((eT eI) r17.1), .val false ((eL (eL eI)) parts), .own false (.lst (due.map eI)), .val false (eI r55.1), .val false ((eT eI) r82.1.1), .val false (eI r82.1.2), .val false (eI r87.1), .val false ((eT eI) turned_v), .own false (.lst (told.map eI)), .val false ((eL (eT eI)) rows), .un, .own false (.lst (known.map eI)), .un, .un, .un, .un, .val false (eI way), .un, .un, .un]) (F2 := [.rol (script.map eI), .own false (.lst (r87.2.map eI)), .val false (eI r9.1), .val false (eI r16.1), .val false ((eT eI) r17.1), .val false ((eL (eL eI)) parts), .own false (.lst (due.map eI)), .val false (eI r55.1), .val false ((eT eI) r82.1.1), .val false (eI r82.1.2), .val false (eI r87.1), .val false ((eT eI) turned_v), .own false (.lst (told.map eI)), .val false ((eL (eT eI)) rows), .un, .own false (.lst (known.map eI)), .un, .un, .un, .un, .val false (eI way), .un, .un, .un]) (T := (fun (bad : (List Int)) => ([.rol (script.map eI), .own false (.lst (r87.2.map eI)), .val false (eI r9.1), .val false (eI r16.1), .val false ((eT eI) r17.1), .val false ((eL (eL eI)) parts), .own false (.lst (due.map eI)), .val false (eI r55.1), .val false ((eT eI) r82.1.1), .val false (eI r82.1.2), .val false (eI r87.1), .val false ((eT eI) turned_v), .own false (.lst (told.map eI)), .val false ((eL (eT eI)) rows), .un, .own false (.lst (known.map eI)), .un, .un, .un, .un, .val false (eI way), .un, .val false ((eT eI) bad), .un] : Sl))) (f := (fun (bad : (List Int)) => (p_law_asked way bad (0 : Int) : Ro D))) rfl rfl (fun _ => rfl) (fun (bad : (List Int)) => (ev_E2 (w := (fun (r159 : D) => (.val (eD r159) : Wv))) (G1 := (fun (r159 : D) => ([.rol (script.map eI), .own false (.lst (r87.2.map eI)), .val false (eI r9.1), .val false (eI r16.1), .val false ((eT eI) r17.1), .val false ((eL (eL eI)) parts), .own false (.lst (due.map eI)), .val false (eI r55.1), .val false ((eT eI) r82.1.1), .val false (eI r82.1.2), .val false (eI r87.1), .val false ((eT eI) turned_v), .own false (.lst (told.map eI)), .val false ((eL (eT eI)) rows), .un, .own false (.lst (known.map eI)), .un, .un, .un, .un, .val false (eI way), .un, .val false ((eT eI) bad), .un] : Sl))) (w2 := fun (r159 : D) => (eD r159 : D)) (G := (fun (r159 : D) => ([.rol (script.map eI), .own false (.lst (r87.2.map eI)), .val false (eI r9.1), .val false (eI r16.1), .val false ((eT eI) r17.1), .val false ((eL (eL eI)) parts), .own false (.lst (due.map eI)), .val false (eI r55.1), .val false ((eT eI) r82.1.1), .val false (eI r82.1.2), .val false (eI r87.1), .val false ((eT eI) turned_v), .own false (.lst (told.map eI)), .val false ((eL (eT eI)) rows), .un, .own false (.lst (known.map eI)), .un, .un, .un, .un, .val false (eI way), .un, .val false ((eT eI) bad), .un] : Sl))) (ev_P (pa_cons rfl (pa_cons rfl (pa_cons rfl pa_nil))) (tc0 rfl rfl rfl (s_law_asked way bad (0 : Int)) trivial)) (fun _ => rfl))) (fun _ => rfl) rfl))) (fun _ => rfl))) (fun _ => rfl) rfl)) (fun _ => rfl)) (fun (r162 : (List (List D))) => pa_nil)) (fun (r162 : (List (List D))) => (tc0 rfl rfl rfl (s_law_flat (e_a := eD) r162) trivial))) (fun _ => rfl)) fun (maps : (List D)) =>
    (tg_rtE (w := (fun (r178 : Bool) => (.val (eB r178) : Wv))) (G := (fun (r178 : Bool) => ([.rol (script.map eI), .own false (.lst (r87.2.map eI)), .val false (eI r9.1), .val false (eI r16.1), .val false ((eT eI) r17.1), .val false ((eL (eL eI)) parts), .own false (.lst (due.map eI)), .val false (eI r55.1), .val false ((eT eI) r82.1.1), .val false (eI r82.1.2), .val false (eI r87.1), .val false ((eT eI) turned_v), .own false (.lst (told.map eI)), .val false ((eL (eT eI)) rows), .un, .own false (.lst (known.map eI)), .own false (.lst (maps.map eD)), .un, .un, .un, .un, .un, .un, .un] : Sl))) (ev_andE (ev_binPE (wb := (fun (r165 : (List Str)) => (.new (.lst (r165.map eS)) : Wv))) (Gb := (fun (r165 : (List Str)) => ([.rol (script.map eI), .own false (.lst (r87.2.map eI)), .val false (eI r9.1), .val false (eI r16.1), .val false ((eT eI) r17.1), .val false ((eL (eL eI)) parts), .own false (.lst (due.map eI)), .val false (eI r55.1), .val false ((eT eI) r82.1.1), .val false (eI r82.1.2), .val false (eI r87.1), .val false ((eT eI) turned_v), .own false (.lst (told.map eI)), .val false ((eL (eT eI)) rows), .un, .own false (.lst (known.map eI)), .own false (.lst (maps.map eD)), .un, .un, .un, .un, .un, .un, .un] : Sl))) rfl (ev_binPP (bnd_P (u := (.new (.lst (([("!map" : Str)] : (List Str)).map eS)) : Wv)) (pa_cons rfl pa_nil) rfl) rfl (g_repL (e := eS) rfl rfl)) (fun (r165 : (List Str)) => (g_eq rfl rfl))) (ev_binEE (wa := (fun (r173 : (List D)) => (.new (.lst (r173.map eD)) : Wv))) (Ga := (fun (r173 : (List D)) => ([.rol (script.map eI), .own false (.lst (r87.2.map eI)), .val false (eI r9.1), .val false (eI r16.1), .val false ((eT eI) r17.1), .val false ((eL (eL eI)) parts), .own false (.lst (due.map eI)), .val false (eI r55.1), .val false ((eT eI) r82.1.1), .val false (eI r82.1.2), .val false (eI r87.1), .val false ((eT eI) turned_v), .own false (.lst (told.map eI)), .val false ((eL (eT eI)) rows), .un, .own false (.lst (known.map eI)), .own false (.lst (maps.map eD)), .un, .un, .un, .un, .un, .un, .un] : Sl))) (wb := fun (r173 : (List D)) => (fun (r174 : (List Str)) => (.new (.lst (r174.map eS)) : Wv))) (Gb := fun (r173 : (List D)) => (fun (r174 : (List Str)) => ([.rol (script.map eI), .own false (.lst (r87.2.map eI)), .val false (eI r9.1), .val false (eI r16.1), .val false ((eT eI) r17.1), .val false ((eL (eL eI)) parts), .own false (.lst (due.map eI)), .val false (eI r55.1), .val false ((eT eI) r82.1.1), .val false (eI r82.1.2), .val false (eI r87.1), .val false ((eT eI) turned_v), .own false (.lst (told.map eI)), .val false ((eL (eT eI)) rows), .un, .own false (.lst (known.map eI)), .own false (.lst (maps.map eD)), .un, .un, .un, .un, .un, .un, .un] : Sl))) (ev_E (w := fun (r171 : (List (List D))) => [.val ((eL (eL eD)) r171)]) (G1 := (fun (r171 : (List (List D))) => ([.rol (script.map eI), .own false (.lst (r87.2.map eI)), .val false (eI r9.1), .val false (eI r16.1), .val false ((eT eI) r17.1), .val false ((eL (eL eI)) parts), .own false (.lst (due.map eI)), .val false (eI r55.1), .val false ((eT eI) r82.1.1), .val false (eI r82.1.2), .val false (eI r87.1), .val false ((eT eI) turned_v), .own false (.lst (told.map eI)), .val false ((eL (eT eI)) rows), .un, .own false (.lst (known.map eI)), .own false (.lst (maps.map eD)), .un, .un, .un, .un, .un, .un, .un] : Sl))) (ea_EP (wa := (fun (r171 : (List (List D))) => (.val ((eL (eL eD)) r171) : Wv))) (Ga := (fun (r171 : (List (List D))) => ([.rol (script.map eI), .own false (.lst (r87.2.map eI)), .val false (eI r9.1), .val false (eI r16.1), .val false ((eT eI) r17.1), .val false ((eL (eL eI)) parts), .own false (.lst (due.map eI)), .val false (eI r55.1), .val false ((eT eI) r82.1.1), .val false (eI r82.1.2), .val false (eI r87.1), .val false ((eT eI) turned_v), .own false (.lst (told.map eI)), .val false ((eL (eT eI)) rows), .un, .own false (.lst (known.map eI)), .own false (.lst (maps.map eD)), .un, .un, .un, .un, .un, .un, .un] : Sl))) (wb := fun (r171 : (List (List D))) => []) (Gb := (fun (r171 : (List (List D))) => ([.rol (script.map eI), .own false (.lst (r87.2.map eI)), .val false (eI r9.1), .val false (eI r16.1), .val false ((eT eI) r17.1), .val false ((eL (eL eI)) parts), .own false (.lst (due.map eI)), .val false (eI r55.1), .val false ((eT eI) r82.1.1), .val false (eI r82.1.2), .val false (eI r87.1), .val false ((eT eI) turned_v), .own false (.lst (told.map eI)), .val false ((eL (eT eI)) rows), .un, .own false (.lst (known.map eI)), .own false (.lst (maps.map eD)), .un, .un, .un, .un, .un, .un, .un] : Sl))) (ev_fz (w := (fun (r171 : (List (List D))) => (.new (.lst (r171.map (eL eD))) : Wv))) (G := (fun (r171 : (List (List D))) => ([.rol (script.map eI), .own false (.lst (r87.2.map eI)), .val false (eI r9.1), .val false (eI r16.1), .val false ((eT eI) r17.1), .val false ((eL (eL eI)) parts), .own false (.lst (due.map eI)), .val false (eI r55.1), .val false ((eT eI) r82.1.1), .val false (eI r82.1.2), .val false (eI r87.1), .val false ((eT eI) turned_v), .own false (.lst (told.map eI)), .val false ((eL (eT eI)) rows), .un, .own false (.lst (known.map eI)), .own false (.lst (maps.map eD)), .un, .un, .un, .un, .un, .un, .un] : Sl))) (w2 := (fun (r171 : (List (List D))) => (.val ((eL (eL eD)) r171) : Wv))) (G' := (fun (r171 : (List (List D))) => ([.rol (script.map eI), .own false (.lst (r87.2.map eI)), .val false (eI r9.1), .val false (eI r16.1), .val false ((eT eI) r17.1), .val false ((eL (eL eI)) parts), .own false (.lst (due.map eI)), .val false (eI r55.1), .val false ((eT eI) r82.1.1), .val false (eI r82.1.2), .val false (eI r87.1), .val false ((eT eI) turned_v), .own false (.lst (told.map eI)), .val false ((eL (eT eI)) rows), .un, .own false (.lst (known.map eI)), .own false (.lst (maps.map eD)), .un, .un, .un, .un, .un, .un, .un] : Sl))) (ev_lcP (bnd_P (pa_cons rfl pa_nil) (o_rng1 (j := 2) (by decide))) (ev_lcR (e := eI) (e' := (eL eD)) (xs := (rngL 0 2)) (Fw := [.rol (script.map eI), .own false (.lst (r87.2.map eI)), .val false (eI r9.1), .val false (eI r16.1), .val false ((eT eI) r17.1), .val false ((eL (eL eI)) parts), .own false (.lst (due.map eI)), .val false (eI r55.1), .val false ((eT eI) r82.1.1), .val false (eI r82.1.2), .val false (eI r87.1), .val false ((eT eI) turned_v), .own false (.lst (told.map eI)), .val false ((eL (eT eI)) rows), .un, .own false (.lst (known.map eI)), .own false (.lst (maps.map eD)), .un, .un, .un, .un, .un, .un, .un]) (F2 := [.rol (script.map eI), .own false (.lst (r87.2.map eI)), .val false (eI r9.1), .val false (eI r16.1), .val false ((eT eI) r17.1), .val false ((eL (eL eI)) parts), .own false (.lst (due.map eI)), .val false (eI r55.1), .val false ((eT eI) r82.1.1), .val false (eI r82.1.2), .val false (eI r87.1), .val false ((eT eI) turned_v), .own false (.lst (told.map eI)), .val false ((eL (eT eI)) rows), .un, .own false (.lst (known.map eI)), .own false (.lst (maps.map eD)), .un, .un, .un, .un, .un, .un, .un]) (T := (fun (way : Int) => ([.rol (script.map eI), .own false (.lst (r87.2.map eI)), .val false (eI r9.1), .val false (eI r16.1), .val false ((eT eI) r17.1), .val false ((eL (eL eI)) parts), .own false (.lst (due.map eI)), .val false (eI r55.1), .val false ((eT eI) r82.1.1), .val false (eI r82.1.2), .val false (eI r87.1), .val false ((eT eI) turned_v), .own false (.lst (told.map eI)), .val false ((eL (eT eI)) rows), .un, .own false (.lst (known.map eI)), .own false (.lst (maps.map eD)), .un, .un, .un, .val false (eI way), .un, .un, .un] : Sl))) (f := (fun (way : Int) => ((szR ([(0 : Int), (r9.1 + (1 : Int))] : (List Int)).length ()).bind fun _ => (mapR ([(0 : Int), (r9.1 + (1 : Int))] : (List Int)) (fun (parts_asked : Int) => (p_law_asked way r17.1 parts_asked : Ro D))).noEx : Ro (List D)))) rfl rfl (fun _ => rfl) (fun (way : Int) => (ev_E2 (w := (fun (r170 : (List D)) => (.new (.lst (r170.map eD)) : Wv))) (G1 := (fun (r170 : (List D)) => ([.rol (script.map eI), .own false (.lst (r87.2.map eI)), .val false (eI r9.1), .val false (eI r16.1), .val false ((eT eI) r17.1), .val false ((eL (eL eI)) parts), .own false (.lst (due.map eI)), .val false (eI r55.1), .val false ((eT eI) r82.1.1), .val false (eI r82.1.2), .val false (eI r87.1), .val false ((eT eI) turned_v), .own false (.lst (told.map eI)), .val false ((eL (eT eI)) rows), .un, .own false (.lst (known.map eI)), .own false (.lst (maps.map eD)), .un, .un, .un, .val false (eI way), .un, .un, .un] : Sl))) (w2 := fun (r170 : (List D)) => ((eL eD) r170 : D)) (G := (fun (r170 : (List D)) => ([.rol (script.map eI), .own false (.lst (r87.2.map eI)), .val false (eI r9.1), .val false (eI r16.1), .val false ((eT eI) r17.1), .val false ((eL (eL eI)) parts), .own false (.lst (due.map eI)), .val false (eI r55.1), .val false ((eT eI) r82.1.1), .val false (eI r82.1.2), .val false (eI r87.1), .val false ((eT eI) turned_v), .own false (.lst (told.map eI)), .val false ((eL (eT eI)) rows), .un, .own false (.lst (known.map eI)), .own false (.lst (maps.map eD)), .un, .un, .un, .val false (eI way), .un, .un, .un] : Sl))) (ev_lcP (bnd_P (u := ([(0 : Int), (r9.1 + (1 : Int))] : (List Int)).map eI) (bnd_P (u := (.new (.lst (([(0 : Int), (r9.1 + (1 : Int))] : (List Int)).map eI)) : Wv)) (pa_cons rfl (pa_cons (pv_bin rfl rfl rfl) pa_nil)) rfl) rfl) (ev_lcR (e := eI) (e' := eD) (xs := ([(0 : Int), (r9.1 + (1 : Int))] : (List Int))) (Fw := [.rol (script.map eI), .own false (.lst (r87.2.map eI)), .val false (eI r9.1), .val false (eI r16.1), .val false ((eT eI) r17.1), .val false ((eL (eL eI)) parts), .own false (.lst (due.map eI)), .val false (eI r55.1), .val false ((eT eI) r82.1.1), .val false (eI r82.1.2), .val false (eI r87.1), .val false ((eT eI) turned_v), .own false (.lst (told.map eI)), .val false ((eL (eT eI)) rows), .un, .own false (.lst (known.map eI)), .own false (.lst (maps.map eD)), .un, .un, .un, .val false (eI way), .un, .un, .un]) (F2 := [.rol (script.map eI), .own false (.lst (r87.2.map eI)), .val false (eI r9.1), .val false (eI r16.1), .val false ((eT eI) r17.1), .val false ((eL (eL eI)) parts), .own false (.lst (due.map eI)), .val false (eI r55.1), .val false ((eT eI) r82.1.1), .val false (eI r82.1.2), .val false (eI r87.1), .val false ((eT eI) turned_v), .own false (.lst (told.map eI)), .val false ((eL (eT eI)) rows), .un, .own false (.lst (known.map eI)), .own false (.lst (maps.map eD)), .un, .un, .un, .val false (eI way), .un, .un, .un]) (T := (fun (parts_asked : Int) => ([.rol (script.map eI), .own false (.lst (r87.2.map eI)), .val false (eI r9.1), .val false (eI r16.1), .val false ((eT eI) r17.1), .val false ((eL (eL eI)) parts), .own false (.lst (due.map eI)), .val false (eI r55.1), .val false ((eT eI) r82.1.1), .val false (eI r82.1.2), .val false (eI r87.1), .val false ((eT eI) turned_v), .own false (.lst (told.map eI)), .val false ((eL (eT eI)) rows), .un, .own false (.lst (known.map eI)), .own false (.lst (maps.map eD)), .un, .un, .un, .val false (eI way), .un, .un, .val false (eI parts_asked)] : Sl))) (f := (fun (parts_asked : Int) => (p_law_asked way r17.1 parts_asked : Ro D))) rfl rfl (fun _ => rfl) (fun (parts_asked : Int) => (ev_E2 (w := (fun (r169 : D) => (.val (eD r169) : Wv))) (G1 := (fun (r169 : D) => ([.rol (script.map eI), .own false (.lst (r87.2.map eI)), .val false (eI r9.1), .val false (eI r16.1), .val false ((eT eI) r17.1), .val false ((eL (eL eI)) parts), .own false (.lst (due.map eI)), .val false (eI r55.1), .val false ((eT eI) r82.1.1), .val false (eI r82.1.2), .val false (eI r87.1), .val false ((eT eI) turned_v), .own false (.lst (told.map eI)), .val false ((eL (eT eI)) rows), .un, .own false (.lst (known.map eI)), .own false (.lst (maps.map eD)), .un, .un, .un, .val false (eI way), .un, .un, .val false (eI parts_asked)] : Sl))) (w2 := fun (r169 : D) => (eD r169 : D)) (G := (fun (r169 : D) => ([.rol (script.map eI), .own false (.lst (r87.2.map eI)), .val false (eI r9.1), .val false (eI r16.1), .val false ((eT eI) r17.1), .val false ((eL (eL eI)) parts), .own false (.lst (due.map eI)), .val false (eI r55.1), .val false ((eT eI) r82.1.1), .val false (eI r82.1.2), .val false (eI r87.1), .val false ((eT eI) turned_v), .own false (.lst (told.map eI)), .val false ((eL (eT eI)) rows), .un, .own false (.lst (known.map eI)), .own false (.lst (maps.map eD)), .un, .un, .un, .val false (eI way), .un, .un, .val false (eI parts_asked)] : Sl))) (ev_P (pa_cons rfl (pa_cons rfl (pa_cons rfl pa_nil))) (tc0 rfl rfl rfl (s_law_asked way r17.1 parts_asked) trivial)) (fun _ => rfl))) (fun _ => rfl) rfl)) (fun _ => rfl))) (fun _ => rfl) rfl)) (fun _ => rfl)) (fun (r171 : (List (List D))) => pa_nil)) (fun (r171 : (List (List D))) => (tc0 rfl rfl rfl (s_law_flat (e_a := eD) r171) trivial))) (fun (r173 : (List D)) => (ev_binPP (bnd_P (u := (.new (.lst (([("!number" : Str)] : (List Str)).map eS)) : Wv)) (pa_cons rfl pa_nil) rfl) rfl (g_repL (e := eS) rfl rfl))) (fun (r173 : (List D)) (r174 : (List Str)) => (g_eq rfl rfl)))) (fun (r178 : Bool) => ⟨_, rfl, trivial⟩))))))))))))))))))))))))))))))

end k32
set_option maxHeartbeats 0
namespace k32
open PySem PySem.Spec PyProof.Rows L2 DT
def top (i : Nat) : Stmt := PySem.Challenge.pw_partedmaps_k32_rings_and_their_cuts.main.body.getD i (.Pass ⟨0, 0, 0, 0⟩)
def Γ0 (ca : Nat → Addr) : Gm := ⟨ca⟩
structure Txt (K : PySem.W.Frag) (mg : Str → Option Value) (ca : Nat → Addr) (tk : Nat → Tok) : Prop where
  b_all : mg "all" = none
  b_any : mg "any" = none
  b_enumerate : mg "enumerate" = none
  b_int : mg "int" = none
  b_isinstance : mg "isinstance" = none
  b_len : mg "len" = none
  b_max : mg "max" = none
  b_min : mg "min" = none
  b_range : mg "range" = none
  b_repr : mg "repr" = none
  b_sum : mg "sum" = none
  b_tuple : mg "tuple" = none
  g_FEWEST_RING : mg "FEWEST_RING" = some (.int 3 (tk 0))
  g_MOST_RING : mg "MOST_RING" = some (.int 300 (tk 1))
  g_MOST_ROW : mg "MOST_ROW" = some (.int 2000 (tk 2))
  g_MOST_WEIGHT : mg "MOST_WEIGHT" = some (.int 1000000 (tk 3))
  x_NotMap : ExcT K mg "NotMap" (ca 0)
  x_NotPlan : ExcT K mg "NotPlan" (ca 1)
  x_NotTable : ExcT K mg "NotTable" (ca 2)
  x_NotPaper : ExcT K mg "NotPaper" (ca 3)
  x_BadNumber : ExcT K mg "BadNumber" (ca 4)
  x_NoAnswer : ExcT K mg "NoAnswer" (ca 5)
  x_TooLarge : ExcT K mg "TooLarge" (ca 6)
  exc : ∀ c, c < 7 → ExcC K (ca c)
  kit : ∀ c j, c < 7 → j < 7 → PySem.W.kitOne K (.ref (ca c)) (.ref (ca j)) = some (decide (c = j))
  x_MapError : mg "MapError" = some (.ref (ca 7))
  exm : ∀ c, c < 7 → PySem.W.exmOne K (.ref (ca c)) (.ref (ca 7)) = some true
theorem kinds_lt {c : Nat} {t : Str} (h : kinds c = some t) : c < 7 := (List.getElem?_eq_some_iff.mp h).1
theorem Txt.ex_MapError {K : PySem.W.Frag} {mg : Str → Option Value} {ca : Nat → Addr} {tk : Nat → Tok} (T : Txt K mg ca tk) : ∀ c t, kinds c = some t → PySem.W.exmOne K (.ref ((Γ0 ca).ca c)) (.ref (ca 7)) = some true := fun c t h => T.exm c (kinds_lt h)
/-! ### is_row -/
theorem sc_is_row : FnScope ["weights", "weight"] ["weights"] (L2.defScope (top 14)) := ⟨rfl, rfl, rfl, by decide +kernel, rfl, by decide +kernel, by decide +kernel⟩
theorem ok_is_row {P : Program} {w : World} {K : PySem.W.Frag} {mg : Str → Option Value} {base : Heap} {ca : Nat → Addr} {tok : Nat → Tok} {f : Addr} {fd : FuncData} (T : Txt K mg ca tok) 
    (hm : mg "is_row" = some (.ref f)) (F : L2.Fun K "is_row" "is_row" (top 14) f fd) (hb : Binds K fd ["weights"] []) : DFn P w K mg base (Γ0 ca) 1 "is_row" 1 f_is_row :=
  dfn_mk (N := ["weights", "weight"]) (fb := b_is_row) hm F hb sc_is_row fun cdv A outer s H E hr => by
    have tk := takes_cx (P := P) (w := w) (K := K) (mg := mg) (base := base) (N := ["weights", "weight"]) (qual := "is_row") (scope := L2.defScope (top 14)) (f := f) (cd := cdv) (A := A) (outer := outer) (s := s) (H := H) (E := E)
    have hp := passes_cx (P := P) (w := w) (K := K) (mg := mg) (base := base) (N := ["weights", "weight"]) (qual := "is_row") (scope := L2.defScope (top 14)) (f := f) (cd := cdv) (A := A) (outer := outer) (s := s) (H := H) (E := E)
    have hN := sc_is_row.nd
    exact (dss_one (ds_ret (de_and (de_chain (op_le) ok_iLe (op_le) ok_iLe de_int (de_callB cr_lenW ok_lenW T.b_len (by rfl) (da_cons (de_nm 0) da_nil)) (de_gint T.g_MOST_ROW)) (de_one (de_callB (call_allX rfl) ok_allW T.b_all (by rfl) (da_cons (de_lc [("weight", 1)] rfl hN (di_seq (de_nm 0)) (blk_ok (by kernel_rfl)) (fun _ _ _ _ _ => (dg_name 1 hN)) (fun _ _ _ _ _ => dts_nil) (fun _ _ _ _ _ => (de_chain (op_le) ok_iLe (op_le) ok_iLe de_int (de_nm 1) (de_gint T.g_MOST_WEIGHT)))) da_nil))))))
/-! ### check_row -/
theorem sc_check_row : FnScope ["weights", "k"] ["weights", "k"] (L2.defScope (top 15)) := ⟨rfl, rfl, rfl, by decide +kernel, rfl, by decide +kernel, by decide +kernel⟩
theorem ok_check_row {P : Program} {w : World} {K : PySem.W.Frag} {mg : Str → Option Value} {base : Heap} {ca : Nat → Addr} {tok : Nat → Tok} {f : Addr} {fd : FuncData} (T : Txt K mg ca tok) (D_is_row : DFn P w K mg base (Γ0 ca) 1 "is_row" 1 f_is_row)
    (hm : mg "check_row" = some (.ref f)) (F : L2.Fun K "check_row" "check_row" (top 15) f fd) (hb : Binds K fd ["weights", "k"] []) : DFn P w K mg base (Γ0 ca) 2 "check_row" 2 f_check_row :=
  dfn_mk (N := ["weights", "k"]) (fb := b_check_row) hm F hb sc_check_row fun cdv A outer s H E hr => by
    have tk := takes_cx (P := P) (w := w) (K := K) (mg := mg) (base := base) (N := ["weights", "k"]) (qual := "check_row") (scope := L2.defScope (top 15)) (f := f) (cd := cdv) (A := A) (outer := outer) (s := s) (H := H) (E := E)
    have hp := passes_cx (P := P) (w := w) (K := K) (mg := mg) (base := base) (N := ["weights", "k"]) (qual := "check_row") (scope := L2.defScope (top 15)) (f := f) (cd := cdv) (A := A) (outer := outer) (s := s) (H := H) (E := E)
    have hN := sc_check_row.nd
    exact (dss_cons (ds_if (dt_not (dt_truth (de_call D_is_row (hr.mono (by decide)) tk (da_cons (de_nm 0) da_nil)))) (dss_one (ds_raise 0 rfl tk (T.x_NotMap.mk1))) dss_nil)
    (dss_cons (ds_if (dt_not (dt_chain (op_le) ok_iLe (op_le) ok_iLe de_int (de_nm 1) (de_callB cr_lenW ok_lenW T.b_len (by rfl) (da_cons (de_nm 0) da_nil)))) (dss_one (ds_raise 4 rfl tk (T.x_BadNumber.mk1))) dss_nil)
    dss_nil))
/-! ### check_ring -/
theorem sc_check_ring : FnScope ["weights", "k"] ["weights", "k"] (L2.defScope (top 16)) := ⟨rfl, rfl, rfl, by decide +kernel, rfl, by decide +kernel, by decide +kernel⟩
theorem ok_check_ring {P : Program} {w : World} {K : PySem.W.Frag} {mg : Str → Option Value} {base : Heap} {ca : Nat → Addr} {tok : Nat → Tok} {f : Addr} {fd : FuncData} (T : Txt K mg ca tok) (D_is_row : DFn P w K mg base (Γ0 ca) 1 "is_row" 1 f_is_row)
    (hm : mg "check_ring" = some (.ref f)) (F : L2.Fun K "check_ring" "check_ring" (top 16) f fd) (hb : Binds K fd ["weights", "k"] []) : DFn P w K mg base (Γ0 ca) 2 "check_ring" 2 f_check_ring :=
  dfn_mk (N := ["weights", "k"]) (fb := b_check_ring) hm F hb sc_check_ring fun cdv A outer s H E hr => by
    have tk := takes_cx (P := P) (w := w) (K := K) (mg := mg) (base := base) (N := ["weights", "k"]) (qual := "check_ring") (scope := L2.defScope (top 16)) (f := f) (cd := cdv) (A := A) (outer := outer) (s := s) (H := H) (E := E)
    have hp := passes_cx (P := P) (w := w) (K := K) (mg := mg) (base := base) (N := ["weights", "k"]) (qual := "check_ring") (scope := L2.defScope (top 16)) (f := f) (cd := cdv) (A := A) (outer := outer) (s := s) (H := H) (E := E)
    have hN := sc_check_ring.nd
    exact (dss_cons (ds_if (dt_bool (dw_or (dt_not (dt_chain (op_le) ok_iLe (op_le) ok_iLe (de_gint T.g_FEWEST_RING) (de_callB cr_lenW ok_lenW T.b_len (by rfl) (da_cons (de_nm 0) da_nil)) (de_gint T.g_MOST_RING))) (dw_or1 (dt_not (dt_truth (de_call D_is_row (hr.mono (by decide)) tk (da_cons (de_nm 0) da_nil))))))) (dss_one (ds_raise 0 rfl tk (T.x_NotMap.mk1))) dss_nil)
    (dss_cons (ds_if (dt_not (dt_chain (op_le) ok_iLe (op_le) ok_iLe de_int (de_nm 1) (de_callB cr_lenW ok_lenW T.b_len (by rfl) (da_cons (de_nm 0) da_nil)))) (dss_one (ds_raise 4 rfl tk (T.x_BadNumber.mk1))) dss_nil)
    dss_nil))
/-! ### starts_for -/
theorem sc_starts_for : FnScope ["weights", "high", "found", "here", "place", "weight"] ["weights", "high"] (L2.defScope (top 17)) := ⟨rfl, rfl, rfl, by decide +kernel, rfl, by decide +kernel, by decide +kernel⟩
theorem ok_starts_for {P : Program} {w : World} {K : PySem.W.Frag} {mg : Str → Option Value} {base : Heap} {ca : Nat → Addr} {tok : Nat → Tok} {f : Addr} {fd : FuncData} (T : Txt K mg ca tok) 
    (hm : mg "starts_for" = some (.ref f)) (F : L2.Fun K "starts_for" "starts_for" (top 17) f fd) (hb : Binds K fd ["weights", "high"] []) : DFn P w K mg base (Γ0 ca) 1 "starts_for" 2 f_starts_for :=
  dfn_mk (N := ["weights", "high", "found", "here", "place", "weight"]) (fb := b_starts_for) hm F hb sc_starts_for fun cdv A outer s H E hr => by
    have tk := takes_cx (P := P) (w := w) (K := K) (mg := mg) (base := base) (N := ["weights", "high", "found", "here", "place", "weight"]) (qual := "starts_for") (scope := L2.defScope (top 17)) (f := f) (cd := cdv) (A := A) (outer := outer) (s := s) (H := H) (E := E)
    have hp := passes_cx (P := P) (w := w) (K := K) (mg := mg) (base := base) (N := ["weights", "high", "found", "here", "place", "weight"]) (qual := "starts_for") (scope := L2.defScope (top 17)) (f := f) (cd := cdv) (A := A) (outer := outer) (s := s) (H := H) (E := E)
    have hN := sc_starts_for.nd
    exact (dss_cons (ds_asg 2 hN (de_lst (da_cons de_int da_nil)))
    (dss_cons (ds_asg 3 hN de_int)
    (dss_cons (ds_for hp rfl (di_enum T.b_enumerate (da_cons (de_nm 0) da_nil)) (dg_tup rfl (dgs_cons 4 hN (dgs_cons 5 hN dgs_nil))) (dss_cons (ds_if (dt_gt  (de_add (de_nm 3) (de_nm 5)) (de_nm 1)) (dss_cons (ds_expr (de_mth 2 PySem.F.plainAttrs_list PySem.F.slot_list_append PySem.F.type_list_append mt_append ty_list ok_append (da_cons (de_nm 4) da_nil)))
    (dss_cons (ds_asg 3 hN de_int)
    dss_nil)) dss_nil)
    (dss_cons (ds_aug 3 hN iop_add ok_iAdd (de_nm 5))
    (dss_k [4] (dss_k [5] dss_nil)))))
    (dss_one (ds_ret (de_nm 2))))))
/-! ### low_places -/
theorem sc_low_places : FnScope ["weights", "low", "found", "here", "place", "weight"] ["weights", "low"] (L2.defScope (top 18)) := ⟨rfl, rfl, rfl, by decide +kernel, rfl, by decide +kernel, by decide +kernel⟩
theorem ok_low_places {P : Program} {w : World} {K : PySem.W.Frag} {mg : Str → Option Value} {base : Heap} {ca : Nat → Addr} {tok : Nat → Tok} {f : Addr} {fd : FuncData} (T : Txt K mg ca tok) 
    (hm : mg "low_places" = some (.ref f)) (F : L2.Fun K "low_places" "low_places" (top 18) f fd) (hb : Binds K fd ["weights", "low"] []) : DFn P w K mg base (Γ0 ca) 1 "low_places" 2 f_low_places :=
  dfn_mk (N := ["weights", "low", "found", "here", "place", "weight"]) (fb := b_low_places) hm F hb sc_low_places fun cdv A outer s H E hr => by
    have tk := takes_cx (P := P) (w := w) (K := K) (mg := mg) (base := base) (N := ["weights", "low", "found", "here", "place", "weight"]) (qual := "low_places") (scope := L2.defScope (top 18)) (f := f) (cd := cdv) (A := A) (outer := outer) (s := s) (H := H) (E := E)
    have hp := passes_cx (P := P) (w := w) (K := K) (mg := mg) (base := base) (N := ["weights", "low", "found", "here", "place", "weight"]) (qual := "low_places") (scope := L2.defScope (top 18)) (f := f) (cd := cdv) (A := A) (outer := outer) (s := s) (H := H) (E := E)
    have hN := sc_low_places.nd
    exact (dss_cons (ds_asg 2 hN (de_lst da_nil))
    (dss_cons (ds_asg 3 hN de_int)
    (dss_cons (ds_for hp rfl (di_enum T.b_enumerate (da_cons (de_nm 0) da_nil)) (dg_tup rfl (dgs_cons 4 hN (dgs_cons 5 hN dgs_nil))) (dss_cons (ds_aug 3 hN iop_add ok_iAdd (de_nm 5))
    (dss_cons (ds_if (dt_ge  (de_nm 3) (de_nm 1)) (dss_cons (ds_expr (de_mth 2 PySem.F.plainAttrs_list PySem.F.slot_list_append PySem.F.type_list_append mt_append ty_list ok_append (da_cons (de_nm 4) da_nil)))
    (dss_cons (ds_asg 3 hN de_int)
    dss_nil)) dss_nil)
    (dss_k [4] (dss_k [5] dss_nil)))))
    (dss_one (ds_ret (de_nm 2))))))
/-! ### least_high -/
theorem sc_least_high : FnScope ["weights", "k", "low", "high", "middle"] ["weights", "k"] (L2.defScope (top 19)) := ⟨rfl, rfl, rfl, by decide +kernel, rfl, by decide +kernel, by decide +kernel⟩
theorem ok_least_high {P : Program} {w : World} {K : PySem.W.Frag} {mg : Str → Option Value} {base : Heap} {ca : Nat → Addr} {tok : Nat → Tok} {f : Addr} {fd : FuncData} (T : Txt K mg ca tok) (D_check_row : DFn P w K mg base (Γ0 ca) 2 "check_row" 2 f_check_row) (D_starts_for : DFn P w K mg base (Γ0 ca) 1 "starts_for" 2 f_starts_for)
    (hm : mg "least_high" = some (.ref f)) (F : L2.Fun K "least_high" "least_high" (top 19) f fd) (hb : Binds K fd ["weights", "k"] []) : DFn P w K mg base (Γ0 ca) 3 "least_high" 2 f_least_high :=
  dfn_mk (N := ["weights", "k", "low", "high", "middle"]) (fb := b_least_high) hm F hb sc_least_high fun cdv A outer s H E hr => by
    have tk := takes_cx (P := P) (w := w) (K := K) (mg := mg) (base := base) (N := ["weights", "k", "low", "high", "middle"]) (qual := "least_high") (scope := L2.defScope (top 19)) (f := f) (cd := cdv) (A := A) (outer := outer) (s := s) (H := H) (E := E)
    have hp := passes_cx (P := P) (w := w) (K := K) (mg := mg) (base := base) (N := ["weights", "k", "low", "high", "middle"]) (qual := "least_high") (scope := L2.defScope (top 19)) (f := f) (cd := cdv) (A := A) (outer := outer) (s := s) (H := H) (E := E)
    have hN := sc_least_high.nd
    exact (dss_cons (ds_expr (de_call D_check_row (hr.mono (by decide)) tk (da_cons (de_nm 0) (da_cons (de_nm 1) da_nil))))
    (dss_cons (ds_par 2 3 rfl hN (da_cons (de_callB (cr_maxW rfl hr.units) ok_maxW T.b_max (by rfl) (da_cons (de_nm 0) da_nil)) (da_cons (de_callB (cr_sumX rfl) ok_sumW T.b_sum (by rfl) (da_cons (de_nm 0) da_nil)) da_nil)))
    (dss_cons (ds_while 4000 hp (dt_lt hr.units0 (de_nm 2) (de_nm 3)) (dss_cons (ds_asg 4 hN (de_div (de_add (de_nm 2) (de_nm 3)) de_int))
    (dss_cons (ds_if (dt_le  (de_callB cr_lenW ok_lenW T.b_len (by rfl) (da_cons (de_call D_starts_for (hr.mono (by decide)) tk (da_cons (de_nm 0) (da_cons (de_nm 4) da_nil))) da_nil)) (de_nm 1)) (dss_cons (ds_asg 3 hN (de_nm 4))
    dss_nil) (dss_cons (ds_asg 2 hN (de_add (de_nm 4) de_int))
    dss_nil))
    (dss_k [4] dss_nil))))
    (dss_one (ds_ret (de_nm 2))))))
/-! ### greatest_low -/
theorem sc_greatest_low : FnScope ["weights", "k", "low", "high", "middle"] ["weights", "k"] (L2.defScope (top 20)) := ⟨rfl, rfl, rfl, by decide +kernel, rfl, by decide +kernel, by decide +kernel⟩
theorem ok_greatest_low {P : Program} {w : World} {K : PySem.W.Frag} {mg : Str → Option Value} {base : Heap} {ca : Nat → Addr} {tok : Nat → Tok} {f : Addr} {fd : FuncData} (T : Txt K mg ca tok) (D_check_row : DFn P w K mg base (Γ0 ca) 2 "check_row" 2 f_check_row) (D_low_places : DFn P w K mg base (Γ0 ca) 1 "low_places" 2 f_low_places)
    (hm : mg "greatest_low" = some (.ref f)) (F : L2.Fun K "greatest_low" "greatest_low" (top 20) f fd) (hb : Binds K fd ["weights", "k"] []) : DFn P w K mg base (Γ0 ca) 3 "greatest_low" 2 f_greatest_low :=
  dfn_mk (N := ["weights", "k", "low", "high", "middle"]) (fb := b_greatest_low) hm F hb sc_greatest_low fun cdv A outer s H E hr => by
    have tk := takes_cx (P := P) (w := w) (K := K) (mg := mg) (base := base) (N := ["weights", "k", "low", "high", "middle"]) (qual := "greatest_low") (scope := L2.defScope (top 20)) (f := f) (cd := cdv) (A := A) (outer := outer) (s := s) (H := H) (E := E)
    have hp := passes_cx (P := P) (w := w) (K := K) (mg := mg) (base := base) (N := ["weights", "k", "low", "high", "middle"]) (qual := "greatest_low") (scope := L2.defScope (top 20)) (f := f) (cd := cdv) (A := A) (outer := outer) (s := s) (H := H) (E := E)
    have hN := sc_greatest_low.nd
    exact (dss_cons (ds_expr (de_call D_check_row (hr.mono (by decide)) tk (da_cons (de_nm 0) (da_cons (de_nm 1) da_nil))))
    (dss_cons (ds_par 2 3 rfl hN (da_cons de_int (da_cons (de_callB (cr_sumX rfl) ok_sumW T.b_sum (by rfl) (da_cons (de_nm 0) da_nil)) da_nil)))
    (dss_cons (ds_while 4000 hp (dt_lt hr.units0 (de_nm 2) (de_nm 3)) (dss_cons (ds_asg 4 hN (de_div (de_add (de_add (de_nm 2) (de_nm 3)) de_int) de_int))
    (dss_cons (ds_if (dt_ge  (de_callB cr_lenW ok_lenW T.b_len (by rfl) (da_cons (de_call D_low_places (hr.mono (by decide)) tk (da_cons (de_nm 0) (da_cons (de_nm 4) da_nil))) da_nil)) (de_nm 1)) (dss_cons (ds_asg 2 hN (de_nm 4))
    dss_nil) (dss_cons (ds_asg 3 hN (de_sub (de_nm 4) de_int))
    dss_nil))
    (dss_k [4] dss_nil))))
    (dss_one (ds_ret (de_nm 2))))))
/-! ### turned -/
theorem sc_turned : FnScope ["weights", "place"] ["weights", "place"] (L2.defScope (top 21)) := ⟨rfl, rfl, rfl, by decide +kernel, rfl, by decide +kernel, by decide +kernel⟩
theorem ok_turned {P : Program} {w : World} {K : PySem.W.Frag} {mg : Str → Option Value} {base : Heap} {ca : Nat → Addr} {tok : Nat → Tok} {f : Addr} {fd : FuncData} (T : Txt K mg ca tok) 
    (hm : mg "turned" = some (.ref f)) (F : L2.Fun K "turned" "turned" (top 21) f fd) (hb : Binds K fd ["weights", "place"] []) : DFn P w K mg base (Γ0 ca) 1 "turned" 2 f_turned :=
  dfn_mk (N := ["weights", "place"]) (fb := b_turned) hm F hb sc_turned fun cdv A outer s H E hr => by
    have tk := takes_cx (P := P) (w := w) (K := K) (mg := mg) (base := base) (N := ["weights", "place"]) (qual := "turned") (scope := L2.defScope (top 21)) (f := f) (cd := cdv) (A := A) (outer := outer) (s := s) (H := H) (E := E)
    have hp := passes_cx (P := P) (w := w) (K := K) (mg := mg) (base := base) (N := ["weights", "place"]) (qual := "turned") (scope := L2.defScope (top 21)) (f := f) (cd := cdv) (A := A) (outer := outer) (s := s) (H := H) (E := E)
    have hN := sc_turned.nd
    exact (dss_one (ds_ret (de_tup (da_star (de_sl (de_nm 0) (dpo_at (de_nm 1)) dpo_no) (da_star (de_sl (de_nm 0) dpo_no (dpo_at (de_nm 1))) da_nil)))))
/-! ### ring_holds_high -/
theorem sc_ring_holds_high : FnScope ["weights", "k", "high", "starts", "place"] ["weights", "k", "high"] (L2.defScope (top 22)) := ⟨rfl, rfl, rfl, by decide +kernel, rfl, by decide +kernel, by decide +kernel⟩
theorem ok_ring_holds_high {P : Program} {w : World} {K : PySem.W.Frag} {mg : Str → Option Value} {base : Heap} {ca : Nat → Addr} {tok : Nat → Tok} {f : Addr} {fd : FuncData} (T : Txt K mg ca tok) (D_starts_for : DFn P w K mg base (Γ0 ca) 1 "starts_for" 2 f_starts_for) (D_turned : DFn P w K mg base (Γ0 ca) 1 "turned" 2 f_turned)
    (hm : mg "ring_holds_high" = some (.ref f)) (F : L2.Fun K "ring_holds_high" "ring_holds_high" (top 22) f fd) (hb : Binds K fd ["weights", "k", "high"] []) : DFn P w K mg base (Γ0 ca) 2 "ring_holds_high" 3 f_ring_holds_high :=
  dfn_mk (N := ["weights", "k", "high", "starts", "place"]) (fb := b_ring_holds_high) hm F hb sc_ring_holds_high fun cdv A outer s H E hr => by
    have tk := takes_cx (P := P) (w := w) (K := K) (mg := mg) (base := base) (N := ["weights", "k", "high", "starts", "place"]) (qual := "ring_holds_high") (scope := L2.defScope (top 22)) (f := f) (cd := cdv) (A := A) (outer := outer) (s := s) (H := H) (E := E)
    have hp := passes_cx (P := P) (w := w) (K := K) (mg := mg) (base := base) (N := ["weights", "k", "high", "starts", "place"]) (qual := "ring_holds_high") (scope := L2.defScope (top 22)) (f := f) (cd := cdv) (A := A) (outer := outer) (s := s) (H := H) (E := E)
    have hN := sc_ring_holds_high.nd
    exact (dss_cons (ds_asg 3 hN (de_call D_starts_for (hr.mono (by decide)) tk (da_cons (de_nm 0) (da_cons (de_nm 2) da_nil))))
    (dss_cons (ds_if (dt_eq (Room.u65 hr) (de_callB cr_lenW ok_lenW T.b_len (by rfl) (da_cons (de_nm 3) da_nil)) de_int) (dss_one (ds_ret de_bl)) dss_nil)
    (dss_one (ds_ret (de_callB (call_anyX rfl) ok_anyW T.b_any (by rfl) (da_cons (de_lc [("place", 4)] rfl hN (di_rng2 T.b_range de_int (de_add (de_ix (de_nm 3) de_int) de_int)) (blk_ok (by kernel_rfl)) (fun _ _ _ _ _ => (dg_name 4 hN)) (fun _ _ _ _ _ => dts_nil) (fun _ _ _ _ _ => (de_le  (de_callB cr_lenW ok_lenW T.b_len (by rfl) (da_cons (de_call D_starts_for (hr.mono (by decide)) takes0 (da_cons (de_call D_turned (hr.mono (by decide)) takes0 (da_cons (de_nm 0) (da_cons (de_nm 4) da_nil))) (da_cons (de_nm 2) da_nil))) da_nil)) (de_nm 1)))) da_nil))))))
/-! ### ring_least_high -/
theorem sc_ring_least_high : FnScope ["weights", "k", "low", "high", "middle"] ["weights", "k"] (L2.defScope (top 23)) := ⟨rfl, rfl, rfl, by decide +kernel, rfl, by decide +kernel, by decide +kernel⟩
theorem ok_ring_least_high {P : Program} {w : World} {K : PySem.W.Frag} {mg : Str → Option Value} {base : Heap} {ca : Nat → Addr} {tok : Nat → Tok} {f : Addr} {fd : FuncData} (T : Txt K mg ca tok) (D_check_ring : DFn P w K mg base (Γ0 ca) 2 "check_ring" 2 f_check_ring) (D_ring_holds_high : DFn P w K mg base (Γ0 ca) 2 "ring_holds_high" 3 f_ring_holds_high)
    (hm : mg "ring_least_high" = some (.ref f)) (F : L2.Fun K "ring_least_high" "ring_least_high" (top 23) f fd) (hb : Binds K fd ["weights", "k"] []) : DFn P w K mg base (Γ0 ca) 3 "ring_least_high" 2 f_ring_least_high :=
  dfn_mk (N := ["weights", "k", "low", "high", "middle"]) (fb := b_ring_least_high) hm F hb sc_ring_least_high fun cdv A outer s H E hr => by
    have tk := takes_cx (P := P) (w := w) (K := K) (mg := mg) (base := base) (N := ["weights", "k", "low", "high", "middle"]) (qual := "ring_least_high") (scope := L2.defScope (top 23)) (f := f) (cd := cdv) (A := A) (outer := outer) (s := s) (H := H) (E := E)
    have hp := passes_cx (P := P) (w := w) (K := K) (mg := mg) (base := base) (N := ["weights", "k", "low", "high", "middle"]) (qual := "ring_least_high") (scope := L2.defScope (top 23)) (f := f) (cd := cdv) (A := A) (outer := outer) (s := s) (H := H) (E := E)
    have hN := sc_ring_least_high.nd
    exact (dss_cons (ds_expr (de_call D_check_ring (hr.mono (by decide)) tk (da_cons (de_nm 0) (da_cons (de_nm 1) da_nil))))
    (dss_cons (ds_par 2 3 rfl hN (da_cons (de_callB (cr_maxW rfl hr.units) ok_maxW T.b_max (by rfl) (da_cons (de_nm 0) da_nil)) (da_cons (de_callB (cr_sumX rfl) ok_sumW T.b_sum (by rfl) (da_cons (de_nm 0) da_nil)) da_nil)))
    (dss_cons (ds_if (dt_eq (Room.u65 hr) (de_nm 1) de_int) (dss_one (ds_ret (de_nm 3))) dss_nil)
    (dss_cons (ds_while 4000 hp (dt_lt hr.units0 (de_nm 2) (de_nm 3)) (dss_cons (ds_asg 4 hN (de_div (de_add (de_nm 2) (de_nm 3)) de_int))
    (dss_cons (ds_if (dt_truth (de_call D_ring_holds_high (hr.mono (by decide)) tk (da_cons (de_nm 0) (da_cons (de_nm 1) (da_cons (de_nm 4) da_nil))))) (dss_cons (ds_asg 3 hN (de_nm 4))
    dss_nil) (dss_cons (ds_asg 2 hN (de_add (de_nm 4) de_int))
    dss_nil))
    (dss_k [4] dss_nil))))
    (dss_one (ds_ret (de_nm 2)))))))
/-! ### ring_holds_low -/
theorem sc_ring_holds_low : FnScope ["weights", "k", "low", "ends", "places", "place"] ["weights", "k", "low"] (L2.defScope (top 24)) := ⟨rfl, rfl, rfl, by decide +kernel, rfl, by decide +kernel, by decide +kernel⟩
theorem ok_ring_holds_low {P : Program} {w : World} {K : PySem.W.Frag} {mg : Str → Option Value} {base : Heap} {ca : Nat → Addr} {tok : Nat → Tok} {f : Addr} {fd : FuncData} (T : Txt K mg ca tok) (D_low_places : DFn P w K mg base (Γ0 ca) 1 "low_places" 2 f_low_places) (D_turned : DFn P w K mg base (Γ0 ca) 1 "turned" 2 f_turned)
    (hm : mg "ring_holds_low" = some (.ref f)) (F : L2.Fun K "ring_holds_low" "ring_holds_low" (top 24) f fd) (hb : Binds K fd ["weights", "k", "low"] []) : DFn P w K mg base (Γ0 ca) 2 "ring_holds_low" 3 f_ring_holds_low :=
  dfn_mk (N := ["weights", "k", "low", "ends", "places", "place"]) (fb := b_ring_holds_low) hm F hb sc_ring_holds_low fun cdv A outer s H E hr => by
    have tk := takes_cx (P := P) (w := w) (K := K) (mg := mg) (base := base) (N := ["weights", "k", "low", "ends", "places", "place"]) (qual := "ring_holds_low") (scope := L2.defScope (top 24)) (f := f) (cd := cdv) (A := A) (outer := outer) (s := s) (H := H) (E := E)
    have hp := passes_cx (P := P) (w := w) (K := K) (mg := mg) (base := base) (N := ["weights", "k", "low", "ends", "places", "place"]) (qual := "ring_holds_low") (scope := L2.defScope (top 24)) (f := f) (cd := cdv) (A := A) (outer := outer) (s := s) (H := H) (E := E)
    have hN := sc_ring_holds_low.nd
    exact (dss_cons (ds_asg 3 hN (de_call D_low_places (hr.mono (by decide)) tk (da_cons (de_nm 0) (da_cons (de_nm 2) da_nil))))
    (dss_cons (ds_if (dt_not (dt_truth (de_nm 3))) (dss_one (ds_ret de_bl)) dss_nil)
    (dss_cons (ds_setLc 4 [("place", 5)] rfl hN (di_rng2 T.b_range de_int (de_add (de_ix (de_nm 3) de_int) de_int)) (blk_ok (by kernel_rfl)) (fun _ _ _ _ _ => (dg_name 5 hN)) (fun _ _ _ _ _ => dts_nil) (fun _ _ _ _ _ => (de_mod (de_nm 5) (de_callB cr_lenW ok_lenW T.b_len (by rfl) (da_cons (de_nm 0) da_nil)))))
    (dss_one (ds_ret (de_callB (call_anyX rfl) ok_anyW T.b_any (by rfl) (da_cons (de_lc [("place", 5)] rfl hN (di_seq (de_nm 4)) (blk_ok (by kernel_rfl)) (fun _ _ _ _ _ => (dg_name 5 hN)) (fun _ _ _ _ _ => dts_nil) (fun _ _ _ _ _ => (de_ge  (de_callB cr_lenW ok_lenW T.b_len (by rfl) (da_cons (de_call D_low_places (hr.mono (by decide)) takes0 (da_cons (de_call D_turned (hr.mono (by decide)) takes0 (da_cons (de_nm 0) (da_cons (de_nm 5) da_nil))) (da_cons (de_nm 2) da_nil))) da_nil)) (de_nm 1)))) da_nil)))))))
/-! ### ring_greatest_low -/
theorem sc_ring_greatest_low : FnScope ["weights", "k", "low", "high", "middle"] ["weights", "k"] (L2.defScope (top 25)) := ⟨rfl, rfl, rfl, by decide +kernel, rfl, by decide +kernel, by decide +kernel⟩
theorem ok_ring_greatest_low {P : Program} {w : World} {K : PySem.W.Frag} {mg : Str → Option Value} {base : Heap} {ca : Nat → Addr} {tok : Nat → Tok} {f : Addr} {fd : FuncData} (T : Txt K mg ca tok) (D_check_ring : DFn P w K mg base (Γ0 ca) 2 "check_ring" 2 f_check_ring) (D_ring_holds_low : DFn P w K mg base (Γ0 ca) 2 "ring_holds_low" 3 f_ring_holds_low)
    (hm : mg "ring_greatest_low" = some (.ref f)) (F : L2.Fun K "ring_greatest_low" "ring_greatest_low" (top 25) f fd) (hb : Binds K fd ["weights", "k"] []) : DFn P w K mg base (Γ0 ca) 3 "ring_greatest_low" 2 f_ring_greatest_low :=
  dfn_mk (N := ["weights", "k", "low", "high", "middle"]) (fb := b_ring_greatest_low) hm F hb sc_ring_greatest_low fun cdv A outer s H E hr => by
    have tk := takes_cx (P := P) (w := w) (K := K) (mg := mg) (base := base) (N := ["weights", "k", "low", "high", "middle"]) (qual := "ring_greatest_low") (scope := L2.defScope (top 25)) (f := f) (cd := cdv) (A := A) (outer := outer) (s := s) (H := H) (E := E)
    have hp := passes_cx (P := P) (w := w) (K := K) (mg := mg) (base := base) (N := ["weights", "k", "low", "high", "middle"]) (qual := "ring_greatest_low") (scope := L2.defScope (top 25)) (f := f) (cd := cdv) (A := A) (outer := outer) (s := s) (H := H) (E := E)
    have hN := sc_ring_greatest_low.nd
    exact (dss_cons (ds_expr (de_call D_check_ring (hr.mono (by decide)) tk (da_cons (de_nm 0) (da_cons (de_nm 1) da_nil))))
    (dss_cons (ds_par 2 3 rfl hN (da_cons de_int (da_cons (de_callB (cr_sumX rfl) ok_sumW T.b_sum (by rfl) (da_cons (de_nm 0) da_nil)) da_nil)))
    (dss_cons (ds_if (dt_eq (Room.u65 hr) (de_nm 1) de_int) (dss_one (ds_ret (de_nm 3))) dss_nil)
    (dss_cons (ds_while 4000 hp (dt_lt hr.units0 (de_nm 2) (de_nm 3)) (dss_cons (ds_asg 4 hN (de_div (de_add (de_add (de_nm 2) (de_nm 3)) de_int) de_int))
    (dss_cons (ds_if (dt_truth (de_call D_ring_holds_low (hr.mono (by decide)) tk (da_cons (de_nm 0) (da_cons (de_nm 1) (da_cons (de_nm 4) da_nil))))) (dss_cons (ds_asg 2 hN (de_nm 4))
    dss_nil) (dss_cons (ds_asg 3 hN (de_sub (de_nm 4) de_int))
    dss_nil))
    (dss_k [4] dss_nil))))
    (dss_one (ds_ret (de_nm 2)))))))
/-! ### _law_number -/
theorem sc__law_number : FnScope ["cell"] ["cell"] (L2.defScope (top 27)) := ⟨rfl, rfl, rfl, by decide +kernel, rfl, by decide +kernel, by decide +kernel⟩
theorem ok__law_number {P : Program} {w : World} {K : PySem.W.Frag} {mg : Str → Option Value} {base : Heap} {ca : Nat → Addr} {tok : Nat → Tok} {f : Addr} {fd : FuncData} (T : Txt K mg ca tok) 
    (hm : mg "_law_number" = some (.ref f)) (F : L2.Fun K "_law_number" "_law_number" (top 27) f fd) (hb : Binds K fd ["cell"] []) : DFn P w K mg base (Γ0 ca) 1 "_law_number" 1 f__law_number :=
  dfn_mk (N := ["cell"]) (fb := b__law_number) hm F hb sc__law_number fun cdv A outer s H E hr => by
    have tk := takes_cx (P := P) (w := w) (K := K) (mg := mg) (base := base) (N := ["cell"]) (qual := "_law_number") (scope := L2.defScope (top 27)) (f := f) (cd := cdv) (A := A) (outer := outer) (s := s) (H := H) (E := E)
    have hp := passes_cx (P := P) (w := w) (K := K) (mg := mg) (base := base) (N := ["cell"]) (qual := "_law_number") (scope := L2.defScope (top 27)) (f := f) (cd := cdv) (A := A) (outer := outer) (s := s) (H := H) (E := E)
    have hN := sc__law_number.nd
    exact (dss_cons (ds_if (dt_lt hr.units0 (de_nm 0) de_int) (dss_one (ds_ret (de_sub de_int (de_nm 0)))) dss_nil)
    (dss_one (ds_ret (de_nm 0))))
/-! ### _law_draws -/
theorem sc__law_draws : FnScope ["script", "draws", "cell", "rest", "k", "once", "twice"] ["script"] (L2.defScope (top 28)) := ⟨rfl, rfl, rfl, by decide +kernel, rfl, by decide +kernel, by decide +kernel⟩
theorem ok__law_draws {P : Program} {w : World} {K : PySem.W.Frag} {mg : Str → Option Value} {base : Heap} {ca : Nat → Addr} {tok : Nat → Tok} {f : Addr} {fd : FuncData} (T : Txt K mg ca tok) (D__law_number : DFn P w K mg base (Γ0 ca) 1 "_law_number" 1 f__law_number)
    (hm : mg "_law_draws" = some (.ref f)) (F : L2.Fun K "_law_draws" "_law_draws" (top 28) f fd) (hb : Binds K fd ["script"] []) : DFn P w K mg base (Γ0 ca) 2 "_law_draws" 1 f__law_draws :=
  dfn_mk (N := ["script", "draws", "cell", "rest", "k", "once", "twice"]) (fb := b__law_draws) hm F hb sc__law_draws fun cdv A outer s H E hr => by
    have tk := takes_cx (P := P) (w := w) (K := K) (mg := mg) (base := base) (N := ["script", "draws", "cell", "rest", "k", "once", "twice"]) (qual := "_law_draws") (scope := L2.defScope (top 28)) (f := f) (cd := cdv) (A := A) (outer := outer) (s := s) (H := H) (E := E)
    have hp := passes_cx (P := P) (w := w) (K := K) (mg := mg) (base := base) (N := ["script", "draws", "cell", "rest", "k", "once", "twice"]) (qual := "_law_draws") (scope := L2.defScope (top 28)) (f := f) (cd := cdv) (A := A) (outer := outer) (s := s) (H := H) (E := E)
    have hN := sc__law_draws.nd
    exact (dss_cons (ds_asg 1 hN (de_lst da_nil))
    (dss_cons (ds_for hp rfl (di_seq (de_nm 0)) (dg_name 2 hN) (dss_cons (ds_asg 3 hN (de_call D__law_number (hr.mono (by decide)) tk (da_cons (de_nm 2) da_nil)))
    (dss_cons (ds_if (dt_ge  (de_nm 3) de_int) (dss_cons (ds_for hp rfl (di_rng1 T.b_range de_int) (dg_name 4 hN) (dss_cons (ds_if (dt_eq (Room.u65 hr) (de_nm 3) de_int) (dss_k [4] (dss_one ds_break)) dss_nil)
    (dss_cons (ds_expr (de_mth 1 PySem.F.plainAttrs_list PySem.F.slot_list_append PySem.F.type_list_append mt_append ty_list ok_append (da_cons (de_mod (de_callT call_int1 ok_intW T.b_int (by rfl) (da_cons (de_nm 3) da_nil)) de_int) da_nil)))
    (dss_cons (ds_asg 3 hN (de_div (de_nm 3) de_int))
    (dss_k [4] dss_nil)))))
    (dss_k [3] dss_nil)) (dss_cons (ds_asg 5 hN (de_mod (de_callT call_int1 ok_intW T.b_int (by rfl) (da_cons (de_add (de_mul (de_nm 3) de_int) de_int) da_nil)) de_int))
    (dss_cons (ds_asg 6 hN (de_mod (de_callT call_int1 ok_intW T.b_int (by rfl) (da_cons (de_add (de_mul (de_nm 5) de_int) (de_nm 3)) da_nil)) de_int))
    (dss_cons (ds_expr (de_mth 1 PySem.F.plainAttrs_list PySem.F.slot_list_extend PySem.F.type_list_extend mt_extend ty_list ok_extend (da_cons (de_lst (da_cons (de_mod (de_callT call_int1 ok_intW T.b_int (by rfl) (da_cons (de_nm 3) da_nil)) de_int) (da_cons (de_mod (de_callT call_int1 ok_intW T.b_int (by rfl) (da_cons (de_nm 5) da_nil)) de_int) (da_cons (de_mod (de_callT call_int1 ok_intW T.b_int (by rfl) (da_cons (de_nm 6) da_nil)) de_int) da_nil)))) da_nil)))
    (dss_k [3] (dss_k [5] (dss_k [6] dss_nil)))))))
    (dss_k [2] dss_nil))))
    (dss_cons (ds_expr (de_mth0 1 PySem.F.plainAttrs_list PySem.F.slot_list_reverse PySem.F.type_list_reverse mt_reverse ty_list ok_reverse))
    (dss_one (ds_ret (de_nm 1))))))
/-! ### _law_flat -/
theorem sc__law_flat : FnScope ["rows", "found", "row"] ["rows"] (L2.defScope (top 29)) := ⟨rfl, rfl, rfl, by decide +kernel, rfl, by decide +kernel, by decide +kernel⟩
theorem ok__law_flat {P : Program} {w : World} {K : PySem.W.Frag} {mg : Str → Option Value} {base : Heap} {ca : Nat → Addr} {tok : Nat → Tok} {f : Addr} {fd : FuncData} (T : Txt K mg ca tok) 
    (hm : mg "_law_flat" = some (.ref f)) (F : L2.Fun K "_law_flat" "_law_flat" (top 29) f fd) (hb : Binds K fd ["rows"] []) : DFn P w K mg base (Γ0 ca) 1 "_law_flat" 1 f__law_flat :=
  dfn_mk (N := ["rows", "found", "row"]) (fb := b__law_flat) hm F hb sc__law_flat fun cdv A outer s H E hr => by
    have tk := takes_cx (P := P) (w := w) (K := K) (mg := mg) (base := base) (N := ["rows", "found", "row"]) (qual := "_law_flat") (scope := L2.defScope (top 29)) (f := f) (cd := cdv) (A := A) (outer := outer) (s := s) (H := H) (E := E)
    have hp := passes_cx (P := P) (w := w) (K := K) (mg := mg) (base := base) (N := ["rows", "found", "row"]) (qual := "_law_flat") (scope := L2.defScope (top 29)) (f := f) (cd := cdv) (A := A) (outer := outer) (s := s) (H := H) (E := E)
    have hN := sc__law_flat.nd
    exact (dss_cons (ds_asg 1 hN (de_lst da_nil))
    (dss_cons (ds_for hp rfl (di_seq (de_nm 0)) (dg_name 2 hN) (dss_cons (ds_expr (de_mth 1 PySem.F.plainAttrs_list PySem.F.slot_list_extend PySem.F.type_list_extend mt_extend ty_list ok_extend (da_cons (de_nm 2) da_nil)))
    (dss_k [2] dss_nil)))
    (dss_one (ds_ret (de_nm 1)))))
/-! ### _law_next -/
theorem sc__law_next : FnScope ["draws"] ["draws"] (L2.defScope (top 30)) := ⟨rfl, rfl, rfl, by decide +kernel, rfl, by decide +kernel, by decide +kernel⟩
theorem ok__law_next {P : Program} {w : World} {K : PySem.W.Frag} {mg : Str → Option Value} {base : Heap} {ca : Nat → Addr} {tok : Nat → Tok} {f : Addr} {fd : FuncData} (T : Txt K mg ca tok) 
    (hm : mg "_law_next" = some (.ref f)) (F : L2.Fun K "_law_next" "_law_next" (top 30) f fd) (hb : Binds K fd ["draws"] []) : DFn P w K mg base (Γ0 ca) 1 "_law_next" 1 f__law_next :=
  dfn_mk (N := ["draws"]) (fb := b__law_next) hm F hb sc__law_next fun cdv A outer s H E hr => by
    have tk := takes_cx (P := P) (w := w) (K := K) (mg := mg) (base := base) (N := ["draws"]) (qual := "_law_next") (scope := L2.defScope (top 30)) (f := f) (cd := cdv) (A := A) (outer := outer) (s := s) (H := H) (E := E)
    have hp := passes_cx (P := P) (w := w) (K := K) (mg := mg) (base := base) (N := ["draws"]) (qual := "_law_next") (scope := L2.defScope (top 30)) (f := f) (cd := cdv) (A := A) (outer := outer) (s := s) (H := H) (E := E)
    have hN := sc__law_next.nd
    exact (dss_cons (ds_if (dt_truth (de_nm 0)) (dss_one (ds_ret (de_mth0 0 PySem.F.plainAttrs_list PySem.F.slot_list_pop PySem.F.type_list_pop mt_pop ty_list ok_pop))) dss_nil)
    (dss_one (ds_ret de_int)))
/-! ### _law_more -/
theorem sc__law_more : FnScope ["draws", "many", "seed", "more", "k"] ["draws", "many"] (L2.defScope (top 31)) := ⟨rfl, rfl, rfl, by decide +kernel, rfl, by decide +kernel, by decide +kernel⟩
theorem ok__law_more {P : Program} {w : World} {K : PySem.W.Frag} {mg : Str → Option Value} {base : Heap} {ca : Nat → Addr} {tok : Nat → Tok} {f : Addr} {fd : FuncData} (T : Txt K mg ca tok) (D__law_next : DFn P w K mg base (Γ0 ca) 1 "_law_next" 1 f__law_next)
    (hm : mg "_law_more" = some (.ref f)) (F : L2.Fun K "_law_more" "_law_more" (top 31) f fd) (hb : Binds K fd ["draws", "many"] []) : DFn P w K mg base (Γ0 ca) 2 "_law_more" 2 f__law_more :=
  dfn_mk (N := ["draws", "many", "seed", "more", "k"]) (fb := b__law_more) hm F hb sc__law_more fun cdv A outer s H E hr => by
    have tk := takes_cx (P := P) (w := w) (K := K) (mg := mg) (base := base) (N := ["draws", "many", "seed", "more", "k"]) (qual := "_law_more") (scope := L2.defScope (top 31)) (f := f) (cd := cdv) (A := A) (outer := outer) (s := s) (H := H) (E := E)
    have hp := passes_cx (P := P) (w := w) (K := K) (mg := mg) (base := base) (N := ["draws", "many", "seed", "more", "k"]) (qual := "_law_more") (scope := L2.defScope (top 31)) (f := f) (cd := cdv) (A := A) (outer := outer) (s := s) (H := H) (E := E)
    have hN := sc__law_more.nd
    exact (dss_cons (ds_asg 2 hN (de_add (de_add (de_mul de_int (de_call D__law_next (hr.mono (by decide)) tk (da_cons (de_nm 0) da_nil))) (de_call D__law_next (hr.mono (by decide)) tk (da_cons (de_nm 0) da_nil))) de_int))
    (dss_cons (ds_asg 3 hN (de_lst da_nil))
    (dss_cons (ds_for hp rfl (di_rng1 T.b_range (de_nm 1)) (dg_name 4 hN) (dss_cons (ds_asg 2 hN (de_mod (de_callT call_int1 ok_intW T.b_int (by rfl) (da_cons (de_add (de_mul (de_nm 2) de_int) de_int) da_nil)) de_int))
    (dss_cons (ds_expr (de_mth 3 PySem.F.plainAttrs_list PySem.F.slot_list_append PySem.F.type_list_append mt_append ty_list ok_append (da_cons (de_mod (de_callT call_int1 ok_intW T.b_int (by rfl) (da_cons (de_div (de_nm 2) de_int) da_nil)) de_int) da_nil)))
    (dss_k [4] dss_nil))))
    (dss_one (ds_ret (de_add (de_nm 3) (de_nm 0)))))))
/-! ### _law_pick -/
theorem sc__law_pick : FnScope ["draws", "some"] ["draws", "some"] (L2.defScope (top 32)) := ⟨rfl, rfl, rfl, by decide +kernel, rfl, by decide +kernel, by decide +kernel⟩
theorem ok__law_pick {P : Program} {w : World} {K : PySem.W.Frag} {mg : Str → Option Value} {base : Heap} {ca : Nat → Addr} {tok : Nat → Tok} {f : Addr} {fd : FuncData} (T : Txt K mg ca tok) (D__law_next : DFn P w K mg base (Γ0 ca) 1 "_law_next" 1 f__law_next)
    (hm : mg "_law_pick" = some (.ref f)) (F : L2.Fun K "_law_pick" "_law_pick" (top 32) f fd) (hb : Binds K fd ["draws", "some"] []) : DFn P w K mg base (Γ0 ca) 2 "_law_pick" 2 f__law_pick :=
  dfn_mk (N := ["draws", "some"]) (fb := b__law_pick) hm F hb sc__law_pick fun cdv A outer s H E hr => by
    have tk := takes_cx (P := P) (w := w) (K := K) (mg := mg) (base := base) (N := ["draws", "some"]) (qual := "_law_pick") (scope := L2.defScope (top 32)) (f := f) (cd := cdv) (A := A) (outer := outer) (s := s) (H := H) (E := E)
    have hp := passes_cx (P := P) (w := w) (K := K) (mg := mg) (base := base) (N := ["draws", "some"]) (qual := "_law_pick") (scope := L2.defScope (top 32)) (f := f) (cd := cdv) (A := A) (outer := outer) (s := s) (H := H) (E := E)
    have hN := sc__law_pick.nd
    exact (dss_one (ds_ret (de_ix (de_nm 1) (de_mod (de_callT call_int1 ok_intW T.b_int (by rfl) (da_cons (de_call D__law_next (hr.mono (by decide)) tk (da_cons (de_nm 0) da_nil)) da_nil)) (de_callB cr_lenW ok_lenW T.b_len (by rfl) (da_cons (de_nm 1) da_nil))))))
/-! ### _law_kind -/
def b__law_kind (a : Addr) (c : Nat) : M SO := (sq (asg 1 (bnd (acons (cst (.str "map")) (acons (cst (.str "plan")) (acons (cst (.str "table")) (acons (cst (.str "paper")) (acons (cst (.str "number")) (acons (cst (.str "none")) (acons (cst (.str "large")) anil))))))) mkLst))
    (sq (asg 2 (bnd (acons (isE a 0 (decide (c = 0))) (acons (isE a 0 (decide (c = 1))) (acons (isE a 0 (decide (c = 2))) (acons (isE a 0 (decide (c = 3))) anil)))) mkLst))
    (sq (asg 2 (bin (nm 2) (bnd (acons (isE a 0 (decide (c = 4))) (acons (isE a 0 (decide (c = 5))) (acons (isE a 0 (decide (c = 6))) anil))) mkLst) addW))
    (sRt (iteM (tstB (bin (mthP isLst 2 (acons (cst (.bool true)) anil) oCount) (cst (.int 1)) (eqD false))) (bin (cst (.str "!")) (bin (nm 1) (mthP isLst 2 (acons (cst (.bool true)) anil) oIndex) ixW) addW) (cst (.str "!other")))))))
theorem sc__law_kind : FnScope ["error", "names", "found"] ["error"] (L2.defScope (top 33)) := ⟨rfl, rfl, rfl, by decide +kernel, rfl, by decide +kernel, by decide +kernel⟩
theorem kind_ev {a : Addr} {c : Nat} {t : Str} (h : kinds c = some t) : ∃ s', b__law_kind a c (.exn a :: List.replicate (["error", "names", "found"].length - 1) .un) = some (.ok (.rt (.val (.str t))) s') := by
  have hc := kinds_lt h
  have e1 : ∀ b : Bool, ∀ n f, isE a 0 b [.exn a, n, f] = some (.ok (.val (.bool b)) [.exn a, n, f]) := fun b n f => isE_at rfl
  have ne : ∀ b0 b1 b2 b3 : Bool, ∀ n f, bnd (acons (isE a 0 b0) (acons (isE a 0 b1) (acons (isE a 0 b2) (acons (isE a 0 b3) anil)))) mkLst [.exn a, n, f] = some (.ok (.new (.lst [.bool b0, .bool b1, .bool b2, .bool b3])) [.exn a, n, f]) := fun b0 b1 b2 b3 n f => by
    simp only [bnd, acons, e1]
    rfl
  have nf : ∀ b0 b1 b2 : Bool, ∀ n f, bnd (acons (isE a 0 b0) (acons (isE a 0 b1) (acons (isE a 0 b2) anil))) mkLst [.exn a, n, f] = some (.ok (.new (.lst [.bool b0, .bool b1, .bool b2])) [.exn a, n, f]) := fun b0 b1 b2 n f => by
    simp only [bnd, acons, e1]
    rfl
  have all : ∀ b0 b1 b2 b3 b4 b5 b6 : Bool, (decide (c = 0) = b0 ∧ decide (c = 1) = b1 ∧ decide (c = 2) = b2 ∧ decide (c = 3) = b3 ∧ decide (c = 4) = b4 ∧ decide (c = 5) = b5 ∧ decide (c = 6) = b6) → b__law_kind a c [.exn a, .un, .un] =
      sRt (iteM (tstB (bin (mthP isLst 2 (acons (cst (.bool true)) anil) oCount) (cst (.int 1)) (eqD false))) (bin (cst (.str "!")) (bin (nm 1) (mthP isLst 2 (acons (cst (.bool true)) anil) oIndex) ixW) addW) (cst (.str "!other")))
        [.exn a, .own false (.lst [.str "map", .str "plan", .str "table", .str "paper", .str "number", .str "none", .str "large"]), .own false (.lst [.bool b0, .bool b1, .bool b2, .bool b3, .bool b4, .bool b5, .bool b6])] := fun b0 b1 b2 b3 b4 b5 b6 ⟨h0, h1, h2, h3, h4, h5, h6⟩ => by
    unfold b__law_kind
    rw [h0, h1, h2, h3, h4, h5, h6]
    rw [sq_nx (s := [.exn a, .own false (.lst [.str "map", .str "plan", .str "table", .str "paper", .str "number", .str "none", .str "large"]), .un]) rfl]
    rw [sq_nx (asg_ok (ne _ _ _ _ _ _) rfl)]
    rw [sq_nx (asg_ok ((bin_ok rfl (nf _ _ _ _ _)).trans rfl) rfl)]
    rfl
  match c, hc, h with
  | 0, _, h => cases h; exact ⟨_, (all true false false false false false false ⟨rfl, rfl, rfl, rfl, rfl, rfl, rfl⟩).trans rfl⟩
  | 1, _, h => cases h; exact ⟨_, (all false true false false false false false ⟨rfl, rfl, rfl, rfl, rfl, rfl, rfl⟩).trans rfl⟩
  | 2, _, h => cases h; exact ⟨_, (all false false true false false false false ⟨rfl, rfl, rfl, rfl, rfl, rfl, rfl⟩).trans rfl⟩
  | 3, _, h => cases h; exact ⟨_, (all false false false true false false false ⟨rfl, rfl, rfl, rfl, rfl, rfl, rfl⟩).trans rfl⟩
  | 4, _, h => cases h; exact ⟨_, (all false false false false true false false ⟨rfl, rfl, rfl, rfl, rfl, rfl, rfl⟩).trans rfl⟩
  | 5, _, h => cases h; exact ⟨_, (all false false false false false true false ⟨rfl, rfl, rfl, rfl, rfl, rfl, rfl⟩).trans rfl⟩
  | 6, _, h => cases h; exact ⟨_, (all false false false false false false true ⟨rfl, rfl, rfl, rfl, rfl, rfl, rfl⟩).trans rfl⟩
theorem ok__law_kind {P : Program} {w : World} {K : PySem.W.Frag} {mg : Str → Option Value} {base : Heap} {ca : Nat → Addr} {tok : Nat → Tok} {f : Addr} {fd : FuncData} (T : Txt K mg ca tok)
    (hm : mg "_law_kind" = some (.ref f)) (F : L2.Fun K "_law_kind" "_law_kind" (top 33) f fd) (hb : Binds K fd ["error"] []) : KFn P w K mg base (Γ0 ca) 1 "_law_kind" kinds :=
  ⟨f, fd, hm, F.kp, hb, fun c t a oe ht hz hfl => by
    have hc := kinds_lt ht
    obtain ⟨s', ev⟩ := kind_ev (a := a) ht
    refine fnp_kind (Γ := Γ0 ca) F sc__law_kind ev fun cdv A l s H E hr => ?_
    have hN := sc__law_kind.nd
    exact (dss_cons (ds_asg 1 hN (de_lst (da_cons de_str (da_cons de_str (da_cons de_str (da_cons de_str (da_cons de_str (da_cons de_str (da_cons de_str da_nil)))))))))
    (dss_cons (ds_asg 2 hN (de_lst (da_cons (de_isE 0 (T.exc c hc) hz hfl List.mem_cons_self (T.kit c 0 hc (by decide)) T.x_NotMap.g T.b_isinstance (by rfl)) (da_cons (de_isE 0 (T.exc c hc) hz hfl List.mem_cons_self (T.kit c 1 hc (by decide)) T.x_NotPlan.g T.b_isinstance (by rfl)) (da_cons (de_isE 0 (T.exc c hc) hz hfl List.mem_cons_self (T.kit c 2 hc (by decide)) T.x_NotTable.g T.b_isinstance (by rfl)) (da_cons (de_isE 0 (T.exc c hc) hz hfl List.mem_cons_self (T.kit c 3 hc (by decide)) T.x_NotPaper.g T.b_isinstance (by rfl)) da_nil))))))
    (dss_cons (ds_asg 2 hN (de_add (de_nm 2) (de_lst (da_cons (de_isE 0 (T.exc c hc) hz hfl List.mem_cons_self (T.kit c 4 hc (by decide)) T.x_BadNumber.g T.b_isinstance (by rfl)) (da_cons (de_isE 0 (T.exc c hc) hz hfl List.mem_cons_self (T.kit c 5 hc (by decide)) T.x_NoAnswer.g T.b_isinstance (by rfl)) (da_cons (de_isE 0 (T.exc c hc) hz hfl List.mem_cons_self (T.kit c 6 hc (by decide)) T.x_TooLarge.g T.b_isinstance (by rfl)) da_nil))))))
    (dss_one (ds_ret (de_if (dt_eq (roomH_u65 hr) (de_mth 2 PySem.F.plainAttrs_list PySem.F.slot_list_count PySem.F.type_list_count (mt_countP (roomH_u65 hr)) ty_list ok_count (da_cons de_bl da_nil)) de_int) (de_add de_str (de_ix (de_nm 1) (de_mth 2 PySem.F.plainAttrs_list PySem.F.slot_list_index PySem.F.type_list_index (mt_indexD (roomH_u65 hr)) ty_list ok_index (da_cons de_bl da_nil)))) de_str))))))⟩
/-! ### _law_all_cuts -/
theorem sc__law_all_cuts : FnScope ["n", "k", "found", "turn", "longer", "cuts", "place"] ["n", "k"] (L2.defScope (top 34)) := ⟨rfl, rfl, rfl, by decide +kernel, rfl, by decide +kernel, by decide +kernel⟩
theorem ok__law_all_cuts {P : Program} {w : World} {K : PySem.W.Frag} {mg : Str → Option Value} {base : Heap} {ca : Nat → Addr} {tok : Nat → Tok} {f : Addr} {fd : FuncData} (T : Txt K mg ca tok) 
    (hm : mg "_law_all_cuts" = some (.ref f)) (F : L2.Fun K "_law_all_cuts" "_law_all_cuts" (top 34) f fd) (hb : Binds K fd ["n", "k"] []) : DFn P w K mg base (Γ0 ca) 1 "_law_all_cuts" 2 f__law_all_cuts :=
  dfn_mk (N := ["n", "k", "found", "turn", "longer", "cuts", "place"]) (fb := b__law_all_cuts) hm F hb sc__law_all_cuts fun cdv A outer s H E hr => by
    have tk := takes_cx (P := P) (w := w) (K := K) (mg := mg) (base := base) (N := ["n", "k", "found", "turn", "longer", "cuts", "place"]) (qual := "_law_all_cuts") (scope := L2.defScope (top 34)) (f := f) (cd := cdv) (A := A) (outer := outer) (s := s) (H := H) (E := E)
    have hp := passes_cx (P := P) (w := w) (K := K) (mg := mg) (base := base) (N := ["n", "k", "found", "turn", "longer", "cuts", "place"]) (qual := "_law_all_cuts") (scope := L2.defScope (top 34)) (f := f) (cd := cdv) (A := A) (outer := outer) (s := s) (H := H) (E := E)
    have hN := sc__law_all_cuts.nd
    exact (dss_cons (ds_asg 2 hN (de_lst (da_cons (de_tup da_nil) da_nil)))
    (dss_cons (ds_for hp rfl (di_rng1 T.b_range (de_sub (de_nm 1) de_int)) (dg_name 3 hN) (dss_cons (ds_asg 4 hN (de_lst da_nil))
    (dss_cons (ds_for hp rfl (di_seq (de_nm 2)) (dg_name 5 hN) (dss_cons (ds_expr (de_mth 4 PySem.F.plainAttrs_list PySem.F.slot_list_extend PySem.F.type_list_extend mt_extend ty_list ok_extend (da_cons (de_lc [("place", 6)] rfl hN (di_rng2 T.b_range (de_if (dt_truth (de_nm 5)) (de_add (de_ix (de_nm 5) (de_neg de_int)) de_int) de_int) (de_nm 0)) (blk_ok (by kernel_rfl)) (fun _ _ _ _ _ => (dg_name 6 hN)) (fun _ _ _ _ _ => dts_nil) (fun _ _ _ _ _ => (de_add (de_nm 5) (de_tup (da_cons (de_nm 6) da_nil))))) da_nil)))
    (dss_k [5] dss_nil)))
    (dss_cons (ds_asg 2 hN (de_nm 4))
    (dss_k [3] dss_nil)))))
    (dss_one (ds_ret (de_nm 2)))))
/-! ### _law_weights -/
theorem sc__law_weights : FnScope ["draws", "n", "most", "place"] ["draws", "n"] (L2.defScope (top 35)) := ⟨rfl, rfl, rfl, by decide +kernel, rfl, by decide +kernel, by decide +kernel⟩
theorem ok__law_weights {P : Program} {w : World} {K : PySem.W.Frag} {mg : Str → Option Value} {base : Heap} {ca : Nat → Addr} {tok : Nat → Tok} {f : Addr} {fd : FuncData} (T : Txt K mg ca tok) (D__law_next : DFn P w K mg base (Γ0 ca) 1 "_law_next" 1 f__law_next) (D__law_pick : DFn P w K mg base (Γ0 ca) 2 "_law_pick" 2 f__law_pick)
    (hm : mg "_law_weights" = some (.ref f)) (F : L2.Fun K "_law_weights" "_law_weights" (top 35) f fd) (hb : Binds K fd ["draws", "n"] []) : DFn P w K mg base (Γ0 ca) 3 "_law_weights" 2 f__law_weights :=
  dfn_mk (N := ["draws", "n", "most", "place"]) (fb := b__law_weights) hm F hb sc__law_weights fun cdv A outer s H E hr => by
    have tk := takes_cx (P := P) (w := w) (K := K) (mg := mg) (base := base) (N := ["draws", "n", "most", "place"]) (qual := "_law_weights") (scope := L2.defScope (top 35)) (f := f) (cd := cdv) (A := A) (outer := outer) (s := s) (H := H) (E := E)
    have hp := passes_cx (P := P) (w := w) (K := K) (mg := mg) (base := base) (N := ["draws", "n", "most", "place"]) (qual := "_law_weights") (scope := L2.defScope (top 35)) (f := f) (cd := cdv) (A := A) (outer := outer) (s := s) (H := H) (E := E)
    have hN := sc__law_weights.nd
    exact (dss_cons (ds_asg 2 hN (de_call D__law_pick (hr.mono (by decide)) tk (da_cons (de_nm 0) (da_cons (de_fr (de_lst (da_cons de_int (da_cons de_int (da_cons de_int (da_cons de_int da_nil)))))) da_nil))))
    (dss_one (ds_ret (de_callT call_tuple_ofX ok_tupleW T.b_tuple (by rfl) (da_cons (de_lc [("place", 3)] rfl hN (di_rng1 T.b_range (de_nm 1)) (blk_ok (by kernel_rfl)) (fun _ _ _ _ _ => (dg_name 3 hN)) (fun _ _ _ _ _ => dts_nil) (fun _ _ _ _ _ => (de_mod (de_callT call_int1 ok_intW T.b_int (by rfl) (da_cons (de_call D__law_next (hr.mono (by decide)) takes0 (da_cons (de_nm 0) da_nil)) da_nil)) (de_nm 2)))) da_nil)))))
/-! ### _law_ring_parts -/
theorem sc__law_ring_parts : FnScope ["weights", "cuts", "n", "found", "at", "begin", "end", "place"] ["weights", "cuts"] (L2.defScope (top 36)) := ⟨rfl, rfl, rfl, by decide +kernel, rfl, by decide +kernel, by decide +kernel⟩
theorem ok__law_ring_parts {P : Program} {w : World} {K : PySem.W.Frag} {mg : Str → Option Value} {base : Heap} {ca : Nat → Addr} {tok : Nat → Tok} {f : Addr} {fd : FuncData} (T : Txt K mg ca tok) 
    (hm : mg "_law_ring_parts" = some (.ref f)) (F : L2.Fun K "_law_ring_parts" "_law_ring_parts" (top 36) f fd) (hb : Binds K fd ["weights", "cuts"] []) : DFn P w K mg base (Γ0 ca) 1 "_law_ring_parts" 2 f__law_ring_parts :=
  dfn_mk (N := ["weights", "cuts", "n", "found", "at", "begin", "end", "place"]) (fb := b__law_ring_parts) hm F hb sc__law_ring_parts fun cdv A outer s H E hr => by
    have tk := takes_cx (P := P) (w := w) (K := K) (mg := mg) (base := base) (N := ["weights", "cuts", "n", "found", "at", "begin", "end", "place"]) (qual := "_law_ring_parts") (scope := L2.defScope (top 36)) (f := f) (cd := cdv) (A := A) (outer := outer) (s := s) (H := H) (E := E)
    have hp := passes_cx (P := P) (w := w) (K := K) (mg := mg) (base := base) (N := ["weights", "cuts", "n", "found", "at", "begin", "end", "place"]) (qual := "_law_ring_parts") (scope := L2.defScope (top 36)) (f := f) (cd := cdv) (A := A) (outer := outer) (s := s) (H := H) (E := E)
    have hN := sc__law_ring_parts.nd
    exact (dss_cons (ds_asg 2 hN (de_callB cr_lenW ok_lenW T.b_len (by rfl) (da_cons (de_nm 0) da_nil)))
    (dss_cons (ds_asg 3 hN (de_lst da_nil))
    (dss_cons (ds_for hp rfl (di_rng1 T.b_range (de_callB cr_lenW ok_lenW T.b_len (by rfl) (da_cons (de_nm 1) da_nil))) (dg_name 4 hN) (dss_cons (ds_par 5 6 rfl hN (da_cons (de_ix (de_nm 1) (de_nm 4)) (da_cons (de_if (dt_lt hr.units0 (de_add (de_nm 4) de_int) (de_callB cr_lenW ok_lenW T.b_len (by rfl) (da_cons (de_nm 1) da_nil))) (de_ix (de_nm 1) (de_add (de_nm 4) de_int)) (de_add (de_ix (de_nm 1) de_int) (de_nm 2))) da_nil)))
    (dss_cons (ds_expr (de_mth 3 PySem.F.plainAttrs_list PySem.F.slot_list_append PySem.F.type_list_append mt_append ty_list ok_append (da_cons (de_callB (cr_sumX rfl) ok_sumW T.b_sum (by rfl) (da_cons (de_lc [("place", 7)] rfl hN (di_rng2 T.b_range (de_nm 5) (de_nm 6)) (blk_ok (by kernel_rfl)) (fun _ _ _ _ _ => (dg_name 7 hN)) (fun _ _ _ _ _ => dts_nil) (fun _ _ _ _ _ => (de_ix (de_nm 0) (de_mod (de_callT call_int1 ok_intW T.b_int (by rfl) (da_cons (de_nm 7) da_nil)) (de_nm 2))))) da_nil)) da_nil)))
    (dss_k [4] (dss_k [5] (dss_k [6] dss_nil))))))
    (dss_one (ds_ret (de_nm 3))))))
/-! ### _law_asked -/
theorem sc__law_asked : FnScope ["way", "weights", "k", "error"] ["way", "weights", "k"] (L2.defScope (top 37)) := ⟨rfl, rfl, rfl, by decide +kernel, rfl, by decide +kernel, by decide +kernel⟩
theorem ok__law_asked {P : Program} {w : World} {K : PySem.W.Frag} {mg : Str → Option Value} {base : Heap} {ca : Nat → Addr} {tok : Nat → Tok} {f : Addr} {fd : FuncData} (T : Txt K mg ca tok) (D_ring_greatest_low : DFn P w K mg base (Γ0 ca) 3 "ring_greatest_low" 2 f_ring_greatest_low) (D_ring_least_high : DFn P w K mg base (Γ0 ca) 3 "ring_least_high" 2 f_ring_least_high) (D_kind : KFn P w K mg base (Γ0 ca) 1 "_law_kind" kinds)
    (hm : mg "_law_asked" = some (.ref f)) (F : L2.Fun K "_law_asked" "_law_asked" (top 37) f fd) (hb : Binds K fd ["way", "weights", "k"] []) : DFn P w K mg base (Γ0 ca) 4 "_law_asked" 3 f__law_asked :=
  dfn_mk (N := ["way", "weights", "k", "error"]) (fb := b__law_asked) hm F hb sc__law_asked fun cdv A outer s H E hr => by
    have tk := takes_cx (P := P) (w := w) (K := K) (mg := mg) (base := base) (N := ["way", "weights", "k", "error"]) (qual := "_law_asked") (scope := L2.defScope (top 37)) (f := f) (cd := cdv) (A := A) (outer := outer) (s := s) (H := H) (E := E)
    have hp := passes_cx (P := P) (w := w) (K := K) (mg := mg) (base := base) (N := ["way", "weights", "k", "error"]) (qual := "_law_asked") (scope := L2.defScope (top 37)) (f := f) (cd := cdv) (A := A) (outer := outer) (s := s) (H := H) (E := E)
    have hN := sc__law_asked.nd
    exact (dss_one (ds_try 3 D_kind (by decide) rfl rfl hN tk hr T.x_MapError T.ex_MapError (fun _ _ _ tk hp =>
    (dss_one (ds_ret (de_menu (menu_cons D_ring_least_high (by decide) (menu_cons D_ring_greatest_low (by decide) menu_nil)) (pi_nm 0) hr tk (da_cons (de_nm 1) (da_cons (de_nm 2) da_nil))))))))
/-! ### law -/
theorem sc_law : FnScope ["script", "draws", "n", "k", "weights", "parts", "due", "size", "wide", "many", "begin", "turned_v", "told", "rows", "other", "known", "maps", "cuts", "place", "part", "way", "row", "bad", "parts_asked"] ["script"] (L2.defScope (top 38)) := ⟨rfl, rfl, rfl, by decide +kernel, rfl, by decide +kernel, by decide +kernel⟩
theorem ok_law {P : Program} {w : World} {K : PySem.W.Frag} {mg : Str → Option Value} {base : Heap} {ca : Nat → Addr} {tok : Nat → Tok} {f : Addr} {fd : FuncData} (T : Txt K mg ca tok) (D__law_all_cuts : DFn P w K mg base (Γ0 ca) 1 "_law_all_cuts" 2 f__law_all_cuts) (D__law_asked : DFn P w K mg base (Γ0 ca) 4 "_law_asked" 3 f__law_asked) (D__law_draws : DFn P w K mg base (Γ0 ca) 2 "_law_draws" 1 f__law_draws) (D__law_flat : DFn P w K mg base (Γ0 ca) 1 "_law_flat" 1 f__law_flat) (D__law_more : DFn P w K mg base (Γ0 ca) 2 "_law_more" 2 f__law_more) (D__law_next : DFn P w K mg base (Γ0 ca) 1 "_law_next" 1 f__law_next) (D__law_ring_parts : DFn P w K mg base (Γ0 ca) 1 "_law_ring_parts" 2 f__law_ring_parts) (D__law_weights : DFn P w K mg base (Γ0 ca) 3 "_law_weights" 2 f__law_weights) (D_greatest_low : DFn P w K mg base (Γ0 ca) 3 "greatest_low" 2 f_greatest_low) (D_least_high : DFn P w K mg base (Γ0 ca) 3 "least_high" 2 f_least_high) (D_ring_greatest_low : DFn P w K mg base (Γ0 ca) 3 "ring_greatest_low" 2 f_ring_greatest_low) (D_ring_least_high : DFn P w K mg base (Γ0 ca) 3 "ring_least_high" 2 f_ring_least_high) 
    (F : L2.Fun K "law" "law" (top 38) f fd) : FnG P w K mg base 5 f fd ["script"] (spD K (Γ0 ca) 1 f_law) :=
  fng_dt (N := ["script", "draws", "n", "k", "weights", "parts", "due", "size", "wide", "many", "begin", "turned_v", "told", "rows", "other", "known", "maps", "cuts", "place", "part", "way", "row", "bad", "parts_asked"]) (fb := b_law) F sc_law fun cdv A outer s H E hr hgd => by
    have tk := takes_cx (P := P) (w := w) (K := K) (mg := mg) (base := base) (N := ["script", "draws", "n", "k", "weights", "parts", "due", "size", "wide", "many", "begin", "turned_v", "told", "rows", "other", "known", "maps", "cuts", "place", "part", "way", "row", "bad", "parts_asked"]) (qual := "law") (scope := L2.defScope (top 38)) (f := f) (cd := cdv) (A := A) (outer := outer) (s := s) (H := H) (E := E)
    have hp := passes_cx (P := P) (w := w) (K := K) (mg := mg) (base := base) (N := ["script", "draws", "n", "k", "weights", "parts", "due", "size", "wide", "many", "begin", "turned_v", "told", "rows", "other", "known", "maps", "cuts", "place", "part", "way", "row", "bad", "parts_asked"]) (qual := "law") (scope := L2.defScope (top 38)) (f := f) (cd := cdv) (A := A) (outer := outer) (s := s) (H := H) (E := E)
    have hN := sc_law.nd
    exact (dss_cons (ds_asg 1 hN (de_call D__law_draws (hr.mono (by decide)) tk (da_cons (de_nm 0) da_nil)))
    (dss_cons (ds_asg 1 hN (de_call D__law_more (hr.mono (by decide)) tk (da_cons (de_nm 1) (da_cons de_int da_nil))))
    (dss_cons (ds_asg 2 hN (de_add de_int (de_mod (de_callT call_int1 ok_intW T.b_int (by rfl) (da_cons (de_call D__law_next (hr.mono (by decide)) tk (da_cons (de_nm 1) da_nil)) da_nil)) de_int)))
    (dss_cons (ds_asg 3 hN (de_add de_int (de_mod (de_callT call_int1 ok_intW T.b_int (by rfl) (da_cons (de_call D__law_next (hr.mono (by decide)) tk (da_cons (de_nm 1) da_nil)) da_nil)) (de_nm 2))))
    (dss_cons (ds_asg 4 hN (de_call D__law_weights (hr.mono (by decide)) tk (da_cons (de_nm 1) (da_cons (de_nm 2) da_nil))))
    (dss_cons (ds_asg 5 hN (de_if (dt_gt  (de_nm 3) de_int) (de_lc [("cuts", 17)] rfl hN (di_seq (de_call D__law_all_cuts (hr.mono (by decide)) tk (da_cons (de_add (de_nm 2) de_int) (da_cons (de_add (de_nm 3) de_int) da_nil)))) (blk_ok (by kernel_rfl)) (fun _ _ _ _ _ => (dg_name 17 hN)) (fun _ _ _ _ _ => dts_nil) (fun _ _ _ _ _ => (de_call D__law_ring_parts (hr.mono (by decide)) takes0 (da_cons (de_nm 4) (da_cons (de_callT call_tuple_ofX ok_tupleW T.b_tuple (by rfl) (da_cons (de_lc [("place", 18)] rfl hN (di_seq (de_nm 17)) (blk_ok (by kernel_rfl)) (fun _ _ _ _ _ => (dg_name 18 hN)) (fun _ _ _ _ _ => dts_nil) (fun _ _ _ _ _ => (de_sub (de_nm 18) de_int))) da_nil)) da_nil))))) (de_lst (da_cons (de_lst (da_cons (de_callB (cr_sumX rfl) ok_sumW T.b_sum (by rfl) (da_cons (de_nm 4) da_nil)) da_nil)) da_nil))))
    (dss_cons (ds_asg 6 hN (de_lst (da_cons (de_callB (cr_minW rfl hr.units) ok_minW T.b_min (by rfl) (da_cons (de_lc [("part", 19)] rfl hN (di_seq (de_nm 5)) (blk_ok (by kernel_rfl)) (fun _ _ _ _ _ => (dg_name 19 hN)) (fun _ _ _ _ _ => dts_nil) (fun _ _ _ _ _ => (de_callB (cr_maxW rfl hr.units) ok_maxW T.b_max (by rfl) (da_cons (de_nm 19) da_nil)))) da_nil)) (da_cons (de_callB (cr_maxW rfl hr.units) ok_maxW T.b_max (by rfl) (da_cons (de_lc [("part", 19)] rfl hN (di_seq (de_nm 5)) (blk_ok (by kernel_rfl)) (fun _ _ _ _ _ => (dg_name 19 hN)) (fun _ _ _ _ _ => dts_nil) (fun _ _ _ _ _ => (de_callB (cr_minW rfl hr.units) ok_minW T.b_min (by rfl) (da_cons (de_nm 19) da_nil)))) da_nil)) da_nil))))
    (dss_cons (ds_if (dt_ne (Room.u65 hr) (de_callB (cr_repr hgd hr.units) ok_reprW T.b_repr (by rfl) (da_cons (de_lc [("way", 20)] rfl hN (di_rng1 T.b_range de_int) (blk_ok (by kernel_rfl)) (fun _ _ _ _ _ => (dg_name 20 hN)) (fun _ _ _ _ _ => dts_nil) (fun _ _ _ _ _ => (de_call D__law_asked (hr.mono (by decide)) takes0 (da_cons (de_nm 20) (da_cons (de_nm 4) (da_cons (de_nm 3) da_nil)))))) da_nil)) (de_callB (cr_repr hgd hr.units) ok_reprW T.b_repr (by rfl) (da_cons (de_nm 6) da_nil))) (dss_one (ds_ret de_bl)) dss_nil)
    (dss_cons (ds_asg 7 hN (de_add de_int (de_mod (de_callT call_int1 ok_intW T.b_int (by rfl) (da_cons (de_call D__law_next (hr.mono (by decide)) tk (da_cons (de_nm 1) da_nil)) da_nil)) de_int)))
    (dss_cons (ds_asgD (de_tup (da_cons (de_callT call_tuple_ofX ok_tupleW T.b_tuple (by rfl) (da_cons (de_lc [("place", 18)] rfl hN (di_rng1 T.b_range (de_nm 7)) (blk_ok (by kernel_rfl)) (fun _ _ _ _ _ => (dg_name 18 hN)) (fun _ _ _ _ _ => dts_nil) (fun _ _ _ _ _ => (de_mod (de_callT call_int1 ok_intW T.b_int (by rfl) (da_cons (de_call D__law_next (hr.mono (by decide)) takes0 (da_cons (de_nm 1) da_nil)) da_nil)) de_int))) da_nil)) (da_cons (de_add de_int (de_mod (de_callT call_int1 ok_intW T.b_int (by rfl) (da_cons (de_call D__law_next (hr.mono (by decide)) tk (da_cons (de_nm 1) da_nil)) da_nil)) de_int)) da_nil))) (dg_tup rfl (dgs_cons 8 hN (dgs_cons 9 hN dgs_nil))))
    (dss_cons (ds_asg 10 hN (de_mod (de_callT call_int1 ok_intW T.b_int (by rfl) (da_cons (de_call D__law_next (hr.mono (by decide)) tk (da_cons (de_nm 1) da_nil)) da_nil)) (de_nm 7)))
    (dss_cons (ds_asg 11 hN (de_add (de_sl (de_nm 8) (dpo_at (de_nm 10)) dpo_no) (de_sl (de_nm 8) dpo_no (dpo_at (de_nm 10)))))
    (dss_cons (ds_asg 12 hN (de_lst (da_cons (de_call D_ring_least_high (hr.mono (by decide)) tk (da_cons (de_nm 8) (da_cons (de_nm 9) da_nil))) (da_cons (de_call D_ring_greatest_low (hr.mono (by decide)) tk (da_cons (de_nm 8) (da_cons (de_nm 9) da_nil))) da_nil))))
    (dss_cons (ds_setLc 13 [("place", 18)] rfl hN (di_rng1 T.b_range (de_nm 7)) (blk_ok (by kernel_rfl)) (fun _ _ _ _ _ => (dg_name 18 hN)) (fun _ _ _ _ _ => dts_nil) (fun _ _ _ _ _ => (de_add (de_sl (de_nm 8) (dpo_at (de_nm 18)) dpo_no) (de_sl (de_nm 8) dpo_no (dpo_at (de_nm 18))))))
    (dss_cons (ds_if (dt_ne (Room.u65 hr) (de_nm 12) (de_lst (da_cons (de_callB (cr_minW rfl hr.units) ok_minW T.b_min (by rfl) (da_cons (de_lc [("row", 21)] rfl hN (di_seq (de_nm 13)) (blk_ok (by kernel_rfl)) (fun _ _ _ _ _ => (dg_name 21 hN)) (fun _ _ _ _ _ => dts_nil) (fun _ _ _ _ _ => (de_call D_least_high (hr.mono (by decide)) takes0 (da_cons (de_nm 21) (da_cons (de_nm 9) da_nil))))) da_nil)) (da_cons (de_callB (cr_maxW rfl hr.units) ok_maxW T.b_max (by rfl) (da_cons (de_lc [("row", 21)] rfl hN (di_seq (de_nm 13)) (blk_ok (by kernel_rfl)) (fun _ _ _ _ _ => (dg_name 21 hN)) (fun _ _ _ _ _ => dts_nil) (fun _ _ _ _ _ => (de_call D_greatest_low (hr.mono (by decide)) takes0 (da_cons (de_nm 21) (da_cons (de_nm 9) da_nil))))) da_nil)) da_nil)))) (dss_one (ds_ret de_bl)) dss_nil)
    (dss_cons (ds_for hp rfl (di_seq (de_lst (da_cons (de_nm 11) (da_cons (de_rev (de_nm 8)) da_nil)))) (dg_name 14 hN) (dss_cons (ds_if (dt_ne (Room.u65 hr) (de_lst (da_cons (de_call D_ring_least_high (hr.mono (by decide)) tk (da_cons (de_nm 14) (da_cons (de_nm 9) da_nil))) (da_cons (de_call D_ring_greatest_low (hr.mono (by decide)) tk (da_cons (de_nm 14) (da_cons (de_nm 9) da_nil))) da_nil))) (de_nm 12)) (dss_one (ds_ret de_bl)) dss_nil)
    (dss_k [14] dss_nil)))
    (dss_cons (ds_if (dt_bool (dw_or (dt_gt  (de_call D_ring_least_high (hr.mono (by decide)) tk (da_cons (de_nm 8) (da_cons (de_add (de_nm 9) de_int) da_nil))) (de_ix (de_nm 12) de_int)) (dw_or (dt_gt  (de_call D_ring_greatest_low (hr.mono (by decide)) tk (da_cons (de_nm 8) (da_cons (de_add (de_nm 9) de_int) da_nil))) (de_ix (de_nm 12) de_int)) (dw_or (dt_lt hr.units0 (de_mul (de_nm 9) (de_ix (de_nm 12) de_int)) (de_callB (cr_sumX rfl) ok_sumW T.b_sum (by rfl) (da_cons (de_nm 8) da_nil))) (dw_or1 (dt_gt  (de_mul (de_nm 9) (de_ix (de_nm 12) de_int)) (de_callB (cr_sumX rfl) ok_sumW T.b_sum (by rfl) (da_cons (de_nm 8) da_nil)))))))) (dss_one (ds_ret de_bl)) dss_nil)
    (dss_cons (ds_asg 15 hN (de_lst (da_cons (de_call D_ring_least_high (hr.mono (by decide)) tk (da_cons (de_tup (da_cons de_int (da_cons de_int (da_cons de_int (da_cons de_int da_nil))))) (da_cons de_int da_nil))) (da_cons (de_call D_ring_greatest_low (hr.mono (by decide)) tk (da_cons (de_tup (da_cons de_int (da_cons de_int (da_cons de_int (da_cons de_int da_nil))))) (da_cons de_int da_nil))) (da_cons (de_call D_ring_least_high (hr.mono (by decide)) tk (da_cons (de_tup (da_cons de_int (da_cons de_int (da_cons de_int da_nil)))) (da_cons de_int da_nil))) (da_cons (de_call D_ring_greatest_low (hr.mono (by decide)) tk (da_cons (de_tup (da_cons de_int (da_cons de_int (da_cons de_int da_nil)))) (da_cons de_int da_nil))) (da_cons (de_call D_ring_least_high (hr.mono (by decide)) tk (da_cons (de_tup (da_cons de_int (da_cons de_int (da_cons de_int da_nil)))) (da_cons de_int da_nil))) da_nil)))))))
    (dss_cons (ds_if (dt_ne (Room.u65 hr) (de_callB (cr_repr hgd hr.units) ok_reprW T.b_repr (by rfl) (da_cons (de_nm 15) da_nil)) (de_callB (cr_repr hgd hr.units) ok_reprW T.b_repr (by rfl) (da_cons (de_lst (da_cons de_int (da_cons de_int (da_cons de_int (da_cons de_int (da_cons de_int da_nil)))))) da_nil))) (dss_one (ds_ret de_bl)) dss_nil)
    (dss_cons (ds_asg 16 hN (de_call D__law_flat (hr.mono (by decide)) tk (da_cons (de_fr (de_lc [("way", 20)] rfl hN (di_rng1 T.b_range de_int) (blk_ok (by kernel_rfl)) (fun _ _ _ _ _ => (dg_name 20 hN)) (fun _ _ _ _ _ => dts_nil) (fun _ _ _ _ _ => (de_lc [("bad", 22)] rfl hN (di_seq (de_lst (da_cons (de_tup da_nil) (da_cons (de_tup (da_cons de_int (da_cons de_int da_nil))) (da_cons (de_mulX (de_tup (da_cons de_int da_nil)) de_int) (da_cons (de_tup (da_cons de_int (da_cons (de_neg de_int) (da_cons de_int da_nil)))) (da_cons (de_tup (da_cons de_int (da_cons de_int (da_cons de_int da_nil)))) da_nil))))))) (blk_ok (by kernel_rfl)) (fun _ _ _ _ _ => (dg_name 22 hN)) (fun _ _ _ _ _ => dts_nil) (fun _ _ _ _ _ => (de_call D__law_asked (hr.mono (by decide)) takes0 (da_cons (de_nm 20) (da_cons (de_nm 22) (da_cons de_int da_nil))))))))) da_nil)))
    (dss_one (ds_ret (de_and (de_eq (Room.u65 hr) (de_nm 16) (de_mul (de_lst (da_cons de_str da_nil)) de_int)) (de_one (de_eq (Room.u65 hr) (de_call D__law_flat (hr.mono (by decide)) tk (da_cons (de_fr (de_lc [("way", 20)] rfl hN (di_rng1 T.b_range de_int) (blk_ok (by kernel_rfl)) (fun _ _ _ _ _ => (dg_name 20 hN)) (fun _ _ _ _ _ => dts_nil) (fun _ _ _ _ _ => (de_lc [("parts_asked", 23)] rfl hN (di_seq (de_lst (da_cons de_int (da_cons (de_add (de_nm 2) de_int) da_nil)))) (blk_ok (by kernel_rfl)) (fun _ _ _ _ _ => (dg_name 23 hN)) (fun _ _ _ _ _ => dts_nil) (fun _ _ _ _ _ => (de_call D__law_asked (hr.mono (by decide)) takes0 (da_cons (de_nm 20) (da_cons (de_nm 4) (da_cons (de_nm 23) da_nil))))))))) da_nil)) (de_mul (de_lst (da_cons de_str da_nil)) de_int))))))))))))))))))))))))))
theorem all_mk {P : Program} {w : World} {K : PySem.W.Frag} {h : Heap} {mg : Str → Option Value} {fa : Addr} (X : K.In h) (G : h.Ns mainGlobals mg) (hfa : mg "law" = some (.ref fa))
    {p0 p1 p2 p3 p4 p5 p6 p7 p8 p9 p10 p11 p12 p13 p14 p15 p16 p17 p18 p19 p20 p21 p22 p23 c0 c1 c2 c3 c4 c5 c6 c7 : Addr} {od0 an0 od1 an1 od2 an2 od3 an3 od4 an4 od5 an5 od6 an6 od7 an7 od8 an8 od9 an9 od10 an10 od11 an11 od12 an12 od13 an13 od14 an14 od15 an15 od16 an16 od17 an17 od18 an18 od19 an19 od20 an20 od21 an21 od22 an22 od23 an23 : Option Addr} {sl0 sl1 sl2 sl3 sl4 sl5 sl6 sl7 sl8 sl9 sl10 sl11 sl12 sl13 sl14 sl15 sl16 sl17 sl18 sl19 sl20 sl21 sl22 sl23 : Array (Option Value)} {oc0 kV0 dc0 pm0 cd0 ct0 oc1 kV1 dc1 pm1 cd1 ct1 oc2 kV2 dc2 pm2 cd2 ct2 oc3 kV3 dc3 pm3 cd3 ct3 oc4 kV4 dc4 pm4 cd4 ct4 oc5 kV5 dc5 pm5 cd5 ct5 oc6 kV6 dc6 pm6 cd6 ct6 oc7 kV7 dc7 pm7 cd7 ct7 oc8 kV8 dc8 pm8 cd8 ct8 oc9 kV9 dc9 pm9 cd9 ct9 oc10 kV10 dc10 pm10 cd10 ct10 oc11 kV11 dc11 pm11 cd11 ct11 oc12 kV12 dc12 pm12 cd12 ct12 oc13 kV13 dc13 pm13 cd13 ct13 oc14 kV14 dc14 pm14 cd14 ct14 oc15 kV15 dc15 pm15 cd15 ct15 oc16 kV16 dc16 pm16 cd16 ct16 oc17 kV17 dc17 pm17 cd17 ct17 oc18 kV18 dc18 pm18 cd18 ct18 oc19 kV19 dc19 pm19 cd19 ct19 oc20 kV20 dc20 pm20 cd20 ct20 oc21 kV21 dc21 pm21 cd21 ct21 oc22 kV22 dc22 pm22 cd22 ct22 oc23 kV23 dc23 pm23 cd23 ct23 : Value} {t0 t1 t2 t3 : Tok}
    (a0 : PySem.W.nsIn K mainGlobals "is_row" = some (some (.ref p0)))
    (l0 : K.lookup p0 = some ⟨oc0, od0, .func (PySem.W.fnOf "is_row" "is_row" (L2.defArgs (top 14)) (L2.defBody (top 14)) (L2.defScope (top 14)) .none kV0 dc0 pm0 an0 cd0 ct0), sl0⟩)
    (e0 : PySem.W.codeIn K cd0 "is_row" = true)
    (k0 : PySem.W.keepIn K (.ref p0) = true)
    (a1 : PySem.W.nsIn K mainGlobals "check_row" = some (some (.ref p1)))
    (l1 : K.lookup p1 = some ⟨oc1, od1, .func (PySem.W.fnOf "check_row" "check_row" (L2.defArgs (top 15)) (L2.defBody (top 15)) (L2.defScope (top 15)) .none kV1 dc1 pm1 an1 cd1 ct1), sl1⟩)
    (e1 : PySem.W.codeIn K cd1 "check_row" = true)
    (k1 : PySem.W.keepIn K (.ref p1) = true)
    (a2 : PySem.W.nsIn K mainGlobals "check_ring" = some (some (.ref p2)))
    (l2 : K.lookup p2 = some ⟨oc2, od2, .func (PySem.W.fnOf "check_ring" "check_ring" (L2.defArgs (top 16)) (L2.defBody (top 16)) (L2.defScope (top 16)) .none kV2 dc2 pm2 an2 cd2 ct2), sl2⟩)
    (e2 : PySem.W.codeIn K cd2 "check_ring" = true)
    (k2 : PySem.W.keepIn K (.ref p2) = true)
    (a3 : PySem.W.nsIn K mainGlobals "starts_for" = some (some (.ref p3)))
    (l3 : K.lookup p3 = some ⟨oc3, od3, .func (PySem.W.fnOf "starts_for" "starts_for" (L2.defArgs (top 17)) (L2.defBody (top 17)) (L2.defScope (top 17)) .none kV3 dc3 pm3 an3 cd3 ct3), sl3⟩)
    (e3 : PySem.W.codeIn K cd3 "starts_for" = true)
    (k3 : PySem.W.keepIn K (.ref p3) = true)
    (a4 : PySem.W.nsIn K mainGlobals "low_places" = some (some (.ref p4)))
    (l4 : K.lookup p4 = some ⟨oc4, od4, .func (PySem.W.fnOf "low_places" "low_places" (L2.defArgs (top 18)) (L2.defBody (top 18)) (L2.defScope (top 18)) .none kV4 dc4 pm4 an4 cd4 ct4), sl4⟩)
    (e4 : PySem.W.codeIn K cd4 "low_places" = true)
    (k4 : PySem.W.keepIn K (.ref p4) = true)
    (a5 : PySem.W.nsIn K mainGlobals "least_high" = some (some (.ref p5)))
    (l5 : K.lookup p5 = some ⟨oc5, od5, .func (PySem.W.fnOf "least_high" "least_high" (L2.defArgs (top 19)) (L2.defBody (top 19)) (L2.defScope (top 19)) .none kV5 dc5 pm5 an5 cd5 ct5), sl5⟩)
    (e5 : PySem.W.codeIn K cd5 "least_high" = true)
    (k5 : PySem.W.keepIn K (.ref p5) = true)
    (a6 : PySem.W.nsIn K mainGlobals "greatest_low" = some (some (.ref p6)))
    (l6 : K.lookup p6 = some ⟨oc6, od6, .func (PySem.W.fnOf "greatest_low" "greatest_low" (L2.defArgs (top 20)) (L2.defBody (top 20)) (L2.defScope (top 20)) .none kV6 dc6 pm6 an6 cd6 ct6), sl6⟩)
    (e6 : PySem.W.codeIn K cd6 "greatest_low" = true)
    (k6 : PySem.W.keepIn K (.ref p6) = true)
    (a7 : PySem.W.nsIn K mainGlobals "turned" = some (some (.ref p7)))
    (l7 : K.lookup p7 = some ⟨oc7, od7, .func (PySem.W.fnOf "turned" "turned" (L2.defArgs (top 21)) (L2.defBody (top 21)) (L2.defScope (top 21)) .none kV7 dc7 pm7 an7 cd7 ct7), sl7⟩)
    (e7 : PySem.W.codeIn K cd7 "turned" = true)
    (k7 : PySem.W.keepIn K (.ref p7) = true)
    (a8 : PySem.W.nsIn K mainGlobals "ring_holds_high" = some (some (.ref p8)))
    (l8 : K.lookup p8 = some ⟨oc8, od8, .func (PySem.W.fnOf "ring_holds_high" "ring_holds_high" (L2.defArgs (top 22)) (L2.defBody (top 22)) (L2.defScope (top 22)) .none kV8 dc8 pm8 an8 cd8 ct8), sl8⟩)
    (e8 : PySem.W.codeIn K cd8 "ring_holds_high" = true)
    (k8 : PySem.W.keepIn K (.ref p8) = true)
    (a9 : PySem.W.nsIn K mainGlobals "ring_least_high" = some (some (.ref p9)))
    (l9 : K.lookup p9 = some ⟨oc9, od9, .func (PySem.W.fnOf "ring_least_high" "ring_least_high" (L2.defArgs (top 23)) (L2.defBody (top 23)) (L2.defScope (top 23)) .none kV9 dc9 pm9 an9 cd9 ct9), sl9⟩)
    (e9 : PySem.W.codeIn K cd9 "ring_least_high" = true)
    (k9 : PySem.W.keepIn K (.ref p9) = true)
    (a10 : PySem.W.nsIn K mainGlobals "ring_holds_low" = some (some (.ref p10)))
    (l10 : K.lookup p10 = some ⟨oc10, od10, .func (PySem.W.fnOf "ring_holds_low" "ring_holds_low" (L2.defArgs (top 24)) (L2.defBody (top 24)) (L2.defScope (top 24)) .none kV10 dc10 pm10 an10 cd10 ct10), sl10⟩)
    (e10 : PySem.W.codeIn K cd10 "ring_holds_low" = true)
    (k10 : PySem.W.keepIn K (.ref p10) = true)
    (a11 : PySem.W.nsIn K mainGlobals "ring_greatest_low" = some (some (.ref p11)))
    (l11 : K.lookup p11 = some ⟨oc11, od11, .func (PySem.W.fnOf "ring_greatest_low" "ring_greatest_low" (L2.defArgs (top 25)) (L2.defBody (top 25)) (L2.defScope (top 25)) .none kV11 dc11 pm11 an11 cd11 ct11), sl11⟩)
    (e11 : PySem.W.codeIn K cd11 "ring_greatest_low" = true)
    (k11 : PySem.W.keepIn K (.ref p11) = true)
    (a12 : PySem.W.nsIn K mainGlobals "_law_number" = some (some (.ref p12)))
    (l12 : K.lookup p12 = some ⟨oc12, od12, .func (PySem.W.fnOf "_law_number" "_law_number" (L2.defArgs (top 27)) (L2.defBody (top 27)) (L2.defScope (top 27)) .none kV12 dc12 pm12 an12 cd12 ct12), sl12⟩)
    (e12 : PySem.W.codeIn K cd12 "_law_number" = true)
    (k12 : PySem.W.keepIn K (.ref p12) = true)
    (a13 : PySem.W.nsIn K mainGlobals "_law_draws" = some (some (.ref p13)))
    (l13 : K.lookup p13 = some ⟨oc13, od13, .func (PySem.W.fnOf "_law_draws" "_law_draws" (L2.defArgs (top 28)) (L2.defBody (top 28)) (L2.defScope (top 28)) .none kV13 dc13 pm13 an13 cd13 ct13), sl13⟩)
    (e13 : PySem.W.codeIn K cd13 "_law_draws" = true)
    (k13 : PySem.W.keepIn K (.ref p13) = true)
    (a14 : PySem.W.nsIn K mainGlobals "_law_flat" = some (some (.ref p14)))
    (l14 : K.lookup p14 = some ⟨oc14, od14, .func (PySem.W.fnOf "_law_flat" "_law_flat" (L2.defArgs (top 29)) (L2.defBody (top 29)) (L2.defScope (top 29)) .none kV14 dc14 pm14 an14 cd14 ct14), sl14⟩)
    (e14 : PySem.W.codeIn K cd14 "_law_flat" = true)
    (k14 : PySem.W.keepIn K (.ref p14) = true)
    (a15 : PySem.W.nsIn K mainGlobals "_law_next" = some (some (.ref p15)))
    (l15 : K.lookup p15 = some ⟨oc15, od15, .func (PySem.W.fnOf "_law_next" "_law_next" (L2.defArgs (top 30)) (L2.defBody (top 30)) (L2.defScope (top 30)) .none kV15 dc15 pm15 an15 cd15 ct15), sl15⟩)
    (e15 : PySem.W.codeIn K cd15 "_law_next" = true)
    (k15 : PySem.W.keepIn K (.ref p15) = true)
    (a16 : PySem.W.nsIn K mainGlobals "_law_more" = some (some (.ref p16)))
    (l16 : K.lookup p16 = some ⟨oc16, od16, .func (PySem.W.fnOf "_law_more" "_law_more" (L2.defArgs (top 31)) (L2.defBody (top 31)) (L2.defScope (top 31)) .none kV16 dc16 pm16 an16 cd16 ct16), sl16⟩)
    (e16 : PySem.W.codeIn K cd16 "_law_more" = true)
    (k16 : PySem.W.keepIn K (.ref p16) = true)
    (a17 : PySem.W.nsIn K mainGlobals "_law_pick" = some (some (.ref p17)))
    (l17 : K.lookup p17 = some ⟨oc17, od17, .func (PySem.W.fnOf "_law_pick" "_law_pick" (L2.defArgs (top 32)) (L2.defBody (top 32)) (L2.defScope (top 32)) .none kV17 dc17 pm17 an17 cd17 ct17), sl17⟩)
    (e17 : PySem.W.codeIn K cd17 "_law_pick" = true)
    (k17 : PySem.W.keepIn K (.ref p17) = true)
    (a18 : PySem.W.nsIn K mainGlobals "_law_kind" = some (some (.ref p18)))
    (l18 : K.lookup p18 = some ⟨oc18, od18, .func (PySem.W.fnOf "_law_kind" "_law_kind" (L2.defArgs (top 33)) (L2.defBody (top 33)) (L2.defScope (top 33)) .none kV18 dc18 pm18 an18 cd18 ct18), sl18⟩)
    (e18 : PySem.W.codeIn K cd18 "_law_kind" = true)
    (k18 : PySem.W.keepIn K (.ref p18) = true)
    (a19 : PySem.W.nsIn K mainGlobals "_law_all_cuts" = some (some (.ref p19)))
    (l19 : K.lookup p19 = some ⟨oc19, od19, .func (PySem.W.fnOf "_law_all_cuts" "_law_all_cuts" (L2.defArgs (top 34)) (L2.defBody (top 34)) (L2.defScope (top 34)) .none kV19 dc19 pm19 an19 cd19 ct19), sl19⟩)
    (e19 : PySem.W.codeIn K cd19 "_law_all_cuts" = true)
    (k19 : PySem.W.keepIn K (.ref p19) = true)
    (a20 : PySem.W.nsIn K mainGlobals "_law_weights" = some (some (.ref p20)))
    (l20 : K.lookup p20 = some ⟨oc20, od20, .func (PySem.W.fnOf "_law_weights" "_law_weights" (L2.defArgs (top 35)) (L2.defBody (top 35)) (L2.defScope (top 35)) .none kV20 dc20 pm20 an20 cd20 ct20), sl20⟩)
    (e20 : PySem.W.codeIn K cd20 "_law_weights" = true)
    (k20 : PySem.W.keepIn K (.ref p20) = true)
    (a21 : PySem.W.nsIn K mainGlobals "_law_ring_parts" = some (some (.ref p21)))
    (l21 : K.lookup p21 = some ⟨oc21, od21, .func (PySem.W.fnOf "_law_ring_parts" "_law_ring_parts" (L2.defArgs (top 36)) (L2.defBody (top 36)) (L2.defScope (top 36)) .none kV21 dc21 pm21 an21 cd21 ct21), sl21⟩)
    (e21 : PySem.W.codeIn K cd21 "_law_ring_parts" = true)
    (k21 : PySem.W.keepIn K (.ref p21) = true)
    (a22 : PySem.W.nsIn K mainGlobals "_law_asked" = some (some (.ref p22)))
    (l22 : K.lookup p22 = some ⟨oc22, od22, .func (PySem.W.fnOf "_law_asked" "_law_asked" (L2.defArgs (top 37)) (L2.defBody (top 37)) (L2.defScope (top 37)) .none kV22 dc22 pm22 an22 cd22 ct22), sl22⟩)
    (e22 : PySem.W.codeIn K cd22 "_law_asked" = true)
    (k22 : PySem.W.keepIn K (.ref p22) = true)
    (a23 : PySem.W.nsIn K mainGlobals "law" = some (some (.ref p23)))
    (l23 : K.lookup p23 = some ⟨oc23, od23, .func (PySem.W.fnOf "law" "law" (L2.defArgs (top 38)) (L2.defBody (top 38)) (L2.defScope (top 38)) .none kV23 dc23 pm23 an23 cd23 ct23), sl23⟩)
    (e23 : PySem.W.codeIn K cd23 "law" = true)
    (k23 : PySem.W.keepIn K (.ref p23) = true)
    (z_all : PySem.W.nsIn K mainGlobals "all" = some none)
    (z_any : PySem.W.nsIn K mainGlobals "any" = some none)
    (z_enumerate : PySem.W.nsIn K mainGlobals "enumerate" = some none)
    (z_int : PySem.W.nsIn K mainGlobals "int" = some none)
    (z_isinstance : PySem.W.nsIn K mainGlobals "isinstance" = some none)
    (z_len : PySem.W.nsIn K mainGlobals "len" = some none)
    (z_max : PySem.W.nsIn K mainGlobals "max" = some none)
    (z_min : PySem.W.nsIn K mainGlobals "min" = some none)
    (z_range : PySem.W.nsIn K mainGlobals "range" = some none)
    (z_repr : PySem.W.nsIn K mainGlobals "repr" = some none)
    (z_sum : PySem.W.nsIn K mainGlobals "sum" = some none)
    (z_tuple : PySem.W.nsIn K mainGlobals "tuple" = some none)
    (g_FEWEST_RING : PySem.W.nsIn K mainGlobals "FEWEST_RING" = some (some (.int 3 t0)))
    (g_MOST_RING : PySem.W.nsIn K mainGlobals "MOST_RING" = some (some (.int 300 t1)))
    (g_MOST_ROW : PySem.W.nsIn K mainGlobals "MOST_ROW" = some (some (.int 2000 t2)))
    (g_MOST_WEIGHT : PySem.W.nsIn K mainGlobals "MOST_WEIGHT" = some (some (.int 1000000 t3)))
    (n0 : PySem.W.nsIn K mainGlobals "NotMap" = some (some (.ref c0)))
    (q0 : PySem.W.excIn K c0 [.type "ValueError", .type "Exception", .type "BaseException", .type "object"] "ValueError.__new__" = true)
    (kp0 : PySem.W.keepIn K (.ref c0) = true)
    (sb0 : PySem.W.subIn K (.ref c0) (.type "BaseException") = some true)
    (ty0 : PySem.W.typeIn K (.ref c0) = some (.type "type"))
    (n1 : PySem.W.nsIn K mainGlobals "NotPlan" = some (some (.ref c1)))
    (q1 : PySem.W.excIn K c1 [.type "ValueError", .type "Exception", .type "BaseException", .type "object"] "ValueError.__new__" = true)
    (kp1 : PySem.W.keepIn K (.ref c1) = true)
    (sb1 : PySem.W.subIn K (.ref c1) (.type "BaseException") = some true)
    (ty1 : PySem.W.typeIn K (.ref c1) = some (.type "type"))
    (n2 : PySem.W.nsIn K mainGlobals "NotTable" = some (some (.ref c2)))
    (q2 : PySem.W.excIn K c2 [.type "ValueError", .type "Exception", .type "BaseException", .type "object"] "ValueError.__new__" = true)
    (kp2 : PySem.W.keepIn K (.ref c2) = true)
    (sb2 : PySem.W.subIn K (.ref c2) (.type "BaseException") = some true)
    (ty2 : PySem.W.typeIn K (.ref c2) = some (.type "type"))
    (n3 : PySem.W.nsIn K mainGlobals "NotPaper" = some (some (.ref c3)))
    (q3 : PySem.W.excIn K c3 [.type "ValueError", .type "Exception", .type "BaseException", .type "object"] "ValueError.__new__" = true)
    (kp3 : PySem.W.keepIn K (.ref c3) = true)
    (sb3 : PySem.W.subIn K (.ref c3) (.type "BaseException") = some true)
    (ty3 : PySem.W.typeIn K (.ref c3) = some (.type "type"))
    (n4 : PySem.W.nsIn K mainGlobals "BadNumber" = some (some (.ref c4)))
    (q4 : PySem.W.excIn K c4 [.type "ValueError", .type "Exception", .type "BaseException", .type "object"] "ValueError.__new__" = true)
    (kp4 : PySem.W.keepIn K (.ref c4) = true)
    (sb4 : PySem.W.subIn K (.ref c4) (.type "BaseException") = some true)
    (ty4 : PySem.W.typeIn K (.ref c4) = some (.type "type"))
    (n5 : PySem.W.nsIn K mainGlobals "NoAnswer" = some (some (.ref c5)))
    (q5 : PySem.W.excIn K c5 [.type "ValueError", .type "Exception", .type "BaseException", .type "object"] "ValueError.__new__" = true)
    (kp5 : PySem.W.keepIn K (.ref c5) = true)
    (sb5 : PySem.W.subIn K (.ref c5) (.type "BaseException") = some true)
    (ty5 : PySem.W.typeIn K (.ref c5) = some (.type "type"))
    (n6 : PySem.W.nsIn K mainGlobals "TooLarge" = some (some (.ref c6)))
    (q6 : PySem.W.excIn K c6 [.type "ValueError", .type "Exception", .type "BaseException", .type "object"] "ValueError.__new__" = true)
    (kp6 : PySem.W.keepIn K (.ref c6) = true)
    (sb6 : PySem.W.subIn K (.ref c6) (.type "BaseException") = some true)
    (ty6 : PySem.W.typeIn K (.ref c6) = some (.type "type"))
    (nM : PySem.W.nsIn K mainGlobals "MapError" = some (some (.ref c7)))
    (sbM : PySem.W.subIn K (.ref c7) (.type "BaseException") = some true)
    (hdM : PySem.W.hasDictIn K c7 = true)
    (tyM : PySem.W.typeIn K (.ref c7) = some (.type "type"))
    (hn : PySem.W.specialIn K (.builtin "object.__class__") "__get__" = some (some (.builtin "getset_descriptor.__get__")))
    (ht : PySem.W.takesIn K (.builtin "object.__class__") = some true)
    (hg0 : PySem.W.findIn K (.ref c0) "__getattribute__" = some (some (.builtin "BaseException.__getattribute__")))
    (hk0 : PySem.W.findIn K (.ref c0) "__getattr__" = some none)
    (hd0 : PySem.W.hasDictIn K c0 = true)
    (ha0 : PySem.W.findIn K (.ref c0) "__class__" = some (some (.builtin "object.__class__")))
    (hm0 : PySem.W.mroIn K c0 (.type "object") = some true)
    (ex0 : PySem.W.subIn K (.ref c0) (.ref c7) = some true)
    (kt0_1 : PySem.W.subIn K (.ref c0) (.ref c1) = some false)
    (kt0_2 : PySem.W.subIn K (.ref c0) (.ref c2) = some false)
    (kt0_3 : PySem.W.subIn K (.ref c0) (.ref c3) = some false)
    (kt0_4 : PySem.W.subIn K (.ref c0) (.ref c4) = some false)
    (kt0_5 : PySem.W.subIn K (.ref c0) (.ref c5) = some false)
    (kt0_6 : PySem.W.subIn K (.ref c0) (.ref c6) = some false)
    (hg1 : PySem.W.findIn K (.ref c1) "__getattribute__" = some (some (.builtin "BaseException.__getattribute__")))
    (hk1 : PySem.W.findIn K (.ref c1) "__getattr__" = some none)
    (hd1 : PySem.W.hasDictIn K c1 = true)
    (ha1 : PySem.W.findIn K (.ref c1) "__class__" = some (some (.builtin "object.__class__")))
    (hm1 : PySem.W.mroIn K c1 (.type "object") = some true)
    (ex1 : PySem.W.subIn K (.ref c1) (.ref c7) = some true)
    (kt1_0 : PySem.W.subIn K (.ref c1) (.ref c0) = some false)
    (kt1_2 : PySem.W.subIn K (.ref c1) (.ref c2) = some false)
    (kt1_3 : PySem.W.subIn K (.ref c1) (.ref c3) = some false)
    (kt1_4 : PySem.W.subIn K (.ref c1) (.ref c4) = some false)
    (kt1_5 : PySem.W.subIn K (.ref c1) (.ref c5) = some false)
    (kt1_6 : PySem.W.subIn K (.ref c1) (.ref c6) = some false)
    (hg2 : PySem.W.findIn K (.ref c2) "__getattribute__" = some (some (.builtin "BaseException.__getattribute__")))
    (hk2 : PySem.W.findIn K (.ref c2) "__getattr__" = some none)
    (hd2 : PySem.W.hasDictIn K c2 = true)
    (ha2 : PySem.W.findIn K (.ref c2) "__class__" = some (some (.builtin "object.__class__")))
    (hm2 : PySem.W.mroIn K c2 (.type "object") = some true)
    (ex2 : PySem.W.subIn K (.ref c2) (.ref c7) = some true)
    (kt2_0 : PySem.W.subIn K (.ref c2) (.ref c0) = some false)
    (kt2_1 : PySem.W.subIn K (.ref c2) (.ref c1) = some false)
    (kt2_3 : PySem.W.subIn K (.ref c2) (.ref c3) = some false)
    (kt2_4 : PySem.W.subIn K (.ref c2) (.ref c4) = some false)
    (kt2_5 : PySem.W.subIn K (.ref c2) (.ref c5) = some false)
    (kt2_6 : PySem.W.subIn K (.ref c2) (.ref c6) = some false)
    (hg3 : PySem.W.findIn K (.ref c3) "__getattribute__" = some (some (.builtin "BaseException.__getattribute__")))
    (hk3 : PySem.W.findIn K (.ref c3) "__getattr__" = some none)
    (hd3 : PySem.W.hasDictIn K c3 = true)
    (ha3 : PySem.W.findIn K (.ref c3) "__class__" = some (some (.builtin "object.__class__")))
    (hm3 : PySem.W.mroIn K c3 (.type "object") = some true)
    (ex3 : PySem.W.subIn K (.ref c3) (.ref c7) = some true)
    (kt3_0 : PySem.W.subIn K (.ref c3) (.ref c0) = some false)
    (kt3_1 : PySem.W.subIn K (.ref c3) (.ref c1) = some false)
    (kt3_2 : PySem.W.subIn K (.ref c3) (.ref c2) = some false)
    (kt3_4 : PySem.W.subIn K (.ref c3) (.ref c4) = some false)
    (kt3_5 : PySem.W.subIn K (.ref c3) (.ref c5) = some false)
    (kt3_6 : PySem.W.subIn K (.ref c3) (.ref c6) = some false)
    (hg4 : PySem.W.findIn K (.ref c4) "__getattribute__" = some (some (.builtin "BaseException.__getattribute__")))
    (hk4 : PySem.W.findIn K (.ref c4) "__getattr__" = some none)
    (hd4 : PySem.W.hasDictIn K c4 = true)
    (ha4 : PySem.W.findIn K (.ref c4) "__class__" = some (some (.builtin "object.__class__")))
    (hm4 : PySem.W.mroIn K c4 (.type "object") = some true)
    (ex4 : PySem.W.subIn K (.ref c4) (.ref c7) = some true)
    (kt4_0 : PySem.W.subIn K (.ref c4) (.ref c0) = some false)
    (kt4_1 : PySem.W.subIn K (.ref c4) (.ref c1) = some false)
    (kt4_2 : PySem.W.subIn K (.ref c4) (.ref c2) = some false)
    (kt4_3 : PySem.W.subIn K (.ref c4) (.ref c3) = some false)
    (kt4_5 : PySem.W.subIn K (.ref c4) (.ref c5) = some false)
    (kt4_6 : PySem.W.subIn K (.ref c4) (.ref c6) = some false)
    (hg5 : PySem.W.findIn K (.ref c5) "__getattribute__" = some (some (.builtin "BaseException.__getattribute__")))
    (hk5 : PySem.W.findIn K (.ref c5) "__getattr__" = some none)
    (hd5 : PySem.W.hasDictIn K c5 = true)
    (ha5 : PySem.W.findIn K (.ref c5) "__class__" = some (some (.builtin "object.__class__")))
    (hm5 : PySem.W.mroIn K c5 (.type "object") = some true)
    (ex5 : PySem.W.subIn K (.ref c5) (.ref c7) = some true)
    (kt5_0 : PySem.W.subIn K (.ref c5) (.ref c0) = some false)
    (kt5_1 : PySem.W.subIn K (.ref c5) (.ref c1) = some false)
    (kt5_2 : PySem.W.subIn K (.ref c5) (.ref c2) = some false)
    (kt5_3 : PySem.W.subIn K (.ref c5) (.ref c3) = some false)
    (kt5_4 : PySem.W.subIn K (.ref c5) (.ref c4) = some false)
    (kt5_6 : PySem.W.subIn K (.ref c5) (.ref c6) = some false)
    (hg6 : PySem.W.findIn K (.ref c6) "__getattribute__" = some (some (.builtin "BaseException.__getattribute__")))
    (hk6 : PySem.W.findIn K (.ref c6) "__getattr__" = some none)
    (hd6 : PySem.W.hasDictIn K c6 = true)
    (ha6 : PySem.W.findIn K (.ref c6) "__class__" = some (some (.builtin "object.__class__")))
    (hm6 : PySem.W.mroIn K c6 (.type "object") = some true)
    (ex6 : PySem.W.subIn K (.ref c6) (.ref c7) = some true)
    (kt6_0 : PySem.W.subIn K (.ref c6) (.ref c0) = some false)
    (kt6_1 : PySem.W.subIn K (.ref c6) (.ref c1) = some false)
    (kt6_2 : PySem.W.subIn K (.ref c6) (.ref c2) = some false)
    (kt6_3 : PySem.W.subIn K (.ref c6) (.ref c3) = some false)
    (kt6_4 : PySem.W.subIn K (.ref c6) (.ref c4) = some false)
    (kt6_5 : PySem.W.subIn K (.ref c6) (.ref c5) = some false)
    (nd1_0 : c1 ≠ c0)
    (nd2_0 : c2 ≠ c0)
    (nd2_1 : c2 ≠ c1)
    (nd3_0 : c3 ≠ c0)
    (nd3_1 : c3 ≠ c1)
    (nd3_2 : c3 ≠ c2)
    (nd4_0 : c4 ≠ c0)
    (nd4_1 : c4 ≠ c1)
    (nd4_2 : c4 ≠ c2)
    (nd4_3 : c4 ≠ c3)
    (nd5_0 : c5 ≠ c0)
    (nd5_1 : c5 ≠ c1)
    (nd5_2 : c5 ≠ c2)
    (nd5_3 : c5 ≠ c3)
    (nd5_4 : c5 ≠ c4)
    (nd6_0 : c6 ≠ c0)
    (nd6_1 : c6 ≠ c1)
    (nd6_2 : c6 ≠ c2)
    (nd6_3 : c6 ≠ c3)
    (nd6_4 : c6 ≠ c4)
    (nd6_5 : c6 ≠ c5)
    : ∃ (fd : FuncData) (Γ : Gm), (∀ (s : Shared) (v : Value), BindsTo s fd ⟨[v], []⟩ [("script", v)]) ∧ ∀ base : Heap, K.In base → base.Ns mainGlobals mg → FnG P w K mg base 5 fa fd ["script"] (spD K Γ 1 f_law) := by
  have e := hfa.symm.trans (PySem.W.mg_of X G a23)
  cases e
  let ca : Nat → Addr := fun i => [c0, c1, c2, c3, c4, c5, c6, c7].getD i 0
  let tk : Nat → Tok := fun i => [t0, t1, t2, t3].getD i 0
  have T : Txt K mg ca tk := ⟨PySem.W.mg_none_of X G z_all, PySem.W.mg_none_of X G z_any, PySem.W.mg_none_of X G z_enumerate, PySem.W.mg_none_of X G z_int, PySem.W.mg_none_of X G z_isinstance, PySem.W.mg_none_of X G z_len, PySem.W.mg_none_of X G z_max, PySem.W.mg_none_of X G z_min, PySem.W.mg_none_of X G z_range, PySem.W.mg_none_of X G z_repr, PySem.W.mg_none_of X G z_sum, PySem.W.mg_none_of X G z_tuple, PySem.W.mg_of X G g_FEWEST_RING, PySem.W.mg_of X G g_MOST_RING, PySem.W.mg_of X G g_MOST_ROW, PySem.W.mg_of X G g_MOST_WEIGHT, ⟨PySem.W.mg_of X G n0, q0, kp0, sb0, ty0⟩, ⟨PySem.W.mg_of X G n1, q1, kp1, sb1, ty1⟩, ⟨PySem.W.mg_of X G n2, q2, kp2, sb2, ty2⟩, ⟨PySem.W.mg_of X G n3, q3, kp3, sb3, ty3⟩, ⟨PySem.W.mg_of X G n4, q4, kp4, sb4, ty4⟩, ⟨PySem.W.mg_of X G n5, q5, kp5, sb5, ty5⟩, ⟨PySem.W.mg_of X G n6, q6, kp6, sb6, ty6⟩, (fun c hc => match c, hc with | 0, _ => ⟨hg0, hk0, sb0, hd0, ha0, hn, ht, hm0⟩ | 1, _ => ⟨hg1, hk1, sb1, hd1, ha1, hn, ht, hm1⟩ | 2, _ => ⟨hg2, hk2, sb2, hd2, ha2, hn, ht, hm2⟩ | 3, _ => ⟨hg3, hk3, sb3, hd3, ha3, hn, ht, hm3⟩ | 4, _ => ⟨hg4, hk4, sb4, hd4, ha4, hn, ht, hm4⟩ | 5, _ => ⟨hg5, hk5, sb5, hd5, ha5, hn, ht, hm5⟩ | 6, _ => ⟨hg6, hk6, sb6, hd6, ha6, hn, ht, hm6⟩), (fun c j hc hj => match c, j, hc, hj with | 0, 0, _, _ => kit_self | 0, 1, _, _ => kit_ne nd1_0.symm hd1 ty1 kt0_1 | 0, 2, _, _ => kit_ne nd2_0.symm hd2 ty2 kt0_2 | 0, 3, _, _ => kit_ne nd3_0.symm hd3 ty3 kt0_3 | 0, 4, _, _ => kit_ne nd4_0.symm hd4 ty4 kt0_4 | 0, 5, _, _ => kit_ne nd5_0.symm hd5 ty5 kt0_5 | 0, 6, _, _ => kit_ne nd6_0.symm hd6 ty6 kt0_6 | 1, 0, _, _ => kit_ne nd1_0 hd0 ty0 kt1_0 | 1, 1, _, _ => kit_self | 1, 2, _, _ => kit_ne nd2_1.symm hd2 ty2 kt1_2 | 1, 3, _, _ => kit_ne nd3_1.symm hd3 ty3 kt1_3 | 1, 4, _, _ => kit_ne nd4_1.symm hd4 ty4 kt1_4 | 1, 5, _, _ => kit_ne nd5_1.symm hd5 ty5 kt1_5 | 1, 6, _, _ => kit_ne nd6_1.symm hd6 ty6 kt1_6 | 2, 0, _, _ => kit_ne nd2_0 hd0 ty0 kt2_0 | 2, 1, _, _ => kit_ne nd2_1 hd1 ty1 kt2_1 | 2, 2, _, _ => kit_self | 2, 3, _, _ => kit_ne nd3_2.symm hd3 ty3 kt2_3 | 2, 4, _, _ => kit_ne nd4_2.symm hd4 ty4 kt2_4 | 2, 5, _, _ => kit_ne nd5_2.symm hd5 ty5 kt2_5 | 2, 6, _, _ => kit_ne nd6_2.symm hd6 ty6 kt2_6 | 3, 0, _, _ => kit_ne nd3_0 hd0 ty0 kt3_0 | 3, 1, _, _ => kit_ne nd3_1 hd1 ty1 kt3_1 | 3, 2, _, _ => kit_ne nd3_2 hd2 ty2 kt3_2 | 3, 3, _, _ => kit_self | 3, 4, _, _ => kit_ne nd4_3.symm hd4 ty4 kt3_4 | 3, 5, _, _ => kit_ne nd5_3.symm hd5 ty5 kt3_5 | 3, 6, _, _ => kit_ne nd6_3.symm hd6 ty6 kt3_6 | 4, 0, _, _ => kit_ne nd4_0 hd0 ty0 kt4_0 | 4, 1, _, _ => kit_ne nd4_1 hd1 ty1 kt4_1 | 4, 2, _, _ => kit_ne nd4_2 hd2 ty2 kt4_2 | 4, 3, _, _ => kit_ne nd4_3 hd3 ty3 kt4_3 | 4, 4, _, _ => kit_self | 4, 5, _, _ => kit_ne nd5_4.symm hd5 ty5 kt4_5 | 4, 6, _, _ => kit_ne nd6_4.symm hd6 ty6 kt4_6 | 5, 0, _, _ => kit_ne nd5_0 hd0 ty0 kt5_0 | 5, 1, _, _ => kit_ne nd5_1 hd1 ty1 kt5_1 | 5, 2, _, _ => kit_ne nd5_2 hd2 ty2 kt5_2 | 5, 3, _, _ => kit_ne nd5_3 hd3 ty3 kt5_3 | 5, 4, _, _ => kit_ne nd5_4 hd4 ty4 kt5_4 | 5, 5, _, _ => kit_self | 5, 6, _, _ => kit_ne nd6_5.symm hd6 ty6 kt5_6 | 6, 0, _, _ => kit_ne nd6_0 hd0 ty0 kt6_0 | 6, 1, _, _ => kit_ne nd6_1 hd1 ty1 kt6_1 | 6, 2, _, _ => kit_ne nd6_2 hd2 ty2 kt6_2 | 6, 3, _, _ => kit_ne nd6_3 hd3 ty3 kt6_3 | 6, 4, _, _ => kit_ne nd6_4 hd4 ty4 kt6_4 | 6, 5, _, _ => kit_ne nd6_5 hd5 ty5 kt6_5 | 6, 6, _, _ => kit_self), PySem.W.mg_of X G nM, (fun c hc => match c, hc with | 0, _ => PySem.W.exm_ref sbM hdM tyM ex0 | 1, _ => PySem.W.exm_ref sbM hdM tyM ex1 | 2, _ => PySem.W.exm_ref sbM hdM tyM ex2 | 3, _ => PySem.W.exm_ref sbM hdM tyM ex3 | 4, _ => PySem.W.exm_ref sbM hdM tyM ex4 | 5, _ => PySem.W.exm_ref sbM hdM tyM ex5 | 6, _ => PySem.W.exm_ref sbM hdM tyM ex6)⟩
  have F0 := L2.fun_mk (st := top 14) l0 e0 k0
  have b0 := F0.binds (ps := ["weights"]) fun _ _ _ _ _ _ us hl => match us, hl with | [_], _ => rfl
  have F1 := L2.fun_mk (st := top 15) l1 e1 k1
  have b1 := F1.binds (ps := ["weights", "k"]) fun _ _ _ _ _ _ us hl => match us, hl with | [_, _], _ => rfl
  have F2 := L2.fun_mk (st := top 16) l2 e2 k2
  have b2 := F2.binds (ps := ["weights", "k"]) fun _ _ _ _ _ _ us hl => match us, hl with | [_, _], _ => rfl
  have F3 := L2.fun_mk (st := top 17) l3 e3 k3
  have b3 := F3.binds (ps := ["weights", "high"]) fun _ _ _ _ _ _ us hl => match us, hl with | [_, _], _ => rfl
  have F4 := L2.fun_mk (st := top 18) l4 e4 k4
  have b4 := F4.binds (ps := ["weights", "low"]) fun _ _ _ _ _ _ us hl => match us, hl with | [_, _], _ => rfl
  have F5 := L2.fun_mk (st := top 19) l5 e5 k5
  have b5 := F5.binds (ps := ["weights", "k"]) fun _ _ _ _ _ _ us hl => match us, hl with | [_, _], _ => rfl
  have F6 := L2.fun_mk (st := top 20) l6 e6 k6
  have b6 := F6.binds (ps := ["weights", "k"]) fun _ _ _ _ _ _ us hl => match us, hl with | [_, _], _ => rfl
  have F7 := L2.fun_mk (st := top 21) l7 e7 k7
  have b7 := F7.binds (ps := ["weights", "place"]) fun _ _ _ _ _ _ us hl => match us, hl with | [_, _], _ => rfl
  have F8 := L2.fun_mk (st := top 22) l8 e8 k8
  have b8 := F8.binds (ps := ["weights", "k", "high"]) fun _ _ _ _ _ _ us hl => match us, hl with | [_, _, _], _ => rfl
  have F9 := L2.fun_mk (st := top 23) l9 e9 k9
  have b9 := F9.binds (ps := ["weights", "k"]) fun _ _ _ _ _ _ us hl => match us, hl with | [_, _], _ => rfl
  have F10 := L2.fun_mk (st := top 24) l10 e10 k10
  have b10 := F10.binds (ps := ["weights", "k", "low"]) fun _ _ _ _ _ _ us hl => match us, hl with | [_, _, _], _ => rfl
  have F11 := L2.fun_mk (st := top 25) l11 e11 k11
  have b11 := F11.binds (ps := ["weights", "k"]) fun _ _ _ _ _ _ us hl => match us, hl with | [_, _], _ => rfl
  have F12 := L2.fun_mk (st := top 27) l12 e12 k12
  have b12 := F12.binds (ps := ["cell"]) fun _ _ _ _ _ _ us hl => match us, hl with | [_], _ => rfl
  have F13 := L2.fun_mk (st := top 28) l13 e13 k13
  have b13 := F13.binds (ps := ["script"]) fun _ _ _ _ _ _ us hl => match us, hl with | [_], _ => rfl
  have F14 := L2.fun_mk (st := top 29) l14 e14 k14
  have b14 := F14.binds (ps := ["rows"]) fun _ _ _ _ _ _ us hl => match us, hl with | [_], _ => rfl
  have F15 := L2.fun_mk (st := top 30) l15 e15 k15
  have b15 := F15.binds (ps := ["draws"]) fun _ _ _ _ _ _ us hl => match us, hl with | [_], _ => rfl
  have F16 := L2.fun_mk (st := top 31) l16 e16 k16
  have b16 := F16.binds (ps := ["draws", "many"]) fun _ _ _ _ _ _ us hl => match us, hl with | [_, _], _ => rfl
  have F17 := L2.fun_mk (st := top 32) l17 e17 k17
  have b17 := F17.binds (ps := ["draws", "some"]) fun _ _ _ _ _ _ us hl => match us, hl with | [_, _], _ => rfl
  have F18 := L2.fun_mk (st := top 33) l18 e18 k18
  have b18 := F18.binds (ps := ["error"]) fun _ _ _ _ _ _ us hl => match us, hl with | [_], _ => rfl
  have F19 := L2.fun_mk (st := top 34) l19 e19 k19
  have b19 := F19.binds (ps := ["n", "k"]) fun _ _ _ _ _ _ us hl => match us, hl with | [_, _], _ => rfl
  have F20 := L2.fun_mk (st := top 35) l20 e20 k20
  have b20 := F20.binds (ps := ["draws", "n"]) fun _ _ _ _ _ _ us hl => match us, hl with | [_, _], _ => rfl
  have F21 := L2.fun_mk (st := top 36) l21 e21 k21
  have b21 := F21.binds (ps := ["weights", "cuts"]) fun _ _ _ _ _ _ us hl => match us, hl with | [_, _], _ => rfl
  have F22 := L2.fun_mk (st := top 37) l22 e22 k22
  have b22 := F22.binds (ps := ["way", "weights", "k"]) fun _ _ _ _ _ _ us hl => match us, hl with | [_, _, _], _ => rfl
  have F23 := L2.fun_mk (st := top 38) l23 e23 k23
  refine ⟨PySem.W.fnOf "law" "law" (L2.defArgs (top 38)) (L2.defBody (top 38)) (L2.defScope (top 38)) .none kV23 dc23 pm23 an23 cd23 ct23, Γ0 ca, fun s v => .of_eq rfl, fun base _ _ => ?_⟩
  have D_is_row := ok_is_row (P := P) (w := w) (base := base) T  (PySem.W.mg_of X G a0) F0 b0
  have D_check_row := ok_check_row (P := P) (w := w) (base := base) T D_is_row (PySem.W.mg_of X G a1) F1 b1
  have D_check_ring := ok_check_ring (P := P) (w := w) (base := base) T D_is_row (PySem.W.mg_of X G a2) F2 b2
  have D_starts_for := ok_starts_for (P := P) (w := w) (base := base) T  (PySem.W.mg_of X G a3) F3 b3
  have D_low_places := ok_low_places (P := P) (w := w) (base := base) T  (PySem.W.mg_of X G a4) F4 b4
  have D_least_high := ok_least_high (P := P) (w := w) (base := base) T D_check_row D_starts_for (PySem.W.mg_of X G a5) F5 b5
  have D_greatest_low := ok_greatest_low (P := P) (w := w) (base := base) T D_check_row D_low_places (PySem.W.mg_of X G a6) F6 b6
  have D_turned := ok_turned (P := P) (w := w) (base := base) T  (PySem.W.mg_of X G a7) F7 b7
  have D_ring_holds_high := ok_ring_holds_high (P := P) (w := w) (base := base) T D_starts_for D_turned (PySem.W.mg_of X G a8) F8 b8
  have D_ring_least_high := ok_ring_least_high (P := P) (w := w) (base := base) T D_check_ring D_ring_holds_high (PySem.W.mg_of X G a9) F9 b9
  have D_ring_holds_low := ok_ring_holds_low (P := P) (w := w) (base := base) T D_low_places D_turned (PySem.W.mg_of X G a10) F10 b10
  have D_ring_greatest_low := ok_ring_greatest_low (P := P) (w := w) (base := base) T D_check_ring D_ring_holds_low (PySem.W.mg_of X G a11) F11 b11
  have D__law_number := ok__law_number (P := P) (w := w) (base := base) T  (PySem.W.mg_of X G a12) F12 b12
  have D__law_draws := ok__law_draws (P := P) (w := w) (base := base) T D__law_number (PySem.W.mg_of X G a13) F13 b13
  have D__law_flat := ok__law_flat (P := P) (w := w) (base := base) T  (PySem.W.mg_of X G a14) F14 b14
  have D__law_next := ok__law_next (P := P) (w := w) (base := base) T  (PySem.W.mg_of X G a15) F15 b15
  have D__law_more := ok__law_more (P := P) (w := w) (base := base) T D__law_next (PySem.W.mg_of X G a16) F16 b16
  have D__law_pick := ok__law_pick (P := P) (w := w) (base := base) T D__law_next (PySem.W.mg_of X G a17) F17 b17
  have D_kind := ok__law_kind (P := P) (w := w) (base := base) T  (PySem.W.mg_of X G a18) F18 b18
  have D__law_all_cuts := ok__law_all_cuts (P := P) (w := w) (base := base) T  (PySem.W.mg_of X G a19) F19 b19
  have D__law_weights := ok__law_weights (P := P) (w := w) (base := base) T D__law_next D__law_pick (PySem.W.mg_of X G a20) F20 b20
  have D__law_ring_parts := ok__law_ring_parts (P := P) (w := w) (base := base) T  (PySem.W.mg_of X G a21) F21 b21
  have D__law_asked := ok__law_asked (P := P) (w := w) (base := base) T D_ring_greatest_low D_ring_least_high D_kind (PySem.W.mg_of X G a22) F22 b22
  exact ok_law T D__law_all_cuts D__law_asked D__law_draws D__law_flat D__law_more D__law_next D__law_ring_parts D__law_weights D_greatest_low D_least_high D_ring_greatest_low D_ring_least_high F23
end k32
/-! plain facts about the mirrors' combinators -/
namespace DT
open PySem
section
variable {α β γ σ : Type}
/-- a loop with a fold -/
theorem forR_fold {f : α → σ → Ro σ} (P : σ → Prop) (g : σ → α → σ) : ∀ (xs : List α) (s : σ), P s → (∀ x ∈ xs, ∀ s, P s → f x s = .ok (g s x) ∧ P (g s x)) → forR xs s f = .ok (xs.foldl g s) ∧ P (xs.foldl g s)
  | [], s, h, _ => ⟨rfl, h⟩
  | x :: xs, s, h, k => by
    obtain ⟨e, h'⟩ := k x List.mem_cons_self s h
    have := forR_fold P g xs (g s x) h' fun y hy => k y (List.mem_cons_of_mem _ hy)
    unfold forR
    rw [e, bind_ok]
    exact this
theorem forR_ok {f : α → σ → Ro σ} (P : σ → Prop) : ∀ (xs : List α) (s : σ), P s → (∀ x ∈ xs, ∀ s, P s → ∃ s', f x s = .ok s' ∧ P s') → ∃ s', forR xs s f = .ok s' ∧ P s'
  | [], s, h, _ => ⟨s, rfl, h⟩
  | x :: xs, s, h, k => by
    obtain ⟨s1, e, h'⟩ := k x List.mem_cons_self s h
    obtain ⟨s2, e2, h2⟩ := forR_ok P xs s1 h' fun y hy => k y (List.mem_cons_of_mem _ hy)
    exact ⟨s2, by unfold forR; rw [e, bind_ok]; exact e2, h2⟩
/-- .. with the number of turns -/
theorem forR_nth {f : α → σ → Ro σ} (P : Nat → σ → Prop) : ∀ (xs : List α) (n : Nat) (s : σ), P n s → (∀ i s, (h : i < xs.length) → P (n + i) s → ∃ s', f xs[i] s = .ok s' ∧ P (n + i + 1) s') → ∃ s', forR xs s f = .ok s' ∧ P (n + xs.length) s'
  | [], n, s, h, _ => ⟨s, rfl, h⟩
  | x :: xs, n, s, h, k => by
    obtain ⟨s1, e, h'⟩ := k 0 s (Nat.zero_lt_succ _) h
    obtain ⟨s2, e2, h2⟩ := forR_nth P xs (n + 1) s1 h' fun i s hi q => by
      have := k (i + 1) s (Nat.succ_lt_succ hi) (by rw [show n + (i + 1) = n + 1 + i by omega]; exact q)
      rw [show n + (i + 1) + 1 = n + 1 + i + 1 by omega] at this
      exact this
    refine ⟨s2, ?_, by rw [List.length_cons, show n + (xs.length + 1) = n + 1 + xs.length by omega]; exact h2⟩
    unfold forR
    rw [show f x s = _ from e, bind_ok]
    exact e2
theorem forB_ok {f : α → σ → Ro (σ × Bool)} (P : σ → Prop) : ∀ (xs : List α) (s : σ), P s → (∀ x ∈ xs, ∀ s, P s → ∃ s' b, f x s = .ok (s', b) ∧ P s') → ∃ s', forB xs s f = .ok s' ∧ P s'
  | [], s, h, _ => ⟨s, rfl, h⟩
  | x :: xs, s, h, k => by
    obtain ⟨s1, b, e, h'⟩ := k x List.mem_cons_self s h
    unfold forB
    rw [e, bind_ok]
    cases b
    · exact forB_ok P xs s1 h' fun y hy => k y (List.mem_cons_of_mem _ hy)
    · exact ⟨s1, rfl, h'⟩
theorem forB_nth {f : α → σ → Ro (σ × Bool)} (P : Nat → σ → Prop) : ∀ (xs : List α) (n : Nat) (s : σ), P n s → (∀ x ∈ xs, ∀ i s, n ≤ i → i < n + xs.length → P i s → ∃ s' b, f x s = .ok (s', b) ∧ P (i + 1) s') → ∃ s' j, forB xs s f = .ok s' ∧ j ≤ n + xs.length ∧ P j s'
  | [], n, s, h, _ => ⟨s, n, rfl, Nat.le_refl _, h⟩
  | x :: xs, n, s, h, k => by
    obtain ⟨s1, b, e, h'⟩ := k x List.mem_cons_self n s (Nat.le_refl _) (by simp) h
    unfold forB
    rw [e, bind_ok, List.length_cons]
    cases b
    · obtain ⟨s2, j, a, c, d⟩ := forB_nth P xs (n + 1) s1 h' fun y hy i s hi hl q => k y (List.mem_cons_of_mem _ hy) i s (by omega) (by rw [List.length_cons]; omega) q
      exact ⟨s2, j, a, by omega, d⟩
    · exact ⟨s1, n + 1, rfl, by omega, h'⟩
theorem mapR_ok {f : α → Ro β} {g : α → β} : ∀ (xs : List α), (∀ x ∈ xs, f x = .ok (g x)) → mapR xs f = .ok (xs.map g)
  | [], _ => rfl
  | x :: xs, h => by
    unfold mapR
    rw [h x List.mem_cons_self, bind_ok, mapR_ok xs fun y hy => h y (List.mem_cons_of_mem _ hy)]
    rfl
theorem fltR_ok {c : α → Ro Bool} {f : α → Ro β} {g : α → β} {p : α → Bool} : ∀ (xs : List α), (∀ x ∈ xs, c x = .ok (p x)) → (∀ x ∈ xs, p x = true → f x = .ok (g x)) → fltR xs c f = .ok ((xs.filter p).map g)
  | [], _, _ => rfl
  | x :: xs, h, k => by
    have ih := fltR_ok xs (fun y hy => h y (List.mem_cons_of_mem _ hy)) fun y hy => k y (List.mem_cons_of_mem _ hy)
    unfold fltR
    rw [h x List.mem_cons_self, bind_ok, ih, List.filter_cons]
    cases q : p x
    · rfl
    · rw [if_pos rfl, k x List.mem_cons_self q]; rfl
theorem mapS_ok {f : α → σ → Ro (β × σ)} (P : Nat → List β → σ → Prop) : ∀ (xs : List α) (n : Nat) (acc : List β) (s : σ), P n acc s → (∀ x ∈ xs, ∀ i acc s, n ≤ i → i < n + xs.length → P i acc s → ∃ y s', f x s = .ok (y, s') ∧ P (i + 1) (acc ++ [y]) s') →
    ∃ ys s', mapS xs s f = .ok (ys, s') ∧ P (n + xs.length) (acc ++ ys) s'
  | [], n, acc, s, h, _ => ⟨[], s, rfl, by rw [List.append_nil]; exact h⟩
  | x :: xs, n, acc, s, h, k => by
    obtain ⟨y, s1, e, h'⟩ := k x List.mem_cons_self n acc s (Nat.le_refl _) (by simp) h
    obtain ⟨ys, s2, e2, h2⟩ := mapS_ok P xs (n + 1) (acc ++ [y]) s1 h' fun z hz i acc s hi hl q => k z (List.mem_cons_of_mem _ hz) i acc s (by omega) (by rw [List.length_cons]; omega) q
    refine ⟨y :: ys, s2, ?_, by rw [List.length_cons, show n + (xs.length + 1) = n + 1 + xs.length by omega, show acc ++ y :: ys = acc ++ [y] ++ ys by simp]; exact h2⟩
    unfold mapS
    rw [e, bind_ok, e2]
    rfl
/-- a loop that is left by what it finds -/
theorem forT_none {f : α → σ → Ro (σ ⊕ γ)} (P : σ → Prop) : ∀ (xs : List α) (s : σ), P s → (∀ x ∈ xs, ∀ s, P s → ∃ s', f x s = .ok (.inl s') ∧ P s') → ∃ s', forT xs s f = .ok (.inl s') ∧ P s'
  | [], s, h, _ => ⟨s, rfl, h⟩
  | x :: xs, s, h, k => by
    obtain ⟨s1, e, h'⟩ := k x List.mem_cons_self s h
    obtain ⟨s2, e2, h2⟩ := forT_none P xs s1 h' fun y hy => k y (List.mem_cons_of_mem _ hy)
    exact ⟨s2, by unfold forT; rw [e, bind_ok]; exact e2, h2⟩
/-- while: by a measure -/
theorem whR_ok {c : σ → Ro Bool} {f : σ → Ro σ} (P : Nat → σ → Prop) (Q : σ → Prop) : ∀ (n m : Nat) (s : σ), m < n → P m s → (∀ m s, P m s → (c s = .ok false ∧ Q s) ∨ (c s = .ok true ∧ ∃ s' m', f s = .ok s' ∧ m' < m ∧ P m' s')) → ∃ s', whR n c f s = .ok s' ∧ Q s'
  | 0, m, s, h, _, _ => absurd h (Nat.not_lt_zero _)
  | n + 1, m, s, h, p, k => by
    unfold whR
    rcases k m s p with ⟨e, q⟩ | ⟨e, s', m', e2, hm, p'⟩
    · exact ⟨s, by rw [e]; rfl, q⟩
    · obtain ⟨s2, e3, q⟩ := whR_ok P Q n m' s' (by omega) p' k
      exact ⟨s2, by rw [e, bind_ok, if_pos rfl, e2, bind_ok]; exact e3, q⟩
theorem all_id {f : α → Bool} (xs : List α) : (xs.map f).all id = xs.all f := by rw [List.all_map]; rfl
theorem any_id {f : α → Bool} (xs : List α) : (xs.map f).any id = xs.any f := by rw [List.any_map]; rfl
theorem rngL_length (lo : Int) (n : Nat) : (rngL lo n).length = n := by simp [rngL]
theorem rngL_get {lo : Int} {n i : Nat} (h : i < (rngL lo n).length) : (rngL lo n)[i] = lo + (i : Int) := by simp [rngL]
theorem mem_rngL {lo x : Int} {n : Nat} : x ∈ rngL lo n ↔ lo ≤ x ∧ x < lo + n := by
  unfold rngL
  rw [List.mem_map]
  constructor
  · rintro ⟨i, hi, rfl⟩
    have := List.mem_range.mp hi
    omega
  · rintro ⟨a, b⟩
    exact ⟨(x - lo).toNat, List.mem_range.mpr (by omega), by omega⟩
theorem appR_ok' {xs : List α} {x : α} (h : xs.length ≤ 1000000) : appR xs x = .ok (xs ++ [x]) := appR_ok (by omega)
theorem popR_snoc (xs : List α) (x : α) : popR (xs ++ [x]) = .ok (x, xs) := by
  unfold popR
  rw [List.length_append, List.length_singleton, Nat.add_sub_cancel, List.getElem?_append_right (Nat.le_refl _), Nat.sub_self]
  simp
end
end DT
namespace DT
open PySem
section
variable {α β γ σ : Type}
/-- answers, and what holds of it -/
def Ro.Ok (p : Ro α) (Q : α → Prop) : Prop := ∃ a, p = .ok a ∧ Q a
theorem ok_of {p : Ro α} {Q : α → Prop} {a : α} (h : p = .ok a) (q : Q a) : p.Ok Q := ⟨a, h, q⟩
theorem ok_ok {Q : α → Prop} {a : α} (q : Q a) : (Ro.ok a).Ok Q := ⟨a, rfl, q⟩
theorem ok_bind {p : Ro α} {f : α → Ro β} {P : α → Prop} {Q : β → Prop} (h : p.Ok P) (k : ∀ a, P a → (f a).Ok Q) : (p.bind f).Ok Q := by
  obtain ⟨a, e, pa⟩ := h
  rw [e]; exact k a pa
theorem ok_eq {p : Ro α} {f : α → Ro β} {Q : β → Prop} {a : α} (h : p = .ok a) (k : (f a).Ok Q) : (p.bind f).Ok Q := by rw [h]; exact k
theorem ok_mono {p : Ro α} {P Q : α → Prop} (h : p.Ok P) (k : ∀ a, P a → Q a) : p.Ok Q := by
  obtain ⟨a, e, pa⟩ := h
  exact ⟨a, e, k a pa⟩
theorem ok_let {v : α} {f : α → Ro β} {Q : β → Prop} (h : (f v).Ok Q) : (Let v f).Ok Q := h
theorem ok_if {c : Bool} {p q : Ro α} {Q : α → Prop} (h : c = true → p.Ok Q) (k : c = false → q.Ok Q) : (if c = true then p else q).Ok Q := by
  cases c
  · exact k rfl
  · exact h rfl
theorem ok_noEx {p : Ro α} {Q : α → Prop} (h : p.Ok Q) : p.noEx.Ok Q := by
  obtain ⟨a, e, pa⟩ := h
  exact ⟨a, by rw [e]; rfl, pa⟩
theorem ok_app {xs : List α} {x : α} {Q : List α → Prop} (h : xs.length ≤ 1000000) (q : Q (xs ++ [x])) : (appR xs x).Ok Q := ⟨_, appR_ok' h, q⟩
theorem ok_cat {xs ys : List α} {Q : List α → Prop} (h : xs.length + ys.length ≤ 16777216) (q : Q (xs ++ ys)) : (catR xs ys).Ok Q := ⟨_, catR_ok h, q⟩
theorem ok_sz {n : Nat} {a : α} {Q : α → Prop} (h : n ≤ 16777216) (q : Q a) : (szR n a).Ok Q := ⟨_, szR_ok h, q⟩
theorem ok_mod {i j : Int} {Q : Int → Prop} (h : 0 < j) (q : Q (i % j)) : (modR i j).Ok Q := ⟨_, modR_ok h, q⟩
theorem ok_div {i j : Int} {Q : Int → Prop} (h : 0 < j ∧ j < 1073741824) (q : Q (i / j)) : (divR i j).Ok Q := ⟨_, divR_ok h, q⟩
theorem ok_rng1 {j : Int} {Q : List Int → Prop} (h : -4611686018427387904 ≤ j ∧ j < 4611686018427387904) (q : Q (rngL 0 j.toNat)) : (rng1R j).Ok Q := ⟨_, rng1R_ok h, q⟩
theorem ok_rng2 {i j : Int} {Q : List Int → Prop} (h : (-4611686018427387904 ≤ i ∧ i < 4611686018427387904) ∧ -4611686018427387904 ≤ j ∧ j < 4611686018427387904) (q : Q (rngL i (j - i).toNat)) : (rng2R i j).Ok Q := ⟨_, rng2R_ok h, q⟩
theorem ok_ix {xs : List α} {n : Nat} {Q : α → Prop} (h : n < xs.length) (q : Q xs[n]) : (ixR xs (n : Int)).Ok Q := ⟨_, ixR_ok (List.getElem?_eq_getElem h), q⟩
theorem ok_forR {f : α → σ → Ro σ} {xs : List α} {s : σ} {Q : σ → Prop} (P : Nat → σ → Prop) (h : P 0 s) (k : ∀ i s, (hi : i < xs.length) → P i s → (f xs[i] s).Ok (P (i + 1))) (q : ∀ s, P xs.length s → Q s) : (forR xs s f).Ok Q := by
  obtain ⟨s', e, p⟩ := forR_nth P xs 0 s h fun i s hi p => by
    rw [Nat.zero_add] at p ⊢
    exact k i s hi p
  rw [Nat.zero_add] at p
  exact ⟨s', e, q s' p⟩
theorem ok_forB {f : α → σ → Ro (σ × Bool)} {xs : List α} {s : σ} {Q : σ → Prop} (P : Nat → σ → Prop) (h : P 0 s) (k : ∀ x ∈ xs, ∀ i s, i < xs.length → P i s → (f x s).Ok fun z => P (i + 1) z.1) (q : ∀ i s, i ≤ xs.length → P i s → Q s) : (forB xs s f).Ok Q := by
  obtain ⟨s', j, e, hj, p⟩ := forB_nth P xs 0 s h fun x hx i s _ hi p => by
    obtain ⟨z, e, pz⟩ := k x hx i s (by omega) p
    exact ⟨z.1, z.2, e, pz⟩
  exact ⟨s', e, q j s' (by omega) p⟩
theorem ok_mapS {f : α → σ → Ro (β × σ)} {xs : List α} {s : σ} {Q : List β × σ → Prop} (P : Nat → List β → σ → Prop) (h : P 0 [] s) (k : ∀ x ∈ xs, ∀ i acc s, i < xs.length → P i acc s → (f x s).Ok fun z => P (i + 1) (acc ++ [z.1]) z.2) (q : ∀ ys s, P xs.length ys s → Q (ys, s)) : (mapS xs s f).Ok Q := by
  obtain ⟨ys, s', e, p⟩ := mapS_ok P xs 0 [] s h fun x hx i acc s _ hi p => by
    obtain ⟨z, e, pz⟩ := k x hx i acc s (by omega) p
    exact ⟨z.1, z.2, e, pz⟩
  rw [Nat.zero_add] at p
  exact ⟨_, e, q ys s' p⟩
theorem ok_whR {n : Nat} {c : σ → Ro Bool} {f : σ → Ro σ} {s : σ} {Q : σ → Prop} (m : Nat) (P : Nat → σ → Prop) (hm : m < n) (h : P m s) (k : ∀ m s, P m s → (c s = .ok false ∧ Q s) ∨ (c s = .ok true ∧ (f s).Ok fun s' => ∃ m', m' < m ∧ P m' s')) : (whR n c f s).Ok Q := by
  obtain ⟨s', e, q⟩ := whR_ok P Q n m s hm h fun m s p => by
    rcases k m s p with z | ⟨e, s', e2, m', hm', p'⟩
    · exact .inl z
    · exact .inr ⟨e, s', m', e2, hm', p'⟩
  exact ⟨s', e, q⟩
end
end DT
/-! rows and their parts: plain facts -/
namespace RK
def Nn (ws : List Int) : Prop := ∀ w ∈ ws, 0 ≤ w
theorem Nn.tail {w : Int} {ws : List Int} (h : Nn (w :: ws)) : Nn ws := fun x m => h x (List.mem_cons_of_mem _ m)
theorem Nn.head {w : Int} {ws : List Int} (h : Nn (w :: ws)) : 0 ≤ w := h w List.mem_cons_self
theorem Nn.sum : ∀ {ws : List Int}, Nn ws → 0 ≤ ws.sum
  | [], _ => Int.le_refl 0
  | w :: ws, h => by
    rw [List.sum_cons]
    have := h.head
    have := h.tail.sum
    omega
theorem Nn.l {a b : List Int} (h : Nn (a ++ b)) : Nn a := fun x m => h x (List.mem_append_left _ m)
theorem Nn.r {a b : List Int} (h : Nn (a ++ b)) : Nn b := fun x m => h x (List.mem_append_right _ m)
theorem Nn.app {a b : List Int} (h : Nn a) (k : Nn b) : Nn (a ++ b) := fun x m => (List.mem_append.mp m).elim (h x) (k x)
theorem sum_app (a b : List Int) : (a ++ b).sum = a.sum + b.sum := List.sum_append
/-- parts, as long as can be: how many begin behind the open one -/
def ndd (h : Int) : Int → List Int → Nat
  | _, [] => 0
  | a, w :: ws => if a + w > h then ndd h w ws + 1 else ndd h (a + w) ws
/-- parts, as short as can be: how many are filled -/
def fld (l : Int) : Int → List Int → Nat
  | _, [] => 0
  | a, w :: ws => if a + w ≥ l then fld l 0 ws + 1 else fld l (a + w) ws
theorem ndd_cons (h a w : Int) (ws : List Int) : ndd h a (w :: ws) = if a + w > h then ndd h w ws + 1 else ndd h (a + w) ws := rfl
theorem fld_cons (l a w : Int) (ws : List Int) : fld l a (w :: ws) = if a + w ≥ l then fld l 0 ws + 1 else fld l (a + w) ws := rfl
theorem ndd_mono {h h' : Int} (hh : h ≤ h') : ∀ (ws : List Int), Nn ws → (∀ a' a : Int, 0 ≤ a' → a' ≤ a → ndd h' a' ws ≤ ndd h a ws) ∧ ∀ a' a : Int, 0 ≤ a' → 0 ≤ a → ndd h' a' ws ≤ ndd h a ws + 1
  | [], _ => ⟨fun _ _ _ _ => Nat.le_refl _, fun _ _ _ _ => by simp [ndd]⟩
  | w :: ws, nn => by
    obtain ⟨iA, iB⟩ := ndd_mono hh ws nn.tail
    have w0 := nn.head
    constructor
    · intro a' a h0 h1
      unfold ndd
      by_cases c1 : a' + w > h'
      · rw [if_pos c1, if_pos (show a + w > h by omega)]
        have := iA w w w0 (Int.le_refl w)
        omega
      · rw [if_neg c1]
        by_cases c2 : a + w > h
        · rw [if_pos c2]
          exact iB (a' + w) w (by omega) w0
        · rw [if_neg c2]
          exact iA (a' + w) (a + w) (by omega) (by omega)
    · intro a' a h0 h1
      unfold ndd
      by_cases c1 : a' + w > h'
      · rw [if_pos c1]
        by_cases c2 : a + w > h
        · rw [if_pos c2]
          have := iA w w w0 (Int.le_refl w)
          omega
        · rw [if_neg c2]
          have := iA w (a + w) w0 (by omega)
          omega
      · rw [if_neg c1]
        by_cases c2 : a + w > h
        · rw [if_pos c2]
          have := iB (a' + w) w (by omega) w0
          omega
        · rw [if_neg c2]
          exact iB (a' + w) (a + w) (by omega) (by omega)
theorem fld_mono {l l' : Int} (hh : l ≤ l') : ∀ (ws : List Int), Nn ws → (∀ a' a : Int, 0 ≤ a' → a' ≤ a → fld l' a' ws ≤ fld l a ws) ∧ ∀ a' a : Int, 0 ≤ a' → 0 ≤ a → fld l' a' ws ≤ fld l a ws + 1
  | [], _ => ⟨fun _ _ _ _ => Nat.le_refl _, fun _ _ _ _ => by simp [fld]⟩
  | w :: ws, nn => by
    obtain ⟨iA, iB⟩ := fld_mono hh ws nn.tail
    have w0 := nn.head
    constructor
    · intro a' a h0 h1
      unfold fld
      by_cases c1 : a' + w ≥ l'
      · rw [if_pos c1, if_pos (show a + w ≥ l by omega)]
        have := iA 0 0 (Int.le_refl 0) (Int.le_refl 0)
        omega
      · rw [if_neg c1]
        by_cases c2 : a + w ≥ l
        · rw [if_pos c2]
          exact iB (a' + w) 0 (by omega) (Int.le_refl 0)
        · rw [if_neg c2]
          exact iA (a' + w) (a + w) (by omega) (by omega)
    · intro a' a h0 h1
      unfold fld
      by_cases c1 : a' + w ≥ l'
      · rw [if_pos c1]
        by_cases c2 : a + w ≥ l
        · rw [if_pos c2]
          have := iA 0 0 (Int.le_refl 0) (Int.le_refl 0)
          omega
        · rw [if_neg c2]
          have := iA 0 (a + w) (Int.le_refl 0) (by omega)
          omega
      · rw [if_neg c1]
        by_cases c2 : a + w ≥ l
        · rw [if_pos c2]
          have := iB (a' + w) 0 (by omega) (Int.le_refl 0)
          omega
        · rw [if_neg c2]
          exact iB (a' + w) (a + w) (by omega) (by omega)
/-! ### parts as a list of lists -/
theorem ndd_app {h : Int} : ∀ (x r : List Int) (a : Int), Nn x → a + x.sum ≤ h → ndd h a (x ++ r) = ndd h (a + x.sum) r
  | [], r, a, _, _ => by simp
  | w :: x, r, a, nn, hs => by
    rw [List.sum_cons] at hs
    have := nn.tail.sum
    rw [List.cons_append, ndd_cons, if_neg (by omega), ndd_app x r (a + w) nn.tail (by omega), List.sum_cons, Int.add_assoc]
theorem ndd_parts {h : Int} : ∀ L : List (List Int), (∀ x ∈ L, x.sum ≤ h) → Nn L.flatten → (∀ b, 0 ≤ b → ndd h b L.flatten ≤ L.length) ∧ (L ≠ [] → ndd h 0 L.flatten + 1 ≤ L.length)
  | [], _, _ => ⟨fun _ _ => Nat.le_refl _, fun z => absurd rfl z⟩
  | x :: L, hx, nn => by
    rw [List.flatten_cons] at nn
    have ih := (ndd_parts L (fun y m => hx y (List.mem_cons_of_mem _ m)) nn.r).1
    have s0 := nn.l.sum
    have two : ndd h 0 (x :: L).flatten ≤ L.length := by
      rw [List.flatten_cons, ndd_app x _ 0 nn.l (by have := hx x List.mem_cons_self; omega)]
      exact ih _ (by omega)
    refine ⟨fun b hb => ?_, fun _ => by rw [List.length_cons]; omega⟩
    have nn' : Nn (x :: L).flatten := by rw [List.flatten_cons]; exact nn
    have := (ndd_mono (Int.le_refl h) _ nn').2 b 0 hb (Int.le_refl 0)
    rw [List.length_cons]
    omega
theorem ndd_ex {h : Int} : ∀ (ws y : List Int), y ≠ [] → y.sum ≤ h → (∀ w ∈ ws, w ≤ h) → ∃ L : List (List Int), L.flatten = y ++ ws ∧ L.length = ndd h y.sum ws + 1 ∧ ∀ x ∈ L, x ≠ [] ∧ x.sum ≤ h
  | [], y, h0, h1, _ => ⟨[y], by simp, rfl, fun x m => by rw [List.mem_singleton.mp m]; exact ⟨h0, h1⟩⟩
  | w :: ws, y, h0, h1, hw => by
    unfold ndd
    have hw' : ∀ v ∈ ws, v ≤ h := fun v m => hw v (List.mem_cons_of_mem _ m)
    by_cases c : y.sum + w > h
    · rw [if_pos c]
      obtain ⟨L, a, b, d⟩ := ndd_ex ws [w] (by simp) (by have := hw w List.mem_cons_self; simpa using this) hw'
      refine ⟨y :: L, by rw [List.flatten_cons, a]; simp, by rw [List.length_cons, b]; simp, fun x m => ?_⟩
      rcases List.mem_cons.mp m with rfl | m
      · exact ⟨h0, h1⟩
      · exact d x m
    · rw [if_neg c]
      have e : (y ++ [w]).sum = y.sum + w := by rw [sum_app]; simp
      obtain ⟨L, a, b, d⟩ := ndd_ex ws (y ++ [w]) (by simp) (by omega) hw'
      exact ⟨L, by rw [a]; simp, by rw [b, e], d⟩
theorem fld_skip {l : Int} : ∀ (x r : List Int) (a : Int), Nn (x ++ r) → 0 ≤ a → fld l 0 r ≤ fld l a (x ++ r)
  | [], r, a, nn, h => (fld_mono (Int.le_refl l) r nn).1 0 a (Int.le_refl 0) h
  | w :: x, r, a, nn, h => by
    have w0 : 0 ≤ w := nn w (by simp)
    have nn' : Nn (x ++ r) := fun v m => nn v (List.mem_cons_of_mem _ m)
    rw [List.cons_append, fld_cons]
    split
    · have := fld_skip (l := l) x r 0 nn' (Int.le_refl 0); omega
    · exact fld_skip x r (a + w) nn' (by omega)
theorem fld_one {l : Int} : ∀ (x r : List Int) (a : Int), x ≠ [] → Nn (x ++ r) → 0 ≤ a → l ≤ a + x.sum → fld l 0 r + 1 ≤ fld l a (x ++ r)
  | [], r, a, h, _, _, _ => absurd rfl h
  | w :: x, r, a, _, nn, h, hs => by
    have w0 : 0 ≤ w := nn w (by simp)
    have nn' : Nn (x ++ r) := fun v m => nn v (List.mem_cons_of_mem _ m)
    rw [List.sum_cons] at hs
    rw [List.cons_append, fld_cons]
    by_cases c : a + w ≥ l
    · rw [if_pos c]
      have := fld_skip (l := l) x r 0 nn' (Int.le_refl 0); omega
    · rw [if_neg c]
      cases x with
      | nil => simp at hs; omega
      | cons v x => exact fld_one (v :: x) r (a + w) (by simp) nn' (by omega) (by omega)
theorem fld_parts {l : Int} : ∀ L : List (List Int), (∀ x ∈ L, x ≠ [] ∧ l ≤ x.sum) → Nn L.flatten → L.length ≤ fld l 0 L.flatten
  | [], _, _ => Nat.zero_le _
  | x :: L, hx, nn => by
    have nn' : Nn (x ++ L.flatten) := by rw [← List.flatten_cons]; exact nn
    have ih := fld_parts L (fun y m => hx y (List.mem_cons_of_mem _ m)) nn'.r
    have h1 := hx x List.mem_cons_self
    have := fld_one (l := l) x L.flatten 0 h1.1 nn' (Int.le_refl 0) (by omega)
    rw [List.flatten_cons, List.length_cons]
    omega
theorem fld_ex {l : Int} : ∀ (ws y : List Int), Nn ws → 1 ≤ fld l y.sum ws → ∃ L : List (List Int), L.flatten = y ++ ws ∧ L.length = fld l y.sum ws ∧ ∀ x ∈ L, x ≠ [] ∧ l ≤ x.sum
  | [], y, _, h => by unfold fld at h; omega
  | w :: ws, y, nn, h => by
    unfold fld at h ⊢
    by_cases c : y.sum + w ≥ l
    · rw [if_pos c] at h ⊢
      by_cases h1 : 1 ≤ fld l 0 ws
      · obtain ⟨L, a, b, d⟩ := fld_ex ws [] nn.tail (by simpa using h1)
        refine ⟨(y ++ [w]) :: L, by rw [List.flatten_cons, a]; simp, by rw [List.length_cons, b]; simp, fun x m => ?_⟩
        rcases List.mem_cons.mp m with rfl | m
        · exact ⟨by simp, by rw [sum_app]; simpa using c⟩
        · exact d x m
      · refine ⟨[y ++ w :: ws], by simp, by simp; omega, fun x m => ?_⟩
        rw [List.mem_singleton.mp m]
        refine ⟨by simp, ?_⟩
        rw [sum_app, List.sum_cons]
        have := nn.tail.sum
        omega
    · rw [if_neg c] at h ⊢
      have e : (y ++ [w]).sum = y.sum + w := by rw [sum_app]; simp
      obtain ⟨L, a, b, d⟩ := fld_ex ws (y ++ [w]) nn.tail (by rw [e]; exact h)
      exact ⟨L, by rw [a]; simp, by rw [b, e], d⟩
/-- can be cut into at most k parts none of which is heavier than h -/
def FH (h : Int) (k : Nat) (ws : List Int) : Prop := ∃ L : List (List Int), L.flatten = ws ∧ L.length ≤ k ∧ ∀ x ∈ L, x ≠ [] ∧ x.sum ≤ h
/-- can be cut into k parts, or more, none of which is lighter than l -/
def FL (l : Int) (k : Nat) (ws : List Int) : Prop := ∃ L : List (List Int), L.flatten = ws ∧ k ≤ L.length ∧ ∀ x ∈ L, x ≠ [] ∧ l ≤ x.sum
theorem FH_iff {h : Int} {k : Nat} {ws : List Int} (ne : ws ≠ []) (nn : Nn ws) (hw : ∀ w ∈ ws, w ≤ h) : FH h k ws ↔ ndd h 0 ws + 1 ≤ k := by
  constructor
  · rintro ⟨L, a, b, d⟩
    subst a
    have := (ndd_parts L (fun x m => (d x m).2) nn).2 (fun z => ne (by rw [z]; rfl))
    omega
  · intro hk
    cases ws with
    | nil => exact absurd rfl ne
    | cons w ws =>
      have w1 := hw w List.mem_cons_self
      obtain ⟨L, a, b, d⟩ := ndd_ex (h := h) ws [w] (by simp) (by simpa using w1) fun v m => hw v (List.mem_cons_of_mem _ m)
      refine ⟨L, by rw [a]; rfl, ?_, d⟩
      unfold ndd at hk
      rw [if_neg (by omega), Int.zero_add] at hk
      rw [b]
      simpa using hk
theorem FL_iff {l : Int} {k : Nat} {ws : List Int} (nn : Nn ws) (hk : 1 ≤ k) : FL l k ws ↔ k ≤ fld l 0 ws := by
  constructor
  · rintro ⟨L, a, b, d⟩
    subst a
    have := fld_parts L d nn
    omega
  · intro h
    obtain ⟨L, a, b, d⟩ := fld_ex (l := l) ws [] nn (by simp; omega)
    exact ⟨L, by rw [a]; rfl, by rw [b]; simpa using h, d⟩
/-! ### binary search -/
def bsH (P : Int → Bool) : Nat → Int → Int → Int
  | 0, lo, _ => lo
  | n + 1, lo, hi => if lo < hi then (if P ((lo + hi) / 2) = true then bsH P n lo ((lo + hi) / 2) else bsH P n ((lo + hi) / 2 + 1) hi) else lo
def bsG (P : Int → Bool) : Nat → Int → Int → Int
  | 0, lo, _ => lo
  | n + 1, lo, hi => if lo < hi then (if P ((lo + hi + 1) / 2) = true then bsG P n ((lo + hi + 1) / 2) hi else bsG P n lo ((lo + hi + 1) / 2 - 1)) else lo
theorem pow_split (m : Nat) : (2 : Int) ^ (m + 1) = 2 * 2 ^ m := by rw [Int.pow_succ]; omega
/-- the least one at which a rising test holds -/
def Lst (P : Int → Bool) (lo hi v : Int) : Prop := lo ≤ v ∧ v ≤ hi ∧ P v = true ∧ ∀ x, lo ≤ x → x < v → P x = false
/-- the greatest one -/
def Gst (P : Int → Bool) (lo hi v : Int) : Prop := lo ≤ v ∧ v ≤ hi ∧ P v = true ∧ ∀ x, v < x → x ≤ hi → P x = false
theorem bsH_spec (P : Int → Bool) (mono : ∀ x y, P x = true → x ≤ y → P y = true) : ∀ (m : Nat) (lo hi : Int), lo ≤ hi → hi - lo < 2 ^ m → P hi = true → Lst P lo hi (bsH P m lo hi)
  | 0, lo, hi, h, hd, hp => by
    have : hi = lo := by omega
    subst this
    exact ⟨Int.le_refl _, Int.le_refl _, hp, fun x a b => by simp only [bsH] at b; omega⟩
  | m + 1, lo, hi, h, hd, hp => by
    rw [pow_split] at hd
    unfold bsH
    by_cases c : lo < hi
    · rw [if_pos c]
      by_cases q : P ((lo + hi) / 2) = true
      · rw [if_pos q]
        obtain ⟨a, b, e, d⟩ := bsH_spec P mono m lo ((lo + hi) / 2) (by omega) (by omega) q
        exact ⟨a, by omega, e, d⟩
      · rw [if_neg q]
        obtain ⟨a, b, e, d⟩ := bsH_spec P mono m ((lo + hi) / 2 + 1) hi (by omega) (by omega) hp
        refine ⟨by omega, b, e, fun x h1 h2 => ?_⟩
        by_cases hx : (lo + hi) / 2 + 1 ≤ x
        · exact d x hx h2
        · cases z : P x with
          | false => rfl
          | true => exact absurd (mono x _ z (by omega)) q
    · rw [if_neg c]
      have : hi = lo := by omega
      subst this
      exact ⟨Int.le_refl _, Int.le_refl _, hp, fun x a b => by omega⟩
theorem bsG_spec (P : Int → Bool) (anti : ∀ x y, P y = true → x ≤ y → P x = true) : ∀ (m : Nat) (lo hi : Int), lo ≤ hi → hi - lo < 2 ^ m → P lo = true → Gst P lo hi (bsG P m lo hi)
  | 0, lo, hi, h, hd, hp => by
    have : hi = lo := by omega
    subst this
    exact ⟨Int.le_refl _, Int.le_refl _, hp, fun x a b => by simp only [bsG] at a; omega⟩
  | m + 1, lo, hi, h, hd, hp => by
    rw [pow_split] at hd
    unfold bsG
    by_cases c : lo < hi
    · rw [if_pos c]
      by_cases q : P ((lo + hi + 1) / 2) = true
      · rw [if_pos q]
        obtain ⟨a, b, e, d⟩ := bsG_spec P anti m ((lo + hi + 1) / 2) hi (by omega) (by omega) q
        exact ⟨by omega, b, e, d⟩
      · rw [if_neg q]
        obtain ⟨a, b, e, d⟩ := bsG_spec P anti m lo ((lo + hi + 1) / 2 - 1) (by omega) (by omega) hp
        refine ⟨a, by omega, e, fun x h1 h2 => ?_⟩
        by_cases hx : x ≤ (lo + hi + 1) / 2 - 1
        · exact d x h1 hx
        · cases z : P x with
          | false => rfl
          | true => exact absurd (anti _ x z (by omega)) q
    · rw [if_neg c]
      have : hi = lo := by omega
      subst this
      exact ⟨Int.le_refl _, Int.le_refl _, hp, fun x a b => by omega⟩
theorem Lst.uniq {P : Int → Bool} {lo hi hi' v u : Int} (h : Lst P lo hi v) (k : Lst P lo hi' u) : v = u := by
  obtain ⟨a, b, c, d⟩ := h
  obtain ⟨a', b', c', d'⟩ := k
  by_cases h1 : v < u
  · rw [d' v a h1] at c; cases c
  · by_cases h2 : u < v
    · rw [d u a' h2] at c'; cases c'
    · omega
/-! ### the greatest and the least of a list -/
def mxL : List Int → Int
  | [] => 0
  | x :: xs => xs.foldl max x
def mnL : List Int → Int
  | [] => 0
  | x :: xs => xs.foldl min x
theorem foldl_max_ge : ∀ (ws : List Int) (w : Int), w ≤ ws.foldl max w ∧ ∀ x ∈ ws, x ≤ ws.foldl max w
  | [], w => ⟨Int.le_refl w, fun _ h => by cases h⟩
  | y :: ws, w => by
    rw [List.foldl_cons]
    obtain ⟨h1, h2⟩ := foldl_max_ge ws (max w y)
    refine ⟨by omega, fun x m => ?_⟩
    rcases List.mem_cons.mp m with rfl | m
    · omega
    · exact h2 x m
theorem foldl_max_mem : ∀ (ws : List Int) (w : Int), ws.foldl max w ∈ w :: ws
  | [], w => List.mem_cons_self
  | y :: ws, w => by
    rw [List.foldl_cons]
    rcases List.mem_cons.mp (foldl_max_mem ws (max w y)) with h | h
    · rw [h]
      by_cases hwy : w ≤ y
      · rw [show max w y = y by omega]; simp
      · rw [show max w y = w by omega]; simp
    · exact List.mem_cons_of_mem _ (List.mem_cons_of_mem _ h)
theorem foldl_min_le : ∀ (ws : List Int) (w : Int), ws.foldl min w ≤ w ∧ ∀ x ∈ ws, ws.foldl min w ≤ x
  | [], w => ⟨Int.le_refl _, fun x m => nomatch m⟩
  | y :: ys, w => by
    rw [List.foldl_cons]
    obtain ⟨a, b⟩ := foldl_min_le ys (min w y)
    refine ⟨by omega, fun x m => ?_⟩
    rcases List.mem_cons.mp m with rfl | m
    · omega
    · exact b x m
theorem foldl_min_mem : ∀ (ws : List Int) (w : Int), ws.foldl min w ∈ w :: ws
  | [], w => List.mem_cons_self
  | y :: ys, w => by
    rw [List.foldl_cons]
    rcases List.mem_cons.mp (foldl_min_mem ys (min w y)) with e | m
    · rw [e]
      by_cases hwy : w ≤ y
      · rw [show min w y = w by omega]; simp
      · rw [show min w y = y by omega]; simp
    · exact List.mem_cons_of_mem _ (List.mem_cons_of_mem _ m)
theorem mxL_ge {xs : List Int} {x : Int} (h : x ∈ xs) : x ≤ mxL xs := by
  cases xs with
  | nil => cases h
  | cons y ys =>
    rcases List.mem_cons.mp h with rfl | h
    · exact (foldl_max_ge ys x).1
    · exact (foldl_max_ge ys y).2 x h
theorem mxL_mem {xs : List Int} (h : xs ≠ []) : mxL xs ∈ xs := by
  cases xs with
  | nil => exact absurd rfl h
  | cons y ys => exact foldl_max_mem ys y
theorem mnL_le {xs : List Int} {x : Int} (h : x ∈ xs) : mnL xs ≤ x := by
  cases xs with
  | nil => cases h
  | cons y ys =>
    rcases List.mem_cons.mp h with rfl | h
    · exact (foldl_min_le ys x).1
    · exact (foldl_min_le ys y).2 x h
theorem mnL_mem {xs : List Int} (h : xs ≠ []) : mnL xs ∈ xs := by
  cases xs with
  | nil => exact absurd rfl h
  | cons y ys => exact foldl_min_mem ys y
theorem maxR_ok {xs : List Int} (h : xs ≠ []) : DT.maxR xs = .ok (mxL xs) := by
  cases xs with
  | nil => exact absurd rfl h
  | cons x xs => unfold DT.maxR; rfl
theorem minR_ok {xs : List Int} (h : xs ≠ []) : DT.minR xs = .ok (mnL xs) := by
  cases xs with
  | nil => exact absurd rfl h
  | cons x xs => unfold DT.minR; rfl
theorem mem_le_sum : ∀ {ws : List Int} {x : Int}, Nn ws → x ∈ ws → x ≤ ws.sum
  | w :: ws, x, nn, h => by
    rw [List.sum_cons]
    have := nn.tail.sum
    have := nn.head
    rcases List.mem_cons.mp h with rfl | h
    · omega
    · have := mem_le_sum nn.tail h; omega
/-! ### exactly k parts -/
theorem split_one : ∀ (L : List (List Int)), (∀ x ∈ L, x ≠ []) → L.length < L.flatten.length → ∃ A x y B, L = A ++ (x ++ y) :: B ∧ x ≠ [] ∧ y ≠ []
  | [], _, h => by simp at h
  | [] :: L, hx, _ => absurd rfl (hx [] List.mem_cons_self)
  | [a] :: L, hx, h => by
    obtain ⟨A, x, y, B, e, h1, h2⟩ := split_one L (fun z m => hx z (List.mem_cons_of_mem _ m)) (by simp at h ⊢; omega)
    exact ⟨[a] :: A, x, y, B, by rw [e]; rfl, h1, h2⟩
  | (a :: b :: r) :: L, _, _ => ⟨[], [a], b :: r, L, rfl, by simp, by simp⟩
theorem exact_high {h : Int} {k : Nat} : ∀ (d : Nat) (L : List (List Int)), k - L.length = d → L.length ≤ k → k ≤ L.flatten.length → Nn L.flatten → (∀ x ∈ L, x ≠ [] ∧ x.sum ≤ h) → ∃ L' : List (List Int), L'.flatten = L.flatten ∧ L'.length = k ∧ ∀ x ∈ L', x ≠ [] ∧ x.sum ≤ h
  | 0, L, hd, h1, _, _, hx => ⟨L, rfl, by omega, hx⟩
  | d + 1, L, hd, h1, h2, nn, hx => by
    obtain ⟨A, x, y, B, e, hx1, hy1⟩ := split_one L (fun x m => (hx x m).1) (by omega)
    subst e
    have fl : (A ++ x :: y :: B).flatten = (A ++ (x ++ y) :: B).flatten := by simp
    have nn2 : Nn (x ++ y) := fun z m => nn z (by simp only [List.flatten_append, List.flatten_cons, List.mem_append]; exact .inr (.inl (List.mem_append.mp m)))
    have hs := (hx (x ++ y) (by simp)).2
    rw [sum_app] at hs
    have := nn2.l.sum
    have := nn2.r.sum
    rw [← fl]
    refine exact_high d (A ++ x :: y :: B) (by simp at hd ⊢; omega) (by simp at hd h1 ⊢; omega) (by rw [fl]; exact h2) (by rw [fl]; exact nn) fun z m => ?_
    rcases List.mem_append.mp m with m | m
    · exact hx z (by simp [m])
    · rcases List.mem_cons.mp m with rfl | m
      · exact ⟨hx1, by omega⟩
      · rcases List.mem_cons.mp m with rfl | m
        · exact ⟨hy1, by omega⟩
        · exact hx z (by simp [m])
theorem exact_low {l : Int} {k : Nat} (hk : 1 ≤ k) : ∀ (d : Nat) (L : List (List Int)), L.length - k = d → k ≤ L.length → Nn L.flatten → (∀ x ∈ L, x ≠ [] ∧ l ≤ x.sum) → ∃ L' : List (List Int), L'.flatten = L.flatten ∧ L'.length = k ∧ ∀ x ∈ L', x ≠ [] ∧ l ≤ x.sum
  | 0, L, hd, h1, _, hx => ⟨L, rfl, by omega, hx⟩
  | d + 1, [], hd, h1, _, _ => by simp at h1; omega
  | d + 1, [x], hd, h1, _, _ => by simp at hd h1; omega
  | d + 1, x :: y :: L, hd, h1, nn, hx => by
    have fl : ((x ++ y) :: L).flatten = (x :: y :: L).flatten := by simp
    have ny : Nn y := fun z m => nn z (by simp [m])
    rw [← fl]
    refine exact_low hk d ((x ++ y) :: L) (by simp at hd ⊢; omega) (by simp at hd h1 ⊢; omega) (by rw [fl]; exact nn) fun z m => ?_
    rcases List.mem_cons.mp m with rfl | m
    · have h1 := hx x List.mem_cons_self
      refine ⟨fun e => h1.1 (List.append_eq_nil_iff.mp e).1, ?_⟩
      rw [sum_app]
      have := ny.sum
      omega
    · exact hx z (by simp [m])
end RK
/-! rings and their parts -/
namespace RK
open DT
def rot (ws : List Int) (i : Nat) : List Int := ws.drop i ++ ws.take i
theorem rot_len (ws : List Int) (i : Nat) : (rot ws i).length = ws.length := by
  unfold rot; rw [List.length_append, List.length_drop, List.length_take]; omega
theorem rot_zero (ws : List Int) : rot ws 0 = ws := by simp [rot]
theorem rot_all (ws : List Int) : rot ws ws.length = ws := by simp [rot]
theorem rot_split (x y : List Int) : rot (x ++ y) x.length = y ++ x := by simp [rot]
theorem rot_nn {ws : List Int} (h : Nn ws) (i : Nat) : Nn (rot ws i) := fun x m => by
  rcases List.mem_append.mp m with m | m
  · exact h x (List.mem_of_mem_drop m)
  · exact h x (List.mem_of_mem_take m)
theorem rot_mem {ws : List Int} {i : Nat} {x : Int} : x ∈ rot ws i ↔ x ∈ ws := by
  unfold rot
  rw [List.mem_append]
  constructor
  · rintro (m | m)
    · exact List.mem_of_mem_drop m
    · exact List.mem_of_mem_take m
  · intro m
    rw [← List.take_append_drop i ws] at m
    exact (List.mem_append.mp m).symm
theorem rot_sum (ws : List Int) (i : Nat) : (rot ws i).sum = ws.sum := by
  unfold rot
  conv => rhs; rw [← List.take_append_drop i ws]
  rw [sum_app, sum_app]; omega
theorem rot_ne {ws : List Int} {i : Nat} (h : ws ≠ []) : rot ws i ≠ [] := fun e => by
  have := congrArg List.length e
  rw [rot_len] at this
  exact h (List.length_eq_zero_iff.mp this)
theorem rot_rot {ws : List Int} {i j : Nat} (hi : i ≤ ws.length) (hj : j ≤ ws.length) : rot (rot ws i) j = rot ws (if i + j ≤ ws.length then i + j else i + j - ws.length) := by
  by_cases h : i + j ≤ ws.length
  · rw [if_pos h]
    have e : ws = ws.take i ++ ((ws.drop i).take j ++ (ws.drop i).drop j) := by rw [List.take_append_drop, List.take_append_drop]
    generalize hA : ws.take i = A at e
    generalize hB : (ws.drop i).take j = B at e
    generalize hC : (ws.drop i).drop j = C at e
    have lA : A.length = i := by rw [← hA, List.length_take]; omega
    have lB : B.length = j := by rw [← hB, List.length_take, List.length_drop]; omega
    clear hA hB hC
    subst e
    have e1 : rot (A ++ (B ++ C)) i = (B ++ C) ++ A := by rw [← lA]; exact rot_split _ _
    have e2 : rot ((B ++ C) ++ A) j = (C ++ A) ++ B := by rw [← lB, List.append_assoc]; exact rot_split _ _
    have e3 : rot (A ++ (B ++ C)) (i + j) = C ++ (A ++ B) := by rw [← lA, ← lB, ← List.length_append, ← List.append_assoc]; exact rot_split _ _
    rw [e1, e2, e3, List.append_assoc]
  · rw [if_neg h]
    have e : ws = (ws.take i).take (i + j - ws.length) ++ ((ws.take i).drop (i + j - ws.length) ++ ws.drop i) := by rw [← List.append_assoc, List.take_append_drop, List.take_append_drop]
    generalize hm : i + j - ws.length = m at e ⊢
    generalize hA : (ws.take i).take m = A at e
    generalize hB : (ws.take i).drop m = B at e
    generalize hC : ws.drop i = C at e
    have lA : A.length = m := by rw [← hA, List.length_take, List.length_take]; omega
    have lB : B.length = i - m := by rw [← hB, List.length_drop, List.length_take]; omega
    have lC : C.length = ws.length - i := by rw [← hC, List.length_drop]
    have li : (A ++ B).length = i := by rw [List.length_append]; omega
    have lj : (C ++ A).length = j := by rw [List.length_append]; omega
    clear hA hB hC lC hm
    subst e
    have e1 : rot (A ++ (B ++ C)) i = C ++ (A ++ B) := by rw [← li, ← List.append_assoc]; exact rot_split _ _
    have e2 : rot (C ++ (A ++ B)) j = B ++ (C ++ A) := by rw [← lj, ← List.append_assoc]; exact rot_split _ _
    have e3 : rot (A ++ (B ++ C)) m = (B ++ C) ++ A := by rw [← lA]; exact rot_split _ _
    rw [e1, e2, e3, List.append_assoc]
theorem rot_rev (ws : List Int) {i : Nat} (h : i ≤ ws.length) : rot ws.reverse i = (rot ws (ws.length - i)).reverse := by
  have e : ws = ws.take (ws.length - i) ++ ws.drop (ws.length - i) := (List.take_append_drop _ _).symm
  generalize hA : ws.take (ws.length - i) = A at e
  generalize hB : ws.drop (ws.length - i) = B at e
  have lA : A.length = ws.length - i := by rw [← hA, List.length_take]; omega
  have lB : B.length = i := by rw [← hB, List.length_drop]; omega
  rw [← lA]
  clear hA hB lA
  subst e
  rw [rot_split, List.reverse_append, List.reverse_append]
  have : B.reverse.length = i := by rw [List.length_reverse]; exact lB
  rw [← this]
  exact rot_split _ _
/-- some turning of the ring can be cut so -/
def RH (ws : List Int) (k : Nat) (h : Int) : Prop := ∃ i, i < ws.length ∧ FH h k (rot ws i)
def RL (ws : List Int) (k : Nat) (l : Int) : Prop := ∃ i, i < ws.length ∧ FL l k (rot ws i)
theorem FH.mono {h h' : Int} {k : Nat} {ws : List Int} (x : FH h k ws) (e : h ≤ h') : FH h' k ws := by
  obtain ⟨L, a, b, c⟩ := x
  exact ⟨L, a, b, fun y m => ⟨(c y m).1, Int.le_trans (c y m).2 e⟩⟩
theorem FL.anti {l l' : Int} {k : Nat} {ws : List Int} (x : FL l k ws) (e : l' ≤ l) : FL l' k ws := by
  obtain ⟨L, a, b, c⟩ := x
  exact ⟨L, a, b, fun y m => ⟨(c y m).1, Int.le_trans e (c y m).2⟩⟩
theorem RH.mono {h h' : Int} {k : Nat} {ws : List Int} (x : RH ws k h) (e : h ≤ h') : RH ws k h' := let ⟨i, a, b⟩ := x; ⟨i, a, b.mono e⟩
theorem RL.anti {l l' : Int} {k : Nat} {ws : List Int} (x : RL ws k l) (e : l' ≤ l) : RL ws k l' := let ⟨i, a, b⟩ := x; ⟨i, a, b.anti e⟩
theorem cut_high {h : Int} (h0 : 0 ≤ h) (B C : List Int) (hB : h < B.sum) : ∀ (L : List (List Int)) (A : List Int), L.flatten = A ++ (B ++ C) → Nn L.flatten → (∀ x ∈ L, x.sum ≤ h) →
    ∃ L1 L2 B1 B2, L = L1 ++ L2 ∧ L1.flatten = A ++ B1 ∧ L2.flatten = B2 ++ C ∧ B = B1 ++ B2 ∧ B1 ≠ [] ∧ B2 ≠ []
  | [], A, e, _, _ => by
    have e' := e.symm
    rw [List.flatten_nil, List.append_eq_nil_iff, List.append_eq_nil_iff] at e'
    rw [e'.2.1] at hB
    simp at hB
    omega
  | x :: L, A, e, nn, hx => by
    rw [List.flatten_cons] at e nn
    rcases List.append_eq_append_iff.mp e with ⟨A', e1, e2⟩ | ⟨Y, e1, e2⟩
    · -- A = x ++ A'
      obtain ⟨L1, L2, B1, B2, a, b, c, d⟩ := cut_high h0 B C hB L A' e2 nn.r fun y m => hx y (List.mem_cons_of_mem _ m)
      exact ⟨x :: L1, L2, B1, B2, by rw [a]; rfl, by rw [List.flatten_cons, b, e1, List.append_assoc], c, d⟩
    · -- x = A ++ Y, B ++ C = Y ++ rest
      have sx := hx x List.mem_cons_self
      have nx := nn.l
      rw [e1] at sx nx
      rw [sum_app] at sx
      have sA := nx.l.sum
      by_cases hY : Y = []
      · subst hY
        rw [List.append_nil] at e1
        rw [List.nil_append] at e2
        obtain ⟨L1, L2, B1, B2, a, b, c, d⟩ := cut_high h0 B C hB L [] e2.symm nn.r fun y m => hx y (List.mem_cons_of_mem _ m)
        exact ⟨x :: L1, L2, B1, B2, by rw [a]; rfl, by rw [List.flatten_cons, b, e1]; simp, c, d⟩
      rcases List.append_eq_append_iff.mp e2 with ⟨Z, f1, f2⟩ | ⟨B', f1, f2⟩
      · -- Y = B ++ Z
        rw [f1, sum_app] at sx
        have nZ : Nn Z := by have := nx.r; rw [f1] at this; exact this.r
        have := nZ.sum
        omega
      · by_cases hB' : B' = []
        · subst hB'
          rw [List.append_nil] at f1
          rw [← f1] at sx
          omega
        · exact ⟨[x], L, Y, B', rfl, by rw [e1]; simp, f2, f1, hY, hB'⟩
theorem cut_low {l : Int} (B C : List Int) (hB : l ≤ B.sum) (hBne : B ≠ []) : ∀ (L : List (List Int)) (A : List Int), L.flatten = A ++ (B ++ C) → Nn L.flatten → (∀ x ∈ L, x ≠ [] ∧ l ≤ x.sum) →
    ∃ L1 L2 Z B1 B2, L1.flatten = A ++ B1 ∧ Z ++ L2.flatten = B2 ++ C ∧ B = B1 ++ B2 ∧ B1 ≠ [] ∧ L1 ≠ [] ∧ L1.length + L2.length = L.length ∧ (∀ x ∈ L1 ++ L2, x ≠ [] ∧ l ≤ x.sum)
  | [], A, e, _, _ => by
    have e' := e.symm
    rw [List.flatten_nil, List.append_eq_nil_iff, List.append_eq_nil_iff] at e'
    exact absurd e'.2.1 hBne
  | x :: L, A, e, nn, hx => by
    have hx' : ∀ y ∈ L, y ≠ [] ∧ l ≤ y.sum := fun y m => hx y (List.mem_cons_of_mem _ m)
    rw [List.flatten_cons] at e nn
    have sx := hx x List.mem_cons_self
    have go : ∀ A', L.flatten = A' ++ (B ++ C) → A = x ++ A' → ∃ L1 L2 Z B1 B2, L1.flatten = A ++ B1 ∧ Z ++ L2.flatten = B2 ++ C ∧ B = B1 ++ B2 ∧ B1 ≠ [] ∧ L1 ≠ [] ∧ L1.length + L2.length = (x :: L).length ∧ (∀ x ∈ L1 ++ L2, x ≠ [] ∧ l ≤ x.sum) := fun A' e2 e1 => by
      obtain ⟨L1, L2, Z, B1, B2, a, b, c, d, f, g, k⟩ := cut_low B C hB hBne L A' e2 nn.r hx'
      refine ⟨x :: L1, L2, Z, B1, B2, by rw [List.flatten_cons, a, e1, List.append_assoc], b, c, d, by simp, by rw [List.length_cons, List.length_cons]; omega, fun y m => ?_⟩
      rcases List.mem_cons.mp (show y ∈ x :: (L1 ++ L2) from m) with rfl | m
      · exact sx
      · exact k y m
    rcases List.append_eq_append_iff.mp e with ⟨A', e1, e2⟩ | ⟨Y, e1, e2⟩
    · exact go A' e2 e1
    · by_cases hY : Y = []
      · subst hY
        rw [List.append_nil] at e1
        rw [List.nil_append] at e2
        exact go [] e2.symm (by rw [e1]; simp)
      rcases List.append_eq_append_iff.mp e2 with ⟨Z, f1, f2⟩ | ⟨B', f1, f2⟩
      · -- Y = B ++ Z, C = Z ++ flat L
        refine ⟨[A ++ B], L, Z, B, [], by simp, by rw [f2]; rfl, by simp, hBne, by simp, by simp; omega, fun y m => ?_⟩
        rcases List.mem_cons.mp (show y ∈ (A ++ B) :: L from m) with rfl | m
        · refine ⟨fun z => hBne (List.append_eq_nil_iff.mp z).2, ?_⟩
          rw [sum_app]
          have nx := nn.l
          rw [e1] at nx
          have := nx.l.sum
          omega
        · exact hx' y m
      · exact ⟨[x], L, [], Y, B', by rw [e1]; simp, f2, f1, hY, by simp, by simp; omega, fun y m => hx y m⟩
theorem take_mid {ws : List Int} {q i : Nat} (h : q ≤ i) : ws.take i = ws.take q ++ (ws.take i).drop q := by
  conv => lhs; rw [← List.take_append_drop q (ws.take i)]
  rw [List.take_take, Nat.min_eq_left h]
/-- a high cutting begins among the first places -/
theorem ring_high {ws : List Int} {k q : Nat} {h : Int} (h0 : 0 ≤ h) (nn : Nn ws) (hq : q < ws.length) (hs : h < (ws.take (q + 1)).sum) (x : RH ws k h) : ∃ j, 1 ≤ j ∧ j ≤ q ∧ FH h k (rot ws j) := by
  obtain ⟨i, hi, L, a, b, c⟩ := x
  by_cases h1 : 1 ≤ i ∧ i ≤ q
  · exact ⟨i, h1.1, h1.2, L, a, b, c⟩
  have key : ∃ A C, rot ws i = A ++ (ws.take (q + 1) ++ C) ∧ ws = ws.take (q + 1) ++ (C ++ A) := by
    by_cases hz : i = 0
    · subst hz
      exact ⟨[], ws.drop (q + 1), by rw [rot_zero]; simp, by simp⟩
    · refine ⟨ws.drop i, (ws.take i).drop (q + 1), ?_, ?_⟩
      · unfold rot
        rw [← take_mid (by omega)]
      · rw [← List.append_assoc, ← take_mid (by omega), List.take_append_drop]
  obtain ⟨A, C, e, e2⟩ := key
  obtain ⟨L1, L2, B1, B2, f, g, k1, k2, k3, k4⟩ := cut_high h0 (ws.take (q + 1)) C hs L A (by rw [a, e]) (by rw [a]; exact rot_nn nn i) fun y m => (c y m).2
  have hl : (ws.take (q + 1)).length = q + 1 := by rw [List.length_take]; omega
  rw [k2, List.length_append] at hl
  have p1 := List.length_pos_iff.mpr k3
  have p2 := List.length_pos_iff.mpr k4
  refine ⟨B1.length, p1, by omega, L2 ++ L1, ?_, by rw [f, List.length_append] at b; rw [List.length_append]; omega, fun y m => c y (by rw [f]; exact List.mem_append.mpr (List.mem_append.mp m).symm)⟩
  rw [k2, List.append_assoc] at e2
  rw [e2, rot_split, List.flatten_append, g, k1]
  simp
theorem ring_low {ws : List Int} {k e : Nat} {l : Int} (nn : Nn ws) (he : e < ws.length) (hs : l ≤ (ws.take (e + 1)).sum) (x : RL ws k l) : ∃ j, 1 ≤ j ∧ j ≤ e + 1 ∧ FL l k (rot ws (j % ws.length)) := by
  obtain ⟨i, hi, L, a, b, c⟩ := x
  by_cases h1 : 1 ≤ i ∧ i ≤ e + 1
  · exact ⟨i, h1.1, h1.2, L, by rw [Nat.mod_eq_of_lt hi]; exact a, b, c⟩
  by_cases h2 : i = 0 ∧ e + 1 = ws.length
  · refine ⟨ws.length, by omega, by omega, L, ?_, b, c⟩
    rw [Nat.mod_self, ← h2.1]; exact a
  have key : ∃ A C, rot ws i = A ++ (ws.take (e + 1) ++ C) ∧ ws = ws.take (e + 1) ++ (C ++ A) ∧ C ++ A ≠ [] := by
    by_cases hz : i = 0
    · subst hz
      refine ⟨[], ws.drop (e + 1), by rw [rot_zero]; simp, by simp, fun z => ?_⟩
      have := congrArg List.length z
      rw [List.append_nil, List.length_drop] at this
      simp at this
      omega
    · refine ⟨ws.drop i, (ws.take i).drop (e + 1), ?_, ?_, fun z => ?_⟩
      · unfold rot
        rw [← take_mid (by omega)]
      · rw [← List.append_assoc, ← take_mid (by omega), List.take_append_drop]
      · have := congrArg List.length z
        rw [List.length_append, List.length_drop, List.length_drop] at this
        simp at this
        omega
  obtain ⟨A, C, e1, e2, e3⟩ := key
  have hl : (ws.take (e + 1)).length = e + 1 := by rw [List.length_take]; omega
  obtain ⟨L1, L2, Z, B1, B2, f, g, k1, k2, k3, k4, k5⟩ := cut_low (ws.take (e + 1)) C hs (fun z => by rw [z] at hl; simp at hl) L A (by rw [a, e1]) (by rw [a]; exact rot_nn nn i) c
  rw [k1, List.length_append] at hl
  have p1 := List.length_pos_iff.mpr k2
  rw [k1, List.append_assoc] at e2
  have hlen : B1.length < ws.length := by
    have q1 := congrArg List.length e2
    rw [List.length_append, List.length_append] at q1
    have q2 := List.length_pos_iff.mpr e3
    omega
  have er : rot ws B1.length = Z ++ (L2 ++ L1).flatten := by
    conv => lhs; rw [e2]
    rw [rot_split, List.flatten_append, f, ← List.append_assoc Z, g]
    simp
  have nZ : Nn Z := by
    have := rot_nn nn B1.length
    rw [er] at this
    exact this.l
  refine ⟨B1.length, p1, by omega, ?_⟩
  rw [Nat.mod_eq_of_lt hlen, er]
  cases q : L2 ++ L1 with
  | nil => exact absurd (List.append_eq_nil_iff.mp q).2 k3
  | cons y R =>
    refine ⟨(Z ++ y) :: R, by simp, ?_, fun v m => ?_⟩
    · have := congrArg List.length q
      rw [List.length_append, List.length_cons] at this
      rw [List.length_cons]
      omega
    · have mem : ∀ v ∈ y :: R, v ≠ [] ∧ l ≤ v.sum := fun v m => by
        rw [← q] at m
        exact k5 v (List.mem_append.mpr (List.mem_append.mp m).symm)
      rcases List.mem_cons.mp m with rfl | m
      · have := mem y List.mem_cons_self
        refine ⟨fun z => this.1 (List.append_eq_nil_iff.mp z).2, ?_⟩
        rw [sum_app]
        have := nZ.sum
        omega
      · exact mem v (List.mem_cons_of_mem _ m)
/-- the ring turned, and turned round -/
theorem RH_rot {ws : List Int} {k b : Nat} {h : Int} (hb : b ≤ ws.length) (x : RH (rot ws b) k h) : RH ws k h := by
  obtain ⟨i, hi, f⟩ := x
  rw [rot_len] at hi
  rw [rot_rot hb (by omega)] at f
  by_cases c : b + i < ws.length
  · rw [if_pos (by omega)] at f
    exact ⟨_, c, f⟩
  · by_cases c2 : b + i = ws.length
    · rw [if_pos (by omega), c2, rot_all] at f
      exact ⟨0, by omega, by rw [rot_zero]; exact f⟩
    · rw [if_neg (by omega)] at f
      exact ⟨_, by omega, f⟩
theorem RL_rot {ws : List Int} {k b : Nat} {h : Int} (hb : b ≤ ws.length) (x : RL (rot ws b) k h) : RL ws k h := by
  obtain ⟨i, hi, f⟩ := x
  rw [rot_len] at hi
  rw [rot_rot hb (by omega)] at f
  by_cases c : b + i < ws.length
  · rw [if_pos (by omega)] at f
    exact ⟨_, c, f⟩
  · by_cases c2 : b + i = ws.length
    · rw [if_pos (by omega), c2, rot_all] at f
      exact ⟨0, by omega, by rw [rot_zero]; exact f⟩
    · rw [if_neg (by omega)] at f
      exact ⟨_, by omega, f⟩
theorem rot_back {ws : List Int} {b : Nat} (hb : b ≤ ws.length) : ∃ c, c ≤ (rot ws b).length ∧ ws = rot (rot ws b) c := by
  refine ⟨ws.length - b, by rw [rot_len]; omega, ?_⟩
  rw [rot_rot hb (by omega), if_pos (by omega), show b + (ws.length - b) = ws.length by omega, rot_all]
theorem RH_rot_iff {ws : List Int} {k b : Nat} {h : Int} (hb : b ≤ ws.length) : RH (rot ws b) k h ↔ RH ws k h := ⟨RH_rot hb, fun x => by
  obtain ⟨c, hc, e⟩ := rot_back hb
  rw [e] at x
  exact RH_rot hc x⟩
theorem RL_rot_iff {ws : List Int} {k b : Nat} {h : Int} (hb : b ≤ ws.length) : RL (rot ws b) k h ↔ RL ws k h := ⟨RL_rot hb, fun x => by
  obtain ⟨c, hc, e⟩ := rot_back hb
  rw [e] at x
  exact RL_rot hc x⟩
theorem flat_rev : ∀ L : List (List Int), ((L.map List.reverse).reverse).flatten = L.flatten.reverse
  | [] => rfl
  | x :: L => by
    rw [List.map_cons, List.reverse_cons, List.flatten_append, flat_rev L]
    simp
theorem sum_rev (x : List Int) : x.reverse.sum = x.sum := by
  induction x with
  | nil => rfl
  | cons w x ih => rw [List.reverse_cons, sum_app, ih, List.sum_cons]; simp; omega
theorem FH_rev {ws : List Int} {k : Nat} {h : Int} (x : FH h k ws) : FH h k ws.reverse := by
  obtain ⟨L, a, b, c⟩ := x
  refine ⟨(L.map List.reverse).reverse, by rw [flat_rev, a], by rw [List.length_reverse, List.length_map]; exact b, fun y m => ?_⟩
  obtain ⟨z, hz, rfl⟩ := List.mem_map.mp (List.mem_reverse.mp m)
  exact ⟨fun e => (c z hz).1 (List.reverse_eq_nil_iff.mp e), by rw [sum_rev]; exact (c z hz).2⟩
theorem FL_rev {ws : List Int} {k : Nat} {h : Int} (x : FL h k ws) : FL h k ws.reverse := by
  obtain ⟨L, a, b, c⟩ := x
  refine ⟨(L.map List.reverse).reverse, by rw [flat_rev, a], by rw [List.length_reverse, List.length_map]; exact b, fun y m => ?_⟩
  obtain ⟨z, hz, rfl⟩ := List.mem_map.mp (List.mem_reverse.mp m)
  exact ⟨fun e => (c z hz).1 (List.reverse_eq_nil_iff.mp e), by rw [sum_rev]; exact (c z hz).2⟩
theorem RH_rev {ws : List Int} {k : Nat} {h : Int} (x : RH ws k h) : RH ws.reverse k h := by
  obtain ⟨i, hi, f⟩ := x
  by_cases h0 : i = 0
  · subst h0
    rw [rot_zero] at f
    exact ⟨0, by rw [List.length_reverse]; omega, by rw [rot_zero]; exact FH_rev f⟩
  · refine ⟨ws.length - i, by rw [List.length_reverse]; omega, ?_⟩
    rw [rot_rev ws (by omega), show ws.length - (ws.length - i) = i by omega]
    exact FH_rev f
theorem RL_rev {ws : List Int} {k : Nat} {h : Int} (x : RL ws k h) : RL ws.reverse k h := by
  obtain ⟨i, hi, f⟩ := x
  by_cases h0 : i = 0
  · subst h0
    rw [rot_zero] at f
    exact ⟨0, by rw [List.length_reverse]; omega, by rw [rot_zero]; exact FL_rev f⟩
  · refine ⟨ws.length - i, by rw [List.length_reverse]; omega, ?_⟩
    rw [rot_rev ws (by omega), show ws.length - (ws.length - i) = i by omega]
    exact FL_rev f
/-! ### bounds -/
theorem parts_le {h : Int} : ∀ L : List (List Int), (∀ x ∈ L, x.sum ≤ h) → L.flatten.sum ≤ h * (L.length : Int)
  | [], _ => by simp
  | x :: L, hx => by
    have := parts_le L fun y m => hx y (List.mem_cons_of_mem _ m)
    have := hx x List.mem_cons_self
    rw [List.flatten_cons, sum_app, List.length_cons, Int.natCast_add, Int.mul_add]
    omega
theorem parts_ge {l : Int} : ∀ L : List (List Int), (∀ x ∈ L, l ≤ x.sum) → l * (L.length : Int) ≤ L.flatten.sum
  | [], _ => by simp
  | x :: L, hx => by
    have := parts_ge L fun y m => hx y (List.mem_cons_of_mem _ m)
    have := hx x List.mem_cons_self
    rw [List.flatten_cons, sum_app, List.length_cons, Int.natCast_add, Int.mul_add]
    omega
theorem FH.sum_le {ws : List Int} {k : Nat} {h : Int} (x : FH h k ws) (h0 : 0 ≤ h) : ws.sum ≤ k * h := by
  obtain ⟨L, a, b, c⟩ := x
  have := parts_le L fun y m => (c y m).2
  rw [a] at this
  have e : h * (L.length : Int) ≤ h * k := Int.mul_le_mul_of_nonneg_left (by omega) h0
  rw [Int.mul_comm (k : Int)]
  omega
theorem FL.sum_ge {ws : List Int} {k : Nat} {l : Int} (x : FL l k ws) (h0 : 0 ≤ l) : k * l ≤ ws.sum := by
  obtain ⟨L, a, b, c⟩ := x
  have := parts_ge L fun y m => (c y m).2
  rw [a] at this
  have e : l * k ≤ l * (L.length : Int) := Int.mul_le_mul_of_nonneg_left (by omega) h0
  rw [Int.mul_comm (k : Int)]
  omega
/-! ### the least, the greatest, of a property -/
def LstP (P : Int → Prop) (lo hi v : Int) : Prop := lo ≤ v ∧ v ≤ hi ∧ P v ∧ ∀ x, lo ≤ x → x < v → ¬ P x
def GstP (P : Int → Prop) (lo hi v : Int) : Prop := lo ≤ v ∧ v ≤ hi ∧ P v ∧ ∀ x, v < x → x ≤ hi → ¬ P x
theorem LstP.uniq {P Q : Int → Prop} {lo hi hi' v u : Int} (h : LstP P lo hi v) (k : LstP Q lo hi' u) (e : ∀ x, P x ↔ Q x) : v = u := by
  obtain ⟨a, b, c, d⟩ := h
  obtain ⟨a', b', c', d'⟩ := k
  by_cases h1 : v < u
  · exact absurd ((e v).mp c) (d' v a h1)
  · by_cases h2 : u < v
    · exact absurd ((e u).mpr c') (d u a' h2)
    · omega
theorem GstP.uniq {P Q : Int → Prop} {lo lo' hi v u : Int} (h : GstP P lo hi v) (k : GstP Q lo' hi u) (e : ∀ x, P x ↔ Q x) : v = u := by
  obtain ⟨a, b, c, d⟩ := h
  obtain ⟨a', b', c', d'⟩ := k
  by_cases h1 : v < u
  · exact absurd ((e u).mpr c') (d u h1 b')
  · by_cases h2 : u < v
    · exact absurd ((e v).mp c) (d' v h2 b)
    · omega
theorem ok_bsH {c : Int × Int → Ro Bool} {f : Int × Int → Ro (Int × Int)} {lo hi : Int} {n : Nat} (hn : 60 < n) (P : Int → Prop) (mono : ∀ x y, P x → x ≤ y → P y) (hc : ∀ s, c s = .ok (decide (s.1 < s.2)))
    (hf : ∀ s : Int × Int, s.1 < s.2 → lo ≤ s.1 → s.2 ≤ hi → (f s).Ok fun z => (z = (s.1, (s.1 + s.2) / 2) ∧ P ((s.1 + s.2) / 2)) ∨ (z = ((s.1 + s.2) / 2 + 1, s.2) ∧ ¬ P ((s.1 + s.2) / 2))) (hl : lo ≤ hi) (hd : hi - lo < 2 ^ 60) (hp : P hi) :
    (whR n c f (lo, hi)).Ok fun s => LstP P lo hi s.1 := by
  refine ok_whR 60 (fun m s => (lo ≤ s.1 ∧ s.1 ≤ s.2 ∧ s.2 ≤ hi) ∧ s.2 - s.1 < 2 ^ m ∧ P s.2 ∧ ∀ x, lo ≤ x → x < s.1 → ¬ P x) (by omega) ⟨⟨Int.le_refl _, hl, Int.le_refl _⟩, hd, hp, fun x a b => by dsimp only at b; omega⟩ fun m s ⟨⟨a, b, c'⟩, d, e, g⟩ => ?_
  by_cases h : s.1 < s.2
  · right
    refine ⟨by rw [hc, decide_eq_true h], ok_mono (hf s h a c') fun z hz => ?_⟩
    cases m with
    | zero => simp at d; omega
    | succ m =>
      rw [pow_split] at d
      refine ⟨m, Nat.lt_succ_self _, ?_⟩
      rcases hz with ⟨rfl, p⟩ | ⟨rfl, p⟩
      · exact ⟨⟨a, by dsimp only; omega, by dsimp only; omega⟩, by dsimp only; omega, p, g⟩
      · refine ⟨⟨by dsimp only; omega, by dsimp only; omega, c'⟩, by dsimp only; omega, e, fun x h1 h2 hx => ?_⟩
        dsimp only at h2
        exact p (mono x _ hx (by omega))
  · left
    refine ⟨by rw [hc, decide_eq_false h], a, by omega, ?_, g⟩
    have : s.1 = s.2 := by omega
    rw [this]; exact e
theorem ok_bsG {c : Int × Int → Ro Bool} {f : Int × Int → Ro (Int × Int)} {lo hi : Int} {n : Nat} (hn : 60 < n) (P : Int → Prop) (anti : ∀ x y, P y → x ≤ y → P x) (hc : ∀ s, c s = .ok (decide (s.1 < s.2)))
    (hf : ∀ s : Int × Int, s.1 < s.2 → lo ≤ s.1 → s.2 ≤ hi → (f s).Ok fun z => (z = ((s.1 + s.2 + 1) / 2, s.2) ∧ P ((s.1 + s.2 + 1) / 2)) ∨ (z = (s.1, (s.1 + s.2 + 1) / 2 - 1) ∧ ¬ P ((s.1 + s.2 + 1) / 2))) (hl : lo ≤ hi) (hd : hi - lo < 2 ^ 60) (hp : P lo) :
    (whR n c f (lo, hi)).Ok fun s => GstP P lo hi s.1 := by
  refine ok_whR 60 (fun m s => (lo ≤ s.1 ∧ s.1 ≤ s.2 ∧ s.2 ≤ hi) ∧ s.2 - s.1 < 2 ^ m ∧ P s.1 ∧ ∀ x, s.2 < x → x ≤ hi → ¬ P x) (by omega) ⟨⟨Int.le_refl _, hl, Int.le_refl _⟩, hd, hp, fun x a b => by dsimp only at a; omega⟩ fun m s ⟨⟨a, b, c'⟩, d, e, g⟩ => ?_
  by_cases h : s.1 < s.2
  · right
    refine ⟨by rw [hc, decide_eq_true h], ok_mono (hf s h a c') fun z hz => ?_⟩
    cases m with
    | zero => simp at d; omega
    | succ m =>
      rw [pow_split] at d
      refine ⟨m, Nat.lt_succ_self _, ?_⟩
      rcases hz with ⟨rfl, p⟩ | ⟨rfl, p⟩
      · exact ⟨⟨by dsimp only; omega, by dsimp only; omega, c'⟩, by dsimp only; omega, p, g⟩
      · refine ⟨⟨a, by dsimp only; omega, by dsimp only; omega⟩, by dsimp only; omega, e, fun x h1 h2 hx => ?_⟩
        dsimp only at h1
        by_cases hx2 : x ≤ s.2
        · exact p (anti _ x hx (by omega))
        · exact g x (by omega) h2 hx
  · left
    refine ⟨by rw [hc, decide_eq_false h], a, by omega, e, fun x h1 h2 => g x (by omega) h2⟩
end RK
namespace DT
theorem enL_len {α : Type} : ∀ (xs : List α) (n : Nat), (enL n xs).length = xs.length
  | [], _ => rfl
  | x :: xs, n => by show (enL (n + 1) xs).length + 1 = _; rw [enL_len xs]; rfl
theorem enL_get {α : Type} : ∀ (xs : List α) (n i : Nat) (h : i < (enL n xs).length) (h' : i < xs.length), (enL n xs)[i] = (((n + i : Nat) : Int), xs[i])
  | x :: xs, n, 0, h, h' => rfl
  | x :: xs, n, i + 1, h, h' => by
    show (enL (n + 1) xs)[i]'(by simpa [enL_len] using h) = _
    rw [enL_get xs (n + 1) i (by rw [enL_len]; simpa using h') (by simpa using h'), show n + 1 + i = n + (i + 1) by omega]; rfl
theorem take_snoc {α : Type} {xs : List α} {i : Nat} (h : i < xs.length) : xs.take (i + 1) = xs.take i ++ [xs[i]] := by
  rw [List.take_succ, List.getElem?_eq_getElem h]; rfl
theorem cutL_from {α : Type} {xs : List α} {p : Nat} : cutL xs (some (p : Int)) none = xs.drop p := by
  unfold cutL
  show (xs.drop (HT.sIx xs.length 0 (some (p : Int)))).take (xs.length - HT.sIx xs.length 0 (some (p : Int))) = _
  rw [HT.sIx_nat]
  by_cases h : p ≤ xs.length
  · rw [Nat.min_eq_left h, List.take_of_length_le (by rw [List.length_drop]; omega)]
  · rw [Nat.min_eq_right (by omega), List.drop_eq_nil_of_le (Nat.le_refl _), List.drop_eq_nil_of_le (by omega)]; simp
theorem cutL_to {α : Type} {xs : List α} {p : Nat} : cutL xs none (some (p : Int)) = xs.take p := by
  unfold cutL
  show (xs.drop 0).take (HT.sIx xs.length xs.length (some (p : Int)) - 0) = _
  rw [HT.sIx_nat, List.drop_zero, Nat.sub_zero]
  by_cases h : p ≤ xs.length
  · rw [Nat.min_eq_left h]
  · rw [Nat.min_eq_right (by omega), List.take_of_length_le (Nat.le_refl _), List.take_of_length_le (by omega)]
end DT
namespace RK
/-- where parts begin behind the first one; what the open part weighs -/
def cs (h : Int) : Int → Int → List Int → List Int
  | _, _, [] => []
  | a, p, w :: ws => if a + w > h then p :: cs h w (p + 1) ws else cs h (a + w) (p + 1) ws
def opn (h : Int) : Int → List Int → Int
  | a, [] => a
  | a, w :: ws => if a + w > h then opn h w ws else opn h (a + w) ws
theorem cs_snoc (h : Int) : ∀ (xs : List Int) (a p w : Int), cs h a p (xs ++ [w]) = cs h a p xs ++ (if opn h a xs + w > h then [p + (xs.length : Int)] else [])
  | [], a, p, w => by
    show (if a + w > h then [p] else []) = [] ++ (if a + w > h then [p + ((0 : Nat) : Int)] else [])
    simp
  | x :: xs, a, p, w => by
    show (if a + x > h then p :: cs h x (p + 1) (xs ++ [w]) else cs h (a + x) (p + 1) (xs ++ [w])) = (if a + x > h then p :: cs h x (p + 1) xs else cs h (a + x) (p + 1) xs) ++ (if (if a + x > h then opn h x xs else opn h (a + x) xs) + w > h then [p + ((xs.length + 1 : Nat) : Int)] else [])
    by_cases c : a + x > h
    · rw [if_pos c, if_pos c, if_pos c, cs_snoc h xs]
      rw [show p + 1 + (xs.length : Int) = p + ((xs.length + 1 : Nat) : Int) by omega]; rfl
    · rw [if_neg c, if_neg c, if_neg c, cs_snoc h xs]
      rw [show p + 1 + (xs.length : Int) = p + ((xs.length + 1 : Nat) : Int) by omega]
theorem opn_snoc (h : Int) : ∀ (xs : List Int) (a w : Int), opn h a (xs ++ [w]) = if opn h a xs + w > h then w else opn h a xs + w
  | [], a, w => rfl
  | x :: xs, a, w => by
    show (if a + x > h then opn h x (xs ++ [w]) else opn h (a + x) (xs ++ [w])) = if (if a + x > h then opn h x xs else opn h (a + x) xs) + w > h then w else (if a + x > h then opn h x xs else opn h (a + x) xs) + w
    by_cases c : a + x > h
    · rw [if_pos c, if_pos c, opn_snoc h xs]
    · rw [if_neg c, if_neg c, opn_snoc h xs]
theorem cs_len (h : Int) : ∀ (xs : List Int) (a p : Int), (cs h a p xs).length = ndd h a xs
  | [], _, _ => rfl
  | w :: ws, a, p => by
    rw [ndd_cons]
    show (if a + w > h then p :: cs h w (p + 1) ws else cs h (a + w) (p + 1) ws).length = _
    split
    · rw [List.length_cons, cs_len h ws]
    · exact cs_len h ws _ _
theorem cs_head {h : Int} : ∀ (xs : List Int) (a p : Int) {q : Int} {r : List Int}, cs h a p xs = q :: r → ∃ j : Nat, q = p + j ∧ j < xs.length ∧ h < a + (xs.take (j + 1)).sum
  | [], a, p, q, r, e => by cases e
  | w :: ws, a, p, q, r, e => by
    have e : (if a + w > h then p :: cs h w (p + 1) ws else cs h (a + w) (p + 1) ws) = q :: r := e
    by_cases c : a + w > h
    · rw [if_pos c] at e
      cases e
      exact ⟨0, by omega, by simp, by simp; omega⟩
    · rw [if_neg c] at e
      obtain ⟨j, e1, e2, e3⟩ := cs_head ws (a + w) (p + 1) e
      exact ⟨j + 1, by omega, by simp; omega, by rw [List.take_succ_cons, List.sum_cons]; omega⟩
/-- where parts are filled; what the open part weighs -/
def ls (l : Int) : Int → Int → List Int → List Int
  | _, _, [] => []
  | a, p, w :: ws => if a + w ≥ l then p :: ls l 0 (p + 1) ws else ls l (a + w) (p + 1) ws
def opl (l : Int) : Int → List Int → Int
  | a, [] => a
  | a, w :: ws => if a + w ≥ l then opl l 0 ws else opl l (a + w) ws
theorem ls_snoc (l : Int) : ∀ (xs : List Int) (a p w : Int), ls l a p (xs ++ [w]) = ls l a p xs ++ (if opl l a xs + w ≥ l then [p + (xs.length : Int)] else [])
  | [], a, p, w => by
    show (if a + w ≥ l then [p] else []) = [] ++ (if a + w ≥ l then [p + ((0 : Nat) : Int)] else [])
    simp
  | x :: xs, a, p, w => by
    show (if a + x ≥ l then p :: ls l 0 (p + 1) (xs ++ [w]) else ls l (a + x) (p + 1) (xs ++ [w])) = (if a + x ≥ l then p :: ls l 0 (p + 1) xs else ls l (a + x) (p + 1) xs) ++ (if (if a + x ≥ l then opl l 0 xs else opl l (a + x) xs) + w ≥ l then [p + ((xs.length + 1 : Nat) : Int)] else [])
    by_cases c : a + x ≥ l
    · rw [if_pos c, if_pos c, if_pos c, ls_snoc l xs]
      rw [show p + 1 + (xs.length : Int) = p + ((xs.length + 1 : Nat) : Int) by omega]; rfl
    · rw [if_neg c, if_neg c, if_neg c, ls_snoc l xs]
      rw [show p + 1 + (xs.length : Int) = p + ((xs.length + 1 : Nat) : Int) by omega]
theorem opl_snoc (l : Int) : ∀ (xs : List Int) (a w : Int), opl l a (xs ++ [w]) = if opl l a xs + w ≥ l then 0 else opl l a xs + w
  | [], a, w => rfl
  | x :: xs, a, w => by
    show (if a + x ≥ l then opl l 0 (xs ++ [w]) else opl l (a + x) (xs ++ [w])) = if (if a + x ≥ l then opl l 0 xs else opl l (a + x) xs) + w ≥ l then 0 else (if a + x ≥ l then opl l 0 xs else opl l (a + x) xs) + w
    by_cases c : a + x ≥ l
    · rw [if_pos c, if_pos c, opl_snoc l xs]
    · rw [if_neg c, if_neg c, opl_snoc l xs]
theorem ls_len (l : Int) : ∀ (xs : List Int) (a p : Int), (ls l a p xs).length = fld l a xs
  | [], _, _ => rfl
  | w :: ws, a, p => by
    rw [fld_cons]
    show (if a + w ≥ l then p :: ls l 0 (p + 1) ws else ls l (a + w) (p + 1) ws).length = _
    split
    · rw [List.length_cons, ls_len l ws]
    · exact ls_len l ws _ _
theorem ls_head {l : Int} : ∀ (xs : List Int) (a p : Int) {q : Int} {r : List Int}, ls l a p xs = q :: r → ∃ j : Nat, q = p + j ∧ j < xs.length ∧ l ≤ a + (xs.take (j + 1)).sum
  | [], a, p, q, r, e => by cases e
  | w :: ws, a, p, q, r, e => by
    have e : (if a + w ≥ l then p :: ls l 0 (p + 1) ws else ls l (a + w) (p + 1) ws) = q :: r := e
    by_cases c : a + w ≥ l
    · rw [if_pos c] at e
      cases e
      exact ⟨0, by omega, by simp, by simp; omega⟩
    · rw [if_neg c] at e
      obtain ⟨j, e1, e2, e3⟩ := ls_head ws (a + w) (p + 1) e
      exact ⟨j + 1, by omega, by simp; omega, by rw [List.take_succ_cons, List.sum_cons]; omega⟩
theorem fld_zero_sum {l : Int} : ∀ (ws : List Int) (a : Int), fld l a ws = 0 → Nn ws → 0 < ws.length → a + ws.sum < l
  | [], _, _, _, h => by simp at h
  | w :: ws, a, e, nn, _ => by
    rw [fld_cons] at e
    by_cases c : a + w ≥ l
    · rw [if_pos c] at e; omega
    · rw [if_neg c] at e
      rw [List.sum_cons]
      cases ws with
      | nil => simp; omega
      | cons v ws =>
        have := fld_zero_sum (v :: ws) (a + w) e nn.tail (by simp)
        omega
end RK
namespace k32
open PySem DT RK
/-! ### draws -/
theorem number_ok (c : Int) : (p_law_number c).Ok fun _ => True := by
  unfold p_law_number
  exact ok_if (fun _ => ok_ok trivial) fun _ => ok_ok trivial
theorem draws_ok (ns : List Int) (h : ns.length ≤ 63) : (p_law_draws ns).Ok fun ds => Dr ds ∧ ds.length ≤ 3780 := by
  unfold p_law_draws
  refine ok_let (ok_bind (P := fun ds => Dr ds ∧ ds.length ≤ 3780) (ok_forR (fun i s => Dr s ∧ s.length ≤ 60 * i) ⟨.nil, Nat.zero_le _⟩ (fun i s hi ⟨a, b⟩ => ?_) fun s ⟨a, b⟩ => ⟨a, by omega⟩) fun ds ⟨a, b⟩ => ok_ok ⟨fun d m => a d (List.mem_reverse.mp m), by rw [List.length_reverse]; exact b⟩)
  refine ok_bind (number_ok _) fun rest _ => ok_bind (P := fun z => Dr z ∧ z.length ≤ 60 * (i + 1)) (ok_if (fun _ => ?_) fun _ => ?_) fun z hz => ok_ok hz
  · refine ok_bind (P := fun z => Dr z.1 ∧ z.1.length ≤ 60 * (i + 1)) (ok_forB (fun j z => Dr z.1 ∧ z.1.length ≤ s.length + j) ⟨a, Nat.le_refl _⟩ (fun x _ j z hj ⟨p, q⟩ => ?_) fun j z hj ⟨p, q⟩ => ⟨p, ?_⟩) fun z hz => ok_ok hz
    · rw [rngL_length] at hj
      refine ok_if (fun _ => ok_ok ⟨p, Nat.le_succ_of_le q⟩) fun _ => ok_bind (ok_app (by omega) rfl) fun y hy => ok_let (ok_ok ?_)
      subst hy
      exact ⟨p.app (.one (Dr.mod _)), by rw [List.length_append, List.length_singleton]; omega⟩
    · rw [rngL_length] at hj
      omega
  · refine ok_let (ok_let (ok_bind (ok_cat (by simp; omega) rfl) fun y hy => ok_ok ?_))
    subst hy
    refine ⟨a.app fun d m => ?_, by rw [List.length_append]; simp; omega⟩
    simp only [List.mem_cons, List.not_mem_nil, or_false] at m
    rcases m with rfl | rfl | rfl <;> exact Dr.mod _
/-- a draw: the number, what is left -/
def Dn (ds : List Int) (z : Int × List Int) : Prop := (0 ≤ z.1 ∧ z.1 < 1000) ∧ Dr z.2 ∧ z.2.length ≤ ds.length
theorem next_ok {ds : List Int} (h : Dr ds) : ((p_law_next ds).noEx).Ok (Dn ds) := by
  refine ok_noEx ?_
  unfold p_law_next
  cases List.eq_nil_or_concat ds with
  | inl e =>
    subst e
    exact ⟨(0, []), rfl, by decide, .nil, Nat.le_refl _⟩
  | inr e =>
    obtain ⟨l, b, e⟩ := e
    rw [List.concat_eq_append] at e
    subst e
    refine ⟨(b, l), ?_, h b (by simp), fun d m => h d (List.mem_append_left _ m), by simp⟩
    rw [if_pos (by simp), popR_snoc]
    rfl
theorem more_ok {ds : List Int} (h : Dr ds) (hl : ds.length ≤ 3780) {many : Nat} (hm : many ≤ 1000) : ((p_law_more ds many).noEx).Ok fun z => Dr z.1 ∧ z.1.length ≤ 5000 := by
  refine ok_noEx ?_
  unfold p_law_more
  refine ok_bind (P := fun z => Dr z.2 ∧ z.2.length ≤ 3780) (ok_bind (P := fun z => Dr z.2 ∧ z.2.length ≤ 3780) (ok_bind (P := fun z => Dr z.2 ∧ z.2.length ≤ 3780) (ok_bind (next_ok h) fun z hz => ok_ok ⟨hz.2.1, Nat.le_trans hz.2.2 hl⟩) fun z hz => ok_bind (next_ok hz.1) fun y hy => ok_ok ⟨hy.2.1, Nat.le_trans hy.2.2 hz.2⟩) fun z hz => ok_ok hz) fun z hz => ok_let ?_
  refine ok_bind (P := fun s => Dr s.2 ∧ s.2.length = many) (ok_bind (ok_rng1 (by omega) rfl) fun r hr => ?_) fun s hs => ok_bind (ok_cat (by omega) rfl) fun y hy => ok_ok ?_
  · subst hr
    refine ok_forR (fun i s => Dr s.2 ∧ s.2.length = i) ⟨.nil, rfl⟩ (fun i s hi ⟨a, b⟩ => ok_let (ok_bind (ok_app (by rw [rngL_length] at hi; omega) rfl) fun y hy => ok_ok ?_)) fun s hs => ?_
    · subst hy
      exact ⟨a.app (.one (Dr.mod _)), by rw [List.length_append, b]; rfl⟩
    · rw [rngL_length] at hs
      exact ⟨hs.1, by omega⟩
  · subst hy
    exact ⟨hs.1.app hz.1, by rw [List.length_append]; omega⟩
theorem pick_ok {α : Type} {ds : List Int} (h : Dr ds) {xs : List α} (hx : xs ≠ []) : ((p_law_pick ds xs).noEx).Ok fun z => z.1 ∈ xs ∧ Dr z.2 ∧ z.2.length ≤ ds.length := by
  refine ok_noEx ?_
  unfold p_law_pick
  have hl : 0 < xs.length := List.length_pos_iff.mpr hx
  refine ok_bind (P := fun z => z.1 ∈ xs ∧ Dr z.2 ∧ z.2.length ≤ ds.length) (ok_bind (P := fun (z : Int × List Int) => (0 ≤ z.1 ∧ z.1 < (xs.length : Int)) ∧ Dr z.2 ∧ z.2.length ≤ ds.length) (ok_bind (P := Dn ds) (ok_bind (next_ok h) fun z hz => ok_ok hz) fun z hz => ok_bind (ok_mod (by omega) rfl) fun y hy => ok_ok ?_) fun z hz => ?_) fun z hz => ok_ok hz
  · subst hy
    exact ⟨⟨Int.emod_nonneg _ (by omega), Int.emod_lt_of_pos _ (by omega)⟩, hz.2⟩
  · have hi : z.1.toNat < xs.length := by omega
    have := ok_ix (Q := fun a => a ∈ xs) hi (List.getElem_mem hi)
    rw [Int.toNat_of_nonneg hz.1.1] at this
    exact ok_bind this fun a ha => ok_ok ⟨ha, hz.2⟩

end k32
namespace k32
open PySem DT RK
/-! ### rows -/
def Row (ws : List Int) : Prop := (1 ≤ ws.length ∧ ws.length ≤ 2000) ∧ ∀ w ∈ ws, 0 ≤ w ∧ w ≤ 1000000
theorem is_row_ok {ws : List Int} (h : Row ws) : p_is_row ws = .ok true := by
  unfold p_is_row
  have h1 : decide ((1 : Int) ≤ (ws.length : Int)) = true := decide_eq_true (by have := h.1.1; omega)
  have h2 : decide ((ws.length : Int) ≤ 2000) = true := decide_eq_true (by have := h.1.2; omega)
  rw [h1, h2, szR_ok (by have := h.1.2; omega)]
  simp only [Bool.and_self, andR_t, bind_ok, all_id]
  congr 1
  rw [List.all_eq_true]
  intro w m
  have := h.2 w m
  rw [decide_eq_true this.1, decide_eq_true this.2]; rfl
theorem check_row_ok {ws : List Int} (h : Row ws) {k : Int} (hk : 1 ≤ k ∧ k ≤ ws.length) : p_check_row ws k = .ok () := by
  unfold p_check_row
  rw [is_row_ok h, bind_ok, decide_eq_true hk.1, decide_eq_true hk.2]; rfl
theorem Row.nn {ws : List Int} (h : Row ws) : Nn ws := fun w m => (h.2 w m).1
theorem Row.ne {ws : List Int} (h : Row ws) : ws ≠ [] := fun e => by have := h.1.1; rw [e] at this; simp at this
theorem Row.sum {ws : List Int} (h : Row ws) : 0 ≤ ws.sum ∧ ws.sum ≤ 2000000000 := by
  refine ⟨h.nn.sum, ?_⟩
  have key : ∀ l : List Int, (∀ w ∈ l, w ≤ 1000000) → l.sum ≤ 1000000 * (l.length : Int) := by
    intro l
    induction l with
    | nil => intro _; simp
    | cons x l ih =>
      intro hl
      have := ih fun w m => hl w (List.mem_cons_of_mem _ m)
      have := hl x List.mem_cons_self
      rw [List.sum_cons, List.length_cons]
      omega
  have := key ws fun w m => (h.2 w m).2
  have := h.1.2
  omega
theorem Row.rot {ws : List Int} (h : Row ws) (i : Nat) : Row (RK.rot ws i) := ⟨by rw [rot_len]; exact h.1, fun w m => h.2 w (rot_mem.mp m)⟩
theorem starts_ok {ws : List Int} (hl : ws.length ≤ 100000) (h : Int) : p_starts_for ws h = .ok (0 :: cs h 0 0 ws) := by
  have key : (p_starts_for ws h).Ok fun s => s = 0 :: cs h 0 0 ws := by
    unfold p_starts_for
    refine ok_let (ok_bind (ok_forR (fun i s => s = (0 :: cs h 0 0 (ws.take i), opn h 0 (ws.take i))) rfl (fun i s hi hs => ?_) fun s hs => hs) fun s hs => ok_ok ?_)
    · have hi' : i < ws.length := by rw [enL_len] at hi; exact hi
      subst hs
      rw [enL_get ws 0 i hi hi', take_snoc hi', cs_snoc, opn_snoc]
      have hlen : (ws.take i).length = i := by rw [List.length_take]; omega
      rw [hlen]
      refine ok_bind (P := fun z => z = (0 :: (cs h 0 0 (ws.take i) ++ (if opn h 0 (ws.take i) + ws[i] > h then [0 + (i : Int)] else [])), if opn h 0 (ws.take i) + ws[i] > h then 0 else opn h 0 (ws.take i))) (ok_if (fun c => ?_) fun c => ?_) fun z hz => ok_let (ok_ok ?_)
      · have c := of_decide_eq_true c
        have hc : (cs h 0 0 (ws.take i)).length ≤ 100000 := by
          rw [cs_len]
          have : ∀ (l : List Int) (a : Int), ndd h a l ≤ l.length := by
            intro l
            induction l with
            | nil => intro a; exact Nat.le_refl _
            | cons w l ih =>
              intro a
              rw [ndd_cons, List.length_cons]
              have := ih w
              have := ih (a + w)
              split <;> omega
          have := this (ws.take i) 0
          omega
        refine ok_bind (ok_app (by rw [List.length_cons]; omega) rfl) fun y hy => ok_ok ?_
        subst hy
        rw [if_pos c, if_pos c]
        simp
      · have c := of_decide_eq_false c
        refine ok_ok ?_
        rw [if_neg c, if_neg c]
        simp
      · subst hz
        by_cases c : opn h 0 (ws.take i) + ws[i] > h
        · simp only [if_pos c]
          simp
        · simp only [if_neg c]
    · rw [enL_len, List.take_of_length_le (Nat.le_refl _)] at hs
      rw [hs]
  obtain ⟨a, e, rfl⟩ := key
  exact e
theorem lows_ok {ws : List Int} (hl : ws.length ≤ 100000) (l : Int) : p_low_places ws l = .ok (ls l 0 0 ws) := by
  have key : (p_low_places ws l).Ok fun s => s = ls l 0 0 ws := by
    unfold p_low_places
    refine ok_let (ok_bind (ok_forR (fun i s => s = (ls l 0 0 (ws.take i), opl l 0 (ws.take i))) rfl (fun i s hi hs => ?_) fun s hs => hs) fun s hs => ok_ok ?_)
    · have hi' : i < ws.length := by rw [enL_len] at hi; exact hi
      subst hs
      rw [enL_get ws 0 i hi hi', take_snoc hi', ls_snoc, opl_snoc]
      have hlen : (ws.take i).length = i := by rw [List.length_take]; omega
      rw [hlen]
      refine ok_let (ok_bind (P := fun z => z = (ls l 0 0 (ws.take i) ++ (if opl l 0 (ws.take i) + ws[i] ≥ l then [0 + (i : Int)] else []), if opl l 0 (ws.take i) + ws[i] ≥ l then 0 else opl l 0 (ws.take i) + ws[i])) (ok_if (fun c => ?_) fun c => ?_) fun z hz => ok_ok hz)
      · have c := of_decide_eq_true c
        have hc : (ls l 0 0 (ws.take i)).length ≤ 100000 := by
          rw [ls_len]
          have : ∀ (m : List Int) (a : Int), fld l a m ≤ m.length := by
            intro m
            induction m with
            | nil => intro a; exact Nat.le_refl _
            | cons w m ih =>
              intro a
              rw [fld_cons, List.length_cons]
              have := ih 0
              have := ih (a + w)
              split <;> omega
          have := this (ws.take i) 0
          omega
        refine ok_bind (ok_app (by dsimp only; omega) rfl) fun y hy => ok_ok ?_
        subst hy
        rw [if_pos c, if_pos c]
        simp
      · have c := of_decide_eq_false c
        refine ok_ok ?_
        rw [if_neg c, if_neg c]
        simp
    · rw [enL_len, List.take_of_length_le (Nat.le_refl _)] at hs
      rw [hs]
  obtain ⟨a, e, rfl⟩ := key
  exact e
theorem mx_bounds {ws : List Int} (h : Row ws) : 0 ≤ mxL ws ∧ mxL ws ≤ ws.sum ∧ ∀ w ∈ ws, w ≤ mxL ws := ⟨h.nn _ (mxL_mem h.ne), mem_le_sum h.nn (mxL_mem h.ne), fun w m => mxL_ge m⟩
/-- can be cut into k parts: all of it in one -/
theorem FH_sum {ws : List Int} (h : Row ws) {k : Nat} (hk : 1 ≤ k) : FH ws.sum k ws := ⟨[ws], by simp, hk, fun x m => by rw [List.mem_singleton.mp m]; exact ⟨h.ne, Int.le_refl _⟩⟩
theorem FL_zero {ws : List Int} (h : Row ws) {k : Nat} (hk : 1 ≤ k ∧ k ≤ ws.length) : FL 0 k ws := by
  refine (FL_iff h.nn hk.1).mpr ?_
  have : ∀ (l : List Int), Nn l → fld 0 0 l = l.length := by
    intro l
    induction l with
    | nil => intro _; rfl
    | cons w l ih =>
      intro nn
      have := nn.head
      rw [fld_cons, if_pos (by omega), ih nn.tail]; rfl
  rw [this ws h.nn]; exact hk.2
theorem least_high_ok {ws : List Int} (h : Row ws) {k : Nat} (hk : 1 ≤ k ∧ k ≤ ws.length) : (p_least_high ws k).Ok (LstP (fun x => FH x k ws) (mxL ws) ws.sum) := by
  obtain ⟨m0, m1, m2⟩ := mx_bounds h
  have hs := h.sum
  have e60 : (2 : Int) ^ 60 = 1152921504606846976 := by decide
  unfold p_least_high
  refine ok_eq (check_row_ok h (by omega)) (ok_eq (maxR_ok h.ne) (ok_bind (ok_bsH (by decide) (fun x => FH x k ws) (fun x y a b => a.mono b) (fun _ => rfl) (fun s h1 h2 h3 => ?_) m1 (by omega) (FH_sum h hk.1)) fun s hs => ok_ok hs))
  refine ok_let ?_
  rw [starts_ok (by have := h.1.2; omega)]
  simp only [bind_ok]
  have iff := FH_iff (h := (s.1 + s.2) / 2) (k := k) h.ne h.nn fun w m => by have := m2 w m; omega
  have hlen : ((0 :: cs ((s.1 + s.2) / 2) 0 0 ws).length : Int) ≤ (k : Int) ↔ FH ((s.1 + s.2) / 2) k ws := by
    rw [iff, List.length_cons, cs_len]
    omega
  by_cases c : FH ((s.1 + s.2) / 2) k ws
  · rw [if_pos (decide_eq_true (hlen.mpr c))]
    exact ok_ok (.inl ⟨rfl, c⟩)
  · rw [if_neg (by rw [decide_eq_true_iff]; exact fun z => c (hlen.mp z))]
    exact ok_ok (.inr ⟨rfl, c⟩)
theorem greatest_low_ok {ws : List Int} (h : Row ws) {k : Nat} (hk : 1 ≤ k ∧ k ≤ ws.length) : (p_greatest_low ws k).Ok (GstP (fun x => FL x k ws) 0 ws.sum) := by
  have hs := h.sum
  have e60 : (2 : Int) ^ 60 = 1152921504606846976 := by decide
  unfold p_greatest_low
  refine ok_eq (check_row_ok h (by omega)) (ok_let (ok_bind (ok_bsG (by decide) (fun x => FL x k ws) (fun x y a b => a.anti b) (fun _ => rfl) (fun s h1 h2 h3 => ?_) hs.1 (by omega) (FL_zero h hk)) fun s hs => ok_ok hs))
  refine ok_let ?_
  rw [lows_ok (by have := h.1.2; omega)]
  simp only [bind_ok]
  have hlen : (k : Int) ≤ ((ls ((s.1 + s.2 + 1) / 2) 0 0 ws).length : Int) ↔ FL ((s.1 + s.2 + 1) / 2) k ws := by
    rw [FL_iff h.nn hk.1, ls_len]
    omega
  by_cases c : FL ((s.1 + s.2 + 1) / 2) k ws
  · rw [if_pos (decide_eq_true (hlen.mpr c))]
    exact ok_ok (.inl ⟨rfl, c⟩)
  · rw [if_neg (by rw [decide_eq_true_iff]; exact fun z => c (hlen.mp z))]
    exact ok_ok (.inr ⟨rfl, c⟩)

end k32
namespace k32
open PySem DT RK
/-! ### rings -/
theorem turned_ok {ws : List Int} {p : Nat} (hl : ws.length ≤ 100000) : p_turned ws (p : Int) = .ok (rot ws p) := by
  unfold p_turned
  rw [cutL_from, cutL_to, szR_ok]
  · rw [List.append_nil]; rfl
  · rw [List.append_nil]
    have := rot_len ws p
    unfold rot at this
    omega
theorem check_ring_ok {ws : List Int} (h : Row ws) (h3 : 3 ≤ ws.length ∧ ws.length ≤ 300) {k : Int} (hk : 1 ≤ k ∧ k ≤ ws.length) : p_check_ring ws k = .ok () := by
  unfold p_check_ring
  rw [is_row_ok h, bind_ok, decide_eq_true (show (3 : Int) ≤ ws.length by omega), decide_eq_true (show (ws.length : Int) ≤ 300 by omega), decide_eq_true hk.1, decide_eq_true hk.2]; rfl
theorem nd_iff {ws : List Int} (h : Row ws) {k : Nat} {x : Int} (hx : mxL ws ≤ x) (i : Nat) : decide (((0 :: cs x 0 0 (rot ws i)).length : Int) ≤ (k : Int)) = true ↔ FH x k (rot ws i) := by
  rw [decide_eq_true_iff, FH_iff (rot_ne h.ne) (rot_nn h.nn i) fun w m => by have := (mx_bounds h).2.2 w (rot_mem.mp m); omega, List.length_cons, cs_len]
  omega
theorem fl_iff {ws : List Int} (h : Row ws) {k : Nat} (hk : 1 ≤ k) {x : Int} (i : Nat) : decide ((k : Int) ≤ ((ls x 0 0 (rot ws i)).length : Int)) = true ↔ FL x k (rot ws i) := by
  rw [decide_eq_true_iff, FL_iff (rot_nn h.nn i) hk, ls_len]
  omega
theorem holds_high_ok {ws : List Int} (h : Row ws) {k : Nat} (hk : 1 ≤ k) {x : Int} (hx : mxL ws ≤ x) : (p_ring_holds_high ws k x).Ok fun b => (b = true ↔ RH ws k x) := by
  obtain ⟨m0, m1, m2⟩ := mx_bounds h
  have hl := h.1
  unfold p_ring_holds_high
  rw [starts_ok (by omega), bind_ok]
  cases e : cs x 0 0 ws with
  | nil =>
    refine ok_if (fun _ => ok_ok ⟨fun _ => ?_, fun _ => rfl⟩) fun c => by simp at c
    refine ⟨0, by omega, ?_⟩
    rw [rot_zero, FH_iff h.ne h.nn fun w m => by have := m2 w m; omega]
    have := cs_len x ws 0 0
    rw [e] at this
    simp at this
    omega
  | cons q r =>
    obtain ⟨j, rfl, hj, hs⟩ := cs_head ws 0 0 e
    rw [Int.zero_add] at hs ⊢
    refine ok_if (fun c => by simp at c; omega) fun _ => ?_
    have e1 : ixR (0 :: (j : Int) :: r) (1 : Int) = .ok (j : Int) := ixR_ok (n := 1) rfl
    rw [e1]
    simp only [bind_ok]
    refine ok_bind (P := fun bs => bs = (rngL 1 j).map fun y => decide (((0 :: cs x 0 0 (rot ws y.toNat)).length : Int) ≤ (k : Int))) (ok_bind (ok_rng2 (by omega) rfl) fun l hl' => ?_) fun bs hbs => ok_ok ?_
    · subst hl'
      rw [show ((j : Int) + 1 - 1).toNat = j by omega, szR_ok (by rw [rngL_length]; omega), bind_ok]
      refine ok_noEx (ok_of (mapR_ok _ fun y hy => ?_) rfl)
      have hy := mem_rngL.mp hy
      have hy' : y = ((y.toNat : Nat) : Int) := by omega
      rw [hy', turned_ok (by omega), Int.toNat_natCast]
      simp only [bind_ok]
      rw [starts_ok (by rw [rot_len]; omega)]
      rfl
    · subst hbs
      rw [any_id, List.any_eq_true]
      constructor
      · rintro ⟨y, hy, hd⟩
        have hy := mem_rngL.mp hy
        exact ⟨y.toNat, by omega, (nd_iff h hx _).mp hd⟩
      · intro hr
        obtain ⟨i, i1, i2, f⟩ := ring_high (q := j) (by omega) h.nn hj (by simpa using hs) hr
        exact ⟨(i : Int), mem_rngL.mpr (by omega), by rw [Int.toNat_natCast]; exact (nd_iff h hx i).mpr f⟩
theorem holds_low_ok {ws : List Int} (h : Row ws) {k : Nat} (hk : 1 ≤ k) {x : Int} : (p_ring_holds_low ws k x).Ok fun b => (b = true ↔ RL ws k x) := by
  have hl := h.1
  unfold p_ring_holds_low
  rw [lows_ok (by omega), bind_ok]
  cases e : ls x 0 0 ws with
  | nil =>
    refine ok_if (fun _ => ok_ok ⟨(fun z => by cases z), fun z => ?_⟩) fun c => by simp at c
    obtain ⟨i, hi, L, a, b, c⟩ := z
    have hz : fld x 0 ws = 0 := by rw [← ls_len x ws 0 0, e]; rfl
    have hsum := fld_zero_sum ws 0 hz h.nn (by omega)
    cases L with
    | nil => simp at b; omega
    | cons y L =>
      have hy := (c y List.mem_cons_self).2
      have nn := rot_nn h.nn i
      have := rot_sum ws i
      rw [← a, List.flatten_cons] at nn this
      rw [sum_app] at this
      have := nn.r.sum
      omega
  | cons q r =>
    obtain ⟨j, rfl, hj, hs⟩ := ls_head ws 0 0 e
    rw [Int.zero_add] at hs ⊢
    refine ok_if (fun c => by simp at c) fun _ => ?_
    have e1 : ixR ((j : Int) :: r) (0 : Int) = .ok (j : Int) := ixR_ok (n := 0) rfl
    rw [e1]
    simp only [bind_ok]
    refine ok_bind (P := fun ps => ps = (rngL 1 (j + 1)).map fun y => y % (ws.length : Int)) (ok_bind (ok_rng2 (by omega) rfl) fun l hl' => ?_) fun ps hps => ?_
    · subst hl'
      rw [show ((j : Int) + 2 - 1).toNat = j + 1 by omega, szR_ok (by rw [rngL_length]; omega), bind_ok]
      exact ok_noEx (ok_of (mapR_ok _ fun y hy => modR_ok (by omega)) rfl)
    · subst hps
      rw [szR_ok (by rw [List.length_map, rngL_length]; omega), bind_ok]
      refine ok_bind (P := fun bs => bs = ((rngL 1 (j + 1)).map fun y => y % (ws.length : Int)).map fun y => decide ((k : Int) ≤ ((ls x 0 0 (rot ws y.toNat)).length : Int))) (ok_noEx (ok_of (mapR_ok _ fun y hy => ?_) rfl)) fun bs hbs => ok_ok ?_
      · obtain ⟨z, _, rfl⟩ := List.mem_map.mp hy
        have p0 := Int.emod_nonneg z (show (ws.length : Int) ≠ 0 by omega)
        generalize z % (ws.length : Int) = y at p0 ⊢
        have hy' : y = ((y.toNat : Nat) : Int) := by omega
        rw [hy', turned_ok (by omega), Int.toNat_natCast]
        simp only [bind_ok]
        rw [lows_ok (by rw [rot_len]; omega)]
        rfl
      · subst hbs
        rw [any_id, List.any_eq_true]
        constructor
        · rintro ⟨y, hy, hd⟩
          obtain ⟨z, _, rfl⟩ := List.mem_map.mp hy
          have p0 := Int.emod_nonneg z (show (ws.length : Int) ≠ 0 by omega)
          have p1 := Int.emod_lt_of_pos z (show (0 : Int) < ws.length by omega)
          exact ⟨_, by omega, (fl_iff h hk _).mp hd⟩
        · intro hr
          obtain ⟨i, i1, i2, f⟩ := ring_low h.nn hj (by simpa using hs) hr
          refine ⟨(i : Int) % (ws.length : Int), List.mem_map.mpr ⟨(i : Int), mem_rngL.mpr (by omega), rfl⟩, ?_⟩
          rw [show (i : Int) % (ws.length : Int) = ((i % ws.length : Nat) : Int) by omega, Int.toNat_natCast]
          exact (fl_iff h hk _).mpr f
theorem ring_least_ok {ws : List Int} (h : Row ws) (h3 : 3 ≤ ws.length ∧ ws.length ≤ 300) {k : Nat} (hk : 2 ≤ k ∧ k ≤ ws.length) : (p_ring_least_high ws k).Ok (LstP (RH ws k) (mxL ws) ws.sum) := by
  obtain ⟨m0, m1, m2⟩ := mx_bounds h
  have hs := h.sum
  have e60 : (2 : Int) ^ 60 = 1152921504606846976 := by decide
  unfold p_ring_least_high
  refine ok_eq (check_ring_ok h h3 (by omega)) (ok_eq (maxR_ok h.ne) (ok_if (fun c => by have := of_decide_eq_true c; omega) fun _ => ok_bind (ok_bsH (by decide) (RH ws k) (fun x y a b => a.mono b) (fun _ => rfl) (fun s h1 h2 h3 => ?_) m1 (by omega) ⟨0, by omega, by rw [rot_zero]; exact FH_sum h (by omega)⟩) fun s hs => ok_ok hs))
  refine ok_let (ok_bind (P := fun z => (z = (s.1, (s.1 + s.2) / 2) ∧ RH ws k ((s.1 + s.2) / 2)) ∨ (z = ((s.1 + s.2) / 2 + 1, s.2) ∧ ¬ RH ws k ((s.1 + s.2) / 2))) (ok_bind (holds_high_ok h (by omega) (by omega)) fun b hb => ok_if (fun c => ok_ok (.inl ⟨rfl, hb.mp c⟩)) fun c => ok_let (ok_ok (.inr ⟨rfl, fun z => by rw [hb.mpr z] at c; cases c⟩))) fun z hz => ok_ok hz)
theorem ring_greatest_ok {ws : List Int} (h : Row ws) (h3 : 3 ≤ ws.length ∧ ws.length ≤ 300) {k : Nat} (hk : 2 ≤ k ∧ k ≤ ws.length) : (p_ring_greatest_low ws k).Ok (GstP (RL ws k) 0 ws.sum) := by
  have hs := h.sum
  have e60 : (2 : Int) ^ 60 = 1152921504606846976 := by decide
  unfold p_ring_greatest_low
  refine ok_eq (check_ring_ok h h3 (by omega)) (ok_let (ok_if (fun c => by have := of_decide_eq_true c; omega) fun _ => ok_bind (ok_bsG (by decide) (RL ws k) (fun x y a b => a.anti b) (fun _ => rfl) (fun s h1 h2 h3 => ?_) hs.1 (by omega) ⟨0, by omega, by rw [rot_zero]; exact FL_zero h (by omega)⟩) fun s hs => ok_ok hs))
  refine ok_let (ok_bind (P := fun z => (z = ((s.1 + s.2 + 1) / 2, s.2) ∧ RL ws k ((s.1 + s.2 + 1) / 2)) ∨ (z = (s.1, (s.1 + s.2 + 1) / 2 - 1) ∧ ¬ RL ws k ((s.1 + s.2 + 1) / 2))) (ok_bind (holds_low_ok h (by omega)) fun b hb => ok_if (fun c => ok_ok (.inl ⟨rfl, hb.mp c⟩)) fun c => ok_let (ok_ok (.inr ⟨rfl, fun z => by rw [hb.mpr z] at c; cases c⟩))) fun z hz => ok_ok hz)
theorem ring_least_1 {ws : List Int} (h : Row ws) (h3 : 3 ≤ ws.length ∧ ws.length ≤ 300) : p_ring_least_high ws 1 = .ok ws.sum := by
  unfold p_ring_least_high
  rw [check_ring_ok h h3 (by omega), bind_ok, maxR_ok h.ne, bind_ok]; rfl
theorem ring_greatest_1 {ws : List Int} (h : Row ws) (h3 : 3 ≤ ws.length ∧ ws.length ≤ 300) : p_ring_greatest_low ws 1 = .ok ws.sum := by
  unfold p_ring_greatest_low
  rw [check_ring_ok h h3 (by omega), bind_ok]; rfl

end k32
/-! rings cut at places -/
namespace RK
open DT
def atN (ws : List Int) (p : Int) : Int := ws.getD (p % (ws.length : Int)).toNat 0
/-- the weights from a place up to another one, on and on -/
def seg (ws : List Int) (b e : Int) : List Int := (rngL b (e - b).toNat).map (atN ws)
theorem rngL_app (b : Int) (m n : Nat) : rngL b (m + n) = rngL b m ++ rngL (b + m) n := by
  unfold rngL
  rw [List.range_add, List.map_append, List.map_map]
  congr 1
  apply List.map_congr_left
  intro i _
  show b + ((m + i : Nat) : Int) = b + m + i
  omega
theorem seg_app (ws : List Int) {b m e : Int} (h1 : b ≤ m) (h2 : m ≤ e) : seg ws b e = seg ws b m ++ seg ws m e := by
  unfold seg
  rw [show (e - b).toNat = (m - b).toNat + (e - m).toNat by omega, rngL_app, List.map_append, show b + ((m - b).toNat : Int) = m by omega]
theorem seg_len (ws : List Int) (b e : Int) : (seg ws b e).length = (e - b).toNat := by unfold seg; rw [List.length_map, rngL_length]
theorem seg_rot {ws : List Int} {i : Nat} (h : i < ws.length) : seg ws i ((i : Int) + (ws.length : Int)) = rot ws i := by
  apply List.ext_getElem
  · rw [seg_len, rot_len]; omega
  · intro j h1 h2
    rw [rot_len] at h2
    have e0 : (seg ws (i : Int) ((i : Int) + (ws.length : Int)))[j] = atN ws ((i : Int) + (j : Int)) := by simp only [seg, List.getElem_map, rngL_get]
    have e1 : (rot ws i)[j]'(by rw [rot_len]; exact h2) = (ws.drop i ++ ws.take i)[j]'(by rw [List.length_append, List.length_drop, List.length_take]; omega) := rfl
    rw [e0, e1]
    unfold atN
    by_cases c : i + j < ws.length
    · rw [List.getElem_append_left (by rw [List.length_drop]; omega), List.getElem_drop]
      rw [show ((i : Int) + (j : Int)) % (ws.length : Int) = ((i + j : Nat) : Int) by rw [← Int.natCast_add]; exact Int.emod_eq_of_lt (by omega) (by omega)]
      rw [Int.toNat_natCast, List.getD_eq_getElem?_getD, List.getElem?_eq_getElem c]; rfl
    · rw [List.getElem_append_right (by rw [List.length_drop]; omega), List.getElem_take]
      have e : ((i : Int) + (j : Int)) % (ws.length : Int) = ((i + j - ws.length : Nat) : Int) := by
        rw [show (i : Int) + (j : Int) = ((i + j - ws.length : Nat) : Int) + (ws.length : Int) by omega, Int.add_emod_right]
        exact Int.emod_eq_of_lt (by omega) (by omega)
      rw [e, Int.toNat_natCast, List.getD_eq_getElem?_getD, List.getElem?_eq_getElem (by omega)]
      simp only [Option.getD_some, List.length_drop]
      congr 1
      omega
/-- the parts of a ring that begin at places -/
def rp (ws : List Int) (fin : Int) : List Int → List (List Int)
  | [] => []
  | [b] => [seg ws b fin]
  | b :: e :: r => seg ws b e :: rp ws fin (e :: r)
theorem rp_len (ws : List Int) (fin : Int) : ∀ c : List Int, (rp ws fin c).length = c.length
  | [] => rfl
  | [_] => rfl
  | b :: e :: r => by show (rp ws fin (e :: r)).length + 1 = _; rw [rp_len ws fin (e :: r)]; rfl
theorem rp_get (ws : List Int) (fin : Int) : ∀ (c : List Int) (i : Nat) (h : i < (rp ws fin c).length) (h' : i < c.length), (rp ws fin c)[i] = seg ws c[i] (if h2 : i + 1 < c.length then c[i + 1] else fin)
  | [b], 0, h, h' => rfl
  | b :: e :: r, 0, h, h' => by simp [rp]
  | b :: e :: r, i + 1, h, h' => by
    show (rp ws fin (e :: r))[i]'(by rw [rp_len]; simpa using h') = _
    rw [rp_get ws fin (e :: r) i (by rw [rp_len]; simpa using h') (by simpa using h')]
    simp
/-- ascending, from lo on, below n -/
def Ris (n : Int) : Int → List Int → Prop
  | _, [] => True
  | lo, x :: r => lo ≤ x ∧ x < n ∧ Ris n (x + 1) r
theorem Ris.all {n : Int} : ∀ {c : List Int} {lo : Int}, Ris n lo c → ∀ x ∈ c, lo ≤ x ∧ x < n
  | y :: c, lo, h, x, m => by
    rcases List.mem_cons.mp m with rfl | m
    · exact ⟨h.1, h.2.1⟩
    · have := h.2.2.all x m
      have := h.1
      omega
theorem Ris.low {n lo lo' : Int} {c : List Int} (h : Ris n lo c) (e : lo' ≤ lo) : Ris n lo' c := by
  cases c with
  | nil => trivial
  | cons x r => exact ⟨by have := h.1; omega, h.2⟩
theorem rp_flat (ws : List Int) {n fin : Int} : ∀ (c : List Int) (b lo : Int), Ris n lo (b :: c) → n ≤ fin → (rp ws fin (b :: c)).flatten = seg ws b fin
  | [], b, lo, h, hf => by show [seg ws b fin].flatten = _; simp
  | e :: r, b, lo, h, hf => by
    show (seg ws b e :: rp ws fin (e :: r)).flatten = _
    have := h.2.2.1
    have := h.2.2.2.1
    rw [List.flatten_cons, rp_flat ws r e _ h.2.2 hf, ← seg_app ws (by omega) (by omega)]
theorem rp_ne (ws : List Int) {n fin : Int} : ∀ (c : List Int) (b lo : Int), Ris n lo (b :: c) → n ≤ fin → ∀ x ∈ rp ws fin (b :: c), x ≠ []
  | [], b, lo, h, hf, x, m, e => by
    rw [List.mem_singleton.mp (show x ∈ [seg ws b fin] from m)] at e
    have := congrArg List.length e
    rw [seg_len] at this
    have := h.2.1
    simp at *
    omega
  | e :: r, b, lo, h, hf, x, m, e' => by
    rcases List.mem_cons.mp (show x ∈ seg ws b e :: rp ws fin (e :: r) from m) with rfl | m
    · have := congrArg List.length e'
      rw [seg_len] at this
      have := h.2.2.1
      simp at *
      omega
    · exact rp_ne ws r e _ h.2.2 hf x m e'
/-- where parts begin -/
def begs : Int → List (List Int) → List Int
  | _, [] => []
  | b, x :: L => b :: begs (b + x.length) L
theorem begs_len : ∀ (L : List (List Int)) (b : Int), (begs b L).length = L.length
  | [], _ => rfl
  | x :: L, b => by show (begs _ L).length + 1 = _; rw [begs_len L]; rfl
theorem begs_ris {n : Int} : ∀ (I : List (List Int)) (x : List Int) (b : Int), (∀ y ∈ I ++ [x], y ≠ []) → b + (I.flatten.length : Int) < n → Ris n b (begs b (I ++ [x]))
  | [], x, b, _, h => ⟨Int.le_refl b, by simpa using h, trivial⟩
  | y :: I, x, b, hy, h => by
    rw [List.flatten_cons, List.length_append] at h
    have h1 := List.length_pos_iff.mpr (hy y (by simp))
    refine ⟨Int.le_refl b, by omega, ?_⟩
    exact (begs_ris I x (b + y.length) (fun z m => hy z (List.mem_cons_of_mem _ m)) (by omega)).low (by omega)
theorem rp_begs (ws : List Int) {fin : Int} : ∀ (L : List (List Int)) (b : Int), L ≠ [] → seg ws b fin = L.flatten → fin = b + (L.flatten.length : Int) → rp ws fin (begs b L) = L
  | [], _, h, _, _ => absurd rfl h
  | [x], b, _, hs, _ => by
    show [seg ws b fin] = _
    rw [hs]; simp
  | x :: y :: L, b, _, hs, hf => by
    show seg ws b (b + x.length) :: rp ws fin (begs (b + x.length) (y :: L)) = _
    rw [List.flatten_cons, List.length_append] at hf
    rw [List.flatten_cons, seg_app ws (m := b + x.length) (by omega) (by omega)] at hs
    obtain ⟨h1, h2⟩ := List.append_inj hs (by rw [seg_len]; omega)
    rw [h1, rp_begs ws (y :: L) (b + x.length) (by simp) h2 (by omega)]
theorem over : ∀ (L : List (List Int)) (i n : Nat), i < n → n ≤ i + L.flatten.length → ∃ I x J, L = I ++ x :: J ∧ i + I.flatten.length < n ∧ n ≤ i + I.flatten.length + x.length
  | [], i, n, h1, h2 => by simp at h2; omega
  | x :: L, i, n, h1, h2 => by
    rw [List.flatten_cons, List.length_append] at h2
    by_cases c : n ≤ i + x.length
    · exact ⟨[], x, L, rfl, by simpa using h1, by simpa using c⟩
    · obtain ⟨I, y, J, e, a, b⟩ := over L (i + x.length) n (by omega) (by omega)
      exact ⟨x :: I, y, J, by rw [e]; rfl, by rw [List.flatten_cons, List.length_append]; omega, by rw [List.flatten_cons, List.length_append]; omega⟩
/-- any cutting of a turned ring is one at places -/
theorem ring_places {ws : List Int} {i : Nat} (hi : i < ws.length) {L : List (List Int)} (hL : L.flatten = rot ws i) (ne : ∀ x ∈ L, x ≠ []) : ∃ b c, Ris ws.length 0 (b :: c) ∧ (b :: c).length = L.length ∧ ∀ x ∈ rp ws (b + ws.length) (b :: c), x ∈ L := by
  have hfl : L.flatten.length = ws.length := by rw [hL, rot_len]
  obtain ⟨I, x, J, e, h1, h2⟩ := over L i ws.length hi (by omega)
  subst e
  have hm : (I.flatten ++ x).length ≤ ws.length := by
    rw [← hfl]
    simp only [List.flatten_append, List.flatten_cons, List.length_append]
    omega
  have hl1 : (I.flatten ++ x).length = I.flatten.length + x.length := List.length_append
  -- the ring turned once more
  have hr : rot ws (i + (I.flatten ++ x).length - ws.length) = (J ++ (I ++ [x])).flatten := by
    have e1 : rot (rot ws i) (I.flatten ++ x).length = J.flatten ++ (I.flatten ++ x) := by
      rw [← hL, show (I ++ x :: J).flatten = (I.flatten ++ x) ++ J.flatten by simp]
      exact rot_split _ _
    rw [rot_rot (by omega) hm] at e1
    rw [show (J ++ (I ++ [x])).flatten = J.flatten ++ (I.flatten ++ x) by simp, ← e1]
    by_cases c : i + (I.flatten ++ x).length ≤ ws.length
    · rw [if_pos c, show i + (I.flatten ++ x).length = ws.length by omega, rot_all, Nat.sub_self, rot_zero]
    · rw [if_neg c]
  generalize hj : i + (I.flatten ++ x).length - ws.length = j at hr
  have hj' : j < ws.length := by omega
  have nn : ∀ y ∈ (J ++ I) ++ [x], y ≠ [] := fun y m => ne y (by simp at m ⊢; rcases m with m | m | m <;> simp [m])
  have hflat : (J ++ I).flatten.length = ws.length - x.length := by
    have q1 := hfl
    simp only [List.flatten_append, List.flatten_cons, List.length_append] at q1 ⊢
    omega
  have hris := begs_ris (n := (ws.length : Int)) (J ++ I) x (j : Int) nn (by rw [hflat]; omega)
  rw [List.append_assoc] at hris
  have hseg : seg ws (j : Int) ((j : Int) + (ws.length : Int)) = (J ++ (I ++ [x])).flatten := by rw [seg_rot hj', hr]
  have hrp := rp_begs ws (fin := (j : Int) + (ws.length : Int)) (J ++ (I ++ [x])) j (by simp) hseg (by rw [← hr, rot_len])
  cases q : begs (j : Int) (J ++ (I ++ [x])) with
  | nil =>
    have := congrArg List.length q
    rw [begs_len] at this
    simp at this
  | cons b c =>
    have hb : b = (j : Int) := by
      cases hM : J ++ (I ++ [x]) with
      | nil => simp at hM
      | cons y M => rw [hM] at q; exact (List.cons.inj q).1.symm
    rw [q] at hris hrp
    subst hb
    refine ⟨j, c, hris.low (by omega), ?_, fun y m => ?_⟩
    · rw [← q, begs_len]; simp; omega
    · rw [hrp] at m
      simp at m ⊢
      rcases m with m | m | m <;> simp [m]
/-! ### all cuts -/
def lastP (c : List Int) : Int := match c.getLast? with
  | some l => l + 1
  | none => 1
def nxt (n : Int) (c : List Int) : List (List Int) := (rngL (lastP c) (n - lastP c).toNat).map fun p => c ++ [p]
def allC (n : Int) : Nat → List (List Int)
  | 0 => [[]]
  | t + 1 => (allC n t).flatMap (nxt n)
theorem Ris.snoc {n p : Int} : ∀ {c : List Int} {lo : Int}, Ris n lo (c ++ [p]) ↔ Ris n lo c ∧ p < n ∧ (match c.getLast? with | some l => l + 1 ≤ p | none => lo ≤ p)
  | [], lo => by
    show (lo ≤ p ∧ p < n ∧ True) ↔ True ∧ p < n ∧ lo ≤ p
    constructor
    · rintro ⟨a, b, _⟩; exact ⟨trivial, b, a⟩
    · rintro ⟨_, b, a⟩; exact ⟨a, b, trivial⟩
  | [x], lo => by
    show (lo ≤ x ∧ x < n ∧ x + 1 ≤ p ∧ p < n ∧ True) ↔ (lo ≤ x ∧ x < n ∧ True) ∧ p < n ∧ x + 1 ≤ p
    constructor
    · rintro ⟨a, b, c, d, _⟩; exact ⟨⟨a, b, trivial⟩, d, c⟩
    · rintro ⟨⟨a, b, _⟩, d, c⟩; exact ⟨a, b, c, d, trivial⟩
  | x :: y :: c, lo => by
    have ih := Ris.snoc (n := n) (p := p) (c := y :: c) (lo := x + 1)
    rw [List.getLast?_cons_cons]
    show (lo ≤ x ∧ x < n ∧ Ris n (x + 1) ((y :: c) ++ [p])) ↔ (lo ≤ x ∧ x < n ∧ Ris n (x + 1) (y :: c)) ∧ _
    rw [ih]
    constructor
    · rintro ⟨a, b, c, d⟩; exact ⟨⟨a, b, c⟩, d⟩
    · rintro ⟨⟨a, b, c⟩, d⟩; exact ⟨a, b, c, d⟩
theorem mem_allC {n : Int} : ∀ {t : Nat} {c : List Int}, c ∈ allC n t ↔ c.length = t ∧ Ris n 1 c
  | 0, c => by
    show c ∈ [[]] ↔ _
    rw [List.mem_singleton]
    constructor
    · rintro rfl; exact ⟨rfl, trivial⟩
    · rintro ⟨h, _⟩; exact List.length_eq_zero_iff.mp h
  | t + 1, c => by
    show c ∈ (allC n t).flatMap (nxt n) ↔ _
    rw [List.mem_flatMap]
    constructor
    · rintro ⟨d, hd, hc⟩
      obtain ⟨h1, h2⟩ := mem_allC.mp hd
      obtain ⟨p, hp, rfl⟩ := List.mem_map.mp hc
      have hp := mem_rngL.mp hp
      refine ⟨by rw [List.length_append, h1]; rfl, Ris.snoc.mpr ⟨h2, by omega, ?_⟩⟩
      unfold lastP at hp
      split at hp <;> exact hp.1
    · rintro ⟨h1, h2⟩
      cases List.eq_nil_or_concat c with
      | inl e => subst e; simp at h1
      | inr e =>
        obtain ⟨d, p, e⟩ := e
        rw [List.concat_eq_append] at e
        subst e
        obtain ⟨a, b, e⟩ := Ris.snoc.mp h2
        refine ⟨d, mem_allC.mpr ⟨by rw [List.length_append] at h1; simpa using h1, a⟩, List.mem_map.mpr ⟨p, mem_rngL.mpr ?_, rfl⟩⟩
        have : lastP d ≤ p := by
          unfold lastP
          cases q : d.getLast? with
          | none => rw [q] at e; exact e
          | some l => rw [q] at e; exact e
        omega
theorem nxt_len {n : Int} {c : List Int} (h : Ris n 1 c) (hn : n ≤ 9) : (nxt n c).length ≤ 8 := by
  unfold nxt
  rw [List.length_map, rngL_length]
  have : 1 ≤ lastP c := by
    unfold lastP
    split
    · rename_i l e
      have := h.all l (List.mem_of_getLast? e)
      omega
    · omega
  omega
theorem flat_len {n : Int} (hn : n ≤ 9) : ∀ (L : List (List Int)), (∀ c ∈ L, Ris n 1 c) → (L.flatMap (nxt n)).length ≤ 8 * L.length
  | [], _ => Nat.le_refl _
  | c :: L, h => by
    rw [List.flatMap_cons, List.length_append, List.length_cons]
    have := flat_len hn L fun d m => h d (List.mem_cons_of_mem _ m)
    have := nxt_len (h c List.mem_cons_self) hn
    omega
theorem all_len {n : Int} (hn : n ≤ 9) : ∀ t : Nat, (allC n t).length ≤ 8 ^ t
  | 0 => Nat.le_refl _
  | t + 1 => by
    show ((allC n t).flatMap (nxt n)).length ≤ _
    have := flat_len hn (allC n t) fun c m => (mem_allC.mp m).2
    have := all_len hn t
    rw [Nat.pow_succ]
    omega
end RK
/-! the best cutting of a ring, over all cuttings -/
namespace RK
open DT
theorem part_le {L : List (List Int)} {x : List Int} (nn : Nn L.flatten) (h : x ∈ L) : x.sum ≤ L.flatten.sum := by
  obtain ⟨A, B, rfl⟩ := List.append_of_mem h
  rw [List.flatten_append, List.flatten_cons] at nn ⊢
  rw [sum_app, sum_app]
  have := nn.l.sum
  have := nn.r.r.sum
  omega
theorem FH.ge {ws : List Int} {k : Nat} {h : Int} (nn : Nn ws) (x : FH h k ws) : ∀ w ∈ ws, w ≤ h := by
  obtain ⟨L, e, _, hL⟩ := x
  intro w m
  rw [← e] at m nn
  obtain ⟨y, hy, hw⟩ := List.mem_flatten.mp m
  have := (hL y hy).2
  have ny : Nn y := fun z hz => nn z (List.mem_flatten.mpr ⟨y, hy, hz⟩)
  have := mem_le_sum ny hw
  omega
theorem RH.ge {ws : List Int} {k : Nat} {h : Int} (nn : Nn ws) (ne : ws ≠ []) (x : RH ws k h) : mxL ws ≤ h := by
  obtain ⟨i, _, f⟩ := x
  exact f.ge (rot_nn nn i) _ (rot_mem.mpr (mxL_mem ne))
theorem FL.le {ws : List Int} {k : Nat} {l : Int} (nn : Nn ws) (hk : 1 ≤ k) (x : FL l k ws) : l ≤ ws.sum := by
  obtain ⟨L, e, hl, hL⟩ := x
  cases L with
  | nil => simp at hl; omega
  | cons y L =>
    have := (hL y List.mem_cons_self).2
    rw [← e] at nn ⊢
    have := part_le nn (List.mem_cons_self (a := y) (l := L))
    omega
theorem RL.le {ws : List Int} {k : Nat} {l : Int} (nn : Nn ws) (hk : 1 ≤ k) (x : RL ws k l) : l ≤ ws.sum := by
  obtain ⟨i, _, f⟩ := x
  rw [← rot_sum ws i]
  exact f.le (rot_nn nn i) hk
theorem LstP.le {P : Int → Prop} {lo hi v x : Int} (h : LstP P lo hi v) (p : P x) (g : lo ≤ x) : v ≤ x := by
  by_cases c : x < v
  · exact absurd p (h.2.2.2 x g c)
  · omega
theorem GstP.ge {P : Int → Prop} {lo hi v x : Int} (h : GstP P lo hi v) (p : P x) (g : x ≤ hi) : x ≤ v := by
  by_cases c : v < x
  · exact absurd p (h.2.2.2 x c g)
  · omega
theorem lst_eq {ws us : List Int} {k j : Nat} {a b v u : Int} (nn : Nn ws) (ne : ws ≠ []) (nn' : Nn us) (ne' : us ≠ []) (h : LstP (RH ws k) (mxL ws) a v) (h' : LstP (RH us j) (mxL us) b u) (e : ∀ x, RH ws k x ↔ RH us j x) : v = u := by
  have h1 := h.le ((e u).mpr h'.2.2.1) (((e u).mpr h'.2.2.1).ge nn ne)
  have h2 := h'.le ((e v).mp h.2.2.1) (((e v).mp h.2.2.1).ge nn' ne')
  omega
theorem gst_eq {ws us : List Int} {k j : Nat} {a b v u : Int} (nn : Nn ws) (nn' : Nn us) (hk : 1 ≤ k) (hj : 1 ≤ j) (h : GstP (RL ws k) a ws.sum v) (h' : GstP (RL us j) b us.sum u) (e : ∀ x, RL ws k x ↔ RL us j x) : v = u := by
  have h1 := h.ge ((e u).mpr h'.2.2.1) (((e u).mpr h'.2.2.1).le nn hk)
  have h2 := h'.ge ((e v).mp h.2.2.1) (((e v).mp h.2.2.1).le nn' hj)
  omega
theorem FH.more {ws : List Int} {k j : Nat} {h : Int} (x : FH h k ws) (e : k ≤ j) : FH h j ws := let ⟨L, a, b, c⟩ := x; ⟨L, a, Nat.le_trans b e, c⟩
theorem FL.less {ws : List Int} {k j : Nat} {h : Int} (x : FL h k ws) (e : j ≤ k) : FL h j ws := let ⟨L, a, b, c⟩ := x; ⟨L, a, Nat.le_trans e b, c⟩
theorem RH.more {ws : List Int} {k j : Nat} {h : Int} (x : RH ws k h) (e : k ≤ j) : RH ws j h := let ⟨i, a, b⟩ := x; ⟨i, a, b.more e⟩
theorem RL.less {ws : List Int} {k j : Nat} {h : Int} (x : RL ws k h) (e : j ≤ k) : RL ws j h := let ⟨i, a, b⟩ := x; ⟨i, a, b.less e⟩
theorem RH_rev_iff {ws : List Int} {k : Nat} {h : Int} : RH ws.reverse k h ↔ RH ws k h := ⟨fun x => by
  have := RH_rev x
  rwa [List.reverse_reverse] at this, RH_rev⟩
theorem RL_rev_iff {ws : List Int} {k : Nat} {h : Int} : RL ws.reverse k h ↔ RL ws k h := ⟨fun x => by
  have := RL_rev x
  rwa [List.reverse_reverse] at this, RL_rev⟩
/-- the weights of the parts that begin at places -/
def rsm (ws : List Int) (c : List Int) : List Int := (rp ws (c.headD 0 + (ws.length : Int)) c).map List.sum
def PT (ws : List Int) (k : Nat) : List (List Int) := (allC ((ws.length : Int) + 1) k).map fun c => rsm ws (c.map fun p => p - 1)
theorem ris_down {n : Int} : ∀ {c : List Int} {lo : Int}, Ris (n + 1) (lo + 1) c → Ris n lo (c.map fun p => p - 1)
  | [], _, _ => trivial
  | x :: c, lo, h => ⟨by have := h.1; show lo ≤ x - 1; omega, by have := h.2.1; show x - 1 < n; omega, by
      have := ris_down (n := n) (c := c) (lo := x) h.2.2
      show Ris n (x - 1 + 1) _
      rwa [show x - 1 + 1 = x by omega]⟩
theorem ris_up {n : Int} : ∀ {c : List Int} {lo : Int}, Ris n lo c → Ris (n + 1) (lo + 1) (c.map fun p => p + 1)
  | [], _, _ => trivial
  | x :: c, lo, h => ⟨by have := h.1; show lo + 1 ≤ x + 1; omega, by have := h.2.1; show x + 1 < n + 1; omega, ris_up h.2.2⟩
theorem down_up (c : List Int) : (c.map fun p => p + 1).map (fun p => p - 1) = c := by
  rw [List.map_map]
  conv => rhs; rw [← List.map_id c]
  exact List.map_congr_left fun x _ => by show x + 1 - 1 = x; omega
theorem mem_PT {ws : List Int} {k : Nat} {s : List Int} : s ∈ PT ws k ↔ ∃ c, c.length = k ∧ Ris ws.length 0 c ∧ s = rsm ws c := by
  unfold PT
  rw [List.mem_map]
  constructor
  · rintro ⟨c, hc, rfl⟩
    obtain ⟨a, b⟩ := mem_allC.mp hc
    exact ⟨_, by rw [List.length_map]; exact a, ris_down (lo := 0) b, rfl⟩
  · rintro ⟨c, a, b, rfl⟩
    exact ⟨c.map fun p => p + 1, mem_allC.mpr ⟨by rw [List.length_map]; exact a, ris_up b⟩, by rw [down_up]⟩
/-- a cutting at places, of a turned ring -/
theorem PT_cut {ws : List Int} {k : Nat} (hk : 1 ≤ k) {s : List Int} (h : s ∈ PT ws k) : ∃ (i : Nat) (L : List (List Int)), i < ws.length ∧ L.flatten = rot ws i ∧ L.length = k ∧ (∀ x ∈ L, x ≠ []) ∧ s = L.map List.sum := by
  obtain ⟨c, a, b, rfl⟩ := mem_PT.mp h
  cases c with
  | nil => simp at a; omega
  | cons p r =>
    have h0 := b.1
    have h1 := b.2.1
    have e : p = ((p.toNat : Nat) : Int) := by omega
    refine ⟨p.toNat, rp ws (p + ws.length) (p :: r), by omega, ?_, by rw [rp_len]; exact a, rp_ne ws r p 0 b (by omega), rfl⟩
    rw [rp_flat ws r p 0 b (by omega), ← seg_rot (by omega), ← e]
theorem PT_of {ws : List Int} {i : Nat} (hi : i < ws.length) {L : List (List Int)} (hL : L.flatten = rot ws i) (ne : ∀ x ∈ L, x ≠ []) : ∃ s ∈ PT ws L.length, s.length = L.length ∧ ∀ y ∈ s, ∃ x ∈ L, y = x.sum := by
  obtain ⟨b, c, r, l, h⟩ := ring_places hi hL ne
  refine ⟨rsm ws (b :: c), mem_PT.mpr ⟨_, l, r, rfl⟩, by unfold rsm; rw [List.length_map, rp_len, l], fun y m => ?_⟩
  obtain ⟨x, hx, rfl⟩ := List.mem_map.mp m
  exact ⟨x, h x hx, rfl⟩
theorem rot_exists {ws : List Int} (h : 1 ≤ ws.length) : ∃ b c, Ris ws.length 0 (b :: c) := ⟨0, [], by refine ⟨Int.le_refl _, by omega, trivial⟩⟩
theorem PT_ne {ws : List Int} {k : Nat} (nn : Nn ws) (hk : 1 ≤ k ∧ k ≤ ws.length) : PT ws k ≠ [] := by
  have key : ∀ (m : Nat) (lo : Int), lo + m ≤ (ws.length : Int) → Ris ws.length lo (rngL lo m) := by
    intro m
    induction m with
    | zero => intro lo _; trivial
    | succ m ih =>
      intro lo h
      have e : rngL lo (m + 1) = lo :: rngL (lo + 1) m := by
        rw [show m + 1 = 1 + m by omega, rngL_app]
        show [lo + ((0 : Nat) : Int)] ++ rngL (lo + ((1 : Nat) : Int)) m = _
        simp
      rw [e]
      exact ⟨Int.le_refl _, by omega, ih (lo + 1) (by omega)⟩
  intro e
  have : rsm ws (rngL 0 k) ∈ PT ws k := mem_PT.mpr ⟨_, rngL_length _ _, key k 0 (by omega), rfl⟩
  rw [e] at this
  cases this
theorem due_high {ws : List Int} {k : Nat} (nn : Nn ws) (hk : 1 ≤ k ∧ k ≤ ws.length) : LstP (RH ws k) (mxL ws) ws.sum (mnL ((PT ws k).map mxL)) := by
  have hne : (PT ws k).map mxL ≠ [] := fun e => PT_ne nn hk (List.map_eq_nil_iff.mp e)
  have ne : ws ≠ [] := fun e => by rw [e] at hk; simp at hk; omega
  obtain ⟨s, hs, e⟩ := List.mem_map.mp (mnL_mem hne)
  obtain ⟨i, L, hi, hL, hl, hn, rfl⟩ := PT_cut hk.1 hs
  have hLn : L.map List.sum ≠ [] := fun e => by have := congrArg List.length e; rw [List.length_map, hl] at this; simp at this; omega
  have rh : RH ws k (mnL ((PT ws k).map mxL)) := ⟨i, hi, L, hL, by omega, fun x m => ⟨hn x m, by rw [← e]; exact mxL_ge (List.mem_map.mpr ⟨x, m, rfl⟩)⟩⟩
  refine ⟨rh.ge nn ne, ?_, rh, ?_⟩
  · rw [← e]
    obtain ⟨x, m, e'⟩ := List.mem_map.mp (mxL_mem hLn)
    rw [← e', ← rot_sum ws i, ← hL]
    exact part_le (by rw [hL]; exact rot_nn nn i) m
  · intro x hx hlt hr
    obtain ⟨j, hj, L1, e1, l1, h1⟩ := hr
    have nL : Nn L1.flatten := by rw [e1]; exact rot_nn nn j
    obtain ⟨L2, e2, l2, h2⟩ := exact_high (k := k) _ L1 rfl l1 (by rw [e1, rot_len]; exact hk.2) nL h1
    obtain ⟨s, ms, ls, h⟩ := PT_of hj (L := L2) (by rw [e2, e1]) fun y m => (h2 y m).1
    rw [l2] at ms ls
    have sne : s ≠ [] := fun e => by rw [e] at ls; simp at ls; omega
    obtain ⟨y, my, ey⟩ := h _ (mxL_mem sne)
    have := (h2 y my).2
    have := mnL_le (List.mem_map.mpr ⟨s, ms, rfl⟩ : mxL s ∈ (PT ws k).map mxL)
    omega
theorem due_low {ws : List Int} {k : Nat} (nn : Nn ws) (hk : 1 ≤ k ∧ k ≤ ws.length) : GstP (RL ws k) 0 ws.sum (mxL ((PT ws k).map mnL)) := by
  have hne : (PT ws k).map mnL ≠ [] := fun e => PT_ne nn hk (List.map_eq_nil_iff.mp e)
  obtain ⟨s, hs, e⟩ := List.mem_map.mp (mxL_mem hne)
  obtain ⟨i, L, hi, hL, hl, hn, rfl⟩ := PT_cut hk.1 hs
  have hLn : L.map List.sum ≠ [] := fun e => by have := congrArg List.length e; rw [List.length_map, hl] at this; simp at this; omega
  have rl : RL ws k (mxL ((PT ws k).map mnL)) := ⟨i, hi, L, hL, by omega, fun x m => ⟨hn x m, by rw [← e]; exact mnL_le (List.mem_map.mpr ⟨x, m, rfl⟩)⟩⟩
  refine ⟨?_, rl.le nn hk.1, rl, ?_⟩
  · rw [← e]
    obtain ⟨x, m, e'⟩ := List.mem_map.mp (mnL_mem hLn)
    rw [← e']
    have nL : Nn L.flatten := by rw [hL]; exact rot_nn nn i
    exact Nn.sum fun z hz => nL z (List.mem_flatten.mpr ⟨x, m, hz⟩)
  · intro x hlt hx hr
    obtain ⟨j, hj, L1, e1, l1, h1⟩ := hr
    have nL : Nn L1.flatten := by rw [e1]; exact rot_nn nn j
    obtain ⟨L2, e2, l2, h2⟩ := exact_low (k := k) hk.1 _ L1 rfl l1 nL h1
    obtain ⟨s, ms, ls, h⟩ := PT_of hj (L := L2) (by rw [e2, e1]) fun y m => (h2 y m).1
    rw [l2] at ms ls
    have sne : s ≠ [] := fun e => by rw [e] at ls; simp at ls; omega
    obtain ⟨y, my, ey⟩ := h _ (mnL_mem sne)
    have := (h2 y my).2
    have := mxL_ge (List.mem_map.mpr ⟨s, ms, rfl⟩ : mnL s ∈ (PT ws k).map mnL)
    omega
/-- the least of the rows, one for each turn -/
theorem rows_high {ws ys : List Int} {k : Nat} (nn : Nn ws) (ne : ws ≠ []) (h1 : ∀ y ∈ ys, ∃ i, i < ws.length ∧ ∃ a b, LstP (fun x => FH x k (rot ws i)) a b y) (h2 : ∀ i, i < ws.length → ∃ y ∈ ys, ∃ b, LstP (fun x => FH x k (rot ws i)) (mxL (rot ws i)) b y) {a v : Int} (h : LstP (RH ws k) (mxL ws) a v) : v = mnL ys := by
  obtain ⟨i, hi, f⟩ := h.2.2.1
  obtain ⟨y, my, b, hy⟩ := h2 i hi
  have m1 := mnL_le my
  have m2 := hy.le f (f.ge (rot_nn nn i) _ (mxL_mem (rot_ne ne)))
  obtain ⟨j, hj, a', b', l⟩ := h1 _ (mnL_mem (List.ne_nil_of_mem my))
  have r : RH ws k (mnL ys) := ⟨j, hj, l.2.2.1⟩
  have := h.le r (r.ge nn ne)
  omega
theorem rows_low {ws ys : List Int} {k : Nat} (nn : Nn ws) (hk : 1 ≤ k) (h1 : ∀ y ∈ ys, ∃ i, i < ws.length ∧ ∃ a b, GstP (fun x => FL x k (rot ws i)) a b y) (h2 : ∀ i, i < ws.length → ∃ y ∈ ys, ∃ b, GstP (fun x => FL x k (rot ws i)) b (rot ws i).sum y) {a v : Int} (h : GstP (RL ws k) a ws.sum v) : v = mxL ys := by
  obtain ⟨i, hi, f⟩ := h.2.2.1
  obtain ⟨y, my, b, hy⟩ := h2 i hi
  have m1 := mxL_ge my
  have m2 := hy.ge f (f.le (rot_nn nn i) hk)
  obtain ⟨j, hj, a', b', l⟩ := h1 _ (mxL_mem (List.ne_nil_of_mem my))
  have r : RL ws k (mxL ys) := ⟨j, hj, l.2.2.1⟩
  have := h.ge r (r.le nn hk)
  omega
theorem ok_mapR {α β : Type} {f : α → Ro β} {R : α → β → Prop} : ∀ (xs : List α), (∀ x ∈ xs, (f x).Ok (R x)) → (mapR xs f).Ok fun ys => ys.length = xs.length ∧ (∀ y ∈ ys, ∃ x ∈ xs, R x y) ∧ ∀ x ∈ xs, ∃ y ∈ ys, R x y
  | [], _ => ok_ok ⟨rfl, ⟨fun y m => (List.not_mem_nil m).elim, fun y m => (List.not_mem_nil m).elim⟩⟩
  | x :: xs, h => by
    obtain ⟨y, e, r⟩ := h x List.mem_cons_self
    obtain ⟨ys, e', l, a, b⟩ := ok_mapR xs fun z m => h z (List.mem_cons_of_mem _ m)
    refine ⟨y :: ys, by unfold mapR; rw [e, bind_ok, e']; rfl, by rw [List.length_cons, List.length_cons, l], fun z m => ?_, fun z m => ?_⟩
    · rcases List.mem_cons.mp m with rfl | m
      · exact ⟨x, List.mem_cons_self, r⟩
      · obtain ⟨w, hw, q⟩ := a z m
        exact ⟨w, List.mem_cons_of_mem _ hw, q⟩
    · rcases List.mem_cons.mp m with rfl | m
      · exact ⟨y, List.mem_cons_self, r⟩
      · obtain ⟨w, hw, q⟩ := b z m
        exact ⟨w, List.mem_cons_of_mem _ hw, q⟩
end RK
namespace k32
open PySem DT RK
theorem weights_ok {ds : List Int} (h : Dr ds) {n : Nat} (hn : n ≤ 1000) : ((p_law_weights ds n).noEx).Ok fun z => (z.1.length = n ∧ ∀ w ∈ z.1, 0 ≤ w ∧ w < 1000) ∧ Dr z.2 := by
  refine ok_noEx ?_
  unfold p_law_weights
  refine ok_bind (pick_ok h (by decide)) fun r1 h1 => ?_
  have hm : 0 < r1.1 ∧ r1.1 ≤ 1000 := by
    have := h1.1
    simp only [List.mem_cons, List.not_mem_nil, or_false] at this
    omega
  refine ok_bind (P := fun (z : List Int × List Int) => (z.1.length = n ∧ ∀ w ∈ z.1, 0 ≤ w ∧ w < 1000) ∧ Dr z.2) (ok_bind (P := fun (z : List Int × List Int) => (z.1.length = n ∧ ∀ w ∈ z.1, 0 ≤ w ∧ w < 1000) ∧ Dr z.2) (ok_bind (ok_rng1 (by omega) rfl) fun r2 h2 => ok_bind (P := fun (z : List Int × List Int) => (z.1.length = n ∧ ∀ w ∈ z.1, 0 ≤ w ∧ w < 1000) ∧ Dr z.2) ?_ fun z hz => ok_ok hz) fun z hz => ok_ok hz) fun z hz => ok_ok hz
  subst h2
  rw [szR_ok (by rw [rngL_length]; omega), bind_ok]
  refine ok_noEx (ok_mapS (fun i acc s => (acc.length = i ∧ ∀ w ∈ acc, 0 ≤ w ∧ w < 1000) ∧ Dr s) ⟨⟨rfl, fun w m => nomatch m⟩, h1.2.1⟩ (fun x _ i acc s hi hs => ?_) fun ys s hs => ⟨⟨by rw [hs.1.1, rngL_length]; omega, hs.1.2⟩, hs.2⟩)
  refine ok_bind (P := fun z => (0 ≤ z.1 ∧ z.1 < 1000) ∧ Dr z.2) (ok_bind (P := Dn s) (ok_bind (next_ok hs.2) fun z hz => ok_ok hz) fun z hz => ok_bind (ok_mod hm.1 rfl) fun y hy => ok_ok ?_) fun z hz => ok_ok ?_
  · subst hy
    have := Int.emod_nonneg z.1 (show r1.1 ≠ 0 by omega)
    have := Int.emod_lt_of_pos z.1 hm.1
    exact ⟨⟨by omega, by show z.1 % r1.1 < 1000; omega⟩, hz.2.1⟩
  · refine ⟨⟨by rw [List.length_append, hs.1.1]; rfl, fun w m => ?_⟩, hz.2⟩
    rcases List.mem_append.mp m with m | m
    · exact hs.1.2 w m
    · rw [List.mem_singleton.mp m]; exact hz.1
theorem ix_last {xs : List Int} {v : Int} (h : xs.getLast? = some v) : ixR xs (-1) = .ok v := by
  have hne : xs ≠ [] := fun e => by rw [e] at h; cases h
  have hl : 0 < xs.length := List.length_pos_iff.mpr hne
  unfold ixR L2.atI L2.ixN
  rw [if_neg (by decide), if_pos (by omega)]
  rw [List.getLast?_eq_getElem?] at h
  simp only [Option.bind_some]
  rw [show (-1 + (xs.length : Int)).toNat = xs.length - 1 by omega, h]
theorem last_ok (c : List Int) : (if (!c.isEmpty) = true then (ixR c (-1 : Int)).bind fun (r9 : Int) => .ok (r9 + (1 : Int)) else .ok (1 : Int)) = Ro.ok (lastP c) := by
  unfold lastP
  cases q : c.getLast? with
  | none =>
    have := List.getLast?_eq_none_iff.mp q
    subst this; rfl
  | some l =>
    have hne : c ≠ [] := fun e => by rw [e] at q; cases q
    rw [if_pos (by cases c with | nil => exact absurd rfl hne | cons a b => rfl), ix_last q]; rfl
theorem all_cuts_ok {n k : Nat} (hn : n ≤ 9) (hk : 1 ≤ k ∧ k ≤ 9) : p_law_all_cuts n k = .ok (allC n (k - 1)) := by
  have key : (p_law_all_cuts n k).Ok fun s => s = allC n (k - 1) := by
    unfold p_law_all_cuts
    refine ok_let (ok_bind (P := fun s => s = allC n (k - 1)) (ok_bind (ok_rng1 (by omega) rfl) fun r hr => ?_) fun s hs => ok_ok hs)
    subst hr
    refine ok_forR (fun i s => s = allC n i) rfl (fun i s hi hs => ?_) fun s hs => by rw [hs, rngL_length, show ((k : Int) - 1).toNat = k - 1 by omega]
    subst hs
    rw [rngL_length] at hi
    have hris : ∀ c ∈ allC (n : Int) i, Ris n 1 c := fun c m => (mem_allC.mp m).2
    have h8 : (allC (n : Int) i).length ≤ 8 ^ 7 := Nat.le_trans (all_len (by omega) i) (Nat.pow_le_pow_right (by decide) (by omega))
    refine ok_let (ok_bind (P := fun s => s = (allC n i).flatMap (nxt n)) (ok_forR (fun j s => s = ((allC n i).take j).flatMap (nxt n)) rfl (fun j s hj hs => ?_) fun s hs => by rw [hs, List.take_length]) fun s hs => ok_ok hs)
    subst hs
    have hc := hris _ (List.getElem_mem hj)
    have ht : (((allC (n : Int) i).take (j + 1)).flatMap (nxt n)).length ≤ 16777216 := by
      have := flat_len (n := n) (by omega) ((allC (n : Int) i).take (j + 1)) fun c m => hris c (List.mem_of_mem_take m)
      rw [List.length_take] at this
      have e87 : 8 ^ 7 = 2097152 := by decide
      omega
    have nl := nxt_len hc (by omega)
    have e : ((allC (n : Int) i).take (j + 1)).flatMap (nxt n) = ((allC (n : Int) i).take j).flatMap (nxt n) ++ nxt n (allC (n : Int) i)[j] := by
      rw [take_snoc hj, List.flatMap_append]; simp
    rw [e] at ht
    generalize hcc : (allC (n : Int) i)[j] = c at hc e ht nl
    have hl : 1 ≤ lastP c ∧ lastP c ≤ 9 := by
      unfold lastP
      split
      · rename_i l q
        have := hc.all l (List.mem_of_getLast? q)
        omega
      · omega
    refine ok_bind (P := fun (z : List (List Int) × List (List Int)) => z.2 = ((allC (n : Int) i).take (j + 1)).flatMap (nxt n)) (ok_bind (P := fun z => z = nxt n c) ?_ fun z hz => ok_bind (ok_cat (by rw [hz, ← List.length_append]; exact ht) rfl) fun y hy => ok_ok ?_) fun z hz => ok_ok hz
    · rw [last_ok, bind_ok]
      refine ok_bind (ok_rng2 (by omega) rfl) fun r hr => ?_
      subst hr
      rw [szR_ok (by rw [rngL_length]; omega), bind_ok]
      refine ok_noEx (ok_of (mapR_ok (g := fun p => c ++ [p]) _ fun p _ => ?_) rfl)
      exact catR_ok (by have := (mem_allC.mp (hcc ▸ List.getElem_mem hj : c ∈ allC (n : Int) i)).1; rw [this]; simp; omega)
    · subst hz; subst hy; rw [e]
  obtain ⟨s, e, h⟩ := key
  rw [e, h]
theorem seg_ok {ws : List Int} (h0 : 0 < ws.length) {b e : Int} : mapR (rngL b (e - b).toNat) (fun (place : Int) => ((modR place (ws.length : Int)).bind fun (r22 : Int) => ixR ws r22 : Ro Int)) = .ok (seg ws b e) := by
  refine mapR_ok _ fun p _ => ?_
  rw [modR_ok (by omega), bind_ok]
  have a := Int.emod_nonneg p (show (ws.length : Int) ≠ 0 by omega)
  have b := Int.emod_lt_of_pos p (show (0 : Int) < ws.length by omega)
  unfold atN
  generalize p % (ws.length : Int) = q at a b
  have hq : q.toNat < ws.length := by omega
  have := ixR_ok (xs := ws) (n := q.toNat) (List.getElem?_eq_getElem hq)
  rw [Int.toNat_of_nonneg a] at this
  rw [this, List.getD_eq_getElem?_getD, List.getElem?_eq_getElem hq]; rfl
theorem ring_parts_ok {ws : List Int} (hw : 0 < ws.length ∧ ws.length ≤ 1000) {c : List Int} (hc : c ≠ []) (hr : Ris ws.length 0 c) (hcl : c.length ≤ 1000) : p_law_ring_parts ws c = .ok (rsm ws c) := by
  have key : (p_law_ring_parts ws c).Ok fun s => s = rsm ws c := by
    unfold p_law_ring_parts
    have rl : (rsm ws c).length = c.length := by unfold rsm; rw [List.length_map, rp_len]
    refine ok_let (ok_let (ok_bind (P := fun s => s = rsm ws c) (ok_bind (ok_rng1 (by omega) rfl) fun r hr => ?_) fun s hs => ok_ok hs))
    subst hr
    refine ok_forR (fun i s => s = (rsm ws c).take i) rfl (fun i s hi hs => ?_) fun s hs => by rw [hs, rngL_length, Int.toNat_natCast, ← rl, List.take_length]
    rw [rngL_length, Int.toNat_natCast] at hi
    rw [rngL_get]
    subst hs
    have h0 := hr.all _ (List.getElem_mem hi)
    have e0 : c.headD 0 = c[0]'(by omega) := by cases c with | nil => exact absurd rfl hc | cons a b => rfl
    have h00 := hr.all _ (List.getElem_mem (show 0 < c.length by omega))
    refine ok_bind (P := fun z => z = (c[i], if h2 : i + 1 < c.length then c[i + 1] else c[0]'(by omega) + (ws.length : Int))) ?_ fun z hz => ?_
    · rw [show (0 : Int) + (i : Int) = ((i : Nat) : Int) by omega]
      refine ok_bind (ok_ix hi rfl) fun a ha => ok_bind (P := fun z => z = if h2 : i + 1 < c.length then c[i + 1] else c[0]'(by omega) + (ws.length : Int)) (ok_if (fun d => ?_) fun d => ?_) fun z hz => ok_ok (by rw [ha, hz])
      · have d := of_decide_eq_true d
        have h2 : i + 1 < c.length := by omega
        rw [show (i : Int) + 1 = ((i + 1 : Nat) : Int) by omega]
        refine ok_mono (ok_ix h2 rfl) fun a ha => ?_
        rw [dif_pos h2]; exact ha.symm
      · have d := of_decide_eq_false d
        have h2 : ¬ i + 1 < c.length := by omega
        refine ok_bind (P := fun z => z = c[0]'(by omega)) (ok_of (ixR_ok (n := 0) (List.getElem?_eq_getElem (by omega))) rfl) fun a ha => ok_ok ?_
        rw [ha, dif_neg h2]
    · subst hz
      have bd : -4611686018427387904 ≤ (if h2 : i + 1 < c.length then c[i + 1] else c[0]'(by omega) + (ws.length : Int)) ∧ (if h2 : i + 1 < c.length then c[i + 1] else c[0]'(by omega) + (ws.length : Int)) ≤ 2000 := by
        split
        · rename_i h2
          have := hr.all _ (List.getElem_mem h2)
          omega
        · omega
      have eg : (rsm ws c)[i]'(by omega) = (seg ws c[i] (if h2 : i + 1 < c.length then c[i + 1] else c[0]'(by omega) + (ws.length : Int))).sum := by
        unfold rsm
        rw [List.getElem_map, rp_get ws _ c i (by rw [rp_len]; exact hi) hi]
        simp only [e0]
      rw [take_snoc (by omega), eg]
      generalize (if h2 : i + 1 < c.length then c[i + 1] else c[0]'(by omega) + (ws.length : Int)) = e at bd
      refine ok_bind (P := fun (z : Int × List Int) => z.2 = (rsm ws c).take i ++ [(seg ws c[i] e).sum]) (ok_bind (P := fun z => z = (seg ws c[i] e).sum) (ok_bind (P := fun z => z = seg ws c[i] e) (ok_bind (ok_rng2 (by omega) rfl) fun r hr => ?_) fun z hz => ok_ok (by rw [hz])) fun z hz => ok_bind (ok_app (by rw [List.length_take]; omega) rfl) fun y hy => ok_ok (by show y = _; rw [← hy, hz])) fun z hz => ok_ok hz
      subst hr
      rw [szR_ok (by rw [rngL_length]; omega), bind_ok]
      exact ok_noEx (ok_of (seg_ok hw.1) rfl)
  obtain ⟨s, e, h⟩ := key
  rw [e, h]

end k32
namespace RK
open PySem DT
theorem mulR_ok {i j : Int} (h : (-18446744073709551616 < i ∧ i < 18446744073709551616) ∨ (-18446744073709551616 < j ∧ j < 18446744073709551616)) : mulR i j = .ok (i * j) := by
  have e : cMul i j = true := by
    unfold cMul
    rw [Bool.or_eq_true]
    rcases h with h | h
    · exact .inl (decide_eq_true (by omega))
    · exact .inr (decide_eq_true (by omega))
  unfold mulR; exact if_pos e
theorem reprR_ok {d : D} (h : reprC d = true) : reprR d = .ok (PyData.shown d) := by unfold reprR; exact if_pos h
theorem repr_ints {xs : List Int} (h : Sm xs) (hl : xs.length ≤ 10000) : reprR ((eL eI) xs) = .ok (PyData.shown ((eL eI) xs)) := reprR_ok (rep_list h hl)
theorem repR_ok {α : Type} {xs : List α} {k : Nat} (hk : k ≤ 1000000) (h : xs.length * k ≤ 16777216) : repR xs (k : Int) = .ok (List.replicate k xs).flatten := by
  unfold repR guR
  have e : (2 : Int) ^ 63 = 9223372036854775808 := by decide
  rw [Int.toNat_natCast, if_pos]
  rw [Bool.and_eq_true]
  exact ⟨decide_eq_true (by omega), decide_eq_true h⟩
theorem eqR_ok {d c : D} (h : dep60 d = true) : eqR d c = .ok (PyData.eqv d c) := by unfold eqR; exact if_pos h
theorem trepR_ok {α : Type} {xs : List α} {k : Int} (h : (!xs.isEmpty && decide (2 ≤ k) && decide (k ≤ 1000000) && decide (xs.length * k.toNat ≤ 1000000)) = true) : trepR xs k = .ok (List.replicate k.toNat xs).flatten := by unfold trepR; exact if_pos h
end RK
namespace k32
open PySem DT RK
theorem dm_ok {ds : List Int} (h : Dr ds) {m c : Int} (hm : 0 < m) : (((((p_law_next ds).noEx).bind fun (r3 : (Int × (List Int))) => .ok (r3.1, r3.2)).bind fun (r5 : (Int × (List Int))) => .ok ((r5.1 % m), r5.2)).bind fun (r7 : (Int × (List Int))) => .ok ((c + r7.1), r7.2) : Ro (Int × List Int)).Ok fun z => (c ≤ z.1 ∧ z.1 < c + m) ∧ Dr z.2 := by
  refine ok_bind (P := fun z => (0 ≤ z.1 ∧ z.1 < m) ∧ Dr z.2) (ok_bind (P := Dn ds) (ok_bind (next_ok h) fun z hz => ok_ok hz) fun z hz => ok_ok ⟨⟨Int.emod_nonneg _ (by omega), Int.emod_lt_of_pos _ hm⟩, hz.2.1⟩) fun z hz => ok_ok ⟨?_, hz.2⟩
  have := hz.1
  show c ≤ c + z.1 ∧ c + z.1 < c + m
  omega
theorem m0_ok {ds : List Int} (h : Dr ds) {m : Int} (hm : 0 < m) : (((((p_law_next ds).noEx).bind fun (r3 : (Int × (List Int))) => .ok (r3.1, r3.2)).bind fun (r5 : (Int × (List Int))) => .ok ((r5.1 % m), r5.2)).bind fun (r7 : (Int × (List Int))) => .ok (r7.1, r7.2) : Ro (Int × List Int)).Ok fun z => (0 ≤ z.1 ∧ z.1 < m) ∧ Dr z.2 := by
  refine ok_bind (P := fun z => (0 ≤ z.1 ∧ z.1 < m) ∧ Dr z.2) (ok_bind (P := Dn ds) (ok_bind (next_ok h) fun z hz => ok_ok hz) fun z hz => ok_ok ⟨⟨Int.emod_nonneg _ (by omega), Int.emod_lt_of_pos _ hm⟩, hz.2.1⟩) fun z hz => ok_ok hz
theorem dv_ok {ds : List Int} (h : Dr ds) {m : Int} (hm : 0 < m) : ((((p_law_next ds).noEx).bind fun (r10 : (Int × (List Int))) => .ok (r10.1, r10.2)).bind fun (r12 : (Int × (List Int))) => (modR r12.1 m).bind fun (r13 : Int) => .ok (r13, r12.2) : Ro (Int × List Int)).Ok fun z => (0 ≤ z.1 ∧ z.1 < m) ∧ Dr z.2 := by
  refine ok_bind (P := Dn ds) (ok_bind (next_ok h) fun z hz => ok_ok hz) fun z hz => ok_bind (ok_mod hm rfl) fun y hy => ok_ok ?_
  subst hy
  exact ⟨⟨Int.emod_nonneg _ (by omega), Int.emod_lt_of_pos _ hm⟩, hz.2.1⟩
/-! ### what is due -/
def prt (ws : List Int) (k : Nat) : List (List Int) := if 1 < k then PT ws k else [[ws.sum]]
theorem prt_ne {ws : List Int} {k : Nat} (hk : 1 ≤ k) : ∀ s ∈ prt ws k, s ≠ [] := by
  intro s m e
  unfold prt at m
  split at m
  · obtain ⟨i, L, _, _, l, _, e'⟩ := PT_cut hk m
    rw [e] at e'
    have := congrArg List.length e'
    rw [List.length_map, l] at this
    simp at this; omega
  · rw [List.mem_singleton.mp m] at e; cases e
theorem parts_ok {ws : List Int} (h3 : 3 ≤ ws.length ∧ ws.length ≤ 8) {k : Nat} (hk : 1 ≤ k ∧ k ≤ ws.length) : (if (decide ((1 : Int) < (k : Int))) = true then (p_law_all_cuts ((ws.length : Int) + (1 : Int)) ((k : Int) + (1 : Int))).bind fun (r21 : (List (List Int))) => (szR r21.length ()).bind fun _ => (mapR r21 (fun (cuts : (List Int)) => (((szR cuts.length (cuts.map (fun (place : Int) => ((place - (1 : Int)) : Int)))).bind fun (r23 : (List Int)) => .ok r23).bind fun (r25 : (List Int)) => p_law_ring_parts ws r25 : Ro (List Int)))).noEx else .ok ([([ws.sum] : (List Int))] : (List (List Int)))) = Ro.ok (prt ws k) := by
  unfold prt
  by_cases c : 1 < k
  · rw [if_pos (decide_eq_true (by omega)), if_pos c]
    rw [show (ws.length : Int) + 1 = ((ws.length + 1 : Nat) : Int) by omega, show (k : Int) + 1 = ((k + 1 : Nat) : Int) by omega, all_cuts_ok (by omega) (by omega), bind_ok, Nat.add_sub_cancel]
    have h8 : (allC ((ws.length + 1 : Nat) : Int) k).length ≤ 8 ^ 8 := Nat.le_trans (all_len (by omega) k) (Nat.pow_le_pow_right (by decide) (by omega))
    have e88 : 8 ^ 8 = 16777216 := by decide
    rw [szR_ok (by omega), bind_ok]
    rw [mapR_ok (g := fun c => rsm ws (c.map fun p => p - 1)) _ fun c m => ?_]
    · rfl
    · obtain ⟨l, r⟩ := mem_allC.mp m
      rw [szR_ok (by omega), bind_ok, bind_ok]
      refine ring_parts_ok (by omega) (fun e => ?_) (ris_down (lo := 0) ?_) (by rw [List.length_map]; omega)
      · have := congrArg List.length e
        rw [List.length_map, l] at this; simp at this; omega
      · rw [show (ws.length : Int) + 1 = ((ws.length + 1 : Nat) : Int) by omega]; exact r
  · rw [if_neg (by simp; omega), if_neg c]
theorem prt_len {ws : List Int} (h3 : ws.length ≤ 8) {k : Nat} (hk : k ≤ 8) : (prt ws k).length ≤ 16777216 := by
  unfold prt
  split
  · unfold PT
    rw [List.length_map]
    have h8 : (allC ((ws.length : Int) + 1) k).length ≤ 8 ^ 8 := Nat.le_trans (all_len (by omega) k) (Nat.pow_le_pow_right (by decide) (by omega))
    have e88 : 8 ^ 8 = 16777216 := by decide
    omega
  · show 1 ≤ 16777216; omega
theorem asked_due {ws : List Int} (h : Row ws) (h3 : 3 ≤ ws.length ∧ ws.length ≤ 8) {k : Nat} (hk : 1 ≤ k ∧ k ≤ ws.length) :
    p_ring_least_high ws k = .ok (mnL ((prt ws k).map mxL)) ∧ p_ring_greatest_low ws k = .ok (mxL ((prt ws k).map mnL)) ∧ (0 ≤ mnL ((prt ws k).map mxL) ∧ mnL ((prt ws k).map mxL) ≤ ws.sum) ∧ 0 ≤ mxL ((prt ws k).map mnL) ∧ mxL ((prt ws k).map mnL) ≤ ws.sum := by
  have hm := mx_bounds h
  by_cases c : 1 < k
  · have e : prt ws k = PT ws k := if_pos c
    rw [e]
    have d1 := due_high h.nn hk
    have d2 := due_low h.nn hk
    obtain ⟨v, ev, l⟩ := ring_least_ok h (by omega) (k := k) (by omega)
    obtain ⟨u, eu, g⟩ := ring_greatest_ok h (by omega) (k := k) (by omega)
    rw [ev, eu, lst_eq h.nn h.ne h.nn h.ne l d1 fun _ => Iff.rfl, gst_eq h.nn h.nn hk.1 hk.1 g d2 fun _ => Iff.rfl]
    exact ⟨rfl, rfl, ⟨by have := d1.1; omega, d1.2.1⟩, d2.1, d2.2.1⟩
  · have e : prt ws k = [[ws.sum]] := if_neg c
    have e1 : k = 1 := by omega
    subst e1
    rw [e]
    have hs := h.sum
    refine ⟨ring_least_1 h (by omega), ring_greatest_1 h (by omega), ⟨?_, ?_⟩, ?_, ?_⟩
    · exact hs.1
    · exact Int.le_refl _
    · exact hs.1
    · exact Int.le_refl _
/-! ### what goes wrong -/
theorem bad_of {ws : List Int} {k : Int} {c : Nat} {t : Str} (h : p_check_ring ws k = .ex (.pl c)) (ht : kinds c = some t) : p_law_asked 0 ws k = .ok (.str t) ∧ p_law_asked 1 ws k = .ok (.str t) := by
  constructor
  · show tryR kinds ((p_ring_least_high ws k).bind fun r => .ok (eI r)) = _
    unfold p_ring_least_high
    rw [h]
    show (match kinds c with | some t => Ro.ok (PyData.str t) | none => Ro.bad) = _
    rw [ht]
  · show tryR kinds ((p_ring_greatest_low ws k).bind fun r => .ok (eI r)) = _
    unfold p_ring_greatest_low
    rw [h]
    show (match kinds c with | some t => Ro.ok (PyData.str t) | none => Ro.bad) = _
    rw [ht]
theorem bad_num {ws : List Int} (h : Row ws) (h3 : 3 ≤ ws.length ∧ ws.length ≤ 300) {k : Int} (hk : k < 1 ∨ (ws.length : Int) < k) : p_check_ring ws k = .ex (.pl 4) := by
  unfold p_check_ring
  rw [is_row_ok h, bind_ok, decide_eq_true (show (3 : Int) ≤ ws.length by omega), decide_eq_true (show (ws.length : Int) ≤ 300 by omega)]
  have : (decide (1 ≤ k) && decide (k ≤ (ws.length : Int))) = false := by
    rw [Bool.and_eq_false_iff]
    rcases hk with hk | hk
    · exact .inl (decide_eq_false (by omega))
    · exact .inr (decide_eq_false (by omega))
  rw [this]; rfl
theorem bad_len {ws : List Int} (h : ws.length < 3 ∨ 300 < ws.length) (k : Int) : p_check_ring ws k = .ex (.pl 0) := by
  unfold p_check_ring
  have : (decide ((3 : Int) ≤ (ws.length : Int)) && decide ((ws.length : Int) ≤ 300)) = false := by
    rw [Bool.and_eq_false_iff]
    rcases h with h | h
    · exact .inl (decide_eq_false (by omega))
    · exact .inr (decide_eq_false (by omega))
  rw [this]; simp
theorem bad_row {ws : List Int} (h : p_is_row ws = .ok false) (k : Int) : p_check_ring ws k = .ex (.pl 0) := by
  unfold p_check_ring
  rw [h, bind_ok, orR_ok]; simp
theorem known_1 : p_ring_least_high ([(1 : Int), (2 : Int), (3 : Int), (4 : Int)] : (List Int)) (2 : Int) = .ok 5 := by kernel_rfl
theorem known_2 : p_ring_greatest_low ([(1 : Int), (2 : Int), (3 : Int), (4 : Int)] : (List Int)) (2 : Int) = .ok 5 := by kernel_rfl
theorem known_3 : p_ring_least_high ([(5 : Int), (0 : Int), (5 : Int)] : (List Int)) (2 : Int) = .ok 5 := by kernel_rfl
theorem known_4 : p_ring_greatest_low ([(1 : Int), (1 : Int), (1 : Int)] : (List Int)) (1 : Int) = .ok 3 := by kernel_rfl
theorem known_5 : p_ring_least_high ([(0 : Int), (0 : Int), (0 : Int)] : (List Int)) (3 : Int) = .ok 0 := by kernel_rfl
theorem row_1 : p_is_row [1, -1, 1] = .ok false := by kernel_rfl
theorem row_2 : p_is_row [1000001, 1, 1] = .ok false := by kernel_rfl
theorem flat_ok {α : Type} {rows : List (List α)} (h : rows.flatten.length ≤ 1000000) : p_law_flat rows = .ok rows.flatten := by
  have key : (p_law_flat rows).Ok fun s => s = rows.flatten := by
    unfold p_law_flat
    refine ok_let (ok_bind (ok_forR (fun i s => s = (rows.take i).flatten) rfl (fun i s hi hs => ?_) fun s hs => hs) fun s hs => ok_ok (by rw [hs, List.take_length]))
    subst hs
    have e : (rows.take (i + 1)).flatten = (rows.take i).flatten ++ rows[i] := by
      rw [List.take_succ_eq_append_getElem hi, List.flatten_append]; simp
    have l : (rows.take (i + 1)).flatten.length ≤ rows.flatten.length := by
      conv => rhs; rw [← List.take_append_drop (i + 1) rows, List.flatten_append, List.length_append]
      omega
    rw [e, List.length_append] at l
    refine ok_bind (ok_cat (by omega) rfl) fun y hy => ok_ok ?_
    first | rw [e, hy] | rw [e, ← hy]
  obtain ⟨s, e, h⟩ := key
  rw [e, h]

end k32
namespace k32
open PySem DT RK
theorem wide_ok {ds : List Int} (h : Dr ds) {size : Int} (hs : 0 ≤ size ∧ size ≤ 1000) : (((((rng1R size).bind fun (r56 : (List Int)) => ((szR r56.length ()).bind fun _ => (mapS r56 ds (fun (place : Int) (s62 : (List Int)) => (((((p_law_next s62).noEx).bind fun (r63 : (Int × (List Int))) => .ok (r63.1, r63.2)).bind fun (r65 : (Int × (List Int))) => .ok ((r65.1 % (100 : Int)), r65.2)).bind fun (r67 : (Int × (List Int))) => .ok (r67.1, r67.2) : Ro (Int × (List Int))))).noEx).bind fun (r69 : (List Int × (List Int))) => .ok (r69.1, r69.2)).bind fun (r71 : ((List Int) × (List Int))) => .ok (r71.1, r71.2)).bind fun (r73 : ((List Int) × (List Int))) => (((((p_law_next r73.2).noEx).bind fun (r74 : (Int × (List Int))) => .ok (r74.1, r74.2)).bind fun (r76 : (Int × (List Int))) => .ok ((r76.1 % (6 : Int)), r76.2)).bind fun (r78 : (Int × (List Int))) => .ok (((2 : Int) + r78.1), r78.2)).bind fun (r80 : (Int × (List Int))) => .ok (r73, r80)).bind fun (z81 : (((List Int) × (List Int)) × (Int × (List Int)))) => .ok ((z81.1.1, z81.2.1), z81.2.2) : Ro (((List Int) × Int) × (List Int))).Ok fun z => ((z.1.1.length : Int) = size ∧ ∀ w ∈ z.1.1, 0 ≤ w ∧ w < 100) ∧ (2 ≤ z.1.2 ∧ z.1.2 ≤ 7) ∧ Dr z.2 := by
  have W : ∀ (P : List Int × List Int → Prop), (∀ z, P z → P (z.1, z.2)) := fun P z h => h
  refine ok_bind (P := fun (z : (List Int × List Int) × (Int × List Int)) => ((z.1.1.length : Int) = size ∧ ∀ w ∈ z.1.1, 0 ≤ w ∧ w < 100) ∧ (2 ≤ z.2.1 ∧ z.2.1 ≤ 7) ∧ Dr z.2.2) (ok_bind (P := fun (z : List Int × List Int) => ((z.1.length : Int) = size ∧ ∀ w ∈ z.1, 0 ≤ w ∧ w < 100) ∧ Dr z.2) (ok_bind (P := fun (z : List Int × List Int) => ((z.1.length : Int) = size ∧ ∀ w ∈ z.1, 0 ≤ w ∧ w < 100) ∧ Dr z.2) (ok_bind (ok_rng1 (by omega) rfl) fun r2 h2 => ok_bind (P := fun (z : List Int × List Int) => ((z.1.length : Int) = size ∧ ∀ w ∈ z.1, 0 ≤ w ∧ w < 100) ∧ Dr z.2) ?_ fun z hz => ok_ok hz) fun z hz => ok_ok hz) fun z hz => ok_bind (dm_ok hz.2 (by decide)) fun y hy => ok_ok ⟨hz.1, ?_, hy.2⟩) fun z hz => ok_ok hz
  · subst h2
    rw [szR_ok (by rw [rngL_length]; omega), bind_ok]
    refine ok_noEx (ok_mapS (fun i acc s => (acc.length = i ∧ ∀ w ∈ acc, 0 ≤ w ∧ w < 100) ∧ Dr s) ⟨⟨rfl, fun w m => nomatch m⟩, h⟩ (fun x _ i acc s hi hs => ?_) fun ys s hs => ⟨⟨by show (ys.length : Int) = size; rw [hs.1.1, rngL_length]; omega, hs.1.2⟩, hs.2⟩)
    refine ok_mono (m0_ok hs.2 (by decide)) fun z hz => ⟨⟨by rw [List.length_append, hs.1.1]; rfl, fun w m => ?_⟩, hz.2⟩
    rcases List.mem_append.mp m with m | m
    · exact hs.1.2 w m
    · rw [List.mem_singleton.mp m]; exact hz.1
  · have := hy.1
    show 2 ≤ y.1 ∧ y.1 ≤ 7
    omega
theorem turn_ok {ws : List Int} {p : Nat} (hw : ws.length ≤ 1000) : catR (cutL ws (some (p : Int)) none) (cutL ws none (some (p : Int))) = .ok (rot ws p) := by
  rw [cutL_from, cutL_to, catR_ok (by rw [List.length_drop, List.length_take]; omega)]; rfl
theorem law_ok (ns : List Int) (hns : ns.length ≤ 63) : (p_law ns).Ok fun b => b = true := by
  unfold p_law
  refine ok_bind (draws_ok ns hns) fun draws hd => ok_bind (more_ok hd.1 hd.2 (many := 300) (by omega)) fun r2 h2 => ?_
  refine ok_bind (dm_ok h2.1 (by decide)) fun r9 h9 => ?_
  obtain ⟨n', d9⟩ := r9
  obtain ⟨n, rfl⟩ : ∃ n : Nat, n' = (n : Int) := ⟨n'.toNat, by have := h9.1.1; dsimp only at this; omega⟩
  have hn : 3 ≤ n ∧ n ≤ 8 := by have := h9.1; dsimp only at this; omega
  have h9 : Dr d9 := h9.2
  dsimp only
  refine ok_bind (P := fun (z : Int × List Int) => (1 ≤ z.1 ∧ z.1 ≤ (n : Int)) ∧ Dr z.2) (ok_bind (dv_ok h9 (by omega)) fun z hz => ok_ok ⟨by have := hz.1; show 1 ≤ 1 + z.1 ∧ 1 + z.1 ≤ (n : Int); omega, hz.2⟩) fun r16 h16 => ?_
  obtain ⟨k', d16⟩ := r16
  obtain ⟨k, rfl⟩ : ∃ k : Nat, k' = (k : Int) := ⟨k'.toNat, by have := h16.1.1; dsimp only at this; omega⟩
  have hk : 1 ≤ k ∧ k ≤ n := by have := h16.1; dsimp only at this; omega
  have h16 : Dr d16 := h16.2
  dsimp only
  refine ok_bind (weights_ok h16 (by omega)) fun r17 h17 => ?_
  obtain ⟨ws, d17⟩ := r17
  obtain ⟨⟨hl, hw⟩, h17⟩ := h17
  dsimp only at hl hw h17 ⊢
  have row : Row ws := ⟨by omega, fun w m => by have := hw w m; omega⟩
  subst hl
  obtain ⟨q1, q2, q3, q4⟩ := asked_due row hn hk
  have hsum : ws.sum ≤ 2000000000 := row.sum.2
  refine ok_eq (parts_ok hn hk) ?_
  have pne := prt_ne (ws := ws) hk.1
  have plen := prt_len (ws := ws) hn.2 (k := k) (by omega)
  have pnn : (prt ws k).map mxL ≠ [] ∧ (prt ws k).map mnL ≠ [] := by
    have : prt ws k ≠ [] := by
      unfold prt
      split
      · exact PT_ne row.nn hk
      · exact List.cons_ne_nil _ _
    exact ⟨fun e => this (List.map_eq_nil_iff.mp e), fun e => this (List.map_eq_nil_iff.mp e)⟩
  generalize prt ws k = parts at *
  rw [szR_ok plen, bind_ok, mapR_ok (g := mxL) _ fun s m => maxR_ok (pne s m), mapR_ok (g := mnL) _ fun s m => minR_ok (pne s m)]
  simp only [bind_ok, noEx_ok]
  rw [minR_ok pnn.1, maxR_ok pnn.2]
  generalize mnL (parts.map mxL) = v at *
  generalize mxL (parts.map mnL) = u at *
  simp only [bind_ok]
  have r01 : rngL 0 2 = [0, 1] := rfl
  have a0 : p_law_asked 0 ws k = .ok (eI v) := by
    show tryR kinds ((p_ring_least_high ws k).bind fun r => .ok (eI r)) = _
    rw [q1]; rfl
  have a1 : p_law_asked 1 ws k = .ok (eI u) := by
    show tryR kinds ((p_ring_greatest_low ws k).bind fun r => .ok (eI r)) = _
    rw [q2]; rfl
  rw [r01]
  rw [szR_ok (show [(0 : Int), 1].length ≤ 16777216 by decide)]
  have am : mapR [(0 : Int), 1] (fun (way : Int) => (p_law_asked way ws k : Ro D)) = .ok [eI v, eI u] := by
    simp only [mapR, a0, a1, bind_ok]
  rw [am]
  simp only [bind_ok, noEx_ok]
  have rp : reprR ((eL eI) [v, u]) = .ok (PyData.shown ((eL eI) [v, u])) := repr_ints (fun x m => by
    simp only [List.mem_cons, List.not_mem_nil, or_false] at m
    rcases m with rfl | rfl <;> omega) (by show 2 ≤ 10000; omega)
  have rp' : reprR ((eL eD) [eI v, eI u]) = .ok (PyData.shown ((eL eI) [v, u])) := rp
  rw [rp, rp']
  simp only [bind_ok, decide_true, Bool.not_true, Bool.false_eq_true, if_false]
  -- the wide ring
  refine ok_bind (dm_ok h17 (by decide)) fun r55 h55 => ?_
  obtain ⟨size', d55⟩ := r55
  obtain ⟨size, rfl⟩ : ∃ n : Nat, size' = (n : Int) := ⟨size'.toNat, by have := h55.1.1; dsimp only at this; omega⟩
  have hz : 9 ≤ size ∧ size ≤ 48 := by have := h55.1; dsimp only at this; omega
  have h55 : Dr d55 := h55.2
  dsimp only
  refine ok_bind (wide_ok h55 (by omega)) fun r82 h82 => ?_
  obtain ⟨⟨us, many'⟩, d82⟩ := r82
  obtain ⟨⟨ul, uw⟩, um, h82⟩ := h82
  dsimp only at ul uw um h82 ⊢
  obtain ⟨many, rfl⟩ : ∃ n : Nat, many' = (n : Int) := ⟨many'.toNat, by omega⟩
  have hm : 2 ≤ many ∧ many ≤ 7 := by omega
  have ul : size = us.length := by omega
  subst ul
  have urow : Row us := ⟨by omega, fun w m => by have := uw w m; omega⟩
  refine ok_bind (dv_ok h82 (by omega)) fun r87 h87 => ?_
  obtain ⟨b', d87⟩ := r87
  obtain ⟨b, rfl⟩ : ∃ n : Nat, b' = (n : Int) := ⟨b'.toNat, by have := h87.1.1; dsimp only at this; omega⟩
  have hb : b < us.length := by have := h87.1; dsimp only at this; omega
  dsimp only
  refine ok_eq (turn_ok (by omega)) ?_
  obtain ⟨t, et, lt⟩ := ring_least_ok urow (by omega) (k := many) (by omega)
  obtain ⟨g, eg, gt⟩ := ring_greatest_ok urow (by omega) (k := many) (by omega)
  rw [et, eg]
  simp only [bind_ok]
  -- rows
  refine ok_bind (P := fun rows => rows = (rngL 0 us.length).map fun p => rot us p.toNat) (ok_bind (ok_rng1 (by omega) rfl) fun r93 h93 => ?_) fun rows hrows => ?_
  · subst h93
    rw [Int.toNat_natCast, szR_ok (by rw [rngL_length]; omega), bind_ok]
    refine ok_noEx (ok_of (mapR_ok _ fun p m => ?_) rfl)
    have := mem_rngL.mp m
    obtain ⟨q, rfl⟩ : ∃ n : Nat, p = (n : Int) := ⟨p.toNat, by omega⟩
    rw [Int.toNat_natCast]
    exact turn_ok (by omega)
  have mrow : ∀ r ∈ rows, ∃ i, i < us.length ∧ r = rot us i := fun r m => by
    rw [hrows] at m
    obtain ⟨p, mp, rfl⟩ := List.mem_map.mp m
    have := mem_rngL.mp mp
    exact ⟨p.toNat, by omega, rfl⟩
  have rowm : ∀ i, i < us.length → rot us i ∈ rows := fun i hi => by
    rw [hrows]
    exact List.mem_map.mpr ⟨(i : Int), mem_rngL.mpr (by omega), rfl⟩
  have rlen : rows.length = us.length := by rw [hrows, List.length_map, rngL_length]
  clear hrows
  refine ok_bind (P := fun z => z = false) (ok_bind (P := fun z => z = [t, g]) (ok_bind (P := fun z => z = (t, g)) ?_ fun z hz => ok_ok (by rw [hz])) fun z hz => ok_ok (by rw [hz]; simp)) fun z hz => ?_
  · rw [szR_ok (by omega), bind_ok]
    refine ok_bind (P := fun z => z = t) (ok_bind (P := fun ys => ys ≠ [] ∧ t = mnL ys) (ok_noEx (ok_mono (ok_mapR (R := fun r y => LstP (fun x => FH x many r) (mxL r) r.sum y) rows fun r m => ?_) fun ys hys => ?_)) fun ys hys => ok_of (minR_ok hys.1) hys.2.symm) fun a ha => ?_
    · obtain ⟨i, hi, rfl⟩ := mrow r m
      exact least_high_ok (urow.rot i) (by rw [rot_len]; omega)
    · refine ⟨fun e => by rw [e] at hys; have := hys.1; simp at this; omega, rows_high urow.nn urow.ne (fun y m => ?_) (fun i hi => ?_) lt⟩
      · obtain ⟨r, mr, l⟩ := hys.2.1 y m
        obtain ⟨i, hi, rfl⟩ := mrow r mr
        exact ⟨i, hi, _, _, l⟩
      · obtain ⟨y, my, l⟩ := hys.2.2 _ (rowm i hi)
        exact ⟨y, my, _, l⟩
    · refine ok_bind (P := fun z => z = g) (ok_bind (P := fun ys => ys ≠ [] ∧ g = mxL ys) (ok_noEx (ok_mono (ok_mapR (R := fun r y => GstP (fun x => FL x many r) 0 r.sum y) rows fun r m => ?_) fun ys hys => ?_)) fun ys hys => ok_of (maxR_ok hys.1) hys.2.symm) fun c hc => ok_ok (by rw [ha, hc])
      · obtain ⟨i, hi, rfl⟩ := mrow r m
        exact greatest_low_ok (urow.rot i) (by rw [rot_len]; omega)
      · refine ⟨fun e => by rw [e] at hys; have := hys.1; simp at this; omega, rows_low urow.nn (by omega) (fun y m => ?_) (fun i hi => ?_) gt⟩
        · obtain ⟨r, mr, l⟩ := hys.2.1 y m
          obtain ⟨i, hi, rfl⟩ := mrow r mr
          exact ⟨i, hi, _, _, l⟩
        · obtain ⟨y, my, l⟩ := hys.2.2 _ (rowm i hi)
          exact ⟨y, my, _, l⟩
  subst hz
  simp only [Bool.false_eq_true, if_false]
  -- turned and reversed
  have o1 : p_ring_least_high (rot us b) many = .ok t ∧ p_ring_greatest_low (rot us b) many = .ok g := by
    have rr := urow.rot b
    obtain ⟨t', et', lt'⟩ := ring_least_ok rr (by rw [rot_len]; omega) (k := many) (by rw [rot_len]; omega)
    obtain ⟨g', eg', gt'⟩ := ring_greatest_ok rr (by rw [rot_len]; omega) (k := many) (by rw [rot_len]; omega)
    rw [et', eg', lst_eq rr.nn rr.ne urow.nn urow.ne lt' lt fun _ => RH_rot_iff (by omega), gst_eq rr.nn urow.nn (by omega) (by omega) gt' gt fun _ => RL_rot_iff (by omega)]
    exact ⟨rfl, rfl⟩
  have o2 : p_ring_least_high us.reverse many = .ok t ∧ p_ring_greatest_low us.reverse many = .ok g := by
    have rr : Row us.reverse := ⟨by rw [List.length_reverse]; exact urow.1, fun w m => urow.2 w (List.mem_reverse.mp m)⟩
    obtain ⟨t', et', lt'⟩ := ring_least_ok rr (by rw [List.length_reverse]; omega) (k := many) (by rw [List.length_reverse]; omega)
    obtain ⟨g', eg', gt'⟩ := ring_greatest_ok rr (by rw [List.length_reverse]; omega) (k := many) (by rw [List.length_reverse]; omega)
    rw [et', eg', lst_eq rr.nn rr.ne urow.nn urow.ne lt' lt fun _ => RH_rev_iff, gst_eq rr.nn urow.nn (by omega) (by omega) gt' gt fun _ => RL_rev_iff]
    exact ⟨rfl, rfl⟩
  simp only [forT, o1.1, o1.2, o2.1, o2.2, bind_ok, decide_true, Bool.not_true, Bool.false_eq_true, if_false, Sum.elim_inl]
  -- bounds
  obtain ⟨t2, et2, lt2⟩ := ring_least_ok urow (by omega) (k := many + 1) (by omega)
  obtain ⟨g2, eg2, gt2⟩ := ring_greatest_ok urow (by omega) (k := many + 1) (by omega)
  rw [show (many : Int) + 1 = ((many + 1 : Nat) : Int) by omega, et2, eg2]
  have x0 : ixR [t, g] (0 : Int) = .ok t := ixR_ok (n := 0) rfl
  have x1 : ixR [t, g] (1 : Int) = .ok g := ixR_ok (n := 1) rfl
  rw [x0, x1]
  simp only [bind_ok]
  have t0 : 0 ≤ t := by have := lt.1; have := (mx_bounds urow).1; omega
  have us2 : us.sum ≤ 2000000000 := urow.sum.2
  have mm1 : mulR (many : Int) t = .ok ((many : Int) * t) := mulR_ok (by have := lt.2.1; omega)
  have mm2 : mulR (many : Int) g = .ok ((many : Int) * g) := mulR_ok (by have := gt.2.1; have := gt.1; omega)
  rw [mm1, mm2]
  have b1 : t2 ≤ t := by
    have := lt.2.2.1.more (Nat.le_succ many)
    exact lt2.le this (this.ge urow.nn urow.ne)
  have b2 : g2 ≤ g := by
    have := gt2.2.2.1.less (Nat.le_succ many)
    exact gt.ge this (this.le urow.nn (by omega))
  have b3 : us.sum ≤ (many : Int) * t := by
    obtain ⟨i, hi, f⟩ := lt.2.2.1
    rw [← rot_sum us i]
    exact f.sum_le t0
  have b4 : (many : Int) * g ≤ us.sum := by
    obtain ⟨i, hi, f⟩ := gt.2.2.1
    rw [← rot_sum us i]
    exact f.sum_ge gt.1
  simp only [bind_ok, orR_ok, decide_eq_false (show ¬ t < t2 by omega), decide_eq_false (show ¬ g < g2 by omega), decide_eq_false (show ¬ (many : Int) * t < us.sum by omega), decide_eq_false (show ¬ us.sum < (many : Int) * g by omega), Bool.or_false, Bool.false_eq_true, if_false]
  rw [known_1, known_2, known_3, known_4, known_5]
  simp only [bind_ok]
  rw [repr_ints (xs := [5, 5, 5, 3, 0]) (fun x m => by
    simp only [List.mem_cons, List.not_mem_nil, or_false] at m
    rcases m with rfl | rfl | rfl | rfl | rfl <;> omega) (by decide)]
  simp only [bind_ok, decide_true, Bool.not_true, Bool.false_eq_true, if_false]
  -- errors
  have tr : trepR [(1 : Int)] 301 = .ok (List.replicate 301 [1]).flatten := trepR_ok (by decide)
  have l301 : (List.replicate 301 [(1 : Int)]).flatten.length = 301 := by decide
  rw [tr]
  simp only [bind_ok]
  generalize (List.replicate 301 [(1 : Int)]).flatten = ones at l301
  have k0 : kinds 0 = some "!map" := rfl
  have k4 : kinds 4 = some "!number" := rfl
  have e1 := bad_of (bad_len (ws := []) (.inl (by decide)) 0) k0
  have e2 := bad_of (bad_len (ws := [1, 1]) (.inl (by decide)) 0) k0
  have e3 := bad_of (bad_len (ws := ones) (.inr (by omega)) 0) k0
  have e4 := bad_of (bad_row row_1 0) k0
  have e5 := bad_of (bad_row row_2 0) k0
  have e6 := bad_of (bad_num row (by omega) (k := 0) (.inl (by decide))) k4
  have e7 := bad_of (bad_num row (by omega) (k := (ws.length : Int) + 1) (.inr (by omega))) k4
  rw [szR_ok (show [[], [1, 1], ones, [1, -1, 1], [1000001, 1, 1]].length ≤ 16777216 by simp), szR_ok (show [(0 : Int), (ws.length : Int) + 1].length ≤ 16777216 by simp)]
  simp only [bind_ok]
  simp only [mapR]
  rw [e1.1, e1.2, e2.1, e2.2, e3.1, e3.2, e4.1, e4.2, e5.1, e5.2, e6.1, e6.2, e7.1, e7.2]
  simp only [bind_ok, noEx_ok]
  exact ⟨true, by kernel_rfl, rfl⟩
theorem p_law_true : ∀ ns : List Int, ns.length ≤ 63 → p_law ns = .ok true := fun ns h => by
  obtain ⟨b, e, rfl⟩ := law_ok ns h
  exact e

end k32
set_option maxHeartbeats 0
namespace k32
open PySem PySem.Spec PyProof.Rows L2 DT
theorem law_true (ns : List Int) (h : ns.length ≤ 63) : ∃ s', f_law [.rol (ns.map PyData.int)] = some (.ok (.val (.bool true)) s') := by
  have e := s_law ns
  rw [p_law_true ns h] at e
  obtain ⟨s, e, _⟩ := e
  exact ⟨s, e⟩
theorem walk {l : PySem.W.OpenLaw} {q : Program} {loose : List Str} {XP : (Str → Option Value) → Heap → Prop} {YP : World → Heap → Prop} {d : DefRec} {K : Params → PySem.W.Frag} (hn : l.most = some 63) (hdf : d.params.defaults = [])
    (hY : ∀ (w : World) (h : Heap), YP w h → (K w.params).In h)
    (F : ∀ (w : World) (mg : Str → Option Value) (fa : Addr) (h : Heap), (K w.params).In h → h.Ns mainGlobals mg → mg d.name = some (.ref fa) →
      ∃ (fd : FuncData) (Γ : Gm), (∀ (s : Shared) (u : Value), BindsTo s fd ⟨[u], []⟩ [("script", u)]) ∧ ∀ base : Heap, (K w.params).In base → base.Ns mainGlobals mg → FnG l.prog w (K w.params) mg base 5 fa fd ["script"] (spD (K w.params) Γ 1 f_law)) :
    PySem.W.WalkO q loose XP YP l.row.toRowW d [] (fun f vs => PySem.call f vs) :=
  walk_dt (Γ := ⟨fun _ => 0⟩) hn (by decide) hdf ⟨rfl, by decide, by decide⟩ hY F law_true
end k32
open PySem PySem.W PyProof.Rows in
set_option maxRecDepth 100000 in
set_option maxHeartbeats 0 in
theorem PySem.Challenge.cw_partedmaps_k32_rings_and_their_cuts_holds : PySem.Challenge.rw_partedmaps_k32_rings_and_their_cuts.Holds := by
  w_on; o_law; k_head; (case hw => w_witness2)
  k_fill
  refine k32.walk (l := PySem.Challenge.rw_partedmaps_k32_rings_and_their_cuts) rfl rfl (fun w h Y => PySem.W.kIn_of Y) ?F
  case F =>
    intro w mg fa h KX G hmg
    refine' k32.all_mk KX G hmg ?a0 ?l0 ?e0 ?k0 ?a1 ?l1 ?e1 ?k1 ?a2 ?l2 ?e2 ?k2 ?a3 ?l3 ?e3 ?k3 ?a4 ?l4 ?e4 ?k4 ?a5 ?l5 ?e5 ?k5 ?a6 ?l6 ?e6 ?k6 ?a7 ?l7 ?e7 ?k7 ?a8 ?l8 ?e8 ?k8 ?a9 ?l9 ?e9 ?k9 ?a10 ?l10 ?e10 ?k10 ?a11 ?l11 ?e11 ?k11 ?a12 ?l12 ?e12 ?k12 ?a13 ?l13 ?e13 ?k13 ?a14 ?l14 ?e14 ?k14 ?a15 ?l15 ?e15 ?k15 ?a16 ?l16 ?e16 ?k16 ?a17 ?l17 ?e17 ?k17 ?a18 ?l18 ?e18 ?k18 ?a19 ?l19 ?e19 ?k19 ?a20 ?l20 ?e20 ?k20 ?a21 ?l21 ?e21 ?k21 ?a22 ?l22 ?e22 ?k22 ?a23 ?l23 ?e23 ?k23 ?z_all ?z_any ?z_enumerate ?z_int ?z_isinstance ?z_len ?z_max ?z_min ?z_range ?z_repr ?z_sum ?z_tuple ?g_FEWEST_RING ?g_MOST_RING ?g_MOST_ROW ?g_MOST_WEIGHT ?n0 ?q0 ?kp0 ?sb0 ?ty0 ?n1 ?q1 ?kp1 ?sb1 ?ty1 ?n2 ?q2 ?kp2 ?sb2 ?ty2 ?n3 ?q3 ?kp3 ?sb3 ?ty3 ?n4 ?q4 ?kp4 ?sb4 ?ty4 ?n5 ?q5 ?kp5 ?sb5 ?ty5 ?n6 ?q6 ?kp6 ?sb6 ?ty6 ?nM ?sbM ?hdM ?tyM ?hn ?ht ?hg0 ?hk0 ?hd0 ?ha0 ?hm0 ?ex0 ?kt0_1 ?kt0_2 ?kt0_3 ?kt0_4 ?kt0_5 ?kt0_6 ?hg1 ?hk1 ?hd1 ?ha1 ?hm1 ?ex1 ?kt1_0 ?kt1_2 ?kt1_3 ?kt1_4 ?kt1_5 ?kt1_6 ?hg2 ?hk2 ?hd2 ?ha2 ?hm2 ?ex2 ?kt2_0 ?kt2_1 ?kt2_3 ?kt2_4 ?kt2_5 ?kt2_6 ?hg3 ?hk3 ?hd3 ?ha3 ?hm3 ?ex3 ?kt3_0 ?kt3_1 ?kt3_2 ?kt3_4 ?kt3_5 ?kt3_6 ?hg4 ?hk4 ?hd4 ?ha4 ?hm4 ?ex4 ?kt4_0 ?kt4_1 ?kt4_2 ?kt4_3 ?kt4_5 ?kt4_6 ?hg5 ?hk5 ?hd5 ?ha5 ?hm5 ?ex5 ?kt5_0 ?kt5_1 ?kt5_2 ?kt5_3 ?kt5_4 ?kt5_6 ?hg6 ?hk6 ?hd6 ?ha6 ?hm6 ?ex6 ?kt6_0 ?kt6_1 ?kt6_2 ?kt6_3 ?kt6_4 ?kt6_5 ?nd1_0 ?nd2_0 ?nd2_1 ?nd3_0 ?nd3_1 ?nd3_2 ?nd4_0 ?nd4_1 ?nd4_2 ?nd4_3 ?nd5_0 ?nd5_1 ?nd5_2 ?nd5_3 ?nd5_4 ?nd6_0 ?nd6_1 ?nd6_2 ?nd6_3 ?nd6_4 ?nd6_5
    (case a0 => k_is)
    (case l0 => k_is)
    (case e0 => k_is)
    (case k0 => k_is)
    (case a1 => k_is)
    (case l1 => k_is)
    (case e1 => k_is)
    (case k1 => k_is)
    (case a2 => k_is)
    (case l2 => k_is)
    (case e2 => k_is)
    (case k2 => k_is)
    (case a3 => k_is)
    (case l3 => k_is)
    (case e3 => k_is)
    (case k3 => k_is)
    (case a4 => k_is)
    (case l4 => k_is)
    (case e4 => k_is)
    (case k4 => k_is)
    (case a5 => k_is)
    (case l5 => k_is)
    (case e5 => k_is)
    (case k5 => k_is)
    (case a6 => k_is)
    (case l6 => k_is)
    (case e6 => k_is)
    (case k6 => k_is)
    (case a7 => k_is)
    (case l7 => k_is)
    (case e7 => k_is)
    (case k7 => k_is)
    (case a8 => k_is)
    (case l8 => k_is)
    (case e8 => k_is)
    (case k8 => k_is)
    (case a9 => k_is)
    (case l9 => k_is)
    (case e9 => k_is)
    (case k9 => k_is)
    (case a10 => k_is)
    (case l10 => k_is)
    (case e10 => k_is)
    (case k10 => k_is)
    (case a11 => k_is)
    (case l11 => k_is)
    (case e11 => k_is)
    (case k11 => k_is)
    (case a12 => k_is)
    (case l12 => k_is)
    (case e12 => k_is)
    (case k12 => k_is)
    (case a13 => k_is)
    (case l13 => k_is)
    (case e13 => k_is)
    (case k13 => k_is)
    (case a14 => k_is)
    (case l14 => k_is)
    (case e14 => k_is)
    (case k14 => k_is)
    (case a15 => k_is)
    (case l15 => k_is)
    (case e15 => k_is)
    (case k15 => k_is)
    (case a16 => k_is)
    (case l16 => k_is)
    (case e16 => k_is)
    (case k16 => k_is)
    (case a17 => k_is)
    (case l17 => k_is)
    (case e17 => k_is)
    (case k17 => k_is)
    (case a18 => k_is)
    (case l18 => k_is)
    (case e18 => k_is)
    (case k18 => k_is)
    (case a19 => k_is)
    (case l19 => k_is)
    (case e19 => k_is)
    (case k19 => k_is)
    (case a20 => k_is)
    (case l20 => k_is)
    (case e20 => k_is)
    (case k20 => k_is)
    (case a21 => k_is)
    (case l21 => k_is)
    (case e21 => k_is)
    (case k21 => k_is)
    (case a22 => k_is)
    (case l22 => k_is)
    (case e22 => k_is)
    (case k22 => k_is)
    (case a23 => k_is)
    (case l23 => k_is)
    (case e23 => k_is)
    (case k23 => k_is)
    (case z_all => k_is)
    (case z_any => k_is)
    (case z_enumerate => k_is)
    (case z_int => k_is)
    (case z_isinstance => k_is)
    (case z_len => k_is)
    (case z_max => k_is)
    (case z_min => k_is)
    (case z_range => k_is)
    (case z_repr => k_is)
    (case z_sum => k_is)
    (case z_tuple => k_is)
    (case g_FEWEST_RING => k_is)
    (case g_MOST_RING => k_is)
    (case g_MOST_ROW => k_is)
    (case g_MOST_WEIGHT => k_is)
    (case n0 => k_is)
    (case q0 => k_exc)
    (case kp0 => k_is)
    (case sb0 => k_is)
    (case ty0 => k_is)
    (case n1 => k_is)
    (case q1 => k_exc)
    (case kp1 => k_is)
    (case sb1 => k_is)
    (case ty1 => k_is)
    (case n2 => k_is)
    (case q2 => k_exc)
    (case kp2 => k_is)
    (case sb2 => k_is)
    (case ty2 => k_is)
    (case n3 => k_is)
    (case q3 => k_exc)
    (case kp3 => k_is)
    (case sb3 => k_is)
    (case ty3 => k_is)
    (case n4 => k_is)
    (case q4 => k_exc)
    (case kp4 => k_is)
    (case sb4 => k_is)
    (case ty4 => k_is)
    (case n5 => k_is)
    (case q5 => k_exc)
    (case kp5 => k_is)
    (case sb5 => k_is)
    (case ty5 => k_is)
    (case n6 => k_is)
    (case q6 => k_exc)
    (case kp6 => k_is)
    (case sb6 => k_is)
    (case ty6 => k_is)
    (case nM => k_is)
    (case sbM => k_is)
    (case hdM => k_is)
    (case tyM => k_is)
    (case hn => k_is)
    (case ht => k_is)
    (case hg0 => k_is)
    (case hk0 => k_is)
    (case hd0 => k_is)
    (case ha0 => k_is)
    (case hm0 => k_is)
    (case ex0 => k_is)
    (case kt0_1 => k_is)
    (case kt0_2 => k_is)
    (case kt0_3 => k_is)
    (case kt0_4 => k_is)
    (case kt0_5 => k_is)
    (case kt0_6 => k_is)
    (case hg1 => k_is)
    (case hk1 => k_is)
    (case hd1 => k_is)
    (case ha1 => k_is)
    (case hm1 => k_is)
    (case ex1 => k_is)
    (case kt1_0 => k_is)
    (case kt1_2 => k_is)
    (case kt1_3 => k_is)
    (case kt1_4 => k_is)
    (case kt1_5 => k_is)
    (case kt1_6 => k_is)
    (case hg2 => k_is)
    (case hk2 => k_is)
    (case hd2 => k_is)
    (case ha2 => k_is)
    (case hm2 => k_is)
    (case ex2 => k_is)
    (case kt2_0 => k_is)
    (case kt2_1 => k_is)
    (case kt2_3 => k_is)
    (case kt2_4 => k_is)
    (case kt2_5 => k_is)
    (case kt2_6 => k_is)
    (case hg3 => k_is)
    (case hk3 => k_is)
    (case hd3 => k_is)
    (case ha3 => k_is)
    (case hm3 => k_is)
    (case ex3 => k_is)
    (case kt3_0 => k_is)
    (case kt3_1 => k_is)
    (case kt3_2 => k_is)
    (case kt3_4 => k_is)
    (case kt3_5 => k_is)
    (case kt3_6 => k_is)
    (case hg4 => k_is)
    (case hk4 => k_is)
    (case hd4 => k_is)
    (case ha4 => k_is)
    (case hm4 => k_is)
    (case ex4 => k_is)
    (case kt4_0 => k_is)
    (case kt4_1 => k_is)
    (case kt4_2 => k_is)
    (case kt4_3 => k_is)
    (case kt4_5 => k_is)
    (case kt4_6 => k_is)
    (case hg5 => k_is)
    (case hk5 => k_is)
    (case hd5 => k_is)
    (case ha5 => k_is)
    (case hm5 => k_is)
    (case ex5 => k_is)
    (case kt5_0 => k_is)
    (case kt5_1 => k_is)
    (case kt5_2 => k_is)
    (case kt5_3 => k_is)
    (case kt5_4 => k_is)
    (case kt5_6 => k_is)
    (case hg6 => k_is)
    (case hk6 => k_is)
    (case hd6 => k_is)
    (case ha6 => k_is)
    (case hm6 => k_is)
    (case ex6 => k_is)
    (case kt6_0 => k_is)
    (case kt6_1 => k_is)
    (case kt6_2 => k_is)
    (case kt6_3 => k_is)
    (case kt6_4 => k_is)
    (case kt6_5 => k_is)
    (case nd1_0 => decide)
    (case nd2_0 => decide)
    (case nd2_1 => decide)
    (case nd3_0 => decide)
    (case nd3_1 => decide)
    (case nd3_2 => decide)
    (case nd4_0 => decide)
    (case nd4_1 => decide)
    (case nd4_2 => decide)
    (case nd4_3 => decide)
    (case nd5_0 => decide)
    (case nd5_1 => decide)
    (case nd5_2 => decide)
    (case nd5_3 => decide)
    (case nd5_4 => decide)
    (case nd6_0 => decide)
    (case nd6_1 => decide)
    (case nd6_2 => decide)
    (case nd6_3 => decide)
    (case nd6_4 => decide)
    (case nd6_5 => decide)
