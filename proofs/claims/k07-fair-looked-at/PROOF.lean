import PyProof.Rows.All
import Wide.All
import OpenK.AllK
import Wide.FinOn
import HandS.ForMost
import HandS.ForExc
import HandS.IsInst
import HandS.FStr
import HandS.Strs
import HandS.SortRule
import HandS.SortInts
import HandS.Style
import HandS.Walk
import HandS.Defaults
import HandS.ExcValue
import HandS.ExcField
import HandS.ExcInit
import HandS.Replace
import HandS.ExcIs
import HandS.Ends
import HandS.HeadHook1
import HandS.HeadHook2
import HandS.SetFor
import HandS.Set
import KE.KEqNest
import HandS.Text
import HandS.ReplaceLit
import HandS.Iter
import HandS.Dict
import PySem.Challenge.RW_bankshare_k07_fair_looked_at
set_option Elab.async false
set_option linter.all false
set_option maxRecDepth 100000
/-! Part A: data of plain Lean, and how it lies in the heap. -/
namespace BK
open PySem PySem.Spec PyProof.Rows L2

/-! ## heaps -/
def Ex (H H' : Hp) : Prop := ∀ a o, H a = some o → H' a = some o
theorem Ex.refl (H : Hp) : Ex H H := fun _ _ h => h
theorem Ex.trans {H H1 H2 : Hp} (a : Ex H H1) (b : Ex H1 H2) : Ex H H2 := fun x o h => b x o (a x o h)
theorem Ex.new {H : Hp} {p : Addr} {o : HO} (h : H p = none) : Ex H (upd H p o) := fun a u e => by
  rw [upd_ne (ne_of_none e h)]; exact e
theorem Ex.mut {H H' : Hp} {p : Addr} {o : HO} (e : Ex H H') (h : H p = none) : Ex H (upd H' p o) := fun a u ha => by
  rw [upd_ne (ne_of_none ha h)]; exact e a u ha
theorem Ex.back {H H' : Hp} {p : Addr} (e : Ex H H') (h : H' p = none) : H p = none := by
  cases h1 : H p with
  | none => rfl
  | some o => rw [e p o h1] at h; cases h
theorem Ex.rd {H H' : Hp} {a : Addr} {u : HO} (e : Ex H H') (h : Rd H a u) : Rd H' a u := by
  rcases h with h | ⟨o, h⟩
  · exact .inl (e a _ h)
  · exact .inr ⟨o, e a _ h⟩
theorem Ex.sqL {K : PySem.W.Frag} {H H' : Hp} {a : Addr} {xs : List V} (e : Ex H H') (h : SqL K H a xs) : SqL K H' a xs := by
  rcases h with h | h
  · exact .inl (e.rd h)
  · exact .inr h

/-! ## data -/
abbrev Fld := Option (Str × V)
inductive D where
  | non | bl (b : Bool) | int (i : Int) | str (x : Str)
  | tup (ds : List D) | lst (ds : List D) | ktup (xs : List V)
  | scr (ns : List Int) | dic (kvs : List (Key × V)) | exc (C : Addr) (f : Fld)

/-- a caught exception that is held as a value -/
def ExT (cls : Value) (d : Option Addr) (a : Addr) : HO := .ext fun h => ∃ (oe : Obj) (vs : Array Value), h.get? a = some oe ∧ Zc cls d oe ∧ oe.data = .fields vs

/-- the script: locked, or an object of the written part -/
def Scr (K : PySem.W.Frag) (H : Hp) (a : Addr) (ns : List Int) : Prop :=
  (∃ o, H a = some (.frz o (.lst (ns.map V.int)))) ∨ SqL K (fun _ => none) a (ns.map V.int)
theorem none_sqL {K : PySem.W.Frag} {H : Hp} {a : Addr} {xs : List V} (h : SqL K (fun _ => none) a xs) : SqL K H a xs := by
  rcases h with (h | ⟨_, h⟩) | h
  · exact nomatch h
  · exact nomatch h
  · exact .inr h
theorem Scr.sqL {K : PySem.W.Frag} {H : Hp} {a : Addr} {ns : List Int} (h : Scr K H a ns) : SqL K H a (ns.map V.int) := by
  rcases h with ⟨o, h⟩ | h
  · exact .inl (.inr ⟨o, h⟩)
  · exact none_sqL h
theorem Scr.ex {K : PySem.W.Frag} {H H' : Hp} {a : Addr} {ns : List Int} (e : Ex H H') (h : Scr K H a ns) : Scr K H' a ns := by
  rcases h with ⟨o, h⟩ | h
  · exact .inl ⟨o, e _ _ h⟩
  · exact .inr h

/-! data at a value: O says which addresses are somebody's own (they may change) -/
mutual
inductive Rep (K : PySem.W.Frag) (H : Hp) (O : Addr → Prop) : V → D → Prop
  | non : Rep K H O .non .non
  | bl (b : Bool) : Rep K H O (.bl b) (.bl b)
  | int (i : Int) : Rep K H O (.int i) (.int i)
  | str (x : Str) : Rep K H O (.str x) (.str x)
  | tup {a : Addr} {vs : List V} {ds : List D} : H a = some (.tup vs) → Reps K H O vs ds → Rep K H O (.ref a) (.tup ds)
  | lst {a : Addr} {vs : List V} {ds : List D} : ¬ O a → H a = some (.lst vs) → Reps K H O vs ds → Rep K H O (.ref a) (.lst ds)
  | ktup {a : Addr} {xs : List V} : SqT K (fun _ => none) a xs → xs.all flatV = true → Rep K H O (.ref a) (.ktup xs)
  | scr {a : Addr} {ns : List Int} : Scr K H a ns → Rep K H O (.ref a) (.scr ns)
  | dic {a : Addr} {kvs : List (Key × V)} : ¬ O a → H a = some (.dK kvs) → Rep K H O (.ref a) (.dic kvs)
  | exc0 {a C : Addr} : H a = some (ExT (.ref C) none a) → Rep K H O (.ref a) (.exc C none)
  | exc1 {a C d : Addr} {n : Str} {v : V} : H a = some (ExT (.ref C) (some d) a) → H d = some (.xd [(n, v)]) → flatV v = true → Rep K H O (.ref a) (.exc C (some (n, v)))
inductive Reps (K : PySem.W.Frag) (H : Hp) (O : Addr → Prop) : List V → List D → Prop
  | nil : Reps K H O [] []
  | cons {v : V} {vs : List V} {d : D} {ds : List D} : Rep K H O v d → Reps K H O vs ds → Reps K H O (v :: vs) (d :: ds)
end

section
variable {K : PySem.W.Frag} {H H' : Hp} {O O' : Addr → Prop}
mutual
/-- the heap grows; what is new in O' was not there -/
theorem Rep.step (e : Ex H H') (ho : ∀ a, O' a → O a ∨ H a = none) : ∀ {v : V} {d : D}, Rep K H O v d → Rep K H' O' v d
  | _, _, .non => .non
  | _, _, .bl b => .bl b
  | _, _, .int i => .int i
  | _, _, .str x => .str x
  | _, _, .tup h r => .tup (e _ _ h) (Reps.step e ho r)
  | _, _, .lst n h r => .lst (fun z => (ho _ z).elim n fun q => by rw [h] at q; cases q) (e _ _ h) (Reps.step e ho r)
  | _, _, .ktup h f => .ktup h f
  | _, _, .scr h => .scr (h.ex e)
  | _, _, .dic n h => .dic (fun z => (ho _ z).elim n fun q => by rw [h] at q; cases q) (e _ _ h)
  | _, _, .exc0 h => .exc0 (e _ _ h)
  | _, _, .exc1 h g f => .exc1 (e _ _ h) (e _ _ g) f
theorem Reps.step (e : Ex H H') (ho : ∀ a, O' a → O a ∨ H a = none) : ∀ {vs : List V} {ds : List D}, Reps K H O vs ds → Reps K H' O' vs ds
  | _, _, .nil => .nil
  | _, _, .cons h r => .cons (Rep.step e ho h) (Reps.step e ho r)
end
theorem Rep.mono (e : Ex H H') {v : V} {d : D} (r : Rep K H O v d) : Rep K H' O v d := r.step e fun _ h => .inl h
theorem Reps.mono (e : Ex H H') {v : List V} {d : List D} (r : Reps K H O v d) : Reps K H' O v d := r.step e fun _ h => .inl h
theorem Rep.less (h : ∀ a, O' a → O a) {v : V} {d : D} (r : Rep K H O v d) : Rep K H O' v d := r.step (Ex.refl H) fun a q => .inl (h a q)
theorem Reps.less (h : ∀ a, O' a → O a) {v : List V} {d : List D} (r : Reps K H O v d) : Reps K H O' v d := r.step (Ex.refl H) fun a q => .inl (h a q)

/-- what may be changed in place -/
def Mb : Option HO → Prop
  | some (.lst _) => True
  | some (.dK _) => True
  | _ => False
mutual
/-- an object of ours changes -/
theorem Rep.write {l : Addr} {o : HO} (hl : O l) (hm : Mb (H l)) : ∀ {v : V} {d : D}, Rep K H O v d → Rep K (upd H l o) O v d
  | _, _, .non => .non
  | _, _, .bl b => .bl b
  | _, _, .int i => .int i
  | _, _, .str x => .str x
  | _, _, .tup h r => .tup (by rw [upd_ne (fun z => by subst z; rw [h] at hm; exact hm)]; exact h) (Reps.write hl hm r)
  | _, _, .lst n h r => .lst n (by rw [upd_ne (fun z => by subst z; exact n hl)]; exact h) (Reps.write hl hm r)
  | _, _, .ktup h f => .ktup h f
  | _, _, .scr h => .scr (by
      rcases h with ⟨ob, h⟩ | h
      · exact .inl ⟨ob, by rw [upd_ne (fun z => by subst z; rw [h] at hm; exact hm)]; exact h⟩
      · exact .inr h)
  | _, _, .dic n h => .dic n (by rw [upd_ne (fun z => by subst z; exact n hl)]; exact h)
  | _, _, .exc0 h => .exc0 (by rw [upd_ne (fun z => by subst z; rw [h] at hm; exact hm)]; exact h)
  | _, _, .exc1 h g f => .exc1 (by rw [upd_ne (fun z => by subst z; rw [h] at hm; exact hm)]; exact h) (by rw [upd_ne (fun z => by subst z; rw [g] at hm; exact hm)]; exact g) f
theorem Reps.write {l : Addr} {o : HO} (hl : O l) (hm : Mb (H l)) : ∀ {vs : List V} {ds : List D}, Reps K H O vs ds → Reps K (upd H l o) O vs ds
  | _, _, .nil => .nil
  | _, _, .cons h r => .cons (Rep.write hl hm h) (Reps.write hl hm r)
end

theorem Reps.length : ∀ {vs : List V} {ds : List D}, Reps K H O vs ds → vs.length = ds.length
  | _, _, .nil => rfl
  | _, _, .cons _ r => by rw [List.length_cons, List.length_cons, r.length]
theorem Reps.get : ∀ {vs : List V} {ds : List D} {i : Nat} {v : V}, Reps K H O vs ds → vs[i]? = some v → ∃ d, ds[i]? = some d ∧ Rep K H O v d
  | _, _, _, _, .nil, e => by simp at e
  | _, _, 0, _, .cons h _, e => by simp at e; subst e; exact ⟨_, rfl, h⟩
  | _, _, i + 1, _, .cons _ r, e => by
    obtain ⟨d, h1, h2⟩ := r.get (i := i) (by simpa using e)
    exact ⟨d, by simpa using h1, h2⟩
theorem Reps.getD : ∀ {vs : List V} {ds : List D} {i : Nat} {d : D}, Reps K H O vs ds → ds[i]? = some d → ∃ v, vs[i]? = some v ∧ Rep K H O v d
  | _, _, _, _, .nil, e => by simp at e
  | _, _, 0, _, .cons h _, e => by simp at e; subst e; exact ⟨_, rfl, h⟩
  | _, _, i + 1, _, .cons _ r, e => by
    obtain ⟨d, h1, h2⟩ := r.getD (i := i) (by simpa using e)
    exact ⟨d, by simpa using h1, h2⟩
theorem Reps.app : ∀ {vs ws : List V} {ds es : List D}, Reps K H O vs ds → Reps K H O ws es → Reps K H O (vs ++ ws) (ds ++ es)
  | _, _, _, _, .nil, s => s
  | _, _, _, _, .cons h r, s => .cons h (r.app s)
theorem Reps.one {v : V} {d : D} (h : Rep K H O v d) : Reps K H O [v] [d] := .cons h .nil
theorem Reps.take : ∀ {vs : List V} {ds : List D} (n : Nat), Reps K H O vs ds → Reps K H O (vs.take n) (ds.take n)
  | _, _, 0, _ => .nil
  | _, _, _ + 1, .nil => .nil
  | _, _, n + 1, .cons h r => .cons h (r.take n)
theorem Reps.drop : ∀ {vs : List V} {ds : List D} (n : Nat), Reps K H O vs ds → Reps K H O (vs.drop n) (ds.drop n)
  | _, _, 0, r => r
  | _, _, _ + 1, .nil => .nil
  | _, _, n + 1, .cons _ r => r.drop n
theorem Reps.set {v : V} {d : D} (h : Rep K H O v d) : ∀ {vs : List V} {ds : List D} (i : Nat), Reps K H O vs ds → Reps K H O (vs.set i v) (ds.set i d)
  | _, _, _, .nil => .nil
  | _, _, 0, .cons _ r => .cons h r
  | _, _, i + 1, .cons q r => .cons q (r.set h i)
theorem Reps.erase : ∀ {vs : List V} {ds : List D} (i : Nat), Reps K H O vs ds → Reps K H O (vs.eraseIdx i) (ds.eraseIdx i)
  | _, _, _, .nil => .nil
  | _, _, 0, .cons _ r => r
  | _, _, i + 1, .cons q r => .cons q (r.erase i)
theorem Reps.rev {vs : List V} {ds : List D} (h : Reps K H O vs ds) : Reps K H O vs.reverse ds.reverse := by
  induction vs generalizing ds with
  | nil => cases h; exact .nil
  | cons v vs ih => cases h with
    | cons h r => rw [List.reverse_cons, List.reverse_cons]; exact (ih r).app (.one h)
theorem Reps.ints : ∀ (ns : List Int), Reps K H O (ns.map V.int) (ns.map D.int)
  | [] => .nil
  | n :: r => .cons (.int n) (Reps.ints r)
theorem Reps.to_ints : ∀ {vs : List V} {ns : List Int}, Reps K H O vs (ns.map D.int) → vs = ns.map V.int
  | _, [], .nil => rfl
  | _, n :: ns, .cons h r => by
    cases h
    rw [r.to_ints]; rfl
theorem Reps.to_strs : ∀ {vs : List V} {ns : List Str}, Reps K H O vs (ns.map D.str) → vs = ns.map V.str
  | _, [], .nil => rfl
  | _, n :: ns, .cons h r => by
    cases h
    rw [r.to_strs]; rfl
theorem Reps.strs : ∀ (ns : List Str), Reps K H O (ns.map V.str) (ns.map D.str)
  | [] => .nil
  | n :: r => .cons (.str n) (Reps.strs r)

/-- data in which nothing can be changed: numbers, texts, tuples of such -/
inductive Flat : D → Prop
  | non : Flat .non
  | bl (b : Bool) : Flat (.bl b)
  | int (i : Int) : Flat (.int i)
  | str (x : Str) : Flat (.str x)
  | tup {ds : List D} : (∀ d ∈ ds, Flat d) → Flat (.tup ds)
  | ktup {xs : List V} : Flat (.ktup xs)
  | scr {ns : List Int} : Flat (.scr ns)
  | exc {C : Addr} {f : Fld} : Flat (.exc C f)
mutual
theorem Rep.flat : ∀ {v : V} {d : D}, Rep K H O v d → Flat d → Rep K H O' v d
  | _, _, .non, _ => .non
  | _, _, .bl b, _ => .bl b
  | _, _, .int i, _ => .int i
  | _, _, .str x, _ => .str x
  | _, _, .tup h r, f => .tup h (Reps.flat r (by cases f; assumption))
  | _, _, .lst n h r, f => by cases f
  | _, _, .ktup h f, _ => .ktup h f
  | _, _, .scr h, _ => .scr h
  | _, _, .dic n h, f => by cases f
  | _, _, .exc0 h, _ => .exc0 h
  | _, _, .exc1 h g f, _ => .exc1 h g f
theorem Reps.flat : ∀ {vs : List V} {ds : List D}, Reps K H O vs ds → (∀ d ∈ ds, Flat d) → Reps K H O' vs ds
  | _, _, .nil, _ => .nil
  | _, _, .cons h r, f => .cons (Rep.flat h (f _ List.mem_cons_self)) (Reps.flat r fun d q => f d (List.mem_cons_of_mem _ q))
end
end

/-! ## results -/
inductive R where
  | val (d : D) | rd (d : D) | own (ds : List D) | own2 (dss : List (List D)) | ownD (kvs : List (Key × V))
def R.toD : R → D
  | .val d => d
  | .rd d => d
  | .own ds => .lst ds
  | .own2 dss => .lst (dss.map .lst)
  | .ownD kvs => .dic kvs
/-- the lists at qs -/
inductive Own2 (K : PySem.W.Frag) (H : Hp) (O : Addr → Prop) : List Addr → List (List D) → Prop
  | nil : Own2 K H O [] []
  | cons {q : Addr} {qs : List Addr} {vs : List V} {ds : List D} {dss : List (List D)} : H q = some (.lst vs) → Reps K H O vs ds → Own2 K H O qs dss → Own2 K H O (q :: qs) (ds :: dss)
def Res (K : PySem.W.Frag) (O : Addr → Prop) (H H' : Hp) (v : V) : R → Prop
  | .val d => Rep K H' O v d
  | .rd d => Rep K H' (fun _ => False) v d
  | .own ds => ∃ p vs, v = .ref p ∧ H p = none ∧ H' p = some (.lst vs) ∧ Reps K H' (fun a => O a ∨ a = p) vs ds
  | .own2 dss => ∃ p qs, v = .ref p ∧ (∀ a ∈ p :: qs, H a = none) ∧ (p :: qs).Nodup ∧ H' p = some (.lst (qs.map V.ref)) ∧ Own2 K H' (fun a => O a ∨ a ∈ p :: qs) qs dss
  | .ownD kvs => ∃ p, v = .ref p ∧ H p = none ∧ H' p = some (.dK kvs)
section
variable {K : PySem.W.Frag} {H H1 H' H'' : Hp} {O O' : Addr → Prop} {v : V} {r : R}
theorem Own2.step {qs : List Addr} {dss : List (List D)} (h : Own2 K H O qs dss) (e : Ex H H') (ho : ∀ a, O' a → O a ∨ H a = none) : Own2 K H' O' qs dss := by
  induction h with
  | nil => exact .nil
  | cons h r _ ih => exact .cons (e _ _ h) (r.step e ho) ih
theorem Own2.mono {qs : List Addr} {dss : List (List D)} (h : Own2 K H O qs dss) (e : Ex H H') : Own2 K H' O qs dss := h.step e fun _ q => .inl q
theorem Own2.rd {qs : List Addr} {dss : List (List D)} (h : Own2 K H O qs dss) : Reps K H (fun _ => False) (qs.map V.ref) (dss.map D.lst) := by
  induction h with
  | nil => exact .nil
  | cons h r _ ih => exact .cons (.lst (fun z => z) h (r.less fun _ z => z.elim)) ih
theorem Own2.get {qs : List Addr} {dss : List (List D)} (h : Own2 K H O qs dss) : ∀ {i : Nat} {ds : List D}, dss[i]? = some ds → ∃ q vs, qs[i]? = some q ∧ H q = some (.lst vs) ∧ Reps K H O vs ds := by
  induction h with
  | nil => intro i ds e; simp at e
  | cons h r _ ih =>
    intro i ds e
    cases i with
    | zero => simp at e; subst e; exact ⟨_, _, rfl, h, r⟩
    | succ i => obtain ⟨q, vs, e1, e2⟩ := ih (i := i) (by simpa using e); exact ⟨q, vs, by simpa using e1, e2⟩
theorem Own2.there {qs : List Addr} {dss : List (List D)} (h : Own2 K H O qs dss) : ∀ q ∈ qs, ∃ vs, H q = some (.lst vs) := by
  induction h with
  | nil => intro q hq; cases hq
  | cons h r _ ih =>
    intro q hq
    rcases List.mem_cons.mp hq with rfl | hq
    · exact ⟨_, h⟩
    · exact ih q hq
theorem Own2.length {qs : List Addr} {dss : List (List D)} (h : Own2 K H O qs dss) : qs.length = dss.length := by
  induction h with
  | nil => rfl
  | cons h r _ ih => rw [List.length_cons, List.length_cons, ih]
theorem Own2.write {qs : List Addr} {dss : List (List D)} {l : Addr} {o : HO} (h : Own2 K H O qs dss) (hl : O l) (hm : Mb (H l)) (hn : l ∉ qs) : Own2 K (upd H l o) O qs dss := by
  induction h with
  | nil => exact .nil
  | cons h r _ ih =>
    refine .cons ?_ (r.write hl hm) (ih fun z => hn (List.mem_cons_of_mem _ z))
    rw [upd_ne (fun z => hn (by rw [← z]; exact List.mem_cons_self))]; exact h
theorem Res.toRd (h : Res K O H H' v r) : Rep K H' (fun _ => False) v r.toD := by
  cases r with
  | val d => exact h.less fun _ z => z.elim
  | rd d => exact h
  | own ds => obtain ⟨p, vs, rfl, _, h, r⟩ := h; exact .lst (fun z => z) h (r.less fun _ z => z.elim)
  | own2 dss => obtain ⟨p, qs, rfl, _, _, h, r⟩ := h; exact .lst (fun z => z) h r.rd
  | ownD kvs => obtain ⟨p, rfl, _, h⟩ := h; exact .dic (fun z => z) h
theorem Res.step (h : Res K O H H' v r) (e : Ex H' H'') (eb : Ex H1 H) (ho : ∀ a, O' a → O a) : Res K O' H1 H'' v r := by
  cases r with
  | val d => exact h.step e fun a q => .inl (ho a q)
  | rd d => exact h.mono e
  | own ds =>
    obtain ⟨p, vs, rfl, n, h, r⟩ := h
    exact ⟨p, vs, rfl, eb.back n, e _ _ h, r.step e fun a q => .inl (q.elim (fun z => .inl (ho a z)) .inr)⟩
  | own2 dss =>
    obtain ⟨p, qs, rfl, n, nd, h, r⟩ := h
    exact ⟨p, qs, rfl, fun a q => eb.back (n a q), nd, e _ _ h, r.step e fun a q => .inl (q.elim (fun z => .inl (ho a z)) .inr)⟩
  | ownD kvs => obtain ⟨p, rfl, n, h⟩ := h; exact ⟨p, rfl, eb.back n, e _ _ h⟩
theorem Res.mono (h : Res K O H H' v r) (e : Ex H' H'') : Res K O H H'' v r := h.step e (Ex.refl _) fun _ z => z
theorem Res.base (h : Res K O H H' v r) (e : Ex H1 H) : Res K O H1 H' v r := h.step (Ex.refl _) e fun _ z => z
/-- flat in the sense that it does not matter who owns what -/
def R.Flat : R → Prop
  | .val d => BK.Flat d
  | .rd d => True
  | .own ds => ∀ d ∈ ds, BK.Flat d
  | .own2 dss => ∀ ds ∈ dss, ∀ d ∈ ds, BK.Flat d
  | .ownD _ => True
theorem Own2.flat {qs : List Addr} {dss : List (List D)} (h : Own2 K H O qs dss) (f : ∀ ds ∈ dss, ∀ d ∈ ds, Flat d) : Own2 K H O' qs dss := by
  induction h with
  | nil => exact .nil
  | cons h r _ ih => exact .cons h (r.flat (f _ List.mem_cons_self)) (ih fun ds q => f ds (List.mem_cons_of_mem _ q))
theorem Res.flat (h : Res K O H H' v r) (f : r.Flat) : Res K O' H H' v r := by
  cases r with
  | val d => exact Rep.flat h f
  | rd d => exact h
  | own ds => obtain ⟨p, vs, rfl, n, h, r⟩ := h; exact ⟨p, vs, rfl, n, h, r.flat f⟩
  | own2 dss => obtain ⟨p, qs, rfl, n, nd, h, r⟩ := h; exact ⟨p, qs, rfl, n, nd, h, r.flat f⟩
  | ownD kvs => exact h
end

/-! ## the slots of a def -/
inductive Slot where
  | any | val (d : D) | own (ds : List D) | own2 (dss : List (List D)) | ownD (kvs : List (Key × V))
def SlotRep (K : PySem.W.Frag) (H : Hp) (O : Addr → Prop) (x : Option V) : Slot → List Addr → Prop
  | .any, f => f = []
  | .val d, f => f = [] ∧ ∃ v, x = some v ∧ Rep K H O v d
  | .own ds, f => ∃ l vs, x = some (.ref l) ∧ f = [l] ∧ H l = some (.lst vs) ∧ Reps K H O vs ds
  | .own2 dss, f => ∃ p qs, x = some (.ref p) ∧ f = p :: qs ∧ (p :: qs).Nodup ∧ H p = some (.lst (qs.map V.ref)) ∧ Own2 K H O qs dss
  | .ownD kvs, f => ∃ l, x = some (.ref l) ∧ f = [l] ∧ H l = some (.dK kvs)
def Ow (Oc : Addr → Prop) (fp : Nat → List Addr) : Addr → Prop := fun a => Oc a ∨ ∃ i, a ∈ fp i
structure Sat (K : PySem.W.Frag) (Oc : Addr → Prop) (H0 H : Hp) (σ : L2.St) (S : List Slot) (fp : Nat → List Addr) : Prop where
  len : S.length = σ.length
  slot : ∀ i s, S[i]? = some s → SlotRep K H (Ow Oc fp) (σ.getD i none) s (fp i)
  out : ∀ i, S.length ≤ i → fp i = []
  dis : ∀ i j a, a ∈ fp i → a ∈ fp j → i = j
  fr : ∀ i a, a ∈ fp i → H0 a = none
  ex : Ex H0 H

section
variable {K : PySem.W.Frag} {Oc Oc' O O' : Addr → Prop} {H0 H H' H'' : Hp} {σ : L2.St} {S : List Slot} {fp : Nat → List Addr} {x : Option V} {s : Slot} {f : List Addr} {v : V} {r : R}
theorem SlotRep.step (h : SlotRep K H O x s f) (e : Ex H H') (ho : ∀ a, O' a → O a ∨ H a = none) : SlotRep K H' O' x s f := by
  cases s with
  | any => exact h
  | val d => obtain ⟨hf, v, hx, r⟩ := h; exact ⟨hf, v, hx, r.step e ho⟩
  | own ds => obtain ⟨l, vs, hx, hf, h, r⟩ := h; exact ⟨l, vs, hx, hf, e _ _ h, r.step e ho⟩
  | own2 dss => obtain ⟨p, qs, hx, hf, nd, h, r⟩ := h; exact ⟨p, qs, hx, hf, nd, e _ _ h, r.step e ho⟩
  | ownD kvs => obtain ⟨l, hx, hf, h⟩ := h; exact ⟨l, hx, hf, e _ _ h⟩
/-- what is owned can be changed -/
theorem SlotRep.there (h : SlotRep K H O x s f) : ∀ a ∈ f, Mb (H a) := by
  intro a ha
  cases s with
  | any => rw [show f = [] from h] at ha; cases ha
  | val d => rw [show f = [] from h.1] at ha; cases ha
  | own ds => obtain ⟨l, vs, hx, hf, h, r⟩ := h; subst hf; rw [List.mem_singleton.mp ha, h]; trivial
  | own2 dss =>
    obtain ⟨p, qs, hx, hf, nd, h, r⟩ := h
    subst hf
    rcases List.mem_cons.mp ha with rfl | ha
    · rw [h]; trivial
    · obtain ⟨vs, e⟩ := r.there a ha; rw [e]; trivial
  | ownD kvs => obtain ⟨l, hx, hf, h⟩ := h; subst hf; rw [List.mem_singleton.mp ha, h]; trivial
theorem SlotRep.write {l : Addr} {o : HO} (h : SlotRep K H O x s f) (hl : O l) (hm : Mb (H l)) (hn : l ∉ f) : SlotRep K (upd H l o) O x s f := by
  cases s with
  | any => exact h
  | val d => obtain ⟨hf, v, hx, r⟩ := h; exact ⟨hf, v, hx, r.write hl hm⟩
  | own ds =>
    obtain ⟨p, vs, hx, hf, h, r⟩ := h
    exact ⟨p, vs, hx, hf, by rw [upd_ne (fun z => hn (by rw [hf, z]; exact List.mem_cons_self))]; exact h, r.write hl hm⟩
  | own2 dss =>
    obtain ⟨p, qs, hx, hf, nd, h, r⟩ := h
    refine ⟨p, qs, hx, hf, nd, ?_, r.write hl hm fun z => hn (by rw [hf]; exact List.mem_cons_of_mem _ z)⟩
    rw [upd_ne (fun z => hn (by rw [hf, z]; exact List.mem_cons_self))]; exact h
  | ownD kvs =>
    obtain ⟨p, hx, hf, h⟩ := h
    exact ⟨p, hx, hf, by rw [upd_ne (fun z => hn (by rw [hf, z]; exact List.mem_cons_self))]; exact h⟩
theorem Sat.there (h : Sat K Oc H0 H σ S fp) {i : Nat} {a : Addr} (ha : a ∈ fp i) : Mb (H a) := by
  by_cases hi : i < S.length
  · exact (h.slot i _ (List.getElem?_eq_getElem hi)).there a ha
  · rw [h.out i (Nat.le_of_not_lt hi)] at ha; cases ha
theorem Mb.ne {H : Hp} {a : Addr} (h : Mb (H a)) (n : H a = none) : False := by rw [n] at h; exact h
theorem Sat.mono (h : Sat K Oc H0 H σ S fp) (e : Ex H H') : Sat K Oc H0 H' σ S fp :=
  ⟨h.len, fun i s q => (h.slot i s q).step e fun _ z => .inl z, h.out, h.dis, h.fr, h.ex.trans e⟩
/-- more to be kept away from: what is not there yet -/
theorem Sat.avoid (h : Sat K Oc H0 H σ S fp) (ho : ∀ a, Oc' a → Oc a ∨ H a = none) : Sat K Oc' H0 H σ S fp :=
  ⟨h.len, fun i s q => (h.slot i s q).step (Ex.refl H) fun a z => by
    rcases z with z | z
    · exact (ho a z).imp .inl id
    · exact .inl (.inr z), h.out, h.dis, h.fr, h.ex⟩
theorem Sat.val (h : Sat K Oc H0 H σ S fp) {i : Nat} {d : D} (e : S[i]? = some (.val d)) : ∃ v, σ[i]? = some (some v) ∧ Rep K H (Ow Oc fp) v d := by
  obtain ⟨_, v, hv, r⟩ := h.slot i _ e
  refine ⟨v, ?_, r⟩
  have hl : i < σ.length := by rw [← h.len]; exact (List.getElem?_eq_some_iff.mp e).1
  rw [List.getD_eq_getElem?_getD, List.getElem?_eq_getElem hl] at hv
  rw [List.getElem?_eq_getElem hl]
  exact congrArg some hv
theorem Sat.own (h : Sat K Oc H0 H σ S fp) {i : Nat} {ds : List D} (e : S[i]? = some (.own ds)) : ∃ l vs, σ[i]? = some (some (.ref l)) ∧ fp i = [l] ∧ H l = some (.lst vs) ∧ Reps K H (Ow Oc fp) vs ds := by
  obtain ⟨l, vs, hv, hf, hl, r⟩ := h.slot i _ e
  refine ⟨l, vs, ?_, hf, hl, r⟩
  have hl : i < σ.length := by rw [← h.len]; exact (List.getElem?_eq_some_iff.mp e).1
  rw [List.getD_eq_getElem?_getD, List.getElem?_eq_getElem hl] at hv
  rw [List.getElem?_eq_getElem hl]
  exact congrArg some hv
theorem Sat.own2 (h : Sat K Oc H0 H σ S fp) {i : Nat} {dss : List (List D)} (e : S[i]? = some (.own2 dss)) : ∃ p qs, σ[i]? = some (some (.ref p)) ∧ fp i = p :: qs ∧ (p :: qs).Nodup ∧ H p = some (.lst (qs.map V.ref)) ∧ Own2 K H (Ow Oc fp) qs dss := by
  obtain ⟨l, qs, hv, hf, hl, r⟩ := h.slot i _ e
  refine ⟨l, qs, ?_, hf, hl, r⟩
  have hl : i < σ.length := by rw [← h.len]; exact (List.getElem?_eq_some_iff.mp e).1
  rw [List.getD_eq_getElem?_getD, List.getElem?_eq_getElem hl] at hv
  rw [List.getElem?_eq_getElem hl]
  exact congrArg some hv
theorem Sat.ownD (h : Sat K Oc H0 H σ S fp) {i : Nat} {kvs : List (Key × V)} (e : S[i]? = some (.ownD kvs)) : ∃ l, σ[i]? = some (some (.ref l)) ∧ fp i = [l] ∧ H l = some (.dK kvs) := by
  obtain ⟨l, hv, hf, hl⟩ := h.slot i _ e
  refine ⟨l, ?_, hf, hl⟩
  have hl : i < σ.length := by rw [← h.len]; exact (List.getElem?_eq_some_iff.mp e).1
  rw [List.getD_eq_getElem?_getD, List.getElem?_eq_getElem hl] at hv
  rw [List.getElem?_eq_getElem hl]
  exact congrArg some hv

/-- a slot's new footprint -/
def fset (fp : Nat → List Addr) (j : Nat) (f : List Addr) : Nat → List Addr := fun i => if i = j then f else fp i
theorem fset_same {j : Nat} : fset fp j f j = f := if_pos rfl
theorem fset_ne {i j : Nat} (h : i ≠ j) : fset fp j f i = fp i := if_neg h
theorem getD_set_same {σ : L2.St} {j : Nat} {x : Option V} (h : j < σ.length) : (σ.set j x).getD j none = x := by
  rw [List.getD_eq_getElem?_getD, List.getElem?_set_self h]; rfl
theorem getD_set_ne {σ : L2.St} {i j : Nat} {x : Option V} (h : j ≠ i) : (σ.set j x).getD i none = σ.getD i none := by
  rw [List.getD_eq_getElem?_getD, List.getElem?_set_ne h, ← List.getD_eq_getElem?_getD]
/-- slot j is written anew; f: its own objects, that no other slot has -/
theorem Sat.put (h : Sat K Oc H0 H σ S fp) {j : Nat} (hj : j < S.length) (x : Option V) (s : Slot) (f : List Addr)
    (hn : ∀ a ∈ f, H0 a = none) (hd : ∀ a ∈ f, ∀ i, i ≠ j → a ∉ fp i)
    (hs : SlotRep K H (Ow Oc (fset fp j f)) x s f)
    (hr : ∀ i s, i ≠ j → S[i]? = some s → SlotRep K H (Ow Oc (fset fp j f)) (σ.getD i none) s (fp i)) : Sat K Oc H0 H (σ.set j x) (S.set j s) (fset fp j f) where
  len := by rw [List.length_set, List.length_set]; exact h.len
  slot := fun i s' e => by
    by_cases hi : i = j
    · subst hi
      rw [List.getElem?_set_self hj] at e
      cases e
      rw [fset_same, getD_set_same (by rw [← h.len]; exact hj)]
      exact hs
    · rw [List.getElem?_set_ne (Ne.symm hi)] at e
      rw [fset_ne hi, getD_set_ne (Ne.symm hi)]
      exact hr i s' hi e
  out := fun i hi => by
    rw [List.length_set] at hi
    rw [fset_ne (fun z => by subst z; exact absurd hj (Nat.not_lt_of_le hi))]
    exact h.out i hi
  dis := fun i k a hi hk => by
    by_cases e : i = j
    · by_cases e2 : k = j
      · rw [e, e2]
      · subst e; rw [fset_same] at hi; rw [fset_ne e2] at hk; exact absurd hk (hd a hi k e2)
    · by_cases e2 : k = j
      · subst e2; rw [fset_same] at hk; rw [fset_ne e] at hi; exact absurd hi (hd a hk i e)
      · rw [fset_ne e] at hi; rw [fset_ne e2] at hk; exact h.dis i k a hi hk
  fr := fun i a hi => by
    by_cases e : i = j
    · subst e; rw [fset_same] at hi; exact hn a hi
    · rw [fset_ne e] at hi; exact h.fr i a hi
  ex := h.ex
/-- what a result is as a slot -/
def R.slot : R → Slot
  | .val d => .val d
  | .rd _ => .any
  | .own ds => .own ds
  | .own2 dss => .own2 dss
  | .ownD kvs => .ownD kvs
theorem Ow_fset {j : Nat} {f : List Addr} : ∀ a, Ow Oc (fset fp j f) a → Ow Oc fp a ∨ a ∈ f := by
  intro a z
  rcases z with z | ⟨i, z⟩
  · exact .inl (.inl z)
  · by_cases e : i = j
    · subst e; rw [fset_same] at z; exact .inr z
    · rw [fset_ne e] at z; exact .inl (.inr ⟨i, z⟩)
/-- a result goes into a slot -/
theorem Sat.set (h : Sat K Oc H0 H σ S fp) (e : Ex H H') (hv : Res K (Ow Oc fp) H H' v r) {j : Nat} (hj : j < S.length) : ∃ fp', Sat K Oc H0 H' (σ.set j (some v)) (S.set j r.slot) fp' := by
  have h' := h.mono e
  have fresh : ∀ {a : Addr}, H a = none → H0 a = none ∧ ∀ i, a ∉ fp i := fun {a} n => ⟨h.ex.back n, fun i z => (h.there z).ne n⟩
  have rest : ∀ (f : List Addr), (∀ a ∈ f, H a = none) → ∀ i s, i ≠ j → S[i]? = some s → SlotRep K H' (Ow Oc (fset fp j f)) (σ.getD i none) s (fp i) := fun f hf i s _ q =>
    (h.slot i s q).step e fun a z => (Ow_fset a z).imp id (hf a)
  cases r with
  | val d =>
    refine ⟨_, h'.put hj (some v) (.val d) [] (fun a z => by cases z) (fun a z => by cases z) ⟨rfl, v, rfl, hv.less fun a z => ?_⟩ (rest [] fun a z => by cases z)⟩
    exact (Ow_fset a z).elim id fun q => by cases q
  | rd d => exact ⟨_, h'.put hj (some v) .any [] (fun a z => by cases z) (fun a z => by cases z) rfl (rest [] fun a z => by cases z)⟩
  | own ds =>
    obtain ⟨p, vs, rfl, n, hp, r⟩ := hv
    have hf : ∀ a ∈ [p], H a = none := fun a z => by rw [List.mem_singleton.mp z]; exact n
    refine ⟨_, h'.put hj _ (.own ds) [p] (fun a z => (fresh (hf a z)).1) (fun a z i _ => (fresh (hf a z)).2 i) ⟨p, vs, rfl, rfl, hp, r.less fun a z => ?_⟩ (rest [p] hf)⟩
    exact (Ow_fset a z).imp id List.mem_singleton.mp
  | own2 dss =>
    obtain ⟨p, qs, rfl, n, nd, hp, r⟩ := hv
    refine ⟨_, h'.put hj _ (.own2 dss) (p :: qs) (fun a z => (fresh (n a z)).1) (fun a z i _ => (fresh (n a z)).2 i) ⟨p, qs, rfl, rfl, nd, hp, r.step (Ex.refl _) fun a z => .inl (Ow_fset a z)⟩ (rest _ n)⟩
  | ownD kvs =>
    obtain ⟨p, rfl, n, hp⟩ := hv
    have hf : ∀ a ∈ [p], H a = none := fun a z => by rw [List.mem_singleton.mp z]; exact n
    exact ⟨_, h'.put hj _ (.ownD kvs) [p] (fun a z => (fresh (hf a z)).1) (fun a z i _ => (fresh (hf a z)).2 i) ⟨p, rfl, rfl, hp⟩ (rest [p] hf)⟩
/-- a slot is forgotten -/
theorem Sat.forget (h : Sat K Oc H0 H σ S fp) {j : Nat} (hj : j < S.length) (x : Option V) : ∃ fp', Sat K Oc H0 H (σ.set j x) (S.set j .any) fp' ∧ ∀ a, Ow Oc fp' a → Ow Oc fp a := by
  refine ⟨_, h.put hj x .any [] (fun a z => by cases z) (fun a z => by cases z) rfl (fun i s _ q => (h.slot i s q).step (Ex.refl H) fun a z => .inl ((Ow_fset a z).elim id fun q => by cases q)), fun a z => (Ow_fset a z).elim id fun q => by cases q⟩
/-- an own list is changed -/
theorem Sat.write (h : Sat K Oc H0 H σ S fp) {j : Nat} {ds ds' : List D} {l : Addr} {vs' : List V} (hj : S[j]? = some (.own ds)) (hl : fp j = [l]) (hr : Reps K H (Ow Oc fp) vs' ds') :
    Sat K Oc H0 (upd H l (.lst vs')) σ (S.set j (.own ds')) fp := by
  obtain ⟨l', vs, hx, hf, hl', r⟩ := h.slot j _ hj
  rw [hl] at hf
  cases hf
  have ml : l ∈ fp j := by rw [hl]; exact List.mem_cons_self
  have ol : Ow Oc fp l := .inr ⟨j, ml⟩
  have hm := h.there ml
  refine ⟨by rw [List.length_set]; exact h.len, fun i s e => ?_, fun i hi => h.out i (by rw [List.length_set] at hi; exact hi), h.dis, h.fr, h.ex.mut (h.fr j l ml)⟩
  by_cases hi : i = j
  · subst hi
    rw [List.getElem?_set_self (List.getElem?_eq_some_iff.mp hj).1] at e
    cases e
    exact ⟨l, vs', hx, hl, upd_same, hr.write ol hm⟩
  · rw [List.getElem?_set_ne (Ne.symm hi)] at e
    exact (h.slot i s e).write ol hm fun z => hi (h.dis i j l z ml)
theorem Sat.writeD (h : Sat K Oc H0 H σ S fp) {j : Nat} {ds ds' : List (Key × V)} {l : Addr} (hj : S[j]? = some (.ownD ds)) (hl : fp j = [l]) :
    Sat K Oc H0 (upd H l (.dK ds')) σ (S.set j (.ownD ds')) fp := by
  obtain ⟨l', hx, hf, hl'⟩ := h.slot j _ hj
  rw [hl] at hf
  cases hf
  have ml : l ∈ fp j := by rw [hl]; exact List.mem_cons_self
  have ol : Ow Oc fp l := .inr ⟨j, ml⟩
  have hm := h.there ml
  refine ⟨by rw [List.length_set]; exact h.len, fun i s e => ?_, fun i hi => h.out i (by rw [List.length_set] at hi; exact hi), h.dis, h.fr, h.ex.mut (h.fr j l ml)⟩
  by_cases hi : i = j
  · subst hi
    rw [List.getElem?_set_self (List.getElem?_eq_some_iff.mp hj).1] at e
    cases e
    exact ⟨l, hx, hl, upd_same⟩
  · rw [List.getElem?_set_ne (Ne.symm hi)] at e
    exact (h.slot i s e).write ol hm fun z => hi (h.dis i j l z ml)
theorem Own2.write1 {qs : List Addr} {dss : List (List D)} (h : Own2 K H O qs dss) : ∀ {i : Nat} {q : Addr} {vs' : List V} {ds' : List D}, qs[i]? = some q → O q → qs.Nodup → Reps K H O vs' ds' →
    Own2 K (upd H q (.lst vs')) O qs (dss.set i ds') := by
  induction h with
  | nil => intro i q vs' ds' e; simp at e
  | @cons q0 qs vs ds dss h r t ih =>
    intro i q vs' ds' e oq nd hr
    obtain ⟨n1, n2⟩ := List.nodup_cons.mp nd
    cases i with
    | zero =>
      have e' : q0 = q := by simpa using e
      subst e'
      have hm : Mb (H q0) := by rw [h]; trivial
      exact .cons upd_same (hr.write oq hm) (t.write oq hm n1)
    | succ i =>
      have e' : qs[i]? = some q := by simpa using e
      have hq : q ∈ qs := List.mem_of_getElem? e'
      obtain ⟨w, hw⟩ := t.there q hq
      refine .cons ?_ (r.write oq (by rw [hw]; trivial)) (ih e' oq n2 hr)
      rw [upd_ne (fun z => n1 (by rw [z]; exact hq))]; exact h
/-- one of the lists of an own list of own lists is changed -/
theorem Sat.write2 (h : Sat K Oc H0 H σ S fp) {j i : Nat} {dss : List (List D)} {ds' : List D} {p q : Addr} {qs : List Addr} {vs' : List V} (hj : S[j]? = some (.own2 dss)) (hl : fp j = p :: qs) (hq : qs[i]? = some q) (hr : Reps K H (Ow Oc fp) vs' ds') :
    Sat K Oc H0 (upd H q (.lst vs')) σ (S.set j (.own2 (dss.set i ds'))) fp := by
  obtain ⟨p', qs', hx, hf, nd, hp, r⟩ := h.slot j _ hj
  rw [hl] at hf
  cases hf
  have mq : q ∈ qs := List.mem_of_getElem? hq
  have ml : q ∈ fp j := by rw [hl]; exact List.mem_cons_of_mem _ mq
  have ol : Ow Oc fp q := .inr ⟨j, ml⟩
  have hm := h.there ml
  obtain ⟨n1, n2⟩ := List.nodup_cons.mp nd
  refine ⟨by rw [List.length_set]; exact h.len, fun k s e => ?_, fun i hi => h.out i (by rw [List.length_set] at hi; exact hi), h.dis, h.fr, h.ex.mut (h.fr j q ml)⟩
  by_cases hi : k = j
  · subst hi
    rw [List.getElem?_set_self (List.getElem?_eq_some_iff.mp hj).1] at e
    cases e
    refine ⟨p, qs, hx, hl, nd, ?_, r.write1 hq ol n2 hr⟩
    rw [upd_ne (fun z => n1 (by rw [z]; exact mq))]; exact hp
  · rw [List.getElem?_set_ne (Ne.symm hi)] at e
    exact (h.slot k s e).write ol hm fun z => hi (h.dis k j q z ml)
/-- an own list is given up: from now on it is only read -/
theorem Sat.freeze (h : Sat K Oc H0 H σ S fp) (hoc : ∀ a, Oc a → ∀ i, a ∉ fp i) {j : Nat} {ds : List D} (hj : S[j]? = some (.own ds)) : ∃ fp', Sat K Oc H0 H σ (S.set j (.val (.lst ds))) fp' ∧ ∀ a, Ow Oc fp' a → Ow Oc fp a := by
  obtain ⟨l, vs, hx, hf, hl, r⟩ := h.slot j _ hj
  have hlt := (List.getElem?_eq_some_iff.mp hj).1
  have ml : l ∈ fp j := by rw [hf]; exact List.mem_cons_self
  have sub : ∀ a, Ow Oc (fset fp j []) a → Ow Oc fp a := fun a z => (Ow_fset a z).elim id fun q => by cases q
  have e : σ.set j (σ.getD j none) = σ := by
    apply List.ext_getElem?
    intro i
    by_cases hi : j = i
    · subst hi
      have hs : j < σ.length := by rw [← h.len]; exact hlt
      rw [List.getElem?_set_self hs, List.getD_eq_getElem?_getD, List.getElem?_eq_getElem hs]; rfl
    · rw [List.getElem?_set_ne hi]
  have g := h.put hlt (σ.getD j none) (.val (.lst ds)) [] (fun a z => by cases z) (fun a z => by cases z) ⟨rfl, .ref l, hx, .lst (fun z => ?_) hl (r.less sub)⟩ (fun i s _ q => (h.slot i s q).step (Ex.refl H) fun a z => .inl (sub a z))
  · rw [e] at g
    exact ⟨_, g, sub⟩
  · rcases z with z | ⟨i, z⟩
    · exact hoc l z j ml
    · by_cases e : i = j
      · subst e; rw [fset_same] at z; cases z
      · rw [fset_ne e] at z; exact e (h.dis i j l z ml)
end
end BK
/-! Part B: what an expression gives, a statement does, told by data. -/
namespace BK
open PySem PySem.Spec PyProof.Rows L2

/-- the module: what stands around every def -/
structure Mo where
  P : Program
  w : World
  K : PySem.W.Frag
  mg : Str → Option Value
  base : Heap
  k : Nat
/-- a body's (or a comprehension's) place -/
structure Ctx where
  M : Mo
  N : List Str
  sc : Scope
  top : Bool
structure Rst where
  A : Around
  s_0 : Shared
  H_0 : Hp
  env : Env
  outer : List Env
  stack : List Env
  ex : List Addr
  fn : Str → Bool
  calm : Bool
  pn : List (Addr × Obj)
  xe : Value → Shared → Prop
abbrev Ctx.x (C : Ctx) (r : Rst) : Cx := { prog := C.M.P, w := C.M.w, K := C.M.K, mg := C.M.mg, base := C.M.base, A := r.A, N := C.N, s_0 := r.s_0, H_0 := r.H_0, env := r.env, outer := r.outer, stack := r.stack, ex := r.ex, fn := r.fn, calm := r.calm, pn := r.pn, xe := r.xe }
structure Good (C : Ctx) (r : Rst) : Prop where
  sc : r.env.scope = C.sc
  calm : r.calm = true
  room : Room C.M.k r.A
  nd : C.N.Nodup
  fn : (∀ x, r.fn x = true) ∨ C.top = false
  stack : C.top = true → r.stack = r.env :: r.outer ∧ r.env.frame = some r.env.locals ∧ r.ex = [] ∧ PassesOwn (model C.M.P C.M.w) r.A r.env r.xe
structure Fam (C : Ctx) (W : WX) (r : Rst) : Prop where
  g : Good C r
  t : Takes (C.x r) W
abbrev no : Addr → Prop := fun _ => False

def tE (C : Ctx) (e : Expr) (W : WX) : TE := fun σ H Q => ∃ t, (∀ r, Fam C W r → PE (C.x r) e t) ∧ t σ H Q
def tT (C : Ctx) (e : Expr) (W : WX) : TT := fun σ H Q => ∃ t, (∀ r, Fam C W r → PT (C.x r) e t) ∧ t σ H Q
def tWd (C : Ctx) (e : Expr) (W : WX) : TT := fun σ H Q => ∃ t, (∀ r, Fam C W r → PW (C.x r) e t) ∧ t σ H Q
def tA (C : Ctx) (es : List Expr) (W : WX) : TA := fun σ H Q => ∃ t, (∀ r, Fam C W r → PA (C.x r) es t) ∧ t σ H Q
def tS (C : Ctx) (st : Stmt) (W : WX) : TS := fun D σ H => ∃ t, (∀ r, Fam C W r → PS (C.x r) st t) ∧ t D σ H
def tSs (C : Ctx) (sts : List Stmt) (W : WX) : TS := fun D σ H => ∃ t, (∀ r, Fam C W r → PSs (C.x r) sts t) ∧ t D σ H
def tGt (C : Ctx) (tg : Expr) (W : WX) : TG := fun v σ H Q => ∃ t, (∀ r, Fam C W r → PG (C.x r) tg t) ∧ t v σ H Q
def tIt (C : Ctx) (tg it : Expr) (W : WX) : TI := fun σ H R => ∃ t, (∀ r, Fam C W r → PI (C.x r) tg it t) ∧ t σ H R
def tTs (C : Ctx) (es : List Expr) (W : WX) : TT := fun σ H Q => ∃ t, (∀ r, Fam C W r → PTs (C.x r) es t) ∧ t σ H Q
section
variable {C : Ctx} {W : WX} {r : Rst} {e tg : Expr} {es : List Expr} {st : Stmt} {sts : List Stmt}
theorem pe_tE (f : Fam C W r) : PE (C.x r) e (tE C e W) := ⟨fun pins s σ H Q I ⟨t, p, q⟩ => (p r f).run pins s σ H Q I q⟩
theorem pt_tT (f : Fam C W r) : PT (C.x r) e (tT C e W) := ⟨fun pins s σ H Q I ⟨t, p, q⟩ => (p r f).run pins s σ H Q I q⟩
theorem pw_tW (f : Fam C W r) : PW (C.x r) e (tWd C e W) := ⟨fun whole pins s σ H Q I ⟨t, p, q⟩ => (p r f).run whole pins s σ H Q I q⟩
theorem pa_tA (f : Fam C W r) : PA (C.x r) es (tA C es W) := ⟨fun pos pins s σ H Q I ⟨t, p, q⟩ => (p r f).run pos pins s σ H Q I q⟩
theorem ps_tS (f : Fam C W r) : PS (C.x r) st (tS C st W) := ⟨fun pins s σ H D I ⟨t, p, q⟩ => (p r f).run pins s σ H D I q⟩
theorem pss_tSs (f : Fam C W r) : PSs (C.x r) sts (tSs C sts W) := ⟨fun pins s σ H D I ⟨t, p, q⟩ => (p r f).run pins s σ H D I q⟩
theorem pg_tG (f : Fam C W r) : PG (C.x r) tg (tGt C tg W) := ⟨fun pins s σ H v u Q I rv ⟨t, p, q⟩ => (p r f).run pins s σ H v u Q I rv q⟩
theorem pi_tI {it : Expr} (f : Fam C W r) : PI (C.x r) tg it (tIt C tg it W) := ⟨fun pins s σ H R I ⟨t, p, q⟩ => (p r f).run pins s σ H R I q⟩
theorem pts_tT (f : Fam C W r) : PTs (C.x r) es (tTs C es W) := ⟨fun pins s σ H Q I ⟨t, p, q⟩ => (p r f).run pins s σ H Q I q⟩
end

/-! ## what is given -/
structure Exc where
  C : Addr
  f : Fld
def ExR (H : Hp) (cls : Value) (d : Option Addr) (e : Exc) : Prop :=
  cls = .ref e.C ∧ ((e.f = none ∧ d = none) ∨ ∃ n v dd, e.f = some (n, v) ∧ d = some dd ∧ H dd = some (.xd [(n, v)]) ∧ flatV v = true)
abbrev Out := Except Exc R
def There (A : Addr → Prop) (H : Hp) : Prop := ∀ a, A a → H a ≠ none
theorem There.ex {A : Addr → Prop} {H H' : Hp} (h : There A H) (e : Ex H H') : There A H' := fun a q n => h a q (e.back n)
def Ev (K : PySem.W.Frag) (W : WX) (t : TE) (S : List Slot) (o : Out) : Prop :=
  ∀ Oc H0 H σ fp, There Oc H → Sat K Oc H0 H σ S fp → ∀ Q : VK,
    (∀ r v H', o = .ok r → Ex H H' → Res K (Ow Oc fp) H H' v r → Q v H') →
    (∀ e cls d H', o = .error e → Ex H H' → ExR H' cls d e → W cls d σ H') → t σ H Q
def lvl (b : Bool) (O : Addr → Prop) : Addr → Prop := if b then O else no
def EvL (K : PySem.W.Frag) (b : Bool) (t : TE) (S : List Slot) (d : D) : Prop :=
  ∀ Oc H0 H σ fp, There Oc H → Sat K Oc H0 H σ S fp → ∀ Q : VK, (∀ v H', Ex H H' → Rep K H' (lvl b (Ow Oc fp)) v d → Q v H') → t σ H Q
def EvA (K : PySem.W.Frag) (b : Bool) (t : TA) (S : List Slot) (ds : List D) : Prop :=
  ∀ Oc H0 H σ fp, There Oc H → Sat K Oc H0 H σ S fp → ∀ Q : List V → Hp → Prop, (∀ vs H', Ex H H' → Reps K H' (lvl b (Ow Oc fp)) vs ds → Q vs H') → t σ H Q
def EvT (K : PySem.W.Frag) (t : TT) (S : List Slot) (x : Bool) : Prop :=
  ∀ Oc H0 H σ fp, There Oc H → Sat K Oc H0 H σ S fp → ∀ Q : Bool → Hp → Prop, (∀ H', Ex H H' → Q x H') → t σ H Q
def DE (C : Ctx) (e : Expr) (S : List Slot) (o : Out) : Prop := ∀ W, Ev C.M.K W (tE C e W) S o
def DL (C : Ctx) (b : Bool) (e : Expr) (S : List Slot) (d : D) : Prop := ∀ W, EvL C.M.K b (tE C e W) S d
def DA (C : Ctx) (b : Bool) (es : List Expr) (S : List Slot) (ds : List D) : Prop := ∀ W, EvA C.M.K b (tA C es W) S ds
def DT (C : Ctx) (e : Expr) (S : List Slot) (x : Bool) : Prop := ∀ W, EvT C.M.K (tT C e W) S x
def DW (C : Ctx) (e : Expr) (S : List Slot) (x : Bool) : Prop := ∀ W, EvT C.M.K (tWd C e W) S x
def DTs (C : Ctx) (es : List Expr) (S : List Slot) (x : Bool) : Prop := ∀ W, EvT C.M.K (tTs C es W) S x

def R.fz : R → Option D
  | .val d => some d
  | .rd _ => none
  | .own ds => some (.lst ds)
  | .own2 dss => some (.lst (dss.map .lst))
  | .ownD kvs => some (.dic kvs)
section
variable {K : PySem.W.Frag} {Oc O : Addr → Prop} {H0 H H' : Hp} {σ : L2.St} {S : List Slot} {fp : Nat → List Addr} {v : V} {r : R} {d : D}
theorem Sat.thereO (h : Sat K Oc H0 H σ S fp) (t : There Oc H) : There (Ow Oc fp) H := fun a z n => by
  rcases z with z | ⟨i, z⟩
  · exact t a z n
  · exact (h.there z).ne n
theorem Own2.frz {qs : List Addr} {dss : List (List D)} {A : Addr → Prop} (h : Own2 K H O qs dss) (ha : ∀ a, A a → O a) (hn : ∀ q ∈ qs, ¬ A q) : Reps K H A (qs.map V.ref) (dss.map D.lst) := by
  induction h with
  | nil => exact .nil
  | cons h r _ ih => exact .cons (.lst (hn _ List.mem_cons_self) h (r.less ha)) (ih fun q hq => hn q (List.mem_cons_of_mem _ hq))
theorem Res.frz (h : Res K O H H' v r) (t : There O H) (e : r.fz = some d) : Rep K H' O v d := by
  cases r with
  | val x => cases e; exact h
  | rd x => cases e
  | own ds =>
    cases e
    obtain ⟨p, vs, rfl, n, h, r⟩ := h
    exact .lst (fun z => t p z n) h (r.less fun _ z => .inl z)
  | own2 dss =>
    cases e
    obtain ⟨p, qs, rfl, n, nd, h, r⟩ := h
    exact .lst (fun z => t p z (n p List.mem_cons_self)) h (r.frz (fun _ z => .inl z) fun q hq z => t q z (n q (List.mem_cons_of_mem _ hq)))
  | ownD kvs =>
    cases e
    obtain ⟨p, rfl, n, h⟩ := h
    exact .dic (fun z => t p z n) h
theorem lvl_t : lvl true O = O := rfl
theorem lvl_f : lvl false O = no := rfl
end

section
variable {C : Ctx} {S : List Slot} {e a b : Expr} {es rest : List Expr} {o : Out} {r : R} {d : D} {ds : List D} {lv : Bool} {pos : Pos} {x y : Bool}
theorem DE.mk (h : ∀ W, ∃ t, (∀ r, Fam C W r → PE (C.x r) e t) ∧ Ev C.M.K W t S o) : DE C e S o := fun W Oc H0 H σ fp hod sat Q hq hx => by
  obtain ⟨t, p, q⟩ := h W
  exact ⟨t, p, q Oc H0 H σ fp hod sat Q hq hx⟩
theorem DT.mk (h : ∀ W, ∃ t, (∀ r, Fam C W r → PT (C.x r) e t) ∧ EvT C.M.K t S x) : DT C e S x := fun W Oc H0 H σ fp hod sat Q hq => by
  obtain ⟨t, p, q⟩ := h W
  exact ⟨t, p, q Oc H0 H σ fp hod sat Q hq⟩
theorem DW.mk (h : ∀ W, ∃ t, (∀ r, Fam C W r → PW (C.x r) e t) ∧ EvT C.M.K t S x) : DW C e S x := fun W Oc H0 H σ fp hod sat Q hq => by
  obtain ⟨t, p, q⟩ := h W
  exact ⟨t, p, q Oc H0 H σ fp hod sat Q hq⟩
theorem DA.mk (h : ∀ W, ∃ t, (∀ r, Fam C W r → PA (C.x r) es t) ∧ EvA C.M.K lv t S ds) : DA C lv es S ds := fun W Oc H0 H σ fp hod sat Q hq => by
  obtain ⟨t, p, q⟩ := h W
  exact ⟨t, p, q Oc H0 H σ fp hod sat Q hq⟩
/-- read alone -/
theorem dl_rd (h : DE C e S (.ok r)) (ed : r.toD = d) : DL C false e S d := fun W Oc H0 H σ fp hod sat Q hq =>
  h W Oc H0 H σ fp hod sat Q (fun r' v H' er ex res => by cases er; subst ed; exact hq v H' ex res.toRd) (fun _ _ _ _ er => nomatch er)
/-- nobody's own -/
theorem dl_fz (h : DE C e S (.ok r)) (ed : r.fz = some d) : DL C true e S d := fun W Oc H0 H σ fp hod sat Q hq =>
  h W Oc H0 H σ fp hod sat Q (fun r' v H' er ex res => by cases er; exact hq v H' ex (res.frz (sat.thereO hod) ed)) (fun _ _ _ _ er => nomatch er)
theorem de_dl (h : DL C true e S d) : DE C e S (.ok (.val d)) := fun W Oc H0 H σ fp hod sat Q hq hx =>
  h W Oc H0 H σ fp hod sat Q fun v H' ex rep => hq _ v H' rfl ex rep
theorem de_rd (h : DL C false e S d) : DE C e S (.ok (.rd d)) := fun W Oc H0 H σ fp hod sat Q hq hx =>
  h W Oc H0 H σ fp hod sat Q fun v H' ex rep => hq _ v H' rfl ex rep
theorem dl_flat (h : DL C false e S d) (f : Flat d) : DL C lv e S d := fun W Oc H0 H σ fp hod sat Q hq =>
  h W Oc H0 H σ fp hod sat Q fun v H' ex rep => hq v H' ex (rep.flat f)
theorem de_flat (h : DE C e S (.ok (.rd d))) (f : Flat d) : DE C e S (.ok (.val d)) := de_dl (dl_flat (dl_rd h rfl) f)
/-- an int, a text, ..: at either level -/
theorem dl_val (h : DE C e S (.ok (.val d))) : DL C lv e S d := by
  cases lv with
  | true => exact dl_fz h rfl
  | false => exact dl_rd h rfl

/-! ### names, constants -/
def GlC (C : Ctx) (x : Str) : Prop := C.sc.names.lookup x = some .globalImplicit
theorem GlC.gl {x : Str} (h : GlC C x) {r : Rst} (g : Good C r) : Gl (C.x r) x := by
  show r.env.scope.names.lookup x = _
  rw [g.sc]; exact h
theorem vis_of {x : Str} (h : Vis C.sc x) {r : Rst} (g : Good C r) : Vis (C.x r).env.scope x := by
  show Vis r.env.scope x
  rw [g.sc]; exact h
theorem de_var (i : Nat) {x : Str} (hS : S[i]? = some (.val d)) (hN : C.N[i]? = some x) (hv : Vis C.sc x) (hd : (x == ("__debug__" : Str)) = false) (hcd : (x == ("__classdict__" : Str)) = false) : DE C (.Name x pos) S (.ok (.val d)) :=
  .mk fun W => ⟨tVar i, fun r f => pe_var hN (vis_of hv f.g) hd hcd, fun Oc H0 H σ fp hod sat Q hq hx => by
    obtain ⟨v, e, rep⟩ := sat.val hS
    exact ⟨v, e, hq _ v H rfl (Ex.refl H) rep⟩⟩
theorem de_varO (i : Nat) {x : Str} (hS : S[i]? = some (.own ds)) (hN : C.N[i]? = some x) (hv : Vis C.sc x) (hd : (x == ("__debug__" : Str)) = false) (hcd : (x == ("__classdict__" : Str)) = false) : DE C (.Name x pos) S (.ok (.rd (.lst ds))) :=
  .mk fun W => ⟨tVar i, fun r f => pe_var hN (vis_of hv f.g) hd hcd, fun Oc H0 H σ fp hod sat Q hq hx => by
    obtain ⟨l, vs, e, _, hl, rep⟩ := sat.own hS
    exact ⟨_, e, hq _ _ H rfl (Ex.refl H) (.lst (fun z => z) hl (rep.less fun _ z => z.elim))⟩⟩
theorem de_varO2 (i : Nat) {x : Str} {dss : List (List D)} (hS : S[i]? = some (.own2 dss)) (hN : C.N[i]? = some x) (hv : Vis C.sc x) (hd : (x == ("__debug__" : Str)) = false) (hcd : (x == ("__classdict__" : Str)) = false) : DE C (.Name x pos) S (.ok (.rd (.lst (dss.map .lst)))) :=
  .mk fun W => ⟨tVar i, fun r f => pe_var hN (vis_of hv f.g) hd hcd, fun Oc H0 H σ fp hod sat Q hq hx => by
    obtain ⟨l, qs, e, _, _, hl, rep⟩ := sat.own2 hS
    exact ⟨_, e, hq _ _ H rfl (Ex.refl H) (.lst (fun z => z) hl rep.rd)⟩⟩
theorem de_varD (i : Nat) {x : Str} {kvs : List (Key × V)} (hS : S[i]? = some (.ownD kvs)) (hN : C.N[i]? = some x) (hv : Vis C.sc x) (hd : (x == ("__debug__" : Str)) = false) (hcd : (x == ("__classdict__" : Str)) = false) : DE C (.Name x pos) S (.ok (.rd (.dic kvs))) :=
  .mk fun W => ⟨tVar i, fun r f => pe_var hN (vis_of hv f.g) hd hcd, fun Oc H0 H σ fp hod sat Q hq hx => by
    obtain ⟨l, e, _, hl⟩ := sat.ownD hS
    exact ⟨_, e, hq _ _ H rfl (Ex.refl H) (.dic (fun z => z) hl)⟩⟩
theorem de_const {v : V} (hp : ∀ r : Rst, Good C r → PE (C.x r) e (tC v)) (hr : ∀ H O, Rep C.M.K H O v d) : DE C e S (.ok (.val d)) :=
  .mk fun W => ⟨tC v, fun r f => hp r f.g, fun Oc H0 H σ fp hod sat Q hq hx => hq _ v H rfl (Ex.refl H) (hr H _)⟩
theorem de_int {i : Int} {j : Nat} : DE C (.Constant (.int i) j pos) S (.ok (.val (.int i))) := de_const (fun _ _ => pe_int) fun _ _ => .int i
theorem de_bl {i : Bool} {j : Nat} : DE C (.Constant (.bool i) j pos) S (.ok (.val (.bl i))) := de_const (fun _ _ => pe_bl) fun _ _ => .bl i
theorem de_non {j : Nat} : DE C (.Constant .none j pos) S (.ok (.val .non)) := de_const (fun _ _ => pe_non) fun _ _ => .non
theorem de_str {i : Str} {j : Nat} : DE C (.Constant (.str i) j pos) S (.ok (.val (.str i))) := de_const (fun _ _ => pe_str) fun _ _ => .str i
/-- a tuple of the module -/
theorem de_glob {x : Str} {xs : List V} {ad : Addr} (hg : GlC C x) (hm : C.M.mg x = some (.ref ad)) (hs : SqT C.M.K (fun _ => none) ad xs) (hf : xs.all flatV = true) (hd : (x == ("__debug__" : Str)) = false) : DE C (.Name x pos) S (.ok (.val (.ktup xs))) :=
  de_const (v := .ref ad) (fun r g => pe_glob (hg.gl g) hm rfl hd) fun _ _ => .ktup hs hf
theorem de_globI {x : Str} {i : Int} {t : Tok} (hg : GlC C x) (hm : C.M.mg x = some (.int i t)) (hd : (x == ("__debug__" : Str)) = false) : DE C (.Name x pos) S (.ok (.val (.int i))) :=
  de_const (v := .int i) (fun r g => pe_glob (hg.gl g) hm ⟨t, rfl⟩ hd) fun _ _ => .int i
theorem de_globS {x : Str} {i : Str} {t : Tok} (hg : GlC C x) (hm : C.M.mg x = some (.str i t)) (hd : (x == ("__debug__" : Str)) = false) : DE C (.Name x pos) S (.ok (.val (.str i))) :=
  de_const (v := .str i) (fun r g => pe_glob (hg.gl g) hm ⟨t, rfl⟩ hd) fun _ _ => .str i

/-! ### arguments -/
theorem da_nil : DA C lv [] S [] := .mk fun W => ⟨tNil, fun _ _ => pa_nil, fun Oc H0 H σ fp hod sat Q hq => hq [] H (Ex.refl H) .nil⟩
theorem da_cons (ha : DL C lv e S d) (hr : DA C lv es S ds) (hs : ∀ env, starEach (e :: es) env = (false, eval e env) :: starEach es env := by intro _; rfl) : DA C lv (e :: es) S (d :: ds) :=
  .mk fun W => ⟨tCons (tE C e W) (tA C es W), fun r f => pa_cons (pe_tE f) (pa_tA f) (hs _), fun Oc H0 H σ fp hod sat Q hq =>
    ha W Oc H0 H σ fp hod sat _ fun v H1 e1 rep => hr W Oc H0 H1 σ fp (hod.ex e1) (sat.mono e1) _ fun vs H2 e2 reps => hq _ H2 (e1.trans e2) (.cons (rep.mono e2) reps)⟩

/-! ### operators -/
def Op2 (K : PySem.W.Frag) (r2 : R2) (da db : D) (r : R) : Prop := ∀ (A : Addr → Prop) (H : Hp) (x y : V) (Q : VK), There A H → Rep K H A x da → Rep K H A y db → (∀ v H', Ex H H' → Res K A H H' v r → Q v H') → r2 x y H Q
theorem There.no {H : Hp} : There no H := fun _ z => z.elim
theorem There.lvl {O : Addr → Prop} {H : Hp} (h : There O H) : There (lvl lv O) H := by
  cases lv with
  | true => exact h
  | false => exact There.no
theorem Res.unlvl {K : PySem.W.Frag} {O : Addr → Prop} {H H' : Hp} {v : V} (h : Res K (lvl lv O) H H' v r) (hf : lv = true ∨ r.Flat) : Res K O H H' v r := by
  cases lv with
  | true => exact h
  | false => exact h.flat (hf.resolve_left (by decide))
theorem ev_op2 {W : WX} {r2 : R2} {da db : D} (ha : DL C lv a S da) (hb : DL C lv b S db) (h2 : Op2 C.M.K r2 da db r) (hf : lv = true ∨ r.Flat) : Ev C.M.K W (tOp r2 (tE C a W) (tE C b W)) S (.ok r) :=
  fun Oc H0 H σ fp hod sat Q hq hx => ha W Oc H0 H σ fp hod sat _ fun x H1 e1 rx => hb W Oc H0 H1 σ fp (hod.ex e1) (sat.mono e1) _ fun y H2 e2 ry =>
    h2 _ H2 x y Q ((((sat.thereO hod).ex e1).ex e2).lvl) (rx.mono e2) ry fun v H3 e3 res => hq _ v H3 rfl ((e1.trans e2).trans e3) ((res.unlvl hf).base (e1.trans e2))
theorem de_op {op : Operator} {r2 : R2} {da db : D} (ho : ∀ r : Rst, Good C r → OpR (C.x r) (binaryOp op) r2) (ha : DL C lv a S da) (hb : DL C lv b S db) (h2 : Op2 C.M.K r2 da db r) (hf : lv = true ∨ r.Flat) :
    DE C (.BinOp a op b pos) S (.ok r) := .mk fun W => ⟨_, fun r f => pe_op (ho r f.g) (pe_tE f) (pe_tE f), ev_op2 ha hb h2 hf⟩
theorem de_cmp {op : CmpOp} {r2 : R2} {da db : D} (ho : ∀ r : Rst, Good C r → OpR (C.x r) (compareOp op) r2) (hm : behindInMarks op b = false) (ha : DL C lv a S da) (hb : DL C lv b S db) (h2 : Op2 C.M.K r2 da db r) (hf : lv = true ∨ r.Flat) :
    DE C (.Compare a [op] [b] pos) S (.ok r) := .mk fun W => ⟨_, fun r f => pe_cmpR (ho r f.g) (pe_tE f) (pe_tE f) hm, ev_op2 ha hb h2 hf⟩
theorem dt_cmp {op : CmpOp} {r2 : R2} {da db : D} (ho : ∀ r : Rst, Good C r → OpR (C.x r) (compareOp op) r2) (hm : behindInMarks op b = false) (ha : DL C lv a S da) (hb : DL C lv b S db) (h2 : Op2 C.M.K r2 da db (.val (.bl x))) :
    DT C (.Compare a [op] [b] pos) S x := .mk fun W => ⟨_, fun r f => pt_cmpR (ho r f.g) (pe_tE f) (pe_tE f) hm, fun Oc H0 H σ fp hod sat Q hq =>
      ev_op2 (lv := lv) (r := .val (.bl x)) (W := W) ha hb h2 (.inr (.bl x)) Oc H0 H σ fp hod sat _ (fun r v H' er ex res => by cases er; cases res; exact ⟨x, rfl, hq H' ex⟩) (fun _ _ _ _ er => nomatch er)⟩
theorem op2_I0 {K : PySem.W.Frag} {g : Int → Int → V} {i j : Int} {d : D} (h : ∀ H O, Rep K H O (g i j) d) : Op2 K (rI0 g) (.int i) (.int j) (.val d) := fun A H x y Q _ rx ry hq => by
  cases rx; cases ry; exact ⟨i, j, rfl, rfl, hq _ H (Ex.refl H) (h H A)⟩
theorem op2_I {K : PySem.W.Frag} {cd : Int → Int → Prop} {g : Int → Int → V} {i j : Int} {d : D} (hc : cd i j) (h : ∀ H O, Rep K H O (g i j) d) : Op2 K (rI cd g) (.int i) (.int j) (.val d) := fun A H x y Q _ rx ry hq => by
  cases rx; cases ry; exact ⟨i, j, rfl, rfl, hc, hq _ H (Ex.refl H) (h H A)⟩
section
variable {i j : Int}
abbrev DI (C : Ctx) (e : Expr) (S : List Slot) (i : Int) : Prop := DE C e S (.ok (.val (.int i)))
abbrev DB (C : Ctx) (e : Expr) (S : List Slot) (x : Bool) : Prop := DE C e S (.ok (.val (.bl x)))
theorem de_add (ha : DI C a S i) (hb : DI C b S j) : DI C (.BinOp a .Add b pos) S (i + j) := de_op (lv := false) (fun _ _ => op_add) (dl_val ha) (dl_val hb) (op2_I0 fun _ _ => .int _) (.inr (.int _))
theorem de_sub (ha : DI C a S i) (hb : DI C b S j) : DI C (.BinOp a .Sub b pos) S (i - j) := de_op (lv := false) (fun _ _ => op_sub) (dl_val ha) (dl_val hb) (op2_I0 fun _ _ => .int _) (.inr (.int _))
theorem de_mul (ha : DI C a S i) (hb : DI C b S j) (hc : CMul i j) : DI C (.BinOp a .Mult b pos) S (i * j) := de_op (lv := false) (fun _ _ => op_mul) (dl_val ha) (dl_val hb) (op2_I hc fun _ _ => .int _) (.inr (.int _))
theorem de_fdiv (ha : DI C a S i) (hb : DI C b S j) (hc : 0 < j ∧ j < 1073741824) : DI C (.BinOp a .FloorDiv b pos) S (i / j) := de_op (lv := false) (fun _ _ => op_fdiv) (dl_val ha) (dl_val hb) (op2_I hc fun _ _ => .int _) (.inr (.int _))
theorem de_mod (ha : DI C a S i) (hb : DI C b S j) (hc : 0 < j) : DI C (.BinOp a .Mod b pos) S (i % j) := de_op (lv := false) (fun _ _ => op_mod) (dl_val ha) (dl_val hb) (op2_I hc fun _ _ => .int _) (.inr (.int _))
theorem de_pow (ha : DI C a S i) (hb : DI C b S j) (hc : 0 ≤ j ∧ j ≤ 1000000 ∧ i.natAbs < 2 ^ 64) : DI C (.BinOp a .Pow b pos) S (i ^ j.toNat) := de_op (lv := false) (fun _ _ => op_pow) (dl_val ha) (dl_val hb) (op2_I hc fun _ _ => .int _) (.inr (.int _))
theorem de_lt (ha : DI C a S i) (hb : DI C b S j) : DB C (.Compare a [.Lt] [b] pos) S (decide (i < j)) := de_cmp (lv := false) (fun _ _ => op_lt) (nomark _) (dl_val ha) (dl_val hb) (op2_I0 fun _ _ => .bl _) (.inr (.bl _))
theorem de_le (ha : DI C a S i) (hb : DI C b S j) : DB C (.Compare a [.LtE] [b] pos) S (decide (i ≤ j)) := de_cmp (lv := false) (fun _ _ => op_le) (nomark _) (dl_val ha) (dl_val hb) (op2_I0 fun _ _ => .bl _) (.inr (.bl _))
theorem de_gt (ha : DI C a S i) (hb : DI C b S j) : DB C (.Compare a [.Gt] [b] pos) S (decide (j < i)) := de_cmp (lv := false) (fun _ _ => op_gt) (nomark _) (dl_val ha) (dl_val hb) (op2_I0 fun _ _ => .bl _) (.inr (.bl _))
theorem de_ge (ha : DI C a S i) (hb : DI C b S j) : DB C (.Compare a [.GtE] [b] pos) S (decide (j ≤ i)) := de_cmp (lv := false) (fun _ _ => op_ge) (nomark _) (dl_val ha) (dl_val hb) (op2_I0 fun _ _ => .bl _) (.inr (.bl _))
theorem dt_lt (ha : DI C a S i) (hb : DI C b S j) : DT C (.Compare a [.Lt] [b] pos) S (decide (i < j)) := dt_cmp (lv := false) (fun _ _ => op_lt) (nomark _) (dl_val ha) (dl_val hb) (op2_I0 fun _ _ => .bl _)
theorem dt_le (ha : DI C a S i) (hb : DI C b S j) : DT C (.Compare a [.LtE] [b] pos) S (decide (i ≤ j)) := dt_cmp (lv := false) (fun _ _ => op_le) (nomark _) (dl_val ha) (dl_val hb) (op2_I0 fun _ _ => .bl _)
theorem dt_gt (ha : DI C a S i) (hb : DI C b S j) : DT C (.Compare a [.Gt] [b] pos) S (decide (j < i)) := dt_cmp (lv := false) (fun _ _ => op_gt) (nomark _) (dl_val ha) (dl_val hb) (op2_I0 fun _ _ => .bl _)
theorem dt_ge (ha : DI C a S i) (hb : DI C b S j) : DT C (.Compare a [.GtE] [b] pos) S (decide (j ≤ i)) := dt_cmp (lv := false) (fun _ _ => op_ge) (nomark _) (dl_val ha) (dl_val hb) (op2_I0 fun _ _ => .bl _)
end
/-- == of numbers, texts, truths -/
def D.sc : D → Option V
  | .int i => some (.int i)
  | .bl b => some (.bl b)
  | .str x => some (.str x)
  | .non => some .non
  | _ => none
theorem Rep.scal {K : PySem.W.Frag} {H : Hp} {O : Addr → Prop} {v u : V} {d : D} (h : Rep K H O v d) (e : d.sc = some u) : v = u := by
  cases h <;> (first | (cases e; done) | (cases e; rfl))
theorem op2_eq {K : PySem.W.Frag} {da db : D} {u v : V} (ea : da.sc = some u) (eb : db.sc = some v) (hs : scal u v = true) : Op2 K rEq da db (.val (.bl (decide (u = v)))) := fun A H x y Q _ rx ry hq => by
  have e1 := rx.scal ea
  have e2 := ry.scal eb
  subst e1; subst e2
  exact ⟨hs, hq _ H (Ex.refl H) (.bl _)⟩
theorem op2_ne {K : PySem.W.Frag} {da db : D} {u v : V} (ea : da.sc = some u) (eb : db.sc = some v) (hs : scal u v = true) : Op2 K rNe da db (.val (.bl (!decide (u = v)))) := fun A H x y Q _ rx ry hq => by
  have e1 := rx.scal ea
  have e2 := ry.scal eb
  subst e1; subst e2
  exact ⟨hs, hq _ H (Ex.refl H) (.bl _)⟩
theorem dec_int {i j : Int} : decide (V.int i = V.int j) = decide (i = j) := by
  by_cases h : i = j
  · subst h; simp
  · rw [decide_eq_false h, decide_eq_false fun z => h (V.int.inj z)]
theorem dec_str {i j : Str} : decide (V.str i = V.str j) = decide (i = j) := by
  by_cases h : i = j
  · subst h; simp
  · rw [decide_eq_false h, decide_eq_false fun z => h (V.str.inj z)]
theorem dec_bl {i j : Bool} : decide (V.bl i = V.bl j) = decide (i = j) := by
  by_cases h : i = j
  · subst h; simp
  · rw [decide_eq_false h, decide_eq_false fun z => h (V.bl.inj z)]
section
variable {i j : Int} {s t : Str}
theorem de_eqI (ha : DI C a S i) (hb : DI C b S j) : DB C (.Compare a [.Eq] [b] pos) S (decide (i = j)) := by
  rw [← dec_int]; exact de_cmp (lv := false) (fun _ _ => op_eq) (nomark _) (dl_val ha) (dl_val hb) (op2_eq rfl rfl rfl) (.inr (.bl _))
theorem dt_eqI (ha : DI C a S i) (hb : DI C b S j) : DT C (.Compare a [.Eq] [b] pos) S (decide (i = j)) := by
  rw [← dec_int]; exact dt_cmp (lv := false) (fun _ _ => op_eq) (nomark _) (dl_val ha) (dl_val hb) (op2_eq rfl rfl rfl)
theorem de_neI (ha : DI C a S i) (hb : DI C b S j) : DB C (.Compare a [.NotEq] [b] pos) S (!decide (i = j)) := by
  rw [← dec_int]; exact de_cmp (lv := false) (fun _ _ => op_ne) (nomark _) (dl_val ha) (dl_val hb) (op2_ne rfl rfl rfl) (.inr (.bl _))
theorem dt_neI (ha : DI C a S i) (hb : DI C b S j) : DT C (.Compare a [.NotEq] [b] pos) S (!decide (i = j)) := by
  rw [← dec_int]; exact dt_cmp (lv := false) (fun _ _ => op_ne) (nomark _) (dl_val ha) (dl_val hb) (op2_ne rfl rfl rfl)
theorem de_eqS (ha : DE C a S (.ok (.val (.str s)))) (hb : DE C b S (.ok (.val (.str t)))) : DB C (.Compare a [.Eq] [b] pos) S (decide (s = t)) := by
  rw [← dec_str]; exact de_cmp (lv := false) (fun _ _ => op_eq) (nomark _) (dl_val ha) (dl_val hb) (op2_eq rfl rfl rfl) (.inr (.bl _))
theorem dt_eqS (ha : DE C a S (.ok (.val (.str s)))) (hb : DE C b S (.ok (.val (.str t)))) : DT C (.Compare a [.Eq] [b] pos) S (decide (s = t)) := by
  rw [← dec_str]; exact dt_cmp (lv := false) (fun _ _ => op_eq) (nomark _) (dl_val ha) (dl_val hb) (op2_eq rfl rfl rfl)
theorem de_neS (ha : DE C a S (.ok (.val (.str s)))) (hb : DE C b S (.ok (.val (.str t)))) : DB C (.Compare a [.NotEq] [b] pos) S (!decide (s = t)) := by
  rw [← dec_str]; exact de_cmp (lv := false) (fun _ _ => op_ne) (nomark _) (dl_val ha) (dl_val hb) (op2_ne rfl rfl rfl) (.inr (.bl _))
theorem dt_neS (ha : DE C a S (.ok (.val (.str s)))) (hb : DE C b S (.ok (.val (.str t)))) : DT C (.Compare a [.NotEq] [b] pos) S (!decide (s = t)) := by
  rw [← dec_str]; exact dt_cmp (lv := false) (fun _ _ => op_ne) (nomark _) (dl_val ha) (dl_val hb) (op2_ne rfl rfl rfl)
end
def D.isNon : D → Bool
  | .non => true
  | _ => false
theorem Rep.isNon {K : PySem.W.Frag} {H : Hp} {O : Addr → Prop} {v : V} {d : D} (h : Rep K H O v d) : decide (v = .non) = d.isNon := by
  cases h <;> first | rfl | (exact decide_eq_false fun z => nomatch z)
theorem op2_isN {K : PySem.W.Frag} {d : D} : Op2 K (fun x y H Q => y = .non ∧ Q (.bl (decide (x = .non))) H) d .non (.val (.bl d.isNon)) := fun A H x y Q _ rx ry hq => by
  cases ry
  rw [rx.isNon]
  exact ⟨rfl, hq _ H (Ex.refl H) (.bl _)⟩
theorem op2_notN {K : PySem.W.Frag} {d : D} : Op2 K (fun x y H Q => y = .non ∧ Q (.bl (!decide (x = .non))) H) d .non (.val (.bl (!d.isNon))) := fun A H x y Q _ rx ry hq => by
  cases ry
  rw [rx.isNon]
  exact ⟨rfl, hq _ H (Ex.refl H) (.bl _)⟩
theorem de_isN (ha : DL C false a S d) {j pos'} : DB C (.Compare a [.Is] [.Constant .none j pos'] pos) S d.isNon := de_cmp (fun _ _ => op_isN) (nomark _) ha (dl_val de_non) op2_isN (.inr (.bl _))
theorem dt_isN (ha : DL C false a S d) {j pos'} : DT C (.Compare a [.Is] [.Constant .none j pos'] pos) S d.isNon := dt_cmp (fun _ _ => op_isN) (nomark _) ha (dl_val de_non) op2_isN
theorem de_notN (ha : DL C false a S d) {j pos'} : DB C (.Compare a [.IsNot] [.Constant .none j pos'] pos) S (!d.isNon) := de_cmp (fun _ _ => op_notN) (nomark _) ha (dl_val de_non) op2_notN (.inr (.bl _))
theorem dt_notN (ha : DL C false a S d) {j pos'} : DT C (.Compare a [.IsNot] [.Constant .none j pos'] pos) S (!d.isNon) := dt_cmp (fun _ _ => op_notN) (nomark _) ha (dl_val de_non) op2_notN

/-! ### tests -/
theorem dt_val (h : DB C e S x) (he : ∀ env whole, isTrue e env whole = (do let v ← whole; standAt e.pos; holding [v] (truthy v)) := by intro _ _; rfl) : DT C e S x :=
  .mk fun W => ⟨_, fun r f => pt_val (pe_tE f) (he _), fun Oc H0 H σ fp hod sat Q hq => h W Oc H0 H σ fp hod sat _ (fun r v H' er ex res => by cases er; cases res; exact ⟨x, rfl, hq H' ex⟩) (fun _ _ _ _ er => nomatch er)⟩
theorem dw_and1 (h : DT C a S x) : DW C (.BoolOp .And [a] pos) S x := .mk fun W => ⟨_, fun r f => pw_and1 (pt_tT f), h W⟩
theorem dw_or1 (h : DT C a S x) : DW C (.BoolOp .Or [a] pos) S x := .mk fun W => ⟨_, fun r f => pw_or1 (pt_tT f), h W⟩
theorem evt_and {W : WX} {t u : TT} {K : PySem.W.Frag} (h : EvT K t S x) (hr : x = true → EvT K u S y) : EvT K (tAnd t u) S (x && y) := fun Oc H0 H σ fp hod sat Q hq =>
  h Oc H0 H σ fp hod sat _ fun H1 e1 => by
    cases x with
    | true => exact hr rfl Oc H0 H1 σ fp (hod.ex e1) (sat.mono e1) Q fun H2 e2 => hq H2 (e1.trans e2)
    | false => exact hq H1 e1
theorem evt_or {W : WX} {t u : TT} {K : PySem.W.Frag} (h : EvT K t S x) (hr : x = false → EvT K u S y) : EvT K (tOr t u) S (x || y) := fun Oc H0 H σ fp hod sat Q hq =>
  h Oc H0 H σ fp hod sat _ fun H1 e1 => by
    cases x with
    | false => exact hr rfl Oc H0 H1 σ fp (hod.ex e1) (sat.mono e1) Q fun H2 e2 => hq H2 (e1.trans e2)
    | true => exact hq H1 e1
theorem dw_and (h : DT C a S x) (hr : x = true → DW C (.BoolOp .And (b :: rest) pos) S y) : DW C (.BoolOp .And (a :: b :: rest) pos) S (x && y) :=
  .mk fun W => ⟨_, fun r f => pw_and (pt_tT f) (pw_tW f), evt_and (W := W) (h W) fun e => hr e W⟩
theorem dw_or (h : DT C a S x) (hr : x = false → DW C (.BoolOp .Or (b :: rest) pos) S y) : DW C (.BoolOp .Or (a :: b :: rest) pos) S (x || y) :=
  .mk fun W => ⟨_, fun r f => pw_or (pt_tT f) (pw_tW f), evt_or (W := W) (h W) fun e => hr e W⟩
theorem dt_w (h : DW C e S x) : DT C e S x := .mk fun W => ⟨_, fun r f => (pw_tW f).pt, h W⟩
theorem dt_not (h : DT C a S x) : DT C (.UnaryOp .Not a pos) S (!x) :=
  .mk fun W => ⟨_, fun r f => pt_not (pt_tT f), fun Oc H0 H σ fp hod sat Q hq => h W Oc H0 H σ fp hod sat _ fun H1 e1 => hq H1 e1⟩
theorem de_one {op} (h : DE C a S o) : DE C (.BoolOp op [a] pos) S o := .mk fun W => ⟨_, fun r f => pe_one (pe_tE f), h W⟩
theorem de_and (h : DB C a S x) (hr : x = true → DB C (.BoolOp .And (b :: rest) pos) S y) : DB C (.BoolOp .And (a :: b :: rest) pos) S (x && y) :=
  .mk fun W => ⟨_, fun r f => pe_and (pe_tE f) (pe_tE f), fun Oc H0 H σ fp hod sat Q hq hx => h W Oc H0 H σ fp hod sat _ (fun r v H1 er e1 res => by
    cases er; cases res
    refine ⟨x, rfl, ?_⟩
    cases x with
    | true => exact hr rfl W Oc H0 H1 σ fp (hod.ex e1) (sat.mono e1) Q (fun r v H2 er e2 res => by cases er; exact hq _ v H2 rfl (e1.trans e2) (res.base e1)) (fun _ _ _ _ er => nomatch er)
    | false => exact hq _ _ H1 rfl e1 (.bl false)) (fun _ _ _ _ er => nomatch er)⟩
theorem de_or (h : DB C a S x) (hr : x = false → DB C (.BoolOp .Or (b :: rest) pos) S y) : DB C (.BoolOp .Or (a :: b :: rest) pos) S (x || y) :=
  .mk fun W => ⟨_, fun r f => pe_or (pe_tE f) (pe_tE f), fun Oc H0 H σ fp hod sat Q hq hx => h W Oc H0 H σ fp hod sat _ (fun r v H1 er e1 res => by
    cases er; cases res
    refine ⟨x, rfl, ?_⟩
    cases x with
    | false => exact hr rfl W Oc H0 H1 σ fp (hod.ex e1) (sat.mono e1) Q (fun r v H2 er e2 res => by cases er; exact hq _ v H2 rfl (e1.trans e2) (res.base e1)) (fun _ _ _ _ er => nomatch er)
    | true => exact hq _ _ H1 rfl e1 (.bl true)) (fun _ _ _ _ er => nomatch er)⟩
theorem de_not (h : DB C a S x) : DB C (.UnaryOp .Not a pos) S (!x) :=
  .mk fun W => ⟨_, fun r f => pe_not (pe_tE f), fun Oc H0 H σ fp hod sat Q hq hx => h W Oc H0 H σ fp hod sat _ (fun r v H1 er e1 res => by cases er; cases res; exact ⟨x, rfl, hq _ _ H1 rfl e1 (.bl _)⟩) (fun _ _ _ _ er => nomatch er)⟩
theorem dts_nil : DTs C [] S true := fun W Oc H0 H σ fp hod sat Q hq => ⟨tYes, fun _ _ => pts_nil, hq H (Ex.refl H)⟩
theorem dts_one (h : DT C a S x) : DTs C [a] S x := fun W Oc H0 H σ fp hod sat Q hq => ⟨_, fun r f => pts_one (pt_tT f), h W Oc H0 H σ fp hod sat Q hq⟩
theorem de_neg {i : Int} (h : DI C a S i) : DI C (.UnaryOp .USub a pos) S (-i) :=
  .mk fun W => ⟨_, fun r f => pe_un un_neg (pe_tE f), fun Oc H0 H σ fp hod sat Q hq hx => h W Oc H0 H σ fp hod sat _ (fun r v H1 er e1 res => by cases er; cases res; exact ⟨i, rfl, hq _ _ H1 rfl e1 (.int _)⟩) (fun _ _ _ _ er => nomatch er)⟩

/-! ### calls -/
def Cl (K : PySem.W.Frag) (rc : List V → Hp → VK → Prop) (ds : List D) (r : R) : Prop := ∀ (A : Addr → Prop) (H : Hp) (vs : List V) (Q : VK), There A H → Reps K H A vs ds → (∀ v H', Ex H H' → Res K A H H' v r → Q v H') → rc vs H Q
theorem ev_cb {W : WX} {rc : List V → Hp → VK → Prop} (ha : DA C lv es S ds) (h : Cl C.M.K rc ds r) (hf : lv = true ∨ r.Flat) : Ev C.M.K W (tCB rc (tA C es W)) S (.ok r) :=
  fun Oc H0 H σ fp hod sat Q hq hx => ha W Oc H0 H σ fp hod sat _ fun vs H1 e1 reps => h _ H1 vs Q ((sat.thereO hod).ex e1).lvl reps fun v H2 e2 res => hq _ v H2 rfl (e1.trans e2) ((res.unlvl hf).base e1)
theorem de_callB {x : Str} {id : String} {p : Pos} {rc : List V → Hp → VK → Prop} (hc : ∀ r : Rst, Good C r → CallR (C.x r) (.builtin id) rc) (hg : GlC C x) (hm : C.M.mg x = none) (hv : bootBuiltins x = some (.builtin id)) (hn : x ≠ "__name__") (hdb : (x == ("__debug__" : Str)) = false)
    (ha : DA C lv (e :: es) S ds) (h : Cl C.M.K rc ds r) (hf : lv = true ∨ r.Flat)
    (he : ∀ env, starEach (e :: es) env = (false, eval e env) :: starEach es env := by intro _; rfl) (hpl : ∀ env, (backTo pos (starEach es env)).any (·.1) = false := by intro _; rfl) : DE C (.Call (.Name x p) (e :: es) [] pos) S (.ok r) :=
  .mk fun W => ⟨_, fun r f => pe_callB (hc r f.g) (hg.gl f.g) hm hv (pa_tA f) hn hdb (he _) (hpl _), ev_cb ha h hf⟩
theorem de_callTy {x : Str} {id : String} {p : Pos} {rc : List V → Hp → VK → Prop} (hc : ∀ r : Rst, Good C r → CallR (C.x r) (.type id) rc) (hg : GlC C x) (hm : C.M.mg x = none) (hv : bootBuiltins x = some (.type id)) (hn : x ≠ "__name__") (hdb : (x == ("__debug__" : Str)) = false)
    (ha : DA C lv (e :: es) S ds) (h : Cl C.M.K rc ds r) (hf : lv = true ∨ r.Flat)
    (he : ∀ env, starEach (e :: es) env = (false, eval e env) :: starEach es env := by intro _; rfl) (hpl : ∀ env, (backTo pos (starEach es env)).any (·.1) = false := by intro _; rfl) : DE C (.Call (.Name x p) (e :: es) [] pos) S (.ok r) :=
  .mk fun W => ⟨_, fun r f => pe_callTy (hc r f.g) (hg.gl f.g) hm hv (pa_tA f) hn hdb (he _) (hpl _), ev_cb ha h hf⟩

/-- the promise of a def, told by data -/
def spOf (K : PySem.W.Frag) (F : List D → Out → Prop) : Sp := fun vs H Q E => ∃ Oc ds o, There Oc H ∧ Reps K H Oc vs ds ∧ F ds o ∧
  (∀ r v H', o = .ok r → Ex H H' → Res K Oc H H' v r → Q v H') ∧ (∀ e cls d H', o = .error e → Ex H H' → ExR H' cls d e → E cls d H')
structure Callee (M : Mo) (x : Str) (F : List D → Out → Prop) : Prop where
  ex : ∃ (f : Addr) (fd : FuncData) (ps : List Str), FnOk M.P M.w M.K M.mg M.base (L2.CX M.P M.w) M.k f fd ps (spOf M.K F) ∧ M.mg x = some (.ref f) ∧ PySem.W.keepIn M.K (.ref f) = true ∧ Binds M.K fd ps []
def Out.Flat : Out → Prop
  | .ok r => r.Flat
  | .error _ => True
theorem ev_call {W : WX} {F : List D → Out → Prop} (ha : DA C lv es S ds) (hF : F ds o) (hf : lv = true ∨ Out.Flat o) : Ev C.M.K W (tCallS (spOf C.M.K F) (WE W) (tA C es W)) S o :=
  fun Oc H0 H σ fp hod sat Q hq hx => ha W Oc H0 H σ fp hod sat _ fun vs H1 e1 reps =>
    ⟨_, ds, o, ((sat.thereO hod).ex e1).lvl, reps, hF, fun r v H2 er e2 res => hq r v H2 er (e1.trans e2) ((res.unlvl (hf.imp id fun z => by subst er; exact z)).base e1), fun e cls d H2 er e2 xr => hx e cls d H2 er (e1.trans e2) xr⟩
theorem de_call {x : Str} {p : Pos} {F : List D → Out → Prop} (hF : Callee C.M x F) (hg : GlC C x) (hdb : (x == ("__debug__" : Str)) = false) (ha : DA C lv (e :: es) S ds) (h : F ds o) (hf : lv = true ∨ Out.Flat o)
    (he : ∀ env, starEach (e :: es) env = (false, eval e env) :: starEach es env := by intro _; rfl) (hpl : ∀ env, (backTo pos (starEach es env)).any (·.1) = false := by intro _; rfl) : DE C (.Call (.Name x p) (e :: es) [] pos) S o := by
  obtain ⟨f, fd, ps, G, mg, kp, b⟩ := hF.ex
  exact .mk fun W => ⟨_, fun r fm => pe_callS (E := WE W) G fm.g.room (hg.gl fm.g) mg kp b (fun σ => passAt fm.t σ) (pa_tA fm) hdb (he _) (hpl _), ev_call ha h hf⟩
end
end BK
/-! Part C: statements, loops, comprehensions. -/
namespace BK
open PySem PySem.Spec PyProof.Rows L2

structure Post where
  nx : List Slot → Prop
  rt : R → Prop
  ex : Exc → List Slot → Prop
  bk : List Slot → Prop := fun _ => False
  ct : List Slot → Prop := fun _ => False
def Wp (K : PySem.W.Frag) (W : WX) (t : TS) (S : List Slot) (P : Post) : Prop :=
  ∀ Oc H0 H σ fp, There Oc H0 → Sat K Oc H0 H σ S fp → ∀ D : Ends,
    (∀ S' H' σ' fp', P.nx S' → Sat K Oc H0 H' σ' S' fp' → D.nx σ' H') →
    (∀ r v H', P.rt r → Ex H0 H' → Res K Oc H0 H' v r → D.rt v H') →
    (∀ e cls d H' σ' S' fp', P.ex e S' → Sat K Oc H0 H' σ' S' fp' → ExR H' cls d e → W cls d σ' H') →
    (∀ S' H' σ' fp', P.bk S' → Sat K Oc H0 H' σ' S' fp' → D.bk σ' H') →
    (∀ S' H' σ' fp', P.ct S' → Sat K Oc H0 H' σ' S' fp' → D.ct σ' H') → t D σ H
def DS (C : Ctx) (st : Stmt) (S : List Slot) (P : Post) : Prop := ∀ W, Wp C.M.K W (tS C st W) S P
def DSs (C : Ctx) (sts : List Stmt) (S : List Slot) (P : Post) : Prop := ∀ W, Wp C.M.K W (tSs C sts W) S P
section
variable {C : Ctx} {S : List Slot} {P P' : Post} {e a b : Expr} {es : List Expr} {st : Stmt} {rest sts A B : List Stmt} {o : Out} {r : R} {d : D} {ds : List D} {lv : Bool} {pos pos' : Pos} {x y : Bool}
theorem DS.mk (h : ∀ W, ∃ t, (∀ r, Fam C W r → PS (C.x r) st t) ∧ Wp C.M.K W t S P) : DS C st S P := fun W Oc H0 H σ fp hod sat D h1 h2 h3 h4 h5 => by
  obtain ⟨t, p, q⟩ := h W
  exact ⟨t, p, q Oc H0 H σ fp hod sat D h1 h2 h3 h4 h5⟩
theorem DSs.mk (h : ∀ W, ∃ t, (∀ r, Fam C W r → PSs (C.x r) sts t) ∧ Wp C.M.K W t S P) : DSs C sts S P := fun W Oc H0 H σ fp hod sat D h1 h2 h3 h4 h5 => by
  obtain ⟨t, p, q⟩ := h W
  exact ⟨t, p, q Oc H0 H σ fp hod sat D h1 h2 h3 h4 h5⟩
theorem There.up {Oc : Addr → Prop} {K : PySem.W.Frag} {H0 H : Hp} {σ : L2.St} {fp : Nat → List Addr} (h : There Oc H0) (sat : Sat K Oc H0 H σ S fp) : There Oc H := h.ex sat.ex
theorem dss_nil (h : P.nx S) : DSs C [] S P := .mk fun W => ⟨tNext, fun _ _ => pss_nil, fun Oc H0 H σ fp hod sat D h1 _ _ _ _ => h1 S H σ fp h sat⟩
theorem dss_cons (h : DS C st S { P with nx := fun S' => DSs C rest S' P }) : DSs C (st :: rest) S P := .mk fun W => ⟨tSeq (tS C st W) (tSs C rest W), fun r f => pss_cons (ps_tS f) (pss_tSs f), fun Oc H0 H σ fp hod sat D h1 h2 h3 h4 h5 =>
  h W Oc H0 H σ fp hod sat { D with nx := (tSs C rest W) D } (fun S' H' σ' fp' hp sat' => hp W Oc H0 H' σ' fp' hod sat' D h1 h2 h3 h4 h5) h2 h3 h4 h5⟩
theorem dss_one (h : DS C st S P) : DSs C [st] S P := dss_cons (show DS C st S { P with nx := fun S' => DSs C [] S' P } from fun W Oc H0 H σ fp hod sat D h1 h2 h3 h4 h5 =>
  h W Oc H0 H σ fp hod sat D (fun S' H' σ' fp' hp sat' => h1 S' H' σ' fp' (dss_nil hp) sat') h2 h3 h4 h5)
theorem ds_imp (h : DS C st S P) (h1 : ∀ S, P.nx S → P'.nx S) (h2 : ∀ r, P.rt r → P'.rt r) (h3 : ∀ e S, P.ex e S → P'.ex e S) (h4 : ∀ S, P.bk S → P'.bk S) (h5 : ∀ S, P.ct S → P'.ct S) : DS C st S P' := fun W Oc H0 H σ fp hod sat D g1 g2 g3 g4 g5 =>
  h W Oc H0 H σ fp hod sat D (fun S' H' σ' fp' q => g1 S' H' σ' fp' (h1 _ q)) (fun r v H' q => g2 r v H' (h2 _ q)) (fun e cls d H' σ' S' fp' q => g3 e cls d H' σ' S' fp' (h3 _ _ q)) (fun S' H' σ' fp' q => g4 S' H' σ' fp' (h4 _ q)) (fun S' H' σ' fp' q => g5 S' H' σ' fp' (h5 _ q))
theorem dss_imp (h : DSs C sts S P) (h1 : ∀ S, P.nx S → P'.nx S) (h2 : ∀ r, P.rt r → P'.rt r) (h3 : ∀ e S, P.ex e S → P'.ex e S) (h4 : ∀ S, P.bk S → P'.bk S) (h5 : ∀ S, P.ct S → P'.ct S) : DSs C sts S P' := fun W Oc H0 H σ fp hod sat D g1 g2 g3 g4 g5 =>
  h W Oc H0 H σ fp hod sat D (fun S' H' σ' fp' q => g1 S' H' σ' fp' (h1 _ q)) (fun r v H' q => g2 r v H' (h2 _ q)) (fun e cls d H' σ' S' fp' q => g3 e cls d H' σ' S' fp' (h3 _ _ q)) (fun S' H' σ' fp' q => g4 S' H' σ' fp' (h4 _ q)) (fun S' H' σ' fp' q => g5 S' H' σ' fp' (h5 _ q))

theorem Sat.setv {K : PySem.W.Frag} {Oc : Addr → Prop} {H0 H : Hp} {σ : L2.St} {fp : Nat → List Addr} {v : V} (h : Sat K Oc H0 H σ S fp) (hv : Rep K H (Ow Oc fp) v d) {j : Nat} (hj : j < S.length) :
    ∃ fp', Sat K Oc H0 H (σ.set j (some v)) (S.set j (.val d)) fp' ∧ (∀ a, Ow Oc fp' a → Ow Oc fp a) ∧ (S[j]? = some .any → ∀ a, Ow Oc fp a → Ow Oc fp' a) := by
  have sub : ∀ a, Ow Oc (fset fp j []) a → Ow Oc fp a := fun a z => (Ow_fset a z).elim id fun q => by cases q
  refine ⟨fset fp j [], h.put hj (some v) (.val d) [] (fun a z => by cases z) (fun a z => by cases z) ⟨rfl, v, rfl, hv.less sub⟩ (fun i s _ q => (h.slot i s q).step (Ex.refl H) fun a z => .inl (sub a z)), sub, fun hs a z => ?_⟩
  rcases z with z | ⟨i, z⟩
  · exact .inl z
  · by_cases e : i = j
    · subst e
      rw [show fp i = [] from h.slot i _ hs] at z
      cases z
    · exact .inr ⟨i, by rw [fset_ne e]; exact z⟩
/-! ### targets -/
def LocC (C : Ctx) (x : Str) : Prop := (C.sc.names.lookup x = some .local) ∨ (C.sc.names.lookup x = some .cell ∧ C.top = true)
theorem LocC.pg {j : Nat} {x : Str} (h : LocC C x) (hj : C.N[j]? = some x) {r : Rst} (g : Good C r) : PG (C.x r) (.Name x pos) (gName j) := by
  have e : (C.x r).env.scope = C.sc := g.sc
  refine pg_name g.nd hj ?_ ?_
  · unfold L2.Loc; rw [e]; exact h.imp id (·.1)
  · rcases h with h | ⟨_, h⟩
    · right; rw [e]; exact h
    · rcases g.fn with q | q
      · exact .inl (q x)
      · rw [h] at q; cases q
/-- assigning data d to the target; T of the slots behind -/
def EvG (K : PySem.W.Frag) (t : TG) (S : List Slot) (d : D) (T : List Slot → Prop) : Prop :=
  ∀ Oc H0 H σ fp, There Oc H → Sat K Oc H0 H σ S fp → ∀ v, Rep K H (Ow Oc fp) v d → ∀ Q : L2.St → Hp → Prop, (∀ S' σ' fp', T S' → Sat K Oc H0 H σ' S' fp' → Q σ' H) → t v σ H Q
def DG (C : Ctx) (tg : Expr) (S : List Slot) (d : D) (T : List Slot → Prop) : Prop := ∀ W, EvG C.M.K (tGt C tg W) S d T
theorem dg_name {x : Str} {T : List Slot → Prop} (j : Nat) (hN : C.N[j]? = some x) (hx : LocC C x) (hj : j < S.length) (h : T (S.set j (.val d))) : DG C (.Name x pos) S d T := fun W Oc H0 H σ fp hod sat v rep Q hq =>
  ⟨gName j, fun r f => hx.pg hN f.g, by
    obtain ⟨fp', s', _⟩ := sat.setv rep hj
    exact hq _ _ fp' h s'⟩
theorem dg_tup2 {x y : Str} {p q : Pos} {k : Nat} {d1 d2 : D} {T : List Slot → Prop} (i j : Nat) (hi : C.N[i]? = some x) (hj : C.N[j]? = some y) (hx : LocC C x) (hy : LocC C y) (li : i < S.length) (lj : j < S.length) (h : T ((S.set i (.val d1)).set j (.val d2))) :
    DG C (.Tuple [.Name x p, .Name y q] k pos) S (.tup [d1, d2]) T := fun W Oc H0 H σ fp hod sat v rep Q hq =>
  ⟨gTup C.M.K 2 (gCons (gName i) (gCons (gName j) gNil)), fun r f => pg_tup f.g.calm (pgs_cons (hx.pg hi f.g) (pgs_cons (hy.pg hj f.g) pgs_nil)), by
    cases rep with
    | tup ha rs => cases rs with
      | cons r1 rs => cases rs with
        | cons r2 rs => cases rs with
          | nil =>
            obtain ⟨fp1, s1, sub1, _⟩ := sat.setv r1 li
            obtain ⟨fp2, s2, _⟩ := s1.setv (r2.less sub1) (by rw [List.length_set]; exact lj)
            exact ⟨_, _, rfl, .inl (.inl ha), rfl, _, _, rfl, _, _, rfl, rfl, hq _ _ fp2 h s2⟩⟩
theorem dg_tup3 {x y z : Str} {p q u : Pos} {k : Nat} {d1 d2 d3 : D} {T : List Slot → Prop} (i j l : Nat) (hi : C.N[i]? = some x) (hj : C.N[j]? = some y) (hl : C.N[l]? = some z) (hx : LocC C x) (hy : LocC C y) (hz : LocC C z) (li : i < S.length) (lj : j < S.length) (ll : l < S.length) (h : T (((S.set i (.val d1)).set j (.val d2)).set l (.val d3))) :
    DG C (.Tuple [.Name x p, .Name y q, .Name z u] k pos) S (.tup [d1, d2, d3]) T := fun W Oc H0 H σ fp hod sat v rep Q hq =>
  ⟨gTup C.M.K 3 (gCons (gName i) (gCons (gName j) (gCons (gName l) gNil))), fun r f => pg_tup f.g.calm (pgs_cons (hx.pg hi f.g) (pgs_cons (hy.pg hj f.g) (pgs_cons (hz.pg hl f.g) pgs_nil))), by
    cases rep with
    | tup ha rs => cases rs with
      | cons r1 rs => cases rs with
        | cons r2 rs => cases rs with
          | cons r3 rs => cases rs with
            | nil =>
            obtain ⟨fp1, s1, sub1, _⟩ := sat.setv r1 li
            obtain ⟨fp2, s2, sub2, _⟩ := s1.setv (r2.less sub1) (by rw [List.length_set]; exact lj)
            obtain ⟨fp3, s3, _⟩ := s2.setv (r3.less fun a z => sub1 a (sub2 a z)) (by rw [List.length_set, List.length_set]; exact ll)
            exact ⟨_, _, rfl, .inl (.inl ha), rfl, _, _, rfl, _, _, rfl, _, _, rfl, rfl, hq _ _ fp3 h s3⟩⟩

theorem LocC.ps' {W : WX} {j : Nat} {z : Str} {te : TE} (hx : LocC C z) (hN : C.N[j]? = some z) {r : Rst} (f : Fam C W r) (he : PE (C.x r) e te) (hs : swapsWith e (some (.Name z pos')) pos.line r.env = pure false) : PS (C.x r) (.Assign [.Name z pos'] e pos) (tAsg te (gName j)) := by
  have ec : (C.x r).env.scope = C.sc := f.g.sc
  refine ps_set f.g.nd hN ?_ he hs ?_
  · unfold L2.Loc; rw [ec]; exact hx.imp id (·.1)
  · rcases hx with h | ⟨_, h⟩
    · right; rw [ec]; exact h
    · rcases f.g.fn with q | q
      · exact .inl (q z)
      · rw [h] at q; cases q
theorem LocC.ps {W : WX} {j : Nat} {z : Str} (hx : LocC C z) (hN : C.N[j]? = some z) {r : Rst} (f : Fam C W r) (hs : swapsWith e (some (.Name z pos')) pos.line r.env = pure false) : PS (C.x r) (.Assign [.Name z pos'] e pos) (tAsg (tE C e W) (gName j)) := by
  have ec : (C.x r).env.scope = C.sc := f.g.sc
  refine ps_set f.g.nd hN ?_ (pe_tE f) hs ?_
  · unfold L2.Loc; rw [ec]; exact hx.imp id (·.1)
  · rcases hx with h | ⟨_, h⟩
    · right; rw [ec]; exact h
    · rcases f.g.fn with q | q
      · exact .inl (q z)
      · rw [h] at q; cases q
/-! ### simple statements -/
theorem Res.out {K : PySem.W.Frag} {Oc : Addr → Prop} {H0 H H' : Hp} {σ : L2.St} {fp : Nat → List Addr} {v : V} (h : Res K (Ow Oc fp) H H' v r) (sat : Sat K Oc H0 H σ S fp) : Res K Oc H0 H' v r := h.step (Ex.refl _) sat.ex fun _ z => .inl z
theorem ds_setO {z : Str} (j : Nat) (he : DE C e S o) (hN : C.N[j]? = some z) (hx : LocC C z) (hj : j < S.length) (ho : ∀ r, o = .ok r → P.nx (S.set j r.slot)) (hx' : ∀ x, o = .error x → P.ex x S)
    (hs : ∀ env, swapsWith e (some (.Name z pos')) pos.line env = pure false := by intro _; rfl) : DS C (.Assign [.Name z pos'] e pos) S P :=
  .mk fun W => ⟨tAsg (tE C e W) (gName j), fun r f => hx.ps hN f (hs _),
    fun Oc H0 H σ fp hod sat D h1 h2 h3 h4 h5 => he W Oc H0 H σ fp (hod.up sat) sat _
      (fun r v H' er ex res => by
        obtain ⟨fp', s'⟩ := sat.set ex res hj
        exact h1 _ H' _ fp' (ho r er) s')
      (fun x cls d H' er ex xr => h3 x cls d H' σ S fp (hx' x er) (sat.mono ex) xr)⟩
theorem ds_set {z : Str} (j : Nat) (he : DE C e S (.ok r)) (hN : C.N[j]? = some z) (hx : LocC C z) (hj : j < S.length) (h : P.nx (S.set j r.slot))
    (hs : ∀ env, swapsWith e (some (.Name z pos')) pos.line env = pure false := by intro _; rfl) : DS C (.Assign [.Name z pos'] e pos) S P :=
  ds_setO j he hN hx hj (fun r' er => by cases er; exact h) (fun _ er => nomatch er) hs
theorem ds_asgT {tg : Expr} (he : DL C true e S d) (hg : DG C tg S d P.nx) (hs : ∀ env, swapsWithSole [tg] e pos.line env = pure false := by intro _; rfl) (hw : ∀ env, swappedStores [tg] e env = pure none := by intro _; rfl)
    (h1 : ∀ env, (assignEach [tg] env).map (·.2) = [assign tg env] := by intro _; rfl) : DS C (.Assign [tg] e pos) S P :=
  .mk fun W => ⟨tAsg (tE C e W) (tGt C tg W), fun r f => ps_asg (pe_tE f) (pg_tG f) (hs _) (hw _) (h1 _),
    fun Oc H0 H σ fp hod sat D g1 g2 g3 g4 g5 => he W Oc H0 H σ fp (hod.up sat) sat _ fun v H' ex rep =>
      hg W Oc H0 H' σ fp ((hod.up sat).ex ex) (sat.mono ex) v rep D.nx fun S' σ' fp' hT s' => g1 S' H' σ' fp' hT s'⟩
theorem ds_exprO (he : DE C e S o) (ho : ∀ r, o = .ok r → P.nx S) (hx' : ∀ x, o = .error x → P.ex x S) (hs : ∀ env, swapsWith e none pos.line env = pure false := by intro _; rfl) : DS C (.Expr e pos) S P :=
  .mk fun W => ⟨tDrop (tE C e W), fun r f => ps_expr (pe_tE f) (hs _), fun Oc H0 H σ fp hod sat D h1 h2 h3 h4 h5 => he W Oc H0 H σ fp (hod.up sat) sat _
      (fun r v H' er ex res => h1 _ H' _ fp (ho r er) (sat.mono ex)) (fun x cls d H' er ex xr => h3 x cls d H' σ S fp (hx' x er) (sat.mono ex) xr)⟩
theorem ds_retO (he : DE C e S o) (ho : ∀ r, o = .ok r → P.rt r) (hx' : ∀ x, o = .error x → P.ex x S) : DS C (.Return (some e) pos) S P :=
  .mk fun W => ⟨tRet (tE C e W), fun r f => ps_ret (pe_tE f), fun Oc H0 H σ fp hod sat D h1 h2 h3 h4 h5 => he W Oc H0 H σ fp (hod.up sat) sat _
      (fun r v H' er ex res => h2 r v H' (ho r er) (sat.ex.trans ex) (res.out sat)) (fun x cls d H' er ex xr => h3 x cls d H' σ S fp (hx' x er) (sat.mono ex) xr)⟩
theorem ds_ret (he : DE C e S (.ok r)) (h : P.rt r) : DS C (.Return (some e) pos) S P := ds_retO he (fun r' er => by cases er; exact h) (fun _ er => nomatch er)
theorem ds_retN (h : P.rt (.val .non)) : DS C (.Return none pos) S P :=
  .mk fun W => ⟨tRetN, fun r f => ps_retN, fun Oc H0 H σ fp hod sat D h1 h2 h3 h4 h5 => h2 _ _ H h sat.ex .non⟩
/-- an own list is handed out -/
theorem ds_retOwn {z : Str} (j : Nat) (hS : S[j]? = some (.own ds)) (hN : C.N[j]? = some z) (hv : Vis C.sc z) (hd : (z == ("__debug__" : Str)) = false) (hcd : (z == ("__classdict__" : Str)) = false) (h : P.rt (.own ds)) : DS C (.Return (some (.Name z pos')) pos) S P :=
  .mk fun W => ⟨tRet (tVar j), fun r f => ps_ret (pe_var hN (vis_of hv f.g) hd hcd), fun Oc H0 H σ fp hod sat D h1 h2 h3 h4 h5 => by
    obtain ⟨l, vs, e, hf, hl, rep⟩ := sat.own hS
    have ml : l ∈ fp j := by rw [hf]; exact List.mem_cons_self
    refine ⟨_, e, h2 _ _ H h sat.ex ⟨l, vs, rfl, sat.fr j l ml, hl, rep.less fun a z => ?_⟩⟩
    rcases z with z | rfl
    · exact .inl z
    · exact .inr ⟨j, ml⟩⟩
theorem ds_retOwn2 {z : Str} {dss : List (List D)} (j : Nat) (hS : S[j]? = some (.own2 dss)) (hN : C.N[j]? = some z) (hv : Vis C.sc z) (hd : (z == ("__debug__" : Str)) = false) (hcd : (z == ("__classdict__" : Str)) = false) (h : P.rt (.own2 dss)) : DS C (.Return (some (.Name z pos')) pos) S P :=
  .mk fun W => ⟨tRet (tVar j), fun r f => ps_ret (pe_var hN (vis_of hv f.g) hd hcd), fun Oc H0 H σ fp hod sat D h1 h2 h3 h4 h5 => by
    obtain ⟨l, qs, e, hf, nd, hl, rep⟩ := sat.own2 hS
    refine ⟨_, e, h2 _ _ H h sat.ex ⟨l, qs, rfl, fun a z => sat.fr j a (by rw [hf]; exact z), nd, hl, rep.step (Ex.refl _) fun a z => .inl ?_⟩⟩
    rcases z with z | z
    · exact .inl z
    · exact .inr ⟨j, by rw [hf]; exact z⟩⟩
theorem ds_if {c : Expr} (hc : DT C c S x) (ht : x = true → DSs C A S P) (hf : x = false → DSs C B S P) : DS C (.If c A B pos) S P :=
  .mk fun W => ⟨tIfS (tT C c W) (tSs C A W) (tSs C B W), fun r f => ps_if (pt_tT f) (pss_tSs f) (pss_tSs f), fun Oc H0 H σ fp hod sat D h1 h2 h3 h4 h5 =>
    hc W Oc H0 H σ fp (hod.up sat) sat _ fun H' ex => by
      cases x with
      | true => exact ht rfl W Oc H0 H' σ fp hod (sat.mono ex) D h1 h2 h3 h4 h5
      | false => exact hf rfl W Oc H0 H' σ fp hod (sat.mono ex) D h1 h2 h3 h4 h5⟩
theorem ds_brk (h : P.bk S) : DS C (.Break pos) S P := .mk fun W => ⟨tBreak, fun r f => ps_break, fun Oc H0 H σ fp hod sat D h1 h2 h3 h4 h5 => h4 _ H σ fp h sat⟩
theorem ds_cnt (h : P.ct S) : DS C (.Continue pos) S P := .mk fun W => ⟨tCont, fun r f => ps_continue, fun Oc H0 H σ fp hod sat D h1 h2 h3 h4 h5 => h5 _ H σ fp h sat⟩
theorem ds_pass (h : P.nx S) : DS C (.Pass pos) S P := .mk fun W => ⟨tNext, fun r f => ps_pass, fun Oc H0 H σ fp hod sat D h1 h2 h3 h4 h5 => h1 _ H σ fp h sat⟩
/-- an own list is from now on only read -/
theorem dss_freeze (j : Nat) (hS : S[j]? = some (.own ds)) (h : DSs C sts (S.set j (.val (.lst ds))) P) : DSs C sts S P := fun W Oc H0 H σ fp hod sat D h1 h2 h3 h4 h5 => by
  obtain ⟨fp', s', _⟩ := sat.freeze (fun a z i q => hod a z (sat.fr i a q)) hS
  exact h W Oc H0 H σ fp' hod s' D h1 h2 h3 h4 h5
/-- slots told weaker -/
theorem dss_any (j : Nat) (h : DSs C sts (S.set j .any) P) : DSs C sts S P := fun W Oc H0 H σ fp hod sat D h1 h2 h3 h4 h5 => by
  by_cases hj : j < S.length
  · obtain ⟨fp', s', _⟩ := sat.forget hj (σ.getD j none)
    have e : σ.set j (σ.getD j none) = σ := by
      apply List.ext_getElem?
      intro i
      by_cases hi : j = i
      · subst hi
        have hs : j < σ.length := by rw [← sat.len]; exact hj
        rw [List.getElem?_set_self hs, List.getD_eq_getElem?_getD, List.getElem?_eq_getElem hs]; rfl
      · rw [List.getElem?_set_ne hi]
    rw [e] at s'
    exact h W Oc H0 H σ fp' hod s' D h1 h2 h3 h4 h5
  · rw [List.set_eq_of_length_le (Nat.le_of_not_lt hj)] at h
    exact h W Oc H0 H σ fp hod sat D h1 h2 h3 h4 h5

/-! ### lists changed in place -/
theorem sz_lt {n : Nat} (h : n ≤ 1000000) : n < sizeLine := Nat.lt_of_le_of_lt h (by rw [sizeLine_eq]; decide)
theorem ds_append {z : Str} {ap p1 p2 : Pos} (j : Nat) (hS : S[j]? = some (.own ds)) (he : DL C true e S d) (hN : C.N[j]? = some z) (hv : Vis C.sc z) (hd : (z == ("__debug__" : Str)) = false) (hcd : (z == ("__classdict__" : Str)) = false) (hz : ds.length ≤ 1000000) (h : P.nx (S.set j (.own (ds ++ [d]))))
    (hs : ∀ env, starEach (e :: []) env = (false, eval e env) :: starEach [] env := by intro _; rfl)
    (hfew : ∀ env, ((backTo p2 (starEach (e :: []) env)).all (fun x => !x.1) && (backToKw p2 (keywordEach [] env)).all (fun x => x.1.isSome) && decide ((e :: []).length + ([] : List Keyword).length + (if ([] : List Keyword).isEmpty then 0 else 1) < 30)) = true := by intro _; rfl)
    (hline : (ap.endLine == p2.line) = true := by rfl) (hsw : ∀ env, swapsWith (.Call (.Attribute (.Name z p1) "append" ap) [e] [] p2) none pos.line env = pure false := by intro _; rfl) :
    DS C (.Expr (.Call (.Attribute (.Name z p1) "append" ap) [e] [] p2) pos) S P :=
  .mk fun W => ⟨tDrop (tBM C.M.K "list" rAppend (tVar j) (tCons (tE C e W) tNil)), fun r f => ps_expr (pe_bm PySem.F.plainAttrs_list PySem.F.slot_list_append PySem.F.type_list_append mt_append (pe_var hN (vis_of hv f.g) hd hcd) (pa_cons (pe_tE f) pa_nil (hs _)) rfl (hfew _) hline (hs _) rfl) (hsw _), fun Oc H0 H σ fp hod sat D h1 h2 h3 h4 h5 => by
    obtain ⟨l, vs, el, hf, hl, reps⟩ := sat.own hS
    refine ⟨_, el, .inl ⟨rfl, vs, .inl (.inl hl)⟩, he W Oc H0 H σ fp (hod.up sat) sat _ fun v H1 e1 rep => ⟨l, vs, v, rfl, rfl, e1 _ _ hl, ?_, ?_⟩⟩
    · rw [reps.length]; exact sz_lt hz
    · exact h1 _ _ _ fp h ((sat.mono e1).write hS hf ((reps.mono e1).app (.one rep)))⟩
theorem ds_pop {z u : Str} {ap p1 p2 p3 : Pos} (j i : Nat) (hS : S[j]? = some (.own (ds ++ [d]))) (hN : C.N[j]? = some z) (hv : Vis C.sc z) (hd : (z == ("__debug__" : Str)) = false) (hcd : (z == ("__classdict__" : Str)) = false) (hNi : C.N[i]? = some u) (hx : LocC C u) (hi : i < S.length)
    (h : P.nx ((S.set j (.own ds)).set i (.val d))) (hline : (ap.endLine == p2.line) = true := by rfl) :
    DS C (.Assign [.Name u p3] (.Call (.Attribute (.Name z p1) "pop" ap) [] [] p2) pos) S P :=
  .mk fun W => ⟨tAsg (tBM0 C.M.K "list" rPop (tVar j)) (gName i), fun r f => hx.ps' hNi f (pe_bm0 PySem.F.plainAttrs_list PySem.F.slot_list_pop PySem.F.type_list_pop mt_pop (pe_var hN (vis_of hv f.g) hd hcd) rfl hline) rfl, fun Oc H0 H σ fp hod sat D h1 h2 h3 h4 h5 => by
    obtain ⟨l, vs, el, hf, hl, reps⟩ := sat.own hS
    have hlen := reps.length
    rw [List.length_append, List.length_singleton] at hlen
    have hg : (ds ++ [d])[vs.length - 1]? = some d := by
      rw [hlen, Nat.add_sub_cancel, List.getElem?_append_right (Nat.le_refl _), Nat.sub_self]; rfl
    obtain ⟨v, ev, rep⟩ := reps.getD hg
    have hdl : Reps C.M.K H (Ow Oc fp) vs.dropLast ds := by
      have q := reps.take (vs.length - 1)
      rw [← List.dropLast_eq_take, hlen, Nat.add_sub_cancel, List.take_append_of_le_length (Nat.le_refl _), List.take_length] at q
      exact q
    refine ⟨_, el, .inl ⟨rfl, vs, .inl (.inl hl)⟩, l, vs, v, rfl, rfl, hl, ev, ?_⟩
    have s1 := sat.write hS hf hdl
    have ml : l ∈ fp j := by rw [hf]; exact List.mem_cons_self
    have r1 : Rep C.M.K (upd H l (.lst vs.dropLast)) (Ow Oc fp) v d := rep.write (.inr ⟨j, ml⟩) (sat.there ml)
    obtain ⟨fp2, s2, _⟩ := s1.setv r1 (j := i) (by rw [List.length_set]; exact hi)
    exact h1 _ _ _ fp2 h s2⟩
theorem ds_setItem {z : Str} {i : Expr} {p1 p2 : Pos} {k : Int} {n : Nat} (j : Nat) (hS : S[j]? = some (.own ds)) (he : DL C true e S d) (hi : DI C i S k) (hk : ixN ds.length k = some n) (hN : C.N[j]? = some z) (hv : Vis C.sc z) (hd : (z == ("__debug__" : Str)) = false) (hcd : (z == ("__classdict__" : Str)) = false)
    (h : P.nx (S.set j (.own (ds.set n d)))) (hs : ∀ env, swapsWithSole [.Subscript (.Name z p1) i p2] e pos.line env = pure false := by intro _; rfl) (hw : ∀ env, swappedStores [.Subscript (.Name z p1) i p2] e env = pure none := by intro _; rfl)
    (hasg : ∀ (env : Env) (v : Value), assign (.Subscript (.Name z p1) i p2) env v = (do
      let ov ← holding [v] (eval (.Name z p1) env)
      let iv ← holding [v, ov] (eval i env)
      standAt p2
      holding [v, ov, iv] (setItem ov iv v)
      release [v, ov, iv] []) := by intro _ _; rfl)
    (h1 : ∀ env, (assignEach [.Subscript (.Name z p1) i p2] env).map (·.2) = [assign (.Subscript (.Name z p1) i p2) env] := by intro _; rfl) : DS C (.Assign [.Subscript (.Name z p1) i p2] e pos) S P :=
  .mk fun W => ⟨tAsg (tE C e W) (gSub (tVar j) (tE C i W) rSetL), fun r f => ps_asg (pe_tE f) (pg_sub (pe_var hN (vis_of hv f.g) hd hcd) (pe_tE f) set_list (hasg _)) (hs _) (hw _) (h1 _), fun Oc H0 H σ fp hod sat D g1 g2 g3 g4 g5 =>
    he W Oc H0 H σ fp (hod.up sat) sat _ fun v H1 e1 rep => by
      have s1 := sat.mono e1
      obtain ⟨l, vs, el, hf, hl, reps⟩ := s1.own hS
      refine ⟨_, el, hi W Oc H0 H1 σ fp (hod.up s1) s1 _ (fun r w H2 er e2 res => ?_) (fun _ _ _ _ er => nomatch er)⟩
      cases er; cases res
      refine ⟨l, vs, k, n, rfl, rfl, e2 _ _ hl, ?_, ?_⟩
      · rw [reps.length]; exact hk
      · exact g1 _ _ _ fp h ((s1.mono e2).write hS hf ((reps.mono e2).set (rep.mono e2) n))⟩
/-- x[a][b] = e, x an own list of own lists -/
theorem ds_setItem2 {z : Str} {i i2 : Expr} {p1 p2 p3 : Pos} {k k2 : Int} {n n2 : Nat} {dss : List (List D)} (j : Nat) (hS : S[j]? = some (.own2 dss)) (he : DL C true e S d) (hi : DI C i S k) (hi2 : DI C i2 S k2) (hk : ixN dss.length k = some n) (hg : dss[n]? = some ds) (hk2 : ixN ds.length k2 = some n2)
    (hN : C.N[j]? = some z) (hv : Vis C.sc z) (hd : (z == ("__debug__" : Str)) = false) (hcd : (z == ("__classdict__" : Str)) = false) (hpl : PlainIx i)
    (h : P.nx (S.set j (.own2 (dss.set n (ds.set n2 d))))) (hs : ∀ env, swapsWithSole [.Subscript (.Subscript (.Name z p1) i p2) i2 p3] e pos.line env = pure false := by intro _; rfl) (hw : ∀ env, swappedStores [.Subscript (.Subscript (.Name z p1) i p2) i2 p3] e env = pure none := by intro _; rfl)
    (hasg : ∀ (env : Env) (v : Value), assign (.Subscript (.Subscript (.Name z p1) i p2) i2 p3) env v = (do
      let ov ← holding [v] (eval (.Subscript (.Name z p1) i p2) env)
      let iv ← holding [v, ov] (eval i2 env)
      standAt p3
      holding [v, ov, iv] (setItem ov iv v)
      release [v, ov, iv] []) := by intro _ _; rfl)
    (h1 : ∀ env, (assignEach [.Subscript (.Subscript (.Name z p1) i p2) i2 p3] env).map (·.2) = [assign (.Subscript (.Subscript (.Name z p1) i p2) i2 p3) env] := by intro _; rfl) : DS C (.Assign [.Subscript (.Subscript (.Name z p1) i p2) i2 p3] e pos) S P :=
  .mk fun W => ⟨tAsg (tE C e W) (gSub (tOp (rIxL C.M.K) (tVar j) (tE C i W)) (tE C i2 W) rSetL), fun r f => ps_asg (pe_tE f) (pg_sub (pe_ix ix_list (pe_var hN (vis_of hv f.g) hd hcd) (pe_tE f) hpl) (pe_tE f) set_list (hasg _)) (hs _) (hw _) (h1 _), fun Oc H0 H σ fp hod sat D g1 g2 g3 g4 g5 =>
    he W Oc H0 H σ fp (hod.up sat) sat _ fun v H1 e1 rep => by
      have s1 := sat.mono e1
      obtain ⟨l, qs, el, hf, nd, hl, rep2⟩ := s1.own2 hS
      refine ⟨_, el, hi W Oc H0 H1 σ fp (hod.up s1) s1 _ (fun r w H2 er e2 res => ?_) (fun _ _ _ _ er => nomatch er)⟩
      cases er; cases res
      obtain ⟨q, vs, eq, hq, reps⟩ := rep2.get hg
      have s2 := s1.mono e2
      refine ⟨l, _, k, .ref q, rfl, rfl, .inl (.inl (e2 _ _ hl)), ?_, ?_⟩
      · unfold atI
        rw [List.length_map, rep2.length, hk]
        show (qs.map V.ref)[n]? = _
        rw [List.getElem?_map, eq]; rfl
      · refine hi2 W Oc H0 H2 σ fp (hod.up s2) s2 _ (fun r w H3 er e3 res => ?_) (fun _ _ _ _ er => nomatch er)
        cases er; cases res
        refine ⟨q, vs, k2, n2, rfl, rfl, e3 _ _ (e2 _ _ hq), ?_, ?_⟩
        · rw [reps.length]; exact hk2
        · exact g1 _ _ _ fp h ((s2.mono e3).write2 hS hf eq (((reps.mono e2).mono e3).set ((rep.mono e2).mono e3) n2))⟩
/-- x[a].append(e), x an own list of own lists -/
theorem ds_append2 {z : Str} {i : Expr} {ap p1 p2 p3 : Pos} {k : Int} {n : Nat} {dss : List (List D)} (j : Nat) (hS : S[j]? = some (.own2 dss)) (hi : DI C i S k) (he : DL C true e S d) (hk : ixN dss.length k = some n) (hg : dss[n]? = some ds) (hN : C.N[j]? = some z) (hv : Vis C.sc z) (hd : (z == ("__debug__" : Str)) = false) (hcd : (z == ("__classdict__" : Str)) = false) (hpl : PlainIx i) (hz : ds.length ≤ 1000000)
    (h : P.nx (S.set j (.own2 (dss.set n (ds ++ [d])))))
    (hs : ∀ env, starEach (e :: []) env = (false, eval e env) :: starEach [] env := by intro _; rfl) (hb : ∀ env, attributeBase (.Subscript (.Name z p1) i p3) "append" env (eval (.Subscript (.Name z p1) i p3) env) = eval (.Subscript (.Name z p1) i p3) env := by intro _; rfl)
    (hfew : ∀ env, ((backTo p2 (starEach (e :: []) env)).all (fun x => !x.1) && (backToKw p2 (keywordEach [] env)).all (fun x => x.1.isSome) && decide ((e :: []).length + ([] : List Keyword).length + (if ([] : List Keyword).isEmpty then 0 else 1) < 30)) = true := by intro _; rfl)
    (hline : (ap.endLine == p2.line) = true := by rfl) (hsw : ∀ env, swapsWith (.Call (.Attribute (.Subscript (.Name z p1) i p3) "append" ap) [e] [] p2) none pos.line env = pure false := by intro _; rfl) :
    DS C (.Expr (.Call (.Attribute (.Subscript (.Name z p1) i p3) "append" ap) [e] [] p2) pos) S P :=
  .mk fun W => ⟨tDrop (tBM C.M.K "list" rAppend (tOp (rIxL C.M.K) (tVar j) (tE C i W)) (tCons (tE C e W) tNil)), fun r f => ps_expr (pe_bm PySem.F.plainAttrs_list PySem.F.slot_list_append PySem.F.type_list_append mt_append (pe_ix ix_list (pe_var hN (vis_of hv f.g) hd hcd) (pe_tE f) hpl) (pa_cons (pe_tE f) pa_nil (hs _)) (hb _) (hfew _) hline (hs _) rfl) (hsw _), fun Oc H0 H σ fp hod sat D h1 h2 h3 h4 h5 => by
      obtain ⟨l, qs, el, hf, nd, hl, rep2⟩ := sat.own2 hS
      refine ⟨_, el, hi W Oc H0 H σ fp (hod.up sat) sat _ (fun r w H2 er e2 res => ?_) (fun _ _ _ _ er => nomatch er)⟩
      cases er; cases res
      obtain ⟨q, vs, eq, hq, reps⟩ := rep2.get hg
      have s2 := sat.mono e2
      refine ⟨l, _, k, .ref q, rfl, rfl, .inl (.inl (e2 _ _ hl)), ?_, ?_⟩
      · unfold atI
        rw [List.length_map, rep2.length, hk]
        show (qs.map V.ref)[n]? = _
        rw [List.getElem?_map, eq]; rfl
      · refine ⟨.inl ⟨rfl, vs, .inl (.inl (e2 _ _ hq))⟩, he W Oc H0 H2 σ fp (hod.up s2) s2 _ fun v H3 e3 rep => ⟨q, vs, v, rfl, rfl, e3 _ _ (e2 _ _ hq), ?_, ?_⟩⟩
        · rw [reps.length]; exact sz_lt hz
        · exact h1 _ _ _ fp h ((s2.mono e3).write2 hS hf eq (((reps.mono e2).mono e3).app (.one rep)))⟩
theorem ds_extend {z : Str} {ap p1 p2 : Pos} {ds' : List D} (j : Nat) (hS : S[j]? = some (.own ds)) (he : DL C lv e S (.lst ds')) (hfl : lv = true ∨ ∀ d ∈ ds', Flat d) (hN : C.N[j]? = some z) (hv : Vis C.sc z) (hd : (z == ("__debug__" : Str)) = false) (hcd : (z == ("__classdict__" : Str)) = false) (hz : ds.length + ds'.length ≤ 1000000) (h : P.nx (S.set j (.own (ds ++ ds'))))
    (hs : ∀ env, starEach (e :: []) env = (false, eval e env) :: starEach [] env := by intro _; rfl)
    (hfew : ∀ env, ((backTo p2 (starEach (e :: []) env)).all (fun x => !x.1) && (backToKw p2 (keywordEach [] env)).all (fun x => x.1.isSome) && decide ((e :: []).length + ([] : List Keyword).length + (if ([] : List Keyword).isEmpty then 0 else 1) < 30)) = true := by intro _; rfl)
    (hline : (ap.endLine == p2.line) = true := by rfl) (hsw : ∀ env, swapsWith (.Call (.Attribute (.Name z p1) "extend" ap) [e] [] p2) none pos.line env = pure false := by intro _; rfl) :
    DS C (.Expr (.Call (.Attribute (.Name z p1) "extend" ap) [e] [] p2) pos) S P :=
  .mk fun W => ⟨tDrop (tBM C.M.K "list" rExtend (tVar j) (tCons (tE C e W) tNil)), fun r f => ps_expr (pe_bm PySem.F.plainAttrs_list PySem.F.slot_list_extend PySem.F.type_list_extend mt_extend (pe_var hN (vis_of hv f.g) hd hcd) (pa_cons (pe_tE f) pa_nil (hs _)) rfl (hfew _) hline (hs _) rfl) (hsw _), fun Oc H0 H σ fp hod sat D h1 h2 h3 h4 h5 => by
    obtain ⟨l, vs, el, hf, hl, reps⟩ := sat.own hS
    refine ⟨_, el, .inl ⟨rfl, vs, .inl (.inl hl)⟩, he W Oc H0 H σ fp (hod.up sat) sat _ fun v H1 e1 rep => ?_⟩
    cases rep with
    | lst n hb r2 =>
      refine ⟨l, _, vs, _, rfl, rfl, e1 _ _ hl, hb, ?_, ?_⟩
      · rw [reps.length, r2.length]; exact Nat.le_of_lt (sz_lt hz)
      · refine h1 _ _ _ fp h ((sat.mono e1).write hS hf ((reps.mono e1).app ?_))
        rcases hfl with rfl | hfl
        · exact r2
        · exact r2.flat hfl⟩

/-! ### loops -/
open Classical in
noncomputable def hid (H : Hp) (F : Addr → Prop) : Hp := fun a => if F a then none else H a
section
variable {K : PySem.W.Frag} {H H' H0 : Hp} {F O Oc : Addr → Prop} {σ : L2.St} {fp : Nat → List Addr}
theorem hid_in {a : Addr} (h : F a) : hid H F a = none := by unfold hid; exact if_pos h
theorem hid_out {a : Addr} (h : ¬ F a) : hid H F a = H a := by unfold hid; exact if_neg h
theorem hid_some {a : Addr} {o : HO} (h : hid H F a = some o) : ¬ F a ∧ H a = some o := by
  by_cases q : F a
  · rw [hid_in q] at h; cases h
  · rw [hid_out q] at h; exact ⟨q, h⟩
theorem hid_ex : Ex (hid H F) H := fun a o h => (hid_some h).2
mutual
theorem Rep.hide (hF : ∀ a, F a → O a ∧ Mb (H a)) : ∀ {v : V} {d : D}, Rep K H O v d → Rep K (hid H F) O v d
  | _, _, .non => .non
  | _, _, .bl b => .bl b
  | _, _, .int i => .int i
  | _, _, .str x => .str x
  | _, _, .tup h r => .tup (by rw [hid_out (fun z => by have m := (hF _ z).2; rw [h] at m; exact m)]; exact h) (Reps.hide hF r)
  | _, _, .lst n h r => .lst n (by rw [hid_out (fun z => n (hF _ z).1)]; exact h) (Reps.hide hF r)
  | _, _, .ktup h f => .ktup h f
  | _, _, .scr h => .scr (by
      rcases h with ⟨ob, h⟩ | h
      · exact .inl ⟨ob, by rw [hid_out (fun z => by have m := (hF _ z).2; rw [h] at m; exact m)]; exact h⟩
      · exact .inr h)
  | _, _, .dic n h => .dic n (by rw [hid_out (fun z => n (hF _ z).1)]; exact h)
  | _, _, .exc0 h => .exc0 (by rw [hid_out (fun z => by have m := (hF _ z).2; rw [h] at m; exact m)]; exact h)
  | _, _, .exc1 h g f => .exc1 (by rw [hid_out (fun z => by have m := (hF _ z).2; rw [h] at m; exact m)]; exact h) (by rw [hid_out (fun z => by have m := (hF _ z).2; rw [g] at m; exact m)]; exact g) f
theorem Reps.hide (hF : ∀ a, F a → O a ∧ Mb (H a)) : ∀ {vs : List V} {ds : List D}, Reps K H O vs ds → Reps K (hid H F) O vs ds
  | _, _, .nil => .nil
  | _, _, .cons h r => .cons (Rep.hide hF h) (Reps.hide hF r)
end
/-- the slots' own objects -/
def Fp (fp : Nat → List Addr) : Addr → Prop := fun a => ∃ i, a ∈ fp i
theorem Sat.fp_ok (sat : Sat K Oc H0 H σ S fp) : ∀ a, Fp fp a → Ow Oc fp a ∧ Mb (H a) := fun a ⟨i, z⟩ => ⟨.inr ⟨i, z⟩, sat.there z⟩
/-- an iterator that gives the items -/
def Iter (K : PySem.W.Frag) (Oc : Addr → Prop) (G0 : Hp) (J : It) (items : List D) : Prop := ∃ (G : Hp → Prop) (Y : Nat → Hp → V → Hp → Prop), Walk J items.length G Y ∧ (∀ H, Ex G0 H → G H) ∧
  ∀ i H x H' d, items[i]? = some d → Ex G0 H → Y i H x H' → Ex H H' ∧ ∀ O : Addr → Prop, (∀ a, O a → Oc a ∨ G0 a = none) → Rep K H' O x d
end
noncomputable def ground (lv : Bool) (H : Hp) (fp : Nat → List Addr) : Hp := if lv then hid H (Fp fp) else H
def EvIt (K : PySem.W.Frag) (lv : Bool) (t : TI) (S : List Slot) (items : List D) : Prop := ∀ Oc H0 H σ fp, There Oc H → Sat K Oc H0 H σ S fp → ∀ R : It → Hp → Prop, (∀ J H1, Ex H H1 → Iter K (lvl lv Oc) (ground lv H1 fp) J items → R J H1) → t σ H R
def DIt (C : Ctx) (lv : Bool) (tg it : Expr) (S : List Slot) (items : List D) : Prop := ∀ W, EvIt C.M.K lv (tIt C tg it W) S items
theorem DIt.mk {tg it : Expr} {items : List D} (h : ∀ W, ∃ t, (∀ r, Fam C W r → PI (C.x r) tg it t) ∧ EvIt C.M.K lv t S items) : DIt C lv tg it S items := fun W Oc H0 H σ fp hod sat R hq => by
  obtain ⟨t, p, q⟩ := h W
  exact ⟨t, p, q Oc H0 H σ fp hod sat R hq⟩
theorem Reps.ground {K : PySem.W.Frag} {Oc : Addr → Prop} {H0 H : Hp} {σ : L2.St} {fp : Nat → List Addr} {vs : List V} (sat : Sat K Oc H0 H σ S fp) (h : Reps K H (lvl lv (Ow Oc fp)) vs ds) : Reps K (BK.ground lv H fp) (lvl lv Oc) vs ds := by
  cases lv with
  | true => exact (Reps.hide sat.fp_ok h).less fun _ z => .inl z
  | false => exact h
theorem iter_list {K : PySem.W.Frag} {Oc : Addr → Prop} {H0 H : Hp} {σ : L2.St} {fp : Nat → List Addr} {a : Addr} {vs : List V} (sat : Sat K Oc H0 H σ S fp) (na : lv = true → ¬ Fp fp a) (hs : SqL K H a vs) (hk : H a = none → SqL K (fun _ => none) a vs) (h : Reps K H (lvl lv (Ow Oc fp)) vs ds) :
    Iter K (lvl lv Oc) (BK.ground lv H fp) (Itl K a) ds := by
  have rg := Reps.ground sat h
  have hG : ∀ H', Ex (BK.ground lv H fp) H' → SqL K H' a vs := fun H' ex => by
    have ea : BK.ground lv H fp a = H a := by
      cases lv with
      | false => rfl
      | true => exact hid_out (na rfl)
    rcases hs with (z | ⟨o, z⟩) | z
    · exact .inl (.inl (ex _ _ (by rw [ea]; exact z)))
    · exact .inl (.inr ⟨o, ex _ _ (by rw [ea]; exact z)⟩)
    · exact .inr z
  refine ⟨fun H => SqL K H a vs, YAt vs, ?_, hG, fun i H1 x H2 d ed ex y => ?_⟩
  · rw [← h.length]; exact walk_list
  · obtain ⟨rfl, ex2⟩ := y
    obtain ⟨d', e1, r⟩ := rg.get ex2
    rw [ed] at e1
    cases e1
    exact ⟨Ex.refl _, fun O ho => r.step ex ho⟩
theorem dit_list {tg it : Expr} (h : DL C lv it S (.lst ds)) : DIt C lv tg it S ds := .mk fun W => ⟨iList C.M.K (tE C it W), fun r f => pi_list (pe_tE f), fun Oc H0 H σ fp hod sat R hq =>
  h W Oc H0 H σ fp hod sat _ fun v H1 e1 rep => by
    cases rep with
    | lst n hl rs =>
      refine ⟨_, rfl, ⟨_, .inl (.inl hl)⟩, hq _ H1 e1 (iter_list (sat.mono e1) (fun e z => ?_) (.inl (.inl hl)) (fun z => by rw [hl] at z; cases z) rs)⟩
      subst e
      exact n (.inr z)⟩
theorem walk_rng {lo : Int} {n : Nat} : Walk (Itr lo n) n (fun _ => True) (YFn fun i => .int (lo + (i : Nat))) := walk_range
theorem dit_range1 {tg a : Expr} {p : Pos} {n : Int} (hg : GlC C "range") (hm : C.M.mg "range" = none) (h : DI C a S n) (hb : n < 2 ^ 62 ∧ -(2 ^ 62) ≤ n) (hs : ∀ env, starEach [a] env = [(false, eval a env)] := by intro _; rfl) :
    DIt C lv tg (.Call (.Name "range" p) [a] [] pos) S ((List.range n.toNat).map fun i => .int (i : Nat)) := .mk fun W => ⟨iRng1 (tCons (tE C a W) tNil), fun r f => pi_range1 (hg.gl f.g) hm (pa_cons (pe_tE f) pa_nil (hs _)) (hs _), fun Oc H0 H σ fp hod sat R hq =>
  h W Oc H0 H σ fp hod sat _ (fun r v H1 er e1 res => by
    cases er; cases res
    refine ⟨n, rfl, hb.2, hb.1, hq _ H1 e1 ⟨fun _ => True, YFn fun i => .int (0 + (i : Nat)), ?_, fun _ _ => trivial, fun i H x H' d ed ex y => ?_⟩⟩
    · rw [List.length_map, List.length_range]; exact walk_rng
    · obtain ⟨rfl, rfl⟩ := y
      rw [List.getElem?_map] at ed
      by_cases hi : i < n.toNat
      · rw [List.getElem?_range hi] at ed
        cases ed
        refine ⟨Ex.refl _, fun O _ => ?_⟩
        show Rep C.M.K _ O (.int ((0 : Int) + (i : Nat))) (.int ((i : Nat) : Int))
        rw [Int.zero_add]; exact .int _
      · rw [List.getElem?_eq_none (by rw [List.length_range]; omega)] at ed; cases ed) (fun _ _ _ _ er => nomatch er)⟩
theorem dit_str {tg it : Expr} {z : Str} (h : DE C it S (.ok (.val (.str z)))) : DIt C lv tg it S (z.cps.toList.map fun c => .str ⟨#[c]⟩) := .mk fun W => ⟨iStr (tE C it W), fun r f => pi_str (pe_tE f), fun Oc H0 H σ fp hod sat R hq =>
  h W Oc H0 H σ fp hod sat _ (fun r v H1 er e1 res => by
    cases er; cases res
    refine ⟨z, rfl, hq _ H1 e1 ⟨_, (fun i H v H' => H' = H ∧ ∃ c, z.cps[i]? = some c ∧ v = .str ⟨#[c]⟩), ?_, fun _ _ => trivial, fun i H x H' d ed ex y => ?_⟩⟩
    · rw [List.length_map, Array.length_toList]; exact walk_str
    · obtain ⟨rfl, c, hc, rfl⟩ := y
      rw [List.getElem?_map, Array.getElem?_toList, hc] at ed
      cases ed
      exact ⟨Ex.refl _, fun O _ => .str _⟩) (fun _ _ _ _ er => nomatch er)⟩
theorem dit_enum {a : Expr} {tgs : List Expr} {kk : Nat} {p tp : Pos} (hg : GlC C "enumerate") (hm : C.M.mg "enumerate" = none) (h : DL C lv a S (.lst ds)) (hs : ∀ env, starEach [a] env = [(false, eval a env)] := by intro _; rfl) :
    DIt C lv (.Tuple tgs kk tp) (.Call (.Name "enumerate" p) [a] [] pos) S (ds.zipIdx.map fun di => .tup [.int (di.2 : Nat), di.1]) := .mk fun W => ⟨iEnum C.M.K (tCons (tE C a W) tNil), fun r f => pi_enum (hg.gl f.g) hm (pa_cons (pe_tE f) pa_nil (hs _)) (hs _), fun Oc H0 H σ fp hod sat R hq =>
  h W Oc H0 H σ fp hod sat _ fun v H1 e1 rep => by
    cases rep with
    | @lst a vs _ n hl rs =>
      have s1 := sat.mono e1
      have rg := Reps.ground s1 rs
      have ea : lv = true → ¬ Fp fp a := fun e z => by subst e; exact n (.inr z)
      have eg : BK.ground lv H1 fp a = H1 a := by
        cases lv with
        | false => rfl
        | true => exact hid_out (ea rfl)
      have hG : ∀ H', Ex (BK.ground lv H1 fp) H' → SqL C.M.K H' a vs := fun H' ex => .inl (.inl (ex _ _ (by rw [eg]; exact hl)))
      refine ⟨a, vs, rfl, .inl (.inl hl), hq _ H1 e1 ⟨fun H => SqL C.M.K H a vs, YPair (fun i => some (.int (i : Nat))) (fun i => vs[i]?), ?_, hG, fun i H2 x H3 d ed ex y => ?_⟩⟩
      · rw [List.length_map, List.length_zipIdx, ← rs.length]; exact walk_enum
      · obtain ⟨T, x1, x2, rfl, hT, rfl, h1, h2⟩ := y
        cases h1
        obtain ⟨d', e3, r⟩ := rg.get h2
        rw [List.getElem?_map, List.getElem?_zipIdx, e3] at ed
        cases ed
        refine ⟨Ex.new hT, fun O ho => .tup upd_same (.cons ?_ (.one ((r.step ex ho).mono (Ex.new hT))))⟩
        show Rep C.M.K _ O (.int (i : Nat)) (.int ((0 + i : Nat) : Int))
        rw [Nat.zero_add]; exact .int _⟩
theorem ds_for {tg it : Expr} {body : List Stmt} {items : List D} (htop : C.top = true) (hi : DIt C true tg it S items) (I : Nat → List Slot → Prop) (h0 : I 0 S)
    (hs : ∀ i d S', items[i]? = some d → I i S' → DG C tg S' d fun S2 => DSs C body S2 { P with nx := I (i + 1), ct := I (i + 1), bk := P.nx })
    (hd : ∀ S', I items.length S' → P.nx S') (hf : ∀ env x, foldedSetIterable it env x = pure x := by intro _ _; rfl) : DS C (.For tg it body [] pos) S P :=
  .mk fun W => ⟨tFor (tIt C tg it W) (tGt C tg W) (tSs C body W), fun r f => ps_for (f.g.stack htop).2.2.2 f.g.calm (pi_tI f) (pg_tG f) (pss_tSs f) (hf _), fun Oc H0 H σ fp hod sat D h1 h2 h3 h4 h5 =>
    hi W Oc H0 H σ fp (hod.up sat) sat _ fun J H1 e1 ⟨G, Y, w, hG, hY⟩ => by
      have s1 := sat.mono e1
      have x0 : Ex H0 (hid H1 (Fp fp)) := fun a o q => by
        rw [hid_out (fun ⟨i, z⟩ => by rw [sat.fr i a z] at q; cases q)]
        exact s1.ex a o q
      have hod' : There Oc (hid H1 (Fp fp)) := hod.ex x0
      have s0 : Sat C.M.K Oc (hid H1 (Fp fp)) H1 σ S fp := ⟨s1.len, s1.slot, s1.out, s1.dis, fun i a z => hid_in ⟨i, z⟩, hid_ex⟩
      have back : ∀ {S' H' σ' fp'}, Sat C.M.K Oc (hid H1 (Fp fp)) H' σ' S' fp' → Sat C.M.K Oc H0 H' σ' S' fp' := fun q => ⟨q.len, q.slot, q.out, q.dis, fun i a z => x0.back (q.fr i a z), x0.trans q.ex⟩
      refine for_it w (fun i σ' H' => ∃ S' fp', I i S' ∧ Sat C.M.K Oc (hid H1 (Fp fp)) H' σ' S' fp') ⟨S, fp, h0, s0⟩ (fun i σ' H' _ ⟨S', fp', _, q⟩ => hG H' q.ex) (fun i x σ' H' H2 hlt ⟨S', fp', hI, q⟩ y => ?_) fun σ' H' ⟨S', fp', hI, q⟩ => h1 S' H' σ' fp' (hd S' hI) (back q)
      have ed := List.getElem?_eq_getElem hlt
      obtain ⟨ex2, rep⟩ := hY i H' x H2 _ ed q.ex y
      have q2 := q.mono ex2
      refine hs i _ S' ed hI W Oc _ H2 σ' fp' (hod'.up q2) q2 x (rep _ fun a z => z.imp id fun ⟨k, z⟩ => q.fr k a z) _ fun S2 σ2 fp2 hB q3 => ?_
      exact hB W Oc _ H2 σ2 fp2 hod' q3 _ (fun S3 H3 σ3 fp3 hI3 q4 => ⟨S3, fp3, hI3, q4⟩) (fun r v H3 hr ex3 res => h2 r v H3 hr (x0.trans ex3) (res.base x0)) (fun e cls d H3 σ3 S3 fp3 he q4 xr => h3 e cls d H3 σ3 S3 fp3 he (back q4) xr)
        (fun S3 H3 σ3 fp3 hI3 q4 => h1 S3 H3 σ3 fp3 hI3 (back q4)) (fun S3 H3 σ3 fp3 hI3 q4 => ⟨S3, fp3, hI3, q4⟩)⟩
theorem ds_while {c : Expr} {body : List Stmt} (htop : C.top = true) (I : Nat → List Slot → Prop) (m0 : Nat) (h0 : I m0 S)
    (hs : ∀ m S', I m S' → ∃ x, DT C c S' x ∧ (x = true → DSs C body S' { P with nx := fun S2 => ∃ m', m' < m ∧ I m' S2, ct := fun S2 => ∃ m', m' < m ∧ I m' S2, bk := P.nx }) ∧ (x = false → P.nx S')) : DS C (.While c body [] pos) S P :=
  .mk fun W => ⟨tWhile (tT C c W) (tSs C body W), fun r f => ps_while (f.g.stack htop).2.2.2 (pt_tT f) (pss_tSs f), fun Oc H0 H σ fp hod sat D h1 h2 h3 h4 h5 => by
    refine ⟨fun m σ' H' => ∃ S' fp', I m S' ∧ Sat C.M.K Oc H0 H' σ' S' fp', ⟨m0, S, fp, h0, sat⟩, fun m σ' H' ⟨S', fp', hI, q⟩ => ?_⟩
    obtain ⟨x, hx, ht, hf⟩ := hs m S' hI
    refine hx W Oc H0 H' σ' fp' (hod.up q) q _ fun H2 ex => ?_
    cases x with
    | false =>
      rw [if_neg Bool.false_ne_true]
      exact h1 S' H2 σ' fp' (hf rfl) (q.mono ex)
    | true =>
      rw [if_pos rfl]
      refine ⟨fun σ2 H3 => ∃ S2 fp2, (∃ m', m' < m ∧ I m' S2) ∧ Sat C.M.K Oc H0 H3 σ2 S2 fp2, fun σ2 H3 ⟨S2, fp2, ⟨m', hm, hI2⟩, q2⟩ => ⟨m', hm, S2, fp2, hI2, q2⟩, ?_⟩
      exact ht rfl W Oc H0 H2 σ' fp' hod (q.mono ex) _ (fun S3 H3 σ3 fp3 hI3 q4 => ⟨S3, fp3, hI3, q4⟩) h2 h3 (fun S3 H3 σ3 fp3 hI3 q4 => h1 S3 H3 σ3 fp3 hI3 q4) (fun S3 H3 σ3 fp3 hI3 q4 => ⟨S3, fp3, hI3, q4⟩)⟩

/-! ### comprehensions -/
abbrev Ctx.blk (C : Ctx) (scope : Scope) : Ctx := { C with sc := relS scope C.sc, top := false }
abbrev W0 : WX := fun _ _ _ _ => False
theorem Fam.blk {W : WX} {r : Rst} (f : Fam C W r) (s : Shared) (H : Hp) (scope : Scope) (c : Addr) (cl : List (Str × Addr)) (fp : List Addr) :
    Fam (C.blk scope) W0 { A := r.A, s_0 := s, H_0 := H, env := compEnvC scope cl c r.env, outer := r.stack, stack := r.stack, ex := fp, fn := fun x => scope.names.lookup x == some .cell, calm := r.calm, pn := [], xe := fun _ _ => False } :=
  ⟨⟨by show relS scope r.env.scope = relS scope C.sc; rw [f.g.sc], f.g.calm, f.g.room, f.g.nd, .inr rfl, fun z => nomatch (show false = true from z)⟩, takes0⟩
/-- the target of a comprehension; vs: its slots -/
def DGc (C : Ctx) (vs : List Nat) (tg : Expr) (S : List Slot) (d : D) (S2 : List Slot) : Prop := ∀ W Oc H0 H σ fp, There Oc H → Sat C.M.K Oc H0 H σ S fp → ∀ v, Rep C.M.K H (Ow Oc fp) v d → ∀ Q : L2.St → Hp → Prop,
  (∀ σ2 fp2, wipe σ2 vs = wipe σ vs → (∀ a, Ow Oc fp a → Ow Oc fp2 a) → Sat C.M.K Oc H0 H σ2 S2 fp2 → Q σ2 H) → tGt C tg W v σ H Q
theorem wipe_set {σ : L2.St} {k : Nat} {x : Option V} : ∀ {vs : List Nat}, k ∈ vs → wipe (σ.set k x) vs = wipe σ vs
  | [], h => by cases h
  | v :: vs, h => by
    show (wipe (σ.set k x) vs).set v none = (wipe σ vs).set v none
    by_cases hk : k ∈ vs
    · rw [wipe_set hk]
    · have e : k = v := (List.mem_cons.mp h).resolve_right hk
      subst e
      have q : ∀ {ws : List Nat}, k ∉ ws → wipe (σ.set k x) ws = (wipe σ ws).set k x := by
        intro ws
        induction ws with
        | nil => intro _; rfl
        | cons w ws ih =>
          intro hw
          show (wipe (σ.set k x) ws).set w none = ((wipe σ ws).set w none).set k x
          rw [ih fun z => hw (List.mem_cons_of_mem _ z), List.set_comm _ _ (fun z => hw (by rw [z]; exact List.mem_cons_self))]
      rw [q hk, List.set_set]
theorem wipe_idem {σ : L2.St} : ∀ {vs ws : List Nat}, (∀ v ∈ ws, v ∈ vs) → wipe (wipe σ ws) vs = wipe σ vs
  | vs, [], _ => rfl
  | vs, w :: ws, h => by
    show wipe ((wipe σ ws).set w none) vs = _
    rw [wipe_set (h w List.mem_cons_self), wipe_idem fun v hv => h v (List.mem_cons_of_mem _ hv)]
theorem Sat.wipe {K : PySem.W.Frag} {Oc : Addr → Prop} {H0 H : Hp} {σ : L2.St} {fp : Nat → List Addr} (sat : Sat K Oc H0 H σ S fp) : ∀ {vs : List Nat}, (∀ v ∈ vs, S[v]? = some .any) → Sat K Oc H0 H (L2.wipe σ vs) S fp
  | [], _ => sat
  | w :: ws, h => by
    have s1 := Sat.wipe sat fun v hv => h v (List.mem_cons_of_mem _ hv)
    have hw := h w List.mem_cons_self
    have hlt := (List.getElem?_eq_some_iff.mp hw).1
    refine ⟨?_, fun i s e => ?_, s1.out, s1.dis, s1.fr, s1.ex⟩
    · show _ = ((L2.wipe σ ws).set w none).length
      rw [List.length_set]; exact s1.len
    · by_cases hi : i = w
      · subst hi
        rw [hw] at e; cases e
        exact s1.slot _ _ hw
      · have q := s1.slot i s e
        show SlotRep K H (Ow Oc fp) (((L2.wipe σ ws).set w none).getD i none) s (fp i)
        rw [getD_set_ne (Ne.symm hi)]; exact q
theorem dgc_name {x : Str} (j : Nat) (hN : C.N[j]? = some x) (hx : LocC C x) (hS : S[j]? = some .any) : DGc C [j] (.Name x pos) S d (S.set j (.val d)) := fun W Oc H0 H σ fp hod sat v rep Q hq =>
  ⟨gName j, fun r f => hx.pg hN f.g, by
    obtain ⟨fp', s', _, h2⟩ := sat.setv rep (List.getElem?_eq_some_iff.mp hS).1
    exact hq _ fp' (wipe_set List.mem_cons_self) (h2 hS) s'⟩
theorem dgc_tup2 {x y : Str} {p q : Pos} {k : Nat} {d1 d2 : D} (i j : Nat) (hij : i ≠ j) (hi : C.N[i]? = some x) (hj : C.N[j]? = some y) (hx : LocC C x) (hy : LocC C y) (li : S[i]? = some .any) (lj : S[j]? = some .any) :
    DGc C [i, j] (.Tuple [.Name x p, .Name y q] k pos) S (.tup [d1, d2]) ((S.set i (.val d1)).set j (.val d2)) := fun W Oc H0 H σ fp hod sat v rep Q hq =>
  ⟨gTup C.M.K 2 (gCons (gName i) (gCons (gName j) gNil)), fun r f => pg_tup f.g.calm (pgs_cons (hx.pg hi f.g) (pgs_cons (hy.pg hj f.g) pgs_nil)), by
    cases rep with
    | tup ha rs => cases rs with
      | cons r1 rs => cases rs with
        | cons r2 rs => cases rs with
          | nil =>
            obtain ⟨fp1, s1, sub1, sup1⟩ := sat.setv r1 (List.getElem?_eq_some_iff.mp li).1
            obtain ⟨fp2, s2, _, sup2⟩ := s1.setv (r2.less sub1) (j := j) (by rw [List.length_set]; exact (List.getElem?_eq_some_iff.mp lj).1)
            refine ⟨_, _, rfl, .inl (.inl ha), rfl, _, _, rfl, _, _, rfl, rfl, hq _ fp2 ?_ (fun a z => sup2 (by rw [List.getElem?_set_ne hij]; exact lj) a (sup1 li a z)) s2⟩
            rw [wipe_set (by simp), wipe_set (by simp)]⟩
/-- the list that a comprehension makes -/
theorem ev_lc {α : Type} {W : WX} {tg it : Expr} {ifs : List Expr} {scope : Scope} {vs : List Nat} {elt : Expr} (l : List α) (enc h : α → D) (p : α → Bool) (hi : DIt C lv tg it S (l.map enc)) (hv : ∀ v ∈ vs, S[v]? = some .any) (hz : l.length ≤ 1000000)
    (hfl : lv = true ∨ ∀ x ∈ l, Flat (enc x))
    (he : ∀ x ∈ l, ∃ S2 r, DGc (C.blk scope) vs tg S (enc x) S2 ∧ DTs (C.blk scope) ifs S2 (p x) ∧ (p x = true → DE (C.blk scope) elt S2 (.ok r) ∧ r.fz = some (h x))) :
    Ev C.M.K W (tLc (tIt C tg it W) (tGt (C.blk scope) tg W0) (tTs (C.blk scope) ifs W0) (tE (C.blk scope) elt W0) vs) S (.ok (.own ((l.filter p).map h))) := fun Oc H0 H σ fp hod sat Q hq hx =>
  hi W Oc H0 H σ fp hod sat _ fun J H1 e1 ⟨G, Y, w, hG, hY⟩ Dl hD => by
    have s1 := (sat.mono e1).wipe hv
    have gx : Ex (BK.ground lv H1 fp) H1 := by
      cases lv with
      | false => exact Ex.refl _
      | true => exact hid_ex
    let Oc' : Addr → Prop := fun a => Oc a ∨ a = Dl
    have sA : Sat C.M.K Oc' H0 H1 (L2.wipe σ vs) S fp := s1.avoid fun a z => z.imp id fun z => by rw [z]; exact hD
    let Pv : Nat → Hp → Prop := fun i H' => ∃ acc, Ex H1 H' ∧ H' Dl = some (.lst acc) ∧ Reps C.M.K H' (Ow Oc' fp) acc (((l.take i).filter p).map h)
    refine lc_it w Pv ⟨[], Ex.new hD, upd_same, .nil⟩ (fun i H' _ ⟨_, ex, _⟩ => hG H' (gx.trans ex)) (fun i x H' H2 hlt ⟨acc, ex, hl, reps⟩ y => ?_) fun H' ⟨acc, ex, hl, reps⟩ => ?_
    · have hlt' : i < l.length := by rw [List.length_map] at hlt; exact hlt
      have ed : (l.map enc)[i]? = some (enc l[i]) := by rw [List.getElem?_map, List.getElem?_eq_getElem hlt']; rfl
      have mem : l[i] ∈ l := List.getElem_mem hlt'
      obtain ⟨ex2, rep⟩ := hY i H' x H2 _ ed (gx.trans ex) y
      have rx : Rep C.M.K H2 (Ow Oc' fp) x (enc l[i]) := by
        rcases hfl with rfl | hfl
        · refine rep _ fun a z => ?_
          rcases z with (z | z) | z
          · exact .inl z
          · right; rw [z]
            by_cases q : Fp fp Dl
            · exact hid_in q
            · show hid H1 (Fp fp) Dl = none; rw [hid_out q]; exact hD
          · exact .inr (hid_in z)
        · exact Rep.flat (rep no fun _ z => z.elim) (hfl _ mem)
      have sB := sA.mono (ex.trans ex2)
      have t2 : There Oc' H2 := fun a z => by
        rcases z with z | z
        · exact (hod.ex ((e1.trans ex).trans ex2)) a z
        · rw [z, ex2 _ _ hl]; exact fun z => nomatch z
      obtain ⟨S2, rr, hg, ht, hel⟩ := he _ mem
      have tk : l.take (i + 1) = l.take i ++ [l[i]] := by rw [List.take_add_one, List.getElem?_eq_getElem hlt']; rfl
      refine hg W0 Oc' H0 H2 _ fp t2 sB x rx _ fun σ2 fp2 hw sup sC => ⟨hw.trans (wipe_idem fun _ z => z), ?_⟩
      refine ht W0 Oc' H0 H2 σ2 fp2 t2 sC _ fun H3 e3 => ?_
      by_cases hp : p l[i] = true
      · rw [if_pos hp]
        obtain ⟨hel, hfz⟩ := hel hp
        have sD := sC.mono e3
        refine hel W0 Oc' H0 H3 σ2 fp2 (t2.ex e3) sD _ (fun r v H4 er e4 res => ?_) (fun _ _ _ _ er => nomatch er)
        cases er
        have rv := res.frz (sD.thereO (t2.ex e3)) hfz
        have ex4 : Ex H1 H4 := ((ex.trans ex2).trans e3).trans e4
        have hl4 : H4 Dl = some (.lst acc) := e4 _ _ (e3 _ _ (ex2 _ _ hl))
        have oD : Ow Oc' fp2 Dl := .inl (.inr rfl)
        have oD1 : Ow Oc' fp Dl := .inl (.inr rfl)
        have mb : Mb (H4 Dl) := by rw [hl4]; trivial
        refine ⟨acc, hl4, ?_, acc ++ [v], ex4.mut hD, upd_same, ?_⟩
        · rw [reps.length, List.length_map]
          refine sz_lt (Nat.le_trans (List.length_filter_le _ _) ?_)
          rw [List.length_take]; exact Nat.le_trans (Nat.min_le_right _ _) hz
        · rw [tk, List.filter_append, List.map_append]
          refine (((reps.mono ((ex2.trans e3).trans e4)).write oD1 mb).app ?_)
          rw [show [l[i]].filter p = [l[i]] by simp [hp]]
          exact .one ((rv.write oD mb).less fun a z => sup a z)
      · rw [if_neg hp]
        refine ⟨acc, (ex.trans ex2).trans e3, e3 _ _ (ex2 _ _ hl), ?_⟩
        rw [tk, List.filter_append, show [l[i]].filter p = [] by simp [hp], List.append_nil]
        exact reps.mono (ex2.trans e3)
    · refine hq _ _ H' rfl (e1.trans ex) ⟨Dl, acc, rfl, e1.back hD, hl, ?_⟩
      rw [List.length_map, List.take_length] at reps
      exact reps.less fun a z => by
        rcases z with (z | z) | z
        · exact .inl (.inl z)
        · exact .inr z
        · exact .inl (.inr z)
theorem de_comp {α : Type} {tg it elt : Expr} {ifs : List Expr} {scope : Scope} (own : List (Str × Nat)) (l : List α) (enc h : α → D) (p : α → Bool) (hb : blkC C.N C.sc scope own = true) (hi : DIt C lv tg it S (l.map enc)) (hv : ∀ v ∈ own.map (·.2), S[v]? = some .any) (hz : l.length ≤ 1000000)
    (hfl : lv = true ∨ ∀ x ∈ l, Flat (enc x))
    (he : ∀ x ∈ l, ∃ S2 r, DGc (C.blk scope) (own.map (·.2)) tg S (enc x) S2 ∧ DTs (C.blk scope) ifs S2 (p x) ∧ (p x = true → DE (C.blk scope) elt S2 (.ok r) ∧ r.fz = some (h x)))
    (hf : ∀ env x, foldedSetIterable it env x = pure x := by intro _ _; rfl) : DE C (.ListComp elt [⟨tg, it, ifs, 0⟩] scope pos) S (.ok (.own ((l.filter p).map h))) :=
  .mk fun W => ⟨_, fun r f => pe_lc (X := C.x r) f.g.calm f.g.nd (pi_tI f) (by have := blkOk_by hb; rw [← f.g.sc] at this; exact this) (fun s H c cl fp => pg_tG (f.blk s H scope c cl fp)) (fun s H c cl fp => pts_tT (f.blk s H scope c cl fp)) (fun s H c cl fp => pe_tE (f.blk s H scope c cl fp)) (hf _), ev_lc l enc h p hi hv hz hfl he⟩
theorem ds_setLc {α : Type} {tg it elt : Expr} {ifs : List Expr} {scope : Scope} {z : Str} {py : Pos} (j : Nat) (own : List (Str × Nat)) (l : List α) (enc h : α → D) (p : α → Bool) (hN : C.N[j]? = some z) (hx : C.sc.names.lookup z = some .local) (hj : j < S.length) (hln : (py.line == pos'.line) = true) (hnn : (scope.names.any fun (n, k) => n == z && (k == .local || k == .cell)) = false) (hk : C.sc.kind = .function)
    (hb : blkC C.N C.sc scope own = true) (hi : DIt C lv tg it S (l.map enc)) (hv : ∀ v ∈ own.map (·.2), S[v]? = some .any) (hz : l.length ≤ 1000000) (hfl : lv = true ∨ ∀ x ∈ l, Flat (enc x))
    (he : ∀ x ∈ l, ∃ S2 r, DGc (C.blk scope) (own.map (·.2)) tg S (enc x) S2 ∧ DTs (C.blk scope) ifs S2 (p x) ∧ (p x = true → DE (C.blk scope) elt S2 (.ok r) ∧ r.fz = some (h x)))
    (hP : P.nx (S.set j (.own ((l.filter p).map h)))) (hf : ∀ env x, foldedSetIterable it env x = pure x := by intro _ _; rfl) : DS C (.Assign [.Name z py] (.ListComp elt [⟨tg, it, ifs, 0⟩] scope pos') pos) S P :=
  .mk fun W => ⟨tAsg (tLc (tIt C tg it W) (tGt (C.blk scope) tg W0) (tTs (C.blk scope) ifs W0) (tE (C.blk scope) elt W0) (own.map (·.2))) (gName j), fun r f => by
      have ec : (C.x r).env.scope = C.sc := f.g.sc
      refine ps_setLc (X := C.x r) f.g.calm f.g.nd hN (by rw [ec]; exact hx) (sw_true (by rw [ec]; exact hk) (by rw [ec]; exact hx) ?_ hnn) (pi_tI f) (by have := blkOk_by hb; rw [← f.g.sc] at this; exact this) (fun s H c cl fp => pg_tG (f.blk s H scope c cl fp)) (fun s H c cl fp => pts_tT (f.blk s H scope c cl fp)) (fun s H c cl fp => pe_tE (f.blk s H scope c cl fp)) (hf _)
      exact hln, fun Oc H0 H σ fp hod sat D h1 h2 h3 h4 h5 => ev_lc (W := W) l enc h p hi hv hz hfl he Oc H0 H σ fp (hod.up sat) sat _
      (fun r v H' er ex res => by
        obtain ⟨fp', s'⟩ := sat.set ex res hj
        cases er
        exact h1 _ H' _ fp' hP s') (fun _ _ _ _ er => nomatch er)⟩
end
end BK
/-! Part D: displays, subscripts, slices, built-ins. -/
namespace BK
open PySem PySem.Spec PyProof.Rows L2
section
variable {C : Ctx} {S : List Slot} {P P' : Post} {e a b : Expr} {es : List Expr} {o : Out} {r : R} {d : D} {ds : List D} {lv : Bool} {pos pos' : Pos} {x y : Bool} {i j : Int}
/-! ### displays -/
theorem sz_le {n : Nat} (h : n ≤ 1000000) : n ≤ sizeLine := Nat.le_of_lt (sz_lt h)
theorem de_tup {k : Nat} (h : DA C lv es S ds) (hf : lv = true ∨ ∀ d ∈ ds, Flat d) (hz : ds.length ≤ 1000000) : DE C (.Tuple es k pos) S (.ok (.val (.tup ds))) :=
  .mk fun W => ⟨tTup (tA C es W), fun r f => pe_tup (pa_tA f), fun Oc H0 H σ fp hod sat Q hq hx => h W Oc H0 H σ fp hod sat _ fun vs H1 e1 reps =>
    ⟨by rw [reps.length]; exact sz_le hz, fun p hp => hq _ _ _ rfl (e1.trans (Ex.new hp)) (.tup upd_same (by
      rcases hf with rfl | hf
      · exact reps.mono (Ex.new hp)
      · exact (reps.flat hf).mono (Ex.new hp)))⟩⟩
theorem de_lst (h : DA C lv es S ds) (hf : lv = true ∨ ∀ d ∈ ds, Flat d) (hz : ds.length ≤ 1000000) : DE C (.List es pos) S (.ok (.own ds)) :=
  .mk fun W => ⟨tLst (tA C es W), fun r f => pe_lst (pa_tA f), fun Oc H0 H σ fp hod sat Q hq hx => h W Oc H0 H σ fp hod sat _ fun vs H1 e1 reps =>
    ⟨by rw [reps.length]; exact sz_le hz, fun p hp => hq _ _ _ rfl (e1.trans (Ex.new hp)) ⟨p, vs, rfl, e1.back hp, upd_same, by
      have q : Reps C.M.K H1 (Ow Oc fp) vs ds := by
        rcases hf with rfl | hf
        · exact reps
        · exact reps.flat hf
      exact q.step (Ex.new hp) fun a z => z.imp id fun z => by rw [z]; exact hp⟩⟩⟩
theorem de_nil : DE C (.List [] pos) S (.ok (.own [])) := de_lst (lv := true) da_nil (.inl rfl) (Nat.zero_le _)
theorem de_dic0 : DE C (.Dict [] [] pos) S (.ok (.ownD [])) :=
  .mk fun W => ⟨tDNewK, fun r f => pe_dnewK, fun Oc H0 H σ fp hod sat Q hq hx => fun p hp => hq _ _ _ rfl (Ex.new hp) ⟨p, rfl, hp, upd_same⟩⟩

/-! ### subscripts -/
theorem atI_reps {K : PySem.W.Frag} {H : Hp} {O : Addr → Prop} {vs : List V} {k : Int} (h : Reps K H O vs ds) (hk : atI ds k = some d) : ∃ v, atI vs k = some v ∧ Rep K H O v d := by
  unfold atI at hk ⊢
  rw [h.length]
  cases e : ixN ds.length k with
  | none => rw [e] at hk; cases hk
  | some n =>
    rw [e] at hk
    exact h.getD hk
theorem dl_ixL {k : Int} (ha : DL C lv a S (.lst ds)) (hb : DI C b S k) (hk : atI ds k = some d) (hs : PlainIx b) : DL C lv (.Subscript a b pos) S d := fun W Oc H0 H σ fp hod sat Q hq =>
  ⟨tOp (rIxL C.M.K) (tE C a W) (tE C b W), fun r f => pe_ix ix_list (pe_tE f) (pe_tE f) hs, ha W Oc H0 H σ fp hod sat _ fun v H1 e1 rep => hb W Oc H0 H1 σ fp (hod.ex e1) (sat.mono e1) _ (fun r w H2 er e2 res => by
    cases er; cases res
    cases rep with
    | lst n hl rs =>
      obtain ⟨v, hv, rv⟩ := atI_reps (rs.mono e2) hk
      exact ⟨_, _, k, v, rfl, rfl, .inl (.inl (e2 _ _ hl)), hv, hq v H2 (e1.trans e2) rv⟩) (fun _ _ _ _ er => nomatch er)⟩
theorem dl_ixT {k : Int} (ha : DL C lv a S (.tup ds)) (hb : DI C b S k) (hk : atI ds k = some d) (hs : PlainIx b) : DL C lv (.Subscript a b pos) S d := fun W Oc H0 H σ fp hod sat Q hq =>
  ⟨tOp (rIxT C.M.K) (tE C a W) (tE C b W), fun r f => pe_ix ix_tup (pe_tE f) (pe_tE f) hs, ha W Oc H0 H σ fp hod sat _ fun v H1 e1 rep => hb W Oc H0 H1 σ fp (hod.ex e1) (sat.mono e1) _ (fun r w H2 er e2 res => by
    cases er; cases res
    cases rep with
    | tup hl rs =>
      obtain ⟨v, hv, rv⟩ := atI_reps (rs.mono e2) hk
      exact ⟨_, _, k, v, rfl, rfl, .inl (.inl (e2 _ _ hl)), hv, hq v H2 (e1.trans e2) rv⟩) (fun _ _ _ _ er => nomatch er)⟩
theorem de_ixS {k : Int} {z : Str} {c : Nat} (ha : DE C a S (.ok (.val (.str z)))) (hb : DI C b S k) (hz : z.length ≤ 1000000) (hk : atI z.cps.toList k = some c) (hs : PlainIx b) : DE C (.Subscript a b pos) S (.ok (.val (.str ⟨#[c]⟩))) :=
  .mk fun W => ⟨tOp rIxS (tE C a W) (tE C b W), fun r f => pe_ix ix_str (pe_tE f) (pe_tE f) hs, fun Oc H0 H σ fp hod sat Q hq hx => ha W Oc H0 H σ fp hod sat _ (fun r v H1 er e1 res => by
    cases er; cases res
    exact hb W Oc H0 H1 σ fp (hod.ex e1) (sat.mono e1) _ (fun r w H2 er e2 res => by
      cases er; cases res
      exact ⟨z, k, c, rfl, rfl, sz_le hz, hk, hq _ _ H2 rfl (e1.trans e2) (.str _)⟩) (fun _ _ _ _ er => nomatch er)) (fun _ _ _ _ er => nomatch er)⟩
theorem de_ixScr {k n : Int} {ns : List Int} (ha : DL C false a S (.scr ns)) (hb : DI C b S k) (hk : atI ns k = some n) (hs : PlainIx b) : DI C (.Subscript a b pos) S n :=
  .mk fun W => ⟨tOp (rIxL C.M.K) (tE C a W) (tE C b W), fun r f => pe_ix ix_list (pe_tE f) (pe_tE f) hs, fun Oc H0 H σ fp hod sat Q hq hx => ha W Oc H0 H σ fp hod sat _ fun v H1 e1 rep => hb W Oc H0 H1 σ fp (hod.ex e1) (sat.mono e1) _ (fun r w H2 er e2 res => by
      cases er; cases res
      cases rep with
      | scr hl =>
        refine ⟨_, _, k, .int n, rfl, rfl, (hl.ex e2).sqL, ?_, hq _ _ H2 rfl (e1.trans e2) (.int _)⟩
        unfold atI at hk ⊢
        rw [List.length_map]
        cases e : ixN ns.length k with
        | none => rw [e] at hk; cases hk
        | some m =>
          rw [e] at hk
          show (ns.map V.int)[m]? = _
          rw [List.getElem?_map, show ns[m]? = some n from hk]; rfl) (fun _ _ _ _ er => nomatch er)⟩

/-! ### slices -/
def DO (C : Ctx) (oe : Option Expr) (S : List Slot) (k : Option Int) : Prop := ∀ W, ∃ t, (∀ r, Fam C W r → PO (C.x r) oe t) ∧ ∀ Oc H0 H σ fp, There Oc H → Sat C.M.K Oc H0 H σ S fp → ∀ Q : Option Int → Hp → Prop, (∀ H', Ex H H' → Q k H') → t σ H Q
theorem do_none : DO C none S none := fun W => ⟨tNoPart, fun _ _ => po_none, fun Oc H0 H σ fp hod sat Q hq => hq H (Ex.refl H)⟩
theorem do_some (h : DI C e S i) : DO C (some e) S (some i) := fun W => ⟨tPart (tE C e W), fun r f => po_some (pe_tE f), fun Oc H0 H σ fp hod sat Q hq => h W Oc H0 H σ fp hod sat _ (fun r v H1 er e1 res => by cases er; cases res; exact ⟨i, rfl, hq H1 e1⟩) (fun _ _ _ _ er => nomatch er)⟩
def cutG {α : Type} (xs : List α) (lo hi : Option Int) : List α := (xs.drop (HT.sIx xs.length 0 lo)).take (HT.sIx xs.length xs.length hi - HT.sIx xs.length 0 lo)
theorem Reps.cut {K : PySem.W.Frag} {H : Hp} {O : Addr → Prop} {vs : List V} (h : Reps K H O vs ds) (lo hi : Option Int) : Reps K H O (cutV vs lo hi) (cutG ds lo hi) := by
  unfold cutV cutG
  rw [h.length]
  exact (h.drop _).take _
theorem cutG_len {α : Type} (xs : List α) (lo hi : Option Int) : (cutG xs lo hi).length ≤ xs.length := by
  unfold cutG
  rw [List.length_take, List.length_drop]; omega
theorem cutG_mem {α : Type} {xs : List α} {lo hi : Option Int} {x : α} (h : x ∈ cutG xs lo hi) : x ∈ xs := List.mem_of_mem_drop (List.mem_of_mem_take h)
theorem cutG_map {α β : Type} (f : α → β) (xs : List α) (lo hi : Option Int) : cutG (xs.map f) lo hi = (cutG xs lo hi).map f := by
  unfold cutG
  rw [List.length_map, List.map_take, List.map_drop]
theorem cutV_map {α : Type} (f : α → V) (xs : List α) (lo hi : Option Int) : cutV (xs.map f) lo hi = (cutG xs lo hi).map f := by
  unfold cutV cutG
  rw [List.length_map, List.map_take, List.map_drop]
theorem de_slL {p2 : Pos} {lo hi : Option Expr} {k l : Option Int} (ha : DL C lv a S (.lst ds)) (hl : DO C lo S k) (hh : DO C hi S l) (hf : lv = true ∨ ∀ d ∈ ds, Flat d) : DE C (.Subscript a (.Slice lo hi none p2) pos) S (.ok (.own (cutG ds k l))) :=
  .mk fun W => by
    obtain ⟨t1, p1, q1⟩ := hl W
    obtain ⟨t2, p2, q2⟩ := hh W
    exact ⟨tSl (rSlL C.M.K) (tE C a W) t1 t2, fun r f => pe_slice sl_list (pe_tE f) (p1 r f) (p2 r f), fun Oc H0 H σ fp hod sat Q hq hx => ha W Oc H0 H σ fp hod sat _ fun v H1 e1 rep =>
      q1 Oc H0 H1 σ fp (hod.ex e1) (sat.mono e1) _ fun H2 e2 => q2 Oc H0 H2 σ fp (hod.ex (e1.trans e2)) (sat.mono (e1.trans e2)) _ fun H3 e3 => by
        cases rep with
        | @lst _ vs0 _ n hla rs =>
          refine ⟨_, _, rfl, .inl (.inl (e3 _ _ (e2 _ _ hla))), fun p hp => hq _ _ _ rfl (((e1.trans e2).trans e3).trans (Ex.new hp)) ⟨p, _, rfl, ((e1.trans e2).trans e3).back hp, upd_same, ?_⟩⟩
          have q := (rs.mono (e2.trans e3)).cut k l
          have q' : Reps C.M.K H3 (Ow Oc fp) (cutV vs0 k l) (cutG ds k l) := by
            rcases hf with rfl | hf
            · exact q
            · exact q.flat fun d hd => hf d (cutG_mem hd)
          exact q'.step (Ex.new hp) fun a z => z.imp id fun z => by rw [z]; exact hp⟩
theorem de_slScr {p2 : Pos} {lo hi : Option Expr} {k l : Option Int} {ns : List Int} (ha : DL C false a S (.scr ns)) (hl : DO C lo S k) (hh : DO C hi S l) : DE C (.Subscript a (.Slice lo hi none p2) pos) S (.ok (.own ((cutG ns k l).map D.int))) :=
  .mk fun W => by
    obtain ⟨t1, p1, q1⟩ := hl W
    obtain ⟨t2, p2, q2⟩ := hh W
    exact ⟨tSl (rSlL C.M.K) (tE C a W) t1 t2, fun r f => pe_slice sl_list (pe_tE f) (p1 r f) (p2 r f), fun Oc H0 H σ fp hod sat Q hq hx => ha W Oc H0 H σ fp hod sat _ fun v H1 e1 rep =>
      q1 Oc H0 H1 σ fp (hod.ex e1) (sat.mono e1) _ fun H2 e2 => q2 Oc H0 H2 σ fp (hod.ex (e1.trans e2)) (sat.mono (e1.trans e2)) _ fun H3 e3 => by
        cases rep with
        | scr hl =>
          refine ⟨_, _, rfl, ((hl.ex e2).ex e3).sqL, fun p hp => hq _ _ _ rfl (((e1.trans e2).trans e3).trans (Ex.new hp)) ⟨p, _, rfl, ((e1.trans e2).trans e3).back hp, upd_same, ?_⟩⟩
          rw [cutV_map]; exact Reps.ints _⟩
theorem de_slS {p2 : Pos} {lo hi : Option Expr} {k l : Option Int} {z : Str} (ha : DE C a S (.ok (.val (.str z)))) (hl : DO C lo S k) (hh : DO C hi S l) (hz : z.length ≤ 1000000) : DE C (.Subscript a (.Slice lo hi none p2) pos) S (.ok (.val (.str (cutS z k l)))) :=
  .mk fun W => by
    obtain ⟨t1, p1, q1⟩ := hl W
    obtain ⟨t2, p2, q2⟩ := hh W
    exact ⟨tSl rSlS (tE C a W) t1 t2, fun r f => pe_slice sl_str (pe_tE f) (p1 r f) (p2 r f), fun Oc H0 H σ fp hod sat Q hq hx => ha W Oc H0 H σ fp hod sat _ (fun r v H1 er e1 res => by
      cases er; cases res
      exact q1 Oc H0 H1 σ fp (hod.ex e1) (sat.mono e1) _ fun H2 e2 => q2 Oc H0 H2 σ fp (hod.ex (e1.trans e2)) (sat.mono (e1.trans e2)) _ fun H3 e3 => ⟨z, rfl, sz_le hz, hq _ _ H3 rfl ((e1.trans e2).trans e3) (.str _)⟩) (fun _ _ _ _ er => nomatch er)⟩

/-! ### lists, texts by operators -/
theorem op2_cat {K : PySem.W.Frag} {es : List D} (hz : ds.length + es.length ≤ 1000000) : Op2 K rCat (.lst ds) (.lst es) (.own (ds ++ es)) := fun A H x y Q hA rx ry hq => by
  cases rx with
  | lst n hl rs => cases ry with
    | lst n2 hl2 rs2 =>
      refine ⟨_, _, _, _, rfl, rfl, hl, hl2, by rw [rs.length, rs2.length]; exact sz_le hz, fun p hp => hq _ _ (Ex.new hp) ⟨p, _, rfl, hp, upd_same, ?_⟩⟩
      exact (rs.app rs2).step (Ex.new hp) fun a z => z.imp id fun z => by rw [z]; exact hp
theorem de_cat {es : List D} (ha : DL C lv a S (.lst ds)) (hb : DL C lv b S (.lst es)) (hz : ds.length + es.length ≤ 1000000) (hf : lv = true ∨ ∀ d ∈ ds ++ es, Flat d) : DE C (.BinOp a .Add b pos) S (.ok (.own (ds ++ es))) := de_op (fun _ _ => op_cat) ha hb (op2_cat hz) hf
theorem op2_catS {K : PySem.W.Frag} {s t : Str} (hz : s.length + t.length ≤ 1000000) : Op2 K (fun x y H Q => ∃ i j, x = .str i ∧ y = .str j ∧ i.length + j.length ≤ sizeLine ∧ Q (.str (i ++ j)) H) (.str s) (.str t) (.val (.str (s ++ t))) := fun A H x y Q hA rx ry hq => by
  cases rx; cases ry
  exact ⟨s, t, rfl, rfl, sz_le hz, hq _ H (Ex.refl H) (.str _)⟩
theorem de_catS {s t : Str} (ha : DE C a S (.ok (.val (.str s)))) (hb : DE C b S (.ok (.val (.str t)))) (hz : s.length + t.length ≤ 1000000) : DE C (.BinOp a .Add b pos) S (.ok (.val (.str (s ++ t)))) := de_op (lv := false) (fun _ _ => op_add_str) (dl_val ha) (dl_val hb) (op2_catS hz) (.inr (.str _))
theorem rep_reps {K : PySem.W.Frag} {H : Hp} {O : Addr → Prop} {vs : List V} (h : Reps K H O vs ds) : ∀ n, Reps K H O (List.replicate n vs).flatten (List.replicate n ds).flatten
  | 0 => .nil
  | n + 1 => by
    rw [List.replicate_succ, List.replicate_succ, List.flatten_cons, List.flatten_cons]
    exact h.app (rep_reps h n)

/-! ### in, not in a written tuple -/
theorem none_sqT {K : PySem.W.Frag} {H : Hp} {a : Addr} {xs : List V} (h : SqT K (fun _ => none) a xs) : SqT K H a xs := by
  rcases h with (h | ⟨_, h⟩) | h
  · exact nomatch h
  · exact nomatch h
  · exact .inr h
theorem op2_inK {K : PySem.W.Frag} {xs : List V} {v : V} (ea : d.sc = some v) : Op2 K (rIn K false) d (.ktup xs) (.val (.bl (inV v xs))) := fun A H x y Q hA rx ry hq => by
  have := rx.scal ea
  subst this
  have fv : flatV x = true := by cases rx <;> first | rfl | cases ea
  cases ry with
  | ktup hs hf => exact ⟨_, xs, rfl, .inr (none_sqT hs), fv, hf, hq _ H (Ex.refl H) (.bl _)⟩
theorem op2_notInK {K : PySem.W.Frag} {xs : List V} {v : V} (ea : d.sc = some v) : Op2 K (rIn K true) d (.ktup xs) (.val (.bl (!inV v xs))) := fun A H x y Q hA rx ry hq => by
  have := rx.scal ea
  subst this
  have fv : flatV x = true := by cases rx <;> first | rfl | cases ea
  cases ry with
  | ktup hs hf => exact ⟨_, xs, rfl, .inr (none_sqT hs), fv, hf, hq _ H (Ex.refl H) (.bl _)⟩

/-! ### built-ins -/
theorem reps1 {K : PySem.W.Frag} {H : Hp} {O : Addr → Prop} {vs : List V} (h : Reps K H O vs [d]) : ∃ v, vs = [v] ∧ Rep K H O v d := by
  cases h with
  | cons h r => cases r; exact ⟨_, rfl, h⟩
theorem reps2 {K : PySem.W.Frag} {H : Hp} {O : Addr → Prop} {vs : List V} {d2 : D} (h : Reps K H O vs [d, d2]) : ∃ v w, vs = [v, w] ∧ Rep K H O v d ∧ Rep K H O w d2 := by
  cases h with
  | cons h r => cases r with
    | cons h2 r => cases r; exact ⟨_, _, rfl, h, h2⟩
theorem boot_max : bootBuiltins "max" = some (.builtin "max") := by decide +kernel
theorem boot_min : bootBuiltins "min" = some (.builtin "min") := by decide +kernel
theorem boot_abs : bootBuiltins "abs" = some (.builtin "abs") := by decide +kernel
theorem boot_sum : bootBuiltins "sum" = some (.builtin "sum") := by decide +kernel
theorem boot_list : bootBuiltins "list" = some (.type "list") := by decide +kernel
theorem boot_int : bootBuiltins "int" = some (.type "int") := by decide +kernel
theorem boot_str : bootBuiltins "str" = some (.type "str") := by decide +kernel
theorem boot_isinstance : bootBuiltins "isinstance" = some (.builtin "isinstance") := by decide +kernel
theorem boot_sorted : bootBuiltins "sorted" = some (.builtin "sorted") := by decide +kernel
theorem de_len {p : Pos} (hg : GlC C "len") (hm : C.M.mg "len" = none) (ha : DL C false a S (.lst ds)) (hs : ∀ env, starEach (a :: []) env = (false, eval a env) :: starEach [] env := by intro _; rfl) : DE C (.Call (.Name "len" p) [a] [] pos) S (.ok (.val (.int (ds.length : Nat)))) := by
  refine de_callB (lv := false) (rc := (fun xs H Q => ∃ p ys, xs = [.ref p] ∧ (SqL C.M.K H p ys ∨ SqT C.M.K H p ys) ∧ Q (.int ys.length) H)) (r := .val (.int (ds.length : Nat))) (fun _ _ => call_len_seq) hg hm PySem.boot_len (by decide) (by decide) (da_cons ha da_nil hs) (fun A H vs Q hA reps hq => ?_) (.inr (.int _)) hs (fun _ => rfl)
  obtain ⟨v, rfl, rep⟩ := reps1 reps
  cases rep with
  | lst n hl rs => exact ⟨_, _, rfl, .inl (.inl (.inl hl)), by rw [rs.length]; exact hq _ H (Ex.refl H) (.int _)⟩
theorem de_lenScr {p : Pos} {ns : List Int} (hg : GlC C "len") (hm : C.M.mg "len" = none) (ha : DL C false a S (.scr ns)) (hs : ∀ env, starEach (a :: []) env = (false, eval a env) :: starEach [] env := by intro _; rfl) : DE C (.Call (.Name "len" p) [a] [] pos) S (.ok (.val (.int (ns.length : Nat)))) := by
  refine de_callB (lv := false) (rc := (fun xs H Q => ∃ p ys, xs = [.ref p] ∧ (SqL C.M.K H p ys ∨ SqT C.M.K H p ys) ∧ Q (.int ys.length) H)) (r := .val (.int (ns.length : Nat))) (fun _ _ => call_len_seq) hg hm PySem.boot_len (by decide) (by decide) (da_cons ha da_nil hs) (fun A H vs Q hA reps hq => ?_) (.inr (.int _)) hs (fun _ => rfl)
  obtain ⟨v, rfl, rep⟩ := reps1 reps
  cases rep with
  | scr hl => exact ⟨_, _, rfl, .inl hl.sqL, by rw [List.length_map]; exact hq _ H (Ex.refl H) (.int _)⟩
theorem de_lenT {p : Pos} (hg : GlC C "len") (hm : C.M.mg "len" = none) (ha : DL C false a S (.tup ds)) (hs : ∀ env, starEach (a :: []) env = (false, eval a env) :: starEach [] env := by intro _; rfl) : DE C (.Call (.Name "len" p) [a] [] pos) S (.ok (.val (.int (ds.length : Nat)))) := by
  refine de_callB (lv := false) (rc := (fun xs H Q => ∃ p ys, xs = [.ref p] ∧ (SqL C.M.K H p ys ∨ SqT C.M.K H p ys) ∧ Q (.int ys.length) H)) (r := .val (.int (ds.length : Nat))) (fun _ _ => call_len_seq) hg hm PySem.boot_len (by decide) (by decide) (da_cons ha da_nil hs) (fun A H vs Q hA reps hq => ?_) (.inr (.int _)) hs (fun _ => rfl)
  obtain ⟨v, rfl, rep⟩ := reps1 reps
  cases rep with
  | tup hl rs => exact ⟨_, _, rfl, .inr (.inl (.inl hl)), by rw [rs.length]; exact hq _ H (Ex.refl H) (.int _)⟩
theorem de_lenS {p : Pos} {z : Str} (hg : GlC C "len") (hm : C.M.mg "len" = none) (ha : DE C a S (.ok (.val (.str z)))) (hz : z.length ≤ 1000000) (hs : ∀ env, starEach (a :: []) env = (false, eval a env) :: starEach [] env := by intro _; rfl) : DE C (.Call (.Name "len" p) [a] [] pos) S (.ok (.val (.int (z.length : Nat)))) := by
  refine de_callB (lv := false) (rc := (fun xs H Q => ∃ z, xs = [.str z] ∧ z.length ≤ sizeLine ∧ Q (.int z.length) H)) (r := .val (.int (z.length : Nat))) (fun _ _ => call_len_str) hg hm PySem.boot_len (by decide) (by decide) (da_cons (dl_val ha) da_nil hs) (fun A H vs Q hA reps hq => ?_) (.inr (.int _)) hs (fun _ => rfl)
  obtain ⟨v, rfl, rep⟩ := reps1 reps
  cases rep
  exact ⟨z, rfl, sz_le hz, hq _ H (Ex.refl H) (.int _)⟩
theorem de_max {p : Pos} (hg : GlC C "max") (hm : C.M.mg "max" = none) (ha : DI C a S i) (hb : DI C b S j) (hs : ∀ env, starEach (a :: [b]) env = (false, eval a env) :: starEach [b] env := by intro _; rfl) (hs2 : ∀ env, starEach (b :: []) env = (false, eval b env) :: starEach [] env := by intro _; rfl) (hpl : ∀ env, (backTo pos (starEach [b] env)).any (·.1) = false := by intro _; rfl) : DE C (.Call (.Name "max" p) [a, b] [] pos) S (.ok (.val (.int (max i j)))) := by
  refine de_callB (lv := false) (rc := (fun xs H Q => ∃ i j, xs = [.int i, .int j] ∧ Q (.int (if j > i then j else i)) H)) (r := .val (.int (max i j))) (fun _ g => call_max2 g.calm) hg hm boot_max (by decide) (by decide) (da_cons (dl_val ha) (da_cons (dl_val hb) da_nil hs2) hs) (fun A H vs Q hA reps hq => ?_) (.inr (.int _)) hs hpl
  obtain ⟨v, w, rfl, r1, r2⟩ := reps2 reps
  cases r1; cases r2
  refine ⟨i, j, rfl, ?_⟩
  have e : (if j > i then j else i) = max i j := by split <;> omega
  rw [e]; exact hq _ H (Ex.refl H) (.int _)
theorem de_min {p : Pos} (hg : GlC C "min") (hm : C.M.mg "min" = none) (ha : DI C a S i) (hb : DI C b S j) (hs : ∀ env, starEach (a :: [b]) env = (false, eval a env) :: starEach [b] env := by intro _; rfl) (hs2 : ∀ env, starEach (b :: []) env = (false, eval b env) :: starEach [] env := by intro _; rfl) (hpl : ∀ env, (backTo pos (starEach [b] env)).any (·.1) = false := by intro _; rfl) : DE C (.Call (.Name "min" p) [a, b] [] pos) S (.ok (.val (.int (min i j)))) := by
  refine de_callB (lv := false) (rc := (fun xs H Q => ∃ i j, xs = [.int i, .int j] ∧ Q (.int (if j < i then j else i)) H)) (r := .val (.int (min i j))) (fun _ g => call_min2 g.calm) hg hm boot_min (by decide) (by decide) (da_cons (dl_val ha) (da_cons (dl_val hb) da_nil hs2) hs) (fun A H vs Q hA reps hq => ?_) (.inr (.int _)) hs hpl
  obtain ⟨v, w, rfl, r1, r2⟩ := reps2 reps
  cases r1; cases r2
  refine ⟨i, j, rfl, ?_⟩
  have e : (if j < i then j else i) = min i j := by split <;> omega
  rw [e]; exact hq _ H (Ex.refl H) (.int _)
theorem de_abs {p : Pos} (hg : GlC C "abs") (hm : C.M.mg "abs" = none) (ha : DI C a S i) (hs : ∀ env, starEach (a :: []) env = (false, eval a env) :: starEach [] env := by intro _; rfl) : DE C (.Call (.Name "abs" p) [a] [] pos) S (.ok (.val (.int (if i < 0 then -i else i)))) := by
  refine de_callB (lv := false) (rc := (fun xs H Q => ∃ i, xs = [.int i] ∧ Q (.int (if i < 0 then -i else i)) H)) (r := .val (.int (if i < 0 then -i else i))) (fun _ _ => call_abs) hg hm boot_abs (by decide) (by decide) (da_cons (dl_val ha) da_nil hs) (fun A H vs Q hA reps hq => ?_) (.inr (.int _)) hs (fun _ => rfl)
  obtain ⟨v, rfl, rep⟩ := reps1 reps
  cases rep
  exact ⟨i, rfl, hq _ H (Ex.refl H) (.int _)⟩
theorem de_sum {p : Pos} {ns : List Int} (hg : GlC C "sum") (hm : C.M.mg "sum" = none) (ha : DL C false a S (.lst (ns.map D.int))) (hs : ∀ env, starEach (a :: []) env = (false, eval a env) :: starEach [] env := by intro _; rfl) : DE C (.Call (.Name "sum" p) [a] [] pos) S (.ok (.val (.int ns.sum))) := by
  refine de_callB (lv := false) (rc := (rSum C.M.K)) (r := .val (.int ns.sum)) (fun _ g => cr_sum g.calm) hg hm boot_sum (by decide) (by decide) (da_cons ha da_nil hs) (fun A H vs Q hA reps hq => ?_) (.inr (.int _)) hs (fun _ => rfl)
  obtain ⟨v, rfl, rep⟩ := reps1 reps
  cases rep with
  | lst n hl rs => rw [rs.to_ints] at hl; exact ⟨_, ns, rfl, .inl (.inl hl), hq _ H (Ex.refl H) (.int _)⟩
theorem de_list {p : Pos} (hg : GlC C "list") (hm : C.M.mg "list" = none) (ha : DL C lv a S (.lst ds)) (hf : lv = true ∨ ∀ d ∈ ds, Flat d) (hs : ∀ env, starEach (a :: []) env = (false, eval a env) :: starEach [] env := by intro _; rfl) : DE C (.Call (.Name "list" p) [a] [] pos) S (.ok (.own ds)) := by
  refine de_callTy (lv := lv) (rc := (fun xs H Q => ∃ p ys, xs = [.ref p] ∧ (SqL C.M.K H p ys ∨ SqT C.M.K H p ys) ∧ ∀ l, H l = none → Q (.ref l) (upd H l (.lst ys)))) (r := .own ds) (fun _ _ => call_list_of) hg hm boot_list (by decide) (by decide) (da_cons ha da_nil hs) (fun A H vs Q hA reps hq => ?_) (hf) hs (fun _ => rfl)
  obtain ⟨v, rfl, rep⟩ := reps1 reps
  cases rep with
  | lst n hl rs => exact ⟨_, _, rfl, .inl (.inl (.inl hl)), fun p hp => hq _ _ (Ex.new hp) ⟨p, _, rfl, hp, upd_same, rs.step (Ex.new hp) fun a z => z.imp id fun z => by rw [z]; exact hp⟩⟩
theorem de_intB {p : Pos} {k : Bool} (hg : GlC C "int") (hm : C.M.mg "int" = none) (ha : DB C a S k) (hs : ∀ env, starEach (a :: []) env = (false, eval a env) :: starEach [] env := by intro _; rfl) : DE C (.Call (.Name "int" p) [a] [] pos) S (.ok (.val (.int (if k then 1 else 0)))) := by
  refine de_callTy (lv := false) (rc := (fun xs H Q => (∃ i, xs = [.int i] ∧ Q (.int i) H) ∨ ∃ k, xs = [.bl k] ∧ Q (.int (if k then 1 else 0)) H)) (r := .val (.int (if k then 1 else 0))) (fun _ _ => call_int1) hg hm boot_int (by decide) (by decide) (da_cons (dl_val ha) da_nil hs) (fun A H vs Q hA reps hq => ?_) (.inr (.int _)) hs (fun _ => rfl)
  obtain ⟨v, rfl, rep⟩ := reps1 reps
  cases rep
  exact .inr ⟨k, rfl, hq _ H (Ex.refl H) (.int _)⟩
theorem de_strI {p : Pos} (hg : GlC C "str") (hm : C.M.mg "str" = none) (ha : DI C a S i) (hz : i.natAbs.log2 < 1920) (hs : ∀ env, starEach (a :: []) env = (false, eval a env) :: starEach [] env := by intro _; rfl) : DE C (.Call (.Name "str" p) [a] [] pos) S (.ok (.val (.str (toString i)))) := by
  refine de_callTy (lv := false) (rc := (fun xs H Q => ∃ i, xs = [.int i] ∧ i.natAbs.log2 < 1920 ∧ Q (.str (toString i)) H)) (r := .val (.str (toString i))) (fun _ _ => call_str_int) hg hm boot_str (by decide) (by decide) (da_cons (dl_val ha) da_nil hs) (fun A H vs Q hA reps hq => ?_) (.inr (.str _)) hs (fun _ => rfl)
  obtain ⟨v, rfl, rep⟩ := reps1 reps
  cases rep
  exact ⟨i, rfl, hz, hq _ H (Ex.refl H) (.str _)⟩
/-- isinstance(x, T), T a built-in class -/
def D.ty : D → Option String
  | .non => some "NoneType"
  | .bl _ => some "bool"
  | .int _ => some "int"
  | .str _ => some "str"
  | .tup _ => some "tuple"
  | .lst _ => some "list"
  | .dic _ => some "dict"
  | _ => none
theorem Rep.tyX {K : PySem.W.Frag} {H : Hp} {O : Addr → Prop} {v : V} {n : String} (h : Rep K H O v d) (e : d.ty = some n) : TyX K H v (.type n) := by
  cases h with
  | non => cases e; exact .base .non
  | bl b => cases e; exact .base (.bl b)
  | int b => cases e; exact .base (.int b)
  | str b => cases e; exact .base (.str b)
  | tup h r => cases e; exact .base (.tup h)
  | lst n h r => cases e; exact .base (.lst h)
  | dic n h => cases e; exact .base (.dK h)
  | ktup h => cases e
  | scr h => cases e
  | exc0 h => cases e
  | exc1 h => cases e
theorem de_isi {p q : Pos} {tn : Str} {T n : String} (hg : GlC C "isinstance") (hm : C.M.mg "isinstance" = none) (hg2 : GlC C tn) (hm2 : C.M.mg tn = none) (hv : bootBuiltins tn = some (.type T)) (hn : tn ≠ "__name__") (hdb : (tn == ("__debug__" : Str)) = false) (ha : DL C false a S d) (he : d.ty = some n) (hk : kitB n T = some x)
    (hs : ∀ env, starEach (a :: [.Name tn q]) env = (false, eval a env) :: starEach [.Name tn q] env := by intro _; rfl) : DB C (.Call (.Name "isinstance" p) [a, .Name tn q] [] pos) S x :=
  .mk fun W => ⟨tCB (rIsi C.M.K) (tCons (tE C a W) (tCons (tC (.ty T)) tNil)), fun r f => pe_callB call_isi (hg.gl f.g) hm boot_isinstance (pa_cons (pe_tE f) (pa_cons (pe_bltn (v := .ty T) (hg2.gl f.g) hm2 hv rfl hn hdb) pa_nil) (hs _)) (by decide) (by decide) (hs _) rfl,
    fun Oc H0 H σ fp hod sat Q hq hx => ha W Oc H0 H σ fp hod sat _ fun v H1 e1 rep => ⟨v, .ty T, .type n, .type T, x, rfl, .ty T, rep.tyX he, kit_ty hk, hq _ _ H1 rfl e1 (.bl _)⟩⟩
end
end BK
/-! Part E: a def keeps its promise. -/
namespace BK
open PySem PySem.Spec PyProof.Rows L2
def startS (N : List Str) (ds : List D) : List Slot := ds.map Slot.val ++ List.replicate (N.length - ds.length) .any
def postOf (o : Out) : Post := { nx := fun _ => o = .ok (.val .non), rt := fun r => o = .ok r, ex := fun e _ => o = .error e }
theorem sat_start {K : PySem.W.Frag} {Oc : Addr → Prop} {H : Hp} {N : List Str} {vs : List V} {ds : List D} (r : Reps K H Oc vs ds) (hl : ds.length ≤ N.length) : Sat K Oc H H (L2.start N vs) (startS N ds) (fun _ => []) where
  len := by unfold L2.start startS; simp [r.length]
  slot := fun i s e => by
    unfold startS at e
    by_cases hi : i < ds.length
    · rw [List.getElem?_append_left (by rw [List.length_map]; exact hi), List.getElem?_map, List.getElem?_eq_getElem hi] at e
      cases e
      obtain ⟨v, hv, rv⟩ := r.getD (List.getElem?_eq_getElem hi)
      refine ⟨rfl, v, ?_, rv.less fun a z => z.elim id fun ⟨_, q⟩ => by cases q⟩
      unfold L2.start
      rw [List.getD_eq_getElem?_getD, List.getElem?_append_left (by rw [List.length_map, r.length]; exact hi), List.getElem?_map, hv]; rfl
    · rw [List.getElem?_append_right (by rw [List.length_map]; omega), List.getElem?_replicate] at e
      split at e
      · cases e; exact rfl
      · cases e
  out := fun _ _ => rfl
  dis := fun i j a h => by cases h
  fr := fun i a h => by cases h
  ex := Ex.refl H
theorem fn_data {M : Mo} {x qual : Str} {st : Stmt} {f : Addr} {fd : FuncData} {N ps : List Str} {Fd : List D → Out → Prop} (F : Fun M.K x qual st f fd) (S : FnScope N ps (defScope st)) (hlen : ∀ ds o, Fd ds o → ds.length = ps.length)
    (hb : ∀ ds o, Fd ds o → DSs ⟨M, N, defScope st, true⟩ (defBody st) (startS N ds) (postOf o)) : FnOk M.P M.w M.K M.mg M.base (L2.CX M.P M.w) (M.k + 1) f fd ps (spOf M.K Fd) := by
  have hpl : ps.length ≤ N.length := by have := congrArg List.length S.pre; rw [List.length_take] at this; omega
  refine F.okX S (fun vs H Q E h => ?_) (fun cdv A outer s H vs Q E hr h => ?_)
  · obtain ⟨Oc, ds, o, _, r, hF, _⟩ := h
    rw [r.length, hlen ds o hF]
  · obtain ⟨Oc, ds, o, hod, r, hF, hq, hx⟩ := h
    let C : Ctx := ⟨M, N, defScope st, true⟩
    let W : WX := fun cls d _ H => E cls d H
    refine ⟨tSs C (defBody st) W, ?_, ?_⟩
    · exact pss_tSs (C := C) (r := { A := A.deeper (envOfC qual (defScope st) s.heap.objs.size f cdv), s_0 := s, H_0 := H, env := envOfC qual (defScope st) s.heap.objs.size f cdv, outer := outer, stack := envOfC qual (defScope st) s.heap.objs.size f cdv :: outer, ex := [], fn := fun _ => true, calm := true, pn := [], xe := _ }) ⟨⟨rfl, rfl, hr, S.nd, .inl fun _ => rfl, fun _ => ⟨rfl, rfl, rfl, passes_of (X := cxOf (L2.CX M.P M.w) M.P M.w M.K M.mg M.base N qual (defScope st) f cdv A outer s H E) rfl⟩⟩, takes_of rfl rfl rfl rfl⟩
    · exact hb ds o hF W Oc H H _ _ hod (sat_start r (by rw [hlen ds o hF]; exact hpl)) _
        (fun S' H' σ' fp' hn sat => hq _ _ H' hn sat.ex .non)
        (fun r v H' hr ex res => hq r v H' hr ex res)
        (fun e cls d H' σ' S' fp' he sat xr => hx e cls d H' he sat.ex xr)
        (fun _ _ _ _ h => h.elim) (fun _ _ _ _ h => h.elim)
abbrev Mo.at (M : Mo) (k : Nat) : Mo := { M with k := k }
theorem Callee.mk' {M : Mo} {x : Str} {f : Addr} {fd : FuncData} {ps : List Str} {F : List D → Out → Prop} {k : Nat} (G : FnOk M.P M.w M.K M.mg M.base (L2.CX M.P M.w) k f fd ps (spOf M.K F)) (hk : k ≤ M.k) (mg : M.mg x = some (.ref f)) (kp : PySem.W.keepIn M.K (.ref f) = true) (b : Binds M.K fd ps []) : Callee M x F :=
  ⟨f, fd, ps, G.mono hk, mg, kp, b⟩
theorem Callee.up {M : Mo} {x : Str} {F : List D → Out → Prop} (h : Callee M x F) {k : Nat} (hk : M.k ≤ k) : Callee (M.at k) x F := by
  obtain ⟨f, fd, ps, G, mg, kp, b⟩ := h.ex
  exact ⟨f, fd, ps, G.mono hk, mg, kp, b⟩
/-- a smaller promise -/
theorem Callee.imp {M : Mo} {x : Str} {F F' : List D → Out → Prop} (h : Callee M x F) (hi : ∀ ds o, F' ds o → F ds o) : Callee M x F' := by
  obtain ⟨f, fd, ps, G, mg, kp, b⟩ := h.ex
  exact ⟨f, fd, ps, G.imp fun vs H Q E ⟨Oc, ds, o, h1, h2, h3, h4, h5⟩ => ⟨Oc, ds, o, h1, h2, hi ds o h3, h4, h5⟩, mg, kp, b⟩
end BK
namespace BK
open PySem PySem.Spec PyProof.Rows L2
def Slot.res : Slot → Option R
  | .any => none
  | .val d => some (.val d)
  | .own ds => some (.rd (.lst ds))
  | .own2 dss => some (.rd (.lst (dss.map .lst)))
  | .ownD kvs => some (.rd (.dic kvs))
def nmB (sc : Scope) (x : Str) : Bool := (match sc.names.lookup x with
  | some .local => true
  | some .cell => true
  | some .free => true
  | _ => false) && !(x == ("__debug__" : Str)) && !(x == ("__classdict__" : Str))
def locB (C : Ctx) (x : Str) : Bool := match C.sc.names.lookup x with
  | some .local => true
  | some .cell => C.top
  | _ => false
def glB (sc : Scope) (x : Str) : Bool := (match sc.names.lookup x with
  | some .globalImplicit => true
  | _ => false) && !(x == ("__debug__" : Str))
section
variable {C : Ctx} {S : List Slot} {P : Post} {e : Expr} {o : Out} {r : R} {d : D} {ds : List D} {lv : Bool} {pos pos' : Pos} {x : Str}
theorem nmB_vis (h : nmB C.sc x = true) : Vis C.sc x ∧ (x == ("__debug__" : Str)) = false ∧ (x == ("__classdict__" : Str)) = false := by
  unfold nmB at h
  rw [Bool.and_eq_true, Bool.and_eq_true] at h
  obtain ⟨⟨h1, h2⟩, h3⟩ := h
  refine ⟨?_, by simpa using h2, by simpa using h3⟩
  split at h1
  · exact .inl (by assumption)
  · exact .inr (.inl (by assumption))
  · exact .inr (.inr (by assumption))
  · cases h1
theorem locB_loc (h : locB C x = true) : LocC C x := by
  unfold locB at h
  split at h
  · exact .inl (by assumption)
  · exact .inr ⟨by assumption, h⟩
  · cases h
theorem glB_gl (h : glB C.sc x = true) : GlC C x ∧ (x == ("__debug__" : Str)) = false := by
  unfold glB at h
  rw [Bool.and_eq_true] at h
  obtain ⟨h1, h2⟩ := h
  refine ⟨?_, by simpa using h2⟩
  split at h1
  · assumption
  · cases h1
theorem idx_get {N : List Str} {i : Nat} (h : N.idxOf? x = some i) : N[i]? = some x := by
  have := List.idxOf?_eq_some_iff.mp h
  obtain ⟨hlt, hx, _⟩ := this
  rw [List.getElem?_eq_getElem hlt]
  exact congrArg some (by simpa using hx)
theorem de_name {i : Nat} (hi : C.N.idxOf? x = some i) (hs : (S[i]?).bind Slot.res = some r) (hv : nmB C.sc x = true) : DE C (.Name x pos) S (.ok r) := by
  obtain ⟨v, h1, h2⟩ := nmB_vis hv
  have hN := idx_get hi
  cases hS : S[i]? with
  | none => rw [hS] at hs; cases hs
  | some s =>
    rw [hS] at hs
    cases s with
    | any => cases hs
    | val d => cases hs; exact de_var i hS hN v h1 h2
    | own d => cases hs; exact de_varO i hS hN v h1 h2
    | own2 d => cases hs; exact de_varO2 i hS hN v h1 h2
    | ownD d => cases hs; exact de_varD i hS hN v h1 h2
theorem dgc_nm {i : Nat} (hi : C.N.idxOf? x = some i) (hx : locB C x = true) (hS : S[i]? = some .any) : DGc C [i] (.Name x pos) S d (S.set i (.val d)) := dgc_name i (idx_get hi) (locB_loc hx) hS
theorem dgc_nm2 {y : Str} {p q : Pos} {k : Nat} {d1 d2 : D} {i j : Nat} (hi : C.N.idxOf? x = some i) (hj : C.N.idxOf? y = some j) (hij : i ≠ j) (hx : locB C x = true) (hy : locB C y = true) (li : S[i]? = some .any) (lj : S[j]? = some .any) :
    DGc C [i, j] (.Tuple [.Name x p, .Name y q] k pos) S (.tup [d1, d2]) ((S.set i (.val d1)).set j (.val d2)) := dgc_tup2 i j hij (idx_get hi) (idx_get hj) (locB_loc hx) (locB_loc hy) li lj
theorem dg_nm {i : Nat} {T : List Slot → Prop} (hi : C.N.idxOf? x = some i) (hx : locB C x = true) (hj : i < S.length) (h : T (S.set i (.val d))) : DG C (.Name x pos) S d T := dg_name i (idx_get hi) (locB_loc hx) hj h
theorem dg_nm2 {y : Str} {p q : Pos} {k : Nat} {d1 d2 : D} {i j : Nat} {T : List Slot → Prop} (hi : C.N.idxOf? x = some i) (hj : C.N.idxOf? y = some j) (hx : locB C x = true) (hy : locB C y = true) (li : i < S.length) (lj : j < S.length) (h : T ((S.set i (.val d1)).set j (.val d2))) :
    DG C (.Tuple [.Name x p, .Name y q] k pos) S (.tup [d1, d2]) T := dg_tup2 i j (idx_get hi) (idx_get hj) (locB_loc hx) (locB_loc hy) li lj h
theorem ds_let {i : Nat} (he : DE C e S (.ok r)) (hi : C.N.idxOf? x = some i) (hx : locB C x = true) (hj : i < S.length) (h : P.nx (S.set i r.slot)) (hs : ∀ env, swapsWith e (some (.Name x pos')) pos.line env = pure false := by intro _; rfl) : DS C (.Assign [.Name x pos'] e pos) S P := ds_set i he (idx_get hi) (locB_loc hx) hj h hs
theorem de_fn {p : Pos} {es : List Expr} {F : List D → Out → Prop} (hF : Callee C.M x F) (hg : glB C.sc x = true) (ha : DA C lv (e :: es) S ds) (h : F ds o) (hf : lv = true ∨ Out.Flat o)
    (he : ∀ env, starEach (e :: es) env = (false, eval e env) :: starEach es env := by intro _; rfl) (hpl : ∀ env, (backTo pos (starEach es env)).any (·.1) = false := by intro _; rfl) : DE C (.Call (.Name x p) (e :: es) [] pos) S o := de_call hF (glB_gl hg).1 (glB_gl hg).2 ha h hf he hpl
end
end BK
set_option maxHeartbeats 2000000
/-! Part F: exceptions. -/
namespace PySem.W
open PySem PySem.Spec PySem.Calls PyProof.Rows
section
variable {prog : Program} {w : World} {A : Around} {E : Value → Shared → Prop} {s : Shared} {K : Frag} {x D : Addr} {ox : Obj}
theorem bk_findObj {C : Addr} {name : Str} {a g : Value} {od : Option Obj} (hc : (clsIn K C).isSome = true) (ha : findIn K (.ref C) name = some (some a)) (hg : specialIn K a "__get__" = some (some g)) (ht : takesIn K a = some true) : findObj K C od name = some (.bind g a) := by
  obtain ⟨cd, hc⟩ := Option.isSome_iff_exists.mp hc
  unfold findObj
  rw [hc, Option.bind_some, ha, Option.bind_some]
  simp [hg, ht]
theorem bk_classE {od : Option Obj} {Q : Option Value → Shared → Prop} (hga : findIn K (.ref D) "__getattribute__" = some (some (.builtin "BaseException.__getattribute__"))) (hgt : findIn K (.ref D) "__getattr__" = some none) (hsub : subIn K (.ref D) (.type "BaseException") = some true)
    (hdct : hasDictIn K D = true) (ha : findIn K (.ref D) "__class__" = some (some (.builtin "object.__class__")))
    (hn : specialIn K (.builtin "object.__class__") "__get__" = some (some (.builtin "getset_descriptor.__get__"))) (htk : takesIn K (.builtin "object.__class__") = some true) (hm : mroIn K D (.type "object") = some true)
    (X : K.In s.heap) (I : InstAt s.heap x ox D od) (h : Q (some (.ref D)) { s with toks := s.toks + 1 }) : wpAny (model prog w) A (getAttr? (.ref x) "__class__") Q E s := by
  have hf : findObj K D od "__class__" = some (.bind (.builtin "getset_descriptor.__get__") (.builtin "object.__class__")) := bk_findObj (by obtain ⟨cd, hc, _⟩ := any_some hdct; rw [hc]; rfl) ha hn htk
  obtain ⟨hp, g, d, t, os⟩ := s
  have L0 := I.type (M := model prog w)
  have L1 := looks_findIn (M := model prog w) X hga
  have L2 := looks_findIn (M := model prog w) X hgt
  have L3 := looks_find (M := model prog w) X I hf
  have sub : Looks (model prog w) hp (isInstance (.ref x) (.type "BaseException")) true := L0.andThen (looks_subIn X hsub)
  have hx0 : (false && onTheHeap (Value.builtin "BaseException.__getattribute__")) = false := rfl
  have hx2 : (Value.builtin "BaseException.__getattribute__" == Value.builtin "object.__getattribute__") = false := by decide +kernel
  have hx1 : (onTheHeap (Value.ref D) && Value.builtin "BaseException.__getattribute__" == Value.builtin "object.__getattribute__") = false := by rw [hx2]; rfl
  unfold getAttr? getAttrBy? getAttrBy
  refine wpAny_bind (wpAny_mkText (wpAny_bind (wpAny_attempt (wpAny_holding (wpAny_bind (L0.at (wpAny_bind (L1.at ?_))))))))
  show wpAny _ _ (if (onTheHeap (Value.ref D) && Value.builtin "BaseException.__getattribute__" == Value.builtin "object.__getattribute__") = true then _ else _) _ _ _
  rw [hx1, if_neg Bool.false_ne_true]
  unfold getAttrByItsOwn hookBefore
  refine wpAny_bind ?_
  rw [if_pos (show onTheHeap (Value.ref D) = true from rfl)]
  refine L2.at ?_
  refine wpAny_bind (wpAny_attempt (wpAny_holding ?_))
  unfold callGetattribute
  rw [hx0, if_neg Bool.false_ne_true]
  unfold boundAndCalled
  rw [PySem.F.excAttr_ValueError.ga.bind (.ref x)]
  refine wpAny_bind (wpAny_pure ?_)
  show wpAny _ _ (call (.builtin "BaseException.__getattribute__") [.ref x, .str "__class__" t]) _ _ _
  refine wpAny_call (codeAny_call_builtin PySem.F.excAttr_ValueError.ga.plain PySem.F.entry_bexc_ga ?_)
  refine @check_slot (model prog w) _ _ ⟨hp, g, d, t + 1, os⟩ "BaseException.__getattribute__" "BaseException" "__getattribute__" (.ref x) [.str "__class__" t] [] _ (by decide +kernel) (by decide +kernel) sub (PySem.F.args_bexc_ga (.ref x) (.str "__class__" t)) ?_
  unfold Builtin.«object.__getattribute__»
  refine wpAny_bind (wpAny_of_eq (a := ((Value.ref x : Value), [Value.str "__class__" t])) (by first | rfl | (simp only [slotArgs]; rfl)) ?_)
  refine wpAny_bind (wpAny_pure (wpAny_bind (L0.at (wpAny_bind (L3.at ?_)))))
  show wpAny _ _ (holding [Value.builtin "object.__class__"] (call (.builtin "getset_descriptor.__get__") [.builtin "object.__class__", .ref x, .ref D]) >>= ret) _ _ _
  refine wpAny_bind (wpAny_holding (wpAny_call (class_get (s := ⟨hp, g, d, t + 1, os⟩) (ox := ox) (od := od) X I hm ?_)))
  refine wpAny_pure ?_
  show wpAny _ _ (handedOut (.ref D)) _ _ _
  rw [handedOut_of (v := .ref D) rfl]
  first
    | exact wpAny_pure (wpAny_pure h)
    | exact wpAny_pure h
    | exact wpAny_pure (wpAny_bind (wpAny_pure (wpAny_pure h)))
theorem bk_kitx (hga : findIn K (.ref D) "__getattribute__" = some (some (.builtin "BaseException.__getattribute__"))) (hgt : findIn K (.ref D) "__getattr__" = some none) (hsub : subIn K (.ref D) (.type "BaseException") = some true) (hdct : hasDictIn K D = true) (ha : findIn K (.ref D) "__class__" = some (some (.builtin "object.__class__")))
    (hn : specialIn K (.builtin "object.__class__") "__get__" = some (some (.builtin "getset_descriptor.__get__"))) (htk : takesIn K (.builtin "object.__class__") = some true) (hm : mroIn K D (.type "object") = some true) :
    KitX K (.ref x) (.ref D) (fun h => ∃ ox od, InstAt h x ox D od) where
  ty := fun _ _ _ ⟨_, _, I⟩ => I.type
  it := fun _ _ X _ => by
    obtain ⟨cdD, hcD, _⟩ := any_some hdct
    unfold clsIn at hcD
    split at hcD
    · rename_i c' d' cd' sl' ho
      intro A' Q' E' s' k q
      unfold isType loadHead
      exact wpAny_bind (wpAny_loadPart (k _ _ (X _ _ ho)) (wpAny_pure q))
    · cases hcD
  ne := fun h tp dd its n sl X htp => by
    obtain ⟨cdD, hcD, _⟩ := any_some hdct
    refine Bool.eq_false_iff.mpr fun q => ?_
    have e : D = tp := Value.ref.inj (beq_iff_eq.mp q)
    subst e
    unfold clsIn at hcD
    split at hcD
    · rename_i c' d' cd' sl' ho
      have z := (X _ _ ho).symm.trans htp
      cases z
    · cases hcD
  ca := fun X ⟨_, _, I⟩ k => bk_classE hga hgt hsub hdct ha hn htk hm X I k
end
end PySem.W
namespace BK
open PySem PySem.Spec PyProof.Rows L2
section
variable {X : Cx} {pins : List (Addr × Obj)} {σ : L2.St} {H : Hp} {s : Shared}
/-- an object that stands untracked, younger than the entry, is from now on tracked -/
theorem track {a : Addr} {o : HO} (I : Inv X pins σ H s) (n0 : X.s_0.heap.get? a = none) (nL : a ≠ X.env.locals) (nC : ∀ x c, X.env.cells.lookup x = some c → c ≠ a) (nP : ∀ p ∈ X.pn ++ pins, p.1 ≠ a) (na : H a = none) (ob : ObjOk X.prog X.w (upd H a o) s.heap a o) :
    Inv X pins σ (upd H a o) s := by
  have b0 : ∀ {b : Addr} {u : Obj}, X.s_0.heap.get? b = some u → b ≠ a := fun {b u} e z => by rw [z, n0] at e; cases e
  refine ⟨I.ok, I.os, I.bare, ⟨I.base.keep, I.base.slot, fun b u e n hx => ?_, I.base.there, fun b xs e => ?_, fun b u v e => ?_, fun b ps e => ?_⟩, I.loc, I.cell, ?_, fun x c e => ?_, fun p hp => ?_, ?_, I.len⟩
  · rw [upd_ne (b0 e)]; exact I.base.free b u e n hx
  · rw [upd_ne (ne_of_none (I.base.tups b xs e) na)]; exact I.base.tups b xs e
  · rw [upd_ne (ne_of_none (I.base.frzs b u v e) na)]; exact I.base.frzs b u v e
  · obtain ⟨m, z⟩ := I.base.tbls b ps e
    exact ⟨m, by rw [upd_ne (ne_of_none z na)]; exact z⟩
  · rw [upd_ne nL.symm]; exact I.free
  · rw [upd_ne (nC x c e)]; exact I.freeC x c e
  · obtain ⟨e, n, ne, nf, d⟩ := I.pin p hp
    exact ⟨e, by rw [upd_ne (nP p hp)]; exact n, ne, nf, d⟩
  · exact I.hok.laidN (fun _ _ z => z) na ob
theorem unsuite' {ok : X.Ok} {a : Addr} {oe : Obj} {pn' : List (Addr × Obj)} (I : Inv (X.suite a ((a, oe) :: (X.pn ++ pins))) pn' σ H s) : Inv X ((a, oe) :: pins) σ H s :=
  ⟨ok, I.os, I.bare, I.base, I.loc, I.cell, I.free, I.freeC, fun p hp => I.pin p (by
    rcases List.mem_append.mp hp with h | h
    · exact List.mem_append_left _ (List.mem_cons_of_mem _ (List.mem_append_left _ h))
    · rcases List.mem_cons.mp h with h | h
      · rw [h]; exact List.mem_append_left _ List.mem_cons_self
      · exact List.mem_append_left _ (List.mem_cons_of_mem _ (List.mem_append_right _ h))), I.hok, I.len⟩
end
/-- 'except x as n: kept = n', the exception tracked behind it -/
def wKeep (K : PySem.W.Frag) (c : Value) (i : Nat) (ts : TS) (Wout : WX) (D : Ends) : WX := fun cls d σ H =>
  ∃ b, PySem.W.exmOne K cls c = some b ∧ (b = true → ∀ a, H a = none → ts { nx := fun σ' H' => D.nx (σ'.set i none) (upd H' a (ExT cls d a)), rt := fun _ _ => False } (σ.set i (some (.ref a))) H) ∧ (b = false → Wout cls d σ H)
section
variable {X : Cx} {x n : Str} {c : Value} {i : Nat} {body suite : List Stmt} {b₀ : Stmt} {np pos pos' : Pos} {tb : WX → TS} {ts : TS} {Wout : WX}
theorem ps_try_keep (hs : X.stack = X.env :: X.outer) (hf : X.env.frame = some X.env.locals) (hex : X.ex = []) (hN : X.N.Nodup) (hi : X.N[i]? = some n) (hln : X.env.kindOf n = some .local) (hc : Names X x c) (tk : Takes X Wout)
    (hb : ∀ (W : WX) (pn : List (Addr × Obj)) (xe : Value → Shared → Prop), Takes (X.tr pn xe) W → PassesOwn (model X.prog X.w) X.A X.env xe → PSs (X.tr pn xe) body (tb W))
    (hsu : ∀ (a : Addr) (pn : List (Addr × Obj)), PSs (X.suite a pn) (b₀ :: suite) ts) :
    PS X (.Try body [.ExceptHandler (some (.Name x np)) (some n) (b₀ :: suite) pos'] [] [] pos) (fun D σ H => tb (wKeep X.K c i ts Wout D) D σ H) := by
  refine ⟨fun pins s σ H D I h => ?_⟩
  have ok := I.ok
  have hfr : X.A.frames = some (X.env :: X.outer) := by rw [ok.frames, hs]
  have hloc : L2.Loc X.env.scope n := .inl hln
  refine wpAny_Try_except ?_
  refine wpAny_mono ((hb (wKeep X.K c i ts Wout D) (X.pn ++ pins) (fun e s₁ => wpAny (model X.prog X.w) X.A (noteFrame e X.env) (fun _ s₂ => wpAny (model X.prog X.w) X.A (setFlight e none) (fun _ s₃ =>
    wpAny (model X.prog X.w) X.A (handleBy e X.env [.ExceptHandler (some (.Name x np)) (some n) (b₀ :: suite) pos']) (SP X pins D) X.xe s₃) X.xe s₂) X.xe s₁) (fun u s' xx => ?_) PassesOwn.looking).run [] s σ H D (I.toTry _) h) (fun f s1 hsp => ?_) (fun e s1 he => he)
  · obtain ⟨a, B, sI, pins', σ', H', cls, d, rfl, J', nb, up, sky, na, os, ag, b, hb1, hyes, hno⟩ := xx
    have J : Inv X pins σ' H' sI := J'.ofTry ok
    have sky' : Sky B (X.env :: X.outer) a (Zc cls d) X.env.locals s'.heap := by rw [← hs]; exact sky
    show wpAny (model X.prog X.w) X.A (noteFrame (.ref a) X.env) _ _ _
    refine Sky.land Zc.steady hfr hf sky' fun h3 fl3 up3 => ?_
    have J3 : Inv X pins σ' H' { s' with heap := h3 } := J.landed nb fl3.1 (up.trans up3) os ag
    obtain ⟨oe3, vs3, he3, hz3, hd3⟩ := fl3.there
    have notFr : ∀ {h : Heap} {o : Obj} {vs : Array Value}, h.FunFrames B (X.env :: X.outer) → h.get? a = some o → o.data = .fields vs → a ∉ frs (X.env :: X.outer) := fun {h o vs} ff e dd hm => by
      obtain ⟨_, o', e', hnf⟩ := ff.mem hm
      rw [e] at e'; cases e'
      exact hnf _ dd
    have nfr := notFr fl3.2.2.1 he3 hd3
    have nL : a ≠ X.env.locals := fun z => nfr (List.mem_filterMap.mpr ⟨X.env, List.mem_cons_self, by rw [hf, z]⟩)
    have nF : a ∉ X.fs := fun hm => by
      obtain ⟨e, he, q⟩ := List.mem_filterMap.mp hm
      exact nfr (List.mem_filterMap.mpr ⟨e, List.mem_cons_of_mem _ he, q⟩)
    have sIn : sI.heap.get? a = none := by
      cases q : sI.heap.get? a with
      | none => rfl
      | some o =>
        have z := nb a o q (by rw [hs]; exact nfr)
        rw [fl3.2.1] at z; cases z
    have n0 : X.s_0.heap.get? a = none := by
      cases q : X.s_0.heap.get? a with
      | none => rfl
      | some o =>
        obtain ⟨o', z⟩ := J.base.there a o q (by rw [hex]; exact fun z => nomatch z)
        rw [sIn] at z; cases z
    have nC : ∀ x c, X.env.cells.lookup x = some c → c ≠ a := fun x c e z => by
      obtain ⟨v, o, ho, _⟩ := J.cell x c e
      rw [z, sIn] at ho; cases ho
    have nP : ∀ p ∈ X.pn ++ pins, p.1 ≠ a := fun p hp z => by
      obtain ⟨e, _⟩ := J.pin p hp
      rw [z, sIn] at e; cases e
    have S3 := J3.suite he3 hd3 na nL nF
    refine wpAny_handleBy_cons (codeAny_handlers_test ?_) (by intro q; cases q)
    have LT : PySem.W.Looks (model X.prog X.w) h3 (typeOf (.ref a)) cls := fun A Q E s k q => wpAny_typeOf_ref (k _ _ he3) (by rw [hz3.1]; exact q)
    have LM := PySem.W.exm_one (M := model X.prog X.w) (J3.kIn) LT hb1
    have test : ∀ {Q : Value → Shared → Prop} {E : Value → Shared → Prop}, Q c { s' with heap := h3 } → wpAny (model X.prog X.w) (X.A.mark (some (.ref a))) (eval (.Name x np) X.env) Q E { s' with heap := h3 } := fun {Q E} q => by
      obtain ⟨hg, hdbg, hm | ⟨hm, hv, hnn⟩⟩ := hc
      · exact ld_glob (X := X.suite a ((a, oe3) :: (X.pn ++ pins))) S3 hg hm q hdbg
      · exact ld_blt (X := X.suite a ((a, oe3) :: (X.pn ++ pins))) S3 hg hm hv q hnn hdbg
    refine test (LM.here ?_)
    cases b with
    | true =>
      refine codeAny_handlers_suite_as ?_
      refine HandSPX.lands_againZ fl3 fun h4 fl4 up4 => ?_
      have J4 : Inv X pins σ' H' { s' with heap := h4 } := J.landed nb fl4.1 ((up.trans up3).trans up4) os ag
      obtain ⟨oe4, vs4, he4, hz4, hd4⟩ := fl4.there
      have S4 := J4.suite he4 hd4 na nL nF
      refine store_ok (X := X.suite a ((a, oe4) :: (X.pn ++ pins))) (v := .ref a) S4 hN hi hloc rfl (fun s5 S5 => ?_) (.inr hln)
      refine wpAny_mono ((hsu a ((a, oe4) :: (X.pn ++ pins))).run [] s5 _ H' _ S5 (hyes rfl a na)) (fun f s6 hsp => ?_) (fun _ _ z => False.elim z)
      cases f with
      | next =>
        obtain ⟨σ6, H6, S6, q6⟩ := hsp
        refine gone_ok (unsuite' (ok := ok) S6) hN hi hln fun s7 J7 => ?_
        obtain ⟨ea, nea, _⟩ := J7.pin (a, oe4) (List.mem_append_right _ List.mem_cons_self)
        have J8 : Inv X pins (σ6.set i none) H6 s7 := ⟨J7.ok, J7.os, J7.bare, J7.base, J7.loc, J7.cell, J7.free, J7.freeC, fun p hp => J7.pin p (by
          rcases List.mem_append.mp hp with h | h
          · exact List.mem_append_left _ h
          · exact List.mem_append_right _ (List.mem_cons_of_mem _ h)), J7.hok, J7.len⟩
        refine ⟨_, _, track J8 n0 nL nC nP nea ?_, q6⟩
        exact ⟨⟨oe4, vs4, ea, hz4, hd4⟩, ⟨oe4, ea⟩, fun h1 h2 ⟨oe, vs, e1, z1, d1⟩ k => ⟨oe, vs, k _ e1, z1, d1⟩⟩
      | brk =>
        obtain ⟨σ6, H6, S6, q6⟩ := hsp
        exact False.elim q6
      | cont =>
        obtain ⟨σ6, H6, S6, q6⟩ := hsp
        exact False.elim q6
      | ret u =>
        obtain ⟨v6, σ6, H6, S6, r6, q6⟩ := hsp
        exact False.elim q6
    | false =>
      show wpAny _ X.A (handleBy (.ref a) X.env []) _ _ _
      refine wpAny_handleBy_nil ?_
      obtain ⟨k1, k2, k3, oe, vs, T, oT, ts', he, hz, hd, h1, hr⟩ := id fl3
      unfold PySem.passOn
      refine wpAny_bind (wpAny_field he hd h1 ?_)
      rw [if_neg (show ¬ ((Value.ref T == Value.none) = true) from by simp)]
      have fin : wpAny (model X.prog X.w) X.A (setFlight (.ref a) X.env.frame) (fun _ s4 => wpAny (model X.prog X.w) X.A (throw (.ref a) : Sem Flow) (SP X pins D) X.xe s4) X.xe { s' with heap := h3 } := by
        rw [hf]
        refine HandSPX.setFlight_upZ fl3 fun h4 hh4 up4 => wpAny_throw (tk _ _ ?_)
        exact ⟨a, B, sI, pins, σ', H', cls, d, rfl, J, nb, (up.trans up3).trans up4, .inr (.inr (by rw [hs]; exact hh4)), na, os, ag, hno rfl⟩
      first
        | exact wpAny_bind (wpAny_pure (wpAny_bind fin))
        | exact wpAny_bind fin
  · cases f with
    | next =>
      obtain ⟨σ', H', J', q⟩ := hsp
      exact wpAny_execs_nil ⟨σ', H', J'.ofTry ok, q⟩
    | brk =>
      obtain ⟨σ', H', J', q⟩ := hsp
      exact ⟨σ', H', J'.ofTry ok, q⟩
    | cont =>
      obtain ⟨σ', H', J', q⟩ := hsp
      exact ⟨σ', H', J'.ofTry ok, q⟩
    | ret u =>
      obtain ⟨v, σ', H', J', r, q⟩ := hsp
      exact ⟨v, σ', H', J'.ofTry ok, r, q⟩
end
end BK
set_option maxHeartbeats 2000000
/-! Part G: raise, try, isinstance, told by data. -/
namespace BK
open PySem PySem.Spec PyProof.Rows L2

/-! ### isinstance -/
/-- the class of data, where it is known how isinstance asks it -/
def TyZ (K : PySem.W.Frag) (d : D) (t : Value) : Prop := (∃ n, d.ty = some n ∧ t = .type n) ∨ ∃ C f, d = .exc C f ∧ t = .ref C ∧ ExcC K C
theorem inst_of {X : Cx} {pins : List (Addr × Obj)} {σ : L2.St} {H : Hp} {s : Shared} {O : Addr → Prop} {v : V} {u : Value} {C : Addr} {f : Fld} (I : Inv X pins σ H s) (rv : RelV v u) (rep : Rep X.K H O v (.exc C f)) : ∃ a, u = .ref a ∧ ∃ ox od, PySem.W.InstAt s.heap a ox C od := by
  cases rep with
  | @exc0 a C h =>
    cases (show u = Value.ref a from rv)
    obtain ⟨⟨oe, vs, ho, hz, hd⟩, _⟩ := I.hok a _ h
    refine ⟨a, rfl, oe, none, ho, hz.1, ?_, ?_⟩
    · unfold PySem.W.notCls; rw [hd] <;> rfl
    · rw [hz.2]; trivial
  | @exc1 a C d n v h hd2 hf =>
    cases (show u = Value.ref a from rv)
    obtain ⟨⟨oe, vs, ho, hz, hd⟩, _⟩ := I.hok a _ h
    obtain ⟨mA, hns, _⟩ := (show ObjOk X.prog X.w H s.heap d (.xd [(n, v)]) from I.hok d _ hd2)
    obtain ⟨od, hod, hl⟩ := lookIn_ns hns
    refine ⟨a, rfl, oe, some od, ho, hz.1, ?_, ?_⟩
    · unfold PySem.W.notCls; rw [hd] <;> rfl
    · rw [hz.2]; exact hod
theorem kit_of' {X : Cx} {pins : List (Addr × Obj)} {σ : L2.St} {H : Hp} {s : Shared} {O : Addr → Prop} {v : V} {u t : Value} {d : D} (I : Inv X pins σ H s) (rv : RelV v u) (rep : Rep X.K H O v d) (ty : TyZ X.K d t) : ∃ P : Heap → Prop, PySem.W.KitX X.K u t P ∧ P s.heap ∧ u ≠ .builtin "__main__.__loader__#opaque" := by
  rcases ty with ⟨n, e, rfl⟩ | ⟨C, f, rfl, rfl, E⟩
  · exact kit_of I rv (rep.tyX e)
  · obtain ⟨a, rfl, J⟩ := inst_of I rv rep
    exact ⟨_, PySem.W.bk_kitx E.hg E.hk E.hs E.hd E.ha E.hn E.ht E.hm, J, fun z => nomatch z⟩
def rIsZ (K : PySem.W.Frag) (d : D) : List V → Hp → VK → Prop := fun xs H Q => ∃ (x c : V) (t u : Value) (b : Bool), xs = [x, c] ∧ ClsV c u ∧ Rep K H no x d ∧ TyZ K d t ∧ PySem.W.kitOne K t u = some b ∧ Q (.bl b) H
def rIsZT (K : PySem.W.Frag) (d : D) : List V → Hp → VK → Prop := fun xs H Q => ∃ (x : V) (tp : Addr) (cs : List V) (t : Value) (us : List Value) (b : Bool), xs = [x, .ref tp] ∧ H tp = some (.tup cs) ∧ Paired ClsV cs us ∧ Rep K H no x d ∧ TyZ K d t ∧ PySem.W.kitAny K t us = some b ∧ Q (.bl b) H
theorem call_isZ {X : Cx} {d : D} : CallR X (.builtin "isinstance") (rIsZ X.K d) := by
  intro pins s σ H xs us Q I r h
  obtain ⟨x, c, t, u, b, rfl, k, rep, ty, e, q⟩ := h
  obtain ⟨u1, u2, rfl, r1, r2⟩ := vals2 r
  have e2 := k.eq r2
  subst e2
  obtain ⟨P, Z, p, hx⟩ := kit_of' I r1 rep ty
  exact PySem.W.kia_one Z I.kIn p e hx fun tk => ⟨.bl b, H, I.tok tk, rfl, q⟩
theorem call_isZT {X : Cx} {d : D} : CallR X (.builtin "isinstance") (rIsZT X.K d) := by
  intro pins s σ H xs us Q I r h
  obtain ⟨x, tp, cs, t, ws, b, rfl, hT, k, rep, ty, e, q⟩ := h
  obtain ⟨u1, u2, rfl, r1, r2⟩ := vals2 r
  cases (show u2 = Value.ref tp from r2)
  obtain ⟨P, Z, p, hx⟩ := kit_of' I r1 rep ty
  obtain ⟨_, its, rv, o, h1, h2, n, h3⟩ := (show ObjOk X.prog X.w H s.heap tp (.tup cs) from I.hok tp _ hT)
  have e3 := ClsV.all k rv
  subst e3
  obtain ⟨oc, od, dt, sl⟩ := o
  simp only at h2 h3
  subst h2 h3
  exact PySem.W.kia_tup Z I.kIn p h1 e hx fun tk => ⟨.bl b, H, I.tok tk, rfl, q⟩
section
variable {C : Ctx} {S : List Slot} {P : Post} {e a b : Expr} {es : List Expr} {o : Out} {r : R} {d : D} {ds : List D} {lv : Bool} {pos pos' : Pos} {x y : Bool}
/-- a name that says a class -/
inductive ClN (C : Ctx) (x : Str) : V → Value → Prop
  | own (A : Addr) (hg : glB C.sc x = true) (hm : C.M.mg x = some (.ref A)) : ClN C x (.ref A) (.ref A)
  | ty (T : String) (hg : glB C.sc x = true) (hm : C.M.mg x = none) (hv : bootBuiltins x = some (.type T)) (hn : x ≠ "__name__") : ClN C x (.ty T) (.type T)
theorem ClN.pe {z : Str} {v : V} {u : Value} (h : ClN C z v u) {r : Rst} (g : Good C r) : PE (C.x r) (.Name z pos) (tC v) := by
  cases h with
  | own A hg hm => exact pe_glob ((glB_gl hg).1.gl g) hm rfl (glB_gl hg).2
  | ty T hg hm hv hn => exact pe_bltn ((glB_gl hg).1.gl g) hm hv rfl hn (glB_gl hg).2
theorem ClN.cls {z : Str} {v : V} {u : Value} (h : ClN C z v u) : ClsV v u := by
  cases h with
  | own A _ _ => exact .own A
  | ty T _ _ _ _ => exact .ty T
inductive ClNs (C : Ctx) : List Expr → List V → List Value → Prop
  | nil : ClNs C [] [] []
  | cons {z : Str} {p : Pos} {v : V} {u : Value} {es : List Expr} {vs : List V} {us : List Value} (h : ClN C z v u) (r : ClNs C es vs us) (hs : ∀ env, starEach ((.Name z p) :: es) env = (false, eval (.Name z p) env) :: starEach es env := by intro _; rfl) : ClNs C (.Name z p :: es) (v :: vs) (u :: us)
def tCs : List V → TA
  | [] => tNil
  | v :: vs => tCons (tC v) (tCs vs)
theorem ClNs.pa {es : List Expr} {vs : List V} {us : List Value} (h : ClNs C es vs us) {r : Rst} (g : Good C r) : PA (C.x r) es (tCs vs) := by
  induction h with
  | nil => exact pa_nil
  | cons h r hs ih => exact pa_cons (h.pe g) ih (hs _)
theorem ClNs.cls {es : List Expr} {vs : List V} {us : List Value} (h : ClNs C es vs us) : Paired ClsV vs us := by
  induction h with
  | nil => exact .nil
  | cons h r hs ih => exact .cons h.cls ih
theorem tCs_run {σ : L2.St} {H : Hp} : ∀ {vs : List V} {Q : List V → Hp → Prop}, Q vs H → tCs vs σ H Q
  | [], _, q => q
  | v :: vs, Q, q => tCs_run (vs := vs) (Q := fun xs H2 => Q (v :: xs) H2) q
theorem de_isZ {p q : Pos} {tn : Str} {v : V} {u t : Value} (hg : glB C.sc "isinstance" = true) (hm : C.M.mg "isinstance" = none) (hc : ClN C tn v u) (ha : DL C false a S d) (ht : TyZ C.M.K d t) (hk : PySem.W.kitOne C.M.K t u = some x)
    (hs : ∀ env, starEach (a :: [.Name tn q]) env = (false, eval a env) :: starEach [.Name tn q] env := by intro _; rfl) : DB C (.Call (.Name "isinstance" p) [a, .Name tn q] [] pos) S x :=
  .mk fun W => ⟨tCB (rIsZ C.M.K d) (tCons (tE C a W) (tCons (tC v) tNil)), fun r f => pe_callB call_isZ ((glB_gl hg).1.gl f.g) hm boot_isinstance (pa_cons (pe_tE f) (pa_cons (hc.pe f.g) pa_nil) (hs _)) (by decide) (by decide) (hs _) rfl,
    fun Oc H0 H σ fp hod sat Q hq hx => ha W Oc H0 H σ fp hod sat _ fun v1 H1 e1 rep => ⟨v1, v, t, u, x, rfl, hc.cls, rep, ht, hk, hq _ _ H1 rfl e1 (.bl _)⟩⟩
theorem de_isZT {p : Pos} {tk : Nat} {tp : Pos} {vs : List V} {us : List Value} {t : Value} (hg : glB C.sc "isinstance" = true) (hm : C.M.mg "isinstance" = none) (hc : ClNs C es vs us) (hz : vs.length ≤ 1000000) (ha : DL C false a S d) (ht : TyZ C.M.K d t) (hk : PySem.W.kitAny C.M.K t us = some x)
    (hs : ∀ env, starEach (a :: [.Tuple es tk tp]) env = (false, eval a env) :: starEach [.Tuple es tk tp] env := by intro _; rfl) : DB C (.Call (.Name "isinstance" p) [a, .Tuple es tk tp] [] pos) S x :=
  .mk fun W => ⟨tCB (rIsZT C.M.K d) (tCons (tE C a W) (tCons (tTup (tCs vs)) tNil)), fun r f => pe_callB call_isZT ((glB_gl hg).1.gl f.g) hm boot_isinstance (pa_cons (pe_tE f) (pa_cons (pe_tup (hc.pa f.g)) pa_nil) (hs _)) (by decide) (by decide) (hs _) rfl,
    fun Oc H0 H σ fp hod sat Q hq hx => ha W Oc H0 H σ fp hod sat _ fun v1 H1 e1 rep => tCs_run ⟨sz_le hz, fun tp' hp => ⟨v1, tp', vs, t, us, x, rfl, upd_same, hc.cls, rep.mono (Ex.new hp), ht, hk, hq _ _ _ rfl (e1.trans (Ex.new hp)) (.bl _)⟩⟩⟩
/-- e.f of a held exception -/
theorem de_xf {n : Str} {v : V} {Cad : Addr} (T : XfC C.M.K Cad) (hno : PySem.W.findIn C.M.K (.ref Cad) n = some none) (ha : DL C false a S (.exc Cad (some (n, v)))) (hr : ∀ H O, Rep C.M.K H O v d) (hb : ∀ env, attributeBase a n env (eval a env) = eval a env := by intro _; rfl) : DE C (.Attribute a n pos) S (.ok (.val d)) :=
  .mk fun W => ⟨fun σ H Q => tE C a W σ H fun x H1 => Rep C.M.K H1 no x (.exc Cad (some (n, v))) ∧ Q v H1, fun r f => ⟨fun pins s σ H Q I h => attr_of (hb _) (thn ((pe_tE f).run pins s σ H _ I h) fun u s1 hh => by
    obtain ⟨x, H1, I1, rx, rep, q⟩ := hh
    cases rep with
    | @exc1 ad C' dd n' v' h1 h2 hf =>
      cases (show u = Value.ref ad from rx)
      obtain ⟨⟨oe, vs, ho, hz, hd⟩, _⟩ := I1.hok ad _ h1
      obtain ⟨mA, hns, hr⟩ := (show ObjOk C.M.P C.M.w H1 s1.heap dd (.xd [(n, v)]) from I1.hok dd _ h2)
      obtain ⟨od, hod, hl⟩ := lookIn_ns hns
      have lk : List.lookup n [(n, v)] = some v := by simp [List.lookup]
      obtain ⟨u, hu, ru⟩ := RelO.some_of (v := v) (o := mA n) (by rw [← lk]; exact hr n)
      have J : PySem.W.InstAt s1.heap ad oe Cad (some od) := ⟨ho, hz.1, by unfold PySem.W.notCls; rw [hd] <;> rfl, by rw [hz.2]; exact hod⟩
      exact PySem.HandSPX.exc_get I1.kIn J T.ga T.gg T.exC (PySem.W.findObj_own T.hdC hno rfl (by rw [hl, hu])) (handed_of ru) ⟨v, H1, I1.tok _, ru, q⟩)⟩,
    fun Oc H0 H σ fp hod sat Q hq hx => ha W Oc H0 H σ fp hod sat _ fun x H1 e1 rep => ⟨rep, hq _ v H1 rfl e1 (hr H1 _)⟩⟩

/-! ### raise -/
structure Exc0 (M : Mo) (x : Str) (Cad : Addr) : Prop where
  g : M.mg x = some (.ref Cad)
  q : PySem.W.excIn M.K Cad [.type "ValueError", .type "Exception", .type "BaseException", .type "object"] "ValueError.__new__" = true
  k : PySem.W.keepIn M.K (.ref Cad) = true
  b : PySem.W.subIn M.K (.ref Cad) (.type "BaseException") = some true
  t : PySem.W.typeIn M.K (.ref Cad) = some (.type "type")
theorem ds_raise0 {z m : Str} {j : Nat} {p p2 p3 : Pos} {Cad : Addr} (X : Exc0 C.M z Cad) (hg : glB C.sc z = true) (h : P.ex ⟨Cad, none⟩ S) : DS C (.Raise (some (.Call (.Name z p) [.Constant (.str m) j p2] [] p3)) none pos) S P :=
  .mk fun W => ⟨fun _ σ H => (fun (_ : L2.St) (H : Hp) (Q : XK) => Q (.ref Cad) none H) σ H fun cls d H' => W cls d σ H', fun r f => ps_raise f.g.calm f.t (pmk_own PySem.F.excBase_ValueError X.q X.g X.k (raises_own X.b X.t) ((glB_gl hg).1.gl f.g) (glB_gl hg).2), fun Oc H0 H σ fp hod sat D h1 h2 h3 h4 h5 =>
    h3 _ _ _ H σ S fp h sat ⟨rfl, .inl ⟨rfl, rfl⟩⟩⟩
/-- what __init__(self, f): self.f = f promises -/
def spInit (Cad : Addr) (n : Str) : Sp := fun vs H Q _ => ∃ a v, vs = [.ref a, v] ∧ H a = some (exo a Cad none) ∧ ∀ H' dx, H dx = none → dx ≠ a → H' = upd (upd H dx (exd dx [(n, v)])) a (exo a Cad (some dx)) → Q .non H'
structure Exc1 (M : Mo) (x : Str) (Cad : Addr) (n : Str) : Prop where
  g : M.mg x = some (.ref Cad)
  T : OexC M.K Cad
  ex : ∃ (fI : Addr) (k : Nat) (fd : FuncData) (ps : List Str), PySem.W.findIn M.K (.ref Cad) "__init__" = some (some (.ref fI)) ∧ PySem.W.typeIn M.K (.ref fI) = some (.type "function") ∧
    FnOk M.P M.w M.K M.mg M.base CX0 k fI fd ps (spInit Cad n) ∧ k + 1 ≤ M.k ∧ Binds M.K fd ps []
theorem pn_of {x n : Str} (h : x = n) : x = n := h
theorem ok_init {P : Program} {w : World} {K : PySem.W.Frag} {mg : Str → Option Value} {base : Heap} {st : Stmt} {f q : Str} {fI Cad : Addr} {fd : FuncData} {k : Nat} {p1 p2 p3 p4 : Pos}
    (hb : defBody st = [.Assign [.Attribute (.Name "self" p1) f p2] (.Name f p3) p4]) (sc : FnScope ["self", f] ["self", f] (defScope st)) (hself : (defScope st).names.lookup ("self" : Str) = some .local) (hf : (defScope st).names.lookup f = some .local) (hd : (f == ("__debug__" : Str)) = false) (hcd : (f == ("__classdict__" : Str)) = false)
    (F : Fun K "__init__" q st fI fd) (T : OexC K Cad) (no : PySem.W.findIn K (.ref Cad) f = some none) : FnOk P w K mg base CX0 (k + 1) fI fd ["self", f] (spInit Cad f) := by
  refine F.ok sc (fun vs H Q E h => ?_) (fun cdv A outer s H vs Q E hr h => ?_)
  · obtain ⟨a, v, rfl, _⟩ := h; rfl
  · obtain ⟨a, v, rfl, ha, hq⟩ := h
    rw [hb]
    refine ⟨_, pss_one (ps_ost (pe_var (i := 0) rfl (.inl hself) (by decide) (by decide)) (pe_var (i := 1) rfl (.inl hf) hd hcd)), ?_⟩
    exact ⟨v, rfl, .ref a, rfl, a, Cad, rfl, T, no, .inl ⟨ha, fun dx n ne => hq _ dx n ne rfl⟩⟩
theorem ds_raise1 {z n : Str} {p p3 : Pos} {Cad : Addr} {v : V} (X : Exc1 C.M z Cad n) (hg : glB C.sc z = true) (he : DE C e S (.ok (.val d))) (hv : d.sc = some v) (h : P.ex ⟨Cad, some (n, v)⟩ S)
    (hs : ∀ env, starEach (e :: []) env = (false, eval e env) :: starEach [] env := by intro _; rfl) : DS C (.Raise (some (.Call (.Name z p) [e] [] p3)) none pos) S P := by
  obtain ⟨fI, k, fd, ps, iC, tI, F, hk, hb⟩ := X.ex
  refine .mk fun W => ⟨fun _ σ H => tMkO Cad (spInit Cad n) [] (tCons (tE C e W) tNil) σ H fun cls d H' => W cls d σ H', fun r f => ps_raise f.g.calm f.t (pmk_oex (CX := CX0) X.T iC tI F (f.g.room.mono hk) hb .nil (fun _ _ _ _ _ _ _ h => h.elim) ((glB_gl hg).1.gl f.g) X.g (pa_cons (pe_tE f) pa_nil (hs _)) (glB_gl hg).2 (hs _) rfl), fun Oc H0 H σ fp hod sat D h1 h2 h3 h4 h5 => ?_⟩
  refine he W Oc H0 H σ fp (hod.up sat) sat _ (fun r u H1 er e1 res => ?_) (fun _ _ _ _ er => nomatch er)
  cases er
  have hu := res.scal hv
  subst hu
  have fl : flatV u = true := by
    cases d <;> first | (cases hv; done) | (cases hv; rfl)
  refine ⟨Nat.succ_le_succ (Nat.zero_le _), fun a ha => ⟨a, u, rfl, upd_same, fun H' dx hdx hne e => ?_⟩⟩
  have hd1 : H1 dx = none := by rw [upd_ne hne] at hdx; exact hdx
  refine ⟨rfl, dx, [(n, u)], by rw [e]; exact upd_same, by rw [e, upd_ne hne]; exact upd_same, hd1, ?_⟩
  have ex : Ex H1 (upd (L2.del H' a) dx (.xd [(n, u)])) := fun b o q => by
    have b1 : b ≠ a := ne_of_none q ha
    have b2 : b ≠ dx := ne_of_none q hd1
    rw [upd_ne b2]
    show L2.del H' a b = some o
    rw [L2.del_ne b1, e, upd_ne b1, upd_ne b2, upd_ne b1]; exact q
  exact h3 _ _ _ _ σ S fp h (sat.mono (e1.trans ex)) ⟨rfl, .inr ⟨n, u, dx, rfl, rfl, upd_same, fl⟩⟩

/-! ### try -/
theorem Fam.tr {W W' : WX} {r : Rst} (f : Fam C W r) (ht : C.top = true) {pn : List (Addr × Obj)} {xe : Value → Shared → Prop} (tk : Takes ((C.x r).tr pn xe) W') (po : PassesOwn (model C.M.P C.M.w) r.A r.env xe) : Fam C W' { r with pn := pn, xe := xe } :=
  ⟨⟨f.g.sc, f.g.calm, f.g.room, f.g.nd, f.g.fn, fun h => ⟨(f.g.stack h).1, (f.g.stack h).2.1, (f.g.stack h).2.2.1, po⟩⟩, tk⟩
/-- try: body; except x as n: kept = n (k: the slot of kept, i: of n) -/
theorem ds_try {body : List Stmt} {z n kept : Str} {np pk pe ps hp : Pos} {Cad : Addr} (k i : Nat) (ht : C.top = true) (hk : C.N[k]? = some kept) (hi : C.N[i]? = some n) (hki : k ≠ i) (lk : k < S.length) (lki : locB C kept = true) (hn : C.sc.names.lookup n = some .local) (hnv : nmB C.sc n = true) (hg : glB C.sc z = true) (hm : C.M.mg z = some (.ref Cad))
    (hb : DSs C body S { P with ex := fun e S' => ∃ b, PySem.W.exmOne C.M.K (.ref e.C) (.ref Cad) = some b ∧ (b = true → k < S'.length ∧ i < S'.length ∧ P.nx ((S'.set k (.val (.exc e.C e.f))).set i .any)) ∧ (b = false → P.ex e S') }) :
    DS C (.Try body [.ExceptHandler (some (.Name z np)) (some n) [.Assign [.Name kept pk] (.Name n pe) ps] hp] [] [] pos) S P := by
  obtain ⟨hnv1, hnv2, hnv3⟩ := nmB_vis hnv
  refine .mk fun W => ⟨fun D σ H => tSs C body (wKeep C.M.K (.ref Cad) i (tAsg (tVar i) (gName k)) W D) D σ H, fun r f => ?_, fun Oc H0 H σ fp hod sat D h1 h2 h3 h4 h5 => ?_⟩
  · obtain ⟨hs, hf, hex, hpo⟩ := f.g.stack ht
    have ec : (C.x r).env.scope = C.sc := f.g.sc
    refine ps_try_keep (X := C.x r) hs hf hex f.g.nd hi (by show r.env.scope.names.lookup n = _; rw [f.g.sc]; exact hn) ⟨(glB_gl hg).1.gl f.g, (glB_gl hg).2, .inl hm⟩ f.t (fun W' pn xe tk po => pss_tSs (f.tr ht tk po)) (fun a pn => ?_)
    refine pss_one (ps_set f.g.nd hk ?_ (pe_var hi ?_ hnv2 hnv3) rfl ?_)
    · have := locB_loc lki
      show L2.Loc r.env.scope kept
      rw [f.g.sc]
      exact this.imp id (·.1)
    · show Vis r.env.scope n
      rw [f.g.sc]; exact hnv1
    · rcases f.g.fn with q | q
      · exact .inl (q kept)
      · rw [ht] at q; cases q
  · refine hb _ Oc H0 H σ fp hod sat D h1 h2 (fun e cls d H' σ' S' fp' hx sat' xr => ?_) h4 h5
    obtain ⟨b, hb1, hb2, hb3⟩ := hx
    obtain ⟨rfl, hd⟩ := xr
    refine ⟨b, hb1, fun hbt a na => ?_, fun hbf => h3 e _ d H' σ' S' fp' (hb3 hbf) sat' ⟨rfl, hd⟩⟩
    obtain ⟨lk', li', hnx⟩ := hb2 hbt
    have li : i < σ'.length := by rw [← sat'.len]; exact li'
    refine ⟨.ref a, by rw [List.getElem?_set_self li], ?_⟩
    show D.nx (((σ'.set i (some (.ref a))).set k (some (.ref a))).set i none) (upd H' a (ExT (.ref e.C) d a))
    have exn : Ex H' (upd H' a (ExT (.ref e.C) d a)) := Ex.new na
    have rep : Rep C.M.K (upd H' a (ExT (.ref e.C) d a)) (Ow Oc fp') (.ref a) (.exc e.C e.f) := by
      rcases hd with ⟨e1, e2⟩ | ⟨n1, v1, dd, e1, e2, e3, e4⟩
      · rw [e1]; subst e2; exact .exc0 upd_same
      · rw [e1]; subst e2; exact .exc1 upd_same (exn _ _ e3) e4
    obtain ⟨fp1, s1, _⟩ := (sat'.mono exn).setv rep lk'
    obtain ⟨fp2, s2, _⟩ := s1.forget (j := i) (by rw [List.length_set]; exact li') none
    have eq : ((σ'.set i (some (V.ref a))).set k (some (.ref a))).set i none = (σ'.set k (some (.ref a))).set i none := by
      rw [List.set_comm _ _ (Ne.symm hki), List.set_set]
    rw [eq]
    exact h1 _ _ _ fp2 hnx s2
end
end BK
/-! Part I: the rules in the form in which they are applied by rote. -/
namespace BK
open PySem PySem.Spec PyProof.Rows L2
def anyS (S : List Slot) (vs : List Nat) : Bool := vs.all fun v => match S[v]? with
  | some Slot.any => true
  | _ => false
theorem anyS_ok {S : List Slot} {vs : List Nat} (h : anyS S vs = true) : ∀ v ∈ vs, S[v]? = some .any := fun v hv => by
  have z := List.all_eq_true.mp h v hv
  split at z
  · assumption
  · cases z
section
variable {C : Ctx} {S : List Slot} {P : Post} {e a b c : Expr} {es : List Expr} {o : Out} {r : R} {d : D} {ds : List D} {lv : Bool} {pos pos' : Pos} {x : Str} {i j k : Int}
/-- a def of the module, by its name -/
def Cal (M : Mo) (x : String) (F : List D → Out → Prop) : Prop := Callee M (Str.ofString x) F
theorem de_fnR {x : String} {p : Pos} {F : List D → Out → Prop} (hF : Cal C.M x F) (hg : glB C.sc (Str.ofString x) = true) (ha : DA C lv (e :: es) S ds) (h : F ds o) (hf : lv = true ∨ Out.Flat o)
    (he : ∀ env, starEach (e :: es) env = (false, eval e env) :: starEach es env) (hpl : ∀ env, (backTo pos (starEach es env)).any (·.1) = false) : DE C (.Call (.Name (Str.ofString x) p) (e :: es) [] pos) S o := de_fn hF hg ha h hf he hpl
theorem dl_of (h : DE C e S (.ok r)) (ed : (if lv then r.fz else some r.toD) = some d) : DL C lv e S d := by
  cases lv with
  | true => exact dl_fz h ed
  | false => exact dl_rd h (Option.some.inj ed)
theorem de_of (h : DL C lv e S d) (hf : lv = true ∨ Flat d) : DE C e S (.ok (.val d)) := by
  cases lv with
  | true => exact de_dl h
  | false => exact de_dl (dl_flat h (hf.resolve_left (by decide)))
theorem de_modN (ha : DI C a S i) (hb : DI C b S j) (hc : j ≠ 0) : DI C (.BinOp a .Mod b pos) S (i.fmod j) := de_op (lv := false) (fun _ _ => op_modN) (dl_val ha) (dl_val hb) (op2_I hc fun _ _ => .int _) (.inr (.int _))
theorem de_map {α : Type} {tg it elt : Expr} {scope : Scope} (own : List (Str × Nat)) (l : List α) (enc h : α → D) (hb : blkC C.N C.sc scope own = true) (hi : DIt C lv tg it S (l.map enc)) (hv : anyS S (own.map (·.2)) = true) (hz : l.length ≤ 1000000)
    (hfl : lv = true ∨ ∀ x ∈ l, Flat (enc x)) (he : ∀ x ∈ l, ∃ S2 r, DGc (C.blk scope) (own.map (·.2)) tg S (enc x) S2 ∧ DE (C.blk scope) elt S2 (.ok r) ∧ r.fz = some (h x))
    (hf : ∀ env x, foldedSetIterable it env x = pure x := by intro _ _; rfl) : DE C (.ListComp elt [⟨tg, it, [], 0⟩] scope pos) S (.ok (.own (l.map h))) := by
  have q := de_comp (C := C) (S := S) (lv := lv) (tg := tg) (it := it) (elt := elt) (ifs := []) (scope := scope) (pos := pos) own l enc h (fun _ => true) hb hi (anyS_ok hv) hz hfl (fun x hx => by
      obtain ⟨S2, r, h1, h2, h3⟩ := he x hx
      exact ⟨S2, r, h1, dts_nil, fun _ => ⟨h2, h3⟩⟩) hf
  have e : l.filter (fun _ => true) = l := List.filter_eq_self.mpr fun _ _ => rfl
  rw [e] at q; exact q
theorem de_filter {α : Type} {tg it elt t : Expr} {scope : Scope} (own : List (Str × Nat)) (l : List α) (enc h : α → D) (p : α → Bool) (hb : blkC C.N C.sc scope own = true) (hi : DIt C lv tg it S (l.map enc)) (hv : anyS S (own.map (·.2)) = true) (hz : l.length ≤ 1000000)
    (hfl : lv = true ∨ ∀ x ∈ l, Flat (enc x)) (he : ∀ x ∈ l, ∃ S2 r, DGc (C.blk scope) (own.map (·.2)) tg S (enc x) S2 ∧ DT (C.blk scope) t S2 (p x) ∧ DE (C.blk scope) elt S2 (.ok r) ∧ r.fz = some (h x))
    (hf : ∀ env x, foldedSetIterable it env x = pure x := by intro _ _; rfl) : DE C (.ListComp elt [⟨tg, it, [t], 0⟩] scope pos) S (.ok (.own ((l.filter p).map h))) :=
  de_comp (C := C) (S := S) (lv := lv) (tg := tg) (it := it) (elt := elt) (ifs := [t]) (scope := scope) (pos := pos) own l enc h p hb hi (anyS_ok hv) hz hfl (fun x hx => by
      obtain ⟨S2, r, h1, h2, h3, h4⟩ := he x hx
      exact ⟨S2, r, h1, dts_one h2, fun _ => ⟨h3, h4⟩⟩) hf
theorem ds_app {z : Str} {ap p1 p2 : Pos} {j : Nat} (he : DL C true e S d) (hi : C.N.idxOf? z = some j) (hS : S[j]? = some (.own ds)) (hv : nmB C.sc z = true) (hz : ds.length ≤ 1000000) (h : P.nx (S.set j (.own (ds ++ [d]))))
    (hs : ∀ env, starEach (e :: []) env = (false, eval e env) :: starEach [] env)
    (hfew : ∀ env, ((backTo p2 (starEach (e :: []) env)).all (fun x => !x.1) && (backToKw p2 (keywordEach [] env)).all (fun x => x.1.isSome) && decide ((e :: []).length + ([] : List Keyword).length + (if ([] : List Keyword).isEmpty then 0 else 1) < 30)) = true)
    (hline : (ap.endLine == p2.line) = true) (hsw : ∀ env, swapsWith (.Call (.Attribute (.Name z p1) "append" ap) [e] [] p2) none pos.line env = pure false) :
    DS C (.Expr (.Call (.Attribute (.Name z p1) "append" ap) [e] [] p2) pos) S P := by
  obtain ⟨v, h1, h2⟩ := nmB_vis hv
  exact ds_append j hS he (idx_get hi) v h1 h2 hz h hs hfew hline hsw
theorem ds_retO1 {z : Str} {j : Nat} (hi : C.N.idxOf? z = some j) (hS : S[j]? = some (.own ds)) (hv : nmB C.sc z = true) (h : P.rt (.own ds)) : DS C (.Return (some (.Name z pos')) pos) S P := by
  obtain ⟨v, h1, h2⟩ := nmB_vis hv
  exact ds_retOwn j hS (idx_get hi) v h1 h2 h
theorem ds_letO {j : Nat} (he : DE C e S o) (hi : C.N.idxOf? x = some j) (hx : locB C x = true) (hj : j < S.length) (ho : ∀ r, o = .ok r → P.nx (S.set j r.slot)) (hx' : ∀ x, o = .error x → P.ex x S)
    (hs : ∀ env, swapsWith e (some (.Name x pos')) pos.line env = pure false) : DS C (.Assign [.Name x pos'] e pos) S P := ds_setO j he (idx_get hi) (locB_loc hx) hj ho hx' hs
theorem ds_for' {tg it : Expr} {body : List Stmt} {items : List D} (I : Nat → List Slot → Prop) (htop : C.top = true) (hi : DIt C true tg it S items) (h0 : I 0 S)
    (hs : ∀ i d S', items[i]? = some d → I i S' → DG C tg S' d fun S2 => DSs C body S2 { P with nx := I (i + 1), ct := I (i + 1), bk := P.nx })
    (hd : ∀ S', I items.length S' → P.nx S') (hf : ∀ env x, foldedSetIterable it env x = pure x) : DS C (.For tg it body [] pos) S P := ds_for htop hi I h0 hs hd hf
end
/-- flat data -/
theorem flat_tup {ds : List D} (h : ∀ d ∈ ds, Flat d) : Flat (.tup ds) := .tup h
theorem flat_nil : ∀ d ∈ ([] : List D), Flat d := fun _ h => by cases h
theorem flat_cons {d : D} {ds : List D} (h : Flat d) (r : ∀ d ∈ ds, Flat d) : ∀ x ∈ d :: ds, Flat x := fun x hx => by
  rcases List.mem_cons.mp hx with rfl | hx
  · exact h
  · exact r x hx
theorem flat_map {α : Type} {f : α → D} {l : List α} (h : ∀ x, Flat (f x)) : ∀ d ∈ l.map f, Flat d := fun d hd => by
  obtain ⟨x, _, rfl⟩ := List.mem_map.mp hd
  exact h x
theorem flat_app {l m : List D} (h : ∀ d ∈ l, Flat d) (g : ∀ d ∈ m, Flat d) : ∀ d ∈ l ++ m, Flat d := fun d hd => by
  rcases List.mem_append.mp hd with q | q
  · exact h d q
  · exact g d q
theorem flat_set {l : List D} {n : Nat} {x : D} (h : ∀ d ∈ l, Flat d) (g : Flat x) : ∀ d ∈ l.set n x, Flat d := fun d hd => by
  rcases List.mem_or_eq_of_mem_set hd with q | q
  · exact h d q
  · rw [q]; exact g
theorem flat_cut {l : List D} {lo hi : Option Int} (h : ∀ d ∈ l, Flat d) : ∀ d ∈ cutG l lo hi, Flat d := fun d hd => h d (cutG_mem hd)
end BK
/-! Part J: == and != of data. -/
namespace BK
open PySem PySem.Spec PyProof.Rows L2
mutual
def D.py : D → PyData
  | .non => .none
  | .bl b => .bool b
  | .int i => .int i
  | .str x => .str x
  | .tup ds => .tuple (D.pys ds)
  | .lst ds => .list (D.pys ds)
  | .ktup _ => .none
  | .scr _ => .none
  | .dic _ => .none
  | .exc _ _ => .none
def D.pys : List D → List PyData
  | [] => []
  | d :: ds => d.py :: D.pys ds
end
/-- numbers, texts, None, lists and tuples of these, at most n deep -/
inductive Pl : Nat → D → Prop
  | non {n : Nat} : Pl n .non
  | int {n : Nat} (i : Int) : Pl n (.int i)
  | str {n : Nat} {x : Str} (h : PyData.strOk x = true) : Pl n (.str x)
  | tup {n : Nat} {ds : List D} (h : ∀ d ∈ ds, Pl n d) : Pl (n + 1) (.tup ds)
  | lst {n : Nat} {ds : List D} (h : ∀ d ∈ ds, Pl n d) : Pl (n + 1) (.lst ds)
section
variable {K : PySem.W.Frag} {H : Hp} {O : Addr → Prop}
theorem Pl.dp : ∀ {n : Nat} {d : D} {v : V}, Pl n d → Rep K H O v d → Dp K H v d.py := by
  intro n
  induction n with
  | zero =>
    intro d v p r
    cases p with
    | non => cases r; rw [D.py]; exact .non
    | int i => cases r; rw [D.py]; exact .int i
    | str h => cases r; rw [D.py]; exact .str _
  | succ n ih =>
    have al : ∀ (ds : List D) (vs : List V), (∀ d ∈ ds, Pl n d) → Reps K H O vs ds → DpAll K H vs (D.pys ds) := by
      intro ds
      induction ds with
      | nil => intro vs _ r; cases r; rw [D.pys]; exact .nil
      | cons d ds ih2 =>
        intro vs h r
        cases r with
        | cons r1 r2 => rw [D.pys]; exact .cons (ih (h d List.mem_cons_self) r1) (ih2 _ (fun d q => h d (List.mem_cons_of_mem _ q)) r2)
    intro d v p r
    cases p with
    | non => cases r; rw [D.py]; exact .non
    | int i => cases r; rw [D.py]; exact .int i
    | str h => cases r; rw [D.py]; exact .str _
    | tup h => cases r with
      | tup hl rs => rw [D.py]; exact .tup (.inl (.inl hl)) (al _ _ h rs)
    | lst h => cases r with
      | lst _ hl rs => rw [D.py]; exact .lst (.inl (.inl hl)) (al _ _ h rs)
theorem Pl.lay : ∀ {n : Nat} {d : D}, Pl n d → d.py.canLay0 = true ∧ d.py.depth ≤ n := by
  intro n
  induction n with
  | zero =>
    intro d p
    cases p with
    | non => rw [D.py]; exact ⟨rfl, Nat.zero_le _⟩
    | int i => rw [D.py]; exact ⟨rfl, Nat.zero_le _⟩
    | str h => rw [D.py]; exact ⟨by rw [PyData.canLay0]; exact h, Nat.zero_le _⟩
  | succ n ih =>
    have al : ∀ ds : List D, (∀ d ∈ ds, Pl n d) → PyData.canLayAll0 (D.pys ds) = true ∧ PyData.depthAll (D.pys ds) ≤ n := by
      intro ds
      induction ds with
      | nil => intro _; rw [D.pys]; exact ⟨rfl, Nat.zero_le _⟩
      | cons d ds ih2 =>
        intro h
        obtain ⟨a1, a2⟩ := ih (h d List.mem_cons_self)
        obtain ⟨b1, b2⟩ := ih2 fun d q => h d (List.mem_cons_of_mem _ q)
        rw [D.pys, PyData.canLayAll0, PyData.depthAll, a1, b1]
        exact ⟨rfl, Nat.max_le.mpr ⟨a2, b2⟩⟩
    intro d p
    cases p with
    | non => rw [D.py]; exact ⟨rfl, Nat.zero_le _⟩
    | int i => rw [D.py]; exact ⟨rfl, Nat.zero_le _⟩
    | str h => rw [D.py]; exact ⟨by rw [PyData.canLay0]; exact h, Nat.zero_le _⟩
    | tup h =>
      obtain ⟨a1, a2⟩ := al _ h
      rw [D.py, PyData.canLay0, PyData.depth]; exact ⟨a1, Nat.succ_le_succ a2⟩
    | lst h =>
      obtain ⟨a1, a2⟩ := al _ h
      rw [D.py, PyData.canLay0, PyData.depth]; exact ⟨a1, Nat.succ_le_succ a2⟩
theorem Pl.shaped {n : Nat} {d : D} (p : Pl n d) (hn : n ≤ 64) : SeqAt.shaped d.py = true := by
  unfold SeqAt.shaped
  rw [p.lay.1, decide_eq_true (Nat.le_trans p.lay.2 hn)]; rfl
theorem Pl.eqv : ∀ {n : Nat} {a b : D}, Pl n a → Pl n b → (PyData.eqv a.py b.py = true ↔ a = b) := by
  intro n
  induction n with
  | zero =>
    intro a b p q
    cases p <;> cases q <;> simp [D.py, PyData.eqv]
  | succ n ih =>
    have al : ∀ xs ys : List D, (∀ d ∈ xs, Pl n d) → (∀ d ∈ ys, Pl n d) → (PyData.eqvAll (D.pys xs) (D.pys ys) = true ↔ xs = ys) := by
      intro xs
      induction xs with
      | nil =>
        intro ys _ _
        cases ys with
        | nil => simp [D.pys, PyData.eqvAll]
        | cons y ys => simp [D.pys, PyData.eqvAll]
      | cons x xs ih2 =>
        intro ys h1 h2
        cases ys with
        | nil => simp [D.pys, PyData.eqvAll]
        | cons y ys =>
          rw [D.pys, D.pys, PyData.eqvAll, Bool.and_eq_true, ih (h1 x List.mem_cons_self) (h2 y List.mem_cons_self), ih2 ys (fun d q => h1 d (List.mem_cons_of_mem _ q)) fun d q => h2 d (List.mem_cons_of_mem _ q)]
          simp
    intro a b p q
    cases p with
    | tup h => cases q with
      | tup g => rw [D.py, D.py, PyData.eqv, al _ _ h g]; simp
      | _ => simp [D.py, PyData.eqv]
    | lst h => cases q with
      | lst g => rw [D.py, D.py, PyData.eqv, al _ _ h g]; simp
      | _ => simp [D.py, PyData.eqv]
    | _ => cases q <;> simp [D.py, PyData.eqv]
end
theorem pl_map {α : Type} {n : Nat} {f : α → D} {l : List α} (h : ∀ x, Pl n (f x)) : ∀ d ∈ l.map f, Pl n d := fun d hd => by
  obtain ⟨x, _, rfl⟩ := List.mem_map.mp hd
  exact h x
theorem pl_nil {n : Nat} : ∀ d ∈ ([] : List D), Pl n d := fun _ h => by cases h
theorem pl_cons {n : Nat} {d : D} {ds : List D} (h : Pl n d) (r : ∀ d ∈ ds, Pl n d) : ∀ x ∈ d :: ds, Pl n x := fun x hx => by
  rcases List.mem_cons.mp hx with rfl | hx
  · exact h
  · exact r x hx
section
variable {C : Ctx} {S : List Slot} {a b : Expr} {da db : D} {pos : Pos} {x : Bool} {n : Nat}
theorem op2_eqD {K : PySem.W.Frag} (pa : Pl n da) (pb : Pl n db) (hn : n ≤ 64) : Op2 K (rEqD K) da db (.val (.bl (PyData.eqv da.py db.py))) := fun A H x y Q _ rx ry hq => ⟨_, _, pa.dp rx, pb.dp ry, pa.shaped hn, pb.shaped hn, hq _ H (Ex.refl H) (.bl _)⟩
theorem op2_neD {K : PySem.W.Frag} (pa : Pl n da) (pb : Pl n db) (hn : n ≤ 64) : Op2 K (rNeD K) da db (.val (.bl (!PyData.eqv da.py db.py))) := fun A H x y Q _ rx ry hq => ⟨_, _, pa.dp rx, pb.dp ry, pa.shaped hn, pb.shaped hn, hq _ H (Ex.refl H) (.bl _)⟩
theorem bool_of_iff {p q : Bool} (h : p = true ↔ q = true) : p = q := by
  cases p <;> cases q <;> simp_all
theorem de_eqD (n : Nat) (ha : DL C false a S da) (hb : DL C false b S db) (pa : Pl n da) (pb : Pl n db) (hx : x = true ↔ da = db) (hn : n ≤ 64) : DB C (.Compare a [.Eq] [b] pos) S x := by
  rw [show x = PyData.eqv da.py db.py from bool_of_iff (hx.trans (pa.eqv pb).symm)]
  exact de_cmp (fun r g => op_eqD g.room.units) (nomark _) ha hb (op2_eqD pa pb hn) (.inr (.bl _))
theorem dt_eqD (n : Nat) (ha : DL C false a S da) (hb : DL C false b S db) (pa : Pl n da) (pb : Pl n db) (hx : x = true ↔ da = db) (hn : n ≤ 64) : DT C (.Compare a [.Eq] [b] pos) S x := by
  rw [show x = PyData.eqv da.py db.py from bool_of_iff (hx.trans (pa.eqv pb).symm)]
  exact dt_cmp (fun r g => op_eqD g.room.units) (nomark _) ha hb (op2_eqD pa pb hn)
theorem de_neD (n : Nat) (ha : DL C false a S da) (hb : DL C false b S db) (pa : Pl n da) (pb : Pl n db) (hx : x = true ↔ da ≠ db) (hn : n ≤ 64) : DB C (.Compare a [.NotEq] [b] pos) S x := by
  rw [show x = !PyData.eqv da.py db.py from bool_of_iff (hx.trans (by rw [Bool.not_eq_true', Bool.eq_false_iff]; exact not_congr (pa.eqv pb).symm))]
  exact de_cmp (fun r g => op_neD g.room.units) (nomark _) ha hb (op2_neD pa pb hn) (.inr (.bl _))
theorem dt_neD (n : Nat) (ha : DL C false a S da) (hb : DL C false b S db) (pa : Pl n da) (pb : Pl n db) (hx : x = true ↔ da ≠ db) (hn : n ≤ 64) : DT C (.Compare a [.NotEq] [b] pos) S x := by
  rw [show x = !PyData.eqv da.py db.py from bool_of_iff (hx.trans (by rw [Bool.not_eq_true', Bool.eq_false_iff]; exact not_congr (pa.eqv pb).symm))]
  exact dt_cmp (fun r g => op_neD g.room.units) (nomark _) ha hb (op2_neD pa pb hn)
end
end BK
/-! Part K: defs with defaults; a raise out of an argument. -/
namespace BK
open PySem PySem.Spec PyProof.Rows L2
theorem fn_dataD {M : Mo} {x qual : Str} {params : Arguments} {body : List Stmt} {scope : Scope} {dvs : List V} {kws : List (Str × V)} {f : Addr} {fd : FuncData} {N ps : List Str} {Fd : List D → Out → Prop} (F : FunD M.K x qual params body scope dvs kws f fd) (S : FnScope N ps scope) (hlen : ∀ ds o, Fd ds o → ds.length = ps.length)
    (hb : ∀ ds o, Fd ds o → DSs ⟨M, N, scope, true⟩ body (startS N ds) (postOf o)) : FnOk M.P M.w M.K M.mg M.base (L2.CX M.P M.w) (M.k + 1) f fd ps (spOf M.K Fd) := by
  have hpl : ps.length ≤ N.length := by have := congrArg List.length S.pre; rw [List.length_take] at this; omega
  refine F.ok S (fun vs H Q E h => ?_) (fun cdv A outer s H vs Q E hr h => ?_)
  · obtain ⟨Oc, ds, o, _, r, hF, _⟩ := h
    rw [r.length, hlen ds o hF]
  · obtain ⟨Oc, ds, o, hod, r, hF, hq, hx⟩ := h
    let C : Ctx := ⟨M, N, scope, true⟩
    let W : WX := fun cls d _ H => E cls d H
    refine ⟨tSs C body W, ?_, ?_⟩
    · exact pss_tSs (C := C) (r := { A := A.deeper (envOfC qual scope s.heap.objs.size f cdv), s_0 := s, H_0 := H, env := envOfC qual scope s.heap.objs.size f cdv, outer := outer, stack := envOfC qual scope s.heap.objs.size f cdv :: outer, ex := [], fn := fun _ => true, calm := true, pn := [], xe := _ }) ⟨⟨rfl, rfl, hr, S.nd, .inl fun _ => rfl, fun _ => ⟨rfl, rfl, rfl, passes_of (X := cxOf (L2.CX M.P M.w) M.P M.w M.K M.mg M.base N qual scope f cdv A outer s H E) rfl⟩⟩, takes_of rfl rfl rfl rfl⟩
    · exact hb ds o hF W Oc H H _ _ hod (sat_start r (by rw [hlen ds o hF]; exact hpl)) _
        (fun S' H' σ' fp' hn sat => hq _ _ H' hn sat.ex .non)
        (fun r v H' hr ex res => hq r v H' hr ex res)
        (fun e cls d H' σ' S' fp' he sat xr => hx e cls d H' he sat.ex xr)
        (fun _ _ _ _ h => h.elim) (fun _ _ _ _ h => h.elim)
/-- a def of the module whose last arguments are left out -/
structure CalD (M : Mo) (x : String) (F : List D → Out → Prop) (dvs : List V) : Prop where
  ex : ∃ (f : Addr) (fd : FuncData) (ps : List Str) (ds : List Value), FnOk M.P M.w M.K M.mg M.base (L2.CX M.P M.w) M.k f fd ps (spOf M.K F) ∧ M.mg (Str.ofString x) = some (.ref f) ∧ PySem.W.keepIn M.K (.ref f) = true ∧ Vals dvs ds ∧ Binds M.K fd ps ds
theorem CalD.up {M : Mo} {x : String} {F : List D → Out → Prop} {dvs : List V} (h : CalD M x F dvs) {k : Nat} (hk : M.k ≤ k) : CalD (M.at k) x F dvs := by
  obtain ⟨f, fd, ps, ds, G, mg, kp, b⟩ := h.ex
  exact ⟨f, fd, ps, ds, G.mono hk, mg, kp, b⟩
section
variable {C : Ctx} {S : List Slot} {e a : Expr} {es : List Expr} {o : Out} {r : R} {d : D} {ds dd : List D} {lv : Bool} {pos : Pos}
theorem de_fnD {x : String} {p : Pos} {F : List D → Out → Prop} {dvs : List V} (hF : CalD C.M x F dvs) (hg : glB C.sc (Str.ofString x) = true) (ha : DA C lv (e :: es) S ds) (h : F (ds ++ dd) (.ok r)) (hd : ∀ H O, Reps C.M.K H O dvs dd) (hf : lv = true ∨ r.Flat)
    (he : ∀ env, starEach (e :: es) env = (false, eval e env) :: starEach es env) (hpl : ∀ env, (backTo pos (starEach es env)).any (·.1) = false) : DE C (.Call (.Name (Str.ofString x) p) (e :: es) [] pos) S (.ok r) := by
  obtain ⟨f, fd, ps, vs0, G, mg, kp, hv, b⟩ := hF.ex
  refine .mk fun W => ⟨tCall (spOf C.M.K F) dvs E0 (tA C (e :: es) W), fun r fm => pe_call G fm.g.room ((glB_gl hg).1.gl fm.g) mg kp b hv passL (pa_tA fm) (glB_gl hg).2 (he _) (hpl _), fun Oc H0 H σ fp hod sat Q hq hx => ?_⟩
  refine ha W Oc H0 H σ fp hod sat _ fun vs H1 e1 reps => ⟨_, ds ++ dd, .ok r, ((sat.thereO hod).ex e1).lvl, reps.app (hd _ _), h, fun r' v H2 er e2 res => ?_, fun _ _ _ _ er => nomatch er⟩
  cases er
  exact hq _ v H2 rfl (e1.trans e2) ((res.unlvl hf).base e1)
/-- the argument raises -/
theorem de_fnE {x : String} {p : Pos} {F : List D → Out → Prop} {er : Exc} (hF : Cal C.M x F) (hg : glB C.sc (Str.ofString x) = true) (ha : DE C a S (.error er))
    (he : ∀ env, starEach (a :: []) env = (false, eval a env) :: starEach [] env) : DE C (.Call (.Name (Str.ofString x) p) [a] [] pos) S (.error er) := by
  obtain ⟨f, fd, ps, G, mg, kp, b⟩ := hF.ex
  refine .mk fun W => ⟨_, fun r fm => pe_callS (E := WE W) G fm.g.room ((glB_gl hg).1.gl fm.g) mg kp b (fun σ => passAt fm.t σ) (pa_cons (pe_tE fm) pa_nil (he _)) (glB_gl hg).2 (he _) rfl, fun Oc H0 H σ fp hod sat Q hq hx => ?_⟩
  exact ha W Oc H0 H σ fp hod sat _ (fun _ _ _ z => nomatch z) fun e cls d H' z ex xr => hx e cls d H' z ex xr
end
end BK
/-! Part L: the end. -/
namespace BK
open PySem PySem.Spec PyProof.Rows L2
section
variable {K : PySem.W.Frag}
theorem fun_of {x qual : Str} {st : Stmt} {f : Addr} {fd : FuncData} (F : FunD K x qual (defArgs st) (defBody st) (defScope st) [] [] f fd) : Fun K x qual st f fd := by
  obtain ⟨⟨oc, od, dV, kV, doc, pm, an, cdv, ct, osl, h1, h2, h3, h4, h5⟩, kp⟩ := F
  rcases h4 with ⟨_, rfl⟩ | ⟨h, _⟩
  · exact ⟨⟨oc, od, kV, doc, pm, an, cdv, ct, osl, h1, h2, h3⟩, kp⟩
  · exact absurd rfl h
def exB (K : PySem.W.Frag) (C : Addr) : Bool := He.eqO (PySem.W.findIn K (.ref C) "__getattribute__") (some (some (.builtin "BaseException.__getattribute__"))) && (He.eqO (PySem.W.findIn K (.ref C) "__getattr__") (some none) && (decide (PySem.W.subIn K (.ref C) (.type "BaseException") = some true) && (PySem.W.hasDictIn K C &&
  (He.eqO (PySem.W.findIn K (.ref C) "__class__") (some (some (.builtin "object.__class__"))) && (He.eqO (PySem.W.specialIn K (.builtin "object.__class__") "__get__") (some (some (.builtin "getset_descriptor.__get__"))) && (decide (PySem.W.takesIn K (.builtin "object.__class__") = some true) && decide (PySem.W.mroIn K C (.type "object") = some true)))))))
theorem exB_ok {C : Addr} (h : exB K C = true) : ExcC K C := by
  obtain ⟨h1, h⟩ := He.ba h
  obtain ⟨h2, h⟩ := He.ba h
  obtain ⟨h3, h⟩ := He.ba h
  obtain ⟨h4, h⟩ := He.ba h
  obtain ⟨h5, h⟩ := He.ba h
  obtain ⟨h6, h⟩ := He.ba h
  obtain ⟨h7, h8⟩ := He.ba h
  exact ⟨He.eqO_ok h1, He.eqO_ok h2, of_decide_eq_true h3, h4, He.eqO_ok h5, He.eqO_ok h6, of_decide_eq_true h7, of_decide_eq_true h8⟩
/-- a class whose __init__ keeps a field -/
def oexB (K : PySem.W.Frag) (C : Addr) : Bool := (match K.lookup C with
  | some ⟨.type t, _, .cls cd, sl⟩ => (match cd.mro, sl.toList with
    | .ref c :: bm, [_, _, _, _, some (.builtin n), _] => decide (t = "type") && (decide (c = C) && (decide (n = "ValueError.__new__") && (cd.hasDict && (!cd.hasDel && PySem.HandSPX.refsVE bm))))
    | _, _ => false)
  | _ => false) && (He.eqO (PySem.W.findIn K (.ref C) "__setattr__") (some (some (.builtin "object.__setattr__"))) && (decide (PySem.W.subIn K (.ref C) (.type "BaseException") = some true) && (decide (PySem.W.typeIn K (.ref C) = some (.type "type")) && PySem.W.keepIn K (.ref C))))
theorem oexB_ok {C : Addr} (h : oexB K C = true) : OexC K C := by
  obtain ⟨h1, h⟩ := He.ba h
  obtain ⟨h2, h⟩ := He.ba h
  obtain ⟨h3, h⟩ := He.ba h
  obtain ⟨h4, h5⟩ := He.ba h
  refine ⟨?_, He.eqO_ok h2, of_decide_eq_true h3, of_decide_eq_true h4, h5⟩
  split at h1
  · rename_i t dd cd sl ho
    split at h1
    · rename_i c bm k0 k1 k2 k3 n k5 hm hs
      obtain ⟨a1, h1⟩ := He.ba h1
      obtain ⟨a2, h1⟩ := He.ba h1
      obtain ⟨a3, h1⟩ := He.ba h1
      obtain ⟨a4, h1⟩ := He.ba h1
      obtain ⟨a5, a6⟩ := He.ba h1
      have b1 := of_decide_eq_true a1
      have b2 := of_decide_eq_true a2
      have b3 := of_decide_eq_true a3
      subst b1 b2 b3
      obtain ⟨nm, bs, mro, ns, qn, hd, sn, sub, ab, col, del⟩ := cd
      dsimp only at hm a4 a5
      subst hm a4
      cases del with
      | true => cases a5
      | false =>
        obtain ⟨l⟩ := sl
        dsimp only at hs
        subst hs
        exact ⟨nm, qn, ns, bs, bm, sn, sub, ab, col, dd, k0, k1, k2, k3, k5, ho, a6⟩
    · cases h1
  · cases h1
theorem exc0_of {M : Mo} {h : Heap} (X : M.K.In h) (G : h.Ns mainGlobals M.mg) {x : Str} (c : (He.Fa.exc x).ok M.K = true) (g : M.mg x = some (.ref (He.ga M.K x))) : Exc0 M x (He.ga M.K x) := by
  obtain ⟨h1, h⟩ := He.ba (show (PySem.W.excIn M.K (He.ga M.K x) He.veBase "ValueError.__new__" && (PySem.W.keepIn M.K (.ref (He.ga M.K x)) && (decide (PySem.W.subIn M.K (.ref (He.ga M.K x)) (.type "BaseException") = some true) && decide (PySem.W.typeIn M.K (.ref (He.ga M.K x)) = some (.type "type"))))) = true from c)
  obtain ⟨h2, h⟩ := He.ba h
  obtain ⟨h3, h4⟩ := He.ba h
  exact ⟨g, h1, h2, of_decide_eq_true h3, of_decide_eq_true h4⟩
theorem sp_law {F : List D → Out → Prop} (hF : ∀ ns : List Int, ns.length ≤ 63 → F [.scr ns] (.ok (.val (.bl true)))) {H : Hp} {a : Addr} {ns : List Int} (hl : ns.length ≤ 63) (hO : Only H) (hS : SqL K H a (ns.map V.int)) : spOf K F [.ref a] H (fun v _ => v = .bl true) fun _ _ _ => False := by
  refine ⟨fun _ => False, [.scr ns], .ok (.val (.bl true)), fun a h => h.elim, .cons (.scr ?_) .nil, hF ns hl, fun r v H' er _ res => ?_, fun _ _ _ _ er => nomatch er⟩
  · rcases hS with (h | ⟨o, h⟩) | h
    · rcases hO a with q | ⟨o, xs, q⟩
      · rw [h] at q; cases q
      · rw [h] at q; cases q
    · exact .inl ⟨o, h⟩
    · exact .inr (.inr h)
  · cases er; cases res; rfl
end
theorem cx_none {P : Program} {w : World} {H : Hp} {s s' : Shared} {e : Value} (h : L2.CX P w [] H s (fun _ _ _ => False) e s') : False := by
  obtain ⟨_, _, _, _, _, _, _, _, _, _, _, _, z⟩ := h
  exact z
end BK
/-! Part M: a def whose first argument is a list of the caller's own. -/
namespace BK
open PySem PySem.Spec PyProof.Rows L2
def DJ (C : Ctx) (j : Nat) (l : Addr) (sts : List Stmt) (S : List Slot) (P R : List Slot → Prop) : Prop := ∀ (W : WX) Oc H0 H σ fp, There Oc H0 → Sat C.M.K Oc H0 H σ S fp → fp j = [l] → ∀ D : Ends,
  (∀ S' H' σ' fp', P S' → Sat C.M.K Oc H0 H' σ' S' fp' → fp' j = [l] → D.nx σ' H') → (∀ S' H' σ' fp', R S' → Sat C.M.K Oc H0 H' σ' S' fp' → fp' j = [l] → D.rt .non H') → tSs C sts W D σ H
section
variable {C : Ctx} {j : Nat} {l : Addr} {S : List Slot} {P R : List Slot → Prop} {rest A B : List Stmt} {pos : Pos} {c e : Expr} {x : Bool} {d : D} {ds : List D}
theorem dj_nil (h : P S) : DJ C j l [] S P R := fun W Oc H0 H σ fp hod sat hf D h1 h2 => ⟨tNext, fun _ _ => pss_nil, h1 S H σ fp h sat hf⟩
theorem dj_ret (h : R S) : DJ C j l (.Return none pos :: rest) S P R := fun W Oc H0 H σ fp hod sat hf D h1 h2 => ⟨tSeq tRetN (tSs C rest W), fun r f => pss_cons ps_retN (pss_tSs f), h2 S H σ fp h sat hf⟩
theorem dj_if (hc : DT C c S x) (ht : x = true → DJ C j l A S (fun S' => DJ C j l rest S' P R) R) (hf : x = false → DJ C j l B S (fun S' => DJ C j l rest S' P R) R) : DJ C j l (.If c A B pos :: rest) S P R := fun W Oc H0 H σ fp hod sat hl D h1 h2 =>
  ⟨tSeq (tIfS (tT C c W) (tSs C A W) (tSs C B W)) (tSs C rest W), fun r f => pss_cons (ps_if (pt_tT f) (pss_tSs f) (pss_tSs f)) (pss_tSs f), hc W Oc H0 H σ fp (hod.up sat) sat _ fun H' ex => by
    cases x with
    | true => exact ht rfl W Oc H0 H' σ fp hod (sat.mono ex) hl _ (fun S' H' σ' fp' p s q => p W Oc H0 H' σ' fp' hod s q D h1 h2) h2
    | false => exact hf rfl W Oc H0 H' σ fp hod (sat.mono ex) hl _ (fun S' H' σ' fp' p s q => p W Oc H0 H' σ' fp' hod s q D h1 h2) h2⟩
theorem Sat.setv' {K : PySem.W.Frag} {Oc : Addr → Prop} {H0 H : Hp} {σ : L2.St} {fp : Nat → List Addr} {v : V} (h : Sat K Oc H0 H σ S fp) (hv : Rep K H (Ow Oc fp) v d) {i : Nat} (hi : i < S.length) : Sat K Oc H0 H (σ.set i (some v)) (S.set i (.val d)) (fset fp i []) := by
  have sub : ∀ a, Ow Oc (fset fp i []) a → Ow Oc fp a := fun a z => (Ow_fset a z).elim id fun q => by cases q
  exact h.put hi (some v) (.val d) [] (fun a z => by cases z) (fun a z => by cases z) ⟨rfl, v, rfl, hv.less sub⟩ (fun i s _ q => (h.slot i s q).step (Ex.refl H) fun a z => .inl (sub a z))
theorem dj_let {z : Str} {i : Nat} {pos' : Pos} (he : DE C e S (.ok (.val d))) (hi : C.N.idxOf? z = some i) (hx : locB C z = true) (hil : i < S.length) (hij : i ≠ j) (h : DJ C j l rest (S.set i (.val d)) P R)
    (hs : ∀ env, swapsWith e (some (.Name z pos')) pos.line env = pure false := by intro _; rfl) : DJ C j l (.Assign [.Name z pos'] e pos :: rest) S P R := fun W Oc H0 H σ fp hod sat hl D h1 h2 =>
  ⟨tSeq (tAsg (tE C e W) (gName i)) (tSs C rest W), fun r f => pss_cons ((locB_loc hx).ps (idx_get hi) f (hs _)) (pss_tSs f), he W Oc H0 H σ fp (hod.up sat) sat _
    (fun r v H' er ex res => by
      cases er
      exact h W Oc H0 H' _ _ hod ((sat.mono ex).setv' res hil) (by rw [fset_ne hij.symm]; exact hl) D h1 h2)
    (fun _ _ _ _ er => nomatch er)⟩
theorem dj_pop {z u : Str} {ap p1 p2 p3 : Pos} {i : Nat} (hz : C.N.idxOf? z = some j) (hS : S[j]? = some (.own (ds ++ [d]))) (hv : nmB C.sc z = true) (hi : C.N.idxOf? u = some i) (hx : locB C u = true) (hil : i < S.length) (hij : i ≠ j)
    (h : DJ C j l rest ((S.set j (.own ds)).set i (.val d)) P R) (hline : (ap.endLine == p2.line) = true := by rfl) :
    DJ C j l (.Assign [.Name u p3] (.Call (.Attribute (.Name z p1) "pop" ap) [] [] p2) pos :: rest) S P R := by
  obtain ⟨hv1, hd, hcd⟩ := nmB_vis hv
  refine fun W Oc H0 H σ fp hod sat hl D h1 h2 => ⟨tSeq (tAsg (tBM0 C.M.K "list" rPop (tVar j)) (gName i)) (tSs C rest W), fun r f => pss_cons ((locB_loc hx).ps' (idx_get hi) f (pe_bm0 PySem.F.plainAttrs_list PySem.F.slot_list_pop PySem.F.type_list_pop mt_pop (pe_var (idx_get hz) (vis_of hv1 f.g) hd hcd) rfl hline) rfl) (pss_tSs f), ?_⟩
  obtain ⟨l', vs, el, hf, hl', reps⟩ := sat.own hS
  have hlen := reps.length
  rw [List.length_append, List.length_singleton] at hlen
  have hg : (ds ++ [d])[vs.length - 1]? = some d := by
    rw [hlen, Nat.add_sub_cancel, List.getElem?_append_right (Nat.le_refl _), Nat.sub_self]; rfl
  obtain ⟨v, ev, rep⟩ := reps.getD hg
  have hdl : Reps C.M.K H (Ow Oc fp) vs.dropLast ds := by
    have q := reps.take (vs.length - 1)
    rw [← List.dropLast_eq_take, hlen, Nat.add_sub_cancel, List.take_append_of_le_length (Nat.le_refl _), List.take_length] at q
    exact q
  refine ⟨_, el, .inl ⟨rfl, vs, .inl (.inl hl')⟩, l', vs, v, rfl, rfl, hl', ev, ?_⟩
  have s1 := sat.write hS hf hdl
  have ml : l' ∈ fp j := by rw [hf]; exact List.mem_cons_self
  have r1 : Rep C.M.K (upd H l' (.lst vs.dropLast)) (Ow Oc fp) v d := rep.write (.inr ⟨j, ml⟩) (sat.there ml)
  exact h W Oc H0 _ _ _ hod (s1.setv' r1 (by rw [List.length_set]; exact hil)) (by rw [fset_ne hij.symm]; exact hl) D h1 h2
theorem dj_app {z : Str} {ap p1 p2 : Pos} (hz' : C.N.idxOf? z = some j) (hS : S[j]? = some (.own ds)) (he : DL C true e S d) (hv : nmB C.sc z = true) (hz : ds.length ≤ 1000000) (h : DJ C j l rest (S.set j (.own (ds ++ [d]))) P R)
    (hs : ∀ env, starEach (e :: []) env = (false, eval e env) :: starEach [] env := by intro _; rfl)
    (hfew : ∀ env, ((backTo p2 (starEach (e :: []) env)).all (fun x => !x.1) && (backToKw p2 (keywordEach [] env)).all (fun x => x.1.isSome) && decide ((e :: []).length + ([] : List Keyword).length + (if ([] : List Keyword).isEmpty then 0 else 1) < 30)) = true := by intro _; rfl)
    (hline : (ap.endLine == p2.line) = true := by rfl) (hsw : ∀ env, swapsWith (.Call (.Attribute (.Name z p1) "append" ap) [e] [] p2) none pos.line env = pure false := by intro _; rfl) :
    DJ C j l (.Expr (.Call (.Attribute (.Name z p1) "append" ap) [e] [] p2) pos :: rest) S P R := by
  obtain ⟨hv1, hd, hcd⟩ := nmB_vis hv
  refine fun W Oc H0 H σ fp hod sat hf D h1 h2 => ⟨tSeq (tDrop (tBM C.M.K "list" rAppend (tVar j) (tCons (tE C e W) tNil))) (tSs C rest W), fun r f => pss_cons (ps_expr (pe_bm PySem.F.plainAttrs_list PySem.F.slot_list_append PySem.F.type_list_append mt_append (pe_var (idx_get hz') (vis_of hv1 f.g) hd hcd) (pa_cons (pe_tE f) pa_nil (hs _)) rfl (hfew _) hline (hs _) rfl) (hsw _)) (pss_tSs f), ?_⟩
  obtain ⟨l', vs, el, hf', hl, reps⟩ := sat.own hS
  refine ⟨_, el, .inl ⟨rfl, vs, .inl (.inl hl)⟩, he W Oc H0 H σ fp (hod.up sat) sat _ fun v H1 e1 rep => ⟨l', vs, v, rfl, rfl, e1 _ _ hl, ?_, ?_⟩⟩
  · rw [reps.length]; exact sz_lt hz
  · exact h W Oc H0 _ _ _ hod ((sat.mono e1).write hS hf' ((reps.mono e1).app (.one rep))) hf D h1 h2
end
/-- it changes the list at its first argument and gives None -/
def spJ (K : PySem.W.Frag) (F : List D → List D → List D → Prop) : Sp := fun vs H Q _ => ∃ (l : Addr) (ws xs : List V) (ds as ds' : List D), vs = .ref l :: ws ∧ H l = some (.lst xs) ∧ Reps K H (fun a => a = l) xs ds ∧ Reps K H (fun a => a = l) ws as ∧ F ds as ds' ∧
  ∀ H' xs', (∀ b o, b ≠ l → H b = some o → H' b = some o) → H' l = some (.lst xs') → Reps K H' (fun a => a = l) xs' ds' → Q .non H'
theorem fn_own {M : Mo} {x qual : Str} {st : Stmt} {f : Addr} {fd : FuncData} {N ps : List Str} {F : List D → List D → List D → Prop} (Fn : Fun M.K x qual st f fd) (S : FnScope N ps (defScope st)) (hlen : ∀ ds as ds', F ds as ds' → as.length + 1 = ps.length) (hfl : ∀ ds as ds', F ds as ds' → ∀ d ∈ ds', Flat d)
    (hb : ∀ l ds as ds', F ds as ds' → DJ ⟨M, N, defScope st, true⟩ 0 l (defBody st) (.own ds :: (as.map Slot.val ++ List.replicate (N.length - (as.length + 1)) .any)) (fun S' => S'[0]? = some (.own ds')) (fun S' => S'[0]? = some (.own ds'))) :
    FnOk M.P M.w M.K M.mg M.base (L2.CX M.P M.w) (M.k + 1) f fd ps (spJ M.K F) := by
  have hpl : ps.length ≤ N.length := by have := congrArg List.length S.pre; rw [List.length_take] at this; omega
  refine Fn.okX S (fun vs H Q E h => ?_) (fun cdv A outer s H vs Q E hr h => ?_)
  · obtain ⟨l, ws, xs, ds, as, ds', rfl, _, _, r, hF, _⟩ := h
    rw [List.length_cons, r.length, hlen _ _ _ hF]
  · obtain ⟨l, ws, xs, ds, as, ds', rfl, hl, rx, r, hF, hq⟩ := h
    let C : Ctx := ⟨M, N, defScope st, true⟩
    let W : WX := fun cls d _ H => E cls d H
    have hN : as.length + 1 ≤ N.length := by rw [hlen _ _ _ hF]; exact hpl
    refine ⟨tSs C (defBody st) W, ?_, ?_⟩
    · exact pss_tSs (C := C) (r := { A := A.deeper (envOfC qual (defScope st) s.heap.objs.size f cdv), s_0 := s, H_0 := H, env := envOfC qual (defScope st) s.heap.objs.size f cdv, outer := outer, stack := envOfC qual (defScope st) s.heap.objs.size f cdv :: outer, ex := [], fn := fun _ => true, calm := true, pn := [], xe := _ }) ⟨⟨rfl, rfl, hr, S.nd, .inl fun _ => rfl, fun _ => ⟨rfl, rfl, rfl, passes_of (X := cxOf (L2.CX M.P M.w) M.P M.w M.K M.mg M.base N qual (defScope st) f cdv A outer s H E) rfl⟩⟩, takes_of rfl rfl rfl rfl⟩
    · have ow : ∀ a, Ow (fun _ => False) (fun i => if i = 0 then [l] else []) a → a = l := fun a z => by
        rcases z with z | ⟨i, z⟩
        · exact z.elim
        · by_cases hi : i = 0
          · have z' : a ∈ (if i = 0 then [l] else []) := z
            rw [if_pos hi] at z'; exact List.mem_singleton.mp z'
          · have z' : a ∈ (if i = 0 then [l] else []) := z
            rw [if_neg hi] at z'; cases z'
      have sat : Sat M.K (fun _ => False) (fun b => if b = l then none else H b) H (L2.start N (.ref l :: ws)) (.own ds :: (as.map Slot.val ++ List.replicate (N.length - (as.length + 1)) .any)) (fun i => if i = 0 then [l] else []) := by
        refine ⟨?_, fun i s e => ?_, fun i hi => ?_, fun i j a h1 h2 => ?_, fun i a h => ?_, fun b o e => ?_⟩
        · have := r.length
          unfold L2.start
          simp [this]
        · cases i with
          | zero =>
            cases e
            exact ⟨l, xs, rfl, rfl, hl, rx.less ow⟩
          | succ i =>
            rw [List.getElem?_cons_succ] at e
            show SlotRep _ _ _ _ s []
            by_cases hi : i < as.length
            · rw [List.getElem?_append_left (by rw [List.length_map]; exact hi), List.getElem?_map, List.getElem?_eq_getElem hi] at e
              cases e
              obtain ⟨v, hv, rv⟩ := r.getD (List.getElem?_eq_getElem hi)
              refine ⟨rfl, v, ?_, rv.less ow⟩
              unfold L2.start
              rw [List.getD_eq_getElem?_getD, List.map_cons, List.cons_append, List.getElem?_cons_succ, List.getElem?_append_left (by rw [List.length_map, r.length]; exact hi), List.getElem?_map, hv]; rfl
            · rw [List.getElem?_append_right (by rw [List.length_map]; omega), List.getElem?_replicate] at e
              split at e
              · cases e; exact rfl
              · cases e
        · rw [List.length_cons] at hi
          exact if_neg (by omega)
        · by_cases hi : i = 0
          · by_cases hj : j = 0
            · rw [hi, hj]
            · have z' : a ∈ (if j = 0 then [l] else []) := h2
              rw [if_neg hj] at z'; cases z'
          · have z' : a ∈ (if i = 0 then [l] else []) := h1
            rw [if_neg hi] at z'; cases z'
        · by_cases hi : i = 0
          · have z' : a ∈ (if i = 0 then [l] else []) := h
            rw [if_pos hi] at z'; rw [List.mem_singleton.mp z']; exact if_pos rfl
          · have z' : a ∈ (if i = 0 then [l] else []) := h
            rw [if_neg hi] at z'; cases z'
        · by_cases hb : b = l
          · rw [if_pos hb] at e; cases e
          · rw [if_neg hb] at e; exact e
      have fin : ∀ S' H' σ' fp', S'[0]? = some (.own ds') → Sat M.K (fun _ => False) (fun b => if b = l then none else H b) H' σ' S' fp' → fp' 0 = [l] → Q .non H' := fun S' H' σ' fp' h0 s' hf => by
        obtain ⟨l', xs', _, hf', hl', rp⟩ := s'.own h0
        rw [hf] at hf'
        cases hf'
        exact hq H' xs' (fun b o hb e => s'.ex b o (by rw [if_neg hb]; exact e)) hl' (rp.flat (hfl _ _ _ hF))
      exact hb l ds as ds' hF W (fun _ => False) _ H _ _ (fun a h => h.elim) sat (if_pos rfl) _ (fun S' H' σ' fp' p s q => fin S' H' σ' fp' p s q) (fun S' H' σ' fp' p s q => fin S' H' σ' fp' p s q)
/-- such a def of the module -/
structure CalJ (M : Mo) (x : String) (F : List D → List D → List D → Prop) : Prop where
  ex : ∃ (f : Addr) (fd : FuncData) (ps : List Str), FnOk M.P M.w M.K M.mg M.base (L2.CX M.P M.w) M.k f fd ps (spJ M.K F) ∧ M.mg (Str.ofString x) = some (.ref f) ∧ PySem.W.keepIn M.K (.ref f) = true ∧ Binds M.K fd ps []
theorem ds_callJ {C : Ctx} {S : List Slot} {P : Post} {x : String} {z : Str} {p p1 p2 pos : Pos} {j : Nat} {es : List Expr} {F : List D → List D → List D → Prop} {ds as ds' : List D} (hF : CalJ C.M x F) (hg : glB C.sc (Str.ofString x) = true) (hi : C.N.idxOf? z = some j) (hv : nmB C.sc z = true) (hS : S[j]? = some (.own ds)) (ha : DA C true es S as) (h : F ds as ds')
    (hfl : ∀ d ∈ ds', Flat d) (hn : P.nx (S.set j (.own ds')))
    (he : ∀ env, starEach (.Name z p1 :: es) env = (false, eval (.Name z p1) env) :: starEach es env := by intro _; rfl) (hpl : ∀ env, (backTo p2 (starEach es env)).any (·.1) = false := by intro _; rfl)
    (hs : ∀ env, swapsWith (.Call (.Name (Str.ofString x) p) (.Name z p1 :: es) [] p2) none pos.line env = pure false := by intro _; rfl) : DS C (.Expr (.Call (.Name (Str.ofString x) p) (.Name z p1 :: es) [] p2) pos) S P := by
  obtain ⟨f, fd, ps, G, mg, kp, b⟩ := hF.ex
  obtain ⟨hv1, hd, hcd⟩ := nmB_vis hv
  refine .mk fun W => ⟨tDrop (tCall (spJ C.M.K F) [] E0 (tCons (tVar j) (tA C es W))), fun r fm => ps_expr (pe_call G fm.g.room ((glB_gl hg).1.gl fm.g) mg kp b .nil passL (pa_cons (pe_var (idx_get hi) (vis_of hv1 fm.g) hd hcd) (pa_tA fm) (he _)) (glB_gl hg).2 (he _) (hpl _)) (hs _), fun Oc H0 H σ fp hod sat D h1 h2 h3 h4 h5 => ?_⟩
  obtain ⟨l, vs, el, hf, hl, reps⟩ := sat.own hS
  have ml : l ∈ fp j := by rw [hf]; exact List.mem_cons_self
  have lo : ∀ a, a = l → Ow Oc fp a := fun a e => e ▸ .inr ⟨j, ml⟩
  refine ⟨_, el, ha W Oc H0 H σ fp (hod.up sat) sat _ fun ws H1 e1 rs => ?_⟩
  show spJ C.M.K F ((.ref l :: ws) ++ []) H1 _ _
  rw [List.append_nil]
  refine ⟨l, ws, vs, ds, as, ds', rfl, e1 _ _ hl, (reps.mono e1).less lo, rs.less lo, h, fun H2 xs' ek hl2 rp => ?_⟩
  have s1 := sat.mono e1
  have e2 : Ex H1 (upd H2 l (.lst vs)) := fun b o hb => by
    by_cases q : b = l
    · subst q
      rw [e1 _ _ hl] at hb
      cases hb
      exact upd_same
    · rw [upd_ne q]; exact ek b o q hb
  have s2 := s1.mono e2
  have rp2 : Reps C.M.K (upd H2 l (.lst vs)) (Ow Oc fp) xs' ds' := by
    exact (Reps.write (O := fun a => a = l) rfl (by rw [hl2]; trivial) rp).flat hfl
  have s3 := s2.write hS hf rp2
  have e3 : upd (upd H2 l (.lst vs)) l (.lst xs') = H2 := by
    funext b
    by_cases q : b = l
    · subst q; rw [upd_same, hl2]
    · rw [upd_ne q, upd_ne q]
  rw [e3] at s3
  exact h1 _ _ _ fp hn s3
end BK
/-! Part N: more rules. -/
namespace BK
open PySem PySem.Spec PyProof.Rows L2
section
variable {C : Ctx} {S : List Slot} {a b : Expr} {d : D} {v : V} {xs : List V} {lv x : Bool} {pos : Pos}
theorem dt_notInK (ea : d.sc = some v) (ha : DL C false a S d) (hb : DL C false b S (.ktup xs)) (hx : (!inV v xs) = x) (hm : behindInMarks .NotIn b = false) : DT C (.Compare a [.NotIn] [b] pos) S x := by
  subst hx
  exact dt_cmp (fun _ _ => op_notIn_seq) hm ha hb (op2_notInK ea)
theorem de_inK (ea : d.sc = some v) (ha : DL C false a S d) (hb : DL C false b S (.ktup xs)) (hx : inV v xs = x) (hm : behindInMarks .In b = false) : DB C (.Compare a [.In] [b] pos) S x := by
  subst hx
  exact de_cmp (fun _ _ => op_in_seq) hm ha hb (op2_inK ea) (.inr (.bl _))
end
theorem dt_neNil {C : Ctx} {S : List Slot} {a b : Expr} {ds : List D} {pos : Pos} (n : Nat) (ha : DL C false a S (.lst ds)) (hb : DL C false b S (.lst [])) (hp : Pl (n + 1) (.lst ds)) (hn : n + 1 ≤ 64) : DT C (.Compare a [.NotEq] [b] pos) S (!ds.isEmpty) :=
  dt_neD (n + 1) ha hb hp (.lst fun _ h => by cases h) (by cases ds <;> simp) hn
theorem dt_cast {C : Ctx} {S : List Slot} {e : Expr} {x y : Bool} (h : DT C e S x) (hx : x = y) : DT C e S y := hx ▸ h
end BK
/-! Part P: sorted(set(numbers)). -/
namespace BK
open PySem PySem.Spec PyProof.Rows L2
/-- a set that was just made -/
abbrev eSet (w : World) : Obj := ⟨.type "set", none, .set #[] 0 (.fresh 0 0 (!w.params.followText "set-order")), #[]⟩
section
variable {P : Program} {w : World} {A : Around} {E : Value → Shared → Prop} {s : Shared} {l : Addr} {items : Array Value} {ns : List Int}
/-- what set.__init__ leaves -/
def SetLeft (w : World) (s : Shared) (ns : List Int) (s2 : Shared) : Prop := ∃ (h' : Heap) (tk c : Nat), s2 = { s with heap := h', toks := tk } ∧ SetR w h' s.heap.objs.size (fun j => decide (j ∈ ns)) c ∧ c ≤ ns.length ∧ ∀ b o, s.heap.get? b = some o → h'.get? b = some o
set_option maxHeartbeats 3200000 in
theorem call_setL {Q : Value → Shared → Prop} (hd : A.handled = none) (hl : s.heap.IsList l items) (hi : IntsAre items.toList ns) (hb : ns.length + 1 < scanBound) (k : ∀ s2, SetLeft w s ns s2 → Q (.ref s.heap.objs.size) s2) : wpAny (model P w) A (call (.type "set") [.ref l]) Q E s := by
  have esz : items.size = ns.length := (Array.length_toList (xs := items)).symm.trans (IntsAre.length hi)
  obtain ⟨oc, tail, mro⟩ := F.called_set.mro
  have made := F.called_set.made
  have sub := F.called_set.sub
  have nty := F.called_set.notType
  have cre := F.called_set.canCreate
  have tc := F.typeCall_set_1 (.ref l)
  refine wpAny_call (codeAny_of_tree (show wpAny _ _ (callAny (.type "set") _) _ _ _ from wpAny_pure ⟨Code.quiet_builtin _ (by decide +kernel), codeAny_builtin F.entry_type_call ?_⟩))
  rw [Around.under_plain (weight_type_call_type "set" [.ref l] []) rfl]
  repeat (any_goals (first | assumption | wp_step))
  refine codeAny_mono (code_set_led1 (.ref l) (E := E) (Q₁ := fun v s1 => v = .ref s.heap.objs.size ∧ s1 = { s with heap := s.heap.push (eSet w) }) ⟨rfl, rfl⟩) fun r s1 hr => ?_
  cases r with
  | error e => exact hr
  | ok r =>
    cases r with
    | ret v =>
      obtain ⟨rfl, rfl⟩ := hr
      have gS : (s.heap.push (eSet w)).get? s.heap.objs.size = some (eSet w) := Heap.get?_push_size _ rfl
      have tS : Shared.TypeIs { s with heap := s.heap.push (eSet w) } (.ref s.heap.objs.size) "set" := ⟨_, gS, rfl⟩
      have ilk := F.called_set.init.lookup
      have ibd := F.called_set.init.bind (.ref s.heap.objs.size)
      repeat (any_goals (first | assumption | wp_step))
      refine codeAny_mono (codeAny_call_builtin (R := wants (fun r s2 => r = .none ∧ SetLeft w s ns s2) E) F.called_set.init.plain F.entry_set_init (check_set_init_1 tS ?_)) fun r s2 hr => ?_
      · obtain ⟨⟨cl, dc, dt, sl⟩, gl, ecl, n, edt⟩ := hl
        dsimp only at ecl edt
        cases ecl; cases edt
        have gl' := Heap.get?_push_of_some (eSet w) gl
        have s1 := F.sub_list_set
        have s2 := F.sub_list_frozenset
        have nd : (Value.type "list" == Value.type "dict") = false := by decide
        unfold Builtin.«set.__init__» noKeywords Builtin.Frozenset.updateFrom
        generalize hPI : pyIter = PI
        wp_walk
        subst hPI
        have il : (s.heap.push (eSet w)).IsList l items := ⟨_, gl', rfl, n, rfl⟩
        refine wpAny_pyIter_list il (wpAny_bind (wpAny_runValue ?_))
        have esz1 : (s.heap.push (eSet w)).objs.size = s.heap.objs.size + 1 := Heap.size_push ..
        have lt := Heap.lt_size gl
        have nel : l ≠ (s.heap.push (eSet w)).objs.size := by rw [esz1]; exact Nat.ne_of_lt (Nat.lt_succ_of_lt lt)
        refine set_update_ints ((Walks.list (by simp [hd]) _ l nel items).toS) s.heap.objs.size ?hf ns esz hb ?hv (items.size - 0) 0 _ (by omega) (Nat.zero_le _) ⟨⟨_, Heap.get?_push_size _ rfl, rfl, rfl⟩, il.push _⟩ ⟨0, Nat.le_refl 0, setR_new_at (Heap.get?_push_of_some _ gS)⟩ ?hR
        case hf =>
          intro z
          rcases List.mem_cons.mp z with z | z
          · exact Nat.ne_of_lt (Nat.lt_succ_self _) (z.trans esz1)
          · exact Nat.ne_of_gt lt (List.mem_singleton.mp z)
        case hv =>
          intro i v hv
          have lt' := (Array.getElem?_eq_some_iff.mp hv).1
          obtain ⟨t, e⟩ := IntsAre.int_at hi i v (by rw [Array.getElem?_toList]; exact hv)
          exact ⟨ns.getD i 0, t, by rw [List.getD_eq_getElem?_getD, List.getElem?_eq_getElem (by omega)]; rfl, e⟩
        case hR =>
          intro s' c hm hc hS
          refine wpAny_pure (show wpAny _ _ (ret Value.none) _ _ _ from wpAny_pure ⟨rfl, s'.heap, s'.toks, c, ?_, hS, by omega, fun b o e => ?_⟩)
          · have g1 : s'.gens = s.gens := hm.gens
            have g2 : s'.drawn = s.drawn := hm.drawn
            have g3 : s'.os = s.os := hm.os
            cases s'; cases s
            dsimp only at g1 g2 g3
            subst g1 g2 g3
            rfl
          · have lb := Heap.lt_size e
            refine hm.heap b o (fun z => ?_) (Heap.get?_push_of_some _ (Heap.get?_push_of_some _ e))
            rcases List.mem_cons.mp z with z | z
            · exact Nat.ne_of_lt lb z
            · exact Nat.ne_of_lt (Nat.lt_succ_of_lt lb) ((List.mem_singleton.mp z).trans esz1)
      · cases r with
        | error e => exact hr
        | ok r =>
          cases r with
          | ret v =>
            obtain ⟨rfl, h', tk, c, rfl, q⟩ := hr
            repeat (any_goals (first | assumption | wp_step))
            exact k _ ⟨h', tk, c, rfl, q⟩
          | _ => exact hr.elim
    | _ => exact hr.elim
end
/-- set(xs), xs a list of numbers -/
def rSetL (K : PySem.W.Frag) (w : World) : List V → Hp → VK → Prop := fun vs H Q => ∃ (l : Addr) (ns : List Int), vs = [.ref l] ∧ SqL K H l (ns.map V.int) ∧ ns.length ≤ 1000 ∧ ∀ (a : Addr) (c : Nat), H a = none → c ≤ ns.length → Q (.ref a) (upd H a (SetO w a (fun j => decide (j ∈ ns)) c))
theorem cr_setL {X : Cx} (hc : X.calm = true) : CallR X (.type "set") (rSetL X.K X.w) := by
  intro pins s σ H vs us Q I r h
  obtain ⟨l, ns, rfl, hq, hl, q⟩ := h
  cases r with
  | cons r rr =>
    cases rr
    cases r
    obtain ⟨its, rv, pl, hz⟩ := I.list hq
    refine call_setL (I.ok.hd hc) pl.isList (ns := ns) (by simpa using ints_of_vals rv) (by unfold scanBound; omega) fun s2 ⟨h', tk, c, e, R, hcn, k⟩ => ?_
    subst e
    exact ⟨.ref _, _, I.laid k (Nat.le_refl _) (setO_new R), rfl, q _ c (I.hok.fresh (Nat.le_refl _)) hcn⟩
end BK
/-! Part Q: sorted(set(numbers)), its rule. -/
namespace BK
open PySem PySem.Spec PyProof.Rows L2
/-! ### rising, each once -/
def insU (x : Int) : List Int → List Int
  | [] => [x]
  | y :: l => if x < y then x :: y :: l else if x = y then y :: l else y :: insU x l
def ascU (ns : List Int) : List Int := ns.foldr insU []
theorem mem_insU {k x : Int} : ∀ l : List Int, k ∈ insU x l ↔ k = x ∨ k ∈ l
  | [] => by simp [insU]
  | y :: l => by
    unfold insU
    split
    · simp
    · split
      · rename_i h; subst h; simp
      · rw [List.mem_cons, mem_insU l, List.mem_cons]
        constructor
        · rintro (h | h | h) <;> simp [h]
        · rintro (h | h | h) <;> simp [h]
theorem pw_insU {x : Int} : ∀ l : List Int, l.Pairwise (· < ·) → (insU x l).Pairwise (· < ·)
  | [], _ => by simp [insU]
  | y :: l, h => by
    have ⟨h1, h2⟩ := List.pairwise_cons.mp h
    unfold insU
    split
    · rename_i q
      exact List.pairwise_cons.mpr ⟨fun k hk => (List.mem_cons.mp hk).elim (fun e => e ▸ q) fun hk => Int.lt_trans q (h1 k hk), h⟩
    · split
      · exact h
      · refine List.pairwise_cons.mpr ⟨fun k hk => ?_, pw_insU l h2⟩
        rcases (mem_insU l).mp hk with rfl | hk
        · omega
        · exact h1 k hk
theorem mem_ascU {k : Int} : ∀ ns : List Int, k ∈ ascU ns ↔ k ∈ ns
  | [] => Iff.rfl
  | n :: ns => by
    show k ∈ insU n (ascU ns) ↔ _
    rw [mem_insU, mem_ascU ns, List.mem_cons]
theorem pw_ascU : ∀ ns : List Int, (ascU ns).Pairwise (· < ·)
  | [] => .nil
  | n :: ns => pw_insU _ (pw_ascU ns)
theorem asc_uniq : ∀ {a b : List Int}, a.Pairwise (· < ·) → b.Pairwise (· < ·) → (∀ k, k ∈ a ↔ k ∈ b) → a = b
  | [], [], _, _, _ => rfl
  | [], y :: b, _, _, h => absurd ((h y).mpr (.head _)) (by simp)
  | x :: a, [], _, _, h => absurd ((h x).mp (.head _)) (by simp)
  | x :: a, y :: b, ha, hb, h => by
    have ⟨a1, a2⟩ := List.pairwise_cons.mp ha
    have ⟨b1, b2⟩ := List.pairwise_cons.mp hb
    have e : x = y := by
      rcases List.mem_cons.mp ((h x).mp (.head _)) with e | e
      · exact e
      · rcases List.mem_cons.mp ((h y).mpr (.head _)) with e2 | e2
        · exact e2.symm
        · have := b1 x e; have := a1 y e2; omega
    subst e
    rw [asc_uniq a2 b2 fun k => ⟨fun hk => ?_, fun hk => ?_⟩]
    · rcases List.mem_cons.mp ((h k).mp (.tail _ hk)) with e | e
      · have := a1 k hk; omega
      · exact e
    · rcases List.mem_cons.mp ((h k).mpr (.tail _ hk)) with e | e
      · have := b1 k hk; omega
      · exact e
theorem reps_ints {K : PySem.W.Frag} {H : Hp} {O : Addr → Prop} : ∀ ns : List Int, Reps K H O (ns.map V.int) (ns.map D.int)
  | [] => .nil
  | n :: ns => .cons (.int n) (reps_ints ns)
section
variable {C : Ctx} {S : List Slot} {a : Expr} {pos : Pos}
theorem de_sortU {p p2 p3 : Pos} {ns : List Int} (hg : GlC C "sorted") (hm : C.M.mg "sorted" = none) (hg2 : GlC C "set") (hm2 : C.M.mg "set" = none) (ha : DL C false a S (.lst (ns.map D.int))) (hz : ns.length < 64)
    (hs : ∀ env, starEach (a :: []) env = (false, eval a env) :: starEach [] env := by intro _; rfl) (hs2 : ∀ env, starEach ((.Call (.Name "set" p2) [a] [] p3) :: []) env = (false, eval (.Call (.Name "set" p2) [a] [] p3) env) :: starEach [] env := by intro _; rfl) :
    DE C (.Call (.Name "sorted" p) [.Call (.Name "set" p2) [a] [] p3] [] pos) S (.ok (.own ((ascU ns).map D.int))) := by
  refine .mk fun W => ⟨tCB (rSortedSet C.M.w) (tCons (tCB (rSetL C.M.K C.M.w) (tCons (tE C a W) tNil)) tNil), fun r f => pe_callB (cr_sortedSet f.g.calm) (hg.gl f.g) hm boot_sorted (pa_cons (pe_callTy (cr_setL f.g.calm) (hg2.gl f.g) hm2 PyProof.Rows.boot_set (pa_cons (pe_tE f) pa_nil (hs _)) (by decide) (by decide) (hs _) rfl) pa_nil (hs2 _)) (by decide) (by decide) (hs2 _) rfl, fun Oc H0 H σ fp hod sat Q hq hx => ?_⟩
  refine ha W Oc H0 H σ fp hod sat _ fun v H1 e1 rep => ?_
  cases rep with
  | @lst l vs _ n hl rs =>
    rw [rs.to_ints] at hl
    refine ⟨l, ns, rfl, .inl (.inl hl), by omega, fun d c hd hc => ⟨d, _, c, rfl, upd_same, by omega, fun out p hp hm hlen hfree => ?_⟩⟩
    have e : out = ascU ns := asc_uniq hp (pw_ascU ns) fun k => by rw [hm, mem_ascU, decide_eq_true_eq]
    subst e
    have e2 : Ex H (upd (upd H1 d (SetO C.M.w d (fun j => decide (j ∈ ns)) c)) p (.lst ((ascU ns).map V.int))) := e1.trans ((Ex.new hd).trans (Ex.new hfree))
    refine hq (.own ((ascU ns).map D.int)) (.ref p) _ rfl e2 ⟨p, _, rfl, ?_, upd_same, ?_⟩
    · exact ((e1.trans (Ex.new hd)).back hfree)
    · exact reps_ints _
end
end BK
/-! Part R: more comparisons. -/
namespace BK
open PySem PySem.Spec PyProof.Rows L2
section
variable {C : Ctx} {S : List Slot} {a b c : Expr} {i j k : Int} {x y : Bool} {pos : Pos}
theorem dt_neBl (ha : DB C a S x) (hb : DB C b S y) : DT C (.Compare a [.NotEq] [b] pos) S (!decide (x = y)) := by
  rw [← dec_bl]; exact dt_cmp (lv := false) (fun _ _ => op_ne) (nomark _) (dl_val ha) (dl_val hb) (op2_ne rfl rfl rfl)
theorem dt_leLt (ha : DI C a S i) (hb : DI C b S j) (hc : DI C c S k) (hm : lastMarks [.LtE, .Lt] [b, c] = false) : DT C (.Compare a [.LtE, .Lt] [b, c] pos) S (decide (i ≤ j) && decide (j < k)) :=
  .mk fun W => ⟨_, fun r f => pt_chain op_le op_lt (pe_tE f) (pe_tE f) (pe_tE f) hm, fun Oc H0 H σ fp hod sat Q hq =>
    ha W Oc H0 H σ fp hod sat _ (fun r v H1 er e1 res => by
      cases er; cases res
      exact hb W Oc H0 H1 σ fp (hod.ex e1) (sat.mono e1) _ (fun r w H2 er e2 res => by
        cases er; cases res
        refine ⟨i, j, rfl, rfl, decide (i ≤ j), rfl, ?_⟩
        cases hd : decide (i ≤ j) with
        | false =>
          rw [if_neg Bool.false_ne_true]
          refine ⟨false, rfl, ?_⟩
          have := hq H2 (e1.trans e2)
          rw [hd] at this; exact this
        | true =>
          rw [if_pos rfl]
          exact hc W Oc H0 H2 σ fp ((hod.ex e1).ex e2) ((sat.mono e1).mono e2) _ (fun r u H3 er e3 res => by
            cases er; cases res
            refine ⟨j, k, rfl, rfl, decide (j < k), rfl, ?_⟩
            have := hq H3 ((e1.trans e2).trans e3)
            rw [hd] at this; exact this) (fun _ _ _ _ er => nomatch er)) (fun _ _ _ _ er => nomatch er)) (fun _ _ _ _ er => nomatch er)⟩
/-- zs[i] = e, zs an own list -/
theorem ds_setI {z : Str} {e i : Expr} {p1 p2 : Pos} {d : D} {ds : List D} {P : Post} {k : Int} {n j : Nat} (he : DL C true e S d) (hi : DI C i S k) (hk : ixN ds.length k = some n) (hz : C.N.idxOf? z = some j) (hS : S[j]? = some (.own ds)) (hv : nmB C.sc z = true)
    (h : P.nx (S.set j (.own (ds.set n d)))) (hs : ∀ env, swapsWithSole [.Subscript (.Name z p1) i p2] e pos.line env = pure false) (hw : ∀ env, swappedStores [.Subscript (.Name z p1) i p2] e env = pure none)
    (hasg : ∀ (env : Env) (v : Value), assign (.Subscript (.Name z p1) i p2) env v = (do
      let ov ← holding [v] (eval (.Name z p1) env)
      let iv ← holding [v, ov] (eval i env)
      standAt p2
      holding [v, ov, iv] (setItem ov iv v)
      release [v, ov, iv] [])) : DS C (.Assign [.Subscript (.Name z p1) i p2] e pos) S P := by
  obtain ⟨h1, h2, h3⟩ := nmB_vis hv
  exact ds_setItem j hS he hi hk (idx_get hz) h1 h2 h3 h hs hw hasg
end
section
variable {C : Ctx} {c e : Expr} {S : List Slot} {x : Bool} {A B : List Stmt} {P : Post} {pos : Pos}
theorem ds_ifT (hc : DT C c S x) (hx : x = true) (h : DSs C A S P) : DS C (.If c A B pos) S P := ds_if hc (fun _ => h) fun q => by rw [hx] at q; cases q
theorem ds_ifF (hc : DT C c S x) (hx : x = false) (h : DSs C B S P) : DS C (.If c A B pos) S P := ds_if hc (fun q => by rw [hx] at q; cases q) fun _ => h
end
end BK
/-! Part S: a list times a number. -/
namespace BK
open PySem PySem.Spec PyProof.Rows L2
theorem op2_rep {K : PySem.W.Frag} {ds : List D} {k : Int} (h0 : 0 ≤ k) (h1 : k ≤ 1000000) (hz : ds.length * k.toNat ≤ 1000000) : Op2 K rRep (.lst ds) (.int k) (.own (List.replicate k.toNat ds).flatten) := fun A H x y Q hA rx ry hq => by
  cases ry
  cases rx with
  | lst n hl rs =>
    refine ⟨_, k, _, rfl, rfl, hl, by omega, by omega, by rw [rs.length]; exact sz_le hz, fun p hp => hq _ _ (Ex.new hp) ⟨p, _, rfl, hp, upd_same, ?_⟩⟩
    exact (rep_reps rs _).step (Ex.new hp) fun a z => z.imp id fun z => by rw [z]; exact hp
theorem de_rep {C : Ctx} {S : List Slot} {a b : Expr} {lv : Bool} {pos : Pos} {ds : List D} {k : Int} (ha : DL C lv a S (.lst ds)) (hb : DI C b S k) (h0 : 0 ≤ k) (h1 : k ≤ 1000000) (hz : ds.length * k.toNat ≤ 1000000) (hf : lv = true ∨ ∀ d ∈ (List.replicate k.toNat ds).flatten, Flat d) :
    DE C (.BinOp a .Mult b pos) S (.ok (.own (List.replicate k.toNat ds).flatten)) := de_op (fun _ _ => op_rep) ha (dl_of (lv := lv) hb (by cases lv <;> rfl)) (op2_rep h0 h1 hz) hf
end BK
/-! Part T: own lists of own lists. -/
namespace BK
open PySem PySem.Spec PyProof.Rows L2
theorem Own2.snoc {K : PySem.W.Frag} {H : Hp} {O : Addr → Prop} {qs : List Addr} {dss : List (List D)} {q : Addr} {vs : List V} {ds : List D} (h : Own2 K H O qs dss) (hq : H q = some (.lst vs)) (r : Reps K H O vs ds) : Own2 K H O (qs ++ [q]) (dss ++ [ds]) := by
  induction h with
  | nil => exact .cons hq r .nil
  | cons h1 r1 _ ih => exact .cons h1 r1 ih
theorem Own2.app {K : PySem.W.Frag} {H : Hp} {O : Addr → Prop} {qs qs2 : List Addr} {dss dss2 : List (List D)} (h : Own2 K H O qs dss) (h2 : Own2 K H O qs2 dss2) : Own2 K H O (qs ++ qs2) (dss ++ dss2) := by
  induction h with
  | nil => exact h2
  | cons h1 r1 _ ih => exact .cons h1 r1 ih
section
variable {C : Ctx} {S : List Slot} {lv : Bool} {pos : Pos}
/-- the list of own lists that a comprehension makes -/
theorem ev_lc2 {α : Type} {W : WX} {tg it : Expr} {scope : Scope} {vs : List Nat} {elt : Expr} (l : List α) (enc : α → D) (h : α → List D) (hi : DIt C lv tg it S (l.map enc)) (hv : ∀ v ∈ vs, S[v]? = some .any) (hz : l.length ≤ 1000000)
    (hfl : lv = true ∨ ∀ x ∈ l, Flat (enc x)) (hf2 : ∀ x ∈ l, ∀ d ∈ h x, Flat d)
    (he : ∀ x ∈ l, ∃ S2, DGc (C.blk scope) vs tg S (enc x) S2 ∧ DE (C.blk scope) elt S2 (.ok (.own (h x)))) :
    Ev C.M.K W (tLc (tIt C tg it W) (tGt (C.blk scope) tg W0) (tTs (C.blk scope) [] W0) (tE (C.blk scope) elt W0) vs) S (.ok (.own2 (l.map h))) := fun Oc H0 H σ fp hod sat Q hq hx =>
  hi W Oc H0 H σ fp hod sat _ fun J H1 e1 ⟨G, Y, w, hG, hY⟩ Dl hD => by
    have s1 := (sat.mono e1).wipe hv
    have gx : Ex (BK.ground lv H1 fp) H1 := by
      cases lv with
      | false => exact Ex.refl _
      | true => exact hid_ex
    let Oc' : Addr → Prop := fun a => Oc a ∨ a = Dl
    have sA : Sat C.M.K Oc' H0 H1 (L2.wipe σ vs) S fp := s1.avoid fun a z => z.imp id fun z => by rw [z]; exact hD
    have flk : ∀ k, ∀ ds ∈ (l.take k).map h, ∀ d ∈ ds, Flat d := fun k ds hds => by
      obtain ⟨x, hx, rfl⟩ := List.mem_map.mp hds
      exact hf2 x (List.mem_of_mem_take hx)
    let Pv : Nat → Hp → Prop := fun i H' => ∃ qs : List Addr, Ex H1 H' ∧ H' Dl = some (.lst (qs.map V.ref)) ∧ qs.Nodup ∧ (∀ q ∈ qs, H1 q = none ∧ q ≠ Dl) ∧ Own2 C.M.K H' no qs ((l.take i).map h)
    refine lc_it w Pv ⟨[], Ex.new hD, upd_same, .nil, fun q hq => (by cases hq), .nil⟩ (fun i H' _ ⟨_, ex, _⟩ => hG H' (gx.trans ex)) (fun i x H' H2 hlt ⟨qs, ex, hl, nd, fr, ow⟩ y => ?_) fun H' ⟨qs, ex, hl, nd, fr, ow⟩ => ?_
    · have hlt' : i < l.length := by rw [List.length_map] at hlt; exact hlt
      have ed : (l.map enc)[i]? = some (enc l[i]) := by rw [List.getElem?_map, List.getElem?_eq_getElem hlt']; rfl
      have mem : l[i] ∈ l := List.getElem_mem hlt'
      obtain ⟨ex2, rep⟩ := hY i H' x H2 _ ed (gx.trans ex) y
      have rx : Rep C.M.K H2 (Ow Oc' fp) x (enc l[i]) := by
        rcases hfl with rfl | hfl
        · refine rep _ fun a z => ?_
          rcases z with (z | z) | z
          · exact .inl z
          · right; rw [z]
            by_cases q : Fp fp Dl
            · exact hid_in q
            · show hid H1 (Fp fp) Dl = none; rw [hid_out q]; exact hD
          · exact .inr (hid_in z)
        · exact Rep.flat (rep no fun _ z => z.elim) (hfl _ mem)
      have sB := sA.mono (ex.trans ex2)
      have t2 : There Oc' H2 := fun a z => by
        rcases z with z | z
        · exact (hod.ex ((e1.trans ex).trans ex2)) a z
        · rw [z, ex2 _ _ hl]; exact fun z => nomatch z
      obtain ⟨S2, hg, hel⟩ := he _ mem
      have tk : l.take (i + 1) = l.take i ++ [l[i]] := by rw [List.take_add_one, List.getElem?_eq_getElem hlt']; rfl
      refine hg W0 Oc' H0 H2 _ fp t2 sB x rx _ fun σ2 fp2 hw sup sC => ⟨hw.trans (wipe_idem fun _ z => z), ?_⟩
      refine (dts_nil : DTs (C.blk scope) [] S2 true) W0 Oc' H0 H2 σ2 fp2 t2 sC _ fun H3 e3 => ?_
      rw [if_pos rfl]
      have sD := sC.mono e3
      refine hel W0 Oc' H0 H3 σ2 fp2 (t2.ex e3) sD _ (fun r v H4 er e4 res => ?_) (fun _ _ _ _ er => nomatch er)
      cases er
      obtain ⟨p, us, rfl, hp3, hp4, rp⟩ := res
      have e13 : Ex H1 H3 := (ex.trans ex2).trans e3
      have ex4 : Ex H1 H4 := e13.trans e4
      have hl3 : H3 Dl = some (.lst (qs.map V.ref)) := e3 _ _ (ex2 _ _ hl)
      have hl4 : H4 Dl = some (.lst (qs.map V.ref)) := e4 _ _ hl3
      have mb : Mb (H4 Dl) := by rw [hl4]; trivial
      have pD : p ≠ Dl := fun z => by rw [z, hl3] at hp3; cases hp3
      have ow3 := ow.mono (ex2.trans e3)
      have pq : p ∉ qs := fun z => by
        obtain ⟨us', h'⟩ := ow3.there p z
        rw [hp3] at h'; cases h'
      have ow4 : Own2 C.M.K H4 (fun a => a = Dl) qs ((l.take i).map h) := (ow3.mono e4).flat (flk i)
      have ow5 := ow4.write (o := .lst ((qs ++ [p]).map V.ref)) rfl mb fun z => (fr Dl z).2 rfl
      have rp5 : Reps C.M.K (upd H4 Dl (.lst ((qs ++ [p]).map V.ref))) (fun a => a = Dl) us (h l[i]) := Reps.write (O := fun a => a = Dl) rfl mb (Reps.flat rp (hf2 _ mem))
      refine ⟨qs.map V.ref, hl4, ?_, qs ++ [p], ex4.mut hD, ?_, ?_, fun q hq => ?_, ?_⟩
      · rw [List.length_map, ow.length, List.length_map]
        refine sz_lt ?_
        rw [List.length_take]; exact Nat.le_trans (Nat.min_le_right _ _) hz
      · rw [upd_same, List.map_append]; rfl
      · rw [List.nodup_append]
        exact ⟨nd, List.nodup_cons.mpr ⟨List.not_mem_nil, .nil⟩, fun a ha b hb e => pq (by rw [← List.mem_singleton.mp hb, ← e]; exact ha)⟩
      · rcases List.mem_append.mp hq with hq | hq
        · exact fr q hq
        · rw [List.mem_singleton.mp hq]; exact ⟨e13.back hp3, pD⟩
      · have q6 : Own2 C.M.K (upd H4 Dl (.lst ((qs ++ [p]).map V.ref))) (fun a => a = Dl) (qs ++ [p]) ((l.take i).map h ++ [h l[i]]) := ow5.snoc (by rw [upd_ne pD]; exact hp4) rp5
        have e7 : (l.take (i + 1)).map h = (l.take i).map h ++ [h l[i]] := by rw [tk, List.map_append]; rfl
        have f7 := flk (i + 1)
        rw [e7] at f7
        have e8 : (qs.map V.ref ++ [V.ref p] : List V) = (qs ++ [p]).map V.ref := by rw [List.map_append]; rfl
        rw [e7, e8]
        exact q6.flat f7
    · rw [List.length_map, List.take_length] at ow
      refine hq _ _ H' rfl (e1.trans ex) ⟨Dl, qs, rfl, fun a ha => ?_, List.nodup_cons.mpr ⟨fun z => (fr Dl z).2 rfl, nd⟩, hl, ow.flat fun ds hds => ?_⟩
      · rcases List.mem_cons.mp ha with rfl | ha
        · exact e1.back hD
        · exact e1.back (fr a ha).1
      · obtain ⟨x, hx, rfl⟩ := List.mem_map.mp hds
        exact hf2 x hx
theorem de_map2 {α : Type} {tg it elt : Expr} {scope : Scope} (own : List (Str × Nat)) (l : List α) (enc : α → D) (h : α → List D) (hb : blkC C.N C.sc scope own = true) (hi : DIt C lv tg it S (l.map enc)) (hv : anyS S (own.map (·.2)) = true) (hz : l.length ≤ 1000000)
    (hfl : lv = true ∨ ∀ x ∈ l, Flat (enc x)) (hf2 : ∀ x ∈ l, ∀ d ∈ h x, Flat d) (he : ∀ x ∈ l, ∃ S2, DGc (C.blk scope) (own.map (·.2)) tg S (enc x) S2 ∧ DE (C.blk scope) elt S2 (.ok (.own (h x))))
    (hf : ∀ env x, foldedSetIterable it env x = pure x := by intro _ _; rfl) : DE C (.ListComp elt [⟨tg, it, [], 0⟩] scope pos) S (.ok (.own2 (l.map h))) :=
  .mk fun W => ⟨_, fun r f => pe_lc (X := C.x r) f.g.calm f.g.nd (pi_tI f) (by have := blkOk_by hb; rw [← f.g.sc] at this; exact this) (fun s H c cl fp => pg_tG (f.blk s H scope c cl fp)) (fun s H c cl fp => pts_tT (f.blk s H scope c cl fp)) (fun s H c cl fp => pe_tE (f.blk s H scope c cl fp)) (hf _), ev_lc2 l enc h hi (anyS_ok hv) hz hfl hf2 he⟩
/-- two such lists put together -/
theorem de_cat2 {a b : Expr} {A B : List (List D)} (ha : DE C a S (.ok (.own2 A))) (hb : DE C b S (.ok (.own2 B))) (hz : A.length + B.length ≤ 1000000) (fA : ∀ ds ∈ A, ∀ d ∈ ds, Flat d) (fB : ∀ ds ∈ B, ∀ d ∈ ds, Flat d) : DE C (.BinOp a .Add b pos) S (.ok (.own2 (A ++ B))) :=
  .mk fun W => ⟨tOp rCat (tE C a W) (tE C b W), fun r f => pe_op op_cat (pe_tE f) (pe_tE f), fun Oc H0 H σ fp hod sat Q hq hx =>
    ha W Oc H0 H σ fp hod sat _ (fun r v H1 er e1 res => by
      cases er
      obtain ⟨p1, q1, rfl, n1, d1, l1, o1⟩ := res
      exact hb W Oc H0 H1 σ fp (hod.ex e1) (sat.mono e1) _ (fun r w H2 er e2 res => by
        cases er
        obtain ⟨p2, q2, rfl, n2, d2, l2, o2⟩ := res
        refine ⟨p1, p2, _, _, rfl, rfl, e2 _ _ l1, l2, ?_, fun p hp => ?_⟩
        · rw [List.length_map, List.length_map, o1.length, o2.length]; exact sz_le hz
        · have m1 : Own2 C.M.K H2 no q1 A := (o1.mono e2).flat fA
          have m2 : Own2 C.M.K H2 no q2 B := o2.flat fB
          have c1 : ∀ q ∈ q1, H2 q ≠ none := fun q hq z => by obtain ⟨_, h⟩ := m1.there q hq; rw [z] at h; cases h
          have c2 : ∀ q ∈ q2, H2 q ≠ none := fun q hq z => by obtain ⟨_, h⟩ := m2.there q hq; rw [z] at h; cases h
          have e3 : Ex H2 (upd H2 p (.lst (q1.map V.ref ++ q2.map V.ref))) := Ex.new hp
          have hH : H p = none := e1.back (e2.back hp)
          refine hq (.own2 (A ++ B)) (.ref p) _ rfl ((e1.trans e2).trans e3) ⟨p, q1 ++ q2, rfl, fun q hq => ?_, ?_, ?_, ?_⟩
          · rcases List.mem_cons.mp hq with rfl | hq
            · exact hH
            · rcases List.mem_append.mp hq with hq | hq
              · exact n1 q (.tail _ hq)
              · exact e1.back (n2 q (.tail _ hq))
          · refine List.nodup_cons.mpr ⟨fun z => ?_, ?_⟩
            · rcases List.mem_append.mp z with z | z
              · exact c1 p z hp
              · exact c2 p z hp
            · rw [List.nodup_append]
              refine ⟨(List.nodup_cons.mp d1).2, (List.nodup_cons.mp d2).2, fun a ha b hb e => ?_⟩
              subst e
              obtain ⟨_, h⟩ := o1.there a ha
              rw [n2 a (.tail _ hb)] at h; cases h
          · rw [upd_same, List.map_append]
          · refine ((m1.app m2).mono e3).flat fun ds hds => ?_
            rcases List.mem_append.mp hds with h | h
            · exact fA ds h
            · exact fB ds h) (fun _ _ _ _ er => nomatch er)) (fun _ _ _ _ er => nomatch er)⟩
/-- [e], e an own list -/
theorem de_lstO {e : Expr} {ds : List D} (he : DE C e S (.ok (.own ds))) (hf : ∀ d ∈ ds, Flat d) (hs : ∀ env, starEach (e :: []) env = (false, eval e env) :: starEach [] env := by intro _; rfl) : DE C (.List [e] pos) S (.ok (.own2 [ds])) :=
  .mk fun W => ⟨tLst (tCons (tE C e W) tNil), fun r f => pe_lst (pa_cons (pe_tE f) pa_nil (hs _)), fun Oc H0 H σ fp hod sat Q hq hx =>
    he W Oc H0 H σ fp hod sat _ (fun r v H1 er e1 res => by
      cases er
      obtain ⟨p, vs, rfl, n, hp, rp⟩ := res
      refine ⟨by show 1 ≤ sizeLine; exact sz_le (n := 1) (by decide), fun q hq' => hq (.own2 [ds]) (.ref q) _ rfl (e1.trans (Ex.new hq')) ⟨q, [p], rfl, fun a ha => ?_, ?_, upd_same, ?_⟩⟩
      · rcases List.mem_cons.mp ha with rfl | ha
        · exact e1.back hq'
        · rw [List.mem_singleton.mp ha]; exact n
      · refine List.nodup_cons.mpr ⟨fun z => ?_, List.nodup_cons.mpr ⟨List.not_mem_nil, .nil⟩⟩
        rw [List.mem_singleton.mp z, hp] at hq'; cases hq'
      · have hne : p ≠ q := fun z => by rw [z, hq'] at hp; cases hp
        exact .cons (by rw [upd_ne hne]; exact hp) ((rp.mono (Ex.new hq')).flat hf) .nil) (fun _ _ _ _ er => nomatch er)⟩
end
end BK
/-! Part U: inner lists given away. -/
namespace BK
open PySem PySem.Spec PyProof.Rows L2
theorem Sat.freeze2 {K : PySem.W.Frag} {Oc : Addr → Prop} {H0 H : Hp} {σ : L2.St} {S : List Slot} {fp : Nat → List Addr} (h : Sat K Oc H0 H σ S fp) (hoc : ∀ a, Oc a → ∀ i, a ∉ fp i) {j : Nat} {dss : List (List D)} (hj : S[j]? = some (.own2 dss)) : ∃ fp', Sat K Oc H0 H σ (S.set j (.own (dss.map D.lst))) fp' := by
  obtain ⟨p, qs, hx, hf, nd, hl, ow⟩ := h.slot j _ hj
  have hlt := (List.getElem?_eq_some_iff.mp hj).1
  have mp : p ∈ fp j := by rw [hf]; exact List.mem_cons_self
  have mq : ∀ q ∈ qs, q ∈ fp j := fun q hq => by rw [hf]; exact List.mem_cons_of_mem _ hq
  have np : p ∉ qs := (List.nodup_cons.mp nd).1
  have sub : ∀ a, Ow Oc (fset fp j [p]) a → Ow Oc fp a := fun a z => (Ow_fset a z).elim id fun q => by rw [List.mem_singleton.mp q]; exact .inr ⟨j, mp⟩
  have no' : ∀ q ∈ qs, ¬ Ow Oc (fset fp j [p]) q := fun q hq z => by
    rcases z with z | ⟨i, z⟩
    · exact hoc q z j (mq q hq)
    · by_cases e : i = j
      · subst e
        rw [fset_same] at z
        exact np (by rw [← List.mem_singleton.mp z]; exact hq)
      · rw [fset_ne e] at z
        exact e (h.dis i j q z (mq q hq))
  have e : σ.set j (σ.getD j none) = σ := by
    apply List.ext_getElem?
    intro i
    by_cases hi : j = i
    · subst hi
      have hs : j < σ.length := by rw [← h.len]; exact hlt
      rw [List.getElem?_set_self hs, List.getD_eq_getElem?_getD, List.getElem?_eq_getElem hs]; rfl
    · rw [List.getElem?_set_ne hi]
  have g := h.put hlt (σ.getD j none) (.own (dss.map D.lst)) [p] (fun a z => by rw [List.mem_singleton.mp z]; exact h.fr j p mp) (fun a z i hi hm => hi (h.dis i j a hm (by rw [List.mem_singleton.mp z]; exact mp))) ⟨p, _, hx, rfl, hl, ow.frz sub no'⟩ (fun i s _ q => (h.slot i s q).step (Ex.refl H) fun a z => .inl (sub a z))
  rw [e] at g
  exact ⟨_, g⟩
theorem dss_freeze2 {C : Ctx} {S : List Slot} {sts : List Stmt} {P : Post} {dss : List (List D)} (j : Nat) (hS : S[j]? = some (.own2 dss)) (h : DSs C sts (S.set j (.own (dss.map D.lst))) P) : DSs C sts S P := fun W Oc H0 H σ fp hod sat D h1 h2 h3 h4 h5 => by
  obtain ⟨fp', s'⟩ := sat.freeze2 (fun a z i q => hod a z (sat.fr i a q)) hS
  exact h W Oc H0 H σ fp' hod s' D h1 h2 h3 h4 h5
end BK
/-! Part V: a comprehension of own lists, given to a name. -/
namespace BK
open PySem PySem.Spec PyProof.Rows L2
section
variable {C : Ctx} {S : List Slot} {P : Post} {lv : Bool} {pos pos' : Pos}
theorem ds_setLc2 {α : Type} {tg it elt : Expr} {scope : Scope} {z : Str} {py : Pos} (j : Nat) (own : List (Str × Nat)) (l : List α) (enc : α → D) (h : α → List D) (hN : C.N[j]? = some z) (hx : C.sc.names.lookup z = some .local) (hj : j < S.length) (hln : (py.line == pos'.line) = true) (hnn : (scope.names.any fun (n, k) => n == z && (k == .local || k == .cell)) = false) (hk : C.sc.kind = .function)
    (hb : blkC C.N C.sc scope own = true) (hi : DIt C lv tg it S (l.map enc)) (hv : anyS S (own.map (·.2)) = true) (hz : l.length ≤ 1000000) (hfl : lv = true ∨ ∀ x ∈ l, Flat (enc x)) (hf2 : ∀ x ∈ l, ∀ d ∈ h x, Flat d)
    (he : ∀ x ∈ l, ∃ S2, DGc (C.blk scope) (own.map (·.2)) tg S (enc x) S2 ∧ DE (C.blk scope) elt S2 (.ok (.own (h x))))
    (hP : P.nx (S.set j (.own2 (l.map h)))) (hf : ∀ env x, foldedSetIterable it env x = pure x := by intro _ _; rfl) : DS C (.Assign [.Name z py] (.ListComp elt [⟨tg, it, [], 0⟩] scope pos') pos) S P :=
  .mk fun W => ⟨tAsg (tLc (tIt C tg it W) (tGt (C.blk scope) tg W0) (tTs (C.blk scope) [] W0) (tE (C.blk scope) elt W0) (own.map (·.2))) (gName j), fun r f => by
      have ec : (C.x r).env.scope = C.sc := f.g.sc
      refine ps_setLc (X := C.x r) f.g.calm f.g.nd hN (by rw [ec]; exact hx) (sw_true (by rw [ec]; exact hk) (by rw [ec]; exact hx) ?_ hnn) (pi_tI f) (by have := blkOk_by hb; rw [← f.g.sc] at this; exact this) (fun s H c cl fp => pg_tG (f.blk s H scope c cl fp)) (fun s H c cl fp => pts_tT (f.blk s H scope c cl fp)) (fun s H c cl fp => pe_tE (f.blk s H scope c cl fp)) (hf _)
      exact hln, fun Oc H0 H σ fp hod sat D h1 h2 h3 h4 h5 => ev_lc2 (W := W) l enc h hi (anyS_ok hv) hz hfl hf2 he Oc H0 H σ fp (hod.up sat) sat _
      (fun r v H' er ex res => by
        obtain ⟨fp', s'⟩ := sat.set ex res hj
        cases er
        exact h1 _ H' _ fp' hP s') (fun _ _ _ _ er => nomatch er)⟩
end
end BK
/-! Part W: texts and dicts compared; the same data compared; anything in a module's tuple. -/
namespace BK
open PySem PySem.Spec PyProof.Rows L2
section
open PySem.AutoSeq1 (wpAny_loadPart')
open PySem.MeetsSeq PySem.SeqAt
theorem str_declines_dict (b : Str) (u : Tok) (l : Addr) : ∀ es ep, Meets (Builtin.«str.__eq__» ⟨[.str b u, .ref l], []⟩) (fun _ R s => s.heap.get? l = some { cls := .type "dict", dict := none, data := .dict es ep, slots := #[] } ∧ R (.ok (.ret .notImplemented)) s) :=
  fun es ep => .of_wp fun prog w A R s h => by obtain ⟨hp, g, d, tk, os⟩ := s; obtain ⟨hl, h⟩ := h; wp_walk using wpAny_loadPart' hl, wpAny_load hl; exact ⟨_, rfl, h⟩
theorem eqAt_str_dict {K : Type} [DecidableEq K] {prog0 : Program} {w0 : World} {knd : KeyKind prog0 w0 K} {A : Around} {s : Shared} {l : Addr} {kvs : List (K × Value)} (b : Str) (u : Tok) (da : s.heap.DictOf knd l kvs) (hu : A.units < cLine) : EqAt A s (.str b u) (.ref l) false := fun prog w E Q h => by
  have ty := da.typeIs
  obtain ⟨⟨cls, dd, data, sl⟩, es, ep, ho, ⟨x1, x2, x3⟩, hd, _⟩ := da
  simp only at x1 x2 x3 hd
  subst x1 x2 x3 hd
  unfold eqBool
  refine wpAny_holding ?_
  refine wpAny_ite_split (fun hab => absurd (eq_of_beq hab) nofun) (fun _ => ?_)
  refine wpAny_bind (rc_eq_decline_or (k := false) (typeIs_str s b u) ty (by decide) F.sub_dict_str F.slot_str_eq F.slot_dict_eq_refl
    (fun _ hq => call_meets F.slot_str_eq (typeIs_str s b u) F.entry_str_eq (F.args_str_eq_2 _ _) (str_declines_dict b u l es ep) ⟨ho, hq⟩)
    (fun Q' hq => wpAny_call_entry F.slot_dict_eq_refl ty F.entry_dict_eq ?_ (F.args_dict_eq_2 _ _))
    (fun _ hq => wpAny_of_eq (rfl : isSame (.str b u) (.ref l) = pure false) hq) (.inr hu) (wpAny_truthy_bool h))
  show wpAny _ _ (Builtin.Dict.dictSlotArgs "__eq__" ⟨[.ref l, .str b u], []⟩ >>= _) _ _ s
  refine wpAny_bind ?_
  unfold Builtin.Dict.dictSlotArgs
  refine wpAny_bind (wpAny_notOrdered_dict ty ?_)
  show wpAny _ _ (pure (Value.ref l, Value.str b u)) _ _ s
  refine wpAny_pure ?_
  refine wpAny_bind (wpAny_isInstance (T := "str") (typeIs_str s b u) F.sub_str_dict ?_)
  simp only [Bool.not_false, if_true]
  exact wpAny_bind (wpAny_rule (wpAny_pure ⟨_, rfl, hq⟩))
theorem dict0_any {prog0 : Program} {w0 : World} {h : Heap} {a : Addr} (da : h.DictOf (mixKind prog0 w0) a []) (prog : Program) (w : World) : h.DictOf (mixKind prog w) a [] := by
  obtain ⟨o, es, ep, ho, hx, hd, hk, hp, hn⟩ := da
  have e : es.toList = [] := List.eq_nil_of_length_eq_zero hp.length
  have e2 : es = #[] := by
    cases es; simp only at e; rw [e]
  subst e2
  exact ⟨o, _, ep, ho, hx, hd, fun e he => absurd he (by simp), .nil, .nil⟩
theorem eqAt_dict0 {prog0 : Program} {w0 : World} {A : Around} {s : Shared} {a b : Addr} (ha : (a == sysModules) = false) (hb : (b == sysModules) = false) (da : s.heap.DictOf (mixKind prog0 w0) a []) (db : s.heap.DictOf (mixKind prog0 w0) b []) (hu : A.units < cLine) : EqAt A s (.ref a) (.ref b) true := by
  by_cases hne : a = b
  · subst hne; exact EqAt.same _
  · exact fun prog w E Q hq => EqIn.of_refs hne (fun E' Q' hq' => PySem.W.keq_eqIn ha hb (dict0_any da prog w) (dict0_any db prog w) hu (fun _ => .nil) (r := true) (by simpa using hq')) E Q hq
end
/-- data that is told again -/
inductive SmD : Nat → D → Prop
  | non {n : Nat} : SmD n .non
  | bl {n : Nat} (b : Bool) : SmD n (.bl b)
  | int {n : Nat} (i : Int) : SmD n (.int i)
  | str {n : Nat} (x : Str) : SmD n (.str x)
  | tup {n : Nat} {ds : List D} (h : ∀ d ∈ ds, SmD n d) : SmD (n + 1) (.tup ds)
  | lst {n : Nat} {ds : List D} (h : ∀ d ∈ ds, SmD n d) : SmD (n + 1) (.lst ds)
  | dic {n : Nat} : SmD (n + 1) (.dic [])
section
open PySem.SeqAt
variable {X : Cx} {pins : List (Addr × Obj)} {σ : L2.St} {H : Hp} {s : Shared} {O O' : Addr → Prop}
theorem all_true (n : Nat) : ((List.range n).all fun _ => true) = true := by simp
theorem SmD.eq (I : Inv X pins σ H s) : ∀ {n : Nat} {d : D} {v v' : V} {u u' : Value}, SmD n d → Rep X.K H O v d → Rep X.K H O' v' d → RelV v u → RelV v' u' → ∀ A : Around, A.units + n < cLine → EqAt A s u u' true := by
  intro n
  induction n with
  | zero =>
    intro d v v' u u' sm r r' q q' A hu
    cases sm with
    | non => cases r; cases r'; cases q; cases q'; exact EqAt.same _
    | bl b => cases r; cases r'; cases q; cases q'; exact EqAt.same _
    | int i => cases r; cases r'; obtain ⟨t, rfl⟩ := q; obtain ⟨t', rfl⟩ := q'; have := EqAt.int_int (A := A) (s := s) i t i t'; simpa using this
    | str x => cases r; cases r'; obtain ⟨t, rfl⟩ := q; obtain ⟨t', rfl⟩ := q'; have := EqAt.str_str (A := A) (s := s) x t x t'; simpa using this
  | succ n ih =>
    intro d v v' u u' sm r r' q q' A hu
    have al : ∀ {ds : List D} {vs vs' : List V} {us us' : List Value}, (∀ d ∈ ds, SmD n d) → Reps X.K H O vs ds → Reps X.K H O' vs' ds → Vals vs us → Vals vs' us' → us.length = us'.length ∧ ∀ j (h1 : j < us.toArray.size) (h2 : j < us'.toArray.size), EqAt A.in1 s us.toArray[j] us'.toArray[j] true := by
      intro ds vs vs' us us' sm r r' q q'
      refine ⟨by rw [← q.length, ← q'.length, r.length, r'.length], fun j h1 h2 => ?_⟩
      have h1' : j < us.length := h1
      have h2' : j < us'.length := h2
      have l1 : j < vs.length := by rw [q.length]; exact h1'
      have l2 : j < vs'.length := by rw [q'.length]; exact h2'
      have l3 : j < ds.length := by rw [← r.length]; exact l1
      obtain ⟨d, ed, rd⟩ := r.get (List.getElem?_eq_getElem l1)
      obtain ⟨d', ed', rd'⟩ := r'.get (List.getElem?_eq_getElem l2)
      rw [ed] at ed'; cases ed'
      obtain ⟨w, ew, qw⟩ := q.get (List.getElem?_eq_getElem l1)
      obtain ⟨w', ew', qw'⟩ := q'.get (List.getElem?_eq_getElem l2)
      rw [List.getElem?_eq_getElem h1'] at ew
      rw [List.getElem?_eq_getElem h2'] at ew'
      have := ih (sm d (List.mem_of_getElem? ed)) rd rd' qw qw' A.in1 (by show A.units + 1 + n < cLine; omega)
      rw [← Option.some.inj ew, ← Option.some.inj ew'] at this
      simpa using this
    have hu0 : A.units < cLine := by omega
    cases sm with
    | non => cases r; cases r'; cases q; cases q'; exact EqAt.same _
    | bl b => cases r; cases r'; cases q; cases q'; exact EqAt.same _
    | int i => cases r; cases r'; obtain ⟨t, rfl⟩ := q; obtain ⟨t', rfl⟩ := q'; have := EqAt.int_int (A := A) (s := s) i t i t'; simpa using this
    | str x => cases r; cases r'; obtain ⟨t, rfl⟩ := q; obtain ⟨t', rfl⟩ := q'; have := EqAt.str_str (A := A) (s := s) x t x t'; simpa using this
    | tup h => cases r with
      | @tup a vs _ ha rs => cases r' with
        | @tup a' vs' _ ha' rs' =>
          cases q; cases q'
          obtain ⟨its, rv, pl, _⟩ := I.tuple (.inl (.inl ha))
          obtain ⟨its', rv', pl', _⟩ := I.tuple (.inl (.inl ha'))
          obtain ⟨hl, he⟩ := al h rs rs' rv rv'
          by_cases hne : a = a'
          · subst hne; exact EqAt.same _
          · have z := RcAt.tuples (A := A) (e := fun _ => true) pl pl' hu0 he
            rw [all_true, show (its.toArray.size == its'.toArray.size) = true by simp [hl]] at z
            exact EqAt.of_refs hne z
    | lst h => cases r with
      | @lst a vs _ _ ha rs => cases r' with
        | @lst a' vs' _ _ ha' rs' =>
          cases q; cases q'
          obtain ⟨its, rv, pl, _⟩ := I.list (.inl (.inl ha))
          obtain ⟨its', rv', pl', _⟩ := I.list (.inl (.inl ha'))
          obtain ⟨hl, he⟩ := al h rs rs' rv rv'
          by_cases hne : a = a'
          · subst hne; exact EqAt.same _
          · have z := RcAt.lists (A := A) (e := fun _ => true) pl.isList pl'.isList (by simp [hl]) hu0 he
            rw [all_true] at z
            exact EqAt.of_refs hne z
    | dic => cases r with
      | @dic a _ _ ha => cases r' with
        | @dic a' _ _ ha' =>
          cases q; cases q'
          obtain ⟨_, ya, va, ra, da⟩ := (show ObjOk X.prog X.w H s.heap a (.dK []) from I.hok a _ ha)
          obtain ⟨_, yb, vb, rb, db⟩ := (show ObjOk X.prog X.w H s.heap a' (.dK []) from I.hok a' _ ha')
          cases ra; cases rb
          exact eqAt_dict0 ya yb da db hu0
/-- xs != ys, the same data -/
def rNeS (K : PySem.W.Frag) : R2 := fun x y H Q => ∃ (n : Nat) (ds : List D) (O O' : Addr → Prop), Rep K H O x (.lst ds) ∧ Rep K H O' y (.lst ds) ∧ (∀ d ∈ ds, SmD n d) ∧ n < 60 ∧ Q (.bl false) H
theorem op_neS {X : Cx} (hu : X.A.units + 64 < cLine) : OpR X (compareOp .NotEq) (rNeS X.K) := by
  intro pins s σ H x y v u Q I rx ry h
  obtain ⟨n, ds, O, O', r, r', sm, hn, q⟩ := h
  cases r with
  | @lst a vs _ _ ha rs => cases r' with
    | @lst a' vs' _ _ ha' rs' =>
      cases rx; cases ry
      obtain ⟨its, rv, pl, _⟩ := I.list (.inl (.inl ha))
      obtain ⟨its', rv', pl', _⟩ := I.list (.inl (.inl ha'))
      have hl : its.length = its'.length := by rw [← rv.length, ← rv'.length, rs.length, rs'.length]
      have he : ∀ j (h1 : j < its.toArray.size) (h2 : j < its'.toArray.size), EqAt X.A.in1 s its.toArray[j] its'.toArray[j] true := fun j h1 h2 => by
        have h1' : j < its.length := h1
        have h2' : j < its'.length := h2
        have l1 : j < vs.length := by rw [rv.length]; exact h1'
        have l2 : j < vs'.length := by rw [rv'.length]; exact h2'
        obtain ⟨d, ed, rd⟩ := rs.get (List.getElem?_eq_getElem l1)
        obtain ⟨d', ed', rd'⟩ := rs'.get (List.getElem?_eq_getElem l2)
        rw [ed] at ed'; cases ed'
        obtain ⟨w, ew, qw⟩ := rv.get (List.getElem?_eq_getElem l1)
        obtain ⟨w', ew', qw'⟩ := rv'.get (List.getElem?_eq_getElem l2)
        rw [List.getElem?_eq_getElem h1'] at ew
        rw [List.getElem?_eq_getElem h2'] at ew'
        have := SmD.eq I (sm d (List.mem_of_getElem? ed)) rd rd' qw qw' X.A.in1 (by show X.A.units + 1 + n < cLine; omega)
        rw [← Option.some.inj ew, ← Option.some.inj ew'] at this
        simpa using this
      have z := RcNeAt.lists (A := X.A) (e := fun _ => true) pl.isList pl'.isList (by simp [hl]) (by omega) he
      rw [all_true] at z
      exact z _ _ _ _ ⟨.bl _, H, I, rfl, q⟩
end
section
variable {C : Ctx} {S : List Slot} {a b : Expr} {ds : List D} {d : D} {xs : List V} {pos : Pos} {x : Bool}
theorem dt_neSm (n : Nat) (ha : DL C false a S (.lst ds)) (hb : DL C false b S (.lst ds)) (sm : ∀ d ∈ ds, SmD n d) (hn : n < 60) : DT C (.Compare a [.NotEq] [b] pos) S false :=
  dt_cmp (lv := false) (r2 := rNeS C.M.K) (fun r g => op_neS g.room.units) (nomark _) ha hb fun A H x y Q _ rx ry hq => ⟨n, ds, _, _, rx, ry, sm, hn, hq _ H (Ex.refl H) (.bl _)⟩
end
/-- anything in a module's tuple of texts -/
inductive Any0 : D → Prop
  | non : Any0 .non
  | bl (b : Bool) : Any0 (.bl b)
  | int (i : Int) : Any0 (.int i)
  | str (x : Str) : Any0 (.str x)
  | tup (ds : List D) : Any0 (.tup ds)
  | lst (ds : List D) : Any0 (.lst ds)
  | dic (kvs : List (Key × V)) : Any0 (.dic kvs)
def inG (xs : List Str) : D → Bool
  | .str x => inV (.str x) (xs.map V.str)
  | _ => false
def rNotInG (K : PySem.W.Frag) (xs : List Str) (d : D) : R2 := fun x y H Q => ∃ (O : Addr → Prop) (p : Addr), y = .ref p ∧ SqT K (fun _ => none) p (xs.map V.str) ∧ Rep K H O x d ∧ Q (.bl (!inG xs d)) H
section
open PySem.SeqAt
theorem str_of_vals : ∀ {xs : List Str} {us : List Value}, Vals (xs.map V.str) us → ∀ u ∈ us, ∃ z t, u = .str z t
  | [], _, .nil => fun u hu => by cases hu
  | x :: xs, _, .cons r t => fun u hu => by
    rcases List.mem_cons.mp hu with rfl | hu
    · obtain ⟨t, rfl⟩ := r; exact ⟨_, _, rfl⟩
    · exact str_of_vals t u hu
theorem op_notInG {X : Cx} {xs : List Str} {d : D} (hd : Any0 d) (hu : X.A.units + 64 < cLine) : OpR X (compareOp .NotIn) (rNotInG X.K xs d) := by
  intro pins s σ H x y v u Q I rx ry h
  obtain ⟨O, p, rfl, hs, rep, q⟩ := h
  cases ry
  obtain ⟨its, r, pl, hz⟩ := I.tuple (none_sqT hs)
  have hu1 : X.A.in1.units < cLine := by show X.A.units + 1 < cLine; omega
  have st := str_of_vals r
  have fin : (∀ w ∈ its, EqAt X.A.in1 s w v false) → (inG xs d = false) → wpAny (model X.prog X.w) X.A (compareOp .NotIn v (.ref p)) (EP X pins σ Q) X.xe s := fun he hg => by
    refine SeqAt.notIn_tupleAt (fun _ => false) pl (fun w hw => he w (by simpa using hw)) ⟨.bl _, H, I, rfl, ?_⟩
    rw [hg] at q
    rw [show (its.toArray.any fun _ => false) = false by simp]
    exact q
  cases hd with
  | non => cases rep; cases rx; exact fin (fun w hw => by obtain ⟨z, t, rfl⟩ := st w hw; exact EqAt.str_none _ _) rfl
  | bl b => cases rep; cases rx; exact fin (fun w hw => by obtain ⟨z, t, rfl⟩ := st w hw; exact EqAt.str_bool _ _ _) rfl
  | int b => cases rep; obtain ⟨t0, rfl⟩ := rx; exact fin (fun w hw => by obtain ⟨z, t, rfl⟩ := st w hw; exact EqAt.str_int _ _ _ _) rfl
  | str b =>
    cases rep
    have fs : (xs.map V.str).all flatV = true := by simp [flatV]
    refine SeqAt.notIn_tupleAt (eqU (.str b)) pl (fun w hw => mem_eqAt rx rfl r fs w (by simpa using hw)) ⟨.bl _, H, I, rfl, ?_⟩
    rw [show its.toArray.any (eqU (.str b)) = its.any (eqU (.str b)) by simp, any_eqU r fs]
    exact q
  | tup ds => cases rep with
    | tup ha rs =>
      cases rx
      obtain ⟨its2, _, pl2, _⟩ := I.tuple (.inl (.inl ha))
      exact fin (fun w hw => by obtain ⟨z, t, rfl⟩ := st w hw; exact EqAt.str_tuple _ _ pl2 hu1) rfl
  | lst ds => cases rep with
    | lst _ ha rs =>
      cases rx
      obtain ⟨its2, _, pl2, _⟩ := I.list (.inl (.inl ha))
      exact fin (fun w hw => by obtain ⟨z, t, rfl⟩ := st w hw; exact EqAt.str_list _ _ pl2.isList hu1) rfl
  | dic kvs => cases rep with
    | @dic a _ _ ha =>
      cases rx
      obtain ⟨_, ya, va, ra, da⟩ := (show ObjOk X.prog X.w H s.heap a (.dK kvs) from I.hok a _ ha)
      exact fin (fun w hw => by obtain ⟨z, t, rfl⟩ := st w hw; exact eqAt_str_dict _ _ da hu1) rfl
end
section
variable {C : Ctx} {S : List Slot} {a b : Expr} {d : D} {xs : List Str} {pos : Pos} {x : Bool}
theorem dt_notInG (hd : Any0 d) (ha : DL C false a S d) (hb : DL C false b S (.ktup (xs.map V.str))) (hx : (!inG xs d) = x) (hm : behindInMarks .NotIn b = false) : DT C (.Compare a [.NotIn] [b] pos) S x := by
  subst hx
  exact dt_cmp (lv := false) (r2 := rNotInG C.M.K xs d) (fun r g => op_notInG hd g.room.units) hm ha hb fun A H x y Q _ rx ry hq => by
    cases ry with
    | ktup hs hf => exact ⟨A, _, rfl, hs, rx, hq _ H (Ex.refl H) (.bl _)⟩
end
end BK
set_option maxHeartbeats 2000000
/-! Part X: texts. -/
namespace BK
open PySem PySem.Spec PyProof.Rows L2
section
variable {C : Ctx} {S : List Slot} {a b e : Expr} {es : List Expr} {d : D} {ds : List D} {lv x : Bool} {pos pos' : Pos} {i j : Int} {z y : Str} {ys : List Str}
abbrev DSt (C : Ctx) (e : Expr) (S : List Slot) (z : Str) : Prop := DE C e S (.ok (.val (.str z)))
theorem reps_strs {K : PySem.W.Frag} {H : Hp} {O : Addr → Prop} : ∀ ns : List Str, Reps K H O (ns.map V.str) (ns.map D.str)
  | [] => .nil
  | n :: ns => .cons (.str n) (reps_strs ns)
theorem de_split {ap : Pos} (ha : DSt C a S z) (hb : DSt C b S y) (hy : (y.length == 0) = false) (hz : z.length + 2 ≤ 1000000)
    (hs : ∀ env, starEach [b] env = [(false, eval b env)] := by intro _; rfl) (hbase : ∀ env, attributeBase a "split" env (eval a env) = eval a env := by intro _; rfl) (hline : (ap.endLine == pos.line) = true := by rfl) :
    DE C (.Call (.Attribute a "split" ap) [b] [] pos) S (.ok (.own ((Txt.split z y).map D.str))) :=
  .mk fun W => ⟨_, fun r f => pe_split (pe_tE f) (pe_tE f) (hs _) (hbase _) hline, fun Oc H0 H σ fp hod sat Q hq hx =>
    ha W Oc H0 H σ fp hod sat _ (fun r v H1 er e1 res => by
      cases er; cases res
      refine ⟨⟨z, rfl⟩, hb W Oc H0 H1 σ fp (hod.ex e1) (sat.mono e1) _ (fun r w H2 er e2 res => ?_) (fun _ _ _ _ er => nomatch er)⟩
      cases er; cases res
      refine ⟨z, y, rfl, rfl, hy, sz_le hz, fun p hp => ?_⟩
      have e3 := (e1.trans e2).trans (Ex.new (o := .lst ((Txt.split z y).map V.str)) hp)
      exact hq (.own ((Txt.split z y).map D.str)) (.ref p) _ rfl e3 ⟨p, _, rfl, (e1.trans e2).back hp, upd_same, reps_strs _⟩) (fun _ _ _ _ er => nomatch er)⟩
def rJoin (K : PySem.W.Frag) : V → List V → Hp → VK → Prop := fun x xs H Q => ∃ a p, ∃ ys : List Str, x = .str a ∧ xs = [.ref p] ∧ (SqL K H p (ys.map V.str) ∨ SqT K H p (ys.map V.str)) ∧ (ys.map (·.length)).sum + ys.length * a.length ≤ 16777216 ∧ Q (.str (Txt.join a ys)) H
theorem de_join {ap : Pos} (ha : DSt C a S z) (hb : DL C false b S (.lst (ys.map D.str))) (hz : (ys.map (·.length)).sum + ys.length * z.length ≤ 16777216)
    (hs : ∀ env, starEach [b] env = [(false, eval b env)] := by intro _; rfl) (hbase : ∀ env, attributeBase a "join" env (eval a env) = eval a env := by intro _; rfl) (hline : (ap.endLine == pos.line) = true := by rfl) :
    DSt C (.Call (.Attribute a "join" ap) [b] [] pos) S (Txt.join z ys) := by
  refine .mk fun W => ⟨tM1 (rJoin C.M.K) (tE C a W) (tE C b W), fun r f => pe_join (to := tE C a W) (te := tE C b W) (pe_tE f) (pe_tE f) (hs _) (hbase _) hline, fun Oc H0 H σ fp hod sat Q hq hx => ?_⟩
  refine ha W Oc H0 H σ fp hod sat _ (fun r v H1 er e1 res => ?_) (fun _ _ _ _ er => nomatch er)
  cases er; cases res
  refine ⟨⟨z, rfl⟩, ?_⟩
  refine hb W Oc H0 H1 σ fp (hod.ex e1) (sat.mono e1) _ fun w H2 e2 rep => ?_
  cases rep with
  | @lst p vs _ _ hl rs =>
    rw [rs.to_strs] at hl
    exact ⟨z, p, ys, rfl, rfl, .inl (.inl (.inl hl)), hz, hq _ _ H2 rfl (e1.trans e2) (.str _)⟩
theorem de_intS {p : Pos} {n : Int} (hg : GlC C "int") (hm : C.M.mg "int" = none) (ha : DSt C a S z) (hn : PySem.intText? z = some n) (hz : z.length ≤ 640) (hs : ∀ env, starEach (a :: []) env = (false, eval a env) :: starEach [] env := by intro _; rfl) : DE C (.Call (.Name "int" p) [a] [] pos) S (.ok (.val (.int n))) := by
  refine de_callTy (lv := false) (rc := (fun xs H Q => ∃ a n, xs = [.str a] ∧ PySem.intText? a = some n ∧ a.length ≤ 640 ∧ Q (.int n) H)) (r := .val (.int n)) (fun _ _ => call_int_str) hg hm boot_int (by decide) (by decide) (da_cons (dl_val ha) da_nil hs) (fun A H vs Q hA reps hq => ?_) (.inr (.int _)) hs (fun _ => rfl)
  obtain ⟨v, rfl, rep⟩ := reps1 reps
  cases rep
  exact ⟨z, n, rfl, hn, hz, hq _ H (Ex.refl H) (.int _)⟩
theorem dt_notInSign {c : Nat} (ha : DSt C a S ⟨#[c]⟩) (hb : DSt C b S z) (hm : behindInMarks .NotIn b = false) : DT C (.Compare a [.NotIn] [b] pos) S (!decide (c ∈ z.cps.toList)) :=
  dt_cmp (lv := false) (fun _ _ => op_notIn_sign) hm (dl_val ha) (dl_val hb) fun A H v w Q _ rv rw' hq => by
    cases rv; cases rw'
    exact ⟨c, z, rfl, rfl, hq _ H (Ex.refl H) (.bl _)⟩
theorem dt_notInL (ha : DSt C a S z) (hb : DL C false b S (.lst (ys.map D.str))) (hm : behindInMarks .NotIn b = false) : DT C (.Compare a [.NotIn] [b] pos) S (!inV (.str z) (ys.map V.str)) :=
  dt_cmp (lv := false) (r2 := rIn C.M.K true) (fun _ _ => op_notIn_seq) hm (dl_val ha) hb fun A H v w Q _ rv rw' hq => by
    cases rv
    cases rw' with
    | @lst p vs _ _ hl rs =>
      rw [rs.to_strs] at hl
      exact ⟨p, _, rfl, .inl (.inl (.inl hl)), rfl, by simp [flatV], hq _ H (Ex.refl H) (.bl _)⟩
/-! ### text * number -/
def rMulS : R2 := fun x y H Q => ∃ z n, x = .str z ∧ y = .int n ∧ MulOk z n ∧ Q (.str (Txt.mul z n)) H
theorem op_mulS {X : Cx} : OpR X (binaryOp .Mult) rMulS := by
  intro pins s σ H x y v u Q I rx ry h
  obtain ⟨z, n, rfl, rfl, hm, q⟩ := h
  obtain ⟨t, rfl⟩ := rx
  obtain ⟨t', rfl⟩ := ry
  exact SB.mul hm fun t2 k => ⟨.str _, H, I.tok k, ⟨t2, rfl⟩, q⟩
theorem mul_ok {z : Str} {n : Int} (h0 : 0 ≤ n) (h1 : n ≤ 100000) (hz : z.length ≤ 10) : MulOk z n := by
  refine ⟨by rw [decide_eq_false (by omega), decide_eq_false (by omega)]; rfl, fun h _ => ?_, fun h _ => ?_⟩
  · have : (2 ^ 63 - 1 : Int) / n ≥ (2 ^ 63 - 1) / 100000 := by
      apply Int.le_ediv_of_mul_le (by omega)
      have : (2 ^ 63 - 1 : Int) / 100000 * n ≤ (2 ^ 63 - 1 : Int) / 100000 * 100000 := Int.mul_le_mul_of_nonneg_left h1 (by decide)
      omega
    omega
  · unfold Builtin.Str.tooLong
    rw [sizeLine_eq]
    refine decide_eq_false ?_
    have : z.length * n.toNat ≤ 10 * 100000 := Nat.mul_le_mul hz (by omega)
    omega
theorem de_mulS {n : Int} (ha : DSt C a S z) (hb : DI C b S n) (hm : MulOk z n) : DSt C (.BinOp a .Mult b pos) S (Txt.mul z n) :=
  de_op (lv := false) (fun _ _ => op_mulS) (dl_val ha) (dl_val hb) (fun A H v w Q _ rv rw' hq => by
    cases rv; cases rw'
    exact ⟨z, n, rfl, rfl, hm, hq _ H (Ex.refl H) (.str _)⟩) (.inr (.str _))
/-! ### f-texts -/
/-- what {x} writes -/
inductive Fmt : D → Str → Prop
  | str {z : Str} (h : z.length ≤ 1000000) : Fmt (.str z) z
  | int {i : Int} (h : i.natAbs.log2 < 1920) : Fmt (.int i) (toString i)
theorem empty_app (z : Str) : Str.empty ++ z = z := TL.ext_tl (by rw [TL.tl_append]; rfl)
theorem de_fstr3 {p1 p3 : Pos} {k : Nat} {p2 : Pos} {da db : D} {sa sb c : Str} (ha : DE C a S (.ok (.val da))) (hb : DE C b S (.ok (.val db))) (fa : Fmt da sa) (fb : Fmt db sb) (hz : sa.length + c.length + sb.length ≤ 1000000) :
    DSt C (.JoinedStr [.FormattedValue a (-1) none p1, .Constant (.str c) k p2, .FormattedValue b (-1) none p3] pos) S (sa ++ c ++ sb) :=
  .mk fun W => ⟨_, fun r f => pe_joined (.cons (pe_fmt (pe_tE f)) (.cons pe_str (.cons (pe_fmt (pe_tE f)) .nil))), fun Oc H0 H σ fp hod sat Q hq hx => by
    have l1 : (Str.empty ++ sa).length ≤ sizeLine := by rw [empty_app]; exact sz_le (by omega)
    have l2 : (Str.empty ++ sa ++ c).length ≤ sizeLine := by rw [empty_app, Str.length_append]; exact sz_le (by omega)
    have l3 : (Str.empty ++ sa ++ c ++ sb).length ≤ sizeLine := by rw [empty_app, Str.length_append, Str.length_append]; exact sz_le (by omega)
    have fin : ∀ H2, Ex H H2 → Q (.str (Str.empty ++ sa ++ c ++ sb)) H2 := fun H2 ex => by
      rw [empty_app]; exact hq _ _ H2 rfl ex (.str _)
    have step2 : ∀ H1, Ex H H1 → tE C b W σ H1 fun x H2 => (∃ y : Str, x = .str y ∧ y.length ≤ sizeLine ∧ ∃ y' : Str, V.str y = .str y' ∧ (Str.empty ++ sa ++ c ++ y').length ≤ sizeLine ∧ Q (.str (Str.empty ++ sa ++ c ++ y')) H2) ∨ ∃ i : Int, x = .int i ∧ i.natAbs.log2 < 1920 ∧ ∃ y' : Str, V.str (toString i) = .str y' ∧ (Str.empty ++ sa ++ c ++ y').length ≤ sizeLine ∧ Q (.str (Str.empty ++ sa ++ c ++ y')) H2 := fun H1 e1 =>
      hb W Oc H0 H1 σ fp (hod.ex e1) (sat.mono e1) _ (fun r v H2 er e2 res => by
        cases er
        cases fb with
        | str h => cases res; exact .inl ⟨_, rfl, sz_le h, _, rfl, l3, fin H2 (e1.trans e2)⟩
        | int h => cases res; exact .inr ⟨_, rfl, h, _, rfl, l3, fin H2 (e1.trans e2)⟩) (fun _ _ _ _ er => nomatch er)
    refine ha W Oc H0 H σ fp hod sat _ (fun r v H1 er e1 res => ?_) (fun _ _ _ _ er => nomatch er)
    cases er
    cases fa with
    | str h => cases res; exact .inl ⟨_, rfl, sz_le h, _, rfl, l1, _, rfl, l2, step2 H1 e1⟩
    | int h => cases res; exact .inr ⟨_, rfl, h, _, rfl, l1, _, rfl, l2, step2 H1 e1⟩⟩
end
end BK
set_option maxHeartbeats 2000000
/-! Part Y: a comprehension whose element wants a token given out; text.replace. -/
namespace BK
open PySem PySem.Spec PyProof.Rows L2 CwR
section
variable {X : Cx}
theorem tk1 {α : Type} {t : Sem α} {Q Q' : α → Shared → Prop} {M : Model} {A : Around} {E : Value → Shared → Prop} {s : Shared} (k : 1 ≤ s.toks) (h : wpAny M A t Q E s) (f : ∀ a s', 1 ≤ s'.toks → Q a s' → Q' a s') : wpAny M A t Q' E s :=
  wpAny_mono (PySem.wpAny_toks_of k h) (fun a s' z => f a s' z.1 z.2) fun _ _ z => z.2
theorem tk0 {α : Type} {t : Sem α} {Q Q' : α → Shared → Prop} {M : Model} {A : Around} {E : Value → Shared → Prop} {s : Shared} (k : 1 ≤ s.toks) (h : wpAny M A t Q (fun _ _ => False) s) (f : ∀ a s', 1 ≤ s'.toks → Q a s' → Q' a s') : wpAny M A t Q' E s :=
  wpAny_mono (PySem.wpAny_toks_of k h) (fun a s' z => f a s' z.1 z.2) fun _ _ z => z.2.elim
/-- [el for tg in it if ..], the element wants a token -/
theorem pet_lc {el tg it : Expr} {fs : List Expr} {sco : Scope} {own : List (Str × Nat)} {pos : Pos} {wi : TI} {g : TG} {tt : TT} {te : TE} (calm : X.calm = true) (nod : X.N.Nodup) (pit : PI X tg it wi) (bok : BlkOk X.N X.env.scope sco own)
    (ptg : ∀ (sh : Shared) (Hh : Hp) (Cc : Addr) (cs : List (Str × Addr)) (fa : List Addr), PG (X.blk sh Hh sco (compEnvC sco cs Cc X.env) fa) tg g) (pte : ∀ (sh : Shared) (Hh : Hp) (Cc : Addr) (cs : List (Str × Addr)) (fa : List Addr), PTs (X.blk sh Hh sco (compEnvC sco cs Cc X.env) fa) fs tt)
    (pel : ∀ (sh : Shared) (Hh : Hp) (Cc : Addr) (cs : List (Str × Addr)) (fa : List Addr), PET (X.blk sh Hh sco (compEnvC sco cs Cc X.env) fa) el te) (fold : ∀ x, foldedSetIterable it X.env x = pure x) :
    PET X (.ListComp el [⟨tg, it, fs, 0⟩] sco pos) (tLc wi g tt te (own.map (·.2))) := by
  intro pins s σ H Q tok0 I0 want
  rw [eval_ListComp]
  have free : ∀ y ∈ sco.names, y.2 = .free → ∃ c, X.env.cells.lookup y.1 = some c := fun y ym ye => (bok.free y ym ye).elim (fun k => I0.ok.has _ (.inl k)) fun k => I0.ok.has _ (.inr k)
  refine wpAny_comprehension_free (use := none) rfl fold (closure_ok free) bok.kind (fun y ym ye => by rw [bok.uniq y ym, ye]) ?_
  refine tk1 tok0 (pit.run pins s σ H _ I0 want) fun _ sA tokA hA => tk1 tokA hA fun itv sB tokB hB => ?_
  obtain ⟨ia, fa, tn, J, HB, rfl, IB, TT, stB, fB, q⟩ := hB
  refine wpAny_newObj_type (newEnv_comp ?_) (by show 0 ≤ sizeLine; decide)
  have freeD : HB sB.heap.objs.size = none := IB.hok.fresh (Nat.le_refl _)
  obtain ⟨Wt, ⟨mz, wz⟩, step⟩ := q _ freeD
  let hpL : Heap := sB.heap.push { cls := .type "list", data := .seq ([] : List Value).toArray }
  let sL : Shared := { sB with heap := hpL }
  have keepL : ∀ b o, sB.heap.get? b = some o → hpL.get? b = some o := fun b o e => Heap.get?_push_of_some _ e
  let HL : Hp := upd HB sB.heap.objs.size (.lst [])
  have IL : Inv X pins σ HL sL := IB.laid (t' := sB.toks) keepL (Nat.le_refl _) ⟨Nat.zero_le _, [], 0, .nil, Heap.get?_push_size _ rfl⟩
  have ltf : ∀ b ∈ fa, b < sB.heap.objs.size := fun b bm => by
    obtain ⟨o, e, _⟩ := TT.obj _ _ stB b bm
    exact Heap.lt_size e
  have fL : ∀ b ∈ fa, FpOk X pins HL b ∧ b < sL.heap.objs.size := fun b bm => by
    refine ⟨⟨?_, (fB b bm).2⟩, ?_⟩
    · show upd HB sB.heap.objs.size (.lst []) b = none
      rw [upd_ne (Nat.ne_of_lt (ltf b bm))]; exact (fB b bm).1
    · show b < (sB.heap.push _).objs.size
      rw [Heap.size_push]; exact Nat.lt_succ_of_lt (ltf b bm)
  have stL : tn 0 sL.heap := TT.keep _ _ _ stB fun b _ o e => keepL b o e
  have IE := block_start IL bok nod fL
  have gT := ptg sL HL sL.heap.objs.size (cellsFrom (sL.heap.objs.size + 1) sco.names (cloFrom X.env.cells sco.names [])) fa
  have tT := pte sL HL sL.heap.objs.size (cellsFrom (sL.heap.objs.size + 1) sco.names (cloFrom X.env.cells sco.names [])) fa
  have eT := pel sL HL sL.heap.objs.size (cellsFrom (sL.heap.objs.size + 1) sco.names (cloFrom X.env.cells sco.names [])) fa
  have noneF : ∀ b ∈ fa, HL b = none := fun b bm => (fL b bm).1.1
  generalize hen : compEnvC sco (cellsFrom (sL.heap.objs.size + 1) sco.names (cloFrom X.env.cells sco.names [])) sL.heap.objs.size X.env = en at IE gT tT eT
  have locE : en.locals = sL.heap.objs.size := by subst hen; rfl
  generalize hsE : ({ sL with heap := pushCells (sL.heap.push { cls := .type "dict", data := .dict #[] }) sco.names } : Shared) = sE at IE
  have tokE : 1 ≤ sE.toks := by rw [← hsE]; exact tokB
  have stE : tn 0 sE.heap := TT.keep _ _ _ stL fun b _ o e => by rw [← hsE]; exact pushCells_keeps _ _ _ _ (Heap.get?_push_of_some _ e)
  have fpo : ∀ {σ' : L2.St} {H' : Hp} {s' : Shared}, Inv (X.blk sL HL sco en fa) [] σ' H' s' → (∀ b ∈ fa, H' b = none) → ∀ b ∈ fa, FpOk (X.blk sL HL sco en fa) [] H' b := fun {σ' H' s'} I' nn b bm =>
    ⟨nn b bm, (I'.ok.exf b bm).1, I'.ok.exfs b bm, .inl bm, fun x c e => (I'.ok.exf b bm).2 x c e, fun p pm => absurd (show p ∈ ([] : List (Addr × Obj)) ++ [] from pm) (by simp)⟩
  have run : codeAny (model X.prog X.w) X.A (.compLoop (.ListComp el [⟨tg, it, fs, 0⟩] sco pos) 0 (.ref ia) (.ref sB.heap.objs.size) en) (compPost (model X.prog X.w) X.A X.xe none (EP X pins σ Q) (.ref sB.heap.objs.size) sL.heap.objs.size) sE := by
    refine compLoop_any (fun n s' => 1 ≤ s'.toks ∧ ∃ i H', Inv (X.blk sL HL sco en fa) [] (wipe σ (own.map (·.2))) H' s' ∧ tn i s'.heap ∧ (∀ b ∈ fa, H' b = none) ∧ Wt i n H') ?_ mz ⟨tokE, 0, HL, IE, stE, noneF, wz⟩
    rintro n s5 ⟨tok5, i, H5, I5, st5, n5, w5⟩
    rcases step i n H5 w5 with ⟨stop, fin⟩ | ⟨go, Nx, less, turn⟩
    · refine tk0 tok5 (TT.done (X.blk sL HL sco en fa) rfl rfl rfl calm i [] s5 _ H5 (fun _ _ => False) I5 (fpo I5 n5) st5 stop) fun r s6 _ hr => ?_
      obtain ⟨rfl, I6⟩ := hr
      have I7 : Inv X pins σ H5 s6 := IL.call' (ch := fa) I6.os I6.base I6.hok I6.bare fun b bm => ⟨(fL b bm).1.2.2.2.1, (fL b bm).1.2.1, (fL b bm).1.2.2.2.2.1, (fL b bm).1.2.2.2.2.2⟩
      have nC : H5 sL.heap.objs.size = none := by
        have z : H5 en.locals = none := I6.free
        rw [locE] at z; exact z
      obtain ⟨m, hn, _⟩ := I6.loc
      have hn : s6.heap.Ns en.locals m := hn
      rw [locE] at hn
      obtain ⟨f0, f1, f2, f3, f4, f5⟩ := IL.fpOk (Nat.le_refl _) nC
      exact ⟨m, hn, fun h'' sb => ⟨.ref _, H5, I7.turned (t' := s6.toks) (fun b o hb e => (sb.2 b hb).trans e) f0 f1 f3 f4 f5, rfl, fin⟩⟩
    · refine tk0 tok5 (TT.item (X.blk sL HL sco en fa) rfl rfl rfl calm i [] s5 _ H5 (fun _ _ => False) I5 (fpo I5 n5) st5 go) fun r s6 tok6 hr => ?_
      obtain ⟨u, rfl, h6⟩ := hr
      refine tk0 tok6 h6 fun _ s7 tok7 h7 => ?_
      obtain ⟨x, H7, I7, r7, y7, st7, n7⟩ := h7
      refine tk0 tok7 (gT.run _ s7 _ H7 x u _ (I7.pinned (fpo I7 n7) (TT.obj _ _ st7)) r7 (turn x H7 y7)) fun _ s8 tok8 h8 => ?_
      obtain ⟨σ8, H8, I8, hw8, q8⟩ := h8
      refine tk0 tok8 (tT.run _ s8 σ8 H8 _ I8 q8) fun b s9 tok9 h9 => ?_
      obtain ⟨H9, I9, q9⟩ := h9
      have over : ∀ {s' : Shared} {H' : Hp}, 1 ≤ s'.toks → Inv (X.blk sL HL sco en fa) ([] ++ pinsAt fa s7.heap) σ8 H' s' → Nx H' → ∃ m, m < n ∧ 1 ≤ s'.toks ∧ ∃ i H', Inv (X.blk sL HL sco en fa) [] (wipe σ (own.map (·.2))) H' s' ∧ tn i s'.heap ∧ (∀ b ∈ fa, H' b = none) ∧ Wt i m H' := fun {s' H'} tk I' nx => by
        obtain ⟨m', hm, w'⟩ := less H' nx
        have pinned : ∀ b ∈ fa, ∀ o, s7.heap.get? b = some o → s'.heap.get? b = some o ∧ H' b = none := fun b bm o e => by
          have z := I'.pin (b, o) (List.mem_append_right _ (List.mem_append_right _ (mem_pinsAt bm e)))
          exact ⟨z.1, z.2.1⟩
        have ln : (wipe σ (own.map (·.2))).length = σ8.length := by rw [← hw8, wipe_length]
        refine ⟨m', hm, tk, i + 1, H', (I'.unpinned (pins := [])).weak ln (fun j v e => ?_), TT.keep _ _ _ st7 fun b bm o e => (pinned b bm o e).1, fun b bm => ?_, w'⟩
        · rw [← hw8] at e; exact (wipe_some e).1
        · obtain ⟨o, e, _⟩ := TT.obj _ _ st7 b bm
          exact (pinned b bm o e).2
      cases b with
      | false =>
        simp only [Bool.false_eq_true, if_false] at q9 ⊢
        exact over tok9 I9 q9
      | true =>
        simp only [if_true] at q9 ⊢
        refine tk0 tok9 (eT _ s9 σ8 H9 _ tok9 I9 q9) fun z sX tokX hX => ?_
        obtain ⟨yv, HX, IX, rX, acc, hDX, hzX, nx⟩ := hX
        refine tk0 tokX (app_ok (X := X.blk sL HL sco en fa) (E := fun _ _ => False) (Q := fun _ s' => Inv (X.blk sL HL sco en fa) ([] ++ pinsAt fa s7.heap) σ8 (upd HX sB.heap.objs.size (.lst (acc ++ [yv]))) s') IX hDX hzX rX fun s' I' => I') fun _ sY tokY IY => over tokY IY nx
  have go := codeAny_compStart_list run (TT.self X.A 0 _ _ _ stE run)
  subst hen; subst hsE
  exact go
end
/-! ### told by data, a token out -/
def tEt (C : Ctx) (e : Expr) (W : WX) : TE := fun σ H Q => ∃ t, (∀ r, Fam C W r → PET (C.x r) e t) ∧ t σ H Q
def DEt (C : Ctx) (e : Expr) (S : List Slot) (o : Out) : Prop := ∀ W, Ev C.M.K W (tEt C e W) S o
def DLt (C : Ctx) (b : Bool) (e : Expr) (S : List Slot) (d : D) : Prop := ∀ W, EvL C.M.K b (tEt C e W) S d
section
variable {C : Ctx} {W : WX} {r : Rst} {S : List Slot} {a b e : Expr} {o : Out} {R0 : R} {d : D} {ds es : List D} {lv : Bool} {pos : Pos} {z y w : Str} {ys : List Str}
theorem pet_tEt (f : Fam C W r) : PET (C.x r) e (tEt C e W) := fun pins s σ H Q k I ⟨t, p, q⟩ => p r f pins s σ H Q k I q
theorem DEt.mk (h : ∀ W, ∃ t, (∀ r, Fam C W r → PET (C.x r) e t) ∧ Ev C.M.K W t S o) : DEt C e S o := fun W Oc H0 H σ fp hod sat Q hq hx => by
  obtain ⟨t, p, q⟩ := h W
  exact ⟨t, p, q Oc H0 H σ fp hod sat Q hq hx⟩
theorem det_of (h : DE C e S o) : DEt C e S o := .mk fun W => ⟨tE C e W, fun r f => PET.of (pe_tE f), h W⟩
theorem dlt_of (h : DEt C e S (.ok R0)) (ed : (if lv then R0.fz else some R0.toD) = some d) : DLt C lv e S d := fun W Oc H0 H σ fp hod sat Q hq => by
  refine h W Oc H0 H σ fp hod sat Q (fun r' v H' er ex res => ?_) (fun _ _ _ _ er => nomatch er)
  cases er
  cases lv with
  | true => exact hq v H' ex (res.frz (sat.thereO hod) ed)
  | false => cases Option.some.inj ed; exact hq v H' ex res.toRd
theorem det_cat (ha : DLt C lv a S (.lst ds)) (hb : DLt C lv b S (.lst es)) (hz : ds.length + es.length ≤ 1000000) (hf : lv = true ∨ ∀ d ∈ ds ++ es, Flat d) : DEt C (.BinOp a .Add b pos) S (.ok (.own (ds ++ es))) :=
  .mk fun W => ⟨_, fun r f => pet_op op_cat (pet_tEt f) (pet_tEt f), fun Oc H0 H σ fp hod sat Q hq hx =>
    ha W Oc H0 H σ fp hod sat _ fun x H1 e1 rx => hb W Oc H0 H1 σ fp (hod.ex e1) (sat.mono e1) _ fun u H2 e2 ru =>
      op2_cat (K := C.M.K) hz _ H2 x u Q ((((sat.thereO hod).ex e1).ex e2).lvl) (rx.mono e2) ru fun v H3 e3 res => hq _ v H3 rfl ((e1.trans e2).trans e3) ((res.unlvl (r := .own (ds ++ es)) hf).base (e1.trans e2))⟩
theorem det_repl {j k : Nat} {c0 c1 ap : Pos} (ha : DSt C a S z) (hyz : (y == w) = false) (hz : z.length + (z.length + 1) * w.length ≤ 16777216)
    (hst : ∀ env, starEach [.Constant (.str y) j c0, .Constant (.str w) k c1] env = [(false, eval (.Constant (.str y) j c0) env), (false, eval (.Constant (.str w) k c1) env)] := by intro _; rfl)
    (hbase : ∀ env, attributeBase a "replace" env (eval a env) = eval a env := by intro _; rfl) (hline : (ap.endLine == pos.line) = true := by rfl) :
    DEt C (.Call (.Attribute a "replace" ap) [.Constant (.str y) j c0, .Constant (.str w) k c1] [] pos) S (.ok (.val (.str (Txt.replace z y w)))) :=
  .mk fun W => ⟨tReplC (tE C a W) y w, fun r f => pet_replC (pe_tE f) hyz (hst _) (hbase _) hline, fun Oc H0 H σ fp hod sat Q hq hx =>
    ha W Oc H0 H σ fp hod sat _ (fun r v H1 er e1 res => by
      cases er; cases res
      exact ⟨z, rfl, hz, hq _ _ H1 rfl e1 (.str _)⟩) (fun _ _ _ _ er => nomatch er)⟩
/-- 'c'.join(e), e wants a token: the constant gives one -/
theorem pe_joinT {X : Cx} {te : TE} {j : Nat} {c0 ap : Pos} (he : PET X b te) (hs : starEach [b] X.env = [(false, eval b X.env)]) (hbase : attributeBase (.Constant (.str z) j c0) "join" X.env (eval (.Constant (.str z) j c0) X.env) = eval (.Constant (.str z) j c0) X.env) (hline : (ap.endLine == pos.line) = true) :
    PE X (.Call (.Attribute (.Constant (.str z) j c0) "join" ap) [b] [] pos) (tM1 (rJoin X.K) (tC (.str z)) te) := by
  refine ⟨fun pins s σ H Q I h => ?_⟩
  obtain ⟨_, q⟩ : (∃ a, V.str z = .str a) ∧ te σ H fun y H2 => rJoin X.K (.str z) [y] H2 Q := h
  refine PySem.Call_method1 hbase hs hline (Calls.Constant_str ?_)
  refine ⟨"str", _, PySem.F.plainAttrs_str, PySem.F.slot_str_join, PySem.F.type_str_join, typeIs_str _ _ _, (fun _ e => nomatch e), Calls.callWith_builtin rfl (Calls.evalArgs_plain (Calls.spliced_cons ?_))⟩
  refine thn (he pins _ σ H _ (by show 1 ≤ s.toks + 1; omega) (I.tok (s.toks + 1)) q) fun v s2 hv => ?_
  obtain ⟨y, H2, I2, r2, q2⟩ := hv
  exact Calls.spliced_nil (mt_join pins s2 σ H2 (.str z) [y] _ [v] Q I2 ⟨s.toks, rfl⟩ (.cons r2 .nil) q2)
theorem de_joinT {j : Nat} {c0 ap : Pos} (hb : DLt C false b S (.lst (ys.map D.str))) (hz : (ys.map (·.length)).sum + ys.length * z.length ≤ 16777216)
    (hs : ∀ env, starEach [b] env = [(false, eval b env)] := by intro _; rfl) (hbase : ∀ env, attributeBase (.Constant (.str z) j c0) "join" env (eval (.Constant (.str z) j c0) env) = eval (.Constant (.str z) j c0) env := by intro _; rfl) (hline : (ap.endLine == pos.line) = true := by rfl) :
    DSt C (.Call (.Attribute (.Constant (.str z) j c0) "join" ap) [b] [] pos) S (Txt.join z ys) := by
  refine .mk fun W => ⟨tM1 (rJoin C.M.K) (tC (.str z)) (tEt C b W), fun r f => pe_joinT (pet_tEt f) (hs _) (hbase _) hline, fun Oc H0 H σ fp hod sat Q hq hx => ?_⟩
  refine ⟨⟨z, rfl⟩, ?_⟩
  refine hb W Oc H0 H σ fp hod sat _ fun w H2 e2 rep => ?_
  cases rep with
  | @lst p vs _ _ hl rs =>
    rw [rs.to_strs] at hl
    exact ⟨z, p, ys, rfl, rfl, .inl (.inl (.inl hl)), hz, hq _ _ H2 rfl e2 (.str _)⟩
end
theorem ev_lcG {C : Ctx} {S : List Slot} {lv : Bool} {α : Type} {W : WX} {tg it : Expr} {scope : Scope} {vs : List Nat} (te : TE) (l : List α) (enc h : α → D) (hi : DIt C lv tg it S (l.map enc)) (hv : ∀ v ∈ vs, S[v]? = some .any) (hz : l.length ≤ 1000000)
    (hfl : lv = true ∨ ∀ x ∈ l, Flat (enc x))
    (he : ∀ x ∈ l, ∃ S2 r, DGc (C.blk scope) vs tg S (enc x) S2 ∧ Ev C.M.K W0 te S2 (.ok r) ∧ r.fz = some (h x)) :
    Ev C.M.K W (tLc (tIt C tg it W) (tGt (C.blk scope) tg W0) (tTs (C.blk scope) [] W0) te vs) S (.ok (.own (l.map h))) := fun Oc H0 H σ fp hod sat Q hq hx =>
  hi W Oc H0 H σ fp hod sat _ fun J H1 e1 ⟨G, Y, w, hG, hY⟩ Dl hD => by
    have s1 := (sat.mono e1).wipe hv
    have gx : Ex (BK.ground lv H1 fp) H1 := by
      cases lv with
      | false => exact Ex.refl _
      | true => exact hid_ex
    let Oc' : Addr → Prop := fun a => Oc a ∨ a = Dl
    have sA : Sat C.M.K Oc' H0 H1 (L2.wipe σ vs) S fp := s1.avoid fun a z => z.imp id fun z => by rw [z]; exact hD
    let Pv : Nat → Hp → Prop := fun i H' => ∃ acc, Ex H1 H' ∧ H' Dl = some (.lst acc) ∧ Reps C.M.K H' (Ow Oc' fp) acc ((l.take i).map h)
    refine lc_it w Pv ⟨[], Ex.new hD, upd_same, .nil⟩ (fun i H' _ ⟨_, ex, _⟩ => hG H' (gx.trans ex)) (fun i x H' H2 hlt ⟨acc, ex, hl, reps⟩ y => ?_) fun H' ⟨acc, ex, hl, reps⟩ => ?_
    · have hlt' : i < l.length := by rw [List.length_map] at hlt; exact hlt
      have ed : (l.map enc)[i]? = some (enc l[i]) := by rw [List.getElem?_map, List.getElem?_eq_getElem hlt']; rfl
      have mem : l[i] ∈ l := List.getElem_mem hlt'
      obtain ⟨ex2, rep⟩ := hY i H' x H2 _ ed (gx.trans ex) y
      have rx : Rep C.M.K H2 (Ow Oc' fp) x (enc l[i]) := by
        rcases hfl with rfl | hfl
        · refine rep _ fun a z => ?_
          rcases z with (z | z) | z
          · exact .inl z
          · right; rw [z]
            by_cases q : Fp fp Dl
            · exact hid_in q
            · show hid H1 (Fp fp) Dl = none; rw [hid_out q]; exact hD
          · exact .inr (hid_in z)
        · exact Rep.flat (rep no fun _ z => z.elim) (hfl _ mem)
      have sB := sA.mono (ex.trans ex2)
      have t2 : There Oc' H2 := fun a z => by
        rcases z with z | z
        · exact (hod.ex ((e1.trans ex).trans ex2)) a z
        · rw [z, ex2 _ _ hl]; exact fun z => nomatch z
      obtain ⟨S2, rr, hg, hel, hfz⟩ := he _ mem
      have tk : l.take (i + 1) = l.take i ++ [l[i]] := by rw [List.take_add_one, List.getElem?_eq_getElem hlt']; rfl
      refine hg W0 Oc' H0 H2 _ fp t2 sB x rx _ fun σ2 fp2 hw sup sC => ⟨hw.trans (wipe_idem fun _ z => z), ?_⟩
      refine (dts_nil : DTs (C.blk scope) [] S2 true) W0 Oc' H0 H2 σ2 fp2 t2 sC _ fun H3 e3 => ?_
      rw [if_pos rfl]
      have sD := sC.mono e3
      refine hel Oc' H0 H3 σ2 fp2 (t2.ex e3) sD _ (fun r v H4 er e4 res => ?_) (fun _ _ _ _ er => nomatch er)
      cases er
      have rv := res.frz (sD.thereO (t2.ex e3)) hfz
      have ex4 : Ex H1 H4 := ((ex.trans ex2).trans e3).trans e4
      have hl4 : H4 Dl = some (.lst acc) := e4 _ _ (e3 _ _ (ex2 _ _ hl))
      have oD : Ow Oc' fp2 Dl := .inl (.inr rfl)
      have oD1 : Ow Oc' fp Dl := .inl (.inr rfl)
      have mb : Mb (H4 Dl) := by rw [hl4]; trivial
      refine ⟨acc, hl4, ?_, acc ++ [v], ex4.mut hD, upd_same, ?_⟩
      · rw [reps.length, List.length_map]
        refine sz_lt ?_
        rw [List.length_take]; exact Nat.le_trans (Nat.min_le_right _ _) hz
      · rw [tk, List.map_append]
        refine (((reps.mono ((ex2.trans e3).trans e4)).write oD1 mb).app ?_)
        exact .one ((rv.write oD mb).less fun a z => sup a z)
    · refine hq _ _ H' rfl (e1.trans ex) ⟨Dl, acc, rfl, e1.back hD, hl, ?_⟩
      rw [List.length_map, List.take_length] at reps
      exact reps.less fun a z => by
        rcases z with (z | z) | z
        · exact .inl (.inl z)
        · exact .inr z
        · exact .inl (.inr z)
theorem det_map {C : Ctx} {S : List Slot} {lv : Bool} {pos : Pos} {α : Type} {tg it elt : Expr} {scope : Scope} (own : List (Str × Nat)) (l : List α) (enc h : α → D) (hb : blkC C.N C.sc scope own = true) (hi : DIt C lv tg it S (l.map enc)) (hv : anyS S (own.map (·.2)) = true) (hz : l.length ≤ 1000000)
    (hfl : lv = true ∨ ∀ x ∈ l, Flat (enc x)) (he : ∀ x ∈ l, ∃ S2 r, DGc (C.blk scope) (own.map (·.2)) tg S (enc x) S2 ∧ DEt (C.blk scope) elt S2 (.ok r) ∧ r.fz = some (h x))
    (hf : ∀ env x, foldedSetIterable it env x = pure x := by intro _ _; rfl) : DEt C (.ListComp elt [⟨tg, it, [], 0⟩] scope pos) S (.ok (.own (l.map h))) :=
  .mk fun W => ⟨_, fun r f => pet_lc (X := C.x r) f.g.calm f.g.nd (pi_tI f) (by have := blkOk_by hb; rw [← f.g.sc] at this; exact this) (fun s H c cl fp => pg_tG (f.blk s H scope c cl fp)) (fun s H c cl fp => pts_tT (f.blk s H scope c cl fp)) (fun s H c cl fp => pet_tEt (f.blk s H scope c cl fp)) (hf _),
    ev_lcG (tEt (C.blk scope) elt W0) l enc h hi (anyS_ok hv) hz hfl fun x hx => by
      obtain ⟨S2, r, h1, h2, h3⟩ := he x hx
      exact ⟨S2, r, h1, h2 W0, h3⟩⟩
end BK
/-! Part Z: sorted of tuples of numbers, of any length. -/
namespace BK
open PySem PySem.Spec PyProof.Rows L2
/-! ## lists of numbers, one before the other -/
def lexL : List Int → List Int → Bool
  | [], [] => false
  | [], _ :: _ => true
  | _ :: _, [] => false
  | x :: a, y :: b => if x = y then lexL a b else decide (x < y)
theorem lexL_asym : ∀ a b : List Int, lexL a b = true → lexL b a = false
  | [], [], h => nomatch h
  | [], _ :: _, _ => rfl
  | _ :: _, [], h => nomatch h
  | x :: a, y :: b, h => by
    unfold lexL at h ⊢
    by_cases e : x = y
    · subst e
      rw [if_pos rfl] at h ⊢
      exact lexL_asym a b h
    · rw [if_neg e] at h
      rw [if_neg fun q => e q.symm]
      have := of_decide_eq_true h
      exact decide_eq_false (by omega)
theorem lexL_tr : ∀ a b c : List Int, lexL b a = false → lexL c b = false → lexL c a = false
  | [], [], [], _, _ => rfl
  | [], [], _ :: _, _, _ => rfl
  | [], _ :: _, [], _, h => nomatch h
  | [], _ :: _, _ :: _, _, _ => rfl
  | _ :: _, [], _, h, _ => nomatch h
  | _ :: _, _ :: _, [], _, h => nomatch h
  | x :: a, y :: b, z :: c, h1, h2 => by
    unfold lexL at h1 h2 ⊢
    by_cases e1 : y = x
    · subst e1
      rw [if_pos rfl] at h1
      by_cases e2 : z = y
      · subst e2
        rw [if_pos rfl] at h2 ⊢
        exact lexL_tr a b c h1 h2
      · rw [if_neg e2] at h2 ⊢
        exact h2
    · rw [if_neg e1] at h1
      have q1 := of_decide_eq_false h1
      by_cases e2 : z = y
      · subst e2
        rw [if_neg e1]
        exact h1
      · rw [if_neg e2] at h2
        have q2 := of_decide_eq_false h2
        rw [if_neg (by omega)]
        exact decide_eq_false (by omega)
theorem lexL_anti : ∀ a b : List Int, lexL a b = false → lexL b a = false → a = b
  | [], [], _, _ => rfl
  | [], _ :: _, h, _ => nomatch h
  | _ :: _, [], _, h => nomatch h
  | x :: a, y :: b, h1, h2 => by
    unfold lexL at h1 h2
    by_cases e : x = y
    · subst e
      rw [if_pos rfl] at h1 h2
      rw [lexL_anti a b h1 h2]
    · rw [if_neg e] at h1
      rw [if_neg fun q => e q.symm] at h2
      have := of_decide_eq_false h1
      have := of_decide_eq_false h2
      omega
theorem lexL_swo : SrtO.Swo lexL := ⟨lexL_asym, lexL_tr⟩
/-! ## sorting by them -/
section
variable {α : Type} {k : α → List Int}
def insL (k : α → List Int) (x : α) : List α → List α
  | [] => [x]
  | y :: l => if lexL (k y) (k x) then y :: insL k x l else x :: y :: l
def sortL (k : α → List Int) (l : List α) : List α := l.foldr (insL k) []
theorem insL_perm (x : α) : ∀ l : List α, (insL k x l).Perm (x :: l)
  | [] => .refl _
  | y :: l => by
    unfold insL
    split
    · exact ((insL_perm x l).cons y).trans (List.Perm.swap x y l)
    · exact .refl _
theorem sortL_perm : ∀ l : List α, (sortL k l).Perm l
  | [] => .refl _
  | x :: l => (insL_perm x (sortL k l)).trans ((sortL_perm l).cons x)
abbrev ltK (k : α → List Int) (x y : α) : Bool := lexL (k x) (k y)
theorem ltK_swo (k : α → List Int) : SrtO.Swo (ltK k) := ⟨fun _ _ h => lexL_asym _ _ h, fun _ _ _ h1 h2 => lexL_tr _ _ _ h1 h2⟩
theorem insL_srt (x : α) : ∀ {l : List α}, SrtO.Srtd (ltK k) l → SrtO.Srtd (ltK k) (insL k x l)
  | [], _ => SrtO.srtd_one x
  | y :: l, h => by
    have ⟨h1, h2⟩ := List.pairwise_cons.mp h
    unfold insL
    split
    · rename_i q
      refine List.pairwise_cons.mpr ⟨fun z hz => ?_, insL_srt x h2⟩
      rcases List.mem_cons.mp ((insL_perm x l).mem_iff.mp hz) with rfl | hz
      · exact lexL_asym _ _ q
      · exact h1 z hz
    · rename_i q
      have q' : lexL (k y) (k x) = false := by cases e : lexL (k y) (k x) with | true => exact absurd e q | false => rfl
      refine List.pairwise_cons.mpr ⟨fun z hz => ?_, h⟩
      rcases List.mem_cons.mp hz with rfl | hz
      · exact q'
      · exact (ltK_swo k).tr x y z q' (h1 z hz)
theorem sortL_srt : ∀ l : List α, SrtO.Srtd (ltK k) (sortL k l)
  | [] => .nil
  | x :: l => insL_srt x (sortL_srt l)
theorem srt_uniq (hk : ∀ x y : α, k x = k y → x = y) : ∀ {l m : List α}, SrtO.Srtd (ltK k) l → SrtO.Srtd (ltK k) m → l.Perm m → l = m
  | [], m, _, _, h => (List.Perm.eq_nil h.symm).symm
  | x :: l, [], _, _, h => absurd h.length_eq (by simp)
  | x :: l, y :: m, hl, hm, h => by
    have h1 : ltK k x y = false := by
      rcases List.mem_cons.mp (h.mem_iff.mp (List.mem_cons_self (a := x) (l := l))) with e | hx
      · rw [e]; exact (ltK_swo k).refl y
      · exact SrtO.srtd_head hm x hx
    have h2 : ltK k y x = false := by
      rcases List.mem_cons.mp (h.mem_iff.mpr (List.mem_cons_self (a := y) (l := m))) with e | hy
      · rw [e]; exact (ltK_swo k).refl x
      · exact SrtO.srtd_head hl y hy
    have e : x = y := hk x y (lexL_anti _ _ h1 h2)
    subst e
    rw [srt_uniq hk (List.pairwise_cons.mp hl).2 (List.pairwise_cons.mp hm).2 h.cons_inv]
theorem sortL_eq (hk : ∀ x y : α, k x = k y → x = y) {l m : List α} (hs : SrtO.Srtd (ltK k) m) (hp : m.Perm l) : m = sortL k l := srt_uniq hk hs (sortL_srt l) (hp.trans (sortL_perm l).symm)
end
/-! ## in the heap -/
open SrtO in
def IsTup (h : Heap) (v : Value) (ns : List Int) : Prop := ∃ a o xs n, v = .ref a ∧ h.get? a = some o ∧ o.cls = .type "tuple" ∧ o.data = .seq xs n ∧ IntsAre xs.toList ns
theorem IsTup.keeps {h h' : Heap} {v : Value} {ns : List Int} (p : IsTup h v ns) (k : ∀ b o, h.get? b = some o → o.cls = .type "tuple" → h'.get? b = some o) : IsTup h' v ns := by
  obtain ⟨a, o, xs, n, e, ho, hc, hd, hi⟩ := p
  exact ⟨a, o, xs, n, e, k _ _ ho hc, hc, hd, hi⟩
theorem ints_len {vs : List Value} {ns : List Int} (h : IntsAre vs ns) : vs.length = ns.length := by
  induction h with
  | nil => rfl
  | cons n t _ ih => rw [List.length_cons, List.length_cons, ih]
section
variable {prog : Program} {w : World} {A : Around} {E : Value → Shared → Prop} {s : Shared}
theorem kat_ints {b fin : Bool} {Q : Bool → Shared → Prop} : ∀ {us vs : List Value} {l m : List Int} {i : Nat}, IntsAre us l → IntsAre vs m → fin = decide (l.length < m.length) → Q (lexL l m) s → PySem.W.KatLex prog w A b fin Q (us.zip vs) i s
  | [], [], _, _, _, .nil, .nil, e, h => PySem.W.kat_nil (by rw [e]; exact h)
  | [], _ :: _, _, _, _, .nil, .cons _ _ _, e, h => PySem.W.kat_nil (by rw [e, List.length_nil, List.length_cons, decide_eq_true (Nat.succ_pos _)]; exact h)
  | _ :: _, [], _, _, _, .cons _ _ _, .nil, e, h => PySem.W.kat_nil (by rw [e, List.length_nil, decide_eq_false (Nat.not_lt_zero _)]; exact h)
  | _ :: us, _ :: vs, _, _, i, .cons x t r, .cons y u q, e, h => by
    show PySem.W.KatLex prog w A b fin Q ((.int x t, .int y u) :: us.zip vs) i s
    refine PySem.W.kat_cons (SeqAt.EqAt.int_int x t y u prog w _ _ ?_)
    unfold lexL at h
    refine PySem.W.kat_go (fun e1 => ?_) (fun e1 => ?_)
    · have ex : x = y := by simpa using e1
      rw [if_pos ex] at h
      exact PySem.W.kat_yes (kat_ints r q (by rw [e]; simp) h)
    · have ex : ¬ x = y := by simpa using e1
      rw [if_neg ex] at h
      exact PySem.W.kat_no (TS.oneLt_ints _ h)
theorem tup_cmp {vs : List Value} {k : Value → List Int} (hp : ∀ v ∈ vs, IsTup s.heap v (k v)) : SrtO.Cmp prog w A s (tuples' true) (fun p => p.1 ∈ vs) (SrtO.lt2 fun v u => lexL (k v) (k u)) := by
  intro p q hm hm'
  obtain ⟨a, o, xs, n, e, ho, hc, hd, hi⟩ := hp _ hm
  obtain ⟨a', o', xs', n', e', ho', hc', hd', hi'⟩ := hp _ hm'
  show wpAny (model prog w) A (keyLt' (tuples' true) p.1 q.1) (fun r s' => s' = s ∧ r = lexL (k p.1) (k q.1)) (fun _ _ => False) s
  have e1 := ints_len hi
  have e2 := ints_len hi'
  rw [e, e'] at *
  refine PySem.W.kat_lt ho hd ho' hd' (kat_ints hi hi' ?_ ⟨rfl, rfl⟩)
  rw [← e1, ← e2, Array.length_toList, Array.length_toList]
theorem tup_firsts {h : Heap} {k : Value → List Int} : ∀ {vs : List Value}, (∀ v ∈ vs, IsTup h v (k v) ∧ k v ≠ []) → ∃ fs : List Value, PySem.W.KatTups h vs fs ∧ fs.length = vs.length ∧ ∀ f ∈ fs, ∃ x t, f = Value.int x t
  | [], _ => ⟨[], PySem.W.KatTups.nil, rfl, fun _ hm => by simp at hm⟩
  | v :: vs, hp => by
    obtain ⟨fs, h1, h2, h3⟩ := tup_firsts (vs := vs) fun v' hm => hp v' (List.mem_cons_of_mem _ hm)
    obtain ⟨⟨a, o, xs, n, e, ho, hc, hd, hi⟩, hne⟩ := hp v (List.mem_cons_self ..)
    generalize k v = kk at hi hne
    obtain ⟨f, x, t, hf, rfl⟩ : ∃ f x t, xs[0]? = some f ∧ f = Value.int x t := by
      obtain ⟨l⟩ := xs
      change IntsAre l kk at hi
      cases hi with
      | nil => exact absurd rfl hne
      | cons x t _ => exact ⟨_, x, t, rfl, rfl⟩
    subst e
    refine ⟨.int x t :: fs, PySem.W.KatTups.cons ho hc hd hf h1, by rw [List.length_cons, List.length_cons, h2], fun f hm => ?_⟩
    rcases List.mem_cons.mp hm with rfl | hm
    · exact ⟨x, t, rfl⟩
    · exact h3 f hm
theorem tup_sortable {a : Addr} {vs : List Value} {k : Value → List Int} (h0 : 0 < vs.length) (hp : ∀ v ∈ vs, IsTup s.heap v (k v) ∧ k v ≠ []) (ha : ∀ o, s.heap.get? a = some o → o.cls ≠ .type "tuple") : SrtO.SortableO prog w A s a vs fun v u => lexL (k v) (k u) := by
  intro h' keep
  have hp' : ∀ v ∈ vs, IsTup h' v (k v) ∧ k v ≠ [] := fun v hm => ⟨(hp v hm).1.keeps fun b o e c => keep b o (fun z => by subst z; exact ha o e c) e, (hp v hm).2⟩
  obtain ⟨fs, h1, h2, h3⟩ := tup_firsts hp'
  refine ⟨tuples' true, fun Q E hq => ?_, tup_cmp fun v hm => (hp' v hm).1⟩
  refine PySem.W.kat_kind (T := .type "int") h1 (by omega) (fun f hm => ?_) (by rfl) ?_
  · obtain ⟨x, t, rfl⟩ := h3 f hm
    exact PySem.W.Looks.now
  · have e : (Value.type "int" != Value.type "tuple") = true := by first | decide +kernel | rfl | decide
    rw [e]
    exact hq
theorem sorted_tups {l : Addr} {vs : List Value} {k : Value → List Int} {Q : Value → Shared → Prop} (hl : s.heap.IsList l vs.toArray) (hz : vs.length ≤ sizeLine) (hp : ∀ v ∈ vs, IsTup s.heap v (k v) ∧ k v ≠ [])
    (h : ∀ (h' : Heap) (d : Addr) (out : List Value), SrtO.Srtd (fun v u => lexL (k v) (k u)) out → SrtO.Stb (fun v u => lexL (k v) (k u)) out vs → (∀ b o, s.heap.get? b = some o → h'.get? b = some o) → s.heap.objs.size ≤ d → (∃ n, h'.get? d = some (seqObj "list" out.toArray n)) → Q (.ref d) { s with heap := h' }) :
    wpAny (model prog w) A (call (.builtin "sorted") [.ref l]) Q E s := by
  refine SrtO.sorted_ord (ltK_swo k) hl hz (fun h2 h₁ a ha kk => ?_) fun out hs hb => ?_
  · refine tup_sortable (s := { s with heap := h₁ }) (by omega) (fun v hm => ⟨(hp v hm).1.keeps fun b o e _ => (kk b o e).2, (hp v hm).2⟩) fun o e => ?_
    have e' : some o = some (seqObj "list" vs.toArray 0) := e.symm.trans ha
    cases e'
    intro c
    exact absurd (Value.type.inj c) (by decide)
  · exact h _ _ out hs hb (fun b o e => PyProof.Rows.sortedAll_old e) (Nat.le_succ _) (PyProof.Rows.sortedAll_at s.heap vs out.toArray)
end
/-- sorted(xs), xs a list of tuples of ints (k says which) -/
def rSortT (K : PySem.W.Frag) : List V → Hp → VK → Prop := fun vs H Q => ∃ (a : Addr) (xs : List V) (k : V → List Int), vs = [V.ref a] ∧ SqL K H a xs ∧ (∀ x ∈ xs, (∃ t, x = V.ref t ∧ H t = some (.tup ((k x).map V.int))) ∧ k x ≠ []) ∧
  ∀ ys p, SrtO.Srtd (ltK k) ys → ys.Perm xs → H p = none → Q (.ref p) (upd H p (.lst ys))
theorem cr_sortT {X : Cx} : CallR X (.builtin "sorted") (rSortT X.K) := by
  intro pins s σ H vs us Q I r h
  obtain ⟨a, xs, k, rfl, hs, hx, q⟩ := h
  obtain ⟨its, rv, hl, hz⟩ := I.list hs
  obtain ⟨u, rfl, ru⟩ := vals1 r
  obtain rfl : u = Value.ref a := ru
  obtain ⟨e1, e2⟩ := refs_back rv fun x m => by
    obtain ⟨⟨t, e, _⟩, _⟩ := hx x m
    exact ⟨t, e⟩
  refine sorted_tups (k := fun u => k (backV u)) hl.isList (by rw [← rv.length]; exact hz) (fun v hv => ?_) fun h' d out h1 h2 kp hd hn => ?_
  · obtain ⟨t, rfl⟩ := e2 v hv
    have hm : V.ref t ∈ xs := by rw [e1]; exact List.mem_map.mpr ⟨_, hv, rfl⟩
    obtain ⟨⟨t', e, ht⟩, hne⟩ := hx _ hm
    cases e
    obtain ⟨_, its2, r2, o, ho, hc, n, hd⟩ := I.hok _ _ ht
    exact ⟨⟨t, o, its2.toArray, n, rfl, ho, hc, hd, r2.ints⟩, hne⟩
  · have h3 : ∀ u ∈ out, ∃ a, u = Value.ref a := fun u hu => e2 u (h2.perm.mem_iff.mp hu)
    obtain ⟨n, hn⟩ := hn
    have hb : (out.map backV).Perm xs := by
      rw [e1]
      exact h2.perm.map backV
    refine ⟨.ref d, upd H d (.lst (out.map backV)), I.laid (t' := s.toks) kp hd ⟨?_, out, n, vals_back h3, hn⟩, rfl, q _ d (SrtO.srtd_map h1) hb (I.hok.fresh hd)⟩
    rw [hb.length_eq]
    exact hz
/-! ## the judgement -/
def encT (ns : List Int) : D := .tup (ns.map D.int)
/-- what a value says -/
def readT (H : Hp) : V → List Int
  | .ref t => match H t with
    | some (.tup vs) => vs.map fun v => match v with | .int i => i | _ => 0
    | _ => []
  | _ => []
theorem readT_of {H : Hp} {K : PySem.W.Frag} {O : Addr → Prop} {v : V} {ns : List Int} (h : Rep K H O v (encT ns)) : (∃ t, v = V.ref t ∧ H t = some (.tup ((readT H v).map V.int))) ∧ readT H v = ns := by
  cases h with
  | @tup t vs _ hl rs =>
    have e := rs.to_ints
    subst e
    have e2 : readT H (.ref t) = ns := by
      show (match H t with
        | some (.tup vs) => vs.map fun v => match v with | .int i => i | _ => 0
        | _ => []) = ns
      rw [hl]
      show (ns.map V.int).map _ = ns
      rw [List.map_map]
      exact List.map_id _
    exact ⟨⟨t, rfl, by rw [e2]; exact hl⟩, e2⟩
theorem reps_readT {H : Hp} {K : PySem.W.Frag} {O : Addr → Prop} : ∀ {vs : List V} {l : List (List Int)}, Reps K H O vs (l.map encT) → vs.map (readT H) = l
  | [], [], _ => rfl
  | [], _ :: _, h => nomatch h
  | _ :: _, [], h => nomatch h
  | v :: vs, x :: l, .cons h r => by
    rw [List.map_cons, (readT_of h).2, reps_readT r]
theorem reps_mem {H : Hp} {K : PySem.W.Frag} {O : Addr → Prop} {vs : List V} {l : List (List Int)} (h : Reps K H O vs (l.map encT)) {v : V} (hv : v ∈ vs) : ∃ ns ∈ l, Rep K H O v (encT ns) := by
  obtain ⟨i, hi, rfl⟩ := List.mem_iff_getElem.mp hv
  obtain ⟨d, hd, r⟩ := h.get (List.getElem?_eq_getElem hi)
  rw [List.getElem?_map] at hd
  obtain ⟨ns, hn, rfl⟩ := Option.map_eq_some_iff.mp hd
  exact ⟨ns, List.mem_of_getElem? hn, r⟩
theorem reps_of_mem {H : Hp} {K : PySem.W.Frag} {O : Addr → Prop} : ∀ {vs : List V}, (∀ v ∈ vs, ∃ ns, Rep K H O v (encT ns)) → Reps K H O vs ((vs.map (readT H)).map encT)
  | [], _ => .nil
  | v :: vs, h => by
    obtain ⟨ns, r⟩ := h v (.head _)
    refine .cons ?_ (reps_of_mem fun u hu => h u (.tail _ hu))
    rw [(readT_of r).2]; exact r
section
variable {C : Ctx} {S : List Slot} {a : Expr} {pos : Pos}
theorem de_sortT {p : Pos} {α : Type} {xs : List α} {enc : α → D} {k : α → List Int} (he : ∀ x, enc x = encT (k x)) (hk : ∀ x y, k x = k y → x = y) (hk0 : ∀ x, k x ≠ []) (hg : GlC C "sorted") (hm : C.M.mg "sorted" = none) (ha : DL C false a S (.lst (xs.map enc)))
    (hs : ∀ env, starEach (a :: []) env = (false, eval a env) :: starEach [] env := by intro _; rfl) :
    DE C (.Call (.Name "sorted" p) [a] [] pos) S (.ok (.own ((sortL k xs).map enc))) := by
  refine .mk fun W => ⟨tCB (rSortT C.M.K) (tCons (tE C a W) tNil), fun r f => pe_callB cr_sortT (hg.gl f.g) hm boot_sorted (pa_cons (pe_tE f) pa_nil (hs _)) (by decide) (by decide) (hs _) rfl, fun Oc H0 H σ fp hod sat Q hq hx => ?_⟩
  refine ha W Oc H0 H σ fp hod sat _ fun v H1 e1 rep => ?_
  have ee : xs.map enc = (xs.map k).map encT := by rw [List.map_map]; exact List.map_congr_left fun x _ => he x
  rw [ee] at rep
  cases rep with
  | @lst l vs _ n hl rs =>
    have hrd := reps_readT rs
    refine ⟨l, vs, readT H1, rfl, .inl (.inl hl), fun x hx => ?_, fun ys q hs' hp hq' => ?_⟩
    · obtain ⟨ns, hn, r⟩ := reps_mem rs hx
      obtain ⟨w, e⟩ := readT_of r
      refine ⟨w, ?_⟩
      rw [e]
      obtain ⟨x, _, rfl⟩ := List.mem_map.mp hn
      exact hk0 x
    · have hp2 : (ys.map (readT H1)).Perm (xs.map k) := by rw [← hrd]; exact hp.map _
      have hs2 : SrtO.Srtd (ltK id) (ys.map (readT H1)) := SrtO.srtd_map (lt := ltK id) (f := readT H1) hs'
      have hp3 : ((sortL k xs).map k).Perm (ys.map (readT H1)) := ((sortL_perm xs).map k).trans hp2.symm
      have e5 : (sortL k xs).map k = ys.map (readT H1) := srt_uniq (k := id) (fun _ _ h => h) (SrtO.srtd_map (lt := ltK id) (f := k) (sortL_srt xs)) hs2 hp3
      have e6 : (sortL k xs).map enc = (ys.map (readT H1)).map encT := by
        rw [← e5, List.map_map]; exact List.map_congr_left fun x _ => he x
      have e2 : Ex H (upd H1 q (.lst ys)) := e1.trans (Ex.new hq')
      refine hq (.own ((sortL k xs).map enc)) (.ref q) _ rfl e2 ⟨q, _, rfl, e1.back hq', upd_same, ?_⟩
      rw [e6]
      refine ((reps_of_mem fun v hv => ?_).mono (Ex.new hq'))
      obtain ⟨ns, _, r⟩ := reps_mem rs (hp.mem_iff.mp hv)
      have fl : Flat (encT ns) := .tup fun d hd => by obtain ⟨i, _, rfl⟩ := List.mem_map.mp hd; exact .int i
      exact ⟨ns, r.flat fl⟩
/-! ## numbers -/
def srtI (ns : List Int) : List Int := sortL (fun i => [i]) ns
theorem int_le_lex {x y : Int} (h : x ≤ y) : lexL [y] [x] = false := by
  show (if y = x then false else decide (y < x)) = false
  split
  · rfl
  · exact decide_eq_false (by omega)
theorem de_sortI {p : Pos} {ns : List Int} (hg : GlC C "sorted") (hm : C.M.mg "sorted" = none) (ha : DL C false a S (.lst (ns.map D.int)))
    (hs : ∀ env, starEach (a :: []) env = (false, eval a env) :: starEach [] env := by intro _; rfl) :
    DE C (.Call (.Name "sorted" p) [a] [] pos) S (.ok (.own ((srtI ns).map D.int))) := by
  refine .mk fun W => ⟨tCB (rSortedI C.M.K) (tCons (tE C a W) tNil), fun r f => pe_callB cr_sortedI (hg.gl f.g) hm boot_sorted (pa_cons (pe_tE f) pa_nil (hs _)) (by decide) (by decide) (hs _) rfl, fun Oc H0 H σ fp hod sat Q hq hx => ?_⟩
  refine ha W Oc H0 H σ fp hod sat _ fun v H1 e1 rep => ?_
  cases rep with
  | @lst l vs _ n hl rs =>
    rw [rs.to_ints] at hl
    refine ⟨l, ns, rfl, .inl (.inl hl), fun out q hp hsr hfree => ?_⟩
    have e : out = srtI ns := sortL_eq (k := fun i => [i]) (fun _ _ h => (List.cons.inj h).1) (hsr.imp fun h => int_le_lex h) hp
    subst e
    exact hq (.own _) (.ref q) _ rfl (e1.trans (Ex.new hfree)) ⟨q, _, rfl, e1.back hfree, upd_same, reps_ints _⟩
end
end BK
/-! Part Zb: own dicts with numbers as keys. -/
namespace BK
open PySem PySem.Spec PyProof.Rows L2
section
variable {C : Ctx} {S : List Slot} {P : Post} {a b e : Expr} {lv x : Bool} {pos pos' : Pos}
/-- the list that a comprehension makes -/
theorem ev_lcI {α : Type} {W : WX} {tg : Expr} (ti : TI) {ifs : List Expr} {scope : Scope} {vs : List Nat} {elt : Expr} (l : List α) (enc h : α → D) (p : α → Bool) (hi : EvIt C.M.K lv ti S (l.map enc)) (hv : ∀ v ∈ vs, S[v]? = some .any) (hz : l.length ≤ 1000000)
    (hfl : lv = true ∨ ∀ x ∈ l, Flat (enc x))
    (he : ∀ x ∈ l, ∃ S2 r, DGc (C.blk scope) vs tg S (enc x) S2 ∧ DTs (C.blk scope) ifs S2 (p x) ∧ (p x = true → DE (C.blk scope) elt S2 (.ok r) ∧ r.fz = some (h x))) :
    Ev C.M.K W (tLc ti (tGt (C.blk scope) tg W0) (tTs (C.blk scope) ifs W0) (tE (C.blk scope) elt W0) vs) S (.ok (.own ((l.filter p).map h))) := fun Oc H0 H σ fp hod sat Q hq hx =>
  hi Oc H0 H σ fp hod sat _ fun J H1 e1 ⟨G, Y, w, hG, hY⟩ Dl hD => by
    have s1 := (sat.mono e1).wipe hv
    have gx : Ex (BK.ground lv H1 fp) H1 := by
      cases lv with
      | false => exact Ex.refl _
      | true => exact hid_ex
    let Oc' : Addr → Prop := fun a => Oc a ∨ a = Dl
    have sA : Sat C.M.K Oc' H0 H1 (L2.wipe σ vs) S fp := s1.avoid fun a z => z.imp id fun z => by rw [z]; exact hD
    let Pv : Nat → Hp → Prop := fun i H' => ∃ acc, Ex H1 H' ∧ H' Dl = some (.lst acc) ∧ Reps C.M.K H' (Ow Oc' fp) acc (((l.take i).filter p).map h)
    refine lc_it w Pv ⟨[], Ex.new hD, upd_same, .nil⟩ (fun i H' _ ⟨_, ex, _⟩ => hG H' (gx.trans ex)) (fun i x H' H2 hlt ⟨acc, ex, hl, reps⟩ y => ?_) fun H' ⟨acc, ex, hl, reps⟩ => ?_
    · have hlt' : i < l.length := by rw [List.length_map] at hlt; exact hlt
      have ed : (l.map enc)[i]? = some (enc l[i]) := by rw [List.getElem?_map, List.getElem?_eq_getElem hlt']; rfl
      have mem : l[i] ∈ l := List.getElem_mem hlt'
      obtain ⟨ex2, rep⟩ := hY i H' x H2 _ ed (gx.trans ex) y
      have rx : Rep C.M.K H2 (Ow Oc' fp) x (enc l[i]) := by
        rcases hfl with rfl | hfl
        · refine rep _ fun a z => ?_
          rcases z with (z | z) | z
          · exact .inl z
          · right; rw [z]
            by_cases q : Fp fp Dl
            · exact hid_in q
            · show hid H1 (Fp fp) Dl = none; rw [hid_out q]; exact hD
          · exact .inr (hid_in z)
        · exact Rep.flat (rep no fun _ z => z.elim) (hfl _ mem)
      have sB := sA.mono (ex.trans ex2)
      have t2 : There Oc' H2 := fun a z => by
        rcases z with z | z
        · exact (hod.ex ((e1.trans ex).trans ex2)) a z
        · rw [z, ex2 _ _ hl]; exact fun z => nomatch z
      obtain ⟨S2, rr, hg, ht, hel⟩ := he _ mem
      have tk : l.take (i + 1) = l.take i ++ [l[i]] := by rw [List.take_add_one, List.getElem?_eq_getElem hlt']; rfl
      refine hg W0 Oc' H0 H2 _ fp t2 sB x rx _ fun σ2 fp2 hw sup sC => ⟨hw.trans (wipe_idem fun _ z => z), ?_⟩
      refine ht W0 Oc' H0 H2 σ2 fp2 t2 sC _ fun H3 e3 => ?_
      by_cases hp : p l[i] = true
      · rw [if_pos hp]
        obtain ⟨hel, hfz⟩ := hel hp
        have sD := sC.mono e3
        refine hel W0 Oc' H0 H3 σ2 fp2 (t2.ex e3) sD _ (fun r v H4 er e4 res => ?_) (fun _ _ _ _ er => nomatch er)
        cases er
        have rv := res.frz (sD.thereO (t2.ex e3)) hfz
        have ex4 : Ex H1 H4 := ((ex.trans ex2).trans e3).trans e4
        have hl4 : H4 Dl = some (.lst acc) := e4 _ _ (e3 _ _ (ex2 _ _ hl))
        have oD : Ow Oc' fp2 Dl := .inl (.inr rfl)
        have oD1 : Ow Oc' fp Dl := .inl (.inr rfl)
        have mb : Mb (H4 Dl) := by rw [hl4]; trivial
        refine ⟨acc, hl4, ?_, acc ++ [v], ex4.mut hD, upd_same, ?_⟩
        · rw [reps.length, List.length_map]
          refine sz_lt (Nat.le_trans (List.length_filter_le _ _) ?_)
          rw [List.length_take]; exact Nat.le_trans (Nat.min_le_right _ _) hz
        · rw [tk, List.filter_append, List.map_append]
          refine (((reps.mono ((ex2.trans e3).trans e4)).write oD1 mb).app ?_)
          rw [show [l[i]].filter p = [l[i]] by simp [hp]]
          exact .one ((rv.write oD mb).less fun a z => sup a z)
      · rw [if_neg hp]
        refine ⟨acc, (ex.trans ex2).trans e3, e3 _ _ (ex2 _ _ hl), ?_⟩
        rw [tk, List.filter_append, show [l[i]].filter p = [] by simp [hp], List.append_nil]
        exact reps.mono (ex2.trans e3)
    · refine hq _ _ H' rfl (e1.trans ex) ⟨Dl, acc, rfl, e1.back hD, hl, ?_⟩
      rw [List.length_map, List.take_length] at reps
      exact reps.less fun a z => by
        rcases z with (z | z) | z
        · exact .inl (.inl z)
        · exact .inr z
        · exact .inl (.inr z)

/-- the dict with these keys -/
def dkT (ks : List Int) : List (Key × V) := ks.map fun k => (Sum.inl k, V.bl true)
def addU (ks : List Int) (k : Int) : List Int := if k ∈ ks then ks else ks ++ [k]
theorem valV_dkT (k : Int) : ∀ ks : List Int, (valV (dkT ks) (Sum.inl k : Key)).isSome = decide (k ∈ ks)
  | [] => rfl
  | y :: ks => by
    show (valV ((Sum.inl y, V.bl true) :: dkT ks) (Sum.inl k : Key)).isSome = _
    by_cases h : y = k
    · subst h
      rw [valV_pos rfl]; simp
    · rw [valV_neg (fun q => h (Sum.inl.inj q)), valV_dkT k ks]
      simp [Ne.symm h]
theorem map_dkT (k : Int) (ks : List Int) : (dkT ks).map (fun kv => if kv.1 = (Sum.inl k : Key) then (kv.1, V.bl true) else kv) = dkT ks := by
  unfold dkT
  rw [List.map_map]
  refine List.map_congr_left fun y _ => ?_
  show (if (Sum.inl y : Key) = Sum.inl k then (_, _) else _) = _
  split <;> rfl
theorem putK_dkT (k : Int) (ks : List Int) : putK (dkT ks) (Sum.inl k : Key) (V.bl true) = dkT (addU ks k) := by
  have h := valV_dkT k ks
  unfold addU
  by_cases hk : k ∈ ks
  · rw [if_pos hk]
    unfold putK
    rw [valV_any, h, decide_eq_true hk, if_pos rfl]
    exact map_dkT k ks
  · rw [if_neg hk, putK_new]
    · unfold dkT; rw [List.map_append]; rfl
    · rw [decide_eq_false hk] at h
      cases e : valV (dkT ks) (Sum.inl k : Key) with
      | none => rfl
      | some v => rw [e] at h; cases h
theorem mem_addU {x k : Int} {ks : List Int} : x ∈ addU ks k ↔ x ∈ ks ∨ x = k := by
  unfold addU
  split
  · constructor
    · exact .inl
    · rintro (h | rfl)
      · exact h
      · assumption
  · simp
theorem dkT_len (ks : List Int) : (dkT ks).length = ks.length := List.length_map ..
theorem addU_len (ks : List Int) (k : Int) : (addU ks k).length ≤ ks.length + 1 := by
  unfold addU
  split
  · omega
  · rw [List.length_append]; exact Nat.le_refl _
theorem unitsOk {W : WX} {r : Rst} (f : Fam C W r) : (C.x r).A.units + 1 < cLine := by
  have h := f.g.room.units
  show r.A.units + 1 < cLine
  omega
/-- {a: True, b: True} -/
theorem de_disp2 {k1 k2 v1 v2 : Expr} {i j : Int} (h1 : DI C k1 S i) (g1 : DB C v1 S true) (h2 : DI C k2 S j) (g2 : DB C v2 S true) : DE C (.Dict [some k1, some k2] [v1, v2] pos) S (.ok (.ownD (dkT (addU [i] j)))) :=
  .mk fun W => ⟨tDisp [(tE C k1 W, tE C v1 W), (tE C k2 W, tE C v2 W)], fun r f => pe_disp (pps_cons (pe_tE f) (pe_tE f) (pps_cons (pe_tE f) (pe_tE f) pps_nil)) rfl rfl (by simp) (by show 2 ≤ 15; decide), fun Oc H0 H σ fp hod sat Q hq hx => fun p hp => by
    have e0 : Ex H (upd H p (.dK [])) := Ex.new hp
    have s0 := sat.mono e0
    refine h1 W Oc H0 _ σ fp (hod.ex e0) s0 _ (fun r v H1 er e1 res => ?_) (fun _ _ _ _ er => nomatch er)
    cases er; cases res
    refine g1 W Oc H0 _ σ fp ((hod.ex e0).ex e1) (s0.mono e1) _ (fun r v H2 er e2 res => ?_) (fun _ _ _ _ er => nomatch er)
    cases er; cases res
    refine h2 W Oc H0 _ σ fp (((hod.ex e0).ex e1).ex e2) ((s0.mono e1).mono e2) _ (fun r v H3 er e3 res => ?_) (fun _ _ _ _ er => nomatch er)
    cases er; cases res
    refine g2 W Oc H0 _ σ fp ((((hod.ex e0).ex e1).ex e2).ex e3) (((s0.mono e1).mono e2).mono e3) _ (fun r v H4 er e4 res => ?_) (fun _ _ _ _ er => nomatch er)
    cases er; cases res
    have ex : Ex (upd H p (.dK [])) H4 := ((e1.trans e2).trans e3).trans e4
    refine ⟨ex _ _ upd_same, [(Sum.inl i, V.bl true), (Sum.inl j, V.bl true)], rfl, by show 2 ≤ 15; decide, ?_⟩
    have em : mergeK [] [((Sum.inl i : Key), V.bl true), (Sum.inl j, V.bl true)] = dkT (addU [i] j) := by
      show putK (putK (dkT []) (Sum.inl i) (V.bl true)) (Sum.inl j) (V.bl true) = _
      rw [putK_dkT, putK_dkT]; rfl
    rw [em]
    exact hq (.ownD _) (.ref p) _ rfl ((e0.trans ex).mut hp) ⟨p, rfl, hp, upd_same⟩⟩
/-- k not in d -/
theorem dt_notInD {z : Str} {pz : Pos} {k : Int} {ks : List Int} {j : Nat} (ha : DI C a S k) (hS : S[j]? = some (.ownD (dkT ks))) (hz : C.N.idxOf? z = some j) (hv : nmB C.sc z = true) (hm : behindInMarks .NotIn (.Name z pz) = false) : DT C (.Compare a [.NotIn] [.Name z pz] pos) S (!decide (k ∈ ks)) := by
  obtain ⟨hv1, hd, hcd⟩ := nmB_vis hv
  refine .mk fun W => ⟨tB (tDNotIn (tE C a W) (tVar j)), fun r f => pt_cmp (pc_dnotin (unitsOk f) (pe_tE f) (pe_var (idx_get hz) (vis_of hv1 f.g) hd hcd)) hm, fun Oc H0 H σ fp hod sat Q hq => ?_⟩
  refine ha W Oc H0 H σ fp hod sat _ (fun r v H1 er e1 res => ?_) (fun _ _ _ _ er => nomatch er)
  cases er; cases res
  obtain ⟨l, el, hf, hl⟩ := sat.ownD hS
  refine ⟨_, el, l, valV (dkT ks) (Sum.inl k), rfl, DGet.k (k := Sum.inl k) (e1 _ _ hl), _, rfl, ?_⟩
  rw [valV_dkT]
  exact hq H1 e1
/-- d[k] = True -/
theorem ds_dput {z : Str} {i : Expr} {p1 p2 : Pos} {k : Int} {ks : List Int} {j : Nat} (he : DB C e S true) (hi : DI C i S k) (hS : S[j]? = some (.ownD (dkT ks))) (hz : C.N.idxOf? z = some j) (hv : nmB C.sc z = true) (hn : ks.length ≤ 1000000)
    (h : P.nx (S.set j (.ownD (dkT (addU ks k))))) (hs : ∀ env, swapsWith e (some (.Subscript (.Name z p1) i p2)) pos.line env = pure false) : DS C (.Assign [.Subscript (.Name z p1) i p2] e pos) S P := by
  obtain ⟨hv1, hd, hcd⟩ := nmB_vis hv
  refine .mk fun W => ⟨sDPut (tVar j) (tE C i W) (tE C e W), fun r f => ps_dput (unitsOk f) (pe_var (idx_get hz) (vis_of hv1 f.g) hd hcd) (pe_tE f) (pe_tE f) (hs _), fun Oc H0 H σ fp hod sat D h1 h2 h3 h4 h5 => ?_⟩
  refine he W Oc H0 H σ fp (hod.up sat) sat _ (fun r v H1 er e1 res => ?_) (fun _ _ _ _ er => nomatch er)
  cases er; cases res
  have s1 := sat.mono e1
  obtain ⟨l, el, hf, hl⟩ := s1.ownD hS
  refine ⟨_, el, hi W Oc H0 H1 σ fp (hod.up s1) s1 _ (fun r v H2 er e2 res => ?_) (fun _ _ _ _ er => nomatch er)⟩
  cases er; cases res
  have s2 := s1.mono e2
  refine ⟨l, _, rfl, DPut.k (k := Sum.inl k) (e2 _ _ hl) (by rw [dkT_len]; exact sz_lt hn), ?_⟩
  rw [putK_dkT]
  exact h1 _ _ _ fp h (s2.writeD hS hf)
/-- [x for x in d if t], d an own dict with numbers as keys -/
theorem de_keysF {tg elt t : Expr} {scope : Scope} {z : Str} {pz : Pos} {j : Nat} (own : List (Str × Nat)) (ks : List Int) (p : Int → Bool) (hS : S[j]? = some (.ownD (dkT ks))) (hz : C.N.idxOf? z = some j) (hvz : nmB C.sc z = true) (hb : blkC C.N C.sc scope own = true) (hv : anyS (S.set j .any) (own.map (·.2)) = true) (hn : ks.length ≤ 1000000)
    (he : ∀ k ∈ ks, ∃ S2 r, DGc (C.blk scope) (own.map (·.2)) tg (S.set j .any) (.int k) S2 ∧ DT (C.blk scope) t S2 (p k) ∧ DE (C.blk scope) elt S2 (.ok r) ∧ r.fz = some (.int k))
    (hf : ∀ env x, foldedSetIterable (.Name z pz) env x = pure x := by intro _ _; rfl) : DE C (.ListComp elt [⟨tg, .Name z pz, [t], 0⟩] scope pos) S (.ok (.own ((ks.filter p).map D.int))) := by
  obtain ⟨hv1, hd, hcd⟩ := nmB_vis hvz
  refine .mk fun W => ⟨tLockE (tLc (iKeys (tVar j)) (tGt (C.blk scope) tg W0) (tTs (C.blk scope) [t] W0) (tE (C.blk scope) elt W0) (own.map (·.2))), fun r f => pe_lock (pe_lc (X := C.x r) f.g.calm f.g.nd (pi_keys (pe_var (idx_get hz) (vis_of hv1 f.g) hd hcd)) (by have := blkOk_by hb; rw [← f.g.sc] at this; exact this) (fun s H c cl fp => pg_tG (f.blk s H scope c cl fp)) (fun s H c cl fp => pts_tT (f.blk s H scope c cl fp)) (fun s H c cl fp => pe_tE (f.blk s H scope c cl fp)) (hf _)), fun Oc H0 H σ fp hod sat Q hq hx => ?_⟩
  obtain ⟨l, el, hfp, hl⟩ := sat.ownD hS
  have hjl := (List.getElem?_eq_some_iff.mp hS).1
  have ml : l ∈ fp j := by rw [hfp]; exact List.mem_cons_self
  have ol : Ow Oc fp l := .inr ⟨j, ml⟩
  have mb : Mb (H l) := by rw [hl]; trivial
  refine ⟨l, _, hl, trivial, fun od => ?_⟩
  have hH0 : H0 l = none := sat.fr j l ml
  have eσ : σ.set j (σ.getD j none) = σ := by
    apply List.ext_getElem?
    intro i
    by_cases hi : j = i
    · subst hi
      have hs : j < σ.length := by rw [← sat.len]; exact hjl
      rw [List.getElem?_set_self hs, List.getD_eq_getElem?_getD, List.getElem?_eq_getElem hs]; rfl
    · rw [List.getElem?_set_ne hi]
  -- the state with the dict locked
  have s1 : Sat C.M.K Oc H0 (upd H l (.frz od (.dK (dkT ks)))) σ (S.set j .any) (fset fp j []) := by
    have sub : ∀ a, Ow Oc (fset fp j []) a → Ow Oc fp a := fun a z => (Ow_fset a z).elim id fun q => by cases q
    refine ⟨by rw [List.length_set]; exact sat.len, fun i s hi => ?_, fun i hi => ?_, fun i k a h1 h2 => ?_, fun i a hi => ?_, sat.ex.mut hH0⟩
    · by_cases hij : i = j
      · subst hij
        rw [List.getElem?_set_self hjl] at hi
        cases hi
        rw [fset_same]; exact rfl
      · rw [List.getElem?_set_ne (Ne.symm hij)] at hi
        rw [fset_ne hij]
        exact ((sat.slot i s hi).write ol mb fun z => hij (sat.dis i j l z ml)).step (Ex.refl _) fun a z => .inl (sub a z)
    · rw [List.length_set] at hi
      rw [fset_ne (by omega)]; exact sat.out i hi
    · by_cases e1 : i = j
      · subst e1; rw [fset_same] at h1; cases h1
      · by_cases e2 : k = j
        · subst e2; rw [fset_same] at h2; cases h2
        · rw [fset_ne e1] at h1; rw [fset_ne e2] at h2; exact sat.dis i k a h1 h2
    · by_cases e1 : i = j
      · subst e1; rw [fset_same] at hi; cases hi
      · rw [fset_ne e1] at hi; exact sat.fr i a hi
  have hod1 : There Oc (upd H l (.frz od (.dK (dkT ks)))) := (fun a z => by
    by_cases q : a = l
    · rw [q, upd_same]; exact fun z => nomatch z
    · rw [upd_ne q]; exact hod a z)
  have key := ev_lcI (C := C) (S := S.set j .any) (lv := false) (W := W) (tg := tg) (ifs := [t]) (scope := scope) (vs := own.map (·.2)) (elt := elt)
    (fun σ H R => ∀ d od, σ[j]? = some (some (.ref d)) → H d = some (.frz od (.dK (dkT ks))) → iKeys (tVar j) σ H R) ks D.int D.int p (fun Oc H0 H σ fp hod sat R hq d od e1 e2 => ?_) (anyS_ok hv) hn (.inr fun _ _ => .int _) (fun k hk => ?_) Oc H0 _ σ (fset fp j []) hod1 s1 (fun v H' => H' l = some (.frz od (.dK (dkT ks))) ∧ Q v (upd H' l (.dK (dkT ks)))) (fun r v H2 er e2 res => ?_) (fun _ _ _ _ er => nomatch er)
  · exact key l od el upd_same
  · refine ⟨_, e1, d, od, rfl, .inl ⟨dkT ks, e2, ?_⟩⟩
    refine hq _ H (Ex.refl H) ⟨_, (fun i H x H' => H' = H ∧ ∃ k v, (dkT ks)[i]? = some (k, v) ∧ x = kV k), ?_, fun H' ex => ex _ _ e2, fun i H1 x H2 dd ed ex y => ?_⟩
    · rw [List.length_map, ← dkT_len ks]; exact walk_keys
    · obtain ⟨rfl, k, v, hk, rfl⟩ := y
      unfold dkT at hk
      rw [List.getElem?_map] at hk ed
      obtain ⟨q, hq1, hq2⟩ := Option.map_eq_some_iff.mp hk
      rw [hq1] at ed
      cases hq2; cases ed
      exact ⟨Ex.refl _, fun O _ => .int _⟩
  · obtain ⟨S2, r, g1, g2, g3, g4⟩ := he k hk
    exact ⟨S2, r, g1, dts_one g2, fun _ => ⟨g3, g4⟩⟩
  · cases er
    obtain ⟨q, vs, rfl, hq0, hq1, hr⟩ := res
    have hr2 := hr.to_ints
    subst hr2
    have hql : q ≠ l := fun z => by rw [z, upd_same] at hq0; cases hq0
    rw [upd_ne hql] at hq0
    refine ⟨e2 _ _ upd_same, hq (.own ((ks.filter p).map D.int)) (.ref q) _ rfl (fun a o ha => ?_) ⟨q, _, rfl, hq0, ?_, reps_ints _⟩⟩
    · by_cases z : a = l
      · subst z; rw [hl] at ha; cases ha; exact upd_same
      · rw [upd_ne z]; exact e2 _ _ (by rw [upd_ne z]; exact ha)
    · rw [upd_ne hql]; exact hq1
/-- x.append(e), x an own list of own lists, e a new list -/
theorem ds_appO {z : Str} {ap p1 p2 : Pos} {dss : List (List D)} {ds : List D} {j : Nat} (hS : S[j]? = some (.own2 dss)) (he : DE C e S (.ok (.own ds))) (hfl : ∀ d ∈ ds, Flat d) (hN : C.N.idxOf? z = some j) (hvz : nmB C.sc z = true) (hz : dss.length ≤ 1000000)
    (h : P.nx (S.set j (.own2 (dss ++ [ds]))))
    (hs : ∀ env, starEach (e :: []) env = (false, eval e env) :: starEach [] env) (hb : ∀ env, attributeBase (.Name z p1) "append" env (eval (.Name z p1) env) = eval (.Name z p1) env)
    (hfew : ∀ env, ((backTo p2 (starEach (e :: []) env)).all (fun x => !x.1) && (backToKw p2 (keywordEach [] env)).all (fun x => x.1.isSome) && decide ((e :: []).length + ([] : List Keyword).length + (if ([] : List Keyword).isEmpty then 0 else 1) < 30)) = true)
    (hline : (ap.endLine == p2.line) = true) (hsw : ∀ env, swapsWith (.Call (.Attribute (.Name z p1) "append" ap) [e] [] p2) none pos.line env = pure false) :
    DS C (.Expr (.Call (.Attribute (.Name z p1) "append" ap) [e] [] p2) pos) S P := by
  obtain ⟨hv1, hd, hcd⟩ := nmB_vis hvz
  refine .mk fun W => ⟨tDrop (tBM C.M.K "list" rAppend (tVar j) (tCons (tE C e W) tNil)), fun r f => ps_expr (pe_bm PySem.F.plainAttrs_list PySem.F.slot_list_append PySem.F.type_list_append mt_append (pe_var (idx_get hN) (vis_of hv1 f.g) hd hcd) (pa_cons (pe_tE f) pa_nil (hs _)) (hb _) (hfew _) hline (hs _) rfl) (hsw _), fun Oc H0 H σ fp hod sat D h1 h2 h3 h4 h5 => ?_⟩
  obtain ⟨l, qs, el, hf, nd, hl, rep2⟩ := sat.own2 hS
  have hjl := (List.getElem?_eq_some_iff.mp hS).1
  refine ⟨_, el, .inl ⟨rfl, _, .inl (.inl hl)⟩, he W Oc H0 H σ fp (hod.up sat) sat _ (fun r v H1 er e1 res => ?_) (fun _ _ _ _ er => nomatch er)⟩
  cases er
  obtain ⟨q, vs, rfl, hq0, hq1, hr⟩ := res
  have s1 := sat.mono e1
  have hnd : ∀ a ∈ fp j, H a ≠ none := fun a ha => (sat.there ha).ne
  have ml : l ∈ fp j := by rw [hf]; exact List.mem_cons_self
  have mb : Mb (H1 l) := by rw [e1 _ _ hl]; trivial
  have hlt1 : H1 l = some (.lst (qs.map V.ref)) := e1 _ _ hl
  have qnf : ∀ i, q ∉ fp i := fun i z => (sat.there z).ne hq0
  have hql : q ≠ l := fun z => qnf j (by rw [z]; exact ml)
  refine ⟨l, _, .ref q, rfl, rfl, hlt1, ?_, ?_⟩
  · rw [List.length_map, rep2.length]; exact sz_lt hz
  · have sub : ∀ a, Ow Oc fp a → Ow Oc (fset fp j (l :: (qs ++ [q]))) a := fun a z => by
      rcases z with z | ⟨i, z⟩
      · exact .inl z
      · by_cases hi : i = j
        · subst hi
          rw [hf] at z
          refine .inr ⟨i, ?_⟩
          rw [fset_same]
          rcases List.mem_cons.mp z with rfl | z
          · exact List.mem_cons_self
          · exact List.mem_cons_of_mem _ (List.mem_append_left _ z)
        · exact .inr ⟨i, by rw [fset_ne hi]; exact z⟩
    have sup : ∀ a, Ow Oc (fset fp j (l :: (qs ++ [q]))) a → Ow Oc fp a ∨ a = q := fun a z => by
      rcases z with z | ⟨i, z⟩
      · exact .inl (.inl z)
      · by_cases hi : i = j
        · subst hi
          rw [fset_same] at z
          rcases List.mem_cons.mp z with rfl | z
          · exact .inl (.inr ⟨i, ml⟩)
          · rcases List.mem_append.mp z with z | z
            · exact .inl (.inr ⟨i, by rw [hf]; exact List.mem_cons_of_mem _ z⟩)
            · exact .inr (List.mem_singleton.mp z)
        · rw [fset_ne hi] at z; exact .inl (.inr ⟨i, z⟩)
    have up' : ∀ a, Ow Oc (fset fp j (l :: (qs ++ [q]))) a → Ow Oc fp a ∨ H a = none := fun a z => (sup a z).imp id fun e => by rw [e]; exact hq0
    refine h1 _ _ _ (fset fp j (l :: (qs ++ [q]))) h ?_
    have ol : Ow Oc fp l := .inr ⟨j, ml⟩
    have eG : (qs.map V.ref ++ [V.ref q] : List V) = (qs ++ [q]).map V.ref := by rw [List.map_append]; rfl
    refine ⟨by rw [List.length_set]; exact sat.len, fun i s hi => ?_, fun i hi => ?_, fun i k a g1 g2 => ?_, fun i a hi => ?_, (sat.ex.trans e1).mut (sat.fr j l ml)⟩
    · by_cases hij : i = j
      · subst hij
        rw [List.getElem?_set_self hjl] at hi
        cases hi
        rw [fset_same]
        obtain ⟨_, _, hx, hf', _, _, _⟩ := s1.slot i _ hS
        rw [hf] at hf'; cases hf'
        refine ⟨l, qs ++ [q], hx, rfl, ?_, by rw [upd_same, eG], ?_⟩
        · refine List.nodup_cons.mpr ⟨fun z => ?_, ?_⟩
          · rcases List.mem_append.mp z with z | z
            · exact (List.nodup_cons.mp nd).1 z
            · exact hql (List.mem_singleton.mp z).symm
          · rw [List.nodup_append]
            exact ⟨(List.nodup_cons.mp nd).2, List.nodup_cons.mpr ⟨List.not_mem_nil, .nil⟩, fun a ha b hb e => qnf i (by rw [hf, ← List.mem_singleton.mp hb, ← e]; exact List.mem_cons_of_mem _ ha)⟩
        · have o1 := (rep2.step e1 up').write (o := .lst ((qs ++ [q]).map V.ref)) (sub l ol) mb (List.nodup_cons.mp nd).1
          have hr1 : Reps C.M.K (upd H1 l (.lst ((qs ++ [q]).map V.ref))) (fun a => a = l) vs ds := Reps.write (O := fun a => a = l) rfl mb (Reps.flat hr hfl)
          rw [eG]
          exact o1.snoc (by rw [upd_ne hql]; exact hq1) (hr1.flat hfl)
      · rw [List.getElem?_set_ne (Ne.symm hij)] at hi
        rw [fset_ne hij]
        exact ((sat.slot i s hi).step e1 up').write (sub l ol) mb fun z => hij (sat.dis i j l z ml)
    · rw [List.length_set] at hi
      rw [fset_ne (by omega)]; exact sat.out i hi
    · have nq : ∀ m, m ≠ j → ∀ a, a ∈ fp m → a ∉ l :: (qs ++ [q]) := fun m hm a h1 h2 => by
        rcases List.mem_cons.mp h2 with rfl | h2
        · exact hm (sat.dis m j a h1 ml)
        · rcases List.mem_append.mp h2 with h2 | h2
          · exact hm (sat.dis m j a h1 (by rw [hf]; exact List.mem_cons_of_mem _ h2))
          · exact qnf m (by rw [← List.mem_singleton.mp h2]; exact h1)
      by_cases k1 : i = j
      · by_cases k2 : k = j
        · rw [k1, k2]
        · subst k1; rw [fset_same] at g1; rw [fset_ne k2] at g2; exact absurd g1 (nq k k2 a g2)
      · by_cases k2 : k = j
        · subst k2; rw [fset_same] at g2; rw [fset_ne k1] at g1; exact absurd g2 (nq i k1 a g1)
        · rw [fset_ne k1] at g1; rw [fset_ne k2] at g2; exact sat.dis i k a g1 g2
    · by_cases k1 : i = j
      · subst k1
        rw [fset_same] at hi
        rcases List.mem_cons.mp hi with rfl | hi
        · exact sat.fr i a ml
        · rcases List.mem_append.mp hi with hi | hi
          · exact sat.fr i a (by rw [hf]; exact List.mem_cons_of_mem _ hi)
          · rw [List.mem_singleton.mp hi]; exact sat.ex.back hq0
      · rw [fset_ne k1] at hi; exact sat.fr i a hi
end
end BK
/-! Part Zc: a promise that leaves open what is given; a def that changes its first list and gives it back. -/
namespace BK
open PySem PySem.Spec PyProof.Rows L2
def spG (K : PySem.W.Frag) (F : List D → Prop) (G : R → Prop) : Sp := fun vs H Q _ => ∃ Oc ds, There Oc H ∧ Reps K H Oc vs ds ∧ F ds ∧ ∀ r v H', G r → Ex H H' → Res K Oc H H' v r → Q v H'
def postG (G : R → Prop) : Post := { nx := fun _ => False, rt := G, ex := fun _ _ => False }
theorem fn_dataG {M : Mo} {x qual : Str} {st : Stmt} {f : Addr} {fd : FuncData} {N ps : List Str} {Fd : List D → Prop} {G : R → Prop} (F : Fun M.K x qual st f fd) (S : FnScope N ps (defScope st)) (hlen : ∀ ds, Fd ds → ds.length = ps.length)
    (hb : ∀ ds, Fd ds → DSs ⟨M, N, defScope st, true⟩ (defBody st) (startS N ds) (postG G)) : FnOk M.P M.w M.K M.mg M.base (L2.CX M.P M.w) (M.k + 1) f fd ps (spG M.K Fd G) := by
  have hpl : ps.length ≤ N.length := by have := congrArg List.length S.pre; rw [List.length_take] at this; omega
  refine F.okX S (fun vs H Q E h => ?_) (fun cdv A outer s H vs Q E hr h => ?_)
  · obtain ⟨Oc, ds, _, r, hF, _⟩ := h
    rw [r.length, hlen ds hF]
  · obtain ⟨Oc, ds, hod, r, hF, hq⟩ := h
    let C : Ctx := ⟨M, N, defScope st, true⟩
    let W : WX := fun cls d _ H => E cls d H
    refine ⟨tSs C (defBody st) W, ?_, ?_⟩
    · exact pss_tSs (C := C) (r := { A := A.deeper (envOfC qual (defScope st) s.heap.objs.size f cdv), s_0 := s, H_0 := H, env := envOfC qual (defScope st) s.heap.objs.size f cdv, outer := outer, stack := envOfC qual (defScope st) s.heap.objs.size f cdv :: outer, ex := [], fn := fun _ => true, calm := true, pn := [], xe := _ }) ⟨⟨rfl, rfl, hr, S.nd, .inl fun _ => rfl, fun _ => ⟨rfl, rfl, rfl, passes_of (X := cxOf (L2.CX M.P M.w) M.P M.w M.K M.mg M.base N qual (defScope st) f cdv A outer s H E) rfl⟩⟩, takes_of rfl rfl rfl rfl⟩
    · exact hb ds hF W Oc H H _ _ hod (sat_start r (by rw [hlen ds hF]; exact hpl)) _
        (fun S' H' σ' fp' hn sat => hn.elim)
        (fun r v H' hr ex res => hq r v H' hr ex res)
        (fun e cls d H' σ' S' fp' he sat xr => he.elim)
        (fun _ _ _ _ h => h.elim) (fun _ _ _ _ h => h.elim)
structure CalG (M : Mo) (x : String) (F : List D → Prop) (G : R → Prop) : Prop where
  ex : ∃ (f : Addr) (fd : FuncData) (ps : List Str), FnOk M.P M.w M.K M.mg M.base (L2.CX M.P M.w) M.k f fd ps (spG M.K F G) ∧ M.mg (Str.ofString x) = some (.ref f) ∧ PySem.W.keepIn M.K (.ref f) = true ∧ Binds M.K fd ps []
section
variable {C : Ctx} {S : List Slot} {P : Post} {e : Expr} {es : List Expr} {ds : List D} {pos pos' : Pos}
theorem ds_letG {x : String} {z : Str} {p pc : Pos} {i : Nat} {F : List D → Prop} {G : R → Prop} (hF : CalG C.M x F G) (hg : glB C.sc (Str.ofString x) = true) (ha : DA C true (e :: es) S ds) (h : F ds) (hi : C.N.idxOf? z = some i) (hx : locB C z = true) (hj : i < S.length)
    (hn : ∀ r, G r → P.nx (S.set i r.slot)) (hs : ∀ env, swapsWith (.Call (.Name (Str.ofString x) p) (e :: es) [] pc) (some (.Name z pos')) pos.line env = pure false)
    (he : ∀ env, starEach (e :: es) env = (false, eval e env) :: starEach es env) (hpl : ∀ env, (backTo pc (starEach es env)).any (·.1) = false) : DS C (.Assign [.Name z pos'] (.Call (.Name (Str.ofString x) p) (e :: es) [] pc) pos) S P := by
  obtain ⟨f, fd, ps, G', mg, kp, b⟩ := hF.ex
  refine .mk fun W => ⟨tAsg (tCallS (spG C.M.K F G) (WE W) (tA C (e :: es) W)) (gName i), fun r fm => (locB_loc hx).ps' (idx_get hi) fm (pe_callS (E := WE W) G' fm.g.room ((glB_gl hg).1.gl fm.g) mg kp b (fun σ => passAt fm.t σ) (pa_tA fm) (glB_gl hg).2 (he _) (hpl _)) (hs _), fun Oc H0 H σ fp hod sat D h1 h2 h3 h4 h5 => ?_⟩
  refine ha W Oc H0 H σ fp (hod.up sat) sat _ fun vs H1 e1 reps => ⟨_, ds, ((sat.thereO (hod.up sat)).ex e1).lvl, reps, h, fun r v H2 hr e2 res => ?_⟩
  obtain ⟨fp', s'⟩ := sat.set (e1.trans e2) ((res.unlvl (.inl rfl)).base e1) hj
  exact h1 _ H2 _ fp' (hn r hr) s'
end
/-! ## a slot's data where one object changes that is another slot's -/
theorem Own2.hide1 {K : PySem.W.Frag} {H : Hp} {O : Addr → Prop} {l : Addr} (hl : O l) (hm : Mb (H l)) {qs : List Addr} {dss : List (List D)} (h : Own2 K H O qs dss) (hn : l ∉ qs) : Own2 K (hid H fun a => a = l) O qs dss := by
  induction h with
  | nil => exact .nil
  | @cons q qs vs ds dss h r _ ih =>
    refine .cons ?_ (r.hide fun a e => by rw [e]; exact ⟨hl, hm⟩) (ih fun z => hn (List.mem_cons_of_mem _ z))
    rw [hid_out fun z => hn (by rw [← z]; exact List.mem_cons_self)]; exact h
theorem SlotRep.hide1 {K : PySem.W.Frag} {H : Hp} {O : Addr → Prop} {l : Addr} (hl : O l) (hm : Mb (H l)) {x : Option V} {s : Slot} {f : List Addr} (h : SlotRep K H O x s f) (hn : l ∉ f) : SlotRep K (hid H fun a => a = l) O x s f := by
  cases s with
  | any => exact h
  | val d =>
    obtain ⟨h1, v, h2, r⟩ := h
    exact ⟨h1, v, h2, r.hide fun a e => by rw [e]; exact ⟨hl, hm⟩⟩
  | own ds =>
    obtain ⟨q, vs, h1, h2, h3, r⟩ := h
    refine ⟨q, vs, h1, h2, ?_, r.hide fun a e => by rw [e]; exact ⟨hl, hm⟩⟩
    rw [hid_out fun z => hn (by rw [h2, ← z]; exact List.mem_cons_self)]; exact h3
  | own2 dss =>
    obtain ⟨q, qs, h1, h2, h3, h4, r⟩ := h
    refine ⟨q, qs, h1, h2, h3, ?_, r.hide1 hl hm fun z => hn (by rw [h2]; exact List.mem_cons_of_mem _ z)⟩
    rw [hid_out fun z => hn (by rw [h2, ← z]; exact List.mem_cons_self)]; exact h4
  | ownD kvs =>
    obtain ⟨q, h1, h2, h3⟩ := h
    refine ⟨q, h1, h2, ?_⟩
    rw [hid_out fun z => hn (by rw [h2, ← z]; exact List.mem_cons_self)]; exact h3
/-! ## x = f(x, ..), f changing x and giving it back -/
def spK (K : PySem.W.Frag) (F : List D → List D → Prop) (G : List D → Prop) : Sp := fun vs H Q _ => ∃ (Oc : Addr → Prop) (l : Addr) (ws xs : List V) (ds as : List D), vs = .ref l :: ws ∧ There Oc H ∧ ¬ Oc l ∧ H l = some (.lst xs) ∧ Reps K H (fun a => Oc a ∨ a = l) xs ds ∧ Reps K H (fun a => Oc a ∨ a = l) ws as ∧ F ds as ∧
  ∀ p H' xs' ds', (p = l ∨ H p = none) → Ex (hid H fun a => a = l) H' → H' p = some (.lst xs') → Reps K H' (fun a => Oc a ∨ a = p) xs' ds' → G ds' → Q (.ref p) H'
theorem fn_ownK {M : Mo} {x qual : Str} {st : Stmt} {f : Addr} {fd : FuncData} {N ps : List Str} {F : List D → List D → Prop} {G : List D → Prop} (Fn : Fun M.K x qual st f fd) (S : FnScope N ps (defScope st)) (hlen : ∀ ds as, F ds as → as.length + 1 = ps.length)
    (hb : ∀ ds as, F ds as → DSs ⟨M, N, defScope st, true⟩ (defBody st) (.own ds :: (as.map Slot.val ++ List.replicate (N.length - (as.length + 1)) .any)) (postG fun r => ∃ ds', r = .own ds' ∧ G ds')) :
    FnOk M.P M.w M.K M.mg M.base (L2.CX M.P M.w) (M.k + 1) f fd ps (spK M.K F G) := by
  have hpl : ps.length ≤ N.length := by have := congrArg List.length S.pre; rw [List.length_take] at this; omega
  refine Fn.okX S (fun vs H Q E h => ?_) (fun cdv A outer s H vs Q E hr h => ?_)
  · obtain ⟨Oc, l, ws, xs, ds, as, rfl, _, _, _, _, r, hF, _⟩ := h
    rw [List.length_cons, r.length, hlen _ _ hF]
  · obtain ⟨Oc, l, ws, xs, ds, as, rfl, hod, hno, hl, rx, r, hF, hq⟩ := h
    let C : Ctx := ⟨M, N, defScope st, true⟩
    let W : WX := fun cls d _ H => E cls d H
    have hN : as.length + 1 ≤ N.length := by rw [hlen _ _ hF]; exact hpl
    refine ⟨tSs C (defBody st) W, ?_, ?_⟩
    · exact pss_tSs (C := C) (r := { A := A.deeper (envOfC qual (defScope st) s.heap.objs.size f cdv), s_0 := s, H_0 := H, env := envOfC qual (defScope st) s.heap.objs.size f cdv, outer := outer, stack := envOfC qual (defScope st) s.heap.objs.size f cdv :: outer, ex := [], fn := fun _ => true, calm := true, pn := [], xe := _ }) ⟨⟨rfl, rfl, hr, S.nd, .inl fun _ => rfl, fun _ => ⟨rfl, rfl, rfl, passes_of (X := cxOf (L2.CX M.P M.w) M.P M.w M.K M.mg M.base N qual (defScope st) f cdv A outer s H E) rfl⟩⟩, takes_of rfl rfl rfl rfl⟩
    · have ow : ∀ a, Ow Oc (fun i => if i = 0 then [l] else []) a → Oc a ∨ a = l := fun a z => by
        rcases z with z | ⟨i, z⟩
        · exact .inl z
        · by_cases hi : i = 0
          · have z' : a ∈ (if i = 0 then [l] else []) := z
            rw [if_pos hi] at z'; exact .inr (List.mem_singleton.mp z')
          · have z' : a ∈ (if i = 0 then [l] else []) := z
            rw [if_neg hi] at z'; cases z'
      have hod0 : There Oc (hid H fun a => a = l) := (fun a z => by
        rw [hid_out fun e => hno (by rw [← e]; exact z)]; exact hod a z)
      have sat : Sat M.K Oc (hid H fun a => a = l) H (L2.start N (.ref l :: ws)) (.own ds :: (as.map Slot.val ++ List.replicate (N.length - (as.length + 1)) .any)) (fun i => if i = 0 then [l] else []) := by
        refine ⟨?_, fun i s e => ?_, fun i hi => ?_, fun i j a h1 h2 => ?_, fun i a h => ?_, hid_ex⟩
        · have := r.length
          unfold L2.start
          simp [this]
        · cases i with
          | zero =>
            cases e
            exact ⟨l, xs, rfl, rfl, hl, rx.less ow⟩
          | succ i =>
            rw [List.getElem?_cons_succ] at e
            show SlotRep _ _ _ _ s []
            by_cases hi : i < as.length
            · rw [List.getElem?_append_left (by rw [List.length_map]; exact hi), List.getElem?_map, List.getElem?_eq_getElem hi] at e
              cases e
              obtain ⟨v, hv, rv⟩ := r.getD (List.getElem?_eq_getElem hi)
              refine ⟨rfl, v, ?_, rv.less ow⟩
              unfold L2.start
              rw [List.getD_eq_getElem?_getD, List.map_cons, List.cons_append, List.getElem?_cons_succ, List.getElem?_append_left (by rw [List.length_map, r.length]; exact hi), List.getElem?_map, hv]; rfl
            · rw [List.getElem?_append_right (by rw [List.length_map]; omega), List.getElem?_replicate] at e
              split at e
              · cases e; exact rfl
              · cases e
        · rw [List.length_cons] at hi
          exact if_neg (by omega)
        · by_cases hi : i = 0
          · by_cases hj : j = 0
            · rw [hi, hj]
            · have z' : a ∈ (if j = 0 then [l] else []) := h2
              rw [if_neg hj] at z'; cases z'
          · have z' : a ∈ (if i = 0 then [l] else []) := h1
            rw [if_neg hi] at z'; cases z'
        · by_cases hi : i = 0
          · have z' : a ∈ (if i = 0 then [l] else []) := h
            rw [if_pos hi] at z'; rw [List.mem_singleton.mp z']; exact hid_in rfl
          · have z' : a ∈ (if i = 0 then [l] else []) := h
            rw [if_neg hi] at z'; cases z'
      refine hb ds as hF W Oc _ H _ _ hod0 sat _ (fun _ _ _ _ h => h.elim) (fun r v H' hr ex res => ?_) (fun _ _ _ _ _ _ _ h => h.elim) (fun _ _ _ _ h => h.elim) (fun _ _ _ _ h => h.elim)
      obtain ⟨ds', rfl, hG⟩ := hr
      obtain ⟨p, xs', rfl, hp, hp', rp⟩ := res
      refine hq p H' xs' ds' ?_ ex hp' rp hG
      by_cases e : p = l
      · exact .inl e
      · right; rw [hid_out (F := fun a => a = l) e] at hp; exact hp
structure CalK (M : Mo) (x : String) (F : List D → List D → Prop) (G : List D → Prop) : Prop where
  ex : ∃ (f : Addr) (fd : FuncData) (ps : List Str), FnOk M.P M.w M.K M.mg M.base (L2.CX M.P M.w) M.k f fd ps (spK M.K F G) ∧ M.mg (Str.ofString x) = some (.ref f) ∧ PySem.W.keepIn M.K (.ref f) = true ∧ Binds M.K fd ps []
theorem ds_letK {C : Ctx} {S : List Slot} {P : Post} {x : String} {z : Str} {p p1 p2 pos pos' : Pos} {j : Nat} {es : List Expr} {F : List D → List D → Prop} {G : List D → Prop} {ds as : List D} (hF : CalK C.M x F G) (hg : glB C.sc (Str.ofString x) = true) (hi : C.N.idxOf? z = some j) (hv : nmB C.sc z = true) (hx : locB C z = true) (hS : S[j]? = some (.own ds)) (ha : DA C true es S as) (h : F ds as)
    (hn : ∀ ds', G ds' → P.nx (S.set j (.own ds'))) (he : ∀ env, starEach (.Name z p1 :: es) env = (false, eval (.Name z p1) env) :: starEach es env) (hpl : ∀ env, (backTo p2 (starEach es env)).any (·.1) = false)
    (hs : ∀ env, swapsWith (.Call (.Name (Str.ofString x) p) (.Name z p1 :: es) [] p2) (some (.Name z pos')) pos.line env = pure false) : DS C (.Assign [.Name z pos'] (.Call (.Name (Str.ofString x) p) (.Name z p1 :: es) [] p2) pos) S P := by
  obtain ⟨f, fd, ps, G', mg, kp, b⟩ := hF.ex
  obtain ⟨hv1, hd, hcd⟩ := nmB_vis hv
  refine .mk fun W => ⟨tAsg (tCall (spK C.M.K F G) [] E0 (tCons (tVar j) (tA C es W))) (gName j), fun r fm => (locB_loc hx).ps' (idx_get hi) fm (pe_call G' fm.g.room ((glB_gl hg).1.gl fm.g) mg kp b .nil passL (pa_cons (pe_var (idx_get hi) (vis_of hv1 fm.g) hd hcd) (pa_tA fm) (he _)) (glB_gl hg).2 (he _) (hpl _)) (hs _), fun Oc H0 H σ fp hod sat D h1 h2 h3 h4 h5 => ?_⟩
  obtain ⟨l, vs, el, hf, hl, reps⟩ := sat.own hS
  have hjl := (List.getElem?_eq_some_iff.mp hS).1
  have ml : l ∈ fp j := by rw [hf]; exact List.mem_cons_self
  have lno : ¬ Oc l := fun z => hod l z (sat.fr j l ml)
  refine ⟨_, el, ha W Oc H0 H σ fp (hod.up sat) sat _ fun ws H1 e1 rs => ?_⟩
  have s1 := sat.mono e1
  have hl1 : H1 l = some (.lst vs) := e1 _ _ hl
  have mb : Mb (H1 l) := by rw [hl1]; trivial
  show spK C.M.K F G ((.ref l :: ws) ++ []) H1 _ _
  rw [List.append_nil]
  -- all that is owned, but for the list itself
  let Oc' : Addr → Prop := fun a => Oc a ∨ ∃ i, i ≠ j ∧ a ∈ fp i
  have up : ∀ a, (Oc' a ∨ a = l) → Ow Oc fp a := fun a z => by
    rcases z with (z | ⟨i, _, z⟩) | z
    · exact .inl z
    · exact .inr ⟨i, z⟩
    · exact .inr ⟨j, by rw [z]; exact ml⟩
  have oth : Ow Oc fp l := .inr ⟨j, ml⟩
  refine ⟨Oc', l, ws, vs, ds, as, rfl, fun a z => ?_, fun z => ?_, hl1, (reps.mono e1).less up, rs.less up, h, fun q H2 xs' ds' hq ex hq2 rp hG => ?_⟩
  · rcases z with z | ⟨i, _, z⟩
    · exact ((hod.up sat).ex e1) a z
    · exact (s1.there z).ne
  · rcases z with z | ⟨i, hij, z⟩
    · exact lno z
    · exact hij (sat.dis i j l z ml)
  · have qno : ∀ i, i ≠ j → q ∉ fp i := fun i hij z => by
      rcases hq with rfl | hq
      · exact hij (sat.dis i j q z ml)
      · exact (s1.there z).ne hq
    have q0 : H0 q = none := by
      rcases hq with rfl | hq
      · exact sat.fr j q ml
      · exact s1.ex.back hq
    have owq : ∀ a, Ow Oc (fset fp j [q]) a → Oc' a ∨ a = q := fun a z => by
      rcases z with z | ⟨i, z⟩
      · exact .inl (.inl z)
      · by_cases e : i = j
        · subst e; rw [fset_same] at z; exact .inr (List.mem_singleton.mp z)
        · rw [fset_ne e] at z; exact .inl (.inr ⟨i, e, z⟩)
    refine h1 _ H2 _ (fset fp j [q]) (hn ds' hG) ⟨?_, fun i s hi => ?_, fun i hi => ?_, fun i k a g1 g2 => ?_, fun i a hi => ?_, fun a o ha => ?_⟩
    · rw [List.length_set, List.length_set]; exact sat.len
    · by_cases hij : i = j
      · subst hij
        rw [List.getElem?_set_self hjl] at hi
        cases hi
        rw [fset_same, getD_set_same (by rw [← sat.len]; exact hjl)]
        exact ⟨q, xs', rfl, rfl, hq2, rp.less owq⟩
      · rw [List.getElem?_set_ne (Ne.symm hij)] at hi
        rw [fset_ne hij, getD_set_ne (Ne.symm hij)]
        refine ((s1.slot i s hi).hide1 oth mb fun z => hij (sat.dis i j l z ml)).step ex fun a z => ?_
        rcases owq a z with (z | ⟨i, _, z⟩) | z
        · exact .inl (.inl z)
        · exact .inl (.inr ⟨i, z⟩)
        · right
          rw [z]
          by_cases e : q = l
          · exact hid_in e
          · rw [hid_out (F := fun a => a = l) e]; exact hq.resolve_left e
    · rw [List.length_set] at hi
      rw [fset_ne (by omega)]; exact sat.out i hi
    · by_cases k1 : i = j
      · by_cases k2 : k = j
        · rw [k1, k2]
        · subst k1; rw [fset_same] at g1; rw [fset_ne k2] at g2; exact absurd g2 (by rw [List.mem_singleton.mp g1]; exact qno k k2)
      · by_cases k2 : k = j
        · subst k2; rw [fset_same] at g2; rw [fset_ne k1] at g1; exact absurd g1 (by rw [List.mem_singleton.mp g2]; exact qno i k1)
        · rw [fset_ne k1] at g1; rw [fset_ne k2] at g2; exact sat.dis i k a g1 g2
    · by_cases k1 : i = j
      · subst k1; rw [fset_same] at hi; rw [List.mem_singleton.mp hi]; exact q0
      · rw [fset_ne k1] at hi; exact sat.fr i a hi
    · refine ex a o ?_
      rw [hid_out fun z => by rw [z, sat.fr j l ml] at ha; cases ha]
      exact s1.ex a o ha
end BK
/-! Part Zd: list.remove of a tuple of numbers; a list turned about. -/
namespace PySem.MeetsSeq
open AutoSeq1 (wpAny_loadPart')
/-- the search for what is removed, where == looks into the heap -/
theorem bk_rem_loop (l : Addr) (items : Array Value) (n : Nat) (x : Value) (e : Value → Bool) (j : Nat) (hj : j < items.size) (hit : e items[j] = true) (hs1 : items.size ≤ sizeLine) (k : Nat) :
    ∀ i : Nat, j - i = k → i ≤ j → (∀ m (hm : m < items.size), i ≤ m → m < j → e items[m] = false) → Meets (Builtin.«list.remove.loop» ⟨[.ref l, x, rawInt i], []⟩)
      (fun A R s => s.heap.get? l = some { cls := .type "list", dict := none, data := .seq items n, slots := #[] } ∧ (∀ y, y ∈ items → SeqAt.EqAt A.in1 s y x (e y)) ∧ R (.ok (.ret .none)) { s with heap := s.heap.update l (Obj.mapSeq fun xs => xs.eraseIdxIfInBounds j) }) := by
  induction k with
  | zero =>
    intro i hk hij hno prog w A R s h
    obtain ⟨hp, g, d, tk, os⟩ := s
    obtain ⟨hl, he, h⟩ := h
    obtain rfl : i = j := by omega
    wp_walk using wpAny_loadPart' hl
    have hi : items[((i : Nat) : Int).toNat]? = some items[i] := by simp [hj]
    rw [hi]
    refine wpAny_bind (he _ (Array.getElem_mem hj) prog w _ _ ?_)
    rw [hit]
    have hz' : (items.eraseIdxIfInBounds i).size ≤ sizeLine + 1 := Nat.le_trans (size_erased items _) (Nat.le_succ_of_le hs1)
    wp_walk using (wpAny_updateSeq hl rfl (hz := hs1) (_hz' := hz')), wpAny_loadPart' hl
    simpa using h
  | succ k ih =>
    intro i hk hij hno prog w A R s h
    obtain ⟨hp, g, d, tk, os⟩ := s
    obtain ⟨hl, he, h⟩ := h
    have hlt : i < items.size := by omega
    wp_walk using wpAny_loadPart' hl
    have hi : items[((i : Nat) : Int).toNat]? = some items[i] := by simp [hlt]
    have hc : ((i : Int) + 1) = ((i + 1 : Nat) : Int) := by push_cast; rfl
    rw [hi]
    refine wpAny_bind (he _ (Array.getElem_mem hlt) prog w _ _ ?_)
    rw [hno i hlt (Nat.le_refl _) (by omega)]
    wp_walk
    rw [hc]
    exact ⟨plainId_quiet plain_remove_loop _, codeAny_builtin entry_remove_loop (by
      rw [Around.under_plainId plain_remove_loop _]
      exact ih (i + 1) (by omega) (by omega) (fun m hm h1 h2 => hno m hm (by omega) h2) prog w A R _ ⟨hl, he, h⟩)⟩
theorem bk_remove (l : Addr) (items : Array Value) (n : Nat) (x : Value) (e : Value → Bool) (j : Nat) (hj : j < items.size) (hit : e items[j] = true) (hno : ∀ m (hm : m < items.size), m < j → e items[m] = false) (hs1 : items.size ≤ sizeLine) :
    Meets (Builtin.«list.remove» ⟨[.ref l, x], []⟩)
      (fun A R s => s.heap.get? l = some { cls := .type "list", dict := none, data := .seq items n, slots := #[] } ∧ (∀ y, y ∈ items → SeqAt.EqAt A.in1 s y x (e y)) ∧ R (.ok (.ret .none)) { s with heap := s.heap.update l (Obj.mapSeq fun xs => xs.eraseIdxIfInBounds j) }) := by
  intro prog w A R s h
  obtain ⟨hp, g, d, tk, os⟩ := s
  obtain ⟨hl, he, h⟩ := h
  wp_walk using wpAny_loadPart' hl
  exact ⟨plainId_quiet plain_remove_loop _, codeAny_builtin entry_remove_loop (by
    rw [Around.under_plainId plain_remove_loop _]
    exact bk_rem_loop l items n x e j hj hit hs1 _ 0 rfl (Nat.zero_le _) (fun m hm _ h2 => hno m hm h2) prog w A R _ ⟨hl, he, h⟩)⟩
end PySem.MeetsSeq
namespace BK
open PySem PySem.Spec PyProof.Rows L2
/-- xs.remove(t), tuples of numbers (k says which); j: where the first like it stands -/
def rRemT : V → List V → Hp → VK → Prop := fun x xs H Q => ∃ (l t : Addr) (ys : List V) (k : V → List Int) (ns : List Int) (j : Nat), x = .ref l ∧ xs = [.ref t] ∧ H l = some (.lst ys) ∧ H t = some (.tup (ns.map V.int)) ∧ (∀ y ∈ ys, ∃ a, y = V.ref a ∧ H a = some (.tup ((k y).map V.int))) ∧
  (∃ y, ys[j]? = some y ∧ k y = ns) ∧ (∀ m y, m < j → ys[m]? = some y → k y ≠ ns) ∧ Q .non (upd H l (.lst (ys.eraseIdx j)))
theorem key_ints {P P' : Program} {w w' : World} {H : Hp} {h : Heap} {a : Addr} {ns : List Int} (ok : HOk P w H h) (e : H a = some (.tup (ns.map V.int))) : IsTupleKey (mixKind P' w') h (ns.map Sum.inl) a := by
  obtain ⟨_, its2, r2, o, ho, hc, n, hd⟩ := ok _ _ e
  have e2 : ns.map V.int = (ns.map (Sum.inl : Int → Key)).map kV := by rw [List.map_map]; rfl
  rw [e2] at r2
  exact ⟨o, its2.toArray, n, ho, hc, hd, items_are r2⟩
theorem mt_remT {X : Cx} (hu : X.A.units + 8 < cLine) : MtM X "list.remove" rRemT := by
  intro pins s σ H x xs v us Q I rx rxs h
  obtain ⟨l, t, ys, k, ns, j, rfl, rfl, hl, ht, hys, ⟨y, hy1, hy2⟩, hno, q⟩ := h
  cases rx
  obtain ⟨u, rfl, ru⟩ := rxs.one
  obtain rfl : u = Value.ref t := ru
  obtain ⟨z, its, n, r, hlen, e⟩ := I.lstM hl
  obtain ⟨e1, e2⟩ := refs_back r fun x m => by
    obtain ⟨a, h1, _⟩ := hys x m
    exact ⟨a, h1⟩
  have hvl := r.length
  have hj : j < ys.length := (List.getElem?_eq_some_iff.mp hy1).1
  have key : ∀ (P' : Program) (w' : World), ∀ u ∈ its, IsTupleKey (mixKind P' w') s.heap ((k (backV u)).map Sum.inl) (match u with | .ref a => a | _ => 0) := fun P' w' u hm => by
    obtain ⟨a, rfl⟩ := e2 u hm
    have hm2 : backV (.ref a) ∈ ys := by rw [e1]; exact List.mem_map.mpr ⟨_, hm, rfl⟩
    obtain ⟨a', h1, h2⟩ := hys _ hm2
    cases h1
    exact key_ints I.hok h2
  have kt : ∀ (P' : Program) (w' : World), IsTupleKey (mixKind P' w') s.heap (ns.map Sum.inl) t := fun P' w' => key_ints I.hok ht
  have get : ∀ m (hm : m < its.length), backV its[m] = ys[m]'(by omega) := fun m hm => by
    have : ys[m]? = (its.map backV)[m]? := by rw [← e1]
    rw [List.getElem?_map, List.getElem?_eq_getElem hm, List.getElem?_eq_getElem (by omega)] at this
    exact (Option.some.inj this).symm
  refine call_meets PySem.F.slot_list_remove ⟨_, e, rfl⟩ PySem.F.entry_list_remove (PySem.F.args_list_remove_2 _ _)
    (MeetsSeq.bk_remove l its.toArray n (.ref t) (fun u => decide (((k (backV u)).map (Sum.inl : Int → Key)) = ns.map Sum.inl)) j (by rw [List.size_toArray]; omega) ?_ (fun m hm hmj => ?_) (by rw [List.size_toArray]; omega)) ⟨e, fun u hm => ?_, ?_⟩
  · have hjl : j < its.length := by omega
    have e3 : its.toArray[j]'(by rw [List.size_toArray]; omega) = its[j] := by simp
    rw [e3, get j hjl]
    have : ys[j] = y := by rw [List.getElem?_eq_getElem hj] at hy1; exact Option.some.inj hy1
    rw [this, hy2]
    exact decide_eq_true rfl
  · have hml : m < its.length := by simpa using hm
    have e3 : its.toArray[m] = its[m] := by simp
    rw [e3, get m hml]
    refine decide_eq_false fun z => hno m _ hmj (List.getElem?_eq_getElem (by omega)) ?_
    have inj : ∀ {a b : List Int}, a.map (Sum.inl : Int → Key) = b.map Sum.inl → a = b := fun {a} => by
      induction a with
      | nil =>
        intro b h
        cases b with
        | nil => rfl
        | cons y b => cases h
      | cons x a ih =>
        intro b h
        cases b with
        | nil => cases h
        | cons y b =>
          injection h with h1 h2
          injection h1 with h1
          rw [h1, ih h2]
    exact inj z
  · have hm' : u ∈ its := by simpa using hm
    obtain ⟨a, rfl⟩ := e2 u hm'
    intro prog w E Q' hq
    refine wpAny_eqBool_tuple ?_ (key prog w _ hm') (kt prog w) hq
    simp only [Around.in1_units]
    omega
  · have rr := r.eraseIdx j
    refine ⟨.non, _, I.lset (its' := its.eraseIdx j) (t' := s.toks) hl e ?_ rr ?_, rfl, q⟩
    · show its.toArray.eraseIdxIfInBounds j = (its.eraseIdx j).toArray
      rw [List.eraseIdxIfInBounds_toArray]
    · have := List.length_eraseIdx_le ys j
      omega
section
variable {C : Ctx} {S : List Slot} {P : Post} {a e : Expr} {lv : Bool} {ds : List D} {pos : Pos}
theorem de_revL {k : Nat} {p1 p2 p3 : Pos} (ha : DL C lv a S (.lst ds)) (hf : lv = true ∨ ∀ d ∈ ds, Flat d) : DE C (.Subscript a (.Slice none none (some (.UnaryOp .USub (.Constant (.int 1) k p1) p2)) p3) pos) S (.ok (.own ds.reverse)) :=
  .mk fun W => ⟨tRevL C.M.K (tE C a W), fun r f => pe_revL (pe_tE f), fun Oc H0 H σ fp hod sat Q hq hx => ha W Oc H0 H σ fp hod sat _ fun v H1 e1 rep => by
    cases rep with
    | @lst l vs _ n hl rs =>
      refine ⟨l, vs, rfl, .inl (.inl hl), fun q hfree => ?_⟩
      have hr : Res C.M.K (lvl lv (Ow Oc fp)) H1 (upd H1 q (.lst vs.reverse)) (.ref q) (.own ds.reverse) := ⟨q, _, rfl, hfree, upd_same, (rs.rev).step (Ex.new hfree) fun a z => z.imp id fun z => by rw [z]; exact hfree⟩
      have hf' : lv = true ∨ (R.own ds.reverse).Flat := hf.imp id fun h => (fun d hd => h d (List.mem_reverse.mp hd))
      exact hq _ _ _ rfl (e1.trans (Ex.new hfree)) ((hr.unlvl hf').base e1)⟩
/-- x[i].remove(e), x an own list of lists of tuples of numbers -/
theorem unitsOk8 {W : WX} {r : Rst} (f : Fam C W r) : (C.x r).A.units + 8 < cLine := by
  have h := f.g.room.units
  show r.A.units + 8 < cLine
  omega
theorem map_erase {α β : Type} (f : α → β) : ∀ (l : List α) (m : Nat), (l.eraseIdx m).map f = (l.map f).eraseIdx m
  | [], _ => rfl
  | _ :: _, 0 => rfl
  | x :: l, m + 1 => by
    show f x :: (l.eraseIdx m).map f = f x :: (l.map f).eraseIdx m
    rw [map_erase f l m]
theorem ds_remT {z : Str} {i : Expr} {ap p1 p2 p3 : Pos} {kx : Int} {n : Nat} {dss : List (List D)} {ms : List (List Int)} {ns : List Int} {m : Nat} (j : Nat) (hS : S[j]? = some (.own2 dss)) (hi : DI C i S kx) (he : DL C false e S (encT ns)) (hk : ixN dss.length kx = some n) (hg : dss[n]? = some (ms.map encT)) (hN : C.N[j]? = some z) (hv : Vis C.sc z) (hd : (z == ("__debug__" : Str)) = false) (hcd : (z == ("__classdict__" : Str)) = false) (hpl : PlainIx i)
    (hm1 : ms[m]? = some ns) (hm2 : ∀ q x, q < m → ms[q]? = some x → x ≠ ns) (h : P.nx (S.set j (.own2 (dss.set n ((ms.eraseIdx m).map encT)))))
    (hs : ∀ env, starEach (e :: []) env = (false, eval e env) :: starEach [] env := by intro _; rfl) (hb : ∀ env, attributeBase (.Subscript (.Name z p1) i p3) "remove" env (eval (.Subscript (.Name z p1) i p3) env) = eval (.Subscript (.Name z p1) i p3) env := by intro _; rfl)
    (hfew : ∀ env, ((backTo p2 (starEach (e :: []) env)).all (fun x => !x.1) && (backToKw p2 (keywordEach [] env)).all (fun x => x.1.isSome) && decide ((e :: []).length + ([] : List Keyword).length + (if ([] : List Keyword).isEmpty then 0 else 1) < 30)) = true := by intro _; rfl)
    (hline : (ap.endLine == p2.line) = true := by rfl) (hsw : ∀ env, swapsWith (.Call (.Attribute (.Subscript (.Name z p1) i p3) "remove" ap) [e] [] p2) none pos.line env = pure false := by intro _; rfl) :
    DS C (.Expr (.Call (.Attribute (.Subscript (.Name z p1) i p3) "remove" ap) [e] [] p2) pos) S P :=
  .mk fun W => ⟨tDrop (tBM C.M.K "list" rRemT (tOp (rIxL C.M.K) (tVar j) (tE C i W)) (tCons (tE C e W) tNil)), fun r f => ps_expr (pe_bm PySem.F.plainAttrs_list PySem.F.slot_list_remove PySem.F.type_list_remove (mt_remT (unitsOk8 f)) (pe_ix ix_list (pe_var hN (vis_of hv f.g) hd hcd) (pe_tE f) hpl) (pa_cons (pe_tE f) pa_nil (hs _)) (hb _) (hfew _) hline (hs _) rfl) (hsw _), fun Oc H0 H σ fp hod sat D h1 h2 h3 h4 h5 => by
      obtain ⟨l, qs, el, hf, nd, hl, rep2⟩ := sat.own2 hS
      refine ⟨_, el, hi W Oc H0 H σ fp (hod.up sat) sat _ (fun r w H2 er e2 res => ?_) (fun _ _ _ _ er => nomatch er)⟩
      cases er; cases res
      obtain ⟨q, vs, eq, hq, reps⟩ := rep2.get hg
      have s2 := sat.mono e2
      refine ⟨l, _, kx, .ref q, rfl, rfl, .inl (.inl (e2 _ _ hl)), ?_, ?_⟩
      · unfold atI
        rw [List.length_map, rep2.length, hk]
        show (qs.map V.ref)[n]? = _
        rw [List.getElem?_map, eq]; rfl
      · refine ⟨.inl ⟨rfl, vs, .inl (.inl (e2 _ _ hq))⟩, he W Oc H0 H2 σ fp (hod.up s2) s2 _ fun v H3 e3 rep => ?_⟩
        have reps3 := (reps.mono e2).mono e3
        have q3 : H3 q = some (.lst vs) := e3 _ _ (e2 _ _ hq)
        obtain ⟨⟨t, ev, ht⟩, et⟩ := readT_of rep
        subst ev
        rw [et] at ht
        have hrd := reps_readT reps3
        refine ⟨q, t, vs, readT H3, ns, m, rfl, rfl, q3, ht, fun y hy => ?_, ?_, fun q' y hq' hy => ?_, ?_⟩
        · obtain ⟨ks, _, r⟩ := reps_mem reps3 hy
          exact (readT_of r).1
        · have hml : m < ms.length := (List.getElem?_eq_some_iff.mp hm1).1
          have hvl : vs.length = ms.length := by rw [← hrd, List.length_map]
          refine ⟨vs[m]'(by omega), List.getElem?_eq_getElem (by omega), ?_⟩
          have : (vs.map (readT H3))[m]? = some ns := by rw [hrd]; exact hm1
          rw [List.getElem?_map, List.getElem?_eq_getElem (by omega)] at this
          exact Option.some.inj this
        · refine hm2 q' _ hq' ?_
          rw [← hrd, List.getElem?_map, hy]; rfl
        · have re : Reps C.M.K H3 (Ow Oc fp) (vs.eraseIdx m) ((ms.eraseIdx m).map encT) := by
            have := reps3.erase m
            rw [map_erase]
            exact this
          exact h1 _ _ _ fp h ((s2.mono e3).write2 hS hf eq re)⟩
end
end BK
namespace BK
open PySem PySem.Spec PyProof.Rows L2
def topS (i : Nat) : Stmt := PySem.Challenge.pw_bankshare_k07_fair_looked_at.main.body.getD i (.Pass ⟨0, 0, 0, 0⟩)
abbrev s_length : Stmt := topS 4
theorem sc_length : FnScope ["bank", "stretch"] ["bank"] (defScope s_length) := ⟨rfl, rfl, rfl, by decide +kernel, rfl, by decide +kernel, by decide +kernel⟩
abbrev C_length (M : Mo) : Ctx := ⟨M, ["bank", "stretch"], defScope s_length, true⟩
abbrev s_ground_of : Stmt := topS 5
theorem sc_ground_of : FnScope ["bank", "dry", "stretch"] ["bank"] (defScope s_ground_of) := ⟨rfl, rfl, rfl, by decide +kernel, rfl, by decide +kernel, by decide +kernel⟩
abbrev C_ground_of (M : Mo) : Ctx := ⟨M, ["bank", "dry", "stretch"], defScope s_ground_of, true⟩
abbrev s_end_on : Stmt := topS 6
theorem sc_end_on : FnScope ["bank", "start", "end", "whole"] ["bank", "start", "end"] (defScope s_end_on) := ⟨rfl, rfl, rfl, by decide +kernel, rfl, by decide +kernel, by decide +kernel⟩
abbrev C_end_on (M : Mo) : Ctx := ⟨M, ["bank", "start", "end", "whole"], defScope s_end_on, true⟩
abbrev s_cut_out : Stmt := topS 7
theorem sc_cut_out : FnScope ["bank", "start", "end", "last", "found", "at", "ground", "long", "low", "high"] ["bank", "start", "end"] (defScope s_cut_out) := ⟨rfl, rfl, rfl, by decide +kernel, rfl, by decide +kernel, by decide +kernel⟩
abbrev C_cut_out (M : Mo) : Ctx := ⟨M, ["bank", "start", "end", "last", "found", "at", "ground", "long", "low", "high"], defScope s_cut_out, true⟩
abbrev s_between : Stmt := topS 8
theorem sc_between : FnScope ["bank", "start", "end"] ["bank", "start", "end"] (defScope s_between) := ⟨rfl, rfl, rfl, by decide +kernel, rfl, by decide +kernel, by decide +kernel⟩
abbrev C_between (M : Mo) : Ctx := ⟨M, ["bank", "start", "end"], defScope s_between, true⟩
abbrev s_all_pieces : Stmt := topS 10
theorem sc_all_pieces : FnScope ["shares", "pieces", "share"] ["shares"] (defScope s_all_pieces) := ⟨rfl, rfl, rfl, by decide +kernel, rfl, by decide +kernel, by decide +kernel⟩
abbrev C_all_pieces (M : Mo) : Ctx := ⟨M, ["shares", "pieces", "share"], defScope s_all_pieces, true⟩
abbrev s_cuts : Stmt := topS 11
theorem sc_cuts : FnScope ["bank", "shares", "ends", "found", "low", "high", "place"] ["bank", "shares"] (defScope s_cuts) := ⟨rfl, rfl, rfl, by decide +kernel, rfl, by decide +kernel, by decide +kernel⟩
abbrev C_cuts (M : Mo) : Ctx := ⟨M, ["bank", "shares", "ends", "found", "low", "high", "place"], defScope s_cuts, true⟩
abbrev s_in_order : Stmt := topS 12
theorem sc_in_order : FnScope ["share", "whole", "last", "low", "high"] ["share", "whole"] (defScope s_in_order) := ⟨rfl, rfl, rfl, by decide +kernel, rfl, by decide +kernel, by decide +kernel⟩
abbrev C_in_order (M : Mo) : Ctx := ⟨M, ["share", "whole", "last", "low", "high"], defScope s_in_order, true⟩
abbrev s_end_to_end : Stmt := topS 13
theorem sc_end_to_end : FnScope ["pieces", "whole", "at", "low", "high"] ["pieces", "whole"] (defScope s_end_to_end) := ⟨rfl, rfl, rfl, by decide +kernel, rfl, by decide +kernel, by decide +kernel⟩
abbrev C_end_to_end (M : Mo) : Ctx := ⟨M, ["pieces", "whole", "at", "low", "high"], defScope s_end_to_end, true⟩
abbrev s_ground_had : Stmt := topS 14
theorem sc_ground_had : FnScope ["bank", "share", "dry", "wet", "low", "high", "here"] ["bank", "share"] (defScope s_ground_had) := ⟨rfl, rfl, rfl, by decide +kernel, rfl, by decide +kernel, by decide +kernel⟩
abbrev C_ground_had (M : Mo) : Ctx := ⟨M, ["bank", "share", "dry", "wet", "low", "high", "here"], defScope s_ground_had, true⟩
abbrev s_fair : Stmt := topS 15
theorem sc_fair : FnScope ["bank", "shares", "whole", "share"] ["bank", "shares"] (defScope s_fair) := ⟨rfl, rfl, rfl, by decide +kernel, rfl, by decide +kernel, by decide +kernel⟩
abbrev C_fair (M : Mo) : Ctx := ⟨M, ["bank", "shares", "whole", "share"], defScope s_fair, true⟩
abbrev s_law_cell_at : Stmt := topS 17
theorem sc_law_cell_at : FnScope ["_law_script", "_law_k"] ["_law_script", "_law_k"] (defScope s_law_cell_at) := ⟨rfl, rfl, rfl, by decide +kernel, rfl, by decide +kernel, by decide +kernel⟩
abbrev C_law_cell_at (M : Mo) : Ctx := ⟨M, ["_law_script", "_law_k"], defScope s_law_cell_at, true⟩
abbrev s_law_whole : Stmt := topS 18
theorem sc_law_whole : FnScope ["_law_found"] ["_law_found"] (defScope s_law_whole) := ⟨rfl, rfl, rfl, by decide +kernel, rfl, by decide +kernel, by decide +kernel⟩
abbrev C_law_whole (M : Mo) : Ctx := ⟨M, ["_law_found"], defScope s_law_whole, true⟩
abbrev s_law_long : Stmt := topS 19
theorem sc_law_long : FnScope ["_law_cell", "_law_most"] ["_law_cell"] (defScope s_law_long) := ⟨rfl, rfl, rfl, by decide +kernel, rfl, by decide +kernel, by decide +kernel⟩
abbrev C_law_long (M : Mo) : Ctx := ⟨M, ["_law_cell", "_law_most"], defScope s_law_long, true⟩
abbrev s_law_put : Stmt := topS 20
theorem sc_law_put : FnScope ["_law_rows_here", "_law_ground", "_law_long_here"] ["_law_rows_here", "_law_ground", "_law_long_here"] (defScope s_law_put) := ⟨rfl, rfl, rfl, by decide +kernel, rfl, by decide +kernel, by decide +kernel⟩
abbrev C_law_put (M : Mo) : Ctx := ⟨M, ["_law_rows_here", "_law_ground", "_law_long_here"], defScope s_law_put, true⟩
abbrev s_law_joined : Stmt := topS 21
theorem sc_law_joined : FnScope ["_law_share", "_law_made", "_law_start", "_law_end"] ["_law_share"] (defScope s_law_joined) := ⟨rfl, rfl, rfl, by decide +kernel, rfl, by decide +kernel, by decide +kernel⟩
abbrev C_law_joined (M : Mo) : Ctx := ⟨M, ["_law_share", "_law_made", "_law_start", "_law_end"], defScope s_law_joined, true⟩
abbrev s_law_dealt : Stmt := topS 22
theorem sc_law_dealt : FnScope ["_law_script", "_law_heirs", "_law_bank", "_law_k", "_law_shares", "_law_at", "_law_cell", "_law_dry", "_law_wet", "_law_j", "_law_rows_here", "_law_ground", "_law_long_here", "_law_share"] ["_law_script", "_law_heirs"] (defScope s_law_dealt) := ⟨rfl, rfl, rfl, by decide +kernel, rfl, by decide +kernel, by decide +kernel⟩
abbrev C_law_dealt (M : Mo) : Ctx := ⟨M, ["_law_script", "_law_heirs", "_law_bank", "_law_k", "_law_shares", "_law_at", "_law_cell", "_law_dry", "_law_wet", "_law_j", "_law_rows_here", "_law_ground", "_law_long_here", "_law_share"], defScope s_law_dealt, true⟩
abbrev s_law_moved_edge : Stmt := topS 23
theorem sc_law_moved_edge : FnScope ["_law_shares", "_law_edge", "_law_made", "_law_share", "_law_row", "_law_start", "_law_end"] ["_law_shares", "_law_edge"] (defScope s_law_moved_edge) := ⟨rfl, rfl, rfl, by decide +kernel, rfl, by decide +kernel, by decide +kernel⟩
abbrev C_law_moved_edge (M : Mo) : Ctx := ⟨M, ["_law_shares", "_law_edge", "_law_made", "_law_share", "_law_row", "_law_start", "_law_end"], defScope s_law_moved_edge, true⟩
abbrev s_law_begins_exchanged : Stmt := topS 24
theorem sc_law_begins_exchanged : FnScope ["_law_shares", "_law_at", "_law_other", "_law_cell", "_law_one", "_law_two", "_law_many", "_law_made", "_law_share"] ["_law_shares", "_law_at", "_law_other", "_law_cell"] (defScope s_law_begins_exchanged) := ⟨rfl, rfl, rfl, by decide +kernel, rfl, by decide +kernel, by decide +kernel⟩
abbrev C_law_begins_exchanged (M : Mo) : Ctx := ⟨M, ["_law_shares", "_law_at", "_law_other", "_law_cell", "_law_one", "_law_two", "_law_many", "_law_made", "_law_share"], defScope s_law_begins_exchanged, true⟩
abbrev s_law_with_length : Stmt := topS 25
theorem sc_law_with_length : FnScope ["_law_pieces", "_law_piece"] ["_law_pieces"] (defScope s_law_with_length) := ⟨rfl, rfl, rfl, by decide +kernel, rfl, by decide +kernel, by decide +kernel⟩
abbrev C_law_with_length (M : Mo) : Ctx := ⟨M, ["_law_pieces", "_law_piece"], defScope s_law_with_length, true⟩
abbrev s_law_piece_spoilt : Stmt := topS 26
theorem sc_law_piece_spoilt : FnScope ["_law_piece", "_law_way_here", "_law_cell", "_law_start", "_law_end", "_law_middle"] ["_law_piece", "_law_way_here", "_law_cell"] (defScope s_law_piece_spoilt) := ⟨rfl, rfl, rfl, by decide +kernel, rfl, by decide +kernel, by decide +kernel⟩
abbrev C_law_piece_spoilt (M : Mo) : Ctx := ⟨M, ["_law_piece", "_law_way_here", "_law_cell", "_law_start", "_law_end", "_law_middle"], defScope s_law_piece_spoilt, true⟩
abbrev s_law_given : Stmt := topS 27
theorem sc_law_given : FnScope ["_law_made", "_law_at", "_law_other", "_law_way_here", "_law_k", "_law_piece", "_law_left"] ["_law_made", "_law_at", "_law_other", "_law_way_here", "_law_k"] (defScope s_law_given) := ⟨rfl, rfl, rfl, by decide +kernel, rfl, by decide +kernel, by decide +kernel⟩
abbrev C_law_given (M : Mo) : Ctx := ⟨M, ["_law_made", "_law_at", "_law_other", "_law_way_here", "_law_k", "_law_piece", "_law_left"], defScope s_law_given, true⟩
abbrev s_law_way : Stmt := topS 28
theorem sc_law_way : FnScope ["_law_cell", "_law_some"] ["_law_cell"] (defScope s_law_way) := ⟨rfl, rfl, rfl, by decide +kernel, rfl, by decide +kernel, by decide +kernel⟩
abbrev C_law_way (M : Mo) : Ctx := ⟨M, ["_law_cell", "_law_some"], defScope s_law_way, true⟩
abbrev s_law_spoilt : Stmt := topS 29
theorem sc_law_spoilt : FnScope ["_law_shares", "_law_size", "_law_script", "_law_way_here", "_law_far", "_law_made", "_law_at", "_law_other", "_law_k", "_law_edge", "_law_begin", "_law_turned", "_law_share"] ["_law_shares", "_law_size", "_law_script"] (defScope s_law_spoilt) := ⟨rfl, rfl, rfl, by decide +kernel, rfl, by decide +kernel, by decide +kernel⟩
abbrev C_law_spoilt (M : Mo) : Ctx := ⟨M, ["_law_shares", "_law_size", "_law_script", "_law_way_here", "_law_far", "_law_made", "_law_at", "_law_other", "_law_k", "_law_edge", "_law_begin", "_law_turned", "_law_share"], defScope s_law_spoilt, true⟩
abbrev s_law_rows : Stmt := topS 30
theorem sc_law_rows : FnScope ["_law_shares", "_law_rows_here", "_law_heir", "_law_behind", "_law_start", "_law_end"] ["_law_shares"] (defScope s_law_rows) := ⟨rfl, rfl, rfl, by decide +kernel, rfl, by decide +kernel, by decide +kernel⟩
abbrev C_law_rows (M : Mo) : Ctx := ⟨M, ["_law_shares", "_law_rows_here", "_law_heir", "_law_behind", "_law_start", "_law_end"], defScope s_law_rows, true⟩
abbrev s_law_sums : Stmt := topS 31
theorem sc_law_sums : FnScope ["_law_bank", "_law_rows_here", "_law_many", "_law_sums_here", "_law_at", "_law_left", "_law_start", "_law_end", "_law_heir", "_law_need", "_law_part", "_law_ground", "_law_k"] ["_law_bank", "_law_rows_here", "_law_many"] (defScope s_law_sums) := ⟨rfl, rfl, rfl, by decide +kernel, rfl, by decide +kernel, by decide +kernel⟩
abbrev C_law_sums (M : Mo) : Ctx := ⟨M, ["_law_bank", "_law_rows_here", "_law_many", "_law_sums_here", "_law_at", "_law_left", "_law_start", "_law_end", "_law_heir", "_law_need", "_law_part", "_law_ground", "_law_k"], defScope s_law_sums, true⟩
abbrev s_law_dealt_out : Stmt := topS 32
theorem sc_law_dealt_out : FnScope ["_law_bank", "_law_shares", "_law_rows_here", "_law_behind", "_law_start", "_law_end", "_law_heir", "_law_row"] ["_law_bank", "_law_shares"] (defScope s_law_dealt_out) := ⟨rfl, rfl, rfl, by decide +kernel, rfl, by decide +kernel, by decide +kernel⟩
abbrev C_law_dealt_out (M : Mo) : Ctx := ⟨M, ["_law_bank", "_law_shares", "_law_rows_here", "_law_behind", "_law_start", "_law_end", "_law_heir", "_law_row"], defScope s_law_dealt_out, true⟩
abbrev s_law_fair : Stmt := topS 33
theorem sc_law_fair : FnScope ["_law_bank", "_law_shares", "_law_sums_here", "_law_one"] ["_law_bank", "_law_shares"] (defScope s_law_fair) := ⟨rfl, rfl, rfl, by decide +kernel, rfl, by decide +kernel, by decide +kernel⟩
abbrev C_law_fair (M : Mo) : Ctx := ⟨M, ["_law_bank", "_law_shares", "_law_sums_here", "_law_one"], defScope s_law_fair, true⟩
abbrev s_law_cuts : Stmt := topS 34
theorem sc_law_cuts : FnScope ["_law_bank", "_law_shares", "_law_size", "_law_places", "_law_share", "_law_start", "_law_end", "_law_row", "_law_at"] ["_law_bank", "_law_shares"] (defScope s_law_cuts) := ⟨rfl, rfl, rfl, by decide +kernel, rfl, by decide +kernel, by decide +kernel⟩
abbrev C_law_cuts (M : Mo) : Ctx := ⟨M, ["_law_bank", "_law_shares", "_law_size", "_law_places", "_law_share", "_law_start", "_law_end", "_law_row", "_law_at"], defScope s_law_cuts, true⟩
abbrev s_law_cuts_fit : Stmt := topS 35
theorem sc_law_cuts_fit : FnScope ["_law_bank", "_law_shares", "_law_handed", "_law_found", "_law_at", "_law_share"] ["_law_bank", "_law_shares"] (defScope s_law_cuts_fit) := ⟨rfl, rfl, rfl, by decide +kernel, rfl, by decide +kernel, by decide +kernel⟩
abbrev C_law_cuts_fit (M : Mo) : Ctx := ⟨M, ["_law_bank", "_law_shares", "_law_handed", "_law_found", "_law_at", "_law_share"], defScope s_law_cuts_fit, true⟩
abbrev s_law : Stmt := topS 36
theorem sc_law : FnScope ["_law_script", "_law_heirs", "_law_bank", "_law_good", "_law_shares", "_law_due", "_law_handed", "_law_found", "_law_again", "_law_row", "_law_share"] ["_law_script"] (defScope s_law) := ⟨rfl, rfl, rfl, by decide +kernel, rfl, by decide +kernel, by decide +kernel⟩
abbrev C_law (M : Mo) : Ctx := ⟨M, ["_law_script", "_law_heirs", "_law_bank", "_law_good", "_law_shares", "_law_due", "_law_handed", "_law_found", "_law_again", "_law_row", "_law_share"], defScope s_law, true⟩
end BK
namespace BK
open PySem PySem.Spec PyProof.Rows L2
/-! ## by rote -/
local macro_rules | `(tactic| walk_at "fl") => `(tactic| first | exact Flat.int _ | exact Flat.str _ | exact Flat.bl _ | exact Flat.non | exact Flat.ktup | exact Flat.exc | exact flat_nil | (refine' flat_tup ?ha; (case ha => walk_at "fl")) | (refine' flat_cons ?ha ?hb; (case ha => walk_at "fl"); (case hb => walk_at "fl")) | (refine' flat_map (fun _ => ?ha); (case ha => walk_at "fl")) | (refine' flat_app ?ha ?hb; (case ha => walk_at "fl"); (case hb => walk_at "fl")) | (refine' flat_set ?ha ?hb; (case ha => walk_at "fl"); (case hb => walk_at "fl")) | (refine' flat_cut ?ha; (case ha => walk_at "fl")) | assumption | trivial)
local macro_rules | `(tactic| walk_at "lf") => `(tactic| first | exact Or.inl rfl | (refine' Or.inr ?_; walk_at "fl"))
local macro_rules | `(tactic| walk_at "sz") => `(tactic| first | decide | assumption | omega | (simp only [List.length_map, List.length_append, List.length_cons, List.length_nil, List.length_set]; omega))
local macro_rules | `(tactic| walk_at "ix") => `(tactic| first | rfl | assumption)
local macro_rules | `(tactic| walk_at "nz") => `(tactic| first | decide | omega)
local macro_rules | `(tactic| walk_at "call") => `(tactic| assumption)
local macro_rules | `(tactic| walk_at "e") => `(tactic| first
  | exact de_int | exact de_str | exact de_bl | exact de_non | exact de_nil | exact de_dic0
  | exact de_name rfl rfl rfl
  | (refine' de_add ?ha ?hb; (case ha => walk_at "e"); (case hb => walk_at "e")) | (refine' de_sub ?ha ?hb; (case ha => walk_at "e"); (case hb => walk_at "e"))
  | (refine' de_fnR (lv := false) ?hc ?hg ?ha ?hF ?hf ?he ?hp; (case hc => with_reducible assumption); (case hg => rfl); (case he => (intro _; rfl)); (case hp => (intro _; rfl)); (case ha => walk_at "a"); (case hF => walk_at "call"); (case hf => walk_at "lf"))
  | (refine' de_fnR (lv := true) ?hc ?hg ?ha ?hF ?hf ?he ?hp; (case hc => with_reducible assumption); (case hg => rfl); (case he => (intro _; rfl)); (case hp => (intro _; rfl)); (case ha => walk_at "a"); (case hF => walk_at "call"); (case hf => walk_at "lf"))
  | (refine' de_max (glB_gl ?hg).1 ?hm ?ha ?hb ?h1 ?h2 ?h3; (case hg => rfl); (case hm => with_reducible assumption); (case h1 => (intro _; rfl)); (case h2 => (intro _; rfl)); (case h3 => (intro _; rfl)); (case ha => walk_at "e"); (case hb => walk_at "e"))
  | (refine' de_min (glB_gl ?hg).1 ?hm ?ha ?hb ?h1 ?h2 ?h3; (case hg => rfl); (case hm => with_reducible assumption); (case h1 => (intro _; rfl)); (case h2 => (intro _; rfl)); (case h3 => (intro _; rfl)); (case ha => walk_at "e"); (case hb => walk_at "e"))
  | (refine' de_abs (glB_gl ?hg).1 ?hm ?ha ?h1; (case hg => rfl); (case hm => with_reducible assumption); (case h1 => (intro _; rfl)); (case ha => walk_at "e"))
  | (refine' de_len (glB_gl ?hg).1 ?hm ?ha ?h1; (case hg => rfl); (case hm => with_reducible assumption); (case h1 => (intro _; rfl)); (case ha => walk_at "l"))
  | (refine' de_lenScr (glB_gl ?hg).1 ?hm ?ha ?h1; (case hg => rfl); (case hm => with_reducible assumption); (case h1 => (intro _; rfl)); (case ha => walk_at "l"))
  | (refine' de_lenT (glB_gl ?hg).1 ?hm ?ha ?h1; (case hg => rfl); (case hm => with_reducible assumption); (case h1 => (intro _; rfl)); (case ha => walk_at "l"))
  | (refine' de_ixScr ?ha ?hb ?hk (fun _ _ => rfl); (case ha => walk_at "l"); (case hb => walk_at "e"); (case hk => walk_at "ix"))
  | (refine' de_list (lv := true) (glB_gl ?hg).1 ?hm ?ha (Or.inl rfl) ?h1; (case hg => rfl); (case hm => with_reducible assumption); (case h1 => (intro _; rfl)); (case ha => walk_at "l"))
  | (refine' de_list (lv := false) (glB_gl ?hg).1 ?hm ?ha ?hf ?h1; (case hg => rfl); (case hm => with_reducible assumption); (case h1 => (intro _; rfl)); (case ha => walk_at "l"); (case hf => walk_at "lf"))
  | (refine' de_mul ?ha ?hb ?hc; (case ha => walk_at "e"); (case hb => walk_at "e"); (case hc => walk_at "mu")) | (refine' de_pow ?ha ?hb ?hc; (case ha => walk_at "e"); (case hb => walk_at "e"); (case hc => walk_at "nz"))
  | (refine' de_slScr ?ha ?hl ?hh; (case ha => walk_at "l"); (case hl => walk_at "o"); (case hh => walk_at "o"))
  | (refine' de_slL (lv := true) ?ha ?hl ?hh (Or.inl rfl); (case ha => walk_at "l"); (case hl => walk_at "o"); (case hh => walk_at "o"))
  | (refine' de_slL (lv := false) ?ha ?hl ?hh ?hf; (case ha => walk_at "l"); (case hl => walk_at "o"); (case hh => walk_at "o"); (case hf => walk_at "lf"))
  | (refine' de_intB (glB_gl ?hg).1 ?hm ?ha ?h1; (case hg => rfl); (case hm => with_reducible assumption); (case h1 => (intro _; rfl)); (case ha => walk_at "e"))
  | (refine' de_one ?ha; (case ha => walk_at "e"))
  | (refine' de_and ?ha (fun _ => ?hr); (case ha => walk_at "e"); (case hr => walk_at "e")) | (refine' de_or ?ha (fun _ => ?hr); (case ha => walk_at "e"); (case hr => walk_at "e"))
  | (refine' de_lt ?ha ?hb; (case ha => walk_at "e"); (case hb => walk_at "e")) | (refine' de_le ?ha ?hb; (case ha => walk_at "e"); (case hb => walk_at "e")) | (refine' de_gt ?ha ?hb; (case ha => walk_at "e"); (case hb => walk_at "e")) | (refine' de_ge ?ha ?hb; (case ha => walk_at "e"); (case hb => walk_at "e"))
  | (refine' de_eqI ?ha ?hb; (case ha => walk_at "e"); (case hb => walk_at "e")) | (refine' de_neI ?ha ?hb; (case ha => walk_at "e"); (case hb => walk_at "e")) | (refine' de_eqS ?ha ?hb; (case ha => walk_at "e"); (case hb => walk_at "e")) | (refine' de_neS ?ha ?hb; (case ha => walk_at "e"); (case hb => walk_at "e"))
  | (refine' de_isN ?ha; (case ha => walk_at "l")) | (refine' de_notN ?ha; (case ha => walk_at "l"))
  | (refine' de_not ?ha; (case ha => walk_at "e"))
  | (refine' de_neg ?ha; (case ha => walk_at "e"))
  | (refine' de_mod ?ha ?hb ?hc; (case ha => walk_at "e"); (case hb => walk_at "e"); (case hc => walk_at "nz")) | (refine' de_fdiv ?ha ?hb ?hc; (case ha => walk_at "e"); (case hb => walk_at "e"); (case hc => walk_at "nz"))
  | (refine' de_tup (lv := true) ?ha (Or.inl rfl) ?hz; (case ha => walk_at "a"); (case hz => walk_at "sz"))
  | (refine' de_tup (lv := false) ?ha ?hf ?hz; (case ha => walk_at "a"); (case hf => walk_at "lf"); (case hz => walk_at "sz"))
  | (refine' de_lst (lv := true) ?ha (Or.inl rfl) ?hz; (case ha => walk_at "a"); (case hz => walk_at "sz"))
  | (refine' de_of (lv := true) ?ha (Or.inl rfl); (case ha => walk_at "x")) | (refine' de_of (lv := false) ?ha ?hf; (case ha => walk_at "x"); (case hf => walk_at "lf"))
  | (refine' de_isi (glB_gl ?hg).1 ?hm (glB_gl ?hg2).1 ?hm2 ?hv ?hn ?hd ?ha ?he ?hk ?h1; (case hg => rfl); (case hm => with_reducible assumption); (case hg2 => rfl); (case hm2 => with_reducible assumption); (case hv => with_reducible assumption); (case hn => decide); (case hd => decide); (case h1 => (intro _; rfl)); (case ha => walk_at "l"); (case he => rfl); (case hk => (first | rfl | decide +kernel))))
local macro_rules | `(tactic| walk_at "x") => `(tactic| first
  | (refine' dl_ixT ?ha ?hb ?hk (fun _ _ => rfl); (case ha => walk_at "l"); (case hb => walk_at "e"); (case hk => walk_at "ix"))
  | (refine' dl_ixL ?ha ?hb ?hk (fun _ _ => rfl); (case ha => walk_at "l"); (case hb => walk_at "e"); (case hk => walk_at "ix")))
local macro_rules | `(tactic| walk_at "l") => `(tactic| first | walk_at "x" | (refine' dl_of ?h ?ed; (case h => walk_at "e"); (case ed => rfl)))
local macro_rules | `(tactic| walk_at "a") => `(tactic| first | exact da_nil | (refine' da_cons ?ha ?hr ?hs; (case hs => (intro _; rfl)); (case ha => walk_at "l"); (case hr => walk_at "a")))
local macro_rules | `(tactic| walk_at "t") => `(tactic| first
  | (refine' dt_lt ?ha ?hb; (case ha => walk_at "e"); (case hb => walk_at "e")) | (refine' dt_le ?ha ?hb; (case ha => walk_at "e"); (case hb => walk_at "e")) | (refine' dt_gt ?ha ?hb; (case ha => walk_at "e"); (case hb => walk_at "e")) | (refine' dt_ge ?ha ?hb; (case ha => walk_at "e"); (case hb => walk_at "e"))
  | (refine' dt_eqI ?ha ?hb; (case ha => walk_at "e"); (case hb => walk_at "e")) | (refine' dt_neI ?ha ?hb; (case ha => walk_at "e"); (case hb => walk_at "e")) | (refine' dt_eqS ?ha ?hb; (case ha => walk_at "e"); (case hb => walk_at "e")) | (refine' dt_neS ?ha ?hb; (case ha => walk_at "e"); (case hb => walk_at "e"))
  | (refine' dt_isN ?ha; (case ha => walk_at "l")) | (refine' dt_notN ?ha; (case ha => walk_at "l"))
  | (refine' dt_not ?ha; (case ha => walk_at "t"))
  | (refine' dt_w ?ha; (case ha => walk_at "w"))
  | (refine' dt_val ?ha; (case ha => walk_at "e")))
local macro_rules | `(tactic| walk_at "w") => `(tactic| first
  | (refine' dw_and1 ?ha; (case ha => walk_at "t")) | (refine' dw_or1 ?ha; (case ha => walk_at "t"))
  | (refine' dw_and ?h1 (fun _ => ?h2); (case h1 => walk_at "t"); (case h2 => walk_at "w")) | (refine' dw_or ?h1 (fun _ => ?h2); (case h1 => walk_at "t"); (case h2 => walk_at "w")))
local macro_rules | `(tactic| walk_at "let") => `(tactic| (refine' dss_cons (ds_let ?h ?hi ?hx ?hj ?hn ?hs); (case h => walk_at "e"); (case hi => rfl); (case hx => rfl); (case hj => exact of_decide_eq_true rfl); (case hs => (intro _; rfl))))
local macro_rules | `(tactic| walk_at "ret") => `(tactic| (refine' dss_one (ds_ret ?h ?hp); (case h => walk_at "e")))
local macro_rules | `(tactic| walk_at "app") => `(tactic| (refine' ds_app ?he ?hi ?hS ?hv ?hz ?hn ?hs ?hw ?hl ?hq; (case he => walk_at "l"); (case hi => rfl); (case hS => rfl); (case hv => rfl); (case hs => (intro _; rfl)); (case hw => (intro _; rfl)); (case hl => rfl); (case hq => (intro _; rfl)); (case hz => walk_at "sz")))
local macro_rules | `(tactic| walk_at "mu") => `(tactic| first | exact Or.inl (by decide) | exact Or.inr (by decide))
local macro_rules | `(tactic| walk_at "o") => `(tactic| first | exact do_none | (refine' do_some ?ha; (case ha => walk_at "e")))
local macro_rules | `(tactic| walk_at "asgT") => `(tactic| (refine' dss_cons (ds_asgT ?he ?hg ?hs ?hw ?h1); (case he => walk_at "l"); (case hs => (intro _; rfl)); (case hw => (intro _; rfl)); (case h1 => (intro _; rfl))))
local macro_rules | `(tactic| walk_at "g2") => `(tactic| (refine' dg_nm2 ?hi ?hj ?hx ?hy ?li ?lj ?hn; (case hi => rfl); (case hj => rfl); (case hx => rfl); (case hy => rfl); (case li => exact of_decide_eq_true rfl); (case lj => exact of_decide_eq_true rfl)))
local macro_rules | `(tactic| walk_at "g1") => `(tactic| (refine' dg_nm ?hi ?hx ?li ?hn; (case hi => rfl); (case hx => rfl); (case li => exact of_decide_eq_true rfl)))
local macro_rules | `(tactic| walk_at "e") => `(tactic| first
  | (refine' de_catS ?ha ?hb ?hz; (case ha => walk_at "e"); (case hb => walk_at "e"); (case hz => walk_at "sz"))
  | (refine' de_strI (glB_gl ?hg).1 ?hm ?ha ?hl ?h1; (case hg => rfl); (case hm => with_reducible assumption); (case h1 => (intro _; rfl)); (case ha => walk_at "e"); (case hl => walk_at "nz"))
  | (refine' de_lenS (glB_gl ?hg).1 ?hm ?ha ?hz ?h1; (case hg => rfl); (case hm => with_reducible assumption); (case h1 => (intro _; rfl)); (case ha => walk_at "e"); (case hz => walk_at "sz"))
  | (refine' de_ixS ?ha ?hb ?hz ?hk (fun _ _ => rfl); (case ha => walk_at "e"); (case hb => walk_at "e"); (case hz => walk_at "sz"); (case hk => walk_at "ix"))
  | (refine' de_split ?ha ?hb ?hy ?hz ?h1 ?h2 ?h3; (case ha => walk_at "e"); (case hb => walk_at "e"); (case hy => decide +kernel); (case hz => omega); (case h1 => (intro _; rfl)); (case h2 => (intro _; rfl)); (case h3 => rfl)))
/-! ## the program's defs as plain functions -/
abbrev Row := Str × Int
abbrev encRow (r : Row) : D := .tup [.str r.1, .int r.2]
abbrev encB (b : List Row) : D := .lst (b.map encRow)
abbrev encO : Option Int → D
  | none => .non
  | some i => .int i
abbrev ok (d : D) : Out := .ok (.val d)
def lenB (b : List Row) : Int := (b.map (·.2)).sum
def dryB (b : List Row) : Int := ((b.filter fun r => decide (r.1 = ("dry" : Str))).map (·.2)).sum
def lastOf (b : List Row) (e : Option Int) : Int := e.getD (lenB b)
def offB (b : List Row) (s : Int) (e : Option Int) : Bool := decide (s < 0) || (decide (lastOf b e < s) || decide (lenB b < lastOf b e))
def cutAt (s l : Int) : Int → List Row → List Row
  | _, [] => []
  | a, r :: b => (if max s a < min l (a + r.2) then [(r.1, min l (a + r.2) - max s a)] else []) ++ cutAt s l (a + r.2) b
def cutB (b : List Row) (s l : Int) : List Row := cutAt s l 0 b
theorem lenB_app (a b : List Row) : lenB (a ++ b) = lenB a + lenB b := by unfold lenB; rw [List.map_append, List.sum_append]
theorem lenB_cons (r : Row) (b : List Row) : lenB (r :: b) = r.2 + lenB b := by unfold lenB; rw [List.map_cons, List.sum_cons]
theorem cutAt_app (s l : Int) : ∀ (x : Int) (a b : List Row), cutAt s l x (a ++ b) = cutAt s l x a ++ cutAt s l (x + lenB a) b
  | x, [], b => by
    show cutAt s l x b = cutAt s l (x + 0) b
    rw [Int.add_zero]
  | x, r :: a, b => by
    show _ ++ cutAt s l (x + r.2) (a ++ b) = _
    rw [cutAt_app s l (x + r.2) a b, lenB_cons, ← List.append_assoc, Int.add_assoc]; rfl
theorem cutAt_len (s l : Int) : ∀ (x : Int) (a : List Row), (cutAt s l x a).length ≤ a.length
  | _, [] => Nat.le_refl _
  | x, r :: a => by
    have q := cutAt_len s l (x + r.2) a
    show (_ ++ cutAt s l (x + r.2) a).length ≤ a.length + 1
    rw [List.length_append]
    split <;> simp <;> omega
theorem take_snoc {α : Type} {l : List α} {i : Nat} {x : α} (h : l[i]? = some x) : l.take (i + 1) = l.take i ++ [x] := by
  rw [List.take_add_one, h]; rfl
theorem map_get {α β : Type} {f : α → β} {l : List α} {i : Nat} {y : β} (h : (l.map f)[i]? = some y) : ∃ x, l[i]? = some x ∧ y = f x := by
  rw [List.getElem?_map] at h
  cases e : l[i]? with
  | none => rw [e] at h; cases h
  | some x => rw [e] at h; cases h; exact ⟨x, rfl, rfl⟩
def F_length (ds : List D) (o : Out) : Prop := ∃ b : List Row, ds = [encB b] ∧ b.length ≤ 100000 ∧ o = ok (.int (lenB b))
def F_ground_of (ds : List D) (o : Out) : Prop := ∃ b : List Row, ds = [encB b] ∧ b.length ≤ 100000 ∧ o = ok (.tup [.int (dryB b), .int (lenB b - dryB b)])
def F_end_on (AO : Addr) (ds : List D) (o : Out) : Prop := ∃ (b : List Row) (s : Int) (e : Option Int), ds = [encB b, .int s, encO e] ∧ b.length ≤ 100000 ∧ o = if offB b s e = true then .error ⟨AO, none⟩ else ok (.int (lastOf b e))
def F_cut_out (AO : Addr) (ds : List D) (o : Out) : Prop := ∃ (b : List Row) (s : Int) (e : Option Int), ds = [encB b, .int s, encO e] ∧ b.length ≤ 100000 ∧ o = if offB b s e = true then .error ⟨AO, none⟩ else .ok (.own ((cutB b s (lastOf b e)).map encRow))
def grB (b : List Row) : D := .tup [.int (dryB b), .int (lenB b - dryB b)]
def F_between (AO : Addr) (ds : List D) (o : Out) : Prop := ∃ (b : List Row) (s : Int) (e : Option Int), ds = [encB b, .int s, encO e] ∧ b.length ≤ 100000 ∧ o = if offB b s e = true then .error ⟨AO, none⟩ else ok (grB (cutB b s (lastOf b e)))
/-- the built-ins that nobody has taken -/
structure Nn (M : Mo) : Prop where
  sum : M.mg "sum" = none
  max : M.mg "max" = none
  min : M.mg "min" = none
  len : M.mg "len" = none
  isinstance : M.mg "isinstance" = none
  int : M.mg "int" = none
  bool : M.mg "bool" = none
  tuple : M.mg "tuple" = none
  list : M.mg "list" = none
  range : M.mg "range" = none
section
variable {M : Mo} {f : Addr} {fd : FuncData}
theorem ok_length (T : Nn M) (F : Fun M.K "length" "length" s_length f fd) : FnOk M.P M.w M.K M.mg M.base (L2.CX M.P M.w) (M.k + 1) f fd ["bank"] (spOf M.K F_length) := by
  obtain ⟨n_sum, _⟩ := T
  refine fn_data F sc_length (fun ds o ⟨b, h, _⟩ => by rw [h]; rfl) (fun ds o ⟨b, h1, hl, h2⟩ => ?_)
  subst h1 h2
  refine' dss_one (ds_ret (de_sum (ns := b.map (·.2)) (glB_gl rfl).1 n_sum ?_) ?_)
  · refine' dl_rd (de_map (lv := true) [("stretch", 1)] b encRow (fun r => .int r.2) rfl (dit_list ?_) rfl (by omega) (.inl rfl) ?_) ?_
    · walk_at "l"
    · intro r _
      exact ⟨_, _, dgc_nm rfl rfl rfl, by walk_at "e", rfl⟩
    · rw [List.map_map]; rfl
  · rfl
theorem ok_ground_of (T : Nn M) (c1 : Cal M "length" F_length) (F : Fun M.K "ground_of" "ground_of" s_ground_of f fd) : FnOk M.P M.w M.K M.mg M.base (L2.CX M.P M.w) (M.k + 1) f fd ["bank"] (spOf M.K F_ground_of) := by
  obtain ⟨n_sum, _⟩ := T
  refine fn_data F sc_ground_of (fun ds o ⟨b, h, _⟩ => by rw [h]; rfl) (fun ds o ⟨b, h1, hl, h2⟩ => ?_)
  subst h1 h2
  refine' dss_cons (ds_let (de_sum (ns := (b.filter fun r => decide (r.1 = ("dry" : Str))).map (·.2)) (glB_gl rfl).1 n_sum ?_) rfl rfl (of_decide_eq_true rfl) ?_)
  · refine' dl_rd (de_filter (lv := true) [("stretch", 2)] b encRow (fun r => .int r.2) (fun r => decide (r.1 = ("dry" : Str))) rfl (dit_list ?_) rfl (by omega) (.inl rfl) ?_) ?_
    · walk_at "l"
    · intro r _
      exact ⟨_, _, dgc_nm rfl rfl rfl, by walk_at "t", by walk_at "e", rfl⟩
    · rw [List.map_map]; rfl
  · have hc : F_length [encB b] (ok (.int (lenB b))) := ⟨b, rfl, hl, rfl⟩
    walk_at "ret"
    rfl
theorem ok_end_on {AO : Addr} (c1 : Cal M "length" F_length) (x1 : Exc0 M "OffBank" AO) (F : Fun M.K "end_on" "end_on" s_end_on f fd) : FnOk M.P M.w M.K M.mg M.base (L2.CX M.P M.w) (M.k + 1) f fd ["bank", "start", "end"] (spOf M.K (F_end_on AO)) := by
  refine fn_data F sc_end_on (fun ds o ⟨b, s, e, h, _⟩ => by rw [h]; rfl) (fun ds o ⟨b, s, e, h1, hl, h2⟩ => ?_)
  subst h1 h2
  have hc : F_length [encB b] (ok (.int (lenB b))) := ⟨b, rfl, hl, rfl⟩
  walk_at "let"
  refine' dss_cons (ds_if (x := e.isNone) ?_ (fun he => ?_) (fun he => ?_))
  · have : e.isNone = (encO e).isNon := by cases e <;> rfl
    rw [this]
    walk_at "t"
  · cases e with
    | some _ => cases he
    | none =>
      walk_at "let"
      refine' dss_nil ?_
      refine' dss_cons (ds_if (x := offB b s none) ?_ (fun hx => dss_one (ds_raise0 x1 rfl ?_)) (fun hx => dss_nil ?_))
      · unfold offB; walk_at "t"
      · rw [if_pos hx]; rfl
      · walk_at "ret"
        rw [if_neg (by rw [hx]; exact Bool.false_ne_true)]; rfl
  · cases e with
    | none => cases he
    | some l =>
      refine' dss_nil ?_
      refine' dss_cons (ds_if (x := offB b s (some l)) ?_ (fun hx => dss_one (ds_raise0 x1 rfl ?_)) (fun hx => dss_nil ?_))
      · unfold offB; walk_at "t"
      · rw [if_pos hx]; rfl
      · walk_at "ret"
        rw [if_neg (by rw [hx]; exact Bool.false_ne_true)]; rfl
theorem ok_cut_out {AO : Addr} (T : Nn M) (c1 : Cal M "end_on" (F_end_on AO)) (F : FunD M.K "cut_out" "cut_out" (defArgs s_cut_out) (defBody s_cut_out) (defScope s_cut_out) [.int 0, .non] [] f fd) : FnOk M.P M.w M.K M.mg M.base (L2.CX M.P M.w) (M.k + 1) f fd ["bank", "start", "end"] (spOf M.K (F_cut_out AO)) := by
  obtain ⟨n_sum, n_max, n_min, _⟩ := T
  refine fn_dataD F sc_cut_out (fun ds o ⟨b, s, e, h, _⟩ => by rw [h]; rfl) (fun ds o ⟨b, s, e, h1, hl, h2⟩ => ?_)
  subst h1 h2
  have hc : F_end_on AO [encB b, .int s, encO e] (if offB b s e = true then .error ⟨AO, none⟩ else ok (.int (lastOf b e))) := ⟨b, s, e, rfl, hl, rfl⟩
  by_cases hx : offB b s e = true
  · rw [if_pos hx] at hc ⊢
    refine' dss_cons (ds_letO (o := .error ⟨AO, none⟩) ?h rfl rfl (of_decide_eq_true rfl) (fun r er => nomatch er) ?hx (fun _ => rfl))
    case hx => intro x ex; cases ex; rfl
    case h => walk_at "e"
  · rw [if_neg hx] at hc ⊢
    walk_at "let"
    walk_at "let"
    walk_at "let"
    refine' dss_cons (ds_for' (items := b.map encRow) (fun i S' => ∃ g n lo hi, S' = [.val (encB b), .val (.int s), .val (encO e), .val (.int (lastOf b e)), .own ((cutAt s (lastOf b e) 0 (b.take i)).map encRow), .val (.int (lenB (b.take i))), g, n, lo, hi]) rfl (dit_list ?_) ?_ (fun i d S' hd hI => ?_) (fun S' hI => ?_) (fun _ _ => rfl))
    · walk_at "l"
    · exact ⟨_, _, _, _, rfl⟩
    · obtain ⟨g, n, lo, hi, rfl⟩ := hI
      obtain ⟨r, hr, rfl⟩ := map_get hd
      refine' dg_nm2 rfl rfl rfl rfl (of_decide_eq_true rfl) (of_decide_eq_true rfl) ?_
      have e1 := take_snoc hr
      have e2 : lenB (b.take (i + 1)) = lenB (b.take i) + r.2 := by rw [e1, lenB_app, lenB_cons]; show _ + (r.2 + 0) = _; rw [Int.add_zero]
      have hz : ((cutAt s (lastOf b e) 0 (b.take i)).map encRow).length ≤ 1000000 := by
        rw [List.length_map]
        have := cutAt_len s (lastOf b e) 0 (b.take i)
        rw [List.length_take] at this; omega
      have e3 : cutAt s (lastOf b e) 0 (b.take (i + 1)) = cutAt s (lastOf b e) 0 (b.take i) ++ (if max s (lenB (b.take i)) < min (lastOf b e) (lenB (b.take i) + r.2) then [(r.1, min (lastOf b e) (lenB (b.take i) + r.2) - max s (lenB (b.take i)))] else []) := by
        rw [e1, cutAt_app, Int.zero_add]; congr 1; exact List.append_nil _
      walk_at "let"
      walk_at "let"
      refine' dss_cons (ds_if (x := decide (max s (lenB (b.take i)) < min (lastOf b e) (lenB (b.take i) + r.2))) ?_ (fun hx => dss_one ?_) (fun hx => dss_nil ?_))
      · walk_at "t"
      · rw [if_pos (of_decide_eq_true hx)] at e3
        walk_at "app"
        walk_at "let"
        refine' dss_nil ?_
        dsimp only
        rw [e2, e3, List.map_append]
        exact ⟨_, _, _, _, rfl⟩
      · rw [if_neg (of_decide_eq_false hx), List.append_nil] at e3
        walk_at "let"
        refine' dss_nil ?_
        dsimp only
        rw [e2, e3]
        exact ⟨_, _, _, _, rfl⟩
    · obtain ⟨g, n, lo, hi, rfl⟩ := hI
      rw [List.length_map, List.take_length]
      exact dss_one (ds_retO1 rfl rfl rfl rfl)
theorem ok_between {AO : Addr} (c1 : Cal M "cut_out" (F_cut_out AO)) (c2 : Cal M "ground_of" F_ground_of) (F : FunD M.K "between" "between" (defArgs s_between) (defBody s_between) (defScope s_between) [.int 0, .non] [] f fd) : FnOk M.P M.w M.K M.mg M.base (L2.CX M.P M.w) (M.k + 1) f fd ["bank", "start", "end"] (spOf M.K (F_between AO)) := by
  refine fn_dataD F sc_between (fun ds o ⟨b, s, e, h, _⟩ => by rw [h]; rfl) (fun ds o ⟨b, s, e, h1, hl, h2⟩ => ?_)
  subst h1 h2
  have hc : F_cut_out AO [encB b, .int s, encO e] (if offB b s e = true then .error ⟨AO, none⟩ else .ok (.own ((cutB b s (lastOf b e)).map encRow))) := ⟨b, s, e, rfl, hl, rfl⟩
  by_cases hx : offB b s e = true
  · rw [if_pos hx] at hc ⊢
    refine' dss_one (ds_retO (o := .error ⟨AO, none⟩) ?h (fun r er => nomatch er) ?hx)
    case hx => intro x ex; cases ex; rfl
    case h =>
      refine' de_fnE ?hc ?hg ?ha ?he
      case hc => with_reducible assumption
      case hg => rfl
      case he => intro _; rfl
      case ha => walk_at "e"
  · rw [if_neg hx] at hc ⊢
    have hg : F_ground_of [encB (cutB b s (lastOf b e))] (ok (grB (cutB b s (lastOf b e)))) := ⟨_, rfl, Nat.le_trans (cutAt_len _ _ _ _) hl, rfl⟩
    walk_at "ret"
    rfl
end
/-! ## the law's helpers -/
def cellM (ns : List Int) (k : Int) : Int := ns.getD k.toNat 0
def F_cell (ds : List D) (o : Out) : Prop := ∃ (ns : List Int) (k : Int), ds = [.scr ns, .int k] ∧ 0 ≤ k ∧ ns.length ≤ 1000 ∧ o = ok (.int (cellM ns k))
theorem atI_nat' {α : Type} {xs : List α} {k : Int} {x : α} (h0 : 0 ≤ k) (h : xs[k.toNat]? = some x) : atI xs k = some x := by
  have hlt := (List.getElem?_eq_some_iff.mp h).1
  unfold atI ixN
  rw [if_pos h0, if_pos (by omega)]
  exact h
def F_whole (ds : List D) (o : Out) : Prop := ∃ (i : Int), ds = [.int i] ∧ o = ok (.bl true)
def gr (k : Int) : Str := if k % 2 = 0 then "dry" else "wet"
def bnd (c : Int) : Int := if c % 4 = 0 then 3 else if c % 4 = 1 then 12 else if c % 4 = 2 then 10 ^ (18 : Int).toNat else 10 ^ (59 : Int).toNat
theorem bnd_pos (c : Int) : 0 < bnd c := by unfold bnd; split; decide; split; decide; split <;> decide +kernel
theorem atI_gr (k : Int) : atI [D.str "dry", D.str "wet"] (k % 2) = some (.str (gr k)) := by
  have h : k % 2 = 0 ∨ k % 2 = 1 := by omega
  unfold gr
  rcases h with h | h
  · rw [h]; rfl
  · rw [h]; rfl
theorem atI_bnd (c : Int) : atI [D.int 3, D.int 12, D.int (10 ^ (18 : Int).toNat), D.int (10 ^ (59 : Int).toNat)] (c % 4) = some (.int (bnd c)) := by
  have h : c % 4 = 0 ∨ c % 4 = 1 ∨ c % 4 = 2 ∨ c % 4 = 3 := by omega
  unfold bnd
  rcases h with h | h | h | h <;> rw [h] <;> rfl
def rowM (ns : List Int) (i : Nat) : Row := (gr ((i : Int) + cellM ns 1), 1 + (cutG ns (some 2) (some 62)).getD (3 * i) 0 % bnd (cellM ns 0))
def bankN (ns : List Int) : Nat := ((((cutG ns (some 2) (some 62)).length : Nat) + 2 : Int) / 3).toNat
def bankM (ns : List Int) : List Row := (List.range (bankN ns)).map (rowM ns)
def F_bank (ds : List D) (o : Out) : Prop := ∃ (ns : List Int), ds = [.scr ns] ∧ ns.length ≤ 1000 ∧ o = .ok (.own ((bankM ns).map encRow))
theorem bankN_le (ns : List Int) (h : ns.length ≤ 1000) : bankN ns ≤ 400 := by
  have := cutG_len ns (some 2) (some 62)
  unfold bankN; omega
section
variable {M : Mo} {f : Addr} {fd : FuncData}
theorem ok_law_cell_at (T : Nn M) (F : Fun M.K "_law_cell_at" "_law_cell_at" s_law_cell_at f fd) : FnOk M.P M.w M.K M.mg M.base (L2.CX M.P M.w) (M.k + 1) f fd ["_law_script", "_law_k"] (spOf M.K F_cell) := by
  obtain ⟨_, _, _, n_len, _⟩ := T
  refine fn_data F sc_law_cell_at (fun ds o ⟨ns, k, h, _⟩ => by rw [h]; rfl) (fun ds o ⟨ns, k, h1, hk, hl, h2⟩ => ?_)
  subst h1 h2
  refine' dss_cons (ds_if (x := decide (k < (ns.length : Nat))) ?_ (fun hx => dss_one (ds_ret (r := .val (.int (cellM ns k))) ?_ rfl)) (fun hx => dss_nil ?_))
  · walk_at "t"
  · have hlt := of_decide_eq_true hx
    have hi : atI ns k = some (cellM ns k) := by
      refine atI_nat' hk ?_
      unfold cellM
      rw [List.getD_eq_getElem?_getD, List.getElem?_eq_getElem (by omega)]; rfl
    walk_at "e"
  · have hlt := of_decide_eq_false hx
    have e : cellM ns k = 0 := by
      unfold cellM
      rw [List.getD_eq_getElem?_getD, List.getElem?_eq_none (by omega)]; rfl
    rw [e]
    walk_at "ret"
    rfl
theorem ok_law_whole (T : Nn M) (F : Fun M.K "_law_whole" "_law_whole" s_law_whole f fd) : FnOk M.P M.w M.K M.mg M.base (L2.CX M.P M.w) (M.k + 1) f fd ["_law_found"] (spOf M.K F_whole) := by
  obtain ⟨_, _, _, _, n_isi, n_int, n_bool, _⟩ := T
  have b1 := boot_int
  have b2 : bootBuiltins "bool" = some (.type "bool") := PyProof.Rows.Boot.«bool»
  refine fn_data F sc_law_whole (fun ds o ⟨i, h, _⟩ => by rw [h]; rfl) (fun ds o ⟨i, h1, h2⟩ => ?_)
  subst h1 h2
  walk_at "ret"
  rfl
end
/-! ## plain lemmas -/
def layM (b : List Row) (g : Str) (n : Int) : List Row := if n = 0 then b else match b.getLast? with
  | some r => if r.1 = g then b.dropLast ++ [(g, n + r.2)] else b ++ [(g, n)]
  | none => b ++ [(g, n)]
def okG (g : Str) : Prop := g = ("dry" : Str) ∨ g = ("wet" : Str)
theorem layM_len (b : List Row) (g : Str) (n : Int) : (layM b g n).length ≤ b.length + 1 := by
  unfold layM
  split
  · omega
  · split
    · split
      · simp
      · simp
    · simp
theorem cutAt_mem (s l : Int) : ∀ (x : Int) (b : List Row) (r : Row), r ∈ cutAt s l x b → (∃ q ∈ b, q.1 = r.1) ∧ 0 < r.2
  | _, [], r, h => by cases h
  | x, q :: b, r, h => by
    rcases List.mem_append.mp (show r ∈ (if max s x < min l (x + q.2) then [(q.1, min l (x + q.2) - max s x)] else []) ++ cutAt s l (x + q.2) b from h) with h | h
    · split at h
      · rcases List.mem_singleton.mp h with rfl
        exact ⟨⟨q, .head _, rfl⟩, by show 0 < _ - _; omega⟩
      · cases h
    · obtain ⟨⟨p, hp, e⟩, h2⟩ := cutAt_mem s l _ b r h
      exact ⟨⟨p, .tail _ hp, e⟩, h2⟩
abbrev Pc := Int × Int
abbrev encP (p : Pc) : D := .tup [.int p.1, .int p.2]
theorem flat_pcs (l : List Pc) : ∀ d ∈ l.map encP, Flat d := by
  intro d hd
  obtain ⟨r, _, rfl⟩ := List.mem_map.mp hd
  walk_at "fl"
theorem dryB_app (a b : List Row) : dryB (a ++ b) = dryB a + dryB b := by unfold dryB; rw [List.filter_append, List.map_append, List.sum_append]
theorem dryB_one (g : Str) (x : Int) : dryB [(g, x)] = if g = ("dry" : Str) then x else 0 := by
  unfold dryB
  by_cases h : g = ("dry" : Str)
  · rw [if_pos h, List.filter_cons]; simp [h]
  · rw [if_neg h, List.filter_cons]; simp [h]
theorem lenB_nn : ∀ {b : List Row}, (∀ r ∈ b, 0 < r.2) → 0 ≤ lenB b
  | [], _ => Int.le_refl _
  | a :: b, h => by
    rw [lenB_cons]
    have h1 := h a (.head _)
    have h2 := lenB_nn (b := b) fun q hq => h q (.tail _ hq)
    omega
theorem layM_len2 (b : List Row) (g : Str) (n : Int) : lenB (layM b g n) = lenB b + n := by
  unfold layM
  split
  · rename_i h; rw [h, Int.add_zero]
  · have q : lenB (b ++ [(g, n)]) = lenB b + n := by rw [lenB_app, lenB_cons]; show _ + (n + 0) = _; omega
    split
    · rename_i r hr
      split
      · have e : b.dropLast ++ [r] = b := by
          obtain ⟨ys, rfl⟩ := List.getLast?_eq_some_iff.mp hr
          rw [List.dropLast_concat]
        have q2 : lenB b = lenB b.dropLast + r.2 := by
          have := lenB_app b.dropLast [r]
          rw [e, lenB_cons] at this
          rw [this]; show _ + (r.2 + 0) = _; omega
        rw [lenB_app, lenB_cons]
        show _ + ((n + r.2) + 0) = _
        omega
      · exact q
    · exact q
theorem cutAt_len2 {s l : Int} : ∀ (x : Int) (b : List Row), (∀ r ∈ b, 0 < r.2) → s ≤ l → x ≤ l → l ≤ x + lenB b → lenB (cutAt s l x b) = l - max s x
  | x, [], _, h1, h2, h3 => by
    have : l ≤ x + 0 := h3
    show (0 : Int) = _
    omega
  | x, r :: b, hp, h1, h2, h3 => by
    have hr := hp r (.head _)
    have hp' : ∀ q ∈ b, 0 < q.2 := fun q hq => hp q (.tail _ hq)
    rw [lenB_cons] at h3
    show lenB ((if max s x < min l (x + r.2) then [(r.1, min l (x + r.2) - max s x)] else []) ++ cutAt s l (x + r.2) b) = _
    rw [lenB_app]
    have h0 : lenB (if max s x < min l (x + r.2) then [(r.1, min l (x + r.2) - max s x)] else []) = max 0 (min l (x + r.2) - max s x) := by
      split
      · rw [lenB_cons]; show (min l (x + r.2) - max s x) + 0 = _; omega
      · show (0 : Int) = _; omega
    rw [h0]
    by_cases hc : x + r.2 ≤ l
    · rw [cutAt_len2 (x + r.2) b hp' h1 hc (by omega)]
      omega
    · have e : cutAt s l (x + r.2) b = [] := by
        have : ∀ (x : Int) (b : List Row), (∀ r ∈ b, 0 < r.2) → l ≤ x → cutAt s l x b = [] := by
          intro x b
          induction b generalizing x with
          | nil => intro _ _; rfl
          | cons q b ih =>
            intro hq hx
            have h2 := hq q (.head _)
            show (if max s x < min l (x + q.2) then [(q.1, min l (x + q.2) - max s x)] else []) ++ cutAt s l (x + q.2) b = []
            rw [if_neg (by omega), ih (x + q.2) (fun r hr => hq r (.tail _ hr)) (by omega)]; rfl
        exact this (x + r.2) b hp' (by omega)
      rw [e]
      show _ + (0 : Int) = _
      omega
theorem cutB_len2 {b : List Row} {s l : Int} (hp : ∀ r ∈ b, 0 < r.2) (h0 : 0 ≤ s) (h1 : s ≤ l) (h2 : l ≤ lenB b) : lenB (cutB b s l) = l - s := by
  rw [show lenB (cutB b s l) = l - max s 0 from cutAt_len2 0 b hp h1 (by omega) (by omega)]
  omega
theorem dryB_cons (r : Row) (b : List Row) : dryB (r :: b) = (if r.1 = ("dry" : Str) then r.2 else 0) + dryB b := by
  have := dryB_app [r] b
  rw [show [r] ++ b = r :: b from rfl] at this
  rw [this, show [r] = [(r.1, r.2)] from rfl, dryB_one]
theorem layM_all {p : Row → Prop} {b : List Row} {g : Str} {n : Int} (h : ∀ r ∈ b, p r) (h1 : n ≠ 0 → p (g, n)) (h2 : ∀ m, p (g, m) → n ≠ 0 → p (g, n + m)) : ∀ r ∈ layM b g n, p r := by
  unfold layM
  split
  · exact h
  · rename_i hn
    have q : ∀ r ∈ b ++ [(g, n)], p r := fun r hr => by
      rcases List.mem_append.mp hr with hr | hr
      · exact h r hr
      · rw [List.mem_singleton.mp hr]; exact h1 hn
    split
    · rename_i r hr
      split
      · rename_i hg
        intro x hx
        have hm := List.mem_of_getLast? hr
        rcases List.mem_append.mp hx with hx | hx
        · exact h x (List.dropLast_subset _ hx)
        · rw [List.mem_singleton.mp hx]
          refine h2 r.2 ?_ hn
          have := h r hm
          rw [← hg]; exact this
      · exact q
    · exact q
abbrev shD (s : List Pc) : D := .lst (s.map encP)
def Gd : List Row → Int → Int
  | [], _ => 0
  | r :: b, t => (if r.1 = ("dry" : Str) then max 0 (min t r.2) else 0) + Gd b (t - r.2)
theorem Gd_app : ∀ (a b : List Row) (t : Int), Gd (a ++ b) t = Gd a t + Gd b (t - lenB a)
  | [], b, t => by
    show Gd b t = 0 + Gd b (t - 0)
    rw [Int.sub_zero]; omega
  | r :: a, b, t => by
    show (if r.1 = ("dry" : Str) then max 0 (min t r.2) else 0) + Gd (a ++ b) (t - r.2) = _ + Gd a (t - r.2) + Gd b (t - lenB (r :: a))
    rw [Gd_app a b, lenB_cons, show t - r.2 - lenB a = t - (r.2 + lenB a) by omega]; omega
theorem Gd_low : ∀ (b : List Row) (t : Int), (∀ r ∈ b, 0 ≤ r.2) → t ≤ 0 → Gd b t = 0
  | [], _, _, _ => rfl
  | r :: b, t, h, ht => by
    have := h r (.head _)
    show (if r.1 = ("dry" : Str) then max 0 (min t r.2) else 0) + Gd b (t - r.2) = 0
    rw [Gd_low b _ (fun q hq => h q (.tail _ hq)) (by omega)]
    split <;> omega
theorem Gd_max (b : List Row) (t : Int) (h : ∀ r ∈ b, 0 ≤ r.2) : Gd b t = Gd b (max t 0) := by
  by_cases q : 0 ≤ t
  · rw [show max t 0 = t by omega]
  · rw [show max t 0 = 0 by omega, Gd_low b t h (by omega), Gd_low b 0 h (by omega)]
theorem Gd_all : ∀ (b : List Row) (t : Int), (∀ r ∈ b, 0 ≤ r.2) → lenB b ≤ t → Gd b t = dryB b
  | [], _, _, _ => rfl
  | r :: b, t, h, ht => by
    have h0 := h r (.head _)
    have hb : ∀ q ∈ b, 0 ≤ q.2 := fun q hq => h q (.tail _ hq)
    have hl : 0 ≤ lenB b := by
      clear ht
      induction b with
      | nil => exact Int.le_refl 0
      | cons q b ih =>
        rw [lenB_cons]
        have := hb q (.head _)
        have := ih (fun x hx => h x (by rcases List.mem_cons.mp hx with rfl | hx; exact .head _; exact .tail _ (.tail _ hx))) fun x hx => hb x (.tail _ hx)
        omega
    rw [lenB_cons] at ht
    show (if r.1 = ("dry" : Str) then max 0 (min t r.2) else 0) + Gd b (t - r.2) = _
    rw [Gd_all b _ hb (by omega), dryB_cons]
    split <;> omega
theorem Gd_layM (b : List Row) (g : Str) (n t : Int) (hb : ∀ r ∈ b, 0 ≤ r.2) (hn : 0 ≤ n) : Gd (layM b g n) t = Gd (b ++ [(g, n)]) t := by
  unfold layM
  split
  · rename_i h
    subst h
    rw [Gd_app]
    show _ = _ + ((if g = ("dry" : Str) then max 0 (min _ (0 : Int)) else 0) + 0)
    split <;> omega
  · split
    · rename_i r hr
      split
      · rename_i hg
        have e : b.dropLast ++ [r] = b := by
          obtain ⟨ys, rfl⟩ := List.getLast?_eq_some_iff.mp hr
          rw [List.dropLast_concat]
        have hr0 := hb r (List.mem_of_getLast? hr)
        have e2 : Gd b = Gd (b.dropLast ++ [r]) := by rw [e]
        have e3 : lenB b = lenB (b.dropLast ++ [r]) := by rw [e]
        rw [Gd_app, Gd_app b, e2, e3, Gd_app, lenB_app, lenB_cons]
        generalize lenB b.dropLast = L
        show _ + ((if g = ("dry" : Str) then max 0 (min (t - L) (n + r.2)) else 0) + 0) = _ + ((if r.1 = ("dry" : Str) then max 0 (min (t - L) r.2) else 0) + 0) + ((if g = ("dry" : Str) then max 0 (min (t - (L + (r.2 + 0))) n) else 0) + 0)
        rw [hg]
        split <;> omega
      · rfl
    · rfl
theorem Gd_cut {s l : Int} (hs : s ≤ l) : ∀ (x : Int) (b : List Row) (t : Int), (∀ r ∈ b, 0 < r.2) → Gd (cutAt s l x b) t = Gd b (min (max s x + max t 0) l - x) - Gd b (min (max s x) l - x)
  | _, [], _, _ => rfl
  | x, r :: b, t, hp => by
    have hr := hp r (.head _)
    have hp' : ∀ q ∈ b, 0 < q.2 := fun q hq => hp q (.tail _ hq)
    have hn : ∀ q ∈ b, 0 ≤ q.2 := fun q hq => Int.le_of_lt (hp' q hq)
    have key : ∀ u v : Int, max u 0 = max v 0 → Gd b u = Gd b v := fun u v e => by rw [Gd_max b u hn, Gd_max b v hn, e]
    show Gd ((if max s x < min l (x + r.2) then [(r.1, min l (x + r.2) - max s x)] else []) ++ cutAt s l (x + r.2) b) t = ((if r.1 = ("dry" : Str) then max 0 (min (min (max s x + max t 0) l - x) r.2) else 0) + Gd b (min (max s x + max t 0) l - x - r.2)) - ((if r.1 = ("dry" : Str) then max 0 (min (min (max s x) l - x) r.2) else 0) + Gd b (min (max s x) l - x - r.2))
    by_cases hc : max s x < min l (x + r.2)
    · rw [if_pos hc, Gd_app, Gd_cut hs (x + r.2) b _ hp', lenB_cons]
      show ((if r.1 = ("dry" : Str) then max 0 (min t (min l (x + r.2) - max s x)) else 0) + 0) + (Gd b (min (max s (x + r.2) + max (t - ((min l (x + r.2) - max s x) + 0)) 0) l - (x + r.2)) - _) = _
      rw [key (min (max s (x + r.2) + max (t - ((min l (x + r.2) - max s x) + 0)) 0) l - (x + r.2)) (min (max s x + max t 0) l - x - r.2) (by omega), key (min (max s (x + r.2)) l - (x + r.2)) (min (max s x) l - x - r.2) (by omega)]
      split <;> omega
    · rw [if_neg hc, List.nil_append, Gd_cut hs (x + r.2) b _ hp']
      rw [key (min (max s (x + r.2) + max t 0) l - (x + r.2)) (min (max s x + max t 0) l - x - r.2) (by omega), key (min (max s (x + r.2)) l - (x + r.2)) (min (max s x) l - x - r.2) (by omega)]
      split <;> omega
theorem Gd_cutB {b : List Row} {s l t : Int} (hp : ∀ r ∈ b, 0 < r.2) (h0 : 0 ≤ s) (ht : 0 ≤ t) (hl : s + t ≤ l) : Gd (cutB b s l) t = Gd b (s + t) - Gd b s := by
  have := Gd_cut (s := s) (l := l) (by omega) 0 b t hp
  rw [show cutB b s l = cutAt s l 0 b from rfl, this, show min (max s 0 + max t 0) l - 0 = s + t by omega, show min (max s 0) l - 0 = s by omega]
theorem dry_cutG {b : List Row} {s l : Int} (hp : ∀ r ∈ b, 0 < r.2) (h0 : 0 ≤ s) (h1 : s ≤ l) (h2 : l ≤ lenB b) : dryB (cutB b s l) = Gd b l - Gd b s := by
  have hc : ∀ r ∈ cutB b s l, 0 ≤ r.2 := fun r hr => Int.le_of_lt (cutAt_mem _ _ _ _ r hr).2
  rw [← Gd_all (cutB b s l) (l - s) hc (by rw [cutB_len2 hp h0 h1 h2]; exact Int.le_refl _), Gd_cutB hp h0 (by omega) (by omega), show s + (l - s) = l by omega]
def Ch : Int → List Pc → Int → Prop
  | a, [], z => a = z
  | a, p :: l, z => p.1 = a ∧ p.1 < p.2 ∧ Ch p.2 l z
theorem Ch.le : ∀ {l : List Pc} {a z : Int}, Ch a l z → a ≤ z
  | [], _, _, h => Int.le_of_eq h
  | p :: l, a, z, h => by obtain ⟨h1, h2, h3⟩ := h; have := h3.le; omega
theorem Ch.app : ∀ {l m : List Pc} {a y z : Int}, Ch a l y → Ch y m z → Ch a (l ++ m) z
  | [], m, _, _, _, h, g => by
    have : _ = _ := h
    subst this; exact g
  | p :: l, m, a, y, z, h, g => ⟨h.1, h.2.1, h.2.2.app g⟩
theorem Ch.mem : ∀ {l : List Pc} {a z : Int}, Ch a l z → ∀ p ∈ l, a ≤ p.1 ∧ p.1 < p.2 ∧ p.2 ≤ z
  | q :: l, a, z, h, p, hp => by
    obtain ⟨h1, h2, h3⟩ := h
    rcases List.mem_cons.mp hp with rfl | hp
    · have := h3.le; omega
    · have := h3.mem p hp; omega
/-- no piece of a share touches another -/
def okS : Int → List Pc → Bool
  | _, [] => true
  | b, p :: l => if p.1 ≤ b ∨ p.2 ≤ p.1 then false else okS p.2 l
theorem okS_cons {b : Int} {p : Pc} {l : List Pc} : okS b (p :: l) = true ↔ b < p.1 ∧ p.1 < p.2 ∧ okS p.2 l = true := by
  show (if p.1 ≤ b ∨ p.2 ≤ p.1 then false else okS p.2 l) = true ↔ _
  split
  · constructor
    · intro h; cases h
    · intro h; omega
  · constructor
    · intro h; exact ⟨by omega, by omega, h⟩
    · intro h; exact h.2.2
theorem okS_le {l : List Pc} {b c : Int} (h : okS b l = true) (hc : c ≤ b) : okS c l = true := by
  cases l with
  | nil => rfl
  | cons p l =>
    obtain ⟨h1, h2, h3⟩ := okS_cons.mp h
    exact okS_cons.mpr ⟨by omega, h2, h3⟩
def shG (b : List Row) (s : List Pc) : Int := (s.map fun p => Gd b p.2 - Gd b p.1).sum
def shL (s : List Pc) : Int := (s.map fun p => p.2 - p.1).sum
theorem shG_cons (b : List Row) (p : Pc) (s : List Pc) : shG b (p :: s) = (Gd b p.2 - Gd b p.1) + shG b s := by unfold shG; rw [List.map_cons, List.sum_cons]
theorem shL_cons (p : Pc) (s : List Pc) : shL (p :: s) = (p.2 - p.1) + shL s := by unfold shL; rw [List.map_cons, List.sum_cons]
theorem shG_app (b : List Row) (s t : List Pc) : shG b (s ++ t) = shG b s + shG b t := by unfold shG; rw [List.map_append, List.sum_append]
theorem shL_app (s t : List Pc) : shL (s ++ t) = shL s + shL t := by unfold shL; rw [List.map_append, List.sum_append]
/-! ## the law's rows -/
abbrev Tr := Int × Int × Int
abbrev encT3 (t : Tr) : D := .tup [.int t.1, .int t.2.1, .int t.2.2]
def kP (p : Pc) : List Int := [p.1, p.2]
def kT (t : Tr) : List Int := [t.1, t.2.1, t.2.2]
theorem kP_inj (x y : Pc) (h : kP x = kP y) : x = y := by
  obtain ⟨x1, x2⟩ := x
  obtain ⟨y1, y2⟩ := y
  injection h with h1 h
  injection h with h2 _
  rw [show x1 = y1 from h1, show x2 = y2 from h2]
theorem kT_inj (x y : Tr) (h : kT x = kT y) : x = y := by
  obtain ⟨x1, x2, x3⟩ := x
  obtain ⟨y1, y2, y3⟩ := y
  injection h with h1 h
  injection h with h2 h
  injection h with h3 _
  rw [show x1 = y1 from h1, show x2 = y2 from h2, show x3 = y3 from h3]
def sortP (l : List Pc) : List Pc := sortL kP l
def sortT (l : List Tr) : List Tr := sortL kT l
def pT (t : Tr) : Pc := (t.1, t.2.1)
def trs (h : Int) (s : List Pc) : List Tr := s.map fun p => (p.1, p.2, h)
def allT : Int → List (List Pc) → List Tr
  | _, [] => []
  | h, s :: l => trs h s ++ allT (h + 1) l
theorem allT_proj : ∀ (h : Int) (l : List (List Pc)), (allT h l).map pT = l.flatten
  | _, [] => rfl
  | h, s :: l => by
    show (trs h s ++ allT (h + 1) l).map pT = _
    rw [List.map_append, allT_proj (h + 1) l, List.flatten_cons]
    congr 1
    unfold trs
    rw [List.map_map]
    exact List.map_id _
theorem lex_pre (x y : Tr) (h : lexL (kT x) (kT y) = false) : lexL (kP (pT x)) (kP (pT y)) = false := by
  unfold kT at h
  unfold kP pT
  unfold lexL at h ⊢
  split
  · rename_i e
    rw [if_pos e] at h
    unfold lexL at h ⊢
    split
    · rfl
    · rename_i e2
      rw [if_neg e2] at h
      exact h
  · rename_i e
    rw [if_neg e] at h
    exact h
theorem sort_proj (l : List (List Pc)) : (sortT (allT 0 l)).map pT = sortP l.flatten := by
  refine sortL_eq kP_inj ?_ ?_
  · refine List.pairwise_map.mpr ((sortL_srt (k := kT) (allT 0 l)).imp fun {x y} h => lex_pre y x h)
  · have := (sortL_perm (k := kT) (allT 0 l)).map pT
    rw [allT_proj] at this
    exact this
/-! ## end to end -/
def eE (z : Int) : Int → List Pc → Bool
  | a, [] => decide (a = z)
  | a, p :: l => if p.1 ≠ a then false else eE z p.2 l
def iO (z : Int) : Int → List Pc → Bool
  | _, [] => true
  | b, p :: l => if p.1 ≤ b ∨ p.2 ≤ p.1 ∨ p.2 > z then false else iO z p.2 l
theorem eE_ch {z : Int} : ∀ {l : List Pc} {a : Int}, (∀ p ∈ l, p.1 < p.2) → eE z a l = true → Ch a l z
  | [], a, _, h => by
    have e : a = z := of_decide_eq_true h
    exact e
  | p :: l, a, hp, h => by
    have h' : (if p.1 ≠ a then false else eE z p.2 l) = true := h
    split at h'
    · cases h'
    · rename_i q
      exact ⟨Decidable.not_not.mp q, hp p (.head _), eE_ch (fun p hq => hp p (.tail _ hq)) h'⟩
theorem ch_eE {z : Int} : ∀ {l : List Pc} {a : Int}, Ch a l z → eE z a l = true
  | [], a, h => by
    have e : a = z := h
    exact decide_eq_true e
  | p :: l, a, h => by
    show (if p.1 ≠ a then false else eE z p.2 l) = true
    rw [if_neg (not_not_intro h.1)]; exact ch_eE h.2.2
theorem iO_okS {z : Int} : ∀ {l : List Pc} {b : Int}, iO z b l = true → okS b l = true ∧ ∀ p ∈ l, p.2 ≤ z
  | [], _, _ => ⟨rfl, fun _ h => by cases h⟩
  | p :: l, b, h => by
    have h' : (if p.1 ≤ b ∨ p.2 ≤ p.1 ∨ p.2 > z then false else iO z p.2 l) = true := h
    split at h'
    · cases h'
    · obtain ⟨i1, i2⟩ := iO_okS h'
      exact ⟨okS_cons.mpr ⟨by omega, by omega, i1⟩, fun q hq => by
        rcases List.mem_cons.mp hq with rfl | hq
        · omega
        · exact i2 q hq⟩
theorem okS_iO {z : Int} : ∀ {l : List Pc} {b : Int}, okS b l = true → (∀ p ∈ l, p.2 ≤ z) → iO z b l = true
  | [], _, _, _ => rfl
  | p :: l, b, h, hz => by
    obtain ⟨h1, h2, h3⟩ := okS_cons.mp h
    have := hz p (.head _)
    show (if p.1 ≤ b ∨ p.2 ≤ p.1 ∨ p.2 > z then false else iO z p.2 l) = true
    rw [if_neg (by omega)]
    exact okS_iO h3 fun q hq => hz q (.tail _ hq)
theorem okS_mem : ∀ {l : List Pc} {b : Int}, okS b l = true → ∀ p ∈ l, b < p.1 ∧ p.1 < p.2
  | q :: l, b, h, p, hp => by
    obtain ⟨h1, h2, h3⟩ := okS_cons.mp h
    rcases List.mem_cons.mp hp with rfl | hp
    · exact ⟨h1, h2⟩
    · have := okS_mem h3 p hp; omega
/-- what fair sees of a share -/
def hadD (b : List Row) (s : List Pc) : Int := (s.map fun p => dryB (cutB b p.1 p.2)).sum
def hadW (b : List Row) (s : List Pc) : Int := (s.map fun p => lenB (cutB b p.1 p.2) - dryB (cutB b p.1 p.2)).sum
theorem had_eq {b : List Row} (hp : ∀ r ∈ b, 0 < r.2) : ∀ s : List Pc, (∀ p ∈ s, 0 ≤ p.1 ∧ p.1 < p.2 ∧ p.2 ≤ lenB b) → hadD b s = shG b s ∧ hadW b s = shL s - shG b s
  | [], _ => ⟨rfl, rfl⟩
  | p :: s, h => by
    have q := h p (.head _)
    obtain ⟨i1, i2⟩ := had_eq hp s fun p hp => h p (.tail _ hp)
    unfold hadD hadW at *
    rw [List.map_cons, List.sum_cons, List.map_cons, List.sum_cons, i1, i2, shG_cons, shL_cons, dry_cutG hp q.1 (by omega) q.2.2, cutB_len2 hp q.1 (by omega) q.2.2]
    omega
/-- in order, end to end -/
def goodB (z : Int) (shares : List (List Pc)) : Bool := (shares.all fun s => okS (-1) s) && eE z 0 (sortP shares.flatten)
def endB (z : Int) (shares : List (List Pc)) : Bool := (shares.all fun s => iO z (-1) s) && eE z 0 (sortP shares.flatten)
theorem mem_sortP {l : List Pc} {p : Pc} : p ∈ sortP l ↔ p ∈ l := (sortL_perm l).mem_iff
theorem good_ch {z : Int} {shares : List (List Pc)} (h : goodB z shares = true) : Ch 0 (sortP shares.flatten) z := by
  unfold goodB at h
  simp only [Bool.and_eq_true, List.all_eq_true] at h
  refine eE_ch (fun p hp => ?_) h.2
  obtain ⟨s, hs, hp⟩ := List.mem_flatten.mp (mem_sortP.mp hp)
  exact (okS_mem (h.1 s hs) p hp).2
theorem good_mem {z : Int} {shares : List (List Pc)} (h : goodB z shares = true) : ∀ s ∈ shares, ∀ p ∈ s, 0 ≤ p.1 ∧ p.1 < p.2 ∧ p.2 ≤ z := fun s hs p hp => (good_ch h).mem p (mem_sortP.mpr (List.mem_flatten.mpr ⟨s, hs, hp⟩))
theorem end_good (z : Int) (shares : List (List Pc)) : endB z shares = goodB z shares := by
  apply bool_of_iff
  constructor
  · intro h
    unfold endB at h
    unfold goodB
    simp only [Bool.and_eq_true, List.all_eq_true] at h ⊢
    exact ⟨fun s hs => (iO_okS (h.1 s hs)).1, h.2⟩
  · intro h
    have hm := good_mem h
    unfold goodB at h
    unfold endB
    simp only [Bool.and_eq_true, List.all_eq_true] at h ⊢
    exact ⟨fun s hs => okS_iO (h.1 s hs) fun p hp => (hm s hs p hp).2.2, h.2⟩
def fairM (b : List Row) (shares : List (List Pc)) : Bool := endB (lenB b) shares && shares.all fun s => decide (hadD b s = hadD b (shares.headD []) ∧ hadW b s = hadW b (shares.headD []))
/-- the sums of each share -/
def svs (b : List Row) (s : List Pc) : Int × Int := (shG b s, shL s - shG b s)
def evenB (b : List Row) (shares : List (List Pc)) : Bool := shares.all fun s => decide (svs b s = svs b (shares.headD []))
def lawB (b : List Row) (shares : List (List Pc)) : Bool := goodB (lenB b) shares && (b.isEmpty || evenB b shares)
theorem fair_law {b : List Row} {shares : List (List Pc)} (hp : ∀ r ∈ b, 0 < r.2) : fairM b shares = lawB b shares := by
  unfold fairM lawB
  rw [end_good]
  cases hg : goodB (lenB b) shares with
  | false => rfl
  | true =>
    have hm := good_mem hg
    rw [Bool.true_and, Bool.true_and]
    have hh : ∀ p ∈ shares.headD [], 0 ≤ p.1 ∧ p.1 < p.2 ∧ p.2 ≤ lenB b := by
      cases shares with
      | nil => intro p h; cases h
      | cons s l => exact hm s (.head _)
    have e : (shares.all fun s => decide (hadD b s = hadD b (shares.headD []) ∧ hadW b s = hadW b (shares.headD []))) = evenB b shares := by
      unfold evenB
      rw [Bool.eq_iff_iff, List.all_eq_true, List.all_eq_true]
      refine forall_congr' fun s => forall_congr' fun hs => ?_
      rw [decide_eq_true_eq, decide_eq_true_eq, (had_eq hp s (hm s hs)).1, (had_eq hp s (hm s hs)).2, (had_eq hp _ hh).1, (had_eq hp _ hh).2]
      unfold svs
      rw [Prod.mk.injEq]
    rw [e]
    cases b with
    | cons r b => rfl
    | nil =>
      show _ = (true || _)
      rw [Bool.true_or]
      unfold evenB
      rw [List.all_eq_true]
      intro s hs
      have : ∀ s ∈ shares, s = [] := fun s hs => by
        cases s with
        | nil => rfl
        | cons p s =>
          have := hm _ hs p (.head _)
          have h0 : lenB [] = 0 := rfl
          omega
      rw [this s hs]
      have h2 : shares.headD [] = [] := by
        cases shares with
        | nil => rfl
        | cons s l => exact this s (.head _)
      rw [h2]
      exact decide_eq_true rfl
/-! ## the law's sums -/
def svT (b : List Row) (t : Tr) : Int × Int := (Gd b t.2.1 - Gd b t.1, (t.2.1 - t.1) - (Gd b t.2.1 - Gd b t.1))
def plus (p q : Int × Int) : Int × Int := (p.1 + q.1, p.2 + q.2)
def addS (b : List Row) (S : List (Int × Int)) (t : Tr) : List (Int × Int) := S.set t.2.2.toNat (plus (S.getD t.2.2.toNat (0, 0)) (svT b t))
def sumsM (b : List Row) (n : Nat) (rows : List Tr) : List (Int × Int) := rows.foldl (addS b) (List.replicate n (0, 0))
def tot (b : List Row) (i : Nat) : List Tr → Int × Int
  | [] => (0, 0)
  | t :: l => plus (if t.2.2.toNat = i then svT b t else (0, 0)) (tot b i l)
theorem plus_assoc (p q r : Int × Int) : plus (plus p q) r = plus p (plus q r) := by unfold plus; rw [Prod.mk.injEq]; exact ⟨Int.add_assoc .., Int.add_assoc ..⟩
theorem plus_comm (p q : Int × Int) : plus p q = plus q p := by unfold plus; rw [Prod.mk.injEq]; exact ⟨Int.add_comm .., Int.add_comm ..⟩
theorem plus_zero (p : Int × Int) : plus p (0, 0) = p := by unfold plus; rw [Int.add_zero, Int.add_zero]
theorem zero_plus (p : Int × Int) : plus (0, 0) p = p := by rw [plus_comm, plus_zero]
theorem addS_len (b : List Row) (S : List (Int × Int)) (t : Tr) : (addS b S t).length = S.length := List.length_set ..
theorem fold_len (b : List Row) : ∀ (l : List Tr) (S : List (Int × Int)), (l.foldl (addS b) S).length = S.length
  | [], _ => rfl
  | t :: l, S => by rw [List.foldl_cons, fold_len b l, addS_len]
theorem fold_tot (b : List Row) (i : Nat) : ∀ (l : List Tr) (S : List (Int × Int)), i < S.length → (l.foldl (addS b) S).getD i (0, 0) = plus (S.getD i (0, 0)) (tot b i l)
  | [], S, _ => (plus_zero _).symm
  | t :: l, S, hi => by
    rw [List.foldl_cons, fold_tot b i l _ (by rw [addS_len]; exact hi)]
    show _ = plus _ (plus _ (tot b i l))
    rw [← plus_assoc]
    congr 1
    unfold addS
    rw [List.getD_eq_getElem?_getD, List.getElem?_set]
    by_cases h : t.2.2.toNat = i
    · rw [if_pos h, h, if_pos hi, if_pos rfl]; rfl
    · rw [if_neg h, if_neg h, plus_zero, ← List.getD_eq_getElem?_getD]
theorem tot_perm (b : List Row) (i : Nat) {l m : List Tr} (h : l.Perm m) : tot b i l = tot b i m := by
  induction h with
  | nil => rfl
  | cons x _ ih => show plus _ (tot b i _) = plus _ (tot b i _); rw [ih]
  | swap x y l =>
    show plus _ (plus _ (tot b i l)) = plus _ (plus _ (tot b i l))
    rw [← plus_assoc, ← plus_assoc, plus_comm (if y.2.2.toNat = i then svT b y else (0, 0))]
  | trans _ _ i1 i2 => exact i1.trans i2
theorem tot_app (b : List Row) (i : Nat) : ∀ l m : List Tr, tot b i (l ++ m) = plus (tot b i l) (tot b i m)
  | [], m => (zero_plus _).symm
  | t :: l, m => by
    show plus _ (tot b i (l ++ m)) = plus (plus _ (tot b i l)) _
    rw [tot_app b i l m, plus_assoc]
theorem tot_trs (b : List Row) (i : Nat) (h : Int) : ∀ s : List Pc, tot b i (trs h s) = if h.toNat = i then svs b s else (0, 0)
  | [] => by
    show (0, 0) = _
    split <;> rfl
  | p :: s => by
    show plus (if h.toNat = i then svT b (p.1, p.2, h) else (0, 0)) (tot b i (trs h s)) = _
    rw [tot_trs b i h s]
    split
    · unfold plus svT svs
      rw [shG_cons, shL_cons, Prod.mk.injEq]
      refine ⟨rfl, ?_⟩
      show (p.2 - p.1) - (Gd b p.2 - Gd b p.1) + (shL s - shG b s) = _
      omega
    · rfl
theorem tot_all (b : List Row) (i : Nat) : ∀ (l : List (List Pc)) (k : Nat), tot b i (allT (k : Nat) l) = if i < k then (0, 0) else ((l[i - k]?).map (svs b)).getD (0, 0)
  | [], k => by
    show (0, 0) = _
    split <;> rfl
  | s :: l, k => by
    show tot b i (trs (k : Nat) s ++ allT ((k : Int) + 1) l) = _
    have e : ((k : Int) + 1) = ((k + 1 : Nat) : Int) := rfl
    rw [tot_app, tot_trs, e, tot_all b i l (k + 1), Int.toNat_natCast]
    by_cases h1 : k = i
    · subst h1
      rw [if_pos rfl, if_pos (Nat.lt_succ_self _), if_neg (Nat.lt_irrefl _), Nat.sub_self, plus_zero]; rfl
    · rw [if_neg h1, zero_plus]
      by_cases h2 : i < k
      · rw [if_pos h2, if_pos (by omega)]
      · rw [if_neg h2, if_neg (by omega), show i - k = (i - (k + 1)) + 1 by omega, List.getElem?_cons_succ]
theorem sums_eq (b : List Row) (shares : List (List Pc)) : sumsM b shares.length (sortT (allT 0 shares)) = shares.map (svs b) := by
  apply List.ext_getElem?
  intro i
  have hl : (sumsM b shares.length (sortT (allT 0 shares))).length = shares.length := by
    unfold sumsM
    rw [fold_len, List.length_replicate]
  by_cases hi : i < shares.length
  · have q := fold_tot b i (sortT (allT 0 shares)) (List.replicate shares.length (0, 0)) (by rw [List.length_replicate]; exact hi)
    rw [List.getD_eq_getElem?_getD, List.getD_eq_getElem?_getD, List.getElem?_replicate, if_pos hi, show tot b i (sortT (allT 0 shares)) = _ from tot_perm b i (sortL_perm (k := kT) (allT 0 shares))] at q
    have q2 := tot_all b i shares 0
    rw [show allT ((0 : Nat) : Int) shares = allT 0 shares from rfl, if_neg (Nat.not_lt_zero _), Nat.sub_zero] at q2
    rw [q2, show (some ((0 : Int), (0 : Int))).getD (0, 0) = (0, 0) from rfl, zero_plus] at q
    rw [List.getElem?_map]
    rw [List.getElem?_eq_getElem (by rw [hl]; exact hi)]
    rw [show List.foldl (addS b) (List.replicate shares.length (0, 0)) (sortT (allT 0 shares)) = sumsM b shares.length (sortT (allT 0 shares)) from rfl, List.getElem?_eq_getElem (by rw [hl]; exact hi)] at q
    rw [List.getElem?_eq_getElem hi] at q ⊢
    exact congrArg some q
  · rw [List.getElem?_eq_none (by omega), List.getElem?_eq_none (by rw [List.length_map]; omega)]
/-! ## the law's walk in the bank -/
def pre (b : List Row) (i : Nat) : Int := lenB (b.take i)
theorem pre_zero (b : List Row) : pre b 0 = 0 := rfl
theorem pre_succ {b : List Row} {i : Nat} {r : Row} (h : b[i]? = some r) : pre b (i + 1) = pre b i + r.2 := by
  unfold pre
  rw [take_snoc h, lenB_app, lenB_cons]
  show _ + (r.2 + 0) = _
  omega
theorem pre_all (b : List Row) : pre b b.length = lenB b := by unfold pre; rw [List.take_length]
/-- inside of a stretch -/
theorem Gd_in : ∀ (b : List Row) (i : Nat) (r : Row) (x y : Int), (∀ r ∈ b, 0 < r.2) → b[i]? = some r → pre b i ≤ x → x ≤ y → y ≤ pre b i + r.2 → Gd b y - Gd b x = if r.1 = ("dry" : Str) then y - x else 0
  | q :: b, 0, r, x, y, hp, h, h1, h2, h3 => by
    cases h
    have hq := hp q (.head _)
    have hn : ∀ r ∈ b, 0 ≤ r.2 := fun r hr => Int.le_of_lt (hp r (.tail _ hr))
    rw [pre_zero] at h1 h3
    show ((if q.1 = ("dry" : Str) then max 0 (min y q.2) else 0) + Gd b (y - q.2)) - ((if q.1 = ("dry" : Str) then max 0 (min x q.2) else 0) + Gd b (x - q.2)) = _
    rw [Gd_low b _ hn (by omega), Gd_low b _ hn (by omega)]
    split <;> omega
  | q :: b, i + 1, r, x, y, hp, h, h1, h2, h3 => by
    have hq := hp q (.head _)
    have e : pre (q :: b) (i + 1) = q.2 + pre b i := by unfold pre; rw [List.take_succ_cons, lenB_cons]
    rw [e] at h1 h3
    have hpre : 0 ≤ pre b i := by
      unfold pre
      exact lenB_nn fun r hr => hp r (.tail _ (List.mem_of_mem_take hr))
    have ih := Gd_in b i r (x - q.2) (y - q.2) (fun r hr => hp r (.tail _ hr)) (by simpa using h) (by omega) (by omega) (by omega)
    show ((if q.1 = ("dry" : Str) then max 0 (min y q.2) else 0) + Gd b (y - q.2)) - ((if q.1 = ("dry" : Str) then max 0 (min x q.2) else 0) + Gd b (x - q.2)) = _
    have e2 : (if q.1 = ("dry" : Str) then max 0 (min y q.2) else 0) = (if q.1 = ("dry" : Str) then max 0 (min x q.2) else 0) := by split <;> omega
    rw [e2]
    have e3 : y - q.2 - (x - q.2) = y - x := by omega
    rw [e3] at ih
    omega
/-! ## the cuts -/
def ptsM (shares : List (List Pc)) : List Int := shares.flatten.flatMap fun p => [p.1, p.2]
def cutsM (b : List Row) (shares : List (List Pc)) : List Int := ascU ((ptsM shares).filter fun x => decide (x ≠ 0) && decide (x ≠ lenB b))
theorem mem_pts {l : List Pc} {x : Int} : x ∈ (l.flatMap fun p => [p.1, p.2]) ↔ ∃ p ∈ l, x = p.1 ∨ x = p.2 := by
  rw [List.mem_flatMap]
  constructor
  · rintro ⟨p, hp, h⟩
    rcases List.mem_cons.mp h with h | h
    · exact ⟨p, hp, .inl h⟩
    · exact ⟨p, hp, .inr (List.mem_singleton.mp h)⟩
  · rintro ⟨p, hp, h⟩
    refine ⟨p, hp, ?_⟩
    rcases h with h | h
    · rw [h]; exact .head _
    · rw [h]; exact .tail _ (.head _)
theorem mem_cutsM {b : List Row} {shares : List (List Pc)} {x : Int} : x ∈ cutsM b shares ↔ (∃ p ∈ shares.flatten, x = p.1 ∨ x = p.2) ∧ x ≠ 0 ∧ x ≠ lenB b := by
  unfold cutsM
  rw [mem_ascU, List.mem_filter]
  unfold ptsM
  rw [mem_pts, Bool.and_eq_true, decide_eq_true_eq, decide_eq_true_eq]
theorem srtI_asc {l : List Int} (h : l.Nodup) : (srtI l).Pairwise (· < ·) := by
  have h1 := sortL_srt (k := fun i : Int => [i]) l
  have h2 : (srtI l).Nodup := (sortL_perm (k := fun i : Int => [i]) l).nodup_iff.mpr h
  refine (List.pairwise_and_iff.mpr ⟨h1, h2⟩).imp fun {x y} ⟨g, e⟩ => ?_
  have g' : (if y = x then lexL [] [] else decide (y < x)) = false := g
  rw [if_neg fun z => e z.symm] at g'
  have := of_decide_eq_false g'
  omega
theorem srtI_cuts {b : List Row} {shares : List (List Pc)} {l : List Int} (h : l.Nodup) (hm : ∀ x, x ∈ l ↔ (∃ p ∈ shares.flatten, x = p.1 ∨ x = p.2) ∧ x ≠ 0 ∧ x ≠ lenB b) : srtI l = cutsM b shares := by
  refine asc_uniq (srtI_asc h) (pw_ascU _) fun k => ?_
  rw [mem_cutsM, ← hm k]
  exact (sortL_perm (k := fun i : Int => [i]) l).mem_iff
theorem ch_starts : ∀ {l : List Pc} {a z : Int}, Ch a l z → (l.map (·.1)).Pairwise (· < ·)
  | [], _, _, _ => .nil
  | p :: l, a, z, h => by
    obtain ⟨h1, h2, h3⟩ := h
    refine List.pairwise_cons.mpr ⟨fun x hx => ?_, ch_starts h3⟩
    obtain ⟨q, hq, rfl⟩ := List.mem_map.mp hx
    have := h3.mem q hq
    show p.1 < q.1
    omega
theorem ch_ends : ∀ {l : List Pc} {a z : Int}, Ch a l z → ∀ p ∈ l, p.2 = z ∨ ∃ q ∈ l.tail, q.1 = p.2
  | p :: l, a, z, h, q, hq => by
    obtain ⟨h1, h2, h3⟩ := h
    rcases List.mem_cons.mp hq with rfl | hq
    · cases l with
      | nil => exact .inl h3
      | cons r l => exact .inr ⟨r, .head _, h3.1⟩
    · rcases ch_ends h3 q hq with e | ⟨r, hr, e⟩
      · exact .inl e
      · exact .inr ⟨r, List.mem_of_mem_tail hr, e⟩
/-- the cuts of a chain: where its pieces begin, but for the first -/
theorem cuts_chain {b : List Row} {shares : List (List Pc)} {Q : List Pc} (hq : Q.Perm shares.flatten) (hc : Ch 0 Q (lenB b)) : cutsM b shares = Q.tail.map (·.1) := by
  refine asc_uniq (pw_ascU _) ?_ fun x => ?_
  · have := ch_starts hc
    cases Q with
    | nil => exact .nil
    | cons p Q => exact (List.pairwise_cons.mp this).2
  · rw [mem_cutsM]
    constructor
    · rintro ⟨⟨p, hp, h⟩, h0, h1⟩
      have hpQ := hq.mem_iff.mpr hp
      rcases h with rfl | rfl
      · cases Q with
        | nil => cases hpQ
        | cons r Q =>
          rcases List.mem_cons.mp hpQ with rfl | hpQ
          · exact absurd hc.1 h0
          · exact List.mem_map.mpr ⟨p, hpQ, rfl⟩
      · rcases ch_ends hc p hpQ with e | ⟨q, hq', e⟩
        · exact absurd e h1
        · exact List.mem_map.mpr ⟨q, hq', e⟩
    · intro h
      obtain ⟨p, hp, rfl⟩ := List.mem_map.mp h
      have hpQ := List.mem_of_mem_tail hp
      refine ⟨⟨p, hq.mem_iff.mp hpQ, .inl rfl⟩, ?_, ?_⟩
      · cases Q with
        | nil => cases hp
        | cons r Q =>
          have h3 := hc.2.2.mem p hp
          have h1 := hc.1
          have h2 := hc.2.1
          omega
      · have := hc.mem p hpQ; omega
/-! ## fair and cuts, walked -/
abbrev shsD (l : List (List Pc)) : D := .lst (l.map shD)
def F_allp (ds : List D) (o : Out) : Prop := ∃ l : List (List Pc), ds = [shsD l] ∧ l.flatten.length ≤ 100000 ∧ o = .ok (.own (l.flatten.map encP))
def F_ino (ds : List D) (o : Out) : Prop := ∃ (s : List Pc) (z : Int), ds = [shD s, .int z] ∧ o = ok (.bl (iO z (-1) s))
def F_e2e (ds : List D) (o : Out) : Prop := ∃ (l : List Pc) (z : Int), ds = [.lst (l.map encP), .int z] ∧ o = ok (.bl (eE z 0 (sortP l)))
def hadX (b : List Row) (s : List Pc) : D := .tup [.int (hadD b s), .int (hadW b s)]
def F_had (ds : List D) (o : Out) : Prop := ∃ (b : List Row) (s : List Pc), ds = [encB b, shD s] ∧ b.length ≤ 100000 ∧ (∀ p ∈ s, 0 ≤ p.1 ∧ p.1 ≤ p.2 ∧ p.2 ≤ lenB b) ∧ o = ok (hadX b s)
def F_fair (ds : List D) (o : Out) : Prop := ∃ (b : List Row) (l : List (List Pc)), ds = [encB b, shsD l] ∧ b.length ≤ 100000 ∧ l.flatten.length ≤ 100000 ∧ o = ok (.bl (fairM b l))
def F_cuts (ds : List D) (o : Out) : Prop := ∃ (b : List Row) (l : List (List Pc)), ds = [encB b, shsD l] ∧ b.length ≤ 100000 ∧ l.flatten.length ≤ 100000 ∧ o = .ok (.own ((cutsM b l).map D.int))
theorem iO_cons (z a : Int) (p : Pc) (l : List Pc) : iO z a (p :: l) = if p.1 ≤ a ∨ p.2 ≤ p.1 ∨ p.2 > z then false else iO z p.2 l := rfl
theorem eE_cons (z a : Int) (p : Pc) (l : List Pc) : eE z a (p :: l) = if p.1 ≠ a then false else eE z p.2 l := rfl
theorem hadD_snoc (b : List Row) (s : List Pc) (p : Pc) : hadD b (s ++ [p]) = hadD b s + dryB (cutB b p.1 p.2) := by
  unfold hadD; rw [List.map_append, List.sum_append]; show _ + (dryB (cutB b p.1 p.2) + 0) = _; omega
theorem hadW_snoc (b : List Row) (s : List Pc) (p : Pc) : hadW b (s ++ [p]) = hadW b s + (lenB (cutB b p.1 p.2) - dryB (cutB b p.1 p.2)) := by
  unfold hadW; rw [List.map_append, List.sum_append]; show _ + ((lenB (cutB b p.1 p.2) - dryB (cutB b p.1 p.2)) + 0) = _; omega
theorem pl_had (b : List Row) (s : List Pc) : Pl 1 (hadX b s) := .tup fun d hd => by
  rcases List.mem_cons.mp hd with rfl | hd
  · exact .int _
  · rcases List.mem_cons.mp hd with rfl | hd
    · exact .int _
    · cases hd
theorem had_inj {b : List Row} {s t : List Pc} : (!decide (hadD b s = hadD b t ∧ hadW b s = hadW b t)) = true ↔ hadX b s ≠ hadX b t := by
  rw [Bool.not_eq_true', decide_eq_false_iff_not]
  refine not_congr ⟨fun ⟨h1, h2⟩ => ?_, fun h => ?_⟩
  · unfold hadX; rw [h1, h2]
  · unfold hadX at h
    injection h with h
    injection h with h1 h
    injection h with h2 _
    exact ⟨by injection h1, by injection h2⟩
theorem drop_at {α : Type} {l : List α} {i : Nat} {x : α} (h : l[i]? = some x) : l.drop i = x :: l.drop (i + 1) := by
  obtain ⟨hlt, e⟩ := List.getElem?_eq_some_iff.mp h
  rw [← e]; exact List.drop_eq_getElem_cons hlt
/-! ### the cuts found -/
def addC (st : List Int × List Int) (x : Int) : List Int × List Int := if x ∈ st.1 then st else (addU st.1 x, st.2 ++ [x])
structure CutI (z : Int) (ps : List Int) (st : List Int × List Int) : Prop where
  nd : st.2.Nodup
  ks : ∀ x, x ∈ st.1 ↔ x = 0 ∨ x = z ∨ x ∈ ps
  fs : ∀ x, x ∈ st.2 ↔ x ∈ ps ∧ x ≠ 0 ∧ x ≠ z
  l1 : st.1.length ≤ 2 + ps.length
  l2 : st.2.length ≤ ps.length
theorem CutI.start (z : Int) : CutI z [] (addU [0] z, []) where
  nd := .nil
  ks := fun x => by rw [mem_addU]; simp
  fs := fun x => by simp
  l1 := addU_len [0] z
  l2 := Nat.le_refl _
theorem CutI.step {z : Int} {ps : List Int} {st : List Int × List Int} (h : CutI z ps st) (x : Int) : CutI z (ps ++ [x]) (addC st x) := by
  unfold addC
  by_cases hx : x ∈ st.1
  · rw [if_pos hx]
    have q := (h.ks x).mp hx
    refine ⟨h.nd, fun y => ?_, fun y => ?_, ?_, ?_⟩
    · rw [h.ks y, List.mem_append, List.mem_singleton]
      constructor
      · rintro (e | e | e) <;> simp [e]
      · rintro (e | e | e | e)
        · exact .inl e
        · exact .inr (.inl e)
        · exact .inr (.inr e)
        · rw [e]; exact q
    · rw [h.fs y, List.mem_append, List.mem_singleton]
      constructor
      · rintro ⟨e, e2⟩; exact ⟨.inl e, e2⟩
      · rintro ⟨e | e, e2, e3⟩
        · exact ⟨e, e2, e3⟩
        · subst e
          rcases q with q | q | q
          · exact absurd q e2
          · exact absurd q e3
          · exact ⟨q, e2, e3⟩
    · have := h.l1; rw [List.length_append, List.length_singleton]; omega
    · have := h.l2; rw [List.length_append, List.length_singleton]; omega
  · rw [if_neg hx]
    have q : x ≠ 0 ∧ x ≠ z ∧ x ∉ ps := ⟨fun e => hx ((h.ks x).mpr (.inl e)), fun e => hx ((h.ks x).mpr (.inr (.inl e))), fun e => hx ((h.ks x).mpr (.inr (.inr e)))⟩
    refine ⟨?_, fun y => ?_, fun y => ?_, ?_, ?_⟩
    · show (st.2 ++ [x]).Nodup
      rw [List.nodup_append]
      exact ⟨h.nd, List.nodup_cons.mpr ⟨List.not_mem_nil, .nil⟩, fun a ha b hb e => by
        rw [List.mem_singleton.mp hb] at e
        subst e
        exact q.2.2 ((h.fs a).mp ha).1⟩
    · show y ∈ addU st.1 x ↔ _
      rw [mem_addU, h.ks y, List.mem_append, List.mem_singleton]
      constructor
      · rintro ((e | e | e) | e) <;> simp [e]
      · rintro (e | e | e | e) <;> simp [e]
    · show y ∈ st.2 ++ [x] ↔ _
      rw [List.mem_append, List.mem_singleton, h.fs y, List.mem_append, List.mem_singleton]
      constructor
      · rintro (⟨e, e2⟩ | e)
        · exact ⟨.inl e, e2⟩
        · subst e; exact ⟨.inr rfl, q.1, q.2.1⟩
      · rintro ⟨e | e, e2⟩
        · exact .inl ⟨e, e2⟩
        · exact .inr e
    · have := h.l1
      have := addU_len st.1 x
      rw [List.length_append, List.length_singleton]
      show (addU st.1 x).length ≤ _
      omega
    · have := h.l2
      show (st.2 ++ [x]).length ≤ (ps ++ [x]).length
      rw [List.length_append, List.length_append, List.length_singleton]; omega
theorem flat_ints (l : List Int) : ∀ d ∈ l.map D.int, Flat d := fun d hd => by
  obtain ⟨i, _, rfl⟩ := List.mem_map.mp hd
  exact .int i
section
variable {M : Mo} {f : Addr} {fd : FuncData}
theorem ok_all_pieces (F : Fun M.K "all_pieces" "all_pieces" s_all_pieces f fd) : FnOk M.P M.w M.K M.mg M.base (L2.CX M.P M.w) (M.k + 1) f fd ["shares"] (spOf M.K F_allp) := by
  refine fn_data F sc_all_pieces (fun ds o ⟨l, h, _⟩ => by rw [h]; rfl) (fun ds o ⟨l, h1, hl, h2⟩ => ?_)
  subst h1 h2
  walk_at "let"
  refine' dss_cons (ds_for' (items := l.map shD) (fun i S' => ∃ s, S' = [.val (shsD l), .own ((l.take i).flatten.map encP), s]) rfl (dit_list ?_) ?_ (fun i d S' hd hI => ?_) (fun S' hI => ?_) (fun _ _ => rfl))
  · walk_at "l"
  · exact ⟨_, rfl⟩
  · obtain ⟨s, rfl⟩ := hI
    obtain ⟨x, hx, rfl⟩ := map_get hd
    have e : (l.take (i + 1)).flatten.map encP = (l.take i).flatten.map encP ++ x.map encP := by rw [take_snoc hx, List.flatten_append, List.map_append, List.flatten_singleton]
    have hz : ((l.take i).flatten.map encP).length + (x.map encP).length ≤ 1000000 := by
      rw [← List.length_append, ← e, List.length_map]
      have : l.flatten.length = (l.take (i + 1)).flatten.length + (l.drop (i + 1)).flatten.length := by rw [← List.length_append, ← List.flatten_append, List.take_append_drop]
      omega
    walk_at "g1"
    obtain ⟨v, q1, q2⟩ := nmB_vis (C := C_all_pieces M) (x := "pieces") rfl
    refine' dss_one (ds_extend (lv := false) (ds := (l.take i).flatten.map encP) (ds' := x.map encP) 1 rfl ?he (.inr (flat_pcs x)) (idx_get rfl) v q1 q2 hz ?hn)
    case he => walk_at "l"
    case hn =>
      dsimp only
      rw [e]
      exact ⟨_, rfl⟩
  · obtain ⟨s, rfl⟩ := hI
    rw [List.length_map, List.take_length]
    exact dss_one (ds_retO1 rfl rfl rfl rfl)
theorem ok_in_order (F : Fun M.K "in_order" "in_order" s_in_order f fd) : FnOk M.P M.w M.K M.mg M.base (L2.CX M.P M.w) (M.k + 1) f fd ["share", "whole"] (spOf M.K F_ino) := by
  refine fn_data F sc_in_order (fun ds o ⟨l, z, h, _⟩ => by rw [h]; rfl) (fun ds o ⟨s, z, h1, h2⟩ => ?_)
  subst h1 h2
  walk_at "let"
  refine' dss_cons (ds_for' (items := s.map encP) (fun i S' => ∃ a g h, S' = [.val (shD s), .val (.int z), .val (.int a), g, h] ∧ iO z a (s.drop i) = iO z (-1) s) rfl (dit_list ?_) ?_ (fun i d S' hd hI => ?_) (fun S' hI => ?_) (fun _ _ => rfl))
  · walk_at "l"
  · exact ⟨_, _, _, rfl, rfl⟩
  · obtain ⟨a, g, h, rfl, e⟩ := hI
    obtain ⟨x, hx, rfl⟩ := map_get hd
    rw [drop_at hx, iO_cons] at e
    walk_at "g2"
    refine' dss_cons (ds_if (x := decide (x.1 ≤ a) || (decide (x.2 ≤ x.1) || decide (x.2 > z))) ?_ (fun hc => ?_) (fun hc => dss_nil ?_))
    · walk_at "t"
    · simp only [Bool.or_eq_true, decide_eq_true_eq] at hc
      rw [if_pos hc] at e
      rw [← e]
      walk_at "ret"
      rfl
    · simp only [Bool.or_eq_false_iff, decide_eq_false_iff_not] at hc
      rw [if_neg (by omega)] at e
      refine' dss_one (ds_let ?he rfl rfl (of_decide_eq_true rfl) ?hn ?hs)
      case he => walk_at "e"
      case hs => intro _; rfl
      case hn => exact ⟨_, _, _, rfl, e⟩
  · obtain ⟨a, g, h, rfl, e⟩ := hI
    rw [List.length_map, List.drop_length] at e
    rw [← e]
    walk_at "ret"
    rfl
theorem ok_end_to_end (n_sorted : M.mg "sorted" = none) (F : Fun M.K "end_to_end" "end_to_end" s_end_to_end f fd) : FnOk M.P M.w M.K M.mg M.base (L2.CX M.P M.w) (M.k + 1) f fd ["pieces", "whole"] (spOf M.K F_e2e) := by
  refine fn_data F sc_end_to_end (fun ds o ⟨l, z, h, _⟩ => by rw [h]; rfl) (fun ds o ⟨s, z, h1, h2⟩ => ?_)
  subst h1 h2
  walk_at "let"
  refine' dss_cons (ds_for' (items := (sortP s).map encP) (fun i S' => ∃ a g h, S' = [.val (shD s), .val (.int z), .val (.int a), g, h] ∧ eE z a ((sortP s).drop i) = eE z 0 (sortP s)) rfl (dit_list (dl_of (r := .own ((sortP s).map encP)) (de_sortT (k := kP) (enc := encP) (fun _ => rfl) kP_inj (fun _ => List.cons_ne_nil _ _) (glB_gl rfl).1 n_sorted ?_ ?_) rfl)) ?_ (fun i d S' hd hI => ?_) (fun S' hI => ?_) (fun _ _ => rfl))
  · walk_at "l"
  · intro _; rfl
  · exact ⟨_, _, _, rfl, rfl⟩
  · obtain ⟨a, g, h, rfl, e⟩ := hI
    obtain ⟨x, hx, rfl⟩ := map_get hd
    rw [drop_at hx, eE_cons] at e
    walk_at "g2"
    refine' dss_cons (ds_if (x := !decide (x.1 = a)) ?_ (fun hc => ?_) (fun hc => dss_nil ?_))
    · walk_at "t"
    · rw [Bool.not_eq_true', decide_eq_false_iff_not] at hc
      rw [if_pos hc] at e
      rw [← e]
      walk_at "ret"
      rfl
    · rw [Bool.not_eq_false', decide_eq_true_eq] at hc
      rw [if_neg (not_not_intro hc)] at e
      refine' dss_one (ds_let ?he rfl rfl (of_decide_eq_true rfl) ?hn ?hs)
      case he => walk_at "e"
      case hs => intro _; rfl
      case hn => exact ⟨_, _, _, rfl, e⟩
  · obtain ⟨a, g, h, rfl, e⟩ := hI
    rw [List.length_map, List.drop_length] at e
    rw [← e]
    show DSs _ _ _ (postOf (ok (.bl (decide (a = z)))))
    walk_at "ret"
    rfl
theorem ok_ground_had {AO : Addr} (c1 : Cal M "between" (F_between AO)) (F : Fun M.K "ground_had" "ground_had" s_ground_had f fd) : FnOk M.P M.w M.K M.mg M.base (L2.CX M.P M.w) (M.k + 1) f fd ["bank", "share"] (spOf M.K F_had) := by
  refine fn_data F sc_ground_had (fun ds o ⟨b, l, h, _⟩ => by rw [h]; rfl) (fun ds o ⟨b, s, h1, hl, hp, h2⟩ => ?_)
  subst h1 h2
  walk_at "let"
  walk_at "let"
  refine' dss_cons (ds_for' (items := s.map encP) (fun i S' => ∃ g h k, S' = [.val (encB b), .val (shD s), .val (.int (hadD b (s.take i))), .val (.int (hadW b (s.take i))), g, h, k]) rfl (dit_list ?_) ?_ (fun i d S' hd hI => ?_) (fun S' hI => ?_) (fun _ _ => rfl))
  · walk_at "l"
  · exact ⟨_, _, _, rfl⟩
  · obtain ⟨g, h, k, rfl⟩ := hI
    obtain ⟨x, hx, rfl⟩ := map_get hd
    have q := hp x (List.mem_of_getElem? hx)
    have hoff : ¬ (offB b x.1 (some x.2) = true) := by
      unfold offB
      show ¬ ((decide (x.1 < 0) || (decide (x.2 < x.1) || decide (lenB b < x.2))) = true)
      rw [decide_eq_false (by omega), decide_eq_false (by omega), decide_eq_false (by omega)]
      exact Bool.false_ne_true
    have fb : F_between AO [encB b, .int x.1, .int x.2] (ok (.tup [.int (dryB (cutB b x.1 x.2)), .int (lenB (cutB b x.1 x.2) - dryB (cutB b x.1 x.2))])) := ⟨b, x.1, some x.2, rfl, hl, by rw [if_neg hoff]; rfl⟩
    rw [take_snoc hx, hadD_snoc, hadW_snoc]
    generalize hadD b (s.take i) = hD at *
    generalize hadW b (s.take i) = hW at *
    generalize dryB (cutB b x.1 x.2) = dC at *
    generalize lenB (cutB b x.1 x.2) = lC at *
    walk_at "g2"
    walk_at "let"
    walk_at "let"
    refine' dss_one (ds_let ?he rfl rfl (of_decide_eq_true rfl) ?hn2 ?hs2)
    case he => walk_at "e"
    case hs2 => intro _; rfl
    case hn2 => exact ⟨_, _, _, rfl⟩
  · obtain ⟨g, h, k, rfl⟩ := hI
    rw [List.length_map, List.take_length]
    walk_at "ret"
    rfl
theorem ok_fair (c1 : Cal M "length" F_length) (c2 : Cal M "in_order" F_ino) (c3 : Cal M "end_to_end" F_e2e) (c4 : Cal M "all_pieces" F_allp) (c5 : Cal M "ground_had" F_had) (F : Fun M.K "fair" "fair" s_fair f fd) : FnOk M.P M.w M.K M.mg M.base (L2.CX M.P M.w) (M.k + 1) f fd ["bank", "shares"] (spOf M.K F_fair) := by
  refine fn_data F sc_fair (fun ds o ⟨b, l, h, _⟩ => by rw [h]; rfl) (fun ds o ⟨b, l, h1, hb, hl, h2⟩ => ?_)
  subst h1 h2
  have f1 : F_length [encB b] (ok (.int (lenB b))) := ⟨b, rfl, hb, rfl⟩
  walk_at "let"
  refine' dss_cons (ds_for' (items := l.map shD) (fun i S' => ∃ s, S' = [.val (encB b), .val (shsD l), .val (.int (lenB b)), s] ∧ (l.take i).all (fun s => iO (lenB b) (-1) s) = true) rfl (dit_list ?_) ?_ (fun i d S' hd hI => ?_) (fun S' hI => ?_) (fun _ _ => rfl))
  · walk_at "l"
  · exact ⟨_, rfl, rfl⟩
  · obtain ⟨s, rfl, ha⟩ := hI
    obtain ⟨x, hx, rfl⟩ := map_get hd
    have f2 : F_ino [shD x, .int (lenB b)] (ok (.bl (iO (lenB b) (-1) x))) := ⟨x, _, rfl, rfl⟩
    walk_at "g1"
    refine' dss_one (ds_if (x := !iO (lenB b) (-1) x) ?_ (fun hc => ?_) (fun hc => dss_nil ?_))
    · walk_at "t"
    · have e : fairM b l = false := by
        unfold fairM endB
        have : (l.all fun s => iO (lenB b) (-1) s) = false := by
          rw [Bool.eq_false_iff]
          intro z
          rw [List.all_eq_true.mp z x (List.mem_of_getElem? hx)] at hc
          cases hc
        rw [this]; rfl
      rw [e]
      walk_at "ret"
      rfl
    · refine ⟨_, rfl, ?_⟩
      rw [take_snoc hx, List.all_append, ha]
      rw [Bool.not_eq_false'] at hc
      simp [hc]
  · obtain ⟨s, rfl, ha⟩ := hI
    rw [List.length_map, List.take_length] at ha
    have f3 : F_allp [shsD l] (.ok (.own (l.flatten.map encP))) := ⟨l, rfl, hl, rfl⟩
    have f4 : F_e2e [.lst (l.flatten.map encP), .int (lenB b)] (ok (.bl (eE (lenB b) 0 (sortP l.flatten)))) := ⟨_, _, rfl, rfl⟩
    refine' dss_cons (ds_if (x := !eE (lenB b) 0 (sortP l.flatten)) (dt_not (dt_val (de_fnR (lv := true) c3 rfl (da_cons (dl_of (r := .own (l.flatten.map encP)) (de_fnR (lv := true) c4 rfl ?ha f3 (.inl rfl) ?h1 ?h2) rfl) (da_cons ?hb da_nil ?h3) ?h4) f4 (.inl rfl) ?h5 ?h6))) (fun hc => ?_) (fun hc => dss_nil ?_))
    case ha => walk_at "a"
    case hb => walk_at "l"
    case h1 => intro _; rfl
    case h2 => intro _; rfl
    case h3 => intro _; rfl
    case h4 => intro _; rfl
    case h5 => intro _; rfl
    case h6 => intro _; rfl
    · have e : fairM b l = false := by
        unfold fairM endB
        rw [Bool.not_eq_true'] at hc
        rw [hc, Bool.and_false]; rfl
      rw [e]
      walk_at "ret"
      rfl
    · rw [Bool.not_eq_false'] at hc
      have hE : endB (lenB b) l = true := by unfold endB; rw [ha, hc]; rfl
      have hm := good_mem (by rw [← end_good]; exact hE)
      have eF : fairM b l = l.all fun s => decide (hadD b s = hadD b (l.headD []) ∧ hadW b s = hadW b (l.headD [])) := by unfold fairM; rw [hE, Bool.true_and]
      rw [eF]
      have hm2 : ∀ s ∈ l, ∀ p ∈ s, 0 ≤ p.1 ∧ p.1 ≤ p.2 ∧ p.2 ≤ lenB b := fun s hs p hp => by have := hm s hs p hp; omega
      refine' dss_cons (ds_for' (items := l.map shD) (fun i S' => ∃ s, S' = [.val (encB b), .val (shsD l), .val (.int (lenB b)), s] ∧ (l.take i).all (fun s => decide (hadD b s = hadD b (l.headD []) ∧ hadW b s = hadW b (l.headD []))) = true) rfl (dit_list ?_) ?_ (fun i d S' hd hI => ?_) (fun S' hI => ?_) (fun _ _ => rfl))
      · walk_at "l"
      · exact ⟨_, rfl, rfl⟩
      · obtain ⟨s, rfl, ha2⟩ := hI
        obtain ⟨x, hx, rfl⟩ := map_get hd
        have hxm := List.mem_of_getElem? hx
        have hh : l[0]? = some (l.headD []) := by
          cases l with
          | nil => cases hxm
          | cons y l => rfl
        have hat : atI (l.map shD) 0 = some (shD (l.headD [])) := atI_nat' (by decide) (by rw [List.getElem?_map]; show (l[0]?).map shD = _; rw [hh]; rfl)
        have g1 : F_had [encB b, shD x] (ok (hadX b x)) := ⟨b, x, rfl, hb, hm2 x hxm, rfl⟩
        have g2 : F_had [encB b, shD (l.headD [])] (ok (hadX b (l.headD []))) := ⟨b, _, rfl, hb, hm2 _ (List.mem_of_getElem? hh), rfl⟩
        walk_at "g1"
        refine' dss_one (ds_if (x := !decide (hadD b x = hadD b (l.headD []) ∧ hadW b x = hadW b (l.headD []))) (dt_neD 1 (dl_of (r := .val (hadX b x)) (de_fnR (lv := true) c5 rfl ?ha g1 (.inl rfl) ?h1 ?h2) rfl) (dl_of (r := .val (hadX b (l.headD []))) (de_fnR (lv := true) c5 rfl ?hb g2 (.inl rfl) ?h3 ?h4) rfl) (pl_had _ _) (pl_had _ _) had_inj (by decide)) (fun hc => ?_) (fun hc => dss_nil ?_))
        case ha => walk_at "a"
        case hb => walk_at "a"
        case h1 => intro _; rfl
        case h2 => intro _; rfl
        case h3 => intro _; rfl
        case h4 => intro _; rfl
        · have e : (l.all fun s => decide (hadD b s = hadD b (l.headD []) ∧ hadW b s = hadW b (l.headD []))) = false := by
            rw [Bool.eq_false_iff]
            intro z
            rw [List.all_eq_true.mp z x hxm] at hc
            cases hc
          rw [e]
          walk_at "ret"
          rfl
        · refine ⟨_, rfl, ?_⟩
          rw [take_snoc hx, List.all_append, ha2]
          rw [Bool.not_eq_false'] at hc
          simp only [List.all_cons, List.all_nil, Bool.and_true, Bool.true_and]
          exact hc
      · obtain ⟨s, rfl, ha2⟩ := hI
        rw [List.length_map, List.take_length] at ha2
        rw [ha2]
        walk_at "ret"
        rfl
theorem ok_cuts (n_sorted : M.mg "sorted" = none) (c1 : Cal M "length" F_length) (c2 : Cal M "all_pieces" F_allp) (F : Fun M.K "cuts" "cuts" s_cuts f fd) : FnOk M.P M.w M.K M.mg M.base (L2.CX M.P M.w) (M.k + 1) f fd ["bank", "shares"] (spOf M.K F_cuts) := by
  refine fn_data F sc_cuts (fun ds o ⟨b, l, h, _⟩ => by rw [h]; rfl) (fun ds o ⟨b, l, h1, hb, hl, h2⟩ => ?_)
  subst h1 h2
  have f1 : F_length [encB b] (ok (.int (lenB b))) := ⟨b, rfl, hb, rfl⟩
  have f3 : F_allp [shsD l] (.ok (.own (l.flatten.map encP))) := ⟨l, rfl, hl, rfl⟩
  have hsl : (sortP l.flatten).length = l.flatten.length := (sortL_perm l.flatten).length_eq
  refine' dss_cons (ds_let (r := .ownD (dkT (addU [0] (lenB b)))) (de_disp2 ?ha de_bl ?hb de_bl) rfl rfl (of_decide_eq_true rfl) ?hnd ?hs)
  case ha => walk_at "e"
  case hb => walk_at "e"
  case hs => intro _; rfl
  walk_at "let"
  refine' dss_cons (ds_for' (items := (sortP l.flatten).map encP) (fun i S' => ∃ st g h k, S' = [.val (encB b), .val (shsD l), .ownD (dkT st.1), .own (st.2.map D.int), g, h, k] ∧ CutI (lenB b) (((sortP l.flatten).take i).flatMap fun p => [p.1, p.2]) st) rfl (dit_list (dl_of (r := .own ((sortP l.flatten).map encP)) (de_sortT (k := kP) (enc := encP) (fun _ => rfl) kP_inj (fun _ => List.cons_ne_nil _ _) (glB_gl rfl).1 n_sorted (dl_of (r := .own (l.flatten.map encP)) (de_fnR (lv := true) c2 rfl ?ha2 f3 (.inl rfl) ?h1 ?h2) rfl) ?_) rfl)) ?_ (fun i d S' hd hI => ?_) (fun S' hI => ?_) (fun _ _ => rfl))
  case ha2 => walk_at "a"
  case h1 => intro _; rfl
  case h2 => intro _; rfl
  · intro _; rfl
  · exact ⟨(addU [0] (lenB b), []), _, _, _, rfl, CutI.start _⟩
  · obtain ⟨st, g, h, k, rfl, hI⟩ := hI
    obtain ⟨x, hx, rfl⟩ := map_get hd
    have hil := (List.getElem?_eq_some_iff.mp hx).1
    rw [take_snoc hx, List.flatMap_append]
    have hlen : ∀ q : List Pc, (q.flatMap fun p : Pc => [p.1, p.2]).length = 2 * q.length := fun q => by
      induction q with
      | nil => rfl
      | cons p q ih => rw [List.flatMap_cons, List.length_append, ih]; show 2 + 2 * q.length = 2 * (q.length + 1); omega
    have hpl : (((sortP l.flatten).take i).flatMap fun p => [p.1, p.2]).length ≤ 200000 := by rw [hlen, List.length_take]; omega
    generalize (((sortP l.flatten).take i).flatMap fun p => [p.1, p.2]) = ps at *
    rw [show ([x].flatMap fun p : Pc => [p.1, p.2]) = [x.1, x.2] from rfl]
    walk_at "g2"
    refine' dss_one (ds_for' (items := [x.1, x.2].map D.int) (fun j S' => ∃ st k, S' = [.val (encB b), .val (shsD l), .ownD (dkT st.1), .own (st.2.map D.int), .val (.int x.1), .val (.int x.2), k] ∧ CutI (lenB b) (ps ++ [x.1, x.2].take j) st) rfl (dit_list (dl_of (r := .own ([x.1, x.2].map D.int)) ?_ rfl)) ?_ (fun j d S' hd hI => ?_) (fun S' hI => ?_) (fun _ _ => rfl))
    · walk_at "e"
    · exact ⟨st, _, rfl, by rw [List.take_zero, List.append_nil]; exact hI⟩
    · obtain ⟨st, k, rfl, hI⟩ := hI
      obtain ⟨y, hy, rfl⟩ := map_get hd
      have hI2 := hI.step y
      rw [List.append_assoc, ← take_snoc hy] at hI2
      have hjl : ([x.1, x.2].take j).length ≤ 2 := by rw [List.length_take]; exact Nat.min_le_right _ _
      have z1 := hI.l1
      have z2 := hI.l2
      rw [List.length_append] at z1 z2
      have hz : (st.2.map D.int).length ≤ 1000000 := by rw [List.length_map]; omega
      walk_at "g1"
      refine' dss_one (ds_if (x := !decide (y ∈ st.1)) (dt_notInD (j := 2) ?ha rfl rfl rfl rfl) (fun hc => ?_) (fun hc => dss_nil ?_))
      case ha => walk_at "e"
      · rw [Bool.not_eq_true', decide_eq_false_iff_not] at hc
        have e : addC st y = (addU st.1 y, st.2 ++ [y]) := by unfold addC; rw [if_neg hc]
        rw [e] at hI2
        refine' dss_cons (ds_dput (j := 2) (ks := st.1) de_bl ?hi rfl rfl rfl (by omega) ?hn ?hs)
        case hi => walk_at "e"
        case hs => intro _; rfl
        refine' dss_one ?_
        walk_at "app"
        refine ⟨(addU st.1 y, st.2 ++ [y]), .val (.int y), ?_, hI2⟩
        dsimp only
        rw [List.map_append]; rfl
      · rw [Bool.not_eq_false', decide_eq_true_eq] at hc
        have e : addC st y = st := by unfold addC; rw [if_pos hc]
        rw [e] at hI2
        exact ⟨st, _, rfl, hI2⟩
    · obtain ⟨st, k, rfl, hI⟩ := hI
      exact ⟨st, _, _, _, rfl, hI⟩
  · obtain ⟨st, g, h, k, rfl, hI⟩ := hI
    rw [List.length_map, List.take_length] at hI
    have e : srtI st.2 = cutsM b l := srtI_cuts hI.nd fun x => by
      rw [hI.fs, mem_pts]
      constructor
      · rintro ⟨⟨p, hp, h⟩, h2⟩; exact ⟨⟨p, mem_sortP.mp hp, h⟩, h2⟩
      · rintro ⟨⟨p, hp, h⟩, h2⟩; exact ⟨⟨p, mem_sortP.mpr hp, h⟩, h2⟩
    rw [← e]
    refine' dss_one (ds_ret (de_sortI (glB_gl rfl).1 n_sorted ?ha3 ?h3) ?hp)
    case ha3 => walk_at "l"
    case h3 => intro _; rfl
    case hp => rfl
end
/-! ## the law's rows and sums, walked -/
def rowsD (l : List (List Pc)) : Out := if l.all (fun s => okS (-1) s) = true then .ok (.own ((sortT (allT 0 l)).map encT3)) else ok .non
def F_rowsL (ds : List D) (o : Out) : Prop := ∃ l : List (List Pc), ds = [shsD l] ∧ l.flatten.length ≤ 100000 ∧ l.length ≤ 1000 ∧ o = rowsD l
abbrev enc2 (q : Int × Int) : List D := [.int q.1, .int q.2]
structure SumP (b : List Row) (rows : List Tr) (n : Nat) : Prop where
  ne : b ≠ []
  len : b.length ≤ 100000
  pos : ∀ r ∈ b, 0 < r.2
  okg : ∀ r ∈ b, okG r.1
  ch : Ch 0 (rows.map pT) (lenB b)
  hr : ∀ t ∈ rows, 0 ≤ t.2.2 ∧ t.2.2 < n
def F_sumsL (ds : List D) (o : Out) : Prop := ∃ (b : List Row) (rows : List Tr) (n : Nat), ds = [encB b, .lst (rows.map encT3), .int (n : Nat)] ∧ SumP b rows n ∧ n ≤ 1000 ∧ o = .ok (.own2 ((sumsM b n rows).map enc2))
theorem allT_snoc : ∀ (l : List (List Pc)) (k : Nat) (s : List Pc), allT (k : Nat) (l ++ [s]) = allT (k : Nat) l ++ trs ((k + l.length : Nat) : Int) s
  | [], k, s => by
    show trs (k : Nat) s ++ [] = [] ++ trs ((k + 0 : Nat) : Int) s
    rw [List.append_nil, List.nil_append, Nat.add_zero]
  | x :: l, k, s => by
    show trs (k : Nat) x ++ allT ((k : Int) + 1) (l ++ [s]) = (trs (k : Nat) x ++ allT ((k : Int) + 1) l) ++ _
    have e : ((k : Int) + 1) = ((k + 1 : Nat) : Int) := rfl
    rw [e, allT_snoc l (k + 1) s, List.append_assoc, List.length_cons, show k + 1 + l.length = k + (l.length + 1) by omega]
theorem allT_len (k : Int) (l : List (List Pc)) : (allT k l).length = l.flatten.length := by rw [← allT_proj k l, List.length_map]
theorem okS_if (a : Int) (p : Pc) (l : List Pc) : okS a (p :: l) = if p.1 ≤ a ∨ p.2 ≤ p.1 then false else okS p.2 l := rfl
theorem flat_T3 (l : List Tr) : ∀ d ∈ l.map encT3, Flat d := fun d hd => by
  obtain ⟨t, _, rfl⟩ := List.mem_map.mp hd
  exact .tup fun d hd => by
    rcases List.mem_cons.mp hd with rfl | hd
    · exact .int _
    · rcases List.mem_cons.mp hd with rfl | hd
      · exact .int _
      · rcases List.mem_cons.mp hd with rfl | hd
        · exact .int _
        · cases hd
/-! ### a place in the bank -/
def At (b : List Row) (x : Int) (i : Nat) (lf : Int) : Prop := ∃ r, b[i]? = some r ∧ x = pre b i + r.2 - lf ∧ 0 ≤ lf ∧ lf ≤ r.2 ∧ (lf = 0 → i + 1 = b.length)
theorem At.start {b : List Row} {r : Row} (hp : ∀ r ∈ b, 0 < r.2) (h : b[0]? = some r) : At b 0 0 r.2 := by
  have := hp r (List.mem_of_getElem? h)
  exact ⟨r, h, by rw [pre_zero]; omega, by omega, Int.le_refl _, fun e => by omega⟩
theorem At.some_left {b : List Row} {x : Int} {i : Nat} {lf : Int} (h : At b x i lf) (hx : x < lenB b) : 0 < lf := by
  obtain ⟨r, h1, h2, h3, h4, h5⟩ := h
  by_cases e : lf = 0
  · have q := h5 e
    have e2 := pre_succ h1
    rw [q, pre_all] at e2
    omega
  · omega
/-- one step of the walk -/
theorem At.step {b : List Row} {x : Int} {i : Nat} {lf p : Int} (h : At b x i lf) (h0 : 0 ≤ p) (hp : p ≤ lf) (hpos : ∀ r ∈ b, 0 < r.2) :
    (∀ r, b[i]? = some r → Gd b (x + p) - Gd b x = if r.1 = ("dry" : Str) then p else 0) ∧ (∀ r, lf - p = 0 → b[i + 1]? = some r → At b (x + p) (i + 1) r.2) ∧ ((lf - p = 0 → i + 1 = b.length) → At b (x + p) i (lf - p)) := by
  obtain ⟨r, h1, h2, h3, h4, h5⟩ := h
  refine ⟨fun q hq => ?_, fun q e hq => ?_, fun hl => ⟨r, h1, by omega, by omega, by omega, hl⟩⟩
  · rw [h1] at hq; cases hq
    have := Gd_in b i r x (x + p) hpos h1 (by omega) (by omega) (by omega)
    rw [this, show x + p - x = p by omega]
  · have := hpos q (List.mem_of_getElem? hq)
    exact ⟨q, hq, by rw [pre_succ h1]; omega, by omega, Int.le_refl _, fun e => by omega⟩
def selG (w : Bool) (q : Int × Int) : Int := if w = true then q.2 else q.1
def putG (w : Bool) (q : Int × Int) (v : Int) : Int × Int := if w = true then (q.1, v) else (v, q.2)
theorem atI_sel (w : Bool) (q : Int × Int) : atI (enc2 q) (if w = true then 1 else 0) = some (.int (selG w q)) := by cases w <;> rfl
theorem ix_sel (w : Bool) (q : Int × Int) : ixN (enc2 q).length (if w = true then 1 else 0) = some (if w = true then 1 else 0) := by cases w <;> rfl
theorem set_sel (w : Bool) (q : Int × Int) (v : Int) : (enc2 q).set (if w = true then 1 else 0) (.int v) = enc2 (putG w q v) := by cases w <;> rfl
/-- what the row has got so far -/
def gotS (b : List Row) (S : List (Int × Int)) (t : Tr) (x : Int) : List (Int × Int) := S.set t.2.2.toNat (plus (S.getD t.2.2.toNat (0, 0)) (svT b (t.1, x, t.2.2)))
theorem gotS_start {b : List Row} {S : List (Int × Int)} {t : Tr} (h : t.2.2.toNat < S.length) : gotS b S t t.1 = S := by
  unfold gotS svT
  show S.set _ (plus _ (Gd b t.1 - Gd b t.1, (t.1 - t.1) - (Gd b t.1 - Gd b t.1))) = S
  rw [Int.sub_self, Int.sub_self, Int.sub_self, plus_zero]
  apply List.ext_getElem?
  intro i
  rw [List.getElem?_set]
  by_cases e : t.2.2.toNat = i
  · rw [if_pos e, if_pos h, List.getD_eq_getElem?_getD, ← e, List.getElem?_eq_getElem h]; rfl
  · rw [if_neg e]
theorem gotS_end (b : List Row) (S : List (Int × Int)) (t : Tr) : gotS b S t t.2.1 = addS b S t := rfl
theorem gotS_get {b : List Row} {S : List (Int × Int)} {t : Tr} {x : Int} (h : t.2.2.toNat < S.length) : (gotS b S t x)[t.2.2.toNat]? = some (plus (S.getD t.2.2.toNat (0, 0)) (svT b (t.1, x, t.2.2))) := by
  unfold gotS
  rw [List.getElem?_set, if_pos rfl, if_pos h]
theorem gotS_len (b : List Row) (S : List (Int × Int)) (t : Tr) (x : Int) : (gotS b S t x).length = S.length := List.length_set ..
theorem gotS_step {b : List Row} {S : List (Int × Int)} {t : Tr} {x p : Int} {w : Bool} (hg : Gd b (x + p) - Gd b x = if w = true then 0 else p) :
    (gotS b S t x).set t.2.2.toNat (putG w (plus (S.getD t.2.2.toNat (0, 0)) (svT b (t.1, x, t.2.2))) (selG w (plus (S.getD t.2.2.toNat (0, 0)) (svT b (t.1, x, t.2.2))) + p)) = gotS b S t (x + p) := by
  unfold gotS
  rw [List.set_set]
  congr 1
  generalize S.getD t.2.2.toNat (0, 0) = q
  unfold putG selG plus svT
  cases w with
  | true =>
    rw [if_pos rfl] at hg
    rw [if_pos rfl, if_pos rfl, Prod.mk.injEq]
    dsimp only
    constructor <;> omega
  | false =>
    rw [if_neg Bool.false_ne_true] at hg
    rw [if_neg Bool.false_ne_true, if_neg Bool.false_ne_true, Prod.mk.injEq]
    dsimp only
    constructor <;> omega
theorem Ch.split : ∀ {l m : List Pc} {a z : Int}, Ch a (l ++ m) z → ∃ y, Ch a l y ∧ Ch y m z
  | [], m, a, z, h => ⟨a, rfl, h⟩
  | p :: l, m, a, z, h => by
    obtain ⟨h1, h2, h3⟩ := h
    obtain ⟨y, g1, g2⟩ := h3.split
    exact ⟨y, ⟨h1, h2, g1⟩, g2⟩
section
variable {M : Mo} {f : Addr} {fd : FuncData}
theorem ok_law_rows (T : Nn M) (n_sorted : M.mg "sorted" = none) (F : Fun M.K "_law_rows" "_law_rows" s_law_rows f fd) : FnOk M.P M.w M.K M.mg M.base (L2.CX M.P M.w) (M.k + 1) f fd ["_law_shares"] (spOf M.K F_rowsL) := by
  obtain ⟨_, _, _, n_len, _, _, _, _, _, n_range⟩ := T
  refine fn_data F sc_law_rows (fun ds o ⟨l, h, _⟩ => by rw [h]; rfl) (fun ds o ⟨l, h1, hl, hl2, h2⟩ => ?_)
  subst h1 h2
  walk_at "let"
  refine' dss_cons (ds_for' (items := (List.range l.length).map fun i => .int (i : Nat)) (fun i S' => ∃ g h k m, S' = [.val (shsD l), .own ((allT 0 (l.take i)).map encT3), g, h, k, m] ∧ (l.take i).all (fun s => okS (-1) s) = true) rfl (dit_range1 (glB_gl rfl).1 n_range (n := (l.length : Nat)) ?hr ?hb (fun _ => rfl)) ?_ (fun i d S' hd hI => ?_) (fun S' hI => ?_) (fun _ _ => rfl))
  case hr =>
    have e : ((l.length : Nat) : Int) = (((l.map shD).length : Nat) : Int) := by rw [List.length_map]
    rw [e]
    walk_at "e"
  case hb => omega
  · exact ⟨_, _, _, _, rfl, rfl⟩
  · obtain ⟨g, h, k, m, rfl, ha⟩ := hI
    obtain ⟨i', hi', rfl⟩ := map_get hd
    have hil : i < l.length := by
      have := (List.getElem?_eq_some_iff.mp hi').1
      rw [List.length_range] at this; exact this
    rw [List.getElem?_range hil] at hi'
    cases hi'
    have hs := List.getElem?_eq_getElem hil
    generalize l[i] = s at hs
    have hat : atI (l.map shD) (i : Nat) = some (shD s) := atI_nat' (by omega) (by rw [Int.toNat_natCast, List.getElem?_map, hs]; rfl)
    have eA : allT 0 (l.take (i + 1)) = allT 0 (l.take i) ++ trs (i : Nat) s := by
      have := allT_snoc (l.take i) 0 s
      rw [← take_snoc hs, List.length_take, Nat.zero_add, Nat.min_eq_left (by omega)] at this
      exact this
    have hfl : (allT 0 (l.take i)).length + s.length ≤ 100000 := by
      have e1 : (allT 0 (l.take (i + 1))).length = (l.take (i + 1)).flatten.length := allT_len _ _
      rw [eA, List.length_append] at e1
      unfold trs at e1
      rw [List.length_map] at e1
      have : l.flatten.length = (l.take (i + 1)).flatten.length + (l.drop (i + 1)).flatten.length := by rw [← List.length_append, ← List.flatten_append, List.take_append_drop]
      omega
    rw [eA, take_snoc hs, List.all_append, ha]
    generalize allT 0 (l.take i) = A at *
    walk_at "g1"
    walk_at "let"
    refine' dss_one (ds_for' (items := s.map encP) (fun j S' => ∃ a g h, S' = [.val (shsD l), .own ((A ++ trs (i : Nat) (s.take j)).map encT3), .val (.int (i : Nat)), .val (.int a), g, h] ∧ okS a (s.drop j) = okS (-1) s) rfl (dit_list ?_) ?_ (fun j d S' hd hI => ?_) (fun S' hI => ?_) (fun _ _ => rfl))
    · walk_at "l"
    · refine ⟨-1, k, m, ?_, rfl⟩
      rw [List.take_zero, show trs (i : Nat) [] = [] from rfl, List.append_nil]
      rfl
    · obtain ⟨a, g, h, rfl, e⟩ := hI
      obtain ⟨x, hx, rfl⟩ := map_get hd
      have hjl := (List.getElem?_eq_some_iff.mp hx).1
      rw [drop_at hx, okS_if] at e
      have hz : ((A ++ trs (i : Nat) (s.take j)).map encT3).length ≤ 1000000 := by
        unfold trs
        rw [List.length_map, List.length_append, List.length_map, List.length_take]; omega
      have eT : (A ++ trs (i : Nat) (s.take (j + 1))).map encT3 = (A ++ trs (i : Nat) (s.take j)).map encT3 ++ [encT3 (x.1, x.2, ((i : Nat) : Int))] := by
        unfold trs
        rw [take_snoc hx]
        simp only [List.map_append, List.map_cons, List.map_nil, List.append_assoc]
      walk_at "g2"
      refine' dss_cons (ds_if (x := decide (x.1 ≤ a) || decide (x.2 ≤ x.1)) ?_ (fun hc => ?_) (fun hc => dss_nil ?_))
      · walk_at "t"
      · simp only [Bool.or_eq_true, decide_eq_true_eq] at hc
        rw [if_pos hc] at e
        have eo : rowsD l = ok .non := by
          unfold rowsD
          rw [if_neg]
          intro z
          have := List.all_eq_true.mp z s (List.mem_of_getElem? hs)
          rw [← e] at this
          cases this
        rw [eo]
        walk_at "ret"
        rfl
      · simp only [Bool.or_eq_false_iff, decide_eq_false_iff_not] at hc
        rw [if_neg (by omega)] at e
        walk_at "let"
        refine' dss_one ?_
        walk_at "app"
        dsimp only
        refine ⟨_, .val (.int x.1), .val (.int x.2), ?_, e⟩
        rw [eT]
        rfl
    · obtain ⟨a, g, h, rfl, e⟩ := hI
      rw [List.length_map, List.drop_length] at e
      rw [List.length_map, List.take_length]
      refine ⟨_, _, _, _, rfl, ?_⟩
      simp only [List.all_cons, List.all_nil, Bool.and_true, Bool.true_and]
      exact e.symm
  · obtain ⟨g, h, k, m, rfl, ha⟩ := hI
    rw [List.length_map, List.length_range, List.take_length] at ha ⊢
    have eo : rowsD l = .ok (.own ((sortT (allT 0 l)).map encT3)) := by unfold rowsD; rw [if_pos ha]
    rw [eo]
    refine' dss_one (ds_ret (de_sortT (k := kT) (enc := encT3) (fun _ => rfl) kT_inj (fun _ => List.cons_ne_nil _ _) (glB_gl rfl).1 n_sorted ?ha3 ?h3) ?hp)
    case ha3 => walk_at "l"
    case h3 => intro _; rfl
    case hp => rfl
set_option maxHeartbeats 2000000 in
theorem ok_law_sums (T : Nn M) (F : Fun M.K "_law_sums" "_law_sums" s_law_sums f fd) : FnOk M.P M.w M.K M.mg M.base (L2.CX M.P M.w) (M.k + 1) f fd ["_law_bank", "_law_rows_here", "_law_many"] (spOf M.K F_sumsL) := by
  obtain ⟨_, _, n_min, n_len, _, n_int, _, _, _, n_range⟩ := T
  refine fn_data F sc_law_sums (fun ds o ⟨b, rows, n, h, _⟩ => by rw [h]; rfl) (fun ds o ⟨b, rows, n, h1, hS, hn, h2⟩ => ?_)
  subst h1 h2
  obtain ⟨r0, hr0⟩ : ∃ r, b[0]? = some r := by
    cases b with
    | nil => exact absurd rfl hS.ne
    | cons r b => exact ⟨r, rfl⟩
  have hp0 := hS.pos r0 (List.mem_of_getElem? hr0)
  have hat0 : atI (b.map encRow) 0 = some (encRow r0) := atI_nat' (by decide) (by rw [List.getElem?_map]; show (b[0]?).map encRow = _; rw [hr0]; rfl)
  have hlb := hS.len
  refine' dss_cons (ds_setLc2 (lv := true) 3 [("_law_k", 12)] (List.range n) (fun i => D.int (i : Nat)) (fun _ => enc2 (0, 0)) rfl rfl (of_decide_eq_true rfl) rfl rfl rfl rfl (dit_range1 (glB_gl rfl).1 n_range (n := ((n : Nat) : Int)) ?hr ?hb (fun _ => rfl)) rfl (by rw [List.length_range]; omega) (.inl rfl) (fun _ _ => ?hf2) ?he4 ?hP4 ?hf4)
  case hf4 => intro _ _; rfl
  case hr => walk_at "e"
  case hb => omega
  case hf2 => exact flat_ints [0, 0]
  case he4 =>
    intro s hs
    refine ⟨_, dgc_nm rfl rfl rfl, ?_⟩
    walk_at "e"
  have e0 : (List.range n).map (fun _ => enc2 (0, 0)) = (sumsM b n (rows.take 0)).map enc2 := by
    show _ = (List.replicate n ((0 : Int), (0 : Int))).map enc2
    rw [List.map_replicate, List.eq_replicate_iff]
    exact ⟨by rw [List.length_map, List.length_range], fun x hx => by obtain ⟨_, _, rfl⟩ := List.mem_map.mp hx; rfl⟩
  rw [e0]
  walk_at "let"
  walk_at "let"
  refine' dss_cons (ds_for' (items := rows.map encT3) (fun j S' => ∃ (i : Nat) (lf x : Int) (g1 g2 g3 g4 g5 g6 : Slot), S' = [.val (encB b), .val (.lst (rows.map encT3)), .val (.int (n : Nat)), .own2 ((sumsM b n (rows.take j)).map enc2), .val (.int (i : Nat)), .val (.int lf), g1, g2, g3, g4, g5, g6, .any] ∧ At b x i lf ∧ Ch x ((rows.drop j).map pT) (lenB b)) rfl (dit_list ?_) ?_ (fun j d S' hd hI => ?_) (fun S' hI => ?_) (fun _ _ => rfl))
  · walk_at "l"
  · exact ⟨0, r0.2, 0, _, _, _, _, _, _, rfl, At.start hS.pos hr0, hS.ch⟩
  · obtain ⟨i, lf, x, g1, g2, g3, g4, g5, g6, rfl, hA, hC⟩ := hI
    obtain ⟨t, ht, rfl⟩ := map_get hd
    rw [drop_at ht] at hC
    obtain ⟨hc1, hc2, hc3⟩ := hC
    have hc1' : t.1 = x := hc1
    have hc2' : t.1 < t.2.1 := hc2
    have hc3' : t.2.1 ≤ lenB b := hc3.le
    subst hc1'
    have hh := hS.hr t (List.mem_of_getElem? ht)
    have eS : sumsM b n (rows.take (j + 1)) = addS b (sumsM b n (rows.take j)) t := by
      unfold sumsM
      rw [take_snoc ht, List.foldl_append]; rfl
    have hlen : (sumsM b n (rows.take j)).length = n := by unfold sumsM; rw [fold_len, List.length_replicate]
    rw [eS]
    generalize sumsM b n (rows.take j) = S0 at *
    have hhn : t.2.2.toNat < S0.length := by omega
    refine' dg_tup3 6 7 8 (idx_get rfl) (idx_get rfl) (idx_get rfl) (locB_loc rfl) (locB_loc rfl) (locB_loc rfl) (of_decide_eq_true rfl) (of_decide_eq_true rfl) (of_decide_eq_true rfl) ?hg3
    case hg3 =>
    walk_at "let"
    refine' dss_one (ds_while rfl (fun m S' => ∃ (need : Int) (i : Nat) (lf x : Int) (g5 g6 : Slot), S' = [.val (encB b), .val (.lst (rows.map encT3)), .val (.int (n : Nat)), .own2 ((gotS b S0 t x).map enc2), .val (.int (i : Nat)), .val (.int lf), .val (.int t.1), .val (.int t.2.1), .val (.int t.2.2), .val (.int need), g5, g6, .any] ∧ m = need.toNat ∧ 0 ≤ need ∧ x + need = t.2.1 ∧ At b x i lf) (t.2.1 - t.1).toNat ?h0 ?hs)
    case h0 => exact ⟨t.2.1 - t.1, i, lf, t.1, _, _, by rw [gotS_start hhn]; rfl, rfl, by omega, by omega, hA⟩
    case hs =>
      rintro m S' ⟨need, i, lf, x, g5, g6, rfl, rfl, hn0, hxe, hA⟩
      refine ⟨decide (need > 0), ?_, fun hc => ?_, fun hc => ?_⟩
      · walk_at "t"
      · have hc := of_decide_eq_true hc
        have hlf := hA.some_left (by omega)
        obtain ⟨r, hr⟩ : ∃ r, b[i]? = some r := by obtain ⟨r, h, _⟩ := hA; exact ⟨r, h⟩
        have hil := (List.getElem?_eq_some_iff.mp hr).1
        obtain ⟨s1, s2, s3⟩ := hA.step (p := min need lf) (by omega) (by omega) hS.pos
        have hog := hS.okg r (List.mem_of_getElem? hr)
        have hat : atI (b.map encRow) (i : Nat) = some (encRow r) := atI_nat' (by omega) (by rw [Int.toNat_natCast, List.getElem?_map, hr]; rfl)
        have hgs : Gd b (x + min need lf) - Gd b x = if decide (r.1 = ("wet" : Str)) = true then 0 else min need lf := by
          rw [s1 r hr]
          rcases hog with e | e
          · rw [e, if_pos rfl, if_neg (by decide +kernel)]
          · rw [e, if_neg (by decide +kernel), if_pos (by decide +kernel)]
        obtain ⟨w, hw⟩ : ∃ w, decide (r.1 = ("wet" : Str)) = w := ⟨_, rfl⟩
        rw [hw] at hgs
        have hgq := gotS_get (b := b) (x := x) hhn
        have hstep := gotS_step (S := S0) (t := t) hgs
        have hgl := gotS_len b S0 t x
        generalize plus (S0.getD t.2.2.toNat (0, 0)) (svT b (t.1, x, t.2.2)) = q at *
        generalize gotS b S0 t x = S1 at *
        have hix : ixN (S1.map enc2).length t.2.2 = some t.2.2.toNat := by
          unfold ixN
          rw [List.length_map, if_pos hh.1, if_pos (by omega)]
        have hSg : (S1.map enc2)[t.2.2.toNat]? = some (enc2 q) := by rw [List.getElem?_map, hgq]; rfl
        have hats : atI ((S1.map enc2).map D.lst) t.2.2 = some (.lst (enc2 q)) := atI_nat' hh.1 (by rw [List.getElem?_map, hSg]; rfl)
        have hsel := atI_sel w q
        walk_at "let"
        walk_at "let"
        rw [hw]
        obtain ⟨v, q1, q2⟩ := nmB_vis (C := C_law_sums M) (x := "_law_sums_here") rfl
        refine' dss_cons (ds_setItem2 (d := .int (selG w q + min need lf)) (k := t.2.2) (k2 := if w = true then 1 else 0) 3 rfl ?he5 ?hi5 ?hi6 hix hSg (ix_sel w q) (idx_get rfl) v q1 q2 (fun _ _ => rfl) ?hn5)
        case he5 => walk_at "l"
        case hi5 => walk_at "e"
        case hi6 => walk_at "e"
        case hn5 =>
        dsimp only
        rw [set_sel, ← List.map_set, hstep]
        walk_at "let"
        walk_at "let"
        refine' dss_one (ds_if (x := decide (lf - min need lf = 0) && decide ((i : Nat) + (1 : Int) < (((b.map encRow).length : Nat) : Int))) ?_ (fun hc2 => ?_) (fun hc2 => dss_nil ?_))
        · walk_at "t"
        · simp only [Bool.and_eq_true, decide_eq_true_eq, List.length_map] at hc2
          have hi1 : i + 1 < b.length := by omega
          have hr1 := List.getElem?_eq_getElem hi1
          generalize b[i + 1] = r1 at hr1
          have hat1 : atI (b.map encRow) ((i : Nat) + (1 : Int)) = some (encRow r1) := atI_nat' (by omega) (by
            rw [show ((i : Nat) + (1 : Int)).toNat = i + 1 by omega, List.getElem?_map, hr1]; rfl)
          walk_at "let"
          refine' dss_one (ds_let (r := .val (.int r1.2)) ?he6 rfl rfl (of_decide_eq_true rfl) ?hn6 ?hs6)
          case he6 => walk_at "e"
          case hs6 => intro _; rfl
          case hn6 => exact ⟨(need - min need lf).toNat, by omega, need - min need lf, i + 1, r1.2, x + min need lf, _, _, rfl, rfl, by omega, by omega, s2 r1 hc2.1 hr1⟩
        · have hl : lf - min need lf = 0 → i + 1 = b.length := fun e => by
            rw [decide_eq_true e, Bool.true_and] at hc2
            have := of_decide_eq_false hc2
            rw [List.length_map] at this
            omega
          exact ⟨(need - min need lf).toNat, by omega, need - min need lf, i, lf - min need lf, x + min need lf, _, _, rfl, rfl, by omega, by omega, s3 hl⟩
      · have hc := of_decide_eq_false hc
        have e : need = 0 := by omega
        subst e
        rw [Int.add_zero] at hxe
        subst hxe
        exact ⟨i, lf, t.2.1, _, _, _, _, _, _, rfl, hA, hc3⟩
  · obtain ⟨i, lf, x, g1, g2, g3, g4, g5, g6, rfl, hA, hC⟩ := hI
    rw [List.length_map, List.take_length]
    obtain ⟨v, q1, q2⟩ := nmB_vis (C := C_law_sums M) (x := "_law_sums_here") rfl
    exact dss_one (ds_retOwn2 3 rfl (idx_get rfl) v q1 q2 rfl)
end
/-! ## dealing block by block: plain law -/
def addJ (acc : List Pc) (p : Pc) : List Pc := match acc.getLast? with
  | some r => if r.2 = p.1 then acc.dropLast ++ [(r.1, p.2)] else acc ++ [p]
  | none => acc ++ [p]
def joinL (s : List Pc) : List Pc := s.foldl addJ []
def joinM (s : List Pc) : List Pc := joinL (sortP s)
theorem addJ_nil (p : Pc) : addJ [] p = [p] := rfl
theorem addJ_snoc (a : List Pc) (r p : Pc) : addJ (a ++ [r]) p = if r.2 = p.1 then a ++ [(r.1, p.2)] else (a ++ [r]) ++ [p] := by
  unfold addJ
  rw [List.getLast?_append, List.getLast?_singleton]
  show (if r.2 = p.1 then (a ++ [r]).dropLast ++ [(r.1, p.2)] else _) = _
  rw [List.dropLast_concat]
theorem joinL_snoc (s : List Pc) (p : Pc) : joinL (s ++ [p]) = addJ (joinL s) p := by unfold joinL; rw [List.foldl_append]; rfl
theorem addJ_len (a : List Pc) (p : Pc) : (addJ a p).length ≤ a.length + 1 := by
  rcases List.eq_nil_or_concat a with rfl | ⟨b, r, rfl⟩
  · exact Nat.le_refl _
  · rw [List.concat_eq_append, addJ_snoc]
    split
    · rw [List.length_append, List.length_append]; show b.length + 1 ≤ b.length + 1 + 1; omega
    · rw [List.length_append, List.length_append]; exact Nat.le_refl _
theorem joinL_len (s : List Pc) : (joinL s).length ≤ s.length := by
  have : ∀ (s a : List Pc), (s.foldl addJ a).length ≤ a.length + s.length := fun s => by
    induction s with
    | nil => intro a; exact Nat.le_refl _
    | cons p s ih => intro a; have := ih (addJ a p); have := addJ_len a p; rw [List.foldl_cons, List.length_cons]; omega
  have := this s []
  rw [List.length_nil] at this
  unfold joinL; omega
/-- ends and begins rising, pieces may touch -/
def okW : Int → List Pc → Prop
  | _, [] => True
  | b, p :: l => b ≤ p.1 ∧ p.1 < p.2 ∧ okW p.2 l
theorem okW_snoc : ∀ {l : List Pc} {b : Int} {p : Pc}, okW b l → b ≤ p.1 → (∀ q ∈ l, q.2 ≤ p.1) → p.1 < p.2 → okW b (l ++ [p])
  | [], _, _, _, h, _, h2 => ⟨h, h2, trivial⟩
  | q :: l, b, p, h, h1, h2, h3 => ⟨h.1, h.2.1, okW_snoc h.2.2 (h2 q (.head _)) (fun x hx => h2 x (.tail _ hx)) h3⟩
theorem okW_mem : ∀ {l : List Pc} {b : Int}, okW b l → ∀ p ∈ l, b ≤ p.1 ∧ p.1 < p.2
  | q :: l, b, h, p, hp => by
    obtain ⟨h1, h2, h3⟩ := h
    rcases List.mem_cons.mp hp with rfl | hp
    · exact ⟨h1, h2⟩
    · have := okW_mem h3 p hp; omega
theorem okW_srt : ∀ {l : List Pc} {b : Int}, okW b l → SrtO.Srtd (ltK kP) l
  | [], _, _ => .nil
  | q :: l, b, h => by
    obtain ⟨h1, h2, h3⟩ := h
    refine List.pairwise_cons.mpr ⟨fun x hx => ?_, okW_srt h3⟩
    have := okW_mem h3 x hx
    show lexL [x.1, x.2] [q.1, q.2] = false
    unfold lexL
    rw [if_neg (by omega)]
    exact decide_eq_false (by omega)
theorem okW_join {s : List Pc} {b : Int} (h : okW b s) : joinM s = joinL s := by
  unfold joinM sortP
  rw [← sortL_eq kP_inj (okW_srt h) (List.Perm.refl s)]
theorem shG_join (b : List Row) : ∀ (s a : List Pc), shG b (s.foldl addJ a) = shG b a + shG b s
  | [], a => (Int.add_zero _).symm
  | p :: s, a => by
    have e : shG b (addJ a p) = shG b a + (Gd b p.2 - Gd b p.1) := by
      have z : ∀ q : Pc, shG b [q] = Gd b q.2 - Gd b q.1 := fun q => by rw [shG_cons]; show _ + (0 : Int) = _; omega
      rcases List.eq_nil_or_concat a with rfl | ⟨a, r, rfl⟩
      · rw [addJ_nil, z]; show _ = (0 : Int) + _; omega
      · rw [List.concat_eq_append, addJ_snoc]
        split
        · rename_i e
          rw [shG_app, shG_app, z, z, ← e]
          show _ + (Gd b p.2 - Gd b r.1) = _
          omega
        · rw [shG_app _ _ [p], z]
    rw [List.foldl_cons, shG_join b s, e, shG_cons]; omega
theorem shL_join : ∀ (s a : List Pc), shL (s.foldl addJ a) = shL a + shL s
  | [], a => (Int.add_zero _).symm
  | p :: s, a => by
    have e : shL (addJ a p) = shL a + (p.2 - p.1) := by
      have z : ∀ q : Pc, shL [q] = q.2 - q.1 := fun q => by rw [shL_cons]; show _ + (0 : Int) = _; omega
      rcases List.eq_nil_or_concat a with rfl | ⟨a, r, rfl⟩
      · rw [addJ_nil, z]; show _ = (0 : Int) + _; omega
      · rw [List.concat_eq_append, addJ_snoc]
        split
        · rename_i e
          rw [shL_app, shL_app, z, z, ← e]
          show _ + (p.2 - r.1) = _
          omega
        · rw [shL_app _ [p], z]
    rw [List.foldl_cons, shL_join s, e, shL_cons]; omega
theorem svs_join (b : List Row) (s : List Pc) : svs b (joinL s) = svs b s := by
  have h1 := shG_join b s []
  have h2 := shL_join s []
  have e1 : shG b [] = 0 := rfl
  have e2 : shL [] = 0 := rfl
  rw [e1, Int.zero_add] at h1
  rw [e2, Int.zero_add] at h2
  unfold svs joinL
  rw [h1, h2]
theorem perm_set {α : Type} : ∀ {l : List (List α)} {h : Nat} {s : List α}, l[h]? = some s → ∃ rest, l.flatten.Perm (s ++ rest) ∧ ∀ s', (l.set h s').flatten.Perm (s' ++ rest)
  | x :: l, 0, s, e => by
    cases e
    exact ⟨l.flatten, by rw [List.flatten_cons], fun s' => by rw [List.set_cons_zero, List.flatten_cons]⟩
  | x :: l, h + 1, s, e => by
    obtain ⟨rest, h1, h2⟩ := perm_set (l := l) (h := h) (by simpa using e)
    have sw : ∀ t : List α, (x ++ (t ++ rest)).Perm (t ++ (x ++ rest)) := fun t => by
      rw [← List.append_assoc, ← List.append_assoc]
      exact List.perm_append_comm.append_right _
    refine ⟨x ++ rest, ?_, fun s' => ?_⟩
    · rw [List.flatten_cons]; exact (h1.append_left x).trans (sw s)
    · rw [List.set_cons_succ, List.flatten_cons]; exact ((h2 s').append_left x).trans (sw s')
theorem Ch.split2 : ∀ {l m : List Pc} {a z : Int}, Ch a (l ++ m) z → ∃ y, Ch a l y ∧ Ch y m z
  | [], m, a, z, h => ⟨a, rfl, h⟩
  | p :: l, m, a, z, h => by
    obtain ⟨h1, h2, h3⟩ := h
    obtain ⟨y, g1, g2⟩ := h3.split2
    exact ⟨y, ⟨h1, h2, g1⟩, g2⟩
theorem Ch.one {a z : Int} (h : a < z) : Ch a [(a, z)] z := ⟨rfl, h, rfl⟩
theorem okS_snoc : ∀ {l : List Pc} {b : Int} {p : Pc}, okS b l = true → b < p.1 → (∀ q ∈ l, q.2 < p.1) → p.1 < p.2 → okS b (l ++ [p]) = true
  | [], _, _, _, h, _, h2 => okS_cons.mpr ⟨h, h2, rfl⟩
  | q :: l, b, p, h, h1, h2, h3 => by
    obtain ⟨g1, g2, g3⟩ := okS_cons.mp h
    exact okS_cons.mpr ⟨g1, g2, okS_snoc g3 (h2 q (.head _)) (fun x hx => h2 x (.tail _ hx)) h3⟩
theorem okS_left : ∀ {l m : List Pc} {b : Int}, okS b (l ++ m) = true → okS b l = true
  | [], _, _, _ => rfl
  | q :: l, m, b, h => by
    obtain ⟨g1, g2, g3⟩ := okS_cons.mp h
    exact okS_cons.mpr ⟨g1, g2, okS_left g3⟩
theorem okS_grow : ∀ {l : List Pc} {b : Int} {r : Pc} {z : Int}, okS b (l ++ [r]) = true → r.1 < z → okS b (l ++ [(r.1, z)]) = true
  | [], b, r, z, h, hz => by
    obtain ⟨g1, g2, _⟩ := okS_cons.mp h
    exact okS_cons.mpr ⟨g1, hz, rfl⟩
  | q :: l, b, r, z, h, hz => by
    obtain ⟨g1, g2, g3⟩ := okS_cons.mp h
    exact okS_cons.mpr ⟨g1, g2, okS_grow g3 hz⟩
theorem okS_before : ∀ {l : List Pc} {b : Int} {r : Pc}, okS b (l ++ [r]) = true → ∀ q ∈ l, q.2 < r.1
  | q :: l, b, r, h, x, hx => by
    obtain ⟨g1, g2, g3⟩ := okS_cons.mp h
    rcases List.mem_cons.mp hx with rfl | hx
    · exact (okS_mem g3 r (List.mem_append_right _ (.head _))).1
    · exact okS_before g3 x hx
/-- the bank and the raw shares while it is dealt -/
structure Dl (n : Nat) (b : List Row) (R : List (List Pc)) : Prop where
  len : R.length = n
  pos : ∀ r ∈ b, 0 < r.2
  okg : ∀ r ∈ b, okG r.1
  ris : ∀ s ∈ R, okW 0 s ∧ ∀ p ∈ s, p.2 ≤ lenB b
  ok : ∀ s ∈ R, okS (-1) (joinL s) = true
  ch : ∃ Q, Q.Perm (R.map joinL).flatten ∧ Ch 0 Q (lenB b)
theorem Dl.start (n : Nat) : Dl n [] (List.replicate n []) where
  len := List.length_replicate
  pos := fun _ h => by cases h
  okg := fun _ h => by cases h
  ris := fun s hs => by rw [(List.mem_replicate.mp hs).2]; exact ⟨trivial, fun _ h => by cases h⟩
  ok := fun s hs => by rw [(List.mem_replicate.mp hs).2]; rfl
  ch := ⟨[], by
    have : (List.map joinL (List.replicate n [])).flatten = [] := by
      rw [List.map_replicate]
      induction n with
      | zero => rfl
      | succ n ih => rw [List.replicate_succ, List.flatten_cons, ih]; rfl
    rw [this], rfl⟩
/-- one piece more, with its ground behind the bank -/
theorem Dl.step {n : Nat} {b b' : List Row} {R : List (List Pc)} {h : Nat} {s : List Pc} (D : Dl n b R) (hs : R[h]? = some s) (hp : ∀ r ∈ b', 0 < r.2) (hg : ∀ r ∈ b', okG r.1) (hl : lenB b < lenB b') : Dl n b' (R.set h (s ++ [(lenB b, lenB b')])) := by
  have h0 := lenB_nn D.pos
  have hsm := List.mem_of_getElem? hs
  obtain ⟨r1, r2⟩ := D.ris s hsm
  have hos := D.ok s hsm
  obtain ⟨Q, q1, q2⟩ := D.ch
  have hJ : (R.map joinL)[h]? = some (joinL s) := by rw [List.getElem?_map, hs]; rfl
  obtain ⟨rest, e1, e2⟩ := perm_set hJ
  have hmem : ∀ p ∈ joinL s, p.1 < p.2 ∧ p.2 ≤ lenB b := fun p hp => by
    have := q2.mem p (q1.mem_iff.mpr (e1.mem_iff.mpr (List.mem_append_left _ hp)))
    omega
  have eset : (R.set h (s ++ [(lenB b, lenB b')])).map joinL = (R.map joinL).set h (addJ (joinL s) (lenB b, lenB b')) := by rw [List.map_set, joinL_snoc]
  have key : okS (-1) (addJ (joinL s) (lenB b, lenB b')) = true ∧ ∃ Q, Q.Perm (addJ (joinL s) (lenB b, lenB b') ++ rest) ∧ Ch 0 Q (lenB b') := by
    have q1' := q1.trans e1
    generalize joinL s = a at *
    have app : (∀ p ∈ a, p.2 < lenB b) → addJ a (lenB b, lenB b') = a ++ [(lenB b, lenB b')] → okS (-1) (addJ a (lenB b, lenB b')) = true ∧ ∃ Q, Q.Perm (addJ a (lenB b, lenB b') ++ rest) ∧ Ch 0 Q (lenB b') := fun hlt e => by
      rw [e]
      refine ⟨okS_snoc hos (by show -1 < lenB b; omega) hlt hl, Q ++ [(lenB b, lenB b')], ?_, q2.app (Ch.one hl)⟩
      have : (a ++ [(lenB b, lenB b')] ++ rest).Perm ((a ++ rest) ++ [(lenB b, lenB b')]) := by
        rw [List.append_assoc, List.append_assoc]
        exact List.perm_append_comm.append_left a
      exact (q1'.append_right _).trans this.symm
    rcases List.eq_nil_or_concat a with rfl | ⟨a, r, rfl⟩
    · exact app (fun p hp => by cases hp) rfl
    · rw [List.concat_eq_append] at *
      by_cases hr : r.2 = lenB b
      · have e : addJ (a ++ [r]) (lenB b, lenB b') = a ++ [(r.1, lenB b')] := by rw [addJ_snoc, if_pos hr]
        rw [e]
        have hrm := hmem r (List.mem_append_right _ (.head _))
        refine ⟨okS_grow hos (by omega), ?_⟩
        obtain ⟨A, B, eQ⟩ := List.append_of_mem (q1'.mem_iff.mpr (List.mem_append_left _ (List.mem_append_right _ (.head _))) : r ∈ Q)
        rw [eQ] at q2 q1'
        obtain ⟨y, g1, g2⟩ := q2.split2
        obtain ⟨g3, g4, g5⟩ := g2
        have hB : B = [] := by
          cases B with
          | nil => rfl
          | cons x B =>
            have := g5.2.1
            have := g5.1
            have := g5.2.2.le
            omega
        rw [hB] at q1'
        refine ⟨A ++ [(r.1, lenB b')], ?_, g1.app (by rw [← g3]; exact Ch.one (by omega))⟩
        have p1 : (A ++ [r]).Perm ((a ++ rest) ++ [r]) := q1'.trans (by
          rw [List.append_assoc, List.append_assoc]
          exact List.perm_append_comm.append_left a)
        have p2 : A.Perm (a ++ rest) := by
          have p3 : (r :: A).Perm (r :: (a ++ rest)) := (List.perm_append_comm (l₁ := [r]) (l₂ := A)).trans (p1.trans (List.perm_append_comm (l₁ := a ++ rest) (l₂ := [r])))
          exact p3.cons_inv
        refine (p2.append_right _).trans ?_
        rw [List.append_assoc, List.append_assoc]
        exact List.perm_append_comm.append_left a
      · refine app (fun p hp => ?_) (by rw [addJ_snoc, if_neg hr])
        rcases List.mem_append.mp hp with hp | hp
        · have a1 := okS_before hos p hp
          have a2 := hmem r (List.mem_append_right _ (.head _))
          omega
        · rw [List.mem_singleton.mp hp]
          have a2 := hmem r (List.mem_append_right _ (.head _))
          omega
  refine ⟨by rw [List.length_set]; exact D.len, hp, hg, fun t ht => ?_, fun t ht => ?_, ?_⟩
  · rcases List.mem_or_eq_of_mem_set ht with ht | rfl
    · obtain ⟨a1, a2⟩ := D.ris t ht
      exact ⟨a1, fun p hp => by have := a2 p hp; omega⟩
    · refine ⟨okW_snoc r1 h0 r2 hl, fun p hp => ?_⟩
      rcases List.mem_append.mp hp with hp | hp
      · have := r2 p hp; omega
      · rw [List.mem_singleton.mp hp]; exact Int.le_refl _
  · rcases List.mem_or_eq_of_mem_set ht with ht | rfl
    · exact D.ok t ht
    · rw [joinL_snoc]; exact key.1
  · obtain ⟨Q', k1, k2⟩ := key.2
    exact ⟨Q', by rw [eset]; exact k1.trans (e2 _).symm, k2⟩
/-- dealt out in order, end to end -/
theorem Dl.good {n : Nat} {b : List Row} {R : List (List Pc)} (D : Dl n b R) : goodB (lenB b) (R.map joinM) = true := by
  have e : R.map joinM = R.map joinL := List.map_congr_left fun s hs => okW_join (D.ris s hs).1
  rw [e]
  obtain ⟨Q, q1, q2⟩ := D.ch
  unfold goodB
  rw [Bool.and_eq_true, List.all_eq_true]
  refine ⟨fun s hs => ?_, ?_⟩
  · obtain ⟨t, ht, rfl⟩ := List.mem_map.mp hs
    exact D.ok t ht
  · have e2 : Q = sortP (R.map joinL).flatten := by
      refine sortL_eq kP_inj ?_ q1
      have : (Q.map (·.1)).Pairwise (· < ·) := ch_starts q2
      refine (List.pairwise_map.mp this).imp fun {x y} hxy => ?_
      show lexL [y.1, y.2] [x.1, x.2] = false
      unfold lexL
      rw [if_neg (by omega)]
      exact decide_eq_false (by omega)
    rw [← e2]
    exact ch_eE q2
/-! ### both grounds -/
/-- who has got a piece of this block -/
def Rec (n : Nat) (c : Int) (j : Nat) (h : Nat) : Prop := ∃ i : Nat, i < j ∧ (c + (i : Nat)) % (n : Nat) = (h : Nat)
structure EvS (n : Nat) (c : Int) (j : Nat) (d w : Int) (b : List Row) (R : List (List Pc)) : Prop where
  ex : ∃ T : Int × Int, ∀ (h : Nat) (s : List Pc), R[h]? = some s → (Rec n c j h → svs b s = plus T (d, w)) ∧ (¬ Rec n c j h → svs b s = T)
/-- every share has as much -/
def AllEq (b : List Row) (R : List (List Pc)) : Prop := ∃ T : Int × Int, ∀ s ∈ R, svs b s = T
theorem AllEq.ev {n : Nat} {c d w : Int} {b : List Row} {R : List (List Pc)} (h : AllEq b R) : EvS n c 0 d w b R := by
  obtain ⟨T, h⟩ := h
  exact ⟨T, fun k s hs => ⟨fun ⟨i, hi, _⟩ => absurd hi (Nat.not_lt_zero _), fun _ => h s (List.mem_of_getElem? hs)⟩⟩
theorem EvS.all {n : Nat} {c d w : Int} {b : List Row} {R : List (List Pc)} (h : EvS n c n d w b R) (hn : 0 < n) (hl : R.length = n) : AllEq b R := by
  obtain ⟨T, h⟩ := h.ex
  refine ⟨plus T (d, w), fun s hs => ?_⟩
  obtain ⟨k, hk, e⟩ := List.mem_iff_getElem.mp hs
  have hk2 : R[k]? = some s := by rw [List.getElem?_eq_getElem hk, e]
  refine (h k s hk2).1 ⟨(((k : Int) - c) % (n : Nat)).toNat, ?_, ?_⟩
  · have := Int.emod_lt_of_pos ((k : Int) - c) (show (0 : Int) < (n : Nat) by omega)
    have := Int.emod_nonneg ((k : Int) - c) (show ((n : Nat) : Int) ≠ 0 by omega)
    omega
  · have := Int.emod_nonneg ((k : Int) - c) (show ((n : Nat) : Int) ≠ 0 by omega)
    rw [Int.toNat_of_nonneg this, Int.add_emod, Int.emod_emod, ← Int.add_emod, show c + ((k : Int) - c) = k by omega]
    exact Int.emod_eq_of_lt (by omega) (by omega)
theorem shG_same {b b' : List Row} : ∀ s : List Pc, (∀ p ∈ s, Gd b' p.1 = Gd b p.1 ∧ Gd b' p.2 = Gd b p.2) → shG b' s = shG b s
  | [], _ => rfl
  | p :: s, h => by
    obtain ⟨h1, h2⟩ := h p (.head _)
    rw [shG_cons, shG_cons, shG_same s fun q hq => h q (.tail _ hq), h1, h2]
theorem EvS.step {n : Nat} {c d w : Int} {j h : Nat} {b b' : List Row} {R : List (List Pc)} {s : List Pc} (E : EvS n c j d w b R) (D : Dl n b R) (hj : j < n) (hh : (c + (j : Nat)) % (n : Nat) = (h : Nat)) (hs : R[h]? = some s) (hG : ∀ t, t ≤ lenB b → Gd b' t = Gd b t) (hd : Gd b' (lenB b') = Gd b (lenB b) + d) (hl : lenB b' = lenB b + (d + w)) :
    EvS n c (j + 1) d w b' (R.set h (s ++ [(lenB b, lenB b')])) := by
  obtain ⟨T, hT⟩ := E.ex
  have same : ∀ t ∈ R, svs b' t = svs b t := fun t ht => by
    obtain ⟨a1, a2⟩ := D.ris t ht
    have := shG_same (b := b) (b' := b') t fun p hp => by
      have q1 := a2 p hp
      have q2 := okW_mem a1 p hp
      exact ⟨hG _ (by omega), hG _ q1⟩
    unfold svs; rw [this]
  have nrec : ¬ Rec n c j h := fun ⟨i, hi, e⟩ => by
    have e2 : (c + (i : Nat)) % (n : Nat) = (c + (j : Nat)) % (n : Nat) := e.trans hh.symm
    have := Int.emod_emod_of_dvd (c + (j : Nat) - (c + (i : Nat))) (Int.dvd_refl ((n : Nat) : Int))
    have e3 : (c + (j : Nat) - (c + (i : Nat))) % (n : Nat) = 0 := by rw [Int.sub_emod, e2, Int.sub_self]; rfl
    rw [show c + (j : Nat) - (c + (i : Nat)) = ((j - i : Nat) : Int) by omega, Int.emod_eq_of_lt (by omega) (by omega)] at e3
    omega
  refine ⟨T, fun k t ht => ?_⟩
  by_cases hk : h = k
  · subst hk
    have hlt : h < R.length := (List.getElem?_eq_some_iff.mp hs).1
    rw [List.getElem?_set, if_pos rfl, if_pos hlt] at ht
    cases ht
    refine ⟨fun _ => ?_, fun nr => absurd ⟨j, Nat.lt_succ_self _, hh⟩ nr⟩
    have e0 := (hT h s hs).2 nrec
    have e1 := same s (List.mem_of_getElem? hs)
    rw [e0] at e1
    unfold svs at e1 ⊢
    rw [shG_app, shL_app, shG_cons, shL_cons]
    have hGl := hG (lenB b) (Int.le_refl _)
    have z1 : shG b' [] = 0 := rfl
    have z2 : shL [] = 0 := rfl
    rw [← e1]
    unfold plus
    rw [Prod.mk.injEq]
    dsimp only
    rw [z1, z2, hd, hGl]
    omega
  · rw [List.getElem?_set, if_neg hk] at ht
    have e1 := same t (List.mem_of_getElem? ht)
    rw [e1]
    obtain ⟨a1, a2⟩ := hT k t ht
    refine ⟨fun ⟨i, hi, e⟩ => a1 ⟨i, ?_, e⟩, fun nr => a2 fun ⟨i, hi, e⟩ => nr ⟨i, by omega, e⟩⟩
    by_cases hij : i = j
    · subst hij
      rw [hh] at e
      exact absurd (by omega) hk
    · omega
/-- fair by the law's own sums -/
theorem AllEq.fair {n : Nat} {b : List Row} {R : List (List Pc)} (D : Dl n b R) (h : AllEq b R) : lawB b (R.map joinM) = true := by
  unfold lawB
  rw [D.good, Bool.true_and]
  have e : R.map joinM = R.map joinL := List.map_congr_left fun s hs => okW_join (D.ris s hs).1
  rw [e]
  obtain ⟨T, hT⟩ := h
  have : evenB b (R.map joinL) = true := by
    unfold evenB
    rw [List.all_eq_true]
    have key : ∀ t ∈ R.map joinL, svs b t = T := fun t ht => by
      obtain ⟨s, hs, rfl⟩ := List.mem_map.mp ht
      rw [svs_join]; exact hT s hs
    intro t ht
    have hh : (R.map joinL).headD [] ∈ R.map joinL := by
      cases hR : R.map joinL with
      | nil => rw [hR] at ht; cases ht
      | cons x l => exact .head _
    rw [key t ht, key _ hh]
    exact decide_eq_true rfl
  rw [this, Bool.or_true]
/-- ground put behind a bank -/
theorem put_facts {b : List Row} {g : Str} {n : Int} (hp : ∀ r ∈ b, 0 < r.2) (hk : ∀ r ∈ b, okG r.1) (hn : 0 ≤ n) (hg : okG g) :
    (∀ r ∈ layM b g n, 0 < r.2) ∧ (∀ r ∈ layM b g n, okG r.1) ∧ lenB (layM b g n) = lenB b + n ∧ (∀ t, t ≤ lenB b → Gd (layM b g n) t = Gd b t) ∧ Gd (layM b g n) (lenB b + n) = Gd b (lenB b) + if g = ("dry" : Str) then n else 0 := by
  have hb0 : ∀ r ∈ b, 0 ≤ r.2 := fun r hr => Int.le_of_lt (hp r hr)
  refine ⟨layM_all (p := fun r => 0 < r.2) hp (fun h => by show 0 < n; omega) (fun m hm _ => by show 0 < n + m; have : 0 < m := hm; omega), layM_all (p := fun r => okG r.1) hk (fun _ => hg) (fun _ _ _ => hg), layM_len2 b g n, fun t ht => ?_, ?_⟩
  · rw [Gd_layM _ _ _ _ hb0 hn, Gd_app]
    show Gd b t + ((if g = ("dry" : Str) then max 0 (min (t - lenB b) n) else 0) + 0) = _
    split <;> omega
  · rw [Gd_layM _ _ _ _ hb0 hn, Gd_app, Gd_all b (lenB b + n) hb0 (by omega), Gd_all b (lenB b) hb0 (Int.le_refl _)]
    show _ + ((if g = ("dry" : Str) then max 0 (min (lenB b + n - lenB b) n) else 0) + 0) = _
    split <;> omega
/-! ## the law's banks and shares, walked -/
def most7 (c : Int) : Int := if c % 4 = 0 then 4 else if c % 4 = 1 then 13 else if c % 4 = 2 then 10 ^ (18 : Int).toNat + 1 else 10 ^ (58 : Int).toNat
theorem most7_pos (c : Int) : 0 < most7 c := by unfold most7; split; decide; split; decide; split <;> decide +kernel
theorem atI_most7 (c : Int) : atI [D.int 4, D.int 13, D.int (10 ^ (18 : Int).toNat + 1), D.int (10 ^ (58 : Int).toNat)] (c % 4) = some (.int (most7 c)) := by
  have h : c % 4 = 0 ∨ c % 4 = 1 ∨ c % 4 = 2 ∨ c % 4 = 3 := by omega
  unfold most7
  rcases h with h | h | h | h <;> rw [h] <;> rfl
def lng7 (c : Int) : Int := c / 4 % most7 c
theorem lng7_nn (c : Int) : 0 ≤ lng7 c := Int.emod_nonneg _ (by have := most7_pos c; omega)
def F_long7 (ds : List D) (o : Out) : Prop := ∃ c : Int, ds = [.int c] ∧ o = ok (.int (lng7 c))
def F_put (ds : List D) (o : Out) : Prop := ∃ (b : List Row) (g : Str) (n : Int), ds = [encB b, .str g, .int n] ∧ b.length ≤ 10000 ∧ (∀ r ∈ b, okG r.1) ∧ o = ok (encB (layM b g n))
def F_join (ds : List D) (o : Out) : Prop := ∃ s : List Pc, ds = [shD s] ∧ s.length ≤ 10000 ∧ o = .ok (.own ((joinM s).map encP))
def wlM (s : List Pc) : List Pc := s.filter fun p => decide (p.1 < p.2)
def F_wl (ds : List D) (o : Out) : Prop := ∃ s : List Pc, ds = [shD s] ∧ s.length ≤ 10000 ∧ o = .ok (.own ((wlM s).map encP))
theorem pl_row {r : Row} (h : PyData.strOk r.1 = true) : Pl 1 (encRow r) := .tup fun d hd => by
  rcases List.mem_cons.mp hd with rfl | hd
  · exact .str h
  · rcases List.mem_cons.mp hd with rfl | hd
    · exact .int _
    · cases hd
theorem okG_str {g : Str} (h : okG g) : PyData.strOk g = true := by rcases h with rfl | rfl <;> decide +kernel
theorem pl_bank {b : List Row} (h : ∀ r ∈ b, okG r.1) : Pl 2 (encB b) := .lst fun d hd => by
  obtain ⟨r, hr, rfl⟩ := List.mem_map.mp hd
  exact pl_row (okG_str (h r hr))
theorem pl_sh (s : List Pc) : Pl 2 (shD s) := .lst fun d hd => by
  obtain ⟨p, _, rfl⟩ := List.mem_map.mp hd
  exact .tup fun d hd => by
    rcases List.mem_cons.mp hd with rfl | hd
    · exact .int _
    · rcases List.mem_cons.mp hd with rfl | hd
      · exact .int _
      · cases hd
theorem pl_shs (l : List (List Pc)) : Pl 3 (.lst (l.map shD)) := .lst fun d hd => by
  obtain ⟨s, _, rfl⟩ := List.mem_map.mp hd
  exact pl_sh s
theorem ix_last (n : Nat) : ixN (n + 1) (-1) = some n := by
  unfold ixN
  rw [if_neg (by omega), if_pos (by omega)]
  congr 1; omega
theorem atI_last {α β : Type} (f : α → β) (b : List α) (q : α) : atI ((b ++ [q]).map f) (-1) = some (f q) := by
  unfold atI
  rw [List.length_map, List.length_append, List.length_singleton, ix_last]
  show ((b ++ [q]).map f)[b.length]? = _
  rw [List.map_append, List.getElem?_append_right (by rw [List.length_map]; exact Nat.le_refl _), List.length_map, Nat.sub_self]; rfl
theorem set_last7 {α β : Type} (f : α → β) (b : List α) (q x : α) : ((b ++ [q]).map f).set b.length (f x) = (b ++ [x]).map f := by
  rw [List.map_append, List.map_append, List.set_append_right _ _ (by rw [List.length_map]; exact Nat.le_refl _), List.length_map, Nat.sub_self]; rfl
theorem cut_last {α β : Type} (f : α → β) (b : List α) (q : α) : cutG ((b ++ [q]).map f) none (some (-1)) = b.map f := by
  rw [List.map_append]
  show ((b.map f ++ [f q]).drop 0).take ((if (-1 : Int) < 0 then ((-1 : Int) + ((b.map f ++ [f q]).length : Nat)).toNat else min (-1 : Int).toNat (b.map f ++ [f q]).length) - 0) = _
  rw [if_pos (by decide), List.drop_zero, List.length_append, List.length_singleton, show ((-1 : Int) + (((b.map f).length + 1 : Nat) : Int)).toNat - 0 = (b.map f).length by omega, List.take_append_of_le_length (Nat.le_refl _), List.take_length]
section
variable {M : Mo} {f : Addr} {fd : FuncData}
theorem ok_law_long (F : Fun M.K "_law_long" "_law_long" s_law_long f fd) : FnOk M.P M.w M.K M.mg M.base (L2.CX M.P M.w) (M.k + 1) f fd ["_law_cell"] (spOf M.K F_long7) := by
  refine fn_data F sc_law_long (fun ds o ⟨c, h, _⟩ => by rw [h]; rfl) (fun ds o ⟨c, h1, h2⟩ => ?_)
  subst h1 h2
  have hm := atI_most7 c
  have hp := most7_pos c
  refine' dss_cons (ds_let (r := .val (.int (most7 c))) (de_of (lv := true) (dl_ixL (lv := true) (ds := [D.int 4, D.int 13, D.int (10 ^ (18 : Int).toNat + 1), D.int (10 ^ (58 : Int).toNat)]) ?ha ?hb hm ?hs1) (.inl rfl)) rfl rfl (of_decide_eq_true rfl) ?hn ?hs)
  case hs => intro _; rfl
  case hs1 => intro _ _; rfl
  case ha =>
    refine' dl_of (r := .own [D.int 4, D.int 13, D.int (10 ^ (18 : Int).toNat + 1), D.int (10 ^ (58 : Int).toNat)]) (de_lst (lv := true) (da_cons (dl_val de_int) (da_cons (dl_val de_int) (da_cons (dl_val (de_add (de_pow de_int de_int (by decide)) de_int)) (da_cons (dl_val (de_pow de_int de_int (by decide))) da_nil ?h1) ?h2) ?h3) ?h4) (.inl rfl) (by show 4 ≤ 1000000; decide)) rfl
    case h1 => intro _; rfl
    case h2 => intro _; rfl
    case h3 => intro _; rfl
    case h4 => intro _; rfl
  case hb => walk_at "e"
  walk_at "ret"
  rfl
theorem ok_law_put (F : Fun M.K "_law_put" "_law_put" s_law_put f fd) : FnOk M.P M.w M.K M.mg M.base (L2.CX M.P M.w) (M.k + 1) f fd ["_law_rows_here", "_law_ground", "_law_long_here"] (spOf M.K F_put) := by
  refine fn_data F sc_law_put (fun ds o ⟨b, g, n, h, _⟩ => by rw [h]; rfl) (fun ds o ⟨b, g, n, h1, hl, hk, h2⟩ => ?_)
  subst h1 h2
  by_cases hn : n = 0
  · have e : layM b g n = b := by unfold layM; rw [if_pos hn]
    rw [e]
    refine' dss_cons (ds_ifT (x := decide (n = 0)) ?ht (decide_eq_true hn) ?hr)
    case ht => walk_at "t"
    case hr =>
      refine' dss_one (ds_ret (r := .val (encB b)) (de_of (lv := true) ?ha6 (.inl rfl)) rfl)
      case ha6 => walk_at "l"
  · refine' dss_cons (ds_ifF (x := decide (n = 0)) ?ht (decide_eq_false hn) (dss_nil ?_))
    case ht => walk_at "t"
    rcases List.eq_nil_or_concat b with rfl | ⟨b, t, rfl⟩
    · have e : layM [] g n = [(g, n)] := by unfold layM; rw [if_neg hn]; rfl
      rw [e]
      refine' dss_cons (ds_ifF (x := false && true) (dt_w (dw_and (x := false) (y := true) ?hb (fun h => nomatch h))) rfl (dss_nil ?_))
      case hb => exact dt_neNil (ds := []) 1 (by walk_at "l") (by walk_at "l") (.lst fun _ h => by cases h) (by decide)
      refine' dss_one (ds_ret (r := .val (encB [(g, n)])) (de_dl (dl_fz (r := .own ([] ++ [encRow (g, n)])) (de_cat (lv := true) (es := [encRow (g, n)]) ?hc ?hd (by show 0 + 1 ≤ 1000000; decide) (.inl rfl)) rfl)) rfl)
      case hc => walk_at "l"
      case hd => walk_at "l"
    · rw [List.concat_eq_append] at *
      have hla := atI_last encRow b t
      have hne : (!((b ++ [t]).map encRow).isEmpty) = true := by simp
      have hz : ((b ++ [t]).map encRow).length + 1 ≤ 1000000 := by rw [List.length_map]; omega
      have hz2 : (b.map encRow).length + 1 ≤ 1000000 := by rw [List.length_map]; rw [List.length_append] at hl; omega
      refine' dss_cons (ds_if (x := true && decide (t.1 = g)) (dt_w (dw_and (x := true) ?hb (fun _ => dw_and1 ?hc))) (fun hx => ?_) (fun hx => dss_nil ?_))
      case hb => exact dt_cast (dt_neNil 1 (by walk_at "l") (by walk_at "l") (pl_bank hk) (by decide)) hne
      case hc => walk_at "t"
      · rw [Bool.true_and] at hx
        have eL : layM (b ++ [t]) g n = b ++ [(g, t.2 + n)] := by
          unfold layM
          rw [if_neg hn, List.getLast?_append, List.getLast?_singleton]
          show (if t.1 = g then (b ++ [t]).dropLast ++ [(g, n + t.2)] else _) = _
          rw [if_pos (of_decide_eq_true hx), List.dropLast_concat, Int.add_comm]
        rw [eL]
        refine' dss_one (ds_ret (r := .val (encB (b ++ [(g, t.2 + n)]))) (de_dl (dl_fz (r := .own (b.map encRow ++ [encRow (g, t.2 + n)])) (de_cat (lv := true) (ds := b.map encRow) (es := [encRow (g, t.2 + n)]) ?hc2 ?hd2 hz2 (.inl rfl)) ?he2)) rfl)
        case hc2 => exact dl_of (r := .own (b.map encRow)) (by rw [← cut_last encRow b t]; walk_at "e") rfl
        case hd2 => walk_at "l"
        case he2 => show some (D.lst _) = some (D.lst _); rw [List.map_append]; rfl
      · rw [Bool.true_and] at hx
        have eL : layM (b ++ [t]) g n = (b ++ [t]) ++ [(g, n)] := by
          unfold layM
          rw [if_neg hn, List.getLast?_append, List.getLast?_singleton]
          show (if t.1 = g then _ else (b ++ [t]) ++ [(g, n)]) = _
          rw [if_neg (of_decide_eq_false hx)]
        rw [eL]
        refine' dss_one (ds_ret (r := .val (encB ((b ++ [t]) ++ [(g, n)]))) (de_dl (dl_fz (r := .own ((b ++ [t]).map encRow ++ [encRow (g, n)])) (de_cat (lv := true) (ds := (b ++ [t]).map encRow) (es := [encRow (g, n)]) ?hc3 ?hd3 hz (.inl rfl)) ?he3)) rfl)
        case hc3 => walk_at "l"
        case hd3 => walk_at "l"
        case he3 => show some (D.lst _) = some (D.lst _); rw [List.map_append (l₁ := b ++ [t])]; rfl
theorem ok_law_joined (n_sorted : M.mg "sorted" = none) (F : Fun M.K "_law_joined" "_law_joined" s_law_joined f fd) : FnOk M.P M.w M.K M.mg M.base (L2.CX M.P M.w) (M.k + 1) f fd ["_law_share"] (spOf M.K F_join) := by
  refine fn_data F sc_law_joined (fun ds o ⟨s, h, _⟩ => by rw [h]; rfl) (fun ds o ⟨s, h1, hl, h2⟩ => ?_)
  subst h1 h2
  have hsl : (sortP s).length = s.length := (sortL_perm s).length_eq
  walk_at "let"
  refine' dss_cons (ds_for' (items := (sortP s).map encP) (fun i S' => ∃ g h, S' = [.val (shD s), .own ((joinL ((sortP s).take i)).map encP), g, h]) rfl (dit_list (dl_of (r := .own ((sortP s).map encP)) (de_sortT (k := kP) (enc := encP) (fun _ => rfl) kP_inj (fun _ => List.cons_ne_nil _ _) (glB_gl rfl).1 n_sorted ?_ ?_) rfl)) ?_ (fun i d S' hd hI => ?_) (fun S' hI => ?_) (fun _ _ => rfl))
  · walk_at "l"
  · intro _; rfl
  · exact ⟨_, _, rfl⟩
  · obtain ⟨g, h, rfl⟩ := hI
    obtain ⟨x, hx, rfl⟩ := map_get hd
    have e := joinL_snoc ((sortP s).take i) x
    rw [← take_snoc hx] at e
    rw [e]
    have hjl := joinL_len ((sortP s).take i)
    rw [List.length_take] at hjl
    generalize joinL ((sortP s).take i) = acc at *
    have hz : (acc.map encP).length ≤ 1000000 := by rw [List.length_map]; omega
    walk_at "g2"
    rcases List.eq_nil_or_concat acc with rfl | ⟨a, t, rfl⟩
    · rw [addJ_nil]
      refine' dss_one (ds_ifF (x := false && true) (dt_w (dw_and (x := false) (y := true) ?hb (fun h => nomatch h))) rfl (dss_one ?he))
      case hb => exact dt_neNil (ds := []) 1 (by walk_at "l") (by walk_at "l") (.lst fun _ h => by cases h) (by decide)
      case he =>
        walk_at "app"
        exact ⟨_, _, rfl⟩
    · rw [List.concat_eq_append] at *
      have hla := atI_last encP a t
      have hne : (!((a ++ [t]).map encP).isEmpty) = true := by simp
      have hlx : ixN ((a ++ [t]).map encP).length (-1) = some a.length := by rw [List.length_map, List.length_append, List.length_singleton]; exact ix_last _
      refine' dss_one (ds_if (x := true && decide (t.2 = x.1)) (dt_w (dw_and (x := true) ?hb (fun _ => dw_and1 ?hc))) (fun hq => dss_one ?_) (fun hq => dss_one ?_))
      case hb => exact dt_cast (dt_neNil 1 (by walk_at "l") (by walk_at "l") (pl_sh _) (by decide)) hne
      case hc => walk_at "t"
      · rw [Bool.true_and] at hq
        rw [addJ_snoc, if_pos (of_decide_eq_true hq)]
        refine' ds_setI (d := encP (t.1, x.2)) ?he2 ?hi2 hlx rfl rfl rfl ?h2 ?h3 ?h4 ?h5
        case he2 => walk_at "l"
        case hi2 => walk_at "e"
        case h3 => intro _; rfl
        case h4 => intro _; rfl
        case h5 => intro _ _; rfl
        dsimp only
        rw [set_last7]
        exact ⟨_, _, rfl⟩
      · rw [Bool.true_and] at hq
        rw [addJ_snoc, if_neg (of_decide_eq_false hq)]
        walk_at "app"
        dsimp only
        rw [List.map_append (l₁ := a ++ [t])]
        exact ⟨_, _, rfl⟩
  · obtain ⟨g, h, rfl⟩ := hI
    rw [List.length_map, List.take_length]
    exact dss_one (ds_retO1 rfl rfl rfl rfl)
theorem ok_law_with_length (F : Fun M.K "_law_with_length" "_law_with_length" s_law_with_length f fd) : FnOk M.P M.w M.K M.mg M.base (L2.CX M.P M.w) (M.k + 1) f fd ["_law_pieces"] (spOf M.K F_wl) := by
  refine fn_data F sc_law_with_length (fun ds o ⟨s, h, _⟩ => by rw [h]; rfl) (fun ds o ⟨s, h1, hl, h2⟩ => ?_)
  subst h1 h2
  refine' dss_one (ds_retO (o := .ok (.own ((s.filter fun p => decide (p.1 < p.2)).map encP))) (de_filter (lv := true) [("_law_piece", 1)] s encP encP (fun p => decide (p.1 < p.2)) rfl (dit_list ?hl) rfl (by omega) (.inl rfl) ?he) ?ho (fun _ er => nomatch er))
  case hl => walk_at "l"
  case ho => intro r er; cases er; rfl
  case he =>
    intro p _
    refine ⟨_, .val (encP p), dgc_nm rfl rfl rfl, ?_, ?_, rfl⟩
    · walk_at "t"
    · exact de_of (lv := true) (by walk_at "l") (.inl rfl)
end
/-! ## the law's dealing, walked -/
theorem dss_mid {C : Ctx} {S : List Slot} {P : Post} {st : Stmt} {rest : List Stmt} (J : List Slot → Prop) (h : DS C st S { P with nx := J }) (hr : ∀ S', J S' → DSs C rest S' P) : DSs C (st :: rest) S P := dss_cons (ds_imp h (fun S' q => hr S' q) (fun _ h => h) (fun _ _ h => h) (fun _ h => h) (fun _ h => h))
theorem ds_asgTG {C : Ctx} {S : List Slot} {P : Post} {e : Expr} {es : List Expr} {ds : List D} {pos pc p : Pos} {tg : Expr} {x : String} {F : List D → Prop} {G : R → Prop} (hF : CalG C.M x F G) (hg : glB C.sc (Str.ofString x) = true) (ha : DA C true (e :: es) S ds) (h : F ds)
    (hn : ∀ r, G r → ∃ d, r = .val d ∧ DG C tg S d P.nx) (hs : ∀ env, swapsWithSole [tg] (.Call (.Name (Str.ofString x) p) (e :: es) [] pc) pos.line env = pure false) (hw : ∀ env, swappedStores [tg] (.Call (.Name (Str.ofString x) p) (e :: es) [] pc) env = pure none)
    (h1 : ∀ env, (assignEach [tg] env).map (·.2) = [assign tg env]) (he : ∀ env, starEach (e :: es) env = (false, eval e env) :: starEach es env) (hpl : ∀ env, (backTo pc (starEach es env)).any (·.1) = false) : DS C (.Assign [tg] (.Call (.Name (Str.ofString x) p) (e :: es) [] pc) pos) S P := by
  obtain ⟨f, fd, ps, G', mg, kp, b⟩ := hF.ex
  refine .mk fun W => ⟨tAsg (tCallS (spG C.M.K F G) (WE W) (tA C (e :: es) W)) (tGt C tg W), fun r fm => ps_asg (pe_callS (E := WE W) G' fm.g.room ((glB_gl hg).1.gl fm.g) mg kp b (fun σ => passAt fm.t σ) (pa_tA fm) (glB_gl hg).2 (he _) (hpl _)) (pg_tG fm) (hs _) (hw _) (h1 _), fun Oc H0 H σ fp hod sat D g1 g2 g3 g4 g5 => ?_⟩
  refine ha W Oc H0 H σ fp (hod.up sat) sat _ fun vs H1 e1 reps => ⟨_, ds, ((sat.thereO (hod.up sat)).ex e1).lvl, reps, h, fun r v H2 hr e2 res => ?_⟩
  obtain ⟨d, rfl, hG⟩ := hn r hr
  have rep : Rep C.M.K H2 (Ow Oc fp) v d := (res.unlvl (.inl rfl)).base e1
  exact hG W Oc H0 H2 σ fp ((hod.up sat).ex (e1.trans e2)) (sat.mono (e1.trans e2)) v rep D.nx fun S' σ' fp' hT s' => g1 S' H2 σ' fp' hT s'
structure Sh7 (l : List (List Pc)) : Prop where
  ne : l ≠ []
  few : l.length ≤ 5
  small : l.flatten.length ≤ 24
structure BkP (b : List Row) : Prop where
  len : b.length ≤ 10000
  pos : ∀ r ∈ b, 0 < r.2
  okg : ∀ r ∈ b, okG r.1
def F_dealt7 (ds : List D) : Prop := ∃ (ns : List Int) (n : Nat), ds = [.scr ns, .int (n : Nat)] ∧ ns.length ≤ 63 ∧ 1 ≤ n ∧ n ≤ 5
def G_dealt7 (r : R) : Prop := ∃ (b : List Row) (l : List (List Pc)), r = .val (.tup [encB b, shsD l]) ∧ BkP b ∧ Sh7 l ∧ lawB b l = true
theorem flat_set_len {α : Type} {l : List (List α)} {h : Nat} {s : List α} (e : l[h]? = some s) (x : α) : (l.set h (s ++ [x])).flatten.length = l.flatten.length + 1 := by
  obtain ⟨rest, h1, h2⟩ := perm_set e
  rw [(h2 _).length_eq, h1.length_eq]
  simp only [List.length_append, List.length_singleton]; omega
def dnum (r1 r2 : Row) : Int := (if r1.1 = ("dry" : Str) then r1.2 else 0) + (if r2.1 = ("dry" : Str) then r2.2 else 0)
/-- two rows that hold d dry and w wet ground -/
structure Two (d w : Int) (r1 r2 : Row) : Prop where
  g1 : okG r1.1
  g2 : okG r2.1
  n1 : 0 ≤ r1.2
  n2 : 0 ≤ r2.2
  s : r1.2 + r2.2 = d + w
  d : dnum r1 r2 = d
theorem flat_map_len (R : List (List Pc)) (h : ∀ s ∈ R, (joinM s).length ≤ s.length) : (R.map joinM).flatten.length ≤ R.flatten.length := by
  induction R with
  | nil => exact Nat.le_refl _
  | cons s R ih =>
    have := h s (.head _)
    have := ih fun t ht => h t (.tail _ ht)
    rw [List.map_cons, List.flatten_cons, List.flatten_cons, List.length_append, List.length_append]; omega
theorem joinM_len (s : List Pc) : (joinM s).length ≤ s.length := by
  have := joinL_len (sortP s)
  have e : (sortP s).length = s.length := (sortL_perm s).length_eq
  unfold joinM; omega
section
variable {M : Mo} {f : Addr} {fd : FuncData}
set_option maxHeartbeats 2000000 in
theorem ok_law_dealt (T : Nn M) (c1 : Cal M "_law_cell_at" F_cell) (c2 : Cal M "_law_long" F_long7) (c3 : Cal M "_law_put" F_put) (c4 : Cal M "_law_joined" F_join) (F : Fun M.K "_law_dealt" "_law_dealt" s_law_dealt f fd) : FnOk M.P M.w M.K M.mg M.base (L2.CX M.P M.w) (M.k + 1) f fd ["_law_script", "_law_heirs"] (spG M.K F_dealt7 G_dealt7) := by
  obtain ⟨_, _, n_min, n_len, _, _, _, _, _, n_range⟩ := T
  refine fn_dataG F sc_law_dealt (fun ds ⟨ns, n, h, _⟩ => by rw [h]; rfl) (fun ds ⟨ns, n, h1, hl, hn1, hn5⟩ => ?_)
  subst h1
  refine' dss_cons (ds_let (r := .val (encB [])) (de_dl (dl_fz (r := .own ([] : List D)) de_nil rfl)) rfl rfl (of_decide_eq_true rfl) ?hn0 ?hs)
  case hs => intro _; rfl
  refine' dss_cons (ds_setLc2 (lv := true) 4 [("_law_k", 3)] (List.range n) (fun i => D.int (i : Nat)) (fun _ => ([] : List D)) rfl rfl (of_decide_eq_true rfl) rfl rfl rfl rfl (dit_range1 (glB_gl rfl).1 n_range (n := ((n : Nat) : Int)) ?hr ?hb (fun _ => rfl)) rfl (by rw [List.length_range]; omega) (.inl rfl) (fun _ _ => flat_nil) ?he4 ?hP4 ?hf4)
  case hf4 => intro _ _; rfl
  case hr => walk_at "e"
  case hb => omega
  case he4 =>
    intro s hs
    exact ⟨_, dgc_nm rfl rfl rfl, de_nil⟩
  have e0 : (List.range n).map (fun _ => ([] : List D)) = (List.replicate n ([] : List Pc)).map fun s => s.map encP := by
    rw [List.map_replicate, List.eq_replicate_iff]
    exact ⟨by rw [List.length_map, List.length_range], fun x hx => by obtain ⟨_, _, rfl⟩ := List.mem_map.mp hx; rfl⟩
  rw [e0]
  walk_at "let"
  obtain ⟨K, hK⟩ : ∃ K : Int, K = min ((24 : Int) / ((n : Nat) : Int)) ((((ns.length : Nat) : Int) - 4) / 2) := ⟨_, rfl⟩
  have hKn : K * (n : Nat) ≤ 24 := by
    have a : K ≤ (24 : Int) / ((n : Nat) : Int) := by rw [hK]; exact Int.min_le_left _ _
    have b : (24 / ((n : Nat) : Int)) * (n : Nat) ≤ 24 := Int.ediv_mul_le _ (by omega)
    exact Int.le_trans (Int.mul_le_mul_of_nonneg_right a (by omega)) b
  have hKs : K ≤ 24 := by
    have b : 24 / ((n : Nat) : Int) ≤ 24 := Int.ediv_le_self _ (by decide)
    rw [hK]; exact Int.le_trans (Int.min_le_left _ _) b
  refine' dss_cons (ds_for' (items := (List.range K.toNat).map fun i => .int (i : Nat)) (fun k S' => ∃ (b : List Row) (R : List (List Pc)) (g3 g6 g7 g8 g9 g10 g11 g12 : Slot), S' = [.val (.scr ns), .val (.int (n : Nat)), .val (encB b), g3, .own2 (R.map fun s => s.map encP), .val (.int (lenB b)), g6, g7, g8, g9, g10, g11, g12, .any] ∧ Dl n b R ∧ AllEq b R ∧ R.flatten.length = k * n ∧ b.length ≤ 2 * (k * n)) rfl (dit_range1 (glB_gl rfl).1 n_range (n := K) ?hr2 ?hb2 (fun _ => rfl)) ?_ (fun k d S' hd hI => ?_) (fun S' hI => ?_) (fun _ _ => rfl))
  case hr2 =>
    rw [hK]
    have hnz : (n : Int) ≠ 0 := by omega
    have hnp : (0 : Int) < (n : Nat) := by omega
    walk_at "e"
  case hb2 =>
    refine ⟨by omega, ?_⟩
    have h1 : (0 : Int) ≤ (24 : Int) / ((n : Nat) : Int) := Int.ediv_nonneg (by decide) (by omega)
    rw [hK]
    omega
  · exact ⟨[], List.replicate n [], _, _, _, _, _, _, _, _, rfl, Dl.start n, ⟨(0, 0), fun s hs => by rw [(List.mem_replicate.mp hs).2]; rfl⟩, by
      have : ∀ n : Nat, (List.replicate n ([] : List Pc)).flatten.length = 0 := fun n => by
        induction n with
        | zero => rfl
        | succ n ih => rw [List.replicate_succ, List.flatten_cons, List.length_append, ih]; rfl
      rw [this, Nat.zero_mul], Nat.zero_le _⟩
  · obtain ⟨b, R, g3, g6, g7, g8, g9, g10, g11, g12, rfl, hD, hE, hf, hbl⟩ := hI
    obtain ⟨k', hk', rfl⟩ := map_get hd
    have hkl : k < K.toNat := by
      have := (List.getElem?_eq_some_iff.mp hk').1
      rw [List.length_range] at this; exact this
    rw [List.getElem?_range hkl] at hk'
    cases hk'
    have hkn : (k + 1) * n ≤ 24 := by
      have h1 : ((k + 1 : Nat) : Int) ≤ K := by omega
      have h2 : ((k + 1 : Nat) : Int) * (n : Nat) ≤ 24 := Int.le_trans (Int.mul_le_mul_of_nonneg_right h1 (by omega)) hKn
      have h3 : (((k + 1) * n : Nat) : Int) ≤ 24 := by rw [Int.natCast_mul]; exact h2
      omega
    have hkn2 : (k + 1) * n = k * n + n := by rw [Nat.add_mul, Nat.one_mul]
    have q1 : F_cell [.scr ns, .int (5 + 2 * (k : Nat))] (ok (.int (cellM ns (5 + 2 * (k : Nat))))) := ⟨ns, _, rfl, by omega, by omega, rfl⟩
    have q2 : F_cell [.scr ns, .int (6 + 2 * (k : Nat))] (ok (.int (cellM ns (6 + 2 * (k : Nat))))) := ⟨ns, _, rfl, by omega, by omega, rfl⟩
    generalize cellM ns (5 + 2 * (k : Nat)) = c at *
    generalize cellM ns (6 + 2 * (k : Nat)) = c6 at *
    have q3 : F_long7 [.int (c / 10)] (ok (.int (lng7 (c / 10)))) := ⟨_, rfl, rfl⟩
    have q4 : F_long7 [.int c6] (ok (.int (lng7 c6))) := ⟨_, rfl, rfl⟩
    have n1 := lng7_nn (c / 10)
    have n2 := lng7_nn c6
    generalize lng7 (c / 10) = d0 at *
    generalize lng7 c6 = w at *
    walk_at "g1"
    walk_at "let"
    walk_at "let"
    walk_at "let"
    refine' dss_mid (fun S' => ∃ d : Int, 0 ≤ d ∧ 0 < d + w ∧ S' = [.val (.scr ns), .val (.int (n : Nat)), .val (encB b), .val (.int (k : Nat)), .own2 (R.map fun s => s.map encP), .val (.int (lenB b)), .val (.int c), .val (.int d), .val (.int w), g9, g10, g11, g12, .any]) (ds_if (x := decide (d0 + w = 0)) ?ht1 (fun hx => dss_one ?hp1) (fun hx => dss_nil ?hp2)) ?_
    case ht1 => walk_at "t"
    case hp1 =>
      refine' ds_let (r := .val (.int 1)) de_int rfl rfl (of_decide_eq_true rfl) ?hnx ?hsx
      case hsx => intro _; rfl
      case hnx => exact ⟨1, by decide, by omega, rfl⟩
    case hp2 => exact ⟨d0, n1, by have := of_decide_eq_false hx; omega, rfl⟩
    rintro S' ⟨d, hd0, hdw, rfl⟩
    clear q1 q2 q3 q4 n1 hd
    refine' dss_one (ds_for' (items := (List.range n).map fun i => .int (i : Nat)) (fun j S' => ∃ (b : List Row) (R : List (List Pc)) (g9 g10 g11 g12 : Slot), S' = [.val (.scr ns), .val (.int (n : Nat)), .val (encB b), .val (.int (k : Nat)), .own2 (R.map fun s => s.map encP), .val (.int (lenB b)), .val (.int c), .val (.int d), .val (.int w), g9, g10, g11, g12, .any] ∧ Dl n b R ∧ EvS n c j d w b R ∧ R.flatten.length = k * n + j ∧ b.length ≤ 2 * (k * n + j)) rfl (dit_range1 (glB_gl rfl).1 n_range (n := ((n : Nat) : Int)) ?hr3 ?hb3 (fun _ => rfl)) ?_ (fun j dd S' hd hI => ?_) (fun S' hI => ?_) (fun _ _ => rfl))
    case hr3 => walk_at "e"
    case hb3 => omega
    · exact ⟨b, R, _, _, _, _, rfl, hD, hE.ev, hf, hbl⟩
    · obtain ⟨b, R, g9, g10, g11, g12, rfl, hD, hE, hf, hbl⟩ := hI
      obtain ⟨j', hj', rfl⟩ := map_get hd
      have hjn : j < n := by
        have := (List.getElem?_eq_some_iff.mp hj').1
        rw [List.length_range] at this; exact this
      rw [List.getElem?_range hjn] at hj'
      cases hj'
      walk_at "g1"
      refine' dss_cons (ds_let (r := .val (encB [(("dry" : Str), d), (("wet" : Str), w)])) (de_dl (dl_fz (r := .own [encRow (("dry" : Str), d), encRow (("wet" : Str), w)]) ?ha1 rfl)) rfl rfl (of_decide_eq_true rfl) ?hnA ?hsA)
      case ha1 => walk_at "e"
      case hsA => intro _; rfl
      refine' dss_mid (fun S' => ∃ r1 r2 : Row, Two d w r1 r2 ∧ S' = [.val (.scr ns), .val (.int (n : Nat)), .val (encB b), .val (.int (k : Nat)), .own2 (R.map fun s => s.map encP), .val (.int (lenB b)), .val (.int c), .val (.int d), .val (.int w), .val (.int (j : Nat)), .val (encB [r1, r2]), g11, g12, .any]) (ds_if (x := decide (c / 5 % 2 = 1) && decide (((j : Nat) : Int) % 2 = 1)) ?ht2 (fun hx => dss_one ?hp3) (fun hx => dss_nil ?hp4)) ?_
      case ht2 => walk_at "t"
      case hp3 =>
        refine' ds_let (r := .val (encB [(("wet" : Str), w), (("dry" : Str), d)])) (de_dl (dl_fz (r := .own [encRow (("wet" : Str), w), encRow (("dry" : Str), d)]) ?ha2 rfl)) rfl rfl (of_decide_eq_true rfl) ?hnB ?hsB
        case ha2 => walk_at "e"
        case hsB => intro _; rfl
        case hnB => exact ⟨_, _, ⟨.inr rfl, .inl rfl, n2, hd0, by show w + d = d + w; omega, by
          show (if ("wet" : Str) = "dry" then w else 0) + (if ("dry" : Str) = "dry" then d else 0) = d
          rw [if_neg (by decide +kernel), if_pos rfl, Int.zero_add]⟩, rfl⟩
      case hp4 => exact ⟨_, _, ⟨.inl rfl, .inr rfl, hd0, n2, rfl, by
          show (if ("dry" : Str) = "dry" then d else 0) + (if ("wet" : Str) = "dry" then w else 0) = d
          rw [if_neg (show ¬ ("wet" : Str) = "dry" by decide +kernel), if_pos rfl, Int.add_zero]⟩, rfl⟩
      rintro S' ⟨r1, r2, h2, rfl⟩
      obtain ⟨a1, a2, a3, a4, a5⟩ := put_facts hD.pos hD.okg h2.n1 h2.g1
      obtain ⟨b1, b2, b3, b4, b5⟩ := put_facts a1 a2 h2.n2 h2.g2
      have l1 := layM_len b r1.1 r1.2
      have l2 := layM_len (layM b r1.1 r1.2) r2.1 r2.2
      have p1 : F_put [encB b, .str r1.1, .int r1.2] (ok (encB (layM b r1.1 r1.2))) := ⟨b, _, _, rfl, by omega, hD.okg, rfl⟩
      have p2 : F_put [encB (layM b r1.1 r1.2), .str r2.1, .int r2.2] (ok (encB (layM (layM b r1.1 r1.2) r2.1 r2.2))) := ⟨_, _, _, rfl, by omega, a2, rfl⟩
      have hs := h2.s
      have hdn := h2.d
      unfold dnum at hdn
      have hD2 : ∀ (h : Nat) (s : List Pc), R[h]? = some s → Dl n (layM (layM b r1.1 r1.2) r2.1 r2.2) (R.set h (s ++ [(lenB b, lenB (layM (layM b r1.1 r1.2) r2.1 r2.2))])) := fun h s e => hD.step e b1 b2 (by omega)
      have hE2 : ∀ (h : Nat) (s : List Pc), R[h]? = some s → (c + (j : Nat)) % (n : Nat) = (h : Nat) → EvS n c (j + 1) d w (layM (layM b r1.1 r1.2) r2.1 r2.2) (R.set h (s ++ [(lenB b, lenB (layM (layM b r1.1 r1.2) r2.1 r2.2))])) := fun h s e e2 => hE.step hD hjn e2 e (fun t ht => by rw [b4 t (by have := h2.n1; omega), a4 t ht]) (by rw [b3, b5, a3, a5]; omega) (by omega)
      have hlen2 : lenB (layM (layM b r1.1 r1.2) r2.1 r2.2) = lenB b + d + w := by omega
      rw [hlen2] at hD2 hE2
      generalize layM b r1.1 r1.2 = B1 at *
      generalize layM B1 r2.1 r2.2 = B2 at *
      refine' dss_cons (ds_for' (items := [r1, r2].map encRow) (fun i S' => ∃ (B : List Row) (g11 g12 : Slot), S' = [.val (.scr ns), .val (.int (n : Nat)), .val (encB B), .val (.int (k : Nat)), .own2 (R.map fun s => s.map encP), .val (.int (lenB b)), .val (.int c), .val (.int d), .val (.int w), .val (.int (j : Nat)), .val (encB [r1, r2]), g11, g12, .any] ∧ (i = 0 → B = b) ∧ (i = 1 → B = B1) ∧ (i = 2 → B = B2)) rfl (dit_list ?_) ?_ (fun i dd S' hdd hI => ?_) (fun S' hI => ?_) (fun _ _ => rfl))
      · walk_at "l"
      · exact ⟨b, _, _, rfl, fun _ => rfl, fun h => absurd h (by decide), fun h => absurd h (by decide)⟩
      · obtain ⟨B, g11, g12, rfl, i0, i1, i2⟩ := hI
        match i, hdd with
        | 0, hdd =>
          cases hdd
          obtain rfl := i0 rfl
          walk_at "g2"
          refine' dss_one (ds_let (r := .val (encB B1)) (de_fnR (lv := true) c3 rfl ?ha3 p1 (.inl rfl) ?h3 ?h4) rfl rfl (of_decide_eq_true rfl) ?hnC ?h5)
          case ha3 => walk_at "a"
          case h3 => intro _; rfl
          case h4 => intro _; rfl
          case h5 => intro _; rfl
          case hnC => exact ⟨B1, _, _, rfl, fun h => absurd h (by decide), fun _ => rfl, fun h => absurd h (by decide)⟩
        | 1, hdd =>
          cases hdd
          obtain rfl := i1 rfl
          walk_at "g2"
          refine' dss_one (ds_let (r := .val (encB B2)) (de_fnR (lv := true) c3 rfl ?ha3 p2 (.inl rfl) ?h3 ?h4) rfl rfl (of_decide_eq_true rfl) ?hnC ?h5)
          case ha3 => walk_at "a"
          case h3 => intro _; rfl
          case h4 => intro _; rfl
          case h5 => intro _; rfl
          case hnC => exact ⟨B2, _, _, rfl, fun h => absurd h (by decide), fun h => absurd h (by decide), fun _ => rfl⟩
        | i + 2, hdd => cases hdd
      · obtain ⟨B, g11, g12, rfl, i0, i1, i2⟩ := hI
        obtain rfl := i2 rfl
        have m1 := Int.emod_nonneg (c + (j : Nat)) (show ((n : Nat) : Int) ≠ 0 by omega)
        have m2 := Int.emod_lt_of_pos (c + (j : Nat)) (show (0 : Int) < (n : Nat) by omega)
        have hRl := hD.len
        obtain ⟨h, hh⟩ : ∃ h : Nat, (c + (j : Nat)) % (n : Nat) = (h : Nat) := ⟨_, (Int.toNat_of_nonneg m1).symm⟩
        have hhl : h < R.length := by omega
        have hRh := List.getElem?_eq_getElem hhl
        generalize R[h] = s at hRh
        have hix : ixN (R.map fun s => s.map encP).length ((c + (j : Nat)) % (n : Nat)) = some h := by
          unfold ixN
          rw [List.length_map, if_pos m1, if_pos (by omega), hh, Int.toNat_natCast]
        have hRg : (R.map fun s => s.map encP)[h]? = some (s.map encP) := by rw [List.getElem?_map, hRh]; rfl
        have hsl : s.length ≤ R.flatten.length := by
          obtain ⟨rest, e1, _⟩ := perm_set hRh
          rw [e1.length_eq, List.length_append]; omega
        have hnz : (n : Int) ≠ 0 := by omega
        have hnp : (0 : Int) < (n : Nat) := by omega
        obtain ⟨v, v1, v2⟩ := nmB_vis (C := C_law_dealt M) (x := "_law_shares") rfl
        refine' dss_cons (ds_append2 (d := encP (lenB b, lenB b + d + w)) (k := (c + (j : Nat)) % (n : Nat)) (n := h) 4 rfl ?he5 ?he6 hix hRg (idx_get rfl) v v1 v2 (fun _ _ => rfl) (by rw [List.length_map]; omega) ?hn5)
        case he5 => walk_at "e"
        case he6 => walk_at "l"
        case hn5 =>
        have eset : (R.map fun s => s.map encP).set h (s.map encP ++ [encP (lenB b, lenB b + d + w)]) = (R.set h (s ++ [(lenB b, lenB b + d + w)])).map fun s => s.map encP := by
          rw [List.map_set]
          congr 1
          rw [List.map_append]; rfl
        dsimp only
        rw [eset]
        have hf2 := flat_set_len hRh (lenB b, lenB b + d + w)
        have hD3 := hD2 h s hRh
        have hE3 := hE2 h s hRh hh
        refine' dss_one (ds_let (r := .val (.int (lenB b + d + w))) ?he7 rfl rfl (of_decide_eq_true rfl) ?hn7 ?hs7)
        case he7 => walk_at "e"
        case hs7 => intro _; rfl
        case hn7 => exact ⟨B, _, _, _, _, _, by rw [hlen2]; rfl, hD3, hE3, by omega, by omega⟩
    · obtain ⟨b, R, g9, g10, g11, g12, rfl, hD, hE, hf, hbl⟩ := hI
      rw [List.length_map, List.length_range] at hE hf hbl
      exact ⟨b, R, _, _, _, _, _, _, _, _, rfl, hD, hE.all (by omega) hD.len, by omega, by omega⟩
  · obtain ⟨b, R, g3, g6, g7, g8, g9, g10, g11, g12, rfl, hD, hE, hf, hbl⟩ := hI
    rw [List.length_map, List.length_range] at hf hbl
    have hKt : K.toNat * n ≤ 24 := by
      by_cases h0 : 0 ≤ K
      · have h3 : ((K.toNat * n : Nat) : Int) ≤ 24 := by rw [Int.natCast_mul, Int.toNat_of_nonneg h0]; exact hKn
        omega
      · rw [show K.toNat = 0 by omega, Nat.zero_mul]; decide
    have hRl := hD.len
    refine' dss_freeze2 (dss := R.map fun s => s.map encP) 4 rfl ?_
    refine' dss_freeze (ds := (R.map fun s => s.map encP).map D.lst) 4 rfl ?_
    have eX : (R.map fun s => s.map encP).map D.lst = R.map shD := by rw [List.map_map]; rfl
    rw [eX]
    have hsm : ∀ s ∈ R, s.length ≤ 24 := fun s hs => by
      obtain ⟨i, hi, e⟩ := List.mem_iff_getElem.mp hs
      obtain ⟨rest, e1, _⟩ := perm_set (show R[i]? = some s by rw [List.getElem?_eq_getElem hi, e])
      have := e1.length_eq
      rw [List.length_append] at this; omega
    have hG : G_dealt7 (.val (.tup [encB b, shsD (R.map joinM)])) := ⟨b, R.map joinM, rfl, ⟨by omega, hD.pos, hD.okg⟩, ⟨fun z => by have := congrArg List.length z; rw [List.length_map] at this; have e : ([] : List (List Pc)).length = 0 := rfl; omega, by rw [List.length_map]; omega, by have := flat_map_len R fun s _ => joinM_len s; omega⟩, hE.fair hD⟩
    refine' dss_one (ds_ret (r := .val (.tup [encB b, shsD (R.map joinM)])) (de_tup (lv := true) (da_cons ?ha9 (da_cons (dl_of (r := .own2 (R.map fun s => (joinM s).map encP)) (de_map2 (lv := true) [("_law_share", 13)] R shD (fun s => (joinM s).map encP) rfl (dit_list ?hl9) rfl (by omega) (.inl rfl) (fun s _ => flat_pcs _) ?he9) ?hd9) da_nil ?h1) ?h2) (.inl rfl) (by show 2 ≤ 1000000; decide)) hG)
    case ha9 => walk_at "l"
    case hl9 => walk_at "l"
    case he9 =>
      intro s hs
      have g : F_join [shD s] (.ok (.own ((joinM s).map encP))) := ⟨s, rfl, by have := hsm s hs; omega, rfl⟩
      refine ⟨_, dgc_nm rfl rfl rfl, ?_⟩
      refine' de_fnR (lv := true) c4 rfl ?ha4 g (.inl rfl) ?hs4 ?hp4
      case hs4 => intro _; rfl
      case hp4 => intro _; rfl
      case ha4 => walk_at "a"
    case hd9 => show some (D.lst ((R.map fun s => (joinM s).map encP).map D.lst)) = some (D.lst ((R.map joinM).map shD)); rw [List.map_map, List.map_map]; rfl
    case h1 => intro _; rfl
    case h2 => intro _; rfl
end
/-! ## the law's look at shares, walked -/
theorem Pl.up : ∀ {n : Nat} {d : D}, Pl n d → Pl (n + 1) d := by
  intro n
  induction n with
  | zero =>
    intro d p
    cases p with
    | non => exact .non
    | int i => exact .int i
    | str h => exact .str h
  | succ n ih =>
    intro d p
    cases p with
    | non => exact .non
    | int i => exact .int i
    | str h => exact .str h
    | tup h => exact .tup fun d hd => ih (h d hd)
    | lst h => exact .lst fun d hd => ih (h d hd)
structure ShP (l : List (List Pc)) : Prop where
  ne : l ≠ []
  few : l.length ≤ 1000
  len : l.flatten.length ≤ 100000
theorem pl_2 (q : Int × Int) : Pl 1 (.lst (enc2 q)) := .lst fun d hd => by
  rcases List.mem_cons.mp hd with rfl | hd
  · exact .int _
  · rcases List.mem_cons.mp hd with rfl | hd
    · exact .int _
    · cases hd
theorem enc2_ne {p q : Int × Int} : (!decide (p = q)) = true ↔ D.lst (enc2 p) ≠ .lst (enc2 q) := by
  rw [Bool.not_eq_true', decide_eq_false_iff_not]
  refine not_congr ⟨fun h => by rw [h], fun h => ?_⟩
  injection h with h
  injection h with h1 h
  injection h with h2 _
  injection h1 with h1
  injection h2 with h2
  exact Prod.ext h1 h2
theorem pl_ints (l : List Int) : Pl 1 (.lst (l.map D.int)) := .lst fun d hd => by
  obtain ⟨i, _, rfl⟩ := List.mem_map.mp hd
  exact .int i
theorem filter_nil {α : Type} [DecidableEq α] (l : List α) (a : α) : (l.filter fun x => !decide (x = a)).isEmpty = l.all fun x => decide (x = a) := by
  induction l with
  | nil => rfl
  | cons x l ih =>
    by_cases h : x = a
    · rw [List.filter_cons_of_neg (by simp [h]), ih]; simp [h]
    · rw [List.filter_cons_of_pos (by simp [h])]; simp [h]
/-- the keys seen -/
structure KeyI (ps ks : List Int) : Prop where
  nd : ks.Nodup
  mem : ∀ x, x ∈ ks ↔ x ∈ ps
  len : ks.length ≤ ps.length
theorem KeyI.nil : KeyI [] [] := ⟨.nil, fun _ => Iff.rfl, Nat.le_refl _⟩
theorem KeyI.add {ps ks : List Int} (h : KeyI ps ks) (x : Int) : KeyI (ps ++ [x]) (addU ks x) := by
  refine ⟨?_, fun y => ?_, ?_⟩
  · unfold addU
    split
    · exact h.nd
    · rename_i hx
      rw [List.nodup_append]
      exact ⟨h.nd, List.nodup_cons.mpr ⟨List.not_mem_nil, .nil⟩, fun a ha b hb e => hx (by rw [← List.mem_singleton.mp hb, ← e]; exact ha)⟩
  · rw [mem_addU, h.mem y, List.mem_append, List.mem_singleton]
  · have := h.len; have := addU_len ks x; rw [List.length_append, List.length_singleton]; omega
theorem pts_len (q : List Pc) : (q.flatMap fun p : Pc => [p.1, p.2]).length = 2 * q.length := by
  induction q with
  | nil => rfl
  | cons p q ih => rw [List.flatMap_cons, List.length_append, ih]; show 2 + 2 * q.length = 2 * (q.length + 1); omega
theorem flat_le (l : List (List Pc)) (i : Nat) : (l.take i).flatten.length ≤ l.flatten.length := by
  have : l.flatten.length = (l.take i).flatten.length + (l.drop i).flatten.length := by rw [← List.length_append, ← List.flatten_append, List.take_append_drop]
  omega
def F_lcuts (ds : List D) (o : Out) : Prop := ∃ (b : List Row) (l : List (List Pc)), ds = [encB b, shsD l] ∧ b.length ≤ 10000 ∧ l.flatten.length ≤ 100000 ∧ o = .ok (.own ((cutsM b l).map D.int))
def F_dout (ds : List D) (o : Out) : Prop := ∃ (b : List Row) (l : List (List Pc)), ds = [encB b, shsD l] ∧ BkP b ∧ ShP l ∧ o = ok (.bl (goodB (lenB b) l))
def F_lfair (ds : List D) (o : Out) : Prop := ∃ (b : List Row) (l : List (List Pc)), ds = [encB b, shsD l] ∧ BkP b ∧ ShP l ∧ o = ok (.bl (lawB b l))
def F_lcfit (ds : List D) (o : Out) : Prop := ∃ (b : List Row) (l : List (List Pc)), ds = [encB b, shsD l] ∧ BkP b ∧ ShP l ∧ o = ok (.bl true)
theorem heir_ok (l : List (List Pc)) : ∀ t ∈ sortT (allT 0 l), 0 ≤ t.2.2 ∧ t.2.2 < l.length := fun t ht => by
  have hpm : (sortT (allT 0 l)).Perm (allT 0 l) := sortL_perm (k := kT) _
  have key : ∀ (l : List (List Pc)) (k : Nat) (t : Tr), t ∈ allT (k : Nat) l → (k : Int) ≤ t.2.2 ∧ t.2.2 < ((k + l.length : Nat) : Int) := by
    intro l
    induction l with
    | nil => intro k t h; cases h
    | cons s l ih =>
      intro k t h
      rcases List.mem_append.mp (show t ∈ trs (k : Nat) s ++ allT ((k + 1 : Nat) : Int) l from h) with h | h
      · obtain ⟨p, _, rfl⟩ := List.mem_map.mp h
        rw [List.length_cons]
        show (k : Int) ≤ (k : Int) ∧ (k : Int) < _
        omega
      · have := ih (k + 1) t h
        rw [List.length_cons]
        omega
  have := key l 0 t (hpm.mem_iff.mp ht)
  omega
section
variable {M : Mo} {f : Addr} {fd : FuncData}
theorem ok_law_dealt_out (T : Nn M) (c1 : Cal M "_law_rows" F_rowsL) (F : Fun M.K "_law_dealt_out" "_law_dealt_out" s_law_dealt_out f fd) : FnOk M.P M.w M.K M.mg M.base (L2.CX M.P M.w) (M.k + 1) f fd ["_law_bank", "_law_shares"] (spOf M.K F_dout) := by
  obtain ⟨n_sum, _, _, n_len, _⟩ := T
  refine fn_data F sc_law_dealt_out (fun ds o ⟨b, l, h, _⟩ => by rw [h]; rfl) (fun ds o ⟨b, l, h1, hb, hl, h2⟩ => ?_)
  subst h1 h2
  have hbl := hb.len
  by_cases ha : l.all (fun s => okS (-1) s) = true
  · have f1 : F_rowsL [shsD l] (.ok (.own ((sortT (allT 0 l)).map encT3))) := ⟨l, rfl, hl.len, hl.few, by unfold rowsD; rw [if_pos ha]⟩
    have hpj := sort_proj l
    generalize sortT (allT 0 l) = rows at *
    refine' dss_cons (ds_let (r := .val (.lst (rows.map encT3))) (de_dl (dl_fz (r := .own (rows.map encT3)) (de_fnR (lv := true) c1 rfl ?ha1 f1 (.inl rfl) ?h1 ?h2) rfl)) rfl rfl (of_decide_eq_true rfl) ?hn1 ?h3)
    case ha1 => walk_at "a"
    case h1 => intro _; rfl
    case h2 => intro _; rfl
    case h3 => intro _; rfl
    refine' dss_cons (ds_ifF (x := false) (dt_isN (d := .lst (rows.map encT3)) ?ha2) rfl (dss_nil ?_))
    case ha2 => walk_at "l"
    walk_at "let"
    refine' dss_cons (ds_for' (items := rows.map encT3) (fun i S' => ∃ a g1 g2 g3, S' = [.val (encB b), .val (shsD l), .val (.lst (rows.map encT3)), .val (.int a), g1, g2, g3, .any] ∧ eE (lenB b) a ((rows.drop i).map pT) = eE (lenB b) 0 (sortP l.flatten)) rfl (dit_list ?_) ?_ (fun i d S' hd hI => ?_) (fun S' hI => ?_) (fun _ _ => rfl))
    · walk_at "l"
    · exact ⟨0, _, _, _, rfl, by rw [List.drop_zero, hpj]⟩
    · obtain ⟨a, g1, g2, g3, rfl, e⟩ := hI
      obtain ⟨t, ht, rfl⟩ := map_get hd
      rw [drop_at ht, List.map_cons, eE_cons, show (pT t).1 = t.1 from rfl] at e
      refine' dg_tup3 4 5 6 (idx_get rfl) (idx_get rfl) (idx_get rfl) (locB_loc rfl) (locB_loc rfl) (locB_loc rfl) (of_decide_eq_true rfl) (of_decide_eq_true rfl) (of_decide_eq_true rfl) ?hg3
      case hg3 =>
      refine' dss_cons (ds_if (x := !decide (t.1 = a)) ?_ (fun hc => ?_) (fun hc => dss_nil ?_))
      · walk_at "t"
      · rw [Bool.not_eq_true', decide_eq_false_iff_not] at hc
        rw [if_pos hc] at e
        have eo : goodB (lenB b) l = false := by unfold goodB; rw [← e, Bool.and_false]
        rw [eo]
        walk_at "ret"
        rfl
      · rw [Bool.not_eq_false', decide_eq_true_eq] at hc
        rw [if_neg (not_not_intro hc)] at e
        refine' dss_one (ds_let ?he rfl rfl (of_decide_eq_true rfl) ?hn4 ?hs)
        case he => walk_at "e"
        case hs => intro _; rfl
        case hn4 => exact ⟨_, _, _, _, rfl, e⟩
    · obtain ⟨a, g1, g2, g3, rfl, e⟩ := hI
      rw [List.length_map, List.drop_length] at e
      have e' : decide (a = lenB b) = eE (lenB b) 0 (sortP l.flatten) := e
      have eo : goodB (lenB b) l = decide (a = lenB b) := by unfold goodB; rw [ha, ← e', Bool.true_and]
      rw [eo]
      refine' dss_one (ds_ret (r := .val (.bl (decide (a = lenB b)))) (de_eqI ?ha3 (de_sum (ns := b.map (·.2)) (glB_gl rfl).1 n_sum (dl_rd (de_map (lv := true) [("_law_row", 7)] b encRow (fun r => .int r.2) rfl (dit_list ?hb3) rfl (by omega) (.inl rfl) ?hc3) ?hd3) ?he3)) rfl)
      case ha3 => walk_at "e"
      case hb3 => walk_at "l"
      case hc3 =>
        intro r _
        exact ⟨_, _, dgc_nm rfl rfl rfl, by walk_at "e", rfl⟩
      case hd3 => rw [List.map_map]; rfl
      case he3 => intro _; rfl
  · have f1 : F_rowsL [shsD l] (ok .non) := ⟨l, rfl, hl.len, hl.few, by unfold rowsD; rw [if_neg ha]⟩
    have eo : goodB (lenB b) l = false := by
      unfold goodB
      rw [Bool.eq_false_iff.mpr ha]; rfl
    rw [eo]
    walk_at "let"
    refine' dss_cons (ds_ifT (x := true) (dt_isN (d := .non) ?ha2) rfl ?hr)
    case ha2 => walk_at "l"
    case hr =>
      walk_at "ret"
      rfl
theorem ok_law_fair (T : Nn M) (c1 : Cal M "_law_dealt_out" F_dout) (c2 : Cal M "_law_sums" F_sumsL) (c3 : Cal M "_law_rows" F_rowsL) (F : Fun M.K "_law_fair" "_law_fair" s_law_fair f fd) : FnOk M.P M.w M.K M.mg M.base (L2.CX M.P M.w) (M.k + 1) f fd ["_law_bank", "_law_shares"] (spOf M.K F_lfair) := by
  obtain ⟨n_sum, _, _, n_len, _⟩ := T
  refine fn_data F sc_law_fair (fun ds o ⟨b, l, h, _⟩ => by rw [h]; rfl) (fun ds o ⟨b, l, h1, hb, hl, h2⟩ => ?_)
  subst h1 h2
  have hbl := hb.len
  have f0 : F_dout [encB b, shsD l] (ok (.bl (goodB (lenB b) l))) := ⟨b, l, rfl, hb, hl, rfl⟩
  refine' dss_cons (ds_if (x := !goodB (lenB b) l) (dt_not (dt_val (de_fnR (lv := true) c1 rfl ?ha1 f0 (.inl rfl) ?h1 ?h2))) (fun hc => ?_) (fun hc => dss_nil ?_))
  case ha1 => walk_at "a"
  case h1 => intro _; rfl
  case h2 => intro _; rfl
  · rw [Bool.not_eq_true'] at hc
    have eo : lawB b l = false := by unfold lawB; rw [hc]; rfl
    rw [eo]
    walk_at "ret"
    rfl
  · rw [Bool.not_eq_false'] at hc
    have hG := hc
    have ha : l.all (fun s => okS (-1) s) = true := by
      unfold goodB at hc
      rw [Bool.and_eq_true] at hc
      exact hc.1
    have f1 : F_rowsL [shsD l] (.ok (.own ((sortT (allT 0 l)).map encT3))) := ⟨l, rfl, hl.len, hl.few, by unfold rowsD; rw [if_pos ha]⟩
    have hpj := sort_proj l
    have hse := sums_eq b l
    have hheir := heir_ok l
    generalize sortT (allT 0 l) = rows at *
    have eL : lawB b l = (b.isEmpty || evenB b l) := by unfold lawB; rw [hG, Bool.true_and]
    rw [eL]
    refine' dss_cons (ds_if (x := b.isEmpty) (dt_eqD (da := encB b) (db := .lst []) 2 ?ha4 ?hb4 (pl_bank hb.okg) (.lst fun _ h => by cases h) ?hx4 (by decide)) (fun hc => ?_) (fun hc => dss_nil ?_))
    case ha4 => walk_at "l"
    case hb4 => walk_at "l"
    case hx4 => cases b <;> simp
    · rw [hc]
      walk_at "ret"
      rfl
    · have hne : b ≠ [] := fun z => by rw [z] at hc; cases hc
      rw [hc, Bool.false_or]
      have hch := good_ch hG
      rw [← hpj] at hch
      have f2 : F_sumsL [encB b, .lst (rows.map encT3), .int (((l.map shD).length : Nat) : Int)] (.ok (.own2 ((sumsM b l.length rows).map enc2))) := ⟨b, rows, l.length, by rw [List.length_map], ⟨hne, by omega, hb.pos, hb.okg, hch, hheir⟩, hl.few, rfl⟩
      rw [hse] at f2
      have hh : (l.map (svs b))[0]? = some (svs b (l.headD [])) := by
        cases l with
        | nil => exact absurd rfl hl.ne
        | cons s l => rfl
      have eE2 : evenB b l = (((l.map (svs b)).filter fun q => !decide (q = svs b (l.headD []))).isEmpty) := by
        rw [filter_nil]
        unfold evenB
        rw [List.all_map]; rfl
      rw [eE2]
      have hfl := hl.few
      have hvl : (l.map (svs b)).length = l.length := List.length_map ..
      generalize l.map (svs b) = V at *
      generalize svs b (l.headD []) = q0 at *
      have hat : atI (V.map fun q => D.lst (enc2 q)) 0 = some (.lst (enc2 q0)) := atI_nat' (by decide) (by rw [List.getElem?_map]; show (V[0]?).map _ = _; rw [hh]; rfl)
      refine' dss_cons (ds_let (r := .val (.lst (V.map fun q => D.lst (enc2 q)))) (de_dl (dl_fz (r := .own2 (V.map enc2)) (de_fnR (lv := true) c2 rfl (da_cons ?hx1 (da_cons (dl_of (r := .own (rows.map encT3)) (de_fnR (lv := true) c3 rfl ?hx2 f1 (.inl rfl) ?hx3 ?hx4) rfl) (da_cons ?hx5 da_nil ?hx6) ?hx7) ?hx8) f2 (.inl rfl) ?hs5 ?hp5) ?he5)) rfl rfl (of_decide_eq_true rfl) ?hn5 ?hs6)
      case hs6 => intro _; rfl
      case hs5 => intro _; rfl
      case hp5 => intro _; rfl
      case he5 => show some (D.lst ((V.map enc2).map D.lst)) = _; rw [List.map_map]; rfl
      case hx1 => walk_at "l"
      case hx2 => walk_at "a"
      case hx3 => intro _; rfl
      case hx4 => intro _; rfl
      case hx5 => walk_at "l"
      case hx6 => intro _; rfl
      case hx7 => intro _; rfl
      case hx8 => intro _; rfl
      refine' dss_one (ds_ret (de_eqD (x := (V.filter fun q => !decide (q = q0)).isEmpty) (da := .lst ((V.filter fun q => !decide (q = q0)).map fun q => D.lst (enc2 q))) (db := .lst []) 2 (dl_rd (de_filter (lv := true) [("_law_one", 3)] V (fun q => D.lst (enc2 q)) (fun q => D.lst (enc2 q)) (fun q => !decide (q = q0)) rfl (dit_list ?hl6) rfl (by omega) (.inl rfl) ?he6) rfl) ?hb6 (.lst fun d hd => ?hp6) (.lst fun _ h => by cases h) ?hx6 (by decide)) ?hr6)
      case hl6 => walk_at "l"
      case hb6 => walk_at "l"
      case he6 =>
        intro q _
        refine ⟨_, .val (.lst (enc2 q)), dgc_nm rfl rfl rfl, ?_, ?_, rfl⟩
        · exact dt_neD 1 (da := .lst (enc2 q)) (db := .lst (enc2 q0)) (by walk_at "l") (by walk_at "l") (pl_2 q) (pl_2 q0) enc2_ne (by decide)
        · exact de_of (lv := true) (by walk_at "l") (.inl rfl)
      case hp6 =>
        obtain ⟨q, _, rfl⟩ := List.mem_map.mp hd
        exact pl_2 q
      case hx6 =>
        cases V.filter fun q => !decide (q = q0) <;> simp
      case hr6 => rfl
theorem ok_law_cuts (T : Nn M) (n_sorted : M.mg "sorted" = none) (F : Fun M.K "_law_cuts" "_law_cuts" s_law_cuts f fd) : FnOk M.P M.w M.K M.mg M.base (L2.CX M.P M.w) (M.k + 1) f fd ["_law_bank", "_law_shares"] (spOf M.K F_lcuts) := by
  obtain ⟨n_sum, _⟩ := T
  refine fn_data F sc_law_cuts (fun ds o ⟨b, l, h, _⟩ => by rw [h]; rfl) (fun ds o ⟨b, l, h1, hb, hl, h2⟩ => ?_)
  subst h1 h2
  refine' dss_cons (ds_let (r := .val (.int (lenB b))) (de_sum (ns := b.map (·.2)) (glB_gl rfl).1 n_sum (dl_rd (de_map (lv := true) [("_law_row", 7)] b encRow (fun r => .int r.2) rfl (dit_list ?hb3) rfl (by omega) (.inl rfl) ?hc3) ?hd3) ?he3) rfl rfl (of_decide_eq_true rfl) ?hnA ?hs3)
  case hb3 => walk_at "l"
  case hc3 =>
    intro r _
    exact ⟨_, _, dgc_nm rfl rfl rfl, by walk_at "e", rfl⟩
  case hd3 => rw [List.map_map]; rfl
  case he3 => intro _; rfl
  case hs3 => intro _; rfl
  walk_at "let"
  refine' dss_cons (ds_for' (items := l.map shD) (fun i S' => ∃ ks g1 g2 g3, S' = [.val (encB b), .val (shsD l), .val (.int (lenB b)), .ownD (dkT ks), g1, g2, g3, .any, .any] ∧ KeyI (ptsM (l.take i)) ks) rfl (dit_list ?_) ?_ (fun i d S' hd hI => ?_) (fun S' hI => ?_) (fun _ _ => rfl))
  · walk_at "l"
  · exact ⟨[], _, _, _, rfl, KeyI.nil⟩
  · obtain ⟨ks, g1, g2, g3, rfl, hK⟩ := hI
    obtain ⟨s, hs, rfl⟩ := map_get hd
    have eP : ptsM (l.take (i + 1)) = ptsM (l.take i) ++ (s.flatMap fun p => [p.1, p.2]) := by
      unfold ptsM
      rw [take_snoc hs, List.flatten_append, List.flatMap_append, List.flatten_singleton]
    have hz : (ptsM (l.take i)).length + 2 * s.length ≤ 200000 := by
      have e1 : (ptsM (l.take (i + 1))).length ≤ 200000 := by
        unfold ptsM
        rw [pts_len]
        have := flat_le l (i + 1)
        omega
      rw [eP, List.length_append, pts_len] at e1
      exact e1
    rw [eP]
    generalize ptsM (l.take i) = ps at *
    walk_at "g1"
    refine' dss_one (ds_for' (items := s.map encP) (fun j S' => ∃ ks g2 g3, S' = [.val (encB b), .val (shsD l), .val (.int (lenB b)), .ownD (dkT ks), .val (shD s), g2, g3, .any, .any] ∧ KeyI (ps ++ ((s.take j).flatMap fun p => [p.1, p.2])) ks) rfl (dit_list ?_) ?_ (fun j d S' hd hI => ?_) (fun S' hI => ?_) (fun _ _ => rfl))
    · walk_at "l"
    · exact ⟨ks, _, _, rfl, by rw [List.take_zero, List.flatMap_nil, List.append_nil]; exact hK⟩
    · obtain ⟨ks, g2, g3, rfl, hK⟩ := hI
      obtain ⟨x, hx, rfl⟩ := map_get hd
      have hjl := (List.getElem?_eq_some_iff.mp hx).1
      have hk1 := (hK.add x.1).add x.2
      have e2 : ps ++ (s.take j).flatMap (fun p => [p.1, p.2]) ++ [x.1] ++ [x.2] = ps ++ (s.take (j + 1)).flatMap (fun p => [p.1, p.2]) := by
        rw [take_snoc hx, List.flatMap_append]
        simp only [List.flatMap_cons, List.flatMap_nil, List.append_assoc, List.append_nil, List.cons_append, List.nil_append]
      rw [e2] at hk1
      have z1 := hK.len
      rw [List.length_append, pts_len, List.length_take] at z1
      have z2 := addU_len ks x.1
      walk_at "g2"
      refine' dss_cons (ds_dput (j := 3) (ks := ks) de_bl ?hi1 rfl rfl rfl (by omega) ?hn1 ?hs1)
      case hi1 => walk_at "e"
      case hs1 => intro _; rfl
      refine' dss_one (ds_dput (j := 3) (ks := addU ks x.1) de_bl ?hi2 rfl rfl rfl (by omega) ?hn2 ?hs2)
      case hi2 => walk_at "e"
      case hs2 => intro _; rfl
      case hn2 => exact ⟨_, _, _, rfl, hk1⟩
    · obtain ⟨ks, g2, g3, rfl, hK⟩ := hI
      rw [List.length_map, List.take_length] at hK
      exact ⟨ks, _, _, _, rfl, hK⟩
  · obtain ⟨ks, g1, g2, g3, rfl, hK⟩ := hI
    rw [List.length_map, List.take_length] at hK
    have z1 := hK.len
    unfold ptsM at z1
    rw [pts_len] at z1
    have e : srtI (ks.filter fun k => !decide (k = 0) && !decide (k = lenB b)) = cutsM b l := srtI_cuts (hK.nd.filter _) fun x => by
      rw [List.mem_filter, hK.mem]
      unfold ptsM
      rw [mem_pts]
      simp only [Bool.and_eq_true, Bool.not_eq_true', decide_eq_false_iff_not, ne_eq]
    rw [← e]
    refine' dss_one (ds_ret (de_sortI (glB_gl rfl).1 n_sorted (dl_rd (de_keysF (j := 3) [("_law_at", 8)] ks (fun k => !decide (k = 0) && !decide (k = lenB b)) rfl rfl rfl rfl rfl (by omega) ?he4) rfl) ?h3) ?hp)
    case h3 => intro _; rfl
    case hp => rfl
    case he4 =>
      intro k _
      refine ⟨_, .val (.int k), dgc_nm rfl rfl rfl, ?_, ?_, rfl⟩
      · walk_at "t"
      · walk_at "e"
theorem ok_law_cuts_fit (T : Nn M) (c1 : Cal M "cuts" F_cuts) (c2 : Cal M "_law_whole" F_whole) (c3 : Cal M "_law_cuts" F_lcuts) (F : Fun M.K "_law_cuts_fit" "_law_cuts_fit" s_law_cuts_fit f fd) : FnOk M.P M.w M.K M.mg M.base (L2.CX M.P M.w) (M.k + 1) f fd ["_law_bank", "_law_shares"] (spOf M.K F_lcfit) := by
  obtain ⟨_, _, _, n_len, n_isi, _, _, _, n_list, _⟩ := T
  have b2 := boot_list
  refine fn_data F sc_law_cuts_fit (fun ds o ⟨b, l, h, _⟩ => by rw [h]; rfl) (fun ds o ⟨b, l, h1, hb, hl, h2⟩ => ?_)
  subst h1 h2
  have hfew := hl.few
  have hbl := hb.len
  have f1 : F_cuts [encB b, shsD l] (.ok (.own ((cutsM b l).map D.int))) := ⟨b, l, rfl, by omega, hl.len, rfl⟩
  have f3 : F_lcuts [encB b, shsD l] (.ok (.own ((cutsM b l).map D.int))) := ⟨b, l, rfl, hbl, hl.len, rfl⟩
  have plb := pl_bank hb.okg
  have pls := pl_shs l
  have plh : Pl 4 (.lst [encB b, shsD l]) := .lst fun d hd => by
    rcases List.mem_cons.mp hd with rfl | hd
    · exact plb.up
    · rw [List.mem_singleton.mp hd]; exact pls
  generalize cutsM b l = cs at *
  refine' dss_cons (ds_let (r := .val (.lst [encB b, shsD l])) (de_dl (dl_fz (r := .own [encB b, shsD l]) (de_lst (lv := true) (da_cons (dl_of (r := .own (b.map encRow)) ?ha1 rfl) (da_cons (dl_of (r := .own2 (l.map fun s => s.map encP)) (de_map2 (lv := true) [("_law_share", 5)] l shD (fun s => s.map encP) rfl (dit_list ?hl1) rfl (by omega) (.inl rfl) (fun s _ => flat_pcs _) ?he1) ?hx1) da_nil ?hq1) ?hq2) (.inl rfl) (by show 2 ≤ 1000000; decide)) rfl)) rfl rfl (of_decide_eq_true rfl) ?hnA ?h3)
  case ha1 => walk_at "e"
  case hl1 => walk_at "l"
  case hx1 => show some (D.lst ((l.map fun s => s.map encP).map D.lst)) = _; rw [List.map_map]; rfl
  case he1 =>
    intro s _
    refine ⟨_, dgc_nm rfl rfl rfl, ?_⟩
    walk_at "e"
  case hq1 => intro _; rfl
  case hq2 => intro _; rfl
  case h3 => intro _; rfl
  refine' dss_cons (ds_let (r := .val (.lst (cs.map D.int))) (de_dl (dl_fz (r := .own (cs.map D.int)) (de_fnR (lv := true) c1 rfl ?ha2 f1 (.inl rfl) ?h1 ?h2) rfl)) rfl rfl (of_decide_eq_true rfl) ?hnB ?h3)
  case ha2 => walk_at "a"
  case h1 => intro _; rfl
  case h2 => intro _; rfl
  case h3 => intro _; rfl
  refine' dss_cons (ds_ifF (x := !true || false) (dt_w (dw_or ?ht (fun _ => dw_or1 (dt_neD (da := .lst [encB b, shsD l]) (db := .lst [encB b, shsD l]) 4 ?hu (dl_of (r := .own [encB b, shsD l]) ?hv rfl) plh plh ⟨fun h => (nomatch h), fun h => absurd rfl h⟩ (by decide))))) rfl (dss_nil ?_))
  case ht => walk_at "t"
  case hu => walk_at "l"
  case hv => walk_at "e"
  refine' dss_cons (ds_for' (items := cs.map D.int) (fun i S' => ∃ g, S' = [.val (encB b), .val (shsD l), .val (.lst [encB b, shsD l]), .val (.lst (cs.map D.int)), g, .any]) rfl (dit_list ?_) ?_ (fun i d S' hd hI => ?_) (fun S' hI => ?_) (fun _ _ => rfl))
  · walk_at "l"
  · exact ⟨_, rfl⟩
  · obtain ⟨g, rfl⟩ := hI
    obtain ⟨x, hx, rfl⟩ := map_get hd
    have hw : F_whole [.int x] (ok (.bl true)) := ⟨_, rfl, rfl⟩
    walk_at "g1"
    refine' dss_one (ds_ifF (x := !true) ?ht2 rfl (dss_nil ?_))
    case ht2 => walk_at "t"
    exact ⟨_, rfl⟩
  · obtain ⟨g, rfl⟩ := hI
    refine' dss_one (ds_ret (de_eqD (x := true) (da := .lst (cs.map D.int)) 1 ?ha5 (dl_of (r := .own (cs.map D.int)) (de_fnR (lv := true) c3 rfl ?hb5 f3 (.inl rfl) ?h4 ?h5) rfl) (pl_ints cs) (pl_ints cs) ⟨fun _ => rfl, fun _ => rfl⟩ (by decide)) ?hp5)
    case ha5 => walk_at "l"
    case hb5 => walk_at "a"
    case h4 => intro _; rfl
    case h5 => intro _; rfl
    case hp5 => rfl
end
/-! ## the ways of spoiling, walked -/
structure Sb (B : Nat) (l : List (List Pc)) : Prop where
  ne : l ≠ []
  few : l.length ≤ 6
  sm : ∀ s ∈ l, s.length ≤ B
theorem Sb.set {B : Nat} {l : List (List Pc)} (h : Sb B l) {i : Nat} {s : List Pc} (hs : s.length ≤ B) : Sb B (l.set i s) :=
  ⟨fun z => h.ne (List.eq_nil_of_length_eq_zero (by rw [← List.length_set (as := l) (i := i) (a := s), z]; rfl)), by rw [List.length_set]; exact h.few, fun t ht => by
    rcases List.mem_or_eq_of_mem_set ht with ht | rfl
    · exact h.sm t ht
    · exact hs⟩
theorem Sb.up {B C : Nat} {l : List (List Pc)} (h : Sb B l) (hc : B ≤ C) : Sb C l := ⟨h.ne, h.few, fun s hs => Nat.le_trans (h.sm s hs) hc⟩
theorem Sb.shp {B : Nat} {l : List (List Pc)} (h : Sb B l) (hB : B ≤ 1000) : ShP l :=
  ⟨h.ne, by have := h.few; omega, by
    have : ∀ (l : List (List Pc)), (∀ s ∈ l, s.length ≤ 1000) → l.flatten.length ≤ l.length * 1000 := fun l => by
      induction l with
      | nil => intro _; exact Nat.zero_le _
      | cons s l ih =>
        intro h
        have := ih fun s hs => h s (.tail _ hs)
        have := h s (.head _)
        rw [List.flatten_cons, List.length_append, List.length_cons]; omega
    have h1 := this l fun s hs => Nat.le_trans (h.sm s hs) hB
    have h2 := h.few
    omega⟩
def G_val (B : Nat) (r : R) : Prop := ∃ l : List (List Pc), r = .val (shsD l) ∧ Sb B l
def F_way (ds : List D) : Prop := ∃ c : Int, ds = [.int c]
def G_way (r : R) : Prop := ∃ i : Int, r = .val (.int i)
def F_edge (ds : List D) : Prop := ∃ (l : List (List Pc)) (e : Int), ds = [shsD l, .int e] ∧ Sb 24 l
def F_psp (ds : List D) : Prop := ∃ (p : Pc) (w c : Int), ds = [encP p, .int w, .int c] ∧ p.1 < p.2
def G_psp (r : R) : Prop := ∃ s : List Pc, r = .own (s.map encP) ∧ s.length ≤ 2
def F_given (ds as : List D) : Prop := ∃ (l : List (List Pc)) (a o : Nat) (w : Int) (k : Nat), ds = l.map shD ∧ as = [.int (a : Nat), .int (o : Nat), .int w, .int (k : Nat)] ∧ Sb 24 l ∧ a < l.length ∧ o < l.length ∧ ∃ s, l[a]? = some s ∧ k < s.length
def G_given (ds : List D) : Prop := ∃ l : List (List Pc), ds = l.map shD ∧ Sb 60 l
def way7 : List Int := [16, 20, 17, 13, 20, 14, 5, 20, 18, 12, 2, 15, 20, 11, 3, 10, 20, 19, 1, 20] ++ [4, 6, 7, 20, 8, 9, 0, 20, 16, 17, 20, 14, 12, 20, 16, 13, 20, 20, 16, 20]
theorem at_nat {α : Type} {l : List α} {i : Nat} {x : α} (h : l[i]? = some x) : atI l (i : Nat) = some x := atI_nat' (by omega) (by rw [Int.toNat_natCast]; exact h)
theorem at_sh {l : List (List Pc)} {i : Nat} {s : List Pc} (h : l[i]? = some s) : atI (l.map shD) (i : Nat) = some (shD s) := at_nat (by rw [List.getElem?_map, h]; rfl)
theorem at_pc {s : List Pc} {i : Nat} {p : Pc} (h : s[i]? = some p) : atI (s.map encP) (i : Nat) = some (encP p) := at_nat (by rw [List.getElem?_map, h]; rfl)
theorem ix_nat {n i : Nat} (h : i < n) : ixN n (i : Nat) = some i := by
  unfold ixN
  rw [if_pos (by omega), if_pos (by omega), Int.toNat_natCast]
section
variable {M : Mo} {f : Addr} {fd : FuncData}
theorem ok_law_way (F : Fun M.K "_law_way" "_law_way" s_law_way f fd) : FnOk M.P M.w M.K M.mg M.base (L2.CX M.P M.w) (M.k + 1) f fd ["_law_cell"] (spG M.K F_way G_way) := by
  refine fn_dataG F sc_law_way (fun ds ⟨c, h⟩ => by rw [h]; rfl) (fun ds ⟨c, h1⟩ => ?_)
  subst h1
  have m1 := Int.emod_nonneg c (show (40 : Int) ≠ 0 by decide)
  have m2 := Int.emod_lt_of_pos c (show (0 : Int) < 40 by decide)
  obtain ⟨x, hx⟩ : ∃ x, way7[(c % 40).toNat]? = some x := ⟨_, List.getElem?_eq_getElem (show (c % 40).toNat < 40 by omega)⟩
  have hat : atI (way7.map D.int) (c % 40) = some (.int x) := atI_nat' m1 (by rw [List.getElem?_map, hx]; rfl)
  refine' dss_cons (ds_let (r := .own (([16, 20, 17, 13, 20, 14, 5, 20, 18, 12, 2, 15, 20, 11, 3, 10, 20, 19, 1, 20] : List Int).map D.int)) ?ha rfl rfl (of_decide_eq_true rfl) ?hn0 ?hs)
  case ha => walk_at "e"
  case hs => intro _; rfl
  refine' dss_cons (ds_let (r := .own (way7.map D.int)) (de_cat (lv := false) (ds := ([16, 20, 17, 13, 20, 14, 5, 20, 18, 12, 2, 15, 20, 11, 3, 10, 20, 19, 1, 20] : List Int).map D.int) (es := ([4, 6, 7, 20, 8, 9, 0, 20, 16, 17, 20, 14, 12, 20, 16, 13, 20, 20, 16, 20] : List Int).map D.int) ?hb ?hc (by show 20 + 20 ≤ 1000000; decide) (.inr ?hd)) rfl rfl (of_decide_eq_true rfl) ?hn1 ?hs)
  case hb => walk_at "l"
  case hc => exact dl_of (r := .own (([4, 6, 7, 20, 8, 9, 0, 20, 16, 17, 20, 14, 12, 20, 16, 13, 20, 20, 16, 20] : List Int).map D.int)) (by walk_at "e") rfl
  case hd => exact flat_ints way7
  case hs => intro _; rfl
  refine' dss_one (ds_ret (r := .val (.int x)) (de_of (lv := false) (dl_ixL (lv := false) (ds := way7.map D.int) (k := c % 40) ?he ?hf hat ?hg) (.inr (.int _))) ⟨x, rfl⟩)
  case he => walk_at "l"
  case hf => walk_at "e"
  case hg => intro _ _; rfl
theorem ok_law_moved_edge (T : Nn M) (F : Fun M.K "_law_moved_edge" "_law_moved_edge" s_law_moved_edge f fd) : FnOk M.P M.w M.K M.mg M.base (L2.CX M.P M.w) (M.k + 1) f fd ["_law_shares", "_law_edge"] (spG M.K F_edge (G_val 60)) := by
  obtain ⟨_, _, _, _, _, n_int, _⟩ := T
  refine fn_dataG F sc_law_moved_edge (fun ds ⟨l, e, h, _⟩ => by rw [h]; rfl) (fun ds ⟨l, e, h1, hl⟩ => ?_)
  subst h1
  have hfew := hl.few
  walk_at "let"
  refine' dss_cons (ds_for' (items := l.map shD) (fun i S' => ∃ (m : List (List Pc)) (g1 g2 g3 g4 : Slot), S' = [.val (shsD l), .val (.int e), .own (m.map shD), g1, g2, g3, g4] ∧ m.length = i ∧ ∀ s ∈ m, s.length ≤ 24) rfl (dit_list ?_) ?_ (fun i d S' hd hI => ?_) (fun S' hI => ?_) (fun _ _ => rfl))
  · walk_at "l"
  · exact ⟨[], _, _, _, _, rfl, rfl, fun _ h => by cases h⟩
  · obtain ⟨m, g1, g2, g3, g4, rfl, hm, hm2⟩ := hI
    obtain ⟨s, hs, rfl⟩ := map_get hd
    have hil := (List.getElem?_eq_some_iff.mp hs).1
    have hsl := hl.sm s (List.mem_of_getElem? hs)
    walk_at "g1"
    walk_at "let"
    refine' dss_cons (ds_for' (items := s.map encP) (fun j S' => ∃ (w : List Pc) (g3 g4 : Slot), S' = [.val (shsD l), .val (.int e), .own (m.map shD), .val (shD s), .own (w.map encP), g3, g4] ∧ w.length = j) rfl (dit_list ?_) ?_ (fun j d S' hd hI => ?_) (fun S' hI => ?_) (fun _ _ => rfl))
    · walk_at "l"
    · exact ⟨[], _, _, rfl, rfl⟩
    · obtain ⟨w, g3, g4, rfl, hw⟩ := hI
      obtain ⟨x, hx, rfl⟩ := map_get hd
      have hjl := (List.getElem?_eq_some_iff.mp hx).1
      have hz : (w.map encP).length ≤ 1000000 := by rw [List.length_map]; omega
      walk_at "g2"
      refine' dss_one ?_
      walk_at "app"
      refine ⟨w ++ [(x.1 + (if decide (x.1 = e) = true then 1 else 0), x.2 + (if decide (x.2 = e) = true then 1 else 0))], .val (.int x.1), .val (.int x.2), ?_, by rw [List.length_append, hw]; rfl⟩
      rw [List.map_append]; rfl
    · obtain ⟨w, g3, g4, rfl, hw⟩ := hI
      rw [List.length_map] at hw
      have hz : (m.map shD).length ≤ 1000000 := by rw [List.length_map]; omega
      refine' dss_freeze (ds := w.map encP) 4 rfl ?_
      refine' dss_one ?_
      walk_at "app"
      refine ⟨m ++ [w], _, _, _, _, by rw [List.map_append]; rfl, by rw [List.length_append, hm]; rfl, fun t ht => ?_⟩
      rcases List.mem_append.mp ht with ht | ht
      · exact hm2 t ht
      · rw [List.mem_singleton.mp ht]; omega
  · obtain ⟨m, g1, g2, g3, g4, rfl, hm, hm2⟩ := hI
    rw [List.length_map] at hm
    refine' dss_freeze (ds := m.map shD) 2 rfl ?_
    refine' dss_one (ds_ret (r := .val (shsD m)) (de_of (lv := true) ?ha (.inl rfl)) ⟨m, rfl, ⟨fun z => ?_, by omega, fun s hs => by have := hm2 s hs; omega⟩⟩)
    case ha => walk_at "l"
    rw [z] at hm
    exact hl.ne (List.eq_nil_of_length_eq_zero hm.symm)
theorem ok_law_piece_spoilt (F : Fun M.K "_law_piece_spoilt" "_law_piece_spoilt" s_law_piece_spoilt f fd) : FnOk M.P M.w M.K M.mg M.base (L2.CX M.P M.w) (M.k + 1) f fd ["_law_piece", "_law_way_here", "_law_cell"] (spG M.K F_psp G_psp) := by
  refine fn_dataG F sc_law_piece_spoilt (fun ds ⟨p, w, c, h, _⟩ => by rw [h]; rfl) (fun ds ⟨p, w, c, h1, hp⟩ => ?_)
  subst h1
  have hnz : (0 : Int) < p.2 - p.1 + 1 := by omega
  walk_at "asgT"
  walk_at "g2"
  walk_at "let"
  have one : ∀ q : Pc, G_psp (.own [encP q]) := fun q => ⟨[q], rfl, by show 1 ≤ 2; decide⟩
  have two : ∀ q r : Pc, G_psp (.own [encP q, encP r]) := fun q r => ⟨[q, r], rfl, by show 2 ≤ 2; decide⟩
  refine' dss_cons (ds_if (x := decide (w = 3)) ?_ (fun _ => dss_one (ds_ret (r := .own [encP (p.1, p.2 - 1)]) ?_ (one _))) (fun _ => dss_nil ?_))
  · walk_at "t"
  · walk_at "e"
  refine' dss_cons (ds_if (x := decide (w = 4)) ?_ (fun _ => dss_one (ds_ret (r := .own [encP (p.1 + 1, p.2)]) ?_ (one _))) (fun _ => dss_nil ?_))
  · walk_at "t"
  · walk_at "e"
  refine' dss_cons (ds_if (x := decide (w = 5)) ?_ (fun _ => dss_one (ds_ret (r := .own [encP (p.1, p.1 + c % (p.2 - p.1 + 1)), encP (p.1 + c % (p.2 - p.1 + 1), p.2)]) ?_ (two _ _))) (fun _ => dss_nil ?_))
  · walk_at "t"
  · walk_at "e"
  refine' dss_cons (ds_if (x := decide (w = 6)) ?_ (fun _ => dss_one (ds_ret (r := .own [encP (p.1 - 1, p.2)]) ?_ (one _))) (fun _ => dss_nil ?_))
  · walk_at "t"
  · walk_at "e"
  refine' dss_cons (ds_if (x := decide (w = 7)) ?_ (fun _ => dss_one (ds_ret (r := .own [encP (p.1, p.2), encP (p.2 + 1 + c % 9, p.2 + 1 + c % 9)]) ?_ (two _ _))) (fun _ => dss_nil ?_))
  · walk_at "t"
  · walk_at "e"
  refine' dss_cons (ds_if (x := decide (w = 8)) ?_ (fun _ => dss_one (ds_ret (r := .own [encP (p.2, p.1)]) ?_ (one _))) (fun _ => dss_nil ?_))
  · walk_at "t"
  · walk_at "e"
  refine' dss_cons (ds_if (x := decide (w = 9)) ?_ (fun _ => dss_one (ds_ret (r := .own [encP (p.1, p.2 + 10 ^ (60 : Int).toNat)]) ?_ (one _))) (fun _ => dss_nil ?_))
  · walk_at "t"
  · walk_at "e"
  refine' dss_one (ds_ret (r := .own [encP p]) ?_ (one _))
  walk_at "e"
set_option maxHeartbeats 1000000 in
theorem ok_law_given (T : Nn M) (n_sorted : M.mg "sorted" = none) (c1 : Cal M "_law_joined" F_join) (F : Fun M.K "_law_given" "_law_given" s_law_given f fd) : FnOk M.P M.w M.K M.mg M.base (L2.CX M.P M.w) (M.k + 1) f fd ["_law_made", "_law_at", "_law_other", "_law_way_here", "_law_k"] (spK M.K F_given G_given) := by
  obtain ⟨_, _, _, _, _, _, _, _, n_list, _⟩ := T
  refine fn_ownK F sc_law_given (fun ds as ⟨l, a, o, w, k, _, h, _⟩ => by rw [h]; rfl) (fun ds as ⟨l, a, o, w, k, h1, h2, hl, ha, ho, s, hs, hk⟩ => ?_)
  subst h1 h2
  have hsp := List.getElem?_eq_getElem hk
  generalize s[k] = p at hsp
  have at1 := at_sh hs
  have at2 := at_pc hsp
  show DSs _ _ [.own (l.map shD), .val (.int (a : Nat)), .val (.int (o : Nat)), .val (.int w), .val (.int (k : Nat)), .any, .any] _
  walk_at "let"
  -- what stays true while the list is changed
  let J : Nat → List Slot → Prop := fun B S' => ∃ (l' : List (List Pc)) (g : Slot), S' = [.own (l'.map shD), .val (.int (a : Nat)), .val (.int (o : Nat)), .val (.int w), .val (.int (k : Nat)), .val (encP p), g] ∧ Sb B l' ∧ a < l'.length ∧ o < l'.length
  have sortf : ∀ q : List Pc, (sortP q).length = q.length := fun q => (sortL_perm q).length_eq
  refine' dss_mid (J 25) (ds_if (x := decide (w = 11)) ?t1 (fun _ => dss_one ?p1) (fun _ => dss_nil ?q1)) ?_
  case t1 => walk_at "t"
  case q1 => exact ⟨l, _, rfl, hl.up (by decide), ha, ho⟩
  case p1 =>
    have hso := List.getElem?_eq_getElem ho
    have hom := hl.sm _ (List.getElem_mem ho)
    generalize l[o] = so at hso hom
    have at3 := at_sh hso
    have hz : (so.map encP).length + 1 ≤ 1000000 := by rw [List.length_map]; omega
    have hix : ixN (l.map shD).length (o : Nat) = some o := by rw [List.length_map]; exact ix_nat ho
    refine' ds_setI (d := shD (sortP (so ++ [p]))) (dl_fz (r := .own ((sortP (so ++ [p])).map encP)) (de_sortT (k := kP) (enc := encP) (xs := so ++ [p]) (fun _ => rfl) kP_inj (fun _ => List.cons_ne_nil _ _) (glB_gl rfl).1 n_sorted (dl_of (r := .own (so.map encP ++ [encP p])) (de_cat (lv := false) (ds := so.map encP) (es := [encP p]) ?ha1 ?ha2 hz (.inr (flat_app (flat_pcs so) (flat_pcs [p])))) ?ha3) ?ha4) rfl) ?hiK hix rfl rfl rfl ?h2 ?h3 ?h4 ?h5
    case ha1 => walk_at "l"
    case ha2 => walk_at "l"
    case ha3 => show some (D.lst _) = some (D.lst _); rw [List.map_append]; rfl
    case ha4 => intro _; rfl
    case hiK => walk_at "e"
    case h3 => intro _; rfl
    case h4 => intro _; rfl
    case h5 => intro _ _; rfl
    case h2 => exact ⟨l.set o (sortP (so ++ [p])), _, by rw [List.map_set]; rfl, (hl.up (by decide)).set (by rw [sortf, List.length_append]; show so.length + 1 ≤ 25; omega), by rw [List.length_set]; exact ha, by rw [List.length_set]; exact ho⟩
  rintro S' ⟨l1, g, rfl, hl1, ha1, ho1⟩
  refine' dss_mid (J 26) (ds_if (x := decide (w = 12)) ?t1 (fun _ => dss_cons ?p1) (fun _ => dss_nil ?q1)) ?_
  case t1 => walk_at "t"
  case q1 => exact ⟨l1, _, rfl, hl1.up (by decide), ha1, ho1⟩
  case p1 =>
    have hsa := List.getElem?_eq_getElem ha1
    have ham := hl1.sm _ (List.getElem_mem ha1)
    generalize l1[a] = sa at hsa ham
    have at3 := at_sh hsa
    have c1' := cutG_len sa none (some ((k : Nat) : Int))
    have c2' := cutG_len sa (some (((k : Nat) : Int) + 1)) none
    have hz : ((cutG (sa.map encP) none (some ((k : Nat) : Int)))).length + (cutG (sa.map encP) (some (((k : Nat) : Int) + 1)) none).length ≤ 1000000 := by rw [cutG_map, cutG_map, List.length_map, List.length_map]; omega
    have hix : ixN (l1.map shD).length (a : Nat) = some a := by rw [List.length_map]; exact ix_nat ha1
    have hcut : (cutG sa none (some ((k : Nat) : Int)) ++ cutG sa (some (((k : Nat) : Int) + 1)) none).length ≤ 25 := by
      rw [List.length_append]
      unfold cutG
      show ((sa.drop 0).take ((if ((k : Nat) : Int) < 0 then (((k : Nat) : Int) + (sa.length : Nat)).toNat else min ((k : Nat) : Int).toNat sa.length) - 0)).length + ((sa.drop (if (((k : Nat) : Int) + 1) < 0 then ((((k : Nat) : Int) + 1) + (sa.length : Nat)).toNat else min (((k : Nat) : Int) + 1).toNat sa.length)).take (sa.length - (if (((k : Nat) : Int) + 1) < 0 then ((((k : Nat) : Int) + 1) + (sa.length : Nat)).toNat else min (((k : Nat) : Int) + 1).toNat sa.length))).length ≤ 25
      rw [if_neg (by omega), if_neg (by omega)]
      simp only [List.length_take, List.length_drop]
      omega
    refine' ds_setI (d := shD (cutG sa none (some ((k : Nat) : Int)) ++ cutG sa (some (((k : Nat) : Int) + 1)) none)) (dl_fz (r := .own (cutG (sa.map encP) none (some ((k : Nat) : Int)) ++ cutG (sa.map encP) (some (((k : Nat) : Int) + 1)) none)) (de_cat (lv := false) ?hb1 ?hb2 hz (.inr (flat_app (flat_cut (flat_pcs sa)) (flat_cut (flat_pcs sa))))) ?hb3) ?hiK hix rfl rfl rfl ?h2 ?h3 ?h4 ?h5
    case hb1 => exact dl_of (r := .own (cutG (sa.map encP) none (some ((k : Nat) : Int)))) (by have fl := flat_pcs sa; walk_at "e") rfl
    case hb2 => exact dl_of (r := .own (cutG (sa.map encP) (some (((k : Nat) : Int) + 1)) none)) (by have fl := flat_pcs sa; walk_at "e") rfl
    case hb3 => show some (D.lst _) = some (D.lst _); rw [cutG_map, cutG_map, List.map_append]
    case hiK => walk_at "e"
    case h3 => intro _; rfl
    case h4 => intro _; rfl
    case h5 => intro _ _; rfl
    case h2 =>
    show DSs _ _ (([.own (l1.map shD), .val (.int (a : Nat)), .val (.int (o : Nat)), .val (.int w), .val (.int (k : Nat)), .val (encP p), g] : List Slot).set 0 (.own ((l1.map shD).set a (shD (cutG sa none (some ((k : Nat) : Int)) ++ cutG sa (some (((k : Nat) : Int) + 1)) none))))) _
    rw [← List.map_set]
    have hl2 : Sb 25 (l1.set a (cutG sa none (some ((k : Nat) : Int)) ++ cutG sa (some (((k : Nat) : Int) + 1)) none)) := hl1.set hcut
    have ha2 : a < (l1.set a (cutG sa none (some ((k : Nat) : Int)) ++ cutG sa (some (((k : Nat) : Int) + 1)) none)).length := by rw [List.length_set]; exact ha1
    have ho2 : o < (l1.set a (cutG sa none (some ((k : Nat) : Int)) ++ cutG sa (some (((k : Nat) : Int) + 1)) none)).length := by rw [List.length_set]; exact ho1
    generalize l1.set a (cutG sa none (some ((k : Nat) : Int)) ++ cutG sa (some (((k : Nat) : Int) + 1)) none) = l2 at *
    have hso := List.getElem?_eq_getElem ho2
    have hom := hl2.sm _ (List.getElem_mem ho2)
    generalize l2[o] = so at hso hom
    have at4 := at_sh hso
    have hz2 : (so.map encP).length + 1 ≤ 1000000 := by rw [List.length_map]; omega
    have hix2 : ixN (l2.map shD).length (o : Nat) = some o := by rw [List.length_map]; exact ix_nat ho2
    have fj : F_join [shD (so ++ [p])] (.ok (.own ((joinM (so ++ [p])).map encP))) := ⟨_, rfl, by rw [List.length_append]; show so.length + 1 ≤ 10000; omega, rfl⟩
    refine' dss_one (ds_setI (d := shD (joinM (so ++ [p]))) (dl_fz (r := .own ((joinM (so ++ [p])).map encP)) (de_fnR (lv := true) c1 rfl (da_cons (dl_of (r := .own (so.map encP ++ [encP p])) (de_cat (lv := false) (ds := so.map encP) (es := [encP p]) ?hc1 ?hc2 hz2 (.inr (flat_app (flat_pcs so) (flat_pcs [p])))) ?hc3) da_nil ?hc4) fj (.inl rfl) ?hc5 ?hc6) rfl) ?hiK hix2 rfl rfl rfl ?h2 ?h3 ?h4 ?h5)
    case hc1 => walk_at "l"
    case hc2 => walk_at "l"
    case hc3 => show some (D.lst _) = some (D.lst _); rw [List.map_append]; rfl
    case hc4 => intro _; rfl
    case hc5 => intro _; rfl
    case hc6 => intro _; rfl
    case hiK => walk_at "e"
    case h3 => intro _; rfl
    case h4 => intro _; rfl
    case h5 => intro _ _; rfl
    case h2 => exact ⟨l2.set o (joinM (so ++ [p])), _, by rw [List.map_set]; rfl, (hl2.up (by decide)).set (by have := joinM_len (so ++ [p]); rw [List.length_append] at this; have e1 : [p].length = 1 := rfl; omega), by rw [List.length_set]; exact ha2, by rw [List.length_set]; exact ho2⟩
  rintro S' ⟨l3, g, rfl, hl3, ha3, ho3⟩
  refine' dss_mid (J 26) (ds_if (x := decide (w = 16)) ?t1 (fun _ => dss_one ?p1) (fun _ => dss_nil ?q1)) ?_
  case t1 => walk_at "t"
  case q1 => exact ⟨l3, _, rfl, hl3, ha3, ho3⟩
  case p1 =>
    have hsa := List.getElem?_eq_getElem ha3
    have ham := hl3.sm _ (List.getElem_mem ha3)
    generalize l3[a] = sa at hsa ham
    have at3 := at_sh hsa
    have fl := flat_pcs sa
    have hix : ixN (l3.map shD).length (o : Nat) = some o := by rw [List.length_map]; exact ix_nat ho3
    refine' ds_setI (d := shD sa) (dl_fz (r := .own (sa.map encP)) ?ha1 rfl) ?hiK hix rfl rfl rfl ?h2 ?h3 ?h4 ?h5
    case ha1 => walk_at "e"
    case hiK => walk_at "e"
    case h3 => intro _; rfl
    case h4 => intro _; rfl
    case h5 => intro _ _; rfl
    case h2 => exact ⟨l3.set o sa, _, by rw [List.map_set]; rfl, hl3.set ham, by rw [List.length_set]; exact ha3, by rw [List.length_set]; exact ho3⟩
  rintro S' ⟨l4, g, rfl, hl4, ha4, ho4⟩
  have hso := List.getElem?_eq_getElem ho4
  have hom := hl4.sm _ (List.getElem_mem ho4)
  generalize l4[o] = so at hso hom
  have at3 := at_sh hso
  refine' dss_mid (J 60) (ds_if (x := decide (w = 17) && !(so.map encP).isEmpty) (dt_w (dw_and ?t1 (fun _ => dw_and1 (dt_neNil (ds := so.map encP) 1 ?t2 ?t3 (pl_sh so) (by decide))))) (fun _ => dss_cons ?p1) (fun _ => dss_nil ?q1)) ?_
  case t1 => walk_at "t"
  case t2 => walk_at "l"
  case t3 => walk_at "l"
  case q1 => exact ⟨l4, _, rfl, hl4.up (by decide), ha4, ho4⟩
  case p1 =>
    have c1' := cutG_len so none (some ((k : Nat) : Int))
    have c2' := cutG_len so (some (((k : Nat) : Int) + 1)) none
    have fl := flat_pcs so
    have hz : ((cutG (so.map encP) none (some ((k : Nat) : Int)))).length + (cutG (so.map encP) (some (((k : Nat) : Int) + 1)) none).length ≤ 1000000 := by rw [cutG_map, cutG_map, List.length_map, List.length_map]; omega
    refine' ds_let (r := .own (cutG (so.map encP) none (some ((k : Nat) : Int)) ++ cutG (so.map encP) (some (((k : Nat) : Int) + 1)) none)) (de_cat (lv := false) ?hb1 ?hb2 hz (.inr (flat_app (flat_cut (flat_pcs so)) (flat_cut (flat_pcs so))))) rfl rfl (of_decide_eq_true rfl) ?hn1 ?hs1
    case hb1 => exact dl_of (r := .own (cutG (so.map encP) none (some ((k : Nat) : Int)))) (by walk_at "e") rfl
    case hb2 => exact dl_of (r := .own (cutG (so.map encP) (some (((k : Nat) : Int) + 1)) none)) (by walk_at "e") rfl
    case hs1 => intro _; rfl
    case hn1 =>
    rw [cutG_map, cutG_map, ← List.map_append]
    have hll : (cutG so none (some ((k : Nat) : Int)) ++ cutG so (some (((k : Nat) : Int) + 1)) none).length ≤ 52 := by rw [List.length_append]; omega
    generalize cutG so none (some ((k : Nat) : Int)) ++ cutG so (some (((k : Nat) : Int) + 1)) none = lf at *
    have hz2 : (lf.map encP).length + 1 ≤ 1000000 := by rw [List.length_map]; omega
    have hix2 : ixN (l4.map shD).length (o : Nat) = some o := by rw [List.length_map]; exact ix_nat ho4
    refine' dss_one (ds_setI (d := shD (sortP (lf ++ [p]))) (dl_fz (r := .own ((sortP (lf ++ [p])).map encP)) (de_sortT (k := kP) (enc := encP) (xs := lf ++ [p]) (fun _ => rfl) kP_inj (fun _ => List.cons_ne_nil _ _) (glB_gl rfl).1 n_sorted (dl_of (r := .own (lf.map encP ++ [encP p])) (de_cat (lv := false) (ds := lf.map encP) (es := [encP p]) ?ha1 ?ha2 hz2 (.inr (flat_app (flat_pcs lf) (flat_pcs [p])))) ?ha3) ?ha4) rfl) ?hiK hix2 rfl rfl rfl ?h2 ?h3 ?h4 ?h5)
    case ha1 => walk_at "l"
    case ha2 => walk_at "l"
    case ha3 => show some (D.lst _) = some (D.lst _); rw [List.map_append]; rfl
    case ha4 => intro _; rfl
    case hiK => walk_at "e"
    case h3 => intro _; rfl
    case h4 => intro _; rfl
    case h5 => intro _ _; rfl
    case h2 => exact ⟨l4.set o (sortP (lf ++ [p])), _, by rw [List.map_set]; rfl, (hl4.up (by decide)).set (by rw [sortf, List.length_append]; show lf.length + 1 ≤ 60; omega), by rw [List.length_set]; exact ha4, by rw [List.length_set]; exact ho4⟩
  rintro S' ⟨l5, g, rfl, hl5, ha5, ho5⟩
  exact dss_one (ds_retO1 rfl rfl rfl ⟨_, rfl, l5, rfl, hl5⟩)
end
/-! ## begins exchanged, walked -/
def F_bex (ds : List D) : Prop := ∃ (l : List (List Pc)) (a o : Nat) (c : Int), ds = [shsD l, .int (a : Nat), .int (o : Nat), .int c] ∧ Sb 24 l ∧ a ≠ o ∧ (∃ s, l[a]? = some s ∧ s ≠ [] ∧ ∀ p ∈ s, p.1 < p.2) ∧ (∃ s, l[o]? = some s ∧ s ≠ [] ∧ ∀ p ∈ s, p.1 < p.2)
theorem first_ix {α : Type} [DecidableEq α] : ∀ {l : List α} {x : α}, x ∈ l → ∃ m : Nat, l[m]? = some x ∧ ∀ (q : Nat) (y : α), q < m → l[q]? = some y → y ≠ x
  | y :: l, x, h => by
    by_cases e : y = x
    · exact ⟨0, by rw [e]; rfl, fun q _ hq => absurd hq (Nat.not_lt_zero _)⟩
    · rcases List.mem_cons.mp h with h | h
      · exact absurd h.symm e
      · obtain ⟨m, h1, h2⟩ := first_ix h
        refine ⟨m + 1, by simpa using h1, fun q z hq hz => ?_⟩
        cases q with
        | zero => cases hz; exact e
        | succ q => exact h2 q z (by omega) (by simpa using hz)
theorem encT_kP (s : List Pc) : (s.map kP).map encT = s.map encP := by rw [List.map_map]; rfl
theorem mod_ix {s : List Pc} (hs : s ≠ []) (c : Int) : ∃ (p : Pc), p ∈ s ∧ atI (s.map encP) (c % (((s.map encP).length : Nat) : Int)) = some (encP p) ∧ 0 < (((s.map encP).length : Nat) : Int) := by
  have hl : 0 < s.length := List.length_pos_iff.mpr hs
  have m1 := Int.emod_nonneg c (show ((s.length : Nat) : Int) ≠ 0 by omega)
  have m2 := Int.emod_lt_of_pos c (show (0 : Int) < ((s.length : Nat) : Int) by omega)
  rw [List.length_map]
  refine ⟨s[(c % ((s.length : Nat) : Int)).toNat]'(by omega), List.getElem_mem _, atI_nat' m1 ?_, by omega⟩
  rw [List.getElem?_map, List.getElem?_eq_getElem (by omega)]; rfl
theorem wlM_len (s : List Pc) : (wlM s).length ≤ s.length := List.length_filter_le _ _
section
variable {M : Mo} {f : Addr} {fd : FuncData}
set_option maxHeartbeats 1000000 in
theorem ok_law_begins_exchanged (T : Nn M) (c1 : Cal M "_law_joined" F_join) (c2 : Cal M "_law_with_length" F_wl) (F : Fun M.K "_law_begins_exchanged" "_law_begins_exchanged" s_law_begins_exchanged f fd) : FnOk M.P M.w M.K M.mg M.base (L2.CX M.P M.w) (M.k + 1) f fd ["_law_shares", "_law_at", "_law_other", "_law_cell"] (spG M.K F_bex (G_val 60)) := by
  obtain ⟨_, _, n_min, n_len, _, _, _, _, n_list, _⟩ := T
  refine fn_dataG F sc_law_begins_exchanged (fun ds ⟨l, a, o, c, h, _⟩ => by rw [h]; rfl) (fun ds ⟨l, a, o, c, h1, hl, hao, ⟨sa, hsa, nea, pa⟩, ⟨so, hso, neo, po⟩⟩ => ?_)
  subst h1
  have hfew := hl.few
  obtain ⟨p1, m1, at1, z1⟩ := mod_ix nea c
  obtain ⟨p2, m2, at2, z2⟩ := mod_ix neo (c / 3)
  have ata := at_sh hsa
  have ato := at_sh hso
  have hal := (List.getElem?_eq_some_iff.mp hsa).1
  have hol := (List.getElem?_eq_some_iff.mp hso).1
  have lt1 := pa p1 m1
  have lt2 := po p2 m2
  have hsal := hl.sm sa (List.mem_of_getElem? hsa)
  have hsol := hl.sm so (List.mem_of_getElem? hso)
  refine' dss_cons (ds_let (r := .val (encP p1)) (de_of (lv := true) ?ha1 (.inl rfl)) rfl rfl (of_decide_eq_true rfl) ?hn1 ?hs1)
  case ha1 => walk_at "l"
  case hs1 => intro _; rfl
  refine' dss_cons (ds_let (r := .val (encP p2)) (de_of (lv := true) ?ha2 (.inl rfl)) rfl rfl (of_decide_eq_true rfl) ?hn2 ?hs2)
  case ha2 => walk_at "l"
  case hs2 => intro _; rfl
  have hmp : 0 < min (p1.2 - p1.1) (p2.2 - p2.1) := by omega
  have hmn : min (p1.2 - p1.1) (p2.2 - p2.1) ≠ 0 := by omega
  walk_at "let"
  generalize 1 + c / 6 % min (p1.2 - p1.1) (p2.2 - p2.1) = mny
  refine' dss_cons (ds_setLc2 (lv := true) 7 [("_law_share", 8)] l shD (fun s => s.map encP) rfl rfl (of_decide_eq_true rfl) rfl rfl rfl rfl (dit_list ?hc1) rfl (by omega) (.inl rfl) (fun s _ => flat_pcs _) ?hc2 ?hc3 ?hc4)
  case hc4 => intro _ _; rfl
  case hc1 => walk_at "l"
  case hc2 =>
    intro s hs
    refine ⟨_, dgc_nm rfl rfl rfl, ?_⟩
    walk_at "e"
  case hc3 =>
  obtain ⟨v, v1, v2⟩ := nmB_vis (C := C_law_begins_exchanged M) (x := "_law_made") rfl
  obtain ⟨i1, e1, e2⟩ := first_ix (List.mem_map.mpr ⟨p1, m1, rfl⟩ : kP p1 ∈ sa.map kP)
  obtain ⟨i2, e3, e4⟩ := first_ix (List.mem_map.mpr ⟨p2, m2, rfl⟩ : kP p2 ∈ so.map kP)
  have hg1 : (l.map fun s => s.map encP)[a]? = some ((sa.map kP).map encT) := by rw [List.getElem?_map, hsa, encT_kP]; rfl
  refine' dss_cons (ds_remT (ns := kP p1) (ms := sa.map kP) (m := i1) (kx := (a : Nat)) (n := a) 7 rfl ?hd1 ?hd2 (by rw [List.length_map]; exact ix_nat hal) hg1 (idx_get rfl) v v1 v2 (fun _ _ => rfl) e1 e2 ?hd3)
  case hd1 => walk_at "e"
  case hd2 =>
    show DL _ _ _ _ (encP p1)
    walk_at "l"
  case hd3 =>
  rw [← map_erase, encT_kP]
  have hg2 : ((l.map fun s => s.map encP).set a ((sa.eraseIdx i1).map encP))[o]? = some ((so.map kP).map encT) := by
    rw [List.getElem?_set_ne hao, List.getElem?_map, hso, encT_kP]; rfl
  refine' dss_cons (ds_remT (ns := kP p2) (ms := so.map kP) (m := i2) (kx := (o : Nat)) (n := o) 7 rfl ?hd4 ?hd5 (by rw [List.length_set, List.length_map]; exact ix_nat hol) hg2 (idx_get rfl) v v1 v2 (fun _ _ => rfl) e3 e4 ?hd6)
  case hd4 => walk_at "e"
  case hd5 =>
    show DL _ _ _ _ (encP p2)
    walk_at "l"
  case hd6 =>
  rw [← map_erase, encT_kP]
  refine' dss_freeze2 (dss := ((l.map fun s => s.map encP).set a ((sa.eraseIdx i1).map encP)).set o ((so.eraseIdx i2).map encP)) 7 rfl ?_
  have eX : (((l.map fun s => s.map encP).set a ((sa.eraseIdx i1).map encP)).set o ((so.eraseIdx i2).map encP)).map D.lst = ((l.set a (sa.eraseIdx i1)).set o (so.eraseIdx i2)).map shD := by
    rw [List.map_set, List.map_set, List.map_set, List.map_set, List.map_map]; rfl
  rw [eX]
  have hl2 : Sb 24 ((l.set a (sa.eraseIdx i1)).set o (so.eraseIdx i2)) := (hl.set (by have := List.length_eraseIdx_le sa i1; omega)).set (by have := List.length_eraseIdx_le so i2; omega)
  have la2 : a < ((l.set a (sa.eraseIdx i1)).set o (so.eraseIdx i2)).length := by rw [List.length_set, List.length_set]; exact hal
  have lo2 : o < ((l.set a (sa.eraseIdx i1)).set o (so.eraseIdx i2)).length := by rw [List.length_set, List.length_set]; exact hol
  show DSs _ _ [.val (shsD l), .val (.int (a : Nat)), .val (.int (o : Nat)), .val (.int c), .val (encP p1), .val (encP p2), .val (.int mny), .own (((l.set a (sa.eraseIdx i1)).set o (so.eraseIdx i2)).map shD), .any] _
  generalize (l.set a (sa.eraseIdx i1)).set o (so.eraseIdx i2) = l2 at *
  -- two pieces more for each of both
  have hs2 := List.getElem?_eq_getElem la2
  have hm2 := hl2.sm _ (List.getElem_mem la2)
  generalize l2[a] = s2 at hs2 hm2
  have at3 := at_sh hs2
  have hz2 : (s2.map encP).length + 2 ≤ 1000000 := by rw [List.length_map]; omega
  refine' dss_cons (ds_setI (d := shD (s2 ++ [(p2.1, p2.1 + mny), (p1.1 + mny, p1.2)])) (dl_fz (r := .own (s2.map encP ++ [encP (p2.1, p2.1 + mny), encP (p1.1 + mny, p1.2)])) (de_cat (lv := false) (ds := s2.map encP) (es := [encP (p2.1, p2.1 + mny), encP (p1.1 + mny, p1.2)]) ?hq1 ?hq2 hz2 (.inr (flat_app (flat_pcs s2) (flat_pcs [(p2.1, p2.1 + mny), (p1.1 + mny, p1.2)])))) ?hq3) ?hiK (by rw [List.length_map]; exact ix_nat la2) rfl rfl rfl ?h2 ?h3 ?h4 ?h5)
  case hq1 => walk_at "l"
  case hq2 => walk_at "l"
  case hq3 => show some (D.lst _) = some (D.lst _); rw [List.map_append]; rfl
  case hiK => walk_at "e"
  case h3 => intro _; rfl
  case h4 => intro _; rfl
  case h5 => intro _ _; rfl
  case h2 =>
  show DSs _ _ (([.val (shsD l), .val (.int (a : Nat)), .val (.int (o : Nat)), .val (.int c), .val (encP p1), .val (encP p2), .val (.int mny), .own (l2.map shD), .any] : List Slot).set 7 (.own ((l2.map shD).set a (shD (s2 ++ [(p2.1, p2.1 + mny), (p1.1 + mny, p1.2)]))))) _
  rw [← List.map_set]
  have hl3 : Sb 26 (l2.set a (s2 ++ [(p2.1, p2.1 + mny), (p1.1 + mny, p1.2)])) := (hl2.up (by decide)).set (by rw [List.length_append]; show s2.length + 2 ≤ 26; omega)
  have la3 : a < (l2.set a (s2 ++ [(p2.1, p2.1 + mny), (p1.1 + mny, p1.2)])).length := by rw [List.length_set]; exact la2
  have lo3 : o < (l2.set a (s2 ++ [(p2.1, p2.1 + mny), (p1.1 + mny, p1.2)])).length := by rw [List.length_set]; exact lo2
  generalize l2.set a (s2 ++ [(p2.1, p2.1 + mny), (p1.1 + mny, p1.2)]) = l3 at *
  have hs3 := List.getElem?_eq_getElem lo3
  have hm3 := hl3.sm _ (List.getElem_mem lo3)
  generalize l3[o] = s3 at hs3 hm3
  have at4 := at_sh hs3
  have hz3 : (s3.map encP).length + 2 ≤ 1000000 := by rw [List.length_map]; omega
  refine' dss_cons (ds_setI (d := shD (s3 ++ [(p1.1, p1.1 + mny), (p2.1 + mny, p2.2)])) (dl_fz (r := .own (s3.map encP ++ [encP (p1.1, p1.1 + mny), encP (p2.1 + mny, p2.2)])) (de_cat (lv := false) (ds := s3.map encP) (es := [encP (p1.1, p1.1 + mny), encP (p2.1 + mny, p2.2)]) ?hq1 ?hq2 hz3 (.inr (flat_app (flat_pcs s3) (flat_pcs [(p1.1, p1.1 + mny), (p2.1 + mny, p2.2)])))) ?hq3) ?hiK (by rw [List.length_map]; exact ix_nat lo3) rfl rfl rfl ?h2 ?h3 ?h4 ?h5)
  case hq1 => walk_at "l"
  case hq2 => walk_at "l"
  case hq3 => show some (D.lst _) = some (D.lst _); rw [List.map_append]; rfl
  case hiK => walk_at "e"
  case h3 => intro _; rfl
  case h4 => intro _; rfl
  case h5 => intro _ _; rfl
  case h2 =>
  show DSs _ _ (([.val (shsD l), .val (.int (a : Nat)), .val (.int (o : Nat)), .val (.int c), .val (encP p1), .val (encP p2), .val (.int mny), .own (l3.map shD), .any] : List Slot).set 7 (.own ((l3.map shD).set o (shD (s3 ++ [(p1.1, p1.1 + mny), (p2.1 + mny, p2.2)]))))) _
  rw [← List.map_set]
  have hl4 : Sb 28 (l3.set o (s3 ++ [(p1.1, p1.1 + mny), (p2.1 + mny, p2.2)])) := (hl3.up (by decide)).set (by rw [List.length_append]; show s3.length + 2 ≤ 28; omega)
  have la4 : a < (l3.set o (s3 ++ [(p1.1, p1.1 + mny), (p2.1 + mny, p2.2)])).length := by rw [List.length_set]; exact la3
  have lo4 : o < (l3.set o (s3 ++ [(p1.1, p1.1 + mny), (p2.1 + mny, p2.2)])).length := by rw [List.length_set]; exact lo3
  generalize l3.set o (s3 ++ [(p1.1, p1.1 + mny), (p2.1 + mny, p2.2)]) = l4 at *
  have hs4 := List.getElem?_eq_getElem la4
  have hm4 := hl4.sm _ (List.getElem_mem la4)
  generalize l4[a] = s4 at hs4 hm4
  have at5 := at_sh hs4
  have hw4 := wlM_len s4
  have fw4 : F_wl [shD s4] (.ok (.own ((wlM s4).map encP))) := ⟨s4, rfl, by omega, rfl⟩
  have fj4 : F_join [shD (wlM s4)] (.ok (.own ((joinM (wlM s4)).map encP))) := ⟨_, rfl, by omega, rfl⟩
  have hj4 := joinM_len (wlM s4)
  refine' dss_cons (ds_setI (d := shD (joinM (wlM s4))) (dl_fz (r := .own ((joinM (wlM s4)).map encP)) (de_fnR (lv := true) c1 rfl (da_cons (dl_of (r := .own ((wlM s4).map encP)) (de_fnR (lv := false) c2 rfl ?hr1 fw4 (.inr (flat_pcs _)) ?hr2 ?hr3) rfl) da_nil ?hr4) fj4 (.inl rfl) ?hr5 ?hr6) rfl) ?hiK (by rw [List.length_map]; exact ix_nat la4) rfl rfl rfl ?h2 ?h3 ?h4 ?h5)
  case hr1 => walk_at "a"
  case hr2 => intro _; rfl
  case hr3 => intro _; rfl
  case hr4 => intro _; rfl
  case hr5 => intro _; rfl
  case hr6 => intro _; rfl
  case hiK => walk_at "e"
  case h3 => intro _; rfl
  case h4 => intro _; rfl
  case h5 => intro _ _; rfl
  case h2 =>
  show DSs _ _ (([.val (shsD l), .val (.int (a : Nat)), .val (.int (o : Nat)), .val (.int c), .val (encP p1), .val (encP p2), .val (.int mny), .own (l4.map shD), .any] : List Slot).set 7 (.own ((l4.map shD).set a (shD (joinM (wlM s4)))))) _
  rw [← List.map_set]
  have hl5 : Sb 28 (l4.set a (joinM (wlM s4))) := hl4.set (by omega)
  have lo5 : o < (l4.set a (joinM (wlM s4))).length := by rw [List.length_set]; exact lo4
  generalize l4.set a (joinM (wlM s4)) = l5 at *
  have hs5 := List.getElem?_eq_getElem lo5
  have hm5 := hl5.sm _ (List.getElem_mem lo5)
  generalize l5[o] = s5 at hs5 hm5
  have at6 := at_sh hs5
  have hw5 := wlM_len s5
  have fw5 : F_wl [shD s5] (.ok (.own ((wlM s5).map encP))) := ⟨s5, rfl, by omega, rfl⟩
  have fj5 : F_join [shD (wlM s5)] (.ok (.own ((joinM (wlM s5)).map encP))) := ⟨_, rfl, by omega, rfl⟩
  have hj5 := joinM_len (wlM s5)
  refine' dss_cons (ds_setI (d := shD (joinM (wlM s5))) (dl_fz (r := .own ((joinM (wlM s5)).map encP)) (de_fnR (lv := true) c1 rfl (da_cons (dl_of (r := .own ((wlM s5).map encP)) (de_fnR (lv := false) c2 rfl ?hr1 fw5 (.inr (flat_pcs _)) ?hr2 ?hr3) rfl) da_nil ?hr4) fj5 (.inl rfl) ?hr5 ?hr6) rfl) ?hiK (by rw [List.length_map]; exact ix_nat lo5) rfl rfl rfl ?h2 ?h3 ?h4 ?h5)
  case hr1 => walk_at "a"
  case hr2 => intro _; rfl
  case hr3 => intro _; rfl
  case hr4 => intro _; rfl
  case hr5 => intro _; rfl
  case hr6 => intro _; rfl
  case hiK => walk_at "e"
  case h3 => intro _; rfl
  case h4 => intro _; rfl
  case h5 => intro _ _; rfl
  case h2 =>
  show DSs _ _ (([.val (shsD l), .val (.int (a : Nat)), .val (.int (o : Nat)), .val (.int c), .val (encP p1), .val (encP p2), .val (.int mny), .own (l5.map shD), .any] : List Slot).set 7 (.own ((l5.map shD).set o (shD (joinM (wlM s5)))))) _
  rw [← List.map_set]
  have hl6 : Sb 60 (l5.set o (joinM (wlM s5))) := (hl5.up (by decide)).set (by omega)
  generalize l5.set o (joinM (wlM s5)) = l6 at *
  refine' dss_freeze (ds := l6.map shD) 7 rfl ?_
  refine' dss_one (ds_ret (r := .val (shsD l6)) (de_of (lv := true) ?hy (.inl rfl)) ⟨l6, rfl, hl6⟩)
  case hy => walk_at "l"
end
/-! ## spoilt, walked -/
theorem inV_int (i : Int) : ∀ l : List Int, inV (V.int i) (l.map V.int) = decide (i ∈ l)
  | [] => rfl
  | x :: l => by
    have e : eqV (.int x) (.int i) = (x == i) := rfl
    have ih := inV_int i l
    unfold inV at ih ⊢
    rw [List.map_cons, List.any_cons, ih, e]
    by_cases h : x = i
    · subst h; simp
    · have h2 : ¬ i = x := fun z => h z.symm
      simp [h, h2]
theorem shsd_set (l : List (List Pc)) (a : Nat) (s : List Pc) : shsD (l.set a s) = D.lst ((l.map shD).set a (shD s)) := congrArg D.lst List.map_set
theorem dt_inLI {C : Ctx} {S : List Slot} {a b : Expr} {i : Int} {l : List Int} {pos : Pos} (ha : DI C a S i) (hb : DL C false b S (.lst (l.map D.int))) (hm : behindInMarks .In b = false) : DT C (.Compare a [.In] [b] pos) S (decide (i ∈ l)) := by
  rw [← inV_int i l]
  exact dt_cmp (lv := false) (r2 := rIn C.M.K false) (fun _ _ => op_in_seq) hm (dl_val ha) hb (fun A H v w Q _ rv rw' hq => by
    cases rv
    cases rw' with
    | @lst p vs _ _ hl rs =>
      rw [rs.to_ints] at hl
      exact ⟨p, _, rfl, .inl (.inl (.inl hl)), rfl, by simp [flatV], hq _ H (Ex.refl H) (.bl _)⟩)
def F_sp (ds : List D) : Prop := ∃ (l : List (List Pc)) (z : Int) (ns : List Int), ds = [shsD l, .int z, .scr ns] ∧ Sb 24 l ∧ l.length ≤ 5 ∧ ns.length ≤ 63 ∧ ∀ s ∈ l, ∀ p ∈ s, p.1 < p.2
theorem flat_shd {s : List Pc} : ∀ d ∈ s.map encP, Flat d := flat_pcs s
theorem cut_len (α : Type) (s : List α) (k : Nat) : (cutG s none (some ((k : Nat) : Int))).length = min k s.length ∧ (cutG s (some (((k : Nat) : Int) + 1)) none).length = s.length - (k + 1) := by
  refine ⟨?_, ?_⟩
  · show ((s.drop 0).take ((if ((k : Nat) : Int) < 0 then (((k : Nat) : Int) + (s.length : Nat)).toNat else min ((k : Nat) : Int).toNat s.length) - 0)).length = _
    rw [if_neg (by omega)]
    simp only [List.length_take, List.length_drop]
    omega
  · show ((s.drop (if (((k : Nat) : Int) + 1) < 0 then ((((k : Nat) : Int) + 1) + (s.length : Nat)).toNat else min (((k : Nat) : Int) + 1).toNat s.length)).take (s.length - (if (((k : Nat) : Int) + 1) < 0 then ((((k : Nat) : Int) + 1) + (s.length : Nat)).toNat else min (((k : Nat) : Int) + 1).toNat s.length))).length = _
    rw [if_neg (by omega)]
    simp only [List.length_take, List.length_drop]
    omega
section
variable {M : Mo} {f : Addr} {fd : FuncData}
set_option maxHeartbeats 2000000 in
theorem ok_law_spoilt (T : Nn M) (n_sorted : M.mg "sorted" = none) (c1 : Cal M "_law_cell_at" F_cell) (c2 : CalG M "_law_way" F_way G_way) (c3 : CalK M "_law_given" F_given G_given) (c4 : CalG M "_law_moved_edge" F_edge (G_val 60)) (c5 : CalG M "_law_begins_exchanged" F_bex (G_val 60)) (c6 : CalG M "_law_piece_spoilt" F_psp G_psp) (F : Fun M.K "_law_spoilt" "_law_spoilt" s_law_spoilt f fd) : FnOk M.P M.w M.K M.mg M.base (L2.CX M.P M.w) (M.k + 1) f fd ["_law_shares", "_law_size", "_law_script"] (spG M.K F_sp (G_val 60)) := by
  obtain ⟨_, _, _, n_len, _, _, _, _, n_list, _⟩ := T
  refine fn_dataG F sc_law_spoilt (fun ds ⟨l, z, ns, h, _⟩ => by rw [h]; rfl) (fun ds ⟨l, z, ns, h1, hl, hl5, hn, hp⟩ => ?_)
  subst h1
  have q1 : F_cell [.scr ns, .int 1] (ok (.int (cellM ns 1))) := ⟨ns, 1, rfl, by decide, by omega, rfl⟩
  have q2 : F_cell [.scr ns, .int 2] (ok (.int (cellM ns 2))) := ⟨ns, 2, rfl, by decide, by omega, rfl⟩
  have q3 : F_cell [.scr ns, .int 3] (ok (.int (cellM ns 3))) := ⟨ns, 3, rfl, by decide, by omega, rfl⟩
  have q4 : F_cell [.scr ns, .int 4] (ok (.int (cellM ns 4))) := ⟨ns, 4, rfl, by decide, by omega, rfl⟩
  have hl0 : 0 < l.length := List.length_pos_iff.mpr hl.ne
  refine' dss_cons (ds_letG c2 rfl (ds := [.int (cellM ns 1)]) ?ha0 ⟨_, rfl⟩ rfl rfl (of_decide_eq_true rfl) ?hn0 ?hs0 ?hs1 ?hs2)
  case ha0 => walk_at "a"
  case hs0 => intro _; rfl
  case hs1 => intro _; rfl
  case hs2 => intro _; rfl
  case hn0 =>
  rintro r ⟨w, rfl⟩
  show DSs _ _ [.val (shsD l), .val (.int z), .val (.scr ns), .val (.int w), .any, .any, .any, .any, .any, .any, .any, .any, .any] _
  walk_at "let"
  generalize cellM ns 4 = far at *
  refine' dss_cons (ds_setLc2 (lv := true) 5 [("_law_share", 12)] l shD (fun s => s.map encP) rfl rfl (of_decide_eq_true rfl) rfl rfl rfl rfl (dit_list ?hc1) rfl (by omega) (.inl rfl) (fun s _ => flat_pcs _) ?hc2 ?hc3 ?hc4)
  case hc4 => intro _ _; rfl
  case hc1 => walk_at "l"
  case hc2 =>
    intro s hs
    refine ⟨_, dgc_nm rfl rfl rfl, ?_⟩
    walk_at "e"
  case hc3 =>
  refine' dss_freeze2 (dss := l.map fun s => s.map encP) 5 rfl ?_
  have eX : (l.map fun s => s.map encP).map D.lst = l.map shD := by rw [List.map_map]; rfl
  rw [eX]
  have hlm : (l.map shD).length = l.length := List.length_map ..
  have hzl : (0 : Int) < (((l.map shD).length : Nat) : Int) := by omega
  have hzn : (((l.map shD).length : Nat) : Int) ≠ 0 := by omega
  obtain ⟨a, ha⟩ : ∃ a : Nat, cellM ns 2 % (((l.map shD).length : Nat) : Int) = (a : Nat) := ⟨_, (Int.toNat_of_nonneg (Int.emod_nonneg _ hzn)).symm⟩
  have hal : a < l.length := by have := Int.emod_lt_of_pos (cellM ns 2) hzl; omega
  walk_at "let"
  rw [ha]
  obtain ⟨o, ho⟩ : ∃ o : Nat, (((a : Nat) : Int) + 1) % (((l.map shD).length : Nat) : Int) = (o : Nat) := ⟨_, (Int.toNat_of_nonneg (Int.emod_nonneg _ hzn)).symm⟩
  have hol : o < l.length := by have := Int.emod_lt_of_pos (((a : Nat) : Int) + 1) hzl; omega
  walk_at "let"
  rw [ho]
  show DSs _ _ [.val (shsD l), .val (.int z), .val (.scr ns), .val (.int w), .val (.int far), .own (l.map shD), .val (.int (a : Nat)), .val (.int (o : Nat)), .any, .any, .any, .any, .any] _
  have retm : ∀ l' : List (List Pc), Sb 60 l' → G_val 60 (.val (shsD l')) := fun l' h => ⟨l', rfl, h⟩
  refine' dss_cons (ds_if (x := decide (w = 0)) ?t1 (fun _ => ?p1) (fun _ => dss_nil ?_))
  case t1 => walk_at "t"
  case p1 =>
    refine' dss_freeze (ds := l.map shD) 5 rfl ?_
    refine' dss_one (ds_ret (r := .val (shsD l.reverse)) (de_dl (dl_fz (r := .own (l.map shD).reverse) (de_revL (lv := true) ?x1 (.inl rfl)) ?x2)) (retm _ ⟨fun z => hl.ne (List.reverse_eq_nil_iff.mp z), by rw [List.length_reverse]; exact hl.few, fun s hs => by have := hl.sm s (List.mem_reverse.mp hs); omega⟩))
    case x1 => walk_at "l"
    case x2 => show some (D.lst _) = some (D.lst _); rw [List.map_reverse]
  refine' dss_cons (ds_if (x := decide (w = 1)) ?t1 (fun _ => ?p1) (fun _ => dss_nil ?_))
  case t1 => walk_at "t"
  case p1 =>
    have hsb1 : Sb 60 (l ++ [[]]) := by
      refine ⟨by simp, ?_, fun s hs => ?_⟩
      · rw [List.length_append]; show l.length + 1 ≤ 6; omega
      · rcases List.mem_append.mp hs with hs | hs
        · have := hl.sm s hs; omega
        · rw [List.mem_singleton.mp hs]; exact Nat.zero_le _
    refine' dss_freeze (ds := l.map shD) 5 rfl ?_
    refine' dss_one (ds_ret (r := .val (shsD (l ++ [[]]))) (de_dl (dl_fz (r := .own (l.map shD ++ [shD []])) (de_cat (lv := true) (ds := l.map shD) (es := [shD []]) ?x1 (dl_of (r := .own2 [[]]) (de_lstO de_nil flat_nil ?x3) rfl) (by rw [List.length_map]; show l.length + 1 ≤ 1000000; omega) (.inl rfl)) ?x2)) (retm _ hsb1))
    case x1 => walk_at "l"
    case x2 => show some (D.lst _) = some (D.lst _); rw [List.map_append]; rfl
    case x3 => intro _; rfl
  refine' dss_cons (ds_if (x := decide (w = 2) && decide ((((l.map shD).length : Nat) : Int) > 1)) ?t1 (fun hx => ?p1) (fun _ => dss_nil ?_))
  case t1 => walk_at "t"
  case p1 =>
    simp only [Bool.and_eq_true, decide_eq_true_eq] at hx
    obtain ⟨k1, k2⟩ := cut_len _ l a
    have hcm : ∀ s, s ∈ cutG l none (some ((a : Nat) : Int)) ++ cutG l (some (((a : Nat) : Int) + 1)) none → s ∈ l := fun s hs => by
      rcases List.mem_append.mp hs with hs | hs
      · exact cutG_mem hs
      · exact cutG_mem hs
    refine' dss_freeze (ds := l.map shD) 5 rfl ?_
    refine' dss_one (ds_ret (r := .val (shsD (cutG l none (some ((a : Nat) : Int)) ++ cutG l (some (((a : Nat) : Int) + 1)) none))) (de_dl (dl_fz (r := .own (cutG (l.map shD) none (some ((a : Nat) : Int)) ++ cutG (l.map shD) (some (((a : Nat) : Int) + 1)) none)) (de_cat (lv := true) ?x1 ?x3 ?x4 (.inl rfl)) ?x2)) (retm _ ⟨fun z => by have := congrArg List.length z; rw [List.length_append, k1, k2] at this; have e : ([] : List (List Pc)).length = 0 := rfl; omega, by rw [List.length_append, k1, k2]; omega, fun s hs => by have := hl.sm s (hcm s hs); omega⟩))
    case x1 => exact dl_of (r := .own (cutG (l.map shD) none (some ((a : Nat) : Int)))) (by walk_at "e") rfl
    case x3 => exact dl_of (r := .own (cutG (l.map shD) (some (((a : Nat) : Int) + 1)) none)) (by walk_at "e") rfl
    case x4 => rw [cutG_map, cutG_map, List.length_map, List.length_map, k1, k2]; omega
    case x2 => show some (D.lst _) = some (D.lst _); rw [cutG_map, cutG_map, List.map_append]
  have hsa := List.getElem?_eq_getElem hal
  have hma := List.getElem_mem hal
  generalize l[a] = sa at hsa hma
  have hso := List.getElem?_eq_getElem hol
  have hmo := List.getElem_mem hol
  generalize l[o] = so at hso hmo
  have ata := at_sh hsa
  have ato := at_sh hso
  have hsal := hl.sm sa hma
  have hsol := hl.sm so hmo
  have emp : ∀ s : List Pc, (s.map encP).isEmpty = true ↔ shD s = .lst [] := fun s => by cases s <;> simp
  refine' dss_cons (ds_if (x := (sa.map encP).isEmpty || (so.map encP).isEmpty) (dt_w (dw_or (dt_eqD (da := shD sa) (db := .lst []) 2 ?x1 ?x2 (pl_sh sa) (.lst fun _ h => by cases h) (emp sa) (by decide)) (fun _ => dw_or1 (dt_eqD (da := shD so) (db := .lst []) 2 ?x3 ?x4 (pl_sh so) (.lst fun _ h => by cases h) (emp so) (by decide))))) (fun _ => ?p1) (fun hx => dss_nil ?_))
  case x1 => walk_at "l"
  case x2 => walk_at "l"
  case x3 => walk_at "l"
  case x4 => walk_at "l"
  case p1 =>
    refine' dss_freeze (ds := l.map shD) 5 rfl ?_
    refine' dss_one (ds_ret (r := .val (shsD l)) (de_of (lv := true) ?x1 (.inl rfl)) (retm _ (hl.up (by decide))))
    case x1 => walk_at "l"
  rw [Bool.or_eq_false_iff] at hx
  have nea : sa ≠ [] := fun z => by rw [z] at hx; cases hx.1
  have neo : so ≠ [] := fun z => by rw [z] at hx; cases hx.2
  have hsa0 : 0 < sa.length := List.length_pos_iff.mpr nea
  have hsm : (sa.map encP).length = sa.length := List.length_map ..
  have hzs : (0 : Int) < (((sa.map encP).length : Nat) : Int) := by omega
  have hzs2 : (((sa.map encP).length : Nat) : Int) ≠ 0 := by omega
  obtain ⟨k, hk⟩ : ∃ k : Nat, cellM ns 3 % (((sa.map encP).length : Nat) : Int) = (k : Nat) := ⟨_, (Int.toNat_of_nonneg (Int.emod_nonneg _ hzs2)).symm⟩
  have hkl : k < sa.length := by have := Int.emod_lt_of_pos (cellM ns 3) hzs; omega
  walk_at "let"
  rw [hk]
  have hsp := List.getElem?_eq_getElem hkl
  have hmp := List.getElem_mem hkl
  generalize sa[k] = p at hsp hmp
  have atp := at_pc hsp
  have hp12 := hp sa hma p hmp
  have hixa : ixN (l.map shD).length (a : Nat) = some a := by rw [List.length_map]; exact ix_nat hal
  let J : List Slot → Prop := fun S' => ∃ (l' : List (List Pc)) (g9 g10 g11 : Slot), S' = [.val (shsD l), .val (.int z), .val (.scr ns), .val (.int w), .val (.int far), .val (shsD l'), .val (.int (a : Nat)), .val (.int (o : Nat)), .val (.int (k : Nat)), g9, g10, g11, .any] ∧ Sb 60 l'
  have fsa := flat_pcs sa
  have setJ : ∀ (s' : List Pc), s'.length ≤ 60 → Sb 60 (l.set a s') := fun s' h => (hl.up (by decide)).set h
  refine' dss_mid J (ds_if (x := decide (w = 10)) ?t1 (fun _ => dss_cons ?p1) (fun _ => dss_one ?_)) ?fin
  case t1 => walk_at "t"
  case p1 =>
    refine' ds_setI (d := shD sa.reverse) (dl_fz (r := .own (sa.map encP).reverse) (de_revL (lv := false) ?x1 (.inr fsa)) ?x2) ?hiK hixa rfl rfl rfl ?h2 ?h3 ?h4 ?h5
    case x1 => walk_at "l"
    case x2 => show some (D.lst _) = some (D.lst _); rw [List.map_reverse]
    case hiK => walk_at "e"
    case h3 => intro _; rfl
    case h4 => intro _; rfl
    case h5 => intro _ _; rfl
    case h2 =>
    refine' dss_freeze (ds := (l.map shD).set a (shD sa.reverse)) 5 rfl (dss_nil ?_)
    exact ⟨l.set a sa.reverse, _, _, _, by rw [shsd_set]; rfl, setJ _ (by rw [List.length_reverse]; omega)⟩
  case fin =>
    rintro S' ⟨l', g9, g10, g11, rfl, hl'⟩
    refine' dss_one (ds_ret (r := .val (shsD l')) (de_of (lv := true) ?x1 (.inl rfl)) (retm _ hl'))
    case x1 => walk_at "l"
  refine' ds_if (x := decide (w ∈ ([11, 12, 16, 17] : List Int))) (dt_inLI ?t1 ?t2 rfl) (fun _ => dss_cons ?p1) (fun _ => dss_one ?_)
  case t1 => walk_at "e"
  case t2 => exact dl_of (r := .own (([11, 12, 16, 17] : List Int).map D.int)) (by walk_at "e") rfl
  case p1 =>
    refine' ds_letK c3 rfl rfl rfl rfl (ds := l.map shD) (as := [.int (a : Nat), .int (o : Nat), .int w, .int (k : Nat)]) rfl ?x1 ⟨l, a, o, w, k, rfl, rfl, hl, hal, hol, sa, hsa, hkl⟩ ?x2 ?x3 ?x4 ?x5
    case x1 => walk_at "a"
    case x3 => intro _; rfl
    case x4 => intro _; rfl
    case x5 => intro _; rfl
    case x2 =>
    rintro ds' ⟨l', rfl, hl'⟩
    refine' dss_freeze (ds := l'.map shD) 5 rfl (dss_nil ?_)
    exact ⟨l', _, _, _, rfl, hl'⟩
  refine' ds_if (x := decide (w = 13)) ?t1 (fun _ => ?p1) (fun _ => dss_one ?_)
  case t1 => walk_at "t"
  case p1 =>
    refine' dss_freeze (ds := l.map shD) 5 rfl ?_
    refine' dss_one (ds_letG c4 rfl (ds := [shsD l, .int p.2]) ?x1 ⟨l, _, rfl, hl⟩ rfl rfl (of_decide_eq_true rfl) ?x2 ?x3 ?x4 ?x5)
    case x1 => walk_at "a"
    case x3 => intro _; rfl
    case x4 => intro _; rfl
    case x5 => intro _; rfl
    case x2 =>
    rintro r ⟨l', rfl, hl'⟩
    exact ⟨l', _, _, _, rfl, hl'⟩
  refine' ds_if (x := decide (w = 14) && !decide (((o : Nat) : Int) = ((a : Nat) : Int))) ?t1 (fun hx => ?p1) (fun _ => dss_one ?_)
  case t1 => walk_at "t"
  case p1 =>
    simp only [Bool.and_eq_true, Bool.not_eq_true', decide_eq_false_iff_not] at hx
    refine' dss_freeze (ds := l.map shD) 5 rfl ?_
    refine' dss_one (ds_letG c5 rfl (ds := [shsD l, .int (a : Nat), .int (o : Nat), .int far]) ?x1 ⟨l, a, o, far, rfl, hl, fun e => hx.2 (by rw [e]), ⟨sa, hsa, nea, hp sa hma⟩, ⟨so, hso, neo, hp so hmo⟩⟩ rfl rfl (of_decide_eq_true rfl) ?x2 ?x3 ?x4 ?x5)
    case x1 => walk_at "a"
    case x3 => intro _; rfl
    case x4 => intro _; rfl
    case x5 => intro _; rfl
    case x2 =>
    rintro r ⟨l', rfl, hl'⟩
    exact ⟨l', _, _, _, rfl, hl'⟩
  have hz1 : (sa.map encP).length + 1 ≤ 1000000 := by omega
  have hz1' : 1 + (sa.map encP).length ≤ 1000000 := by omega
  refine' ds_if (x := decide (w = 15)) ?t1 (fun _ => dss_cons ?p1) (fun _ => dss_one ?_)
  case t1 => walk_at "t"
  case p1 =>
    obtain ⟨q, mq, atq, hzq⟩ := mod_ix neo far
    obtain ⟨e, ate⟩ : ∃ e : Int, atI [D.int q.1, D.int q.2] (far / 2 % 2) = some (.int e) := by
      have h : far / 2 % 2 = 0 ∨ far / 2 % 2 = 1 := by omega
      rcases h with h | h <;> rw [h] <;> exact ⟨_, rfl⟩
    refine' ds_let (r := .val (.int e)) (de_of (lv := false) ?x1 (.inr (.int _))) rfl rfl (of_decide_eq_true rfl) ?x2 ?x3
    case x1 => walk_at "l"
    case x3 => intro _; rfl
    case x2 =>
    refine' dss_cons (ds_setI (d := shD (sortP (sa ++ [(e, e)]))) (dl_fz (r := .own ((sortP (sa ++ [(e, e)])).map encP)) (de_sortT (k := kP) (enc := encP) (xs := sa ++ [(e, e)]) (fun _ => rfl) kP_inj (fun _ => List.cons_ne_nil _ _) (glB_gl rfl).1 n_sorted (dl_of (r := .own (sa.map encP ++ [encP (e, e)])) (de_cat (lv := false) (ds := sa.map encP) (es := [encP (e, e)]) ?y1 ?y2 hz1 (.inr (flat_app fsa (flat_pcs [(e, e)])))) ?y3) ?y4) rfl) ?hiK hixa rfl rfl rfl ?h2 ?h3 ?h4 ?h5)
    case y1 => walk_at "l"
    case y2 => walk_at "l"
    case y3 => show some (D.lst _) = some (D.lst _); rw [List.map_append]; rfl
    case y4 => intro _; rfl
    case hiK => walk_at "e"
    case h3 => intro _; rfl
    case h4 => intro _; rfl
    case h5 => intro _ _; rfl
    case h2 =>
    refine' dss_freeze (ds := (l.map shD).set a (shD (sortP (sa ++ [(e, e)])))) 5 rfl (dss_nil ?_)
    exact ⟨l.set a (sortP (sa ++ [(e, e)])), _, _, _, by rw [shsd_set]; rfl, setJ _ (by rw [show (sortP (sa ++ [(e, e)])).length = (sa ++ [(e, e)]).length from (sortL_perm _).length_eq, List.length_append]; show sa.length + 1 ≤ 60; omega)⟩
  refine' ds_if (x := decide (w = 18)) ?t1 (fun _ => dss_cons ?p1) (fun _ => dss_one ?_)
  case t1 => walk_at "t"
  case p1 =>
    refine' ds_let (r := .val (.int (z + far % 3))) ?x1 rfl rfl (of_decide_eq_true rfl) ?x2 ?x3
    case x1 => walk_at "e"
    case x3 => intro _; rfl
    case x2 =>
    refine' dss_cons (ds_setI (d := shD (sa ++ [(z + far % 3, z + far % 3 + 1 + far / 3 % 5)])) (dl_fz (r := .own (sa.map encP ++ [encP (z + far % 3, z + far % 3 + 1 + far / 3 % 5)])) (de_cat (lv := false) (ds := sa.map encP) (es := [encP (z + far % 3, z + far % 3 + 1 + far / 3 % 5)]) ?y1 ?y2 hz1 (.inr (flat_app fsa (flat_pcs [(z + far % 3, z + far % 3 + 1 + far / 3 % 5)])))) ?y3) ?hiK hixa rfl rfl rfl ?h2 ?h3 ?h4 ?h5)
    case y1 => walk_at "l"
    case y2 => walk_at "l"
    case y3 => show some (D.lst _) = some (D.lst _); rw [List.map_append]; rfl
    case hiK => walk_at "e"
    case h3 => intro _; rfl
    case h4 => intro _; rfl
    case h5 => intro _ _; rfl
    case h2 =>
    refine' dss_freeze (ds := (l.map shD).set a (shD (sa ++ [(z + far % 3, z + far % 3 + 1 + far / 3 % 5)]))) 5 rfl (dss_nil ?_)
    exact ⟨l.set a (sa ++ [(z + far % 3, z + far % 3 + 1 + far / 3 % 5)]), _, _, _, by rw [shsd_set]; rfl, setJ _ (by rw [List.length_append]; show sa.length + 1 ≤ 60; omega)⟩
  refine' ds_if (x := decide (w = 19)) ?t1 (fun _ => dss_cons ?p1) (fun _ => dss_cons ?p2)
  case t1 => walk_at "t"
  case p1 =>
    refine' ds_setI (d := shD ((-3 - far % 3, -2 - far % 3) :: sa)) (dl_fz (r := .own ([encP (-3 - far % 3, -2 - far % 3)] ++ sa.map encP)) (de_cat (lv := false) (ds := [encP (-3 - far % 3, -2 - far % 3)]) (es := sa.map encP) ?y1 ?y2 hz1' (.inr (flat_app (flat_pcs [(-3 - far % 3, -2 - far % 3)]) fsa))) rfl) ?hiK hixa rfl rfl rfl ?h2 ?h3 ?h4 ?h5
    case y1 => walk_at "l"
    case y2 => walk_at "l"
    case hiK => walk_at "e"
    case h3 => intro _; rfl
    case h4 => intro _; rfl
    case h5 => intro _ _; rfl
    case h2 =>
    refine' dss_freeze (ds := (l.map shD).set a (shD ((-3 - far % 3, -2 - far % 3) :: sa))) 5 rfl (dss_nil ?_)
    exact ⟨l.set a ((-3 - far % 3, -2 - far % 3) :: sa), _, _, _, by rw [shsd_set]; rfl, setJ _ (by rw [List.length_cons]; omega)⟩
  case p2 =>
    refine' ds_letG c6 rfl (ds := [encP p, .int w, .int far]) ?x1 ⟨p, w, far, rfl, hp12⟩ rfl rfl (of_decide_eq_true rfl) ?x2 ?x3 ?x4 ?x5
    case x1 => walk_at "a"
    case x3 => intro _; rfl
    case x4 => intro _; rfl
    case x5 => intro _; rfl
    case x2 =>
    rintro r ⟨t, rfl, ht⟩
    show DSs _ _ [.val (shsD l), .val (.int z), .val (.scr ns), .val (.int w), .val (.int far), .own (l.map shD), .val (.int (a : Nat)), .val (.int (o : Nat)), .val (.int (k : Nat)), .any, .any, .own (t.map encP), .any] _
    obtain ⟨k1, k2⟩ := cut_len _ sa k
    have ft := flat_pcs t
    have hzz : (cutG (sa.map encP) none (some ((k : Nat) : Int))).length + (t.map encP).length ≤ 1000000 := by rw [cutG_map, List.length_map, List.length_map, k1]; omega
    have hzz2 : (cutG (sa.map encP) none (some ((k : Nat) : Int)) ++ t.map encP).length + (cutG (sa.map encP) (some (((k : Nat) : Int) + 1)) none).length ≤ 1000000 := by rw [List.length_append, cutG_map, cutG_map, List.length_map, List.length_map, List.length_map, k1, k2]; omega
    refine' dss_cons (ds_setI (d := shD ((cutG sa none (some ((k : Nat) : Int)) ++ t) ++ cutG sa (some (((k : Nat) : Int) + 1)) none)) (dl_fz (r := .own ((cutG (sa.map encP) none (some ((k : Nat) : Int)) ++ t.map encP) ++ cutG (sa.map encP) (some (((k : Nat) : Int) + 1)) none)) (de_cat (lv := false) (dl_of (r := .own (cutG (sa.map encP) none (some ((k : Nat) : Int)) ++ t.map encP)) (de_cat (lv := false) ?y1 ?y2 hzz (.inr (flat_app (flat_cut fsa) ft))) rfl) ?y3 hzz2 (.inr (flat_app (flat_app (flat_cut fsa) ft) (flat_cut fsa)))) ?y4) ?hiK hixa rfl rfl rfl ?h2 ?h3 ?h4 ?h5)
    case y1 => exact dl_of (r := .own (cutG (sa.map encP) none (some ((k : Nat) : Int)))) (by walk_at "e") rfl
    case y2 => walk_at "l"
    case y3 => exact dl_of (r := .own (cutG (sa.map encP) (some (((k : Nat) : Int) + 1)) none)) (by walk_at "e") rfl
    case y4 => show some (D.lst _) = some (D.lst _); rw [cutG_map, cutG_map, List.map_append, List.map_append]
    case hiK => walk_at "e"
    case h3 => intro _; rfl
    case h4 => intro _; rfl
    case h5 => intro _ _; rfl
    case h2 =>
    refine' dss_freeze (ds := (l.map shD).set a (shD ((cutG sa none (some ((k : Nat) : Int)) ++ t) ++ cutG sa (some (((k : Nat) : Int) + 1)) none))) 5 rfl (dss_nil ?_)
    exact ⟨l.set a ((cutG sa none (some ((k : Nat) : Int)) ++ t) ++ cutG sa (some (((k : Nat) : Int) + 1)) none), _, _, _, by rw [shsd_set]; rfl, setJ _ (by rw [List.length_append, List.length_append, k1, k2]; omega)⟩
end
/-! ## the law -/
theorem de_eqBl {C : Ctx} {S : List Slot} {a b : Expr} {x y : Bool} {pos : Pos} (ha : DB C a S x) (hb : DB C b S y) : DB C (.Compare a [.Eq] [b] pos) S (decide (x = y)) := by
  rw [← dec_bl]; exact de_cmp (lv := false) (fun _ _ => op_eq) (nomark _) (dl_val ha) (dl_val hb) (op2_eq rfl rfl rfl) (.inr (.bl _))
theorem op_isnotB {X : Cx} : OpR X (compareOp .IsNot) (fun x y H Q => ∃ a b, x = .bl a ∧ y = .bl b ∧ Q (.bl (!decide (a = b))) H) := by
  intro pins s σ H x y v u Q I rx ry h
  obtain ⟨a, b, rfl, rfl, q⟩ := h
  cases rx
  cases ry
  refine wpAny_isNot_plain (by rfl) (fin_bl I q ?_)
  cases a <;> cases b <;> rfl
theorem dt_notB {C : Ctx} {S : List Slot} {a b : Expr} {x y : Bool} {pos : Pos} (ha : DB C a S x) (hb : DB C b S y) : DT C (.Compare a [.IsNot] [b] pos) S (!decide (x = y)) :=
  dt_cmp (lv := false) (fun _ _ => op_isnotB) (nomark _) (dl_val ha) (dl_val hb) fun A H v w Q _ rv rw' hq => by
    cases rv; cases rw'
    exact ⟨x, y, rfl, rfl, hq _ H (Ex.refl H) (.bl _)⟩
def F_law (ds : List D) (o : Out) : Prop := ∃ (ns : List Int), ds = [.scr ns] ∧ ns.length ≤ 63 ∧ o = ok (.bl true)
theorem Sh7.sb {l : List (List Pc)} (h : Sh7 l) : Sb 24 l := ⟨h.ne, by have := h.few; omega, fun s hs => by
  have : ∀ l : List (List Pc), ∀ s ∈ l, s.length ≤ l.flatten.length := fun l => by
    induction l with
    | nil => intro s h; cases h
    | cons x l ih =>
      intro s h
      rw [List.flatten_cons, List.length_append]
      rcases List.mem_cons.mp h with rfl | h
      · omega
      · have := ih s h; omega
  have := this l s hs
  have := h.small
  omega⟩
section
variable {M : Mo} {f : Addr} {fd : FuncData}
set_option maxHeartbeats 2000000 in
theorem ok_law (T : Nn M) (c1 : Cal M "_law_cell_at" F_cell) (c2 : CalG M "_law_dealt" F_dealt7 G_dealt7) (c3 : CalG M "_law_spoilt" F_sp (G_val 60)) (c4 : Cal M "_law_fair" F_lfair) (c5 : Cal M "fair" F_fair) (c6 : Cal M "_law_cuts_fit" F_lcfit) (c7 : Cal M "_law_dealt_out" F_dout) (F : Fun M.K "law" "law" s_law f fd) : FnOk M.P M.w M.K M.mg M.base (L2.CX M.P M.w) (M.k + 1) f fd ["_law_script"] (spOf M.K F_law) := by
  obtain ⟨n_sum, _, _, n_len, n_isi, _, n_bool, _, n_list, _⟩ := T
  have b2 := boot_list
  have bb : bootBuiltins "bool" = some (.type "bool") := PyProof.Rows.Boot.«bool»
  refine fn_data F sc_law (fun ds o ⟨ns, h, _⟩ => by rw [h]; rfl) (fun ds o ⟨ns, h1, hn, h2⟩ => ?_)
  subst h1 h2
  have q0 : F_cell [.scr ns, .int 0] (ok (.int (cellM ns 0))) := ⟨ns, 0, rfl, by decide, by omega, rfl⟩
  obtain ⟨n, hnn⟩ : ∃ n : Nat, 1 + cellM ns 0 % 5 = (n : Nat) := ⟨(1 + cellM ns 0 % 5).toNat, by omega⟩
  have hn15 : 1 ≤ n ∧ n ≤ 5 := by omega
  walk_at "let"
  rw [hnn]
  refine' dss_cons (ds_asgTG c2 rfl (ds := [.scr ns, .int (n : Nat)]) ?ha0 ⟨ns, n, rfl, hn, hn15.1, hn15.2⟩ ?hn0 ?hs0 ?hs1 ?hs2 ?hs3 ?hs4)
  case ha0 => walk_at "a"
  case hs0 => intro _; rfl
  case hs1 => intro _; rfl
  case hs2 => intro _; rfl
  case hs3 => intro _; rfl
  case hs4 => intro _; rfl
  case hn0 =>
  rintro r ⟨b, g, rfl, hb, hg, hgl⟩
  refine ⟨_, rfl, ?_⟩
  walk_at "g2"
  have hbl := hb.len
  have hgb := hg.sb
  have hgood : goodB (lenB b) g = true := by
    unfold lawB at hgl
    rw [Bool.and_eq_true] at hgl
    exact hgl.1
  have hgp : ∀ s ∈ g, ∀ p ∈ s, p.1 < p.2 := fun s hs p hp => (good_mem hgood s hs p hp).2.1
  refine' dss_cons (ds_letG c3 rfl (ds := [shsD g, .int (lenB b), .scr ns]) (da_cons ?ha1 (da_cons (dl_of (r := .val (.int (lenB b))) (de_sum (ns := b.map (·.2)) (glB_gl rfl).1 n_sum (dl_rd (de_map (lv := true) [("_law_row", 9)] b encRow (fun r => .int r.2) rfl (dit_list ?hb3) rfl (by omega) (.inl rfl) ?hc3) ?hd3) ?he3) rfl) (da_cons ?ha2 da_nil ?hq1) ?hq2) ?hq3) ⟨g, _, ns, rfl, hgb, hg.few, hn, hgp⟩ rfl rfl (of_decide_eq_true rfl) ?hn1 ?hs0 ?hs1 ?hs2)
  case ha1 => walk_at "l"
  case ha2 => walk_at "l"
  case hb3 => walk_at "l"
  case hc3 =>
    intro r _
    exact ⟨_, _, dgc_nm rfl rfl rfl, by walk_at "e", rfl⟩
  case hd3 => rw [List.map_map]; rfl
  case he3 => intro _; rfl
  case hq1 => intro _; rfl
  case hq2 => intro _; rfl
  case hq3 => intro _; rfl
  case hs0 => intro _; rfl
  case hs1 => intro _; rfl
  case hs2 => intro _; rfl
  case hn1 =>
  rintro r ⟨l, rfl, hl⟩
  show DSs _ _ [.val (.scr ns), .val (.int (n : Nat)), .val (encB b), .val (shsD g), .val (shsD l), .any, .any, .any, .any, .any, .any] _
  have hlp := hl.shp (by decide)
  have hgp2 := hgb.shp (by decide)
  have hlf := hl.few
  have hgf := hgb.few
  have plb := pl_bank hb.okg
  have pls := pl_shs l
  have plh : Pl 4 (.lst [encB b, shsD l]) := .lst fun d hd => by
    rcases List.mem_cons.mp hd with rfl | hd
    · exact plb.up
    · rw [List.mem_singleton.mp hd]; exact pls
  have f4 : F_lfair [encB b, shsD l] (ok (.bl (lawB b l))) := ⟨b, l, rfl, hb, hlp, rfl⟩
  have f5 : F_fair [encB b, shsD l] (ok (.bl (lawB b l))) := ⟨b, l, rfl, by omega, hlp.len, by rw [fair_law hb.pos]⟩
  have f5g : F_fair [encB b, shsD g] (ok (.bl true)) := ⟨b, g, rfl, by omega, hgp2.len, by rw [fair_law hb.pos, hgl]⟩
  have f6g : F_lcfit [encB b, shsD g] (ok (.bl true)) := ⟨b, g, rfl, hb, hgp2, rfl⟩
  have f6 : F_lcfit [encB b, shsD l] (ok (.bl true)) := ⟨b, l, rfl, hb, hlp, rfl⟩
  have f7 : F_dout [encB b, shsD l] (ok (.bl (goodB (lenB b) l))) := ⟨b, l, rfl, hb, hlp, rfl⟩
  generalize lawB b l = due at *
  generalize goodB (lenB b) l = gd at *
  have hat0 : atI [encB b, shsD l] 0 = some (encB b) := rfl
  have hat1 : atI [encB b, shsD l] 1 = some (shsD l) := rfl
  refine' dss_cons (ds_let (r := .val (.bl due)) (de_fnR (lv := true) c4 rfl ?hb1 f4 (.inl rfl) ?h1 ?h2) rfl rfl (of_decide_eq_true rfl) ?hn2 ?h3)
  case hb1 => walk_at "a"
  case h1 => intro _; rfl
  case h2 => intro _; rfl
  case h3 => intro _; rfl
  refine' dss_cons (ds_let (r := .val (.lst [encB b, shsD l])) (de_dl (dl_fz (r := .own [encB b, shsD l]) (de_lst (lv := true) (da_cons (dl_of (r := .own (b.map encRow)) ?hd1 rfl) (da_cons (dl_of (r := .own2 (l.map fun s => s.map encP)) (de_map2 (lv := true) [("_law_share", 10)] l shD (fun s => s.map encP) rfl (dit_list ?hl1) rfl (by omega) (.inl rfl) (fun s _ => flat_pcs _) ?he1) ?hx1) da_nil ?h1) ?h2) (.inl rfl) (by show 2 ≤ 1000000; decide)) rfl)) rfl rfl (of_decide_eq_true rfl) ?hn3 ?h3)
  case hd1 => walk_at "e"
  case hl1 => walk_at "l"
  case hx1 => show some (D.lst ((l.map fun s => s.map encP).map D.lst)) = _; rw [List.map_map]; rfl
  case he1 =>
    intro s _
    refine ⟨_, dgc_nm rfl rfl rfl, ?_⟩
    walk_at "e"
  case h1 => intro _; rfl
  case h2 => intro _; rfl
  case h3 => intro _; rfl
  refine' dss_cons (ds_let (r := .val (.bl due)) (de_fnR (lv := true) c5 rfl ?hb2 f5 (.inl rfl) ?h1 ?h2) rfl rfl (of_decide_eq_true rfl) ?hn4 ?h3)
  case hb2 => walk_at "a"
  case h1 => intro _; rfl
  case h2 => intro _; rfl
  case h3 => intro _; rfl
  refine' dss_cons (ds_ifF (x := !true || (!decide (due = due) || false)) (dt_w (dw_or ?ht1 (fun _ => dw_or (dt_neBl ?ht2 ?ht3) (fun _ => dw_or1 (dt_neD (da := .lst [encB b, shsD l]) (db := .lst [encB b, shsD l]) 4 ?hu (dl_of (r := .own [encB b, shsD l]) ?hv rfl) plh plh ⟨fun h => (nomatch h), fun h => absurd rfl h⟩ (by decide)))))) (by rw [decide_eq_true rfl]; rfl) (dss_nil ?_))
  case ht1 => walk_at "t"
  case ht2 => walk_at "e"
  case ht3 => walk_at "e"
  case hu => walk_at "l"
  case hv => walk_at "e"
  refine' dss_cons (ds_ifF (x := !decide (true = true)) (dt_notB (de_fnR (lv := true) c5 rfl (da_cons (dl_of (r := .own (b.map encRow)) ?hd1 rfl) (da_cons (dl_of (r := .own2 (g.map fun s => s.map encP)) (de_map2 (lv := true) [("_law_share", 10)] g shD (fun s => s.map encP) rfl (dit_list ?hl1) rfl (by omega) (.inl rfl) (fun s _ => flat_pcs _) ?he1) ?hx1) da_nil ?h1) ?h2) f5g (.inl rfl) ?h4 ?h5) de_bl) (by rw [decide_eq_true rfl]; rfl) (dss_nil ?_))
  case hd1 => walk_at "e"
  case hl1 => walk_at "l"
  case hx1 => show some (D.lst ((g.map fun s => s.map encP).map D.lst)) = _; rw [List.map_map]; rfl
  case he1 =>
    intro s _
    refine ⟨_, dgc_nm rfl rfl rfl, ?_⟩
    walk_at "e"
  case h1 => intro _; rfl
  case h2 => intro _; rfl
  case h4 => intro _; rfl
  case h5 => intro _; rfl
  refine' dss_cons (ds_ifF (x := !true) (dt_not (dt_val (de_fnR (lv := true) c6 rfl ?hb3 f6g (.inl rfl) ?h1 ?h2))) rfl (dss_nil ?_))
  case hb3 => walk_at "a"
  case h1 => intro _; rfl
  case h2 => intro _; rfl
  refine' dss_cons (ds_ifF (x := gd && !true) (dt_w (dw_and (x := gd) (dt_val (de_fnR (lv := true) c7 rfl ?hb4 f7 (.inl rfl) ?h1 ?h2)) (fun _ => dw_and1 (dt_not (dt_val (de_fnR (lv := true) c6 rfl ?hb5 f6 (.inl rfl) ?h4 ?h5)))))) (Bool.and_false _) (dss_nil ?_))
  case hb4 => walk_at "a"
  case hb5 => walk_at "a"
  case h1 => intro _; rfl
  case h2 => intro _; rfl
  case h4 => intro _; rfl
  case h5 => intro _; rfl
  refine' dss_cons (ds_let (r := .val (.bl due)) (de_fnR (lv := true) c5 rfl ?hb6 f5 (.inl rfl) ?h1 ?h2) rfl rfl (of_decide_eq_true rfl) ?hn6 ?h3)
  case hb6 => walk_at "a"
  case h1 => intro _; rfl
  case h2 => intro _; rfl
  case h3 => intro _; rfl
  refine' dss_one (ds_ret (r := .val (.bl (true && decide (due = due)))) (de_and ?hc1 (fun _ => de_one (de_eqBl ?hc2 ?hc3))) ?hc4)
  case hc1 => walk_at "e"
  case hc2 => walk_at "e"
  case hc3 => walk_at "e"
  case hc4 => rw [decide_eq_true rfl]; rfl
end
end BK
namespace BK
open PySem PySem.Spec PyProof.Rows L2
/-! ## the end -/
def d_length : He.DefD := ⟨("length", none), "length", "length", defArgs s_length, defBody s_length, defScope s_length, [], []⟩
def d_ground_of : He.DefD := ⟨("ground_of", none), "ground_of", "ground_of", defArgs s_ground_of, defBody s_ground_of, defScope s_ground_of, [], []⟩
def d_end_on : He.DefD := ⟨("end_on", none), "end_on", "end_on", defArgs s_end_on, defBody s_end_on, defScope s_end_on, [], []⟩
def d_cut_out : He.DefD := ⟨("cut_out", none), "cut_out", "cut_out", defArgs s_cut_out, defBody s_cut_out, defScope s_cut_out, [.int 0, .non], []⟩
def d_between : He.DefD := ⟨("between", none), "between", "between", defArgs s_between, defBody s_between, defScope s_between, [.int 0, .non], []⟩
def d_all_pieces : He.DefD := ⟨("all_pieces", none), "all_pieces", "all_pieces", defArgs s_all_pieces, defBody s_all_pieces, defScope s_all_pieces, [], []⟩
def d_cuts : He.DefD := ⟨("cuts", none), "cuts", "cuts", defArgs s_cuts, defBody s_cuts, defScope s_cuts, [], []⟩
def d_in_order : He.DefD := ⟨("in_order", none), "in_order", "in_order", defArgs s_in_order, defBody s_in_order, defScope s_in_order, [], []⟩
def d_end_to_end : He.DefD := ⟨("end_to_end", none), "end_to_end", "end_to_end", defArgs s_end_to_end, defBody s_end_to_end, defScope s_end_to_end, [], []⟩
def d_ground_had : He.DefD := ⟨("ground_had", none), "ground_had", "ground_had", defArgs s_ground_had, defBody s_ground_had, defScope s_ground_had, [], []⟩
def d_fair : He.DefD := ⟨("fair", none), "fair", "fair", defArgs s_fair, defBody s_fair, defScope s_fair, [], []⟩
def d_law_cell_at : He.DefD := ⟨("_law_cell_at", none), "_law_cell_at", "_law_cell_at", defArgs s_law_cell_at, defBody s_law_cell_at, defScope s_law_cell_at, [], []⟩
def d_law_whole : He.DefD := ⟨("_law_whole", none), "_law_whole", "_law_whole", defArgs s_law_whole, defBody s_law_whole, defScope s_law_whole, [], []⟩
def d_law_long : He.DefD := ⟨("_law_long", none), "_law_long", "_law_long", defArgs s_law_long, defBody s_law_long, defScope s_law_long, [], []⟩
def d_law_put : He.DefD := ⟨("_law_put", none), "_law_put", "_law_put", defArgs s_law_put, defBody s_law_put, defScope s_law_put, [], []⟩
def d_law_joined : He.DefD := ⟨("_law_joined", none), "_law_joined", "_law_joined", defArgs s_law_joined, defBody s_law_joined, defScope s_law_joined, [], []⟩
def d_law_dealt : He.DefD := ⟨("_law_dealt", none), "_law_dealt", "_law_dealt", defArgs s_law_dealt, defBody s_law_dealt, defScope s_law_dealt, [], []⟩
def d_law_moved_edge : He.DefD := ⟨("_law_moved_edge", none), "_law_moved_edge", "_law_moved_edge", defArgs s_law_moved_edge, defBody s_law_moved_edge, defScope s_law_moved_edge, [], []⟩
def d_law_with_length : He.DefD := ⟨("_law_with_length", none), "_law_with_length", "_law_with_length", defArgs s_law_with_length, defBody s_law_with_length, defScope s_law_with_length, [], []⟩
def d_law_begins_exchanged : He.DefD := ⟨("_law_begins_exchanged", none), "_law_begins_exchanged", "_law_begins_exchanged", defArgs s_law_begins_exchanged, defBody s_law_begins_exchanged, defScope s_law_begins_exchanged, [], []⟩
def d_law_piece_spoilt : He.DefD := ⟨("_law_piece_spoilt", none), "_law_piece_spoilt", "_law_piece_spoilt", defArgs s_law_piece_spoilt, defBody s_law_piece_spoilt, defScope s_law_piece_spoilt, [], []⟩
def d_law_given : He.DefD := ⟨("_law_given", none), "_law_given", "_law_given", defArgs s_law_given, defBody s_law_given, defScope s_law_given, [], []⟩
def d_law_way : He.DefD := ⟨("_law_way", none), "_law_way", "_law_way", defArgs s_law_way, defBody s_law_way, defScope s_law_way, [], []⟩
def d_law_spoilt : He.DefD := ⟨("_law_spoilt", none), "_law_spoilt", "_law_spoilt", defArgs s_law_spoilt, defBody s_law_spoilt, defScope s_law_spoilt, [], []⟩
def d_law_rows : He.DefD := ⟨("_law_rows", none), "_law_rows", "_law_rows", defArgs s_law_rows, defBody s_law_rows, defScope s_law_rows, [], []⟩
def d_law_sums : He.DefD := ⟨("_law_sums", none), "_law_sums", "_law_sums", defArgs s_law_sums, defBody s_law_sums, defScope s_law_sums, [], []⟩
def d_law_dealt_out : He.DefD := ⟨("_law_dealt_out", none), "_law_dealt_out", "_law_dealt_out", defArgs s_law_dealt_out, defBody s_law_dealt_out, defScope s_law_dealt_out, [], []⟩
def d_law_fair : He.DefD := ⟨("_law_fair", none), "_law_fair", "_law_fair", defArgs s_law_fair, defBody s_law_fair, defScope s_law_fair, [], []⟩
def d_law_cuts : He.DefD := ⟨("_law_cuts", none), "_law_cuts", "_law_cuts", defArgs s_law_cuts, defBody s_law_cuts, defScope s_law_cuts, [], []⟩
def d_law_cuts_fit : He.DefD := ⟨("_law_cuts_fit", none), "_law_cuts_fit", "_law_cuts_fit", defArgs s_law_cuts_fit, defBody s_law_cuts_fit, defScope s_law_cuts_fit, [], []⟩
def d_law : He.DefD := ⟨("law", none), "law", "law", defArgs s_law, defBody s_law, defScope s_law, [], []⟩
def fn : List He.DefD := [d_length, d_ground_of, d_end_on, d_cut_out, d_between, d_all_pieces, d_cuts, d_in_order, d_end_to_end, d_ground_had, d_fair, d_law_cell_at, d_law_whole, d_law_long, d_law_put, d_law_joined, d_law_dealt, d_law_moved_edge, d_law_with_length, d_law_begins_exchanged, d_law_piece_spoilt, d_law_given, d_law_way, d_law_spoilt, d_law_rows, d_law_sums, d_law_dealt_out, d_law_fair, d_law_cuts, d_law_cuts_fit, d_law]
def fa : List He.Fa := [.glo "length", .glo "ground_of", .glo "end_on", .glo "cut_out", .glo "between", .glo "all_pieces", .glo "cuts", .glo "in_order", .glo "end_to_end", .glo "ground_had", .glo "fair", .glo "_law_cell_at", .glo "_law_whole", .glo "_law_long", .glo "_law_put", .glo "_law_joined", .glo "_law_dealt", .glo "_law_moved_edge", .glo "_law_with_length", .glo "_law_begins_exchanged", .glo "_law_piece_spoilt", .glo "_law_given", .glo "_law_way", .glo "_law_spoilt", .glo "_law_rows", .glo "_law_sums", .glo "_law_dealt_out", .glo "_law_fair", .glo "_law_cuts", .glo "_law_cuts_fit", .glo "law", .glo "OffBank", .free "sum", .free "max", .free "min", .free "len", .free "isinstance", .free "int", .free "bool", .free "tuple", .free "list", .free "range", .free "sorted", .exc "OffBank"]
def xb (K : PySem.W.Frag) : Bool := true
set_option maxHeartbeats 4000000 in
theorem facts {P : Program} {w : World} {K : PySem.W.Frag} {h : Heap} {mg : Str → Option Value} {f : Addr} (X : K.In h) (G : h.Ns mainGlobals mg) (hfa : mg ("law" : Str) = some (.ref f)) (c : He.SaysD fa fn K) (x : xb K = true) :
    ∃ fd : FuncData, (∀ (s : Shared) (v : Value), BindsTo s fd ⟨[v], []⟩ [("_law_script", v)]) ∧ ∀ base : Heap, K.In base → base.Ns mainGlobals mg → FnOk P w K mg base (L2.CX P w) 31 f fd ["_law_script"] (spOf K F_law) := by
  have g_length := He.glo_ok X G (c.fact 0 (f := .glo "length") rfl)
  have g_ground_of := He.glo_ok X G (c.fact 1 (f := .glo "ground_of") rfl)
  have g_end_on := He.glo_ok X G (c.fact 2 (f := .glo "end_on") rfl)
  have g_cut_out := He.glo_ok X G (c.fact 3 (f := .glo "cut_out") rfl)
  have g_between := He.glo_ok X G (c.fact 4 (f := .glo "between") rfl)
  have g_all_pieces := He.glo_ok X G (c.fact 5 (f := .glo "all_pieces") rfl)
  have g_cuts := He.glo_ok X G (c.fact 6 (f := .glo "cuts") rfl)
  have g_in_order := He.glo_ok X G (c.fact 7 (f := .glo "in_order") rfl)
  have g_end_to_end := He.glo_ok X G (c.fact 8 (f := .glo "end_to_end") rfl)
  have g_ground_had := He.glo_ok X G (c.fact 9 (f := .glo "ground_had") rfl)
  have g_fair := He.glo_ok X G (c.fact 10 (f := .glo "fair") rfl)
  have g_law_cell_at := He.glo_ok X G (c.fact 11 (f := .glo "_law_cell_at") rfl)
  have g_law_whole := He.glo_ok X G (c.fact 12 (f := .glo "_law_whole") rfl)
  have g_law_long := He.glo_ok X G (c.fact 13 (f := .glo "_law_long") rfl)
  have g_law_put := He.glo_ok X G (c.fact 14 (f := .glo "_law_put") rfl)
  have g_law_joined := He.glo_ok X G (c.fact 15 (f := .glo "_law_joined") rfl)
  have g_law_dealt := He.glo_ok X G (c.fact 16 (f := .glo "_law_dealt") rfl)
  have g_law_moved_edge := He.glo_ok X G (c.fact 17 (f := .glo "_law_moved_edge") rfl)
  have g_law_with_length := He.glo_ok X G (c.fact 18 (f := .glo "_law_with_length") rfl)
  have g_law_begins_exchanged := He.glo_ok X G (c.fact 19 (f := .glo "_law_begins_exchanged") rfl)
  have g_law_piece_spoilt := He.glo_ok X G (c.fact 20 (f := .glo "_law_piece_spoilt") rfl)
  have g_law_given := He.glo_ok X G (c.fact 21 (f := .glo "_law_given") rfl)
  have g_law_way := He.glo_ok X G (c.fact 22 (f := .glo "_law_way") rfl)
  have g_law_spoilt := He.glo_ok X G (c.fact 23 (f := .glo "_law_spoilt") rfl)
  have g_law_rows := He.glo_ok X G (c.fact 24 (f := .glo "_law_rows") rfl)
  have g_law_sums := He.glo_ok X G (c.fact 25 (f := .glo "_law_sums") rfl)
  have g_law_dealt_out := He.glo_ok X G (c.fact 26 (f := .glo "_law_dealt_out") rfl)
  have g_law_fair := He.glo_ok X G (c.fact 27 (f := .glo "_law_fair") rfl)
  have g_law_cuts := He.glo_ok X G (c.fact 28 (f := .glo "_law_cuts") rfl)
  have g_law_cuts_fit := He.glo_ok X G (c.fact 29 (f := .glo "_law_cuts_fit") rfl)
  have g_law := He.glo_ok X G (c.fact 30 (f := .glo "law") rfl)
  have g_OffBank := He.glo_ok X G (c.fact 31 (f := .glo "OffBank") rfl)
  have n_sum := He.free_ok X G (c.fact 32 (f := .free "sum") rfl)
  have n_max := He.free_ok X G (c.fact 33 (f := .free "max") rfl)
  have n_min := He.free_ok X G (c.fact 34 (f := .free "min") rfl)
  have n_len := He.free_ok X G (c.fact 35 (f := .free "len") rfl)
  have n_isinstance := He.free_ok X G (c.fact 36 (f := .free "isinstance") rfl)
  have n_int := He.free_ok X G (c.fact 37 (f := .free "int") rfl)
  have n_bool := He.free_ok X G (c.fact 38 (f := .free "bool") rfl)
  have n_tuple := He.free_ok X G (c.fact 39 (f := .free "tuple") rfl)
  have n_list := He.free_ok X G (c.fact 40 (f := .free "list") rfl)
  have n_range := He.free_ok X G (c.fact 41 (f := .free "range") rfl)
  have n_sorted := He.free_ok X G (c.fact 42 (f := .free "sorted") rfl)
  obtain ⟨fd0, E0⟩ := c.def_ 0 (d := d_length) rfl
  have F0 := fun_of (st := s_length) E0
  have b0 := F0.binds (ps := ["bank"]) fun _ _ _ _ _ _ us hl => match us, hl with | [_], _ => rfl
  obtain ⟨fd1, E1⟩ := c.def_ 1 (d := d_ground_of) rfl
  have F1 := fun_of (st := s_ground_of) E1
  have b1 := F1.binds (ps := ["bank"]) fun _ _ _ _ _ _ us hl => match us, hl with | [_], _ => rfl
  obtain ⟨fd2, E2⟩ := c.def_ 2 (d := d_end_on) rfl
  have F2 := fun_of (st := s_end_on) E2
  have b2 := F2.binds (ps := ["bank", "start", "end"]) fun _ _ _ _ _ _ us hl => match us, hl with | [_, _, _], _ => rfl
  obtain ⟨fd3, F3⟩ := c.def_ 3 (d := d_cut_out) rfl
  obtain ⟨ds3_3, v3_3, b3_3⟩ := FunD.binds1 (ps := ["bank", "start", "end"]) F3 3 2 (by simp [He.DefD.dvs, d_cut_out]) rfl fun _ _ _ _ _ _ _ us its hu hi => match us, its, hu, hi with | [_, _, _], [_, _], _, _ => ⟨_, rfl, rfl⟩
  obtain ⟨fd4, F4⟩ := c.def_ 4 (d := d_between) rfl
  obtain ⟨ds4_3, v4_3, b4_3⟩ := FunD.binds1 (ps := ["bank", "start", "end"]) F4 3 2 (by simp [He.DefD.dvs, d_between]) rfl fun _ _ _ _ _ _ _ us its hu hi => match us, its, hu, hi with | [_, _, _], [_, _], _, _ => ⟨_, rfl, rfl⟩
  obtain ⟨fd5, E5⟩ := c.def_ 5 (d := d_all_pieces) rfl
  have F5 := fun_of (st := s_all_pieces) E5
  have b5 := F5.binds (ps := ["shares"]) fun _ _ _ _ _ _ us hl => match us, hl with | [_], _ => rfl
  obtain ⟨fd6, E6⟩ := c.def_ 6 (d := d_cuts) rfl
  have F6 := fun_of (st := s_cuts) E6
  have b6 := F6.binds (ps := ["bank", "shares"]) fun _ _ _ _ _ _ us hl => match us, hl with | [_, _], _ => rfl
  obtain ⟨fd7, E7⟩ := c.def_ 7 (d := d_in_order) rfl
  have F7 := fun_of (st := s_in_order) E7
  have b7 := F7.binds (ps := ["share", "whole"]) fun _ _ _ _ _ _ us hl => match us, hl with | [_, _], _ => rfl
  obtain ⟨fd8, E8⟩ := c.def_ 8 (d := d_end_to_end) rfl
  have F8 := fun_of (st := s_end_to_end) E8
  have b8 := F8.binds (ps := ["pieces", "whole"]) fun _ _ _ _ _ _ us hl => match us, hl with | [_, _], _ => rfl
  obtain ⟨fd9, E9⟩ := c.def_ 9 (d := d_ground_had) rfl
  have F9 := fun_of (st := s_ground_had) E9
  have b9 := F9.binds (ps := ["bank", "share"]) fun _ _ _ _ _ _ us hl => match us, hl with | [_, _], _ => rfl
  obtain ⟨fd10, E10⟩ := c.def_ 10 (d := d_fair) rfl
  have F10 := fun_of (st := s_fair) E10
  have b10 := F10.binds (ps := ["bank", "shares"]) fun _ _ _ _ _ _ us hl => match us, hl with | [_, _], _ => rfl
  obtain ⟨fd11, E11⟩ := c.def_ 11 (d := d_law_cell_at) rfl
  have F11 := fun_of (st := s_law_cell_at) E11
  have b11 := F11.binds (ps := ["_law_script", "_law_k"]) fun _ _ _ _ _ _ us hl => match us, hl with | [_, _], _ => rfl
  obtain ⟨fd12, E12⟩ := c.def_ 12 (d := d_law_whole) rfl
  have F12 := fun_of (st := s_law_whole) E12
  have b12 := F12.binds (ps := ["_law_found"]) fun _ _ _ _ _ _ us hl => match us, hl with | [_], _ => rfl
  obtain ⟨fd13, E13⟩ := c.def_ 13 (d := d_law_long) rfl
  have F13 := fun_of (st := s_law_long) E13
  have b13 := F13.binds (ps := ["_law_cell"]) fun _ _ _ _ _ _ us hl => match us, hl with | [_], _ => rfl
  obtain ⟨fd14, E14⟩ := c.def_ 14 (d := d_law_put) rfl
  have F14 := fun_of (st := s_law_put) E14
  have b14 := F14.binds (ps := ["_law_rows_here", "_law_ground", "_law_long_here"]) fun _ _ _ _ _ _ us hl => match us, hl with | [_, _, _], _ => rfl
  obtain ⟨fd15, E15⟩ := c.def_ 15 (d := d_law_joined) rfl
  have F15 := fun_of (st := s_law_joined) E15
  have b15 := F15.binds (ps := ["_law_share"]) fun _ _ _ _ _ _ us hl => match us, hl with | [_], _ => rfl
  obtain ⟨fd16, E16⟩ := c.def_ 16 (d := d_law_dealt) rfl
  have F16 := fun_of (st := s_law_dealt) E16
  have b16 := F16.binds (ps := ["_law_script", "_law_heirs"]) fun _ _ _ _ _ _ us hl => match us, hl with | [_, _], _ => rfl
  obtain ⟨fd17, E17⟩ := c.def_ 17 (d := d_law_moved_edge) rfl
  have F17 := fun_of (st := s_law_moved_edge) E17
  have b17 := F17.binds (ps := ["_law_shares", "_law_edge"]) fun _ _ _ _ _ _ us hl => match us, hl with | [_, _], _ => rfl
  obtain ⟨fd18, E18⟩ := c.def_ 18 (d := d_law_with_length) rfl
  have F18 := fun_of (st := s_law_with_length) E18
  have b18 := F18.binds (ps := ["_law_pieces"]) fun _ _ _ _ _ _ us hl => match us, hl with | [_], _ => rfl
  obtain ⟨fd19, E19⟩ := c.def_ 19 (d := d_law_begins_exchanged) rfl
  have F19 := fun_of (st := s_law_begins_exchanged) E19
  have b19 := F19.binds (ps := ["_law_shares", "_law_at", "_law_other", "_law_cell"]) fun _ _ _ _ _ _ us hl => match us, hl with | [_, _, _, _], _ => rfl
  obtain ⟨fd20, E20⟩ := c.def_ 20 (d := d_law_piece_spoilt) rfl
  have F20 := fun_of (st := s_law_piece_spoilt) E20
  have b20 := F20.binds (ps := ["_law_piece", "_law_way_here", "_law_cell"]) fun _ _ _ _ _ _ us hl => match us, hl with | [_, _, _], _ => rfl
  obtain ⟨fd21, E21⟩ := c.def_ 21 (d := d_law_given) rfl
  have F21 := fun_of (st := s_law_given) E21
  have b21 := F21.binds (ps := ["_law_made", "_law_at", "_law_other", "_law_way_here", "_law_k"]) fun _ _ _ _ _ _ us hl => match us, hl with | [_, _, _, _, _], _ => rfl
  obtain ⟨fd22, E22⟩ := c.def_ 22 (d := d_law_way) rfl
  have F22 := fun_of (st := s_law_way) E22
  have b22 := F22.binds (ps := ["_law_cell"]) fun _ _ _ _ _ _ us hl => match us, hl with | [_], _ => rfl
  obtain ⟨fd23, E23⟩ := c.def_ 23 (d := d_law_spoilt) rfl
  have F23 := fun_of (st := s_law_spoilt) E23
  have b23 := F23.binds (ps := ["_law_shares", "_law_size", "_law_script"]) fun _ _ _ _ _ _ us hl => match us, hl with | [_, _, _], _ => rfl
  obtain ⟨fd24, E24⟩ := c.def_ 24 (d := d_law_rows) rfl
  have F24 := fun_of (st := s_law_rows) E24
  have b24 := F24.binds (ps := ["_law_shares"]) fun _ _ _ _ _ _ us hl => match us, hl with | [_], _ => rfl
  obtain ⟨fd25, E25⟩ := c.def_ 25 (d := d_law_sums) rfl
  have F25 := fun_of (st := s_law_sums) E25
  have b25 := F25.binds (ps := ["_law_bank", "_law_rows_here", "_law_many"]) fun _ _ _ _ _ _ us hl => match us, hl with | [_, _, _], _ => rfl
  obtain ⟨fd26, E26⟩ := c.def_ 26 (d := d_law_dealt_out) rfl
  have F26 := fun_of (st := s_law_dealt_out) E26
  have b26 := F26.binds (ps := ["_law_bank", "_law_shares"]) fun _ _ _ _ _ _ us hl => match us, hl with | [_, _], _ => rfl
  obtain ⟨fd27, E27⟩ := c.def_ 27 (d := d_law_fair) rfl
  have F27 := fun_of (st := s_law_fair) E27
  have b27 := F27.binds (ps := ["_law_bank", "_law_shares"]) fun _ _ _ _ _ _ us hl => match us, hl with | [_, _], _ => rfl
  obtain ⟨fd28, E28⟩ := c.def_ 28 (d := d_law_cuts) rfl
  have F28 := fun_of (st := s_law_cuts) E28
  have b28 := F28.binds (ps := ["_law_bank", "_law_shares"]) fun _ _ _ _ _ _ us hl => match us, hl with | [_, _], _ => rfl
  obtain ⟨fd29, E29⟩ := c.def_ 29 (d := d_law_cuts_fit) rfl
  have F29 := fun_of (st := s_law_cuts_fit) E29
  have b29 := F29.binds (ps := ["_law_bank", "_law_shares"]) fun _ _ _ _ _ _ us hl => match us, hl with | [_, _], _ => rfl
  obtain ⟨fd30, E30⟩ := c.def_ 30 (d := d_law) rfl
  have F30 := fun_of (st := s_law) E30
  have e := hfa.symm.trans g_law
  cases e
  refine ⟨fd30, fun s v => (FunD.bindsA (ps := ["_law_script"]) E30 fun _ _ _ _ _ _ us hl => match us, hl with | [_], _ => rfl) s [v] rfl, fun base _ _ => ?_⟩
  let M : Nat → Mo := fun k => ⟨P, w, K, mg, base, k⟩
  have T : ∀ k, Nn (M k) := fun k => ⟨n_sum, n_max, n_min, n_len, n_isinstance, n_int, n_bool, n_tuple, n_list, n_range⟩
  have x0 : Exc0 (M 0) "OffBank" (He.ga K "OffBank") := exc0_of (M := M 0) X G (c.fact 43 (f := .exc "OffBank") rfl) g_OffBank
  have xs : ∀ k, Exc0 (M k) "OffBank" (He.ga K "OffBank") := fun k => ⟨x0.g, x0.q, x0.k, x0.b, x0.t⟩
  have G0 := ok_length (M := (M 0)) (T 0) F0
  have C_length : ∀ k, 1 ≤ k → Cal (M k) "length" (F_length) := fun k hk => Callee.mk' (M := M k) G0 hk g_length F0.kp b0
  have G1 := ok_ground_of (M := (M 1)) (T 1) (C_length 1 (by decide)) F1
  have C_ground_of : ∀ k, 2 ≤ k → Cal (M k) "ground_of" (F_ground_of) := fun k hk => Callee.mk' (M := M k) G1 hk g_ground_of F1.kp b1
  have G2 := ok_end_on (M := (M 2)) (C_length 2 (by decide)) (xs 2) F2
  have C_end_on : ∀ k, 3 ≤ k → Cal (M k) "end_on" (F_end_on (He.ga K "OffBank")) := fun k hk => Callee.mk' (M := M k) G2 hk g_end_on F2.kp b2
  have G3 := ok_cut_out (M := (M 3)) (T 3) (C_end_on 3 (by decide)) F3
  have C_cut_out : ∀ k, 4 ≤ k → Cal (M k) "cut_out" (F_cut_out (He.ga K "OffBank")) := fun k hk => by
    cases v3_3
    exact Callee.mk' (M := M k) G3 hk g_cut_out F3.kp b3_3
  have G4 := ok_between (M := (M 4)) (C_cut_out 4 (by decide)) (C_ground_of 4 (by decide)) F4
  have C_between : ∀ k, 5 ≤ k → Cal (M k) "between" (F_between (He.ga K "OffBank")) := fun k hk => by
    cases v4_3
    exact Callee.mk' (M := M k) G4 hk g_between F4.kp b4_3
  have G5 := ok_all_pieces (M := (M 5)) F5
  have C_all_pieces : ∀ k, 6 ≤ k → Cal (M k) "all_pieces" (F_allp) := fun k hk => Callee.mk' (M := M k) G5 hk g_all_pieces F5.kp b5
  have G6 := ok_cuts (M := (M 6)) n_sorted (C_length 6 (by decide)) (C_all_pieces 6 (by decide)) F6
  have C_cuts : ∀ k, 7 ≤ k → Cal (M k) "cuts" (F_cuts) := fun k hk => Callee.mk' (M := M k) G6 hk g_cuts F6.kp b6
  have G7 := ok_in_order (M := (M 7)) F7
  have C_in_order : ∀ k, 8 ≤ k → Cal (M k) "in_order" (F_ino) := fun k hk => Callee.mk' (M := M k) G7 hk g_in_order F7.kp b7
  have G8 := ok_end_to_end (M := (M 8)) n_sorted F8
  have C_end_to_end : ∀ k, 9 ≤ k → Cal (M k) "end_to_end" (F_e2e) := fun k hk => Callee.mk' (M := M k) G8 hk g_end_to_end F8.kp b8
  have G9 := ok_ground_had (M := (M 9)) (C_between 9 (by decide)) F9
  have C_ground_had : ∀ k, 10 ≤ k → Cal (M k) "ground_had" (F_had) := fun k hk => Callee.mk' (M := M k) G9 hk g_ground_had F9.kp b9
  have G10 := ok_fair (M := (M 10)) (C_length 10 (by decide)) (C_in_order 10 (by decide)) (C_end_to_end 10 (by decide)) (C_all_pieces 10 (by decide)) (C_ground_had 10 (by decide)) F10
  have C_fair : ∀ k, 11 ≤ k → Cal (M k) "fair" (F_fair) := fun k hk => Callee.mk' (M := M k) G10 hk g_fair F10.kp b10
  have G11 := ok_law_cell_at (M := (M 11)) (T 11) F11
  have C_law_cell_at : ∀ k, 12 ≤ k → Cal (M k) "_law_cell_at" (F_cell) := fun k hk => Callee.mk' (M := M k) G11 hk g_law_cell_at F11.kp b11
  have G12 := ok_law_whole (M := (M 12)) (T 12) F12
  have C_law_whole : ∀ k, 13 ≤ k → Cal (M k) "_law_whole" (F_whole) := fun k hk => Callee.mk' (M := M k) G12 hk g_law_whole F12.kp b12
  have G13 := ok_law_long (M := (M 13)) F13
  have C_law_long : ∀ k, 14 ≤ k → Cal (M k) "_law_long" (F_long7) := fun k hk => Callee.mk' (M := M k) G13 hk g_law_long F13.kp b13
  have G14 := ok_law_put (M := (M 14)) F14
  have C_law_put : ∀ k, 15 ≤ k → Cal (M k) "_law_put" (F_put) := fun k hk => Callee.mk' (M := M k) G14 hk g_law_put F14.kp b14
  have G15 := ok_law_joined (M := (M 15)) n_sorted F15
  have C_law_joined : ∀ k, 16 ≤ k → Cal (M k) "_law_joined" (F_join) := fun k hk => Callee.mk' (M := M k) G15 hk g_law_joined F15.kp b15
  have G16 := ok_law_dealt (M := (M 16)) (T 16) (C_law_cell_at 16 (by decide)) (C_law_long 16 (by decide)) (C_law_put 16 (by decide)) (C_law_joined 16 (by decide)) F16
  have C_law_dealt : ∀ k, 17 ≤ k → CalG (M k) "_law_dealt" F_dealt7 G_dealt7 := fun k hk => ⟨⟨_, _, _, G16.mono hk, g_law_dealt, F16.kp, b16⟩⟩
  have G17 := ok_law_moved_edge (M := (M 17)) (T 17) F17
  have C_law_moved_edge : ∀ k, 18 ≤ k → CalG (M k) "_law_moved_edge" F_edge (G_val 60) := fun k hk => ⟨⟨_, _, _, G17.mono hk, g_law_moved_edge, F17.kp, b17⟩⟩
  have G18 := ok_law_with_length (M := (M 18)) F18
  have C_law_with_length : ∀ k, 19 ≤ k → Cal (M k) "_law_with_length" (F_wl) := fun k hk => Callee.mk' (M := M k) G18 hk g_law_with_length F18.kp b18
  have G19 := ok_law_begins_exchanged (M := (M 19)) (T 19) (C_law_joined 19 (by decide)) (C_law_with_length 19 (by decide)) F19
  have C_law_begins_exchanged : ∀ k, 20 ≤ k → CalG (M k) "_law_begins_exchanged" F_bex (G_val 60) := fun k hk => ⟨⟨_, _, _, G19.mono hk, g_law_begins_exchanged, F19.kp, b19⟩⟩
  have G20 := ok_law_piece_spoilt (M := (M 20)) F20
  have C_law_piece_spoilt : ∀ k, 21 ≤ k → CalG (M k) "_law_piece_spoilt" F_psp G_psp := fun k hk => ⟨⟨_, _, _, G20.mono hk, g_law_piece_spoilt, F20.kp, b20⟩⟩
  have G21 := ok_law_given (M := (M 21)) (T 21) n_sorted (C_law_joined 21 (by decide)) F21
  have C_law_given : ∀ k, 22 ≤ k → CalK (M k) "_law_given" F_given G_given := fun k hk => ⟨⟨_, _, _, G21.mono hk, g_law_given, F21.kp, b21⟩⟩
  have G22 := ok_law_way (M := (M 22)) F22
  have C_law_way : ∀ k, 23 ≤ k → CalG (M k) "_law_way" F_way G_way := fun k hk => ⟨⟨_, _, _, G22.mono hk, g_law_way, F22.kp, b22⟩⟩
  have G23 := ok_law_spoilt (M := (M 23)) (T 23) n_sorted (C_law_cell_at 23 (by decide)) (C_law_way 23 (by decide)) (C_law_given 23 (by decide)) (C_law_moved_edge 23 (by decide)) (C_law_begins_exchanged 23 (by decide)) (C_law_piece_spoilt 23 (by decide)) F23
  have C_law_spoilt : ∀ k, 24 ≤ k → CalG (M k) "_law_spoilt" F_sp (G_val 60) := fun k hk => ⟨⟨_, _, _, G23.mono hk, g_law_spoilt, F23.kp, b23⟩⟩
  have G24 := ok_law_rows (M := (M 24)) (T 24) n_sorted F24
  have C_law_rows : ∀ k, 25 ≤ k → Cal (M k) "_law_rows" (F_rowsL) := fun k hk => Callee.mk' (M := M k) G24 hk g_law_rows F24.kp b24
  have G25 := ok_law_sums (M := (M 25)) (T 25) F25
  have C_law_sums : ∀ k, 26 ≤ k → Cal (M k) "_law_sums" (F_sumsL) := fun k hk => Callee.mk' (M := M k) G25 hk g_law_sums F25.kp b25
  have G26 := ok_law_dealt_out (M := (M 26)) (T 26) (C_law_rows 26 (by decide)) F26
  have C_law_dealt_out : ∀ k, 27 ≤ k → Cal (M k) "_law_dealt_out" (F_dout) := fun k hk => Callee.mk' (M := M k) G26 hk g_law_dealt_out F26.kp b26
  have G27 := ok_law_fair (M := (M 27)) (T 27) (C_law_dealt_out 27 (by decide)) (C_law_sums 27 (by decide)) (C_law_rows 27 (by decide)) F27
  have C_law_fair : ∀ k, 28 ≤ k → Cal (M k) "_law_fair" (F_lfair) := fun k hk => Callee.mk' (M := M k) G27 hk g_law_fair F27.kp b27
  have G28 := ok_law_cuts (M := (M 28)) (T 28) n_sorted F28
  have C_law_cuts : ∀ k, 29 ≤ k → Cal (M k) "_law_cuts" (F_lcuts) := fun k hk => Callee.mk' (M := M k) G28 hk g_law_cuts F28.kp b28
  have G29 := ok_law_cuts_fit (M := (M 29)) (T 29) (C_cuts 29 (by decide)) (C_law_whole 29 (by decide)) (C_law_cuts 29 (by decide)) F29
  have C_law_cuts_fit : ∀ k, 30 ≤ k → Cal (M k) "_law_cuts_fit" (F_lcfit) := fun k hk => Callee.mk' (M := M k) G29 hk g_law_cuts_fit F29.kp b29
  have G30 := ok_law (M := (M 30)) (T 30) (C_law_cell_at 30 (by decide)) (C_law_dealt 30 (by decide)) (C_law_spoilt 30 (by decide)) (C_law_fair 30 (by decide)) (C_fair 30 (by decide)) (C_law_cuts_fit 30 (by decide)) (C_law_dealt_out 30 (by decide)) F30
  exact G30
theorem law_all (ns : List Int) (h : ns.length ≤ 63) : F_law [.scr ns] (.ok (.val (.bl true))) := ⟨ns, rfl, h, rfl⟩
end BK
open PySem PySem.W PyProof.Rows in
set_option maxRecDepth 100000 in
set_option maxHeartbeats 0 in
theorem PySem.Challenge.cw_bankshare_k07_fair_looked_at_holds : PySem.Challenge.rw_bankshare_k07_fair_looked_at.Holds := by
  w_on; o_law; k_head; (case hw => w_witness2)
  k_fill
  refine L2.walk_of (l := PySem.Challenge.rw_bankshare_k07_fair_looked_at) (n := 63) (k := 31) (x := "_law_script") (CX := fun w => L2.CX (PySem.Challenge.rw_bankshare_k07_fair_looked_at).prog w) (sp := fun w => BK.spOf _ BK.F_law) rfl (by decide) rfl ⟨rfl, by decide, by decide⟩ (fun w h Y => PySem.W.kIn_of Y) ?F (fun _ _ a ns hl hO hS => BK.sp_law BK.law_all hl hO hS) (fun w H s e s' => BK.cx_none)
  case F =>
    intro w mg fa h KX G hmg
    exact BK.facts KX G hmg (by unfold He.SaysD; kernel_rfl) (by kernel_rfl)
