import PyProof.Rows.All
import Wide.All
import OpenK.AllK
import Wide.FinOn
import HandS.ForMost
import HandS.ForExc
import HandS.IsInst
import HandS.FStr
import HandS.Strs
import HandS.SortRule
import HandS.SortInts
import HandS.Style
import HandS.Walk
import HandS.Defaults
import HandS.ExcValue
import HandS.ExcField
import HandS.ExcInit
import HandS.Replace
import HandS.ExcIs
import HandS.Ends
import HandS.HeadHook1
import HandS.HeadHook2
import HandS.SetFor
import HandS.Set
import KE.KEqNest
import HandS.Text
import HandS.ReplaceLit
import PySem.Challenge.RW_bankshare_k08_texts
set_option Elab.async false
set_option linter.all false
set_option maxRecDepth 100000
/-! Part A: data of plain Lean, and how it lies in the heap. -/
namespace BK
open PySem PySem.Spec PyProof.Rows L2

/-! ## heaps -/
def Ex (H H' : Hp) : Prop := ∀ a o, H a = some o → H' a = some o
theorem Ex.refl (H : Hp) : Ex H H := fun _ _ h => h
theorem Ex.trans {H H1 H2 : Hp} (a : Ex H H1) (b : Ex H1 H2) : Ex H H2 := fun x o h => b x o (a x o h)
theorem Ex.new {H : Hp} {p : Addr} {o : HO} (h : H p = none) : Ex H (upd H p o) := fun a u e => by
  rw [upd_ne (ne_of_none e h)]; exact e
theorem Ex.mut {H H' : Hp} {p : Addr} {o : HO} (e : Ex H H') (h : H p = none) : Ex H (upd H' p o) := fun a u ha => by
  rw [upd_ne (ne_of_none ha h)]; exact e a u ha
theorem Ex.back {H H' : Hp} {p : Addr} (e : Ex H H') (h : H' p = none) : H p = none := by
  cases h1 : H p with
  | none => rfl
  | some o => rw [e p o h1] at h; cases h
theorem Ex.rd {H H' : Hp} {a : Addr} {u : HO} (e : Ex H H') (h : Rd H a u) : Rd H' a u := by
  rcases h with h | ⟨o, h⟩
  · exact .inl (e a _ h)
  · exact .inr ⟨o, e a _ h⟩
theorem Ex.sqL {K : PySem.W.Frag} {H H' : Hp} {a : Addr} {xs : List V} (e : Ex H H') (h : SqL K H a xs) : SqL K H' a xs := by
  rcases h with h | h
  · exact .inl (e.rd h)
  · exact .inr h

/-! ## data -/
abbrev Fld := Option (Str × V)
inductive D where
  | non | bl (b : Bool) | int (i : Int) | str (x : Str)
  | tup (ds : List D) | lst (ds : List D) | ktup (xs : List V)
  | scr (ns : List Int) | dic (kvs : List (Key × V)) | exc (C : Addr) (f : Fld)

/-- a caught exception that is held as a value -/
def ExT (cls : Value) (d : Option Addr) (a : Addr) : HO := .ext fun h => ∃ (oe : Obj) (vs : Array Value), h.get? a = some oe ∧ Zc cls d oe ∧ oe.data = .fields vs

/-- the script: locked, or an object of the written part -/
def Scr (K : PySem.W.Frag) (H : Hp) (a : Addr) (ns : List Int) : Prop :=
  (∃ o, H a = some (.frz o (.lst (ns.map V.int)))) ∨ SqL K (fun _ => none) a (ns.map V.int)
theorem none_sqL {K : PySem.W.Frag} {H : Hp} {a : Addr} {xs : List V} (h : SqL K (fun _ => none) a xs) : SqL K H a xs := by
  rcases h with (h | ⟨_, h⟩) | h
  · exact nomatch h
  · exact nomatch h
  · exact .inr h
theorem Scr.sqL {K : PySem.W.Frag} {H : Hp} {a : Addr} {ns : List Int} (h : Scr K H a ns) : SqL K H a (ns.map V.int) := by
  rcases h with ⟨o, h⟩ | h
  · exact .inl (.inr ⟨o, h⟩)
  · exact none_sqL h
theorem Scr.ex {K : PySem.W.Frag} {H H' : Hp} {a : Addr} {ns : List Int} (e : Ex H H') (h : Scr K H a ns) : Scr K H' a ns := by
  rcases h with ⟨o, h⟩ | h
  · exact .inl ⟨o, e _ _ h⟩
  · exact .inr h

/-! data at a value: O says which addresses are somebody's own (they may change) -/
mutual
inductive Rep (K : PySem.W.Frag) (H : Hp) (O : Addr → Prop) : V → D → Prop
  | non : Rep K H O .non .non
  | bl (b : Bool) : Rep K H O (.bl b) (.bl b)
  | int (i : Int) : Rep K H O (.int i) (.int i)
  | str (x : Str) : Rep K H O (.str x) (.str x)
  | tup {a : Addr} {vs : List V} {ds : List D} : H a = some (.tup vs) → Reps K H O vs ds → Rep K H O (.ref a) (.tup ds)
  | lst {a : Addr} {vs : List V} {ds : List D} : ¬ O a → H a = some (.lst vs) → Reps K H O vs ds → Rep K H O (.ref a) (.lst ds)
  | ktup {a : Addr} {xs : List V} : SqT K (fun _ => none) a xs → xs.all flatV = true → Rep K H O (.ref a) (.ktup xs)
  | scr {a : Addr} {ns : List Int} : Scr K H a ns → Rep K H O (.ref a) (.scr ns)
  | dic {a : Addr} {kvs : List (Key × V)} : ¬ O a → H a = some (.dK kvs) → Rep K H O (.ref a) (.dic kvs)
  | exc0 {a C : Addr} : H a = some (ExT (.ref C) none a) → Rep K H O (.ref a) (.exc C none)
  | exc1 {a C d : Addr} {n : Str} {v : V} : H a = some (ExT (.ref C) (some d) a) → H d = some (.xd [(n, v)]) → flatV v = true → Rep K H O (.ref a) (.exc C (some (n, v)))
inductive Reps (K : PySem.W.Frag) (H : Hp) (O : Addr → Prop) : List V → List D → Prop
  | nil : Reps K H O [] []
  | cons {v : V} {vs : List V} {d : D} {ds : List D} : Rep K H O v d → Reps K H O vs ds → Reps K H O (v :: vs) (d :: ds)
end

section
variable {K : PySem.W.Frag} {H H' : Hp} {O O' : Addr → Prop}
mutual
/-- the heap grows; what is new in O' was not there -/
theorem Rep.step (e : Ex H H') (ho : ∀ a, O' a → O a ∨ H a = none) : ∀ {v : V} {d : D}, Rep K H O v d → Rep K H' O' v d
  | _, _, .non => .non
  | _, _, .bl b => .bl b
  | _, _, .int i => .int i
  | _, _, .str x => .str x
  | _, _, .tup h r => .tup (e _ _ h) (Reps.step e ho r)
  | _, _, .lst n h r => .lst (fun z => (ho _ z).elim n fun q => by rw [h] at q; cases q) (e _ _ h) (Reps.step e ho r)
  | _, _, .ktup h f => .ktup h f
  | _, _, .scr h => .scr (h.ex e)
  | _, _, .dic n h => .dic (fun z => (ho _ z).elim n fun q => by rw [h] at q; cases q) (e _ _ h)
  | _, _, .exc0 h => .exc0 (e _ _ h)
  | _, _, .exc1 h g f => .exc1 (e _ _ h) (e _ _ g) f
theorem Reps.step (e : Ex H H') (ho : ∀ a, O' a → O a ∨ H a = none) : ∀ {vs : List V} {ds : List D}, Reps K H O vs ds → Reps K H' O' vs ds
  | _, _, .nil => .nil
  | _, _, .cons h r => .cons (Rep.step e ho h) (Reps.step e ho r)
end
theorem Rep.mono (e : Ex H H') {v : V} {d : D} (r : Rep K H O v d) : Rep K H' O v d := r.step e fun _ h => .inl h
theorem Reps.mono (e : Ex H H') {v : List V} {d : List D} (r : Reps K H O v d) : Reps K H' O v d := r.step e fun _ h => .inl h
theorem Rep.less (h : ∀ a, O' a → O a) {v : V} {d : D} (r : Rep K H O v d) : Rep K H O' v d := r.step (Ex.refl H) fun a q => .inl (h a q)
theorem Reps.less (h : ∀ a, O' a → O a) {v : List V} {d : List D} (r : Reps K H O v d) : Reps K H O' v d := r.step (Ex.refl H) fun a q => .inl (h a q)

/-- what may be changed in place -/
def Mb : Option HO → Prop
  | some (.lst _) => True
  | some (.dK _) => True
  | _ => False
mutual
/-- an object of ours changes -/
theorem Rep.write {l : Addr} {o : HO} (hl : O l) (hm : Mb (H l)) : ∀ {v : V} {d : D}, Rep K H O v d → Rep K (upd H l o) O v d
  | _, _, .non => .non
  | _, _, .bl b => .bl b
  | _, _, .int i => .int i
  | _, _, .str x => .str x
  | _, _, .tup h r => .tup (by rw [upd_ne (fun z => by subst z; rw [h] at hm; exact hm)]; exact h) (Reps.write hl hm r)
  | _, _, .lst n h r => .lst n (by rw [upd_ne (fun z => by subst z; exact n hl)]; exact h) (Reps.write hl hm r)
  | _, _, .ktup h f => .ktup h f
  | _, _, .scr h => .scr (by
      rcases h with ⟨ob, h⟩ | h
      · exact .inl ⟨ob, by rw [upd_ne (fun z => by subst z; rw [h] at hm; exact hm)]; exact h⟩
      · exact .inr h)
  | _, _, .dic n h => .dic n (by rw [upd_ne (fun z => by subst z; exact n hl)]; exact h)
  | _, _, .exc0 h => .exc0 (by rw [upd_ne (fun z => by subst z; rw [h] at hm; exact hm)]; exact h)
  | _, _, .exc1 h g f => .exc1 (by rw [upd_ne (fun z => by subst z; rw [h] at hm; exact hm)]; exact h) (by rw [upd_ne (fun z => by subst z; rw [g] at hm; exact hm)]; exact g) f
theorem Reps.write {l : Addr} {o : HO} (hl : O l) (hm : Mb (H l)) : ∀ {vs : List V} {ds : List D}, Reps K H O vs ds → Reps K (upd H l o) O vs ds
  | _, _, .nil => .nil
  | _, _, .cons h r => .cons (Rep.write hl hm h) (Reps.write hl hm r)
end

theorem Reps.length : ∀ {vs : List V} {ds : List D}, Reps K H O vs ds → vs.length = ds.length
  | _, _, .nil => rfl
  | _, _, .cons _ r => by rw [List.length_cons, List.length_cons, r.length]
theorem Reps.get : ∀ {vs : List V} {ds : List D} {i : Nat} {v : V}, Reps K H O vs ds → vs[i]? = some v → ∃ d, ds[i]? = some d ∧ Rep K H O v d
  | _, _, _, _, .nil, e => by simp at e
  | _, _, 0, _, .cons h _, e => by simp at e; subst e; exact ⟨_, rfl, h⟩
  | _, _, i + 1, _, .cons _ r, e => by
    obtain ⟨d, h1, h2⟩ := r.get (i := i) (by simpa using e)
    exact ⟨d, by simpa using h1, h2⟩
theorem Reps.getD : ∀ {vs : List V} {ds : List D} {i : Nat} {d : D}, Reps K H O vs ds → ds[i]? = some d → ∃ v, vs[i]? = some v ∧ Rep K H O v d
  | _, _, _, _, .nil, e => by simp at e
  | _, _, 0, _, .cons h _, e => by simp at e; subst e; exact ⟨_, rfl, h⟩
  | _, _, i + 1, _, .cons _ r, e => by
    obtain ⟨d, h1, h2⟩ := r.getD (i := i) (by simpa using e)
    exact ⟨d, by simpa using h1, h2⟩
theorem Reps.app : ∀ {vs ws : List V} {ds es : List D}, Reps K H O vs ds → Reps K H O ws es → Reps K H O (vs ++ ws) (ds ++ es)
  | _, _, _, _, .nil, s => s
  | _, _, _, _, .cons h r, s => .cons h (r.app s)
theorem Reps.one {v : V} {d : D} (h : Rep K H O v d) : Reps K H O [v] [d] := .cons h .nil
theorem Reps.take : ∀ {vs : List V} {ds : List D} (n : Nat), Reps K H O vs ds → Reps K H O (vs.take n) (ds.take n)
  | _, _, 0, _ => .nil
  | _, _, _ + 1, .nil => .nil
  | _, _, n + 1, .cons h r => .cons h (r.take n)
theorem Reps.drop : ∀ {vs : List V} {ds : List D} (n : Nat), Reps K H O vs ds → Reps K H O (vs.drop n) (ds.drop n)
  | _, _, 0, r => r
  | _, _, _ + 1, .nil => .nil
  | _, _, n + 1, .cons _ r => r.drop n
theorem Reps.set {v : V} {d : D} (h : Rep K H O v d) : ∀ {vs : List V} {ds : List D} (i : Nat), Reps K H O vs ds → Reps K H O (vs.set i v) (ds.set i d)
  | _, _, _, .nil => .nil
  | _, _, 0, .cons _ r => .cons h r
  | _, _, i + 1, .cons q r => .cons q (r.set h i)
theorem Reps.erase : ∀ {vs : List V} {ds : List D} (i : Nat), Reps K H O vs ds → Reps K H O (vs.eraseIdx i) (ds.eraseIdx i)
  | _, _, _, .nil => .nil
  | _, _, 0, .cons _ r => r
  | _, _, i + 1, .cons q r => .cons q (r.erase i)
theorem Reps.rev {vs : List V} {ds : List D} (h : Reps K H O vs ds) : Reps K H O vs.reverse ds.reverse := by
  induction vs generalizing ds with
  | nil => cases h; exact .nil
  | cons v vs ih => cases h with
    | cons h r => rw [List.reverse_cons, List.reverse_cons]; exact (ih r).app (.one h)
theorem Reps.ints : ∀ (ns : List Int), Reps K H O (ns.map V.int) (ns.map D.int)
  | [] => .nil
  | n :: r => .cons (.int n) (Reps.ints r)
theorem Reps.to_ints : ∀ {vs : List V} {ns : List Int}, Reps K H O vs (ns.map D.int) → vs = ns.map V.int
  | _, [], .nil => rfl
  | _, n :: ns, .cons h r => by
    cases h
    rw [r.to_ints]; rfl
theorem Reps.to_strs : ∀ {vs : List V} {ns : List Str}, Reps K H O vs (ns.map D.str) → vs = ns.map V.str
  | _, [], .nil => rfl
  | _, n :: ns, .cons h r => by
    cases h
    rw [r.to_strs]; rfl
theorem Reps.strs : ∀ (ns : List Str), Reps K H O (ns.map V.str) (ns.map D.str)
  | [] => .nil
  | n :: r => .cons (.str n) (Reps.strs r)

/-- data in which nothing can be changed: numbers, texts, tuples of such -/
inductive Flat : D → Prop
  | non : Flat .non
  | bl (b : Bool) : Flat (.bl b)
  | int (i : Int) : Flat (.int i)
  | str (x : Str) : Flat (.str x)
  | tup {ds : List D} : (∀ d ∈ ds, Flat d) → Flat (.tup ds)
  | ktup {xs : List V} : Flat (.ktup xs)
  | scr {ns : List Int} : Flat (.scr ns)
  | exc {C : Addr} {f : Fld} : Flat (.exc C f)
mutual
theorem Rep.flat : ∀ {v : V} {d : D}, Rep K H O v d → Flat d → Rep K H O' v d
  | _, _, .non, _ => .non
  | _, _, .bl b, _ => .bl b
  | _, _, .int i, _ => .int i
  | _, _, .str x, _ => .str x
  | _, _, .tup h r, f => .tup h (Reps.flat r (by cases f; assumption))
  | _, _, .lst n h r, f => by cases f
  | _, _, .ktup h f, _ => .ktup h f
  | _, _, .scr h, _ => .scr h
  | _, _, .dic n h, f => by cases f
  | _, _, .exc0 h, _ => .exc0 h
  | _, _, .exc1 h g f, _ => .exc1 h g f
theorem Reps.flat : ∀ {vs : List V} {ds : List D}, Reps K H O vs ds → (∀ d ∈ ds, Flat d) → Reps K H O' vs ds
  | _, _, .nil, _ => .nil
  | _, _, .cons h r, f => .cons (Rep.flat h (f _ List.mem_cons_self)) (Reps.flat r fun d q => f d (List.mem_cons_of_mem _ q))
end
end

/-! ## results -/
inductive R where
  | val (d : D) | rd (d : D) | own (ds : List D) | own2 (dss : List (List D)) | ownD (kvs : List (Key × V))
def R.toD : R → D
  | .val d => d
  | .rd d => d
  | .own ds => .lst ds
  | .own2 dss => .lst (dss.map .lst)
  | .ownD kvs => .dic kvs
/-- the lists at qs -/
inductive Own2 (K : PySem.W.Frag) (H : Hp) (O : Addr → Prop) : List Addr → List (List D) → Prop
  | nil : Own2 K H O [] []
  | cons {q : Addr} {qs : List Addr} {vs : List V} {ds : List D} {dss : List (List D)} : H q = some (.lst vs) → Reps K H O vs ds → Own2 K H O qs dss → Own2 K H O (q :: qs) (ds :: dss)
def Res (K : PySem.W.Frag) (O : Addr → Prop) (H H' : Hp) (v : V) : R → Prop
  | .val d => Rep K H' O v d
  | .rd d => Rep K H' (fun _ => False) v d
  | .own ds => ∃ p vs, v = .ref p ∧ H p = none ∧ H' p = some (.lst vs) ∧ Reps K H' (fun a => O a ∨ a = p) vs ds
  | .own2 dss => ∃ p qs, v = .ref p ∧ (∀ a ∈ p :: qs, H a = none) ∧ (p :: qs).Nodup ∧ H' p = some (.lst (qs.map V.ref)) ∧ Own2 K H' (fun a => O a ∨ a ∈ p :: qs) qs dss
  | .ownD kvs => ∃ p, v = .ref p ∧ H p = none ∧ H' p = some (.dK kvs)
section
variable {K : PySem.W.Frag} {H H1 H' H'' : Hp} {O O' : Addr → Prop} {v : V} {r : R}
theorem Own2.step {qs : List Addr} {dss : List (List D)} (h : Own2 K H O qs dss) (e : Ex H H') (ho : ∀ a, O' a → O a ∨ H a = none) : Own2 K H' O' qs dss := by
  induction h with
  | nil => exact .nil
  | cons h r _ ih => exact .cons (e _ _ h) (r.step e ho) ih
theorem Own2.mono {qs : List Addr} {dss : List (List D)} (h : Own2 K H O qs dss) (e : Ex H H') : Own2 K H' O qs dss := h.step e fun _ q => .inl q
theorem Own2.rd {qs : List Addr} {dss : List (List D)} (h : Own2 K H O qs dss) : Reps K H (fun _ => False) (qs.map V.ref) (dss.map D.lst) := by
  induction h with
  | nil => exact .nil
  | cons h r _ ih => exact .cons (.lst (fun z => z) h (r.less fun _ z => z.elim)) ih
theorem Own2.get {qs : List Addr} {dss : List (List D)} (h : Own2 K H O qs dss) : ∀ {i : Nat} {ds : List D}, dss[i]? = some ds → ∃ q vs, qs[i]? = some q ∧ H q = some (.lst vs) ∧ Reps K H O vs ds := by
  induction h with
  | nil => intro i ds e; simp at e
  | cons h r _ ih =>
    intro i ds e
    cases i with
    | zero => simp at e; subst e; exact ⟨_, _, rfl, h, r⟩
    | succ i => obtain ⟨q, vs, e1, e2⟩ := ih (i := i) (by simpa using e); exact ⟨q, vs, by simpa using e1, e2⟩
theorem Own2.there {qs : List Addr} {dss : List (List D)} (h : Own2 K H O qs dss) : ∀ q ∈ qs, ∃ vs, H q = some (.lst vs) := by
  induction h with
  | nil => intro q hq; cases hq
  | cons h r _ ih =>
    intro q hq
    rcases List.mem_cons.mp hq with rfl | hq
    · exact ⟨_, h⟩
    · exact ih q hq
theorem Own2.length {qs : List Addr} {dss : List (List D)} (h : Own2 K H O qs dss) : qs.length = dss.length := by
  induction h with
  | nil => rfl
  | cons h r _ ih => rw [List.length_cons, List.length_cons, ih]
theorem Own2.write {qs : List Addr} {dss : List (List D)} {l : Addr} {o : HO} (h : Own2 K H O qs dss) (hl : O l) (hm : Mb (H l)) (hn : l ∉ qs) : Own2 K (upd H l o) O qs dss := by
  induction h with
  | nil => exact .nil
  | cons h r _ ih =>
    refine .cons ?_ (r.write hl hm) (ih fun z => hn (List.mem_cons_of_mem _ z))
    rw [upd_ne (fun z => hn (by rw [← z]; exact List.mem_cons_self))]; exact h
theorem Res.toRd (h : Res K O H H' v r) : Rep K H' (fun _ => False) v r.toD := by
  cases r with
  | val d => exact h.less fun _ z => z.elim
  | rd d => exact h
  | own ds => obtain ⟨p, vs, rfl, _, h, r⟩ := h; exact .lst (fun z => z) h (r.less fun _ z => z.elim)
  | own2 dss => obtain ⟨p, qs, rfl, _, _, h, r⟩ := h; exact .lst (fun z => z) h r.rd
  | ownD kvs => obtain ⟨p, rfl, _, h⟩ := h; exact .dic (fun z => z) h
theorem Res.step (h : Res K O H H' v r) (e : Ex H' H'') (eb : Ex H1 H) (ho : ∀ a, O' a → O a) : Res K O' H1 H'' v r := by
  cases r with
  | val d => exact h.step e fun a q => .inl (ho a q)
  | rd d => exact h.mono e
  | own ds =>
    obtain ⟨p, vs, rfl, n, h, r⟩ := h
    exact ⟨p, vs, rfl, eb.back n, e _ _ h, r.step e fun a q => .inl (q.elim (fun z => .inl (ho a z)) .inr)⟩
  | own2 dss =>
    obtain ⟨p, qs, rfl, n, nd, h, r⟩ := h
    exact ⟨p, qs, rfl, fun a q => eb.back (n a q), nd, e _ _ h, r.step e fun a q => .inl (q.elim (fun z => .inl (ho a z)) .inr)⟩
  | ownD kvs => obtain ⟨p, rfl, n, h⟩ := h; exact ⟨p, rfl, eb.back n, e _ _ h⟩
theorem Res.mono (h : Res K O H H' v r) (e : Ex H' H'') : Res K O H H'' v r := h.step e (Ex.refl _) fun _ z => z
theorem Res.base (h : Res K O H H' v r) (e : Ex H1 H) : Res K O H1 H' v r := h.step (Ex.refl _) e fun _ z => z
/-- flat in the sense that it does not matter who owns what -/
def R.Flat : R → Prop
  | .val d => BK.Flat d
  | .rd d => True
  | .own ds => ∀ d ∈ ds, BK.Flat d
  | .own2 dss => ∀ ds ∈ dss, ∀ d ∈ ds, BK.Flat d
  | .ownD _ => True
theorem Own2.flat {qs : List Addr} {dss : List (List D)} (h : Own2 K H O qs dss) (f : ∀ ds ∈ dss, ∀ d ∈ ds, Flat d) : Own2 K H O' qs dss := by
  induction h with
  | nil => exact .nil
  | cons h r _ ih => exact .cons h (r.flat (f _ List.mem_cons_self)) (ih fun ds q => f ds (List.mem_cons_of_mem _ q))
theorem Res.flat (h : Res K O H H' v r) (f : r.Flat) : Res K O' H H' v r := by
  cases r with
  | val d => exact Rep.flat h f
  | rd d => exact h
  | own ds => obtain ⟨p, vs, rfl, n, h, r⟩ := h; exact ⟨p, vs, rfl, n, h, r.flat f⟩
  | own2 dss => obtain ⟨p, qs, rfl, n, nd, h, r⟩ := h; exact ⟨p, qs, rfl, n, nd, h, r.flat f⟩
  | ownD kvs => exact h
end

/-! ## the slots of a def -/
inductive Slot where
  | any | val (d : D) | own (ds : List D) | own2 (dss : List (List D)) | ownD (kvs : List (Key × V))
def SlotRep (K : PySem.W.Frag) (H : Hp) (O : Addr → Prop) (x : Option V) : Slot → List Addr → Prop
  | .any, f => f = []
  | .val d, f => f = [] ∧ ∃ v, x = some v ∧ Rep K H O v d
  | .own ds, f => ∃ l vs, x = some (.ref l) ∧ f = [l] ∧ H l = some (.lst vs) ∧ Reps K H O vs ds
  | .own2 dss, f => ∃ p qs, x = some (.ref p) ∧ f = p :: qs ∧ (p :: qs).Nodup ∧ H p = some (.lst (qs.map V.ref)) ∧ Own2 K H O qs dss
  | .ownD kvs, f => ∃ l, x = some (.ref l) ∧ f = [l] ∧ H l = some (.dK kvs)
def Ow (Oc : Addr → Prop) (fp : Nat → List Addr) : Addr → Prop := fun a => Oc a ∨ ∃ i, a ∈ fp i
structure Sat (K : PySem.W.Frag) (Oc : Addr → Prop) (H0 H : Hp) (σ : L2.St) (S : List Slot) (fp : Nat → List Addr) : Prop where
  len : S.length = σ.length
  slot : ∀ i s, S[i]? = some s → SlotRep K H (Ow Oc fp) (σ.getD i none) s (fp i)
  out : ∀ i, S.length ≤ i → fp i = []
  dis : ∀ i j a, a ∈ fp i → a ∈ fp j → i = j
  fr : ∀ i a, a ∈ fp i → H0 a = none
  ex : Ex H0 H

section
variable {K : PySem.W.Frag} {Oc Oc' O O' : Addr → Prop} {H0 H H' H'' : Hp} {σ : L2.St} {S : List Slot} {fp : Nat → List Addr} {x : Option V} {s : Slot} {f : List Addr} {v : V} {r : R}
theorem SlotRep.step (h : SlotRep K H O x s f) (e : Ex H H') (ho : ∀ a, O' a → O a ∨ H a = none) : SlotRep K H' O' x s f := by
  cases s with
  | any => exact h
  | val d => obtain ⟨hf, v, hx, r⟩ := h; exact ⟨hf, v, hx, r.step e ho⟩
  | own ds => obtain ⟨l, vs, hx, hf, h, r⟩ := h; exact ⟨l, vs, hx, hf, e _ _ h, r.step e ho⟩
  | own2 dss => obtain ⟨p, qs, hx, hf, nd, h, r⟩ := h; exact ⟨p, qs, hx, hf, nd, e _ _ h, r.step e ho⟩
  | ownD kvs => obtain ⟨l, hx, hf, h⟩ := h; exact ⟨l, hx, hf, e _ _ h⟩
/-- what is owned can be changed -/
theorem SlotRep.there (h : SlotRep K H O x s f) : ∀ a ∈ f, Mb (H a) := by
  intro a ha
  cases s with
  | any => rw [show f = [] from h] at ha; cases ha
  | val d => rw [show f = [] from h.1] at ha; cases ha
  | own ds => obtain ⟨l, vs, hx, hf, h, r⟩ := h; subst hf; rw [List.mem_singleton.mp ha, h]; trivial
  | own2 dss =>
    obtain ⟨p, qs, hx, hf, nd, h, r⟩ := h
    subst hf
    rcases List.mem_cons.mp ha with rfl | ha
    · rw [h]; trivial
    · obtain ⟨vs, e⟩ := r.there a ha; rw [e]; trivial
  | ownD kvs => obtain ⟨l, hx, hf, h⟩ := h; subst hf; rw [List.mem_singleton.mp ha, h]; trivial
theorem SlotRep.write {l : Addr} {o : HO} (h : SlotRep K H O x s f) (hl : O l) (hm : Mb (H l)) (hn : l ∉ f) : SlotRep K (upd H l o) O x s f := by
  cases s with
  | any => exact h
  | val d => obtain ⟨hf, v, hx, r⟩ := h; exact ⟨hf, v, hx, r.write hl hm⟩
  | own ds =>
    obtain ⟨p, vs, hx, hf, h, r⟩ := h
    exact ⟨p, vs, hx, hf, by rw [upd_ne (fun z => hn (by rw [hf, z]; exact List.mem_cons_self))]; exact h, r.write hl hm⟩
  | own2 dss =>
    obtain ⟨p, qs, hx, hf, nd, h, r⟩ := h
    refine ⟨p, qs, hx, hf, nd, ?_, r.write hl hm fun z => hn (by rw [hf]; exact List.mem_cons_of_mem _ z)⟩
    rw [upd_ne (fun z => hn (by rw [hf, z]; exact List.mem_cons_self))]; exact h
  | ownD kvs =>
    obtain ⟨p, hx, hf, h⟩ := h
    exact ⟨p, hx, hf, by rw [upd_ne (fun z => hn (by rw [hf, z]; exact List.mem_cons_self))]; exact h⟩
theorem Sat.there (h : Sat K Oc H0 H σ S fp) {i : Nat} {a : Addr} (ha : a ∈ fp i) : Mb (H a) := by
  by_cases hi : i < S.length
  · exact (h.slot i _ (List.getElem?_eq_getElem hi)).there a ha
  · rw [h.out i (Nat.le_of_not_lt hi)] at ha; cases ha
theorem Mb.ne {H : Hp} {a : Addr} (h : Mb (H a)) (n : H a = none) : False := by rw [n] at h; exact h
theorem Sat.mono (h : Sat K Oc H0 H σ S fp) (e : Ex H H') : Sat K Oc H0 H' σ S fp :=
  ⟨h.len, fun i s q => (h.slot i s q).step e fun _ z => .inl z, h.out, h.dis, h.fr, h.ex.trans e⟩
/-- more to be kept away from: what is not there yet -/
theorem Sat.avoid (h : Sat K Oc H0 H σ S fp) (ho : ∀ a, Oc' a → Oc a ∨ H a = none) : Sat K Oc' H0 H σ S fp :=
  ⟨h.len, fun i s q => (h.slot i s q).step (Ex.refl H) fun a z => by
    rcases z with z | z
    · exact (ho a z).imp .inl id
    · exact .inl (.inr z), h.out, h.dis, h.fr, h.ex⟩
theorem Sat.val (h : Sat K Oc H0 H σ S fp) {i : Nat} {d : D} (e : S[i]? = some (.val d)) : ∃ v, σ[i]? = some (some v) ∧ Rep K H (Ow Oc fp) v d := by
  obtain ⟨_, v, hv, r⟩ := h.slot i _ e
  refine ⟨v, ?_, r⟩
  have hl : i < σ.length := by rw [← h.len]; exact (List.getElem?_eq_some_iff.mp e).1
  rw [List.getD_eq_getElem?_getD, List.getElem?_eq_getElem hl] at hv
  rw [List.getElem?_eq_getElem hl]
  exact congrArg some hv
theorem Sat.own (h : Sat K Oc H0 H σ S fp) {i : Nat} {ds : List D} (e : S[i]? = some (.own ds)) : ∃ l vs, σ[i]? = some (some (.ref l)) ∧ fp i = [l] ∧ H l = some (.lst vs) ∧ Reps K H (Ow Oc fp) vs ds := by
  obtain ⟨l, vs, hv, hf, hl, r⟩ := h.slot i _ e
  refine ⟨l, vs, ?_, hf, hl, r⟩
  have hl : i < σ.length := by rw [← h.len]; exact (List.getElem?_eq_some_iff.mp e).1
  rw [List.getD_eq_getElem?_getD, List.getElem?_eq_getElem hl] at hv
  rw [List.getElem?_eq_getElem hl]
  exact congrArg some hv
theorem Sat.own2 (h : Sat K Oc H0 H σ S fp) {i : Nat} {dss : List (List D)} (e : S[i]? = some (.own2 dss)) : ∃ p qs, σ[i]? = some (some (.ref p)) ∧ fp i = p :: qs ∧ (p :: qs).Nodup ∧ H p = some (.lst (qs.map V.ref)) ∧ Own2 K H (Ow Oc fp) qs dss := by
  obtain ⟨l, qs, hv, hf, hl, r⟩ := h.slot i _ e
  refine ⟨l, qs, ?_, hf, hl, r⟩
  have hl : i < σ.length := by rw [← h.len]; exact (List.getElem?_eq_some_iff.mp e).1
  rw [List.getD_eq_getElem?_getD, List.getElem?_eq_getElem hl] at hv
  rw [List.getElem?_eq_getElem hl]
  exact congrArg some hv
theorem Sat.ownD (h : Sat K Oc H0 H σ S fp) {i : Nat} {kvs : List (Key × V)} (e : S[i]? = some (.ownD kvs)) : ∃ l, σ[i]? = some (some (.ref l)) ∧ fp i = [l] ∧ H l = some (.dK kvs) := by
  obtain ⟨l, hv, hf, hl⟩ := h.slot i _ e
  refine ⟨l, ?_, hf, hl⟩
  have hl : i < σ.length := by rw [← h.len]; exact (List.getElem?_eq_some_iff.mp e).1
  rw [List.getD_eq_getElem?_getD, List.getElem?_eq_getElem hl] at hv
  rw [List.getElem?_eq_getElem hl]
  exact congrArg some hv

/-- a slot's new footprint -/
def fset (fp : Nat → List Addr) (j : Nat) (f : List Addr) : Nat → List Addr := fun i => if i = j then f else fp i
theorem fset_same {j : Nat} : fset fp j f j = f := if_pos rfl
theorem fset_ne {i j : Nat} (h : i ≠ j) : fset fp j f i = fp i := if_neg h
theorem getD_set_same {σ : L2.St} {j : Nat} {x : Option V} (h : j < σ.length) : (σ.set j x).getD j none = x := by
  rw [List.getD_eq_getElem?_getD, List.getElem?_set_self h]; rfl
theorem getD_set_ne {σ : L2.St} {i j : Nat} {x : Option V} (h : j ≠ i) : (σ.set j x).getD i none = σ.getD i none := by
  rw [List.getD_eq_getElem?_getD, List.getElem?_set_ne h, ← List.getD_eq_getElem?_getD]
/-- slot j is written anew; f: its own objects, that no other slot has -/
theorem Sat.put (h : Sat K Oc H0 H σ S fp) {j : Nat} (hj : j < S.length) (x : Option V) (s : Slot) (f : List Addr)
    (hn : ∀ a ∈ f, H0 a = none) (hd : ∀ a ∈ f, ∀ i, i ≠ j → a ∉ fp i)
    (hs : SlotRep K H (Ow Oc (fset fp j f)) x s f)
    (hr : ∀ i s, i ≠ j → S[i]? = some s → SlotRep K H (Ow Oc (fset fp j f)) (σ.getD i none) s (fp i)) : Sat K Oc H0 H (σ.set j x) (S.set j s) (fset fp j f) where
  len := by rw [List.length_set, List.length_set]; exact h.len
  slot := fun i s' e => by
    by_cases hi : i = j
    · subst hi
      rw [List.getElem?_set_self hj] at e
      cases e
      rw [fset_same, getD_set_same (by rw [← h.len]; exact hj)]
      exact hs
    · rw [List.getElem?_set_ne (Ne.symm hi)] at e
      rw [fset_ne hi, getD_set_ne (Ne.symm hi)]
      exact hr i s' hi e
  out := fun i hi => by
    rw [List.length_set] at hi
    rw [fset_ne (fun z => by subst z; exact absurd hj (Nat.not_lt_of_le hi))]
    exact h.out i hi
  dis := fun i k a hi hk => by
    by_cases e : i = j
    · by_cases e2 : k = j
      · rw [e, e2]
      · subst e; rw [fset_same] at hi; rw [fset_ne e2] at hk; exact absurd hk (hd a hi k e2)
    · by_cases e2 : k = j
      · subst e2; rw [fset_same] at hk; rw [fset_ne e] at hi; exact absurd hi (hd a hk i e)
      · rw [fset_ne e] at hi; rw [fset_ne e2] at hk; exact h.dis i k a hi hk
  fr := fun i a hi => by
    by_cases e : i = j
    · subst e; rw [fset_same] at hi; exact hn a hi
    · rw [fset_ne e] at hi; exact h.fr i a hi
  ex := h.ex
/-- what a result is as a slot -/
def R.slot : R → Slot
  | .val d => .val d
  | .rd _ => .any
  | .own ds => .own ds
  | .own2 dss => .own2 dss
  | .ownD kvs => .ownD kvs
theorem Ow_fset {j : Nat} {f : List Addr} : ∀ a, Ow Oc (fset fp j f) a → Ow Oc fp a ∨ a ∈ f := by
  intro a z
  rcases z with z | ⟨i, z⟩
  · exact .inl (.inl z)
  · by_cases e : i = j
    · subst e; rw [fset_same] at z; exact .inr z
    · rw [fset_ne e] at z; exact .inl (.inr ⟨i, z⟩)
/-- a result goes into a slot -/
theorem Sat.set (h : Sat K Oc H0 H σ S fp) (e : Ex H H') (hv : Res K (Ow Oc fp) H H' v r) {j : Nat} (hj : j < S.length) : ∃ fp', Sat K Oc H0 H' (σ.set j (some v)) (S.set j r.slot) fp' := by
  have h' := h.mono e
  have fresh : ∀ {a : Addr}, H a = none → H0 a = none ∧ ∀ i, a ∉ fp i := fun {a} n => ⟨h.ex.back n, fun i z => (h.there z).ne n⟩
  have rest : ∀ (f : List Addr), (∀ a ∈ f, H a = none) → ∀ i s, i ≠ j → S[i]? = some s → SlotRep K H' (Ow Oc (fset fp j f)) (σ.getD i none) s (fp i) := fun f hf i s _ q =>
    (h.slot i s q).step e fun a z => (Ow_fset a z).imp id (hf a)
  cases r with
  | val d =>
    refine ⟨_, h'.put hj (some v) (.val d) [] (fun a z => by cases z) (fun a z => by cases z) ⟨rfl, v, rfl, hv.less fun a z => ?_⟩ (rest [] fun a z => by cases z)⟩
    exact (Ow_fset a z).elim id fun q => by cases q
  | rd d => exact ⟨_, h'.put hj (some v) .any [] (fun a z => by cases z) (fun a z => by cases z) rfl (rest [] fun a z => by cases z)⟩
  | own ds =>
    obtain ⟨p, vs, rfl, n, hp, r⟩ := hv
    have hf : ∀ a ∈ [p], H a = none := fun a z => by rw [List.mem_singleton.mp z]; exact n
    refine ⟨_, h'.put hj _ (.own ds) [p] (fun a z => (fresh (hf a z)).1) (fun a z i _ => (fresh (hf a z)).2 i) ⟨p, vs, rfl, rfl, hp, r.less fun a z => ?_⟩ (rest [p] hf)⟩
    exact (Ow_fset a z).imp id List.mem_singleton.mp
  | own2 dss =>
    obtain ⟨p, qs, rfl, n, nd, hp, r⟩ := hv
    refine ⟨_, h'.put hj _ (.own2 dss) (p :: qs) (fun a z => (fresh (n a z)).1) (fun a z i _ => (fresh (n a z)).2 i) ⟨p, qs, rfl, rfl, nd, hp, r.step (Ex.refl _) fun a z => .inl (Ow_fset a z)⟩ (rest _ n)⟩
  | ownD kvs =>
    obtain ⟨p, rfl, n, hp⟩ := hv
    have hf : ∀ a ∈ [p], H a = none := fun a z => by rw [List.mem_singleton.mp z]; exact n
    exact ⟨_, h'.put hj _ (.ownD kvs) [p] (fun a z => (fresh (hf a z)).1) (fun a z i _ => (fresh (hf a z)).2 i) ⟨p, rfl, rfl, hp⟩ (rest [p] hf)⟩
/-- a slot is forgotten -/
theorem Sat.forget (h : Sat K Oc H0 H σ S fp) {j : Nat} (hj : j < S.length) (x : Option V) : ∃ fp', Sat K Oc H0 H (σ.set j x) (S.set j .any) fp' ∧ ∀ a, Ow Oc fp' a → Ow Oc fp a := by
  refine ⟨_, h.put hj x .any [] (fun a z => by cases z) (fun a z => by cases z) rfl (fun i s _ q => (h.slot i s q).step (Ex.refl H) fun a z => .inl ((Ow_fset a z).elim id fun q => by cases q)), fun a z => (Ow_fset a z).elim id fun q => by cases q⟩
/-- an own list is changed -/
theorem Sat.write (h : Sat K Oc H0 H σ S fp) {j : Nat} {ds ds' : List D} {l : Addr} {vs' : List V} (hj : S[j]? = some (.own ds)) (hl : fp j = [l]) (hr : Reps K H (Ow Oc fp) vs' ds') :
    Sat K Oc H0 (upd H l (.lst vs')) σ (S.set j (.own ds')) fp := by
  obtain ⟨l', vs, hx, hf, hl', r⟩ := h.slot j _ hj
  rw [hl] at hf
  cases hf
  have ml : l ∈ fp j := by rw [hl]; exact List.mem_cons_self
  have ol : Ow Oc fp l := .inr ⟨j, ml⟩
  have hm := h.there ml
  refine ⟨by rw [List.length_set]; exact h.len, fun i s e => ?_, fun i hi => h.out i (by rw [List.length_set] at hi; exact hi), h.dis, h.fr, h.ex.mut (h.fr j l ml)⟩
  by_cases hi : i = j
  · subst hi
    rw [List.getElem?_set_self (List.getElem?_eq_some_iff.mp hj).1] at e
    cases e
    exact ⟨l, vs', hx, hl, upd_same, hr.write ol hm⟩
  · rw [List.getElem?_set_ne (Ne.symm hi)] at e
    exact (h.slot i s e).write ol hm fun z => hi (h.dis i j l z ml)
theorem Sat.writeD (h : Sat K Oc H0 H σ S fp) {j : Nat} {ds ds' : List (Key × V)} {l : Addr} (hj : S[j]? = some (.ownD ds)) (hl : fp j = [l]) :
    Sat K Oc H0 (upd H l (.dK ds')) σ (S.set j (.ownD ds')) fp := by
  obtain ⟨l', hx, hf, hl'⟩ := h.slot j _ hj
  rw [hl] at hf
  cases hf
  have ml : l ∈ fp j := by rw [hl]; exact List.mem_cons_self
  have ol : Ow Oc fp l := .inr ⟨j, ml⟩
  have hm := h.there ml
  refine ⟨by rw [List.length_set]; exact h.len, fun i s e => ?_, fun i hi => h.out i (by rw [List.length_set] at hi; exact hi), h.dis, h.fr, h.ex.mut (h.fr j l ml)⟩
  by_cases hi : i = j
  · subst hi
    rw [List.getElem?_set_self (List.getElem?_eq_some_iff.mp hj).1] at e
    cases e
    exact ⟨l, hx, hl, upd_same⟩
  · rw [List.getElem?_set_ne (Ne.symm hi)] at e
    exact (h.slot i s e).write ol hm fun z => hi (h.dis i j l z ml)
theorem Own2.write1 {qs : List Addr} {dss : List (List D)} (h : Own2 K H O qs dss) : ∀ {i : Nat} {q : Addr} {vs' : List V} {ds' : List D}, qs[i]? = some q → O q → qs.Nodup → Reps K H O vs' ds' →
    Own2 K (upd H q (.lst vs')) O qs (dss.set i ds') := by
  induction h with
  | nil => intro i q vs' ds' e; simp at e
  | @cons q0 qs vs ds dss h r t ih =>
    intro i q vs' ds' e oq nd hr
    obtain ⟨n1, n2⟩ := List.nodup_cons.mp nd
    cases i with
    | zero =>
      have e' : q0 = q := by simpa using e
      subst e'
      have hm : Mb (H q0) := by rw [h]; trivial
      exact .cons upd_same (hr.write oq hm) (t.write oq hm n1)
    | succ i =>
      have e' : qs[i]? = some q := by simpa using e
      have hq : q ∈ qs := List.mem_of_getElem? e'
      obtain ⟨w, hw⟩ := t.there q hq
      refine .cons ?_ (r.write oq (by rw [hw]; trivial)) (ih e' oq n2 hr)
      rw [upd_ne (fun z => n1 (by rw [z]; exact hq))]; exact h
/-- one of the lists of an own list of own lists is changed -/
theorem Sat.write2 (h : Sat K Oc H0 H σ S fp) {j i : Nat} {dss : List (List D)} {ds' : List D} {p q : Addr} {qs : List Addr} {vs' : List V} (hj : S[j]? = some (.own2 dss)) (hl : fp j = p :: qs) (hq : qs[i]? = some q) (hr : Reps K H (Ow Oc fp) vs' ds') :
    Sat K Oc H0 (upd H q (.lst vs')) σ (S.set j (.own2 (dss.set i ds'))) fp := by
  obtain ⟨p', qs', hx, hf, nd, hp, r⟩ := h.slot j _ hj
  rw [hl] at hf
  cases hf
  have mq : q ∈ qs := List.mem_of_getElem? hq
  have ml : q ∈ fp j := by rw [hl]; exact List.mem_cons_of_mem _ mq
  have ol : Ow Oc fp q := .inr ⟨j, ml⟩
  have hm := h.there ml
  obtain ⟨n1, n2⟩ := List.nodup_cons.mp nd
  refine ⟨by rw [List.length_set]; exact h.len, fun k s e => ?_, fun i hi => h.out i (by rw [List.length_set] at hi; exact hi), h.dis, h.fr, h.ex.mut (h.fr j q ml)⟩
  by_cases hi : k = j
  · subst hi
    rw [List.getElem?_set_self (List.getElem?_eq_some_iff.mp hj).1] at e
    cases e
    refine ⟨p, qs, hx, hl, nd, ?_, r.write1 hq ol n2 hr⟩
    rw [upd_ne (fun z => n1 (by rw [z]; exact mq))]; exact hp
  · rw [List.getElem?_set_ne (Ne.symm hi)] at e
    exact (h.slot k s e).write ol hm fun z => hi (h.dis k j q z ml)
/-- an own list is given up: from now on it is only read -/
theorem Sat.freeze (h : Sat K Oc H0 H σ S fp) (hoc : ∀ a, Oc a → ∀ i, a ∉ fp i) {j : Nat} {ds : List D} (hj : S[j]? = some (.own ds)) : ∃ fp', Sat K Oc H0 H σ (S.set j (.val (.lst ds))) fp' ∧ ∀ a, Ow Oc fp' a → Ow Oc fp a := by
  obtain ⟨l, vs, hx, hf, hl, r⟩ := h.slot j _ hj
  have hlt := (List.getElem?_eq_some_iff.mp hj).1
  have ml : l ∈ fp j := by rw [hf]; exact List.mem_cons_self
  have sub : ∀ a, Ow Oc (fset fp j []) a → Ow Oc fp a := fun a z => (Ow_fset a z).elim id fun q => by cases q
  have e : σ.set j (σ.getD j none) = σ := by
    apply List.ext_getElem?
    intro i
    by_cases hi : j = i
    · subst hi
      have hs : j < σ.length := by rw [← h.len]; exact hlt
      rw [List.getElem?_set_self hs, List.getD_eq_getElem?_getD, List.getElem?_eq_getElem hs]; rfl
    · rw [List.getElem?_set_ne hi]
  have g := h.put hlt (σ.getD j none) (.val (.lst ds)) [] (fun a z => by cases z) (fun a z => by cases z) ⟨rfl, .ref l, hx, .lst (fun z => ?_) hl (r.less sub)⟩ (fun i s _ q => (h.slot i s q).step (Ex.refl H) fun a z => .inl (sub a z))
  · rw [e] at g
    exact ⟨_, g, sub⟩
  · rcases z with z | ⟨i, z⟩
    · exact hoc l z j ml
    · by_cases e : i = j
      · subst e; rw [fset_same] at z; cases z
      · rw [fset_ne e] at z; exact e (h.dis i j l z ml)
end
end BK
/-! Part B: what an expression gives, a statement does, told by data. -/
namespace BK
open PySem PySem.Spec PyProof.Rows L2

/-- the module: what stands around every def -/
structure Mo where
  P : Program
  w : World
  K : PySem.W.Frag
  mg : Str → Option Value
  base : Heap
  k : Nat
/-- a body's (or a comprehension's) place -/
structure Ctx where
  M : Mo
  N : List Str
  sc : Scope
  top : Bool
structure Rst where
  A : Around
  s_0 : Shared
  H_0 : Hp
  env : Env
  outer : List Env
  stack : List Env
  ex : List Addr
  fn : Str → Bool
  calm : Bool
  pn : List (Addr × Obj)
  xe : Value → Shared → Prop
abbrev Ctx.x (C : Ctx) (r : Rst) : Cx := { prog := C.M.P, w := C.M.w, K := C.M.K, mg := C.M.mg, base := C.M.base, A := r.A, N := C.N, s_0 := r.s_0, H_0 := r.H_0, env := r.env, outer := r.outer, stack := r.stack, ex := r.ex, fn := r.fn, calm := r.calm, pn := r.pn, xe := r.xe }
structure Good (C : Ctx) (r : Rst) : Prop where
  sc : r.env.scope = C.sc
  calm : r.calm = true
  room : Room C.M.k r.A
  nd : C.N.Nodup
  fn : (∀ x, r.fn x = true) ∨ C.top = false
  stack : C.top = true → r.stack = r.env :: r.outer ∧ r.env.frame = some r.env.locals ∧ r.ex = [] ∧ PassesOwn (model C.M.P C.M.w) r.A r.env r.xe
structure Fam (C : Ctx) (W : WX) (r : Rst) : Prop where
  g : Good C r
  t : Takes (C.x r) W
abbrev no : Addr → Prop := fun _ => False

def tE (C : Ctx) (e : Expr) (W : WX) : TE := fun σ H Q => ∃ t, (∀ r, Fam C W r → PE (C.x r) e t) ∧ t σ H Q
def tT (C : Ctx) (e : Expr) (W : WX) : TT := fun σ H Q => ∃ t, (∀ r, Fam C W r → PT (C.x r) e t) ∧ t σ H Q
def tWd (C : Ctx) (e : Expr) (W : WX) : TT := fun σ H Q => ∃ t, (∀ r, Fam C W r → PW (C.x r) e t) ∧ t σ H Q
def tA (C : Ctx) (es : List Expr) (W : WX) : TA := fun σ H Q => ∃ t, (∀ r, Fam C W r → PA (C.x r) es t) ∧ t σ H Q
def tS (C : Ctx) (st : Stmt) (W : WX) : TS := fun D σ H => ∃ t, (∀ r, Fam C W r → PS (C.x r) st t) ∧ t D σ H
def tSs (C : Ctx) (sts : List Stmt) (W : WX) : TS := fun D σ H => ∃ t, (∀ r, Fam C W r → PSs (C.x r) sts t) ∧ t D σ H
def tGt (C : Ctx) (tg : Expr) (W : WX) : TG := fun v σ H Q => ∃ t, (∀ r, Fam C W r → PG (C.x r) tg t) ∧ t v σ H Q
def tIt (C : Ctx) (tg it : Expr) (W : WX) : TI := fun σ H R => ∃ t, (∀ r, Fam C W r → PI (C.x r) tg it t) ∧ t σ H R
def tTs (C : Ctx) (es : List Expr) (W : WX) : TT := fun σ H Q => ∃ t, (∀ r, Fam C W r → PTs (C.x r) es t) ∧ t σ H Q
section
variable {C : Ctx} {W : WX} {r : Rst} {e tg : Expr} {es : List Expr} {st : Stmt} {sts : List Stmt}
theorem pe_tE (f : Fam C W r) : PE (C.x r) e (tE C e W) := ⟨fun pins s σ H Q I ⟨t, p, q⟩ => (p r f).run pins s σ H Q I q⟩
theorem pt_tT (f : Fam C W r) : PT (C.x r) e (tT C e W) := ⟨fun pins s σ H Q I ⟨t, p, q⟩ => (p r f).run pins s σ H Q I q⟩
theorem pw_tW (f : Fam C W r) : PW (C.x r) e (tWd C e W) := ⟨fun whole pins s σ H Q I ⟨t, p, q⟩ => (p r f).run whole pins s σ H Q I q⟩
theorem pa_tA (f : Fam C W r) : PA (C.x r) es (tA C es W) := ⟨fun pos pins s σ H Q I ⟨t, p, q⟩ => (p r f).run pos pins s σ H Q I q⟩
theorem ps_tS (f : Fam C W r) : PS (C.x r) st (tS C st W) := ⟨fun pins s σ H D I ⟨t, p, q⟩ => (p r f).run pins s σ H D I q⟩
theorem pss_tSs (f : Fam C W r) : PSs (C.x r) sts (tSs C sts W) := ⟨fun pins s σ H D I ⟨t, p, q⟩ => (p r f).run pins s σ H D I q⟩
theorem pg_tG (f : Fam C W r) : PG (C.x r) tg (tGt C tg W) := ⟨fun pins s σ H v u Q I rv ⟨t, p, q⟩ => (p r f).run pins s σ H v u Q I rv q⟩
theorem pi_tI {it : Expr} (f : Fam C W r) : PI (C.x r) tg it (tIt C tg it W) := ⟨fun pins s σ H R I ⟨t, p, q⟩ => (p r f).run pins s σ H R I q⟩
theorem pts_tT (f : Fam C W r) : PTs (C.x r) es (tTs C es W) := ⟨fun pins s σ H Q I ⟨t, p, q⟩ => (p r f).run pins s σ H Q I q⟩
end

/-! ## what is given -/
structure Exc where
  C : Addr
  f : Fld
def ExR (H : Hp) (cls : Value) (d : Option Addr) (e : Exc) : Prop :=
  cls = .ref e.C ∧ ((e.f = none ∧ d = none) ∨ ∃ n v dd, e.f = some (n, v) ∧ d = some dd ∧ H dd = some (.xd [(n, v)]) ∧ flatV v = true)
abbrev Out := Except Exc R
def There (A : Addr → Prop) (H : Hp) : Prop := ∀ a, A a → H a ≠ none
theorem There.ex {A : Addr → Prop} {H H' : Hp} (h : There A H) (e : Ex H H') : There A H' := fun a q n => h a q (e.back n)
def Ev (K : PySem.W.Frag) (W : WX) (t : TE) (S : List Slot) (o : Out) : Prop :=
  ∀ Oc H0 H σ fp, There Oc H → Sat K Oc H0 H σ S fp → ∀ Q : VK,
    (∀ r v H', o = .ok r → Ex H H' → Res K (Ow Oc fp) H H' v r → Q v H') →
    (∀ e cls d H', o = .error e → Ex H H' → ExR H' cls d e → W cls d σ H') → t σ H Q
def lvl (b : Bool) (O : Addr → Prop) : Addr → Prop := if b then O else no
def EvL (K : PySem.W.Frag) (b : Bool) (t : TE) (S : List Slot) (d : D) : Prop :=
  ∀ Oc H0 H σ fp, There Oc H → Sat K Oc H0 H σ S fp → ∀ Q : VK, (∀ v H', Ex H H' → Rep K H' (lvl b (Ow Oc fp)) v d → Q v H') → t σ H Q
def EvA (K : PySem.W.Frag) (b : Bool) (t : TA) (S : List Slot) (ds : List D) : Prop :=
  ∀ Oc H0 H σ fp, There Oc H → Sat K Oc H0 H σ S fp → ∀ Q : List V → Hp → Prop, (∀ vs H', Ex H H' → Reps K H' (lvl b (Ow Oc fp)) vs ds → Q vs H') → t σ H Q
def EvT (K : PySem.W.Frag) (t : TT) (S : List Slot) (x : Bool) : Prop :=
  ∀ Oc H0 H σ fp, There Oc H → Sat K Oc H0 H σ S fp → ∀ Q : Bool → Hp → Prop, (∀ H', Ex H H' → Q x H') → t σ H Q
def DE (C : Ctx) (e : Expr) (S : List Slot) (o : Out) : Prop := ∀ W, Ev C.M.K W (tE C e W) S o
def DL (C : Ctx) (b : Bool) (e : Expr) (S : List Slot) (d : D) : Prop := ∀ W, EvL C.M.K b (tE C e W) S d
def DA (C : Ctx) (b : Bool) (es : List Expr) (S : List Slot) (ds : List D) : Prop := ∀ W, EvA C.M.K b (tA C es W) S ds
def DT (C : Ctx) (e : Expr) (S : List Slot) (x : Bool) : Prop := ∀ W, EvT C.M.K (tT C e W) S x
def DW (C : Ctx) (e : Expr) (S : List Slot) (x : Bool) : Prop := ∀ W, EvT C.M.K (tWd C e W) S x
def DTs (C : Ctx) (es : List Expr) (S : List Slot) (x : Bool) : Prop := ∀ W, EvT C.M.K (tTs C es W) S x

def R.fz : R → Option D
  | .val d => some d
  | .rd _ => none
  | .own ds => some (.lst ds)
  | .own2 dss => some (.lst (dss.map .lst))
  | .ownD kvs => some (.dic kvs)
section
variable {K : PySem.W.Frag} {Oc O : Addr → Prop} {H0 H H' : Hp} {σ : L2.St} {S : List Slot} {fp : Nat → List Addr} {v : V} {r : R} {d : D}
theorem Sat.thereO (h : Sat K Oc H0 H σ S fp) (t : There Oc H) : There (Ow Oc fp) H := fun a z n => by
  rcases z with z | ⟨i, z⟩
  · exact t a z n
  · exact (h.there z).ne n
theorem Own2.frz {qs : List Addr} {dss : List (List D)} {A : Addr → Prop} (h : Own2 K H O qs dss) (ha : ∀ a, A a → O a) (hn : ∀ q ∈ qs, ¬ A q) : Reps K H A (qs.map V.ref) (dss.map D.lst) := by
  induction h with
  | nil => exact .nil
  | cons h r _ ih => exact .cons (.lst (hn _ List.mem_cons_self) h (r.less ha)) (ih fun q hq => hn q (List.mem_cons_of_mem _ hq))
theorem Res.frz (h : Res K O H H' v r) (t : There O H) (e : r.fz = some d) : Rep K H' O v d := by
  cases r with
  | val x => cases e; exact h
  | rd x => cases e
  | own ds =>
    cases e
    obtain ⟨p, vs, rfl, n, h, r⟩ := h
    exact .lst (fun z => t p z n) h (r.less fun _ z => .inl z)
  | own2 dss =>
    cases e
    obtain ⟨p, qs, rfl, n, nd, h, r⟩ := h
    exact .lst (fun z => t p z (n p List.mem_cons_self)) h (r.frz (fun _ z => .inl z) fun q hq z => t q z (n q (List.mem_cons_of_mem _ hq)))
  | ownD kvs =>
    cases e
    obtain ⟨p, rfl, n, h⟩ := h
    exact .dic (fun z => t p z n) h
theorem lvl_t : lvl true O = O := rfl
theorem lvl_f : lvl false O = no := rfl
end

section
variable {C : Ctx} {S : List Slot} {e a b : Expr} {es rest : List Expr} {o : Out} {r : R} {d : D} {ds : List D} {lv : Bool} {pos : Pos} {x y : Bool}
theorem DE.mk (h : ∀ W, ∃ t, (∀ r, Fam C W r → PE (C.x r) e t) ∧ Ev C.M.K W t S o) : DE C e S o := fun W Oc H0 H σ fp hod sat Q hq hx => by
  obtain ⟨t, p, q⟩ := h W
  exact ⟨t, p, q Oc H0 H σ fp hod sat Q hq hx⟩
theorem DT.mk (h : ∀ W, ∃ t, (∀ r, Fam C W r → PT (C.x r) e t) ∧ EvT C.M.K t S x) : DT C e S x := fun W Oc H0 H σ fp hod sat Q hq => by
  obtain ⟨t, p, q⟩ := h W
  exact ⟨t, p, q Oc H0 H σ fp hod sat Q hq⟩
theorem DW.mk (h : ∀ W, ∃ t, (∀ r, Fam C W r → PW (C.x r) e t) ∧ EvT C.M.K t S x) : DW C e S x := fun W Oc H0 H σ fp hod sat Q hq => by
  obtain ⟨t, p, q⟩ := h W
  exact ⟨t, p, q Oc H0 H σ fp hod sat Q hq⟩
theorem DA.mk (h : ∀ W, ∃ t, (∀ r, Fam C W r → PA (C.x r) es t) ∧ EvA C.M.K lv t S ds) : DA C lv es S ds := fun W Oc H0 H σ fp hod sat Q hq => by
  obtain ⟨t, p, q⟩ := h W
  exact ⟨t, p, q Oc H0 H σ fp hod sat Q hq⟩
/-- read alone -/
theorem dl_rd (h : DE C e S (.ok r)) (ed : r.toD = d) : DL C false e S d := fun W Oc H0 H σ fp hod sat Q hq =>
  h W Oc H0 H σ fp hod sat Q (fun r' v H' er ex res => by cases er; subst ed; exact hq v H' ex res.toRd) (fun _ _ _ _ er => nomatch er)
/-- nobody's own -/
theorem dl_fz (h : DE C e S (.ok r)) (ed : r.fz = some d) : DL C true e S d := fun W Oc H0 H σ fp hod sat Q hq =>
  h W Oc H0 H σ fp hod sat Q (fun r' v H' er ex res => by cases er; exact hq v H' ex (res.frz (sat.thereO hod) ed)) (fun _ _ _ _ er => nomatch er)
theorem de_dl (h : DL C true e S d) : DE C e S (.ok (.val d)) := fun W Oc H0 H σ fp hod sat Q hq hx =>
  h W Oc H0 H σ fp hod sat Q fun v H' ex rep => hq _ v H' rfl ex rep
theorem de_rd (h : DL C false e S d) : DE C e S (.ok (.rd d)) := fun W Oc H0 H σ fp hod sat Q hq hx =>
  h W Oc H0 H σ fp hod sat Q fun v H' ex rep => hq _ v H' rfl ex rep
theorem dl_flat (h : DL C false e S d) (f : Flat d) : DL C lv e S d := fun W Oc H0 H σ fp hod sat Q hq =>
  h W Oc H0 H σ fp hod sat Q fun v H' ex rep => hq v H' ex (rep.flat f)
theorem de_flat (h : DE C e S (.ok (.rd d))) (f : Flat d) : DE C e S (.ok (.val d)) := de_dl (dl_flat (dl_rd h rfl) f)
/-- an int, a text, ..: at either level -/
theorem dl_val (h : DE C e S (.ok (.val d))) : DL C lv e S d := by
  cases lv with
  | true => exact dl_fz h rfl
  | false => exact dl_rd h rfl

/-! ### names, constants -/
def GlC (C : Ctx) (x : Str) : Prop := C.sc.names.lookup x = some .globalImplicit
theorem GlC.gl {x : Str} (h : GlC C x) {r : Rst} (g : Good C r) : Gl (C.x r) x := by
  show r.env.scope.names.lookup x = _
  rw [g.sc]; exact h
theorem vis_of {x : Str} (h : Vis C.sc x) {r : Rst} (g : Good C r) : Vis (C.x r).env.scope x := by
  show Vis r.env.scope x
  rw [g.sc]; exact h
theorem de_var (i : Nat) {x : Str} (hS : S[i]? = some (.val d)) (hN : C.N[i]? = some x) (hv : Vis C.sc x) (hd : (x == ("__debug__" : Str)) = false) (hcd : (x == ("__classdict__" : Str)) = false) : DE C (.Name x pos) S (.ok (.val d)) :=
  .mk fun W => ⟨tVar i, fun r f => pe_var hN (vis_of hv f.g) hd hcd, fun Oc H0 H σ fp hod sat Q hq hx => by
    obtain ⟨v, e, rep⟩ := sat.val hS
    exact ⟨v, e, hq _ v H rfl (Ex.refl H) rep⟩⟩
theorem de_varO (i : Nat) {x : Str} (hS : S[i]? = some (.own ds)) (hN : C.N[i]? = some x) (hv : Vis C.sc x) (hd : (x == ("__debug__" : Str)) = false) (hcd : (x == ("__classdict__" : Str)) = false) : DE C (.Name x pos) S (.ok (.rd (.lst ds))) :=
  .mk fun W => ⟨tVar i, fun r f => pe_var hN (vis_of hv f.g) hd hcd, fun Oc H0 H σ fp hod sat Q hq hx => by
    obtain ⟨l, vs, e, _, hl, rep⟩ := sat.own hS
    exact ⟨_, e, hq _ _ H rfl (Ex.refl H) (.lst (fun z => z) hl (rep.less fun _ z => z.elim))⟩⟩
theorem de_varO2 (i : Nat) {x : Str} {dss : List (List D)} (hS : S[i]? = some (.own2 dss)) (hN : C.N[i]? = some x) (hv : Vis C.sc x) (hd : (x == ("__debug__" : Str)) = false) (hcd : (x == ("__classdict__" : Str)) = false) : DE C (.Name x pos) S (.ok (.rd (.lst (dss.map .lst)))) :=
  .mk fun W => ⟨tVar i, fun r f => pe_var hN (vis_of hv f.g) hd hcd, fun Oc H0 H σ fp hod sat Q hq hx => by
    obtain ⟨l, qs, e, _, _, hl, rep⟩ := sat.own2 hS
    exact ⟨_, e, hq _ _ H rfl (Ex.refl H) (.lst (fun z => z) hl rep.rd)⟩⟩
theorem de_varD (i : Nat) {x : Str} {kvs : List (Key × V)} (hS : S[i]? = some (.ownD kvs)) (hN : C.N[i]? = some x) (hv : Vis C.sc x) (hd : (x == ("__debug__" : Str)) = false) (hcd : (x == ("__classdict__" : Str)) = false) : DE C (.Name x pos) S (.ok (.rd (.dic kvs))) :=
  .mk fun W => ⟨tVar i, fun r f => pe_var hN (vis_of hv f.g) hd hcd, fun Oc H0 H σ fp hod sat Q hq hx => by
    obtain ⟨l, e, _, hl⟩ := sat.ownD hS
    exact ⟨_, e, hq _ _ H rfl (Ex.refl H) (.dic (fun z => z) hl)⟩⟩
theorem de_const {v : V} (hp : ∀ r : Rst, Good C r → PE (C.x r) e (tC v)) (hr : ∀ H O, Rep C.M.K H O v d) : DE C e S (.ok (.val d)) :=
  .mk fun W => ⟨tC v, fun r f => hp r f.g, fun Oc H0 H σ fp hod sat Q hq hx => hq _ v H rfl (Ex.refl H) (hr H _)⟩
theorem de_int {i : Int} {j : Nat} : DE C (.Constant (.int i) j pos) S (.ok (.val (.int i))) := de_const (fun _ _ => pe_int) fun _ _ => .int i
theorem de_bl {i : Bool} {j : Nat} : DE C (.Constant (.bool i) j pos) S (.ok (.val (.bl i))) := de_const (fun _ _ => pe_bl) fun _ _ => .bl i
theorem de_non {j : Nat} : DE C (.Constant .none j pos) S (.ok (.val .non)) := de_const (fun _ _ => pe_non) fun _ _ => .non
theorem de_str {i : Str} {j : Nat} : DE C (.Constant (.str i) j pos) S (.ok (.val (.str i))) := de_const (fun _ _ => pe_str) fun _ _ => .str i
/-- a tuple of the module -/
theorem de_glob {x : Str} {xs : List V} {ad : Addr} (hg : GlC C x) (hm : C.M.mg x = some (.ref ad)) (hs : SqT C.M.K (fun _ => none) ad xs) (hf : xs.all flatV = true) (hd : (x == ("__debug__" : Str)) = false) : DE C (.Name x pos) S (.ok (.val (.ktup xs))) :=
  de_const (v := .ref ad) (fun r g => pe_glob (hg.gl g) hm rfl hd) fun _ _ => .ktup hs hf
theorem de_globI {x : Str} {i : Int} {t : Tok} (hg : GlC C x) (hm : C.M.mg x = some (.int i t)) (hd : (x == ("__debug__" : Str)) = false) : DE C (.Name x pos) S (.ok (.val (.int i))) :=
  de_const (v := .int i) (fun r g => pe_glob (hg.gl g) hm ⟨t, rfl⟩ hd) fun _ _ => .int i
theorem de_globS {x : Str} {i : Str} {t : Tok} (hg : GlC C x) (hm : C.M.mg x = some (.str i t)) (hd : (x == ("__debug__" : Str)) = false) : DE C (.Name x pos) S (.ok (.val (.str i))) :=
  de_const (v := .str i) (fun r g => pe_glob (hg.gl g) hm ⟨t, rfl⟩ hd) fun _ _ => .str i

/-! ### arguments -/
theorem da_nil : DA C lv [] S [] := .mk fun W => ⟨tNil, fun _ _ => pa_nil, fun Oc H0 H σ fp hod sat Q hq => hq [] H (Ex.refl H) .nil⟩
theorem da_cons (ha : DL C lv e S d) (hr : DA C lv es S ds) (hs : ∀ env, starEach (e :: es) env = (false, eval e env) :: starEach es env := by intro _; rfl) : DA C lv (e :: es) S (d :: ds) :=
  .mk fun W => ⟨tCons (tE C e W) (tA C es W), fun r f => pa_cons (pe_tE f) (pa_tA f) (hs _), fun Oc H0 H σ fp hod sat Q hq =>
    ha W Oc H0 H σ fp hod sat _ fun v H1 e1 rep => hr W Oc H0 H1 σ fp (hod.ex e1) (sat.mono e1) _ fun vs H2 e2 reps => hq _ H2 (e1.trans e2) (.cons (rep.mono e2) reps)⟩

/-! ### operators -/
def Op2 (K : PySem.W.Frag) (r2 : R2) (da db : D) (r : R) : Prop := ∀ (A : Addr → Prop) (H : Hp) (x y : V) (Q : VK), There A H → Rep K H A x da → Rep K H A y db → (∀ v H', Ex H H' → Res K A H H' v r → Q v H') → r2 x y H Q
theorem There.no {H : Hp} : There no H := fun _ z => z.elim
theorem There.lvl {O : Addr → Prop} {H : Hp} (h : There O H) : There (lvl lv O) H := by
  cases lv with
  | true => exact h
  | false => exact There.no
theorem Res.unlvl {K : PySem.W.Frag} {O : Addr → Prop} {H H' : Hp} {v : V} (h : Res K (lvl lv O) H H' v r) (hf : lv = true ∨ r.Flat) : Res K O H H' v r := by
  cases lv with
  | true => exact h
  | false => exact h.flat (hf.resolve_left (by decide))
theorem ev_op2 {W : WX} {r2 : R2} {da db : D} (ha : DL C lv a S da) (hb : DL C lv b S db) (h2 : Op2 C.M.K r2 da db r) (hf : lv = true ∨ r.Flat) : Ev C.M.K W (tOp r2 (tE C a W) (tE C b W)) S (.ok r) :=
  fun Oc H0 H σ fp hod sat Q hq hx => ha W Oc H0 H σ fp hod sat _ fun x H1 e1 rx => hb W Oc H0 H1 σ fp (hod.ex e1) (sat.mono e1) _ fun y H2 e2 ry =>
    h2 _ H2 x y Q ((((sat.thereO hod).ex e1).ex e2).lvl) (rx.mono e2) ry fun v H3 e3 res => hq _ v H3 rfl ((e1.trans e2).trans e3) ((res.unlvl hf).base (e1.trans e2))
theorem de_op {op : Operator} {r2 : R2} {da db : D} (ho : ∀ r : Rst, Good C r → OpR (C.x r) (binaryOp op) r2) (ha : DL C lv a S da) (hb : DL C lv b S db) (h2 : Op2 C.M.K r2 da db r) (hf : lv = true ∨ r.Flat) :
    DE C (.BinOp a op b pos) S (.ok r) := .mk fun W => ⟨_, fun r f => pe_op (ho r f.g) (pe_tE f) (pe_tE f), ev_op2 ha hb h2 hf⟩
theorem de_cmp {op : CmpOp} {r2 : R2} {da db : D} (ho : ∀ r : Rst, Good C r → OpR (C.x r) (compareOp op) r2) (hm : behindInMarks op b = false) (ha : DL C lv a S da) (hb : DL C lv b S db) (h2 : Op2 C.M.K r2 da db r) (hf : lv = true ∨ r.Flat) :
    DE C (.Compare a [op] [b] pos) S (.ok r) := .mk fun W => ⟨_, fun r f => pe_cmpR (ho r f.g) (pe_tE f) (pe_tE f) hm, ev_op2 ha hb h2 hf⟩
theorem dt_cmp {op : CmpOp} {r2 : R2} {da db : D} (ho : ∀ r : Rst, Good C r → OpR (C.x r) (compareOp op) r2) (hm : behindInMarks op b = false) (ha : DL C lv a S da) (hb : DL C lv b S db) (h2 : Op2 C.M.K r2 da db (.val (.bl x))) :
    DT C (.Compare a [op] [b] pos) S x := .mk fun W => ⟨_, fun r f => pt_cmpR (ho r f.g) (pe_tE f) (pe_tE f) hm, fun Oc H0 H σ fp hod sat Q hq =>
      ev_op2 (lv := lv) (r := .val (.bl x)) (W := W) ha hb h2 (.inr (.bl x)) Oc H0 H σ fp hod sat _ (fun r v H' er ex res => by cases er; cases res; exact ⟨x, rfl, hq H' ex⟩) (fun _ _ _ _ er => nomatch er)⟩
theorem op2_I0 {K : PySem.W.Frag} {g : Int → Int → V} {i j : Int} {d : D} (h : ∀ H O, Rep K H O (g i j) d) : Op2 K (rI0 g) (.int i) (.int j) (.val d) := fun A H x y Q _ rx ry hq => by
  cases rx; cases ry; exact ⟨i, j, rfl, rfl, hq _ H (Ex.refl H) (h H A)⟩
theorem op2_I {K : PySem.W.Frag} {cd : Int → Int → Prop} {g : Int → Int → V} {i j : Int} {d : D} (hc : cd i j) (h : ∀ H O, Rep K H O (g i j) d) : Op2 K (rI cd g) (.int i) (.int j) (.val d) := fun A H x y Q _ rx ry hq => by
  cases rx; cases ry; exact ⟨i, j, rfl, rfl, hc, hq _ H (Ex.refl H) (h H A)⟩
section
variable {i j : Int}
abbrev DI (C : Ctx) (e : Expr) (S : List Slot) (i : Int) : Prop := DE C e S (.ok (.val (.int i)))
abbrev DB (C : Ctx) (e : Expr) (S : List Slot) (x : Bool) : Prop := DE C e S (.ok (.val (.bl x)))
theorem de_add (ha : DI C a S i) (hb : DI C b S j) : DI C (.BinOp a .Add b pos) S (i + j) := de_op (lv := false) (fun _ _ => op_add) (dl_val ha) (dl_val hb) (op2_I0 fun _ _ => .int _) (.inr (.int _))
theorem de_sub (ha : DI C a S i) (hb : DI C b S j) : DI C (.BinOp a .Sub b pos) S (i - j) := de_op (lv := false) (fun _ _ => op_sub) (dl_val ha) (dl_val hb) (op2_I0 fun _ _ => .int _) (.inr (.int _))
theorem de_mul (ha : DI C a S i) (hb : DI C b S j) (hc : CMul i j) : DI C (.BinOp a .Mult b pos) S (i * j) := de_op (lv := false) (fun _ _ => op_mul) (dl_val ha) (dl_val hb) (op2_I hc fun _ _ => .int _) (.inr (.int _))
theorem de_fdiv (ha : DI C a S i) (hb : DI C b S j) (hc : 0 < j ∧ j < 1073741824) : DI C (.BinOp a .FloorDiv b pos) S (i / j) := de_op (lv := false) (fun _ _ => op_fdiv) (dl_val ha) (dl_val hb) (op2_I hc fun _ _ => .int _) (.inr (.int _))
theorem de_mod (ha : DI C a S i) (hb : DI C b S j) (hc : 0 < j) : DI C (.BinOp a .Mod b pos) S (i % j) := de_op (lv := false) (fun _ _ => op_mod) (dl_val ha) (dl_val hb) (op2_I hc fun _ _ => .int _) (.inr (.int _))
theorem de_pow (ha : DI C a S i) (hb : DI C b S j) (hc : 0 ≤ j ∧ j ≤ 1000000 ∧ i.natAbs < 2 ^ 64) : DI C (.BinOp a .Pow b pos) S (i ^ j.toNat) := de_op (lv := false) (fun _ _ => op_pow) (dl_val ha) (dl_val hb) (op2_I hc fun _ _ => .int _) (.inr (.int _))
theorem de_lt (ha : DI C a S i) (hb : DI C b S j) : DB C (.Compare a [.Lt] [b] pos) S (decide (i < j)) := de_cmp (lv := false) (fun _ _ => op_lt) (nomark _) (dl_val ha) (dl_val hb) (op2_I0 fun _ _ => .bl _) (.inr (.bl _))
theorem de_le (ha : DI C a S i) (hb : DI C b S j) : DB C (.Compare a [.LtE] [b] pos) S (decide (i ≤ j)) := de_cmp (lv := false) (fun _ _ => op_le) (nomark _) (dl_val ha) (dl_val hb) (op2_I0 fun _ _ => .bl _) (.inr (.bl _))
theorem de_gt (ha : DI C a S i) (hb : DI C b S j) : DB C (.Compare a [.Gt] [b] pos) S (decide (j < i)) := de_cmp (lv := false) (fun _ _ => op_gt) (nomark _) (dl_val ha) (dl_val hb) (op2_I0 fun _ _ => .bl _) (.inr (.bl _))
theorem de_ge (ha : DI C a S i) (hb : DI C b S j) : DB C (.Compare a [.GtE] [b] pos) S (decide (j ≤ i)) := de_cmp (lv := false) (fun _ _ => op_ge) (nomark _) (dl_val ha) (dl_val hb) (op2_I0 fun _ _ => .bl _) (.inr (.bl _))
theorem dt_lt (ha : DI C a S i) (hb : DI C b S j) : DT C (.Compare a [.Lt] [b] pos) S (decide (i < j)) := dt_cmp (lv := false) (fun _ _ => op_lt) (nomark _) (dl_val ha) (dl_val hb) (op2_I0 fun _ _ => .bl _)
theorem dt_le (ha : DI C a S i) (hb : DI C b S j) : DT C (.Compare a [.LtE] [b] pos) S (decide (i ≤ j)) := dt_cmp (lv := false) (fun _ _ => op_le) (nomark _) (dl_val ha) (dl_val hb) (op2_I0 fun _ _ => .bl _)
theorem dt_gt (ha : DI C a S i) (hb : DI C b S j) : DT C (.Compare a [.Gt] [b] pos) S (decide (j < i)) := dt_cmp (lv := false) (fun _ _ => op_gt) (nomark _) (dl_val ha) (dl_val hb) (op2_I0 fun _ _ => .bl _)
theorem dt_ge (ha : DI C a S i) (hb : DI C b S j) : DT C (.Compare a [.GtE] [b] pos) S (decide (j ≤ i)) := dt_cmp (lv := false) (fun _ _ => op_ge) (nomark _) (dl_val ha) (dl_val hb) (op2_I0 fun _ _ => .bl _)
end
/-- == of numbers, texts, truths -/
def D.sc : D → Option V
  | .int i => some (.int i)
  | .bl b => some (.bl b)
  | .str x => some (.str x)
  | .non => some .non
  | _ => none
theorem Rep.scal {K : PySem.W.Frag} {H : Hp} {O : Addr → Prop} {v u : V} {d : D} (h : Rep K H O v d) (e : d.sc = some u) : v = u := by
  cases h <;> (first | (cases e; done) | (cases e; rfl))
theorem op2_eq {K : PySem.W.Frag} {da db : D} {u v : V} (ea : da.sc = some u) (eb : db.sc = some v) (hs : scal u v = true) : Op2 K rEq da db (.val (.bl (decide (u = v)))) := fun A H x y Q _ rx ry hq => by
  have e1 := rx.scal ea
  have e2 := ry.scal eb
  subst e1; subst e2
  exact ⟨hs, hq _ H (Ex.refl H) (.bl _)⟩
theorem op2_ne {K : PySem.W.Frag} {da db : D} {u v : V} (ea : da.sc = some u) (eb : db.sc = some v) (hs : scal u v = true) : Op2 K rNe da db (.val (.bl (!decide (u = v)))) := fun A H x y Q _ rx ry hq => by
  have e1 := rx.scal ea
  have e2 := ry.scal eb
  subst e1; subst e2
  exact ⟨hs, hq _ H (Ex.refl H) (.bl _)⟩
theorem dec_int {i j : Int} : decide (V.int i = V.int j) = decide (i = j) := by
  by_cases h : i = j
  · subst h; simp
  · rw [decide_eq_false h, decide_eq_false fun z => h (V.int.inj z)]
theorem dec_str {i j : Str} : decide (V.str i = V.str j) = decide (i = j) := by
  by_cases h : i = j
  · subst h; simp
  · rw [decide_eq_false h, decide_eq_false fun z => h (V.str.inj z)]
theorem dec_bl {i j : Bool} : decide (V.bl i = V.bl j) = decide (i = j) := by
  by_cases h : i = j
  · subst h; simp
  · rw [decide_eq_false h, decide_eq_false fun z => h (V.bl.inj z)]
section
variable {i j : Int} {s t : Str}
theorem de_eqI (ha : DI C a S i) (hb : DI C b S j) : DB C (.Compare a [.Eq] [b] pos) S (decide (i = j)) := by
  rw [← dec_int]; exact de_cmp (lv := false) (fun _ _ => op_eq) (nomark _) (dl_val ha) (dl_val hb) (op2_eq rfl rfl rfl) (.inr (.bl _))
theorem dt_eqI (ha : DI C a S i) (hb : DI C b S j) : DT C (.Compare a [.Eq] [b] pos) S (decide (i = j)) := by
  rw [← dec_int]; exact dt_cmp (lv := false) (fun _ _ => op_eq) (nomark _) (dl_val ha) (dl_val hb) (op2_eq rfl rfl rfl)
theorem de_neI (ha : DI C a S i) (hb : DI C b S j) : DB C (.Compare a [.NotEq] [b] pos) S (!decide (i = j)) := by
  rw [← dec_int]; exact de_cmp (lv := false) (fun _ _ => op_ne) (nomark _) (dl_val ha) (dl_val hb) (op2_ne rfl rfl rfl) (.inr (.bl _))
theorem dt_neI (ha : DI C a S i) (hb : DI C b S j) : DT C (.Compare a [.NotEq] [b] pos) S (!decide (i = j)) := by
  rw [← dec_int]; exact dt_cmp (lv := false) (fun _ _ => op_ne) (nomark _) (dl_val ha) (dl_val hb) (op2_ne rfl rfl rfl)
theorem de_eqS (ha : DE C a S (.ok (.val (.str s)))) (hb : DE C b S (.ok (.val (.str t)))) : DB C (.Compare a [.Eq] [b] pos) S (decide (s = t)) := by
  rw [← dec_str]; exact de_cmp (lv := false) (fun _ _ => op_eq) (nomark _) (dl_val ha) (dl_val hb) (op2_eq rfl rfl rfl) (.inr (.bl _))
theorem dt_eqS (ha : DE C a S (.ok (.val (.str s)))) (hb : DE C b S (.ok (.val (.str t)))) : DT C (.Compare a [.Eq] [b] pos) S (decide (s = t)) := by
  rw [← dec_str]; exact dt_cmp (lv := false) (fun _ _ => op_eq) (nomark _) (dl_val ha) (dl_val hb) (op2_eq rfl rfl rfl)
theorem de_neS (ha : DE C a S (.ok (.val (.str s)))) (hb : DE C b S (.ok (.val (.str t)))) : DB C (.Compare a [.NotEq] [b] pos) S (!decide (s = t)) := by
  rw [← dec_str]; exact de_cmp (lv := false) (fun _ _ => op_ne) (nomark _) (dl_val ha) (dl_val hb) (op2_ne rfl rfl rfl) (.inr (.bl _))
theorem dt_neS (ha : DE C a S (.ok (.val (.str s)))) (hb : DE C b S (.ok (.val (.str t)))) : DT C (.Compare a [.NotEq] [b] pos) S (!decide (s = t)) := by
  rw [← dec_str]; exact dt_cmp (lv := false) (fun _ _ => op_ne) (nomark _) (dl_val ha) (dl_val hb) (op2_ne rfl rfl rfl)
end
def D.isNon : D → Bool
  | .non => true
  | _ => false
theorem Rep.isNon {K : PySem.W.Frag} {H : Hp} {O : Addr → Prop} {v : V} {d : D} (h : Rep K H O v d) : decide (v = .non) = d.isNon := by
  cases h <;> first | rfl | (exact decide_eq_false fun z => nomatch z)
theorem op2_isN {K : PySem.W.Frag} {d : D} : Op2 K (fun x y H Q => y = .non ∧ Q (.bl (decide (x = .non))) H) d .non (.val (.bl d.isNon)) := fun A H x y Q _ rx ry hq => by
  cases ry
  rw [rx.isNon]
  exact ⟨rfl, hq _ H (Ex.refl H) (.bl _)⟩
theorem op2_notN {K : PySem.W.Frag} {d : D} : Op2 K (fun x y H Q => y = .non ∧ Q (.bl (!decide (x = .non))) H) d .non (.val (.bl (!d.isNon))) := fun A H x y Q _ rx ry hq => by
  cases ry
  rw [rx.isNon]
  exact ⟨rfl, hq _ H (Ex.refl H) (.bl _)⟩
theorem de_isN (ha : DL C false a S d) {j pos'} : DB C (.Compare a [.Is] [.Constant .none j pos'] pos) S d.isNon := de_cmp (fun _ _ => op_isN) (nomark _) ha (dl_val de_non) op2_isN (.inr (.bl _))
theorem dt_isN (ha : DL C false a S d) {j pos'} : DT C (.Compare a [.Is] [.Constant .none j pos'] pos) S d.isNon := dt_cmp (fun _ _ => op_isN) (nomark _) ha (dl_val de_non) op2_isN
theorem de_notN (ha : DL C false a S d) {j pos'} : DB C (.Compare a [.IsNot] [.Constant .none j pos'] pos) S (!d.isNon) := de_cmp (fun _ _ => op_notN) (nomark _) ha (dl_val de_non) op2_notN (.inr (.bl _))
theorem dt_notN (ha : DL C false a S d) {j pos'} : DT C (.Compare a [.IsNot] [.Constant .none j pos'] pos) S (!d.isNon) := dt_cmp (fun _ _ => op_notN) (nomark _) ha (dl_val de_non) op2_notN

/-! ### tests -/
theorem dt_val (h : DB C e S x) (he : ∀ env whole, isTrue e env whole = (do let v ← whole; standAt e.pos; holding [v] (truthy v)) := by intro _ _; rfl) : DT C e S x :=
  .mk fun W => ⟨_, fun r f => pt_val (pe_tE f) (he _), fun Oc H0 H σ fp hod sat Q hq => h W Oc H0 H σ fp hod sat _ (fun r v H' er ex res => by cases er; cases res; exact ⟨x, rfl, hq H' ex⟩) (fun _ _ _ _ er => nomatch er)⟩
theorem dw_and1 (h : DT C a S x) : DW C (.BoolOp .And [a] pos) S x := .mk fun W => ⟨_, fun r f => pw_and1 (pt_tT f), h W⟩
theorem dw_or1 (h : DT C a S x) : DW C (.BoolOp .Or [a] pos) S x := .mk fun W => ⟨_, fun r f => pw_or1 (pt_tT f), h W⟩
theorem evt_and {W : WX} {t u : TT} {K : PySem.W.Frag} (h : EvT K t S x) (hr : x = true → EvT K u S y) : EvT K (tAnd t u) S (x && y) := fun Oc H0 H σ fp hod sat Q hq =>
  h Oc H0 H σ fp hod sat _ fun H1 e1 => by
    cases x with
    | true => exact hr rfl Oc H0 H1 σ fp (hod.ex e1) (sat.mono e1) Q fun H2 e2 => hq H2 (e1.trans e2)
    | false => exact hq H1 e1
theorem evt_or {W : WX} {t u : TT} {K : PySem.W.Frag} (h : EvT K t S x) (hr : x = false → EvT K u S y) : EvT K (tOr t u) S (x || y) := fun Oc H0 H σ fp hod sat Q hq =>
  h Oc H0 H σ fp hod sat _ fun H1 e1 => by
    cases x with
    | false => exact hr rfl Oc H0 H1 σ fp (hod.ex e1) (sat.mono e1) Q fun H2 e2 => hq H2 (e1.trans e2)
    | true => exact hq H1 e1
theorem dw_and (h : DT C a S x) (hr : x = true → DW C (.BoolOp .And (b :: rest) pos) S y) : DW C (.BoolOp .And (a :: b :: rest) pos) S (x && y) :=
  .mk fun W => ⟨_, fun r f => pw_and (pt_tT f) (pw_tW f), evt_and (W := W) (h W) fun e => hr e W⟩
theorem dw_or (h : DT C a S x) (hr : x = false → DW C (.BoolOp .Or (b :: rest) pos) S y) : DW C (.BoolOp .Or (a :: b :: rest) pos) S (x || y) :=
  .mk fun W => ⟨_, fun r f => pw_or (pt_tT f) (pw_tW f), evt_or (W := W) (h W) fun e => hr e W⟩
theorem dt_w (h : DW C e S x) : DT C e S x := .mk fun W => ⟨_, fun r f => (pw_tW f).pt, h W⟩
theorem dt_not (h : DT C a S x) : DT C (.UnaryOp .Not a pos) S (!x) :=
  .mk fun W => ⟨_, fun r f => pt_not (pt_tT f), fun Oc H0 H σ fp hod sat Q hq => h W Oc H0 H σ fp hod sat _ fun H1 e1 => hq H1 e1⟩
theorem de_one {op} (h : DE C a S o) : DE C (.BoolOp op [a] pos) S o := .mk fun W => ⟨_, fun r f => pe_one (pe_tE f), h W⟩
theorem de_and (h : DB C a S x) (hr : x = true → DB C (.BoolOp .And (b :: rest) pos) S y) : DB C (.BoolOp .And (a :: b :: rest) pos) S (x && y) :=
  .mk fun W => ⟨_, fun r f => pe_and (pe_tE f) (pe_tE f), fun Oc H0 H σ fp hod sat Q hq hx => h W Oc H0 H σ fp hod sat _ (fun r v H1 er e1 res => by
    cases er; cases res
    refine ⟨x, rfl, ?_⟩
    cases x with
    | true => exact hr rfl W Oc H0 H1 σ fp (hod.ex e1) (sat.mono e1) Q (fun r v H2 er e2 res => by cases er; exact hq _ v H2 rfl (e1.trans e2) (res.base e1)) (fun _ _ _ _ er => nomatch er)
    | false => exact hq _ _ H1 rfl e1 (.bl false)) (fun _ _ _ _ er => nomatch er)⟩
theorem de_or (h : DB C a S x) (hr : x = false → DB C (.BoolOp .Or (b :: rest) pos) S y) : DB C (.BoolOp .Or (a :: b :: rest) pos) S (x || y) :=
  .mk fun W => ⟨_, fun r f => pe_or (pe_tE f) (pe_tE f), fun Oc H0 H σ fp hod sat Q hq hx => h W Oc H0 H σ fp hod sat _ (fun r v H1 er e1 res => by
    cases er; cases res
    refine ⟨x, rfl, ?_⟩
    cases x with
    | false => exact hr rfl W Oc H0 H1 σ fp (hod.ex e1) (sat.mono e1) Q (fun r v H2 er e2 res => by cases er; exact hq _ v H2 rfl (e1.trans e2) (res.base e1)) (fun _ _ _ _ er => nomatch er)
    | true => exact hq _ _ H1 rfl e1 (.bl true)) (fun _ _ _ _ er => nomatch er)⟩
theorem de_not (h : DB C a S x) : DB C (.UnaryOp .Not a pos) S (!x) :=
  .mk fun W => ⟨_, fun r f => pe_not (pe_tE f), fun Oc H0 H σ fp hod sat Q hq hx => h W Oc H0 H σ fp hod sat _ (fun r v H1 er e1 res => by cases er; cases res; exact ⟨x, rfl, hq _ _ H1 rfl e1 (.bl _)⟩) (fun _ _ _ _ er => nomatch er)⟩
theorem dts_nil : DTs C [] S true := fun W Oc H0 H σ fp hod sat Q hq => ⟨tYes, fun _ _ => pts_nil, hq H (Ex.refl H)⟩
theorem dts_one (h : DT C a S x) : DTs C [a] S x := fun W Oc H0 H σ fp hod sat Q hq => ⟨_, fun r f => pts_one (pt_tT f), h W Oc H0 H σ fp hod sat Q hq⟩
theorem de_neg {i : Int} (h : DI C a S i) : DI C (.UnaryOp .USub a pos) S (-i) :=
  .mk fun W => ⟨_, fun r f => pe_un un_neg (pe_tE f), fun Oc H0 H σ fp hod sat Q hq hx => h W Oc H0 H σ fp hod sat _ (fun r v H1 er e1 res => by cases er; cases res; exact ⟨i, rfl, hq _ _ H1 rfl e1 (.int _)⟩) (fun _ _ _ _ er => nomatch er)⟩

/-! ### calls -/
def Cl (K : PySem.W.Frag) (rc : List V → Hp → VK → Prop) (ds : List D) (r : R) : Prop := ∀ (A : Addr → Prop) (H : Hp) (vs : List V) (Q : VK), There A H → Reps K H A vs ds → (∀ v H', Ex H H' → Res K A H H' v r → Q v H') → rc vs H Q
theorem ev_cb {W : WX} {rc : List V → Hp → VK → Prop} (ha : DA C lv es S ds) (h : Cl C.M.K rc ds r) (hf : lv = true ∨ r.Flat) : Ev C.M.K W (tCB rc (tA C es W)) S (.ok r) :=
  fun Oc H0 H σ fp hod sat Q hq hx => ha W Oc H0 H σ fp hod sat _ fun vs H1 e1 reps => h _ H1 vs Q ((sat.thereO hod).ex e1).lvl reps fun v H2 e2 res => hq _ v H2 rfl (e1.trans e2) ((res.unlvl hf).base e1)
theorem de_callB {x : Str} {id : String} {p : Pos} {rc : List V → Hp → VK → Prop} (hc : ∀ r : Rst, Good C r → CallR (C.x r) (.builtin id) rc) (hg : GlC C x) (hm : C.M.mg x = none) (hv : bootBuiltins x = some (.builtin id)) (hn : x ≠ "__name__") (hdb : (x == ("__debug__" : Str)) = false)
    (ha : DA C lv (e :: es) S ds) (h : Cl C.M.K rc ds r) (hf : lv = true ∨ r.Flat)
    (he : ∀ env, starEach (e :: es) env = (false, eval e env) :: starEach es env := by intro _; rfl) (hpl : ∀ env, (backTo pos (starEach es env)).any (·.1) = false := by intro _; rfl) : DE C (.Call (.Name x p) (e :: es) [] pos) S (.ok r) :=
  .mk fun W => ⟨_, fun r f => pe_callB (hc r f.g) (hg.gl f.g) hm hv (pa_tA f) hn hdb (he _) (hpl _), ev_cb ha h hf⟩
theorem de_callTy {x : Str} {id : String} {p : Pos} {rc : List V → Hp → VK → Prop} (hc : ∀ r : Rst, Good C r → CallR (C.x r) (.type id) rc) (hg : GlC C x) (hm : C.M.mg x = none) (hv : bootBuiltins x = some (.type id)) (hn : x ≠ "__name__") (hdb : (x == ("__debug__" : Str)) = false)
    (ha : DA C lv (e :: es) S ds) (h : Cl C.M.K rc ds r) (hf : lv = true ∨ r.Flat)
    (he : ∀ env, starEach (e :: es) env = (false, eval e env) :: starEach es env := by intro _; rfl) (hpl : ∀ env, (backTo pos (starEach es env)).any (·.1) = false := by intro _; rfl) : DE C (.Call (.Name x p) (e :: es) [] pos) S (.ok r) :=
  .mk fun W => ⟨_, fun r f => pe_callTy (hc r f.g) (hg.gl f.g) hm hv (pa_tA f) hn hdb (he _) (hpl _), ev_cb ha h hf⟩

/-- the promise of a def, told by data -/
def spOf (K : PySem.W.Frag) (F : List D → Out → Prop) : Sp := fun vs H Q E => ∃ Oc ds o, There Oc H ∧ Reps K H Oc vs ds ∧ F ds o ∧
  (∀ r v H', o = .ok r → Ex H H' → Res K Oc H H' v r → Q v H') ∧ (∀ e cls d H', o = .error e → Ex H H' → ExR H' cls d e → E cls d H')
structure Callee (M : Mo) (x : Str) (F : List D → Out → Prop) : Prop where
  ex : ∃ (f : Addr) (fd : FuncData) (ps : List Str), FnOk M.P M.w M.K M.mg M.base (L2.CX M.P M.w) M.k f fd ps (spOf M.K F) ∧ M.mg x = some (.ref f) ∧ PySem.W.keepIn M.K (.ref f) = true ∧ Binds M.K fd ps []
def Out.Flat : Out → Prop
  | .ok r => r.Flat
  | .error _ => True
theorem ev_call {W : WX} {F : List D → Out → Prop} (ha : DA C lv es S ds) (hF : F ds o) (hf : lv = true ∨ Out.Flat o) : Ev C.M.K W (tCallS (spOf C.M.K F) (WE W) (tA C es W)) S o :=
  fun Oc H0 H σ fp hod sat Q hq hx => ha W Oc H0 H σ fp hod sat _ fun vs H1 e1 reps =>
    ⟨_, ds, o, ((sat.thereO hod).ex e1).lvl, reps, hF, fun r v H2 er e2 res => hq r v H2 er (e1.trans e2) ((res.unlvl (hf.imp id fun z => by subst er; exact z)).base e1), fun e cls d H2 er e2 xr => hx e cls d H2 er (e1.trans e2) xr⟩
theorem de_call {x : Str} {p : Pos} {F : List D → Out → Prop} (hF : Callee C.M x F) (hg : GlC C x) (hdb : (x == ("__debug__" : Str)) = false) (ha : DA C lv (e :: es) S ds) (h : F ds o) (hf : lv = true ∨ Out.Flat o)
    (he : ∀ env, starEach (e :: es) env = (false, eval e env) :: starEach es env := by intro _; rfl) (hpl : ∀ env, (backTo pos (starEach es env)).any (·.1) = false := by intro _; rfl) : DE C (.Call (.Name x p) (e :: es) [] pos) S o := by
  obtain ⟨f, fd, ps, G, mg, kp, b⟩ := hF.ex
  exact .mk fun W => ⟨_, fun r fm => pe_callS (E := WE W) G fm.g.room (hg.gl fm.g) mg kp b (fun σ => passAt fm.t σ) (pa_tA fm) hdb (he _) (hpl _), ev_call ha h hf⟩
end
end BK
/-! Part C: statements, loops, comprehensions. -/
namespace BK
open PySem PySem.Spec PyProof.Rows L2

structure Post where
  nx : List Slot → Prop
  rt : R → Prop
  ex : Exc → List Slot → Prop
  bk : List Slot → Prop := fun _ => False
  ct : List Slot → Prop := fun _ => False
def Wp (K : PySem.W.Frag) (W : WX) (t : TS) (S : List Slot) (P : Post) : Prop :=
  ∀ Oc H0 H σ fp, There Oc H0 → Sat K Oc H0 H σ S fp → ∀ D : Ends,
    (∀ S' H' σ' fp', P.nx S' → Sat K Oc H0 H' σ' S' fp' → D.nx σ' H') →
    (∀ r v H', P.rt r → Ex H0 H' → Res K Oc H0 H' v r → D.rt v H') →
    (∀ e cls d H' σ' S' fp', P.ex e S' → Sat K Oc H0 H' σ' S' fp' → ExR H' cls d e → W cls d σ' H') →
    (∀ S' H' σ' fp', P.bk S' → Sat K Oc H0 H' σ' S' fp' → D.bk σ' H') →
    (∀ S' H' σ' fp', P.ct S' → Sat K Oc H0 H' σ' S' fp' → D.ct σ' H') → t D σ H
def DS (C : Ctx) (st : Stmt) (S : List Slot) (P : Post) : Prop := ∀ W, Wp C.M.K W (tS C st W) S P
def DSs (C : Ctx) (sts : List Stmt) (S : List Slot) (P : Post) : Prop := ∀ W, Wp C.M.K W (tSs C sts W) S P
section
variable {C : Ctx} {S : List Slot} {P P' : Post} {e a b : Expr} {es : List Expr} {st : Stmt} {rest sts A B : List Stmt} {o : Out} {r : R} {d : D} {ds : List D} {lv : Bool} {pos pos' : Pos} {x y : Bool}
theorem DS.mk (h : ∀ W, ∃ t, (∀ r, Fam C W r → PS (C.x r) st t) ∧ Wp C.M.K W t S P) : DS C st S P := fun W Oc H0 H σ fp hod sat D h1 h2 h3 h4 h5 => by
  obtain ⟨t, p, q⟩ := h W
  exact ⟨t, p, q Oc H0 H σ fp hod sat D h1 h2 h3 h4 h5⟩
theorem DSs.mk (h : ∀ W, ∃ t, (∀ r, Fam C W r → PSs (C.x r) sts t) ∧ Wp C.M.K W t S P) : DSs C sts S P := fun W Oc H0 H σ fp hod sat D h1 h2 h3 h4 h5 => by
  obtain ⟨t, p, q⟩ := h W
  exact ⟨t, p, q Oc H0 H σ fp hod sat D h1 h2 h3 h4 h5⟩
theorem There.up {Oc : Addr → Prop} {K : PySem.W.Frag} {H0 H : Hp} {σ : L2.St} {fp : Nat → List Addr} (h : There Oc H0) (sat : Sat K Oc H0 H σ S fp) : There Oc H := h.ex sat.ex
theorem dss_nil (h : P.nx S) : DSs C [] S P := .mk fun W => ⟨tNext, fun _ _ => pss_nil, fun Oc H0 H σ fp hod sat D h1 _ _ _ _ => h1 S H σ fp h sat⟩
theorem dss_cons (h : DS C st S { P with nx := fun S' => DSs C rest S' P }) : DSs C (st :: rest) S P := .mk fun W => ⟨tSeq (tS C st W) (tSs C rest W), fun r f => pss_cons (ps_tS f) (pss_tSs f), fun Oc H0 H σ fp hod sat D h1 h2 h3 h4 h5 =>
  h W Oc H0 H σ fp hod sat { D with nx := (tSs C rest W) D } (fun S' H' σ' fp' hp sat' => hp W Oc H0 H' σ' fp' hod sat' D h1 h2 h3 h4 h5) h2 h3 h4 h5⟩
theorem dss_one (h : DS C st S P) : DSs C [st] S P := dss_cons (show DS C st S { P with nx := fun S' => DSs C [] S' P } from fun W Oc H0 H σ fp hod sat D h1 h2 h3 h4 h5 =>
  h W Oc H0 H σ fp hod sat D (fun S' H' σ' fp' hp sat' => h1 S' H' σ' fp' (dss_nil hp) sat') h2 h3 h4 h5)
theorem ds_imp (h : DS C st S P) (h1 : ∀ S, P.nx S → P'.nx S) (h2 : ∀ r, P.rt r → P'.rt r) (h3 : ∀ e S, P.ex e S → P'.ex e S) (h4 : ∀ S, P.bk S → P'.bk S) (h5 : ∀ S, P.ct S → P'.ct S) : DS C st S P' := fun W Oc H0 H σ fp hod sat D g1 g2 g3 g4 g5 =>
  h W Oc H0 H σ fp hod sat D (fun S' H' σ' fp' q => g1 S' H' σ' fp' (h1 _ q)) (fun r v H' q => g2 r v H' (h2 _ q)) (fun e cls d H' σ' S' fp' q => g3 e cls d H' σ' S' fp' (h3 _ _ q)) (fun S' H' σ' fp' q => g4 S' H' σ' fp' (h4 _ q)) (fun S' H' σ' fp' q => g5 S' H' σ' fp' (h5 _ q))
theorem dss_imp (h : DSs C sts S P) (h1 : ∀ S, P.nx S → P'.nx S) (h2 : ∀ r, P.rt r → P'.rt r) (h3 : ∀ e S, P.ex e S → P'.ex e S) (h4 : ∀ S, P.bk S → P'.bk S) (h5 : ∀ S, P.ct S → P'.ct S) : DSs C sts S P' := fun W Oc H0 H σ fp hod sat D g1 g2 g3 g4 g5 =>
  h W Oc H0 H σ fp hod sat D (fun S' H' σ' fp' q => g1 S' H' σ' fp' (h1 _ q)) (fun r v H' q => g2 r v H' (h2 _ q)) (fun e cls d H' σ' S' fp' q => g3 e cls d H' σ' S' fp' (h3 _ _ q)) (fun S' H' σ' fp' q => g4 S' H' σ' fp' (h4 _ q)) (fun S' H' σ' fp' q => g5 S' H' σ' fp' (h5 _ q))

theorem Sat.setv {K : PySem.W.Frag} {Oc : Addr → Prop} {H0 H : Hp} {σ : L2.St} {fp : Nat → List Addr} {v : V} (h : Sat K Oc H0 H σ S fp) (hv : Rep K H (Ow Oc fp) v d) {j : Nat} (hj : j < S.length) :
    ∃ fp', Sat K Oc H0 H (σ.set j (some v)) (S.set j (.val d)) fp' ∧ (∀ a, Ow Oc fp' a → Ow Oc fp a) ∧ (S[j]? = some .any → ∀ a, Ow Oc fp a → Ow Oc fp' a) := by
  have sub : ∀ a, Ow Oc (fset fp j []) a → Ow Oc fp a := fun a z => (Ow_fset a z).elim id fun q => by cases q
  refine ⟨fset fp j [], h.put hj (some v) (.val d) [] (fun a z => by cases z) (fun a z => by cases z) ⟨rfl, v, rfl, hv.less sub⟩ (fun i s _ q => (h.slot i s q).step (Ex.refl H) fun a z => .inl (sub a z)), sub, fun hs a z => ?_⟩
  rcases z with z | ⟨i, z⟩
  · exact .inl z
  · by_cases e : i = j
    · subst e
      rw [show fp i = [] from h.slot i _ hs] at z
      cases z
    · exact .inr ⟨i, by rw [fset_ne e]; exact z⟩
/-! ### targets -/
def LocC (C : Ctx) (x : Str) : Prop := (C.sc.names.lookup x = some .local) ∨ (C.sc.names.lookup x = some .cell ∧ C.top = true)
theorem LocC.pg {j : Nat} {x : Str} (h : LocC C x) (hj : C.N[j]? = some x) {r : Rst} (g : Good C r) : PG (C.x r) (.Name x pos) (gName j) := by
  have e : (C.x r).env.scope = C.sc := g.sc
  refine pg_name g.nd hj ?_ ?_
  · unfold L2.Loc; rw [e]; exact h.imp id (·.1)
  · rcases h with h | ⟨_, h⟩
    · right; rw [e]; exact h
    · rcases g.fn with q | q
      · exact .inl (q x)
      · rw [h] at q; cases q
/-- assigning data d to the target; T of the slots behind -/
def EvG (K : PySem.W.Frag) (t : TG) (S : List Slot) (d : D) (T : List Slot → Prop) : Prop :=
  ∀ Oc H0 H σ fp, There Oc H → Sat K Oc H0 H σ S fp → ∀ v, Rep K H (Ow Oc fp) v d → ∀ Q : L2.St → Hp → Prop, (∀ S' σ' fp', T S' → Sat K Oc H0 H σ' S' fp' → Q σ' H) → t v σ H Q
def DG (C : Ctx) (tg : Expr) (S : List Slot) (d : D) (T : List Slot → Prop) : Prop := ∀ W, EvG C.M.K (tGt C tg W) S d T
theorem dg_name {x : Str} {T : List Slot → Prop} (j : Nat) (hN : C.N[j]? = some x) (hx : LocC C x) (hj : j < S.length) (h : T (S.set j (.val d))) : DG C (.Name x pos) S d T := fun W Oc H0 H σ fp hod sat v rep Q hq =>
  ⟨gName j, fun r f => hx.pg hN f.g, by
    obtain ⟨fp', s', _⟩ := sat.setv rep hj
    exact hq _ _ fp' h s'⟩
theorem dg_tup2 {x y : Str} {p q : Pos} {k : Nat} {d1 d2 : D} {T : List Slot → Prop} (i j : Nat) (hi : C.N[i]? = some x) (hj : C.N[j]? = some y) (hx : LocC C x) (hy : LocC C y) (li : i < S.length) (lj : j < S.length) (h : T ((S.set i (.val d1)).set j (.val d2))) :
    DG C (.Tuple [.Name x p, .Name y q] k pos) S (.tup [d1, d2]) T := fun W Oc H0 H σ fp hod sat v rep Q hq =>
  ⟨gTup C.M.K 2 (gCons (gName i) (gCons (gName j) gNil)), fun r f => pg_tup f.g.calm (pgs_cons (hx.pg hi f.g) (pgs_cons (hy.pg hj f.g) pgs_nil)), by
    cases rep with
    | tup ha rs => cases rs with
      | cons r1 rs => cases rs with
        | cons r2 rs => cases rs with
          | nil =>
            obtain ⟨fp1, s1, sub1, _⟩ := sat.setv r1 li
            obtain ⟨fp2, s2, _⟩ := s1.setv (r2.less sub1) (by rw [List.length_set]; exact lj)
            exact ⟨_, _, rfl, .inl (.inl ha), rfl, _, _, rfl, _, _, rfl, rfl, hq _ _ fp2 h s2⟩⟩
theorem dg_tup3 {x y z : Str} {p q u : Pos} {k : Nat} {d1 d2 d3 : D} {T : List Slot → Prop} (i j l : Nat) (hi : C.N[i]? = some x) (hj : C.N[j]? = some y) (hl : C.N[l]? = some z) (hx : LocC C x) (hy : LocC C y) (hz : LocC C z) (li : i < S.length) (lj : j < S.length) (ll : l < S.length) (h : T (((S.set i (.val d1)).set j (.val d2)).set l (.val d3))) :
    DG C (.Tuple [.Name x p, .Name y q, .Name z u] k pos) S (.tup [d1, d2, d3]) T := fun W Oc H0 H σ fp hod sat v rep Q hq =>
  ⟨gTup C.M.K 3 (gCons (gName i) (gCons (gName j) (gCons (gName l) gNil))), fun r f => pg_tup f.g.calm (pgs_cons (hx.pg hi f.g) (pgs_cons (hy.pg hj f.g) (pgs_cons (hz.pg hl f.g) pgs_nil))), by
    cases rep with
    | tup ha rs => cases rs with
      | cons r1 rs => cases rs with
        | cons r2 rs => cases rs with
          | cons r3 rs => cases rs with
            | nil =>
            obtain ⟨fp1, s1, sub1, _⟩ := sat.setv r1 li
            obtain ⟨fp2, s2, sub2, _⟩ := s1.setv (r2.less sub1) (by rw [List.length_set]; exact lj)
            obtain ⟨fp3, s3, _⟩ := s2.setv (r3.less fun a z => sub1 a (sub2 a z)) (by rw [List.length_set, List.length_set]; exact ll)
            exact ⟨_, _, rfl, .inl (.inl ha), rfl, _, _, rfl, _, _, rfl, _, _, rfl, rfl, hq _ _ fp3 h s3⟩⟩

theorem LocC.ps' {W : WX} {j : Nat} {z : Str} {te : TE} (hx : LocC C z) (hN : C.N[j]? = some z) {r : Rst} (f : Fam C W r) (he : PE (C.x r) e te) (hs : swapsWith e (some (.Name z pos')) pos.line r.env = pure false) : PS (C.x r) (.Assign [.Name z pos'] e pos) (tAsg te (gName j)) := by
  have ec : (C.x r).env.scope = C.sc := f.g.sc
  refine ps_set f.g.nd hN ?_ he hs ?_
  · unfold L2.Loc; rw [ec]; exact hx.imp id (·.1)
  · rcases hx with h | ⟨_, h⟩
    · right; rw [ec]; exact h
    · rcases f.g.fn with q | q
      · exact .inl (q z)
      · rw [h] at q; cases q
theorem LocC.ps {W : WX} {j : Nat} {z : Str} (hx : LocC C z) (hN : C.N[j]? = some z) {r : Rst} (f : Fam C W r) (hs : swapsWith e (some (.Name z pos')) pos.line r.env = pure false) : PS (C.x r) (.Assign [.Name z pos'] e pos) (tAsg (tE C e W) (gName j)) := by
  have ec : (C.x r).env.scope = C.sc := f.g.sc
  refine ps_set f.g.nd hN ?_ (pe_tE f) hs ?_
  · unfold L2.Loc; rw [ec]; exact hx.imp id (·.1)
  · rcases hx with h | ⟨_, h⟩
    · right; rw [ec]; exact h
    · rcases f.g.fn with q | q
      · exact .inl (q z)
      · rw [h] at q; cases q
/-! ### simple statements -/
theorem Res.out {K : PySem.W.Frag} {Oc : Addr → Prop} {H0 H H' : Hp} {σ : L2.St} {fp : Nat → List Addr} {v : V} (h : Res K (Ow Oc fp) H H' v r) (sat : Sat K Oc H0 H σ S fp) : Res K Oc H0 H' v r := h.step (Ex.refl _) sat.ex fun _ z => .inl z
theorem ds_setO {z : Str} (j : Nat) (he : DE C e S o) (hN : C.N[j]? = some z) (hx : LocC C z) (hj : j < S.length) (ho : ∀ r, o = .ok r → P.nx (S.set j r.slot)) (hx' : ∀ x, o = .error x → P.ex x S)
    (hs : ∀ env, swapsWith e (some (.Name z pos')) pos.line env = pure false := by intro _; rfl) : DS C (.Assign [.Name z pos'] e pos) S P :=
  .mk fun W => ⟨tAsg (tE C e W) (gName j), fun r f => hx.ps hN f (hs _),
    fun Oc H0 H σ fp hod sat D h1 h2 h3 h4 h5 => he W Oc H0 H σ fp (hod.up sat) sat _
      (fun r v H' er ex res => by
        obtain ⟨fp', s'⟩ := sat.set ex res hj
        exact h1 _ H' _ fp' (ho r er) s')
      (fun x cls d H' er ex xr => h3 x cls d H' σ S fp (hx' x er) (sat.mono ex) xr)⟩
theorem ds_set {z : Str} (j : Nat) (he : DE C e S (.ok r)) (hN : C.N[j]? = some z) (hx : LocC C z) (hj : j < S.length) (h : P.nx (S.set j r.slot))
    (hs : ∀ env, swapsWith e (some (.Name z pos')) pos.line env = pure false := by intro _; rfl) : DS C (.Assign [.Name z pos'] e pos) S P :=
  ds_setO j he hN hx hj (fun r' er => by cases er; exact h) (fun _ er => nomatch er) hs
theorem ds_asgT {tg : Expr} (he : DL C true e S d) (hg : DG C tg S d P.nx) (hs : ∀ env, swapsWithSole [tg] e pos.line env = pure false := by intro _; rfl) (hw : ∀ env, swappedStores [tg] e env = pure none := by intro _; rfl)
    (h1 : ∀ env, (assignEach [tg] env).map (·.2) = [assign tg env] := by intro _; rfl) : DS C (.Assign [tg] e pos) S P :=
  .mk fun W => ⟨tAsg (tE C e W) (tGt C tg W), fun r f => ps_asg (pe_tE f) (pg_tG f) (hs _) (hw _) (h1 _),
    fun Oc H0 H σ fp hod sat D g1 g2 g3 g4 g5 => he W Oc H0 H σ fp (hod.up sat) sat _ fun v H' ex rep =>
      hg W Oc H0 H' σ fp ((hod.up sat).ex ex) (sat.mono ex) v rep D.nx fun S' σ' fp' hT s' => g1 S' H' σ' fp' hT s'⟩
theorem ds_exprO (he : DE C e S o) (ho : ∀ r, o = .ok r → P.nx S) (hx' : ∀ x, o = .error x → P.ex x S) (hs : ∀ env, swapsWith e none pos.line env = pure false := by intro _; rfl) : DS C (.Expr e pos) S P :=
  .mk fun W => ⟨tDrop (tE C e W), fun r f => ps_expr (pe_tE f) (hs _), fun Oc H0 H σ fp hod sat D h1 h2 h3 h4 h5 => he W Oc H0 H σ fp (hod.up sat) sat _
      (fun r v H' er ex res => h1 _ H' _ fp (ho r er) (sat.mono ex)) (fun x cls d H' er ex xr => h3 x cls d H' σ S fp (hx' x er) (sat.mono ex) xr)⟩
theorem ds_retO (he : DE C e S o) (ho : ∀ r, o = .ok r → P.rt r) (hx' : ∀ x, o = .error x → P.ex x S) : DS C (.Return (some e) pos) S P :=
  .mk fun W => ⟨tRet (tE C e W), fun r f => ps_ret (pe_tE f), fun Oc H0 H σ fp hod sat D h1 h2 h3 h4 h5 => he W Oc H0 H σ fp (hod.up sat) sat _
      (fun r v H' er ex res => h2 r v H' (ho r er) (sat.ex.trans ex) (res.out sat)) (fun x cls d H' er ex xr => h3 x cls d H' σ S fp (hx' x er) (sat.mono ex) xr)⟩
theorem ds_ret (he : DE C e S (.ok r)) (h : P.rt r) : DS C (.Return (some e) pos) S P := ds_retO he (fun r' er => by cases er; exact h) (fun _ er => nomatch er)
theorem ds_retN (h : P.rt (.val .non)) : DS C (.Return none pos) S P :=
  .mk fun W => ⟨tRetN, fun r f => ps_retN, fun Oc H0 H σ fp hod sat D h1 h2 h3 h4 h5 => h2 _ _ H h sat.ex .non⟩
/-- an own list is handed out -/
theorem ds_retOwn {z : Str} (j : Nat) (hS : S[j]? = some (.own ds)) (hN : C.N[j]? = some z) (hv : Vis C.sc z) (hd : (z == ("__debug__" : Str)) = false) (hcd : (z == ("__classdict__" : Str)) = false) (h : P.rt (.own ds)) : DS C (.Return (some (.Name z pos')) pos) S P :=
  .mk fun W => ⟨tRet (tVar j), fun r f => ps_ret (pe_var hN (vis_of hv f.g) hd hcd), fun Oc H0 H σ fp hod sat D h1 h2 h3 h4 h5 => by
    obtain ⟨l, vs, e, hf, hl, rep⟩ := sat.own hS
    have ml : l ∈ fp j := by rw [hf]; exact List.mem_cons_self
    refine ⟨_, e, h2 _ _ H h sat.ex ⟨l, vs, rfl, sat.fr j l ml, hl, rep.less fun a z => ?_⟩⟩
    rcases z with z | rfl
    · exact .inl z
    · exact .inr ⟨j, ml⟩⟩
theorem ds_retOwn2 {z : Str} {dss : List (List D)} (j : Nat) (hS : S[j]? = some (.own2 dss)) (hN : C.N[j]? = some z) (hv : Vis C.sc z) (hd : (z == ("__debug__" : Str)) = false) (hcd : (z == ("__classdict__" : Str)) = false) (h : P.rt (.own2 dss)) : DS C (.Return (some (.Name z pos')) pos) S P :=
  .mk fun W => ⟨tRet (tVar j), fun r f => ps_ret (pe_var hN (vis_of hv f.g) hd hcd), fun Oc H0 H σ fp hod sat D h1 h2 h3 h4 h5 => by
    obtain ⟨l, qs, e, hf, nd, hl, rep⟩ := sat.own2 hS
    refine ⟨_, e, h2 _ _ H h sat.ex ⟨l, qs, rfl, fun a z => sat.fr j a (by rw [hf]; exact z), nd, hl, rep.step (Ex.refl _) fun a z => .inl ?_⟩⟩
    rcases z with z | z
    · exact .inl z
    · exact .inr ⟨j, by rw [hf]; exact z⟩⟩
theorem ds_if {c : Expr} (hc : DT C c S x) (ht : x = true → DSs C A S P) (hf : x = false → DSs C B S P) : DS C (.If c A B pos) S P :=
  .mk fun W => ⟨tIfS (tT C c W) (tSs C A W) (tSs C B W), fun r f => ps_if (pt_tT f) (pss_tSs f) (pss_tSs f), fun Oc H0 H σ fp hod sat D h1 h2 h3 h4 h5 =>
    hc W Oc H0 H σ fp (hod.up sat) sat _ fun H' ex => by
      cases x with
      | true => exact ht rfl W Oc H0 H' σ fp hod (sat.mono ex) D h1 h2 h3 h4 h5
      | false => exact hf rfl W Oc H0 H' σ fp hod (sat.mono ex) D h1 h2 h3 h4 h5⟩
theorem ds_brk (h : P.bk S) : DS C (.Break pos) S P := .mk fun W => ⟨tBreak, fun r f => ps_break, fun Oc H0 H σ fp hod sat D h1 h2 h3 h4 h5 => h4 _ H σ fp h sat⟩
theorem ds_cnt (h : P.ct S) : DS C (.Continue pos) S P := .mk fun W => ⟨tCont, fun r f => ps_continue, fun Oc H0 H σ fp hod sat D h1 h2 h3 h4 h5 => h5 _ H σ fp h sat⟩
theorem ds_pass (h : P.nx S) : DS C (.Pass pos) S P := .mk fun W => ⟨tNext, fun r f => ps_pass, fun Oc H0 H σ fp hod sat D h1 h2 h3 h4 h5 => h1 _ H σ fp h sat⟩
/-- an own list is from now on only read -/
theorem dss_freeze (j : Nat) (hS : S[j]? = some (.own ds)) (h : DSs C sts (S.set j (.val (.lst ds))) P) : DSs C sts S P := fun W Oc H0 H σ fp hod sat D h1 h2 h3 h4 h5 => by
  obtain ⟨fp', s', _⟩ := sat.freeze (fun a z i q => hod a z (sat.fr i a q)) hS
  exact h W Oc H0 H σ fp' hod s' D h1 h2 h3 h4 h5
/-- slots told weaker -/
theorem dss_any (j : Nat) (h : DSs C sts (S.set j .any) P) : DSs C sts S P := fun W Oc H0 H σ fp hod sat D h1 h2 h3 h4 h5 => by
  by_cases hj : j < S.length
  · obtain ⟨fp', s', _⟩ := sat.forget hj (σ.getD j none)
    have e : σ.set j (σ.getD j none) = σ := by
      apply List.ext_getElem?
      intro i
      by_cases hi : j = i
      · subst hi
        have hs : j < σ.length := by rw [← sat.len]; exact hj
        rw [List.getElem?_set_self hs, List.getD_eq_getElem?_getD, List.getElem?_eq_getElem hs]; rfl
      · rw [List.getElem?_set_ne hi]
    rw [e] at s'
    exact h W Oc H0 H σ fp' hod s' D h1 h2 h3 h4 h5
  · rw [List.set_eq_of_length_le (Nat.le_of_not_lt hj)] at h
    exact h W Oc H0 H σ fp hod sat D h1 h2 h3 h4 h5

/-! ### lists changed in place -/
theorem sz_lt {n : Nat} (h : n ≤ 1000000) : n < sizeLine := Nat.lt_of_le_of_lt h (by rw [sizeLine_eq]; decide)
theorem ds_append {z : Str} {ap p1 p2 : Pos} (j : Nat) (hS : S[j]? = some (.own ds)) (he : DL C true e S d) (hN : C.N[j]? = some z) (hv : Vis C.sc z) (hd : (z == ("__debug__" : Str)) = false) (hcd : (z == ("__classdict__" : Str)) = false) (hz : ds.length ≤ 1000000) (h : P.nx (S.set j (.own (ds ++ [d]))))
    (hs : ∀ env, starEach (e :: []) env = (false, eval e env) :: starEach [] env := by intro _; rfl)
    (hfew : ∀ env, ((backTo p2 (starEach (e :: []) env)).all (fun x => !x.1) && (backToKw p2 (keywordEach [] env)).all (fun x => x.1.isSome) && decide ((e :: []).length + ([] : List Keyword).length + (if ([] : List Keyword).isEmpty then 0 else 1) < 30)) = true := by intro _; rfl)
    (hline : (ap.endLine == p2.line) = true := by rfl) (hsw : ∀ env, swapsWith (.Call (.Attribute (.Name z p1) "append" ap) [e] [] p2) none pos.line env = pure false := by intro _; rfl) :
    DS C (.Expr (.Call (.Attribute (.Name z p1) "append" ap) [e] [] p2) pos) S P :=
  .mk fun W => ⟨tDrop (tBM C.M.K "list" rAppend (tVar j) (tCons (tE C e W) tNil)), fun r f => ps_expr (pe_bm PySem.F.plainAttrs_list PySem.F.slot_list_append PySem.F.type_list_append mt_append (pe_var hN (vis_of hv f.g) hd hcd) (pa_cons (pe_tE f) pa_nil (hs _)) rfl (hfew _) hline (hs _) rfl) (hsw _), fun Oc H0 H σ fp hod sat D h1 h2 h3 h4 h5 => by
    obtain ⟨l, vs, el, hf, hl, reps⟩ := sat.own hS
    refine ⟨_, el, .inl ⟨rfl, vs, .inl (.inl hl)⟩, he W Oc H0 H σ fp (hod.up sat) sat _ fun v H1 e1 rep => ⟨l, vs, v, rfl, rfl, e1 _ _ hl, ?_, ?_⟩⟩
    · rw [reps.length]; exact sz_lt hz
    · exact h1 _ _ _ fp h ((sat.mono e1).write hS hf ((reps.mono e1).app (.one rep)))⟩
theorem ds_pop {z u : Str} {ap p1 p2 p3 : Pos} (j i : Nat) (hS : S[j]? = some (.own (ds ++ [d]))) (hN : C.N[j]? = some z) (hv : Vis C.sc z) (hd : (z == ("__debug__" : Str)) = false) (hcd : (z == ("__classdict__" : Str)) = false) (hNi : C.N[i]? = some u) (hx : LocC C u) (hi : i < S.length)
    (h : P.nx ((S.set j (.own ds)).set i (.val d))) (hline : (ap.endLine == p2.line) = true := by rfl) :
    DS C (.Assign [.Name u p3] (.Call (.Attribute (.Name z p1) "pop" ap) [] [] p2) pos) S P :=
  .mk fun W => ⟨tAsg (tBM0 C.M.K "list" rPop (tVar j)) (gName i), fun r f => hx.ps' hNi f (pe_bm0 PySem.F.plainAttrs_list PySem.F.slot_list_pop PySem.F.type_list_pop mt_pop (pe_var hN (vis_of hv f.g) hd hcd) rfl hline) rfl, fun Oc H0 H σ fp hod sat D h1 h2 h3 h4 h5 => by
    obtain ⟨l, vs, el, hf, hl, reps⟩ := sat.own hS
    have hlen := reps.length
    rw [List.length_append, List.length_singleton] at hlen
    have hg : (ds ++ [d])[vs.length - 1]? = some d := by
      rw [hlen, Nat.add_sub_cancel, List.getElem?_append_right (Nat.le_refl _), Nat.sub_self]; rfl
    obtain ⟨v, ev, rep⟩ := reps.getD hg
    have hdl : Reps C.M.K H (Ow Oc fp) vs.dropLast ds := by
      have q := reps.take (vs.length - 1)
      rw [← List.dropLast_eq_take, hlen, Nat.add_sub_cancel, List.take_append_of_le_length (Nat.le_refl _), List.take_length] at q
      exact q
    refine ⟨_, el, .inl ⟨rfl, vs, .inl (.inl hl)⟩, l, vs, v, rfl, rfl, hl, ev, ?_⟩
    have s1 := sat.write hS hf hdl
    have ml : l ∈ fp j := by rw [hf]; exact List.mem_cons_self
    have r1 : Rep C.M.K (upd H l (.lst vs.dropLast)) (Ow Oc fp) v d := rep.write (.inr ⟨j, ml⟩) (sat.there ml)
    obtain ⟨fp2, s2, _⟩ := s1.setv r1 (j := i) (by rw [List.length_set]; exact hi)
    exact h1 _ _ _ fp2 h s2⟩
theorem ds_setItem {z : Str} {i : Expr} {p1 p2 : Pos} {k : Int} {n : Nat} (j : Nat) (hS : S[j]? = some (.own ds)) (he : DL C true e S d) (hi : DI C i S k) (hk : ixN ds.length k = some n) (hN : C.N[j]? = some z) (hv : Vis C.sc z) (hd : (z == ("__debug__" : Str)) = false) (hcd : (z == ("__classdict__" : Str)) = false)
    (h : P.nx (S.set j (.own (ds.set n d)))) (hs : ∀ env, swapsWithSole [.Subscript (.Name z p1) i p2] e pos.line env = pure false := by intro _; rfl) (hw : ∀ env, swappedStores [.Subscript (.Name z p1) i p2] e env = pure none := by intro _; rfl)
    (hasg : ∀ (env : Env) (v : Value), assign (.Subscript (.Name z p1) i p2) env v = (do
      let ov ← holding [v] (eval (.Name z p1) env)
      let iv ← holding [v, ov] (eval i env)
      standAt p2
      holding [v, ov, iv] (setItem ov iv v)
      release [v, ov, iv] []) := by intro _ _; rfl)
    (h1 : ∀ env, (assignEach [.Subscript (.Name z p1) i p2] env).map (·.2) = [assign (.Subscript (.Name z p1) i p2) env] := by intro _; rfl) : DS C (.Assign [.Subscript (.Name z p1) i p2] e pos) S P :=
  .mk fun W => ⟨tAsg (tE C e W) (gSub (tVar j) (tE C i W) rSetL), fun r f => ps_asg (pe_tE f) (pg_sub (pe_var hN (vis_of hv f.g) hd hcd) (pe_tE f) set_list (hasg _)) (hs _) (hw _) (h1 _), fun Oc H0 H σ fp hod sat D g1 g2 g3 g4 g5 =>
    he W Oc H0 H σ fp (hod.up sat) sat _ fun v H1 e1 rep => by
      have s1 := sat.mono e1
      obtain ⟨l, vs, el, hf, hl, reps⟩ := s1.own hS
      refine ⟨_, el, hi W Oc H0 H1 σ fp (hod.up s1) s1 _ (fun r w H2 er e2 res => ?_) (fun _ _ _ _ er => nomatch er)⟩
      cases er; cases res
      refine ⟨l, vs, k, n, rfl, rfl, e2 _ _ hl, ?_, ?_⟩
      · rw [reps.length]; exact hk
      · exact g1 _ _ _ fp h ((s1.mono e2).write hS hf ((reps.mono e2).set (rep.mono e2) n))⟩
/-- x[a][b] = e, x an own list of own lists -/
theorem ds_setItem2 {z : Str} {i i2 : Expr} {p1 p2 p3 : Pos} {k k2 : Int} {n n2 : Nat} {dss : List (List D)} (j : Nat) (hS : S[j]? = some (.own2 dss)) (he : DL C true e S d) (hi : DI C i S k) (hi2 : DI C i2 S k2) (hk : ixN dss.length k = some n) (hg : dss[n]? = some ds) (hk2 : ixN ds.length k2 = some n2)
    (hN : C.N[j]? = some z) (hv : Vis C.sc z) (hd : (z == ("__debug__" : Str)) = false) (hcd : (z == ("__classdict__" : Str)) = false) (hpl : PlainIx i)
    (h : P.nx (S.set j (.own2 (dss.set n (ds.set n2 d))))) (hs : ∀ env, swapsWithSole [.Subscript (.Subscript (.Name z p1) i p2) i2 p3] e pos.line env = pure false := by intro _; rfl) (hw : ∀ env, swappedStores [.Subscript (.Subscript (.Name z p1) i p2) i2 p3] e env = pure none := by intro _; rfl)
    (hasg : ∀ (env : Env) (v : Value), assign (.Subscript (.Subscript (.Name z p1) i p2) i2 p3) env v = (do
      let ov ← holding [v] (eval (.Subscript (.Name z p1) i p2) env)
      let iv ← holding [v, ov] (eval i2 env)
      standAt p3
      holding [v, ov, iv] (setItem ov iv v)
      release [v, ov, iv] []) := by intro _ _; rfl)
    (h1 : ∀ env, (assignEach [.Subscript (.Subscript (.Name z p1) i p2) i2 p3] env).map (·.2) = [assign (.Subscript (.Subscript (.Name z p1) i p2) i2 p3) env] := by intro _; rfl) : DS C (.Assign [.Subscript (.Subscript (.Name z p1) i p2) i2 p3] e pos) S P :=
  .mk fun W => ⟨tAsg (tE C e W) (gSub (tOp (rIxL C.M.K) (tVar j) (tE C i W)) (tE C i2 W) rSetL), fun r f => ps_asg (pe_tE f) (pg_sub (pe_ix ix_list (pe_var hN (vis_of hv f.g) hd hcd) (pe_tE f) hpl) (pe_tE f) set_list (hasg _)) (hs _) (hw _) (h1 _), fun Oc H0 H σ fp hod sat D g1 g2 g3 g4 g5 =>
    he W Oc H0 H σ fp (hod.up sat) sat _ fun v H1 e1 rep => by
      have s1 := sat.mono e1
      obtain ⟨l, qs, el, hf, nd, hl, rep2⟩ := s1.own2 hS
      refine ⟨_, el, hi W Oc H0 H1 σ fp (hod.up s1) s1 _ (fun r w H2 er e2 res => ?_) (fun _ _ _ _ er => nomatch er)⟩
      cases er; cases res
      obtain ⟨q, vs, eq, hq, reps⟩ := rep2.get hg
      have s2 := s1.mono e2
      refine ⟨l, _, k, .ref q, rfl, rfl, .inl (.inl (e2 _ _ hl)), ?_, ?_⟩
      · unfold atI
        rw [List.length_map, rep2.length, hk]
        show (qs.map V.ref)[n]? = _
        rw [List.getElem?_map, eq]; rfl
      · refine hi2 W Oc H0 H2 σ fp (hod.up s2) s2 _ (fun r w H3 er e3 res => ?_) (fun _ _ _ _ er => nomatch er)
        cases er; cases res
        refine ⟨q, vs, k2, n2, rfl, rfl, e3 _ _ (e2 _ _ hq), ?_, ?_⟩
        · rw [reps.length]; exact hk2
        · exact g1 _ _ _ fp h ((s2.mono e3).write2 hS hf eq (((reps.mono e2).mono e3).set ((rep.mono e2).mono e3) n2))⟩
/-- x[a].append(e), x an own list of own lists -/
theorem ds_append2 {z : Str} {i : Expr} {ap p1 p2 p3 : Pos} {k : Int} {n : Nat} {dss : List (List D)} (j : Nat) (hS : S[j]? = some (.own2 dss)) (hi : DI C i S k) (he : DL C true e S d) (hk : ixN dss.length k = some n) (hg : dss[n]? = some ds) (hN : C.N[j]? = some z) (hv : Vis C.sc z) (hd : (z == ("__debug__" : Str)) = false) (hcd : (z == ("__classdict__" : Str)) = false) (hpl : PlainIx i) (hz : ds.length ≤ 1000000)
    (h : P.nx (S.set j (.own2 (dss.set n (ds ++ [d])))))
    (hs : ∀ env, starEach (e :: []) env = (false, eval e env) :: starEach [] env := by intro _; rfl) (hb : ∀ env, attributeBase (.Subscript (.Name z p1) i p3) "append" env (eval (.Subscript (.Name z p1) i p3) env) = eval (.Subscript (.Name z p1) i p3) env := by intro _; rfl)
    (hfew : ∀ env, ((backTo p2 (starEach (e :: []) env)).all (fun x => !x.1) && (backToKw p2 (keywordEach [] env)).all (fun x => x.1.isSome) && decide ((e :: []).length + ([] : List Keyword).length + (if ([] : List Keyword).isEmpty then 0 else 1) < 30)) = true := by intro _; rfl)
    (hline : (ap.endLine == p2.line) = true := by rfl) (hsw : ∀ env, swapsWith (.Call (.Attribute (.Subscript (.Name z p1) i p3) "append" ap) [e] [] p2) none pos.line env = pure false := by intro _; rfl) :
    DS C (.Expr (.Call (.Attribute (.Subscript (.Name z p1) i p3) "append" ap) [e] [] p2) pos) S P :=
  .mk fun W => ⟨tDrop (tBM C.M.K "list" rAppend (tOp (rIxL C.M.K) (tVar j) (tE C i W)) (tCons (tE C e W) tNil)), fun r f => ps_expr (pe_bm PySem.F.plainAttrs_list PySem.F.slot_list_append PySem.F.type_list_append mt_append (pe_ix ix_list (pe_var hN (vis_of hv f.g) hd hcd) (pe_tE f) hpl) (pa_cons (pe_tE f) pa_nil (hs _)) (hb _) (hfew _) hline (hs _) rfl) (hsw _), fun Oc H0 H σ fp hod sat D h1 h2 h3 h4 h5 => by
      obtain ⟨l, qs, el, hf, nd, hl, rep2⟩ := sat.own2 hS
      refine ⟨_, el, hi W Oc H0 H σ fp (hod.up sat) sat _ (fun r w H2 er e2 res => ?_) (fun _ _ _ _ er => nomatch er)⟩
      cases er; cases res
      obtain ⟨q, vs, eq, hq, reps⟩ := rep2.get hg
      have s2 := sat.mono e2
      refine ⟨l, _, k, .ref q, rfl, rfl, .inl (.inl (e2 _ _ hl)), ?_, ?_⟩
      · unfold atI
        rw [List.length_map, rep2.length, hk]
        show (qs.map V.ref)[n]? = _
        rw [List.getElem?_map, eq]; rfl
      · refine ⟨.inl ⟨rfl, vs, .inl (.inl (e2 _ _ hq))⟩, he W Oc H0 H2 σ fp (hod.up s2) s2 _ fun v H3 e3 rep => ⟨q, vs, v, rfl, rfl, e3 _ _ (e2 _ _ hq), ?_, ?_⟩⟩
        · rw [reps.length]; exact sz_lt hz
        · exact h1 _ _ _ fp h ((s2.mono e3).write2 hS hf eq (((reps.mono e2).mono e3).app (.one rep)))⟩
theorem ds_extend {z : Str} {ap p1 p2 : Pos} {ds' : List D} (j : Nat) (hS : S[j]? = some (.own ds)) (he : DL C lv e S (.lst ds')) (hfl : lv = true ∨ ∀ d ∈ ds', Flat d) (hN : C.N[j]? = some z) (hv : Vis C.sc z) (hd : (z == ("__debug__" : Str)) = false) (hcd : (z == ("__classdict__" : Str)) = false) (hz : ds.length + ds'.length ≤ 1000000) (h : P.nx (S.set j (.own (ds ++ ds'))))
    (hs : ∀ env, starEach (e :: []) env = (false, eval e env) :: starEach [] env := by intro _; rfl)
    (hfew : ∀ env, ((backTo p2 (starEach (e :: []) env)).all (fun x => !x.1) && (backToKw p2 (keywordEach [] env)).all (fun x => x.1.isSome) && decide ((e :: []).length + ([] : List Keyword).length + (if ([] : List Keyword).isEmpty then 0 else 1) < 30)) = true := by intro _; rfl)
    (hline : (ap.endLine == p2.line) = true := by rfl) (hsw : ∀ env, swapsWith (.Call (.Attribute (.Name z p1) "extend" ap) [e] [] p2) none pos.line env = pure false := by intro _; rfl) :
    DS C (.Expr (.Call (.Attribute (.Name z p1) "extend" ap) [e] [] p2) pos) S P :=
  .mk fun W => ⟨tDrop (tBM C.M.K "list" rExtend (tVar j) (tCons (tE C e W) tNil)), fun r f => ps_expr (pe_bm PySem.F.plainAttrs_list PySem.F.slot_list_extend PySem.F.type_list_extend mt_extend (pe_var hN (vis_of hv f.g) hd hcd) (pa_cons (pe_tE f) pa_nil (hs _)) rfl (hfew _) hline (hs _) rfl) (hsw _), fun Oc H0 H σ fp hod sat D h1 h2 h3 h4 h5 => by
    obtain ⟨l, vs, el, hf, hl, reps⟩ := sat.own hS
    refine ⟨_, el, .inl ⟨rfl, vs, .inl (.inl hl)⟩, he W Oc H0 H σ fp (hod.up sat) sat _ fun v H1 e1 rep => ?_⟩
    cases rep with
    | lst n hb r2 =>
      refine ⟨l, _, vs, _, rfl, rfl, e1 _ _ hl, hb, ?_, ?_⟩
      · rw [reps.length, r2.length]; exact Nat.le_of_lt (sz_lt hz)
      · refine h1 _ _ _ fp h ((sat.mono e1).write hS hf ((reps.mono e1).app ?_))
        rcases hfl with rfl | hfl
        · exact r2
        · exact r2.flat hfl⟩

/-! ### loops -/
open Classical in
noncomputable def hid (H : Hp) (F : Addr → Prop) : Hp := fun a => if F a then none else H a
section
variable {K : PySem.W.Frag} {H H' H0 : Hp} {F O Oc : Addr → Prop} {σ : L2.St} {fp : Nat → List Addr}
theorem hid_in {a : Addr} (h : F a) : hid H F a = none := by unfold hid; exact if_pos h
theorem hid_out {a : Addr} (h : ¬ F a) : hid H F a = H a := by unfold hid; exact if_neg h
theorem hid_some {a : Addr} {o : HO} (h : hid H F a = some o) : ¬ F a ∧ H a = some o := by
  by_cases q : F a
  · rw [hid_in q] at h; cases h
  · rw [hid_out q] at h; exact ⟨q, h⟩
theorem hid_ex : Ex (hid H F) H := fun a o h => (hid_some h).2
mutual
theorem Rep.hide (hF : ∀ a, F a → O a ∧ Mb (H a)) : ∀ {v : V} {d : D}, Rep K H O v d → Rep K (hid H F) O v d
  | _, _, .non => .non
  | _, _, .bl b => .bl b
  | _, _, .int i => .int i
  | _, _, .str x => .str x
  | _, _, .tup h r => .tup (by rw [hid_out (fun z => by have m := (hF _ z).2; rw [h] at m; exact m)]; exact h) (Reps.hide hF r)
  | _, _, .lst n h r => .lst n (by rw [hid_out (fun z => n (hF _ z).1)]; exact h) (Reps.hide hF r)
  | _, _, .ktup h f => .ktup h f
  | _, _, .scr h => .scr (by
      rcases h with ⟨ob, h⟩ | h
      · exact .inl ⟨ob, by rw [hid_out (fun z => by have m := (hF _ z).2; rw [h] at m; exact m)]; exact h⟩
      · exact .inr h)
  | _, _, .dic n h => .dic n (by rw [hid_out (fun z => n (hF _ z).1)]; exact h)
  | _, _, .exc0 h => .exc0 (by rw [hid_out (fun z => by have m := (hF _ z).2; rw [h] at m; exact m)]; exact h)
  | _, _, .exc1 h g f => .exc1 (by rw [hid_out (fun z => by have m := (hF _ z).2; rw [h] at m; exact m)]; exact h) (by rw [hid_out (fun z => by have m := (hF _ z).2; rw [g] at m; exact m)]; exact g) f
theorem Reps.hide (hF : ∀ a, F a → O a ∧ Mb (H a)) : ∀ {vs : List V} {ds : List D}, Reps K H O vs ds → Reps K (hid H F) O vs ds
  | _, _, .nil => .nil
  | _, _, .cons h r => .cons (Rep.hide hF h) (Reps.hide hF r)
end
/-- the slots' own objects -/
def Fp (fp : Nat → List Addr) : Addr → Prop := fun a => ∃ i, a ∈ fp i
theorem Sat.fp_ok (sat : Sat K Oc H0 H σ S fp) : ∀ a, Fp fp a → Ow Oc fp a ∧ Mb (H a) := fun a ⟨i, z⟩ => ⟨.inr ⟨i, z⟩, sat.there z⟩
/-- an iterator that gives the items -/
def Iter (K : PySem.W.Frag) (Oc : Addr → Prop) (G0 : Hp) (J : It) (items : List D) : Prop := ∃ (G : Hp → Prop) (Y : Nat → Hp → V → Hp → Prop), Walk J items.length G Y ∧ (∀ H, Ex G0 H → G H) ∧
  ∀ i H x H' d, items[i]? = some d → Ex G0 H → Y i H x H' → Ex H H' ∧ ∀ O : Addr → Prop, (∀ a, O a → Oc a ∨ G0 a = none) → Rep K H' O x d
end
noncomputable def ground (lv : Bool) (H : Hp) (fp : Nat → List Addr) : Hp := if lv then hid H (Fp fp) else H
def EvIt (K : PySem.W.Frag) (lv : Bool) (t : TI) (S : List Slot) (items : List D) : Prop := ∀ Oc H0 H σ fp, There Oc H → Sat K Oc H0 H σ S fp → ∀ R : It → Hp → Prop, (∀ J H1, Ex H H1 → Iter K (lvl lv Oc) (ground lv H1 fp) J items → R J H1) → t σ H R
def DIt (C : Ctx) (lv : Bool) (tg it : Expr) (S : List Slot) (items : List D) : Prop := ∀ W, EvIt C.M.K lv (tIt C tg it W) S items
theorem DIt.mk {tg it : Expr} {items : List D} (h : ∀ W, ∃ t, (∀ r, Fam C W r → PI (C.x r) tg it t) ∧ EvIt C.M.K lv t S items) : DIt C lv tg it S items := fun W Oc H0 H σ fp hod sat R hq => by
  obtain ⟨t, p, q⟩ := h W
  exact ⟨t, p, q Oc H0 H σ fp hod sat R hq⟩
theorem Reps.ground {K : PySem.W.Frag} {Oc : Addr → Prop} {H0 H : Hp} {σ : L2.St} {fp : Nat → List Addr} {vs : List V} (sat : Sat K Oc H0 H σ S fp) (h : Reps K H (lvl lv (Ow Oc fp)) vs ds) : Reps K (BK.ground lv H fp) (lvl lv Oc) vs ds := by
  cases lv with
  | true => exact (Reps.hide sat.fp_ok h).less fun _ z => .inl z
  | false => exact h
theorem iter_list {K : PySem.W.Frag} {Oc : Addr → Prop} {H0 H : Hp} {σ : L2.St} {fp : Nat → List Addr} {a : Addr} {vs : List V} (sat : Sat K Oc H0 H σ S fp) (na : lv = true → ¬ Fp fp a) (hs : SqL K H a vs) (hk : H a = none → SqL K (fun _ => none) a vs) (h : Reps K H (lvl lv (Ow Oc fp)) vs ds) :
    Iter K (lvl lv Oc) (BK.ground lv H fp) (Itl K a) ds := by
  have rg := Reps.ground sat h
  have hG : ∀ H', Ex (BK.ground lv H fp) H' → SqL K H' a vs := fun H' ex => by
    have ea : BK.ground lv H fp a = H a := by
      cases lv with
      | false => rfl
      | true => exact hid_out (na rfl)
    rcases hs with (z | ⟨o, z⟩) | z
    · exact .inl (.inl (ex _ _ (by rw [ea]; exact z)))
    · exact .inl (.inr ⟨o, ex _ _ (by rw [ea]; exact z)⟩)
    · exact .inr z
  refine ⟨fun H => SqL K H a vs, YAt vs, ?_, hG, fun i H1 x H2 d ed ex y => ?_⟩
  · rw [← h.length]; exact walk_list
  · obtain ⟨rfl, ex2⟩ := y
    obtain ⟨d', e1, r⟩ := rg.get ex2
    rw [ed] at e1
    cases e1
    exact ⟨Ex.refl _, fun O ho => r.step ex ho⟩
theorem dit_list {tg it : Expr} (h : DL C lv it S (.lst ds)) : DIt C lv tg it S ds := .mk fun W => ⟨iList C.M.K (tE C it W), fun r f => pi_list (pe_tE f), fun Oc H0 H σ fp hod sat R hq =>
  h W Oc H0 H σ fp hod sat _ fun v H1 e1 rep => by
    cases rep with
    | lst n hl rs =>
      refine ⟨_, rfl, ⟨_, .inl (.inl hl)⟩, hq _ H1 e1 (iter_list (sat.mono e1) (fun e z => ?_) (.inl (.inl hl)) (fun z => by rw [hl] at z; cases z) rs)⟩
      subst e
      exact n (.inr z)⟩
theorem walk_rng {lo : Int} {n : Nat} : Walk (Itr lo n) n (fun _ => True) (YFn fun i => .int (lo + (i : Nat))) := walk_range
theorem dit_range1 {tg a : Expr} {p : Pos} {n : Int} (hg : GlC C "range") (hm : C.M.mg "range" = none) (h : DI C a S n) (hb : n < 2 ^ 62 ∧ -(2 ^ 62) ≤ n) (hs : ∀ env, starEach [a] env = [(false, eval a env)] := by intro _; rfl) :
    DIt C lv tg (.Call (.Name "range" p) [a] [] pos) S ((List.range n.toNat).map fun i => .int (i : Nat)) := .mk fun W => ⟨iRng1 (tCons (tE C a W) tNil), fun r f => pi_range1 (hg.gl f.g) hm (pa_cons (pe_tE f) pa_nil (hs _)) (hs _), fun Oc H0 H σ fp hod sat R hq =>
  h W Oc H0 H σ fp hod sat _ (fun r v H1 er e1 res => by
    cases er; cases res
    refine ⟨n, rfl, hb.2, hb.1, hq _ H1 e1 ⟨fun _ => True, YFn fun i => .int (0 + (i : Nat)), ?_, fun _ _ => trivial, fun i H x H' d ed ex y => ?_⟩⟩
    · rw [List.length_map, List.length_range]; exact walk_rng
    · obtain ⟨rfl, rfl⟩ := y
      rw [List.getElem?_map] at ed
      by_cases hi : i < n.toNat
      · rw [List.getElem?_range hi] at ed
        cases ed
        refine ⟨Ex.refl _, fun O _ => ?_⟩
        show Rep C.M.K _ O (.int ((0 : Int) + (i : Nat))) (.int ((i : Nat) : Int))
        rw [Int.zero_add]; exact .int _
      · rw [List.getElem?_eq_none (by rw [List.length_range]; omega)] at ed; cases ed) (fun _ _ _ _ er => nomatch er)⟩
theorem dit_str {tg it : Expr} {z : Str} (h : DE C it S (.ok (.val (.str z)))) : DIt C lv tg it S (z.cps.toList.map fun c => .str ⟨#[c]⟩) := .mk fun W => ⟨iStr (tE C it W), fun r f => pi_str (pe_tE f), fun Oc H0 H σ fp hod sat R hq =>
  h W Oc H0 H σ fp hod sat _ (fun r v H1 er e1 res => by
    cases er; cases res
    refine ⟨z, rfl, hq _ H1 e1 ⟨_, (fun i H v H' => H' = H ∧ ∃ c, z.cps[i]? = some c ∧ v = .str ⟨#[c]⟩), ?_, fun _ _ => trivial, fun i H x H' d ed ex y => ?_⟩⟩
    · rw [List.length_map, Array.length_toList]; exact walk_str
    · obtain ⟨rfl, c, hc, rfl⟩ := y
      rw [List.getElem?_map, Array.getElem?_toList, hc] at ed
      cases ed
      exact ⟨Ex.refl _, fun O _ => .str _⟩) (fun _ _ _ _ er => nomatch er)⟩
theorem dit_enum {a : Expr} {tgs : List Expr} {kk : Nat} {p tp : Pos} (hg : GlC C "enumerate") (hm : C.M.mg "enumerate" = none) (h : DL C lv a S (.lst ds)) (hs : ∀ env, starEach [a] env = [(false, eval a env)] := by intro _; rfl) :
    DIt C lv (.Tuple tgs kk tp) (.Call (.Name "enumerate" p) [a] [] pos) S (ds.zipIdx.map fun di => .tup [.int (di.2 : Nat), di.1]) := .mk fun W => ⟨iEnum C.M.K (tCons (tE C a W) tNil), fun r f => pi_enum (hg.gl f.g) hm (pa_cons (pe_tE f) pa_nil (hs _)) (hs _), fun Oc H0 H σ fp hod sat R hq =>
  h W Oc H0 H σ fp hod sat _ fun v H1 e1 rep => by
    cases rep with
    | @lst a vs _ n hl rs =>
      have s1 := sat.mono e1
      have rg := Reps.ground s1 rs
      have ea : lv = true → ¬ Fp fp a := fun e z => by subst e; exact n (.inr z)
      have eg : BK.ground lv H1 fp a = H1 a := by
        cases lv with
        | false => rfl
        | true => exact hid_out (ea rfl)
      have hG : ∀ H', Ex (BK.ground lv H1 fp) H' → SqL C.M.K H' a vs := fun H' ex => .inl (.inl (ex _ _ (by rw [eg]; exact hl)))
      refine ⟨a, vs, rfl, .inl (.inl hl), hq _ H1 e1 ⟨fun H => SqL C.M.K H a vs, YPair (fun i => some (.int (i : Nat))) (fun i => vs[i]?), ?_, hG, fun i H2 x H3 d ed ex y => ?_⟩⟩
      · rw [List.length_map, List.length_zipIdx, ← rs.length]; exact walk_enum
      · obtain ⟨T, x1, x2, rfl, hT, rfl, h1, h2⟩ := y
        cases h1
        obtain ⟨d', e3, r⟩ := rg.get h2
        rw [List.getElem?_map, List.getElem?_zipIdx, e3] at ed
        cases ed
        refine ⟨Ex.new hT, fun O ho => .tup upd_same (.cons ?_ (.one ((r.step ex ho).mono (Ex.new hT))))⟩
        show Rep C.M.K _ O (.int (i : Nat)) (.int ((0 + i : Nat) : Int))
        rw [Nat.zero_add]; exact .int _⟩
theorem ds_for {tg it : Expr} {body : List Stmt} {items : List D} (htop : C.top = true) (hi : DIt C true tg it S items) (I : Nat → List Slot → Prop) (h0 : I 0 S)
    (hs : ∀ i d S', items[i]? = some d → I i S' → DG C tg S' d fun S2 => DSs C body S2 { P with nx := I (i + 1), ct := I (i + 1), bk := P.nx })
    (hd : ∀ S', I items.length S' → P.nx S') (hf : ∀ env x, foldedSetIterable it env x = pure x := by intro _ _; rfl) : DS C (.For tg it body [] pos) S P :=
  .mk fun W => ⟨tFor (tIt C tg it W) (tGt C tg W) (tSs C body W), fun r f => ps_for (f.g.stack htop).2.2.2 f.g.calm (pi_tI f) (pg_tG f) (pss_tSs f) (hf _), fun Oc H0 H σ fp hod sat D h1 h2 h3 h4 h5 =>
    hi W Oc H0 H σ fp (hod.up sat) sat _ fun J H1 e1 ⟨G, Y, w, hG, hY⟩ => by
      have s1 := sat.mono e1
      have x0 : Ex H0 (hid H1 (Fp fp)) := fun a o q => by
        rw [hid_out (fun ⟨i, z⟩ => by rw [sat.fr i a z] at q; cases q)]
        exact s1.ex a o q
      have hod' : There Oc (hid H1 (Fp fp)) := hod.ex x0
      have s0 : Sat C.M.K Oc (hid H1 (Fp fp)) H1 σ S fp := ⟨s1.len, s1.slot, s1.out, s1.dis, fun i a z => hid_in ⟨i, z⟩, hid_ex⟩
      have back : ∀ {S' H' σ' fp'}, Sat C.M.K Oc (hid H1 (Fp fp)) H' σ' S' fp' → Sat C.M.K Oc H0 H' σ' S' fp' := fun q => ⟨q.len, q.slot, q.out, q.dis, fun i a z => x0.back (q.fr i a z), x0.trans q.ex⟩
      refine for_it w (fun i σ' H' => ∃ S' fp', I i S' ∧ Sat C.M.K Oc (hid H1 (Fp fp)) H' σ' S' fp') ⟨S, fp, h0, s0⟩ (fun i σ' H' _ ⟨S', fp', _, q⟩ => hG H' q.ex) (fun i x σ' H' H2 hlt ⟨S', fp', hI, q⟩ y => ?_) fun σ' H' ⟨S', fp', hI, q⟩ => h1 S' H' σ' fp' (hd S' hI) (back q)
      have ed := List.getElem?_eq_getElem hlt
      obtain ⟨ex2, rep⟩ := hY i H' x H2 _ ed q.ex y
      have q2 := q.mono ex2
      refine hs i _ S' ed hI W Oc _ H2 σ' fp' (hod'.up q2) q2 x (rep _ fun a z => z.imp id fun ⟨k, z⟩ => q.fr k a z) _ fun S2 σ2 fp2 hB q3 => ?_
      exact hB W Oc _ H2 σ2 fp2 hod' q3 _ (fun S3 H3 σ3 fp3 hI3 q4 => ⟨S3, fp3, hI3, q4⟩) (fun r v H3 hr ex3 res => h2 r v H3 hr (x0.trans ex3) (res.base x0)) (fun e cls d H3 σ3 S3 fp3 he q4 xr => h3 e cls d H3 σ3 S3 fp3 he (back q4) xr)
        (fun S3 H3 σ3 fp3 hI3 q4 => h1 S3 H3 σ3 fp3 hI3 (back q4)) (fun S3 H3 σ3 fp3 hI3 q4 => ⟨S3, fp3, hI3, q4⟩)⟩
theorem ds_while {c : Expr} {body : List Stmt} (htop : C.top = true) (I : Nat → List Slot → Prop) (m0 : Nat) (h0 : I m0 S)
    (hs : ∀ m S', I m S' → ∃ x, DT C c S' x ∧ (x = true → DSs C body S' { P with nx := fun S2 => ∃ m', m' < m ∧ I m' S2, ct := fun S2 => ∃ m', m' < m ∧ I m' S2, bk := P.nx }) ∧ (x = false → P.nx S')) : DS C (.While c body [] pos) S P :=
  .mk fun W => ⟨tWhile (tT C c W) (tSs C body W), fun r f => ps_while (f.g.stack htop).2.2.2 (pt_tT f) (pss_tSs f), fun Oc H0 H σ fp hod sat D h1 h2 h3 h4 h5 => by
    refine ⟨fun m σ' H' => ∃ S' fp', I m S' ∧ Sat C.M.K Oc H0 H' σ' S' fp', ⟨m0, S, fp, h0, sat⟩, fun m σ' H' ⟨S', fp', hI, q⟩ => ?_⟩
    obtain ⟨x, hx, ht, hf⟩ := hs m S' hI
    refine hx W Oc H0 H' σ' fp' (hod.up q) q _ fun H2 ex => ?_
    cases x with
    | false =>
      rw [if_neg Bool.false_ne_true]
      exact h1 S' H2 σ' fp' (hf rfl) (q.mono ex)
    | true =>
      rw [if_pos rfl]
      refine ⟨fun σ2 H3 => ∃ S2 fp2, (∃ m', m' < m ∧ I m' S2) ∧ Sat C.M.K Oc H0 H3 σ2 S2 fp2, fun σ2 H3 ⟨S2, fp2, ⟨m', hm, hI2⟩, q2⟩ => ⟨m', hm, S2, fp2, hI2, q2⟩, ?_⟩
      exact ht rfl W Oc H0 H2 σ' fp' hod (q.mono ex) _ (fun S3 H3 σ3 fp3 hI3 q4 => ⟨S3, fp3, hI3, q4⟩) h2 h3 (fun S3 H3 σ3 fp3 hI3 q4 => h1 S3 H3 σ3 fp3 hI3 q4) (fun S3 H3 σ3 fp3 hI3 q4 => ⟨S3, fp3, hI3, q4⟩)⟩

/-! ### comprehensions -/
abbrev Ctx.blk (C : Ctx) (scope : Scope) : Ctx := { C with sc := relS scope C.sc, top := false }
abbrev W0 : WX := fun _ _ _ _ => False
theorem Fam.blk {W : WX} {r : Rst} (f : Fam C W r) (s : Shared) (H : Hp) (scope : Scope) (c : Addr) (cl : List (Str × Addr)) (fp : List Addr) :
    Fam (C.blk scope) W0 { A := r.A, s_0 := s, H_0 := H, env := compEnvC scope cl c r.env, outer := r.stack, stack := r.stack, ex := fp, fn := fun x => scope.names.lookup x == some .cell, calm := r.calm, pn := [], xe := fun _ _ => False } :=
  ⟨⟨by show relS scope r.env.scope = relS scope C.sc; rw [f.g.sc], f.g.calm, f.g.room, f.g.nd, .inr rfl, fun z => nomatch (show false = true from z)⟩, takes0⟩
/-- the target of a comprehension; vs: its slots -/
def DGc (C : Ctx) (vs : List Nat) (tg : Expr) (S : List Slot) (d : D) (S2 : List Slot) : Prop := ∀ W Oc H0 H σ fp, There Oc H → Sat C.M.K Oc H0 H σ S fp → ∀ v, Rep C.M.K H (Ow Oc fp) v d → ∀ Q : L2.St → Hp → Prop,
  (∀ σ2 fp2, wipe σ2 vs = wipe σ vs → (∀ a, Ow Oc fp a → Ow Oc fp2 a) → Sat C.M.K Oc H0 H σ2 S2 fp2 → Q σ2 H) → tGt C tg W v σ H Q
theorem wipe_set {σ : L2.St} {k : Nat} {x : Option V} : ∀ {vs : List Nat}, k ∈ vs → wipe (σ.set k x) vs = wipe σ vs
  | [], h => by cases h
  | v :: vs, h => by
    show (wipe (σ.set k x) vs).set v none = (wipe σ vs).set v none
    by_cases hk : k ∈ vs
    · rw [wipe_set hk]
    · have e : k = v := (List.mem_cons.mp h).resolve_right hk
      subst e
      have q : ∀ {ws : List Nat}, k ∉ ws → wipe (σ.set k x) ws = (wipe σ ws).set k x := by
        intro ws
        induction ws with
        | nil => intro _; rfl
        | cons w ws ih =>
          intro hw
          show (wipe (σ.set k x) ws).set w none = ((wipe σ ws).set w none).set k x
          rw [ih fun z => hw (List.mem_cons_of_mem _ z), List.set_comm _ _ (fun z => hw (by rw [z]; exact List.mem_cons_self))]
      rw [q hk, List.set_set]
theorem wipe_idem {σ : L2.St} : ∀ {vs ws : List Nat}, (∀ v ∈ ws, v ∈ vs) → wipe (wipe σ ws) vs = wipe σ vs
  | vs, [], _ => rfl
  | vs, w :: ws, h => by
    show wipe ((wipe σ ws).set w none) vs = _
    rw [wipe_set (h w List.mem_cons_self), wipe_idem fun v hv => h v (List.mem_cons_of_mem _ hv)]
theorem Sat.wipe {K : PySem.W.Frag} {Oc : Addr → Prop} {H0 H : Hp} {σ : L2.St} {fp : Nat → List Addr} (sat : Sat K Oc H0 H σ S fp) : ∀ {vs : List Nat}, (∀ v ∈ vs, S[v]? = some .any) → Sat K Oc H0 H (L2.wipe σ vs) S fp
  | [], _ => sat
  | w :: ws, h => by
    have s1 := Sat.wipe sat fun v hv => h v (List.mem_cons_of_mem _ hv)
    have hw := h w List.mem_cons_self
    have hlt := (List.getElem?_eq_some_iff.mp hw).1
    refine ⟨?_, fun i s e => ?_, s1.out, s1.dis, s1.fr, s1.ex⟩
    · show _ = ((L2.wipe σ ws).set w none).length
      rw [List.length_set]; exact s1.len
    · by_cases hi : i = w
      · subst hi
        rw [hw] at e; cases e
        exact s1.slot _ _ hw
      · have q := s1.slot i s e
        show SlotRep K H (Ow Oc fp) (((L2.wipe σ ws).set w none).getD i none) s (fp i)
        rw [getD_set_ne (Ne.symm hi)]; exact q
theorem dgc_name {x : Str} (j : Nat) (hN : C.N[j]? = some x) (hx : LocC C x) (hS : S[j]? = some .any) : DGc C [j] (.Name x pos) S d (S.set j (.val d)) := fun W Oc H0 H σ fp hod sat v rep Q hq =>
  ⟨gName j, fun r f => hx.pg hN f.g, by
    obtain ⟨fp', s', _, h2⟩ := sat.setv rep (List.getElem?_eq_some_iff.mp hS).1
    exact hq _ fp' (wipe_set List.mem_cons_self) (h2 hS) s'⟩
theorem dgc_tup2 {x y : Str} {p q : Pos} {k : Nat} {d1 d2 : D} (i j : Nat) (hij : i ≠ j) (hi : C.N[i]? = some x) (hj : C.N[j]? = some y) (hx : LocC C x) (hy : LocC C y) (li : S[i]? = some .any) (lj : S[j]? = some .any) :
    DGc C [i, j] (.Tuple [.Name x p, .Name y q] k pos) S (.tup [d1, d2]) ((S.set i (.val d1)).set j (.val d2)) := fun W Oc H0 H σ fp hod sat v rep Q hq =>
  ⟨gTup C.M.K 2 (gCons (gName i) (gCons (gName j) gNil)), fun r f => pg_tup f.g.calm (pgs_cons (hx.pg hi f.g) (pgs_cons (hy.pg hj f.g) pgs_nil)), by
    cases rep with
    | tup ha rs => cases rs with
      | cons r1 rs => cases rs with
        | cons r2 rs => cases rs with
          | nil =>
            obtain ⟨fp1, s1, sub1, sup1⟩ := sat.setv r1 (List.getElem?_eq_some_iff.mp li).1
            obtain ⟨fp2, s2, _, sup2⟩ := s1.setv (r2.less sub1) (j := j) (by rw [List.length_set]; exact (List.getElem?_eq_some_iff.mp lj).1)
            refine ⟨_, _, rfl, .inl (.inl ha), rfl, _, _, rfl, _, _, rfl, rfl, hq _ fp2 ?_ (fun a z => sup2 (by rw [List.getElem?_set_ne hij]; exact lj) a (sup1 li a z)) s2⟩
            rw [wipe_set (by simp), wipe_set (by simp)]⟩
/-- the list that a comprehension makes -/
theorem ev_lc {α : Type} {W : WX} {tg it : Expr} {ifs : List Expr} {scope : Scope} {vs : List Nat} {elt : Expr} (l : List α) (enc h : α → D) (p : α → Bool) (hi : DIt C lv tg it S (l.map enc)) (hv : ∀ v ∈ vs, S[v]? = some .any) (hz : l.length ≤ 1000000)
    (hfl : lv = true ∨ ∀ x ∈ l, Flat (enc x))
    (he : ∀ x ∈ l, ∃ S2 r, DGc (C.blk scope) vs tg S (enc x) S2 ∧ DTs (C.blk scope) ifs S2 (p x) ∧ (p x = true → DE (C.blk scope) elt S2 (.ok r) ∧ r.fz = some (h x))) :
    Ev C.M.K W (tLc (tIt C tg it W) (tGt (C.blk scope) tg W0) (tTs (C.blk scope) ifs W0) (tE (C.blk scope) elt W0) vs) S (.ok (.own ((l.filter p).map h))) := fun Oc H0 H σ fp hod sat Q hq hx =>
  hi W Oc H0 H σ fp hod sat _ fun J H1 e1 ⟨G, Y, w, hG, hY⟩ Dl hD => by
    have s1 := (sat.mono e1).wipe hv
    have gx : Ex (BK.ground lv H1 fp) H1 := by
      cases lv with
      | false => exact Ex.refl _
      | true => exact hid_ex
    let Oc' : Addr → Prop := fun a => Oc a ∨ a = Dl
    have sA : Sat C.M.K Oc' H0 H1 (L2.wipe σ vs) S fp := s1.avoid fun a z => z.imp id fun z => by rw [z]; exact hD
    let Pv : Nat → Hp → Prop := fun i H' => ∃ acc, Ex H1 H' ∧ H' Dl = some (.lst acc) ∧ Reps C.M.K H' (Ow Oc' fp) acc (((l.take i).filter p).map h)
    refine lc_it w Pv ⟨[], Ex.new hD, upd_same, .nil⟩ (fun i H' _ ⟨_, ex, _⟩ => hG H' (gx.trans ex)) (fun i x H' H2 hlt ⟨acc, ex, hl, reps⟩ y => ?_) fun H' ⟨acc, ex, hl, reps⟩ => ?_
    · have hlt' : i < l.length := by rw [List.length_map] at hlt; exact hlt
      have ed : (l.map enc)[i]? = some (enc l[i]) := by rw [List.getElem?_map, List.getElem?_eq_getElem hlt']; rfl
      have mem : l[i] ∈ l := List.getElem_mem hlt'
      obtain ⟨ex2, rep⟩ := hY i H' x H2 _ ed (gx.trans ex) y
      have rx : Rep C.M.K H2 (Ow Oc' fp) x (enc l[i]) := by
        rcases hfl with rfl | hfl
        · refine rep _ fun a z => ?_
          rcases z with (z | z) | z
          · exact .inl z
          · right; rw [z]
            by_cases q : Fp fp Dl
            · exact hid_in q
            · show hid H1 (Fp fp) Dl = none; rw [hid_out q]; exact hD
          · exact .inr (hid_in z)
        · exact Rep.flat (rep no fun _ z => z.elim) (hfl _ mem)
      have sB := sA.mono (ex.trans ex2)
      have t2 : There Oc' H2 := fun a z => by
        rcases z with z | z
        · exact (hod.ex ((e1.trans ex).trans ex2)) a z
        · rw [z, ex2 _ _ hl]; exact fun z => nomatch z
      obtain ⟨S2, rr, hg, ht, hel⟩ := he _ mem
      have tk : l.take (i + 1) = l.take i ++ [l[i]] := by rw [List.take_add_one, List.getElem?_eq_getElem hlt']; rfl
      refine hg W0 Oc' H0 H2 _ fp t2 sB x rx _ fun σ2 fp2 hw sup sC => ⟨hw.trans (wipe_idem fun _ z => z), ?_⟩
      refine ht W0 Oc' H0 H2 σ2 fp2 t2 sC _ fun H3 e3 => ?_
      by_cases hp : p l[i] = true
      · rw [if_pos hp]
        obtain ⟨hel, hfz⟩ := hel hp
        have sD := sC.mono e3
        refine hel W0 Oc' H0 H3 σ2 fp2 (t2.ex e3) sD _ (fun r v H4 er e4 res => ?_) (fun _ _ _ _ er => nomatch er)
        cases er
        have rv := res.frz (sD.thereO (t2.ex e3)) hfz
        have ex4 : Ex H1 H4 := ((ex.trans ex2).trans e3).trans e4
        have hl4 : H4 Dl = some (.lst acc) := e4 _ _ (e3 _ _ (ex2 _ _ hl))
        have oD : Ow Oc' fp2 Dl := .inl (.inr rfl)
        have oD1 : Ow Oc' fp Dl := .inl (.inr rfl)
        have mb : Mb (H4 Dl) := by rw [hl4]; trivial
        refine ⟨acc, hl4, ?_, acc ++ [v], ex4.mut hD, upd_same, ?_⟩
        · rw [reps.length, List.length_map]
          refine sz_lt (Nat.le_trans (List.length_filter_le _ _) ?_)
          rw [List.length_take]; exact Nat.le_trans (Nat.min_le_right _ _) hz
        · rw [tk, List.filter_append, List.map_append]
          refine (((reps.mono ((ex2.trans e3).trans e4)).write oD1 mb).app ?_)
          rw [show [l[i]].filter p = [l[i]] by simp [hp]]
          exact .one ((rv.write oD mb).less fun a z => sup a z)
      · rw [if_neg hp]
        refine ⟨acc, (ex.trans ex2).trans e3, e3 _ _ (ex2 _ _ hl), ?_⟩
        rw [tk, List.filter_append, show [l[i]].filter p = [] by simp [hp], List.append_nil]
        exact reps.mono (ex2.trans e3)
    · refine hq _ _ H' rfl (e1.trans ex) ⟨Dl, acc, rfl, e1.back hD, hl, ?_⟩
      rw [List.length_map, List.take_length] at reps
      exact reps.less fun a z => by
        rcases z with (z | z) | z
        · exact .inl (.inl z)
        · exact .inr z
        · exact .inl (.inr z)
theorem de_comp {α : Type} {tg it elt : Expr} {ifs : List Expr} {scope : Scope} (own : List (Str × Nat)) (l : List α) (enc h : α → D) (p : α → Bool) (hb : blkC C.N C.sc scope own = true) (hi : DIt C lv tg it S (l.map enc)) (hv : ∀ v ∈ own.map (·.2), S[v]? = some .any) (hz : l.length ≤ 1000000)
    (hfl : lv = true ∨ ∀ x ∈ l, Flat (enc x))
    (he : ∀ x ∈ l, ∃ S2 r, DGc (C.blk scope) (own.map (·.2)) tg S (enc x) S2 ∧ DTs (C.blk scope) ifs S2 (p x) ∧ (p x = true → DE (C.blk scope) elt S2 (.ok r) ∧ r.fz = some (h x)))
    (hf : ∀ env x, foldedSetIterable it env x = pure x := by intro _ _; rfl) : DE C (.ListComp elt [⟨tg, it, ifs, 0⟩] scope pos) S (.ok (.own ((l.filter p).map h))) :=
  .mk fun W => ⟨_, fun r f => pe_lc (X := C.x r) f.g.calm f.g.nd (pi_tI f) (by have := blkOk_by hb; rw [← f.g.sc] at this; exact this) (fun s H c cl fp => pg_tG (f.blk s H scope c cl fp)) (fun s H c cl fp => pts_tT (f.blk s H scope c cl fp)) (fun s H c cl fp => pe_tE (f.blk s H scope c cl fp)) (hf _), ev_lc l enc h p hi hv hz hfl he⟩
theorem ds_setLc {α : Type} {tg it elt : Expr} {ifs : List Expr} {scope : Scope} {z : Str} {py : Pos} (j : Nat) (own : List (Str × Nat)) (l : List α) (enc h : α → D) (p : α → Bool) (hN : C.N[j]? = some z) (hx : C.sc.names.lookup z = some .local) (hj : j < S.length) (hln : (py.line == pos'.line) = true) (hnn : (scope.names.any fun (n, k) => n == z && (k == .local || k == .cell)) = false) (hk : C.sc.kind = .function)
    (hb : blkC C.N C.sc scope own = true) (hi : DIt C lv tg it S (l.map enc)) (hv : ∀ v ∈ own.map (·.2), S[v]? = some .any) (hz : l.length ≤ 1000000) (hfl : lv = true ∨ ∀ x ∈ l, Flat (enc x))
    (he : ∀ x ∈ l, ∃ S2 r, DGc (C.blk scope) (own.map (·.2)) tg S (enc x) S2 ∧ DTs (C.blk scope) ifs S2 (p x) ∧ (p x = true → DE (C.blk scope) elt S2 (.ok r) ∧ r.fz = some (h x)))
    (hP : P.nx (S.set j (.own ((l.filter p).map h)))) (hf : ∀ env x, foldedSetIterable it env x = pure x := by intro _ _; rfl) : DS C (.Assign [.Name z py] (.ListComp elt [⟨tg, it, ifs, 0⟩] scope pos') pos) S P :=
  .mk fun W => ⟨tAsg (tLc (tIt C tg it W) (tGt (C.blk scope) tg W0) (tTs (C.blk scope) ifs W0) (tE (C.blk scope) elt W0) (own.map (·.2))) (gName j), fun r f => by
      have ec : (C.x r).env.scope = C.sc := f.g.sc
      refine ps_setLc (X := C.x r) f.g.calm f.g.nd hN (by rw [ec]; exact hx) (sw_true (by rw [ec]; exact hk) (by rw [ec]; exact hx) ?_ hnn) (pi_tI f) (by have := blkOk_by hb; rw [← f.g.sc] at this; exact this) (fun s H c cl fp => pg_tG (f.blk s H scope c cl fp)) (fun s H c cl fp => pts_tT (f.blk s H scope c cl fp)) (fun s H c cl fp => pe_tE (f.blk s H scope c cl fp)) (hf _)
      exact hln, fun Oc H0 H σ fp hod sat D h1 h2 h3 h4 h5 => ev_lc (W := W) l enc h p hi hv hz hfl he Oc H0 H σ fp (hod.up sat) sat _
      (fun r v H' er ex res => by
        obtain ⟨fp', s'⟩ := sat.set ex res hj
        cases er
        exact h1 _ H' _ fp' hP s') (fun _ _ _ _ er => nomatch er)⟩
end
end BK
/-! Part D: displays, subscripts, slices, built-ins. -/
namespace BK
open PySem PySem.Spec PyProof.Rows L2
section
variable {C : Ctx} {S : List Slot} {P P' : Post} {e a b : Expr} {es : List Expr} {o : Out} {r : R} {d : D} {ds : List D} {lv : Bool} {pos pos' : Pos} {x y : Bool} {i j : Int}
/-! ### displays -/
theorem sz_le {n : Nat} (h : n ≤ 1000000) : n ≤ sizeLine := Nat.le_of_lt (sz_lt h)
theorem de_tup {k : Nat} (h : DA C lv es S ds) (hf : lv = true ∨ ∀ d ∈ ds, Flat d) (hz : ds.length ≤ 1000000) : DE C (.Tuple es k pos) S (.ok (.val (.tup ds))) :=
  .mk fun W => ⟨tTup (tA C es W), fun r f => pe_tup (pa_tA f), fun Oc H0 H σ fp hod sat Q hq hx => h W Oc H0 H σ fp hod sat _ fun vs H1 e1 reps =>
    ⟨by rw [reps.length]; exact sz_le hz, fun p hp => hq _ _ _ rfl (e1.trans (Ex.new hp)) (.tup upd_same (by
      rcases hf with rfl | hf
      · exact reps.mono (Ex.new hp)
      · exact (reps.flat hf).mono (Ex.new hp)))⟩⟩
theorem de_lst (h : DA C lv es S ds) (hf : lv = true ∨ ∀ d ∈ ds, Flat d) (hz : ds.length ≤ 1000000) : DE C (.List es pos) S (.ok (.own ds)) :=
  .mk fun W => ⟨tLst (tA C es W), fun r f => pe_lst (pa_tA f), fun Oc H0 H σ fp hod sat Q hq hx => h W Oc H0 H σ fp hod sat _ fun vs H1 e1 reps =>
    ⟨by rw [reps.length]; exact sz_le hz, fun p hp => hq _ _ _ rfl (e1.trans (Ex.new hp)) ⟨p, vs, rfl, e1.back hp, upd_same, by
      have q : Reps C.M.K H1 (Ow Oc fp) vs ds := by
        rcases hf with rfl | hf
        · exact reps
        · exact reps.flat hf
      exact q.step (Ex.new hp) fun a z => z.imp id fun z => by rw [z]; exact hp⟩⟩⟩
theorem de_nil : DE C (.List [] pos) S (.ok (.own [])) := de_lst (lv := true) da_nil (.inl rfl) (Nat.zero_le _)
theorem de_dic0 : DE C (.Dict [] [] pos) S (.ok (.ownD [])) :=
  .mk fun W => ⟨tDNewK, fun r f => pe_dnewK, fun Oc H0 H σ fp hod sat Q hq hx => fun p hp => hq _ _ _ rfl (Ex.new hp) ⟨p, rfl, hp, upd_same⟩⟩

/-! ### subscripts -/
theorem atI_reps {K : PySem.W.Frag} {H : Hp} {O : Addr → Prop} {vs : List V} {k : Int} (h : Reps K H O vs ds) (hk : atI ds k = some d) : ∃ v, atI vs k = some v ∧ Rep K H O v d := by
  unfold atI at hk ⊢
  rw [h.length]
  cases e : ixN ds.length k with
  | none => rw [e] at hk; cases hk
  | some n =>
    rw [e] at hk
    exact h.getD hk
theorem dl_ixL {k : Int} (ha : DL C lv a S (.lst ds)) (hb : DI C b S k) (hk : atI ds k = some d) (hs : PlainIx b) : DL C lv (.Subscript a b pos) S d := fun W Oc H0 H σ fp hod sat Q hq =>
  ⟨tOp (rIxL C.M.K) (tE C a W) (tE C b W), fun r f => pe_ix ix_list (pe_tE f) (pe_tE f) hs, ha W Oc H0 H σ fp hod sat _ fun v H1 e1 rep => hb W Oc H0 H1 σ fp (hod.ex e1) (sat.mono e1) _ (fun r w H2 er e2 res => by
    cases er; cases res
    cases rep with
    | lst n hl rs =>
      obtain ⟨v, hv, rv⟩ := atI_reps (rs.mono e2) hk
      exact ⟨_, _, k, v, rfl, rfl, .inl (.inl (e2 _ _ hl)), hv, hq v H2 (e1.trans e2) rv⟩) (fun _ _ _ _ er => nomatch er)⟩
theorem dl_ixT {k : Int} (ha : DL C lv a S (.tup ds)) (hb : DI C b S k) (hk : atI ds k = some d) (hs : PlainIx b) : DL C lv (.Subscript a b pos) S d := fun W Oc H0 H σ fp hod sat Q hq =>
  ⟨tOp (rIxT C.M.K) (tE C a W) (tE C b W), fun r f => pe_ix ix_tup (pe_tE f) (pe_tE f) hs, ha W Oc H0 H σ fp hod sat _ fun v H1 e1 rep => hb W Oc H0 H1 σ fp (hod.ex e1) (sat.mono e1) _ (fun r w H2 er e2 res => by
    cases er; cases res
    cases rep with
    | tup hl rs =>
      obtain ⟨v, hv, rv⟩ := atI_reps (rs.mono e2) hk
      exact ⟨_, _, k, v, rfl, rfl, .inl (.inl (e2 _ _ hl)), hv, hq v H2 (e1.trans e2) rv⟩) (fun _ _ _ _ er => nomatch er)⟩
theorem de_ixS {k : Int} {z : Str} {c : Nat} (ha : DE C a S (.ok (.val (.str z)))) (hb : DI C b S k) (hz : z.length ≤ 1000000) (hk : atI z.cps.toList k = some c) (hs : PlainIx b) : DE C (.Subscript a b pos) S (.ok (.val (.str ⟨#[c]⟩))) :=
  .mk fun W => ⟨tOp rIxS (tE C a W) (tE C b W), fun r f => pe_ix ix_str (pe_tE f) (pe_tE f) hs, fun Oc H0 H σ fp hod sat Q hq hx => ha W Oc H0 H σ fp hod sat _ (fun r v H1 er e1 res => by
    cases er; cases res
    exact hb W Oc H0 H1 σ fp (hod.ex e1) (sat.mono e1) _ (fun r w H2 er e2 res => by
      cases er; cases res
      exact ⟨z, k, c, rfl, rfl, sz_le hz, hk, hq _ _ H2 rfl (e1.trans e2) (.str _)⟩) (fun _ _ _ _ er => nomatch er)) (fun _ _ _ _ er => nomatch er)⟩
theorem de_ixScr {k n : Int} {ns : List Int} (ha : DL C false a S (.scr ns)) (hb : DI C b S k) (hk : atI ns k = some n) (hs : PlainIx b) : DI C (.Subscript a b pos) S n :=
  .mk fun W => ⟨tOp (rIxL C.M.K) (tE C a W) (tE C b W), fun r f => pe_ix ix_list (pe_tE f) (pe_tE f) hs, fun Oc H0 H σ fp hod sat Q hq hx => ha W Oc H0 H σ fp hod sat _ fun v H1 e1 rep => hb W Oc H0 H1 σ fp (hod.ex e1) (sat.mono e1) _ (fun r w H2 er e2 res => by
      cases er; cases res
      cases rep with
      | scr hl =>
        refine ⟨_, _, k, .int n, rfl, rfl, (hl.ex e2).sqL, ?_, hq _ _ H2 rfl (e1.trans e2) (.int _)⟩
        unfold atI at hk ⊢
        rw [List.length_map]
        cases e : ixN ns.length k with
        | none => rw [e] at hk; cases hk
        | some m =>
          rw [e] at hk
          show (ns.map V.int)[m]? = _
          rw [List.getElem?_map, show ns[m]? = some n from hk]; rfl) (fun _ _ _ _ er => nomatch er)⟩

/-! ### slices -/
def DO (C : Ctx) (oe : Option Expr) (S : List Slot) (k : Option Int) : Prop := ∀ W, ∃ t, (∀ r, Fam C W r → PO (C.x r) oe t) ∧ ∀ Oc H0 H σ fp, There Oc H → Sat C.M.K Oc H0 H σ S fp → ∀ Q : Option Int → Hp → Prop, (∀ H', Ex H H' → Q k H') → t σ H Q
theorem do_none : DO C none S none := fun W => ⟨tNoPart, fun _ _ => po_none, fun Oc H0 H σ fp hod sat Q hq => hq H (Ex.refl H)⟩
theorem do_some (h : DI C e S i) : DO C (some e) S (some i) := fun W => ⟨tPart (tE C e W), fun r f => po_some (pe_tE f), fun Oc H0 H σ fp hod sat Q hq => h W Oc H0 H σ fp hod sat _ (fun r v H1 er e1 res => by cases er; cases res; exact ⟨i, rfl, hq H1 e1⟩) (fun _ _ _ _ er => nomatch er)⟩
def cutG {α : Type} (xs : List α) (lo hi : Option Int) : List α := (xs.drop (HT.sIx xs.length 0 lo)).take (HT.sIx xs.length xs.length hi - HT.sIx xs.length 0 lo)
theorem Reps.cut {K : PySem.W.Frag} {H : Hp} {O : Addr → Prop} {vs : List V} (h : Reps K H O vs ds) (lo hi : Option Int) : Reps K H O (cutV vs lo hi) (cutG ds lo hi) := by
  unfold cutV cutG
  rw [h.length]
  exact (h.drop _).take _
theorem cutG_len {α : Type} (xs : List α) (lo hi : Option Int) : (cutG xs lo hi).length ≤ xs.length := by
  unfold cutG
  rw [List.length_take, List.length_drop]; omega
theorem cutG_mem {α : Type} {xs : List α} {lo hi : Option Int} {x : α} (h : x ∈ cutG xs lo hi) : x ∈ xs := List.mem_of_mem_drop (List.mem_of_mem_take h)
theorem cutG_map {α β : Type} (f : α → β) (xs : List α) (lo hi : Option Int) : cutG (xs.map f) lo hi = (cutG xs lo hi).map f := by
  unfold cutG
  rw [List.length_map, List.map_take, List.map_drop]
theorem cutV_map {α : Type} (f : α → V) (xs : List α) (lo hi : Option Int) : cutV (xs.map f) lo hi = (cutG xs lo hi).map f := by
  unfold cutV cutG
  rw [List.length_map, List.map_take, List.map_drop]
theorem de_slL {p2 : Pos} {lo hi : Option Expr} {k l : Option Int} (ha : DL C lv a S (.lst ds)) (hl : DO C lo S k) (hh : DO C hi S l) (hf : lv = true ∨ ∀ d ∈ ds, Flat d) : DE C (.Subscript a (.Slice lo hi none p2) pos) S (.ok (.own (cutG ds k l))) :=
  .mk fun W => by
    obtain ⟨t1, p1, q1⟩ := hl W
    obtain ⟨t2, p2, q2⟩ := hh W
    exact ⟨tSl (rSlL C.M.K) (tE C a W) t1 t2, fun r f => pe_slice sl_list (pe_tE f) (p1 r f) (p2 r f), fun Oc H0 H σ fp hod sat Q hq hx => ha W Oc H0 H σ fp hod sat _ fun v H1 e1 rep =>
      q1 Oc H0 H1 σ fp (hod.ex e1) (sat.mono e1) _ fun H2 e2 => q2 Oc H0 H2 σ fp (hod.ex (e1.trans e2)) (sat.mono (e1.trans e2)) _ fun H3 e3 => by
        cases rep with
        | @lst _ vs0 _ n hla rs =>
          refine ⟨_, _, rfl, .inl (.inl (e3 _ _ (e2 _ _ hla))), fun p hp => hq _ _ _ rfl (((e1.trans e2).trans e3).trans (Ex.new hp)) ⟨p, _, rfl, ((e1.trans e2).trans e3).back hp, upd_same, ?_⟩⟩
          have q := (rs.mono (e2.trans e3)).cut k l
          have q' : Reps C.M.K H3 (Ow Oc fp) (cutV vs0 k l) (cutG ds k l) := by
            rcases hf with rfl | hf
            · exact q
            · exact q.flat fun d hd => hf d (cutG_mem hd)
          exact q'.step (Ex.new hp) fun a z => z.imp id fun z => by rw [z]; exact hp⟩
theorem de_slScr {p2 : Pos} {lo hi : Option Expr} {k l : Option Int} {ns : List Int} (ha : DL C false a S (.scr ns)) (hl : DO C lo S k) (hh : DO C hi S l) : DE C (.Subscript a (.Slice lo hi none p2) pos) S (.ok (.own ((cutG ns k l).map D.int))) :=
  .mk fun W => by
    obtain ⟨t1, p1, q1⟩ := hl W
    obtain ⟨t2, p2, q2⟩ := hh W
    exact ⟨tSl (rSlL C.M.K) (tE C a W) t1 t2, fun r f => pe_slice sl_list (pe_tE f) (p1 r f) (p2 r f), fun Oc H0 H σ fp hod sat Q hq hx => ha W Oc H0 H σ fp hod sat _ fun v H1 e1 rep =>
      q1 Oc H0 H1 σ fp (hod.ex e1) (sat.mono e1) _ fun H2 e2 => q2 Oc H0 H2 σ fp (hod.ex (e1.trans e2)) (sat.mono (e1.trans e2)) _ fun H3 e3 => by
        cases rep with
        | scr hl =>
          refine ⟨_, _, rfl, ((hl.ex e2).ex e3).sqL, fun p hp => hq _ _ _ rfl (((e1.trans e2).trans e3).trans (Ex.new hp)) ⟨p, _, rfl, ((e1.trans e2).trans e3).back hp, upd_same, ?_⟩⟩
          rw [cutV_map]; exact Reps.ints _⟩
theorem de_slS {p2 : Pos} {lo hi : Option Expr} {k l : Option Int} {z : Str} (ha : DE C a S (.ok (.val (.str z)))) (hl : DO C lo S k) (hh : DO C hi S l) (hz : z.length ≤ 1000000) : DE C (.Subscript a (.Slice lo hi none p2) pos) S (.ok (.val (.str (cutS z k l)))) :=
  .mk fun W => by
    obtain ⟨t1, p1, q1⟩ := hl W
    obtain ⟨t2, p2, q2⟩ := hh W
    exact ⟨tSl rSlS (tE C a W) t1 t2, fun r f => pe_slice sl_str (pe_tE f) (p1 r f) (p2 r f), fun Oc H0 H σ fp hod sat Q hq hx => ha W Oc H0 H σ fp hod sat _ (fun r v H1 er e1 res => by
      cases er; cases res
      exact q1 Oc H0 H1 σ fp (hod.ex e1) (sat.mono e1) _ fun H2 e2 => q2 Oc H0 H2 σ fp (hod.ex (e1.trans e2)) (sat.mono (e1.trans e2)) _ fun H3 e3 => ⟨z, rfl, sz_le hz, hq _ _ H3 rfl ((e1.trans e2).trans e3) (.str _)⟩) (fun _ _ _ _ er => nomatch er)⟩

/-! ### lists, texts by operators -/
theorem op2_cat {K : PySem.W.Frag} {es : List D} (hz : ds.length + es.length ≤ 1000000) : Op2 K rCat (.lst ds) (.lst es) (.own (ds ++ es)) := fun A H x y Q hA rx ry hq => by
  cases rx with
  | lst n hl rs => cases ry with
    | lst n2 hl2 rs2 =>
      refine ⟨_, _, _, _, rfl, rfl, hl, hl2, by rw [rs.length, rs2.length]; exact sz_le hz, fun p hp => hq _ _ (Ex.new hp) ⟨p, _, rfl, hp, upd_same, ?_⟩⟩
      exact (rs.app rs2).step (Ex.new hp) fun a z => z.imp id fun z => by rw [z]; exact hp
theorem de_cat {es : List D} (ha : DL C lv a S (.lst ds)) (hb : DL C lv b S (.lst es)) (hz : ds.length + es.length ≤ 1000000) (hf : lv = true ∨ ∀ d ∈ ds ++ es, Flat d) : DE C (.BinOp a .Add b pos) S (.ok (.own (ds ++ es))) := de_op (fun _ _ => op_cat) ha hb (op2_cat hz) hf
theorem op2_catS {K : PySem.W.Frag} {s t : Str} (hz : s.length + t.length ≤ 1000000) : Op2 K (fun x y H Q => ∃ i j, x = .str i ∧ y = .str j ∧ i.length + j.length ≤ sizeLine ∧ Q (.str (i ++ j)) H) (.str s) (.str t) (.val (.str (s ++ t))) := fun A H x y Q hA rx ry hq => by
  cases rx; cases ry
  exact ⟨s, t, rfl, rfl, sz_le hz, hq _ H (Ex.refl H) (.str _)⟩
theorem de_catS {s t : Str} (ha : DE C a S (.ok (.val (.str s)))) (hb : DE C b S (.ok (.val (.str t)))) (hz : s.length + t.length ≤ 1000000) : DE C (.BinOp a .Add b pos) S (.ok (.val (.str (s ++ t)))) := de_op (lv := false) (fun _ _ => op_add_str) (dl_val ha) (dl_val hb) (op2_catS hz) (.inr (.str _))
theorem rep_reps {K : PySem.W.Frag} {H : Hp} {O : Addr → Prop} {vs : List V} (h : Reps K H O vs ds) : ∀ n, Reps K H O (List.replicate n vs).flatten (List.replicate n ds).flatten
  | 0 => .nil
  | n + 1 => by
    rw [List.replicate_succ, List.replicate_succ, List.flatten_cons, List.flatten_cons]
    exact h.app (rep_reps h n)

/-! ### in, not in a written tuple -/
theorem none_sqT {K : PySem.W.Frag} {H : Hp} {a : Addr} {xs : List V} (h : SqT K (fun _ => none) a xs) : SqT K H a xs := by
  rcases h with (h | ⟨_, h⟩) | h
  · exact nomatch h
  · exact nomatch h
  · exact .inr h
theorem op2_inK {K : PySem.W.Frag} {xs : List V} {v : V} (ea : d.sc = some v) : Op2 K (rIn K false) d (.ktup xs) (.val (.bl (inV v xs))) := fun A H x y Q hA rx ry hq => by
  have := rx.scal ea
  subst this
  have fv : flatV x = true := by cases rx <;> first | rfl | cases ea
  cases ry with
  | ktup hs hf => exact ⟨_, xs, rfl, .inr (none_sqT hs), fv, hf, hq _ H (Ex.refl H) (.bl _)⟩
theorem op2_notInK {K : PySem.W.Frag} {xs : List V} {v : V} (ea : d.sc = some v) : Op2 K (rIn K true) d (.ktup xs) (.val (.bl (!inV v xs))) := fun A H x y Q hA rx ry hq => by
  have := rx.scal ea
  subst this
  have fv : flatV x = true := by cases rx <;> first | rfl | cases ea
  cases ry with
  | ktup hs hf => exact ⟨_, xs, rfl, .inr (none_sqT hs), fv, hf, hq _ H (Ex.refl H) (.bl _)⟩

/-! ### built-ins -/
theorem reps1 {K : PySem.W.Frag} {H : Hp} {O : Addr → Prop} {vs : List V} (h : Reps K H O vs [d]) : ∃ v, vs = [v] ∧ Rep K H O v d := by
  cases h with
  | cons h r => cases r; exact ⟨_, rfl, h⟩
theorem reps2 {K : PySem.W.Frag} {H : Hp} {O : Addr → Prop} {vs : List V} {d2 : D} (h : Reps K H O vs [d, d2]) : ∃ v w, vs = [v, w] ∧ Rep K H O v d ∧ Rep K H O w d2 := by
  cases h with
  | cons h r => cases r with
    | cons h2 r => cases r; exact ⟨_, _, rfl, h, h2⟩
theorem boot_max : bootBuiltins "max" = some (.builtin "max") := by decide +kernel
theorem boot_min : bootBuiltins "min" = some (.builtin "min") := by decide +kernel
theorem boot_abs : bootBuiltins "abs" = some (.builtin "abs") := by decide +kernel
theorem boot_sum : bootBuiltins "sum" = some (.builtin "sum") := by decide +kernel
theorem boot_list : bootBuiltins "list" = some (.type "list") := by decide +kernel
theorem boot_int : bootBuiltins "int" = some (.type "int") := by decide +kernel
theorem boot_str : bootBuiltins "str" = some (.type "str") := by decide +kernel
theorem boot_isinstance : bootBuiltins "isinstance" = some (.builtin "isinstance") := by decide +kernel
theorem boot_sorted : bootBuiltins "sorted" = some (.builtin "sorted") := by decide +kernel
theorem de_len {p : Pos} (hg : GlC C "len") (hm : C.M.mg "len" = none) (ha : DL C false a S (.lst ds)) (hs : ∀ env, starEach (a :: []) env = (false, eval a env) :: starEach [] env := by intro _; rfl) : DE C (.Call (.Name "len" p) [a] [] pos) S (.ok (.val (.int (ds.length : Nat)))) := by
  refine de_callB (lv := false) (rc := (fun xs H Q => ∃ p ys, xs = [.ref p] ∧ (SqL C.M.K H p ys ∨ SqT C.M.K H p ys) ∧ Q (.int ys.length) H)) (r := .val (.int (ds.length : Nat))) (fun _ _ => call_len_seq) hg hm PySem.boot_len (by decide) (by decide) (da_cons ha da_nil hs) (fun A H vs Q hA reps hq => ?_) (.inr (.int _)) hs (fun _ => rfl)
  obtain ⟨v, rfl, rep⟩ := reps1 reps
  cases rep with
  | lst n hl rs => exact ⟨_, _, rfl, .inl (.inl (.inl hl)), by rw [rs.length]; exact hq _ H (Ex.refl H) (.int _)⟩
theorem de_lenScr {p : Pos} {ns : List Int} (hg : GlC C "len") (hm : C.M.mg "len" = none) (ha : DL C false a S (.scr ns)) (hs : ∀ env, starEach (a :: []) env = (false, eval a env) :: starEach [] env := by intro _; rfl) : DE C (.Call (.Name "len" p) [a] [] pos) S (.ok (.val (.int (ns.length : Nat)))) := by
  refine de_callB (lv := false) (rc := (fun xs H Q => ∃ p ys, xs = [.ref p] ∧ (SqL C.M.K H p ys ∨ SqT C.M.K H p ys) ∧ Q (.int ys.length) H)) (r := .val (.int (ns.length : Nat))) (fun _ _ => call_len_seq) hg hm PySem.boot_len (by decide) (by decide) (da_cons ha da_nil hs) (fun A H vs Q hA reps hq => ?_) (.inr (.int _)) hs (fun _ => rfl)
  obtain ⟨v, rfl, rep⟩ := reps1 reps
  cases rep with
  | scr hl => exact ⟨_, _, rfl, .inl hl.sqL, by rw [List.length_map]; exact hq _ H (Ex.refl H) (.int _)⟩
theorem de_lenT {p : Pos} (hg : GlC C "len") (hm : C.M.mg "len" = none) (ha : DL C false a S (.tup ds)) (hs : ∀ env, starEach (a :: []) env = (false, eval a env) :: starEach [] env := by intro _; rfl) : DE C (.Call (.Name "len" p) [a] [] pos) S (.ok (.val (.int (ds.length : Nat)))) := by
  refine de_callB (lv := false) (rc := (fun xs H Q => ∃ p ys, xs = [.ref p] ∧ (SqL C.M.K H p ys ∨ SqT C.M.K H p ys) ∧ Q (.int ys.length) H)) (r := .val (.int (ds.length : Nat))) (fun _ _ => call_len_seq) hg hm PySem.boot_len (by decide) (by decide) (da_cons ha da_nil hs) (fun A H vs Q hA reps hq => ?_) (.inr (.int _)) hs (fun _ => rfl)
  obtain ⟨v, rfl, rep⟩ := reps1 reps
  cases rep with
  | tup hl rs => exact ⟨_, _, rfl, .inr (.inl (.inl hl)), by rw [rs.length]; exact hq _ H (Ex.refl H) (.int _)⟩
theorem de_lenS {p : Pos} {z : Str} (hg : GlC C "len") (hm : C.M.mg "len" = none) (ha : DE C a S (.ok (.val (.str z)))) (hz : z.length ≤ 1000000) (hs : ∀ env, starEach (a :: []) env = (false, eval a env) :: starEach [] env := by intro _; rfl) : DE C (.Call (.Name "len" p) [a] [] pos) S (.ok (.val (.int (z.length : Nat)))) := by
  refine de_callB (lv := false) (rc := (fun xs H Q => ∃ z, xs = [.str z] ∧ z.length ≤ sizeLine ∧ Q (.int z.length) H)) (r := .val (.int (z.length : Nat))) (fun _ _ => call_len_str) hg hm PySem.boot_len (by decide) (by decide) (da_cons (dl_val ha) da_nil hs) (fun A H vs Q hA reps hq => ?_) (.inr (.int _)) hs (fun _ => rfl)
  obtain ⟨v, rfl, rep⟩ := reps1 reps
  cases rep
  exact ⟨z, rfl, sz_le hz, hq _ H (Ex.refl H) (.int _)⟩
theorem de_max {p : Pos} (hg : GlC C "max") (hm : C.M.mg "max" = none) (ha : DI C a S i) (hb : DI C b S j) (hs : ∀ env, starEach (a :: [b]) env = (false, eval a env) :: starEach [b] env := by intro _; rfl) (hs2 : ∀ env, starEach (b :: []) env = (false, eval b env) :: starEach [] env := by intro _; rfl) (hpl : ∀ env, (backTo pos (starEach [b] env)).any (·.1) = false := by intro _; rfl) : DE C (.Call (.Name "max" p) [a, b] [] pos) S (.ok (.val (.int (max i j)))) := by
  refine de_callB (lv := false) (rc := (fun xs H Q => ∃ i j, xs = [.int i, .int j] ∧ Q (.int (if j > i then j else i)) H)) (r := .val (.int (max i j))) (fun _ g => call_max2 g.calm) hg hm boot_max (by decide) (by decide) (da_cons (dl_val ha) (da_cons (dl_val hb) da_nil hs2) hs) (fun A H vs Q hA reps hq => ?_) (.inr (.int _)) hs hpl
  obtain ⟨v, w, rfl, r1, r2⟩ := reps2 reps
  cases r1; cases r2
  refine ⟨i, j, rfl, ?_⟩
  have e : (if j > i then j else i) = max i j := by split <;> omega
  rw [e]; exact hq _ H (Ex.refl H) (.int _)
theorem de_min {p : Pos} (hg : GlC C "min") (hm : C.M.mg "min" = none) (ha : DI C a S i) (hb : DI C b S j) (hs : ∀ env, starEach (a :: [b]) env = (false, eval a env) :: starEach [b] env := by intro _; rfl) (hs2 : ∀ env, starEach (b :: []) env = (false, eval b env) :: starEach [] env := by intro _; rfl) (hpl : ∀ env, (backTo pos (starEach [b] env)).any (·.1) = false := by intro _; rfl) : DE C (.Call (.Name "min" p) [a, b] [] pos) S (.ok (.val (.int (min i j)))) := by
  refine de_callB (lv := false) (rc := (fun xs H Q => ∃ i j, xs = [.int i, .int j] ∧ Q (.int (if j < i then j else i)) H)) (r := .val (.int (min i j))) (fun _ g => call_min2 g.calm) hg hm boot_min (by decide) (by decide) (da_cons (dl_val ha) (da_cons (dl_val hb) da_nil hs2) hs) (fun A H vs Q hA reps hq => ?_) (.inr (.int _)) hs hpl
  obtain ⟨v, w, rfl, r1, r2⟩ := reps2 reps
  cases r1; cases r2
  refine ⟨i, j, rfl, ?_⟩
  have e : (if j < i then j else i) = min i j := by split <;> omega
  rw [e]; exact hq _ H (Ex.refl H) (.int _)
theorem de_abs {p : Pos} (hg : GlC C "abs") (hm : C.M.mg "abs" = none) (ha : DI C a S i) (hs : ∀ env, starEach (a :: []) env = (false, eval a env) :: starEach [] env := by intro _; rfl) : DE C (.Call (.Name "abs" p) [a] [] pos) S (.ok (.val (.int (if i < 0 then -i else i)))) := by
  refine de_callB (lv := false) (rc := (fun xs H Q => ∃ i, xs = [.int i] ∧ Q (.int (if i < 0 then -i else i)) H)) (r := .val (.int (if i < 0 then -i else i))) (fun _ _ => call_abs) hg hm boot_abs (by decide) (by decide) (da_cons (dl_val ha) da_nil hs) (fun A H vs Q hA reps hq => ?_) (.inr (.int _)) hs (fun _ => rfl)
  obtain ⟨v, rfl, rep⟩ := reps1 reps
  cases rep
  exact ⟨i, rfl, hq _ H (Ex.refl H) (.int _)⟩
theorem de_sum {p : Pos} {ns : List Int} (hg : GlC C "sum") (hm : C.M.mg "sum" = none) (ha : DL C false a S (.lst (ns.map D.int))) (hs : ∀ env, starEach (a :: []) env = (false, eval a env) :: starEach [] env := by intro _; rfl) : DE C (.Call (.Name "sum" p) [a] [] pos) S (.ok (.val (.int ns.sum))) := by
  refine de_callB (lv := false) (rc := (rSum C.M.K)) (r := .val (.int ns.sum)) (fun _ g => cr_sum g.calm) hg hm boot_sum (by decide) (by decide) (da_cons ha da_nil hs) (fun A H vs Q hA reps hq => ?_) (.inr (.int _)) hs (fun _ => rfl)
  obtain ⟨v, rfl, rep⟩ := reps1 reps
  cases rep with
  | lst n hl rs => rw [rs.to_ints] at hl; exact ⟨_, ns, rfl, .inl (.inl hl), hq _ H (Ex.refl H) (.int _)⟩
theorem de_list {p : Pos} (hg : GlC C "list") (hm : C.M.mg "list" = none) (ha : DL C lv a S (.lst ds)) (hf : lv = true ∨ ∀ d ∈ ds, Flat d) (hs : ∀ env, starEach (a :: []) env = (false, eval a env) :: starEach [] env := by intro _; rfl) : DE C (.Call (.Name "list" p) [a] [] pos) S (.ok (.own ds)) := by
  refine de_callTy (lv := lv) (rc := (fun xs H Q => ∃ p ys, xs = [.ref p] ∧ (SqL C.M.K H p ys ∨ SqT C.M.K H p ys) ∧ ∀ l, H l = none → Q (.ref l) (upd H l (.lst ys)))) (r := .own ds) (fun _ _ => call_list_of) hg hm boot_list (by decide) (by decide) (da_cons ha da_nil hs) (fun A H vs Q hA reps hq => ?_) (hf) hs (fun _ => rfl)
  obtain ⟨v, rfl, rep⟩ := reps1 reps
  cases rep with
  | lst n hl rs => exact ⟨_, _, rfl, .inl (.inl (.inl hl)), fun p hp => hq _ _ (Ex.new hp) ⟨p, _, rfl, hp, upd_same, rs.step (Ex.new hp) fun a z => z.imp id fun z => by rw [z]; exact hp⟩⟩
theorem de_intB {p : Pos} {k : Bool} (hg : GlC C "int") (hm : C.M.mg "int" = none) (ha : DB C a S k) (hs : ∀ env, starEach (a :: []) env = (false, eval a env) :: starEach [] env := by intro _; rfl) : DE C (.Call (.Name "int" p) [a] [] pos) S (.ok (.val (.int (if k then 1 else 0)))) := by
  refine de_callTy (lv := false) (rc := (fun xs H Q => (∃ i, xs = [.int i] ∧ Q (.int i) H) ∨ ∃ k, xs = [.bl k] ∧ Q (.int (if k then 1 else 0)) H)) (r := .val (.int (if k then 1 else 0))) (fun _ _ => call_int1) hg hm boot_int (by decide) (by decide) (da_cons (dl_val ha) da_nil hs) (fun A H vs Q hA reps hq => ?_) (.inr (.int _)) hs (fun _ => rfl)
  obtain ⟨v, rfl, rep⟩ := reps1 reps
  cases rep
  exact .inr ⟨k, rfl, hq _ H (Ex.refl H) (.int _)⟩
theorem de_strI {p : Pos} (hg : GlC C "str") (hm : C.M.mg "str" = none) (ha : DI C a S i) (hz : i.natAbs.log2 < 1920) (hs : ∀ env, starEach (a :: []) env = (false, eval a env) :: starEach [] env := by intro _; rfl) : DE C (.Call (.Name "str" p) [a] [] pos) S (.ok (.val (.str (toString i)))) := by
  refine de_callTy (lv := false) (rc := (fun xs H Q => ∃ i, xs = [.int i] ∧ i.natAbs.log2 < 1920 ∧ Q (.str (toString i)) H)) (r := .val (.str (toString i))) (fun _ _ => call_str_int) hg hm boot_str (by decide) (by decide) (da_cons (dl_val ha) da_nil hs) (fun A H vs Q hA reps hq => ?_) (.inr (.str _)) hs (fun _ => rfl)
  obtain ⟨v, rfl, rep⟩ := reps1 reps
  cases rep
  exact ⟨i, rfl, hz, hq _ H (Ex.refl H) (.str _)⟩
/-- isinstance(x, T), T a built-in class -/
def D.ty : D → Option String
  | .non => some "NoneType"
  | .bl _ => some "bool"
  | .int _ => some "int"
  | .str _ => some "str"
  | .tup _ => some "tuple"
  | .lst _ => some "list"
  | .dic _ => some "dict"
  | _ => none
theorem Rep.tyX {K : PySem.W.Frag} {H : Hp} {O : Addr → Prop} {v : V} {n : String} (h : Rep K H O v d) (e : d.ty = some n) : TyX K H v (.type n) := by
  cases h with
  | non => cases e; exact .base .non
  | bl b => cases e; exact .base (.bl b)
  | int b => cases e; exact .base (.int b)
  | str b => cases e; exact .base (.str b)
  | tup h r => cases e; exact .base (.tup h)
  | lst n h r => cases e; exact .base (.lst h)
  | dic n h => cases e; exact .base (.dK h)
  | ktup h => cases e
  | scr h => cases e
  | exc0 h => cases e
  | exc1 h => cases e
theorem de_isi {p q : Pos} {tn : Str} {T n : String} (hg : GlC C "isinstance") (hm : C.M.mg "isinstance" = none) (hg2 : GlC C tn) (hm2 : C.M.mg tn = none) (hv : bootBuiltins tn = some (.type T)) (hn : tn ≠ "__name__") (hdb : (tn == ("__debug__" : Str)) = false) (ha : DL C false a S d) (he : d.ty = some n) (hk : kitB n T = some x)
    (hs : ∀ env, starEach (a :: [.Name tn q]) env = (false, eval a env) :: starEach [.Name tn q] env := by intro _; rfl) : DB C (.Call (.Name "isinstance" p) [a, .Name tn q] [] pos) S x :=
  .mk fun W => ⟨tCB (rIsi C.M.K) (tCons (tE C a W) (tCons (tC (.ty T)) tNil)), fun r f => pe_callB call_isi (hg.gl f.g) hm boot_isinstance (pa_cons (pe_tE f) (pa_cons (pe_bltn (v := .ty T) (hg2.gl f.g) hm2 hv rfl hn hdb) pa_nil) (hs _)) (by decide) (by decide) (hs _) rfl,
    fun Oc H0 H σ fp hod sat Q hq hx => ha W Oc H0 H σ fp hod sat _ fun v H1 e1 rep => ⟨v, .ty T, .type n, .type T, x, rfl, .ty T, rep.tyX he, kit_ty hk, hq _ _ H1 rfl e1 (.bl _)⟩⟩
end
end BK
/-! Part E: a def keeps its promise. -/
namespace BK
open PySem PySem.Spec PyProof.Rows L2
def startS (N : List Str) (ds : List D) : List Slot := ds.map Slot.val ++ List.replicate (N.length - ds.length) .any
def postOf (o : Out) : Post := { nx := fun _ => o = .ok (.val .non), rt := fun r => o = .ok r, ex := fun e _ => o = .error e }
theorem sat_start {K : PySem.W.Frag} {Oc : Addr → Prop} {H : Hp} {N : List Str} {vs : List V} {ds : List D} (r : Reps K H Oc vs ds) (hl : ds.length ≤ N.length) : Sat K Oc H H (L2.start N vs) (startS N ds) (fun _ => []) where
  len := by unfold L2.start startS; simp [r.length]
  slot := fun i s e => by
    unfold startS at e
    by_cases hi : i < ds.length
    · rw [List.getElem?_append_left (by rw [List.length_map]; exact hi), List.getElem?_map, List.getElem?_eq_getElem hi] at e
      cases e
      obtain ⟨v, hv, rv⟩ := r.getD (List.getElem?_eq_getElem hi)
      refine ⟨rfl, v, ?_, rv.less fun a z => z.elim id fun ⟨_, q⟩ => by cases q⟩
      unfold L2.start
      rw [List.getD_eq_getElem?_getD, List.getElem?_append_left (by rw [List.length_map, r.length]; exact hi), List.getElem?_map, hv]; rfl
    · rw [List.getElem?_append_right (by rw [List.length_map]; omega), List.getElem?_replicate] at e
      split at e
      · cases e; exact rfl
      · cases e
  out := fun _ _ => rfl
  dis := fun i j a h => by cases h
  fr := fun i a h => by cases h
  ex := Ex.refl H
theorem fn_data {M : Mo} {x qual : Str} {st : Stmt} {f : Addr} {fd : FuncData} {N ps : List Str} {Fd : List D → Out → Prop} (F : Fun M.K x qual st f fd) (S : FnScope N ps (defScope st)) (hlen : ∀ ds o, Fd ds o → ds.length = ps.length)
    (hb : ∀ ds o, Fd ds o → DSs ⟨M, N, defScope st, true⟩ (defBody st) (startS N ds) (postOf o)) : FnOk M.P M.w M.K M.mg M.base (L2.CX M.P M.w) (M.k + 1) f fd ps (spOf M.K Fd) := by
  have hpl : ps.length ≤ N.length := by have := congrArg List.length S.pre; rw [List.length_take] at this; omega
  refine F.okX S (fun vs H Q E h => ?_) (fun cdv A outer s H vs Q E hr h => ?_)
  · obtain ⟨Oc, ds, o, _, r, hF, _⟩ := h
    rw [r.length, hlen ds o hF]
  · obtain ⟨Oc, ds, o, hod, r, hF, hq, hx⟩ := h
    let C : Ctx := ⟨M, N, defScope st, true⟩
    let W : WX := fun cls d _ H => E cls d H
    refine ⟨tSs C (defBody st) W, ?_, ?_⟩
    · exact pss_tSs (C := C) (r := { A := A.deeper (envOfC qual (defScope st) s.heap.objs.size f cdv), s_0 := s, H_0 := H, env := envOfC qual (defScope st) s.heap.objs.size f cdv, outer := outer, stack := envOfC qual (defScope st) s.heap.objs.size f cdv :: outer, ex := [], fn := fun _ => true, calm := true, pn := [], xe := _ }) ⟨⟨rfl, rfl, hr, S.nd, .inl fun _ => rfl, fun _ => ⟨rfl, rfl, rfl, passes_of (X := cxOf (L2.CX M.P M.w) M.P M.w M.K M.mg M.base N qual (defScope st) f cdv A outer s H E) rfl⟩⟩, takes_of rfl rfl rfl rfl⟩
    · exact hb ds o hF W Oc H H _ _ hod (sat_start r (by rw [hlen ds o hF]; exact hpl)) _
        (fun S' H' σ' fp' hn sat => hq _ _ H' hn sat.ex .non)
        (fun r v H' hr ex res => hq r v H' hr ex res)
        (fun e cls d H' σ' S' fp' he sat xr => hx e cls d H' he sat.ex xr)
        (fun _ _ _ _ h => h.elim) (fun _ _ _ _ h => h.elim)
abbrev Mo.at (M : Mo) (k : Nat) : Mo := { M with k := k }
theorem Callee.mk' {M : Mo} {x : Str} {f : Addr} {fd : FuncData} {ps : List Str} {F : List D → Out → Prop} {k : Nat} (G : FnOk M.P M.w M.K M.mg M.base (L2.CX M.P M.w) k f fd ps (spOf M.K F)) (hk : k ≤ M.k) (mg : M.mg x = some (.ref f)) (kp : PySem.W.keepIn M.K (.ref f) = true) (b : Binds M.K fd ps []) : Callee M x F :=
  ⟨f, fd, ps, G.mono hk, mg, kp, b⟩
theorem Callee.up {M : Mo} {x : Str} {F : List D → Out → Prop} (h : Callee M x F) {k : Nat} (hk : M.k ≤ k) : Callee (M.at k) x F := by
  obtain ⟨f, fd, ps, G, mg, kp, b⟩ := h.ex
  exact ⟨f, fd, ps, G.mono hk, mg, kp, b⟩
/-- a smaller promise -/
theorem Callee.imp {M : Mo} {x : Str} {F F' : List D → Out → Prop} (h : Callee M x F) (hi : ∀ ds o, F' ds o → F ds o) : Callee M x F' := by
  obtain ⟨f, fd, ps, G, mg, kp, b⟩ := h.ex
  exact ⟨f, fd, ps, G.imp fun vs H Q E ⟨Oc, ds, o, h1, h2, h3, h4, h5⟩ => ⟨Oc, ds, o, h1, h2, hi ds o h3, h4, h5⟩, mg, kp, b⟩
end BK
namespace BK
open PySem PySem.Spec PyProof.Rows L2
def Slot.res : Slot → Option R
  | .any => none
  | .val d => some (.val d)
  | .own ds => some (.rd (.lst ds))
  | .own2 dss => some (.rd (.lst (dss.map .lst)))
  | .ownD kvs => some (.rd (.dic kvs))
def nmB (sc : Scope) (x : Str) : Bool := (match sc.names.lookup x with
  | some .local => true
  | some .cell => true
  | some .free => true
  | _ => false) && !(x == ("__debug__" : Str)) && !(x == ("__classdict__" : Str))
def locB (C : Ctx) (x : Str) : Bool := match C.sc.names.lookup x with
  | some .local => true
  | some .cell => C.top
  | _ => false
def glB (sc : Scope) (x : Str) : Bool := (match sc.names.lookup x with
  | some .globalImplicit => true
  | _ => false) && !(x == ("__debug__" : Str))
section
variable {C : Ctx} {S : List Slot} {P : Post} {e : Expr} {o : Out} {r : R} {d : D} {ds : List D} {lv : Bool} {pos pos' : Pos} {x : Str}
theorem nmB_vis (h : nmB C.sc x = true) : Vis C.sc x ∧ (x == ("__debug__" : Str)) = false ∧ (x == ("__classdict__" : Str)) = false := by
  unfold nmB at h
  rw [Bool.and_eq_true, Bool.and_eq_true] at h
  obtain ⟨⟨h1, h2⟩, h3⟩ := h
  refine ⟨?_, by simpa using h2, by simpa using h3⟩
  split at h1
  · exact .inl (by assumption)
  · exact .inr (.inl (by assumption))
  · exact .inr (.inr (by assumption))
  · cases h1
theorem locB_loc (h : locB C x = true) : LocC C x := by
  unfold locB at h
  split at h
  · exact .inl (by assumption)
  · exact .inr ⟨by assumption, h⟩
  · cases h
theorem glB_gl (h : glB C.sc x = true) : GlC C x ∧ (x == ("__debug__" : Str)) = false := by
  unfold glB at h
  rw [Bool.and_eq_true] at h
  obtain ⟨h1, h2⟩ := h
  refine ⟨?_, by simpa using h2⟩
  split at h1
  · assumption
  · cases h1
theorem idx_get {N : List Str} {i : Nat} (h : N.idxOf? x = some i) : N[i]? = some x := by
  have := List.idxOf?_eq_some_iff.mp h
  obtain ⟨hlt, hx, _⟩ := this
  rw [List.getElem?_eq_getElem hlt]
  exact congrArg some (by simpa using hx)
theorem de_name {i : Nat} (hi : C.N.idxOf? x = some i) (hs : (S[i]?).bind Slot.res = some r) (hv : nmB C.sc x = true) : DE C (.Name x pos) S (.ok r) := by
  obtain ⟨v, h1, h2⟩ := nmB_vis hv
  have hN := idx_get hi
  cases hS : S[i]? with
  | none => rw [hS] at hs; cases hs
  | some s =>
    rw [hS] at hs
    cases s with
    | any => cases hs
    | val d => cases hs; exact de_var i hS hN v h1 h2
    | own d => cases hs; exact de_varO i hS hN v h1 h2
    | own2 d => cases hs; exact de_varO2 i hS hN v h1 h2
    | ownD d => cases hs; exact de_varD i hS hN v h1 h2
theorem dgc_nm {i : Nat} (hi : C.N.idxOf? x = some i) (hx : locB C x = true) (hS : S[i]? = some .any) : DGc C [i] (.Name x pos) S d (S.set i (.val d)) := dgc_name i (idx_get hi) (locB_loc hx) hS
theorem dgc_nm2 {y : Str} {p q : Pos} {k : Nat} {d1 d2 : D} {i j : Nat} (hi : C.N.idxOf? x = some i) (hj : C.N.idxOf? y = some j) (hij : i ≠ j) (hx : locB C x = true) (hy : locB C y = true) (li : S[i]? = some .any) (lj : S[j]? = some .any) :
    DGc C [i, j] (.Tuple [.Name x p, .Name y q] k pos) S (.tup [d1, d2]) ((S.set i (.val d1)).set j (.val d2)) := dgc_tup2 i j hij (idx_get hi) (idx_get hj) (locB_loc hx) (locB_loc hy) li lj
theorem dg_nm {i : Nat} {T : List Slot → Prop} (hi : C.N.idxOf? x = some i) (hx : locB C x = true) (hj : i < S.length) (h : T (S.set i (.val d))) : DG C (.Name x pos) S d T := dg_name i (idx_get hi) (locB_loc hx) hj h
theorem dg_nm2 {y : Str} {p q : Pos} {k : Nat} {d1 d2 : D} {i j : Nat} {T : List Slot → Prop} (hi : C.N.idxOf? x = some i) (hj : C.N.idxOf? y = some j) (hx : locB C x = true) (hy : locB C y = true) (li : i < S.length) (lj : j < S.length) (h : T ((S.set i (.val d1)).set j (.val d2))) :
    DG C (.Tuple [.Name x p, .Name y q] k pos) S (.tup [d1, d2]) T := dg_tup2 i j (idx_get hi) (idx_get hj) (locB_loc hx) (locB_loc hy) li lj h
theorem ds_let {i : Nat} (he : DE C e S (.ok r)) (hi : C.N.idxOf? x = some i) (hx : locB C x = true) (hj : i < S.length) (h : P.nx (S.set i r.slot)) (hs : ∀ env, swapsWith e (some (.Name x pos')) pos.line env = pure false := by intro _; rfl) : DS C (.Assign [.Name x pos'] e pos) S P := ds_set i he (idx_get hi) (locB_loc hx) hj h hs
theorem de_fn {p : Pos} {es : List Expr} {F : List D → Out → Prop} (hF : Callee C.M x F) (hg : glB C.sc x = true) (ha : DA C lv (e :: es) S ds) (h : F ds o) (hf : lv = true ∨ Out.Flat o)
    (he : ∀ env, starEach (e :: es) env = (false, eval e env) :: starEach es env := by intro _; rfl) (hpl : ∀ env, (backTo pos (starEach es env)).any (·.1) = false := by intro _; rfl) : DE C (.Call (.Name x p) (e :: es) [] pos) S o := de_call hF (glB_gl hg).1 (glB_gl hg).2 ha h hf he hpl
end
end BK
set_option maxHeartbeats 2000000
/-! Part F: exceptions. -/
namespace PySem.W
open PySem PySem.Spec PySem.Calls PyProof.Rows
section
variable {prog : Program} {w : World} {A : Around} {E : Value → Shared → Prop} {s : Shared} {K : Frag} {x D : Addr} {ox : Obj}
theorem bk_findObj {C : Addr} {name : Str} {a g : Value} {od : Option Obj} (hc : (clsIn K C).isSome = true) (ha : findIn K (.ref C) name = some (some a)) (hg : specialIn K a "__get__" = some (some g)) (ht : takesIn K a = some true) : findObj K C od name = some (.bind g a) := by
  obtain ⟨cd, hc⟩ := Option.isSome_iff_exists.mp hc
  unfold findObj
  rw [hc, Option.bind_some, ha, Option.bind_some]
  simp [hg, ht]
theorem bk_classE {od : Option Obj} {Q : Option Value → Shared → Prop} (hga : findIn K (.ref D) "__getattribute__" = some (some (.builtin "BaseException.__getattribute__"))) (hgt : findIn K (.ref D) "__getattr__" = some none) (hsub : subIn K (.ref D) (.type "BaseException") = some true)
    (hdct : hasDictIn K D = true) (ha : findIn K (.ref D) "__class__" = some (some (.builtin "object.__class__")))
    (hn : specialIn K (.builtin "object.__class__") "__get__" = some (some (.builtin "getset_descriptor.__get__"))) (htk : takesIn K (.builtin "object.__class__") = some true) (hm : mroIn K D (.type "object") = some true)
    (X : K.In s.heap) (I : InstAt s.heap x ox D od) (h : Q (some (.ref D)) { s with toks := s.toks + 1 }) : wpAny (model prog w) A (getAttr? (.ref x) "__class__") Q E s := by
  have hf : findObj K D od "__class__" = some (.bind (.builtin "getset_descriptor.__get__") (.builtin "object.__class__")) := bk_findObj (by obtain ⟨cd, hc, _⟩ := any_some hdct; rw [hc]; rfl) ha hn htk
  obtain ⟨hp, g, d, t, os⟩ := s
  have L0 := I.type (M := model prog w)
  have L1 := looks_findIn (M := model prog w) X hga
  have L2 := looks_findIn (M := model prog w) X hgt
  have L3 := looks_find (M := model prog w) X I hf
  have sub : Looks (model prog w) hp (isInstance (.ref x) (.type "BaseException")) true := L0.andThen (looks_subIn X hsub)
  have hx0 : (false && onTheHeap (Value.builtin "BaseException.__getattribute__")) = false := rfl
  have hx2 : (Value.builtin "BaseException.__getattribute__" == Value.builtin "object.__getattribute__") = false := by decide +kernel
  have hx1 : (onTheHeap (Value.ref D) && Value.builtin "BaseException.__getattribute__" == Value.builtin "object.__getattribute__") = false := by rw [hx2]; rfl
  unfold getAttr? getAttrBy? getAttrBy
  refine wpAny_bind (wpAny_mkText (wpAny_bind (wpAny_attempt (wpAny_holding (wpAny_bind (L0.at (wpAny_bind (L1.at ?_))))))))
  show wpAny _ _ (if (onTheHeap (Value.ref D) && Value.builtin "BaseException.__getattribute__" == Value.builtin "object.__getattribute__") = true then _ else _) _ _ _
  rw [hx1, if_neg Bool.false_ne_true]
  unfold getAttrByItsOwn hookBefore
  refine wpAny_bind ?_
  rw [if_pos (show onTheHeap (Value.ref D) = true from rfl)]
  refine L2.at ?_
  refine wpAny_bind (wpAny_attempt (wpAny_holding ?_))
  unfold callGetattribute
  rw [hx0, if_neg Bool.false_ne_true]
  unfold boundAndCalled
  rw [PySem.F.excAttr_ValueError.ga.bind (.ref x)]
  refine wpAny_bind (wpAny_pure ?_)
  show wpAny _ _ (call (.builtin "BaseException.__getattribute__") [.ref x, .str "__class__" t]) _ _ _
  refine wpAny_call (codeAny_call_builtin PySem.F.excAttr_ValueError.ga.plain PySem.F.entry_bexc_ga ?_)
  refine @check_slot (model prog w) _ _ ⟨hp, g, d, t + 1, os⟩ "BaseException.__getattribute__" "BaseException" "__getattribute__" (.ref x) [.str "__class__" t] [] _ (by decide +kernel) (by decide +kernel) sub (PySem.F.args_bexc_ga (.ref x) (.str "__class__" t)) ?_
  unfold Builtin.«object.__getattribute__»
  refine wpAny_bind (wpAny_of_eq (a := ((Value.ref x : Value), [Value.str "__class__" t])) (by first | rfl | (simp only [slotArgs]; rfl)) ?_)
  refine wpAny_bind (wpAny_pure (wpAny_bind (L0.at (wpAny_bind (L3.at ?_)))))
  show wpAny _ _ (holding [Value.builtin "object.__class__"] (call (.builtin "getset_descriptor.__get__") [.builtin "object.__class__", .ref x, .ref D]) >>= ret) _ _ _
  refine wpAny_bind (wpAny_holding (wpAny_call (class_get (s := ⟨hp, g, d, t + 1, os⟩) (ox := ox) (od := od) X I hm ?_)))
  refine wpAny_pure ?_
  show wpAny _ _ (handedOut (.ref D)) _ _ _
  rw [handedOut_of (v := .ref D) rfl]
  first
    | exact wpAny_pure (wpAny_pure h)
    | exact wpAny_pure h
    | exact wpAny_pure (wpAny_bind (wpAny_pure (wpAny_pure h)))
theorem bk_kitx (hga : findIn K (.ref D) "__getattribute__" = some (some (.builtin "BaseException.__getattribute__"))) (hgt : findIn K (.ref D) "__getattr__" = some none) (hsub : subIn K (.ref D) (.type "BaseException") = some true) (hdct : hasDictIn K D = true) (ha : findIn K (.ref D) "__class__" = some (some (.builtin "object.__class__")))
    (hn : specialIn K (.builtin "object.__class__") "__get__" = some (some (.builtin "getset_descriptor.__get__"))) (htk : takesIn K (.builtin "object.__class__") = some true) (hm : mroIn K D (.type "object") = some true) :
    KitX K (.ref x) (.ref D) (fun h => ∃ ox od, InstAt h x ox D od) where
  ty := fun _ _ _ ⟨_, _, I⟩ => I.type
  it := fun _ _ X _ => by
    obtain ⟨cdD, hcD, _⟩ := any_some hdct
    unfold clsIn at hcD
    split at hcD
    · rename_i c' d' cd' sl' ho
      intro A' Q' E' s' k q
      unfold isType loadHead
      exact wpAny_bind (wpAny_loadPart (k _ _ (X _ _ ho)) (wpAny_pure q))
    · cases hcD
  ne := fun h tp dd its n sl X htp => by
    obtain ⟨cdD, hcD, _⟩ := any_some hdct
    refine Bool.eq_false_iff.mpr fun q => ?_
    have e : D = tp := Value.ref.inj (beq_iff_eq.mp q)
    subst e
    unfold clsIn at hcD
    split at hcD
    · rename_i c' d' cd' sl' ho
      have z := (X _ _ ho).symm.trans htp
      cases z
    · cases hcD
  ca := fun X ⟨_, _, I⟩ k => bk_classE hga hgt hsub hdct ha hn htk hm X I k
end
end PySem.W
namespace BK
open PySem PySem.Spec PyProof.Rows L2
section
variable {X : Cx} {pins : List (Addr × Obj)} {σ : L2.St} {H : Hp} {s : Shared}
/-- an object that stands untracked, younger than the entry, is from now on tracked -/
theorem track {a : Addr} {o : HO} (I : Inv X pins σ H s) (n0 : X.s_0.heap.get? a = none) (nL : a ≠ X.env.locals) (nC : ∀ x c, X.env.cells.lookup x = some c → c ≠ a) (nP : ∀ p ∈ X.pn ++ pins, p.1 ≠ a) (na : H a = none) (ob : ObjOk X.prog X.w (upd H a o) s.heap a o) :
    Inv X pins σ (upd H a o) s := by
  have b0 : ∀ {b : Addr} {u : Obj}, X.s_0.heap.get? b = some u → b ≠ a := fun {b u} e z => by rw [z, n0] at e; cases e
  refine ⟨I.ok, I.os, I.bare, ⟨I.base.keep, I.base.slot, fun b u e n hx => ?_, I.base.there, fun b xs e => ?_, fun b u v e => ?_, fun b ps e => ?_⟩, I.loc, I.cell, ?_, fun x c e => ?_, fun p hp => ?_, ?_, I.len⟩
  · rw [upd_ne (b0 e)]; exact I.base.free b u e n hx
  · rw [upd_ne (ne_of_none (I.base.tups b xs e) na)]; exact I.base.tups b xs e
  · rw [upd_ne (ne_of_none (I.base.frzs b u v e) na)]; exact I.base.frzs b u v e
  · obtain ⟨m, z⟩ := I.base.tbls b ps e
    exact ⟨m, by rw [upd_ne (ne_of_none z na)]; exact z⟩
  · rw [upd_ne nL.symm]; exact I.free
  · rw [upd_ne (nC x c e)]; exact I.freeC x c e
  · obtain ⟨e, n, ne, nf, d⟩ := I.pin p hp
    exact ⟨e, by rw [upd_ne (nP p hp)]; exact n, ne, nf, d⟩
  · exact I.hok.laidN (fun _ _ z => z) na ob
theorem unsuite' {ok : X.Ok} {a : Addr} {oe : Obj} {pn' : List (Addr × Obj)} (I : Inv (X.suite a ((a, oe) :: (X.pn ++ pins))) pn' σ H s) : Inv X ((a, oe) :: pins) σ H s :=
  ⟨ok, I.os, I.bare, I.base, I.loc, I.cell, I.free, I.freeC, fun p hp => I.pin p (by
    rcases List.mem_append.mp hp with h | h
    · exact List.mem_append_left _ (List.mem_cons_of_mem _ (List.mem_append_left _ h))
    · rcases List.mem_cons.mp h with h | h
      · rw [h]; exact List.mem_append_left _ List.mem_cons_self
      · exact List.mem_append_left _ (List.mem_cons_of_mem _ (List.mem_append_right _ h))), I.hok, I.len⟩
end
/-- 'except x as n: kept = n', the exception tracked behind it -/
def wKeep (K : PySem.W.Frag) (c : Value) (i : Nat) (ts : TS) (Wout : WX) (D : Ends) : WX := fun cls d σ H =>
  ∃ b, PySem.W.exmOne K cls c = some b ∧ (b = true → ∀ a, H a = none → ts { nx := fun σ' H' => D.nx (σ'.set i none) (upd H' a (ExT cls d a)), rt := fun _ _ => False } (σ.set i (some (.ref a))) H) ∧ (b = false → Wout cls d σ H)
section
variable {X : Cx} {x n : Str} {c : Value} {i : Nat} {body suite : List Stmt} {b₀ : Stmt} {np pos pos' : Pos} {tb : WX → TS} {ts : TS} {Wout : WX}
theorem ps_try_keep (hs : X.stack = X.env :: X.outer) (hf : X.env.frame = some X.env.locals) (hex : X.ex = []) (hN : X.N.Nodup) (hi : X.N[i]? = some n) (hln : X.env.kindOf n = some .local) (hc : Names X x c) (tk : Takes X Wout)
    (hb : ∀ (W : WX) (pn : List (Addr × Obj)) (xe : Value → Shared → Prop), Takes (X.tr pn xe) W → PassesOwn (model X.prog X.w) X.A X.env xe → PSs (X.tr pn xe) body (tb W))
    (hsu : ∀ (a : Addr) (pn : List (Addr × Obj)), PSs (X.suite a pn) (b₀ :: suite) ts) :
    PS X (.Try body [.ExceptHandler (some (.Name x np)) (some n) (b₀ :: suite) pos'] [] [] pos) (fun D σ H => tb (wKeep X.K c i ts Wout D) D σ H) := by
  refine ⟨fun pins s σ H D I h => ?_⟩
  have ok := I.ok
  have hfr : X.A.frames = some (X.env :: X.outer) := by rw [ok.frames, hs]
  have hloc : L2.Loc X.env.scope n := .inl hln
  refine wpAny_Try_except ?_
  refine wpAny_mono ((hb (wKeep X.K c i ts Wout D) (X.pn ++ pins) (fun e s₁ => wpAny (model X.prog X.w) X.A (noteFrame e X.env) (fun _ s₂ => wpAny (model X.prog X.w) X.A (setFlight e none) (fun _ s₃ =>
    wpAny (model X.prog X.w) X.A (handleBy e X.env [.ExceptHandler (some (.Name x np)) (some n) (b₀ :: suite) pos']) (SP X pins D) X.xe s₃) X.xe s₂) X.xe s₁) (fun u s' xx => ?_) PassesOwn.looking).run [] s σ H D (I.toTry _) h) (fun f s1 hsp => ?_) (fun e s1 he => he)
  · obtain ⟨a, B, sI, pins', σ', H', cls, d, rfl, J', nb, up, sky, na, os, ag, b, hb1, hyes, hno⟩ := xx
    have J : Inv X pins σ' H' sI := J'.ofTry ok
    have sky' : Sky B (X.env :: X.outer) a (Zc cls d) X.env.locals s'.heap := by rw [← hs]; exact sky
    show wpAny (model X.prog X.w) X.A (noteFrame (.ref a) X.env) _ _ _
    refine Sky.land Zc.steady hfr hf sky' fun h3 fl3 up3 => ?_
    have J3 : Inv X pins σ' H' { s' with heap := h3 } := J.landed nb fl3.1 (up.trans up3) os ag
    obtain ⟨oe3, vs3, he3, hz3, hd3⟩ := fl3.there
    have notFr : ∀ {h : Heap} {o : Obj} {vs : Array Value}, h.FunFrames B (X.env :: X.outer) → h.get? a = some o → o.data = .fields vs → a ∉ frs (X.env :: X.outer) := fun {h o vs} ff e dd hm => by
      obtain ⟨_, o', e', hnf⟩ := ff.mem hm
      rw [e] at e'; cases e'
      exact hnf _ dd
    have nfr := notFr fl3.2.2.1 he3 hd3
    have nL : a ≠ X.env.locals := fun z => nfr (List.mem_filterMap.mpr ⟨X.env, List.mem_cons_self, by rw [hf, z]⟩)
    have nF : a ∉ X.fs := fun hm => by
      obtain ⟨e, he, q⟩ := List.mem_filterMap.mp hm
      exact nfr (List.mem_filterMap.mpr ⟨e, List.mem_cons_of_mem _ he, q⟩)
    have sIn : sI.heap.get? a = none := by
      cases q : sI.heap.get? a with
      | none => rfl
      | some o =>
        have z := nb a o q (by rw [hs]; exact nfr)
        rw [fl3.2.1] at z; cases z
    have n0 : X.s_0.heap.get? a = none := by
      cases q : X.s_0.heap.get? a with
      | none => rfl
      | some o =>
        obtain ⟨o', z⟩ := J.base.there a o q (by rw [hex]; exact fun z => nomatch z)
        rw [sIn] at z; cases z
    have nC : ∀ x c, X.env.cells.lookup x = some c → c ≠ a := fun x c e z => by
      obtain ⟨v, o, ho, _⟩ := J.cell x c e
      rw [z, sIn] at ho; cases ho
    have nP : ∀ p ∈ X.pn ++ pins, p.1 ≠ a := fun p hp z => by
      obtain ⟨e, _⟩ := J.pin p hp
      rw [z, sIn] at e; cases e
    have S3 := J3.suite he3 hd3 na nL nF
    refine wpAny_handleBy_cons (codeAny_handlers_test ?_) (by intro q; cases q)
    have LT : PySem.W.Looks (model X.prog X.w) h3 (typeOf (.ref a)) cls := fun A Q E s k q => wpAny_typeOf_ref (k _ _ he3) (by rw [hz3.1]; exact q)
    have LM := PySem.W.exm_one (M := model X.prog X.w) (J3.kIn) LT hb1
    have test : ∀ {Q : Value → Shared → Prop} {E : Value → Shared → Prop}, Q c { s' with heap := h3 } → wpAny (model X.prog X.w) (X.A.mark (some (.ref a))) (eval (.Name x np) X.env) Q E { s' with heap := h3 } := fun {Q E} q => by
      obtain ⟨hg, hdbg, hm | ⟨hm, hv, hnn⟩⟩ := hc
      · exact ld_glob (X := X.suite a ((a, oe3) :: (X.pn ++ pins))) S3 hg hm q hdbg
      · exact ld_blt (X := X.suite a ((a, oe3) :: (X.pn ++ pins))) S3 hg hm hv q hnn hdbg
    refine test (LM.here ?_)
    cases b with
    | true =>
      refine codeAny_handlers_suite_as ?_
      refine HandSPX.lands_againZ fl3 fun h4 fl4 up4 => ?_
      have J4 : Inv X pins σ' H' { s' with heap := h4 } := J.landed nb fl4.1 ((up.trans up3).trans up4) os ag
      obtain ⟨oe4, vs4, he4, hz4, hd4⟩ := fl4.there
      have S4 := J4.suite he4 hd4 na nL nF
      refine store_ok (X := X.suite a ((a, oe4) :: (X.pn ++ pins))) (v := .ref a) S4 hN hi hloc rfl (fun s5 S5 => ?_) (.inr hln)
      refine wpAny_mono ((hsu a ((a, oe4) :: (X.pn ++ pins))).run [] s5 _ H' _ S5 (hyes rfl a na)) (fun f s6 hsp => ?_) (fun _ _ z => False.elim z)
      cases f with
      | next =>
        obtain ⟨σ6, H6, S6, q6⟩ := hsp
        refine gone_ok (unsuite' (ok := ok) S6) hN hi hln fun s7 J7 => ?_
        obtain ⟨ea, nea, _⟩ := J7.pin (a, oe4) (List.mem_append_right _ List.mem_cons_self)
        have J8 : Inv X pins (σ6.set i none) H6 s7 := ⟨J7.ok, J7.os, J7.bare, J7.base, J7.loc, J7.cell, J7.free, J7.freeC, fun p hp => J7.pin p (by
          rcases List.mem_append.mp hp with h | h
          · exact List.mem_append_left _ h
          · exact List.mem_append_right _ (List.mem_cons_of_mem _ h)), J7.hok, J7.len⟩
        refine ⟨_, _, track J8 n0 nL nC nP nea ?_, q6⟩
        exact ⟨⟨oe4, vs4, ea, hz4, hd4⟩, ⟨oe4, ea⟩, fun h1 h2 ⟨oe, vs, e1, z1, d1⟩ k => ⟨oe, vs, k _ e1, z1, d1⟩⟩
      | brk =>
        obtain ⟨σ6, H6, S6, q6⟩ := hsp
        exact False.elim q6
      | cont =>
        obtain ⟨σ6, H6, S6, q6⟩ := hsp
        exact False.elim q6
      | ret u =>
        obtain ⟨v6, σ6, H6, S6, r6, q6⟩ := hsp
        exact False.elim q6
    | false =>
      show wpAny _ X.A (handleBy (.ref a) X.env []) _ _ _
      refine wpAny_handleBy_nil ?_
      obtain ⟨k1, k2, k3, oe, vs, T, oT, ts', he, hz, hd, h1, hr⟩ := id fl3
      unfold PySem.passOn
      refine wpAny_bind (wpAny_field he hd h1 ?_)
      rw [if_neg (show ¬ ((Value.ref T == Value.none) = true) from by simp)]
      have fin : wpAny (model X.prog X.w) X.A (setFlight (.ref a) X.env.frame) (fun _ s4 => wpAny (model X.prog X.w) X.A (throw (.ref a) : Sem Flow) (SP X pins D) X.xe s4) X.xe { s' with heap := h3 } := by
        rw [hf]
        refine HandSPX.setFlight_upZ fl3 fun h4 hh4 up4 => wpAny_throw (tk _ _ ?_)
        exact ⟨a, B, sI, pins, σ', H', cls, d, rfl, J, nb, (up.trans up3).trans up4, .inr (.inr (by rw [hs]; exact hh4)), na, os, ag, hno rfl⟩
      first
        | exact wpAny_bind (wpAny_pure (wpAny_bind fin))
        | exact wpAny_bind fin
  · cases f with
    | next =>
      obtain ⟨σ', H', J', q⟩ := hsp
      exact wpAny_execs_nil ⟨σ', H', J'.ofTry ok, q⟩
    | brk =>
      obtain ⟨σ', H', J', q⟩ := hsp
      exact ⟨σ', H', J'.ofTry ok, q⟩
    | cont =>
      obtain ⟨σ', H', J', q⟩ := hsp
      exact ⟨σ', H', J'.ofTry ok, q⟩
    | ret u =>
      obtain ⟨v, σ', H', J', r, q⟩ := hsp
      exact ⟨v, σ', H', J'.ofTry ok, r, q⟩
end
end BK
set_option maxHeartbeats 2000000
/-! Part G: raise, try, isinstance, told by data. -/
namespace BK
open PySem PySem.Spec PyProof.Rows L2

/-! ### isinstance -/
/-- the class of data, where it is known how isinstance asks it -/
def TyZ (K : PySem.W.Frag) (d : D) (t : Value) : Prop := (∃ n, d.ty = some n ∧ t = .type n) ∨ ∃ C f, d = .exc C f ∧ t = .ref C ∧ ExcC K C
theorem inst_of {X : Cx} {pins : List (Addr × Obj)} {σ : L2.St} {H : Hp} {s : Shared} {O : Addr → Prop} {v : V} {u : Value} {C : Addr} {f : Fld} (I : Inv X pins σ H s) (rv : RelV v u) (rep : Rep X.K H O v (.exc C f)) : ∃ a, u = .ref a ∧ ∃ ox od, PySem.W.InstAt s.heap a ox C od := by
  cases rep with
  | @exc0 a C h =>
    cases (show u = Value.ref a from rv)
    obtain ⟨⟨oe, vs, ho, hz, hd⟩, _⟩ := I.hok a _ h
    refine ⟨a, rfl, oe, none, ho, hz.1, ?_, ?_⟩
    · unfold PySem.W.notCls; rw [hd] <;> rfl
    · rw [hz.2]; trivial
  | @exc1 a C d n v h hd2 hf =>
    cases (show u = Value.ref a from rv)
    obtain ⟨⟨oe, vs, ho, hz, hd⟩, _⟩ := I.hok a _ h
    obtain ⟨mA, hns, _⟩ := (show ObjOk X.prog X.w H s.heap d (.xd [(n, v)]) from I.hok d _ hd2)
    obtain ⟨od, hod, hl⟩ := lookIn_ns hns
    refine ⟨a, rfl, oe, some od, ho, hz.1, ?_, ?_⟩
    · unfold PySem.W.notCls; rw [hd] <;> rfl
    · rw [hz.2]; exact hod
theorem kit_of' {X : Cx} {pins : List (Addr × Obj)} {σ : L2.St} {H : Hp} {s : Shared} {O : Addr → Prop} {v : V} {u t : Value} {d : D} (I : Inv X pins σ H s) (rv : RelV v u) (rep : Rep X.K H O v d) (ty : TyZ X.K d t) : ∃ P : Heap → Prop, PySem.W.KitX X.K u t P ∧ P s.heap ∧ u ≠ .builtin "__main__.__loader__#opaque" := by
  rcases ty with ⟨n, e, rfl⟩ | ⟨C, f, rfl, rfl, E⟩
  · exact kit_of I rv (rep.tyX e)
  · obtain ⟨a, rfl, J⟩ := inst_of I rv rep
    exact ⟨_, PySem.W.bk_kitx E.hg E.hk E.hs E.hd E.ha E.hn E.ht E.hm, J, fun z => nomatch z⟩
def rIsZ (K : PySem.W.Frag) (d : D) : List V → Hp → VK → Prop := fun xs H Q => ∃ (x c : V) (t u : Value) (b : Bool), xs = [x, c] ∧ ClsV c u ∧ Rep K H no x d ∧ TyZ K d t ∧ PySem.W.kitOne K t u = some b ∧ Q (.bl b) H
def rIsZT (K : PySem.W.Frag) (d : D) : List V → Hp → VK → Prop := fun xs H Q => ∃ (x : V) (tp : Addr) (cs : List V) (t : Value) (us : List Value) (b : Bool), xs = [x, .ref tp] ∧ H tp = some (.tup cs) ∧ Paired ClsV cs us ∧ Rep K H no x d ∧ TyZ K d t ∧ PySem.W.kitAny K t us = some b ∧ Q (.bl b) H
theorem call_isZ {X : Cx} {d : D} : CallR X (.builtin "isinstance") (rIsZ X.K d) := by
  intro pins s σ H xs us Q I r h
  obtain ⟨x, c, t, u, b, rfl, k, rep, ty, e, q⟩ := h
  obtain ⟨u1, u2, rfl, r1, r2⟩ := vals2 r
  have e2 := k.eq r2
  subst e2
  obtain ⟨P, Z, p, hx⟩ := kit_of' I r1 rep ty
  exact PySem.W.kia_one Z I.kIn p e hx fun tk => ⟨.bl b, H, I.tok tk, rfl, q⟩
theorem call_isZT {X : Cx} {d : D} : CallR X (.builtin "isinstance") (rIsZT X.K d) := by
  intro pins s σ H xs us Q I r h
  obtain ⟨x, tp, cs, t, ws, b, rfl, hT, k, rep, ty, e, q⟩ := h
  obtain ⟨u1, u2, rfl, r1, r2⟩ := vals2 r
  cases (show u2 = Value.ref tp from r2)
  obtain ⟨P, Z, p, hx⟩ := kit_of' I r1 rep ty
  obtain ⟨_, its, rv, o, h1, h2, n, h3⟩ := (show ObjOk X.prog X.w H s.heap tp (.tup cs) from I.hok tp _ hT)
  have e3 := ClsV.all k rv
  subst e3
  obtain ⟨oc, od, dt, sl⟩ := o
  simp only at h2 h3
  subst h2 h3
  exact PySem.W.kia_tup Z I.kIn p h1 e hx fun tk => ⟨.bl b, H, I.tok tk, rfl, q⟩
section
variable {C : Ctx} {S : List Slot} {P : Post} {e a b : Expr} {es : List Expr} {o : Out} {r : R} {d : D} {ds : List D} {lv : Bool} {pos pos' : Pos} {x y : Bool}
/-- a name that says a class -/
inductive ClN (C : Ctx) (x : Str) : V → Value → Prop
  | own (A : Addr) (hg : glB C.sc x = true) (hm : C.M.mg x = some (.ref A)) : ClN C x (.ref A) (.ref A)
  | ty (T : String) (hg : glB C.sc x = true) (hm : C.M.mg x = none) (hv : bootBuiltins x = some (.type T)) (hn : x ≠ "__name__") : ClN C x (.ty T) (.type T)
theorem ClN.pe {z : Str} {v : V} {u : Value} (h : ClN C z v u) {r : Rst} (g : Good C r) : PE (C.x r) (.Name z pos) (tC v) := by
  cases h with
  | own A hg hm => exact pe_glob ((glB_gl hg).1.gl g) hm rfl (glB_gl hg).2
  | ty T hg hm hv hn => exact pe_bltn ((glB_gl hg).1.gl g) hm hv rfl hn (glB_gl hg).2
theorem ClN.cls {z : Str} {v : V} {u : Value} (h : ClN C z v u) : ClsV v u := by
  cases h with
  | own A _ _ => exact .own A
  | ty T _ _ _ _ => exact .ty T
inductive ClNs (C : Ctx) : List Expr → List V → List Value → Prop
  | nil : ClNs C [] [] []
  | cons {z : Str} {p : Pos} {v : V} {u : Value} {es : List Expr} {vs : List V} {us : List Value} (h : ClN C z v u) (r : ClNs C es vs us) (hs : ∀ env, starEach ((.Name z p) :: es) env = (false, eval (.Name z p) env) :: starEach es env := by intro _; rfl) : ClNs C (.Name z p :: es) (v :: vs) (u :: us)
def tCs : List V → TA
  | [] => tNil
  | v :: vs => tCons (tC v) (tCs vs)
theorem ClNs.pa {es : List Expr} {vs : List V} {us : List Value} (h : ClNs C es vs us) {r : Rst} (g : Good C r) : PA (C.x r) es (tCs vs) := by
  induction h with
  | nil => exact pa_nil
  | cons h r hs ih => exact pa_cons (h.pe g) ih (hs _)
theorem ClNs.cls {es : List Expr} {vs : List V} {us : List Value} (h : ClNs C es vs us) : Paired ClsV vs us := by
  induction h with
  | nil => exact .nil
  | cons h r hs ih => exact .cons h.cls ih
theorem tCs_run {σ : L2.St} {H : Hp} : ∀ {vs : List V} {Q : List V → Hp → Prop}, Q vs H → tCs vs σ H Q
  | [], _, q => q
  | v :: vs, Q, q => tCs_run (vs := vs) (Q := fun xs H2 => Q (v :: xs) H2) q
theorem de_isZ {p q : Pos} {tn : Str} {v : V} {u t : Value} (hg : glB C.sc "isinstance" = true) (hm : C.M.mg "isinstance" = none) (hc : ClN C tn v u) (ha : DL C false a S d) (ht : TyZ C.M.K d t) (hk : PySem.W.kitOne C.M.K t u = some x)
    (hs : ∀ env, starEach (a :: [.Name tn q]) env = (false, eval a env) :: starEach [.Name tn q] env := by intro _; rfl) : DB C (.Call (.Name "isinstance" p) [a, .Name tn q] [] pos) S x :=
  .mk fun W => ⟨tCB (rIsZ C.M.K d) (tCons (tE C a W) (tCons (tC v) tNil)), fun r f => pe_callB call_isZ ((glB_gl hg).1.gl f.g) hm boot_isinstance (pa_cons (pe_tE f) (pa_cons (hc.pe f.g) pa_nil) (hs _)) (by decide) (by decide) (hs _) rfl,
    fun Oc H0 H σ fp hod sat Q hq hx => ha W Oc H0 H σ fp hod sat _ fun v1 H1 e1 rep => ⟨v1, v, t, u, x, rfl, hc.cls, rep, ht, hk, hq _ _ H1 rfl e1 (.bl _)⟩⟩
theorem de_isZT {p : Pos} {tk : Nat} {tp : Pos} {vs : List V} {us : List Value} {t : Value} (hg : glB C.sc "isinstance" = true) (hm : C.M.mg "isinstance" = none) (hc : ClNs C es vs us) (hz : vs.length ≤ 1000000) (ha : DL C false a S d) (ht : TyZ C.M.K d t) (hk : PySem.W.kitAny C.M.K t us = some x)
    (hs : ∀ env, starEach (a :: [.Tuple es tk tp]) env = (false, eval a env) :: starEach [.Tuple es tk tp] env := by intro _; rfl) : DB C (.Call (.Name "isinstance" p) [a, .Tuple es tk tp] [] pos) S x :=
  .mk fun W => ⟨tCB (rIsZT C.M.K d) (tCons (tE C a W) (tCons (tTup (tCs vs)) tNil)), fun r f => pe_callB call_isZT ((glB_gl hg).1.gl f.g) hm boot_isinstance (pa_cons (pe_tE f) (pa_cons (pe_tup (hc.pa f.g)) pa_nil) (hs _)) (by decide) (by decide) (hs _) rfl,
    fun Oc H0 H σ fp hod sat Q hq hx => ha W Oc H0 H σ fp hod sat _ fun v1 H1 e1 rep => tCs_run ⟨sz_le hz, fun tp' hp => ⟨v1, tp', vs, t, us, x, rfl, upd_same, hc.cls, rep.mono (Ex.new hp), ht, hk, hq _ _ _ rfl (e1.trans (Ex.new hp)) (.bl _)⟩⟩⟩
/-- e.f of a held exception -/
theorem de_xf {n : Str} {v : V} {Cad : Addr} (T : XfC C.M.K Cad) (hno : PySem.W.findIn C.M.K (.ref Cad) n = some none) (ha : DL C false a S (.exc Cad (some (n, v)))) (hr : ∀ H O, Rep C.M.K H O v d) (hb : ∀ env, attributeBase a n env (eval a env) = eval a env := by intro _; rfl) : DE C (.Attribute a n pos) S (.ok (.val d)) :=
  .mk fun W => ⟨fun σ H Q => tE C a W σ H fun x H1 => Rep C.M.K H1 no x (.exc Cad (some (n, v))) ∧ Q v H1, fun r f => ⟨fun pins s σ H Q I h => attr_of (hb _) (thn ((pe_tE f).run pins s σ H _ I h) fun u s1 hh => by
    obtain ⟨x, H1, I1, rx, rep, q⟩ := hh
    cases rep with
    | @exc1 ad C' dd n' v' h1 h2 hf =>
      cases (show u = Value.ref ad from rx)
      obtain ⟨⟨oe, vs, ho, hz, hd⟩, _⟩ := I1.hok ad _ h1
      obtain ⟨mA, hns, hr⟩ := (show ObjOk C.M.P C.M.w H1 s1.heap dd (.xd [(n, v)]) from I1.hok dd _ h2)
      obtain ⟨od, hod, hl⟩ := lookIn_ns hns
      have lk : List.lookup n [(n, v)] = some v := by simp [List.lookup]
      obtain ⟨u, hu, ru⟩ := RelO.some_of (v := v) (o := mA n) (by rw [← lk]; exact hr n)
      have J : PySem.W.InstAt s1.heap ad oe Cad (some od) := ⟨ho, hz.1, by unfold PySem.W.notCls; rw [hd] <;> rfl, by rw [hz.2]; exact hod⟩
      exact PySem.HandSPX.exc_get I1.kIn J T.ga T.gg T.exC (PySem.W.findObj_own T.hdC hno rfl (by rw [hl, hu])) (handed_of ru) ⟨v, H1, I1.tok _, ru, q⟩)⟩,
    fun Oc H0 H σ fp hod sat Q hq hx => ha W Oc H0 H σ fp hod sat _ fun x H1 e1 rep => ⟨rep, hq _ v H1 rfl e1 (hr H1 _)⟩⟩

/-! ### raise -/
structure Exc0 (M : Mo) (x : Str) (Cad : Addr) : Prop where
  g : M.mg x = some (.ref Cad)
  q : PySem.W.excIn M.K Cad [.type "ValueError", .type "Exception", .type "BaseException", .type "object"] "ValueError.__new__" = true
  k : PySem.W.keepIn M.K (.ref Cad) = true
  b : PySem.W.subIn M.K (.ref Cad) (.type "BaseException") = some true
  t : PySem.W.typeIn M.K (.ref Cad) = some (.type "type")
theorem ds_raise0 {z m : Str} {j : Nat} {p p2 p3 : Pos} {Cad : Addr} (X : Exc0 C.M z Cad) (hg : glB C.sc z = true) (h : P.ex ⟨Cad, none⟩ S) : DS C (.Raise (some (.Call (.Name z p) [.Constant (.str m) j p2] [] p3)) none pos) S P :=
  .mk fun W => ⟨fun _ σ H => (fun (_ : L2.St) (H : Hp) (Q : XK) => Q (.ref Cad) none H) σ H fun cls d H' => W cls d σ H', fun r f => ps_raise f.g.calm f.t (pmk_own PySem.F.excBase_ValueError X.q X.g X.k (raises_own X.b X.t) ((glB_gl hg).1.gl f.g) (glB_gl hg).2), fun Oc H0 H σ fp hod sat D h1 h2 h3 h4 h5 =>
    h3 _ _ _ H σ S fp h sat ⟨rfl, .inl ⟨rfl, rfl⟩⟩⟩
/-- what __init__(self, f): self.f = f promises -/
def spInit (Cad : Addr) (n : Str) : Sp := fun vs H Q _ => ∃ a v, vs = [.ref a, v] ∧ H a = some (exo a Cad none) ∧ ∀ H' dx, H dx = none → dx ≠ a → H' = upd (upd H dx (exd dx [(n, v)])) a (exo a Cad (some dx)) → Q .non H'
structure Exc1 (M : Mo) (x : Str) (Cad : Addr) (n : Str) : Prop where
  g : M.mg x = some (.ref Cad)
  T : OexC M.K Cad
  ex : ∃ (fI : Addr) (k : Nat) (fd : FuncData) (ps : List Str), PySem.W.findIn M.K (.ref Cad) "__init__" = some (some (.ref fI)) ∧ PySem.W.typeIn M.K (.ref fI) = some (.type "function") ∧
    FnOk M.P M.w M.K M.mg M.base CX0 k fI fd ps (spInit Cad n) ∧ k + 1 ≤ M.k ∧ Binds M.K fd ps []
theorem pn_of {x n : Str} (h : x = n) : x = n := h
theorem ok_init {P : Program} {w : World} {K : PySem.W.Frag} {mg : Str → Option Value} {base : Heap} {st : Stmt} {f q : Str} {fI Cad : Addr} {fd : FuncData} {k : Nat} {p1 p2 p3 p4 : Pos}
    (hb : defBody st = [.Assign [.Attribute (.Name "self" p1) f p2] (.Name f p3) p4]) (sc : FnScope ["self", f] ["self", f] (defScope st)) (hself : (defScope st).names.lookup ("self" : Str) = some .local) (hf : (defScope st).names.lookup f = some .local) (hd : (f == ("__debug__" : Str)) = false) (hcd : (f == ("__classdict__" : Str)) = false)
    (F : Fun K "__init__" q st fI fd) (T : OexC K Cad) (no : PySem.W.findIn K (.ref Cad) f = some none) : FnOk P w K mg base CX0 (k + 1) fI fd ["self", f] (spInit Cad f) := by
  refine F.ok sc (fun vs H Q E h => ?_) (fun cdv A outer s H vs Q E hr h => ?_)
  · obtain ⟨a, v, rfl, _⟩ := h; rfl
  · obtain ⟨a, v, rfl, ha, hq⟩ := h
    rw [hb]
    refine ⟨_, pss_one (ps_ost (pe_var (i := 0) rfl (.inl hself) (by decide) (by decide)) (pe_var (i := 1) rfl (.inl hf) hd hcd)), ?_⟩
    exact ⟨v, rfl, .ref a, rfl, a, Cad, rfl, T, no, .inl ⟨ha, fun dx n ne => hq _ dx n ne rfl⟩⟩
theorem ds_raise1 {z n : Str} {p p3 : Pos} {Cad : Addr} {v : V} (X : Exc1 C.M z Cad n) (hg : glB C.sc z = true) (he : DE C e S (.ok (.val d))) (hv : d.sc = some v) (h : P.ex ⟨Cad, some (n, v)⟩ S)
    (hs : ∀ env, starEach (e :: []) env = (false, eval e env) :: starEach [] env := by intro _; rfl) : DS C (.Raise (some (.Call (.Name z p) [e] [] p3)) none pos) S P := by
  obtain ⟨fI, k, fd, ps, iC, tI, F, hk, hb⟩ := X.ex
  refine .mk fun W => ⟨fun _ σ H => tMkO Cad (spInit Cad n) [] (tCons (tE C e W) tNil) σ H fun cls d H' => W cls d σ H', fun r f => ps_raise f.g.calm f.t (pmk_oex (CX := CX0) X.T iC tI F (f.g.room.mono hk) hb .nil (fun _ _ _ _ _ _ _ h => h.elim) ((glB_gl hg).1.gl f.g) X.g (pa_cons (pe_tE f) pa_nil (hs _)) (glB_gl hg).2 (hs _) rfl), fun Oc H0 H σ fp hod sat D h1 h2 h3 h4 h5 => ?_⟩
  refine he W Oc H0 H σ fp (hod.up sat) sat _ (fun r u H1 er e1 res => ?_) (fun _ _ _ _ er => nomatch er)
  cases er
  have hu := res.scal hv
  subst hu
  have fl : flatV u = true := by
    cases d <;> first | (cases hv; done) | (cases hv; rfl)
  refine ⟨Nat.succ_le_succ (Nat.zero_le _), fun a ha => ⟨a, u, rfl, upd_same, fun H' dx hdx hne e => ?_⟩⟩
  have hd1 : H1 dx = none := by rw [upd_ne hne] at hdx; exact hdx
  refine ⟨rfl, dx, [(n, u)], by rw [e]; exact upd_same, by rw [e, upd_ne hne]; exact upd_same, hd1, ?_⟩
  have ex : Ex H1 (upd (L2.del H' a) dx (.xd [(n, u)])) := fun b o q => by
    have b1 : b ≠ a := ne_of_none q ha
    have b2 : b ≠ dx := ne_of_none q hd1
    rw [upd_ne b2]
    show L2.del H' a b = some o
    rw [L2.del_ne b1, e, upd_ne b1, upd_ne b2, upd_ne b1]; exact q
  exact h3 _ _ _ _ σ S fp h (sat.mono (e1.trans ex)) ⟨rfl, .inr ⟨n, u, dx, rfl, rfl, upd_same, fl⟩⟩

/-! ### try -/
theorem Fam.tr {W W' : WX} {r : Rst} (f : Fam C W r) (ht : C.top = true) {pn : List (Addr × Obj)} {xe : Value → Shared → Prop} (tk : Takes ((C.x r).tr pn xe) W') (po : PassesOwn (model C.M.P C.M.w) r.A r.env xe) : Fam C W' { r with pn := pn, xe := xe } :=
  ⟨⟨f.g.sc, f.g.calm, f.g.room, f.g.nd, f.g.fn, fun h => ⟨(f.g.stack h).1, (f.g.stack h).2.1, (f.g.stack h).2.2.1, po⟩⟩, tk⟩
/-- try: body; except x as n: kept = n (k: the slot of kept, i: of n) -/
theorem ds_try {body : List Stmt} {z n kept : Str} {np pk pe ps hp : Pos} {Cad : Addr} (k i : Nat) (ht : C.top = true) (hk : C.N[k]? = some kept) (hi : C.N[i]? = some n) (hki : k ≠ i) (lk : k < S.length) (lki : locB C kept = true) (hn : C.sc.names.lookup n = some .local) (hnv : nmB C.sc n = true) (hg : glB C.sc z = true) (hm : C.M.mg z = some (.ref Cad))
    (hb : DSs C body S { P with ex := fun e S' => ∃ b, PySem.W.exmOne C.M.K (.ref e.C) (.ref Cad) = some b ∧ (b = true → k < S'.length ∧ i < S'.length ∧ P.nx ((S'.set k (.val (.exc e.C e.f))).set i .any)) ∧ (b = false → P.ex e S') }) :
    DS C (.Try body [.ExceptHandler (some (.Name z np)) (some n) [.Assign [.Name kept pk] (.Name n pe) ps] hp] [] [] pos) S P := by
  obtain ⟨hnv1, hnv2, hnv3⟩ := nmB_vis hnv
  refine .mk fun W => ⟨fun D σ H => tSs C body (wKeep C.M.K (.ref Cad) i (tAsg (tVar i) (gName k)) W D) D σ H, fun r f => ?_, fun Oc H0 H σ fp hod sat D h1 h2 h3 h4 h5 => ?_⟩
  · obtain ⟨hs, hf, hex, hpo⟩ := f.g.stack ht
    have ec : (C.x r).env.scope = C.sc := f.g.sc
    refine ps_try_keep (X := C.x r) hs hf hex f.g.nd hi (by show r.env.scope.names.lookup n = _; rw [f.g.sc]; exact hn) ⟨(glB_gl hg).1.gl f.g, (glB_gl hg).2, .inl hm⟩ f.t (fun W' pn xe tk po => pss_tSs (f.tr ht tk po)) (fun a pn => ?_)
    refine pss_one (ps_set f.g.nd hk ?_ (pe_var hi ?_ hnv2 hnv3) rfl ?_)
    · have := locB_loc lki
      show L2.Loc r.env.scope kept
      rw [f.g.sc]
      exact this.imp id (·.1)
    · show Vis r.env.scope n
      rw [f.g.sc]; exact hnv1
    · rcases f.g.fn with q | q
      · exact .inl (q kept)
      · rw [ht] at q; cases q
  · refine hb _ Oc H0 H σ fp hod sat D h1 h2 (fun e cls d H' σ' S' fp' hx sat' xr => ?_) h4 h5
    obtain ⟨b, hb1, hb2, hb3⟩ := hx
    obtain ⟨rfl, hd⟩ := xr
    refine ⟨b, hb1, fun hbt a na => ?_, fun hbf => h3 e _ d H' σ' S' fp' (hb3 hbf) sat' ⟨rfl, hd⟩⟩
    obtain ⟨lk', li', hnx⟩ := hb2 hbt
    have li : i < σ'.length := by rw [← sat'.len]; exact li'
    refine ⟨.ref a, by rw [List.getElem?_set_self li], ?_⟩
    show D.nx (((σ'.set i (some (.ref a))).set k (some (.ref a))).set i none) (upd H' a (ExT (.ref e.C) d a))
    have exn : Ex H' (upd H' a (ExT (.ref e.C) d a)) := Ex.new na
    have rep : Rep C.M.K (upd H' a (ExT (.ref e.C) d a)) (Ow Oc fp') (.ref a) (.exc e.C e.f) := by
      rcases hd with ⟨e1, e2⟩ | ⟨n1, v1, dd, e1, e2, e3, e4⟩
      · rw [e1]; subst e2; exact .exc0 upd_same
      · rw [e1]; subst e2; exact .exc1 upd_same (exn _ _ e3) e4
    obtain ⟨fp1, s1, _⟩ := (sat'.mono exn).setv rep lk'
    obtain ⟨fp2, s2, _⟩ := s1.forget (j := i) (by rw [List.length_set]; exact li') none
    have eq : ((σ'.set i (some (V.ref a))).set k (some (.ref a))).set i none = (σ'.set k (some (.ref a))).set i none := by
      rw [List.set_comm _ _ (Ne.symm hki), List.set_set]
    rw [eq]
    exact h1 _ _ _ fp2 hnx s2
end
end BK
/-! Part I: the rules in the form in which they are applied by rote. -/
namespace BK
open PySem PySem.Spec PyProof.Rows L2
def anyS (S : List Slot) (vs : List Nat) : Bool := vs.all fun v => match S[v]? with
  | some Slot.any => true
  | _ => false
theorem anyS_ok {S : List Slot} {vs : List Nat} (h : anyS S vs = true) : ∀ v ∈ vs, S[v]? = some .any := fun v hv => by
  have z := List.all_eq_true.mp h v hv
  split at z
  · assumption
  · cases z
section
variable {C : Ctx} {S : List Slot} {P : Post} {e a b c : Expr} {es : List Expr} {o : Out} {r : R} {d : D} {ds : List D} {lv : Bool} {pos pos' : Pos} {x : Str} {i j k : Int}
/-- a def of the module, by its name -/
def Cal (M : Mo) (x : String) (F : List D → Out → Prop) : Prop := Callee M (Str.ofString x) F
theorem de_fnR {x : String} {p : Pos} {F : List D → Out → Prop} (hF : Cal C.M x F) (hg : glB C.sc (Str.ofString x) = true) (ha : DA C lv (e :: es) S ds) (h : F ds o) (hf : lv = true ∨ Out.Flat o)
    (he : ∀ env, starEach (e :: es) env = (false, eval e env) :: starEach es env) (hpl : ∀ env, (backTo pos (starEach es env)).any (·.1) = false) : DE C (.Call (.Name (Str.ofString x) p) (e :: es) [] pos) S o := de_fn hF hg ha h hf he hpl
theorem dl_of (h : DE C e S (.ok r)) (ed : (if lv then r.fz else some r.toD) = some d) : DL C lv e S d := by
  cases lv with
  | true => exact dl_fz h ed
  | false => exact dl_rd h (Option.some.inj ed)
theorem de_of (h : DL C lv e S d) (hf : lv = true ∨ Flat d) : DE C e S (.ok (.val d)) := by
  cases lv with
  | true => exact de_dl h
  | false => exact de_dl (dl_flat h (hf.resolve_left (by decide)))
theorem de_modN (ha : DI C a S i) (hb : DI C b S j) (hc : j ≠ 0) : DI C (.BinOp a .Mod b pos) S (i.fmod j) := de_op (lv := false) (fun _ _ => op_modN) (dl_val ha) (dl_val hb) (op2_I hc fun _ _ => .int _) (.inr (.int _))
theorem de_map {α : Type} {tg it elt : Expr} {scope : Scope} (own : List (Str × Nat)) (l : List α) (enc h : α → D) (hb : blkC C.N C.sc scope own = true) (hi : DIt C lv tg it S (l.map enc)) (hv : anyS S (own.map (·.2)) = true) (hz : l.length ≤ 1000000)
    (hfl : lv = true ∨ ∀ x ∈ l, Flat (enc x)) (he : ∀ x ∈ l, ∃ S2 r, DGc (C.blk scope) (own.map (·.2)) tg S (enc x) S2 ∧ DE (C.blk scope) elt S2 (.ok r) ∧ r.fz = some (h x))
    (hf : ∀ env x, foldedSetIterable it env x = pure x := by intro _ _; rfl) : DE C (.ListComp elt [⟨tg, it, [], 0⟩] scope pos) S (.ok (.own (l.map h))) := by
  have q := de_comp (C := C) (S := S) (lv := lv) (tg := tg) (it := it) (elt := elt) (ifs := []) (scope := scope) (pos := pos) own l enc h (fun _ => true) hb hi (anyS_ok hv) hz hfl (fun x hx => by
      obtain ⟨S2, r, h1, h2, h3⟩ := he x hx
      exact ⟨S2, r, h1, dts_nil, fun _ => ⟨h2, h3⟩⟩) hf
  have e : l.filter (fun _ => true) = l := List.filter_eq_self.mpr fun _ _ => rfl
  rw [e] at q; exact q
theorem de_filter {α : Type} {tg it elt t : Expr} {scope : Scope} (own : List (Str × Nat)) (l : List α) (enc h : α → D) (p : α → Bool) (hb : blkC C.N C.sc scope own = true) (hi : DIt C lv tg it S (l.map enc)) (hv : anyS S (own.map (·.2)) = true) (hz : l.length ≤ 1000000)
    (hfl : lv = true ∨ ∀ x ∈ l, Flat (enc x)) (he : ∀ x ∈ l, ∃ S2 r, DGc (C.blk scope) (own.map (·.2)) tg S (enc x) S2 ∧ DT (C.blk scope) t S2 (p x) ∧ DE (C.blk scope) elt S2 (.ok r) ∧ r.fz = some (h x))
    (hf : ∀ env x, foldedSetIterable it env x = pure x := by intro _ _; rfl) : DE C (.ListComp elt [⟨tg, it, [t], 0⟩] scope pos) S (.ok (.own ((l.filter p).map h))) :=
  de_comp (C := C) (S := S) (lv := lv) (tg := tg) (it := it) (elt := elt) (ifs := [t]) (scope := scope) (pos := pos) own l enc h p hb hi (anyS_ok hv) hz hfl (fun x hx => by
      obtain ⟨S2, r, h1, h2, h3, h4⟩ := he x hx
      exact ⟨S2, r, h1, dts_one h2, fun _ => ⟨h3, h4⟩⟩) hf
theorem ds_app {z : Str} {ap p1 p2 : Pos} {j : Nat} (he : DL C true e S d) (hi : C.N.idxOf? z = some j) (hS : S[j]? = some (.own ds)) (hv : nmB C.sc z = true) (hz : ds.length ≤ 1000000) (h : P.nx (S.set j (.own (ds ++ [d]))))
    (hs : ∀ env, starEach (e :: []) env = (false, eval e env) :: starEach [] env)
    (hfew : ∀ env, ((backTo p2 (starEach (e :: []) env)).all (fun x => !x.1) && (backToKw p2 (keywordEach [] env)).all (fun x => x.1.isSome) && decide ((e :: []).length + ([] : List Keyword).length + (if ([] : List Keyword).isEmpty then 0 else 1) < 30)) = true)
    (hline : (ap.endLine == p2.line) = true) (hsw : ∀ env, swapsWith (.Call (.Attribute (.Name z p1) "append" ap) [e] [] p2) none pos.line env = pure false) :
    DS C (.Expr (.Call (.Attribute (.Name z p1) "append" ap) [e] [] p2) pos) S P := by
  obtain ⟨v, h1, h2⟩ := nmB_vis hv
  exact ds_append j hS he (idx_get hi) v h1 h2 hz h hs hfew hline hsw
theorem ds_retO1 {z : Str} {j : Nat} (hi : C.N.idxOf? z = some j) (hS : S[j]? = some (.own ds)) (hv : nmB C.sc z = true) (h : P.rt (.own ds)) : DS C (.Return (some (.Name z pos')) pos) S P := by
  obtain ⟨v, h1, h2⟩ := nmB_vis hv
  exact ds_retOwn j hS (idx_get hi) v h1 h2 h
theorem ds_letO {j : Nat} (he : DE C e S o) (hi : C.N.idxOf? x = some j) (hx : locB C x = true) (hj : j < S.length) (ho : ∀ r, o = .ok r → P.nx (S.set j r.slot)) (hx' : ∀ x, o = .error x → P.ex x S)
    (hs : ∀ env, swapsWith e (some (.Name x pos')) pos.line env = pure false) : DS C (.Assign [.Name x pos'] e pos) S P := ds_setO j he (idx_get hi) (locB_loc hx) hj ho hx' hs
theorem ds_for' {tg it : Expr} {body : List Stmt} {items : List D} (I : Nat → List Slot → Prop) (htop : C.top = true) (hi : DIt C true tg it S items) (h0 : I 0 S)
    (hs : ∀ i d S', items[i]? = some d → I i S' → DG C tg S' d fun S2 => DSs C body S2 { P with nx := I (i + 1), ct := I (i + 1), bk := P.nx })
    (hd : ∀ S', I items.length S' → P.nx S') (hf : ∀ env x, foldedSetIterable it env x = pure x) : DS C (.For tg it body [] pos) S P := ds_for htop hi I h0 hs hd hf
end
/-- flat data -/
theorem flat_tup {ds : List D} (h : ∀ d ∈ ds, Flat d) : Flat (.tup ds) := .tup h
theorem flat_nil : ∀ d ∈ ([] : List D), Flat d := fun _ h => by cases h
theorem flat_cons {d : D} {ds : List D} (h : Flat d) (r : ∀ d ∈ ds, Flat d) : ∀ x ∈ d :: ds, Flat x := fun x hx => by
  rcases List.mem_cons.mp hx with rfl | hx
  · exact h
  · exact r x hx
theorem flat_map {α : Type} {f : α → D} {l : List α} (h : ∀ x, Flat (f x)) : ∀ d ∈ l.map f, Flat d := fun d hd => by
  obtain ⟨x, _, rfl⟩ := List.mem_map.mp hd
  exact h x
theorem flat_app {l m : List D} (h : ∀ d ∈ l, Flat d) (g : ∀ d ∈ m, Flat d) : ∀ d ∈ l ++ m, Flat d := fun d hd => by
  rcases List.mem_append.mp hd with q | q
  · exact h d q
  · exact g d q
theorem flat_set {l : List D} {n : Nat} {x : D} (h : ∀ d ∈ l, Flat d) (g : Flat x) : ∀ d ∈ l.set n x, Flat d := fun d hd => by
  rcases List.mem_or_eq_of_mem_set hd with q | q
  · exact h d q
  · rw [q]; exact g
theorem flat_cut {l : List D} {lo hi : Option Int} (h : ∀ d ∈ l, Flat d) : ∀ d ∈ cutG l lo hi, Flat d := fun d hd => h d (cutG_mem hd)
end BK
/-! Part J: == and != of data. -/
namespace BK
open PySem PySem.Spec PyProof.Rows L2
mutual
def D.py : D → PyData
  | .non => .none
  | .bl b => .bool b
  | .int i => .int i
  | .str x => .str x
  | .tup ds => .tuple (D.pys ds)
  | .lst ds => .list (D.pys ds)
  | .ktup _ => .none
  | .scr _ => .none
  | .dic _ => .none
  | .exc _ _ => .none
def D.pys : List D → List PyData
  | [] => []
  | d :: ds => d.py :: D.pys ds
end
/-- numbers, texts, None, lists and tuples of these, at most n deep -/
inductive Pl : Nat → D → Prop
  | non {n : Nat} : Pl n .non
  | int {n : Nat} (i : Int) : Pl n (.int i)
  | str {n : Nat} {x : Str} (h : PyData.strOk x = true) : Pl n (.str x)
  | tup {n : Nat} {ds : List D} (h : ∀ d ∈ ds, Pl n d) : Pl (n + 1) (.tup ds)
  | lst {n : Nat} {ds : List D} (h : ∀ d ∈ ds, Pl n d) : Pl (n + 1) (.lst ds)
section
variable {K : PySem.W.Frag} {H : Hp} {O : Addr → Prop}
theorem Pl.dp : ∀ {n : Nat} {d : D} {v : V}, Pl n d → Rep K H O v d → Dp K H v d.py := by
  intro n
  induction n with
  | zero =>
    intro d v p r
    cases p with
    | non => cases r; rw [D.py]; exact .non
    | int i => cases r; rw [D.py]; exact .int i
    | str h => cases r; rw [D.py]; exact .str _
  | succ n ih =>
    have al : ∀ (ds : List D) (vs : List V), (∀ d ∈ ds, Pl n d) → Reps K H O vs ds → DpAll K H vs (D.pys ds) := by
      intro ds
      induction ds with
      | nil => intro vs _ r; cases r; rw [D.pys]; exact .nil
      | cons d ds ih2 =>
        intro vs h r
        cases r with
        | cons r1 r2 => rw [D.pys]; exact .cons (ih (h d List.mem_cons_self) r1) (ih2 _ (fun d q => h d (List.mem_cons_of_mem _ q)) r2)
    intro d v p r
    cases p with
    | non => cases r; rw [D.py]; exact .non
    | int i => cases r; rw [D.py]; exact .int i
    | str h => cases r; rw [D.py]; exact .str _
    | tup h => cases r with
      | tup hl rs => rw [D.py]; exact .tup (.inl (.inl hl)) (al _ _ h rs)
    | lst h => cases r with
      | lst _ hl rs => rw [D.py]; exact .lst (.inl (.inl hl)) (al _ _ h rs)
theorem Pl.lay : ∀ {n : Nat} {d : D}, Pl n d → d.py.canLay0 = true ∧ d.py.depth ≤ n := by
  intro n
  induction n with
  | zero =>
    intro d p
    cases p with
    | non => rw [D.py]; exact ⟨rfl, Nat.zero_le _⟩
    | int i => rw [D.py]; exact ⟨rfl, Nat.zero_le _⟩
    | str h => rw [D.py]; exact ⟨by rw [PyData.canLay0]; exact h, Nat.zero_le _⟩
  | succ n ih =>
    have al : ∀ ds : List D, (∀ d ∈ ds, Pl n d) → PyData.canLayAll0 (D.pys ds) = true ∧ PyData.depthAll (D.pys ds) ≤ n := by
      intro ds
      induction ds with
      | nil => intro _; rw [D.pys]; exact ⟨rfl, Nat.zero_le _⟩
      | cons d ds ih2 =>
        intro h
        obtain ⟨a1, a2⟩ := ih (h d List.mem_cons_self)
        obtain ⟨b1, b2⟩ := ih2 fun d q => h d (List.mem_cons_of_mem _ q)
        rw [D.pys, PyData.canLayAll0, PyData.depthAll, a1, b1]
        exact ⟨rfl, Nat.max_le.mpr ⟨a2, b2⟩⟩
    intro d p
    cases p with
    | non => rw [D.py]; exact ⟨rfl, Nat.zero_le _⟩
    | int i => rw [D.py]; exact ⟨rfl, Nat.zero_le _⟩
    | str h => rw [D.py]; exact ⟨by rw [PyData.canLay0]; exact h, Nat.zero_le _⟩
    | tup h =>
      obtain ⟨a1, a2⟩ := al _ h
      rw [D.py, PyData.canLay0, PyData.depth]; exact ⟨a1, Nat.succ_le_succ a2⟩
    | lst h =>
      obtain ⟨a1, a2⟩ := al _ h
      rw [D.py, PyData.canLay0, PyData.depth]; exact ⟨a1, Nat.succ_le_succ a2⟩
theorem Pl.shaped {n : Nat} {d : D} (p : Pl n d) (hn : n ≤ 64) : SeqAt.shaped d.py = true := by
  unfold SeqAt.shaped
  rw [p.lay.1, decide_eq_true (Nat.le_trans p.lay.2 hn)]; rfl
theorem Pl.eqv : ∀ {n : Nat} {a b : D}, Pl n a → Pl n b → (PyData.eqv a.py b.py = true ↔ a = b) := by
  intro n
  induction n with
  | zero =>
    intro a b p q
    cases p <;> cases q <;> simp [D.py, PyData.eqv]
  | succ n ih =>
    have al : ∀ xs ys : List D, (∀ d ∈ xs, Pl n d) → (∀ d ∈ ys, Pl n d) → (PyData.eqvAll (D.pys xs) (D.pys ys) = true ↔ xs = ys) := by
      intro xs
      induction xs with
      | nil =>
        intro ys _ _
        cases ys with
        | nil => simp [D.pys, PyData.eqvAll]
        | cons y ys => simp [D.pys, PyData.eqvAll]
      | cons x xs ih2 =>
        intro ys h1 h2
        cases ys with
        | nil => simp [D.pys, PyData.eqvAll]
        | cons y ys =>
          rw [D.pys, D.pys, PyData.eqvAll, Bool.and_eq_true, ih (h1 x List.mem_cons_self) (h2 y List.mem_cons_self), ih2 ys (fun d q => h1 d (List.mem_cons_of_mem _ q)) fun d q => h2 d (List.mem_cons_of_mem _ q)]
          simp
    intro a b p q
    cases p with
    | tup h => cases q with
      | tup g => rw [D.py, D.py, PyData.eqv, al _ _ h g]; simp
      | _ => simp [D.py, PyData.eqv]
    | lst h => cases q with
      | lst g => rw [D.py, D.py, PyData.eqv, al _ _ h g]; simp
      | _ => simp [D.py, PyData.eqv]
    | _ => cases q <;> simp [D.py, PyData.eqv]
end
theorem pl_map {α : Type} {n : Nat} {f : α → D} {l : List α} (h : ∀ x, Pl n (f x)) : ∀ d ∈ l.map f, Pl n d := fun d hd => by
  obtain ⟨x, _, rfl⟩ := List.mem_map.mp hd
  exact h x
theorem pl_nil {n : Nat} : ∀ d ∈ ([] : List D), Pl n d := fun _ h => by cases h
theorem pl_cons {n : Nat} {d : D} {ds : List D} (h : Pl n d) (r : ∀ d ∈ ds, Pl n d) : ∀ x ∈ d :: ds, Pl n x := fun x hx => by
  rcases List.mem_cons.mp hx with rfl | hx
  · exact h
  · exact r x hx
section
variable {C : Ctx} {S : List Slot} {a b : Expr} {da db : D} {pos : Pos} {x : Bool} {n : Nat}
theorem op2_eqD {K : PySem.W.Frag} (pa : Pl n da) (pb : Pl n db) (hn : n ≤ 64) : Op2 K (rEqD K) da db (.val (.bl (PyData.eqv da.py db.py))) := fun A H x y Q _ rx ry hq => ⟨_, _, pa.dp rx, pb.dp ry, pa.shaped hn, pb.shaped hn, hq _ H (Ex.refl H) (.bl _)⟩
theorem op2_neD {K : PySem.W.Frag} (pa : Pl n da) (pb : Pl n db) (hn : n ≤ 64) : Op2 K (rNeD K) da db (.val (.bl (!PyData.eqv da.py db.py))) := fun A H x y Q _ rx ry hq => ⟨_, _, pa.dp rx, pb.dp ry, pa.shaped hn, pb.shaped hn, hq _ H (Ex.refl H) (.bl _)⟩
theorem bool_of_iff {p q : Bool} (h : p = true ↔ q = true) : p = q := by
  cases p <;> cases q <;> simp_all
theorem de_eqD (n : Nat) (ha : DL C false a S da) (hb : DL C false b S db) (pa : Pl n da) (pb : Pl n db) (hx : x = true ↔ da = db) (hn : n ≤ 64) : DB C (.Compare a [.Eq] [b] pos) S x := by
  rw [show x = PyData.eqv da.py db.py from bool_of_iff (hx.trans (pa.eqv pb).symm)]
  exact de_cmp (fun r g => op_eqD g.room.units) (nomark _) ha hb (op2_eqD pa pb hn) (.inr (.bl _))
theorem dt_eqD (n : Nat) (ha : DL C false a S da) (hb : DL C false b S db) (pa : Pl n da) (pb : Pl n db) (hx : x = true ↔ da = db) (hn : n ≤ 64) : DT C (.Compare a [.Eq] [b] pos) S x := by
  rw [show x = PyData.eqv da.py db.py from bool_of_iff (hx.trans (pa.eqv pb).symm)]
  exact dt_cmp (fun r g => op_eqD g.room.units) (nomark _) ha hb (op2_eqD pa pb hn)
theorem de_neD (n : Nat) (ha : DL C false a S da) (hb : DL C false b S db) (pa : Pl n da) (pb : Pl n db) (hx : x = true ↔ da ≠ db) (hn : n ≤ 64) : DB C (.Compare a [.NotEq] [b] pos) S x := by
  rw [show x = !PyData.eqv da.py db.py from bool_of_iff (hx.trans (by rw [Bool.not_eq_true', Bool.eq_false_iff]; exact not_congr (pa.eqv pb).symm))]
  exact de_cmp (fun r g => op_neD g.room.units) (nomark _) ha hb (op2_neD pa pb hn) (.inr (.bl _))
theorem dt_neD (n : Nat) (ha : DL C false a S da) (hb : DL C false b S db) (pa : Pl n da) (pb : Pl n db) (hx : x = true ↔ da ≠ db) (hn : n ≤ 64) : DT C (.Compare a [.NotEq] [b] pos) S x := by
  rw [show x = !PyData.eqv da.py db.py from bool_of_iff (hx.trans (by rw [Bool.not_eq_true', Bool.eq_false_iff]; exact not_congr (pa.eqv pb).symm))]
  exact dt_cmp (fun r g => op_neD g.room.units) (nomark _) ha hb (op2_neD pa pb hn)
end
end BK
/-! Part K: defs with defaults; a raise out of an argument. -/
namespace BK
open PySem PySem.Spec PyProof.Rows L2
theorem fn_dataD {M : Mo} {x qual : Str} {params : Arguments} {body : List Stmt} {scope : Scope} {dvs : List V} {kws : List (Str × V)} {f : Addr} {fd : FuncData} {N ps : List Str} {Fd : List D → Out → Prop} (F : FunD M.K x qual params body scope dvs kws f fd) (S : FnScope N ps scope) (hlen : ∀ ds o, Fd ds o → ds.length = ps.length)
    (hb : ∀ ds o, Fd ds o → DSs ⟨M, N, scope, true⟩ body (startS N ds) (postOf o)) : FnOk M.P M.w M.K M.mg M.base (L2.CX M.P M.w) (M.k + 1) f fd ps (spOf M.K Fd) := by
  have hpl : ps.length ≤ N.length := by have := congrArg List.length S.pre; rw [List.length_take] at this; omega
  refine F.ok S (fun vs H Q E h => ?_) (fun cdv A outer s H vs Q E hr h => ?_)
  · obtain ⟨Oc, ds, o, _, r, hF, _⟩ := h
    rw [r.length, hlen ds o hF]
  · obtain ⟨Oc, ds, o, hod, r, hF, hq, hx⟩ := h
    let C : Ctx := ⟨M, N, scope, true⟩
    let W : WX := fun cls d _ H => E cls d H
    refine ⟨tSs C body W, ?_, ?_⟩
    · exact pss_tSs (C := C) (r := { A := A.deeper (envOfC qual scope s.heap.objs.size f cdv), s_0 := s, H_0 := H, env := envOfC qual scope s.heap.objs.size f cdv, outer := outer, stack := envOfC qual scope s.heap.objs.size f cdv :: outer, ex := [], fn := fun _ => true, calm := true, pn := [], xe := _ }) ⟨⟨rfl, rfl, hr, S.nd, .inl fun _ => rfl, fun _ => ⟨rfl, rfl, rfl, passes_of (X := cxOf (L2.CX M.P M.w) M.P M.w M.K M.mg M.base N qual scope f cdv A outer s H E) rfl⟩⟩, takes_of rfl rfl rfl rfl⟩
    · exact hb ds o hF W Oc H H _ _ hod (sat_start r (by rw [hlen ds o hF]; exact hpl)) _
        (fun S' H' σ' fp' hn sat => hq _ _ H' hn sat.ex .non)
        (fun r v H' hr ex res => hq r v H' hr ex res)
        (fun e cls d H' σ' S' fp' he sat xr => hx e cls d H' he sat.ex xr)
        (fun _ _ _ _ h => h.elim) (fun _ _ _ _ h => h.elim)
/-- a def of the module whose last arguments are left out -/
structure CalD (M : Mo) (x : String) (F : List D → Out → Prop) (dvs : List V) : Prop where
  ex : ∃ (f : Addr) (fd : FuncData) (ps : List Str) (ds : List Value), FnOk M.P M.w M.K M.mg M.base (L2.CX M.P M.w) M.k f fd ps (spOf M.K F) ∧ M.mg (Str.ofString x) = some (.ref f) ∧ PySem.W.keepIn M.K (.ref f) = true ∧ Vals dvs ds ∧ Binds M.K fd ps ds
theorem CalD.up {M : Mo} {x : String} {F : List D → Out → Prop} {dvs : List V} (h : CalD M x F dvs) {k : Nat} (hk : M.k ≤ k) : CalD (M.at k) x F dvs := by
  obtain ⟨f, fd, ps, ds, G, mg, kp, b⟩ := h.ex
  exact ⟨f, fd, ps, ds, G.mono hk, mg, kp, b⟩
section
variable {C : Ctx} {S : List Slot} {e a : Expr} {es : List Expr} {o : Out} {r : R} {d : D} {ds dd : List D} {lv : Bool} {pos : Pos}
theorem de_fnD {x : String} {p : Pos} {F : List D → Out → Prop} {dvs : List V} (hF : CalD C.M x F dvs) (hg : glB C.sc (Str.ofString x) = true) (ha : DA C lv (e :: es) S ds) (h : F (ds ++ dd) (.ok r)) (hd : ∀ H O, Reps C.M.K H O dvs dd) (hf : lv = true ∨ r.Flat)
    (he : ∀ env, starEach (e :: es) env = (false, eval e env) :: starEach es env) (hpl : ∀ env, (backTo pos (starEach es env)).any (·.1) = false) : DE C (.Call (.Name (Str.ofString x) p) (e :: es) [] pos) S (.ok r) := by
  obtain ⟨f, fd, ps, vs0, G, mg, kp, hv, b⟩ := hF.ex
  refine .mk fun W => ⟨tCall (spOf C.M.K F) dvs E0 (tA C (e :: es) W), fun r fm => pe_call G fm.g.room ((glB_gl hg).1.gl fm.g) mg kp b hv passL (pa_tA fm) (glB_gl hg).2 (he _) (hpl _), fun Oc H0 H σ fp hod sat Q hq hx => ?_⟩
  refine ha W Oc H0 H σ fp hod sat _ fun vs H1 e1 reps => ⟨_, ds ++ dd, .ok r, ((sat.thereO hod).ex e1).lvl, reps.app (hd _ _), h, fun r' v H2 er e2 res => ?_, fun _ _ _ _ er => nomatch er⟩
  cases er
  exact hq _ v H2 rfl (e1.trans e2) ((res.unlvl hf).base e1)
/-- the argument raises -/
theorem de_fnE {x : String} {p : Pos} {F : List D → Out → Prop} {er : Exc} (hF : Cal C.M x F) (hg : glB C.sc (Str.ofString x) = true) (ha : DE C a S (.error er))
    (he : ∀ env, starEach (a :: []) env = (false, eval a env) :: starEach [] env) : DE C (.Call (.Name (Str.ofString x) p) [a] [] pos) S (.error er) := by
  obtain ⟨f, fd, ps, G, mg, kp, b⟩ := hF.ex
  refine .mk fun W => ⟨_, fun r fm => pe_callS (E := WE W) G fm.g.room ((glB_gl hg).1.gl fm.g) mg kp b (fun σ => passAt fm.t σ) (pa_cons (pe_tE fm) pa_nil (he _)) (glB_gl hg).2 (he _) rfl, fun Oc H0 H σ fp hod sat Q hq hx => ?_⟩
  exact ha W Oc H0 H σ fp hod sat _ (fun _ _ _ z => nomatch z) fun e cls d H' z ex xr => hx e cls d H' z ex xr
end
end BK
/-! Part L: the end. -/
namespace BK
open PySem PySem.Spec PyProof.Rows L2
section
variable {K : PySem.W.Frag}
theorem fun_of {x qual : Str} {st : Stmt} {f : Addr} {fd : FuncData} (F : FunD K x qual (defArgs st) (defBody st) (defScope st) [] [] f fd) : Fun K x qual st f fd := by
  obtain ⟨⟨oc, od, dV, kV, doc, pm, an, cdv, ct, osl, h1, h2, h3, h4, h5⟩, kp⟩ := F
  rcases h4 with ⟨_, rfl⟩ | ⟨h, _⟩
  · exact ⟨⟨oc, od, kV, doc, pm, an, cdv, ct, osl, h1, h2, h3⟩, kp⟩
  · exact absurd rfl h
def exB (K : PySem.W.Frag) (C : Addr) : Bool := He.eqO (PySem.W.findIn K (.ref C) "__getattribute__") (some (some (.builtin "BaseException.__getattribute__"))) && (He.eqO (PySem.W.findIn K (.ref C) "__getattr__") (some none) && (decide (PySem.W.subIn K (.ref C) (.type "BaseException") = some true) && (PySem.W.hasDictIn K C &&
  (He.eqO (PySem.W.findIn K (.ref C) "__class__") (some (some (.builtin "object.__class__"))) && (He.eqO (PySem.W.specialIn K (.builtin "object.__class__") "__get__") (some (some (.builtin "getset_descriptor.__get__"))) && (decide (PySem.W.takesIn K (.builtin "object.__class__") = some true) && decide (PySem.W.mroIn K C (.type "object") = some true)))))))
theorem exB_ok {C : Addr} (h : exB K C = true) : ExcC K C := by
  obtain ⟨h1, h⟩ := He.ba h
  obtain ⟨h2, h⟩ := He.ba h
  obtain ⟨h3, h⟩ := He.ba h
  obtain ⟨h4, h⟩ := He.ba h
  obtain ⟨h5, h⟩ := He.ba h
  obtain ⟨h6, h⟩ := He.ba h
  obtain ⟨h7, h8⟩ := He.ba h
  exact ⟨He.eqO_ok h1, He.eqO_ok h2, of_decide_eq_true h3, h4, He.eqO_ok h5, He.eqO_ok h6, of_decide_eq_true h7, of_decide_eq_true h8⟩
/-- a class whose __init__ keeps a field -/
def oexB (K : PySem.W.Frag) (C : Addr) : Bool := (match K.lookup C with
  | some ⟨.type t, _, .cls cd, sl⟩ => (match cd.mro, sl.toList with
    | .ref c :: bm, [_, _, _, _, some (.builtin n), _] => decide (t = "type") && (decide (c = C) && (decide (n = "ValueError.__new__") && (cd.hasDict && (!cd.hasDel && PySem.HandSPX.refsVE bm))))
    | _, _ => false)
  | _ => false) && (He.eqO (PySem.W.findIn K (.ref C) "__setattr__") (some (some (.builtin "object.__setattr__"))) && (decide (PySem.W.subIn K (.ref C) (.type "BaseException") = some true) && (decide (PySem.W.typeIn K (.ref C) = some (.type "type")) && PySem.W.keepIn K (.ref C))))
theorem oexB_ok {C : Addr} (h : oexB K C = true) : OexC K C := by
  obtain ⟨h1, h⟩ := He.ba h
  obtain ⟨h2, h⟩ := He.ba h
  obtain ⟨h3, h⟩ := He.ba h
  obtain ⟨h4, h5⟩ := He.ba h
  refine ⟨?_, He.eqO_ok h2, of_decide_eq_true h3, of_decide_eq_true h4, h5⟩
  split at h1
  · rename_i t dd cd sl ho
    split at h1
    · rename_i c bm k0 k1 k2 k3 n k5 hm hs
      obtain ⟨a1, h1⟩ := He.ba h1
      obtain ⟨a2, h1⟩ := He.ba h1
      obtain ⟨a3, h1⟩ := He.ba h1
      obtain ⟨a4, h1⟩ := He.ba h1
      obtain ⟨a5, a6⟩ := He.ba h1
      have b1 := of_decide_eq_true a1
      have b2 := of_decide_eq_true a2
      have b3 := of_decide_eq_true a3
      subst b1 b2 b3
      obtain ⟨nm, bs, mro, ns, qn, hd, sn, sub, ab, col, del⟩ := cd
      dsimp only at hm a4 a5
      subst hm a4
      cases del with
      | true => cases a5
      | false =>
        obtain ⟨l⟩ := sl
        dsimp only at hs
        subst hs
        exact ⟨nm, qn, ns, bs, bm, sn, sub, ab, col, dd, k0, k1, k2, k3, k5, ho, a6⟩
    · cases h1
  · cases h1
theorem exc0_of {M : Mo} {h : Heap} (X : M.K.In h) (G : h.Ns mainGlobals M.mg) {x : Str} (c : (He.Fa.exc x).ok M.K = true) (g : M.mg x = some (.ref (He.ga M.K x))) : Exc0 M x (He.ga M.K x) := by
  obtain ⟨h1, h⟩ := He.ba (show (PySem.W.excIn M.K (He.ga M.K x) He.veBase "ValueError.__new__" && (PySem.W.keepIn M.K (.ref (He.ga M.K x)) && (decide (PySem.W.subIn M.K (.ref (He.ga M.K x)) (.type "BaseException") = some true) && decide (PySem.W.typeIn M.K (.ref (He.ga M.K x)) = some (.type "type"))))) = true from c)
  obtain ⟨h2, h⟩ := He.ba h
  obtain ⟨h3, h4⟩ := He.ba h
  exact ⟨g, h1, h2, of_decide_eq_true h3, of_decide_eq_true h4⟩
theorem sp_law {F : List D → Out → Prop} (hF : ∀ ns : List Int, ns.length ≤ 63 → F [.scr ns] (.ok (.val (.bl true)))) {H : Hp} {a : Addr} {ns : List Int} (hl : ns.length ≤ 63) (hO : Only H) (hS : SqL K H a (ns.map V.int)) : spOf K F [.ref a] H (fun v _ => v = .bl true) fun _ _ _ => False := by
  refine ⟨fun _ => False, [.scr ns], .ok (.val (.bl true)), fun a h => h.elim, .cons (.scr ?_) .nil, hF ns hl, fun r v H' er _ res => ?_, fun _ _ _ _ er => nomatch er⟩
  · rcases hS with (h | ⟨o, h⟩) | h
    · rcases hO a with q | ⟨o, xs, q⟩
      · rw [h] at q; cases q
      · rw [h] at q; cases q
    · exact .inl ⟨o, h⟩
    · exact .inr (.inr h)
  · cases er; cases res; rfl
end
theorem cx_none {P : Program} {w : World} {H : Hp} {s s' : Shared} {e : Value} (h : L2.CX P w [] H s (fun _ _ _ => False) e s') : False := by
  obtain ⟨_, _, _, _, _, _, _, _, _, _, _, _, z⟩ := h
  exact z
end BK
/-! Part M: a def whose first argument is a list of the caller's own. -/
namespace BK
open PySem PySem.Spec PyProof.Rows L2
def DJ (C : Ctx) (j : Nat) (l : Addr) (sts : List Stmt) (S : List Slot) (P R : List Slot → Prop) : Prop := ∀ (W : WX) Oc H0 H σ fp, There Oc H0 → Sat C.M.K Oc H0 H σ S fp → fp j = [l] → ∀ D : Ends,
  (∀ S' H' σ' fp', P S' → Sat C.M.K Oc H0 H' σ' S' fp' → fp' j = [l] → D.nx σ' H') → (∀ S' H' σ' fp', R S' → Sat C.M.K Oc H0 H' σ' S' fp' → fp' j = [l] → D.rt .non H') → tSs C sts W D σ H
section
variable {C : Ctx} {j : Nat} {l : Addr} {S : List Slot} {P R : List Slot → Prop} {rest A B : List Stmt} {pos : Pos} {c e : Expr} {x : Bool} {d : D} {ds : List D}
theorem dj_nil (h : P S) : DJ C j l [] S P R := fun W Oc H0 H σ fp hod sat hf D h1 h2 => ⟨tNext, fun _ _ => pss_nil, h1 S H σ fp h sat hf⟩
theorem dj_ret (h : R S) : DJ C j l (.Return none pos :: rest) S P R := fun W Oc H0 H σ fp hod sat hf D h1 h2 => ⟨tSeq tRetN (tSs C rest W), fun r f => pss_cons ps_retN (pss_tSs f), h2 S H σ fp h sat hf⟩
theorem dj_if (hc : DT C c S x) (ht : x = true → DJ C j l A S (fun S' => DJ C j l rest S' P R) R) (hf : x = false → DJ C j l B S (fun S' => DJ C j l rest S' P R) R) : DJ C j l (.If c A B pos :: rest) S P R := fun W Oc H0 H σ fp hod sat hl D h1 h2 =>
  ⟨tSeq (tIfS (tT C c W) (tSs C A W) (tSs C B W)) (tSs C rest W), fun r f => pss_cons (ps_if (pt_tT f) (pss_tSs f) (pss_tSs f)) (pss_tSs f), hc W Oc H0 H σ fp (hod.up sat) sat _ fun H' ex => by
    cases x with
    | true => exact ht rfl W Oc H0 H' σ fp hod (sat.mono ex) hl _ (fun S' H' σ' fp' p s q => p W Oc H0 H' σ' fp' hod s q D h1 h2) h2
    | false => exact hf rfl W Oc H0 H' σ fp hod (sat.mono ex) hl _ (fun S' H' σ' fp' p s q => p W Oc H0 H' σ' fp' hod s q D h1 h2) h2⟩
theorem Sat.setv' {K : PySem.W.Frag} {Oc : Addr → Prop} {H0 H : Hp} {σ : L2.St} {fp : Nat → List Addr} {v : V} (h : Sat K Oc H0 H σ S fp) (hv : Rep K H (Ow Oc fp) v d) {i : Nat} (hi : i < S.length) : Sat K Oc H0 H (σ.set i (some v)) (S.set i (.val d)) (fset fp i []) := by
  have sub : ∀ a, Ow Oc (fset fp i []) a → Ow Oc fp a := fun a z => (Ow_fset a z).elim id fun q => by cases q
  exact h.put hi (some v) (.val d) [] (fun a z => by cases z) (fun a z => by cases z) ⟨rfl, v, rfl, hv.less sub⟩ (fun i s _ q => (h.slot i s q).step (Ex.refl H) fun a z => .inl (sub a z))
theorem dj_let {z : Str} {i : Nat} {pos' : Pos} (he : DE C e S (.ok (.val d))) (hi : C.N.idxOf? z = some i) (hx : locB C z = true) (hil : i < S.length) (hij : i ≠ j) (h : DJ C j l rest (S.set i (.val d)) P R)
    (hs : ∀ env, swapsWith e (some (.Name z pos')) pos.line env = pure false := by intro _; rfl) : DJ C j l (.Assign [.Name z pos'] e pos :: rest) S P R := fun W Oc H0 H σ fp hod sat hl D h1 h2 =>
  ⟨tSeq (tAsg (tE C e W) (gName i)) (tSs C rest W), fun r f => pss_cons ((locB_loc hx).ps (idx_get hi) f (hs _)) (pss_tSs f), he W Oc H0 H σ fp (hod.up sat) sat _
    (fun r v H' er ex res => by
      cases er
      exact h W Oc H0 H' _ _ hod ((sat.mono ex).setv' res hil) (by rw [fset_ne hij.symm]; exact hl) D h1 h2)
    (fun _ _ _ _ er => nomatch er)⟩
theorem dj_pop {z u : Str} {ap p1 p2 p3 : Pos} {i : Nat} (hz : C.N.idxOf? z = some j) (hS : S[j]? = some (.own (ds ++ [d]))) (hv : nmB C.sc z = true) (hi : C.N.idxOf? u = some i) (hx : locB C u = true) (hil : i < S.length) (hij : i ≠ j)
    (h : DJ C j l rest ((S.set j (.own ds)).set i (.val d)) P R) (hline : (ap.endLine == p2.line) = true := by rfl) :
    DJ C j l (.Assign [.Name u p3] (.Call (.Attribute (.Name z p1) "pop" ap) [] [] p2) pos :: rest) S P R := by
  obtain ⟨hv1, hd, hcd⟩ := nmB_vis hv
  refine fun W Oc H0 H σ fp hod sat hl D h1 h2 => ⟨tSeq (tAsg (tBM0 C.M.K "list" rPop (tVar j)) (gName i)) (tSs C rest W), fun r f => pss_cons ((locB_loc hx).ps' (idx_get hi) f (pe_bm0 PySem.F.plainAttrs_list PySem.F.slot_list_pop PySem.F.type_list_pop mt_pop (pe_var (idx_get hz) (vis_of hv1 f.g) hd hcd) rfl hline) rfl) (pss_tSs f), ?_⟩
  obtain ⟨l', vs, el, hf, hl', reps⟩ := sat.own hS
  have hlen := reps.length
  rw [List.length_append, List.length_singleton] at hlen
  have hg : (ds ++ [d])[vs.length - 1]? = some d := by
    rw [hlen, Nat.add_sub_cancel, List.getElem?_append_right (Nat.le_refl _), Nat.sub_self]; rfl
  obtain ⟨v, ev, rep⟩ := reps.getD hg
  have hdl : Reps C.M.K H (Ow Oc fp) vs.dropLast ds := by
    have q := reps.take (vs.length - 1)
    rw [← List.dropLast_eq_take, hlen, Nat.add_sub_cancel, List.take_append_of_le_length (Nat.le_refl _), List.take_length] at q
    exact q
  refine ⟨_, el, .inl ⟨rfl, vs, .inl (.inl hl')⟩, l', vs, v, rfl, rfl, hl', ev, ?_⟩
  have s1 := sat.write hS hf hdl
  have ml : l' ∈ fp j := by rw [hf]; exact List.mem_cons_self
  have r1 : Rep C.M.K (upd H l' (.lst vs.dropLast)) (Ow Oc fp) v d := rep.write (.inr ⟨j, ml⟩) (sat.there ml)
  exact h W Oc H0 _ _ _ hod (s1.setv' r1 (by rw [List.length_set]; exact hil)) (by rw [fset_ne hij.symm]; exact hl) D h1 h2
theorem dj_app {z : Str} {ap p1 p2 : Pos} (hz' : C.N.idxOf? z = some j) (hS : S[j]? = some (.own ds)) (he : DL C true e S d) (hv : nmB C.sc z = true) (hz : ds.length ≤ 1000000) (h : DJ C j l rest (S.set j (.own (ds ++ [d]))) P R)
    (hs : ∀ env, starEach (e :: []) env = (false, eval e env) :: starEach [] env := by intro _; rfl)
    (hfew : ∀ env, ((backTo p2 (starEach (e :: []) env)).all (fun x => !x.1) && (backToKw p2 (keywordEach [] env)).all (fun x => x.1.isSome) && decide ((e :: []).length + ([] : List Keyword).length + (if ([] : List Keyword).isEmpty then 0 else 1) < 30)) = true := by intro _; rfl)
    (hline : (ap.endLine == p2.line) = true := by rfl) (hsw : ∀ env, swapsWith (.Call (.Attribute (.Name z p1) "append" ap) [e] [] p2) none pos.line env = pure false := by intro _; rfl) :
    DJ C j l (.Expr (.Call (.Attribute (.Name z p1) "append" ap) [e] [] p2) pos :: rest) S P R := by
  obtain ⟨hv1, hd, hcd⟩ := nmB_vis hv
  refine fun W Oc H0 H σ fp hod sat hf D h1 h2 => ⟨tSeq (tDrop (tBM C.M.K "list" rAppend (tVar j) (tCons (tE C e W) tNil))) (tSs C rest W), fun r f => pss_cons (ps_expr (pe_bm PySem.F.plainAttrs_list PySem.F.slot_list_append PySem.F.type_list_append mt_append (pe_var (idx_get hz') (vis_of hv1 f.g) hd hcd) (pa_cons (pe_tE f) pa_nil (hs _)) rfl (hfew _) hline (hs _) rfl) (hsw _)) (pss_tSs f), ?_⟩
  obtain ⟨l', vs, el, hf', hl, reps⟩ := sat.own hS
  refine ⟨_, el, .inl ⟨rfl, vs, .inl (.inl hl)⟩, he W Oc H0 H σ fp (hod.up sat) sat _ fun v H1 e1 rep => ⟨l', vs, v, rfl, rfl, e1 _ _ hl, ?_, ?_⟩⟩
  · rw [reps.length]; exact sz_lt hz
  · exact h W Oc H0 _ _ _ hod ((sat.mono e1).write hS hf' ((reps.mono e1).app (.one rep))) hf D h1 h2
end
/-- it changes the list at its first argument and gives None -/
def spJ (K : PySem.W.Frag) (F : List D → List D → List D → Prop) : Sp := fun vs H Q _ => ∃ (l : Addr) (ws xs : List V) (ds as ds' : List D), vs = .ref l :: ws ∧ H l = some (.lst xs) ∧ Reps K H (fun a => a = l) xs ds ∧ Reps K H (fun a => a = l) ws as ∧ F ds as ds' ∧
  ∀ H' xs', (∀ b o, b ≠ l → H b = some o → H' b = some o) → H' l = some (.lst xs') → Reps K H' (fun a => a = l) xs' ds' → Q .non H'
theorem fn_own {M : Mo} {x qual : Str} {st : Stmt} {f : Addr} {fd : FuncData} {N ps : List Str} {F : List D → List D → List D → Prop} (Fn : Fun M.K x qual st f fd) (S : FnScope N ps (defScope st)) (hlen : ∀ ds as ds', F ds as ds' → as.length + 1 = ps.length) (hfl : ∀ ds as ds', F ds as ds' → ∀ d ∈ ds', Flat d)
    (hb : ∀ l ds as ds', F ds as ds' → DJ ⟨M, N, defScope st, true⟩ 0 l (defBody st) (.own ds :: (as.map Slot.val ++ List.replicate (N.length - (as.length + 1)) .any)) (fun S' => S'[0]? = some (.own ds')) (fun S' => S'[0]? = some (.own ds'))) :
    FnOk M.P M.w M.K M.mg M.base (L2.CX M.P M.w) (M.k + 1) f fd ps (spJ M.K F) := by
  have hpl : ps.length ≤ N.length := by have := congrArg List.length S.pre; rw [List.length_take] at this; omega
  refine Fn.okX S (fun vs H Q E h => ?_) (fun cdv A outer s H vs Q E hr h => ?_)
  · obtain ⟨l, ws, xs, ds, as, ds', rfl, _, _, r, hF, _⟩ := h
    rw [List.length_cons, r.length, hlen _ _ _ hF]
  · obtain ⟨l, ws, xs, ds, as, ds', rfl, hl, rx, r, hF, hq⟩ := h
    let C : Ctx := ⟨M, N, defScope st, true⟩
    let W : WX := fun cls d _ H => E cls d H
    have hN : as.length + 1 ≤ N.length := by rw [hlen _ _ _ hF]; exact hpl
    refine ⟨tSs C (defBody st) W, ?_, ?_⟩
    · exact pss_tSs (C := C) (r := { A := A.deeper (envOfC qual (defScope st) s.heap.objs.size f cdv), s_0 := s, H_0 := H, env := envOfC qual (defScope st) s.heap.objs.size f cdv, outer := outer, stack := envOfC qual (defScope st) s.heap.objs.size f cdv :: outer, ex := [], fn := fun _ => true, calm := true, pn := [], xe := _ }) ⟨⟨rfl, rfl, hr, S.nd, .inl fun _ => rfl, fun _ => ⟨rfl, rfl, rfl, passes_of (X := cxOf (L2.CX M.P M.w) M.P M.w M.K M.mg M.base N qual (defScope st) f cdv A outer s H E) rfl⟩⟩, takes_of rfl rfl rfl rfl⟩
    · have ow : ∀ a, Ow (fun _ => False) (fun i => if i = 0 then [l] else []) a → a = l := fun a z => by
        rcases z with z | ⟨i, z⟩
        · exact z.elim
        · by_cases hi : i = 0
          · have z' : a ∈ (if i = 0 then [l] else []) := z
            rw [if_pos hi] at z'; exact List.mem_singleton.mp z'
          · have z' : a ∈ (if i = 0 then [l] else []) := z
            rw [if_neg hi] at z'; cases z'
      have sat : Sat M.K (fun _ => False) (fun b => if b = l then none else H b) H (L2.start N (.ref l :: ws)) (.own ds :: (as.map Slot.val ++ List.replicate (N.length - (as.length + 1)) .any)) (fun i => if i = 0 then [l] else []) := by
        refine ⟨?_, fun i s e => ?_, fun i hi => ?_, fun i j a h1 h2 => ?_, fun i a h => ?_, fun b o e => ?_⟩
        · have := r.length
          unfold L2.start
          simp [this]
        · cases i with
          | zero =>
            cases e
            exact ⟨l, xs, rfl, rfl, hl, rx.less ow⟩
          | succ i =>
            rw [List.getElem?_cons_succ] at e
            show SlotRep _ _ _ _ s []
            by_cases hi : i < as.length
            · rw [List.getElem?_append_left (by rw [List.length_map]; exact hi), List.getElem?_map, List.getElem?_eq_getElem hi] at e
              cases e
              obtain ⟨v, hv, rv⟩ := r.getD (List.getElem?_eq_getElem hi)
              refine ⟨rfl, v, ?_, rv.less ow⟩
              unfold L2.start
              rw [List.getD_eq_getElem?_getD, List.map_cons, List.cons_append, List.getElem?_cons_succ, List.getElem?_append_left (by rw [List.length_map, r.length]; exact hi), List.getElem?_map, hv]; rfl
            · rw [List.getElem?_append_right (by rw [List.length_map]; omega), List.getElem?_replicate] at e
              split at e
              · cases e; exact rfl
              · cases e
        · rw [List.length_cons] at hi
          exact if_neg (by omega)
        · by_cases hi : i = 0
          · by_cases hj : j = 0
            · rw [hi, hj]
            · have z' : a ∈ (if j = 0 then [l] else []) := h2
              rw [if_neg hj] at z'; cases z'
          · have z' : a ∈ (if i = 0 then [l] else []) := h1
            rw [if_neg hi] at z'; cases z'
        · by_cases hi : i = 0
          · have z' : a ∈ (if i = 0 then [l] else []) := h
            rw [if_pos hi] at z'; rw [List.mem_singleton.mp z']; exact if_pos rfl
          · have z' : a ∈ (if i = 0 then [l] else []) := h
            rw [if_neg hi] at z'; cases z'
        · by_cases hb : b = l
          · rw [if_pos hb] at e; cases e
          · rw [if_neg hb] at e; exact e
      have fin : ∀ S' H' σ' fp', S'[0]? = some (.own ds') → Sat M.K (fun _ => False) (fun b => if b = l then none else H b) H' σ' S' fp' → fp' 0 = [l] → Q .non H' := fun S' H' σ' fp' h0 s' hf => by
        obtain ⟨l', xs', _, hf', hl', rp⟩ := s'.own h0
        rw [hf] at hf'
        cases hf'
        exact hq H' xs' (fun b o hb e => s'.ex b o (by rw [if_neg hb]; exact e)) hl' (rp.flat (hfl _ _ _ hF))
      exact hb l ds as ds' hF W (fun _ => False) _ H _ _ (fun a h => h.elim) sat (if_pos rfl) _ (fun S' H' σ' fp' p s q => fin S' H' σ' fp' p s q) (fun S' H' σ' fp' p s q => fin S' H' σ' fp' p s q)
/-- such a def of the module -/
structure CalJ (M : Mo) (x : String) (F : List D → List D → List D → Prop) : Prop where
  ex : ∃ (f : Addr) (fd : FuncData) (ps : List Str), FnOk M.P M.w M.K M.mg M.base (L2.CX M.P M.w) M.k f fd ps (spJ M.K F) ∧ M.mg (Str.ofString x) = some (.ref f) ∧ PySem.W.keepIn M.K (.ref f) = true ∧ Binds M.K fd ps []
theorem ds_callJ {C : Ctx} {S : List Slot} {P : Post} {x : String} {z : Str} {p p1 p2 pos : Pos} {j : Nat} {es : List Expr} {F : List D → List D → List D → Prop} {ds as ds' : List D} (hF : CalJ C.M x F) (hg : glB C.sc (Str.ofString x) = true) (hi : C.N.idxOf? z = some j) (hv : nmB C.sc z = true) (hS : S[j]? = some (.own ds)) (ha : DA C true es S as) (h : F ds as ds')
    (hfl : ∀ d ∈ ds', Flat d) (hn : P.nx (S.set j (.own ds')))
    (he : ∀ env, starEach (.Name z p1 :: es) env = (false, eval (.Name z p1) env) :: starEach es env := by intro _; rfl) (hpl : ∀ env, (backTo p2 (starEach es env)).any (·.1) = false := by intro _; rfl)
    (hs : ∀ env, swapsWith (.Call (.Name (Str.ofString x) p) (.Name z p1 :: es) [] p2) none pos.line env = pure false := by intro _; rfl) : DS C (.Expr (.Call (.Name (Str.ofString x) p) (.Name z p1 :: es) [] p2) pos) S P := by
  obtain ⟨f, fd, ps, G, mg, kp, b⟩ := hF.ex
  obtain ⟨hv1, hd, hcd⟩ := nmB_vis hv
  refine .mk fun W => ⟨tDrop (tCall (spJ C.M.K F) [] E0 (tCons (tVar j) (tA C es W))), fun r fm => ps_expr (pe_call G fm.g.room ((glB_gl hg).1.gl fm.g) mg kp b .nil passL (pa_cons (pe_var (idx_get hi) (vis_of hv1 fm.g) hd hcd) (pa_tA fm) (he _)) (glB_gl hg).2 (he _) (hpl _)) (hs _), fun Oc H0 H σ fp hod sat D h1 h2 h3 h4 h5 => ?_⟩
  obtain ⟨l, vs, el, hf, hl, reps⟩ := sat.own hS
  have ml : l ∈ fp j := by rw [hf]; exact List.mem_cons_self
  have lo : ∀ a, a = l → Ow Oc fp a := fun a e => e ▸ .inr ⟨j, ml⟩
  refine ⟨_, el, ha W Oc H0 H σ fp (hod.up sat) sat _ fun ws H1 e1 rs => ?_⟩
  show spJ C.M.K F ((.ref l :: ws) ++ []) H1 _ _
  rw [List.append_nil]
  refine ⟨l, ws, vs, ds, as, ds', rfl, e1 _ _ hl, (reps.mono e1).less lo, rs.less lo, h, fun H2 xs' ek hl2 rp => ?_⟩
  have s1 := sat.mono e1
  have e2 : Ex H1 (upd H2 l (.lst vs)) := fun b o hb => by
    by_cases q : b = l
    · subst q
      rw [e1 _ _ hl] at hb
      cases hb
      exact upd_same
    · rw [upd_ne q]; exact ek b o q hb
  have s2 := s1.mono e2
  have rp2 : Reps C.M.K (upd H2 l (.lst vs)) (Ow Oc fp) xs' ds' := by
    exact (Reps.write (O := fun a => a = l) rfl (by rw [hl2]; trivial) rp).flat hfl
  have s3 := s2.write hS hf rp2
  have e3 : upd (upd H2 l (.lst vs)) l (.lst xs') = H2 := by
    funext b
    by_cases q : b = l
    · subst q; rw [upd_same, hl2]
    · rw [upd_ne q, upd_ne q]
  rw [e3] at s3
  exact h1 _ _ _ fp hn s3
end BK
/-! Part N: more rules. -/
namespace BK
open PySem PySem.Spec PyProof.Rows L2
section
variable {C : Ctx} {S : List Slot} {a b : Expr} {d : D} {v : V} {xs : List V} {lv x : Bool} {pos : Pos}
theorem dt_notInK (ea : d.sc = some v) (ha : DL C false a S d) (hb : DL C false b S (.ktup xs)) (hx : (!inV v xs) = x) (hm : behindInMarks .NotIn b = false) : DT C (.Compare a [.NotIn] [b] pos) S x := by
  subst hx
  exact dt_cmp (fun _ _ => op_notIn_seq) hm ha hb (op2_notInK ea)
theorem de_inK (ea : d.sc = some v) (ha : DL C false a S d) (hb : DL C false b S (.ktup xs)) (hx : inV v xs = x) (hm : behindInMarks .In b = false) : DB C (.Compare a [.In] [b] pos) S x := by
  subst hx
  exact de_cmp (fun _ _ => op_in_seq) hm ha hb (op2_inK ea) (.inr (.bl _))
end
theorem dt_neNil {C : Ctx} {S : List Slot} {a b : Expr} {ds : List D} {pos : Pos} (n : Nat) (ha : DL C false a S (.lst ds)) (hb : DL C false b S (.lst [])) (hp : Pl (n + 1) (.lst ds)) (hn : n + 1 ≤ 64) : DT C (.Compare a [.NotEq] [b] pos) S (!ds.isEmpty) :=
  dt_neD (n + 1) ha hb hp (.lst fun _ h => by cases h) (by cases ds <;> simp) hn
theorem dt_cast {C : Ctx} {S : List Slot} {e : Expr} {x y : Bool} (h : DT C e S x) (hx : x = y) : DT C e S y := hx ▸ h
end BK
/-! Part P: sorted(set(numbers)). -/
namespace BK
open PySem PySem.Spec PyProof.Rows L2
/-- a set that was just made -/
abbrev eSet (w : World) : Obj := ⟨.type "set", none, .set #[] 0 (.fresh 0 0 (!w.params.followText "set-order")), #[]⟩
section
variable {P : Program} {w : World} {A : Around} {E : Value → Shared → Prop} {s : Shared} {l : Addr} {items : Array Value} {ns : List Int}
/-- what set.__init__ leaves -/
def SetLeft (w : World) (s : Shared) (ns : List Int) (s2 : Shared) : Prop := ∃ (h' : Heap) (tk c : Nat), s2 = { s with heap := h', toks := tk } ∧ SetR w h' s.heap.objs.size (fun j => decide (j ∈ ns)) c ∧ c ≤ ns.length ∧ ∀ b o, s.heap.get? b = some o → h'.get? b = some o
set_option maxHeartbeats 3200000 in
theorem call_setL {Q : Value → Shared → Prop} (hd : A.handled = none) (hl : s.heap.IsList l items) (hi : IntsAre items.toList ns) (hb : ns.length + 1 < scanBound) (k : ∀ s2, SetLeft w s ns s2 → Q (.ref s.heap.objs.size) s2) : wpAny (model P w) A (call (.type "set") [.ref l]) Q E s := by
  have esz : items.size = ns.length := (Array.length_toList (xs := items)).symm.trans (IntsAre.length hi)
  obtain ⟨oc, tail, mro⟩ := F.called_set.mro
  have made := F.called_set.made
  have sub := F.called_set.sub
  have nty := F.called_set.notType
  have cre := F.called_set.canCreate
  have tc := F.typeCall_set_1 (.ref l)
  refine wpAny_call (codeAny_of_tree (show wpAny _ _ (callAny (.type "set") _) _ _ _ from wpAny_pure ⟨Code.quiet_builtin _ (by decide +kernel), codeAny_builtin F.entry_type_call ?_⟩))
  rw [Around.under_plain (weight_type_call_type "set" [.ref l] []) rfl]
  repeat (any_goals (first | assumption | wp_step))
  refine codeAny_mono (code_set_led1 (.ref l) (E := E) (Q₁ := fun v s1 => v = .ref s.heap.objs.size ∧ s1 = { s with heap := s.heap.push (eSet w) }) ⟨rfl, rfl⟩) fun r s1 hr => ?_
  cases r with
  | error e => exact hr
  | ok r =>
    cases r with
    | ret v =>
      obtain ⟨rfl, rfl⟩ := hr
      have gS : (s.heap.push (eSet w)).get? s.heap.objs.size = some (eSet w) := Heap.get?_push_size _ rfl
      have tS : Shared.TypeIs { s with heap := s.heap.push (eSet w) } (.ref s.heap.objs.size) "set" := ⟨_, gS, rfl⟩
      have ilk := F.called_set.init.lookup
      have ibd := F.called_set.init.bind (.ref s.heap.objs.size)
      repeat (any_goals (first | assumption | wp_step))
      refine codeAny_mono (codeAny_call_builtin (R := wants (fun r s2 => r = .none ∧ SetLeft w s ns s2) E) F.called_set.init.plain F.entry_set_init (check_set_init_1 tS ?_)) fun r s2 hr => ?_
      · obtain ⟨⟨cl, dc, dt, sl⟩, gl, ecl, n, edt⟩ := hl
        dsimp only at ecl edt
        cases ecl; cases edt
        have gl' := Heap.get?_push_of_some (eSet w) gl
        have s1 := F.sub_list_set
        have s2 := F.sub_list_frozenset
        have nd : (Value.type "list" == Value.type "dict") = false := by decide
        unfold Builtin.«set.__init__» noKeywords Builtin.Frozenset.updateFrom
        generalize hPI : pyIter = PI
        wp_walk
        subst hPI
        have il : (s.heap.push (eSet w)).IsList l items := ⟨_, gl', rfl, n, rfl⟩
        refine wpAny_pyIter_list il (wpAny_bind (wpAny_runValue ?_))
        have esz1 : (s.heap.push (eSet w)).objs.size = s.heap.objs.size + 1 := Heap.size_push ..
        have lt := Heap.lt_size gl
        have nel : l ≠ (s.heap.push (eSet w)).objs.size := by rw [esz1]; exact Nat.ne_of_lt (Nat.lt_succ_of_lt lt)
        refine set_update_ints ((Walks.list (by simp [hd]) _ l nel items).toS) s.heap.objs.size ?hf ns esz hb ?hv (items.size - 0) 0 _ (by omega) (Nat.zero_le _) ⟨⟨_, Heap.get?_push_size _ rfl, rfl, rfl⟩, il.push _⟩ ⟨0, Nat.le_refl 0, setR_new_at (Heap.get?_push_of_some _ gS)⟩ ?hR
        case hf =>
          intro z
          rcases List.mem_cons.mp z with z | z
          · exact Nat.ne_of_lt (Nat.lt_succ_self _) (z.trans esz1)
          · exact Nat.ne_of_gt lt (List.mem_singleton.mp z)
        case hv =>
          intro i v hv
          have lt' := (Array.getElem?_eq_some_iff.mp hv).1
          obtain ⟨t, e⟩ := IntsAre.int_at hi i v (by rw [Array.getElem?_toList]; exact hv)
          exact ⟨ns.getD i 0, t, by rw [List.getD_eq_getElem?_getD, List.getElem?_eq_getElem (by omega)]; rfl, e⟩
        case hR =>
          intro s' c hm hc hS
          refine wpAny_pure (show wpAny _ _ (ret Value.none) _ _ _ from wpAny_pure ⟨rfl, s'.heap, s'.toks, c, ?_, hS, by omega, fun b o e => ?_⟩)
          · have g1 : s'.gens = s.gens := hm.gens
            have g2 : s'.drawn = s.drawn := hm.drawn
            have g3 : s'.os = s.os := hm.os
            cases s'; cases s
            dsimp only at g1 g2 g3
            subst g1 g2 g3
            rfl
          · have lb := Heap.lt_size e
            refine hm.heap b o (fun z => ?_) (Heap.get?_push_of_some _ (Heap.get?_push_of_some _ e))
            rcases List.mem_cons.mp z with z | z
            · exact Nat.ne_of_lt lb z
            · exact Nat.ne_of_lt (Nat.lt_succ_of_lt lb) ((List.mem_singleton.mp z).trans esz1)
      · cases r with
        | error e => exact hr
        | ok r =>
          cases r with
          | ret v =>
            obtain ⟨rfl, h', tk, c, rfl, q⟩ := hr
            repeat (any_goals (first | assumption | wp_step))
            exact k _ ⟨h', tk, c, rfl, q⟩
          | _ => exact hr.elim
    | _ => exact hr.elim
end
/-- set(xs), xs a list of numbers -/
def rSetL (K : PySem.W.Frag) (w : World) : List V → Hp → VK → Prop := fun vs H Q => ∃ (l : Addr) (ns : List Int), vs = [.ref l] ∧ SqL K H l (ns.map V.int) ∧ ns.length ≤ 1000 ∧ ∀ (a : Addr) (c : Nat), H a = none → c ≤ ns.length → Q (.ref a) (upd H a (SetO w a (fun j => decide (j ∈ ns)) c))
theorem cr_setL {X : Cx} (hc : X.calm = true) : CallR X (.type "set") (rSetL X.K X.w) := by
  intro pins s σ H vs us Q I r h
  obtain ⟨l, ns, rfl, hq, hl, q⟩ := h
  cases r with
  | cons r rr =>
    cases rr
    cases r
    obtain ⟨its, rv, pl, hz⟩ := I.list hq
    refine call_setL (I.ok.hd hc) pl.isList (ns := ns) (by simpa using ints_of_vals rv) (by unfold scanBound; omega) fun s2 ⟨h', tk, c, e, R, hcn, k⟩ => ?_
    subst e
    exact ⟨.ref _, _, I.laid k (Nat.le_refl _) (setO_new R), rfl, q _ c (I.hok.fresh (Nat.le_refl _)) hcn⟩
end BK
/-! Part Q: sorted(set(numbers)), its rule. -/
namespace BK
open PySem PySem.Spec PyProof.Rows L2
/-! ### rising, each once -/
def insU (x : Int) : List Int → List Int
  | [] => [x]
  | y :: l => if x < y then x :: y :: l else if x = y then y :: l else y :: insU x l
def ascU (ns : List Int) : List Int := ns.foldr insU []
theorem mem_insU {k x : Int} : ∀ l : List Int, k ∈ insU x l ↔ k = x ∨ k ∈ l
  | [] => by simp [insU]
  | y :: l => by
    unfold insU
    split
    · simp
    · split
      · rename_i h; subst h; simp
      · rw [List.mem_cons, mem_insU l, List.mem_cons]
        constructor
        · rintro (h | h | h) <;> simp [h]
        · rintro (h | h | h) <;> simp [h]
theorem pw_insU {x : Int} : ∀ l : List Int, l.Pairwise (· < ·) → (insU x l).Pairwise (· < ·)
  | [], _ => by simp [insU]
  | y :: l, h => by
    have ⟨h1, h2⟩ := List.pairwise_cons.mp h
    unfold insU
    split
    · rename_i q
      exact List.pairwise_cons.mpr ⟨fun k hk => (List.mem_cons.mp hk).elim (fun e => e ▸ q) fun hk => Int.lt_trans q (h1 k hk), h⟩
    · split
      · exact h
      · refine List.pairwise_cons.mpr ⟨fun k hk => ?_, pw_insU l h2⟩
        rcases (mem_insU l).mp hk with rfl | hk
        · omega
        · exact h1 k hk
theorem mem_ascU {k : Int} : ∀ ns : List Int, k ∈ ascU ns ↔ k ∈ ns
  | [] => Iff.rfl
  | n :: ns => by
    show k ∈ insU n (ascU ns) ↔ _
    rw [mem_insU, mem_ascU ns, List.mem_cons]
theorem pw_ascU : ∀ ns : List Int, (ascU ns).Pairwise (· < ·)
  | [] => .nil
  | n :: ns => pw_insU _ (pw_ascU ns)
theorem asc_uniq : ∀ {a b : List Int}, a.Pairwise (· < ·) → b.Pairwise (· < ·) → (∀ k, k ∈ a ↔ k ∈ b) → a = b
  | [], [], _, _, _ => rfl
  | [], y :: b, _, _, h => absurd ((h y).mpr (.head _)) (by simp)
  | x :: a, [], _, _, h => absurd ((h x).mp (.head _)) (by simp)
  | x :: a, y :: b, ha, hb, h => by
    have ⟨a1, a2⟩ := List.pairwise_cons.mp ha
    have ⟨b1, b2⟩ := List.pairwise_cons.mp hb
    have e : x = y := by
      rcases List.mem_cons.mp ((h x).mp (.head _)) with e | e
      · exact e
      · rcases List.mem_cons.mp ((h y).mpr (.head _)) with e2 | e2
        · exact e2.symm
        · have := b1 x e; have := a1 y e2; omega
    subst e
    rw [asc_uniq a2 b2 fun k => ⟨fun hk => ?_, fun hk => ?_⟩]
    · rcases List.mem_cons.mp ((h k).mp (.tail _ hk)) with e | e
      · have := a1 k hk; omega
      · exact e
    · rcases List.mem_cons.mp ((h k).mpr (.tail _ hk)) with e | e
      · have := b1 k hk; omega
      · exact e
theorem reps_ints {K : PySem.W.Frag} {H : Hp} {O : Addr → Prop} : ∀ ns : List Int, Reps K H O (ns.map V.int) (ns.map D.int)
  | [] => .nil
  | n :: ns => .cons (.int n) (reps_ints ns)
section
variable {C : Ctx} {S : List Slot} {a : Expr} {pos : Pos}
theorem de_sortU {p p2 p3 : Pos} {ns : List Int} (hg : GlC C "sorted") (hm : C.M.mg "sorted" = none) (hg2 : GlC C "set") (hm2 : C.M.mg "set" = none) (ha : DL C false a S (.lst (ns.map D.int))) (hz : ns.length < 64)
    (hs : ∀ env, starEach (a :: []) env = (false, eval a env) :: starEach [] env := by intro _; rfl) (hs2 : ∀ env, starEach ((.Call (.Name "set" p2) [a] [] p3) :: []) env = (false, eval (.Call (.Name "set" p2) [a] [] p3) env) :: starEach [] env := by intro _; rfl) :
    DE C (.Call (.Name "sorted" p) [.Call (.Name "set" p2) [a] [] p3] [] pos) S (.ok (.own ((ascU ns).map D.int))) := by
  refine .mk fun W => ⟨tCB (rSortedSet C.M.w) (tCons (tCB (rSetL C.M.K C.M.w) (tCons (tE C a W) tNil)) tNil), fun r f => pe_callB (cr_sortedSet f.g.calm) (hg.gl f.g) hm boot_sorted (pa_cons (pe_callTy (cr_setL f.g.calm) (hg2.gl f.g) hm2 PyProof.Rows.boot_set (pa_cons (pe_tE f) pa_nil (hs _)) (by decide) (by decide) (hs _) rfl) pa_nil (hs2 _)) (by decide) (by decide) (hs2 _) rfl, fun Oc H0 H σ fp hod sat Q hq hx => ?_⟩
  refine ha W Oc H0 H σ fp hod sat _ fun v H1 e1 rep => ?_
  cases rep with
  | @lst l vs _ n hl rs =>
    rw [rs.to_ints] at hl
    refine ⟨l, ns, rfl, .inl (.inl hl), by omega, fun d c hd hc => ⟨d, _, c, rfl, upd_same, by omega, fun out p hp hm hlen hfree => ?_⟩⟩
    have e : out = ascU ns := asc_uniq hp (pw_ascU ns) fun k => by rw [hm, mem_ascU, decide_eq_true_eq]
    subst e
    have e2 : Ex H (upd (upd H1 d (SetO C.M.w d (fun j => decide (j ∈ ns)) c)) p (.lst ((ascU ns).map V.int))) := e1.trans ((Ex.new hd).trans (Ex.new hfree))
    refine hq (.own ((ascU ns).map D.int)) (.ref p) _ rfl e2 ⟨p, _, rfl, ?_, upd_same, ?_⟩
    · exact ((e1.trans (Ex.new hd)).back hfree)
    · exact reps_ints _
end
end BK
/-! Part R: more comparisons. -/
namespace BK
open PySem PySem.Spec PyProof.Rows L2
section
variable {C : Ctx} {S : List Slot} {a b c : Expr} {i j k : Int} {x y : Bool} {pos : Pos}
theorem dt_neBl (ha : DB C a S x) (hb : DB C b S y) : DT C (.Compare a [.NotEq] [b] pos) S (!decide (x = y)) := by
  rw [← dec_bl]; exact dt_cmp (lv := false) (fun _ _ => op_ne) (nomark _) (dl_val ha) (dl_val hb) (op2_ne rfl rfl rfl)
theorem dt_leLt (ha : DI C a S i) (hb : DI C b S j) (hc : DI C c S k) (hm : lastMarks [.LtE, .Lt] [b, c] = false) : DT C (.Compare a [.LtE, .Lt] [b, c] pos) S (decide (i ≤ j) && decide (j < k)) :=
  .mk fun W => ⟨_, fun r f => pt_chain op_le op_lt (pe_tE f) (pe_tE f) (pe_tE f) hm, fun Oc H0 H σ fp hod sat Q hq =>
    ha W Oc H0 H σ fp hod sat _ (fun r v H1 er e1 res => by
      cases er; cases res
      exact hb W Oc H0 H1 σ fp (hod.ex e1) (sat.mono e1) _ (fun r w H2 er e2 res => by
        cases er; cases res
        refine ⟨i, j, rfl, rfl, decide (i ≤ j), rfl, ?_⟩
        cases hd : decide (i ≤ j) with
        | false =>
          rw [if_neg Bool.false_ne_true]
          refine ⟨false, rfl, ?_⟩
          have := hq H2 (e1.trans e2)
          rw [hd] at this; exact this
        | true =>
          rw [if_pos rfl]
          exact hc W Oc H0 H2 σ fp ((hod.ex e1).ex e2) ((sat.mono e1).mono e2) _ (fun r u H3 er e3 res => by
            cases er; cases res
            refine ⟨j, k, rfl, rfl, decide (j < k), rfl, ?_⟩
            have := hq H3 ((e1.trans e2).trans e3)
            rw [hd] at this; exact this) (fun _ _ _ _ er => nomatch er)) (fun _ _ _ _ er => nomatch er)) (fun _ _ _ _ er => nomatch er)⟩
/-- zs[i] = e, zs an own list -/
theorem ds_setI {z : Str} {e i : Expr} {p1 p2 : Pos} {d : D} {ds : List D} {P : Post} {k : Int} {n j : Nat} (he : DL C true e S d) (hi : DI C i S k) (hk : ixN ds.length k = some n) (hz : C.N.idxOf? z = some j) (hS : S[j]? = some (.own ds)) (hv : nmB C.sc z = true)
    (h : P.nx (S.set j (.own (ds.set n d)))) (hs : ∀ env, swapsWithSole [.Subscript (.Name z p1) i p2] e pos.line env = pure false) (hw : ∀ env, swappedStores [.Subscript (.Name z p1) i p2] e env = pure none)
    (hasg : ∀ (env : Env) (v : Value), assign (.Subscript (.Name z p1) i p2) env v = (do
      let ov ← holding [v] (eval (.Name z p1) env)
      let iv ← holding [v, ov] (eval i env)
      standAt p2
      holding [v, ov, iv] (setItem ov iv v)
      release [v, ov, iv] [])) : DS C (.Assign [.Subscript (.Name z p1) i p2] e pos) S P := by
  obtain ⟨h1, h2, h3⟩ := nmB_vis hv
  exact ds_setItem j hS he hi hk (idx_get hz) h1 h2 h3 h hs hw hasg
end
section
variable {C : Ctx} {c e : Expr} {S : List Slot} {x : Bool} {A B : List Stmt} {P : Post} {pos : Pos}
theorem ds_ifT (hc : DT C c S x) (hx : x = true) (h : DSs C A S P) : DS C (.If c A B pos) S P := ds_if hc (fun _ => h) fun q => by rw [hx] at q; cases q
theorem ds_ifF (hc : DT C c S x) (hx : x = false) (h : DSs C B S P) : DS C (.If c A B pos) S P := ds_if hc (fun q => by rw [hx] at q; cases q) fun _ => h
end
end BK
/-! Part S: a list times a number. -/
namespace BK
open PySem PySem.Spec PyProof.Rows L2
theorem op2_rep {K : PySem.W.Frag} {ds : List D} {k : Int} (h0 : 0 ≤ k) (h1 : k ≤ 1000000) (hz : ds.length * k.toNat ≤ 1000000) : Op2 K rRep (.lst ds) (.int k) (.own (List.replicate k.toNat ds).flatten) := fun A H x y Q hA rx ry hq => by
  cases ry
  cases rx with
  | lst n hl rs =>
    refine ⟨_, k, _, rfl, rfl, hl, by omega, by omega, by rw [rs.length]; exact sz_le hz, fun p hp => hq _ _ (Ex.new hp) ⟨p, _, rfl, hp, upd_same, ?_⟩⟩
    exact (rep_reps rs _).step (Ex.new hp) fun a z => z.imp id fun z => by rw [z]; exact hp
theorem de_rep {C : Ctx} {S : List Slot} {a b : Expr} {lv : Bool} {pos : Pos} {ds : List D} {k : Int} (ha : DL C lv a S (.lst ds)) (hb : DI C b S k) (h0 : 0 ≤ k) (h1 : k ≤ 1000000) (hz : ds.length * k.toNat ≤ 1000000) (hf : lv = true ∨ ∀ d ∈ (List.replicate k.toNat ds).flatten, Flat d) :
    DE C (.BinOp a .Mult b pos) S (.ok (.own (List.replicate k.toNat ds).flatten)) := de_op (fun _ _ => op_rep) ha (dl_of (lv := lv) hb (by cases lv <;> rfl)) (op2_rep h0 h1 hz) hf
end BK
/-! Part T: own lists of own lists. -/
namespace BK
open PySem PySem.Spec PyProof.Rows L2
theorem Own2.snoc {K : PySem.W.Frag} {H : Hp} {O : Addr → Prop} {qs : List Addr} {dss : List (List D)} {q : Addr} {vs : List V} {ds : List D} (h : Own2 K H O qs dss) (hq : H q = some (.lst vs)) (r : Reps K H O vs ds) : Own2 K H O (qs ++ [q]) (dss ++ [ds]) := by
  induction h with
  | nil => exact .cons hq r .nil
  | cons h1 r1 _ ih => exact .cons h1 r1 ih
theorem Own2.app {K : PySem.W.Frag} {H : Hp} {O : Addr → Prop} {qs qs2 : List Addr} {dss dss2 : List (List D)} (h : Own2 K H O qs dss) (h2 : Own2 K H O qs2 dss2) : Own2 K H O (qs ++ qs2) (dss ++ dss2) := by
  induction h with
  | nil => exact h2
  | cons h1 r1 _ ih => exact .cons h1 r1 ih
section
variable {C : Ctx} {S : List Slot} {lv : Bool} {pos : Pos}
/-- the list of own lists that a comprehension makes -/
theorem ev_lc2 {α : Type} {W : WX} {tg it : Expr} {scope : Scope} {vs : List Nat} {elt : Expr} (l : List α) (enc : α → D) (h : α → List D) (hi : DIt C lv tg it S (l.map enc)) (hv : ∀ v ∈ vs, S[v]? = some .any) (hz : l.length ≤ 1000000)
    (hfl : lv = true ∨ ∀ x ∈ l, Flat (enc x)) (hf2 : ∀ x ∈ l, ∀ d ∈ h x, Flat d)
    (he : ∀ x ∈ l, ∃ S2, DGc (C.blk scope) vs tg S (enc x) S2 ∧ DE (C.blk scope) elt S2 (.ok (.own (h x)))) :
    Ev C.M.K W (tLc (tIt C tg it W) (tGt (C.blk scope) tg W0) (tTs (C.blk scope) [] W0) (tE (C.blk scope) elt W0) vs) S (.ok (.own2 (l.map h))) := fun Oc H0 H σ fp hod sat Q hq hx =>
  hi W Oc H0 H σ fp hod sat _ fun J H1 e1 ⟨G, Y, w, hG, hY⟩ Dl hD => by
    have s1 := (sat.mono e1).wipe hv
    have gx : Ex (BK.ground lv H1 fp) H1 := by
      cases lv with
      | false => exact Ex.refl _
      | true => exact hid_ex
    let Oc' : Addr → Prop := fun a => Oc a ∨ a = Dl
    have sA : Sat C.M.K Oc' H0 H1 (L2.wipe σ vs) S fp := s1.avoid fun a z => z.imp id fun z => by rw [z]; exact hD
    have flk : ∀ k, ∀ ds ∈ (l.take k).map h, ∀ d ∈ ds, Flat d := fun k ds hds => by
      obtain ⟨x, hx, rfl⟩ := List.mem_map.mp hds
      exact hf2 x (List.mem_of_mem_take hx)
    let Pv : Nat → Hp → Prop := fun i H' => ∃ qs : List Addr, Ex H1 H' ∧ H' Dl = some (.lst (qs.map V.ref)) ∧ qs.Nodup ∧ (∀ q ∈ qs, H1 q = none ∧ q ≠ Dl) ∧ Own2 C.M.K H' no qs ((l.take i).map h)
    refine lc_it w Pv ⟨[], Ex.new hD, upd_same, .nil, fun q hq => (by cases hq), .nil⟩ (fun i H' _ ⟨_, ex, _⟩ => hG H' (gx.trans ex)) (fun i x H' H2 hlt ⟨qs, ex, hl, nd, fr, ow⟩ y => ?_) fun H' ⟨qs, ex, hl, nd, fr, ow⟩ => ?_
    · have hlt' : i < l.length := by rw [List.length_map] at hlt; exact hlt
      have ed : (l.map enc)[i]? = some (enc l[i]) := by rw [List.getElem?_map, List.getElem?_eq_getElem hlt']; rfl
      have mem : l[i] ∈ l := List.getElem_mem hlt'
      obtain ⟨ex2, rep⟩ := hY i H' x H2 _ ed (gx.trans ex) y
      have rx : Rep C.M.K H2 (Ow Oc' fp) x (enc l[i]) := by
        rcases hfl with rfl | hfl
        · refine rep _ fun a z => ?_
          rcases z with (z | z) | z
          · exact .inl z
          · right; rw [z]
            by_cases q : Fp fp Dl
            · exact hid_in q
            · show hid H1 (Fp fp) Dl = none; rw [hid_out q]; exact hD
          · exact .inr (hid_in z)
        · exact Rep.flat (rep no fun _ z => z.elim) (hfl _ mem)
      have sB := sA.mono (ex.trans ex2)
      have t2 : There Oc' H2 := fun a z => by
        rcases z with z | z
        · exact (hod.ex ((e1.trans ex).trans ex2)) a z
        · rw [z, ex2 _ _ hl]; exact fun z => nomatch z
      obtain ⟨S2, hg, hel⟩ := he _ mem
      have tk : l.take (i + 1) = l.take i ++ [l[i]] := by rw [List.take_add_one, List.getElem?_eq_getElem hlt']; rfl
      refine hg W0 Oc' H0 H2 _ fp t2 sB x rx _ fun σ2 fp2 hw sup sC => ⟨hw.trans (wipe_idem fun _ z => z), ?_⟩
      refine (dts_nil : DTs (C.blk scope) [] S2 true) W0 Oc' H0 H2 σ2 fp2 t2 sC _ fun H3 e3 => ?_
      rw [if_pos rfl]
      have sD := sC.mono e3
      refine hel W0 Oc' H0 H3 σ2 fp2 (t2.ex e3) sD _ (fun r v H4 er e4 res => ?_) (fun _ _ _ _ er => nomatch er)
      cases er
      obtain ⟨p, us, rfl, hp3, hp4, rp⟩ := res
      have e13 : Ex H1 H3 := (ex.trans ex2).trans e3
      have ex4 : Ex H1 H4 := e13.trans e4
      have hl3 : H3 Dl = some (.lst (qs.map V.ref)) := e3 _ _ (ex2 _ _ hl)
      have hl4 : H4 Dl = some (.lst (qs.map V.ref)) := e4 _ _ hl3
      have mb : Mb (H4 Dl) := by rw [hl4]; trivial
      have pD : p ≠ Dl := fun z => by rw [z, hl3] at hp3; cases hp3
      have ow3 := ow.mono (ex2.trans e3)
      have pq : p ∉ qs := fun z => by
        obtain ⟨us', h'⟩ := ow3.there p z
        rw [hp3] at h'; cases h'
      have ow4 : Own2 C.M.K H4 (fun a => a = Dl) qs ((l.take i).map h) := (ow3.mono e4).flat (flk i)
      have ow5 := ow4.write (o := .lst ((qs ++ [p]).map V.ref)) rfl mb fun z => (fr Dl z).2 rfl
      have rp5 : Reps C.M.K (upd H4 Dl (.lst ((qs ++ [p]).map V.ref))) (fun a => a = Dl) us (h l[i]) := Reps.write (O := fun a => a = Dl) rfl mb (Reps.flat rp (hf2 _ mem))
      refine ⟨qs.map V.ref, hl4, ?_, qs ++ [p], ex4.mut hD, ?_, ?_, fun q hq => ?_, ?_⟩
      · rw [List.length_map, ow.length, List.length_map]
        refine sz_lt ?_
        rw [List.length_take]; exact Nat.le_trans (Nat.min_le_right _ _) hz
      · rw [upd_same, List.map_append]; rfl
      · rw [List.nodup_append]
        exact ⟨nd, List.nodup_cons.mpr ⟨List.not_mem_nil, .nil⟩, fun a ha b hb e => pq (by rw [← List.mem_singleton.mp hb, ← e]; exact ha)⟩
      · rcases List.mem_append.mp hq with hq | hq
        · exact fr q hq
        · rw [List.mem_singleton.mp hq]; exact ⟨e13.back hp3, pD⟩
      · have q6 : Own2 C.M.K (upd H4 Dl (.lst ((qs ++ [p]).map V.ref))) (fun a => a = Dl) (qs ++ [p]) ((l.take i).map h ++ [h l[i]]) := ow5.snoc (by rw [upd_ne pD]; exact hp4) rp5
        have e7 : (l.take (i + 1)).map h = (l.take i).map h ++ [h l[i]] := by rw [tk, List.map_append]; rfl
        have f7 := flk (i + 1)
        rw [e7] at f7
        have e8 : (qs.map V.ref ++ [V.ref p] : List V) = (qs ++ [p]).map V.ref := by rw [List.map_append]; rfl
        rw [e7, e8]
        exact q6.flat f7
    · rw [List.length_map, List.take_length] at ow
      refine hq _ _ H' rfl (e1.trans ex) ⟨Dl, qs, rfl, fun a ha => ?_, List.nodup_cons.mpr ⟨fun z => (fr Dl z).2 rfl, nd⟩, hl, ow.flat fun ds hds => ?_⟩
      · rcases List.mem_cons.mp ha with rfl | ha
        · exact e1.back hD
        · exact e1.back (fr a ha).1
      · obtain ⟨x, hx, rfl⟩ := List.mem_map.mp hds
        exact hf2 x hx
theorem de_map2 {α : Type} {tg it elt : Expr} {scope : Scope} (own : List (Str × Nat)) (l : List α) (enc : α → D) (h : α → List D) (hb : blkC C.N C.sc scope own = true) (hi : DIt C lv tg it S (l.map enc)) (hv : anyS S (own.map (·.2)) = true) (hz : l.length ≤ 1000000)
    (hfl : lv = true ∨ ∀ x ∈ l, Flat (enc x)) (hf2 : ∀ x ∈ l, ∀ d ∈ h x, Flat d) (he : ∀ x ∈ l, ∃ S2, DGc (C.blk scope) (own.map (·.2)) tg S (enc x) S2 ∧ DE (C.blk scope) elt S2 (.ok (.own (h x))))
    (hf : ∀ env x, foldedSetIterable it env x = pure x := by intro _ _; rfl) : DE C (.ListComp elt [⟨tg, it, [], 0⟩] scope pos) S (.ok (.own2 (l.map h))) :=
  .mk fun W => ⟨_, fun r f => pe_lc (X := C.x r) f.g.calm f.g.nd (pi_tI f) (by have := blkOk_by hb; rw [← f.g.sc] at this; exact this) (fun s H c cl fp => pg_tG (f.blk s H scope c cl fp)) (fun s H c cl fp => pts_tT (f.blk s H scope c cl fp)) (fun s H c cl fp => pe_tE (f.blk s H scope c cl fp)) (hf _), ev_lc2 l enc h hi (anyS_ok hv) hz hfl hf2 he⟩
/-- two such lists put together -/
theorem de_cat2 {a b : Expr} {A B : List (List D)} (ha : DE C a S (.ok (.own2 A))) (hb : DE C b S (.ok (.own2 B))) (hz : A.length + B.length ≤ 1000000) (fA : ∀ ds ∈ A, ∀ d ∈ ds, Flat d) (fB : ∀ ds ∈ B, ∀ d ∈ ds, Flat d) : DE C (.BinOp a .Add b pos) S (.ok (.own2 (A ++ B))) :=
  .mk fun W => ⟨tOp rCat (tE C a W) (tE C b W), fun r f => pe_op op_cat (pe_tE f) (pe_tE f), fun Oc H0 H σ fp hod sat Q hq hx =>
    ha W Oc H0 H σ fp hod sat _ (fun r v H1 er e1 res => by
      cases er
      obtain ⟨p1, q1, rfl, n1, d1, l1, o1⟩ := res
      exact hb W Oc H0 H1 σ fp (hod.ex e1) (sat.mono e1) _ (fun r w H2 er e2 res => by
        cases er
        obtain ⟨p2, q2, rfl, n2, d2, l2, o2⟩ := res
        refine ⟨p1, p2, _, _, rfl, rfl, e2 _ _ l1, l2, ?_, fun p hp => ?_⟩
        · rw [List.length_map, List.length_map, o1.length, o2.length]; exact sz_le hz
        · have m1 : Own2 C.M.K H2 no q1 A := (o1.mono e2).flat fA
          have m2 : Own2 C.M.K H2 no q2 B := o2.flat fB
          have c1 : ∀ q ∈ q1, H2 q ≠ none := fun q hq z => by obtain ⟨_, h⟩ := m1.there q hq; rw [z] at h; cases h
          have c2 : ∀ q ∈ q2, H2 q ≠ none := fun q hq z => by obtain ⟨_, h⟩ := m2.there q hq; rw [z] at h; cases h
          have e3 : Ex H2 (upd H2 p (.lst (q1.map V.ref ++ q2.map V.ref))) := Ex.new hp
          have hH : H p = none := e1.back (e2.back hp)
          refine hq (.own2 (A ++ B)) (.ref p) _ rfl ((e1.trans e2).trans e3) ⟨p, q1 ++ q2, rfl, fun q hq => ?_, ?_, ?_, ?_⟩
          · rcases List.mem_cons.mp hq with rfl | hq
            · exact hH
            · rcases List.mem_append.mp hq with hq | hq
              · exact n1 q (.tail _ hq)
              · exact e1.back (n2 q (.tail _ hq))
          · refine List.nodup_cons.mpr ⟨fun z => ?_, ?_⟩
            · rcases List.mem_append.mp z with z | z
              · exact c1 p z hp
              · exact c2 p z hp
            · rw [List.nodup_append]
              refine ⟨(List.nodup_cons.mp d1).2, (List.nodup_cons.mp d2).2, fun a ha b hb e => ?_⟩
              subst e
              obtain ⟨_, h⟩ := o1.there a ha
              rw [n2 a (.tail _ hb)] at h; cases h
          · rw [upd_same, List.map_append]
          · refine ((m1.app m2).mono e3).flat fun ds hds => ?_
            rcases List.mem_append.mp hds with h | h
            · exact fA ds h
            · exact fB ds h) (fun _ _ _ _ er => nomatch er)) (fun _ _ _ _ er => nomatch er)⟩
/-- [e], e an own list -/
theorem de_lstO {e : Expr} {ds : List D} (he : DE C e S (.ok (.own ds))) (hf : ∀ d ∈ ds, Flat d) (hs : ∀ env, starEach (e :: []) env = (false, eval e env) :: starEach [] env := by intro _; rfl) : DE C (.List [e] pos) S (.ok (.own2 [ds])) :=
  .mk fun W => ⟨tLst (tCons (tE C e W) tNil), fun r f => pe_lst (pa_cons (pe_tE f) pa_nil (hs _)), fun Oc H0 H σ fp hod sat Q hq hx =>
    he W Oc H0 H σ fp hod sat _ (fun r v H1 er e1 res => by
      cases er
      obtain ⟨p, vs, rfl, n, hp, rp⟩ := res
      refine ⟨by show 1 ≤ sizeLine; exact sz_le (n := 1) (by decide), fun q hq' => hq (.own2 [ds]) (.ref q) _ rfl (e1.trans (Ex.new hq')) ⟨q, [p], rfl, fun a ha => ?_, ?_, upd_same, ?_⟩⟩
      · rcases List.mem_cons.mp ha with rfl | ha
        · exact e1.back hq'
        · rw [List.mem_singleton.mp ha]; exact n
      · refine List.nodup_cons.mpr ⟨fun z => ?_, List.nodup_cons.mpr ⟨List.not_mem_nil, .nil⟩⟩
        rw [List.mem_singleton.mp z, hp] at hq'; cases hq'
      · have hne : p ≠ q := fun z => by rw [z, hq'] at hp; cases hp
        exact .cons (by rw [upd_ne hne]; exact hp) ((rp.mono (Ex.new hq')).flat hf) .nil) (fun _ _ _ _ er => nomatch er)⟩
end
end BK
/-! Part U: inner lists given away. -/
namespace BK
open PySem PySem.Spec PyProof.Rows L2
theorem Sat.freeze2 {K : PySem.W.Frag} {Oc : Addr → Prop} {H0 H : Hp} {σ : L2.St} {S : List Slot} {fp : Nat → List Addr} (h : Sat K Oc H0 H σ S fp) (hoc : ∀ a, Oc a → ∀ i, a ∉ fp i) {j : Nat} {dss : List (List D)} (hj : S[j]? = some (.own2 dss)) : ∃ fp', Sat K Oc H0 H σ (S.set j (.own (dss.map D.lst))) fp' := by
  obtain ⟨p, qs, hx, hf, nd, hl, ow⟩ := h.slot j _ hj
  have hlt := (List.getElem?_eq_some_iff.mp hj).1
  have mp : p ∈ fp j := by rw [hf]; exact List.mem_cons_self
  have mq : ∀ q ∈ qs, q ∈ fp j := fun q hq => by rw [hf]; exact List.mem_cons_of_mem _ hq
  have np : p ∉ qs := (List.nodup_cons.mp nd).1
  have sub : ∀ a, Ow Oc (fset fp j [p]) a → Ow Oc fp a := fun a z => (Ow_fset a z).elim id fun q => by rw [List.mem_singleton.mp q]; exact .inr ⟨j, mp⟩
  have no' : ∀ q ∈ qs, ¬ Ow Oc (fset fp j [p]) q := fun q hq z => by
    rcases z with z | ⟨i, z⟩
    · exact hoc q z j (mq q hq)
    · by_cases e : i = j
      · subst e
        rw [fset_same] at z
        exact np (by rw [← List.mem_singleton.mp z]; exact hq)
      · rw [fset_ne e] at z
        exact e (h.dis i j q z (mq q hq))
  have e : σ.set j (σ.getD j none) = σ := by
    apply List.ext_getElem?
    intro i
    by_cases hi : j = i
    · subst hi
      have hs : j < σ.length := by rw [← h.len]; exact hlt
      rw [List.getElem?_set_self hs, List.getD_eq_getElem?_getD, List.getElem?_eq_getElem hs]; rfl
    · rw [List.getElem?_set_ne hi]
  have g := h.put hlt (σ.getD j none) (.own (dss.map D.lst)) [p] (fun a z => by rw [List.mem_singleton.mp z]; exact h.fr j p mp) (fun a z i hi hm => hi (h.dis i j a hm (by rw [List.mem_singleton.mp z]; exact mp))) ⟨p, _, hx, rfl, hl, ow.frz sub no'⟩ (fun i s _ q => (h.slot i s q).step (Ex.refl H) fun a z => .inl (sub a z))
  rw [e] at g
  exact ⟨_, g⟩
theorem dss_freeze2 {C : Ctx} {S : List Slot} {sts : List Stmt} {P : Post} {dss : List (List D)} (j : Nat) (hS : S[j]? = some (.own2 dss)) (h : DSs C sts (S.set j (.own (dss.map D.lst))) P) : DSs C sts S P := fun W Oc H0 H σ fp hod sat D h1 h2 h3 h4 h5 => by
  obtain ⟨fp', s'⟩ := sat.freeze2 (fun a z i q => hod a z (sat.fr i a q)) hS
  exact h W Oc H0 H σ fp' hod s' D h1 h2 h3 h4 h5
end BK
/-! Part V: a comprehension of own lists, given to a name. -/
namespace BK
open PySem PySem.Spec PyProof.Rows L2
section
variable {C : Ctx} {S : List Slot} {P : Post} {lv : Bool} {pos pos' : Pos}
theorem ds_setLc2 {α : Type} {tg it elt : Expr} {scope : Scope} {z : Str} {py : Pos} (j : Nat) (own : List (Str × Nat)) (l : List α) (enc : α → D) (h : α → List D) (hN : C.N[j]? = some z) (hx : C.sc.names.lookup z = some .local) (hj : j < S.length) (hln : (py.line == pos'.line) = true) (hnn : (scope.names.any fun (n, k) => n == z && (k == .local || k == .cell)) = false) (hk : C.sc.kind = .function)
    (hb : blkC C.N C.sc scope own = true) (hi : DIt C lv tg it S (l.map enc)) (hv : anyS S (own.map (·.2)) = true) (hz : l.length ≤ 1000000) (hfl : lv = true ∨ ∀ x ∈ l, Flat (enc x)) (hf2 : ∀ x ∈ l, ∀ d ∈ h x, Flat d)
    (he : ∀ x ∈ l, ∃ S2, DGc (C.blk scope) (own.map (·.2)) tg S (enc x) S2 ∧ DE (C.blk scope) elt S2 (.ok (.own (h x))))
    (hP : P.nx (S.set j (.own2 (l.map h)))) (hf : ∀ env x, foldedSetIterable it env x = pure x := by intro _ _; rfl) : DS C (.Assign [.Name z py] (.ListComp elt [⟨tg, it, [], 0⟩] scope pos') pos) S P :=
  .mk fun W => ⟨tAsg (tLc (tIt C tg it W) (tGt (C.blk scope) tg W0) (tTs (C.blk scope) [] W0) (tE (C.blk scope) elt W0) (own.map (·.2))) (gName j), fun r f => by
      have ec : (C.x r).env.scope = C.sc := f.g.sc
      refine ps_setLc (X := C.x r) f.g.calm f.g.nd hN (by rw [ec]; exact hx) (sw_true (by rw [ec]; exact hk) (by rw [ec]; exact hx) ?_ hnn) (pi_tI f) (by have := blkOk_by hb; rw [← f.g.sc] at this; exact this) (fun s H c cl fp => pg_tG (f.blk s H scope c cl fp)) (fun s H c cl fp => pts_tT (f.blk s H scope c cl fp)) (fun s H c cl fp => pe_tE (f.blk s H scope c cl fp)) (hf _)
      exact hln, fun Oc H0 H σ fp hod sat D h1 h2 h3 h4 h5 => ev_lc2 (W := W) l enc h hi (anyS_ok hv) hz hfl hf2 he Oc H0 H σ fp (hod.up sat) sat _
      (fun r v H' er ex res => by
        obtain ⟨fp', s'⟩ := sat.set ex res hj
        cases er
        exact h1 _ H' _ fp' hP s') (fun _ _ _ _ er => nomatch er)⟩
end
end BK
/-! Part W: texts and dicts compared; the same data compared; anything in a module's tuple. -/
namespace BK
open PySem PySem.Spec PyProof.Rows L2
section
open PySem.AutoSeq1 (wpAny_loadPart')
open PySem.MeetsSeq PySem.SeqAt
theorem str_declines_dict (b : Str) (u : Tok) (l : Addr) : ∀ es ep, Meets (Builtin.«str.__eq__» ⟨[.str b u, .ref l], []⟩) (fun _ R s => s.heap.get? l = some { cls := .type "dict", dict := none, data := .dict es ep, slots := #[] } ∧ R (.ok (.ret .notImplemented)) s) :=
  fun es ep => .of_wp fun prog w A R s h => by obtain ⟨hp, g, d, tk, os⟩ := s; obtain ⟨hl, h⟩ := h; wp_walk using wpAny_loadPart' hl, wpAny_load hl; exact ⟨_, rfl, h⟩
theorem eqAt_str_dict {K : Type} [DecidableEq K] {prog0 : Program} {w0 : World} {knd : KeyKind prog0 w0 K} {A : Around} {s : Shared} {l : Addr} {kvs : List (K × Value)} (b : Str) (u : Tok) (da : s.heap.DictOf knd l kvs) (hu : A.units < cLine) : EqAt A s (.str b u) (.ref l) false := fun prog w E Q h => by
  have ty := da.typeIs
  obtain ⟨⟨cls, dd, data, sl⟩, es, ep, ho, ⟨x1, x2, x3⟩, hd, _⟩ := da
  simp only at x1 x2 x3 hd
  subst x1 x2 x3 hd
  unfold eqBool
  refine wpAny_holding ?_
  refine wpAny_ite_split (fun hab => absurd (eq_of_beq hab) nofun) (fun _ => ?_)
  refine wpAny_bind (rc_eq_decline_or (k := false) (typeIs_str s b u) ty (by decide) F.sub_dict_str F.slot_str_eq F.slot_dict_eq_refl
    (fun _ hq => call_meets F.slot_str_eq (typeIs_str s b u) F.entry_str_eq (F.args_str_eq_2 _ _) (str_declines_dict b u l es ep) ⟨ho, hq⟩)
    (fun Q' hq => wpAny_call_entry F.slot_dict_eq_refl ty F.entry_dict_eq ?_ (F.args_dict_eq_2 _ _))
    (fun _ hq => wpAny_of_eq (rfl : isSame (.str b u) (.ref l) = pure false) hq) (.inr hu) (wpAny_truthy_bool h))
  show wpAny _ _ (Builtin.Dict.dictSlotArgs "__eq__" ⟨[.ref l, .str b u], []⟩ >>= _) _ _ s
  refine wpAny_bind ?_
  unfold Builtin.Dict.dictSlotArgs
  refine wpAny_bind (wpAny_notOrdered_dict ty ?_)
  show wpAny _ _ (pure (Value.ref l, Value.str b u)) _ _ s
  refine wpAny_pure ?_
  refine wpAny_bind (wpAny_isInstance (T := "str") (typeIs_str s b u) F.sub_str_dict ?_)
  simp only [Bool.not_false, if_true]
  exact wpAny_bind (wpAny_rule (wpAny_pure ⟨_, rfl, hq⟩))
theorem dict0_any {prog0 : Program} {w0 : World} {h : Heap} {a : Addr} (da : h.DictOf (mixKind prog0 w0) a []) (prog : Program) (w : World) : h.DictOf (mixKind prog w) a [] := by
  obtain ⟨o, es, ep, ho, hx, hd, hk, hp, hn⟩ := da
  have e : es.toList = [] := List.eq_nil_of_length_eq_zero hp.length
  have e2 : es = #[] := by
    cases es; simp only at e; rw [e]
  subst e2
  exact ⟨o, _, ep, ho, hx, hd, fun e he => absurd he (by simp), .nil, .nil⟩
theorem eqAt_dict0 {prog0 : Program} {w0 : World} {A : Around} {s : Shared} {a b : Addr} (ha : (a == sysModules) = false) (hb : (b == sysModules) = false) (da : s.heap.DictOf (mixKind prog0 w0) a []) (db : s.heap.DictOf (mixKind prog0 w0) b []) (hu : A.units < cLine) : EqAt A s (.ref a) (.ref b) true := by
  by_cases hne : a = b
  · subst hne; exact EqAt.same _
  · exact fun prog w E Q hq => EqIn.of_refs hne (fun E' Q' hq' => PySem.W.keq_eqIn ha hb (dict0_any da prog w) (dict0_any db prog w) hu (fun _ => .nil) (r := true) (by simpa using hq')) E Q hq
end
/-- data that is told again -/
inductive SmD : Nat → D → Prop
  | non {n : Nat} : SmD n .non
  | bl {n : Nat} (b : Bool) : SmD n (.bl b)
  | int {n : Nat} (i : Int) : SmD n (.int i)
  | str {n : Nat} (x : Str) : SmD n (.str x)
  | tup {n : Nat} {ds : List D} (h : ∀ d ∈ ds, SmD n d) : SmD (n + 1) (.tup ds)
  | lst {n : Nat} {ds : List D} (h : ∀ d ∈ ds, SmD n d) : SmD (n + 1) (.lst ds)
  | dic {n : Nat} : SmD (n + 1) (.dic [])
section
open PySem.SeqAt
variable {X : Cx} {pins : List (Addr × Obj)} {σ : L2.St} {H : Hp} {s : Shared} {O O' : Addr → Prop}
theorem all_true (n : Nat) : ((List.range n).all fun _ => true) = true := by simp
theorem SmD.eq (I : Inv X pins σ H s) : ∀ {n : Nat} {d : D} {v v' : V} {u u' : Value}, SmD n d → Rep X.K H O v d → Rep X.K H O' v' d → RelV v u → RelV v' u' → ∀ A : Around, A.units + n < cLine → EqAt A s u u' true := by
  intro n
  induction n with
  | zero =>
    intro d v v' u u' sm r r' q q' A hu
    cases sm with
    | non => cases r; cases r'; cases q; cases q'; exact EqAt.same _
    | bl b => cases r; cases r'; cases q; cases q'; exact EqAt.same _
    | int i => cases r; cases r'; obtain ⟨t, rfl⟩ := q; obtain ⟨t', rfl⟩ := q'; have := EqAt.int_int (A := A) (s := s) i t i t'; simpa using this
    | str x => cases r; cases r'; obtain ⟨t, rfl⟩ := q; obtain ⟨t', rfl⟩ := q'; have := EqAt.str_str (A := A) (s := s) x t x t'; simpa using this
  | succ n ih =>
    intro d v v' u u' sm r r' q q' A hu
    have al : ∀ {ds : List D} {vs vs' : List V} {us us' : List Value}, (∀ d ∈ ds, SmD n d) → Reps X.K H O vs ds → Reps X.K H O' vs' ds → Vals vs us → Vals vs' us' → us.length = us'.length ∧ ∀ j (h1 : j < us.toArray.size) (h2 : j < us'.toArray.size), EqAt A.in1 s us.toArray[j] us'.toArray[j] true := by
      intro ds vs vs' us us' sm r r' q q'
      refine ⟨by rw [← q.length, ← q'.length, r.length, r'.length], fun j h1 h2 => ?_⟩
      have h1' : j < us.length := h1
      have h2' : j < us'.length := h2
      have l1 : j < vs.length := by rw [q.length]; exact h1'
      have l2 : j < vs'.length := by rw [q'.length]; exact h2'
      have l3 : j < ds.length := by rw [← r.length]; exact l1
      obtain ⟨d, ed, rd⟩ := r.get (List.getElem?_eq_getElem l1)
      obtain ⟨d', ed', rd'⟩ := r'.get (List.getElem?_eq_getElem l2)
      rw [ed] at ed'; cases ed'
      obtain ⟨w, ew, qw⟩ := q.get (List.getElem?_eq_getElem l1)
      obtain ⟨w', ew', qw'⟩ := q'.get (List.getElem?_eq_getElem l2)
      rw [List.getElem?_eq_getElem h1'] at ew
      rw [List.getElem?_eq_getElem h2'] at ew'
      have := ih (sm d (List.mem_of_getElem? ed)) rd rd' qw qw' A.in1 (by show A.units + 1 + n < cLine; omega)
      rw [← Option.some.inj ew, ← Option.some.inj ew'] at this
      simpa using this
    have hu0 : A.units < cLine := by omega
    cases sm with
    | non => cases r; cases r'; cases q; cases q'; exact EqAt.same _
    | bl b => cases r; cases r'; cases q; cases q'; exact EqAt.same _
    | int i => cases r; cases r'; obtain ⟨t, rfl⟩ := q; obtain ⟨t', rfl⟩ := q'; have := EqAt.int_int (A := A) (s := s) i t i t'; simpa using this
    | str x => cases r; cases r'; obtain ⟨t, rfl⟩ := q; obtain ⟨t', rfl⟩ := q'; have := EqAt.str_str (A := A) (s := s) x t x t'; simpa using this
    | tup h => cases r with
      | @tup a vs _ ha rs => cases r' with
        | @tup a' vs' _ ha' rs' =>
          cases q; cases q'
          obtain ⟨its, rv, pl, _⟩ := I.tuple (.inl (.inl ha))
          obtain ⟨its', rv', pl', _⟩ := I.tuple (.inl (.inl ha'))
          obtain ⟨hl, he⟩ := al h rs rs' rv rv'
          by_cases hne : a = a'
          · subst hne; exact EqAt.same _
          · have z := RcAt.tuples (A := A) (e := fun _ => true) pl pl' hu0 he
            rw [all_true, show (its.toArray.size == its'.toArray.size) = true by simp [hl]] at z
            exact EqAt.of_refs hne z
    | lst h => cases r with
      | @lst a vs _ _ ha rs => cases r' with
        | @lst a' vs' _ _ ha' rs' =>
          cases q; cases q'
          obtain ⟨its, rv, pl, _⟩ := I.list (.inl (.inl ha))
          obtain ⟨its', rv', pl', _⟩ := I.list (.inl (.inl ha'))
          obtain ⟨hl, he⟩ := al h rs rs' rv rv'
          by_cases hne : a = a'
          · subst hne; exact EqAt.same _
          · have z := RcAt.lists (A := A) (e := fun _ => true) pl.isList pl'.isList (by simp [hl]) hu0 he
            rw [all_true] at z
            exact EqAt.of_refs hne z
    | dic => cases r with
      | @dic a _ _ ha => cases r' with
        | @dic a' _ _ ha' =>
          cases q; cases q'
          obtain ⟨_, ya, va, ra, da⟩ := (show ObjOk X.prog X.w H s.heap a (.dK []) from I.hok a _ ha)
          obtain ⟨_, yb, vb, rb, db⟩ := (show ObjOk X.prog X.w H s.heap a' (.dK []) from I.hok a' _ ha')
          cases ra; cases rb
          exact eqAt_dict0 ya yb da db hu0
/-- xs != ys, the same data -/
def rNeS (K : PySem.W.Frag) : R2 := fun x y H Q => ∃ (n : Nat) (ds : List D) (O O' : Addr → Prop), Rep K H O x (.lst ds) ∧ Rep K H O' y (.lst ds) ∧ (∀ d ∈ ds, SmD n d) ∧ n < 60 ∧ Q (.bl false) H
theorem op_neS {X : Cx} (hu : X.A.units + 64 < cLine) : OpR X (compareOp .NotEq) (rNeS X.K) := by
  intro pins s σ H x y v u Q I rx ry h
  obtain ⟨n, ds, O, O', r, r', sm, hn, q⟩ := h
  cases r with
  | @lst a vs _ _ ha rs => cases r' with
    | @lst a' vs' _ _ ha' rs' =>
      cases rx; cases ry
      obtain ⟨its, rv, pl, _⟩ := I.list (.inl (.inl ha))
      obtain ⟨its', rv', pl', _⟩ := I.list (.inl (.inl ha'))
      have hl : its.length = its'.length := by rw [← rv.length, ← rv'.length, rs.length, rs'.length]
      have he : ∀ j (h1 : j < its.toArray.size) (h2 : j < its'.toArray.size), EqAt X.A.in1 s its.toArray[j] its'.toArray[j] true := fun j h1 h2 => by
        have h1' : j < its.length := h1
        have h2' : j < its'.length := h2
        have l1 : j < vs.length := by rw [rv.length]; exact h1'
        have l2 : j < vs'.length := by rw [rv'.length]; exact h2'
        obtain ⟨d, ed, rd⟩ := rs.get (List.getElem?_eq_getElem l1)
        obtain ⟨d', ed', rd'⟩ := rs'.get (List.getElem?_eq_getElem l2)
        rw [ed] at ed'; cases ed'
        obtain ⟨w, ew, qw⟩ := rv.get (List.getElem?_eq_getElem l1)
        obtain ⟨w', ew', qw'⟩ := rv'.get (List.getElem?_eq_getElem l2)
        rw [List.getElem?_eq_getElem h1'] at ew
        rw [List.getElem?_eq_getElem h2'] at ew'
        have := SmD.eq I (sm d (List.mem_of_getElem? ed)) rd rd' qw qw' X.A.in1 (by show X.A.units + 1 + n < cLine; omega)
        rw [← Option.some.inj ew, ← Option.some.inj ew'] at this
        simpa using this
      have z := RcNeAt.lists (A := X.A) (e := fun _ => true) pl.isList pl'.isList (by simp [hl]) (by omega) he
      rw [all_true] at z
      exact z _ _ _ _ ⟨.bl _, H, I, rfl, q⟩
end
section
variable {C : Ctx} {S : List Slot} {a b : Expr} {ds : List D} {d : D} {xs : List V} {pos : Pos} {x : Bool}
theorem dt_neSm (n : Nat) (ha : DL C false a S (.lst ds)) (hb : DL C false b S (.lst ds)) (sm : ∀ d ∈ ds, SmD n d) (hn : n < 60) : DT C (.Compare a [.NotEq] [b] pos) S false :=
  dt_cmp (lv := false) (r2 := rNeS C.M.K) (fun r g => op_neS g.room.units) (nomark _) ha hb fun A H x y Q _ rx ry hq => ⟨n, ds, _, _, rx, ry, sm, hn, hq _ H (Ex.refl H) (.bl _)⟩
end
/-- anything in a module's tuple of texts -/
inductive Any0 : D → Prop
  | non : Any0 .non
  | bl (b : Bool) : Any0 (.bl b)
  | int (i : Int) : Any0 (.int i)
  | str (x : Str) : Any0 (.str x)
  | tup (ds : List D) : Any0 (.tup ds)
  | lst (ds : List D) : Any0 (.lst ds)
  | dic (kvs : List (Key × V)) : Any0 (.dic kvs)
def inG (xs : List Str) : D → Bool
  | .str x => inV (.str x) (xs.map V.str)
  | _ => false
def rNotInG (K : PySem.W.Frag) (xs : List Str) (d : D) : R2 := fun x y H Q => ∃ (O : Addr → Prop) (p : Addr), y = .ref p ∧ SqT K (fun _ => none) p (xs.map V.str) ∧ Rep K H O x d ∧ Q (.bl (!inG xs d)) H
section
open PySem.SeqAt
theorem str_of_vals : ∀ {xs : List Str} {us : List Value}, Vals (xs.map V.str) us → ∀ u ∈ us, ∃ z t, u = .str z t
  | [], _, .nil => fun u hu => by cases hu
  | x :: xs, _, .cons r t => fun u hu => by
    rcases List.mem_cons.mp hu with rfl | hu
    · obtain ⟨t, rfl⟩ := r; exact ⟨_, _, rfl⟩
    · exact str_of_vals t u hu
theorem op_notInG {X : Cx} {xs : List Str} {d : D} (hd : Any0 d) (hu : X.A.units + 64 < cLine) : OpR X (compareOp .NotIn) (rNotInG X.K xs d) := by
  intro pins s σ H x y v u Q I rx ry h
  obtain ⟨O, p, rfl, hs, rep, q⟩ := h
  cases ry
  obtain ⟨its, r, pl, hz⟩ := I.tuple (none_sqT hs)
  have hu1 : X.A.in1.units < cLine := by show X.A.units + 1 < cLine; omega
  have st := str_of_vals r
  have fin : (∀ w ∈ its, EqAt X.A.in1 s w v false) → (inG xs d = false) → wpAny (model X.prog X.w) X.A (compareOp .NotIn v (.ref p)) (EP X pins σ Q) X.xe s := fun he hg => by
    refine SeqAt.notIn_tupleAt (fun _ => false) pl (fun w hw => he w (by simpa using hw)) ⟨.bl _, H, I, rfl, ?_⟩
    rw [hg] at q
    rw [show (its.toArray.any fun _ => false) = false by simp]
    exact q
  cases hd with
  | non => cases rep; cases rx; exact fin (fun w hw => by obtain ⟨z, t, rfl⟩ := st w hw; exact EqAt.str_none _ _) rfl
  | bl b => cases rep; cases rx; exact fin (fun w hw => by obtain ⟨z, t, rfl⟩ := st w hw; exact EqAt.str_bool _ _ _) rfl
  | int b => cases rep; obtain ⟨t0, rfl⟩ := rx; exact fin (fun w hw => by obtain ⟨z, t, rfl⟩ := st w hw; exact EqAt.str_int _ _ _ _) rfl
  | str b =>
    cases rep
    have fs : (xs.map V.str).all flatV = true := by simp [flatV]
    refine SeqAt.notIn_tupleAt (eqU (.str b)) pl (fun w hw => mem_eqAt rx rfl r fs w (by simpa using hw)) ⟨.bl _, H, I, rfl, ?_⟩
    rw [show its.toArray.any (eqU (.str b)) = its.any (eqU (.str b)) by simp, any_eqU r fs]
    exact q
  | tup ds => cases rep with
    | tup ha rs =>
      cases rx
      obtain ⟨its2, _, pl2, _⟩ := I.tuple (.inl (.inl ha))
      exact fin (fun w hw => by obtain ⟨z, t, rfl⟩ := st w hw; exact EqAt.str_tuple _ _ pl2 hu1) rfl
  | lst ds => cases rep with
    | lst _ ha rs =>
      cases rx
      obtain ⟨its2, _, pl2, _⟩ := I.list (.inl (.inl ha))
      exact fin (fun w hw => by obtain ⟨z, t, rfl⟩ := st w hw; exact EqAt.str_list _ _ pl2.isList hu1) rfl
  | dic kvs => cases rep with
    | @dic a _ _ ha =>
      cases rx
      obtain ⟨_, ya, va, ra, da⟩ := (show ObjOk X.prog X.w H s.heap a (.dK kvs) from I.hok a _ ha)
      exact fin (fun w hw => by obtain ⟨z, t, rfl⟩ := st w hw; exact eqAt_str_dict _ _ da hu1) rfl
end
section
variable {C : Ctx} {S : List Slot} {a b : Expr} {d : D} {xs : List Str} {pos : Pos} {x : Bool}
theorem dt_notInG (hd : Any0 d) (ha : DL C false a S d) (hb : DL C false b S (.ktup (xs.map V.str))) (hx : (!inG xs d) = x) (hm : behindInMarks .NotIn b = false) : DT C (.Compare a [.NotIn] [b] pos) S x := by
  subst hx
  exact dt_cmp (lv := false) (r2 := rNotInG C.M.K xs d) (fun r g => op_notInG hd g.room.units) hm ha hb fun A H x y Q _ rx ry hq => by
    cases ry with
    | ktup hs hf => exact ⟨A, _, rfl, hs, rx, hq _ H (Ex.refl H) (.bl _)⟩
end
end BK
set_option maxHeartbeats 2000000
/-! Part X: texts. -/
namespace BK
open PySem PySem.Spec PyProof.Rows L2
section
variable {C : Ctx} {S : List Slot} {a b e : Expr} {es : List Expr} {d : D} {ds : List D} {lv x : Bool} {pos pos' : Pos} {i j : Int} {z y : Str} {ys : List Str}
abbrev DSt (C : Ctx) (e : Expr) (S : List Slot) (z : Str) : Prop := DE C e S (.ok (.val (.str z)))
theorem reps_strs {K : PySem.W.Frag} {H : Hp} {O : Addr → Prop} : ∀ ns : List Str, Reps K H O (ns.map V.str) (ns.map D.str)
  | [] => .nil
  | n :: ns => .cons (.str n) (reps_strs ns)
theorem de_split {ap : Pos} (ha : DSt C a S z) (hb : DSt C b S y) (hy : (y.length == 0) = false) (hz : z.length + 2 ≤ 1000000)
    (hs : ∀ env, starEach [b] env = [(false, eval b env)] := by intro _; rfl) (hbase : ∀ env, attributeBase a "split" env (eval a env) = eval a env := by intro _; rfl) (hline : (ap.endLine == pos.line) = true := by rfl) :
    DE C (.Call (.Attribute a "split" ap) [b] [] pos) S (.ok (.own ((Txt.split z y).map D.str))) :=
  .mk fun W => ⟨_, fun r f => pe_split (pe_tE f) (pe_tE f) (hs _) (hbase _) hline, fun Oc H0 H σ fp hod sat Q hq hx =>
    ha W Oc H0 H σ fp hod sat _ (fun r v H1 er e1 res => by
      cases er; cases res
      refine ⟨⟨z, rfl⟩, hb W Oc H0 H1 σ fp (hod.ex e1) (sat.mono e1) _ (fun r w H2 er e2 res => ?_) (fun _ _ _ _ er => nomatch er)⟩
      cases er; cases res
      refine ⟨z, y, rfl, rfl, hy, sz_le hz, fun p hp => ?_⟩
      have e3 := (e1.trans e2).trans (Ex.new (o := .lst ((Txt.split z y).map V.str)) hp)
      exact hq (.own ((Txt.split z y).map D.str)) (.ref p) _ rfl e3 ⟨p, _, rfl, (e1.trans e2).back hp, upd_same, reps_strs _⟩) (fun _ _ _ _ er => nomatch er)⟩
def rJoin (K : PySem.W.Frag) : V → List V → Hp → VK → Prop := fun x xs H Q => ∃ a p, ∃ ys : List Str, x = .str a ∧ xs = [.ref p] ∧ (SqL K H p (ys.map V.str) ∨ SqT K H p (ys.map V.str)) ∧ (ys.map (·.length)).sum + ys.length * a.length ≤ 16777216 ∧ Q (.str (Txt.join a ys)) H
theorem de_join {ap : Pos} (ha : DSt C a S z) (hb : DL C false b S (.lst (ys.map D.str))) (hz : (ys.map (·.length)).sum + ys.length * z.length ≤ 16777216)
    (hs : ∀ env, starEach [b] env = [(false, eval b env)] := by intro _; rfl) (hbase : ∀ env, attributeBase a "join" env (eval a env) = eval a env := by intro _; rfl) (hline : (ap.endLine == pos.line) = true := by rfl) :
    DSt C (.Call (.Attribute a "join" ap) [b] [] pos) S (Txt.join z ys) := by
  refine .mk fun W => ⟨tM1 (rJoin C.M.K) (tE C a W) (tE C b W), fun r f => pe_join (to := tE C a W) (te := tE C b W) (pe_tE f) (pe_tE f) (hs _) (hbase _) hline, fun Oc H0 H σ fp hod sat Q hq hx => ?_⟩
  refine ha W Oc H0 H σ fp hod sat _ (fun r v H1 er e1 res => ?_) (fun _ _ _ _ er => nomatch er)
  cases er; cases res
  refine ⟨⟨z, rfl⟩, ?_⟩
  refine hb W Oc H0 H1 σ fp (hod.ex e1) (sat.mono e1) _ fun w H2 e2 rep => ?_
  cases rep with
  | @lst p vs _ _ hl rs =>
    rw [rs.to_strs] at hl
    exact ⟨z, p, ys, rfl, rfl, .inl (.inl (.inl hl)), hz, hq _ _ H2 rfl (e1.trans e2) (.str _)⟩
theorem de_intS {p : Pos} {n : Int} (hg : GlC C "int") (hm : C.M.mg "int" = none) (ha : DSt C a S z) (hn : PySem.intText? z = some n) (hz : z.length ≤ 640) (hs : ∀ env, starEach (a :: []) env = (false, eval a env) :: starEach [] env := by intro _; rfl) : DE C (.Call (.Name "int" p) [a] [] pos) S (.ok (.val (.int n))) := by
  refine de_callTy (lv := false) (rc := (fun xs H Q => ∃ a n, xs = [.str a] ∧ PySem.intText? a = some n ∧ a.length ≤ 640 ∧ Q (.int n) H)) (r := .val (.int n)) (fun _ _ => call_int_str) hg hm boot_int (by decide) (by decide) (da_cons (dl_val ha) da_nil hs) (fun A H vs Q hA reps hq => ?_) (.inr (.int _)) hs (fun _ => rfl)
  obtain ⟨v, rfl, rep⟩ := reps1 reps
  cases rep
  exact ⟨z, n, rfl, hn, hz, hq _ H (Ex.refl H) (.int _)⟩
theorem dt_notInSign {c : Nat} (ha : DSt C a S ⟨#[c]⟩) (hb : DSt C b S z) (hm : behindInMarks .NotIn b = false) : DT C (.Compare a [.NotIn] [b] pos) S (!decide (c ∈ z.cps.toList)) :=
  dt_cmp (lv := false) (fun _ _ => op_notIn_sign) hm (dl_val ha) (dl_val hb) fun A H v w Q _ rv rw' hq => by
    cases rv; cases rw'
    exact ⟨c, z, rfl, rfl, hq _ H (Ex.refl H) (.bl _)⟩
theorem dt_notInL (ha : DSt C a S z) (hb : DL C false b S (.lst (ys.map D.str))) (hm : behindInMarks .NotIn b = false) : DT C (.Compare a [.NotIn] [b] pos) S (!inV (.str z) (ys.map V.str)) :=
  dt_cmp (lv := false) (r2 := rIn C.M.K true) (fun _ _ => op_notIn_seq) hm (dl_val ha) hb fun A H v w Q _ rv rw' hq => by
    cases rv
    cases rw' with
    | @lst p vs _ _ hl rs =>
      rw [rs.to_strs] at hl
      exact ⟨p, _, rfl, .inl (.inl (.inl hl)), rfl, by simp [flatV], hq _ H (Ex.refl H) (.bl _)⟩
/-! ### text * number -/
def rMulS : R2 := fun x y H Q => ∃ z n, x = .str z ∧ y = .int n ∧ MulOk z n ∧ Q (.str (Txt.mul z n)) H
theorem op_mulS {X : Cx} : OpR X (binaryOp .Mult) rMulS := by
  intro pins s σ H x y v u Q I rx ry h
  obtain ⟨z, n, rfl, rfl, hm, q⟩ := h
  obtain ⟨t, rfl⟩ := rx
  obtain ⟨t', rfl⟩ := ry
  exact SB.mul hm fun t2 k => ⟨.str _, H, I.tok k, ⟨t2, rfl⟩, q⟩
theorem mul_ok {z : Str} {n : Int} (h0 : 0 ≤ n) (h1 : n ≤ 100000) (hz : z.length ≤ 10) : MulOk z n := by
  refine ⟨by rw [decide_eq_false (by omega), decide_eq_false (by omega)]; rfl, fun h _ => ?_, fun h _ => ?_⟩
  · have : (2 ^ 63 - 1 : Int) / n ≥ (2 ^ 63 - 1) / 100000 := by
      apply Int.le_ediv_of_mul_le (by omega)
      have : (2 ^ 63 - 1 : Int) / 100000 * n ≤ (2 ^ 63 - 1 : Int) / 100000 * 100000 := Int.mul_le_mul_of_nonneg_left h1 (by decide)
      omega
    omega
  · unfold Builtin.Str.tooLong
    rw [sizeLine_eq]
    refine decide_eq_false ?_
    have : z.length * n.toNat ≤ 10 * 100000 := Nat.mul_le_mul hz (by omega)
    omega
theorem de_mulS {n : Int} (ha : DSt C a S z) (hb : DI C b S n) (hm : MulOk z n) : DSt C (.BinOp a .Mult b pos) S (Txt.mul z n) :=
  de_op (lv := false) (fun _ _ => op_mulS) (dl_val ha) (dl_val hb) (fun A H v w Q _ rv rw' hq => by
    cases rv; cases rw'
    exact ⟨z, n, rfl, rfl, hm, hq _ H (Ex.refl H) (.str _)⟩) (.inr (.str _))
/-! ### f-texts -/
/-- what {x} writes -/
inductive Fmt : D → Str → Prop
  | str {z : Str} (h : z.length ≤ 1000000) : Fmt (.str z) z
  | int {i : Int} (h : i.natAbs.log2 < 1920) : Fmt (.int i) (toString i)
theorem empty_app (z : Str) : Str.empty ++ z = z := TL.ext_tl (by rw [TL.tl_append]; rfl)
theorem de_fstr3 {p1 p3 : Pos} {k : Nat} {p2 : Pos} {da db : D} {sa sb c : Str} (ha : DE C a S (.ok (.val da))) (hb : DE C b S (.ok (.val db))) (fa : Fmt da sa) (fb : Fmt db sb) (hz : sa.length + c.length + sb.length ≤ 1000000) :
    DSt C (.JoinedStr [.FormattedValue a (-1) none p1, .Constant (.str c) k p2, .FormattedValue b (-1) none p3] pos) S (sa ++ c ++ sb) :=
  .mk fun W => ⟨_, fun r f => pe_joined (.cons (pe_fmt (pe_tE f)) (.cons pe_str (.cons (pe_fmt (pe_tE f)) .nil))), fun Oc H0 H σ fp hod sat Q hq hx => by
    have l1 : (Str.empty ++ sa).length ≤ sizeLine := by rw [empty_app]; exact sz_le (by omega)
    have l2 : (Str.empty ++ sa ++ c).length ≤ sizeLine := by rw [empty_app, Str.length_append]; exact sz_le (by omega)
    have l3 : (Str.empty ++ sa ++ c ++ sb).length ≤ sizeLine := by rw [empty_app, Str.length_append, Str.length_append]; exact sz_le (by omega)
    have fin : ∀ H2, Ex H H2 → Q (.str (Str.empty ++ sa ++ c ++ sb)) H2 := fun H2 ex => by
      rw [empty_app]; exact hq _ _ H2 rfl ex (.str _)
    have step2 : ∀ H1, Ex H H1 → tE C b W σ H1 fun x H2 => (∃ y : Str, x = .str y ∧ y.length ≤ sizeLine ∧ ∃ y' : Str, V.str y = .str y' ∧ (Str.empty ++ sa ++ c ++ y').length ≤ sizeLine ∧ Q (.str (Str.empty ++ sa ++ c ++ y')) H2) ∨ ∃ i : Int, x = .int i ∧ i.natAbs.log2 < 1920 ∧ ∃ y' : Str, V.str (toString i) = .str y' ∧ (Str.empty ++ sa ++ c ++ y').length ≤ sizeLine ∧ Q (.str (Str.empty ++ sa ++ c ++ y')) H2 := fun H1 e1 =>
      hb W Oc H0 H1 σ fp (hod.ex e1) (sat.mono e1) _ (fun r v H2 er e2 res => by
        cases er
        cases fb with
        | str h => cases res; exact .inl ⟨_, rfl, sz_le h, _, rfl, l3, fin H2 (e1.trans e2)⟩
        | int h => cases res; exact .inr ⟨_, rfl, h, _, rfl, l3, fin H2 (e1.trans e2)⟩) (fun _ _ _ _ er => nomatch er)
    refine ha W Oc H0 H σ fp hod sat _ (fun r v H1 er e1 res => ?_) (fun _ _ _ _ er => nomatch er)
    cases er
    cases fa with
    | str h => cases res; exact .inl ⟨_, rfl, sz_le h, _, rfl, l1, _, rfl, l2, step2 H1 e1⟩
    | int h => cases res; exact .inr ⟨_, rfl, h, _, rfl, l1, _, rfl, l2, step2 H1 e1⟩⟩
end
end BK
set_option maxHeartbeats 2000000
/-! Part Y: a comprehension whose element wants a token given out; text.replace. -/
namespace BK
open PySem PySem.Spec PyProof.Rows L2 CwR
section
variable {X : Cx}
theorem tk1 {α : Type} {t : Sem α} {Q Q' : α → Shared → Prop} {M : Model} {A : Around} {E : Value → Shared → Prop} {s : Shared} (k : 1 ≤ s.toks) (h : wpAny M A t Q E s) (f : ∀ a s', 1 ≤ s'.toks → Q a s' → Q' a s') : wpAny M A t Q' E s :=
  wpAny_mono (PySem.wpAny_toks_of k h) (fun a s' z => f a s' z.1 z.2) fun _ _ z => z.2
theorem tk0 {α : Type} {t : Sem α} {Q Q' : α → Shared → Prop} {M : Model} {A : Around} {E : Value → Shared → Prop} {s : Shared} (k : 1 ≤ s.toks) (h : wpAny M A t Q (fun _ _ => False) s) (f : ∀ a s', 1 ≤ s'.toks → Q a s' → Q' a s') : wpAny M A t Q' E s :=
  wpAny_mono (PySem.wpAny_toks_of k h) (fun a s' z => f a s' z.1 z.2) fun _ _ z => z.2.elim
/-- [el for tg in it if ..], the element wants a token -/
theorem pet_lc {el tg it : Expr} {fs : List Expr} {sco : Scope} {own : List (Str × Nat)} {pos : Pos} {wi : TI} {g : TG} {tt : TT} {te : TE} (calm : X.calm = true) (nod : X.N.Nodup) (pit : PI X tg it wi) (bok : BlkOk X.N X.env.scope sco own)
    (ptg : ∀ (sh : Shared) (Hh : Hp) (Cc : Addr) (cs : List (Str × Addr)) (fa : List Addr), PG (X.blk sh Hh sco (compEnvC sco cs Cc X.env) fa) tg g) (pte : ∀ (sh : Shared) (Hh : Hp) (Cc : Addr) (cs : List (Str × Addr)) (fa : List Addr), PTs (X.blk sh Hh sco (compEnvC sco cs Cc X.env) fa) fs tt)
    (pel : ∀ (sh : Shared) (Hh : Hp) (Cc : Addr) (cs : List (Str × Addr)) (fa : List Addr), PET (X.blk sh Hh sco (compEnvC sco cs Cc X.env) fa) el te) (fold : ∀ x, foldedSetIterable it X.env x = pure x) :
    PET X (.ListComp el [⟨tg, it, fs, 0⟩] sco pos) (tLc wi g tt te (own.map (·.2))) := by
  intro pins s σ H Q tok0 I0 want
  rw [eval_ListComp]
  have free : ∀ y ∈ sco.names, y.2 = .free → ∃ c, X.env.cells.lookup y.1 = some c := fun y ym ye => (bok.free y ym ye).elim (fun k => I0.ok.has _ (.inl k)) fun k => I0.ok.has _ (.inr k)
  refine wpAny_comprehension_free (use := none) rfl fold (closure_ok free) bok.kind (fun y ym ye => by rw [bok.uniq y ym, ye]) ?_
  refine tk1 tok0 (pit.run pins s σ H _ I0 want) fun _ sA tokA hA => tk1 tokA hA fun itv sB tokB hB => ?_
  obtain ⟨ia, fa, tn, J, HB, rfl, IB, TT, stB, fB, q⟩ := hB
  refine wpAny_newObj_type (newEnv_comp ?_) (by show 0 ≤ sizeLine; decide)
  have freeD : HB sB.heap.objs.size = none := IB.hok.fresh (Nat.le_refl _)
  obtain ⟨Wt, ⟨mz, wz⟩, step⟩ := q _ freeD
  let hpL : Heap := sB.heap.push { cls := .type "list", data := .seq ([] : List Value).toArray }
  let sL : Shared := { sB with heap := hpL }
  have keepL : ∀ b o, sB.heap.get? b = some o → hpL.get? b = some o := fun b o e => Heap.get?_push_of_some _ e
  let HL : Hp := upd HB sB.heap.objs.size (.lst [])
  have IL : Inv X pins σ HL sL := IB.laid (t' := sB.toks) keepL (Nat.le_refl _) ⟨Nat.zero_le _, [], 0, .nil, Heap.get?_push_size _ rfl⟩
  have ltf : ∀ b ∈ fa, b < sB.heap.objs.size := fun b bm => by
    obtain ⟨o, e, _⟩ := TT.obj _ _ stB b bm
    exact Heap.lt_size e
  have fL : ∀ b ∈ fa, FpOk X pins HL b ∧ b < sL.heap.objs.size := fun b bm => by
    refine ⟨⟨?_, (fB b bm).2⟩, ?_⟩
    · show upd HB sB.heap.objs.size (.lst []) b = none
      rw [upd_ne (Nat.ne_of_lt (ltf b bm))]; exact (fB b bm).1
    · show b < (sB.heap.push _).objs.size
      rw [Heap.size_push]; exact Nat.lt_succ_of_lt (ltf b bm)
  have stL : tn 0 sL.heap := TT.keep _ _ _ stB fun b _ o e => keepL b o e
  have IE := block_start IL bok nod fL
  have gT := ptg sL HL sL.heap.objs.size (cellsFrom (sL.heap.objs.size + 1) sco.names (cloFrom X.env.cells sco.names [])) fa
  have tT := pte sL HL sL.heap.objs.size (cellsFrom (sL.heap.objs.size + 1) sco.names (cloFrom X.env.cells sco.names [])) fa
  have eT := pel sL HL sL.heap.objs.size (cellsFrom (sL.heap.objs.size + 1) sco.names (cloFrom X.env.cells sco.names [])) fa
  have noneF : ∀ b ∈ fa, HL b = none := fun b bm => (fL b bm).1.1
  generalize hen : compEnvC sco (cellsFrom (sL.heap.objs.size + 1) sco.names (cloFrom X.env.cells sco.names [])) sL.heap.objs.size X.env = en at IE gT tT eT
  have locE : en.locals = sL.heap.objs.size := by subst hen; rfl
  generalize hsE : ({ sL with heap := pushCells (sL.heap.push { cls := .type "dict", data := .dict #[] }) sco.names } : Shared) = sE at IE
  have tokE : 1 ≤ sE.toks := by rw [← hsE]; exact tokB
  have stE : tn 0 sE.heap := TT.keep _ _ _ stL fun b _ o e => by rw [← hsE]; exact pushCells_keeps _ _ _ _ (Heap.get?_push_of_some _ e)
  have fpo : ∀ {σ' : L2.St} {H' : Hp} {s' : Shared}, Inv (X.blk sL HL sco en fa) [] σ' H' s' → (∀ b ∈ fa, H' b = none) → ∀ b ∈ fa, FpOk (X.blk sL HL sco en fa) [] H' b := fun {σ' H' s'} I' nn b bm =>
    ⟨nn b bm, (I'.ok.exf b bm).1, I'.ok.exfs b bm, .inl bm, fun x c e => (I'.ok.exf b bm).2 x c e, fun p pm => absurd (show p ∈ ([] : List (Addr × Obj)) ++ [] from pm) (by simp)⟩
  have run : codeAny (model X.prog X.w) X.A (.compLoop (.ListComp el [⟨tg, it, fs, 0⟩] sco pos) 0 (.ref ia) (.ref sB.heap.objs.size) en) (compPost (model X.prog X.w) X.A X.xe none (EP X pins σ Q) (.ref sB.heap.objs.size) sL.heap.objs.size) sE := by
    refine compLoop_any (fun n s' => 1 ≤ s'.toks ∧ ∃ i H', Inv (X.blk sL HL sco en fa) [] (wipe σ (own.map (·.2))) H' s' ∧ tn i s'.heap ∧ (∀ b ∈ fa, H' b = none) ∧ Wt i n H') ?_ mz ⟨tokE, 0, HL, IE, stE, noneF, wz⟩
    rintro n s5 ⟨tok5, i, H5, I5, st5, n5, w5⟩
    rcases step i n H5 w5 with ⟨stop, fin⟩ | ⟨go, Nx, less, turn⟩
    · refine tk0 tok5 (TT.done (X.blk sL HL sco en fa) rfl rfl rfl calm i [] s5 _ H5 (fun _ _ => False) I5 (fpo I5 n5) st5 stop) fun r s6 _ hr => ?_
      obtain ⟨rfl, I6⟩ := hr
      have I7 : Inv X pins σ H5 s6 := IL.call' (ch := fa) I6.os I6.base I6.hok I6.bare fun b bm => ⟨(fL b bm).1.2.2.2.1, (fL b bm).1.2.1, (fL b bm).1.2.2.2.2.1, (fL b bm).1.2.2.2.2.2⟩
      have nC : H5 sL.heap.objs.size = none := by
        have z : H5 en.locals = none := I6.free
        rw [locE] at z; exact z
      obtain ⟨m, hn, _⟩ := I6.loc
      have hn : s6.heap.Ns en.locals m := hn
      rw [locE] at hn
      obtain ⟨f0, f1, f2, f3, f4, f5⟩ := IL.fpOk (Nat.le_refl _) nC
      exact ⟨m, hn, fun h'' sb => ⟨.ref _, H5, I7.turned (t' := s6.toks) (fun b o hb e => (sb.2 b hb).trans e) f0 f1 f3 f4 f5, rfl, fin⟩⟩
    · refine tk0 tok5 (TT.item (X.blk sL HL sco en fa) rfl rfl rfl calm i [] s5 _ H5 (fun _ _ => False) I5 (fpo I5 n5) st5 go) fun r s6 tok6 hr => ?_
      obtain ⟨u, rfl, h6⟩ := hr
      refine tk0 tok6 h6 fun _ s7 tok7 h7 => ?_
      obtain ⟨x, H7, I7, r7, y7, st7, n7⟩ := h7
      refine tk0 tok7 (gT.run _ s7 _ H7 x u _ (I7.pinned (fpo I7 n7) (TT.obj _ _ st7)) r7 (turn x H7 y7)) fun _ s8 tok8 h8 => ?_
      obtain ⟨σ8, H8, I8, hw8, q8⟩ := h8
      refine tk0 tok8 (tT.run _ s8 σ8 H8 _ I8 q8) fun b s9 tok9 h9 => ?_
      obtain ⟨H9, I9, q9⟩ := h9
      have over : ∀ {s' : Shared} {H' : Hp}, 1 ≤ s'.toks → Inv (X.blk sL HL sco en fa) ([] ++ pinsAt fa s7.heap) σ8 H' s' → Nx H' → ∃ m, m < n ∧ 1 ≤ s'.toks ∧ ∃ i H', Inv (X.blk sL HL sco en fa) [] (wipe σ (own.map (·.2))) H' s' ∧ tn i s'.heap ∧ (∀ b ∈ fa, H' b = none) ∧ Wt i m H' := fun {s' H'} tk I' nx => by
        obtain ⟨m', hm, w'⟩ := less H' nx
        have pinned : ∀ b ∈ fa, ∀ o, s7.heap.get? b = some o → s'.heap.get? b = some o ∧ H' b = none := fun b bm o e => by
          have z := I'.pin (b, o) (List.mem_append_right _ (List.mem_append_right _ (mem_pinsAt bm e)))
          exact ⟨z.1, z.2.1⟩
        have ln : (wipe σ (own.map (·.2))).length = σ8.length := by rw [← hw8, wipe_length]
        refine ⟨m', hm, tk, i + 1, H', (I'.unpinned (pins := [])).weak ln (fun j v e => ?_), TT.keep _ _ _ st7 fun b bm o e => (pinned b bm o e).1, fun b bm => ?_, w'⟩
        · rw [← hw8] at e; exact (wipe_some e).1
        · obtain ⟨o, e, _⟩ := TT.obj _ _ st7 b bm
          exact (pinned b bm o e).2
      cases b with
      | false =>
        simp only [Bool.false_eq_true, if_false] at q9 ⊢
        exact over tok9 I9 q9
      | true =>
        simp only [if_true] at q9 ⊢
        refine tk0 tok9 (eT _ s9 σ8 H9 _ tok9 I9 q9) fun z sX tokX hX => ?_
        obtain ⟨yv, HX, IX, rX, acc, hDX, hzX, nx⟩ := hX
        refine tk0 tokX (app_ok (X := X.blk sL HL sco en fa) (E := fun _ _ => False) (Q := fun _ s' => Inv (X.blk sL HL sco en fa) ([] ++ pinsAt fa s7.heap) σ8 (upd HX sB.heap.objs.size (.lst (acc ++ [yv]))) s') IX hDX hzX rX fun s' I' => I') fun _ sY tokY IY => over tokY IY nx
  have go := codeAny_compStart_list run (TT.self X.A 0 _ _ _ stE run)
  subst hen; subst hsE
  exact go
end
/-! ### told by data, a token out -/
def tEt (C : Ctx) (e : Expr) (W : WX) : TE := fun σ H Q => ∃ t, (∀ r, Fam C W r → PET (C.x r) e t) ∧ t σ H Q
def DEt (C : Ctx) (e : Expr) (S : List Slot) (o : Out) : Prop := ∀ W, Ev C.M.K W (tEt C e W) S o
def DLt (C : Ctx) (b : Bool) (e : Expr) (S : List Slot) (d : D) : Prop := ∀ W, EvL C.M.K b (tEt C e W) S d
section
variable {C : Ctx} {W : WX} {r : Rst} {S : List Slot} {a b e : Expr} {o : Out} {R0 : R} {d : D} {ds es : List D} {lv : Bool} {pos : Pos} {z y w : Str} {ys : List Str}
theorem pet_tEt (f : Fam C W r) : PET (C.x r) e (tEt C e W) := fun pins s σ H Q k I ⟨t, p, q⟩ => p r f pins s σ H Q k I q
theorem DEt.mk (h : ∀ W, ∃ t, (∀ r, Fam C W r → PET (C.x r) e t) ∧ Ev C.M.K W t S o) : DEt C e S o := fun W Oc H0 H σ fp hod sat Q hq hx => by
  obtain ⟨t, p, q⟩ := h W
  exact ⟨t, p, q Oc H0 H σ fp hod sat Q hq hx⟩
theorem det_of (h : DE C e S o) : DEt C e S o := .mk fun W => ⟨tE C e W, fun r f => PET.of (pe_tE f), h W⟩
theorem dlt_of (h : DEt C e S (.ok R0)) (ed : (if lv then R0.fz else some R0.toD) = some d) : DLt C lv e S d := fun W Oc H0 H σ fp hod sat Q hq => by
  refine h W Oc H0 H σ fp hod sat Q (fun r' v H' er ex res => ?_) (fun _ _ _ _ er => nomatch er)
  cases er
  cases lv with
  | true => exact hq v H' ex (res.frz (sat.thereO hod) ed)
  | false => cases Option.some.inj ed; exact hq v H' ex res.toRd
theorem det_cat (ha : DLt C lv a S (.lst ds)) (hb : DLt C lv b S (.lst es)) (hz : ds.length + es.length ≤ 1000000) (hf : lv = true ∨ ∀ d ∈ ds ++ es, Flat d) : DEt C (.BinOp a .Add b pos) S (.ok (.own (ds ++ es))) :=
  .mk fun W => ⟨_, fun r f => pet_op op_cat (pet_tEt f) (pet_tEt f), fun Oc H0 H σ fp hod sat Q hq hx =>
    ha W Oc H0 H σ fp hod sat _ fun x H1 e1 rx => hb W Oc H0 H1 σ fp (hod.ex e1) (sat.mono e1) _ fun u H2 e2 ru =>
      op2_cat (K := C.M.K) hz _ H2 x u Q ((((sat.thereO hod).ex e1).ex e2).lvl) (rx.mono e2) ru fun v H3 e3 res => hq _ v H3 rfl ((e1.trans e2).trans e3) ((res.unlvl (r := .own (ds ++ es)) hf).base (e1.trans e2))⟩
theorem det_repl {j k : Nat} {c0 c1 ap : Pos} (ha : DSt C a S z) (hyz : (y == w) = false) (hz : z.length + (z.length + 1) * w.length ≤ 16777216)
    (hst : ∀ env, starEach [.Constant (.str y) j c0, .Constant (.str w) k c1] env = [(false, eval (.Constant (.str y) j c0) env), (false, eval (.Constant (.str w) k c1) env)] := by intro _; rfl)
    (hbase : ∀ env, attributeBase a "replace" env (eval a env) = eval a env := by intro _; rfl) (hline : (ap.endLine == pos.line) = true := by rfl) :
    DEt C (.Call (.Attribute a "replace" ap) [.Constant (.str y) j c0, .Constant (.str w) k c1] [] pos) S (.ok (.val (.str (Txt.replace z y w)))) :=
  .mk fun W => ⟨tReplC (tE C a W) y w, fun r f => pet_replC (pe_tE f) hyz (hst _) (hbase _) hline, fun Oc H0 H σ fp hod sat Q hq hx =>
    ha W Oc H0 H σ fp hod sat _ (fun r v H1 er e1 res => by
      cases er; cases res
      exact ⟨z, rfl, hz, hq _ _ H1 rfl e1 (.str _)⟩) (fun _ _ _ _ er => nomatch er)⟩
/-- 'c'.join(e), e wants a token: the constant gives one -/
theorem pe_joinT {X : Cx} {te : TE} {j : Nat} {c0 ap : Pos} (he : PET X b te) (hs : starEach [b] X.env = [(false, eval b X.env)]) (hbase : attributeBase (.Constant (.str z) j c0) "join" X.env (eval (.Constant (.str z) j c0) X.env) = eval (.Constant (.str z) j c0) X.env) (hline : (ap.endLine == pos.line) = true) :
    PE X (.Call (.Attribute (.Constant (.str z) j c0) "join" ap) [b] [] pos) (tM1 (rJoin X.K) (tC (.str z)) te) := by
  refine ⟨fun pins s σ H Q I h => ?_⟩
  obtain ⟨_, q⟩ : (∃ a, V.str z = .str a) ∧ te σ H fun y H2 => rJoin X.K (.str z) [y] H2 Q := h
  refine PySem.Call_method1 hbase hs hline (Calls.Constant_str ?_)
  refine ⟨"str", _, PySem.F.plainAttrs_str, PySem.F.slot_str_join, PySem.F.type_str_join, typeIs_str _ _ _, (fun _ e => nomatch e), Calls.callWith_builtin rfl (Calls.evalArgs_plain (Calls.spliced_cons ?_))⟩
  refine thn (he pins _ σ H _ (by show 1 ≤ s.toks + 1; omega) (I.tok (s.toks + 1)) q) fun v s2 hv => ?_
  obtain ⟨y, H2, I2, r2, q2⟩ := hv
  exact Calls.spliced_nil (mt_join pins s2 σ H2 (.str z) [y] _ [v] Q I2 ⟨s.toks, rfl⟩ (.cons r2 .nil) q2)
theorem de_joinT {j : Nat} {c0 ap : Pos} (hb : DLt C false b S (.lst (ys.map D.str))) (hz : (ys.map (·.length)).sum + ys.length * z.length ≤ 16777216)
    (hs : ∀ env, starEach [b] env = [(false, eval b env)] := by intro _; rfl) (hbase : ∀ env, attributeBase (.Constant (.str z) j c0) "join" env (eval (.Constant (.str z) j c0) env) = eval (.Constant (.str z) j c0) env := by intro _; rfl) (hline : (ap.endLine == pos.line) = true := by rfl) :
    DSt C (.Call (.Attribute (.Constant (.str z) j c0) "join" ap) [b] [] pos) S (Txt.join z ys) := by
  refine .mk fun W => ⟨tM1 (rJoin C.M.K) (tC (.str z)) (tEt C b W), fun r f => pe_joinT (pet_tEt f) (hs _) (hbase _) hline, fun Oc H0 H σ fp hod sat Q hq hx => ?_⟩
  refine ⟨⟨z, rfl⟩, ?_⟩
  refine hb W Oc H0 H σ fp hod sat _ fun w H2 e2 rep => ?_
  cases rep with
  | @lst p vs _ _ hl rs =>
    rw [rs.to_strs] at hl
    exact ⟨z, p, ys, rfl, rfl, .inl (.inl (.inl hl)), hz, hq _ _ H2 rfl e2 (.str _)⟩
end
theorem ev_lcG {C : Ctx} {S : List Slot} {lv : Bool} {α : Type} {W : WX} {tg it : Expr} {scope : Scope} {vs : List Nat} (te : TE) (l : List α) (enc h : α → D) (hi : DIt C lv tg it S (l.map enc)) (hv : ∀ v ∈ vs, S[v]? = some .any) (hz : l.length ≤ 1000000)
    (hfl : lv = true ∨ ∀ x ∈ l, Flat (enc x))
    (he : ∀ x ∈ l, ∃ S2 r, DGc (C.blk scope) vs tg S (enc x) S2 ∧ Ev C.M.K W0 te S2 (.ok r) ∧ r.fz = some (h x)) :
    Ev C.M.K W (tLc (tIt C tg it W) (tGt (C.blk scope) tg W0) (tTs (C.blk scope) [] W0) te vs) S (.ok (.own (l.map h))) := fun Oc H0 H σ fp hod sat Q hq hx =>
  hi W Oc H0 H σ fp hod sat _ fun J H1 e1 ⟨G, Y, w, hG, hY⟩ Dl hD => by
    have s1 := (sat.mono e1).wipe hv
    have gx : Ex (BK.ground lv H1 fp) H1 := by
      cases lv with
      | false => exact Ex.refl _
      | true => exact hid_ex
    let Oc' : Addr → Prop := fun a => Oc a ∨ a = Dl
    have sA : Sat C.M.K Oc' H0 H1 (L2.wipe σ vs) S fp := s1.avoid fun a z => z.imp id fun z => by rw [z]; exact hD
    let Pv : Nat → Hp → Prop := fun i H' => ∃ acc, Ex H1 H' ∧ H' Dl = some (.lst acc) ∧ Reps C.M.K H' (Ow Oc' fp) acc ((l.take i).map h)
    refine lc_it w Pv ⟨[], Ex.new hD, upd_same, .nil⟩ (fun i H' _ ⟨_, ex, _⟩ => hG H' (gx.trans ex)) (fun i x H' H2 hlt ⟨acc, ex, hl, reps⟩ y => ?_) fun H' ⟨acc, ex, hl, reps⟩ => ?_
    · have hlt' : i < l.length := by rw [List.length_map] at hlt; exact hlt
      have ed : (l.map enc)[i]? = some (enc l[i]) := by rw [List.getElem?_map, List.getElem?_eq_getElem hlt']; rfl
      have mem : l[i] ∈ l := List.getElem_mem hlt'
      obtain ⟨ex2, rep⟩ := hY i H' x H2 _ ed (gx.trans ex) y
      have rx : Rep C.M.K H2 (Ow Oc' fp) x (enc l[i]) := by
        rcases hfl with rfl | hfl
        · refine rep _ fun a z => ?_
          rcases z with (z | z) | z
          · exact .inl z
          · right; rw [z]
            by_cases q : Fp fp Dl
            · exact hid_in q
            · show hid H1 (Fp fp) Dl = none; rw [hid_out q]; exact hD
          · exact .inr (hid_in z)
        · exact Rep.flat (rep no fun _ z => z.elim) (hfl _ mem)
      have sB := sA.mono (ex.trans ex2)
      have t2 : There Oc' H2 := fun a z => by
        rcases z with z | z
        · exact (hod.ex ((e1.trans ex).trans ex2)) a z
        · rw [z, ex2 _ _ hl]; exact fun z => nomatch z
      obtain ⟨S2, rr, hg, hel, hfz⟩ := he _ mem
      have tk : l.take (i + 1) = l.take i ++ [l[i]] := by rw [List.take_add_one, List.getElem?_eq_getElem hlt']; rfl
      refine hg W0 Oc' H0 H2 _ fp t2 sB x rx _ fun σ2 fp2 hw sup sC => ⟨hw.trans (wipe_idem fun _ z => z), ?_⟩
      refine (dts_nil : DTs (C.blk scope) [] S2 true) W0 Oc' H0 H2 σ2 fp2 t2 sC _ fun H3 e3 => ?_
      rw [if_pos rfl]
      have sD := sC.mono e3
      refine hel Oc' H0 H3 σ2 fp2 (t2.ex e3) sD _ (fun r v H4 er e4 res => ?_) (fun _ _ _ _ er => nomatch er)
      cases er
      have rv := res.frz (sD.thereO (t2.ex e3)) hfz
      have ex4 : Ex H1 H4 := ((ex.trans ex2).trans e3).trans e4
      have hl4 : H4 Dl = some (.lst acc) := e4 _ _ (e3 _ _ (ex2 _ _ hl))
      have oD : Ow Oc' fp2 Dl := .inl (.inr rfl)
      have oD1 : Ow Oc' fp Dl := .inl (.inr rfl)
      have mb : Mb (H4 Dl) := by rw [hl4]; trivial
      refine ⟨acc, hl4, ?_, acc ++ [v], ex4.mut hD, upd_same, ?_⟩
      · rw [reps.length, List.length_map]
        refine sz_lt ?_
        rw [List.length_take]; exact Nat.le_trans (Nat.min_le_right _ _) hz
      · rw [tk, List.map_append]
        refine (((reps.mono ((ex2.trans e3).trans e4)).write oD1 mb).app ?_)
        exact .one ((rv.write oD mb).less fun a z => sup a z)
    · refine hq _ _ H' rfl (e1.trans ex) ⟨Dl, acc, rfl, e1.back hD, hl, ?_⟩
      rw [List.length_map, List.take_length] at reps
      exact reps.less fun a z => by
        rcases z with (z | z) | z
        · exact .inl (.inl z)
        · exact .inr z
        · exact .inl (.inr z)
theorem det_map {C : Ctx} {S : List Slot} {lv : Bool} {pos : Pos} {α : Type} {tg it elt : Expr} {scope : Scope} (own : List (Str × Nat)) (l : List α) (enc h : α → D) (hb : blkC C.N C.sc scope own = true) (hi : DIt C lv tg it S (l.map enc)) (hv : anyS S (own.map (·.2)) = true) (hz : l.length ≤ 1000000)
    (hfl : lv = true ∨ ∀ x ∈ l, Flat (enc x)) (he : ∀ x ∈ l, ∃ S2 r, DGc (C.blk scope) (own.map (·.2)) tg S (enc x) S2 ∧ DEt (C.blk scope) elt S2 (.ok r) ∧ r.fz = some (h x))
    (hf : ∀ env x, foldedSetIterable it env x = pure x := by intro _ _; rfl) : DEt C (.ListComp elt [⟨tg, it, [], 0⟩] scope pos) S (.ok (.own (l.map h))) :=
  .mk fun W => ⟨_, fun r f => pet_lc (X := C.x r) f.g.calm f.g.nd (pi_tI f) (by have := blkOk_by hb; rw [← f.g.sc] at this; exact this) (fun s H c cl fp => pg_tG (f.blk s H scope c cl fp)) (fun s H c cl fp => pts_tT (f.blk s H scope c cl fp)) (fun s H c cl fp => pet_tEt (f.blk s H scope c cl fp)) (hf _),
    ev_lcG (tEt (C.blk scope) elt W0) l enc h hi (anyS_ok hv) hz hfl fun x hx => by
      obtain ⟨S2, r, h1, h2, h3⟩ := he x hx
      exact ⟨S2, r, h1, h2 W0, h3⟩⟩
end BK
namespace BK
open PySem PySem.Spec PyProof.Rows L2
def topS (i : Nat) : Stmt := PySem.Challenge.pw_bankshare_k08_texts.main.body.getD i (.Pass ⟨0, 0, 0, 0⟩)
abbrev s_is_whole : Stmt := topS 11
theorem sc_is_whole : FnScope ["thing"] ["thing"] (defScope s_is_whole) := ⟨rfl, rfl, rfl, by decide +kernel, rfl, by decide +kernel, by decide +kernel⟩
abbrev C_is_whole (M : Mo) : Ctx := ⟨M, ["thing"], defScope s_is_whole, true⟩
abbrev s_lay : Stmt := topS 12
theorem sc_lay : FnScope ["bank", "ground", "long", "last"] ["bank", "ground", "long"] (defScope s_lay) := ⟨rfl, rfl, rfl, by decide +kernel, rfl, by decide +kernel, by decide +kernel⟩
abbrev C_lay (M : Mo) : Ctx := ⟨M, ["bank", "ground", "long", "last"], defScope s_lay, true⟩
abbrev s_tidy : Stmt := topS 13
theorem sc_tidy : FnScope ["rows", "bank", "place", "row"] ["rows"] (defScope s_tidy) := ⟨rfl, rfl, rfl, by decide +kernel, rfl, by decide +kernel, by decide +kernel⟩
abbrev C_tidy (M : Mo) : Ctx := ⟨M, ["rows", "bank", "place", "row"], defScope s_tidy, true⟩
abbrev s_shown : Stmt := topS 17
theorem sc_shown : FnScope ["bank", "ground", "long"] ["bank"] (defScope s_shown) := ⟨rfl, rfl, rfl, by decide +kernel, rfl, by decide +kernel, by decide +kernel⟩
abbrev C_shown (M : Mo) : Ctx := ⟨M, ["bank", "ground", "long"], defScope s_shown, true⟩
abbrev s_number_of : Stmt := topS 18
theorem sc_number_of : FnScope ["word", "sign"] ["word"] (defScope s_number_of) := ⟨rfl, rfl, rfl, by decide +kernel, rfl, by decide +kernel, by decide +kernel⟩
abbrev C_number_of (M : Mo) : Ctx := ⟨M, ["word", "sign"], defScope s_number_of, true⟩
abbrev s_stretch_of : Stmt := topS 19
theorem sc_stretch_of : FnScope ["part", "words", "long"] ["part"] (defScope s_stretch_of) := ⟨rfl, rfl, rfl, by decide +kernel, rfl, by decide +kernel, by decide +kernel⟩
abbrev C_stretch_of (M : Mo) : Ctx := ⟨M, ["part", "words", "long"], defScope s_stretch_of, true⟩
abbrev s_read : Stmt := topS 20
theorem sc_read : FnScope ["text", "rows", "place", "part", "row"] ["text"] (defScope s_read) := ⟨rfl, rfl, rfl, by decide +kernel, rfl, by decide +kernel, by decide +kernel⟩
abbrev C_read (M : Mo) : Ctx := ⟨M, ["text", "rows", "place", "part", "row"], defScope s_read, true⟩
abbrev s_shown_share : Stmt := topS 21
theorem sc_shown_share : FnScope ["share", "low", "high"] ["share"] (defScope s_shown_share) := ⟨rfl, rfl, rfl, by decide +kernel, rfl, by decide +kernel, by decide +kernel⟩
abbrev C_shown_share (M : Mo) : Ctx := ⟨M, ["share", "low", "high"], defScope s_shown_share, true⟩
abbrev s_shown_shares : Stmt := topS 22
theorem sc_shown_shares : FnScope ["shares", "share"] ["shares"] (defScope s_shown_shares) := ⟨rfl, rfl, rfl, by decide +kernel, rfl, by decide +kernel, by decide +kernel⟩
abbrev C_shown_shares (M : Mo) : Ctx := ⟨M, ["shares", "share"], defScope s_shown_shares, true⟩
abbrev s_law_cell_at : Stmt := topS 24
theorem sc_law_cell_at : FnScope ["_law_script", "_law_k"] ["_law_script", "_law_k"] (defScope s_law_cell_at) := ⟨rfl, rfl, rfl, by decide +kernel, rfl, by decide +kernel, by decide +kernel⟩
abbrev C_law_cell_at (M : Mo) : Ctx := ⟨M, ["_law_script", "_law_k"], defScope s_law_cell_at, true⟩
abbrev s_law_whole : Stmt := topS 25
theorem sc_law_whole : FnScope ["_law_found"] ["_law_found"] (defScope s_law_whole) := ⟨rfl, rfl, rfl, by decide +kernel, rfl, by decide +kernel, by decide +kernel⟩
abbrev C_law_whole (M : Mo) : Ctx := ⟨M, ["_law_found"], defScope s_law_whole, true⟩
abbrev s_law_row : Stmt := topS 26
theorem sc_law_row : FnScope ["_law_cell", "_law_most"] ["_law_cell"] (defScope s_law_row) := ⟨rfl, rfl, rfl, by decide +kernel, rfl, by decide +kernel, by decide +kernel⟩
abbrev C_law_row (M : Mo) : Ctx := ⟨M, ["_law_cell", "_law_most"], defScope s_law_row, true⟩
abbrev s_law_tidy : Stmt := topS 27
theorem sc_law_tidy : FnScope ["_law_rows", "_law_made", "_law_ground", "_law_long"] ["_law_rows"] (defScope s_law_tidy) := ⟨rfl, rfl, rfl, by decide +kernel, rfl, by decide +kernel, by decide +kernel⟩
abbrev C_law_tidy (M : Mo) : Ctx := ⟨M, ["_law_rows", "_law_made", "_law_ground", "_law_long"], defScope s_law_tidy, true⟩
abbrev s_law_text : Stmt := topS 28
theorem sc_law_text : FnScope ["_law_rows", "_law_row_here"] ["_law_rows"] (defScope s_law_text) := ⟨rfl, rfl, rfl, by decide +kernel, rfl, by decide +kernel, by decide +kernel⟩
abbrev C_law_text (M : Mo) : Ctx := ⟨M, ["_law_rows", "_law_row_here"], defScope s_law_text, true⟩
abbrev s_law_sign : Stmt := topS 29
theorem sc_law_sign : FnScope ["_law_cell", "_law_some"] ["_law_cell"] (defScope s_law_sign) := ⟨rfl, rfl, rfl, by decide +kernel, rfl, by decide +kernel, by decide +kernel⟩
abbrev C_law_sign (M : Mo) : Ctx := ⟨M, ["_law_cell", "_law_some"], defScope s_law_sign, true⟩
abbrev s_law_odd_part : Stmt := topS 30
theorem sc_law_odd_part : FnScope ["_law_cell", "_law_some", "_law_k"] ["_law_cell"] (defScope s_law_odd_part) := ⟨rfl, rfl, rfl, by decide +kernel, rfl, by decide +kernel, by decide +kernel⟩
abbrev C_law_odd_part (M : Mo) : Ctx := ⟨M, ["_law_cell", "_law_some", "_law_k"], defScope s_law_odd_part, true⟩
abbrev s_law_spoilt : Stmt := topS 31
theorem sc_law_spoilt : FnScope ["_law_text_here", "_law_parts", "_law_script", "_law_way", "_law_at", "_law_place", "_law_which", "_law_part"] ["_law_text_here", "_law_parts", "_law_script"] (defScope s_law_spoilt) := ⟨rfl, rfl, rfl, by decide +kernel, rfl, by decide +kernel, by decide +kernel⟩
abbrev C_law_spoilt (M : Mo) : Ctx := ⟨M, ["_law_text_here", "_law_parts", "_law_script", "_law_way", "_law_at", "_law_place", "_law_which", "_law_part"], defScope s_law_spoilt, true⟩
abbrev s_law_number : Stmt := topS 32
theorem sc_law_number : FnScope ["_law_word", "_law_sign_here"] ["_law_word"] (defScope s_law_number) := ⟨rfl, rfl, rfl, by decide +kernel, rfl, by decide +kernel, by decide +kernel⟩
abbrev C_law_number (M : Mo) : Ctx := ⟨M, ["_law_word", "_law_sign_here"], defScope s_law_number, true⟩
abbrev s_law_read : Stmt := topS 33
theorem sc_law_read : FnScope ["_law_text_here", "_law_rows", "_law_part", "_law_words"] ["_law_text_here"] (defScope s_law_read) := ⟨rfl, rfl, rfl, by decide +kernel, rfl, by decide +kernel, by decide +kernel⟩
abbrev C_law_read (M : Mo) : Ctx := ⟨M, ["_law_text_here", "_law_rows", "_law_part", "_law_words"], defScope s_law_read, true⟩
abbrev s_law_asked : Stmt := topS 34
theorem sc_law_asked : FnScope ["_law_thing", "_law_caught", "_law_found", "e", "_law_good"] ["_law_thing"] (defScope s_law_asked) := ⟨rfl, rfl, rfl, by decide +kernel, rfl, by decide +kernel, by decide +kernel⟩
abbrev C_law_asked (M : Mo) : Ctx := ⟨M, ["_law_thing", "_law_caught", "_law_found", "e", "_law_good"], defScope s_law_asked, true⟩
abbrev s_law_bank : Stmt := topS 35
theorem sc_law_bank : FnScope ["_law_found", "_law_due", "_law_row_here"] ["_law_found", "_law_due"] (defScope s_law_bank) := ⟨rfl, rfl, rfl, by decide +kernel, rfl, by decide +kernel, by decide +kernel⟩
abbrev C_law_bank (M : Mo) : Ctx := ⟨M, ["_law_found", "_law_due", "_law_row_here"], defScope s_law_bank, true⟩
abbrev s_law_refused : Stmt := topS 36
theorem sc_law_refused : FnScope ["_law_found", "_law_place"] ["_law_found", "_law_place"] (defScope s_law_refused) := ⟨rfl, rfl, rfl, by decide +kernel, rfl, by decide +kernel, by decide +kernel⟩
abbrev C_law_refused (M : Mo) : Ctx := ⟨M, ["_law_found", "_law_place"], defScope s_law_refused, true⟩
abbrev s_law_shares : Stmt := topS 37
theorem sc_law_shares : FnScope ["_law_script", "_law_shares_here", "_law_cell", "_law_at", "_law_share", "_law_k"] ["_law_script"] (defScope s_law_shares) := ⟨rfl, rfl, rfl, by decide +kernel, rfl, by decide +kernel, by decide +kernel⟩
abbrev C_law_shares (M : Mo) : Ctx := ⟨M, ["_law_script", "_law_shares_here", "_law_cell", "_law_at", "_law_share", "_law_k"], defScope s_law_shares, true⟩
abbrev s_law_shares_text : Stmt := topS 38
theorem sc_law_shares_text : FnScope ["_law_shares_here", "_law_words", "_law_share", "_law_pieces", "_law_start", "_law_end"] ["_law_shares_here"] (defScope s_law_shares_text) := ⟨rfl, rfl, rfl, by decide +kernel, rfl, by decide +kernel, by decide +kernel⟩
abbrev C_law_shares_text (M : Mo) : Ctx := ⟨M, ["_law_shares_here", "_law_words", "_law_share", "_law_pieces", "_law_start", "_law_end"], defScope s_law_shares_text, true⟩
abbrev s_law : Stmt := topS 39
theorem sc_law : FnScope ["_law_script", "_law_rows", "_law_bank_here", "_law_text_here", "_law_spoilt_here", "_law_due", "_law_found", "_law_again", "_law_thing", "_law_handed", "_law_told", "_law_shares_here", "_law_asked_here", "_law_cell", "_law_row_here", "_law_share"] ["_law_script"] (defScope s_law) := ⟨rfl, rfl, rfl, by decide +kernel, rfl, by decide +kernel, by decide +kernel⟩
abbrev C_law (M : Mo) : Ctx := ⟨M, ["_law_script", "_law_rows", "_law_bank_here", "_law_text_here", "_law_spoilt_here", "_law_due", "_law_found", "_law_again", "_law_thing", "_law_handed", "_law_told", "_law_shares_here", "_law_asked_here", "_law_cell", "_law_row_here", "_law_share"], defScope s_law, true⟩
end BK
namespace BK
open PySem PySem.Spec PyProof.Rows L2
/-! ## by rote -/
local macro_rules | `(tactic| walk_at "fl") => `(tactic| first | exact Flat.int _ | exact Flat.str _ | exact Flat.bl _ | exact Flat.non | exact Flat.ktup | exact Flat.exc | exact flat_nil | (refine' flat_tup ?ha; (case ha => walk_at "fl")) | (refine' flat_cons ?ha ?hb; (case ha => walk_at "fl"); (case hb => walk_at "fl")) | (refine' flat_map (fun _ => ?ha); (case ha => walk_at "fl")) | (refine' flat_app ?ha ?hb; (case ha => walk_at "fl"); (case hb => walk_at "fl")) | (refine' flat_set ?ha ?hb; (case ha => walk_at "fl"); (case hb => walk_at "fl")) | (refine' flat_cut ?ha; (case ha => walk_at "fl")) | assumption | trivial)
local macro_rules | `(tactic| walk_at "lf") => `(tactic| first | exact Or.inl rfl | (refine' Or.inr ?_; walk_at "fl"))
local macro_rules | `(tactic| walk_at "sz") => `(tactic| first | decide | assumption | omega | (simp only [List.length_map, List.length_append, List.length_cons, List.length_nil, List.length_set]; omega))
local macro_rules | `(tactic| walk_at "ix") => `(tactic| first | rfl | assumption)
local macro_rules | `(tactic| walk_at "nz") => `(tactic| first | decide | omega)
local macro_rules | `(tactic| walk_at "call") => `(tactic| assumption)
local macro_rules | `(tactic| walk_at "e") => `(tactic| first
  | exact de_int | exact de_str | exact de_bl | exact de_non | exact de_nil | exact de_dic0
  | exact de_name rfl rfl rfl
  | (refine' de_add ?ha ?hb; (case ha => walk_at "e"); (case hb => walk_at "e")) | (refine' de_sub ?ha ?hb; (case ha => walk_at "e"); (case hb => walk_at "e"))
  | (refine' de_fnR (lv := false) ?hc ?hg ?ha ?hF ?hf ?he ?hp; (case hc => with_reducible assumption); (case hg => rfl); (case he => (intro _; rfl)); (case hp => (intro _; rfl)); (case ha => walk_at "a"); (case hF => walk_at "call"); (case hf => walk_at "lf"))
  | (refine' de_fnR (lv := true) ?hc ?hg ?ha ?hF ?hf ?he ?hp; (case hc => with_reducible assumption); (case hg => rfl); (case he => (intro _; rfl)); (case hp => (intro _; rfl)); (case ha => walk_at "a"); (case hF => walk_at "call"); (case hf => walk_at "lf"))
  | (refine' de_max (glB_gl ?hg).1 ?hm ?ha ?hb ?h1 ?h2 ?h3; (case hg => rfl); (case hm => with_reducible assumption); (case h1 => (intro _; rfl)); (case h2 => (intro _; rfl)); (case h3 => (intro _; rfl)); (case ha => walk_at "e"); (case hb => walk_at "e"))
  | (refine' de_min (glB_gl ?hg).1 ?hm ?ha ?hb ?h1 ?h2 ?h3; (case hg => rfl); (case hm => with_reducible assumption); (case h1 => (intro _; rfl)); (case h2 => (intro _; rfl)); (case h3 => (intro _; rfl)); (case ha => walk_at "e"); (case hb => walk_at "e"))
  | (refine' de_abs (glB_gl ?hg).1 ?hm ?ha ?h1; (case hg => rfl); (case hm => with_reducible assumption); (case h1 => (intro _; rfl)); (case ha => walk_at "e"))
  | (refine' de_len (glB_gl ?hg).1 ?hm ?ha ?h1; (case hg => rfl); (case hm => with_reducible assumption); (case h1 => (intro _; rfl)); (case ha => walk_at "l"))
  | (refine' de_lenScr (glB_gl ?hg).1 ?hm ?ha ?h1; (case hg => rfl); (case hm => with_reducible assumption); (case h1 => (intro _; rfl)); (case ha => walk_at "l"))
  | (refine' de_lenT (glB_gl ?hg).1 ?hm ?ha ?h1; (case hg => rfl); (case hm => with_reducible assumption); (case h1 => (intro _; rfl)); (case ha => walk_at "l"))
  | (refine' de_ixScr ?ha ?hb ?hk (fun _ _ => rfl); (case ha => walk_at "l"); (case hb => walk_at "e"); (case hk => walk_at "ix"))
  | (refine' de_list (lv := true) (glB_gl ?hg).1 ?hm ?ha (Or.inl rfl) ?h1; (case hg => rfl); (case hm => with_reducible assumption); (case h1 => (intro _; rfl)); (case ha => walk_at "l"))
  | (refine' de_list (lv := false) (glB_gl ?hg).1 ?hm ?ha ?hf ?h1; (case hg => rfl); (case hm => with_reducible assumption); (case h1 => (intro _; rfl)); (case ha => walk_at "l"); (case hf => walk_at "lf"))
  | (refine' de_mul ?ha ?hb ?hc; (case ha => walk_at "e"); (case hb => walk_at "e"); (case hc => walk_at "mu")) | (refine' de_pow ?ha ?hb ?hc; (case ha => walk_at "e"); (case hb => walk_at "e"); (case hc => walk_at "nz"))
  | (refine' de_slScr ?ha ?hl ?hh; (case ha => walk_at "l"); (case hl => walk_at "o"); (case hh => walk_at "o"))
  | (refine' de_slL (lv := true) ?ha ?hl ?hh (Or.inl rfl); (case ha => walk_at "l"); (case hl => walk_at "o"); (case hh => walk_at "o"))
  | (refine' de_slL (lv := false) ?ha ?hl ?hh ?hf; (case ha => walk_at "l"); (case hl => walk_at "o"); (case hh => walk_at "o"); (case hf => walk_at "lf"))
  | (refine' de_intB (glB_gl ?hg).1 ?hm ?ha ?h1; (case hg => rfl); (case hm => with_reducible assumption); (case h1 => (intro _; rfl)); (case ha => walk_at "e"))
  | (refine' de_one ?ha; (case ha => walk_at "e"))
  | (refine' de_and ?ha (fun _ => ?hr); (case ha => walk_at "e"); (case hr => walk_at "e")) | (refine' de_or ?ha (fun _ => ?hr); (case ha => walk_at "e"); (case hr => walk_at "e"))
  | (refine' de_lt ?ha ?hb; (case ha => walk_at "e"); (case hb => walk_at "e")) | (refine' de_le ?ha ?hb; (case ha => walk_at "e"); (case hb => walk_at "e")) | (refine' de_gt ?ha ?hb; (case ha => walk_at "e"); (case hb => walk_at "e")) | (refine' de_ge ?ha ?hb; (case ha => walk_at "e"); (case hb => walk_at "e"))
  | (refine' de_eqI ?ha ?hb; (case ha => walk_at "e"); (case hb => walk_at "e")) | (refine' de_neI ?ha ?hb; (case ha => walk_at "e"); (case hb => walk_at "e")) | (refine' de_eqS ?ha ?hb; (case ha => walk_at "e"); (case hb => walk_at "e")) | (refine' de_neS ?ha ?hb; (case ha => walk_at "e"); (case hb => walk_at "e"))
  | (refine' de_isN ?ha; (case ha => walk_at "l")) | (refine' de_notN ?ha; (case ha => walk_at "l"))
  | (refine' de_not ?ha; (case ha => walk_at "e"))
  | (refine' de_neg ?ha; (case ha => walk_at "e"))
  | (refine' de_mod ?ha ?hb ?hc; (case ha => walk_at "e"); (case hb => walk_at "e"); (case hc => walk_at "nz")) | (refine' de_fdiv ?ha ?hb ?hc; (case ha => walk_at "e"); (case hb => walk_at "e"); (case hc => walk_at "nz"))
  | (refine' de_tup (lv := true) ?ha (Or.inl rfl) ?hz; (case ha => walk_at "a"); (case hz => walk_at "sz"))
  | (refine' de_tup (lv := false) ?ha ?hf ?hz; (case ha => walk_at "a"); (case hf => walk_at "lf"); (case hz => walk_at "sz"))
  | (refine' de_lst (lv := true) ?ha (Or.inl rfl) ?hz; (case ha => walk_at "a"); (case hz => walk_at "sz"))
  | (refine' de_of (lv := true) ?ha (Or.inl rfl); (case ha => walk_at "x")) | (refine' de_of (lv := false) ?ha ?hf; (case ha => walk_at "x"); (case hf => walk_at "lf"))
  | (refine' de_isi (glB_gl ?hg).1 ?hm (glB_gl ?hg2).1 ?hm2 ?hv ?hn ?hd ?ha ?he ?hk ?h1; (case hg => rfl); (case hm => with_reducible assumption); (case hg2 => rfl); (case hm2 => with_reducible assumption); (case hv => with_reducible assumption); (case hn => decide); (case hd => decide); (case h1 => (intro _; rfl)); (case ha => walk_at "l"); (case he => rfl); (case hk => (first | rfl | decide +kernel))))
local macro_rules | `(tactic| walk_at "x") => `(tactic| first
  | (refine' dl_ixT ?ha ?hb ?hk (fun _ _ => rfl); (case ha => walk_at "l"); (case hb => walk_at "e"); (case hk => walk_at "ix"))
  | (refine' dl_ixL ?ha ?hb ?hk (fun _ _ => rfl); (case ha => walk_at "l"); (case hb => walk_at "e"); (case hk => walk_at "ix")))
local macro_rules | `(tactic| walk_at "l") => `(tactic| first | walk_at "x" | (refine' dl_of ?h ?ed; (case h => walk_at "e"); (case ed => rfl)))
local macro_rules | `(tactic| walk_at "a") => `(tactic| first | exact da_nil | (refine' da_cons ?ha ?hr ?hs; (case hs => (intro _; rfl)); (case ha => walk_at "l"); (case hr => walk_at "a")))
local macro_rules | `(tactic| walk_at "t") => `(tactic| first
  | (refine' dt_lt ?ha ?hb; (case ha => walk_at "e"); (case hb => walk_at "e")) | (refine' dt_le ?ha ?hb; (case ha => walk_at "e"); (case hb => walk_at "e")) | (refine' dt_gt ?ha ?hb; (case ha => walk_at "e"); (case hb => walk_at "e")) | (refine' dt_ge ?ha ?hb; (case ha => walk_at "e"); (case hb => walk_at "e"))
  | (refine' dt_eqI ?ha ?hb; (case ha => walk_at "e"); (case hb => walk_at "e")) | (refine' dt_neI ?ha ?hb; (case ha => walk_at "e"); (case hb => walk_at "e")) | (refine' dt_eqS ?ha ?hb; (case ha => walk_at "e"); (case hb => walk_at "e")) | (refine' dt_neS ?ha ?hb; (case ha => walk_at "e"); (case hb => walk_at "e"))
  | (refine' dt_isN ?ha; (case ha => walk_at "l")) | (refine' dt_notN ?ha; (case ha => walk_at "l"))
  | (refine' dt_not ?ha; (case ha => walk_at "t"))
  | (refine' dt_w ?ha; (case ha => walk_at "w"))
  | (refine' dt_val ?ha; (case ha => walk_at "e")))
local macro_rules | `(tactic| walk_at "w") => `(tactic| first
  | (refine' dw_and1 ?ha; (case ha => walk_at "t")) | (refine' dw_or1 ?ha; (case ha => walk_at "t"))
  | (refine' dw_and ?h1 (fun _ => ?h2); (case h1 => walk_at "t"); (case h2 => walk_at "w")) | (refine' dw_or ?h1 (fun _ => ?h2); (case h1 => walk_at "t"); (case h2 => walk_at "w")))
local macro_rules | `(tactic| walk_at "let") => `(tactic| (refine' dss_cons (ds_let ?h ?hi ?hx ?hj ?hn ?hs); (case h => walk_at "e"); (case hi => rfl); (case hx => rfl); (case hj => exact of_decide_eq_true rfl); (case hs => (intro _; rfl))))
local macro_rules | `(tactic| walk_at "ret") => `(tactic| (refine' dss_one (ds_ret ?h ?hp); (case h => walk_at "e")))
local macro_rules | `(tactic| walk_at "app") => `(tactic| (refine' ds_app ?he ?hi ?hS ?hv ?hz ?hn ?hs ?hw ?hl ?hq; (case he => walk_at "l"); (case hi => rfl); (case hS => rfl); (case hv => rfl); (case hs => (intro _; rfl)); (case hw => (intro _; rfl)); (case hl => rfl); (case hq => (intro _; rfl)); (case hz => walk_at "sz")))
local macro_rules | `(tactic| walk_at "mu") => `(tactic| first | exact Or.inl (by decide) | exact Or.inr (by decide))
local macro_rules | `(tactic| walk_at "o") => `(tactic| first | exact do_none | (refine' do_some ?ha; (case ha => walk_at "e")))
local macro_rules | `(tactic| walk_at "asgT") => `(tactic| (refine' dss_cons (ds_asgT ?he ?hg ?hs ?hw ?h1); (case he => walk_at "l"); (case hs => (intro _; rfl)); (case hw => (intro _; rfl)); (case h1 => (intro _; rfl))))
local macro_rules | `(tactic| walk_at "g2") => `(tactic| (refine' dg_nm2 ?hi ?hj ?hx ?hy ?li ?lj ?hn; (case hi => rfl); (case hj => rfl); (case hx => rfl); (case hy => rfl); (case li => exact of_decide_eq_true rfl); (case lj => exact of_decide_eq_true rfl)))
local macro_rules | `(tactic| walk_at "g1") => `(tactic| (refine' dg_nm ?hi ?hx ?li ?hn; (case hi => rfl); (case hx => rfl); (case li => exact of_decide_eq_true rfl)))
local macro_rules | `(tactic| walk_at "e") => `(tactic| first
  | (refine' de_catS ?ha ?hb ?hz; (case ha => walk_at "e"); (case hb => walk_at "e"); (case hz => walk_at "sz"))
  | (refine' de_strI (glB_gl ?hg).1 ?hm ?ha ?hl ?h1; (case hg => rfl); (case hm => with_reducible assumption); (case h1 => (intro _; rfl)); (case ha => walk_at "e"); (case hl => walk_at "nz"))
  | (refine' de_lenS (glB_gl ?hg).1 ?hm ?ha ?hz ?h1; (case hg => rfl); (case hm => with_reducible assumption); (case h1 => (intro _; rfl)); (case ha => walk_at "e"); (case hz => walk_at "sz"))
  | (refine' de_ixS ?ha ?hb ?hz ?hk (fun _ _ => rfl); (case ha => walk_at "e"); (case hb => walk_at "e"); (case hz => walk_at "sz"); (case hk => walk_at "ix"))
  | (refine' de_split ?ha ?hb ?hy ?hz ?h1 ?h2 ?h3; (case ha => walk_at "e"); (case hb => walk_at "e"); (case hy => decide +kernel); (case hz => omega); (case h1 => (intro _; rfl)); (case h2 => (intro _; rfl)); (case h3 => rfl)))
/-! ## the program's defs as plain functions -/
abbrev Row := Str × Int
abbrev encRow (r : Row) : D := .tup [.str r.1, .int r.2]
abbrev encB (b : List Row) : D := .lst (b.map encRow)
abbrev encO : Option Int → D
  | none => .non
  | some i => .int i
abbrev ok (d : D) : Out := .ok (.val d)
def lenB (b : List Row) : Int := (b.map (·.2)).sum
def dryB (b : List Row) : Int := ((b.filter fun r => decide (r.1 = ("dry" : Str))).map (·.2)).sum
def lastOf (b : List Row) (e : Option Int) : Int := e.getD (lenB b)
def offB (b : List Row) (s : Int) (e : Option Int) : Bool := decide (s < 0) || (decide (lastOf b e < s) || decide (lenB b < lastOf b e))
def cutAt (s l : Int) : Int → List Row → List Row
  | _, [] => []
  | a, r :: b => (if max s a < min l (a + r.2) then [(r.1, min l (a + r.2) - max s a)] else []) ++ cutAt s l (a + r.2) b
def cutB (b : List Row) (s l : Int) : List Row := cutAt s l 0 b
theorem lenB_app (a b : List Row) : lenB (a ++ b) = lenB a + lenB b := by unfold lenB; rw [List.map_append, List.sum_append]
theorem lenB_cons (r : Row) (b : List Row) : lenB (r :: b) = r.2 + lenB b := by unfold lenB; rw [List.map_cons, List.sum_cons]
theorem cutAt_app (s l : Int) : ∀ (x : Int) (a b : List Row), cutAt s l x (a ++ b) = cutAt s l x a ++ cutAt s l (x + lenB a) b
  | x, [], b => by
    show cutAt s l x b = cutAt s l (x + 0) b
    rw [Int.add_zero]
  | x, r :: a, b => by
    show _ ++ cutAt s l (x + r.2) (a ++ b) = _
    rw [cutAt_app s l (x + r.2) a b, lenB_cons, ← List.append_assoc, Int.add_assoc]; rfl
theorem cutAt_len (s l : Int) : ∀ (x : Int) (a : List Row), (cutAt s l x a).length ≤ a.length
  | _, [] => Nat.le_refl _
  | x, r :: a => by
    have q := cutAt_len s l (x + r.2) a
    show (_ ++ cutAt s l (x + r.2) a).length ≤ a.length + 1
    rw [List.length_append]
    split <;> simp <;> omega
theorem take_snoc {α : Type} {l : List α} {i : Nat} {x : α} (h : l[i]? = some x) : l.take (i + 1) = l.take i ++ [x] := by
  rw [List.take_add_one, h]; rfl
theorem map_get {α β : Type} {f : α → β} {l : List α} {i : Nat} {y : β} (h : (l.map f)[i]? = some y) : ∃ x, l[i]? = some x ∧ y = f x := by
  rw [List.getElem?_map] at h
  cases e : l[i]? with
  | none => rw [e] at h; cases h
  | some x => rw [e] at h; cases h; exact ⟨x, rfl, rfl⟩
def F_length (ds : List D) (o : Out) : Prop := ∃ b : List Row, ds = [encB b] ∧ b.length ≤ 100000 ∧ o = ok (.int (lenB b))
def F_ground_of (ds : List D) (o : Out) : Prop := ∃ b : List Row, ds = [encB b] ∧ b.length ≤ 100000 ∧ o = ok (.tup [.int (dryB b), .int (lenB b - dryB b)])
def F_end_on (AO : Addr) (ds : List D) (o : Out) : Prop := ∃ (b : List Row) (s : Int) (e : Option Int), ds = [encB b, .int s, encO e] ∧ b.length ≤ 100000 ∧ o = if offB b s e = true then .error ⟨AO, none⟩ else ok (.int (lastOf b e))
def F_cut_out (AO : Addr) (ds : List D) (o : Out) : Prop := ∃ (b : List Row) (s : Int) (e : Option Int), ds = [encB b, .int s, encO e] ∧ b.length ≤ 100000 ∧ o = if offB b s e = true then .error ⟨AO, none⟩ else .ok (.own ((cutB b s (lastOf b e)).map encRow))
def grB (b : List Row) : D := .tup [.int (dryB b), .int (lenB b - dryB b)]
def F_between (AO : Addr) (ds : List D) (o : Out) : Prop := ∃ (b : List Row) (s : Int) (e : Option Int), ds = [encB b, .int s, encO e] ∧ b.length ≤ 100000 ∧ o = if offB b s e = true then .error ⟨AO, none⟩ else ok (grB (cutB b s (lastOf b e)))
/-- the built-ins that nobody has taken -/
structure Nn (M : Mo) : Prop where
  sum : M.mg "sum" = none
  max : M.mg "max" = none
  min : M.mg "min" = none
  len : M.mg "len" = none
  isinstance : M.mg "isinstance" = none
  int : M.mg "int" = none
  bool : M.mg "bool" = none
  tuple : M.mg "tuple" = none
  list : M.mg "list" = none
  range : M.mg "range" = none
section
variable {M : Mo} {f : Addr} {fd : FuncData}
end
/-! ## the law's helpers -/
def cellM (ns : List Int) (k : Int) : Int := ns.getD k.toNat 0
def F_cell (ds : List D) (o : Out) : Prop := ∃ (ns : List Int) (k : Int), ds = [.scr ns, .int k] ∧ 0 ≤ k ∧ ns.length ≤ 1000 ∧ o = ok (.int (cellM ns k))
theorem atI_nat' {α : Type} {xs : List α} {k : Int} {x : α} (h0 : 0 ≤ k) (h : xs[k.toNat]? = some x) : atI xs k = some x := by
  have hlt := (List.getElem?_eq_some_iff.mp h).1
  unfold atI ixN
  rw [if_pos h0, if_pos (by omega)]
  exact h
def F_whole (ds : List D) (o : Out) : Prop := ∃ (i : Int), ds = [.int i] ∧ o = ok (.bl true)
def gr (k : Int) : Str := if k % 2 = 0 then "dry" else "wet"
def bnd (c : Int) : Int := if c % 4 = 0 then 3 else if c % 4 = 1 then 12 else if c % 4 = 2 then 10 ^ (18 : Int).toNat else 10 ^ (59 : Int).toNat
theorem bnd_pos (c : Int) : 0 < bnd c := by unfold bnd; split; decide; split; decide; split <;> decide +kernel
theorem atI_gr (k : Int) : atI [D.str "dry", D.str "wet"] (k % 2) = some (.str (gr k)) := by
  have h : k % 2 = 0 ∨ k % 2 = 1 := by omega
  unfold gr
  rcases h with h | h
  · rw [h]; rfl
  · rw [h]; rfl
theorem atI_bnd (c : Int) : atI [D.int 3, D.int 12, D.int (10 ^ (18 : Int).toNat), D.int (10 ^ (59 : Int).toNat)] (c % 4) = some (.int (bnd c)) := by
  have h : c % 4 = 0 ∨ c % 4 = 1 ∨ c % 4 = 2 ∨ c % 4 = 3 := by omega
  unfold bnd
  rcases h with h | h | h | h <;> rw [h] <;> rfl
def rowM (ns : List Int) (i : Nat) : Row := (gr ((i : Int) + cellM ns 1), 1 + (cutG ns (some 2) (some 62)).getD (3 * i) 0 % bnd (cellM ns 0))
def bankN (ns : List Int) : Nat := ((((cutG ns (some 2) (some 62)).length : Nat) + 2 : Int) / 3).toNat
def bankM (ns : List Int) : List Row := (List.range (bankN ns)).map (rowM ns)
def F_bank (ds : List D) (o : Out) : Prop := ∃ (ns : List Int), ds = [.scr ns] ∧ ns.length ≤ 1000 ∧ o = .ok (.own ((bankM ns).map encRow))
theorem bankN_le (ns : List Int) (h : ns.length ≤ 1000) : bankN ns ≤ 400 := by
  have := cutG_len ns (some 2) (some 62)
  unfold bankN; omega
section
variable {M : Mo} {f : Addr} {fd : FuncData}
theorem ok_law_cell_at (T : Nn M) (F : Fun M.K "_law_cell_at" "_law_cell_at" s_law_cell_at f fd) : FnOk M.P M.w M.K M.mg M.base (L2.CX M.P M.w) (M.k + 1) f fd ["_law_script", "_law_k"] (spOf M.K F_cell) := by
  obtain ⟨_, _, _, n_len, _⟩ := T
  refine fn_data F sc_law_cell_at (fun ds o ⟨ns, k, h, _⟩ => by rw [h]; rfl) (fun ds o ⟨ns, k, h1, hk, hl, h2⟩ => ?_)
  subst h1 h2
  refine' dss_cons (ds_if (x := decide (k < (ns.length : Nat))) ?_ (fun hx => dss_one (ds_ret (r := .val (.int (cellM ns k))) ?_ rfl)) (fun hx => dss_nil ?_))
  · walk_at "t"
  · have hlt := of_decide_eq_true hx
    have hi : atI ns k = some (cellM ns k) := by
      refine atI_nat' hk ?_
      unfold cellM
      rw [List.getD_eq_getElem?_getD, List.getElem?_eq_getElem (by omega)]; rfl
    walk_at "e"
  · have hlt := of_decide_eq_false hx
    have e : cellM ns k = 0 := by
      unfold cellM
      rw [List.getD_eq_getElem?_getD, List.getElem?_eq_none (by omega)]; rfl
    rw [e]
    walk_at "ret"
    rfl
theorem ok_law_whole (T : Nn M) (F : Fun M.K "_law_whole" "_law_whole" s_law_whole f fd) : FnOk M.P M.w M.K M.mg M.base (L2.CX M.P M.w) (M.k + 1) f fd ["_law_found"] (spOf M.K F_whole) := by
  obtain ⟨_, _, _, _, n_isi, n_int, n_bool, _⟩ := T
  have b1 := boot_int
  have b2 : bootBuiltins "bool" = some (.type "bool") := PyProof.Rows.Boot.«bool»
  refine fn_data F sc_law_whole (fun ds o ⟨i, h, _⟩ => by rw [h]; rfl) (fun ds o ⟨i, h1, h2⟩ => ?_)
  subst h1 h2
  walk_at "ret"
  rfl
end
/-! ## tidy and rest -/
def layM (b : List Row) (g : Str) (n : Int) : List Row := if n = 0 then b else match b.getLast? with
  | some r => if r.1 = g then b.dropLast ++ [(g, n + r.2)] else b ++ [(g, n)]
  | none => b ++ [(g, n)]
def tidyM (rows : List Row) : List Row := rows.foldl (fun b r => layM b r.1 r.2) []
def okG (g : Str) : Prop := g = ("dry" : Str) ∨ g = ("wet" : Str)
def F_lay (ds as ds' : List D) : Prop := ∃ (b : List Row) (g : Str) (n : Int), ds = b.map encRow ∧ as = [.str g, .int n] ∧ b.length ≤ 900000 ∧ ds' = (layM b g n).map encRow
def F_isw (ds : List D) (o : Out) : Prop := ∃ i : Int, ds = [.int i] ∧ o = ok (.bl true)
def F_tidy (ds : List D) (o : Out) : Prop := ∃ rows : List Row, ds = [encB rows] ∧ rows.length ≤ 100000 ∧ (∀ r ∈ rows, okG r.1 ∧ 0 ≤ r.2) ∧ o = .ok (.own ((tidyM rows).map encRow))
def restB (b : List Row) (s l : Int) : List Row := tidyM (cutB b 0 s ++ cutB b l (lenB b))
def F_rest (AO : Addr) (ds : List D) (o : Out) : Prop := ∃ (b : List Row) (s : Int) (e : Option Int), ds = [encB b, .int s, encO e] ∧ b.length ≤ 10000 ∧ (∀ r ∈ b, okG r.1) ∧ o = if offB b s e = true then .error ⟨AO, none⟩ else .ok (.own ((restB b s (lastOf b e)).map encRow))
theorem layM_len (b : List Row) (g : Str) (n : Int) : (layM b g n).length ≤ b.length + 1 := by
  unfold layM
  split
  · omega
  · split
    · split
      · simp
      · simp
    · simp
theorem tidyM_snoc (rows : List Row) (r : Row) : tidyM (rows ++ [r]) = layM (tidyM rows) r.1 r.2 := by unfold tidyM; rw [List.foldl_append]; rfl
theorem foldl_len : ∀ (rows b : List Row), (rows.foldl (fun b r => layM b r.1 r.2) b).length ≤ b.length + rows.length
  | [], b => Nat.le_refl _
  | r :: rows, b => by
    have h := foldl_len rows (layM b r.1 r.2)
    have h2 := layM_len b r.1 r.2
    rw [List.foldl_cons, List.length_cons]; omega
theorem tidyM_len (rows : List Row) : (tidyM rows).length ≤ rows.length := by have := foldl_len rows []; rw [List.length_nil, Nat.zero_add] at this; exact this
theorem flat_rows (b : List Row) : ∀ d ∈ b.map encRow, Flat d := by
  intro d hd
  obtain ⟨r, _, rfl⟩ := List.mem_map.mp hd
  walk_at "fl"
theorem cutAt_mem (s l : Int) : ∀ (x : Int) (b : List Row) (r : Row), r ∈ cutAt s l x b → (∃ q ∈ b, q.1 = r.1) ∧ 0 < r.2
  | _, [], r, h => by cases h
  | x, q :: b, r, h => by
    rcases List.mem_append.mp (show r ∈ (if max s x < min l (x + q.2) then [(q.1, min l (x + q.2) - max s x)] else []) ++ cutAt s l (x + q.2) b from h) with h | h
    · split at h
      · rcases List.mem_singleton.mp h with rfl
        exact ⟨⟨q, .head _, rfl⟩, by show 0 < _ - _; omega⟩
      · cases h
    · obtain ⟨⟨p, hp, e⟩, h2⟩ := cutAt_mem s l _ b r h
      exact ⟨⟨p, .tail _ hp, e⟩, h2⟩
theorem inV_okG {g : Str} (h : okG g) : (!inV (.str g) [V.str "dry", V.str "wet"]) = false := by
  rcases h with rfl | rfl
  · decide +kernel
  · decide +kernel
section
variable {M : Mo} {f : Addr} {fd : FuncData}
theorem ok_lay (T : Nn M) (F : Fun M.K "lay" "lay" s_lay f fd) : FnOk M.P M.w M.K M.mg M.base (L2.CX M.P M.w) (M.k + 1) f fd ["bank", "ground", "long"] (spJ M.K F_lay) := by
  obtain ⟨_, _, _, n_len, _⟩ := T
  refine fn_own F sc_lay (fun ds as ds' ⟨b, g, n, _, h, _⟩ => by rw [h]; rfl) (fun ds as ds' ⟨b, g, n, _, _, _, h⟩ => by rw [h]; exact flat_rows _) (fun l ds as ds' ⟨b, g, n, h1, h2, hl, h3⟩ => ?_)
  subst h1 h2 h3
  refine' dj_if (x := decide (n = 0)) ?_ (fun hx => dj_ret ?_) (fun hx => dj_nil ?_)
  · walk_at "t"
  · unfold layM; rw [if_pos (of_decide_eq_true hx)]; rfl
  have hn := of_decide_eq_false hx
  rcases List.eq_nil_or_concat b with rfl | ⟨b', r, rfl⟩
  · refine' dj_if (x := false) ?_ (fun hx => nomatch hx) (fun _ => dj_nil ?_)
    · refine' dt_w (dw_and (x := false) (y := true) ?hw (fun h => nomatch h))
      case hw =>
        refine' dt_cast (x := decide (((((([] : List Row).map encRow).length : Nat) : Int)) > 0)) ?ht ?hx
        case ht => walk_at "t"
        case hx => decide
    · refine' dj_app rfl rfl ?he rfl (by decide) (dj_nil ?hq)
      case he => walk_at "l"
      case hq => unfold layM; rw [if_neg hn]; rfl
  · rw [List.concat_eq_append] at hl ⊢
    have hlast : atI ((b' ++ [r]).map encRow) (-1) = some (encRow r) := by
      rw [List.map_append]
      have e : ixN (b'.map encRow ++ [encRow r]).length (-1) = some (b'.map encRow).length := by
        unfold ixN
        rw [List.length_append, List.length_singleton, if_neg (by omega), if_pos (by omega)]
        congr 1; omega
      unfold atI
      show (ixN (b'.map encRow ++ [encRow r]).length (-1)).bind _ = _
      rw [e]
      show (b'.map encRow ++ [encRow r])[(b'.map encRow).length]? = _
      rw [List.getElem?_append_right (Nat.le_refl _), Nat.sub_self]; rfl
    have hz : ((b' ++ [r]).map encRow).length ≤ 1000000 := by rw [List.length_map]; omega
    have hz' : (b'.map encRow).length ≤ 1000000 := by rw [List.length_map]; rw [List.length_append] at hl; omega
    have h0 : decide (((((b' ++ [r]).map encRow).length : Nat) : Int) > 0) = true := by rw [List.length_map, List.length_append, List.length_singleton]; exact decide_eq_true (by omega)
    refine' dj_if (x := decide (((((b' ++ [r]).map encRow).length : Nat) : Int) > 0) && decide (r.1 = g)) ?_ (fun hx => ?_) (fun hx => dj_nil ?_)
    · walk_at "t"
    · rw [h0, Bool.true_and] at hx
      refine' dj_pop (ds := b'.map encRow) (d := encRow r) rfl (by rw [List.map_append]; rfl) rfl rfl rfl (of_decide_eq_true rfl) (by decide) ?_
      refine' dj_let (d := .int (n + r.2)) ?_ rfl rfl (of_decide_eq_true rfl) (by decide) (dj_nil ?_)
      · walk_at "e"
      · refine' dj_app (ds := b'.map encRow) rfl rfl ?he rfl hz' (dj_nil ?hq)
        case he => walk_at "l"
        case hq =>
          unfold layM
          rw [if_neg hn, List.getLast?_append, List.getLast?_singleton]
          show _ = some (Slot.own ((if r.1 = g then (b' ++ [r]).dropLast ++ [(g, n + r.2)] else _).map encRow))
          rw [if_pos (of_decide_eq_true hx), List.dropLast_concat, List.map_append (l₁ := b') (l₂ := [(g, n + r.2)])]; rfl
    · rw [h0, Bool.true_and] at hx
      refine' dj_app rfl rfl ?he rfl hz (dj_nil ?hq)
      case he => walk_at "l"
      case hq =>
        unfold layM
        rw [if_neg hn, List.getLast?_append, List.getLast?_singleton]
        show _ = some (Slot.own ((if r.1 = g then _ else (b' ++ [r]) ++ [(g, n)]).map encRow))
        rw [if_neg (of_decide_eq_false hx), List.map_append (l₁ := b' ++ [r])]; rfl
theorem ok_is_whole (T : Nn M) (F : Fun M.K "is_whole" "is_whole" s_is_whole f fd) : FnOk M.P M.w M.K M.mg M.base (L2.CX M.P M.w) (M.k + 1) f fd ["thing"] (spOf M.K F_isw) := by
  obtain ⟨_, _, _, _, n_isi, n_int, n_bool, _⟩ := T
  have b1 := boot_int
  have b2 : bootBuiltins "bool" = some (.type "bool") := PyProof.Rows.Boot.«bool»
  refine fn_data F sc_is_whole (fun ds o ⟨i, h, _⟩ => by rw [h]; rfl) (fun ds o ⟨i, h1, h2⟩ => ?_)
  subst h1 h2
  walk_at "ret"
  rfl
theorem ok_tidy {AG : Addr} (n_enum : M.mg "enumerate" = none) (gG : M.mg "GROUNDS" = some (.ref AG)) (tG : SqT M.K (fun _ => none) AG [V.str "dry", V.str "wet"]) (c1 : Cal M "is_whole" F_isw) (c2 : CalJ M "lay" F_lay) (F : Fun M.K "tidy" "tidy" s_tidy f fd) : FnOk M.P M.w M.K M.mg M.base (L2.CX M.P M.w) (M.k + 1) f fd ["rows"] (spOf M.K F_tidy) := by
  refine fn_data F sc_tidy (fun ds o ⟨b, h, _⟩ => by rw [h]; rfl) (fun ds o ⟨b, h1, hl, hok, h2⟩ => ?_)
  subst h1 h2
  walk_at "let"
  refine' dss_cons (ds_for' (fun i S' => ∃ p q, S' = [.val (encB b), .own ((tidyM (b.take i)).map encRow), p, q]) rfl (dit_enum (ds := b.map encRow) (glB_gl rfl).1 n_enum ?_) ?_ (fun i d S' hd hI => ?_) (fun S' hI => ?_) (fun _ _ => rfl))
  · walk_at "l"
  · exact ⟨_, _, rfl⟩
  · obtain ⟨p, q, rfl⟩ := hI
    rw [List.getElem?_map, List.getElem?_zipIdx] at hd
    obtain ⟨y, hy, rfl⟩ := Option.map_eq_some_iff.mp hd
    obtain ⟨y', hy', rfl⟩ := Option.map_eq_some_iff.mp hy
    obtain ⟨r, hr, rfl⟩ := map_get hy'
    obtain ⟨hg, h0⟩ := hok r (List.mem_of_getElem? hr)
    have hw : F_isw [.int r.2] (ok (.bl true)) := ⟨_, rfl, rfl⟩
    have e1 := tidyM_snoc (b.take i) r
    rw [← take_snoc hr] at e1
    walk_at "g2"
    refine' dss_cons (ds_ifF (dt_notInK (d := .str r.1) (v := .str r.1) rfl ?ha ?hb (inV_okG hg) rfl) rfl (dss_nil ?_))
    case ha => walk_at "l"
    case hb => exact dl_of (r := .val (.ktup [V.str "dry", V.str "wet"])) (de_glob (glB_gl rfl).1 gG tG rfl rfl) rfl
    refine' dss_cons (ds_ifF (x := !true || decide (r.2 < 0)) ?ht ?hx (dss_nil ?_))
    case ht => walk_at "t"
    case hx => rw [decide_eq_false (by omega)]; rfl
    have hlay : F_lay ((tidyM (b.take i)).map encRow) [.str r.1, .int r.2] ((layM (tidyM (b.take i)) r.1 r.2).map encRow) := ⟨_, _, _, rfl, rfl, by
      have := tidyM_len (b.take i)
      rw [List.length_take] at this
      omega, rfl⟩
    refine' dss_one (ds_callJ c2 rfl rfl rfl rfl ?ha hlay (flat_rows _) ?hn)
    case ha => walk_at "a"
    dsimp only
    rw [e1]
    exact ⟨_, _, rfl⟩
  · obtain ⟨p, q, rfl⟩ := hI
    rw [List.length_map, List.length_zipIdx, List.length_map, List.take_length]
    exact dss_one (ds_retO1 rfl rfl rfl rfl)
end
/-! ## the law's own tidy -/
def GoodR (rows : List Row) : Prop := ∀ r ∈ rows, okG r.1 ∧ 0 ≤ r.2
def F_due (ds : List D) (o : Out) : Prop := ∃ rows : List Row, ds = [encB rows] ∧ rows.length ≤ 200000 ∧ GoodR rows ∧ o = .ok (.own ((tidyM rows).map encRow))
def F_lbank (ds : List D) (o : Out) : Prop := ∃ b : List Row, ds = [encB b, encB b] ∧ b.length ≤ 200000 ∧ (∀ r ∈ b, okG r.1) ∧ o = ok (.bl true)
theorem pl_row {r : Row} (h : PyData.strOk r.1 = true) : Pl 1 (encRow r) := .tup fun d hd => by
  rcases List.mem_cons.mp hd with rfl | hd
  · exact .str h
  · rcases List.mem_cons.mp hd with rfl | hd
    · exact .int _
    · cases hd
theorem okG_str {g : Str} (h : okG g) : PyData.strOk g = true := by rcases h with rfl | rfl <;> decide +kernel
theorem pl_bank {b : List Row} (h : ∀ r ∈ b, okG r.1) : Pl 2 (encB b) := .lst fun d hd => by
  obtain ⟨r, hr, rfl⟩ := List.mem_map.mp hd
  exact pl_row (okG_str (h r hr))
theorem last_at (b : List Row) (q : Row) : atI ((b ++ [q]).map encRow) (-1) = some (encRow q) := by
  rw [List.map_append]
  have e : ixN (b.map encRow ++ [encRow q]).length (-1) = some (b.map encRow).length := by
    unfold ixN
    rw [List.length_append, List.length_singleton, if_neg (by omega), if_pos (by omega)]
    congr 1; omega
  unfold atI
  show (ixN (b.map encRow ++ [encRow q]).length (-1)).bind _ = _
  rw [e]
  show (b.map encRow ++ [encRow q])[(b.map encRow).length]? = _
  rw [List.getElem?_append_right (Nat.le_refl _), Nat.sub_self]; rfl
theorem last_ix (b : List Row) (q : Row) : ixN ((b ++ [q]).map encRow).length (-1) = some b.length := by
  unfold ixN
  rw [List.length_map, List.length_append, List.length_singleton, if_neg (by omega), if_pos (by omega)]
  congr 1; omega
theorem set_last (b : List Row) (q x : Row) : ((b ++ [q]).map encRow).set b.length (encRow x) = (b ++ [x]).map encRow := by
  rw [List.map_append, List.map_append, List.set_append_right _ _ (by rw [List.length_map]; exact Nat.le_refl _), List.length_map, Nat.sub_self]; rfl
theorem fold_layM {p : Row → Prop} : ∀ (rows acc : List Row), (∀ r ∈ rows, okG r.1) → (∀ r ∈ acc, okG r.1) → ∀ r ∈ rows.foldl (fun b r => layM b r.1 r.2) acc, okG r.1
  | [], acc, _, h => h
  | r :: rows, acc, h1, h => by
    rw [List.foldl_cons]
    refine fold_layM (p := p) rows _ (fun q hq => h1 q (.tail _ hq)) ?_
    have hr := h1 r (.head _)
    unfold layM
    split
    · exact h
    · have q : ∀ x ∈ acc ++ [(r.1, r.2)], okG x.1 := fun x hx => by
        rcases List.mem_append.mp hx with hx | hx
        · exact h x hx
        · rw [List.mem_singleton.mp hx]; exact hr
      split
      · split
        · intro x hx
          rcases List.mem_append.mp hx with hx | hx
          · exact h x (List.dropLast_subset _ hx)
          · rw [List.mem_singleton.mp hx]; exact hr
        · exact q
      · exact q
theorem tidyM_okG (rows : List Row) (h : ∀ r ∈ rows, okG r.1) : ∀ r ∈ tidyM rows, okG r.1 := fold_layM (p := fun _ => True) rows [] h fun _ h => by cases h
section
variable {M : Mo} {f : Addr} {fd : FuncData}
theorem ok_law_tidy (F : Fun M.K "_law_tidy" "_law_tidy" s_law_tidy f fd) : FnOk M.P M.w M.K M.mg M.base (L2.CX M.P M.w) (M.k + 1) f fd ["_law_rows"] (spOf M.K F_due) := by
  refine fn_data F sc_law_tidy (fun ds o ⟨b, h, _⟩ => by rw [h]; rfl) (fun ds o ⟨b, h1, hl, hnn, h2⟩ => ?_)
  subst h1 h2
  walk_at "let"
  refine' dss_cons (ds_for' (items := b.map encRow) (fun i S' => ∃ p q, S' = [.val (encB b), .own ((tidyM (b.take i)).map encRow), p, q]) rfl (dit_list ?_) ?_ (fun i d S' hd hI => ?_) (fun S' hI => ?_) (fun _ _ => rfl))
  · walk_at "l"
  · exact ⟨_, _, rfl⟩
  · obtain ⟨p, q, rfl⟩ := hI
    obtain ⟨r, hr, rfl⟩ := map_get hd
    have h0 := (hnn r (List.mem_of_getElem? hr)).2
    have hacc := tidyM_okG (b.take i) fun q hq => (hnn q (List.mem_of_mem_take hq)).1
    have e1 := tidyM_snoc (b.take i) r
    rw [← take_snoc hr] at e1
    have hz : ((tidyM (b.take i)).map encRow).length ≤ 1000000 := by
      rw [List.length_map]
      have := tidyM_len (b.take i)
      rw [List.length_take] at this; omega
    rw [e1]
    generalize tidyM (b.take i) = acc at *
    walk_at "g2"
    by_cases hn : r.2 = 0
    · have eL : layM acc r.1 r.2 = acc := by unfold layM; rw [if_pos hn]
      rw [eL]
      refine' dss_one (ds_ifF (x := false) (dt_cast (x := decide (r.2 > 0) && true) (dt_w (dw_and (x := decide (r.2 > 0)) (y := true) ?ha ?hb)) ?hc) rfl (dss_one (ds_ifF (x := decide (r.2 > 0)) ?hd (decide_eq_false (by omega)) (dss_nil ?he))))
      case ha => walk_at "t"
      case hb => intro h; rw [decide_eq_false (by omega)] at h; cases h
      case hc => rw [decide_eq_false (by omega)]; rfl
      case hd => walk_at "t"
      case he => exact ⟨_, _, rfl⟩
    · have hpos : decide (r.2 > 0) = true := decide_eq_true (by omega)
      rcases List.eq_nil_or_concat acc with rfl | ⟨b', t, rfl⟩
      · have eL : layM [] r.1 r.2 = [(r.1, r.2)] := by unfold layM; rw [if_neg hn]; rfl
        rw [eL]
        refine' dss_one (ds_ifF (x := decide (r.2 > 0) && (false && true)) (dt_w (dw_and (x := decide (r.2 > 0)) (y := false && true) ?ha (fun _ => dw_and (x := false) (y := true) ?hb (fun h => nomatch h)))) (by rw [hpos]; rfl) (dss_one (ds_ifT (x := decide (r.2 > 0)) ?hd hpos (dss_one ?he))))
        case ha => walk_at "t"
        case hb => exact dt_neNil (ds := []) 1 (by walk_at "l") (by walk_at "l") (.lst fun _ h => by cases h) (by decide)
        case hd => walk_at "t"
        case he =>
          walk_at "app"
          exact ⟨_, _, rfl⟩
      · rw [List.concat_eq_append] at hz hacc ⊢
        have hla := last_at b' t
        have hne : (!((b' ++ [t]).map encRow).isEmpty) = true := by simp
        refine' dss_one (ds_if (x := decide (r.2 > 0) && (true && decide (t.1 = r.1))) (dt_w (dw_and (x := decide (r.2 > 0)) ?ha (fun _ => dw_and (x := true) ?hb (fun _ => dw_and1 ?hc)))) (fun hx => dss_one ?g1) (fun hx => dss_one ?g2))
        case ha => walk_at "t"
        case hb => exact dt_cast (dt_neNil 1 (by walk_at "l") (by walk_at "l") (pl_bank hacc) (by decide)) hne
        case hc => walk_at "t"
        case g1 =>
          rw [hpos, Bool.true_and, Bool.true_and] at hx
          have eL : layM (b' ++ [t]) r.1 r.2 = b' ++ [(r.1, t.2 + r.2)] := by
            unfold layM
            rw [if_neg hn, List.getLast?_append, List.getLast?_singleton]
            show (if t.1 = r.1 then (b' ++ [t]).dropLast ++ [(r.1, r.2 + t.2)] else _) = _
            rw [if_pos (of_decide_eq_true hx), List.dropLast_concat, Int.add_comm]
          rw [eL]
          refine' ds_setI (d := encRow (r.1, t.2 + r.2)) ?he2 ?hi2 (last_ix b' t) rfl rfl rfl ?h2 ?h3 ?h4 ?h5
          case he2 => walk_at "l"
          case hi2 => walk_at "e"
          case h3 => intro _; rfl
          case h4 => intro _; rfl
          case h5 => intro _ _; rfl
          dsimp only
          rw [set_last]
          exact ⟨_, _, rfl⟩
        case g2 =>
          rw [hpos, Bool.true_and, Bool.true_and] at hx
          have eL : layM (b' ++ [t]) r.1 r.2 = (b' ++ [t]) ++ [(r.1, r.2)] := by
            unfold layM
            rw [if_neg hn, List.getLast?_append, List.getLast?_singleton]
            show (if t.1 = r.1 then _ else (b' ++ [t]) ++ [(r.1, r.2)]) = _
            rw [if_neg (of_decide_eq_false hx)]
          rw [eL]
          refine' ds_ifT (x := decide (r.2 > 0)) ?hd hpos (dss_one ?he)
          case hd => walk_at "t"
          case he =>
            walk_at "app"
            dsimp only
            rw [List.map_append (l₁ := b' ++ [t])]
            exact ⟨_, _, rfl⟩
  · obtain ⟨p, q, rfl⟩ := hI
    rw [List.length_map, List.take_length]
    exact dss_one (ds_retO1 rfl rfl rfl rfl)
end
/-! ## texts: plain law -/
abbrev tlS (x : Str) : List Nat := TL.tl x
def figs : List Nat := [48, 49, 50, 51, 52, 53, 54, 55, 56, 57]
theorem figs_eq : ("0123456789" : Str).cps.toList = figs := by decide +kernel
theorem mem_figs {c : Nat} : c ∈ figs ↔ 48 ≤ c ∧ c ≤ 57 := by
  unfold figs
  simp only [List.mem_cons, List.not_mem_nil, or_false]
  omega
def allF (l : List Nat) : Bool := l.all fun c => decide (c ∈ figs)
def valM (w : Str) : Int := (PySem.intText? w).getD 0
def numM (w : Str) : Option Int := if w.length < 1 ∨ 60 < w.length then none else if (tlS w)[0]? = some 48 ∧ 1 < w.length then none else if allF (tlS w) = true then some (valM w) else none
theorem val_ok {w : Str} (h1 : 1 ≤ w.length) (h2 : w.length ≤ 60) (h3 : allF (tlS w) = true) : PySem.intText? w = some (valM w) ∧ 0 ≤ valM w := by
  have hd : NumText.AllDigits w.cps.toList := fun c hc => by
    have := of_decide_eq_true (List.all_eq_true.mp h3 c hc)
    exact mem_figs.mp this
  have hn : w.cps.toList ≠ [] := fun e => by
    have : w.length = 0 := by rw [TL.len_tl, show TL.tl w = [] from e]; rfl
    omega
  have e := intText_digits hd hn (by omega)
  unfold valM
  rw [e]
  exact ⟨rfl, by show (0 : Int) ≤ ((_ : Nat) : Int); omega⟩
theorem numM_nn {w : Str} {n : Int} (h : numM w = some n) : 0 ≤ n := by
  unfold numM at h
  split at h
  · cases h
  · split at h
    · cases h
    · split at h
      · cases h; exact (val_ok (by omega) (by omega) (by assumption)).2
      · cases h
def strM (p : Str) : Option Row := match Txt.split p " " with
  | [g, w] => if g = "dry" ∨ g = "wet" then (numM w).map fun n => (g, n) else none
  | _ => none
theorem strM_ok {p : Str} {r : Row} (h : strM p = some r) : okG r.1 ∧ 0 ≤ r.2 := by
  unfold strM at h
  split at h
  · split at h
    · rename_i hg
      obtain ⟨n, hn, rfl⟩ := Option.map_eq_some_iff.mp h
      exact ⟨hg, numM_nn hn⟩
    · cases h
  · cases h
def scan : List Str → List Row → Nat ⊕ List Row
  | [], acc => .inr acc
  | p :: ps, acc => match strM p with
    | none => .inl acc.length
    | some r => scan ps (acc ++ [r])
def readM (t : Str) : Nat ⊕ List Row := if t = "" then .inr [] else scan (Txt.split t ", ") []
theorem scan_good : ∀ (ps : List Str) (acc rows : List Row), GoodR acc → scan ps acc = .inr rows → GoodR rows
  | [], acc, rows, h, e => by cases e; exact h
  | p :: ps, acc, rows, h, e => by
    unfold scan at e
    split at e
    · cases e
    · rename_i r hr
      refine scan_good ps _ rows (fun q hq => ?_) e
      rcases List.mem_append.mp hq with hq | hq
      · exact h q hq
      · rw [List.mem_singleton.mp hq]; exact strM_ok hr
theorem read_good {t : Str} {rows : List Row} (h : readM t = .inr rows) : GoodR rows := by
  unfold readM at h
  split at h
  · cases h; exact fun r hr => by cases hr
  · exact scan_good _ _ _ (fun r hr => by cases hr) h
theorem scan_len : ∀ (ps : List Str) (acc rows : List Row), scan ps acc = .inr rows → rows.length ≤ acc.length + ps.length
  | [], acc, rows, e => by cases e; exact Nat.le_refl _
  | p :: ps, acc, rows, e => by
    unfold scan at e
    split at e
    · cases e
    · have := scan_len ps _ rows e
      rw [List.length_append, List.length_singleton] at this
      rw [List.length_cons]; omega
/-! the sizes of parts -/
theorem spl_size {S : List Nat} : ∀ (l : List Nat) (k : Nat) (acc q : List Nat), q ∈ TL.spl S k acc l → q.length ≤ acc.length + l.length
  | [], k, acc, q, h => by
    have e : TL.spl S k acc [] = [acc] := TL.spl_nil ..
    rw [e] at h
    rw [List.mem_singleton.mp h]; exact Nat.le_refl _
  | c :: r, 0, acc, q, h => by
    unfold TL.spl at h
    split at h
    · rcases List.mem_cons.mp h with rfl | h
      · omega
      · have := spl_size r _ _ q h
        rw [List.length_nil] at this
        rw [List.length_cons]; omega
    · have := spl_size r _ _ q h
      rw [List.length_append, List.length_singleton] at this
      rw [List.length_cons]; omega
  | c :: r, k + 1, acc, q, h => by
    unfold TL.spl at h
    have := spl_size r _ _ q h
    rw [List.length_cons]; omega
theorem spl_many {S : List Nat} : ∀ (l : List Nat) (k : Nat) (acc : List Nat), (TL.spl S k acc l).length ≤ 1 + l.length
  | [], k, acc => by
    have e : TL.spl S k acc [] = [acc] := TL.spl_nil ..
    rw [e]; exact Nat.le_refl _
  | c :: r, 0, acc => by
    unfold TL.spl
    split
    · have := spl_many (S := S) r (S.length - 1) []
      rw [List.length_cons, List.length_cons]; omega
    · have := spl_many (S := S) r 0 (acc ++ [c])
      rw [List.length_cons]; omega
  | c :: r, k + 1, acc => by
    unfold TL.spl
    have := spl_many (S := S) r k acc
    rw [List.length_cons]; omega
theorem split_size {t y : Str} (hy : TL.tl y ≠ []) (hk : y.cps.all (· < 256) = true) : (∀ p ∈ Txt.split t y, p.length ≤ t.length) ∧ (Txt.split t y).length ≤ t.length + 1 := by
  have e := TL.split_spl t y hy (TL.kind_ok hk)
  refine ⟨fun p hp => ?_, ?_⟩
  · have hm : TL.tl p ∈ TL.spl (TL.tl y) 0 [] (TL.tl t) := by rw [← e]; exact List.mem_map_of_mem hp
    have := spl_size _ _ _ _ hm
    rw [TL.len_tl, TL.len_tl]
    rw [List.length_nil] at this; omega
  · have := spl_many (S := TL.tl y) (TL.tl t) 0 []
    rw [← e, List.length_map] at this
    rw [TL.len_tl]; omega
theorem sep_cb : TL.tl (", " : Str) = [44, 32] := by decide +kernel
theorem sep_b : TL.tl (" " : Str) = [32] := by decide +kernel
theorem split_cb (t : Str) : (∀ p ∈ Txt.split t ", ", p.length ≤ t.length) ∧ (Txt.split t ", ").length ≤ t.length + 1 := split_size (by rw [sep_cb]; simp) (by decide +kernel)
theorem split_b (t : Str) : (∀ p ∈ Txt.split t " ", p.length ≤ t.length) ∧ (Txt.split t " ").length ≤ t.length + 1 := split_size (by rw [sep_b]; simp) (by decide +kernel)
/-! a bank's text -/
def shR (r : Row) : Str := r.1 ++ " " ++ (toString r.2 : String)
def textM (b : List Row) : Str := Txt.join ", " (b.map shR)
/-- numbers of at most sixty figures -/
def BigR (k : Nat) (b : List Row) : Prop := ∀ r ∈ b, okG r.1 ∧ 0 ≤ r.2 ∧ r.2 < 10 ^ k
theorem num_tl {n : Int} (h : 0 ≤ n) : TL.tl (Str.ofString (toString n)) = TL.numL n.toNat := by
  have e : n = ((n.toNat : Nat) : Int) := by omega
  rw [e, TL.tl_num]; rw [Int.toNat_natCast]
theorem num_len {n : Int} {k : Nat} (hk : 0 < k) (h0 : 0 ≤ n) (h : n < 10 ^ k) : (Str.ofString (toString n)).length ≤ k := by
  rw [TL.len_tl, num_tl h0]
  refine TL.numL_len hk ?_
  have e : ((10 : Int) ^ k) = ((10 ^ k : Nat) : Int) := by simp
  rw [e] at h; omega
theorem log_small {n : Int} (h0 : 0 ≤ n) (h : n < 10 ^ 70) : n.natAbs.log2 < 1920 := by
  have e : n.natAbs < 2 ^ 1920 := by
    have h1 : n < 2 ^ 1920 := Int.lt_trans h (by decide +kernel)
    have h2 : ((2 : Int) ^ 1920) = ((2 ^ 1920 : Nat) : Int) := by simp
    rw [h2] at h1; omega
  by_cases z : n.natAbs = 0
  · rw [z]; decide
  · exact (Nat.log2_lt z).mpr e
theorem okG_len {g : Str} (h : okG g) : g.length = 3 := by rcases h with rfl | rfl <;> decide +kernel
theorem okG_free {g : Str} {c : Nat} (h : okG g) (hc : c < 97) : c ∉ TL.tl g := by
  have e : TL.tl g = [100, 114, 121] ∨ TL.tl g = [119, 101, 116] := by rcases h with rfl | rfl; left; decide +kernel; right; decide +kernel
  intro hm
  rcases e with e | e <;> rw [e] at hm <;> simp only [List.mem_cons, List.not_mem_nil, or_false] at hm <;> omega
theorem numL_head : ∀ n : Nat, 1 ≤ n → (TL.numL n)[0]? ≠ some 48 := by
  intro n
  induction n using Nat.strongRecOn with
  | _ n ih =>
    intro h1
    by_cases h : n < 10
    · rw [TL.numL_lt h]; simp; omega
    · rw [TL.numL_step (by omega)]
      have := ih (n / 10) (by omega) (by omega)
      have hne := TL.numL_ne (n / 10)
      rw [List.getElem?_append_left (by cases hq : TL.numL (n / 10) with | nil => exact absurd hq hne | cons a l => exact Nat.succ_pos _)]
      exact this
theorem numM_num {n : Int} (h0 : 0 ≤ n) (h : n < 10 ^ 60) : numM (Str.ofString (toString n)) = some n := by
  have hl := num_len (k := 60) (by decide) h0 h
  have ht := num_tl h0
  have hne := TL.numL_ne n.toNat
  have hpos : 1 ≤ (Str.ofString (toString n)).length := by
    rw [TL.len_tl, ht]
    cases hq : TL.numL n.toNat with
    | nil => exact absurd hq hne
    | cons a l => exact Nat.succ_pos _
  have hall : allF (tlS (Str.ofString (toString n))) = true := by
    unfold allF
    rw [show tlS (Str.ofString (toString n)) = TL.numL n.toNat from ht]
    refine List.all_eq_true.mpr fun c hc => decide_eq_true (mem_figs.mpr ?_)
    exact TL.numL_digits n.toNat c hc
  have hval : valM (Str.ofString (toString n)) = n := by
    unfold valM
    have e : n = ((n.toNat : Nat) : Int) := by omega
    have := TL.int_num (n := n.toNat) (by rw [← ht, ← TL.len_tl]; omega)
    rw [← e] at this
    rw [this]; rfl
  unfold numM
  rw [if_neg (by omega), if_pos hall, hval, if_neg]
  rintro ⟨q1, q2⟩
  rw [show tlS (Str.ofString (toString n)) = TL.numL n.toNat from ht] at q1
  by_cases hz : n.toNat = 0
  · rw [TL.len_tl, ht, hz, TL.numL_lt (by decide)] at q2
    exact absurd q2 (by decide)
  · exact numL_head n.toNat (by omega) q1
theorem join_two (a b y : Str) : Txt.join y [a, b] = a ++ y ++ b := by
  rw [TL.join_eq]
  refine TL.ext_tl ?_
  rw [TL.tl_join, TL.tl_append, TL.tl_append]
  show TL.tl a ++ (TL.tl y ++ TL.tl b) = _
  rw [List.append_assoc]
theorem strM_sh {r : Row} (hg : okG r.1) (h0 : 0 ≤ r.2) (h : r.2 < 10 ^ 60) : strM (shR r) = some r := by
  have e : Txt.split (shR r) " " = [r.1, Str.ofString (toString r.2)] := by
    have : shR r = Txt.join " " [r.1, Str.ofString (toString r.2)] := (join_two _ _ _).symm
    rw [this]
    refine TL.split_join (s := 32) (S := []) sep_b (by decide +kernel) (by simp) fun p hp => ?_
    rcases List.mem_cons.mp hp with rfl | hp
    · exact okG_free hg (by decide)
    · rw [List.mem_singleton.mp hp, num_tl h0]
      exact TL.numL_free (by decide)
  unfold strM
  rw [e]
  show (if r.1 = "dry" ∨ r.1 = "wet" then (numM (Str.ofString (toString r.2))).map fun n => (r.1, n) else none) = some r
  rw [if_pos (show r.1 = "dry" ∨ r.1 = "wet" from hg), numM_num h0 h]; rfl
theorem scan_sh : ∀ (b acc : List Row), BigR 60 b → scan (b.map shR) acc = .inr (acc ++ b)
  | [], acc, _ => by show Sum.inr acc = _; rw [List.append_nil]
  | r :: b, acc, h => by
    obtain ⟨h1, h2, h3⟩ := h r (.head _)
    show (match strM (shR r) with
      | none => Sum.inl acc.length
      | some r => scan (b.map shR) (acc ++ [r])) = _
    rw [strM_sh h1 h2 h3]
    show scan (b.map shR) (acc ++ [r]) = _
    rw [scan_sh b _ fun q hq => h q (.tail _ hq), List.append_assoc]; rfl
theorem shR_len {k : Nat} (hk : 0 < k) {r : Row} (hg : okG r.1) (h0 : 0 ≤ r.2) (h : r.2 < 10 ^ k) : (shR r).length ≤ 4 + k := by
  have := num_len hk h0 h
  have e := okG_len hg
  have e2 : (" " : Str).length = 1 := by decide +kernel
  show (r.1 ++ " " ++ Str.ofString (toString r.2)).length ≤ _
  rw [Str.length_append, Str.length_append]; omega
theorem sum_le {α : Type} (f : α → Nat) (m : Nat) : ∀ l : List α, (∀ x ∈ l, f x ≤ m) → (l.map f).sum ≤ l.length * m
  | [], _ => by simp
  | x :: l, h => by
    have h1 := h x (.head _)
    have h2 := sum_le f m l fun y hy => h y (.tail _ hy)
    rw [List.map_cons, List.sum_cons, List.length_cons, Nat.succ_mul]; omega
theorem join_len (y : Str) : ∀ ps : List Str, (Txt.join y ps).length ≤ (ps.map (·.length)).sum + ps.length * y.length := by
  intro ps
  rw [TL.join_eq, TL.len_tl, TL.tl_join]
  have hl : ∀ ps : List Str, (TL.joinL (TL.tl y) (ps.map TL.tl)).length ≤ (ps.map (·.length)).sum + ps.length * y.length := by
    intro ps
    induction ps with
    | nil => exact Nat.zero_le _
    | cons p ps ih =>
      cases ps with
      | nil =>
        show (TL.tl p).length ≤ _
        rw [← TL.len_tl]; simp
      | cons q ps =>
        show (TL.tl p ++ (TL.tl y ++ TL.joinL (TL.tl y) ((q :: ps).map TL.tl))).length ≤ _
        have e1 : ((p :: q :: ps).map (·.length)).sum = p.length + ((q :: ps).map (·.length)).sum := rfl
        have e2 : (p :: q :: ps).length * y.length = (q :: ps).length * y.length + y.length := Nat.succ_mul ..
        rw [List.length_append, List.length_append, ← TL.len_tl, ← TL.len_tl, e1, e2]
        omega
  exact hl ps
theorem read_text {b : List Row} (h : BigR 60 b) : readM (textM b) = .inr b := by
  cases b with
  | nil =>
    have e : textM [] = "" := by decide +kernel
    unfold readM
    rw [e, if_pos rfl]
  | cons r b =>
    obtain ⟨h1, h2, h3⟩ := h r (.head _)
    have e : Txt.split (textM (r :: b)) ", " = (r :: b).map shR := by
      refine TL.split_join (s := 44) (S := [32]) sep_cb (by decide +kernel) (by simp) fun p hp => ?_
      obtain ⟨q, hq, rfl⟩ := List.mem_map.mp hp
      obtain ⟨g1, g2, g3⟩ := h q hq
      have : TL.tl (shR q) = TL.tl q.1 ++ TL.tl (" " : Str) ++ TL.numL q.2.toNat := by
        show TL.tl (q.1 ++ " " ++ Str.ofString (toString q.2)) = _
        rw [TL.tl_append, TL.tl_append, num_tl g2]
      rw [this, sep_b]
      intro hm
      rcases List.mem_append.mp hm with hm | hm
      · rcases List.mem_append.mp hm with hm | hm
        · exact okG_free g1 (by decide) hm
        · exact absurd (List.mem_singleton.mp hm) (by decide)
      · exact TL.numL_free (by decide) hm
    have hne : textM (r :: b) ≠ "" := fun z => by
      rw [z] at e
      have e2 : Txt.split "" ", " = ([""] : List Str) := by decide +kernel
      rw [e2] at e
      have e3 : "" = shR r := by injection e
      have hl := congrArg Str.length e3
      have hs : (shR r).length = r.1.length + (" " : Str).length + (Str.ofString (toString r.2)).length := by
        show (r.1 ++ " " ++ Str.ofString (toString r.2)).length = _
        rw [Str.length_append, Str.length_append]
      rw [hs, okG_len h1] at hl
      have : ("" : Str).length = 0 := by decide +kernel
      omega
    unfold readM
    rw [if_neg hne, e, scan_sh _ _ h]; rfl
/-! ## texts: the walks -/
def F_num (ds : List D) (o : Out) : Prop := ∃ w : Str, ds = [.str w] ∧ w.length ≤ 100000 ∧ o = ok (encO (numM w))
def encRO : Option Row → D
  | none => .non
  | some r => encRow r
def F_stretch (ds : List D) (o : Out) : Prop := ∃ p : Str, ds = [.str p] ∧ p.length ≤ 100000 ∧ o = ok (encRO (strM p))
theorem sign_eq (c : Nat) : decide ((⟨#[c]⟩ : Str) = "0") = decide (c = 48) := by
  have e : ("0" : Str) = ⟨#[48]⟩ := by decide +kernel
  rw [e]
  by_cases h : c = 48
  · subst h; simp
  · rw [decide_eq_false h, decide_eq_false]
    intro z
    have := congrArg TL.tl z
    exact h (List.cons.inj this).1
theorem atI_zero {l : List Nat} (h : 1 ≤ l.length) : ∃ c, l[0]? = some c ∧ atI l 0 = some c := by
  refine ⟨l[0], List.getElem?_eq_getElem h, atI_nat' (by decide) (List.getElem?_eq_getElem h)⟩
theorem inV_gr (g : Str) : inV (V.str g) [V.str "dry", V.str "wet"] = decide (g = "dry" ∨ g = "wet") := by
  have e : ∀ a b : Str, eqV (.str a) (.str b) = (a == b) := fun _ _ => rfl
  unfold inV
  rw [List.any_cons, List.any_cons, List.any_nil, Bool.or_false, e, e]
  by_cases h1 : g = "dry"
  · rw [h1]; simp
  · by_cases h2 : g = "wet"
    · rw [h2]; simp
    · rw [decide_eq_false (by simp [h1, h2])]
      simp only [Bool.or_eq_false_iff, beq_eq_false_iff_ne, ne_eq]
      exact ⟨fun z => h1 z.symm, fun z => h2 z.symm⟩
theorem scan_none {p : Str} {ps : List Str} {acc : List Row} (h : strM p = none) : scan (p :: ps) acc = .inl acc.length := by
  unfold scan; rw [h]
theorem scan_some {p : Str} {ps : List Str} {acc : List Row} {r : Row} (h : strM p = some r) : scan (p :: ps) acc = scan ps (acc ++ [r]) := by
  rw [scan, h]
theorem drop_get {α : Type} {l : List α} {i : Nat} {x : α} (h : l[i]? = some x) : l.drop i = x :: l.drop (i + 1) := by
  obtain ⟨hlt, e⟩ := List.getElem?_eq_some_iff.mp h
  rw [← e]; exact List.drop_eq_getElem_cons hlt
/-- what read gives -/
def F_read (NT : Addr) (ds : List D) (o : Out) : Prop := (∃ t : Str, ds = [.str t] ∧ t.length ≤ 90000 ∧ ((∃ rows, readM t = .inr rows ∧ o = .ok (.own ((tidyM rows).map encRow))) ∨ (∃ k, readM t = .inl k ∧ o = .error ⟨NT, some ("place", .int (k : Nat))⟩))) ∨
  (∃ (d : D) (n : String), ds = [d] ∧ d.ty = some n ∧ kitB n "str" = some false ∧ o = .error ⟨NT, some ("place", .int 0)⟩)
section
variable {M : Mo} {f : Addr} {fd : FuncData}
theorem ok_number_of (T : Nn M) (gF : ∃ t, M.mg "FIGURES" = some (.str "0123456789" t)) (gM : ∃ t, M.mg "MOST_FIGURES" = some (.int 60 t)) (F : Fun M.K "number_of" "number_of" s_number_of f fd) : FnOk M.P M.w M.K M.mg M.base (L2.CX M.P M.w) (M.k + 1) f fd ["word"] (spOf M.K F_num) := by
  obtain ⟨_, _, _, n_len, _, n_int, _⟩ := T
  obtain ⟨tF, gF⟩ := gF
  obtain ⟨tM, gM⟩ := gM
  refine fn_data F sc_number_of (fun ds o ⟨w, h, _⟩ => by rw [h]; rfl) (fun ds o ⟨w, h1, hl, h2⟩ => ?_)
  subst h1 h2
  have hz : w.length ≤ 1000000 := by omega
  refine' dss_cons (ds_if (x := decide (((w.length : Nat) : Int) < 1) || decide (((w.length : Nat) : Int) > 60)) ?_ (fun hx => ?_) (fun hx => dss_nil ?_))
  · refine' dt_w (dw_or (dt_lt ?ha ?hb) (fun _ => dw_or1 (dt_gt ?hc ?hd)))
    case ha => walk_at "e"
    case hb => walk_at "e"
    case hc => walk_at "e"
    case hd => exact de_globI (glB_gl rfl).1 gM rfl
  · have e : numM w = none := by
      unfold numM
      rw [if_pos]
      simp only [Bool.or_eq_true, decide_eq_true_eq] at hx
      omega
    rw [e]
    walk_at "ret"
    rfl
  simp only [Bool.or_eq_false_iff, decide_eq_false_iff_not] at hx
  have hlen : 1 ≤ (tlS w).length := by rw [show (tlS w).length = w.length from (TL.len_tl w).symm]; omega
  obtain ⟨c0, ec0, ac0⟩ := atI_zero hlen
  have hn1 : ¬ (w.length < 1 ∨ 60 < w.length) := by omega
  refine' dss_cons (ds_if (x := decide ((⟨#[c0]⟩ : Str) = "0") && decide (((w.length : Nat) : Int) > 1)) ?_ (fun hx => ?_) (fun hx => dss_nil ?_))
  · have ac : atI w.cps.toList 0 = some c0 := ac0
    walk_at "t"
  · rw [sign_eq] at hx
    simp only [Bool.and_eq_true, decide_eq_true_eq] at hx
    have e : numM w = none := by
      unfold numM
      rw [if_neg hn1, if_pos ⟨by rw [ec0, hx.1], by omega⟩]
    rw [e]
    walk_at "ret"
    rfl
  rw [sign_eq] at hx
  have hn2 : ¬ ((tlS w)[0]? = some 48 ∧ 1 < w.length) := fun ⟨a, b⟩ => by
    rw [ec0] at a
    rw [decide_eq_true (Option.some.inj a), decide_eq_true (by omega)] at hx
    cases hx
  refine' dss_cons (ds_for' (items := w.cps.toList.map fun c => .str ⟨#[c]⟩) (fun i S' => (∃ g, S' = [.val (.str w), g]) ∧ allF ((tlS w).take i) = true) rfl (dit_str ?_) ?_ (fun i d S' hd hI => ?_) (fun S' hI => ?_) (fun _ _ => rfl))
  · walk_at "e"
  · exact ⟨⟨_, rfl⟩, rfl⟩
  · obtain ⟨⟨g, rfl⟩, ha⟩ := hI
    obtain ⟨c, hc, rfl⟩ := map_get hd
    walk_at "g1"
    refine' dss_one (ds_if (x := !decide (c ∈ ("0123456789" : Str).cps.toList)) (dt_notInSign ?ha (de_globS (glB_gl rfl).1 gF rfl) rfl) (fun hx => ?_) (fun hx => dss_nil ?_))
    case ha => walk_at "e"
    · rw [figs_eq] at hx
      have e : numM w = none := by
        have hno : allF (tlS w) ≠ true := fun z => by
          have := List.all_eq_true.mp z c (List.mem_of_getElem? hc)
          rw [this] at hx; cases hx
        unfold numM
        rw [if_neg hn1, if_neg hn2, if_neg hno]
      rw [e]
      walk_at "ret"
      rfl
    · rw [figs_eq] at hx
      refine ⟨⟨_, rfl⟩, ?_⟩
      rw [take_snoc (show (tlS w)[i]? = some c from hc)]
      unfold allF at ha ⊢
      rw [List.all_append, ha]
      simpa using hx
  · obtain ⟨⟨g, rfl⟩, ha⟩ := hI
    rw [List.length_map, show List.take w.cps.toList.length (tlS w) = tlS w from List.take_length] at ha
    obtain ⟨q1, q2⟩ := val_ok (by omega) (by omega) ha
    have e : numM w = some (valM w) := by
      unfold numM
      rw [if_neg hn1, if_neg hn2, if_pos ha]
    rw [e]
    refine' dss_one (ds_ret (de_intS (glB_gl rfl).1 n_int ?he q1 (by omega) ?hs) ?hp)
    case he => walk_at "e"
    case hs => intro _; rfl
    case hp => rfl
theorem ok_law_number (T : Nn M) (F : Fun M.K "_law_number" "_law_number" s_law_number f fd) : FnOk M.P M.w M.K M.mg M.base (L2.CX M.P M.w) (M.k + 1) f fd ["_law_word"] (spOf M.K F_num) := by
  obtain ⟨_, _, _, n_len, _, n_int, _⟩ := T
  refine fn_data F sc_law_number (fun ds o ⟨w, h, _⟩ => by rw [h]; rfl) (fun ds o ⟨w, h1, hl, h2⟩ => ?_)
  subst h1 h2
  have hz : w.length ≤ 1000000 := by omega
  have l0 : ("" : Str).length = 0 := by decide +kernel
  by_cases hw : w = ""
  · have e : numM w = none := by unfold numM; rw [if_pos (.inl (by rw [hw, l0]; decide))]
    rw [e]
    refine' dss_cons (ds_ifT (x := decide (w = "") || true) (dt_w (dw_or (dt_eqS ?ha ?hb) (fun h => by rw [decide_eq_true hw] at h; cases h))) (by rw [decide_eq_true hw]; rfl) ?hr)
    case ha => walk_at "e"
    case hb => walk_at "e"
    case hr =>
      walk_at "ret"
      rfl
  have hpos : 1 ≤ w.length := by
    cases h : w.length with
    | zero => exact absurd (TL.ext_tl (by rw [TL.len_tl] at h; rw [List.eq_nil_of_length_eq_zero h]; decide +kernel)) hw
    | succ n => omega
  have hlen : 1 ≤ (tlS w).length := by rw [show (tlS w).length = w.length from (TL.len_tl w).symm]; omega
  obtain ⟨c0, ec0, ac0⟩ := atI_zero hlen
  have ac : atI w.cps.toList 0 = some c0 := ac0
  refine' dss_cons (ds_if (x := decide (w = "") || (decide (((w.length : Nat) : Int) > 60) || (decide ((⟨#[c0]⟩ : Str) = "0") && decide (((w.length : Nat) : Int) > 1)))) ?_ (fun hx => ?_) (fun hx => dss_nil ?_))
  · walk_at "t"
  · rw [sign_eq, decide_eq_false hw, Bool.false_or] at hx
    simp only [Bool.or_eq_true, Bool.and_eq_true, decide_eq_true_eq] at hx
    have e : numM w = none := by
      unfold numM
      by_cases h60 : 60 < w.length
      · rw [if_pos (.inr h60)]
      · rw [if_neg (by omega), if_pos ⟨by rw [ec0]; rcases hx with q | q; omega; rw [q.1], by rcases hx with q | q <;> omega⟩]
    rw [e]
    walk_at "ret"
    rfl
  rw [sign_eq, decide_eq_false hw, Bool.false_or] at hx
  simp only [Bool.or_eq_false_iff, decide_eq_false_iff_not] at hx
  have hn1 : ¬ (w.length < 1 ∨ 60 < w.length) := by omega
  have hn2 : ¬ ((tlS w)[0]? = some 48 ∧ 1 < w.length) := fun ⟨a, b⟩ => by
    rw [ec0] at a
    have := hx.2
    rw [decide_eq_true (Option.some.inj a), decide_eq_true (by omega)] at this
    cases this
  refine' dss_cons (ds_for' (items := w.cps.toList.map fun c => .str ⟨#[c]⟩) (fun i S' => (∃ g, S' = [.val (.str w), g]) ∧ allF ((tlS w).take i) = true) rfl (dit_str ?_) ?_ (fun i d S' hd hI => ?_) (fun S' hI => ?_) (fun _ _ => rfl))
  · walk_at "e"
  · exact ⟨⟨_, rfl⟩, rfl⟩
  · obtain ⟨⟨g, rfl⟩, ha⟩ := hI
    obtain ⟨c, hc, rfl⟩ := map_get hd
    walk_at "g1"
    refine' dss_one (ds_if (x := !decide (c ∈ ("0123456789" : Str).cps.toList)) (dt_notInSign ?ha de_str rfl) (fun hx => ?_) (fun hx => dss_nil ?_))
    case ha => walk_at "e"
    · rw [figs_eq] at hx
      have e : numM w = none := by
        have hno : allF (tlS w) ≠ true := fun z => by
          have := List.all_eq_true.mp z c (List.mem_of_getElem? hc)
          rw [this] at hx; cases hx
        unfold numM
        rw [if_neg hn1, if_neg hn2, if_neg hno]
      rw [e]
      walk_at "ret"
      rfl
    · rw [figs_eq] at hx
      refine ⟨⟨_, rfl⟩, ?_⟩
      rw [take_snoc (show (tlS w)[i]? = some c from hc)]
      unfold allF at ha ⊢
      rw [List.all_append, ha]
      simpa using hx
  · obtain ⟨⟨g, rfl⟩, ha⟩ := hI
    rw [List.length_map, show List.take w.cps.toList.length (tlS w) = tlS w from List.take_length] at ha
    obtain ⟨q1, q2⟩ := val_ok (by omega) (by omega) ha
    have e : numM w = some (valM w) := by
      unfold numM
      rw [if_neg hn1, if_neg hn2, if_pos ha]
    rw [e]
    refine' dss_one (ds_ret (de_intS (glB_gl rfl).1 n_int ?he q1 (by omega) ?hs) ?hp)
    case he => walk_at "e"
    case hs => intro _; rfl
    case hp => rfl
end
/-! ## reading, walked -/
theorem strM_two {p g w : Str} (h : Txt.split p " " = [g, w]) : strM p = if g = "dry" ∨ g = "wet" then (numM w).map fun n => (g, n) else none := by
  unfold strM; rw [h]
theorem strM_not {p : Str} (h : (Txt.split p " ").length ≠ 2) : strM p = none := by
  unfold strM
  split
  · rename_i e; rw [e] at h; exact absurd rfl h
  · rfl
theorem two_of {α : Type} {l : List α} (h : l.length = 2) : ∃ a b, l = [a, b] := by
  match l, h with
  | [a, b], _ => exact ⟨a, b, rfl⟩
def F_lread (ds : List D) (o : Out) : Prop := ∃ t : Str, ds = [.str t] ∧ t.length ≤ 90000 ∧ o = match readM t with
  | .inr rows => .ok (.own (rows.map encRow))
  | .inl k => ok (.int (k : Nat))
section
variable {M : Mo} {f : Addr} {fd : FuncData}
theorem ok_stretch_of {AG : Addr} (T : Nn M) (gG : M.mg "GROUNDS" = some (.ref AG)) (tG : SqT M.K (fun _ => none) AG [V.str "dry", V.str "wet"]) (c1 : Cal M "number_of" F_num) (F : Fun M.K "stretch_of" "stretch_of" s_stretch_of f fd) : FnOk M.P M.w M.K M.mg M.base (L2.CX M.P M.w) (M.k + 1) f fd ["part"] (spOf M.K F_stretch) := by
  obtain ⟨_, _, _, n_len, _⟩ := T
  refine fn_data F sc_stretch_of (fun ds o ⟨w, h, _⟩ => by rw [h]; rfl) (fun ds o ⟨p, h1, hl, h2⟩ => ?_)
  subst h1 h2
  obtain ⟨s1, s2⟩ := split_b p
  walk_at "let"
  by_cases h2 : (Txt.split p " ").length = 2
  · obtain ⟨g, w, e⟩ := two_of h2
    have hw := s1 w (by rw [e]; exact .tail _ (.head _))
    have hs := strM_two e
    rw [e]
    show DSs _ _ [.val (.str p), .own [.str g, .str w], .any] _
    have hn : F_num [.str w] (ok (encO (numM w))) := ⟨w, rfl, by omega, rfl⟩
    by_cases hg : g = "dry" ∨ g = "wet"
    · rw [if_pos hg] at hs
      refine' dss_cons (ds_ifF (x := !decide ((([D.str g, D.str w].length : Nat) : Int) = 2) || false) (dt_w (dw_or ?ha (fun _ => dw_or1 (dt_notInK (d := .str g) (v := .str g) rfl ?hb ?hc ?hd rfl)))) rfl (dss_nil ?_))
      case ha => walk_at "t"
      case hb => exact dl_ixL (lv := false) (ds := [.str g, .str w]) (k := 0) (by walk_at "l") (by walk_at "e") rfl (fun _ _ => rfl)
      case hc => exact dl_of (r := .val (.ktup [V.str "dry", V.str "wet"])) (de_glob (glB_gl rfl).1 gG tG rfl rfl) rfl
      case hd => rw [inV_gr, decide_eq_true hg]; rfl
      refine' dss_cons (ds_let (r := .val (encO (numM w))) (de_fnR (lv := false) c1 rfl (da_cons (dl_ixL (lv := false) (ds := [.str g, .str w]) (k := 1) (by walk_at "l") (by walk_at "e") rfl (fun _ _ => rfl)) da_nil ?h1) hn (.inr ?hf) ?h2 ?h3) rfl rfl (of_decide_eq_true rfl) ?hn ?h4)
      case h1 => intro _; rfl
      case h2 => intro _; rfl
      case h3 => intro _; rfl
      case h4 => intro _; rfl
      case hf => cases numM w with
        | none => exact .non
        | some n => exact .int n
      cases hv : numM w with
      | none =>
        rw [hv] at hs
        rw [show strM p = none from hs]
        refine' dss_cons (ds_ifT (x := true) (dt_isN (d := .non) ?ha) rfl ?hr)
        case ha => walk_at "l"
        case hr =>
          walk_at "ret"
          rfl
      | some n =>
        rw [hv] at hs
        rw [show strM p = some (g, n) from hs]
        refine' dss_cons (ds_ifF (x := false) (dt_isN (d := .int n) ?ha) rfl (dss_nil ?_))
        case ha => walk_at "l"
        walk_at "ret"
        rfl
    · rw [if_neg hg] at hs
      rw [hs]
      refine' dss_cons (ds_ifT (x := !decide ((([D.str g, D.str w].length : Nat) : Int) = 2) || true) (dt_w (dw_or ?ha (fun _ => dw_or1 (dt_notInK (d := .str g) (v := .str g) rfl ?hb ?hc ?hd rfl)))) rfl ?hr)
      case ha => walk_at "t"
      case hb => exact dl_ixL (lv := false) (ds := [.str g, .str w]) (k := 0) (by walk_at "l") (by walk_at "e") rfl (fun _ _ => rfl)
      case hc => exact dl_of (r := .val (.ktup [V.str "dry", V.str "wet"])) (de_glob (glB_gl rfl).1 gG tG rfl rfl) rfl
      case hd => rw [inV_gr, decide_eq_false hg]; rfl
      case hr =>
        walk_at "ret"
        rfl
  · rw [strM_not h2]
    have hx : (!decide (((((Txt.split p " ").map D.str).length : Nat) : Int) = 2)) = true := by rw [List.length_map, decide_eq_false (by omega)]; rfl
    refine' dss_cons (ds_ifT (x := (!decide (((((Txt.split p " ").map D.str).length : Nat) : Int) = 2)) || true) (dt_w (dw_or ?ha (fun h => by rw [hx] at h; cases h))) (by rw [hx]; rfl) ?hr)
    case ha => walk_at "t"
    case hr =>
      walk_at "ret"
      rfl
theorem ok_read {NT : Addr} (T : Nn M) (n_str : M.mg "str" = none) (n_enum : M.mg "enumerate" = none) (x1 : Exc1 M "NoText" NT "place") (c1 : Cal M "stretch_of" F_stretch) (c2 : Cal M "tidy" F_tidy) (F : Fun M.K "read" "read" s_read f fd) : FnOk M.P M.w M.K M.mg M.base (L2.CX M.P M.w) (M.k + 1) f fd ["text"] (spOf M.K (F_read NT)) := by
  obtain ⟨_, _, _, n_len, n_isi, _⟩ := T
  have b3 := boot_str
  refine fn_data F sc_read (fun ds o h => by rcases h with ⟨t, h, _⟩ | ⟨d, n, h, _⟩ <;> rw [h] <;> rfl) (fun ds o h => ?_)
  rcases h with ⟨t, rfl, hl, ho⟩ | ⟨d, n, rfl, hd, hk, rfl⟩
  · refine' dss_cons (ds_ifF (x := !true) ?ht rfl (dss_nil ?_))
    case ht => walk_at "t"
    by_cases ht : t = ""
    · have e : readM t = .inr [] := by unfold readM; rw [if_pos ht]
      have eo : o = .ok (.own ([] : List D)) := by
        rcases ho with ⟨rows, h1, h2⟩ | ⟨k, h1, _⟩
        · rw [e] at h1; cases h1; exact h2
        · rw [e] at h1; cases h1
      rw [eo]
      refine' dss_cons (ds_ifT (x := decide (t = "")) ?hc (decide_eq_true ht) ?hr)
      case hc => walk_at "t"
      case hr => exact dss_one (ds_ret de_nil rfl)
    refine' dss_cons (ds_ifF (x := decide (t = "")) ?hc (decide_eq_false ht) (dss_nil ?_))
    case hc => walk_at "t"
    obtain ⟨s1, s2⟩ := split_cb t
    have eR : readM t = scan (Txt.split t ", ") [] := by unfold readM; rw [if_neg ht]
    walk_at "let"
    refine' dss_cons (ds_for' (fun i S' => ∃ acc p q r, S' = [.val (.str t), .own (acc.map encRow), p, q, r] ∧ acc.length = i ∧ GoodR acc ∧ scan ((Txt.split t ", ").drop i) acc = readM t) rfl (dit_enum (lv := true) (ds := (Txt.split t ", ").map D.str) (glB_gl rfl).1 n_enum ?_) ?_ (fun i d S' hd hI => ?_) (fun S' hI => ?_) (fun _ _ => rfl))
    · exact dl_of (r := .own ((Txt.split t ", ").map D.str)) (by walk_at "e") rfl
    · exact ⟨[], _, _, _, rfl, rfl, fun r hr => (by cases hr), eR.symm⟩
    · obtain ⟨acc, p, q, r, rfl, hal, hag, hsc⟩ := hI
      rw [List.getElem?_map, List.getElem?_zipIdx] at hd
      obtain ⟨y, hy, rfl⟩ := Option.map_eq_some_iff.mp hd
      obtain ⟨y', hy', rfl⟩ := Option.map_eq_some_iff.mp hy
      obtain ⟨w, hw, rfl⟩ := map_get hy'
      have hwl := s1 w (List.mem_of_getElem? hw)
      have hilt := (List.getElem?_eq_some_iff.mp hw).1
      have hst : F_stretch [.str w] (ok (encRO (strM w))) := ⟨w, rfl, by omega, rfl⟩
      rw [drop_get hw] at hsc
      walk_at "g2"
      refine' dss_cons (ds_let (r := .val (encRO (strM w))) (de_fnR (lv := false) c1 rfl ?ha hst (.inr ?hf) ?h2 ?h3) rfl rfl (of_decide_eq_true rfl) ?hn ?h4)
      case ha => walk_at "a"
      case h2 => intro _; rfl
      case h3 => intro _; rfl
      case h4 => intro _; rfl
      case hf => cases strM w with
        | none => exact .non
        | some r => exact flat_rows [r] _ (.head _)
      cases hv : strM w with
      | none =>
        rw [scan_none hv] at hsc
        have eo : o = .error ⟨NT, some ("place", .int (i : Nat))⟩ := by
          rcases ho with ⟨rows, h1, h2⟩ | ⟨k, h1, h2⟩
          · rw [← hsc] at h1; cases h1
          · rw [← hsc] at h1; cases h1; rw [h2, hal]
        rw [eo]
        refine' dss_cons (ds_ifT (x := true) (dt_isN (d := .non) ?ha) rfl (dss_one (ds_raise1 (v := .int ((0 + i : Nat) : Int)) (d := .int ((0 + i : Nat) : Int)) x1 rfl ?he rfl ?hp (fun _ => rfl))))
        case ha => walk_at "l"
        case he => walk_at "e"
        case hp => show (Except.error _ : Out) = .error _; rw [Nat.zero_add]
      | some r =>
        rw [scan_some hv] at hsc
        have hz : (acc.map encRow).length ≤ 1000000 := by rw [List.length_map]; omega
        refine' dss_cons (ds_ifF (x := false) (dt_isN (d := encRow r) ?ha) rfl (dss_nil ?_))
        case ha => walk_at "l"
        refine' dss_one ?_
        walk_at "app"
        dsimp only
        have em : acc.map encRow ++ [encRO (some r)] = (acc ++ [r]).map encRow := by rw [List.map_append]; rfl
        rw [em]
        refine ⟨acc ++ [r], _, _, _, rfl, by rw [List.length_append, hal]; rfl, fun q hq => ?_, hsc⟩
        rcases List.mem_append.mp hq with hq | hq
        · exact hag q hq
        · rw [List.mem_singleton.mp hq]; exact strM_ok hv
    · obtain ⟨acc, p, q, r, rfl, hal, hag, hsc⟩ := hI
      rw [List.length_map, List.length_zipIdx, List.length_map] at hal hsc
      rw [List.drop_length] at hsc
      have hR : readM t = .inr acc := hsc.symm
      have eo : o = .ok (.own ((tidyM acc).map encRow)) := by
        rcases ho with ⟨rows, h1, h2⟩ | ⟨k, h1, _⟩
        · rw [hR] at h1; cases h1; exact h2
        · rw [hR] at h1; cases h1
      rw [eo]
      have h3 : F_tidy [encB acc] (.ok (.own ((tidyM acc).map encRow))) := ⟨acc, rfl, by omega, hag, rfl⟩
      refine' dss_one (ds_retO (o := .ok (.own ((tidyM acc).map encRow))) (de_fnR (lv := false) c2 rfl ?hd h3 (.inr (flat_rows _)) ?hs ?hp) ?ho (fun _ er => nomatch er))
      case hd => walk_at "a"
      case hs => intro _; rfl
      case hp => intro _; rfl
      case ho => intro r er; cases er; rfl
  · refine' dss_cons (ds_ifT (x := !false) (dt_not (dt_val (de_isi (glB_gl rfl).1 n_isi (glB_gl rfl).1 n_str b3 (by decide) (by decide) ?ha hd hk ?h1))) rfl (dss_one (ds_raise1 (v := .int 0) (d := .int 0) x1 rfl ?he rfl rfl (fun _ => rfl))))
    case ha => walk_at "l"
    case h1 => intro _; rfl
    case he => walk_at "e"
theorem ok_law_read (T : Nn M) (c1 : Cal M "_law_number" F_num) (F : Fun M.K "_law_read" "_law_read" s_law_read f fd) : FnOk M.P M.w M.K M.mg M.base (L2.CX M.P M.w) (M.k + 1) f fd ["_law_text_here"] (spOf M.K F_lread) := by
  obtain ⟨_, _, _, n_len, _⟩ := T
  refine fn_data F sc_law_read (fun ds o ⟨t, h, _⟩ => by rw [h]; rfl) (fun ds o ⟨t, h1, hl, h2⟩ => ?_)
  subst h1
  walk_at "let"
  by_cases ht : t = ""
  · have e : readM t = .inr [] := by unfold readM; rw [if_pos ht]
    rw [e] at h2
    have h2 : o = .ok (.own (([] : List Row).map encRow)) := h2
    rw [h2]
    refine' dss_cons (ds_ifT (x := decide (t = "")) ?hc (decide_eq_true ht) ?hr)
    case hc => walk_at "t"
    case hr => exact dss_one (ds_retO1 rfl rfl rfl rfl)
  refine' dss_cons (ds_ifF (x := decide (t = "")) ?hc (decide_eq_false ht) (dss_nil ?_))
  case hc => walk_at "t"
  obtain ⟨s1, s2⟩ := split_cb t
  have eR : readM t = scan (Txt.split t ", ") [] := by unfold readM; rw [if_neg ht]
  refine' dss_cons (ds_for' (items := (Txt.split t ", ").map D.str) (fun i S' => ∃ acc p q, S' = [.val (.str t), .own (acc.map encRow), p, q] ∧ acc.length = i ∧ scan ((Txt.split t ", ").drop i) acc = readM t) rfl (dit_list (lv := true) (ds := (Txt.split t ", ").map D.str) ?_) ?_ (fun i d S' hd hI => ?_) (fun S' hI => ?_) (fun _ _ => rfl))
  · exact dl_of (r := .own ((Txt.split t ", ").map D.str)) (by walk_at "e") rfl
  · exact ⟨[], _, _, rfl, rfl, eR.symm⟩
  · obtain ⟨acc, p, q, rfl, hal, hsc⟩ := hI
    obtain ⟨w, hw, rfl⟩ := map_get hd
    have hwl := s1 w (List.mem_of_getElem? hw)
    have hilt := (List.getElem?_eq_some_iff.mp hw).1
    rw [drop_get hw] at hsc
    obtain ⟨z1, z2⟩ := split_b w
    have hz : (acc.map encRow).length ≤ 1000000 := by rw [List.length_map]; omega
    -- where the part is none
    have bad : strM w = none → o = ok (.int ((acc.length : Nat) : Int)) := fun hv => by
      rw [scan_none hv] at hsc
      rw [h2, ← hsc]
    have elen : ((acc.map encRow).length : Nat) = acc.length := List.length_map ..
    walk_at "g1"
    walk_at "let"
    by_cases l2 : (Txt.split w " ").length = 2
    · obtain ⟨g, x, e⟩ := two_of l2
      have hx := z1 x (by rw [e]; exact .tail _ (.head _))
      have hs := strM_two e
      rw [e]
      show DSs _ _ [.val (.str t), .own (acc.map encRow), .val (.str w), .own [.str g, .str x]] _
      have hn : F_num [.str x] (ok (encO (numM x))) := ⟨x, rfl, by omega, rfl⟩
      have fo : Flat (encO (numM x)) := by
        cases numM x with
        | none => exact .non
        | some n => exact .int n
      by_cases hg : g = "dry" ∨ g = "wet"
      · rw [if_pos hg] at hs
        have isn : (encO (numM x)).isNon = (numM x).isNone := by cases numM x <;> rfl
        refine' dss_cons (ds_if (x := !decide ((([D.str g, D.str x].length : Nat) : Int) = 2) || (!inV (.str g) (([("dry" : Str), "wet"] : List Str).map V.str) || (encO (numM x)).isNon)) (dt_w (dw_or ?ha (fun _ => dw_or (dt_notInL (ys := ["dry", "wet"]) ?hb ?hc rfl) (fun _ => dw_or1 (dt_isN ?hd))))) (fun hx => ?_) (fun hx => dss_nil ?_))
        case ha => walk_at "t"
        case hb => exact de_of (lv := false) (dl_ixL (lv := false) (ds := [.str g, .str x]) (k := 0) (by walk_at "l") (by walk_at "e") rfl (fun _ _ => rfl)) (.inr (.str _))
        case hc => walk_at "l"
        case hd => exact dl_of (r := .val (encO (numM x))) (de_fnR (lv := false) c1 rfl (da_cons (dl_ixL (lv := false) (ds := [.str g, .str x]) (k := 1) (by walk_at "l") (by walk_at "e") rfl (fun _ _ => rfl)) da_nil (fun _ => rfl)) hn (.inr fo) (fun _ => rfl) (fun _ => rfl)) rfl
        · rw [show ([("dry" : Str), "wet"] : List Str).map V.str = [V.str "dry", V.str "wet"] from rfl, inV_gr, decide_eq_true hg, isn] at hx
          have hv : numM x = none := Option.isNone_iff_eq_none.mp hx
          rw [hv] at hs
          rw [bad hs, ← elen]
          walk_at "ret"
          rfl
        · rw [show ([("dry" : Str), "wet"] : List Str).map V.str = [V.str "dry", V.str "wet"] from rfl, inV_gr, decide_eq_true hg, isn] at hx
          obtain ⟨n, hv⟩ : ∃ n, numM x = some n := by
            cases hq : numM x with
            | none => rw [hq] at hx; cases hx
            | some n => exact ⟨n, rfl⟩
          rw [hv] at hs hn
          have hs : strM w = some (g, n) := hs
          rw [scan_some hs] at hsc
          have hn : F_num [.str x] (ok (.int n)) := hn
          refine' dss_one ?_
          walk_at "app"
          dsimp only
          exact ⟨acc ++ [(g, n)], _, _, by rw [List.map_append]; rfl, by rw [List.length_append, hal]; rfl, hsc⟩
      · rw [if_neg hg] at hs
        rw [bad hs, ← elen]
        refine' dss_cons (ds_ifT (x := !decide ((([D.str g, D.str x].length : Nat) : Int) = 2) || (!inV (.str g) (([("dry" : Str), "wet"] : List Str).map V.str) || true)) (dt_w (dw_or ?ha (fun _ => dw_or (y := true) (dt_notInL (ys := ["dry", "wet"]) ?hb ?hc rfl) (fun h => absurd h ?hd)))) ?hx ?hr)
        case ha => walk_at "t"
        case hb => exact de_of (lv := false) (dl_ixL (lv := false) (ds := [.str g, .str x]) (k := 0) (by walk_at "l") (by walk_at "e") rfl (fun _ _ => rfl)) (.inr (.str _))
        case hc => walk_at "l"
        case hd => rw [show ([("dry" : Str), "wet"] : List Str).map V.str = [V.str "dry", V.str "wet"] from rfl, inV_gr, decide_eq_false hg]; decide
        case hx => simp
        case hr =>
          walk_at "ret"
          rfl
    · have hs := strM_not l2
      rw [bad hs, ← elen]
      have hx : (!decide (((((Txt.split w " ").map D.str).length : Nat) : Int) = 2)) = true := by rw [List.length_map, decide_eq_false (by omega)]; rfl
      refine' dss_cons (ds_ifT (x := (!decide (((((Txt.split w " ").map D.str).length : Nat) : Int) = 2)) || true) (dt_w (dw_or ?ha (fun h => by rw [hx] at h; cases h))) (by rw [hx]; rfl) ?hr)
      case ha => walk_at "t"
      case hr =>
        walk_at "ret"
        rfl
  · obtain ⟨acc, p, q, rfl, hal, hsc⟩ := hI
    rw [List.length_map] at hal hsc
    rw [List.drop_length] at hsc
    have hR : readM t = .inr acc := hsc.symm
    rw [hR] at h2
    have h2 : o = .ok (.own (acc.map encRow)) := h2
    rw [h2]
    exact dss_one (ds_retO1 rfl rfl rfl rfl)
end
/-! ## what is shown -/
def ts (n : Int) : Str := Str.ofString (toString n)
abbrev Pc := Int × Int
abbrev encP (p : Pc) : D := .tup [.int p.1, .int p.2]
abbrev shD (s : List Pc) : D := .lst (s.map encP)
theorem flat_pcs (l : List Pc) : ∀ d ∈ l.map encP, Flat d := by
  intro d hd
  obtain ⟨r, _, rfl⟩ := List.mem_map.mp hd
  walk_at "fl"
def pcT (p : Pc) : Str := ts p.1 ++ "-" ++ ts p.2
def shT (s : List Pc) : Str := if s = [] then "none" else Txt.join " " (s.map pcT)
def shsT (l : List (List Pc)) : Str := Txt.join " / " (l.map shT)
def PcOk (p : Pc) : Prop := (0 ≤ p.1 ∧ p.1 < 10 ^ 60) ∧ 0 ≤ p.2 ∧ p.2 < 10 ^ 60
theorem ts_len {n : Int} (h0 : 0 ≤ n) (h : n < 10 ^ 60) : (ts n).length ≤ 60 := num_len (by decide) h0 h
theorem pcT_len {p : Pc} (h : PcOk p) : (pcT p).length ≤ 121 := by
  have h1 := ts_len h.1.1 h.1.2
  have h2 := ts_len h.2.1 h.2.2
  have e : ("-" : Str).length = 1 := by decide +kernel
  unfold pcT
  rw [Str.length_append, Str.length_append]; omega
theorem pcT_ok {p : Pc} (h : PcOk p) : PyData.strOk (pcT p) = true := by
  have e : TL.tl (pcT p) = TL.numL p.1.toNat ++ [45] ++ TL.numL p.2.toNat := by
    unfold pcT ts
    rw [TL.tl_append, TL.tl_append, num_tl h.1.1, num_tl h.2.1, show TL.tl ("-" : Str) = [45] by decide +kernel]
  unfold PyData.strOk
  rw [← Array.all_toList, show (pcT p).cps.toList = TL.tl (pcT p) from rfl, e]
  refine List.all_eq_true.mpr fun c hc => decide_eq_true ?_
  rcases List.mem_append.mp hc with hc | hc
  · rcases List.mem_append.mp hc with hc | hc
    · have := TL.numL_digits _ c hc; omega
    · rw [List.mem_singleton.mp hc]; decide
  · have := TL.numL_digits _ c hc; omega
theorem join_fits {m : Nat} {y : Str} {ys : List Str} (h : ∀ x ∈ ys, x.length ≤ m) : (ys.map (·.length)).sum + ys.length * y.length ≤ ys.length * (m + y.length) := by
  have := sum_le (·.length) m ys h
  rw [Nat.mul_add]; omega
def ShOk (s : List Pc) : Prop := s.length ≤ 10 ∧ ∀ p ∈ s, PcOk p
theorem shT_len {s : List Pc} (h : ShOk s) : (shT s).length ≤ 1300 := by
  unfold shT
  have e : (" " : Str).length = 1 := by decide +kernel
  split
  · have : ("none" : Str).length = 4 := by decide +kernel
    omega
  · have h1 := join_len " " (s.map pcT)
    have h2 := join_fits (m := 121) (y := " ") (ys := s.map pcT) fun x hx => by
      obtain ⟨p, hp, rfl⟩ := List.mem_map.mp hx
      exact pcT_len (h.2 p hp)
    have h3 : (s.map pcT).length * (121 + (" " : Str).length) ≤ 10 * 122 := by
      rw [e, List.length_map]; exact Nat.mul_le_mul_right _ h.1
    omega
def F_shown (ds : List D) (o : Out) : Prop := ∃ b : List Row, ds = [encB b] ∧ b.length ≤ 100 ∧ BigR 60 b ∧ o = ok (.str (textM b))
def F_shS (ds : List D) (o : Out) : Prop := ∃ s : List Pc, ds = [shD s] ∧ ShOk s ∧ o = ok (.str (shT s))
def F_shSs (ds : List D) (o : Out) : Prop := ∃ l : List (List Pc), ds = [.lst (l.map shD)] ∧ l.length ≤ 100 ∧ (∀ s ∈ l, ShOk s) ∧ o = ok (.str (shsT l))
theorem text_fits {b : List Row} (hl : b.length ≤ 100) (hb : BigR 60 b) : ((b.map shR).map (·.length)).sum + (b.map shR).length * (", " : Str).length ≤ 10000 := by
  have e : (", " : Str).length = 2 := by decide +kernel
  have h := join_fits (m := 64) (y := ", ") (ys := b.map shR) fun x hx => by
    obtain ⟨r, hr, rfl⟩ := List.mem_map.mp hx
    obtain ⟨h1, h2, h3⟩ := hb r hr
    exact shR_len (by decide) h1 h2 h3
  have h3 : (b.map shR).length * (64 + (", " : Str).length) ≤ 100 * 66 := by
    rw [e, List.length_map]; exact Nat.mul_le_mul_right _ hl
  omega
theorem pl_sh (s : List Pc) : Pl 2 (shD s) := .lst fun d hd => by
  obtain ⟨p, _, rfl⟩ := List.mem_map.mp hd
  exact .tup fun d hd => by
    rcases List.mem_cons.mp hd with rfl | hd
    · exact .int _
    · rcases List.mem_cons.mp hd with rfl | hd
      · exact .int _
      · cases hd
theorem shs_fits {l : List (List Pc)} (hl : l.length ≤ 100) (hs : ∀ s ∈ l, ShOk s) : ((l.map shT).map (·.length)).sum + (l.map shT).length * (" / " : Str).length ≤ 200000 := by
  have e : (" / " : Str).length = 3 := by decide +kernel
  have h := join_fits (m := 1300) (y := " / ") (ys := l.map shT) fun x hx => by
    obtain ⟨s, hm, rfl⟩ := List.mem_map.mp hx
    exact shT_len (hs s hm)
  have h3 : (l.map shT).length * (1300 + (" / " : Str).length) ≤ 100 * 1303 := by
    rw [e, List.length_map]; exact Nat.mul_le_mul_right _ hl
  omega
theorem sh_fits {s : List Pc} (h : ShOk s) : ((s.map pcT).map (·.length)).sum + (s.map pcT).length * (" " : Str).length ≤ 10000 := by
  have e : (" " : Str).length = 1 := by decide +kernel
  have h2 := join_fits (m := 121) (y := " ") (ys := s.map pcT) fun x hx => by
    obtain ⟨p, hp, rfl⟩ := List.mem_map.mp hx
    exact pcT_len (h.2 p hp)
  have h3 : (s.map pcT).length * (121 + (" " : Str).length) ≤ 10 * 122 := by
    rw [e, List.length_map]; exact Nat.mul_le_mul_right _ h.1
  omega
section
variable {M : Mo} {f : Addr} {fd : FuncData}
theorem ok_shown (F : Fun M.K "shown" "shown" s_shown f fd) : FnOk M.P M.w M.K M.mg M.base (L2.CX M.P M.w) (M.k + 1) f fd ["bank"] (spOf M.K F_shown) := by
  refine fn_data F sc_shown (fun ds o ⟨b, h, _⟩ => by rw [h]; rfl) (fun ds o ⟨b, h1, hl, hb, h2⟩ => ?_)
  subst h1 h2
  have hz := text_fits hl hb
  refine' dss_one (ds_ret (de_join (ys := b.map shR) de_str ?hj (by omega)) rfl)
  refine' dl_rd (de_map (lv := true) [("ground", 1), ("long", 2)] b encRow (fun r => .str (shR r)) rfl (dit_list ?hl1) rfl (by omega) (.inl rfl) ?he) ?hd
  case hl1 => walk_at "l"
  case hd => rw [List.map_map]; rfl
  case he =>
    intro r hr
    obtain ⟨h1, h2, h3⟩ := hb r hr
    have e1 := okG_len h1
    have e2 : (" " : Str).length = 1 := by decide +kernel
    have e3 := num_len (k := 60) (by decide) h2 h3
    refine ⟨_, _, dgc_nm2 rfl rfl (by decide) rfl rfl rfl rfl, de_fstr3 (da := .str r.1) (db := .int r.2) ?ha ?hb (.str (by omega)) (.int (log_small h2 (Int.lt_trans h3 (by decide +kernel)))) ?hz2, rfl⟩
    case ha => walk_at "e"
    case hb => walk_at "e"
    case hz2 => show r.1.length + (" " : Str).length + (Str.ofString (toString r.2)).length ≤ 1000000; omega
theorem ok_law_text (T : Nn M) (n_str : M.mg "str" = none) (F : Fun M.K "_law_text" "_law_text" s_law_text f fd) : FnOk M.P M.w M.K M.mg M.base (L2.CX M.P M.w) (M.k + 1) f fd ["_law_rows"] (spOf M.K F_shown) := by
  refine fn_data F sc_law_text (fun ds o ⟨b, h, _⟩ => by rw [h]; rfl) (fun ds o ⟨b, h1, hl, hb, h2⟩ => ?_)
  subst h1 h2
  have hz := text_fits hl hb
  refine' dss_one (ds_ret (de_join (ys := b.map shR) de_str ?hj (by omega)) rfl)
  refine' dl_rd (de_map (lv := true) [("_law_row_here", 1)] b encRow (fun r => .str (shR r)) rfl (dit_list ?hl1) rfl (by omega) (.inl rfl) ?he) ?hd
  case hl1 => walk_at "l"
  case hd => rw [List.map_map]; rfl
  case he =>
    intro r hr
    obtain ⟨h1, h2, h3⟩ := hb r hr
    have e1 := okG_len h1
    have e2 : (" " : Str).length = 1 := by decide +kernel
    have e3 := num_len (k := 60) (by decide) h2 h3
    have q1 : r.1.length + (" " : Str).length ≤ 1000000 := by omega
    have q2 : (r.1 ++ (" " : Str)).length + (Str.ofString (toString r.2)).length ≤ 1000000 := by rw [Str.length_append]; omega
    have q3 := log_small h2 (Int.lt_trans h3 (by decide +kernel))
    refine ⟨_, _, dgc_nm rfl rfl rfl, de_catS (s := r.1 ++ " ") (t := Str.ofString (toString r.2)) ?ha (de_strI (glB_gl rfl).1 n_str ?hb q3 (fun _ => rfl)) q2, rfl⟩
    case ha => walk_at "e"
    case hb => walk_at "e"
theorem ok_shown_share (F : Fun M.K "shown_share" "shown_share" s_shown_share f fd) : FnOk M.P M.w M.K M.mg M.base (L2.CX M.P M.w) (M.k + 1) f fd ["share"] (spOf M.K F_shS) := by
  refine fn_data F sc_shown_share (fun ds o ⟨b, h, _⟩ => by rw [h]; rfl) (fun ds o ⟨s, h1, hs, h2⟩ => ?_)
  subst h1 h2
  have hz := sh_fits hs
  have hls := hs.1
  refine' dss_cons (ds_if (x := decide (s = [])) (dt_eqD (db := .lst []) 2 ?ha ?hb (pl_sh s) (.lst pl_nil) ?hx (by decide)) (fun hx => ?_) (fun hx => dss_nil ?_))
  case ha => walk_at "l"
  case hb => walk_at "l"
  case hx => rw [decide_eq_true_eq]; cases s <;> simp
  · have e : shT s = "none" := by unfold shT; rw [if_pos (of_decide_eq_true hx)]
    rw [e]
    walk_at "ret"
    rfl
  have e : shT s = Txt.join " " (s.map pcT) := by unfold shT; rw [if_neg (of_decide_eq_false hx)]
  rw [e]
  refine' dss_one (ds_ret (de_join (ys := s.map pcT) de_str ?hj (by omega)) rfl)
  refine' dl_rd (de_map (lv := true) [("low", 1), ("high", 2)] s encP (fun r => .str (pcT r)) rfl (dit_list ?hl1) rfl (by omega) (.inl rfl) ?he) ?hd
  case hl1 => walk_at "l"
  case hd => rw [List.map_map]; rfl
  case he =>
    intro p hp
    obtain ⟨⟨h1, h2⟩, h3, h4⟩ := hs.2 p hp
    have e2 : ("-" : Str).length = 1 := by decide +kernel
    have e3 := ts_len h1 h2
    have e4 := ts_len h3 h4
    refine ⟨_, _, dgc_nm2 rfl rfl (by decide) rfl rfl rfl rfl, de_fstr3 (da := .int p.1) (db := .int p.2) ?ha ?hb (.int (log_small h1 (Int.lt_trans h2 (by decide +kernel)))) (.int (log_small h3 (Int.lt_trans h4 (by decide +kernel)))) ?hz2, rfl⟩
    case ha => walk_at "e"
    case hb => walk_at "e"
    case hz2 => show (ts p.1).length + ("-" : Str).length + (ts p.2).length ≤ 1000000; omega
theorem ok_shown_shares (c1 : Cal M "shown_share" F_shS) (F : Fun M.K "shown_shares" "shown_shares" s_shown_shares f fd) : FnOk M.P M.w M.K M.mg M.base (L2.CX M.P M.w) (M.k + 1) f fd ["shares"] (spOf M.K F_shSs) := by
  refine fn_data F sc_shown_shares (fun ds o ⟨b, h, _⟩ => by rw [h]; rfl) (fun ds o ⟨l, h1, hl, hs, h2⟩ => ?_)
  subst h1 h2
  have hz := shs_fits hl hs
  refine' dss_one (ds_ret (de_join (ys := l.map shT) de_str ?hj (by omega)) rfl)
  refine' dl_rd (de_map (lv := true) [("share", 1)] l shD (fun r => .str (shT r)) rfl (dit_list ?hl1) rfl (by omega) (.inl rfl) ?he) ?hd
  case hl1 => walk_at "l"
  case hd => rw [List.map_map]; rfl
  case he =>
    intro s hm
    have hc : F_shS [shD s] (ok (.str (shT s))) := ⟨s, rfl, hs s hm, rfl⟩
    exact ⟨_, _, dgc_nm rfl rfl rfl, by walk_at "e", rfl⟩
theorem ok_law_shares_text (T : Nn M) (n_str : M.mg "str" = none) (F : Fun M.K "_law_shares_text" "_law_shares_text" s_law_shares_text f fd) : FnOk M.P M.w M.K M.mg M.base (L2.CX M.P M.w) (M.k + 1) f fd ["_law_shares_here"] (spOf M.K F_shSs) := by
  refine fn_data F sc_law_shares_text (fun ds o ⟨b, h, _⟩ => by rw [h]; rfl) (fun ds o ⟨l, h1, hl, hs, h2⟩ => ?_)
  subst h1 h2
  have hz := shs_fits hl hs
  have flS : ∀ ys : List Str, ∀ d ∈ ys.map D.str, Flat d := fun ys d hd => by obtain ⟨y, _, rfl⟩ := List.mem_map.mp hd; exact .str _
  have plS : ∀ ys : List Str, (∀ y ∈ ys, PyData.strOk y = true) → Pl 1 (.lst (ys.map D.str)) := fun ys h => .lst fun d hd => by
    obtain ⟨y, hy, rfl⟩ := List.mem_map.mp hd; exact .str (h y hy)
  walk_at "let"
  refine' dss_cons (ds_for' (items := l.map shD) (fun i S' => ∃ s p, S' = [.val (.lst (l.map shD)), .own (((l.take i).map shT).map D.str), s, p, .any, .any]) rfl (dit_list ?_) ?_ (fun i d S' hd hI => ?_) (fun S' hI => ?_) (fun _ _ => rfl))
  · walk_at "l"
  · exact ⟨_, _, rfl⟩
  · obtain ⟨s, p, rfl⟩ := hI
    obtain ⟨x, hx, rfl⟩ := map_get hd
    have hok := hs x (List.mem_of_getElem? hx)
    have hls := hok.1
    have hxz := sh_fits hok
    have hz1 : (((l.take i).map shT).map D.str).length ≤ 1000000 := by rw [List.length_map, List.length_map, List.length_take]; omega
    have em : ((l.take (i + 1)).map shT).map D.str = ((l.take i).map shT).map D.str ++ [.str (shT x)] := by
      rw [take_snoc hx, List.map_append, List.map_append]; rfl
    walk_at "g1"
    refine' dss_cons (ds_setLc (lv := false) 3 [("_law_start", 4), ("_law_end", 5)] x encP (fun p => .str (pcT p)) (fun _ => true) rfl rfl (of_decide_eq_true rfl) rfl rfl rfl rfl (dit_list ?hl1) (anyS_ok rfl) (by omega) (.inr ?hfl) ?he ?hP ?hf)
    case hf => intro _ _; rfl
    case hl1 => walk_at "l"
    case hfl => intro q _; walk_at "fl"
    case he =>
      intro q hq
      obtain ⟨⟨h1, h2⟩, h3, h4⟩ := hok.2 q hq
      have e2 : ("-" : Str).length = 1 := by decide +kernel
      have e3 := ts_len h1 h2
      have e4 := ts_len h3 h4
      have q1 : (ts q.1).length + ("-" : Str).length ≤ 1000000 := by omega
      have q2 : (ts q.1 ++ ("-" : Str)).length + (ts q.2).length ≤ 1000000 := by rw [Str.length_append]; omega
      refine ⟨_, _, dgc_nm2 rfl rfl (by decide) rfl rfl rfl rfl, dts_nil, fun _ => ⟨de_catS (s := ts q.1 ++ "-") (t := ts q.2) (de_catS (s := ts q.1) (t := "-") (de_strI (glB_gl rfl).1 n_str ?ha (log_small h1 (Int.lt_trans h2 (by decide +kernel))) (fun _ => rfl)) de_str q1) (de_strI (glB_gl rfl).1 n_str ?hb (log_small h3 (Int.lt_trans h4 (by decide +kernel))) (fun _ => rfl)) q2, rfl⟩⟩
      case ha => walk_at "e"
      case hb => walk_at "e"
    case hP =>
    have ep : (x.filter fun _ => true).map (fun p => D.str (pcT p)) = (x.map pcT).map D.str := by rw [List.filter_eq_self.mpr fun _ _ => rfl, List.map_map]; rfl
    rw [ep]
    refine' dss_cons (ds_if (x := decide (x.map pcT = [])) ?hc (fun hx2 => ?_) (fun hx2 => dss_nil ?_))
    case hc =>
      refine' dt_eqD (da := .lst ((x.map pcT).map D.str)) (db := .lst []) 1 ?ha ?hb (plS _ fun y hy => ?hp) (.lst pl_nil) ?hx (by decide)
      case ha => walk_at "l"
      case hb => walk_at "l"
      case hp =>
        obtain ⟨q, hq, rfl⟩ := List.mem_map.mp hy
        exact pcT_ok (hok.2 q hq)
      case hx => rw [decide_eq_true_eq]; cases x <;> simp
    · have ex : x = [] := by have := of_decide_eq_true hx2; cases x with | nil => rfl | cons a b => cases this
      have e1 : shT x = Txt.join " " ["none"] := by unfold shT; rw [if_pos ex, TL.join_eq]; rfl
      walk_at "let"
      refine' dss_nil ?_
      refine' dss_one (ds_app (d := .str (shT x)) (dl_val ?ha) rfl rfl rfl hz1 ?hn ?h1 ?h2 rfl ?h3)
      case h1 => intro _; rfl
      case h2 => intro _; rfl
      case h3 => intro _; rfl
      case ha =>
        rw [e1]
        exact de_join (ys := ["none"]) de_str (by walk_at "l") (by decide +kernel)
      case hn =>
        dsimp only
        rw [em]
        exact ⟨_, _, rfl⟩
    · have ex : x ≠ [] := fun z => by rw [z] at hx2; cases hx2
      have e1 : shT x = Txt.join " " (x.map pcT) := by unfold shT; rw [if_neg ex]
      refine' dss_one (ds_app (d := .str (shT x)) (dl_val ?ha) rfl rfl rfl hz1 ?hn ?h1 ?h2 rfl ?h3)
      case h1 => intro _; rfl
      case h2 => intro _; rfl
      case h3 => intro _; rfl
      case ha =>
        rw [e1]
        exact de_join (ys := x.map pcT) de_str (by walk_at "l") (by omega)
      case hn =>
        dsimp only
        rw [em]
        exact ⟨_, _, rfl⟩
  · obtain ⟨s, p, rfl⟩ := hI
    rw [List.length_map, List.take_length]
    refine' dss_one (ds_ret (de_join (ys := l.map shT) de_str ?hj (by omega)) rfl)
    case hj => walk_at "l"
end
/-! ## the law's makings -/
theorem gr_ok (k : Int) : okG (gr k) := by
  unfold gr
  split
  · exact .inl rfl
  · exact .inr rfl
def most8 (c : Int) : Int := if c % 4 = 0 then 3 else if c % 4 = 1 then 12 else if c % 4 = 2 then 10 ^ (18 : Int).toNat + 1 else 10 ^ (58 : Int).toNat
theorem most8_pos (c : Int) : 0 < most8 c := by unfold most8; split; decide; split; decide; split <;> decide +kernel
theorem most8_le (c : Int) : most8 c ≤ 10 ^ 58 := by unfold most8; split; decide +kernel; split; decide +kernel; split <;> decide +kernel
theorem atI_most8 (c : Int) : atI [D.int 3, D.int 12, D.int (10 ^ (18 : Int).toNat + 1), D.int (10 ^ (58 : Int).toNat)] (c % 4) = some (.int (most8 c)) := by
  have h : c % 4 = 0 ∨ c % 4 = 1 ∨ c % 4 = 2 ∨ c % 4 = 3 := by omega
  unfold most8
  rcases h with h | h | h | h <;> rw [h] <;> rfl
def row8 (c : Int) : Row := (gr c, c / 8 % most8 (c / 2))
theorem row8_big (c : Int) : okG (row8 c).1 ∧ 0 ≤ (row8 c).2 ∧ (row8 c).2 < 10 ^ 58 := by
  have h1 := most8_pos (c / 2)
  have h2 := Int.emod_nonneg (c / 8) (show most8 (c / 2) ≠ 0 by omega)
  have h3 := Int.emod_lt_of_pos (c / 8) h1
  have h4 := most8_le (c / 2)
  exact ⟨gr_ok _, h2, Int.lt_of_lt_of_le h3 h4⟩
def F_row (ds : List D) (o : Out) : Prop := ∃ c : Int, ds = [.int c] ∧ o = ok (encRow (row8 c))
def sgA : Str := " !\"#$&'()*+,-./0123456789:;<=>?@ABCDEFGHIJKLMNOPQRSTUVWXYZ[\\]^_`"
def sgB : Str := "abcdefghijklmnopqrstuvwxyz{|}~\n\t"
def sgS : Str := sgA ++ sgB
theorem sgA_len : sgA.length = 64 := by decide +kernel
theorem sgB_len : sgB.length = 32 := by decide +kernel
theorem sgS_len : sgS.length = 96 := by unfold sgS; rw [Str.length_append, sgA_len, sgB_len]
def signM (c : Int) : Str := ⟨#[sgS.cps.toList.getD (c % 96).toNat 0]⟩
def F_sign (ds : List D) (o : Out) : Prop := ∃ c : Int, ds = [.int c] ∧ o = ok (.str (signM c))
theorem getD_at {α : Type} {l : List α} {z : α} {k : Int} (h0 : 0 ≤ k) (h1 : k < l.length) : atI l k = some (l.getD k.toNat z) ∧ l.getD k.toNat z ∈ l := by
  have e : l[k.toNat]? = some l[k.toNat] := List.getElem?_eq_getElem (by omega)
  have e2 : l.getD k.toNat z = l[k.toNat] := by rw [List.getD_eq_getElem?_getD, e]; rfl
  rw [e2]
  exact ⟨atI_nat' h0 e, List.getElem_mem _⟩
def odB : List Str := ["", "dry", "wet ", " dry 1", "dry  1", "dry 1 ", "Dry 1", "wet -1", "wet +1", "dry 01", "wet 00", "mud 3"]
def nines (k : Int) : Str := Txt.mul "9" k
def odM : List Str := (List.range 4).map fun k => "dry " ++ nines (59 + (k : Nat))
def odC : List Str := ["wet 1" ++ Txt.mul "0" 59, "dry 3, wet 4,"]
def odL : List Str := odB ++ odM ++ odC
def oddP (c : Int) : Str := odL.getD (c % 18).toNat ""
theorem od_len : odL.length = 18 := rfl
theorem nines_len {k : Int} (h0 : 59 ≤ k) (h1 : k ≤ 62) : (nines k).length ≤ 62 := by
  have h : k = 59 ∨ k = 60 ∨ k = 61 ∨ k = 62 := by omega
  rcases h with rfl | rfl | rfl | rfl <;> decide +kernel
theorem od_small : ∀ x ∈ odL, x.length ≤ 100 := by
  intro x hx
  rcases List.mem_append.mp hx with hx | hx
  · rcases List.mem_append.mp hx with hx | hx
    · have : odB.all (fun x => decide (x.length ≤ 100)) = true := by decide +kernel
      exact of_decide_eq_true (List.all_eq_true.mp this x hx)
    · obtain ⟨k, hk, rfl⟩ := List.mem_map.mp hx
      have hk4 := List.mem_range.mp hk
      have h1 := nines_len (k := 59 + (k : Nat)) (by omega) (by omega)
      have h2 : ("dry " : Str).length = 4 := by decide +kernel
      rw [Str.length_append]; omega
  · have : odC.all (fun x => decide (x.length ≤ 100)) = true := by decide +kernel
    exact of_decide_eq_true (List.all_eq_true.mp this x hx)
theorem oddP_mem (c : Int) : oddP c ∈ odL := (getD_at (l := odL) (z := "") (k := c % 18) (Int.emod_nonneg _ (by decide)) (by rw [od_len]; have := Int.emod_lt_of_pos c (show (0 : Int) < 18 by decide); omega)).2
def F_oddP (ds : List D) (o : Out) : Prop := ∃ c : Int, ds = [.int c] ∧ o = ok (.str (oddP c))
/-! shares -/
def stp (c : Int) : Nat → List Pc × Int
  | 0 => ([], c / 4 % 10 ^ (18 : Int).toNat)
  | k + 1 => ((stp c k).1 ++ [((stp c k).2, (stp c k).2 + 1 + c / (40 + (k : Int)) % 1000)], (stp c k).2 + 1 + c / (40 + (k : Int)) % 1000 + 1 + c / (90 + (k : Int)) % 50)
def sh8 (c : Int) : List Pc := (stp c (c % 4).toNat).1
def xs8 (ns : List Int) : List Int := cutG ns none (some 6)
def shs8 (ns : List Int) : List (List Pc) := (xs8 ns).map sh8
theorem stp_ok (c : Int) : ∀ k : Nat, k ≤ 4 → (stp c k).1.length = k ∧ (∀ p ∈ (stp c k).1, PcOk p) ∧ 0 ≤ (stp c k).2 ∧ (stp c k).2 < 10 ^ 18 + 2000 * (k + 1 : Nat)
  | 0, _ => by
    have h1 := Int.emod_nonneg (c / 4) (show (10 ^ (18 : Int).toNat : Int) ≠ 0 by decide +kernel)
    have h2 := Int.emod_lt_of_pos (c / 4) (show (0 : Int) < 10 ^ (18 : Int).toNat by decide +kernel)
    refine ⟨rfl, fun p hp => (by cases hp), h1, ?_⟩
    show c / 4 % 10 ^ (18 : Int).toNat < _
    have e : (10 ^ (18 : Int).toNat : Int) = 10 ^ 18 := rfl
    omega
  | k + 1, h => by
    obtain ⟨a1, a2, a3, a4⟩ := stp_ok c k (by omega)
    have h1 := Int.emod_nonneg (c / (40 + (k : Int))) (show (1000 : Int) ≠ 0 by decide)
    have h2 := Int.emod_lt_of_pos (c / (40 + (k : Int))) (show (0 : Int) < 1000 by decide)
    have h3 := Int.emod_nonneg (c / (90 + (k : Int))) (show (50 : Int) ≠ 0 by decide)
    have h4 := Int.emod_lt_of_pos (c / (90 + (k : Int))) (show (0 : Int) < 50 by decide)
    have e60 : (10 : Int) ^ 18 + 20000 < 10 ^ 60 := by decide +kernel
    refine ⟨by show ((stp c k).1 ++ [_]).length = _; rw [List.length_append, a1]; rfl, fun p hp => ?_, ?_, ?_⟩
    · rcases List.mem_append.mp (show p ∈ (stp c k).1 ++ [((stp c k).2, (stp c k).2 + 1 + c / (40 + (k : Int)) % 1000)] from hp) with hp | hp
      · exact a2 p hp
      · rw [List.mem_singleton.mp hp]
        exact ⟨⟨a3, by show (stp c k).2 < _; omega⟩, by show 0 ≤ (stp c k).2 + 1 + _; omega, by show (stp c k).2 + 1 + _ < _; omega⟩
    · show 0 ≤ (stp c k).2 + 1 + _ + 1 + _; omega
    · show (stp c k).2 + 1 + _ + 1 + _ < _; omega
theorem sh8_ok (c : Int) : ShOk (sh8 c) := by
  obtain ⟨h1, h2, _⟩ := stp_ok c (c % 4).toNat (by omega)
  exact ⟨by unfold sh8; omega, h2⟩
def F_lsh (ds : List D) (o : Out) : Prop := ∃ ns : List Int, ds = [.scr ns] ∧ ns.length ≤ 63 ∧ o = .ok (.own ((shs8 ns).map shD))
theorem xs8_len (ns : List Int) (h : ns.length ≤ 63) : (xs8 ns).length ≤ 63 := Nat.le_trans (cutG_len _ _ _) h
section
variable {M : Mo} {f : Addr} {fd : FuncData}
theorem ok_law_row (F : Fun M.K "_law_row" "_law_row" s_law_row f fd) : FnOk M.P M.w M.K M.mg M.base (L2.CX M.P M.w) (M.k + 1) f fd ["_law_cell"] (spOf M.K F_row) := by
  refine fn_data F sc_law_row (fun ds o ⟨c, h, _⟩ => by rw [h]; rfl) (fun ds o ⟨c, h1, h2⟩ => ?_)
  subst h1 h2
  have hg := atI_gr c
  have hm := atI_most8 (c / 2)
  have hp := most8_pos (c / 2)
  refine' dss_cons (ds_let (r := .val (.int (most8 (c / 2)))) (de_of (lv := true) (dl_ixL (lv := true) (ds := [D.int 3, D.int 12, D.int (10 ^ (18 : Int).toNat + 1), D.int (10 ^ (58 : Int).toNat)]) ?ha ?hb hm ?hs1) (.inl rfl)) rfl rfl (of_decide_eq_true rfl) ?hn ?hs)
  case hs => intro _; rfl
  case hs1 => intro _ _; rfl
  case ha =>
    refine' dl_of (r := .own [D.int 3, D.int 12, D.int (10 ^ (18 : Int).toNat + 1), D.int (10 ^ (58 : Int).toNat)]) (de_lst (lv := true) (da_cons (dl_val de_int) (da_cons (dl_val de_int) (da_cons (dl_val (de_add (de_pow de_int de_int (by decide)) de_int)) (da_cons (dl_val (de_pow de_int de_int (by decide))) da_nil ?h1) ?h2) ?h3) ?h4) (.inl rfl) (by show 4 ≤ 1000000; decide)) rfl
    case h1 => intro _; rfl
    case h2 => intro _; rfl
    case h3 => intro _; rfl
    case h4 => intro _; rfl
  case hb => walk_at "e"
  walk_at "ret"
  rfl
theorem ok_law_sign (T : Nn M) (F : Fun M.K "_law_sign" "_law_sign" s_law_sign f fd) : FnOk M.P M.w M.K M.mg M.base (L2.CX M.P M.w) (M.k + 1) f fd ["_law_cell"] (spOf M.K F_sign) := by
  obtain ⟨_, _, _, n_len, _⟩ := T
  refine fn_data F sc_law_sign (fun ds o ⟨c, h, _⟩ => by rw [h]; rfl) (fun ds o ⟨c, h1, h2⟩ => ?_)
  subst h1 h2
  have q1 : sgA.length + sgB.length ≤ 1000000 := by rw [sgA_len, sgB_len]; decide
  have q2 : sgS.length ≤ 1000000 := by rw [sgS_len]; decide
  have hk : atI sgS.cps.toList (c % 96) = some (sgS.cps.toList.getD (c % 96).toNat 0) := (getD_at (Int.emod_nonneg _ (by decide)) (by have := Int.emod_lt_of_pos c (show (0 : Int) < 96 by decide); have h : sgS.cps.toList.length = 96 := (TL.len_tl sgS).symm.trans sgS_len; omega)).1
  refine' dss_cons (ds_let (r := .val (.str sgA)) de_str rfl rfl (of_decide_eq_true rfl) ?hn ?hs)
  case hs => intro _; rfl
  refine' dss_cons (ds_let (r := .val (.str sgS)) (de_catS (s := sgA) (t := sgB) ?ha de_str q1) rfl rfl (of_decide_eq_true rfl) ?hn2 ?hs2)
  case hs2 => intro _; rfl
  case ha => walk_at "e"
  have e96 : c % 96 = c % ((sgS.length : Nat) : Int) := by rw [sgS_len]; rfl
  rw [e96] at hk
  refine' dss_one (ds_ret (r := .val (.str (signM c))) (de_ixS (z := sgS) (c := sgS.cps.toList.getD (c % 96).toNat 0) (k := c % ((sgS.length : Nat) : Int)) ?ha2 (de_mod ?hb2 ?hc2 (by rw [sgS_len]; decide)) q2 (by rw [hk, e96]) (fun _ _ => rfl)) rfl)
  case ha2 => walk_at "e"
  case hb2 => walk_at "e"
  case hc2 => walk_at "e"
theorem ok_law_odd_part (T : Nn M) (F : Fun M.K "_law_odd_part" "_law_odd_part" s_law_odd_part f fd) : FnOk M.P M.w M.K M.mg M.base (L2.CX M.P M.w) (M.k + 1) f fd ["_law_cell"] (spOf M.K F_oddP) := by
  obtain ⟨_, _, _, n_len, _, _, _, _, _, n_range⟩ := T
  refine fn_data F sc_law_odd_part (fun ds o ⟨c, h, _⟩ => by rw [h]; rfl) (fun ds o ⟨c, h1, h2⟩ => ?_)
  subst h1 h2
  have fS : ∀ ys : List Str, ∀ d ∈ ys.map D.str, Flat d := fun ys d hd => by obtain ⟨y, _, rfl⟩ := List.mem_map.mp hd; exact .str _
  have l9 : ("9" : Str).length ≤ 10 := by decide +kernel
  have l0 : ("0" : Str).length ≤ 10 := by decide +kernel
  refine' dss_cons (ds_let (r := .own (odB.map D.str)) ?h0 rfl rfl (of_decide_eq_true rfl) ?hn ?hs)
  case hs => intro _; rfl
  case h0 => walk_at "e"
  refine' dss_cons (ds_let (r := .own (odL.map D.str)) ?h1 rfl rfl (of_decide_eq_true rfl) ?hn2 ?hs2)
  case hs2 => intro _; rfl
  case h1 =>
    have e : odL.map D.str = (odB.map D.str ++ odM.map D.str) ++ odC.map D.str := by unfold odL; rw [List.map_append, List.map_append]
    rw [e]
    refine' de_cat (lv := false) (dl_of (r := .own (odB.map D.str ++ odM.map D.str)) (de_cat (lv := false) ?ha ?hb (by decide) (.inr (flat_app (fS _) (fS _)))) rfl) ?hc (by decide) (.inr (flat_app (flat_app (fS _) (fS _)) (fS _)))
    case ha => walk_at "l"
    case hb =>
      refine' dl_rd (de_map (lv := false) [("_law_k", 2)] (List.range 4) (fun k => .int (k : Nat)) (fun k => .str ("dry " ++ nines (59 + (k : Nat)))) rfl (dit_range1 (glB_gl rfl).1 n_range (n := 4) de_int (by decide) ?hr) rfl (by decide) (.inr fun _ _ => .int _) ?he) ?hd
      case hr => intro _; rfl
      case hd => show D.lst ((List.range 4).map _) = D.lst (odM.map D.str); unfold odM; rw [List.map_map]; rfl
      case he =>
        intro k hk
        have hk4 := List.mem_range.mp hk
        have h1 := nines_len (k := 59 + (k : Nat)) (by omega) (by omega)
        have h2 : ("dry " : Str).length = 4 := by decide +kernel
        refine ⟨_, _, dgc_nm rfl rfl rfl, de_catS (s := "dry ") (t := nines (59 + (k : Nat))) de_str (de_mulS (z := "9") (n := 59 + (k : Nat)) de_str ?hx (mul_ok (by omega) (by omega) l9)) (by omega), rfl⟩
        case hx => walk_at "e"
    case hc =>
      refine' dl_of (r := .own (odC.map D.str)) (de_lst (lv := true) (da_cons (dl_val (de_catS (s := "wet 1") (t := Txt.mul "0" 59) de_str (de_mulS (z := "0") (n := 59) de_str de_int (mul_ok (by decide) (by decide) l0)) (by decide +kernel))) (da_cons (dl_val de_str) da_nil ?h1) ?h2) (.inl rfl) (by show 2 ≤ 1000000; decide)) rfl
      case h1 => intro _; rfl
      case h2 => intro _; rfl
  have hlo := Int.emod_nonneg c (show (18 : Int) ≠ 0 by decide)
  have hhi := Int.emod_lt_of_pos c (show (0 : Int) < 18 by decide)
  have hk : atI (odL.map D.str) (c % (((odL.map D.str).length : Nat) : Int)) = some (.str (oddP c)) := by
    have el : (((odL.map D.str).length : Nat) : Int) = 18 := rfl
    rw [el]
    have e : (odL.map D.str)[(c % 18).toNat]? = some (D.str (oddP c)) := by
      unfold oddP
      rw [List.getElem?_map, List.getD_eq_getElem?_getD, List.getElem?_eq_getElem (by rw [od_len]; omega)]; rfl
    exact atI_nat' hlo e
  have hpos : (0 : Int) < (((odL.map D.str).length : Nat) : Int) := by decide
  refine' dss_one (ds_ret (r := .val (.str (oddP c))) (de_of (lv := false) (dl_ixL (lv := false) (ds := odL.map D.str) ?ha (de_mod ?hb ?hc hpos) hk (fun _ _ => rfl)) (.inr (.str _))) rfl)
  case ha => walk_at "l"
  case hb => walk_at "e"
  case hc => walk_at "e"
theorem ok_law_shares (T : Nn M) (F : Fun M.K "_law_shares" "_law_shares" s_law_shares f fd) : FnOk M.P M.w M.K M.mg M.base (L2.CX M.P M.w) (M.k + 1) f fd ["_law_script"] (spOf M.K F_lsh) := by
  obtain ⟨_, _, _, n_len, _, _, _, _, _, n_range⟩ := T
  refine fn_data F sc_law_shares (fun ds o ⟨ns, h, _⟩ => by rw [h]; rfl) (fun ds o ⟨ns, h1, hl, h2⟩ => ?_)
  subst h1 h2
  have hx := xs8_len ns hl
  walk_at "let"
  refine' dss_cons (ds_for' (items := (xs8 ns).map D.int) (fun i S' => ∃ c a s k, S' = [.val (.scr ns), .own (((xs8 ns).take i).map fun c => shD (sh8 c)), c, a, s, k]) rfl (dit_list (ds := (xs8 ns).map D.int) ?_) ?_ (fun i d S' hd hI => ?_) (fun S' hI => ?_) (fun _ _ => rfl))
  · exact dl_of (r := .own ((cutG ns none (some 6)).map D.int)) (by walk_at "e") rfl
  · exact ⟨_, _, _, _, rfl⟩
  · obtain ⟨c, a, s, k, rfl⟩ := hI
    obtain ⟨x, hxx, rfl⟩ := map_get hd
    have m0 := Int.emod_nonneg x (show (4 : Int) ≠ 0 by decide)
    have m1 := Int.emod_lt_of_pos x (show (0 : Int) < 4 by decide)
    have hz1 : (((xs8 ns).take i).map fun c => shD (sh8 c)).length ≤ 1000000 := by rw [List.length_map, List.length_take]; omega
    walk_at "g1"
    walk_at "let"
    walk_at "let"
    refine' dss_cons (ds_for' (items := (List.range (x % 4).toNat).map fun j => D.int (j : Nat)) (fun j S' => ∃ k, S' = [.val (.scr ns), .own (((xs8 ns).take i).map fun c => shD (sh8 c)), .val (.int x), .val (.int (stp x j).2), .own ((stp x j).1.map encP), k]) rfl (dit_range1 (glB_gl rfl).1 n_range (n := x % 4) ?hr ?hb ?hs) ?_ (fun j d S' hd hI => ?_) (fun S' hI => ?_) (fun _ _ => rfl))
    case hr => walk_at "e"
    case hb => omega
    case hs => intro _; rfl
    · exact ⟨_, rfl⟩
    · obtain ⟨k, rfl⟩ := hI
      obtain ⟨j', hj, rfl⟩ := map_get hd
      have hjl := (List.getElem?_eq_some_iff.mp hj).1
      rw [List.length_range] at hjl
      rw [List.getElem?_range hjl] at hj
      cases hj
      have hjj : j ≤ 4 := by omega
      obtain ⟨a1, _⟩ := stp_ok x j hjj
      have hz2 : ((stp x j).1.map encP).length ≤ 1000000 := by rw [List.length_map]; omega
      have n1 : 0 < (40 + (j : Int)) ∧ (40 + (j : Int)) < 1073741824 := by omega
      have n2 : 0 < (90 + (j : Int)) ∧ (90 + (j : Int)) < 1073741824 := by omega
      have hla : atI (((stp x j).1.map encP) ++ [encP ((stp x j).2, (stp x j).2 + 1 + x / (40 + (j : Int)) % 1000)]) (-1) = some (encP ((stp x j).2, (stp x j).2 + 1 + x / (40 + (j : Int)) % 1000)) := by
        unfold atI ixN
        rw [List.length_append, List.length_singleton, if_neg (by decide), if_pos (by omega)]
        show (((stp x j).1.map encP) ++ [_])[_]? = _
        rw [show (-1 + (((stp x j).1.map encP).length + 1 : Nat) : Int).toNat = ((stp x j).1.map encP).length by omega, List.getElem?_append_right (Nat.le_refl _), Nat.sub_self]; rfl
      walk_at "g1"
      refine' dss_cons ?_
      walk_at "app"
      refine' dss_cons (ds_let (r := .val (.int (stp x (j + 1)).2)) ?he rfl rfl (of_decide_eq_true rfl) ?hn ?hs)
      case hs => intro _; rfl
      case he =>
        show DI _ _ _ ((stp x j).2 + 1 + x / (40 + (j : Int)) % 1000 + 1 + x / (90 + (j : Int)) % 50)
        walk_at "e"
      refine' dss_nil ?_
      have em : (stp x j).1.map encP ++ [encP ((stp x j).2, (stp x j).2 + 1 + x / (40 + (j : Int)) % 1000)] = (stp x (j + 1)).1.map encP := by
        show _ = ((stp x j).1 ++ [_]).map encP
        rw [List.map_append]; rfl
      show ∃ k, [Slot.val (.scr ns), .own (((xs8 ns).take i).map fun c => shD (sh8 c)), .val (.int x), .val (.int (stp x (j + 1)).2), .own ((stp x j).1.map encP ++ [encP ((stp x j).2, (stp x j).2 + 1 + x / (40 + (j : Int)) % 1000)]), .val (.int (j : Nat))] = _
      rw [em]
      exact ⟨_, rfl⟩
    · obtain ⟨k, rfl⟩ := hI
      rw [List.length_map, List.length_range]
      refine' dss_freeze (ds := (stp x (x % 4).toNat).1.map encP) 4 rfl ?_
      refine' dss_one ?_
      walk_at "app"
      dsimp only
      rw [take_snoc hxx, List.map_append]
      exact ⟨_, _, _, _, rfl⟩
  · obtain ⟨c, a, s, k, rfl⟩ := hI
    rw [List.length_map, List.take_length]
    have e : ((xs8 ns).map fun c => shD (sh8 c)) = (shs8 ns).map shD := by unfold shs8; rw [List.map_map]; rfl
    rw [e]
    exact dss_one (ds_retO1 rfl rfl rfl rfl)
end
/-! ## the law's spoiling -/
def repP (s : Str) : Str := Txt.replace s " " " 0"
def endP (c : Int) : Str := ([", ", ",", " ", "\n"] : List Str).getD (c % 4).toNat ""
def spw (t : Str) (ps : List Str) (w a p c : Int) : Str :=
  if w = 0 then cutS t none (some a) ++ signM c ++ cutS t (some a) none
  else if w = 1 then cutS t none (some a) ++ cutS t (some (a + 1)) none
  else if w = 2 then cutS t none (some a) ++ signM c ++ cutS t (some (a + 1)) none
  else if w = 3 then Txt.join ", " ((cutG ps none (some p) ++ [oddP c]) ++ cutG ps (some (p + 1)) none)
  else if w = 4 then t ++ endP c
  else if w = 5 then Txt.join ", " ((cutG ps none (some p) ++ ["wet " ++ nines (59 + c % 4)]) ++ cutG ps (some (p + 1)) none)
  else if w = 6 then Txt.join ", " ((cutG ps none (some 1)).map repP ++ cutG ps (some 1) none)
  else if w = 7 then Txt.join ", " (cutG ps none (some p) ++ (cutG ps (some p) none).map repP)
  else t
def spoilM (t : Str) (ps : List Str) (ns : List Int) : Str := spw t ps (cellM ns 0 % 12) (cellM ns 2 % ((t.length : Nat) + 1)) (cellM ns 2 % ((ps.length : Nat) + 1)) (cellM ns 3)
def F_spoilt (ds : List D) (o : Out) : Prop := ∃ (t : Str) (ps : List Str) (ns : List Int), ds = [.str t, .lst (ps.map D.str), .scr ns] ∧ ns.length ≤ 63 ∧ t.length ≤ 12000 ∧ ps.length ≤ 24 ∧ (∀ x ∈ ps, x.length ≤ 70) ∧ o = ok (.str (spoilM t ps ns))
theorem sign_len (c : Int) : (signM c).length = 1 := rfl
theorem end_at (c : Int) : atI [D.str ", ", D.str ",", D.str " ", D.str "\n"] (c % 4) = some (.str (endP c)) := by
  have h : c % 4 = 0 ∨ c % 4 = 1 ∨ c % 4 = 2 ∨ c % 4 = 3 := by omega
  unfold endP
  rcases h with h | h | h | h <;> rw [h] <;> rfl
theorem end_len (c : Int) : (endP c).length ≤ 2 := by
  have h : c % 4 = 0 ∨ c % 4 = 1 ∨ c % 4 = 2 ∨ c % 4 = 3 := by omega
  unfold endP
  rcases h with h | h | h | h <;> rw [h] <;> decide +kernel
theorem rep_len {s : Str} (h : s.length ≤ 70) : (repP s).length ≤ 300 := by
  have := TK.replace_len s " " " 0"
  have e : (" 0" : Str).length = 2 := by decide +kernel
  rw [e] at this
  unfold repP; omega
theorem oddP_len (c : Int) : (oddP c).length ≤ 100 := od_small _ (oddP_mem c)
theorem list_fits {ys : List Str} (hl : ys.length ≤ 60) (h : ∀ x ∈ ys, x.length ≤ 300) : (ys.map (·.length)).sum + ys.length * (", " : Str).length ≤ 20000 := by
  have e : (", " : Str).length = 2 := by decide +kernel
  have h1 := join_fits (m := 300) (y := ", ") h
  have h2 : ys.length * (300 + (", " : Str).length) ≤ 60 * 302 := by rw [e]; exact Nat.mul_le_mul_right _ hl
  omega
structure Spo (t : Str) (ps : List Str) : Prop where
  t : t.length ≤ 12000
  n : ps.length ≤ 24
  s : ∀ x ∈ ps, x.length ≤ 70
theorem Spo.cut {t : Str} {ps : List Str} (h : Spo t ps) (lo hi : Option Int) : (cutG ps lo hi).length ≤ 24 ∧ ∀ x ∈ cutG ps lo hi, x.length ≤ 70 := ⟨Nat.le_trans (cutG_len _ _ _) h.n, fun x hx => h.s x (cutG_mem hx)⟩
theorem Spo.three {t : Str} {ps : List Str} (h : Spo t ps) {x : Str} (hx : x.length ≤ 100) (l1 h1 l2 h2 : Option Int) : (((cutG ps l1 h1 ++ [x]) ++ cutG ps l2 h2).map (·.length)).sum + ((cutG ps l1 h1 ++ [x]) ++ cutG ps l2 h2).length * (", " : Str).length ≤ 20000 := by
  obtain ⟨a1, a2⟩ := h.cut l1 h1
  obtain ⟨b1, b2⟩ := h.cut l2 h2
  refine list_fits (by rw [List.length_append, List.length_append, List.length_singleton]; omega) fun y hy => ?_
  rcases List.mem_append.mp hy with hy | hy
  · rcases List.mem_append.mp hy with hy | hy
    · have := a2 y hy; omega
    · rw [List.mem_singleton.mp hy]; omega
  · have := b2 y hy; omega
theorem Spo.rep1 {t : Str} {ps : List Str} (h : Spo t ps) (l1 h1 l2 h2 : Option Int) : (((cutG ps l1 h1).map repP ++ cutG ps l2 h2).map (·.length)).sum + ((cutG ps l1 h1).map repP ++ cutG ps l2 h2).length * (", " : Str).length ≤ 20000 := by
  obtain ⟨a1, a2⟩ := h.cut l1 h1
  obtain ⟨b1, b2⟩ := h.cut l2 h2
  refine list_fits (by rw [List.length_append, List.length_map]; omega) fun y hy => ?_
  rcases List.mem_append.mp hy with hy | hy
  · obtain ⟨z, hz, rfl⟩ := List.mem_map.mp hy; exact rep_len (a2 z hz)
  · have := b2 y hy; omega
theorem Spo.rep2 {t : Str} {ps : List Str} (h : Spo t ps) (l1 h1 l2 h2 : Option Int) : ((cutG ps l1 h1 ++ (cutG ps l2 h2).map repP).map (·.length)).sum + (cutG ps l1 h1 ++ (cutG ps l2 h2).map repP).length * (", " : Str).length ≤ 20000 := by
  obtain ⟨a1, a2⟩ := h.cut l1 h1
  obtain ⟨b1, b2⟩ := h.cut l2 h2
  refine list_fits (by rw [List.length_append, List.length_map]; omega) fun y hy => ?_
  rcases List.mem_append.mp hy with hy | hy
  · have := a2 y hy; omega
  · obtain ⟨z, hz, rfl⟩ := List.mem_map.mp hy; exact rep_len (b2 z hz)
theorem wet_len (c : Int) : ("wet " ++ nines (59 + c % 4)).length ≤ 100 := by
  have h0 := Int.emod_nonneg c (show (4 : Int) ≠ 0 by decide)
  have h1 := Int.emod_lt_of_pos c (show (0 : Int) < 4 by decide)
  have := nines_len (k := 59 + c % 4) (by omega) (by omega)
  have e : ("wet " : Str).length = 4 := by decide +kernel
  rw [Str.length_append]; omega
theorem spoil_len {t : Str} {ps : List Str} (h : Spo t ps) (ns : List Int) : (spoilM t ps ns).length ≤ 90000 := by
  have ht := h.t
  have c1 := fun lo hi => cutS_length t lo hi
  unfold spoilM spw
  split
  · have := c1 none (some (cellM ns 2 % ((t.length : Nat) + 1))); have := c1 (some (cellM ns 2 % ((t.length : Nat) + 1))) none
    rw [Str.length_append, Str.length_append, sign_len]; omega
  split
  · have := c1 none (some (cellM ns 2 % ((t.length : Nat) + 1))); have := c1 (some (cellM ns 2 % ((t.length : Nat) + 1) + 1)) none
    rw [Str.length_append]; omega
  split
  · have := c1 none (some (cellM ns 2 % ((t.length : Nat) + 1))); have := c1 (some (cellM ns 2 % ((t.length : Nat) + 1) + 1)) none
    rw [Str.length_append, Str.length_append, sign_len]; omega
  split
  · have := h.three (oddP_len (cellM ns 3)) none (some (cellM ns 2 % ((ps.length : Nat) + 1))) (some (cellM ns 2 % ((ps.length : Nat) + 1) + 1)) none
    exact Nat.le_trans (join_len _ _) (by omega)
  split
  · have := end_len (cellM ns 3)
    rw [Str.length_append]; omega
  split
  · have := h.three (wet_len (cellM ns 3)) none (some (cellM ns 2 % ((ps.length : Nat) + 1))) (some (cellM ns 2 % ((ps.length : Nat) + 1) + 1)) none
    exact Nat.le_trans (join_len _ _) (by omega)
  split
  · have := h.rep1 none (some 1) (some 1) none
    exact Nat.le_trans (join_len _ _) (by omega)
  split
  · have := h.rep2 none (some (cellM ns 2 % ((ps.length : Nat) + 1))) (some (cellM ns 2 % ((ps.length : Nat) + 1))) none
    exact Nat.le_trans (join_len _ _) (by omega)
  · omega
theorem dl_eqL {C : Ctx} {S : List Slot} {b : Expr} {lv : Bool} {d d' : D} (h : DL C lv b S d) (e : d = d') : DL C lv b S d' := e ▸ h
theorem dlt_eqL {C : Ctx} {S : List Slot} {b : Expr} {lv : Bool} {d d' : D} (h : DLt C lv b S d) (e : d = d') : DLt C lv b S d' := e ▸ h
section
variable {M : Mo} {f : Addr} {fd : FuncData}
set_option maxHeartbeats 2000000 in
theorem ok_law_spoilt (T : Nn M) (c1 : Cal M "_law_cell_at" F_cell) (c2 : Cal M "_law_sign" F_sign) (c3 : Cal M "_law_odd_part" F_oddP) (F : Fun M.K "_law_spoilt" "_law_spoilt" s_law_spoilt f fd) : FnOk M.P M.w M.K M.mg M.base (L2.CX M.P M.w) (M.k + 1) f fd ["_law_text_here", "_law_parts", "_law_script"] (spOf M.K F_spoilt) := by
  obtain ⟨_, _, _, n_len, _⟩ := T
  refine fn_data F sc_law_spoilt (fun ds o ⟨t, ps, ns, h, _⟩ => by rw [h]; rfl) (fun ds o ⟨t, ps, ns, h1, hn, ht, hps, hss, h2⟩ => ?_)
  subst h1 h2
  have hS : Spo t ps := ⟨ht, hps, hss⟩
  have fS : ∀ ys : List Str, ∀ d ∈ ys.map D.str, Flat d := fun ys d hd => by obtain ⟨y, _, rfl⟩ := List.mem_map.mp hd; exact .str _
  have hc0 : F_cell [.scr ns, .int 0] (ok (.int (cellM ns 0))) := ⟨ns, 0, rfl, by decide, by omega, rfl⟩
  have hc2 : F_cell [.scr ns, .int 2] (ok (.int (cellM ns 2))) := ⟨ns, 2, rfl, by decide, by omega, rfl⟩
  have hc3 : F_cell [.scr ns, .int 3] (ok (.int (cellM ns 3))) := ⟨ns, 3, rfl, by decide, by omega, rfl⟩
  have hsg : F_sign [.int (cellM ns 3)] (ok (.str (signM (cellM ns 3)))) := ⟨_, rfl, rfl⟩
  have hod : F_oddP [.int (cellM ns 3)] (ok (.str (oddP (cellM ns 3)))) := ⟨_, rfl, rfl⟩
  have tz : t.length ≤ 1000000 := by omega
  have elp : ((ps.map D.str).length : Nat) = ps.length := List.length_map ..
  walk_at "let"
  walk_at "let"
  walk_at "let"
  walk_at "let"
  rw [elp]
  have eC : ∀ lo hi, cutG (ps.map D.str) lo hi = (cutG ps lo hi).map D.str := fun lo hi => cutG_map D.str ps lo hi
  unfold spoilM
  generalize cellM ns 2 % ((t.length : Nat) + 1) = a
  generalize cellM ns 2 % ((ps.length : Nat) + 1) = p
  generalize cellM ns 3 = c at *
  generalize cellM ns 0 % 12 = w
  show DSs _ _ [.val (.str t), .val (.lst (ps.map D.str)), .val (.scr ns), .val (.int w), .val (.int a), .val (.int p), .val (.int c), .any] _
  have ca := cutS_length t none (some a)
  have cb := cutS_length t (some a) none
  have cc := cutS_length t (some (a + 1)) none
  have sl := sign_len c
  -- w = 0
  refine' dss_cons (ds_if (x := decide (w = 0)) ?_ (fun hx => ?_) (fun hx => dss_nil ?_))
  · walk_at "t"
  · have e : spw t ps w a p c = cutS t none (some a) ++ signM c ++ cutS t (some a) none := by unfold spw; rw [if_pos (of_decide_eq_true hx)]
    rw [e]
    refine' dss_one (ds_ret (de_catS (de_catS (de_slS ?h1 do_none (do_some ?h2) tz) ?h3 (by omega)) (de_slS ?h4 (do_some ?h5) do_none tz) (by rw [Str.length_append]; omega)) rfl)
    case h1 => walk_at "e"
    case h2 => walk_at "e"
    case h3 => walk_at "e"
    case h4 => walk_at "e"
    case h5 => walk_at "e"
  have w0 := of_decide_eq_false hx
  refine' dss_cons (ds_if (x := decide (w = 1)) ?_ (fun hx => ?_) (fun hx => dss_nil ?_))
  · walk_at "t"
  · have e : spw t ps w a p c = cutS t none (some a) ++ cutS t (some (a + 1)) none := by unfold spw; rw [if_neg w0, if_pos (of_decide_eq_true hx)]
    rw [e]
    refine' dss_one (ds_ret (de_catS (de_slS ?h1 do_none (do_some ?h2) tz) (de_slS ?h4 (do_some ?h5) do_none tz) (by omega)) rfl)
    case h1 => walk_at "e"
    case h2 => walk_at "e"
    case h4 => walk_at "e"
    case h5 => walk_at "e"
  have w1 := of_decide_eq_false hx
  refine' dss_cons (ds_if (x := decide (w = 2)) ?_ (fun hx => ?_) (fun hx => dss_nil ?_))
  · walk_at "t"
  · have e : spw t ps w a p c = cutS t none (some a) ++ signM c ++ cutS t (some (a + 1)) none := by unfold spw; rw [if_neg w0, if_neg w1, if_pos (of_decide_eq_true hx)]
    rw [e]
    refine' dss_one (ds_ret (de_catS (de_catS (de_slS ?h1 do_none (do_some ?h2) tz) ?h3 (by omega)) (de_slS ?h4 (do_some ?h5) do_none tz) (by rw [Str.length_append]; omega)) rfl)
    case h1 => walk_at "e"
    case h2 => walk_at "e"
    case h3 => walk_at "e"
    case h4 => walk_at "e"
    case h5 => walk_at "e"
  have w2 := of_decide_eq_false hx
  have g0 := hS.cut none (some p)
  have g1 := hS.cut (some (p + 1)) none
  have g2 := hS.cut (some p) none
  have g3 := hS.cut none (some 1)
  have g4 := hS.cut (some 1) none
  refine' dss_cons (ds_if (x := decide (w = 3)) ?_ (fun hx => ?_) (fun hx => dss_nil ?_))
  · walk_at "t"
  · have e : spw t ps w a p c = Txt.join ", " ((cutG ps none (some p) ++ [oddP c]) ++ cutG ps (some (p + 1)) none) := by unfold spw; rw [if_neg w0, if_neg w1, if_neg w2, if_pos (of_decide_eq_true hx)]
    have hz := hS.three (oddP_len c) none (some p) (some (p + 1)) none
    rw [e]
    refine' dss_one (ds_ret (de_join (ys := ((cutG ps none (some p) ++ [oddP c]) ++ cutG ps (some (p + 1)) none)) de_str (dl_eqL ?hj ?ej) (by omega)) rfl)
    case ej => rw [List.map_append, List.map_append, ← eC, ← eC]
    case hj =>
    refine' dl_of (r := .own ((cutG (ps.map D.str) none (some p) ++ [D.str (oddP c)]) ++ cutG (ps.map D.str) (some (p + 1)) none)) (de_cat (lv := false) (dl_of (r := .own (cutG (ps.map D.str) none (some p) ++ [D.str (oddP c)])) (de_cat (lv := false) ?h1 ?h2 ?h3 (.inr (flat_app (flat_cut (fS _)) (fS [oddP c])))) rfl) ?h4 ?h5 (.inr (flat_app (flat_app (flat_cut (fS _)) (fS [oddP c])) (flat_cut (fS _))))) rfl
    case h1 => exact dl_of (r := .own (cutG (ps.map D.str) none (some p))) (de_slL (lv := false) (by walk_at "l") do_none (do_some (by walk_at "e")) (.inr (fS _))) rfl
    case h2 => exact dl_of (r := .own [D.str (oddP c)]) (by walk_at "e") rfl
    case h3 => rw [eC, List.length_map, List.length_singleton]; omega
    case h4 => exact dl_of (r := .own (cutG (ps.map D.str) (some (p + 1)) none)) (de_slL (lv := false) (by walk_at "l") (do_some (by walk_at "e")) do_none (.inr (fS _))) rfl
    case h5 => rw [List.length_append, eC, eC, List.length_map, List.length_map, List.length_singleton]; omega
  have w3 := of_decide_eq_false hx
  refine' dss_cons (ds_if (x := decide (w = 4)) ?_ (fun hx => ?_) (fun hx => dss_nil ?_))
  · walk_at "t"
  · have e : spw t ps w a p c = t ++ endP c := by unfold spw; rw [if_neg w0, if_neg w1, if_neg w2, if_neg w3, if_pos (of_decide_eq_true hx)]
    have el := end_len c
    have ea := end_at c
    rw [e]
    refine' dss_one (ds_ret (de_catS (s := t) (t := endP c) ?h1 (de_of (lv := false) (dl_ixL (lv := false) (ds := [D.str ", ", D.str ",", D.str " ", D.str "\n"]) ?h2 ?h3 ea (fun _ _ => rfl)) (.inr (.str _))) (by omega)) rfl)
    case h1 => walk_at "e"
    case h2 => walk_at "l"
    case h3 => walk_at "e"
  have w4 := of_decide_eq_false hx
  refine' dss_cons (ds_if (x := decide (w = 5)) ?_ (fun hx => ?_) (fun hx => dss_nil ?_))
  · walk_at "t"
  · have e : spw t ps w a p c = Txt.join ", " ((cutG ps none (some p) ++ ["wet " ++ nines (59 + c % 4)]) ++ cutG ps (some (p + 1)) none) := by unfold spw; rw [if_neg w0, if_neg w1, if_neg w2, if_neg w3, if_neg w4, if_pos (of_decide_eq_true hx)]
    have hz := hS.three (wet_len c) none (some p) (some (p + 1)) none
    have c40 := Int.emod_nonneg c (show (4 : Int) ≠ 0 by decide)
    have c41 := Int.emod_lt_of_pos c (show (0 : Int) < 4 by decide)
    have n9 := nines_len (k := 59 + c % 4) (by omega) (by omega)
    have ew : ("wet " : Str).length = 4 := by decide +kernel
    rw [e]
    refine' dss_one (ds_ret (de_join (ys := ((cutG ps none (some p) ++ ["wet " ++ nines (59 + c % 4)]) ++ cutG ps (some (p + 1)) none)) de_str (dl_eqL ?hj ?ej) (by omega)) rfl)
    case ej => rw [List.map_append, List.map_append, ← eC, ← eC]
    case hj =>
    refine' dl_of (r := .own ((cutG (ps.map D.str) none (some p) ++ [D.str ("wet " ++ nines (59 + c % 4))]) ++ cutG (ps.map D.str) (some (p + 1)) none)) (de_cat (lv := false) (dl_of (r := .own (cutG (ps.map D.str) none (some p) ++ [D.str ("wet " ++ nines (59 + c % 4))])) (de_cat (lv := false) ?h1 ?h2 ?h3 (.inr (flat_app (flat_cut (fS _)) (fS ["wet " ++ nines (59 + c % 4)])))) rfl) ?h4 ?h5 (.inr (flat_app (flat_app (flat_cut (fS _)) (fS ["wet " ++ nines (59 + c % 4)])) (flat_cut (fS _))))) rfl
    case h1 => exact dl_of (r := .own (cutG (ps.map D.str) none (some p))) (de_slL (lv := false) (by walk_at "l") do_none (do_some (by walk_at "e")) (.inr (fS _))) rfl
    case h2 =>
      refine' dl_of (r := .own [D.str ("wet " ++ nines (59 + c % 4))]) (de_lst (lv := true) (da_cons (dl_val (de_catS (s := "wet ") (t := nines (59 + c % 4)) de_str (de_mulS (z := "9") (n := 59 + c % 4) de_str ?hx (mul_ok (by omega) (by omega) (by decide +kernel))) (by omega))) da_nil ?h6) (.inl rfl) (by show 1 ≤ 1000000; decide)) rfl
      case hx => walk_at "e"
      case h6 => intro _; rfl
    case h3 => rw [eC, List.length_map, List.length_singleton]; omega
    case h4 => exact dl_of (r := .own (cutG (ps.map D.str) (some (p + 1)) none)) (de_slL (lv := false) (by walk_at "l") (do_some (by walk_at "e")) do_none (.inr (fS _))) rfl
    case h5 => rw [List.length_append, eC, eC, List.length_map, List.length_map, List.length_singleton]; omega
  have w5 := of_decide_eq_false hx
  have repE : ∀ (x : Str), x.length ≤ 70 → x.length + (x.length + 1) * (" 0" : Str).length ≤ 16777216 := fun x hx => by
    have e : (" 0" : Str).length = 2 := by decide +kernel
    rw [e]; omega
  refine' dss_cons (ds_if (x := decide (w = 6)) ?_ (fun hx => ?_) (fun hx => dss_nil ?_))
  · walk_at "t"
  · have e : spw t ps w a p c = Txt.join ", " ((cutG ps none (some 1)).map repP ++ cutG ps (some 1) none) := by unfold spw; rw [if_neg w0, if_neg w1, if_neg w2, if_neg w3, if_neg w4, if_neg w5, if_pos (of_decide_eq_true hx)]
    have hz := hS.rep1 none (some 1) (some 1) none
    rw [e]
    refine' dss_one (ds_ret (de_joinT (ys := ((cutG ps none (some 1)).map repP ++ cutG ps (some 1) none)) (dlt_eqL ?hj ?ej) (by omega)) rfl)
    case ej => rw [List.map_append, ← eC]
    case hj =>
    refine' dlt_of (lv := false) (R0 := .own (((cutG ps none (some 1)).map repP).map D.str ++ cutG (ps.map D.str) (some 1) none)) (det_cat (lv := false) (dlt_of (R0 := .own (((cutG ps none (some 1)).map fun x => D.str (repP x)))) (det_map (lv := false) [("_law_part", 7)] (cutG ps none (some 1)) D.str (fun x => .str (repP x)) rfl (dit_list ?h1) rfl (by omega) (.inr fun x _ => .str _) ?h2) ?h3) (dlt_of (R0 := .own (cutG (ps.map D.str) (some 1) none)) (det_of (de_slL (lv := false) ?h4 (do_some ?h5) do_none (.inr (fS _)))) rfl) ?h6 (.inr (flat_app (fS _) (flat_cut (fS _))))) rfl
    case h1 =>
      rw [← eC]
      exact dl_of (r := .own (cutG (ps.map D.str) none (some 1))) (de_slL (lv := false) (by walk_at "l") do_none (do_some (by walk_at "e")) (.inr (fS _))) rfl
    case h2 =>
      intro x hx2
      exact ⟨_, _, dgc_nm rfl rfl rfl, det_repl (z := x) (by walk_at "e") (by decide +kernel) (repE x (g3.2 x hx2)), rfl⟩
    case h3 => show some (D.lst _) = some (D.lst _); rw [List.map_map]; rfl
    case h4 => walk_at "l"
    case h5 => walk_at "e"
    case h6 => rw [eC, List.length_map, List.length_map, List.length_map]; omega
  have w6 := of_decide_eq_false hx
  refine' dss_cons (ds_if (x := decide (w = 7)) ?_ (fun hx => ?_) (fun hx => dss_nil ?_))
  · walk_at "t"
  · have e : spw t ps w a p c = Txt.join ", " (cutG ps none (some p) ++ (cutG ps (some p) none).map repP) := by unfold spw; rw [if_neg w0, if_neg w1, if_neg w2, if_neg w3, if_neg w4, if_neg w5, if_neg w6, if_pos (of_decide_eq_true hx)]
    have hz := hS.rep2 none (some p) (some p) none
    rw [e]
    refine' dss_one (ds_ret (de_joinT (ys := (cutG ps none (some p) ++ (cutG ps (some p) none).map repP)) (dlt_eqL ?hj ?ej) (by omega)) rfl)
    case ej => rw [List.map_append, ← eC]
    case hj =>
    refine' dlt_of (lv := false) (R0 := .own (cutG (ps.map D.str) none (some p) ++ ((cutG ps (some p) none).map repP).map D.str)) (det_cat (lv := false) (dlt_of (R0 := .own (cutG (ps.map D.str) none (some p))) (det_of (de_slL (lv := false) ?h4 do_none (do_some ?h5) (.inr (fS _)))) rfl) (dlt_of (R0 := .own (((cutG ps (some p) none).map fun x => D.str (repP x)))) (det_map (lv := false) [("_law_part", 7)] (cutG ps (some p) none) D.str (fun x => .str (repP x)) rfl (dit_list ?h1) rfl (by omega) (.inr fun x _ => .str _) ?h2) ?h3) ?h6 (.inr (flat_app (flat_cut (fS _)) (fS _)))) rfl
    case h1 =>
      rw [← eC]
      exact dl_of (r := .own (cutG (ps.map D.str) (some p) none)) (de_slL (lv := false) (by walk_at "l") (do_some (by walk_at "e")) do_none (.inr (fS _))) rfl
    case h2 =>
      intro x hx2
      exact ⟨_, _, dgc_nm rfl rfl rfl, det_repl (z := x) (by walk_at "e") (by decide +kernel) (repE x (g2.2 x hx2)), rfl⟩
    case h3 => show some (D.lst _) = some (D.lst _); rw [List.map_map]; rfl
    case h4 => walk_at "l"
    case h5 => walk_at "e"
    case h6 => rw [eC, List.length_map, List.length_map, List.length_map]; omega
  have w7 := of_decide_eq_false hx
  have e : spw t ps w a p c = t := by unfold spw; rw [if_neg w0, if_neg w1, if_neg w2, if_neg w3, if_neg w4, if_neg w5, if_neg w6, if_neg w7]
  rw [e]
  walk_at "ret"
  rfl
end
/-! ## asked, and the law -/
theorem layM_len2 (b : List Row) (g : Str) (n : Int) : lenB (layM b g n) = lenB b + n := by
  unfold layM
  split
  · rename_i h; rw [h, Int.add_zero]
  · have q : lenB (b ++ [(g, n)]) = lenB b + n := by rw [lenB_app, lenB_cons]; show _ + (n + 0) = _; omega
    split
    · rename_i r hr
      split
      · have e : b.dropLast ++ [r] = b := by
          obtain ⟨ys, rfl⟩ := List.getLast?_eq_some_iff.mp hr
          rw [List.dropLast_concat]
        have q2 : lenB b = lenB b.dropLast + r.2 := by
          have := lenB_app b.dropLast [r]
          rw [e, lenB_cons] at this
          rw [this]; show _ + (r.2 + 0) = _; omega
        rw [lenB_app, lenB_cons]
        show _ + ((n + r.2) + 0) = _
        omega
      · exact q
    · exact q
theorem fold_len2 : ∀ (b acc : List Row), lenB (b.foldl (fun b r => layM b r.1 r.2) acc) = lenB acc + lenB b
  | [], acc => (Int.add_zero _).symm
  | r :: b, acc => by
    rw [List.foldl_cons, fold_len2 b, layM_len2, lenB_cons]; omega
theorem tidyM_len2 (b : List Row) : lenB (tidyM b) = lenB b := by
  have := fold_len2 b []
  unfold tidyM
  rw [this]
  show 0 + _ = _
  omega
theorem layM_all {p : Row → Prop} {b : List Row} {g : Str} {n : Int} (h : ∀ r ∈ b, p r) (h1 : n ≠ 0 → p (g, n)) (h2 : ∀ m, p (g, m) → n ≠ 0 → p (g, n + m)) : ∀ r ∈ layM b g n, p r := by
  unfold layM
  split
  · exact h
  · rename_i hn
    have q : ∀ r ∈ b ++ [(g, n)], p r := fun r hr => by
      rcases List.mem_append.mp hr with hr | hr
      · exact h r hr
      · rw [List.mem_singleton.mp hr]; exact h1 hn
    split
    · rename_i r hr
      split
      · rename_i hg
        intro x hx
        have hm := List.mem_of_getLast? hr
        rcases List.mem_append.mp hx with hx | hx
        · exact h x (List.dropLast_subset _ hx)
        · rw [List.mem_singleton.mp hx]
          refine h2 r.2 ?_ hn
          have := h r hm
          rw [← hg]; exact this
      · exact q
    · exact q
theorem tidyM_all {p : Row → Prop} (b : List Row) (h : ∀ r ∈ b, r.2 ≠ 0 → p r) (h2 : ∀ g n m, p (g, n) → p (g, m) → p (g, n + m)) : ∀ r ∈ tidyM b, p r := by
  have : ∀ (b acc : List Row), (∀ r ∈ b, r.2 ≠ 0 → p r) → (∀ r ∈ acc, p r) → ∀ r ∈ b.foldl (fun b r => layM b r.1 r.2) acc, p r := by
    intro b
    induction b with
    | nil => intro acc _ h; exact h
    | cons r b ih =>
      intro acc h1 h3
      rw [List.foldl_cons]
      exact ih _ (fun q hq => h1 q (.tail _ hq)) (layM_all h3 (fun hn => h1 r (.head _) hn) fun m hm hn => h2 r.1 r.2 m (h1 r (.head _) hn) hm)
  exact this b [] h fun _ h => by cases h
theorem mem_lenB : ∀ {b : List Row}, (∀ r ∈ b, 0 ≤ r.2) → ∀ r ∈ b, r.2 ≤ lenB b
  | [], _, r, hr => by cases hr
  | a :: b, h, r, hr => by
    have h1 := h a (.head _)
    have nn : 0 ≤ lenB b := by
      clear hr
      induction b with
      | nil => exact Int.le_refl _
      | cons x b ih =>
        have hx := h x (.tail _ (.head _))
        rw [lenB_cons]
        have := ih fun q hq => by
          rcases List.mem_cons.mp hq with rfl | hq
          · exact h1
          · exact h q (.tail _ (.tail _ hq))
        omega
    rw [lenB_cons]
    rcases List.mem_cons.mp hr with rfl | hr
    · omega
    · have := mem_lenB (fun q hq => h q (.tail _ hq)) r hr; omega
theorem lenB_le (m : Int) : ∀ b : List Row, (∀ r ∈ b, r.2 ≤ m) → lenB b ≤ (b.length : Nat) * m
  | [], _ => by show (0 : Int) ≤ ((0 : Nat) : Int) * m; omega
  | a :: b, h => by
    have h1 := h a (.head _)
    have h2 := lenB_le m b fun q hq => h q (.tail _ hq)
    rw [lenB_cons, List.length_cons]
    have e : (((b.length + 1 : Nat) : Int) * m) = (b.length : Nat) * m + m := by rw [Int.natCast_add, Int.add_mul]; simp
    rw [e]; omega
theorem tidy_big {rows : List Row} (hl : rows.length ≤ 24) (h : BigR 58 rows) : BigR 60 (tidyM rows) := by
  have hg := tidyM_okG rows fun r hr => (h r hr).1
  have hp := tidyM_all (p := fun r => 0 < r.2) rows (fun r hr hn => by have := (h r hr).2.1; show 0 < r.2; omega) fun g n m h1 h2 => by
    have : 0 < n := h1
    have : 0 < m := h2
    show 0 < n + m; omega
  intro r hr
  have h1 := mem_lenB (fun q hq => Int.le_of_lt (hp q hq)) r hr
  rw [tidyM_len2] at h1
  have h2 := lenB_le (10 ^ 58) rows fun q hq => Int.le_of_lt (h q hq).2.2
  have h3 : ((rows.length : Nat) : Int) * 10 ^ 58 ≤ 24 * 10 ^ 58 := Int.mul_le_mul_of_nonneg_right (by omega) (by decide +kernel)
  have h4 : (24 : Int) * 10 ^ 58 < 10 ^ 60 := by decide +kernel
  exact ⟨hg r hr, Int.le_of_lt (hp r hr), by omega⟩
theorem BigR.mono {b : List Row} (h : BigR 58 b) : BigR 60 b := fun r hr => by
  obtain ⟨h1, h2, h3⟩ := h r hr
  exact ⟨h1, h2, Int.lt_of_lt_of_le h3 (by decide +kernel)⟩
theorem BigR.good {k : Nat} {b : List Row} (h : BigR k b) : GoodR b := fun r hr => ⟨(h r hr).1, (h r hr).2.1⟩
structure Er8 (M : Mo) (X : Addr) (os : List (String × Addr)) : Prop where
  own : ∃ BE, M.mg "BankError" = some (.ref BE) ∧ PySem.W.exmOne M.K (.ref X) (.ref BE) = some true
  ve : M.mg "ValueError" = none
  g : M.mg "NoText" = some (.ref X)
  x : ExcC M.K X
  xf : XfC M.K X
  no : PySem.W.findIn M.K (.ref X) "place" = some none
  kv : PySem.W.kitOne M.K (.ref X) (.type "ValueError") = some true
  ko : PySem.W.kitOne M.K (.ref X) (.ref X) = some true
  ka : PySem.W.kitAny M.K (.ref X) (os.map fun p => .ref p.2) = some false
  os : ∀ p ∈ os, M.mg (Str.ofString p.1) = some (.ref p.2)
def oth08 (a b c d e g : Addr) : List (String × Addr) := [("NoGround", a), ("NoHeirs", b), ("NoLength", c), ("Odd", d), ("OffBank", e), ("Uneven", g)]
def refD (k : Int) : D := .tup [.str "refused", .int k]
def dueR : Nat ⊕ List Row → R
  | .inr rows => .own (rows.map encRow)
  | .inl k => .val (.int (k : Nat))
def askR : Nat ⊕ List Row → R
  | .inr rows => .own ((tidyM rows).map encRow)
  | .inl k => .val (refD (k : Nat))
theorem flat_ref (k : Int) : Flat (refD k) := by unfold refD; walk_at "fl"
theorem flat_ask (x : Nat ⊕ List Row) : (askR x).Flat := by
  cases x with
  | inr rows => exact flat_rows _
  | inl k => exact flat_ref _
theorem flat_due (x : Nat ⊕ List Row) : (dueR x).Flat := by
  cases x with
  | inr rows => exact flat_rows _
  | inl k => exact Flat.int _
def F_asked (ds : List D) (o : Out) : Prop := (∃ t : Str, ds = [.str t] ∧ t.length ≤ 90000 ∧ o = .ok (askR (readM t))) ∨ (∃ (d : D) (n : String), ds = [d] ∧ d.ty = some n ∧ kitB n "str" = some false ∧ o = ok (refD 0))
def F_ref8 (ds : List D) (o : Out) : Prop := ∃ k : Int, ds = [refD k, .int k] ∧ o = ok (.bl true)
def F_law (ds : List D) (o : Out) : Prop := ∃ (ns : List Int), ds = [.scr ns] ∧ ns.length ≤ 63 ∧ o = ok (.bl true)
def thsD : List D := [.int 5, .non, .bl true, .lst [.str "dry 1"], .tup [.str "wet 1"]]
def thD (c : Int) : D := thsD.getD (c % 5).toNat .non
theorem th_at (c : Int) : atI thsD (c % 5) = some (thD c) ∧ thD c ∈ thsD := getD_at (Int.emod_nonneg _ (by decide)) (by have := Int.emod_lt_of_pos c (show (0 : Int) < 5 by decide); show c % 5 < ((5 : Nat) : Int); omega)
theorem th_ty (c : Int) : ∃ n, (thD c).ty = some n ∧ kitB n "str" = some false := by
  have hm := (th_at c).2
  generalize thD c = d at hm
  simp only [thsD, List.mem_cons, List.not_mem_nil, or_false] at hm
  rcases hm with rfl | rfl | rfl | rfl | rfl
  · exact ⟨_, rfl, by decide +kernel⟩
  · exact ⟨_, rfl, by decide +kernel⟩
  · exact ⟨_, rfl, by decide +kernel⟩
  · exact ⟨_, rfl, by decide +kernel⟩
  · exact ⟨_, rfl, by decide +kernel⟩
section
variable {M : Mo} {f : Addr} {fd : FuncData}
theorem ok_law_asked {NT A0 A1 A2 A3 A4 A5 : Addr} (T : Nn M) (E : Er8 M NT (oth08 A0 A1 A2 A3 A4 A5)) (c1 : Cal M "read" (F_read NT)) (F : Fun M.K "_law_asked" "_law_asked" s_law_asked f fd) : FnOk M.P M.w M.K M.mg M.base (L2.CX M.P M.w) (M.k + 1) f fd ["_law_thing"] (spOf M.K F_asked) := by
  obtain ⟨_, _, _, _, n_isi, _⟩ := T
  obtain ⟨⟨BE, m1, m2⟩, n_ve, g1, ex, xf, no, kv, ko, ka, os⟩ := E
  have q0 := os _ (.head _)
  have q1 := os _ (.tail _ (.head _))
  have q2 := os _ (.tail _ (.tail _ (.head _)))
  have q3 := os _ (.tail _ (.tail _ (.tail _ (.head _))))
  have q4 := os _ (.tail _ (.tail _ (.tail _ (.tail _ (.head _)))))
  have q5 := os _ (.tail _ (.tail _ (.tail _ (.tail _ (.tail _ (.head _))))))
  refine fn_data F sc_law_asked (fun ds o h => by rcases h with ⟨t, h, _⟩ | ⟨d, n, h, _⟩ <;> rw [h] <;> rfl) (fun ds o h => ?_)
  -- where it is refused
  have bad : ∀ (d : D) (k : Int), F_read NT [d] (.error ⟨NT, some ("place", .int k)⟩) → o = ok (refD k) → ds = [d] → DSs (C_law_asked M) (defBody s_law_asked) (startS ["_law_thing", "_law_caught", "_law_found", "e", "_law_good"] ds) (postOf o) := by
    intro d k hc ho hd
    subst ho hd
    have ty : TyZ M.K (.exc NT (some ("place", .int k))) (.ref NT) := .inr ⟨NT, _, rfl, rfl, ex⟩
    walk_at "let"
    walk_at "let"
    refine' dss_cons (ds_try 1 3 rfl rfl rfl (by decide) (of_decide_eq_true rfl) rfl rfl rfl rfl m1 ?h)
    case h =>
      refine' dss_one (ds_letO (o := .error ⟨NT, some ("place", .int k)⟩) ?he rfl rfl (of_decide_eq_true rfl) (fun r er => nomatch er) ?hx (fun _ => rfl))
      case he => walk_at "e"
      case hx =>
        intro x er; cases er
        refine ⟨true, m2, fun _ => ⟨of_decide_eq_true rfl, of_decide_eq_true rfl, ?_⟩, fun q => nomatch q⟩
        refine' dss_cons (ds_ifF (x := (D.exc NT (some ("place", .int k))).isNon) (dt_isN ?ha) rfl (dss_nil ?_))
        case ha => walk_at "l"
        refine' dss_cons (ds_let (r := .val (.bl (true && true))) (de_and (de_isZ rfl n_isi (.own NT rfl g1) ?hb ty ko) (fun _ => de_one (de_isZ rfl n_isi (.ty "ValueError" rfl n_ve PyProof.Rows.Boot.«ValueError» (by decide)) ?hc ty kv))) rfl rfl (of_decide_eq_true rfl) ?hn ?hs)
        case hs => intro _; rfl
        case hb => walk_at "l"
        case hc => walk_at "l"
        refine' dss_cons (ds_ifF (x := !(true && true) || false) (dt_w (dw_or (dt_not (dt_val ?hd1)) (fun _ => dw_or1 (dt_val (de_isZT rfl n_isi (.cons (.own A0 rfl q0) (.cons (.own A1 rfl q1) (.cons (.own A2 rfl q2) (.cons (.own A3 rfl q3) (.cons (.own A4 rfl q4) (.cons (.own A5 rfl q5) .nil)))))) (by show 6 ≤ 1000000; decide) ?he1 ty ka))))) rfl (dss_nil ?_))
        case hd1 => walk_at "e"
        case he1 => walk_at "l"
        refine' dss_one (ds_ret (r := .val (refD k)) (de_tup (lv := true) (da_cons (dl_val de_str) (da_cons (dl_val (de_xf (v := .int k) xf no ?hf1 (fun _ _ => .int _) ?hg1)) da_nil ?hh1) ?hi1) (.inl rfl) (by show 2 ≤ 1000000; decide)) rfl)
        case hf1 => walk_at "l"
        case hg1 => intro _; rfl
        case hh1 => intro _; rfl
        case hi1 => intro _; rfl
  rcases h with ⟨t, hd, hl, ho⟩ | ⟨d, n, hd, ht, hk, ho⟩
  · cases hR : readM t with
    | inl k => exact bad (.str t) (k : Nat) (.inl ⟨t, rfl, hl, .inr ⟨k, hR, rfl⟩⟩) (by rw [ho, hR]; rfl) hd
    | inr rows =>
      rw [hR] at ho
      subst ho hd
      have hc : F_read NT [.str t] (.ok (.own ((tidyM rows).map encRow))) := .inl ⟨t, rfl, hl, .inl ⟨rows, hR, rfl⟩⟩
      have fl := flat_rows (tidyM rows)
      walk_at "let"
      walk_at "let"
      refine' dss_cons (ds_try 1 3 rfl rfl rfl (by decide) (of_decide_eq_true rfl) rfl rfl rfl rfl m1 ?h)
      case h =>
        refine' dss_one (ds_let (r := .own ((tidyM rows).map encRow)) (de_fnR (lv := false) c1 rfl ?ha hc (.inr fl) ?hs1 ?hp1) rfl rfl (of_decide_eq_true rfl) ?hnb ?hs)
        case hs => intro _; rfl
        case hs1 => intro _; rfl
        case hp1 => intro _; rfl
        case ha => walk_at "a"
        refine' dss_cons (ds_ifT (x := true) (dt_isN (d := .non) ?ha2) rfl ?hr)
        case ha2 => walk_at "l"
        case hr => exact dss_one (ds_retO1 rfl rfl rfl rfl)
  · exact bad d 0 (.inr ⟨d, n, rfl, ht, hk, rfl⟩) ho hd
theorem ok_law_bank (T : Nn M) (n_str : M.mg "str" = none) (c1 : Cal M "_law_whole" F_whole) (F : Fun M.K "_law_bank" "_law_bank" s_law_bank f fd) : FnOk M.P M.w M.K M.mg M.base (L2.CX M.P M.w) (M.k + 1) f fd ["_law_found", "_law_due"] (spOf M.K F_lbank) := by
  obtain ⟨_, _, _, n_len, n_isi, _, _, n_tup, n_list, _⟩ := T
  have b1 : bootBuiltins "tuple" = some (.type "tuple") := PyProof.Rows.Boot.«tuple»
  have b2 := boot_list
  have b3 := boot_str
  refine fn_data F sc_law_bank (fun ds o ⟨b, h, _⟩ => by rw [h]; rfl) (fun ds o ⟨b, h1, hl, hok, h2⟩ => ?_)
  subst h1 h2
  refine' dss_cons (ds_ifF (x := !true || !decide ((((b.map encRow).length : Nat) : Int) = (((b.map encRow).length : Nat) : Int))) ?ht ?hx (dss_nil ?_))
  case ht => walk_at "t"
  case hx => rw [decide_eq_true rfl]; rfl
  refine' dss_cons (ds_for' (items := b.map encRow) (fun i S' => ∃ s, S' = [.val (encB b), .val (encB b), s]) rfl (dit_list ?_) ?_ (fun i d S' hd hI => ?_) (fun S' hI => ?_) (fun _ _ => rfl))
  · walk_at "l"
  · exact ⟨_, rfl⟩
  · obtain ⟨s, rfl⟩ := hI
    obtain ⟨r, hr, rfl⟩ := map_get hd
    have hw : F_whole [.int r.2] (ok (.bl true)) := ⟨_, rfl, rfl⟩
    walk_at "g1"
    refine' dss_cons (ds_ifF (x := !true || !decide (((([D.str r.1, D.int r.2] : List D).length : Nat) : Int) = 2)) ?ht rfl (dss_nil ?_))
    case ht => walk_at "t"
    refine' dss_one (ds_ifF (x := !true || !true) ?ht rfl (dss_nil ?_))
    case ht => walk_at "t"
    exact ⟨_, rfl⟩
  · obtain ⟨s, rfl⟩ := hI
    refine' dss_one (ds_ret (de_eqD (x := true) (da := encB b) 2 ?ha ?hb (pl_bank hok) (pl_bank hok) ⟨fun _ => rfl, fun _ => rfl⟩ (by decide)) ?hp)
    case ha => walk_at "l"
    case hb => walk_at "l"
    case hp => rfl
theorem ok_law_refused (T : Nn M) (c1 : Cal M "_law_whole" F_whole) (F : Fun M.K "_law_refused" "_law_refused" s_law_refused f fd) : FnOk M.P M.w M.K M.mg M.base (L2.CX M.P M.w) (M.k + 1) f fd ["_law_found", "_law_place"] (spOf M.K F_ref8) := by
  obtain ⟨_, _, _, n_len, n_isi, _, _, n_tup, n_list, _⟩ := T
  have b1 : bootBuiltins "tuple" = some (.type "tuple") := PyProof.Rows.Boot.«tuple»
  refine fn_data F sc_law_refused (fun ds o ⟨k, h, _⟩ => by rw [h]; rfl) (fun ds o ⟨k, h1, h2⟩ => ?_)
  subst h1 h2
  have hw : F_whole [.int k] (ok (.bl true)) := ⟨_, rfl, rfl⟩
  refine' dss_cons (ds_ifF (x := !true || (!decide (((([D.str "refused", D.int k] : List D).length : Nat) : Int) = 2) || !decide (("refused" : Str) = "refused"))) ?ht ?hx (dss_nil ?_))
  case ht => walk_at "t"
  case hx => rw [decide_eq_true (rfl : ("refused" : Str) = "refused")]; rfl
  refine' dss_one (ds_ret (r := .val (.bl (true && decide (k = k)))) ?he ?hp)
  case he => walk_at "e"
  case hp => rw [decide_eq_true rfl]; rfl
end
/-! ## the law -/
def cs8 (ns : List Int) : List Int := cutG ns (some 4) (some 28)
theorem cs8_len (ns : List Int) (h : ns.length ≤ 63) : (cs8 ns).length ≤ 24 := by
  show ((ns.drop (if (4 : Int) < 0 then ((4 : Int) + (ns.length : Int)).toNat else min (4 : Int).toNat ns.length)).take ((if (28 : Int) < 0 then ((28 : Int) + (ns.length : Int)).toNat else min (28 : Int).toNat ns.length) - (if (4 : Int) < 0 then ((4 : Int) + (ns.length : Int)).toNat else min (4 : Int).toNat ns.length))).length ≤ 24
  rw [if_neg (by decide), if_neg (by decide), List.length_take, List.length_drop]
  have e1 : (4 : Int).toNat = 4 := rfl
  have e2 : (28 : Int).toNat = 28 := rfl
  rw [e1, e2]
  omega
theorem text_one (r : Row) : textM [r] = shR r := by
  show Txt.join ", " [shR r] = _
  rw [TL.join_eq]; rfl
theorem lread_ok {t : Str} (h : t.length ≤ 90000) : F_lread [.str t] (.ok (dueR (readM t))) := ⟨t, rfl, h, by cases readM t <;> rfl⟩
theorem text_len {b : List Row} (hl : b.length ≤ 100) (hb : BigR 60 b) : (textM b).length ≤ 12000 := Nat.le_trans (join_len _ _) (Nat.le_trans (text_fits hl hb) (by decide))
/-! tidied twice -/
structure Alt (b : List Row) : Prop where
  pos : ∀ r ∈ b, 0 < r.2
  ne : ∀ (i : Nat) (r q : Row), b[i]? = some r → b[i + 1]? = some q → r.1 ≠ q.1
theorem Alt.left {a b : List Row} (h : Alt (a ++ b)) : Alt a := ⟨fun r hr => h.pos r (List.mem_append_left _ hr), fun i r q h1 h2 => by
  have l2 := (List.getElem?_eq_some_iff.mp h2).1
  exact h.ne i r q (by rw [List.getElem?_append_left (by omega)]; exact h1) (by rw [List.getElem?_append_left l2]; exact h2)⟩
theorem Alt.last {a : List Row} {x y : Row} (h : Alt (a ++ [x, y])) : x.1 ≠ y.1 :=
  h.ne a.length x y (by rw [List.getElem?_append_right (Nat.le_refl _), Nat.sub_self]; rfl) (by rw [List.getElem?_append_right (by omega), show a.length + 1 - a.length = 1 by omega]; rfl)
theorem Alt.snoc {b : List Row} {x : Row} (h : Alt b) (hl : ∀ r, b.getLast? = some r → r.1 ≠ x.1) (hx : 0 < x.2) : Alt (b ++ [x]) := ⟨fun r hr => by
  rcases List.mem_append.mp hr with hr | hr
  · exact h.pos r hr
  · rw [List.mem_singleton.mp hr]; exact hx, fun i r q h1 h2 => by
  have l2 := (List.getElem?_eq_some_iff.mp h2).1
  rw [List.length_append, List.length_singleton] at l2
  rw [List.getElem?_append_left (by omega)] at h1
  by_cases hc : i + 1 < b.length
  · rw [List.getElem?_append_left hc] at h2
    exact h.ne i r q h1 h2
  · rw [List.getElem?_append_right (by omega), show i + 1 - b.length = 0 by omega] at h2
    cases h2
    refine hl r ?_
    rw [List.getLast?_eq_getElem?, show b.length - 1 = i by omega]; exact h1⟩
theorem alt_lay {b : List Row} {g : Str} {n : Int} (h : Alt b) (hn : 0 ≤ n) : Alt (layM b g n) := by
  unfold layM
  split
  · exact h
  · rename_i hne
    rcases List.eq_nil_or_concat b with rfl | ⟨b', r, rfl⟩
    · exact Alt.snoc (b := []) h (fun r hr => by cases hr) (by show 0 < n; omega)
    · rw [List.concat_eq_append] at h ⊢
      rw [List.getLast?_append, List.getLast?_singleton]
      show Alt (if r.1 = g then (b' ++ [r]).dropLast ++ [(g, n + r.2)] else (b' ++ [r]) ++ [(g, n)])
      have hr := h.pos r (by simp)
      split
      · rename_i hg
        rw [List.dropLast_concat]
        refine h.left.snoc (fun q hq => ?_) (by show 0 < n + r.2; omega)
        obtain ⟨ys, rfl⟩ := List.getLast?_eq_some_iff.mp hq
        rw [List.append_assoc] at h
        have := h.last
        rw [hg] at this; exact this
      · rename_i hg
        refine h.snoc (fun q hq => ?_) (by show 0 < n; omega)
        rw [List.getLast?_append, List.getLast?_singleton] at hq
        cases hq; exact hg
theorem alt_tidy {rows : List Row} (h : ∀ r ∈ rows, 0 ≤ r.2) : Alt (tidyM rows) := by
  have : ∀ (rows acc : List Row), (∀ r ∈ rows, 0 ≤ r.2) → Alt acc → Alt (rows.foldl (fun b r => layM b r.1 r.2) acc) := by
    intro rows
    induction rows with
    | nil => intro acc _ h; exact h
    | cons r rows ih =>
      intro acc h1 h2
      rw [List.foldl_cons]
      exact ih _ (fun q hq => h1 q (.tail _ hq)) (alt_lay h2 (h1 r (.head _)))
  exact this rows [] h ⟨fun _ h => (by cases h), fun i r q h => (by cases h)⟩
theorem tidy_id : ∀ (n : Nat) (b : List Row), b.length = n → Alt b → tidyM b = b
  | 0, b, hl, _ => by rw [List.eq_nil_of_length_eq_zero hl]; rfl
  | n + 1, b, hl, h => by
    rcases List.eq_nil_or_concat b with rfl | ⟨b', x, rfl⟩
    · rfl
    · rw [List.concat_eq_append] at h hl ⊢
      rw [List.length_append, List.length_singleton] at hl
      have hx := h.pos x (by simp)
      rw [tidyM_snoc, tidy_id n b' (by omega) h.left]
      unfold layM
      rw [if_neg (by omega)]
      rcases List.eq_nil_or_concat b' with rfl | ⟨c, y, rfl⟩
      · rfl
      · rw [List.concat_eq_append] at h ⊢
        rw [List.getLast?_append, List.getLast?_singleton]
        show (if y.1 = x.1 then _ else (c ++ [y]) ++ [(x.1, x.2)]) = _
        rw [List.append_assoc] at h
        rw [if_neg h.last]
theorem pl_shs (l : List (List Pc)) : Pl 3 (.lst (l.map shD)) := .lst fun d hd => by
  obtain ⟨s, _, rfl⟩ := List.mem_map.mp hd
  exact pl_sh s
section
variable {M : Mo} {f : Addr} {fd : FuncData}
set_option maxHeartbeats 4000000 in
theorem ok_law (T : Nn M) (n_str : M.mg "str" = none) (c1 : Cal M "_law_cell_at" F_cell) (c2 : Cal M "_law_row" F_row) (c3 : Cal M "_law_tidy" F_due) (c4 : Cal M "_law_text" F_shown) (c5 : Cal M "_law_spoilt" F_spoilt) (c6 : Cal M "_law_read" F_lread) (c7 : Cal M "_law_asked" F_asked) (c8 : Cal M "_law_bank" F_lbank) (c9 : Cal M "_law_refused" F_ref8) (c10 : Cal M "shown" F_shown) (c11 : Cal M "_law_shares" F_lsh) (c12 : Cal M "shown_shares" F_shSs) (c13 : Cal M "_law_shares_text" F_shSs) (F : Fun M.K "law" "law" s_law f fd) : FnOk M.P M.w M.K M.mg M.base (L2.CX M.P M.w) (M.k + 1) f fd ["_law_script"] (spOf M.K F_law) := by
  obtain ⟨_, _, _, n_len, n_isi, _, _, _, n_list, _⟩ := T
  have b2 := boot_list
  have b3 := boot_str
  refine fn_data F sc_law (fun ds o ⟨ns, h, _⟩ => by rw [h]; rfl) (fun ds o ⟨ns, h1, hn, h2⟩ => ?_)
  subst h1 h2
  have hc1 : F_cell [.scr ns, .int 1] (ok (.int (cellM ns 1))) := ⟨ns, 1, rfl, by decide, by omega, rfl⟩
  have hcl := cs8_len ns hn
  refine' dss_cons (ds_setLc (lv := true) 1 [("_law_cell", 13)] (cs8 ns) D.int (fun c => encRow (row8 c)) (fun _ => true) rfl rfl (of_decide_eq_true rfl) rfl rfl rfl rfl (dit_list (ds := (cs8 ns).map D.int) ?hl1) (anyS_ok rfl) (by omega) (.inl rfl) ?he1 ?hP ?hf1)
  case hf1 => intro _ _; rfl
  case hl1 => exact dl_of (r := .own ((cutG ns (some 4) (some 28)).map D.int)) (by walk_at "e") rfl
  case he1 =>
    intro c _
    have hr : F_row [.int c] (ok (encRow (row8 c))) := ⟨c, rfl, rfl⟩
    refine ⟨_, .val (encRow (row8 c)), dgc_nm rfl rfl rfl, dts_nil, fun _ => ⟨?_, rfl⟩⟩
    refine' de_fnR (lv := true) c2 rfl ?ha hr (.inl rfl) ?hs ?hp
    case ha => walk_at "a"
    case hs => intro _; rfl
    case hp => intro _; rfl
  case hP =>
  have erow : ((cs8 ns).filter fun _ => true).map (fun c => encRow (row8 c)) = ((cs8 ns).map row8).map encRow := by
    rw [List.filter_eq_self.mpr fun _ _ => rfl, List.map_map]; rfl
  rw [erow]
  have hbig : BigR 58 ((cs8 ns).map row8) := fun r hr => by
    obtain ⟨c, _, rfl⟩ := List.mem_map.mp hr
    exact row8_big c
  have hlen : ((cs8 ns).map row8).length ≤ 24 := by rw [List.length_map]; omega
  generalize (cs8 ns).map row8 = rows at *
  have h60 := hbig.mono
  have htb := tidy_big hlen hbig
  have hlt := tidyM_len rows
  have hgood := hbig.good
  have hokt := tidyM_okG rows fun r hr => (hgood r hr).1
  have fr := flat_rows rows
  have ft := flat_rows (tidyM rows)
  have tl := text_len (b := rows) (by omega) h60
  have tl2 := text_len (b := tidyM rows) (by omega) htb
  have d1 : F_due [encB rows] (.ok (.own ((tidyM rows).map encRow))) := ⟨rows, rfl, by omega, hgood, rfl⟩
  have x1 : F_shown [encB rows] (ok (.str (textM rows))) := ⟨rows, rfl, by omega, h60, rfl⟩
  have x2 : F_shown [encB (tidyM rows)] (ok (.str (textM (tidyM rows)))) := ⟨_, rfl, by omega, htb, rfl⟩
  have sz : Spo (textM rows) (rows.map shR) := ⟨tl, by rw [List.length_map]; exact hlen, fun x hx => by
    obtain ⟨r, hr, rfl⟩ := List.mem_map.mp hx
    obtain ⟨g1, g2, g3⟩ := hbig r hr
    have := shR_len (k := 58) (by decide) g1 g2 g3
    omega⟩
  have x3 : F_spoilt [.str (textM rows), .lst ((rows.map shR).map D.str), .scr ns] (ok (.str (spoilM (textM rows) (rows.map shR) ns))) := ⟨_, _, ns, rfl, hn, sz.t, sz.n, sz.s, rfl⟩
  have sl := spoil_len sz ns
  generalize spoilM (textM rows) (rows.map shR) ns = sp at *
  have x4 := lread_ok sl
  have x5 : F_asked [.str sp] (.ok (askR (readM sp))) := .inl ⟨sp, rfl, sl, rfl⟩
  have x6 : F_asked [.str (textM rows)] (.ok (.own ((tidyM rows).map encRow))) := .inl ⟨_, rfl, by omega, by rw [read_text h60]; rfl⟩
  have x7 : F_asked [.str (textM (tidyM rows))] (.ok (.own ((tidyM (tidyM rows)).map encRow))) := .inl ⟨_, rfl, by omega, by rw [read_text htb]; rfl⟩
  have ett : tidyM (tidyM rows) = tidyM rows := tidy_id _ _ rfl (alt_tidy fun r hr => (hgood r hr).2)
  rw [ett] at x7
  have rlen : ∀ r2, readM sp = .inr r2 → r2.length ≤ 100000 ∧ GoodR r2 := fun r2 h => ⟨by
    unfold readM at h
    split at h
    · cases h; exact Nat.zero_le _
    · have := scan_len _ _ _ h
      have q := (split_cb sp).2
      rw [List.length_nil] at this; omega, read_good h⟩
  have fd2 := flat_due (readM sp)
  have fa2 := flat_ask (readM sp)
  have b1 : F_lbank [encB (tidyM rows), encB (tidyM rows)] (ok (.bl true)) := ⟨_, rfl, by omega, hokt, rfl⟩
  have plt := pl_bank hokt
  show DSs _ _ [.val (.scr ns), .own (rows.map encRow), .any, .any, .any, .any, .any, .any, .any, .any, .any, .any, .any, .any, .any, .any] _
  walk_at "let"
  walk_at "let"
  refine' dss_cons (ds_let (r := .val (.str sp)) (de_fnR (lv := false) c5 rfl (da_cons ?a1 (da_cons (dl_of (r := .own (rows.map fun r => .str (shR r))) (de_map (lv := false) [("_law_row_here", 14)] rows encRow (fun r => .str (shR r)) rfl (dit_list ?l1) rfl (by omega) (.inr fun r _ => flat_rows [r] _ (.head _)) ?e1) ?d1) (da_cons ?a2 da_nil ?h1) ?h2) ?h3) x3 (.inr (.str _)) ?h4 ?h5) rfl rfl (of_decide_eq_true rfl) ?hn1 ?hs)
  case hs => intro _; rfl
  case h1 => intro _; rfl
  case h2 => intro _; rfl
  case h3 => intro _; rfl
  case h4 => intro _; rfl
  case h5 => intro _; rfl
  case a1 => walk_at "l"
  case a2 => walk_at "l"
  case l1 => walk_at "l"
  case d1 => show some (D.lst _) = some (D.lst _); rw [List.map_map]; rfl
  case e1 =>
    intro r hr
    obtain ⟨g1, g2, g3⟩ := h60 r hr
    have xr : F_shown [encB [r]] (ok (.str (textM [r]))) := ⟨[r], rfl, by show 1 ≤ 100; decide, fun q hq => by rw [List.mem_singleton.mp hq]; exact ⟨g1, g2, g3⟩, rfl⟩
    rw [text_one] at xr
    have xr : F_shown [.lst [encRow r]] (ok (.str (shR r))) := xr
    have fr1 := flat_rows [r]
    refine ⟨_, .val (.str (shR r)), dgc_nm rfl rfl rfl, ?_, rfl⟩
    refine' de_fnR (lv := false) c4 rfl (da_cons (dl_of (r := .own [encRow r]) (de_lst (lv := true) ?ha (.inl rfl) (by show 1 ≤ 1000000; decide)) rfl) da_nil ?hs1) xr (.inr (.str _)) ?hs2 ?hs3
    case ha => walk_at "a"
    case hs1 => intro _; rfl
    case hs2 => intro _; rfl
    case hs3 => intro _; rfl
  refine' dss_cons (ds_let (r := dueR (readM sp)) (de_fnR (lv := false) c6 rfl ?a3 x4 (.inr fd2) ?h1 ?h2) rfl rfl (of_decide_eq_true rfl) ?hn2 ?hs)
  case hs => intro _; rfl
  case h1 => intro _; rfl
  case h2 => intro _; rfl
  case a3 => walk_at "a"
  refine' dss_cons (ds_let (r := askR (readM sp)) (de_fnR (lv := false) c7 rfl ?a4 x5 (.inr fa2) ?h1 ?h2) rfl rfl (of_decide_eq_true rfl) ?hn3 ?hs)
  case hs => intro _; rfl
  case h1 => intro _; rfl
  case h2 => intro _; rfl
  case a4 => walk_at "a"
  refine' dss_cons (ds_ifF (x := false) ?ht rfl (dss_nil ?_))
  case ht =>
    cases hR : readM sp with
    | inr r2 =>
      obtain ⟨q1, q2⟩ := rlen r2 hR
      have y1 : F_due [encB r2] (.ok (.own ((tidyM r2).map encRow))) := ⟨r2, rfl, by omega, q2, rfl⟩
      have y2 : F_lbank [encB (tidyM r2), encB (tidyM r2)] (ok (.bl true)) := ⟨_, rfl, by have := tidyM_len r2; omega, tidyM_okG r2 fun r hr => (q2 r hr).1, rfl⟩
      have fz := flat_rows (tidyM r2)
      refine' dt_cast (x := true && !true) (dt_w (dw_and ?ha (fun _ => dw_and1 (dt_not ?hb)))) rfl
      case ha => walk_at "t"
      case hb => walk_at "t"
    | inl k =>
      refine' dt_cast (x := false && true) (dt_w (dw_and (y := true) ?ha (fun h => nomatch h))) rfl
      case ha => walk_at "t"
  refine' dss_cons (ds_ifF (x := false) ?ht rfl (dss_nil ?_))
  case ht =>
    cases hR : readM sp with
    | inr r2 =>
      refine' dt_cast (x := !true && true) (dt_w (dw_and (y := true) ?ha (fun h => nomatch h))) rfl
      case ha => walk_at "t"
    | inl k =>
      have y1 : F_ref8 [refD (k : Nat), .int (k : Nat)] (ok (.bl true)) := ⟨_, rfl, rfl⟩
      refine' dt_cast (x := !false && !true) (dt_w (dw_and ?ha (fun _ => dw_and1 (dt_not ?hb)))) rfl
      case ha => walk_at "t"
      case hb => walk_at "t"
  generalize dueR (readM sp) = dR at *
  generalize askR (readM sp) = aR at *
  walk_at "let"
  refine' dss_cons (ds_ifF (x := !true) ?ht rfl (dss_nil ?_))
  case ht => walk_at "t"
  have ath := (th_at (cellM ns 1)).1
  obtain ⟨n5, ty1, ty2⟩ := th_ty (cellM ns 1)
  have x8 : F_asked [thD (cellM ns 1)] (ok (refD 0)) := .inr ⟨_, n5, rfl, ty1, ty2, rfl⟩
  have x9 : F_ref8 [refD 0, .int 0] (ok (.bl true)) := ⟨_, rfl, rfl⟩
  refine' dss_cons (ds_let (r := .val (thD (cellM ns 1))) (de_of (lv := true) (dl_ixL (lv := true) (ds := thsD) (k := cellM ns 1 % 5) ?a5 ?a6 ath ?h1) (.inl rfl)) rfl rfl (of_decide_eq_true rfl) ?hn4 ?hs)
  case hs => intro _; rfl
  case h1 => intro _ _; rfl
  case a5 => exact dl_of (r := .own thsD) (by walk_at "e") rfl
  case a6 => walk_at "e"
  refine' dss_cons (ds_ifF (x := !true) ?ht rfl (dss_nil ?_))
  case ht =>
    have fr0 := flat_ref 0
    refine' dt_not (dt_val (de_fnR (lv := false) c9 rfl (da_cons (dl_of (r := .val (refD 0)) (de_fnR (lv := false) c7 rfl ?a7 x8 (.inr fr0) ?h1 ?h2) rfl) (da_cons (dl_val de_int) da_nil ?h3) ?h4) x9 (.inr (.bl _)) ?h5 ?h6))
    case h1 => intro _; rfl
    case h2 => intro _; rfl
    case h3 => intro _; rfl
    case h4 => intro _; rfl
    case h5 => intro _; rfl
    case h6 => intro _; rfl
    case a7 => walk_at "a"
  walk_at "let"
  walk_at "let"
  refine' dss_cons (ds_ifF (x := !true || (!decide (textM (tidyM rows) = textM (tidyM rows)) || false)) (dt_w (dw_or ?ht1 (fun _ => dw_or ?ht2 (fun _ => dw_or1 (dt_neD (x := false) 2 ?ha ?hb plt plt ⟨fun h => (by cases h), fun h => absurd rfl h⟩ (by decide)))))) ?hx (dss_nil ?_))
  case ht1 => walk_at "t"
  case ht2 => walk_at "t"
  case ha => walk_at "l"
  case hb => walk_at "l"
  case hx => rw [decide_eq_true rfl]; rfl
  refine' dss_cons (ds_ifF (x := !true || false) (dt_w (dw_or ?ht1 (fun _ => dw_or1 (dt_neD (x := false) 2 ?ha ?hb plt plt ⟨fun h => (by cases h), fun h => absurd rfl h⟩ (by decide))))) rfl (dss_nil ?_))
  case ht1 => walk_at "t"
  case ha => walk_at "l"
  case hb => walk_at "l"
  have s1 : F_lsh [.scr ns] (.ok (.own ((shs8 ns).map shD))) := ⟨ns, rfl, hn, rfl⟩
  have hsl : (shs8 ns).length ≤ 63 := by unfold shs8; rw [List.length_map]; exact xs8_len ns hn
  have hso : ∀ s ∈ shs8 ns ++ [[]], ShOk s := fun s hs => by
    rcases List.mem_append.mp hs with hs | hs
    · obtain ⟨c, _, rfl⟩ := List.mem_map.mp hs; exact sh8_ok c
    · rw [List.mem_singleton.mp hs]; exact ⟨Nat.zero_le _, fun p hp => by cases hp⟩
  have es : ((shs8 ns).map shD) ++ [D.lst []] = (shs8 ns ++ [[]]).map shD := by rw [List.map_append]; rfl
  have hll : (shs8 ns ++ [[]]).length ≤ 64 := by rw [List.length_append]; show _ + 1 ≤ 64; omega
  refine' dss_cons (ds_let (r := .own (((shs8 ns).map shD) ++ [D.lst []])) (de_cat (lv := true) ?ha ?hb ?hz (.inl rfl)) rfl rfl (of_decide_eq_true rfl) ?hn5 ?hs)
  case hs => intro _; rfl
  case ha => exact dl_of (r := .own ((shs8 ns).map shD)) (de_fnR (lv := true) c11 rfl (by walk_at "a") s1 (.inl rfl) (fun _ => rfl) (fun _ => rfl)) rfl
  case hb => walk_at "l"
  case hz => rw [List.length_map]; show _ + 1 ≤ 1000000; omega
  rw [es]
  have s2 : F_shSs [.lst ((shs8 ns ++ [[]]).map shD)] (ok (.str (shsT (shs8 ns ++ [[]])))) := ⟨_, rfl, by omega, hso, rfl⟩
  have pls := pl_shs (shs8 ns ++ [[]])
  generalize shs8 ns ++ [[]] = L at *
  refine' dss_freeze (ds := L.map shD) 11 rfl ?_
  refine' dss_cons (ds_setLc (lv := true) 12 [("_law_share", 15)] L shD (fun s => shD s) (fun _ => true) rfl rfl (of_decide_eq_true rfl) rfl rfl rfl rfl (dit_list ?hl2) (anyS_ok rfl) (by omega) (.inl rfl) ?he2 ?hP2 ?hf2)
  case hf2 => intro _ _; rfl
  case hl2 => walk_at "l"
  case he2 =>
    intro s _
    exact ⟨_, _, dgc_nm rfl rfl rfl, dts_nil, fun _ => ⟨by walk_at "e", rfl⟩⟩
  case hP2 =>
  have eL : (L.filter fun _ => true).map (fun s => shD s) = L.map shD := by rw [List.filter_eq_self.mpr fun _ _ => rfl]
  rw [eL]
  walk_at "let"
  refine' dss_one (ds_ret (r := .val (.bl (true && (decide (shsT L = shsT L) && true)))) (de_and ?ha (fun _ => de_and ?hb (fun _ => de_one (de_eqD (x := true) (da := .lst (L.map shD)) 3 ?hc ?hd pls pls ⟨fun _ => rfl, fun _ => rfl⟩ (by decide))))) ?hp)
  case ha => walk_at "e"
  case hb => walk_at "e"
  case hc => walk_at "l"
  case hd => walk_at "l"
  case hp => rw [decide_eq_true rfl]; rfl
end
end BK
namespace BK
open PySem PySem.Spec PyProof.Rows L2
/-! ## the end -/
def d_is_whole : He.DefD := ⟨("is_whole", none), "is_whole", "is_whole", defArgs s_is_whole, defBody s_is_whole, defScope s_is_whole, [], []⟩
def d_lay : He.DefD := ⟨("lay", none), "lay", "lay", defArgs s_lay, defBody s_lay, defScope s_lay, [], []⟩
def d_tidy : He.DefD := ⟨("tidy", none), "tidy", "tidy", defArgs s_tidy, defBody s_tidy, defScope s_tidy, [], []⟩
def d_shown : He.DefD := ⟨("shown", none), "shown", "shown", defArgs s_shown, defBody s_shown, defScope s_shown, [], []⟩
def d_number_of : He.DefD := ⟨("number_of", none), "number_of", "number_of", defArgs s_number_of, defBody s_number_of, defScope s_number_of, [], []⟩
def d_stretch_of : He.DefD := ⟨("stretch_of", none), "stretch_of", "stretch_of", defArgs s_stretch_of, defBody s_stretch_of, defScope s_stretch_of, [], []⟩
def d_read : He.DefD := ⟨("read", none), "read", "read", defArgs s_read, defBody s_read, defScope s_read, [], []⟩
def d_shown_share : He.DefD := ⟨("shown_share", none), "shown_share", "shown_share", defArgs s_shown_share, defBody s_shown_share, defScope s_shown_share, [], []⟩
def d_shown_shares : He.DefD := ⟨("shown_shares", none), "shown_shares", "shown_shares", defArgs s_shown_shares, defBody s_shown_shares, defScope s_shown_shares, [], []⟩
def d_law_cell_at : He.DefD := ⟨("_law_cell_at", none), "_law_cell_at", "_law_cell_at", defArgs s_law_cell_at, defBody s_law_cell_at, defScope s_law_cell_at, [], []⟩
def d_law_whole : He.DefD := ⟨("_law_whole", none), "_law_whole", "_law_whole", defArgs s_law_whole, defBody s_law_whole, defScope s_law_whole, [], []⟩
def d_law_row : He.DefD := ⟨("_law_row", none), "_law_row", "_law_row", defArgs s_law_row, defBody s_law_row, defScope s_law_row, [], []⟩
def d_law_tidy : He.DefD := ⟨("_law_tidy", none), "_law_tidy", "_law_tidy", defArgs s_law_tidy, defBody s_law_tidy, defScope s_law_tidy, [], []⟩
def d_law_text : He.DefD := ⟨("_law_text", none), "_law_text", "_law_text", defArgs s_law_text, defBody s_law_text, defScope s_law_text, [], []⟩
def d_law_sign : He.DefD := ⟨("_law_sign", none), "_law_sign", "_law_sign", defArgs s_law_sign, defBody s_law_sign, defScope s_law_sign, [], []⟩
def d_law_odd_part : He.DefD := ⟨("_law_odd_part", none), "_law_odd_part", "_law_odd_part", defArgs s_law_odd_part, defBody s_law_odd_part, defScope s_law_odd_part, [], []⟩
def d_law_spoilt : He.DefD := ⟨("_law_spoilt", none), "_law_spoilt", "_law_spoilt", defArgs s_law_spoilt, defBody s_law_spoilt, defScope s_law_spoilt, [], []⟩
def d_law_number : He.DefD := ⟨("_law_number", none), "_law_number", "_law_number", defArgs s_law_number, defBody s_law_number, defScope s_law_number, [], []⟩
def d_law_read : He.DefD := ⟨("_law_read", none), "_law_read", "_law_read", defArgs s_law_read, defBody s_law_read, defScope s_law_read, [], []⟩
def d_law_asked : He.DefD := ⟨("_law_asked", none), "_law_asked", "_law_asked", defArgs s_law_asked, defBody s_law_asked, defScope s_law_asked, [], []⟩
def d_law_bank : He.DefD := ⟨("_law_bank", none), "_law_bank", "_law_bank", defArgs s_law_bank, defBody s_law_bank, defScope s_law_bank, [], []⟩
def d_law_refused : He.DefD := ⟨("_law_refused", none), "_law_refused", "_law_refused", defArgs s_law_refused, defBody s_law_refused, defScope s_law_refused, [], []⟩
def d_law_shares : He.DefD := ⟨("_law_shares", none), "_law_shares", "_law_shares", defArgs s_law_shares, defBody s_law_shares, defScope s_law_shares, [], []⟩
def d_law_shares_text : He.DefD := ⟨("_law_shares_text", none), "_law_shares_text", "_law_shares_text", defArgs s_law_shares_text, defBody s_law_shares_text, defScope s_law_shares_text, [], []⟩
def d_law : He.DefD := ⟨("law", none), "law", "law", defArgs s_law, defBody s_law, defScope s_law, [], []⟩
abbrev s_NoText_init : Stmt := inClass (topS 8) 0
theorem sc_NoText_init : FnScope ["self", "place"] ["self", "place"] (defScope s_NoText_init) := ⟨rfl, rfl, rfl, by decide +kernel, rfl, by decide +kernel, by decide +kernel⟩
def d_NoText_init : He.DefD := ⟨("NoText", some "__init__"), "__init__", "NoText.__init__", defArgs s_NoText_init, defBody s_NoText_init, defScope s_NoText_init, [], []⟩
def fn : List He.DefD := [d_is_whole, d_lay, d_tidy, d_shown, d_number_of, d_stretch_of, d_read, d_shown_share, d_shown_shares, d_law_cell_at, d_law_whole, d_law_row, d_law_tidy, d_law_text, d_law_sign, d_law_odd_part, d_law_spoilt, d_law_number, d_law_read, d_law_asked, d_law_bank, d_law_refused, d_law_shares, d_law_shares_text, d_law, d_NoText_init]
def fa : List He.Fa := [.glo "is_whole", .glo "lay", .glo "tidy", .glo "shown", .glo "number_of", .glo "stretch_of", .glo "read", .glo "shown_share", .glo "shown_shares", .glo "_law_cell_at", .glo "_law_whole", .glo "_law_row", .glo "_law_tidy", .glo "_law_text", .glo "_law_sign", .glo "_law_odd_part", .glo "_law_spoilt", .glo "_law_number", .glo "_law_read", .glo "_law_asked", .glo "_law_bank", .glo "_law_refused", .glo "_law_shares", .glo "_law_shares_text", .glo "law", .glo "BankError", .glo "NoText", .glo "GROUNDS", .glo "NoGround", .glo "NoHeirs", .glo "NoLength", .glo "Odd", .glo "OffBank", .glo "Uneven", .free "sum", .free "max", .free "min", .free "len", .free "isinstance", .free "int", .free "bool", .free "tuple", .free "list", .free "range", .free "enumerate", .free "str", .free "ValueError", .str "FIGURES" "0123456789", .int "MOST_FIGURES" 60]
def xb (K : PySem.W.Frag) : Bool := (oexB K (He.ga K "NoText")) && (He.eqO (PySem.W.findIn K (.ref (He.ga K "NoText")) "place") (some none)) && (He.eqO (PySem.W.findIn K (.ref (He.ga K "NoText")) "__init__") (some (some (.ref (He.ma K (He.ga K "NoText") "__init__"))))) && (decide (PySem.W.typeIn K (.ref (He.ma K (He.ga K "NoText") "__init__")) = some (.type "function"))) && (exB K (He.ga K "NoText")) && (xfB K (He.ga K "NoText")) && (decide (PySem.W.exmOne K (.ref (He.ga K "NoText")) (.ref (He.ga K "BankError")) = some true)) && (decide (PySem.W.kitOne K (.ref (He.ga K "NoText")) (.type "ValueError") = some true)) && (decide (PySem.W.kitOne K (.ref (He.ga K "NoText")) (.ref (He.ga K "NoText")) = some true)) && (decide (PySem.W.kitAny K (.ref (He.ga K "NoText")) [.ref (He.ga K "NoGround"), .ref (He.ga K "NoHeirs"), .ref (He.ga K "NoLength"), .ref (He.ga K "Odd"), .ref (He.ga K "OffBank"), .ref (He.ga K "Uneven")] = some false)) && (He.tupB K "GROUNDS" [.str "dry", .str "wet"])
theorem facts {P : Program} {w : World} {K : PySem.W.Frag} {h : Heap} {mg : Str → Option Value} {f : Addr} (X : K.In h) (G : h.Ns mainGlobals mg) (hfa : mg ("law" : Str) = some (.ref f)) (c : He.SaysD fa fn K) (x : xb K = true) :
    ∃ fd : FuncData, (∀ (s : Shared) (v : Value), BindsTo s fd ⟨[v], []⟩ [("_law_script", v)]) ∧ ∀ base : Heap, K.In base → base.Ns mainGlobals mg → FnOk P w K mg base (L2.CX P w) 25 f fd ["_law_script"] (spOf K F_law) := by
  have g_is_whole := He.glo_ok X G (c.fact 0 (f := .glo "is_whole") rfl)
  have g_lay := He.glo_ok X G (c.fact 1 (f := .glo "lay") rfl)
  have g_tidy := He.glo_ok X G (c.fact 2 (f := .glo "tidy") rfl)
  have g_shown := He.glo_ok X G (c.fact 3 (f := .glo "shown") rfl)
  have g_number_of := He.glo_ok X G (c.fact 4 (f := .glo "number_of") rfl)
  have g_stretch_of := He.glo_ok X G (c.fact 5 (f := .glo "stretch_of") rfl)
  have g_read := He.glo_ok X G (c.fact 6 (f := .glo "read") rfl)
  have g_shown_share := He.glo_ok X G (c.fact 7 (f := .glo "shown_share") rfl)
  have g_shown_shares := He.glo_ok X G (c.fact 8 (f := .glo "shown_shares") rfl)
  have g_law_cell_at := He.glo_ok X G (c.fact 9 (f := .glo "_law_cell_at") rfl)
  have g_law_whole := He.glo_ok X G (c.fact 10 (f := .glo "_law_whole") rfl)
  have g_law_row := He.glo_ok X G (c.fact 11 (f := .glo "_law_row") rfl)
  have g_law_tidy := He.glo_ok X G (c.fact 12 (f := .glo "_law_tidy") rfl)
  have g_law_text := He.glo_ok X G (c.fact 13 (f := .glo "_law_text") rfl)
  have g_law_sign := He.glo_ok X G (c.fact 14 (f := .glo "_law_sign") rfl)
  have g_law_odd_part := He.glo_ok X G (c.fact 15 (f := .glo "_law_odd_part") rfl)
  have g_law_spoilt := He.glo_ok X G (c.fact 16 (f := .glo "_law_spoilt") rfl)
  have g_law_number := He.glo_ok X G (c.fact 17 (f := .glo "_law_number") rfl)
  have g_law_read := He.glo_ok X G (c.fact 18 (f := .glo "_law_read") rfl)
  have g_law_asked := He.glo_ok X G (c.fact 19 (f := .glo "_law_asked") rfl)
  have g_law_bank := He.glo_ok X G (c.fact 20 (f := .glo "_law_bank") rfl)
  have g_law_refused := He.glo_ok X G (c.fact 21 (f := .glo "_law_refused") rfl)
  have g_law_shares := He.glo_ok X G (c.fact 22 (f := .glo "_law_shares") rfl)
  have g_law_shares_text := He.glo_ok X G (c.fact 23 (f := .glo "_law_shares_text") rfl)
  have g_law := He.glo_ok X G (c.fact 24 (f := .glo "law") rfl)
  have g_BankError := He.glo_ok X G (c.fact 25 (f := .glo "BankError") rfl)
  have g_NoText := He.glo_ok X G (c.fact 26 (f := .glo "NoText") rfl)
  have g_GROUNDS := He.glo_ok X G (c.fact 27 (f := .glo "GROUNDS") rfl)
  have g_NoGround := He.glo_ok X G (c.fact 28 (f := .glo "NoGround") rfl)
  have g_NoHeirs := He.glo_ok X G (c.fact 29 (f := .glo "NoHeirs") rfl)
  have g_NoLength := He.glo_ok X G (c.fact 30 (f := .glo "NoLength") rfl)
  have g_Odd := He.glo_ok X G (c.fact 31 (f := .glo "Odd") rfl)
  have g_OffBank := He.glo_ok X G (c.fact 32 (f := .glo "OffBank") rfl)
  have g_Uneven := He.glo_ok X G (c.fact 33 (f := .glo "Uneven") rfl)
  have n_sum := He.free_ok X G (c.fact 34 (f := .free "sum") rfl)
  have n_max := He.free_ok X G (c.fact 35 (f := .free "max") rfl)
  have n_min := He.free_ok X G (c.fact 36 (f := .free "min") rfl)
  have n_len := He.free_ok X G (c.fact 37 (f := .free "len") rfl)
  have n_isinstance := He.free_ok X G (c.fact 38 (f := .free "isinstance") rfl)
  have n_int := He.free_ok X G (c.fact 39 (f := .free "int") rfl)
  have n_bool := He.free_ok X G (c.fact 40 (f := .free "bool") rfl)
  have n_tuple := He.free_ok X G (c.fact 41 (f := .free "tuple") rfl)
  have n_list := He.free_ok X G (c.fact 42 (f := .free "list") rfl)
  have n_range := He.free_ok X G (c.fact 43 (f := .free "range") rfl)
  have n_enumerate := He.free_ok X G (c.fact 44 (f := .free "enumerate") rfl)
  have n_str := He.free_ok X G (c.fact 45 (f := .free "str") rfl)
  have n_ValueError := He.free_ok X G (c.fact 46 (f := .free "ValueError") rfl)
  have k_FIGURES := He.str_ok X G (c.fact 47 (f := .str "FIGURES" "0123456789") rfl)
  have k_MOST_FIGURES := He.int_ok X G (c.fact 48 (f := .int "MOST_FIGURES" 60) rfl)
  obtain ⟨fd0, E0⟩ := c.def_ 0 (d := d_is_whole) rfl
  have F0 := fun_of (st := s_is_whole) E0
  have b0 := F0.binds (ps := ["thing"]) fun _ _ _ _ _ _ us hl => match us, hl with | [_], _ => rfl
  obtain ⟨fd1, E1⟩ := c.def_ 1 (d := d_lay) rfl
  have F1 := fun_of (st := s_lay) E1
  have b1 := F1.binds (ps := ["bank", "ground", "long"]) fun _ _ _ _ _ _ us hl => match us, hl with | [_, _, _], _ => rfl
  obtain ⟨fd2, E2⟩ := c.def_ 2 (d := d_tidy) rfl
  have F2 := fun_of (st := s_tidy) E2
  have b2 := F2.binds (ps := ["rows"]) fun _ _ _ _ _ _ us hl => match us, hl with | [_], _ => rfl
  obtain ⟨fd3, E3⟩ := c.def_ 3 (d := d_shown) rfl
  have F3 := fun_of (st := s_shown) E3
  have b3 := F3.binds (ps := ["bank"]) fun _ _ _ _ _ _ us hl => match us, hl with | [_], _ => rfl
  obtain ⟨fd4, E4⟩ := c.def_ 4 (d := d_number_of) rfl
  have F4 := fun_of (st := s_number_of) E4
  have b4 := F4.binds (ps := ["word"]) fun _ _ _ _ _ _ us hl => match us, hl with | [_], _ => rfl
  obtain ⟨fd5, E5⟩ := c.def_ 5 (d := d_stretch_of) rfl
  have F5 := fun_of (st := s_stretch_of) E5
  have b5 := F5.binds (ps := ["part"]) fun _ _ _ _ _ _ us hl => match us, hl with | [_], _ => rfl
  obtain ⟨fd6, E6⟩ := c.def_ 6 (d := d_read) rfl
  have F6 := fun_of (st := s_read) E6
  have b6 := F6.binds (ps := ["text"]) fun _ _ _ _ _ _ us hl => match us, hl with | [_], _ => rfl
  obtain ⟨fd7, E7⟩ := c.def_ 7 (d := d_shown_share) rfl
  have F7 := fun_of (st := s_shown_share) E7
  have b7 := F7.binds (ps := ["share"]) fun _ _ _ _ _ _ us hl => match us, hl with | [_], _ => rfl
  obtain ⟨fd8, E8⟩ := c.def_ 8 (d := d_shown_shares) rfl
  have F8 := fun_of (st := s_shown_shares) E8
  have b8 := F8.binds (ps := ["shares"]) fun _ _ _ _ _ _ us hl => match us, hl with | [_], _ => rfl
  obtain ⟨fd9, E9⟩ := c.def_ 9 (d := d_law_cell_at) rfl
  have F9 := fun_of (st := s_law_cell_at) E9
  have b9 := F9.binds (ps := ["_law_script", "_law_k"]) fun _ _ _ _ _ _ us hl => match us, hl with | [_, _], _ => rfl
  obtain ⟨fd10, E10⟩ := c.def_ 10 (d := d_law_whole) rfl
  have F10 := fun_of (st := s_law_whole) E10
  have b10 := F10.binds (ps := ["_law_found"]) fun _ _ _ _ _ _ us hl => match us, hl with | [_], _ => rfl
  obtain ⟨fd11, E11⟩ := c.def_ 11 (d := d_law_row) rfl
  have F11 := fun_of (st := s_law_row) E11
  have b11 := F11.binds (ps := ["_law_cell"]) fun _ _ _ _ _ _ us hl => match us, hl with | [_], _ => rfl
  obtain ⟨fd12, E12⟩ := c.def_ 12 (d := d_law_tidy) rfl
  have F12 := fun_of (st := s_law_tidy) E12
  have b12 := F12.binds (ps := ["_law_rows"]) fun _ _ _ _ _ _ us hl => match us, hl with | [_], _ => rfl
  obtain ⟨fd13, E13⟩ := c.def_ 13 (d := d_law_text) rfl
  have F13 := fun_of (st := s_law_text) E13
  have b13 := F13.binds (ps := ["_law_rows"]) fun _ _ _ _ _ _ us hl => match us, hl with | [_], _ => rfl
  obtain ⟨fd14, E14⟩ := c.def_ 14 (d := d_law_sign) rfl
  have F14 := fun_of (st := s_law_sign) E14
  have b14 := F14.binds (ps := ["_law_cell"]) fun _ _ _ _ _ _ us hl => match us, hl with | [_], _ => rfl
  obtain ⟨fd15, E15⟩ := c.def_ 15 (d := d_law_odd_part) rfl
  have F15 := fun_of (st := s_law_odd_part) E15
  have b15 := F15.binds (ps := ["_law_cell"]) fun _ _ _ _ _ _ us hl => match us, hl with | [_], _ => rfl
  obtain ⟨fd16, E16⟩ := c.def_ 16 (d := d_law_spoilt) rfl
  have F16 := fun_of (st := s_law_spoilt) E16
  have b16 := F16.binds (ps := ["_law_text_here", "_law_parts", "_law_script"]) fun _ _ _ _ _ _ us hl => match us, hl with | [_, _, _], _ => rfl
  obtain ⟨fd17, E17⟩ := c.def_ 17 (d := d_law_number) rfl
  have F17 := fun_of (st := s_law_number) E17
  have b17 := F17.binds (ps := ["_law_word"]) fun _ _ _ _ _ _ us hl => match us, hl with | [_], _ => rfl
  obtain ⟨fd18, E18⟩ := c.def_ 18 (d := d_law_read) rfl
  have F18 := fun_of (st := s_law_read) E18
  have b18 := F18.binds (ps := ["_law_text_here"]) fun _ _ _ _ _ _ us hl => match us, hl with | [_], _ => rfl
  obtain ⟨fd19, E19⟩ := c.def_ 19 (d := d_law_asked) rfl
  have F19 := fun_of (st := s_law_asked) E19
  have b19 := F19.binds (ps := ["_law_thing"]) fun _ _ _ _ _ _ us hl => match us, hl with | [_], _ => rfl
  obtain ⟨fd20, E20⟩ := c.def_ 20 (d := d_law_bank) rfl
  have F20 := fun_of (st := s_law_bank) E20
  have b20 := F20.binds (ps := ["_law_found", "_law_due"]) fun _ _ _ _ _ _ us hl => match us, hl with | [_, _], _ => rfl
  obtain ⟨fd21, E21⟩ := c.def_ 21 (d := d_law_refused) rfl
  have F21 := fun_of (st := s_law_refused) E21
  have b21 := F21.binds (ps := ["_law_found", "_law_place"]) fun _ _ _ _ _ _ us hl => match us, hl with | [_, _], _ => rfl
  obtain ⟨fd22, E22⟩ := c.def_ 22 (d := d_law_shares) rfl
  have F22 := fun_of (st := s_law_shares) E22
  have b22 := F22.binds (ps := ["_law_script"]) fun _ _ _ _ _ _ us hl => match us, hl with | [_], _ => rfl
  obtain ⟨fd23, E23⟩ := c.def_ 23 (d := d_law_shares_text) rfl
  have F23 := fun_of (st := s_law_shares_text) E23
  have b23 := F23.binds (ps := ["_law_shares_here"]) fun _ _ _ _ _ _ us hl => match us, hl with | [_], _ => rfl
  obtain ⟨fd24, E24⟩ := c.def_ 24 (d := d_law) rfl
  have F24 := fun_of (st := s_law) E24
  obtain ⟨fdI_NoText, EI_NoText⟩ := c.def_ 25 (d := d_NoText_init) rfl
  have FI_NoText := fun_of (st := s_NoText_init) EI_NoText
  have bI_NoText := FI_NoText.binds (ps := ["self", "place"]) fun _ _ _ _ _ _ us hl => match us, hl with | [_, _], _ => rfl
  have e := hfa.symm.trans g_law
  cases e
  refine ⟨fd24, fun s v => (FunD.bindsA (ps := ["_law_script"]) E24 fun _ _ _ _ _ _ us hl => match us, hl with | [_], _ => rfl) s [v] rfl, fun base _ _ => ?_⟩
  let M : Nat → Mo := fun k => ⟨P, w, K, mg, base, k⟩
  have T : ∀ k, Nn (M k) := fun k => ⟨n_sum, n_max, n_min, n_len, n_isinstance, n_int, n_bool, n_tuple, n_list, n_range⟩
  obtain ⟨y, w11⟩ := He.ba x
  obtain ⟨y, w10⟩ := He.ba y
  obtain ⟨y, w9⟩ := He.ba y
  obtain ⟨y, w8⟩ := He.ba y
  obtain ⟨y, w7⟩ := He.ba y
  obtain ⟨y, w6⟩ := He.ba y
  obtain ⟨y, w5⟩ := He.ba y
  obtain ⟨y, w4⟩ := He.ba y
  obtain ⟨y, w3⟩ := He.ba y
  obtain ⟨w1, w2⟩ := He.ba y
  have OT : OexC K (He.ga K "NoText") := oexB_ok w1
  have GI := ok_init (P := P) (w := w) (mg := mg) (base := base) (k := 0) rfl sc_NoText_init rfl rfl rfl rfl FI_NoText OT (He.eqO_ok w2)
  have X1 : ∀ k, 2 ≤ k → Exc1 (M k) "NoText" (He.ga K "NoText") "place" := fun k hk => ⟨g_NoText, OT, _, 1, _, _, He.eqO_ok w3, of_decide_eq_true w4, GI, hk, bI_NoText⟩
  have E : ∀ k, Er8 (M k) (He.ga K "NoText") (oth08 (He.ga K "NoGround") (He.ga K "NoHeirs") (He.ga K "NoLength") (He.ga K "Odd") (He.ga K "OffBank") (He.ga K "Uneven")) := fun k => ⟨⟨_, g_BankError, of_decide_eq_true w7⟩, n_ValueError, g_NoText, exB_ok w5, xfB_ok w6, He.eqO_ok w2, of_decide_eq_true w8, of_decide_eq_true w9, of_decide_eq_true w10, fun p hp => by
    simp only [oth08, List.mem_cons, List.not_mem_nil, or_false] at hp
    rcases hp with rfl | rfl | rfl | rfl | rfl | rfl <;> assumption⟩
  have tG : SqT K (fun _ => none) (He.ga K "GROUNDS") [V.str "dry", V.str "wet"] := He.tupB_ok w11 _
  have G0 := ok_is_whole (M := (M 0)) (T 0) F0
  have C_is_whole : ∀ k, 1 ≤ k → Cal (M k) "is_whole" (F_isw) := fun k hk => Callee.mk' (M := M k) G0 hk g_is_whole F0.kp b0
  have G1 := ok_lay (M := (M 1)) (T 1) F1
  have C_lay : ∀ k, 2 ≤ k → CalJ (M k) "lay" (F_lay) := fun k hk => ⟨⟨_, _, _, G1.mono hk, g_lay, F1.kp, b1⟩⟩
  have G2 := ok_tidy (M := (M 2)) n_enumerate g_GROUNDS tG (C_is_whole 2 (by decide)) (C_lay 2 (by decide)) F2
  have C_tidy : ∀ k, 3 ≤ k → Cal (M k) "tidy" (F_tidy) := fun k hk => Callee.mk' (M := M k) G2 hk g_tidy F2.kp b2
  have G3 := ok_shown (M := (M 3)) F3
  have C_shown : ∀ k, 4 ≤ k → Cal (M k) "shown" (F_shown) := fun k hk => Callee.mk' (M := M k) G3 hk g_shown F3.kp b3
  have G4 := ok_number_of (M := (M 4)) (T 4) k_FIGURES k_MOST_FIGURES F4
  have C_number_of : ∀ k, 5 ≤ k → Cal (M k) "number_of" (F_num) := fun k hk => Callee.mk' (M := M k) G4 hk g_number_of F4.kp b4
  have G5 := ok_stretch_of (M := (M 5)) (T 5) g_GROUNDS tG (C_number_of 5 (by decide)) F5
  have C_stretch_of : ∀ k, 6 ≤ k → Cal (M k) "stretch_of" (F_stretch) := fun k hk => Callee.mk' (M := M k) G5 hk g_stretch_of F5.kp b5
  have G6 := ok_read (M := (M 6)) (T 6) n_str n_enumerate (X1 6 (by decide)) (C_stretch_of 6 (by decide)) (C_tidy 6 (by decide)) F6
  have C_read : ∀ k, 7 ≤ k → Cal (M k) "read" (F_read (He.ga K "NoText")) := fun k hk => Callee.mk' (M := M k) G6 hk g_read F6.kp b6
  have G7 := ok_shown_share (M := (M 7)) F7
  have C_shown_share : ∀ k, 8 ≤ k → Cal (M k) "shown_share" (F_shS) := fun k hk => Callee.mk' (M := M k) G7 hk g_shown_share F7.kp b7
  have G8 := ok_shown_shares (M := (M 8)) (C_shown_share 8 (by decide)) F8
  have C_shown_shares : ∀ k, 9 ≤ k → Cal (M k) "shown_shares" (F_shSs) := fun k hk => Callee.mk' (M := M k) G8 hk g_shown_shares F8.kp b8
  have G9 := ok_law_cell_at (M := (M 9)) (T 9) F9
  have C_law_cell_at : ∀ k, 10 ≤ k → Cal (M k) "_law_cell_at" (F_cell) := fun k hk => Callee.mk' (M := M k) G9 hk g_law_cell_at F9.kp b9
  have G10 := ok_law_whole (M := (M 10)) (T 10) F10
  have C_law_whole : ∀ k, 11 ≤ k → Cal (M k) "_law_whole" (F_whole) := fun k hk => Callee.mk' (M := M k) G10 hk g_law_whole F10.kp b10
  have G11 := ok_law_row (M := (M 11)) F11
  have C_law_row : ∀ k, 12 ≤ k → Cal (M k) "_law_row" (F_row) := fun k hk => Callee.mk' (M := M k) G11 hk g_law_row F11.kp b11
  have G12 := ok_law_tidy (M := (M 12)) F12
  have C_law_tidy : ∀ k, 13 ≤ k → Cal (M k) "_law_tidy" (F_due) := fun k hk => Callee.mk' (M := M k) G12 hk g_law_tidy F12.kp b12
  have G13 := ok_law_text (M := (M 13)) (T 13) n_str F13
  have C_law_text : ∀ k, 14 ≤ k → Cal (M k) "_law_text" (F_shown) := fun k hk => Callee.mk' (M := M k) G13 hk g_law_text F13.kp b13
  have G14 := ok_law_sign (M := (M 14)) (T 14) F14
  have C_law_sign : ∀ k, 15 ≤ k → Cal (M k) "_law_sign" (F_sign) := fun k hk => Callee.mk' (M := M k) G14 hk g_law_sign F14.kp b14
  have G15 := ok_law_odd_part (M := (M 15)) (T 15) F15
  have C_law_odd_part : ∀ k, 16 ≤ k → Cal (M k) "_law_odd_part" (F_oddP) := fun k hk => Callee.mk' (M := M k) G15 hk g_law_odd_part F15.kp b15
  have G16 := ok_law_spoilt (M := (M 16)) (T 16) (C_law_cell_at 16 (by decide)) (C_law_sign 16 (by decide)) (C_law_odd_part 16 (by decide)) F16
  have C_law_spoilt : ∀ k, 17 ≤ k → Cal (M k) "_law_spoilt" (F_spoilt) := fun k hk => Callee.mk' (M := M k) G16 hk g_law_spoilt F16.kp b16
  have G17 := ok_law_number (M := (M 17)) (T 17) F17
  have C_law_number : ∀ k, 18 ≤ k → Cal (M k) "_law_number" (F_num) := fun k hk => Callee.mk' (M := M k) G17 hk g_law_number F17.kp b17
  have G18 := ok_law_read (M := (M 18)) (T 18) (C_law_number 18 (by decide)) F18
  have C_law_read : ∀ k, 19 ≤ k → Cal (M k) "_law_read" (F_lread) := fun k hk => Callee.mk' (M := M k) G18 hk g_law_read F18.kp b18
  have G19 := ok_law_asked (M := (M 19)) (T 19) (E 19) (C_read 19 (by decide)) F19
  have C_law_asked : ∀ k, 20 ≤ k → Cal (M k) "_law_asked" (F_asked) := fun k hk => Callee.mk' (M := M k) G19 hk g_law_asked F19.kp b19
  have G20 := ok_law_bank (M := (M 20)) (T 20) n_str (C_law_whole 20 (by decide)) F20
  have C_law_bank : ∀ k, 21 ≤ k → Cal (M k) "_law_bank" (F_lbank) := fun k hk => Callee.mk' (M := M k) G20 hk g_law_bank F20.kp b20
  have G21 := ok_law_refused (M := (M 21)) (T 21) (C_law_whole 21 (by decide)) F21
  have C_law_refused : ∀ k, 22 ≤ k → Cal (M k) "_law_refused" (F_ref8) := fun k hk => Callee.mk' (M := M k) G21 hk g_law_refused F21.kp b21
  have G22 := ok_law_shares (M := (M 22)) (T 22) F22
  have C_law_shares : ∀ k, 23 ≤ k → Cal (M k) "_law_shares" (F_lsh) := fun k hk => Callee.mk' (M := M k) G22 hk g_law_shares F22.kp b22
  have G23 := ok_law_shares_text (M := (M 23)) (T 23) n_str F23
  have C_law_shares_text : ∀ k, 24 ≤ k → Cal (M k) "_law_shares_text" (F_shSs) := fun k hk => Callee.mk' (M := M k) G23 hk g_law_shares_text F23.kp b23
  have G24 := ok_law (M := (M 24)) (T 24) n_str (C_law_cell_at 24 (by decide)) (C_law_row 24 (by decide)) (C_law_tidy 24 (by decide)) (C_law_text 24 (by decide)) (C_law_spoilt 24 (by decide)) (C_law_read 24 (by decide)) (C_law_asked 24 (by decide)) (C_law_bank 24 (by decide)) (C_law_refused 24 (by decide)) (C_shown 24 (by decide)) (C_law_shares 24 (by decide)) (C_shown_shares 24 (by decide)) (C_law_shares_text 24 (by decide)) F24
  exact G24
theorem law_all (ns : List Int) (h : ns.length ≤ 63) : F_law [.scr ns] (.ok (.val (.bl true))) := ⟨ns, rfl, h, rfl⟩
end BK
open PySem PySem.W PyProof.Rows in
set_option maxRecDepth 100000 in
set_option maxHeartbeats 0 in
theorem PySem.Challenge.cw_bankshare_k08_texts_holds : PySem.Challenge.rw_bankshare_k08_texts.Holds := by
  w_on; o_law; k_head; (case hw => w_witness2)
  k_fill
  refine L2.walk_of (l := PySem.Challenge.rw_bankshare_k08_texts) (n := 63) (k := 25) (x := "_law_script") (CX := fun w => L2.CX (PySem.Challenge.rw_bankshare_k08_texts).prog w) (sp := fun w => BK.spOf _ BK.F_law) rfl (by decide) rfl ⟨rfl, by decide, by decide⟩ (fun w h Y => PySem.W.kIn_of Y) ?F (fun _ _ a ns hl hO hS => BK.sp_law BK.law_all hl hO hS) (fun w H s e s' => BK.cx_none)
  case F =>
    intro w mg fa h KX G hmg
    exact BK.facts KX G hmg (by unfold He.SaysD; kernel_rfl) (by kernel_rfl)
